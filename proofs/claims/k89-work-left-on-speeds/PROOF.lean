import PyProof.Rows.All
import Wide.All
import OpenK.AllK
import Wide.FinOn
import HandS.ForMost
import HandS.Flow
import HandS.Walk
import HandS.Lambda
import HandS.Dict
import KE.KDictKeyed
import HandS.TupMul
import HandS.TupAny
import HandS.Rev
import HandS.Conv
import HandS.Deep
import HandS.IsInst
import HandS.SortInts
import HandS.Star
import KE.DataMinMax
import KE.SortKeyHeap
import HandS.SetFor
import KE.GoesEnum
import KE.GoesZip
import HandS.ExcOwn
import HandS.ExcValue
import HandS.Style
import HandS.Zip
import PyProof.TupleOfSeq
import KE.DataCmp
import HandS.Nested
import HandS.SortKw
import HandS.Keys
import HandS.EndOwn
import HandS.NestedK
import HandS.List
import HandS.RevTup
import PyProof.Walks
import HandS.More
import PyProof.ListCopy
import PyProof.Rows.ExtendIn
import HandS.ForDict
import KE.KDictDisplayH
import KE.KDictWalk
import KE.KDictSum
import HandS.DictComp
import HandS.Wide
import PyProof.SeqIndex
import PyProof.FactsAll.tuple
import HandS.Strs
import KE.KEqDict
import KE.KDictZip
import PySem.Challenge.RW_shoporders_k89_whole_work_left_on_speeds
set_option Elab.async false
set_option linter.all false
set_option maxRecDepth 100000
set_option maxHeartbeats 4000000
namespace DV
open PySem L2

abbrev D := PyData
/-- a dict: whether its keys are tuples; its pairs in the order of insertion -/
structure DC where
  t : Bool
  kv : List (D × D)
/-- what an expression gives: data; a list that is read where it stands; a new list; a new dict; the drawing row -/
inductive RV where
  | d (x : D) | b (ds : List D) | n (ds : List D) | gb (c : DC) | gn (c : DC) | row
/-- an error: its class's name, its field -/
structure Ex where
  c : Str
  f : Option (Str × D)
/-- where an error stands: its address, its class, its dict -/
structure Q3 where
  a : Addr
  cls : Value
  d : Option Addr
/-- a container within a container -/
inductive IC where
  | l (ds : List D) | g (c : DC) | f (c : DC)
/-- a list of containers, or a dict of them whose keys are ints -/
structure NC where
  ks : Option (List Int)
  xs : List IC
/-- what a name holds: data; a list of one's own; a list that may be read alone (the caller's, or one that a loop walks); the drawing row -/
inductive SV where
  | d (x : D) | o (ds : List D) | k (ds : List D) | g (c : DC) | un | row | ex (q : Q3) (e : Ex) | fn (x : Str) | lm | m (c : NC)
/-- things of one's own -/
def SV.ow : SV → Prop
  | .o _ => True
  | .g _ => True
  | _ => False
/-- the drawing row: the script, the place, the mixed number, the rest -/
structure RS where
  ns : List Int
  i : Nat
  s : Int
  c : Int
/-- the drawing row's address; the address of a lambda that was handed on -/
structure RA where
  row : Option Addr
  lam : Option Addr
abbrev Env := List (Option SV)

def M (α : Type) : Type := RS → Option (α × RS)
def ret {α : Type} (a : α) : M α := fun rs => some (a, rs)
def fail {α : Type} : M α := fun _ => none
def bnd {α β : Type} (m : M α) (k : α → M β) : M β := fun rs => match m rs with
  | none => none
  | some (a, rs') => k a rs'
def lft {α : Type} (o : Option α) : M α := match o with
  | none => fail
  | some a => ret a
instance : Monad M where
  pure := ret
  bind := bnd
theorem bnd_some {α β : Type} {m : M α} {k : α → M β} {rs : RS} {r : β × RS} (h : bnd m k rs = some r) : ∃ a rs', m rs = some (a, rs') ∧ k a rs' = some r := by
  unfold bnd at h
  cases e : m rs with
  | none => rw [e] at h; cases h
  | some p => rw [e] at h; exact ⟨p.1, p.2, rfl, h⟩
theorem lft_some {α : Type} {o : Option α} {rs : RS} {a : α} {rs' : RS} (h : lft o rs = some (a, rs')) : o = some a ∧ rs' = rs := by
  cases o with
  | none => cases h
  | some x => cases h; exact ⟨rfl, rfl⟩
theorem ret_some {α : Type} {x : α} {rs : RS} {a : α} {rs' : RS} (h : ret x rs = some (a, rs')) : x = a ∧ rs' = rs := by
  cases h; exact ⟨rfl, rfl⟩

end DV
namespace L2
open PySem
section
variable {K : PySem.W.Frag}
theorem ex_rdd {H H' : Hp} {a : Addr} {u : HO} (e : ∀ o, H a = some o → H' a = some o) (h : Rd H a u) : Rd H' a u := by
  rcases h with h | ⟨o, h⟩
  · exact Or.inl (e _ h)
  · exact Or.inr ⟨o, e _ h⟩
theorem ex_l {H H' : Hp} {a : Addr} {xs : List V} (e : ∀ o, H a = some o → H' a = some o) (h : SqL K H a xs) : SqL K H' a xs := by
  rcases h with h | h
  · exact Or.inl (ex_rdd e h)
  · exact Or.inr h
theorem ex_t {H H' : Hp} {a : Addr} {xs : List V} (e : ∀ o, H a = some o → H' a = some o) (h : SqT K H a xs) : SqT K H' a xs := by
  rcases h with h | h
  · exact Or.inl (ex_rdd e h)
  · exact Or.inr h
end
end L2
namespace DV
open PySem L2
/-- a tuple's object that has no dict of its own -/
def Exa (H : Hp) (a : Addr) : Prop := ∃ o u, H a = some (.frz o u) ∧ o.dict = none
theorem Exa.mono {F F' : Hp} {a : Addr} (e : ∀ a o, F a = some o → F' a = some o) (h : Exa F a) : Exa F' a := by
  obtain ⟨o, u, h1, h2⟩ := h
  exact ⟨o, u, e _ _ h1, h2⟩
/-- a new tuple -/
abbrev TupX (ob : Obj) (vs : List V) : HO := .frz ob (.tup vs)
mutual
/-- what stands for data: tuples without a dict of their own -/
inductive Dp (K : PySem.W.Frag) (H : Hp) : V → PyData → Prop
  | non : Dp K H .non .none
  | bl (b : Bool) : Dp K H (.bl b) (.bool b)
  | int (i : Int) : Dp K H (.int i) (.int i)
  | str (x : Str) : Dp K H (.str x) (.str x)
  | lst {a : Addr} {xs : List V} {ds : List PyData} : SqL K H a xs → DpAll K H xs ds → Dp K H (.ref a) (.list ds)
  | tup {a : Addr} {xs : List V} {ds : List PyData} : SqT K H a xs → DpAll K H xs ds → Exa H a → Dp K H (.ref a) (.tuple ds)
inductive DpAll (K : PySem.W.Frag) (H : Hp) : List V → List PyData → Prop
  | nil : DpAll K H [] []
  | cons {v : V} {vs : List V} {d : PyData} {ds : List PyData} : Dp K H v d → DpAll K H vs ds → DpAll K H (v :: vs) (d :: ds)
end
section
variable {K : PySem.W.Frag}
mutual
theorem Dp.kit {F : Hp} : ∀ (d : PyData) (v : V), Dp K F v d → L2.Dp K F v d
  | .none, _, h => by cases h; exact .non
  | .bool _, _, h => by cases h; exact .bl _
  | .int _, _, h => by cases h; exact .int _
  | .str _, _, h => by cases h; exact .str _
  | .list ds, _, h => by
    cases h with
    | lst hs ha => exact .lst hs (DpAll.kit ds _ ha)
  | .tuple ds, _, h => by
    cases h with
    | tup hs ha => exact .tup hs (DpAll.kit ds _ ha)
  | .dict _, _, h => by cases h
theorem DpAll.kit {F : Hp} : ∀ (ds : List PyData) (vs : List V), DpAll K F vs ds → L2.DpAll K F vs ds
  | [], _, h => by cases h; exact .nil
  | d :: ds, _, h => by
    cases h with
    | cons h1 h2 => exact .cons (Dp.kit d _ h1) (DpAll.kit ds _ h2)
end
theorem Dp.reads {X : Cx} {pins : List (Addr × Obj)} {σ : L2.St} {H : Hp} {s : Shared} (I : Inv X pins σ H s) (d : PyData) (v : V) (u : Value) (h : Dp X.K H v d) (r : RelV v u) : ∃ as, Reads s.heap u d as := L2.Dp.reads I d v u (h.kit d v) r
mutual
theorem Dp.mono {F F' : Hp} (e : ∀ a o, F a = some o → F' a = some o) : ∀ (d : PyData) (v : V), Dp K F v d → Dp K F' v d
  | .none, _, h => by cases h; exact .non
  | .bool _, _, h => by cases h; exact .bl _
  | .int _, _, h => by cases h; exact .int _
  | .str _, _, h => by cases h; exact .str _
  | .list ds, _, h => by
    cases h with
    | lst hs ha => exact .lst (ex_l (e _) hs) (Dp.monoA e ds _ ha)
  | .tuple ds, _, h => by
    cases h with
    | tup hs ha hx => exact .tup (ex_t (e _) hs) (Dp.monoA e ds _ ha) (hx.mono e)
  | .dict _, _, h => by cases h
theorem Dp.monoA {F F' : Hp} (e : ∀ a o, F a = some o → F' a = some o) : ∀ (ds : List PyData) (vs : List V), DpAll K F vs ds → DpAll K F' vs ds
  | [], _, h => by cases h; exact .nil
  | d :: ds, _, h => by
    cases h with
    | cons h1 h2 => exact .cons (Dp.mono e d _ h1) (Dp.monoA e ds _ h2)
end
theorem DpAll.len {F : Hp} : ∀ {vs : List V} {ds : List PyData}, DpAll K F vs ds → vs.length = ds.length
  | _, _, .nil => rfl
  | _, _, .cons _ h => congrArg (· + 1) (DpAll.len h)
theorem DpAll.get {F : Hp} : ∀ {vs : List V} {ds : List PyData} {i : Nat} {d : PyData}, DpAll K F vs ds → ds[i]? = some d → ∃ v, vs[i]? = some v ∧ Dp K F v d
  | _, _, _, _, .nil, h => by simp at h
  | _, _, 0, _, .cons h1 _, h => by
    simp at h; subst h
    exact ⟨_, rfl, h1⟩
  | _, _, i + 1, _, .cons _ h2, h => by
    simp at h
    obtain ⟨v, e, r⟩ := DpAll.get h2 h
    exact ⟨v, by simpa using e, r⟩
theorem DpAll.append {F : Hp} : ∀ {vs ws : List V} {ds es : List PyData}, DpAll K F vs ds → DpAll K F ws es → DpAll K F (vs ++ ws) (ds ++ es)
  | _, _, _, _, .nil, h => h
  | _, _, _, _, .cons h1 h2, h => .cons h1 (DpAll.append h2 h)
theorem DpAll.set {F : Hp} : ∀ {vs : List V} {ds : List PyData} (i : Nat) {v : V} {d : PyData}, DpAll K F vs ds → Dp K F v d → DpAll K F (vs.set i v) (ds.set i d)
  | _, _, _, _, _, .nil, _ => .nil
  | _, _, 0, _, _, .cons _ h2, h => .cons h h2
  | _, _, i + 1, _, _, .cons h1 h2, h => .cons h1 (DpAll.set i h2 h)
theorem DpAll.take {F : Hp} : ∀ (n : Nat) {vs : List V} {ds : List PyData}, DpAll K F vs ds → DpAll K F (vs.take n) (ds.take n)
  | 0, _, _, _ => .nil
  | n + 1, _, _, .nil => .nil
  | n + 1, _, _, .cons h1 h2 => .cons h1 (DpAll.take n h2)
theorem DpAll.drop {F : Hp} : ∀ (n : Nat) {vs : List V} {ds : List PyData}, DpAll K F vs ds → DpAll K F (vs.drop n) (ds.drop n)
  | 0, _, _, h => h
  | n + 1, _, _, .nil => .nil
  | n + 1, _, _, .cons h1 h2 => DpAll.drop n h2
theorem DpAll.rev {F : Hp} : ∀ {vs : List V} {ds : List PyData}, DpAll K F vs ds → DpAll K F vs.reverse ds.reverse
  | _, _, .nil => .nil
  | _, _, .cons h1 h2 => by
    rw [List.reverse_cons, List.reverse_cons]
    exact DpAll.append (DpAll.rev h2) (.cons h1 .nil)
theorem DpAll.rep {F : Hp} {vs : List V} {ds : List PyData} (h : DpAll K F vs ds) : ∀ n : Nat, DpAll K F (List.replicate n vs).flatten (List.replicate n ds).flatten
  | 0 => .nil
  | n + 1 => by
    rw [List.replicate_succ, List.flatten_cons, List.replicate_succ, List.flatten_cons]
    exact DpAll.append h (DpAll.rep h n)
end
end DV
namespace DV
open PySem L2
/-- ints among data -/
def intsOf : List D → Option (List Int)
  | [] => some []
  | .int i :: r => match intsOf r with
    | some js => some (i :: js)
    | none => none
  | _ => none
theorem ints_map : ∀ js : List Int, intsOf (js.map PyData.int) = some js
  | [] => rfl
  | j :: js => by
    show (match intsOf (js.map PyData.int) with | some js => some (j :: js) | none => none) = _
    rw [ints_map js]

section
variable {K : PySem.W.Frag}
theorem DpAll.intsV {F : Hp} : ∀ {vs : List V} {ds : List PyData} {js : List Int}, DpAll K F vs ds → DV.intsOf ds = some js → vs = js.map V.int
  | _, _, _, .nil, h => by cases h; rfl
  | _, d :: r, js, .cons h1 h2, h => by
    cases d with
    | int i =>
      unfold DV.intsOf at h
      cases e : DV.intsOf r with
      | none => rw [e] at h; cases h
      | some ks =>
        rw [e] at h
        cases h
        cases h1
        rw [DpAll.intsV h2 e]
        rfl
    | none => unfold DV.intsOf at h; cases h
    | bool _ => unfold DV.intsOf at h; cases h
    | str _ => unfold DV.intsOf at h; cases h
    | list _ => unfold DV.intsOf at h; cases h
    | tuple _ => unfold DV.intsOf at h; cases h
    | dict _ => unfold DV.intsOf at h; cases h
theorem DpAll.ofInts {F : Hp} : ∀ (js : List Int), DpAll K F (js.map V.int) (js.map PyData.int)
  | [] => .nil
  | j :: js => .cons (.int j) (DpAll.ofInts js)
end
section
variable {K : PySem.W.Frag}
/-- the defs that hold a lambda -/
def lamNames : List Str := ["due_order_in", "punctual_in", "within", "least_greatest", "plan_by", "due_plan", "short_plan", "unit_order", "longest_first", "short_lists", "unlike_sum", "by_rank", "names_of", "most_apart", "piercing", "heaviest_apart", "most_on", "heaviest_on", "fewest_machines", "johnson_order", "lag_order", "next_job", "by_rule", "free_gaps", "family_sum", "family_lateness", "two_owners", "short_order"]
def tabTo : Option Value → Option Value → Option (Addr × Str)
  | some (.str n _), some (.ref P) => if lamNames.elem n = true then some (P, n ++ ".<locals>.<lambda>") else none
  | _, _ => none
def tabOf (o : Obj) : Option (Addr × Str) := match o.data with
  | .fields vs => tabTo vs[1]? vs[11]?
  | _ => none
/-- the tables of the code objects that K tells, each with the one name that it may tell -/
def tabsOf : PySem.W.Frag → List (Addr × Str)
  | [] => []
  | (_, o) :: r => match tabOf o with
    | some p => p :: tabsOf r
    | none => tabsOf r
/-- what is never written anew: all but those tables -/
def Fx (K : PySem.W.Frag) (a : Addr) (o : HO) : Prop := (∀ ps, o ≠ .tbl ps) ∨ ∀ q, (a, q) ∉ tabsOf K
theorem Fx.lst {a : Addr} {vs : List V} : Fx K a (.lst vs) := .inl fun _ z => nomatch z
theorem Fx.tup {a : Addr} {vs : List V} : Fx K a (.tup vs) := .inl fun _ z => nomatch z
theorem Fx.tupX {a : Addr} {ob : Obj} {vs : List V} : Fx K a (TupX ob vs) := .inl fun _ z => nomatch z
structure RowOk (K : PySem.W.Frag) (R : RA) (rs : RS) (F H : Hp) : Prop where
  at_ : ∀ r, R.row = some r → ∃ a, H r = some (.lst [.ref a, .int (rs.i : Int), .int rs.s, .int rs.c]) ∧ SqL K F a (rs.ns.map V.int) ∧ rs.ns.length ≤ 63
  tab : LamX.Tabs (tabsOf K) H
  fnt : ∀ a o, F a = some o → Fx K a o
theorem RowOk.mono {K : PySem.W.Frag} {R : RA} {rs : RS} {F F' H : Hp} (h : RowOk K R rs F H) (k : ∀ a o, F a = some o → F' a = some o) (n : ∀ a o, F' a = some o → Fx K a o) : RowOk K R rs F' H :=
  ⟨fun r e => by
    obtain ⟨a, e1, h1, h2⟩ := h.at_ r e
    exact ⟨a, e1, ex_l (k _) h1, h2⟩, h.tab, n⟩
theorem tabs_at {T : List (Addr × Str)} {H : Hp} (t : LamX.Tabs T H) {a : Addr} {q : Str} (h : (a, q) ∈ T) : ∃ ps, H a = some (.tbl ps) := by
  obtain ⟨ps, e, _⟩ := t _ h
  exact ⟨ps, e⟩
theorem tabs_upd {T : List (Addr × Str)} {H : Hp} (t : LamX.Tabs T H) {a : Addr} {o : HO} (h : H a = none ∨ ∃ vs, H a = some (.lst vs)) : LamX.Tabs T (upd H a o) := fun p hp => by
  obtain ⟨ps, e, h2, h3⟩ := t p hp
  have ne : ∀ b u, H b = some u → (∀ vs, u ≠ .lst vs) → b ≠ a := fun b u e1 e2 z => by
    subst z
    rcases h with h | ⟨vs, h⟩
    · rw [h] at e1; cases e1
    · rw [h] at e1
      exact e2 vs (Option.some.inj e1).symm
  refine ⟨ps, by rw [upd_ne (ne _ _ e fun vs z => nomatch z)]; exact e, h2, fun pos cv hc => ?_⟩
  obtain ⟨c, e1, e2⟩ := h3 pos cv hc
  exact ⟨c, e1, by rw [upd_ne (ne _ _ e2 fun vs z => by unfold LamX.CodeO at z; cases z)]; exact e2⟩
/-- the heap grows; F is what is never changed any more -/
structure Step (K : PySem.W.Frag) (R : RA) (rs' : RS) (F H F' H' : Hp) : Prop where
  keep : ∀ a o, H a = some o → some a ≠ R.row → (n : Fx K a o := by exact .inl fun _ z => nomatch z) → H' a = some o
  sub : ∀ a o, F a = some o → F' a = some o
  new : ∀ a o, F' a = some o → F a = some o ∨ H a = none
  fin : ∀ a o, F' a = some o → H' a = some o
  row : RowOk K R rs' F' H'
  rF : ∀ r, R.row = some r → F' r = none
theorem Step.refl {R : RA} {rs : RS} {F H : Hp} (h1 : ∀ a o, F a = some o → H a = some o) (h2 : RowOk K R rs F H) (h3 : ∀ r, R.row = some r → F r = none) : Step K R rs F H F H :=
  ⟨fun _ _ h _ _ => h, fun _ _ h => h, fun _ _ h => .inl h, h1, h2, h3⟩
theorem Step.back {R : RA} {rs rs' : RS} {F H F' H' : Hp} (s : Step K R rs' F H F' H') (r0 : RowOk K R rs F H) {a : Addr} (h : H' a = none) : H a = none := by
  cases e : H a with
  | none => rfl
  | some o =>
    by_cases q : some a = R.row
    · obtain ⟨b, hb, _⟩ := s.row.at_ a q.symm
      rw [h] at hb; cases hb
    · by_cases t : ∃ n, (a, n) ∈ tabsOf K
      · obtain ⟨n, t⟩ := t
        obtain ⟨ps, hb⟩ := tabs_at s.row.tab t
        rw [h] at hb; cases hb
      · rw [s.keep a o e q (.inr fun n z => t ⟨n, z⟩)] at h; cases h
theorem Step.trans {R : RA} {rs rs1 rs2 : RS} {F H F1 H1 F2 H2 : Hp} (r0 : RowOk K R rs F H) (a : Step K R rs1 F H F1 H1) (b : Step K R rs2 F1 H1 F2 H2) : Step K R rs2 F H F2 H2 :=
  ⟨fun c o h q n => b.keep c o (a.keep c o h q n) q n, fun c o h => b.sub c o (a.sub c o h), fun c o h => by
    rcases b.new c o h with z | z
    · exact a.new c o z
    · exact .inr (a.back r0 z), b.fin, b.row, b.rF⟩

mutual
/-- data as a key -/
def nk : D → Option NestedKey
  | .none => some .none
  | .int i => some (.num i)
  | .tuple ds => match nkA ds with
    | some ks => some (.tup ks)
    | none => none
  | .bool _ => none
  | .str _ => none
  | .list _ => none
  | .dict _ => none
def nkA : List D → Option (List NestedKey)
  | [] => some []
  | d :: ds => match nk d, nkA ds with
    | some k, some ks => some (k :: ks)
    | _, _ => none
end
/-- a dict's object: its keys' tuples stand at the addresses -/
def dcO (a : Addr) (xs : List (NestedKey × Addr × V)) : HO := .ext fun h => (a == sysModules) = false ∧ xs.length ≤ sizeLine ∧ (xs.map (·.1)).Nodup ∧ ∃ (o : Obj) (es : Array DictEntry) (ep : Nat) (ys : List (NestedKey × Addr × Value)),
  h.get? a = some o ∧ o.ExactDict ∧ o.data = .dict es ep ∧ Paired (fun (p : NestedKey × Addr × V) (q : NestedKey × Addr × Value) => p.1 = q.1 ∧ p.2.1 = q.2.1 ∧ RelV p.2.2 q.2.2) xs ys ∧
  ∀ w : World, es.toList = ys.map fun y => (⟨y.1.hash w, .ref y.2.1, y.2.2⟩ : DictEntry)
def DictR (K : PySem.W.Frag) (F : Hp) (a : Addr) (u : HO) (c : DC) : Prop := match c.t with
  | false => ∃ ks : List (Int × V), u = .dK (ks.map fun p => ((.inl p.1 : Key), p.2)) ∧ (ks.map (·.1)).Nodup ∧ Paired (fun (p : Int × V) (q : D × D) => q.1 = .int p.1 ∧ Dp K F p.2 q.2) ks c.kv
  | true => ∃ xs : List (NestedKey × Addr × V), u = dcO a xs ∧ Paired (fun (x : NestedKey × Addr × V) (q : D × D) => nk q.1 = some x.1 ∧ x.1.depth ≤ 8 ∧ Dp K F (.ref x.2.1) q.1 ∧ Dp K F x.2.2 q.2) xs c.kv
theorem Paired.imp {α β : Type} {f g : α → β → Prop} : ∀ {xs : List α} {ys : List β}, Paired f xs ys → (∀ x y, f x y → g x y) → Paired g xs ys
  | _, _, .nil, _ => .nil
  | _, _, .cons h t, k => .cons (k _ _ h) (Paired.imp t k)
theorem DictR.mono {F F' : Hp} {a : Addr} {u : HO} {c : DC} (e : ∀ a o, F a = some o → F' a = some o) (h : DictR K F a u c) : DictR K F' a u c := by
  unfold DictR at h ⊢
  cases q : c.t with
  | false =>
    rw [q] at h
    obtain ⟨ks, h1, h2, h3⟩ := h
    exact ⟨ks, h1, h2, Paired.imp h3 fun x y z => ⟨z.1, Dp.mono e _ _ z.2⟩⟩
  | true =>
    rw [q] at h
    obtain ⟨xs, h1, h2⟩ := h
    exact ⟨xs, h1, Paired.imp h2 fun x y z => ⟨z.1, z.2.1, Dp.mono e _ _ z.2.2.1, Dp.mono e _ _ z.2.2.2⟩⟩
theorem DictR.fx {F : Hp} {a : Addr} {u : HO} {c : DC} (h : DictR K F a u c) : Fx K a u := by
  unfold DictR at h
  cases q : c.t with
  | false =>
    rw [q] at h
    obtain ⟨ks, h1, _⟩ := h
    exact .inl fun _ z => by rw [h1] at z; cases z
  | true =>
    rw [q] at h
    obtain ⟨xs, h1, _⟩ := h
    exact .inl fun _ z => by rw [h1] at z; unfold dcO at z; cases z

/-- v stands for the result; H0: the heap ahead (a new list is new since it) -/
def VR (K : PySem.W.Frag) (R : RA) (F H0 H : Hp) (v : V) : RV → Prop
  | .d x => Dp K F v x
  | .b ds => ∃ a vs, v = .ref a ∧ H a = some (.lst vs) ∧ some a ≠ R.row ∧ DpAll K F vs ds
  | .n ds => ∃ a vs, v = .ref a ∧ H a = some (.lst vs) ∧ H0 a = none ∧ F a = none ∧ some a ≠ R.row ∧ DpAll K F vs ds
  | .gb c => ∃ a u, v = .ref a ∧ H a = some u ∧ some a ≠ R.row ∧ DictR K F a u c
  | .gn c => ∃ a u, v = .ref a ∧ H a = some u ∧ H0 a = none ∧ F a = none ∧ some a ≠ R.row ∧ DictR K F a u c
  | .row => ∃ r, R.row = some r ∧ v = .ref r
theorem VR.step {R : RA} {rs' : RS} {F F' H0 H H' : Hp} {v : V} {x : RV} (s : Step K R rs' F H F' H') (h : VR K R F H0 H v x) : VR K R F' H0 H' v x := by
  cases x with
  | d x => exact Dp.mono s.sub _ _ h
  | b ds =>
    obtain ⟨a, vs, e, h1, h2, h3⟩ := h
    exact ⟨a, vs, e, s.keep a _ h1 h2, h2, Dp.monoA s.sub _ _ h3⟩
  | n ds =>
    obtain ⟨a, vs, e, h1, h0, h2, h3, h4⟩ := h
    refine ⟨a, vs, e, s.keep _ _ h1 h3, h0, ?_, h3, Dp.monoA s.sub _ _ h4⟩
    cases q : F' a with
    | none => rfl
    | some o =>
      rcases s.new a o q with z | z
      · rw [h2] at z; cases z
      · rw [h1] at z; cases z
  | gb c =>
    obtain ⟨a, u, e, h1, h2, h3⟩ := h
    exact ⟨a, u, e, s.keep a _ h1 h2 h3.fx, h2, h3.mono s.sub⟩
  | gn c =>
    obtain ⟨a, u, e, h1, h0, h2, h3, h4⟩ := h
    refine ⟨a, u, e, s.keep _ _ h1 h3 h4.fx, h0, ?_, h3, h4.mono s.sub⟩
    cases q : F' a with
    | none => rfl
    | some o =>
      rcases s.new a o q with z | z
      · rw [h2] at z; cases z
      · rw [h1] at z; cases z
  | row => exact h
theorem VR.older {R : RA} {F H0 H1 H : Hp} {v : V} {x : RV} (e : ∀ a, H1 a = none → H0 a = none) (h : VR K R F H1 H v x) : VR K R F H0 H v x := by
  cases x with
  | d x => exact h
  | b ds => exact h
  | n ds =>
    obtain ⟨a, vs, e1, h1, h0, h2, h3, h4⟩ := h
    exact ⟨a, vs, e1, h1, e a h0, h2, h3, h4⟩
  | gb c => exact h
  | gn c =>
    obtain ⟨a, u, e1, h1, h0, h2, h3, h4⟩ := h
    exact ⟨a, u, e1, h1, e a h0, h2, h3, h4⟩
  | row => exact h

/-- the error of the class cls, its dict d: its name, its field; the dict is never changed -/
def XF (K : PySem.W.Frag) (F : Hp) (cls : Value) (d : Option Addr) (e : Ex) : Prop := PySem.W.nsIn K mainGlobals e.c = some (some cls) ∧ match e.f with
  | none => d = none
  | some (f, x) => ∃ dd w, d = some dd ∧ F dd = some (.xd [(f, w)]) ∧ Dp K F w x
theorem XF.mono {F F' : Hp} {cls : Value} {d : Option Addr} {e : Ex} (k : ∀ a o, F a = some o → F' a = some o) (h : XF K F cls d e) : XF K F' cls d e := by
  unfold XF at h ⊢
  refine ⟨h.1, ?_⟩
  have h := h.2
  cases z : e.f with
  | none => rw [z] at h; exact h
  | some p =>
    rw [z] at h
    obtain ⟨dd, w, h1, h2, h3⟩ := h
    exact ⟨dd, w, h1, k _ _ h2, Dp.mono k _ _ h3⟩
def outO : Option (List Int) → List Addr → HO
  | none, as => .lst (as.map V.ref)
  | some ks, as => .dK ((ks.zip as).map fun p => ((.inl p.1 : Key), V.ref p.2))
def InR (K : PySem.W.Frag) (F : Hp) (b : Addr) (u : HO) : IC → Prop
  | .l ds => ∃ vs, u = .lst vs ∧ DpAll K F vs ds
  | .g c => DictR K F b u c
  | .f c => ∃ o u', u = .frz o u' ∧ DictR K F b u' c
structure MR (K : PySem.W.Frag) (L : Nat → Option (Addr × HO)) (F : Hp) (a : Addr) (as : List Addr) (c : NC) : Prop where
  out : L 1 = some (a, outO c.ks as)
  len : as.length = c.xs.length
  ks : ∀ k, c.ks = some k → k.length = as.length ∧ k.Nodup
  nd : (a :: as).Nodup
  fa : F a = none
  inn : ∀ (k : Nat) (b : Addr) (x : IC), as[k]? = some b → c.xs[k]? = some x → F b = none ∧ ∃ u, L (2 * k + 3) = some (b, u) ∧ InR K F b u x
theorem InR.mono {F F' : Hp} {b : Addr} {u : HO} {x : IC} (e : ∀ a o, F a = some o → F' a = some o) (h : InR K F b u x) : InR K F' b u x := by
  cases x with
  | l ds =>
    obtain ⟨vs, h1, h2⟩ := h
    exact ⟨vs, h1, Dp.monoA e _ _ h2⟩
  | g c => exact DictR.mono e h
  | f c =>
    obtain ⟨o, u', h1, h2⟩ := h
    exact ⟨o, u', h1, DictR.mono e h2⟩
theorem MR.mono {L : Nat → Option (Addr × HO)} {F F' : Hp} {a : Addr} {as : List Addr} {c : NC} (h : MR K L F a as c) (e : ∀ a o, F a = some o → F' a = some o) (n : ∀ i b u, L i = some (b, u) → F b = none → F' b = none) : MR K L F' a as c :=
  ⟨h.out, h.len, h.ks, h.nd, n _ _ _ h.out h.fa, fun k b x h1 h2 => by
    obtain ⟨h3, u, h4, h5⟩ := h.inn k b x h1 h2
    exact ⟨n _ _ _ h4 h3, u, h4, h5.mono e⟩⟩
theorem MR.cong {L L' : Nat → Option (Addr × HO)} {F : Hp} {a : Addr} {as : List Addr} {c : NC} (h : MR K L F a as c) (e : ∀ i, L' (2 * i + 1) = L (2 * i + 1)) : MR K L' F a as c :=
  ⟨(e 0).trans h.out, h.len, h.ks, h.nd, h.fa, fun k b x h1 h2 => by
    obtain ⟨h3, u, h4, h5⟩ := h.inn k b x h1 h2
    exact ⟨h3, u, (e (k + 1)).trans h4, h5⟩⟩
def SR (K : PySem.W.Frag) (R : RA) (L : Nat → Option (Addr × HO)) (E F H : Hp) (i : Nat) (v : V) : SV → Prop
  | .d x => Dp K F v x
  | .o ds => ∃ a vs, v = .ref a ∧ H a = some (.lst vs) ∧ E a = none ∧ F a = none ∧ some a ≠ R.row ∧ DpAll K F vs ds
  | .k ds => ∃ a vs, L (2 * i) = some (a, .lst vs) ∧ v = .ref a ∧ DpAll K F vs ds
  | .g c => ∃ a u, v = .ref a ∧ H a = some u ∧ E a = none ∧ F a = none ∧ some a ≠ R.row ∧ DictR K F a u c
  | .un => True
  | .row => ∃ r, R.row = some r ∧ v = .ref r
  | .ex q e => v = .ref q.a ∧ XF K F q.cls q.d e
  | .fn x => ∃ a, PySem.W.nsIn K mainGlobals x = some (some (.ref a)) ∧ v = .ref a
  | .lm => ∃ f, R.lam = some f ∧ v = .ref f
  | .m c => ∃ a as, v = .ref a ∧ MR K L F a as c
structure Rel (K : PySem.W.Frag) (R : RA) (L : Nat → Option (Addr × HO)) (E F : Hp) (ρ : Env) (σ : L2.St) (rs : RS) (H : Hp) : Prop where
  len : ρ.length = σ.length
  ex : ∀ a o, E a = some o → H a = some o
  ent : ∀ a o, E a = some o → Fx K a o
  fr : ∀ a o, F a = some o → H a = some o
  row : RowOk K R rs F H
  rE : ∀ r, R.row = some r → E r = none ∧ F r = none
  lk : ∀ i a u, L i = some (a, u) → E a = some u
  sl : ∀ (i : Nat) (sv : SV), ρ[i]? = some (some sv) → ∃ v, σ[i]? = some (some v) ∧ SR K R L E F H i v sv
  own : ∀ (i j : Nat) (a : Addr) (x y : SV), ρ[i]? = some (some x) → ρ[j]? = some (some y) → x.ow → y.ow → σ[i]? = some (some (V.ref a)) → σ[j]? = some (some (V.ref a)) → i = j
section
variable {R : RA} {L : Nat → Option (Addr × HO)} {E F F' H H' : Hp} {ρ : Env} {σ : L2.St} {rs rs' : RS}
theorem Rel.refl (r : Rel K R L E F ρ σ rs H) : Step K R rs F H F H := Step.refl r.fr r.row fun _ e => (r.rE _ e).2
theorem Rel.step (r : Rel K R L E F ρ σ rs H) (s : Step K R rs' F H F' H') : Rel K R L E F' ρ σ rs' H' where
  len := r.len
  ex := fun a o h => s.keep a o (r.ex a o h) (fun q => by
    have := (r.rE a q.symm).1
    rw [h] at this; cases this) (r.ent a o h)
  ent := r.ent
  fr := s.fin
  row := s.row
  rE := fun q e => ⟨(r.rE q e).1, s.rF q e⟩
  lk := r.lk
  sl := fun i sv h => by
    obtain ⟨v, e, q⟩ := r.sl i sv h
    refine ⟨v, e, ?_⟩
    cases sv with
    | d x => exact Dp.mono s.sub _ _ q
    | k ds =>
      obtain ⟨a, vs, hl, e1, h3⟩ := q
      exact ⟨a, vs, hl, e1, Dp.monoA s.sub _ _ h3⟩
    | o ds =>
      obtain ⟨a, vs, e1, h1, h2, h3, h4, h5⟩ := q
      refine ⟨a, vs, e1, s.keep _ _ h1 h4, h2, ?_, h4, Dp.monoA s.sub _ _ h5⟩
      cases q : F' a with
      | none => rfl
      | some o =>
        rcases s.new a o q with z | z
        · rw [h3] at z; cases z
        · rw [h1] at z; cases z
    | g c =>
      obtain ⟨a, u, e1, h1, h2, h3, h4, h5⟩ := q
      refine ⟨a, u, e1, s.keep _ _ h1 h4 h5.fx, h2, ?_, h4, h5.mono s.sub⟩
      cases q : F' a with
      | none => rfl
      | some o =>
        rcases s.new a o q with z | z
        · rw [h3] at z; cases z
        · rw [h1] at z; cases z
    | un => exact trivial
    | row => exact q
    | ex _ _ => exact ⟨q.1, XF.mono s.sub q.2⟩
    | fn _ => exact q
    | lm => exact q
    | m c =>
      obtain ⟨a, as, e1, h⟩ := q
      refine ⟨a, as, e1, h.mono s.sub fun i b u hl hF => ?_⟩
      cases q : F' b with
      | none => rfl
      | some o =>
        rcases s.new b o q with z | z
        · rw [hF] at z; cases z
        · rw [r.ex b u (r.lk i b u hl)] at z; cases z
  own := r.own
/-- reading a name -/
def vget (ρ : Env) (i : Nat) : Option RV := match ρ[i]? with
  | some (some (.d x)) => some (.d x)
  | some (some (.o ds)) => some (.b ds)
  | some (some (.k ds)) => some (.b ds)
  | some (some (.g c)) => some (.gb c)
  | some (some .row) => some .row
  | _ => none
theorem Rel.get (r : Rel K R L E F ρ σ rs H) {i : Nat} {x : RV} (h : vget ρ i = some x) : ∃ v, σ[i]? = some (some v) ∧ VR K R F H H v x := by
  unfold vget at h
  cases e : ρ[i]? with
  | none => rw [e] at h; cases h
  | some o =>
    cases o with
    | none => rw [e] at h; cases h
    | some sv =>
      rw [e] at h
      obtain ⟨v, ev, q⟩ := r.sl i sv e
      refine ⟨v, ev, ?_⟩
      cases sv with
      | d x => cases h; exact q
      | k ds =>
        cases h
        obtain ⟨a, vs, hl, e1, h3⟩ := q
        have hE := r.lk _ a _ hl
        have hR : some a ≠ R.row := fun q => by
          have z := (r.rE a q.symm).1
          rw [hE] at z
          cases z
        exact ⟨a, vs, e1, r.ex a _ hE, hR, h3⟩
      | o ds =>
        cases h
        obtain ⟨a, vs, e1, h1, h2, h3, h4, h5⟩ := q
        exact ⟨a, vs, e1, h1, h4, h5⟩
      | g c =>
        cases h
        obtain ⟨a, vs, e1, h1, h2, h3, h4, h5⟩ := q
        exact ⟨a, vs, e1, h1, h4, h5⟩
      | un => cases h
      | ex _ _ => cases h
      | fn _ => cases h
      | lm => cases h
      | m _ => cases h
      | row => cases h; exact q
end

def ESem (K : PySem.W.Frag) (R : RA) (t : TE) (f : Env → M RV) : Prop :=
  ∀ (L : Nat → Option (Addr × HO)) (E : Hp) (ρ : Env) (σ : L2.St) (F H : Hp) (rs : RS) (x : RV) (rs' : RS) (Q : VK), Rel K R L E F ρ σ rs H → f ρ rs = some (x, rs') →
    (∀ v F' H', Step K R rs' F H F' H' → VR K R F' H H' v x → Q v H') → t σ H Q
def TSem (K : PySem.W.Frag) (R : RA) (t : TT) (f : Env → M Bool) : Prop :=
  ∀ (L : Nat → Option (Addr × HO)) (E : Hp) (ρ : Env) (σ : L2.St) (F H : Hp) (rs : RS) (x : Bool) (rs' : RS) (Q : Bool → Hp → Prop), Rel K R L E F ρ σ rs H → f ρ rs = some (x, rs') →
    (∀ F' H', Step K R rs' F H F' H' → Q x H') → t σ H Q
inductive VRs (K : PySem.W.Frag) (R : RA) (F H0 H : Hp) : List V → List RV → Prop
  | nil : VRs K R F H0 H [] []
  | cons {v : V} {vs : List V} {x : RV} {xs : List RV} : VR K R F H0 H v x → VRs K R F H0 H vs xs → VRs K R F H0 H (v :: vs) (x :: xs)
theorem VRs.len {R : RA} {F H0 H : Hp} : ∀ {vs : List V} {xs : List RV}, VRs K R F H0 H vs xs → vs.length = xs.length
  | _, _, .nil => rfl
  | _, _, .cons _ t => congrArg (· + 1) (VRs.len t)
theorem VRs.older {R : RA} {F H0 H1 H : Hp} (e : ∀ a, H1 a = none → H0 a = none) : ∀ {vs : List V} {xs : List RV}, VRs K R F H1 H vs xs → VRs K R F H0 H vs xs
  | _, _, .nil => .nil
  | _, _, .cons h t => .cons (h.older e) (VRs.older e t)
def ASem (K : PySem.W.Frag) (R : RA) (t : TA) (f : Env → M (List RV)) : Prop :=
  ∀ (L : Nat → Option (Addr × HO)) (E : Hp) (ρ : Env) (σ : L2.St) (F H : Hp) (rs : RS) (x : List RV) (rs' : RS) (Q : List V → Hp → Prop), Rel K R L E F ρ σ rs H → f ρ rs = some (x, rs') →
    (∀ vs F' H', Step K R rs' F H F' H' → VRs K R F' H H' vs x → Q vs H') → t σ H Q
structure DE (X : Cx) (R : RA) (e : Expr) (t : TE) (f : Env → M RV) : Prop where
  pe : PE X e t
  sem : ESem X.K R t f
structure DT (X : Cx) (R : RA) (e : Expr) (t : TT) (f : Env → M Bool) : Prop where
  pt : PT X e t
  sem : TSem X.K R t f
/-- in an and, an or -/
structure DW (X : Cx) (R : RA) (e : Expr) (t : TT) (f : Env → M Bool) : Prop where
  pw : PW X e t
  sem : TSem X.K R t f
structure DA (X : Cx) (R : RA) (es : List Expr) (t : TA) (f : Env → M (List RV)) : Prop where
  pa : PA X es t
  sem : ASem X.K R t f
end
end DV

namespace DV
open PySem L2 PySem.Spec PyProof.Rows
/-- the object of a new tuple -/
abbrev tupO (its : Array Value) : Obj := { cls := .type "tuple", data := .seq its }
/-- a new tuple stands at T -/
def NewT (H H' : Hp) (T : Addr) (vs : List V) : Prop := ∃ ob : Obj, ob.dict = none ∧ H' = upd H T (TupX ob vs)
/-- a new pair of the i-th of xs and the i-th of ys -/
def YPairX (xs ys : Nat → Option V) : Nat → Hp → V → Hp → Prop := fun i H v H' => ∃ T x y, v = .ref T ∧ H T = none ∧ NewT H H' T [x, y] ∧ xs i = some x ∧ ys i = some y
section
variable {X : Cx}
/-- a tuple is laid down at the heap's end -/
theorem laidX {pins : List (Addr × Obj)} {σ : L2.St} {H : Hp} {h : Heap} {g : Shared} {tk : Nat} {its : Array Value} {xs : List V} {Q : VK} (I : Inv X pins σ H { g with heap := h, toks := tk }) (hz : xs.length ≤ sizeLine) (r : Vals xs its.toList)
    (q : ∀ p ob, H p = none → ob.dict = none → Q (.ref p) (upd H p (TupX ob xs))) : EP X pins σ Q (.ref h.objs.size) { g with heap := h.push (tupO its), toks := tk } := by
  have e := Heap.get?_push_size h (o := tupO its) rfl
  have ok : ObjOk X.prog X.w (upd H h.objs.size (TupX (tupO its) xs)) (h.push (tupO its)) h.objs.size (TupX (tupO its) xs) := ⟨e, hz, its.toList, r, _, e, rfl, 0, by rw [Array.toArray_toList]⟩
  exact ⟨.ref h.objs.size, _, I.laid (t' := tk) (fun b o z => Heap.get?_push_of_some _ z) (Nat.le_refl _) ok, rfl, q _ _ (I.hok.fresh (Nat.le_refl _)) rfl⟩
def tTupX (t : TA) : TE := fun σ H Q => t σ H fun xs H1 => xs.length ≤ sizeLine ∧ ∀ p ob, H1 p = none → ob.dict = none → Q (.ref p) (upd H1 p (TupX ob xs))
theorem pe_tupX {es : List Expr} {t : TA} {pos : Pos} {x1} (h : PA X es t) : PE X (.Tuple es x1 pos) (tTupX t) :=
  ⟨fun pins s σ H Q I hq => wpAny_Tuple_spliced (thn (h.run pos pins s σ H _ I hq) fun us s1 hh => by
    obtain ⟨xs, H1, J, r, z, q⟩ := hh
    exact ⟨by rw [← r.length]; exact z, laidX (h := s1.heap) (tk := s1.toks) (its := us.toArray) J z (by simpa using r) q⟩)⟩
abbrev rTupX (K : PySem.W.Frag) : List V → Hp → VK → Prop := fun xs H Q => ∃ p ys, xs = [.ref p] ∧ ((SqL K H p ys ∧ ∀ l ob, H l = none → ob.dict = none → Q (.ref l) (upd H l (TupX ob ys))) ∨ (SqT K H p ys ∧ Q (.ref p) H))
theorem call_tupX : CallR X (.type "tuple") (rTupX X.K) := fun pins s σ H xs us Q I rs h => by
  obtain ⟨p, ys, e, h⟩ := h
  subst e
  obtain ⟨u, e, rx⟩ := vals1 rs
  subst e
  obtain rfl : u = Value.ref p := rx
  rcases h with ⟨hq, q⟩ | ⟨hq, q⟩
  · obtain ⟨its, r, pl, hz⟩ := I.list hq
    have hn := r.length
    exact call_tuple_list pl.isList (fun h' kp => laidX (h := h') (tk := s.toks) (its := its.toArray) (I.kept (t' := s.toks) kp) hz (by simpa using r) q) (by rw [List.size_toArray, ← hn]; exact hz)
  · obtain ⟨its, _, pl, _⟩ := I.tuple hq
    exact call_tuple_same pl ⟨.ref p, _, I, rfl, q⟩
def rCatX (K : PySem.W.Frag) : R2 := fun x y H Q => ∃ a b xs ys, x = .ref a ∧ y = .ref b ∧ SqT K H a xs ∧ SqT K H b ys ∧ xs.length + ys.length ≤ sizeLine ∧
  (xs = [] → Q (.ref b) H) ∧ (xs ≠ [] → ys = [] → Q (.ref a) H) ∧ (xs ≠ [] → ys ≠ [] → ∀ p ob, H p = none → ob.dict = none → Q (.ref p) (upd H p (TupX ob (xs ++ ys))))
theorem op_catX : OpR X (binaryOp .Add) (rCatX X.K) := fun pins s σ H x y v u Q I rx ry h => by
  obtain ⟨a, b, xs, ys, ex, ey, ha, hb, hz, q0, q1, q2⟩ := h
  subst ex ey
  by_cases hx : xs = []
  · exact op_catA pins s σ H _ _ v u Q I rx ry ⟨a, b, xs, ys, rfl, rfl, ha, hb, hz, q0, fun z => absurd hx z, fun z => absurd hx z⟩
  by_cases hy : ys = []
  · exact op_catA pins s σ H _ _ v u Q I rx ry ⟨a, b, xs, ys, rfl, rfl, ha, hb, hz, q0, q1, fun _ z => absurd hy z⟩
  obtain rfl : v = Value.ref a := rx
  obtain rfl : u = Value.ref b := ry
  obtain ⟨i1, r1, p1, _⟩ := I.tuple ha
  obtain ⟨i2, r2, p2, _⟩ := I.tuple hb
  refine HT.cat_tup p1 p2 (fun z => hx (r1.nil_iff.mp z)) (fun z => absurd (r2.nil_iff.mp z) hy) (fun z => ?_) (by rw [← r1.length, ← r2.length]; exact hz)
  exact laidX (h := s.heap) (tk := s.toks) (its := (i1 ++ i2).toArray) I (by rw [List.length_append]; exact hz) (by simpa using r1.append r2) (q2 hx hy)
def rRepX (K : PySem.W.Frag) : R2 := fun x y H Q => ∃ l k xs, x = .ref l ∧ y = .int k ∧ SqT K H l xs ∧ xs ≠ [] ∧ 2 ≤ k ∧ k ≤ 1000 ∧ xs.length ≤ 1000 ∧ ∀ p ob, H p = none → ob.dict = none → Q (.ref p) (upd H p (TupX ob (List.replicate k.toNat xs).flatten))
theorem op_repX : OpR X (binaryOp .Mult) (rRepX X.K) := fun pins s σ H x y v u Q I rx ry h => by
  obtain ⟨l, k, xs, ex, ey, hT, hne, h1, h2, hz, q⟩ := h
  subst ex ey
  obtain rfl : v = Value.ref l := rx
  obtain ⟨t, rfl⟩ := ry
  obtain ⟨its, r, ⟨⟨cls, dd, data, sl⟩, ho, hc, n, hd⟩, hs⟩ := I.tuple hT
  simp only at hc hd
  subst hc hd
  have hle : its.length = xs.length := r.length.symm
  have hi : its.toArray.isEmpty = false := by
    cases its with
    | nil => exact absurd (List.eq_nil_of_length_eq_zero hle.symm) hne
    | cons _ _ => rfl
  have hk : k.toNat * xs.length ≤ 1000 * 1000 := Nat.mul_le_mul (by omega) hz
  have hm : ((its.toArray.size : Nat) : Int) * k ≤ 1000000 := by
    rw [List.size_toArray, hle]
    have h3 : ((xs.length : Nat) : Int) * k ≤ 1000 * k := Int.mul_le_mul_of_nonneg_right (by omega) (by omega)
    omega
  have flen : (List.replicate k.toNat its).flatten.length ≤ sizeLine := by
    rw [lm_len_rep_flat, hle, sizeLine_eq]
    omega
  have flenx : (List.replicate k.toNat xs).flatten.length ≤ sizeLine := by
    rw [lm_len_rep_flat, sizeLine_eq]
    omega
  have c0 : (decide (k < -(2 ^ 63)) || decide (k ≥ 2 ^ 63)) = false := by
    rw [decide_eq_false (by omega), decide_eq_false (by omega)] <;> rfl
  have c1 : (its.toArray.isEmpty || k == 1) = false := by rw [hi, Bool.false_or]; exact beq_eq_false_iff_ne.mpr (by omega)
  have c2 : (decide (k ≤ 0) || its.toArray.isEmpty) = false := by rw [hi, Bool.or_false]; exact decide_eq_false (by omega)
  have c4 : Builtin.Tuple.tupleTooMany (((its.toArray.size : Nat) : Int) * k) = false := by unfold Builtin.Tuple.tupleTooMany; rw [sizeLine_eq]; exact decide_eq_false (by omega)
  have hT1 : s.TypeIs (.ref l) "tuple" := ⟨_, ho, rfl⟩
  refine wpAny_binaryOp_repeat_ref (T := "tuple") (U := "int") (by decide) hT1 (fun z => typeIs_int z k t) noFill_tuple_mul F.fills_int_mul F.slot_int_rmul repeat_tuple F.slot_int_index.lookup ?_
  refine call_meets F.slot_int_rmul (typeIs_int s k t) F.entry_int_rmul (F.args_int_rmul_2 _ _) (int_rmul_tuple k t l its.toArray n dd sl) ⟨ho, rfl, hT1, ?_⟩
  refine call_meets F.slot_tuple_mul hT1 F.entry_tuple_mul (F.args_tuple_mul_2 _ _) (tuple_mulW l its.toArray n dd sl k t c0 c1 c2 (by omega) c4 (by rw [size_rep, List.size_toArray]; exact flen)) ⟨ho, ?_⟩
  rw [size_rep]
  exact laidX (h := s.heap) (tk := s.toks) (its := (List.replicate k.toNat its).flatten.toArray) I flenx (by simpa using r.rep k.toNat) q
def rSlX (K : PySem.W.Frag) : V → Option Int → Option Int → Hp → VK → Prop := fun x lo hi H Q => ∃ a xs, x = .ref a ∧ SqT K H a xs ∧
  (HT.sIx xs.length 0 lo = 0 ∧ HT.sIx xs.length xs.length hi = xs.length → Q (.ref a) H) ∧ (¬ (HT.sIx xs.length 0 lo = 0 ∧ HT.sIx xs.length xs.length hi = xs.length) → ∀ p ob, H p = none → ob.dict = none → Q (.ref p) (upd H p (TupX ob (cutV xs lo hi))))
theorem sl_tupX : SlR X (rSlX X.K) := fun pins s σ H x v vl vu lo hi sl Q I rx hs pl pu h => by
  obtain ⟨a, xs, ex, hx, q1, q2⟩ := h
  by_cases hw : HT.sIx xs.length 0 lo = 0 ∧ HT.sIx xs.length xs.length hi = xs.length
  · exact sl_tupA pins s σ H x v vl vu lo hi sl Q I rx hs pl pu ⟨a, xs, ex, hx, q1, fun z => absurd hw z⟩
  subst ex
  obtain rfl : v = Value.ref a := rx
  obtain ⟨its, r, ht, hz⟩ := I.tuple hx
  have hn : its.toArray.size = xs.length := by rw [List.size_toArray, r.length]
  refine ⟨"tuple", _, slot_tuple_getitem.lookup, ht.typeIs, HT.getItem_tuple_cut ht hs pl pu (by rw [hn]; exact hw) ?_ (by rw [hn]; exact hz)⟩
  rw [hn]
  have r2 := (r.drop (HT.sIx xs.length 0 lo)).take (HT.sIx xs.length xs.length hi - HT.sIx xs.length 0 lo)
  exact laidX (h := s.heap) (tk := s.toks) (xs := cutV xs lo hi) I (Nat.le_trans (cutV_length xs lo hi) hz) r2 (q2 hw)
end
end DV

namespace DV
open PySem L2

def asInt : RV → Option Int
  | .d (.int i) => some i
  | _ => none
def asBool : RV → Option Bool
  | .d (.bool b) => some b
  | _ => none
/-- the items of a list or tuple -/
def items : RV → Option (List D)
  | .d (.tuple ds) => some ds
  | .d (.list ds) => some ds
  | .b ds => some ds
  | .n ds => some ds
  | _ => none
/-- as data (a new list is from then on never changed) -/
def toD : RV → Option D
  | .d x => some x
  | .n ds => some (.list ds)
  | _ => none
def toDs : List RV → Option (List D)
  | [] => some []
  | x :: xs => match toD x, toDs xs with
    | some d, some ds => some (d :: ds)
    | _, _ => none
section
variable {K : PySem.W.Frag} {R : RA} {F F' H0 H H' : Hp} {rs rs' : RS}
/-- a sequence at an address: a list or a tuple -/
theorem VR.items {v : V} {x : RV} {ds : List D} (s : Step K R rs F H F H) (h : VR K R F H0 H v x) (e : DV.items x = some ds) :
    ∃ a vs, v = .ref a ∧ (SqL K H a vs ∨ SqT K H a vs) ∧ DpAll K F vs ds := by
  cases x with
  | d x =>
    cases x with
    | tuple es =>
      cases e
      cases h with
      | tup h1 h2 => exact ⟨_, _, rfl, .inr (ex_t (s.fin _) h1), h2⟩
    | list es =>
      cases e
      cases h with
      | lst h1 h2 => exact ⟨_, _, rfl, .inl (ex_l (s.fin _) h1), h2⟩
    | none => cases e
    | bool _ => cases e
    | int _ => cases e
    | str _ => cases e
    | dict _ => cases e
  | b es =>
    cases e
    obtain ⟨a, vs, e1, h1, h2, h3⟩ := h
    exact ⟨a, vs, e1, .inl (.inl (.inl h1)), h3⟩
  | n es =>
    cases e
    obtain ⟨a, vs, e1, h1, h0, h2, h3, h4⟩ := h
    exact ⟨a, vs, e1, .inl (.inl (.inl h1)), h4⟩
  | gb _ => cases e
  | gn _ => cases e
  | row => cases e
theorem VR.int {v : V} {x : RV} {i : Int} (h : VR K R F H0 H v x) (e : asInt x = some i) : v = .int i := by
  cases x with
  | d x =>
    cases x with
    | int j => cases e; cases h; rfl
    | _ => cases e
  | _ => cases e
theorem VR.bool {v : V} {x : RV} {i : Bool} (h : VR K R F H0 H v x) (e : asBool x = some i) : v = .bl i := by
  cases x with
  | d x =>
    cases x with
    | bool j => cases e; cases h; rfl
    | _ => cases e
  | _ => cases e
/-- F grows by things that are new since H0 -/
theorem VRs.freeze (s : Step K R rs F H F H) : ∀ {vs : List V} {xs : List RV} {ds : List D}, VRs K R F H0 H vs xs → toDs xs = some ds →
    ∃ F', (∀ a o, F a = some o → F' a = some o) ∧ (∀ a o, F' a = some o → F a = some o ∨ H0 a = none) ∧ (∀ a o, F' a = some o → H a = some o) ∧ (∀ r, R.row = some r → F' r = none) ∧ (∀ a o, F' a = some o → Fx K a o) ∧ DpAll K F' vs ds
  | _, _, _, .nil, e => by
    cases e
    exact ⟨F, fun _ _ h => h, fun _ _ h => .inl h, s.fin, s.rF, s.row.fnt, .nil⟩
  | _, _, _, .cons (v := v) (x := x) (xs := xs) hx ht, e => by
    unfold toDs at e
    cases e1 : toD x with
    | none => rw [e1] at e; cases e
    | some d =>
      cases e2 : toDs xs with
      | none => rw [e1, e2] at e; cases e
      | some es =>
        rw [e1, e2] at e
        cases e
        obtain ⟨F1, k1, k2, k3, k4, k5, hA⟩ := VRs.freeze s ht e2
        cases x with
        | d y =>
          cases e1
          exact ⟨F1, k1, k2, k3, k4, k5, .cons (Dp.mono k1 _ _ hx) hA⟩
        | n y =>
          cases e1
          obtain ⟨a, ws, rfl, h1, h0, h2, h3, h4⟩ := hx
          have ku : ∀ b o, F1 b = some o → upd F1 a (.lst ws) b = some o := fun b o q => by
            by_cases eb : b = a
            · subst eb
              rw [upd_same]
              have := k3 b o q
              rw [h1] at this
              exact this
            · rw [upd_ne eb]; exact q
          refine ⟨upd F1 a (.lst ws), fun b o q => ku b o (k1 b o q), fun b o q => ?_, fun b o q => ?_, fun r er => ?_, fun b o q => ?_, .cons (.lst (.inl (.inl upd_same)) (Dp.monoA (fun b o q => ku b o (k1 b o q)) _ _ h4)) (Dp.monoA ku _ _ hA)⟩
          · by_cases eb : b = a
            · subst eb; exact .inr h0
            · rw [upd_ne eb] at q; exact k2 b o q
          · by_cases eb : b = a
            · subst eb
              rw [upd_same] at q
              rw [h1]; exact q
            · rw [upd_ne eb] at q; exact k3 b o q
          · rw [upd_ne (fun z => h3 (by rw [er, z]))]
            exact k4 r er
          · by_cases eb : b = a
            · subst eb; rw [upd_same] at q; cases q; exact .lst
            · rw [upd_ne eb] at q; exact k5 b o q
        | b y => cases e1
        | gb _ => cases e1
        | gn _ => cases e1
        | row => cases e1
/-- a new object at p -/
theorem Step.new_lst {p : Addr} {vs : List V} (s : Step K R rs F H F H) (hp : H p = none) : Step K R rs F H F (upd H p (.lst vs)) ∧ F p = none ∧ some p ≠ R.row := by
  have hr : some p ≠ R.row := fun q => by
    obtain ⟨a, e, _⟩ := s.row.at_ p q.symm
    rw [hp] at e; cases e
  have hF : F p = none := by
    cases q : F p with
    | none => rfl
    | some o =>
      have := s.fin p o q
      rw [hp] at this; cases this
  refine ⟨⟨fun a o h _ _ => by rw [upd_ne (ne_of_none h hp)]; exact h, fun _ _ h => h, fun _ _ h => .inl h, fun a o h => by rw [upd_ne (ne_of_none (s.fin a o h) hp)]; exact s.fin a o h, ⟨fun r e => ?_, tabs_upd s.row.tab (.inl hp), s.row.fnt⟩, s.rF⟩, hF, hr⟩
  obtain ⟨a, e1, h1, h3⟩ := s.row.at_ r e
  exact ⟨a, by rw [upd_ne (ne_of_none e1 hp)]; exact e1, h1, h3⟩
theorem Step.new_tup {p : Addr} {ob : Obj} {vs : List V} (s : Step K R rs F H F H) (hp : H p = none) : Step K R rs F H (upd F p (TupX ob vs)) (upd H p (TupX ob vs)) := by
  have hr : some p ≠ R.row := fun q => by
    obtain ⟨a, e, _⟩ := s.row.at_ p q.symm
    rw [hp] at e; cases e
  refine ⟨fun a o h _ _ => by rw [upd_ne (ne_of_none h hp)]; exact h, fun a o h => ?_, fun a o h => ?_, fun a o h => ?_, ⟨fun r e => ?_, tabs_upd s.row.tab (.inl hp), fun a o h => ?_⟩, fun r e => ?_⟩
  · rw [upd_ne (ne_of_none (s.fin a o h) hp)]; exact h
  · by_cases eb : a = p
    · subst eb; exact .inr hp
    · rw [upd_ne eb] at h; exact .inl h
  · by_cases eb : a = p
    · subst eb; rw [upd_same] at h ⊢; exact h
    · rw [upd_ne eb] at h ⊢; exact s.fin a o h
  · obtain ⟨a, e1, h1, h3⟩ := s.row.at_ r e
    exact ⟨a, by rw [upd_ne (ne_of_none e1 hp)]; exact e1, ex_l (fun o q => by rw [upd_ne (ne_of_none (s.fin _ _ q) hp)]; exact q) h1, h3⟩
  · by_cases eb : a = p
    · subst eb; rw [upd_same] at h; cases h; exact .tupX
    · rw [upd_ne eb] at h; exact s.row.fnt a o h
  · rw [upd_ne (fun z => hr (by rw [e, z]))]
    exact s.rF r e
end

section
variable {X : Cx} {R : RA} {a b c e : Expr} {es : List Expr} {ta tb tc te : TE} {tt uu : TT} {t u : TA} {f g h : Env → M RV} {pos : Pos}

def eVar (i : Nat) : Env → M RV := fun ρ => lft (vget ρ i)
def eC (d : D) : Env → M RV := fun _ => ret (.d d)
theorem esem_var (K : PySem.W.Frag) (i : Nat) : ESem K R (tVar i) (eVar i) := fun L E ρ σ F H rs x rs' Q r hf k => by
  obtain ⟨e, rfl⟩ := lft_some hf
  obtain ⟨v, ev, hv⟩ := r.get e
  exact ⟨v, ev, k v F H r.refl hv⟩
theorem de_var (i : Nat) {x : Str} (hN : X.N[i]? = some x := by rfl) (hv : Vis X.env.scope x := by first | exact Or.inl rfl | exact Or.inr (Or.inl rfl) | exact Or.inr (Or.inr rfl)) (hd : (x == ("__debug__" : Str)) = false := by decide)
    (hcd : (x == ("__classdict__" : Str)) = false := by decide) : DE X R (.Name x pos) (tVar i) (eVar i) := ⟨pe_var hN hv hd hcd, esem_var _ i⟩
theorem esem_c (K : PySem.W.Frag) {v : V} {d : D} (h : ∀ F, Dp K F v d) : ESem K R (tC v) (eC d) := fun L E ρ σ F H rs x rs' Q r hf k => by
  obtain ⟨e, rfl⟩ := ret_some hf
  subst e
  exact k v F H r.refl (h F)
theorem de_int {i : Int} {j} : DE X R (.Constant (.int i) j pos) (tC (.int i)) (eC (.int i)) := ⟨pe_int, esem_c _ fun _ => .int i⟩
theorem de_bl {i : Bool} {j} : DE X R (.Constant (.bool i) j pos) (tC (.bl i)) (eC (.bool i)) := ⟨pe_bl, esem_c _ fun _ => .bl i⟩
theorem de_non {j} : DE X R (.Constant .none j pos) (tC .non) (eC .none) := ⟨pe_non, esem_c _ fun _ => .non⟩
/-- a module's constant -/
theorem de_globI {x : Str} {i : Int} {tk : Tok} (hg : Gl X x) (hm : X.mg x = some (.int i tk)) (hd : (x == ("__debug__" : Str)) = false := by decide) : DE X R (.Name x pos) (tC (.int i)) (eC (.int i)) :=
  ⟨pe_glob hg hm ⟨_, rfl⟩ hd, esem_c _ fun _ => .int i⟩

def RSem (K : PySem.W.Frag) (R : RA) (r : R2) (g : RV → RV → Option RV) : Prop :=
  ∀ (F H0 H : Hp) (rs : RS) (x y : V) (p q z : RV) (Q : VK), Step K R rs F H F H → VR K R F H0 H x p → VR K R F H0 H y q → g p q = some z →
    (∀ v F' H', Step K R rs F H F' H' → VR K R F' H H' v z → Q v H') → r x y H Q
def e2 (g : RV → RV → Option RV) (f h : Env → M RV) : Env → M RV := fun ρ => bnd (f ρ) fun x => bnd (h ρ) fun y => lft (g x y)
theorem esem_op {K : PySem.W.Frag} {r : R2} {g : RV → RV → Option RV} (hr : RSem K R r g) (ha : ESem K R ta f) (hb : ESem K R tb h) : ESem K R (tOp r ta tb) (e2 g f h) := fun L E ρ σ F H rs x rs' Q r0 hf k => by
  obtain ⟨x1, rs1, e1, hf⟩ := bnd_some hf
  obtain ⟨x2, rs2, e2, hf⟩ := bnd_some hf
  obtain ⟨e3, rfl⟩ := lft_some hf
  refine ha L E ρ σ F H rs x1 rs1 _ r0 e1 fun v1 F1 H1 s1 h1 => ?_
  refine hb L E ρ σ F1 H1 rs1 x2 rs' _ (r0.step s1) e2 fun v2 F2 H2 s2 h2 => ?_
  have s12 := s1.trans r0.row s2
  refine hr F2 H H2 rs' v1 v2 x1 x2 x Q ((r0.step s1).step s2).refl (h1.step s2) (h2.older fun a q => s1.back r0.row q) e3 fun v3 F3 H3 s3 h3 => ?_
  exact k v3 F3 H3 (s12.trans r0.row s3) (h3.older fun a q => s12.back r0.row q)
theorem de_op {op : Operator} {r : R2} {g : RV → RV → Option RV} (ho : OpR X (binaryOp op) r) (hr : RSem X.K R r g) (ha : DE X R a ta f) (hb : DE X R b tb h) : DE X R (.BinOp a op b pos) (tOp r ta tb) (e2 g f h) :=
  ⟨pe_op ho ha.pe hb.pe, esem_op hr ha.sem hb.sem⟩
theorem de_cmp {op : CmpOp} {r : R2} {g : RV → RV → Option RV} (ho : OpR X (compareOp op) r) (hr : RSem X.K R r g) (ha : DE X R a ta f) (hb : DE X R b tb h) (hm : behindInMarks op b = false) : DE X R (.Compare a [op] [b] pos) (tOp r ta tb) (e2 g f h) :=
  ⟨pe_cmpR ho ha.pe hb.pe hm, esem_op hr ha.sem hb.sem⟩
def eT (f : Env → M RV) : Env → M Bool := fun ρ => bnd (f ρ) fun x => lft (asBool x)
theorem tsem_of {K : PySem.W.Frag} (he : ESem K R te f) : TSem K R (tTest te) (eT f) := fun L E ρ σ F H rs x rs' Q r hf k => by
  obtain ⟨x1, rs1, e1, hf⟩ := bnd_some hf
  obtain ⟨e2, rfl⟩ := lft_some hf
  exact he L E ρ σ F H rs x1 rs' _ r e1 fun v1 F1 H1 s1 h1 => ⟨x, h1.bool e2, k F1 H1 s1⟩
theorem dt_cmp {op : CmpOp} {r : R2} {g : RV → RV → Option RV} (ho : OpR X (compareOp op) r) (hr : RSem X.K R r g) (ha : DE X R a ta f) (hb : DE X R b tb h) (hm : behindInMarks op b = false) :
    DT X R (.Compare a [op] [b] pos) (tTest (tOp r ta tb)) (eT (e2 g f h)) := ⟨pt_cmpR ho ha.pe hb.pe hm, tsem_of (esem_op hr ha.sem hb.sem)⟩
theorem dt_val (he : DE X R e te f) (hw : ∀ whole, isTrue e X.env whole = (do let v ← whole; standAt e.pos; holding [v] (truthy v)) := by intro _; rfl) : DT X R e (tB te) (eT f) := ⟨pt_val he.pe hw, tsem_of he.sem⟩

def eCh (g g' : RV → RV → Option RV) (f h k : Env → M RV) : Env → M RV := fun ρ => bnd (f ρ) fun x => bnd (h ρ) fun y => bnd (lft (g x y)) fun b => bnd (lft (asBool b)) fun c =>
  if c = true then bnd (k ρ) fun w => lft (g' y w) else ret (.d (.bool false))
theorem esem_chain {K : PySem.W.Frag} {r r' : R2} {g g' : RV → RV → Option RV} {k : Env → M RV} (hr : RSem K R r g) (hr' : RSem K R r' g') (ha : ESem K R ta f) (hb : ESem K R tb h) (hc : ESem K R tc k) :
    ESem K R (tChain r r' ta tb tc) (eCh g g' f h k) := fun L E ρ σ F H rs x rs' Q r0 hf kk => by
  obtain ⟨x1, rs1, e1, hf1⟩ := bnd_some hf
  obtain ⟨x2, rs4, e2, hf2⟩ := bnd_some hf1
  obtain ⟨z, rs3, e3', hf3⟩ := bnd_some hf2
  obtain ⟨e3, q3⟩ := lft_some e3'
  obtain ⟨c, rs5, e4', hf4⟩ := bnd_some hf3
  obtain ⟨e4, q4⟩ := lft_some e4'
  rw [q4, q3] at hf4
  clear e3' e4' hf hf1 hf2 hf3
  refine ha L E ρ σ F H rs x1 rs1 _ r0 e1 fun v1 F1 H1 s1 h1 => ?_
  refine hb L E ρ σ F1 H1 rs1 x2 rs4 _ (r0.step s1) e2 fun v2 F2 H2 s2 h2 => ?_
  have s12 := s1.trans r0.row s2
  have h2' := h2.older (H0 := H) fun a q => s1.back r0.row q
  refine hr F2 H H2 rs4 v1 v2 x1 x2 z _ (Rel.refl ((r0.step s1).step s2)) (h1.step s2) h2' e3 fun v3 F3 H3 s3 h3 => ?_
  have s13 := s12.trans r0.row s3
  refine ⟨c, h3.bool e4, ?_⟩
  cases c with
  | false =>
    rw [if_neg Bool.false_ne_true] at hf4
    obtain ⟨e5, rfl⟩ := ret_some hf4
    subst e5
    exact kk _ F3 H3 s13 (.bl false)
  | true =>
    rw [if_pos rfl] at hf4
    obtain ⟨x5, rs5, e5, hf5⟩ := bnd_some hf4
    obtain ⟨e6, rfl⟩ := lft_some hf5
    refine hc L E ρ σ F3 H3 rs4 x5 rs' _ (r0.step s13) e5 fun v5 F5 H5 s5 h5 => ?_
    have s15 := s13.trans r0.row s5
    refine hr' F5 H H5 rs' v2 v5 x2 x5 x Q (r0.step s15).refl ((h2'.step s3).step s5) (h5.older fun a q => s13.back r0.row q) e6 fun v6 F6 H6 s6 h6 => ?_
    exact kk v6 F6 H6 (s15.trans r0.row s6) (h6.older fun a q => s15.back r0.row q)
theorem de_chain {op op' : CmpOp} {r r' : R2} {g g' : RV → RV → Option RV} {k : Env → M RV} (ho : OpR X (compareOp op) r) (ho' : OpR X (compareOp op') r') (hr : RSem X.K R r g) (hr' : RSem X.K R r' g')
    (ha : DE X R a ta f) (hb : DE X R b tb h) (hc : DE X R c tc k) (hm : lastMarks [op, op'] [b, c] = false := by with_unfolding_all rfl) : DE X R (.Compare a [op, op'] [b, c] pos) (tChain r r' ta tb tc) (eCh g g' f h k) :=
  ⟨pe_chain ho ho' ha.pe hb.pe hc.pe hm, esem_chain hr hr' ha.sem hb.sem hc.sem⟩
def gI (C : Int → Int → Bool) (k : Int → Int → D) : RV → RV → Option RV := fun x y => match asInt x, asInt y with
  | some i, some j => if C i j = true then some (.d (k i j)) else none
  | _, _ => none
theorem rsem_I {K : PySem.W.Frag} {C : Int → Int → Prop} {Cb : Int → Int → Bool} {kv : Int → Int → V} {k : Int → Int → D} (hC : ∀ i j, Cb i j = true → C i j) (hk : ∀ F i j, Dp K F (kv i j) (k i j)) : RSem K R (rI C kv) (gI Cb k) :=
  fun F H0 H rs x y p q z Q s hx hy e kk => by
    unfold gI at e
    cases e1 : asInt p with
    | none => rw [e1] at e; cases e
    | some i =>
      cases e2 : asInt q with
      | none => rw [e1, e2] at e; cases e
      | some j =>
        rw [e1, e2] at e
        by_cases hc : Cb i j = true
        · simp only [hc, if_true] at e
          cases e
          exact ⟨i, j, hx.int e1, hy.int e2, hC i j hc, kk _ F H s (hk F i j)⟩
        · simp only [hc] at e
          cases e
theorem rsem_I0 {K : PySem.W.Frag} {kv : Int → Int → V} {k : Int → Int → D} (hk : ∀ F i j, Dp K F (kv i j) (k i j)) : RSem K R (rI0 kv) (gI (fun _ _ => true) k) :=
  fun F H0 H rs x y p q z Q s hx hy e kk => by
    obtain ⟨i, j, h1, h2, _, h4⟩ := rsem_I (C := fun _ _ => True) (kv := kv) (fun _ _ _ => trivial) hk F H0 H rs x y p q z Q s hx hy e kk
    exact ⟨i, j, h1, h2, h4⟩
/-- a product: one factor below 2^64 in size -/
def cMul (i j : Int) : Bool := (decide (-18446744073709551616 < i) && decide (i < 18446744073709551616)) || (decide (-18446744073709551616 < j) && decide (j < 18446744073709551616))
theorem cMul_ok (i j : Int) (h : cMul i j = true) : CMul i j := by
  unfold cMul at h
  simp only [Bool.or_eq_true, Bool.and_eq_true, decide_eq_true_eq] at h
  unfold CMul
  exact h
def cDiv (i j : Int) : Bool := decide (0 < j) && decide (j < 1073741824)
theorem cDiv_ok (i j : Int) (h : cDiv i j = true) : CDiv i j := by
  unfold cDiv at h
  simp only [Bool.and_eq_true, decide_eq_true_eq] at h
  exact h
def cPos (i j : Int) : Bool := decide (0 < j)
def cPow (i j : Int) : Bool := decide (0 ≤ j) && (decide (j ≤ 1000000) && decide (i.natAbs < 18446744073709551616))
theorem cPow_ok (i j : Int) (h : cPow i j = true) : CPow i j := by
  unfold cPow at h
  simp only [Bool.and_eq_true, decide_eq_true_eq] at h
  exact h
abbrev gSubI := gI (fun _ _ => true) fun i j => .int (i - j)
abbrev gFdiv := gI cDiv fun i j => .int (i / j)
abbrev gMod := gI cPos fun i j => .int (i % j)
abbrev gPow := gI cPow fun i j => .int (i ^ j.toNat)
abbrev gLt := gI (fun _ _ => true) fun i j => .bool (decide (i < j))
abbrev gLe := gI (fun _ _ => true) fun i j => .bool (decide (i ≤ j))
abbrev gGt := gI (fun _ _ => true) fun i j => .bool (decide (j < i))
abbrev gGe := gI (fun _ _ => true) fun i j => .bool (decide (j ≤ i))
end
end DV

namespace DV
open PySem L2

/-- as data, where it is read at once -/
def viewD : RV → Option D
  | .d x => some x
  | .b ds => some (.list ds)
  | .n ds => some (.list ds)
  | .gb _ => none
  | .gn _ => none
  | .row => none
section
variable {K : PySem.W.Frag} {R : RA} {F F' H0 H H' : Hp} {rs rs' : RS}
theorem VR.view {v : V} {x : RV} {d : D} (s : Step K R rs F H F H) (h : VR K R F H0 H v x) (e : viewD x = some d) : Dp K H v d := by
  cases x with
  | d x => cases e; exact Dp.mono s.fin _ _ h
  | b ds =>
    cases e
    obtain ⟨a, vs, rfl, h1, h2, h3⟩ := h
    exact .lst (.inl (.inl h1)) (Dp.monoA s.fin _ _ h3)
  | n ds =>
    cases e
    obtain ⟨a, vs, rfl, h1, h0, h2, h3, h4⟩ := h
    exact .lst (.inl (.inl h1)) (Dp.monoA s.fin _ _ h4)
  | gb _ => cases e
  | gn _ => cases e
  | row => cases e
end

section
variable {X : Cx} {R : RA} {K : PySem.W.Frag} {a b c e : Expr} {es : List Expr} {ta tb tc te : TE} {tt uu : TT} {t u : TA} {f g h : Env → M RV} {pos : Pos}

def gEqB (neg : Bool) : RV → RV → Option RV := fun x y => match viewD x, viewD y with
  | some d, some e => if SeqAt.shaped d = true then if SeqAt.shaped e = true then some (.d (.bool (if neg then !PyData.eqv d e else PyData.eqv d e))) else none else none
  | _, _ => none
abbrev gEq := gEqB false
abbrev gNe := gEqB true
theorem gEqB_some {neg : Bool} {x y z : RV} (h : gEqB neg x y = some z) : ∃ d e, viewD x = some d ∧ viewD y = some e ∧ SeqAt.shaped d = true ∧ SeqAt.shaped e = true ∧ z = .d (.bool (if neg then !PyData.eqv d e else PyData.eqv d e)) := by
  unfold gEqB at h
  cases e1 : viewD x with
  | none => rw [e1] at h; cases h
  | some d =>
    cases e2 : viewD y with
    | none => rw [e1, e2] at h; cases h
    | some e =>
      rw [e1, e2] at h
      by_cases s1 : SeqAt.shaped d = true
      · by_cases s2 : SeqAt.shaped e = true
        · simp only [s1, s2, if_true] at h
          exact ⟨d, e, rfl, rfl, s1, s2, (Option.some.inj h).symm⟩
        · simp only [s1, s2, if_true] at h; cases h
      · simp only [s1] at h; cases h
theorem rsem_eq : RSem K R (rEqD K) gEq := fun F H0 H rs x y p q z Q s hx hy e kk => by
  obtain ⟨d, e', e1, e2, s1, s2, rfl⟩ := gEqB_some e
  exact ⟨d, e', (hx.view s e1).kit _ _, (hy.view s e2).kit _ _, s1, s2, kk _ F H s (.bl _)⟩
theorem rsem_ne : RSem K R (rNeD K) gNe := fun F H0 H rs x y p q z Q s hx hy e kk => by
  obtain ⟨d, e', e1, e2, s1, s2, rfl⟩ := gEqB_some e
  exact ⟨d, e', (hx.view s e1).kit _ _, (hy.view s e2).kit _ _, s1, s2, kk _ F H s (.bl _)⟩
/-- in a list or tuple -/
def seqD (y : D) (ds : List D) : Prop := y = .list ds ∨ y = .tuple ds
def rInA (K : PySem.W.Frag) (neg : Bool) : R2 := fun x y H Q => ∃ d ds e, L2.Dp K H x d ∧ L2.Dp K H y e ∧ seqD e ds ∧ SeqAt.shaped d = true ∧ SeqAt.shaped (.list ds) = true ∧ Q (.bl (if neg then !(ds.any fun z => PyData.eqv z d) else ds.any fun z => PyData.eqv z d)) H
theorem op_notInA (hu : X.A.units + 65 < cLine) : OpR X (compareOp .NotIn) (rInA X.K true) := by
  intro pins s σ H x y v u Q I rx ry h
  obtain ⟨d, ds, e, hd, he, hs, sd, se, q⟩ := h
  obtain ⟨as, r1⟩ := L2.Dp.reads I d x v hd rx
  obtain ⟨bs, r2⟩ := L2.Dp.reads I e y u he ry
  rcases hs with rfl | rfl
  · exact SeqAt.notIn_list_reads r2 r1 (SeqAt.canLay_of_shaped se) (SeqAt.canLay_of_shaped sd) (PyProof.Rows.room_in_shaped sd hu) ⟨.bl _, H, I, rfl, q⟩
  · exact SeqAt.notIn_tuple_reads r2 r1 (SeqAt.canLay_of_shaped se) (SeqAt.canLay_of_shaped sd) (PyProof.Rows.room_in_shaped sd hu) ⟨.bl _, H, I, rfl, q⟩
def gInB (neg : Bool) : RV → RV → Option RV := fun x y => match viewD x, items y with
  | some d, some ds => if SeqAt.shaped d = true then if SeqAt.shaped (.list ds) = true then some (.d (.bool (if neg then !(ds.any fun z => PyData.eqv z d) else ds.any fun z => PyData.eqv z d))) else none else none
  | _, _ => none
abbrev gIn := gInB false
abbrev gNotIn := gInB true
theorem VR.seqD {v : V} {x : RV} {ds : List D} {F H0 H : Hp} {rs : RS} (s : Step K R rs F H F H) (h : VR K R F H0 H v x) (e : DV.items x = some ds) : ∃ y, L2.Dp K H v y ∧ DV.seqD y ds := by
  obtain ⟨a, vs, rfl, h1, h2⟩ := h.items s e
  rcases h1 with h1 | h1
  · exact ⟨.list ds, .lst h1 ((Dp.monoA s.fin _ _ h2).kit _ _), .inl rfl⟩
  · exact ⟨.tuple ds, .tup h1 ((Dp.monoA s.fin _ _ h2).kit _ _), .inr rfl⟩
theorem rsem_in (neg : Bool) : RSem K R (rInA K neg) (gInB neg) := fun F H0 H rs x y p q z Q s hx hy e kk => by
  unfold gInB at e
  cases e1 : viewD p with
  | none => rw [e1] at e; cases e
  | some d =>
    cases e2 : items q with
    | none => rw [e1, e2] at e; cases e
    | some ds =>
      rw [e1, e2] at e
      by_cases s1 : SeqAt.shaped d = true
      · by_cases s2 : SeqAt.shaped (.list ds) = true
        · simp only [s1, s2, if_true] at e
          obtain ⟨y', h1, h2⟩ := hy.seqD s e2
          have e := Option.some.inj e
          subst e
          exact ⟨d, ds, y', (hx.view s e1).kit _ _, h1, h2, s1, s2, kk _ F H s (.bl _)⟩
        · simp only [s1, s2, if_true] at e; cases e
      · simp only [s1] at e; cases e
/-- is None -/
def isNoneD : D → Bool
  | .none => true
  | _ => false
def gIsN (neg : Bool) : RV → RV → Option RV := fun x y => match viewD x, y with
  | some d, .d .none => some (.d (.bool (if neg then !isNoneD d else isNoneD d)))
  | _, _ => none
theorem none_iff {v : V} {d : D} {F : Hp} (h : Dp K F v d) : decide (v = V.non) = isNoneD d := by
  cases h <;> rfl
theorem gIsN_some {neg : Bool} {x y z : RV} (h : gIsN neg x y = some z) : ∃ d, viewD x = some d ∧ y = .d .none ∧ z = .d (.bool (if neg then !isNoneD d else isNoneD d)) := by
  unfold gIsN at h
  cases e1 : viewD x with
  | none => rw [e1] at h; cases h
  | some d =>
    rw [e1] at h
    cases y with
    | d y =>
      cases y with
      | none => exact ⟨d, rfl, rfl, (Option.some.inj h).symm⟩
      | _ => cases h
    | _ => cases h
theorem rsem_isN : RSem K R (fun x y H Q => y = .non ∧ Q (.bl (decide (x = .non))) H) (gIsN false) := fun F H0 H rs x y p q z Q s hx hy e kk => by
  obtain ⟨d, e1, rfl, rfl⟩ := gIsN_some e
  cases hy
  refine ⟨rfl, kk _ F H s ?_⟩
  rw [none_iff (hx.view s e1)]
  exact .bl _
def gIx : RV → RV → Option RV := fun x y => match items x, asInt y with
  | some ds, some i => (atI ds i).map RV.d
  | _, _ => none
theorem rsem_ix : RSem K R (rIx K) gIx := fun F H0 H rs x y p q z Q s hx hy e kk => by
  unfold gIx at e
  cases e1 : items p with
  | none => rw [e1] at e; cases e
  | some ds =>
    cases e2 : asInt q with
    | none => rw [e1, e2] at e; cases e
    | some i =>
      rw [e1, e2] at e
      obtain ⟨a, vs, rfl, h1, h2⟩ := hx.items s e1
      have e' : (atI ds i).map RV.d = some z := e
      cases e3 : atI ds i with
      | none => rw [e3] at e'; cases e'
      | some d =>
        rw [e3] at e'
        cases e'
        unfold atI at e3
        cases e4 : ixN ds.length i with
        | none => rw [e4] at e3; cases e3
        | some j =>
          rw [e4] at e3
          obtain ⟨v, hv, hd⟩ := h2.get (show ds[j]? = some d from e3)
          have hat : atI vs i = some v := by
            unfold atI
            rw [h2.len, e4]
            exact hv
          rcases h1 with h1 | h1
          · exact .inl ⟨a, vs, i, v, rfl, hy.int e2, h1, hat, kk _ F H s hd⟩
          · exact .inr (.inl ⟨a, vs, i, v, rfl, hy.int e2, h1, hat, kk _ F H s hd⟩)
theorem de_ix (ha : DE X R a ta f) (hb : DE X R b tb h) (hs : PlainIx b := by exact fun _ _ => rfl) : DE X R (.Subscript a b pos) (tOp (rIx X.K) ta tb) (e2 gIx f h) :=
  ⟨pe_ix ix_seq ha.pe hb.pe hs, esem_op rsem_ix ha.sem hb.sem⟩
def cutD (xs : List D) (lo hi : Option Int) : List D := (xs.drop (HT.sIx xs.length 0 lo)).take (HT.sIx xs.length xs.length hi - HT.sIx xs.length 0 lo)
theorem DpAllcut {F : Hp} {vs : List V} {ds : List D} (h : DpAll K F vs ds) (lo hi : Option Int) : DpAll K F (cutV vs lo hi) (cutD ds lo hi) := by
  unfold cutV cutD
  rw [h.len]
  exact DpAll.take _ (DpAll.drop _ h)
/-- the parts of a slice -/
def OSem (K : PySem.W.Frag) (R : RA) (t : TO) (f : Env → M (Option Int)) : Prop :=
  ∀ (L : Nat → Option (Addr × HO)) (E : Hp) (ρ : Env) (σ : L2.St) (F H : Hp) (rs : RS) (x : Option Int) (rs' : RS) (Q : Option Int → Hp → Prop), Rel K R L E F ρ σ rs H → f ρ rs = some (x, rs') →
    (∀ F' H', Step K R rs' F H F' H' → Q x H') → t σ H Q
structure DO (X : Cx) (R : RA) (e : Option Expr) (t : TO) (f : Env → M (Option Int)) : Prop where
  po : PO X e t
  sem : OSem X.K R t f
theorem do_none : DO X R none tNoPart (fun _ => ret none) := ⟨po_none, fun L E ρ σ F H rs x rs' Q r hf k => by
  obtain ⟨e, rfl⟩ := ret_some hf
  subst e
  exact k F H r.refl⟩
theorem do_some (he : DE X R e te f) : DO X R (some e) (tPart te) (fun ρ => bnd (f ρ) fun x => bnd (lft (asInt x)) fun i => ret (some i)) := ⟨po_some he.pe, fun L E ρ σ F H rs x rs' Q r hf k => by
  obtain ⟨x1, rs1, e1, hf1⟩ := bnd_some hf
  obtain ⟨i, rs2, e2, hf2⟩ := bnd_some hf1
  obtain ⟨e3, q3⟩ := lft_some e2
  obtain ⟨e4, q4⟩ := ret_some hf2
  subst e4 q4 q3
  exact he.sem L E ρ σ F H rs x1 _ _ r e1 fun v1 F1 H1 s1 h1 => ⟨i, h1.int e3, k F1 H1 s1⟩⟩
def eSlice (f : Env → M RV) (lo hi : Env → M (Option Int)) : Env → M RV := fun ρ => bnd (f ρ) fun x => bnd (lo ρ) fun l => bnd (hi ρ) fun u => lft (match x with
  | .d (.tuple ds) => some (.d (.tuple (cutD ds l u)))
  | .d (.list ds) => some (.n (cutD ds l u))
  | .b ds => some (.n (cutD ds l u))
  | .n ds => some (.n (cutD ds l u))
  | _ => none)
theorem sl_both : SlR X (fun x lo hi H Q => rSlL X.K x lo hi H Q ∨ rSlX X.K x lo hi H Q) := SlR.or sl_list sl_tupX
theorem esem_slice {tl th : TO} {lo hi : Env → M (Option Int)} (he : ESem K R te f) (hl : OSem K R tl lo) (hh : OSem K R th hi) : ESem K R (tSl (fun x lo hi H Q => rSlL K x lo hi H Q ∨ rSlX K x lo hi H Q) te tl th) (eSlice f lo hi) :=
  fun L E ρ σ F H rs x rs' Q r0 hf kk => by
    obtain ⟨x1, rs1, e1, hf1⟩ := bnd_some hf
    obtain ⟨l, rs2, e2, hf2⟩ := bnd_some hf1
    obtain ⟨u, rs3, e3, hf3⟩ := bnd_some hf2
    obtain ⟨e4, q4⟩ := lft_some hf3
    subst q4
    refine he L E ρ σ F H rs x1 rs1 _ r0 e1 fun v1 F1 H1 s1 h1 => ?_
    refine hl L E ρ σ F1 H1 rs1 l rs2 _ (r0.step s1) e2 fun F2 H2 s2 => ?_
    refine hh L E ρ σ F2 H2 rs2 u rs' _ ((r0.step s1).step s2) e3 fun F3 H3 s3 => ?_
    have s13 := (s1.trans r0.row s2).trans r0.row s3
    have r3 := r0.step s13
    have h3 := (h1.step s2).step s3
    have mk : ∀ (a : Addr) (vs : List V) (ds : List D), v1 = .ref a → SqL K H3 a vs → DpAll K F3 vs ds → RV.n (cutD ds l u) = x → rSlL K v1 l u H3 Q := fun a vs ds ev hs hd ex => by
      refine ⟨a, vs, ev, hs, fun p hp => ?_⟩
      obtain ⟨s4, hF, hR⟩ := Step.new_lst (vs := cutV vs l u) r3.refl hp
      subst ex
      exact kk _ F3 _ (s13.trans r0.row s4) ⟨p, _, rfl, upd_same, s13.back r0.row hp, hF, hR, DpAllcut hd l u⟩
    cases x1 with
    | d y =>
      cases y with
      | tuple ds =>
        have e4 := Option.some.inj e4
        cases h3 with
        | @tup a vs _ hs hd hx1 =>
          refine .inr ⟨_, _, rfl, ex_t (r3.fr _) hs, fun hw => ?_, fun hw p ob hp hob => ?_⟩
          · have ec : cutD ds l u = ds := by
              have hl := hd.len
              unfold cutD
              rw [hl] at hw
              rw [hw.1, hw.2]
              simp
            rw [ec] at e4
            subst e4
            exact kk _ F3 H3 s13 (.tup hs hd hx1)
          · subst e4
            have s4 := Step.new_tup (ob := ob) (vs := cutV vs l u) r3.refl hp
            exact kk _ _ _ (s13.trans r0.row s4) (.tup (.inl (.inr ⟨_, upd_same⟩)) (Dp.monoA s4.sub _ _ (DpAllcut hd l u)) ⟨_, _, upd_same, hob⟩)
      | list ds =>
        have e4 := Option.some.inj e4
        cases h3 with
        | lst hs hd => exact .inl (mk _ _ ds rfl (ex_l (r3.fr _) hs) hd e4)
      | none => cases e4
      | bool _ => cases e4
      | int _ => cases e4
      | str _ => cases e4
      | dict _ => cases e4
    | b ds =>
      have e4 := Option.some.inj e4
      obtain ⟨a, vs, ev, hs, _, hd⟩ := h3
      exact .inl (mk a vs ds ev (.inl (.inl hs)) hd e4)
    | n ds =>
      have e4 := Option.some.inj e4
      obtain ⟨a, vs, ev, hs, _, _, _, hd⟩ := h3
      exact .inl (mk a vs ds ev (.inl (.inl hs)) hd e4)
    | gb _ => cases e4
    | gn _ => cases e4
    | row => cases e4
theorem de_slice {lo hi : Option Expr} {tl th : TO} {l u : Env → M (Option Int)} {p2 : Pos} (he : DE X R e te f) (hl : DO X R lo tl l) (hh : DO X R hi th u) :
    DE X R (.Subscript e (.Slice lo hi none p2) pos) (tSl (fun x lo hi H Q => rSlL X.K x lo hi H Q ∨ rSlX X.K x lo hi H Q) te tl th) (eSlice f l u) := ⟨pe_slice sl_both he.pe hl.po hh.po, esem_slice he.sem hl.sem hh.sem⟩

theorem OpR.or {fo : Value → Value → Sem Value} {r r' : R2} (h : OpR X fo r) (h' : OpR X fo r') : OpR X fo (fun x y H Q => r x y H Q ∨ r' x y H Q) := fun pins s σ H x y v u Q I rx ry hq => by
  rcases hq with q | q
  · exact h pins s σ H x y v u Q I rx ry q
  · exact h' pins s σ H x y v u Q I rx ry q
theorem sz_of {n : Nat} (h : n ≤ 100000) : n ≤ sizeLine := Nat.le_trans h (by decide)
theorem sz_lt {n : Nat} (h : n < 100000) : n < sizeLine := Nat.lt_of_lt_of_le h (by decide)
end
end DV

namespace DV
open PySem L2 PyProof.Rows PySem.Spec
theorem tup_once (l : Addr) (its : Array Value) (n : Nat) (u : Tok) (dd : Option Addr) (sl : Array (Option Value)) :
    Meets (Builtin.«tuple.__mul__» ⟨[.ref l, .int 1 u], []⟩)
      (fun _ R s => (s.heap.get? l = some ⟨.type "tuple", dd, .seq its n, sl⟩) ∧ R (.ok (.ret (Value.ref l))) s) :=
  .of_wp fun prog w A R s h => by
    obtain ⟨hp, g, d, tk, os⟩ := s
    obtain ⟨hl, h⟩ := h
    have f1 := AutoSeq1.idx_int
    wp_walk using AutoSeq1.wpAny_loadPart' hl
    exact ⟨_, rfl, h⟩
def rOnce (K : PySem.W.Frag) : R2 := fun x y H Q => ∃ l xs, x = .ref l ∧ y = .int 1 ∧ SqT K H l xs ∧ Q (.ref l) H
section
variable {X : Cx}
theorem op_once : OpR X (binaryOp .Mult) (rOnce X.K) := by
  intro pins s σ H x y v u Q I rx ry h
  obtain ⟨l, xs, rfl, rfl, hT, q⟩ := h
  have hx := rx
  cases rx
  obtain ⟨t, rfl⟩ := ry
  obtain ⟨its, r, ⟨⟨cls, dd, data, sl⟩, ho, hc, n, hd⟩, hs⟩ := I.tuple hT
  simp only at hc hd
  subst hc hd
  refine wpAny_binaryOp_repeat_ref (T := "tuple") (U := "int") (by decide) ⟨_, ho, rfl⟩ (fun s' => typeIs_int s' 1 t) noFill_tuple_mul F.fills_int_mul F.slot_int_rmul repeat_tuple F.slot_int_index.lookup
    (call_meets F.slot_int_rmul (typeIs_int s 1 t) F.entry_int_rmul (F.args_int_rmul_2 _ _) (int_rmul_tuple 1 t l its.toArray n dd sl)
      ⟨ho, rfl, ⟨_, ho, rfl⟩, call_meets F.slot_tuple_mul ⟨_, ho, rfl⟩ F.entry_tuple_mul (F.args_tuple_mul_2 _ _) (tup_once l its.toArray n t dd sl) ⟨ho, ?_⟩⟩)
  exact ⟨.ref l, _, I, rfl, q⟩
end
end DV

namespace DV
open PySem L2
section
variable {X : Cx} {R : RA} {K : PySem.W.Frag} {a b c e : Expr} {es : List Expr} {ta tb tc te : TE} {tt uu : TT} {t u : TA} {f g h : Env → M RV} {p q pos : Pos}

/-- a tracked list -/
theorem VR.lst {F H0 H : Hp} {v : V} {x : RV} {ds : List D} (h : VR K R F H0 H v x) (e : x = .b ds ∨ x = .n ds) : ∃ a vs, v = .ref a ∧ H a = some (.lst vs) ∧ DpAll K F vs ds := by
  rcases e with rfl | rfl
  · obtain ⟨a, vs, e1, h1, h2, h3⟩ := h
    exact ⟨a, vs, e1, h1, h3⟩
  · obtain ⟨a, vs, e1, h1, h0, h2, h3, h4⟩ := h
    exact ⟨a, vs, e1, h1, h4⟩
def asLst : RV → Option (List D)
  | .b ds => some ds
  | .n ds => some ds
  | _ => none
theorem asLst_some {x : RV} {ds : List D} (h : asLst x = some ds) : x = .b ds ∨ x = .n ds := by
  cases x with
  | b es => cases h; exact .inl rfl
  | n es => cases h; exact .inr rfl
  | _ => cases h
def gAddA : RV → RV → Option RV := fun x y => match x, y with
  | .d (.int i), .d (.int j) => some (.d (.int (i + j)))
  | .d (.tuple ds), .d (.tuple es) => if ds.length + es.length ≤ 100000 then some (.d (.tuple (ds ++ es))) else none
  | x, y => match asLst x, asLst y with
    | some ds, some es => if ds.length + es.length ≤ 100000 then some (.n (ds ++ es)) else none
    | _, _ => none
abbrev rAddA (K : PySem.W.Frag) : R2 := fun x y H Q => rI0 (fun i j => .int (i + j)) x y H Q ∨ (rCatX K x y H Q ∨ rCat x y H Q)
theorem op_addA : OpR X (binaryOp .Add) (rAddA X.K) := OpR.or op_add (OpR.or op_catX op_cat)
theorem gAddA_some {x y z : RV} (h : gAddA x y = some z) :
    (∃ i j, x = .d (.int i) ∧ y = .d (.int j) ∧ z = .d (.int (i + j))) ∨
    (∃ ds es, x = .d (.tuple ds) ∧ y = .d (.tuple es) ∧ ds.length + es.length ≤ 100000 ∧ z = .d (.tuple (ds ++ es))) ∨
    (∃ ds es, asLst x = some ds ∧ asLst y = some es ∧ ds.length + es.length ≤ 100000 ∧ z = .n (ds ++ es)) := by
  unfold gAddA at h
  split at h
  · exact .inl ⟨_, _, rfl, rfl, (Option.some.inj h).symm⟩
  · split at h
    · rename_i hl
      exact .inr (.inl ⟨_, _, rfl, rfl, hl, (Option.some.inj h).symm⟩)
    · cases h
  · split at h
    · rename_i ds es e1 e2
      split at h
      · rename_i hl
        exact .inr (.inr ⟨ds, es, e1, e2, hl, (Option.some.inj h).symm⟩)
      · cases h
    · cases h
theorem rsem_add : RSem K R (rAddA K) gAddA := fun F H0 H rs x y p q z Q s hx hy e kk => by
  rcases gAddA_some e with ⟨i, j, rfl, rfl, rfl⟩ | ⟨ds, es, rfl, rfl, hl, rfl⟩ | ⟨ds, es, e1, e2, hl, rfl⟩
  · cases hx; cases hy
    exact .inl ⟨i, j, rfl, rfl, kk _ F H s (Dp.int _)⟩
  · cases hx with
    | @tup a vs _ h1 h2 hx1 =>
      cases hy with
      | @tup b ws _ k1 k2 hy1 =>
        refine .inr (.inl ⟨a, b, vs, ws, rfl, rfl, ex_t (s.fin _) h1, ex_t (s.fin _) k1, by rw [h2.len, k2.len]; exact sz_of hl, fun ev => ?_, fun nv ew => ?_, fun nv nw pp ob hp hob => ?_⟩)
        · have ed : ds = [] := List.eq_nil_of_length_eq_zero (by rw [← h2.len, ev]; rfl)
          refine kk _ F H s ?_
          rw [ed]
          exact .tup k1 k2 hy1
        · have ed : es = [] := List.eq_nil_of_length_eq_zero (by rw [← k2.len, ew]; rfl)
          refine kk _ F H s ?_
          rw [ed, List.append_nil]
          exact .tup h1 h2 hx1
        · have s4 := Step.new_tup (ob := ob) (vs := vs ++ ws) s hp
          exact kk _ _ _ s4 (.tup (.inl (.inr ⟨_, upd_same⟩)) (Dp.monoA s4.sub _ _ (h2.append k2)) ⟨_, _, upd_same, hob⟩)
  · obtain ⟨a, vs, rfl, h1, h2⟩ := hx.lst (asLst_some e1)
    obtain ⟨b, ws, rfl, k1, k2⟩ := hy.lst (asLst_some e2)
    refine .inr (.inr ⟨a, b, vs, ws, rfl, rfl, h1, k1, by rw [h2.len, k2.len]; exact sz_of hl, fun pp hp => ?_⟩)
    obtain ⟨s4, hF, hR⟩ := Step.new_lst (vs := vs ++ ws) s hp
    exact kk _ F _ s4 ⟨pp, _, rfl, upd_same, hp, hF, hR, h2.append k2⟩
/-- list * n -/
def gMulA : RV → RV → Option RV := fun x y => match x, y with
  | .d (.int i), .d (.int j) => if cMul i j = true then some (.d (.int (i * j))) else none
  | .d (.tuple ds), .d (.int j) => if 1 ≤ j ∧ j ≤ 1000 ∧ ds.length ≤ 1000 ∧ ds ≠ [] then some (.d (.tuple (List.replicate j.toNat ds).flatten)) else none
  | x, .d (.int j) => match asLst x with
    | some ds => if -1000 ≤ j ∧ j ≤ 1000 ∧ ds.length ≤ 1000 then some (.n (List.replicate j.toNat ds).flatten) else none
    | none => none
  | _, _ => none
abbrev rMulA (K : PySem.W.Frag) : R2 := fun x y H Q => rI CMul (fun i j => .int (i * j)) x y H Q ∨ ((rOnce K x y H Q ∨ rRepX K x y H Q) ∨ rRep x y H Q)
theorem op_mulA : OpR X (binaryOp .Mult) (rMulA X.K) := OpR.or op_mul (OpR.or (OpR.or op_once op_repX) op_rep)
theorem gMulA_some {x y z : RV} (h : gMulA x y = some z) :
    (∃ i j, x = .d (.int i) ∧ y = .d (.int j) ∧ cMul i j = true ∧ z = .d (.int (i * j))) ∨
    (∃ ds j, x = .d (.tuple ds) ∧ y = .d (.int j) ∧ (1 ≤ j ∧ j ≤ 1000 ∧ ds.length ≤ 1000 ∧ ds ≠ []) ∧ z = .d (.tuple (List.replicate j.toNat ds).flatten)) ∨
    (∃ ds j, asLst x = some ds ∧ y = .d (.int j) ∧ (-1000 ≤ j ∧ j ≤ 1000 ∧ ds.length ≤ 1000) ∧ z = .n (List.replicate j.toNat ds).flatten) := by
  unfold gMulA at h
  split at h
  · split at h
    · rename_i hl
      exact .inl ⟨_, _, rfl, rfl, hl, (Option.some.inj h).symm⟩
    · cases h
  · split at h
    · rename_i hl
      exact .inr (.inl ⟨_, _, rfl, rfl, hl, (Option.some.inj h).symm⟩)
    · cases h
  · split at h
    · rename_i ds e1
      split at h
      · rename_i hl
        exact .inr (.inr ⟨ds, _, e1, rfl, hl, (Option.some.inj h).symm⟩)
      · cases h
    · cases h
  · cases h
theorem rsem_mul : RSem K R (rMulA K) gMulA := fun F H0 H rs x y p q z Q s hx hy e kk => by
  rcases gMulA_some e with ⟨i, j, rfl, rfl, hc, rfl⟩ | ⟨ds, j, rfl, rfl, ⟨h2, h3, h4, h5⟩, rfl⟩ | ⟨ds, j, e1, rfl, ⟨h2, h3, h4⟩, rfl⟩
  · cases hx; cases hy
    exact .inl ⟨i, j, rfl, rfl, cMul_ok i j hc, kk _ F H s (Dp.int _)⟩
  · cases hy
    cases hx with
    | @tup a vs _ k1 k2 hx1 =>
      by_cases hj : j = 1
      · subst hj
        refine .inr (.inl (.inl ⟨a, vs, rfl, rfl, ex_t (s.fin _) k1, kk _ F H s ?_⟩))
        rw [show (List.replicate (1 : Int).toNat ds).flatten = ds by simp]
        exact .tup k1 k2 hx1
      refine .inr (.inl (.inr ⟨a, j, vs, rfl, rfl, ex_t (s.fin _) k1, fun ev => h5 (List.eq_nil_of_length_eq_zero (by rw [← k2.len, ev]; rfl)), by omega, h3, by rw [k2.len]; exact h4, fun pp ob hp hob => ?_⟩))
      have s4 := Step.new_tup (ob := ob) (vs := (List.replicate j.toNat vs).flatten) s hp
      exact kk _ _ _ s4 (.tup (.inl (.inr ⟨_, upd_same⟩)) (Dp.monoA s4.sub _ _ (k2.rep _)) ⟨_, _, upd_same, hob⟩)
  · cases hy
    obtain ⟨a, vs, rfl, k1, k2⟩ := hx.lst (asLst_some e1)
    refine .inr (.inr ⟨a, j, vs, rfl, rfl, k1, by omega, by omega, ?_, fun pp hp => ?_⟩)
    · rw [k2.len]
      have : ds.length * j.toNat ≤ 1000 * 1000 := Nat.mul_le_mul h4 (by omega)
      exact Nat.le_trans this (by decide)
    · obtain ⟨s4, hF, hR⟩ := Step.new_lst (vs := (List.replicate j.toNat vs).flatten) s hp
      exact kk _ F _ s4 ⟨pp, _, rfl, upd_same, hp, hF, hR, k2.rep _⟩

def eNeg (f : Env → M RV) : Env → M RV := fun ρ => bnd (f ρ) fun x => bnd (lft (asInt x)) fun i => ret (.d (.int (-i)))
theorem de_neg (ha : DE X R a ta f) : DE X R (.UnaryOp .USub a pos) (tUn (rU fun i => .int (-i)) ta) (eNeg f) := ⟨pe_un un_neg ha.pe, fun L E ρ σ F H rs x rs' Q r hf k => by
  obtain ⟨x1, rs1, e1, hf1⟩ := bnd_some hf
  obtain ⟨i, rs2, e2, hf2⟩ := bnd_some hf1
  obtain ⟨e3, q3⟩ := lft_some e2
  obtain ⟨e4, q4⟩ := ret_some hf2
  subst e4 q4 q3
  exact ha.sem L E ρ σ F H rs x1 _ _ r e1 fun v1 F1 H1 s1 h1 => ⟨i, h1.int e3, k _ F1 H1 s1 (Dp.int _)⟩⟩
def tIfT (f : Env → M Bool) (g h : Env → M Bool) : Env → M Bool := fun ρ => bnd (f ρ) fun c => if c = true then g ρ else h ρ
def tRetB (b : Bool) : Env → M Bool := fun _ => ret b
section tests
variable {x y : Env → M Bool} {rest : List Expr}
theorem tsem_and (hx : TSem K R tt x) (hy : TSem K R uu y) : TSem K R (tAnd tt uu) (tIfT x y (tRetB false)) := fun L E ρ σ F H rs z rs' Q r hf k => by
  obtain ⟨c, rs1, e1, hf1⟩ := bnd_some hf
  refine hx L E ρ σ F H rs c rs1 _ r e1 fun F1 H1 s1 => ?_
  cases c with
  | true =>
    rw [if_pos rfl] at hf1 ⊢
    exact hy L E ρ σ F1 H1 rs1 z rs' _ (r.step s1) hf1 fun F2 H2 s2 => k F2 H2 (s1.trans r.row s2)
  | false =>
    rw [if_neg Bool.false_ne_true] at hf1 ⊢
    obtain ⟨e2, q2⟩ := ret_some hf1
    subst e2 q2
    exact k F1 H1 s1
theorem tsem_or (hx : TSem K R tt x) (hy : TSem K R uu y) : TSem K R (tOr tt uu) (tIfT x (tRetB true) y) := fun L E ρ σ F H rs z rs' Q r hf k => by
  obtain ⟨c, rs1, e1, hf1⟩ := bnd_some hf
  refine hx L E ρ σ F H rs c rs1 _ r e1 fun F1 H1 s1 => ?_
  cases c with
  | true =>
    rw [if_pos rfl] at hf1 ⊢
    obtain ⟨e2, q2⟩ := ret_some hf1
    subst e2 q2
    exact k F1 H1 s1
  | false =>
    rw [if_neg Bool.false_ne_true] at hf1 ⊢
    exact hy L E ρ σ F1 H1 rs1 z rs' _ (r.step s1) hf1 fun F2 H2 s2 => k F2 H2 (s1.trans r.row s2)
theorem DW.dt (w : DW X R e tt x) : DT X R e tt x := ⟨w.pw.pt, w.sem⟩
theorem dw_and1 (hx : DT X R a tt x) : DW X R (.BoolOp .And [a] pos) tt x := ⟨pw_and1 hx.pt, hx.sem⟩
theorem dw_or1 (hx : DT X R a tt x) : DW X R (.BoolOp .Or [a] pos) tt x := ⟨pw_or1 hx.pt, hx.sem⟩
theorem dw_and (hx : DT X R a tt x) (hy : DW X R (.BoolOp .And (b :: rest) pos) uu y) : DW X R (.BoolOp .And (a :: b :: rest) pos) (tAnd tt uu) (tIfT x y (tRetB false)) := ⟨pw_and hx.pt hy.pw, tsem_and hx.sem hy.sem⟩
theorem dw_or (hx : DT X R a tt x) (hy : DW X R (.BoolOp .Or (b :: rest) pos) uu y) : DW X R (.BoolOp .Or (a :: b :: rest) pos) (tOr tt uu) (tIfT x (tRetB true) y) := ⟨pw_or hx.pt hy.pw, tsem_or hx.sem hy.sem⟩
def tNotF (x : Env → M Bool) : Env → M Bool := fun ρ => bnd (x ρ) fun c => ret (!c)
theorem dt_not (hx : DT X R a tt x) : DT X R (.UnaryOp .Not a pos) (tNot tt) (tNotF x) := ⟨pt_not hx.pt, fun L E ρ σ F H rs z rs' Q r hf k => by
  obtain ⟨c, rs1, e1, hf1⟩ := bnd_some hf
  obtain ⟨e2, q2⟩ := ret_some hf1
  subst e2 q2
  exact hx.sem L E ρ σ F H rs c _ _ r e1 k⟩
/-- as values -/
def eIfB (f : Env → M RV) (g h : Env → M RV) : Env → M RV := fun ρ => bnd (f ρ) fun v => bnd (lft (asBool v)) fun c => if c = true then g ρ else h ρ
theorem de_one {op} (ha : DE X R a ta f) : DE X R (.BoolOp op [a] pos) ta f := ⟨pe_one ha.pe, ha.sem⟩
theorem de_and (ha : DE X R a ta f) (hb : DE X R (.BoolOp .And (b :: rest) pos) tb g) : DE X R (.BoolOp .And (a :: b :: rest) pos) (tAndV ta tb) (eIfB f g (eC (.bool false))) := ⟨pe_and ha.pe hb.pe, fun L E ρ σ F H rs z rs' Q r hf k => by
  obtain ⟨v, rs1, e1, hf1⟩ := bnd_some hf
  obtain ⟨c, rs2, e2, hf2⟩ := bnd_some hf1
  obtain ⟨e3, q3⟩ := lft_some e2
  subst q3
  refine ha.sem L E ρ σ F H rs v _ _ r e1 fun v1 F1 H1 s1 h1 => ⟨c, h1.bool e3, ?_⟩
  cases c with
  | true =>
    rw [if_pos rfl] at hf2 ⊢
    exact hb.sem L E ρ σ F1 H1 _ z rs' _ (r.step s1) hf2 fun v2 F2 H2 s2 h2 => k v2 F2 H2 (s1.trans r.row s2) (h2.older fun a q => s1.back r.row q)
  | false =>
    rw [if_neg Bool.false_ne_true] at hf2 ⊢
    obtain ⟨e4, q4⟩ := ret_some hf2
    subst e4 q4
    exact k _ F1 H1 s1 (.bl false)⟩
theorem de_or (ha : DE X R a ta f) (hb : DE X R (.BoolOp .Or (b :: rest) pos) tb g) : DE X R (.BoolOp .Or (a :: b :: rest) pos) (tOrV ta tb) (eIfB f (eC (.bool true)) g) := ⟨pe_or ha.pe hb.pe, fun L E ρ σ F H rs z rs' Q r hf k => by
  obtain ⟨v, rs1, e1, hf1⟩ := bnd_some hf
  obtain ⟨c, rs2, e2, hf2⟩ := bnd_some hf1
  obtain ⟨e3, q3⟩ := lft_some e2
  subst q3
  refine ha.sem L E ρ σ F H rs v _ _ r e1 fun v1 F1 H1 s1 h1 => ⟨c, h1.bool e3, ?_⟩
  cases c with
  | false =>
    rw [if_neg Bool.false_ne_true] at hf2 ⊢
    exact hb.sem L E ρ σ F1 H1 _ z rs' _ (r.step s1) hf2 fun v2 F2 H2 s2 h2 => k v2 F2 H2 (s1.trans r.row s2) (h2.older fun a q => s1.back r.row q)
  | true =>
    rw [if_pos rfl] at hf2 ⊢
    obtain ⟨e4, q4⟩ := ret_some hf2
    subst e4 q4
    exact k _ F1 H1 s1 (.bl true)⟩
def eNotB (f : Env → M RV) : Env → M RV := fun ρ => bnd (f ρ) fun v => bnd (lft (asBool v)) fun c => ret (.d (.bool (!c)))
theorem de_not (ha : DE X R a ta f) : DE X R (.UnaryOp .Not a pos) (tNotV ta) (eNotB f) := ⟨pe_not ha.pe, fun L E ρ σ F H rs z rs' Q r hf k => by
  obtain ⟨v, rs1, e1, hf1⟩ := bnd_some hf
  obtain ⟨c, rs2, e2, hf2⟩ := bnd_some hf1
  obtain ⟨e3, q3⟩ := lft_some e2
  obtain ⟨e4, q4⟩ := ret_some hf2
  subst e4 q4 q3
  exact ha.sem L E ρ σ F H rs v _ _ r e1 fun v1 F1 H1 s1 h1 => ⟨c, h1.bool e3, k _ F1 H1 s1 (.bl _)⟩⟩
/-- a if t else b; the two ends may be a new list or data -/
def eIf (x : Env → M Bool) (f g : Env → M RV) : Env → M RV := fun ρ => bnd (x ρ) fun c => if c = true then f ρ else g ρ
theorem de_if (hc : DT X R c tt x) (ha : DE X R a ta f) (hb : DE X R b tb g) : DE X R (.IfExp c a b pos) (tIf tt ta tb) (eIf x f g) := ⟨pe_ifExp hc.pt ha.pe hb.pe, fun L E ρ σ F H rs z rs' Q r hf k => by
  obtain ⟨c, rs1, e1, hf1⟩ := bnd_some hf
  refine hc.sem L E ρ σ F H rs c rs1 _ r e1 fun F1 H1 s1 => ?_
  cases c with
  | true =>
    rw [if_pos rfl] at hf1 ⊢
    exact ha.sem L E ρ σ F1 H1 rs1 z rs' _ (r.step s1) hf1 fun v2 F2 H2 s2 h2 => k v2 F2 H2 (s1.trans r.row s2) (h2.older fun a q => s1.back r.row q)
  | false =>
    rw [if_neg Bool.false_ne_true] at hf1 ⊢
    exact hb.sem L E ρ σ F1 H1 rs1 z rs' _ (r.step s1) hf1 fun v2 F2 H2 s2 h2 => k v2 F2 H2 (s1.trans r.row s2) (h2.older fun a q => s1.back r.row q)⟩
end tests

def aNil : Env → M (List RV) := fun _ => ret []
def aCons (f : Env → M RV) (fa : Env → M (List RV)) : Env → M (List RV) := fun ρ => bnd (f ρ) fun x => bnd (fa ρ) fun xs => ret (x :: xs)
theorem VRs.step {F F' H0 H H' : Hp} {rs' : RS} (s : Step K R rs' F H F' H') : ∀ {vs : List V} {xs : List RV}, VRs K R F H0 H vs xs → VRs K R F' H0 H' vs xs
  | _, _, .nil => .nil
  | _, _, .cons h t => .cons (h.step s) (VRs.step s t)
theorem da_nil : DA X R [] tNil aNil := ⟨pa_nil, fun L E ρ σ F H rs x rs' Q r hf k => by
  obtain ⟨e1, q1⟩ := ret_some hf
  subst e1 q1
  exact k [] F H r.refl .nil⟩
theorem da_cons {fa : Env → M (List RV)} (ha : DE X R e te f) (hr : DA X R es t fa) (hs : starEach (e :: es) X.env = (false, eval e X.env) :: starEach es X.env := by rfl) : DA X R (e :: es) (tCons te t) (aCons f fa) := ⟨pa_cons ha.pe hr.pa hs, fun L E ρ σ F H rs x rs' Q r hf k => by
  obtain ⟨x1, rs1, e1, hf1⟩ := bnd_some hf
  obtain ⟨xs, rs2, e2, hf2⟩ := bnd_some hf1
  obtain ⟨e3, q3⟩ := ret_some hf2
  subst e3 q3
  refine ha.sem L E ρ σ F H rs x1 rs1 _ r e1 fun v1 F1 H1 s1 h1 => ?_
  refine hr.sem L E ρ σ F1 H1 rs1 xs _ _ (r.step s1) e2 fun vs F2 H2 s2 h2 => ?_
  exact k _ F2 H2 (s1.trans r.row s2) (.cons (h1.step s2) (h2.older fun a q => s1.back r.row q))⟩
def aStar (f : Env → M RV) (fa : Env → M (List RV)) : Env → M (List RV) := fun ρ => bnd (f ρ) fun x => bnd (lft (items x)) fun ds => bnd (fa ρ) fun xs => ret (ds.map RV.d ++ xs)
theorem VRs.append {F H0 H : Hp} : ∀ {vs ws : List V} {xs ys : List RV}, VRs K R F H0 H vs xs → VRs K R F H0 H ws ys → VRs K R F H0 H (vs ++ ws) (xs ++ ys)
  | _, _, _, _, .nil, h => h
  | _, _, _, _, .cons h t, h' => .cons h (VRs.append t h')
/-- (a, b, ..) -/
def eTup (fa : Env → M (List RV)) : Env → M RV := fun ρ => bnd (fa ρ) fun xs => bnd (lft (toDs xs)) fun ds => if ds.length ≤ 100000 then ret (.d (.tuple ds)) else fail
def eLst (fa : Env → M (List RV)) : Env → M RV := fun ρ => bnd (fa ρ) fun xs => bnd (lft (toDs xs)) fun ds => if ds.length ≤ 100000 then ret (.n ds) else fail
theorem frozen {F H0 H F1 : Hp} {rs rs' : RS} {L : Nat → Option (Addr × HO)} {E : Hp} {ρ : Env} {σ : L2.St} (r : Rel K R L E F ρ σ rs H0) (s : Step K R rs' F H0 F1 H) {vs : List V} {xs : List RV} {ds : List D} (h : VRs K R F1 H0 H vs xs) (e : toDs xs = some ds) :
    ∃ F2, Step K R rs' F H0 F2 H ∧ DpAll K F2 vs ds := by
  obtain ⟨F2, k1, k2, k3, k4, k5, hA⟩ := VRs.freeze (r.step s).refl h e
  refine ⟨F2, ⟨fun a o h q n => s.keep a o h q n, fun a o q => k1 a o (s.sub a o q), fun a o q => ?_, k3, s.row.mono k1 k5, k4⟩, hA⟩
  rcases k2 a o q with z | z
  · exact s.new a o z
  · exact .inr z
theorem tup_some {fa : Env → M (List RV)} {mk : List D → RV} {ρ : Env} {rs rs' : RS} {x : RV} (hf : (bnd (fa ρ) fun xs => bnd (lft (toDs xs)) fun ds => if ds.length ≤ 100000 then ret (mk ds) else fail) rs = some (x, rs')) :
    ∃ xs ds, fa ρ rs = some (xs, rs') ∧ toDs xs = some ds ∧ ds.length ≤ 100000 ∧ x = mk ds := by
  obtain ⟨xs, rs1, e1, hf1⟩ := bnd_some hf
  obtain ⟨ds, rs2, e2, hf2⟩ := bnd_some hf1
  obtain ⟨e3, q3⟩ := lft_some e2
  subst q3
  by_cases hl : ds.length ≤ 100000
  · rw [if_pos hl] at hf2
    obtain ⟨e4, q4⟩ := ret_some hf2
    subst e4 q4
    exact ⟨xs, ds, e1, e3, hl, rfl⟩
  · rw [if_neg hl] at hf2
    cases hf2
theorem de_tup {fa : Env → M (List RV)} {x1} (h : DA X R es t fa) : DE X R (.Tuple es x1 pos) (tTupX t) (eTup fa) := ⟨pe_tupX h.pa, fun L E ρ σ F H rs x rs' Q r hf k => by
  obtain ⟨xs, ds, e1, e3, hl, rfl⟩ := tup_some hf
  refine h.sem L E ρ σ F H rs xs rs' _ r e1 fun vs F1 H1 s1 hv => ?_
  obtain ⟨F2, s2, hA⟩ := frozen r s1 hv e3
  refine ⟨by rw [hA.len]; exact sz_of hl, fun pp ob hp hob => ?_⟩
  have s4 := Step.new_tup (ob := ob) (vs := vs) (r.step s2).refl hp
  exact k _ _ _ (s2.trans r.row s4) (.tup (.inl (.inr ⟨_, upd_same⟩)) (Dp.monoA s4.sub _ _ hA) ⟨_, _, upd_same, hob⟩)⟩
theorem de_lst {fa : Env → M (List RV)} (h : DA X R es t fa) : DE X R (.List es pos) (tLst t) (eLst fa) := ⟨pe_lst h.pa, fun L E ρ σ F H rs x rs' Q r hf k => by
  obtain ⟨xs, ds, e1, e3, hl, rfl⟩ := tup_some hf
  refine h.sem L E ρ σ F H rs xs rs' _ r e1 fun vs F1 H1 s1 hv => ?_
  obtain ⟨F2, s2, hA⟩ := frozen r s1 hv e3
  refine ⟨by rw [hA.len]; exact sz_of hl, fun pp hp => ?_⟩
  obtain ⟨s4, hF, hR⟩ := Step.new_lst (vs := vs) (r.step s2).refl hp
  exact k _ _ _ (s2.trans r.row s4) ⟨pp, _, rfl, upd_same, s2.back r.row hp, hF, hR, hA⟩⟩

def CSem (K : PySem.W.Frag) (R : RA) (r : List V → Hp → VK → Prop) (g : List RV → Option RV) : Prop :=
  ∀ (F H0 H : Hp) (rs : RS) (vs : List V) (xs : List RV) (z : RV) (Q : VK), Step K R rs F H F H → VRs K R F H0 H vs xs → g xs = some z →
    (∀ v F' H', Step K R rs F H F' H' → VR K R F' H H' v z → Q v H') → r vs H Q
def eCall (g : List RV → Option RV) (fa : Env → M (List RV)) : Env → M RV := fun ρ => bnd (fa ρ) fun xs => lft (g xs)
theorem esem_call {r : List V → Hp → VK → Prop} {g : List RV → Option RV} {fa : Env → M (List RV)} (hr : CSem K R r g) (ha : ASem K R t fa) : ESem K R (tCB r t) (eCall g fa) := fun L E ρ σ F H rs x rs' Q r0 hf k => by
  obtain ⟨xs, rs1, e1, hf1⟩ := bnd_some hf
  obtain ⟨e2, q2⟩ := lft_some hf1
  subst q2
  refine ha L E ρ σ F H rs xs _ _ r0 e1 fun vs F1 H1 s1 h1 => ?_
  exact hr F1 H H1 _ vs xs x Q (r0.step s1).refl h1 e2 fun v F2 H2 s2 h2 => k v F2 H2 (s1.trans r0.row s2) (h2.older fun a q => s1.back r0.row q)
theorem de_callB {id : String} {x : Str} {r : List V → Hp → VK → Prop} {g : List RV → Option RV} {fa : Env → M (List RV)} (hc : CallR X (.builtin id) r) (hr : CSem X.K R r g) (hg : Gl X x) (hm : X.mg x = none) (hv : bootBuiltins x = some (.builtin id)) (ha : DA X R (e :: es) t fa)
    (hn : x ≠ "__name__" := by decide) (hdb : (x == ("__debug__" : Str)) = false := by decide) (he : starEach (e :: es) X.env = (false, eval e X.env) :: starEach es X.env := by rfl) (hpl : (backTo pos (starEach es X.env)).any (·.1) = false := by rfl) :
    DE X R (.Call (.Name x p) (e :: es) [] pos) (tCB r t) (eCall g fa) := ⟨pe_callB hc hg hm hv ha.pa hn hdb he hpl, esem_call hr ha.sem⟩
theorem de_callTy {T : String} {x : Str} {r : List V → Hp → VK → Prop} {g : List RV → Option RV} {fa : Env → M (List RV)} (hc : CallR X (.type T) r) (hr : CSem X.K R r g) (hg : Gl X x) (hm : X.mg x = none) (hv : bootBuiltins x = some (.type T)) (ha : DA X R (e :: es) t fa)
    (hn : x ≠ "__name__" := by decide) (hdb : (x == ("__debug__" : Str)) = false := by decide) (he : starEach (e :: es) X.env = (false, eval e X.env) :: starEach es X.env := by rfl) (hpl : (backTo pos (starEach es X.env)).any (·.1) = false := by rfl) :
    DE X R (.Call (.Name x p) (e :: es) [] pos) (tCB r t) (eCall g fa) := ⟨pe_callTy hc hg hm hv ha.pa hn hdb he hpl, esem_call hr ha.sem⟩
end
end DV

namespace DV
open PySem L2
section
variable {X : Cx} {R : RA} {K : PySem.W.Frag} {a b c e : Expr} {es : List Expr} {ta tb tc te : TE} {tt uu : TT} {t u : TA} {f g h : Env → M RV} {p q pos : Pos}
/-- a function of one argument -/
def c1 (k : RV → Option RV) : List RV → Option RV
  | [x] => k x
  | _ => none
def c2 (k : RV → RV → Option RV) : List RV → Option RV
  | [x, y] => k x y
  | _ => none
theorem c1_some {k : RV → Option RV} {xs : List RV} {z : RV} (h : c1 k xs = some z) : ∃ x, xs = [x] ∧ k x = some z := by
  unfold c1 at h
  split at h
  · exact ⟨_, rfl, h⟩
  · cases h
theorem c2_some {k : RV → RV → Option RV} {xs : List RV} {z : RV} (h : c2 k xs = some z) : ∃ x y, xs = [x, y] ∧ k x y = some z := by
  unfold c2 at h
  split at h
  · exact ⟨_, _, rfl, h⟩
  · cases h
theorem VRs.one {F H0 H : Hp} {vs : List V} {x : RV} (h : VRs K R F H0 H vs [x]) : ∃ v, vs = [v] ∧ VR K R F H0 H v x := by
  cases h with
  | cons h1 h2 => cases h2; exact ⟨_, rfl, h1⟩
theorem VRs.two {F H0 H : Hp} {vs : List V} {x y : RV} (h : VRs K R F H0 H vs [x, y]) : ∃ v w, vs = [v, w] ∧ VR K R F H0 H v x ∧ VR K R F H0 H w y := by
  cases h with
  | cons h1 h2 =>
    cases h2 with
    | cons h2 h3 => cases h3; exact ⟨_, _, rfl, h1, h2⟩

def gLen : List RV → Option RV := c1 fun x => (items x).map fun ds => .d (.int ds.length)
abbrev rLen (K : PySem.W.Frag) : List V → Hp → VK → Prop := fun xs H Q => ∃ p ys, xs = [.ref p] ∧ (SqL K H p ys ∨ SqT K H p ys) ∧ Q (.int ys.length) H
theorem csem_len : CSem K R (rLen K) gLen := fun F H0 H rs vs xs z Q s hv e kk => by
  obtain ⟨x, rfl, ee⟩ := c1_some e
  clear e
  have e := ee
  clear ee
  obtain ⟨v, rfl, hx⟩ := hv.one
  cases e1 : items x with
  | none => rw [e1] at e; cases e
  | some ds =>
    rw [e1] at e
    cases e
    obtain ⟨a, ws, rfl, h1, h2⟩ := hx.items s e1
    refine ⟨a, ws, rfl, h1, ?_⟩
    rw [h2.len]
    exact kk _ F H s (Dp.int _)
def gList : List RV → Option RV := c1 fun x => (items x).map fun ds => .n ds
def gTuple : List RV → Option RV := c1 fun x => (items x).map fun ds => .d (.tuple ds)
abbrev rTuple := rTupX
theorem csem_tuple : CSem K R (rTuple K) gTuple := fun F H0 H rs vs xs z Q s hv e kk => by
  obtain ⟨x, rfl, ee⟩ := c1_some e
  clear e
  have e := ee
  clear ee
  obtain ⟨v, rfl, hx⟩ := hv.one
  have go : ∀ (a : Addr) (ws : List V) (ds : List D), v = .ref a → SqL K H a ws → DpAll K F ws ds → z = .d (.tuple ds) → rTuple K [v] H Q := fun a ws ds ev h1 h2 ez => by
    subst ev ez
    refine ⟨a, ws, rfl, .inl ⟨h1, fun l ob hl hob => ?_⟩⟩
    have s4 := Step.new_tup (ob := ob) (vs := ws) s hl
    exact kk _ _ _ s4 (.tup (.inl (.inr ⟨_, upd_same⟩)) (Dp.monoA s4.sub _ _ h2) ⟨_, _, upd_same, hob⟩)
  cases x with
  | d y =>
    cases y with
    | tuple ds =>
      cases e
      cases hx with
      | @tup a ws _ h1 h2 hx => exact ⟨a, ws, rfl, .inr ⟨ex_t (s.fin _) h1, kk _ F H s (.tup h1 h2 hx)⟩⟩
    | list ds =>
      cases e
      cases hx with
      | @lst a ws _ h1 h2 => exact go a ws ds rfl (ex_l (s.fin _) h1) h2 rfl
    | none => cases e
    | bool _ => cases e
    | int _ => cases e
    | str _ => cases e
    | dict _ => cases e
  | b ds =>
    cases e
    obtain ⟨a, ws, ev, h1, h2⟩ := hx.lst (.inl rfl)
    exact go a ws ds ev (.inl (.inl h1)) h2 rfl
  | n ds =>
    cases e
    obtain ⟨a, ws, ev, h1, h2⟩ := hx.lst (.inr rfl)
    exact go a ws ds ev (.inl (.inl h1)) h2 rfl
  | gb _ => cases e
  | gn _ => cases e
  | row => cases e
def gAbs : List RV → Option RV := c1 fun x => (asInt x).map fun i => .d (.int (if i < 0 then -i else i))
theorem csem_abs : CSem K R (fun xs H Q => ∃ i, xs = [.int i] ∧ Q (.int (if i < 0 then -i else i)) H) gAbs := fun F H0 H rs vs xs z Q s hv e kk => by
  obtain ⟨x, rfl, ee⟩ := c1_some e
  clear e
  have e := ee
  clear ee
  obtain ⟨v, rfl, hx⟩ := hv.one
  cases e1 : asInt x with
  | none => rw [e1] at e; cases e
  | some i =>
    rw [e1] at e
    cases e
    have := hx.int e1
    subst this
    exact ⟨i, rfl, kk _ F H s (Dp.int _)⟩
def gInt : List RV → Option RV := c1 fun x => match asInt x with
  | some i => some (.d (.int i))
  | none => (asBool x).map fun b => .d (.int (if b = true then 1 else 0))
theorem csem_int : CSem K R (fun xs H Q => (∃ i, xs = [.int i] ∧ Q (.int i) H) ∨ ∃ k, xs = [.bl k] ∧ Q (.int (if k then 1 else 0)) H) gInt := fun F H0 H rs vs xs z Q s hv e kk => by
  obtain ⟨x, rfl, ee⟩ := c1_some e
  clear e
  have e := ee
  clear ee
  obtain ⟨v, rfl, hx⟩ := hv.one
  cases e1 : asInt x with
  | none =>
    rw [e1] at e
    cases e2 : asBool x with
    | none => rw [e2] at e; cases e
    | some b =>
      rw [e2] at e
      cases e
      have := hx.bool e2
      subst this
      exact .inr ⟨b, rfl, kk _ F H s (Dp.int _)⟩
  | some i =>
    rw [e1] at e
    cases e
    have := hx.int e1
    subst this
    exact .inl ⟨i, rfl, kk _ F H s (Dp.int _)⟩
def gMax2 : List RV → Option RV := c2 fun x y => match asInt x, asInt y with
  | some i, some j => some (.d (.int (if j > i then j else i)))
  | _, _ => none
def gMin2 : List RV → Option RV := c2 fun x y => match asInt x, asInt y with
  | some i, some j => some (.d (.int (if j < i then j else i)))
  | _, _ => none
theorem csem_min2 : CSem K R (fun xs H Q => ∃ i j, xs = [.int i, .int j] ∧ Q (.int (if j < i then j else i)) H) gMin2 := fun F H0 H rs vs xs z Q s hv e kk => by
  obtain ⟨x, y, rfl, ee⟩ := c2_some e
  clear e
  have e := ee
  clear ee
  obtain ⟨v, w, rfl, hx, hy⟩ := hv.two
  cases e1 : asInt x with
  | none => simp only [e1] at e; cases e
  | some i =>
    cases e2 : asInt y with
    | none => simp only [e1, e2] at e; cases e
    | some j =>
      simp only [e1, e2] at e
      cases e
      have := hx.int e1
      have := hy.int e2
      subst v w
      exact ⟨i, j, rfl, kk _ F H s (Dp.int _)⟩
def gSum : List RV → Option RV := c1 fun x => match items x with
  | some ds => (intsOf ds).map fun js => .d (.int js.sum)
  | none => none
def rSumA (K : PySem.W.Frag) : List V → Hp → VK → Prop := fun vs H Q => ∃ (a : Addr) (ns : List Int), vs = [V.ref a] ∧ (SqL K H a (ns.map V.int) ∨ SqT K H a (ns.map V.int)) ∧ Q (.int ns.sum) H
theorem sum_tup {prog : Program} {w : World} {A : Around} {E : Value → Shared → Prop} {s : Shared} {l : Addr} {its : List Value} {ns : List Int} {Q : Value → Shared → Prop} (hh : A.handled = none) (hl : s.heap.IsTuple l its.toArray) (hi : PyProof.Rows.IntsAre its ns)
    (hq : ∀ h' tk t', (∀ b o, s.heap.get? b = some o → h'.get? b = some o) → Q (.int ns.sum t') { s with heap := h', toks := tk }) : wpAny (model prog w) A (call (.builtin "sum") [.ref l]) Q E s := by
  obtain ⟨xs, e⟩ := hi.allInts.items
  have hn : numsOf (intItems xs).toList = ns := by rw [← e]; exact hi.numsOf
  rw [nums_intItems] at hn
  rw [e] at hl
  have hlt : l < s.heap.objs.size := by obtain ⟨_, e, _⟩ := hl; exact Heap.lt_size e
  refine call_sum_walkG (wpAny_pyIter_tuple hl ?_)
  refine ⟨_, _, _, _, _, _, numAt xs, rfl, Walks.tuple (A := A.in1) hh _ l (Nat.ne_of_lt hlt) (intItems xs), ⟨⟨_, Heap.get?_push_size _ rfl, rfl, rfl⟩, ?_⟩, fun b hb => ?_, (fun _ _ => intItems_at), fun h' tk t' hk => ?_⟩
  · obtain ⟨o, q1, q2⟩ := hl
    exact ⟨o, Heap.get?_push_of_some _ q1, q2⟩
  · show b < (s.heap.push _).objs.size
    rw [Heap.size_push]
    rcases List.mem_cons.mp hb with rfl | hb
    · exact Nat.lt_succ_self _
    · rcases List.mem_cons.mp hb with rfl | hb
      · exact Nat.lt_succ_of_lt hlt
      · cases hb
  · have := hq h' tk t' (fun b o eo => hk b o (fun hm => by
      rcases List.mem_cons.mp hm with e1 | hm
      · exact absurd (e1 ▸ Heap.lt_size eo) (Nat.lt_irrefl _)
      · cases hm) (Heap.get?_push_of_some _ eo))
    rw [preSum_eq, List.take_of_length_le (by simp [intItems]), hn]
    exact this
theorem cr_sumA (hc : X.calm = true) : CallR X (.builtin "sum") (rSumA X.K) := by
  intro pins s σ H vs us Q I r h
  obtain ⟨a, ns, rfl, hs, q⟩ := h
  rcases hs with hs | hs
  · exact cr_sum hc pins s σ H _ us Q I r ⟨a, ns, rfl, hs, q⟩
  · obtain ⟨its, rv, hl, _⟩ := I.tuple hs
    rw [Vals.ref1 r]
    exact sum_tup (I.ok.hd hc) hl rv.ints fun h' tk t' hk => ⟨.int _, H, I.kept hk, ⟨_, rfl⟩, q⟩
theorem csem_sum : CSem K R (rSumA K) gSum := fun F H0 H rs vs xs z Q s hv e kk => by
  obtain ⟨x, rfl, ee⟩ := c1_some e
  clear e
  have e := ee
  clear ee
  obtain ⟨v, rfl, hx⟩ := hv.one
  cases e1 : items x with
  | none => rw [e1] at e; cases e
  | some ds =>
    simp only [e1] at e
    cases e2 : intsOf ds with
    | none => rw [e2] at e; cases e
    | some js =>
      rw [e2] at e
      cases e
      obtain ⟨a, ws, rfl, h1, h2⟩ := hx.items s e1
      have hw := h2.intsV e2
      subst hw
      exact ⟨a, js, rfl, h1, kk _ F H s (Dp.int _)⟩
def boolsOf : List D → Option (List Bool)
  | [] => some []
  | .bool i :: r => match boolsOf r with
    | some js => some (i :: js)
    | none => none
  | _ => none
theorem boolsV {F : Hp} : ∀ {vs : List V} {ds : List D} {js : List Bool}, DpAll K F vs ds → boolsOf ds = some js → vs = js.map V.bl
  | _, _, _, .nil, h => by cases h; rfl
  | _, d :: r, js, .cons h1 h2, h => by
    cases d with
    | bool i =>
      unfold boolsOf at h
      cases e : boolsOf r with
      | none => rw [e] at h; cases h
      | some ks =>
        rw [e] at h
        cases h
        cases h1
        rw [boolsV h2 e]
        rfl
    | none => unfold boolsOf at h; cases h
    | int _ => unfold boolsOf at h; cases h
    | str _ => unfold boolsOf at h; cases h
    | list _ => unfold boolsOf at h; cases h
    | tuple _ => unfold boolsOf at h; cases h
    | dict _ => unfold boolsOf at h; cases h
def gBools (k : List Bool → Bool) : List RV → Option RV := c1 fun x => match asLst x with
  | some ds => (boolsOf ds).map fun js => .d (.bool (k js))
  | none => none
abbrev gAll := gBools fun js => js.all id
theorem csem_bools (k : List Bool → Bool) : CSem K R (fun vs H Q => ∃ (a : Addr) (bs : List Bool), vs = [V.ref a] ∧ SqL K H a (bs.map V.bl) ∧ Q (.bl (k bs)) H) (gBools k) := fun F H0 H rs vs xs z Q s hv e kk => by
  obtain ⟨x, rfl, ee⟩ := c1_some e
  clear e
  have e := ee
  clear ee
  obtain ⟨v, rfl, hx⟩ := hv.one
  cases e1 : asLst x with
  | none => rw [e1] at e; cases e
  | some ds =>
    simp only [e1] at e
    cases e2 : boolsOf ds with
    | none => rw [e2] at e; cases e
    | some js =>
      rw [e2] at e
      cases e
      obtain ⟨a, ws, rfl, h1, h2⟩ := hx.lst (asLst_some e1)
      have hw := boolsV h2 e2
      subst hw
      exact ⟨a, js, rfl, .inl (.inl h1), kk _ F H s (.bl _)⟩

def tyD : D → String
  | .none => "NoneType"
  | .bool _ => "bool"
  | .int _ => "int"
  | .str _ => "str"
  | .list _ => "list"
  | .tuple _ => "tuple"
  | .dict _ => "dict"
inductive TyT where | int | bool | tuple | list | str
  deriving DecidableEq
def TyT.nm : TyT → String
  | .int => "int" | .bool => "bool" | .tuple => "tuple" | .list => "list" | .str => "str"
def isT : TyT → D → Bool
  | .int, .int _ => true
  | .int, .bool _ => true
  | .bool, .bool _ => true
  | .tuple, .tuple _ => true
  | .list, .list _ => true
  | .str, .str _ => true
  | _, _ => false
theorem kit_isT (T : TyT) (d : D) : kitB (tyD d) T.nm = some (isT T d) := by
  cases T <;> cases d <;> (simp only [tyD, TyT.nm, isT]; decide +kernel)
theorem dptyx {H : Hp} {v : V} {d : D} (h : Dp K H v d) : TyX K H v (.type (tyD d)) := by
  cases h with
  | non => exact .base .non
  | bl b => exact .base (.bl b)
  | int i => exact .base (.int i)
  | str x => exact .base (.str x)
  | lst hs _ =>
    rcases hs with (hs | ⟨o, hs⟩) | ⟨o, its, n, hk, hc, _⟩
    · exact .base (.lst hs)
    · exact .base (.frz hs)
    · exact .kList hk hc
  | tup hs _ =>
    rcases hs with (hs | ⟨o, hs⟩) | ⟨o, its, n, hk, hc, _⟩
    · exact .base (.tup hs)
    · exact .fTuple hs
    · exact .kTuple hk hc
def eIsT (T : TyT) (f : Env → M RV) : Env → M RV := fun ρ => bnd (f ρ) fun x => bnd (lft (viewD x)) fun d => ret (.d (.bool (isT T d)))
theorem de_isT (T : TyT) {x : Str} {p2 : Pos} (hg : Gl X "isinstance") (hm : X.mg "isinstance" = none) (hgT : Gl X x) (hmT : X.mg x = none) (hT : bootBuiltins x = some (.type T.nm)) (he : DE X R e te f)
    (hn : x ≠ "__name__" := by decide) (hdb : (x == ("__debug__" : Str)) = false := by decide)
    (he1 : starEach [e, .Name x p2] X.env = (false, eval e X.env) :: starEach [.Name x p2] X.env := by rfl) (he2 : starEach [.Name x p2] X.env = (false, eval (.Name x p2) X.env) :: starEach [] X.env := by rfl) (hpl : (backTo pos (starEach [.Name x p2] X.env)).any (·.1) = false := by rfl) :
    DE X R (.Call (.Name "isinstance" p) [e, .Name x p2] [] pos) (tCB (rIsi X.K) (tCons te (tCons (tC (.ty T.nm)) tNil))) (eIsT T f) :=
  ⟨pe_callB call_isi hg hm PyProof.Rows.boot_isinstance (pa_cons he.pe (pa_cons (pe_bltn hgT hmT hT rfl hn hdb) pa_nil he2) he1) (by decide) (by decide) he1 hpl, fun L E ρ σ F H rs z rs' Q r hf k => by
    obtain ⟨v, rs1, e1, hf1⟩ := bnd_some hf
    obtain ⟨d, rs2, e2, hf2⟩ := bnd_some hf1
    obtain ⟨e3, q3⟩ := lft_some e2
    obtain ⟨e4, q4⟩ := ret_some hf2
    subst e4 q4 q3
    refine he.sem L E ρ σ F H rs v _ _ r e1 fun v1 F1 H1 s1 h1 => ?_
    exact ⟨v1, .ty T.nm, .type (tyD d), .type T.nm, isT T d, rfl, .ty _, dptyx (h1.view (r.step s1).refl e3), kit_ty (kit_isT T d), k _ F1 H1 s1 (.bl _)⟩⟩
end
end DV

namespace DV
open PySem L2

inductive Out where
  | nx (ρ : Env) | rt (r : RV) | bk (ρ : Env) | ct (ρ : Env)
section
variable {X : Cx} {K : PySem.W.Frag} {R : RA} {L : Nat → Option (Addr × HO)} {E F F' H H' : Hp} {ρ ρ' : Env} {σ σ' : L2.St} {rs rs' : RS}

/-- what is never changed grows by things that the entry did not know -/
structure FStep (R : RA) (E F F' : Hp) : Prop where
  sub : ∀ a o, F a = some o → F' a = some o
  new : ∀ a o, F' a = some o → F a = some o ∨ (E a = none ∧ some a ≠ R.row)
theorem FStep.refl : FStep R E F F := ⟨fun _ _ h => h, fun _ _ h => .inl h⟩
theorem FStep.trans {F1 F2 : Hp} (a : FStep R E F F1) (b : FStep R E F1 F2) : FStep R E F F2 := ⟨fun c o h => b.sub c o (a.sub c o h), fun c o h => by
  rcases b.new c o h with z | z
  · exact a.new c o z
  · exact .inr z⟩
theorem FStep.ofStep (r : Rel K R L E F ρ σ rs H) (s : Step K R rs' F H F' H') : FStep R E F F' := ⟨s.sub, fun a o h => by
  rcases s.new a o h with z | z
  · exact .inl z
  · refine .inr ⟨?_, fun q => ?_⟩
    · cases e : E a with
      | none => rfl
      | some u => rw [r.ex a u e] at z; cases z
    · rw [s.rF a q.symm] at h; cases h⟩
/-- a smaller entry -/
theorem FStep.less {E' : Hp} (s : FStep R E' F F') (h : ∀ a, E' a = none → E a = none) : FStep R E F F' := ⟨s.sub, fun a o q => by
  rcases s.new a o q with z | ⟨z1, z2⟩
  · exact .inl z
  · exact .inr ⟨h a z1, z2⟩⟩
/-- what is handed back -/
def VRet (K : PySem.W.Frag) (R : RA) (E F H : Hp) (v : V) : RV → Prop
  | .d x => Dp K F v x
  | .n ds => ∃ a vs, v = .ref a ∧ H a = some (.lst vs) ∧ E a = none ∧ F a = none ∧ some a ≠ R.row ∧ DpAll K F vs ds
  | .gn c => ∃ a u, v = .ref a ∧ H a = some u ∧ E a = none ∧ F a = none ∧ some a ≠ R.row ∧ DictR K F a u c
  | _ => False
structure Ret (K : PySem.W.Frag) (R : RA) (rs' : RS) (E F F' H' : Hp) (v : V) (x : RV) : Prop where
  fs : FStep R E F F'
  ex : ∀ a o, E a = some o → H' a = some o
  fr : ∀ a o, F' a = some o → H' a = some o
  row : RowOk K R rs' F' H'
  rF : ∀ r, R.row = some r → F' r = none
  val : VRet K R E F' H' v x
def Post (K : PySem.W.Frag) (R : RA) (L : Nat → Option (Addr × HO)) (E F : Hp) (D : Ends) (rs' : RS) : Out → Prop
  | .nx ρ' => ∀ σ' F' H', FStep R E F F' → Rel K R L E F' ρ' σ' rs' H' → D.nx σ' H'
  | .bk ρ' => ∀ σ' F' H', FStep R E F F' → Rel K R L E F' ρ' σ' rs' H' → D.bk σ' H'
  | .ct ρ' => ∀ σ' F' H', FStep R E F F' → Rel K R L E F' ρ' σ' rs' H' → D.ct σ' H'
  | .rt x => ∀ v F' H', Ret K R rs' E F F' H' v x → D.rt v H'
def SSem (K : PySem.W.Frag) (R : RA) (t : TS) (g : Env → M Out) : Prop :=
  ∀ (L : Nat → Option (Addr × HO)) (E F : Hp) (ρ : Env) (σ : L2.St) (rs : RS) (H : Hp) (o : Out) (rs' : RS) (D : Ends), Rel K R L E F ρ σ rs H → g ρ rs = some (o, rs') → Post K R L E F D rs' o → t D σ H
structure DS (X : Cx) (R : RA) (st : Stmt) (t : TS) (g : Env → M Out) : Prop where
  ps : PS X st t
  sem : SSem X.K R t g
structure DSs (X : Cx) (R : RA) (st : List Stmt) (t : TS) (g : Env → M Out) : Prop where
  ps : PSs X st t
  sem : SSem X.K R t g
/-- behind a first part -/
theorem Post.after {F1 : Hp} {D : Ends} {o : Out} (h : Post K R L E F D rs' o) (s : FStep R E F F1) : Post K R L E F1 D rs' o := by
  cases o with
  | nx ρ' => exact fun σ' F' H' f r => h σ' F' H' (s.trans f) r
  | bk ρ' => exact fun σ' F' H' f r => h σ' F' H' (s.trans f) r
  | ct ρ' => exact fun σ' F' H' f r => h σ' F' H' (s.trans f) r
  | rt x => exact fun v F' H' q => h v F' H' ⟨s.trans q.fs, q.ex, q.fr, q.row, q.rF, q.val⟩

theorem Rel.put (r : Rel K R L E F ρ σ rs H) (i : Nat) (sv : SV) (v : V) (h : SR K R L E F H i v sv) (ho : ∀ a, sv.ow → v = .ref a → ∀ j y, j ≠ i → ρ[j]? = some (some y) → y.ow → σ[j]? = some (some (V.ref a)) → False) :
    Rel K R L E F (ρ.set i (some sv)) (σ.set i (some v)) rs H where
  len := by rw [List.length_set, List.length_set]; exact r.len
  ex := r.ex
  ent := r.ent
  fr := r.fr
  row := r.row
  rE := r.rE
  lk := r.lk
  sl := fun j sw e => by
    by_cases hj : j = i
    · subst hj
      have hl : j < ρ.length := by
        have := (List.getElem?_eq_some_iff.mp e).1
        rw [List.length_set] at this
        exact this
      rw [List.getElem?_set_self hl] at e
      cases e
      exact ⟨v, List.getElem?_set_self (by rw [← r.len]; exact hl), h⟩
    · rw [List.getElem?_set_ne (Ne.symm hj)] at e
      obtain ⟨w, e1, q⟩ := r.sl j sw e
      exact ⟨w, by rw [List.getElem?_set_ne (Ne.symm hj)]; exact e1, q⟩
  own := fun j k a x y e1 e2 ox oy e3 e4 => by
    by_cases hj : j = i
    · by_cases hk : k = i
      · rw [hj, hk]
      · exfalso
        subst hj
        have hl : j < ρ.length := by
          have := (List.getElem?_eq_some_iff.mp e1).1
          rw [List.length_set] at this
          exact this
        rw [List.getElem?_set_self hl] at e1
        rw [List.getElem?_set_self (by rw [← r.len]; exact hl)] at e3
        rw [List.getElem?_set_ne (Ne.symm hk)] at e2 e4
        exact ho a (by cases e1; exact ox) (Option.some.inj (Option.some.inj e3)) k y hk e2 oy e4
    · by_cases hk : k = i
      · exfalso
        subst hk
        have hl : k < ρ.length := by
          have := (List.getElem?_eq_some_iff.mp e2).1
          rw [List.length_set] at this
          exact this
        rw [List.getElem?_set_self hl] at e2
        rw [List.getElem?_set_self (by rw [← r.len]; exact hl)] at e4
        rw [List.getElem?_set_ne (Ne.symm hj)] at e1 e3
        exact ho a (by cases e2; exact oy) (Option.some.inj (Option.some.inj e4)) j x hj e1 ox e3
      · rw [List.getElem?_set_ne (Ne.symm hj)] at e1 e3
        rw [List.getElem?_set_ne (Ne.symm hk)] at e2 e4
        exact r.own j k a x y e1 e2 ox oy e3 e4
/-- data, or a new list, into a name -/
def toS : RV → Option SV
  | .d x => some (.d x)
  | .n ds => some (.o ds)
  | .gn c => some (.g c)
  | _ => none
/-- what is of one's own stands in the heap -/
theorem Rel.own_at (r : Rel K R L E F ρ σ rs H) {j : Nat} {y : SV} {a : Addr} (e : ρ[j]? = some (some y)) (oy : y.ow) (ea : σ[j]? = some (some (V.ref a))) : ∃ u, H a = some u ∧ E a = none ∧ F a = none ∧ some a ≠ R.row := by
  obtain ⟨w, e1, q⟩ := r.sl j _ e
  rw [ea] at e1
  cases e1
  cases y with
  | d x => cases oy
  | k x => cases oy
  | un => cases oy
  | ex _ _ => cases oy
  | fn _ => cases oy
  | lm => cases oy
  | m _ => cases oy
  | row => cases oy
  | o ds =>
    obtain ⟨b, vs, q1, q2, q3, q4, q5, _⟩ := q
    cases q1
    exact ⟨_, q2, q3, q4, q5⟩
  | g c =>
    obtain ⟨b, vs, q1, q2, q3, q4, q5, _⟩ := q
    cases q1
    exact ⟨_, q2, q3, q4, q5⟩
theorem Rel.store {H0 : Hp} (r0 : Rel K R L E F ρ σ rs H0) {F1 H1 : Hp} (s : Step K R rs' F H0 F1 H1) {v : V} {x : RV} {sv : SV} (hv : VR K R F1 H0 H1 v x) (e : toS x = some sv) (i : Nat) : Rel K R L E F1 (ρ.set i (some sv)) (σ.set i (some v)) rs' H1 := by
  cases x with
  | d y =>
    cases e
    exact (r0.step s).put i _ v hv (fun a q => nomatch q)
  | n ds =>
    cases e
    obtain ⟨a, vs, rfl, h1, h0, h2, h3, h4⟩ := hv
    have hE : E a = none := by
      cases q : E a with
      | none => rfl
      | some u => rw [r0.ex a u q] at h0; cases h0
    refine (r0.step s).put i _ _ ⟨a, vs, rfl, h1, hE, h2, h3, h4⟩ fun b q1 q2 j y hj e1 oy e2 => ?_
    cases q2
    obtain ⟨u, q, _⟩ := r0.own_at e1 oy e2
    rw [h0] at q
    cases q
  | gb _ => cases e
  | gn c =>
    cases e
    obtain ⟨a, u, rfl, h1, h0, h2, h3, h4⟩ := hv
    have hE : E a = none := by
      cases q : E a with
      | none => rfl
      | some u => rw [r0.ex a u q] at h0; cases h0
    refine (r0.step s).put i _ _ ⟨a, u, rfl, h1, hE, h2, h3, h4⟩ fun b q1 q2 j y hj e1 oy e2 => ?_
    cases q2
    obtain ⟨u, q, _⟩ := r0.own_at e1 oy e2
    rw [h0] at q
    cases q
  | b ds => cases e
  | row => cases e
theorem Rel.forget (r : Rel K R L E F ρ σ rs H) (i : Nat) : Rel K R L E F (ρ.set i none) σ rs H where
  len := by rw [List.length_set]; exact r.len
  ex := r.ex
  ent := r.ent
  fr := r.fr
  row := r.row
  rE := r.rE
  lk := r.lk
  sl := fun j sw e => by
    by_cases hj : j = i
    · subst hj
      have hl : j < ρ.length := by
        have := (List.getElem?_eq_some_iff.mp e).1
        rw [List.length_set] at this
        exact this
      rw [List.getElem?_set_self hl] at e
      cases e
    · rw [List.getElem?_set_ne (Ne.symm hj)] at e
      exact r.sl j sw e
  own := fun j k a x y e1 e2 ox oy e3 e4 => by
    have hj : j ≠ i := by
      rintro rfl
      have hl : j < ρ.length := by
        have := (List.getElem?_eq_some_iff.mp e1).1
        rw [List.length_set] at this
        exact this
      rw [List.getElem?_set_self hl] at e1
      cases e1
    have hk : k ≠ i := by
      rintro rfl
      have hl : k < ρ.length := by
        have := (List.getElem?_eq_some_iff.mp e2).1
        rw [List.length_set] at this
        exact this
      rw [List.getElem?_set_self hl] at e2
      cases e2
    rw [List.getElem?_set_ne (Ne.symm hj)] at e1
    rw [List.getElem?_set_ne (Ne.symm hk)] at e2
    exact r.own j k a x y e1 e2 ox oy e3 e4
/-- a list of one's own is changed -/
theorem Rel.change (r : Rel K R L E F ρ σ rs H) {i : Nat} {ds es : List D} {a : Addr} {ws : List V} (e : ρ[i]? = some (some (SV.o ds))) (ea : σ[i]? = some (some (V.ref a))) (hd : DpAll K F ws es) :
    Rel K R L E F (ρ.set i (some (.o es))) σ rs (upd H a (.lst ws)) := by
  obtain ⟨v, e1, b, vs, q1, q2, q3, q4, q5, q6⟩ := r.sl i _ e
  rw [ea] at e1
  cases e1
  cases q1
  have hl : i < ρ.length := (List.getElem?_eq_some_iff.mp e).1
  refine ⟨by rw [List.length_set]; exact r.len, fun b o z => ?_, r.ent, fun b o z => ?_, ⟨fun q eq => ?_, tabs_upd r.row.tab (.inr ⟨_, q2⟩), r.row.fnt⟩, r.rE, r.lk, fun j sw ej => ?_, fun j k c x y e1 e2 ox oy e3 e4 => ?_⟩
  · rw [upd_ne (fun zz => by rw [zz, q3] at z; cases z)]
    exact r.ex b o z
  · rw [upd_ne (fun zz => by rw [zz, q4] at z; cases z)]
    exact r.fr b o z
  · obtain ⟨c, k1, k2, k3⟩ := r.row.at_ q eq
    exact ⟨c, by rw [upd_ne (fun zz => q5 (by rw [← zz, eq]))]; exact k1, k2, k3⟩
  · by_cases hj : j = i
    · subst hj
      rw [List.getElem?_set_self hl] at ej
      cases ej
      exact ⟨_, ea, a, ws, rfl, upd_same, q3, q4, q5, hd⟩
    · rw [List.getElem?_set_ne (Ne.symm hj)] at ej
      obtain ⟨w, k1, k2⟩ := r.sl j sw ej
      refine ⟨w, k1, ?_⟩
      cases sw with
      | d x => exact k2
      | k x => exact k2
      | un => exact trivial
      | ex _ _ => exact k2
      | fn _ => exact k2
      | lm => exact k2
      | m _ => exact k2
      | row => exact k2
      | o x =>
        obtain ⟨c, us, rfl, z1, z2, z3, z4, z5⟩ := k2
        have hca : c ≠ a := by
          rintro rfl
          exact hj (r.own j i c _ _ ej e trivial trivial k1 ea)
        exact ⟨c, us, rfl, by rw [upd_ne hca]; exact z1, z2, z3, z4, z5⟩
      | g x =>
        obtain ⟨c, us, rfl, z1, z2, z3, z4, z5⟩ := k2
        have hca : c ≠ a := by
          rintro rfl
          exact hj (r.own j i c _ _ ej e trivial trivial k1 ea)
        exact ⟨c, us, rfl, by rw [upd_ne hca]; exact z1, z2, z3, z4, z5⟩
  · by_cases hj : j = i
    · by_cases hk : k = i
      · rw [hj, hk]
      · subst hj
        rw [List.getElem?_set_ne (Ne.symm hk)] at e2
        exact r.own j k c _ y e e2 trivial oy e3 e4
    · rw [List.getElem?_set_ne (Ne.symm hj)] at e1
      by_cases hk : k = i
      · subst hk
        exact r.own j k c x _ e1 e ox trivial e3 e4
      · rw [List.getElem?_set_ne (Ne.symm hk)] at e2
        exact r.own j k c x y e1 e2 ox oy e3 e4
variable {st : Stmt} {rest sa sb : List Stmt} {t u : TS} {e c : Expr} {te : TE} {tt : TT} {pos : Pos} {f : Env → M RV} {x : Env → M Bool} {g h : Env → M Out}
def sNil : Env → M Out := fun ρ => ret (.nx ρ)
def sSeq (g h : Env → M Out) : Env → M Out := fun ρ => bnd (g ρ) fun o => match o with
  | .nx ρ' => h ρ'
  | o => ret o
theorem ssem_nil : SSem K R tNext sNil := fun L E F ρ σ rs H o rs' D r hf k => by
  obtain ⟨e1, q1⟩ := ret_some hf
  subst e1 q1
  exact k σ F H FStep.refl r
theorem ssem_seq (h1 : SSem K R t g) (h2 : SSem K R u h) : SSem K R (tSeq t u) (sSeq g h) := fun L E F ρ σ rs H o rs' D r hf k => by
  obtain ⟨o1, rs1, e1, hf1⟩ := bnd_some hf
  refine h1 L E F ρ σ rs H o1 rs1 { D with nx := u D } r e1 ?_
  cases o1 with
  | nx ρ1 =>
    exact fun σ1 F1 H1 s1 r1 => h2 L E F1 ρ1 σ1 rs1 H1 o rs' D r1 hf1 (k.after s1)
  | rt x =>
    obtain ⟨e2, q2⟩ := ret_some hf1
    subst e2 q2
    exact k
  | bk ρ1 =>
    obtain ⟨e2, q2⟩ := ret_some hf1
    subst e2 q2
    exact k
  | ct ρ1 =>
    obtain ⟨e2, q2⟩ := ret_some hf1
    subst e2 q2
    exact k
theorem dss_nil : DSs X R [] tNext sNil := ⟨pss_nil, ssem_nil⟩
theorem dss_one (h1 : DS X R st t g) : DSs X R [st] t g := ⟨pss_one h1.ps, h1.sem⟩
theorem dss_cons (h1 : DS X R st t g) (h2 : DSs X R rest u h) : DSs X R (st :: rest) (tSeq t u) (sSeq g h) := ⟨pss_cons h1.ps h2.ps, ssem_seq h1.sem h2.sem⟩
def sNever : Env → M Out := fun _ => fail
theorem dss_never {sts : List Stmt} : DSs X R sts tNever sNever := ⟨pss_never, fun L E F ρ σ rs H o rs' D r hf k => nomatch hf⟩
def sIf (x : Env → M Bool) (g h : Env → M Out) : Env → M Out := fun ρ => bnd (x ρ) fun b => if b = true then g ρ else h ρ
theorem ds_if (hc : DT X R c tt x) (ha : DSs X R sa t g) (hb : DSs X R sb u h) : DS X R (.If c sa sb pos) (tIfS tt t u) (sIf x g h) := ⟨ps_if hc.pt ha.ps hb.ps, fun L E F ρ σ rs H o rs' D r hf k => by
  obtain ⟨b, rs1, e1, hf1⟩ := bnd_some hf
  refine hc.sem L E ρ σ F H rs b rs1 _ r e1 fun F1 H1 s1 => ?_
  cases b with
  | true =>
    rw [if_pos rfl] at hf1 ⊢
    exact ha.sem L E F1 ρ σ rs1 H1 o rs' D (r.step s1) hf1 (k.after (FStep.ofStep r s1))
  | false =>
    rw [if_neg Bool.false_ne_true] at hf1 ⊢
    exact hb.sem L E F1 ρ σ rs1 H1 o rs' D (r.step s1) hf1 (k.after (FStep.ofStep r s1))⟩

def toRet : RV → Option RV
  | .d x => some (.d x)
  | .n ds => some (.n ds)
  | .gn c => some (.gn c)
  | _ => none
def sRet (f : Env → M RV) : Env → M Out := fun ρ => bnd (f ρ) fun x => bnd (lft (toRet x)) fun y => ret (.rt y)
theorem Ret.of {F1 H1 : Hp} (r : Rel K R L E F ρ σ rs H) (s : Step K R rs' F H F1 H1) {v : V} {x y : RV} (hv : VR K R F1 H H1 v x) (e : toRet x = some y) : Ret K R rs' E F F1 H1 v y := by
  have r1 := r.step s
  refine ⟨FStep.ofStep r s, r1.ex, r1.fr, r1.row, s.rF, ?_⟩
  cases x with
  | d y => cases e; exact hv
  | n ds =>
    cases e
    obtain ⟨a, vs, rfl, h1, h0, h2, h3, h4⟩ := hv
    refine ⟨a, vs, rfl, h1, ?_, h2, h3, h4⟩
    cases q : E a with
    | none => rfl
    | some u => rw [r.ex a u q] at h0; cases h0
  | gb _ => cases e
  | gn c =>
    cases e
    obtain ⟨a, vs, rfl, h1, h0, h2, h3, h4⟩ := hv
    refine ⟨a, vs, rfl, h1, ?_, h2, h3, h4⟩
    cases q : E a with
    | none => rfl
    | some u => rw [r.ex a u q] at h0; cases h0
  | b ds => cases e
  | row => cases e
theorem ds_ret (he : DE X R e te f) : DS X R (.Return (some e) pos) (tRet te) (sRet f) := ⟨ps_ret he.pe, fun L E F ρ σ rs H o rs' D r hf k => by
  obtain ⟨x, rs1, e1, hf1⟩ := bnd_some hf
  obtain ⟨y, rs2, e2, hf2⟩ := bnd_some hf1
  obtain ⟨e3, q3⟩ := lft_some e2
  obtain ⟨e4, q4⟩ := ret_some hf2
  subst e4 q4 q3
  exact he.sem L E ρ σ F H rs x _ _ r e1 fun v F1 H1 s1 h1 => k v F1 H1 (Ret.of r s1 h1 e3)⟩
/-- return of a name: a list of one's own is handed over -/
def vown (ρ : Env) (i : Nat) : Option RV := match ρ[i]? with
  | some (some (.d x)) => some (.d x)
  | some (some (.o ds)) => some (.n ds)
  | some (some (.g c)) => some (.gn c)
  | _ => none
def sRetV (i : Nat) : Env → M Out := fun ρ => bnd (lft (vown ρ i)) fun y => ret (.rt y)
theorem ds_retV (i : Nat) {x : Str} {p : Pos} (hN : X.N[i]? = some x := by rfl) (hv : Vis X.env.scope x := by first | exact Or.inl rfl | exact Or.inr (Or.inl rfl) | exact Or.inr (Or.inr rfl)) (hd : (x == ("__debug__" : Str)) = false := by decide)
    (hcd : (x == ("__classdict__" : Str)) = false := by decide) : DS X R (.Return (some (.Name x p)) pos) (tRet (tVar i)) (sRetV i) := ⟨ps_ret (pe_var hN hv hd hcd), fun L E F ρ σ rs H o rs' D r hf k => by
  obtain ⟨y, rs2, e2, hf2⟩ := bnd_some hf
  obtain ⟨e3, q3⟩ := lft_some e2
  obtain ⟨e4, q4⟩ := ret_some hf2
  subst e4 q4 q3
  unfold vown at e3
  cases e : ρ[i]? with
  | none => rw [e] at e3; cases e3
  | some sv =>
    cases sv with
    | none => rw [e] at e3; cases e3
    | some sv =>
      rw [e] at e3
      obtain ⟨v, ev, q⟩ := r.sl i sv e
      refine ⟨v, ev, k v F H ⟨FStep.refl, r.ex, r.fr, r.row, fun q e => (r.rE q e).2, ?_⟩⟩
      cases sv with
      | d x => cases e3; exact q
      | o ds =>
        cases e3
        obtain ⟨a, vs, e1, h1, h2, h3, h4, h5⟩ := q
        exact ⟨a, vs, e1, h1, h2, h3, h4, h5⟩
      | g c =>
        cases e3
        obtain ⟨a, vs, e1, h1, h2, h3, h4, h5⟩ := q
        exact ⟨a, vs, e1, h1, h2, h3, h4, h5⟩
      | k ds => cases e3
      | un => cases e3
      | ex _ _ => cases e3
      | fn _ => cases e3
      | lm => cases e3
      | m _ => cases e3
      | row => cases e3⟩
def sDrop (f : Env → M RV) : Env → M Out := fun ρ => bnd (f ρ) fun _ => ret (.nx ρ)
theorem ds_expr (he : DE X R e te f) (hs : swapsWith e none pos.line X.env = pure false := by rfl) : DS X R (.Expr e pos) (tDrop te) (sDrop f) := ⟨ps_expr he.pe hs, fun L E F ρ σ rs H o rs' D r hf k => by
  obtain ⟨x, rs1, e1, hf1⟩ := bnd_some hf
  obtain ⟨e4, q4⟩ := ret_some hf1
  subst e4 q4
  exact he.sem L E ρ σ F H rs x _ _ r e1 fun v F1 H1 s1 h1 => k σ F1 H1 (FStep.ofStep r s1) (r.step s1)⟩
def sSet (i : Nat) (f : Env → M RV) : Env → M Out := fun ρ => bnd (f ρ) fun x => bnd (lft (toS x)) fun sv => ret (.nx (ρ.set i (some sv)))
theorem ds_set {i : Nat} {x : Str} {pos' : Pos} (hN : X.N.Nodup) (hi : X.N[i]? = some x) (hx : Loc X.env.scope x) (he : DE X R e te f) (hs : swapsWith e (some (.Name x pos')) pos.line X.env = pure false := by rfl)
    (hf : X.fn x = true ∨ X.env.scope.names.lookup x = some .local := by first | exact .inl rfl | exact .inr rfl | assumption) : DS X R (.Assign [.Name x pos'] e pos) (tAsg te (gName i)) (sSet i f) := ⟨ps_set hN hi hx he.pe hs hf, fun L E F ρ σ rs H o rs' D r hf k => by
  obtain ⟨x, rs1, e1, hf1⟩ := bnd_some hf
  obtain ⟨sv, rs2, e2, hf2⟩ := bnd_some hf1
  obtain ⟨e3, q3⟩ := lft_some e2
  obtain ⟨e4, q4⟩ := ret_some hf2
  subst e4 q4 q3
  exact he.sem L E ρ σ F H rs x _ _ r e1 fun v F1 H1 s1 h1 => k _ F1 H1 (FStep.ofStep r s1) (Rel.store r s1 h1 e3 i)⟩
/-- y = x, both names: a list of one's own moves -/
def sMove (i j : Nat) : Env → M Out := fun ρ => match ρ[j]? with
  | some (some (.d x)) => ret (.nx (ρ.set i (some (.d x))))
  | some (some (.o ds)) => ret (.nx ((ρ.set j none).set i (some (.o ds))))
  | some (some (.g c)) => ret (.nx ((ρ.set j none).set i (some (.g c))))
  | _ => fail
theorem ds_move {i j : Nat} {x y : Str} {pos' p2 : Pos} (hN : X.N.Nodup) (hi : X.N[i]? = some x) (hx : Loc X.env.scope x) (hj : X.N[j]? = some y) (hv : Vis X.env.scope y := by first | exact Or.inl rfl | exact Or.inr (Or.inl rfl) | exact Or.inr (Or.inr rfl)) (hd : (y == ("__debug__" : Str)) = false := by decide)
    (hcd : (y == ("__classdict__" : Str)) = false := by decide) (hs : swapsWith (.Name y p2) (some (.Name x pos')) pos.line X.env = pure false := by rfl)
    (hf : X.fn x = true ∨ X.env.scope.names.lookup x = some .local := by first | exact .inl rfl | exact .inr rfl | assumption) : DS X R (.Assign [.Name x pos'] (.Name y p2) pos) (tAsg (tVar j) (gName i)) (sMove i j) := ⟨ps_set hN hi hx (pe_var hj hv hd hcd) hs hf, fun L E F ρ σ rs H o rs' D r hf k => by
  unfold sMove at hf
  cases e : ρ[j]? with
  | none => rw [e] at hf; cases hf
  | some sv =>
    cases sv with
    | none => rw [e] at hf; cases hf
    | some sv =>
      rw [e] at hf
      obtain ⟨v, ev, q⟩ := r.sl j sv e
      refine ⟨v, ev, ?_⟩
      cases sv with
      | d x =>
        obtain ⟨e4, q4⟩ := ret_some hf
        subst e4 q4
        exact k _ F H FStep.refl (r.put i _ v q (fun a q => nomatch q))
      | o ds =>
        obtain ⟨e4, q4⟩ := ret_some hf
        subst e4 q4
        obtain ⟨a, vs, rfl, h1, h2, h3, h4, h5⟩ := q
        refine k _ F H FStep.refl ((r.forget j).put i _ _ ⟨a, vs, rfl, h1, h2, h3, h4, h5⟩ fun b q1 q2 m y hm e1 oy e2 => ?_)
        cases q2
        have hmj : m ≠ j := by
          rintro rfl
          have hl : m < ρ.length := by
            have := (List.getElem?_eq_some_iff.mp e1).1
            rw [List.length_set] at this
            exact this
          rw [List.getElem?_set_self hl] at e1
          cases e1
        rw [List.getElem?_set_ne (Ne.symm hmj)] at e1
        exact hmj (r.own m j a _ _ e1 e oy trivial e2 ev)
      | g c =>
        obtain ⟨e4, q4⟩ := ret_some hf
        subst e4 q4
        obtain ⟨a, vs, rfl, h1, h2, h3, h4, h5⟩ := q
        refine k _ F H FStep.refl ((r.forget j).put i _ _ ⟨a, vs, rfl, h1, h2, h3, h4, h5⟩ fun b q1 q2 m y hm e1 oy e2 => ?_)
        cases q2
        have hmj : m ≠ j := by
          rintro rfl
          have hl : m < ρ.length := by
            have := (List.getElem?_eq_some_iff.mp e1).1
            rw [List.length_set] at this
            exact this
          rw [List.getElem?_set_self hl] at e1
          cases e1
        rw [List.getElem?_set_ne (Ne.symm hmj)] at e1
        exact hmj (r.own m j a _ _ e1 e oy trivial e2 ev)
      | k ds => cases hf
      | un => cases hf
      | ex _ _ => cases hf
      | fn _ => cases hf
      | lm => cases hf
      | m _ => cases hf
      | row => cases hf⟩
/-- x += e, ints -/
def sAug (i : Nat) (k : Int → Int → Int) (f : Env → M RV) : Env → M Out := fun ρ => bnd (lft (vget ρ i)) fun y => bnd (lft (asInt y)) fun a => bnd (f ρ) fun x => bnd (lft (asInt x)) fun b => ret (.nx (ρ.set i (some (.d (.int (k a b))))))
theorem ds_aug {i : Nat} {x : Str} {op : Operator} {kf : Int → Int → Int} {pos' : Pos} (ho : PIp X op (ipI kf)) (hN : X.N.Nodup) (hi : X.N[i]? = some x) (hx : Loc X.env.scope x) (he : DE X R e te f)
    (hf : X.fn x = true ∨ X.env.scope.names.lookup x = some .local := by first | exact .inl rfl | exact .inr rfl | assumption) : DS X R (.AugAssign (.Name x pos') op e pos) (tAug i te (ipI kf)) (sAug i kf f) := ⟨ps_aug hN hi hx he.pe ho hf, fun L E F ρ σ rs H o rs' D r hf k => by
  obtain ⟨y, rs5, e5, hf5⟩ := bnd_some hf
  obtain ⟨e5', q5⟩ := lft_some e5
  obtain ⟨a, rs6, e6, hf6⟩ := bnd_some hf5
  obtain ⟨e6', q6⟩ := lft_some e6
  obtain ⟨x, rs1, e1, hf1⟩ := bnd_some hf6
  obtain ⟨b, rs2, e2, hf2⟩ := bnd_some hf1
  obtain ⟨e3, q3⟩ := lft_some e2
  obtain ⟨e4, q4⟩ := ret_some hf2
  subst e4 q4 q3 q6 q5
  obtain ⟨v, ev, q⟩ := r.get e5'
  have hv := q.int e6'
  subst hv
  refine ⟨_, ev, he.sem L E ρ σ F H _ x _ _ r e1 fun v F1 H1 s1 h1 => ?_⟩
  have := h1.int e3
  subst this
  exact ⟨a, b, rfl, rfl, k _ F1 H1 (FStep.ofStep r s1) ((r.step s1).put i _ _ (Dp.int _) (fun a q => nomatch q))⟩⟩
end
end DV

namespace DV
open PySem L2
section
variable {X : Cx} {K : PySem.W.Frag} {R : RA} {L : Nat → Option (Addr × HO)} {E F F' H H' : Hp} {ρ ρ' : Env} {σ σ' : L2.St} {rs rs' : RS}

/-- other slots than S stand as they stood -/
structure OffEq (S : List Nat) (σ σ' : L2.St) : Prop where
  len : σ'.length = σ.length
  at_ : ∀ j, j ∉ S → σ'[j]? = σ[j]?
theorem OffEq.refl {S : List Nat} : OffEq S σ σ := ⟨rfl, fun _ _ => rfl⟩
theorem OffEq.trans {S : List Nat} {σ1 σ2 : L2.St} (a : OffEq S σ σ1) (b : OffEq S σ1 σ2) : OffEq S σ σ2 := ⟨b.len.trans a.len, fun j h => (b.at_ j h).trans (a.at_ j h)⟩
theorem OffEq.mono {S S' : List Nat} (a : OffEq S σ σ') (h : ∀ i ∈ S, i ∈ S') : OffEq S' σ σ' := ⟨a.len, fun j hj => a.at_ j fun z => hj (h j z)⟩
theorem wipe_at (σ : L2.St) : ∀ (vs : List Nat) (j : Nat), (wipe σ vs)[j]? = if j ∈ vs then (if j < σ.length then some none else none) else σ[j]?
  | [], j => by simp [wipe]
  | v :: vs, j => by
    unfold wipe
    by_cases hj : j = v
    · subst hj
      rw [if_pos List.mem_cons_self]
      by_cases hl : j < σ.length
      · rw [List.getElem?_set_self (by rw [wipe_length]; exact hl), if_pos hl]
      · rw [if_neg hl, List.getElem?_eq_none]
        rw [List.length_set, wipe_length]
        omega
    · rw [List.getElem?_set_ne (Ne.symm hj), wipe_at σ vs j]
      have e : (j ∈ v :: vs) = (j ∈ vs) := by simp [hj]
      simp only [e]
theorem wipe_off {S : List Nat} (o : OffEq S σ σ') {vs : List Nat} (h : ∀ i ∈ S, i ∈ vs) : wipe σ' vs = wipe σ vs := by
  apply List.ext_getElem?
  intro j
  rw [wipe_at, wipe_at, o.len]
  by_cases hj : j ∈ vs
  · rw [if_pos hj, if_pos hj]
  · rw [if_neg hj, if_neg hj]
    exact o.at_ j fun z => hj (h j z)
def wipeE (ρ : Env) : List Nat → Env
  | [] => ρ
  | v :: vs => (wipeE ρ vs).set v none
theorem Rel.forget2 (r : Rel K R L E F ρ σ rs H) (i : Nat) : Rel K R L E F (ρ.set i none) (σ.set i none) rs H := by
  have q := r.forget i
  refine ⟨by rw [List.length_set, List.length_set]; exact r.len, q.ex, q.ent, q.fr, q.row, q.rE, q.lk, fun j sw e => ?_, fun j k a x y e1 e2 ox oy e3 e4 => ?_⟩
  · have hj : j ≠ i := by
      rintro rfl
      have hl : j < ρ.length := by
        have := (List.getElem?_eq_some_iff.mp e).1
        rw [List.length_set] at this
        exact this
      rw [List.getElem?_set_self hl] at e
      cases e
    obtain ⟨v, e1, h1⟩ := q.sl j sw e
    exact ⟨v, by rw [List.getElem?_set_ne (Ne.symm hj)]; exact e1, h1⟩
  · have hj : j ≠ i := by
      rintro rfl
      have hl : j < ρ.length := by
        have := (List.getElem?_eq_some_iff.mp e1).1
        rw [List.length_set] at this
        exact this
      rw [List.getElem?_set_self hl] at e1
      cases e1
    have hk : k ≠ i := by
      rintro rfl
      have hl : k < ρ.length := by
        have := (List.getElem?_eq_some_iff.mp e2).1
        rw [List.length_set] at this
        exact this
      rw [List.getElem?_set_self hl] at e2
      cases e2
    rw [List.getElem?_set_ne (Ne.symm hj)] at e3
    rw [List.getElem?_set_ne (Ne.symm hk)] at e4
    exact q.own j k a x y e1 e2 ox oy e3 e4
theorem Rel.wipe (r : Rel K R L E F ρ σ rs H) : ∀ vs : List Nat, Rel K R L E F (wipeE ρ vs) (L2.wipe σ vs) rs H
  | [] => r
  | v :: vs => (Rel.wipe r vs).forget2 v
def GSem (K : PySem.W.Frag) (R : RA) (S : List Nat) (t : TG) (h : D → Env → Option Env) : Prop :=
  ∀ (L : Nat → Option (Addr × HO)) (E F : Hp) (ρ : Env) (σ : L2.St) (rs : RS) (H : Hp) (v : V) (x : D) (ρ' : Env) (Q : L2.St → Hp → Prop), Rel K R L E F ρ σ rs H → Dp K F v x → h x ρ = some ρ' →
    (∀ σ', Rel K R L E F ρ' σ' rs H → OffEq S σ σ' → Q σ' H) → t v σ H Q
def GsSem (K : PySem.W.Frag) (R : RA) (S : List Nat) (t : TGs) (h : List D → Env → Option Env) : Prop :=
  ∀ (L : Nat → Option (Addr × HO)) (E F : Hp) (ρ : Env) (σ : L2.St) (rs : RS) (H : Hp) (v : List V) (x : List D) (ρ' : Env) (Q : L2.St → Hp → Prop), Rel K R L E F ρ σ rs H → DpAll K F v x → h x ρ = some ρ' →
    (∀ σ', Rel K R L E F ρ' σ' rs H → OffEq S σ σ' → Q σ' H) → t v σ H Q
structure DG (X : Cx) (R : RA) (S : List Nat) (tg : Expr) (t : TG) (h : D → Env → Option Env) : Prop where
  pg : PG X tg t
  sem : GSem X.K R S t h
structure DGs (X : Cx) (R : RA) (S : List Nat) (tg : List Expr) (t : TGs) (h : List D → Env → Option Env) : Prop where
  pg : PGs X tg t
  sem : GsSem X.K R S t h
variable {S S' : List Nat} {tg it elt e c : Expr} {es ifs : List Expr} {g : TG} {gs : TGs} {hg : D → Env → Option Env} {hgs : List D → Env → Option Env} {pos p : Pos} {st : Stmt} {body : List Stmt} {tb : TS} {tt : TT} {te : TE} {ta : TA} {wi : TI}
def gNm (i : Nat) : D → Env → Option Env := fun x ρ => some (ρ.set i (some (.d x)))
theorem dg_name {i : Nat} {x : Str} (hN : X.N.Nodup) (hi : X.N[i]? = some x) (hx : Loc X.env.scope x) (hf : X.fn x = true ∨ X.env.scope.names.lookup x = some .local := by first | exact .inl rfl | exact .inr rfl | assumption) : DG X R [i] (.Name x pos) (gName i) (gNm i) :=
  ⟨pg_name hN hi hx hf, fun L E F ρ σ rs H v x ρ' Q r hd e k => by
    cases e
    refine k _ (r.put i _ v hd (fun a q => nomatch q)) ⟨List.length_set, fun j hj => ?_⟩
    rw [List.getElem?_set_ne]
    exact fun z => hj (by simp [z])⟩
def gNone : List D → Env → Option Env := fun xs ρ => match xs with
  | [] => some ρ
  | _ => none
def gMore (h : D → Env → Option Env) (hs : List D → Env → Option Env) : List D → Env → Option Env := fun xs ρ => match xs with
  | x :: xs => match h x ρ with
    | some ρ1 => hs xs ρ1
    | none => none
  | [] => none
theorem dgs_nil : DGs X R [] [] gNil gNone := ⟨pgs_nil, fun L E F ρ σ rs H v x ρ' Q r hd e k => by
  cases hd with
  | nil =>
    cases e
    exact ⟨rfl, k σ r OffEq.refl⟩
  | cons _ _ => cases e⟩
theorem dgs_cons (h1 : DG X R S e g hg) (h2 : DGs X R S' es gs hgs) (hs : (assignEach (e :: es) X.env).map (·.2) = assign e X.env :: (assignEach es X.env).map (·.2) := by rfl) : DGs X R (S ++ S') (e :: es) (gCons g gs) (gMore hg hgs) :=
  ⟨pgs_cons h1.pg h2.pg hs, fun L E F ρ σ rs H v x ρ' Q r hd e k => by
    cases hd with
    | nil => cases e
    | @cons v vs d ds hv ht =>
      have e' : (match hg d ρ with | some ρ1 => hgs ds ρ1 | none => none) = some ρ' := e
      cases e1 : hg d ρ with
      | none => rw [e1] at e'; cases e'
      | some ρ1 =>
        rw [e1] at e'
        refine ⟨v, vs, rfl, h1.sem L E F ρ σ rs H v d ρ1 _ r hv e1 fun σ1 r1 o1 => ?_⟩
        exact h2.sem L E F ρ1 σ1 rs H vs ds ρ' Q r1 ht e' fun σ2 r2 o2 => k σ2 r2 ((o1.mono fun i h => List.mem_append_left _ h).trans (o2.mono fun i h => List.mem_append_right _ h))⟩
def gTupF (n : Nat) (hs : List D → Env → Option Env) : D → Env → Option Env := fun x ρ => match x with
  | .tuple ds => if ds.length = n then hs ds ρ else none
  | _ => none
theorem dg_tup {k n : Nat} (hc : X.calm = true) (h : DGs X R S es gs hgs) (hn : (assignEach es X.env).length = n := by rfl) (hst : (assignEach es X.env).findIdx? (·.1) = none := by rfl) : DG X R S (.Tuple es k pos) (gTup X.K n gs) (gTupF n hgs) :=
  ⟨pg_tup hc h.pg hn hst, fun L E F ρ σ rs H v x ρ' Q r hd e k => by
    cases x with
    | tuple ds =>
      have e' : (if ds.length = n then hgs ds ρ else none) = some ρ' := e
      by_cases hl : ds.length = n
      · rw [if_pos hl] at e'
        cases hd with
        | @tup a vs _ h1 h2 =>
          exact ⟨a, vs, rfl, ex_t (r.fr _) h1, by rw [h2.len, hl], h.sem L E F ρ σ rs H vs ds ρ' Q r h2 e' k⟩
      · rw [if_neg hl] at e'; cases e'
    | none => cases e
    | bool _ => cases e
    | int _ => cases e
    | str _ => cases e
    | list _ => cases e
    | dict _ => cases e⟩
/-- a, b = e -/
def sTup (f : Env → M RV) (h : D → Env → Option Env) : Env → M Out := fun ρ => bnd (f ρ) fun x => match x with
  | .d y => bnd (lft (h y ρ)) fun ρ' => ret (.nx ρ')
  | _ => fail
/-- a, b = x, y with two plain local names -/
def sPar (i j : Nat) (fa : Env → M (List RV)) : Env → M Out := fun ρ => bnd (fa ρ) fun xs => match xs with
  | [x, y] => bnd (lft (toS x)) fun sx => bnd (lft (toS y)) fun sy => ret (.nx ((ρ.set i (some sx)).set j (some sy)))
  | _ => fail
theorem Rel.store2 {H0 : Hp} (r0 : Rel K R L E F ρ σ rs H0) {ρ1 : Env} {σ1 : L2.St} {F1 H1 : Hp} (r1 : Rel K R L E F1 ρ1 σ1 rs' H1) {v : V} {x : RV} {sv : SV} (hv : VR K R F1 H0 H1 v x) (e : toS x = some sv) (i : Nat)
    (apart : ∀ a u, v = .ref a → H1 a = some u → H0 a = none → ∀ j y, j ≠ i → ρ1[j]? = some (some y) → y.ow → σ1[j]? = some (some (V.ref a)) → False) : Rel K R L E F1 (ρ1.set i (some sv)) (σ1.set i (some v)) rs' H1 := by
  cases x with
  | d y =>
    cases e
    exact r1.put i _ v hv (fun a q => nomatch q)
  | n ds =>
    cases e
    obtain ⟨a, vs, rfl, h1, h0, h2, h3, h4⟩ := hv
    have hE : E a = none := by
      cases q : E a with
      | none => rfl
      | some u => rw [r0.ex a u q] at h0; cases h0
    refine r1.put i _ _ ⟨a, vs, rfl, h1, hE, h2, h3, h4⟩ fun b q1 q2 j fs hj e1 oy e2 => ?_
    cases q2
    exact apart a _ rfl h1 h0 j fs hj e1 oy e2
  | gb _ => cases e
  | gn c =>
    cases e
    obtain ⟨a, vs, rfl, h1, h0, h2, h3, h4⟩ := hv
    have hE : E a = none := by
      cases q : E a with
      | none => rfl
      | some u => rw [r0.ex a u q] at h0; cases h0
    refine r1.put i _ _ ⟨a, vs, rfl, h1, hE, h2, h3, h4⟩ fun b q1 q2 j fs hj e1 oy e2 => ?_
    cases q2
    exact apart a _ rfl h1 h0 j fs hj e1 oy e2
  | b ds => cases e
  | row => cases e
theorem ds_par {i j : Nat} {x y : Str} {a b : Expr} {fa fb : Env → M RV} {tA tB : TE} {px py pt : Pos} {kt k2 pt2} (hc : X.calm = true) (hN : X.N.Nodup) (hi : X.N[i]? = some x) (hj : X.N[j]? = some y) (hij : i ≠ j)
    (hx : X.env.scope.names.lookup x = some .local) (hy : X.env.scope.names.lookup y = some .local) (ha : DE X R a tA fa) (hb : DE X R b tB fb)
    (hw : swappedStores [.Tuple [.Name x px, .Name y py] kt pt] (.Tuple [a, b] k2 pt2) X.env = pure (some [x, y])) (hs : swapsWithSole [.Tuple [.Name x px, .Name y py] kt pt] (.Tuple [a, b] k2 pt2) pos.line X.env = pure false := by rfl)
    (hq1 : starEach [a, b] X.env = (false, eval a X.env) :: starEach [b] X.env := by rfl) (hq2 : starEach [b] X.env = (false, eval b X.env) :: starEach [] X.env := by rfl) :
    DS X R (.Assign [.Tuple [.Name x px, .Name y py] kt pt] (.Tuple [a, b] k2 pt2) pos) (tPar i j (tCons tA (tCons tB tNil))) (sPar i j (aCons fa (aCons fb aNil))) :=
  ⟨ps_par hc hN hi hj hij hx hy (pa_cons ha.pe (pa_cons hb.pe pa_nil hq2) hq1) hw hs, fun L E F ρ σ rs H o rs' D r hf k => by
    obtain ⟨xs, rs1, e1, hf1⟩ := bnd_some hf
    obtain ⟨x1, rs2, e2, hf2⟩ := bnd_some e1
    obtain ⟨ys, rs3, e3, hf3⟩ := bnd_some hf2
    obtain ⟨x2, rs4, e4, hf4⟩ := bnd_some e3
    obtain ⟨zs, rs5, e5, hf5⟩ := bnd_some hf4
    obtain ⟨e6, q6⟩ := ret_some e5
    obtain ⟨e7, q7⟩ := ret_some hf5
    obtain ⟨e8, q8⟩ := ret_some hf3
    subst e6 q6 e7 q7 e8 q8
    obtain ⟨sx, rs6, e9, hf6⟩ := bnd_some hf1
    obtain ⟨e10, q10⟩ := lft_some e9
    obtain ⟨sy, rs7, e11, hf7⟩ := bnd_some hf6
    obtain ⟨e12, q12⟩ := lft_some e11
    obtain ⟨e13, q13⟩ := ret_some hf7
    subst e13 q13 q12 q10
    refine ha.sem L E ρ σ F H rs x1 rs2 _ r e2 fun v1 F1 H1 s1 h1 => ?_
    refine hb.sem L E ρ σ F1 H1 rs2 x2 _ _ (r.step s1) e4 fun v2 F2 H2 s2 h2 => ?_
    refine ⟨v1, v2, rfl, ?_⟩
    have s12 := s1.trans r.row s2
    have r1 := Rel.store r s12 (h1.step s2) e10 i
    refine k _ F2 H2 (FStep.ofStep r s12) (Rel.store2 (r.step s1) r1 h2 e12 j fun a u ev hl h0 m y hm q1 oy q2 => ?_)
    subst ev
    by_cases hmi : m = i
    · subst hmi
      have hl : m < ρ.length := by
        have := (List.getElem?_eq_some_iff.mp q1).1
        rw [List.length_set] at this
        exact this
      rw [List.getElem?_set_self (by rw [← r.len]; exact hl)] at q2
      have q3 := Option.some.inj (Option.some.inj q2)
      subst q3
      rw [List.getElem?_set_self hl] at q1
      cases x1 with
      | d y => cases e10; cases q1; cases oy
      | n y =>
        obtain ⟨_, _, e, hh, _⟩ := h1
        cases e
        rw [h0] at hh
        cases hh
      | gb _ => cases e10
      | gn y =>
        obtain ⟨_, _, e, hh, _⟩ := h1
        cases e
        rw [h0] at hh
        cases hh
      | b y => cases e10
      | row => cases e10
    · rw [List.getElem?_set_ne (Ne.symm hmi)] at q1 q2
      obtain ⟨w, q, _⟩ := (r.step s1).own_at q1 oy q2
      rw [h0] at q
      cases q⟩
end
end DV

namespace DV
open PySem L2
section
variable {X : Cx} {K : PySem.W.Frag} {R : RA} {L : Nat → Option (Addr × HO)} {E F F' H H' : Hp} {ρ ρ' : Env} {σ σ' : L2.St} {rs rs' : RS}

/-- what must stand while it is walked: things that are new, the caller's, or one list of one's own (lk) -/
def PinOk (K : PySem.W.Frag) (R : RA) (E F' H H' : Hp) (ρ : Env) (σ : L2.St) (lk : Option Nat) (P : Hp) : Prop := ∀ a o, P a = some o → H' a = some o ∧ some a ≠ R.row ∧ Fx K a o ∧
  ((H a = none ∧ F' a = none) ∨ E a = some o ∨ ∃ i ds, lk = some i ∧ ρ[i]? = some (some (SV.o ds)) ∧ σ[i]? = some (some (V.ref a)))
def YOk (K : PySem.W.Frag) (F' : Hp) (its : List D) (Y : Nat → Hp → V → Hp → Prop) : Prop := ∀ (i : Nat) (H1 : Hp) (v : V) (H2 F1 : Hp), i < its.length → (∀ a o, F' a = some o → F1 a = some o) → (∀ a o, F1 a = some o → H1 a = some o) → Y i H1 v H2 →
  ∃ x, its[i]? = some x ∧ ((H2 = H1 ∧ Dp K F1 v x) ∨ (∃ T vs ds, v = .ref T ∧ H1 T = none ∧ NewT H1 H2 T vs ∧ x = .tuple ds ∧ DpAll K F1 vs ds) ∨
    ∃ T2 T vs ds j, v = .ref T ∧ H1 T2 = none ∧ T ≠ T2 ∧ H1 T = none ∧ (∃ H5, NewT H1 H5 T2 vs ∧ NewT H5 H2 T [.int j, .ref T2]) ∧ x = .tuple [.int j, .tuple ds] ∧ DpAll K F1 vs ds)
def IterOk (K : PySem.W.Frag) (R : RA) (E : Hp) (ρ : Env) (σ : L2.St) (H F' H' : Hp) (J : It) (its : List D) (lk : Option Nat) : Prop :=
  ∃ (G : Hp → Prop) (Y : Nat → Hp → V → Hp → Prop) (P : Hp), Walk J its.length G Y ∧ PinOk K R E F' H H' ρ σ lk P ∧ (∀ H2, (∀ a o, P a = some o → H2 a = some o) → (∀ a o, F' a = some o → H2 a = some o) → G H2) ∧ YOk K F' its Y
def ISem (K : PySem.W.Frag) (R : RA) (wi : TI) (f : Env → M (List D × Option Nat)) : Prop :=
  ∀ (L : Nat → Option (Addr × HO)) (E : Hp) (ρ : Env) (σ : L2.St) (F H : Hp) (rs : RS) (its : List D) (lk : Option Nat) (rs' : RS) (Rq : It → Hp → Prop), Rel K R L E F ρ σ rs H → f ρ rs = some ((its, lk), rs') →
    (∀ J F' H', Step K R rs' F H F' H' → IterOk K R E ρ σ H F' H' J its lk → Rq J H') → wi σ H Rq
structure DI (X : Cx) (R : RA) (tg it : Expr) (wi : TI) (f : Env → M (List D × Option Nat)) : Prop where
  pi : PI X tg it wi
  sem : ISem X.K R wi f

def lockE (ρ : Env) : Option Nat → Env
  | none => ρ
  | some i => match ρ[i]? with
    | some (some (.o ds)) => ρ.set i (some (.k ds))
    | _ => ρ
def unlockE (ρ ρ' : Env) : Option Nat → Env
  | none => ρ'
  | some i => match ρ[i]?, ρ'[i]? with
    | some (some (.o ds)), some (some (.k _)) => ρ'.set i (some (.o ds))
    | _, _ => ρ'
theorem unlock_none {i : Nat} (h : ∀ ds, ρ[i]? ≠ some (some (SV.o ds))) : unlockE ρ ρ' (some i) = ρ' := by
  show (match ρ[i]?, ρ'[i]? with | some (some (.o ds)), some (some (.k _)) => ρ'.set i (some (.o ds)) | _, _ => ρ') = ρ'
  split
  · rename_i e _
    exact absurd e (h _)
  · rfl
theorem lock_none {i : Nat} (h : ∀ ds, ρ[i]? ≠ some (some (SV.o ds))) : lockE ρ (some i) = ρ := by
  show (match ρ[i]? with | some (some (.o ds)) => ρ.set i (some (.k ds)) | _ => ρ) = ρ
  split
  · rename_i e
    exact absurd e (h _)
  · rfl
def addH (P E : Hp) : Hp := fun a => match P a with
  | some o => some o
  | none => E a
theorem addH_fx {P E : Hp} (h1 : ∀ a o, P a = some o → Fx K a o) (h2 : ∀ a o, E a = some o → Fx K a o) : ∀ a o, addH P E a = some o → Fx K a o := fun a o h => by
  unfold addH at h
  cases e : P a with
  | none => rw [e] at h; exact h2 a o h
  | some u => rw [e] at h; cases h; exact h1 a _ e
theorem addH_none {P E : Hp} {a : Addr} (h : addH P E a = none) : P a = none ∧ E a = none := by
  unfold addH at h
  cases e : P a with
  | none => rw [e] at h; exact ⟨rfl, h⟩
  | some o => rw [e] at h; cases h
theorem addH_of {P E : Hp} {a : Addr} (h1 : P a = none) (h2 : E a = none) : addH P E a = none := by
  unfold addH; rw [h1]; exact h2
/-- without a lock of one's own -/
theorem Rel.pin0 (r0 : Rel K R L E F ρ σ rs H) (s : Step K R rs' F H F' H') {lk : Option Nat} {P : Hp} (p : PinOk K R E F' H H' ρ σ lk P) (hn : ∀ i ds, lk = some i → ρ[i]? ≠ some (some (SV.o ds))) :
    Rel K R L (addH P E) F' ρ σ rs' H' := by
  have r1 := r0.step s
  have hex : ∀ a o, addH P E a = some o → H' a = some o := fun a o e => by
    unfold addH at e
    cases q : P a with
    | none => rw [q] at e; exact r1.ex a o e
    | some u => rw [q] at e; cases e; exact (p a _ q).1
  refine ⟨r1.len, hex, addH_fx (fun a o e => (p a o e).2.2.1) r1.ent, r1.fr, r1.row, fun q e => ⟨addH_of ?_ (r1.rE q e).1, (r1.rE q e).2⟩, fun i a vs e => ?_, fun i sv e => ?_, r1.own⟩
  · cases z : P q with
    | none => rfl
    | some u => exact absurd e.symm (p q u z).2.1
  · have hE := r1.lk i a vs e
    unfold addH
    cases q : P a with
    | none => exact hE
    | some u =>
      have h1 := (p a u q).1
      rw [r1.ex a _ hE] at h1
      exact h1.symm ▸ rfl
  · obtain ⟨v, e1, q⟩ := r1.sl i sv e
    refine ⟨v, e1, ?_⟩
    cases sv with
    | d x => exact q
    | k ds => exact q
    | un => exact trivial
    | ex _ _ => exact q
    | fn _ => exact q
    | lm => exact q
    | m _ => exact q
    | row => exact q
    | o ds =>
      obtain ⟨a, vs, rfl, h1, h2, h3, h4, h5⟩ := q
      refine ⟨a, vs, rfl, h1, addH_of ?_ h2, h3, h4, h5⟩
      cases z : P a with
      | none => rfl
      | some u =>
        rcases (p a u z).2.2.2 with ⟨z1, _⟩ | z1 | ⟨j, es, z1, z2, _⟩
        · obtain ⟨w, e2, b, ws, e3, k1, _⟩ := r0.sl i _ e
          rw [e1] at e2
          cases e2
          cases e3
          rw [z1] at k1
          cases k1
        · rw [h2] at z1; cases z1
        · exact absurd z2 (hn j es z1)
    | g c =>
      obtain ⟨a, vs, rfl, h1, h2, h3, h4, h5⟩ := q
      refine ⟨a, vs, rfl, h1, addH_of ?_ h2, h3, h4, h5⟩
      cases z : P a with
      | none => rfl
      | some u =>
        rcases (p a u z).2.2.2 with ⟨z1, _⟩ | z1 | ⟨j, es, z1, z2, _⟩
        · obtain ⟨w, k1, _⟩ := r0.own_at e trivial e1
          rw [z1] at k1
          cases k1
        · rw [h2] at z1; cases z1
        · exact absurd z2 (hn j es z1)
theorem Rel.unpin0 {P : Hp} {F2 H2 : Hp} {ρ2 : Env} {σ2 : L2.St} {rs2 : RS} (r1 : Rel K R L E F' ρ σ rs' H') (r2 : Rel K R L (addH P E) F2 ρ2 σ2 rs2 H2) (hPE : ∀ a o, E a = some o → addH P E a = some o) : Rel K R L E F2 ρ2 σ2 rs2 H2 := by
  refine ⟨r2.len, fun a o e => r2.ex a o (hPE a o e), r1.ent, r2.fr, r2.row, fun q e => ⟨(r1.rE q e).1, (r2.rE q e).2⟩, r1.lk, fun i sv e => ?_, r2.own⟩
  obtain ⟨v, e1, q⟩ := r2.sl i sv e
  refine ⟨v, e1, ?_⟩
  cases sv with
  | d x => exact q
  | k ds => exact q
  | un => exact trivial
  | ex _ _ => exact q
  | fn _ => exact q
  | lm => exact q
  | m _ => exact q
  | row => exact q
  | o ds =>
    obtain ⟨a, vs, rfl, h1, h2, h3, h4, h5⟩ := q
    exact ⟨a, vs, rfl, h1, (addH_none h2).2, h3, h4, h5⟩
  | g c =>
    obtain ⟨a, vs, rfl, h1, h2, h3, h4, h5⟩ := q
    exact ⟨a, vs, rfl, h1, (addH_none h2).2, h3, h4, h5⟩
theorem pinE (r0 : Rel K R L E F ρ σ rs H) (s : Step K R rs' F H F' H') {lk : Option Nat} {P : Hp} (p : PinOk K R E F' H H' ρ σ lk P) : ∀ a o, E a = some o → addH P E a = some o := fun a o e => by
  unfold addH
  cases q : P a with
  | none => exact e
  | some u =>
    have h1 := (p a u q).1
    rw [(r0.step s).ex a o e] at h1
    exact h1.symm ▸ rfl
/-- what a loop starts from, and how its end is read -/
structure Pinned (K : PySem.W.Frag) (R : RA) (L : Nat → Option (Addr × HO)) (E F' H' P : Hp) (ρ : Env) (σ : L2.St) (rs' : RS) (lk : Option Nat) (L2 : Nat → Option (Addr × HO)) (E2 : Hp) : Prop where
  rel : Rel K R L2 E2 F' (lockE ρ lk) σ rs' H'
  less : ∀ a, E2 a = none → E a = none
  sub : ∀ a o, E a = some o → E2 a = some o
  pin : ∀ a o, P a = some o → E2 a = some o
  back : ∀ F2 ρ2 σ2 rs2 H2, FStep R E2 F' F2 → Rel K R L2 E2 F2 ρ2 σ2 rs2 H2 → Rel K R L E F2 (unlockE ρ ρ2 lk) σ2 rs2 H2
theorem pinned (r0 : Rel K R L E F ρ σ rs H) (s : Step K R rs' F H F' H') {lk : Option Nat} {P : Hp} (p : PinOk K R E F' H H' ρ σ lk P) : ∃ L2 E2, Pinned K R L E F' H' P ρ σ rs' lk L2 E2 := by
  have r1 := r0.step s
  have plain : (∀ i ds, lk = some i → ρ[i]? ≠ some (some (SV.o ds))) → ∃ L2 E2, Pinned K R L E F' H' P ρ σ rs' lk L2 E2 := fun hn => by
    have h1 : lockE ρ lk = ρ := by
      cases lk with
      | none => rfl
      | some i => exact lock_none fun ds => hn i ds rfl
    have h2 : ∀ ρ2, unlockE ρ ρ2 lk = ρ2 := fun ρ2 => by
      cases lk with
      | none => rfl
      | some i => exact unlock_none fun ds => hn i ds rfl
    refine ⟨L, addH P E, ⟨by rw [h1]; exact r0.pin0 s p hn, fun a e => (addH_none e).2, pinE r0 s p, fun a o e => by unfold addH; rw [e], fun F2 ρ2 σ2 rs2 H2 _ r2 => ?_⟩⟩
    rw [h2]
    exact Rel.unpin0 r1 r2 (pinE r0 s p)
  cases hlk : lk with
  | none =>
    subst hlk
    exact plain fun i ds e => nomatch e
  | some i =>
    by_cases ho : ∃ ds, ρ[i]? = some (some (SV.o ds))
    · obtain ⟨ds, ho⟩ := ho
      subst hlk
      obtain ⟨v, ev, a, vs, rfl, q1, q2, q3, q4, q5⟩ := r1.sl i _ ho
      have hl : i < ρ.length := (List.getElem?_eq_some_iff.mp ho).1
      have elock : lockE ρ (some i) = ρ.set i (some (.k ds)) := by
        show (match ρ[i]? with | some (some (.o ds)) => ρ.set i (some (.k ds)) | _ => ρ) = _
        rw [ho]
      have hPa : ∀ o, P a = some o → o = .lst vs := fun o e => by
        have := (p a o e).1
        rw [q1] at this
        exact (Option.some.inj this).symm
      have hE2 : ∀ b o, upd (addH P E) a (.lst vs) b = some o → H' b = some o := fun b o e => by
        by_cases hb : b = a
        · subst hb; rw [upd_same] at e; rw [q1]; exact e
        · rw [upd_ne hb] at e
          unfold addH at e
          cases z : P b with
          | none => rw [z] at e; exact r1.ex b o e
          | some u => rw [z] at e; cases e; exact (p b _ z).1
      have hsub : ∀ b o, E b = some o → upd (addH P E) a (.lst vs) b = some o := fun b o e => by
        rw [upd_ne (fun z => by rw [z, q2] at e; cases e)]
        exact pinE r0 s p b o e
      refine ⟨fun j => if j = 2 * i then some (a, .lst vs) else L j, upd (addH P E) a (.lst vs), ⟨?_, fun b e => ?_, hsub, fun b o e => ?_, fun F2 ρ2 σ2 rs2 H2 fs r2 => ?_⟩⟩
      · rw [elock]
        refine ⟨by rw [List.length_set]; exact r1.len, hE2, fun b o e => by
          by_cases hb : b = a
          · subst hb; rw [upd_same] at e; cases e; exact .lst
          · rw [upd_ne hb] at e; exact addH_fx (fun a o e => (p a o e).2.2.1) r1.ent b o e, r1.fr, r1.row, fun q e => ⟨?_, (r1.rE q e).2⟩, fun j b ws e => ?_, fun j sv e => ?_, fun j k c xa ya e1 e2 ox oy e3 e4 => ?_⟩
        · rw [upd_ne (fun z => q4 (by rw [← z, e]))]
          refine addH_of ?_ (r1.rE q e).1
          cases z : P q with
          | none => rfl
          | some u => exact absurd e.symm (p q u z).2.1
        · by_cases hj : j = 2 * i
          · have e' : (if j = 2 * i then some (a, .lst vs) else L j) = some (b, ws) := e
            rw [if_pos hj] at e'
            cases e'
            exact upd_same
          · have e' : (if j = 2 * i then some (a, .lst vs) else L j) = some (b, ws) := e
            rw [if_neg hj] at e'
            exact hsub b _ (r1.lk j b ws e')
        · by_cases hj : j = i
          · subst hj
            rw [List.getElem?_set_self hl] at e
            cases e
            exact ⟨_, ev, a, vs, if_pos rfl, rfl, q5⟩
          · rw [List.getElem?_set_ne (Ne.symm hj)] at e
            obtain ⟨w, e1, q⟩ := r1.sl j sv e
            refine ⟨w, e1, ?_⟩
            cases sv with
            | d x => exact q
            | k es =>
              obtain ⟨b, ws, z1, z2, z3⟩ := q
              exact ⟨b, ws, (if_neg (show ¬ 2 * j = 2 * i by omega)).trans z1, z2, z3⟩
            | un => exact trivial
            | ex _ _ => exact q
            | fn _ => exact q
            | lm => exact q
            | m _ =>
              obtain ⟨b, bs, z1, z2⟩ := q
              exact ⟨b, bs, z1, z2.cong fun k => if_neg (show ¬ 2 * k + 1 = 2 * i by omega)⟩
            | row => exact q
            | o es =>
              obtain ⟨b, ws, rfl, z1, z2, z3, z4, z5⟩ := q
              have hba : b ≠ a := by
                rintro rfl
                exact hj (r1.own j i b _ _ e ho trivial trivial e1 ev)
              refine ⟨b, ws, rfl, z1, ?_, z3, z4, z5⟩
              rw [upd_ne hba]
              refine addH_of ?_ z2
              cases z : P b with
              | none => rfl
              | some u =>
                rcases (p b u z).2.2.2 with ⟨y1, _⟩ | y1 | ⟨m, fs, y1, y2, y3⟩
                · obtain ⟨w, k1, _⟩ := r0.own_at e trivial e1
                  rw [y1] at k1
                  cases k1
                · rw [z2] at y1; cases y1
                · cases y1
                  rw [ev] at y3
                  cases y3
                  exact absurd rfl hba
            | g es =>
              obtain ⟨b, ws, rfl, z1, z2, z3, z4, z5⟩ := q
              have hba : b ≠ a := by
                rintro rfl
                exact hj (r1.own j i b _ _ e ho trivial trivial e1 ev)
              refine ⟨b, ws, rfl, z1, ?_, z3, z4, z5⟩
              rw [upd_ne hba]
              refine addH_of ?_ z2
              cases z : P b with
              | none => rfl
              | some u =>
                rcases (p b u z).2.2.2 with ⟨y1, _⟩ | y1 | ⟨m, fs, y1, y2, y3⟩
                · obtain ⟨w, k1, _⟩ := r0.own_at e trivial e1
                  rw [y1] at k1
                  cases k1
                · rw [z2] at y1; cases y1
                · cases y1
                  rw [ev] at y3
                  cases y3
                  exact absurd rfl hba
        · have hj : j ≠ i := by
            rintro rfl
            rw [List.getElem?_set_self hl] at e1
            cases e1
            cases ox
          have hk : k ≠ i := by
            rintro rfl
            rw [List.getElem?_set_self hl] at e2
            cases e2
            cases oy
          exact r1.own j k c xa ya (by rw [List.getElem?_set_ne (Ne.symm hj)] at e1; exact e1) (by rw [List.getElem?_set_ne (Ne.symm hk)] at e2; exact e2) ox oy e3 e4
      · have hba : b ≠ a := by
          rintro rfl
          rw [upd_same] at e
          cases e
        rw [upd_ne hba] at e
        exact (addH_none e).2
      · by_cases hb : b = a
        · subst hb
          rw [upd_same, hPa o e]
        · rw [upd_ne hb]
          unfold addH
          rw [e]
      · have weak : Rel K R (fun j => if j = 2 * i then some (a, .lst vs) else L j) E F2 ρ2 σ2 rs2 H2 → True := fun _ => trivial
        -- slots other than i
        have slot : ∀ (j : Nat) (sv : SV) (v : V), j ≠ i → SR K R (fun j => if j = 2 * i then some (a, .lst vs) else L j) (upd (addH P E) a (.lst vs)) F2 H2 j v sv → SR K R L E F2 H2 j v sv := fun j sv v hj q => by
          cases sv with
          | d x => exact q
          | k es =>
            obtain ⟨b, ws, z1, z2, z3⟩ := q
            exact ⟨b, ws, (if_neg (show ¬ 2 * j = 2 * i by omega)).symm.trans z1, z2, z3⟩
          | un => exact trivial
          | ex _ _ => exact q
          | fn _ => exact q
          | lm => exact q
          | m _ =>
            obtain ⟨b, bs, z1, z2⟩ := q
            exact ⟨b, bs, z1, z2.cong fun k => (if_neg (show ¬ 2 * k + 1 = 2 * i by omega)).symm⟩
          | row => exact q
          | o es =>
            obtain ⟨b, ws, rfl, z1, z2, z3, z4, z5⟩ := q
            refine ⟨b, ws, rfl, z1, ?_, z3, z4, z5⟩
            cases z : E b with
            | none => rfl
            | some u => rw [hsub b u z] at z2; cases z2
          | g es =>
            obtain ⟨b, ws, rfl, z1, z2, z3, z4, z5⟩ := q
            refine ⟨b, ws, rfl, z1, ?_, z3, z4, z5⟩
            cases z : E b with
            | none => rfl
            | some u => rw [hsub b u z] at z2; cases z2
        by_cases hk : ∃ es, ρ2[i]? = some (some (SV.k es))
        · obtain ⟨es, hk⟩ := hk
          have eun : unlockE ρ ρ2 (some i) = ρ2.set i (some (.o ds)) := by
            show (match ρ[i]?, ρ2[i]? with | some (some (.o ds)), some (some (.k _)) => ρ2.set i (some (.o ds)) | _, _ => ρ2) = _
            rw [ho, hk]
          rw [eun]
          have hl2 : i < ρ2.length := (List.getElem?_eq_some_iff.mp hk).1
          obtain ⟨v2, ev2, b, ws, y1, y2, y3⟩ := r2.sl i _ hk
          have y1' : (if 2 * i = 2 * i then some (a, HO.lst vs) else L (2 * i)) = some (b, .lst ws) := y1
          rw [if_pos rfl] at y1'
          cases y1'
          subst y2
          have hEa : upd (addH P E) a (.lst vs) a = some (.lst vs) := upd_same
          have hFa : F2 a = none := by
            cases z : F2 a with
            | none => rfl
            | some u =>
              rcases fs.new a u z with y | ⟨y, _⟩
              · rw [q3] at y; cases y
              · rw [hEa] at y; cases y
          refine ⟨by rw [List.length_set]; exact r2.len, fun b o e => r2.ex b o (hsub b o e), r1.ent, r2.fr, r2.row, fun q e => ⟨(r1.rE q e).1, (r2.rE q e).2⟩, r1.lk, fun j sv e => ?_, fun j k c xa ya e1 e2 ox oy e3 e4 => ?_⟩
          · by_cases hj : j = i
            · subst hj
              rw [List.getElem?_set_self hl2] at e
              cases e
              exact ⟨_, ev2, a, vs, rfl, r2.ex a _ hEa, q2, hFa, q4, Dp.monoA fs.sub _ _ q5⟩
            · rw [List.getElem?_set_ne (Ne.symm hj)] at e
              obtain ⟨w, e1, q⟩ := r2.sl j sv e
              exact ⟨w, e1, slot j sv w hj q⟩
          · have other : ∀ (j : Nat) (x1 : SV), j ≠ i → (ρ2.set i (some (SV.o ds)))[j]? = some (some x1) → x1.ow → σ2[j]? = some (some (V.ref c)) → c ≠ a := fun j x1 hj e1 ox e3 => by
              rw [List.getElem?_set_ne (Ne.symm hj)] at e1
              obtain ⟨u, _, z2, _⟩ := r2.own_at e1 ox e3
              rintro rfl
              rw [hEa] at z2
              cases z2
            by_cases hj : j = i
            · by_cases hk' : k = i
              · rw [hj, hk']
              · exfalso
                subst hj
                rw [ev2] at e3
                cases e3
                exact other k ya hk' e2 oy e4 rfl
            · by_cases hk' : k = i
              · exfalso
                subst hk'
                rw [ev2] at e4
                cases e4
                exact other j xa hj e1 ox e3 rfl
              · rw [List.getElem?_set_ne (Ne.symm hj)] at e1
                rw [List.getElem?_set_ne (Ne.symm hk')] at e2
                exact r2.own j k c xa ya e1 e2 ox oy e3 e4
        · have eun : unlockE ρ ρ2 (some i) = ρ2 := by
            show (match ρ[i]?, ρ2[i]? with | some (some (.o ds)), some (some (.k _)) => ρ2.set i (some (.o ds)) | _, _ => ρ2) = _
            split
            · rename_i e2
              exact absurd ⟨_, e2⟩ hk
            · rfl
          rw [eun]
          refine ⟨r2.len, fun b o e => r2.ex b o (hsub b o e), r1.ent, r2.fr, r2.row, fun q e => ⟨(r1.rE q e).1, (r2.rE q e).2⟩, r1.lk, fun j sv e => ?_, r2.own⟩
          obtain ⟨w, e1, q⟩ := r2.sl j sv e
          by_cases hj : j = i
          · subst hj
            refine ⟨w, e1, ?_⟩
            cases sv with
            | d x => exact q
            | k es => exact absurd ⟨es, e⟩ hk
            | un => exact trivial
            | ex _ _ => exact q
            | fn _ => exact q
            | lm => exact q
            | m _ =>
              obtain ⟨b, bs, z1, z2⟩ := q
              exact ⟨b, bs, z1, z2.cong fun k => (if_neg (show ¬ 2 * k + 1 = 2 * j by omega)).symm⟩
            | row => exact q
            | o es =>
              obtain ⟨b, ws, rfl, z1, z2, z3, z4, z5⟩ := q
              refine ⟨b, ws, rfl, z1, ?_, z3, z4, z5⟩
              cases z : E b with
              | none => rfl
              | some u => rw [hsub b u z] at z2; cases z2
            | g es =>
              obtain ⟨b, ws, rfl, z1, z2, z3, z4, z5⟩ := q
              refine ⟨b, ws, rfl, z1, ?_, z3, z4, z5⟩
              cases z : E b with
              | none => rfl
              | some u => rw [hsub b u z] at z2; cases z2
          · exact ⟨w, e1, slot j sv w hj q⟩
    · subst hlk
      exact plain fun j ds e q => by
        cases e
        exact ho ⟨ds, q⟩
end
end DV

namespace DV
open PySem L2
section
variable {X : Cx} {K : PySem.W.Frag} {R : RA} {L : Nat → Option (Addr × HO)} {E F F' H H' : Hp} {ρ ρ' : Env} {σ σ' : L2.St} {rs rs' : RS}
variable {S S' : List Nat} {tg it elt e c : Expr} {es ifs : List Expr} {g : TG} {gs : TGs} {hg : D → Env → Option Env} {hgs : List D → Env → Option Env} {pos p : Pos} {st : Stmt} {body : List Stmt} {tb : TS} {tt : TT} {te : TE} {ta : TA} {wi : TI}
/-- what a walk yields, as a step -/
theorem YOk.step {its : List D} {Y : Nat → Hp → V → Hp → Prop} (y : YOk K F' its Y) {i : Nat} {H1 H2 F1 : Hp} {v : V} (hi : i < its.length) (h1 : ∀ a o, F' a = some o → F1 a = some o) (s : Step K R rs F1 H1 F1 H1) (hy : Y i H1 v H2) :
    ∃ x F2, its[i]? = some x ∧ Step K R rs F1 H1 F2 H2 ∧ Dp K F2 v x := by
  obtain ⟨x, e, q⟩ := y i H1 v H2 F1 hi h1 s.fin hy
  rcases q with ⟨rfl, hd⟩ | ⟨T, vs, ds, rfl, hT, ⟨ob, hob, rfl⟩, rfl, hd⟩ | ⟨T2, T, vs, ds, j, rfl, hT2, hne, hT, ⟨H5, ⟨ob, hob, rfl⟩, ⟨ob2, hob2, rfl⟩⟩, rfl, hd⟩
  · exact ⟨x, F1, e, s, hd⟩
  · have s2 := Step.new_tup (ob := ob) (vs := vs) s hT
    exact ⟨_, _, e, s2, .tup (.inl (.inr ⟨_, upd_same⟩)) (Dp.monoA s2.sub _ _ hd) ⟨_, _, upd_same, hob⟩⟩
  · have s2 := Step.new_tup (ob := ob) (vs := vs) s hT2
    have hT' : upd H1 T2 (TupX ob vs) T = none := by rw [upd_ne hne]; exact hT
    have s3 := Step.new_tup (ob := ob2) (vs := [V.int j, V.ref T2]) (Step.refl s2.fin s2.row s2.rF) hT'
    have s23 := s2.trans s.row s3
    have d2 : Dp K (upd F1 T2 (TupX ob vs)) (.ref T2) (.tuple ds) := .tup (.inl (.inr ⟨_, upd_same⟩)) (Dp.monoA s2.sub _ _ hd) ⟨_, _, upd_same, hob⟩
    exact ⟨_, _, e, s23, .tup (.inl (.inr ⟨_, upd_same⟩)) (.cons (.int j) (.cons (Dp.mono s3.sub _ _ d2) .nil)) ⟨_, _, upd_same, hob2⟩⟩

def loopF (tg : D → Env → Option Env) (body : Env → M Out) : List D → Env → M Out
  | [], ρ => ret (.nx ρ)
  | x :: xs, ρ => bnd (lft (tg x ρ)) fun ρ1 => bnd (body ρ1) fun o => match o with
    | .nx ρ2 => loopF tg body xs ρ2
    | .ct ρ2 => loopF tg body xs ρ2
    | .bk ρ2 => ret (.nx ρ2)
    | .rt r => ret (.rt r)
def unlockO (ρ : Env) (lk : Option Nat) : Out → Out
  | .nx ρ' => .nx (unlockE ρ ρ' lk)
  | o => o
def sFor (fi : Env → M (List D × Option Nat)) (tg : D → Env → Option Env) (body : Env → M Out) : Env → M Out := fun ρ =>
  bnd (fi ρ) fun p => bnd (loopF tg body p.1 (lockE ρ p.2)) fun o => ret (unlockO ρ p.2 o)
theorem ssem_for_at {fi : Env → M (List D × Option Nat)} {gb : Env → M Out} (r : Rel K R L E F ρ σ rs H) (hi : ∀ (its : List D) (lk : Option Nat) (rs1 : RS) (Rq : It → Hp → Prop), fi ρ rs = some ((its, lk), rs1) → (∀ J F' H', Step K R rs1 F H F' H' → IterOk K R E ρ σ H F' H' J its lk → Rq J H') → wi σ H Rq)
    (hgs : GSem K R S g hg) (hb : SSem K R tb gb) {o : Out} {rs' : RS} {D : Ends} (hf : sFor fi hg gb ρ rs = some (o, rs')) (k : Post K R L E F D rs' o) : tFor wi g tb D σ H := by
  obtain ⟨⟨its, lk⟩, rs1, e1, hf1⟩ := bnd_some hf
  obtain ⟨o1, rs2, e2, hf2⟩ := bnd_some hf1
  obtain ⟨e3, q3⟩ := ret_some hf2
  subst e3 q3
  refine hi its lk rs1 _ e1 fun J F1 H1 s1 ⟨G, Y, P, wk, pn, hG, hY⟩ => ?_
  obtain ⟨L2, E2, pd⟩ := pinned r s1 pn
  have fs1 := FStep.ofStep r s1
  -- the ends
  have fin : ∀ ρ2 σ2 F2 H2, o1 = .nx ρ2 → FStep R E2 F1 F2 → Rel K R L2 E2 F2 ρ2 σ2 rs' H2 → D.nx σ2 H2 := fun ρ2 σ2 F2 H2 eo fs r2 => by
    subst eo
    exact k σ2 F2 H2 (fs1.trans (fs.less pd.less)) (pd.back F2 ρ2 σ2 _ H2 fs r2)
  have finR : ∀ x v F2 F3 H3, o1 = .rt x → FStep R E2 F1 F2 → Ret K R rs' E2 F2 F3 H3 v x → D.rt v H3 := fun x v F2 F3 H3 eo fs q => by
    subst eo
    refine k v F3 H3 ⟨fs1.trans ((fs.trans q.fs).less pd.less), fun a o e => q.ex a o (pd.sub a o e), q.fr, q.row, q.rF, ?_⟩
    have hv := q.val
    cases x with
    | d y => exact hv
    | n ds =>
      obtain ⟨a, vs, z1, z2, z3, z4⟩ := hv
      exact ⟨a, vs, z1, z2, pd.less a z3, z4⟩
    | gb _ => exact hv.elim
    | gn c =>
      obtain ⟨a, vs, z1, z2, z3, z4⟩ := hv
      exact ⟨a, vs, z1, z2, pd.less a z3, z4⟩
    | b ds => exact hv.elim
    | row => exact hv.elim
  refine for_it wk (fun i σ' H' => ∃ F2 ρ2 rs3, FStep R E2 F1 F2 ∧ Rel K R L2 E2 F2 ρ2 σ' rs3 H' ∧ loopF hg gb (its.drop i) ρ2 rs3 = some (o1, rs')) ⟨F1, _, rs1, FStep.refl, pd.rel, e2⟩
    (fun i σ' H' hi ⟨F2, ρ2, rs3, fs, r2, _⟩ => hG H' (fun a o q => r2.ex a o (pd.pin a o q)) fun a o q => r2.fr a o (fs.sub a o q)) ?_ ?_
  · rintro i v σ' H2 H3 hi' ⟨F2, ρ2, rs3, fs, r2, el⟩ hy
    obtain ⟨x, F3, ex, s3, hd⟩ := hY.step hi' fs.sub r2.refl hy
    have er : its.drop i = x :: its.drop (i + 1) := by
      have hx : its[i] = x := by
        rw [List.getElem?_eq_getElem hi'] at ex
        exact Option.some.inj ex
      rw [← hx]
      exact List.drop_eq_getElem_cons hi'
    rw [er] at el
    obtain ⟨ρ3, rs4, e4, el1⟩ := bnd_some el
    obtain ⟨e5, q5⟩ := lft_some e4
    subst q5
    obtain ⟨o2, rs5, e6, el2⟩ := bnd_some el1
    have r3 := r2.step s3
    have fs3 := fs.trans (FStep.ofStep r2 s3)
    refine hgs L2 E2 F3 ρ2 σ' _ H3 v x ρ3 _ r3 hd e5 fun σ4 r4 _ => ?_
    refine hb L2 E2 F3 ρ3 σ4 _ H3 o2 rs5 _ r4 e6 ?_
    cases o2 with
    | nx ρ5 => exact fun σ5 F5 H5 f5 r5 => ⟨F5, ρ5, rs5, fs3.trans f5, r5, el2⟩
    | ct ρ5 => exact fun σ5 F5 H5 f5 r5 => ⟨F5, ρ5, rs5, fs3.trans f5, r5, el2⟩
    | bk ρ5 =>
      obtain ⟨e7, q7⟩ := ret_some el2
      subst q7
      exact fun σ5 F5 H5 f5 r5 => fin ρ5 σ5 F5 H5 e7.symm (fs3.trans f5) r5
    | rt x =>
      obtain ⟨e7, q7⟩ := ret_some el2
      subst q7
      exact fun v5 F5 H5 q => finR x v5 F3 F5 H5 e7.symm fs3 q
  · rintro σ' H' ⟨F2, ρ2, rs3, fs, r2, el⟩
    rw [List.drop_length] at el
    obtain ⟨e7, q7⟩ := ret_some el
    subst q7
    exact fin ρ2 σ' F2 H' e7.symm fs r2
theorem ssem_for {fi : Env → M (List D × Option Nat)} {gb : Env → M Out} (hi : ISem K R wi fi) (hgs : GSem K R S g hg) (hb : SSem K R tb gb) : SSem K R (tFor wi g tb) (sFor fi hg gb) := fun L E F ρ σ rs H o rs' D r hf k =>
  ssem_for_at r (fun its lk rs1 Rq e1 kk => hi L E ρ σ F H rs its lk rs1 Rq r e1 kk) hgs hb hf k
theorem ds_for {fi : Env → M (List D × Option Nat)} {gb : Env → M Out} (hp : PassesOwn (model X.prog X.w) X.A X.env X.xe) (hc : X.calm = true) (hi : DI X R tg it wi fi) (hg' : DG X R S tg g hg) (hb : DSs X R body tb gb)
    (hs : ∀ x, foldedSetIterable it X.env x = pure x := by intro _; rfl) : DS X R (.For tg it body [] pos) (tFor wi g tb) (sFor fi hg gb) := ⟨ps_for hp hc hi.pi hg'.pg hb.ps hs, ssem_for hi.sem hg'.sem hb.sem⟩

def wloopF (x : Env → M Bool) (body : Env → M Out) : Nat → Env → M Out
  | 0, _ => fail
  | n + 1, ρ => bnd (x ρ) fun b => if b = true then bnd (body ρ) fun o => match o with
    | .nx ρ2 => wloopF x body n ρ2
    | .ct ρ2 => wloopF x body n ρ2
    | .bk ρ2 => ret (.nx ρ2)
    | .rt r => ret (.rt r)
    else ret (.nx ρ)
theorem ssem_while (n : Nat) {x : Env → M Bool} {gb : Env → M Out} (hx : TSem K R tt x) (hb : SSem K R tb gb) : SSem K R (tWhile tt tb) (wloopF x gb n) := fun L E F ρ σ rs H o rs' D r hf k => by
  refine ⟨fun m σ H => ∃ F2 ρ2 rs3, FStep R E F F2 ∧ Rel K R L E F2 ρ2 σ rs3 H ∧ wloopF x gb m ρ2 rs3 = some (o, rs'), ⟨n, F, ρ, rs, FStep.refl, r, hf⟩, ?_⟩
  rintro m σ1 H1 ⟨F1, ρ1, rs1, fs, r1, el⟩
  cases m with
  | zero => cases el
  | succ m =>
    obtain ⟨b, rs2, e2, el1⟩ := bnd_some el
    refine hx L E ρ1 σ1 F1 H1 rs1 b rs2 _ r1 e2 fun F2 H2 s2 => ?_
    have r2 := r1.step s2
    have fs2 := fs.trans (FStep.ofStep r1 s2)
    cases b with
    | true =>
      rw [if_pos rfl] at el1 ⊢
      obtain ⟨o2, rs5, e6, el2⟩ := bnd_some el1
      refine ⟨fun σ' H' => ∃ F5 ρ5, FStep R E F F5 ∧ Rel K R L E F5 ρ5 σ' rs5 H' ∧ wloopF x gb m ρ5 rs5 = some (o, rs'), fun σ' H' ⟨F5, ρ5, a, b, c⟩ => ⟨m, Nat.lt_succ_self m, F5, ρ5, rs5, a, b, c⟩, ?_⟩
      refine hb L E F2 ρ1 σ1 rs2 H2 o2 rs5 _ r2 e6 ?_
      cases o2 with
      | nx ρ5 => exact fun σ5 F5 H5 f5 r5 => ⟨F5, ρ5, fs2.trans f5, r5, el2⟩
      | ct ρ5 => exact fun σ5 F5 H5 f5 r5 => ⟨F5, ρ5, fs2.trans f5, r5, el2⟩
      | bk ρ5 =>
        obtain ⟨e7, q7⟩ := ret_some el2
        subst e7 q7
        exact fun σ5 F5 H5 f5 r5 => k σ5 F5 H5 (fs2.trans f5) r5
      | rt y =>
        obtain ⟨e7, q7⟩ := ret_some el2
        subst e7 q7
        exact fun v F5 H5 q => k v F5 H5 ⟨fs2.trans q.fs, q.ex, q.fr, q.row, q.rF, q.val⟩
    | false =>
      rw [if_neg Bool.false_ne_true] at el1 ⊢
      obtain ⟨e7, q7⟩ := ret_some el1
      subst e7 q7
      exact k σ1 F2 H2 fs2 r2
theorem ds_while (n : Nat) {x : Env → M Bool} {gb : Env → M Out} (hp : PassesOwn (model X.prog X.w) X.A X.env X.xe) (hc : DT X R c tt x) (hb : DSs X R body tb gb) : DS X R (.While c body [] pos) (tWhile tt tb) (wloopF x gb n) := ⟨ps_while hp hc.pt hb.ps, ssem_while n hc.sem hb.sem⟩

structure DTs (X : Cx) (R : RA) (ifs : List Expr) (t : TT) (f : Env → M Bool) : Prop where
  pt : PTs X ifs t
  sem : TSem X.K R t f
def tTrue : Env → M Bool := fun _ => ret true
theorem dts_nil : DTs X R [] tYes tTrue := ⟨pts_nil, fun L E ρ σ F H rs x rs' Q r hf k => by
  obtain ⟨e1, q1⟩ := ret_some hf
  subst e1 q1
  exact k F H r.refl⟩
theorem dts_one {x : Env → M Bool} (h : DT X R c tt x) : DTs X R [c] tt x := ⟨pts_one h.pt, h.sem⟩
def lcF (tg : D → Env → Option Env) (tst : Env → M Bool) (el : Env → M RV) (ρ : Env) : List D → M (List D)
  | [] => ret []
  | x :: xs => bnd (lft (tg x ρ)) fun ρ1 => bnd (tst ρ1) fun b => if b = true then bnd (el ρ1) fun y => bnd (lft (toD y)) fun d => bnd (lcF tg tst el ρ xs) fun ds => ret (d :: ds) else lcF tg tst el ρ xs
def eLc (fi : Env → M (List D × Option Nat)) (vs : List Nat) (tg : D → Env → Option Env) (tst : Env → M Bool) (el : Env → M RV) : Env → M RV := fun ρ =>
  bnd (fi ρ) fun p => bnd (lcF tg tst el (wipeE ρ vs) p.1) fun ds => if p.1.length ≤ 100000 then ret (.n ds) else fail
theorem freeze1 {F0 H0 F1 H1 : Hp} {rs0 rs1 : RS} (s : Step K R rs1 F0 H0 F1 H1) (r0 : RowOk K R rs0 F0 H0) {v : V} {x : RV} {d : D} {Hb : Hp} (hb : ∀ a, Hb a = none → H0 a = none) (h : VR K R F1 Hb H1 v x) (e : toD x = some d) :
    ∃ F2, Step K R rs1 F0 H0 F2 H1 ∧ Dp K F2 v d ∧ (∀ a o, F1 a = some o → F2 a = some o) ∧ ∀ a, Hb a ≠ none → F1 a = none → F2 a = none := by
  cases x with
  | d y => cases e; exact ⟨F1, s, h, fun _ _ q => q, fun _ _ q => q⟩
  | n ds =>
    cases e
    obtain ⟨a, vs, rfl, h1, h0, h2, h3, h4⟩ := h
    have ku : ∀ b o, F1 b = some o → upd F1 a (.lst vs) b = some o := fun b o q => by
      rw [upd_ne (fun z => by rw [z, h2] at q; cases q)]; exact q
    refine ⟨upd F1 a (.lst vs), ⟨fun b o h q n => s.keep b o h q n, fun b o q => ku b o (s.sub b o q), fun b o q => ?_, fun b o q => ?_, s.row.mono ku fun b o q => ?_, fun r er => ?_⟩, .lst (.inl (.inl upd_same)) (Dp.monoA ku _ _ h4), ku, fun b hb1 hb2 => ?_⟩
    · by_cases eb : b = a
      · subst eb; exact .inr (hb b h0)
      · rw [upd_ne eb] at q; exact s.new b o q
    · by_cases eb : b = a
      · subst eb; rw [upd_same] at q; rw [h1]; exact q
      · rw [upd_ne eb] at q; exact s.fin b o q
    · by_cases eb : b = a
      · subst eb; rw [upd_same] at q; cases q; exact .lst
      · rw [upd_ne eb] at q; exact s.row.fnt b o q
    · rw [upd_ne (fun z => h3 (by rw [er, z]))]; exact s.rF r er
    · rw [upd_ne (fun z => hb1 (by rw [z]; exact h0))]; exact hb2
  | b y => cases e
  | gb _ => cases e
  | gn y => cases e
  | row => cases e
theorem esem_lc_at {fi : Env → M (List D × Option Nat)} {vs : List Nat} {tst : Env → M Bool} {el : Env → M RV} (r : Rel K R L E F ρ σ rs H) (hi : ∀ (its : List D) (lk : Option Nat) (rs1 : RS) (Rq : It → Hp → Prop), fi ρ rs = some ((its, lk), rs1) → (∀ J F' H', Step K R rs1 F H F' H' → IterOk K R E ρ σ H F' H' J its lk → Rq J H') → wi σ H Rq)
    (hgs : GSem K R S g hg) (hS : ∀ i ∈ S, i ∈ vs) (ht : TSem K R tt tst) (he : ESem K R te el) {x : RV} {rs' : RS} {Q : VK} (hf : eLc fi vs hg tst el ρ rs = some (x, rs')) (kk : ∀ v F' H', Step K R rs' F H F' H' → VR K R F' H H' v x → Q v H') : tLc wi g tt te vs σ H Q := by
  obtain ⟨⟨its, lk⟩, rs1, e1, hf1⟩ := bnd_some hf
  obtain ⟨ds, rs2, e2, hf2⟩ := bnd_some hf1
  by_cases hlen : its.length ≤ 100000
  · have hf2' : (if its.length ≤ 100000 then ret (RV.n ds) else fail) rs2 = some (x, rs') := hf2
    rw [if_pos hlen] at hf2'
    obtain ⟨e3, q3⟩ := ret_some hf2'
    subst e3 q3
    have e2 : lcF hg tst el (wipeE ρ vs) its rs1 = some (ds, rs') := e2
    refine hi its lk rs1 _ e1 fun J F1 H1 s1 ⟨G, Y, P, wk, pn, hG, hY⟩ => ?_
    intro Da hD
    have r1 := r.step s1
    have hDr : some Da ≠ R.row := fun q => by
      obtain ⟨a, e, _⟩ := r1.row.at_ Da q.symm
      rw [hD] at e; cases e
    have hDF1 : F1 Da = none := by
      cases q : F1 Da with
      | none => rfl
      | some o =>
        have := s1.fin Da o q
        rw [hD] at this; cases this
    refine lc_it wk (fun i H2 => ∃ F2 rs3 av ad rest, Step K R rs3 F1 H1 F2 H2 ∧ H2 Da = some (.lst av) ∧ F2 Da = none ∧ DpAll K F2 av ad ∧ ad.length ≤ i ∧ ad ++ rest = ds ∧ lcF hg tst el (wipeE ρ vs) (its.drop i) rs3 = some (rest, rs')) ?_ ?_ ?_ ?_
    · refine ⟨F1, rs1, [], [], ds, (Step.new_lst (vs := []) r1.refl hD).1, upd_same, hDF1, .nil, Nat.le_refl _, rfl, e2⟩
    · rintro i H2 hi' ⟨F2, rs3, av, ad, rest, s2, _⟩
      exact hG H2 (fun a o q => s2.keep a o (pn a o q).1 (pn a o q).2.1 (pn a o q).2.2.1) fun a o q => s2.fin a o (s2.sub a o q)
    · rintro i v H2 H3 hi' ⟨F2, rs3, av, ad, rest, s2, hDl, hDF, hA, hlA, hsum, el1⟩ hy
      have s02 := s1.trans r.row s2
      have r2 := r.step s02
      obtain ⟨x, F3, ex, s3, hd⟩ := hY.step hi' s2.sub r2.refl hy
      have er : its.drop i = x :: its.drop (i + 1) := by
        have hx : its[i] = x := by
          rw [List.getElem?_eq_getElem hi'] at ex
          exact Option.some.inj ex
        rw [← hx]
        exact List.drop_eq_getElem_cons hi'
      rw [er] at el1
      obtain ⟨ρ3, rs4, e4, el2⟩ := bnd_some el1
      obtain ⟨e5, q5⟩ := lft_some e4
      subst q5
      obtain ⟨b, rs5, e6, el3⟩ := bnd_some el2
      have s13 := s2.trans r1.row s3
      have r3 := r2.step s3
      have hD3 : H3 Da = some (.lst av) := s3.keep Da _ hDl hDr
      have hDF3 : F3 Da = none := by
        cases q : F3 Da with
        | none => rfl
        | some o =>
          rcases s3.new Da o q with z | z
          · rw [hDF] at z; cases z
          · rw [hDl] at z; cases z
      refine hgs L E F3 (wipeE ρ vs) (L2.wipe σ vs) _ H3 v x ρ3 _ (r3.wipe vs) hd e5 fun σ4 r4 o4 => ⟨?_, ?_⟩
      · rw [wipe_off o4 hS]
        apply List.ext_getElem?
        intro j
        rw [wipe_at, wipe_at]
        by_cases hj : j ∈ vs
        · rw [if_pos hj, if_pos hj, wipe_length]
        · rw [if_neg hj, if_neg hj]
      · refine ht L E ρ3 σ4 F3 H3 _ b rs5 _ r4 e6 fun F5 H5 s5 => ?_
        have s15 := s13.trans r1.row s5
        have hD5 : H5 Da = some (.lst av) := s5.keep Da _ hD3 hDr
        have hDF5 : F5 Da = none := by
          cases q : F5 Da with
          | none => rfl
          | some o =>
            rcases s5.new Da o q with z | z
            · rw [hDF3] at z; cases z
            · rw [hD3] at z; cases z
        cases b with
        | true =>
          rw [if_pos rfl] at el3 ⊢
          obtain ⟨y, rs6, e7, el4⟩ := bnd_some el3
          obtain ⟨d, rs7, e8, el5⟩ := bnd_some el4
          obtain ⟨e9, q9⟩ := lft_some e8
          subst q9
          obtain ⟨ds2, rs8, e10, el6⟩ := bnd_some el5
          obtain ⟨e11, q11⟩ := ret_some el6
          subst e11 q11
          refine he L E ρ3 σ4 F5 H5 rs5 y _ _ (r4.step s5) e7 fun w F6 H6 s6 h6 => ?_
          have s16 := s15.trans r1.row s6
          have hD6 : H6 Da = some (.lst av) := s6.keep Da _ hD5 hDr
          have hDF6 : F6 Da = none := by
            cases q : F6 Da with
            | none => rfl
            | some o =>
              rcases s6.new Da o q with z | z
              · rw [hDF5] at z; cases z
              · rw [hD5] at z; cases z
          obtain ⟨F7, s17, hd7, k7, n7⟩ := freeze1 (Hb := H5) s16 r1.row (fun a q => s15.back r1.row q) h6 e9
          have hDF7 : F7 Da = none := n7 Da (by rw [hD5]; exact fun z => nomatch z) hDF6
          have hk : ∀ a o, F2 a = some o → F7 a = some o := fun a o q => k7 a o (s6.sub a o (s5.sub a o (s3.sub a o q)))
          refine ⟨av, hD6, ?_, F7, _, av ++ [w], ad ++ [d], ds2, ?_, upd_same, hDF7, (Dp.monoA hk _ _ hA).append (.cons hd7 .nil), ?_, ?_, e10⟩
          · rw [hA.len]
            exact sz_lt (by omega)
          · refine ⟨fun a o q z n => ?_, s17.sub, s17.new, fun a o q => ?_, ⟨fun q e => ?_, tabs_upd s17.row.tab (.inr ⟨_, hD6⟩), s17.row.fnt⟩, s17.rF⟩
            · rw [upd_ne (fun zz => by rw [zz, hD] at q; cases q)]
              exact s17.keep a o q z n
            · rw [upd_ne (fun zz => by rw [zz, hDF7] at q; cases q)]
              exact s17.fin a o q
            · obtain ⟨a, z1, z2⟩ := s17.row.at_ q e
              exact ⟨a, by rw [upd_ne (fun zz => hDr (by rw [← zz, e]))]; exact z1, z2⟩
          · rw [List.length_append, List.length_singleton]
            omega
          · rw [List.append_assoc]
            exact hsum
        | false =>
          rw [if_neg Bool.false_ne_true] at el3 ⊢
          have hk : ∀ a o, F2 a = some o → F5 a = some o := fun a o q => s5.sub a o (s3.sub a o q)
          exact ⟨F5, rs5, av, ad, rest, s15, hD5, hDF5, Dp.monoA hk _ _ hA, by omega, hsum, el3⟩
    · rintro H2 ⟨F2, rs3, av, ad, rest, s2, hDl, hDF, hA, _, hsum, el1⟩
      rw [List.drop_length] at el1
      obtain ⟨e7, q7⟩ := ret_some el1
      subst e7 q7
      rw [List.append_nil] at hsum
      subst hsum
      have s02 := s1.trans r.row s2
      exact kk _ F2 H2 s02 ⟨Da, av, rfl, hDl, s1.back r.row hD, hDF, hDr, hA⟩
  · have hf2' : (if its.length ≤ 100000 then ret (RV.n ds) else fail) rs2 = some (x, rs') := hf2
    rw [if_neg hlen] at hf2'
    cases hf2'
theorem esem_lc {fi : Env → M (List D × Option Nat)} {vs : List Nat} {tst : Env → M Bool} {el : Env → M RV} (hi : ISem K R wi fi) (hgs : GSem K R S g hg) (hS : ∀ i ∈ S, i ∈ vs) (ht : TSem K R tt tst) (he : ESem K R te el) :
    ESem K R (tLc wi g tt te vs) (eLc fi vs hg tst el) := fun L E ρ σ F H rs x rs' Q r hf kk =>
  esem_lc_at r (fun its lk rs1 Rq e1 k => hi L E ρ σ F H rs its lk rs1 Rq r e1 k) hgs hS ht he hf kk
theorem de_lc {scope : Scope} {own : List (Str × Nat)} {fi : Env → M (List D × Option Nat)} {tst : Env → M Bool} {el : Env → M RV} (hc : X.calm = true) (hN : X.N.Nodup) (hi : DI X R tg it wi fi) (ok : BlkOk X.N X.env.scope scope own) (hS : ∀ i ∈ S, i ∈ own.map (·.2))
    (hg' : ∀ (s : Shared) (H : Hp) (C : Addr) (cl : List (Str × Addr)) (fp : List Addr), DG (X.blk s H scope (compEnvC scope cl C X.env) fp) R S tg g hg) (ht : ∀ (s : Shared) (H : Hp) (C : Addr) (cl : List (Str × Addr)) (fp : List Addr), DTs (X.blk s H scope (compEnvC scope cl C X.env) fp) R ifs tt tst)
    (he : ∀ (s : Shared) (H : Hp) (C : Addr) (cl : List (Str × Addr)) (fp : List Addr), DE (X.blk s H scope (compEnvC scope cl C X.env) fp) R elt te el) (hs : ∀ x, foldedSetIterable it X.env x = pure x := by intro _; rfl) :
    DE X R (.ListComp elt [⟨tg, it, ifs, 0⟩] scope pos) (tLc wi g tt te (own.map (·.2))) (eLc fi (own.map (·.2)) hg tst el) :=
  ⟨pe_lc hc hN hi.pi ok (fun s H C cl fp => (hg' s H C cl fp).pg) (fun s H C cl fp => (ht s H C cl fp).pt) (fun s H C cl fp => (he s H C cl fp).pe) hs,
    esem_lc hi.sem (hg' {} (fun _ => none) 0 [] []).sem hS (ht {} (fun _ => none) 0 [] []).sem (he {} (fun _ => none) 0 [] []).sem⟩
end
end DV

namespace DV
open PySem L2 PyProof.Rows
/-- a list or a tuple -/
inductive SK where | l | t
def SqK (k : SK) (K : PySem.W.Frag) (H : Hp) (a : Addr) (xs : List V) : Prop := match k with
  | .l => SqL K H a xs
  | .t => SqT K H a xs
def isItK (k : SK) (h : Heap) (it a : Addr) (i : Nat) : Prop := match k with
  | .l => h.IsListIter it a i
  | .t => h.IsTupleIter it a i
def isSqK (k : SK) (h : Heap) (a : Addr) (its : Array Value) : Prop := match k with
  | .l => h.IsList a its
  | .t => h.IsTuple a its
def itObj (k : SK) (a : Addr) : Obj := match k with
  | .l => { cls := .type "list_iterator", data := .fields #[.ref a, .int 0 0] }
  | .t => { cls := .type "tuple_iterator", data := .fields #[.ref a, .int 0 0] }
theorem drawK (k : SK) {prog : Program} {w : World} {A : Around} (hh : A.handled = none) (it a : Addr) (hne : a ≠ it) (items : Array Value) :
    Draws prog w A it [it, a] items.size (fun i v => items[i]? = some v) (fun i h => isItK k h it a i ∧ isSqK k h a items) := by
  cases k
  · exact Draws.list hh it a hne items
  · exact Draws.tuple hh it a hne items
theorem beginK (k : SK) (a : Addr) (items : Array Value) : Begins (.ref a) (itObj k a) fun h => isSqK k h a items := by
  cases k
  · exact begins_list a items
  · exact begins_tuple a items
theorem isItK.at' {k : SK} {h h' : Heap} {it a : Addr} {i : Nat} (x : isItK k h it a i) (e : ∀ o, h.get? it = some o → h'.get? it = some o) : isItK k h' it a i := by
  cases k
  · exact Heap.IsListIter.at x e
  · exact Heap.IsTupleIter.at x e
theorem isItK.obj {k : SK} {h : Heap} {it a : Addr} {i : Nat} (x : isItK k h it a i) : ∃ o, h.get? it = some o ∧ ∀ v, o.data ≠ .cell v := by
  cases k
  · obtain ⟨o, e, _, d⟩ := (show h.IsListIter it a i from x)
    exact ⟨o, e, fun v z => by rw [d] at z; cases z⟩
  · obtain ⟨o, e, _, d⟩ := (show h.IsTupleIter it a i from x)
    exact ⟨o, e, fun v z => by rw [d] at z; cases z⟩
theorem isItK.new (k : SK) {h : Heap} {it a : Addr} (e : h.get? it = some (itObj k a)) : isItK k h it a 0 := by
  cases k
  · exact ⟨_, e, rfl, rfl⟩
  · exact ⟨_, e, rfl, rfl⟩
section
variable {X : Cx} {pins : List (Addr × Obj)} {σ : L2.St} {H : Hp} {s : Shared}
theorem seqK (k : SK) {a : Addr} {xs : List V} (I : Inv X pins σ H s) (h : SqK k X.K H a xs) : ∃ its : List Value, Vals xs its ∧ isSqK k s.heap a its.toArray ∧ xs.length ≤ sizeLine ∧ a < s.heap.objs.size := by
  cases k
  · obtain ⟨its, rv, p, hz⟩ := I.list h
    exact ⟨its, rv, p.isList, hz, p.lt⟩
  · obtain ⟨its, rv, p, hz⟩ := I.tuple h
    exact ⟨its, rv, p, hz, p.lt⟩
theorem seqK_inj (k : SK) {a : Addr} {xs ys : List V} (I : Inv X pins σ H s) (h : SqK k X.K H a xs) (h' : SqK k X.K H a ys) : xs = ys := by
  cases k
  · exact I.list_inj h h'
  · exact I.tuple_inj h h'
end

set_option maxHeartbeats 1000000 in
theorem meets_enumerate_new1 {v : Value} {o : Obj} {H : Heap → Prop} (B : Begins v o H) :
    Meets (Builtin.«enumerate.__new__» ⟨[.type "enumerate", v], []⟩) (fun _ R s => H s.heap ∧
      R (.ok (.ret (.ref (s.heap.push o).objs.size))) { s with heap := (s.heap.push o).push { cls := .type "enumerate", data := .fields #[.none, .bool false, .ref s.heap.objs.size, rawInt 0, .none, .none] } }) :=
  .of_wp fun prog w A R s h => by
    obtain ⟨hp, g, d, tk, os⟩ := s; obtain ⟨h1, h⟩ := h
    have hsub := sub_enumerate
    have q1 : ∀ {A' : Around} {E : Value → Shared → Prop} {Q : Value → Shared → Prop}, Q (.ref hp.objs.size) ⟨hp.push o, g, d, tk, os⟩ → wpAny (model prog w) A' (pyIter v) Q E ⟨hp, g, d, tk, os⟩ :=
      fun q => B.iter prog w _ _ ⟨hp, g, d, tk, os⟩ _ h1 q
    wp_walk using q1
    refine wpAny_stack_any fun st => wpAny_pure ?_
    split
    · rename_i c _ _ _ _ _
      cases (c == Value.type "enumerate")
      · wp_walk using q1
        exact ⟨_, rfl, h⟩
      · wp_walk using q1
        exact ⟨_, rfl, h⟩
    · wp_walk using q1
      exact ⟨_, rfl, h⟩
theorem enum_begins1 {prog : Program} {w : World} {A : Around} {E : Value → Shared → Prop} {s : Shared} {v : Value} {o : Obj} {H : Heap → Prop} {Q : Value → Shared → Prop} (B : Begins v o H) (h1 : H s.heap)
    (h : ∀ h', IsEnum h' (s.heap.objs.size + 1) s.heap.objs.size 0 .none → h'.get? s.heap.objs.size = some o → h'.objs.size = s.heap.objs.size + 2 →
      (∀ b o, s.heap.get? b = some o → h'.get? b = some o) → Q (.ref (s.heap.objs.size + 1)) { s with heap := h' }) :
    wpAny (model prog w) A (call (.type "enumerate") [v]) Q E s := by
  refine callType_new F.called_enumerate (by decide) (F.typeCall_enumerate_1 _) (F.newCall_enumerate_1 _) (fun obj => F.args_object_init_2 obj _) F.entry_enumerate_new
    (meets_enumerate_new1 B) ⟨h1, ?_⟩
  have hz : (s.heap.push o).objs.size = s.heap.objs.size + 1 := Heap.size_push ..
  show _ ∧ _
  rw [hz]
  have he : IsEnum ((s.heap.push o).push { cls := .type "enumerate", data := .fields #[.none, .bool false, .ref s.heap.objs.size, rawInt 0, .none, .none] }) (s.heap.objs.size + 1) s.heap.objs.size 0 .none := by
    have := Heap.get?_push_size (s.heap.push o) (o := { cls := .type "enumerate", data := .fields #[.none, .bool false, .ref s.heap.objs.size, rawInt 0, .none, .none] }) rfl
    rw [hz] at this; exact this
  refine ⟨⟨_, he, rfl⟩, h _ he (Heap.get?_push_of_some _ (Heap.get?_push_size _ B.free)) (by rw [Heap.size_push, hz]) fun b o x => Heap.get?_push_of_some _ (Heap.get?_push_of_some _ x)⟩
def IteK (k : SK) (K : PySem.W.Frag) (a : Addr) : It :=
  ⟨fun i H => ∃ (xs : List V) (x : V), SqK k K H a xs ∧ xs[i]? = some x, fun i H v H' => ∃ T x, v = .ref T ∧ H T = none ∧ NewT H H' T [.int (i : Nat), x] ∧ ∀ xs, SqK k K H a xs → xs[i]? = some x, fun i H => ∃ xs : List V, SqK k K H a xs ∧ xs.length ≤ i⟩
theorem turn_enumK (k : SK) {P : Program} {w : World} {K : PySem.W.Frag} {elts : List Expr} {kk : Nat} {tpos : Pos} (a e it : Addr) (hai : a ≠ it) (hae : a ≠ e) :
    Turn P w K (.Tuple elts kk tpos) (IteK k K a) [e, it] e (fun i h => (∃ old, IsEnum h e it ((i : Nat) : Int) old) ∧ isItK k h it a i ∧ e ≠ it) where
  mem := by simp
  obj := fun i h st b hb => by
    obtain ⟨⟨old, he⟩, hit, _⟩ := st
    have e' : b = e ∨ b = it := by simpa using hb
    rcases e' with z | z
    · rw [z]; exact ⟨_, he, fun v q => nomatch q⟩
    · rw [z]; exact hit.obj
  keep := fun i h h' st q => let ⟨⟨old, he⟩, hi, hne⟩ := st; ⟨⟨old, q e (by simp) _ he⟩, hi.at' fun o z => q it (by simp) o z, hne⟩
  item := by
    intro X hP hw hK hc i pins s σ H E I hf st hg
    subst hP hw hK
    obtain ⟨⟨old, he⟩, hit, hne⟩ := st
    obtain ⟨xs, x, hq, hx⟩ := hg
    obtain ⟨its, rv, p, hz, hal⟩ := seqK k I hq
    obtain ⟨u, hu, ru⟩ := rv.get hx
    have hel : e < s.heap.objs.size := Heap.lt_size he
    have hil : it < s.heap.objs.size := by obtain ⟨_, q, _⟩ := hit.obj; exact Heap.lt_size q
    have hlen : i < its.toArray.size := by
      have q1 := (List.getElem?_eq_some_iff.mp hu).1
      simpa using q1
    refine wpAny_pyNext_enum_itemD (drawK k (A := X.A.in1) (I.ok.hd hc) it a hai its.toArray) he ⟨hit, p⟩ hlen hne (by simp [hne, Ne.symm hae]) fun y h' tk hy ho hst hT hsz hk => ?_
    have hyu : y = u := by
      have q1 : its[i]? = some y := by simpa using hy
      rw [hu] at q1
      exact (Option.some.inj q1).symm
    subst hyu
    refine ⟨_, rfl, wpAny_letOwnedTupleGo_enum (s := { s with heap := h', toks := tk + 1 }) ho fun h'' he' sb => ?_⟩
    have hT2 : h''.get? s.heap.objs.size = some { cls := .type "tuple", data := .seq #[.int i tk, y] } := (sb.2 _ (Nat.ne_of_gt hel)).trans hT
    have new : ObjOk X.prog X.w (upd H s.heap.objs.size (TupX (tupO #[.int i tk, y]) [.int (i : Nat), x])) h'' s.heap.objs.size (TupX (tupO #[.int i tk, y]) [.int (i : Nat), x]) :=
      ⟨hT2, by show 2 ≤ sizeLine; decide, [.int i tk, y], .cons ⟨_, rfl⟩ (.cons ru .nil), ⟨_, hT2, rfl, _, rfl⟩⟩
    have I1 : Inv X pins σ (upd H s.heap.objs.size (TupX (tupO #[.int i tk, y]) [.int (i : Nat), x])) { s with heap := h'', toks := tk + 1 } :=
      I.turnedNew (ch := [e, it]) (fun b ob hb q => (sb.2 b (fun z => hb (by simp [z]))).trans (hk b ob (fun z => hb (by simp [z])) (fun z => hb (by simp [z])) q)) hf (Nat.le_refl _) new
    refine ⟨.ref s.heap.objs.size, _, I1, rfl, ⟨_, x, rfl, I.hok.fresh (Nat.le_refl _), ⟨_, rfl, rfl⟩, fun ys hy => by rw [seqK_inj k I hy hq]; exact hx⟩, ⟨⟨y, ?_⟩, hst.1.at' fun o q => (sb.2 it (Ne.symm hne)).trans q, hne⟩, fun b hb => ?_⟩
    · have e1 : ((i + 1 : Nat) : Int) = (i : Int) + 1 := by omega
      rw [e1]; exact he'
    · have hb' : b < s.heap.objs.size := by
        have e' : b = e ∨ b = it := by simpa using hb
        rcases e' with z | z
        · rw [z]; exact hel
        · rw [z]; exact hil
      rw [upd_ne (Nat.ne_of_lt hb')]
      exact (hf b hb).1
  done := by
    intro X hP hw hK hc i pins s σ H E I hf st hg
    subst hP hw hK
    obtain ⟨⟨old, he⟩, hit, hne⟩ := st
    obtain ⟨xs, hq, hx⟩ := hg
    obtain ⟨its, rv, p, hz, hal⟩ := seqK k I hq
    obtain ⟨f0, f1, f2, f3, f4, f5⟩ := hf it (by simp)
    have hl := rv.length
    have hend : ∀ (Q : Option Value → Shared → Prop), (∀ h', Heap.ExtBut it s.heap h' → Q none { s with heap := h' }) → wpAny (model X.prog X.w) X.A (pyNext (.ref e)) Q E s := fun Q hQ => by
      cases k
      · exact wpAny_pyNext_enum_end (I.ok.hd hc) he hit p (by simp; omega) hQ
      · have hT : s.TypeIs (.ref e) "enumerate" := ⟨_, he, rfl⟩
        unfold pyNext
        refine wpAny_bind (wpAny_attempt (wpAny_callSpecial?_slot (name := Str.ofString "__next__") hT F.slot_enumerate_next
          (wpAny_call_entry F.slot_enumerate_next hT F.entry_enumerate_next ?_ (F.args_enumerate_next_1 _))))
        show wpAny _ _ (field (.ref e) 2 >>= _) _ _ _
        refine wpAny_bind (wpAny_field he rfl (x := .ref it) rfl ?_)
        refine wpAny_bind (wpAny_nextOf_tuple_end (I.ok.hd hc) hit p (by simp; omega) fun h' x he' hx' => ?_)
        obtain ⟨o, ho, hc⟩ := hx'
        refine wpAny_bind (wpAny_isInstance (T := "StopIteration") (b := true) ⟨o, ho, hc⟩ isSubtype_stop ?_)
        exact wpAny_pure (hQ _ he')
    exact hend _ fun h' eb => ⟨rfl, I.turned (t' := s.toks) (fun b o hb q => eb b o hb q) f0 f1 f3 f4 f5⟩
  self := fun A i s Q E st h => let ⟨⟨_, he⟩, _⟩ := st; wpAny_pyIter_enum he h
def iEnumK (K : PySem.W.Frag) (ta : TE) : TI := fun σ H R => ta σ H fun v H1 => ∃ k a xs, v = .ref a ∧ SqK k K H1 a xs ∧ R (IteK k K a) H1
theorem pi_enumK {X : Cx} {e : Expr} {te : TE} {p pos tpos : Pos} {elts : List Expr} {kk : Nat} (hg : Gl X "enumerate") (hm : X.mg "enumerate" = none) (he : PE X e te) (hs : starEach [e] X.env = (false, eval e X.env) :: starEach [] X.env := by rfl) :
    PI X (.Tuple elts kk tpos) (.Call (.Name "enumerate" p) [e] [] pos) (iEnumK X.K te) := by
  refine ⟨fun pins s σ H R I h => ?_⟩
  refine Call_ (ld_blt I hg hm boot_enumerate (PyProof.Rows.callWith_type1 (args_cons (thn (he.run pins s σ H _ I h) fun u s1 ⟨v, H1, I1, r1, q1⟩ => args_nil ?_) hs) hs rfl))
  obtain ⟨k, a, xs, ex, hq, q⟩ := q1
  subst ex
  cases r1
  obtain ⟨its, rv, p', hz, hal⟩ := seqK k I1 hq
  refine enum_begins1 (beginK k a its.toArray) p' fun h' he' hit hsz hk => wpAny_pyIter_enum he' ?_
  have I2 : Inv X pins σ H1 { s1 with heap := h' } := I1.kept (t' := s1.toks) hk
  refine ⟨s1.heap.objs.size + 1, [s1.heap.objs.size + 1, s1.heap.objs.size], _, _, H1, rfl, I2, turn_enumK k a (s1.heap.objs.size + 1) s1.heap.objs.size (Nat.ne_of_lt hal) (Nat.ne_of_lt (Nat.lt_succ_of_lt hal)), ⟨⟨.none, he'⟩, .new k hit, Nat.succ_ne_self _⟩, fun b hb => ?_, q⟩
  have e' : b = s1.heap.objs.size + 1 ∨ b = s1.heap.objs.size := by simpa using hb
  have hle : s1.heap.objs.size ≤ b := by
    rcases e' with z | z
    · rw [z]; exact Nat.le_add_right _ _
    · rw [z]; exact Nat.le_refl _
  exact I1.fpOk hle (I1.hok.fresh hle)
theorem walk_enumK (k : SK) {K : PySem.W.Frag} {a : Addr} {xs : List V} : Walk (IteK k K a) xs.length (fun H => SqK k K H a xs) (YPairX (fun i => some (.int (i : Nat))) (fun i => xs[i]?)) := by
  refine ⟨fun i _ hi q => ⟨xs, xs[i], q, by simp [hi]⟩, fun _ q => ⟨xs, q, Nat.le_refl _⟩, fun i H v H' _ q y => ?_⟩
  obtain ⟨T, x, h1, h2, h3, h4⟩ := y
  exact ⟨T, .int (i : Nat), x, h1, h2, h3, rfl, h4 xs q⟩

def ItK (k : SK) (K : PySem.W.Frag) (a : Addr) : It := match k with
  | .l => Itl K a
  | .t => Itt K a
def iSeqK (K : PySem.W.Frag) (tl : TE) : TI := fun σ H R => tl σ H fun x H1 => ∃ k a xs, x = .ref a ∧ SqK k K H1 a xs ∧ R (ItK k K a) H1
theorem pi_seqK {X : Cx} {tg l : Expr} {tl : TE} (hl : PE X l tl) : PI X tg l (iSeqK X.K tl) := by
  refine ⟨fun pins s σ H R I h => ?_⟩
  refine thn (hl.run pins s σ H _ I h) fun v s1 ⟨x, H1, I1, r1, q1⟩ => ?_
  obtain ⟨k, a, xs, e, hq, q⟩ := q1
  subst e
  cases r1
  cases k
  · obtain ⟨its, rv, p, hz⟩ := I1.list hq
    refine wpAny_pyIter_list p.isList ?_
    refine ⟨s1.heap.objs.size, [s1.heap.objs.size], _, _, H1, rfl, I1.kept (t' := s1.toks) fun b o e => Heap.get?_push_of_some _ e, turn_list a _, ⟨_, Heap.get?_push_size _ rfl, rfl, rfl⟩, fun b hb => ?_, q⟩
    have e : b = s1.heap.objs.size := by simpa using hb
    subst e
    exact I1.fpOk (Nat.le_refl _) (I1.hok.fresh (Nat.le_refl _))
  · obtain ⟨its, rv, p, hz⟩ := I1.tuple hq
    refine wpAny_pyIter_tuple (show s1.heap.IsTuple a its.toArray from p) ?_
    refine ⟨s1.heap.objs.size, [s1.heap.objs.size], _, _, H1, rfl, I1.kept (t' := s1.toks) fun b o e => Heap.get?_push_of_some _ e, turn_tuple a _, ⟨_, Heap.get?_push_size _ rfl, rfl, rfl⟩, fun b hb => ?_, q⟩
    have e : b = s1.heap.objs.size := by simpa using hb
    subst e
    exact I1.fpOk (Nat.le_refl _) (I1.hok.fresh (Nat.le_refl _))
theorem walk_seqK (k : SK) {K : PySem.W.Frag} {a : Addr} {xs : List V} : Walk (ItK k K a) xs.length (fun H => SqK k K H a xs) (YAt xs) := by
  cases k
  · exact walk_list
  · exact walk_tup

def ItzK (k1 k2 : SK) (K : PySem.W.Frag) (a b : Addr) : It :=
  ⟨fun i H => ∃ (xs ys : List V) (x y : V), SqK k1 K H a xs ∧ SqK k2 K H b ys ∧ xs[i]? = some x ∧ ys[i]? = some y,
    fun i H v H' => ∃ T x y, v = .ref T ∧ H T = none ∧ NewT H H' T [x, y] ∧ (∀ xs, SqK k1 K H a xs → xs[i]? = some x) ∧ ∀ ys, SqK k2 K H b ys → ys[i]? = some y,
    fun i H => ∃ xs ys : List V, SqK k1 K H a xs ∧ SqK k2 K H b ys ∧ i ≤ xs.length ∧ i ≤ ys.length ∧ (i = xs.length ∨ i = ys.length)⟩
theorem turn_zipK (k1 k2 : SK) {P : Program} {w : World} {K : PySem.W.Frag} {elts : List Expr} {kk : Nat} {tpos : Pos} {a b z TI TO i1 i2 : Addr} (S : ZipSep2 z TI TO i1 i2 [i1, a] [i2, b]) (ha : a ≠ i1) (hb : b ≠ i2) :
    Turn P w K (.Tuple elts kk tpos) (ItzK k1 k2 K a b) [z, TI, TO, i1, i2] z (fun i h => IsZip h z TI TO .none ∧ IsTupOf2 h TI (.ref i1) (.ref i2) ∧ (∃ x y, IsTupOf2 h TO x y) ∧ isItK k1 h i1 a i ∧ isItK k2 h i2 b i) where
  mem := by simp
  obj := fun i h st c hc => by
    obtain ⟨hz, hTI, ⟨x, y, hTO⟩, h1, h2⟩ := st
    have e' : c = z ∨ c = TI ∨ c = TO ∨ c = i1 ∨ c = i2 := by simpa using hc
    rcases e' with q | q | q | q | q
    · rw [q]; exact ⟨_, hz, fun v q => nomatch q⟩
    · rw [q]; exact ⟨_, hTI, fun v q => nomatch q⟩
    · rw [q]; exact ⟨_, hTO, fun v q => nomatch q⟩
    · rw [q]; exact h1.obj
    · rw [q]; exact h2.obj
  keep := fun i h h' st k => by
    obtain ⟨hz, hTI, ⟨x, y, hTO⟩, h1, h2⟩ := st
    exact ⟨k z (by simp) _ hz, k TI (by simp) _ hTI, ⟨x, y, k TO (by simp) _ hTO⟩, h1.at' fun o q => k i1 (by simp) o q, h2.at' fun o q => k i2 (by simp) o q⟩
  item := by
    intro X hP hw hK hc i pins s σ H E I hf st hg
    subst hP hw hK
    obtain ⟨hz, hTI, ⟨x0, y0, hTO⟩, h1, h2⟩ := st
    obtain ⟨xs, ys, x, y, hqx, hqy, hx, hy⟩ := hg
    obtain ⟨its, rv, p, _, _⟩ := seqK k1 I hqx
    obtain ⟨its2, rv2, p2, _, _⟩ := seqK k2 I hqy
    obtain ⟨u, hu, ru⟩ := rv.get hx
    obtain ⟨u2, hu2, ru2⟩ := rv2.get hy
    have hzl : z < s.heap.objs.size := Heap.lt_size hz
    have hl1 : i < its.toArray.size := by have q1 := (List.getElem?_eq_some_iff.mp hu).1; simpa using q1
    have hl2 : i < its2.toArray.size := by have q1 := (List.getElem?_eq_some_iff.mp hu2).1; simpa using q1
    refine wpAny_pyNext_zipD2_item S (drawK k1 (A := X.A.in1) (I.ok.hd hc) i1 a ha its.toArray) (drawK k2 (A := X.A.in1) (I.ok.hd hc) i2 b hb its2.toArray) hz hTI hTO ⟨h1, p⟩ ⟨h2, p2⟩ hl1 hl2 fun v1 v2 h' tk y1 y2 z' TO' d1 d2 hT hsz hk => ?_
    have e1 : v1 = u := by
      have q1 : its[i]? = some v1 := by simpa using y1
      rw [hu] at q1
      exact (Option.some.inj q1).symm
    have e2 : v2 = u2 := by
      have q1 : its2[i]? = some v2 := by simpa using y2
      rw [hu2] at q1
      exact (Option.some.inj q1).symm
    subst e1 e2
    refine ⟨_, rfl, wpAny_letOwnedTupleGo_zip (s := { s with heap := h', toks := tk }) z' fun h'' z'' sb => ?_⟩
    have hT2 : h''.get? s.heap.objs.size = some { cls := .type "tuple", data := .seq #[v1, v2] } := (sb.2 _ (Nat.ne_of_gt hzl)).trans hT
    have new : ObjOk X.prog X.w (upd H s.heap.objs.size (TupX (tupO #[v1, v2]) [x, y])) h'' s.heap.objs.size (TupX (tupO #[v1, v2]) [x, y]) :=
      ⟨hT2, by show 2 ≤ sizeLine; decide, [v1, v2], .cons ru (.cons ru2 .nil), ⟨_, hT2, rfl, _, rfl⟩⟩
    have I1 : Inv X pins σ (upd H s.heap.objs.size (TupX (tupO #[v1, v2]) [x, y])) { s with heap := h'', toks := tk } :=
      I.turnedNew (ch := [z, TI, TO, i1, i2]) (fun c o hb q => (sb.2 c (fun q' => hb (by simp [q']))).trans (hk c o (fun q' => hb (by simp [q'])) (fun q' => hb (by simp [q'])) (fun q' => hb (by simp [q'])) (fun q' => hb (by simp [q'])) q)) hf (Nat.le_refl _) new
    refine ⟨.ref s.heap.objs.size, _, I1, rfl, ⟨_, x, y, rfl, I.hok.fresh (Nat.le_refl _), ⟨_, rfl, rfl⟩, fun l hl => by rw [seqK_inj k1 I hl hqx]; exact hx, fun l hl => by rw [seqK_inj k2 I hl hqy]; exact hy⟩, ⟨z'', ?_, ⟨v1, v2, ?_⟩, ?_, ?_⟩, fun c hcm => ?_⟩
    · exact (sb.2 _ S.TIz).trans (hk _ _ S.TIz S.TITO S.TIi1 S.TIi2 hTI)
    · exact (sb.2 _ S.TOz).trans TO'
    · exact d1.1.at' fun o q => (sb.2 _ (Ne.symm S.zi1)).trans q
    · exact d2.1.at' fun o q => (sb.2 _ (Ne.symm S.zi2)).trans q
    · have hlt : c < s.heap.objs.size := by
        have e' : c = z ∨ c = TI ∨ c = TO ∨ c = i1 ∨ c = i2 := by simpa using hcm
        rcases e' with q | q | q | q | q
        · rw [q]; exact hzl
        · rw [q]; exact Heap.lt_size hTI
        · rw [q]; exact Heap.lt_size hTO
        · rw [q]; obtain ⟨_, e1, _⟩ := h1.obj; exact Heap.lt_size e1
        · rw [q]; obtain ⟨_, e2, _⟩ := h2.obj; exact Heap.lt_size e2
      rw [upd_ne (Nat.ne_of_lt hlt)]
      exact (hf c hcm).1
  done := by
    intro X hP hw hK hc i pins s σ H E I hf st hg
    subst hP hw hK
    obtain ⟨hz, hTI, ⟨x0, y0, hTO⟩, h1, h2⟩ := st
    obtain ⟨xs, ys, hqx, hqy, hle1, hle2, hend⟩ := hg
    obtain ⟨its, rv, p, _, _⟩ := seqK k1 I hqx
    obtain ⟨its2, rv2, p2, _, _⟩ := seqK k2 I hqy
    have l1 := rv.length
    have l2 := rv2.length
    exact wpAny_pyNext_zipD2_end S (drawK k1 (A := X.A.in1) (I.ok.hd hc) i1 a ha its.toArray) (drawK k2 (A := X.A.in1) (I.ok.hd hc) i2 b hb its2.toArray) hz hTI hTO ⟨h1, p⟩ ⟨h2, p2⟩ (by simp; omega) (by simp; omega) (by simp; omega) fun h' tk hk =>
      ⟨rfl, I.turnedL (t' := tk) (ch := [z, TI, TO, i1, i2]) (fun c o hb q => hk c o (fun q' => hb (by simp [q'])) (fun q' => hb (by simp [q'])) (fun q' => hb (by simp [q'])) (fun q' => hb (by simp [q'])) q) hf⟩
  self := fun A i s Q E st h => wpAny_pyIter_zip st.1 h
def iZipK (K : PySem.W.Frag) (ta : TA) : TI := fun σ H R => ta σ H fun vs H2 => ∃ k1 k2 a b xs ys, vs = [.ref a, .ref b] ∧ SqK k1 K H2 a xs ∧ SqK k2 K H2 b ys ∧ R (ItzK k1 k2 K a b) H2
theorem pi_zipK {X : Cx} {e e2 : Expr} {ta : TA} {p pos tpos : Pos} {elts : List Expr} {kk : Nat} (hg : Gl X "zip") (hm : X.mg "zip" = none) (ha : PA X [e, e2] ta)
    (hs : starEach [e, e2] X.env = (false, eval e X.env) :: starEach [e2] X.env := by rfl) (hpl : (backTo pos (starEach [e2] X.env)).any (·.1) = false := by rfl) :
    PI X (.Tuple elts kk tpos) (.Call (.Name "zip" p) [e, e2] [] pos) (iZipK X.K ta) := by
  refine ⟨fun pins s σ H R I h => ?_⟩
  refine Call_ (ld_blt I hg hm PyProof.Rows.boot_zip (PyProof.Rows.callWith_type1 (thn (ha.run pos pins s σ H _ I h) fun us s1 ⟨vs, H1, I1, r1, q1⟩ => ?_) hs hpl))
  · obtain ⟨k1, k2, a, b, xs, ys, rfl, hqx, hqy, q⟩ := q1
    cases r1 with
    | cons r rr =>
      cases rr with
      | cons r' rr =>
        cases rr
        cases r
        cases r'
        obtain ⟨its, rv, p1, _, la⟩ := seqK k1 I1 hqx
        obtain ⟨its2, rv2, p2, _, lb⟩ := seqK k2 I1 hqy
        refine zip_begins2 (beginK k1 a its.toArray) (beginK k2 b its2.toArray) p1 p2 fun h' hz hTI hTO g1 g2 hsz hk => wpAny_pyIter_zip hz ?_
        have I2 : Inv X pins σ H1 { s1 with heap := h' } := I1.kept (t' := s1.toks) hk
        refine ⟨s1.heap.objs.size + 4, [s1.heap.objs.size + 4, s1.heap.objs.size + 2, s1.heap.objs.size + 3, s1.heap.objs.size, s1.heap.objs.size + 1], _, _, H1, rfl, I2,
          turn_zipK k1 k2 (zip_sep2 (fun c hc => by simp at hc; rw [hc]; exact la) (fun c hc => by simp at hc; rw [hc]; exact lb)) (Nat.ne_of_lt la) (Nat.ne_of_lt (Nat.lt_succ_of_lt lb)), ⟨hz, hTI, ⟨_, _, hTO⟩, .new k1 g1, .new k2 g2⟩, fun c hcm => ?_, q⟩
        have e' : c = s1.heap.objs.size + 4 ∨ c = s1.heap.objs.size + 2 ∨ c = s1.heap.objs.size + 3 ∨ c = s1.heap.objs.size ∨ c = s1.heap.objs.size + 1 := by simpa using hcm
        have hle : s1.heap.objs.size ≤ c := by
          rcases e' with z | z | z | z | z
          · rw [z]; exact Nat.le_add_right _ _
          · rw [z]; exact Nat.le_add_right _ _
          · rw [z]; exact Nat.le_add_right _ _
          · rw [z]; exact Nat.le_refl _
          · rw [z]; exact Nat.le_add_right _ _
        exact I1.fpOk hle (I1.hok.fresh hle)
theorem walk_zipK (k1 k2 : SK) {K : PySem.W.Frag} {a b : Addr} {xs ys : List V} {n : Nat} (hn : n = min xs.length ys.length) : Walk (ItzK k1 k2 K a b) n (fun H => SqK k1 K H a xs ∧ SqK k2 K H b ys) (YPairX (fun i => xs[i]?) (fun i => ys[i]?)) := by
  subst hn
  refine ⟨fun i _ hi q => ?_, fun _ q => ⟨xs, ys, q.1, q.2, by omega, by omega, by omega⟩, fun i H v H' _ q y => ?_⟩
  · have h1 : i < xs.length := by omega
    have h2 : i < ys.length := by omega
    exact ⟨xs, ys, xs[i], ys[i], q.1, q.2, by simp [h1], by simp [h2]⟩
  · obtain ⟨T, x, z, h1, h2, h3, h4, h5⟩ := y
    exact ⟨T, x, z, h1, h2, h3, h4 xs q.1, h5 ys q.2⟩
end DV

namespace DV
open PySem L2 PyProof.Rows
section
variable {X : Cx} {K : PySem.W.Frag} {R : RA} {L : Nat → Option (Addr × HO)} {E F F' H H' : Hp} {ρ ρ' : Env} {σ σ' : L2.St} {rs rs' : RS}
variable {S S' : List Nat} {tg it elt e e2 c : Expr} {es ifs : List Expr} {g : TG} {gs : TGs} {hg : D → Env → Option Env} {hgs : List D → Env → Option Env} {pos p : Pos} {st : Stmt} {body : List Stmt} {tb : TS} {tt : TT} {te t1 t2 : TE} {ta : TA} {wi : TI}

def SrcOk (K : PySem.W.Frag) (R : RA) (E : Hp) (ρ : Env) (σ : L2.St) (H F' H' : Hp) (v : V) (its : List D) (lk : Option Nat) : Prop := ∃ a vs, v = .ref a ∧ DpAll K F' vs its ∧
  ((∃ k, SqK k K F' a vs) ∨ (H' a = some (.lst vs) ∧ some a ≠ R.row ∧ ((H a = none ∧ F' a = none) ∨ E a = some (.lst vs) ∨ ∃ i ds, lk = some i ∧ ρ[i]? = some (some (SV.o ds)) ∧ σ[i]? = some (some (V.ref a)))))
theorem SqK.mono {k : SK} {F F' : Hp} {a : Addr} {vs : List V} (h : SqK k K F a vs) (e : ∀ o, F a = some o → F' a = some o) : SqK k K F' a vs := by
  cases k
  · exact ex_l e h
  · exact ex_t e h
theorem SrcOk.step {F1 H1 F2 H2 : Hp} {v : V} {its : List D} {lk : Option Nat} (s : Step K R rs' F1 H1 F2 H2) (h : SrcOk K R E ρ σ H F1 H1 v its lk) : SrcOk K R E ρ σ H F2 H2 v its lk := by
  obtain ⟨a, vs, rfl, hd, q⟩ := h
  refine ⟨a, vs, rfl, Dp.monoA s.sub _ _ hd, ?_⟩
  rcases q with ⟨k, q⟩ | ⟨q1, q2, q3⟩
  · exact .inl ⟨k, q.mono (s.sub a)⟩
  · refine .inr ⟨s.keep a _ q1 q2, q2, ?_⟩
    rcases q3 with ⟨z1, z2⟩ | z | z
    · refine .inl ⟨z1, ?_⟩
      cases q : F2 a with
      | none => rfl
      | some o =>
        rcases s.new a o q with y | y
        · rw [z2] at y; cases y
        · rw [q1] at y; cases y
    · exact .inr (.inl z)
    · exact .inr (.inr z)
theorem SrcOk.older {H0 H1 : Hp} {v : V} {its : List D} {lk : Option Nat} (e : ∀ a, H1 a = none → H0 a = none) (h : SrcOk K R E ρ σ H1 F' H' v its lk) : SrcOk K R E ρ σ H0 F' H' v its lk := by
  obtain ⟨a, vs, rfl, hd, q⟩ := h
  refine ⟨a, vs, rfl, hd, ?_⟩
  rcases q with q | ⟨q1, q2, q3⟩
  · exact .inl q
  · refine .inr ⟨q1, q2, ?_⟩
    rcases q3 with ⟨z1, z2⟩ | z | z
    · exact .inl ⟨e a z1, z2⟩
    · exact .inr (.inl z)
    · exact .inr (.inr z)
def SrcSem (K : PySem.W.Frag) (R : RA) (t : TE) (f : Env → M (List D × Option Nat)) : Prop :=
  ∀ (L : Nat → Option (Addr × HO)) (E : Hp) (ρ : Env) (σ : L2.St) (F H : Hp) (rs : RS) (its : List D) (lk : Option Nat) (rs' : RS) (Q : VK), Rel K R L E F ρ σ rs H → f ρ rs = some ((its, lk), rs') →
    (∀ v F' H', Step K R rs' F H F' H' → SrcOk K R E ρ σ H F' H' v its lk → Q v H') → t σ H Q
structure DSrc (X : Cx) (R : RA) (e : Expr) (t : TE) (f : Env → M (List D × Option Nat)) : Prop where
  pe : PE X e t
  sem : SrcSem X.K R t f
def srcOf : RV → Option (List D)
  | .d (.tuple ds) => some ds
  | .d (.list ds) => some ds
  | .n ds => some ds
  | _ => none
def srcE (f : Env → M RV) : Env → M (List D × Option Nat) := fun ρ => bnd (f ρ) fun x => bnd (lft (srcOf x)) fun ds => ret (ds, none)
theorem src_e {f : Env → M RV} (h : DE X R e te f) : DSrc X R e te (srcE f) := ⟨h.pe, fun L E ρ σ F H rs its lk rs' Q r hf k => by
  obtain ⟨x, rs1, e1, hf1⟩ := bnd_some hf
  obtain ⟨ds, rs2, e2, hf2⟩ := bnd_some hf1
  obtain ⟨e3, q3⟩ := lft_some e2
  obtain ⟨e4, q4⟩ := ret_some hf2
  cases e4
  subst q4 q3
  refine h.sem L E ρ σ F H rs x _ _ r e1 fun v F1 H1 s1 h1 => k v F1 H1 s1 ?_
  cases x with
  | d y =>
    cases y with
    | tuple es =>
      cases e3
      cases h1 with
      | tup z1 z2 => exact ⟨_, _, rfl, z2, .inl ⟨.t, z1⟩⟩
    | list es =>
      cases e3
      cases h1 with
      | lst z1 z2 => exact ⟨_, _, rfl, z2, .inl ⟨.l, z1⟩⟩
    | none => cases e3
    | bool _ => cases e3
    | int _ => cases e3
    | str _ => cases e3
    | dict _ => cases e3
  | n es =>
    cases e3
    obtain ⟨a, vs, rfl, z1, z0, z2, z3, z4⟩ := h1
    exact ⟨a, vs, rfl, z4, .inr ⟨z1, z3, .inl ⟨z0, z2⟩⟩⟩
  | b es => cases e3
  | gb _ => cases e3
  | gn _ => cases e3
  | row => cases e3⟩
def srcV (i : Nat) : Env → M (List D × Option Nat) := fun ρ => lft (match ρ[i]? with
  | some (some (.d (.tuple ds))) => some (ds, none)
  | some (some (.d (.list ds))) => some (ds, none)
  | some (some (.o ds)) => some (ds, some i)
  | some (some (.k ds)) => some (ds, none)
  | _ => none)
theorem src_v (i : Nat) {x : Str} (hN : X.N[i]? = some x := by rfl) (hv : Vis X.env.scope x := by first | exact Or.inl rfl | exact Or.inr (Or.inl rfl) | exact Or.inr (Or.inr rfl)) (hd : (x == ("__debug__" : Str)) = false := by decide)
    (hcd : (x == ("__classdict__" : Str)) = false := by decide) : DSrc X R (.Name x pos) (tVar i) (srcV i) := ⟨pe_var hN hv hd hcd, fun L E ρ σ F H rs its lk rs' Q r hf k => by
  obtain ⟨e1, q1⟩ := lft_some hf
  subst q1
  cases e : ρ[i]? with
  | none => rw [e] at e1; cases e1
  | some sv =>
    cases sv with
    | none => rw [e] at e1; cases e1
    | some sv =>
      obtain ⟨v, ev, q⟩ := r.sl i sv e
      refine ⟨v, ev, k v F H r.refl ?_⟩
      rw [e] at e1
      cases sv with
      | d y =>
        cases y with
        | tuple es =>
          cases e1
          cases q with
          | tup z1 z2 => exact ⟨_, _, rfl, z2, .inl ⟨.t, z1⟩⟩
        | list es =>
          cases e1
          cases q with
          | lst z1 z2 => exact ⟨_, _, rfl, z2, .inl ⟨.l, z1⟩⟩
        | none => cases e1
        | bool _ => cases e1
        | int _ => cases e1
        | str _ => cases e1
        | dict _ => cases e1
      | o es =>
        cases e1
        obtain ⟨a, vs, rfl, z1, z2, z3, z4, z5⟩ := q
        exact ⟨a, vs, rfl, z5, .inr ⟨z1, z4, .inr (.inr ⟨i, _, rfl, e, ev⟩)⟩⟩
      | k es =>
        cases e1
        obtain ⟨a, vs, hl, rfl, z5⟩ := q
        have hE := r.lk _ a _ hl
        refine ⟨a, vs, rfl, z5, .inr ⟨r.ex a _ hE, fun z => ?_, .inr (.inl hE)⟩⟩
        have := (r.rE a z.symm).1
        rw [hE] at this
        cases this
      | g _ => cases e1
      | un => cases e1
      | ex _ _ => cases e1
      | fn _ => cases e1
      | lm => cases e1
      | m _ => cases e1
      | row => cases e1⟩

theorem SrcOk.pin {v : V} {its : List D} {lk : Option Nat} (r0 : Rel K R L E F ρ σ rs H) (h : SrcOk K R E ρ σ H F' H' v its lk) : ∃ (a : Addr) (vs : List V) (k : SK) (P : Hp), v = .ref a ∧ DpAll K F' vs its ∧ PinOk K R E F' H H' ρ σ lk P ∧
    (∀ H2, (∀ b o, P b = some o → H2 b = some o) → (∀ b o, F' b = some o → H2 b = some o) → SqK k K H2 a vs) := by
  obtain ⟨a, vs, rfl, hd, q⟩ := h
  rcases q with ⟨k, q⟩ | ⟨q1, q2, q3⟩
  · exact ⟨a, vs, k, fun _ => none, rfl, hd, fun b o e => (nomatch e), fun H2 _ h2 => q.mono (h2 a)⟩
  · refine ⟨a, vs, .l, fun b => if b = a then some (.lst vs) else none, rfl, hd, fun b o e => ?_, fun H2 h1 _ => .inl (.inl (h1 a _ (if_pos rfl)))⟩
    by_cases hb : b = a
    · subst hb
      have e' : (if b = b then some (HO.lst vs) else none) = some o := e
      rw [if_pos rfl] at e'
      cases e'
      exact ⟨q1, q2, .lst, q3⟩
    · have e' : (if b = a then some (HO.lst vs) else none) = some o := e
      rw [if_neg hb] at e'
      cases e'
theorem yAt_ok {vs : List V} {its : List D} (hd : DpAll K F' vs its) : YOk K F' its (YAt vs) := fun i H1 v H2 F1 hi h1 h2 y => by
  obtain ⟨rfl, hv⟩ := y
  have hx : its[i]? = some its[i] := List.getElem?_eq_getElem hi
  obtain ⟨w, hw, hdw⟩ := hd.get hx
  rw [hv] at hw
  cases hw
  exact ⟨_, hx, .inl ⟨rfl, Dp.mono h1 _ _ hdw⟩⟩
theorem di_seq {f : Env → M (List D × Option Nat)} (h : DSrc X R e te f) : DI X R tg e (iSeqK X.K te) f := ⟨pi_seqK h.pe, fun L E ρ σ F H rs its lk rs' Rq r hf k => by
  refine h.sem L E ρ σ F H rs its lk rs' _ r hf fun v F1 H1 s1 h1 => ?_
  obtain ⟨a, vs, kd, P, rfl, hd, pn, hG⟩ := h1.pin r
  have r1 := r.step s1
  refine ⟨kd, a, vs, rfl, hG H1 (fun b o q => (pn b o q).1) r1.fr, k _ F1 H1 s1 ⟨_, _, P, ?_, pn, hG, yAt_ok hd⟩⟩
  have := walk_seqK kd (K := X.K) (a := a) (xs := vs)
  rw [hd.len] at this
  exact this⟩
/-- enumerate -/
def enumD : Nat → List D → List D
  | _, [] => []
  | i, x :: xs => .tuple [.int (i : Nat), x] :: enumD (i + 1) xs
theorem enumD_len : ∀ (i : Nat) (xs : List D), (enumD i xs).length = xs.length
  | _, [] => rfl
  | i, x :: xs => congrArg (· + 1) (enumD_len (i + 1) xs)
theorem enumD_get : ∀ (k : Nat) (xs : List D) (i : Nat) (x : D), xs[i]? = some x → (enumD k xs)[i]? = some (.tuple [.int ((k + i : Nat) : Int), x])
  | k, y :: ys, 0, x, h => by
    simp at h; subst h
    rfl
  | k, y :: ys, i + 1, x, h => by
    simp at h
    have := enumD_get (k + 1) ys i x h
    have e : k + 1 + i = k + (i + 1) := by omega
    rw [e] at this
    simpa [enumD] using this
def iEnumF (f : Env → M (List D × Option Nat)) : Env → M (List D × Option Nat) := fun ρ => bnd (f ρ) fun p => ret (enumD 0 p.1, p.2)
theorem di_enum {f : Env → M (List D × Option Nat)} {elts : List Expr} {kk : Nat} {tpos : Pos} (hgl : Gl X "enumerate") (hm : X.mg "enumerate" = none) (h : DSrc X R e te f) (hs : starEach [e] X.env = (false, eval e X.env) :: starEach [] X.env := by rfl) :
    DI X R (.Tuple elts kk tpos) (.Call (.Name "enumerate" p) [e] [] pos) (iEnumK X.K te) (iEnumF f) := ⟨pi_enumK hgl hm h.pe hs, fun L E ρ σ F H rs its lk rs' Rq r hf k => by
  obtain ⟨⟨xs, lk1⟩, rs1, e1, hf1⟩ := bnd_some hf
  obtain ⟨e2, q2⟩ := ret_some hf1
  cases e2
  subst q2
  refine h.sem L E ρ σ F H rs xs lk1 _ _ r e1 fun v F1 H1 s1 h1 => ?_
  obtain ⟨a, vs, kd, P, rfl, hd, pn, hG⟩ := h1.pin r
  have r1 := r.step s1
  refine ⟨kd, a, vs, rfl, hG H1 (fun b o q => (pn b o q).1) r1.fr, k _ F1 H1 s1 ⟨fun H => SqK kd X.K H a vs, YPairX (fun i => some (.int (i : Nat))) (fun i => vs[i]?), P, ?_, pn, hG, ?_⟩⟩
  · have := walk_enumK kd (K := X.K) (a := a) (xs := vs)
    rw [hd.len] at this
    show Walk _ (enumD 0 xs).length _ _
    rw [enumD_len]
    exact this
  · intro i H2 w H3 F2 hi h1 h2 y
    obtain ⟨T, x, y', rfl, hT, hN, ex, ey⟩ := y
    cases ex
    have hi' : i < xs.length := by
      have hi2 : i < (enumD 0 xs).length := hi
      rw [enumD_len] at hi2
      exact hi2
    have hx : xs[i]? = some xs[i] := List.getElem?_eq_getElem hi'
    obtain ⟨w, hw, hdw⟩ := hd.get hx
    have ey' : vs[i]? = some y' := ey
    rw [ey'] at hw
    cases hw
    refine ⟨_, enumD_get 0 xs i _ hx, .inr (.inl ⟨T, _, _, rfl, hT, hN, rfl, .cons ?_ (.cons (Dp.mono h1 _ _ hdw) .nil)⟩)⟩
    rw [Nat.zero_add]
    exact Dp.int _⟩
/-- range(a, b) -/
def rngD (lo : Int) : Nat → List D
  | 0 => []
  | n + 1 => .int lo :: rngD (lo + 1) n
theorem rngD_len : ∀ (lo : Int) (n : Nat), (rngD lo n).length = n
  | _, 0 => rfl
  | lo, n + 1 => congrArg (· + 1) (rngD_len (lo + 1) n)
theorem rngD_get : ∀ (lo : Int) (n i : Nat), i < n → (rngD lo n)[i]? = some (.int (lo + i))
  | _, 0, _, h => absurd h (Nat.not_lt_zero _)
  | lo, n + 1, 0, _ => by simp [rngD]
  | lo, n + 1, i + 1, h => by
    have := rngD_get (lo + 1) n i (by omega)
    have e : lo + 1 + (i : Int) = lo + ((i + 1 : Nat) : Int) := by omega
    rw [e] at this
    simpa [rngD] using this
def iRng1F (f : Env → M RV) : Env → M (List D × Option Nat) := fun ρ => bnd (f ρ) fun x => bnd (lft (asInt x)) fun n => if n ≤ 100000 ∧ -100000 ≤ n then ret (rngD 0 n.toNat, none) else fail
def iRng2F (f g : Env → M RV) : Env → M (List D × Option Nat) := fun ρ => bnd (f ρ) fun x => bnd (lft (asInt x)) fun a => bnd (g ρ) fun y => bnd (lft (asInt y)) fun b =>
  if a ≤ 100000 ∧ -100000 ≤ a ∧ b ≤ 100000 ∧ -100000 ≤ b then ret (rngD a (b - a).toNat, none) else fail
theorem rng_ok {lo : Int} {n : Nat} (r : Rel K R L E F' ρ σ rs H') {H : Hp} : IterOk K R E ρ σ H F' H' (Itr lo n) (rngD lo n) none := by
  refine ⟨fun _ => True, YFn fun i => .int (lo + i), fun _ => none, ?_, fun a o e => (nomatch e), fun _ _ _ => trivial, ?_⟩
  · have := walk_range (lo := lo) (n := n)
    rw [rngD_len]
    exact this
  · intro i H1 v H2 F1 hi h1 h2 y
    obtain ⟨rfl, rfl⟩ := y
    rw [rngD_len] at hi
    exact ⟨_, rngD_get lo n i hi, .inl ⟨rfl, Dp.int _⟩⟩
theorem di_range1 {f : Env → M RV} (hgl : Gl X "range") (hm : X.mg "range" = none) (h : DE X R e te f) (hs : starEach [e] X.env = [(false, eval e X.env)] := by rfl) (hs' : starEach [e] X.env = (false, eval e X.env) :: starEach [] X.env := by rfl) :
    DI X R tg (.Call (.Name "range" p) [e] [] pos) (iRng1 (tCons te tNil)) (iRng1F f) := ⟨pi_range1 hgl hm (pa_cons h.pe pa_nil hs') hs, fun L E ρ σ F H rs its lk rs' Rq r hf k => by
  obtain ⟨x, rs1, e1, hf1⟩ := bnd_some hf
  obtain ⟨n, rs2, e2, hf2⟩ := bnd_some hf1
  obtain ⟨e3, q3⟩ := lft_some e2
  subst q3
  by_cases hb : n ≤ 100000 ∧ -100000 ≤ n
  · rw [if_pos hb] at hf2
    obtain ⟨e4, q4⟩ := ret_some hf2
    cases e4
    subst q4
    refine h.sem L E ρ σ F H rs x _ _ r e1 fun v F1 H1 s1 h1 => ?_
    have := h1.int e3
    subst this
    exact ⟨n, rfl, by omega, by omega, k _ F1 H1 s1 (rng_ok (r.step s1))⟩
  · rw [if_neg hb] at hf2
    cases hf2⟩
theorem di_range2 {f g : Env → M RV} (hgl : Gl X "range") (hm : X.mg "range" = none) (h : DE X R e t1 f) (h2 : DE X R e2 t2 g) (hs : starEach [e, e2] X.env = [(false, eval e X.env), (false, eval e2 X.env)] := by rfl) (hs2 : starEach [e2] X.env = [(false, eval e2 X.env)] := by rfl)
    (hq1 : starEach [e, e2] X.env = (false, eval e X.env) :: starEach [e2] X.env := by rfl) (hq2 : starEach [e2] X.env = (false, eval e2 X.env) :: starEach [] X.env := by rfl) :
    DI X R tg (.Call (.Name "range" p) [e, e2] [] pos) (iRng2 (tCons t1 (tCons t2 tNil))) (iRng2F f g) := ⟨pi_range2 hgl hm (pa_cons h.pe (pa_cons h2.pe pa_nil hq2) hq1) hs hs2, fun L E ρ σ F H rs its lk rs' Rq r hf k => by
  obtain ⟨x, rs1, e1, hf1⟩ := bnd_some hf
  obtain ⟨a, rs2, e2, hf2⟩ := bnd_some hf1
  obtain ⟨e3, q3⟩ := lft_some e2
  subst q3
  obtain ⟨y, rs4, e4, hf4⟩ := bnd_some hf2
  obtain ⟨b, rs5, e5, hf5⟩ := bnd_some hf4
  obtain ⟨e6, q6⟩ := lft_some e5
  subst q6
  by_cases hb : a ≤ 100000 ∧ -100000 ≤ a ∧ b ≤ 100000 ∧ -100000 ≤ b
  · rw [if_pos hb] at hf5
    obtain ⟨e7, q7⟩ := ret_some hf5
    cases e7
    subst q7
    refine h.sem L E ρ σ F H rs x _ _ r e1 fun v F1 H1 s1 h1 => ?_
    refine h2.sem L E ρ σ F1 H1 _ y _ _ (r.step s1) e4 fun w F2 H2 s2 h2 => ?_
    have := h1.int e3
    subst this
    have := h2.int e6
    subst this
    exact ⟨a, b, rfl, ⟨by omega, by omega, by omega, by omega⟩, k _ F2 H2 (s1.trans r.row s2) (rng_ok ((r.step s1).step s2))⟩
  · rw [if_neg hb] at hf5
    cases hf5⟩

def toK : RV → SV
  | .d x => .d x
  | .b ds => .k ds
  | .n ds => .k ds
  | .gb _ => .un
  | .gn _ => .un
  | .row => .row
def startE (n : Nat) (xs : List RV) : Env := xs.map (fun x => some (toK x)) ++ List.replicate (n - xs.length) none
/-- a def's body run at its arguments -/
def runDef (n : Nat) (g : Env → M Out) (xs : List RV) : M RV := bnd (g (startE n xs)) fun o => match o with
  | .nx _ => ret (.d .none)
  | .rt x => ret x
  | _ => fail
/-- a def's promise: the function m of its arguments (np of them) -/
def spFn (K : PySem.W.Frag) (np : Nat) (m : List RV → M RV) : Sp := fun vs H Q _ => ∃ (R : RA) (F : Hp) (rs : RS) (xs : List RV) (x : RV) (rs' : RS), Step K R rs F H F H ∧ VRs K R F H H vs xs ∧ xs.length = np ∧ m xs rs = some (x, rs') ∧
  ∀ v F' H', Step K R rs' F H F' H' → VR K R F' H H' v x → Q v H'
theorem VRs.old {F H0 H : Hp} : ∀ {vs : List V} {xs : List RV}, VRs K R F H0 H vs xs → True := fun _ => trivial
/-- data lists as they stand for a call: not new any more -/
def readable : RV → RV
  | .n ds => .b ds
  | .gn c => .gb c
  | x => x
def eFn (m : List RV → M RV) (fa : Env → M (List RV)) : Env → M RV := fun ρ => bnd (fa ρ) fun xs => m (xs.map readable)
theorem VRs.readable {F H0 H : Hp} : ∀ {vs : List V} {xs : List RV}, VRs K R F H0 H vs xs → VRs K R F H H vs (xs.map DV.readable)
  | _, _, .nil => .nil
  | _, _, .cons (x := x) h t => .cons (by
      cases x with
      | d y => exact h
      | b y => exact h
      | gb y => exact h
      | gn y =>
        obtain ⟨a, vs, e1, h1, h0, h2, h3, h4⟩ := h
        exact ⟨a, vs, e1, h1, h3, h4⟩
      | row => exact h
      | n y =>
        obtain ⟨a, vs, e1, h1, h0, h2, h3, h4⟩ := h
        exact ⟨a, vs, e1, h1, h3, h4⟩) (VRs.readable t)
theorem de_fn {k : Nat} {f : Addr} {fd : FuncData} {ps : List Str} {np : Nat} {m : List RV → M RV} {x : Str} {fa : Env → M (List RV)} {k' : Nat} (Fn : FnOk X.prog X.w X.K X.mg X.base CX0 k f fd ps (spFn X.K np m)) (hr : Room k' X.A) (hk' : k ≤ k') (hgl : Gl X x) (hm : X.mg x = some (.ref f)) (hk : PySem.W.keepIn X.K (.ref f) = true)
    (hb : Binds X.K fd ps []) (ha : DA X R (e :: es) ta fa) (hdb : (x == ("__debug__" : Str)) = false := by decide) (he : starEach (e :: es) X.env = (false, eval e X.env) :: starEach es X.env := by rfl) (hpl : (backTo pos (starEach es X.env)).any (·.1) = false := by rfl) :
    DE X R (.Call (.Name x p) (e :: es) [] pos) (tCall (spFn X.K np m) [] E0 ta) (eFn (fun xs => if xs.length = np then m xs else fail) fa) := ⟨pe_call Fn (hr.mono hk') hgl hm hk hb .nil pass0 ha.pa hdb he hpl, fun L E ρ σ F H rs y rs' Q r hf kk => by
  obtain ⟨xs, rs1, e1, hf1⟩ := bnd_some hf
  refine ha.sem L E ρ σ F H rs xs rs1 _ r e1 fun vs F1 H1 s1 h1 => ?_
  have hf1 : (if (xs.map readable).length = np then m (xs.map readable) else fail) rs1 = some (y, rs') := hf1
  have hl : (xs.map readable).length = np := by
    by_cases hl : (xs.map readable).length = np
    · exact hl
    · rw [if_neg hl] at hf1; cases hf1
  rw [if_pos hl] at hf1
  rw [List.append_nil]
  exact ⟨R, F1, rs1, _, y, rs', (r.step s1).refl, h1.readable, hl, hf1, fun v F2 H2 s2 h2 => kk v F2 H2 (s1.trans r.row s2) (h2.older fun a q => s1.back r.row q)⟩⟩
theorem start_get {α : Type} {xs : List α} {n i : Nat} {x : α} (h : (xs.map some ++ List.replicate (n - xs.length) none)[i]? = some (some x)) : xs[i]? = some x := by
  by_cases hi : i < xs.length
  · rw [List.getElem?_append_left (by simpa using hi), List.getElem?_map] at h
    cases e : xs[i]? with
    | none => rw [e] at h; cases h
    | some y => rw [e] at h; cases h; rfl
  · rw [List.getElem?_append_right (by simpa using hi), List.getElem?_replicate] at h
    split at h <;> cases h
theorem VRs.get {F H0 H : Hp} : ∀ {vs : List V} {xs : List RV} {i : Nat} {x : RV}, VRs K R F H0 H vs xs → xs[i]? = some x → ∃ v, vs[i]? = some v ∧ VR K R F H0 H v x
  | _, _, _, _, .nil, h => by simp at h
  | _, _, 0, _, .cons h1 _, h => by
    simp at h; subst h
    exact ⟨_, rfl, h1⟩
  | _, _, i + 1, _, .cons _ h2, h => by
    simp at h
    obtain ⟨v, e, r⟩ := VRs.get h2 h
    exact ⟨v, by simpa using e, r⟩
open Classical in
/-- at a def's entry -/
noncomputable def lockL (R : RA) (H : Hp) (vs : List V) (xs : List RV) (i : Nat) : Option (Addr × List V) := match vs[i]?, xs[i]? with
  | some (.ref a), some x => match toK x with
    | .k _ => if some a = R.row then none else match H a with
      | some (.lst ws) => some (a, ws)
      | _ => none
    | _ => none
  | _, _ => none
open Classical in
theorem lockL_eq {vs : List V} {xs : List RV} {i : Nat} {a : Addr} {x : RV} {ds : List D} {ws : List V} (h1 : vs[i]? = some (.ref a)) (h2 : xs[i]? = some x) (h3 : toK x = .k ds) (h4 : some a ≠ R.row) (h5 : H a = some (.lst ws)) : lockL R H vs xs i = some (a, ws) := by
  unfold lockL
  rw [h1, h2]
  dsimp only
  rw [h3]
  dsimp only
  rw [if_neg h4, h5]
open Classical in
theorem lockL_inv {vs : List V} {xs : List RV} {i : Nat} {a : Addr} {ws : List V} (h : lockL R H vs xs i = some (a, ws)) : some a ≠ R.row ∧ H a = some (.lst ws) := by
  unfold lockL at h
  split at h
  · split at h
    · split at h
      · cases h
      · rename_i hR
        split at h
        · rename_i hh
          cases h
          exact ⟨hR, hh⟩
        · cases h
    · cases h
  · cases h
/-- a table's place -/
def tbAt (K : PySem.W.Frag) (a : Addr) : Prop := ∃ q, (a, q) ∈ tabsOf K
theorem RowOk.noTb {F1 H1 : Hp} {rs1 : RS} (r : RowOk K R rs1 F1 H1) {a : Addr} {ws : List V} (h : H1 a = some (.lst ws)) : ¬ tbAt K a := fun ⟨q, z⟩ => by
  obtain ⟨ps, e⟩ := tabs_at r.tab z
  rw [h] at e; cases e
open Classical in
/-- what the entry knows: neither the row nor a table -/
noncomputable def entE (K : PySem.W.Frag) (R : RA) (H : Hp) : Hp := fun a => if some a = R.row ∨ tbAt K a then none else H a
theorem entE_of {a : Addr} {o : HO} (e : entE K R H a = some o) : some a ≠ R.row ∧ ¬ tbAt K a ∧ H a = some o := by
  unfold entE at e
  split at e
  · cases e
  · rename_i h
    exact ⟨fun z => h (.inl z), fun z => h (.inr z), e⟩
theorem entE_at {a : Addr} (h1 : some a ≠ R.row) (h2 : ¬ tbAt K a) : entE K R H a = H a := by
  unfold entE
  exact if_neg fun z => z.elim h1 h2
theorem entE_row {a : Addr} (h : R.row = some a) : entE K R H a = none := by
  unfold entE
  exact if_pos (.inl h.symm)
open Classical in
noncomputable def lockH (R : RA) (H : Hp) (vs : List V) (xs : List RV) : Nat → Option (Addr × HO) := fun j => if j % 2 = 0 then (lockL R H vs xs (j / 2)).map fun p => (p.1, HO.lst p.2) else none
theorem lockH_inv {R : RA} {H : Hp} {vs : List V} {xs : List RV} {j : Nat} {a : Addr} {u : HO} (h : lockH R H vs xs j = some (a, u)) : ∃ ws, u = .lst ws ∧ some a ≠ R.row ∧ H a = some (.lst ws) := by
  unfold lockH at h
  split at h
  · cases e : lockL R H vs xs (j / 2) with
    | none => rw [e] at h; cases h
    | some p =>
      rw [e] at h
      cases h
      exact ⟨p.2, rfl, lockL_inv (a := p.1) (ws := p.2) e⟩
  · cases h
theorem lockH_at {R : RA} {H : Hp} {vs : List V} {xs : List RV} {i : Nat} {a : Addr} {ws : List V} (h : lockL R H vs xs i = some (a, ws)) : lockH R H vs xs (2 * i) = some (a, .lst ws) := by
  unfold lockH
  rw [if_pos (by omega), show 2 * i / 2 = i by omega, h]
  rfl
open Classical in
theorem Rel.start {N : List Str} {vs : List V} {xs : List RV} (s : Step K R rs F H F H) (h : VRs K R F H H vs xs) : ∃ L, Rel K R L (entE K R H) F (startE N.length xs) (L2.start N vs) rs H := by
  have hl := h.len
  refine ⟨lockH R H vs xs, ?_⟩
  refine ⟨?_, fun a o e => (entE_of e).2.2, fun a o e => .inr fun n z => (entE_of e).2.1 ⟨n, z⟩, s.fin, s.row, fun q e => ⟨entE_row e, s.rF q e⟩, fun i a ws e => ?_, fun i sv e => ?_, fun i j a sv sw e1 _ ox _ _ _ => ?_⟩
  · unfold startE L2.start
    rw [List.length_append, List.length_append, List.length_map, List.length_map, List.length_replicate, List.length_replicate, hl]
  · obtain ⟨ws2, rfl, h1, h2⟩ := lockH_inv e
    rw [entE_at h1 (s.row.noTb h2)]
    exact h2
  · have hx : ∃ x, xs[i]? = some x ∧ sv = toK x := by
      unfold startE at e
      have : (((xs.map toK).map some) ++ List.replicate (N.length - (xs.map toK).length) none)[i]? = some (some sv) := by
        rw [List.map_map, List.length_map]
        exact e
      have q := start_get this
      rw [List.getElem?_map] at q
      cases q2 : xs[i]? with
      | none => rw [q2] at q; cases q
      | some x => rw [q2] at q; exact ⟨x, rfl, (Option.some.inj q).symm⟩
    obtain ⟨x, hx, rfl⟩ := hx
    obtain ⟨v, hv, q⟩ := h.get hx
    refine ⟨v, ?_, ?_⟩
    · unfold L2.start
      have hi := (List.getElem?_eq_some_iff.mp hv).1
      rw [List.getElem?_append_left (by simpa using hi), List.getElem?_map, hv]
      rfl
    · have lst : ∀ (a : Addr) (ws : List V) (ds : List D), v = .ref a → H a = some (.lst ws) → some a ≠ R.row → DpAll K F ws ds → toK x = .k ds → SR K R (lockH R H vs xs) (fun a => if some a = R.row then none else H a) F H i v (.k ds) := fun a ws ds ev h1 h2 h3 ek => by
        subst ev
        exact ⟨a, ws, lockH_at (lockL_eq hv hx ek h2 h1), rfl, h3⟩
      cases x with
      | d y => exact q
      | b ds =>
        obtain ⟨a, ws, ev, h1, h2, h3⟩ := q
        exact lst a ws ds ev h1 h2 h3 rfl
      | n ds =>
        obtain ⟨a, ws, ev, h1, h0, h2, h3, h4⟩ := q
        exact lst a ws ds ev h1 h3 h4 rfl
      | gb _ => exact trivial
      | gn _ => exact trivial
      | row => exact q
  · exfalso
    unfold startE at e1
    have : (((xs.map toK).map some) ++ List.replicate (N.length - (xs.map toK).length) none)[i]? = some (some sv) := by
      rw [List.map_map, List.length_map]
      exact e1
    have q := start_get this
    rw [List.getElem?_map] at q
    cases q2 : xs[i]? with
    | none => rw [q2] at q; cases q
    | some x =>
      rw [q2] at q
      have q3 := Option.some.inj q
      cases x <;> cases q3 <;> exact ox
/-- a def by its body, its code told -/
theorem fun_code {P : Program} {w : World} {mg : Str → Option Value} {base : Heap} {x qual : Str} {st : Stmt} {f : Addr} {fd : FuncData} {N ps : List Str} {k : Nat} {sp : Sp} (Fn : Fun K x qual st f fd) (S : FnScope N ps (defScope st)) (len : ∀ vs H Q E, sp vs H Q E → vs.length = ps.length)
    (go : ∀ (cdv : Value) (A : Around) (outer : List PySem.Env) (s : Shared) (H : Hp) (vs : List V) (Q : VK) (E : XK), fd.code = cdv → Room k (A.deeper (envOfC qual (defScope st) s.heap.objs.size f cdv)) → sp vs H Q E →
      ∃ t, PSs (cxOf CX0 P w K mg base N qual (defScope st) f cdv A outer s H E).nox (defBody st) t ∧ t { nx := fun _ H' => Q .non H', rt := Q } (L2.start N vs) H) : FnOk P w K mg base CX0 (k + 1) f fd ps sp := by
  obtain ⟨c0, d0, kv, dc, pm, an, code, ct, sl, rfl, look, isC⟩ := Fn.ex
  refine fn_of look isC S len fun A outer s H vs Q E room h => ?_
  obtain ⟨t, h1, h2⟩ := go code A outer s H vs Q E rfl room h
  exact ⟨t, h1.nox, h2⟩
/-- THE RULE for a def -/
theorem fn_ok {P : Program} {w : World} {mg : Str → Option Value} {base : Heap} {x qual : Str} {st : Stmt} {f : Addr} {fd : FuncData} {N ps : List Str} {k : Nat} {g : Env → M Out} (Fn : Fun K x qual st f fd) (S : FnScope N ps (defScope st))
    (hbody : ∀ (R : RA) (cdv : Value) (A : Around) (outer : List PySem.Env) (s : Shared) (H : Hp) (E : XK), fd.code = cdv → Room k (A.deeper (envOfC qual (defScope st) s.heap.objs.size f cdv)) →
      ∃ t, DSs (cxOf CX0 P w K mg base N qual (defScope st) f cdv A outer s H E).nox R (defBody st) t g) : FnOk P w K mg base CX0 (k + 1) f fd ps (spFn K ps.length (runDef N.length g)) := by
  refine fun_code Fn S (fun vs H Q E h => ?_) (fun cdv A outer s H vs Q E hcd hr h => ?_)
  · obtain ⟨R, F, rs, xs, x, rs', _, h2, h3, _⟩ := h
    rw [h2.len, h3]
  · obtain ⟨R, F, rs, xs, y, rs', hs, hv, hl, hm, kk⟩ := h
    obtain ⟨t, hb⟩ := hbody R cdv A outer s H E hcd hr
    obtain ⟨L, r⟩ := Rel.start (N := N) hs hv
    have s0 := hs
    refine ⟨t, hb.ps, ?_⟩
    obtain ⟨o, rs1, e1, hf1⟩ := bnd_some hm
    have free : ∀ a, entE K R H a = none → some a ≠ R.row → ¬ tbAt K a → H a = none := fun a e q t => by rwa [entE_at q t] at e
    have fin : ∀ (v : V) (F1 H1 : Hp) (z : RV), Ret K R rs1 (entE K R H) F F1 H1 v z → y = z → rs1 = rs' → Q v H1 := fun v F1 H1 z q ez er => by
      subst ez er
      refine kk v F1 H1 ⟨fun a o e hR n => ?_, q.fs.sub, fun a o e => ?_, q.fr, q.row, q.rF⟩ ?_
      · by_cases t : tbAt K a
        · obtain ⟨m, t⟩ := t
          obtain ⟨ps, et⟩ := tabs_at s0.row.tab t
          rw [e] at et
          cases et
          rcases n with n | n
          · exact absurd rfl (n ps)
          · exact absurd t (n m)
        · exact q.ex a o (by rw [entE_at hR t]; exact e)
      · rcases q.fs.new a o e with z | ⟨z1, z2⟩
        · exact .inl z
        · refine .inr (free a z1 z2 fun ⟨m, t⟩ => ?_)
          obtain ⟨ps, et⟩ := tabs_at q.row.tab t
          rw [q.fr a o e] at et
          cases et
          rcases q.row.fnt a _ e with n | n
          · exact absurd rfl (n ps)
          · exact absurd t (n m)
      · have hv := q.val
        cases y with
        | d y => exact hv
        | n ds =>
          obtain ⟨a, ws, z1, z2, z3, z4, z5, z6⟩ := hv
          exact ⟨a, ws, z1, z2, free a z3 z5 (q.row.noTb z2), z4, z5, z6⟩
        | gn c =>
          obtain ⟨a, ws, z1, z2, z3, z4, z5, z6⟩ := hv
          exact ⟨a, ws, z1, z2, free a z3 z5 (fun ⟨m, t⟩ => by
            obtain ⟨ps, et⟩ := tabs_at q.row.tab t
            rw [z2] at et
            cases et
            rcases z6.fx with n | n
            · exact absurd rfl (n ps)
            · exact absurd t (n m)), z4, z5, z6⟩
        | b _ => exact hv.elim
        | gb _ => exact hv.elim
        | row => exact hv.elim
    refine hb.sem L _ F _ _ rs H o rs1 _ r e1 ?_
    cases o with
    | nx ρ' =>
      obtain ⟨e2, q2⟩ := ret_some hf1
      exact fun σ' F' H' fs r' => fin .non F' H' (.d .none) ⟨fs, r'.ex, r'.fr, r'.row, fun q e => (r'.rE q e).2, .non⟩ e2.symm q2.symm
    | rt z =>
      obtain ⟨e2, q2⟩ := ret_some hf1
      exact fun v F' H' q => fin v F' H' z q e2.symm q2.symm
    | bk ρ' => cases hf1
    | ct ρ' => cases hf1

def sApp (i : Nat) (f : Env → M RV) : Env → M Out := fun ρ => bnd (lft (own? ρ i)) fun ds => bnd (f ρ) fun x => bnd (lft (toD x)) fun d => if ds.length < 100000 then ret (.nx (ρ.set i (some (.o (ds ++ [d]))))) else fail
  where own? (ρ : Env) (i : Nat) : Option (List D) := match ρ[i]? with
    | some (some (.o ds)) => some ds
    | _ => none
theorem own_some {ρ : Env} {i : Nat} {ds : List D} (h : sApp.own? ρ i = some ds) : ρ[i]? = some (some (SV.o ds)) := by
  unfold sApp.own? at h
  cases e : ρ[i]? with
  | none => rw [e] at h; cases h
  | some o =>
    cases o with
    | none => rw [e] at h; cases h
    | some sv =>
      rw [e] at h
      cases sv with
      | o es => cases h; rfl
      | d _ => cases h
      | k _ => cases h
      | g _ => cases h
      | un => cases h
      | ex _ _ => cases h
      | fn _ => cases h
      | lm => cases h
      | m _ => cases h
      | row => cases h
theorem frozen1 {F1 H1 : Hp} (r : Rel K R L E F ρ σ rs H) (s : Step K R rs' F H F1 H1) {v : V} {x : RV} {d : D} (h : VR K R F1 H H1 v x) (e : toD x = some d) : ∃ F2, Step K R rs' F H F2 H1 ∧ Dp K F2 v d := by
  obtain ⟨F2, h1, h2, _⟩ := freeze1 s r.row (fun a q => q) h e
  exact ⟨F2, h1, h2⟩
theorem ds_append {i : Nat} {x : Str} {e : Expr} {te : TE} {f : Env → M RV} {apos p1 spos : Pos} (he : DE X R e te f) (hN : X.N[i]? = some x := by rfl) (hv : Vis X.env.scope x := by first | exact Or.inl rfl | exact Or.inr (Or.inl rfl) | exact Or.inr (Or.inr rfl)) (hd : (x == ("__debug__" : Str)) = false := by decide)
    (hcd : (x == ("__classdict__" : Str)) = false := by decide) (pe : PE X (.Call (.Attribute (.Name x p1) "append" apos) [e] [] pos) (tBM X.K "list" rAppend (tVar i) (tCons te tNil))) (hs : swapsWith (.Call (.Attribute (.Name x p1) "append" apos) [e] [] pos) none spos.line X.env = pure false := by rfl) :
    DS X R (.Expr (.Call (.Attribute (.Name x p1) "append" apos) [e] [] pos) spos) (tDrop (tBM X.K "list" rAppend (tVar i) (tCons te tNil))) (sApp i f) := ⟨ps_expr pe hs, fun L E F ρ σ rs H o rs' D r hf k => by
  obtain ⟨ds, rs1, e1, hf1⟩ := bnd_some hf
  obtain ⟨e2, q2⟩ := lft_some e1
  subst q2
  obtain ⟨x, rs3, e3, hf3⟩ := bnd_some hf1
  obtain ⟨d, rs4, e4, hf4⟩ := bnd_some hf3
  obtain ⟨e5, q5⟩ := lft_some e4
  subst q5
  by_cases hl : ds.length < 100000
  · rw [if_pos hl] at hf4
    obtain ⟨e6, q6⟩ := ret_some hf4
    subst e6 q6
    have eo := own_some e2
    obtain ⟨v, ev, a, vs, rfl, h1, h2, h3, h4, h5⟩ := r.sl i _ eo
    refine ⟨_, ev, .inl ⟨rfl, vs, .inl (.inl h1)⟩, ?_⟩
    refine he.sem L E ρ σ F H _ x _ _ r e3 fun w F1 H1 s1 hw => ?_
    obtain ⟨F2, s2, hd2⟩ := frozen1 r s1 hw e5
    have r2 := r.step s2
    obtain ⟨v', ev', a', vs', ea, k1, k2, k3, k4, k5⟩ := r2.sl i _ eo
    rw [ev] at ev'
    cases ev'
    cases ea
    refine ⟨a, vs', w, rfl, rfl, k1, by rw [k5.len]; exact sz_lt hl, ?_⟩
    exact k σ F2 _ (FStep.ofStep r s2) (r2.change eo ev (k5.append (.cons hd2 .nil)))
  · rw [if_neg hl] at hf4
    cases hf4⟩
/-- x[k] = e -/
def sPut (i : Nat) (f g : Env → M RV) : Env → M Out := fun ρ => bnd (f ρ) fun x => bnd (lft (sApp.own? ρ i)) fun ds => bnd (g ρ) fun y => bnd (lft (asInt y)) fun j => bnd (lft (toD x)) fun d => bnd (lft (ixN ds.length j)) fun m => ret (.nx (ρ.set i (some (.o (ds.set m d)))))
theorem ds_put {i : Nat} {x : Str} {ei e : Expr} {te ti : TE} {f g : Env → M RV} {p1 spos : Pos} (he : DE X R e te f) (hi : DE X R ei ti g) (hN : X.N[i]? = some x := by rfl) (hv : Vis X.env.scope x := by first | exact Or.inl rfl | exact Or.inr (Or.inl rfl) | exact Or.inr (Or.inr rfl)) (hd : (x == ("__debug__" : Str)) = false := by decide)
    (hcd : (x == ("__classdict__" : Str)) = false := by decide) (hpg : PG X (.Subscript (.Name x p1) ei pos) (gSub (tVar i) ti rSetL)) (hs : swapsWithSole [.Subscript (.Name x p1) ei pos] e spos.line X.env = pure false := by rfl) (hw : swappedStores [.Subscript (.Name x p1) ei pos] e X.env = pure none := by rfl)
    (h1 : (assignEach [.Subscript (.Name x p1) ei pos] X.env).map (·.2) = [assign (.Subscript (.Name x p1) ei pos) X.env] := by rfl) : DS X R (.Assign [.Subscript (.Name x p1) ei pos] e spos) (tAsg te (gSub (tVar i) ti rSetL)) (sPut i f g) := ⟨ps_asg he.pe hpg hs hw h1, fun L E F ρ σ rs H o rs' D r hf k => by
  obtain ⟨x, rs1, e1, hf1⟩ := bnd_some hf
  obtain ⟨ds, rs2, e2, hf2⟩ := bnd_some hf1
  obtain ⟨e2', q2⟩ := lft_some e2
  subst q2
  obtain ⟨y, rs3, e3, hf3⟩ := bnd_some hf2
  obtain ⟨j, rs4, e4, hf4⟩ := bnd_some hf3
  obtain ⟨e4', q4⟩ := lft_some e4
  subst q4
  obtain ⟨d, rs5, e5, hf5⟩ := bnd_some hf4
  obtain ⟨e5', q5⟩ := lft_some e5
  subst q5
  obtain ⟨m, rs6, e6, hf6⟩ := bnd_some hf5
  obtain ⟨e6', q6⟩ := lft_some e6
  obtain ⟨e7, q7⟩ := ret_some hf6
  subst e7 q7 q6
  refine he.sem L E ρ σ F H _ x _ _ r e1 fun w F1 H1 s1 hw => ?_
  obtain ⟨F2, s2, hd2⟩ := frozen1 r s1 hw e5'
  have r2 := r.step s2
  have eo := own_some e2'
  obtain ⟨v, ev, _⟩ := r.sl i _ eo
  refine ⟨v, ev, ?_⟩
  refine hi.sem L E ρ σ F2 H1 _ y _ _ r2 e3 fun u F3 H3 s3 hu => ?_
  have hu' := hu.int e4'
  subst hu'
  have r3 := r2.step s3
  obtain ⟨v', ev', a', vs', ea, k1, k2, k3, k4, k5⟩ := r3.sl i _ eo
  rw [ev] at ev'
  cases ev'
  subst ea
  refine ⟨a', vs', j, m, rfl, rfl, k1, by rw [k5.len]; exact e6', ?_⟩
  exact k σ F3 _ (FStep.ofStep r (s2.trans r.row s3)) (r3.change eo ev (DpAll.set m k5 (Dp.mono s3.sub _ _ hd2)))⟩
end
end DV

namespace DV
open PySem L2 LamX PyProof.Rows PySem.Spec PySem.W
section
variable {K : PySem.W.Frag}
/-- xs in the order of their keys -/
def byKeys (rev : Bool) (xs : List V) (kz : List D) : List V := ((xs.zip kz).mergeSort (dataLe rev fun p => p.2)).map (·.1)
theorem each_zip : ∀ {xs : List V} {its : List Value} {kz : List D}, Vals xs its → kz.length = xs.length → EachIs (fun v (p : V × D) => L2.RelV p.1 v) its (xs.zip kz)
  | _, _, _, .nil, _ => .nil
  | _ :: _, _ :: _, [], .cons _ _, h => by simp at h
  | _ :: _, _ :: _, k :: kz, .cons r t, h => .cons r (each_zip t (by simpa using h))
theorem vals_each : ∀ {its : List Value} {ps : List (V × D)}, EachIs (fun v (p : V × D) => L2.RelV p.1 v) its ps → Vals (ps.map (·.1)) its
  | _, _, .nil => .nil
  | _, _, .cons r t => .cons r (vals_each t)
theorem zip_snd : ∀ {xs : List V} {kz : List D}, kz.length = xs.length → (xs.zip kz).map (·.2) = kz
  | [], [], _ => rfl
  | [], _ :: _, h => by simp at h
  | _ :: _, [], h => by simp at h
  | x :: xs, k :: kz, h => by
    rw [List.zip_cons_cons, List.map_cons, zip_snd (by simpa using h)]
def isTupNe : D → Bool
  | .tuple (_ :: _) => true
  | _ => false
def isPlain : D → Bool
  | .none => false
  | .tuple _ => false
  | _ => true
def okKeys (kz : List D) : Bool := kz.all (fun x => kz.all (alike x)) && ((kz.all isTupNe || kz.all isPlain) && kz.all fun d => decide (d.depth ≤ 60))
theorem okKeys_of {kz : List D} (h : okKeys kz = true) : AllAlike kz ∧ Sortable kz ∧ ∀ d, d ∈ kz → d.depth ≤ 60 := by
  unfold okKeys at h
  simp only [Bool.and_eq_true, Bool.or_eq_true, List.all_eq_true, decide_eq_true_eq] at h
  obtain ⟨h1, h2, h3⟩ := h
  refine ⟨fun x hx y hy => h1 x hx y hy, ?_, h3⟩
  rcases h2 with h2 | h2
  · refine .inl fun d hd => ?_
    have z := h2 d hd
    match d, z with
    | .tuple (x :: r), _ => exact ⟨x, r, rfl⟩
  · refine .inr fun d hd => ⟨fun z => ?_, fun xs z => ?_⟩
    · have y := h2 d hd
      rw [z] at y
      cases y
    · have y := h2 d hd
      rw [z] at y
      cases y
/-- the items in the order of their keys -/
def sortK (its kz : List D) : List D := ((its.zip kz).mergeSort fun p q => !dataLt q.2 p.2).map (·.1)
theorem sortK_data {F : Hp} {xs : List V} {its kz : List D} (h : DpAll K F xs its) (hl : kz.length = xs.length) : DpAll K F (byKeys false xs kz) (sortK its kz) := by
  have hz : ∀ (xs : List V) (its kz : List D), DpAll K F xs its → kz.length = xs.length → ∃ Z : List (V × D × D), (∀ z ∈ Z, Dp K F z.1 z.2.1) ∧ Z.map (fun z => (z.1, z.2.2)) = xs.zip kz ∧ Z.map (fun z => z.2) = its.zip kz := fun xs => by
    induction xs with
    | nil =>
      intro its kz h hl
      cases h
      have : kz = [] := List.eq_nil_of_length_eq_zero hl
      subst this
      exact ⟨[], fun _ h => (nomatch h), rfl, rfl⟩
    | cons x xs ih =>
      intro its kz h hl
      cases h with
      | cons h1 h2 =>
        rename_i dd dds
        cases kz with
        | nil => simp at hl
        | cons k kz =>
          obtain ⟨Z, a1, a2, a3⟩ := ih _ kz h2 (by simpa using hl)
          refine ⟨(x, dd, k) :: Z, fun z hz => ?_, ?_, ?_⟩
          · rcases List.mem_cons.mp hz with e | e
            · subst e; exact h1
            · exact a1 z e
          · rw [List.map_cons, a2]; rfl
          · rw [List.map_cons, a3]; rfl
  obtain ⟨Z, a1, a2, a3⟩ := hz xs its kz h hl
  have e1 : byKeys false xs kz = (Z.mergeSort fun p q => !dataLt q.2.2 p.2.2).map (·.1) := by
    unfold byKeys
    rw [← a2, ← List.map_mergeSort (r := fun p q : V × D × D => !dataLt q.2.2 p.2.2) (f := fun z : V × D × D => (z.1, z.2.2)) (fun _ _ _ _ => rfl), List.map_map]
    rfl
  have e2 : sortK its kz = (Z.mergeSort fun p q => !dataLt q.2.2 p.2.2).map fun z => z.2.1 := by
    unfold sortK
    rw [← a3, ← List.map_mergeSort (r := fun p q : V × D × D => !dataLt q.2.2 p.2.2) (f := fun z : V × D × D => z.2) (fun _ _ _ _ => rfl), List.map_map]
    rfl
  rw [e1, e2]
  have go : ∀ Z2 : List (V × D × D), (∀ z ∈ Z2, Dp K F z.1 z.2.1) → DpAll K F (Z2.map (·.1)) (Z2.map fun z => z.2.1) := fun Z2 => by
    induction Z2 with
    | nil => exact fun _ => .nil
    | cons z Z2 ih => exact fun h => .cons (h z List.mem_cons_self) (ih fun y hy => h y (List.mem_cons_of_mem _ hy))
  exact go _ fun z hz2 => a1 z (List.mem_mergeSort.mp hz2)
end
section
variable {prog : Program} {w : World} {A : Around} {E : Value → Shared → Prop} {s : Shared} {β : Type} {vs : List Value} {bs : List β} {R : Value → β → Prop} {enc : β → PyData}
/-- sorted of a tuple of data -/
theorem sorted_dataT {l : Addr} {Q : Value → Shared → Prop} (hl : s.heap.IsTuple l vs.toArray) (hz : vs.length ≤ sizeLine) (e : EachIs R vs bs) (er : EachIs (fun v b => ∃ as, Reads s.heap v (enc b) as) vs bs) (hal : AllAlike (bs.map enc)) (hk : Sortable (bs.map enc))
    (hu : ∀ b, b ∈ bs → A.units + 2 + (enc b).depth < cLine)
    (h : ∀ (out : List Value) (h' : Heap) (p : Addr), out.length = bs.length → EachIs R out (bs.mergeSort (dataLe false enc)) → (∀ b o, s.heap.get? b = some o → b < p ∧ h'.get? b = some o) → (∃ e, h'.get? p = some (seqObj "list" out.toArray e)) → Q (.ref p) { s with heap := h' }) :
    wpAny (model prog w) A (call (.builtin "sorted") [.ref l]) Q E s := by
  refine Calls.call_function_entry kind_sorted plain_sorted entry_sorted (args_sorted1 _) ?_
  unfold Builtin.«sorted»
  refine wpAny_bind (m := checkCount "sorted" 1 1 _) (wpAny_pure ?_)
  obtain ⟨o, ho, hc, n, hd⟩ := hl
  refine wpAny_bind (wpAny_collect_seq l (.inr rfl) ho hc hd (fun h' k => ?_) (by simpa using hz))
  refine wpAny_bind (wpAny_newList ?_ hz)
  have hoL : (h'.push (seqObj "list" vs.toArray 0)).get? h'.objs.size = some (seqObj "list" vs.toArray 0) := Heap.get?_push_size _ rfl
  have keep : ∀ b u, s.heap.get? b = some u → b < h'.objs.size ∧ (h'.push (seqObj "list" vs.toArray 0)).get? b = some u := fun b u q => ⟨Heap.lt_size (k b u q), Heap.get?_push_of_some _ (k b u q)⟩
  show wpAny _ _ _ _ _ { s with heap := h'.push (seqObj "list" vs.toArray 0) }
  have er' : EachIs (fun v b => ∃ as, Reads (sortingHeap (h'.push (seqObj "list" vs.toArray 0)) h'.objs.size vs) v (enc b) as) vs bs := er.mono fun _ _ ⟨as, r⟩ => ⟨as, PyProof.Rows.Reads.keeps (fun b u q => sortingHeap_old (Nat.ne_of_lt (keep b u q).1) (keep b u q).2) r⟩
  refine wpAny_bind (wpAny_holding (wpAny_call_entry slot_list_sort ⟨_, hoL, rfl⟩ entry_list_sort (list_sort_vals (κ := dataKind (sortingHeap (h'.push (seqObj "list" vs.toArray 0)) h'.objs.size vs) (bs.map enc)) hoL (SortsAt.data (s := { s with heap := sortingHeap (h'.push (seqObj "list" vs.toArray 0)) h'.objs.size vs }) (each_map (R := fun v d => ∃ as, Reads (sortingHeap (h'.push (seqObj "list" vs.toArray 0)) h'.objs.size vs) v d as) enc er') hal hk (bound_map hu)) hz ⟨_, rfl, ?_⟩) (args_list_sort _)))
  refine wpAny_pure ⟨_, rfl, ?_⟩
  refine h _ _ h'.objs.size (by rw [sortVals_length false rfl]; exact e.length) (sortVals_data false e er' hal) (fun b u q => ⟨(keep b u q).1, ?_⟩) (sortedHeap_at (n := 0) hoL)
  have hlt := (keep b u q).1
  rw [sortedHeap_old (Nat.ne_of_lt hlt) (by rw [size_push']; exact Nat.lt_succ_of_lt hlt)]
  exact (keep b u q).2
end
end DV

namespace SrtO
open PySem PyProof.Rows Srt
section
variable {prog : Program} {w : World} {A : Around} {E : Value → Shared → Prop} {s : Shared}
/-- sorted of a tuple -/
theorem sorted_ordT {l : Addr} {vs : List Value} {ltv : Value → Value → Bool} {Q : Value → Shared → Prop} (O : Swo ltv) (hl : s.heap.IsTuple l vs.toArray) (hz : vs.length ≤ sizeLine)
    (hS : 2 ≤ vs.length → ∀ (h₁ : Heap) (a : Addr), h₁.get? a = some (seqObj "list" vs.toArray 0) → SortableO prog w A.in1.in1 { s with heap := h₁ } a vs ltv)
    (h : ∀ (out : List Value) (h' : Heap) (p : Addr), Srtd ltv out → Stb ltv out vs → (∀ b o, s.heap.get? b = some o → b < p ∧ h'.get? b = some o) → (∃ e, h'.get? p = some (seqObj "list" out.toArray e)) → Q (.ref p) { s with heap := h' }) :
    wpAny (model prog w) A (call (.builtin "sorted") [.ref l]) Q E s := by
  refine Calls.call_function_entry kind_sorted plain_sorted entry_sorted (args_sorted1 _) ?_
  unfold Builtin.«sorted»
  refine wpAny_bind (m := checkCount "sorted" 1 1 _) (wpAny_pure ?_)
  obtain ⟨o, ho, hc, n, hd⟩ := hl
  refine wpAny_bind (wpAny_collect_seq l (.inr rfl) ho hc hd (fun h' k => ?_) (by simpa using hz))
  refine wpAny_bind (wpAny_newList ?_ hz)
  have hoL : (h'.push (seqObj "list" vs.toArray 0)).get? h'.objs.size = some (seqObj "list" vs.toArray 0) := Heap.get?_push_size _ rfl
  have keep : ∀ b u, s.heap.get? b = some u → b < h'.objs.size ∧ (h'.push (seqObj "list" vs.toArray 0)).get? b = some u := fun b u q => ⟨Heap.lt_size (k b u q), Heap.get?_push_of_some _ (k b u q)⟩
  show wpAny _ _ _ _ _ { s with heap := h'.push (seqObj "list" vs.toArray 0) }
  refine wpAny_bind (wpAny_holding (wpAny_call_entry slot_list_sort ⟨_, hoL, rfl⟩ entry_list_sort (list_sort_ord O hoL hz (fun h2 => hS h2 _ _ hoL) fun out hs hb => ⟨_, rfl, ?_⟩) (args_list_sort _)))
  refine wpAny_pure ⟨_, rfl, ?_⟩
  refine h out _ h'.objs.size hs hb (fun b u q => ⟨(keep b u q).1, ?_⟩) (sortedHeap_at (n := 0) hoL)
  have hlt := (keep b u q).1
  rw [sortedHeap_old (Nat.ne_of_lt hlt) (by rw [size_push']; exact Nat.lt_succ_of_lt hlt)]
  exact (keep b u q).2
end
end SrtO
namespace DV
open PySem L2 PyProof.Rows
def insI (x : Int) : List Int → List Int
  | [] => [x]
  | y :: r => if x ≤ y then x :: y :: r else y :: insI x r
def sortI : List Int → List Int
  | [] => []
  | x :: r => insI x (sortI r)
theorem insI_perm (x : Int) : ∀ l, (insI x l).Perm (x :: l)
  | [] => .refl _
  | y :: r => by
    unfold insI
    split
    · exact .refl _
    · exact ((insI_perm x r).cons y).trans (.swap x y r)
theorem sortI_perm : ∀ l, (sortI l).Perm l
  | [] => .refl _
  | x :: r => (insI_perm x _).trans ((sortI_perm r).cons x)
theorem insI_sorted (x : Int) : ∀ l : List Int, l.Pairwise (· ≤ ·) → (insI x l).Pairwise (· ≤ ·)
  | [], _ => List.pairwise_singleton _ _
  | y :: r, h => by
    unfold insI
    obtain ⟨h1, h2⟩ := List.pairwise_cons.mp h
    split
    · rename_i e
      refine List.pairwise_cons.mpr ⟨fun z hz => ?_, h⟩
      rcases List.mem_cons.mp hz with q | q
      · subst q; exact e
      · exact Int.le_trans e (h1 z q)
    · rename_i e
      refine List.pairwise_cons.mpr ⟨fun z hz => ?_, insI_sorted x r h2⟩
      rcases List.mem_cons.mp ((insI_perm x r).mem_iff.mp hz) with q | q
      · subst q; omega
      · exact h1 z q
theorem sortI_sorted : ∀ l : List Int, (sortI l).Pairwise (· ≤ ·)
  | [] => .nil
  | x :: r => insI_sorted x _ (sortI_sorted r)
theorem sorted_uniq : ∀ {xs ys : List Int}, xs.Perm ys → xs.Pairwise (· ≤ ·) → ys.Pairwise (· ≤ ·) → xs = ys
  | [], ys, h, _, _ => h.nil_eq
  | x :: xs, [], h, _, _ => absurd h.length_eq (by simp)
  | x :: xs, y :: ys, h, hx, hy => by
    obtain ⟨a1, a2⟩ := List.pairwise_cons.mp hx
    obtain ⟨b1, b2⟩ := List.pairwise_cons.mp hy
    have e : x = y := by
      have h1 : x ≤ y := by
        rcases List.mem_cons.mp (h.mem_iff.mpr List.mem_cons_self) with q | q
        · omega
        · exact a1 _ q
      have h2 : y ≤ x := by
        rcases List.mem_cons.mp (h.mem_iff.mp List.mem_cons_self) with q | q
        · omega
        · exact b1 _ q
      omega
    subst e
    rw [sorted_uniq (List.perm_cons _ |>.mp h) a2 b2]
def rSortA0 (K : PySem.W.Frag) : List V → Hp → VK → Prop := fun vs H Q => ∃ (a : Addr) (ns : List Int), vs = [V.ref a] ∧ (SqL K H a (ns.map V.int) ∨ SqT K H a (ns.map V.int)) ∧
  ∀ p : Addr, H p = none → Q (.ref p) (upd H p (.lst ((sortI ns).map V.int)))
theorem cr_sortA0 {X : Cx} : CallR X (.builtin "sorted") (rSortA0 X.K) := by
  intro pins s σ H vs us Q I r h
  obtain ⟨a, ns, rfl, hs, q⟩ := h
  rcases hs with hs | hs
  · exact cr_sortedI pins s σ H [V.ref a] us Q I r ⟨a, ns, rfl, hs, fun ns' p h1 h2 hp => by
      have e : ns' = sortI ns := sorted_uniq (h1.trans (sortI_perm ns).symm) h2 (sortI_sorted ns)
      rw [e]
      exact q p hp⟩
  · obtain ⟨its, rv, hl, hz⟩ := I.tuple hs
    rw [Vals.ref1 r]
    have hi := rv.ints
    refine SrtO.sorted_ordT SrtO.swo_int hl (by rw [← rv.length]; exact hz) (fun h2 h₁ a' _ => SrtO.ints_sortable hi h2) fun out h' p h1 h2 kp ⟨e, he⟩ => ?_
    obtain ⟨k1, k2, k3⟩ := SrtO.ints_out hi h1 h2
    have e : out.map SrtO.iv = sortI ns := sorted_uniq (k2.trans (sortI_perm ns).symm) k3 (sortI_sorted ns)
    rw [e] at k1 k2
    have hlen : ((sortI ns).map V.int).length ≤ sizeLine := by
      rw [List.length_map, k2.length_eq]
      rw [List.length_map] at hz
      exact hz
    have hg : s.heap.get? p = none := by
      cases q : s.heap.get? p with
      | none => rfl
      | some u => exact absurd (kp p u q).1 (Nat.lt_irrefl _)
    have hn := I.hok.gone hg
    exact ⟨.ref p, upd H p (.lst ((sortI ns).map V.int)), I.laidN (t' := s.toks) (fun b o e => (kp b o e).2) hg hn ⟨hlen, out, _, vals_of_ints k1, he⟩, rfl, q _ hn⟩
/-- data of one kind -/
def rSortD (K : PySem.W.Frag) : List V → Hp → VK → Prop := fun vs H Q => ∃ (a : Addr) (xs : List V) (ds : List D), vs = [V.ref a] ∧ (SqL K H a xs ∨ SqT K H a xs) ∧ DpAll K H xs ds ∧ PySem.W.AllAlike ds ∧ PySem.W.Sortable ds ∧ (∀ d, d ∈ ds → d.depth ≤ 60) ∧
  ∀ p : Addr, H p = none → Q (.ref p) (upd H p (.lst (byKeys false xs ds)))
section
open PySem.Spec PySem.W
theorem cr_sortD {X : Cx} (hu : X.A.units + 65 < cLine) : CallR X (.builtin "sorted") (rSortD X.K) := by
  intro pins s σ H vs us Q I r h
  obtain ⟨a, xs, ds, rfl, hs, hd, hal, hk, hdp, q⟩ := h
  rw [Vals.ref1 r]
  have go : ∀ its : List Value, Vals xs its → ∃ bs : List (V × D), bs = xs.zip ds ∧ bs.map (·.2) = ds ∧ EachIs (fun v (p : V × D) => L2.RelV p.1 v) its bs ∧ EachIs (fun v (p : V × D) => ∃ as, Reads s.heap v p.2 as) its bs := fun its rv => by
    refine ⟨_, rfl, zip_snd hd.len.symm, each_zip rv hd.len.symm, ?_⟩
    have z : ∀ {xs : List V} {its : List Value} {ds : List D}, Vals xs its → DpAll X.K H xs ds → EachIs (fun v (p : V × D) => ∃ as, Reads s.heap v p.2 as) its (xs.zip ds) := fun {xs} => by
      induction xs with
      | nil => intro its ds rv hd; cases rv; exact .nil
      | cons x xs ih =>
        intro its ds rv hd
        cases rv with
        | cons r1 r2 =>
          cases hd with
          | cons h1 h2 => exact .cons (Dp.reads I _ _ _ h1 r1) (ih r2 h2)
    exact z rv hd
  rcases hs with hs | hs
  · obtain ⟨its, rv, hl, hz⟩ := I.list hs
    obtain ⟨bs, e1, e2, h1, h2⟩ := go its rv
    have hlb : bs.length ≤ sizeLine := by rw [← h1.length, ← rv.length]; exact hz
    refine sorted_data (enc := fun p : V × D => p.2) hl.isList h1 h2 (by rw [e2]; exact hal) (by rw [e2]; exact hk) hlb (fun b hb => ?_) fun out ho eo => ?_
    · have := hdp b.2 (by rw [← e2]; exact List.mem_map.mpr ⟨b, hb, rfl⟩)
      omega
    · obtain ⟨ep, he'⟩ := PyProof.Rows.sortedAll_at s.heap its (List.toArray out)
      have hv := vals_each eo
      have eb : (bs.mergeSort (dataLe false fun p : V × D => p.2)).map (·.1) = byKeys false xs ds := by unfold byKeys; rw [e1]
      rw [eb] at hv
      have hlen : (byKeys false xs ds).length ≤ sizeLine := by rw [hv.length, ho]; exact hlb
      exact ⟨.ref _, upd H (s.heap.objs.size + 1) (.lst (byKeys false xs ds)), I.laid (t' := s.toks) (fun _ _ => PyProof.Rows.sortedAll_old) (Nat.le_succ _) ⟨hlen, out, ep, hv, he'⟩, rfl, q _ (I.hok.fresh (Nat.le_succ _))⟩
  · obtain ⟨its, rv, hl, hz⟩ := I.tuple hs
    obtain ⟨bs, e1, e2, h1, h2⟩ := go its rv
    have hlb : bs.length ≤ sizeLine := by rw [← h1.length, ← rv.length]; exact hz
    refine sorted_dataT (enc := fun p : V × D => p.2) hl (by rw [← rv.length]; exact hz) h1 h2 (by rw [e2]; exact hal) (by rw [e2]; exact hk) (fun b hb => ?_) fun out h' p ho eo kp ⟨e, he⟩ => ?_
    · have := hdp b.2 (by rw [← e2]; exact List.mem_map.mpr ⟨b, hb, rfl⟩)
      omega
    · have hv := vals_each eo
      have eb : (bs.mergeSort (dataLe false fun p : V × D => p.2)).map (·.1) = byKeys false xs ds := by unfold byKeys; rw [e1]
      rw [eb] at hv
      have hlen : (byKeys false xs ds).length ≤ sizeLine := by rw [hv.length, ho]; exact hlb
      have hg : s.heap.get? p = none := by
        cases q : s.heap.get? p with
        | none => rfl
        | some u => exact absurd (kp p u q).1 (Nat.lt_irrefl _)
      have hn := I.hok.gone hg
      exact ⟨.ref p, upd H p (.lst (byKeys false xs ds)), I.laidN (t' := s.toks) (fun b o e => (kp b o e).2) hg hn ⟨hlen, out, _, hv, he⟩, rfl, q _ hn⟩
end
def rSortA (K : PySem.W.Frag) : List V → Hp → VK → Prop := fun vs H Q => rSortA0 K vs H Q ∨ rSortD K vs H Q
theorem cr_sortA {X : Cx} (hu : X.A.units + 65 < cLine) : CallR X (.builtin "sorted") (rSortA X.K) := by
  intro pins s σ H vs us Q I r h
  rcases h with h | h
  · exact cr_sortA0 pins s σ H vs us Q I r h
  · exact cr_sortD hu pins s σ H vs us Q I r h
section
variable {K : PySem.W.Frag} {R : RA}
def gSort : List RV → Option RV := c1 fun x => match items x with
  | some ds => match intsOf ds with
    | some js => some (.n ((sortI js).map PyData.int))
    | none => if okKeys ds = true then some (.n (sortK ds ds)) else none
  | none => none
theorem csem_sort : CSem K R (rSortA K) gSort := fun F H0 H rs vs xs z Q s hv e kk => by
  obtain ⟨x, rfl, ee⟩ := c1_some e
  clear e
  have e := ee
  clear ee
  obtain ⟨v, rfl, hx⟩ := hv.one
  cases e1 : items x with
  | none => rw [e1] at e; cases e
  | some ds =>
    simp only [e1] at e
    cases e2 : intsOf ds with
    | none =>
      rw [e2] at e
      by_cases hok : okKeys ds = true
      · simp only [hok, if_true] at e
        cases e
        obtain ⟨a, ws, rfl, h1, h2⟩ := hx.items s e1
        obtain ⟨k1, k2, k3⟩ := okKeys_of hok
        refine .inr ⟨a, ws, ds, rfl, h1, Dp.monoA s.fin _ _ h2, k1, k2, k3, fun l hl => ?_⟩
        obtain ⟨s4, hF, hR⟩ := Step.new_lst (vs := byKeys false ws ds) s hl
        exact kk _ F _ s4 ⟨l, _, rfl, upd_same, hl, hF, hR, sortK_data h2 h2.len.symm⟩
      · simp only [hok] at e
        cases e
    | some js =>
      rw [e2] at e
      cases e
      obtain ⟨a, ws, rfl, h1, h2⟩ := hx.items s e1
      have hw := h2.intsV e2
      subst hw
      refine .inl ⟨a, js, rfl, h1, fun l hl => ?_⟩
      obtain ⟨s4, hF, hR⟩ := Step.new_lst (vs := (sortI js).map V.int) s hl
      exact kk _ F _ s4 ⟨l, _, rfl, upd_same, hl, hF, hR, DpAll.ofInts _⟩
end
end DV

namespace DV
open PySem L2 PyProof.Rows
section
variable {X : Cx} {K : PySem.W.Frag} {R : RA} {L : Nat → Option (Addr × HO)} {E F F' H H' : Hp} {ρ ρ' : Env} {σ σ' : L2.St} {rs rs' : RS}
variable {S S' : List Nat} {tg it elt e e2 c : Expr} {es ifs : List Expr} {g : TG} {gs : TGs} {hg : D → Env → Option Env} {hgs : List D → Env → Option Env} {pos p : Pos} {st : Stmt} {body : List Stmt} {tb : TS} {tt : TT} {te t1 t2 : TE} {ta : TA} {wi : TI}
theorem ssem_set {i : Nat} {f : Env → M RV} (he : ESem K R te f) : SSem K R (tAsg te (gName i)) (sSet i f) := fun L E F ρ σ rs H o rs' D r hf k => by
  obtain ⟨x, rs1, e1, hf1⟩ := bnd_some hf
  obtain ⟨sv, rs2, e2, hf2⟩ := bnd_some hf1
  obtain ⟨e3, q3⟩ := lft_some e2
  obtain ⟨e4, q4⟩ := ret_some hf2
  subst e4 q4 q3
  exact he L E ρ σ F H rs x _ _ r e1 fun v F1 H1 s1 h1 => k _ F1 H1 (FStep.ofStep r s1) (Rel.store r s1 h1 e3 i)
theorem ds_setLc {i : Nat} {y : Str} {py spos : Pos} {scope : Scope} {own : List (Str × Nat)} {fi : Env → M (List D × Option Nat)} {tst : Env → M Bool} {el : Env → M RV} (hc : X.calm = true) (hN : X.N.Nodup) (hy : X.N[i]? = some y) (hyl : X.env.scope.names.lookup y = some .local)
    (hsw : swapsWith (.ListComp elt [⟨tg, it, ifs, 0⟩] scope pos) (some (.Name y py)) spos.line X.env = pure true) (hi : DI X R tg it wi fi) (ok : BlkOk X.N X.env.scope scope own) (hS : ∀ i ∈ S, i ∈ own.map (·.2))
    (hg' : ∀ (s : Shared) (H : Hp) (C : Addr) (cl : List (Str × Addr)) (fp : List Addr), DG (X.blk s H scope (compEnvC scope cl C X.env) fp) R S tg g hg) (ht : ∀ (s : Shared) (H : Hp) (C : Addr) (cl : List (Str × Addr)) (fp : List Addr), DTs (X.blk s H scope (compEnvC scope cl C X.env) fp) R ifs tt tst)
    (he : ∀ (s : Shared) (H : Hp) (C : Addr) (cl : List (Str × Addr)) (fp : List Addr), DE (X.blk s H scope (compEnvC scope cl C X.env) fp) R elt te el) (hs : ∀ x, foldedSetIterable it X.env x = pure x := by intro _; rfl) :
    DS X R (.Assign [.Name y py] (.ListComp elt [⟨tg, it, ifs, 0⟩] scope pos) spos) (tAsg (tLc wi g tt te (own.map (·.2))) (gName i)) (sSet i (eLc fi (own.map (·.2)) hg tst el)) :=
  ⟨ps_setLc hc hN hy hyl hsw hi.pi ok (fun s H C cl fp => (hg' s H C cl fp).pg) (fun s H C cl fp => (ht s H C cl fp).pt) (fun s H C cl fp => (he s H C cl fp).pe) hs,
    ssem_set (esem_lc hi.sem (hg' {} (fun _ => none) 0 [] []).sem hS (ht {} (fun _ => none) 0 [] []).sem (he {} (fun _ => none) 0 [] []).sem)⟩
def rg1F (f : Env → M RV) : Env → M (Int × Int) := fun ρ => bnd (f ρ) fun x => bnd (lft (asInt x)) fun n => ret (0, n)
def okRg (a b : Int) : Bool := decide (-1000000 ≤ a) && (decide (a ≤ 1000000) && (decide (-1000000 ≤ b) && decide (b ≤ 1000000)))
def eListRg (f : Env → M (Int × Int)) : Env → M RV := fun ρ => bnd (f ρ) fun x => if okRg x.1 x.2 = true then ret (.n (rngD x.1 (x.2 - x.1).toNat)) else fail
def eTupRg (f : Env → M (Int × Int)) : Env → M RV := fun ρ => bnd (f ρ) fun x => if okRg x.1 x.2 = true then ret (.d (.tuple (rngD x.1 (x.2 - x.1).toNat))) else fail
end
end DV



namespace DV
open PySem L2 PyProof.Rows
section
variable {X : Cx} {K : PySem.W.Frag} {R : RA} {L : Nat → Option (Addr × HO)} {E F F' H H' : Hp} {ρ ρ' : Env} {σ σ' : L2.St} {rs rs' : RS}
variable {S S' : List Nat} {tg it elt e e2 c : Expr} {es ifs : List Expr} {g : TG} {gs : TGs} {hg : D → Env → Option Env} {hgs : List D → Env → Option Env} {pos p : Pos} {st : Stmt} {body : List Stmt} {tb : TS} {tt : TT} {te t1 t2 : TE} {ta : TA} {wi : TI}
/-- the lists of one's own stand already in H -/
def OwnOld (H : Hp) (ρ : Env) (σ : L2.St) : Prop := ∀ (m : Nat) (y : SV) (a : Addr), ρ[m]? = some (some y) → y.ow → σ[m]? = some (some (V.ref a)) → H a ≠ none
theorem Rel.known (r : Rel K R L E F ρ σ rs H) : OwnOld H ρ σ := fun m y a e1 oy e2 => by
  obtain ⟨u, h1, _⟩ := r.own_at e1 oy e2
  rw [h1]
  exact fun q => nomatch q
theorem OwnOld.step (k : OwnOld H ρ σ) (s : Step K R rs' F H F' H') (r : RowOk K R rs F H) : OwnOld H' ρ σ := fun m es a e1 oy e2 q => k m es a e1 oy e2 (s.back r q)
theorem OwnOld.set {H0 : Hp} {F1 : Hp} (k : OwnOld H ρ σ) (hl : ρ.length = σ.length) {v : V} {x : RV} {sv : SV} (hv : VR K R F1 H0 H v x) (e : toS x = some sv) (i : Nat) : OwnOld H (ρ.set i (some sv)) (σ.set i (some v)) := fun m es a e1 oy e2 => by
  by_cases hm : m = i
  · subst hm
    have h1 : m < ρ.length := by
      have := (List.getElem?_eq_some_iff.mp e1).1
      rw [List.length_set] at this
      exact this
    rw [List.getElem?_set_self h1] at e1
    rw [List.getElem?_set_self (by rw [← hl]; exact h1)] at e2
    have q1 := Option.some.inj (Option.some.inj e1)
    have q2 := Option.some.inj (Option.some.inj e2)
    subst q1 q2
    cases x with
    | d y => cases e; cases oy
    | n y =>
      obtain ⟨b, vs, eb, hb, _⟩ := hv
      cases eb
      rw [hb]
      exact fun q => nomatch q
    | gn y =>
      obtain ⟨b, vs, eb, hb, _⟩ := hv
      cases eb
      rw [hb]
      exact fun q => nomatch q
    | b y => cases e
    | gb y => cases e
    | row => cases e
  · rw [List.getElem?_set_ne (Ne.symm hm)] at e1 e2
    exact k m es a e1 oy e2
/-- a new thing is none of the known ones -/
theorem OwnOld.apart (k : OwnOld H ρ σ) {H1 : Hp} {v : V} {i : Nat} (a : Addr) (u : HO) (_ : v = .ref a) (_ : H1 a = some u) (h0 : H a = none) (j : Nat) (y : SV) (_ : j ≠ i) (e1 : ρ[j]? = some (some y)) (oy : y.ow) (e2 : σ[j]? = some (some (V.ref a))) : False := k j y a e1 oy e2 h0
def sPar3 (i j l : Nat) (fa : Env → M (List RV)) : Env → M Out := fun ρ => bnd (fa ρ) fun xs => match xs with
  | [x, y, z] => bnd (lft (toS x)) fun sx => bnd (lft (toS y)) fun sy => bnd (lft (toS z)) fun sz => ret (.nx (((ρ.set i (some sx)).set j (some sy)).set l (some sz)))
  | _ => fail
end
end DV

namespace DV
open PySem L2 PyProof.Rows
def ddI : List Int → List Int
  | [] => []
  | x :: r => if r.elem x = true then ddI r else x :: ddI r
theorem ddI_of_nodup : ∀ l : List Int, l.Nodup → ddI l = l
  | [], _ => rfl
  | x :: r, h => by
    obtain ⟨h1, h2⟩ := List.nodup_cons.mp h
    unfold ddI
    rw [if_neg (fun q => h1 (List.elem_iff.mp q)), ddI_of_nodup r h2]
section
variable {X : Cx} {K : PySem.W.Frag} {R : RA}
def lenSetOf : RV → Option D
  | .d (.tuple ds) => match intsOf ds with
    | some js => if js.length ≤ 1000 then some (.int ((ddI js).length : Nat)) else none
    | none => none
  | x => match items x with
    | some ds => match intsOf ds with
      | some js => if js.length ≤ 1000 ∧ js.Nodup then some (.int ((ddI js).length : Nat)) else none
      | none => none
    | none => none
theorem VR.isL {F H0 H : Hp} {rs : RS} {v : V} {x : RV} {ds : List D} (s : Step K R rs F H F H) (h : VR K R F H0 H v x) (e : DV.items x = some ds) (hx : ∀ es, x ≠ .d (.tuple es)) : ∃ a vs, v = .ref a ∧ SqL K H a vs ∧ DpAll K F vs ds := by
  cases x with
  | d x =>
    cases x with
    | list es =>
      cases e
      cases h with
      | lst h1 h2 => exact ⟨_, _, rfl, ex_l (s.fin _) h1, h2⟩
    | tuple es => exact absurd rfl (hx es)
    | none => cases e
    | bool _ => cases e
    | int _ => cases e
    | str _ => cases e
    | dict _ => cases e
  | b es =>
    cases e
    obtain ⟨a, vs, rfl, h1, _, h3⟩ := h
    exact ⟨a, vs, rfl, .inl (.inl h1), h3⟩
  | n es =>
    cases e
    obtain ⟨a, vs, rfl, h1, _, _, _, h3⟩ := h
    exact ⟨a, vs, rfl, .inl (.inl h1), h3⟩
  | gb _ => cases e
  | gn _ => cases e
  | row => cases e
theorem VR.isTup {F H0 H : Hp} {rs : RS} {v : V} {ds : List D} (s : Step K R rs F H F H) (h : VR K R F H0 H v (.d (.tuple ds))) : ∃ a vs, v = .ref a ∧ SqT K H a vs ∧ DpAll K F vs ds := by
  cases h with
  | tup h1 h2 => exact ⟨_, _, rfl, ex_t (s.fin _) h1, h2⟩
def eLenSet (f : Env → M RV) : Env → M RV := fun ρ => bnd (f ρ) fun x => bnd (lft (lenSetOf x)) fun d => ret (.d d)
end
end DV

namespace DV
open PySem L2 PyProof.Rows
section
variable {X : Cx} {K : PySem.W.Frag} {R : RA}
def sortSetOf : RV → Option (List Int)
  | .d (.tuple ds) => match intsOf ds with
    | some js => if js.length < 64 then some (sortI (ddI js)) else none
    | none => none
  | _ => none
def eSortSet (f : Env → M RV) : Env → M RV := fun ρ => bnd (f ρ) fun x => bnd (lft (sortSetOf x)) fun js => ret (.n (js.map PyData.int))
end
end DV

namespace DV
open PySem L2 PyProof.Rows
section
variable {X : Cx} {K : PySem.W.Frag} {R : RA} {L : Nat → Option (Addr × HO)} {E F F' H H' : Hp} {ρ ρ' : Env} {σ σ' : L2.St} {rs rs' : RS}
variable {S S' : List Nat} {tg it elt e e2 c : Expr} {es ifs : List Expr} {g : TG} {gs : TGs} {hg : D → Env → Option Env} {hgs : List D → Env → Option Env} {pos p : Pos} {st : Stmt} {body : List Stmt} {tb : TS} {tt : TT} {te t1 t2 : TE} {ta : TA} {wi : TI}
theorem rs_sub : RSem K R (rI0 fun i j => .int (i - j)) gSubI := rsem_I0 fun F i j => .int _
theorem rs_fdiv : RSem K R (rI CDiv fun i j => .int (i / j)) gFdiv := rsem_I cDiv_ok fun F i j => .int _
theorem rs_mod : RSem K R (rI (fun _ j => 0 < j) fun i j => .int (i % j)) gMod := rsem_I (fun i j h => of_decide_eq_true h) fun F i j => .int _
theorem rs_pow : RSem K R (rI CPow fun i j => .int (i ^ j.toNat)) gPow := rsem_I cPow_ok fun F i j => .int _
theorem rs_lt : RSem K R (rI0 fun i j => .bl (decide (i < j))) gLt := rsem_I0 fun F i j => .bl _
theorem rs_le : RSem K R (rI0 fun i j => .bl (decide (i ≤ j))) gLe := rsem_I0 fun F i j => .bl _
theorem rs_gt : RSem K R (rI0 fun i j => .bl (decide (j < i))) gGt := rsem_I0 fun F i j => .bl _
theorem rs_ge : RSem K R (rI0 fun i j => .bl (decide (j ≤ i))) gGe := rsem_I0 fun F i j => .bl _
abbrev gIs := gIsN false
abbrev gIsNot := gIsN true
theorem rm65 {k : Nat} {A : Around} (r : Room k A) : A.units + 65 < cLine := by have := r.un; omega
theorem rm64 {k : Nat} {A : Around} (r : Room k A) : A.units + 64 < cLine := r.units
/-- a def that may be called -/
def Cal (P : Program) (w : World) (K : PySem.W.Frag) (mg : Str → Option Value) (base : Heap) (x : Str) (k : Nat) (ps : List Str) (np : Nat) (m : List RV → M RV) : Prop :=
  ∃ (f : Addr) (fd : FuncData), FnOk P w K mg base CX0 k f fd ps (spFn K np m) ∧ mg x = some (.ref f) ∧ PySem.W.keepIn K (.ref f) = true ∧ Binds K fd ps []
theorem de_call {k : Nat} {ps : List Str} {np : Nat} {m : List RV → M RV} {x : Str} {fa : Env → M (List RV)} {k' : Nat} (C : Cal X.prog X.w X.K X.mg X.base x k ps np m) (hr : Room k' X.A) (hk' : k ≤ k') (hgl : Gl X x) (ha : DA X R (e :: es) ta fa)
    (hdb : (x == ("__debug__" : Str)) = false := by decide) (he : starEach (e :: es) X.env = (false, eval e X.env) :: starEach es X.env := by rfl) (hpl : (backTo pos (starEach es X.env)).any (·.1) = false := by rfl) :
    DE X R (.Call (.Name x p) (e :: es) [] pos) (tCall (spFn X.K np m) [] E0 ta) (eFn (fun xs => if xs.length = np then m xs else fail) fa) := by
  obtain ⟨f, fd, h1, h2, h3, h4⟩ := C
  exact de_fn h1 hr hk' hgl h2 h3 h4 ha hdb he hpl
theorem de_gI {x : Str} {i : Int} (hg : Gl X x) (hm : ∃ tk, X.mg x = some (.int i tk)) (hd : (x == ("__debug__" : Str)) = false := by decide) : DE X R (.Name x pos) (tC (.int i)) (eC (.int i)) := by
  obtain ⟨tk, h⟩ := hm
  exact de_globI hg h hd
theorem Step.new_o {o : HO} {q : Addr} (s : Step K R rs F H F H) (hp : H q = none) : Step K R rs F H F (upd H q o) := by
  have hr : some q ≠ R.row := fun z => by
    obtain ⟨a, e, _⟩ := s.row.at_ q z.symm
    rw [hp] at e; cases e
  refine ⟨fun a u h _ _ => by rw [upd_ne (ne_of_none h hp)]; exact h, fun _ _ h => h, fun _ _ h => .inl h, fun a u h => by rw [upd_ne (ne_of_none (s.fin a u h) hp)]; exact s.fin a u h, ⟨fun r e => ?_, tabs_upd s.row.tab (.inl hp), s.row.fnt⟩, s.rF⟩
  obtain ⟨a, e1, h1, h3⟩ := s.row.at_ r e
  exact ⟨a, by rw [upd_ne (ne_of_none e1 hp)]; exact e1, h1, h3⟩
theorem ds_tup3L {i j l : Nat} {x y z : Str} {a b c : Expr} {fa fb fc : Env → M RV} {tA tB tC' : TE} {px py pz pt : Pos} {kt k2 pt2} (hc : X.calm = true) (hN : X.N.Nodup) (hi : X.N[i]? = some x) (hj : X.N[j]? = some y) (hl : X.N[l]? = some z)
    (hx : Loc X.env.scope x) (hy : Loc X.env.scope y) (hz : Loc X.env.scope z) (ha : DE X R a tA fa) (hb : DE X R b tB fb) (hcc : DE X R c tC' fc)
    (hw : swappedStores [.Tuple [.Name x px, .Name y py, .Name z pz] kt pt] (.Tuple [a, b, c] k2 pt2) X.env = pure none) (hs : swapsWithSole [.Tuple [.Name x px, .Name y py, .Name z pz] kt pt] (.Tuple [a, b, c] k2 pt2) pos.line X.env = pure false := by rfl)
    (hq1 : starEach [a, b, c] X.env = (false, eval a X.env) :: starEach [b, c] X.env := by rfl) (hq2 : starEach [b, c] X.env = (false, eval b X.env) :: starEach [c] X.env := by rfl) (hq3 : starEach [c] X.env = (false, eval c X.env) :: starEach [] X.env := by rfl)
    (hfx : X.fn x = true ∨ X.env.scope.names.lookup x = some .local := by first | exact .inl rfl | exact .inr rfl) (hfy : X.fn y = true ∨ X.env.scope.names.lookup y = some .local := by first | exact .inl rfl | exact .inr rfl) (hfz : X.fn z = true ∨ X.env.scope.names.lookup z = some .local := by first | exact .inl rfl | exact .inr rfl)
    (hn : (assignEach [.Name x px, .Name y py, .Name z pz] X.env).length = 3 := by rfl) (hst : (assignEach [.Name x px, .Name y py, .Name z pz] X.env).findIdx? (·.1) = none := by rfl)
    (hs1 : (assignEach [.Name x px, .Name y py, .Name z pz] X.env).map (·.2) = assign (.Name x px) X.env :: (assignEach [.Name y py, .Name z pz] X.env).map (·.2) := by rfl) (hs2 : (assignEach [.Name y py, .Name z pz] X.env).map (·.2) = assign (.Name y py) X.env :: (assignEach [.Name z pz] X.env).map (·.2) := by rfl)
    (hs3 : (assignEach [.Name z pz] X.env).map (·.2) = assign (.Name z pz) X.env :: (assignEach [] X.env).map (·.2) := by rfl)
    (h1 : (assignEach [.Tuple [.Name x px, .Name y py, .Name z pz] kt pt] X.env).map (·.2) = [assign (.Tuple [.Name x px, .Name y py, .Name z pz] kt pt) X.env] := by rfl) :
    DS X R (.Assign [.Tuple [.Name x px, .Name y py, .Name z pz] kt pt] (.Tuple [a, b, c] k2 pt2) pos) (tAsg (tTup (tCons tA (tCons tB (tCons tC' tNil)))) (gTup X.K 3 (gCons (gName i) (gCons (gName j) (gCons (gName l) gNil))))) (sPar3 i j l (aCons fa (aCons fb (aCons fc aNil)))) :=
  ⟨ps_asg (pe_tup (pa_cons ha.pe (pa_cons hb.pe (pa_cons hcc.pe pa_nil hq3) hq2) hq1)) (pg_tup hc (pgs_cons (pg_name hN hi hx hfx) (pgs_cons (pg_name hN hj hy hfy) (pgs_cons (pg_name hN hl hz hfz) pgs_nil hs3) hs2) hs1) hn hst) hs hw h1, fun L E F ρ σ rs H o rs' D r hf k => by
    obtain ⟨xs, rs1, e1, hf1⟩ := bnd_some hf
    obtain ⟨x1, rs2, e2, hf2⟩ := bnd_some e1
    obtain ⟨ys, rs3, e3, hf3⟩ := bnd_some hf2
    obtain ⟨x2, rs4, e4, hf4⟩ := bnd_some e3
    obtain ⟨zs, rs5, e5, hf5⟩ := bnd_some hf4
    obtain ⟨x3, rs6, e6, hf6⟩ := bnd_some e5
    obtain ⟨ws, rs7, e7, hf7⟩ := bnd_some hf6
    obtain ⟨e8, q8⟩ := ret_some e7
    obtain ⟨e9, q9⟩ := ret_some hf7
    obtain ⟨e10, q10⟩ := ret_some hf5
    obtain ⟨e11, q11⟩ := ret_some hf3
    subst e8 q8 e9 q9 e10 q10 e11 q11
    obtain ⟨sx, rs12, e12, hf12⟩ := bnd_some hf1
    obtain ⟨e13, q13⟩ := lft_some e12
    obtain ⟨sy, rs14, e14, hf14⟩ := bnd_some hf12
    obtain ⟨e15, q15⟩ := lft_some e14
    obtain ⟨sz, rs16, e16, hf16⟩ := bnd_some hf14
    obtain ⟨e17, q17⟩ := lft_some e16
    obtain ⟨e18, q18⟩ := ret_some hf16
    subst e18 q18 q17 q15 q13
    refine ha.sem L E ρ σ F H rs x1 rs2 _ r e2 fun v1 F1 H1 s1 h1 => ?_
    have r1 := r.step s1
    refine hb.sem L E ρ σ F1 H1 rs2 x2 _ _ r1 e4 fun v2 F2 H2 s2 h2 => ?_
    have r2 := r1.step s2
    refine hcc.sem L E ρ σ F2 H2 _ x3 _ _ r2 e6 fun v3 F3 H3 s3 h3 => ?_
    have r3 := r2.step s3
    refine ⟨by show 3 ≤ sizeLine; exact sz_of (by decide), fun q hq => ?_⟩
    have s4 := Step.new_o (o := .tup [v1, v2, v3]) r3.refl hq
    refine ⟨q, [v1, v2, v3], rfl, .inl (.inl upd_same), rfl, v1, [v2, v3], rfl, v2, [v3], rfl, v3, [], rfl, rfl, ?_⟩
    have s12 := s1.trans r.row s2
    have s123 := s12.trans r.row s3
    have s1234 := s123.trans r.row s4
    have q1 := Rel.store r s1234 (((h1.step s2).step s3).step s4) e13 i
    have k1 := (Rel.known r1).set r1.len h1 e13 i
    have q2 := Rel.store2 r1 q1 ((h2.step s3).step s4) e15 j fun a u ev hl h0 => k1.apart a u ev hl h0
    have k2 : OwnOld H2 ((ρ.set i (some sx)).set j (some sy)) ((σ.set i (some v1)).set j (some v2)) := (k1.step s2 r1.row).set (by rw [List.length_set, List.length_set]; exact r1.len) h2 e15 j
    have q3 := Rel.store2 r2 q2 (h3.step s4) e17 l fun a u ev hl h0 => k2.apart a u ev hl h0
    exact k _ F3 _ (FStep.ofStep r s1234) q3⟩
end
end DV
namespace DV
open PySem L2
section
variable {X : Cx} {R : RA} {e ei : Expr} {te ti : TE} {f g : Env → M RV} {pos : Pos}
abbrev ePart (f : Env → M RV) : Env → M (Option Int) := fun ρ => bnd (f ρ) fun x => bnd (lft (asInt x)) fun i => ret (some i)
theorem ds_appendF {i : Nat} {x : Str} {apos p1 spos : Pos} (he : DE X R e te f) (pe : PE X e te → PE X (.Call (.Attribute (.Name x p1) "append" apos) [e] [] pos) (tBM X.K "list" rAppend (tVar i) (tCons te tNil))) (hN : X.N[i]? = some x := by rfl) (hv : Vis X.env.scope x := by first | exact Or.inl rfl | exact Or.inr (Or.inl rfl) | exact Or.inr (Or.inr rfl)) (hd : (x == ("__debug__" : Str)) = false := by decide)
    (hcd : (x == ("__classdict__" : Str)) = false := by decide) (hs : swapsWith (.Call (.Attribute (.Name x p1) "append" apos) [e] [] pos) none spos.line X.env = pure false := by rfl) :
    DS X R (.Expr (.Call (.Attribute (.Name x p1) "append" apos) [e] [] pos) spos) (tDrop (tBM X.K "list" rAppend (tVar i) (tCons te tNil))) (sApp i f) := ds_append he hN hv hd hcd (pe he.pe) hs
theorem ds_putF {i : Nat} {x : Str} {p1 spos : Pos} (he : DE X R e te f) (hi : DE X R ei ti g) (hpg : PE X ei ti → PG X (.Subscript (.Name x p1) ei pos) (gSub (tVar i) ti rSetL)) (hN : X.N[i]? = some x := by rfl) (hv : Vis X.env.scope x := by first | exact Or.inl rfl | exact Or.inr (Or.inl rfl) | exact Or.inr (Or.inr rfl)) (hd : (x == ("__debug__" : Str)) = false := by decide)
    (hcd : (x == ("__classdict__" : Str)) = false := by decide) (hs : swapsWithSole [.Subscript (.Name x p1) ei pos] e spos.line X.env = pure false := by rfl) (hw : swappedStores [.Subscript (.Name x p1) ei pos] e X.env = pure none := by rfl)
    (h1 : (assignEach [.Subscript (.Name x p1) ei pos] X.env).map (·.2) = [assign (.Subscript (.Name x p1) ei pos) X.env] := by rfl) : DS X R (.Assign [.Subscript (.Name x p1) ei pos] e spos) (tAsg te (gSub (tVar i) ti rSetL)) (sPut i f g) := ds_put he hi hN hv hd hcd (hpg hi.pe) hs hw h1
end
end DV

namespace DV
open PySem L2 PyProof.Rows
section
variable {X : Cx} {K : PySem.W.Frag} {R : RA} {L : Nat → Option (Addr × HO)} {E F F' H H' : Hp} {ρ ρ' : Env} {σ σ' : L2.St} {rs rs' : RS}
variable {S S' : List Nat} {tg it elt e e2 c : Expr} {es ifs : List Expr} {g : TG} {gs : TGs} {hg : D → Env → Option Env} {hgs : List D → Env → Option Env} {pos p : Pos} {st : Stmt} {body : List Stmt} {tb : TS} {tt : TT} {te t1 t2 : TE} {ta : TA} {wi : TI}
def rowCell (k : Nat) (rs : RS) : Option D := match k with
  | 0 => some (.list (rs.ns.map PyData.int))
  | 1 => some (.int (rs.i : Int))
  | 2 => some (.int rs.s)
  | 3 => some (.int rs.c)
  | _ => none
def eRow (i k : Nat) : Env → M RV := fun ρ => bnd (lft (vget ρ i)) fun x => match x with
  | .row => fun rs => match rowCell k rs with
    | some d => some (.d d, rs)
    | none => none
  | _ => fail
theorem rowCell_at {a : Addr} {d : D} {k : Nat} (h : rowCell k rs = some d) (hs : SqL K F a (rs.ns.map V.int)) : ∃ v, [V.ref a, .int (rs.i : Int), .int rs.s, .int rs.c][k]? = some v ∧ Dp K F v d := by
  match k, h with
  | 0, h => cases h; exact ⟨_, rfl, .lst hs (DpAll.ofInts _)⟩
  | 1, h => cases h; exact ⟨_, rfl, .int _⟩
  | 2, h => cases h; exact ⟨_, rfl, .int _⟩
  | 3, h => cases h; exact ⟨_, rfl, .int _⟩
theorem de_row (i k : Nat) {x : Str} {j : Nat} {p2 : Pos} (hv' : DE X R (.Name x p) (tVar i) (eVar i)) (hs : PlainIx (.Constant (.int (k : Int)) j p2) := by exact fun _ _ => rfl) :
    DE X R (.Subscript (.Name x p) (.Constant (.int (k : Int)) j p2) pos) (tOp (rIx X.K) (tVar i) (tC (.int (k : Int)))) (eRow i k) := ⟨(de_ix hv' (de_int (R := R)) hs).pe, fun L E ρ σ F H rs x rs' Q r hf kk => by
  obtain ⟨y, rs1, e1, hf1⟩ := bnd_some hf
  obtain ⟨e2, q2⟩ := lft_some e1
  subst q2
  cases y with
  | row =>
    obtain ⟨v, ev, hv⟩ := r.get e2
    obtain ⟨r0, eR, rfl⟩ := hv
    have hf2 : (match rowCell k rs1 with | some d => some (RV.d d, rs1) | none => none) = some (x, rs') := hf1
    cases e3 : rowCell k rs1 with
    | none => rw [e3] at hf2; cases hf2
    | some d =>
      rw [e3] at hf2
      cases hf2
      obtain ⟨a, h1, h2, h3⟩ := r.row.at_ r0 eR
      obtain ⟨w, ew, hw⟩ := rowCell_at e3 h2
      refine ⟨_, ev, .inl ⟨r0, _, (k : Int), w, rfl, rfl, .inl (.inl h1), atI_nat ew, kk w F H r.refl hw⟩⟩
  | d _ => cases hf1
  | b _ => cases hf1
  | n _ => cases hf1
  | gb _ => cases hf1
  | gn _ => cases hf1⟩
def rowPut (k : Nat) (v : Int) (rs : RS) : Option RS := match k with
  | 1 => if 0 ≤ v then some { rs with i := v.toNat } else none
  | 2 => some { rs with s := v }
  | 3 => some { rs with c := v }
  | _ => none
def sRowPut (i k : Nat) (f : Env → M RV) : Env → M Out := fun ρ => bnd (f ρ) fun x => bnd (lft (asInt x)) fun v => bnd (lft (vget ρ i)) fun y => match y with
  | .row => fun rs => match rowPut k v rs with
    | some rs' => some (.nx ρ, rs')
    | none => none
  | _ => fail
theorem rowPut_at {a : Addr} {v : Int} {k : Nat} (h : rowPut k v rs = some rs') : rs'.ns = rs.ns ∧ ixN [V.ref a, .int (rs.i : Int), .int rs.s, .int rs.c].length (k : Int) = some k ∧
    [V.ref a, .int (rs.i : Int), .int rs.s, .int rs.c].set k (.int v) = [V.ref a, .int (rs'.i : Int), .int rs'.s, .int rs'.c] := by
  match k, h with
  | 1, h =>
    unfold rowPut at h
    by_cases hv : 0 ≤ v
    · rw [if_pos hv] at h
      cases h
      refine ⟨rfl, rfl, ?_⟩
      show [V.ref a, .int v, .int rs.s, .int rs.c] = [V.ref a, .int (v.toNat : Int), .int rs.s, .int rs.c]
      rw [Int.toNat_of_nonneg hv]
    · rw [if_neg hv] at h
      cases h
  | 2, h => cases h; exact ⟨rfl, rfl, rfl⟩
  | 3, h => cases h; exact ⟨rfl, rfl, rfl⟩
theorem Rel.rowput (r : Rel K R L E F ρ σ rs H) {r0 a : Addr} (eR : R.row = some r0) (hn : rs'.ns = rs.ns) (h2 : SqL K F a (rs.ns.map V.int)) (h3 : rs.ns.length ≤ 63) : Rel K R L E F ρ σ rs' (upd H r0 (.lst [V.ref a, .int (rs'.i : Int), .int rs'.s, .int rs'.c])) where
  len := r.len
  ent := r.ent
  ex := fun b o e => by
    have hb : b ≠ r0 := fun q => by
      have := (r.rE r0 eR).1
      rw [← q, e] at this
      cases this
    rw [upd_ne hb]
    exact r.ex b o e
  fr := fun b o e => by
    have hb : b ≠ r0 := fun q => by
      have := (r.rE r0 eR).2
      rw [← q, e] at this
      cases this
    rw [upd_ne hb]
    exact r.fr b o e
  row := ⟨fun r1 e1 => by
    rw [eR] at e1
    cases e1
    exact ⟨a, upd_same, by rw [hn]; exact h2, by rw [hn]; exact h3⟩, tabs_upd r.row.tab (.inr (by
      obtain ⟨_, h, _⟩ := r.row.at_ r0 eR
      exact ⟨_, h⟩)), r.row.fnt⟩
  rE := r.rE
  lk := r.lk
  sl := fun i sv e => by
    obtain ⟨v, ev, q⟩ := r.sl i sv e
    refine ⟨v, ev, ?_⟩
    cases sv with
    | d x => exact q
    | k ds => exact q
    | row => exact q
    | o ds =>
      obtain ⟨b, vs, e1, h1, g2, g3, g4, g5⟩ := q
      refine ⟨b, vs, e1, ?_, g2, g3, g4, g5⟩
      rw [upd_ne (fun z => g4 (by rw [eR, z]))]
      exact h1
    | g ds =>
      obtain ⟨b, vs, e1, h1, g2, g3, g4, g5⟩ := q
      refine ⟨b, vs, e1, ?_, g2, g3, g4, g5⟩
      rw [upd_ne (fun z => g4 (by rw [eR, z]))]
      exact h1
    | un => exact trivial
    | ex _ _ => exact q
    | fn _ => exact q
    | lm => exact q
    | m _ => exact q
  own := r.own
theorem ds_rowPut (i k : Nat) {x : Str} {j : Nat} {p1 p2 : Pos} {f : Env → M RV} (he : DE X R e te f) (hv' : DE X R (.Name x p1) (tVar i) (eVar i)) (hpg : PG X (.Subscript (.Name x p1) (.Constant (.int (k : Int)) j p2) pos) (gSub (tVar i) (tC (.int (k : Int))) rSetL))
    {spos : Pos} (hs : swapsWithSole [.Subscript (.Name x p1) (.Constant (.int (k : Int)) j p2) pos] e spos.line X.env = pure false := by rfl) (hw : swappedStores [.Subscript (.Name x p1) (.Constant (.int (k : Int)) j p2) pos] e X.env = pure none := by rfl)
    (h1 : (assignEach [.Subscript (.Name x p1) (.Constant (.int (k : Int)) j p2) pos] X.env).map (·.2) = [assign (.Subscript (.Name x p1) (.Constant (.int (k : Int)) j p2) pos) X.env] := by rfl) :
    DS X R (.Assign [.Subscript (.Name x p1) (.Constant (.int (k : Int)) j p2) pos] e spos) (tAsg te (gSub (tVar i) (tC (.int (k : Int))) rSetL)) (sRowPut i k f) := ⟨ps_asg he.pe hpg hs hw h1, fun L E F ρ σ rs H o rs' D r hf kk => by
  obtain ⟨x, rs1, e1, hf1⟩ := bnd_some hf
  obtain ⟨v, rs2, e2, hf2⟩ := bnd_some hf1
  obtain ⟨e3, q3⟩ := lft_some e2
  obtain ⟨y, rs4, e4, hf4⟩ := bnd_some hf2
  obtain ⟨e5, q5⟩ := lft_some e4
  subst q5 q3
  cases y with
  | row =>
    have hf5 : (match rowPut k v rs4 with | some rs' => some (Out.nx ρ, rs') | none => none) = some (o, rs') := hf4
    cases e6 : rowPut k v rs4 with
    | none => rw [e6] at hf5; cases hf5
    | some rs6 =>
      rw [e6] at hf5
      cases hf5
      refine he.sem L E ρ σ F H rs x _ _ r e1 fun w F1 H1 s1 h1 => ?_
      have hwi := h1.int e3
      subst hwi
      have r1 := r.step s1
      obtain ⟨u, eu, hu⟩ := r1.get e5
      obtain ⟨r0, eR, rfl⟩ := hu
      obtain ⟨a, g1, g2, g3⟩ := r1.row.at_ r0 eR
      obtain ⟨n1, n2, n3⟩ := rowPut_at (a := a) e6
      refine ⟨_, eu, r0, _, (k : Int), k, rfl, rfl, g1, n2, ?_⟩
      rw [n3]
      exact kk σ F1 _ (FStep.ofStep r s1) (r1.rowput eR n1 g2 g3)
  | d _ => cases hf4
  | b _ => cases hf4
  | n _ => cases hf4
  | gb _ => cases hf4
  | gn _ => cases hf4⟩

def spLaw (K : PySem.W.Frag) : Sp := fun vs H Q _ => ∃ (a : Addr) (ns : List Int), vs = [.ref a] ∧ LamX.Tabs (tabsOf K) H ∧ SqL K H a (ns.map V.int) ∧ ns.length ≤ 63 ∧ ∀ H', Q (.bl true) H'
/-- the law's names behind the row's making -/
def lawE (n : Nat) : Env := none :: some .row :: List.replicate (n - 2) none
theorem law_ok {P : Program} {w : World} {mg : Str → Option Value} {base : Heap} {x qual : Str} {st : Stmt} {f : Addr} {fd : FuncData} {N : List Str} {k : Nat} {g : Env → M Out} {y : Str} {seed : Int} {s0 : Stmt} {rest : List Stmt} (Fn : Fun K x qual st f fd) (S : FnScope N [y] (defScope st)) (hN : 2 ≤ N.length)
    (hbd : defBody st = s0 :: rest)
    (hbody : ∀ (cdv : Value) (A : Around) (outer : List PySem.Env) (s : Shared) (H : Hp) (E : XK), Room k (A.deeper (envOfC qual (defScope st) s.heap.objs.size f cdv)) →
      PS (cxOf CX0 P w K mg base N qual (defScope st) f cdv A outer s H E).nox s0 (tAsg (tLst (tCons (tVar 0) (tCons (tC (.int 0)) (tCons (tC (.int seed)) (tCons (tC (.int 0)) tNil))))) (gName 1)) ∧
      ∃ t, ∀ R, DSs (cxOf CX0 P w K mg base N qual (defScope st) f cdv A outer s H E).nox R rest t g)
    (hlaw : ∀ ns : List Int, ns.length ≤ 63 → ∃ rs', g (lawE N.length) ⟨ns, 0, seed, 0⟩ = some (.rt (.d (.bool true)), rs')) : FnOk P w K mg base CX0 (k + 1) f fd [y] (spLaw K) := by
  refine Fn.ok S (fun vs H Q E h => ?_) (fun cdv A outer s H vs Q E hr h => ?_)
  · obtain ⟨a, ns, rfl, _⟩ := h
    rfl
  · obtain ⟨a, ns, rfl, hT, hS0, hlen, q⟩ := h
    obtain ⟨h0, t, ht⟩ := hbody cdv A outer s H E hr
    rw [hbd]
    refine ⟨_, pss_cons h0 (ht ⟨none, none⟩).ps, ?_⟩
    obtain ⟨rs', hl⟩ := hlaw ns hlen
    have hst : L2.start N [V.ref a] = some (V.ref a) :: List.replicate (N.length - 1) none := rfl
    rw [hst]
    refine ⟨V.ref a, rfl, ?_⟩
    refine ⟨by show 4 ≤ sizeLine; exact sz_of (by decide), fun r hr0 => ?_⟩
    have hNl : N.length - 1 = (N.length - 2) + 1 := by omega
    have hF : ∀ b o, entE K ⟨none, none⟩ H b = some o → (upd H r (.lst [V.ref a, .int 0, .int seed, .int 0])) b = some o := fun b o e => by
      have e := (entE_of e).2.2
      rw [upd_ne (ne_of_none e hr0)]
      exact e
    have hX : ∀ b o, entE K ⟨none, none⟩ H b = some o → Fx K b o := fun b o e => .inr fun n z => (entE_of e).2.1 ⟨n, z⟩
    have hN0 : entE K ⟨none, none⟩ H r = none := by
      cases e : entE K ⟨none, none⟩ H r with
      | none => rfl
      | some o =>
        have e2 := (entE_of e).2.2
        rw [hr0] at e2
        cases e2
    have hS : SqL K (entE K ⟨none, none⟩ H) a (ns.map V.int) := by
      by_cases t : tbAt K a
      · obtain ⟨n, t⟩ := t
        obtain ⟨ps, et⟩ := tabs_at hT t
        rcases hS0 with (z | ⟨o, z⟩) | z
        · rw [et] at z; cases z
        · rw [et] at z; cases z
        · exact .inr z
      · exact ex_l (fun o e => (entE_at (R := ⟨none, none⟩) (fun z => by cases z) t).trans e) hS0
    have rel : Rel K ⟨some r, none⟩ (fun _ => none) (entE K ⟨none, none⟩ H) (entE K ⟨none, none⟩ H) (lawE N.length) ((some (V.ref a) :: List.replicate (N.length - 1) none).set 1 (some (V.ref r))) ⟨ns, 0, seed, 0⟩ (upd H r (.lst [V.ref a, .int 0, .int seed, .int 0])) := by
      rw [hNl, List.replicate_succ]
      refine ⟨?_, hF, hX, hF, ⟨fun r1 e1 => ?_, tabs_upd hT (.inl hr0), hX⟩, fun r1 e1 => ?_, fun i b vs e1 => ?_, fun i sv e1 => ?_, fun i j b sv sw e1 e2 ox oy e3 e4 => ?_⟩
      · show (List.replicate (N.length - 2) (none : Option SV)).length + 1 + 1 = (List.replicate (N.length - 2) (none : Option V)).length + 1 + 1
        rw [List.length_replicate, List.length_replicate]
      · cases e1
        exact ⟨a, upd_same, hS, hlen⟩
      · cases e1
        exact ⟨hN0, hN0⟩
      · cases e1
      · match i, e1 with
        | 0, e1 => cases e1
        | 1, e1 =>
          cases e1
          exact ⟨_, rfl, r, rfl, rfl⟩
        | i + 2, e1 =>
          have e2 : (List.replicate (N.length - 2) (none : Option SV))[i]? = some (some sv) := e1
          have e3 := List.mem_of_getElem? e2
          rw [List.mem_replicate] at e3
          cases e3.2
      · match i, e1 with
        | 0, e1 => cases e1
        | 1, e1 => cases e1; cases ox
        | i + 2, e1 =>
          have e5 : (List.replicate (N.length - 2) (none : Option SV))[i]? = some (some sv) := e1
          have e6 := List.mem_of_getElem? e5
          rw [List.mem_replicate] at e6
          cases e6.2
    refine (ht ⟨some r, none⟩).sem (fun _ => none) (entE K ⟨none, none⟩ H) (entE K ⟨none, none⟩ H) (lawE N.length) _ _ _ _ rs' _ rel hl ?_
    intro v F' H' hret
    have hv : Dp K F' v (.bool true) := hret.val
    cases hv
    exact q H'
end
end DV

namespace DV
open PySem L2
section
variable {X : Cx} {K : PySem.W.Frag} {R : RA} {L : Nat → Option (Addr × HO)} {E F F' H H' : Hp} {ρ ρ' : Env} {σ σ' : L2.St} {rs rs' : RS}
variable {S S' : List Nat} {tg it elt e e2 c : Expr} {es ifs : List Expr} {pos p : Pos} {te t1 t2 : TE} {ta : TA} {wi : TI}
def zipD : List D → List D → List D
  | x :: xs, y :: ys => .tuple [x, y] :: zipD xs ys
  | _, _ => []
theorem zipD_len : ∀ xs ys : List D, (zipD xs ys).length = min xs.length ys.length
  | [], ys => by cases ys <;> simp [zipD]
  | x :: xs, [] => by simp [zipD]
  | x :: xs, y :: ys => by
    rw [zipD, List.length_cons, zipD_len xs ys, List.length_cons, List.length_cons]
    omega
theorem zipD_get : ∀ (xs ys : List D) (i : Nat) (x y : D), xs[i]? = some x → ys[i]? = some y → (zipD xs ys)[i]? = some (.tuple [x, y])
  | [], _, _, _, _, h, _ => by simp at h
  | _ :: _, [], _, _, _, _, h => by simp at h
  | a :: xs, b :: ys, 0, x, y, h, h2 => by
    simp at h h2; subst h h2
    rfl
  | a :: xs, b :: ys, i + 1, x, y, h, h2 => by
    have := zipD_get xs ys i x y (by simpa using h) (by simpa using h2)
    simpa [zipD] using this
def joinLk : Option Nat → Option Nat → Option (Option Nat)
  | none, l => some l
  | some i, none => some (some i)
  | some i, some j => if i = j then some (some i) else none
def iZipF (f g : Env → M (List D × Option Nat)) : Env → M (List D × Option Nat) := fun ρ => bnd (f ρ) fun p => bnd (g ρ) fun q => bnd (lft (joinLk p.2 q.2)) fun l => ret (zipD p.1 q.1, l)
theorem SrcOk.any {v : V} {its : List D} {lk l : Option Nat} (h : SrcOk K R E ρ σ H F' H' v its lk) (e : lk = none ∨ lk = l) : SrcOk K R E ρ σ H F' H' v its l := by
  rcases e with e | e
  · subst e
    obtain ⟨a, vs, rfl, hd, q⟩ := h
    refine ⟨a, vs, rfl, hd, ?_⟩
    rcases q with q | ⟨q1, q2, q3⟩
    · exact .inl q
    · refine .inr ⟨q1, q2, ?_⟩
      rcases q3 with z | z | ⟨i, ds, z, _⟩
      · exact .inl z
      · exact .inr (.inl z)
      · cases z
  · subst e; exact h
theorem joinLk_l {a b l : Option Nat} (h : joinLk a b = some l) : (a = none ∨ a = l) ∧ (b = none ∨ b = l) := by
  cases a with
  | none => cases h; exact ⟨.inl rfl, .inr rfl⟩
  | some i =>
    cases b with
    | none => cases h; exact ⟨.inr rfl, .inl rfl⟩
    | some j =>
      have h : (if i = j then some (some i) else none) = some l := h
      by_cases e : i = j
      · rw [if_pos e] at h
        cases h
        exact ⟨.inr rfl, .inr (by rw [e])⟩
      · rw [if_neg e] at h
        cases h
theorem di_zip {f g : Env → M (List D × Option Nat)} {elts : List Expr} {kk : Nat} {tpos : Pos} (hgl : Gl X "zip") (hm : X.mg "zip" = none) (h : DSrc X R e t1 f) (h2 : DSrc X R e2 t2 g) (hs : starEach [e, e2] X.env = (false, eval e X.env) :: starEach [e2] X.env := by rfl) (hs2 : starEach [e2] X.env = (false, eval e2 X.env) :: starEach [] X.env := by rfl)
    (hpl : (backTo pos (starEach [e2] X.env)).any (·.1) = false := by rfl) :
    DI X R (.Tuple elts kk tpos) (.Call (.Name "zip" p) [e, e2] [] pos) (iZipK X.K (tCons t1 (tCons t2 tNil))) (iZipF f g) := ⟨pi_zipK hgl hm (pa_cons h.pe (pa_cons h2.pe pa_nil hs2) hs) hs hpl, fun L E ρ σ F H rs its lk rs' Rq r hf k => by
  obtain ⟨⟨xs, lk1⟩, rs1, e1, hf1⟩ := bnd_some hf
  obtain ⟨⟨ys, lk2⟩, rs2, e2, hf2⟩ := bnd_some hf1
  obtain ⟨l, rs3, e3, hf3⟩ := bnd_some hf2
  obtain ⟨e4, q4⟩ := lft_some e3
  obtain ⟨e5, q5⟩ := ret_some hf3
  cases e5
  subst q5 q4
  obtain ⟨j1, j2⟩ := joinLk_l e4
  refine h.sem L E ρ σ F H rs xs lk1 rs1 _ r e1 fun v1 F1 H1 s1 h1 => ?_
  have r1 := r.step s1
  refine h2.sem L E ρ σ F1 H1 rs1 ys lk2 _ _ r1 e2 fun v2 F2 H2 s2 h2 => ?_
  have r2 := r1.step s2
  have s12 := s1.trans r.row s2
  obtain ⟨a, vs, kd, P, rfl, hd, pn, hG⟩ := ((h1.step s2).any j1).pin r
  obtain ⟨b, ws, kd2, P2, rfl, hd2, pn2, hG2⟩ := ((h2.older fun a q => s1.back r.row q).any j2).pin r
  have hP1 : ∀ H3 : Hp, (∀ c o, addH P P2 c = some o → H3 c = some o) → ∀ c o, P c = some o → H3 c = some o := fun H3 q c o e => q c o (by unfold addH; rw [e])
  have hP2 : ∀ H3 : Hp, (∀ c o, addH P P2 c = some o → H3 c = some o) → ∀ c o, P2 c = some o → H3 c = some o := fun H3 q c o e => by
    refine q c o ?_
    unfold addH
    cases e6 : P c with
    | none => exact e
    | some o2 =>
      have z1 := (pn c o2 e6).1
      have z2 := (pn2 c o e).1
      rw [z1] at z2
      cases z2
      rfl
  have hA : ∀ c o, addH P P2 c = some o → P c = some o ∨ P2 c = some o := fun c o e => by
    unfold addH at e
    cases e6 : P c with
    | none => rw [e6] at e; exact .inr e
    | some o2 => rw [e6] at e; cases e; exact .inl rfl
  refine ⟨kd, kd2, a, b, vs, ws, rfl, hG H2 (fun c o q => (pn c o q).1) r2.fr, hG2 H2 (fun c o q => (pn2 c o q).1) r2.fr, k _ F2 H2 s12 ⟨fun H => SqK kd X.K H a vs ∧ SqK kd2 X.K H b ws, YPairX (fun i => vs[i]?) (fun i => ws[i]?), addH P P2, ?_, ?_, ?_, ?_⟩⟩
  · exact walk_zipK kd kd2 (by rw [zipD_len, hd.len, hd2.len])
  · intro c o e
    rcases hA c o e with z | z
    · exact pn c o z
    · exact pn2 c o z
  · exact fun H3 q1 q2 => ⟨hG H3 (hP1 H3 q1) q2, hG2 H3 (hP2 H3 q1) q2⟩
  · intro i H3 w H4 F3 hi q1 q2 y
    obtain ⟨T, x, z, rfl, hT, hN, ex, ez⟩ := y
    have hi' : i < (zipD xs ys).length := hi
    rw [zipD_len] at hi'
    have hx : xs[i]? = some (xs[i]'(by omega)) := List.getElem?_eq_getElem (by omega)
    have hy : ys[i]? = some (ys[i]'(by omega)) := List.getElem?_eq_getElem (by omega)
    obtain ⟨w1, hw1, hdw1⟩ := hd.get hx
    obtain ⟨w2, hw2, hdw2⟩ := hd2.get hy
    have ex' : vs[i]? = some x := ex
    have ez' : ws[i]? = some z := ez
    rw [ex'] at hw1
    rw [ez'] at hw2
    cases hw1
    cases hw2
    exact ⟨_, zipD_get xs ys i _ _ hx hy, .inr (.inl ⟨T, _, _, rfl, hT, hN, rfl, .cons (Dp.mono q1 _ _ hdw1) (.cons (Dp.mono q1 _ _ hdw2) .nil)⟩)⟩⟩
end
end DV

namespace DV
open PySem L2 PyProof.Rows
section
variable {X : Cx} {K : PySem.W.Frag} {R : RA} {e e2 e3 : Expr} {pos p : Pos} {t1 t2 t3 : TE}
def zip3D : List D → List D → List D → List D
  | x :: xs, y :: ys, z :: zs => .tuple [x, y, z] :: zip3D xs ys zs
  | _, _, _ => []
def iZip3F (f g h : Env → M (List D × Option Nat)) : Env → M (List D × Option Nat) := fun ρ => bnd (f ρ) fun p => bnd (g ρ) fun q => bnd (h ρ) fun r => bnd (lft (joinLk p.2 q.2)) fun l => bnd (lft (joinLk l r.2)) fun l2 => ret (zip3D p.1 q.1 r.1, l2)
end
end DV

namespace DV
open PySem L2
section
variable {X : Cx} {K : PySem.W.Frag} {R : RA} {L : Nat → Option (Addr × HO)} {E F F' H H' : Hp} {ρ ρ' : Env} {σ σ' : L2.St} {rs rs' : RS}
variable {S S' S1 : List Nat} {tg it tg1 it1 elt e c : Expr} {es ifs ifs1 : List Expr} {g g1 : TG} {hg hg1 : D → Env → Option Env} {pos p : Pos} {tt tt1 : TT} {te : TE} {wi wi1 : TI}
def lc2F (tg : D → Env → Option Env) (tst : Env → M Bool) (fi1 : Env → M (List D × Option Nat)) (vs1 : List Nat) (tg1 : D → Env → Option Env) (tst1 : Env → M Bool) (el : Env → M RV) (ρ : Env) : List D → M (List D)
  | [] => ret []
  | x :: xs => bnd (lft (tg x ρ)) fun ρ1 => bnd (tst ρ1) fun b => if b = true then bnd (fi1 ρ1) fun q => bnd (lcF tg1 tst1 el (wipeE ρ1 vs1) q.1) fun d1 => bnd (lc2F tg tst fi1 vs1 tg1 tst1 el ρ xs) fun ds => ret (d1 ++ ds) else lc2F tg tst fi1 vs1 tg1 tst1 el ρ xs
def eLc2 (fi : Env → M (List D × Option Nat)) (vs : List Nat) (tg : D → Env → Option Env) (tst : Env → M Bool) (fi1 : Env → M (List D × Option Nat)) (vs1 : List Nat) (tg1 : D → Env → Option Env) (tst1 : Env → M Bool) (el : Env → M RV) : Env → M RV := fun ρ =>
  bnd (fi ρ) fun p => bnd (lc2F tg tst fi1 vs1 tg1 tst1 el (wipeE ρ vs) p.1) fun ds => if ds.length ≤ 100000 then ret (.n ds) else fail
theorem OwnOld.wipe : ∀ (vs : List Nat) {H : Hp} {ρ : Env} {σ : L2.St}, OwnOld H ρ σ → OwnOld H (wipeE ρ vs) (L2.wipe σ vs)
  | [], _, _, _, h => h
  | v :: vs, H, ρ, σ, h => fun m es a e1 ow e2 => by
    have e1' : ((wipeE ρ vs).set v none)[m]? = some (some es) := e1
    have e2' : ((L2.wipe σ vs).set v none)[m]? = some (some (V.ref a)) := e2
    by_cases hm : m = v
    · subst hm
      have hl : m < (wipeE ρ vs).length := by
        have := (List.getElem?_eq_some_iff.mp e1').1
        rw [List.length_set] at this
        exact this
      rw [List.getElem?_set_self hl] at e1'
      cases e1'
    · rw [List.getElem?_set_ne (Ne.symm hm)] at e1' e2'
      exact OwnOld.wipe vs h m es a e1' ow e2'
end
end DV

namespace DV
open PySem L2 PySem.W
section
variable {X : Cx} {K : PySem.W.Frag} {R : RA}
def cmpOk (d e : D) : Bool := alike d e && (!isNoneD d && decide (d.depth ≤ 60))
def gCmpA (ki : Int → Int → Bool) (kd : D → D → Bool) : RV → RV → Option RV := fun x y => match asInt x, asInt y with
  | some i, some j => some (.d (.bool (ki i j)))
  | _, _ => match viewD x, viewD y with
    | some d, some e => if cmpOk d e = true then some (.d (.bool (kd d e))) else none
    | _, _ => none
abbrev gLtA := gCmpA (fun i j => decide (i < j)) dataLt
abbrev gGtA := gCmpA (fun i j => decide (j < i)) fun d e => dataLt e d
abbrev gLeA := gCmpA (fun i j => decide (i ≤ j)) fun d e => !dataLt e d
abbrev gGeA := gCmpA (fun i j => decide (j ≤ i)) fun d e => !dataLt d e
end
end DV

namespace DV
open PySem L2 PyProof.Rows
section
variable {X : Cx} {K : PySem.W.Frag} {R : RA} {L : Nat → Option (Addr × HO)} {E F F' H H' : Hp} {ρ ρ' : Env} {σ σ' : L2.St} {rs rs' : RS} {pos : Pos}
def sPar4 (i j l m : Nat) (fa : Env → M (List RV)) : Env → M Out := fun ρ => bnd (fa ρ) fun xs => match xs with
  | [x, y, z, w] => bnd (lft (toS x)) fun sx => bnd (lft (toS y)) fun sy => bnd (lft (toS z)) fun sz => bnd (lft (toS w)) fun sw => ret (.nx ((((ρ.set i (some sx)).set j (some sy)).set l (some sz)).set m (some sw)))
  | _ => fail
end
end DV




namespace DV
open PySem L2 LamX PyProof.Rows PySem.Spec PySem.W
def colS (f : Env → M RV) : Env → M (List D) := fun ρ => bnd (f ρ) fun x => lft (items x)
def colR (f : Env → M (Int × Int)) : Env → M (List D) := fun ρ => bnd (f ρ) fun x => if okRg x.1 x.2 = true then ret (rngD x.1 (x.2 - x.1).toNat) else fail
section
variable {X : Cx} {R : RA} {K : PySem.W.Frag} {e : Expr} {te : TE}
/-- data alone -/
def asD : RV → Option D
  | .d d => some d
  | _ => none
/-- the keys -/
def keysF (el : Env → M RV) (ρ : Env) (ip : Nat) : List D → M (List D)
  | [] => ret []
  | x :: xs => bnd (el (ρ.set ip (some (.d x)))) fun y => bnd (lft (asD y)) fun d => bnd (keysF el ρ ip xs) fun ds => ret (d :: ds)
def eSortK (fi : Env → M (List D)) (el : Env → M RV) (ip : Nat) : Env → M RV := fun ρ => bnd (fi ρ) fun its => bnd (keysF el ρ ip its) fun kz => if okKeys kz = true ∧ its.length ≤ 100000 then ret (.n (sortK its kz)) else fail
end
end DV

namespace DV
open PySem L2 LamX PyProof.Rows PySem.Spec
theorem tabs_none {K : PySem.W.Frag} {H : Hp} (h : tabsOf K = []) : Tabs (tabsOf K) H := fun p hp => by
  rw [h] at hp
  cases hp
end DV

namespace DV
open PySem L2 PyProof.Rows
section
variable {K : PySem.W.Frag} {R : RA}
def gIsBl (neg : Bool) : RV → RV → Option RV := fun x y => match asBool x, asBool y with
  | some a, some b => some (.d (.bool (if neg then !decide (a = b) else decide (a = b))))
  | _, _ => none
end
end DV

namespace RevT
open PySem PySem.Spec PyProof.Rows HT
section
variable {prog : Program} {w : World} {A : Around} {E : Value → Shared → Prop} {s : Shared}
theorem adj (n : Nat) : Builtin.Slice.sliceAdjust none none (-1) (n : Int) = ((n : Int) - 1, -1) := rfl
theorem plc (n : Nat) : Builtin.Slice.slicePlaces ((n : Int) - 1) (-1) (-1) = n := by
  unfold Builtin.Slice.slicePlaces
  rw [if_neg (by decide)]
  by_cases h : n = 0
  · subst h
    rfl
  · rw [if_pos (by omega)]
    have e : ((n : Int) - 1 - -1 - 1) / (- -1) + 1 = (n : Int) := by
      rw [show (- -1 : Int) = 1 by decide, Int.ediv_one]
      omega
    rw [e, Int.toNat_natCast]
theorem picks (xs : Array Value) : ((List.range xs.size).filterMap fun (m : Nat) => xs[(((xs.size : Int) - 1) + (m : Int) * (-1)).toNat]?).toArray = xs.toList.reverse.toArray := by
  congr 1
  have e1 : (List.range xs.size).filterMap (fun (m : Nat) => xs[(((xs.size : Int) - 1) + (m : Int) * (-1)).toNat]?) = ((List.range xs.size).map fun k => xs.size - 1 - k).filterMap (xs[·]?) := by
    have e2 : (List.range xs.size).map (fun m : Nat => (((xs.size : Int) - 1) + (m : Int) * (-1)).toNat) = (List.range xs.size).map fun k => xs.size - 1 - k := by
      refine List.map_congr_left fun m hm => ?_
      have := List.mem_range.mp hm
      omega
    rw [← e2, List.filterMap_map]
    rfl
  rw [e1, PySem.W.krv_range, List.filterMap_reverse, PySem.W.krv_all]
theorem applied {sl : Addr} {k : Tok} {n : Nat} {Q : Int × Int × Nat → Shared → Prop} (hS : s.heap.IsSliceOf sl .none .none (.int (-1) k)) (hq : Q ((n : Int) - 1, -1, n) s) : wpAny (model prog w) A (Builtin.Slice.sliceApplied (.ref sl) (pure (n : Int))) Q E s := by
  obtain ⟨ob, o1, o2, o3⟩ := id hS
  unfold Builtin.Slice.sliceApplied Builtin.Slice.sliceFields
  refine wpAny_bind (wpAny_bind (wpAny_field o1 o3 (x := Value.none) rfl (wpAny_bind (wpAny_field o1 o3 (x := Value.none) rfl (wpAny_bind (wpAny_field o1 o3 (x := Value.int (-1) k) rfl (wpAny_pure ?_)))))))
  refine wpAny_bind (slicePart_int ?_)
  show wpAny _ _ (if ((-1 : Int) == 0) = true then _ else _) _ _ s
  rw [if_neg (by decide)]
  refine wpAny_bind (slicePart_none (wpAny_bind (slicePart_none (wpAny_bind (wpAny_pure ?_)))))
  show wpAny _ _ (match Builtin.Slice.sliceAdjust none none (-1) (n : Int) with | (a, b) => pure (a, (-1 : Int), Builtin.Slice.slicePlaces a b (-1))) _ _ s
  rw [adj]
  show wpAny _ _ (pure ((n : Int) - 1, (-1 : Int), Builtin.Slice.slicePlaces ((n : Int) - 1) (-1) (-1))) _ _ s
  rw [plc]
  exact wpAny_pure hq
theorem turned {t sl : Addr} {items : Array Value} {k : Tok} {Q : Value → Shared → Prop} (hT : IsTup s.heap t items) (hS : s.heap.IsSliceOf sl .none .none (.int (-1) k))
    (hq : Q (.ref s.heap.objs.size) { s with heap := s.heap.push { cls := .type "tuple", data := .seq items.toList.reverse.toArray } }) (hz : items.size ≤ sizeLine) : wpAny (model prog w) A (getItem (.ref t) (.ref sl)) Q E s := by
  have fits : sizeOk (.seq items.toList.reverse.toArray) := by
    show items.toList.reverse.toArray.size ≤ sizeLine
    rw [List.size_toArray, List.length_reverse, Array.length_toList]
    exact hz
  obtain ⟨ob, o1, o2, o3⟩ := id hS
  have isS : s.TypeIs (.ref sl) "slice" := ⟨ob, o1, o2⟩
  unfold getItem
  try with_reducible refine wpAny_holding ?_
  first
    | refine wpAny_bind (wpAny_pure ?_)
    | skip
  refine wpAny_bind (wpAny_sequenceKey hT.typeIs (by decide) ?_)
  refine wpAny_bind (wpAny_callSpecial?_slot (name := Str.ofString "__getitem__") hT.typeIs slot_tuple_getitem
    (wpAny_call_entry slot_tuple_getitem hT.typeIs entry_tuple_getitem ?_ (args_tuple_getitem _ _)))
  show wpAny _ _ (Builtin.Tuple.tupleItemsOf (.ref t) >>= _) _ _ s
  refine wpAny_bind (tupleItemsOf_ hT ?_)
  refine wpAny_bind (wpAny_typeOf isS ?_)
  rw [if_pos (by decide)]
  refine wpAny_bind (applied hS ?_)
  have ne : ¬ ((((items.size : Int) - 1) == 0 && (-1 : Int) == 1 && items.size == items.size) = true) := fun q => by
    rw [Bool.and_eq_true, Bool.and_eq_true] at q
    exact absurd q.1.2 (by decide)
  show wpAny _ _ (if (((items.size : Int) - 1) == 0 && (-1 : Int) == 1 && items.size == items.size) = true then _ else _) _ _ s
  rw [if_neg ne, picks]
  first
    | exact wpAny_bind (m := Builtin.Tuple.tupleExact _) (wpAny_newObj_type (wpAny_pure ⟨_, rfl, wpAny_pure hq⟩) fits)
    | exact wpAny_bind (m := Builtin.Tuple.tupleExact _) (wpAny_newObj_type (wpAny_bind (wpAny_pure (wpAny_pure ⟨_, rfl, wpAny_pure hq⟩))) fits)
    | exact wpAny_bind (wpAny_bind (m := Builtin.Tuple.tupleExact _) (wpAny_newObj_type (wpAny_pure (wpAny_pure ⟨_, rfl, wpAny_pure hq⟩)) fits))
    | exact wpAny_bind (wpAny_bind (m := Builtin.Tuple.tupleExact _) (wpAny_newObj_type (wpAny_pure ⟨_, rfl, wpAny_pure hq⟩) fits))
end
end RevT
namespace DV
open PySem L2 PyProof.Rows
section
variable {X : Cx} {K : PySem.W.Frag} {R : RA}
def tRevA (K : PySem.W.Frag) (te : TE) : TE := fun σ H Q => te σ H fun x H1 => ∃ a xs, x = .ref a ∧ ((SqL K H1 a xs ∧ ∀ p, H1 p = none → Q (.ref p) (upd H1 p (.lst xs.reverse))) ∨ (SqT K H1 a xs ∧ ∀ p ob, H1 p = none → ob.dict = none → Q (.ref p) (upd H1 p (TupX ob xs.reverse))))
theorem pe_revA {e : Expr} {te : TE} {k : Nat} {p1 p2 p3 pos : Pos} (he : PE X e te) : PE X (.Subscript e (.Slice none none (some (.UnaryOp .USub (.Constant (.int 1) k p1) p2)) p3) pos) (tRevA X.K te) := by
  refine ⟨fun pins s σ H Q I h => ?_⟩
  refine Subscript_ (thn (he.run pins s σ H _ I h) fun v s1 ⟨x, H1, I1, r1, q1⟩ => ?_)
  obtain ⟨a, xs, ex, hh⟩ := q1
  subst ex
  cases r1
  have third : PO X (some (.UnaryOp .USub (.Constant (.int 1) k p1) p2)) (tPart (tUn (rU fun i => .int (-i)) (tC (.int 1)))) := po_some (pe_un un_neg pe_int)
  refine wpAny_Slice (thn (po_none.run pins s1 σ H1 (fun o G => o = none ∧ G = H1) I1 ⟨rfl, rfl⟩) fun vl s2 ⟨l, H2, I2, pl, el, e2⟩ => ?_)
  subst el e2
  refine thn (po_none.run pins s2 σ H2 (fun o G => o = none ∧ G = H2) I2 ⟨rfl, rfl⟩) fun vu s3 ⟨u, H3, I3, pu, eu, e3⟩ => ?_
  subst eu e3
  refine thn (third.run pins s3 σ H3 (fun o G => o = some (-1) ∧ G = H3) I3 ⟨1, rfl, -1, rfl, rfl, rfl⟩) fun vs s4 ⟨o, H4, I4, ps, eo, e4⟩ => ?_
  subst eo e4
  have J : Inv X pins σ H4 { s4 with heap := s4.heap.push { cls := .type "slice", data := .fields #[vl, vu, vs] } } := I4.kept (t' := s4.toks) fun b ob q => Heap.get?_push_of_some _ q
  show wpAny (model X.prog X.w) X.A (subscriptTail e (.Slice none none (some (.UnaryOp .USub (.Constant (.int 1) k p1) p2)) p3) (.ref a) (.ref s4.heap.objs.size)) (EP X pins σ Q) X.xe { s4 with heap := s4.heap.push { cls := .type "slice", data := .fields #[vl, vu, vs] } }
  rcases hh with ⟨hx, q⟩ | ⟨hx, q⟩
  · obtain ⟨its, r, ht, hz⟩ := J.list hx
    have hlen := r.length
    refine tail_any (ops := [.ref a, .ref s4.heap.objs.size]) ht.isList.typeIs (PySem.slot_list_getitem.lookup) ?_ (by with_unfolding_all rfl)
    refine wpAny_getItem_list_slice ht.isList (Heap.IsSliceOf.new _ vl vu vs) pl pu ps (by decide) ?_ (by rw [List.size_toArray]; omega)
    rw [PySem.W.krv_pick]
    refine ⟨.ref _, _, J.laid (t' := s4.toks) (o := .lst xs.reverse) (fun b ob q => Heap.get?_push_of_some _ q) (Nat.le_refl _) ?_, rfl, q _ (J.hok.fresh (Nat.le_refl _))⟩
    exact ⟨by rw [List.length_reverse]; exact hz, _, 0, r.reverse, Heap.get?_push_size _ rfl⟩
  · obtain ⟨its, r, ht, hz⟩ := J.tuple hx
    have hlen := r.length
    cases pl
    cases pu
    cases ps
    refine tail_any (ops := [.ref a, .ref s4.heap.objs.size]) ht.typeIs (PyProof.Rows.slot_tuple_getitem.lookup) ?_ (by with_unfolding_all rfl)
    refine RevT.turned ht (Heap.IsSliceOf.new _ _ _ _) ?_ (by rw [List.size_toArray]; omega)
    exact laidX (h := s4.heap.push { cls := .type "slice", data := .fields #[.none, .none, _] }) (tk := s4.toks) J (by rw [List.length_reverse]; exact hz) (by simpa using r.reverse) q
def gRev : RV → Option RV
  | .d (.tuple ds) => some (.d (.tuple ds.reverse))
  | x => (items x).map fun ds => .n ds.reverse
def eRev (f : Env → M RV) : Env → M RV := fun ρ => bnd (f ρ) fun x => lft (gRev x)
theorem de_rev {e : Expr} {te : TE} {f : Env → M RV} {k : Nat} {p1 p2 p3 pos : Pos} (he : DE X R e te f) : DE X R (.Subscript e (.Slice none none (some (.UnaryOp .USub (.Constant (.int 1) k p1) p2)) p3) pos) (tRevA X.K te) (eRev f) := ⟨pe_revA he.pe, fun L E ρ σ F H rs x rs' Q r hf kk => by
  obtain ⟨x1, rs1, e1, hf1⟩ := bnd_some hf
  obtain ⟨e2, q2⟩ := lft_some hf1
  subst q2
  refine he.sem L E ρ σ F H rs x1 _ _ r e1 fun v F1 H1 s1 h1 => ?_
  have rf := (r.step s1).refl
  have mkL : ∀ ds : List D, (∀ es, x1 ≠ .d (.tuple es)) → items x1 = some ds → x = .n ds.reverse → ∃ a xs, v = V.ref a ∧ ((SqL X.K H1 a xs ∧ ∀ p, H1 p = none → Q (.ref p) (upd H1 p (.lst xs.reverse))) ∨ (SqT X.K H1 a xs ∧ ∀ p ob, H1 p = none → ob.dict = none → Q (.ref p) (upd H1 p (TupX ob xs.reverse)))) := fun ds hne hi ex => by
    obtain ⟨a, ws, rfl, g1, g2⟩ := VR.isL rf h1 hi hne
    refine ⟨a, ws, rfl, .inl ⟨g1, fun p hp => ?_⟩⟩
    obtain ⟨s4, hF, hR⟩ := Step.new_lst (vs := ws.reverse) rf hp
    subst ex
    exact kk _ F1 _ (s1.trans r.row s4) ⟨p, _, rfl, upd_same, s1.back r.row hp, hF, hR, DpAll.rev g2⟩
  cases x1 with
  | d y =>
    cases y with
    | tuple ds =>
      cases e2
      obtain ⟨a, ws, rfl, g1, g2⟩ := VR.isTup rf h1
      refine ⟨a, ws, rfl, .inr ⟨g1, fun p ob hp hob => ?_⟩⟩
      have s4 := Step.new_tup (ob := ob) (vs := ws.reverse) rf hp
      exact kk _ _ _ (s1.trans r.row s4) (.tup (.inl (.inr ⟨_, upd_same⟩)) (Dp.monoA s4.sub _ _ (DpAll.rev g2)) ⟨_, _, upd_same, hob⟩)
    | list ds => exact mkL ds (fun es q => nomatch q) rfl (Option.some.inj e2).symm
    | none => cases e2
    | bool _ => cases e2
    | int _ => cases e2
    | str _ => cases e2
    | dict _ => cases e2
  | b ds => exact mkL ds (fun es q => nomatch q) rfl (Option.some.inj e2).symm
  | n ds => exact mkL ds (fun es q => nomatch q) rfl (Option.some.inj e2).symm
  | gb _ => cases e2
  | gn _ => cases e2
  | row => cases e2⟩
end
end DV




namespace DV
open PySem L2 PyProof.Rows
section
variable {X : Cx} {K : PySem.W.Frag} {R : RA} {L : Nat → Option (Addr × HO)} {E F F' H H' : Hp} {ρ ρ' : Env} {σ σ' : L2.St} {rs rs' : RS}
variable {S S' : List Nat} {tg o e e2' c : Expr} {es : List Expr} {g : TG} {hg : D → Env → Option Env} {pos p spos apos : Pos} {te to : TE} {f h : Env → M RV}
/-- the items of a list -/
def itemsL : RV → Option (List D)
  | .d (.list ds) => some ds
  | .b ds => some ds
  | .n ds => some ds
  | _ => none
def eMet (gg : RV → RV → Option RV) (f h : Env → M RV) : Env → M RV := fun ρ => bnd (f ρ) fun x => bnd (lft (itemsL x)) fun _ => bnd (h ρ) fun y => lft (gg x y)
def idxOf (ds : List D) (d : D) : Option Nat := ds.findIdx? fun z => PyData.eqv z d
theorem DpAll.dropLast {F : Hp} {vs : List V} {ds : List D} (h : DpAll K F vs ds) : DpAll K F vs.dropLast ds.dropLast := by
  rw [List.dropLast_eq_take, List.dropLast_eq_take, h.len]
  exact DpAll.take _ h
/-- x.extend(e), e a new list -/
def newL : RV → Option (List D)
  | .n ds => some ds
  | .b ds => some ds
  | _ => none
def extL : RV → Option (List D)
  | .d (.tuple ds) => some ds
  | x => newL x
def sExt (i : Nat) (f : Env → M RV) : Env → M Out := fun ρ => bnd (lft (sApp.own? ρ i)) fun ds => bnd (f ρ) fun x => bnd (lft (extL x)) fun es => if ds.length + es.length ≤ 100000 then ret (.nx (ρ.set i (some (.o (ds ++ es))))) else fail
/-- x.insert(e1, e2) -/
def rInsert : V → List V → Hp → VK → Prop := fun x vs H Q => ∃ (l : Addr) (xs : List V) (i : Int) (y : V), x = .ref l ∧ vs = [.int i, y] ∧ H l = some (.lst xs) ∧ xs.length < sizeLine ∧ 0 ≤ i ∧ i < 2 ^ 63 ∧
    Q .non (upd H l (.lst (xs.take i.toNat ++ [y] ++ xs.drop i.toNat)))
theorem mt_insertA : MtR X "list.insert" rInsert := mt_insert
def sIns (i : Nat) (f h : Env → M RV) : Env → M Out := fun ρ => bnd (lft (sApp.own? ρ i)) fun ds => bnd (f ρ) fun x => bnd (lft (asInt x)) fun j => bnd (h ρ) fun y => bnd (lft (toD y)) fun d =>
  if ds.length < 100000 ∧ 0 ≤ j ∧ j ≤ 100000 then ret (.nx (ρ.set i (some (.o (ds.take j.toNat ++ [d] ++ ds.drop j.toNat))))) else fail
theorem ds_insert {i : Nat} {te2 : TE} (hf1 : ESem X.K R te f) (hf2 : ESem X.K R te2 h) (pe : PE X e (tBM X.K "list" rInsert (tVar i) (tCons te (tCons te2 tNil)))) (hs : swapsWith e none spos.line X.env = pure false := by rfl) :
    DS X R (.Expr e spos) (tDrop (tBM X.K "list" rInsert (tVar i) (tCons te (tCons te2 tNil)))) (sIns i f h) := ⟨ps_expr pe hs, fun L E F ρ σ rs H o rs' D r hf k => by
  obtain ⟨ds, rs1, e1, g1⟩ := bnd_some hf
  obtain ⟨e2, q2⟩ := lft_some e1
  subst q2
  obtain ⟨x, rs3, e3, g3⟩ := bnd_some g1
  obtain ⟨j, rs4, e4, g4⟩ := bnd_some g3
  obtain ⟨e5, q5⟩ := lft_some e4
  subst q5
  obtain ⟨y, rs6, e6, g6⟩ := bnd_some g4
  obtain ⟨d, rs7, e7, g7⟩ := bnd_some g6
  obtain ⟨e8, q8⟩ := lft_some e7
  subst q8
  by_cases hl : ds.length < 100000 ∧ 0 ≤ j ∧ j ≤ 100000
  · rw [if_pos hl] at g7
    obtain ⟨e9, q9⟩ := ret_some g7
    subst e9 q9
    have eo := own_some e2
    obtain ⟨v, ev, a, vs, rfl, h1, h2, h3, h4, h5⟩ := r.sl i _ eo
    refine ⟨_, ev, .inl ⟨rfl, vs, .inl (.inl h1)⟩, ?_⟩
    refine hf1 L E ρ σ F H _ x _ _ r e3 fun w F1 H1 s1 hw => ?_
    have hwi := hw.int e5
    subst hwi
    have r1 := r.step s1
    refine hf2 L E ρ σ F1 H1 _ y _ _ r1 e6 fun w2 F2 H2 s2 hw2 => ?_
    obtain ⟨F3, s3, hd3⟩ := frozen1 r1 s2 hw2 e8
    have r3 := r1.step s3
    obtain ⟨v', ev', a', vs', ea, k1, k2, k3, k4, k5⟩ := r3.sl i _ eo
    rw [ev] at ev'
    cases ev'
    cases ea
    refine ⟨a, vs', j, w2, rfl, rfl, k1, by rw [k5.len]; exact sz_lt hl.1, hl.2.1, by have := hl.2.2; omega, ?_⟩
    exact k σ F3 _ (FStep.ofStep r (s1.trans r.row s3)) (r3.change eo ev (((DpAll.take _ k5).append (.cons hd3 .nil)).append (DpAll.drop _ k5)))
  · rw [if_neg hl] at g7
    cases g7⟩
theorem ds_insertF {i : Nat} {x : Str} {p1 : Pos} {e2 : Expr} {te2 : TE} (he : DE X R e te f) (he2 : DE X R e2 te2 h) (pe : PE X e te → PE X e2 te2 → PE X (.Call (.Attribute (.Name x p1) "insert" apos) [e, e2] [] pos) (tBM X.K "list" rInsert (tVar i) (tCons te (tCons te2 tNil)))) (hs : swapsWith (.Call (.Attribute (.Name x p1) "insert" apos) [e, e2] [] pos) none spos.line X.env = pure false := by rfl) :
    DS X R (.Expr (.Call (.Attribute (.Name x p1) "insert" apos) [e, e2] [] pos) spos) (tDrop (tBM X.K "list" rInsert (tVar i) (tCons te (tCons te2 tNil)))) (sIns i f h) := ds_insert he.sem he2.sem (pe he.pe he2.pe) hs
end
end DV

namespace SrtR
open PySem PyProof.Rows Srt SrtO
section
variable {prog : Program} {w : World} {A : Around} {E : Value → Shared → Prop} {s : Shared}
/-- sorted of a tuple, reverse -/
theorem sorted_ordTR {l : Addr} {vs : List Value} {ltv : Value → Value → Bool} {Q : Value → Shared → Prop} (O : Swo ltv) (hl : s.heap.IsTuple l vs.toArray) (hz : vs.length ≤ sizeLine)
    (hS : 2 ≤ vs.length → ∀ (h₁ : Heap) (a : Addr), h₁.get? a = some (seqObj "list" vs.toArray 0) → SortableO prog w A.in1.in1 { s with heap := h₁ } a vs ltv)
    (h : ∀ (out : List Value) (h' : Heap) (p : Addr), Srtd ltv out → Stb ltv out vs.reverse → (∀ b o, s.heap.get? b = some o → b < p ∧ h'.get? b = some o) → (∃ e, h'.get? p = some (seqObj "list" out.toArray.reverse e)) → Q (.ref p) { s with heap := h' }) :
    wpAny (model prog w) A (call (.builtin "sorted") [.ref l] [(Str.ofString "reverse", .bool true)]) Q E s := by
  refine call_function_entry_kw kind_sorted plain_sorted entry_sorted (args_sorted_rev _ _) ?_
  unfold Builtin.«sorted»
  refine wpAny_bind (m := checkCount "sorted" 1 1 _) (wpAny_pure ?_)
  obtain ⟨o, ho, hc, n, hd⟩ := hl
  refine wpAny_bind (wpAny_collect_seq l (.inr rfl) ho hc hd (fun h' k => ?_) (by simpa using hz))
  refine wpAny_bind (wpAny_newList ?_ hz)
  have hoL : (h'.push (seqObj "list" vs.toArray 0)).get? h'.objs.size = some (seqObj "list" vs.toArray 0) := Heap.get?_push_size _ rfl
  have keep : ∀ b u, s.heap.get? b = some u → b < h'.objs.size ∧ (h'.push (seqObj "list" vs.toArray 0)).get? b = some u := fun b u q => ⟨Heap.lt_size (k b u q), Heap.get?_push_of_some _ (k b u q)⟩
  show wpAny _ _ _ _ _ { s with heap := h'.push (seqObj "list" vs.toArray 0) }
  refine wpAny_bind (wpAny_holding (wpAny_call_entry_kw slot_list_sort ⟨_, hoL, rfl⟩ entry_list_sort ?_ (args_list_sort_rev _ _)))
  refine list_sort_ordR O hoL hz (fun h2 => hS h2 _ _ hoL) fun out hs hb => ⟨_, rfl, ?_⟩
  refine wpAny_pure ⟨_, rfl, ?_⟩
  refine h out _ h'.objs.size hs hb (fun b u q => ⟨(keep b u q).1, ?_⟩) (sortedHeap_at (n := 0) hoL)
  have hlt := (keep b u q).1
  rw [sortedHeap_old (Nat.ne_of_lt hlt) (by rw [size_push']; exact Nat.lt_succ_of_lt hlt)]
  exact (keep b u q).2
end
end SrtR
namespace DV
open PySem L2 PyProof.Rows SrtR
def rSortRevA (K : PySem.W.Frag) : List V → List V → Hp → VK → Prop := fun vs zs H Q => ∃ (a : Addr) (ns : List Int), vs = [V.ref a] ∧ zs = [V.bl true] ∧ (SqL K H a (ns.map V.int) ∨ SqT K H a (ns.map V.int)) ∧
  ∀ p : Addr, H p = none → Q (.ref p) (upd H p (.lst ((sortI ns).reverse.map V.int)))
theorem down_uniq {ns ns' : List Int} (h1 : ns'.Perm ns) (h2 : ns'.Pairwise (· ≥ ·)) : ns' = (sortI ns).reverse := by
  have e : ns'.reverse = sortI ns := sorted_uniq (((List.reverse_perm _).trans h1).trans (sortI_perm ns).symm) (by rw [List.pairwise_reverse]; exact h2) (sortI_sorted ns)
  rw [← e, List.reverse_reverse]
theorem cr_sortRevA {X : Cx} : CallRK X (.builtin "sorted") [Str.ofString "reverse"] (rSortRevA X.K) := by
  intro pins s σ H vs zs us ws Q I r rz h
  obtain ⟨a, ns, rfl, rfl, hs, q⟩ := h
  rcases hs with hs | hs
  · exact cr_sortedRev (b := true) pins s σ H [V.ref a] [V.bl true] us ws Q I r rz ⟨a, ns, rfl, rfl, hs, fun ns' p h1 h2 hp => by
      rw [down_uniq h1 h2]
      exact q p hp⟩
  · obtain ⟨its, rv, hl, hz⟩ := I.tuple hs
    rw [Vals.ref1 r]
    obtain ⟨w1, rfl, e1⟩ := vals1 rz
    obtain rfl : w1 = Value.bool true := e1
    have hi := rv.ints
    refine sorted_ordTR SrtO.swo_int hl (by rw [← rv.length]; exact hz) (fun h2 h₁ a' _ => SrtO.ints_sortable hi h2) fun out h' p h1 h2 kp ⟨e, he⟩ => ?_
    obtain ⟨ns', k1, k2, k3⟩ := SrtR.ints_outR (b := true) hi h1 h2
    have e2 : ns' = (sortI ns).reverse := down_uniq k2 k3
    rw [e2] at k1 k2
    have hlen : ((sortI ns).reverse.map V.int).length ≤ sizeLine := by
      rw [List.length_map, k2.length_eq]
      rw [List.length_map] at hz
      exact hz
    have hg : s.heap.get? p = none := by
      cases q : s.heap.get? p with
      | none => rfl
      | some u => exact absurd (kp p u q).1 (Nat.lt_irrefl _)
    have hn := I.hok.gone hg
    have k1' : IntsAre (out.toArray.reverse).toList (sortI ns).reverse := k1
    exact ⟨.ref p, upd H p (.lst ((sortI ns).reverse.map V.int)), I.laidN (t' := s.toks) (fun b o e => (kp b o e).2) hg hn ⟨hlen, _, _, vals_of_ints k1', by rw [Array.toArray_toList]; exact he⟩, rfl, q _ hn⟩
section
variable {X : Cx} {K : PySem.W.Frag} {R : RA} {e : Expr} {pos p p2 kpos : Pos} {te : TE}
def eSortRev (f : Env → M RV) : Env → M RV := fun ρ => bnd (f ρ) fun x => bnd (lft (items x)) fun ds => bnd (lft (intsOf ds)) fun js => ret (.n ((sortI js).reverse.map PyData.int))
theorem de_sortRev {f : Env → M RV} {j} (hg : Gl X "sorted") (hm : X.mg "sorted" = none) (he : DE X R e te f)
    (hs : starEach [e] X.env = (false, eval e X.env) :: starEach [] X.env := by rfl)
    (he1 : backTo pos (starEach [e] X.env) = (false, eval e X.env) :: backTo pos (starEach [] X.env) := by rfl) (hpl : (backTo pos (starEach [e] X.env)).any (·.1) = false := by rfl) :
    DE X R (.Call (.Name "sorted" p) [e] [⟨some "reverse", .Constant (.bool true) j p2, kpos⟩] pos) (tCKw (rSortRevA X.K) (tCons te tNil) (tCons (tC (.bl true)) tNil)) (eSortRev f) :=
  ⟨pe_callBK cr_sortRevA hg hm boot_sorted (pa_cons he.pe pa_nil hs) (pk_cons pe_bl pk_nil) (by decide) (by decide) he1 hpl, fun L E ρ σ F H rs x0 rs' Q r hf kk => by
  obtain ⟨x, rs1, e1, hf1⟩ := bnd_some hf
  obtain ⟨ds, rs2, e2, hf2⟩ := bnd_some hf1
  obtain ⟨e3, q3⟩ := lft_some e2
  subst q3
  obtain ⟨js, rs4, e4, hf4⟩ := bnd_some hf2
  obtain ⟨e5, q5⟩ := lft_some e4
  obtain ⟨e6, q6⟩ := ret_some hf4
  subst e6 q6 q5
  refine he.sem L E ρ σ F H rs x _ _ r e1 fun v F1 H1 s1 h1 => ?_
  have r1 := r.step s1
  obtain ⟨a, ws, rfl, g1, g2⟩ := h1.items r1.refl e3
  have hw := g2.intsV e5
  subst hw
  refine ⟨a, js, rfl, rfl, g1, fun l hl => ?_⟩
  obtain ⟨s4, hF, hR⟩ := Step.new_lst (vs := (sortI js).reverse.map V.int) r1.refl hl
  exact kk _ F1 _ (s1.trans r.row s4) ⟨l, _, rfl, upd_same, s1.back r.row hl, hF, hR, DpAll.ofInts _⟩⟩
end
end DV

namespace DV
open PySem L2 PyProof.Rows
section
variable {X : Cx} {pins : List (Addr × Obj)} {σ : L2.St} {H : Hp} {s : Shared}
mutual
theorem nestedV (I : Inv X pins σ H s) : ∀ (d : D) (v : V) (u : Value) (k : NestedKey), Dp X.K H v d → L2.RelV v u → nk d = some k → NestedIs s.heap k u
  | .none, _, u, _, hd, r, h => by
    cases h; cases hd
    obtain rfl : u = Value.none := r
    exact .none
  | .int i, _, u, _, hd, r, h => by
    cases h; cases hd
    obtain ⟨t, rfl⟩ := (show ∃ t, u = Value.int i t from r)
    exact .int i t
  | .tuple ds, _, u, _, hd, r, h => by
    unfold nk at h
    cases e : nkA ds with
    | none => rw [e] at h; cases h
    | some ks =>
      rw [e] at h
      cases h
      cases hd with
      | @tup a vs _ h1 h2 =>
        obtain rfl : u = Value.ref a := r
        obtain ⟨its, rv, hp, _⟩ := I.tuple h1
        obtain ⟨o, ho, hc, n, hdat⟩ := hp
        exact .tup ho hc hdat (nestedA I ds vs its ks h2 rv e)
  | .bool _, _, _, _, _, _, h => by cases h
  | .str _, _, _, _, _, _, h => by cases h
  | .list _, _, _, _, _, _, h => by cases h
  | .dict _, _, _, _, _, _, h => by cases h
theorem nestedA (I : Inv X pins σ H s) : ∀ (ds : List D) (vs : List V) (us : List Value) (ks : List NestedKey), DpAll X.K H vs ds → Vals vs us → nkA ds = some ks → NestedAll s.heap ks us
  | [], _, _, _, hd, r, h => by
    cases h; cases hd; cases r
    exact .nil
  | d :: ds, _, _, _, hd, r, h => by
    unfold nkA at h
    cases e1 : nk d with
    | none => rw [e1] at h; cases h
    | some k =>
      cases e2 : nkA ds with
      | none => rw [e1, e2] at h; cases h
      | some ks =>
        rw [e1, e2] at h
        cases h
        cases hd with
        | cons h1 h2 =>
          cases r with
          | cons r1 r2 => exact .cons (nestedV I d _ _ k h1 r1 e1) (nestedA I ds _ _ ks h2 r2 e2)
end
end
/-- may stand as a key -/
def keyOk (t : Bool) (d : D) : Bool := match t, d with
  | false, .int _ => true
  | true, .tuple ds => match nkA ds with
    | some ks => decide ((NestedKey.tup ks).depth ≤ 8)
    | none => false
  | _, _ => false
theorem keyOk_int {d : D} (h : keyOk false d = true) : ∃ i, d = .int i := by
  cases d with
  | int i => exact ⟨i, rfl⟩
  | _ => cases h
theorem keyOk_tup {d : D} (h : keyOk true d = true) : ∃ ds k, d = .tuple ds ∧ nk d = some k ∧ k.depth ≤ 8 := by
  cases d with
  | tuple ds =>
    have h' : (match nkA ds with | some ks => decide ((NestedKey.tup ks).depth ≤ 8) | none => false) = true := h
    cases e : nkA ds with
    | none => rw [e] at h'; cases h'
    | some ks =>
      rw [e] at h'
      refine ⟨ds, .tup ks, rfl, ?_, of_decide_eq_true h'⟩
      unfold nk
      rw [e]
  | _ => cases h
/-- what the dict holds at the key -/
def lookK (kv : List (D × D)) (k : Option NestedKey) : Option D := (kv.find? fun q => decide (nk q.1 = k)).map (·.2)
/-- a pair more, or another value -/
def putD (kv : List (D × D)) (kd vd : D) : List (D × D) := if (lookK kv (nk kd)).isSome = true then kv.map fun q => if nk q.1 = nk kd then (q.1, vd) else q else kv ++ [(kd, vd)]
abbrev EntR (K : PySem.W.Frag) (F : Hp) : NestedKey × Addr × V → D × D → Prop := fun x q => nk q.1 = some x.1 ∧ x.1.depth ≤ 8 ∧ Dp K F (.ref x.2.1) q.1 ∧ Dp K F x.2.2 q.2
abbrev EntV : NestedKey × Addr × V → NestedKey × Addr × Value → Prop := fun p q => p.1 = q.1 ∧ p.2.1 = q.2.1 ∧ L2.RelV p.2.2 q.2.2
section
variable {K : PySem.W.Frag} {F : Hp}
theorem look_int {i : Int} : ∀ {ks : List (Int × V)} {kv : List (D × D)}, Paired (fun (p : Int × V) (q : D × D) => q.1 = .int p.1 ∧ Dp K F p.2 q.2) ks kv →
    match lookK kv (nk (.int i)), valV (ks.map fun p => ((.inl p.1 : Key), p.2)) (.inl i) with
    | some d, some v => Dp K F v d
    | none, none => True
    | _, _ => False
  | _, _, .nil => trivial
  | p :: ks, q :: kv, .cons h t => by
    obtain ⟨e1, h2⟩ := h
    by_cases hi : p.1 = i
    · have e2 : lookK (q :: kv) (nk (.int i)) = some q.2 := by
        unfold lookK
        rw [List.find?_cons_of_pos (by rw [e1, hi]; exact decide_eq_true rfl)]
        rfl
      have e3 : valV ((p :: ks).map fun p => ((.inl p.1 : Key), p.2)) (.inl i) = some p.2 := valV_pos (show (Sum.inl p.1 : Key) = .inl i by rw [hi])
      rw [e2, e3]
      exact h2
    · have e2 : lookK (q :: kv) (nk (.int i)) = lookK kv (nk (.int i)) := by
        unfold lookK
        rw [List.find?_cons_of_neg (by rw [e1]; exact fun z => hi (by have := of_decide_eq_true z; unfold nk at this; cases this; rfl))]
      have e3 : valV ((p :: ks).map fun p => ((.inl p.1 : Key), p.2)) (.inl i) = valV (ks.map fun p => ((.inl p.1 : Key), p.2)) (.inl i) := valV_neg fun z => hi (by cases z; rfl)
      rw [e2, e3]
      exact look_int t
theorem look_tup {k : NestedKey} : ∀ {xs : List (NestedKey × Addr × V)} {ys : List (NestedKey × Addr × Value)} {kv : List (D × D)}, Paired EntV xs ys → Paired (EntR K F) xs kv →
    match lookK kv (some k), atKey ys k with
    | some d, some p => ∃ v, L2.RelV v p.2 ∧ Dp K F v d
    | none, none => True
    | _, _ => False
  | _, _, _, .nil, .nil => trivial
  | x :: xs, y :: ys, q :: kv, .cons h t, .cons g u => by
    obtain ⟨e1, e2, e3⟩ := h
    obtain ⟨g1, g2, g3, g4⟩ := g
    by_cases hk : x.1 = k
    · have a1 : lookK (q :: kv) (some k) = some q.2 := by
        unfold lookK
        rw [List.find?_cons_of_pos (by rw [g1, hk]; exact decide_eq_true rfl)]
        rfl
      have a2 : atKey (y :: ys) k = some y.2 := by
        unfold atKey
        rw [List.find?_cons_of_pos (by rw [← e1, hk]; exact decide_eq_true rfl)]
        rfl
      rw [a1, a2]
      exact ⟨_, e3, g4⟩
    · have a1 : lookK (q :: kv) (some k) = lookK kv (some k) := by
        unfold lookK
        rw [List.find?_cons_of_neg (by rw [g1]; exact fun z => hk (Option.some.inj (of_decide_eq_true z)))]
      have a2 : atKey (y :: ys) k = atKey ys k := by
        unfold atKey
        rw [List.find?_cons_of_neg (by rw [← e1]; exact fun z => hk (of_decide_eq_true z))]
      rw [a1, a2]
      exact look_tup t u
end
section
variable {X : Cx} {pins : List (Addr × Obj)} {σ : L2.St} {H F : Hp} {s : Shared} {a : Addr} {u : HO} {c : DC} {y : V} {kd vd : D} {uy : Value} {A : Around} {E : Value → Shared → Prop}
/-- the dict with keys that are tuples, in the heap -/
theorem dc_heap (I : Inv X pins σ H s) {xs : List (NestedKey × Addr × V)} {kv : List (D × D)} (e : Rd H a (dcO a xs)) (hF : ∀ a o, F a = some o → H a = some o) (hp : Paired (EntR X.K F) xs kv) :
    (a == sysModules) = false ∧ xs.length ≤ sizeLine ∧ ∃ ys, Paired EntV xs ys ∧ s.heap.DictOfH (nestedKind X.prog X.w) a ys := by
  obtain ⟨⟨h1, h2, h3, o, es, ep, ys, h4, h5, h6, h7, h8⟩, _⟩ := e.ok I.hok
  refine ⟨h1, h2, ys, h7, o, es, ep, h4, h5, h6, h8 X.w, ?_, ?_⟩
  · have go : ∀ {xs : List (NestedKey × Addr × V)} {ys : List (NestedKey × Addr × Value)} {kv : List (D × D)}, Paired EntV xs ys → Paired (EntR X.K F) xs kv → ∀ z ∈ ys, (nestedKind X.prog X.w).is s.heap z.1 z.2.1 := fun {xs} => by
      induction xs with
      | nil =>
        intro ys kv p q z hz
        cases p
        cases hz
      | cons x xs ih =>
        intro ys kv p q z hz
        cases p with
        | cons p1 p2 =>
          cases q with
          | cons q1 q2 =>
            rcases List.mem_cons.mp hz with ez | hz
            · subst ez
              obtain ⟨e1, e2, _⟩ := p1
              obtain ⟨g1, g2, g3, _⟩ := q1
              rw [← e1, ← e2]
              exact ⟨nestedV I _ _ _ _ (Dp.mono hF _ _ g3) rfl g1, g2⟩
            · exact ih p2 q2 z hz
    exact go h7 hp
  · have go : ∀ {xs : List (NestedKey × Addr × V)} {ys : List (NestedKey × Addr × Value)}, Paired EntV xs ys → xs.map (·.1) = ys.map (·.1) := fun {xs} => by
      induction xs with
      | nil => intro ys p; cases p; rfl
      | cons x xs ih =>
        intro ys p
        cases p with
        | cons p1 p2 => rw [List.map_cons, List.map_cons, p1.1, ih p2]
    rw [← go h7]
    exact h3
theorem key_at (I : Inv X pins σ H s) (hy : Dp X.K H y kd) (hk : keyOk true kd = true) (ry : L2.RelV y uy) : ∃ b k, uy = .ref b ∧ y = .ref b ∧ nk kd = some k ∧ (nestedKind X.prog X.w).is s.heap k b := by
  obtain ⟨ds, k, rfl, h1, h2⟩ := keyOk_tup hk
  cases hy with
  | @tup b vs _ q1 q2 qx =>
    obtain rfl : uy = Value.ref b := ry
    exact ⟨b, k, rfl, rfl, h1, nestedV I _ _ _ _ (Dp.tup q1 q2 qx) rfl h1, h2⟩
theorem g_in {Q : Value → Shared → Prop} (hu : A.units + 9 < cLine) (I : Inv X pins σ H s) (e : Rd H a u) (hF : ∀ a o, F a = some o → H a = some o) (R : DictR X.K F a u c) (hy : Dp X.K H y kd) (hk : keyOk c.t kd = true) (ry : L2.RelV y uy)
    (h : ∀ s', Inv X pins σ H s' → Q (.bool (lookK c.kv (nk kd)).isSome) s') : wpAny (model X.prog X.w) A (compareOp .In uy (.ref a)) Q E s := by
  unfold DictR at R
  cases q : c.t with
  | false =>
    rw [q] at R hk
    obtain ⟨ks, rfl, _, hp⟩ := R
    obtain ⟨i, rfl⟩ := keyOk_int hk
    cases hy
    have z := look_int (i := i) hp
    refine d_in (by omega) I (.inl ⟨_, .inl i, e, rfl, rfl⟩) ry fun s' I' => ?_
    have e2 : (valV (ks.map fun p => ((.inl p.1 : Key), p.2)) (.inl i)).isSome = (lookK c.kv (nk (.int i))).isSome := by
      cases e3 : valV (ks.map fun p => ((.inl p.1 : Key), p.2)) (.inl i) <;> cases e4 : lookK c.kv (nk (.int i)) <;> rw [e3, e4] at z <;> first | rfl | exact z.elim
    rw [e2]
    exact h s' I'
  | true =>
    rw [q] at R hk
    obtain ⟨xs, rfl, hp⟩ := R
    obtain ⟨h1, _, ys, hv, dd⟩ := dc_heap I e hF hp
    obtain ⟨b, k, rfl, rfl, ek, hkey⟩ := key_at I hy hk ry
    have z := look_tup (k := k) hv hp
    refine wpAny_in_heap (show A.in1.units + 8 < cLine by show A.units + 1 + 8 < cLine; omega) hkey h1 dd ?_
    have e2 : (atKey ys k).isSome = (lookK c.kv (some k)).isSome := by
      cases e3 : atKey ys k <;> cases e4 : lookK c.kv (some k) <;> rw [e3, e4] at z <;> first | rfl | exact z.elim
    rw [e2, ← ek]
    exact h _ (I.tok _)
end
end DV

namespace DV
open PySem L2 PyProof.Rows LamX
section
variable {K : PySem.W.Frag} {F : Hp}
theorem Paired.map2 {α β α' β' : Type} {f : α → β → Prop} {g : α' → β' → Prop} {m : α → α'} {n : β → β'} : ∀ {xs : List α} {ys : List β}, Paired f xs ys → (∀ x y, f x y → g (m x) (n y)) → Paired g (xs.map m) (ys.map n)
  | _, _, .nil, _ => .nil
  | _, _, .cons h t, k => .cons (k _ _ h) (Paired.map2 t k)
theorem Paired.len {α β : Type} {f : α → β → Prop} : ∀ {xs : List α} {ys : List β}, Paired f xs ys → xs.length = ys.length
  | _, _, .nil => rfl
  | _, _, .cons _ t => congrArg (· + 1) (Paired.len t)
end
end DV

namespace DV
open PySem L2 PyProof.Rows LamX
def eGNew (t : Bool) : Env → M RV := fun _ => ret (.gn ⟨t, []⟩)
section
variable {X : Cx} {K : PySem.W.Frag} {R : RA} {L : Nat → Option (Addr × HO)} {E F F' H H' : Hp} {ρ ρ' : Env} {σ σ' : L2.St} {rs rs' : RS}
variable {o e i e2 : Expr} {pos spos apos cpos : Pos} {td ty tv tx : TE} {f h k : Env → M RV}
def dcOf : RV → Option DC
  | .gb c => some c
  | .gn c => some c
  | _ => none
def asKey : RV → Option D
  | .d d => some d
  | _ => none
theorem VR.dict {F H0 H : Hp} {v : V} {x : RV} {c : DC} (hv : VR K R F H0 H v x) (e : dcOf x = some c) : ∃ a u, v = .ref a ∧ H a = some u ∧ some a ≠ R.row ∧ DictR K F a u c := by
  cases x with
  | gb d =>
    cases e
    exact hv
  | gn d =>
    cases e
    obtain ⟨a, u, e1, h1, _, _, h2, h3⟩ := hv
    exact ⟨a, u, e1, h1, h2, h3⟩
  | d _ => cases e
  | b _ => cases e
  | n _ => cases e
  | row => cases e
theorem VR.key {F H0 H : Hp} {v : V} {x : RV} {d : D} (hv : VR K R F H0 H v x) (e : asKey x = some d) : Dp K F v d := by
  cases x with
  | d y => cases e; exact hv
  | b _ => cases e
  | n _ => cases e
  | gb _ => cases e
  | gn _ => cases e
  | row => cases e
def eGGet (f h : Env → M RV) : Env → M RV := fun ρ => bnd (f ρ) fun x => bnd (lft (dcOf x)) fun c => bnd (h ρ) fun y => bnd (lft (asKey y)) fun kd => if keyOk c.t kd = true then bnd (lft (lookK c.kv (nk kd))) fun vd => ret (.d vd) else fail
def eGGet2 (f h k : Env → M RV) : Env → M RV := fun ρ => bnd (f ρ) fun x => bnd (lft (dcOf x)) fun c => bnd (h ρ) fun y => bnd (lft (asKey y)) fun kd => bnd (k ρ) fun z => if keyOk c.t kd = true then match lookK c.kv (nk kd) with
  | some vd => ret (.d vd)
  | none => ret z
  else fail
def own_g (ρ : Env) (i : Nat) : Option DC := match ρ[i]? with
  | some (some (.g c)) => some c
  | _ => none
def sGPut (i : Nat) (f g : Env → M RV) : Env → M Out := fun ρ => bnd (f ρ) fun x => bnd (lft (toD x)) fun vd => bnd (g ρ) fun y => bnd (lft (asKey y)) fun kd => bnd (lft (own_g ρ i)) fun c =>
  if keyOk c.t kd = true ∧ c.kv.length ≤ 100000 then ret (.nx (ρ.set i (some (.g ⟨c.t, putD c.kv kd vd⟩)))) else fail
end
end DV

namespace DV
open PySem L2 PyProof.Rows LamX
/-- the pairs of a dict's object -/
def PsOf (d : Addr) (u : HO) (ps : List (V × V)) : Prop := (∃ ks : List (Key × V), u = .dK ks ∧ ps = ks.map fun p => (kV p.1, p.2)) ∨ ∃ xs : List (NestedKey × Addr × V), u = dcO d xs ∧ ps = xs.map fun x => (.ref x.2.1, x.2.2)
abbrev GP (K : PySem.W.Frag) (F : Hp) : V × V → D × D → Prop := fun p q => Dp K F p.1 q.1 ∧ Dp K F p.2 q.2
theorem DictR.ps {K : PySem.W.Frag} {F : Hp} {a : Addr} {u : HO} {c : DC} (R : DictR K F a u c) : ∃ ps, PsOf a u ps ∧ Paired (GP K F) ps c.kv := by
  unfold DictR at R
  cases e : c.t with
  | false =>
    rw [e] at R
    obtain ⟨ks, rfl, _, hp⟩ := R
    refine ⟨_, .inl ⟨_, rfl, rfl⟩, ?_⟩
    rw [List.map_map]
    have := Paired.map2 (g := GP K F) (m := fun p : Int × V => (V.int p.1, p.2)) (n := id) hp fun x q h => ⟨by rw [show (id q).1 = q.1 from rfl, h.1]; exact Dp.int _, h.2⟩
    rw [List.map_id] at this
    exact this
  | true =>
    rw [e] at R
    obtain ⟨xs, rfl, hp⟩ := R
    refine ⟨_, .inr ⟨_, rfl, rfl⟩, ?_⟩
    have := Paired.map2 (g := GP K F) (m := fun x : NestedKey × Addr × V => (V.ref x.2.1, x.2.2)) (n := id) hp fun x q h => ⟨h.2.2.1, h.2.2.2⟩
    rw [List.map_id] at this
    exact this
end DV


namespace DV
open PySem L2 PyProof.Rows LamX
section
variable {X : Cx} {K : PySem.W.Frag} {R : RA} {k v : Expr} {tk tv : TE} {pos : Pos}
def eG1 (t : Bool) (f h : Env → M RV) : Env → M RV := fun ρ => bnd (f ρ) fun x => bnd (lft (asKey x)) fun kd => bnd (h ρ) fun y => bnd (lft (toD y)) fun vd => if keyOk t kd = true then ret (.gn ⟨t, [(kd, vd)]⟩) else fail
end
end DV

namespace DV
open PySem L2 PyProof.Rows LamX PySem.W
/-- what is listed -/
def wkV : Bool → V × V → V
  | true, p => p.2
  | false, p => p.1
def wkB : Bool → D × D → D
  | true, q => q.2
  | false, q => q.1
section
variable {X : Cx} {td : TE} {e : Expr} {apos cpos pos p : Pos}
/-- something to be listed -/
def PGs (X : Cx) (b : Bool) (it : Expr) (td : TE) : Prop :=
  ∀ (pins : List (Addr × Obj)) (s : Shared) (σ : L2.St) (H : Hp) (Q : List (V × V) → Hp → Prop), Inv X pins σ H s → (td σ H fun x H1 => ∃ d u ps, x = .ref d ∧ H1 d = some u ∧ PsOf d u ps ∧ Q ps H1) →
    wpAny (model X.prog X.w) X.A (eval it X.env) (fun x s' => ∃ (r d : Addr) (T : String) (n : Nat) (P : Nat → Value → Prop) (OK : Heap → Prop) (H1 : Hp) (ps : List (V × V)), x = .ref r ∧ Inv X pins σ H1 s' ∧ KdlSrc X.prog X.w T r d n P OK ∧ OK s'.heap ∧ n = ps.length ∧ n ≤ sizeLine ∧ (∀ j w, P j w → ∃ p, ps[j]? = some p ∧ L2.RelV (wkV b p) w) ∧ Q ps H1) X.xe s
def eListG (b : Bool) (f : Env → M RV) : Env → M RV := fun ρ => bnd (f ρ) fun x => bnd (lft (dcOf x)) fun c => ret (.n (c.kv.map (wkB b)))
end
end DV


namespace DV
open PySem L2 PyProof.Rows LamX
def dcF (tg : D → Env → Option Env) (tst : Env → M Bool) (kf vf : Env → M RV) (ρ : Env) : List D → List (D × D) → M (List (D × D))
  | [], kv => ret kv
  | x :: xs, kv => bnd (lft (tg x ρ)) fun ρ1 => bnd (tst ρ1) fun b => if b = true then bnd (kf ρ1) fun y => bnd (lft (asInt y)) fun i => bnd (vf ρ1) fun z => bnd (lft (asKey z)) fun d => dcF tg tst kf vf ρ xs (putD kv (.int i) d) else dcF tg tst kf vf ρ xs kv
def eDc (fi : Env → M (List D × Option Nat)) (vs : List Nat) (tg : D → Env → Option Env) (tst : Env → M Bool) (kf vf : Env → M RV) : Env → M RV := fun ρ =>
  bnd (fi ρ) fun p => if p.1.length ≤ 50000 then bnd (dcF tg tst kf vf (wipeE ρ vs) p.1 []) fun kv => ret (.gn ⟨false, kv⟩) else fail
end DV


namespace DVL
open PySem L2 DV
def g__law_taken : DV.Env → M Out :=
  (sSeq (sIf (eT (e2 gGt (eRow 0 3) (eC (.int 0)))) (sSeq (sSet 2 (e2 gMod (eCall gInt (aCons (eRow 0 3) aNil)) (eVar 1)))
  (sSeq (sRowPut 0 3 (e2 gFdiv (eRow 0 3) (eVar 1)))
  (sRetV 2))) sNil)
  (sSeq (sRowPut 0 1 (e2 gAddA (eRow 0 1) (eC (.int 1))))
  (sSeq (sIf (eT (e2 gGt (eRow 0 1) (eCall gLen (aCons (eRow 0 0) aNil)))) (sSeq (sRowPut 0 2 (e2 gMod (eCall gInt (aCons (e2 gAddA (e2 gMulA (eRow 0 2) (eC (.int 48271))) (eC (.int 11))) aNil)) (eC (.int 2147483647))))
  (sRet (e2 gMod (eCall gInt (aCons (e2 gFdiv (eRow 0 2) (eC (.int 7))) aNil)) (eVar 1)))) sNil)
  (sSeq (sSet 3 (e2 gIx (eRow 0 0) (e2 gSubI (eRow 0 1) (eC (.int 1)))))
  (sSeq (sRowPut 0 2 (e2 gMod (eCall gInt (aCons (e2 gAddA (e2 gAddA (e2 gMulA (eRow 0 2) (eC (.int 48271))) (eVar 3)) (eC (.int 11))) aNil)) (eC (.int 2147483647))))
  (sSeq (sIf (eT (e2 gGe (eVar 3) (e2 gPow (eC (.int 10)) (eC (.int 18))))) (sRowPut 0 3 (e2 gFdiv (eVar 3) (eVar 1))) sNil)
  (sRet (e2 gMod (eCall gInt (aCons (eVar 3) aNil)) (eVar 1)))))))))
def m__law_taken : List RV → M RV := runDef 4 g__law_taken
def g__law_pick : DV.Env → M Out :=
  (sRet (e2 gIx (eVar 1) (eFn (fun xs => if xs.length = 2 then m__law_taken xs else fail) (aCons (eVar 0) (aCons (eCall gLen (aCons (eVar 1) aNil)) aNil)))))
def m__law_pick : List RV → M RV := runDef 2 g__law_pick
def g__law_jobs : DV.Env → M Out :=
  (sSeq (sPar3 3 4 5 (aCons (e2 gAddA (eC (.int 1)) (eFn (fun xs => if xs.length = 2 then m__law_taken xs else fail) (aCons (eVar 0) (aCons (eVar 1) aNil)))) (aCons (eFn (fun xs => if xs.length = 2 then m__law_pick xs else fail) (aCons (eVar 0) (aCons (eLst (aCons (eC (.int 2)) (aCons (eVar 2) aNil))) aNil))) (aCons (eFn (fun xs => if xs.length = 2 then m__law_pick xs else fail) (aCons (eVar 0) (aCons (eLst (aCons (eC (.int 1)) (aCons (eC (.int 3)) (aCons (eC (.int 9)) aNil)))) aNil))) aNil))))
  (sSeq (sSet 6 (eCall gTuple (aCons (eLc (iRng1F (eVar 3)) [7] (gNm 7) tTrue (e2 gAddA (eC (.int 1)) (eFn (fun xs => if xs.length = 2 then m__law_taken xs else fail) (aCons (eVar 0) (aCons (eVar 4) aNil))))) aNil)))
  (sSeq (sSet 8 (eCall gTuple (aCons (eLc (iRng1F (eVar 3)) [7] (gNm 7) tTrue (eFn (fun xs => if xs.length = 2 then m__law_taken xs else fail) (aCons (eVar 0) (aCons (e2 gAddA (eVar 5) (eC (.int 1))) aNil)))) aNil)))
  (sSeq (sSet 9 (e2 gAddA (eCall gSum (aCons (eVar 6) aNil)) (eC (.int 2))))
  (sSeq (sSet 10 (eCall gTuple (aCons (eLc (iRng1F (eVar 3)) [7] (gNm 7) tTrue (eFn (fun xs => if xs.length = 2 then m__law_taken xs else fail) (aCons (eVar 0) (aCons (eVar 9) aNil)))) aNil)))
  (sRet (eTup (aCons (eVar 6) (aCons (eVar 8) (aCons (eVar 10) aNil))))))))))
def m__law_jobs : List RV → M RV := runDef 11 g__law_jobs
def g_is_integer : DV.Env → M Out :=
  (sRet (eIfB (eIsT .int (eVar 0)) (eNotB (eIsT .bool (eVar 0))) (eC (.bool false))))
def m_is_integer : List RV → M RV := runDef 1 g_is_integer
def g_is_in : DV.Env → M Out :=
  (sRet (eIfB (eFn (fun xs => if xs.length = 1 then m_is_integer xs else fail) (aCons (eVar 0) aNil)) (eCh gLe gLe (eVar 1) (eVar 0) (eVar 2)) (eC (.bool false))))
def m_is_in : List RV → M RV := runDef 3 g_is_in
def g_is_list : DV.Env → M Out :=
  (sRet (eIfB (eIsT .tuple (eVar 0)) (eCh gLe gLe (eVar 1) (eCall gLen (aCons (eVar 0) aNil)) (eVar 2)) (eC (.bool false))))
def m_is_list : List RV → M RV := runDef 3 g_is_list
def g_is_order : DV.Env → M Out :=
  (sRet (eIfB (eFn (fun xs => if xs.length = 3 then m_is_list xs else fail) (aCons (eVar 0) (aCons (eVar 1) (aCons (eVar 1) aNil)))) (eIfB (eCall gAll (aCons (eLc (srcV 0) [2] (gNm 2) tTrue (eFn (fun xs => if xs.length = 3 then m_is_in xs else fail) (aCons (eVar 2) (aCons (eC (.int 0)) (aCons (e2 gSubI (eVar 1) (eC (.int 1))) aNil))))) aNil)) (e2 gEq (eLenSet (eVar 0)) (eVar 1)) (eC (.bool false))) (eC (.bool false))))
def m_is_order : List RV → M RV := runDef 3 g_is_order
def g_need_order : DV.Env → M Out :=
  (sIf (tNotF (eT (eFn (fun xs => if xs.length = 2 then m_is_order xs else fail) (aCons (eVar 0) (aCons (eVar 1) aNil))))) sNever sNil)
def m_need_order : List RV → M RV := runDef 2 g_need_order
def g_first_bad : DV.Env → M Out :=
  (sSeq (sIf (tNotF (eT (eFn (fun xs => if xs.length = 3 then m_is_list xs else fail) (aCons (eVar 0) (aCons (eVar 1) (aCons (eVar 1) aNil)))))) (sRet (eC .none)) sNil)
  (sSeq (sFor (iEnumF (srcV 0)) (gTupF 2 (gMore (gNm 4) (gMore (gNm 5) gNone))) (sIf (tNotF (eT (eFn (fun xs => if xs.length = 3 then m_is_in xs else fail) (aCons (eVar 5) (aCons (eVar 2) (aCons (eVar 3) aNil)))))) (sRetV 4) sNil))
  (sRet (eNeg (eC (.int 1))))))
def m_first_bad : List RV → M RV := runDef 6 g_first_bad
def g_need_times : DV.Env → M Out :=
  (sSeq (sIf (tNotF (eT (eFn (fun xs => if xs.length = 3 then m_is_list xs else fail) (aCons (eVar 0) (aCons (eC (.int 1)) (aCons (eC (.int 10)) aNil)))))) sNever sNil)
  (sSeq (sSet 1 (eFn (fun xs => if xs.length = 4 then m_first_bad xs else fail) (aCons (eVar 0) (aCons (eCall gLen (aCons (eVar 0) aNil)) (aCons (eC (.int 1)) (aCons (eC (.int 60)) aNil))))))
  (sIf (eT (e2 gNe (eVar 1) (eNeg (eC (.int 1))))) sNever sNil)))
def m_need_times : List RV → M RV := runDef 2 g_need_times
end DVL

namespace DV
open PySem L2 PyProof.Rows
section
variable {X : Cx} {K : PySem.W.Frag} {R : RA} {L : Nat → Option (Addr × HO)} {E F F' H H' : Hp} {ρ ρ' : Env} {σ σ' : L2.St} {rs rs' : RS} {tg e c : Expr} {pos p : Pos} {te : TE} {f : Env → M RV}
def dI : D → Option Int
  | .int a => some a
  | _ => none
/-- x[k] op= e, ints -/
def sAugIx (i : Nat) (kf : Int → Int → Int) (g f : Env → M RV) : Env → M Out := fun ρ => bnd (lft (sApp.own? ρ i)) fun ds => bnd (g ρ) fun y => bnd (lft (asInt y)) fun j => bnd (lft (ixN ds.length j)) fun m => bnd (lft ((ds[m]?).bind dI)) fun a => bnd (f ρ) fun x => bnd (lft (asInt x)) fun b => ret (.nx (ρ.set i (some (.o (ds.set m (.int (kf a b)))))))
def pickA {α : Type} (xs : List α) (lo st : Int) : List α := (sliceRange (sliceBounds (some lo) none (some st) xs.length).1 (sliceBounds (some lo) none (some st) xs.length).2.1 (sliceBounds (some lo) none (some st) xs.length).2.2).filterMap (xs[·]?)
def eStep (f : Env → M RV) (lo st : Env → M (Option Int)) : Env → M RV := fun ρ => bnd (f ρ) fun x => bnd (lo ρ) fun l => bnd (st ρ) fun k => match l, k with
  | some l, some k => if k = 0 then fail else bnd (lft (newL x)) fun ds => ret (.n (pickA ds l k))
  | _, _ => fail
inductive Tgt where
  | nm (i : Nat) | sb (i : Nat) (f : Env → M RV)
def tgtF : Tgt → D → Env → M Env
  | .nm i, d, ρ => ret (ρ.set i (some (.d d)))
  | .sb i f, d, ρ => bnd (lft (sApp.own? ρ i)) fun ds => bnd (f ρ) fun y => bnd (lft (asInt y)) fun j => bnd (lft (ixN ds.length j)) fun m => ret (ρ.set i (some (.o (ds.set m d))))
def asDat : RV → Option D
  | .d x => some x
  | _ => none
def sTwo (t1 t2 : Tgt) (fa : Env → M (List RV)) : Env → M Out := fun ρ => bnd (fa ρ) fun xs => match xs with
  | [x, y] => bnd (lft (asDat x)) fun d => bnd (lft (asDat y)) fun e => bnd (tgtF t1 d ρ) fun ρ1 => bnd (tgtF t2 e ρ1) fun ρ2 => ret (.nx ρ2)
  | _ => fail
end
end DV

namespace DV
open PySem L2
def eLk (i : Nat) (f : Env → M RV) : Env → M RV := fun ρ => f (lockE ρ (some i))
section
variable {X : Cx} {K : PySem.W.Frag} {R : RA} {t : TE} {f : Env → M RV} {e : Expr}
theorem esem_lk (i : Nat) (h : ESem K R t f) : ESem K R t (eLk i f) := fun L E ρ σ F H rs x rs' Q r hf k => by
  by_cases c : ∃ ds, ρ[i]? = some (some (SV.o ds))
  · obtain ⟨ds, eo⟩ := c
    obtain ⟨v, ev, a, vs, rfl, h1, h2, h3, h4, h5⟩ := r.sl i _ eo
    have pn : PinOk K R E F H H ρ σ (some i) fun b => if b = a then some (.lst vs) else none := fun b o e => by
      by_cases hb : b = a
      · subst hb
        have e' : (if b = b then some (HO.lst vs) else none) = some o := e
        rw [if_pos rfl] at e'
        cases e'
        exact ⟨h1, h4, .lst, .inr (.inr ⟨i, ds, rfl, eo, ev⟩)⟩
      · have e' : (if b = a then some (HO.lst vs) else none) = some o := e
        rw [if_neg hb] at e'
        cases e'
    obtain ⟨L2, E2, pd⟩ := pinned r r.refl pn
    exact h L2 E2 (lockE ρ (some i)) σ F H rs x rs' Q pd.rel hf k
  · have e : lockE ρ (some i) = ρ := lock_none fun ds z => c ⟨ds, z⟩
    unfold eLk at hf
    rw [e] at hf
    exact h L E ρ σ F H rs x rs' Q r hf k
end
section
variable {X : Cx} {K : PySem.W.Frag} {R : RA} {S : List Nat} {tg it elt : Expr} {ifs : List Expr} {g : TG} {hg : D → Env → Option Env} {pos : Pos} {tt : TT} {te : TE} {wi : TI}
theorem ds_setLcK {i k : Nat} {y : Str} {py spos : Pos} {scope : Scope} {own : List (Str × Nat)} {fi : Env → M (List D × Option Nat)} {tst : Env → M Bool} {el : Env → M RV} (hc : X.calm = true) (hN : X.N.Nodup) (hy : X.N[i]? = some y) (hyl : X.env.scope.names.lookup y = some .local)
    (hsw : swapsWith (.ListComp elt [⟨tg, it, ifs, 0⟩] scope pos) (some (.Name y py)) spos.line X.env = pure true) (hi : DI X R tg it wi fi) (ok : BlkOk X.N X.env.scope scope own) (hS : ∀ i ∈ S, i ∈ own.map (·.2))
    (hg' : ∀ (s : Shared) (H : Hp) (C : Addr) (cl : List (Str × Addr)) (fp : List Addr), DG (X.blk s H scope (compEnvC scope cl C X.env) fp) R S tg g hg) (ht : ∀ (s : Shared) (H : Hp) (C : Addr) (cl : List (Str × Addr)) (fp : List Addr), DTs (X.blk s H scope (compEnvC scope cl C X.env) fp) R ifs tt tst)
    (he : ∀ (s : Shared) (H : Hp) (C : Addr) (cl : List (Str × Addr)) (fp : List Addr), DE (X.blk s H scope (compEnvC scope cl C X.env) fp) R elt te el) (hs : ∀ x, foldedSetIterable it X.env x = pure x := by intro _; rfl) :
    DS X R (.Assign [.Name y py] (.ListComp elt [⟨tg, it, ifs, 0⟩] scope pos) spos) (tAsg (tLc wi g tt te (own.map (·.2))) (gName i)) (sSet i (eLk k (eLc fi (own.map (·.2)) hg tst el))) :=
  ⟨ps_setLc hc hN hy hyl hsw hi.pi ok (fun s H C cl fp => (hg' s H C cl fp).pg) (fun s H C cl fp => (ht s H C cl fp).pt) (fun s H C cl fp => (he s H C cl fp).pe) hs,
    ssem_set (esem_lk k (esem_lc hi.sem (hg' {} (fun _ => none) 0 [] []).sem hS (ht {} (fun _ => none) 0 [] []).sem (he {} (fun _ => none) 0 [] []).sem))⟩
end
end DV

namespace DV
open PySem L2
def wideN : Nat := 2 ^ 8000
theorem wideN_eq : wideN = 2 ^ 8000 := rfl
def cMulW (i j : Int) : Bool := decide (i.natAbs < wideN) && decide (j.natAbs < wideN)
theorem cMulW_ok (i j : Int) (h : cMulW i j = true) : CMulW i j := by
  unfold cMulW at h
  rw [Bool.and_eq_true, decide_eq_true_eq, decide_eq_true_eq] at h
  exact wide_mul (a := 8000) (b := 8000) h.1 h.2 (by decide) (by decide) (by decide)
def cDivW (i j : Int) : Bool := decide (0 < j) && decide (j.natAbs < wideN)
theorem cDivW_ok (i j : Int) (h : cDivW i j = true) : CDivW i j := by
  unfold cDivW at h
  rw [Bool.and_eq_true, decide_eq_true_eq, decide_eq_true_eq] at h
  exact wide_div (b := 8000) h.1 h.2 (by decide) (by decide)
abbrev gMulW := gI cMulW fun i j => .int (i * j)
abbrev gFdivW := gI cDivW fun i j => .int (i / j)
section
variable {X : Cx} {K : PySem.W.Frag} {R : RA}
theorem rs_fdivW : RSem K R (rI CDivW fun i j => .int (i / j)) gFdivW := rsem_I cDivW_ok fun F i j => .int _
theorem rs_mulW : RSem K R (rI CMulW fun i j => .int (i * j)) gMulW := rsem_I cMulW_ok fun F i j => .int _
abbrev rMulB (K : PySem.W.Frag) : R2 := fun x y H Q => rMulA K x y H Q ∨ rI CMulW (fun i j => .int (i * j)) x y H Q
def gMulB (x y : RV) : Option RV := match gMulA x y with
  | some z => some z
  | none => gMulW x y
theorem op_mulB : OpR X (binaryOp .Mult) (rMulB X.K) := OpR.or op_mulA op_mulW
theorem rsem_mulB : RSem K R (rMulB K) gMulB := fun F H0 H rs x y p q z Q s hx hy e kk => by
  unfold gMulB at e
  cases h : gMulA p q with
  | some z2 =>
    rw [h] at e
    cases e
    exact .inl (rsem_mul F H0 H rs x y p q z Q s hx hy h kk)
  | none =>
    rw [h] at e
    exact .inr (rs_mulW F H0 H rs x y p q z Q s hx hy e kk)
end
theorem gMulB_int {a b : Int} (ha : a.natAbs < wideN) (hb : b.natAbs < wideN) : gMulB (.d (.int a)) (.d (.int b)) = some (.d (.int (a * b))) := by
  have hw : gMulW (.d (.int a)) (.d (.int b)) = some (.d (.int (a * b))) := by
    show (if cMulW a b = true then some (RV.d (.int (a * b))) else none) = _
    rw [if_pos]
    unfold cMulW
    rw [decide_eq_true ha, decide_eq_true hb]
    rfl
  unfold gMulB
  cases h : gMulA (.d (.int a)) (.d (.int b)) with
  | none => exact hw
  | some z =>
    rcases gMulA_some h with ⟨i, j, e1, e2, _, rfl⟩ | ⟨ds, j, e1, _⟩ | ⟨ds, j, e1, _⟩
    · cases e1
      cases e2
      rfl
    · cases e1
    · cases e1
end DV








namespace DV
open PySem L2 PyProof.Rows
section
variable {X : Cx} {K : PySem.W.Frag} {R : RA} {L : Nat → Option (Addr × HO)} {E F F' H H' : Hp} {ρ ρ' : Env} {σ σ' : L2.St} {rs rs' : RS}
variable {S S' : List Nat} {tg it elt e e2 c : Expr} {es ifs : List Expr} {g : TG} {hg : D → Env → Option Env} {pos p : Pos} {te t1 t2 : TE} {tt : TT} {ta : TA} {wi : TI}
/-- what stands already, and what is pinned -/
theorem Rel.pinE (r : Rel K R L E F ρ σ rs H) {F2 H2 : Hp} {rs1 : RS} (s : Step K R rs1 F H F2 H2) {P : Hp} (pn : PinOk K R E F2 H H2 ρ σ none P) : Rel K R L (addH E P) F2 ρ σ rs1 H2 := by
  have r2 := r.step s
  have npin : ∀ {b o}, H b = some o → E b = none → P b = none := fun {b o} e1 e2 => by
    cases q : P b with
    | none => rfl
    | some u =>
      rcases (pn b u q).2.2.2 with ⟨z, _⟩ | z | ⟨_, _, z, _⟩
      · rw [e1] at z; cases z
      · rw [e2] at z; cases z
      · cases z
  have addn : ∀ {b o}, H b = some o → E b = none → addH E P b = none := fun {b o} e1 e2 => by
    unfold addH
    rw [e2]
    exact npin e1 e2
  refine ⟨r2.len, fun a o e => ?_, fun a o e => ?_, r2.fr, r2.row, fun q e => ⟨?_, (r2.rE q e).2⟩, fun i a vs e => ?_, fun i sv e => ?_, r2.own⟩
  · unfold addH at e
    cases q : E a with
    | some u => rw [q] at e; cases e; exact r2.ex a o q
    | none => rw [q] at e; exact (pn a o e).1
  · unfold addH at e
    cases q : E a with
    | some u => rw [q] at e; cases e; exact r2.ent a o q
    | none => rw [q] at e; exact (pn a o e).2.2.1
  · unfold addH
    rw [(r.rE q e).1]
    cases z : P q with
    | none => rfl
    | some u => exact absurd e.symm (pn q u z).2.1
  · unfold addH
    rw [r2.lk i a vs e]
  · obtain ⟨v, e1, q⟩ := r2.sl i sv e
    obtain ⟨v0, e0, q0⟩ := r.sl i sv e
    rw [e1] at e0
    cases e0
    refine ⟨v, e1, ?_⟩
    cases sv with
    | o ds =>
      obtain ⟨a, vs, ea, h1, h2, h3, h4, h5⟩ := q
      obtain ⟨a0, vs0, ea0, g1, g2, _⟩ := q0
      rw [ea] at ea0
      cases ea0
      exact ⟨a, vs, ea, h1, addn g1 g2, h3, h4, h5⟩
    | g c =>
      obtain ⟨a, u, ea, h1, h2, h3, h4, h5⟩ := q
      obtain ⟨a0, u0, ea0, g1, g2, _⟩ := q0
      rw [ea] at ea0
      cases ea0
      exact ⟨a, u, ea, h1, addn g1 g2, h3, h4, h5⟩
    | d _ => exact q
    | k _ => exact q
    | un => exact q
    | row => exact q
    | ex _ _ => exact q
    | fn _ => exact q
    | lm => exact q
    | m _ => exact q
end
end DV







namespace DV
open PySem L2 LamX PyProof.Rows PySem.Spec
section
variable {X : Cx} {pins : List (Addr × Obj)} {σ : L2.St} {H HZ : Hp} {s s1 : Shared}
/-- what stays -/
def Kp (K : PySem.W.Frag) (H H' : Hp) : Prop := ∀ a o, H a = some o → Fx K a o → H' a = some o
end
end DV

namespace DV
open PySem L2 LamX PyProof.Rows PySem.Spec
section
variable {Y : Cx} {K : PySem.W.Frag} {R : RA} {fs : List Addr} {s : Shared} {H : Hp} {f : Addr} {np k i : Nat} {φ : List Int → Option Int} {e : Expr} {es : List Expr} {ta : TA} {fa : Env → M (List RV)} {p1 p2 : Pos} {a : Str}
def intsRV : List RV → Option (List Int)
  | [] => some []
  | .d (.int i) :: xs => (intsRV xs).map (i :: ·)
  | _ => none
theorem VRs.ints {F H0 H : Hp} : ∀ {vs : List V} {xs : List RV} {js : List Int}, VRs K R F H0 H vs xs → intsRV xs = some js → vs = js.map V.int
  | _, _, _, .nil, h => by cases h; rfl
  | _, x :: xs, js, .cons h1 t, h => by
    cases x with
    | d y =>
      cases y with
      | int i =>
        unfold intsRV at h
        cases e2 : intsRV xs with
        | none => rw [e2] at h; cases h
        | some ks =>
          rw [e2] at h
          cases h
          have := t.ints e2
          subst this
          cases h1
          rfl
      | _ => cases h
    | _ => cases h
theorem Step.kp {F H H' : Hp} {rs : RS} (s : Step K R rs F H F H) (kp : Kp K H H') (tb : Tabs (tabsOf K) H') : Step K R rs F H F H' :=
  ⟨fun a o h _ n => kp a o h n, fun _ _ h => h, fun _ _ h => .inl h, fun a o h => kp a o (s.fin a o h) (s.row.fnt a o h), ⟨fun r e => by
    obtain ⟨a, e1, h2, h3⟩ := s.row.at_ r e
    exact ⟨a, kp _ _ e1 Fx.lst, h2, h3⟩, tb, s.row.fnt⟩, s.rF⟩
end
end DV

namespace DV
open PySem L2 LamX PyProof.Rows PySem.Spec
section
variable {K : PySem.W.Frag} {R R' : RA} {F F' H H' H0 : Hp} {rs rs' : RS}
theorem RowOk.as (e : R.row = R'.row) (r : RowOk K R rs F H) : RowOk K R' rs F H := ⟨fun q h => r.at_ q (e.trans h), r.tab, r.fnt⟩
theorem Step.as (e : R.row = R'.row) (s : Step K R rs F H F' H') : Step K R' rs F H F' H' :=
  ⟨fun a o h n x => s.keep a o h (by rw [e]; exact n) x, s.sub, s.new, s.fin, s.row.as e, fun q h => s.rF q (e.trans h)⟩
theorem VR.as (e : R.row = R'.row) {v : V} {x : RV} (h : VR K R F H0 H v x) : VR K R' F H0 H v x := by
  cases x with
  | d _ => exact h
  | b _ =>
    obtain ⟨a, vs, e1, h1, h2, h3⟩ := h
    exact ⟨a, vs, e1, h1, by rw [← e]; exact h2, h3⟩
  | n _ =>
    obtain ⟨a, vs, e1, h1, h2, h3, h4, h5⟩ := h
    exact ⟨a, vs, e1, h1, h2, h3, by rw [← e]; exact h4, h5⟩
  | gb _ =>
    obtain ⟨a, vs, e1, h1, h2, h3⟩ := h
    exact ⟨a, vs, e1, h1, by rw [← e]; exact h2, h3⟩
  | gn _ =>
    obtain ⟨a, vs, e1, h1, h2, h3, h4, h5⟩ := h
    exact ⟨a, vs, e1, h1, h2, h3, by rw [← e]; exact h4, h5⟩
  | row =>
    obtain ⟨r, e1, h1⟩ := h
    exact ⟨r, e.symm.trans e1, h1⟩
theorem VRs.as (e : R.row = R'.row) : ∀ {vs : List V} {xs : List RV}, VRs K R F H0 H vs xs → VRs K R' F H0 H vs xs
  | _, _, .nil => .nil
  | _, _, .cons h t => .cons (h.as e) (t.as e)
end
end DV



namespace Lk89
open PySem L2 DV
def top (i : Nat) : Stmt := PySem.Challenge.pw_shoporders_k89_whole_work_left_on_speeds.main.body.getD i (.Pass ⟨0, 0, 0, 0⟩)
abbrev s__law_taken : Stmt := top 26
abbrev s__law_pick : Stmt := top 27
abbrev s__law_jobs : Stmt := top 30
abbrev s__law_less : Stmt := top 31
abbrev s__law_gcd : Stmt := top 28
abbrev s__law_lowest : Stmt := top 29
abbrev s__law_minus : Stmt := top 32
abbrev s_is_integer : Stmt := top 1
abbrev s_is_in : Stmt := top 2
abbrev s_is_list : Stmt := top 3
abbrev s_need_speeds : Stmt := top 17
abbrev s_first_bad : Stmt := top 11
abbrev s_need_times : Stmt := top 12
abbrev s_ratio : Stmt := top 15
abbrev s_level_speeds : Stmt := top 18
abbrev s_is_less : Stmt := top 16
abbrev s_lowered : Stmt := top 21
abbrev s_minus : Stmt := top 20
abbrev s_next_step : Stmt := top 24
abbrev s_sorted_levels : Stmt := top 23
abbrev s_rates_of : Stmt := top 22
abbrev s_shared : Stmt := top 19
abbrev s_law : Stmt := top 33
structure Txt (mg : Str → Option Value) : Prop where
  b_abs : mg "abs" = none
  b_all : mg "all" = none
  b_bool : mg "bool" = none
  b_enumerate : mg "enumerate" = none
  b_int : mg "int" = none
  b_isinstance : mg "isinstance" = none
  b_len : mg "len" = none
  b_min : mg "min" = none
  b_range : mg "range" = none
  b_sorted : mg "sorted" = none
  b_sum : mg "sum" = none
  b_tuple : mg "tuple" = none
  b_zip : mg "zip" = none
  c_MOST_BENCHES : ∃ tk, mg "MOST_BENCHES" = some (.int 6 tk)
  c_MOST_JOBS : ∃ tk, mg "MOST_JOBS" = some (.int 10 tk)
  c_MOST_TIME : ∃ tk, mg "MOST_TIME" = some (.int 60 tk)
section
variable {P : Program} {w : World} {K : PySem.W.Frag} {mg : Str → Option Value} {base : Heap}
abbrev nm__law_taken : List Str := ["_law_row", "_law_many", "_law_found", "_law_cell"]
theorem sc__law_taken : FnScope nm__law_taken ["_law_row", "_law_many"] (defScope s__law_taken) := ⟨rfl, rfl, rfl, by decide +kernel, rfl, by decide +kernel, by decide +kernel⟩
abbrev g__law_taken : DV.Env → M Out := DVL.g__law_taken
abbrev m__law_taken : List RV → M RV := DVL.m__law_taken
theorem ok__law_taken {f : Addr} {fd : FuncData} (F : Fun K "_law_taken" "_law_taken" s__law_taken f fd) (T : Txt mg)  : FnOk P w K mg base CX0 1 f fd ["_law_row", "_law_many"] (spFn K 2 m__law_taken) := by
  have sc := sc__law_taken
  have e : spFn K 2 m__law_taken = spFn K (["_law_row", "_law_many"] : List Str).length (runDef nm__law_taken.length g__law_taken) := rfl
  rw [e]
  refine fn_ok (P := P) (w := w) (mg := mg) (base := base) (k := 0) (g := g__law_taken) F sc ?_
  intro R cdv A outer s H E hcd hr
  exact ⟨_, (dss_cons (ds_if (dt_cmp (r := (rI0 fun i j => .bl (decide (j < i)))) op_gt rs_gt (de_row 0 3 (de_var 0)) de_int (nomark _)) (dss_cons (ds_set (i := 2) sc.nd (by rfl) (by first | exact Or.inl rfl | exact Or.inr rfl) (de_op (r := (rI (fun _ j => 0 < j) fun i j => .int (i % j))) op_mod rs_mod (de_callTy (r := (fun xs H Q => (∃ i, xs = [.int i] ∧ Q (.int i) H) ∨ ∃ k, xs = [.bl k] ∧ Q (.int (if k then 1 else 0)) H)) call_int1 csem_int (by rfl) T.b_int PyProof.Rows.boot_int (da_cons (de_row 0 3 (de_var 0)) da_nil)) (de_var 1)))
    (dss_cons (ds_rowPut 0 3 (de_op (r := (rI CDiv fun i j => .int (i / j))) op_fdiv rs_fdiv (de_row 0 3 (de_var 0)) (de_var 1)) (de_var 0) (pg_sub (pv 0) pe_int set_list))
    (dss_one (ds_retV 2)))) dss_nil)
    (dss_cons (ds_rowPut 0 1 (de_op (r := (rAddA K)) op_addA rsem_add (de_row 0 1 (de_var 0)) de_int) (de_var 0) (pg_sub (pv 0) pe_int set_list))
    (dss_cons (ds_if (dt_cmp (r := (rI0 fun i j => .bl (decide (j < i)))) op_gt rs_gt (de_row 0 1 (de_var 0)) (de_callB (r := (DV.rLen K)) call_len_seq csem_len (by rfl) T.b_len PySem.boot_len (da_cons (de_row 0 0 (de_var 0)) da_nil)) (nomark _)) (dss_cons (ds_rowPut 0 2 (de_op (r := (rI (fun _ j => 0 < j) fun i j => .int (i % j))) op_mod rs_mod (de_callTy (r := (fun xs H Q => (∃ i, xs = [.int i] ∧ Q (.int i) H) ∨ ∃ k, xs = [.bl k] ∧ Q (.int (if k then 1 else 0)) H)) call_int1 csem_int (by rfl) T.b_int PyProof.Rows.boot_int (da_cons (de_op (r := (rAddA K)) op_addA rsem_add (de_op (r := (rMulA K)) op_mulA rsem_mul (de_row 0 2 (de_var 0)) de_int) de_int) da_nil)) de_int) (de_var 0) (pg_sub (pv 0) pe_int set_list))
    (dss_one (ds_ret (de_op (r := (rI (fun _ j => 0 < j) fun i j => .int (i % j))) op_mod rs_mod (de_callTy (r := (fun xs H Q => (∃ i, xs = [.int i] ∧ Q (.int i) H) ∨ ∃ k, xs = [.bl k] ∧ Q (.int (if k then 1 else 0)) H)) call_int1 csem_int (by rfl) T.b_int PyProof.Rows.boot_int (da_cons (de_op (r := (rI CDiv fun i j => .int (i / j))) op_fdiv rs_fdiv (de_row 0 2 (de_var 0)) de_int) da_nil)) (de_var 1))))) dss_nil)
    (dss_cons (ds_set (i := 3) sc.nd (by rfl) (by first | exact Or.inl rfl | exact Or.inr rfl) (de_ix (de_row 0 0 (de_var 0)) (de_op (r := (rI0 fun i j => .int (i - j))) op_sub rs_sub (de_row 0 1 (de_var 0)) de_int)))
    (dss_cons (ds_rowPut 0 2 (de_op (r := (rI (fun _ j => 0 < j) fun i j => .int (i % j))) op_mod rs_mod (de_callTy (r := (fun xs H Q => (∃ i, xs = [.int i] ∧ Q (.int i) H) ∨ ∃ k, xs = [.bl k] ∧ Q (.int (if k then 1 else 0)) H)) call_int1 csem_int (by rfl) T.b_int PyProof.Rows.boot_int (da_cons (de_op (r := (rAddA K)) op_addA rsem_add (de_op (r := (rAddA K)) op_addA rsem_add (de_op (r := (rMulA K)) op_mulA rsem_mul (de_row 0 2 (de_var 0)) de_int) (de_var 3)) de_int) da_nil)) de_int) (de_var 0) (pg_sub (pv 0) pe_int set_list))
    (dss_cons (ds_if (dt_cmp (r := (rI0 fun i j => .bl (decide (j ≤ i)))) op_ge rs_ge (de_var 3) (de_op (r := (rI CPow fun i j => .int (i ^ j.toNat))) op_pow rs_pow de_int de_int) (nomark _)) (dss_one (ds_rowPut 0 3 (de_op (r := (rI CDiv fun i j => .int (i / j))) op_fdiv rs_fdiv (de_var 3) (de_var 1)) (de_var 0) (pg_sub (pv 0) pe_int set_list))) dss_nil)
    (dss_one (ds_ret (de_op (r := (rI (fun _ j => 0 < j) fun i j => .int (i % j))) op_mod rs_mod (de_callTy (r := (fun xs H Q => (∃ i, xs = [.int i] ∧ Q (.int i) H) ∨ ∃ k, xs = [.bl k] ∧ Q (.int (if k then 1 else 0)) H)) call_int1 csem_int (by rfl) T.b_int PyProof.Rows.boot_int (da_cons (de_var 3) da_nil)) (de_var 1))))))))))⟩
abbrev nm__law_pick : List Str := ["_law_row", "_law_things"]
theorem sc__law_pick : FnScope nm__law_pick ["_law_row", "_law_things"] (defScope s__law_pick) := ⟨rfl, rfl, rfl, by decide +kernel, rfl, by decide +kernel, by decide +kernel⟩
abbrev g__law_pick : DV.Env → M Out := DVL.g__law_pick
abbrev m__law_pick : List RV → M RV := DVL.m__law_pick
theorem ok__law_pick {f : Addr} {fd : FuncData} (F : Fun K "_law_pick" "_law_pick" s__law_pick f fd) (T : Txt mg) (C__law_taken : Cal P w K mg base "_law_taken" 1 ["_law_row", "_law_many"] 2 m__law_taken) : FnOk P w K mg base CX0 2 f fd ["_law_row", "_law_things"] (spFn K 2 m__law_pick) := by
  have sc := sc__law_pick
  have e : spFn K 2 m__law_pick = spFn K (["_law_row", "_law_things"] : List Str).length (runDef nm__law_pick.length g__law_pick) := rfl
  rw [e]
  refine fn_ok (P := P) (w := w) (mg := mg) (base := base) (k := 1) (g := g__law_pick) F sc ?_
  intro R cdv A outer s H E hcd hr
  exact ⟨_, (dss_one (ds_ret (de_ix (de_var 1) (de_call C__law_taken hr (by decide) (by rfl) (da_cons (de_var 0) (da_cons (de_callB (r := (DV.rLen K)) call_len_seq csem_len (by rfl) T.b_len PySem.boot_len (da_cons (de_var 1) da_nil)) da_nil))))))⟩
abbrev nm__law_jobs : List Str := ["_law_row", "_law_most", "_law_time", "_law_many", "_law_top", "_law_wide", "_law_times", "_law_at", "_law_weights", "_law_last", "_law_dues"]
theorem sc__law_jobs : FnScope nm__law_jobs ["_law_row", "_law_most", "_law_time"] (defScope s__law_jobs) := ⟨rfl, rfl, rfl, by decide +kernel, rfl, by decide +kernel, by decide +kernel⟩
abbrev g__law_jobs : DV.Env → M Out := DVL.g__law_jobs
abbrev m__law_jobs : List RV → M RV := DVL.m__law_jobs
theorem ok__law_jobs {f : Addr} {fd : FuncData} (F : Fun K "_law_jobs" "_law_jobs" s__law_jobs f fd) (T : Txt mg) (C__law_taken : Cal P w K mg base "_law_taken" 1 ["_law_row", "_law_many"] 2 m__law_taken) (C__law_pick : Cal P w K mg base "_law_pick" 2 ["_law_row", "_law_things"] 2 m__law_pick) : FnOk P w K mg base CX0 3 f fd ["_law_row", "_law_most", "_law_time"] (spFn K 3 m__law_jobs) := by
  have sc := sc__law_jobs
  have e : spFn K 3 m__law_jobs = spFn K (["_law_row", "_law_most", "_law_time"] : List Str).length (runDef nm__law_jobs.length g__law_jobs) := rfl
  rw [e]
  refine fn_ok (P := P) (w := w) (mg := mg) (base := base) (k := 2) (g := g__law_jobs) F sc ?_
  intro R cdv A outer s H E hcd hr
  exact ⟨_, (dss_cons (ds_tup3L (i := 3) (j := 4) (l := 5) (by rfl) sc.nd (by rfl) (by rfl) (by rfl) (by first | exact Or.inl rfl | exact Or.inr rfl) (by first | exact Or.inl rfl | exact Or.inr rfl) (by first | exact Or.inl rfl | exact Or.inr rfl) (de_op (r := (rAddA K)) op_addA rsem_add de_int (de_call C__law_taken hr (by decide) (by rfl) (da_cons (de_var 0) (da_cons (de_var 1) da_nil)))) (de_call C__law_pick hr (by decide) (by rfl) (da_cons (de_var 0) (da_cons (de_lst (da_cons de_int (da_cons (de_var 2) da_nil))) da_nil))) (de_call C__law_pick hr (by decide) (by rfl) (da_cons (de_var 0) (da_cons (de_lst (da_cons de_int (da_cons de_int (da_cons de_int da_nil)))) da_nil))) (by rfl))
    (dss_cons (ds_set (i := 6) sc.nd (by rfl) (by first | exact Or.inl rfl | exact Or.inr rfl) (de_callTy (r := (DV.rTuple K)) call_tupX csem_tuple (by rfl) T.b_tuple PyProof.Rows.boot_tuple (da_cons (de_lc (own := [("_law_at", 7)]) (g := (gName 7)) (tt := tYes) (te := (tOp (rAddA K) (tC (.int 1)) (tCall (spFn K 2 m__law_taken) [] E0 (tCons (tVar 0) (tCons (tVar 4) tNil))))) (by rfl) sc.nd (di_range1 (by rfl) T.b_range (de_var 3)) (blkOk_by (N := nm__law_jobs) (sc := defScope s__law_jobs) (by decide +kernel)) (by decide) (fun _ _ _ _ _ => (dg_name (i := 7) sc.nd (by rfl) (by first | exact Or.inl rfl | exact Or.inr rfl))) (fun _ _ _ _ _ => dts_nil) (fun _ _ _ _ _ => (de_op (r := (rAddA K)) op_addA rsem_add de_int (de_call C__law_taken hr (by decide) (by rfl) (da_cons (de_var 0) (da_cons (de_var 4) da_nil)))))) da_nil)))
    (dss_cons (ds_set (i := 8) sc.nd (by rfl) (by first | exact Or.inl rfl | exact Or.inr rfl) (de_callTy (r := (DV.rTuple K)) call_tupX csem_tuple (by rfl) T.b_tuple PyProof.Rows.boot_tuple (da_cons (de_lc (own := [("_law_at", 7)]) (g := (gName 7)) (tt := tYes) (te := (tCall (spFn K 2 m__law_taken) [] E0 (tCons (tVar 0) (tCons (tOp (rAddA K) (tVar 5) (tC (.int 1))) tNil)))) (by rfl) sc.nd (di_range1 (by rfl) T.b_range (de_var 3)) (blkOk_by (N := nm__law_jobs) (sc := defScope s__law_jobs) (by decide +kernel)) (by decide) (fun _ _ _ _ _ => (dg_name (i := 7) sc.nd (by rfl) (by first | exact Or.inl rfl | exact Or.inr rfl))) (fun _ _ _ _ _ => dts_nil) (fun _ _ _ _ _ => (de_call C__law_taken hr (by decide) (by rfl) (da_cons (de_var 0) (da_cons (de_op (r := (rAddA K)) op_addA rsem_add (de_var 5) de_int) da_nil))))) da_nil)))
    (dss_cons (ds_set (i := 9) sc.nd (by rfl) (by first | exact Or.inl rfl | exact Or.inr rfl) (de_op (r := (rAddA K)) op_addA rsem_add (de_callB (r := (DV.rSumA K)) (cr_sumA (by rfl)) csem_sum (by rfl) T.b_sum PyProof.Rows.boot_sum (da_cons (de_var 6) da_nil)) de_int))
    (dss_cons (ds_set (i := 10) sc.nd (by rfl) (by first | exact Or.inl rfl | exact Or.inr rfl) (de_callTy (r := (DV.rTuple K)) call_tupX csem_tuple (by rfl) T.b_tuple PyProof.Rows.boot_tuple (da_cons (de_lc (own := [("_law_at", 7)]) (g := (gName 7)) (tt := tYes) (te := (tCall (spFn K 2 m__law_taken) [] E0 (tCons (tVar 0) (tCons (tVar 9) tNil)))) (by rfl) sc.nd (di_range1 (by rfl) T.b_range (de_var 3)) (blkOk_by (N := nm__law_jobs) (sc := defScope s__law_jobs) (by decide +kernel)) (by decide) (fun _ _ _ _ _ => (dg_name (i := 7) sc.nd (by rfl) (by first | exact Or.inl rfl | exact Or.inr rfl))) (fun _ _ _ _ _ => dts_nil) (fun _ _ _ _ _ => (de_call C__law_taken hr (by decide) (by rfl) (da_cons (de_var 0) (da_cons (de_var 9) da_nil))))) da_nil)))
    (dss_one (ds_ret (de_tup (da_cons (de_var 6) (da_cons (de_var 8) (da_cons (de_var 10) da_nil)))))))))))⟩
abbrev nm__law_less : List Str := ["_law_one", "_law_other"]
theorem sc__law_less : FnScope nm__law_less ["_law_one", "_law_other"] (defScope s__law_less) := ⟨rfl, rfl, rfl, by decide +kernel, rfl, by decide +kernel, by decide +kernel⟩
def g__law_less : DV.Env → M Out :=
  (sRet (e2 gLt (e2 gMulB (e2 gIx (eVar 0) (eC (.int 0))) (e2 gIx (eVar 1) (eC (.int 1)))) (e2 gMulB (e2 gIx (eVar 1) (eC (.int 0))) (e2 gIx (eVar 0) (eC (.int 1))))))
def m__law_less : List RV → M RV := runDef 2 g__law_less
theorem ok__law_less {f : Addr} {fd : FuncData} (F : Fun K "_law_less" "_law_less" s__law_less f fd) (T : Txt mg)  : FnOk P w K mg base CX0 1 f fd ["_law_one", "_law_other"] (spFn K 2 m__law_less) := by
  have sc := sc__law_less
  have e : spFn K 2 m__law_less = spFn K (["_law_one", "_law_other"] : List Str).length (runDef nm__law_less.length g__law_less) := rfl
  rw [e]
  refine fn_ok (P := P) (w := w) (mg := mg) (base := base) (k := 0) (g := g__law_less) F sc ?_
  intro R cdv A outer s H E hcd hr
  exact ⟨_, (dss_one (ds_ret (de_cmp (r := (rI0 fun i j => .bl (decide (i < j)))) op_lt rs_lt (de_op (r := (rMulB K)) op_mulB rsem_mulB (de_ix (de_var 0) de_int) (de_ix (de_var 1) de_int)) (de_op (r := (rMulB K)) op_mulB rsem_mulB (de_ix (de_var 1) de_int) (de_ix (de_var 0) de_int)) (nomark _))))⟩
abbrev nm__law_gcd : List Str := ["_law_one", "_law_other"]
theorem sc__law_gcd : FnScope nm__law_gcd ["_law_one", "_law_other"] (defScope s__law_gcd) := ⟨rfl, rfl, rfl, by decide +kernel, rfl, by decide +kernel, by decide +kernel⟩
def g__law_gcd : DV.Env → M Out :=
  (sSeq (wloopF (eT (e2 gNe (eVar 1) (eC (.int 0)))) (sPar 0 1 (aCons (eVar 1) (aCons (e2 gMod (eCall gInt (aCons (eVar 0) aNil)) (eVar 1)) aNil))) 100000)
  (sRetV 0))
def m__law_gcd : List RV → M RV := runDef 2 g__law_gcd
theorem ok__law_gcd {f : Addr} {fd : FuncData} (F : Fun K "_law_gcd" "_law_gcd" s__law_gcd f fd) (T : Txt mg)  : FnOk P w K mg base CX0 1 f fd ["_law_one", "_law_other"] (spFn K 2 m__law_gcd) := by
  have sc := sc__law_gcd
  have e : spFn K 2 m__law_gcd = spFn K (["_law_one", "_law_other"] : List Str).length (runDef nm__law_gcd.length g__law_gcd) := rfl
  rw [e]
  refine fn_ok (P := P) (w := w) (mg := mg) (base := base) (k := 0) (g := g__law_gcd) F sc ?_
  intro R cdv A outer s H E hcd hr
  exact ⟨_, (dss_cons (ds_while 100000 PassesOwn.never (dt_cmp (r := (rNeD K)) (op_neD (rm64 hr)) rsem_ne (de_var 1) de_int (nomark _)) (dss_one (ds_par (i := 0) (j := 1) (by rfl) sc.nd (by rfl) (by rfl) (by decide) (by rfl) (by rfl) (de_var 1) (de_op (r := (rI (fun _ j => 0 < j) fun i j => .int (i % j))) op_mod rs_mod (de_callTy (r := (fun xs H Q => (∃ i, xs = [.int i] ∧ Q (.int i) H) ∨ ∃ k, xs = [.bl k] ∧ Q (.int (if k then 1 else 0)) H)) call_int1 csem_int (by rfl) T.b_int PyProof.Rows.boot_int (da_cons (de_var 0) da_nil)) (de_var 1)) (by rfl))))
    (dss_one (ds_retV 0)))⟩
abbrev nm__law_lowest : List Str := ["_law_numerator", "_law_denominator", "_law_common"]
theorem sc__law_lowest : FnScope nm__law_lowest ["_law_numerator", "_law_denominator"] (defScope s__law_lowest) := ⟨rfl, rfl, rfl, by decide +kernel, rfl, by decide +kernel, by decide +kernel⟩
def g__law_lowest : DV.Env → M Out :=
  (sSeq (sSet 2 (eFn (fun xs => if xs.length = 2 then m__law_gcd xs else fail) (aCons (eCall gAbs (aCons (eVar 0) aNil)) (aCons (eVar 1) aNil))))
  (sRet (eTup (aCons (e2 gFdivW (eVar 0) (eVar 2)) (aCons (e2 gFdivW (eVar 1) (eVar 2)) aNil)))))
def m__law_lowest : List RV → M RV := runDef 3 g__law_lowest
theorem ok__law_lowest {f : Addr} {fd : FuncData} (F : Fun K "_law_lowest" "_law_lowest" s__law_lowest f fd) (T : Txt mg) (C__law_gcd : Cal P w K mg base "_law_gcd" 1 ["_law_one", "_law_other"] 2 m__law_gcd) : FnOk P w K mg base CX0 2 f fd ["_law_numerator", "_law_denominator"] (spFn K 2 m__law_lowest) := by
  have sc := sc__law_lowest
  have e : spFn K 2 m__law_lowest = spFn K (["_law_numerator", "_law_denominator"] : List Str).length (runDef nm__law_lowest.length g__law_lowest) := rfl
  rw [e]
  refine fn_ok (P := P) (w := w) (mg := mg) (base := base) (k := 1) (g := g__law_lowest) F sc ?_
  intro R cdv A outer s H E hcd hr
  exact ⟨_, (dss_cons (ds_set (i := 2) sc.nd (by rfl) (by first | exact Or.inl rfl | exact Or.inr rfl) (de_call C__law_gcd hr (by decide) (by rfl) (da_cons (de_callB (r := (fun xs H Q => ∃ i, xs = [.int i] ∧ Q (.int (if i < 0 then -i else i)) H)) call_abs csem_abs (by rfl) T.b_abs PyProof.Rows.boot_abs (da_cons (de_var 0) da_nil)) (da_cons (de_var 1) da_nil))))
    (dss_one (ds_ret (de_tup (da_cons (de_op (r := (rI CDivW fun i j => .int (i / j))) op_fdivW rs_fdivW (de_var 0) (de_var 2)) (da_cons (de_op (r := (rI CDivW fun i j => .int (i / j))) op_fdivW rs_fdivW (de_var 1) (de_var 2)) da_nil))))))⟩
abbrev nm__law_minus : List Str := ["_law_one", "_law_other"]
theorem sc__law_minus : FnScope nm__law_minus ["_law_one", "_law_other"] (defScope s__law_minus) := ⟨rfl, rfl, rfl, by decide +kernel, rfl, by decide +kernel, by decide +kernel⟩
def g__law_minus : DV.Env → M Out :=
  (sRet (eFn (fun xs => if xs.length = 2 then m__law_lowest xs else fail) (aCons (e2 gSubI (e2 gMulB (e2 gIx (eVar 0) (eC (.int 0))) (e2 gIx (eVar 1) (eC (.int 1)))) (e2 gMulB (e2 gIx (eVar 1) (eC (.int 0))) (e2 gIx (eVar 0) (eC (.int 1))))) (aCons (e2 gMulB (e2 gIx (eVar 0) (eC (.int 1))) (e2 gIx (eVar 1) (eC (.int 1)))) aNil))))
def m__law_minus : List RV → M RV := runDef 2 g__law_minus
theorem ok__law_minus {f : Addr} {fd : FuncData} (F : Fun K "_law_minus" "_law_minus" s__law_minus f fd) (T : Txt mg) (C__law_lowest : Cal P w K mg base "_law_lowest" 2 ["_law_numerator", "_law_denominator"] 2 m__law_lowest) : FnOk P w K mg base CX0 3 f fd ["_law_one", "_law_other"] (spFn K 2 m__law_minus) := by
  have sc := sc__law_minus
  have e : spFn K 2 m__law_minus = spFn K (["_law_one", "_law_other"] : List Str).length (runDef nm__law_minus.length g__law_minus) := rfl
  rw [e]
  refine fn_ok (P := P) (w := w) (mg := mg) (base := base) (k := 2) (g := g__law_minus) F sc ?_
  intro R cdv A outer s H E hcd hr
  exact ⟨_, (dss_one (ds_ret (de_call C__law_lowest hr (by decide) (by rfl) (da_cons (de_op (r := (rI0 fun i j => .int (i - j))) op_sub rs_sub (de_op (r := (rMulB K)) op_mulB rsem_mulB (de_ix (de_var 0) de_int) (de_ix (de_var 1) de_int)) (de_op (r := (rMulB K)) op_mulB rsem_mulB (de_ix (de_var 1) de_int) (de_ix (de_var 0) de_int))) (da_cons (de_op (r := (rMulB K)) op_mulB rsem_mulB (de_ix (de_var 0) de_int) (de_ix (de_var 1) de_int)) da_nil)))))⟩
abbrev nm_is_integer : List Str := ["value"]
theorem sc_is_integer : FnScope nm_is_integer ["value"] (defScope s_is_integer) := ⟨rfl, rfl, rfl, by decide +kernel, rfl, by decide +kernel, by decide +kernel⟩
abbrev g_is_integer : DV.Env → M Out := DVL.g_is_integer
abbrev m_is_integer : List RV → M RV := DVL.m_is_integer
theorem ok_is_integer {f : Addr} {fd : FuncData} (F : Fun K "is_integer" "is_integer" s_is_integer f fd) (T : Txt mg)  : FnOk P w K mg base CX0 1 f fd ["value"] (spFn K 1 m_is_integer) := by
  have sc := sc_is_integer
  have e : spFn K 1 m_is_integer = spFn K (["value"] : List Str).length (runDef nm_is_integer.length g_is_integer) := rfl
  rw [e]
  refine fn_ok (P := P) (w := w) (mg := mg) (base := base) (k := 0) (g := g_is_integer) F sc ?_
  intro R cdv A outer s H E hcd hr
  exact ⟨_, (dss_one (ds_ret (de_and (de_isT .int (by rfl) T.b_isinstance (by rfl) T.b_int (by decide +kernel) (de_var 0)) (de_one (de_not (de_isT .bool (by rfl) T.b_isinstance (by rfl) T.b_bool (by decide +kernel) (de_var 0)))))))⟩
abbrev nm_is_in : List Str := ["value", "least", "most"]
theorem sc_is_in : FnScope nm_is_in ["value", "least", "most"] (defScope s_is_in) := ⟨rfl, rfl, rfl, by decide +kernel, rfl, by decide +kernel, by decide +kernel⟩
abbrev g_is_in : DV.Env → M Out := DVL.g_is_in
abbrev m_is_in : List RV → M RV := DVL.m_is_in
theorem ok_is_in {f : Addr} {fd : FuncData} (F : Fun K "is_in" "is_in" s_is_in f fd) (T : Txt mg) (C_is_integer : Cal P w K mg base "is_integer" 1 ["value"] 1 m_is_integer) : FnOk P w K mg base CX0 2 f fd ["value", "least", "most"] (spFn K 3 m_is_in) := by
  have sc := sc_is_in
  have e : spFn K 3 m_is_in = spFn K (["value", "least", "most"] : List Str).length (runDef nm_is_in.length g_is_in) := rfl
  rw [e]
  refine fn_ok (P := P) (w := w) (mg := mg) (base := base) (k := 1) (g := g_is_in) F sc ?_
  intro R cdv A outer s H E hcd hr
  exact ⟨_, (dss_one (ds_ret (de_and (de_call C_is_integer hr (by decide) (by rfl) (da_cons (de_var 0) da_nil)) (de_one (de_chain (r := (rI0 fun i j => .bl (decide (i ≤ j)))) (r' := (rI0 fun i j => .bl (decide (i ≤ j)))) op_le op_le rs_le rs_le (de_var 1) (de_var 0) (de_var 2))))))⟩
abbrev nm_is_list : List Str := ["value", "least", "most"]
theorem sc_is_list : FnScope nm_is_list ["value", "least", "most"] (defScope s_is_list) := ⟨rfl, rfl, rfl, by decide +kernel, rfl, by decide +kernel, by decide +kernel⟩
abbrev g_is_list : DV.Env → M Out := DVL.g_is_list
abbrev m_is_list : List RV → M RV := DVL.m_is_list
theorem ok_is_list {f : Addr} {fd : FuncData} (F : Fun K "is_list" "is_list" s_is_list f fd) (T : Txt mg)  : FnOk P w K mg base CX0 1 f fd ["value", "least", "most"] (spFn K 3 m_is_list) := by
  have sc := sc_is_list
  have e : spFn K 3 m_is_list = spFn K (["value", "least", "most"] : List Str).length (runDef nm_is_list.length g_is_list) := rfl
  rw [e]
  refine fn_ok (P := P) (w := w) (mg := mg) (base := base) (k := 0) (g := g_is_list) F sc ?_
  intro R cdv A outer s H E hcd hr
  exact ⟨_, (dss_one (ds_ret (de_and (de_isT .tuple (by rfl) T.b_isinstance (by rfl) T.b_tuple (by decide +kernel) (de_var 0)) (de_one (de_chain (r := (rI0 fun i j => .bl (decide (i ≤ j)))) (r' := (rI0 fun i j => .bl (decide (i ≤ j)))) op_le op_le rs_le rs_le (de_var 1) (de_callB (r := (DV.rLen K)) call_len_seq csem_len (by rfl) T.b_len PySem.boot_len (da_cons (de_var 0) da_nil)) (de_var 2))))))⟩
abbrev nm_need_speeds : List Str := ["speeds", "speed"]
theorem sc_need_speeds : FnScope nm_need_speeds ["speeds"] (defScope s_need_speeds) := ⟨rfl, rfl, rfl, by decide +kernel, rfl, by decide +kernel, by decide +kernel⟩
def g_need_speeds : DV.Env → M Out :=
  (sIf (tIfT (tNotF (eT (eFn (fun xs => if xs.length = 3 then m_is_list xs else fail) (aCons (eVar 0) (aCons (eC (.int 1)) (aCons (eC (.int 6)) aNil)))))) (tRetB true) (tNotF (eT (eCall gAll (aCons (eLc (srcV 0) [1] (gNm 1) tTrue (eFn (fun xs => if xs.length = 3 then m_is_in xs else fail) (aCons (eVar 1) (aCons (eC (.int 1)) (aCons (eC (.int 60)) aNil))))) aNil))))) sNever sNil)
def m_need_speeds : List RV → M RV := runDef 2 g_need_speeds
theorem ok_need_speeds {f : Addr} {fd : FuncData} (F : Fun K "need_speeds" "need_speeds" s_need_speeds f fd) (T : Txt mg) (C_is_list : Cal P w K mg base "is_list" 1 ["value", "least", "most"] 3 m_is_list) (C_is_in : Cal P w K mg base "is_in" 2 ["value", "least", "most"] 3 m_is_in) : FnOk P w K mg base CX0 3 f fd ["speeds"] (spFn K 1 m_need_speeds) := by
  have sc := sc_need_speeds
  have e : spFn K 1 m_need_speeds = spFn K (["speeds"] : List Str).length (runDef nm_need_speeds.length g_need_speeds) := rfl
  rw [e]
  refine fn_ok (P := P) (w := w) (mg := mg) (base := base) (k := 2) (g := g_need_speeds) F sc ?_
  intro R cdv A outer s H E hcd hr
  exact ⟨_, (dss_one (ds_if (DW.dt (dw_or (dt_not (dt_val (de_call C_is_list hr (by decide) (by rfl) (da_cons (de_var 0) (da_cons de_int (da_cons (de_gI (by rfl) T.c_MOST_BENCHES) da_nil)))))) (dw_or1 (dt_not (dt_val (de_callB (r := (rAll K)) (cr_all (by rfl)) (csem_bools _) (by rfl) T.b_all PyProof.Rows.boot_all (da_cons (de_lc (own := [("speed", 1)]) (g := (gName 1)) (tt := tYes) (te := (tCall (spFn K 3 m_is_in) [] E0 (tCons (tVar 1) (tCons (tC (.int 1)) (tCons (tC (.int 60)) tNil))))) (by rfl) sc.nd (di_seq (src_v 0)) (blkOk_by (N := nm_need_speeds) (sc := defScope s_need_speeds) (by decide +kernel)) (by decide) (fun _ _ _ _ _ => (dg_name (i := 1) sc.nd (by rfl) (by first | exact Or.inl rfl | exact Or.inr rfl))) (fun _ _ _ _ _ => dts_nil) (fun _ _ _ _ _ => (de_call C_is_in hr (by decide) (by rfl) (da_cons (de_var 1) (da_cons de_int (da_cons (de_gI (by rfl) T.c_MOST_TIME) da_nil)))))) da_nil))))))) dss_never dss_nil))⟩
abbrev nm_first_bad : List Str := ["value", "many", "low", "high", "index", "item"]
theorem sc_first_bad : FnScope nm_first_bad ["value", "many", "low", "high"] (defScope s_first_bad) := ⟨rfl, rfl, rfl, by decide +kernel, rfl, by decide +kernel, by decide +kernel⟩
abbrev g_first_bad : DV.Env → M Out := DVL.g_first_bad
abbrev m_first_bad : List RV → M RV := DVL.m_first_bad
theorem ok_first_bad {f : Addr} {fd : FuncData} (F : Fun K "first_bad" "first_bad" s_first_bad f fd) (T : Txt mg) (C_is_list : Cal P w K mg base "is_list" 1 ["value", "least", "most"] 3 m_is_list) (C_is_in : Cal P w K mg base "is_in" 2 ["value", "least", "most"] 3 m_is_in) : FnOk P w K mg base CX0 3 f fd ["value", "many", "low", "high"] (spFn K 4 m_first_bad) := by
  have sc := sc_first_bad
  have e : spFn K 4 m_first_bad = spFn K (["value", "many", "low", "high"] : List Str).length (runDef nm_first_bad.length g_first_bad) := rfl
  rw [e]
  refine fn_ok (P := P) (w := w) (mg := mg) (base := base) (k := 2) (g := g_first_bad) F sc ?_
  intro R cdv A outer s H E hcd hr
  exact ⟨_, (dss_cons (ds_if (dt_not (dt_val (de_call C_is_list hr (by decide) (by rfl) (da_cons (de_var 0) (da_cons (de_var 1) (da_cons (de_var 1) da_nil)))))) (dss_one (ds_ret de_non)) dss_nil)
    (dss_cons (ds_for PassesOwn.never (by rfl) (di_enum (by rfl) T.b_enumerate (src_v 0)) (dg_tup (by rfl) (dgs_cons (dg_name (i := 4) sc.nd (by rfl) (by first | exact Or.inl rfl | exact Or.inr rfl)) (dgs_cons (dg_name (i := 5) sc.nd (by rfl) (by first | exact Or.inl rfl | exact Or.inr rfl)) dgs_nil))) (dss_one (ds_if (dt_not (dt_val (de_call C_is_in hr (by decide) (by rfl) (da_cons (de_var 5) (da_cons (de_var 2) (da_cons (de_var 3) da_nil)))))) (dss_one (ds_retV 4)) dss_nil)))
    (dss_one (ds_ret (de_neg de_int)))))⟩
abbrev nm_need_times : List Str := ["times", "index"]
theorem sc_need_times : FnScope nm_need_times ["times"] (defScope s_need_times) := ⟨rfl, rfl, rfl, by decide +kernel, rfl, by decide +kernel, by decide +kernel⟩
abbrev g_need_times : DV.Env → M Out := DVL.g_need_times
abbrev m_need_times : List RV → M RV := DVL.m_need_times
theorem ok_need_times {f : Addr} {fd : FuncData} (F : Fun K "need_times" "need_times" s_need_times f fd) (T : Txt mg) (C_is_list : Cal P w K mg base "is_list" 1 ["value", "least", "most"] 3 m_is_list) (C_first_bad : Cal P w K mg base "first_bad" 3 ["value", "many", "low", "high"] 4 m_first_bad) : FnOk P w K mg base CX0 4 f fd ["times"] (spFn K 1 m_need_times) := by
  have sc := sc_need_times
  have e : spFn K 1 m_need_times = spFn K (["times"] : List Str).length (runDef nm_need_times.length g_need_times) := rfl
  rw [e]
  refine fn_ok (P := P) (w := w) (mg := mg) (base := base) (k := 3) (g := g_need_times) F sc ?_
  intro R cdv A outer s H E hcd hr
  exact ⟨_, (dss_cons (ds_if (dt_not (dt_val (de_call C_is_list hr (by decide) (by rfl) (da_cons (de_var 0) (da_cons de_int (da_cons (de_gI (by rfl) T.c_MOST_JOBS) da_nil)))))) dss_never dss_nil)
    (dss_cons (ds_set (i := 1) sc.nd (by rfl) (by first | exact Or.inl rfl | exact Or.inr rfl) (de_call C_first_bad hr (by decide) (by rfl) (da_cons (de_var 0) (da_cons (de_callB (r := (DV.rLen K)) call_len_seq csem_len (by rfl) T.b_len PySem.boot_len (da_cons (de_var 0) da_nil)) (da_cons de_int (da_cons (de_gI (by rfl) T.c_MOST_TIME) da_nil))))))
    (dss_one (ds_if (dt_cmp (r := (rNeD K)) (op_neD (rm64 hr)) rsem_ne (de_var 1) (de_neg de_int) (nomark _)) dss_never dss_nil))))⟩
abbrev nm_ratio : List Str := ["top", "bottom", "one", "other"]
theorem sc_ratio : FnScope nm_ratio ["top", "bottom"] (defScope s_ratio) := ⟨rfl, rfl, rfl, by decide +kernel, rfl, by decide +kernel, by decide +kernel⟩
def g_ratio : DV.Env → M Out :=
  (sSeq (sPar 2 3 (aCons (eCall gAbs (aCons (eVar 0) aNil)) (aCons (eVar 1) aNil)))
  (sSeq (wloopF (eT (e2 gNe (eVar 3) (eC (.int 0)))) (sPar 2 3 (aCons (eVar 3) (aCons (e2 gMod (eVar 2) (eVar 3)) aNil))) 100000)
  (sRet (eIf (eT (e2 gGt (eVar 2) (eC (.int 0)))) (eTup (aCons (e2 gFdivW (eVar 0) (eVar 2)) (aCons (e2 gFdivW (eVar 1) (eVar 2)) aNil))) (eTup (aCons (eC (.int 0)) (aCons (eC (.int 1)) aNil)))))))
def m_ratio : List RV → M RV := runDef 4 g_ratio
theorem ok_ratio {f : Addr} {fd : FuncData} (F : Fun K "ratio" "ratio" s_ratio f fd) (T : Txt mg)  : FnOk P w K mg base CX0 1 f fd ["top", "bottom"] (spFn K 2 m_ratio) := by
  have sc := sc_ratio
  have e : spFn K 2 m_ratio = spFn K (["top", "bottom"] : List Str).length (runDef nm_ratio.length g_ratio) := rfl
  rw [e]
  refine fn_ok (P := P) (w := w) (mg := mg) (base := base) (k := 0) (g := g_ratio) F sc ?_
  intro R cdv A outer s H E hcd hr
  exact ⟨_, (dss_cons (ds_par (i := 2) (j := 3) (by rfl) sc.nd (by rfl) (by rfl) (by decide) (by rfl) (by rfl) (de_callB (r := (fun xs H Q => ∃ i, xs = [.int i] ∧ Q (.int (if i < 0 then -i else i)) H)) call_abs csem_abs (by rfl) T.b_abs PyProof.Rows.boot_abs (da_cons (de_var 0) da_nil)) (de_var 1) (by rfl))
    (dss_cons (ds_while 100000 PassesOwn.never (dt_cmp (r := (rNeD K)) (op_neD (rm64 hr)) rsem_ne (de_var 3) de_int (nomark _)) (dss_one (ds_par (i := 2) (j := 3) (by rfl) sc.nd (by rfl) (by rfl) (by decide) (by rfl) (by rfl) (de_var 3) (de_op (r := (rI (fun _ j => 0 < j) fun i j => .int (i % j))) op_mod rs_mod (de_var 2) (de_var 3)) (by rfl))))
    (dss_one (ds_ret (de_if (dt_cmp (r := (rI0 fun i j => .bl (decide (j < i)))) op_gt rs_gt (de_var 2) de_int (nomark _)) (de_tup (da_cons (de_op (r := (rI CDivW fun i j => .int (i / j))) op_fdivW rs_fdivW (de_var 0) (de_var 2)) (da_cons (de_op (r := (rI CDivW fun i j => .int (i / j))) op_fdivW rs_fdivW (de_var 1) (de_var 2)) da_nil))) (de_tup (da_cons de_int (da_cons de_int da_nil))))))))⟩
abbrev nm_level_speeds : List Str := ["times", "speeds", "fast", "long", "best", "many", "row"]
theorem sc_level_speeds : FnScope nm_level_speeds ["times", "speeds"] (defScope s_level_speeds) := ⟨rfl, rfl, rfl, by decide +kernel, rfl, by decide +kernel, by decide +kernel⟩
def g_level_speeds : DV.Env → M Out :=
  (sSeq (sDrop (eFn (fun xs => if xs.length = 1 then m_need_times xs else fail) (aCons (eVar 0) aNil)))
  (sSeq (sDrop (eFn (fun xs => if xs.length = 1 then m_need_speeds xs else fail) (aCons (eVar 1) aNil)))
  (sSeq (sPar 2 3 (aCons (eSortRev (eVar 1)) (aCons (eSortRev (eVar 0)) aNil)))
  (sSeq (sSet 4 (eTup (aCons (eCall gSum (aCons (eVar 3) aNil)) (aCons (eCall gSum (aCons (eVar 2) aNil)) aNil))))
  (sSeq (sFor (iRng2F (eC (.int 1)) (e2 gAddA (eCall gMin2 (aCons (eCall gLen (aCons (eVar 3) aNil)) (aCons (e2 gSubI (eCall gLen (aCons (eVar 2) aNil)) (eC (.int 1))) aNil))) (eC (.int 1)))) (gNm 5) (sSeq (sSet 6 (eTup (aCons (eCall gSum (aCons (eSlice (eVar 3) (fun _ => ret none) (ePart (eVar 5))) aNil)) (aCons (eCall gSum (aCons (eSlice (eVar 2) (fun _ => ret none) (ePart (eVar 5))) aNil)) aNil))))
  (sIf (eT (e2 gLt (e2 gMulA (e2 gIx (eVar 4) (eC (.int 0))) (e2 gIx (eVar 6) (eC (.int 1)))) (e2 gMulA (e2 gIx (eVar 6) (eC (.int 0))) (e2 gIx (eVar 4) (eC (.int 1)))))) (sMove 4 6) sNil)))
  (sRet (eFn (fun xs => if xs.length = 2 then m_ratio xs else fail) (aCons (e2 gIx (eVar 4) (eC (.int 0))) (aCons (e2 gIx (eVar 4) (eC (.int 1))) aNil)))))))))
def m_level_speeds : List RV → M RV := runDef 7 g_level_speeds
theorem ok_level_speeds {f : Addr} {fd : FuncData} (F : Fun K "level_speeds" "level_speeds" s_level_speeds f fd) (T : Txt mg) (C_need_times : Cal P w K mg base "need_times" 4 ["times"] 1 m_need_times) (C_need_speeds : Cal P w K mg base "need_speeds" 3 ["speeds"] 1 m_need_speeds) (C_ratio : Cal P w K mg base "ratio" 1 ["top", "bottom"] 2 m_ratio) : FnOk P w K mg base CX0 5 f fd ["times", "speeds"] (spFn K 2 m_level_speeds) := by
  have sc := sc_level_speeds
  have e : spFn K 2 m_level_speeds = spFn K (["times", "speeds"] : List Str).length (runDef nm_level_speeds.length g_level_speeds) := rfl
  rw [e]
  refine fn_ok (P := P) (w := w) (mg := mg) (base := base) (k := 4) (g := g_level_speeds) F sc ?_
  intro R cdv A outer s H E hcd hr
  exact ⟨_, (dss_cons (ds_expr (de_call C_need_times hr (by decide) (by rfl) (da_cons (de_var 0) da_nil)))
    (dss_cons (ds_expr (de_call C_need_speeds hr (by decide) (by rfl) (da_cons (de_var 1) da_nil)))
    (dss_cons (ds_par (i := 2) (j := 3) (by rfl) sc.nd (by rfl) (by rfl) (by decide) (by rfl) (by rfl) (de_sortRev (by rfl) T.b_sorted (de_var 1)) (de_sortRev (by rfl) T.b_sorted (de_var 0)) (by rfl))
    (dss_cons (ds_set (i := 4) sc.nd (by rfl) (by first | exact Or.inl rfl | exact Or.inr rfl) (de_tup (da_cons (de_callB (r := (DV.rSumA K)) (cr_sumA (by rfl)) csem_sum (by rfl) T.b_sum PyProof.Rows.boot_sum (da_cons (de_var 3) da_nil)) (da_cons (de_callB (r := (DV.rSumA K)) (cr_sumA (by rfl)) csem_sum (by rfl) T.b_sum PyProof.Rows.boot_sum (da_cons (de_var 2) da_nil)) da_nil))))
    (dss_cons (ds_for PassesOwn.never (by rfl) (di_range2 (by rfl) T.b_range de_int (de_op (r := (rAddA K)) op_addA rsem_add (de_callB (r := (fun xs H Q => ∃ i j, xs = [.int i, .int j] ∧ Q (.int (if j < i then j else i)) H)) (call_min2 (by rfl)) csem_min2 (by rfl) T.b_min PyProof.Rows.boot_min (da_cons (de_callB (r := (DV.rLen K)) call_len_seq csem_len (by rfl) T.b_len PySem.boot_len (da_cons (de_var 3) da_nil)) (da_cons (de_op (r := (rI0 fun i j => .int (i - j))) op_sub rs_sub (de_callB (r := (DV.rLen K)) call_len_seq csem_len (by rfl) T.b_len PySem.boot_len (da_cons (de_var 2) da_nil)) de_int) da_nil))) de_int)) (dg_name (i := 5) sc.nd (by rfl) (by first | exact Or.inl rfl | exact Or.inr rfl)) (dss_cons (ds_set (i := 6) sc.nd (by rfl) (by first | exact Or.inl rfl | exact Or.inr rfl) (de_tup (da_cons (de_callB (r := (DV.rSumA K)) (cr_sumA (by rfl)) csem_sum (by rfl) T.b_sum PyProof.Rows.boot_sum (da_cons (de_slice (de_var 3) do_none (do_some (de_var 5))) da_nil)) (da_cons (de_callB (r := (DV.rSumA K)) (cr_sumA (by rfl)) csem_sum (by rfl) T.b_sum PyProof.Rows.boot_sum (da_cons (de_slice (de_var 2) do_none (do_some (de_var 5))) da_nil)) da_nil))))
    (dss_one (ds_if (dt_cmp (r := (rI0 fun i j => .bl (decide (i < j)))) op_lt rs_lt (de_op (r := (rMulA K)) op_mulA rsem_mul (de_ix (de_var 4) de_int) (de_ix (de_var 6) de_int)) (de_op (r := (rMulA K)) op_mulA rsem_mul (de_ix (de_var 6) de_int) (de_ix (de_var 4) de_int)) (nomark _)) (dss_one (ds_move (i := 4) (j := 6) sc.nd (by rfl) (by first | exact Or.inl rfl | exact Or.inr rfl) (by rfl))) dss_nil))))
    (dss_one (ds_ret (de_call C_ratio hr (by decide) (by rfl) (da_cons (de_ix (de_var 4) de_int) (da_cons (de_ix (de_var 4) de_int) da_nil))))))))))⟩
abbrev nm_is_less : List Str := ["one", "other"]
theorem sc_is_less : FnScope nm_is_less ["one", "other"] (defScope s_is_less) := ⟨rfl, rfl, rfl, by decide +kernel, rfl, by decide +kernel, by decide +kernel⟩
def g_is_less : DV.Env → M Out :=
  (sRet (e2 gLt (e2 gMulB (e2 gIx (eVar 0) (eC (.int 0))) (e2 gIx (eVar 1) (eC (.int 1)))) (e2 gMulB (e2 gIx (eVar 1) (eC (.int 0))) (e2 gIx (eVar 0) (eC (.int 1))))))
def m_is_less : List RV → M RV := runDef 2 g_is_less
theorem ok_is_less {f : Addr} {fd : FuncData} (F : Fun K "is_less" "is_less" s_is_less f fd) (T : Txt mg)  : FnOk P w K mg base CX0 1 f fd ["one", "other"] (spFn K 2 m_is_less) := by
  have sc := sc_is_less
  have e : spFn K 2 m_is_less = spFn K (["one", "other"] : List Str).length (runDef nm_is_less.length g_is_less) := rfl
  rw [e]
  refine fn_ok (P := P) (w := w) (mg := mg) (base := base) (k := 0) (g := g_is_less) F sc ?_
  intro R cdv A outer s H E hcd hr
  exact ⟨_, (dss_one (ds_ret (de_cmp (r := (rI0 fun i j => .bl (decide (i < j)))) op_lt rs_lt (de_op (r := (rMulB K)) op_mulB rsem_mulB (de_ix (de_var 0) de_int) (de_ix (de_var 1) de_int)) (de_op (r := (rMulB K)) op_mulB rsem_mulB (de_ix (de_var 1) de_int) (de_ix (de_var 0) de_int)) (nomark _))))⟩
abbrev nm_lowered : List Str := ["one", "rate", "step", "done"]
theorem sc_lowered : FnScope nm_lowered ["one", "rate", "step"] (defScope s_lowered) := ⟨rfl, rfl, rfl, by decide +kernel, rfl, by decide +kernel, by decide +kernel⟩
def g_lowered : DV.Env → M Out :=
  (sSeq (sSet 3 (eTup (aCons (e2 gMulB (e2 gIx (eVar 1) (eC (.int 0))) (e2 gIx (eVar 2) (eC (.int 0)))) (aCons (e2 gMulB (e2 gIx (eVar 1) (eC (.int 1))) (e2 gIx (eVar 2) (eC (.int 1)))) aNil))))
  (sRet (eFn (fun xs => if xs.length = 2 then m_ratio xs else fail) (aCons (e2 gSubI (e2 gMulB (e2 gIx (eVar 0) (eC (.int 0))) (e2 gIx (eVar 3) (eC (.int 1)))) (e2 gMulB (e2 gIx (eVar 3) (eC (.int 0))) (e2 gIx (eVar 0) (eC (.int 1))))) (aCons (e2 gMulB (e2 gIx (eVar 0) (eC (.int 1))) (e2 gIx (eVar 3) (eC (.int 1)))) aNil)))))
def m_lowered : List RV → M RV := runDef 4 g_lowered
theorem ok_lowered {f : Addr} {fd : FuncData} (F : Fun K "lowered" "lowered" s_lowered f fd) (T : Txt mg) (C_ratio : Cal P w K mg base "ratio" 1 ["top", "bottom"] 2 m_ratio) : FnOk P w K mg base CX0 2 f fd ["one", "rate", "step"] (spFn K 3 m_lowered) := by
  have sc := sc_lowered
  have e : spFn K 3 m_lowered = spFn K (["one", "rate", "step"] : List Str).length (runDef nm_lowered.length g_lowered) := rfl
  rw [e]
  refine fn_ok (P := P) (w := w) (mg := mg) (base := base) (k := 1) (g := g_lowered) F sc ?_
  intro R cdv A outer s H E hcd hr
  exact ⟨_, (dss_cons (ds_set (i := 3) sc.nd (by rfl) (by first | exact Or.inl rfl | exact Or.inr rfl) (de_tup (da_cons (de_op (r := (rMulB K)) op_mulB rsem_mulB (de_ix (de_var 1) de_int) (de_ix (de_var 2) de_int)) (da_cons (de_op (r := (rMulB K)) op_mulB rsem_mulB (de_ix (de_var 1) de_int) (de_ix (de_var 2) de_int)) da_nil))))
    (dss_one (ds_ret (de_call C_ratio hr (by decide) (by rfl) (da_cons (de_op (r := (rI0 fun i j => .int (i - j))) op_sub rs_sub (de_op (r := (rMulB K)) op_mulB rsem_mulB (de_ix (de_var 0) de_int) (de_ix (de_var 3) de_int)) (de_op (r := (rMulB K)) op_mulB rsem_mulB (de_ix (de_var 3) de_int) (de_ix (de_var 0) de_int))) (da_cons (de_op (r := (rMulB K)) op_mulB rsem_mulB (de_ix (de_var 0) de_int) (de_ix (de_var 3) de_int)) da_nil))))))⟩
abbrev nm_minus : List Str := ["moment", "now"]
theorem sc_minus : FnScope nm_minus ["moment", "now"] (defScope s_minus) := ⟨rfl, rfl, rfl, by decide +kernel, rfl, by decide +kernel, by decide +kernel⟩
def g_minus : DV.Env → M Out :=
  (sRet (eFn (fun xs => if xs.length = 2 then m_ratio xs else fail) (aCons (e2 gSubI (e2 gMulB (eVar 0) (e2 gIx (eVar 1) (eC (.int 1)))) (e2 gIx (eVar 1) (eC (.int 0)))) (aCons (e2 gIx (eVar 1) (eC (.int 1))) aNil))))
def m_minus : List RV → M RV := runDef 2 g_minus
theorem ok_minus {f : Addr} {fd : FuncData} (F : Fun K "minus" "minus" s_minus f fd) (T : Txt mg) (C_ratio : Cal P w K mg base "ratio" 1 ["top", "bottom"] 2 m_ratio) : FnOk P w K mg base CX0 2 f fd ["moment", "now"] (spFn K 2 m_minus) := by
  have sc := sc_minus
  have e : spFn K 2 m_minus = spFn K (["moment", "now"] : List Str).length (runDef nm_minus.length g_minus) := rfl
  rw [e]
  refine fn_ok (P := P) (w := w) (mg := mg) (base := base) (k := 1) (g := g_minus) F sc ?_
  intro R cdv A outer s H E hcd hr
  exact ⟨_, (dss_one (ds_ret (de_call C_ratio hr (by decide) (by rfl) (da_cons (de_op (r := (rI0 fun i j => .int (i - j))) op_sub rs_sub (de_op (r := (rMulB K)) op_mulB rsem_mulB (de_var 0) (de_ix (de_var 1) de_int)) (de_ix (de_var 1) de_int)) (da_cons (de_ix (de_var 1) de_int) da_nil)))))⟩
abbrev nm_next_step : List Str := ["left", "rates", "best", "one", "rate", "step", "other", "slow", "gap", "gain"]
theorem sc_next_step : FnScope nm_next_step ["left", "rates"] (defScope s_next_step) := ⟨rfl, rfl, rfl, by decide +kernel, rfl, by decide +kernel, by decide +kernel⟩
def g_next_step : DV.Env → M Out :=
  (sSeq (sSet 2 (eC .none))
  (sSeq (sFor (iZipF (srcV 0) (srcV 1)) (gTupF 2 (gMore (gNm 3) (gMore (gNm 4) gNone))) (sSeq (sIf (tIfT (eT (e2 gGt (e2 gIx (eVar 3) (eC (.int 0))) (eC (.int 0)))) (eT (e2 gGt (e2 gIx (eVar 4) (eC (.int 0))) (eC (.int 0)))) (tRetB false)) (sSeq (sSet 5 (eFn (fun xs => if xs.length = 2 then m_ratio xs else fail) (aCons (e2 gMulB (e2 gIx (eVar 3) (eC (.int 0))) (e2 gIx (eVar 4) (eC (.int 1)))) (aCons (e2 gMulB (e2 gIx (eVar 3) (eC (.int 1))) (e2 gIx (eVar 4) (eC (.int 0)))) aNil))))
  (sSet 2 (eIf (tIfT (eT (e2 gIs (eVar 2) (eC .none))) (tRetB true) (eT (eFn (fun xs => if xs.length = 2 then m_is_less xs else fail) (aCons (eVar 5) (aCons (eVar 2) aNil))))) (eVar 5) (eVar 2)))) sNil)
  (sFor (iZipF (srcV 0) (srcV 1)) (gTupF 2 (gMore (gNm 6) (gMore (gNm 7) gNone))) (sSeq (sSet 8 (eTup (aCons (e2 gSubI (e2 gMulB (e2 gIx (eVar 3) (eC (.int 0))) (e2 gIx (eVar 6) (eC (.int 1)))) (e2 gMulB (e2 gIx (eVar 6) (eC (.int 0))) (e2 gIx (eVar 3) (eC (.int 1))))) (aCons (e2 gMulB (e2 gIx (eVar 3) (eC (.int 1))) (e2 gIx (eVar 6) (eC (.int 1)))) aNil))))
  (sSeq (sSet 9 (eTup (aCons (e2 gSubI (e2 gMulB (e2 gIx (eVar 4) (eC (.int 0))) (e2 gIx (eVar 7) (eC (.int 1)))) (e2 gMulB (e2 gIx (eVar 7) (eC (.int 0))) (e2 gIx (eVar 4) (eC (.int 1))))) (aCons (e2 gMulB (e2 gIx (eVar 4) (eC (.int 1))) (e2 gIx (eVar 7) (eC (.int 1)))) aNil))))
  (sIf (tIfT (eT (e2 gGt (e2 gIx (eVar 8) (eC (.int 0))) (eC (.int 0)))) (eT (e2 gGt (e2 gIx (eVar 9) (eC (.int 0))) (eC (.int 0)))) (tRetB false)) (sSeq (sSet 5 (eFn (fun xs => if xs.length = 2 then m_ratio xs else fail) (aCons (e2 gMulB (e2 gIx (eVar 8) (eC (.int 0))) (e2 gIx (eVar 9) (eC (.int 1)))) (aCons (e2 gMulB (e2 gIx (eVar 8) (eC (.int 1))) (e2 gIx (eVar 9) (eC (.int 0)))) aNil))))
  (sSet 2 (eIf (tIfT (eT (e2 gIs (eVar 2) (eC .none))) (tRetB true) (eT (eFn (fun xs => if xs.length = 2 then m_is_less xs else fail) (aCons (eVar 5) (aCons (eVar 2) aNil))))) (eVar 5) (eVar 2)))) sNil))))))
  (sRetV 2)))
def m_next_step : List RV → M RV := runDef 10 g_next_step
theorem ok_next_step {f : Addr} {fd : FuncData} (F : Fun K "next_step" "next_step" s_next_step f fd) (T : Txt mg) (C_ratio : Cal P w K mg base "ratio" 1 ["top", "bottom"] 2 m_ratio) (C_is_less : Cal P w K mg base "is_less" 1 ["one", "other"] 2 m_is_less) : FnOk P w K mg base CX0 2 f fd ["left", "rates"] (spFn K 2 m_next_step) := by
  have sc := sc_next_step
  have e : spFn K 2 m_next_step = spFn K (["left", "rates"] : List Str).length (runDef nm_next_step.length g_next_step) := rfl
  rw [e]
  refine fn_ok (P := P) (w := w) (mg := mg) (base := base) (k := 1) (g := g_next_step) F sc ?_
  intro R cdv A outer s H E hcd hr
  exact ⟨_, (dss_cons (ds_set (i := 2) sc.nd (by rfl) (by first | exact Or.inl rfl | exact Or.inr rfl) de_non)
    (dss_cons (ds_for PassesOwn.never (by rfl) (di_zip (by rfl) T.b_zip (src_v 0) (src_v 1)) (dg_tup (by rfl) (dgs_cons (dg_name (i := 3) sc.nd (by rfl) (by first | exact Or.inl rfl | exact Or.inr rfl)) (dgs_cons (dg_name (i := 4) sc.nd (by rfl) (by first | exact Or.inl rfl | exact Or.inr rfl)) dgs_nil))) (dss_cons (ds_if (DW.dt (dw_and (dt_cmp (r := (rI0 fun i j => .bl (decide (j < i)))) op_gt rs_gt (de_ix (de_var 3) de_int) de_int (nomark _)) (dw_and1 (dt_cmp (r := (rI0 fun i j => .bl (decide (j < i)))) op_gt rs_gt (de_ix (de_var 4) de_int) de_int (nomark _))))) (dss_cons (ds_set (i := 5) sc.nd (by rfl) (by first | exact Or.inl rfl | exact Or.inr rfl) (de_call C_ratio hr (by decide) (by rfl) (da_cons (de_op (r := (rMulB K)) op_mulB rsem_mulB (de_ix (de_var 3) de_int) (de_ix (de_var 4) de_int)) (da_cons (de_op (r := (rMulB K)) op_mulB rsem_mulB (de_ix (de_var 3) de_int) (de_ix (de_var 4) de_int)) da_nil))))
    (dss_one (ds_set (i := 2) sc.nd (by rfl) (by first | exact Or.inl rfl | exact Or.inr rfl) (de_if (DW.dt (dw_or (dt_cmp (r := (fun x y H Q => y = .non ∧ Q (.bl (decide (x = .non))) H)) op_isN rsem_isN (de_var 2) de_non (nomark _)) (dw_or1 (dt_val (de_call C_is_less hr (by decide) (by rfl) (da_cons (de_var 5) (da_cons (de_var 2) da_nil))))))) (de_var 5) (de_var 2))))) dss_nil)
    (dss_one (ds_for PassesOwn.never (by rfl) (di_zip (by rfl) T.b_zip (src_v 0) (src_v 1)) (dg_tup (by rfl) (dgs_cons (dg_name (i := 6) sc.nd (by rfl) (by first | exact Or.inl rfl | exact Or.inr rfl)) (dgs_cons (dg_name (i := 7) sc.nd (by rfl) (by first | exact Or.inl rfl | exact Or.inr rfl)) dgs_nil))) (dss_cons (ds_set (i := 8) sc.nd (by rfl) (by first | exact Or.inl rfl | exact Or.inr rfl) (de_tup (da_cons (de_op (r := (rI0 fun i j => .int (i - j))) op_sub rs_sub (de_op (r := (rMulB K)) op_mulB rsem_mulB (de_ix (de_var 3) de_int) (de_ix (de_var 6) de_int)) (de_op (r := (rMulB K)) op_mulB rsem_mulB (de_ix (de_var 6) de_int) (de_ix (de_var 3) de_int))) (da_cons (de_op (r := (rMulB K)) op_mulB rsem_mulB (de_ix (de_var 3) de_int) (de_ix (de_var 6) de_int)) da_nil))))
    (dss_cons (ds_set (i := 9) sc.nd (by rfl) (by first | exact Or.inl rfl | exact Or.inr rfl) (de_tup (da_cons (de_op (r := (rI0 fun i j => .int (i - j))) op_sub rs_sub (de_op (r := (rMulB K)) op_mulB rsem_mulB (de_ix (de_var 4) de_int) (de_ix (de_var 7) de_int)) (de_op (r := (rMulB K)) op_mulB rsem_mulB (de_ix (de_var 7) de_int) (de_ix (de_var 4) de_int))) (da_cons (de_op (r := (rMulB K)) op_mulB rsem_mulB (de_ix (de_var 4) de_int) (de_ix (de_var 7) de_int)) da_nil))))
    (dss_one (ds_if (DW.dt (dw_and (dt_cmp (r := (rI0 fun i j => .bl (decide (j < i)))) op_gt rs_gt (de_ix (de_var 8) de_int) de_int (nomark _)) (dw_and1 (dt_cmp (r := (rI0 fun i j => .bl (decide (j < i)))) op_gt rs_gt (de_ix (de_var 9) de_int) de_int (nomark _))))) (dss_cons (ds_set (i := 5) sc.nd (by rfl) (by first | exact Or.inl rfl | exact Or.inr rfl) (de_call C_ratio hr (by decide) (by rfl) (da_cons (de_op (r := (rMulB K)) op_mulB rsem_mulB (de_ix (de_var 8) de_int) (de_ix (de_var 9) de_int)) (da_cons (de_op (r := (rMulB K)) op_mulB rsem_mulB (de_ix (de_var 8) de_int) (de_ix (de_var 9) de_int)) da_nil))))
    (dss_one (ds_set (i := 2) sc.nd (by rfl) (by first | exact Or.inl rfl | exact Or.inr rfl) (de_if (DW.dt (dw_or (dt_cmp (r := (fun x y H Q => y = .non ∧ Q (.bl (decide (x = .non))) H)) op_isN rsem_isN (de_var 2) de_non (nomark _)) (dw_or1 (dt_val (de_call C_is_less hr (by decide) (by rfl) (da_cons (de_var 5) (da_cons (de_var 2) da_nil))))))) (de_var 5) (de_var 2))))) dss_nil))))))))
    (dss_one (ds_retV 2))))⟩
abbrev nm_sorted_levels : List Str := ["levels", "found", "level", "at"]
theorem sc_sorted_levels : FnScope nm_sorted_levels ["levels"] (defScope s_sorted_levels) := ⟨rfl, rfl, rfl, by decide +kernel, rfl, by decide +kernel, by decide +kernel⟩
def g_sorted_levels : DV.Env → M Out :=
  (sSeq (sSet 1 (eLst aNil))
  (sSeq (sFor (srcV 0) (gNm 2) (sSeq (sSet 3 (eC (.int 0)))
  (sSeq (wloopF (tIfT (eT (e2 gLt (eVar 3) (eCall gLen (aCons (eVar 1) aNil)))) (eT (eFn (fun xs => if xs.length = 2 then m_is_less xs else fail) (aCons (eVar 2) (aCons (e2 gIx (eVar 1) (eVar 3)) aNil)))) (tRetB false)) (sAug 3 (fun a b => a + b) (eC (.int 1))) 100000)
  (sIns 1 (eVar 3) (eVar 2)))))
  (sRetV 1)))
def m_sorted_levels : List RV → M RV := runDef 4 g_sorted_levels
theorem ok_sorted_levels {f : Addr} {fd : FuncData} (F : Fun K "sorted_levels" "sorted_levels" s_sorted_levels f fd) (T : Txt mg) (C_is_less : Cal P w K mg base "is_less" 1 ["one", "other"] 2 m_is_less) : FnOk P w K mg base CX0 2 f fd ["levels"] (spFn K 1 m_sorted_levels) := by
  have sc := sc_sorted_levels
  have e : spFn K 1 m_sorted_levels = spFn K (["levels"] : List Str).length (runDef nm_sorted_levels.length g_sorted_levels) := rfl
  rw [e]
  refine fn_ok (P := P) (w := w) (mg := mg) (base := base) (k := 1) (g := g_sorted_levels) F sc ?_
  intro R cdv A outer s H E hcd hr
  exact ⟨_, (dss_cons (ds_set (i := 1) sc.nd (by rfl) (by first | exact Or.inl rfl | exact Or.inr rfl) (de_lst da_nil))
    (dss_cons (ds_for PassesOwn.never (by rfl) (di_seq (src_v 0)) (dg_name (i := 2) sc.nd (by rfl) (by first | exact Or.inl rfl | exact Or.inr rfl)) (dss_cons (ds_set (i := 3) sc.nd (by rfl) (by first | exact Or.inl rfl | exact Or.inr rfl) de_int)
    (dss_cons (ds_while 100000 PassesOwn.never (DW.dt (dw_and (dt_cmp (r := (rI0 fun i j => .bl (decide (i < j)))) op_lt rs_lt (de_var 3) (de_callB (r := (DV.rLen K)) call_len_seq csem_len (by rfl) T.b_len PySem.boot_len (da_cons (de_var 1) da_nil)) (nomark _)) (dw_and1 (dt_val (de_call C_is_less hr (by decide) (by rfl) (da_cons (de_var 2) (da_cons (de_ix (de_var 1) (de_var 3)) da_nil))))))) (dss_one (ds_aug (i := 3) ip_add sc.nd (by rfl) (by first | exact Or.inl rfl | exact Or.inr rfl) de_int)))
    (dss_one (ds_insertF (i := 1) (de_var 3) (de_var 2) fun h1 h2 => (pe_bm PySem.F.plainAttrs_list PySem.F.slot_list_insert PySem.F.type_list_insert mt_insertA (pv 1) (pa_cons h1 (pa_cons h2 pa_nil))))))))
    (dss_one (ds_retV 1))))⟩
abbrev nm_rates_of : List Str := ["left", "speeds", "fast", "found", "levels", "one", "used", "level", "group", "job", "some"]
theorem sc_rates_of : FnScope nm_rates_of ["left", "speeds"] (defScope s_rates_of) := ⟨rfl, rfl, rfl, by decide +kernel, rfl, by decide +kernel, by decide +kernel⟩
def g_rates_of : DV.Env → M Out :=
  (sSeq (sPar 2 3 (aCons (eSortRev (eVar 1)) (aCons (e2 gMulA (eLst (aCons (eTup (aCons (eC (.int 0)) (aCons (eC (.int 1)) aNil))) aNil)) (eCall gLen (aCons (eVar 0) aNil))) aNil)))
  (sSeq (sSet 4 (eLst aNil))
  (sSeq (sFor (srcV 0) (gNm 5) (sIf (tIfT (eT (e2 gGt (e2 gIx (eVar 5) (eC (.int 0))) (eC (.int 0)))) (eT (e2 gNotIn (eVar 5) (eVar 4))) (tRetB false)) (sApp 4 (eVar 5)) sNil))
  (sSeq (sSet 6 (eC (.int 0)))
  (sSeq (sFor (srcE (eFn (fun xs => if xs.length = 1 then m_sorted_levels xs else fail) (aCons (eVar 4) aNil))) (gNm 7) (sSeq (sSet 8 (eLc (iEnumF (srcV 0)) [9, 5] (gTupF 2 (gMore (gNm 9) (gMore (gNm 5) gNone))) (eT (e2 gEq (eVar 5) (eVar 7))) (eVar 9)))
  (sSeq (sSet 10 (eSlice (eVar 2) (ePart (eVar 6)) (ePart (e2 gAddA (eVar 6) (eCall gLen (aCons (eVar 8) aNil))))))
  (sSeq (sAug 6 (fun a b => a + b) (eCall gLen (aCons (eVar 8) aNil)))
  (sFor (srcV 8) (gNm 9) (sPut 3 (eFn (fun xs => if xs.length = 2 then m_ratio xs else fail) (aCons (eCall gSum (aCons (eVar 10) aNil)) (aCons (eCall gLen (aCons (eVar 8) aNil)) aNil))) (eVar 9)))))))
  (sRetV 3))))))
def m_rates_of : List RV → M RV := runDef 11 g_rates_of
theorem ok_rates_of {f : Addr} {fd : FuncData} (F : Fun K "rates_of" "rates_of" s_rates_of f fd) (T : Txt mg) (C_sorted_levels : Cal P w K mg base "sorted_levels" 2 ["levels"] 1 m_sorted_levels) (C_ratio : Cal P w K mg base "ratio" 1 ["top", "bottom"] 2 m_ratio) : FnOk P w K mg base CX0 3 f fd ["left", "speeds"] (spFn K 2 m_rates_of) := by
  have sc := sc_rates_of
  have e : spFn K 2 m_rates_of = spFn K (["left", "speeds"] : List Str).length (runDef nm_rates_of.length g_rates_of) := rfl
  rw [e]
  refine fn_ok (P := P) (w := w) (mg := mg) (base := base) (k := 2) (g := g_rates_of) F sc ?_
  intro R cdv A outer s H E hcd hr
  exact ⟨_, (dss_cons (ds_par (i := 2) (j := 3) (by rfl) sc.nd (by rfl) (by rfl) (by decide) (by rfl) (by rfl) (de_sortRev (by rfl) T.b_sorted (de_var 1)) (de_op (r := (rMulA K)) op_mulA rsem_mul (de_lst (da_cons (de_tup (da_cons de_int (da_cons de_int da_nil))) da_nil)) (de_callB (r := (DV.rLen K)) call_len_seq csem_len (by rfl) T.b_len PySem.boot_len (da_cons (de_var 0) da_nil))) (by rfl))
    (dss_cons (ds_set (i := 4) sc.nd (by rfl) (by first | exact Or.inl rfl | exact Or.inr rfl) (de_lst da_nil))
    (dss_cons (ds_for PassesOwn.never (by rfl) (di_seq (src_v 0)) (dg_name (i := 5) sc.nd (by rfl) (by first | exact Or.inl rfl | exact Or.inr rfl)) (dss_one (ds_if (DW.dt (dw_and (dt_cmp (r := (rI0 fun i j => .bl (decide (j < i)))) op_gt rs_gt (de_ix (de_var 5) de_int) de_int (nomark _)) (dw_and1 (dt_cmp (r := (rInA K true)) (op_notInA (rm65 hr)) (rsem_in true) (de_var 5) (de_var 4) (by with_unfolding_all rfl))))) (dss_one (ds_appendF (i := 4) (de_var 5) fun h => (pe_bm PySem.F.plainAttrs_list PySem.F.slot_list_append PySem.F.type_list_append mt_append (pv 4) (pa_cons h pa_nil)))) dss_nil)))
    (dss_cons (ds_set (i := 6) sc.nd (by rfl) (by first | exact Or.inl rfl | exact Or.inr rfl) de_int)
    (dss_cons (ds_for PassesOwn.never (by rfl) (di_seq (src_e (de_call C_sorted_levels hr (by decide) (by rfl) (da_cons (de_var 4) da_nil)))) (dg_name (i := 7) sc.nd (by rfl) (by first | exact Or.inl rfl | exact Or.inr rfl)) (dss_cons (ds_setLc (i := 8) (own := [("job", 9), ("one", 5)]) (g := (gTup K 2 (gCons (gName 9) (gCons (gName 5) gNil)))) (tt := (tTest (tOp (rEqD K) (tVar 5) (tVar 7)))) (te := (tVar 9)) (by rfl) sc.nd (by rfl) (by rfl) (sw_true (by rfl) (by rfl) (by rfl) (by decide +kernel)) (di_enum (by rfl) T.b_enumerate (src_v 0)) (blkOk_by (N := nm_rates_of) (sc := defScope s_rates_of) (by decide +kernel)) (by decide) (fun _ _ _ _ _ => (dg_tup (by rfl) (dgs_cons (dg_name (i := 9) sc.nd (by rfl) (by first | exact Or.inl rfl | exact Or.inr rfl)) (dgs_cons (dg_name (i := 5) sc.nd (by rfl) (by first | exact Or.inl rfl | exact Or.inr rfl)) dgs_nil)))) (fun _ _ _ _ _ => (dts_one (dt_cmp (r := (rEqD K)) (op_eqD (rm64 hr)) rsem_eq (de_var 5) (de_var 7) (nomark _)))) (fun _ _ _ _ _ => (de_var 9)))
    (dss_cons (ds_set (i := 10) sc.nd (by rfl) (by first | exact Or.inl rfl | exact Or.inr rfl) (de_slice (de_var 2) (do_some (de_var 6)) (do_some (de_op (r := (rAddA K)) op_addA rsem_add (de_var 6) (de_callB (r := (DV.rLen K)) call_len_seq csem_len (by rfl) T.b_len PySem.boot_len (da_cons (de_var 8) da_nil))))))
    (dss_cons (ds_aug (i := 6) ip_add sc.nd (by rfl) (by first | exact Or.inl rfl | exact Or.inr rfl) (de_callB (r := (DV.rLen K)) call_len_seq csem_len (by rfl) T.b_len PySem.boot_len (da_cons (de_var 8) da_nil)))
    (dss_one (ds_for PassesOwn.never (by rfl) (di_seq (src_v 8)) (dg_name (i := 9) sc.nd (by rfl) (by first | exact Or.inl rfl | exact Or.inr rfl)) (dss_one (ds_putF (i := 3) (de_call C_ratio hr (by decide) (by rfl) (da_cons (de_callB (r := (DV.rSumA K)) (cr_sumA (by rfl)) csem_sum (by rfl) T.b_sum PyProof.Rows.boot_sum (da_cons (de_var 10) da_nil)) (da_cons (de_callB (r := (DV.rLen K)) call_len_seq csem_len (by rfl) T.b_len PySem.boot_len (da_cons (de_var 8) da_nil)) da_nil))) (de_var 9) fun h => pg_sub (pv 3) h set_list))))))))
    (dss_one (ds_retV 3)))))))⟩
abbrev nm_shared : List Str := ["times", "speeds", "moment", "left", "now", "time", "rates", "step", "rest", "one", "rate"]
theorem sc_shared : FnScope nm_shared ["times", "speeds", "moment"] (defScope s_shared) := ⟨rfl, rfl, rfl, by decide +kernel, rfl, by decide +kernel, by decide +kernel⟩
def g_shared : DV.Env → M Out :=
  (sSeq (sDrop (eFn (fun xs => if xs.length = 1 then m_need_times xs else fail) (aCons (eVar 0) aNil)))
  (sSeq (sDrop (eFn (fun xs => if xs.length = 1 then m_need_speeds xs else fail) (aCons (eVar 1) aNil)))
  (sSeq (sIf (tNotF (eT (eFn (fun xs => if xs.length = 3 then m_is_in xs else fail) (aCons (eVar 2) (aCons (eC (.int 0)) (aCons (eC (.int 60)) aNil)))))) sNever sNil)
  (sSeq (sPar 3 4 (aCons (eLc (srcV 0) [5] (gNm 5) tTrue (eTup (aCons (eVar 5) (aCons (eC (.int 1)) aNil)))) (aCons (eTup (aCons (eC (.int 0)) (aCons (eC (.int 1)) aNil))) aNil)))
  (sSeq (wloopF (eT (eFn (fun xs => if xs.length = 2 then m_is_less xs else fail) (aCons (eVar 4) (aCons (eTup (aCons (eVar 2) (aCons (eC (.int 1)) aNil))) aNil)))) (sSeq (sSet 6 (eFn (fun xs => if xs.length = 2 then m_rates_of xs else fail) (aCons (eVar 3) (aCons (eVar 1) aNil))))
  (sSeq (sSet 7 (eFn (fun xs => if xs.length = 2 then m_next_step xs else fail) (aCons (eVar 3) (aCons (eVar 6) aNil))))
  (sSeq (sSet 8 (eFn (fun xs => if xs.length = 2 then m_minus xs else fail) (aCons (eVar 2) (aCons (eVar 4) aNil))))
  (sSeq (sSet 7 (eIf (tIfT (eT (e2 gIs (eVar 7) (eC .none))) (tRetB true) (eT (eFn (fun xs => if xs.length = 2 then m_is_less xs else fail) (aCons (eVar 8) (aCons (eVar 7) aNil))))) (eVar 8) (eVar 7)))
  (sSeq (sSet 3 (eLk 3 (eLc (iZipF (srcV 3) (srcV 6)) [9, 10] (gTupF 2 (gMore (gNm 9) (gMore (gNm 10) gNone))) tTrue (eFn (fun xs => if xs.length = 3 then m_lowered xs else fail) (aCons (eVar 9) (aCons (eVar 10) (aCons (eVar 7) aNil)))))))
  (sSet 4 (eFn (fun xs => if xs.length = 2 then m_ratio xs else fail) (aCons (e2 gAddA (e2 gMulB (e2 gIx (eVar 4) (eC (.int 0))) (e2 gIx (eVar 7) (eC (.int 1)))) (e2 gMulB (e2 gIx (eVar 7) (eC (.int 0))) (e2 gIx (eVar 4) (eC (.int 1))))) (aCons (e2 gMulB (e2 gIx (eVar 4) (eC (.int 1))) (e2 gIx (eVar 7) (eC (.int 1)))) aNil))))))))) 100000)
  (sRet (eCall gTuple (aCons (eVar 3) aNil))))))))
def m_shared : List RV → M RV := runDef 11 g_shared
theorem ok_shared {f : Addr} {fd : FuncData} (F : Fun K "shared" "shared" s_shared f fd) (T : Txt mg) (C_need_times : Cal P w K mg base "need_times" 4 ["times"] 1 m_need_times) (C_need_speeds : Cal P w K mg base "need_speeds" 3 ["speeds"] 1 m_need_speeds) (C_is_in : Cal P w K mg base "is_in" 2 ["value", "least", "most"] 3 m_is_in) (C_is_less : Cal P w K mg base "is_less" 1 ["one", "other"] 2 m_is_less) (C_rates_of : Cal P w K mg base "rates_of" 3 ["left", "speeds"] 2 m_rates_of) (C_next_step : Cal P w K mg base "next_step" 2 ["left", "rates"] 2 m_next_step) (C_minus : Cal P w K mg base "minus" 2 ["moment", "now"] 2 m_minus) (C_lowered : Cal P w K mg base "lowered" 2 ["one", "rate", "step"] 3 m_lowered) (C_ratio : Cal P w K mg base "ratio" 1 ["top", "bottom"] 2 m_ratio) : FnOk P w K mg base CX0 5 f fd ["times", "speeds", "moment"] (spFn K 3 m_shared) := by
  have sc := sc_shared
  have e : spFn K 3 m_shared = spFn K (["times", "speeds", "moment"] : List Str).length (runDef nm_shared.length g_shared) := rfl
  rw [e]
  refine fn_ok (P := P) (w := w) (mg := mg) (base := base) (k := 4) (g := g_shared) F sc ?_
  intro R cdv A outer s H E hcd hr
  exact ⟨_, (dss_cons (ds_expr (de_call C_need_times hr (by decide) (by rfl) (da_cons (de_var 0) da_nil)))
    (dss_cons (ds_expr (de_call C_need_speeds hr (by decide) (by rfl) (da_cons (de_var 1) da_nil)))
    (dss_cons (ds_if (dt_not (dt_val (de_call C_is_in hr (by decide) (by rfl) (da_cons (de_var 2) (da_cons de_int (da_cons (de_gI (by rfl) T.c_MOST_TIME) da_nil)))))) dss_never dss_nil)
    (dss_cons (ds_par (i := 3) (j := 4) (by rfl) sc.nd (by rfl) (by rfl) (by decide) (by rfl) (by rfl) (de_lc (own := [("time", 5)]) (g := (gName 5)) (tt := tYes) (te := (tTupX (tCons (tVar 5) (tCons (tC (.int 1)) tNil)))) (by rfl) sc.nd (di_seq (src_v 0)) (blkOk_by (N := nm_shared) (sc := defScope s_shared) (by decide +kernel)) (by decide) (fun _ _ _ _ _ => (dg_name (i := 5) sc.nd (by rfl) (by first | exact Or.inl rfl | exact Or.inr rfl))) (fun _ _ _ _ _ => dts_nil) (fun _ _ _ _ _ => (de_tup (da_cons (de_var 5) (da_cons de_int da_nil))))) (de_tup (da_cons de_int (da_cons de_int da_nil))) (by rfl))
    (dss_cons (ds_while 100000 PassesOwn.never (dt_val (de_call C_is_less hr (by decide) (by rfl) (da_cons (de_var 4) (da_cons (de_tup (da_cons (de_var 2) (da_cons de_int da_nil))) da_nil)))) (dss_cons (ds_set (i := 6) sc.nd (by rfl) (by first | exact Or.inl rfl | exact Or.inr rfl) (de_call C_rates_of hr (by decide) (by rfl) (da_cons (de_var 3) (da_cons (de_var 1) da_nil))))
    (dss_cons (ds_set (i := 7) sc.nd (by rfl) (by first | exact Or.inl rfl | exact Or.inr rfl) (de_call C_next_step hr (by decide) (by rfl) (da_cons (de_var 3) (da_cons (de_var 6) da_nil))))
    (dss_cons (ds_set (i := 8) sc.nd (by rfl) (by first | exact Or.inl rfl | exact Or.inr rfl) (de_call C_minus hr (by decide) (by rfl) (da_cons (de_var 2) (da_cons (de_var 4) da_nil))))
    (dss_cons (ds_set (i := 7) sc.nd (by rfl) (by first | exact Or.inl rfl | exact Or.inr rfl) (de_if (DW.dt (dw_or (dt_cmp (r := (fun x y H Q => y = .non ∧ Q (.bl (decide (x = .non))) H)) op_isN rsem_isN (de_var 7) de_non (nomark _)) (dw_or1 (dt_val (de_call C_is_less hr (by decide) (by rfl) (da_cons (de_var 8) (da_cons (de_var 7) da_nil))))))) (de_var 8) (de_var 7)))
    (dss_cons (ds_setLcK (i := 3) (k := 3) (own := [("one", 9), ("rate", 10)]) (g := (gTup K 2 (gCons (gName 9) (gCons (gName 10) gNil)))) (tt := tYes) (te := (tCall (spFn K 3 m_lowered) [] E0 (tCons (tVar 9) (tCons (tVar 10) (tCons (tVar 7) tNil))))) (by rfl) sc.nd (by rfl) (by rfl) (sw_true (by rfl) (by rfl) (by rfl) (by decide +kernel)) (di_zip (by rfl) T.b_zip (src_v 3) (src_v 6)) (blkOk_by (N := nm_shared) (sc := defScope s_shared) (by decide +kernel)) (by decide) (fun _ _ _ _ _ => (dg_tup (by rfl) (dgs_cons (dg_name (i := 9) sc.nd (by rfl) (by first | exact Or.inl rfl | exact Or.inr rfl)) (dgs_cons (dg_name (i := 10) sc.nd (by rfl) (by first | exact Or.inl rfl | exact Or.inr rfl)) dgs_nil)))) (fun _ _ _ _ _ => dts_nil) (fun _ _ _ _ _ => (de_call C_lowered hr (by decide) (by rfl) (da_cons (de_var 9) (da_cons (de_var 10) (da_cons (de_var 7) da_nil))))))
    (dss_one (ds_set (i := 4) sc.nd (by rfl) (by first | exact Or.inl rfl | exact Or.inr rfl) (de_call C_ratio hr (by decide) (by rfl) (da_cons (de_op (r := (rAddA K)) op_addA rsem_add (de_op (r := (rMulB K)) op_mulB rsem_mulB (de_ix (de_var 4) de_int) (de_ix (de_var 7) de_int)) (de_op (r := (rMulB K)) op_mulB rsem_mulB (de_ix (de_var 7) de_int) (de_ix (de_var 4) de_int))) (da_cons (de_op (r := (rMulB K)) op_mulB rsem_mulB (de_ix (de_var 4) de_int) (de_ix (de_var 7) de_int)) da_nil)))))))))))
    (dss_one (ds_ret (de_callTy (r := (DV.rTuple K)) call_tupX csem_tuple (by rfl) T.b_tuple PyProof.Rows.boot_tuple (da_cons (de_var 3) da_nil)))))))))⟩
abbrev nm_law : List Str := ["_law_script", "_law_row", "_law_times", "_law_many", "_law_speeds", "_law_at", "_law_before", "_law_moment", "_law_time", "_law_left", "_law_one", "_law_other", "_law_gone", "_law_busy", "_law_step"]
theorem sc_law : FnScope nm_law ["_law_script"] (defScope s_law) := ⟨rfl, rfl, rfl, by decide +kernel, rfl, by decide +kernel, by decide +kernel⟩
def g_law : DV.Env → M Out :=
  (sSeq (sPar 2 3 (aCons (e2 gIx (eFn (fun xs => if xs.length = 3 then m__law_jobs xs else fail) (aCons (eVar 1) (aCons (eC (.int 5)) (aCons (eC (.int 20)) aNil)))) (eC (.int 0))) (aCons (e2 gAddA (eC (.int 1)) (eFn (fun xs => if xs.length = 2 then m__law_taken xs else fail) (aCons (eVar 1) (aCons (eC (.int 4)) aNil)))) aNil)))
  (sSeq (sSet 4 (eCall gTuple (aCons (eLc (iRng1F (eVar 3)) [5] (gNm 5) tTrue (e2 gAddA (eC (.int 1)) (eFn (fun xs => if xs.length = 2 then m__law_taken xs else fail) (aCons (eVar 1) (aCons (eC (.int 4)) aNil))))) aNil)))
  (sSeq (sPar 6 7 (aCons (eCall gTuple (aCons (eLc (srcV 2) [8] (gNm 8) tTrue (eTup (aCons (eVar 8) (aCons (eC (.int 1)) aNil)))) aNil)) (aCons (eC (.int 0)) aNil)))
  (sSeq (sFor (iRng2F (eC (.int 1)) (eC (.int 5))) (gNm 7) (sSeq (sSet 9 (eFn (fun xs => if xs.length = 3 then m_shared xs else fail) (aCons (eVar 2) (aCons (eVar 4) (aCons (eVar 7) aNil)))))
  (sSeq (sIf (tIfT (eT (e2 gNe (eCall gLen (aCons (eVar 9) aNil)) (eCall gLen (aCons (eVar 2) aNil)))) (tRetB true) (eT (e2 gNe (eLc (srcV 9) [10] (gNm 10) (tIfT (eT (e2 gLt (e2 gIx (eVar 10) (eC (.int 0))) (eC (.int 0)))) (tRetB true) (eT (e2 gLt (e2 gIx (eVar 10) (eC (.int 1))) (eC (.int 1))))) (eVar 10)) (eLst aNil)))) (sRet (eC (.bool false))) sNil)
  (sSeq (sFor (iRng1F (eCall gLen (aCons (eVar 2) aNil))) (gNm 10) (sSeq (sIf (eT (eFn (fun xs => if xs.length = 2 then m__law_less xs else fail) (aCons (e2 gIx (eVar 6) (eVar 10)) (aCons (e2 gIx (eVar 9) (eVar 10)) aNil)))) (sRet (eC (.bool false))) sNil)
  (sFor (iRng1F (eCall gLen (aCons (eVar 2) aNil))) (gNm 11) (sIf (tIfT (tIfT (eT (e2 gGe (e2 gIx (eVar 2) (eVar 10)) (e2 gIx (eVar 2) (eVar 11)))) (eT (eFn (fun xs => if xs.length = 2 then m__law_less xs else fail) (aCons (e2 gIx (eVar 9) (eVar 10)) (aCons (e2 gIx (eVar 9) (eVar 11)) aNil)))) (tRetB false)) (tRetB true) (tIfT (eT (e2 gEq (e2 gIx (eVar 2) (eVar 10)) (e2 gIx (eVar 2) (eVar 11)))) (eT (e2 gNe (e2 gIx (eVar 9) (eVar 10)) (e2 gIx (eVar 9) (eVar 11)))) (tRetB false))) (sRet (eC (.bool false))) sNil))))
  (sSeq (sPar 12 13 (aCons (eTup (aCons (eC (.int 0)) (aCons (eC (.int 1)) aNil))) (aCons (eCall gLen (aCons (eLc (srcV 9) [10] (gNm 10) (eT (e2 gGt (e2 gIx (eVar 10) (eC (.int 0))) (eC (.int 0)))) (eVar 10)) aNil)) aNil)))
  (sSeq (sFor (iRng1F (eCall gLen (aCons (eVar 2) aNil))) (gNm 5) (sSeq (sSet 14 (eFn (fun xs => if xs.length = 2 then m__law_minus xs else fail) (aCons (e2 gIx (eVar 6) (eVar 5)) (aCons (e2 gIx (eVar 9) (eVar 5)) aNil))))
  (sSet 12 (eFn (fun xs => if xs.length = 2 then m__law_lowest xs else fail) (aCons (e2 gAddA (e2 gMulB (e2 gIx (eVar 12) (eC (.int 0))) (e2 gIx (eVar 14) (eC (.int 1)))) (e2 gMulB (e2 gIx (eVar 14) (eC (.int 0))) (e2 gIx (eVar 12) (eC (.int 1))))) (aCons (e2 gMulB (e2 gIx (eVar 12) (eC (.int 1))) (e2 gIx (eVar 14) (eC (.int 1)))) aNil))))))
  (sSeq (sIf (eT (eFn (fun xs => if xs.length = 2 then m__law_less xs else fail) (aCons (eTup (aCons (eCall gSum (aCons (eSlice (eRev (eCall gSort (aCons (eVar 4) aNil))) (fun _ => ret none) (ePart (eCall gLen (aCons (eVar 2) aNil)))) aNil)) (aCons (eC (.int 1)) aNil))) (aCons (eVar 12) aNil)))) (sRet (eC (.bool false))) sNil)
  (sSeq (sIf (tIfT (eT (e2 gEq (eVar 13) (eCall gLen (aCons (eVar 2) aNil)))) (eT (e2 gNe (eVar 12) (eTup (aCons (eCall gSum (aCons (eSlice (eRev (eCall gSort (aCons (eVar 4) aNil))) (fun _ => ret none) (ePart (eCall gLen (aCons (eVar 2) aNil)))) aNil)) (aCons (eC (.int 1)) aNil))))) (tRetB false)) (sRet (eC (.bool false))) sNil)
  (sMove 6 9)))))))))
  (sRet (eIfB (eNotB (eFn (fun xs => if xs.length = 2 then m__law_less xs else fail) (aCons (eTup (aCons (eVar 7) (aCons (eC (.int 1)) aNil))) (aCons (eFn (fun xs => if xs.length = 2 then m_level_speeds xs else fail) (aCons (eVar 2) (aCons (eVar 4) aNil))) aNil)))) (eC (.bool true)) (e2 gNe (eLc (srcV 6) [10] (gNm 10) (eT (e2 gGt (e2 gIx (eVar 10) (eC (.int 0))) (eC (.int 0)))) (eVar 10)) (eLst aNil))))))))
def LawHolds : Prop := ∀ ns : List Int, ns.length ≤ 63 → ∃ rs', g_law (lawE 15) ⟨ns, 0, 3989, 0⟩ = some (.rt (.d (.bool true)), rs')
theorem ok_law {f : Addr} {fd : FuncData} (hlaw : LawHolds) (F : Fun K "law" "law" s_law f fd) (T : Txt mg) (C__law_jobs : Cal P w K mg base "_law_jobs" 3 ["_law_row", "_law_most", "_law_time"] 3 m__law_jobs) (C__law_taken : Cal P w K mg base "_law_taken" 1 ["_law_row", "_law_many"] 2 m__law_taken) (C_shared : Cal P w K mg base "shared" 5 ["times", "speeds", "moment"] 3 m_shared) (C__law_less : Cal P w K mg base "_law_less" 1 ["_law_one", "_law_other"] 2 m__law_less) (C__law_minus : Cal P w K mg base "_law_minus" 3 ["_law_one", "_law_other"] 2 m__law_minus) (C__law_lowest : Cal P w K mg base "_law_lowest" 2 ["_law_numerator", "_law_denominator"] 2 m__law_lowest) (C_level_speeds : Cal P w K mg base "level_speeds" 5 ["times", "speeds"] 2 m_level_speeds) : FnOk P w K mg base CX0 6 f fd ["_law_script"] (spLaw K) :=
  have sc := sc_law
  law_ok (k := 5) (g := g_law) (seed := 3989) F sc (by decide) rfl (fun cdv A outer s H E hr => ⟨ps_set (i := 1) sc.nd rfl (by first | exact Or.inl rfl | exact Or.inr rfl) (pe_lst (pa_cons (pv 0) (pa_cons pe_int (pa_cons pe_int (pa_cons pe_int pa_nil))))), _, fun R => (dss_cons (ds_par (i := 2) (j := 3) (by rfl) sc.nd (by rfl) (by rfl) (by decide) (by rfl) (by rfl) (de_ix (de_call C__law_jobs hr (by decide) (by rfl) (da_cons (de_var 1) (da_cons de_int (da_cons de_int da_nil)))) de_int) (de_op (r := (rAddA K)) op_addA rsem_add de_int (de_call C__law_taken hr (by decide) (by rfl) (da_cons (de_var 1) (da_cons de_int da_nil)))) (by rfl))
    (dss_cons (ds_set (i := 4) sc.nd (by rfl) (by first | exact Or.inl rfl | exact Or.inr rfl) (de_callTy (r := (DV.rTuple K)) call_tupX csem_tuple (by rfl) T.b_tuple PyProof.Rows.boot_tuple (da_cons (de_lc (own := [("_law_at", 5)]) (g := (gName 5)) (tt := tYes) (te := (tOp (rAddA K) (tC (.int 1)) (tCall (spFn K 2 m__law_taken) [] E0 (tCons (tVar 1) (tCons (tC (.int 4)) tNil))))) (by rfl) sc.nd (di_range1 (by rfl) T.b_range (de_var 3)) (blkOk_by (N := nm_law) (sc := defScope s_law) (by decide +kernel)) (by decide) (fun _ _ _ _ _ => (dg_name (i := 5) sc.nd (by rfl) (by first | exact Or.inl rfl | exact Or.inr rfl))) (fun _ _ _ _ _ => dts_nil) (fun _ _ _ _ _ => (de_op (r := (rAddA K)) op_addA rsem_add de_int (de_call C__law_taken hr (by decide) (by rfl) (da_cons (de_var 1) (da_cons de_int da_nil)))))) da_nil)))
    (dss_cons (ds_par (i := 6) (j := 7) (by rfl) sc.nd (by rfl) (by rfl) (by decide) (by rfl) (by rfl) (de_callTy (r := (DV.rTuple K)) call_tupX csem_tuple (by rfl) T.b_tuple PyProof.Rows.boot_tuple (da_cons (de_lc (own := [("_law_time", 8)]) (g := (gName 8)) (tt := tYes) (te := (tTupX (tCons (tVar 8) (tCons (tC (.int 1)) tNil)))) (by rfl) sc.nd (di_seq (src_v 2)) (blkOk_by (N := nm_law) (sc := defScope s_law) (by decide +kernel)) (by decide) (fun _ _ _ _ _ => (dg_name (i := 8) sc.nd (by rfl) (by first | exact Or.inl rfl | exact Or.inr rfl))) (fun _ _ _ _ _ => dts_nil) (fun _ _ _ _ _ => (de_tup (da_cons (de_var 8) (da_cons de_int da_nil))))) da_nil)) de_int (by rfl))
    (dss_cons (ds_for PassesOwn.never (by rfl) (di_range2 (by rfl) T.b_range de_int de_int) (dg_name (i := 7) sc.nd (by rfl) (by first | exact Or.inl rfl | exact Or.inr rfl)) (dss_cons (ds_set (i := 9) sc.nd (by rfl) (by first | exact Or.inl rfl | exact Or.inr rfl) (de_call C_shared hr (by decide) (by rfl) (da_cons (de_var 2) (da_cons (de_var 4) (da_cons (de_var 7) da_nil)))))
    (dss_cons (ds_if (DW.dt (dw_or (dt_cmp (r := (rNeD K)) (op_neD (rm64 hr)) rsem_ne (de_callB (r := (DV.rLen K)) call_len_seq csem_len (by rfl) T.b_len PySem.boot_len (da_cons (de_var 9) da_nil)) (de_callB (r := (DV.rLen K)) call_len_seq csem_len (by rfl) T.b_len PySem.boot_len (da_cons (de_var 2) da_nil)) (nomark _)) (dw_or1 (dt_cmp (r := (rNeD K)) (op_neD (rm64 hr)) rsem_ne (de_lc (own := [("_law_one", 10)]) (g := (gName 10)) (tt := (tOr (tTest (tOp (rI0 fun i j => .bl (decide (i < j))) (tOp (rIx K) (tVar 10) (tC (.int 0))) (tC (.int 0)))) (tTest (tOp (rI0 fun i j => .bl (decide (i < j))) (tOp (rIx K) (tVar 10) (tC (.int 1))) (tC (.int 1)))))) (te := (tVar 10)) (by rfl) sc.nd (di_seq (src_v 9)) (blkOk_by (N := nm_law) (sc := defScope s_law) (by decide +kernel)) (by decide) (fun _ _ _ _ _ => (dg_name (i := 10) sc.nd (by rfl) (by first | exact Or.inl rfl | exact Or.inr rfl))) (fun _ _ _ _ _ => (dts_one (DW.dt (dw_or (dt_cmp (r := (rI0 fun i j => .bl (decide (i < j)))) op_lt rs_lt (de_ix (de_var 10) de_int) de_int (nomark _)) (dw_or1 (dt_cmp (r := (rI0 fun i j => .bl (decide (i < j)))) op_lt rs_lt (de_ix (de_var 10) de_int) de_int (nomark _))))))) (fun _ _ _ _ _ => (de_var 10))) (de_lst da_nil) (nomark _))))) (dss_one (ds_ret de_bl)) dss_nil)
    (dss_cons (ds_for PassesOwn.never (by rfl) (di_range1 (by rfl) T.b_range (de_callB (r := (DV.rLen K)) call_len_seq csem_len (by rfl) T.b_len PySem.boot_len (da_cons (de_var 2) da_nil))) (dg_name (i := 10) sc.nd (by rfl) (by first | exact Or.inl rfl | exact Or.inr rfl)) (dss_cons (ds_if (dt_val (de_call C__law_less hr (by decide) (by rfl) (da_cons (de_ix (de_var 6) (de_var 10)) (da_cons (de_ix (de_var 9) (de_var 10)) da_nil)))) (dss_one (ds_ret de_bl)) dss_nil)
    (dss_one (ds_for PassesOwn.never (by rfl) (di_range1 (by rfl) T.b_range (de_callB (r := (DV.rLen K)) call_len_seq csem_len (by rfl) T.b_len PySem.boot_len (da_cons (de_var 2) da_nil))) (dg_name (i := 11) sc.nd (by rfl) (by first | exact Or.inl rfl | exact Or.inr rfl)) (dss_one (ds_if (DW.dt (dw_or (DW.dt (dw_and (dt_cmp (r := (rI0 fun i j => .bl (decide (j ≤ i)))) op_ge rs_ge (de_ix (de_var 2) (de_var 10)) (de_ix (de_var 2) (de_var 11)) (nomark _)) (dw_and1 (dt_val (de_call C__law_less hr (by decide) (by rfl) (da_cons (de_ix (de_var 9) (de_var 10)) (da_cons (de_ix (de_var 9) (de_var 11)) da_nil))))))) (dw_or1 (DW.dt (dw_and (dt_cmp (r := (rEqD K)) (op_eqD (rm64 hr)) rsem_eq (de_ix (de_var 2) (de_var 10)) (de_ix (de_var 2) (de_var 11)) (nomark _)) (dw_and1 (dt_cmp (r := (rNeD K)) (op_neD (rm64 hr)) rsem_ne (de_ix (de_var 9) (de_var 10)) (de_ix (de_var 9) (de_var 11)) (nomark _)))))))) (dss_one (ds_ret de_bl)) dss_nil))))))
    (dss_cons (ds_par (i := 12) (j := 13) (by rfl) sc.nd (by rfl) (by rfl) (by decide) (by rfl) (by rfl) (de_tup (da_cons de_int (da_cons de_int da_nil))) (de_callB (r := (DV.rLen K)) call_len_seq csem_len (by rfl) T.b_len PySem.boot_len (da_cons (de_lc (own := [("_law_one", 10)]) (g := (gName 10)) (tt := (tTest (tOp (rI0 fun i j => .bl (decide (j < i))) (tOp (rIx K) (tVar 10) (tC (.int 0))) (tC (.int 0))))) (te := (tVar 10)) (by rfl) sc.nd (di_seq (src_v 9)) (blkOk_by (N := nm_law) (sc := defScope s_law) (by decide +kernel)) (by decide) (fun _ _ _ _ _ => (dg_name (i := 10) sc.nd (by rfl) (by first | exact Or.inl rfl | exact Or.inr rfl))) (fun _ _ _ _ _ => (dts_one (dt_cmp (r := (rI0 fun i j => .bl (decide (j < i)))) op_gt rs_gt (de_ix (de_var 10) de_int) de_int (nomark _)))) (fun _ _ _ _ _ => (de_var 10))) da_nil)) (by rfl))
    (dss_cons (ds_for PassesOwn.never (by rfl) (di_range1 (by rfl) T.b_range (de_callB (r := (DV.rLen K)) call_len_seq csem_len (by rfl) T.b_len PySem.boot_len (da_cons (de_var 2) da_nil))) (dg_name (i := 5) sc.nd (by rfl) (by first | exact Or.inl rfl | exact Or.inr rfl)) (dss_cons (ds_set (i := 14) sc.nd (by rfl) (by first | exact Or.inl rfl | exact Or.inr rfl) (de_call C__law_minus hr (by decide) (by rfl) (da_cons (de_ix (de_var 6) (de_var 5)) (da_cons (de_ix (de_var 9) (de_var 5)) da_nil))))
    (dss_one (ds_set (i := 12) sc.nd (by rfl) (by first | exact Or.inl rfl | exact Or.inr rfl) (de_call C__law_lowest hr (by decide) (by rfl) (da_cons (de_op (r := (rAddA K)) op_addA rsem_add (de_op (r := (rMulB K)) op_mulB rsem_mulB (de_ix (de_var 12) de_int) (de_ix (de_var 14) de_int)) (de_op (r := (rMulB K)) op_mulB rsem_mulB (de_ix (de_var 14) de_int) (de_ix (de_var 12) de_int))) (da_cons (de_op (r := (rMulB K)) op_mulB rsem_mulB (de_ix (de_var 12) de_int) (de_ix (de_var 14) de_int)) da_nil)))))))
    (dss_cons (ds_if (dt_val (de_call C__law_less hr (by decide) (by rfl) (da_cons (de_tup (da_cons (de_callB (r := (DV.rSumA K)) (cr_sumA (by rfl)) csem_sum (by rfl) T.b_sum PyProof.Rows.boot_sum (da_cons (de_slice (de_rev (de_callB (r := (DV.rSortA K)) (cr_sortA (rm65 hr)) csem_sort (by rfl) T.b_sorted PyProof.Rows.boot_sorted (da_cons (de_var 4) da_nil))) do_none (do_some (de_callB (r := (DV.rLen K)) call_len_seq csem_len (by rfl) T.b_len PySem.boot_len (da_cons (de_var 2) da_nil)))) da_nil)) (da_cons de_int da_nil))) (da_cons (de_var 12) da_nil)))) (dss_one (ds_ret de_bl)) dss_nil)
    (dss_cons (ds_if (DW.dt (dw_and (dt_cmp (r := (rEqD K)) (op_eqD (rm64 hr)) rsem_eq (de_var 13) (de_callB (r := (DV.rLen K)) call_len_seq csem_len (by rfl) T.b_len PySem.boot_len (da_cons (de_var 2) da_nil)) (nomark _)) (dw_and1 (dt_cmp (r := (rNeD K)) (op_neD (rm64 hr)) rsem_ne (de_var 12) (de_tup (da_cons (de_callB (r := (DV.rSumA K)) (cr_sumA (by rfl)) csem_sum (by rfl) T.b_sum PyProof.Rows.boot_sum (da_cons (de_slice (de_rev (de_callB (r := (DV.rSortA K)) (cr_sortA (rm65 hr)) csem_sort (by rfl) T.b_sorted PyProof.Rows.boot_sorted (da_cons (de_var 4) da_nil))) do_none (do_some (de_callB (r := (DV.rLen K)) call_len_seq csem_len (by rfl) T.b_len PySem.boot_len (da_cons (de_var 2) da_nil)))) da_nil)) (da_cons de_int da_nil))) (nomark _))))) (dss_one (ds_ret de_bl)) dss_nil)
    (dss_one (ds_move (i := 6) (j := 9) sc.nd (by rfl) (by first | exact Or.inl rfl | exact Or.inr rfl) (by rfl)))))))))))
    (dss_one (ds_ret (de_or (de_not (de_call C__law_less hr (by decide) (by rfl) (da_cons (de_tup (da_cons (de_var 7) (da_cons de_int da_nil))) (da_cons (de_call C_level_speeds hr (by decide) (by rfl) (da_cons (de_var 2) (da_cons (de_var 4) da_nil))) da_nil)))) (de_one (de_cmp (r := (rNeD K)) (op_neD (rm64 hr)) rsem_ne (de_lc (own := [("_law_one", 10)]) (g := (gName 10)) (tt := (tTest (tOp (rI0 fun i j => .bl (decide (j < i))) (tOp (rIx K) (tVar 10) (tC (.int 0))) (tC (.int 0))))) (te := (tVar 10)) (by rfl) sc.nd (di_seq (src_v 6)) (blkOk_by (N := nm_law) (sc := defScope s_law) (by decide +kernel)) (by decide) (fun _ _ _ _ _ => (dg_name (i := 10) sc.nd (by rfl) (by first | exact Or.inl rfl | exact Or.inr rfl))) (fun _ _ _ _ _ => (dts_one (dt_cmp (r := (rI0 fun i j => .bl (decide (j < i)))) op_gt rs_gt (de_ix (de_var 10) de_int) de_int (nomark _)))) (fun _ _ _ _ _ => (de_var 10))) (de_lst da_nil) (nomark _))))))))))⟩) hlaw
end
theorem all_mk {l : PySem.W.OpenLaw} {w : World} {K : PySem.W.Frag} {h : Heap} {mg : Str → Option Value} {fa f1 f2 f3 f4 f5 f6 f7 f8 f9 f10 f11 f12 f13 f14 f15 f16 f17 f18 f19 f20 f21 f22 f23 : Addr} (hlaw : LawHolds) (X : K.In h) (G : h.Ns mainGlobals mg) (hfa : mg "law" = some (.ref fa))
    {od1 an1 od2 an2 od3 an3 od4 an4 od5 an5 od6 an6 od7 an7 od8 an8 od9 an9 od10 an10 od11 an11 od12 an12 od13 an13 od14 an14 od15 an15 od16 an16 od17 an17 od18 an18 od19 an19 od20 an20 od21 an21 od22 an22 od23 an23 : Option Addr} {sl1 sl2 sl3 sl4 sl5 sl6 sl7 sl8 sl9 sl10 sl11 sl12 sl13 sl14 sl15 sl16 sl17 sl18 sl19 sl20 sl21 sl22 sl23 : Array (Option Value)} {oc1 kV1 dc1 pm1 cd1 ct1 oc2 kV2 dc2 pm2 cd2 ct2 oc3 kV3 dc3 pm3 cd3 ct3 oc4 kV4 dc4 pm4 cd4 ct4 oc5 kV5 dc5 pm5 cd5 ct5 oc6 kV6 dc6 pm6 cd6 ct6 oc7 kV7 dc7 pm7 cd7 ct7 oc8 kV8 dc8 pm8 cd8 ct8 oc9 kV9 dc9 pm9 cd9 ct9 oc10 kV10 dc10 pm10 cd10 ct10 oc11 kV11 dc11 pm11 cd11 ct11 oc12 kV12 dc12 pm12 cd12 ct12 oc13 kV13 dc13 pm13 cd13 ct13 oc14 kV14 dc14 pm14 cd14 ct14 oc15 kV15 dc15 pm15 cd15 ct15 oc16 kV16 dc16 pm16 cd16 ct16 oc17 kV17 dc17 pm17 cd17 ct17 oc18 kV18 dc18 pm18 cd18 ct18 oc19 kV19 dc19 pm19 cd19 ct19 oc20 kV20 dc20 pm20 cd20 ct20 oc21 kV21 dc21 pm21 cd21 ct21 oc22 kV22 dc22 pm22 cd22 ct22 oc23 kV23 dc23 pm23 cd23 ct23 : Value}
    (a1 : PySem.W.nsIn K mainGlobals "_law_taken" = some (some (.ref f1))) (l1 : K.lookup f1 = some ⟨oc1, od1, .func (PySem.W.fnOf "_law_taken" "_law_taken" (defArgs s__law_taken) (defBody s__law_taken) (defScope s__law_taken) .none kV1 dc1 pm1 an1 cd1 ct1), sl1⟩) (c1 : PySem.W.codeIn K cd1 "_law_taken" = true) (k1 : PySem.W.keepIn K (.ref f1) = true)
    (a2 : PySem.W.nsIn K mainGlobals "_law_pick" = some (some (.ref f2))) (l2 : K.lookup f2 = some ⟨oc2, od2, .func (PySem.W.fnOf "_law_pick" "_law_pick" (defArgs s__law_pick) (defBody s__law_pick) (defScope s__law_pick) .none kV2 dc2 pm2 an2 cd2 ct2), sl2⟩) (c2 : PySem.W.codeIn K cd2 "_law_pick" = true) (k2 : PySem.W.keepIn K (.ref f2) = true)
    (a3 : PySem.W.nsIn K mainGlobals "_law_jobs" = some (some (.ref f3))) (l3 : K.lookup f3 = some ⟨oc3, od3, .func (PySem.W.fnOf "_law_jobs" "_law_jobs" (defArgs s__law_jobs) (defBody s__law_jobs) (defScope s__law_jobs) .none kV3 dc3 pm3 an3 cd3 ct3), sl3⟩) (c3 : PySem.W.codeIn K cd3 "_law_jobs" = true) (k3 : PySem.W.keepIn K (.ref f3) = true)
    (a4 : PySem.W.nsIn K mainGlobals "_law_less" = some (some (.ref f4))) (l4 : K.lookup f4 = some ⟨oc4, od4, .func (PySem.W.fnOf "_law_less" "_law_less" (defArgs s__law_less) (defBody s__law_less) (defScope s__law_less) .none kV4 dc4 pm4 an4 cd4 ct4), sl4⟩) (c4 : PySem.W.codeIn K cd4 "_law_less" = true) (k4 : PySem.W.keepIn K (.ref f4) = true)
    (a5 : PySem.W.nsIn K mainGlobals "_law_gcd" = some (some (.ref f5))) (l5 : K.lookup f5 = some ⟨oc5, od5, .func (PySem.W.fnOf "_law_gcd" "_law_gcd" (defArgs s__law_gcd) (defBody s__law_gcd) (defScope s__law_gcd) .none kV5 dc5 pm5 an5 cd5 ct5), sl5⟩) (c5 : PySem.W.codeIn K cd5 "_law_gcd" = true) (k5 : PySem.W.keepIn K (.ref f5) = true)
    (a6 : PySem.W.nsIn K mainGlobals "_law_lowest" = some (some (.ref f6))) (l6 : K.lookup f6 = some ⟨oc6, od6, .func (PySem.W.fnOf "_law_lowest" "_law_lowest" (defArgs s__law_lowest) (defBody s__law_lowest) (defScope s__law_lowest) .none kV6 dc6 pm6 an6 cd6 ct6), sl6⟩) (c6 : PySem.W.codeIn K cd6 "_law_lowest" = true) (k6 : PySem.W.keepIn K (.ref f6) = true)
    (a7 : PySem.W.nsIn K mainGlobals "_law_minus" = some (some (.ref f7))) (l7 : K.lookup f7 = some ⟨oc7, od7, .func (PySem.W.fnOf "_law_minus" "_law_minus" (defArgs s__law_minus) (defBody s__law_minus) (defScope s__law_minus) .none kV7 dc7 pm7 an7 cd7 ct7), sl7⟩) (c7 : PySem.W.codeIn K cd7 "_law_minus" = true) (k7 : PySem.W.keepIn K (.ref f7) = true)
    (a8 : PySem.W.nsIn K mainGlobals "is_integer" = some (some (.ref f8))) (l8 : K.lookup f8 = some ⟨oc8, od8, .func (PySem.W.fnOf "is_integer" "is_integer" (defArgs s_is_integer) (defBody s_is_integer) (defScope s_is_integer) .none kV8 dc8 pm8 an8 cd8 ct8), sl8⟩) (c8 : PySem.W.codeIn K cd8 "is_integer" = true) (k8 : PySem.W.keepIn K (.ref f8) = true)
    (a9 : PySem.W.nsIn K mainGlobals "is_in" = some (some (.ref f9))) (l9 : K.lookup f9 = some ⟨oc9, od9, .func (PySem.W.fnOf "is_in" "is_in" (defArgs s_is_in) (defBody s_is_in) (defScope s_is_in) .none kV9 dc9 pm9 an9 cd9 ct9), sl9⟩) (c9 : PySem.W.codeIn K cd9 "is_in" = true) (k9 : PySem.W.keepIn K (.ref f9) = true)
    (a10 : PySem.W.nsIn K mainGlobals "is_list" = some (some (.ref f10))) (l10 : K.lookup f10 = some ⟨oc10, od10, .func (PySem.W.fnOf "is_list" "is_list" (defArgs s_is_list) (defBody s_is_list) (defScope s_is_list) .none kV10 dc10 pm10 an10 cd10 ct10), sl10⟩) (c10 : PySem.W.codeIn K cd10 "is_list" = true) (k10 : PySem.W.keepIn K (.ref f10) = true)
    (a11 : PySem.W.nsIn K mainGlobals "need_speeds" = some (some (.ref f11))) (l11 : K.lookup f11 = some ⟨oc11, od11, .func (PySem.W.fnOf "need_speeds" "need_speeds" (defArgs s_need_speeds) (defBody s_need_speeds) (defScope s_need_speeds) .none kV11 dc11 pm11 an11 cd11 ct11), sl11⟩) (c11 : PySem.W.codeIn K cd11 "need_speeds" = true) (k11 : PySem.W.keepIn K (.ref f11) = true)
    (a12 : PySem.W.nsIn K mainGlobals "first_bad" = some (some (.ref f12))) (l12 : K.lookup f12 = some ⟨oc12, od12, .func (PySem.W.fnOf "first_bad" "first_bad" (defArgs s_first_bad) (defBody s_first_bad) (defScope s_first_bad) .none kV12 dc12 pm12 an12 cd12 ct12), sl12⟩) (c12 : PySem.W.codeIn K cd12 "first_bad" = true) (k12 : PySem.W.keepIn K (.ref f12) = true)
    (a13 : PySem.W.nsIn K mainGlobals "need_times" = some (some (.ref f13))) (l13 : K.lookup f13 = some ⟨oc13, od13, .func (PySem.W.fnOf "need_times" "need_times" (defArgs s_need_times) (defBody s_need_times) (defScope s_need_times) .none kV13 dc13 pm13 an13 cd13 ct13), sl13⟩) (c13 : PySem.W.codeIn K cd13 "need_times" = true) (k13 : PySem.W.keepIn K (.ref f13) = true)
    (a14 : PySem.W.nsIn K mainGlobals "ratio" = some (some (.ref f14))) (l14 : K.lookup f14 = some ⟨oc14, od14, .func (PySem.W.fnOf "ratio" "ratio" (defArgs s_ratio) (defBody s_ratio) (defScope s_ratio) .none kV14 dc14 pm14 an14 cd14 ct14), sl14⟩) (c14 : PySem.W.codeIn K cd14 "ratio" = true) (k14 : PySem.W.keepIn K (.ref f14) = true)
    (a15 : PySem.W.nsIn K mainGlobals "level_speeds" = some (some (.ref f15))) (l15 : K.lookup f15 = some ⟨oc15, od15, .func (PySem.W.fnOf "level_speeds" "level_speeds" (defArgs s_level_speeds) (defBody s_level_speeds) (defScope s_level_speeds) .none kV15 dc15 pm15 an15 cd15 ct15), sl15⟩) (c15 : PySem.W.codeIn K cd15 "level_speeds" = true) (k15 : PySem.W.keepIn K (.ref f15) = true)
    (a16 : PySem.W.nsIn K mainGlobals "is_less" = some (some (.ref f16))) (l16 : K.lookup f16 = some ⟨oc16, od16, .func (PySem.W.fnOf "is_less" "is_less" (defArgs s_is_less) (defBody s_is_less) (defScope s_is_less) .none kV16 dc16 pm16 an16 cd16 ct16), sl16⟩) (c16 : PySem.W.codeIn K cd16 "is_less" = true) (k16 : PySem.W.keepIn K (.ref f16) = true)
    (a17 : PySem.W.nsIn K mainGlobals "lowered" = some (some (.ref f17))) (l17 : K.lookup f17 = some ⟨oc17, od17, .func (PySem.W.fnOf "lowered" "lowered" (defArgs s_lowered) (defBody s_lowered) (defScope s_lowered) .none kV17 dc17 pm17 an17 cd17 ct17), sl17⟩) (c17 : PySem.W.codeIn K cd17 "lowered" = true) (k17 : PySem.W.keepIn K (.ref f17) = true)
    (a18 : PySem.W.nsIn K mainGlobals "minus" = some (some (.ref f18))) (l18 : K.lookup f18 = some ⟨oc18, od18, .func (PySem.W.fnOf "minus" "minus" (defArgs s_minus) (defBody s_minus) (defScope s_minus) .none kV18 dc18 pm18 an18 cd18 ct18), sl18⟩) (c18 : PySem.W.codeIn K cd18 "minus" = true) (k18 : PySem.W.keepIn K (.ref f18) = true)
    (a19 : PySem.W.nsIn K mainGlobals "next_step" = some (some (.ref f19))) (l19 : K.lookup f19 = some ⟨oc19, od19, .func (PySem.W.fnOf "next_step" "next_step" (defArgs s_next_step) (defBody s_next_step) (defScope s_next_step) .none kV19 dc19 pm19 an19 cd19 ct19), sl19⟩) (c19 : PySem.W.codeIn K cd19 "next_step" = true) (k19 : PySem.W.keepIn K (.ref f19) = true)
    (a20 : PySem.W.nsIn K mainGlobals "sorted_levels" = some (some (.ref f20))) (l20 : K.lookup f20 = some ⟨oc20, od20, .func (PySem.W.fnOf "sorted_levels" "sorted_levels" (defArgs s_sorted_levels) (defBody s_sorted_levels) (defScope s_sorted_levels) .none kV20 dc20 pm20 an20 cd20 ct20), sl20⟩) (c20 : PySem.W.codeIn K cd20 "sorted_levels" = true) (k20 : PySem.W.keepIn K (.ref f20) = true)
    (a21 : PySem.W.nsIn K mainGlobals "rates_of" = some (some (.ref f21))) (l21 : K.lookup f21 = some ⟨oc21, od21, .func (PySem.W.fnOf "rates_of" "rates_of" (defArgs s_rates_of) (defBody s_rates_of) (defScope s_rates_of) .none kV21 dc21 pm21 an21 cd21 ct21), sl21⟩) (c21 : PySem.W.codeIn K cd21 "rates_of" = true) (k21 : PySem.W.keepIn K (.ref f21) = true)
    (a22 : PySem.W.nsIn K mainGlobals "shared" = some (some (.ref f22))) (l22 : K.lookup f22 = some ⟨oc22, od22, .func (PySem.W.fnOf "shared" "shared" (defArgs s_shared) (defBody s_shared) (defScope s_shared) .none kV22 dc22 pm22 an22 cd22 ct22), sl22⟩) (c22 : PySem.W.codeIn K cd22 "shared" = true) (k22 : PySem.W.keepIn K (.ref f22) = true)
    (a23 : PySem.W.nsIn K mainGlobals "law" = some (some (.ref f23))) (l23 : K.lookup f23 = some ⟨oc23, od23, .func (PySem.W.fnOf "law" "law" (defArgs s_law) (defBody s_law) (defScope s_law) .none kV23 dc23 pm23 an23 cd23 ct23), sl23⟩) (c23 : PySem.W.codeIn K cd23 "law" = true) (k23 : PySem.W.keepIn K (.ref f23) = true)
    (z0 : PySem.W.nsIn K mainGlobals "abs" = some none) (z1 : PySem.W.nsIn K mainGlobals "all" = some none) (z2 : PySem.W.nsIn K mainGlobals "bool" = some none) (z3 : PySem.W.nsIn K mainGlobals "enumerate" = some none) (z4 : PySem.W.nsIn K mainGlobals "int" = some none) (z5 : PySem.W.nsIn K mainGlobals "isinstance" = some none) (z6 : PySem.W.nsIn K mainGlobals "len" = some none) (z7 : PySem.W.nsIn K mainGlobals "min" = some none) (z8 : PySem.W.nsIn K mainGlobals "range" = some none) (z9 : PySem.W.nsIn K mainGlobals "sorted" = some none) (z10 : PySem.W.nsIn K mainGlobals "sum" = some none) (z11 : PySem.W.nsIn K mainGlobals "tuple" = some none) (z12 : PySem.W.nsIn K mainGlobals "zip" = some none)
    {tk0 tk1 tk2 : Tok} (y0 : PySem.W.nsIn K mainGlobals "MOST_BENCHES" = some (some (.int 6 tk0))) (y1 : PySem.W.nsIn K mainGlobals "MOST_JOBS" = some (some (.int 10 tk1))) (y2 : PySem.W.nsIn K mainGlobals "MOST_TIME" = some (some (.int 60 tk2)))
    : ∃ fd : FuncData, (∀ (s : Shared) (v : Value), BindsTo s fd ⟨[v], []⟩ [("_law_script", v)]) ∧ ∀ base : Heap, K.In base → base.Ns mainGlobals mg → FnOk l.prog w K mg base CX0 6 fa fd ["_law_script"] (spLaw K) := by
  have e := hfa.symm.trans (PySem.W.mg_of X G a23)
  cases e
  have T : Txt mg := ⟨PySem.W.mg_none_of X G z0, PySem.W.mg_none_of X G z1, PySem.W.mg_none_of X G z2, PySem.W.mg_none_of X G z3, PySem.W.mg_none_of X G z4, PySem.W.mg_none_of X G z5, PySem.W.mg_none_of X G z6, PySem.W.mg_none_of X G z7, PySem.W.mg_none_of X G z8, PySem.W.mg_none_of X G z9, PySem.W.mg_none_of X G z10, PySem.W.mg_none_of X G z11, PySem.W.mg_none_of X G z12, ⟨_, PySem.W.mg_of X G y0⟩, ⟨_, PySem.W.mg_of X G y1⟩, ⟨_, PySem.W.mg_of X G y2⟩⟩
  have F1 := fun_mk (st := s__law_taken) l1 c1 k1
  have b1 := F1.binds (ps := ["_law_row", "_law_many"]) fun _ _ _ _ _ _ us hl => match us, hl with | [_, _], _ => rfl
  have F2 := fun_mk (st := s__law_pick) l2 c2 k2
  have b2 := F2.binds (ps := ["_law_row", "_law_things"]) fun _ _ _ _ _ _ us hl => match us, hl with | [_, _], _ => rfl
  have F3 := fun_mk (st := s__law_jobs) l3 c3 k3
  have b3 := F3.binds (ps := ["_law_row", "_law_most", "_law_time"]) fun _ _ _ _ _ _ us hl => match us, hl with | [_, _, _], _ => rfl
  have F4 := fun_mk (st := s__law_less) l4 c4 k4
  have b4 := F4.binds (ps := ["_law_one", "_law_other"]) fun _ _ _ _ _ _ us hl => match us, hl with | [_, _], _ => rfl
  have F5 := fun_mk (st := s__law_gcd) l5 c5 k5
  have b5 := F5.binds (ps := ["_law_one", "_law_other"]) fun _ _ _ _ _ _ us hl => match us, hl with | [_, _], _ => rfl
  have F6 := fun_mk (st := s__law_lowest) l6 c6 k6
  have b6 := F6.binds (ps := ["_law_numerator", "_law_denominator"]) fun _ _ _ _ _ _ us hl => match us, hl with | [_, _], _ => rfl
  have F7 := fun_mk (st := s__law_minus) l7 c7 k7
  have b7 := F7.binds (ps := ["_law_one", "_law_other"]) fun _ _ _ _ _ _ us hl => match us, hl with | [_, _], _ => rfl
  have F8 := fun_mk (st := s_is_integer) l8 c8 k8
  have b8 := F8.binds (ps := ["value"]) fun _ _ _ _ _ _ us hl => match us, hl with | [_], _ => rfl
  have F9 := fun_mk (st := s_is_in) l9 c9 k9
  have b9 := F9.binds (ps := ["value", "least", "most"]) fun _ _ _ _ _ _ us hl => match us, hl with | [_, _, _], _ => rfl
  have F10 := fun_mk (st := s_is_list) l10 c10 k10
  have b10 := F10.binds (ps := ["value", "least", "most"]) fun _ _ _ _ _ _ us hl => match us, hl with | [_, _, _], _ => rfl
  have F11 := fun_mk (st := s_need_speeds) l11 c11 k11
  have b11 := F11.binds (ps := ["speeds"]) fun _ _ _ _ _ _ us hl => match us, hl with | [_], _ => rfl
  have F12 := fun_mk (st := s_first_bad) l12 c12 k12
  have b12 := F12.binds (ps := ["value", "many", "low", "high"]) fun _ _ _ _ _ _ us hl => match us, hl with | [_, _, _, _], _ => rfl
  have F13 := fun_mk (st := s_need_times) l13 c13 k13
  have b13 := F13.binds (ps := ["times"]) fun _ _ _ _ _ _ us hl => match us, hl with | [_], _ => rfl
  have F14 := fun_mk (st := s_ratio) l14 c14 k14
  have b14 := F14.binds (ps := ["top", "bottom"]) fun _ _ _ _ _ _ us hl => match us, hl with | [_, _], _ => rfl
  have F15 := fun_mk (st := s_level_speeds) l15 c15 k15
  have b15 := F15.binds (ps := ["times", "speeds"]) fun _ _ _ _ _ _ us hl => match us, hl with | [_, _], _ => rfl
  have F16 := fun_mk (st := s_is_less) l16 c16 k16
  have b16 := F16.binds (ps := ["one", "other"]) fun _ _ _ _ _ _ us hl => match us, hl with | [_, _], _ => rfl
  have F17 := fun_mk (st := s_lowered) l17 c17 k17
  have b17 := F17.binds (ps := ["one", "rate", "step"]) fun _ _ _ _ _ _ us hl => match us, hl with | [_, _, _], _ => rfl
  have F18 := fun_mk (st := s_minus) l18 c18 k18
  have b18 := F18.binds (ps := ["moment", "now"]) fun _ _ _ _ _ _ us hl => match us, hl with | [_, _], _ => rfl
  have F19 := fun_mk (st := s_next_step) l19 c19 k19
  have b19 := F19.binds (ps := ["left", "rates"]) fun _ _ _ _ _ _ us hl => match us, hl with | [_, _], _ => rfl
  have F20 := fun_mk (st := s_sorted_levels) l20 c20 k20
  have b20 := F20.binds (ps := ["levels"]) fun _ _ _ _ _ _ us hl => match us, hl with | [_], _ => rfl
  have F21 := fun_mk (st := s_rates_of) l21 c21 k21
  have b21 := F21.binds (ps := ["left", "speeds"]) fun _ _ _ _ _ _ us hl => match us, hl with | [_, _], _ => rfl
  have F22 := fun_mk (st := s_shared) l22 c22 k22
  have b22 := F22.binds (ps := ["times", "speeds", "moment"]) fun _ _ _ _ _ _ us hl => match us, hl with | [_, _, _], _ => rfl
  have F23 := fun_mk (st := s_law) l23 c23 k23
  refine ⟨PySem.W.fnOf "law" "law" (defArgs s_law) (defBody s_law) (defScope s_law) .none kV23 dc23 pm23 an23 cd23 ct23, fun s v => .of_eq rfl, fun base _ _ => ?_⟩
  have C__law_taken : Cal l.prog w K mg base "_law_taken" 1 ["_law_row", "_law_many"] 2 m__law_taken := ⟨_, _, ok__law_taken F1 T , PySem.W.mg_of X G a1, k1, b1⟩
  have C__law_pick : Cal l.prog w K mg base "_law_pick" 2 ["_law_row", "_law_things"] 2 m__law_pick := ⟨_, _, ok__law_pick F2 T C__law_taken, PySem.W.mg_of X G a2, k2, b2⟩
  have C__law_jobs : Cal l.prog w K mg base "_law_jobs" 3 ["_law_row", "_law_most", "_law_time"] 3 m__law_jobs := ⟨_, _, ok__law_jobs F3 T C__law_taken C__law_pick, PySem.W.mg_of X G a3, k3, b3⟩
  have C__law_less : Cal l.prog w K mg base "_law_less" 1 ["_law_one", "_law_other"] 2 m__law_less := ⟨_, _, ok__law_less F4 T , PySem.W.mg_of X G a4, k4, b4⟩
  have C__law_gcd : Cal l.prog w K mg base "_law_gcd" 1 ["_law_one", "_law_other"] 2 m__law_gcd := ⟨_, _, ok__law_gcd F5 T , PySem.W.mg_of X G a5, k5, b5⟩
  have C__law_lowest : Cal l.prog w K mg base "_law_lowest" 2 ["_law_numerator", "_law_denominator"] 2 m__law_lowest := ⟨_, _, ok__law_lowest F6 T C__law_gcd, PySem.W.mg_of X G a6, k6, b6⟩
  have C__law_minus : Cal l.prog w K mg base "_law_minus" 3 ["_law_one", "_law_other"] 2 m__law_minus := ⟨_, _, ok__law_minus F7 T C__law_lowest, PySem.W.mg_of X G a7, k7, b7⟩
  have C_is_integer : Cal l.prog w K mg base "is_integer" 1 ["value"] 1 m_is_integer := ⟨_, _, ok_is_integer F8 T , PySem.W.mg_of X G a8, k8, b8⟩
  have C_is_in : Cal l.prog w K mg base "is_in" 2 ["value", "least", "most"] 3 m_is_in := ⟨_, _, ok_is_in F9 T C_is_integer, PySem.W.mg_of X G a9, k9, b9⟩
  have C_is_list : Cal l.prog w K mg base "is_list" 1 ["value", "least", "most"] 3 m_is_list := ⟨_, _, ok_is_list F10 T , PySem.W.mg_of X G a10, k10, b10⟩
  have C_need_speeds : Cal l.prog w K mg base "need_speeds" 3 ["speeds"] 1 m_need_speeds := ⟨_, _, ok_need_speeds F11 T C_is_list C_is_in, PySem.W.mg_of X G a11, k11, b11⟩
  have C_first_bad : Cal l.prog w K mg base "first_bad" 3 ["value", "many", "low", "high"] 4 m_first_bad := ⟨_, _, ok_first_bad F12 T C_is_list C_is_in, PySem.W.mg_of X G a12, k12, b12⟩
  have C_need_times : Cal l.prog w K mg base "need_times" 4 ["times"] 1 m_need_times := ⟨_, _, ok_need_times F13 T C_is_list C_first_bad, PySem.W.mg_of X G a13, k13, b13⟩
  have C_ratio : Cal l.prog w K mg base "ratio" 1 ["top", "bottom"] 2 m_ratio := ⟨_, _, ok_ratio F14 T , PySem.W.mg_of X G a14, k14, b14⟩
  have C_level_speeds : Cal l.prog w K mg base "level_speeds" 5 ["times", "speeds"] 2 m_level_speeds := ⟨_, _, ok_level_speeds F15 T C_need_times C_need_speeds C_ratio, PySem.W.mg_of X G a15, k15, b15⟩
  have C_is_less : Cal l.prog w K mg base "is_less" 1 ["one", "other"] 2 m_is_less := ⟨_, _, ok_is_less F16 T , PySem.W.mg_of X G a16, k16, b16⟩
  have C_lowered : Cal l.prog w K mg base "lowered" 2 ["one", "rate", "step"] 3 m_lowered := ⟨_, _, ok_lowered F17 T C_ratio, PySem.W.mg_of X G a17, k17, b17⟩
  have C_minus : Cal l.prog w K mg base "minus" 2 ["moment", "now"] 2 m_minus := ⟨_, _, ok_minus F18 T C_ratio, PySem.W.mg_of X G a18, k18, b18⟩
  have C_next_step : Cal l.prog w K mg base "next_step" 2 ["left", "rates"] 2 m_next_step := ⟨_, _, ok_next_step F19 T C_ratio C_is_less, PySem.W.mg_of X G a19, k19, b19⟩
  have C_sorted_levels : Cal l.prog w K mg base "sorted_levels" 2 ["levels"] 1 m_sorted_levels := ⟨_, _, ok_sorted_levels F20 T C_is_less, PySem.W.mg_of X G a20, k20, b20⟩
  have C_rates_of : Cal l.prog w K mg base "rates_of" 3 ["left", "speeds"] 2 m_rates_of := ⟨_, _, ok_rates_of F21 T C_sorted_levels C_ratio, PySem.W.mg_of X G a21, k21, b21⟩
  have C_shared : Cal l.prog w K mg base "shared" 5 ["times", "speeds", "moment"] 3 m_shared := ⟨_, _, ok_shared F22 T C_need_times C_need_speeds C_is_in C_is_less C_rates_of C_next_step C_minus C_lowered C_ratio, PySem.W.mg_of X G a22, k22, b22⟩
  exact ok_law hlaw F23 T C__law_jobs C__law_taken C_shared C__law_less C__law_minus C__law_lowest C_level_speeds
end Lk89

namespace DVH
abbrev RS_ (f : Nat → Rat) (L : List Nat) : Rat := (L.map f).sum
theorem rs_app (f : Nat → Rat) (A B : List Nat) : RS_ f (A ++ B) = RS_ f A + RS_ f B := by
  unfold RS_
  induction A with
  | nil => simp; grind
  | cons a A ih => simp at ih ⊢; grind
theorem rs_perm (f : Nat → Rat) {A B : List Nat} (h : A.Perm B) : RS_ f A = RS_ f B := by
  unfold RS_
  induction h with
  | nil => rfl
  | cons a h ih => simp at ih ⊢; grind
  | swap a b l => simp; grind
  | trans h1 h2 i1 i2 => grind
theorem rs_split (f : Nat → Rat) (p : Nat → Bool) (L : List Nat) : RS_ f L = RS_ f (L.filter p) + RS_ f (L.filter fun j => !p j) := by
  unfold RS_
  induction L with
  | nil => simp; grind
  | cons a L ih =>
    cases h : p a with
    | true => simp [h] at ih ⊢; grind
    | false => simp [h] at ih ⊢; grind
theorem rs_le {f g : Nat → Rat} {L : List Nat} (h : ∀ j ∈ L, f j ≤ g j) : RS_ f L ≤ RS_ g L := by
  unfold RS_
  induction L with
  | nil => simp
  | cons a L ih =>
    have h1 := h a List.mem_cons_self
    have h2 := ih fun j hj => h j (List.mem_cons_of_mem _ hj)
    simp at h2 ⊢; grind
theorem rs_congr {f g : Nat → Rat} {L : List Nat} (h : ∀ j ∈ L, f j = g j) : RS_ f L = RS_ g L := by
  unfold RS_
  rw [List.map_congr_left h]
theorem rs_const (c : Rat) : ∀ L : List Nat, RS_ (fun _ => c) L = c * (L.length : Rat)
  | [] => by simp [RS_]
  | a :: L => by
    have := rs_const c L
    unfold RS_ at this ⊢
    rw [List.map_cons, List.sum_cons, this, List.length_cons, Rat.natCast_add]
    grind
theorem rs_add (f g : Nat → Rat) : ∀ L : List Nat, RS_ (fun j => f j + g j) L = RS_ f L + RS_ g L
  | [] => by simp [RS_] <;> grind
  | a :: L => by
    have := rs_add f g L
    simp [RS_] at this ⊢; grind
theorem rs_mul (f : Nat → Rat) (d : Rat) : ∀ L : List Nat, RS_ (fun j => f j * d) L = RS_ f L * d
  | [] => by simp [RS_] <;> grind
  | a :: L => by
    have := rs_mul f d L
    simp [RS_] at this ⊢; grind
/-- sums of the fastest machines: growing ever less -/
structure Cc (F : Nat → Rat) : Prop where
  zero : F 0 = 0
  up : ∀ k, F k ≤ F (k + 1)
  cv : ∀ k, F (k + 2) - F (k + 1) ≤ F (k + 1) - F k
section
variable {F : Nat → Rat} {n : Nat} {x x0 : Nat → Rat}
theorem Cc.mono (C : Cc F) : ∀ {a b : Nat}, a ≤ b → F a ≤ F b := fun {a b} h => by
  induction h with
  | refl => grind
  | step h ih => have := C.up; grind
theorem Cc.cv2 (C : Cc F) : ∀ {a b : Nat}, a ≤ b → F (b + 1) - F b ≤ F (a + 1) - F a := fun {a b} h => by
  induction h with
  | refl => grind
  | step h ih => have := C.cv; grind
/-- a block's sum: between its last one and its first one, times -/
theorem Cc.blk (C : Cc F) (a : Nat) : ∀ g : Nat, F (a + g) - F a ≤ (g : Rat) * (F (a + 1) - F a) ∧ (g : Rat) * (F (a + g + 1) - F (a + g)) ≤ F (a + g) - F a
  | 0 => by simp; grind
  | g + 1 => by
    obtain ⟨h1, h2⟩ := C.blk a g
    have h3 := C.cv2 (show a ≤ a + g by omega)
    have h4 := C.cv (a + g)
    have e : ((g + 1 : Nat) : Rat) = (g : Rat) + 1 := Rat.natCast_add g 1
    have hg : (0 : Rat) ≤ (g : Rat) := by exact_mod_cast Nat.zero_le g
    rw [show a + (g + 1) = a + g + 1 by omega, e]
    refine ⟨by grind, ?_⟩
    have h5 : (g : Rat) * (F (a + g + 1 + 1) - F (a + g + 1)) ≤ (g : Rat) * (F (a + g + 1) - F (a + g)) := Rat.mul_le_mul_of_nonneg_left (by grind) hg
    grind
theorem Cc.shift (C : Cc F) {a b : Nat} (h : a ≤ b) : ∀ c : Nat, F (b + c) - F b ≤ F (a + c) - F a
  | 0 => by simp; grind
  | c + 1 => by
    have h1 := C.shift h c
    have h2 := C.cv2 (show a + c ≤ b + c by omega)
    rw [show b + (c + 1) = b + c + 1 by omega, show a + (c + 1) = a + c + 1 by omega]
    grind
/-- an average falls as the block grows -/
theorem Cc.avg (C : Cc F) (a : Nat) {c g : Nat} (h : c ≤ g) : (c : Rat) * (F (a + g) - F a) ≤ (g : Rat) * (F (a + c) - F a) := by
  induction h with
  | refl => grind
  | @step g h ih =>
    have h : c ≤ g := h
    have h1 := (C.blk a g).2
    have hc : (c : Rat) ≤ (g : Rat) := by exact_mod_cast h
    have e : ((g + 1 : Nat) : Rat) = (g : Rat) + 1 := Rat.natCast_add g 1
    have h0 : (0 : Rat) ≤ (c : Rat) := by exact_mod_cast Nat.zero_le c
    have hb := (C.blk a c).2
    have h2 : (c : Rat) * (F (a + g + 1) - F (a + g)) ≤ (c : Rat) * (F (a + c + 1) - F (a + c)) := Rat.mul_le_mul_of_nonneg_left (C.cv2 (by omega)) h0
    rw [e, show a + (g + 1) = a + g + 1 by omega]
    grind

/-- jobs with more left, with as much left -/
def abv (n : Nat) (x : Nat → Rat) (c : Rat) : List Nat := (List.range n).filter fun i => decide (c < x i)
def eqv (n : Nat) (x : Nat → Rat) (c : Rat) : List Nat := (List.range n).filter fun i => decide (x i = c)
def geq (n : Nat) (x : Nat → Rat) (c : Rat) : List Nat := (List.range n).filter fun i => decide (c ≤ x i)
def rt (F : Nat → Rat) (n : Nat) (x : Nat → Rat) (j : Nat) : Rat :=
  if j < n ∧ 0 < x j then (F ((abv n x (x j)).length + (eqv n x (x j)).length) - F (abv n x (x j)).length) / ((eqv n x (x j)).length : Rat) else 0
theorem mem_abv {c : Rat} {j : Nat} : j ∈ abv n x c ↔ j < n ∧ c < x j := by unfold abv; rw [List.mem_filter, List.mem_range, decide_eq_true_eq]
theorem mem_eqv {c : Rat} {j : Nat} : j ∈ eqv n x c ↔ j < n ∧ x j = c := by unfold eqv; rw [List.mem_filter, List.mem_range, decide_eq_true_eq]
theorem mem_geq {c : Rat} {j : Nat} : j ∈ geq n x c ↔ j < n ∧ c ≤ x j := by unfold geq; rw [List.mem_filter, List.mem_range, decide_eq_true_eq]
theorem nd_abv {c : Rat} : (abv n x c).Nodup := List.nodup_range.filter _
theorem nd_eqv {c : Rat} : (eqv n x c).Nodup := List.nodup_range.filter _
theorem nd_geq {c : Rat} : (geq n x c).Nodup := List.nodup_range.filter _
theorem sub_len {A B : List Nat} (nd : A.Nodup) (h : ∀ j ∈ A, j ∈ B) : A.length ≤ B.length := nd.length_le_of_subset h
theorem perm_of {A B : List Nat} (na : A.Nodup) (nb : B.Nodup) (h : ∀ j, j ∈ A ↔ j ∈ B) : A.Perm B := (List.perm_ext_iff_of_nodup na nb).mpr h
theorem eqv_pos {j : Nat} (hj : j < n) : 1 ≤ (eqv n x (x j)).length := List.length_pos_iff.mpr (List.ne_nil_of_mem (mem_eqv.mpr ⟨hj, rfl⟩))
theorem geq_len {c : Rat} : (geq n x c).length = (abv n x c).length + (eqv n x c).length := by
  rw [← List.length_append]
  refine (perm_of nd_geq ?_ fun j => ?_).length_eq
  · refine List.nodup_append.mpr ⟨nd_abv, nd_eqv, fun a ha b hb e => ?_⟩
    have := (mem_abv.mp ha).2
    have := (mem_eqv.mp hb).2
    subst e
    grind
  · rw [List.mem_append, mem_geq, mem_abv, mem_eqv]
    grind
theorem rt_at {j : Nat} (hj : j < n) (h : 0 < x j) : rt F n x j = (F (geq n x (x j)).length - F (abv n x (x j)).length) / ((eqv n x (x j)).length : Rat) := by
  unfold rt
  rw [if_pos ⟨hj, h⟩, geq_len]
theorem rt_mul {j : Nat} (hj : j < n) (h : 0 < x j) : rt F n x j * ((eqv n x (x j)).length : Rat) = F (geq n x (x j)).length - F (abv n x (x j)).length := by
  rw [rt_at hj h]
  have := eqv_pos (x := x) hj
  have : (1 : Rat) ≤ ((eqv n x (x j)).length : Rat) := by exact_mod_cast this
  grind
theorem rt_nonneg (C : Cc F) {j : Nat} (hj : j < n) : 0 ≤ rt F n x j := by
  by_cases h : 0 < x j
  · have h1 := rt_mul (F := F) hj h
    have h2 := C.mono (show (abv n x (x j)).length ≤ (geq n x (x j)).length by rw [geq_len]; omega)
    have := eqv_pos (x := x) hj
    have h3 : (1 : Rat) ≤ ((eqv n x (x j)).length : Rat) := by exact_mod_cast this
    refine Rat.not_lt.mp fun z => ?_
    have := Rat.mul_lt_mul_of_pos_right z (show (0 : Rat) < ((eqv n x (x j)).length : Rat) by grind)
    grind
  · unfold rt
    rw [if_neg fun z => h z.2]
    exact Rat.le_refl
theorem rt_zero {j : Nat} (h : ¬ 0 < x j) : rt F n x j = 0 := by unfold rt; rw [if_neg fun z => h z.2]
theorem rt_out {j : Nat} (h : ¬ j < n) : rt F n x j = 0 := by unfold rt; rw [if_neg fun z => h z.1]
theorem rt_eq {i j : Nat} (hi : i < n) (hj : j < n) (h : x i = x j) : rt F n x i = rt F n x j := by unfold rt; rw [h]; simp [hi, hj]
/-- more left: no slower -/
theorem rt_mono (C : Cc F) {i j : Nat} (hi : i < n) (hj : j < n) (h : x j ≤ x i) : rt F n x j ≤ rt F n x i := by
  by_cases e : x i = x j
  · rw [rt_eq hi hj e]
    exact Rat.le_refl
  have hlt : x j < x i := by grind
  by_cases h0 : 0 < x j
  · have hi0 : 0 < x i := by grind
    have m1 := rt_mul (F := F) hi hi0
    have m2 := rt_mul (F := F) hj h0
    have p1 := eqv_pos (x := x) hi
    have p2 := eqv_pos (x := x) hj
    have b1 := (C.blk (abv n x (x i)).length (eqv n x (x i)).length).2
    have b2 := (C.blk (abv n x (x j)).length (eqv n x (x j)).length).1
    rw [← geq_len] at b1 b2
    have hle : (geq n x (x i)).length ≤ (abv n x (x j)).length := sub_len nd_geq fun k hk => mem_abv.mpr (by
      have := mem_geq.mp hk
      exact ⟨this.1, by grind⟩)
    have cc := C.cv2 hle
    have q1 : (1 : Rat) ≤ ((eqv n x (x i)).length : Rat) := by exact_mod_cast p1
    have q2 : (1 : Rat) ≤ ((eqv n x (x j)).length : Rat) := by exact_mod_cast p2
    generalize ((eqv n x (x i)).length : Rat) = gi at *
    generalize ((eqv n x (x j)).length : Rat) = gj at *
    have l1 : F ((geq n x (x i)).length + 1) - F (geq n x (x i)).length ≤ rt F n x i := by
      refine Rat.not_lt.mp fun z => ?_
      have := Rat.mul_lt_mul_of_pos_right z (show (0 : Rat) < gi by grind)
      grind
    have l2 : rt F n x j ≤ F ((abv n x (x j)).length + 1) - F (abv n x (x j)).length := by
      refine Rat.not_lt.mp fun z => ?_
      have := Rat.mul_lt_mul_of_pos_right z (show (0 : Rat) < gj by grind)
      grind
    grind
  · rw [rt_zero h0]
    exact rt_nonneg C hi
/-- the least of some -/
theorem least_of (x : Nat → Rat) : ∀ {L : List Nat}, L ≠ [] → ∃ j ∈ L, ∀ i ∈ L, x j ≤ x i := by
  intro L
  induction L with
  | nil => exact fun h => absurd rfl h
  | cons a L ih =>
    intro _
    by_cases hL : L = []
    · exact ⟨a, List.mem_cons_self, fun i hi => by rw [hL] at hi; rw [List.mem_singleton.mp hi]; exact Rat.le_refl⟩
    · obtain ⟨j, h1, h2⟩ := ih hL
      by_cases c : x a ≤ x j
      · exact ⟨a, List.mem_cons_self, fun i hi => by
          rcases List.mem_cons.mp hi with z | z
          · rw [z]; exact Rat.le_refl
          · have := h2 i z
            grind⟩
      · exact ⟨j, List.mem_cons_of_mem _ h1, fun i hi => by
          rcases List.mem_cons.mp hi with z | z
          · rw [z]; grind
          · exact h2 i z⟩
/-- the jobs with at least so much left get the fastest machines -/
theorem rt_top (C : Cc F) : ∀ (k : Nat) (u : Rat), 0 < u → (geq n x u).length ≤ k → RS_ (rt F n x) (geq n x u) = F (geq n x u).length
  | 0, u, _, h => by
    have e : geq n x u = [] := List.length_eq_zero_iff.mp (by omega)
    rw [e]
    simp [RS_, C.zero]
  | k + 1, u, hu, h => by
    by_cases e : geq n x u = []
    · rw [e]
      simp [RS_, C.zero]
    · -- the least of them
      obtain ⟨j, hj, hmin⟩ : ∃ j ∈ geq n x u, ∀ i ∈ geq n x u, x j ≤ x i := least_of x e
      obtain ⟨hjn, hju⟩ := mem_geq.mp hj
      have hj0 : 0 < x j := by grind
      have hp : (geq n x u).Perm (abv n x (x j) ++ eqv n x (x j)) := by
        refine perm_of nd_geq ?_ fun i => ?_
        · refine List.nodup_append.mpr ⟨nd_abv, nd_eqv, fun a ha b hb e => ?_⟩
          have := (mem_abv.mp ha).2
          have := (mem_eqv.mp hb).2
          subst e
          grind
        · rw [List.mem_append, mem_geq, mem_abv, mem_eqv]
          refine ⟨fun ⟨h1, h2⟩ => ?_, fun h => ?_⟩
          · have := hmin i (mem_geq.mpr ⟨h1, h2⟩)
            grind
          · grind
      have hl := hp.length_eq
      rw [List.length_append] at hl
      have hge : (geq n x u).length = (geq n x (x j)).length := by rw [hl, geq_len]
      have hgp := eqv_pos (x := x) hjn
      rw [rs_perm _ hp, rs_app]
      have s2 : RS_ (rt F n x) (eqv n x (x j)) = F (geq n x (x j)).length - F (abv n x (x j)).length := by
        rw [rs_congr (g := fun _ => rt F n x j) fun i hi => rt_eq (mem_eqv.mp hi).1 hjn (mem_eqv.mp hi).2, rs_const, rt_mul hjn hj0]
      have s1 : RS_ (rt F n x) (abv n x (x j)) = F (abv n x (x j)).length := by
        by_cases e2 : abv n x (x j) = []
        · rw [e2]
          simp [RS_, C.zero]
        · obtain ⟨i, hi, hmin2⟩ : ∃ i ∈ abv n x (x j), ∀ k ∈ abv n x (x j), x i ≤ x k := least_of x e2
          have hp2 : (abv n x (x j)).Perm (geq n x (x i)) := perm_of nd_abv nd_geq fun k => by
            have hi2 := (mem_abv.mp hi).2
            rw [mem_abv, mem_geq]
            refine ⟨fun ⟨h1, h2⟩ => ⟨h1, hmin2 k (mem_abv.mpr ⟨h1, h2⟩)⟩, fun ⟨h1, h2⟩ => ⟨h1, by grind⟩⟩
          have hi2 := (mem_abv.mp hi).2
          rw [rs_perm _ hp2, hp2.length_eq]
          exact rt_top C k (x i) (by grind) (by rw [← hp2.length_eq]; omega)
      rw [s1, s2, hge]
      grind
theorem mul_le_of {r g a D E : Rat} (hg : 0 < g) (m : r * g = D) (av : a * D ≤ g * E) : r * a ≤ E := by
  refine Rat.not_lt.mp fun z => ?_
  have h := Rat.mul_lt_mul_of_pos_right z hg
  have e : r * a * g = a * D := by rw [← m]; grind
  grind
/-- no jobs get more than as many of the fastest machines -/
theorem rt_any (C : Cc F) (h0 : ∀ j, j < n → 0 ≤ x j) : ∀ (k : Nat) (S : List Nat), S.length ≤ k → S.Nodup → (∀ j ∈ S, j < n) → RS_ (rt F n x) S ≤ F S.length
  | 0, S, h, _, _ => by
    have e : S = [] := List.length_eq_zero_iff.mp (by omega)
    rw [e]
    simp [RS_, C.zero]
  | k + 1, S, h, nd, hr => by
    by_cases e : S = []
    · rw [e]
      simp [RS_, C.zero]
    obtain ⟨j, hj, hmin⟩ := least_of x e
    have hjn := hr j hj
    have sp := rs_split (rt F n x) (fun i => decide (x i = x j)) S
    generalize hA : (S.filter fun i => decide (x i = x j)) = A at sp
    generalize hB : (S.filter fun i => !decide (x i = x j)) = B at sp
    have mA : ∀ i, i ∈ A ↔ i ∈ S ∧ x i = x j := fun i => by rw [← hA, List.mem_filter, decide_eq_true_eq]
    have mB : ∀ i, i ∈ B ↔ i ∈ S ∧ x i ≠ x j := fun i => by
      rw [← hB, List.mem_filter]
      simp
    have nA : A.Nodup := by rw [← hA]; exact nd.filter _
    have nB : B.Nodup := by rw [← hB]; exact nd.filter _
    have hlen : A.length + B.length = S.length := by
      rw [← hA, ← hB]
      have key : ∀ L : List Nat, (L.filter fun i => decide (x i = x j)).length + (L.filter fun i => !decide (x i = x j)).length = L.length := by
        intro L
        induction L with
        | nil => rfl
        | cons a L ih =>
          by_cases c : x a = x j
          · simp [c] at ih ⊢; omega
          · simp [c] at ih ⊢; omega
      exact key S
    have hAp : 1 ≤ A.length := List.length_pos_iff.mpr (List.ne_nil_of_mem ((mA j).mpr ⟨hj, rfl⟩))
    have ih := rt_any C h0 k B (by omega) nB fun i hi => hr i ((mB i).mp hi).1
    have sA : RS_ (rt F n x) A = rt F n x j * (A.length : Rat) := by
      rw [rs_congr (g := fun _ => rt F n x j) fun i hi => rt_eq (hr i ((mA i).mp hi).1) hjn ((mA i).mp hi).2, rs_const]
    by_cases hp : 0 < x j
    · have m := rt_mul (F := F) hjn hp
      have hgp := eqv_pos (x := x) hjn
      have hAg : A.length ≤ (eqv n x (x j)).length := sub_len nA fun i hi => mem_eqv.mpr ⟨hr i ((mA i).mp hi).1, ((mA i).mp hi).2⟩
      have hBa : B.length ≤ (abv n x (x j)).length := sub_len nB fun i hi => mem_abv.mpr ⟨hr i ((mB i).mp hi).1, by
        have h1 := hmin i ((mB i).mp hi).1
        have h2 := ((mB i).mp hi).2
        grind⟩
      have av := C.avg (abv n x (x j)).length hAg
      rw [← geq_len] at av
      have sh := C.shift hBa A.length
      have q1 : (1 : Rat) ≤ ((eqv n x (x j)).length : Rat) := by exact_mod_cast hgp
      rw [sp, sA, ← hlen, Nat.add_comm A.length B.length]
      generalize ((eqv n x (x j)).length : Rat) = g at *
      have key : rt F n x j * (A.length : Rat) ≤ F ((abv n x (x j)).length + A.length) - F (abv n x (x j)).length := mul_le_of (show (0 : Rat) < g by grind) m av
      grind
    · rw [sp, sA, rt_zero hp, ← hlen]
      have := C.mono (show B.length ≤ A.length + B.length by omega)
      grind
def stp (F : Nat → Rat) (n : Nat) (x : Nat → Rat) (d : Rat) : Nat → Rat := fun j => x j - rt F n x j * d
inductive Cand (F : Nat → Rat) (n : Nat) (x : Nat → Rat) (e : Rat) : Prop
  | done {j : Nat} : j < n → 0 < x j → 0 < rt F n x j → e = x j / rt F n x j → Cand F n x e
  | meet {i j : Nat} : i < n → j < n → x j < x i → rt F n x j < rt F n x i → e = (x i - x j) / (rt F n x i - rt F n x j) → Cand F n x e
/-- no job is done, no two levels meet before d is over -/
def Lim (F : Nat → Rat) (n : Nat) (x : Nat → Rat) (d : Rat) : Prop := ∀ e, Cand F n x e → d ≤ e
variable {d : Rat}
theorem div_le {a b c : Rat} (hb : 0 < b) (h : c ≤ a / b) : c * b ≤ a := by
  have := Rat.mul_le_mul_of_nonneg_right h (show (0 : Rat) ≤ b by grind)
  have e : a / b * b = a := by grind
  grind
theorem Lim.done (L : Lim F n x d) {j : Nat} (hj : j < n) (h0 : 0 ≤ x j) (hd : 0 ≤ d) (hr : 0 ≤ rt F n x j) : rt F n x j * d ≤ x j := by
  by_cases h : 0 < x j ∧ 0 < rt F n x j
  · have := div_le h.2 (L _ (.done hj h.1 h.2 rfl))
    grind
  · have : rt F n x j = 0 := by
      by_cases h1 : 0 < x j
      · grind
      · exact rt_zero h1
    rw [this]
    grind
theorem Lim.meet (L : Lim F n x d) (C : Cc F) {i j : Nat} (hi : i < n) (hj : j < n) (h : x j ≤ x i) (hd : 0 ≤ d) : stp F n x d j ≤ stp F n x d i := by
  unfold stp
  have hm := rt_mono (F := F) (x := x) C hi hj h
  by_cases c : rt F n x j < rt F n x i ∧ x j < x i
  · have := div_le (show 0 < rt F n x i - rt F n x j by grind) (L _ (.meet hi hj c.2 c.1 rfl))
    grind
  · by_cases e : x i = x j
    · rw [rt_eq hi hj e, e]
      exact Rat.le_refl
    · have : rt F n x i = rt F n x j := by grind
      rw [this]
      grind
/-- what is true of the work at time t -/
structure LI (F : Nat → Rat) (n : Nat) (x0 x : Nat → Rat) (t : Rat) : Prop where
  nn : ∀ j, j < n → 0 ≤ x j
  le : ∀ j, j < n → x j ≤ x0 j
  od : ∀ i j, i < n → j < n → x0 j ≤ x0 i → x j ≤ x i
  top : ∀ u, 0 < u → RS_ (fun j => x0 j - x j) (geq n x u) = t * F (geq n x u).length
  any : ∀ S : List Nat, S.Nodup → (∀ j ∈ S, j < n) → RS_ (fun j => x0 j - x j) S ≤ t * F S.length
theorem LI.start (C : Cc F) (h : ∀ j, j < n → 0 ≤ x0 j) : LI F n x0 x0 0 := by
  have z : ∀ S : List Nat, RS_ (fun j => x0 j - x0 j) S = 0 := fun S => by
    rw [rs_congr (g := fun _ => 0) fun j _ => by grind, rs_const]
    grind
  refine ⟨h, fun j _ => Rat.le_refl, fun i j _ _ h => h, fun u _ => ?_, fun S _ _ => ?_⟩
  · rw [z]; grind
  · rw [z]; grind
theorem LI.step (C : Cc F) {t : Rat} (I : LI F n x0 x t) (hd : 0 ≤ d) (L : Lim F n x d) : LI F n x0 (stp F n x d) (t + d) := by
  have hr := fun j hj => rt_nonneg (F := F) (x := x) (n := n) (j := j) C hj
  have sums : ∀ S : List Nat, RS_ (fun j => x0 j - stp F n x d j) S = RS_ (fun j => x0 j - x j) S + RS_ (rt F n x) S * d := fun S => by
    rw [← rs_mul, ← rs_add]
    refine rs_congr fun j _ => ?_
    unfold stp
    grind
  refine ⟨fun j hj => ?_, fun j hj => ?_, fun i j hi hj h => L.meet C hi hj (I.od i j hi hj h) hd, fun u hu => ?_, fun S nd hS => ?_⟩
  · have := L.done hj (I.nn j hj) hd (hr j hj)
    unfold stp
    grind
  · have := I.le j hj
    have := Rat.mul_nonneg (hr j hj) hd
    unfold stp
    grind
  · by_cases e : geq n (stp F n x d) u = []
    · rw [e]
      simp [RS_, C.zero]
    · obtain ⟨j, hj, hmin⟩ := least_of x e
      obtain ⟨hjn, hju⟩ := mem_geq.mp hj
      have hp : (geq n (stp F n x d) u).Perm (geq n x (x j)) := perm_of nd_geq nd_geq fun i => by
        refine ⟨fun hi => mem_geq.mpr ⟨(mem_geq.mp hi).1, hmin i hi⟩, fun hi => ?_⟩
        obtain ⟨h1, h2⟩ := mem_geq.mp hi
        have := L.meet C h1 hjn h2 hd
        exact mem_geq.mpr ⟨h1, by grind⟩
      have hxj : 0 < x j := by
        have h1 := Rat.mul_nonneg (hr j hjn) hd
        unfold stp at hju
        grind
      rw [sums, rs_perm _ hp, rs_perm (rt F n x) hp, hp.length_eq, I.top _ hxj, rt_top C _ _ hxj (Nat.le_refl _)]
      grind
  · rw [sums]
    have h1 := I.any S nd hS
    have h2 := rt_any (x := x) C I.nn _ S (Nat.le_refl _) nd hS
    have h3 := Rat.mul_le_mul_of_nonneg_right h2 hd
    grind
theorem dpos {a b : Rat} (ha : 0 < a) (hb : 0 < b) : 0 < a / b := Rat.not_le.mp fun z => by
  have h := Rat.mul_le_mul_of_nonneg_right z (show (0 : Rat) ≤ b by grind)
  have e : a / b * b = a := by grind
  grind
theorem lt_of_cand {a b c : Rat} (hb : 0 < b) (h : c < a / b) : c * b < a := by
  have := Rat.mul_lt_mul_of_pos_right h hb
  have e : a / b * b = a := by grind
  grind
def SLim (F : Nat → Rat) (n : Nat) (x : Nat → Rat) (d : Rat) : Prop := ∀ e, Cand F n x e → d < e
theorem SLim.pos (L : SLim F n x d) (C : Cc F) {j : Nat} (hj : j < n) (hd : 0 ≤ d) : 0 < stp F n x d j ↔ 0 < x j := by
  have hr := rt_nonneg (F := F) (x := x) C hj
  have hm := Rat.mul_nonneg hr hd
  unfold stp
  refine ⟨fun h => by grind, fun h => ?_⟩
  by_cases c : 0 < rt F n x j
  · have := lt_of_cand c (L _ (.done hj h c rfl))
    grind
  · have : rt F n x j = 0 := by grind
    rw [this]
    grind
theorem SLim.lt (L : SLim F n x d) (C : Cc F) {i j : Nat} (hi : i < n) (hj : j < n) (hd : 0 ≤ d) (h : x j < x i) : stp F n x d j < stp F n x d i := by
  have hm := rt_mono (F := F) (x := x) C hi hj (by grind)
  unfold stp
  by_cases c : rt F n x j < rt F n x i
  · have := lt_of_cand (show 0 < rt F n x i - rt F n x j by grind) (L _ (.meet hi hj h c rfl))
    grind
  · have : rt F n x i = rt F n x j := by grind
    rw [this]
    grind
theorem SLim.iff (L : SLim F n x d) (C : Cc F) {i j : Nat} (hi : i < n) (hj : j < n) (hd : 0 ≤ d) : (stp F n x d j < stp F n x d i ↔ x j < x i) ∧ (stp F n x d j = stp F n x d i ↔ x j = x i) := by
  have h1 := L.lt C hi hj hd
  have h2 := L.lt C hj hi hd
  have h3 : x j = x i → stp F n x d j = stp F n x d i := fun e => by
    unfold stp
    rw [rt_eq hj hi e, e]
  grind
theorem SLim.rt (L : SLim F n x d) (C : Cc F) (hd : 0 ≤ d) : DVH.rt F n (stp F n x d) = DVH.rt F n x := by
  funext j
  by_cases hj : j < n
  · have e1 : abv n (stp F n x d) (stp F n x d j) = abv n x (x j) := by
      unfold abv
      refine List.filter_congr fun i hi => ?_
      rw [decide_eq_decide]
      exact (L.iff C (List.mem_range.mp hi) hj hd).1
    have e2 : eqv n (stp F n x d) (stp F n x d j) = eqv n x (x j) := by
      unfold eqv
      refine List.filter_congr fun i hi => ?_
      rw [decide_eq_decide]
      exact (L.iff C hj (List.mem_range.mp hi) hd).2
    unfold DVH.rt
    rw [e1, e2]
    have := L.pos C hj hd
    by_cases c : 0 < x j
    · rw [if_pos ⟨hj, this.mpr c⟩, if_pos ⟨hj, c⟩]
    · rw [if_neg fun z => c (this.mp z.2), if_neg fun z => c z.2]
  · rw [rt_out hj, rt_out hj]
theorem SLim.cand (L : SLim F n x d) (C : Cc F) (hd : 0 ≤ d) {e : Rat} : Cand F n (stp F n x d) e ↔ Cand F n x (e + d) := by
  have er := L.rt C hd
  constructor
  · intro h
    cases h with
    | @done j hj h1 h2 h3 =>
      rw [er] at h2 h3
      refine .done hj ((L.pos C hj hd).mp h1) h2 ?_
      rw [h3]
      unfold stp
      grind
    | @meet i j hi hj h1 h2 h3 =>
      rw [er] at h2 h3
      refine .meet hi hj ((L.iff C hi hj hd).1.mp h1) h2 ?_
      rw [h3]
      unfold stp
      have : DVH.rt F n x i - DVH.rt F n x j ≠ 0 := by grind
      grind
  · intro h
    cases h with
    | @done j hj h1 h2 h3 =>
      refine .done hj ((L.pos C hj hd).mpr h1) (by rw [er]; exact h2) ?_
      rw [er]
      unfold stp
      grind
    | @meet i j hi hj h1 h2 h3 =>
      refine .meet hi hj ((L.iff C hi hj hd).1.mpr h1) (by rw [er]; exact h2) ?_
      rw [er]
      unfold stp
      have : DVH.rt F n x i - DVH.rt F n x j ≠ 0 := by grind
      grind
theorem SLim.two (L : SLim F n x d) (C : Cc F) (hd : 0 ≤ d) (e : Rat) : stp F n (stp F n x d) e = stp F n x (d + e) := by
  funext j
  show stp F n x d j - DVH.rt F n (stp F n x d) j * e = _
  rw [L.rt C hd]
  unfold stp
  grind
/-- y is what x is T later -/
inductive Reach (F : Nat → Rat) (n : Nat) : (Nat → Rat) → Rat → (Nat → Rat) → Prop
  | fin {x : Nat → Rat} {T : Rat} : 0 ≤ T → Lim F n x T → Reach F n x T (stp F n x T)
  | go {x y : Nat → Rat} {T δ : Rat} : 0 ≤ δ → Cand F n x δ → Lim F n x δ → δ < T → Reach F n (stp F n x δ) (T - δ) y → Reach F n x T y
theorem Reach.nonneg {y : Nat → Rat} {T : Rat} (h : Reach F n x T y) : 0 ≤ T := by
  cases h with
  | fin h _ => exact h
  | go h1 _ _ h2 _ => grind
theorem Reach.on (C : Cc F) {y z : Nat → Rat} {T1 : Rat} (h : Reach F n x T1 y) : ∀ {T T2 : Rat}, T = T1 + T2 → 0 ≤ T2 → Reach F n x T z → Reach F n y T2 z := by
  induction h with
  | @fin x T1 h0 hL =>
    intro T T2 eT h2 hz
    cases hz with
    | fin k0 kL =>
      by_cases c : T2 = 0
      · have e : T = T1 := by grind
        have : stp F n x T = stp F n (stp F n x T1) T2 := by
          funext j
          unfold stp
          rw [c, e]
          grind
        rw [this]
        refine .fin h2 fun e he => ?_
        rw [c]
        -- candidates are no less than 0
        cases he with
        | done _ a b e1 => rw [e1]; exact Rat.le_of_lt (dpos a b)
        | meet _ _ a b e1 => rw [e1]; exact Rat.le_of_lt (dpos (by grind) (by grind))
      · have SL : SLim F n x T1 := fun e he => by
          have := kL e he
          grind
        rw [eT, ← SL.two C h0 T2]
        refine .fin h2 fun e he => ?_
        have := kL _ ((SL.cand C h0).mp he)
        grind
    | @go _ _ _ δ d0 dc dL dT dR =>
      by_cases c : T1 = δ
      · subst c
        rw [show T - T1 = T2 by grind] at dR
        exact dR
      · have hlt : T1 < δ := by
          have := hL δ dc
          grind
        have SL : SLim F n x T1 := fun e he => by
          have := dL e he
          grind
        have e1 : T1 + (δ - T1) = δ := by grind
        refine .go (δ := δ - T1) (by grind) ((SL.cand C h0).mpr (by rw [show δ - T1 + T1 = δ by grind]; exact dc)) (fun e he => ?_) (by grind) ?_
        · have := dL _ ((SL.cand C h0).mp he)
          grind
        · rw [SL.two C h0, e1, show T2 - (δ - T1) = T - δ by grind]
          exact dR
  | @go x y T1 δ d0 dc dL dT dR ih =>
    intro T T2 eT h2 hz
    cases hz with
    | fin k0 kL =>
      have := kL δ dc
      have := dR.nonneg
      grind
    | @go _ _ _ δ' d0' dc' dL' dT' dR' =>
      have e : δ' = δ := by
        have := dL δ' dc'
        have := dL' δ dc
        grind
      subst e
      exact ih (by grind) h2 dR'
theorem Reach.li (C : Cc F) {y : Nat → Rat} {T : Rat} (h : Reach F n x T y) : ∀ {t : Rat}, LI F n x0 x t → LI F n x0 y (t + T) := by
  induction h with
  | fin h0 hL => exact fun I => I.step C h0 hL
  | @go x y T δ d0 dc dL dT dR ih =>
    intro t I
    have := ih (I.step C d0 dL)
    rw [show t + δ + (T - δ) = t + T by grind] at this
    exact this
variable {t : Rat}
theorem LI.some_left (I : LI F n x0 x t) {S : List Nat} (nd : S.Nodup) (hS : ∀ j ∈ S, j < n) (h : t * F S.length < RS_ x0 S) : ∃ j, j ∈ S ∧ 0 < x j := by
  refine Classical.byContradiction fun c => ?_
  have hz : ∀ j ∈ S, x j = 0 := fun j hj => by
    have h1 := I.nn j (hS j hj)
    have h2 : ¬ 0 < x j := fun z => c ⟨j, hj, z⟩
    grind
  have h1 := I.any S nd hS
  rw [rs_congr (g := x0) fun j hj => by rw [hz j hj]; grind] at h1
  grind
end
section
variable {F : Nat → Rat} {n : Nat} {x x0 : Nat → Rat} {d : Rat}
theorem sum_le_nat {f g : Nat → Nat} : ∀ {L : List Nat}, (∀ i ∈ L, f i ≤ g i) → (L.map f).sum ≤ (L.map g).sum
  | [], _ => Nat.le_refl _
  | a :: L, h => by
    have := sum_le_nat (L := L) fun i hi => h i (List.mem_cons_of_mem _ hi)
    have := h a List.mem_cons_self
    rw [List.map_cons, List.map_cons, List.sum_cons, List.sum_cons]
    omega
theorem sum_lt_nat {f g : Nat → Nat} : ∀ {L : List Nat} {k : Nat}, (∀ i ∈ L, f i ≤ g i) → k ∈ L → f k < g k → (L.map f).sum < (L.map g).sum
  | [], _, _, h, _ => nomatch h
  | a :: L, k, h, hk, hl => by
    have h1 := sum_le_nat (L := L) fun i hi => h i (List.mem_cons_of_mem _ hi)
    have h2 := h a List.mem_cons_self
    rw [List.map_cons, List.map_cons, List.sum_cons, List.sum_cons]
    rcases List.mem_cons.mp hk with z | z
    · subst z; omega
    · have := sum_lt_nat (fun i hi => h i (List.mem_cons_of_mem _ hi)) z hl
      omega
/-- jobs that are not done, pairs of levels -/
def mu (n : Nat) (x : Nat → Rat) : Nat := (abv n x 0).length + ((List.range n).map fun i => (abv n x (x i)).length).sum
theorem mu_le : mu n x ≤ n + n * n := by
  unfold mu
  have h1 : ∀ c : Rat, (abv n x c).length ≤ n := fun c => by
    have := List.length_filter_le (fun i => decide (c < x i)) (List.range n)
    rw [List.length_range] at this
    exact this
  have h2 := sum_le_nat (f := fun i => (abv n x (x i)).length) (g := fun _ => n) (L := List.range n) fun i _ => h1 _
  have h3 : ∀ L : List Nat, (L.map fun _ => n).sum = L.length * n := by
    intro L
    induction L with
    | nil => simp
    | cons a L ih =>
      rw [List.map_cons, List.sum_cons, ih, List.length_cons, Nat.succ_mul]
      omega
  have h3 := h3 (List.range n)
  rw [List.length_range] at h3
  have := h1 0
  omega
theorem lt_len {A B : List Nat} (na : A.Nodup) (h : ∀ j ∈ A, j ∈ B) {k : Nat} (hk : k ∈ B) (hn : k ∉ A) : A.length < B.length := by
  have : (k :: A).Nodup := List.nodup_cons.mpr ⟨hn, na⟩
  have := sub_len this (B := B) fun j hj => by
    rcases List.mem_cons.mp hj with z | z
    · rw [z]; exact hk
    · exact h j z
  rw [List.length_cons] at this
  omega
theorem mu_step (C : Cc F) (h0 : ∀ j, j < n → 0 ≤ x j) (hd : 0 ≤ d) (hc : Cand F n x d) (L : Lim F n x d) : mu n (stp F n x d) < mu n x := by
  have pos : ∀ j, j < n → 0 < stp F n x d j → 0 < x j := fun j hj h => by
    have := Rat.mul_nonneg (rt_nonneg (F := F) (x := x) C hj) hd
    unfold stp at h
    grind
  have ord : ∀ i j, i < n → j < n → stp F n x d j < stp F n x d i → x j < x i := fun i j hi hj h => by
    refine Rat.not_le.mp fun z => ?_
    have := L.meet C hj hi z hd
    grind
  have s1 : (abv n (stp F n x d) 0).length ≤ (abv n x 0).length := sub_len nd_abv fun j hj => mem_abv.mpr ⟨(mem_abv.mp hj).1, pos j (mem_abv.mp hj).1 (mem_abv.mp hj).2⟩
  have s2 : ∀ i ∈ List.range n, (abv n (stp F n x d) (stp F n x d i)).length ≤ (abv n x (x i)).length := fun i hi => sub_len nd_abv fun j hj => mem_abv.mpr ⟨(mem_abv.mp hj).1, ord j i (mem_abv.mp hj).1 (List.mem_range.mp hi) (mem_abv.mp hj).2⟩
  unfold mu
  cases hc with
  | @done j hj h1 h2 h3 =>
    have := sum_le_nat s2
    have : (abv n (stp F n x d) 0).length < (abv n x 0).length := lt_len nd_abv (fun j hj => mem_abv.mpr ⟨(mem_abv.mp hj).1, pos j (mem_abv.mp hj).1 (mem_abv.mp hj).2⟩) (mem_abv.mpr ⟨hj, h1⟩) fun z => by
      have z := (mem_abv.mp z).2
      unfold stp at z
      rw [h3] at z
      have e : rt F n x j * (x j / rt F n x j) = x j := by grind
      grind
    omega
  | @meet i j hi hj h1 h2 h3 =>
    have : (abv n (stp F n x d) (stp F n x d j)).length < (abv n x (x j)).length := lt_len nd_abv (fun k hk => mem_abv.mpr ⟨(mem_abv.mp hk).1, ord k j (mem_abv.mp hk).1 hj (mem_abv.mp hk).2⟩) (mem_abv.mpr ⟨hi, h1⟩) fun z => by
      have z := (mem_abv.mp z).2
      unfold stp at z
      rw [h3] at z
      have ne : rt F n x i - rt F n x j ≠ 0 := by grind
      have e : (rt F n x i - rt F n x j) * ((x i - x j) / (rt F n x i - rt F n x j)) = x i - x j := by grind
      grind
    have := sum_lt_nat s2 (List.mem_range.mpr hj) this
    omega
theorem mu_step_le (C : Cc F) (h0 : ∀ j, j < n → 0 ≤ x j) (hd : 0 ≤ d) (L : Lim F n x d) : mu n (stp F n x d) ≤ mu n x := by
  have pos : ∀ j, j < n → 0 < stp F n x d j → 0 < x j := fun j hj h => by
    have := Rat.mul_nonneg (rt_nonneg (F := F) (x := x) C hj) hd
    unfold stp at h
    grind
  have ord : ∀ i j, i < n → j < n → stp F n x d j < stp F n x d i → x j < x i := fun i j hi hj h => by
    refine Rat.not_le.mp fun z => ?_
    have := L.meet C hj hi z hd
    grind
  have s1 : (abv n (stp F n x d) 0).length ≤ (abv n x 0).length := sub_len nd_abv fun j hj => mem_abv.mpr ⟨(mem_abv.mp hj).1, pos j (mem_abv.mp hj).1 (mem_abv.mp hj).2⟩
  have s2 : ∀ i ∈ List.range n, (abv n (stp F n x d) (stp F n x d i)).length ≤ (abv n x (x i)).length := fun i hi => sub_len nd_abv fun j hj => mem_abv.mpr ⟨(mem_abv.mp hj).1, ord j i (mem_abv.mp hj).1 (List.mem_range.mp hi) (mem_abv.mp hj).2⟩
  have := sum_le_nat s2
  unfold mu
  omega
theorem num_den (q : Rat) : q * (q.den : Rat) = (q.num : Rat) := by
  have h := Rat.num_divInt_den q
  rw [Rat.divInt_eq_div] at h
  have hd : ((q.den : Int) : Rat) ≠ 0 := by
    have := q.den_nz
    exact_mod_cast this
  have e : ((q.den : Int) : Rat) = (q.den : Rat) := rfl
  rw [e] at h hd
  grind
theorem den_dvd {q : Rat} {Q : Nat} {l : Int} (h : q * (Q : Rat) = (l : Rat)) : q.den ∣ Q := by
  have h1 := num_den q
  have h2 : (q.num : Rat) * (Q : Rat) = (l : Rat) * (q.den : Rat) := by grind
  have h3 : q.num * (Q : Int) = l * (q.den : Int) := by exact_mod_cast h2
  have h4 : q.den ∣ q.num.natAbs * Q := by
    have := congrArg Int.natAbs h3
    rw [Int.natAbs_mul, Int.natAbs_mul, Int.natAbs_natCast, Int.natAbs_natCast] at this
    exact ⟨l.natAbs, by rw [this, Nat.mul_comm]⟩
  exact (Nat.Coprime.symm q.reduced).dvd_of_dvd_mul_left h4
theorem num_le {q : Rat} {Q m : Nat} (h0 : 0 ≤ q) (hm : q ≤ (m : Rat)) (hd : q.den ≤ Q) : q.num.natAbs ≤ m * Q := by
  have h1 := num_den q
  have hp : (0 : Rat) ≤ (q.den : Rat) := by exact_mod_cast Nat.zero_le q.den
  have h2 := Rat.mul_le_mul_of_nonneg_right hm hp
  rw [h1] at h2
  have h3 : q.num ≤ ((m * q.den : Nat) : Int) := by exact_mod_cast h2
  have h4 : 0 ≤ q.num := Rat.num_nonneg.mpr h0
  have h5 : m * q.den ≤ m * Q := Nat.mul_le_mul_left m hd
  omega
/-- all are whole numbers of Qths -/
structure Itg (n : Nat) (x : Nat → Rat) (t : Rat) (Q : Nat) : Prop where
  pos : 0 < Q
  x : ∀ j, j < n → ∃ l : Int, x j * (Q : Rat) = (l : Rat)
  t : ∃ l : Int, t * (Q : Rat) = (l : Rat)
/-- a step of a Qth's a-th -/
def StQ (d : Rat) (Q a : Nat) : Prop := ∃ l : Int, d * (Q : Rat) * (a : Rat) = (l : Rat)
variable {t : Rat} {Q M : Nat} {f : Nat → Nat}
theorem geq_le {c : Rat} : (geq n x c).length ≤ n := by
  have := List.length_filter_le (fun i => decide (c ≤ x i)) (List.range n)
  rw [List.length_range] at this
  exact this
/-- a rate is a whole number, over a small one -/
theorem rt_frac (C : Cc F) (hF : ∀ k, k ≤ n → ∃ m : Nat, m ≤ M ∧ F k = (m : Rat)) {j : Nat} (hj : j < n) : ∃ s g : Nat, s ≤ M ∧ 1 ≤ g ∧ g ≤ n ∧ rt F n x j * (g : Rat) = (s : Rat) := by
  by_cases h : 0 < x j
  · have h1 := rt_mul (F := F) hj h
    have hg := eqv_pos (x := x) hj
    have hl := geq_le (n := n) (x := x) (c := x j)
    have hl2 := geq_len (n := n) (x := x) (c := x j)
    obtain ⟨a, a1, a2⟩ := hF (geq n x (x j)).length hl
    obtain ⟨b, b1, b2⟩ := hF (abv n x (x j)).length (by omega)
    have hm := C.mono (show (abv n x (x j)).length ≤ (geq n x (x j)).length by omega)
    rw [a2, b2] at hm h1
    have hba : b ≤ a := by exact_mod_cast hm
    refine ⟨a - b, (eqv n x (x j)).length, by omega, hg, by omega, ?_⟩
    rw [h1]
    have : ((a - b : Nat) : Rat) = (a : Rat) - (b : Rat) := by
      have e : a = (a - b) + b := by omega
      have e2 : (a : Rat) = ((a - b : Nat) : Rat) + (b : Rat) := by
        rw [← Rat.natCast_add]
        congr 1
      grind
    rw [this]
  · refine ⟨0, 1, Nat.zero_le _, Nat.le_refl _, by omega, ?_⟩
    rw [rt_zero h]
    grind
theorem cand_q (C : Cc F) (hF : ∀ k, k ≤ n → ∃ m : Nat, m ≤ M ∧ F k = (m : Rat)) (I : Itg n x t Q) (hc : Cand F n x d) : ∃ a, 1 ≤ a ∧ a ≤ n * M ∧ StQ d Q a := by
  cases hc with
  | @done j hj h1 h2 h3 =>
    obtain ⟨s, g, k1, k2, k3, k4⟩ := rt_frac (x := x) C hF hj
    obtain ⟨l, hl⟩ := I.x j hj
    have hg : (1 : Rat) ≤ (g : Rat) := by exact_mod_cast k2
    have hs : (0 : Rat) < (s : Rat) := by
      rw [← k4]
      exact Rat.mul_pos h2 (by grind)
    have hs1 : 0 < s := by exact_mod_cast hs
    refine ⟨s, hs1, ?_, l * (g : Int), ?_⟩
    · have : 1 * s ≤ n * M := Nat.mul_le_mul (by omega) k1
      omega
    · rw [h3, Rat.intCast_mul, ← hl]
      have e : ((g : Int) : Rat) = (g : Rat) := rfl
      rw [e, ← k4]
      have : rt F n x j ≠ 0 := by grind
      grind
  | @meet i j hi hj h1 h2 h3 =>
    obtain ⟨s, g, k1, k2, k3, k4⟩ := rt_frac (x := x) C hF hi
    obtain ⟨s', g', k1', k2', k3', k4'⟩ := rt_frac (x := x) C hF hj
    obtain ⟨l, hl⟩ := I.x i hi
    obtain ⟨l', hl'⟩ := I.x j hj
    have hg : (1 : Rat) ≤ (g : Rat) := by exact_mod_cast k2
    have hg' : (1 : Rat) ≤ (g' : Rat) := by exact_mod_cast k2'
    have hgg : (0 : Rat) < (g : Rat) * (g' : Rat) := Rat.mul_pos (by grind) (by grind)
    have ea : (s : Rat) * (g' : Rat) - (s' : Rat) * (g : Rat) = (rt F n x i - rt F n x j) * ((g : Rat) * (g' : Rat)) := by
      rw [← k4, ← k4']
      grind
    have hpos : (0 : Rat) < (s : Rat) * (g' : Rat) - (s' : Rat) * (g : Rat) := by
      rw [ea]
      exact Rat.mul_pos (by grind) hgg
    have hlt : s' * g < s * g' := by
      have : (s' : Rat) * (g : Rat) < (s : Rat) * (g' : Rat) := by grind
      exact_mod_cast this
    have hle : s * g' ≤ M * n := Nat.mul_le_mul k1 k3'
    refine ⟨s * g' - s' * g, by omega, by rw [Nat.mul_comm n M]; omega, (l - l') * ((g : Int) * (g' : Int)), ?_⟩
    have hsub : ((s * g' - s' * g : Nat) : Rat) = (s : Rat) * (g' : Rat) - (s' : Rat) * (g : Rat) := by
      have e : s * g' = (s * g' - s' * g) + s' * g := by omega
      have e2 : ((s * g' : Nat) : Rat) = ((s * g' - s' * g : Nat) : Rat) + ((s' * g : Nat) : Rat) := by
        rw [← Rat.natCast_add]
        congr 1
      rw [Rat.natCast_mul, Rat.natCast_mul] at e2
      grind
    rw [hsub, ea, h3, Rat.intCast_mul, Rat.intCast_sub, Rat.intCast_mul, ← hl, ← hl']
    have e : ((g : Int) : Rat) = (g : Rat) := rfl
    have e' : ((g' : Int) : Rat) = (g' : Rat) := rfl
    rw [e, e']
    have : rt F n x i - rt F n x j ≠ 0 := by grind
    grind
theorem Itg.step (C : Cc F) (hF : ∀ k, k ≤ n → ∃ m : Nat, m ≤ M ∧ F k = (m : Rat)) (I : Itg n x t Q) {a : Nat} (ha : 1 ≤ a) (hn : n ≤ 5) (hs : StQ d Q a) : Itg n (stp F n x d) (t + d) (Q * a * 60) := by
  obtain ⟨l, hl⟩ := hs
  obtain ⟨lt, ht⟩ := I.t
  have ec : ((Q * a * 60 : Nat) : Rat) = (Q : Rat) * (a : Rat) * 60 := by
    rw [Rat.natCast_mul, Rat.natCast_mul]
    rfl
  refine ⟨Nat.mul_pos (Nat.mul_pos I.pos ha) (by decide), fun j hj => ?_, lt * (a : Int) * 60 + l * 60, ?_⟩
  · obtain ⟨s, g, k1, k2, k3, k4⟩ := rt_frac (x := x) C hF hj
    obtain ⟨lj, hlj⟩ := I.x j hj
    obtain ⟨h, hh⟩ : ∃ h : Nat, h * g = 60 := by
      have : g = 1 ∨ g = 2 ∨ g = 3 ∨ g = 4 ∨ g = 5 := by omega
      rcases this with e | e | e | e | e
      · exact ⟨60, by rw [e]⟩
      · exact ⟨30, by rw [e]⟩
      · exact ⟨20, by rw [e]⟩
      · exact ⟨15, by rw [e]⟩
      · exact ⟨12, by rw [e]⟩
    have hh2 : (h : Rat) * (g : Rat) = 60 := by
      rw [← Rat.natCast_mul, hh]
      rfl
    refine ⟨lj * (a : Int) * 60 - (s : Int) * (h : Int) * l, ?_⟩
    rw [ec, Rat.intCast_sub, Rat.intCast_mul, Rat.intCast_mul, Rat.intCast_mul, Rat.intCast_mul, ← hlj, ← hl]
    have e1 : ((a : Int) : Rat) = (a : Rat) := rfl
    have e2 : ((s : Int) : Rat) = (s : Rat) := rfl
    have e3 : ((h : Int) : Rat) = (h : Rat) := rfl
    have e4 : ((60 : Int) : Rat) = (60 : Rat) := rfl
    rw [e1, e2, e3, e4, ← k4]
    unfold stp
    generalize rt F n x j = r at *
    have : r * (g : Rat) * (h : Rat) = r * 60 := by
      rw [← hh2]; grind
    grind
  · rw [ec, Rat.intCast_add, Rat.intCast_mul, Rat.intCast_mul, Rat.intCast_mul, ← ht, ← hl]
    have e1 : ((a : Int) : Rat) = (a : Rat) := rfl
    have e4 : ((60 : Int) : Rat) = (60 : Rat) := rfl
    rw [e1, e4]
    grind
end
end DVH

namespace DV
open PySem L2
def Gives {α : Type} (m : M α) (P : α → Prop) : Prop := ∀ rs, ∃ a rs', m rs = some (a, rs') ∧ P a
section
variable {α β : Type} {m : M α} {f : α → M β} {P Q : α → Prop} {P' : β → Prop} {a : α}
theorem Gives.ret (h : P a) : Gives (ret a) P := fun rs => ⟨a, rs, rfl, h⟩
theorem Gives.bnd (h : Gives m P) (k : ∀ a, P a → Gives (f a) P') : Gives (bnd m f) P' := fun rs => by
  obtain ⟨a, rs1, e, h1⟩ := h rs
  obtain ⟨b, rs2, e2, h2⟩ := k a h1 rs1
  exact ⟨b, rs2, by unfold DV.bnd; rw [e]; exact e2, h2⟩
theorem Gives.mono (h : Gives m P) (k : ∀ a, P a → Q a) : Gives m Q := fun rs => by
  obtain ⟨a, rs1, e, h1⟩ := h rs
  exact ⟨a, rs1, e, k a h1⟩
theorem Gives.eq {m' : M α} (e : m = m') (h : Gives m' P) : Gives m P := by rw [e]; exact h
theorem bnd_ret (a : α) (f : α → M β) : bnd (ret a) f = f a := rfl
theorem lft_s (a : α) : lft (some a) = ret a := rfl
theorem bnd_bnd {γ : Type} (m : M α) (f : α → M β) (g : β → M γ) : bnd (bnd m f) g = bnd m fun a => bnd (f a) g := by
  funext rs
  unfold bnd
  cases m rs with
  | none => rfl
  | some p => rfl
inductive All2 (P : α → β → Prop) : List α → List β → Prop
  | nil : All2 P [] []
  | cons {x : α} {y : β} {xs : List α} {ys : List β} : P x y → All2 P xs ys → All2 P (x :: xs) (y :: ys)
theorem All2.len {P : α → β → Prop} : ∀ {xs : List α} {ys : List β}, All2 P xs ys → xs.length = ys.length
  | _, _, .nil => rfl
  | _, _, .cons _ t => congrArg (· + 1) (All2.len t)
theorem Gives.loop {tg : D → Env → Option Env} {body : Env → M Out} {Q : Out → Prop} : ∀ (its : List D) (I : List D → Env → Prop) (ρ : Env), I its ρ →
    (∀ x xs ρ, I (x :: xs) ρ → ∃ ρ1, tg x ρ = some ρ1 ∧ Gives (body ρ1) fun o => match o with
      | .nx ρ2 => I xs ρ2
      | .ct ρ2 => I xs ρ2
      | .bk ρ2 => Q (.nx ρ2)
      | .rt r => Q (.rt r)) → (∀ ρ, I [] ρ → Q (.nx ρ)) → Gives (loopF tg body its ρ) Q
  | [], I, ρ, h, _, hd => Gives.ret (hd ρ h)
  | x :: xs, I, ρ, h, hs, hd => by
    obtain ⟨ρ1, e1, g1⟩ := hs x xs ρ h
    unfold loopF
    rw [e1, lft_s, bnd_ret]
    refine Gives.bnd g1 fun o ho => ?_
    cases o with
    | nx ρ2 => exact Gives.loop xs I ρ2 ho hs hd
    | ct ρ2 => exact Gives.loop xs I ρ2 ho hs hd
    | bk ρ2 => exact Gives.ret ho
    | rt r => exact Gives.ret ho
theorem Gives.while {t : Env → M Bool} {body : Env → M Out} {Q : Out → Prop} (I : Nat → Env → Prop)
    (hs : ∀ k ρ, I k ρ → ∃ b : Bool, t ρ = DV.ret b ∧ (b = false → Q (.nx ρ)) ∧ (b = true → ∃ j, k = j + 1 ∧ Gives (body ρ) fun o => match o with
      | .nx ρ2 => I j ρ2
      | .ct ρ2 => I j ρ2
      | .bk ρ2 => Q (.nx ρ2)
      | .rt r => Q (.rt r))) : ∀ (k n : Nat) (ρ : Env), k < n → I k ρ → Gives (wloopF t body n ρ) Q
  | k, 0, _, hn, _ => absurd hn (Nat.not_lt_zero _)
  | k, n + 1, ρ, hn, h => by
    obtain ⟨b, e, h1, h2⟩ := hs k ρ h
    unfold wloopF
    rw [e, bnd_ret]
    cases b with
    | false => exact Gives.ret (h1 rfl)
    | true =>
      obtain ⟨j, rfl, g⟩ := h2 rfl
      rw [if_pos rfl]
      refine Gives.bnd g fun o ho => ?_
      cases o with
      | nx ρ2 => exact Gives.while I hs j n ρ2 (by omega) ho
      | ct ρ2 => exact Gives.while I hs j n ρ2 (by omega) ho
      | bk ρ2 => exact Gives.ret ho
      | rt r => exact Gives.ret ho
/-- a comprehension without a test: each item gives one -/
theorem Gives.lc {tg : D → Env → Option Env} {el : Env → M RV} {ρ : Env} {P : D → D → Prop} : ∀ (its : List D), (∀ x ∈ its, ∃ ρ1, tg x ρ = some ρ1 ∧ Gives (el ρ1) fun r => ∃ d, toD r = some d ∧ P x d) →
    Gives (lcF tg tTrue el ρ its) fun ds => All2 P its ds
  | [], _ => Gives.ret .nil
  | x :: xs, h => by
    obtain ⟨ρ1, e1, g1⟩ := h x List.mem_cons_self
    unfold lcF
    rw [e1, lft_s, bnd_ret]
    show Gives (DV.bnd (el ρ1) _) _
    refine Gives.bnd g1 fun r ⟨d, hd, hp⟩ => ?_
    rw [hd, lft_s, bnd_ret]
    refine Gives.bnd (Gives.lc xs fun y hy => h y (List.mem_cons_of_mem _ hy)) fun ds hds => Gives.ret (.cons hp hds)
/-- a comprehension of plain functions -/
theorem lc_eq {tg : D → Env → Option Env} {t : Env → M Bool} {el : Env → M RV} {ρ : Env} (p : D → Bool) (f : D → D) : ∀ (its : List D), (∀ x ∈ its, ∃ ρ1, tg x ρ = some ρ1 ∧ t ρ1 = DV.ret (p x) ∧ (p x = true → ∃ r, el ρ1 = DV.ret r ∧ toD r = some (f x))) →
    lcF tg t el ρ its = DV.ret ((its.filter p).map f)
  | [], _ => rfl
  | x :: xs, h => by
    obtain ⟨ρ1, e1, e2, e3⟩ := h x List.mem_cons_self
    unfold lcF
    rw [e1, lft_s, bnd_ret, e2, bnd_ret, lc_eq p f xs fun y hy => h y (List.mem_cons_of_mem _ hy)]
    cases hp : p x with
    | false =>
      rw [if_neg (by decide), List.filter_cons_of_neg (by rw [hp]; decide)]
    | true =>
      obtain ⟨r, er, ed⟩ := e3 hp
      rw [if_pos rfl, List.filter_cons_of_pos hp, er, bnd_ret, ed, lft_s, bnd_ret, bnd_ret]
      rfl
end
section
variable {ρ ρ' : Env} {rs rs' rs1 rs2 : RS} {x y z : RV} {f h : Env → M RV} {g k : Env → M Out}
theorem e2_at {gg : RV → RV → Option RV} (h1 : f ρ rs = some (x, rs1)) (h2 : h ρ rs1 = some (y, rs2)) (h3 : gg x y = some z) : e2 gg f h ρ rs = some (z, rs2) := by
  unfold e2 bnd
  simp only [h1, h2, h3]
  rfl
theorem sSeq_at (h1 : g ρ rs = some (.nx ρ', rs')) : sSeq g k ρ rs = k ρ' rs' := by
  unfold sSeq bnd
  simp only [h1]
theorem sSeq_rt (h1 : g ρ rs = some (.rt x, rs')) : sSeq g k ρ rs = some (.rt x, rs') := by
  unfold sSeq bnd
  simp only [h1]
  rfl
theorem sIf_at {t : Env → M Bool} {b : Bool} (h1 : t ρ rs = some (b, rs')) : sIf t g k ρ rs = if b = true then g ρ rs' else k ρ rs' := by
  unfold sIf bnd
  simp only [h1]
  split <;> rfl
theorem sSet_at {i : Nat} {sv : SV} (h1 : f ρ rs = some (x, rs')) (h2 : toS x = some sv) : sSet i f ρ rs = some (.nx (ρ.set i (some sv)), rs') := by
  unfold sSet bnd
  simp only [h1, h2]
  rfl
theorem sRet_at (h1 : f ρ rs = some (x, rs')) (h2 : toRet x = some y) : sRet f ρ rs = some (.rt y, rs') := by
  unfold sRet bnd
  simp only [h1, h2]
  rfl
theorem sRowPut_at {i j : Nat} {v : Int} (h1 : f ρ rs = some (.d (.int v), rs1)) (h2 : vget ρ i = some .row) (h3 : rowPut j v rs1 = some rs2) : sRowPut i j f ρ rs = some (.nx ρ, rs2) := by
  unfold sRowPut bnd
  simp only [h1, h2]
  show (match rowPut j v rs1 with | some rs' => some (Out.nx ρ, rs') | none => none) = _
  rw [h3]
theorem gMod_eq {i j : Int} (h : 0 < j) : gMod (.d (.int i)) (.d (.int j)) = some (.d (.int (i % j))) := by
  show (if cPos i j = true then some (RV.d (.int (i % j))) else none) = _
  rw [if_pos (show cPos i j = true from decide_eq_true h)]
theorem gFdiv_eq {i j : Int} (h : 0 < j) (h1 : j < 1073741824) : gFdiv (.d (.int i)) (.d (.int j)) = some (.d (.int (i / j))) := by
  show (if cDiv i j = true then some (RV.d (.int (i / j))) else none) = _
  rw [if_pos (by simp [cDiv, h, h1])]
theorem gMulI_eq {i j : Int} (h : cMul i j = true) : gMulA (.d (.int i)) (.d (.int j)) = some (.d (.int (i * j))) := by
  show (if cMul i j = true then some (RV.d (.int (i * j))) else none) = _
  rw [if_pos h]
theorem cMul_r {i j : Int} (h1 : -18446744073709551616 < j) (h2 : j < 18446744073709551616) : cMul i j = true := by
  unfold cMul
  simp [h1, h2]
theorem cMul_l {i j : Int} (h1 : -18446744073709551616 < i) (h2 : i < 18446744073709551616) : cMul i j = true := by
  unfold cMul
  simp [h1, h2]
end
end DV
namespace DVL
open PySem L2 DV
theorem taken_at (many : Int) (h0 : 0 < many) (h1 : many < 1073741824) (rs : RS) : ∃ rs' x, g__law_taken [some .row, some (.d (.int many)), none, none] rs = some (.rt (.d (.int (x % many))), rs') := by
  obtain ⟨ns, i, s, c⟩ := rs
  unfold g__law_taken
  by_cases hc : 0 < c
  · refine ⟨⟨ns, i, s, c / many⟩, c, ?_⟩
    refine sSeq_rt ?_
    rw [sIf_at (b := decide (0 < c)) (rs' := ⟨ns, i, s, c⟩) rfl, if_pos (decide_eq_true hc)]
    rw [sSeq_at (sSet_at (e2_at (gg := gMod) (x := .d (.int c)) (y := .d (.int many)) rfl rfl (gMod_eq h0)) rfl)]
    rw [sSeq_at (sRowPut_at (rs2 := ⟨ns, i, s, c / many⟩) (e2_at (gg := gFdiv) (x := .d (.int c)) (y := .d (.int many)) rfl rfl (gFdiv_eq h0 h1)) rfl rfl)]
    rfl
  · have p7 : (0 : Int) < 2147483647 := by decide
    have hn : sIf (eT (e2 gGt (eRow 0 3) (eC (.int 0)))) (sSeq (sSet 2 (e2 gMod (eCall gInt (aCons (eRow 0 3) aNil)) (eVar 1))) (sSeq (sRowPut 0 3 (e2 gFdiv (eRow 0 3) (eVar 1))) (sRetV 2))) sNil [some .row, some (.d (.int many)), none, none] ⟨ns, i, s, c⟩ = some (.nx [some .row, some (.d (.int many)), none, none], ⟨ns, i, s, c⟩) := by
      rw [sIf_at (b := decide (0 < c)) (rs' := ⟨ns, i, s, c⟩) rfl, if_neg (by simpa using hc)]
      rfl
    rw [sSeq_at hn]
    have hi : rowPut 1 ((i : Int) + 1) ⟨ns, i, s, c⟩ = some ⟨ns, i + 1, s, c⟩ := by
      show (if 0 ≤ (i : Int) + 1 then some (⟨ns, ((i : Int) + 1).toNat, s, c⟩ : RS) else none) = _
      rw [if_pos (by omega)]
      have : ((i : Int) + 1).toNat = i + 1 := by omega
      rw [this]
    rw [sSeq_at (sRowPut_at (rs2 := ⟨ns, i + 1, s, c⟩) (v := (i : Int) + 1) rfl rfl hi)]
    have hlen : (ns.map PyData.int).length = ns.length := List.length_map ..
    by_cases hl : (((ns.map PyData.int).length : Nat) : Int) < ((i + 1 : Nat) : Int)
    · refine ⟨⟨ns, i + 1, (s * 48271 + 11) % 2147483647, c⟩, (s * 48271 + 11) % 2147483647 / 7, ?_⟩
      refine sSeq_rt ?_
      rw [sIf_at (b := decide ((((ns.map PyData.int).length : Nat) : Int) < ((i + 1 : Nat) : Int))) (rs' := ⟨ns, i + 1, s, c⟩) rfl, if_pos (decide_eq_true hl)]
      rw [sSeq_at (sRowPut_at (rs2 := ⟨ns, i + 1, (s * 48271 + 11) % 2147483647, c⟩) (v := (s * 48271 + 11) % 2147483647) (e2_at (gg := gMod) (x := .d (.int (s * 48271 + 11))) (y := .d (.int 2147483647)) (by
        show DV.bnd (DV.bnd (e2 gAddA (e2 gMulA (eRow 0 2) (eC (.int 48271))) (eC (.int 11)) _) _) _ _ = _
        unfold DV.bnd
        rw [e2_at (gg := gAddA) (x := .d (.int (s * 48271))) (y := .d (.int 11)) (z := .d (.int (s * 48271 + 11))) (e2_at (gg := gMulA) (x := .d (.int s)) (y := .d (.int 48271)) rfl rfl (gMulI_eq (cMul_r (by decide) (by decide)))) rfl rfl]
        rfl) rfl (gMod_eq p7)) rfl rfl)]
      refine sRet_at (e2_at (gg := gMod) (x := .d (.int ((s * 48271 + 11) % 2147483647 / 7))) (y := .d (.int many)) (by
        show DV.bnd (DV.bnd (e2 gFdiv (eRow 0 2) (eC (.int 7)) _) _) _ _ = _
        unfold DV.bnd
        rw [e2_at (gg := gFdiv) (x := .d (.int ((s * 48271 + 11) % 2147483647))) (y := .d (.int 7)) rfl rfl (gFdiv_eq (by decide) (by decide))]
        rfl) rfl (gMod_eq h0)) rfl
    · have hlt : i < ns.length := by omega
      have hg : (ns.map PyData.int)[i]? = some (.int ns[i]) := by
        rw [List.getElem?_map, List.getElem?_eq_getElem hlt]
        rfl
      have hnn : sIf (eT (e2 gGt (eRow 0 1) (eCall gLen (aCons (eRow 0 0) aNil)))) (sSeq (sRowPut 0 2 (e2 gMod (eCall gInt (aCons (e2 gAddA (e2 gMulA (eRow 0 2) (eC (.int 48271))) (eC (.int 11))) aNil)) (eC (.int 2147483647)))) (sRet (e2 gMod (eCall gInt (aCons (e2 gFdiv (eRow 0 2) (eC (.int 7))) aNil)) (eVar 1)))) sNil [some .row, some (.d (.int many)), none, none] ⟨ns, i + 1, s, c⟩ = some (.nx [some .row, some (.d (.int many)), none, none], ⟨ns, i + 1, s, c⟩) := by
        rw [sIf_at (b := decide ((((ns.map PyData.int).length : Nat) : Int) < ((i + 1 : Nat) : Int))) (rs' := ⟨ns, i + 1, s, c⟩) rfl, if_neg (by simpa using hl)]
        rfl
      rw [sSeq_at hnn]
      have hix : gIx (.d (.list (ns.map PyData.int))) (.d (.int (((i + 1 : Nat) : Int) - 1))) = some (.d (.int ns[i])) := by
        show (atI (ns.map PyData.int) (((i + 1 : Nat) : Int) - 1)).map RV.d = _
        have e1 : (((i + 1 : Nat) : Int) - 1) = (i : Int) := by omega
        rw [e1, atI_nat hg]
        rfl
      rw [sSeq_at (sSet_at (sv := .d (.int ns[i])) (e2_at (gg := gIx) (x := .d (.list (ns.map PyData.int))) (y := .d (.int (((i + 1 : Nat) : Int) - 1))) rfl rfl hix) rfl)]
      rw [sSeq_at (sRowPut_at (rs2 := ⟨ns, i + 1, (s * 48271 + ns[i] + 11) % 2147483647, c⟩) (v := (s * 48271 + ns[i] + 11) % 2147483647) (e2_at (gg := gMod) (x := .d (.int (s * 48271 + ns[i] + 11))) (y := .d (.int 2147483647)) (by
        show DV.bnd (DV.bnd (e2 gAddA (e2 gAddA (e2 gMulA (eRow 0 2) (eC (.int 48271))) (eVar 3)) (eC (.int 11)) _) _) _ _ = _
        unfold DV.bnd
        rw [e2_at (gg := gAddA) (x := .d (.int (s * 48271 + ns[i]))) (y := .d (.int 11)) (z := .d (.int (s * 48271 + ns[i] + 11))) (e2_at (gg := gAddA) (x := .d (.int (s * 48271))) (y := .d (.int ns[i])) (e2_at (gg := gMulA) (x := .d (.int s)) (y := .d (.int 48271)) rfl rfl (gMulI_eq (cMul_r (by decide) (by decide)))) rfl rfl) rfl rfl]
        rfl) rfl (gMod_eq p7)) rfl rfl)]
      have hp : e2 gPow (eC (.int 10)) (eC (.int 18)) [some .row, some (.d (.int many)), none, some (SV.d (.int ns[i]))] ⟨ns, i + 1, (s * 48271 + ns[i] + 11) % 2147483647, c⟩ = some (.d (.int (1000000000000000000 : Int)), ⟨ns, i + 1, (s * 48271 + ns[i] + 11) % 2147483647, c⟩) := by
        refine e2_at rfl rfl ?_
        show (if cPow 10 18 = true then some (RV.d (.int ((10 : Int) ^ (18 : Int).toNat))) else none) = _
        rw [if_pos (by decide +kernel)]
        rfl
      have fin : ∀ c', sRet (e2 gMod (eCall gInt (aCons (eVar 3) aNil)) (eVar 1)) [some .row, some (.d (.int many)), none, some (SV.d (.int ns[i]))] ⟨ns, i + 1, (s * 48271 + ns[i] + 11) % 2147483647, c'⟩ = some (.rt (.d (.int (ns[i] % many))), ⟨ns, i + 1, (s * 48271 + ns[i] + 11) % 2147483647, c'⟩) := fun c' =>
        sRet_at (e2_at (gg := gMod) (x := .d (.int ns[i])) (y := .d (.int many)) rfl rfl (gMod_eq h0)) rfl
      have hge : (eT (e2 gGe (eVar 3) (e2 gPow (eC (.int 10)) (eC (.int 18))))) [some .row, some (.d (.int many)), none, some (SV.d (.int ns[i]))] ⟨ns, i + 1, (s * 48271 + ns[i] + 11) % 2147483647, c⟩ = some (decide ((1000000000000000000 : Int) ≤ ns[i]), ⟨ns, i + 1, (s * 48271 + ns[i] + 11) % 2147483647, c⟩) := by
        unfold eT
        unfold DV.bnd
        rw [e2_at (gg := gGe) (x := .d (.int ns[i])) rfl hp rfl]
        rfl
      by_cases hb : (1000000000000000000 : Int) ≤ ns[i]
      · refine ⟨⟨ns, i + 1, (s * 48271 + ns[i] + 11) % 2147483647, ns[i] / many⟩, ns[i], ?_⟩
        rw [sSeq_at (rs' := ⟨ns, i + 1, (s * 48271 + ns[i] + 11) % 2147483647, ns[i] / many⟩) (by
          show sIf _ _ _ [some .row, some (.d (.int many)), none, some (SV.d (.int ns[i]))] _ = _
          rw [sIf_at hge, if_pos (decide_eq_true hb)]
          exact sRowPut_at (e2_at (gg := gFdiv) (x := .d (.int ns[i])) (y := .d (.int many)) rfl rfl (gFdiv_eq h0 h1)) rfl rfl)]
        exact fin _
      · refine ⟨⟨ns, i + 1, (s * 48271 + ns[i] + 11) % 2147483647, c⟩, ns[i], ?_⟩
        rw [sSeq_at (rs' := ⟨ns, i + 1, (s * 48271 + ns[i] + 11) % 2147483647, c⟩) (by
          show sIf _ _ _ [some .row, some (.d (.int many)), none, some (SV.d (.int ns[i]))] _ = _
          rw [sIf_at hge, if_neg (by simpa using hb)]
          rfl)]
        exact fin _
theorem taken_eq (many : Int) (h0 : 0 < many) (h1 : many < 1073741824) : Gives (m__law_taken [.row, .d (.int many)]) fun r => ∃ i : Int, r = .d (.int i) ∧ 0 ≤ i ∧ i < many := by
  intro rs
  obtain ⟨rs', x, e⟩ := taken_at many h0 h1 rs
  refine ⟨_, rs', ?_, _, rfl, Int.emod_nonneg x (by omega), Int.emod_lt_of_pos x h0⟩
  show DV.bnd (g__law_taken [some .row, some (.d (.int many)), none, none]) _ rs = _
  unfold DV.bnd
  rw [e]
  rfl
end DVL
namespace DV
open PySem L2
section
variable {α : Type} {ρ : Env} {P : RV → Prop} {Q : Out → Prop} {PA : List RV → Prop} {PB : Bool → Prop} {f h k : Env → M RV} {fa : Env → M (List RV)} {g g2 : Env → M Out} {t t2 : Env → M Bool} {x : RV}
theorem gv_eq {m : M α} {P : α → Prop} {a : α} (e : m = ret a) (p : P a) : Gives m P := by rw [e]; exact Gives.ret p
theorem gv_var {i : Nat} (e : vget ρ i = some x) (p : P x) : Gives (eVar i ρ) P := gv_eq (by unfold eVar; rw [e]; rfl) p
theorem gv_c {d : D} (p : P (.d d)) : Gives (eC d ρ) P := Gives.ret p
theorem gv_e2 {gg : RV → RV → Option RV} (p : Gives (f ρ) fun x => Gives (h ρ) fun y => ∃ z, gg x y = some z ∧ P z) : Gives (e2 gg f h ρ) P :=
  Gives.bnd p fun x q => Gives.bnd q fun y ⟨z, e, pz⟩ => by rw [e, lft_s]; exact Gives.ret pz
theorem gv_nil (p : PA []) : Gives (aNil ρ) PA := Gives.ret p
theorem gv_cons (p : Gives (f ρ) fun x => Gives (fa ρ) fun xs => PA (x :: xs)) : Gives (aCons f fa ρ) PA := Gives.bnd p fun x q => Gives.bnd q fun xs r => Gives.ret r
theorem gv_star (p : Gives (f ρ) fun x => ∃ ds, items x = some ds ∧ Gives (fa ρ) fun xs => PA (ds.map RV.d ++ xs)) : Gives (aStar f fa ρ) PA :=
  Gives.bnd p fun x ⟨ds, e, q⟩ => by rw [e, lft_s, bnd_ret]; exact Gives.bnd q fun xs r => Gives.ret r
theorem gv_call {gg : List RV → Option RV} (p : Gives (fa ρ) fun xs => ∃ z, gg xs = some z ∧ P z) : Gives (eCall gg fa ρ) P := Gives.bnd p fun xs ⟨z, e, pz⟩ => by rw [e, lft_s]; exact Gives.ret pz
theorem gv_fn {m : List RV → M RV} {n : Nat} (p : Gives (fa ρ) fun xs => xs.length = n ∧ Gives (m (xs.map readable)) P) : Gives (eFn (fun xs => if xs.length = n then m xs else fail) fa ρ) P :=
  Gives.bnd p fun xs ⟨e, q⟩ => by
    show Gives (if (xs.map readable).length = n then m (xs.map readable) else fail) P
    rw [if_pos (by rw [List.length_map]; exact e)]
    exact q
theorem gv_tup (p : Gives (fa ρ) fun xs => ∃ ds, toDs xs = some ds ∧ ds.length ≤ 100000 ∧ P (.d (.tuple ds))) : Gives (eTup fa ρ) P :=
  Gives.bnd p fun xs ⟨ds, e, hl, q⟩ => by rw [e, lft_s, bnd_ret, if_pos hl]; exact Gives.ret q
theorem gv_lst (p : Gives (fa ρ) fun xs => ∃ ds, toDs xs = some ds ∧ ds.length ≤ 100000 ∧ P (.n ds)) : Gives (eLst fa ρ) P :=
  Gives.bnd p fun xs ⟨ds, e, hl, q⟩ => by rw [e, lft_s, bnd_ret, if_pos hl]; exact Gives.ret q
theorem gv_neg (p : Gives (f ρ) fun x => ∃ i, asInt x = some i ∧ P (.d (.int (-i)))) : Gives (eNeg f ρ) P := Gives.bnd p fun x ⟨i, e, q⟩ => by rw [e, lft_s, bnd_ret]; exact Gives.ret q
theorem gv_ifB (p : Gives (f ρ) fun x => ∃ b, asBool x = some b ∧ (b = true → Gives (h ρ) P) ∧ (b = false → Gives (k ρ) P)) : Gives (eIfB f h k ρ) P :=
  Gives.bnd p fun x ⟨b, e, q1, q2⟩ => by
    rw [e, lft_s, bnd_ret]
    cases b with
    | true => rw [if_pos rfl]; exact q1 rfl
    | false => rw [if_neg (by decide)]; exact q2 rfl
theorem gv_ifE (p : Gives (t ρ) fun b => (b = true → Gives (h ρ) P) ∧ (b = false → Gives (k ρ) P)) : Gives (eIf t h k ρ) P :=
  Gives.bnd p fun b ⟨q1, q2⟩ => by
    cases b with
    | true => rw [if_pos rfl]; exact q1 rfl
    | false => rw [if_neg (by decide)]; exact q2 rfl
theorem gv_notB (p : Gives (f ρ) fun x => ∃ b, asBool x = some b ∧ P (.d (.bool (!b)))) : Gives (eNotB f ρ) P := Gives.bnd p fun x ⟨b, e, q⟩ => by rw [e, lft_s, bnd_ret]; exact Gives.ret q
theorem gv_ch {gg g' : RV → RV → Option RV} (p : Gives (f ρ) fun x => Gives (h ρ) fun y => ∃ b, gg x y = some (.d (.bool b)) ∧ (b = true → Gives (k ρ) fun w => ∃ z, g' y w = some z ∧ P z) ∧ (b = false → P (.d (.bool false)))) : Gives (eCh gg g' f h k ρ) P :=
  Gives.bnd p fun x q => Gives.bnd q fun y ⟨b, e, q1, q2⟩ => by
    rw [e, lft_s, bnd_ret]
    show Gives (bnd (lft (some b)) _) P
    rw [lft_s, bnd_ret]
    cases b with
    | true => rw [if_pos rfl]; exact Gives.bnd (q1 rfl) fun w ⟨z, e, pz⟩ => by rw [e, lft_s]; exact Gives.ret pz
    | false => rw [if_neg (by decide)]; exact Gives.ret (q2 rfl)
theorem gv_T (p : Gives (f ρ) fun x => ∃ b, asBool x = some b ∧ PB b) : Gives (eT f ρ) PB := Gives.bnd p fun x ⟨b, e, q⟩ => by rw [e, lft_s]; exact Gives.ret q
theorem gv_not (p : Gives (t ρ) fun b => PB (!b)) : Gives (tNotF t ρ) PB := Gives.bnd p fun b q => Gives.ret q
theorem gv_and (p : Gives (t ρ) fun b => (b = true → Gives (t2 ρ) PB) ∧ (b = false → PB false)) : Gives (tIfT t t2 (tRetB false) ρ) PB := Gives.bnd p fun b ⟨q1, q2⟩ => by
  cases b with
  | true => rw [if_pos rfl]; exact q1 rfl
  | false => rw [if_neg (by decide)]; exact Gives.ret (q2 rfl)
theorem gv_or (p : Gives (t ρ) fun b => (b = true → PB true) ∧ (b = false → Gives (t2 ρ) PB)) : Gives (tIfT t (tRetB true) t2 ρ) PB := Gives.bnd p fun b ⟨q1, q2⟩ => by
  cases b with
  | true => rw [if_pos rfl]; exact Gives.ret (q1 rfl)
  | false => rw [if_neg (by decide)]; exact q2 rfl
theorem gv_seq (p : Gives (g ρ) fun o => match o with | .nx ρ' => Gives (g2 ρ') Q | o => Q o) : Gives (sSeq g g2 ρ) Q := Gives.bnd p fun o q => by
  cases o with
  | nx ρ' => exact q
  | rt r => exact Gives.ret q
  | bk r => exact Gives.ret q
  | ct r => exact Gives.ret q
theorem gv_nop (p : Q (.nx ρ)) : Gives (sNil ρ) Q := Gives.ret p
theorem gv_set {i : Nat} (p : Gives (f ρ) fun x => ∃ sv, toS x = some sv ∧ Q (.nx (ρ.set i (some sv)))) : Gives (sSet i f ρ) Q := Gives.bnd p fun x ⟨sv, e, q⟩ => by rw [e, lft_s, bnd_ret]; exact Gives.ret q
theorem gv_rt (p : Gives (f ρ) fun x => ∃ y, toRet x = some y ∧ Q (.rt y)) : Gives (sRet f ρ) Q := Gives.bnd p fun x ⟨y, e, q⟩ => by rw [e, lft_s, bnd_ret]; exact Gives.ret q
theorem gv_rtV {i : Nat} {y : RV} (e : vown ρ i = some y) (q : Q (.rt y)) : Gives (sRetV i ρ) Q := gv_eq (by unfold sRetV; rw [e]; rfl) q
theorem gv_if (p : Gives (t ρ) fun b => (b = true → Gives (g ρ) Q) ∧ (b = false → Gives (g2 ρ) Q)) : Gives (sIf t g g2 ρ) Q := Gives.bnd p fun b ⟨q1, q2⟩ => by
  cases b with
  | true => rw [if_pos rfl]; exact q1 rfl
  | false => rw [if_neg (by decide)]; exact q2 rfl
theorem gv_drop (p : Gives (f ρ) fun _ => Q (.nx ρ)) : Gives (sDrop f ρ) Q := Gives.bnd p fun _ q => Gives.ret q
theorem gv_par {i j : Nat} (p : Gives (fa ρ) fun xs => ∃ x y sx sy, xs = [x, y] ∧ toS x = some sx ∧ toS y = some sy ∧ Q (.nx ((ρ.set i (some sx)).set j (some sy)))) : Gives (sPar i j fa ρ) Q := Gives.bnd p fun xs ⟨x, y, sx, sy, e, e1, e2, q⟩ => by
  subst e
  show Gives (bnd (lft (toS x)) _) Q
  rw [e1, lft_s, bnd_ret, e2, lft_s, bnd_ret]
  exact Gives.ret q
theorem gv_par3 {i j l : Nat} (p : Gives (fa ρ) fun xs => ∃ x y z sx sy sz, xs = [x, y, z] ∧ toS x = some sx ∧ toS y = some sy ∧ toS z = some sz ∧ Q (.nx (((ρ.set i (some sx)).set j (some sy)).set l (some sz)))) : Gives (sPar3 i j l fa ρ) Q := Gives.bnd p fun xs ⟨x, y, z, sx, sy, sz, e, e1, e2, e3, q⟩ => by
  subst e
  show Gives (bnd (lft (toS x)) _) Q
  rw [e1, lft_s, bnd_ret, e2, lft_s, bnd_ret, e3, lft_s, bnd_ret]
  exact Gives.ret q
theorem gv_stup {hh : D → Env → Option Env} (p : Gives (f ρ) fun x => ∃ d ρ', x = .d d ∧ hh d ρ = some ρ' ∧ Q (.nx ρ')) : Gives (sTup f hh ρ) Q := Gives.bnd p fun x ⟨d, ρ', e, e1, q⟩ => by
  subst e
  show Gives (bnd (lft (hh d ρ)) _) Q
  rw [e1, lft_s, bnd_ret]
  exact Gives.ret q
theorem gv_aug {i : Nat} {kf : Int → Int → Int} {y : RV} {a : Int} (e1 : vget ρ i = some y) (e2 : asInt y = some a) (p : Gives (f ρ) fun x => ∃ b, asInt x = some b ∧ Q (.nx (ρ.set i (some (.d (.int (kf a b))))))) : Gives (sAug i kf f ρ) Q := by
  unfold sAug
  rw [e1, lft_s, bnd_ret, e2, lft_s, bnd_ret]
  exact Gives.bnd p fun x ⟨b, e, q⟩ => by rw [e, lft_s, bnd_ret]; exact Gives.ret q
theorem gv_app {i : Nat} {ds : List D} (e1 : sApp.own? ρ i = some ds) (hl : ds.length < 100000) (p : Gives (f ρ) fun x => ∃ d, toD x = some d ∧ Q (.nx (ρ.set i (some (.o (ds ++ [d])))))) : Gives (sApp i f ρ) Q := by
  unfold sApp
  rw [e1, lft_s, bnd_ret]
  exact Gives.bnd p fun x ⟨d, e, q⟩ => by rw [e, lft_s, bnd_ret, if_pos hl]; exact Gives.ret q
theorem gv_for {fi : Env → M (List D × Option Nat)} {tg : D → Env → Option Env} {its : List D} {lk : Option Nat} (e : fi ρ = ret (its, lk)) (p : Gives (loopF tg g its (lockE ρ lk)) fun o => Q (unlockO ρ lk o)) : Gives (sFor fi tg g ρ) Q := by
  unfold sFor
  rw [e, bnd_ret]
  exact Gives.bnd p fun o q => Gives.ret q
theorem gv_lc {fi : Env → M (List D × Option Nat)} {vs : List Nat} {tg : D → Env → Option Env} {its : List D} {lk : Option Nat} (e : fi ρ = ret (its, lk)) (hl : its.length ≤ 100000) (p : Gives (lcF tg t h (wipeE ρ vs) its) fun ds => P (.n ds)) : Gives (eLc fi vs tg t h ρ) P := by
  unfold eLc
  rw [e, bnd_ret]
  refine Gives.bnd p fun ds q => ?_
  show Gives (if its.length ≤ 100000 then ret (.n ds) else fail) P
  rw [if_pos hl]
  exact Gives.ret q
theorem gv_run {n : Nat} {xs : List RV} (p : Gives (g (startE n xs)) fun o => match o with | .nx _ => P (.d .none) | .rt r => P r | _ => False) : Gives (runDef n g xs) P := Gives.bnd p fun o q => by
  cases o with
  | nx ρ' => exact Gives.ret q
  | rt r => exact Gives.ret q
  | bk r => exact q.elim
  | ct r => exact q.elim
end
theorem gv_isT {T : TyT} {ρ : Env} {f : Env → M RV} {P : RV → Prop} (p : Gives (f ρ) fun x => ∃ d, viewD x = some d ∧ P (.d (.bool (isT T d)))) : Gives (eIsT T f ρ) P := Gives.bnd p fun x ⟨d, e, q⟩ => by rw [e, lft_s, bnd_ret]; exact Gives.ret q
theorem Gives.wh {t : Env → M Bool} {body : Env → M Out} {Q : Out → Prop} (I : Nat → Env → Prop)
    (hs : ∀ k ρ, I k ρ → Gives (t ρ) fun b => (b = false → Q (.nx ρ)) ∧ (b = true → ∃ j, k = j + 1 ∧ Gives (body ρ) fun o => match o with
      | .nx ρ2 => I j ρ2
      | .ct ρ2 => I j ρ2
      | .bk ρ2 => Q (.nx ρ2)
      | .rt r => Q (.rt r))) : ∀ (k n : Nat) (ρ : Env), k < n → I k ρ → Gives (wloopF t body n ρ) Q
  | k, 0, _, hn, _ => absurd hn (Nat.not_lt_zero _)
  | k, n + 1, ρ, hn, h => by
    unfold wloopF
    refine Gives.bnd (hs k ρ h) fun b ⟨h1, h2⟩ => ?_
    cases b with
    | false => exact Gives.ret (h1 rfl)
    | true =>
      obtain ⟨j, rfl, g⟩ := h2 rfl
      rw [if_pos rfl]
      refine Gives.bnd g fun o ho => ?_
      cases o with
      | nx ρ2 => exact Gives.wh I hs j n ρ2 (by omega) ho
      | ct ρ2 => exact Gives.wh I hs j n ρ2 (by omega) ho
      | bk ρ2 => exact Gives.ret ho
      | rt r => exact Gives.ret ho
/-- a tuple of ints -/
abbrev ti (ns : List Int) : D := .tuple (ns.map PyData.int)
end DV
namespace DVL
open PySem L2 DV
theorem pick_gives (ds : List D) (h0 : 0 < ds.length) (h1 : ds.length ≤ 1000) : Gives (m__law_pick [.row, .b ds]) fun r => ∃ d, d ∈ ds ∧ r = .d d := by
  refine gv_run (gv_rt (gv_e2 (gv_var rfl (gv_fn (gv_cons (gv_var rfl (gv_cons (gv_call (gv_cons (gv_var rfl (gv_nil ⟨_, rfl, gv_nil ⟨rfl, ?_⟩⟩)))))))))))
  refine (taken_eq (ds.length : Nat) (by omega) (by omega)).mono fun r ⟨i, e, h2, h3⟩ => ?_
  subst e
  have hi : i.toNat < ds.length := by omega
  have e1 : atI ds i = some ds[i.toNat] := by
    have := atI_nat (xs := ds) (j := i.toNat) (List.getElem?_eq_getElem hi)
    rwa [Int.toNat_of_nonneg h2] at this
  refine ⟨.d ds[i.toNat], ?_, _, rfl, _, List.getElem_mem hi, rfl⟩
  show (atI ds i).map RV.d = _
  rw [e1]
  rfl
end DVL

namespace DVL
open PySem L2 DV
def rngI (lo : Int) : Nat → List Int
  | 0 => []
  | n + 1 => lo :: rngI (lo + 1) n
theorem rngI_len : ∀ (lo : Int) (n : Nat), (rngI lo n).length = n
  | _, 0 => rfl
  | lo, n + 1 => congrArg (· + 1) (rngI_len (lo + 1) n)
theorem rngD_eq : ∀ (lo : Int) (n : Nat), rngD lo n = (rngI lo n).map PyData.int
  | _, 0 => rfl
  | lo, n + 1 => by
    show PyData.int lo :: rngD (lo + 1) n = PyData.int lo :: (rngI (lo + 1) n).map PyData.int
    rw [rngD_eq]
theorem mem_rngI (k : Int) : ∀ (lo : Int) (n : Nat), k ∈ rngI lo n ↔ lo ≤ k ∧ k < lo + n
  | lo, 0 => by
    simp [rngI]
    try omega
  | lo, n + 1 => by
    rw [rngI, List.mem_cons, mem_rngI k (lo + 1) n]
    omega
theorem rngI_nodup : ∀ (lo : Int) (n : Nat), (rngI lo n).Nodup
  | _, 0 => .nil
  | lo, n + 1 => List.nodup_cons.mpr ⟨fun h => by
      have := ((mem_rngI lo (lo + 1) n).mp h).1
      omega, rngI_nodup (lo + 1) n⟩
theorem rng1_eq {f : DV.Env → M RV} {ρ : DV.Env} {n : Int} (e : f ρ = ret (.d (.int n))) (h1 : n ≤ 100000) (h2 : -100000 ≤ n) : iRng1F f ρ = ret ((rngI 0 n.toNat).map PyData.int, none) := by
  unfold iRng1F
  rw [e, bnd_ret]
  show bnd (lft (some n)) _ = _
  rw [lft_s, bnd_ret, if_pos ⟨h1, h2⟩, rngD_eq]
theorem var_eq {ρ : DV.Env} {i : Nat} {x : RV} (e : vget ρ i = some x) : eVar i ρ = ret x := by unfold eVar; rw [e]; rfl
theorem eqv_int (a b : Int) : PyData.eqv (.int a) (.int b) = decide (a = b) := by
  simp [PyData.eqv]
  by_cases h : a = b <;> simp [h]
theorem all2_ints {α : Type} {p : Int → Prop} : ∀ {xs : List α} {ds : List D}, All2 (fun _ d => ∃ i, d = PyData.int i ∧ p i) xs ds → ∃ js : List Int, ds = js.map PyData.int ∧ js.length = xs.length ∧ ∀ j ∈ js, p j
  | _, _, .nil => ⟨[], rfl, rfl, fun _ h => nomatch h⟩
  | _, _, .cons ⟨i, e, h⟩ t => by
    obtain ⟨js, e2, e3, h2⟩ := all2_ints t
    subst e e2
    refine ⟨i :: js, rfl, congrArg (· + 1) e3, fun j hj => ?_⟩
    rcases List.mem_cons.mp hj with q | q
    · subst q; exact h
    · exact h2 j q
theorem intsOf_map (js : List Int) : intsOf (js.map PyData.int) = some js := ints_map js
/-- [e for _ in range(n)] where e gives an int -/
theorem draws {n i : Nat} {vs : List Nat} {el : DV.Env → M RV} {ρ : DV.Env} {f : DV.Env → M RV} {P : RV → Prop} {p : Int → Prop} (e : f ρ = ret (.d (.int (n : Int)))) (hn : n ≤ 1000)
    (h : ∀ x, DV.Gives (el ((wipeE ρ vs).set i (some (.d x)))) fun r => ∃ j, r = .d (.int j) ∧ p j)
    (k : ∀ js : List Int, js.length = n → (∀ j ∈ js, p j) → P (.d (ti js))) : DV.Gives (eCall gTuple (aCons (eLc (iRng1F f) vs (gNm i) tTrue el) aNil) ρ) P := by
  refine gv_call (gv_cons (gv_lc (rng1_eq e (by omega) (by omega)) (by rw [List.length_map, rngI_len]; omega) ?_))
  refine (DV.Gives.lc (P := fun _ d => ∃ j, d = PyData.int j ∧ p j) _ fun x _ => ⟨(wipeE ρ vs).set i (some (.d x)), rfl, (h x).mono fun r ⟨j, er, pj⟩ => ?_⟩).mono fun ds hd => ?_
  · subst er
    exact ⟨_, rfl, j, rfl, pj⟩
  · obtain ⟨js, rfl, hl, hp⟩ := all2_ints hd
    rw [List.length_map, rngI_len] at hl
    refine gv_nil ⟨_, rfl, k js (by omega) hp⟩
theorem gSum_eq (js : List Int) : gSum [.d (ti js)] = some (.d (.int js.sum)) := by
  show (intsOf (js.map PyData.int)).map _ = _
  rw [intsOf_map]
  rfl
structure Jobs (most time : Int) (ts ws dd : List Int) : Prop where
  pos : 1 ≤ ts.length
  len : (ts.length : Int) ≤ most
  lw : ws.length = ts.length
  ld : dd.length = ts.length
  tim : ∀ t ∈ ts, 1 ≤ t ∧ (t ≤ 2 ∨ t ≤ time)
  wei : ∀ t ∈ ws, 0 ≤ t ∧ t ≤ 9
  due : ∀ t ∈ dd, 0 ≤ t ∧ t < ts.sum + 2
theorem sum_le (b : Int) : ∀ ts : List Int, (∀ t ∈ ts, t ≤ b) → ts.sum ≤ b * ts.length
  | [], _ => by simp
  | t :: ts, h => by
    have h1 := h t List.mem_cons_self
    have h2 := sum_le b ts fun x hx => h x (List.mem_cons_of_mem _ hx)
    rw [List.sum_cons, List.length_cons]
    have : b * ((ts.length + 1 : Nat) : Int) = b * ts.length + b := by
      rw [Int.natCast_add, Int.mul_add]; simp
    omega
theorem sum_nn : ∀ ts : List Int, (∀ t ∈ ts, 0 ≤ t) → 0 ≤ ts.sum
  | [], _ => by simp
  | t :: ts, h => by
    have h1 := h t List.mem_cons_self
    have h2 := sum_nn ts fun x hx => h x (List.mem_cons_of_mem _ hx)
    rw [List.sum_cons]
    omega
theorem jobs_gives (most time : Int) (h1 : 1 ≤ most) (h2 : most ≤ 100) (h3 : 1 ≤ time) (h4 : time ≤ 1000) :
    DV.Gives (m__law_jobs [.row, .d (.int most), .d (.int time)]) fun r => ∃ ts ws dd, r = .d (.tuple [ti ts, ti ws, ti dd]) ∧ Jobs most time ts ws dd := by
  refine gv_run (gv_seq (gv_par3 (gv_cons (gv_e2 (gv_c (gv_fn (gv_cons (gv_var rfl (gv_cons (gv_var rfl (gv_nil ⟨rfl, ?_⟩)))))))))))
  refine (taken_eq most (by omega) (by omega)).mono fun r ⟨m, e, m0, m1⟩ => ?_
  subst e
  refine ⟨_, rfl, gv_cons (gv_fn (gv_cons (gv_var rfl (gv_cons (gv_lst (gv_cons (gv_c (gv_cons (gv_var rfl (gv_nil ⟨_, rfl, (by show (_ : Nat) ≤ _; simp), gv_nil ⟨rfl, ?_⟩⟩)))))))))) ⟩
  refine (pick_gives [.int 2, .int time] (by simp) (by simp)).mono fun r ⟨d, hd, e⟩ => ?_
  subst e
  have htop : ∃ top : Int, d = .int top ∧ 1 ≤ top ∧ (top ≤ 2 ∨ top ≤ time) := by
    rcases List.mem_cons.mp hd with q | q
    · exact ⟨2, q, by omega, .inl (by omega)⟩
    · rcases List.mem_cons.mp q with q | q
      · exact ⟨time, q, h3, .inr (by omega)⟩
      · cases q
  obtain ⟨top, rfl, t1, t2⟩ := htop
  refine gv_cons (gv_fn (gv_cons (gv_var rfl (gv_cons (gv_lst (gv_cons (gv_c (gv_cons (gv_c (gv_cons (gv_c (gv_nil ⟨_, rfl, (by show (_ : Nat) ≤ _; simp), gv_nil ⟨rfl, ?_⟩⟩)))))))))) )) 
  refine (pick_gives [.int 1, .int 3, .int 9] (by simp) (by simp)).mono fun r ⟨d, hd, e⟩ => ?_
  subst e
  have hw : ∃ wd : Int, d = .int wd ∧ 1 ≤ wd ∧ wd ≤ 9 := by
    rcases List.mem_cons.mp hd with q | q
    · exact ⟨1, q, by omega, by omega⟩
    · rcases List.mem_cons.mp q with q | q
      · exact ⟨3, q, by omega, by omega⟩
      · rcases List.mem_cons.mp q with q | q
        · exact ⟨9, q, by omega, by omega⟩
        · cases q
  obtain ⟨wd, rfl, w1, w2⟩ := hw
  refine gv_nil ⟨_, _, _, _, _, _, rfl, rfl, rfl, rfl, ?_⟩
  -- the times
  obtain ⟨n, en⟩ : ∃ n : Nat, 1 + m = (n : Int) := ⟨(1 + m).toNat, by omega⟩
  have hn : n ≤ 1000 := by omega
  refine gv_seq (gv_set (draws (n := n) (p := fun t => 1 ≤ t ∧ (t ≤ 2 ∨ t ≤ time)) (by rw [← en]; exact var_eq rfl) hn (fun x => ?_) fun ts htl hts => ?_))
  · refine gv_e2 (gv_c (gv_fn (gv_cons (gv_var rfl (gv_cons (gv_var rfl (gv_nil ⟨rfl, ?_⟩)))))))
    refine (taken_eq top (by omega) (by omega)).mono fun r ⟨i, e, i0, i1⟩ => ?_
    subst e
    exact ⟨_, rfl, _, rfl, by omega, by omega⟩
  refine ⟨_, rfl, ?_⟩
  -- the weights
  refine gv_seq (gv_set (draws (n := n) (p := fun t => 0 ≤ t ∧ t ≤ 9) (by rw [← en]; exact var_eq rfl) hn (fun x => ?_) fun ws hwl hws => ?_))
  · refine gv_fn (gv_cons (gv_var rfl (gv_cons (gv_e2 (gv_var rfl (gv_c ⟨_, rfl, gv_nil ⟨rfl, ?_⟩⟩))))))
    refine (taken_eq (wd + 1) (by omega) (by omega)).mono fun r ⟨i, e, i0, i1⟩ => ?_
    exact ⟨i, e, by omega, by omega⟩
  refine ⟨_, rfl, ?_⟩
  refine gv_seq (gv_set (gv_e2 (gv_call (gv_cons (gv_var rfl (gv_nil ⟨_, gSum_eq ts, gv_c ⟨_, rfl, _, rfl, ?_⟩⟩))))))
  have hb : ts.sum ≤ 1000 * (ts.length : Int) := sum_le 1000 ts fun t ht => by have := hts t ht; omega
  have hb0 : 0 ≤ ts.sum := sum_nn ts fun t ht => by have := hts t ht; omega
  refine gv_seq (gv_set (draws (n := n) (p := fun t => 0 ≤ t ∧ t < ts.sum + 2) (by rw [← en]; exact var_eq rfl) hn (fun x => ?_) fun dd hdl hdd => ?_))
  · refine gv_fn (gv_cons (gv_var rfl (gv_cons (gv_var rfl (gv_nil ⟨rfl, ?_⟩)))))
    refine (taken_eq (ts.sum + 2) (by omega) (by omega)).mono fun r ⟨i, e, i0, i1⟩ => ?_
    exact ⟨i, e, i0, i1⟩
  refine ⟨_, rfl, ?_⟩
  refine gv_rt (gv_tup (gv_cons (gv_var rfl (gv_cons (gv_var rfl (gv_cons (gv_var rfl (gv_nil ⟨_, rfl, (by simp), _, rfl, ts, ws, dd, rfl, ?_⟩))))))))
  exact ⟨by omega, by omega, by omega, by omega, hts, hws, hdd⟩
end DVL

namespace DVL
open PySem L2 DV
theorem is_integer_i (i : Int) : m_is_integer [.d (.int i)] = ret (.d (.bool true)) := rfl
theorem is_in_ok {i a b : Int} (h1 : a ≤ i) (h2 : i ≤ b) : m_is_in [.d (.int i), .d (.int a), .d (.int b)] = ret (.d (.bool true)) := by
  simp [m_is_in, runDef, g_is_in, sRet, eIfB, eFn, aCons, aNil, eVar, bnd_bnd, bnd_ret, lft_s, startE, toK, vget, readable, is_integer_i, asBool, eCh, gLe, gI, asInt, h1, h2, toRet]
theorem is_list_ok {ds : List D} {a b : Int} (h1 : a ≤ ds.length) (h2 : (ds.length : Int) ≤ b) : m_is_list [.d (.tuple ds), .d (.int a), .d (.int b)] = ret (.d (.bool true)) := by
  simp [m_is_list, runDef, g_is_list, sRet, eIfB, eCall, aCons, aNil, eVar, eIsT, viewD, isT, bnd_bnd, bnd_ret, lft_s, startE, toK, vget, readable, asBool, eCh, gLe, gI, asInt, gLen, DV.c1, items, h1, h2, toRet]
theorem first_bad_ok (ns : List Int) (lo hi : Int) (hn : ns.length ≤ 1000) (h : ∀ t ∈ ns, lo ≤ t ∧ t ≤ hi) : DV.Gives (m_first_bad [.d (ti ns), .d (.int (ns.length : Nat)), .d (.int lo), .d (.int hi)]) fun r => r = .d (.int (-1)) := by
  refine gv_run (gv_seq (gv_if (gv_not (gv_T (gv_fn (gv_cons (gv_var rfl (gv_cons (gv_var rfl (gv_cons (gv_var rfl (gv_nil ⟨rfl, ?_⟩))))))))))))
  refine gv_eq (is_list_ok (by rw [List.length_map]; omega) (by rw [List.length_map]; omega)) ⟨true, rfl, (fun q => nomatch q), fun _ => gv_nop ?_⟩
  refine gv_seq (gv_for (its := enumD 0 (ns.map PyData.int)) (lk := none) rfl ?_)
  refine DV.Gives.loop _ (fun xs ρ => ∃ (k : Nat) (ms : List Int) (y z : Option SV), xs = enumD k (ms.map PyData.int) ∧ (∀ t ∈ ms, lo ≤ t ∧ t ≤ hi) ∧ ρ = [some (.d (ti ns)), some (.d (.int (ns.length : Nat))), some (.d (.int lo)), some (.d (.int hi)), y, z]) _ ⟨0, ns, none, none, rfl, h, rfl⟩ ?_ ?_
  · rintro x xs ρ ⟨k, ms, y, z, e, hm, rfl⟩
    cases ms with
    | nil => cases e
    | cons t ms =>
      cases e
      refine ⟨_, rfl, gv_if (gv_not (gv_T (gv_fn (gv_cons (gv_var rfl (gv_cons (gv_var rfl (gv_cons (gv_var rfl (gv_nil ⟨rfl, ?_⟩))))))))))⟩
      have ht := hm t List.mem_cons_self
      refine gv_eq (is_in_ok ht.1 ht.2) ⟨true, rfl, (fun q => nomatch q), fun _ => gv_nop ?_⟩
      exact ⟨k + 1, ms, _, _, rfl, fun u hu => hm u (List.mem_cons_of_mem _ hu), rfl⟩
  · rintro ρ ⟨k, ms, y, z, e, hm, rfl⟩
    exact gv_rt (gv_neg (gv_c ⟨1, rfl, _, rfl, rfl⟩))
theorem need_times_ok (ns : List Int) (h1 : 1 ≤ ns.length) (h2 : ns.length ≤ 10) (h : ∀ t ∈ ns, 1 ≤ t ∧ t ≤ 60) : DV.Gives (m_need_times [.d (ti ns)]) fun r => r = .d .none := by
  refine gv_run (gv_seq (gv_if (gv_not (gv_T (gv_fn (gv_cons (gv_var rfl (gv_cons (gv_c (gv_cons (gv_c (gv_nil ⟨rfl, ?_⟩))))))))))))
  refine gv_eq (is_list_ok (by rw [List.length_map]; omega) (by rw [List.length_map]; omega)) ⟨true, rfl, (fun q => nomatch q), fun _ => gv_nop ?_⟩
  refine gv_seq (gv_set (gv_fn (gv_cons (gv_var rfl (gv_cons (gv_call (gv_cons (gv_var rfl (gv_nil ⟨_, rfl, ?_⟩)))))))))
  refine gv_cons (gv_c (gv_cons (gv_c (gv_nil ⟨rfl, ?_⟩))))
  have fb := first_bad_ok ns 1 60 (by omega) h
  have hl : (ns.map PyData.int).length = ns.length := List.length_map ..
  rw [← hl] at fb
  refine fb.mono fun r e => ?_
  subst e
  refine ⟨_, rfl, gv_if (gv_T (gv_e2 (gv_var rfl (gv_neg (gv_c ⟨1, rfl, _, rfl, false, rfl, (fun q => nomatch q), fun _ => gv_nop rfl⟩)))))⟩
theorem all_true : ∀ n : Nat, (List.replicate n true).all id = true
  | 0 => rfl
  | n + 1 => all_true n
theorem bools_true {α : Type} : ∀ xs : List α, boolsOf (xs.map fun _ => PyData.bool true) = some (List.replicate xs.length true)
  | [] => rfl
  | x :: xs => by
    show (match boolsOf (xs.map fun _ => PyData.bool true) with | some js => some (true :: js) | none => none) = _
    rw [bools_true xs]
    rfl
theorem order_len {p : List Int} {n : Nat} (h : p.Perm (rngI 0 n)) : p.length = n := by rw [h.length_eq, rngI_len]
theorem order_mem {p : List Int} {n : Nat} (h : p.Perm (rngI 0 n)) {k : Int} (hk : k ∈ p) : 0 ≤ k ∧ k < n := by
  have := (mem_rngI k 0 n).mp (h.mem_iff.mp hk)
  omega
theorem order_nodup {p : List Int} {n : Nat} (h : p.Perm (rngI 0 n)) : p.Nodup := h.nodup_iff.mpr (rngI_nodup 0 n)
theorem is_order_ok (p : List Int) (n : Nat) (hn : n ≤ 1000) (h : p.Perm (rngI 0 n)) : DV.Gives (m_is_order [.d (ti p), .d (.int (n : Nat))]) fun r => r = .d (.bool true) := by
  have hl := order_len h
  refine gv_run (gv_rt (gv_ifB (gv_fn (gv_cons (gv_var rfl (gv_cons (gv_var rfl (gv_cons (gv_var rfl (gv_nil ⟨rfl, ?_⟩))))))))))
  refine gv_eq (is_list_ok (by rw [List.length_map]; omega) (by rw [List.length_map]; omega)) ⟨true, rfl, fun _ => ?_, (fun q => nomatch q)⟩
  refine gv_ifB (gv_call (gv_cons (gv_lc (its := p.map PyData.int) (lk := none) rfl (by rw [List.length_map]; omega) ?_)))
  rw [lc_eq (fun _ => true) (fun _ => .bool true)]
  · refine DV.Gives.ret (gv_nil ⟨.d (.bool true), ?_, true, rfl, fun _ => ?_, (fun q => nomatch q)⟩)
    · rw [List.filter_eq_self.mpr (fun _ _ => rfl), List.map_map]
      show (boolsOf (p.map fun _ => PyData.bool true)).map _ = _
      rw [bools_true]
      show some (RV.d (.bool ((List.replicate p.length true).all id))) = _
      rw [all_true]
    · refine gv_e2 (f := eLenSet (eVar 0)) (gv_eq (a := .d (.int (n : Nat))) ?_ (gv_var rfl ⟨_, rfl, _, rfl, ?_⟩))
      · show bnd (lft (lenSetOf (.d (ti p)))) _ = _
        have : lenSetOf (.d (ti p)) = some (.int (n : Nat)) := by
          show (match intsOf (p.map PyData.int) with | some js => if js.length ≤ 1000 then some (PyData.int ((ddI js).length : Nat)) else none | none => none) = _
          rw [intsOf_map]
          show (if p.length ≤ 1000 then _ else _) = _
          rw [if_pos (by omega), ddI_of_nodup p (order_nodup h), hl]
        rw [this]
        rfl
      · show RV.d (.bool (PyData.eqv (.int (n : Int)) (.int (n : Int)))) = _
        rw [eqv_int]
        simp
  · intro x hx
    obtain ⟨k, hk, rfl⟩ := List.mem_map.mp hx
    have := order_mem h hk
    refine ⟨_, rfl, rfl, fun _ => ⟨.d (.bool true), ?_, rfl⟩⟩
    show m_is_in [.d (.int k), .d (.int 0), .d (.int ((n : Int) - 1))] = _
    exact is_in_ok (by omega) (by omega)
theorem need_order_ok (p : List Int) (n : Nat) (hn : n ≤ 1000) (h : p.Perm (rngI 0 n)) : DV.Gives (m_need_order [.d (ti p), .d (.int (n : Nat))]) fun r => r = .d .none := by
  refine gv_run (gv_if (gv_not (gv_T (gv_fn (gv_cons (gv_var rfl (gv_cons (gv_var rfl (gv_nil ⟨rfl, ?_⟩)))))))))
  refine (is_order_ok p n hn h).mono fun r e => ?_
  subst e
  exact ⟨true, rfl, (fun q => nomatch q), fun _ => gv_nop rfl⟩
end DVL

namespace DVL
open PySem L2 DV
def ext (n : Nat) (ps : List (List Int)) : List (List Int) := ps.flatMap fun p => ((rngI 0 n).filter fun j => !p.elem j).map fun j => p ++ [j]
theorem nodup_perm : ∀ {p q : List Int}, p.Nodup → (∀ x ∈ p, x ∈ q) → q.length ≤ p.length → p.Perm q
  | [], q, _, _, hl => by
    have : q = [] := List.eq_nil_of_length_eq_zero (Nat.le_zero.mp hl)
    rw [this]
  | x :: p, q, nd, hs, hl => by
    obtain ⟨h1, h2⟩ := List.nodup_cons.mp nd
    have hx := hs x List.mem_cons_self
    have e := List.perm_cons_erase hx
    refine ((nodup_perm h2 (fun y hy => ?_) ?_).cons x).trans e.symm
    · have hy2 := hs y (List.mem_cons_of_mem _ hy)
      rcases List.mem_cons.mp (e.mem_iff.mp hy2) with z | z
      · exact absurd (z ▸ hy) h1
      · exact z
    · have := e.length_eq
      rw [List.length_cons] at this hl
      omega
theorem canLay_ints : ∀ js : List Int, PyData.canLayAll0 (js.map PyData.int) = true
  | [] => by simp [PyData.canLayAll0]
  | j :: js => by
    rw [List.map_cons, PyData.canLayAll0, canLay_ints js]
    simp [PyData.canLay0]
theorem depth_ints : ∀ js : List Int, PyData.depthAll (js.map PyData.int) = 0
  | [] => by simp [PyData.depthAll]
  | j :: js => by
    rw [List.map_cons, PyData.depthAll, depth_ints js]
    simp [PyData.depth]
theorem shaped_ints (js : List Int) : SeqAt.shaped (.list (js.map PyData.int)) = true := by
  unfold SeqAt.shaped
  rw [PyData.canLay0, canLay_ints, PyData.depth, depth_ints]
  rfl
theorem shaped_intsT (js : List Int) : SeqAt.shaped (ti js) = true := by
  unfold SeqAt.shaped ti
  rw [PyData.canLay0, canLay_ints, PyData.depth, depth_ints]
  rfl
theorem shaped_int (j : Int) : SeqAt.shaped (.int j) = true := by
  unfold SeqAt.shaped
  rw [PyData.canLay0, PyData.depth]
  rfl
theorem any_eqv (j : Int) : ∀ p : List Int, ((p.map PyData.int).any fun z => PyData.eqv z (.int j)) = p.elem j
  | [] => rfl
  | x :: p => by
    rw [List.map_cons, List.any_cons, any_eqv j p, eqv_int]
    by_cases h : x = j
    · subst h; simp
    · have h2 : ¬ j = x := fun e => h e.symm
      simp [h, h2]
theorem notIn_eq (j : Int) (p : List Int) : gNotIn (.d (.int j)) (.d (ti p)) = some (.d (.bool (!p.elem j))) := by
  show (if SeqAt.shaped (.int j) = true then if SeqAt.shaped (.list (p.map PyData.int)) = true then some (RV.d (.bool (!((p.map PyData.int).any fun z => PyData.eqv z (.int j))))) else none else none) = _
  rw [if_pos (shaped_int j), if_pos (shaped_ints p), any_eqv]
theorem eqv_intsA : ∀ xs ys : List Int, PyData.eqvAll (xs.map PyData.int) (ys.map PyData.int) = decide (xs = ys)
  | [], [] => by simp [PyData.eqvAll]
  | [], y :: ys => by simp [PyData.eqvAll]
  | x :: xs, [] => by simp [PyData.eqvAll]
  | x :: xs, y :: ys => by
    rw [List.map_cons, List.map_cons, PyData.eqvAll, eqv_intsA xs ys, eqv_int]
    by_cases h : x = y <;> by_cases h2 : xs = ys <;> simp [h, h2]
theorem eq_lists (neg : Bool) (xs ys : List Int) : gEqB neg (.n (xs.map PyData.int)) (.n (ys.map PyData.int)) = some (.d (.bool (if neg then !decide (xs = ys) else decide (xs = ys)))) := by
  show (if SeqAt.shaped (.list (xs.map PyData.int)) = true then if SeqAt.shaped (.list (ys.map PyData.int)) = true then some (RV.d (.bool (if neg then !PyData.eqv (.list (xs.map PyData.int)) (.list (ys.map PyData.int)) else PyData.eqv (.list (xs.map PyData.int)) (.list (ys.map PyData.int))))) else none else none) = _
  rw [if_pos (shaped_ints _), if_pos (shaped_ints _), PyData.eqv, eqv_intsA]
theorem eq_ints (neg : Bool) (x y : Int) : gEqB neg (.d (.int x)) (.d (.int y)) = some (.d (.bool (if neg then !decide (x = y) else decide (x = y)))) := by
  show (if SeqAt.shaped (.int x) = true then if SeqAt.shaped (.int y) = true then some (RV.d (.bool (if neg then !PyData.eqv (.int x) (.int y) else PyData.eqv (.int x) (.int y)))) else none else none) = _
  rw [if_pos (shaped_int _), if_pos (shaped_int _), eqv_int]
end DVL

namespace DVL
open PySem L2 DV
def val (ts : List Int) (j : Int) : Int := ts.getD j.toNat 0
theorem ix_map {ts : List Int} {j : Int} (h0 : 0 ≤ j) (h1 : j < ts.length) : atI (ts.map PyData.int) j = some (.int (val ts j)) := by
  have hl : j.toNat < ts.length := by omega
  have e : (ts.map PyData.int)[j.toNat]? = some (.int (val ts j)) := by
    rw [List.getElem?_map, List.getElem?_eq_getElem hl]
    unfold val
    rw [List.getD_eq_getElem?_getD, List.getElem?_eq_getElem hl]
    rfl
  have := atI_nat e
  rwa [Int.toNat_of_nonneg h0] at this
theorem gIx_ti {ts : List Int} {j : Int} (h0 : 0 ≤ j) (h1 : j < ts.length) : gIx (.d (ti ts)) (.d (.int j)) = some (.d (.int (val ts j))) := by
  show (atI (ts.map PyData.int) j).map RV.d = _
  rw [ix_map h0 h1]
  rfl
theorem gIx_b {ts : List Int} {j : Int} (h0 : 0 ≤ j) (h1 : j < ts.length) : gIx (.b (ts.map PyData.int)) (.d (.int j)) = some (.d (.int (val ts j))) := by
  show (atI (ts.map PyData.int) j).map RV.d = _
  rw [ix_map h0 h1]
  rfl
theorem val_mem {ts : List Int} {j : Int} (h0 : 0 ≤ j) (h1 : j < ts.length) : val ts j ∈ ts := by
  have hl : j.toNat < ts.length := by omega
  unfold val
  rw [List.getD_eq_getElem?_getD, List.getElem?_eq_getElem hl]
  exact List.getElem_mem hl
end DVL

namespace DVL
open PySem L2 DV
def fitI : List (Int × Int) → Int → Int → Int
  | [], d, _ => d
  | (b, e) :: r, d, t => if b < d + t ∧ d < e then fitI r e t else fitI r d t
/-- the day behind the order, the sum of ends times weights -/
def fin (ss : List (Int × Int)) (ts : List Int) (d : Int) (p : List Int) : Int := p.foldl (fun d j => fitI ss d (val ts j) + val ts j) d
def tot (ss : List (Int × Int)) (ts ws : List Int) : Int → List Int → Int
  | _, [] => 0
  | d, j :: p => val ws j * (fitI ss d (val ts j) + val ts j) + tot ss ts ws (fitI ss d (val ts j) + val ts j) p
end DVL

namespace DVL
open PySem L2 DV
abbrev pr (p : Int × Int) : D := .tuple [.int p.1, .int p.2]
abbrev sts (ss : List (Int × Int)) : D := .tuple (ss.map pr)
end DVL

namespace DVL
open PySem L2 DV
/-- times as they are drawn -/
structure Tm (ts : List Int) : Prop where
  pos : 1 ≤ ts.length
  len : ts.length ≤ 10
  tim : ∀ t ∈ ts, 1 ≤ t ∧ t ≤ 60
theorem Tm.t {ts : List Int} (W : Tm ts) {j : Int} (h0 : 0 ≤ j) (h1 : j < ts.length) : 1 ≤ val ts j ∧ val ts j ≤ 60 := W.tim _ (val_mem h0 h1)
theorem ixN_nat {n : Nat} {j : Int} (h0 : 0 ≤ j) (h1 : j < n) : ixN n j = some j.toNat := by
  unfold ixN
  rw [if_pos h0, if_pos h1]
theorem gv_put {i : Nat} {f g : DV.Env → M RV} {ρ : DV.Env} {Q : Out → Prop} {ds : List D} (e1 : sApp.own? ρ i = some ds) (p : DV.Gives (f ρ) fun x => DV.Gives (g ρ) fun y => ∃ j d m, asInt y = some j ∧ toD x = some d ∧ ixN ds.length j = some m ∧ Q (.nx (ρ.set i (some (.o (ds.set m d)))))) : DV.Gives (sPut i f g ρ) Q := by
  unfold sPut
  refine DV.Gives.bnd p fun x q => ?_
  rw [e1, lft_s, bnd_ret]
  refine DV.Gives.bnd q fun y ⟨j, d, m, a1, a2, a3, q⟩ => ?_
  rw [a1, lft_s, bnd_ret, a2, lft_s, bnd_ret, a3, lft_s, bnd_ret]
  exact DV.Gives.ret q
theorem atI_pr (ss : List (Int × Int)) {k : Nat} (hk : k < ss.length) : atI (ss.map pr) (k : Int) = some (pr ss[k]) := by
  refine atI_nat ?_
  rw [List.getElem?_map, List.getElem?_eq_getElem hk]
  rfl
end DVL



namespace DVL
open PySem L2 DV
theorem gv_lcG {t : DV.Env → M Bool} {h : DV.Env → M RV} {ρ : DV.Env} {P : RV → Prop} {fi : DV.Env → M (List D × Option Nat)} {vs : List Nat} {tg : D → DV.Env → Option DV.Env} (p : DV.Gives (fi ρ) fun q => q.1.length ≤ 100000 ∧ DV.Gives (lcF tg t h (wipeE ρ vs) q.1) fun ds => P (.n ds)) : DV.Gives (eLc fi vs tg t h ρ) P := by
  unfold eLc
  refine DV.Gives.bnd p fun q ⟨hl, g⟩ => DV.Gives.bnd g fun ds hp => ?_
  show DV.Gives (if q.1.length ≤ 100000 then DV.ret (RV.n ds) else DV.fail) P
  rw [if_pos hl]
  exact DV.Gives.ret hp
theorem gv_srcE {f : DV.Env → M RV} {ρ : DV.Env} {P : List D × Option Nat → Prop} (p : DV.Gives (f ρ) fun x => ∃ ds, srcOf x = some ds ∧ P (ds, none)) : DV.Gives (srcE f ρ) P :=
  DV.Gives.bnd p fun x ⟨ds, e, q⟩ => by rw [e, lft_s, bnd_ret]; exact DV.Gives.ret q
theorem gv_forG {fi : DV.Env → M (List D × Option Nat)} {tg : D → DV.Env → Option DV.Env} {g : DV.Env → M Out} {ρ : DV.Env} {Q : Out → Prop} (p : DV.Gives (fi ρ) fun q => DV.Gives (loopF tg g q.1 (lockE ρ q.2)) fun o => Q (unlockO ρ q.2 o)) : DV.Gives (sFor fi tg g ρ) Q := by
  unfold sFor
  exact DV.Gives.bnd p fun q h => DV.Gives.bnd h fun o r => DV.Gives.ret r
end DVL


namespace DVL
open PySem L2 DV
/-- a walk over a range: the next one -/
theorem rng_step {j : Int} {rest : List Int} {u n : Nat} (h : j :: rest = rngI (u : Int) (n - u)) : j = (u : Int) ∧ u < n ∧ rest = rngI ((u + 1 : Nat) : Int) (n - (u + 1)) := by
  obtain ⟨w, hw⟩ : ∃ w, n - u = w + 1 := by
    cases e : n - u with
    | zero => rw [e] at h; cases h
    | succ w => exact ⟨w, rfl⟩
  rw [hw] at h
  obtain ⟨e1, e2⟩ := List.cons.inj (show j :: rest = (u : Int) :: rngI ((u : Int) + 1) w from h)
  exact ⟨e1, by omega, by rw [e2, show n - (u + 1) = w by omega]; rfl⟩
theorem rng_end {u n : Nat} (h : [] = rngI (u : Int) (n - u)) (hu : u ≤ n) : u = n := by
  have := congrArg List.length h
  rw [rngI_len] at this
  have h0 : 0 = n - u := this
  omega
theorem val_get {L : List Int} {i : Nat} (h : i < L.length) : val L (i : Int) = L[i] := by
  unfold val
  rw [List.getD_eq_getElem?_getD, Int.toNat_natCast, List.getElem?_eq_getElem h]
  rfl
end DVL

namespace DV
open PySem L2
def KSeq (g2 : Env → M Out) (Q : Out → Prop) : Out → Prop := fun o => match o with
  | .nx ρ' => Gives (g2 ρ') Q
  | o => Q o
def KRun (P : RV → Prop) : Out → Prop := fun o => match o with
  | .nx _ => P (.d .none)
  | .rt r => P r
  | _ => False
def KLoop (J : Env → Prop) (Q : Out → Prop) : Out → Prop := fun o => match o with
  | .nx ρ2 => J ρ2
  | .ct ρ2 => J ρ2
  | .bk ρ2 => Q (.nx ρ2)
  | .rt r => Q (.rt r)
def KTg (o : Option Env) (C : Env → Prop) : Prop := ∃ ρ1, o = some ρ1 ∧ C ρ1
def KSet (i : Nat) (ρ : Env) (Q : Out → Prop) (x : RV) : Prop := ∃ sv, toS x = some sv ∧ Q (.nx (ρ.set i (some sv)))
def KPar (i j : Nat) (ρ : Env) (Q : Out → Prop) (xs : List RV) : Prop := ∃ x y sx sy, xs = [x, y] ∧ toS x = some sx ∧ toS y = some sy ∧ Q (.nx ((ρ.set i (some sx)).set j (some sy)))
def KPar3 (i j l : Nat) (ρ : Env) (Q : Out → Prop) (xs : List RV) : Prop := ∃ x y z sx sy sz, xs = [x, y, z] ∧ toS x = some sx ∧ toS y = some sy ∧ toS z = some sz ∧ Q (.nx (((ρ.set i (some sx)).set j (some sy)).set l (some sz)))
def KPar4 (i j l m : Nat) (ρ : Env) (Q : Out → Prop) (xs : List RV) : Prop := ∃ x y z w sx sy sz sw, xs = [x, y, z, w] ∧ toS x = some sx ∧ toS y = some sy ∧ toS z = some sz ∧ toS w = some sw ∧ Q (.nx ((((ρ.set i (some sx)).set j (some sy)).set l (some sz)).set m (some sw)))
def KRet (Q : Out → Prop) (x : RV) : Prop := ∃ y, toRet x = some y ∧ Q (.rt y)
def KTup (hh : D → Env → Option Env) (ρ : Env) (Q : Out → Prop) (x : RV) : Prop := ∃ d ρ', x = .d d ∧ hh d ρ = some ρ' ∧ Q (.nx ρ')
def KD (C : D → Prop) (x : RV) : Prop := ∃ d, toD x = some d ∧ C d
def KI (C : Int → Prop) (x : RV) : Prop := ∃ d, asInt x = some d ∧ C d
def K2 (gg : RV → RV → Option RV) (P : RV → Prop) (x y : RV) : Prop := ∃ z, gg x y = some z ∧ P z
def KC (gg : List RV → Option RV) (P : RV → Prop) (xs : List RV) : Prop := ∃ z, gg xs = some z ∧ P z
def KF (n : Nat) (m : List RV → M RV) (P : RV → Prop) (xs : List RV) : Prop := xs.length = n ∧ Gives (m (xs.map readable)) P
def KB (PB : Bool → Prop) (x : RV) : Prop := ∃ b, asBool x = some b ∧ PB b
def KIf (A B : Prop) (b : Bool) : Prop := (b = true → A) ∧ (b = false → B)
def KTu (P : RV → Prop) (xs : List RV) : Prop := ∃ ds, toDs xs = some ds ∧ ds.length ≤ 100000 ∧ P (.d (.tuple ds))
def KLs (P : RV → Prop) (xs : List RV) : Prop := ∃ ds, toDs xs = some ds ∧ ds.length ≤ 100000 ∧ P (.n ds)
def KLc (vs : List Nat) (tg : D → Env → Option Env) (t : Env → M Bool) (el : Env → M RV) (ρ : Env) (P : RV → Prop) (q : List D × Option Nat) : Prop := q.1.length ≤ 100000 ∧ Gives (lcF tg t el (wipeE ρ vs) q.1) fun ds => P (.n ds)
def KFor (tg : D → Env → Option Env) (g : Env → M Out) (ρ : Env) (Q : Out → Prop) (q : List D × Option Nat) : Prop := Gives (loopF tg g q.1 (lockE ρ q.2)) fun o => Q (unlockO ρ q.2 o)
def KSrc (C : List D × Option Nat → Prop) (x : RV) : Prop := ∃ ds, srcOf x = some ds ∧ C (ds, none)
def KRng (C : List D × Option Nat → Prop) (x : RV) : Prop := ∃ n, asInt x = some n ∧ n ≤ 100000 ∧ -100000 ≤ n ∧ C ((rngD 0 n.toNat), none)
def KRng2 (C : List D × Option Nat → Prop) (x y : RV) : Prop := ∃ a b, asInt x = some a ∧ asInt y = some b ∧ (a ≤ 100000 ∧ -100000 ≤ a ∧ b ≤ 100000 ∧ -100000 ≤ b) ∧ C ((DVL.rngI a (b - a).toNat).map PyData.int, none)
section
variable {α β : Type} {ρ ρ' : Env} {P : RV → Prop} {Q : Out → Prop} {PA : List RV → Prop} {PB : Bool → Prop} {f h k : Env → M RV} {fa : Env → M (List RV)} {g g2 : Env → M Out} {t t2 : Env → M Bool} {x y : RV} {A B : Prop} {C : List D × Option Nat → Prop} {tg : D → Env → Option Env}
theorem w_is {m : M α} {a : α} {P : α → Prop} (p : Gives m fun r => r = a) (q : P a) : Gives m P := p.mono fun r e => by subst e; exact q
theorem w_use {m : M α} {P0 P : α → Prop} (p : Gives m P0) (q : ∀ r, P0 r → P r) : Gives m P := p.mono q
theorem w_seq (p : Gives (g ρ) (KSeq g2 Q)) : Gives (sSeq g g2 ρ) Q := gv_seq p
theorem w_seqN (p : Gives (g2 ρ') Q) : KSeq g2 Q (.nx ρ') := p
theorem w_seqR (p : Q (.rt x)) : KSeq g2 Q (.rt x) := p
theorem w_seqB (p : Q (.bk ρ)) : KSeq g2 Q (.bk ρ) := p
theorem w_seqC (p : Q (.ct ρ)) : KSeq g2 Q (.ct ρ) := p
theorem w_loopN {J : Env → Prop} (p : J ρ) : KLoop J Q (.nx ρ) := p
theorem w_loopC {J : Env → Prop} (p : J ρ) : KLoop J Q (.ct ρ) := p
theorem w_loopB {J : Env → Prop} (p : Q (.nx ρ)) : KLoop J Q (.bk ρ) := p
theorem w_loopR {J : Env → Prop} (p : Q (.rt x)) : KLoop J Q (.rt x) := p
theorem w_runN (p : P (.d .none)) : KRun P (.nx ρ) := p
theorem w_runR (p : P x) : KRun P (.rt x) := p
theorem w_tg {o : Option Env} {C : Env → Prop} (e : o = some ρ) (p : C ρ) : KTg o C := ⟨ρ, e, p⟩
theorem w_nop (p : Q (.nx ρ)) : Gives (sNil ρ) Q := Gives.ret p
theorem w_set {i : Nat} (p : Gives (f ρ) (KSet i ρ Q)) : Gives (sSet i f ρ) Q := gv_set p
theorem w_setX {i : Nat} {sv : SV} (e1 : toS x = some sv) (e : ρ.set i (some sv) = ρ') (p : Q (.nx ρ')) : KSet i ρ Q x := ⟨sv, e1, by rw [e]; exact p⟩
theorem w_rt (p : Gives (f ρ) (KRet Q)) : Gives (sRet f ρ) Q := gv_rt p
theorem w_rtD {d : D} (p : Q (.rt (.d d))) : KRet Q (.d d) := ⟨_, rfl, p⟩
theorem w_rtN {d : List D} (p : Q (.rt (.n d))) : KRet Q (.n d) := ⟨_, rfl, p⟩
theorem w_rtV {i : Nat} (e : vown ρ i = some x) (p : Q (.rt x)) : Gives (sRetV i ρ) Q := gv_rtV e p
theorem w_if (p : Gives (t ρ) fun b => KIf (Gives (g ρ) Q) (Gives (g2 ρ) Q) b) : Gives (sIf t g g2 ρ) Q := gv_if p
theorem w_drop (p : Gives (f ρ) fun _ => Q (.nx ρ)) : Gives (sDrop f ρ) Q := gv_drop p
theorem w_stup {hh : D → Env → Option Env} (p : Gives (f ρ) (KTup hh ρ Q)) : Gives (sTup f hh ρ) Q := gv_stup p
theorem w_stupD {hh : D → Env → Option Env} {d : D} (e : hh d ρ = some ρ') (p : Q (.nx ρ')) : KTup hh ρ Q (.d d) := ⟨d, ρ', rfl, e, p⟩
theorem w_aug {i : Nat} {kf : Int → Int → Int} {a : Int} (e1 : vget ρ i = some (.d (.int a))) (p : Gives (f ρ) (KI fun b => KSet i ρ Q (.d (.int (kf a b))))) : Gives (sAug i kf f ρ) Q :=
  gv_aug e1 rfl (p.mono fun x ⟨b, e, sv, e2, q⟩ => ⟨b, e, by cases e2; exact q⟩)
theorem w_I {C : Int → Prop} {i : Int} (p : C i) : KI C (.d (.int i)) := ⟨i, rfl, p⟩
theorem w_app {i : Nat} {ds : List D} (e1 : sApp.own? ρ i = some ds) (hl : ds.length < 100000) (p : Gives (f ρ) (KD fun d => KSet i ρ Q (.n (ds ++ [d])))) : Gives (sApp i f ρ) Q :=
  gv_app e1 hl (p.mono fun x ⟨d, e, sv, e2, q⟩ => ⟨d, e, by cases e2; exact q⟩)
theorem w_D {C : D → Prop} {d : D} (p : C d) : KD C (.d d) := ⟨d, rfl, p⟩
theorem w_for {fi : Env → M (List D × Option Nat)} (p : Gives (fi ρ) (KFor tg g ρ Q)) : Gives (sFor fi tg g ρ) Q := DVL.gv_forG p
/-- several names at once -/
theorem w_par {i j : Nat} (p : Gives (fa ρ) (KPar i j ρ Q)) : Gives (sPar i j fa ρ) Q := gv_par p
theorem w_parX {i j : Nat} {sx sy : SV} (e1 : toS x = some sx) (e2 : toS y = some sy) (e : (ρ.set i (some sx)).set j (some sy) = ρ') (q : Q (.nx ρ')) : KPar i j ρ Q [x, y] := ⟨x, y, sx, sy, rfl, e1, e2, by rw [e]; exact q⟩
theorem w_par3 {i j l : Nat} (p : Gives (fa ρ) (KPar3 i j l ρ Q)) : Gives (sPar3 i j l fa ρ) Q := gv_par3 p
theorem w_par3X {i j l : Nat} {z : RV} {sx sy sz : SV} (e1 : toS x = some sx) (e2 : toS y = some sy) (e3 : toS z = some sz) (e : ((ρ.set i (some sx)).set j (some sy)).set l (some sz) = ρ') (q : Q (.nx ρ')) : KPar3 i j l ρ Q [x, y, z] := ⟨x, y, z, sx, sy, sz, rfl, e1, e2, e3, by rw [e]; exact q⟩
theorem w_par4 {i j l m : Nat} (p : Gives (fa ρ) (KPar4 i j l m ρ Q)) : Gives (sPar4 i j l m fa ρ) Q :=
  Gives.bnd p fun xs ⟨x, y, z, w, sx, sy, sz, sw, e, e1, e2, e3, e4, q⟩ => by
    subst e
    show Gives (bnd (lft (toS x)) fun sx => bnd (lft (toS y)) fun sy => bnd (lft (toS z)) fun sz => bnd (lft (toS w)) fun sw => ret (.nx ((((ρ.set i (some sx)).set j (some sy)).set l (some sz)).set m (some sw)))) Q
    rw [e1, lft_s, bnd_ret, e2, lft_s, bnd_ret, e3, lft_s, bnd_ret, e4, lft_s, bnd_ret]
    exact Gives.ret q
theorem w_par4X {i j l m : Nat} {z w : RV} {sx sy sz sw : SV} (e1 : toS x = some sx) (e2 : toS y = some sy) (e3 : toS z = some sz) (e4 : toS w = some sw) (e : (((ρ.set i (some sx)).set j (some sy)).set l (some sz)).set m (some sw) = ρ') (q : Q (.nx ρ')) : KPar4 i j l m ρ Q [x, y, z, w] := ⟨x, y, z, w, sx, sy, sz, sw, rfl, e1, e2, e3, e4, by rw [e]; exact q⟩
theorem w_var {i : Nat} (e : vget ρ i = some x) (p : P x) : Gives (eVar i ρ) P := gv_var e p
theorem w_c {d : D} (p : P (.d d)) : Gives (eC d ρ) P := Gives.ret p
theorem w_e2 {gg : RV → RV → Option RV} (p : Gives (f ρ) fun x => Gives (h ρ) fun y => K2 gg P x y) : Gives (e2 gg f h ρ) P := gv_e2 p
theorem w_nil (p : PA []) : Gives (aNil ρ) PA := Gives.ret p
theorem w_cons (p : Gives (f ρ) fun x => Gives (fa ρ) fun xs => PA (x :: xs)) : Gives (aCons f fa ρ) PA := gv_cons p
theorem w_call {gg : List RV → Option RV} (p : Gives (fa ρ) (KC gg P)) : Gives (eCall gg fa ρ) P := gv_call p
theorem w_fn {m : List RV → M RV} {n : Nat} (p : Gives (fa ρ) (KF n m P)) : Gives (eFn (fun xs => if xs.length = n then m xs else fail) fa ρ) P := gv_fn p
theorem w_f1 {m : List RV → M RV} {x1 : RV} (p : Gives (m [readable x1]) P) : KF 1 m P [x1] := ⟨rfl, p⟩
theorem w_f2 {m : List RV → M RV} {x1 x2 : RV} (p : Gives (m [readable x1, readable x2]) P) : KF 2 m P [x1, x2] := ⟨rfl, p⟩
theorem w_f3 {m : List RV → M RV} {x1 x2 x3 : RV} (p : Gives (m [readable x1, readable x2, readable x3]) P) : KF 3 m P [x1, x2, x3] := ⟨rfl, p⟩
theorem w_f4 {m : List RV → M RV} {x1 x2 x3 x4 : RV} (p : Gives (m [readable x1, readable x2, readable x3, readable x4]) P) : KF 4 m P [x1, x2, x3, x4] := ⟨rfl, p⟩
theorem w_f5 {m : List RV → M RV} {x1 x2 x3 x4 x5 : RV} (p : Gives (m [readable x1, readable x2, readable x3, readable x4, readable x5]) P) : KF 5 m P [x1, x2, x3, x4, x5] := ⟨rfl, p⟩
theorem w_f6 {m : List RV → M RV} {x1 x2 x3 x4 x5 x6 : RV} (p : Gives (m [readable x1, readable x2, readable x3, readable x4, readable x5, readable x6]) P) : KF 6 m P [x1, x2, x3, x4, x5, x6] := ⟨rfl, p⟩
theorem w_tup (p : Gives (fa ρ) (KTu P)) : Gives (eTup fa ρ) P := gv_tup p
theorem w_lst (p : Gives (fa ρ) (KLs P)) : Gives (eLst fa ρ) P := gv_lst p
theorem w_tu {xs : List RV} {ds : List D} (e : toDs xs = some ds) (hl : ds.length ≤ 100000) (p : P (.d (.tuple ds))) : KTu P xs := ⟨ds, e, hl, p⟩
theorem w_ls {xs : List RV} {ds : List D} (e : toDs xs = some ds) (hl : ds.length ≤ 100000) (p : P (.n ds)) : KLs P xs := ⟨ds, e, hl, p⟩
theorem w_neg (p : Gives (f ρ) (KI fun i => P (.d (.int (-i))))) : Gives (eNeg f ρ) P := gv_neg p
theorem w_ifB (p : Gives (f ρ) (KB fun b => KIf (Gives (h ρ) P) (Gives (k ρ) P) b)) : Gives (eIfB f h k ρ) P := gv_ifB p
theorem w_ifE (p : Gives (t ρ) fun b => KIf (Gives (h ρ) P) (Gives (k ρ) P) b) : Gives (eIf t h k ρ) P := gv_ifE p
theorem w_notB (p : Gives (f ρ) (KB fun b => P (.d (.bool (!b))))) : Gives (eNotB f ρ) P := gv_notB p
theorem w_T (p : Gives (f ρ) (KB PB)) : Gives (eT f ρ) PB := gv_T p
theorem w_B {b : Bool} (p : PB b) : KB PB (.d (.bool b)) := ⟨b, rfl, p⟩
theorem w_not (p : Gives (t ρ) fun b => PB (!b)) : Gives (tNotF t ρ) PB := gv_not p
theorem w_and (p : Gives (t ρ) fun b => KIf (Gives (t2 ρ) PB) (PB false) b) : Gives (tIfT t t2 (tRetB false) ρ) PB := gv_and p
theorem w_or (p : Gives (t ρ) fun b => KIf (PB true) (Gives (t2 ρ) PB) b) : Gives (tIfT t (tRetB true) t2 ρ) PB := gv_or p
theorem w_tt (p : PB true) : Gives (tTrue ρ) PB := Gives.ret p
theorem w_ch {gg g' : RV → RV → Option RV} (p : Gives (f ρ) fun x => Gives (h ρ) fun y => K2 gg (KB fun b => KIf (Gives (k ρ) fun w => K2 g' P y w) (P (.d (.bool false))) b) x y) : Gives (eCh gg g' f h k ρ) P :=
  gv_ch (p.mono fun x q => q.mono fun y ⟨z, e, b, e2, q1, q2⟩ => by
    cases z with
    | d z =>
      cases z with
      | bool c => cases e2; exact ⟨_, e, q1, q2⟩
      | _ => cases e2
    | _ => cases e2)
theorem w_ifT (p : A) : KIf A B true := ⟨fun _ => p, fun q => nomatch q⟩
theorem w_ifF (p : B) : KIf A B false := ⟨fun q => (nomatch q), fun _ => p⟩
theorem w_ifNT (p : B) : KIf A B (!true) := w_ifF p
theorem w_ifNF (p : A) : KIf A B (!false) := w_ifT p
theorem w_dec {a : Prop} [Decidable a] (p : a → A) (q : ¬a → B) : KIf A B (decide a) := ⟨fun e => p (of_decide_eq_true e), fun e => q (of_decide_eq_false e)⟩
theorem w_ndec {a : Prop} [Decidable a] (p : ¬a → A) (q : a → B) : KIf A B (!decide a) := ⟨fun e => p (by simpa using e), fun e => q (by simpa using e)⟩
theorem w_decT {a : Prop} [Decidable a] (e : a) (p : A) : KIf A B (decide a) := by rw [decide_eq_true e]; exact w_ifT p
theorem w_decF {a : Prop} [Decidable a] (e : ¬a) (p : B) : KIf A B (decide a) := by rw [decide_eq_false e]; exact w_ifF p
theorem w_add {a b : Int} (p : P (.d (.int (a + b)))) : K2 gAddA P (.d (.int a)) (.d (.int b)) := ⟨_, rfl, p⟩
theorem w_sub {a b : Int} (p : P (.d (.int (a - b)))) : K2 gSubI P (.d (.int a)) (.d (.int b)) := ⟨_, rfl, p⟩
theorem w_mul {a b : Int} (c : (-18446744073709551616 < a ∧ a < 18446744073709551616) ∨ (-18446744073709551616 < b ∧ b < 18446744073709551616)) (p : P (.d (.int (a * b)))) : K2 gMulA P (.d (.int a)) (.d (.int b)) :=
  ⟨_, gMulI_eq (c.elim (fun q => cMul_l q.1 q.2) fun q => cMul_r q.1 q.2), p⟩
theorem w_mod {a b : Int} (c : 0 < b) (p : P (.d (.int (a % b)))) : K2 gMod P (.d (.int a)) (.d (.int b)) := ⟨_, gMod_eq c, p⟩
theorem w_div {a b : Int} (c : 0 < b ∧ b < 1073741824) (p : P (.d (.int (a / b)))) : K2 gFdiv P (.d (.int a)) (.d (.int b)) := ⟨_, gFdiv_eq c.1 c.2, p⟩
theorem w_lt {a b : Int} (p : P (.d (.bool (decide (a < b))))) : K2 gLt P (.d (.int a)) (.d (.int b)) := ⟨_, rfl, p⟩
theorem w_le {a b : Int} (p : P (.d (.bool (decide (a ≤ b))))) : K2 gLe P (.d (.int a)) (.d (.int b)) := ⟨_, rfl, p⟩
theorem w_gt {a b : Int} (p : P (.d (.bool (decide (b < a))))) : K2 gGt P (.d (.int a)) (.d (.int b)) := ⟨_, rfl, p⟩
theorem w_ge {a b : Int} (p : P (.d (.bool (decide (b ≤ a))))) : K2 gGe P (.d (.int a)) (.d (.int b)) := ⟨_, rfl, p⟩
theorem w_ltA {a b : Int} (p : P (.d (.bool (decide (a < b))))) : K2 gLtA P (.d (.int a)) (.d (.int b)) := ⟨_, rfl, p⟩
theorem w_leA {a b : Int} (p : P (.d (.bool (decide (a ≤ b))))) : K2 gLeA P (.d (.int a)) (.d (.int b)) := ⟨_, rfl, p⟩
theorem w_gtA {a b : Int} (p : P (.d (.bool (decide (b < a))))) : K2 gGtA P (.d (.int a)) (.d (.int b)) := ⟨_, rfl, p⟩
theorem w_geA {a b : Int} (p : P (.d (.bool (decide (b ≤ a))))) : K2 gGeA P (.d (.int a)) (.d (.int b)) := ⟨_, rfl, p⟩
theorem w_eq {a b : Int} (p : P (.d (.bool (decide (a = b))))) : K2 gEq P (.d (.int a)) (.d (.int b)) := ⟨_, DVL.eq_ints false a b, p⟩
theorem w_ne {a b : Int} (p : P (.d (.bool (!decide (a = b))))) : K2 gNe P (.d (.int a)) (.d (.int b)) := ⟨_, DVL.eq_ints true a b, p⟩
theorem eq_bls (neg a b : Bool) : gEqB neg (.d (.bool a)) (.d (.bool b)) = some (.d (.bool (if neg then !(decide (a = b)) else decide (a = b)))) := by
  simp [gEqB, viewD, SeqAt.shaped, PyData.canLay0, PyData.depth, PyData.eqv]
  cases neg <;> cases a <;> cases b <;> rfl
theorem w_eqB {a b : Bool} (p : P (.d (.bool (decide (a = b))))) : K2 gEq P (.d (.bool a)) (.d (.bool b)) := ⟨_, eq_bls false a b, p⟩
theorem w_neB {a b : Bool} (p : P (.d (.bool (!decide (a = b))))) : K2 gNe P (.d (.bool a)) (.d (.bool b)) := ⟨_, eq_bls true a b, p⟩
theorem w_eqN {a b : List Int} (p : P (.d (.bool (decide (a = b))))) : K2 gEq P (.n (a.map PyData.int)) (.n (b.map PyData.int)) := ⟨_, DVL.eq_lists false a b, p⟩
theorem w_neN {a b : List Int} (p : P (.d (.bool (!decide (a = b))))) : K2 gNe P (.n (a.map PyData.int)) (.n (b.map PyData.int)) := ⟨_, DVL.eq_lists true a b, p⟩
theorem w_neN0 {a : List Int} (p : P (.d (.bool (!decide (a = []))))) : K2 gNe P (.n (a.map PyData.int)) (.n []) := ⟨_, DVL.eq_lists true a [], p⟩
theorem w_eqN0 {a : List Int} (p : P (.d (.bool (decide (a = []))))) : K2 gEq P (.n (a.map PyData.int)) (.n []) := ⟨_, DVL.eq_lists false a [], p⟩
theorem in_eq (j : Int) (q : List Int) : gIn (.d (.int j)) (.d (ti q)) = some (.d (.bool (q.elem j))) := by
  show (if SeqAt.shaped (.int j) = true then if SeqAt.shaped (.list (q.map PyData.int)) = true then some (RV.d (.bool ((q.map PyData.int).any fun z => PyData.eqv z (.int j)))) else none else none) = _
  rw [if_pos (DVL.shaped_int j), if_pos (DVL.shaped_ints q), DVL.any_eqv]
theorem w_in {j : Int} {q : List Int} (p : P (.d (.bool (q.elem j)))) : K2 gIn P (.d (.int j)) (.d (ti q)) := ⟨_, in_eq j q, p⟩
theorem w_inB {j : Int} {q : List Int} (p : P (.d (.bool (q.elem j)))) : K2 gIn P (.d (.int j)) (.b (q.map PyData.int)) := ⟨_, in_eq j q, p⟩
theorem w_notInB {j : Int} {q : List Int} (p : P (.d (.bool (!q.elem j)))) : K2 gNotIn P (.d (.int j)) (.b (q.map PyData.int)) := ⟨_, DVL.notIn_eq j q, p⟩
theorem w_notIn {j : Int} {q : List Int} (p : P (.d (.bool (!q.elem j)))) : K2 gNotIn P (.d (.int j)) (.d (ti q)) := ⟨_, DVL.notIn_eq j q, p⟩
theorem w_ix {ts : List Int} {j : Int} (c : 0 ≤ j ∧ j < ts.length) (p : P (.d (.int (DVL.val ts j)))) : K2 gIx P (.d (ti ts)) (.d (.int j)) := ⟨_, DVL.gIx_ti c.1 c.2, p⟩
theorem w_ixB {ts : List Int} {j : Int} (c : 0 ≤ j ∧ j < ts.length) (p : P (.d (.int (DVL.val ts j)))) : K2 gIx P (.b (ts.map PyData.int)) (.d (.int j)) := ⟨_, DVL.gIx_b c.1 c.2, p⟩
theorem w_ix0 {d : D} {ds : List D} (p : P (.d d)) : K2 gIx P (.d (.tuple (d :: ds))) (.d (.int 0)) := by
  refine ⟨.d d, ?_, p⟩
  show (atI (d :: ds) ((0 : Nat) : Int)).map RV.d = _
  rw [atI_nat (v := d) rfl]; rfl
theorem w_ix1 {d e : D} {ds : List D} (p : P (.d e)) : K2 gIx P (.d (.tuple (d :: e :: ds))) (.d (.int 1)) := by
  refine ⟨.d e, ?_, p⟩
  show (atI (d :: e :: ds) ((1 : Nat) : Int)).map RV.d = _
  rw [atI_nat (v := e) rfl]; rfl
theorem w_len {ts : List Int} (p : P (.d (.int (ts.length : Nat)))) : KC gLen P [.d (ti ts)] := ⟨.d (.int (ts.length : Nat)), by show some (RV.d (.int (((ts.map PyData.int).length : Nat) : Int))) = _; rw [List.length_map], p⟩
theorem w_lenB {ts : List Int} (p : P (.d (.int (ts.length : Nat)))) : KC gLen P [.b (ts.map PyData.int)] := ⟨.d (.int (ts.length : Nat)), by show some (RV.d (.int (((ts.map PyData.int).length : Nat) : Int))) = _; rw [List.length_map], p⟩
theorem w_lenN {ts : List Int} (p : P (.d (.int (ts.length : Nat)))) : KC gLen P [.n (ts.map PyData.int)] := ⟨.d (.int (ts.length : Nat)), by show some (RV.d (.int (((ts.map PyData.int).length : Nat) : Int))) = _; rw [List.length_map], p⟩
theorem w_lenD {ts : List D} (p : P (.d (.int (ts.length : Nat)))) : KC gLen P [.d (.tuple ts)] := ⟨_, rfl, p⟩
theorem w_lenDB {ts : List D} (p : P (.d (.int (ts.length : Nat)))) : KC gLen P [.b ts] := ⟨_, rfl, p⟩
theorem w_lenDN {ts : List D} (p : P (.d (.int (ts.length : Nat)))) : KC gLen P [.n ts] := ⟨_, rfl, p⟩
theorem w_tupN {ds : List D} (p : P (.d (.tuple ds))) : KC gTuple P [.n ds] := ⟨_, rfl, p⟩
theorem w_tupB {ds : List D} (p : P (.d (.tuple ds))) : KC gTuple P [.b ds] := ⟨_, rfl, p⟩
theorem w_tupD {ds : List D} (p : P (.d (.tuple ds))) : KC gTuple P [.d (.tuple ds)] := ⟨_, rfl, p⟩
theorem w_lstD {ds : List D} (p : P (.n ds)) : KC gList P [.d (.tuple ds)] := ⟨_, rfl, p⟩
theorem w_lstB {ds : List D} (p : P (.n ds)) : KC gList P [.b ds] := ⟨_, rfl, p⟩
theorem w_lstN {ds : List D} (p : P (.n ds)) : KC gList P [.n ds] := ⟨_, rfl, p⟩
theorem w_sum {ts : List Int} (p : P (.d (.int ts.sum))) : KC gSum P [.d (ti ts)] := ⟨_, DVL.gSum_eq ts, p⟩
theorem w_sumN {ts : List Int} (p : P (.d (.int ts.sum))) : KC gSum P [.n (ts.map PyData.int)] := ⟨_, DVL.gSum_eq ts, p⟩
theorem w_sumB {ts : List Int} (p : P (.d (.int ts.sum))) : KC gSum P [.b (ts.map PyData.int)] := ⟨_, DVL.gSum_eq ts, p⟩
theorem w_max2 {a b : Int} (p : P (.d (.int (max a b)))) : KC gMax2 P [.d (.int a), .d (.int b)] := by
  refine ⟨.d (.int (max a b)), ?_, p⟩
  show some (RV.d (.int (if b > a then b else a))) = _
  congr 3
  split <;> omega
theorem w_min2 {a b : Int} (p : P (.d (.int (min a b)))) : KC gMin2 P [.d (.int a), .d (.int b)] := by
  refine ⟨.d (.int (min a b)), ?_, p⟩
  show some (RV.d (.int (if b < a then b else a))) = _
  congr 3
  split <;> omega
theorem w_int {a : Int} (p : P (.d (.int a))) : KC gInt P [.d (.int a)] := ⟨_, rfl, p⟩
theorem w_sortN {a : List Int} (p : P (.n ((DV.sortI a).map PyData.int))) : KC gSort P [.n (a.map PyData.int)] := by
  refine ⟨_, ?_, p⟩
  show (match intsOf (a.map PyData.int) with | some js => some (RV.n ((DV.sortI js).map PyData.int)) | none => _) = _
  rw [DVL.intsOf_map]
theorem w_sortB {a : List Int} (p : P (.n ((DV.sortI a).map PyData.int))) : KC gSort P [.b (a.map PyData.int)] := by
  obtain ⟨z, e, q⟩ := w_sortN (a := a) p
  exact ⟨z, e, q⟩
theorem w_sort {a : List Int} (p : P (.n ((DV.sortI a).map PyData.int))) : KC gSort P [.d (ti a)] := by
  obtain ⟨z, e, q⟩ := w_sortN (a := a) p
  exact ⟨z, e, q⟩
theorem w_rep {x : Int} {n : Nat} (c : 1 ≤ n ∧ n ≤ 1000) (p : P (.d (ti (List.replicate n x)))) : K2 gMulA P (.d (.tuple [.int x])) (.d (.int (n : Nat))) := by
  refine ⟨_, ?_, p⟩
  show (if 1 ≤ (n : Int) ∧ (n : Int) ≤ 1000 ∧ ([PyData.int x] : List D).length ≤ 1000 ∧ [PyData.int x] ≠ [] then some (RV.d (.tuple (List.replicate (n : Int).toNat [PyData.int x]).flatten)) else none) = _
  rw [if_pos ⟨by omega, by omega, by simp, by simp⟩, Int.toNat_natCast, List.flatten_replicate_singleton]
  show _ = some (RV.d (.tuple ((List.replicate n x).map PyData.int)))
  rw [List.map_replicate]
theorem w_repN {x : Int} {n : Nat} (c : n ≤ 1000) (p : P (.n ((List.replicate n x).map PyData.int))) : K2 gMulA P (.n [.int x]) (.d (.int (n : Nat))) := by
  refine ⟨_, ?_, p⟩
  show (if -1000 ≤ (n : Int) ∧ (n : Int) ≤ 1000 ∧ ([PyData.int x] : List D).length ≤ 1000 then some (RV.n (List.replicate (n : Int).toNat [PyData.int x]).flatten) else none) = _
  rw [if_pos ⟨by omega, by omega, by simp⟩, Int.toNat_natCast, List.flatten_replicate_singleton, List.map_replicate]
theorem w_catT {a b : List D} (c : a.length + b.length ≤ 100000) (p : P (.d (.tuple (a ++ b)))) : K2 gAddA P (.d (.tuple a)) (.d (.tuple b)) := by
  refine ⟨_, ?_, p⟩
  show (if a.length + b.length ≤ 100000 then some (RV.d (.tuple (a ++ b))) else none) = _
  rw [if_pos c]
theorem w_lc {fi : Env → M (List D × Option Nat)} {vs : List Nat} (p : Gives (fi ρ) (KLc vs tg t h ρ P)) : Gives (eLc fi vs tg t h ρ) P := DVL.gv_lcG p
theorem w_srcE (p : Gives (f ρ) (KSrc C)) : Gives (srcE f ρ) C := DVL.gv_srcE p
theorem w_srcV {i : Nat} {q : List D × Option Nat} (e : srcV i ρ = DV.ret q) (p : C q) : Gives (srcV i ρ) C := gv_eq e p
theorem w_src {ds : List D} (e : srcOf x = some ds) (p : C (ds, none)) : KSrc C x := ⟨ds, e, p⟩
theorem w_rng1 (p : Gives (f ρ) (KRng C)) : Gives (iRng1F f ρ) C := by
  unfold iRng1F
  refine Gives.bnd p fun x ⟨n, e, h1, h2, q⟩ => ?_
  rw [e, lft_s, bnd_ret, if_pos ⟨h1, h2⟩]
  exact Gives.ret q
theorem w_rngN {n : Nat} (c : n ≤ 100000) (p : C ((DVL.rngI 0 n).map PyData.int, none)) : KRng C (.d (.int (n : Nat))) := ⟨n, rfl, by omega, by omega, by rw [DVL.rngD_eq, Int.toNat_natCast]; exact p⟩
theorem w_rngI {n : Int} (c : n ≤ 100000 ∧ -100000 ≤ n) (p : C ((DVL.rngI 0 n.toNat).map PyData.int, none)) : KRng C (.d (.int n)) := ⟨n, rfl, c.1, c.2, by rw [DVL.rngD_eq]; exact p⟩
theorem w_rng2 (p : Gives (f ρ) fun x => Gives (h ρ) fun y => KRng2 C x y) : Gives (iRng2F f h ρ) C := by
  unfold iRng2F
  refine Gives.bnd p fun x q => ?_
  intro rs
  obtain ⟨y, rs1, e1, a, b, ea, eb, hc, q⟩ := q rs
  refine ⟨_, rs1, ?_, q⟩
  rw [ea, lft_s, bnd_ret]
  unfold bnd
  simp only [e1, eb, lft_s]
  show (if _ then _ else _ : M (List D × Option Nat)) rs1 = _
  rw [if_pos hc, DVL.rngD_eq]
  rfl
theorem w_rng2I {a b : Int} (c : a ≤ 100000 ∧ -100000 ≤ a ∧ b ≤ 100000 ∧ -100000 ≤ b) (p : C ((DVL.rngI a (b - a).toNat).map PyData.int, none)) : KRng2 C (.d (.int a)) (.d (.int b)) := ⟨a, b, rfl, rfl, c, p⟩
theorem lcF_mk {el : Env → M RV} (mk : α → D) (p : α → Bool) (φ : α → D) : ∀ L : List α, (∀ a ∈ L, KTg (tg (mk a) ρ) fun ρ1 => Gives (t ρ1) fun b => b = p a ∧ (p a = true → Gives (el ρ1) fun r => toD r = some (φ a))) →
    Gives (lcF tg t el ρ (L.map mk)) fun ds => ds = (L.filter p).map φ
  | [], _ => Gives.ret rfl
  | a :: L, h => by
    obtain ⟨ρ1, e1, g1⟩ := h a List.mem_cons_self
    show Gives (lcF tg t el ρ (mk a :: L.map mk)) _
    unfold lcF
    rw [e1, lft_s, bnd_ret]
    refine Gives.bnd g1 fun b ⟨eb, g2⟩ => ?_
    have ih := lcF_mk mk p φ L fun y hy => h y (List.mem_cons_of_mem _ hy)
    subst eb
    cases hp : p a with
    | true =>
      rw [if_pos rfl]
      refine Gives.bnd (g2 hp) fun r er => ?_
      rw [er, lft_s, bnd_ret]
      refine Gives.bnd ih fun ds hds => Gives.ret ?_
      rw [List.filter_cons_of_pos hp, hds]; rfl
    | false =>
      rw [if_neg (by decide), List.filter_cons_of_neg (by rw [hp]; decide)]
      exact ih
/-- a filter and a map over any list -/
theorem w_lcD {vs : List Nat} {el : Env → M RV} (L : List α) (mk : α → D) (p : α → Bool) (φ : α → D) {lk : Option Nat} (c : L.length ≤ 100000)
    (hh : ∀ a ∈ L, KTg (tg (mk a) (wipeE ρ vs)) fun ρ1 => Gives (t ρ1) fun b => b = p a ∧ (p a = true → Gives (el ρ1) fun r => toD r = some (φ a)))
    (k : P (.n ((L.filter p).map φ))) : KLc vs tg t el ρ P (L.map mk, lk) :=
  ⟨by show (L.map mk).length ≤ 100000; rw [List.length_map]; exact c, (lcF_mk mk p φ L hh).mono fun ds e => by subst e; exact k⟩
/-- to any data, without a test -/
theorem w_lcM {vs : List Nat} {el : Env → M RV} {mk : α → D} {lk : Option Nat} {L : List α} (φ : α → D) (c : L.length ≤ 100000)
    (hh : ∀ a ∈ L, KTg (tg (mk a) (wipeE ρ vs)) fun ρ1 => Gives (el ρ1) fun r => toD r = some (φ a))
    (k : P (.n (L.map φ))) : KLc vs tg tTrue el ρ P (L.map mk, lk) :=
  w_lcD L mk (fun _ => true) φ c (fun a ha => by
    obtain ⟨ρ1, e, g⟩ := hh a ha
    exact ⟨ρ1, e, Gives.ret ⟨rfl, fun _ => g⟩⟩) (by rw [List.filter_eq_self.mpr (fun _ _ => rfl)]; exact k)
/-- draws: each item an int of a kind -/
theorem w_lcA {vs : List Nat} {el : Env → M RV} {mk : α → D} {lk : Option Nat} {L : List α} (p : α → Int → Prop) (c : L.length ≤ 100000)
    (hh : ∀ a ∈ L, KTg (tg (mk a) (wipeE ρ vs)) fun ρ1 => Gives (el ρ1) fun r => ∃ i, r = .d (.int i) ∧ p a i)
    (k : ∀ js : List Int, All2 p L js → P (.n (js.map PyData.int))) : KLc vs tg tTrue el ρ P (L.map mk, lk) := by
  refine ⟨by show (L.map mk).length ≤ 100000; rw [List.length_map]; exact c, ?_⟩
  have main : ∀ L : List α, (∀ a ∈ L, KTg (tg (mk a) (wipeE ρ vs)) fun ρ1 => Gives (el ρ1) fun r => ∃ i, r = .d (.int i) ∧ p a i) → Gives (lcF tg tTrue el (wipeE ρ vs) (L.map mk)) fun ds => ∃ js : List Int, ds = js.map PyData.int ∧ All2 p L js := by
    intro L
    induction L with
    | nil => exact fun _ => Gives.ret ⟨[], rfl, .nil⟩
    | cons a L ih =>
      intro hh
      obtain ⟨ρ1, e1, g1⟩ := hh a List.mem_cons_self
      show Gives (lcF tg tTrue el (wipeE ρ vs) (mk a :: L.map mk)) _
      unfold lcF
      rw [e1, lft_s, bnd_ret]
      show Gives (DV.bnd (el ρ1) _) _
      refine Gives.bnd g1 fun r ⟨i, er, pi⟩ => ?_
      subst er
      show Gives (DV.bnd (lft (some (PyData.int i))) _) _
      rw [lft_s, bnd_ret]
      refine Gives.bnd (ih fun y hy => hh y (List.mem_cons_of_mem _ hy)) fun ds ⟨js, e, h2⟩ => Gives.ret ⟨i :: js, by rw [e]; rfl, .cons pi h2⟩
  exact (main L hh).mono fun ds ⟨js, e, h2⟩ => by subst e; exact k js h2
theorem w_loop {mk : α → D} {lk : Option Nat} {L : List α} (I : List α → Env → Prop) (h0 : I L (lockE ρ lk))
    (hs : ∀ a rest ρ1, I (a :: rest) ρ1 → KTg (tg (mk a) ρ1) fun ρ2 => Gives (g ρ2) (KLoop (I rest) fun o => Q (unlockO ρ lk o))) (hd : ∀ ρ1, I [] ρ1 → Q (.nx (unlockE ρ ρ1 lk))) : KFor tg g ρ Q (L.map mk, lk) := by
  show Gives (loopF tg g (L.map mk) (lockE ρ lk)) _
  refine Gives.loop _ (fun xs ρ1 => ∃ r, xs = r.map mk ∧ I r ρ1) _ ⟨L, rfl, h0⟩ ?_ ?_
  · rintro x xs ρ1 ⟨r, e, hi⟩
    cases r with
    | nil => cases e
    | cons a r =>
      cases e
      obtain ⟨ρ2, e2, g2⟩ := hs a r ρ1 hi
      refine ⟨ρ2, e2, g2.mono fun o ho => ?_⟩
      cases o with
      | nx _ => exact ⟨r, rfl, ho⟩
      | ct _ => exact ⟨r, rfl, ho⟩
      | bk _ => exact ho
      | rt _ => exact ho
  · rintro ρ1 ⟨r, e, hi⟩
    cases r with
    | nil => exact hd ρ1 hi
    | cons _ _ => cases e
theorem w_loop0 {mk : α → D} {L : List α} (I : List α → Env → Prop) (h0 : I L ρ)
    (hs : ∀ a rest ρ1, I (a :: rest) ρ1 → KTg (tg (mk a) ρ1) fun ρ2 => Gives (g ρ2) (KLoop (I rest) Q)) (hd : ∀ ρ1, I [] ρ1 → Q (.nx ρ1)) : KFor tg g ρ Q (L.map mk, none) :=
  w_loop I h0 (fun a rest ρ1 hi => by
    obtain ⟨ρ2, e2, g2⟩ := hs a rest ρ1 hi
    exact ⟨ρ2, e2, g2.mono fun o ho => by cases o <;> exact ho⟩) hd
theorem w_run {n : Nat} {xs : List RV} (e : startE n xs = ρ) (p : Gives (g ρ) (KRun P)) : Gives (runDef n g xs) P := by
  rw [← e] at p
  exact gv_run p
theorem w_env {g : Env → M Out} (e : ρ = ρ') (p : Gives (g ρ') Q) : Gives (g ρ) Q := by rw [e]; exact p
end
end DV

namespace DV
open PySem L2
/-- a kind of key -/
structure Key (κ : Type) where
  t : Bool
  enc : κ → D
  inj : ∀ a b, nk (enc a) = nk (enc b) → a = b
  ok : ∀ a, keyOk t (enc a) = true
section
variable {κ β : Type} [DecidableEq κ]
def getA (M : List (κ × β)) (k : κ) : Option β := (M.find? fun p => decide (p.1 = k)).map (·.2)
def putA (M : List (κ × β)) (k : κ) (b : β) : List (κ × β) := if (getA M k).isSome = true then M.map fun p => if p.1 = k then (k, b) else p else M ++ [(k, b)]
def encT (E : Key κ) (v : β → D) (M : List (κ × β)) : List (D × D) := M.map fun p => (E.enc p.1, v p.2)
abbrev dT (E : Key κ) (v : β → D) (M : List (κ × β)) : DC := ⟨E.t, encT E v M⟩
variable {E : Key κ} {v : β → D} {M : List (κ × β)} {k k2 : κ} {b : β}
theorem getA_nil : getA ([] : List (κ × β)) k = none := rfl
theorem getA_cons (p : κ × β) (M : List (κ × β)) : getA (p :: M) k = if p.1 = k then some p.2 else getA M k := by
  unfold getA
  by_cases h : p.1 = k
  · rw [List.find?_cons_of_pos (by rw [decide_eq_true_eq]; exact h), if_pos h]
    rfl
  · rw [List.find?_cons_of_neg (by rw [decide_eq_true_eq]; exact h), if_neg h]
theorem getA_app (A B : List (κ × β)) : getA (A ++ B) k = (getA A k).or (getA B k) := by
  induction A with
  | nil => rfl
  | cons p A ih =>
    rw [List.cons_append, getA_cons, getA_cons, ih]
    split <;> rfl
theorem getA_mem (h : getA M k = some b) : (k, b) ∈ M := by
  induction M with
  | nil => cases h
  | cons p M ih =>
    rw [getA_cons] at h
    by_cases e : p.1 = k
    · rw [if_pos e] at h
      cases h
      subst e
      exact List.mem_cons_self
    · rw [if_neg e] at h
      exact List.mem_cons_of_mem _ (ih h)
theorem getA_none : getA M k = none ↔ k ∉ M.map (·.1) := by
  induction M with
  | nil => simp [getA]
  | cons p M ih =>
    rw [getA_cons, List.map_cons, List.mem_cons]
    by_cases e : p.1 = k
    · rw [if_pos e]
      simp [e]
    · rw [if_neg e, ih]
      constructor
      · rintro h (z | z)
        · exact e z.symm
        · exact h z
      · exact fun h z => h (.inr z)
theorem getA_isSome : (getA M k).isSome = true ↔ k ∈ M.map (·.1) := by
  cases h : getA M k with
  | none => simp [getA_none.mp h]
  | some b => simp only [Option.isSome_some, true_iff]; exact List.mem_map.mpr ⟨_, getA_mem h, rfl⟩
/-- no key twice -/
def Uq (M : List (κ × β)) : Prop := (M.map (·.1)).Nodup
theorem Uq.nil : Uq ([] : List (κ × β)) := List.nodup_nil
theorem Uq.one (p : κ × β) : Uq [p] := by unfold Uq; simp
theorem Uq.get (U : Uq M) (h : (k, b) ∈ M) : getA M k = some b := by
  induction M with
  | nil => cases h
  | cons p M ih =>
    obtain ⟨h1, h2⟩ := List.nodup_cons.mp (show ((p :: M).map (·.1)).Nodup from U)
    rw [getA_cons]
    rcases List.mem_cons.mp h with e | e
    · subst e
      rw [if_pos rfl]
    · rw [if_neg fun z => h1 (by show p.1 ∈ _; rw [z]; exact List.mem_map.mpr ⟨_, e, rfl⟩)]
      exact ih h2 e
theorem Uq.iff (U : Uq M) : (k, b) ∈ M ↔ getA M k = some b := ⟨U.get, getA_mem⟩
theorem keys_put : (putA M k b).map (·.1) = if (getA M k).isSome = true then M.map (·.1) else M.map (·.1) ++ [k] := by
  unfold putA
  split
  · rw [List.map_map]
    refine List.map_congr_left fun q _ => ?_
    show (if q.1 = k then (k, b) else q).1 = q.1
    split
    · rename_i h
      exact h.symm
    · rfl
  · rw [List.map_append]
    rfl
theorem Uq.put (U : Uq M) : Uq (putA M k b) := by
  unfold Uq
  rw [keys_put]
  split
  · exact U
  · rename_i h
    refine List.nodup_append.mpr ⟨U, by simp, fun a ha c hc e => ?_⟩
    rw [List.mem_singleton.mp hc] at e
    subst e
    exact h (getA_isSome.mpr ha)
theorem getA_put : getA (putA M k b) k2 = if k2 = k then some b else getA M k2 := by
  unfold putA
  split
  · rename_i h
    have hk := getA_isSome.mp h
    clear h
    induction M with
    | nil => cases hk
    | cons p M ih =>
      rw [List.map_cons, getA_cons, getA_cons]
      by_cases e : p.1 = k
      · rw [if_pos e]
        by_cases e2 : k2 = k
        · rw [if_pos e2, if_pos e2.symm]
        · rw [if_neg (fun z => e2 z.symm), if_neg e2, if_neg (fun z => e2 (z.symm.trans e))]
          by_cases hm : k ∈ M.map (·.1)
          · rw [ih hm, if_neg e2]
          · have : (M.map fun p => if p.1 = k then (k, b) else p) = M := by
              have h2 : M.map (fun p => if p.1 = k then (k, b) else p) = M.map id := List.map_congr_left fun q hq => if_neg fun z => hm (by rw [← z]; exact List.mem_map.mpr ⟨q, hq, rfl⟩)
              rw [h2, List.map_id]
            rw [this]
      · rw [if_neg e]
        rw [List.map_cons, List.mem_cons] at hk
        have hm : k ∈ M.map (·.1) := hk.resolve_left fun z => e z.symm
        rw [ih hm]
        by_cases e2 : p.1 = k2
        · rw [if_pos e2, if_neg fun z => e (e2.trans z)]
          rw [if_pos e2]
        · rw [if_neg e2, if_neg e2]
  · rename_i h
    rw [getA_app, getA_cons, getA_nil]
    by_cases e : k2 = k
    · subst e
      rw [if_pos rfl, if_pos rfl]
      cases hh : getA M k2 with
      | none => rfl
      | some x => rw [hh] at h; exact absurd rfl h
    · rw [if_neg e, if_neg fun z => e z.symm]
      cases getA M k2 <;> rfl
end
def KG (C : D → Prop) (x : RV) : Prop := ∃ d, asKey x = some d ∧ C d
def KGget (k : DC) (P : RV → Prop) (d : D) : Prop := keyOk k.t d = true ∧ ∃ w, lookK k.kv (nk d) = some w ∧ P (.d w)
def KGput (i : Nat) (ρ : Env) (Q : Out → Prop) (w d : D) : Prop := ∃ c : DC, own_g ρ i = some c ∧ c.kv.length ≤ 100000 ∧ keyOk c.t d = true ∧ Q (.nx (ρ.set i (some (.g ⟨c.t, putD c.kv d w⟩))))
section
variable {κ β : Type} [DecidableEq κ] {E : Key κ} {v : β → D} {M : List (κ × β)} {key : κ} {b : β}
variable {ρ ρ' : Env} {P : RV → Prop} {Q : Out → Prop} {f h : Env → DV.M RV} {g : Env → DV.M Out} {x y : RV} {tg : D → Env → Option Env} {vs : List Nat} {t : Env → DV.M Bool}
theorem w_G {C : D → Prop} {d : D} (p : C d) : KG C (.d d) := ⟨d, rfl, p⟩
/-- d[k] -/
theorem w_gget {f h : Env → DV.M RV} (p : Gives (f ρ) fun x => ∃ c, dcOf x = some c ∧ Gives (h ρ) (KG (KGget c P))) : Gives (eGGet f h ρ) P := by
  unfold eGGet
  refine Gives.bnd p fun x ⟨c, e, q⟩ => ?_
  rw [e, lft_s, bnd_ret]
  refine Gives.bnd q fun y ⟨d, e2, h1, w, h2, q⟩ => ?_
  rw [e2, lft_s, bnd_ret, if_pos h1, h2, lft_s, bnd_ret]
  exact Gives.ret q
theorem w_dc {c : DC} {C : DC → Prop} (p : C c) : ∃ c', dcOf (.gb c) = some c' ∧ C c' := ⟨c, rfl, p⟩
theorem w_dcN {c : DC} {C : DC → Prop} (p : C c) : ∃ c', dcOf (.gn c) = some c' ∧ C c' := ⟨c, rfl, p⟩
/-- d[k] = x -/
theorem w_gput {i : Nat} {f h : Env → DV.M RV} (p : Gives (f ρ) (KD fun w => Gives (h ρ) (KG (KGput i ρ Q w)))) : Gives (sGPut i f h ρ) Q := by
  unfold sGPut
  refine Gives.bnd p fun x ⟨w, e, q⟩ => ?_
  rw [e, lft_s, bnd_ret]
  refine Gives.bnd q fun y ⟨d, e2, c, h1, h2, h3, q⟩ => ?_
  rw [e2, lft_s, bnd_ret, h1, lft_s, bnd_ret, if_pos ⟨h3, h2⟩]
  exact Gives.ret q
/-- {} and {k: x} -/
theorem w_gnew {tt : Bool} (p : P (.gn ⟨tt, []⟩)) : Gives (eGNew tt ρ) P := Gives.ret p
theorem w_g1 {tt : Bool} {f h : Env → DV.M RV} (p : Gives (f ρ) (KG fun kd => Gives (h ρ) (KD fun w => keyOk tt kd = true ∧ P (.gn ⟨tt, [(kd, w)]⟩)))) : Gives (eG1 tt f h ρ) P := by
  unfold eG1
  refine Gives.bnd p fun x ⟨kd, e, q⟩ => ?_
  rw [e, lft_s, bnd_ret]
  refine Gives.bnd q fun y ⟨w, e2, h1, h2⟩ => ?_
  rw [e2, lft_s, bnd_ret, if_pos h1]
  exact Gives.ret h2
end
section
variable {κ β : Type} [DecidableEq κ]
/-- of what was offered, the table holds under each key one that no offered one beats -/
structure UT (le : β → β → Prop) (dn M : List (κ × β)) : Prop where
  uq : Uq M
  sub : ∀ m ∈ M, m ∈ dn
  all : ∀ o ∈ dn, ∃ b, getA M o.1 = some b ∧ le b o.2
variable {le : β → β → Prop} {dn M : List (κ × β)} {o : κ × β}
theorem UT.nil : UT le ([] : List (κ × β)) [] := ⟨Uq.nil, fun _ h => h, fun _ h => nomatch h⟩
theorem UT.put (tr : ∀ a b c, le a b → le b c → le a c) (rf : ∀ a, le a a) (U : UT le dn M) (h : ∀ b, getA M o.1 = some b → le o.2 b) : UT le (dn ++ [o]) (putA M o.1 o.2) := by
  refine ⟨U.uq.put, fun m hm => ?_, fun q hq => ?_⟩
  · have := U.uq.put (k := o.1) (b := o.2) |>.get (show (m.1, m.2) ∈ putA M o.1 o.2 from hm)
    rw [getA_put] at this
    by_cases e : m.1 = o.1
    · rw [if_pos e] at this
      have e2 := Option.some.inj this
      exact List.mem_append_right _ (List.mem_singleton.mpr (Prod.ext e e2.symm))
    · rw [if_neg e] at this
      exact List.mem_append_left _ (U.sub _ (getA_mem this))
  · rw [getA_put]
    rcases List.mem_append.mp hq with z | z
    · obtain ⟨b, h1, h2⟩ := U.all q z
      by_cases e : q.1 = o.1
      · rw [if_pos e]
        exact ⟨_, rfl, tr _ _ _ (h b (by rw [← e]; exact h1)) h2⟩
      · rw [if_neg e]
        exact ⟨b, h1, h2⟩
    · rw [List.mem_singleton.mp z, if_pos rfl]
      exact ⟨_, rfl, rf _⟩
theorem UT.skip {b : β} (U : UT le dn M) (h : getA M o.1 = some b) (hle : le b o.2) : UT le (dn ++ [o]) M := by
  refine ⟨U.uq, fun m hm => List.mem_append_left _ (U.sub m hm), fun q hq => ?_⟩
  rcases List.mem_append.mp hq with z | z
  · exact U.all q z
  · rw [List.mem_singleton.mp z]
    exact ⟨b, h, hle⟩
end
end DV

namespace DV
open PySem L2
def KSl (P : RV → Prop) (x : RV) (l u : Option Int) : Prop := Gives (eSlice (fun _ => ret x) (fun _ => ret l) (fun _ => ret u) []) P
def KStar (fa : Env → M (List RV)) (ρ : Env) (PA : List RV → Prop) (x : RV) : Prop := ∃ ds, items x = some ds ∧ Gives (fa ρ) fun xs => PA (ds.map RV.d ++ xs)
def KRg (P : RV → Prop) (w : List D → RV) (x : RV) : Prop := ∃ n : Nat, x = .d (.int (n : Int)) ∧ n ≤ 100000 ∧ P (w ((DVL.rngI 0 n).map PyData.int))
def KZip (C : List D × Option Nat → Prop) (p q : List D × Option Nat) : Prop := ∃ l, joinLk p.2 q.2 = some l ∧ C (zipD p.1 q.1, l)
def enI {α : Type} : Int → List α → List (Int × α)
  | _, [] => []
  | k, a :: L => (k, a) :: enI (k + 1) L
section
variable {α β : Type} {ρ ρ' : Env} {P : RV → Prop} {Q : Out → Prop} {PA : List RV → Prop} {f h k : Env → M RV} {fa : Env → M (List RV)} {g : Env → M Out} {t : Env → M Bool} {x y : RV} {C : List D × Option Nat → Prop}
theorem w_ret {m : α} {P : α → Prop} (p : P m) : Gives (ret m) P := Gives.ret p
theorem w_slice {lo hi : Env → M (Option Int)} (p : Gives (f ρ) fun x => Gives (lo ρ) fun l => Gives (hi ρ) fun u => KSl P x l u) : Gives (eSlice f lo hi ρ) P :=
  Gives.bnd p fun x q => Gives.bnd q fun l r => Gives.bnd r fun u s => s
theorem w_part {C : Option Int → Prop} (p : Gives (f ρ) (KI fun i => C (some i))) : Gives (ePart f ρ) C :=
  Gives.bnd p fun x ⟨i, e, q⟩ => by rw [e, lft_s, bnd_ret]; exact Gives.ret q
theorem cut_to (ds : List D) {m : Int} (h : 0 ≤ m) : cutD ds none (some m) = ds.take m.toNat := by
  unfold cutD
  rw [HT.sIx_none, List.drop_zero]
  obtain ⟨n, rfl⟩ : ∃ n : Nat, m = (n : Int) := ⟨m.toNat, by omega⟩
  rw [HT.sIx_nat, Int.toNat_natCast, Nat.sub_zero]
  by_cases h : n ≤ ds.length
  · rw [Nat.min_eq_left h]
  · rw [Nat.min_eq_right (by omega), List.take_of_length_le (Nat.le_refl _), List.take_of_length_le (by omega)]
theorem cut_from (ds : List D) {m : Int} (h : 0 ≤ m) : cutD ds (some m) none = ds.drop m.toNat := by
  unfold cutD
  rw [HT.sIx_none]
  obtain ⟨n, rfl⟩ : ∃ n : Nat, m = (n : Int) := ⟨m.toNat, by omega⟩
  rw [HT.sIx_nat, Int.toNat_natCast]
  by_cases h : n ≤ ds.length
  · rw [Nat.min_eq_left h, List.take_of_length_le (by rw [List.length_drop]; exact Nat.le_refl _)]
  · rw [Nat.min_eq_right (by omega), List.drop_of_length_le (Nat.le_refl _), List.drop_of_length_le (by omega), List.take_nil]
theorem w_slTo {ds : List D} {m : Int} (c : 0 ≤ m) (p : P (.d (.tuple (ds.take m.toNat)))) : KSl P (.d (.tuple ds)) none (some m) := Gives.ret (by rw [cut_to ds c]; exact p)
theorem w_slFrom {ds : List D} {m : Int} (c : 0 ≤ m) (p : P (.d (.tuple (ds.drop m.toNat)))) : KSl P (.d (.tuple ds)) (some m) none := Gives.ret (by rw [cut_from ds c]; exact p)
theorem w_slToI {L : List Int} {m : Int} (c : 0 ≤ m) (p : P (.d (ti (L.take m.toNat)))) : KSl P (.d (ti L)) none (some m) := w_slTo c (by rw [← List.map_take]; exact p)
theorem w_slFromI {L : List Int} {m : Int} (c : 0 ≤ m) (p : P (.d (ti (L.drop m.toNat)))) : KSl P (.d (ti L)) (some m) none := w_slFrom c (by rw [← List.map_drop]; exact p)
theorem w_slToB {ds : List D} {m : Int} (c : 0 ≤ m) (p : P (.n (ds.take m.toNat))) : KSl P (.b ds) none (some m) := Gives.ret (by rw [cut_to ds c]; exact p)
theorem w_slFromB {ds : List D} {m : Int} (c : 0 ≤ m) (p : P (.n (ds.drop m.toNat))) : KSl P (.b ds) (some m) none := Gives.ret (by rw [cut_from ds c]; exact p)
theorem w_slToBI {L : List Int} {m : Int} (c : 0 ≤ m) (p : P (.n ((L.take m.toNat).map PyData.int))) : KSl P (.b (L.map PyData.int)) none (some m) := w_slToB c (by rw [← List.map_take]; exact p)
theorem w_slFromBI {L : List Int} {m : Int} (c : 0 ≤ m) (p : P (.n ((L.drop m.toNat).map PyData.int))) : KSl P (.b (L.map PyData.int)) (some m) none := w_slFromB c (by rw [← List.map_drop]; exact p)
theorem w_star (p : Gives (f ρ) (KStar fa ρ PA)) : Gives (aStar f fa ρ) PA := gv_star p
theorem w_starT {ds : List D} (p : Gives (fa ρ) fun xs => PA (ds.map RV.d ++ xs)) : KStar fa ρ PA (.d (.tuple ds)) := ⟨ds, rfl, p⟩
theorem w_starB {ds : List D} (p : Gives (fa ρ) fun xs => PA (ds.map RV.d ++ xs)) : KStar fa ρ PA (.b ds) := ⟨ds, rfl, p⟩
theorem w_starN {ds : List D} (p : Gives (fa ρ) fun xs => PA (ds.map RV.d ++ xs)) : KStar fa ρ PA (.n ds) := ⟨ds, rfl, p⟩
theorem w_catTI {a b : List Int} (c : a.length + b.length ≤ 100000) (p : P (.d (ti (a ++ b)))) : K2 gAddA P (.d (ti a)) (.d (ti b)) := w_catT (by rw [List.length_map, List.length_map]; exact c) (by rw [← List.map_append]; exact p)
theorem w_catT1 {a : List Int} {b : Int} (c : a.length < 100000) (p : P (.d (ti (a ++ [b])))) : K2 gAddA P (.d (ti a)) (.d (.tuple [.int b])) := w_catTI (b := [b]) c p
theorem w_listG {b : Bool} (p : Gives (f ρ) fun x => ∃ c, dcOf x = some c ∧ P (.n (c.kv.map (wkB b)))) : Gives (eListG b f ρ) P :=
  Gives.bnd p fun x ⟨c, e, q⟩ => by
    rw [e, lft_s, bnd_ret]
    exact Gives.ret q
theorem boolsOf_map (F : α → Bool) : ∀ L : List α, boolsOf (L.map fun a => PyData.bool (F a)) = some (L.map F)
  | [] => rfl
  | a :: L => by
    show (match boolsOf (L.map fun a => PyData.bool (F a)) with | some js => some (F a :: js) | none => none) = _
    rw [boolsOf_map F L]
    rfl
theorem w_all {L : List α} (F : α → Bool) (p : P (.d (.bool (L.all F)))) : KC gAll P [.n (L.map fun a => PyData.bool (F a))] := by
  refine ⟨.d (.bool (L.all F)), ?_, p⟩
  show (boolsOf (L.map fun a => PyData.bool (F a))).map (fun js => RV.d (.bool (js.all id))) = _
  rw [boolsOf_map]
  show some (RV.d (.bool ((L.map F).all id))) = _
  rw [List.all_map]
  rfl
theorem w_eqm {m : M α} {a : α} {P : α → Prop} (e : m = ret a) (p : P a) : Gives m P := gv_eq e p
theorem w_moveG {i j : Nat} {c : DC} (e1 : ρ[j]? = some (some (.g c))) (e : (ρ.set j none).set i (some (.g c)) = ρ') (p : Q (.nx ρ')) : Gives (sMove i j ρ) Q := gv_eq (by unfold sMove; rw [e1]) (by rw [e]; exact p)
theorem w_moveO {i j : Nat} {c : List D} (e1 : ρ[j]? = some (some (.o c))) (e : (ρ.set j none).set i (some (.o c)) = ρ') (p : Q (.nx ρ')) : Gives (sMove i j ρ) Q := gv_eq (by unfold sMove; rw [e1]) (by rw [e]; exact p)
theorem w_moveD {i j : Nat} {c : D} (e1 : ρ[j]? = some (some (.d c))) (e : ρ.set i (some (.d c)) = ρ') (p : Q (.nx ρ')) : Gives (sMove i j ρ) Q := gv_eq (by unfold sMove; rw [e1]) (by rw [e]; exact p)
theorem w_ext {i : Nat} {ds : List D} (e1 : sApp.own? ρ i = some ds) (p : Gives (f ρ) fun x => ∃ es, extL x = some es ∧ ds.length + es.length ≤ 100000 ∧ KSet i ρ Q (.n (ds ++ es))) : Gives (sExt i f ρ) Q := by
  unfold sExt
  rw [e1, lft_s, bnd_ret]
  refine Gives.bnd p fun x ⟨es, e, hl, sv, e2, q⟩ => ?_
  rw [e, lft_s, bnd_ret, if_pos hl]
  cases e2
  exact Gives.ret q
theorem w_while (I : Nat → Env → Prop) (k n : Nat) (hk : k < n) (h0 : I k ρ)
    (hs : ∀ k ρ, I k ρ → Gives (t ρ) (KIf (∃ j, k = j + 1 ∧ Gives (g ρ) (KLoop (I j) Q)) (Q (.nx ρ)))) : Gives (wloopF t g n ρ) Q :=
  Gives.wh I (fun k ρ hi => (hs k ρ hi).mono fun b ⟨h1, h2⟩ => ⟨h2, fun hb => by
    obtain ⟨j, e, q⟩ := h1 hb
    exact ⟨j, e, q.mono fun o ho => by cases o <;> exact ho⟩⟩) k n ρ hk h0
def rowA (T : List (List Int)) (j : Int) : List Int := T.getD j.toNat []
theorem w_ixR {T : List (List Int)} {j : Int} (c : 0 ≤ j ∧ j < T.length) (p : P (.d (ti (rowA T j)))) : K2 gIx P (.d (.tuple (T.map ti))) (.d (.int j)) := by
  refine ⟨.d (ti (rowA T j)), ?_, p⟩
  show (atI (T.map ti) j).map RV.d = _
  obtain ⟨n, rfl⟩ : ∃ n : Nat, j = (n : Int) := ⟨j.toNat, by omega⟩
  have h : (T.map ti)[n]? = some (ti (rowA T n)) := by
    unfold rowA
    rw [List.getElem?_map, Int.toNat_natCast, List.getD_eq_getElem?_getD, List.getElem?_eq_getElem (by omega)]
    rfl
  rw [atI_nat h]
  rfl
theorem w_ixRB {T : List (List Int)} {j : Int} (c : 0 ≤ j ∧ j < T.length) (p : P (.d (ti (rowA T j)))) : K2 gIx P (.b (T.map ti)) (.d (.int j)) := by
  obtain ⟨z, e, q⟩ := w_ixR c p
  exact ⟨z, e, q⟩
/-- an item of any list of a kind -/
theorem w_ixM {L : List α} {mk : α → D} {j : Int} {a : α} (c : 0 ≤ j) (e : L[j.toNat]? = some a) (p : P (.d (mk a))) : K2 gIx P (.d (.tuple (L.map mk))) (.d (.int j)) := by
  refine ⟨.d (mk a), ?_, p⟩
  show (atI (L.map mk) j).map RV.d = _
  obtain ⟨n, rfl⟩ : ∃ n : Nat, j = (n : Int) := ⟨j.toNat, by omega⟩
  rw [Int.toNat_natCast] at e
  rw [atI_nat (v := mk a) (by rw [List.getElem?_map, e]; rfl)]
  rfl
theorem w_ixMB {L : List α} {mk : α → D} {j : Int} {a : α} (c : 0 ≤ j) (e : L[j.toNat]? = some a) (p : P (.d (mk a))) : K2 gIx P (.b (L.map mk)) (.d (.int j)) := by
  obtain ⟨z, e, q⟩ := w_ixM c e p
  exact ⟨z, e, q⟩
theorem w_lenM {L : List α} {mk : α → D} (p : P (.d (.int (L.length : Nat)))) : KC gLen P [.d (.tuple (L.map mk))] := ⟨.d (.int (L.length : Nat)), by show some (RV.d (.int (((L.map mk).length : Nat) : Int))) = _; rw [List.length_map], p⟩
theorem w_lenMB {L : List α} {mk : α → D} (p : P (.d (.int (L.length : Nat)))) : KC gLen P [.b (L.map mk)] := ⟨.d (.int (L.length : Nat)), by show some (RV.d (.int (((L.map mk).length : Nat) : Int))) = _; rw [List.length_map], p⟩
theorem w_lenMN {L : List α} {mk : α → D} (p : P (.d (.int (L.length : Nat)))) : KC gLen P [.n (L.map mk)] := ⟨.d (.int (L.length : Nat)), by show some (RV.d (.int (((L.map mk).length : Nat) : Int))) = _; rw [List.length_map], p⟩
theorem w_lrg (p : Gives (f ρ) (KRg P RV.n)) : Gives (eListRg (rg1F f) ρ) P := by
  intro rs
  obtain ⟨x, rs1, e, n, rfl, hn, q⟩ := p rs
  refine ⟨_, rs1, ?_, q⟩
  unfold eListRg rg1F bnd
  simp only [e]
  show (if okRg 0 (n : Int) = true then ret (RV.n (rngD 0 ((n : Int) - 0).toNat)) else fail) rs1 = _
  rw [if_pos (by unfold okRg; simp; omega), DVL.rngD_eq]
  have e1 : ((n : Int) - 0).toNat = n := by omega
  rw [e1]
  rfl
theorem w_trg (p : Gives (f ρ) (KRg P fun ds => .d (.tuple ds))) : Gives (eTupRg (rg1F f) ρ) P := by
  intro rs
  obtain ⟨x, rs1, e, n, rfl, hn, q⟩ := p rs
  refine ⟨_, rs1, ?_, q⟩
  unfold eTupRg rg1F bnd
  simp only [e]
  show (if okRg 0 (n : Int) = true then ret (RV.d (.tuple (rngD 0 ((n : Int) - 0).toNat))) else fail) rs1 = _
  rw [if_pos (by unfold okRg; simp; omega), DVL.rngD_eq]
  have e1 : ((n : Int) - 0).toNat = n := by omega
  rw [e1]
  rfl
theorem w_rg {n : Nat} {w : List D → RV} (c : n ≤ 100000) (p : P (w ((DVL.rngI 0 n).map PyData.int))) : KRg P w (.d (.int (n : Int))) := ⟨n, rfl, c, p⟩
theorem w_enum {s : Env → M (List D × Option Nat)} (p : Gives (s ρ) fun q => C (enumD 0 q.1, q.2)) : Gives (iEnumF s ρ) C := Gives.bnd p fun q r => Gives.ret r
theorem enI_map (mk : α → D) : ∀ (L : List α) (k : Nat), enumD k (L.map mk) = (enI (k : Int) L).map fun p => PyData.tuple [.int p.1, mk p.2]
  | [], _ => rfl
  | a :: L, k => by
    show PyData.tuple [.int (k : Nat), mk a] :: enumD (k + 1) (L.map mk) = PyData.tuple [.int (k : Nat), mk a] :: (enI ((k : Int) + 1) L).map _
    rw [enI_map mk L (k + 1)]
    rfl
theorem w_enM {L : List α} {mk : α → D} {lk : Option Nat} (p : C ((enI 0 L).map (fun p => PyData.tuple [.int p.1, mk p.2]), lk)) : C (enumD 0 (L.map mk), lk) := by
  rw [enI_map mk L 0]
  exact p
theorem w_zip {s1 s2 : Env → M (List D × Option Nat)} (p : Gives (s1 ρ) fun a => Gives (s2 ρ) fun b => KZip C a b) : Gives (iZipF s1 s2 ρ) C :=
  Gives.bnd p fun a q => Gives.bnd q fun b ⟨l, e, r⟩ => by rw [e, lft_s, bnd_ret]; exact Gives.ret r
theorem zip_mk (f : α → D) (g : β → D) : ∀ (A : List α) (B : List β), zipD (A.map f) (B.map g) = (A.zip B).map fun p => PyData.tuple [f p.1, g p.2]
  | [], _ => by simp [zipD]
  | _ :: _, [] => by simp [zipD]
  | a :: A, b :: B => by
    show _ :: zipD (A.map f) (B.map g) = _
    rw [zip_mk f g A B]
    rfl
theorem w_zipM {A : List α} {B : List β} {f : α → D} {g : β → D} {l1 l2 l : Option Nat} (e : joinLk l1 l2 = some l) (p : C ((A.zip B).map (fun p => PyData.tuple [f p.1, g p.2]), l)) : KZip C (A.map f, l1) (B.map g, l2) := ⟨l, e, by show C (zipD (A.map f) (B.map g), l); rw [zip_mk]; exact p⟩
theorem w_inN {j : Int} {q : List Int} (p : P (.d (.bool (q.elem j)))) : K2 gIn P (.d (.int j)) (.n (q.map PyData.int)) := ⟨_, in_eq j q, p⟩
theorem w_notInN {j : Int} {q : List Int} (p : P (.d (.bool (!q.elem j)))) : K2 gNotIn P (.d (.int j)) (.n (q.map PyData.int)) := ⟨_, DVL.notIn_eq j q, p⟩
end
end DV

namespace DVL
open PySem L2 DV
local macro_rules
  | `(tactic| get_elem_tactic_trivial) => `(tactic| first
    | (simp only [List.set_cons_succ, List.set_cons_zero, DV.startE, DV.lawE, DV.toK, DV.lockE, DV.wipeE, List.map_cons, List.map_nil, List.length_cons, List.length_nil, List.replicate_zero, List.replicate_succ, Nat.reduceSub, Nat.reduceAdd, List.append_nil, List.cons_append, List.nil_append]; rfl)
    | exact rfl)
local macro_rules
  | `(tactic| infer_instance) => `(tactic| first
    | with_reducible refine DV.w_cons ?_
    | with_reducible refine DV.w_var (by with_unfolding_all exact rfl) ?_
    | with_reducible refine DV.w_c ?_
    | with_reducible refine DV.w_nil ?_
    | with_reducible refine DV.w_e2 ?_
    | with_reducible refine DV.w_seq ?_
    | with_reducible refine DV.w_seqN ?_
    | with_reducible refine DV.w_seqR ?_
    | with_reducible refine DV.w_seqB ?_
    | with_reducible refine DV.w_seqC ?_
    | with_reducible refine DV.w_call ?_
    | with_reducible refine DV.w_fn ?_
    | with_reducible refine DV.w_f1 ?_
    | with_reducible refine DV.w_f2 ?_
    | with_reducible refine DV.w_f3 ?_
    | with_reducible refine DV.w_f4 ?_
    | with_reducible refine DV.w_f5 ?_
    | with_reducible refine DV.w_f6 ?_
    | with_reducible refine DV.w_set ?_
    | with_reducible refine DV.w_setApp ?_
    | with_reducible refine DV.w_setX (by with_unfolding_all exact rfl) (by with_unfolding_all (simp only [List.set_cons_succ, List.set_cons_zero]; rfl)) ?_
    | with_reducible refine DV.w_rt ?_
    | with_reducible refine DV.w_rtD ?_
    | with_reducible refine DV.w_rtN ?_
    | with_reducible refine DV.w_rtV (by with_unfolding_all exact rfl) ?_
    | with_reducible refine DV.w_if ?_
    | with_reducible refine DV.w_drop ?_
    | with_reducible refine DV.w_nop ?_
    | with_reducible refine DV.w_T ?_
    | with_reducible refine DV.w_B ?_
    | with_reducible refine DV.w_not ?_
    | with_reducible refine DV.w_and ?_
    | with_reducible refine DV.w_or ?_
    | with_reducible refine DV.w_ifT ?_
    | with_reducible refine DV.w_ifF ?_
    | with_reducible refine DV.w_ifNT ?_
    | with_reducible refine DV.w_ifNF ?_
    | with_reducible refine DV.w_stup ?_
    | with_reducible refine DV.w_stupD (by with_unfolding_all (simp only [DV.wipeE, DV.gTupF, DV.gMore, DV.gNone, DV.gNm, List.set_cons_succ, List.set_cons_zero, List.length]; rfl)) ?_
    | with_reducible refine DV.w_aug (by with_unfolding_all exact rfl) ?_
    | with_reducible refine DV.w_I ?_
    | with_reducible refine DV.w_app (by with_unfolding_all exact rfl) (by simp only [List.length_map]; omega) ?_
    | with_reducible refine DV.w_D ?_
    | with_reducible refine DV.w_for ?_
    | with_reducible refine DV.w_lc ?_
    | with_reducible refine DV.w_par ?_
    | with_reducible refine DV.w_par3 ?_
    | with_reducible refine DV.w_par4 ?_
    | with_reducible refine DV.w_parX (by with_unfolding_all exact rfl) (by with_unfolding_all exact rfl) (by with_unfolding_all (simp only [List.set_cons_succ, List.set_cons_zero]; rfl)) ?_
    | with_reducible refine DV.w_par3X (by with_unfolding_all exact rfl) (by with_unfolding_all exact rfl) (by with_unfolding_all exact rfl) (by with_unfolding_all (simp only [List.set_cons_succ, List.set_cons_zero]; rfl)) ?_
    | with_reducible refine DV.w_par4X (by with_unfolding_all exact rfl) (by with_unfolding_all exact rfl) (by with_unfolding_all exact rfl) (by with_unfolding_all exact rfl) (by with_unfolding_all (simp only [List.set_cons_succ, List.set_cons_zero]; rfl)) ?_
    | with_reducible refine DV.w_tup ?_
    | with_reducible refine DV.w_lst ?_
    | with_reducible refine DV.w_tu (by with_unfolding_all exact rfl) (by with_unfolding_all exact Nat.le_of_ble_eq_true rfl) ?_
    | with_reducible refine DV.w_ls (by with_unfolding_all exact rfl) (by with_unfolding_all exact Nat.le_of_ble_eq_true rfl) ?_
    | with_reducible refine DV.w_neg ?_
    | with_reducible refine DV.w_ifB ?_
    | with_reducible refine DV.w_ifE ?_
    | with_reducible refine DV.w_notB ?_
    | with_reducible refine DV.w_tt ?_
    | with_reducible refine DV.w_ch ?_
    | with_reducible refine DV.w_add ?_
    | with_reducible refine DV.w_sub ?_
    | with_reducible refine DV.w_mul (by first | omega | (left; constructor <;> omega) | (right; constructor <;> omega)) ?_
    | with_reducible refine DV.w_mod (by omega) ?_
    | with_reducible refine DV.w_div (by omega) ?_
    | with_reducible refine DV.w_lt ?_
    | with_reducible refine DV.w_le ?_
    | with_reducible refine DV.w_gt ?_
    | with_reducible refine DV.w_ge ?_
    | with_reducible refine DV.w_ltA ?_
    | with_reducible refine DV.w_leA ?_
    | with_reducible refine DV.w_gtA ?_
    | with_reducible refine DV.w_geA ?_
    | with_reducible refine DV.w_eq ?_
    | with_reducible refine DV.w_ne ?_
    | with_reducible refine DV.w_eqB ?_
    | with_reducible refine DV.w_neB ?_
    | with_reducible refine DV.w_eqN ?_
    | with_reducible refine DV.w_neN ?_
    | with_reducible refine DV.w_eqN0 ?_
    | with_reducible refine DV.w_neN0 ?_
    | with_reducible refine DV.w_in ?_
    | with_reducible refine DV.w_inB ?_
    | with_reducible refine DV.w_notIn ?_
    | with_reducible refine DV.w_notInB ?_
    | with_reducible refine DV.w_ix0 ?_
    | with_reducible refine DV.w_ix1 ?_
    | with_reducible refine DV.w_ix (by omega) ?_
    | with_reducible refine DV.w_ixB (by omega) ?_
    | with_reducible refine DV.w_len ?_
    | with_reducible refine DV.w_lenB ?_
    | with_reducible refine DV.w_lenN ?_
    | with_reducible refine DV.w_lenM ?_
    | with_reducible refine DV.w_lenMB ?_
    | with_reducible refine DV.w_lenMN ?_
    | with_reducible refine DV.w_lenD ?_
    | with_reducible refine DV.w_lenDB ?_
    | with_reducible refine DV.w_lenDN ?_
    | with_reducible refine DV.w_tupN ?_
    | with_reducible refine DV.w_tupB ?_
    | with_reducible refine DV.w_tupD ?_
    | with_reducible refine DV.w_lstD ?_
    | with_reducible refine DV.w_lstB ?_
    | with_reducible refine DV.w_lstN ?_
    | with_reducible refine DV.w_sum ?_
    | with_reducible refine DV.w_sumN ?_
    | with_reducible refine DV.w_sumB ?_
    | with_reducible refine DV.w_max2 ?_
    | with_reducible refine DV.w_min2 ?_
    | with_reducible refine DV.w_int ?_
    | with_reducible refine DV.w_sort ?_
    | with_reducible refine DV.w_sortN ?_
    | with_reducible refine DV.w_sortB ?_
    | with_reducible refine DV.w_rep (by omega) ?_
    | with_reducible refine DV.w_repN (by omega) ?_
    | with_reducible refine DV.w_moveG (by with_unfolding_all exact rfl) (by with_unfolding_all (simp only [List.set_cons_succ, List.set_cons_zero]; rfl)) ?_
    | with_reducible refine DV.w_moveO (by with_unfolding_all exact rfl) (by with_unfolding_all (simp only [List.set_cons_succ, List.set_cons_zero]; rfl)) ?_
    | with_reducible refine DV.w_moveD (by with_unfolding_all exact rfl) (by with_unfolding_all (simp only [List.set_cons_succ, List.set_cons_zero]; rfl)) ?_
    | with_reducible refine DV.w_catTI (by (try simp only [List.length_append, List.length_take, List.length_drop, List.length_cons, List.length_nil]); omega) ?_
    | with_reducible refine DV.w_catT1 (by (try simp only [List.length_append, List.length_take, List.length_drop, List.length_cons, List.length_nil]); omega) ?_
    | with_reducible refine DV.w_listG ?_
    | with_reducible refine DV.w_sortK ?_
    | with_reducible refine DV.w_colS ?_
    | with_reducible refine DV.w_itT ?_
    | with_reducible refine DV.w_itB ?_
    | with_reducible refine DV.w_itN ?_
    | with_reducible refine DV.w_colR ?_
    | with_reducible refine DV.w_colRN (by omega) ?_
    | with_reducible refine DV.w_ext (by with_unfolding_all exact rfl) ?_
    | with_reducible refine DV.w_lc2 ?_
    | with_reducible refine DV.w_isT ?_
    | with_reducible refine DV.w_isNN ?_
    | with_reducible refine DV.w_isNI ?_
    | with_reducible refine DV.w_isNT ?_
    | with_reducible refine DV.w_ntNN ?_
    | with_reducible refine DV.w_ntNI ?_
    | with_reducible refine DV.w_ntNT ?_
    | with_reducible refine DV.w_repND (by omega) ?_
    | with_reducible refine DV.w_put (by with_unfolding_all exact rfl) ?_
    | with_reducible refine DV.w_putI (by (try simp only [List.length_set, List.length_replicate, List.length_map]); omega) ?_
    | with_reducible refine DV.w_eqB0 ?_
    | with_reducible refine DV.w_neB0 ?_
    | with_reducible refine DV.w_eqBB ?_
    | with_reducible refine DV.w_neBB ?_
    | with_reducible refine DV.w_eqNB ?_
    | with_reducible refine DV.w_neNB ?_
    | with_reducible refine DV.w_eqBN ?_
    | with_reducible refine DV.w_neBN ?_
    | with_reducible refine DV.w_eqT0 ?_
    | with_reducible refine DV.w_neT0 ?_
    | with_reducible refine DV.w_eqT ?_
    | with_reducible refine DV.w_neT ?_
    | with_reducible refine DV.w_gget ?_
    | with_reducible refine DV.w_dc ?_
    | with_reducible refine DV.w_dcN ?_
    | with_reducible refine DV.w_G ?_
    | with_reducible refine DV.w_gput ?_
    | with_reducible refine DV.w_gnew ?_
    | with_reducible refine DV.w_g1 ?_
    | with_reducible refine DV.w_ret ?_
    | with_reducible refine DV.w_slice ?_
    | with_reducible refine DV.w_part ?_
    | with_reducible refine DV.w_slToI (by omega) ?_
    | with_reducible refine DV.w_slFromI (by omega) ?_
    | with_reducible refine DV.w_slToBI (by omega) ?_
    | with_reducible refine DV.w_slFromBI (by omega) ?_
    | with_reducible refine DV.w_star ?_
    | with_reducible refine DV.w_starT ?_
    | with_reducible refine DV.w_starB ?_
    | with_reducible refine DV.w_starN ?_
    | with_reducible refine DV.w_ixR (by omega) ?_
    | with_reducible refine DV.w_ixRB (by omega) ?_
    | with_reducible refine DV.w_lrg ?_
    | with_reducible refine DV.w_trg ?_
    | with_reducible refine DV.w_rg (by omega) ?_
    | with_reducible refine DV.w_enum ?_
    | with_reducible refine DV.w_zip ?_
    | with_reducible refine DV.w_zip3 ?_
    | with_reducible refine DV.w_step ?_
    | with_reducible refine DV.w_stepB (by omega) ?_
    | with_reducible refine DV.w_srev ?_
    | with_reducible refine DV.w_srevT ?_
    | with_reducible refine DV.w_isTT ?_
    | with_reducible refine DV.w_ntTT ?_
    | with_reducible refine DV.w_isFT ?_
    | with_reducible refine DV.w_ntFT ?_
    | with_reducible refine DV.w_isTF ?_
    | with_reducible refine DV.w_ntTF ?_
    | with_reducible refine DV.w_isFF ?_
    | with_reducible refine DV.w_ntFF ?_
    | with_reducible refine DV.w_ixS (by omega) ?_
    | with_reducible refine DV.w_ix2 ?_
    | with_reducible refine DV.w_gget2 ?_
    | with_reducible refine DV.w_notInTs ?_
    | with_reducible refine DV.w_inTs ?_
    | with_reducible refine DV.w_inTsN ?_
    | with_reducible refine DV.w_sset ?_
    | with_reducible refine DV.w_ssetU (by omega) (by assumption) ?_
    | with_reducible refine DV.w_met ?_
    | with_reducible refine DV.w_itL ?_
    | with_reducible refine DV.w_two ?_
    | with_reducible refine DV.w_twoX ?_
    | with_reducible refine DV.w_neS ?_
    | with_reducible refine DV.w_eqS ?_
    | with_reducible refine DV.w_rev ?_
    | with_reducible refine DV.w_revN ?_
    | with_reducible refine DV.w_lset ?_
    | with_reducible refine DV.w_isNL ?_
    | with_reducible refine DV.w_isBL ?_
    | with_reducible refine DV.w_ntNL ?_
    | with_reducible refine DV.w_ntBL ?_
    | with_reducible refine DV.w_abs ?_
    | with_reducible refine DV.w_neBl ?_
    | with_reducible refine DV.w_eqBl ?_
    | with_reducible refine DV.w_eqIP ?_
    | with_reducible refine DV.w_neIP ?_
    | with_reducible refine DV.w_ix3 ?_
    | with_reducible refine DVR.w_neW ?_
    | with_reducible refine DVR.w_ixL (by omega) ?_
    | with_reducible refine DV.w_dcomp ?_
    | with_reducible refine DV.w_intB ?_
    | with_reducible refine DV.w_augIx (by with_unfolding_all exact rfl) ?_
    | with_reducible refine DV.w_inN ?_
    | with_reducible refine DV.w_notInN ?_
    | with_reducible refine DV.w_srcE ?_
    | with_reducible refine DV.w_srcV (by with_unfolding_all exact rfl) ?_
    | with_reducible refine DV.w_src (by with_unfolding_all exact rfl) ?_
    | with_reducible refine DV.w_rng1 ?_
    | with_reducible refine DV.w_rng2 ?_
    | with_reducible refine DV.w_rng2I (by omega) ?_
    | with_reducible refine DV.w_rngN (by omega) ?_
    | with_reducible refine DV.w_rngI (by omega) ?_
    | with_reducible refine DV.w_loopN ?_
    | with_reducible refine DV.w_loopC ?_
    | with_reducible refine DV.w_loopB ?_
    | with_reducible refine DV.w_loopR ?_
    | with_reducible refine DV.w_runN ?_
    | with_reducible refine DV.w_runR ?_
    | with_reducible refine DV.w_tg (by with_unfolding_all (simp only [DV.lockE, DV.unlockE, List.getElem?_cons_succ, List.getElem?_cons_zero, DV.wipeE, DV.gTupF, DV.gMore, DV.gNone, DV.gNm, List.set_cons_succ, List.set_cons_zero, List.length]; rfl)) ?_)
end DVL







namespace DVL
open PySem L2 DV
/-- a is done no later than b in the rule -/
def Bst (ts rs : List Int) (b : Int) (l : List Int) : Prop := ∀ a ∈ l, val ts b * val rs a ≤ val ts a * val rs b
end DVL


namespace DVL
open PySem L2 DV
def stp (ts rs : List Int) (day j : Int) : Int := day + (val ts j + val rs j * day)
end DVL

namespace DVL
open PySem L2 DV
theorem getD_pre (pre : List Int) (x : Int) (l : List Int) : (pre ++ x :: l).getD pre.length 0 = x := by
  rw [List.getD_eq_getElem?_getD, List.getElem?_append_right (Nat.le_refl _), Nat.sub_self]
  rfl
theorem rng_val : ∀ (ws pre : List Int), (rngI (pre.length : Nat) ws.length).map (fun i => (pre ++ ws).getD i.toNat 0) = ws
  | [], _ => rfl
  | w :: ws, pre => by
    have ih := rng_val ws (pre ++ [w])
    rw [List.length_append, List.length_singleton, List.append_assoc] at ih
    show (pre ++ w :: ws).getD ((pre.length : Nat) : Int).toNat 0 :: (rngI ((pre.length : Int) + 1) ws.length).map (fun i => (pre ++ w :: ws).getD i.toNat 0) = w :: ws
    rw [Int.toNat_natCast, getD_pre]
    congr 1
theorem perm_sum {a b : List Int} (h : a.Perm b) : a.sum = b.sum := by
  induction h with
  | nil => rfl
  | cons x _ ih => rw [List.sum_cons, List.sum_cons, ih]
  | swap x y l =>
    rw [List.sum_cons, List.sum_cons, List.sum_cons, List.sum_cons]
    omega
  | trans _ _ h1 h2 => exact h1.trans h2
theorem sum_perm (ts : List Int) {p : List Int} (hp : p.Perm (rngI 0 ts.length)) : (p.map (val ts)).sum = ts.sum := by
  have e := rng_val ts []
  have h : ((rngI 0 ts.length).map (val ts)) = ts := e
  have h2 := (hp.map (val ts))
  rw [h] at h2
  exact perm_sum h2
/-- the law's names -/
theorem Tm.ord {ts p : List Int} (W : Tm ts) (hp : p.Perm (rngI 0 ts.length)) : DV.Gives (m_need_order [.d (ti p), .d (.int ((ts.map PyData.int).length : Nat))]) fun r => r = .d .none := by
  have no := need_order_ok p ts.length (by have := W.len; omega) hp
  rwa [← (List.length_map .. : (ts.map PyData.int).length = ts.length)] at no
end DVL

namespace DVL
open PySem L2 DV
theorem Tm.tp {ts p : List Int} (W : Tm ts) (hp : p.Perm (rngI 0 ts.length)) : ∀ j ∈ p, 1 ≤ val ts j := fun j hj => (W.t (order_mem hp hj).1 (order_mem hp hj).2).1
end DVL

namespace DVL
open PySem L2 DV
abbrev kp (a b : Int) : D := .tuple [.int a, .int b]
/-- in the order of pairs -/
abbrev pLe (k : Int → Int × Int) (i j : Int) : Prop := (k i).1 < (k j).1 ∨ ((k i).1 = (k j).1 ∧ (k i).2 ≤ (k j).2)
end DVL

namespace DVL
open PySem L2 DV
def hitQ (x : Int) (p : Int × Int) : Bool := decide (p.1 ≤ x) && decide (x < p.2)
def hitB (ss : List (Int × Int)) (x : Int) : Bool := ss.any (hitQ x)
def free (ss : List (Int × Int)) (last : Nat) : List Int := (rngI 0 last).filter fun x => !hitB ss x
theorem canLay_prs : ∀ ss : List (Int × Int), PyData.canLayAll0 (ss.map pr) = true
  | [] => by simp [PyData.canLayAll0]
  | p :: ss => by
    rw [List.map_cons, PyData.canLayAll0, canLay_prs ss]
    simp [PyData.canLay0, PyData.canLayAll0]
theorem depth_prs : ∀ ss : List (Int × Int), PyData.depthAll (ss.map pr) ≤ 1
  | [] => by simp [PyData.depthAll]
  | p :: ss => by
    rw [List.map_cons, PyData.depthAll]
    have := depth_prs ss
    simp [PyData.depth, PyData.depthAll]
    omega
end DVL


namespace DVL
open PySem L2 DV
def at2 (tb : List (Int × Int)) (j : Int) : Int × Int := tb.getD j.toNat (0, 0)
def rowsL (tb : List (Int × Int)) (ls : List Int) : List (Int × Int) := (tb.zip ls).map fun q => (q.1.1 + q.2, q.1.2 + q.2)
def srtP (k : Int → Int × Int) (js : List Int) : List Int := js.mergeSort fun i j => decide (pLe k i j)
theorem srtP_perm (k : Int → Int × Int) (js : List Int) : (srtP k js).Perm js := List.mergeSort_perm _ _
end DVL

namespace DVL
open PySem L2 DV
structure Tb (tb : List (Int × Int)) : Prop where
  pos : 1 ≤ tb.length
  len : tb.length ≤ 8
  rng : ∀ p ∈ tb, (0 ≤ p.1 ∧ p.1 ≤ 60) ∧ 0 ≤ p.2 ∧ p.2 ≤ 60
section
variable {tb : List (Int × Int)} {ls : List Int}
theorem at2_mem {j : Int} (h0 : 0 ≤ j) (h1 : j < tb.length) : at2 tb j ∈ tb := by
  unfold at2
  rw [List.getD_eq_getElem?_getD, List.getElem?_eq_getElem (by omega)]
  exact List.getElem_mem _
theorem Tb.at (B : Tb tb) {j : Int} (h0 : 0 ≤ j) (h1 : j < tb.length) : (0 ≤ (at2 tb j).1 ∧ (at2 tb j).1 ≤ 60) ∧ 0 ≤ (at2 tb j).2 ∧ (at2 tb j).2 ≤ 60 := B.rng _ (at2_mem h0 h1)
theorem gIx_tb {j : Int} (h0 : 0 ≤ j) (h1 : j < tb.length) : gIx (.d (sts tb)) (.d (.int j)) = some (.d (pr (at2 tb j))) := by
  obtain ⟨k, rfl⟩ : ∃ k : Nat, j = (k : Int) := ⟨j.toNat, by omega⟩
  have hk : k < tb.length := by omega
  show (atI (tb.map pr) (k : Int)).map RV.d = _
  rw [atI_pr tb hk]
  unfold at2
  rw [Int.toNat_natCast, List.getD_eq_getElem?_getD, List.getElem?_eq_getElem hk]
  rfl
end
end DVL



namespace DVL
open PySem L2 DV
def rowA (tb : List (List Int)) (j : Int) : List Int := tb.getD j.toNat []
/-- the ends of a job on all machines: no machine begins ahead of its free day -/
def stepR : Int → List Int → List Int → List Int
  | d, f :: fs, t :: ts => (max d f + t) :: stepR (max d f + t) fs ts
  | _, _, _ => []
def flE (tb : List (List Int)) : List Int → List Int → List Int
  | F, [] => F
  | F, j :: p => flE tb (stepR 0 F (rowA tb j)) p
def lastI (l : List Int) : Int := l.getLastD 0
/-- the last end of an order -/
def flen (m : Nat) (tb : List (List Int)) (p : List Int) : Int := lastI (flE tb (List.replicate m 0) p)
end DVL


namespace DVL
open PySem L2 DV
structure Sp (ss : List (Int × Int)) : Prop where
  pos : 1 ≤ ss.length
  len : ss.length ≤ 14
  rng : ∀ p ∈ ss, 0 ≤ p.1 ∧ p.1 < p.2 ∧ p.2 ≤ 600
section
variable {ss : List (Int × Int)}
theorem Sp.at (S : Sp ss) {j : Int} (h0 : 0 ≤ j) (h1 : j < ss.length) : 0 ≤ (at2 ss j).1 ∧ (at2 ss j).1 < (at2 ss j).2 ∧ (at2 ss j).2 ≤ 600 := S.rng _ (at2_mem h0 h1)
end
end DVL

namespace DVL
open PySem L2 DV
theorem gv_sortSet {f : DV.Env → M RV} {ρ : DV.Env} {P : RV → Prop} (p : DV.Gives (f ρ) fun x => ∃ js, sortSetOf x = some js ∧ P (.n (js.map PyData.int))) : DV.Gives (eSortSet f ρ) P := by
  unfold eSortSet
  refine DV.Gives.bnd p fun x ⟨js, e, q⟩ => ?_
  rw [e, lft_s, bnd_ret]
  exact DV.Gives.ret q
theorem sortSet_ti {js : List Int} (h : js.length < 64) : sortSetOf (.d (ti js)) = some (sortI (ddI js)) := by
  unfold sortSetOf
  simp only [intsOf_map, if_pos h]
theorem sort_up {js : List Int} (h : js.Pairwise (· < ·)) : sortI (ddI js) = js := by
  rw [ddI_of_nodup js (h.imp fun h => Int.ne_of_lt h)]
  exact sorted_uniq (sortI_perm js) (sortI_sorted js) (h.imp fun h => Int.le_of_lt h)
theorem sort_nodup {js : List Int} (h : js.Nodup) : (sortI js).Pairwise (· < ·) := by
  have h2 : (sortI js).Nodup := (sortI_perm js).nodup_iff.mpr h
  exact (List.pairwise_and_iff.mpr ⟨sortI_sorted js, h2⟩).imp fun {a b} ⟨h1, h2⟩ => by
    have : a ≠ b := h2
    omega
end DVL

namespace DVL
open PySem L2 DV
def cnt (ss : List (Int × Int)) (d : Int) : Nat := (ss.filter fun p => decide (p.1 ≤ d ∧ d < p.2)).length
end DVL

namespace DVL
open PySem L2 DV
theorem nodup_le : ∀ {p q : List Int}, p.Nodup → (∀ x ∈ p, x ∈ q) → p.length ≤ q.length
  | [], _, _, _ => Nat.zero_le _
  | x :: p, q, nd, hs => by
    obtain ⟨h1, h2⟩ := List.nodup_cons.mp nd
    have hx := hs x List.mem_cons_self
    have e := List.perm_cons_erase hx
    have := nodup_le (q := q.erase x) h2 fun y hy => by
      rcases List.mem_cons.mp (e.mem_iff.mp (hs y (List.mem_cons_of_mem _ hy))) with z | z
      · exact absurd (z ▸ hy) h1
      · exact z
    have h3 := e.length_eq
    rw [List.length_cons] at h3 ⊢
    omega
end DVL

namespace DVL
open PySem L2 DV
section
variable {ss : List (Int × Int)}
/-- the free machines -/
def able (fr : List Int) (b : Int) : List Int := (rngI 0 fr.length).filter fun k => decide (val fr k ≤ b)
theorem boolsOf_map : ∀ bs : List Bool, boolsOf (bs.map PyData.bool) = some bs
  | [] => rfl
  | b :: bs => by
    show (match boolsOf (bs.map PyData.bool) with | some js => some (b :: js) | none => none) = _
    rw [boolsOf_map bs]
end
end DVL



namespace DVL
open PySem L2 DV
section
variable {ss : List (Int × Int)}
theorem Sp.ne (S : Sp ss) : ss ≠ [] := fun e => by have := S.pos; rw [e] at this; simp at this
end
end DVL

namespace DV
open PySem L2
def KSk (el : Env → M RV) (ip : Nat) (ρ : Env) (P : RV → Prop) (its : List D) : Prop := its.length ≤ 100000 ∧ Gives (keysF el ρ ip its) fun kz => okKeys kz = true ∧ P (.n (sortK its kz))
section
variable {α : Type} {ρ : Env} {P : RV → Prop} {f el : Env → M RV} {ip : Nat} {x : RV}
theorem w_sortK {fi : Env → M (List D)} (p : Gives (fi ρ) (KSk el ip ρ P)) : Gives (eSortK fi el ip ρ) P := by
  unfold eSortK
  refine Gives.bnd p fun its ⟨hl, q⟩ => Gives.bnd q fun kz ⟨h, r⟩ => ?_
  rw [if_pos ⟨h, hl⟩]
  exact Gives.ret r
theorem w_colS {C : List D → Prop} (p : Gives (f ρ) fun x => ∃ ds, items x = some ds ∧ C ds) : Gives (colS f ρ) C := Gives.bnd p fun x ⟨ds, e, q⟩ => by rw [e, lft_s]; exact Gives.ret q
theorem w_itT {C : List D → Prop} {ds : List D} (p : C ds) : ∃ es, items (.d (.tuple ds)) = some es ∧ C es := ⟨ds, rfl, p⟩
theorem w_itB {C : List D → Prop} {ds : List D} (p : C ds) : ∃ es, items (.b ds) = some es ∧ C es := ⟨ds, rfl, p⟩
theorem w_itN {C : List D → Prop} {ds : List D} (p : C ds) : ∃ es, items (.n ds) = some es ∧ C es := ⟨ds, rfl, p⟩
theorem w_colR {C : List D → Prop} (p : Gives (f ρ) fun x => ∃ n : Nat, x = .d (.int (n : Int)) ∧ n ≤ 100000 ∧ C ((DVL.rngI 0 n).map PyData.int)) : Gives (colR (rg1F f) ρ) C := by
  intro rs
  obtain ⟨x, rs1, e, n, rfl, hn, q⟩ := p rs
  refine ⟨_, rs1, ?_, q⟩
  unfold colR rg1F bnd
  simp only [e]
  show (if okRg 0 (n : Int) = true then ret (rngD 0 ((n : Int) - 0).toNat) else fail) rs1 = _
  rw [if_pos (by unfold okRg; simp; omega), DVL.rngD_eq]
  have e1 : ((n : Int) - 0).toNat = n := by omega
  rw [e1]
  rfl
theorem w_colRN {n : Nat} {C : List D → Prop} (c : n ≤ 100000) (p : C ((DVL.rngI 0 n).map PyData.int)) : ∃ m : Nat, RV.d (.int (n : Int)) = .d (.int (m : Int)) ∧ m ≤ 100000 ∧ C ((DVL.rngI 0 m).map PyData.int) := ⟨n, rfl, c, p⟩
def byP (F G : α → Int) (a b : α) : Prop := F a < F b ∨ (F a = F b ∧ G a ≤ G b)
instance (F G : α → Int) (a b : α) : Decidable (byP F G a b) := by unfold byP; exact inferInstance
def sbP (F G : α → Int) (L : List α) : List α := L.mergeSort fun a b => decide (byP F G a b)
def byT (F G H : α → Int) (a b : α) : Prop := F a < F b ∨ (F a = F b ∧ (G a < G b ∨ (G a = G b ∧ H a ≤ H b)))
instance (F G H : α → Int) (a b : α) : Decidable (byT F G H a b) := by unfold byT; exact inferInstance
theorem eqvP (a b c d : Int) : PyData.eqv (.tuple [.int a, .int b]) (.tuple [.int c, .int d]) = decide (a = c ∧ b = d) := by
  simp only [PyData.eqv, PyData.eqvAll]
  by_cases h1 : a = c <;> by_cases h2 : b = d <;> simp [h1, h2]
end
end DV

namespace DV
open PySem L2
def KLc2 (vs : List Nat) (tg : D → Env → Option Env) (t : Env → M Bool) (fi1 : Env → M (List D × Option Nat)) (vs1 : List Nat) (tg1 : D → Env → Option Env) (t1 : Env → M Bool) (el : Env → M RV) (ρ : Env) (P : RV → Prop) (q : List D × Option Nat) : Prop :=
  Gives (lc2F tg t fi1 vs1 tg1 t1 el (wipeE ρ vs) q.1) fun ds => ds.length ≤ 100000 ∧ P (.n ds)
section
variable {α β : Type} {ρ : Env} {P : RV → Prop} {tg tg1 : D → Env → Option Env} {t t1 : Env → M Bool} {fi fi1 : Env → M (List D × Option Nat)} {vs vs1 : List Nat} {el : Env → M RV}
theorem w_lc2 (p : Gives (fi ρ) (KLc2 vs tg t fi1 vs1 tg1 t1 el ρ P)) : Gives (eLc2 fi vs tg t fi1 vs1 tg1 t1 el ρ) P := by
  unfold eLc2
  refine Gives.bnd p fun q r => Gives.bnd r fun ds ⟨hl, k⟩ => ?_
  rw [if_pos hl]
  exact Gives.ret k
theorem All2.mem {p : α → β → Prop} : ∀ {L : List α} {bs : List β}, All2 p L bs → ∀ b ∈ bs, ∃ a ∈ L, p a b
  | _, _, .nil, _, h => nomatch h
  | _, _, .cons h t, b, hb => by
    rcases List.mem_cons.mp hb with e | e
    · subst e; exact ⟨_, List.mem_cons_self, h⟩
    · obtain ⟨a, ha, pa⟩ := All2.mem t b e
      exact ⟨a, List.mem_cons_of_mem _ ha, pa⟩
theorem w_isNN (p : P (.d (.bool true))) : K2 gIs P (.d .none) (.d .none) := ⟨_, rfl, p⟩
theorem w_isNI {a : Int} (p : P (.d (.bool false))) : K2 gIs P (.d (.int a)) (.d .none) := ⟨_, rfl, p⟩
theorem w_isNT {a : List D} (p : P (.d (.bool false))) : K2 gIs P (.d (.tuple a)) (.d .none) := ⟨_, rfl, p⟩
theorem w_ntNN (p : P (.d (.bool false))) : K2 gIsNot P (.d .none) (.d .none) := ⟨_, rfl, p⟩
theorem w_ntNI {a : Int} (p : P (.d (.bool true))) : K2 gIsNot P (.d (.int a)) (.d .none) := ⟨_, rfl, p⟩
theorem w_ntNT {a : List D} (p : P (.d (.bool true))) : K2 gIsNot P (.d (.tuple a)) (.d .none) := ⟨_, rfl, p⟩
theorem w_repND {x : D} {n : Nat} (c : n ≤ 1000) (p : P (.n (List.replicate n x))) : K2 gMulA P (.n [x]) (.d (.int (n : Nat))) := by
  refine ⟨_, ?_, p⟩
  show (if -1000 ≤ (n : Int) ∧ (n : Int) ≤ 1000 ∧ ([x] : List D).length ≤ 1000 then some (RV.n (List.replicate (n : Int).toNat [x]).flatten) else none) = _
  rw [if_pos ⟨by omega, by omega, by simp⟩, Int.toNat_natCast, List.flatten_replicate_singleton]
def KPut (i : Nat) (ds : List D) (ρ : Env) (Q : Out → Prop) (d : D) (j : Int) : Prop := ∃ m, ixN ds.length j = some m ∧ KSet i ρ Q (.n (ds.set m d))
theorem w_put {i : Nat} {f g : Env → M RV} {Q : Out → Prop} {ds : List D} (e1 : sApp.own? ρ i = some ds) (p : Gives (f ρ) (KD fun d => Gives (g ρ) (KI fun j => KPut i ds ρ Q d j))) : Gives (sPut i f g ρ) Q :=
  DVL.gv_put e1 (p.mono fun x ⟨d, e, q⟩ => q.mono fun y ⟨j, e2, m, e3, sv, e4, q⟩ => ⟨j, d, m, e2, e, e3, by cases e4; exact q⟩)
theorem w_putM {i : Nat} {Q : Out → Prop} {L : List α} {mk : α → D} {d : D} {j : Int} (b : α) (ed : d = mk b) (c : 0 ≤ j ∧ j < L.length) (p : KSet i ρ Q (.n ((L.set j.toNat b).map mk))) : KPut i (L.map mk) ρ Q d j := by
  subst ed
  refine ⟨j.toNat, DVL.ixN_nat c.1 (by rw [List.length_map]; exact c.2), ?_⟩
  rw [← List.map_set]
  exact p
theorem w_putI {i : Nat} {Q : Out → Prop} {L : List Int} {b j : Int} (c : 0 ≤ j ∧ j < L.length) (p : KSet i ρ Q (.n ((L.set j.toNat b).map PyData.int))) : KPut i (L.map PyData.int) ρ Q (.int b) j := w_putM b rfl c p
/-- a walk over a list of one's own -/
theorem w_loopK {g : Env → M Out} {Q : Out → Prop} {mk : α → D} {lk : Option Nat} {L : List α} (I : List α → Env → Prop) (h0 : KTg (some (lockE ρ lk)) (I L))
    (hs : ∀ a rest ρ1, I (a :: rest) ρ1 → KTg (tg (mk a) ρ1) fun ρ2 => Gives (g ρ2) (KLoop (I rest) fun o => Q (unlockO ρ lk o))) (hd : ∀ ρ1, I [] ρ1 → KTg (some (unlockE ρ ρ1 lk)) fun ρ2 => Q (.nx ρ2)) : KFor tg g ρ Q (L.map mk, lk) :=
  w_loop I (by obtain ⟨_, e, h⟩ := h0; obtain rfl := Option.some.inj e; exact h) hs fun ρ1 h => by
    obtain ⟨_, e, q⟩ := hd ρ1 h
    obtain rfl := Option.some.inj e
    exact q
theorem w_eqB0 {a : List Int} (p : P (.d (.bool (decide (a = []))))) : K2 gEq P (.b (a.map PyData.int)) (.n []) := ⟨_, DVL.eq_lists false a [], p⟩
theorem w_neB0 {a : List Int} (p : P (.d (.bool (!decide (a = []))))) : K2 gNe P (.b (a.map PyData.int)) (.n []) := ⟨_, DVL.eq_lists true a [], p⟩
theorem w_eqBB {a b : List Int} (p : P (.d (.bool (decide (a = b))))) : K2 gEq P (.b (a.map PyData.int)) (.b (b.map PyData.int)) := ⟨_, DVL.eq_lists false a b, p⟩
theorem w_neBB {a b : List Int} (p : P (.d (.bool (!decide (a = b))))) : K2 gNe P (.b (a.map PyData.int)) (.b (b.map PyData.int)) := ⟨_, DVL.eq_lists true a b, p⟩
theorem w_eqNB {a b : List Int} (p : P (.d (.bool (decide (a = b))))) : K2 gEq P (.n (a.map PyData.int)) (.b (b.map PyData.int)) := ⟨_, DVL.eq_lists false a b, p⟩
theorem w_neNB {a b : List Int} (p : P (.d (.bool (!decide (a = b))))) : K2 gNe P (.n (a.map PyData.int)) (.b (b.map PyData.int)) := ⟨_, DVL.eq_lists true a b, p⟩
theorem w_eqBN {a b : List Int} (p : P (.d (.bool (decide (a = b))))) : K2 gEq P (.b (a.map PyData.int)) (.n (b.map PyData.int)) := ⟨_, DVL.eq_lists false a b, p⟩
theorem w_neBN {a b : List Int} (p : P (.d (.bool (!decide (a = b))))) : K2 gNe P (.b (a.map PyData.int)) (.n (b.map PyData.int)) := ⟨_, DVL.eq_lists true a b, p⟩
theorem eq_tis (neg : Bool) (a b : List Int) : gEqB neg (.d (ti a)) (.d (ti b)) = some (.d (.bool (if neg then !decide (a = b) else decide (a = b)))) := by
  show (if SeqAt.shaped (ti a) = true then if SeqAt.shaped (ti b) = true then some (RV.d (.bool (if neg then !PyData.eqv (ti a) (ti b) else PyData.eqv (ti a) (ti b)))) else none else none) = _
  rw [if_pos (DVL.shaped_intsT a), if_pos (DVL.shaped_intsT b)]
  have e : PyData.eqv (ti a) (ti b) = decide (a = b) := by
    show PyData.eqv (.tuple _) (.tuple _) = _
    rw [PyData.eqv]
    exact DVL.eqv_intsA a b
  rw [e]
theorem w_eqT {a b : List Int} (p : P (.d (.bool (decide (a = b))))) : K2 gEq P (.d (ti a)) (.d (ti b)) := ⟨_, eq_tis false a b, p⟩
theorem w_neT {a b : List Int} (p : P (.d (.bool (!decide (a = b))))) : K2 gNe P (.d (ti a)) (.d (ti b)) := ⟨_, eq_tis true a b, p⟩
theorem w_eqT0 {a : List Int} (p : P (.d (.bool (decide (a = []))))) : K2 gEq P (.d (ti a)) (.d (.tuple [])) := ⟨_, eq_tis false a [], p⟩
theorem w_neT0 {a : List Int} (p : P (.d (.bool (!decide (a = []))))) : K2 gNe P (.d (ti a)) (.d (.tuple [])) := ⟨_, eq_tis true a [], p⟩
theorem w_setApp {i : Nat} {Q : Out → Prop} {A : List Int} {b : Int} (p : KSet i ρ Q (.n ((A ++ [b]).map PyData.int))) : KSet i ρ Q (.n (A.map PyData.int ++ [PyData.int b])) := by rw [List.map_append] at p; exact p
theorem w_isT {T : TyT} {f : Env → M RV} (p : Gives (f ρ) fun x => ∃ d, viewD x = some d ∧ P (.d (.bool (isT T d)))) : Gives (eIsT T f ρ) P := gv_isT p
end
end DV

namespace DVL
open PySem L2 DV
section
variable {ss : List (Int × Int)} {S T pre : List Int} {i : Int} {B : Nat} {b b0 : Int}
/-- those that hold a day -/
def hereD (ss : List (Int × Int)) (d : Int) (S : List Int) : List Int := S.filter fun j => decide ((at2 ss j).1 ≤ d ∧ d < (at2 ss j).2)
/-- no more than some share a moment -/
def Feas (ss : List (Int × Int)) (B : Nat) (S : List Int) : Prop := ∀ i ∈ S, (hereD ss (at2 ss i).1 S).length ≤ B
theorem Feas.perm (h : S.Perm T) (F : Feas ss B S) : Feas ss B T := fun i hi => by
  have h1 := F i (h.mem_iff.mpr hi)
  unfold hereD at *
  rw [← (h.filter _).length_eq]
  exact h1
theorem Feas.sub (h : T.Sublist S) (F : Feas ss B S) : Feas ss B T := fun i hi => Nat.le_trans (h.filter _).length_le (F i (h.subset hi))
end
section
variable {κ : Type} [DecidableEq κ]
def pm (M : List (κ × Int)) (k : κ) (w : Int) : List (κ × Int) := putA M k (max ((getA M k).getD w) w)
variable {M : List (κ × Int)} {k : κ} {w : Int} {p : κ × Int}
end
abbrev HM := List (List Int × Int)
section
variable {ss : List (Int × Int)} {ws pre : List Int} {B : Nat} {b0 i : Int} {M N done : HM} {p : List Int × Int}
theorem sum_permI {a b : List Int} (h : a.Perm b) : a.sum = b.sum := by
  induction h with
  | nil => rfl
  | cons x _ ih => rw [List.sum_cons, List.sum_cons, ih]
  | swap x y l => rw [List.sum_cons, List.sum_cons, List.sum_cons, List.sum_cons]; omega
  | trans _ _ h1 h2 => rw [h1, h2]
end
end DVL

namespace DVG
open PySem L2 DV DVL
/-- the first of the least -/
def am (L : List Int) : Nat := L.findIdx fun x => L.all fun y => decide (x ≤ y)
/-- one job more: loads and places -/
def stp (ts : List Int) (s : List Int × List Int) (j : Int) : List Int × List Int := (s.1.set (am s.1) (val s.1 (am s.1 : Nat) + val ts j), s.2.set j.toNat (am s.1 : Nat))
/-- what some jobs weigh on a machine -/
def gs (a : List Int) (w : Int → Int) (S : List Int) (m : Int) : Int := ((S.filter fun i => decide (val a i = m)).map w).sum
end DVG

namespace DV
open PySem L2
section
variable {ρ ρ' : Env} {P : RV → Prop} {Q : Out → Prop} {f g : Env → M RV}
def KAx (i : Nat) (kf : Int → Int → Int) (ds : List D) (f : Env → M RV) (ρ : Env) (Q : Out → Prop) (j : Int) : Prop := ∃ m a, ixN ds.length j = some m ∧ (ds[m]?).bind dI = some a ∧ Gives (f ρ) (KI fun b => KSet i ρ Q (.n (ds.set m (.int (kf a b)))))
theorem w_augIx {i : Nat} {kf : Int → Int → Int} {ds : List D} (e1 : sApp.own? ρ i = some ds) (p : Gives (g ρ) (KI (KAx i kf ds f ρ Q))) : Gives (sAugIx i kf g f ρ) Q := by
  unfold sAugIx
  rw [e1, lft_s, bnd_ret]
  refine Gives.bnd p fun y ⟨j, e2, m, a, e3, e4, q⟩ => ?_
  rw [e2, lft_s, bnd_ret, e3, lft_s, bnd_ret, e4, lft_s, bnd_ret]
  refine Gives.bnd q fun x ⟨b, e5, sv, e6, q⟩ => ?_
  rw [e5, lft_s, bnd_ret]
  cases e6
  exact Gives.ret q
theorem w_isBl {a b : Bool} (p : P (.d (.bool (a == b)))) : K2 (gIsBl false) P (.d (.bool a)) (.d (.bool b)) := ⟨.d (.bool (a == b)), by cases a <;> cases b <;> rfl, p⟩
theorem w_ntBl {a b : Bool} (p : P (.d (.bool (a != b)))) : K2 (gIsBl true) P (.d (.bool a)) (.d (.bool b)) := ⟨.d (.bool (a != b)), by cases a <;> cases b <;> rfl, p⟩
theorem w_isTT (p : P (.d (.bool true))) : K2 (gIsBl false) P (.d (.bool true)) (.d (.bool true)) := w_isBl p
theorem w_ntTT (p : P (.d (.bool false))) : K2 (gIsBl true) P (.d (.bool true)) (.d (.bool true)) := w_ntBl p
theorem w_isFT (p : P (.d (.bool false))) : K2 (gIsBl false) P (.d (.bool false)) (.d (.bool true)) := w_isBl p
theorem w_ntFT (p : P (.d (.bool true))) : K2 (gIsBl true) P (.d (.bool false)) (.d (.bool true)) := w_ntBl p
theorem w_isTF (p : P (.d (.bool false))) : K2 (gIsBl false) P (.d (.bool true)) (.d (.bool false)) := w_isBl p
theorem w_ntTF (p : P (.d (.bool true))) : K2 (gIsBl true) P (.d (.bool true)) (.d (.bool false)) := w_ntBl p
theorem w_isFF (p : P (.d (.bool true))) : K2 (gIsBl false) P (.d (.bool false)) (.d (.bool false)) := w_isBl p
theorem w_ntFF (p : P (.d (.bool false))) : K2 (gIsBl true) P (.d (.bool false)) (.d (.bool false)) := w_ntBl p
def KZip3 (C : List D × Option Nat → Prop) (p q r : List D × Option Nat) : Prop := ∃ l l2, joinLk p.2 q.2 = some l ∧ joinLk l r.2 = some l2 ∧ C (zip3D p.1 q.1 r.1, l2)
theorem w_zip3 {C : List D × Option Nat → Prop} {s1 s2 s3 : Env → M (List D × Option Nat)} (p : Gives (s1 ρ) fun a => Gives (s2 ρ) fun b => Gives (s3 ρ) fun c => KZip3 C a b c) : Gives (iZip3F s1 s2 s3 ρ) C :=
  Gives.bnd p fun a q => Gives.bnd q fun b q => Gives.bnd q fun c ⟨l, l2, e, e2, r⟩ => by rw [e, lft_s, bnd_ret, e2, lft_s, bnd_ret]; exact Gives.ret r
end
end DV

namespace DV
open PySem L2
section
variable {ρ ρ' : Env} {P : RV → Prop} {Q : Out → Prop} {f g : Env → M RV}
def KStep (P : RV → Prop) (x : RV) (l k : Option Int) : Prop := ∃ ds a b, newL x = some ds ∧ l = some a ∧ k = some b ∧ b ≠ 0 ∧ P (.n (pickA ds a b))
theorem w_step {lo st : Env → M (Option Int)} (p : Gives (f ρ) fun x => Gives (lo ρ) fun l => Gives (st ρ) fun k => KStep P x l k) : Gives (eStep f lo st ρ) P := by
  unfold eStep
  refine Gives.bnd p fun x q1 => Gives.bnd q1 fun l q2 => Gives.bnd q2 fun k ⟨ds, a, b, e, e1, e2, h, q4⟩ => ?_
  subst e1 e2
  show Gives (if b = 0 then fail else bnd (lft (newL x)) fun ds => ret (.n (pickA ds a b))) P
  rw [if_neg h, e, lft_s, bnd_ret]
  exact Gives.ret q4
theorem pickA_map {α β : Type} (h : α → β) (L : List α) (a b : Int) : pickA (L.map h) a b = (pickA L a b).map h := by
  unfold pickA
  rw [List.length_map, List.map_filterMap]
  congr 1
  funext i
  exact List.getElem?_map
theorem w_stepB {α : Type} {mk : α → D} {L : List α} {a b : Int} (h : b ≠ 0) (p : P (.n ((pickA L a b).map mk))) : KStep P (.b (L.map mk)) (some a) (some b) := ⟨_, a, b, rfl, rfl, rfl, h, by rw [pickA_map]; exact p⟩
theorem w_srev (p : Gives (f ρ) fun x => ∃ js, items x = some (js.map PyData.int) ∧ P (.n ((sortI js).reverse.map PyData.int))) : Gives (eSortRev f ρ) P := by
  unfold eSortRev
  refine Gives.bnd p fun x ⟨js, e, q⟩ => ?_
  rw [e, lft_s, bnd_ret, DVL.intsOf_map, lft_s, bnd_ret]
  exact Gives.ret q
theorem w_srevT {js : List Int} (p : P (.n ((sortI js).reverse.map PyData.int))) : ∃ js', items (.d (ti js)) = some (js'.map PyData.int) ∧ P (.n ((sortI js').reverse.map PyData.int)) := ⟨js, rfl, p⟩
end
end DV

namespace DV
open PySem L2
section
variable {P : RV → Prop} {f h : Env → DV.M RV} {ρ : Env} {Q : Out → Prop}
theorem w_met {gg : RV → RV → Option RV} (p : Gives (f ρ) fun x => ∃ ds, itemsL x = some ds ∧ Gives (h ρ) fun y => K2 gg P x y) : Gives (eMet gg f h ρ) P := by
  unfold eMet
  refine Gives.bnd p fun x ⟨ds, e, q⟩ => ?_
  rw [e, lft_s, bnd_ret]
  refine Gives.bnd q fun y ⟨z, e2, q2⟩ => ?_
  rw [e2]
  exact Gives.ret q2
theorem w_itL {C : Prop} {ds : List D} (p : C) : ∃ es, itemsL (.b ds) = some es ∧ C := ⟨ds, rfl, p⟩
/-- x[i], y[j] = a, b of ints -/
def KTwo (t1 t2 : Tgt) (ρ : Env) (Q : Out → Prop) (xs : List RV) : Prop := ∃ d e, xs = [.d d, .d e] ∧ Gives (tgtF t1 d ρ) fun ρ1 => Gives (tgtF t2 e ρ1) fun ρ2 => Q (.nx ρ2)
theorem w_two {t1 t2 : Tgt} {fa : Env → DV.M (List RV)} (p : Gives (fa ρ) (KTwo t1 t2 ρ Q)) : Gives (sTwo t1 t2 fa ρ) Q := by
  unfold sTwo
  refine Gives.bnd p fun xs ⟨d, e, ex, q⟩ => ?_
  subst ex
  show Gives (bnd (lft (some d)) fun d => bnd (lft (some e)) fun e => bnd (tgtF t1 d ρ) fun ρ1 => bnd (tgtF t2 e ρ1) fun ρ2 => ret (.nx ρ2)) Q
  rw [lft_s, bnd_ret, lft_s, bnd_ret]
  refine Gives.bnd q fun ρ1 q1 => ?_
  exact Gives.bnd q1 fun ρ2 q2 => Gives.ret q2
theorem w_twoX {t1 t2 : Tgt} {d e : D} (p : Gives (tgtF t1 d ρ) fun ρ1 => Gives (tgtF t2 e ρ1) fun ρ2 => Q (.nx ρ2)) : KTwo t1 t2 ρ Q [.d d, .d e] := ⟨d, e, rfl, p⟩
end
end DV

namespace DVL
open PySem L2 DV
section
variable {ss : List (Int × Int)} {ws S T pre : List Int} {i : Int}
abbrev R3 := Int × Int × List Int
end
end DVL

namespace DV
open PySem L2
section
variable {κ : Type} [DecidableEq κ] {E : Key κ} {ρ ρ' : Env} {P : RV → Prop} {Q : Out → Prop} {f h k : Env → DV.M RV} {x y : RV}
theorem w_ixS {tb : List (Int × Int)} {j : Int} (c : 0 ≤ j ∧ j < tb.length) (p : P (.d (DVL.pr (DVL.at2 tb j)))) : K2 gIx P (.d (DVL.sts tb)) (.d (.int j)) := ⟨_, DVL.gIx_tb c.1 c.2, p⟩
theorem w_ix2 {d e g : D} {ds : List D} (p : P (.d g)) : K2 gIx P (.d (.tuple (d :: e :: g :: ds))) (.d (.int 2)) := by
  refine ⟨.d g, ?_, p⟩
  show (atI (d :: e :: g :: ds) ((2 : Nat) : Int)).map RV.d = _
  rw [atI_nat (v := g) rfl]; rfl
/-- d.get(k, x) -/
def KGg2 (c : DC) (k : Env → DV.M RV) (ρ : Env) (P : RV → Prop) (d : D) : Prop := keyOk c.t d = true ∧ Gives (k ρ) fun z => P (match lookK c.kv (nk d) with | some vd => .d vd | none => z)
theorem w_gget2 (p : Gives (f ρ) fun x => ∃ c, dcOf x = some c ∧ Gives (h ρ) (KG (KGg2 c k ρ P))) : Gives (eGGet2 f h k ρ) P := by
  unfold eGGet2
  refine Gives.bnd p fun x ⟨c, e, q⟩ => ?_
  rw [e, lft_s, bnd_ret]
  refine Gives.bnd q fun y ⟨d, e2, h1, q2⟩ => ?_
  rw [e2, lft_s, bnd_ret]
  refine Gives.bnd q2 fun z hz => ?_
  rw [if_pos h1]
  revert hz
  cases lookK c.kv (nk d) with
  | none => exact fun hz => Gives.ret hz
  | some vd => exact fun hz => Gives.ret hz
end
end DV

namespace DVR
open PySem L2 DV DVL
abbrev Lk := Int × Int × Int × Int
def at4 (ls : List Lk) (i : Int) : Lk := ls.getD i.toNat (0, 0, 0, 0)
def src (ls : List Lk) (i : Int) : Int := (at4 ls i).1
def tgt (ls : List Lk) (i : Int) : Int := (at4 ls i).2.1
def tim (ls : List Lk) (i : Int) : Int := (at4 ls i).2.2.1
def rnd (ls : List Lk) (i : Int) : Int := (at4 ls i).2.2.2
def wt (w : Int → Int) (p : List Int) : Int := (p.map w).sum
section
variable {ls : List Lk} {n : Nat} {w : Int → Int}
def Hd (ls : List Lk) (s : Int) (p : List Int) : Int := match p.getLast? with
  | none => s
  | some i => tgt ls i
def Mt4 (ls : List Lk) (s : Int) (p : List Int) : List Int := s :: p.map (tgt ls)
theorem least_of (f : Int → Int) : ∀ {L : List Int}, L ≠ [] → ∃ k ∈ L, ∀ j ∈ L, f k ≤ f j
  | [], h => absurd rfl h
  | [a], _ => ⟨a, List.mem_cons_self, fun j hj => by rw [List.mem_singleton.mp hj]; exact Int.le_refl _⟩
  | a :: b :: L, _ => by
    obtain ⟨k, hk, hm⟩ := least_of f (L := b :: L) (by simp)
    by_cases c : f a ≤ f k
    · refine ⟨a, List.mem_cons_self, fun j hj => ?_⟩
      rcases List.mem_cons.mp hj with z | z
      · rw [z]; exact Int.le_refl _
      · have := hm j z; omega
    · refine ⟨k, List.mem_cons_of_mem _ hk, fun j hj => ?_⟩
      rcases List.mem_cons.mp hj with z | z
      · rw [z]; omega
      · exact hm j z
end
end DVR

namespace DVR
open PySem L2 DV DVL
section
variable {ls : List Lk} {n : Nat} {s : Int} {p : List Int}
def clB (ls : List Lk) (s : Int) (p : List Int) (i : Int) : Bool := decide (src ls i = Hd ls s p) && decide (tgt ls i = s)
/-- the rings that a path closes to, the paths that it goes on to -/
def cls (ls : List Lk) (s : Int) (p I : List Int) : List (List Int) := (I.filter (clB ls s p)).map fun i => p ++ [i]
/-- links that leave an event -/
def dg (ls : List Lk) (v : Int) : Nat := ((rngI 0 ls.length).filter fun i => decide (src ls i = v)).length
def prodN : List Nat → Nat
  | [] => 1
  | a :: L => a * prodN L
/-- more than all walks from an event that meet none twice -/
def PT (ls : List Lk) (n : Nat) : Nat := prodN ((rngI 0 n).map fun v => 1 + dg ls v)
end
end DVR

namespace DV
open PySem L2
section
variable {P : RV → Prop} {f h : Env → DV.M RV} {ρ ρ' : Env} {Q : Out → Prop} {α : Type} {mk : α → D}
theorem w_isNL {ds : List D} (p : P (.d (.bool false))) : K2 gIs P (.n ds) (.d .none) := ⟨_, rfl, p⟩
theorem w_isBL {ds : List D} (p : P (.d (.bool false))) : K2 gIs P (.b ds) (.d .none) := ⟨_, rfl, p⟩
theorem w_ntNL {ds : List D} (p : P (.d (.bool true))) : K2 gIsNot P (.n ds) (.d .none) := ⟨_, rfl, p⟩
theorem w_ntBL {ds : List D} (p : P (.d (.bool true))) : K2 gIsNot P (.b ds) (.d .none) := ⟨_, rfl, p⟩
theorem w_abs {i : Int} (p : P (.d (.int (i.natAbs : Int)))) : KC gAbs P [.d (.int i)] := by
  refine ⟨.d (.int (i.natAbs : Int)), ?_, p⟩
  show some (RV.d (.int (if i < 0 then -i else i))) = _
  congr 3
  split <;> omega
theorem eq_blB (neg x y : Bool) : gEqB neg (.d (.bool x)) (.d (.bool y)) = some (.d (.bool (if neg then !decide (x = y) else decide (x = y)))) := by
  cases neg <;> cases x <;> cases y <;> rfl
theorem w_neBl {x y : Bool} (p : P (.d (.bool (!decide (x = y))))) : K2 gNe P (.d (.bool x)) (.d (.bool y)) := ⟨_, eq_blB true x y, p⟩
theorem w_eqBl {x y : Bool} (p : P (.d (.bool (decide (x = y))))) : K2 gEq P (.d (.bool x)) (.d (.bool y)) := ⟨_, eq_blB false x y, p⟩
theorem eq_ip (neg : Bool) (a b c d : Int) : gEqB neg (.d (.tuple [.int a, .int b])) (.d (.tuple [.int c, .int d])) = some (.d (.bool (if neg then !decide (a = c ∧ b = d) else decide (a = c ∧ b = d)))) := by
  have hs : ∀ a b : Int, SeqAt.shaped (.tuple [.int a, .int b]) = true := fun a b => DVL.shaped_intsT [a, b]
  show (if SeqAt.shaped (.tuple [.int a, .int b]) = true then if SeqAt.shaped (.tuple [.int c, .int d]) = true then some (RV.d (.bool (if neg then !PyData.eqv (.tuple [.int a, .int b]) (.tuple [.int c, .int d]) else PyData.eqv (.tuple [.int a, .int b]) (.tuple [.int c, .int d])))) else none else none) = _
  rw [if_pos (hs a b), if_pos (hs c d), eqvP]
theorem w_eqIP {a b c d : Int} (p : P (.d (.bool (decide (a = c ∧ b = d))))) : K2 gEq P (.d (.tuple [.int a, .int b])) (.d (.tuple [.int c, .int d])) := ⟨_, eq_ip false a b c d, p⟩
theorem w_neIP {a b c d : Int} (p : P (.d (.bool (!decide (a = c ∧ b = d))))) : K2 gNe P (.d (.tuple [.int a, .int b])) (.d (.tuple [.int c, .int d])) := ⟨_, eq_ip true a b c d, p⟩
theorem w_ix3 {d e g x : D} {ds : List D} (p : P (.d x)) : K2 gIx P (.d (.tuple (d :: e :: g :: x :: ds))) (.d (.int 3)) := by
  refine ⟨.d x, ?_, p⟩
  show (atI (d :: e :: g :: x :: ds) ((3 : Nat) : Int)).map RV.d = _
  rw [atI_nat (v := x) rfl]; rfl
end
end DV
namespace DVR
open PySem L2 DV DVL
/-- links as data -/
abbrev mkL (l : Lk) : D := .tuple [.int l.1, .int l.2.1, .int l.2.2.1, .int l.2.2.2]
/-- what waits -/
abbrev mkW (ls : List Lk) (s : Int) (p : List Int) : D := .tuple [.int (Hd ls s p), .int (wt (tim ls) p), .int (wt (rnd ls) p), ti p, ti (Mt4 ls s p)]
theorem at4_in {ls : List Lk} {i : Int} (h0 : 0 ≤ i) (h1 : i < (ls.length : Int)) : ls[i.toNat]? = some (at4 ls i) := by
  have h : i.toNat < ls.length := by omega
  unfold at4
  rw [List.getD_eq_getElem?_getD, List.getElem?_eq_getElem h]
  rfl
theorem canLay_W (ls : List Lk) (s : Int) : ∀ P : List (List Int), PyData.canLayAll0 (P.map (mkW ls s)) = true
  | [] => by simp [PyData.canLayAll0]
  | p :: P => by
    rw [List.map_cons, PyData.canLayAll0, canLay_W ls s P]
    have h1 := canLay_ints p
    have h2 := canLay_ints (Mt4 ls s p)
    simp [PyData.canLay0, PyData.canLayAll0, h1, h2]
theorem depth_W (ls : List Lk) (s : Int) : ∀ P : List (List Int), PyData.depthAll (P.map (mkW ls s)) ≤ 2
  | [] => by simp [PyData.depthAll]
  | p :: P => by
    rw [List.map_cons, PyData.depthAll]
    have h1 := depth_W ls s P
    have h2 : (mkW ls s p).depth ≤ 2 := by
      have a := depth_ints p
      have b := depth_ints (Mt4 ls s p)
      show PyData.depth (.tuple _) ≤ 2
      simp only [PyData.depth, PyData.depthAll, a, b]
      omega
    omega
theorem w_neW {P : RV → Prop} {ls : List Lk} {s : Int} {L : List (List Int)} (p : P (.d (.bool (!decide (L = []))))) : DV.K2 gNe P (.b (L.map (mkW ls s))) (.n []) := by
  refine ⟨_, ?_, p⟩
  have hs : SeqAt.shaped (.list (L.map (mkW ls s))) = true := by
    unfold SeqAt.shaped
    have h := depth_W ls s L
    rw [PyData.canLay0, canLay_W, PyData.depth]
    simp
    omega
  have hn : SeqAt.shaped (.list []) = true := rfl
  show (if SeqAt.shaped (.list (L.map (mkW ls s))) = true then if SeqAt.shaped (.list []) = true then some (RV.d (.bool (!PyData.eqv (.list (L.map (mkW ls s))) (.list [])))) else none else none) = _
  rw [if_pos hs, if_pos hn]
  have e : PyData.eqv (.list (L.map (mkW ls s))) (.list []) = decide (L = []) := by
    rw [PyData.eqv]
    cases L with
    | nil => rfl
    | cons a L => simp [PyData.eqvAll]
  rw [e]
theorem w_ixL {P : RV → Prop} {ls : List Lk} {j : Int} (c : 0 ≤ j ∧ j < ls.length) (p : P (.d (mkL (at4 ls j)))) : DV.K2 gIx P (.d (.tuple (ls.map mkL))) (.d (.int j)) := w_ixM c.1 (at4_in c.1 c.2) p
end DVR

namespace DVH
open PySem L2 DV DVL
abbrev qtD (q : Rat) : D := .tuple [.int q.num, .int (q.den : Int)]
theorem q_num {a b : Int} (h : 0 < b) : ((a : Rat) / (b : Rat)).num = a / (Int.gcd a b : Int) := by
  rw [← Rat.divInt_eq_div, Rat.num_divInt, Int.sign_eq_one_of_pos h, Int.one_mul, Int.gcd_comm]
theorem q_den {a b : Int} (h : 0 < b) : ((((a : Rat) / (b : Rat)).den : Nat) : Int) = b / (Int.gcd a b : Int) := by
  rw [← Rat.divInt_eq_div, Rat.den_divInt, if_neg (by omega), Int.gcd_comm, Int.natCast_ediv]
  congr 1
  omega
theorem q_num_le {a b : Int} (h : 0 < b) : ((a : Rat) / (b : Rat)).num.natAbs ≤ a.natAbs := by
  rw [q_num h]
  exact Int.natAbs_ediv_le_natAbs _ _
theorem q_den_le {a b : Int} (h : 0 < b) : ((a : Rat) / (b : Rat)).den ≤ b.natAbs := by
  have h1 := q_den (a := a) h
  have h2 := Int.natAbs_ediv_le_natAbs b (Int.gcd a b : Int)
  rw [← h1] at h2
  simpa using h2
def Sz (k : Nat) (q : Rat) : Prop := q.num.natAbs < 2 ^ k ∧ q.den < 2 ^ k
theorem Sz.up {k l : Nat} {q : Rat} (h : Sz k q) (hkl : k ≤ l) : Sz l q := by
  have := Nat.pow_le_pow_right (show 0 < 2 by decide) hkl
  exact ⟨Nat.lt_of_lt_of_le h.1 this, Nat.lt_of_lt_of_le h.2 this⟩
theorem Sz.of {k : Nat} {a b : Int} (h : 0 < b) (ha : a.natAbs < 2 ^ k) (hb : b.natAbs < 2 ^ k) : Sz k ((a : Rat) / (b : Rat)) := ⟨Nat.lt_of_le_of_lt (q_num_le h) ha, Nat.lt_of_le_of_lt (q_den_le h) hb⟩
theorem wide_of {a : Int} {k : Nat} (h : a.natAbs < 2 ^ k) (hk : k ≤ 8000) : a.natAbs < wideN := Nat.lt_of_lt_of_le h (by rw [wideN_eq]; exact Nat.pow_le_pow_right (by decide) hk)
theorem w_mulB {P : RV → Prop} {a b : Int} (k l : Nat) (ha : a.natAbs < 2 ^ k) (hb : b.natAbs < 2 ^ l) (hk : k ≤ 8000 ∧ l ≤ 8000) (p : P (.d (.int (a * b)))) : K2 gMulB P (.d (.int a)) (.d (.int b)) := ⟨_, gMulB_int (wide_of ha hk.1) (wide_of hb hk.2), p⟩
theorem w_fdivW {P : RV → Prop} {a b : Int} (h0 : 0 < b) (hb : b.natAbs < wideN) (p : P (.d (.int (a / b)))) : K2 gFdivW P (.d (.int a)) (.d (.int b)) := by
  refine ⟨_, ?_, p⟩
  show (if cDivW a b = true then some (RV.d (.int (a / b))) else none) = _
  rw [if_pos]
  unfold cDivW
  rw [decide_eq_true h0, decide_eq_true hb]
  rfl
theorem lt_add {a b : Int} {k l : Nat} (ha : a.natAbs < 2 ^ k) (hb : b.natAbs < 2 ^ l) : (a - b).natAbs < 2 ^ (max k l + 1) ∧ (a + b).natAbs < 2 ^ (max k l + 1) := by
  have h1 := Nat.pow_le_pow_right (show 0 < 2 by decide) (Nat.le_max_left k l)
  have h2 := Nat.pow_le_pow_right (show 0 < 2 by decide) (Nat.le_max_right k l)
  rw [Nat.pow_succ]
  generalize 2 ^ max k l = c at *
  omega
/-- the two numbers of the rule of Euclid -/
theorem euc {x y k : Nat} (hy : 0 < y) (hx : y < x) (h : x * y < 2 ^ k) : 1 ≤ k ∧ x % y < y ∧ y * (x % y) < 2 ^ (k - 1) := by
  have hm := Nat.mod_lt x hy
  have hk : 1 ≤ k := by
    refine Nat.pos_of_ne_zero fun z => ?_
    rw [z] at h
    have : 1 * 1 ≤ x * y := Nat.mul_le_mul (by omega) hy
    simp at h
    omega
  refine ⟨hk, hm, ?_⟩
  have h2 : 2 * (x % y) < x := by
    have h3 := Nat.div_add_mod x y
    have h4 : 1 ≤ x / y := (Nat.one_le_div_iff hy).mpr (by omega)
    have h5 : y * 1 ≤ y * (x / y) := Nat.mul_le_mul_left y h4
    omega
  have h6 : 2 ^ k = 2 ^ (k - 1) * 2 := by rw [← Nat.pow_succ]; congr 1; omega
  have h7 : y * (x % y) * 2 < y * x := by
    rw [Nat.mul_assoc]
    exact Nat.mul_lt_mul_of_pos_left (by omega) hy
  rw [Nat.mul_comm x y] at h
  omega
local macro_rules
  | `(tactic| get_elem_tactic_trivial) => `(tactic| first
    | (simp only [List.set_cons_succ, List.set_cons_zero, DV.startE, DV.lawE, DV.toK, DV.lockE, DV.wipeE, List.map_cons, List.map_nil, List.length_cons, List.length_nil, List.replicate_zero, List.replicate_succ, Nat.reduceSub, Nat.reduceAdd, List.append_nil, List.cons_append, List.nil_append]; rfl)
    | exact rfl)
local macro_rules
  | `(tactic| infer_instance) => `(tactic| first
    | with_reducible refine DV.w_cons ?_
    | with_reducible refine DV.w_var (by with_unfolding_all exact rfl) ?_
    | with_reducible refine DV.w_c ?_
    | with_reducible refine DV.w_nil ?_
    | with_reducible refine DV.w_e2 ?_
    | with_reducible refine DV.w_seq ?_
    | with_reducible refine DV.w_seqN ?_
    | with_reducible refine DV.w_seqR ?_
    | with_reducible refine DV.w_seqB ?_
    | with_reducible refine DV.w_seqC ?_
    | with_reducible refine DV.w_call ?_
    | with_reducible refine DV.w_fn ?_
    | with_reducible refine DV.w_f1 ?_
    | with_reducible refine DV.w_f2 ?_
    | with_reducible refine DV.w_f3 ?_
    | with_reducible refine DV.w_f4 ?_
    | with_reducible refine DV.w_f5 ?_
    | with_reducible refine DV.w_f6 ?_
    | with_reducible refine DV.w_set ?_
    | with_reducible refine DV.w_setApp ?_
    | with_reducible refine DV.w_setX (by with_unfolding_all exact rfl) (by with_unfolding_all (simp only [List.set_cons_succ, List.set_cons_zero]; rfl)) ?_
    | with_reducible refine DV.w_rt ?_
    | with_reducible refine DV.w_rtD ?_
    | with_reducible refine DV.w_rtN ?_
    | with_reducible refine DV.w_rtV (by with_unfolding_all exact rfl) ?_
    | with_reducible refine DV.w_if ?_
    | with_reducible refine DV.w_drop ?_
    | with_reducible refine DV.w_nop ?_
    | with_reducible refine DV.w_T ?_
    | with_reducible refine DV.w_B ?_
    | with_reducible refine DV.w_not ?_
    | with_reducible refine DV.w_and ?_
    | with_reducible refine DV.w_or ?_
    | with_reducible refine DV.w_ifT ?_
    | with_reducible refine DV.w_ifF ?_
    | with_reducible refine DV.w_ifNT ?_
    | with_reducible refine DV.w_ifNF ?_
    | with_reducible refine DV.w_stup ?_
    | with_reducible refine DV.w_stupD (by with_unfolding_all (simp only [DV.wipeE, DV.gTupF, DV.gMore, DV.gNone, DV.gNm, List.set_cons_succ, List.set_cons_zero, List.length]; rfl)) ?_
    | with_reducible refine DV.w_aug (by with_unfolding_all exact rfl) ?_
    | with_reducible refine DV.w_I ?_
    | with_reducible refine DV.w_app (by with_unfolding_all exact rfl) (by simp only [List.length_map]; omega) ?_
    | with_reducible refine DV.w_D ?_
    | with_reducible refine DV.w_for ?_
    | with_reducible refine DV.w_lc ?_
    | with_reducible refine DV.w_par ?_
    | with_reducible refine DV.w_par3 ?_
    | with_reducible refine DV.w_par4 ?_
    | with_reducible refine DV.w_parX (by with_unfolding_all exact rfl) (by with_unfolding_all exact rfl) (by with_unfolding_all (simp only [List.set_cons_succ, List.set_cons_zero]; rfl)) ?_
    | with_reducible refine DV.w_par3X (by with_unfolding_all exact rfl) (by with_unfolding_all exact rfl) (by with_unfolding_all exact rfl) (by with_unfolding_all (simp only [List.set_cons_succ, List.set_cons_zero]; rfl)) ?_
    | with_reducible refine DV.w_par4X (by with_unfolding_all exact rfl) (by with_unfolding_all exact rfl) (by with_unfolding_all exact rfl) (by with_unfolding_all exact rfl) (by with_unfolding_all (simp only [List.set_cons_succ, List.set_cons_zero]; rfl)) ?_
    | with_reducible refine DV.w_tup ?_
    | with_reducible refine DV.w_lst ?_
    | with_reducible refine DV.w_tu (by with_unfolding_all exact rfl) (by with_unfolding_all exact Nat.le_of_ble_eq_true rfl) ?_
    | with_reducible refine DV.w_ls (by with_unfolding_all exact rfl) (by with_unfolding_all exact Nat.le_of_ble_eq_true rfl) ?_
    | with_reducible refine DV.w_neg ?_
    | with_reducible refine DV.w_ifB ?_
    | with_reducible refine DV.w_ifE ?_
    | with_reducible refine DV.w_notB ?_
    | with_reducible refine DV.w_tt ?_
    | with_reducible refine DV.w_ch ?_
    | with_reducible refine DV.w_add ?_
    | with_reducible refine DV.w_sub ?_
    | with_reducible refine DV.w_mul (by first | omega | (left; constructor <;> omega) | (right; constructor <;> omega)) ?_
    | with_reducible refine DV.w_mod (by omega) ?_
    | with_reducible refine DV.w_div (by omega) ?_
    | with_reducible refine DV.w_lt ?_
    | with_reducible refine DV.w_le ?_
    | with_reducible refine DV.w_gt ?_
    | with_reducible refine DV.w_ge ?_
    | with_reducible refine DV.w_ltA ?_
    | with_reducible refine DV.w_leA ?_
    | with_reducible refine DV.w_gtA ?_
    | with_reducible refine DV.w_geA ?_
    | with_reducible refine DV.w_eq ?_
    | with_reducible refine DV.w_ne ?_
    | with_reducible refine DV.w_eqB ?_
    | with_reducible refine DV.w_neB ?_
    | with_reducible refine DV.w_eqN ?_
    | with_reducible refine DV.w_neN ?_
    | with_reducible refine DV.w_eqN0 ?_
    | with_reducible refine DV.w_neN0 ?_
    | with_reducible refine DV.w_in ?_
    | with_reducible refine DV.w_inB ?_
    | with_reducible refine DV.w_notIn ?_
    | with_reducible refine DV.w_notInB ?_
    | with_reducible refine DV.w_ix0 ?_
    | with_reducible refine DV.w_ix1 ?_
    | with_reducible refine DV.w_ix (by omega) ?_
    | with_reducible refine DV.w_ixB (by omega) ?_
    | with_reducible refine DV.w_len ?_
    | with_reducible refine DV.w_lenB ?_
    | with_reducible refine DV.w_lenN ?_
    | with_reducible refine DV.w_lenM ?_
    | with_reducible refine DV.w_lenMB ?_
    | with_reducible refine DV.w_lenMN ?_
    | with_reducible refine DV.w_lenD ?_
    | with_reducible refine DV.w_lenDB ?_
    | with_reducible refine DV.w_lenDN ?_
    | with_reducible refine DV.w_tupN ?_
    | with_reducible refine DV.w_tupB ?_
    | with_reducible refine DV.w_tupD ?_
    | with_reducible refine DV.w_lstD ?_
    | with_reducible refine DV.w_lstB ?_
    | with_reducible refine DV.w_lstN ?_
    | with_reducible refine DV.w_sum ?_
    | with_reducible refine DV.w_sumN ?_
    | with_reducible refine DV.w_sumB ?_
    | with_reducible refine DV.w_max2 ?_
    | with_reducible refine DV.w_min2 ?_
    | with_reducible refine DV.w_int ?_
    | with_reducible refine DV.w_sort ?_
    | with_reducible refine DV.w_sortN ?_
    | with_reducible refine DV.w_sortB ?_
    | with_reducible refine DV.w_rep (by omega) ?_
    | with_reducible refine DV.w_repN (by omega) ?_
    | with_reducible refine DV.w_moveG (by with_unfolding_all exact rfl) (by with_unfolding_all (simp only [List.set_cons_succ, List.set_cons_zero]; rfl)) ?_
    | with_reducible refine DV.w_moveO (by with_unfolding_all exact rfl) (by with_unfolding_all (simp only [List.set_cons_succ, List.set_cons_zero]; rfl)) ?_
    | with_reducible refine DV.w_moveD (by with_unfolding_all exact rfl) (by with_unfolding_all (simp only [List.set_cons_succ, List.set_cons_zero]; rfl)) ?_
    | with_reducible refine DV.w_catTI (by (try simp only [List.length_append, List.length_take, List.length_drop, List.length_cons, List.length_nil]); omega) ?_
    | with_reducible refine DV.w_catT1 (by (try simp only [List.length_append, List.length_take, List.length_drop, List.length_cons, List.length_nil]); omega) ?_
    | with_reducible refine DV.w_listG ?_
    | with_reducible refine DV.w_sortK ?_
    | with_reducible refine DV.w_colS ?_
    | with_reducible refine DV.w_itT ?_
    | with_reducible refine DV.w_itB ?_
    | with_reducible refine DV.w_itN ?_
    | with_reducible refine DV.w_colR ?_
    | with_reducible refine DV.w_colRN (by omega) ?_
    | with_reducible refine DV.w_ext (by with_unfolding_all exact rfl) ?_
    | with_reducible refine DV.w_lc2 ?_
    | with_reducible refine DV.w_isT ?_
    | with_reducible refine DV.w_isNN ?_
    | with_reducible refine DV.w_isNI ?_
    | with_reducible refine DV.w_isNT ?_
    | with_reducible refine DV.w_ntNN ?_
    | with_reducible refine DV.w_ntNI ?_
    | with_reducible refine DV.w_ntNT ?_
    | with_reducible refine DV.w_repND (by omega) ?_
    | with_reducible refine DV.w_put (by with_unfolding_all exact rfl) ?_
    | with_reducible refine DV.w_putI (by (try simp only [List.length_set, List.length_replicate, List.length_map]); omega) ?_
    | with_reducible refine DV.w_eqB0 ?_
    | with_reducible refine DV.w_neB0 ?_
    | with_reducible refine DV.w_eqBB ?_
    | with_reducible refine DV.w_neBB ?_
    | with_reducible refine DV.w_eqNB ?_
    | with_reducible refine DV.w_neNB ?_
    | with_reducible refine DV.w_eqBN ?_
    | with_reducible refine DV.w_neBN ?_
    | with_reducible refine DV.w_eqT0 ?_
    | with_reducible refine DV.w_neT0 ?_
    | with_reducible refine DV.w_eqT ?_
    | with_reducible refine DV.w_neT ?_
    | with_reducible refine DV.w_gget ?_
    | with_reducible refine DV.w_dc ?_
    | with_reducible refine DV.w_dcN ?_
    | with_reducible refine DV.w_G ?_
    | with_reducible refine DV.w_gput ?_
    | with_reducible refine DV.w_gnew ?_
    | with_reducible refine DV.w_g1 ?_
    | with_reducible refine DV.w_ret ?_
    | with_reducible refine DV.w_slice ?_
    | with_reducible refine DV.w_part ?_
    | with_reducible refine DV.w_slToI (by omega) ?_
    | with_reducible refine DV.w_slFromI (by omega) ?_
    | with_reducible refine DV.w_slToBI (by omega) ?_
    | with_reducible refine DV.w_slFromBI (by omega) ?_
    | with_reducible refine DV.w_star ?_
    | with_reducible refine DV.w_starT ?_
    | with_reducible refine DV.w_starB ?_
    | with_reducible refine DV.w_starN ?_
    | with_reducible refine DV.w_ixR (by omega) ?_
    | with_reducible refine DV.w_ixRB (by omega) ?_
    | with_reducible refine DV.w_lrg ?_
    | with_reducible refine DV.w_trg ?_
    | with_reducible refine DV.w_rg (by omega) ?_
    | with_reducible refine DV.w_enum ?_
    | with_reducible refine DV.w_zip ?_
    | with_reducible refine DV.w_zip3 ?_
    | with_reducible refine DV.w_step ?_
    | with_reducible refine DV.w_stepB (by omega) ?_
    | with_reducible refine DV.w_srev ?_
    | with_reducible refine DV.w_srevT ?_
    | with_reducible refine DV.w_isTT ?_
    | with_reducible refine DV.w_ntTT ?_
    | with_reducible refine DV.w_isFT ?_
    | with_reducible refine DV.w_ntFT ?_
    | with_reducible refine DV.w_isTF ?_
    | with_reducible refine DV.w_ntTF ?_
    | with_reducible refine DV.w_isFF ?_
    | with_reducible refine DV.w_ntFF ?_
    | with_reducible refine DV.w_ixS (by omega) ?_
    | with_reducible refine DV.w_ix2 ?_
    | with_reducible refine DV.w_gget2 ?_
    | with_reducible refine DV.w_notInTs ?_
    | with_reducible refine DV.w_inTs ?_
    | with_reducible refine DV.w_inTsN ?_
    | with_reducible refine DV.w_sset ?_
    | with_reducible refine DV.w_ssetU (by omega) (by assumption) ?_
    | with_reducible refine DV.w_met ?_
    | with_reducible refine DV.w_itL ?_
    | with_reducible refine DV.w_two ?_
    | with_reducible refine DV.w_twoX ?_
    | with_reducible refine DV.w_neS ?_
    | with_reducible refine DV.w_eqS ?_
    | with_reducible refine DV.w_rev ?_
    | with_reducible refine DV.w_revN ?_
    | with_reducible refine DV.w_lset ?_
    | with_reducible refine DV.w_isNL ?_
    | with_reducible refine DV.w_isBL ?_
    | with_reducible refine DV.w_ntNL ?_
    | with_reducible refine DV.w_ntBL ?_
    | with_reducible refine DV.w_abs ?_
    | with_reducible refine DV.w_neBl ?_
    | with_reducible refine DV.w_eqBl ?_
    | with_reducible refine DV.w_eqIP ?_
    | with_reducible refine DV.w_neIP ?_
    | with_reducible refine DV.w_ix3 ?_
    | with_reducible refine DVR.w_neW ?_
    | with_reducible refine DVR.w_ixL (by omega) ?_
    | with_reducible refine DV.w_dcomp ?_
    | with_reducible refine DV.w_intB ?_
    | with_reducible refine DV.w_augIx (by with_unfolding_all exact rfl) ?_
    | with_reducible refine DV.w_inN ?_
    | with_reducible refine DV.w_notInN ?_
    | with_reducible refine DV.w_srcE ?_
    | with_reducible refine DV.w_srcV (by with_unfolding_all exact rfl) ?_
    | with_reducible refine DV.w_src (by with_unfolding_all exact rfl) ?_
    | with_reducible refine DV.w_rng1 ?_
    | with_reducible refine DV.w_rng2 ?_
    | with_reducible refine DV.w_rng2I (by omega) ?_
    | with_reducible refine DV.w_rngN (by omega) ?_
    | with_reducible refine DV.w_rngI (by omega) ?_
    | with_reducible refine DV.w_loopN ?_
    | with_reducible refine DV.w_loopC ?_
    | with_reducible refine DV.w_loopB ?_
    | with_reducible refine DV.w_loopR ?_
    | with_reducible refine DV.w_runN ?_
    | with_reducible refine DV.w_runR ?_
    | with_reducible refine DV.w_tg (by with_unfolding_all (simp only [DV.lockE, DV.unlockE, List.getElem?_cons_succ, List.getElem?_cons_zero, DV.wipeE, DV.gTupF, DV.gMore, DV.gNone, DV.gNm, List.set_cons_succ, List.set_cons_zero, List.length]; rfl)) ?_)
def g_ratW : DV.Env → M Out :=
  (sSeq (sPar 2 3 (aCons (eCall gAbs (aCons (eVar 0) aNil)) (aCons (eVar 1) aNil)))
  (sSeq (wloopF (eT (e2 gNe (eVar 3) (eC (.int 0)))) (sPar 2 3 (aCons (eVar 3) (aCons (e2 gMod (eVar 2) (eVar 3)) aNil))) 100000)
  (sRet (eIf (eT (e2 gGt (eVar 2) (eC (.int 0)))) (eTup (aCons (e2 gFdivW (eVar 0) (eVar 2)) (aCons (e2 gFdivW (eVar 1) (eVar 2)) aNil))) (eTup (aCons (eC (.int 0)) (aCons (eC (.int 1)) aNil)))))))
def m_ratW : List RV → M RV := runDef 4 g_ratW
theorem ratW_gives (a b : Int) (h0 : 0 < b) (h1 : b.natAbs < 2 ^ 4000) : DV.Gives (m_ratW [.d (.int a), .d (.int b)]) fun r => r = .d (qtD ((a : Rat) / (b : Rat))) := by
  unfold m_ratW
  refine DV.w_run (by get_elem_tactic_trivial) ?_
  unfold g_ratW
  repeat infer_instance
  refine DV.w_while (fun k ρ => ∃ x y : Nat, ρ = [some (.d (.int a)), some (.d (.int b)), some (.d (.int (x : Nat))), some (.d (.int (y : Nat)))] ∧ ((k = 8001 ∧ x = a.natAbs ∧ y = b.natAbs) ∨ (y < x ∧ x * y < 2 ^ k)) ∧ Nat.gcd x y = Int.gcd a b) 8001 100000 (by omega) ⟨a.natAbs, b.natAbs, by
    have : ((b.natAbs : Nat) : Int) = b := by omega
    rw [this], .inl ⟨rfl, rfl, rfl⟩, rfl⟩ ?_
  rintro k ρ ⟨x, y, rfl, hy, hg⟩
  repeat infer_instance
  refine DV.w_ndec (fun hne => ?_) (fun he => ?_)
  · have hy0 : 0 < y := by omega
    have hnext : 1 ≤ k ∧ x % y < y ∧ y * (x % y) < 2 ^ (k - 1) := by
      rcases hy with ⟨rfl, rfl, rfl⟩ | ⟨h2, h3⟩
      · have hm := Nat.mod_lt a.natAbs hy0
        refine ⟨by decide, hm, ?_⟩
        have e : (2 : Nat) ^ (8001 - 1) = 2 ^ 4000 * 2 ^ 4000 := by rw [← Nat.pow_add]
        rw [e]
        exact Nat.mul_lt_mul'' h1 (Nat.lt_trans hm h1)
      · exact euc hy0 h2 h3
    obtain ⟨j, rfl⟩ : ∃ j, k = j + 1 := ⟨k - 1, by omega⟩
    refine ⟨j, rfl, ?_⟩
    repeat infer_instance
    refine ⟨y, x % y, by rw [Int.natCast_emod], .inr ⟨hnext.2.1, hnext.2.2⟩, ?_⟩
    rw [← hg, Nat.gcd_comm x y, Nat.gcd_rec y x, Nat.gcd_comm]
  · have hy0 : y = 0 := by omega
    subst hy0
    rw [Nat.gcd_zero_right] at hg
    have hgp : 0 < Int.gcd a b := Int.gcd_pos_of_ne_zero_right _ (by omega)
    have hgl : Int.gcd a b ≤ b.natAbs := Nat.le_of_dvd (by omega) (Int.gcd_dvd_natAbs_right a b)
    subst hg
    have hw : ((Int.gcd a b : Nat) : Int).natAbs < wideN := wide_of (k := 4000) (by rw [Int.natAbs_natCast]; exact Nat.lt_of_le_of_lt hgl h1) (by decide)
    repeat infer_instance
    refine DV.w_decT (by omega) ?_
    repeat infer_instance
    refine w_fdivW (by omega) hw ?_
    repeat infer_instance
    refine w_fdivW (by omega) hw ?_
    repeat infer_instance
    unfold qtD
    rw [q_num h0, q_den h0]
/-- ratio(top, bottom), bounded -/
theorem lt_iff' (p q : Rat) : p < q ↔ p.num * (q.den : Int) < q.num * (p.den : Int) := Rat.lt_iff p q
theorem num_pos' {q : Rat} : 0 < q.num ↔ 0 < q := by
  rw [lt_iff']
  simp
end DVH

namespace DVR
open PySem L2 DV DVL
/-- where a move stands -/
def pl (o : List Int) (v : Int) : Int := (o.idxOf v : Nat)
def lt1 (o : List Int) (m : Int) : Int := if pl o (m + 1) < pl o m then 1 else 0
/-- the links of the order -/
def oLk (ms : List Int) (wk : Int) (o : List Int) (k : Int) : Lk := (val o k, val o ((k + 1) % (o.length : Int)), val ms (val o k) + wk * ((val o k + 1 - val o ((k + 1) % (o.length : Int))).natAbs : Int), if k + 1 = (o.length : Int) then 1 else 0)
def mLk (ts ms o : List Int) (m : Int) : Lk := (m, m + 1, val ms m + val ts m, lt1 o m)
def LL (ts ms : List Int) (wk : Int) (o : List Int) : List Lk := (rngI 0 o.length).map (oLk ms wk o) ++ (rngI 0 ts.length).map (mLk ts ms o)
section
variable {ts ms o : List Int} {wk : Int}
/-- what any of the links is like -/
structure L2 (ts o : List Int) (l : Lk) : Prop where
  a : 0 ≤ l.1 ∧ l.1 < ((ts.length + 1 : Nat) : Int)
  b : 0 ≤ l.2.1 ∧ l.2.1 < ((ts.length + 1 : Nat) : Int)
  t : 0 ≤ l.2.2.1 ∧ l.2.2.1 ≤ 100
  r : 0 ≤ l.2.2.2 ∧ l.2.2.2 ≤ 3
  k : pl o l.2.1 ≤ pl o l.1 → 1 ≤ l.2.2.2
end
end DVR

namespace DV
open PySem L2
def KDc (vs : List Nat) (tg : D → Env → Option Env) (t : Env → M Bool) (kf vf : Env → DV.M RV) (ρ : Env) (P : RV → Prop) (q : List D × Option Nat) : Prop := q.1.length ≤ 50000 ∧ Gives (dcF tg t kf vf (wipeE ρ vs) q.1 []) fun kv => P (.gn ⟨false, kv⟩)
section
variable {α : Type} {P : RV → Prop} {ρ : Env} {fi : Env → M (List D × Option Nat)} {vs : List Nat} {tg : D → Env → Option Env} {t : Env → M Bool} {kf vf : Env → DV.M RV}
theorem w_dcomp (p : Gives (fi ρ) (KDc vs tg t kf vf ρ P)) : Gives (eDc fi vs tg t kf vf ρ) P := by
  unfold eDc
  refine Gives.bnd p fun q ⟨h1, h2⟩ => ?_
  rw [if_pos h1]
  exact Gives.bnd h2 fun kv h => Gives.ret h
theorem w_intB {b : Bool} (p : P (.d (.int (if b = true then 1 else 0)))) : KC gInt P [.d (.bool b)] := ⟨.d (.int (if b = true then 1 else 0)), by cases b <;> rfl, p⟩
end
end DV


namespace DVL
open PySem L2 DV
local macro_rules
  | `(tactic| get_elem_tactic_trivial) => `(tactic| first
    | (simp only [List.set_cons_succ, List.set_cons_zero, DV.startE, DV.lawE, DV.toK, DV.lockE, DV.wipeE, List.map_cons, List.map_nil, List.length_cons, List.length_nil, List.replicate_zero, List.replicate_succ, Nat.reduceSub, Nat.reduceAdd, List.append_nil, List.cons_append, List.nil_append]; rfl)
    | exact rfl)
local macro_rules
  | `(tactic| infer_instance) => `(tactic| first
    | with_reducible refine DV.w_cons ?_
    | with_reducible refine DV.w_var (by with_unfolding_all exact rfl) ?_
    | with_reducible refine DV.w_c ?_
    | with_reducible refine DV.w_nil ?_
    | with_reducible refine DV.w_e2 ?_
    | with_reducible refine DV.w_seq ?_
    | with_reducible refine DV.w_seqN ?_
    | with_reducible refine DV.w_seqR ?_
    | with_reducible refine DV.w_seqB ?_
    | with_reducible refine DV.w_seqC ?_
    | with_reducible refine DV.w_call ?_
    | with_reducible refine DV.w_fn ?_
    | with_reducible refine DV.w_f1 ?_
    | with_reducible refine DV.w_f2 ?_
    | with_reducible refine DV.w_f3 ?_
    | with_reducible refine DV.w_f4 ?_
    | with_reducible refine DV.w_f5 ?_
    | with_reducible refine DV.w_f6 ?_
    | with_reducible refine DV.w_set ?_
    | with_reducible refine DV.w_setApp ?_
    | with_reducible refine DV.w_setX (by with_unfolding_all exact rfl) (by with_unfolding_all (simp only [List.set_cons_succ, List.set_cons_zero]; rfl)) ?_
    | with_reducible refine DV.w_rt ?_
    | with_reducible refine DV.w_rtD ?_
    | with_reducible refine DV.w_rtN ?_
    | with_reducible refine DV.w_rtV (by with_unfolding_all exact rfl) ?_
    | with_reducible refine DV.w_if ?_
    | with_reducible refine DV.w_drop ?_
    | with_reducible refine DV.w_nop ?_
    | with_reducible refine DV.w_T ?_
    | with_reducible refine DV.w_B ?_
    | with_reducible refine DV.w_not ?_
    | with_reducible refine DV.w_and ?_
    | with_reducible refine DV.w_or ?_
    | with_reducible refine DV.w_ifT ?_
    | with_reducible refine DV.w_ifF ?_
    | with_reducible refine DV.w_ifNT ?_
    | with_reducible refine DV.w_ifNF ?_
    | with_reducible refine DV.w_stup ?_
    | with_reducible refine DV.w_stupD (by with_unfolding_all (simp only [DV.wipeE, DV.gTupF, DV.gMore, DV.gNone, DV.gNm, List.set_cons_succ, List.set_cons_zero, List.length]; rfl)) ?_
    | with_reducible refine DV.w_aug (by with_unfolding_all exact rfl) ?_
    | with_reducible refine DV.w_I ?_
    | with_reducible refine DV.w_app (by with_unfolding_all exact rfl) (by simp only [List.length_map]; omega) ?_
    | with_reducible refine DV.w_D ?_
    | with_reducible refine DV.w_for ?_
    | with_reducible refine DV.w_lc ?_
    | with_reducible refine DV.w_par ?_
    | with_reducible refine DV.w_par3 ?_
    | with_reducible refine DV.w_par4 ?_
    | with_reducible refine DV.w_parX (by with_unfolding_all exact rfl) (by with_unfolding_all exact rfl) (by with_unfolding_all (simp only [List.set_cons_succ, List.set_cons_zero]; rfl)) ?_
    | with_reducible refine DV.w_par3X (by with_unfolding_all exact rfl) (by with_unfolding_all exact rfl) (by with_unfolding_all exact rfl) (by with_unfolding_all (simp only [List.set_cons_succ, List.set_cons_zero]; rfl)) ?_
    | with_reducible refine DV.w_par4X (by with_unfolding_all exact rfl) (by with_unfolding_all exact rfl) (by with_unfolding_all exact rfl) (by with_unfolding_all exact rfl) (by with_unfolding_all (simp only [List.set_cons_succ, List.set_cons_zero]; rfl)) ?_
    | with_reducible refine DV.w_tup ?_
    | with_reducible refine DV.w_lst ?_
    | with_reducible refine DV.w_tu (by with_unfolding_all exact rfl) (by with_unfolding_all exact Nat.le_of_ble_eq_true rfl) ?_
    | with_reducible refine DV.w_ls (by with_unfolding_all exact rfl) (by with_unfolding_all exact Nat.le_of_ble_eq_true rfl) ?_
    | with_reducible refine DV.w_neg ?_
    | with_reducible refine DV.w_ifB ?_
    | with_reducible refine DV.w_ifE ?_
    | with_reducible refine DV.w_notB ?_
    | with_reducible refine DV.w_tt ?_
    | with_reducible refine DV.w_ch ?_
    | with_reducible refine DV.w_add ?_
    | with_reducible refine DV.w_sub ?_
    | with_reducible refine DV.w_mul (by first | omega | (left; constructor <;> omega) | (right; constructor <;> omega)) ?_
    | with_reducible refine DV.w_mod (by omega) ?_
    | with_reducible refine DV.w_div (by omega) ?_
    | with_reducible refine DV.w_lt ?_
    | with_reducible refine DV.w_le ?_
    | with_reducible refine DV.w_gt ?_
    | with_reducible refine DV.w_ge ?_
    | with_reducible refine DV.w_ltA ?_
    | with_reducible refine DV.w_leA ?_
    | with_reducible refine DV.w_gtA ?_
    | with_reducible refine DV.w_geA ?_
    | with_reducible refine DV.w_eq ?_
    | with_reducible refine DV.w_ne ?_
    | with_reducible refine DV.w_eqB ?_
    | with_reducible refine DV.w_neB ?_
    | with_reducible refine DV.w_eqN ?_
    | with_reducible refine DV.w_neN ?_
    | with_reducible refine DV.w_eqN0 ?_
    | with_reducible refine DV.w_neN0 ?_
    | with_reducible refine DV.w_in ?_
    | with_reducible refine DV.w_inB ?_
    | with_reducible refine DV.w_notIn ?_
    | with_reducible refine DV.w_notInB ?_
    | with_reducible refine DV.w_ix0 ?_
    | with_reducible refine DV.w_ix1 ?_
    | with_reducible refine DV.w_ix (by omega) ?_
    | with_reducible refine DV.w_ixB (by omega) ?_
    | with_reducible refine DV.w_len ?_
    | with_reducible refine DV.w_lenB ?_
    | with_reducible refine DV.w_lenN ?_
    | with_reducible refine DV.w_lenM ?_
    | with_reducible refine DV.w_lenMB ?_
    | with_reducible refine DV.w_lenMN ?_
    | with_reducible refine DV.w_lenD ?_
    | with_reducible refine DV.w_lenDB ?_
    | with_reducible refine DV.w_lenDN ?_
    | with_reducible refine DV.w_tupN ?_
    | with_reducible refine DV.w_tupB ?_
    | with_reducible refine DV.w_tupD ?_
    | with_reducible refine DV.w_lstD ?_
    | with_reducible refine DV.w_lstB ?_
    | with_reducible refine DV.w_lstN ?_
    | with_reducible refine DV.w_sum ?_
    | with_reducible refine DV.w_sumN ?_
    | with_reducible refine DV.w_sumB ?_
    | with_reducible refine DV.w_max2 ?_
    | with_reducible refine DV.w_min2 ?_
    | with_reducible refine DV.w_int ?_
    | with_reducible refine DV.w_sort ?_
    | with_reducible refine DV.w_sortN ?_
    | with_reducible refine DV.w_sortB ?_
    | with_reducible refine DV.w_rep (by omega) ?_
    | with_reducible refine DV.w_repN (by omega) ?_
    | with_reducible refine DV.w_moveG (by with_unfolding_all exact rfl) (by with_unfolding_all (simp only [List.set_cons_succ, List.set_cons_zero]; rfl)) ?_
    | with_reducible refine DV.w_moveO (by with_unfolding_all exact rfl) (by with_unfolding_all (simp only [List.set_cons_succ, List.set_cons_zero]; rfl)) ?_
    | with_reducible refine DV.w_moveD (by with_unfolding_all exact rfl) (by with_unfolding_all (simp only [List.set_cons_succ, List.set_cons_zero]; rfl)) ?_
    | with_reducible refine DV.w_catTI (by (try simp only [List.length_append, List.length_take, List.length_drop, List.length_cons, List.length_nil]); omega) ?_
    | with_reducible refine DV.w_catT1 (by (try simp only [List.length_append, List.length_take, List.length_drop, List.length_cons, List.length_nil]); omega) ?_
    | with_reducible refine DV.w_listG ?_
    | with_reducible refine DV.w_sortK ?_
    | with_reducible refine DV.w_colS ?_
    | with_reducible refine DV.w_itT ?_
    | with_reducible refine DV.w_itB ?_
    | with_reducible refine DV.w_itN ?_
    | with_reducible refine DV.w_colR ?_
    | with_reducible refine DV.w_colRN (by omega) ?_
    | with_reducible refine DV.w_ext (by with_unfolding_all exact rfl) ?_
    | with_reducible refine DV.w_lc2 ?_
    | with_reducible refine DV.w_isT ?_
    | with_reducible refine DV.w_isNN ?_
    | with_reducible refine DV.w_isNI ?_
    | with_reducible refine DV.w_isNT ?_
    | with_reducible refine DV.w_ntNN ?_
    | with_reducible refine DV.w_ntNI ?_
    | with_reducible refine DV.w_ntNT ?_
    | with_reducible refine DV.w_repND (by omega) ?_
    | with_reducible refine DV.w_put (by with_unfolding_all exact rfl) ?_
    | with_reducible refine DV.w_putI (by (try simp only [List.length_set, List.length_replicate, List.length_map]); omega) ?_
    | with_reducible refine DV.w_eqB0 ?_
    | with_reducible refine DV.w_neB0 ?_
    | with_reducible refine DV.w_eqBB ?_
    | with_reducible refine DV.w_neBB ?_
    | with_reducible refine DV.w_eqNB ?_
    | with_reducible refine DV.w_neNB ?_
    | with_reducible refine DV.w_eqBN ?_
    | with_reducible refine DV.w_neBN ?_
    | with_reducible refine DV.w_eqT0 ?_
    | with_reducible refine DV.w_neT0 ?_
    | with_reducible refine DV.w_eqT ?_
    | with_reducible refine DV.w_neT ?_
    | with_reducible refine DV.w_gget ?_
    | with_reducible refine DV.w_dc ?_
    | with_reducible refine DV.w_dcN ?_
    | with_reducible refine DV.w_G ?_
    | with_reducible refine DV.w_gput ?_
    | with_reducible refine DV.w_gnew ?_
    | with_reducible refine DV.w_g1 ?_
    | with_reducible refine DV.w_ret ?_
    | with_reducible refine DV.w_slice ?_
    | with_reducible refine DV.w_part ?_
    | with_reducible refine DV.w_slToI (by omega) ?_
    | with_reducible refine DV.w_slFromI (by omega) ?_
    | with_reducible refine DV.w_slToBI (by omega) ?_
    | with_reducible refine DV.w_slFromBI (by omega) ?_
    | with_reducible refine DV.w_star ?_
    | with_reducible refine DV.w_starT ?_
    | with_reducible refine DV.w_starB ?_
    | with_reducible refine DV.w_starN ?_
    | with_reducible refine DV.w_ixR (by omega) ?_
    | with_reducible refine DV.w_ixRB (by omega) ?_
    | with_reducible refine DV.w_lrg ?_
    | with_reducible refine DV.w_trg ?_
    | with_reducible refine DV.w_rg (by omega) ?_
    | with_reducible refine DV.w_enum ?_
    | with_reducible refine DV.w_zip ?_
    | with_reducible refine DV.w_zip3 ?_
    | with_reducible refine DV.w_step ?_
    | with_reducible refine DV.w_stepB (by omega) ?_
    | with_reducible refine DV.w_srev ?_
    | with_reducible refine DV.w_srevT ?_
    | with_reducible refine DV.w_isTT ?_
    | with_reducible refine DV.w_ntTT ?_
    | with_reducible refine DV.w_isFT ?_
    | with_reducible refine DV.w_ntFT ?_
    | with_reducible refine DV.w_isTF ?_
    | with_reducible refine DV.w_ntTF ?_
    | with_reducible refine DV.w_isFF ?_
    | with_reducible refine DV.w_ntFF ?_
    | with_reducible refine DV.w_ixS (by omega) ?_
    | with_reducible refine DV.w_ix2 ?_
    | with_reducible refine DV.w_gget2 ?_
    | with_reducible refine DV.w_notInTs ?_
    | with_reducible refine DV.w_inTs ?_
    | with_reducible refine DV.w_inTsN ?_
    | with_reducible refine DV.w_sset ?_
    | with_reducible refine DV.w_ssetU (by omega) (by assumption) ?_
    | with_reducible refine DV.w_met ?_
    | with_reducible refine DV.w_itL ?_
    | with_reducible refine DV.w_two ?_
    | with_reducible refine DV.w_twoX ?_
    | with_reducible refine DV.w_neS ?_
    | with_reducible refine DV.w_eqS ?_
    | with_reducible refine DV.w_rev ?_
    | with_reducible refine DV.w_revN ?_
    | with_reducible refine DV.w_lset ?_
    | with_reducible refine DV.w_isNL ?_
    | with_reducible refine DV.w_isBL ?_
    | with_reducible refine DV.w_ntNL ?_
    | with_reducible refine DV.w_ntBL ?_
    | with_reducible refine DV.w_abs ?_
    | with_reducible refine DV.w_neBl ?_
    | with_reducible refine DV.w_eqBl ?_
    | with_reducible refine DV.w_eqIP ?_
    | with_reducible refine DV.w_neIP ?_
    | with_reducible refine DV.w_ix3 ?_
    | with_reducible refine DVR.w_neW ?_
    | with_reducible refine DVR.w_ixL (by omega) ?_
    | with_reducible refine DV.w_dcomp ?_
    | with_reducible refine DV.w_intB ?_
    | with_reducible refine DV.w_augIx (by with_unfolding_all exact rfl) ?_
    | with_reducible refine DV.w_inN ?_
    | with_reducible refine DV.w_notInN ?_
    | with_reducible refine DV.w_srcE ?_
    | with_reducible refine DV.w_srcV (by with_unfolding_all exact rfl) ?_
    | with_reducible refine DV.w_src (by with_unfolding_all exact rfl) ?_
    | with_reducible refine DV.w_rng1 ?_
    | with_reducible refine DV.w_rng2 ?_
    | with_reducible refine DV.w_rng2I (by omega) ?_
    | with_reducible refine DV.w_rngN (by omega) ?_
    | with_reducible refine DV.w_rngI (by omega) ?_
    | with_reducible refine DV.w_loopN ?_
    | with_reducible refine DV.w_loopC ?_
    | with_reducible refine DV.w_loopB ?_
    | with_reducible refine DV.w_loopR ?_
    | with_reducible refine DV.w_runN ?_
    | with_reducible refine DV.w_runR ?_
    | with_reducible refine DV.w_tg (by with_unfolding_all (simp only [DV.lockE, DV.unlockE, List.getElem?_cons_succ, List.getElem?_cons_zero, DV.wipeE, DV.gTupF, DV.gMore, DV.gNone, DV.gNm, List.set_cons_succ, List.set_cons_zero, List.length]; rfl)) ?_)
/-- the jobs that are left, and able -/
def lfJ (n : Nat) (done : List Int) : List Int := (rngI 0 n).filter fun j => !done.elem j
def abB (P : List (Int × Int)) (left : List Int) (j : Int) : Bool := P.any fun p => decide (p.2 = j) && left.elem p.1
def Ab (P : List (Int × Int)) (n : Nat) (done : List Int) : List Int := (lfJ n done).filter fun j => !abB P (lfJ n done) j
structure Prs (n : Nat) (P : List (Int × Int)) : Prop where
  rg : ∀ p ∈ P, (0 ≤ p.1 ∧ p.1 < (n : Int)) ∧ 0 ≤ p.2 ∧ p.2 < (n : Int)
  ac : ∃ rk : Int → Nat, ∀ p ∈ P, rk p.1 < rk p.2
  len : P.length ≤ 40
theorem mem_lfJ {n : Nat} {done : List Int} {j : Int} : j ∈ lfJ n done ↔ (0 ≤ j ∧ j < (n : Int)) ∧ j ∉ done := by
  unfold lfJ
  rw [List.mem_filter, mem_rngI]
  simp
theorem mem_Ab {n : Nat} {P : List (Int × Int)} {done : List Int} {j : Int} (G : Prs n P) : j ∈ Ab P n done ↔ (0 ≤ j ∧ j < (n : Int)) ∧ j ∉ done ∧ ∀ p ∈ P, p.2 = j → p.1 ∈ done := by
  unfold Ab abB
  rw [List.mem_filter, mem_lfJ]
  simp only [Bool.not_eq_true', List.any_eq_false, Bool.and_eq_true, decide_eq_true_eq, not_and, List.elem_iff]
  constructor
  · rintro ⟨⟨h1, h2⟩, h3⟩
    refine ⟨h1, h2, fun p hp e => ?_⟩
    have := h3 p hp e
    rw [mem_lfJ] at this
    exact Classical.byContradiction fun z => this ⟨(G.rg p hp).1, z⟩
  · rintro ⟨h1, h2, h3⟩
    refine ⟨⟨h1, h2⟩, fun p hp e hm => ?_⟩
    exact (mem_lfJ.mp hm).2 (h3 p hp e)
theorem Ab_nodup (P : List (Int × Int)) (n : Nat) (done : List Int) : (Ab P n done).Nodup := ((rngI_nodup 0 n).sublist List.filter_sublist).sublist List.filter_sublist
end DVL




namespace Lk89
open PySem L2 DV DVL DVH
local macro_rules
  | `(tactic| get_elem_tactic_trivial) => `(tactic| first
    | (simp only [List.set_cons_succ, List.set_cons_zero, DV.startE, DV.lawE, DV.toK, DV.lockE, DV.wipeE, List.map_cons, List.map_nil, List.length_cons, List.length_nil, List.replicate_zero, List.replicate_succ, Nat.reduceSub, Nat.reduceAdd, List.append_nil, List.cons_append, List.nil_append]; rfl)
    | exact rfl)
local macro_rules
  | `(tactic| infer_instance) => `(tactic| first
    | with_reducible refine DV.w_cons ?_
    | with_reducible refine DV.w_var (by with_unfolding_all exact rfl) ?_
    | with_reducible refine DV.w_c ?_
    | with_reducible refine DV.w_nil ?_
    | with_reducible refine DV.w_e2 ?_
    | with_reducible refine DV.w_seq ?_
    | with_reducible refine DV.w_seqN ?_
    | with_reducible refine DV.w_seqR ?_
    | with_reducible refine DV.w_seqB ?_
    | with_reducible refine DV.w_seqC ?_
    | with_reducible refine DV.w_call ?_
    | with_reducible refine DV.w_fn ?_
    | with_reducible refine DV.w_f1 ?_
    | with_reducible refine DV.w_f2 ?_
    | with_reducible refine DV.w_f3 ?_
    | with_reducible refine DV.w_f4 ?_
    | with_reducible refine DV.w_f5 ?_
    | with_reducible refine DV.w_f6 ?_
    | with_reducible refine DV.w_set ?_
    | with_reducible refine DV.w_setApp ?_
    | with_reducible refine DV.w_setX (by with_unfolding_all exact rfl) (by with_unfolding_all (simp only [List.set_cons_succ, List.set_cons_zero]; rfl)) ?_
    | with_reducible refine DV.w_rt ?_
    | with_reducible refine DV.w_rtD ?_
    | with_reducible refine DV.w_rtN ?_
    | with_reducible refine DV.w_rtV (by with_unfolding_all exact rfl) ?_
    | with_reducible refine DV.w_if ?_
    | with_reducible refine DV.w_drop ?_
    | with_reducible refine DV.w_nop ?_
    | with_reducible refine DV.w_T ?_
    | with_reducible refine DV.w_B ?_
    | with_reducible refine DV.w_not ?_
    | with_reducible refine DV.w_and ?_
    | with_reducible refine DV.w_or ?_
    | with_reducible refine DV.w_ifT ?_
    | with_reducible refine DV.w_ifF ?_
    | with_reducible refine DV.w_ifNT ?_
    | with_reducible refine DV.w_ifNF ?_
    | with_reducible refine DV.w_stup ?_
    | with_reducible refine DV.w_stupD (by with_unfolding_all (simp only [DV.wipeE, DV.gTupF, DV.gMore, DV.gNone, DV.gNm, List.set_cons_succ, List.set_cons_zero, List.length]; rfl)) ?_
    | with_reducible refine DV.w_aug (by with_unfolding_all exact rfl) ?_
    | with_reducible refine DV.w_I ?_
    | with_reducible refine DV.w_app (by with_unfolding_all exact rfl) (by simp only [List.length_map]; omega) ?_
    | with_reducible refine DV.w_D ?_
    | with_reducible refine DV.w_for ?_
    | with_reducible refine DV.w_lc ?_
    | with_reducible refine DV.w_par ?_
    | with_reducible refine DV.w_par3 ?_
    | with_reducible refine DV.w_par4 ?_
    | with_reducible refine DV.w_parX (by with_unfolding_all exact rfl) (by with_unfolding_all exact rfl) (by with_unfolding_all (simp only [List.set_cons_succ, List.set_cons_zero]; rfl)) ?_
    | with_reducible refine DV.w_par3X (by with_unfolding_all exact rfl) (by with_unfolding_all exact rfl) (by with_unfolding_all exact rfl) (by with_unfolding_all (simp only [List.set_cons_succ, List.set_cons_zero]; rfl)) ?_
    | with_reducible refine DV.w_par4X (by with_unfolding_all exact rfl) (by with_unfolding_all exact rfl) (by with_unfolding_all exact rfl) (by with_unfolding_all exact rfl) (by with_unfolding_all (simp only [List.set_cons_succ, List.set_cons_zero]; rfl)) ?_
    | with_reducible refine DV.w_tup ?_
    | with_reducible refine DV.w_lst ?_
    | with_reducible refine DV.w_tu (by with_unfolding_all exact rfl) (by with_unfolding_all exact Nat.le_of_ble_eq_true rfl) ?_
    | with_reducible refine DV.w_ls (by with_unfolding_all exact rfl) (by with_unfolding_all exact Nat.le_of_ble_eq_true rfl) ?_
    | with_reducible refine DV.w_neg ?_
    | with_reducible refine DV.w_ifB ?_
    | with_reducible refine DV.w_ifE ?_
    | with_reducible refine DV.w_notB ?_
    | with_reducible refine DV.w_tt ?_
    | with_reducible refine DV.w_ch ?_
    | with_reducible refine DV.w_add ?_
    | with_reducible refine DV.w_sub ?_
    | with_reducible refine DV.w_mul (by first | omega | (left; constructor <;> omega) | (right; constructor <;> omega)) ?_
    | with_reducible refine DV.w_mod (by omega) ?_
    | with_reducible refine DV.w_div (by omega) ?_
    | with_reducible refine DV.w_lt ?_
    | with_reducible refine DV.w_le ?_
    | with_reducible refine DV.w_gt ?_
    | with_reducible refine DV.w_ge ?_
    | with_reducible refine DV.w_ltA ?_
    | with_reducible refine DV.w_leA ?_
    | with_reducible refine DV.w_gtA ?_
    | with_reducible refine DV.w_geA ?_
    | with_reducible refine DV.w_eq ?_
    | with_reducible refine DV.w_ne ?_
    | with_reducible refine DV.w_eqB ?_
    | with_reducible refine DV.w_neB ?_
    | with_reducible refine DV.w_eqN ?_
    | with_reducible refine DV.w_neN ?_
    | with_reducible refine DV.w_eqN0 ?_
    | with_reducible refine DV.w_neN0 ?_
    | with_reducible refine DV.w_in ?_
    | with_reducible refine DV.w_inB ?_
    | with_reducible refine DV.w_notIn ?_
    | with_reducible refine DV.w_notInB ?_
    | with_reducible refine DV.w_ix0 ?_
    | with_reducible refine DV.w_ix1 ?_
    | with_reducible refine DV.w_ix (by omega) ?_
    | with_reducible refine DV.w_ixB (by omega) ?_
    | with_reducible refine DV.w_len ?_
    | with_reducible refine DV.w_lenB ?_
    | with_reducible refine DV.w_lenN ?_
    | with_reducible refine DV.w_lenM ?_
    | with_reducible refine DV.w_lenMB ?_
    | with_reducible refine DV.w_lenMN ?_
    | with_reducible refine DV.w_lenD ?_
    | with_reducible refine DV.w_lenDB ?_
    | with_reducible refine DV.w_lenDN ?_
    | with_reducible refine DV.w_tupN ?_
    | with_reducible refine DV.w_tupB ?_
    | with_reducible refine DV.w_tupD ?_
    | with_reducible refine DV.w_lstD ?_
    | with_reducible refine DV.w_lstB ?_
    | with_reducible refine DV.w_lstN ?_
    | with_reducible refine DV.w_sum ?_
    | with_reducible refine DV.w_sumN ?_
    | with_reducible refine DV.w_sumB ?_
    | with_reducible refine DV.w_max2 ?_
    | with_reducible refine DV.w_min2 ?_
    | with_reducible refine DV.w_int ?_
    | with_reducible refine DV.w_sort ?_
    | with_reducible refine DV.w_sortN ?_
    | with_reducible refine DV.w_sortB ?_
    | with_reducible refine DV.w_rep (by omega) ?_
    | with_reducible refine DV.w_repN (by omega) ?_
    | with_reducible refine DV.w_moveG (by with_unfolding_all exact rfl) (by with_unfolding_all (simp only [List.set_cons_succ, List.set_cons_zero]; rfl)) ?_
    | with_reducible refine DV.w_moveO (by with_unfolding_all exact rfl) (by with_unfolding_all (simp only [List.set_cons_succ, List.set_cons_zero]; rfl)) ?_
    | with_reducible refine DV.w_moveD (by with_unfolding_all exact rfl) (by with_unfolding_all (simp only [List.set_cons_succ, List.set_cons_zero]; rfl)) ?_
    | with_reducible refine DV.w_catTI (by (try simp only [List.length_append, List.length_take, List.length_drop, List.length_cons, List.length_nil]); omega) ?_
    | with_reducible refine DV.w_catT1 (by (try simp only [List.length_append, List.length_take, List.length_drop, List.length_cons, List.length_nil]); omega) ?_
    | with_reducible refine DV.w_listG ?_
    | with_reducible refine DV.w_sortK ?_
    | with_reducible refine DV.w_colS ?_
    | with_reducible refine DV.w_itT ?_
    | with_reducible refine DV.w_itB ?_
    | with_reducible refine DV.w_itN ?_
    | with_reducible refine DV.w_colR ?_
    | with_reducible refine DV.w_colRN (by omega) ?_
    | with_reducible refine DV.w_ext (by with_unfolding_all exact rfl) ?_
    | with_reducible refine DV.w_lc2 ?_
    | with_reducible refine DV.w_isT ?_
    | with_reducible refine DV.w_isNN ?_
    | with_reducible refine DV.w_isNI ?_
    | with_reducible refine DV.w_isNT ?_
    | with_reducible refine DV.w_ntNN ?_
    | with_reducible refine DV.w_ntNI ?_
    | with_reducible refine DV.w_ntNT ?_
    | with_reducible refine DV.w_repND (by omega) ?_
    | with_reducible refine DV.w_put (by with_unfolding_all exact rfl) ?_
    | with_reducible refine DV.w_putI (by (try simp only [List.length_set, List.length_replicate, List.length_map]); omega) ?_
    | with_reducible refine DV.w_eqB0 ?_
    | with_reducible refine DV.w_neB0 ?_
    | with_reducible refine DV.w_eqBB ?_
    | with_reducible refine DV.w_neBB ?_
    | with_reducible refine DV.w_eqNB ?_
    | with_reducible refine DV.w_neNB ?_
    | with_reducible refine DV.w_eqBN ?_
    | with_reducible refine DV.w_neBN ?_
    | with_reducible refine DV.w_eqT0 ?_
    | with_reducible refine DV.w_neT0 ?_
    | with_reducible refine DV.w_eqT ?_
    | with_reducible refine DV.w_neT ?_
    | with_reducible refine DV.w_gget ?_
    | with_reducible refine DV.w_dc ?_
    | with_reducible refine DV.w_dcN ?_
    | with_reducible refine DV.w_G ?_
    | with_reducible refine DV.w_gput ?_
    | with_reducible refine DV.w_gnew ?_
    | with_reducible refine DV.w_g1 ?_
    | with_reducible refine DV.w_ret ?_
    | with_reducible refine DV.w_slice ?_
    | with_reducible refine DV.w_part ?_
    | with_reducible refine DV.w_slToI (by omega) ?_
    | with_reducible refine DV.w_slFromI (by omega) ?_
    | with_reducible refine DV.w_slToBI (by omega) ?_
    | with_reducible refine DV.w_slFromBI (by omega) ?_
    | with_reducible refine DV.w_star ?_
    | with_reducible refine DV.w_starT ?_
    | with_reducible refine DV.w_starB ?_
    | with_reducible refine DV.w_starN ?_
    | with_reducible refine DV.w_ixR (by omega) ?_
    | with_reducible refine DV.w_ixRB (by omega) ?_
    | with_reducible refine DV.w_lrg ?_
    | with_reducible refine DV.w_trg ?_
    | with_reducible refine DV.w_rg (by omega) ?_
    | with_reducible refine DV.w_enum ?_
    | with_reducible refine DV.w_zip ?_
    | with_reducible refine DV.w_zip3 ?_
    | with_reducible refine DV.w_step ?_
    | with_reducible refine DV.w_stepB (by omega) ?_
    | with_reducible refine DV.w_srev ?_
    | with_reducible refine DV.w_srevT ?_
    | with_reducible refine DV.w_isTT ?_
    | with_reducible refine DV.w_ntTT ?_
    | with_reducible refine DV.w_isFT ?_
    | with_reducible refine DV.w_ntFT ?_
    | with_reducible refine DV.w_isTF ?_
    | with_reducible refine DV.w_ntTF ?_
    | with_reducible refine DV.w_isFF ?_
    | with_reducible refine DV.w_ntFF ?_
    | with_reducible refine DV.w_ixS (by omega) ?_
    | with_reducible refine DV.w_ix2 ?_
    | with_reducible refine DV.w_gget2 ?_
    | with_reducible refine DV.w_notInTs ?_
    | with_reducible refine DV.w_inTs ?_
    | with_reducible refine DV.w_inTsN ?_
    | with_reducible refine DV.w_sset ?_
    | with_reducible refine DV.w_ssetU (by omega) (by assumption) ?_
    | with_reducible refine DV.w_met ?_
    | with_reducible refine DV.w_itL ?_
    | with_reducible refine DV.w_two ?_
    | with_reducible refine DV.w_twoX ?_
    | with_reducible refine DV.w_neS ?_
    | with_reducible refine DV.w_eqS ?_
    | with_reducible refine DV.w_rev ?_
    | with_reducible refine DV.w_revN ?_
    | with_reducible refine DV.w_lset ?_
    | with_reducible refine DV.w_isNL ?_
    | with_reducible refine DV.w_isBL ?_
    | with_reducible refine DV.w_ntNL ?_
    | with_reducible refine DV.w_ntBL ?_
    | with_reducible refine DV.w_abs ?_
    | with_reducible refine DV.w_neBl ?_
    | with_reducible refine DV.w_eqBl ?_
    | with_reducible refine DV.w_eqIP ?_
    | with_reducible refine DV.w_neIP ?_
    | with_reducible refine DV.w_ix3 ?_
    | with_reducible refine DVR.w_neW ?_
    | with_reducible refine DVR.w_ixL (by omega) ?_
    | with_reducible refine DV.w_dcomp ?_
    | with_reducible refine DV.w_intB ?_
    | with_reducible refine DV.w_augIx (by with_unfolding_all exact rfl) ?_
    | with_reducible refine DV.w_inN ?_
    | with_reducible refine DV.w_notInN ?_
    | with_reducible refine DV.w_srcE ?_
    | with_reducible refine DV.w_srcV (by with_unfolding_all exact rfl) ?_
    | with_reducible refine DV.w_src (by with_unfolding_all exact rfl) ?_
    | with_reducible refine DV.w_rng1 ?_
    | with_reducible refine DV.w_rng2 ?_
    | with_reducible refine DV.w_rng2I (by omega) ?_
    | with_reducible refine DV.w_rngN (by omega) ?_
    | with_reducible refine DV.w_rngI (by omega) ?_
    | with_reducible refine DV.w_loopN ?_
    | with_reducible refine DV.w_loopC ?_
    | with_reducible refine DV.w_loopB ?_
    | with_reducible refine DV.w_loopR ?_
    | with_reducible refine DV.w_runN ?_
    | with_reducible refine DV.w_runR ?_
    | with_reducible refine DV.w_tg (by with_unfolding_all (simp only [DV.lockE, DV.unlockE, List.getElem?_cons_succ, List.getElem?_cons_zero, DV.wipeE, DV.gTupF, DV.gMore, DV.gNone, DV.gNm, List.set_cons_succ, List.set_cons_zero, List.length]; rfl)) ?_)
theorem r0_ {P : RV → Prop} {q : Rat} (h : P (.d (.int q.num))) : K2 gIx P (.d (qtD q)) (.d (.int 0)) := ⟨_, rfl, h⟩
theorem r1_ {P : RV → Prop} {q : Rat} (h : P (.d (.int (q.den : Int)))) : K2 gIx P (.d (qtD q)) (.d (.int 1)) := ⟨_, rfl, h⟩
local macro_rules
  | `(tactic| infer_instance) => `(tactic| first
    | with_reducible refine r0_ ?_
    | with_reducible refine r1_ ?_)
theorem ratio_is {a b : Int} {q : Rat} (h0 : 0 < b) (h1 : b.natAbs < 2 ^ 4000) (e : (a : Rat) = q * (b : Rat)) : DV.Gives (m_ratio [.d (.int a), .d (.int b)]) fun r => r = .d (qtD q) := by
  have h := ratW_gives a b h0 h1
  have hb : (b : Rat) ≠ 0 := by
    have : b ≠ 0 := by omega
    exact_mod_cast this
  rw [show (a : Rat) / (b : Rat) = q by grind] at h
  exact h
theorem na_den {q : Rat} {k : Nat} (h : Sz k q) : ((q.den : Nat) : Int).natAbs < 2 ^ k := by rw [Int.natAbs_natCast]; exact h.2
theorem den_pos (q : Rat) : 0 < ((q.den : Nat) : Int) := by
  have := q.den_pos
  omega
theorem nd_ (q : Rat) : (q.num : Rat) = q * (((q.den : Nat) : Int) : Rat) := (num_den q).symm
theorem is_less_gives {p q : Rat} (hp : Sz 3000 p) (hq : Sz 3000 q) : DV.Gives (m_is_less [.d (qtD p), .d (qtD q)]) fun r => r = .d (.bool (decide (p < q))) := by
  unfold m_is_less
  refine DV.w_run (by get_elem_tactic_trivial) ?_
  unfold g_is_less
  repeat infer_instance
  refine w_mulB 3000 3000 hp.1 (na_den hq) (by decide) ?_
  repeat infer_instance
  refine w_mulB 3000 3000 hq.1 (na_den hp) (by decide) ?_
  repeat infer_instance
  show RV.d (.bool (decide _)) = _
  rw [decide_eq_decide.mpr (lt_iff' p q).symm]
theorem minus_gives {T : Int} {q : Rat} (hT : T.natAbs < 2 ^ 100) (hq : Sz 1000 q) : DV.Gives (m_minus [.d (.int T), .d (qtD q)]) fun r => r = .d (qtD ((T : Rat) - q)) := by
  unfold m_minus
  refine DV.w_run (by get_elem_tactic_trivial) ?_
  unfold g_minus
  repeat infer_instance
  refine w_mulB 100 1000 hT (na_den hq) (by decide) ?_
  repeat infer_instance
  refine w_is (ratio_is (q := (T : Rat) - q) (den_pos q) (na_den (hq.up (by decide))) ?_) ?_
  · rw [Rat.intCast_sub, Rat.intCast_mul, nd_ q]
    grind
  · repeat infer_instance
    rfl
theorem lowered_gives {p r s : Rat} (hp : Sz 500 p) (hr : Sz 500 r) (hs : Sz 500 s) : DV.Gives (m_lowered [.d (qtD p), .d (qtD r), .d (qtD s)]) fun z => z = .d (qtD (p - r * s)) := by
  have h1 := wide_lt hr.1 hs.1
  have h2 := wide_lt (na_den hr) (na_den hs)
  have h3 := wide_lt (na_den hp) h2
  unfold m_lowered
  refine DV.w_run (by get_elem_tactic_trivial) ?_
  unfold g_lowered
  repeat infer_instance
  refine w_mulB 500 500 hr.1 hs.1 (by decide) ?_
  repeat infer_instance
  refine w_mulB 500 500 (na_den hr) (na_den hs) (by decide) ?_
  repeat infer_instance
  refine w_mulB 500 1000 hp.1 h2 (by decide) ?_
  repeat infer_instance
  refine w_mulB 1000 500 h1 (na_den hp) (by decide) ?_
  repeat infer_instance
  refine w_mulB 500 1000 (na_den hp) h2 (by decide) ?_
  repeat infer_instance
  refine w_is (ratio_is (q := p - r * s) (Int.mul_pos (den_pos p) (Int.mul_pos (den_pos r) (den_pos s))) (Nat.lt_of_lt_of_le h3 (Nat.pow_le_pow_right (by decide) (by decide))) ?_) ?_
  · rw [Rat.intCast_sub, Rat.intCast_mul, Rat.intCast_mul, Rat.intCast_mul, Rat.intCast_mul, Rat.intCast_mul, Rat.intCast_mul, nd_ p, nd_ r, nd_ s]
    grind
  · repeat infer_instance
    rfl
theorem w_zipS {α : Type} {C : List D × Option Nat → Prop} {A : List α} {f g : α → D} {l1 l2 l : Option Nat} (e : joinLk l1 l2 = some l) (p : C (A.map (fun a => PyData.tuple [f a, g a]), l)) : KZip C (A.map f, l1) (A.map g, l2) := by
  refine w_zipM e ?_
  have : (A.zip A).map (fun p => PyData.tuple [f p.1, g p.2]) = A.map (fun a => PyData.tuple [f a, g a]) := by
    clear p
    induction A with
    | nil => rfl
    | cons a A ih => rw [List.zip_cons_cons, List.map_cons, List.map_cons, ih]
  rw [this]
  exact p
def bD : Option Rat → D
  | none => .none
  | some q => qtD q
theorem bN_ {P : RV → Prop} (p : P (.d (.bool true))) : K2 gIs P (.d (bD none)) (.d .none) := ⟨_, rfl, p⟩
theorem bS_ {P : RV → Prop} {q : Rat} (p : P (.d (.bool false))) : K2 gIs P (.d (bD (some q))) (.d .none) := w_isNT p
local macro_rules
  | `(tactic| infer_instance) => `(tactic| first
    | with_reducible refine bN_ ?_
    | with_reducible refine bS_ ?_)
/-- the least of some -/
inductive Bst (S : Rat → Prop) : Option Rat → Prop
  | no : (∀ e, ¬ S e) → Bst S none
  | yes {δ : Rat} : S δ → (∀ e, S e → δ ≤ e) → Sz 2100 δ → Bst S (some δ)
theorem Bst.add {S : Rat → Prop} {b : Option Rat} {c : Rat} (h : Bst S b) (hc : Sz 2100 c) : Bst (fun e => S e ∨ e = c) (match b with | none => some c | some δ => if c < δ then some c else some δ) := by
  cases h with
  | no h => exact .yes (.inr rfl) (fun e he => by
      rcases he with z | z
      · exact absurd z (h e)
      · rw [z]; exact Rat.le_refl) hc
  | @yes δ h1 h2 h3 =>
    show Bst _ (if c < δ then some c else some δ)
    by_cases z : c < δ
    · rw [if_pos z]
      exact .yes (.inr rfl) (fun e he => by
        rcases he with y | y
        · have := h2 e y
          grind
        · rw [y]; exact Rat.le_refl) hc
    · rw [if_neg z]
      exact .yes (.inl h1) (fun e he => by
        rcases he with y | y
        · exact h2 e y
        · rw [y]; grind) h3
theorem Bst.same {S T : Rat → Prop} {b : Option Rat} (h : Bst S b) (e : ∀ z, S z ↔ T z) : Bst T b := by
  have : S = T := funext fun z => propext (e z)
  rw [← this]
  exact h
section
variable {F : Nat → Rat} {n : Nat} {x : Nat → Rat}
/-- job i's own step; its meeting with job j -/
def CDn (F : Nat → Rat) (n : Nat) (x : Nat → Rat) (i : Nat) (e : Rat) : Prop := 0 < x i ∧ 0 < rt F n x i ∧ e = x i / rt F n x i
def CMt (F : Nat → Rat) (n : Nat) (x : Nat → Rat) (i j : Nat) (e : Rat) : Prop := x j < x i ∧ rt F n x j < rt F n x i ∧ e = (x i - x j) / (rt F n x i - rt F n x j)
def CAll (F : Nat → Rat) (n : Nat) (x : Nat → Rat) (i : Nat) (e : Rat) : Prop := CDn F n x i e ∨ ∃ j, j < n ∧ CMt F n x i j e
theorem cand_all {e : Rat} : Cand F n x e ↔ ∃ i, i < n ∧ CAll F n x i e := by
  constructor
  · intro h
    cases h with
    | @done j hj h1 h2 h3 => exact ⟨j, hj, .inl ⟨h1, h2, h3⟩⟩
    | @meet i j hi hj h1 h2 h3 => exact ⟨i, hi, .inr ⟨j, hj, h1, h2, h3⟩⟩
  · rintro ⟨i, hi, ⟨h1, h2, h3⟩ | ⟨j, hj, h1, h2, h3⟩⟩
    · exact .done hi h1 h2 h3
    · exact .meet hi hj h1 h2 h3
abbrev envN (F : Nat → Rat) (n : Nat) (x : Nat → Rat) (b : Option Rat) (y3 y4 y5 y6 y7 y8 y9 : Option SV) : DV.Env :=
  [some (.k ((List.range n).map fun j => qtD (x j))), some (.k ((List.range n).map fun j => qtD (rt F n x j))), some (.d (bD b)), y3, y4, y5, y6, y7, y8, y9]
abbrev envI (F : Nat → Rat) (n : Nat) (x : Nat → Rat) (i : Nat) (b : Option Rat) (y5 y6 y7 y8 y9 : Option SV) : DV.Env := envN F n x b (some (.d (qtD (x i)))) (some (.d (qtD (rt F n x i)))) y5 y6 y7 y8 y9
def g_in : DV.Env → M Out := (sSeq (sSet 8 (eTup (aCons (e2 gSubI (e2 gMulB (e2 gIx (eVar 3) (eC (.int 0))) (e2 gIx (eVar 6) (eC (.int 1)))) (e2 gMulB (e2 gIx (eVar 6) (eC (.int 0))) (e2 gIx (eVar 3) (eC (.int 1))))) (aCons (e2 gMulB (e2 gIx (eVar 3) (eC (.int 1))) (e2 gIx (eVar 6) (eC (.int 1)))) aNil))))
  (sSeq (sSet 9 (eTup (aCons (e2 gSubI (e2 gMulB (e2 gIx (eVar 4) (eC (.int 0))) (e2 gIx (eVar 7) (eC (.int 1)))) (e2 gMulB (e2 gIx (eVar 7) (eC (.int 0))) (e2 gIx (eVar 4) (eC (.int 1))))) (aCons (e2 gMulB (e2 gIx (eVar 4) (eC (.int 1))) (e2 gIx (eVar 7) (eC (.int 1)))) aNil))))
  (sIf (tIfT (eT (e2 gGt (e2 gIx (eVar 8) (eC (.int 0))) (eC (.int 0)))) (eT (e2 gGt (e2 gIx (eVar 9) (eC (.int 0))) (eC (.int 0)))) (tRetB false)) (sSeq (sSet 5 (eFn (fun xs => if xs.length = 2 then m_ratio xs else fail) (aCons (e2 gMulB (e2 gIx (eVar 8) (eC (.int 0))) (e2 gIx (eVar 9) (eC (.int 1)))) (aCons (e2 gMulB (e2 gIx (eVar 8) (eC (.int 1))) (e2 gIx (eVar 9) (eC (.int 0)))) aNil))))
  (sSet 2 (eIf (tIfT (eT (e2 gIs (eVar 2) (eC .none))) (tRetB true) (eT (eFn (fun xs => if xs.length = 2 then m_is_less xs else fail) (aCons (eVar 5) (aCons (eVar 2) aNil))))) (eVar 5) (eVar 2)))) sNil)))
/-- a difference of two ratios, unreduced -/
theorem sub_pos {p q : Rat} : 0 < p.num * (q.den : Int) - q.num * (p.den : Int) ↔ q < p := by
  rw [lt_iff']
  omega
theorem sub_eq (p q : Rat) : ((p.num * (q.den : Int) - q.num * (p.den : Int) : Int) : Rat) = (p - q) * (((p.den : Int) * (q.den : Int) : Int) : Rat) := by
  rw [Rat.intCast_sub, Rat.intCast_mul, Rat.intCast_mul, Rat.intCast_mul, nd_ p, nd_ q]
  grind
theorem sub_sz {p q : Rat} (hp : Sz 500 p) (hq : Sz 500 q) : (p.num * (q.den : Int) - q.num * (p.den : Int)).natAbs < 2 ^ 1001 ∧ ((p.den : Int) * (q.den : Int)).natAbs < 2 ^ 1000 :=
  ⟨(lt_add (wide_lt hp.1 (na_den hq)) (wide_lt hq.1 (na_den hp))).1, wide_lt (na_den hp) (na_den hq)⟩
theorem div_sz {a b : Int} {q : Rat} {k : Nat} (h0 : 0 < b) (ha : a.natAbs < 2 ^ k) (hb : b.natAbs < 2 ^ k) (e : (a : Rat) = q * (b : Rat)) : Sz k q := by
  have hb' : (b : Rat) ≠ 0 := by
    have : b ≠ 0 := by omega
    exact_mod_cast this
  have := Sz.of h0 ha hb
  rw [show (a : Rat) / (b : Rat) = q by grind] at this
  exact this
theorem up_ {a : Int} {k l : Nat} (h : a.natAbs < 2 ^ k) (hkl : k ≤ l) : a.natAbs < 2 ^ l := Nat.lt_of_lt_of_le h (Nat.pow_le_pow_right (by decide) hkl)
theorem inner_N {Q : Out → Prop} {S : Rat → Prop} {i : Nat} (hi : i < n) (hx : ∀ j, j < n → Sz 500 (x j)) (hr : ∀ j, j < n → Sz 500 (rt F n x j)) {b : Option Rat} {y5 y6 y7 y8 y9 : Option SV} (hb : Bst S b)
    (k : ∀ (b' : Option Rat) (y5 y6 y7 y8 y9 : Option SV), Bst (fun e => S e ∨ ∃ j, j < n ∧ CMt F n x i j e) b' → Q (.nx (envI F n x i b' y5 y6 y7 y8 y9))) :
    KZip (KFor (gTupF 2 (gMore (gNm 6) (gMore (gNm 7) gNone))) g_in (envI F n x i b y5 y6 y7 y8 y9) Q) ((List.range n).map fun j => qtD (x j), none) ((List.range n).map fun j => qtD (rt F n x j), none) := by
  have hxi := hx i hi
  have hri := hr i hi
  refine w_zipS (A := List.range n) rfl ?_
  refine w_loop0 (fun rest ρ => ∃ (pre : List Nat) (b : Option Rat) (y5 y6 y7 y8 y9 : Option SV), List.range n = pre ++ rest ∧ Bst (fun e => S e ∨ ∃ j, j ∈ pre ∧ CMt F n x i j e) b ∧ ρ = envI F n x i b y5 y6 y7 y8 y9) ⟨[], b, _, _, _, _, _, rfl, hb.same fun z => ⟨fun h => .inl h, fun h => h.resolve_right fun ⟨j, hj, _⟩ => nomatch hj⟩, rfl⟩ ?_ ?_
  · rintro j rest ρ ⟨pre, b, y5, y6, y7, y8, y9, er, hb, rfl⟩
    have hj : j < n := by
      have : j ∈ List.range n := by rw [er]; simp
      exact List.mem_range.mp this
    have hxj := hx j hj
    have hrj := hr j hj
    have er2 : List.range n = (pre ++ [j]) ++ rest := by rw [er, List.append_assoc]; rfl
    have skip : (∀ e, ¬ CMt F n x i j e) → Bst (fun e => S e ∨ ∃ j', j' ∈ pre ++ [j] ∧ CMt F n x i j' e) b := fun hno => hb.same fun z => by
      constructor
      · rintro (h | ⟨j', h1, h2⟩)
        · exact .inl h
        · exact .inr ⟨j', List.mem_append_left _ h1, h2⟩
      · rintro (h | ⟨j', h1, h2⟩)
        · exact .inl h
        · rcases List.mem_append.mp h1 with y | y
          · exact .inr ⟨j', y, h2⟩
          · rw [List.mem_singleton.mp y] at h2
            exact absurd h2 (hno z)
    have more : ∀ {b' : Option Rat} {c : Rat}, CMt F n x i j c → Bst (fun e => (S e ∨ ∃ j', j' ∈ pre ∧ CMt F n x i j' e) ∨ e = c) b' → Bst (fun e => S e ∨ ∃ j', j' ∈ pre ++ [j] ∧ CMt F n x i j' e) b' := fun {b' c} hc hb' => hb'.same fun z => by
      constructor
      · rintro ((h | ⟨j', h1, h2⟩) | h)
        · exact .inl h
        · exact .inr ⟨j', List.mem_append_left _ h1, h2⟩
        · exact .inr ⟨j, List.mem_append_right _ (List.mem_singleton.mpr rfl), by rw [h]; exact hc⟩
      · rintro (h | ⟨j', h1, h2⟩)
        · exact .inl (.inl h)
        · rcases List.mem_append.mp h1 with y | y
          · exact .inl (.inr ⟨j', y, h2⟩)
          · rw [List.mem_singleton.mp y] at h2
            exact .inr (h2.2.2.trans hc.2.2.symm)
    obtain ⟨z1, z2⟩ := sub_sz hxi hxj
    obtain ⟨z3, z4⟩ := sub_sz hri hrj
    unfold g_in
    refine w_tg (by with_unfolding_all (simp only [DV.wipeE, DV.gTupF, DV.gMore, DV.gNone, DV.gNm, List.set_cons_succ, List.set_cons_zero, List.length]; rfl)) ?_
    repeat infer_instance
    refine w_mulB 500 500 hxi.1 (na_den hxj) (by decide) ?_
    repeat infer_instance
    refine w_mulB 500 500 hxj.1 (na_den hxi) (by decide) ?_
    repeat infer_instance
    refine w_mulB 500 500 (na_den hxi) (na_den hxj) (by decide) ?_
    repeat infer_instance
    refine w_mulB 500 500 hri.1 (na_den hrj) (by decide) ?_
    repeat infer_instance
    refine w_mulB 500 500 hrj.1 (na_den hri) (by decide) ?_
    repeat infer_instance
    refine w_mulB 500 500 (na_den hri) (na_den hrj) (by decide) ?_
    repeat infer_instance
    refine w_dec (fun c1 => ?_) (fun c1 => ?_)
    · repeat infer_instance
      refine w_dec (fun c2 => ?_) (fun c2 => ?_)
      · have d1 : x j < x i := sub_pos.mp c1
        have d2 : rt F n x j < rt F n x i := sub_pos.mp c2
        have hne : rt F n x i - rt F n x j ≠ 0 := by grind
        have hc : CMt F n x i j ((x i - x j) / (rt F n x i - rt F n x j)) := ⟨d1, d2, rfl⟩
        generalize hcd : (x i - x j) / (rt F n x i - rt F n x j) = c at hc
        have hcm : c * (rt F n x i - rt F n x j) = x i - x j := by grind
        have hpos : 0 < ((x i).den : Int) * ((x j).den : Int) * ((rt F n x i).num * ((rt F n x j).den : Int) - (rt F n x j).num * ((rt F n x i).den : Int)) := Int.mul_pos (Int.mul_pos (den_pos _) (den_pos _)) c2
        have heq : (((((x i).num * ((x j).den : Int) - (x j).num * ((x i).den : Int)) * (((rt F n x i).den : Int) * ((rt F n x j).den : Int))) : Int) : Rat) = c * (((((x i).den : Int) * ((x j).den : Int) * ((rt F n x i).num * ((rt F n x j).den : Int) - (rt F n x j).num * ((rt F n x i).den : Int))) : Int) : Rat) := by
          rw [Rat.intCast_mul, sub_eq, Rat.intCast_mul _ ((rt F n x i).num * ((rt F n x j).den : Int) - (rt F n x j).num * ((rt F n x i).den : Int)), sub_eq, ← hcm]
          grind
        have s1 := wide_lt z1 z4
        have s2 := wide_lt z2 z3
        have hsz : Sz 2100 c := div_sz hpos (up_ s1 (by decide)) (up_ s2 (by decide)) heq
        repeat infer_instance
        refine w_mulB 1001 1000 z1 z4 (by decide) ?_
        repeat infer_instance
        refine w_mulB 1000 1001 z2 z3 (by decide) ?_
        repeat infer_instance
        refine w_is (ratio_is hpos (up_ s2 (by decide)) heq) ?_
        have hadd := hb.add hsz
        cases hb with
        | no hno =>
          repeat infer_instance
          exact ⟨pre ++ [j], _, _, _, _, _, _, er2, more hc hadd, rfl⟩
        | @yes δ g1 g2 g3 =>
          repeat infer_instance
          refine w_is (is_less_gives (hsz.up (by decide)) (g3.up (by decide))) ?_
          repeat infer_instance
          refine w_dec (fun c3 => ?_) (fun c3 => ?_)
          · repeat infer_instance
            refine ⟨pre ++ [j], some c, _, _, _, _, _, er2, more hc ?_, rfl⟩
            have hadd : Bst _ (if c < δ then some c else some δ) := hadd
            rw [if_pos c3] at hadd
            exact hadd
          · repeat infer_instance
            refine ⟨pre ++ [j], some δ, _, _, _, _, _, er2, more hc ?_, rfl⟩
            have hadd : Bst _ (if c < δ then some c else some δ) := hadd
            rw [if_neg c3] at hadd
            exact hadd
      · repeat infer_instance
        exact ⟨pre ++ [j], b, _, _, _, _, _, er2, skip fun e he => c2 (sub_pos.mpr he.2.1), rfl⟩
    · repeat infer_instance
      exact ⟨pre ++ [j], b, _, _, _, _, _, er2, skip fun e he => c1 (sub_pos.mpr he.1), rfl⟩
  · rintro ρ ⟨pre, b, y5, y6, y7, y8, y9, er, hb, rfl⟩
    rw [List.append_nil] at er
    repeat infer_instance
    refine k b _ _ _ _ _ (hb.same fun z => ?_)
    constructor
    · rintro (h | ⟨j, h1, h2⟩)
      · exact .inl h
      · exact .inr ⟨j, by rw [← er] at h1; exact List.mem_range.mp h1, h2⟩
    · rintro (h | ⟨j, h1, h2⟩)
      · exact .inl h
      · exact .inr ⟨j, by rw [← er]; exact List.mem_range.mpr h1, h2⟩
theorem next_step_gives (C : Cc F) (hn : n ≤ 5) (hx : ∀ j, j < n → Sz 500 (x j)) (hr : ∀ j, j < n → Sz 500 (rt F n x j)) :
    DV.Gives (m_next_step [.b ((List.range n).map fun j => qtD (x j)), .b ((List.range n).map fun j => qtD (rt F n x j))]) fun r => (r = .d .none ∧ ∀ e, ¬ Cand F n x e) ∨ ∃ δ, r = .d (qtD δ) ∧ Cand F n x δ ∧ Lim F n x δ ∧ Sz 2100 δ := by
  unfold m_next_step
  refine DV.w_run (by get_elem_tactic_trivial) ?_
  unfold g_next_step
  repeat infer_instance
  refine w_zipS (A := List.range n) rfl ?_
  refine w_loop0 (fun rest ρ => ∃ (pre : List Nat) (b : Option Rat) (y3 y4 y5 y6 y7 y8 y9 : Option SV), List.range n = pre ++ rest ∧ Bst (fun e => ∃ i, i ∈ pre ∧ CAll F n x i e) b ∧ ρ = envN F n x b y3 y4 y5 y6 y7 y8 y9) ⟨[], none, _, _, _, _, _, _, _, rfl, .no (fun e ⟨i, hi, _⟩ => nomatch hi), rfl⟩ ?_ ?_
  · rintro i rest ρ ⟨pre, b, y3, y4, y5, y6, y7, y8, y9, er, hb, rfl⟩
    have hi : i < n := by
      have : i ∈ List.range n := by rw [er]; simp
      exact List.mem_range.mp this
    have hxi := hx i hi
    have hri := hr i hi
    refine w_tg (by with_unfolding_all (simp only [DV.wipeE, DV.gTupF, DV.gMore, DV.gNone, DV.gNm, List.set_cons_succ, List.set_cons_zero, List.length]; rfl)) ?_
    have er2 : List.range n = (pre ++ [i]) ++ rest := by rw [er, List.append_assoc]; rfl
    have join : ∀ {S : Rat → Prop} {b' : Option Rat}, (∀ e, S e ↔ (∃ i', i' ∈ pre ∧ CAll F n x i' e) ∨ CDn F n x i e) → Bst (fun e => S e ∨ ∃ j, j < n ∧ CMt F n x i j e) b' → Bst (fun e => ∃ i', i' ∈ pre ++ [i] ∧ CAll F n x i' e) b' := fun {S b'} hS h => h.same fun z => by
      rw [hS z]
      constructor
      · rintro ((⟨i', h1, h2⟩ | h) | h)
        · exact ⟨i', List.mem_append_left _ h1, h2⟩
        · exact ⟨i, List.mem_append_right _ (List.mem_singleton.mpr rfl), .inl h⟩
        · exact ⟨i, List.mem_append_right _ (List.mem_singleton.mpr rfl), .inr h⟩
      · rintro ⟨i', h1, h2⟩
        rcases List.mem_append.mp h1 with y | y
        · exact .inl (.inl ⟨i', y, h2⟩)
        · rw [List.mem_singleton.mp y] at h2
          rcases h2 with h2 | h2
          · exact .inl (.inr h2)
          · exact .inr h2
    have skip : (∀ e, ¬ CDn F n x i e) → ∀ e, (∃ i', i' ∈ pre ∧ CAll F n x i' e) ↔ (∃ i', i' ∈ pre ∧ CAll F n x i' e) ∨ CDn F n x i e := fun h e => ⟨.inl, fun z => z.resolve_right (h e)⟩
    have out : ∀ {S : Rat → Prop}, (∀ e, S e ↔ (∃ i', i' ∈ pre ∧ CAll F n x i' e) ∨ CDn F n x i e) → ∀ (b' : Option Rat) (y5 y6 y7 y8 y9 : Option SV), Bst (fun e => S e ∨ ∃ j, j < n ∧ CMt F n x i j e) b' →
        ∃ (pre' : List Nat) (b : Option Rat) (z3 z4 z5 z6 z7 z8 z9 : Option SV), List.range n = pre' ++ rest ∧ Bst (fun e => ∃ i, i ∈ pre' ∧ CAll F n x i e) b ∧ envI F n x i b' y5 y6 y7 y8 y9 = envN F n x b z3 z4 z5 z6 z7 z8 z9 := fun hS b' y5 y6 y7 y8 y9 h => ⟨pre ++ [i], b', _, _, _, _, _, _, _, er2, join hS h, rfl⟩
    repeat infer_instance
    refine w_dec (fun c1 => ?_) (fun c1 => ?_)
    · repeat infer_instance
      refine w_dec (fun c2 => ?_) (fun c2 => ?_)
      · have d1 : 0 < x i := num_pos'.mp c1
        have d2 : 0 < rt F n x i := num_pos'.mp c2
        have hc : CDn F n x i (x i / rt F n x i) := ⟨d1, d2, rfl⟩
        generalize hcd : x i / rt F n x i = c at hc
        have hcm : c * rt F n x i = x i := by
          have : rt F n x i ≠ 0 := by grind
          grind
        have hpos : 0 < ((x i).den : Int) * (rt F n x i).num := Int.mul_pos (den_pos _) c2
        have heq : (((x i).num * ((rt F n x i).den : Int) : Int) : Rat) = c * ((((x i).den : Int) * (rt F n x i).num : Int) : Rat) := by
          rw [Rat.intCast_mul, Rat.intCast_mul, nd_ (x i), nd_ (rt F n x i)]
          generalize ((((x i).den : Nat) : Int) : Rat) = A
          generalize ((((rt F n x i).den : Nat) : Int) : Rat) = B
          rw [← hcm]
          grind
        have s1 := wide_lt hxi.1 (na_den hri)
        have s2 := wide_lt (na_den hxi) hri.1
        have hsz : Sz 2100 c := div_sz hpos (up_ s1 (by decide)) (up_ s2 (by decide)) heq
        have hS : ∀ e, ((∃ i', i' ∈ pre ∧ CAll F n x i' e) ∨ e = c) ↔ (∃ i', i' ∈ pre ∧ CAll F n x i' e) ∨ CDn F n x i e := fun e => by
          constructor
          · rintro (h | h)
            · exact .inl h
            · exact .inr (by rw [h]; exact hc)
          · rintro (h | h)
            · exact .inl h
            · exact .inr (h.2.2.trans hcd)
        repeat infer_instance
        refine w_mulB 500 500 hxi.1 (na_den hri) (by decide) ?_
        repeat infer_instance
        refine w_mulB 500 500 (na_den hxi) hri.1 (by decide) ?_
        repeat infer_instance
        refine w_is (ratio_is hpos (up_ s2 (by decide)) heq) ?_
        have hadd := hb.add hsz
        cases hb with
        | no hno =>
          repeat infer_instance
          exact inner_N hi hx hr hadd (out hS)
        | @yes δ g1 g2 g3 =>
          repeat infer_instance
          refine w_is (is_less_gives (hsz.up (by decide)) (g3.up (by decide))) ?_
          repeat infer_instance
          refine w_dec (fun c3 => ?_) (fun c3 => ?_)
          · have hadd : Bst _ (if c < δ then some c else some δ) := hadd
            rw [if_pos c3] at hadd
            repeat infer_instance
            exact inner_N hi hx hr hadd (out hS)
          · have hadd : Bst _ (if c < δ then some c else some δ) := hadd
            rw [if_neg c3] at hadd
            repeat infer_instance
            exact inner_N hi hx hr hadd (out hS)
      · repeat infer_instance
        exact inner_N hi hx hr hb (out (skip fun e he => c2 (num_pos'.mpr he.2.1)))
    · repeat infer_instance
      exact inner_N hi hx hr hb (out (skip fun e he => c1 (num_pos'.mpr he.1)))
  · rintro ρ ⟨pre, b, y3, y4, y5, y6, y7, y8, y9, er, hb, rfl⟩
    rw [List.append_nil] at er
    repeat infer_instance
    have key : ∀ e, (∃ i, i ∈ pre ∧ CAll F n x i e) ↔ Cand F n x e := fun e => by
      rw [cand_all, ← er]
      exact ⟨fun ⟨i, h1, h2⟩ => ⟨i, List.mem_range.mp h1, h2⟩, fun ⟨i, h1, h2⟩ => ⟨i, List.mem_range.mpr h1, h2⟩⟩
    cases hb with
    | no hno => exact .inl ⟨rfl, fun e he => hno e ((key e).mpr he)⟩
    | @yes δ g1 g2 g3 => exact .inr ⟨δ, rfl, (key δ).mp g1, fun e he => g2 e ((key e).mpr he), g3⟩
end
end Lk89

namespace DVB
open PySem L2 DV DVL
/-- what is kept of rows -/
structure Kept (L K : List (Int × Int × List Int)) : Prop where
  sub : ∀ r ∈ K, r ∈ L
  dom : ∀ o ∈ L, ∃ r ∈ K, r.1 ≤ o.1 ∧ r.2.1 ≤ o.2.1
  str : K.Pairwise fun a b => b.2.1 < a.2.1
/-- one row more, of rows in their order -/
theorem Kept.nil : Kept [] [] := ⟨fun _ h => h, fun _ h => (nomatch h), .nil⟩
theorem Kept.skip {L K : List (Int × Int × List Int)} {x : Int × Int × List Int} (h : Kept L K) (hx : ∃ r ∈ K, r.1 ≤ x.1 ∧ r.2.1 ≤ x.2.1) : Kept (L ++ [x]) K :=
  ⟨fun r m => List.mem_append_left _ (h.sub r m), fun o m => by
    rcases List.mem_append.mp m with m | m
    · exact h.dom o m
    · rw [List.mem_singleton] at m
      subst m
      exact hx, h.str⟩
theorem Kept.add {L K : List (Int × Int × List Int)} {x : Int × Int × List Int} (h : Kept L K) (hx : ∀ r ∈ K, x.2.1 < r.2.1) : Kept (L ++ [x]) (K ++ [x]) :=
  ⟨fun r m => by
    rcases List.mem_append.mp m with m | m
    · exact List.mem_append_left _ (h.sub r m)
    · exact List.mem_append_right _ m, fun o m => by
    rcases List.mem_append.mp m with m | m
    · obtain ⟨r, h1, h2⟩ := h.dom o m
      exact ⟨r, List.mem_append_left _ h1, h2⟩
    · rw [List.mem_singleton] at m
      subst m
      exact ⟨o, List.mem_append_right _ List.mem_cons_self, Int.le_refl _, Int.le_refl _⟩,
   List.pairwise_append.mpr ⟨h.str, List.pairwise_singleton .., fun a ha b hb => by
    rw [List.mem_singleton] at hb
    subst hb
    exact hx a ha⟩⟩
theorem Kept.perm {L L' K : List (Int × Int × List Int)} (h : Kept L K) (p : L.Perm L') : Kept L' K := ⟨fun r m => p.mem_iff.mp (h.sub r m), fun o m => h.dom o (p.mem_iff.mpr m), h.str⟩
structure St where
  c : Int
  d : Int
  l : Option Int
section
variable (ts fs ss ord : List Int) (A : Int → Int → Int → Int) (c0 : Int) (k : Nat)
def nxt (s : St) (j : Int) : St := ⟨A s.c j (s.d + val ts j + (if s.l = some (val fs j) then 0 else val ss (val fs j))), s.d + val ts j + (if s.l = some (val fs j) then 0 else val ss (val fs j)), some (val fs j)⟩
def run (p : List Int) : St := p.foldl (nxt ts fs ss A) ⟨c0, 0, none⟩
def ofF (f : Int) (p : List Int) : List Int := p.filter fun j => decide (val fs j = f)
def cnt (p : List Int) (f : Int) : Nat := (ofF fs f p).length
def key (p : List Int) : List Int × Option Int := ((rngI 0 k).map fun f => ((cnt fs p f : Nat) : Int), (run ts fs ss A c0 p).l)
def Leg (p : List Int) : Prop := (∀ j ∈ p, j ∈ ord) ∧ ∀ f, ofF fs f p <+: ofF fs f ord
/-- its row -/
def rw3 (p : List Int) : Int × Int × List Int := ((run ts fs ss A c0 p).c, (run ts fs ss A c0 p).d, p)
variable {ts fs ss ord A c0 k}
theorem run_snoc (p : List Int) (j : Int) : run ts fs ss A c0 (p ++ [j]) = nxt ts fs ss A (run ts fs ss A c0 p) j := by
  unfold run
  rw [List.foldl_append]
  rfl
theorem ofF_snoc (f : Int) (p : List Int) (j : Int) : ofF fs f (p ++ [j]) = ofF fs f p ++ if val fs j = f then [j] else [] := by
  unfold ofF
  rw [List.filter_append]
  by_cases h : val fs j = f
  · rw [if_pos h, List.filter_cons_of_pos (by simpa using h)]
    rfl
  · rw [if_neg h, List.filter_cons_of_neg (by simpa using h)]
    rfl
theorem cnt_snoc (f : Int) (p : List Int) (j : Int) : cnt fs (p ++ [j]) f = cnt fs p f + if val fs j = f then 1 else 0 := by
  unfold cnt
  rw [ofF_snoc, List.length_append]
  split <;> rfl
theorem pre_snoc {l m : List Int} {a : Int} : l ++ [a] <+: m ↔ l <+: m ∧ m[l.length]? = some a := by
  constructor
  · rintro ⟨t, e⟩
    subst e
    refine ⟨⟨a :: t, by simp⟩, ?_⟩
    rw [List.append_assoc, List.getElem?_append_right (Nat.le_refl _), Nat.sub_self]
    rfl
  · rintro ⟨⟨t, e⟩, h⟩
    subst e
    rw [List.getElem?_append_right (Nat.le_refl _), Nat.sub_self] at h
    cases t with
    | nil => cases h
    | cons b t =>
      cases h
      exact ⟨t, by simp⟩
theorem Leg.nil : Leg fs ord [] := ⟨fun _ h => (nomatch h), fun f => List.nil_prefix⟩
theorem leg_snoc {p : List Int} {j : Int} : Leg fs ord (p ++ [j]) ↔ Leg fs ord p ∧ (ofF fs (val fs j) ord)[cnt fs p (val fs j)]? = some j := by
  constructor
  · rintro ⟨h1, h2⟩
    have h3 := h2 (val fs j)
    rw [ofF_snoc, if_pos rfl, pre_snoc] at h3
    refine ⟨⟨fun i hi => h1 i (List.mem_append_left _ hi), fun f => ?_⟩, h3.2⟩
    have h4 := h2 f
    rw [ofF_snoc] at h4
    exact (List.prefix_append ..).trans h4
  · rintro ⟨⟨h1, h2⟩, h3⟩
    have hj : j ∈ ord := (List.mem_filter.mp (List.mem_of_getElem? h3)).1
    refine ⟨fun i hi => ?_, fun f => ?_⟩
    · rcases List.mem_append.mp hi with z | z
      · exact h1 i z
      · rw [List.mem_singleton] at z
        subst z
        exact hj
    · rw [ofF_snoc]
      by_cases h : val fs j = f
      · subst h
        rw [if_pos rfl, pre_snoc]
        exact ⟨h2 _, h3⟩
      · rw [if_neg h, List.append_nil]
        exact h2 f
/-- a job that a family's list tells is of that family -/
theorem ofF_get {f : Int} {i : Nat} {j : Int} (h : (ofF fs f ord)[i]? = some j) : val fs j = f ∧ j ∈ ord := by
  have := List.mem_filter.mp (List.mem_of_getElem? h)
  exact ⟨by simpa using this.2, this.1⟩
theorem Leg.nodup (nd : ord.Nodup) {p : List Int} (h : Leg fs ord p) : p.Nodup := by
  rw [List.nodup_iff_count]
  intro j
  by_cases hj : j ∈ p
  · have h1 := (h.2 (val fs j)).sublist.count_le j
    have e : ∀ q : List Int, (ofF fs (val fs j) q).count j = q.count j := fun q => List.count_filter (by simp)
    rw [e, e] at h1
    exact Nat.le_trans h1 (List.nodup_iff_count.mp nd j)
  · rw [List.count_eq_zero.mpr hj]
    exact Nat.zero_le _
theorem Leg.len (nd : ord.Nodup) {p : List Int} (h : Leg fs ord p) : p.length ≤ ord.length := by
  exact nodup_le (h.nodup nd) h.1
theorem Leg.perm (nd : ord.Nodup) {p : List Int} (h : Leg fs ord p) (hl : p.length = ord.length) : p.Perm ord :=
  nodup_perm (h.nodup nd) h.1 (by omega)
theorem Leg.cnt_le {p : List Int} (h : Leg fs ord p) (f : Int) : cnt fs p f ≤ ord.length := Nat.le_trans (h.2 f).length_le (List.length_filter_le ..)
/-- at the end all lists are done -/
theorem Leg.full (nd : ord.Nodup) {p : List Int} (h : Leg fs ord p) (hl : p.length = ord.length) (f : Int) : cnt fs p f = cnt fs ord f := ((h.perm nd hl).filter _).length_eq
def Mono (A : Int → Int → Int → Int) (ord : List Int) : Prop := ∀ c c' j e e', j ∈ ord → c ≤ c' → e ≤ e' → A c j e ≤ A c' j e'
theorem better (hA : Mono A ord) {r p : List Int} {j : Int} (hj : j ∈ ord) (hl : (run ts fs ss A c0 r).l = (run ts fs ss A c0 p).l) (h1 : (run ts fs ss A c0 r).c ≤ (run ts fs ss A c0 p).c) (h2 : (run ts fs ss A c0 r).d ≤ (run ts fs ss A c0 p).d) :
    (run ts fs ss A c0 (r ++ [j])).c ≤ (run ts fs ss A c0 (p ++ [j])).c ∧ (run ts fs ss A c0 (r ++ [j])).d ≤ (run ts fs ss A c0 (p ++ [j])).d := by
  rw [run_snoc, run_snoc]
  unfold nxt
  rw [hl]
  refine ⟨hA _ _ _ _ _ hj h1 ?_, ?_⟩
  · omega
  · show _ + _ + _ ≤ _ + _ + _
    omega
end
end DVB

namespace DVB
open PySem L2 DV DVL
theorem nodup_leG {α : Type} : ∀ {p q : List α}, p.Nodup → (∀ x ∈ p, x ∈ q) → p.length ≤ q.length
  | [], _, _, _ => Nat.zero_le _
  | x :: p, q, nd, h => by
    rw [List.nodup_cons] at nd
    obtain ⟨s, t, e⟩ := List.append_of_mem (h x List.mem_cons_self)
    subst e
    have := nodup_leG (q := s ++ t) nd.2 fun y hy => by
      have h2 := h y (List.mem_cons_of_mem _ hy)
      rcases List.mem_append.mp h2 with z | z
      · exact List.mem_append_left _ z
      · rcases List.mem_cons.mp z with z | z
        · subst z
          exact absurd hy nd.1
        · exact List.mem_append_right _ z
    rw [List.length_append] at this
    rw [List.length_append, List.length_cons, List.length_cons]
    omega
/-- all keys there may be -/
def allC (n : Nat) : Nat → List (List Int)
  | 0 => [[]]
  | k + 1 => (rngI 0 (n + 1)).flatMap fun x => (allC n k).map (x :: ·)
theorem allC_len (n : Nat) : ∀ k, (allC n k).length = (n + 1) ^ k
  | 0 => rfl
  | k + 1 => by
    have h : ∀ L : List Int, (L.flatMap fun x => (allC n k).map (x :: ·)).length = L.length * (n + 1) ^ k := fun L => by
      induction L with
      | nil => simp
      | cons a L ih => rw [List.flatMap_cons, List.length_append, List.length_map, ih, allC_len n k, List.length_cons, Nat.add_mul, Nat.one_mul, Nat.add_comm]
    show (List.flatMap _ _).length = _
    rw [h, rngI_len, Nat.pow_succ, Nat.mul_comm]
theorem allC_mem (n : Nat) : ∀ (k : Nat) (c : List Int), c.length = k → (∀ x ∈ c, 0 ≤ x ∧ x ≤ (n : Int)) → c ∈ allC n k
  | 0, c, hl, _ => by rw [List.length_eq_zero_iff.mp hl]; exact List.mem_cons_self
  | k + 1, [], hl, _ => nomatch hl
  | k + 1, x :: c, hl, h => by
    show _ ∈ List.flatMap _ _
    rw [List.mem_flatMap]
    refine ⟨x, (mem_rngI _ _ _).mpr ?_, List.mem_map.mpr ⟨c, allC_mem n k c (by simpa using hl) fun y hy => h y (List.mem_cons_of_mem _ hy), rfl⟩⟩
    have := h x List.mem_cons_self
    omega
def allL (k : Nat) : List (Option Int) := none :: (rngI 0 k).map some
theorem allL_len (k : Nat) : (allL k).length = k + 1 := by
  unfold allL
  rw [List.length_cons, List.length_map, rngI_len]
def allK (n k : Nat) : List (List Int × Option Int) := (allL k).flatMap fun l => (allC n k).map fun c => (c, l)
theorem allK_len (n k : Nat) : (allK n k).length = (k + 1) * (n + 1) ^ k := by
  have h : ∀ L : List (Option Int), (L.flatMap fun l => (allC n k).map fun c => (c, l)).length = L.length * (n + 1) ^ k := fun L => by
    induction L with
    | nil => simp
    | cons a L ih => rw [List.flatMap_cons, List.length_append, List.length_map, ih, allC_len n k, List.length_cons, Nat.add_mul, Nat.one_mul, Nat.add_comm]
  unfold allK
  rw [h, allL_len]
section
variable {ts fs ss ord : List Int} {A : Int → Int → Int → Int} {c0 : Int} {k : Nat}
abbrev BT := List ((List Int × Option Int) × List (Int × Int × List Int))
/-- families are in their range -/
def InF (fs ord : List Int) (k : Nat) : Prop := ∀ j ∈ ord, 0 ≤ val fs j ∧ val fs j < (k : Int)
theorem last_in (hF : InF fs ord k) {p : List Int} (h : Leg fs ord p) : (run ts fs ss A c0 p).l ∈ allL k := by
  rcases List.eq_nil_or_concat p with e | ⟨q, j, e⟩
  · subst e
    exact List.mem_cons_self
  · rw [List.concat_eq_append] at e
    subst e
    rw [run_snoc]
    refine List.mem_cons_of_mem _ (List.mem_map.mpr ⟨val fs j, (mem_rngI _ _ _).mpr ?_, rfl⟩)
    have := hF j (h.1 j (List.mem_append_right _ List.mem_cons_self))
    omega
theorem key_in (hF : InF fs ord k) {p : List Int} (h : Leg fs ord p) : key ts fs ss A c0 k p ∈ allK ord.length k := by
  unfold allK
  rw [List.mem_flatMap]
  refine ⟨_, last_in (ts := ts) (ss := ss) (A := A) (c0 := c0) hF h, List.mem_map.mpr ⟨_, allC_mem _ _ _ (by rw [List.length_map, rngI_len]) fun x hx => ?_, rfl⟩⟩
  obtain ⟨f, _, rfl⟩ := List.mem_map.mp hx
  have := h.cnt_le f
  omega
/-- the table, after what was offered -/
structure Tb (ts fs ss ord : List Int) (A : Int → Int → Int → Int) (c0 : Int) (k : Nat) (dn : List (List Int)) (N : BT) : Prop where
  uq : Uq N
  leg : ∀ o ∈ dn, Leg fs ord o
  mem : ∀ e ∈ N, ∀ r ∈ e.2, ∃ o ∈ dn, r = rw3 ts fs ss A c0 o ∧ key ts fs ss A c0 k o = e.1
  ne : ∀ e ∈ N, ∃ o ∈ dn, key ts fs ss A c0 k o = e.1
  dom : ∀ o ∈ dn, ∃ rows, getA N (key ts fs ss A c0 k o) = some rows ∧ ∃ r ∈ rows, r.1 ≤ (run ts fs ss A c0 o).c ∧ r.2.1 ≤ (run ts fs ss A c0 o).d
  str : ∀ e ∈ N, e.2.Pairwise fun a b => b.2.1 < a.2.1
theorem Tb.nil : Tb ts fs ss ord A c0 k [] [] := ⟨Uq.nil, fun _ h => (nomatch h), fun _ h => (nomatch h), fun _ h => (nomatch h), fun _ h => (nomatch h), fun _ h => (nomatch h)⟩
theorem mem_put {M : BT} (U : Uq M) {x : List Int × Option Int} {b : List (Int × Int × List Int)} {e : (List Int × Option Int) × List (Int × Int × List Int)} (h : e ∈ putA M x b) : e = (x, b) ∨ e ∈ M := by
  have h1 : getA (putA M x b) e.1 = some e.2 := U.put.get h
  rw [getA_put] at h1
  by_cases he : e.1 = x
  · rw [if_pos he] at h1
    cases h1
    exact .inl (by rw [← he])
  · rw [if_neg he] at h1
    exact .inr (getA_mem h1)
theorem Tb.put {dn : List (List Int)} {N : BT} (T : Tb ts fs ss ord A c0 k dn N) {o : List Int} (ho : Leg fs ord o) {K : List (Int × Int × List Int)} (hK : Kept ((getA N (key ts fs ss A c0 k o)).getD [] ++ [rw3 ts fs ss A c0 o]) K) :
    Tb ts fs ss ord A c0 k (dn ++ [o]) (putA N (key ts fs ss A c0 k o) K) := by
  have old : ∀ r ∈ (getA N (key ts fs ss A c0 k o)).getD [], ∃ o' ∈ dn, r = rw3 ts fs ss A c0 o' ∧ key ts fs ss A c0 k o' = key ts fs ss A c0 k o := fun r hr => by
    cases e : getA N (key ts fs ss A c0 k o) with
    | none => rw [e] at hr; exact nomatch hr
    | some rows =>
      rw [e] at hr
      exact T.mem _ (getA_mem e) r hr
  refine ⟨T.uq.put, fun p hp => ?_, fun e he r hr => ?_, fun e he => ?_, fun p hp => ?_, fun e he => ?_⟩
  · rcases List.mem_append.mp hp with z | z
    · exact T.leg p z
    · rw [List.mem_singleton] at z
      subst z
      exact ho
  · rcases mem_put T.uq he with z | z
    · subst z
      rcases List.mem_append.mp (hK.sub r hr) with y | y
      · obtain ⟨o', h1, h2, h3⟩ := old r y
        exact ⟨o', List.mem_append_left _ h1, h2, h3⟩
      · rw [List.mem_singleton] at y
        exact ⟨o, List.mem_append_right _ List.mem_cons_self, y, rfl⟩
    · obtain ⟨o', h1, h2, h3⟩ := T.mem e z r hr
      exact ⟨o', List.mem_append_left _ h1, h2, h3⟩
  · rcases mem_put T.uq he with z | z
    · subst z
      exact ⟨o, List.mem_append_right _ List.mem_cons_self, rfl⟩
    · obtain ⟨o', h1, h2⟩ := T.ne e z
      exact ⟨o', List.mem_append_left _ h1, h2⟩
  · rw [getA_put]
    by_cases hk : key ts fs ss A c0 k p = key ts fs ss A c0 k o
    · rw [if_pos hk]
      refine ⟨K, rfl, ?_⟩
      rcases List.mem_append.mp hp with z | z
      · obtain ⟨rows, h1, r, h2, h3, h4⟩ := T.dom p z
        rw [hk] at h1
        obtain ⟨r', k1, k2, k3⟩ := hK.dom r (List.mem_append_left _ (by rw [h1]; exact h2))
        exact ⟨r', k1, by omega, by omega⟩
      · rw [List.mem_singleton] at z
        subst z
        exact hK.dom _ (List.mem_append_right _ List.mem_cons_self)
    · rw [if_neg hk]
      rcases List.mem_append.mp hp with z | z
      · exact T.dom p z
      · rw [List.mem_singleton] at z
        subst z
        exact absurd rfl hk
  · rcases mem_put T.uq he with z | z
    · subst z
      exact hK.str
    · exact T.str e z
theorem Tb.len (hF : InF fs ord k) {dn : List (List Int)} {N : BT} (T : Tb ts fs ss ord A c0 k dn N) : N.length ≤ (k + 1) * (ord.length + 1) ^ k := by
  rw [← allK_len, ← List.length_map (f := (·.1)) (as := N)]
  refine nodup_leG T.uq fun x hx => ?_
  obtain ⟨e, he, rfl⟩ := List.mem_map.mp hx
  obtain ⟨o, h1, h2⟩ := T.ne e he
  rw [← h2]
  exact key_in hF (T.leg o h1)
/-- what a row is continued by -/
def off (fs ord : List Int) (o : List Int) (f : Int) : List (List Int) := match (ofF fs f ord)[cnt fs o f]? with
  | some j => [o ++ [j]]
  | none => []
def nx (fs ord : List Int) (k : Nat) (o : List Int) : List (List Int) := (rngI 0 k).flatMap (off fs ord o)
def offs (fs ord : List Int) (k : Nat) (rows : List (Int × Int × List Int)) : List (List Int) := rows.flatMap fun r => nx fs ord k r.2.2
def offM (fs ord : List Int) (k : Nat) (M : BT) : List (List Int) := M.flatMap fun e => offs fs ord k e.2
/-- the table at the turn t -/
structure TT (ts fs ss ord : List Int) (A : Int → Int → Int → Int) (c0 : Int) (k : Nat) (t : Nat) (M : BT) : Prop where
  uq : Uq M
  mem : ∀ e ∈ M, ∀ r ∈ e.2, ∃ o, Leg fs ord o ∧ o.length = t ∧ r = rw3 ts fs ss A c0 o ∧ key ts fs ss A c0 k o = e.1
  ne : ∀ e ∈ M, ∃ o, Leg fs ord o ∧ o.length = t ∧ key ts fs ss A c0 k o = e.1
  dom : ∀ p, Leg fs ord p → p.length = t → ∃ rows, getA M (key ts fs ss A c0 k p) = some rows ∧ ∃ r ∈ rows, r.1 ≤ (run ts fs ss A c0 p).c ∧ r.2.1 ≤ (run ts fs ss A c0 p).d
  str : ∀ e ∈ M, e.2.Pairwise fun a b => b.2.1 < a.2.1
theorem TT.zero : TT ts fs ss ord A c0 k 0 [(key ts fs ss A c0 k [], [rw3 ts fs ss A c0 []])] := by
  refine ⟨Uq.one _, fun e he r hr => ?_, fun e he => ?_, fun p _ hl => ?_, fun e he => ?_⟩
  · rw [List.mem_singleton] at he
    subst he
    rw [List.mem_singleton] at hr
    exact ⟨[], Leg.nil, rfl, hr, rfl⟩
  · rw [List.mem_singleton] at he
    subst he
    exact ⟨[], Leg.nil, rfl, rfl⟩
  · rw [List.length_eq_zero_iff.mp hl]
    refine ⟨_, by rw [getA_cons, if_pos rfl], _, List.mem_cons_self, Int.le_refl _, Int.le_refl _⟩
  · rw [List.mem_singleton] at he
    subst he
    exact List.pairwise_singleton ..
theorem off_leg {o : List Int} (h : Leg fs ord o) {f : Int} {q : List Int} (hq : q ∈ off fs ord o f) : Leg fs ord q ∧ q.length = o.length + 1 := by
  unfold off at hq
  split at hq
  · rename_i j e
    rw [List.mem_singleton] at hq
    subst hq
    obtain ⟨h1, _⟩ := ofF_get e
    subst h1
    exact ⟨leg_snoc.mpr ⟨h, e⟩, by rw [List.length_append]; rfl⟩
  · exact nomatch hq
theorem offM_leg {t : Nat} {M : BT} (T : TT ts fs ss ord A c0 k t M) {q : List Int} (hq : q ∈ offM fs ord k M) : Leg fs ord q ∧ q.length = t + 1 := by
  unfold offM at hq
  obtain ⟨e, he, hq⟩ := List.mem_flatMap.mp hq
  unfold offs at hq
  obtain ⟨r, hr, hq⟩ := List.mem_flatMap.mp hq
  unfold nx at hq
  obtain ⟨f, _, hq⟩ := List.mem_flatMap.mp hq
  obtain ⟨o, h1, h2, h3, _⟩ := T.mem e he r hr
  subst h3
  have := off_leg h1 hq
  exact ⟨this.1, by rw [this.2]; show o.length + 1 = _; rw [h2]⟩
theorem key_eq {o p : List Int} (h : key ts fs ss A c0 k o = key ts fs ss A c0 k p) : (∀ f, 0 ≤ f → f < (k : Int) → cnt fs o f = cnt fs p f) ∧ (run ts fs ss A c0 o).l = (run ts fs ss A c0 p).l := by
  unfold key at h
  rw [Prod.mk.injEq] at h
  refine ⟨fun f h0 h1 => ?_, h.2⟩
  have h2 := List.map_inj_left.mp h.1 f ((mem_rngI _ _ _).mpr (by omega))
  have h2 : ((cnt fs o f : Nat) : Int) = ((cnt fs p f : Nat) : Int) := h2
  omega
theorem TT.next (hA : Mono A ord) (hF : InF fs ord k) {t : Nat} {M N : BT} (T : TT ts fs ss ord A c0 k t M) (B : Tb ts fs ss ord A c0 k (offM fs ord k M) N) : TT ts fs ss ord A c0 k (t + 1) N := by
  refine ⟨B.uq, fun e he r hr => ?_, fun e he => ?_, fun p hp hl => ?_, B.str⟩
  · obtain ⟨o, h1, h2, h3⟩ := B.mem e he r hr
    obtain ⟨h4, h5⟩ := offM_leg T h1
    exact ⟨o, h4, h5, h2, h3⟩
  · obtain ⟨o, h1, h2⟩ := B.ne e he
    obtain ⟨h4, h5⟩ := offM_leg T h1
    exact ⟨o, h4, h5, h2⟩
  · rcases List.eq_nil_or_concat p with e | ⟨q, j, e⟩
    · subst e
      cases hl
    rw [List.concat_eq_append] at e
    subst e
    rw [List.length_append] at hl
    obtain ⟨hq, hj⟩ := leg_snoc.mp hp
    have hjo := (ofF_get hj).2
    obtain ⟨rows, g1, r, hr, d1, d2⟩ := T.dom q hq (by simpa using hl)
    obtain ⟨o, o1, o2, o3, o4⟩ := T.mem _ (getA_mem g1) r hr
    subst o3
    have o4 : key ts fs ss A c0 k o = key ts fs ss A c0 k q := o4
    obtain ⟨k1, k2⟩ := key_eq o4
    have hf := hF j hjo
    have hin : o ++ [j] ∈ offM fs ord k M := by
      unfold offM
      refine List.mem_flatMap.mpr ⟨_, getA_mem g1, ?_⟩
      unfold offs
      refine List.mem_flatMap.mpr ⟨_, hr, ?_⟩
      unfold nx
      refine List.mem_flatMap.mpr ⟨val fs j, (mem_rngI _ _ _).mpr (by omega), ?_⟩
      unfold off
      show o ++ [j] ∈ (match (ofF fs (val fs j) ord)[cnt fs o (val fs j)]? with | some j => [o ++ [j]] | none => [])
      rw [k1 _ hf.1 hf.2, hj]
      exact List.mem_cons_self
    obtain ⟨b1, b2⟩ := better hA hjo k2 d1 d2
    have hk : key ts fs ss A c0 k (o ++ [j]) = key ts fs ss A c0 k (q ++ [j]) := by
      unfold key
      rw [Prod.mk.injEq]
      refine ⟨List.map_congr_left fun f hf => ?_, by rw [run_snoc, run_snoc]; rfl⟩
      have := (mem_rngI _ _ _).mp hf
      rw [cnt_snoc, cnt_snoc, k1 f this.1 (by omega)]
    obtain ⟨rows2, g2, r2, m2, e1, e2⟩ := B.dom _ hin
    rw [hk] at g2
    exact ⟨rows2, g2, r2, m2, by omega, by omega⟩
end
end DVB

namespace DVS
open PySem L2 DV DVL DVB
/-- a day that can be done behind some jobs -/
structure DayOk (n : Nat) (P : List (Int × Int)) (b : Nat) (S day : List Int) : Prop where
  able : ∀ j ∈ day, j ∈ Ab P n S
  nd : day.Nodup
  len : day.length ≤ b
/-- days one behind the other -/
inductive Pl (n : Nat) (P : List (Int × Int)) (b : Nat) : List Int → List (List Int) → Prop
  | nil {S : List Int} : Pl n P b S []
  | cons {S day : List Int} {ds : List (List Int)} : DayOk n P b S day → Pl n P b (S ++ day) ds → Pl n P b S (day :: ds)
section
variable {n : Nat} {P : List (Int × Int)} {b : Nat}
/-- the jobs done stand behind those ahead of them -/
structure Dn (n : Nat) (P : List (Int × Int)) (S : List Int) : Prop where
  nd : S.Nodup
  rg : ∀ j ∈ S, 0 ≤ j ∧ j < (n : Int)
  cl : ∀ p ∈ P, p.2 ∈ S → p.1 ∈ S
theorem Dn.nil : Dn n P [] := ⟨List.nodup_nil, fun _ h => (nomatch h), fun _ _ h => nomatch h⟩
theorem Dn.add (G : Prs n P) {S day : List Int} (h : Dn n P S) (hd : DayOk n P b S day) : Dn n P (S ++ day) := by
  refine ⟨List.nodup_append.mpr ⟨h.nd, hd.nd, fun a ha c hc e => ?_⟩, fun j hj => ?_, fun p hp hj => ?_⟩
  · subst e
    exact ((mem_Ab G).mp (hd.able a hc)).2.1 ha
  · rcases List.mem_append.mp hj with z | z
    · exact h.rg j z
    · exact ((mem_Ab G).mp (hd.able j z)).1
  · rcases List.mem_append.mp hj with z | z
    · exact List.mem_append_left _ (h.cl p hp z)
    · exact List.mem_append_left _ (((mem_Ab G).mp (hd.able _ z)).2.2 p hp rfl)
theorem Dn.pl (G : Prs n P) : ∀ {ds : List (List Int)} {S : List Int}, Dn n P S → Pl n P b S ds → Dn n P (S ++ ds.flatten)
  | [], S, h, _ => by rw [List.flatten_nil, List.append_nil]; exact h
  | d :: ds, S, h, hp => by
    cases hp with
    | cons h1 h2 =>
      rw [List.flatten_cons, ← List.append_assoc]
      exact Dn.pl G (h.add G h1) h2
/-- levels: lengths of the longest rows from each job on -/
structure Lvl (n : Nat) (P : List (Int × Int)) (lv : Int → Int) : Prop where
  ge : ∀ j, 0 ≤ j → j < (n : Int) → 1 ≤ lv j
  dn : ∀ p ∈ P, lv p.2 + 1 ≤ lv p.1
  ex : ∀ j, 0 ≤ j → j < (n : Int) → lv j = 1 ∨ ∃ p ∈ P, p.1 = j ∧ lv j = lv p.2 + 1
variable {lv : Int → Int}
/-- the jobs left above a level -/
def rem (n : Nat) (lv : Int → Int) (S : List Int) (L : Int) : List Int := (rngI 0 n).filter fun j => !S.elem j && decide (L < lv j)
theorem mem_rem {S : List Int} {L j : Int} : j ∈ rem n lv S L ↔ (0 ≤ j ∧ j < (n : Int)) ∧ j ∉ S ∧ L < lv j := by
  unfold rem
  rw [List.mem_filter, mem_rngI, Bool.and_eq_true, Bool.not_eq_true', decide_eq_true_eq]
  constructor
  · rintro ⟨a, b, c⟩
    exact ⟨by omega, (fun z => by rw [List.elem_eq_true_of_mem z] at b; cases b), c⟩
  · rintro ⟨a, b, c⟩
    refine ⟨by omega, ?_, c⟩
    cases e : S.elem j with
    | false => rfl
    | true => exact absurd (List.mem_of_elem_eq_true e) b
theorem rem_nd (S : List Int) (L : Int) : (rem n lv S L).Nodup := (rngI_nodup 0 n).filter _
theorem rem_day {S day : List Int} {L : Int} : (rem n lv S L).length ≤ (rem n lv (S ++ day) L).length + day.length := by
  rw [← List.length_append]
  refine nodup_leG (rem_nd S L) fun j hj => ?_
  obtain ⟨a, c, d⟩ := mem_rem.mp hj
  by_cases e : j ∈ day
  · exact List.mem_append_right _ e
  · exact List.mem_append_left _ (mem_rem.mpr ⟨a, fun z => (List.mem_append.mp z).elim c e, d⟩)
/-- no plan is shorter than what is left above a level asks -/
theorem low (G : Prs n P) (V : Lvl n P lv) : ∀ (ds : List (List Int)) (S : List Int), Dn n P S → Pl n P b S ds → (∀ j, 0 ≤ j → j < (n : Int) → j ∈ S ++ ds.flatten) → ∀ L : Nat, (rem n lv S (L : Int)).length ≤ b * (ds.length - L) ∧ ((ds.length : Nat) ≤ L → rem n lv S (L : Int) = [])
  | [], S, hS, _, hf, L => by
    have e : rem n lv S (L : Int) = [] := List.eq_nil_iff_forall_not_mem.mpr fun j hj => by
      obtain ⟨a, c, _⟩ := mem_rem.mp hj
      have := hf j a.1 a.2
      rw [List.flatten_nil, List.append_nil] at this
      exact c this
    exact ⟨by rw [e]; exact Nat.zero_le _, fun _ => e⟩
  | d :: ds, S, hS, hp, hf, L => by
    cases hp with
    | cons h1 h2 =>
      have ih := low G V ds (S ++ d) (hS.add G h1) h2 fun j a c => by
        have := hf j a c
        rw [List.flatten_cons, ← List.append_assoc] at this
        exact this
      have emp : (d :: ds).length ≤ L → rem n lv S (L : Int) = [] := fun hl => List.eq_nil_iff_forall_not_mem.mpr fun j hj => by
        rw [List.length_cons] at hl
        obtain ⟨a, c, e⟩ := mem_rem.mp hj
        have h0 := (ih (L - 1)).2 (by omega)
        have hin : ∀ k, (0 ≤ k ∧ k < (n : Int)) → ((L - 1 : Nat) : Int) < lv k → k ∈ S ++ d := fun k hk hl2 => Classical.byContradiction fun hn => by
          have : k ∈ rem n lv (S ++ d) ((L - 1 : Nat) : Int) := mem_rem.mpr ⟨hk, hn, hl2⟩
          rw [h0] at this
          exact nomatch this
        rcases V.ex j a.1 a.2 with h | ⟨p, hpP, e1, e2⟩
        · omega
        · have hk := hin p.2 (by have := G.rg p hpP; omega) (by omega)
          rcases List.mem_append.mp hk with z | z
          · exact c (e1 ▸ hS.cl p hpP z)
          · exact c (e1 ▸ ((mem_Ab G).mp (h1.able _ z)).2.2 p hpP rfl)
      refine ⟨?_, emp⟩
      by_cases hl : (d :: ds).length ≤ L
      · rw [emp hl]; exact Nat.zero_le _
      · rw [List.length_cons] at hl ⊢
        have h3 := (ih L).1
        have h4 := rem_day (n := n) (lv := lv) (S := S) (day := d) (L := (L : Int))
        have h5 := h1.len
        have e : b * (ds.length + 1 - L) = b * (ds.length - L) + b := by
          rw [show ds.length + 1 - L = (ds.length - L) + 1 by omega, Nat.mul_add, Nat.mul_one]
        omega
/-- a day of the able jobs of the highest levels -/
structure Hi (n : Nat) (P : List (Int × Int)) (b : Nat) (lv : Int → Int) (S day : List Int) : Prop where
  ok : DayOk n P b S day
  full : ∀ y ∈ Ab P n S, y ∉ day → day.length = b ∧ ∀ x ∈ day, lv y ≤ lv x
/-- each job has at most one behind it -/
def Tree (P : List (Int × Int)) : Prop := ∀ p ∈ P, ∀ q ∈ P, p.1 = q.1 → p.2 = q.2
/-- the able jobs not below a level -/
def abH (n : Nat) (P : List (Int × Int)) (lv : Int → Int) (M : Int) (S : List Int) : List Int := (Ab P n S).filter fun j => decide (M ≤ lv j)
def dayH (lv : Int → Int) (M : Int) (day : List Int) : List Int := day.filter fun j => decide (M ≤ lv j)
theorem mem_abH {M : Int} {S : List Int} {j : Int} : j ∈ abH n P lv M S ↔ j ∈ Ab P n S ∧ M ≤ lv j := by
  unfold abH; rw [List.mem_filter, decide_eq_true_eq]
theorem mem_dayH {M : Int} {day : List Int} {j : Int} : j ∈ dayH lv M day ↔ j ∈ day ∧ M ≤ lv j := by
  unfold dayH; rw [List.mem_filter, decide_eq_true_eq]
/-- a day on which fewer than all machines are on high jobs takes all able high jobs -/
theorem Hi.all {S day : List Int} {M : Int} (h : Hi n P b lv S day) (hl : (dayH lv M day).length < b) : ∀ y ∈ abH n P lv M S, y ∈ day := fun y hy => Classical.byContradiction fun hn => by
  obtain ⟨h1, h2⟩ := mem_abH.mp hy
  obtain ⟨h3, h4⟩ := h.full y h1 hn
  have : dayH lv M day = day := List.filter_eq_self.mpr fun x hx => decide_eq_true (by have := h4 x hx; omega)
  rw [this] at hl
  omega
theorem Hi.all2 {S day : List Int} {M : Int} (h : Hi n P b lv S day) (hl : (abH n P lv M S).length < b) : ∀ y ∈ abH n P lv M S, y ∈ day := by
  refine h.all (M := M) (Nat.lt_of_le_of_lt (nodup_leG (h.ok.nd.filter _) fun x hx => ?_) hl)
  obtain ⟨h1, h2⟩ := mem_dayH.mp hx
  exact mem_abH.mpr ⟨h.ok.able x h1, h2⟩
theorem next_abH (G : Prs n P) (T : Tree P) (V : Lvl n P lv) {S day : List Int} {M : Int} (hS : Dn n P S) (h : Hi n P b lv S day) (hall : ∀ y ∈ abH n P lv M S, y ∈ day) : (abH n P lv M (S ++ day)).length ≤ (abH n P lv M S).length := by
  -- each able high job of the next day has one ahead of it that was done on the day
  have hpre : ∀ y ∈ abH n P lv M (S ++ day), ∃ p ∈ P, p.2 = y ∧ p.1 ∈ abH n P lv M S := fun y hy => by
    obtain ⟨h1, h2⟩ := mem_abH.mp hy
    obtain ⟨r, h3, h4⟩ := (mem_Ab G).mp h1
    have hS2 : y ∉ S := fun z => h3 (List.mem_append_left _ z)
    have hD2 : y ∉ day := fun z => h3 (List.mem_append_right _ z)
    have hex : ∃ p ∈ P, p.2 = y ∧ p.1 ∉ S := Classical.byContradiction fun hn => hD2 (hall y (mem_abH.mpr ⟨(mem_Ab G).mpr ⟨r, hS2, fun p hp e => Classical.byContradiction fun hc => hn ⟨p, hp, e, hc⟩⟩, h2⟩))
    obtain ⟨p, hp, e, hc⟩ := hex
    refine ⟨p, hp, e, ?_⟩
    rcases List.mem_append.mp (h4 p hp e) with z | z
    · exact absurd z hc
    · have := V.dn p hp
      exact mem_abH.mpr ⟨h.ok.able _ z, by rw [e] at this; omega⟩
  -- a list of those
  have gen : ∀ l : List Int, l.Nodup → (∀ y ∈ l, ∃ p ∈ P, p.2 = y ∧ p.1 ∈ abH n P lv M S) → ∃ k : List Int, k.length = l.length ∧ k.Nodup ∧ (∀ x ∈ k, x ∈ abH n P lv M S ∧ ∃ p ∈ P, p.1 = x ∧ p.2 ∈ l) := fun l => by
    induction l with
    | nil => exact fun _ _ => ⟨[], rfl, List.nodup_nil, fun _ h => nomatch h⟩
    | cons y l ih =>
      intro nd h
      rw [List.nodup_cons] at nd
      obtain ⟨k, k1, k2, k3⟩ := ih nd.2 fun z hz => h z (List.mem_cons_of_mem _ hz)
      obtain ⟨p, hp, e, hin⟩ := h y List.mem_cons_self
      refine ⟨p.1 :: k, by rw [List.length_cons, List.length_cons, k1], List.nodup_cons.mpr ⟨fun hc => ?_, k2⟩, fun x hx => ?_⟩
      · obtain ⟨_, q, hq, e1, e2⟩ := k3 _ hc
        have := T q hq p hp e1
        rw [e] at this
        exact nd.1 (this ▸ e2)
      · rcases List.mem_cons.mp hx with rfl | z
        · exact ⟨hin, p, hp, rfl, by rw [e]; exact List.mem_cons_self⟩
        · obtain ⟨a, q, hq, e1, e2⟩ := k3 x z
          exact ⟨a, q, hq, e1, List.mem_cons_of_mem _ e2⟩
  obtain ⟨k, k1, k2, k3⟩ := gen _ ((Ab_nodup P n (S ++ day)).filter _) hpre
  have := nodup_leG k2 fun x hx => (k3 x hx).1
  have e : (abH n P lv M (S ++ day)).length = k.length := k1.symm
  omega
/-- days by levels -/
inductive Hp (n : Nat) (P : List (Int × Int)) (b : Nat) (lv : Int → Int) : List Int → List (List Int) → Prop
  | nil {S : List Int} : Hp n P b lv S []
  | cons {S day : List Int} {ds : List (List Int)} : Hi n P b lv S day → Hp n P b lv (S ++ day) ds → Hp n P b lv S (day :: ds)
theorem Hp.pl : ∀ {ds : List (List Int)} {S : List Int}, Hp n P b lv S ds → Pl n P b S ds
  | [], _, _ => .nil
  | _ :: _, _, h => by
    cases h with
    | cons h1 h2 => exact .cons h1.ok h2.pl
/-- from a day on which high jobs are few: what is left is lower by each day -/
theorem drop_lv (G : Prs n P) (T : Tree P) (V : Lvl n P lv) {M : Int} : ∀ (ds : List (List Int)) (S : List Int), Dn n P S → Hp n P b lv S ds → (∀ d rest, ds = d :: rest → (dayH lv M d).length < b ∨ (abH n P lv M S).length < b) → ∀ x, (0 ≤ x ∧ x < (n : Int)) → x ∉ S ++ ds.flatten → M ≤ lv x → ∃ y, (0 ≤ y ∧ y < (n : Int)) ∧ y ∉ S ∧ lv x + (ds.length : Int) ≤ lv y
  | [], S, _, _, _, x, hx, hn, _ => ⟨x, hx, by rwa [List.flatten_nil, List.append_nil] at hn, by rw [List.length_nil]; omega⟩
  | d :: ds, S, hS, hh, hst, x, hx, hn, hM => by
    cases hh with
    | cons h1 h2 =>
      have hall : ∀ y ∈ abH n P lv M S, y ∈ d := (hst d ds rfl).elim h1.all h1.all2
      have hfew : (abH n P lv M S).length < b := by
        rcases hst d ds rfl with h | h
        · refine Nat.lt_of_le_of_lt (nodup_leG ((Ab_nodup P n S).filter _) fun y hy => mem_dayH.mpr ⟨hall y hy, (mem_abH.mp hy).2⟩) h
        · exact h
      have hnx := next_abH G T V hS h1 hall
      rw [List.flatten_cons, ← List.append_assoc] at hn
      obtain ⟨y, y1, y2, y3⟩ := drop_lv G T V ds (S ++ d) (hS.add G h1.ok) h2 (fun _ _ _ => .inr (Nat.lt_of_le_of_lt hnx hfew)) x hx hn hM
      have yS : y ∉ S := fun z => y2 (List.mem_append_left _ z)
      have yd : y ∉ d := fun z => y2 (List.mem_append_right _ z)
      have hex : ∃ p ∈ P, p.2 = y ∧ p.1 ∉ S := Classical.byContradiction fun hc => yd (hall y (mem_abH.mpr ⟨(mem_Ab G).mpr ⟨y1, yS, fun p hp e => Classical.byContradiction fun h => hc ⟨p, hp, e, h⟩⟩, by omega⟩))
      obtain ⟨p, hp, e, hc⟩ := hex
      have h5 := V.dn p hp
      have h6 := G.rg p hp
      refine ⟨p.1, h6.1, hc, ?_⟩
      rw [List.length_cons, e] at *
      omega
theorem Hp.split : ∀ {us vs : List (List Int)} {S : List Int}, Hp n P b lv S (us ++ vs) → Hp n P b lv S us ∧ Hp n P b lv (S ++ us.flatten) vs
  | [], vs, S, h => ⟨.nil, by rw [List.flatten_nil, List.append_nil]; exact h⟩
  | d :: us, vs, S, h => by
    cases h with
    | cons h1 h2 =>
      obtain ⟨a, c⟩ := h2.split
      exact ⟨.cons h1 a, by rw [List.flatten_cons, ← List.append_assoc]; exact c⟩
/-- what is left behind some days is not above the bound -/
theorem up (G : Prs n P) (T : Tree P) (V : Lvl n P lv) (hb : 1 ≤ b) {F : Int} (hF : ∀ L : Nat, ∀ c : Nat, c ≤ (rem n lv [] (L : Int)).length → 1 ≤ c → ∀ k : Nat, b * k < c → (L : Int) + (k : Int) + 1 ≤ F) :
    ∀ (t : Nat) (ds : List (List Int)), ds.length = t → Hp n P b lv [] ds → ∀ j, (0 ≤ j ∧ j < (n : Int)) → j ∉ ds.flatten → (t : Int) + lv j ≤ F := fun t => by
  induction t using Nat.strongRecOn with
  | ind t ih =>
    intro ds hl hh j hj hn
    have hpl : ∀ {us : List (List Int)}, Hp n P b lv [] us → Dn n P us.flatten := fun h => by
      have := Dn.pl G (b := b) (Dn.nil (n := n) (P := P)) h.pl
      rwa [List.nil_append] at this
    have h1 := V.ge j hj.1 hj.2
    by_cases hc : ∃ us d vs, ds = us ++ d :: vs ∧ (dayH lv (lv j) d).length < b
    · obtain ⟨us, d, vs, e, hlt⟩ := hc
      subst e
      obtain ⟨ha, hv⟩ := hh.split
      rw [List.nil_append] at hv
      rw [List.flatten_append] at hn
      obtain ⟨y, y1, y2, y3⟩ := drop_lv G T V (d :: vs) us.flatten (hpl ha) hv (fun d' r e => by
        injection e with e1 e2
        subst e1
        exact .inl hlt) j hj hn (Int.le_refl _)
      rw [List.length_append] at hl
      have h2 := ih us.length (by rw [List.length_cons] at hl; omega) us rfl ha y y1 y2
      omega
    · -- all days are full of high jobs
      have hfull : ∀ us : List (List Int), (∀ d ∈ us, b ≤ (dayH lv (lv j) d).length) → b * us.length ≤ (us.flatMap (dayH lv (lv j))).length := fun us => by
        induction us with
        | nil => exact fun _ => Nat.le_refl _
        | cons d us ihu =>
          intro h
          have := ihu fun x hx => h x (List.mem_cons_of_mem _ hx)
          have := h d List.mem_cons_self
          rw [List.flatMap_cons, List.length_append, List.length_cons, Nat.mul_add, Nat.mul_one]
          omega
      have h2 := hfull ds fun d hd => Nat.le_of_not_lt fun hlt => by
        obtain ⟨us, vs, e⟩ := List.append_of_mem hd
        exact hc ⟨us, d, vs, e, hlt⟩
      have hD := hpl hh
      have hsub : (ds.flatMap (dayH lv (lv j))).Sublist ds.flatten := by
        have : ∀ us : List (List Int), (us.flatMap (dayH lv (lv j))).Sublist us.flatten := fun us => by
          induction us with
          | nil => exact List.Sublist.refl _
          | cons d us ihu =>
            rw [List.flatMap_cons, List.flatten_cons]
            exact List.filter_sublist.append ihu
        exact this ds
      have nd : (j :: ds.flatMap (dayH lv (lv j))).Nodup := List.nodup_cons.mpr ⟨fun z => hn (hsub.mem z), hD.nd.sublist hsub⟩
      obtain ⟨L, hL⟩ : ∃ L : Nat, lv j = (L : Int) + 1 := ⟨(lv j - 1).toNat, by omega⟩
      have h3 := nodup_leG nd (q := rem n lv [] (L : Int)) fun x hx => by
        rcases List.mem_cons.mp hx with rfl | z
        · exact mem_rem.mpr ⟨hj, fun z => (nomatch z), by omega⟩
        · obtain ⟨d, hd, hxd⟩ := List.mem_flatMap.mp z
          obtain ⟨a, c⟩ := mem_dayH.mp hxd
          exact mem_rem.mpr ⟨hD.rg x (List.mem_flatten.mpr ⟨d, hd, a⟩), fun z => (nomatch z), by omega⟩
      rw [List.length_cons] at h3
      have := hF L _ (Nat.le_refl _) (by omega) t (by rw [hl] at h2; omega)
      omega
end
end DVS




namespace DVL
open PySem L2 DV
section
variable {ts dd : List Int}
def ordD (dd : List Int) (n : Nat) : List Int := srtP (fun j => (val dd j, j)) (rngI 0 n)
theorem ordD_perm (dd : List Int) (n : Nat) : (ordD dd n).Perm (rngI 0 n) := srtP_perm _ _
end
end DVL

namespace DVL
open PySem L2 DV
abbrev ab (i : Int) : Int := if i < 0 then -i else i
/-- ends one after another -/
def es : Int → List Int → List Int
  | _, [] => []
  | d, t :: x => (d + t) :: es (d + t) x
/-- the sum of the differences of the ends and a day -/
def gD (due : Int) : Int → List Int → Int
  | _, [] => 0
  | d, t :: x => ab (d + t - due) + gD due (d + t) x
/-- i, i + 1, .. times the items -/
def up : Int → List Int → Int
  | _, [] => 0
  | i, t :: A => i * t + up (i + 1) A
def dn : List Int → Int
  | [] => 0
  | t :: B => ((B.length : Int) + 1) * t + dn B
end DVL

namespace DVL
open PySem L2 DV
abbrev vs (ts p : List Int) : List Int := p.map (val ts)
end DVL

namespace DVL
open PySem L2 DV
def mid (x : List Int) : Int := (x.take ((x.length + 1) / 2)).sum
def told (ts p : List Int) : Int := gD (mid (vs ts p)) 0 (vs ts p)
/-- a begin worth trying: the day 0, or one with an end at the due day -/
def Cand (due : Int) (x : List Int) (b : Int) : Prop := 0 ≤ b ∧ b ≤ due ∧ (b = 0 ∨ due ∈ es b x)
end DVL

namespace DVL
open PySem L2 DV
section
variable {ts dd : List Int}
abbrev T3 (ts : List Int) (p : List Int) : Int := (p.map (val ts)).sum
/-- no end later than x behind its due day -/
def okL (ts dd : List Int) (x : Int) : Int → List Int → Prop
  | _, [] => True
  | d, j :: p => d + val ts j - val dd j ≤ x ∧ okL ts dd x (d + val ts j) p
theorem okL_app {x : Int} : ∀ (a b : List Int) (d : Int), okL ts dd x d (a ++ b) ↔ okL ts dd x d a ∧ okL ts dd x (d + T3 ts a) b
  | [], b, d => by
    show okL ts dd x d b ↔ True ∧ okL ts dd x (d + 0) b
    rw [Int.add_zero, true_and]
  | j :: a, b, d => by
    have ih := okL_app (x := x) a b (d + val ts j)
    show _ ∧ okL ts dd x (d + val ts j) (a ++ b) ↔ (_ ∧ okL ts dd x (d + val ts j) a) ∧ okL ts dd x (d + (val ts j + T3 ts a)) b
    rw [ih, and_assoc, Int.add_assoc]
theorem T3_app (a b : List Int) : T3 ts (a ++ b) = T3 ts a + T3 ts b := by
  unfold T3
  rw [List.map_append, List.sum_append]
theorem T3_cons (j : Int) (b : List Int) : T3 ts (j :: b) = val ts j + T3 ts b := by
  unfold T3
  rw [List.map_cons, List.sum_cons]
theorem T3_perm {a b : List Int} (h : a.Perm b) : T3 ts a = T3 ts b := perm_sum (h.map _)
end
abbrev k3 (a b c : Int) : D := .tuple [.int a, .int b, .int c]
end DVL

namespace DVL
open PySem L2 DV
section
variable {ts dd : List Int}
theorem sub_one {A P : List Int} {i : Int} (h : A.Sublist (P ++ [i])) : A.Sublist P ∨ ∃ A1, A = A1 ++ [i] ∧ A1.Sublist P := by
  obtain ⟨A1, A2, rfl, h1, h2⟩ := List.sublist_append_iff.mp h
  cases h2 with
  | cons _ h3 =>
    rw [List.sublist_nil.mp h3, List.append_nil]
    exact .inl h1
  | cons_cons _ h3 =>
    rw [List.sublist_nil.mp h3]
    exact .inr ⟨A1, rfl, h1⟩
end
end DVL



namespace DVL
open PySem L2 DV
section
variable {ts ow dd : List Int}
/-- the sum of the ends of owner 0's jobs -/
def sO (ts ow : List Int) : Int → List Int → Int
  | _, [] => 0
  | d, j :: p => (if val ow j = 0 then d + val ts j else 0) + sO ts ow (d + val ts j) p
/-- no job of the other owner later than x behind its due day -/
def okO (ts ow dd : List Int) (x : Int) : Int → List Int → Prop
  | _, [] => True
  | d, j :: p => (val ow j ≠ 0 → d + val ts j - val dd j ≤ x) ∧ okO ts ow dd x (d + val ts j) p
end
end DVL

namespace DVL
open PySem L2 DV
section
variable {ts ow dd : List Int}
def TI (ts ow dd : List Int) (x : Int) (k : Nat) (ρ : DV.Env) : Prop := ∃ (L Fd : List Int) (y6 y7 y8 y9 y10 : Option SV), ρ = [some (.d (ti ts)), some (.d (ti ow)), some (.d (ti dd)), some (.d (.int x)), some (.o (L.map PyData.int)), some (.o (Fd.map PyData.int)), y6, y7, y8, y9, y10] ∧ L.length = k ∧ (L ++ Fd.reverse).Perm (rngI 0 ts.length) ∧ okO ts ow dd x (T3 ts L) Fd.reverse ∧
  ∀ q, q.Perm (rngI 0 ts.length) → okO ts ow dd x 0 q → ∃ q', q'.Perm L ∧ okO ts ow dd x 0 q' ∧ sO ts ow 0 (q' ++ Fd.reverse) ≤ sO ts ow 0 q
end
end DVL


namespace DVL
open PySem L2 DV
def mx2 (w : Option Int) (y : Int) : Option Int := some (match w with
  | none => y
  | some m => max m y)
section
variable {ts ow dd : List Int}
/-- the jobs with their ends -/
def eL (ts : List Int) : Int → List Int → List (Int × Int)
  | _, [] => []
  | d, j :: p => (j, d + val ts j) :: eL ts (d + val ts j) p
/-- the others' ends less their due days -/
def wsO (ts ow dd : List Int) (d : Int) (p : List Int) : List Int := ((eL ts d p).filter fun z => !decide (val ow z.1 = 0)).map fun z => z.2 - val dd z.1
def wOf (ts ow dd : List Int) (w : Option Int) (d : Int) (p : List Int) : Option Int := (wsO ts ow dd d p).foldl mx2 w
/-- the worst of an order -/
abbrev wO (ts ow dd p : List Int) : Option Int := wOf ts ow dd none 0 p
end
end DVL

namespace DVL
open PySem L2 DV
section
variable {ts ow dd : List Int}
/-- told by an order -/
def A2 (ts ow dd : List Int) (f : Int × Int) : Prop := ∃ q, q.Perm (rngI 0 ts.length) ∧ f.1 = sO ts ow 0 q ∧ wO ts ow dd q = some f.2
end
end DVL


namespace DVL
open PySem L2 DV
/-- a row: the day, the weight of the late, the kept -/
abbrev Rw3 := Int × Int × List Int
/-- put a row in -/
def putR (R : List Rw3) (r : Rw3) : List Rw3 := if (R.find? fun q => decide (q.1 = r.1)).isSome = true then R.map fun q => if q.1 = r.1 then r else q else R ++ [r]
/-- of the options done, the rows hold for each day one of no more weight -/
structure UI (dn M : List Rw3) : Prop where
  nd : (M.map (·.1)).Nodup
  sub : ∀ m ∈ M, m ∈ dn
  all : ∀ o ∈ dn, ∃ m ∈ M, m.1 = o.1 ∧ m.2.1 ≤ o.2.1
theorem UI.nil : UI [] [] := ⟨List.nodup_nil, (fun _ h => nomatch h), fun _ h => nomatch h⟩
theorem put_keys {R : List Rw3} {r : Rw3} : (putR R r).map (·.1) = if (R.find? fun q => decide (q.1 = r.1)).isSome = true then R.map (·.1) else R.map (·.1) ++ [r.1] := by
  unfold putR
  split
  · rw [List.map_map]
    refine List.map_congr_left fun q _ => ?_
    show (if q.1 = r.1 then r else q).1 = q.1
    split
    · rename_i h
      exact h.symm
    · rfl
  · rw [List.map_append]
    rfl
theorem UI.put {dn M : List Rw3} {r : Rw3} (I : UI dn M) (h : ∀ m ∈ M, m.1 = r.1 → r.2.1 ≤ m.2.1) : UI (dn ++ [r]) (putR M r) := by
  have hr : r ∈ putR M r := by
    unfold putR
    split
    · rename_i hs
      obtain ⟨m, hm⟩ := Option.isSome_iff_exists.mp hs
      have h1 := List.find?_some hm
      have h2 := List.mem_of_find?_eq_some hm
      refine List.mem_map.mpr ⟨m, h2, if_pos (of_decide_eq_true h1)⟩
    · simp
  refine ⟨?_, fun m hm => ?_, fun o ho => ?_⟩
  · rw [put_keys]
    split
    · exact I.nd
    · rename_i hs
      refine List.nodup_append.mpr ⟨I.nd, by simp, fun a ha b hb e => ?_⟩
      rw [List.mem_singleton.mp hb] at e
      obtain ⟨m, hm, em⟩ := List.mem_map.mp ha
      apply hs
      rw [List.find?_isSome]
      exact ⟨m, hm, decide_eq_true (em.trans e)⟩
  · unfold putR at hm
    split at hm
    · obtain ⟨q, hq, e⟩ := List.mem_map.mp hm
      split at e
      · rw [← e]; simp
      · rw [← e]; exact List.mem_append_left _ (I.sub q hq)
    · rcases List.mem_append.mp hm with z | z
      · exact List.mem_append_left _ (I.sub m z)
      · rw [List.mem_singleton.mp z]; simp
  · rcases List.mem_append.mp ho with z | z
    · obtain ⟨m, hm, e1, e2⟩ := I.all o z
      by_cases e : m.1 = r.1
      · exact ⟨r, hr, by omega, by have := h m hm e; omega⟩
      · refine ⟨m, ?_, e1, e2⟩
        unfold putR
        split
        · exact List.mem_map.mpr ⟨m, hm, if_neg e⟩
        · exact List.mem_append_left _ hm
    · rw [List.mem_singleton.mp z]
      exact ⟨r, hr, rfl, Int.le_refl _⟩
theorem UI.skip {dn M : List Rw3} {r m : Rw3} (I : UI dn M) (hm : m ∈ M) (h1 : m.1 = r.1) (h2 : m.2.1 ≤ r.2.1) : UI (dn ++ [r]) M := by
  refine ⟨I.nd, fun x hx => List.mem_append_left _ (I.sub x hx), fun o ho => ?_⟩
  rcases List.mem_append.mp ho with z | z
  · exact I.all o z
  · rw [List.mem_singleton.mp z]
    exact ⟨m, hm, h1, h2⟩
section
variable {ts ws dd : List Int}
abbrev WS (ws : List Int) (p : List Int) : Int := (p.map (val ws)).sum
theorem WS_one (p : List Int) (i : Int) : WS ws (p ++ [i]) = WS ws p + val ws i := by
  unfold WS
  rw [List.map_append, List.sum_append]
  simp
/-- a row that tells of a feasible set -/
structure Row (ts ws dd P : List Int) (r : Rw3) : Prop where
  sub : r.2.2.Sublist P
  ok : okL ts dd 0 0 r.2.2
  day : r.1 = T3 ts r.2.2
  wt : r.2.1 = WS ws P - WS ws r.2.2
structure DI (ts ws dd P : List Int) (R : List Rw3) : Prop where
  nd : (R.map (·.1)).Nodup
  row : ∀ r ∈ R, Row ts ws dd P r
  all : ∀ A, A.Sublist P → okL ts dd 0 0 A → ∃ r ∈ R, r.1 = T3 ts A ∧ r.2.1 ≤ WS ws P - WS ws A
theorem DI.nil : DI ts ws dd [] [(0, 0, [])] := ⟨by simp, fun r hr => by
    rw [List.mem_singleton.mp hr]
    exact ⟨.slnil, trivial, rfl, rfl⟩, fun A hA _ => ⟨_, List.mem_singleton.mpr rfl, by rw [List.sublist_nil.mp hA]; rfl, by rw [List.sublist_nil.mp hA]; exact Int.le_refl _⟩⟩
/-- what a row offers for the next job -/
def opts (ts ws dd : List Int) (i : Int) (r : Rw3) : List Rw3 := (r.1, r.2.1 + val ws i, r.2.2) :: (if r.1 + val ts i ≤ val dd i then [(r.1 + val ts i, r.2.1, r.2.2 ++ [i])] else [])
theorem DI.next {P : List Int} {R M : List Rw3} {i : Int} (I : DI ts ws dd P R) (U : UI (R.flatMap (opts ts ws dd i)) M) : DI ts ws dd (P ++ [i]) M := by
  have h3 : T3 ts [i] = val ts i := by unfold T3; simp
  have hrow : ∀ o ∈ R.flatMap (opts ts ws dd i), Row ts ws dd (P ++ [i]) o := fun o ho => by
    obtain ⟨r, hr, h1⟩ := List.mem_flatMap.mp ho
    have Rr := I.row r hr
    have hw := Rr.wt
    have hd := Rr.day
    rcases List.mem_cons.mp h1 with z | z
    · rw [z]
      refine ⟨Rr.sub.trans (List.sublist_append_left _ _), Rr.ok, hd, ?_⟩
      rw [WS_one]
      simp only
      omega
    · split at z
      · rename_i hle
        rw [List.mem_singleton.mp z]
        refine ⟨Rr.sub.append_right [i], (okL_app _ [i] 0).mpr ⟨Rr.ok, by omega, trivial⟩, ?_, ?_⟩
        · rw [T3_app]
          simp only
          omega
        · rw [WS_one, WS_one]
          simp only
          omega
      · cases z
  refine ⟨U.nd, fun m hm => hrow m (U.sub m hm), fun A hA ho => ?_⟩
  rcases sub_one hA with z | ⟨A1, rfl, z⟩
  · obtain ⟨r, hr, e1, e2⟩ := I.all A z ho
    obtain ⟨m, hm, e3, e4⟩ := U.all (r.1, r.2.1 + val ws i, r.2.2) (List.mem_flatMap.mpr ⟨r, hr, List.mem_cons_self⟩)
    refine ⟨m, hm, by rw [e3]; exact e1, ?_⟩
    rw [WS_one]
    simp only at e4
    omega
  · obtain ⟨o1, o2⟩ := (okL_app A1 [i] 0).mp ho
    obtain ⟨r, hr, e1, e2⟩ := I.all A1 z o1
    have hle : r.1 + val ts i ≤ val dd i := by
      have := o2.1
      omega
    obtain ⟨m, hm, e3, e4⟩ := U.all (r.1 + val ts i, r.2.1, r.2.2 ++ [i]) (List.mem_flatMap.mpr ⟨r, hr, by unfold opts; rw [if_pos hle]; simp⟩)
    refine ⟨m, hm, ?_, ?_⟩
    · rw [e3, T3_app]
      simp only
      omega
    · rw [WS_one, WS_one]
      simp only at e4
      omega
end
end DVL


namespace DVL
open PySem L2 DV
theorem pw_tri {α : Type} {R : α → α → Prop} : ∀ {l : List α}, l.Pairwise R → ∀ a ∈ l, ∀ b ∈ l, a = b ∨ R a b ∨ R b a
  | x :: l, .cons h1 h2, a, ha, b, hb => by
    rcases List.mem_cons.mp ha with za | za
    · rcases List.mem_cons.mp hb with zb | zb
      · exact .inl (za.trans zb.symm)
      · exact .inr (.inl (za ▸ h1 b zb))
    · rcases List.mem_cons.mp hb with zb | zb
      · exact .inr (.inr (zb ▸ h1 a za))
      · exact pw_tri h2 a za b zb
end DVL

namespace DVL
open PySem L2 DV
section
variable {ts ws dd : List Int}
theorem UI.len {dn M : List Rw3} (U : UI dn M) : M.length ≤ dn.length := by
  refine List.Nodup.length_le_of_subset ?_ U.sub
  have h := U.nd
  unfold List.Nodup at *
  rw [List.pairwise_map] at h
  exact h.imp fun h e => h (by rw [e])
end
end DVL

namespace DVL
open PySem L2 DV
section
variable {ts ws dd : List Int}
theorem DI.few (W : Tm ts) {P : List Int} {R : List Rw3} (I : DI ts ws dd P R) (hP : P.Sublist (ordD dd ts.length)) : R.length ≤ 601 := by
  have hpe := ordD_perm dd ts.length
  have hT : ∀ A : List Int, A.Sublist (ordD dd ts.length) → 0 ≤ T3 ts A ∧ T3 ts A ≤ 600 := fun A hA => by
    have h0 : ∀ j ∈ ordD dd ts.length, 0 ≤ val ts j := fun j hj => by have := W.tp hpe j hj; omega
    have h1 : ∀ (A B : List Int), A.Sublist B → (∀ j ∈ B, 0 ≤ val ts j) → 0 ≤ T3 ts A ∧ T3 ts A ≤ T3 ts B := fun A B h => by
      induction h with
      | slnil => exact fun _ => ⟨Int.le_refl _, Int.le_refl _⟩
      | cons b h ih =>
        intro hb
        have := ih fun j hj => hb j (List.mem_cons_of_mem _ hj)
        have h2 := hb b List.mem_cons_self
        rw [T3_cons]
        omega
      | cons_cons b h ih =>
        intro hb
        have := ih fun j hj => hb j (List.mem_cons_of_mem _ hj)
        have h2 := hb b List.mem_cons_self
        rw [T3_cons, T3_cons]
        omega
    have h2 := h1 A _ hA h0
    have h3 : T3 ts (ordD dd ts.length) = ts.sum := sum_perm ts hpe
    have h4 := sum_le 60 ts fun t ht => (W.tim t ht).2
    have h5 := W.len
    omega
  have h := List.Nodup.length_le_of_subset (l₂ := rngI 0 601) I.nd fun x hx => by
    obtain ⟨r, hr, rfl⟩ := List.mem_map.mp hx
    have Rr := I.row r hr
    have := hT _ (Rr.sub.trans hP)
    have e := Rr.day
    exact (mem_rngI _ _ _).mpr (by omega)
  rw [List.length_map, rngI_len] at h
  exact h
end
end DVL

namespace DVL
open PySem L2 DV
/-- a row: the jobs (ascending), the sum, the order -/
abbrev Rk := List Int × Int × List Int
/-- put a row in -/
def putK (R : List Rk) (r : Rk) : List Rk := if (R.find? fun q => decide (q.1 = r.1)).isSome = true then R.map fun q => if q.1 = r.1 then r else q else R ++ [r]
/-- of the rows offered, the table holds for each set one of no greater sum -/
structure UK (dn M : List Rk) : Prop where
  nd : (M.map (·.1)).Nodup
  sub : ∀ m ∈ M, m ∈ dn
  all : ∀ o ∈ dn, ∃ m ∈ M, m.1 = o.1 ∧ m.2.1 ≤ o.2.1
theorem putk_keys {R : List Rk} {r : Rk} : (putK R r).map (·.1) = if (R.find? fun q => decide (q.1 = r.1)).isSome = true then R.map (·.1) else R.map (·.1) ++ [r.1] := by
  unfold putK
  split
  · rw [List.map_map]
    refine List.map_congr_left fun q _ => ?_
    show (if q.1 = r.1 then r else q).1 = q.1
    split
    · rename_i h
      exact h.symm
    · rfl
  · rw [List.map_append]
    rfl
theorem UK.put {dn M : List Rk} {r : Rk} (I : UK dn M) (h : ∀ m ∈ M, m.1 = r.1 → r.2.1 ≤ m.2.1) : UK (dn ++ [r]) (putK M r) := by
  have hr : r ∈ putK M r := by
    unfold putK
    split
    · rename_i hs
      obtain ⟨m, hm⟩ := Option.isSome_iff_exists.mp hs
      have h1 := List.find?_some hm
      have h2 := List.mem_of_find?_eq_some hm
      refine List.mem_map.mpr ⟨m, h2, if_pos (of_decide_eq_true h1)⟩
    · simp
  refine ⟨?_, fun m hm => ?_, fun o ho => ?_⟩
  · rw [putk_keys]
    split
    · exact I.nd
    · rename_i hs
      refine List.nodup_append.mpr ⟨I.nd, by simp, fun a ha b hb e => ?_⟩
      rw [List.mem_singleton.mp hb] at e
      obtain ⟨m, hm, em⟩ := List.mem_map.mp ha
      apply hs
      rw [List.find?_isSome]
      exact ⟨m, hm, decide_eq_true (em.trans e)⟩
  · unfold putK at hm
    split at hm
    · obtain ⟨q, hq, e⟩ := List.mem_map.mp hm
      split at e
      · rw [← e]; simp
      · rw [← e]; exact List.mem_append_left _ (I.sub q hq)
    · rcases List.mem_append.mp hm with z | z
      · exact List.mem_append_left _ (I.sub m z)
      · rw [List.mem_singleton.mp z]; simp
  · rcases List.mem_append.mp ho with z | z
    · obtain ⟨m, hm, e1, e2⟩ := I.all o z
      by_cases e : m.1 = r.1
      · exact ⟨r, hr, e.symm.trans e1, Int.le_trans (h m hm e) e2⟩
      · refine ⟨m, ?_, e1, e2⟩
        unfold putK
        split
        · exact List.mem_map.mpr ⟨m, hm, if_neg e⟩
        · exact List.mem_append_left _ hm
    · rw [List.mem_singleton.mp z]
      exact ⟨r, hr, rfl, Int.le_refl _⟩
theorem UK.skip {dn M : List Rk} {r m : Rk} (I : UK dn M) (hm : m ∈ M) (h1 : m.1 = r.1) (h2 : m.2.1 ≤ r.2.1) : UK (dn ++ [r]) M := by
  refine ⟨I.nd, fun x hx => List.mem_append_left _ (I.sub x hx), fun o ho => ?_⟩
  rcases List.mem_append.mp ho with z | z
  · exact I.all o z
  · rw [List.mem_singleton.mp z]
    exact ⟨m, hm, h1, h2⟩
end DVL

namespace DVL
open PySem L2 DV
section
variable {ts ws dd : List Int}
/-- weights times the days behind, the work begun at d -/
def TD (ts ws dd : List Int) : Int → List Int → Int
  | _, [] => 0
  | d, j :: p => val ws j * max 0 (d + val ts j - val dd j) + TD ts ws dd (d + val ts j) p
theorem TD_app (p q : List Int) : ∀ d, TD ts ws dd d (p ++ q) = TD ts ws dd d p + TD ts ws dd (d + T3 ts p) q := by
  induction p with
  | nil =>
    intro d
    show TD ts ws dd d q = 0 + TD ts ws dd (d + ([] : List Int).sum) q
    rw [List.sum_nil, Int.add_zero, Int.zero_add]
  | cons j p ih =>
    intro d
    show val ws j * _ + TD ts ws dd (d + val ts j) (p ++ q) = (val ws j * _ + TD ts ws dd (d + val ts j) p) + _
    rw [ih, T3_cons, Int.add_assoc, Int.add_assoc]
/-- what a job costs behind a set of jobs -/
def CJ (ts ws dd : List Int) (p : List Int) (j : Int) : Int := val ws j * max 0 (T3 ts p + val ts j - val dd j)
theorem TD_one (p : List Int) (j : Int) : TD ts ws dd 0 (p ++ [j]) = TD ts ws dd 0 p + CJ ts ws dd p j := by
  rw [TD_app]
  show _ + (val ws j * max 0 (0 + T3 ts p + val ts j - val dd j) + 0) = _
  rw [Int.zero_add, Int.add_zero]
  rfl
theorem CJ_perm {p q : List Int} (h : p.Perm q) (j : Int) : CJ ts ws dd p j = CJ ts ws dd q j := by
  unfold CJ
  rw [T3_perm h]
end
end DVL

namespace DVL
open PySem L2 DV
theorem sortI_eq {A B : List Int} (h : A.Perm B) : sortI A = sortI B := sorted_uniq (((sortI_perm A).trans h).trans (sortI_perm B).symm) (sortI_sorted A) (sortI_sorted B)
section
variable {ts ws dd : List Int}
/-- a row that tells the truth -/
structure OKr (ts ws dd : List Int) (n : Nat) (o : Rk) : Prop where
  key : o.1 = sortI o.2.2
  nd : o.2.2.Nodup
  rg : ∀ j ∈ o.2.2, 0 ≤ j ∧ j < (n : Int)
  sum : o.2.1 = TD ts ws dd 0 o.2.2
def Full (ts ws dd : List Int) (n s : Nat) (dn : List Rk) : Prop := ∀ q : List Int, q.Nodup → (∀ j ∈ q, 0 ≤ j ∧ j < (n : Int)) → q.length ≤ s → ∃ o ∈ dn, o.1 = sortI q ∧ o.2.1 ≤ TD ts ws dd 0 q
/-- a set and a job have been offered -/
def Off (ts ws dd : List Int) (dn : List Rk) (S : List Int) (j : Int) : Prop := ∃ o ∈ dn, o.1 = sortI (S ++ [j]) ∧ ∀ q : List Int, q.Perm S → o.2.1 ≤ TD ts ws dd 0 (q ++ [j])
theorem Full.mono {n s : Nat} {dn dn2 : List Rk} (h : Full ts ws dd n s dn) (i : ∀ o ∈ dn, o ∈ dn2) : Full ts ws dd n s dn2 := fun q a b c => by
  obtain ⟨o, h1, h2⟩ := h q a b c
  exact ⟨o, i o h1, h2⟩
theorem Off.mono {dn dn2 : List Rk} {S : List Int} {j : Int} (h : Off ts ws dd dn S j) (i : ∀ o ∈ dn, o ∈ dn2) : Off ts ws dd dn2 S j := by
  obtain ⟨o, h1, h2⟩ := h
  exact ⟨o, i o h1, h2⟩
theorem Full.next {n s : Nat} {dn : List Rk} (F : Full ts ws dd n s dn) (h : ∀ q : List Int, q.Nodup → (∀ j ∈ q, 0 ≤ j ∧ j < (n : Int)) → q.length = s → ∀ j : Int, 0 ≤ j → j < (n : Int) → j ∉ q → Off ts ws dd dn (sortI q) j) : Full ts ws dd n (s + 1) dn := by
  intro q hn hr hl
  by_cases hs : q.length ≤ s
  · exact F q hn hr hs
  have hne : q ≠ [] := fun e => by rw [e] at hs; simp at hs
  have eq : q = q.dropLast ++ [q.getLast hne] := (List.dropLast_concat_getLast hne).symm
  generalize q.dropLast = p at eq
  generalize q.getLast hne = j at eq
  subst eq
  rw [List.length_append, List.length_singleton] at hl hs
  obtain ⟨n1, _, n3⟩ := List.nodup_append.mp hn
  have hj := hr j (by simp)
  obtain ⟨o, o1, o2, o3⟩ := h p n1 (fun k hk => hr k (List.mem_append_left _ hk)) (by omega) j hj.1 hj.2 fun hm => n3 j hm j (by simp) rfl
  exact ⟨o, o1, o2.trans (sortI_eq ((sortI_perm p).append_right [j])), o3 p (sortI_perm p).symm⟩
/-- the row of a set serves all its orders -/
theorem full_row {n s : Nat} {dn M : List Rk} (F : Full ts ws dd n s dn) (U : UK dn M) {m : Rk} (hm : m ∈ M) {q : List Int} (h1 : q.Nodup) (h2 : ∀ j ∈ q, 0 ≤ j ∧ j < (n : Int)) (h3 : q.length ≤ s) (e : m.1 = sortI q) : m.2.1 ≤ TD ts ws dd 0 q := by
  obtain ⟨o, o1, o2, o3⟩ := F q h1 h2 h3
  obtain ⟨m2, a1, a2, a3⟩ := U.all o o1
  have hu := U.nd
  unfold List.Nodup at hu
  rw [List.pairwise_map] at hu
  have : m2 = m := Classical.byContradiction fun hne => by
    rcases pw_tri hu m2 a1 m hm with z | z | z
    · exact hne z
    · exact z (a2.trans (o2.trans e.symm))
    · exact z (e.trans (o2.symm.trans a2.symm))
  rw [← this]
  omega
end
end DVL

namespace DVL
open PySem L2 DV
/-- the ascending lists within lo .. lo + k -/
def subsA (lo : Int) : Nat → List (List Int)
  | 0 => [[]]
  | k + 1 => subsA (lo + 1) k ++ (subsA (lo + 1) k).map fun S => lo :: S
theorem subsA_len : ∀ (k : Nat) (lo : Int), (subsA lo k).length = 2 ^ k
  | 0, _ => rfl
  | k + 1, lo => by
    show (subsA (lo + 1) k ++ _).length = _
    rw [List.length_append, List.length_map, subsA_len k (lo + 1), Nat.pow_succ]
    omega
theorem subsA_mem : ∀ (k : Nat) (lo : Int) (S : List Int), S.Pairwise (· < ·) → (∀ j ∈ S, lo ≤ j ∧ j < lo + (k : Int)) → S ∈ subsA lo k
  | 0, lo, S, _, h => by
    cases S with
    | nil => exact List.mem_singleton.mpr rfl
    | cons a S =>
      have := h a List.mem_cons_self
      omega
  | k + 1, lo, [], hp, h => List.mem_append_left _ (subsA_mem k (lo + 1) [] List.Pairwise.nil (fun j hj => nomatch hj))
  | k + 1, lo, a :: S, hp, h => by
    obtain ⟨h1, h2⟩ := List.pairwise_cons.mp hp
    have ha := h a List.mem_cons_self
    have hS : ∀ j ∈ S, a < j ∧ j < lo + ((k + 1 : Nat) : Int) := fun j hj => ⟨h1 j hj, (h j (List.mem_cons_of_mem _ hj)).2⟩
    by_cases e : a = lo
    · subst e
      refine List.mem_append_right _ (List.mem_map.mpr ⟨S, subsA_mem k (a + 1) S h2 (fun j hj => ?_), rfl⟩)
      have := hS j hj
      omega
    · refine List.mem_append_left _ (subsA_mem k (lo + 1) (a :: S) hp (fun j hj => ?_))
      rcases List.mem_cons.mp hj with z | z
      · subst z; omega
      · have := hS j z
        omega
theorem uk_len {n : Nat} {dn M : List Rk} (U : UK dn M) (h : ∀ o ∈ dn, o.1.Pairwise (· < ·) ∧ ∀ j ∈ o.1, 0 ≤ j ∧ j < (n : Int)) : M.length ≤ 2 ^ n := by
  have h1 : (M.map (·.1)).length ≤ (subsA 0 n).length := List.Nodup.length_le_of_subset U.nd fun S hS => by
    obtain ⟨m, hm, rfl⟩ := List.mem_map.mp hS
    have := h m (U.sub m hm)
    exact subsA_mem n 0 m.1 this.1 fun j hj => by have := this.2 j hj; omega
  rwa [List.length_map, subsA_len] at h1
end DVL

namespace DVL
open PySem L2 DV
section
variable {ts ws dd : List Int}
structure TabOK (ts ws dd : List Int) (n s : Nat) (dn M : List Rk) : Prop where
  U : UK dn M
  ok : ∀ o ∈ dn, OKr ts ws dd n o
  full : Full ts ws dd n s dn
theorem OKr.asc {n : Nat} {o : Rk} (h : OKr ts ws dd n o) : o.1.Pairwise (· < ·) ∧ ∀ j ∈ o.1, 0 ≤ j ∧ j < (n : Int) := by
  rw [h.key]
  exact ⟨sort_nodup h.nd, fun j hj => h.rg j ((sortI_perm _).mem_iff.mp hj)⟩
theorem TabOK.few {n s : Nat} {dn M : List Rk} (T : TabOK ts ws dd n s dn M) (hn : n ≤ 10) : M.length ≤ 100000 := by
  have h := uk_len T.U fun o ho => (T.ok o ho).asc
  have : (2 : Nat) ^ n ≤ 2 ^ 10 := Nat.pow_le_pow_right (by decide) hn
  omega
theorem Off.of {n s : Nat} {dn M : List Rk} (T : TabOK ts ws dd n s dn M) {m : Rk} (hm : m ∈ M) (hs : m.1.length = s) {j : Int} {o : Rk} (e1 : o.1 = sortI (m.1 ++ [j])) (e2 : o.2.1 = m.2.1 + CJ ts ws dd m.1 j) (ho : o ∈ dn ++ [o]) : Off ts ws dd (dn ++ [o]) m.1 j := by
  refine ⟨o, ho, e1, fun q hq => ?_⟩
  have hk := T.ok m (T.U.sub m hm)
  have ha := hk.asc
  have hqn : q.Nodup := hq.nodup_iff.mpr (ha.1.imp fun h => Int.ne_of_lt h)
  have h1 := full_row T.full T.U hm hqn (fun k hk2 => ha.2 k (hq.mem_iff.mp hk2)) (by rw [hq.length_eq]; omega) (by
    rw [hk.key]
    exact sortI_eq (((sortI_perm _).symm).trans (by rw [← hk.key]; exact hq.symm)))
  rw [TD_one, e2, CJ_perm hq]
  omega
end
end DVL




namespace DVL
open PySem L2 DV
/-- the jobs of machine m -/
def cell (n : Nat) (a : List Int) (m : Int) : List Int := (rngI 0 n).filter fun i => decide (val a i = m)
/-- the lists of an assignment -/
def lists (n : Nat) (T : List (List Int)) (a : List Int) : List (List Int) := (rngI 0 T.length).map fun m => sbP (val (rowA T m)) id (cell n a m)
end DVL

namespace DVS
open PySem L2 DV DVL DVB
section
variable {n : Nat} {P : List (Int × Int)} {b : Nat} {lv : Int → Int}
theorem Dn.le {S : List Int} (h : Dn n P S) : S.length ≤ n := by
  have := nodup_leG h.nd (q := rngI 0 n) fun j hj => (mem_rngI _ _ _).mpr (by have := h.rg j hj; omega)
  rwa [rngI_len] at this
theorem Dn.ex {S : List Int} (h : S.length < n) : ∃ j : Int, (0 ≤ j ∧ j < (n : Int)) ∧ j ∉ S := Classical.byContradiction fun hno => by
  have := nodup_leG (rngI_nodup 0 n) (q := S) fun j hj => Classical.byContradiction fun z => hno ⟨j, by have := (mem_rngI _ _ _).mp hj; omega, z⟩
  rw [rngI_len] at this
  omega
theorem Dn.all {S : List Int} (h : Dn n P S) (hl : S.length = n) : S.Perm (rngI 0 n) := nodup_perm h.nd (fun j hj => (mem_rngI _ _ _).mpr (by have := h.rg j hj; omega)) (by rw [rngI_len, hl]; exact Nat.le_refl _)
theorem flat_ge : ∀ {ds : List (List Int)}, (∀ d ∈ ds, d ≠ []) → ds.length ≤ ds.flatten.length
  | [], _ => Nat.le_refl _
  | d :: ds, h => by
    have := flat_ge fun x hx => h x (List.mem_cons_of_mem _ hx)
    have h2 := h d List.mem_cons_self
    rw [List.flatten_cons, List.length_append, List.length_cons]
    cases d with
    | nil => exact absurd rfl h2
    | cons => rw [List.length_cons]; omega
/-- the days of one plan do all jobs -/
structure Full (n : Nat) (P : List (Int × Int)) (b : Nat) (lv : Int → Int) (ds : List (List Int)) : Prop where
  hp : Hp n P b lv [] ds
  all : ds.flatten.Perm (rngI 0 n)
  pos : ∀ d ∈ ds, d ≠ []
  sd : ∀ d ∈ ds, d.Pairwise (· ≤ ·)
end
end DVS

namespace DVS
open PySem L2 DV DVL DVB
def ptI (b : Nat) (L : List Int) : List (List Int) := L.foldl (fun F x => F ++ (F.filter fun p => decide (p.length < b)).map fun p => p ++ [x]) [[]]
theorem pt_snoc (b : Nat) (L : List Int) (x : Int) : ptI b (L ++ [x]) = ptI b L ++ ((ptI b L).filter fun p => decide (p.length < b)).map fun p => p ++ [x] := by
  unfold ptI
  rw [List.foldl_append]
  rfl
theorem snoc_ind {Q : List Int → Prop} (h0 : Q []) (h1 : ∀ L x, Q L → Q (L ++ [x])) (L : List Int) : Q L := by
  have : ∀ k (L : List Int), L.length = k → Q L := fun k => by
    induction k with
    | zero => exact fun L h => by rw [List.length_eq_zero_iff.mp h]; exact h0
    | succ k ih =>
      intro L h
      rcases List.eq_nil_or_concat L with rfl | ⟨A, y, rfl⟩
      · exact h0
      · exact h1 A y (ih A (by rw [List.concat_eq_append, List.length_append, List.length_singleton] at h; omega)) |> fun z => by rw [List.concat_eq_append]; exact z
  exact this _ L rfl
theorem pt_sub (b : Nat) : ∀ L, ∀ p ∈ ptI b L, p.Sublist L ∧ p.length ≤ b := snoc_ind (fun p hp => by rw [List.mem_singleton.mp hp]; exact ⟨List.Sublist.refl _, Nat.zero_le _⟩) fun L x ih p hp => by
  rw [pt_snoc] at hp
  rcases List.mem_append.mp hp with z | z
  · exact ⟨(ih p z).1.trans (List.sublist_append_left _ _), (ih p z).2⟩
  · obtain ⟨q, hq, rfl⟩ := List.mem_map.mp z
    obtain ⟨h1, h2⟩ := List.mem_filter.mp hq
    refine ⟨(ih q h1).1.append (List.Sublist.refl _), ?_⟩
    rw [List.length_append, List.length_singleton]
    exact of_decide_eq_true h2
theorem pt_filter (b : Nat) (f : Int → Bool) : ∀ L, (L.filter f).length ≤ b → L.filter f ∈ ptI b L := snoc_ind (fun _ => List.mem_singleton.mpr rfl) fun L x ih h => by
  rw [pt_snoc]
  rw [List.filter_append] at h ⊢
  cases e : f x with
  | false =>
    rw [List.filter_cons_of_neg (by rw [e]; exact Bool.false_ne_true), List.filter_nil, List.append_nil] at h ⊢
    exact List.mem_append_left _ (ih h)
  | true =>
    rw [List.filter_cons_of_pos e, List.filter_nil] at h ⊢
    rw [List.length_append, List.length_singleton] at h
    exact List.mem_append_right _ (List.mem_map.mpr ⟨_, List.mem_filter.mpr ⟨ih (by omega), decide_eq_true (by omega)⟩, rfl⟩)
section
variable {n : Nat} {P : List (Int × Int)} {b : Nat}
theorem DayOk.same (G : Prs n P) {S K day : List Int} (h : DayOk n P b S day) (e : ∀ x, x ∈ S ↔ x ∈ K) : DayOk n P b K day :=
  ⟨fun j hj => by
    obtain ⟨h1, h2, h3⟩ := (mem_Ab G).mp (h.able j hj)
    exact (mem_Ab G).mpr ⟨h1, fun z => h2 ((e j).mpr z), fun p hp ep => (e _).mp (h3 p hp ep)⟩, h.nd, h.len⟩
theorem srt_app {A B C : List Int} (h : A.Perm B) : DV.sortI (A ++ C) = DV.sortI (B ++ C) := DVL.sortI_eq (h.append_right C)
/-- days that do all jobs -/
structure Cp (n : Nat) (P : List (Int × Int)) (b : Nat) (ds : List (List Int)) : Prop where
  pl : Pl n P b [] ds
  all : ds.flatten.Perm (rngI 0 n)
end
end DVS


namespace DVS
open PySem L2 DV DVL DVB
def fl (k : Int) (ds : List (List Int)) : List (Int × Int) := (enI k ds).flatMap fun q => q.2.map fun j => (j, q.1)
theorem fl_cons (k : Int) (d : List Int) (ds : List (List Int)) : fl k (d :: ds) = d.map (fun j => (j, k)) ++ fl (k + 1) ds := rfl
theorem fl_keys : ∀ (k : Int) (ds : List (List Int)), (fl k ds).map (·.1) = ds.flatten
  | k, [] => rfl
  | k, d :: ds => by
    rw [fl_cons, List.map_append, fl_keys (k + 1) ds, List.map_map, List.flatten_cons]
    congr 1
    exact List.map_id' d
theorem fl_app : ∀ (k : Int) (us vs : List (List Int)), fl k (us ++ vs) = fl k us ++ fl (k + (us.length : Nat)) vs
  | k, [], vs => by
    show fl k vs = fl (k + 0) vs
    rw [Int.add_zero]
  | k, d :: us, vs => by
    rw [List.cons_append, fl_cons, fl_cons, fl_app (k + 1) us vs, List.append_assoc, List.length_cons]
    congr 3
    omega
theorem fl_in {k : Int} {us vs : List (List Int)} {d : List Int} {j : Int} (h : j ∈ d) : (j, k + (us.length : Nat)) ∈ fl k (us ++ d :: vs) := by
  rw [fl_app, fl_cons]
  exact List.mem_append_right _ (List.mem_append_left _ (List.mem_map.mpr ⟨j, h, rfl⟩))
section
variable {n : Nat} {P : List (Int × Int)} {b : Nat} {ds : List (List Int)}
theorem pl_at : ∀ {us vs : List (List Int)} {d S : List Int}, Pl n P b S (us ++ d :: vs) → DayOk n P b (S ++ us.flatten) d
  | [], vs, d, S, h => by
    cases h with
    | cons h1 h2 => rw [List.flatten_nil, List.append_nil]; exact h1
  | u :: us, vs, d, S, h => by
    cases h with
    | cons h1 h2 => rw [List.flatten_cons, ← List.append_assoc]; exact pl_at h2
theorem in_day {ds : List (List Int)} {j : Int} (h : j ∈ ds.flatten) : ∃ us d vs, ds = us ++ d :: vs ∧ j ∈ d := by
  obtain ⟨d, hd, hj⟩ := List.mem_flatten.mp h
  obtain ⟨us, vs, e⟩ := List.append_of_mem hd
  exact ⟨us, d, vs, e, hj⟩
/-- each job behind those ahead of it -/
theorem Cp.lt (G : Prs n P) (C : Cp n P b ds) {p : Int × Int} (hp : p ∈ P) : ∃ a c : Int, (p.1, a) ∈ fl 0 ds ∧ (p.2, c) ∈ fl 0 ds ∧ a < c := by
  have hr := G.rg p hp
  obtain ⟨us, d, vs, e, hj⟩ := in_day (C.all.mem_iff.mpr ((mem_rngI p.2 0 n).mpr (by omega)))
  subst e
  have hd := pl_at C.pl
  rw [List.nil_append] at hd
  have h1 := ((mem_Ab G).mp (hd.able _ hj)).2.2 p hp rfl
  obtain ⟨us1, d1, vs1, e1, hj1⟩ := in_day h1
  subst e1
  refine ⟨0 + (us1.length : Nat), 0 + ((us1 ++ d1 :: vs1).length : Nat), ?_, fl_in hj, ?_⟩
  · rw [List.append_assoc, List.cons_append]
    exact fl_in hj1
  · rw [List.length_append, List.length_cons]
    omega
theorem Cp.keys (C : Cp n P b ds) : ((fl 0 ds).map (·.1)).Nodup := by
  rw [fl_keys]
  exact C.all.nodup_iff.mpr (rngI_nodup 0 n)
theorem Cp.day (C : Cp n P b ds) {d : List Int} (h : d ∈ ds) : d.length ≤ b ∧ ∀ j ∈ d, 0 ≤ j ∧ j < (n : Int) := by
  obtain ⟨us, vs, e⟩ := List.append_of_mem h
  have hd := pl_at (e ▸ C.pl)
  refine ⟨hd.len, fun j hj => ?_⟩
  have := (mem_rngI j 0 n).mp (C.all.mem_iff.mp (List.mem_flatten.mpr ⟨d, h, hj⟩))
  omega
end
end DVS

namespace DVS
open PySem L2 DV DVL DVB
section
variable {n : Nat} {ch : List Int}
variable {P : List (Int × Int)} {b : Nat} {lv : Int → Int}
/-- the bound by levels -/
def cntL (n : Nat) (lv : Int → Int) (L : Int) : Nat := (rem n lv [] L).length
structure Bd (n : Nat) (b : Nat) (lv : Int → Int) (F : Int) : Prop where
  ge : ∀ L : Nat, 1 ≤ cntL n lv L → (L : Int) + -(-(cntL n lv L : Int) / (b : Int)) ≤ F
  at_ : ∃ L : Nat, F = (L : Int) + -(-(cntL n lv L : Int) / (b : Int)) ∧ (1 ≤ cntL n lv L ∨ ∃ K : Nat, K + 1 = L ∧ 1 ≤ cntL n lv K)
theorem Bd.low (hb : 1 ≤ b) (G : Prs n P) (V : Lvl n P lv) {F : Int} (B : Bd n b lv F) {ds : List (List Int)} (C : Cp n P b ds) : F ≤ (ds.length : Int) := by
  obtain ⟨L, e, h⟩ := B.at_
  have hl := DVS.low G V ds [] Dn.nil C.pl fun j h0 h1 => by
    rw [List.nil_append]
    exact C.all.mem_iff.mpr ((mem_rngI _ _ _).mpr (by omega))
  have hL := hl L
  have pos : ∀ K : Nat, 1 ≤ cntL n lv K → K < ds.length := fun K hK => Nat.lt_of_not_le fun hc => by
    have := (hl K).2 hc
    unfold cntL at hK
    rw [this] at hK
    exact absurd hK (by decide)
  have hLd : L ≤ ds.length := by
    rcases h with h | ⟨K, e2, h⟩
    · exact Nat.le_of_lt (pos L h)
    · have := pos K h; omega
  have h1 : (cntL n lv L : Int) ≤ (b : Int) * ((ds.length : Int) - (L : Int)) := by
    have h2 : cntL n lv L ≤ b * (ds.length - L) := hL.1
    have h3 : ((b * (ds.length - L) : Nat) : Int) = (b : Int) * ((ds.length : Int) - (L : Int)) := by
      rw [Int.natCast_mul, Int.natCast_sub hLd]
    omega
  have h4 : -((ds.length : Int) - (L : Int)) ≤ -(cntL n lv L : Int) / (b : Int) := by
    rw [Int.le_ediv_iff_mul_le (by omega), Int.neg_mul, Int.mul_comm]
    omega
  omega
theorem Bd.up (hb : 1 ≤ b) (G : Prs n P) (T : Tree P) (V : Lvl n P lv) {F : Int} (B : Bd n b lv F) {ds : List (List Int)} (H : Full n P b lv ds) (hn : 1 ≤ n) : (ds.length : Int) ≤ F := by
  rcases List.eq_nil_or_concat ds with e | ⟨us, d, e⟩
  · have := H.all.length_eq
    rw [e, rngI_len] at this
    rw [← this] at hn
    exact absurd hn (by decide)
  · rw [List.concat_eq_append] at e
    subst e
    have hd := H.pos d (by simp)
    obtain ⟨j, hj⟩ := List.exists_mem_of_ne_nil d hd
    have hnd := H.all.nodup_iff.mpr (rngI_nodup 0 n)
    rw [List.flatten_append, List.flatten_cons, List.flatten_nil, List.append_nil] at hnd
    have hjr := (mem_rngI j 0 n).mp (H.all.mem_iff.mp (List.mem_flatten.mpr ⟨d, by simp, hj⟩))
    have hjr : 0 ≤ j ∧ j < (n : Int) := by omega
    have hno : j ∉ us.flatten := fun z => (List.nodup_append.mp hnd).2.2 j z j hj rfl
    have := DVS.up G T V hb (F := F) (fun L c hc h1 k hk => by
      have h2 := B.ge L (by unfold cntL; omega)
      have h3 : -(cntL n lv L : Int) / (b : Int) < -(k : Int) := by
        rw [Int.ediv_lt_iff_lt_mul (by omega), Int.neg_mul]
        have h4 : ((b * k : Nat) : Int) = (k : Int) * (b : Int) := by rw [Int.natCast_mul, Int.mul_comm]
        have h5 : c ≤ cntL n lv L := hc
        omega
      omega) us.length us rfl H.hp.split.1 j hjr hno
    have h1 := V.ge j hjr.1 hjr.2
    rw [List.length_append, List.length_singleton]
    omega
theorem Full.le (hn : n ≤ 10) {ds : List (List Int)} (H : Full n P b lv ds) : ds.length ≤ 10 := by
  have h1 := flat_ge H.pos
  have h2 := H.all.length_eq
  rw [rngI_len] at h2
  omega
end
end DVS

namespace DVS
open PySem L2 DV DVL DVB
/-- the parts of so many -/
def fdI (b : Nat) (A : List Int) : List (List Int) := (ptI (min A.length b) A).filter fun p => decide (p.length = min A.length b)
theorem mem_fdI {b : Nat} {A p : List Int} (h : p ∈ fdI b A) : p.Sublist A ∧ p.length = min A.length b := by
  unfold fdI at h
  rw [List.mem_filter, decide_eq_true_eq] at h
  exact ⟨(pt_sub _ _ _ h.1).1, h.2⟩
theorem sub_filter {A p : List Int} (nd : A.Nodup) (h : p.Sublist A) : A.filter (fun j => p.elem j) = p := by
  induction h with
  | slnil => rfl
  | @cons l1 l2 a hs ih =>
    rw [List.nodup_cons] at nd
    have h1 : (l1.elem a) = false := by
      cases e : l1.elem a with
      | false => rfl
      | true => exact absurd (hs.mem (List.mem_of_elem_eq_true e)) nd.1
    rw [List.filter_cons_of_neg (by rw [h1]; exact Bool.false_ne_true)]
    exact ih nd.2
  | @cons_cons l1 l2 a hs ih =>
    rw [List.nodup_cons] at nd
    have h1 : ((a :: l1).elem a) = true := List.elem_eq_true_of_mem List.mem_cons_self
    rw [List.filter_cons_of_pos (p := fun j => (a :: l1).elem j) h1]
    congr 1
    refine Eq.trans (List.filter_congr fun j hj => ?_) (ih nd.2)
    have hne : j ≠ a := fun e => nd.1 (e ▸ hj)
    rw [Bool.eq_iff_iff, List.elem_iff, List.elem_iff, List.mem_cons]
    exact ⟨fun z => z.elim (fun z => absurd z hne) id, .inr⟩
theorem in_fdI {b : Nat} {A p : List Int} (nd : A.Nodup) (h : p.Sublist A) (hl : p.length = min A.length b) : p ∈ fdI b A := by
  unfold fdI
  rw [List.mem_filter, decide_eq_true_eq]
  refine ⟨?_, hl⟩
  have := pt_filter (min A.length b) (fun j => p.elem j) A (by rw [sub_filter nd h]; omega)
  rwa [sub_filter nd h] at this
/-- a part made larger -/
theorem sub_more : ∀ {A c : List Int} {m : Nat}, c.Sublist A → c.length ≤ m → m ≤ A.length → ∃ d : List Int, d.Sublist A ∧ (∀ x ∈ c, x ∈ d) ∧ d.length = m := by
  intro A
  induction A with
  | nil =>
    intro c m hs hc hm
    exact ⟨[], List.Sublist.refl _, fun x hx => hs.mem hx, by simp at hm; exact hm.symm⟩
  | cons a A ih =>
    intro c m hs hc hm
    rw [List.length_cons] at hm
    cases hs with
    | cons _ h =>
      by_cases e : m ≤ A.length
      · obtain ⟨d, d1, d2, d3⟩ := ih h hc e
        exact ⟨d, d1.cons a, d2, d3⟩
      · exact ⟨a :: A, List.Sublist.refl _, fun x hx => List.mem_cons_of_mem _ (h.mem hx), by rw [List.length_cons]; omega⟩
    | cons_cons _ h =>
      rename_i c'
      rw [List.length_cons] at hc
      obtain ⟨d, d1, d2, d3⟩ := ih h (m := m - 1) (by omega) (by omega)
      refine ⟨a :: d, d1.cons_cons a, fun x hx => ?_, by rw [List.length_cons]; omega⟩
      rcases List.mem_cons.mp hx with z | z
      · rw [z]; exact List.mem_cons_self
      · exact List.mem_cons_of_mem _ (d2 x z)
/-- days that are full each -/
inductive Fp (n : Nat) (P : List (Int × Int)) (b : Nat) : List Int → List (List Int) → Prop
  | nil {S : List Int} : Fp n P b S []
  | cons {S day : List Int} {ds : List (List Int)} : day ∈ fdI b (Ab P n S) → Fp n P b (S ++ day) ds → Fp n P b S (day :: ds)
section
variable {n : Nat} {P : List (Int × Int)} {b : Nat}
theorem fd_ok {S day : List Int} (h : day ∈ fdI b (Ab P n S)) : DayOk n P b S day := by
  obtain ⟨h1, h2⟩ := mem_fdI h
  exact ⟨fun j hj => h1.mem hj, (Ab_nodup P n S).sublist h1, by omega⟩
theorem Fp.pl : ∀ {ds : List (List Int)} {S : List Int}, Fp n P b S ds → Pl n P b S ds
  | [], _, _ => .nil
  | _ :: _, _, h => by
    cases h with
    | cons h1 h2 => exact .cons (fd_ok h1) h2.pl
/-- full days are no more than any days -/
theorem full_le (G : Prs n P) : ∀ (ds : List (List Int)) (S S' : List Int), Dn n P S → Dn n P S' → (∀ x ∈ S, x ∈ S') → Pl n P b S ds → (∀ j, 0 ≤ j → j < (n : Int) → j ∈ S ++ ds.flatten) → ∃ es : List (List Int), Fp n P b S' es ∧ es.length ≤ ds.length ∧ ∀ j, 0 ≤ j → j < (n : Int) → j ∈ S' ++ es.flatten
  | [], S, S', hS, hS', hss, hp, hf => by
    refine ⟨[], .nil, Nat.le_refl _, fun j h0 h1 => ?_⟩
    have := hf j h0 h1
    rw [List.flatten_nil, List.append_nil] at this
    exact List.mem_append_left _ (hss j this)
  | d :: ds, S, S', hS, hS', hss, hp, hf => by
    cases hp with
    | cons h1 h2 =>
      have hc := sub_filter (A := Ab P n S') (Ab_nodup P n S') (p := (Ab P n S').filter fun j => d.elem j) List.filter_sublist
      have hcs : ((Ab P n S').filter fun j => d.elem j).Sublist (Ab P n S') := List.filter_sublist
      have hcl : ((Ab P n S').filter fun j => d.elem j).length ≤ min (Ab P n S').length b := by
        have a := hcs.length_le
        have c := nodup_leG ((Ab_nodup P n S').sublist hcs) (q := d) fun x hx => List.mem_of_elem_eq_true (List.mem_filter.mp hx).2
        have := h1.len
        omega
      obtain ⟨d', d1, d2, d3⟩ := sub_more hcs hcl (Nat.min_le_left ..)
      have hd' := in_fdI (b := b) (Ab_nodup P n S') d1 d3
      have hcov : ∀ x ∈ S ++ d, x ∈ S' ++ d' := fun x hx => by
        rcases List.mem_append.mp hx with z | z
        · exact List.mem_append_left _ (hss x z)
        · by_cases e : x ∈ S'
          · exact List.mem_append_left _ e
          · obtain ⟨a, _, c⟩ := (mem_Ab G).mp (h1.able x z)
            exact List.mem_append_right _ (d2 x (List.mem_filter.mpr ⟨(mem_Ab G).mpr ⟨a, e, fun p hp ep => hss _ (c p hp ep)⟩, List.elem_eq_true_of_mem z⟩))
      obtain ⟨es, e1, e2, e3⟩ := full_le G ds (S ++ d) (S' ++ d') (hS.add G h1) (hS'.add G (fd_ok hd')) hcov h2 fun j h0 h1 => by
        have := hf j h0 h1
        rwa [List.flatten_cons, ← List.append_assoc] at this
      refine ⟨d' :: es, .cons hd' e1, by rw [List.length_cons, List.length_cons]; omega, fun j h0 h1 => ?_⟩
      rw [List.flatten_cons, ← List.append_assoc]
      exact e3 j h0 h1
/-- full days that do all jobs -/
structure Fc (n : Nat) (P : List (Int × Int)) (b : Nat) (ds : List (List Int)) : Prop where
  fp : Fp n P b [] ds
  all : ds.flatten.Perm (rngI 0 n)
theorem Cp.full (G : Prs n P) {ds : List (List Int)} (C : Cp n P b ds) : ∃ es, Fc n P b es ∧ es.length ≤ ds.length := by
  obtain ⟨es, e1, e2, e3⟩ := full_le G ds [] [] Dn.nil Dn.nil (fun x hx => hx) C.pl fun j h0 h1 => by
    rw [List.nil_append]
    exact C.all.mem_iff.mpr ((mem_rngI _ _ _).mpr (by omega))
  have hD := Dn.pl G (b := b) (Dn.nil (n := n) (P := P)) e1.pl
  rw [List.nil_append] at hD e3
  exact ⟨es, ⟨e1, nodup_perm hD.nd (fun j hj => (mem_rngI _ _ _).mpr (by have := hD.rg j hj; omega)) (nodup_leG (rngI_nodup 0 n) fun j hj => by have := (mem_rngI _ _ _).mp hj; exact e3 j (by omega) (by omega))⟩, e2⟩
end
end DVS


namespace DVS
open PySem L2 DV DVL DVB
/-- what days behind others tell: the day less the due day -/
def latL (du : List Int) (k : Int) (d : List Int) : List Int := d.map fun j => k - val du j
def LL (du : List Int) (ds : List (List Int)) : List Int := (fl 1 ds).map fun q => q.2 - val du q.1
theorem LL_snoc {du : List Int} {ds : List (List Int)} {d : List Int} : LL du (ds ++ [d]) = LL du ds ++ latL du ((ds.length : Nat) + 1) d := by
  unfold LL latL
  rw [fl_app, List.map_append]
  congr 1
  rw [show fl (1 + (ds.length : Nat)) [d] = d.map (fun j => (j, 1 + ((ds.length : Nat) : Int))) ++ [] from rfl, List.append_nil, List.map_map]
  refine List.map_congr_left fun j _ => ?_
  show 1 + ((ds.length : Nat) : Int) - val du j = _
  omega
def MxL (L : List Int) (m : Int) : Prop := m ∈ L ∧ ∀ x ∈ L, x ≤ m
/-- days by a choice of each -/
inductive Pc (C : List Int → List (List Int)) : List Int → List (List Int) → Prop
  | nil {S : List Int} : Pc C S []
  | cons {S day : List Int} {ds : List (List Int)} : day ∈ C S → Pc C (S ++ day) ds → Pc C S (day :: ds)
theorem pc_snoc {C : List Int → List (List Int)} {day : List Int} : ∀ {ds : List (List Int)} {S : List Int}, Pc C S (ds ++ [day]) ↔ Pc C S ds ∧ day ∈ C (S ++ ds.flatten)
  | [], S => by
    rw [List.flatten_nil, List.append_nil, List.nil_append]
    exact ⟨fun h => by cases h with | cons h1 h2 => exact ⟨.nil, h1⟩, fun h => .cons h.2 .nil⟩
  | d :: ds, S => by
    rw [List.cons_append, List.flatten_cons, ← List.append_assoc]
    constructor
    · intro h
      cases h with
      | cons h1 h2 =>
        obtain ⟨a, c⟩ := pc_snoc.mp h2
        exact ⟨.cons h1 a, c⟩
    · rintro ⟨h, c⟩
      cases h with
      | cons h1 h2 => exact .cons h1 (pc_snoc.mpr ⟨h2, c⟩)
theorem pc_app {C : List Int → List (List Int)} : ∀ {us vs : List (List Int)} {S : List Int}, Pc C S (us ++ vs) → Pc C S us ∧ Pc C (S ++ us.flatten) vs
  | [], vs, S, h => by rw [List.flatten_nil, List.append_nil]; exact ⟨.nil, h⟩
  | d :: us, vs, S, h => by
    cases h with
    | cons h1 h2 =>
      obtain ⟨a, c⟩ := pc_app h2
      rw [List.flatten_cons, ← List.append_assoc]
      exact ⟨.cons h1 a, c⟩
section
variable {n : Nat} {C : List Int → List (List Int)} {du B0 : List Int} {ρ : Type} {lt : ρ → Option Int} {W : ρ → List (List Int) → Prop}
/-- the value held behind days -/
def LateIs (B0 du : List Int) (ds : List (List Int)) : Option Int → Prop
  | none => ds = []
  | some x => MxL (B0 ++ LL du ds) x
def LB (B0 : List Int) : Option Int → List Int
  | none => B0
  | some x => [x]
theorem late_next {ds : List (List Int)} {d : List Int} {l : Option Int} {y : Int} (h : LateIs B0 du ds l) (m : MxL (LB B0 l ++ latL du ((ds.length : Nat) + 1) d) y) : MxL (B0 ++ LL du (ds ++ [d])) y := by
  obtain ⟨m1, m2⟩ := m
  rw [LL_snoc, ← List.append_assoc]
  cases l with
  | none =>
    have h : ds = [] := h
    subst h
    have e : B0 ++ LL du [] = B0 := List.append_nil B0
    rw [e]
    exact ⟨m1, m2⟩
  | some x =>
    obtain ⟨h1, h2⟩ := (show MxL (B0 ++ LL du ds) x from h)
    refine ⟨?_, fun z hz => ?_⟩
    · rcases List.mem_append.mp m1 with z | z
      · rw [List.mem_singleton.mp z]
        exact List.mem_append_left _ h1
      · exact List.mem_append_right _ z
    · rcases List.mem_append.mp hz with q | q
      · have a := h2 z q
        have b := m2 x (List.mem_append_left _ (List.mem_singleton.mpr rfl))
        omega
      · exact m2 z (List.mem_append_right _ q)
/-- what is said of a row: its key, its value -/
structure Row (n : Nat) (C : List Int → List (List Int)) (du B0 : List Int) (lt : ρ → Option Int) (W : ρ → List (List Int) → Prop) (t : Nat) (o : List Int × ρ) (ds : List (List Int)) : Prop where
  pc : Pc C [] ds
  len : ds.length = t
  key : o.1 = DV.sortI ds.flatten
  late : LateIs B0 du ds (lt o.2)
  w : W o.2 ds
/-- the rows of a turn -/
structure Rw (n : Nat) (C : List Int → List (List Int)) (du B0 : List Int) (lt : ρ → Option Int) (W : ρ → List (List Int) → Prop) (t : Nat) (M : List (List Int × ρ)) : Prop where
  uq : Uq M
  ok : ∀ e ∈ M, (∃ ds, Row n C du B0 lt W t e ds) ∧ e.1.length < n
  cov : ∀ ds, Pc C [] ds → ds.length = t → ds.flatten.length < n → ∃ e ∈ M, e.1 = DV.sortI ds.flatten ∧ ∀ x, lt e.2 = some x → ∃ y ∈ B0 ++ LL du ds, x ≤ y
/-- the best row of all jobs -/
structure Bs (n : Nat) (C : List Int → List (List Int)) (du B0 : List Int) (lt : ρ → Option Int) (W : ρ → List (List Int) → Prop) (t u : Nat) (best : Option ρ) : Prop where
  ok : ∀ x, best = some x → ∃ (k : Nat) (ds : List (List Int)), k ≤ u ∧ Pc C [] ds ∧ ds.length = k ∧ ds.flatten.length = n ∧ (∃ y, lt x = some y ∧ MxL (B0 ++ LL du ds) y) ∧ W x ds
  cov : ∀ ds, Pc C [] ds → ds.flatten.length = n → ds.length ≤ t → ∃ x y, best = some x ∧ lt x = some y ∧ ∃ z ∈ B0 ++ LL du ds, y ≤ z
def leR (lt : ρ → Option Int) (a b : ρ) : Prop := (lt a).getD 0 ≤ (lt b).getD 0
/-- within a turn: what was offered -/
structure In (n : Nat) (C : List Int → List (List Int)) (du B0 : List Int) (lt : ρ → Option Int) (W : ρ → List (List Int) → Prop) (t : Nat) (dn dc N : List (List Int × ρ)) (best : Option ρ) : Prop where
  ut : UT (leR lt) dn N
  ok : ∀ o ∈ dn, (∃ ds, Row n C du B0 lt W (t + 1) o ds) ∧ o.1.length < n ∧ (lt o.2).isSome = true
  bs : Bs n C du B0 lt W t (t + 1) best
  cc : ∀ o ∈ dc, o.1.length = n ∧ (lt o.2).isSome = true ∧ ∃ x, best = some x ∧ leR lt x o.2
  ob : ∀ x, best = some x → (lt x).isSome = true
/-- an offer of a row by a day -/
def Off (du B0 : List Int) (lt : ρ → Option Int) (t : Nat) (e o : List Int × ρ) (day : List Int) : Prop :=
  o.1 = DV.sortI (e.1 ++ day) ∧ ∃ y, lt o.2 = some y ∧ MxL (LB B0 (lt e.2) ++ latL du ((t : Nat) + 1) day) y
theorem Off.row (hC : ∀ S K, (∀ x, x ∈ S ↔ x ∈ K) → C S = C K) {t : Nat} {e o : List Int × ρ} {day : List Int} {ds : List (List Int)} (R : Row n C du B0 lt W t e ds) (h : Off du B0 lt t e o day) (hd : day ∈ C e.1) (hw : W o.2 (ds ++ [day])) : Row n C du B0 lt W (t + 1) o (ds ++ [day]) := by
  obtain ⟨h1, y, h2, h3⟩ := h
  have ep := DV.sortI_perm ds.flatten
  have hA : C e.1 = C ds.flatten := hC _ _ fun x => by rw [R.key]; exact ep.mem_iff
  refine ⟨pc_snoc.mpr ⟨R.pc, by rw [List.nil_append, ← hA]; exact hd⟩, by rw [List.length_append, List.length_singleton, R.len], ?_, ?_, hw⟩
  · rw [h1, R.key, srt_app ep, List.flatten_append, List.flatten_cons, List.flatten_nil, List.append_nil]
  · rw [h2]
    refine late_next R.late ?_
    rw [R.len]
    exact h3
theorem In.first {t : Nat} {best : Option ρ} (B : Bs n C du B0 lt W t t best) : In n C du B0 lt W t [] [] [] best :=
  ⟨UT.nil, fun _ h => (nomatch h), ⟨fun x hx => by
    obtain ⟨k, ds, h1, h2⟩ := B.ok x hx
    exact ⟨k, ds, by omega, h2⟩, B.cov⟩, fun _ h => (nomatch h), fun x hx => by
    obtain ⟨_, _, _, _, _, _, ⟨y, h, _⟩, _⟩ := B.ok x hx
    rw [h]; rfl⟩
theorem leR_tr (lt : ρ → Option Int) (a b c : ρ) (h1 : leR lt a b) (h2 : leR lt b c) : leR lt a c := by unfold leR at *; omega
theorem leR_rf (lt : ρ → Option Int) (a : ρ) : leR lt a a := Int.le_refl _
theorem In.put {t : Nat} {dn dc N : List (List Int × ρ)} {best : Option ρ} (I : In n C du B0 lt W t dn dc N best) {o : List Int × ρ} {ds : List (List Int)} (R : Row n C du B0 lt W (t + 1) o ds) (hs : (lt o.2).isSome = true) (hl : o.1.length < n)
    (h : ∀ b, getA N o.1 = some b → leR lt o.2 b) : In n C du B0 lt W t (dn ++ [o]) dc (putA N o.1 o.2) best :=
  ⟨I.ut.put (leR_tr lt) (leR_rf lt) h, fun q hq => (List.mem_append.mp hq).elim (I.ok q) fun z => by rw [List.mem_singleton.mp z]; exact ⟨⟨ds, R⟩, hl, hs⟩, I.bs, I.cc, I.ob⟩
theorem In.skip {t : Nat} {dn dc N : List (List Int × ρ)} {best : Option ρ} (I : In n C du B0 lt W t dn dc N best) {o : List Int × ρ} {ds : List (List Int)} {b : ρ} (R : Row n C du B0 lt W (t + 1) o ds) (hs : (lt o.2).isSome = true) (hl : o.1.length < n)
    (h : getA N o.1 = some b) (hle : leR lt b o.2) : In n C du B0 lt W t (dn ++ [o]) dc N best :=
  ⟨I.ut.skip h hle, fun q hq => (List.mem_append.mp hq).elim (I.ok q) fun z => by rw [List.mem_singleton.mp z]; exact ⟨⟨ds, R⟩, hl, hs⟩, I.bs, I.cc, I.ob⟩
/-- a row of all jobs -/
theorem In.best {t : Nat} {dn dc N : List (List Int × ρ)} {best : Option ρ} (I : In n C du B0 lt W t dn dc N best) {o : List Int × ρ} {ds : List (List Int)} (R : Row n C du B0 lt W (t + 1) o ds) {y : Int} (hs : lt o.2 = some y) (hl : o.1.length = n)
    {new : Option ρ} (h : (new = some o.2 ∧ ∀ x, best = some x → leR lt o.2 x) ∨ (∃ x, best = some x ∧ new = best ∧ leR lt x o.2)) : In n C du B0 lt W t dn (dc ++ [o]) N new := by
  have hfl : ds.flatten.length = n := by rw [← hl, R.key]; exact (DV.sortI_perm _).length_eq.symm
  rcases h with ⟨h1, h2⟩ | ⟨x, h1, h2, h3⟩
  · refine ⟨I.ut, I.ok, ⟨fun x hx => ?_, fun ds2 p1 p2 p3 => ?_⟩, fun q hq => ?_, fun x hx => ?_⟩
    · rw [h1] at hx
      cases hx
      have := R.late
      rw [hs] at this
      exact ⟨t + 1, ds, Nat.le_refl _, R.pc, R.len, hfl, ⟨y, hs, this⟩, R.w⟩
    · obtain ⟨x, v, e1, e2, z, hz, hv⟩ := I.bs.cov ds2 p1 p2 p3
      have := h2 x e1
      unfold leR at this
      rw [hs, e2] at this
      exact ⟨o.2, y, h1, hs, z, hz, by have : y ≤ v := this; omega⟩
    · rcases List.mem_append.mp hq with z | z
      · obtain ⟨a, b, x, e1, e2⟩ := I.cc q z
        exact ⟨a, b, o.2, h1, leR_tr lt _ _ _ (h2 x e1) e2⟩
      · rw [List.mem_singleton.mp z]
        exact ⟨hl, by rw [hs]; rfl, o.2, h1, leR_rf lt _⟩
    · rw [h1] at hx
      cases hx
      rw [hs]; rfl
  · subst h2
    refine ⟨I.ut, I.ok, I.bs, fun q hq => ?_, I.ob⟩
    rcases List.mem_append.mp hq with z | z
    · exact I.cc q z
    · rw [List.mem_singleton.mp z]
      exact ⟨hl, by rw [hs]; rfl, x, h1, h3⟩
/-- an offer that was made -/
def Had (du B0 : List Int) (lt : ρ → Option Int) (t : Nat) (dn dc : List (List Int × ρ)) (e : List Int × ρ) (day : List Int) : Prop := ∃ o, (o ∈ dn ∨ o ∈ dc) ∧ Off du B0 lt t e o day
theorem Had.more {t : Nat} {dn dc dn2 dc2 : List (List Int × ρ)} {e : List Int × ρ} {day : List Int} (h : Had du B0 lt t dn dc e day) : Had du B0 lt t (dn ++ dn2) (dc ++ dc2) e day := by
  obtain ⟨o, h1, h2⟩ := h
  exact ⟨o, h1.imp (List.mem_append_left _) (List.mem_append_left _), h2⟩
theorem mx_low {t : Nat} {e : List Int × ρ} {us ds : List (List Int)} {day : List Int} {y : Int} (hl : us.length = t) (R : Row n C du B0 lt W t e ds) (h : ∀ x, lt e.2 = some x → ∃ y ∈ B0 ++ LL du us, x ≤ y) (m : MxL (LB B0 (lt e.2) ++ latL du ((t : Nat) + 1) day) y) : ∃ z ∈ B0 ++ LL du (us ++ [day]), y ≤ z := by
  rw [LL_snoc, hl, ← List.append_assoc]
  rcases List.mem_append.mp m.1 with q | q
  · cases e1 : lt e.2 with
    | none =>
      rw [e1] at q
      exact ⟨y, List.mem_append_left _ (List.mem_append_left _ q), Int.le_refl _⟩
    | some x =>
      rw [e1] at q
      obtain ⟨z, hz, h2⟩ := h x e1
      exact ⟨z, List.mem_append_left _ hz, by rw [List.mem_singleton.mp q]; exact h2⟩
  · exact ⟨y, List.mem_append_right _ q, Int.le_refl _⟩
theorem In.fin (hC : ∀ S K, (∀ x, x ∈ S ↔ x ∈ K) → C S = C K) (hne : ∀ us day, Pc C [] us → us.flatten.length = n → day ∈ C us.flatten → day = []) (hmax : ∀ ds, Pc C [] ds → ds.flatten.length ≤ n) {t : Nat} {M dn dc N : List (List Int × ρ)} {best : Option ρ} (Q : Rw n C du B0 lt W t M) (I : In n C du B0 lt W t dn dc N best) (hall : ∀ e ∈ M, ∀ day ∈ C e.1, Had du B0 lt t dn dc e day) :
    Rw n C du B0 lt W (t + 1) N ∧ Bs n C du B0 lt W (t + 1) (t + 1) best := by
  have main : ∀ us day, Pc C [] (us ++ [day]) → us.length = t → us.flatten.length < n → ∃ o, (o ∈ dn ∨ o ∈ dc) ∧ o.1 = DV.sortI (us ++ [day]).flatten ∧ ∃ y, lt o.2 = some y ∧ ∃ z ∈ B0 ++ LL du (us ++ [day]), y ≤ z := fun us day p l h => by
    obtain ⟨p1, p2⟩ := pc_snoc.mp p
    rw [List.nil_append] at p2
    obtain ⟨e, he, ek, ev⟩ := Q.cov us p1 l h
    have ep := DV.sortI_perm us.flatten
    have hA : C e.1 = C us.flatten := hC _ _ fun x => by rw [ek]; exact ep.mem_iff
    obtain ⟨o, ho, h1, y, h2, h3⟩ := hall e he day (by rw [hA]; exact p2)
    obtain ⟨ds, R⟩ := (Q.ok e he).1
    exact ⟨o, ho, by rw [h1, ek, srt_app ep, List.flatten_append, List.flatten_cons, List.flatten_nil, List.append_nil], y, h2, mx_low l R ev h3⟩
  refine ⟨⟨I.ut.uq, fun e he => ⟨(I.ok e (I.ut.sub e he)).1, (I.ok e (I.ut.sub e he)).2.1⟩, fun ds p l h => ?_⟩, ⟨I.bs.ok, fun ds p h l => ?_⟩⟩
  · rcases List.eq_nil_or_concat ds with rfl | ⟨us, day, rfl⟩
    · cases l
    · rw [List.concat_eq_append] at *
      rw [List.length_append, List.length_singleton] at l
      have hf : us.flatten.length < n := by
        rw [List.flatten_append, List.length_append] at h
        omega
      obtain ⟨o, ho, ek, y, ey, z, hz, hyz⟩ := main us day p (by omega) hf
      have hol : o.1.length < n := by rw [ek, (DV.sortI_perm _).length_eq]; exact h
      rcases ho with ho | ho
      · obtain ⟨b, g1, g2⟩ := I.ut.all o ho
        refine ⟨(o.1, b), getA_mem g1, ek, fun x hx => ⟨z, hz, ?_⟩⟩
        unfold leR at g2
        rw [ey] at g2
        have hx : lt b = some x := hx
        rw [hx] at g2
        have g2 : x ≤ y := g2
        omega
      · have := (I.cc o ho).1
        omega
  · by_cases hl : ds.length ≤ t
    · exact I.bs.cov ds p h hl
    · rcases List.eq_nil_or_concat ds with rfl | ⟨us, day, rfl⟩
      · exact absurd (Nat.zero_le t) hl
      · rw [List.concat_eq_append] at *
        rw [List.length_append, List.length_singleton] at l hl
        by_cases hf : us.flatten.length < n
        · obtain ⟨o, ho, ek, y, ey, z, hz, hyz⟩ := main us day p (by omega) hf
          have hol : o.1.length = n := by rw [ek, (DV.sortI_perm _).length_eq]; exact h
          rcases ho with ho | ho
          · have := (I.ok o ho).2.1
            omega
          · obtain ⟨_, _, x, e1, e2⟩ := I.cc o ho
            have hx := I.ob x e1
            cases e3 : lt x with
            | none => rw [e3] at hx; cases hx
            | some v =>
              unfold leR at e2
              rw [e3, ey] at e2
              have e2 : v ≤ y := e2
              exact ⟨x, v, e1, e3, z, hz, by omega⟩
        · obtain ⟨p1, p2⟩ := pc_snoc.mp p
          rw [List.nil_append] at p2
          have hfl : us.flatten.length = n := by
            have := hmax us p1
            omega
          have hd := hne us day p1 hfl p2
          subst hd
          obtain ⟨x, y, e1, e2, z, hz, hyz⟩ := I.bs.cov us p1 hfl (by omega)
          exact ⟨x, y, e1, e2, z, by rw [LL_snoc]; rw [show latL du ((us.length : Nat) + 1) [] = [] from rfl, List.append_nil]; exact hz, hyz⟩
/-- no rows are left: the best is the best of all -/
theorem Bs.out (hmax : ∀ ds, Pc C [] ds → ds.flatten.length ≤ n) (hne : ∀ us day, Pc C [] us → us.flatten.length = n → day ∈ C us.flatten → day = []) {t u : Nat} {best : Option ρ} (Q : Rw n C du B0 lt W t []) (B : Bs n C du B0 lt W t u best) : ∀ ds, Pc C [] ds → ds.flatten.length = n → ∃ x y, best = some x ∧ lt x = some y ∧ ∃ z ∈ B0 ++ LL du ds, y ≤ z := by
  have go : ∀ (k : Nat) (ds : List (List Int)), ds.length = k → Pc C [] ds → ds.flatten.length = n → ∃ x y, best = some x ∧ lt x = some y ∧ ∃ z ∈ B0 ++ LL du ds, y ≤ z := fun k => by
    induction k with
    | zero => exact fun ds l p h => B.cov ds p h (by omega)
    | succ k ih =>
      intro ds l p h
      by_cases hl : ds.length ≤ t
      · exact B.cov ds p h hl
      · rcases List.eq_nil_or_concat ds with rfl | ⟨us, day, rfl⟩
        · cases l
        · rw [List.concat_eq_append] at *
          obtain ⟨p1, p2⟩ := pc_snoc.mp p
          rw [List.nil_append] at p2
          rw [List.length_append, List.length_singleton] at l hl
          by_cases hf : us.flatten.length < n
          · have hu : us = us.take t ++ us.drop t := (List.take_append_drop t us).symm
            have ht : (us.take t).length = t := by rw [List.length_take]; omega
            have p3 := p1
            rw [hu] at p3
            have hfl : (us.take t).flatten.length < n := by
              have := congrArg (fun l : List (List Int) => l.flatten.length) hu
              simp only [List.flatten_append, List.length_append] at this
              omega
            obtain ⟨e, he, _⟩ := Q.cov _ (pc_app p3).1 ht hfl
            cases he
          · have hfl : us.flatten.length = n := by
              have := hmax us p1
              omega
            have hd := hne us day p1 hfl p2
            subst hd
            obtain ⟨x, y, e1, e2, z, hz, hyz⟩ := ih us (by omega) p1 hfl
            exact ⟨x, y, e1, e2, z, by rw [LL_snoc]; rw [show latL du ((us.length : Nat) + 1) [] = [] from rfl, List.append_nil]; exact hz, hyz⟩
  exact fun ds p h => go _ ds rfl p h
end
end DVS

namespace DVL
open PySem L2 DV
local macro_rules
  | `(tactic| get_elem_tactic_trivial) => `(tactic| first
    | (simp only [List.set_cons_succ, List.set_cons_zero, DV.startE, DV.lawE, DV.toK, DV.lockE, DV.wipeE, List.map_cons, List.map_nil, List.length_cons, List.length_nil, List.replicate_zero, List.replicate_succ, Nat.reduceSub, Nat.reduceAdd, List.append_nil, List.cons_append, List.nil_append]; rfl)
    | exact rfl)
local macro_rules
  | `(tactic| infer_instance) => `(tactic| first
    | with_reducible refine DV.w_cons ?_
    | with_reducible refine DV.w_var (by with_unfolding_all exact rfl) ?_
    | with_reducible refine DV.w_c ?_
    | with_reducible refine DV.w_nil ?_
    | with_reducible refine DV.w_e2 ?_
    | with_reducible refine DV.w_seq ?_
    | with_reducible refine DV.w_seqN ?_
    | with_reducible refine DV.w_seqR ?_
    | with_reducible refine DV.w_seqB ?_
    | with_reducible refine DV.w_seqC ?_
    | with_reducible refine DV.w_call ?_
    | with_reducible refine DV.w_fn ?_
    | with_reducible refine DV.w_f1 ?_
    | with_reducible refine DV.w_f2 ?_
    | with_reducible refine DV.w_f3 ?_
    | with_reducible refine DV.w_f4 ?_
    | with_reducible refine DV.w_f5 ?_
    | with_reducible refine DV.w_f6 ?_
    | with_reducible refine DV.w_set ?_
    | with_reducible refine DV.w_setApp ?_
    | with_reducible refine DV.w_setX (by with_unfolding_all exact rfl) (by with_unfolding_all (simp only [List.set_cons_succ, List.set_cons_zero]; rfl)) ?_
    | with_reducible refine DV.w_rt ?_
    | with_reducible refine DV.w_rtD ?_
    | with_reducible refine DV.w_rtN ?_
    | with_reducible refine DV.w_rtV (by with_unfolding_all exact rfl) ?_
    | with_reducible refine DV.w_if ?_
    | with_reducible refine DV.w_drop ?_
    | with_reducible refine DV.w_nop ?_
    | with_reducible refine DV.w_T ?_
    | with_reducible refine DV.w_B ?_
    | with_reducible refine DV.w_not ?_
    | with_reducible refine DV.w_and ?_
    | with_reducible refine DV.w_or ?_
    | with_reducible refine DV.w_ifT ?_
    | with_reducible refine DV.w_ifF ?_
    | with_reducible refine DV.w_ifNT ?_
    | with_reducible refine DV.w_ifNF ?_
    | with_reducible refine DV.w_stup ?_
    | with_reducible refine DV.w_stupD (by with_unfolding_all (simp only [DV.wipeE, DV.gTupF, DV.gMore, DV.gNone, DV.gNm, List.set_cons_succ, List.set_cons_zero, List.length]; rfl)) ?_
    | with_reducible refine DV.w_aug (by with_unfolding_all exact rfl) ?_
    | with_reducible refine DV.w_I ?_
    | with_reducible refine DV.w_app (by with_unfolding_all exact rfl) (by simp only [List.length_map]; omega) ?_
    | with_reducible refine DV.w_D ?_
    | with_reducible refine DV.w_for ?_
    | with_reducible refine DV.w_lc ?_
    | with_reducible refine DV.w_par ?_
    | with_reducible refine DV.w_par3 ?_
    | with_reducible refine DV.w_par4 ?_
    | with_reducible refine DV.w_parX (by with_unfolding_all exact rfl) (by with_unfolding_all exact rfl) (by with_unfolding_all (simp only [List.set_cons_succ, List.set_cons_zero]; rfl)) ?_
    | with_reducible refine DV.w_par3X (by with_unfolding_all exact rfl) (by with_unfolding_all exact rfl) (by with_unfolding_all exact rfl) (by with_unfolding_all (simp only [List.set_cons_succ, List.set_cons_zero]; rfl)) ?_
    | with_reducible refine DV.w_par4X (by with_unfolding_all exact rfl) (by with_unfolding_all exact rfl) (by with_unfolding_all exact rfl) (by with_unfolding_all exact rfl) (by with_unfolding_all (simp only [List.set_cons_succ, List.set_cons_zero]; rfl)) ?_
    | with_reducible refine DV.w_tup ?_
    | with_reducible refine DV.w_lst ?_
    | with_reducible refine DV.w_tu (by with_unfolding_all exact rfl) (by with_unfolding_all exact Nat.le_of_ble_eq_true rfl) ?_
    | with_reducible refine DV.w_ls (by with_unfolding_all exact rfl) (by with_unfolding_all exact Nat.le_of_ble_eq_true rfl) ?_
    | with_reducible refine DV.w_neg ?_
    | with_reducible refine DV.w_ifB ?_
    | with_reducible refine DV.w_ifE ?_
    | with_reducible refine DV.w_notB ?_
    | with_reducible refine DV.w_tt ?_
    | with_reducible refine DV.w_ch ?_
    | with_reducible refine DV.w_add ?_
    | with_reducible refine DV.w_sub ?_
    | with_reducible refine DV.w_mul (by first | omega | (left; constructor <;> omega) | (right; constructor <;> omega)) ?_
    | with_reducible refine DV.w_mod (by omega) ?_
    | with_reducible refine DV.w_div (by omega) ?_
    | with_reducible refine DV.w_lt ?_
    | with_reducible refine DV.w_le ?_
    | with_reducible refine DV.w_gt ?_
    | with_reducible refine DV.w_ge ?_
    | with_reducible refine DV.w_ltA ?_
    | with_reducible refine DV.w_leA ?_
    | with_reducible refine DV.w_gtA ?_
    | with_reducible refine DV.w_geA ?_
    | with_reducible refine DV.w_eq ?_
    | with_reducible refine DV.w_ne ?_
    | with_reducible refine DV.w_eqB ?_
    | with_reducible refine DV.w_neB ?_
    | with_reducible refine DV.w_eqN ?_
    | with_reducible refine DV.w_neN ?_
    | with_reducible refine DV.w_eqN0 ?_
    | with_reducible refine DV.w_neN0 ?_
    | with_reducible refine DV.w_in ?_
    | with_reducible refine DV.w_inB ?_
    | with_reducible refine DV.w_notIn ?_
    | with_reducible refine DV.w_notInB ?_
    | with_reducible refine DV.w_ix0 ?_
    | with_reducible refine DV.w_ix1 ?_
    | with_reducible refine DV.w_ix (by omega) ?_
    | with_reducible refine DV.w_ixB (by omega) ?_
    | with_reducible refine DV.w_len ?_
    | with_reducible refine DV.w_lenB ?_
    | with_reducible refine DV.w_lenN ?_
    | with_reducible refine DV.w_lenM ?_
    | with_reducible refine DV.w_lenMB ?_
    | with_reducible refine DV.w_lenMN ?_
    | with_reducible refine DV.w_lenD ?_
    | with_reducible refine DV.w_lenDB ?_
    | with_reducible refine DV.w_lenDN ?_
    | with_reducible refine DV.w_tupN ?_
    | with_reducible refine DV.w_tupB ?_
    | with_reducible refine DV.w_tupD ?_
    | with_reducible refine DV.w_lstD ?_
    | with_reducible refine DV.w_lstB ?_
    | with_reducible refine DV.w_lstN ?_
    | with_reducible refine DV.w_sum ?_
    | with_reducible refine DV.w_sumN ?_
    | with_reducible refine DV.w_sumB ?_
    | with_reducible refine DV.w_max2 ?_
    | with_reducible refine DV.w_min2 ?_
    | with_reducible refine DV.w_int ?_
    | with_reducible refine DV.w_sort ?_
    | with_reducible refine DV.w_sortN ?_
    | with_reducible refine DV.w_sortB ?_
    | with_reducible refine DV.w_rep (by omega) ?_
    | with_reducible refine DV.w_repN (by omega) ?_
    | with_reducible refine DV.w_moveG (by with_unfolding_all exact rfl) (by with_unfolding_all (simp only [List.set_cons_succ, List.set_cons_zero]; rfl)) ?_
    | with_reducible refine DV.w_moveO (by with_unfolding_all exact rfl) (by with_unfolding_all (simp only [List.set_cons_succ, List.set_cons_zero]; rfl)) ?_
    | with_reducible refine DV.w_moveD (by with_unfolding_all exact rfl) (by with_unfolding_all (simp only [List.set_cons_succ, List.set_cons_zero]; rfl)) ?_
    | with_reducible refine DV.w_catTI (by (try simp only [List.length_append, List.length_take, List.length_drop, List.length_cons, List.length_nil]); omega) ?_
    | with_reducible refine DV.w_catT1 (by (try simp only [List.length_append, List.length_take, List.length_drop, List.length_cons, List.length_nil]); omega) ?_
    | with_reducible refine DV.w_listG ?_
    | with_reducible refine DV.w_sortK ?_
    | with_reducible refine DV.w_colS ?_
    | with_reducible refine DV.w_itT ?_
    | with_reducible refine DV.w_itB ?_
    | with_reducible refine DV.w_itN ?_
    | with_reducible refine DV.w_colR ?_
    | with_reducible refine DV.w_colRN (by omega) ?_
    | with_reducible refine DV.w_ext (by with_unfolding_all exact rfl) ?_
    | with_reducible refine DV.w_lc2 ?_
    | with_reducible refine DV.w_isT ?_
    | with_reducible refine DV.w_isNN ?_
    | with_reducible refine DV.w_isNI ?_
    | with_reducible refine DV.w_isNT ?_
    | with_reducible refine DV.w_ntNN ?_
    | with_reducible refine DV.w_ntNI ?_
    | with_reducible refine DV.w_ntNT ?_
    | with_reducible refine DV.w_repND (by omega) ?_
    | with_reducible refine DV.w_put (by with_unfolding_all exact rfl) ?_
    | with_reducible refine DV.w_putI (by (try simp only [List.length_set, List.length_replicate, List.length_map]); omega) ?_
    | with_reducible refine DV.w_eqB0 ?_
    | with_reducible refine DV.w_neB0 ?_
    | with_reducible refine DV.w_eqBB ?_
    | with_reducible refine DV.w_neBB ?_
    | with_reducible refine DV.w_eqNB ?_
    | with_reducible refine DV.w_neNB ?_
    | with_reducible refine DV.w_eqBN ?_
    | with_reducible refine DV.w_neBN ?_
    | with_reducible refine DV.w_eqT0 ?_
    | with_reducible refine DV.w_neT0 ?_
    | with_reducible refine DV.w_eqT ?_
    | with_reducible refine DV.w_neT ?_
    | with_reducible refine DV.w_gget ?_
    | with_reducible refine DV.w_dc ?_
    | with_reducible refine DV.w_dcN ?_
    | with_reducible refine DV.w_G ?_
    | with_reducible refine DV.w_gput ?_
    | with_reducible refine DV.w_gnew ?_
    | with_reducible refine DV.w_g1 ?_
    | with_reducible refine DV.w_ret ?_
    | with_reducible refine DV.w_slice ?_
    | with_reducible refine DV.w_part ?_
    | with_reducible refine DV.w_slToI (by omega) ?_
    | with_reducible refine DV.w_slFromI (by omega) ?_
    | with_reducible refine DV.w_slToBI (by omega) ?_
    | with_reducible refine DV.w_slFromBI (by omega) ?_
    | with_reducible refine DV.w_star ?_
    | with_reducible refine DV.w_starT ?_
    | with_reducible refine DV.w_starB ?_
    | with_reducible refine DV.w_starN ?_
    | with_reducible refine DV.w_ixR (by omega) ?_
    | with_reducible refine DV.w_ixRB (by omega) ?_
    | with_reducible refine DV.w_lrg ?_
    | with_reducible refine DV.w_trg ?_
    | with_reducible refine DV.w_rg (by omega) ?_
    | with_reducible refine DV.w_enum ?_
    | with_reducible refine DV.w_zip ?_
    | with_reducible refine DV.w_zip3 ?_
    | with_reducible refine DV.w_step ?_
    | with_reducible refine DV.w_stepB (by omega) ?_
    | with_reducible refine DV.w_srev ?_
    | with_reducible refine DV.w_srevT ?_
    | with_reducible refine DV.w_isTT ?_
    | with_reducible refine DV.w_ntTT ?_
    | with_reducible refine DV.w_isFT ?_
    | with_reducible refine DV.w_ntFT ?_
    | with_reducible refine DV.w_isTF ?_
    | with_reducible refine DV.w_ntTF ?_
    | with_reducible refine DV.w_isFF ?_
    | with_reducible refine DV.w_ntFF ?_
    | with_reducible refine DV.w_ixS (by omega) ?_
    | with_reducible refine DV.w_ix2 ?_
    | with_reducible refine DV.w_gget2 ?_
    | with_reducible refine DV.w_notInTs ?_
    | with_reducible refine DV.w_inTs ?_
    | with_reducible refine DV.w_inTsN ?_
    | with_reducible refine DV.w_sset ?_
    | with_reducible refine DV.w_ssetU (by omega) (by assumption) ?_
    | with_reducible refine DV.w_met ?_
    | with_reducible refine DV.w_itL ?_
    | with_reducible refine DV.w_two ?_
    | with_reducible refine DV.w_twoX ?_
    | with_reducible refine DV.w_neS ?_
    | with_reducible refine DV.w_eqS ?_
    | with_reducible refine DV.w_rev ?_
    | with_reducible refine DV.w_revN ?_
    | with_reducible refine DV.w_lset ?_
    | with_reducible refine DV.w_isNL ?_
    | with_reducible refine DV.w_isBL ?_
    | with_reducible refine DV.w_ntNL ?_
    | with_reducible refine DV.w_ntBL ?_
    | with_reducible refine DV.w_abs ?_
    | with_reducible refine DV.w_neBl ?_
    | with_reducible refine DV.w_eqBl ?_
    | with_reducible refine DV.w_eqIP ?_
    | with_reducible refine DV.w_neIP ?_
    | with_reducible refine DV.w_ix3 ?_
    | with_reducible refine DVR.w_neW ?_
    | with_reducible refine DVR.w_ixL (by omega) ?_
    | with_reducible refine DV.w_dcomp ?_
    | with_reducible refine DV.w_intB ?_
    | with_reducible refine DV.w_augIx (by with_unfolding_all exact rfl) ?_
    | with_reducible refine DV.w_inN ?_
    | with_reducible refine DV.w_notInN ?_
    | with_reducible refine DV.w_srcE ?_
    | with_reducible refine DV.w_srcV (by with_unfolding_all exact rfl) ?_
    | with_reducible refine DV.w_src (by with_unfolding_all exact rfl) ?_
    | with_reducible refine DV.w_rng1 ?_
    | with_reducible refine DV.w_rng2 ?_
    | with_reducible refine DV.w_rng2I (by omega) ?_
    | with_reducible refine DV.w_rngN (by omega) ?_
    | with_reducible refine DV.w_rngI (by omega) ?_
    | with_reducible refine DV.w_loopN ?_
    | with_reducible refine DV.w_loopC ?_
    | with_reducible refine DV.w_loopB ?_
    | with_reducible refine DV.w_loopR ?_
    | with_reducible refine DV.w_runN ?_
    | with_reducible refine DV.w_runR ?_
    | with_reducible refine DV.w_tg (by with_unfolding_all (simp only [DV.lockE, DV.unlockE, List.getElem?_cons_succ, List.getElem?_cons_zero, DV.wipeE, DV.gTupF, DV.gMore, DV.gNone, DV.gNm, List.set_cons_succ, List.set_cons_zero, List.length]; rfl)) ?_)
end DVL

namespace DVL
open PySem L2 DV
local macro_rules
  | `(tactic| get_elem_tactic_trivial) => `(tactic| first
    | (simp only [List.set_cons_succ, List.set_cons_zero, DV.startE, DV.lawE, DV.toK, DV.lockE, DV.wipeE, List.map_cons, List.map_nil, List.length_cons, List.length_nil, List.replicate_zero, List.replicate_succ, Nat.reduceSub, Nat.reduceAdd, List.append_nil, List.cons_append, List.nil_append]; rfl)
    | exact rfl)
local macro_rules
  | `(tactic| infer_instance) => `(tactic| first
    | with_reducible refine DV.w_cons ?_
    | with_reducible refine DV.w_var (by with_unfolding_all exact rfl) ?_
    | with_reducible refine DV.w_c ?_
    | with_reducible refine DV.w_nil ?_
    | with_reducible refine DV.w_e2 ?_
    | with_reducible refine DV.w_seq ?_
    | with_reducible refine DV.w_seqN ?_
    | with_reducible refine DV.w_seqR ?_
    | with_reducible refine DV.w_seqB ?_
    | with_reducible refine DV.w_seqC ?_
    | with_reducible refine DV.w_call ?_
    | with_reducible refine DV.w_fn ?_
    | with_reducible refine DV.w_f1 ?_
    | with_reducible refine DV.w_f2 ?_
    | with_reducible refine DV.w_f3 ?_
    | with_reducible refine DV.w_f4 ?_
    | with_reducible refine DV.w_f5 ?_
    | with_reducible refine DV.w_f6 ?_
    | with_reducible refine DV.w_set ?_
    | with_reducible refine DV.w_setApp ?_
    | with_reducible refine DV.w_setX (by with_unfolding_all exact rfl) (by with_unfolding_all (simp only [List.set_cons_succ, List.set_cons_zero]; rfl)) ?_
    | with_reducible refine DV.w_rt ?_
    | with_reducible refine DV.w_rtD ?_
    | with_reducible refine DV.w_rtN ?_
    | with_reducible refine DV.w_rtV (by with_unfolding_all exact rfl) ?_
    | with_reducible refine DV.w_if ?_
    | with_reducible refine DV.w_drop ?_
    | with_reducible refine DV.w_nop ?_
    | with_reducible refine DV.w_T ?_
    | with_reducible refine DV.w_B ?_
    | with_reducible refine DV.w_not ?_
    | with_reducible refine DV.w_and ?_
    | with_reducible refine DV.w_or ?_
    | with_reducible refine DV.w_ifT ?_
    | with_reducible refine DV.w_ifF ?_
    | with_reducible refine DV.w_ifNT ?_
    | with_reducible refine DV.w_ifNF ?_
    | with_reducible refine DV.w_stup ?_
    | with_reducible refine DV.w_stupD (by with_unfolding_all (simp only [DV.wipeE, DV.gTupF, DV.gMore, DV.gNone, DV.gNm, List.set_cons_succ, List.set_cons_zero, List.length]; rfl)) ?_
    | with_reducible refine DV.w_aug (by with_unfolding_all exact rfl) ?_
    | with_reducible refine DV.w_I ?_
    | with_reducible refine DV.w_app (by with_unfolding_all exact rfl) (by simp only [List.length_map]; omega) ?_
    | with_reducible refine DV.w_D ?_
    | with_reducible refine DV.w_for ?_
    | with_reducible refine DV.w_lc ?_
    | with_reducible refine DV.w_par ?_
    | with_reducible refine DV.w_par3 ?_
    | with_reducible refine DV.w_par4 ?_
    | with_reducible refine DV.w_parX (by with_unfolding_all exact rfl) (by with_unfolding_all exact rfl) (by with_unfolding_all (simp only [List.set_cons_succ, List.set_cons_zero]; rfl)) ?_
    | with_reducible refine DV.w_par3X (by with_unfolding_all exact rfl) (by with_unfolding_all exact rfl) (by with_unfolding_all exact rfl) (by with_unfolding_all (simp only [List.set_cons_succ, List.set_cons_zero]; rfl)) ?_
    | with_reducible refine DV.w_par4X (by with_unfolding_all exact rfl) (by with_unfolding_all exact rfl) (by with_unfolding_all exact rfl) (by with_unfolding_all exact rfl) (by with_unfolding_all (simp only [List.set_cons_succ, List.set_cons_zero]; rfl)) ?_
    | with_reducible refine DV.w_tup ?_
    | with_reducible refine DV.w_lst ?_
    | with_reducible refine DV.w_tu (by with_unfolding_all exact rfl) (by with_unfolding_all exact Nat.le_of_ble_eq_true rfl) ?_
    | with_reducible refine DV.w_ls (by with_unfolding_all exact rfl) (by with_unfolding_all exact Nat.le_of_ble_eq_true rfl) ?_
    | with_reducible refine DV.w_neg ?_
    | with_reducible refine DV.w_ifB ?_
    | with_reducible refine DV.w_ifE ?_
    | with_reducible refine DV.w_notB ?_
    | with_reducible refine DV.w_tt ?_
    | with_reducible refine DV.w_ch ?_
    | with_reducible refine DV.w_add ?_
    | with_reducible refine DV.w_sub ?_
    | with_reducible refine DV.w_mul (by first | omega | (left; constructor <;> omega) | (right; constructor <;> omega)) ?_
    | with_reducible refine DV.w_mod (by omega) ?_
    | with_reducible refine DV.w_div (by omega) ?_
    | with_reducible refine DV.w_lt ?_
    | with_reducible refine DV.w_le ?_
    | with_reducible refine DV.w_gt ?_
    | with_reducible refine DV.w_ge ?_
    | with_reducible refine DV.w_ltA ?_
    | with_reducible refine DV.w_leA ?_
    | with_reducible refine DV.w_gtA ?_
    | with_reducible refine DV.w_geA ?_
    | with_reducible refine DV.w_eq ?_
    | with_reducible refine DV.w_ne ?_
    | with_reducible refine DV.w_eqB ?_
    | with_reducible refine DV.w_neB ?_
    | with_reducible refine DV.w_eqN ?_
    | with_reducible refine DV.w_neN ?_
    | with_reducible refine DV.w_eqN0 ?_
    | with_reducible refine DV.w_neN0 ?_
    | with_reducible refine DV.w_in ?_
    | with_reducible refine DV.w_inB ?_
    | with_reducible refine DV.w_notIn ?_
    | with_reducible refine DV.w_notInB ?_
    | with_reducible refine DV.w_ix0 ?_
    | with_reducible refine DV.w_ix1 ?_
    | with_reducible refine DV.w_ix (by omega) ?_
    | with_reducible refine DV.w_ixB (by omega) ?_
    | with_reducible refine DV.w_len ?_
    | with_reducible refine DV.w_lenB ?_
    | with_reducible refine DV.w_lenN ?_
    | with_reducible refine DV.w_lenM ?_
    | with_reducible refine DV.w_lenMB ?_
    | with_reducible refine DV.w_lenMN ?_
    | with_reducible refine DV.w_lenD ?_
    | with_reducible refine DV.w_lenDB ?_
    | with_reducible refine DV.w_lenDN ?_
    | with_reducible refine DV.w_tupN ?_
    | with_reducible refine DV.w_tupB ?_
    | with_reducible refine DV.w_tupD ?_
    | with_reducible refine DV.w_lstD ?_
    | with_reducible refine DV.w_lstB ?_
    | with_reducible refine DV.w_lstN ?_
    | with_reducible refine DV.w_sum ?_
    | with_reducible refine DV.w_sumN ?_
    | with_reducible refine DV.w_sumB ?_
    | with_reducible refine DV.w_max2 ?_
    | with_reducible refine DV.w_min2 ?_
    | with_reducible refine DV.w_int ?_
    | with_reducible refine DV.w_sort ?_
    | with_reducible refine DV.w_sortN ?_
    | with_reducible refine DV.w_sortB ?_
    | with_reducible refine DV.w_rep (by omega) ?_
    | with_reducible refine DV.w_repN (by omega) ?_
    | with_reducible refine DV.w_moveG (by with_unfolding_all exact rfl) (by with_unfolding_all (simp only [List.set_cons_succ, List.set_cons_zero]; rfl)) ?_
    | with_reducible refine DV.w_moveO (by with_unfolding_all exact rfl) (by with_unfolding_all (simp only [List.set_cons_succ, List.set_cons_zero]; rfl)) ?_
    | with_reducible refine DV.w_moveD (by with_unfolding_all exact rfl) (by with_unfolding_all (simp only [List.set_cons_succ, List.set_cons_zero]; rfl)) ?_
    | with_reducible refine DV.w_catTI (by (try simp only [List.length_append, List.length_take, List.length_drop, List.length_cons, List.length_nil]); omega) ?_
    | with_reducible refine DV.w_catT1 (by (try simp only [List.length_append, List.length_take, List.length_drop, List.length_cons, List.length_nil]); omega) ?_
    | with_reducible refine DV.w_listG ?_
    | with_reducible refine DV.w_sortK ?_
    | with_reducible refine DV.w_colS ?_
    | with_reducible refine DV.w_itT ?_
    | with_reducible refine DV.w_itB ?_
    | with_reducible refine DV.w_itN ?_
    | with_reducible refine DV.w_colR ?_
    | with_reducible refine DV.w_colRN (by omega) ?_
    | with_reducible refine DV.w_ext (by with_unfolding_all exact rfl) ?_
    | with_reducible refine DV.w_lc2 ?_
    | with_reducible refine DV.w_isT ?_
    | with_reducible refine DV.w_isNN ?_
    | with_reducible refine DV.w_isNI ?_
    | with_reducible refine DV.w_isNT ?_
    | with_reducible refine DV.w_ntNN ?_
    | with_reducible refine DV.w_ntNI ?_
    | with_reducible refine DV.w_ntNT ?_
    | with_reducible refine DV.w_repND (by omega) ?_
    | with_reducible refine DV.w_put (by with_unfolding_all exact rfl) ?_
    | with_reducible refine DV.w_putI (by (try simp only [List.length_set, List.length_replicate, List.length_map]); omega) ?_
    | with_reducible refine DV.w_eqB0 ?_
    | with_reducible refine DV.w_neB0 ?_
    | with_reducible refine DV.w_eqBB ?_
    | with_reducible refine DV.w_neBB ?_
    | with_reducible refine DV.w_eqNB ?_
    | with_reducible refine DV.w_neNB ?_
    | with_reducible refine DV.w_eqBN ?_
    | with_reducible refine DV.w_neBN ?_
    | with_reducible refine DV.w_eqT0 ?_
    | with_reducible refine DV.w_neT0 ?_
    | with_reducible refine DV.w_eqT ?_
    | with_reducible refine DV.w_neT ?_
    | with_reducible refine DV.w_gget ?_
    | with_reducible refine DV.w_dc ?_
    | with_reducible refine DV.w_dcN ?_
    | with_reducible refine DV.w_G ?_
    | with_reducible refine DV.w_gput ?_
    | with_reducible refine DV.w_gnew ?_
    | with_reducible refine DV.w_g1 ?_
    | with_reducible refine DV.w_ret ?_
    | with_reducible refine DV.w_slice ?_
    | with_reducible refine DV.w_part ?_
    | with_reducible refine DV.w_slToI (by omega) ?_
    | with_reducible refine DV.w_slFromI (by omega) ?_
    | with_reducible refine DV.w_slToBI (by omega) ?_
    | with_reducible refine DV.w_slFromBI (by omega) ?_
    | with_reducible refine DV.w_star ?_
    | with_reducible refine DV.w_starT ?_
    | with_reducible refine DV.w_starB ?_
    | with_reducible refine DV.w_starN ?_
    | with_reducible refine DV.w_ixR (by omega) ?_
    | with_reducible refine DV.w_ixRB (by omega) ?_
    | with_reducible refine DV.w_lrg ?_
    | with_reducible refine DV.w_trg ?_
    | with_reducible refine DV.w_rg (by omega) ?_
    | with_reducible refine DV.w_enum ?_
    | with_reducible refine DV.w_zip ?_
    | with_reducible refine DV.w_zip3 ?_
    | with_reducible refine DV.w_step ?_
    | with_reducible refine DV.w_stepB (by omega) ?_
    | with_reducible refine DV.w_srev ?_
    | with_reducible refine DV.w_srevT ?_
    | with_reducible refine DV.w_isTT ?_
    | with_reducible refine DV.w_ntTT ?_
    | with_reducible refine DV.w_isFT ?_
    | with_reducible refine DV.w_ntFT ?_
    | with_reducible refine DV.w_isTF ?_
    | with_reducible refine DV.w_ntTF ?_
    | with_reducible refine DV.w_isFF ?_
    | with_reducible refine DV.w_ntFF ?_
    | with_reducible refine DV.w_ixS (by omega) ?_
    | with_reducible refine DV.w_ix2 ?_
    | with_reducible refine DV.w_gget2 ?_
    | with_reducible refine DV.w_notInTs ?_
    | with_reducible refine DV.w_inTs ?_
    | with_reducible refine DV.w_inTsN ?_
    | with_reducible refine DV.w_sset ?_
    | with_reducible refine DV.w_ssetU (by omega) (by assumption) ?_
    | with_reducible refine DV.w_met ?_
    | with_reducible refine DV.w_itL ?_
    | with_reducible refine DV.w_two ?_
    | with_reducible refine DV.w_twoX ?_
    | with_reducible refine DV.w_neS ?_
    | with_reducible refine DV.w_eqS ?_
    | with_reducible refine DV.w_rev ?_
    | with_reducible refine DV.w_revN ?_
    | with_reducible refine DV.w_lset ?_
    | with_reducible refine DV.w_isNL ?_
    | with_reducible refine DV.w_isBL ?_
    | with_reducible refine DV.w_ntNL ?_
    | with_reducible refine DV.w_ntBL ?_
    | with_reducible refine DV.w_abs ?_
    | with_reducible refine DV.w_neBl ?_
    | with_reducible refine DV.w_eqBl ?_
    | with_reducible refine DV.w_eqIP ?_
    | with_reducible refine DV.w_neIP ?_
    | with_reducible refine DV.w_ix3 ?_
    | with_reducible refine DVR.w_neW ?_
    | with_reducible refine DVR.w_ixL (by omega) ?_
    | with_reducible refine DV.w_dcomp ?_
    | with_reducible refine DV.w_intB ?_
    | with_reducible refine DV.w_augIx (by with_unfolding_all exact rfl) ?_
    | with_reducible refine DV.w_inN ?_
    | with_reducible refine DV.w_notInN ?_
    | with_reducible refine DV.w_srcE ?_
    | with_reducible refine DV.w_srcV (by with_unfolding_all exact rfl) ?_
    | with_reducible refine DV.w_src (by with_unfolding_all exact rfl) ?_
    | with_reducible refine DV.w_rng1 ?_
    | with_reducible refine DV.w_rng2 ?_
    | with_reducible refine DV.w_rng2I (by omega) ?_
    | with_reducible refine DV.w_rngN (by omega) ?_
    | with_reducible refine DV.w_rngI (by omega) ?_
    | with_reducible refine DV.w_loopN ?_
    | with_reducible refine DV.w_loopC ?_
    | with_reducible refine DV.w_loopB ?_
    | with_reducible refine DV.w_loopR ?_
    | with_reducible refine DV.w_runN ?_
    | with_reducible refine DV.w_runR ?_
    | with_reducible refine DV.w_tg (by with_unfolding_all (simp only [DV.lockE, DV.unlockE, List.getElem?_cons_succ, List.getElem?_cons_zero, DV.wipeE, DV.gTupF, DV.gMore, DV.gNone, DV.gNm, List.set_cons_succ, List.set_cons_zero, List.length]; rfl)) ?_)
section
variable {ss : List (Int × Int)} {ws : List Int}
/-- a row, as the greatest is looked for -/
def rk (p : Int × R3) : Int × Int × List Int := (p.2.2.1, -p.1, p.2.2.2)
end
end DVL

namespace DVL
open PySem L2 DV
local macro_rules
  | `(tactic| get_elem_tactic_trivial) => `(tactic| first
    | (simp only [List.set_cons_succ, List.set_cons_zero, DV.startE, DV.lawE, DV.toK, DV.lockE, DV.wipeE, List.map_cons, List.map_nil, List.length_cons, List.length_nil, List.replicate_zero, List.replicate_succ, Nat.reduceSub, Nat.reduceAdd, List.append_nil, List.cons_append, List.nil_append]; rfl)
    | exact rfl)
local macro_rules
  | `(tactic| infer_instance) => `(tactic| first
    | with_reducible refine DV.w_cons ?_
    | with_reducible refine DV.w_var (by with_unfolding_all exact rfl) ?_
    | with_reducible refine DV.w_c ?_
    | with_reducible refine DV.w_nil ?_
    | with_reducible refine DV.w_e2 ?_
    | with_reducible refine DV.w_seq ?_
    | with_reducible refine DV.w_seqN ?_
    | with_reducible refine DV.w_seqR ?_
    | with_reducible refine DV.w_seqB ?_
    | with_reducible refine DV.w_seqC ?_
    | with_reducible refine DV.w_call ?_
    | with_reducible refine DV.w_fn ?_
    | with_reducible refine DV.w_f1 ?_
    | with_reducible refine DV.w_f2 ?_
    | with_reducible refine DV.w_f3 ?_
    | with_reducible refine DV.w_f4 ?_
    | with_reducible refine DV.w_f5 ?_
    | with_reducible refine DV.w_f6 ?_
    | with_reducible refine DV.w_set ?_
    | with_reducible refine DV.w_setApp ?_
    | with_reducible refine DV.w_setX (by with_unfolding_all exact rfl) (by with_unfolding_all (simp only [List.set_cons_succ, List.set_cons_zero]; rfl)) ?_
    | with_reducible refine DV.w_rt ?_
    | with_reducible refine DV.w_rtD ?_
    | with_reducible refine DV.w_rtN ?_
    | with_reducible refine DV.w_rtV (by with_unfolding_all exact rfl) ?_
    | with_reducible refine DV.w_if ?_
    | with_reducible refine DV.w_drop ?_
    | with_reducible refine DV.w_nop ?_
    | with_reducible refine DV.w_T ?_
    | with_reducible refine DV.w_B ?_
    | with_reducible refine DV.w_not ?_
    | with_reducible refine DV.w_and ?_
    | with_reducible refine DV.w_or ?_
    | with_reducible refine DV.w_ifT ?_
    | with_reducible refine DV.w_ifF ?_
    | with_reducible refine DV.w_ifNT ?_
    | with_reducible refine DV.w_ifNF ?_
    | with_reducible refine DV.w_stup ?_
    | with_reducible refine DV.w_stupD (by with_unfolding_all (simp only [DV.wipeE, DV.gTupF, DV.gMore, DV.gNone, DV.gNm, List.set_cons_succ, List.set_cons_zero, List.length]; rfl)) ?_
    | with_reducible refine DV.w_aug (by with_unfolding_all exact rfl) ?_
    | with_reducible refine DV.w_I ?_
    | with_reducible refine DV.w_app (by with_unfolding_all exact rfl) (by simp only [List.length_map]; omega) ?_
    | with_reducible refine DV.w_D ?_
    | with_reducible refine DV.w_for ?_
    | with_reducible refine DV.w_lc ?_
    | with_reducible refine DV.w_par ?_
    | with_reducible refine DV.w_par3 ?_
    | with_reducible refine DV.w_par4 ?_
    | with_reducible refine DV.w_parX (by with_unfolding_all exact rfl) (by with_unfolding_all exact rfl) (by with_unfolding_all (simp only [List.set_cons_succ, List.set_cons_zero]; rfl)) ?_
    | with_reducible refine DV.w_par3X (by with_unfolding_all exact rfl) (by with_unfolding_all exact rfl) (by with_unfolding_all exact rfl) (by with_unfolding_all (simp only [List.set_cons_succ, List.set_cons_zero]; rfl)) ?_
    | with_reducible refine DV.w_par4X (by with_unfolding_all exact rfl) (by with_unfolding_all exact rfl) (by with_unfolding_all exact rfl) (by with_unfolding_all exact rfl) (by with_unfolding_all (simp only [List.set_cons_succ, List.set_cons_zero]; rfl)) ?_
    | with_reducible refine DV.w_tup ?_
    | with_reducible refine DV.w_lst ?_
    | with_reducible refine DV.w_tu (by with_unfolding_all exact rfl) (by with_unfolding_all exact Nat.le_of_ble_eq_true rfl) ?_
    | with_reducible refine DV.w_ls (by with_unfolding_all exact rfl) (by with_unfolding_all exact Nat.le_of_ble_eq_true rfl) ?_
    | with_reducible refine DV.w_neg ?_
    | with_reducible refine DV.w_ifB ?_
    | with_reducible refine DV.w_ifE ?_
    | with_reducible refine DV.w_notB ?_
    | with_reducible refine DV.w_tt ?_
    | with_reducible refine DV.w_ch ?_
    | with_reducible refine DV.w_add ?_
    | with_reducible refine DV.w_sub ?_
    | with_reducible refine DV.w_mul (by first | omega | (left; constructor <;> omega) | (right; constructor <;> omega)) ?_
    | with_reducible refine DV.w_mod (by omega) ?_
    | with_reducible refine DV.w_div (by omega) ?_
    | with_reducible refine DV.w_lt ?_
    | with_reducible refine DV.w_le ?_
    | with_reducible refine DV.w_gt ?_
    | with_reducible refine DV.w_ge ?_
    | with_reducible refine DV.w_ltA ?_
    | with_reducible refine DV.w_leA ?_
    | with_reducible refine DV.w_gtA ?_
    | with_reducible refine DV.w_geA ?_
    | with_reducible refine DV.w_eq ?_
    | with_reducible refine DV.w_ne ?_
    | with_reducible refine DV.w_eqB ?_
    | with_reducible refine DV.w_neB ?_
    | with_reducible refine DV.w_eqN ?_
    | with_reducible refine DV.w_neN ?_
    | with_reducible refine DV.w_eqN0 ?_
    | with_reducible refine DV.w_neN0 ?_
    | with_reducible refine DV.w_in ?_
    | with_reducible refine DV.w_inB ?_
    | with_reducible refine DV.w_notIn ?_
    | with_reducible refine DV.w_notInB ?_
    | with_reducible refine DV.w_ix0 ?_
    | with_reducible refine DV.w_ix1 ?_
    | with_reducible refine DV.w_ix (by omega) ?_
    | with_reducible refine DV.w_ixB (by omega) ?_
    | with_reducible refine DV.w_len ?_
    | with_reducible refine DV.w_lenB ?_
    | with_reducible refine DV.w_lenN ?_
    | with_reducible refine DV.w_lenM ?_
    | with_reducible refine DV.w_lenMB ?_
    | with_reducible refine DV.w_lenMN ?_
    | with_reducible refine DV.w_lenD ?_
    | with_reducible refine DV.w_lenDB ?_
    | with_reducible refine DV.w_lenDN ?_
    | with_reducible refine DV.w_tupN ?_
    | with_reducible refine DV.w_tupB ?_
    | with_reducible refine DV.w_tupD ?_
    | with_reducible refine DV.w_lstD ?_
    | with_reducible refine DV.w_lstB ?_
    | with_reducible refine DV.w_lstN ?_
    | with_reducible refine DV.w_sum ?_
    | with_reducible refine DV.w_sumN ?_
    | with_reducible refine DV.w_sumB ?_
    | with_reducible refine DV.w_max2 ?_
    | with_reducible refine DV.w_min2 ?_
    | with_reducible refine DV.w_int ?_
    | with_reducible refine DV.w_sort ?_
    | with_reducible refine DV.w_sortN ?_
    | with_reducible refine DV.w_sortB ?_
    | with_reducible refine DV.w_rep (by omega) ?_
    | with_reducible refine DV.w_repN (by omega) ?_
    | with_reducible refine DV.w_moveG (by with_unfolding_all exact rfl) (by with_unfolding_all (simp only [List.set_cons_succ, List.set_cons_zero]; rfl)) ?_
    | with_reducible refine DV.w_moveO (by with_unfolding_all exact rfl) (by with_unfolding_all (simp only [List.set_cons_succ, List.set_cons_zero]; rfl)) ?_
    | with_reducible refine DV.w_moveD (by with_unfolding_all exact rfl) (by with_unfolding_all (simp only [List.set_cons_succ, List.set_cons_zero]; rfl)) ?_
    | with_reducible refine DV.w_catTI (by (try simp only [List.length_append, List.length_take, List.length_drop, List.length_cons, List.length_nil]); omega) ?_
    | with_reducible refine DV.w_catT1 (by (try simp only [List.length_append, List.length_take, List.length_drop, List.length_cons, List.length_nil]); omega) ?_
    | with_reducible refine DV.w_listG ?_
    | with_reducible refine DV.w_sortK ?_
    | with_reducible refine DV.w_colS ?_
    | with_reducible refine DV.w_itT ?_
    | with_reducible refine DV.w_itB ?_
    | with_reducible refine DV.w_itN ?_
    | with_reducible refine DV.w_colR ?_
    | with_reducible refine DV.w_colRN (by omega) ?_
    | with_reducible refine DV.w_ext (by with_unfolding_all exact rfl) ?_
    | with_reducible refine DV.w_lc2 ?_
    | with_reducible refine DV.w_isT ?_
    | with_reducible refine DV.w_isNN ?_
    | with_reducible refine DV.w_isNI ?_
    | with_reducible refine DV.w_isNT ?_
    | with_reducible refine DV.w_ntNN ?_
    | with_reducible refine DV.w_ntNI ?_
    | with_reducible refine DV.w_ntNT ?_
    | with_reducible refine DV.w_repND (by omega) ?_
    | with_reducible refine DV.w_put (by with_unfolding_all exact rfl) ?_
    | with_reducible refine DV.w_putI (by (try simp only [List.length_set, List.length_replicate, List.length_map]); omega) ?_
    | with_reducible refine DV.w_eqB0 ?_
    | with_reducible refine DV.w_neB0 ?_
    | with_reducible refine DV.w_eqBB ?_
    | with_reducible refine DV.w_neBB ?_
    | with_reducible refine DV.w_eqNB ?_
    | with_reducible refine DV.w_neNB ?_
    | with_reducible refine DV.w_eqBN ?_
    | with_reducible refine DV.w_neBN ?_
    | with_reducible refine DV.w_eqT0 ?_
    | with_reducible refine DV.w_neT0 ?_
    | with_reducible refine DV.w_eqT ?_
    | with_reducible refine DV.w_neT ?_
    | with_reducible refine DV.w_gget ?_
    | with_reducible refine DV.w_dc ?_
    | with_reducible refine DV.w_dcN ?_
    | with_reducible refine DV.w_G ?_
    | with_reducible refine DV.w_gput ?_
    | with_reducible refine DV.w_gnew ?_
    | with_reducible refine DV.w_g1 ?_
    | with_reducible refine DV.w_ret ?_
    | with_reducible refine DV.w_slice ?_
    | with_reducible refine DV.w_part ?_
    | with_reducible refine DV.w_slToI (by omega) ?_
    | with_reducible refine DV.w_slFromI (by omega) ?_
    | with_reducible refine DV.w_slToBI (by omega) ?_
    | with_reducible refine DV.w_slFromBI (by omega) ?_
    | with_reducible refine DV.w_star ?_
    | with_reducible refine DV.w_starT ?_
    | with_reducible refine DV.w_starB ?_
    | with_reducible refine DV.w_starN ?_
    | with_reducible refine DV.w_ixR (by omega) ?_
    | with_reducible refine DV.w_ixRB (by omega) ?_
    | with_reducible refine DV.w_lrg ?_
    | with_reducible refine DV.w_trg ?_
    | with_reducible refine DV.w_rg (by omega) ?_
    | with_reducible refine DV.w_enum ?_
    | with_reducible refine DV.w_zip ?_
    | with_reducible refine DV.w_zip3 ?_
    | with_reducible refine DV.w_step ?_
    | with_reducible refine DV.w_stepB (by omega) ?_
    | with_reducible refine DV.w_srev ?_
    | with_reducible refine DV.w_srevT ?_
    | with_reducible refine DV.w_isTT ?_
    | with_reducible refine DV.w_ntTT ?_
    | with_reducible refine DV.w_isFT ?_
    | with_reducible refine DV.w_ntFT ?_
    | with_reducible refine DV.w_isTF ?_
    | with_reducible refine DV.w_ntTF ?_
    | with_reducible refine DV.w_isFF ?_
    | with_reducible refine DV.w_ntFF ?_
    | with_reducible refine DV.w_ixS (by omega) ?_
    | with_reducible refine DV.w_ix2 ?_
    | with_reducible refine DV.w_gget2 ?_
    | with_reducible refine DV.w_notInTs ?_
    | with_reducible refine DV.w_inTs ?_
    | with_reducible refine DV.w_inTsN ?_
    | with_reducible refine DV.w_sset ?_
    | with_reducible refine DV.w_ssetU (by omega) (by assumption) ?_
    | with_reducible refine DV.w_met ?_
    | with_reducible refine DV.w_itL ?_
    | with_reducible refine DV.w_two ?_
    | with_reducible refine DV.w_twoX ?_
    | with_reducible refine DV.w_neS ?_
    | with_reducible refine DV.w_eqS ?_
    | with_reducible refine DV.w_rev ?_
    | with_reducible refine DV.w_revN ?_
    | with_reducible refine DV.w_lset ?_
    | with_reducible refine DV.w_isNL ?_
    | with_reducible refine DV.w_isBL ?_
    | with_reducible refine DV.w_ntNL ?_
    | with_reducible refine DV.w_ntBL ?_
    | with_reducible refine DV.w_abs ?_
    | with_reducible refine DV.w_neBl ?_
    | with_reducible refine DV.w_eqBl ?_
    | with_reducible refine DV.w_eqIP ?_
    | with_reducible refine DV.w_neIP ?_
    | with_reducible refine DV.w_ix3 ?_
    | with_reducible refine DVR.w_neW ?_
    | with_reducible refine DVR.w_ixL (by omega) ?_
    | with_reducible refine DV.w_dcomp ?_
    | with_reducible refine DV.w_intB ?_
    | with_reducible refine DV.w_augIx (by with_unfolding_all exact rfl) ?_
    | with_reducible refine DV.w_inN ?_
    | with_reducible refine DV.w_notInN ?_
    | with_reducible refine DV.w_srcE ?_
    | with_reducible refine DV.w_srcV (by with_unfolding_all exact rfl) ?_
    | with_reducible refine DV.w_src (by with_unfolding_all exact rfl) ?_
    | with_reducible refine DV.w_rng1 ?_
    | with_reducible refine DV.w_rng2 ?_
    | with_reducible refine DV.w_rng2I (by omega) ?_
    | with_reducible refine DV.w_rngN (by omega) ?_
    | with_reducible refine DV.w_rngI (by omega) ?_
    | with_reducible refine DV.w_loopN ?_
    | with_reducible refine DV.w_loopC ?_
    | with_reducible refine DV.w_loopB ?_
    | with_reducible refine DV.w_loopR ?_
    | with_reducible refine DV.w_runN ?_
    | with_reducible refine DV.w_runR ?_
    | with_reducible refine DV.w_tg (by with_unfolding_all (simp only [DV.lockE, DV.unlockE, List.getElem?_cons_succ, List.getElem?_cons_zero, DV.wipeE, DV.gTupF, DV.gMore, DV.gNone, DV.gNm, List.set_cons_succ, List.set_cons_zero, List.length]; rfl)) ?_)
end DVL

namespace DV
open PySem L2
theorem canLay_tis : ∀ L : List (List Int), PyData.canLayAll0 (L.map ti) = true
  | [] => by simp [PyData.canLayAll0]
  | a :: L => by
    rw [List.map_cons, PyData.canLayAll0, canLay_tis L]
    have := DVL.canLay_ints a
    simp [PyData.canLay0, this]
theorem depth_tis : ∀ L : List (List Int), PyData.depthAll (L.map ti) ≤ 1
  | [] => by simp [PyData.depthAll]
  | a :: L => by
    rw [List.map_cons, PyData.depthAll]
    have h1 := depth_tis L
    have h2 : (ti a).depth = 1 := by
      show PyData.depth (.tuple _) = 1
      rw [PyData.depth, DVL.depth_ints]
    omega
theorem shaped_tis (L : List (List Int)) : SeqAt.shaped (.list (L.map ti)) = true := by
  unfold SeqAt.shaped
  have h := depth_tis L
  rw [PyData.canLay0, canLay_tis, PyData.depth]
  simp
  omega
theorem any_tis (K : List Int) : ∀ L : List (List Int), ((L.map ti).any fun z => PyData.eqv z (ti K)) = decide (K ∈ L)
  | [] => by simp
  | a :: L => by
    rw [List.map_cons, List.any_cons, any_tis K L]
    have e : PyData.eqv (ti a) (ti K) = decide (a = K) := by
      show PyData.eqv (.tuple _) (.tuple _) = _
      rw [PyData.eqv]
      exact DVL.eqv_intsA a K
    rw [e]
    by_cases h : a = K
    · subst h; simp
    · have h2 : ¬ K = a := fun e => h e.symm
      simp [h, h2]
section
variable {P : RV → Prop} {f : Env → DV.M RV} {ρ : Env} {K : List Int} {L : List (List Int)}
theorem notIn_tis : gNotIn (.d (ti K)) (.n (L.map ti)) = some (.d (.bool (!decide (K ∈ L)))) := by
  show (if SeqAt.shaped (ti K) = true then if SeqAt.shaped (.list (L.map ti)) = true then some (RV.d (.bool (!((L.map ti).any fun z => PyData.eqv z (ti K))))) else none else none) = _
  rw [if_pos (DVL.shaped_intsT K), if_pos (shaped_tis L), any_tis]
theorem in_tis : gIn (.d (ti K)) (.n (L.map ti)) = some (.d (.bool (decide (K ∈ L)))) := by
  show (if SeqAt.shaped (ti K) = true then if SeqAt.shaped (.list (L.map ti)) = true then some (RV.d (.bool (((L.map ti).any fun z => PyData.eqv z (ti K))))) else none else none) = _
  rw [if_pos (DVL.shaped_intsT K), if_pos (shaped_tis L), any_tis]
theorem w_notInTs (p : P (.d (.bool (!decide (K ∈ L))))) : K2 gNotIn P (.d (ti K)) (.n (L.map ti)) := ⟨_, notIn_tis, p⟩
theorem w_inTs (p : P (.d (.bool (decide (K ∈ L))))) : K2 gIn P (.d (ti K)) (.b (L.map ti)) := ⟨_, in_tis, p⟩
theorem w_inTsN (p : P (.d (.bool (decide (K ∈ L))))) : K2 gIn P (.d (ti K)) (.n (L.map ti)) := ⟨_, in_tis, p⟩
theorem w_sset (p : Gives (f ρ) fun x => ∃ js, sortSetOf x = some js ∧ P (.n (js.map PyData.int))) : Gives (eSortSet f ρ) P := DVL.gv_sortSet p
theorem w_ssetU (h : K.length < 64) (u : K.Pairwise (· < ·)) (p : P (.n (K.map PyData.int))) : ∃ js, sortSetOf (.d (ti K)) = some js ∧ P (.n (js.map PyData.int)) := ⟨_, DVL.sortSet_ti h, by rw [DVL.sort_up u]; exact p⟩
end
end DV

namespace DVS
open PySem L2 DV DVL DVB
section
variable {n : Nat} {P : List (Int × Int)} {b : Nat}
theorem Fc.len {ds : List (List Int)} (C : Fc n P b ds) : ds.flatten.length = n := by rw [C.all.length_eq, rngI_len]
end
end DVS

namespace DVJ
open PySem L2 DV DVL DVB DVS
section
variable {n : Nat} {P : List (Int × Int)} {ts : List Int} {b e f : Int → Int} {z : Int}
abbrev sw (p : Int × Int) : Int × Int := (p.2, p.1)
end
end DVJ




namespace DVL
open PySem L2 DV
section
variable {ts ws dd : List Int}
def z3 : D → D
  | .tuple [.int a, .int b, .int c] => .int (a * max 0 (b - c))
  | _ => .none
end
end DVL



namespace DVA
open PySem L2 DV DVL
theorem canLay_prs : ∀ ss : List (Int × Int), PyData.canLayAll0 (ss.map pr) = true
  | [] => by simp [PyData.canLayAll0]
  | p :: ss => by
    rw [List.map_cons, PyData.canLayAll0, canLay_prs ss]
    simp [PyData.canLay0, PyData.canLayAll0]
theorem depth_prs : ∀ ss : List (Int × Int), PyData.depthAll (ss.map pr) ≤ 1
  | [] => by simp [PyData.depthAll]
  | p :: ss => by
    rw [List.map_cons, PyData.depthAll]
    have := depth_prs ss
    simp [PyData.depth, PyData.depthAll]
    omega
end DVA

namespace DVJ
open PySem L2 DV DVL DVB DVS
local macro_rules
  | `(tactic| get_elem_tactic_trivial) => `(tactic| first
    | (simp only [List.set_cons_succ, List.set_cons_zero, DV.startE, DV.lawE, DV.toK, DV.lockE, DV.wipeE, List.map_cons, List.map_nil, List.length_cons, List.length_nil, List.replicate_zero, List.replicate_succ, Nat.reduceSub, Nat.reduceAdd, List.append_nil, List.cons_append, List.nil_append]; rfl)
    | exact rfl)
local macro_rules
  | `(tactic| infer_instance) => `(tactic| first
    | with_reducible refine DV.w_cons ?_
    | with_reducible refine DV.w_var (by with_unfolding_all exact rfl) ?_
    | with_reducible refine DV.w_c ?_
    | with_reducible refine DV.w_nil ?_
    | with_reducible refine DV.w_e2 ?_
    | with_reducible refine DV.w_seq ?_
    | with_reducible refine DV.w_seqN ?_
    | with_reducible refine DV.w_seqR ?_
    | with_reducible refine DV.w_seqB ?_
    | with_reducible refine DV.w_seqC ?_
    | with_reducible refine DV.w_call ?_
    | with_reducible refine DV.w_fn ?_
    | with_reducible refine DV.w_f1 ?_
    | with_reducible refine DV.w_f2 ?_
    | with_reducible refine DV.w_f3 ?_
    | with_reducible refine DV.w_f4 ?_
    | with_reducible refine DV.w_f5 ?_
    | with_reducible refine DV.w_f6 ?_
    | with_reducible refine DV.w_set ?_
    | with_reducible refine DV.w_setApp ?_
    | with_reducible refine DV.w_setX (by with_unfolding_all exact rfl) (by with_unfolding_all (simp only [List.set_cons_succ, List.set_cons_zero]; rfl)) ?_
    | with_reducible refine DV.w_rt ?_
    | with_reducible refine DV.w_rtD ?_
    | with_reducible refine DV.w_rtN ?_
    | with_reducible refine DV.w_rtV (by with_unfolding_all exact rfl) ?_
    | with_reducible refine DV.w_if ?_
    | with_reducible refine DV.w_drop ?_
    | with_reducible refine DV.w_nop ?_
    | with_reducible refine DV.w_T ?_
    | with_reducible refine DV.w_B ?_
    | with_reducible refine DV.w_not ?_
    | with_reducible refine DV.w_and ?_
    | with_reducible refine DV.w_or ?_
    | with_reducible refine DV.w_ifT ?_
    | with_reducible refine DV.w_ifF ?_
    | with_reducible refine DV.w_ifNT ?_
    | with_reducible refine DV.w_ifNF ?_
    | with_reducible refine DV.w_stup ?_
    | with_reducible refine DV.w_stupD (by with_unfolding_all (simp only [DV.wipeE, DV.gTupF, DV.gMore, DV.gNone, DV.gNm, List.set_cons_succ, List.set_cons_zero, List.length]; rfl)) ?_
    | with_reducible refine DV.w_aug (by with_unfolding_all exact rfl) ?_
    | with_reducible refine DV.w_I ?_
    | with_reducible refine DV.w_app (by with_unfolding_all exact rfl) (by simp only [List.length_map]; omega) ?_
    | with_reducible refine DV.w_D ?_
    | with_reducible refine DV.w_for ?_
    | with_reducible refine DV.w_lc ?_
    | with_reducible refine DV.w_par ?_
    | with_reducible refine DV.w_par3 ?_
    | with_reducible refine DV.w_par4 ?_
    | with_reducible refine DV.w_parX (by with_unfolding_all exact rfl) (by with_unfolding_all exact rfl) (by with_unfolding_all (simp only [List.set_cons_succ, List.set_cons_zero]; rfl)) ?_
    | with_reducible refine DV.w_par3X (by with_unfolding_all exact rfl) (by with_unfolding_all exact rfl) (by with_unfolding_all exact rfl) (by with_unfolding_all (simp only [List.set_cons_succ, List.set_cons_zero]; rfl)) ?_
    | with_reducible refine DV.w_par4X (by with_unfolding_all exact rfl) (by with_unfolding_all exact rfl) (by with_unfolding_all exact rfl) (by with_unfolding_all exact rfl) (by with_unfolding_all (simp only [List.set_cons_succ, List.set_cons_zero]; rfl)) ?_
    | with_reducible refine DV.w_tup ?_
    | with_reducible refine DV.w_lst ?_
    | with_reducible refine DV.w_tu (by with_unfolding_all exact rfl) (by with_unfolding_all exact Nat.le_of_ble_eq_true rfl) ?_
    | with_reducible refine DV.w_ls (by with_unfolding_all exact rfl) (by with_unfolding_all exact Nat.le_of_ble_eq_true rfl) ?_
    | with_reducible refine DV.w_neg ?_
    | with_reducible refine DV.w_ifB ?_
    | with_reducible refine DV.w_ifE ?_
    | with_reducible refine DV.w_notB ?_
    | with_reducible refine DV.w_tt ?_
    | with_reducible refine DV.w_ch ?_
    | with_reducible refine DV.w_add ?_
    | with_reducible refine DV.w_sub ?_
    | with_reducible refine DV.w_mul (by first | omega | (left; constructor <;> omega) | (right; constructor <;> omega)) ?_
    | with_reducible refine DV.w_mod (by omega) ?_
    | with_reducible refine DV.w_div (by omega) ?_
    | with_reducible refine DV.w_lt ?_
    | with_reducible refine DV.w_le ?_
    | with_reducible refine DV.w_gt ?_
    | with_reducible refine DV.w_ge ?_
    | with_reducible refine DV.w_ltA ?_
    | with_reducible refine DV.w_leA ?_
    | with_reducible refine DV.w_gtA ?_
    | with_reducible refine DV.w_geA ?_
    | with_reducible refine DV.w_eq ?_
    | with_reducible refine DV.w_ne ?_
    | with_reducible refine DV.w_eqB ?_
    | with_reducible refine DV.w_neB ?_
    | with_reducible refine DV.w_eqN ?_
    | with_reducible refine DV.w_neN ?_
    | with_reducible refine DV.w_eqN0 ?_
    | with_reducible refine DV.w_neN0 ?_
    | with_reducible refine DV.w_in ?_
    | with_reducible refine DV.w_inB ?_
    | with_reducible refine DV.w_notIn ?_
    | with_reducible refine DV.w_notInB ?_
    | with_reducible refine DV.w_ix0 ?_
    | with_reducible refine DV.w_ix1 ?_
    | with_reducible refine DV.w_ix (by omega) ?_
    | with_reducible refine DV.w_ixB (by omega) ?_
    | with_reducible refine DV.w_len ?_
    | with_reducible refine DV.w_lenB ?_
    | with_reducible refine DV.w_lenN ?_
    | with_reducible refine DV.w_lenM ?_
    | with_reducible refine DV.w_lenMB ?_
    | with_reducible refine DV.w_lenMN ?_
    | with_reducible refine DV.w_lenD ?_
    | with_reducible refine DV.w_lenDB ?_
    | with_reducible refine DV.w_lenDN ?_
    | with_reducible refine DV.w_tupN ?_
    | with_reducible refine DV.w_tupB ?_
    | with_reducible refine DV.w_tupD ?_
    | with_reducible refine DV.w_lstD ?_
    | with_reducible refine DV.w_lstB ?_
    | with_reducible refine DV.w_lstN ?_
    | with_reducible refine DV.w_sum ?_
    | with_reducible refine DV.w_sumN ?_
    | with_reducible refine DV.w_sumB ?_
    | with_reducible refine DV.w_max2 ?_
    | with_reducible refine DV.w_min2 ?_
    | with_reducible refine DV.w_int ?_
    | with_reducible refine DV.w_sort ?_
    | with_reducible refine DV.w_sortN ?_
    | with_reducible refine DV.w_sortB ?_
    | with_reducible refine DV.w_rep (by omega) ?_
    | with_reducible refine DV.w_repN (by omega) ?_
    | with_reducible refine DV.w_moveG (by with_unfolding_all exact rfl) (by with_unfolding_all (simp only [List.set_cons_succ, List.set_cons_zero]; rfl)) ?_
    | with_reducible refine DV.w_moveO (by with_unfolding_all exact rfl) (by with_unfolding_all (simp only [List.set_cons_succ, List.set_cons_zero]; rfl)) ?_
    | with_reducible refine DV.w_moveD (by with_unfolding_all exact rfl) (by with_unfolding_all (simp only [List.set_cons_succ, List.set_cons_zero]; rfl)) ?_
    | with_reducible refine DV.w_catTI (by (try simp only [List.length_append, List.length_take, List.length_drop, List.length_cons, List.length_nil]); omega) ?_
    | with_reducible refine DV.w_catT1 (by (try simp only [List.length_append, List.length_take, List.length_drop, List.length_cons, List.length_nil]); omega) ?_
    | with_reducible refine DV.w_listG ?_
    | with_reducible refine DV.w_sortK ?_
    | with_reducible refine DV.w_colS ?_
    | with_reducible refine DV.w_itT ?_
    | with_reducible refine DV.w_itB ?_
    | with_reducible refine DV.w_itN ?_
    | with_reducible refine DV.w_colR ?_
    | with_reducible refine DV.w_colRN (by omega) ?_
    | with_reducible refine DV.w_ext (by with_unfolding_all exact rfl) ?_
    | with_reducible refine DV.w_lc2 ?_
    | with_reducible refine DV.w_isT ?_
    | with_reducible refine DV.w_isNN ?_
    | with_reducible refine DV.w_isNI ?_
    | with_reducible refine DV.w_isNT ?_
    | with_reducible refine DV.w_ntNN ?_
    | with_reducible refine DV.w_ntNI ?_
    | with_reducible refine DV.w_ntNT ?_
    | with_reducible refine DV.w_repND (by omega) ?_
    | with_reducible refine DV.w_put (by with_unfolding_all exact rfl) ?_
    | with_reducible refine DV.w_putI (by (try simp only [List.length_set, List.length_replicate, List.length_map]); omega) ?_
    | with_reducible refine DV.w_eqB0 ?_
    | with_reducible refine DV.w_neB0 ?_
    | with_reducible refine DV.w_eqBB ?_
    | with_reducible refine DV.w_neBB ?_
    | with_reducible refine DV.w_eqNB ?_
    | with_reducible refine DV.w_neNB ?_
    | with_reducible refine DV.w_eqBN ?_
    | with_reducible refine DV.w_neBN ?_
    | with_reducible refine DV.w_eqT0 ?_
    | with_reducible refine DV.w_neT0 ?_
    | with_reducible refine DV.w_eqT ?_
    | with_reducible refine DV.w_neT ?_
    | with_reducible refine DV.w_gget ?_
    | with_reducible refine DV.w_dc ?_
    | with_reducible refine DV.w_dcN ?_
    | with_reducible refine DV.w_G ?_
    | with_reducible refine DV.w_gput ?_
    | with_reducible refine DV.w_gnew ?_
    | with_reducible refine DV.w_g1 ?_
    | with_reducible refine DV.w_ret ?_
    | with_reducible refine DV.w_slice ?_
    | with_reducible refine DV.w_part ?_
    | with_reducible refine DV.w_slToI (by omega) ?_
    | with_reducible refine DV.w_slFromI (by omega) ?_
    | with_reducible refine DV.w_slToBI (by omega) ?_
    | with_reducible refine DV.w_slFromBI (by omega) ?_
    | with_reducible refine DV.w_star ?_
    | with_reducible refine DV.w_starT ?_
    | with_reducible refine DV.w_starB ?_
    | with_reducible refine DV.w_starN ?_
    | with_reducible refine DV.w_ixR (by omega) ?_
    | with_reducible refine DV.w_ixRB (by omega) ?_
    | with_reducible refine DV.w_lrg ?_
    | with_reducible refine DV.w_trg ?_
    | with_reducible refine DV.w_rg (by omega) ?_
    | with_reducible refine DV.w_enum ?_
    | with_reducible refine DV.w_zip ?_
    | with_reducible refine DV.w_zip3 ?_
    | with_reducible refine DV.w_step ?_
    | with_reducible refine DV.w_stepB (by omega) ?_
    | with_reducible refine DV.w_srev ?_
    | with_reducible refine DV.w_srevT ?_
    | with_reducible refine DV.w_isTT ?_
    | with_reducible refine DV.w_ntTT ?_
    | with_reducible refine DV.w_isFT ?_
    | with_reducible refine DV.w_ntFT ?_
    | with_reducible refine DV.w_isTF ?_
    | with_reducible refine DV.w_ntTF ?_
    | with_reducible refine DV.w_isFF ?_
    | with_reducible refine DV.w_ntFF ?_
    | with_reducible refine DV.w_ixS (by omega) ?_
    | with_reducible refine DV.w_ix2 ?_
    | with_reducible refine DV.w_gget2 ?_
    | with_reducible refine DV.w_notInTs ?_
    | with_reducible refine DV.w_inTs ?_
    | with_reducible refine DV.w_inTsN ?_
    | with_reducible refine DV.w_sset ?_
    | with_reducible refine DV.w_ssetU (by omega) (by assumption) ?_
    | with_reducible refine DV.w_met ?_
    | with_reducible refine DV.w_itL ?_
    | with_reducible refine DV.w_two ?_
    | with_reducible refine DV.w_twoX ?_
    | with_reducible refine DV.w_neS ?_
    | with_reducible refine DV.w_eqS ?_
    | with_reducible refine DV.w_rev ?_
    | with_reducible refine DV.w_revN ?_
    | with_reducible refine DV.w_lset ?_
    | with_reducible refine DV.w_isNL ?_
    | with_reducible refine DV.w_isBL ?_
    | with_reducible refine DV.w_ntNL ?_
    | with_reducible refine DV.w_ntBL ?_
    | with_reducible refine DV.w_abs ?_
    | with_reducible refine DV.w_neBl ?_
    | with_reducible refine DV.w_eqBl ?_
    | with_reducible refine DV.w_eqIP ?_
    | with_reducible refine DV.w_neIP ?_
    | with_reducible refine DV.w_ix3 ?_
    | with_reducible refine DVR.w_neW ?_
    | with_reducible refine DVR.w_ixL (by omega) ?_
    | with_reducible refine DV.w_dcomp ?_
    | with_reducible refine DV.w_intB ?_
    | with_reducible refine DV.w_augIx (by with_unfolding_all exact rfl) ?_
    | with_reducible refine DV.w_inN ?_
    | with_reducible refine DV.w_notInN ?_
    | with_reducible refine DV.w_srcE ?_
    | with_reducible refine DV.w_srcV (by with_unfolding_all exact rfl) ?_
    | with_reducible refine DV.w_src (by with_unfolding_all exact rfl) ?_
    | with_reducible refine DV.w_rng1 ?_
    | with_reducible refine DV.w_rng2 ?_
    | with_reducible refine DV.w_rng2I (by omega) ?_
    | with_reducible refine DV.w_rngN (by omega) ?_
    | with_reducible refine DV.w_rngI (by omega) ?_
    | with_reducible refine DV.w_loopN ?_
    | with_reducible refine DV.w_loopC ?_
    | with_reducible refine DV.w_loopB ?_
    | with_reducible refine DV.w_loopR ?_
    | with_reducible refine DV.w_runN ?_
    | with_reducible refine DV.w_runR ?_
    | with_reducible refine DV.w_tg (by with_unfolding_all (simp only [DV.lockE, DV.unlockE, List.getElem?_cons_succ, List.getElem?_cons_zero, DV.wipeE, DV.gTupF, DV.gMore, DV.gNone, DV.gNm, List.set_cons_succ, List.set_cons_zero, List.length]; rfl)) ?_)
theorem w_notInTsB {P : RV → Prop} {K : List Int} {L : List (List Int)} (p : P (.d (.bool (!decide (K ∈ L))))) : K2 gNotIn P (.d (ti K)) (.b (L.map ti)) := ⟨_, notIn_tis, p⟩
end DVJ

namespace Lk89
open PySem L2 DV DVL DVH
local macro_rules
  | `(tactic| get_elem_tactic_trivial) => `(tactic| first
    | (simp only [List.set_cons_succ, List.set_cons_zero, DV.startE, DV.lawE, DV.toK, DV.lockE, DV.wipeE, List.map_cons, List.map_nil, List.length_cons, List.length_nil, List.replicate_zero, List.replicate_succ, Nat.reduceSub, Nat.reduceAdd, List.append_nil, List.cons_append, List.nil_append]; rfl)
    | exact rfl)
local macro_rules
  | `(tactic| infer_instance) => `(tactic| first
    | with_reducible refine DV.w_cons ?_
    | with_reducible refine DV.w_var (by with_unfolding_all exact rfl) ?_
    | with_reducible refine DV.w_c ?_
    | with_reducible refine DV.w_nil ?_
    | with_reducible refine DV.w_e2 ?_
    | with_reducible refine DV.w_seq ?_
    | with_reducible refine DV.w_seqN ?_
    | with_reducible refine DV.w_seqR ?_
    | with_reducible refine DV.w_seqB ?_
    | with_reducible refine DV.w_seqC ?_
    | with_reducible refine DV.w_call ?_
    | with_reducible refine DV.w_fn ?_
    | with_reducible refine DV.w_f1 ?_
    | with_reducible refine DV.w_f2 ?_
    | with_reducible refine DV.w_f3 ?_
    | with_reducible refine DV.w_f4 ?_
    | with_reducible refine DV.w_f5 ?_
    | with_reducible refine DV.w_f6 ?_
    | with_reducible refine DV.w_set ?_
    | with_reducible refine DV.w_setApp ?_
    | with_reducible refine DV.w_setX (by with_unfolding_all exact rfl) (by with_unfolding_all (simp only [List.set_cons_succ, List.set_cons_zero]; rfl)) ?_
    | with_reducible refine DV.w_rt ?_
    | with_reducible refine DV.w_rtD ?_
    | with_reducible refine DV.w_rtN ?_
    | with_reducible refine DV.w_rtV (by with_unfolding_all exact rfl) ?_
    | with_reducible refine DV.w_if ?_
    | with_reducible refine DV.w_drop ?_
    | with_reducible refine DV.w_nop ?_
    | with_reducible refine DV.w_T ?_
    | with_reducible refine DV.w_B ?_
    | with_reducible refine DV.w_not ?_
    | with_reducible refine DV.w_and ?_
    | with_reducible refine DV.w_or ?_
    | with_reducible refine DV.w_ifT ?_
    | with_reducible refine DV.w_ifF ?_
    | with_reducible refine DV.w_ifNT ?_
    | with_reducible refine DV.w_ifNF ?_
    | with_reducible refine DV.w_stup ?_
    | with_reducible refine DV.w_stupD (by with_unfolding_all (simp only [DV.wipeE, DV.gTupF, DV.gMore, DV.gNone, DV.gNm, List.set_cons_succ, List.set_cons_zero, List.length]; rfl)) ?_
    | with_reducible refine DV.w_aug (by with_unfolding_all exact rfl) ?_
    | with_reducible refine DV.w_I ?_
    | with_reducible refine DV.w_app (by with_unfolding_all exact rfl) (by simp only [List.length_map]; omega) ?_
    | with_reducible refine DV.w_D ?_
    | with_reducible refine DV.w_for ?_
    | with_reducible refine DV.w_lc ?_
    | with_reducible refine DV.w_par ?_
    | with_reducible refine DV.w_par3 ?_
    | with_reducible refine DV.w_par4 ?_
    | with_reducible refine DV.w_parX (by with_unfolding_all exact rfl) (by with_unfolding_all exact rfl) (by with_unfolding_all (simp only [List.set_cons_succ, List.set_cons_zero]; rfl)) ?_
    | with_reducible refine DV.w_par3X (by with_unfolding_all exact rfl) (by with_unfolding_all exact rfl) (by with_unfolding_all exact rfl) (by with_unfolding_all (simp only [List.set_cons_succ, List.set_cons_zero]; rfl)) ?_
    | with_reducible refine DV.w_par4X (by with_unfolding_all exact rfl) (by with_unfolding_all exact rfl) (by with_unfolding_all exact rfl) (by with_unfolding_all exact rfl) (by with_unfolding_all (simp only [List.set_cons_succ, List.set_cons_zero]; rfl)) ?_
    | with_reducible refine DV.w_tup ?_
    | with_reducible refine DV.w_lst ?_
    | with_reducible refine DV.w_tu (by with_unfolding_all exact rfl) (by with_unfolding_all exact Nat.le_of_ble_eq_true rfl) ?_
    | with_reducible refine DV.w_ls (by with_unfolding_all exact rfl) (by with_unfolding_all exact Nat.le_of_ble_eq_true rfl) ?_
    | with_reducible refine DV.w_neg ?_
    | with_reducible refine DV.w_ifB ?_
    | with_reducible refine DV.w_ifE ?_
    | with_reducible refine DV.w_notB ?_
    | with_reducible refine DV.w_tt ?_
    | with_reducible refine DV.w_ch ?_
    | with_reducible refine DV.w_add ?_
    | with_reducible refine DV.w_sub ?_
    | with_reducible refine DV.w_mul (by first | omega | (left; constructor <;> omega) | (right; constructor <;> omega)) ?_
    | with_reducible refine DV.w_mod (by omega) ?_
    | with_reducible refine DV.w_div (by omega) ?_
    | with_reducible refine DV.w_lt ?_
    | with_reducible refine DV.w_le ?_
    | with_reducible refine DV.w_gt ?_
    | with_reducible refine DV.w_ge ?_
    | with_reducible refine DV.w_ltA ?_
    | with_reducible refine DV.w_leA ?_
    | with_reducible refine DV.w_gtA ?_
    | with_reducible refine DV.w_geA ?_
    | with_reducible refine DV.w_eq ?_
    | with_reducible refine DV.w_ne ?_
    | with_reducible refine DV.w_eqB ?_
    | with_reducible refine DV.w_neB ?_
    | with_reducible refine DV.w_eqN ?_
    | with_reducible refine DV.w_neN ?_
    | with_reducible refine DV.w_eqN0 ?_
    | with_reducible refine DV.w_neN0 ?_
    | with_reducible refine DV.w_in ?_
    | with_reducible refine DV.w_inB ?_
    | with_reducible refine DV.w_notIn ?_
    | with_reducible refine DV.w_notInB ?_
    | with_reducible refine DV.w_ix0 ?_
    | with_reducible refine DV.w_ix1 ?_
    | with_reducible refine DV.w_ix (by omega) ?_
    | with_reducible refine DV.w_ixB (by omega) ?_
    | with_reducible refine DV.w_len ?_
    | with_reducible refine DV.w_lenB ?_
    | with_reducible refine DV.w_lenN ?_
    | with_reducible refine DV.w_lenM ?_
    | with_reducible refine DV.w_lenMB ?_
    | with_reducible refine DV.w_lenMN ?_
    | with_reducible refine DV.w_lenD ?_
    | with_reducible refine DV.w_lenDB ?_
    | with_reducible refine DV.w_lenDN ?_
    | with_reducible refine DV.w_tupN ?_
    | with_reducible refine DV.w_tupB ?_
    | with_reducible refine DV.w_tupD ?_
    | with_reducible refine DV.w_lstD ?_
    | with_reducible refine DV.w_lstB ?_
    | with_reducible refine DV.w_lstN ?_
    | with_reducible refine DV.w_sum ?_
    | with_reducible refine DV.w_sumN ?_
    | with_reducible refine DV.w_sumB ?_
    | with_reducible refine DV.w_max2 ?_
    | with_reducible refine DV.w_min2 ?_
    | with_reducible refine DV.w_int ?_
    | with_reducible refine DV.w_sort ?_
    | with_reducible refine DV.w_sortN ?_
    | with_reducible refine DV.w_sortB ?_
    | with_reducible refine DV.w_rep (by omega) ?_
    | with_reducible refine DV.w_repN (by omega) ?_
    | with_reducible refine DV.w_moveG (by with_unfolding_all exact rfl) (by with_unfolding_all (simp only [List.set_cons_succ, List.set_cons_zero]; rfl)) ?_
    | with_reducible refine DV.w_moveO (by with_unfolding_all exact rfl) (by with_unfolding_all (simp only [List.set_cons_succ, List.set_cons_zero]; rfl)) ?_
    | with_reducible refine DV.w_moveD (by with_unfolding_all exact rfl) (by with_unfolding_all (simp only [List.set_cons_succ, List.set_cons_zero]; rfl)) ?_
    | with_reducible refine DV.w_catTI (by (try simp only [List.length_append, List.length_take, List.length_drop, List.length_cons, List.length_nil]); omega) ?_
    | with_reducible refine DV.w_catT1 (by (try simp only [List.length_append, List.length_take, List.length_drop, List.length_cons, List.length_nil]); omega) ?_
    | with_reducible refine DV.w_listG ?_
    | with_reducible refine DV.w_sortK ?_
    | with_reducible refine DV.w_colS ?_
    | with_reducible refine DV.w_itT ?_
    | with_reducible refine DV.w_itB ?_
    | with_reducible refine DV.w_itN ?_
    | with_reducible refine DV.w_colR ?_
    | with_reducible refine DV.w_colRN (by omega) ?_
    | with_reducible refine DV.w_ext (by with_unfolding_all exact rfl) ?_
    | with_reducible refine DV.w_lc2 ?_
    | with_reducible refine DV.w_isT ?_
    | with_reducible refine DV.w_isNN ?_
    | with_reducible refine DV.w_isNI ?_
    | with_reducible refine DV.w_isNT ?_
    | with_reducible refine DV.w_ntNN ?_
    | with_reducible refine DV.w_ntNI ?_
    | with_reducible refine DV.w_ntNT ?_
    | with_reducible refine DV.w_repND (by omega) ?_
    | with_reducible refine DV.w_put (by with_unfolding_all exact rfl) ?_
    | with_reducible refine DV.w_putI (by (try simp only [List.length_set, List.length_replicate, List.length_map]); omega) ?_
    | with_reducible refine DV.w_eqB0 ?_
    | with_reducible refine DV.w_neB0 ?_
    | with_reducible refine DV.w_eqBB ?_
    | with_reducible refine DV.w_neBB ?_
    | with_reducible refine DV.w_eqNB ?_
    | with_reducible refine DV.w_neNB ?_
    | with_reducible refine DV.w_eqBN ?_
    | with_reducible refine DV.w_neBN ?_
    | with_reducible refine DV.w_eqT0 ?_
    | with_reducible refine DV.w_neT0 ?_
    | with_reducible refine DV.w_eqT ?_
    | with_reducible refine DV.w_neT ?_
    | with_reducible refine DV.w_gget ?_
    | with_reducible refine DV.w_dc ?_
    | with_reducible refine DV.w_dcN ?_
    | with_reducible refine DV.w_G ?_
    | with_reducible refine DV.w_gput ?_
    | with_reducible refine DV.w_gnew ?_
    | with_reducible refine DV.w_g1 ?_
    | with_reducible refine DV.w_ret ?_
    | with_reducible refine DV.w_slice ?_
    | with_reducible refine DV.w_part ?_
    | with_reducible refine DV.w_slToI (by omega) ?_
    | with_reducible refine DV.w_slFromI (by omega) ?_
    | with_reducible refine DV.w_slToBI (by omega) ?_
    | with_reducible refine DV.w_slFromBI (by omega) ?_
    | with_reducible refine DV.w_star ?_
    | with_reducible refine DV.w_starT ?_
    | with_reducible refine DV.w_starB ?_
    | with_reducible refine DV.w_starN ?_
    | with_reducible refine DV.w_ixR (by omega) ?_
    | with_reducible refine DV.w_ixRB (by omega) ?_
    | with_reducible refine DV.w_lrg ?_
    | with_reducible refine DV.w_trg ?_
    | with_reducible refine DV.w_rg (by omega) ?_
    | with_reducible refine DV.w_enum ?_
    | with_reducible refine DV.w_zip ?_
    | with_reducible refine DV.w_zip3 ?_
    | with_reducible refine DV.w_step ?_
    | with_reducible refine DV.w_stepB (by omega) ?_
    | with_reducible refine DV.w_srev ?_
    | with_reducible refine DV.w_srevT ?_
    | with_reducible refine DV.w_isTT ?_
    | with_reducible refine DV.w_ntTT ?_
    | with_reducible refine DV.w_isFT ?_
    | with_reducible refine DV.w_ntFT ?_
    | with_reducible refine DV.w_isTF ?_
    | with_reducible refine DV.w_ntTF ?_
    | with_reducible refine DV.w_isFF ?_
    | with_reducible refine DV.w_ntFF ?_
    | with_reducible refine DV.w_ixS (by omega) ?_
    | with_reducible refine DV.w_ix2 ?_
    | with_reducible refine DV.w_gget2 ?_
    | with_reducible refine DV.w_notInTs ?_
    | with_reducible refine DV.w_inTs ?_
    | with_reducible refine DV.w_inTsN ?_
    | with_reducible refine DV.w_sset ?_
    | with_reducible refine DV.w_ssetU (by omega) (by assumption) ?_
    | with_reducible refine DV.w_met ?_
    | with_reducible refine DV.w_itL ?_
    | with_reducible refine DV.w_two ?_
    | with_reducible refine DV.w_twoX ?_
    | with_reducible refine DV.w_neS ?_
    | with_reducible refine DV.w_eqS ?_
    | with_reducible refine DV.w_rev ?_
    | with_reducible refine DV.w_revN ?_
    | with_reducible refine DV.w_lset ?_
    | with_reducible refine DV.w_isNL ?_
    | with_reducible refine DV.w_isBL ?_
    | with_reducible refine DV.w_ntNL ?_
    | with_reducible refine DV.w_ntBL ?_
    | with_reducible refine DV.w_abs ?_
    | with_reducible refine DV.w_neBl ?_
    | with_reducible refine DV.w_eqBl ?_
    | with_reducible refine DV.w_eqIP ?_
    | with_reducible refine DV.w_neIP ?_
    | with_reducible refine DV.w_ix3 ?_
    | with_reducible refine DVR.w_neW ?_
    | with_reducible refine DVR.w_ixL (by omega) ?_
    | with_reducible refine DV.w_dcomp ?_
    | with_reducible refine DV.w_intB ?_
    | with_reducible refine DV.w_augIx (by with_unfolding_all exact rfl) ?_
    | with_reducible refine DV.w_inN ?_
    | with_reducible refine DV.w_notInN ?_
    | with_reducible refine DV.w_srcE ?_
    | with_reducible refine DV.w_srcV (by with_unfolding_all exact rfl) ?_
    | with_reducible refine DV.w_src (by with_unfolding_all exact rfl) ?_
    | with_reducible refine DV.w_rng1 ?_
    | with_reducible refine DV.w_rng2 ?_
    | with_reducible refine DV.w_rng2I (by omega) ?_
    | with_reducible refine DV.w_rngN (by omega) ?_
    | with_reducible refine DV.w_rngI (by omega) ?_
    | with_reducible refine DV.w_loopN ?_
    | with_reducible refine DV.w_loopC ?_
    | with_reducible refine DV.w_loopB ?_
    | with_reducible refine DV.w_loopR ?_
    | with_reducible refine DV.w_runN ?_
    | with_reducible refine DV.w_runR ?_
    | with_reducible refine DV.w_tg (by with_unfolding_all (simp only [DV.lockE, DV.unlockE, List.getElem?_cons_succ, List.getElem?_cons_zero, DV.wipeE, DV.gTupF, DV.gMore, DV.gNone, DV.gNm, List.set_cons_succ, List.set_cons_zero, List.length]; rfl)) ?_)
local macro_rules
  | `(tactic| infer_instance) => `(tactic| first
    | with_reducible refine r0_ ?_
    | with_reducible refine r1_ ?_)
theorem w_insA {i : Nat} {ρ : DV.Env} {f h : DV.Env → DV.M RV} {Q : Out → Prop} {ds : List D} (e1 : sApp.own? ρ i = some ds) (p : DV.Gives (f ρ) fun x => ∃ j, asInt x = some j ∧ DV.Gives (h ρ) fun y => ∃ d, toD y = some d ∧ (ds.length < 100000 ∧ 0 ≤ j ∧ j ≤ 100000) ∧ Q (.nx (ρ.set i (some (.o (ds.take j.toNat ++ [d] ++ ds.drop j.toNat)))))) : DV.Gives (sIns i f h ρ) Q := by
  unfold sIns
  rw [e1, lft_s, bnd_ret]
  refine Gives.bnd p fun x ⟨j, e2, q⟩ => ?_
  rw [e2, lft_s, bnd_ret]
  refine Gives.bnd q fun y ⟨d, e3, c, q2⟩ => ?_
  rw [e3, lft_s, bnd_ret, if_pos c]
  exact Gives.ret q2
theorem srt_ins {M : List Rat} {v : Rat} {a : Nat} (hM : M.Pairwise fun p q => q < p) (hv : v ∉ M) (ha : a ≤ M.length) (h1 : ∀ i (h : i < M.length), i < a → v < M[i]) (h2 : ∀ h : a < M.length, ¬ v < M[a]) :
    (M.take a ++ [v] ++ M.drop a).Pairwise (fun p q => q < p) := by
  have hP := hM
  rw [← List.take_append_drop a M] at hP
  obtain ⟨p1, p2, p3⟩ := List.pairwise_append.mp hP
  have ht : ∀ p ∈ M.take a, v < p := fun p hp => by
    obtain ⟨i, hi, rfl⟩ := List.getElem_of_mem hp
    rw [List.length_take] at hi
    rw [List.getElem_take]
    exact h1 i (by omega) (by omega)
  have hd : ∀ p ∈ M.drop a, p < v := fun p hp => by
    have hm := List.mem_of_mem_drop hp
    have hne : p ≠ v := fun e => hv (by rw [← e]; exact hm)
    obtain ⟨i, hi, rfl⟩ := List.getElem_of_mem hp
    rw [List.length_drop] at hi
    rw [List.getElem_drop] at hne ⊢
    have h3 := h2 (by omega)
    have h4 : M[a + i] ≤ M[a] := by
      by_cases c : i = 0
      · subst c
        exact Rat.le_refl
      · have := List.pairwise_iff_getElem.mp hM a (a + i) (by omega) (by omega) (by omega)
        grind
    grind
  rw [List.append_assoc]
  refine List.pairwise_append.mpr ⟨p1, List.pairwise_append.mpr ⟨List.pairwise_singleton _ _, p2, fun p hp q hq => ?_⟩, fun p hp q hq => ?_⟩
  · rw [List.mem_singleton.mp hp]
    exact hd q hq
  · rcases List.mem_append.mp hq with z | z
    · rw [List.mem_singleton.mp z]
      exact ht p hp
    · exact p3 p hp q z
theorem sorted_levels_gives {L : List Rat} (hl : L.length ≤ 10) (nd : L.Nodup) (hs : ∀ q ∈ L, Sz 3000 q) : DV.Gives (m_sorted_levels [.b (L.map qtD)]) fun r => ∃ M : List Rat, r = .n (M.map qtD) ∧ M.Perm L ∧ M.Pairwise (fun p q => q < p) := by
  unfold m_sorted_levels
  refine DV.w_run (by get_elem_tactic_trivial) ?_
  unfold g_sorted_levels
  repeat infer_instance
  refine w_loop0 (mk := qtD) (fun rest ρ => ∃ (pre M : List Rat) (y2 y3 : Option SV), L = pre ++ rest ∧ M.Perm pre ∧ M.Pairwise (fun p q => q < p) ∧ ρ = [some (.k (L.map qtD)), some (.o (M.map qtD)), y2, y3]) ⟨[], [], _, _, rfl, List.Perm.nil, .nil, rfl⟩ ?_ ?_
  · rintro v rest ρ ⟨pre, M, y2, y3, er, hM, hP, rfl⟩
    have hvL : v ∈ L := by rw [er]; simp
    have hvM : v ∉ M := fun z => by
      have := hM.mem_iff.mp z
      rw [er] at nd
      exact (List.nodup_append.mp nd).2.2 v this v List.mem_cons_self rfl
    have hMl : M.length + 1 ≤ 10 := by
      have := congrArg List.length er
      rw [List.length_append, List.length_cons] at this
      have := hM.length_eq
      omega
    have hMs : ∀ q ∈ M, Sz 3000 q := fun q hq => hs q (by rw [er]; exact List.mem_append_left _ (hM.mem_iff.mp hq))
    repeat infer_instance
    refine w_while (fun k ρ => ∃ a : Nat, k = M.length - a ∧ a ≤ M.length ∧ (∀ i (h : i < M.length), i < a → v < M[i]) ∧ ρ = [some (.k (L.map qtD)), some (.o (M.map qtD)), some (.d (qtD v)), some (.d (.int (a : Nat)))]) M.length _ (by omega) ⟨0, by omega, Nat.zero_le _, (fun i h z => absurd z (Nat.not_lt_zero _)), rfl⟩ ?_
    rintro k ρ ⟨a, hk, ha, hlt, rfl⟩
    have fin : (∀ h : a < M.length, ¬ v < M[a]) → ∃ (pre' M' : List Rat) (y2 y3 : Option SV), L = pre' ++ rest ∧ M'.Perm pre' ∧ M'.Pairwise (fun p q => q < p) ∧ [some (SV.k (L.map qtD)), some (.o ((M.map qtD).take ((a : Int)).toNat ++ [qtD v] ++ (M.map qtD).drop ((a : Int)).toNat)), some (.d (qtD v)), some (.d (.int (a : Nat)))] = [some (.k (L.map qtD)), some (.o (M'.map qtD)), y2, y3] := fun h => by
      refine ⟨pre ++ [v], M.take a ++ [v] ++ M.drop a, some (.d (qtD v)), some (.d (.int (a : Nat))), by rw [er, List.append_assoc]; rfl, ?_, srt_ins hP hvM ha hlt h, ?_⟩
      · have h1 : (M.take a ++ [v] ++ M.drop a).Perm (v :: M) := by
          rw [List.append_assoc]
          refine List.perm_middle.trans ?_
          show (v :: (M.take a ++ M.drop a)).Perm _
          rw [List.take_append_drop]
        exact h1.trans ((hM.cons v).trans (List.perm_append_singleton v pre).symm)
      · rw [Int.toNat_natCast, List.map_append, List.map_append, List.map_take, List.map_drop]
        rfl
    repeat infer_instance
    refine w_dec (fun c1 => ?_) (fun c1 => ?_)
    · have haM : a < M.length := by omega
      repeat infer_instance
      refine w_ixMB (L := M) (mk := qtD) (by omega) (by rw [Int.toNat_natCast]; exact List.getElem?_eq_getElem haM) ?_
      repeat infer_instance
      refine w_is (is_less_gives (hs v hvL) (hMs _ (List.getElem_mem haM))) ?_
      repeat infer_instance
      refine w_dec (fun c2 => ?_) (fun c2 => ?_)
      · refine ⟨k - 1, by omega, ?_⟩
        repeat infer_instance
        refine ⟨a + 1, by omega, by omega, fun i h h2 => ?_, rfl⟩
        by_cases c : i < a
        · exact hlt i h c
        · have : i = a := by omega
          subst this
          exact c2
      · repeat infer_instance
        refine w_insA (by with_unfolding_all exact rfl) ?_
        repeat infer_instance
        refine ⟨_, rfl, ?_⟩
        repeat infer_instance
        refine ⟨_, rfl, ⟨by rw [List.length_map]; omega, by omega, by omega⟩, ?_⟩
        exact fin fun _ => c2
    · repeat infer_instance
      refine w_insA (by with_unfolding_all exact rfl) ?_
      repeat infer_instance
      refine ⟨_, rfl, ?_⟩
      repeat infer_instance
      refine ⟨_, rfl, ⟨by rw [List.length_map]; omega, by omega, by omega⟩, ?_⟩
      exact fin fun h => absurd h (by omega)
  · rintro ρ ⟨pre, M, y2, y3, er, hM, hP, rfl⟩
    rw [List.append_nil] at er
    repeat infer_instance
    exact ⟨M, rfl, by rw [er]; exact hM, hP⟩
def fst_ (ss : List Int) : List Int := (DV.sortI ss).reverse
def fsm (ss : List Int) (k : Nat) : Int := ((fst_ ss).take k).sum
def Fs (ss : List Int) (k : Nat) : Rat := (fsm ss k : Rat)
theorem fsm_cut (ss : List Int) (a b : Nat) : ((((fst_ ss).drop a).take b).sum : Int) = fsm ss (a + b) - fsm ss a := by
  unfold fsm
  rw [List.take_add, List.sum_append]
  omega
theorem w_slTwoB {P : RV → Prop} {L : List Int} {a b : Nat} (p : P (.n ((((L.drop a).take b)).map PyData.int))) : KSl P (.b (L.map PyData.int)) (some (a : Int)) (some ((a : Int) + (b : Int))) := Gives.ret (by
  have e : cutD (L.map PyData.int) (some (a : Int)) (some ((a : Int) + (b : Int))) = ((L.drop a).take b).map PyData.int := by
    unfold cutD
    rw [show (a : Int) + (b : Int) = ((a + b : Nat) : Int) from rfl, HT.sIx_nat, HT.sIx_nat, List.length_map, List.map_take, List.map_drop]
    by_cases h : a ≤ L.length
    · rw [Nat.min_eq_left h]
      by_cases h2 : a + b ≤ L.length
      · rw [Nat.min_eq_left h2, Nat.add_sub_cancel_left]
      · rw [Nat.min_eq_right (by omega), List.take_of_length_le (by rw [List.length_drop, List.length_map]; omega), List.take_of_length_le (by rw [List.length_drop, List.length_map]; omega)]
    · rw [Nat.min_eq_right (by omega), Nat.min_eq_right (by omega), List.drop_of_length_le (by rw [List.length_map]; omega), List.drop_of_length_le (by rw [List.length_map]; omega), List.take_nil, List.take_nil]
  rw [e]
  exact p)
theorem enI_rg (n : Nat) : ∀ k : Nat, enI (k : Int) (List.range' k n) = (List.range' k n).map fun j : Nat => ((j : Int), j) := by
  induction n with
  | zero => exact fun k => rfl
  | succ n ih =>
    intro k
    rw [List.range'_succ]
    show ((k : Int), k) :: enI ((k : Int) + 1) _ = _
    rw [show (k : Int) + 1 = ((k + 1 : Nat) : Int) from rfl, ih (k + 1)]
    rfl
theorem enI_range (n : Nat) : enI (0 : Int) (List.range n) = (List.range n).map fun j : Nat => ((j : Int), j) := by
  rw [List.range_eq_range']
  exact enI_rg n 0
def kq (q : Rat) : List Int := [q.num, (q.den : Int)]
theorem kq_inj {p q : Rat} (h : kq p = kq q) : p = q := by
  injection h with h1 h2
  injection h2 with h2 _
  exact Rat.ext h1 (by exact_mod_cast h2)
theorem w_notInQ {P : RV → Prop} {q : Rat} {L : List Rat} (p : P (.d (.bool (!decide (q ∈ L))))) : K2 gNotIn P (.d (qtD q)) (.b (L.map qtD)) := by
  have e : L.map qtD = (L.map kq).map ti := by rw [List.map_map]; rfl
  rw [e]
  refine DVJ.w_notInTsB (K := kq q) ?_
  have : decide (kq q ∈ L.map kq) = decide (q ∈ L) := decide_eq_decide.mpr ⟨fun h => by
    obtain ⟨z, hz, e⟩ := List.mem_map.mp h
    rw [← kq_inj e]; exact hz, fun h => List.mem_map.mpr ⟨q, h, rfl⟩⟩
  rw [this]
  exact p
theorem w_eqQ {P : RV → Prop} {p q : Rat} (h : P (.d (.bool (decide (p = q))))) : K2 gEq P (.d (qtD p)) (.d (qtD q)) := by
  refine w_eqT (a := kq p) (b := kq q) ?_
  rw [decide_eq_decide.mpr ⟨fun e => kq_inj e, fun e => by rw [e]⟩]
  exact h
theorem w_neQ {P : RV → Prop} {p q : Rat} (h : P (.d (.bool (!decide (p = q))))) : K2 gNe P (.d (qtD p)) (.d (qtD q)) := by
  refine w_neT (a := kq p) (b := kq q) ?_
  rw [decide_eq_decide.mpr ⟨fun e => kq_inj e, fun e => by rw [e]⟩]
  exact h
local macro_rules
  | `(tactic| infer_instance) => `(tactic| first
    | with_reducible refine w_notInQ ?_
    | with_reducible refine w_eqQ ?_
    | with_reducible refine w_neQ ?_)
section
variable {n : Nat} {x : Nat → Rat} {ss : List Int}
/-- the jobs of some levels -/
def onL (n : Nat) (x : Nat → Rat) (T : List Rat) : List Nat := (List.range n).filter fun j => decide (x j ∈ T)
abbrev leftD (n : Nat) (x : Nat → Rat) : List D := (List.range n).map fun j => qtD (x j)
abbrev envR (n : Nat) (x : Nat → Rat) (ss : List Int) (G T : List Rat) (ℓ : Rat) (y5 y8 y9 : Option SV) : DV.Env := [some (.k (leftD n x)), some (.d (ti ss)), some (.o ((fst_ ss).map PyData.int)), some (.o (G.map qtD)), some (.o (T.map qtD)), y5, some (.d (.int (((abv n x ℓ).length : Int) + ((eqv n x ℓ).length : Int)))), some (.d (qtD ℓ)), y8, y9, some (.o (((((fst_ ss).drop (abv n x ℓ).length).take (eqv n x ℓ).length)).map PyData.int))]
theorem rates_of_gives (C : Cc (Fs ss)) (hn : n ≤ 5) (h1 : 1 ≤ n) (hss : ss.length ≤ 10) (hx : ∀ j, j < n → Sz 500 (x j)) :
    DV.Gives (m_rates_of [.b (leftD n x), .d (ti ss)]) fun r => r = .n ((List.range n).map fun j => qtD (rt (Fs ss) n x j)) := by
  have hln : (leftD n x).length = n := by unfold leftD; rw [List.length_map, List.length_range]
  unfold m_rates_of
  refine DV.w_run (by get_elem_tactic_trivial) ?_
  unfold g_rates_of
  repeat infer_instance
  refine ⟨ss, rfl, ?_⟩
  repeat infer_instance
  rw [List.length_range]
  refine w_repND (n := n) (by omega) ?_
  repeat infer_instance
  refine w_loop0 (L := List.range n) (mk := fun j => qtD (x j)) (fun rest ρ => ∃ (pre : List Nat) (T : List Rat) (y5 : Option SV), List.range n = pre ++ rest ∧ T.Nodup ∧ T.length ≤ pre.length ∧ (∀ v ∈ T, 0 < v ∧ ∃ j ∈ pre, x j = v) ∧ (∀ j ∈ pre, 0 < x j → x j ∈ T) ∧
    ρ = [some (.k (leftD n x)), some (.d (ti ss)), some (.o ((fst_ ss).map PyData.int)), some (.o (List.replicate n (qtD 0))), some (.o (T.map qtD)), y5, none, none, none, none, none]) ⟨[], [], _, rfl, .nil, Nat.le_refl _, (fun _ h => nomatch h), (fun _ h => nomatch h), rfl⟩ ?_ ?_
  · rintro j rest ρ ⟨pre, T, y5, er, nT, hTl, hT1, hT2, rfl⟩
    have er2 : List.range n = (pre ++ [j]) ++ rest := by rw [er, List.append_assoc]; rfl
    have hpl : pre.length < n := by
      have := congrArg List.length er
      rw [List.length_range, List.length_append, List.length_cons] at this
      omega
    have skip : (0 < x j → x j ∈ T) → ∃ (pre : List Nat) (T' : List Rat) (y : Option SV), List.range n = pre ++ rest ∧ T'.Nodup ∧ T'.length ≤ pre.length ∧ (∀ v ∈ T', 0 < v ∧ ∃ j ∈ pre, x j = v) ∧ (∀ j ∈ pre, 0 < x j → x j ∈ T') ∧
        [some (.k (leftD n x)), some (.d (ti ss)), some (.o ((fst_ ss).map PyData.int)), some (.o (List.replicate n (qtD 0))), some (.o (T.map qtD)), some (.d (qtD (x j))), none, none, none, none, none] = [some (.k (leftD n x)), some (.d (ti ss)), some (.o ((fst_ ss).map PyData.int)), some (.o (List.replicate n (qtD 0))), some (.o (T'.map qtD)), y, none, none, none, none, none] := fun h => by
      refine ⟨pre ++ [j], T, some (.d (qtD (x j))), er2, nT, by rw [List.length_append]; omega, fun v hv => ?_, fun i hi h0 => ?_, rfl⟩
      · obtain ⟨h1, i, h2, h3⟩ := hT1 v hv
        exact ⟨h1, i, List.mem_append_left _ h2, h3⟩
      · rcases List.mem_append.mp hi with z | z
        · exact hT2 i z h0
        · rw [List.mem_singleton.mp z] at h0 ⊢
          exact h h0
    repeat infer_instance
    refine w_dec (fun c1 => ?_) (fun c1 => ?_)
    · have h0 := num_pos'.mp c1
      repeat infer_instance
      refine w_ndec (fun c2 => ?_) (fun c2 => ?_)
      · repeat infer_instance
        refine ⟨pre ++ [j], T ++ [x j], some (.d (qtD (x j))), er2, ?_, by rw [List.length_append, List.length_append]; exact Nat.add_le_add_right hTl 1, fun v hv => ?_, fun i hi h0 => ?_, by rw [List.map_append]; rfl⟩
        · exact List.nodup_append.mpr ⟨nT, List.nodup_cons.mpr ⟨List.not_mem_nil, .nil⟩, fun a ha b hb e => c2 (by rw [List.mem_singleton.mp hb] at e; rw [← e]; exact ha)⟩
        · rcases List.mem_append.mp hv with z | z
          · obtain ⟨h1, i, h2, h3⟩ := hT1 v z
            exact ⟨h1, i, List.mem_append_left _ h2, h3⟩
          · rw [List.mem_singleton.mp z]
            exact ⟨h0, j, List.mem_append_right _ (List.mem_singleton.mpr rfl), rfl⟩
        · rcases List.mem_append.mp hi with z | z
          · exact List.mem_append_left _ (hT2 i z h0)
          · rw [List.mem_singleton.mp z]
            exact List.mem_append_right _ (List.mem_singleton.mpr rfl)
      · repeat infer_instance
        exact skip fun _ => c2
    · repeat infer_instance
      exact skip fun h => absurd (num_pos'.mpr h) c1
  rintro ρ ⟨pre, T, y5, er, nT, hTl, hT1, hT2, rfl⟩
  rw [List.append_nil] at er
  subst er
  have hTs : ∀ v ∈ T, Sz 3000 v := fun v hv => by
    obtain ⟨_, j, h2, h3⟩ := hT1 v hv
    rw [← h3]
    exact (hx j (List.mem_range.mp h2)).up (by decide)
  rw [List.length_range] at hTl
  repeat infer_instance
  refine w_use (sorted_levels_gives (by omega) nT hTs) fun r ⟨M, e, hM, hP⟩ => ?_
  subst e
  have hMm : ∀ v, v ∈ M ↔ (0 < v ∧ ∃ j, j < n ∧ x j = v) := fun v => by
    rw [hM.mem_iff]
    constructor
    · intro h
      obtain ⟨h1, j, h2, h3⟩ := hT1 v h
      exact ⟨h1, j, List.mem_range.mp h2, h3⟩
    · rintro ⟨h1, j, h2, rfl⟩
      exact hT2 j (List.mem_range.mpr h2) h1
  clear hT1 hT2
  have hMlen : M.length ≤ 5 := by rw [hM.length_eq]; omega
  repeat infer_instance
  refine w_loop0 (L := M) (mk := qtD) (fun rest ρ => ∃ (D : List Rat) (G : List Rat) (y5 y7 y8 y9 y10 : Option SV), M = D ++ rest ∧ G.length = n ∧ (∀ j, j < n → G[j]? = some (if x j ∈ D then rt (Fs ss) n x j else 0)) ∧
    ρ = [some (.k (leftD n x)), some (.d (ti ss)), some (.o ((fst_ ss).map PyData.int)), some (.o (G.map qtD)), some (.o (T.map qtD)), y5, some (.d (.int ((onL n x D).length : Nat))), y7, y8, y9, y10]) ⟨[], List.replicate n 0, y5, none, none, none, none, rfl, by rw [List.length_replicate], fun j hj => by
      rw [List.getElem?_replicate, if_pos hj]
      simp, ?_⟩ ?_ ?_
  · have e0 : onL n x [] = [] := by
      unfold onL
      rw [List.filter_eq_nil_iff]
      intro j _
      simp
    rw [e0, List.map_replicate]
    rfl
  · rintro ℓ rest ρ ⟨D, G, y5, y7, y8, y9, y10, eM, hGl, hG, rfl⟩
    have hℓ := (hMm ℓ).mp (by rw [eM]; simp)
    obtain ⟨h0, j0, hj0, ej0⟩ := hℓ
    have hP2 := hP
    rw [eM] at hP2
    obtain ⟨p1, p2, p3⟩ := List.pairwise_append.mp hP2
    have hgt : ∀ v ∈ D, ℓ < v := fun v hv => p3 v hv ℓ List.mem_cons_self
    have hle : ∀ v ∈ rest, v < ℓ := fun v hv => (List.pairwise_cons.mp p2).1 v hv
    have hin : ∀ j, j < n → (x j ∈ D ↔ ℓ < x j) := fun j hj => by
      refine ⟨hgt _, fun h => ?_⟩
      have h1 : x j ∈ M := (hMm (x j)).mpr ⟨by grind, j, hj, rfl⟩
      rw [eM] at h1
      rcases List.mem_append.mp h1 with z | z
      · exact z
      · rcases List.mem_cons.mp z with z | z
        · grind
        · have := hle _ z
          grind
    have eab : onL n x D = abv n x ℓ := by
      unfold onL abv
      refine List.filter_congr fun j hj => ?_
      rw [decide_eq_decide]
      exact hin j (List.mem_range.mp hj)
    have egq : (onL n x (D ++ [ℓ])).length = (abv n x ℓ).length + (eqv n x ℓ).length := by
      rw [← geq_len]
      congr 1
      unfold onL geq
      refine List.filter_congr fun j hj => ?_
      rw [decide_eq_decide, List.mem_append, List.mem_singleton, hin j (List.mem_range.mp hj)]
      grind
    have hgp : 1 ≤ (eqv n x ℓ).length := by
      have := eqv_pos (x := x) hj0
      rw [ej0] at this
      exact this
    have hgl : (eqv n x ℓ).length ≤ n := by
      have := List.length_filter_le (fun i => decide (x i = ℓ)) (List.range n)
      rw [List.length_range] at this
      exact this
    have hal : (abv n x ℓ).length ≤ n := by
      have := List.length_filter_le (fun i => decide (ℓ < x i)) (List.range n)
      rw [List.length_range] at this
      exact this
    repeat infer_instance
    refine w_enM (L := List.range n) (mk := fun j => qtD (x j)) ?_
    rw [enI_range, List.map_map]
    refine w_lcD (List.range n) (fun j : Nat => PyData.tuple [.int (j : Int), qtD (x j)]) (fun j => decide (x j = ℓ)) (fun j => .int (j : Int)) (by rw [List.length_range]; omega) (fun j hj => ?_) ?_
    · refine w_tg (by with_unfolding_all (simp only [DV.wipeE, DV.gTupF, DV.gMore, DV.gNone, DV.gNm, List.set_cons_succ, List.set_cons_zero, List.length]; rfl)) ?_
      repeat infer_instance
      refine ⟨rfl, fun _ => ?_⟩
      repeat infer_instance
      rfl
    rw [show ((List.range n).filter fun j => decide (x j = ℓ)).map (fun j : Nat => PyData.int (j : Int)) = ((eqv n x ℓ).map fun j : Nat => (j : Int)).map PyData.int by rw [List.map_map]; rfl, eab]
    repeat infer_instance
    rw [List.length_map]
    refine w_slTwoB ?_
    repeat infer_instance
    have hsum := fsm_cut ss (abv n x ℓ).length (eqv n x ℓ).length
    show KFor _ _ _ _ (((eqv n x ℓ).map fun j : Nat => (j : Int)).map PyData.int, _)
    rw [show ((eqv n x ℓ).map fun j : Nat => (j : Int)).map PyData.int = (eqv n x ℓ).map fun j : Nat => PyData.int (j : Int) by rw [List.map_map]; rfl]
    rw [List.length_map]
    refine w_loopK (fun more ρ => ∃ (dn : List Nat) (G' : List Rat) (y9 : Option SV), eqv n x ℓ = dn ++ more ∧ G'.length = n ∧ (∀ j, j < n → G'[j]? = some (if x j ∈ D ∨ j ∈ dn then rt (Fs ss) n x j else 0)) ∧ ρ = envR n x ss G' T ℓ y5 (some (.k ((eqv n x ℓ).map fun j : Nat => PyData.int (j : Int)))) y9) ?_ ?_ ?_
    · exact ⟨_, rfl, [], G, y9, rfl, hGl, fun j hj => by rw [hG j hj]; simp, rfl⟩
    · rintro j more ρ ⟨dn, G', y9, eE, hGl', hG', rfl⟩
      have hje : j ∈ eqv n x ℓ := by rw [eE]; simp
      obtain ⟨hj, hxj⟩ := mem_eqv.mp hje
      have hq : rt (Fs ss) n x j * ((eqv n x ℓ).length : Rat) = Fs ss ((abv n x ℓ).length + (eqv n x ℓ).length) - Fs ss (abv n x ℓ).length := by
        have := rt_mul (F := Fs ss) (x := x) hj (by rw [hxj]; exact h0)
        rw [geq_len, hxj] at this
        exact this
      have h5 : (((eqv n x ℓ).length : Nat) : Int).natAbs < 2 ^ 4000 := by
        rw [Int.natAbs_natCast]
        exact Nat.lt_of_lt_of_le (show (eqv n x ℓ).length < 2 ^ 3 by omega) (Nat.pow_le_pow_right (by decide) (by decide))
      show KTg _ _
      repeat infer_instance
      rw [hsum]
      refine w_is (ratio_is (q := rt (Fs ss) n x j) (by omega) h5 ?_) ?_
      · rw [Rat.intCast_sub]
        show Fs ss _ - Fs ss _ = _ * ((eqv n x ℓ).length : Rat)
        rw [hq]
      repeat infer_instance
      refine w_putM (L := G') (mk := qtD) (rt (Fs ss) n x j) rfl (by omega) ?_
      repeat infer_instance
      refine ⟨dn ++ [j], G'.set j (rt (Fs ss) n x j), _, by rw [eE, List.append_assoc]; rfl, by rw [List.length_set]; exact hGl', fun i hi => ?_, rfl⟩
      rw [List.getElem?_set]
      by_cases c : j = i
      · subst c
        rw [if_pos rfl, if_pos (by omega), if_pos (.inr (List.mem_append_right _ (List.mem_singleton.mpr rfl)))]
      · rw [if_neg c, hG' i hi]
        congr 1
        have : i ∈ dn ++ [j] ↔ i ∈ dn := by
          rw [List.mem_append, List.mem_singleton]
          exact ⟨fun h => h.resolve_right fun z => c z.symm, .inl⟩
        simp only [this]
    · rintro ρ ⟨dn, G', y9, eE, hGl', hG', rfl⟩
      rw [List.append_nil] at eE
      refine ⟨_, rfl, ?_⟩
      have out : ∀ ρ2 : DV.Env, ρ2 = envR n x ss G' T ℓ y5 (some (.o ((eqv n x ℓ).map fun j : Nat => PyData.int (j : Int)))) y9 → ∃ (D' : List Rat) (G : List Rat) (y5 y7 y8 y9 y10 : Option SV), M = D' ++ rest ∧ G.length = n ∧ (∀ j, j < n → G[j]? = some (if x j ∈ D' then rt (Fs ss) n x j else 0)) ∧
          ρ2 = [some (.k (leftD n x)), some (.d (ti ss)), some (.o ((fst_ ss).map PyData.int)), some (.o (G.map qtD)), some (.o (T.map qtD)), y5, some (.d (.int ((onL n x D').length : Nat))), y7, y8, y9, y10] := fun ρ2 e2 => by
        subst e2
        refine ⟨D ++ [ℓ], G', y5, some (.d (qtD ℓ)), some (.o ((eqv n x ℓ).map fun j : Nat => PyData.int (j : Int))), y9, some (.o (((((fst_ ss).drop (abv n x ℓ).length).take (eqv n x ℓ).length)).map PyData.int)), by rw [eM, List.append_assoc]; rfl, hGl', fun j hj => ?_, ?_⟩
        · rw [hG' j hj]
          congr 1
          have : (x j ∈ D ∨ j ∈ dn) ↔ x j ∈ D ++ [ℓ] := by
            rw [List.mem_append, List.mem_singleton, ← eE, mem_eqv]
            exact ⟨fun h => h.imp id fun z => z.2, fun h => h.imp id fun z => ⟨hj, z⟩⟩
          simp only [this]
        · rw [egq]
          rfl
      exact out _ rfl
  · rintro ρ ⟨D, G, y5, y7, y8, y9, y10, eM, hGl, hG, rfl⟩
    rw [List.append_nil] at eM
    subst eM
    repeat infer_instance
    have eG : G = (List.range n).map fun j => rt (Fs ss) n x j := by
      refine List.ext_getElem? fun j => ?_
      by_cases hj : j < n
      · rw [hG j hj, List.getElem?_map, List.getElem?_range hj]
        show _ = some (rt (Fs ss) n x j)
        congr 1
        by_cases c : x j ∈ M
        · rw [if_pos c]
        · rw [if_neg c, rt_zero fun z => c ((hMm (x j)).mpr ⟨z, j, hj, rfl⟩)]
      · rw [List.getElem?_eq_none (by omega), List.getElem?_eq_none (by rw [List.length_map, List.length_range]; omega)]
    rw [eG, List.map_map]
    rfl
end
end Lk89

namespace Lk89
open PySem L2 DV DVL DVH
local macro_rules
  | `(tactic| get_elem_tactic_trivial) => `(tactic| first
    | (simp only [List.set_cons_succ, List.set_cons_zero, DV.startE, DV.lawE, DV.toK, DV.lockE, DV.wipeE, List.map_cons, List.map_nil, List.length_cons, List.length_nil, List.replicate_zero, List.replicate_succ, Nat.reduceSub, Nat.reduceAdd, List.append_nil, List.cons_append, List.nil_append]; rfl)
    | exact rfl)
local macro_rules
  | `(tactic| infer_instance) => `(tactic| first
    | with_reducible refine DV.w_cons ?_
    | with_reducible refine DV.w_var (by with_unfolding_all exact rfl) ?_
    | with_reducible refine DV.w_c ?_
    | with_reducible refine DV.w_nil ?_
    | with_reducible refine DV.w_e2 ?_
    | with_reducible refine DV.w_seq ?_
    | with_reducible refine DV.w_seqN ?_
    | with_reducible refine DV.w_seqR ?_
    | with_reducible refine DV.w_seqB ?_
    | with_reducible refine DV.w_seqC ?_
    | with_reducible refine DV.w_call ?_
    | with_reducible refine DV.w_fn ?_
    | with_reducible refine DV.w_f1 ?_
    | with_reducible refine DV.w_f2 ?_
    | with_reducible refine DV.w_f3 ?_
    | with_reducible refine DV.w_f4 ?_
    | with_reducible refine DV.w_f5 ?_
    | with_reducible refine DV.w_f6 ?_
    | with_reducible refine DV.w_set ?_
    | with_reducible refine DV.w_setApp ?_
    | with_reducible refine DV.w_setX (by with_unfolding_all exact rfl) (by with_unfolding_all (simp only [List.set_cons_succ, List.set_cons_zero]; rfl)) ?_
    | with_reducible refine DV.w_rt ?_
    | with_reducible refine DV.w_rtD ?_
    | with_reducible refine DV.w_rtN ?_
    | with_reducible refine DV.w_rtV (by with_unfolding_all exact rfl) ?_
    | with_reducible refine DV.w_if ?_
    | with_reducible refine DV.w_drop ?_
    | with_reducible refine DV.w_nop ?_
    | with_reducible refine DV.w_T ?_
    | with_reducible refine DV.w_B ?_
    | with_reducible refine DV.w_not ?_
    | with_reducible refine DV.w_and ?_
    | with_reducible refine DV.w_or ?_
    | with_reducible refine DV.w_ifT ?_
    | with_reducible refine DV.w_ifF ?_
    | with_reducible refine DV.w_ifNT ?_
    | with_reducible refine DV.w_ifNF ?_
    | with_reducible refine DV.w_stup ?_
    | with_reducible refine DV.w_stupD (by with_unfolding_all (simp only [DV.wipeE, DV.gTupF, DV.gMore, DV.gNone, DV.gNm, List.set_cons_succ, List.set_cons_zero, List.length]; rfl)) ?_
    | with_reducible refine DV.w_aug (by with_unfolding_all exact rfl) ?_
    | with_reducible refine DV.w_I ?_
    | with_reducible refine DV.w_app (by with_unfolding_all exact rfl) (by simp only [List.length_map]; omega) ?_
    | with_reducible refine DV.w_D ?_
    | with_reducible refine DV.w_for ?_
    | with_reducible refine DV.w_lc ?_
    | with_reducible refine DV.w_par ?_
    | with_reducible refine DV.w_par3 ?_
    | with_reducible refine DV.w_par4 ?_
    | with_reducible refine DV.w_parX (by with_unfolding_all exact rfl) (by with_unfolding_all exact rfl) (by with_unfolding_all (simp only [List.set_cons_succ, List.set_cons_zero]; rfl)) ?_
    | with_reducible refine DV.w_par3X (by with_unfolding_all exact rfl) (by with_unfolding_all exact rfl) (by with_unfolding_all exact rfl) (by with_unfolding_all (simp only [List.set_cons_succ, List.set_cons_zero]; rfl)) ?_
    | with_reducible refine DV.w_par4X (by with_unfolding_all exact rfl) (by with_unfolding_all exact rfl) (by with_unfolding_all exact rfl) (by with_unfolding_all exact rfl) (by with_unfolding_all (simp only [List.set_cons_succ, List.set_cons_zero]; rfl)) ?_
    | with_reducible refine DV.w_tup ?_
    | with_reducible refine DV.w_lst ?_
    | with_reducible refine DV.w_tu (by with_unfolding_all exact rfl) (by with_unfolding_all exact Nat.le_of_ble_eq_true rfl) ?_
    | with_reducible refine DV.w_ls (by with_unfolding_all exact rfl) (by with_unfolding_all exact Nat.le_of_ble_eq_true rfl) ?_
    | with_reducible refine DV.w_neg ?_
    | with_reducible refine DV.w_ifB ?_
    | with_reducible refine DV.w_ifE ?_
    | with_reducible refine DV.w_notB ?_
    | with_reducible refine DV.w_tt ?_
    | with_reducible refine DV.w_ch ?_
    | with_reducible refine DV.w_add ?_
    | with_reducible refine DV.w_sub ?_
    | with_reducible refine DV.w_mul (by first | omega | (left; constructor <;> omega) | (right; constructor <;> omega)) ?_
    | with_reducible refine DV.w_mod (by omega) ?_
    | with_reducible refine DV.w_div (by omega) ?_
    | with_reducible refine DV.w_lt ?_
    | with_reducible refine DV.w_le ?_
    | with_reducible refine DV.w_gt ?_
    | with_reducible refine DV.w_ge ?_
    | with_reducible refine DV.w_ltA ?_
    | with_reducible refine DV.w_leA ?_
    | with_reducible refine DV.w_gtA ?_
    | with_reducible refine DV.w_geA ?_
    | with_reducible refine DV.w_eq ?_
    | with_reducible refine DV.w_ne ?_
    | with_reducible refine DV.w_eqB ?_
    | with_reducible refine DV.w_neB ?_
    | with_reducible refine DV.w_eqN ?_
    | with_reducible refine DV.w_neN ?_
    | with_reducible refine DV.w_eqN0 ?_
    | with_reducible refine DV.w_neN0 ?_
    | with_reducible refine DV.w_in ?_
    | with_reducible refine DV.w_inB ?_
    | with_reducible refine DV.w_notIn ?_
    | with_reducible refine DV.w_notInB ?_
    | with_reducible refine DV.w_ix0 ?_
    | with_reducible refine DV.w_ix1 ?_
    | with_reducible refine DV.w_ix (by omega) ?_
    | with_reducible refine DV.w_ixB (by omega) ?_
    | with_reducible refine DV.w_len ?_
    | with_reducible refine DV.w_lenB ?_
    | with_reducible refine DV.w_lenN ?_
    | with_reducible refine DV.w_lenM ?_
    | with_reducible refine DV.w_lenMB ?_
    | with_reducible refine DV.w_lenMN ?_
    | with_reducible refine DV.w_lenD ?_
    | with_reducible refine DV.w_lenDB ?_
    | with_reducible refine DV.w_lenDN ?_
    | with_reducible refine DV.w_tupN ?_
    | with_reducible refine DV.w_tupB ?_
    | with_reducible refine DV.w_tupD ?_
    | with_reducible refine DV.w_lstD ?_
    | with_reducible refine DV.w_lstB ?_
    | with_reducible refine DV.w_lstN ?_
    | with_reducible refine DV.w_sum ?_
    | with_reducible refine DV.w_sumN ?_
    | with_reducible refine DV.w_sumB ?_
    | with_reducible refine DV.w_max2 ?_
    | with_reducible refine DV.w_min2 ?_
    | with_reducible refine DV.w_int ?_
    | with_reducible refine DV.w_sort ?_
    | with_reducible refine DV.w_sortN ?_
    | with_reducible refine DV.w_sortB ?_
    | with_reducible refine DV.w_rep (by omega) ?_
    | with_reducible refine DV.w_repN (by omega) ?_
    | with_reducible refine DV.w_moveG (by with_unfolding_all exact rfl) (by with_unfolding_all (simp only [List.set_cons_succ, List.set_cons_zero]; rfl)) ?_
    | with_reducible refine DV.w_moveO (by with_unfolding_all exact rfl) (by with_unfolding_all (simp only [List.set_cons_succ, List.set_cons_zero]; rfl)) ?_
    | with_reducible refine DV.w_moveD (by with_unfolding_all exact rfl) (by with_unfolding_all (simp only [List.set_cons_succ, List.set_cons_zero]; rfl)) ?_
    | with_reducible refine DV.w_catTI (by (try simp only [List.length_append, List.length_take, List.length_drop, List.length_cons, List.length_nil]); omega) ?_
    | with_reducible refine DV.w_catT1 (by (try simp only [List.length_append, List.length_take, List.length_drop, List.length_cons, List.length_nil]); omega) ?_
    | with_reducible refine DV.w_listG ?_
    | with_reducible refine DV.w_sortK ?_
    | with_reducible refine DV.w_colS ?_
    | with_reducible refine DV.w_itT ?_
    | with_reducible refine DV.w_itB ?_
    | with_reducible refine DV.w_itN ?_
    | with_reducible refine DV.w_colR ?_
    | with_reducible refine DV.w_colRN (by omega) ?_
    | with_reducible refine DV.w_ext (by with_unfolding_all exact rfl) ?_
    | with_reducible refine DV.w_lc2 ?_
    | with_reducible refine DV.w_isT ?_
    | with_reducible refine DV.w_isNN ?_
    | with_reducible refine DV.w_isNI ?_
    | with_reducible refine DV.w_isNT ?_
    | with_reducible refine DV.w_ntNN ?_
    | with_reducible refine DV.w_ntNI ?_
    | with_reducible refine DV.w_ntNT ?_
    | with_reducible refine DV.w_repND (by omega) ?_
    | with_reducible refine DV.w_put (by with_unfolding_all exact rfl) ?_
    | with_reducible refine DV.w_putI (by (try simp only [List.length_set, List.length_replicate, List.length_map]); omega) ?_
    | with_reducible refine DV.w_eqB0 ?_
    | with_reducible refine DV.w_neB0 ?_
    | with_reducible refine DV.w_eqBB ?_
    | with_reducible refine DV.w_neBB ?_
    | with_reducible refine DV.w_eqNB ?_
    | with_reducible refine DV.w_neNB ?_
    | with_reducible refine DV.w_eqBN ?_
    | with_reducible refine DV.w_neBN ?_
    | with_reducible refine DV.w_eqT0 ?_
    | with_reducible refine DV.w_neT0 ?_
    | with_reducible refine DV.w_eqT ?_
    | with_reducible refine DV.w_neT ?_
    | with_reducible refine DV.w_gget ?_
    | with_reducible refine DV.w_dc ?_
    | with_reducible refine DV.w_dcN ?_
    | with_reducible refine DV.w_G ?_
    | with_reducible refine DV.w_gput ?_
    | with_reducible refine DV.w_gnew ?_
    | with_reducible refine DV.w_g1 ?_
    | with_reducible refine DV.w_ret ?_
    | with_reducible refine DV.w_slice ?_
    | with_reducible refine DV.w_part ?_
    | with_reducible refine DV.w_slToI (by omega) ?_
    | with_reducible refine DV.w_slFromI (by omega) ?_
    | with_reducible refine DV.w_slToBI (by omega) ?_
    | with_reducible refine DV.w_slFromBI (by omega) ?_
    | with_reducible refine DV.w_star ?_
    | with_reducible refine DV.w_starT ?_
    | with_reducible refine DV.w_starB ?_
    | with_reducible refine DV.w_starN ?_
    | with_reducible refine DV.w_ixR (by omega) ?_
    | with_reducible refine DV.w_ixRB (by omega) ?_
    | with_reducible refine DV.w_lrg ?_
    | with_reducible refine DV.w_trg ?_
    | with_reducible refine DV.w_rg (by omega) ?_
    | with_reducible refine DV.w_enum ?_
    | with_reducible refine DV.w_zip ?_
    | with_reducible refine DV.w_zip3 ?_
    | with_reducible refine DV.w_step ?_
    | with_reducible refine DV.w_stepB (by omega) ?_
    | with_reducible refine DV.w_srev ?_
    | with_reducible refine DV.w_srevT ?_
    | with_reducible refine DV.w_isTT ?_
    | with_reducible refine DV.w_ntTT ?_
    | with_reducible refine DV.w_isFT ?_
    | with_reducible refine DV.w_ntFT ?_
    | with_reducible refine DV.w_isTF ?_
    | with_reducible refine DV.w_ntTF ?_
    | with_reducible refine DV.w_isFF ?_
    | with_reducible refine DV.w_ntFF ?_
    | with_reducible refine DV.w_ixS (by omega) ?_
    | with_reducible refine DV.w_ix2 ?_
    | with_reducible refine DV.w_gget2 ?_
    | with_reducible refine DV.w_notInTs ?_
    | with_reducible refine DV.w_inTs ?_
    | with_reducible refine DV.w_inTsN ?_
    | with_reducible refine DV.w_sset ?_
    | with_reducible refine DV.w_ssetU (by omega) (by assumption) ?_
    | with_reducible refine DV.w_met ?_
    | with_reducible refine DV.w_itL ?_
    | with_reducible refine DV.w_two ?_
    | with_reducible refine DV.w_twoX ?_
    | with_reducible refine DV.w_neS ?_
    | with_reducible refine DV.w_eqS ?_
    | with_reducible refine DV.w_rev ?_
    | with_reducible refine DV.w_revN ?_
    | with_reducible refine DV.w_lset ?_
    | with_reducible refine DV.w_isNL ?_
    | with_reducible refine DV.w_isBL ?_
    | with_reducible refine DV.w_ntNL ?_
    | with_reducible refine DV.w_ntBL ?_
    | with_reducible refine DV.w_abs ?_
    | with_reducible refine DV.w_neBl ?_
    | with_reducible refine DV.w_eqBl ?_
    | with_reducible refine DV.w_eqIP ?_
    | with_reducible refine DV.w_neIP ?_
    | with_reducible refine DV.w_ix3 ?_
    | with_reducible refine DVR.w_neW ?_
    | with_reducible refine DVR.w_ixL (by omega) ?_
    | with_reducible refine DV.w_dcomp ?_
    | with_reducible refine DV.w_intB ?_
    | with_reducible refine DV.w_augIx (by with_unfolding_all exact rfl) ?_
    | with_reducible refine DV.w_inN ?_
    | with_reducible refine DV.w_notInN ?_
    | with_reducible refine DV.w_srcE ?_
    | with_reducible refine DV.w_srcV (by with_unfolding_all exact rfl) ?_
    | with_reducible refine DV.w_src (by with_unfolding_all exact rfl) ?_
    | with_reducible refine DV.w_rng1 ?_
    | with_reducible refine DV.w_rng2 ?_
    | with_reducible refine DV.w_rng2I (by omega) ?_
    | with_reducible refine DV.w_rngN (by omega) ?_
    | with_reducible refine DV.w_rngI (by omega) ?_
    | with_reducible refine DV.w_loopN ?_
    | with_reducible refine DV.w_loopC ?_
    | with_reducible refine DV.w_loopB ?_
    | with_reducible refine DV.w_loopR ?_
    | with_reducible refine DV.w_runN ?_
    | with_reducible refine DV.w_runR ?_
    | with_reducible refine DV.w_tg (by with_unfolding_all (simp only [DV.lockE, DV.unlockE, List.getElem?_cons_succ, List.getElem?_cons_zero, DV.wipeE, DV.gTupF, DV.gMore, DV.gNone, DV.gNm, List.set_cons_succ, List.set_cons_zero, List.length]; rfl)) ?_)
local macro_rules
  | `(tactic| infer_instance) => `(tactic| first
    | with_reducible refine r0_ ?_
    | with_reducible refine r1_ ?_
    | with_reducible refine w_eqQ ?_
    | with_reducible refine w_neQ ?_)
theorem need_speeds_ok {ss : List Int} (h1 : 1 ≤ ss.length) (h6 : ss.length ≤ 6) (h : ∀ s ∈ ss, 1 ≤ s ∧ s ≤ 60) : DV.Gives (m_need_speeds [.d (ti ss)]) fun r => r = .d .none := by
  unfold m_need_speeds
  refine DV.w_run (by get_elem_tactic_trivial) ?_
  unfold g_need_speeds
  repeat infer_instance
  refine w_eqm (is_list_ok (ds := ss.map PyData.int) (by rw [List.length_map]; omega) (by rw [List.length_map]; omega)) ?_
  repeat infer_instance
  refine w_lcM (L := ss) (mk := PyData.int) (fun _ => .bool true) (by omega) (fun p hp => ?_) ?_
  · have hp := h p hp
    repeat infer_instance
    refine w_eqm (is_in_ok hp.1 hp.2) ?_
    rfl
  repeat infer_instance
  refine w_all (fun _ => true) ?_
  rw [List.all_eq_true.mpr fun _ _ => rfl]
  repeat infer_instance
  rfl
section
variable {ts ss : List Int} {n M : Nat}
/-- the sums of the fastest machines -/
theorem Fs_ok (h : ∀ s ∈ ss, 0 ≤ s) : Cc (Fs ss) := by
  have hd : (fst_ ss).Pairwise fun a b => b ≤ a := by
    unfold fst_
    rw [List.pairwise_reverse]
    exact DV.sortI_sorted ss
  have h0 : ∀ s ∈ fst_ ss, 0 ≤ s := fun s hs => h s ((DV.sortI_perm ss).mem_iff.mp (List.mem_reverse.mp hs))
  have step : ∀ k, fsm ss (k + 1) - fsm ss k = ((fst_ ss)[k]?).getD 0 := fun k => by
    unfold fsm
    rw [List.take_add_one, List.sum_append]
    cases e : (fst_ ss)[k]? with
    | none => simp
    | some v => simp; omega
  have hstep : ∀ k, Fs ss (k + 1) - Fs ss k = (((fst_ ss)[k]?).getD 0 : Int) := fun k => by
    unfold Fs
    rw [← Rat.intCast_sub, step]
  refine ⟨rfl, fun k => ?_, fun k => ?_⟩
  · have h1 := hstep k
    have : (0 : Int) ≤ ((fst_ ss)[k]?).getD 0 := by
      cases e : (fst_ ss)[k]? with
      | none => exact Int.le_refl _
      | some v => exact h0 v (List.mem_of_getElem? e)
    have : (0 : Rat) ≤ ((((fst_ ss)[k]?).getD 0 : Int) : Rat) := by exact_mod_cast this
    grind
  · have h1 := hstep k
    have h2 := hstep (k + 1)
    have : ((fst_ ss)[k + 1]?).getD 0 ≤ ((fst_ ss)[k]?).getD 0 := by
      cases e : (fst_ ss)[k + 1]? with
      | none =>
        cases e2 : (fst_ ss)[k]? with
        | none => exact Int.le_refl _
        | some v => exact h0 v (List.mem_of_getElem? e2)
      | some v =>
        obtain ⟨hlt, rfl⟩ := List.getElem?_eq_some_iff.mp e
        rw [List.getElem?_eq_getElem (show k < (fst_ ss).length by omega)]
        exact List.pairwise_iff_getElem.mp hd k (k + 1) (by omega) hlt (by omega)
    have : ((((fst_ ss)[k + 1]?).getD 0 : Int) : Rat) ≤ ((((fst_ ss)[k]?).getD 0 : Int) : Rat) := by exact_mod_cast this
    grind
def x0_ (ts : List Int) (j : Nat) : Rat := ((val ts (j : Int) : Int) : Rat)
theorem sz_of {q : Rat} {Q m k : Nat} {l : Int} (h0 : 0 ≤ q) (hm : q ≤ (m : Rat)) (hl : q * (Q : Rat) = (l : Rat)) (hQp : 0 < Q) (hQ : m * Q < 2 ^ k) (hQ1 : Q < 2 ^ k) : Sz k q := by
  have hd := Nat.le_of_dvd hQp (den_dvd hl)
  exact ⟨Nat.lt_of_le_of_lt (num_le h0 hm hd) hQ, Nat.lt_of_le_of_lt hd hQ1⟩
theorem pow_q {c Q : Nat} (hQ : Q ≤ 4800 ^ c) (hc : c ≤ 32) : 4800 * Q < 2 ^ 500 := by
  have h1 : (4800 : Nat) ^ c ≤ (2 ^ 13) ^ c := Nat.pow_le_pow_left (by decide) c
  rw [← Nat.pow_mul] at h1
  have h2 : (2 : Nat) ^ (13 * c) ≤ 2 ^ 416 := Nat.pow_le_pow_right (by decide) (by omega)
  have h3 : (4800 : Nat) < 2 ^ 13 := by decide
  have h4 : 4800 * Q ≤ 4800 * 2 ^ 416 := Nat.mul_le_mul_left _ (by omega)
  have h5 : 4800 * 2 ^ 416 < 2 ^ 13 * 2 ^ 416 := Nat.mul_lt_mul_of_pos_right h3 (Nat.pow_pos (by decide))
  rw [← Nat.pow_add] at h5
  have h6 : (2 : Nat) ^ (13 + 416) ≤ 2 ^ 500 := Nat.pow_le_pow_right (by decide) (by decide)
  omega
structure ShO (ts ss : List Int) : Prop where
  t1 : 1 ≤ ts.length
  t5 : ts.length ≤ 5
  tr : ∀ t ∈ ts, 1 ≤ t ∧ t ≤ 60
  s1 : 1 ≤ ss.length
  s6 : ss.length ≤ 6
  sr : ∀ s ∈ ss, 1 ≤ s ∧ s ≤ 60
  fm : ∀ k, k ≤ ts.length → ∃ m : Nat, m ≤ 16 ∧ Fs ss k = (m : Rat)
theorem stp_zero (F : Nat → Rat) (n : Nat) (x : Nat → Rat) : DVH.stp F n x 0 = x := by
  funext j
  unfold DVH.stp
  grind
theorem w_lk {i : Nat} {f : DV.Env → DV.M RV} {ρ ρ' : DV.Env} {P : RV → Prop} (e : lockE ρ (some i) = ρ') (p : DV.Gives (f ρ') P) : DV.Gives (eLk i f ρ) P := by
  unfold eLk
  rw [e]
  exact p
theorem left_gives {F : Nat → Rat} {x : Nat → Rat} {d : Rat} {y0 y1 y2 y4 y5 y8 y9 y10 : Option SV} (hn : n ≤ 5) (hx : ∀ j, j < n → Sz 500 (x j)) (hr : ∀ j, j < n → Sz 500 (rt F n x j)) (hd : Sz 500 d) :
    DV.Gives (eLk 3 (eLc (iZipF (srcV 3) (srcV 6)) [9, 10] (gTupF 2 (gMore (gNm 9) (gMore (gNm 10) gNone))) tTrue (eFn (fun xs => if xs.length = 3 then m_lowered xs else fail) (aCons (eVar 9) (aCons (eVar 10) (aCons (eVar 7) aNil)))))
      [y0, y1, y2, some (.o (leftD n x)), y4, y5, some (.o ((List.range n).map fun j => qtD (rt F n x j))), some (.d (qtD d)), y8, y9, y10]) fun r => r = .n (leftD n (DVH.stp F n x d)) := by
  refine w_lk (by with_unfolding_all exact rfl) ?_
  repeat infer_instance
  refine w_zipS (A := List.range n) rfl ?_
  refine w_lcM (L := List.range n) (mk := fun j => PyData.tuple [qtD (x j), qtD (rt F n x j)]) (fun j => qtD (DVH.stp F n x d j)) (by rw [List.length_range]; omega) (fun j hj => ?_) ?_
  · have hj := List.mem_range.mp hj
    refine w_tg (by with_unfolding_all (simp only [DV.wipeE, DV.gTupF, DV.gMore, DV.gNone, DV.gNm, List.set_cons_succ, List.set_cons_zero, List.length]; rfl)) ?_
    repeat infer_instance
    refine w_is (lowered_gives (hx j hj) (hr j hj) hd) ?_
    rfl
  rfl
theorem shared_givesQ (O : ShO ts ss) {T : Nat} (hT : T ≤ 60) : DV.Gives (m_shared [.d (ti ts), .d (ti ss), .d (.int (T : Nat))]) fun r => ∃ y, r = .d (.tuple (leftD ts.length y)) ∧ Reach (Fs ss) ts.length (x0_ ts) (T : Rat) y ∧ LI (Fs ss) ts.length (x0_ ts) y (T : Rat) ∧ (∀ j, j < ts.length → Sz 500 (y j)) ∧ ∃ Q : Nat, 0 < Q ∧ Q < 2 ^ 500 ∧ ∀ j, j < ts.length → ∃ l : Int, y j * (Q : Rat) = (l : Rat) := by
  have C : Cc (Fs ss) := Fs_ok fun s hs => by have := O.sr s hs; omega
  have ht1 := O.t1
  have ht5 := O.t5
  unfold m_shared
  refine DV.w_run (by get_elem_tactic_trivial) ?_
  unfold g_shared
  repeat infer_instance
  refine w_is (need_times_ok ts ht1 (by omega) O.tr) ?_
  repeat infer_instance
  refine w_is (need_speeds_ok O.s1 O.s6 O.sr) ?_
  repeat infer_instance
  refine w_eqm (is_in_ok (i := (T : Int)) (a := 0) (b := 60) (by omega) (by omega)) ?_
  repeat infer_instance
  refine w_lcM (L := ts) (mk := PyData.int) (fun t => qtD (t : Rat)) (by omega) (fun t _ => ?_) ?_
  · repeat infer_instance
    rfl
  have e0 : ts.map (fun t : Int => qtD (t : Rat)) = leftD ts.length (x0_ ts) := by
    unfold leftD x0_
    refine List.ext_getElem? fun j => ?_
    by_cases hj : j < ts.length
    · rw [List.getElem?_map, List.getElem?_map, List.getElem?_range hj, List.getElem?_eq_getElem hj]
      show some (qtD _) = some (qtD _)
      congr 3
      unfold val
      rw [Int.toNat_natCast, List.getD_eq_getElem?_getD, List.getElem?_eq_getElem hj]
      rfl
    · rw [List.getElem?_eq_none (by rw [List.length_map]; omega), List.getElem?_eq_none (by rw [List.length_map, List.length_range]; omega)]
  rw [e0]
  have hx0 : ∀ j, j < ts.length → 0 ≤ x0_ ts j ∧ x0_ ts j ≤ ((60 : Nat) : Rat) := fun j hj => by
    have := O.tr (val ts (j : Int)) (val_mem (by omega) (by omega))
    unfold x0_
    exact ⟨by exact_mod_cast (show (0 : Int) ≤ val ts (j : Int) by omega), by exact_mod_cast (show val ts (j : Int) ≤ (60 : Int) by omega)⟩
  have hTr : ((T : Nat) : Rat) ≤ ((60 : Nat) : Rat) := by exact_mod_cast hT
  repeat infer_instance
  refine w_while (fun k ρ => ∃ (x : Nat → Rat) (t : Rat) (c Q : Nat) (y5 y6 y7 y8 y9 y10 : Option SV), LI (Fs ss) ts.length (x0_ ts) x t ∧ (0 ≤ t ∧ t ≤ (T : Rat)) ∧ Itg ts.length x t Q ∧ Q ≤ 4800 ^ c ∧ c + k ≤ 32 ∧ mu ts.length x + (if t < (T : Rat) then 1 else 0) ≤ k ∧
    (∀ y, t < (T : Rat) → Reach (Fs ss) ts.length x ((T : Rat) - t) y → Reach (Fs ss) ts.length (x0_ ts) (T : Rat) y) ∧ (t = (T : Rat) → Reach (Fs ss) ts.length (x0_ ts) (T : Rat) x) ∧
    ρ = [some (.d (ti ts)), some (.d (ti ss)), some (.d (.int (T : Nat))), some (.o (leftD ts.length x)), some (.d (qtD t)), y5, y6, y7, y8, y9, y10]) 32 _ (by omega)
    ⟨x0_ ts, 0, 0, 1, _, _, _, _, _, _, LI.start C fun j hj => (hx0 j hj).1, ⟨Rat.le_refl, by exact_mod_cast Nat.zero_le T⟩, ⟨by decide, fun j _ => ⟨val ts (j : Int), by unfold x0_; grind⟩, 0, by grind⟩, by decide, by decide, ?_, fun y _ h => by
      rw [show (T : Rat) - 0 = (T : Rat) by grind] at h
      exact h, fun h => ?_, rfl⟩ ?_
  · have := mu_le (n := ts.length) (x := x0_ ts)
    have : ts.length * ts.length ≤ 5 * 5 := Nat.mul_le_mul ht5 ht5
    split <;> omega
  · have : Reach (Fs ss) ts.length (x0_ ts) 0 (DVH.stp (Fs ss) ts.length (x0_ ts) 0) := .fin Rat.le_refl fun e he => by
      cases he with
      | done _ a b e1 => rw [e1]; exact Rat.le_of_lt (dpos a b)
      | meet _ _ a b e1 => rw [e1]; exact Rat.le_of_lt (dpos (by grind) (by grind))
    rw [stp_zero] at this
    rw [← h]
    exact this
  rintro k ρ ⟨x, t, c, Q, y5, y6, y7, y8, y9, y10, I, ht, hQ, hQc, hck, hmu, R1, R2, rfl⟩
  have hP := pow_q hQc (by omega)
  have hxs : ∀ j, j < ts.length → Sz 500 (x j) := fun j hj => by
    obtain ⟨l, hl⟩ := hQ.x j hj
    exact sz_of (m := 60) (I.nn j hj) (Rat.le_trans (I.le j hj) (hx0 j hj).2) hl hQ.pos (by omega) (by omega)
  have hts : Sz 500 t := by
    obtain ⟨l, hl⟩ := hQ.t
    exact sz_of (m := 60) ht.1 (Rat.le_trans ht.2 hTr) hl hQ.pos (by omega) (by omega)
  have hrs : ∀ j, j < ts.length → Sz 500 (rt (Fs ss) ts.length x j) := fun j hj => by
    obtain ⟨s, g, k1, k2, k3, k4⟩ := rt_frac (x := x) C O.fm hj
    have hs : (s : Nat) < 2 ^ 500 := Nat.lt_of_lt_of_le (show s < 2 ^ 5 by omega) (Nat.pow_le_pow_right (by decide) (by decide))
    have hg : (g : Nat) < 2 ^ 500 := Nat.lt_of_lt_of_le (show g < 2 ^ 5 by omega) (Nat.pow_le_pow_right (by decide) (by decide))
    exact div_sz (a := (s : Int)) (b := (g : Int)) (by omega) (by rw [Int.natAbs_natCast]; exact hs) (by rw [Int.natAbs_natCast]; exact hg) k4.symm
  have hTs : Sz 3000 ((T : Nat) : Rat) := ⟨Nat.lt_of_lt_of_le (show ((T : Nat) : Int).natAbs < 2 ^ 6 by omega) (Nat.pow_le_pow_right (by decide) (by decide)), Nat.lt_of_lt_of_le (show 1 < 2 ^ 6 by decide) (Nat.pow_le_pow_right (by decide) (by decide))⟩
  repeat infer_instance
  refine w_is (is_less_gives (q := ((T : Nat) : Rat)) (hts.up (by decide)) hTs) ?_
  repeat infer_instance
  refine w_dec (fun hlt => ?_) (fun hge => ?_)
  · rw [if_pos hlt] at hmu
    refine ⟨k - 1, by omega, ?_⟩
    repeat infer_instance
    refine w_is (rates_of_gives C ht5 ht1 (by have := O.s6; omega) hxs) ?_
    repeat infer_instance
    have hmt : ∀ {d : Rat} {a : Nat}, 0 ≤ d → d ≤ (T : Rat) - t → StQ d Q a → 1 ≤ a → a ≤ 80 → Sz 500 d := fun {d a} h0 h1 ⟨l, hl⟩ ha1 ha => by
      have : Q * a ≤ 80 * Q := by rw [Nat.mul_comm]; exact Nat.mul_le_mul_right Q ha
      have h60 : d ≤ ((60 : Nat) : Rat) := by
        have := ht.1
        grind
      refine sz_of (m := 60) (Q := Q * a) (l := l) h0 h60 (by rw [Rat.natCast_mul]; grind) (Nat.mul_pos hQ.pos ha1) (by omega) (by omega)
    have fin : ∀ {d : Rat} {a : Nat} (y5 y6 y7 y8 y9 y10 : Option SV), 0 ≤ d → d ≤ (T : Rat) - t → StQ d Q a → 1 ≤ a → a ≤ 80 → Lim (Fs ss) ts.length x d → (d = (T : Rat) - t ∨ (d < (T : Rat) - t ∧ Cand (Fs ss) ts.length x d)) →
        ∃ (x' : Nat → Rat) (t' : Rat) (c Q' : Nat) (z5 z6 z7 z8 z9 z10 : Option SV), LI (Fs ss) ts.length (x0_ ts) x' t' ∧ (0 ≤ t' ∧ t' ≤ (T : Rat)) ∧ Itg ts.length x' t' Q' ∧ Q' ≤ 4800 ^ c ∧ c + (k - 1) ≤ 32 ∧ mu ts.length x' + (if t' < (T : Rat) then 1 else 0) ≤ k - 1 ∧
        (∀ y, t' < (T : Rat) → Reach (Fs ss) ts.length x' ((T : Rat) - t') y → Reach (Fs ss) ts.length (x0_ ts) (T : Rat) y) ∧ (t' = (T : Rat) → Reach (Fs ss) ts.length (x0_ ts) (T : Rat) x') ∧
        [some (SV.d (ti ts)), some (.d (ti ss)), some (.d (.int (T : Nat))), some (.o (leftD ts.length (DVH.stp (Fs ss) ts.length x d))), some (.d (qtD (t + d))), y5, y6, y7, y8, y9, y10] = [some (.d (ti ts)), some (.d (ti ss)), some (.d (.int (T : Nat))), some (.o (leftD ts.length x')), some (.d (qtD t')), z5, z6, z7, z8, z9, z10] := fun {d a} y5 y6 y7 y8 y9 y10 h0 h1 hst ha1 ha hL hw => by
      refine ⟨DVH.stp (Fs ss) ts.length x d, t + d, c + 1, Q * a * 60, y5, y6, y7, y8, y9, y10, I.step C h0 hL, ⟨by have := ht.1; grind, by grind⟩, hQ.step C O.fm ha1 ht5 hst, ?_, by omega, ?_, fun y hy hr => ?_, fun he => ?_, rfl⟩
      · have e1 : Q * a * 60 = Q * (a * 60) := Nat.mul_assoc _ _ _
        have e2 : (4800 : Nat) ^ (c + 1) = 4800 ^ c * 4800 := Nat.pow_succ ..
        rw [e1, e2]
        exact Nat.mul_le_mul hQc (by omega)
      · rcases hw with hw | ⟨hw, hc⟩
        · have hle : mu ts.length (DVH.stp (Fs ss) ts.length x d) ≤ mu ts.length x := mu_step_le C I.nn h0 hL
          rw [if_neg (by grind)]
          omega
        · have := mu_step C I.nn h0 hc hL
          split <;> omega
      · rcases hw with hw | ⟨hw, hc⟩
        · grind
        · refine R1 y hlt (.go h0 hc hL hw ?_)
          rw [show (T : Rat) - t - d = (T : Rat) - (t + d) by grind]
          exact hr
      · refine R1 _ hlt ?_
        have e : d = (T : Rat) - t := by grind
        rw [← e]
        exact .fin h0 hL
    have hrest : StQ ((T : Rat) - t) Q 1 := by
      obtain ⟨l, hl⟩ := hQ.t
      refine ⟨(T : Int) * (Q : Int) - l, ?_⟩
      rw [Rat.intCast_sub, Rat.intCast_mul, ← hl]
      have e1 : (((T : Nat) : Int) : Rat) = (T : Rat) := rfl
      have e2 : (((Q : Nat) : Int) : Rat) = (Q : Rat) := rfl
      have e3 : ((1 : Nat) : Rat) = 1 := rfl
      rw [e1, e2, e3]
      grind
    have hr0 : (0 : Rat) ≤ (T : Rat) - t := by grind
    have hrsz := hmt hr0 Rat.le_refl hrest (Nat.le_refl 1) (by decide)
    have hT100 : ((T : Nat) : Int).natAbs < 2 ^ 100 := Nat.lt_of_lt_of_le (show ((T : Nat) : Int).natAbs < 2 ^ 6 by omega) (Nat.pow_le_pow_right (by decide) (by decide))
    have hnow : ∀ {d : Rat}, Sz 500 d → (((t.num * (d.den : Int) + d.num * (t.den : Int) : Int)) : Rat) = (t + d) * (((t.den : Int) * (d.den : Int) : Int) : Rat) := fun {d} _ => by
      rw [Rat.intCast_add, Rat.intCast_mul, Rat.intCast_mul, Rat.intCast_mul, nd_ t, nd_ d]
      grind
    have hden : ∀ {d : Rat}, Sz 500 d → 0 < (t.den : Int) * (d.den : Int) ∧ ((t.den : Int) * (d.den : Int)).natAbs < 2 ^ 4000 := fun {d} h => ⟨Int.mul_pos (den_pos t) (den_pos d), up_ (wide_lt (na_den hts) (na_den h)) (by decide)⟩
    refine w_use (next_step_gives C ht5 hxs hrs) fun r hr => ?_
    rcases hr with ⟨rfl, hno⟩ | ⟨δ, rfl, hc, hL, hδ⟩
    · repeat infer_instance
      refine w_is (minus_gives (T := (T : Int)) hT100 (hts.up (by decide))) ?_
      repeat infer_instance
      refine w_is (left_gives (d := (T : Rat) - t) ht5 hxs hrs hrsz) ?_
      repeat infer_instance
      refine w_mulB 500 500 hts.1 (na_den hrsz) (by decide) ?_
      repeat infer_instance
      refine w_mulB 500 500 hrsz.1 (na_den hts) (by decide) ?_
      repeat infer_instance
      refine w_mulB 500 500 (na_den hts) (na_den hrsz) (by decide) ?_
      repeat infer_instance
      refine w_is (ratio_is (q := t + ((T : Rat) - t)) (hden hrsz).1 (hden hrsz).2 (hnow hrsz)) ?_
      repeat infer_instance
      exact fin _ _ _ _ _ _ hr0 Rat.le_refl hrest (Nat.le_refl 1) (by decide) (fun e he => absurd he (hno e)) (.inl rfl)
    · repeat infer_instance
      refine w_is (minus_gives (T := (T : Int)) hT100 (hts.up (by decide))) ?_
      repeat infer_instance
      refine w_is (is_less_gives (p := (T : Rat) - t) (hrsz.up (by decide)) (hδ.up (by decide))) ?_
      repeat infer_instance
      refine w_dec (fun c1 => ?_) (fun c1 => ?_)
      · repeat infer_instance
        refine w_is (left_gives (d := (T : Rat) - t) ht5 hxs hrs hrsz) ?_
        repeat infer_instance
        refine w_mulB 500 500 hts.1 (na_den hrsz) (by decide) ?_
        repeat infer_instance
        refine w_mulB 500 500 hrsz.1 (na_den hts) (by decide) ?_
        repeat infer_instance
        refine w_mulB 500 500 (na_den hts) (na_den hrsz) (by decide) ?_
        repeat infer_instance
        refine w_is (ratio_is (q := t + ((T : Rat) - t)) (hden hrsz).1 (hden hrsz).2 (hnow hrsz)) ?_
        repeat infer_instance
        exact fin _ _ _ _ _ _ hr0 Rat.le_refl hrest (Nat.le_refl 1) (by decide) (fun e he => by have := hL e he; grind) (.inl rfl)
      · obtain ⟨a, a1, a2, a3⟩ := cand_q C O.fm hQ hc
        have h80 : a ≤ 80 := Nat.le_trans a2 (Nat.le_trans (Nat.mul_le_mul_right 16 ht5) (by decide))
        have hδ0 : 0 ≤ δ := by
          cases hc with
          | done _ a b e1 => rw [e1]; exact Rat.le_of_lt (dpos a b)
          | meet _ _ a b e1 => rw [e1]; exact Rat.le_of_lt (dpos (by grind) (by grind))
        have hδ1 : δ ≤ (T : Rat) - t := by grind
        have hsz := hmt hδ0 hδ1 a3 a1 h80
        repeat infer_instance
        refine w_is (left_gives (d := δ) ht5 hxs hrs hsz) ?_
        repeat infer_instance
        refine w_mulB 500 500 hts.1 (na_den hsz) (by decide) ?_
        repeat infer_instance
        refine w_mulB 500 500 hsz.1 (na_den hts) (by decide) ?_
        repeat infer_instance
        refine w_mulB 500 500 (na_den hts) (na_den hsz) (by decide) ?_
        repeat infer_instance
        refine w_is (ratio_is (q := t + δ) (hden hsz).1 (hden hsz).2 (hnow hsz)) ?_
        repeat infer_instance
        exact fin _ _ _ _ _ _ hδ0 hδ1 a3 a1 h80 hL (by
          by_cases e : δ = (T : Rat) - t
          · exact .inl e
          · exact .inr ⟨by grind, hc⟩)
  · have he : t = (T : Rat) := by grind
    repeat infer_instance
    refine ⟨x, rfl, R2 he, by rw [← he]; exact I, hxs, Q, hQ.pos, by omega, hQ.x⟩
end
end Lk89

namespace DVH
/-- the rows that bound the end -/
def rowsL (lg ft : List Int) : List (Int × Int) := (lg.sum, ft.sum) :: (List.range' 1 (min lg.length (ft.length - 1))).map fun k => ((lg.take k).sum, (ft.take k).sum)
structure IsTop (lg ft : List Int) (t : Rat) : Prop where
  mem : ∃ r ∈ rowsL lg ft, t * (r.2 : Rat) = (r.1 : Rat)
  ge : ∀ r ∈ rowsL lg ft, (r.1 : Rat) ≤ t * (r.2 : Rat)
/-- longest jobs, fastest machines -/
structure Lgs (lg ft : List Int) : Prop where
  l1 : 1 ≤ lg.length
  f1 : 1 ≤ ft.length
  ld : lg.Pairwise fun a b => b ≤ a
  fd : ft.Pairwise fun a b => b ≤ a
  lp : ∀ t ∈ lg, 1 ≤ t
  fp : ∀ s ∈ ft, 1 ≤ s
theorem take_pos {ft : List Int} (h : ∀ s ∈ ft, 1 ≤ s) {k : Nat} (hk : k ≤ ft.length) : (k : Int) ≤ (ft.take k).sum := by
  induction k with
  | zero => simp
  | succ k ih =>
    rw [List.take_add_one, List.sum_append, List.getElem?_eq_getElem (show k < ft.length by omega)]
    have := ih (by omega)
    have := h _ (List.getElem_mem (show k < ft.length by omega))
    simp
    omega
theorem rows_pos {lg ft : List Int} (G : Lgs lg ft) : ∀ r ∈ rowsL lg ft, 0 < r.2 := fun r hr => by
  have hf := G.f1
  rcases List.mem_cons.mp hr with z | z
  · rw [z]
    have := take_pos G.fp (Nat.le_refl ft.length)
    rw [List.take_length] at this
    show 0 < ft.sum
    omega
  · obtain ⟨k, hk, rfl⟩ := List.mem_map.mp z
    rw [List.mem_range'_1] at hk
    have := take_pos G.fp (k := k) (by omega)
    show 0 < (ft.take k).sum
    omega
/-- what stands in another order -/
theorem perm_lift {f : Nat → Int} : ∀ {M L : List Int}, M.Perm L → ∀ A : List Nat, A.map f = M → ∃ B, A.Perm B ∧ B.map f = L := by
  intro M L h
  induction h with
  | nil => exact fun A e => ⟨A, .refl _, e⟩
  | cons a h ih =>
    intro A e
    cases A with
    | nil => cases e
    | cons b A =>
      injection e with e1 e2
      obtain ⟨B, h1, h2⟩ := ih A e2
      exact ⟨b :: B, h1.cons b, by rw [List.map_cons, e1, h2]⟩
  | swap a b l =>
    intro A e
    match A, e with
    | p :: q :: A, e =>
      injection e with e1 e2
      injection e2 with e2 e3
      exact ⟨q :: p :: A, .swap _ _ _, by rw [List.map_cons, List.map_cons, e1, e2, e3]⟩
  | trans h1 h2 i1 i2 =>
    intro A e
    obtain ⟨B, p1, p2⟩ := i1 A e
    obtain ⟨B2, q1, q2⟩ := i2 B p2
    exact ⟨B2, p1.trans q1, q2⟩
end DVH

namespace Lk89
open PySem L2 DV DVL DVH
local macro_rules
  | `(tactic| get_elem_tactic_trivial) => `(tactic| first
    | (simp only [List.set_cons_succ, List.set_cons_zero, DV.startE, DV.lawE, DV.toK, DV.lockE, DV.wipeE, List.map_cons, List.map_nil, List.length_cons, List.length_nil, List.replicate_zero, List.replicate_succ, Nat.reduceSub, Nat.reduceAdd, List.append_nil, List.cons_append, List.nil_append]; rfl)
    | exact rfl)
local macro_rules
  | `(tactic| infer_instance) => `(tactic| first
    | with_reducible refine DV.w_cons ?_
    | with_reducible refine DV.w_var (by with_unfolding_all exact rfl) ?_
    | with_reducible refine DV.w_c ?_
    | with_reducible refine DV.w_nil ?_
    | with_reducible refine DV.w_e2 ?_
    | with_reducible refine DV.w_seq ?_
    | with_reducible refine DV.w_seqN ?_
    | with_reducible refine DV.w_seqR ?_
    | with_reducible refine DV.w_seqB ?_
    | with_reducible refine DV.w_seqC ?_
    | with_reducible refine DV.w_call ?_
    | with_reducible refine DV.w_fn ?_
    | with_reducible refine DV.w_f1 ?_
    | with_reducible refine DV.w_f2 ?_
    | with_reducible refine DV.w_f3 ?_
    | with_reducible refine DV.w_f4 ?_
    | with_reducible refine DV.w_f5 ?_
    | with_reducible refine DV.w_f6 ?_
    | with_reducible refine DV.w_set ?_
    | with_reducible refine DV.w_setApp ?_
    | with_reducible refine DV.w_setX (by with_unfolding_all exact rfl) (by with_unfolding_all (simp only [List.set_cons_succ, List.set_cons_zero]; rfl)) ?_
    | with_reducible refine DV.w_rt ?_
    | with_reducible refine DV.w_rtD ?_
    | with_reducible refine DV.w_rtN ?_
    | with_reducible refine DV.w_rtV (by with_unfolding_all exact rfl) ?_
    | with_reducible refine DV.w_if ?_
    | with_reducible refine DV.w_drop ?_
    | with_reducible refine DV.w_nop ?_
    | with_reducible refine DV.w_T ?_
    | with_reducible refine DV.w_B ?_
    | with_reducible refine DV.w_not ?_
    | with_reducible refine DV.w_and ?_
    | with_reducible refine DV.w_or ?_
    | with_reducible refine DV.w_ifT ?_
    | with_reducible refine DV.w_ifF ?_
    | with_reducible refine DV.w_ifNT ?_
    | with_reducible refine DV.w_ifNF ?_
    | with_reducible refine DV.w_stup ?_
    | with_reducible refine DV.w_stupD (by with_unfolding_all (simp only [DV.wipeE, DV.gTupF, DV.gMore, DV.gNone, DV.gNm, List.set_cons_succ, List.set_cons_zero, List.length]; rfl)) ?_
    | with_reducible refine DV.w_aug (by with_unfolding_all exact rfl) ?_
    | with_reducible refine DV.w_I ?_
    | with_reducible refine DV.w_app (by with_unfolding_all exact rfl) (by simp only [List.length_map]; omega) ?_
    | with_reducible refine DV.w_D ?_
    | with_reducible refine DV.w_for ?_
    | with_reducible refine DV.w_lc ?_
    | with_reducible refine DV.w_par ?_
    | with_reducible refine DV.w_par3 ?_
    | with_reducible refine DV.w_par4 ?_
    | with_reducible refine DV.w_parX (by with_unfolding_all exact rfl) (by with_unfolding_all exact rfl) (by with_unfolding_all (simp only [List.set_cons_succ, List.set_cons_zero]; rfl)) ?_
    | with_reducible refine DV.w_par3X (by with_unfolding_all exact rfl) (by with_unfolding_all exact rfl) (by with_unfolding_all exact rfl) (by with_unfolding_all (simp only [List.set_cons_succ, List.set_cons_zero]; rfl)) ?_
    | with_reducible refine DV.w_par4X (by with_unfolding_all exact rfl) (by with_unfolding_all exact rfl) (by with_unfolding_all exact rfl) (by with_unfolding_all exact rfl) (by with_unfolding_all (simp only [List.set_cons_succ, List.set_cons_zero]; rfl)) ?_
    | with_reducible refine DV.w_tup ?_
    | with_reducible refine DV.w_lst ?_
    | with_reducible refine DV.w_tu (by with_unfolding_all exact rfl) (by with_unfolding_all exact Nat.le_of_ble_eq_true rfl) ?_
    | with_reducible refine DV.w_ls (by with_unfolding_all exact rfl) (by with_unfolding_all exact Nat.le_of_ble_eq_true rfl) ?_
    | with_reducible refine DV.w_neg ?_
    | with_reducible refine DV.w_ifB ?_
    | with_reducible refine DV.w_ifE ?_
    | with_reducible refine DV.w_notB ?_
    | with_reducible refine DV.w_tt ?_
    | with_reducible refine DV.w_ch ?_
    | with_reducible refine DV.w_add ?_
    | with_reducible refine DV.w_sub ?_
    | with_reducible refine DV.w_mul (by first | omega | (left; constructor <;> omega) | (right; constructor <;> omega)) ?_
    | with_reducible refine DV.w_mod (by omega) ?_
    | with_reducible refine DV.w_div (by omega) ?_
    | with_reducible refine DV.w_lt ?_
    | with_reducible refine DV.w_le ?_
    | with_reducible refine DV.w_gt ?_
    | with_reducible refine DV.w_ge ?_
    | with_reducible refine DV.w_ltA ?_
    | with_reducible refine DV.w_leA ?_
    | with_reducible refine DV.w_gtA ?_
    | with_reducible refine DV.w_geA ?_
    | with_reducible refine DV.w_eq ?_
    | with_reducible refine DV.w_ne ?_
    | with_reducible refine DV.w_eqB ?_
    | with_reducible refine DV.w_neB ?_
    | with_reducible refine DV.w_eqN ?_
    | with_reducible refine DV.w_neN ?_
    | with_reducible refine DV.w_eqN0 ?_
    | with_reducible refine DV.w_neN0 ?_
    | with_reducible refine DV.w_in ?_
    | with_reducible refine DV.w_inB ?_
    | with_reducible refine DV.w_notIn ?_
    | with_reducible refine DV.w_notInB ?_
    | with_reducible refine DV.w_ix0 ?_
    | with_reducible refine DV.w_ix1 ?_
    | with_reducible refine DV.w_ix (by omega) ?_
    | with_reducible refine DV.w_ixB (by omega) ?_
    | with_reducible refine DV.w_len ?_
    | with_reducible refine DV.w_lenB ?_
    | with_reducible refine DV.w_lenN ?_
    | with_reducible refine DV.w_lenM ?_
    | with_reducible refine DV.w_lenMB ?_
    | with_reducible refine DV.w_lenMN ?_
    | with_reducible refine DV.w_lenD ?_
    | with_reducible refine DV.w_lenDB ?_
    | with_reducible refine DV.w_lenDN ?_
    | with_reducible refine DV.w_tupN ?_
    | with_reducible refine DV.w_tupB ?_
    | with_reducible refine DV.w_tupD ?_
    | with_reducible refine DV.w_lstD ?_
    | with_reducible refine DV.w_lstB ?_
    | with_reducible refine DV.w_lstN ?_
    | with_reducible refine DV.w_sum ?_
    | with_reducible refine DV.w_sumN ?_
    | with_reducible refine DV.w_sumB ?_
    | with_reducible refine DV.w_max2 ?_
    | with_reducible refine DV.w_min2 ?_
    | with_reducible refine DV.w_int ?_
    | with_reducible refine DV.w_sort ?_
    | with_reducible refine DV.w_sortN ?_
    | with_reducible refine DV.w_sortB ?_
    | with_reducible refine DV.w_rep (by omega) ?_
    | with_reducible refine DV.w_repN (by omega) ?_
    | with_reducible refine DV.w_moveG (by with_unfolding_all exact rfl) (by with_unfolding_all (simp only [List.set_cons_succ, List.set_cons_zero]; rfl)) ?_
    | with_reducible refine DV.w_moveO (by with_unfolding_all exact rfl) (by with_unfolding_all (simp only [List.set_cons_succ, List.set_cons_zero]; rfl)) ?_
    | with_reducible refine DV.w_moveD (by with_unfolding_all exact rfl) (by with_unfolding_all (simp only [List.set_cons_succ, List.set_cons_zero]; rfl)) ?_
    | with_reducible refine DV.w_catTI (by (try simp only [List.length_append, List.length_take, List.length_drop, List.length_cons, List.length_nil]); omega) ?_
    | with_reducible refine DV.w_catT1 (by (try simp only [List.length_append, List.length_take, List.length_drop, List.length_cons, List.length_nil]); omega) ?_
    | with_reducible refine DV.w_listG ?_
    | with_reducible refine DV.w_sortK ?_
    | with_reducible refine DV.w_colS ?_
    | with_reducible refine DV.w_itT ?_
    | with_reducible refine DV.w_itB ?_
    | with_reducible refine DV.w_itN ?_
    | with_reducible refine DV.w_colR ?_
    | with_reducible refine DV.w_colRN (by omega) ?_
    | with_reducible refine DV.w_ext (by with_unfolding_all exact rfl) ?_
    | with_reducible refine DV.w_lc2 ?_
    | with_reducible refine DV.w_isT ?_
    | with_reducible refine DV.w_isNN ?_
    | with_reducible refine DV.w_isNI ?_
    | with_reducible refine DV.w_isNT ?_
    | with_reducible refine DV.w_ntNN ?_
    | with_reducible refine DV.w_ntNI ?_
    | with_reducible refine DV.w_ntNT ?_
    | with_reducible refine DV.w_repND (by omega) ?_
    | with_reducible refine DV.w_put (by with_unfolding_all exact rfl) ?_
    | with_reducible refine DV.w_putI (by (try simp only [List.length_set, List.length_replicate, List.length_map]); omega) ?_
    | with_reducible refine DV.w_eqB0 ?_
    | with_reducible refine DV.w_neB0 ?_
    | with_reducible refine DV.w_eqBB ?_
    | with_reducible refine DV.w_neBB ?_
    | with_reducible refine DV.w_eqNB ?_
    | with_reducible refine DV.w_neNB ?_
    | with_reducible refine DV.w_eqBN ?_
    | with_reducible refine DV.w_neBN ?_
    | with_reducible refine DV.w_eqT0 ?_
    | with_reducible refine DV.w_neT0 ?_
    | with_reducible refine DV.w_eqT ?_
    | with_reducible refine DV.w_neT ?_
    | with_reducible refine DV.w_gget ?_
    | with_reducible refine DV.w_dc ?_
    | with_reducible refine DV.w_dcN ?_
    | with_reducible refine DV.w_G ?_
    | with_reducible refine DV.w_gput ?_
    | with_reducible refine DV.w_gnew ?_
    | with_reducible refine DV.w_g1 ?_
    | with_reducible refine DV.w_ret ?_
    | with_reducible refine DV.w_slice ?_
    | with_reducible refine DV.w_part ?_
    | with_reducible refine DV.w_slToI (by omega) ?_
    | with_reducible refine DV.w_slFromI (by omega) ?_
    | with_reducible refine DV.w_slToBI (by omega) ?_
    | with_reducible refine DV.w_slFromBI (by omega) ?_
    | with_reducible refine DV.w_star ?_
    | with_reducible refine DV.w_starT ?_
    | with_reducible refine DV.w_starB ?_
    | with_reducible refine DV.w_starN ?_
    | with_reducible refine DV.w_ixR (by omega) ?_
    | with_reducible refine DV.w_ixRB (by omega) ?_
    | with_reducible refine DV.w_lrg ?_
    | with_reducible refine DV.w_trg ?_
    | with_reducible refine DV.w_rg (by omega) ?_
    | with_reducible refine DV.w_enum ?_
    | with_reducible refine DV.w_zip ?_
    | with_reducible refine DV.w_zip3 ?_
    | with_reducible refine DV.w_step ?_
    | with_reducible refine DV.w_stepB (by omega) ?_
    | with_reducible refine DV.w_srev ?_
    | with_reducible refine DV.w_srevT ?_
    | with_reducible refine DV.w_isTT ?_
    | with_reducible refine DV.w_ntTT ?_
    | with_reducible refine DV.w_isFT ?_
    | with_reducible refine DV.w_ntFT ?_
    | with_reducible refine DV.w_isTF ?_
    | with_reducible refine DV.w_ntTF ?_
    | with_reducible refine DV.w_isFF ?_
    | with_reducible refine DV.w_ntFF ?_
    | with_reducible refine DV.w_ixS (by omega) ?_
    | with_reducible refine DV.w_ix2 ?_
    | with_reducible refine DV.w_gget2 ?_
    | with_reducible refine DV.w_notInTs ?_
    | with_reducible refine DV.w_inTs ?_
    | with_reducible refine DV.w_inTsN ?_
    | with_reducible refine DV.w_sset ?_
    | with_reducible refine DV.w_ssetU (by omega) (by assumption) ?_
    | with_reducible refine DV.w_met ?_
    | with_reducible refine DV.w_itL ?_
    | with_reducible refine DV.w_two ?_
    | with_reducible refine DV.w_twoX ?_
    | with_reducible refine DV.w_neS ?_
    | with_reducible refine DV.w_eqS ?_
    | with_reducible refine DV.w_rev ?_
    | with_reducible refine DV.w_revN ?_
    | with_reducible refine DV.w_lset ?_
    | with_reducible refine DV.w_isNL ?_
    | with_reducible refine DV.w_isBL ?_
    | with_reducible refine DV.w_ntNL ?_
    | with_reducible refine DV.w_ntBL ?_
    | with_reducible refine DV.w_abs ?_
    | with_reducible refine DV.w_neBl ?_
    | with_reducible refine DV.w_eqBl ?_
    | with_reducible refine DV.w_eqIP ?_
    | with_reducible refine DV.w_neIP ?_
    | with_reducible refine DV.w_ix3 ?_
    | with_reducible refine DVR.w_neW ?_
    | with_reducible refine DVR.w_ixL (by omega) ?_
    | with_reducible refine DV.w_dcomp ?_
    | with_reducible refine DV.w_intB ?_
    | with_reducible refine DV.w_augIx (by with_unfolding_all exact rfl) ?_
    | with_reducible refine DV.w_inN ?_
    | with_reducible refine DV.w_notInN ?_
    | with_reducible refine DV.w_srcE ?_
    | with_reducible refine DV.w_srcV (by with_unfolding_all exact rfl) ?_
    | with_reducible refine DV.w_src (by with_unfolding_all exact rfl) ?_
    | with_reducible refine DV.w_rng1 ?_
    | with_reducible refine DV.w_rng2 ?_
    | with_reducible refine DV.w_rng2I (by omega) ?_
    | with_reducible refine DV.w_rngN (by omega) ?_
    | with_reducible refine DV.w_rngI (by omega) ?_
    | with_reducible refine DV.w_loopN ?_
    | with_reducible refine DV.w_loopC ?_
    | with_reducible refine DV.w_loopB ?_
    | with_reducible refine DV.w_loopR ?_
    | with_reducible refine DV.w_runN ?_
    | with_reducible refine DV.w_runR ?_
    | with_reducible refine DV.w_tg (by with_unfolding_all (simp only [DV.lockE, DV.unlockE, List.getElem?_cons_succ, List.getElem?_cons_zero, DV.wipeE, DV.gTupF, DV.gMore, DV.gNone, DV.gNm, List.set_cons_succ, List.set_cons_zero, List.length]; rfl)) ?_)
local macro_rules
  | `(tactic| infer_instance) => `(tactic| first
    | with_reducible refine r0_ ?_
    | with_reducible refine r1_ ?_
    | with_reducible refine w_eqQ ?_
    | with_reducible refine w_neQ ?_)
theorem law_gcd_gives (x0 y0 : Nat) (h1 : y0 < 2 ^ 4000) : DV.Gives (m__law_gcd [.d (.int (x0 : Int)), .d (.int (y0 : Int))]) fun r => r = .d (.int ((Nat.gcd x0 y0 : Nat) : Int)) := by
  unfold m__law_gcd
  refine DV.w_run (by get_elem_tactic_trivial) ?_
  unfold g__law_gcd
  repeat infer_instance
  refine DV.w_while (fun k ρ => ∃ x y : Nat, ρ = [some (.d (.int (x : Nat))), some (.d (.int (y : Nat)))] ∧ ((k = 8001 ∧ x = x0 ∧ y = y0) ∨ (y < x ∧ x * y < 2 ^ k)) ∧ Nat.gcd x y = Nat.gcd x0 y0) 8001 100000 (by omega) ⟨x0, y0, rfl, .inl ⟨rfl, rfl, rfl⟩, rfl⟩ ?_
  rintro k ρ ⟨x, y, rfl, hy, hg⟩
  repeat infer_instance
  refine DV.w_ndec (fun hne => ?_) (fun he => ?_)
  · have hy0 : 0 < y := by omega
    have hnext : 1 ≤ k ∧ x % y < y ∧ y * (x % y) < 2 ^ (k - 1) := by
      rcases hy with ⟨rfl, rfl, rfl⟩ | ⟨h2, h3⟩
      · have hm := Nat.mod_lt x hy0
        refine ⟨by decide, hm, ?_⟩
        have e : (2 : Nat) ^ (8001 - 1) = 2 ^ 4000 * 2 ^ 4000 := by rw [← Nat.pow_add]
        rw [e]
        exact Nat.mul_lt_mul'' h1 (Nat.lt_trans hm h1)
      · exact euc hy0 h2 h3
    obtain ⟨j, rfl⟩ : ∃ j, k = j + 1 := ⟨k - 1, by omega⟩
    refine ⟨j, rfl, ?_⟩
    repeat infer_instance
    refine ⟨y, x % y, by rw [Int.natCast_emod], .inr ⟨hnext.2.1, hnext.2.2⟩, ?_⟩
    rw [← hg, Nat.gcd_comm x y, Nat.gcd_rec y x, Nat.gcd_comm]
  · have hy0 : y = 0 := by omega
    subst hy0
    rw [Nat.gcd_zero_right] at hg
    subst hg
    repeat infer_instance
    rfl
theorem lowest_is {a b : Int} {q : Rat} (h0 : 0 < b) (h1 : b.natAbs < 2 ^ 4000) (e : (a : Rat) = q * (b : Rat)) : DV.Gives (m__law_lowest [.d (.int a), .d (.int b)]) fun r => r = .d (qtD q) := by
  have hb' : (b : Rat) ≠ 0 := by
    have : b ≠ 0 := by omega
    exact_mod_cast this
  have eq : (a : Rat) / (b : Rat) = q := by grind
  have hgp : 0 < Int.gcd a b := Int.gcd_pos_of_ne_zero_right _ (by omega)
  have hgl : Int.gcd a b ≤ b.natAbs := Nat.le_of_dvd (by omega) (Int.gcd_dvd_natAbs_right a b)
  have hw : ((Int.gcd a b : Nat) : Int).natAbs < wideN := wide_of (k := 4000) (by rw [Int.natAbs_natCast]; exact Nat.lt_of_le_of_lt hgl h1) (by decide)
  unfold m__law_lowest
  refine DV.w_run (by get_elem_tactic_trivial) ?_
  unfold g__law_lowest
  repeat infer_instance
  have hg := law_gcd_gives a.natAbs b.natAbs h1
  rw [show ((b.natAbs : Nat) : Int) = b by omega] at hg
  refine w_is hg ?_
  show KSet _ _ _ (.d (.int ((Int.gcd a b : Nat) : Int)))
  repeat infer_instance
  refine w_fdivW (by omega) hw ?_
  repeat infer_instance
  refine w_fdivW (by omega) hw ?_
  repeat infer_instance
  unfold qtD
  rw [← eq, q_num h0, q_den h0]
theorem law_less_gives {p q : Rat} (hp : Sz 3000 p) (hq : Sz 3000 q) : DV.Gives (m__law_less [.d (qtD p), .d (qtD q)]) fun r => r = .d (.bool (decide (p < q))) := by
  unfold m__law_less
  refine DV.w_run (by get_elem_tactic_trivial) ?_
  unfold g__law_less
  repeat infer_instance
  refine w_mulB 3000 3000 hp.1 (na_den hq) (by decide) ?_
  repeat infer_instance
  refine w_mulB 3000 3000 hq.1 (na_den hp) (by decide) ?_
  repeat infer_instance
  show RV.d (.bool (decide _)) = _
  rw [decide_eq_decide.mpr (lt_iff' p q).symm]
section
variable {ts ss : List Int}
theorem fst_len (ss : List Int) : (fst_ ss).length = ss.length := by
  unfold fst_
  rw [List.length_reverse, (DV.sortI_perm ss).length_eq]
theorem fst_perm (ss : List Int) : (fst_ ss).Perm ss := (List.reverse_perm _).trans (DV.sortI_perm ss)
theorem fst_desc (ss : List Int) : (fst_ ss).Pairwise fun a b => b ≤ a := by
  unfold fst_
  rw [List.pairwise_reverse]
  exact DV.sortI_sorted ss
theorem fst_sum (ss : List Int) : (fst_ ss).sum = ss.sum := sum_permI (fst_perm ss)
theorem lgs_of (O : ShO ts ss) : Lgs (fst_ ts) (fst_ ss) := ⟨by rw [fst_len]; exact O.t1, by rw [fst_len]; exact O.s1, fst_desc ts, fst_desc ss, fun t ht => (O.tr t ((fst_perm ts).mem_iff.mp ht)).1, fun s hs => (O.sr s ((fst_perm ss).mem_iff.mp hs)).1⟩
theorem sum_le60 {L : List Int} (h : ∀ t ∈ L, 1 ≤ t ∧ t ≤ 60) (k : Nat) : 0 ≤ (L.take k).sum ∧ (L.take k).sum ≤ 60 * (L.length : Int) := by
  induction L generalizing k with
  | nil => simp
  | cons a L ih =>
    cases k with
    | zero => simp; omega
    | succ k =>
      have := ih (fun t ht => h t (List.mem_cons_of_mem _ ht)) k
      have := h a List.mem_cons_self
      rw [List.take_succ_cons, List.sum_cons, List.length_cons]
      omega
/-- ratios in a row -/
theorem cross {a b c d e f : Int} (h1 : a * b ≤ c * d) (h2 : c * f < e * b) (hb : 0 < b) (hf : 0 < f) (he : 0 ≤ e) (hd : 0 < d) : a * f ≤ e * d := by
  -- a/d ≤ c/b < e/f
  refine Int.not_lt.mp fun z => ?_
  have k1 : a * b * f ≤ c * d * f := Int.mul_le_mul_of_nonneg_right h1 (Int.le_of_lt hf)
  have k2 : c * f * d < e * b * d := Int.mul_lt_mul_of_pos_right h2 hd
  have k3 : e * d * b < a * f * b := Int.mul_lt_mul_of_pos_right z hb
  have e1 : a * b * f = a * f * b := Int.mul_right_comm a b f
  have e2 : c * d * f = c * f * d := Int.mul_right_comm c d f
  have e3 : e * b * d = e * d * b := Int.mul_right_comm e b d
  omega
theorem level_speeds_gives (O : ShO ts ss) : DV.Gives (m_level_speeds [.d (ti ts), .d (ti ss)]) fun r => ∃ t, r = .d (qtD t) ∧ IsTop (fst_ ts) (fst_ ss) t := by
  have ht1 := O.t1
  have ht5 := O.t5
  have hs1 := O.s1
  have hs6 := O.s6
  have G := lgs_of O
  have htr : ∀ t ∈ fst_ ts, 1 ≤ t ∧ t ≤ 60 := fun t ht => O.tr t ((fst_perm ts).mem_iff.mp ht)
  have hsr : ∀ t ∈ fst_ ss, 1 ≤ t ∧ t ≤ 60 := fun t ht => O.sr t ((fst_perm ss).mem_iff.mp ht)
  have hlt := fst_len ts
  have hls := fst_len ss
  unfold m_level_speeds
  refine DV.w_run (by get_elem_tactic_trivial) ?_
  unfold g_level_speeds
  repeat infer_instance
  refine w_is (need_times_ok ts ht1 (by omega) O.tr) ?_
  repeat infer_instance
  refine w_is (need_speeds_ok O.s1 O.s6 O.sr) ?_
  repeat infer_instance
  refine ⟨ss, rfl, ?_⟩
  repeat infer_instance
  refine ⟨ts, rfl, ?_⟩
  repeat infer_instance
  have hlt' : (DV.sortI ts).reverse.length = ts.length := hlt
  have hls' : (DV.sortI ss).reverse.length = ss.length := hls
  refine w_rng2I (by rw [hlt', hls']; omega) ?_
  rw [show (min (((DV.sortI ts).reverse.length : Nat) : Int) ((((DV.sortI ss).reverse.length : Nat) : Int) - 1) + 1 - 1).toNat = min ts.length (ss.length - 1) by rw [hlt', hls']; omega]
  generalize hcnt : min ts.length (ss.length - 1) = cnt
  have hL : ∀ k, 0 ≤ ((fst_ ts).take k).sum ∧ ((fst_ ts).take k).sum ≤ 300 := fun k => by
    have := sum_le60 htr k
    omega
  have hF : ∀ k, 0 ≤ ((fst_ ss).take k).sum ∧ ((fst_ ss).take k).sum ≤ 360 := fun k => by
    have := sum_le60 hsr k
    omega
  have hL0 := hL (fst_ ts).length
  have hF0 := hF (fst_ ss).length
  rw [List.take_length] at hL0 hF0
  refine w_loop0 (fun rest ρ => ∃ (u : Nat) (b : Int × Int) (y5 y6 : Option SV), rest = rngI (u : Int) (cnt + 1 - u) ∧ u ≤ cnt + 1 ∧ 1 ≤ u ∧ (b ∈ rowsL (fst_ ts) (fst_ ss) ∧ 0 ≤ b.1 ∧ b.1 ≤ 300 ∧ 0 < b.2 ∧ b.2 ≤ 360) ∧ (((fst_ ts).sum * b.2 ≤ b.1 * (fst_ ss).sum) ∧ ∀ k, 1 ≤ k → k < u → ((fst_ ts).take k).sum * b.2 ≤ b.1 * ((fst_ ss).take k).sum) ∧
    ρ = [some (.d (ti ts)), some (.d (ti ss)), some (.o ((fst_ ss).map PyData.int)), some (.o ((fst_ ts).map PyData.int)), some (.d (pr b)), y5, y6]) ⟨1, ((fst_ ts).sum, (fst_ ss).sum), none, none, rfl, by omega, Nat.le_refl _, ⟨List.mem_cons_self, hL0.1, hL0.2, rows_pos G _ List.mem_cons_self, hF0.2⟩, ⟨Int.le_refl _, fun k h1 h2 => by omega⟩, rfl⟩ ?_ ?_
  · rintro j rest ρ ⟨u, b, y5, y6, e, hu, hu1, ⟨hb, b1, b2, b3, b4⟩, ⟨hg0, hg⟩, rfl⟩
    obtain ⟨hj, hult, hrest⟩ := rng_step e
    subst hj
    have hLu := hL u
    have hFu := hF u
    have hrow : (((fst_ ts).take u).sum, ((fst_ ss).take u).sum) ∈ rowsL (fst_ ts) (fst_ ss) := by
      refine List.mem_cons_of_mem _ (List.mem_map.mpr ⟨u, ?_, rfl⟩)
      rw [List.mem_range'_1, hlt, hls, hcnt]
      omega
    have hpos := rows_pos G _ hrow
    have hpos : 0 < ((fst_ ss).take u).sum := hpos
    repeat infer_instance
    rw [Int.toNat_natCast]
    refine w_dec (fun c => ?_) (fun c => ?_)
    · repeat infer_instance
      refine ⟨u + 1, (((fst_ ts).take u).sum, ((fst_ ss).take u).sum), _, _, hrest, by omega, by omega, ⟨hrow, hLu.1, hLu.2, hpos, hFu.2⟩, ⟨?_, fun k h1 h2 => ?_⟩, rfl⟩
      · exact cross hg0 c b3 hpos (by omega) (rows_pos G _ List.mem_cons_self)
      · by_cases ck : k = u
        · rw [ck]; exact Int.le_refl _
        · refine cross (hg k h1 (by omega)) c b3 hpos (by omega) ?_
          have := take_pos G.fp (k := k) (by omega)
          omega
    · repeat infer_instance
      refine ⟨u + 1, b, _, _, hrest, by omega, by omega, ⟨hb, b1, b2, b3, b4⟩, ⟨hg0, fun k h1 h2 => ?_⟩, rfl⟩
      by_cases ck : k = u
      · rw [ck]
        have c : ¬ b.1 * ((fst_ ss).take u).sum < ((fst_ ts).take u).sum * b.2 := c
        omega
      · exact hg k h1 (by omega)
  · rintro ρ ⟨u, b, y5, y6, e, hu, hu1, ⟨hb, b1, b2, b3, b4⟩, ⟨hg0, hg⟩, rfl⟩
    have hend := rng_end e hu
    subst hend
    repeat infer_instance
    have hb2 : b.2.natAbs < 2 ^ 4000 := Nat.lt_of_lt_of_le (show b.2.natAbs < 2 ^ 9 by omega) (Nat.pow_le_pow_right (by decide) (by decide))
    have hne : (b.2 : Rat) ≠ 0 := by
      have : b.2 ≠ 0 := by omega
      exact_mod_cast this
    have heq : (b.1 : Rat) = ((b.1 : Rat) / (b.2 : Rat)) * (b.2 : Rat) := by grind
    refine w_is (ratio_is (q := (b.1 : Rat) / (b.2 : Rat)) b3 hb2 heq) ?_
    repeat infer_instance
    refine ⟨_, rfl, ⟨b, hb, heq.symm⟩, fun r hr => ?_⟩
    have hr2 : (0 : Rat) < (r.2 : Rat) := by exact_mod_cast rows_pos G r hr
    have hle : r.1 * b.2 ≤ b.1 * r.2 := by
      rcases List.mem_cons.mp hr with z | z
      · rw [z]; exact hg0
      · obtain ⟨k, hk, rfl⟩ := List.mem_map.mp z
        rw [List.mem_range'_1, hlt, hls, hcnt] at hk
        exact hg k hk.1 (by omega)
    have hleq : (r.1 : Rat) * (b.2 : Rat) ≤ (b.1 : Rat) * (r.2 : Rat) := by exact_mod_cast hle
    have hb2r : (0 : Rat) < (b.2 : Rat) := by exact_mod_cast b3
    refine Rat.not_lt.mp fun z => ?_
    have h := Rat.mul_lt_mul_of_pos_right z hb2r
    generalize (b.1 : Rat) / (b.2 : Rat) = q at *
    have e1 : q * (r.2 : Rat) * (b.2 : Rat) = (b.1 : Rat) * (r.2 : Rat) := by rw [heq]; grind
    grind
end
end Lk89

namespace DVL
open PySem L2 DV
section
variable {ss tt : List (Int × Int)} {S : List Int} {B : Nat}
/-- as many share a moment -/
structure Sm (ss tt : List (Int × Int)) : Prop where
  len : tt.length = ss.length
  fe : ∀ (B : Nat) (S : List Int), (∀ j ∈ S, 0 ≤ j ∧ j < (ss.length : Int)) → (Feas tt B S ↔ Feas ss B S)
/-- the size of the greatest set -/
structure Sz (ss : List (Int × Int)) (B : Nat) (k : Nat) : Prop where
  ex : ∃ S : List Int, S.Nodup ∧ (∀ j ∈ S, 0 ≤ j ∧ j < (ss.length : Int)) ∧ Feas ss B S ∧ S.length = k
  top : ∀ S : List Int, S.Nodup → (∀ j ∈ S, 0 ≤ j ∧ j < (ss.length : Int)) → Feas ss B S → S.length ≤ k
theorem Sz.same {k : Nat} (M : Sm ss tt) (H : Sz ss B k) : Sz tt B k := by
  constructor
  · obtain ⟨S, s1, s2, s3, s4⟩ := H.ex
    exact ⟨S, s1, fun j hj => by rw [M.len]; exact s2 j hj, (M.fe B S s2).mpr s3, s4⟩
  · intro S s1 s2 s3
    rw [M.len] at s2
    exact H.top S s1 s2 ((M.fe B S s2).mp s3)
end
end DVL
namespace DV
open PySem L2
section
variable {P : RV → Prop} {f : Env → DV.M RV} {ρ : Env}
theorem w_rev (p : Gives (f ρ) fun x => ∃ y, gRev x = some y ∧ P y) : Gives (eRev f ρ) P := by
  unfold eRev
  refine Gives.bnd p fun x ⟨y, e, q⟩ => ?_
  rw [e]
  exact Gives.ret q
theorem w_revN {ds : List D} (p : P (.n ds.reverse)) : ∃ y, gRev (.n ds) = some y ∧ P y := ⟨_, rfl, p⟩
theorem w_lset (p : Gives (f ρ) fun x => ∃ d, lenSetOf x = some d ∧ P (.d d)) : Gives (eLenSet f ρ) P := by
  unfold eLenSet
  refine Gives.bnd p fun x ⟨d, e, q⟩ => ?_
  rw [e, lft_s, bnd_ret]
  exact Gives.ret q
theorem eqvA_prs : ∀ xs ys : List (Int × Int), PyData.eqvAll (xs.map DVL.pr) (ys.map DVL.pr) = decide (xs = ys)
  | [], [] => by simp [PyData.eqvAll]
  | [], y :: ys => by simp [PyData.eqvAll]
  | x :: xs, [] => by simp [PyData.eqvAll]
  | x :: xs, y :: ys => by
    rw [List.map_cons, List.map_cons, PyData.eqvAll, eqvA_prs xs ys]
    have e : PyData.eqv (DVL.pr x) (DVL.pr y) = decide (x = y) := by
      show PyData.eqv (.tuple [.int x.1, .int x.2]) (.tuple [.int y.1, .int y.2]) = _
      rw [PyData.eqv, PyData.eqvAll, PyData.eqvAll, PyData.eqvAll, DVL.eqv_int, DVL.eqv_int, Bool.and_true]
      by_cases h : x = y
      · subst h; simp
      · rw [decide_eq_false h]
        by_cases h1 : x.1 = y.1
        · by_cases h2 : x.2 = y.2
          · exact absurd (Prod.ext h1 h2) h
          · simp [h2]
        · simp [h1]
    rw [e]
    by_cases h : x = y <;> by_cases h2 : xs = ys <;> simp [h, h2]
theorem shaped_sts (ss : List (Int × Int)) : SeqAt.shaped (DVL.sts ss) = true := by
  unfold SeqAt.shaped
  show (PyData.canLay0 (.tuple _) && _) = true
  rw [PyData.canLay0, DVL.canLay_prs, PyData.depth]
  have := DVL.depth_prs ss
  simp
  omega
theorem eq_stss (neg : Bool) (a b : List (Int × Int)) : gEqB neg (.d (DVL.sts a)) (.d (DVL.sts b)) = some (.d (.bool (if neg then !decide (a = b) else decide (a = b)))) := by
  show (if SeqAt.shaped (DVL.sts a) = true then if SeqAt.shaped (DVL.sts b) = true then some (RV.d (.bool (if neg then !PyData.eqv (DVL.sts a) (DVL.sts b) else PyData.eqv (DVL.sts a) (DVL.sts b)))) else none else none) = _
  rw [if_pos (shaped_sts a), if_pos (shaped_sts b)]
  have e : PyData.eqv (DVL.sts a) (DVL.sts b) = decide (a = b) := by
    show PyData.eqv (.tuple _) (.tuple _) = _
    rw [PyData.eqv]
    exact eqvA_prs a b
  rw [e]
theorem w_neS {a b : List (Int × Int)} (p : P (.d (.bool (!decide (a = b))))) : K2 gNe P (.d (DVL.sts a)) (.d (DVL.sts b)) := ⟨_, eq_stss true a b, p⟩
theorem w_eqS {a b : List (Int × Int)} (p : P (.d (.bool (decide (a = b))))) : K2 gEq P (.d (DVL.sts a)) (.d (DVL.sts b)) := ⟨_, eq_stss false a b, p⟩
end
end DV

namespace DV
open PySem L2
theorem All2.val {p : Int → Int → Prop} : ∀ {L M : List Int}, DV.All2 p L M → ∀ j : Int, 0 ≤ j → j < (L.length : Int) → p (DVL.val L j) (DVL.val M j)
  | _, _, .nil, j, h0, h1 => by simp at h1; omega
  | x :: L, y :: M, .cons h t, j, h0, h1 => by
    obtain ⟨i, rfl⟩ : ∃ i : Nat, j = (i : Int) := ⟨j.toNat, by omega⟩
    have hl := t.len
    cases i with
    | zero => rw [DVL.val_get (by rw [List.length_cons]; omega), DVL.val_get (by rw [List.length_cons]; omega)]; exact h
    | succ i =>
      have h3 : i < L.length := by rw [List.length_cons] at h1; omega
      have := All2.val t (i : Int) (by omega) (by omega)
      rw [DVL.val_get h3, DVL.val_get (by omega)] at this
      rw [DVL.val_get (by rw [List.length_cons]; omega), DVL.val_get (by rw [List.length_cons]; omega)]
      exact this
end DV


namespace DVB
open PySem L2 DV DVL
theorem Leg.self (ord fs : List Int) : Leg fs ord ord := ⟨fun _ h => h, fun _ => List.prefix_refl _⟩
section
variable {ts fs ss ord : List Int} {A : Int → Int → Int → Int} {c0 : Int} {k : Nat}
theorem TT.len (hF : InF fs ord k) {t : Nat} {N : BT} (T : TT ts fs ss ord A c0 k t N) : N.length ≤ (k + 1) * (ord.length + 1) ^ k := by
  rw [← allK_len, ← List.length_map (f := (·.1)) (as := N)]
  refine nodup_leG T.uq fun x hx => ?_
  obtain ⟨e, he, rfl⟩ := List.mem_map.mp hx
  obtain ⟨o, h1, _, h2⟩ := T.ne e he
  rw [← h2]
  exact key_in hF h1
theorem few {n k : Nat} (hk : k ≤ 3) (hn : n ≤ 7) : (k + 1) * (n + 1) ^ k ≤ 2048 :=
  Nat.mul_le_mul (show k + 1 ≤ 4 by omega) (Nat.le_trans (Nat.pow_le_pow_left (show n + 1 ≤ 8 by omega) k) (Nat.pow_le_pow_right (by decide) hk))
end
end DVB

namespace DV
open PySem L2
theorem canLay_map {α : Type} {mk : α → D} (h1 : ∀ a, PyData.canLay0 (mk a) = true) : ∀ L : List α, PyData.canLayAll0 (L.map mk) = true
  | [] => by rw [List.map_nil, PyData.canLayAll0]
  | a :: L => by
    rw [List.map_cons, PyData.canLayAll0, canLay_map h1 L, h1]
    rfl
theorem depth_map {α : Type} {mk : α → D} {k : Nat} (h2 : ∀ a, (mk a).depth ≤ k) : ∀ L : List α, PyData.depthAll (L.map mk) ≤ k
  | [] => by rw [List.map_nil, PyData.depthAll]; omega
  | a :: L => by
    have := depth_map h2 L
    have := h2 a
    rw [List.map_cons, PyData.depthAll]
    omega
theorem shaped_map {α : Type} {mk : α → D} (h1 : ∀ a, PyData.canLay0 (mk a) = true) (h2 : ∀ a, (mk a).depth ≤ 10) (L : List α) : SeqAt.shaped (.list (L.map mk)) = true := by
  have h := depth_map h2 L
  simp only [SeqAt.shaped]
  rw [PyData.canLay0, canLay_map h1, PyData.depth]
  simp only [Bool.true_and, decide_eq_true_eq]
  omega
end DV
namespace DVP
open PySem L2 DV DVL
/-- job, begin, end -/
abbrev Pc := Int × Int × Int
structure Sta where
  l : List Int
  d : Int
  f : List Pc
/-- the least of a list -/
def minL (L : List Int) : Int := (L.filter fun m => L.all fun x => decide (m ≤ x)).headD 0
/-- the least by (F j, j) -/
def amin (F : Int → Int) (L : List Int) : Int := (L.filter fun m => L.all fun x => decide (F m < F x ∨ (F m = F x ∧ m ≤ x))).headD 0
/-- the jobs with work left -/
def openJ (l : List Int) : List Int := ((enI 0 l).filter fun p => decide (0 < p.2)).map (·.1)
/-- the jobs that can be worked at -/
def ableJ (ss l : List Int) (d : Int) : List Int := ((enI 0 l).filter fun p => decide (0 < p.2) && decide (val ss p.1 ≤ d)).map (·.1)
/-- the first days to come -/
def later (ss l : List Int) (d : Int) : List Int := ((enI 0 ss).filter fun p => decide (d < p.2) && decide (0 < val l p.1)).map (·.2)
def addP (f : List Pc) (j d e : Int) : List Pc := match f.getLast? with
  | some q => if q.1 = j ∧ q.2.2 = d then f.dropLast ++ [(j, q.2.1, e)] else f ++ [(j, d, e)]
  | none => f ++ [(j, d, e)]
def stepP (ss : List Int) (F : Int → Int → Int) (s : Sta) : Sta :=
  if openJ s.l = [] then s else
  if ableJ ss s.l s.d = [] then ⟨s.l, minL ((openJ s.l).map (val ss)), s.f⟩ else
  ⟨s.l.set (amin (fun j => F j (val s.l j)) (ableJ ss s.l s.d)).toNat (val s.l (amin (fun j => F j (val s.l j)) (ableJ ss s.l s.d)) - (minL ((s.d + val s.l (amin (fun j => F j (val s.l j)) (ableJ ss s.l s.d))) :: later ss s.l s.d) - s.d)),
    minL ((s.d + val s.l (amin (fun j => F j (val s.l j)) (ableJ ss s.l s.d))) :: later ss s.l s.d),
    addP s.f (amin (fun j => F j (val s.l j)) (ableJ ss s.l s.d)) s.d (minL ((s.d + val s.l (amin (fun j => F j (val s.l j)) (ableJ ss s.l s.d))) :: later ss s.l s.d))⟩
def iter (ss : List Int) (F : Int → Int → Int) : Nat → Sta → Sta
  | 0, s => s
  | k + 1, s => stepP ss F (iter ss F k s)
end DVP

namespace Lk89
open PySem L2 DV DVL DVH
local macro_rules
  | `(tactic| get_elem_tactic_trivial) => `(tactic| first
    | (simp only [List.set_cons_succ, List.set_cons_zero, DV.startE, DV.lawE, DV.toK, DV.lockE, DV.wipeE, List.map_cons, List.map_nil, List.length_cons, List.length_nil, List.replicate_zero, List.replicate_succ, Nat.reduceSub, Nat.reduceAdd, List.append_nil, List.cons_append, List.nil_append]; rfl)
    | exact rfl)
local macro_rules
  | `(tactic| infer_instance) => `(tactic| first
    | with_reducible refine DV.w_cons ?_
    | with_reducible refine DV.w_var (by with_unfolding_all exact rfl) ?_
    | with_reducible refine DV.w_c ?_
    | with_reducible refine DV.w_nil ?_
    | with_reducible refine DV.w_e2 ?_
    | with_reducible refine DV.w_seq ?_
    | with_reducible refine DV.w_seqN ?_
    | with_reducible refine DV.w_seqR ?_
    | with_reducible refine DV.w_seqB ?_
    | with_reducible refine DV.w_seqC ?_
    | with_reducible refine DV.w_call ?_
    | with_reducible refine DV.w_fn ?_
    | with_reducible refine DV.w_f1 ?_
    | with_reducible refine DV.w_f2 ?_
    | with_reducible refine DV.w_f3 ?_
    | with_reducible refine DV.w_f4 ?_
    | with_reducible refine DV.w_f5 ?_
    | with_reducible refine DV.w_f6 ?_
    | with_reducible refine DV.w_set ?_
    | with_reducible refine DV.w_setApp ?_
    | with_reducible refine DV.w_setX (by with_unfolding_all exact rfl) (by with_unfolding_all (simp only [List.set_cons_succ, List.set_cons_zero]; rfl)) ?_
    | with_reducible refine DV.w_rt ?_
    | with_reducible refine DV.w_rtD ?_
    | with_reducible refine DV.w_rtN ?_
    | with_reducible refine DV.w_rtV (by with_unfolding_all exact rfl) ?_
    | with_reducible refine DV.w_if ?_
    | with_reducible refine DV.w_drop ?_
    | with_reducible refine DV.w_nop ?_
    | with_reducible refine DV.w_T ?_
    | with_reducible refine DV.w_B ?_
    | with_reducible refine DV.w_not ?_
    | with_reducible refine DV.w_and ?_
    | with_reducible refine DV.w_or ?_
    | with_reducible refine DV.w_ifT ?_
    | with_reducible refine DV.w_ifF ?_
    | with_reducible refine DV.w_ifNT ?_
    | with_reducible refine DV.w_ifNF ?_
    | with_reducible refine DV.w_stup ?_
    | with_reducible refine DV.w_stupD (by with_unfolding_all (simp only [DV.wipeE, DV.gTupF, DV.gMore, DV.gNone, DV.gNm, List.set_cons_succ, List.set_cons_zero, List.length]; rfl)) ?_
    | with_reducible refine DV.w_aug (by with_unfolding_all exact rfl) ?_
    | with_reducible refine DV.w_I ?_
    | with_reducible refine DV.w_app (by with_unfolding_all exact rfl) (by simp only [List.length_map]; omega) ?_
    | with_reducible refine DV.w_D ?_
    | with_reducible refine DV.w_for ?_
    | with_reducible refine DV.w_lc ?_
    | with_reducible refine DV.w_par ?_
    | with_reducible refine DV.w_par3 ?_
    | with_reducible refine DV.w_par4 ?_
    | with_reducible refine DV.w_parX (by with_unfolding_all exact rfl) (by with_unfolding_all exact rfl) (by with_unfolding_all (simp only [List.set_cons_succ, List.set_cons_zero]; rfl)) ?_
    | with_reducible refine DV.w_par3X (by with_unfolding_all exact rfl) (by with_unfolding_all exact rfl) (by with_unfolding_all exact rfl) (by with_unfolding_all (simp only [List.set_cons_succ, List.set_cons_zero]; rfl)) ?_
    | with_reducible refine DV.w_par4X (by with_unfolding_all exact rfl) (by with_unfolding_all exact rfl) (by with_unfolding_all exact rfl) (by with_unfolding_all exact rfl) (by with_unfolding_all (simp only [List.set_cons_succ, List.set_cons_zero]; rfl)) ?_
    | with_reducible refine DV.w_tup ?_
    | with_reducible refine DV.w_lst ?_
    | with_reducible refine DV.w_tu (by with_unfolding_all exact rfl) (by with_unfolding_all exact Nat.le_of_ble_eq_true rfl) ?_
    | with_reducible refine DV.w_ls (by with_unfolding_all exact rfl) (by with_unfolding_all exact Nat.le_of_ble_eq_true rfl) ?_
    | with_reducible refine DV.w_neg ?_
    | with_reducible refine DV.w_ifB ?_
    | with_reducible refine DV.w_ifE ?_
    | with_reducible refine DV.w_notB ?_
    | with_reducible refine DV.w_tt ?_
    | with_reducible refine DV.w_ch ?_
    | with_reducible refine DV.w_add ?_
    | with_reducible refine DV.w_sub ?_
    | with_reducible refine DV.w_mul (by first | omega | (left; constructor <;> omega) | (right; constructor <;> omega)) ?_
    | with_reducible refine DV.w_mod (by omega) ?_
    | with_reducible refine DV.w_div (by omega) ?_
    | with_reducible refine DV.w_lt ?_
    | with_reducible refine DV.w_le ?_
    | with_reducible refine DV.w_gt ?_
    | with_reducible refine DV.w_ge ?_
    | with_reducible refine DV.w_ltA ?_
    | with_reducible refine DV.w_leA ?_
    | with_reducible refine DV.w_gtA ?_
    | with_reducible refine DV.w_geA ?_
    | with_reducible refine DV.w_eq ?_
    | with_reducible refine DV.w_ne ?_
    | with_reducible refine DV.w_eqB ?_
    | with_reducible refine DV.w_neB ?_
    | with_reducible refine DV.w_eqN ?_
    | with_reducible refine DV.w_neN ?_
    | with_reducible refine DV.w_eqN0 ?_
    | with_reducible refine DV.w_neN0 ?_
    | with_reducible refine DV.w_in ?_
    | with_reducible refine DV.w_inB ?_
    | with_reducible refine DV.w_notIn ?_
    | with_reducible refine DV.w_notInB ?_
    | with_reducible refine DV.w_ix0 ?_
    | with_reducible refine DV.w_ix1 ?_
    | with_reducible refine DV.w_ix (by omega) ?_
    | with_reducible refine DV.w_ixB (by omega) ?_
    | with_reducible refine DV.w_len ?_
    | with_reducible refine DV.w_lenB ?_
    | with_reducible refine DV.w_lenN ?_
    | with_reducible refine DV.w_lenM ?_
    | with_reducible refine DV.w_lenMB ?_
    | with_reducible refine DV.w_lenMN ?_
    | with_reducible refine DV.w_lenD ?_
    | with_reducible refine DV.w_lenDB ?_
    | with_reducible refine DV.w_lenDN ?_
    | with_reducible refine DV.w_tupN ?_
    | with_reducible refine DV.w_tupB ?_
    | with_reducible refine DV.w_tupD ?_
    | with_reducible refine DV.w_lstD ?_
    | with_reducible refine DV.w_lstB ?_
    | with_reducible refine DV.w_lstN ?_
    | with_reducible refine DV.w_sum ?_
    | with_reducible refine DV.w_sumN ?_
    | with_reducible refine DV.w_sumB ?_
    | with_reducible refine DV.w_max2 ?_
    | with_reducible refine DV.w_min2 ?_
    | with_reducible refine DV.w_int ?_
    | with_reducible refine DV.w_sort ?_
    | with_reducible refine DV.w_sortN ?_
    | with_reducible refine DV.w_sortB ?_
    | with_reducible refine DV.w_rep (by omega) ?_
    | with_reducible refine DV.w_repN (by omega) ?_
    | with_reducible refine DV.w_moveG (by with_unfolding_all exact rfl) (by with_unfolding_all (simp only [List.set_cons_succ, List.set_cons_zero]; rfl)) ?_
    | with_reducible refine DV.w_moveO (by with_unfolding_all exact rfl) (by with_unfolding_all (simp only [List.set_cons_succ, List.set_cons_zero]; rfl)) ?_
    | with_reducible refine DV.w_moveD (by with_unfolding_all exact rfl) (by with_unfolding_all (simp only [List.set_cons_succ, List.set_cons_zero]; rfl)) ?_
    | with_reducible refine DV.w_catTI (by (try simp only [List.length_append, List.length_take, List.length_drop, List.length_cons, List.length_nil]); omega) ?_
    | with_reducible refine DV.w_catT1 (by (try simp only [List.length_append, List.length_take, List.length_drop, List.length_cons, List.length_nil]); omega) ?_
    | with_reducible refine DV.w_listG ?_
    | with_reducible refine DV.w_sortK ?_
    | with_reducible refine DV.w_colS ?_
    | with_reducible refine DV.w_itT ?_
    | with_reducible refine DV.w_itB ?_
    | with_reducible refine DV.w_itN ?_
    | with_reducible refine DV.w_colR ?_
    | with_reducible refine DV.w_colRN (by omega) ?_
    | with_reducible refine DV.w_ext (by with_unfolding_all exact rfl) ?_
    | with_reducible refine DV.w_lc2 ?_
    | with_reducible refine DV.w_isT ?_
    | with_reducible refine DV.w_isNN ?_
    | with_reducible refine DV.w_isNI ?_
    | with_reducible refine DV.w_isNT ?_
    | with_reducible refine DV.w_ntNN ?_
    | with_reducible refine DV.w_ntNI ?_
    | with_reducible refine DV.w_ntNT ?_
    | with_reducible refine DV.w_repND (by omega) ?_
    | with_reducible refine DV.w_put (by with_unfolding_all exact rfl) ?_
    | with_reducible refine DV.w_putI (by (try simp only [List.length_set, List.length_replicate, List.length_map]); omega) ?_
    | with_reducible refine DV.w_eqB0 ?_
    | with_reducible refine DV.w_neB0 ?_
    | with_reducible refine DV.w_eqBB ?_
    | with_reducible refine DV.w_neBB ?_
    | with_reducible refine DV.w_eqNB ?_
    | with_reducible refine DV.w_neNB ?_
    | with_reducible refine DV.w_eqBN ?_
    | with_reducible refine DV.w_neBN ?_
    | with_reducible refine DV.w_eqT0 ?_
    | with_reducible refine DV.w_neT0 ?_
    | with_reducible refine DV.w_eqT ?_
    | with_reducible refine DV.w_neT ?_
    | with_reducible refine DV.w_gget ?_
    | with_reducible refine DV.w_dc ?_
    | with_reducible refine DV.w_dcN ?_
    | with_reducible refine DV.w_G ?_
    | with_reducible refine DV.w_gput ?_
    | with_reducible refine DV.w_gnew ?_
    | with_reducible refine DV.w_g1 ?_
    | with_reducible refine DV.w_ret ?_
    | with_reducible refine DV.w_slice ?_
    | with_reducible refine DV.w_part ?_
    | with_reducible refine DV.w_slToI (by omega) ?_
    | with_reducible refine DV.w_slFromI (by omega) ?_
    | with_reducible refine DV.w_slToBI (by omega) ?_
    | with_reducible refine DV.w_slFromBI (by omega) ?_
    | with_reducible refine DV.w_star ?_
    | with_reducible refine DV.w_starT ?_
    | with_reducible refine DV.w_starB ?_
    | with_reducible refine DV.w_starN ?_
    | with_reducible refine DV.w_ixR (by omega) ?_
    | with_reducible refine DV.w_ixRB (by omega) ?_
    | with_reducible refine DV.w_lrg ?_
    | with_reducible refine DV.w_trg ?_
    | with_reducible refine DV.w_rg (by omega) ?_
    | with_reducible refine DV.w_enum ?_
    | with_reducible refine DV.w_zip ?_
    | with_reducible refine DV.w_zip3 ?_
    | with_reducible refine DV.w_step ?_
    | with_reducible refine DV.w_stepB (by omega) ?_
    | with_reducible refine DV.w_srev ?_
    | with_reducible refine DV.w_srevT ?_
    | with_reducible refine DV.w_isTT ?_
    | with_reducible refine DV.w_ntTT ?_
    | with_reducible refine DV.w_isFT ?_
    | with_reducible refine DV.w_ntFT ?_
    | with_reducible refine DV.w_isTF ?_
    | with_reducible refine DV.w_ntTF ?_
    | with_reducible refine DV.w_isFF ?_
    | with_reducible refine DV.w_ntFF ?_
    | with_reducible refine DV.w_ixS (by omega) ?_
    | with_reducible refine DV.w_ix2 ?_
    | with_reducible refine DV.w_gget2 ?_
    | with_reducible refine DV.w_notInTs ?_
    | with_reducible refine DV.w_inTs ?_
    | with_reducible refine DV.w_inTsN ?_
    | with_reducible refine DV.w_sset ?_
    | with_reducible refine DV.w_ssetU (by omega) (by assumption) ?_
    | with_reducible refine DV.w_met ?_
    | with_reducible refine DV.w_itL ?_
    | with_reducible refine DV.w_two ?_
    | with_reducible refine DV.w_twoX ?_
    | with_reducible refine DV.w_neS ?_
    | with_reducible refine DV.w_eqS ?_
    | with_reducible refine DV.w_rev ?_
    | with_reducible refine DV.w_revN ?_
    | with_reducible refine DV.w_lset ?_
    | with_reducible refine DV.w_isNL ?_
    | with_reducible refine DV.w_isBL ?_
    | with_reducible refine DV.w_ntNL ?_
    | with_reducible refine DV.w_ntBL ?_
    | with_reducible refine DV.w_abs ?_
    | with_reducible refine DV.w_neBl ?_
    | with_reducible refine DV.w_eqBl ?_
    | with_reducible refine DV.w_eqIP ?_
    | with_reducible refine DV.w_neIP ?_
    | with_reducible refine DV.w_ix3 ?_
    | with_reducible refine DVR.w_neW ?_
    | with_reducible refine DVR.w_ixL (by omega) ?_
    | with_reducible refine DV.w_dcomp ?_
    | with_reducible refine DV.w_intB ?_
    | with_reducible refine DV.w_augIx (by with_unfolding_all exact rfl) ?_
    | with_reducible refine DV.w_inN ?_
    | with_reducible refine DV.w_notInN ?_
    | with_reducible refine DV.w_srcE ?_
    | with_reducible refine DV.w_srcV (by with_unfolding_all exact rfl) ?_
    | with_reducible refine DV.w_src (by with_unfolding_all exact rfl) ?_
    | with_reducible refine DV.w_rng1 ?_
    | with_reducible refine DV.w_rng2 ?_
    | with_reducible refine DV.w_rng2I (by omega) ?_
    | with_reducible refine DV.w_rngN (by omega) ?_
    | with_reducible refine DV.w_rngI (by omega) ?_
    | with_reducible refine DV.w_loopN ?_
    | with_reducible refine DV.w_loopC ?_
    | with_reducible refine DV.w_loopB ?_
    | with_reducible refine DV.w_loopR ?_
    | with_reducible refine DV.w_runN ?_
    | with_reducible refine DV.w_runR ?_
    | with_reducible refine DV.w_tg (by with_unfolding_all (simp only [DV.lockE, DV.unlockE, List.getElem?_cons_succ, List.getElem?_cons_zero, DV.wipeE, DV.gTupF, DV.gMore, DV.gNone, DV.gNm, List.set_cons_succ, List.set_cons_zero, List.length]; rfl)) ?_)
local macro_rules
  | `(tactic| infer_instance) => `(tactic| first
    | with_reducible refine r0_ ?_
    | with_reducible refine r1_ ?_
    | with_reducible refine w_eqQ ?_
    | with_reducible refine w_neQ ?_)
theorem canLay_q (q : Rat) : PyData.canLay0 (qtD q) = true := rfl
theorem depth_q (q : Rat) : (qtD q).depth ≤ 10 := by simp [PyData.depth, PyData.depthAll]
theorem w_neNQ {P : RV → Prop} {L : List Rat} (p : P (.d (.bool (!decide (L = []))))) : K2 gNe P (.n (L.map qtD)) (.n []) := by
  refine ⟨_, ?_, p⟩
  show (if SeqAt.shaped (.list (L.map qtD)) = true then if SeqAt.shaped (.list []) = true then some (RV.d (.bool (!PyData.eqv (.list (L.map qtD)) (.list [])))) else none else none) = _
  rw [if_pos (shaped_map canLay_q depth_q L), if_pos (show SeqAt.shaped (.list []) = true from shaped_map canLay_q depth_q []), PyData.eqv]
  cases L with
  | nil => rfl
  | cons a L => rfl
/-- sorted(..)[::-1] -/
theorem w_revN {P : RV → Prop} {f : DV.Env → DV.M RV} {ρ : DV.Env} (p : DV.Gives (f ρ) fun x => ∃ L : List Int, x = .n (L.map PyData.int) ∧ P (.n (L.reverse.map PyData.int))) : DV.Gives (eRev f ρ) P := by
  unfold eRev
  refine Gives.bnd p fun x ⟨L, e, q⟩ => ?_
  have e2 : gRev (.n (L.map PyData.int)) = some (.n (L.reverse.map PyData.int)) := by
    show some (RV.n (L.map PyData.int).reverse) = _
    rw [← List.map_reverse]
  rw [e, e2]
  exact Gives.ret q
end Lk89

namespace Lk89
open PySem L2 DV DVL DVH
section
variable {ts ss : List Int}
theorem rs_int (f : Nat → Int) : ∀ U : List Nat, RS_ (fun j => (f j : Rat)) U = (((U.map f).sum : Int) : Rat)
  | [] => rfl
  | a :: U => by
    have := rs_int f U
    unfold RS_ at this ⊢
    rw [List.map_cons, List.sum_cons, this, List.map_cons, List.sum_cons, Rat.intCast_add]
theorem rs_x0 (ts : List Int) (U : List Nat) : RS_ (x0_ ts) U = (((U.map fun j : Nat => val ts (j : Int)).sum : Int) : Rat) := rs_int (fun j : Nat => val ts (j : Int)) U
theorem val_nat (ts : List Int) (j : Nat) : val ts (j : Int) = ts.getD j 0 := by
  unfold val
  rw [Int.toNat_natCast]
theorem range_getD (L : List Int) : (List.range L.length).map (fun j => L.getD j 0) = L := by
  refine List.ext_getElem? fun j => ?_
  by_cases hj : j < L.length
  · rw [List.getElem?_map, List.getElem?_range hj, List.getElem?_eq_getElem hj]
    show some (L.getD j 0) = _
    rw [List.getD_eq_getElem?_getD, List.getElem?_eq_getElem hj]
    rfl
  · rw [List.getElem?_eq_none (by rw [List.length_map, List.length_range]; omega), List.getElem?_eq_none (by omega)]
/-- the k longest -/
theorem the_top (ts : List Int) (k : Nat) (hk : k ≤ ts.length) : ∃ S : List Nat, S.Nodup ∧ (∀ j ∈ S, j < ts.length) ∧ S.length = k ∧ (S.map fun j : Nat => val ts (j : Int)).sum = ((fst_ ts).take k).sum := by
  obtain ⟨B, hB, eB⟩ := perm_lift (f := fun j => ts.getD j 0) (fst_perm ts).symm (List.range ts.length) (range_getD ts)
  have hBl : B.length = ts.length := by rw [← hB.length_eq, List.length_range]
  refine ⟨B.take k, (hB.nodup_iff.mp List.nodup_range).sublist (List.take_sublist _ _), fun j hj => List.mem_range.mp (hB.mem_iff.mpr (List.mem_of_mem_take hj)), by rw [List.length_take]; omega, ?_⟩
  rw [← eB, ← List.map_take, List.map_congr_left fun j _ => val_nat ts j]
theorem all_sum (ts : List Int) : ((List.range ts.length).map fun j : Nat => val ts (j : Int)).sum = ts.sum := by
  rw [show ((List.range ts.length).map fun j : Nat => val ts (j : Int)) = ts from ?_]
  rw [show ((List.range ts.length).map fun j : Nat => val ts (j : Int)) = (List.range ts.length).map fun j => ts.getD j 0 from List.map_congr_left fun j _ => val_nat ts j]
  exact range_getD ts
theorem Fs_all (ss : List Int) {k : Nat} (h : ss.length ≤ k) : Fs ss k = (ss.sum : Rat) := by
  unfold Fs fsm
  rw [List.take_of_length_le (by rw [fst_len]; exact h), fst_sum]
theorem Fs_le (h : ∀ s ∈ ss, 0 ≤ s) (k : Nat) : Fs ss k ≤ (ss.sum : Rat) := by
  have C : Cc (Fs ss) := Fs_ok h
  have := C.mono (show k ≤ max k ss.length by omega)
  rwa [Fs_all ss (show ss.length ≤ max k ss.length by omega)] at this
theorem rows_fst (ts ss : List Int) : DVH.rowsL (fst_ ts) (fst_ ss) = (ts.sum, ss.sum) :: (List.range' 1 (min ts.length (ss.length - 1))).map fun k => (((fst_ ts).take k).sum, ((fst_ ss).take k).sum) := by
  unfold DVH.rowsL
  rw [fst_sum, fst_sum, fst_len, fst_len]
/-- ahead of the bound something is left -/
theorem short (hs : ∀ s ∈ ss, 1 ≤ s) (h1 : 1 ≤ ss.length) {t T : Rat} (h : IsTop (fst_ ts) (fst_ ss) t) (h0 : 0 ≤ T) (hT : T < t) : ∃ S : List Nat, S.Nodup ∧ (∀ j ∈ S, j < ts.length) ∧ T * Fs ss S.length < RS_ (x0_ ts) S := by
  obtain ⟨r, hr, e⟩ := h.mem
  rw [rows_fst] at hr
  have hs0 : ∀ s ∈ ss, 0 ≤ s := fun s h => by have := hs s h; omega
  rcases List.mem_cons.mp hr with z | z
  · refine ⟨List.range ts.length, List.nodup_range, fun j hj => List.mem_range.mp hj, ?_⟩
    rw [rs_x0, all_sum, List.length_range]
    have e : t * ((ss.sum : Int) : Rat) = ((ts.sum : Int) : Rat) := by rw [z] at e; exact e
    have hp : (0 : Rat) < ((ss.sum : Int) : Rat) := by
      have := take_pos (ft := ss) hs (Nat.le_refl ss.length)
      rw [List.take_length] at this
      exact_mod_cast (show 0 < ss.sum by omega)
    have h2 := Rat.mul_lt_mul_of_pos_right hT hp
    have h3 := Rat.mul_le_mul_of_nonneg_left (Fs_le hs0 ts.length) h0
    grind
  · obtain ⟨k, hk, rfl⟩ := List.mem_map.mp z
    rw [List.mem_range'_1] at hk
    obtain ⟨S, s1, s2, s3, s4⟩ := the_top ts k (by omega)
    refine ⟨S, s1, s2, ?_⟩
    rw [rs_x0, s4, s3]
    have e : t * Fs ss k = ((((fst_ ts).take k).sum : Int) : Rat) := e
    have hp : 0 < Fs ss k := by
      have := take_pos (ft := fst_ ss) (fun s h => hs s ((fst_perm ss).mem_iff.mp h)) (k := k) (by rw [fst_len]; omega)
      have h4 : 0 < ((fst_ ss).take k).sum := by omega
      unfold Fs fsm
      exact_mod_cast h4
    have h2 := Rat.mul_lt_mul_of_pos_right hT hp
    grind
end
end Lk89

namespace Lk89
open PySem L2 DV DVL DVH
local macro_rules
  | `(tactic| get_elem_tactic_trivial) => `(tactic| first
    | (simp only [List.set_cons_succ, List.set_cons_zero, DV.startE, DV.lawE, DV.toK, DV.lockE, DV.wipeE, List.map_cons, List.map_nil, List.length_cons, List.length_nil, List.replicate_zero, List.replicate_succ, Nat.reduceSub, Nat.reduceAdd, List.append_nil, List.cons_append, List.nil_append]; rfl)
    | exact rfl)
local macro_rules
  | `(tactic| infer_instance) => `(tactic| first
    | with_reducible refine DV.w_cons ?_
    | with_reducible refine DV.w_var (by with_unfolding_all exact rfl) ?_
    | with_reducible refine DV.w_c ?_
    | with_reducible refine DV.w_nil ?_
    | with_reducible refine DV.w_e2 ?_
    | with_reducible refine DV.w_seq ?_
    | with_reducible refine DV.w_seqN ?_
    | with_reducible refine DV.w_seqR ?_
    | with_reducible refine DV.w_seqB ?_
    | with_reducible refine DV.w_seqC ?_
    | with_reducible refine DV.w_call ?_
    | with_reducible refine DV.w_fn ?_
    | with_reducible refine DV.w_f1 ?_
    | with_reducible refine DV.w_f2 ?_
    | with_reducible refine DV.w_f3 ?_
    | with_reducible refine DV.w_f4 ?_
    | with_reducible refine DV.w_f5 ?_
    | with_reducible refine DV.w_f6 ?_
    | with_reducible refine DV.w_set ?_
    | with_reducible refine DV.w_setApp ?_
    | with_reducible refine DV.w_setX (by with_unfolding_all exact rfl) (by with_unfolding_all (simp only [List.set_cons_succ, List.set_cons_zero]; rfl)) ?_
    | with_reducible refine DV.w_rt ?_
    | with_reducible refine DV.w_rtD ?_
    | with_reducible refine DV.w_rtN ?_
    | with_reducible refine DV.w_rtV (by with_unfolding_all exact rfl) ?_
    | with_reducible refine DV.w_if ?_
    | with_reducible refine DV.w_drop ?_
    | with_reducible refine DV.w_nop ?_
    | with_reducible refine DV.w_T ?_
    | with_reducible refine DV.w_B ?_
    | with_reducible refine DV.w_not ?_
    | with_reducible refine DV.w_and ?_
    | with_reducible refine DV.w_or ?_
    | with_reducible refine DV.w_ifT ?_
    | with_reducible refine DV.w_ifF ?_
    | with_reducible refine DV.w_ifNT ?_
    | with_reducible refine DV.w_ifNF ?_
    | with_reducible refine DV.w_stup ?_
    | with_reducible refine DV.w_stupD (by with_unfolding_all (simp only [DV.wipeE, DV.gTupF, DV.gMore, DV.gNone, DV.gNm, List.set_cons_succ, List.set_cons_zero, List.length]; rfl)) ?_
    | with_reducible refine DV.w_aug (by with_unfolding_all exact rfl) ?_
    | with_reducible refine DV.w_I ?_
    | with_reducible refine DV.w_app (by with_unfolding_all exact rfl) (by simp only [List.length_map]; omega) ?_
    | with_reducible refine DV.w_D ?_
    | with_reducible refine DV.w_for ?_
    | with_reducible refine DV.w_lc ?_
    | with_reducible refine DV.w_par ?_
    | with_reducible refine DV.w_par3 ?_
    | with_reducible refine DV.w_par4 ?_
    | with_reducible refine DV.w_parX (by with_unfolding_all exact rfl) (by with_unfolding_all exact rfl) (by with_unfolding_all (simp only [List.set_cons_succ, List.set_cons_zero]; rfl)) ?_
    | with_reducible refine DV.w_par3X (by with_unfolding_all exact rfl) (by with_unfolding_all exact rfl) (by with_unfolding_all exact rfl) (by with_unfolding_all (simp only [List.set_cons_succ, List.set_cons_zero]; rfl)) ?_
    | with_reducible refine DV.w_par4X (by with_unfolding_all exact rfl) (by with_unfolding_all exact rfl) (by with_unfolding_all exact rfl) (by with_unfolding_all exact rfl) (by with_unfolding_all (simp only [List.set_cons_succ, List.set_cons_zero]; rfl)) ?_
    | with_reducible refine DV.w_tup ?_
    | with_reducible refine DV.w_lst ?_
    | with_reducible refine DV.w_tu (by with_unfolding_all exact rfl) (by with_unfolding_all exact Nat.le_of_ble_eq_true rfl) ?_
    | with_reducible refine DV.w_ls (by with_unfolding_all exact rfl) (by with_unfolding_all exact Nat.le_of_ble_eq_true rfl) ?_
    | with_reducible refine DV.w_neg ?_
    | with_reducible refine DV.w_ifB ?_
    | with_reducible refine DV.w_ifE ?_
    | with_reducible refine DV.w_notB ?_
    | with_reducible refine DV.w_tt ?_
    | with_reducible refine DV.w_ch ?_
    | with_reducible refine DV.w_add ?_
    | with_reducible refine DV.w_sub ?_
    | with_reducible refine DV.w_mul (by first | omega | (left; constructor <;> omega) | (right; constructor <;> omega)) ?_
    | with_reducible refine DV.w_mod (by omega) ?_
    | with_reducible refine DV.w_div (by omega) ?_
    | with_reducible refine DV.w_lt ?_
    | with_reducible refine DV.w_le ?_
    | with_reducible refine DV.w_gt ?_
    | with_reducible refine DV.w_ge ?_
    | with_reducible refine DV.w_ltA ?_
    | with_reducible refine DV.w_leA ?_
    | with_reducible refine DV.w_gtA ?_
    | with_reducible refine DV.w_geA ?_
    | with_reducible refine DV.w_eq ?_
    | with_reducible refine DV.w_ne ?_
    | with_reducible refine DV.w_eqB ?_
    | with_reducible refine DV.w_neB ?_
    | with_reducible refine DV.w_eqN ?_
    | with_reducible refine DV.w_neN ?_
    | with_reducible refine DV.w_eqN0 ?_
    | with_reducible refine DV.w_neN0 ?_
    | with_reducible refine DV.w_in ?_
    | with_reducible refine DV.w_inB ?_
    | with_reducible refine DV.w_notIn ?_
    | with_reducible refine DV.w_notInB ?_
    | with_reducible refine DV.w_ix0 ?_
    | with_reducible refine DV.w_ix1 ?_
    | with_reducible refine DV.w_ix (by omega) ?_
    | with_reducible refine DV.w_ixB (by omega) ?_
    | with_reducible refine DV.w_len ?_
    | with_reducible refine DV.w_lenB ?_
    | with_reducible refine DV.w_lenN ?_
    | with_reducible refine DV.w_lenM ?_
    | with_reducible refine DV.w_lenMB ?_
    | with_reducible refine DV.w_lenMN ?_
    | with_reducible refine DV.w_lenD ?_
    | with_reducible refine DV.w_lenDB ?_
    | with_reducible refine DV.w_lenDN ?_
    | with_reducible refine DV.w_tupN ?_
    | with_reducible refine DV.w_tupB ?_
    | with_reducible refine DV.w_tupD ?_
    | with_reducible refine DV.w_lstD ?_
    | with_reducible refine DV.w_lstB ?_
    | with_reducible refine DV.w_lstN ?_
    | with_reducible refine DV.w_sum ?_
    | with_reducible refine DV.w_sumN ?_
    | with_reducible refine DV.w_sumB ?_
    | with_reducible refine DV.w_max2 ?_
    | with_reducible refine DV.w_min2 ?_
    | with_reducible refine DV.w_int ?_
    | with_reducible refine DV.w_sort ?_
    | with_reducible refine DV.w_sortN ?_
    | with_reducible refine DV.w_sortB ?_
    | with_reducible refine DV.w_rep (by omega) ?_
    | with_reducible refine DV.w_repN (by omega) ?_
    | with_reducible refine DV.w_moveG (by with_unfolding_all exact rfl) (by with_unfolding_all (simp only [List.set_cons_succ, List.set_cons_zero]; rfl)) ?_
    | with_reducible refine DV.w_moveO (by with_unfolding_all exact rfl) (by with_unfolding_all (simp only [List.set_cons_succ, List.set_cons_zero]; rfl)) ?_
    | with_reducible refine DV.w_moveD (by with_unfolding_all exact rfl) (by with_unfolding_all (simp only [List.set_cons_succ, List.set_cons_zero]; rfl)) ?_
    | with_reducible refine DV.w_catTI (by (try simp only [List.length_append, List.length_take, List.length_drop, List.length_cons, List.length_nil]); omega) ?_
    | with_reducible refine DV.w_catT1 (by (try simp only [List.length_append, List.length_take, List.length_drop, List.length_cons, List.length_nil]); omega) ?_
    | with_reducible refine DV.w_listG ?_
    | with_reducible refine DV.w_sortK ?_
    | with_reducible refine DV.w_colS ?_
    | with_reducible refine DV.w_itT ?_
    | with_reducible refine DV.w_itB ?_
    | with_reducible refine DV.w_itN ?_
    | with_reducible refine DV.w_colR ?_
    | with_reducible refine DV.w_colRN (by omega) ?_
    | with_reducible refine DV.w_ext (by with_unfolding_all exact rfl) ?_
    | with_reducible refine DV.w_lc2 ?_
    | with_reducible refine DV.w_isT ?_
    | with_reducible refine DV.w_isNN ?_
    | with_reducible refine DV.w_isNI ?_
    | with_reducible refine DV.w_isNT ?_
    | with_reducible refine DV.w_ntNN ?_
    | with_reducible refine DV.w_ntNI ?_
    | with_reducible refine DV.w_ntNT ?_
    | with_reducible refine DV.w_repND (by omega) ?_
    | with_reducible refine DV.w_put (by with_unfolding_all exact rfl) ?_
    | with_reducible refine DV.w_putI (by (try simp only [List.length_set, List.length_replicate, List.length_map]); omega) ?_
    | with_reducible refine DV.w_eqB0 ?_
    | with_reducible refine DV.w_neB0 ?_
    | with_reducible refine DV.w_eqBB ?_
    | with_reducible refine DV.w_neBB ?_
    | with_reducible refine DV.w_eqNB ?_
    | with_reducible refine DV.w_neNB ?_
    | with_reducible refine DV.w_eqBN ?_
    | with_reducible refine DV.w_neBN ?_
    | with_reducible refine DV.w_eqT0 ?_
    | with_reducible refine DV.w_neT0 ?_
    | with_reducible refine DV.w_eqT ?_
    | with_reducible refine DV.w_neT ?_
    | with_reducible refine DV.w_gget ?_
    | with_reducible refine DV.w_dc ?_
    | with_reducible refine DV.w_dcN ?_
    | with_reducible refine DV.w_G ?_
    | with_reducible refine DV.w_gput ?_
    | with_reducible refine DV.w_gnew ?_
    | with_reducible refine DV.w_g1 ?_
    | with_reducible refine DV.w_ret ?_
    | with_reducible refine DV.w_slice ?_
    | with_reducible refine DV.w_part ?_
    | with_reducible refine DV.w_slToI (by omega) ?_
    | with_reducible refine DV.w_slFromI (by omega) ?_
    | with_reducible refine DV.w_slToBI (by omega) ?_
    | with_reducible refine DV.w_slFromBI (by omega) ?_
    | with_reducible refine DV.w_star ?_
    | with_reducible refine DV.w_starT ?_
    | with_reducible refine DV.w_starB ?_
    | with_reducible refine DV.w_starN ?_
    | with_reducible refine DV.w_ixR (by omega) ?_
    | with_reducible refine DV.w_ixRB (by omega) ?_
    | with_reducible refine DV.w_lrg ?_
    | with_reducible refine DV.w_trg ?_
    | with_reducible refine DV.w_rg (by omega) ?_
    | with_reducible refine DV.w_enum ?_
    | with_reducible refine DV.w_zip ?_
    | with_reducible refine DV.w_zip3 ?_
    | with_reducible refine DV.w_step ?_
    | with_reducible refine DV.w_stepB (by omega) ?_
    | with_reducible refine DV.w_srev ?_
    | with_reducible refine DV.w_srevT ?_
    | with_reducible refine DV.w_isTT ?_
    | with_reducible refine DV.w_ntTT ?_
    | with_reducible refine DV.w_isFT ?_
    | with_reducible refine DV.w_ntFT ?_
    | with_reducible refine DV.w_isTF ?_
    | with_reducible refine DV.w_ntTF ?_
    | with_reducible refine DV.w_isFF ?_
    | with_reducible refine DV.w_ntFF ?_
    | with_reducible refine DV.w_ixS (by omega) ?_
    | with_reducible refine DV.w_ix2 ?_
    | with_reducible refine DV.w_gget2 ?_
    | with_reducible refine DV.w_notInTs ?_
    | with_reducible refine DV.w_inTs ?_
    | with_reducible refine DV.w_inTsN ?_
    | with_reducible refine DV.w_sset ?_
    | with_reducible refine DV.w_ssetU (by omega) (by assumption) ?_
    | with_reducible refine DV.w_met ?_
    | with_reducible refine DV.w_itL ?_
    | with_reducible refine DV.w_two ?_
    | with_reducible refine DV.w_twoX ?_
    | with_reducible refine DV.w_neS ?_
    | with_reducible refine DV.w_eqS ?_
    | with_reducible refine DV.w_rev ?_
    | with_reducible refine DV.w_revN ?_
    | with_reducible refine DV.w_lset ?_
    | with_reducible refine DV.w_isNL ?_
    | with_reducible refine DV.w_isBL ?_
    | with_reducible refine DV.w_ntNL ?_
    | with_reducible refine DV.w_ntBL ?_
    | with_reducible refine DV.w_abs ?_
    | with_reducible refine DV.w_neBl ?_
    | with_reducible refine DV.w_eqBl ?_
    | with_reducible refine DV.w_eqIP ?_
    | with_reducible refine DV.w_neIP ?_
    | with_reducible refine DV.w_ix3 ?_
    | with_reducible refine DVR.w_neW ?_
    | with_reducible refine DVR.w_ixL (by omega) ?_
    | with_reducible refine DV.w_dcomp ?_
    | with_reducible refine DV.w_intB ?_
    | with_reducible refine DV.w_augIx (by with_unfolding_all exact rfl) ?_
    | with_reducible refine DV.w_inN ?_
    | with_reducible refine DV.w_notInN ?_
    | with_reducible refine DV.w_srcE ?_
    | with_reducible refine DV.w_srcV (by with_unfolding_all exact rfl) ?_
    | with_reducible refine DV.w_src (by with_unfolding_all exact rfl) ?_
    | with_reducible refine DV.w_rng1 ?_
    | with_reducible refine DV.w_rng2 ?_
    | with_reducible refine DV.w_rng2I (by omega) ?_
    | with_reducible refine DV.w_rngN (by omega) ?_
    | with_reducible refine DV.w_rngI (by omega) ?_
    | with_reducible refine DV.w_loopN ?_
    | with_reducible refine DV.w_loopC ?_
    | with_reducible refine DV.w_loopB ?_
    | with_reducible refine DV.w_loopR ?_
    | with_reducible refine DV.w_runN ?_
    | with_reducible refine DV.w_runR ?_
    | with_reducible refine DV.w_tg (by with_unfolding_all (simp only [DV.lockE, DV.unlockE, List.getElem?_cons_succ, List.getElem?_cons_zero, DV.wipeE, DV.gTupF, DV.gMore, DV.gNone, DV.gNm, List.set_cons_succ, List.set_cons_zero, List.length]; rfl)) ?_)
local macro_rules
  | `(tactic| infer_instance) => `(tactic| first
    | with_reducible refine r0_ ?_
    | with_reducible refine r1_ ?_
    | with_reducible refine w_eqQ ?_
    | with_reducible refine w_neQ ?_)
theorem all2_len {α β : Type} {p : α → β → Prop} : ∀ {L : List α} {M : List β}, All2 p L M → L.length = M.length
  | _, _, .nil => rfl
  | _, _, .cons _ h => congrArg (· + 1) (all2_len h)
theorem all2_in {α β : Type} {p : α → β → Prop} {q : β → Prop} (hq : ∀ a b, p a b → q b) : ∀ {L : List α} {M : List β}, All2 p L M → ∀ b ∈ M, q b
  | _, _, .nil, _, h => nomatch h
  | _, _, .cons h1 h2, b, h => by
    rcases List.mem_cons.mp h with z | z
    · rw [z]; exact hq _ _ h1
    · exact all2_in hq h2 b z
theorem w_ixLft {P : RV → Prop} {n : Nat} {x : Nat → Rat} {J : Nat} (c : J < n) (p : P (.d (qtD (x J)))) : K2 gIx P (.d (.tuple (leftD n x))) (.d (.int (J : Int))) := w_ixM (by omega) (by rw [Int.toNat_natCast]; exact List.getElem?_range c) p
theorem law_minus_gives {p q : Rat} (hp : Sz 500 p) (hq : Sz 500 q) : DV.Gives (m__law_minus [.d (qtD p), .d (qtD q)]) fun r => r = .d (qtD (p - q)) := by
  unfold m__law_minus
  refine DV.w_run (by get_elem_tactic_trivial) ?_
  unfold g__law_minus
  repeat infer_instance
  refine w_mulB 500 500 hp.1 (na_den hq) (by decide) ?_
  repeat infer_instance
  refine w_mulB 500 500 hq.1 (na_den hp) (by decide) ?_
  repeat infer_instance
  refine w_mulB 500 500 (na_den hp) (na_den hq) (by decide) ?_
  repeat infer_instance
  have hnow : ((p.num * (q.den : Int) - q.num * (p.den : Int) : Int) : Rat) = (p - q) * (((p.den : Int) * (q.den : Int) : Int) : Rat) := by
    rw [Rat.intCast_sub, Rat.intCast_mul, Rat.intCast_mul, Rat.intCast_mul, nd_ p, nd_ q]
    grind
  refine w_is (lowest_is (q := p - q) (Int.mul_pos (den_pos p) (den_pos q)) (up_ (wide_lt (na_den hp) (na_den hq)) (by decide)) hnow) ?_
  repeat infer_instance
  rfl
section
variable {ts ss : List Int}
theorem sho_of (h1 : 1 ≤ ts.length) (h5 : ts.length ≤ 5) (ht : ∀ t ∈ ts, 1 ≤ t ∧ t ≤ 20) (s1 : 1 ≤ ss.length) (s4 : ss.length ≤ 4) (hs : ∀ s ∈ ss, 1 ≤ s ∧ s ≤ 4) : ShO ts ss := by
  refine ⟨h1, h5, fun t h => by have := ht t h; omega, s1, by omega, fun s h => by have := hs s h; omega, fun k _ => ?_⟩
  have hm : ∀ s ∈ (fst_ ss).take k, 1 ≤ s ∧ s ≤ 4 := fun s h => hs s ((fst_perm ss).mem_iff.mp (List.mem_of_mem_take h))
  have hl := sum_le 4 ((fst_ ss).take k) fun s h => (hm s h).2
  have hn := sum_le60 (L := (fst_ ss).take k) (fun s h => by have := hm s h; omega) ((fst_ ss).take k).length
  rw [List.take_length] at hn
  have hlen : ((fst_ ss).take k).length ≤ 4 := by
    rw [List.length_take, fst_len]
    omega
  refine ⟨((fst_ ss).take k).sum.toNat, by omega, ?_⟩
  unfold Fs fsm
  have : ((((fst_ ss).take k).sum.toNat : Nat) : Int) = ((fst_ ss).take k).sum := by omega
  rw [← this]
  rfl
theorem x0_map (ts : List Int) : (List.range ts.length).map (x0_ ts) = ts.map fun t : Int => (t : Rat) := by
  have h := congrArg (List.map fun t : Int => (t : Rat)) (range_getD ts)
  rw [List.map_map] at h
  rw [← h]
  refine List.map_congr_left fun j _ => ?_
  show ((val ts (j : Int) : Int) : Rat) = _
  rw [val_nat]
  rfl
variable {b : Rat}
theorem rows_b (O : ShO ts ss) : ∀ r ∈ DVH.rowsL (fst_ ts) (fst_ ss), 1 ≤ r.1 ∧ r.1 ≤ ts.sum ∧ 0 < r.2 ∧ r.2 ≤ 360 := fun r hr => by
  have G := lgs_of O
  have hp := rows_pos G r hr
  have hlt := fst_len ts
  have hls := fst_len ss
  have ht1 := O.t1
  have hs6 := O.s6
  have tot := take_pos G.lp (Nat.le_refl (fst_ ts).length)
  rw [List.take_length, fst_sum] at tot
  have totF := sum_le60 (L := fst_ ss) (fun t ht => O.sr t ((fst_perm ss).mem_iff.mp ht)) (fst_ ss).length
  rw [List.take_length, fst_sum] at totF
  rw [rows_fst] at hr
  rcases List.mem_cons.mp hr with z | z
  · rw [z] at hp ⊢
    exact ⟨by show 1 ≤ ts.sum; omega, Int.le_refl _, hp, by show ss.sum ≤ 360; omega⟩
  · obtain ⟨k, hk, rfl⟩ := List.mem_map.mp z
    rw [List.mem_range'_1] at hk
    have h1 := take_pos G.lp (k := k) (by omega)
    have h2 := sum_le60 (L := fst_ ss) (fun t ht => O.sr t ((fst_perm ss).mem_iff.mp ht)) k
    have h3 := List.take_append_drop k (fst_ ts)
    have h3 := congrArg List.sum h3
    rw [List.sum_append, fst_sum] at h3
    have h4 := sum_le60 (L := (fst_ ts).drop k) (fun t ht => O.tr t ((fst_perm ts).mem_iff.mp (List.mem_of_mem_drop ht))) ((fst_ ts).drop k).length
    rw [List.take_length] at h4
    refine ⟨by show 1 ≤ ((fst_ ts).take k).sum; omega, by show ((fst_ ts).take k).sum ≤ ts.sum; omega, hp, by show ((fst_ ss).take k).sum ≤ 360; omega⟩
theorem rows_sz (O : ShO ts ss) (hr : ∃ r ∈ DVH.rowsL (fst_ ts) (fst_ ss), (r.1 : Rat) = b * (r.2 : Rat)) : Sz 500 b ∧ 0 < b ∧ b ≤ ((ts.sum : Int) : Rat) := by
  obtain ⟨r, hr, e⟩ := hr
  obtain ⟨h1, h2, h3, h4⟩ := rows_b O r hr
  have h5 := sum_le60 O.tr ts.length
  rw [List.take_length] at h5
  have := O.t5
  have hp : (0 : Rat) < (r.2 : Rat) := by exact_mod_cast h3
  have hr1 : (1 : Rat) ≤ (r.1 : Rat) := by exact_mod_cast h1
  have hr3 : (1 : Rat) ≤ (r.2 : Rat) := by exact_mod_cast h3
  have hr2 : (r.1 : Rat) ≤ ((ts.sum : Int) : Rat) := by exact_mod_cast h2
  have hb : 0 < b := by
    refine Rat.not_le.mp fun z => ?_
    have := Rat.mul_le_mul_of_nonneg_right z (Rat.le_of_lt hp)
    grind
  refine ⟨(div_sz (k := 9) h3 (by omega) (by omega) e).up (by decide), hb, ?_⟩
  have := Rat.mul_le_mul_of_nonneg_left hr3 (Rat.le_of_lt hb)
  grind
theorem top_sz (O : ShO ts ss) (h : IsTop (fst_ ts) (fst_ ss) b) : Sz 500 b ∧ 0 < b ∧ b ≤ ((ts.sum : Int) : Rat) := by
  obtain ⟨r, hr, e⟩ := h.mem
  exact rows_sz O ⟨r, hr, e.symm⟩
/-- all are busy: the work of one day is the sum of the fastest -/
theorem busy_all {n : Nat} {x y : Nat → Rat} {F : Nat → Rat} (hn : 1 ≤ n) (I : LI F n x y 1) (h : ∀ j, j < n → 0 < y j) : RS_ (fun j => x j - y j) (List.range n) = F n := by
  obtain ⟨j, hj, hm⟩ := least_of y (L := List.range n) (by
    intro e
    have := congrArg List.length e
    rw [List.length_range] at this
    simp at this
    omega)
  have hjn := List.mem_range.mp hj
  have e : geq n y (y j) = List.range n := List.filter_eq_self.mpr fun i hi => decide_eq_true (hm i hi)
  have h1 := I.top (y j) (h j hjn)
  rw [e, List.length_range] at h1
  grind
end
theorem rs_succ (f : Nat → Rat) (u : Nat) : RS_ f (List.range (u + 1)) = RS_ f (List.range u) + f u := by
  rw [List.range_succ, rs_app]
  rw [show RS_ f [u] = f u from Rat.add_zero _]
theorem gone_sz {n Q Q' : Nat} {g x y : Nat → Rat} (hn : n ≤ 5) (h0 : ∀ j, j < n → 0 ≤ g j ∧ g j ≤ ((60 : Nat) : Rat)) (hQ : 0 < Q ∧ Q < 2 ^ 500) (hQ' : 0 < Q' ∧ Q' < 2 ^ 500) (hg : ∀ j, j < n → ∃ l : Int, g j * ((Q * Q' : Nat) : Rat) = (l : Rat)) :
    (∀ u, u ≤ n → Sz 1100 (RS_ g (List.range u))) ∧ ∀ j, j < n → Sz 1100 (g j) := by
  have hQQ : Q * Q' < 2 ^ 1000 := by
    have := Nat.mul_lt_mul'' hQ.2 hQ'.2
    rwa [← Nat.pow_add] at this
  have hp : 0 < Q * Q' := Nat.mul_pos hQ.1 hQ'.1
  have h9 : 300 * (Q * Q') < 2 ^ 1100 := by
    have h1 : 300 * (Q * Q') < 2 ^ 9 * 2 ^ 1000 := Nat.mul_lt_mul'' (by decide) hQQ
    rw [← Nat.pow_add] at h1
    exact Nat.lt_of_lt_of_le h1 (Nat.pow_le_pow_right (by decide) (by decide))
  have sums : ∀ u, u ≤ n → 0 ≤ RS_ g (List.range u) ∧ RS_ g (List.range u) ≤ ((60 * u : Nat) : Rat) ∧ ∃ l : Int, RS_ g (List.range u) * ((Q * Q' : Nat) : Rat) = (l : Rat) := fun u => by
    induction u with
    | zero => exact fun _ => ⟨Rat.le_refl, Rat.le_refl, 0, by show (0 : Rat) * _ = ((0 : Int) : Rat); grind⟩
    | succ u ih =>
      intro hu
      obtain ⟨i1, i2, l, i3⟩ := ih (by omega)
      obtain ⟨k1, k2⟩ := h0 u (by omega)
      obtain ⟨l', k3⟩ := hg u (by omega)
      rw [rs_succ]
      refine ⟨by grind, ?_, l + l', by rw [Rat.intCast_add, ← i3, ← k3]; grind⟩
      rw [show 60 * (u + 1) = 60 * u + 60 by omega, Rat.natCast_add]
      grind
  refine ⟨fun u hu => ?_, fun j hj => ?_⟩
  · obtain ⟨i1, i2, l, i3⟩ := sums u hu
    have i4 : RS_ g (List.range u) ≤ ((300 : Nat) : Rat) := Rat.le_trans i2 (by exact_mod_cast (show 60 * u ≤ 300 by omega))
    exact sz_of i1 i4 i3 hp h9 (by omega)
  · obtain ⟨k1, k2⟩ := h0 j hj
    obtain ⟨l', k3⟩ := hg j hj
    exact sz_of k1 k2 k3 hp (by omega) (by omega)
theorem w_slToN {P : RV → Prop} {L : List Int} {m : Nat} (p : P (.n ((L.take m).map PyData.int))) : KSl P (.n (L.map PyData.int)) none (some (m : Int)) := Gives.ret (by
  rw [cut_to (L.map PyData.int) (by omega), Int.toNat_natCast, ← List.map_take]
  exact p)
theorem law_gives : DV.Gives (g_law (lawE 15)) fun o => o = .rt (.d (.bool true)) := by
  unfold g_law
  refine DV.w_env (by get_elem_tactic_trivial) ?_
  repeat infer_instance
  refine w_use (jobs_gives 5 20 (by decide) (by decide) (by decide) (by decide)) fun r ⟨ts, ws, dd, e, J⟩ => ?_
  subst e
  repeat infer_instance
  refine w_use (taken_eq 4 (by decide) (by decide)) fun r ⟨i, e, i0, i1⟩ => ?_
  subst e
  obtain ⟨m, hm⟩ : ∃ m : Nat, 1 + i = (m : Int) := ⟨(1 + i).toNat, by omega⟩
  have hm1 : 1 ≤ m ∧ m ≤ 4 := by omega
  clear i0 i1
  repeat infer_instance
  rw [hm]
  repeat infer_instance
  refine w_lcA (fun _ s => 1 ≤ s ∧ s ≤ 4) (by rw [rngI_len]; omega) (fun a _ => ?_) fun ss hss => ?_
  · repeat infer_instance
    refine w_use (taken_eq 4 (by decide) (by decide)) fun r ⟨q, e, q0, q1⟩ => ?_
    subst e
    repeat infer_instance
    exact ⟨_, rfl, by omega⟩
  have hsl := all2_len hss
  have hsr : ∀ s ∈ ss, 1 ≤ s ∧ s ≤ 4 := all2_in (q := fun s => 1 ≤ s ∧ s ≤ 4) (fun _ _ h => h) hss
  rw [rngI_len, Int.toNat_natCast] at hsl
  clear hss hm
  subst hsl
  have hts : ∀ t ∈ ts, 1 ≤ t ∧ t ≤ 20 := fun t ht => by have := J.tim t ht; omega
  have hl1 := J.pos
  have hl5 : ts.length ≤ 5 := by have := J.len; omega
  clear J
  have O : ShO ts ss := sho_of hl1 hl5 hts hm1.1 hm1.2 hsr
  have hs0 : ∀ s ∈ ss, 0 ≤ s := fun s h => by have := hsr s h; omega
  have C : Cc (Fs ss) := Fs_ok hs0
  repeat infer_instance
  refine w_lcM (L := ts) (mk := PyData.int) (fun t : Int => qtD (t : Rat)) (by omega) (fun t _ => ?_) ?_
  · repeat infer_instance
    rfl
  have e1 : leftD ts.length (x0_ ts) = ((List.range ts.length).map (x0_ ts)).map qtD := by rw [List.map_map]; rfl
  have e2 : ts.map (fun t : Int => qtD (t : Rat)) = (ts.map fun t : Int => (t : Rat)).map qtD := by rw [List.map_map]; rfl
  have e3 : ts.map (fun t : Int => qtD (t : Rat)) = leftD ts.length (x0_ ts) := by rw [e2, e1, x0_map]
  rw [e3]
  repeat infer_instance
  have hx0 : ∀ j, j < ts.length → 0 ≤ x0_ ts j ∧ x0_ ts j ≤ ((60 : Nat) : Rat) := fun j hj => by
    have := O.tr (val ts (j : Int)) (val_mem (by omega) (by omega))
    unfold x0_
    exact ⟨by exact_mod_cast (show (0 : Int) ≤ val ts (j : Int) by omega), by exact_mod_cast (show val ts (j : Int) ≤ (60 : Int) by omega)⟩
  have h500 : (1 : Nat) < 2 ^ 500 := Nat.lt_of_lt_of_le (show 1 < 2 ^ 1 by decide) (Nat.pow_le_pow_right (by decide) (by decide))
  refine w_loop0 (fun rest ρ => ∃ (v : Nat) (x : Nat → Rat) (Q : Nat) (y5 y8 y9 y10 y11 y12 y13 y14 : Option SV), rest = rngI ((v + 1 : Nat) : Int) (5 - (v + 1)) ∧ v ≤ 4 ∧ LI (Fs ss) ts.length (x0_ ts) x (v : Rat) ∧ Reach (Fs ss) ts.length (x0_ ts) (v : Rat) x ∧ (∀ j, j < ts.length → Sz 500 (x j)) ∧ (0 < Q ∧ Q < 2 ^ 500 ∧ ∀ j, j < ts.length → ∃ l : Int, x j * (Q : Rat) = (l : Rat)) ∧
    ρ = [none, some .row, some (.d (ti ts)), some (.d (.int (ss.length : Nat))), some (.d (ti ss)), y5, some (.d (.tuple (leftD ts.length x))), some (.d (.int (v : Nat))), y8, y9, y10, y11, y12, y13, y14])
    ⟨0, x0_ ts, 1, _, _, _, _, _, _, _, _, rfl, by decide, ?_, ?_, fun j hj => ?_, ⟨by decide, h500, fun j hj => ⟨val ts (j : Int), by unfold x0_; grind⟩⟩, rfl⟩ ?_ ?_
  · exact LI.start C fun j hj => (hx0 j hj).1
  · have : Reach (Fs ss) ts.length (x0_ ts) 0 (DVH.stp (Fs ss) ts.length (x0_ ts) 0) := .fin Rat.le_refl fun e he => by
      cases he with
      | done _ a b e1 => rw [e1]; exact Rat.le_of_lt (dpos a b)
      | meet _ _ a b e1 => rw [e1]; exact Rat.le_of_lt (dpos (by grind) (by grind))
    rw [stp_zero] at this
    exact this
  · have := O.tr (val ts (j : Int)) (val_mem (by omega) (by omega))
    exact ⟨Nat.lt_of_lt_of_le (show (val ts (j : Int)).natAbs < 2 ^ 6 by omega) (Nat.pow_le_pow_right (by decide) (by decide)), Nat.lt_of_lt_of_le (show 1 < 2 ^ 6 by decide) (Nat.pow_le_pow_right (by decide) (by decide))⟩
  · rintro j rest ρ ⟨v, x, Q, y5, y8, y9, y10, y11, y12, y13, y14, e, hv, I, R, hsx, ⟨Q1, Q2, Q3⟩, rfl⟩
    obtain ⟨hj, hlt, hrest⟩ := rng_step e
    subst hj
    repeat infer_instance
    refine w_use (shared_givesQ O (T := v + 1) (by omega)) fun r ⟨y, e, hR, hI, hsy, Q', q1, q2, q3⟩ => ?_
    subst e
    have ev : ((v + 1 : Nat) : Rat) = (v : Rat) + 1 := Rat.natCast_add v 1
    have hon := Reach.on C R ev (by decide) hR
    have I1 : LI (Fs ss) ts.length x y (0 + 1) := hon.li C (LI.start C I.nn)
    rw [show (0 : Rat) + 1 = 1 by grind] at I1
    repeat infer_instance
    rw [show (!decide (((List.range ts.length).length : Int) = (ts.length : Int))) = false by rw [List.length_range]; simp]
    repeat infer_instance
    have hnum : ∀ j, j < ts.length → 0 ≤ (y j).num := fun j hj => Rat.num_nonneg.mpr (I1.nn j hj)
    refine w_lcD (List.range ts.length) (fun j => qtD (y j)) (fun _ => false) (fun j => qtD (y j)) (by rw [List.length_range]; omega) (fun j hj => ?_) ?_
    · have h0 := hnum j (List.mem_range.mp hj)
      have h1 := den_pos (y j)
      repeat infer_instance
      refine w_decF (by omega) ?_
      repeat infer_instance
      exact ⟨decide_eq_false (by omega), fun h => nomatch h⟩
    rw [show (List.range ts.length).filter (fun _ => false) = [] from List.filter_eq_nil_iff.mpr fun j hj h => nomatch h]
    repeat infer_instance
    refine w_neNQ (L := []) ?_
    repeat infer_instance
    rw [show (!decide (([] : List Rat) = [])) = false by simp]
    repeat infer_instance
    -- jobs against jobs
    refine w_loop0 (L := rngI 0 ts.length) (fun rest ρ => ∃ (y10 y11 : Option SV), (∀ j ∈ rest, 0 ≤ j ∧ j < (ts.length : Int)) ∧
      ρ = [none, some .row, some (.d (ti ts)), some (.d (.int (ss.length : Nat))), some (.d (ti ss)), y5, some (.d (.tuple (leftD ts.length x))), some (.d (.int ((v + 1 : Nat) : Int))), y8, some (.d (.tuple (leftD ts.length y))), y10, y11, y12, y13, y14]) ⟨_, _, fun j hj => by
        have := (mem_rngI _ _ _).mp hj
        omega, rfl⟩ ?_ ?_
    · rintro j rest2 ρ ⟨y10, y11, hin, rfl⟩
      obtain ⟨hj0, hj1⟩ := hin j List.mem_cons_self
      obtain ⟨a, rfl⟩ : ∃ a : Nat, j = (a : Int) := ⟨j.toNat, by omega⟩
      have ha : a < ts.length := by omega
      repeat infer_instance
      refine w_ixLft ha ?_
      repeat infer_instance
      refine w_ixLft ha ?_
      repeat infer_instance
      refine w_is (law_less_gives ((hsx a ha).up (by decide)) ((hsy a ha).up (by decide))) ?_
      repeat infer_instance
      refine w_decF (Rat.not_lt.mpr (I1.le a ha)) ?_
      repeat infer_instance
      refine w_loop0 (L := rngI 0 ts.length) (fun rest ρ => ∃ (y11 : Option SV), (∀ j ∈ rest, 0 ≤ j ∧ j < (ts.length : Int)) ∧
        ρ = [none, some .row, some (.d (ti ts)), some (.d (.int (ss.length : Nat))), some (.d (ti ss)), y5, some (.d (.tuple (leftD ts.length x))), some (.d (.int ((v + 1 : Nat) : Int))), y8, some (.d (.tuple (leftD ts.length y))), some (.d (.int (a : Int))), y11, y12, y13, y14]) ⟨_, fun j hj => by
          have := (mem_rngI _ _ _).mp hj
          omega, rfl⟩ ?_ ?_
      · rintro j rest3 ρ ⟨y11, hin3, rfl⟩
        obtain ⟨hj0, hj1⟩ := hin3 j List.mem_cons_self
        obtain ⟨b, rfl⟩ : ∃ b : Nat, j = (b : Int) := ⟨j.toNat, by omega⟩
        have hb : b < ts.length := by omega
        have nxt : ∃ (y11' : Option SV), (∀ j ∈ rest3, 0 ≤ j ∧ j < (ts.length : Int)) ∧
          [none, some SV.row, some (.d (ti ts)), some (.d (.int (ss.length : Nat))), some (.d (ti ss)), y5, some (.d (.tuple (leftD ts.length x))), some (.d (.int ((v + 1 : Nat) : Int))), y8, some (.d (.tuple (leftD ts.length y))), some (.d (.int (a : Int))), some (.d (.int (b : Int))), y12, y13, y14] = [none, some SV.row, some (.d (ti ts)), some (.d (.int (ss.length : Nat))), some (.d (ti ss)), y5, some (.d (.tuple (leftD ts.length x))), some (.d (.int ((v + 1 : Nat) : Int))), y8, some (.d (.tuple (leftD ts.length y))), some (.d (.int (a : Int))), y11', y12, y13, y14] :=
          ⟨_, fun j hj => hin3 j (List.mem_cons_of_mem _ hj), rfl⟩
        have mono : val ts (b : Int) ≤ val ts (a : Int) → y b ≤ y a := fun h => hI.od a b ha hb (by unfold x0_; exact_mod_cast h)
        have mono2 : val ts (a : Int) ≤ val ts (b : Int) → y a ≤ y b := fun h => hI.od b a hb ha (by unfold x0_; exact_mod_cast h)
        repeat infer_instance
        have second : True := trivial
        refine w_dec (fun c => ?_) (fun c => ?_)
        · repeat infer_instance
          refine w_ixLft ha ?_
          repeat infer_instance
          refine w_ixLft hb ?_
          repeat infer_instance
          refine w_is (law_less_gives ((hsy a ha).up (by decide)) ((hsy b hb).up (by decide))) ?_
          repeat infer_instance
          refine w_decF (Rat.not_lt.mpr (mono c)) ?_
          repeat infer_instance
          refine w_dec (fun c2 => ?_) (fun c2 => ?_)
          · repeat infer_instance
            refine w_ixLft ha ?_
            repeat infer_instance
            refine w_ixLft hb ?_
            repeat infer_instance
            rw [show (!decide (y a = y b)) = false by rw [decide_eq_true (Rat.le_antisymm (mono2 (by omega)) (mono (by omega)))]; rfl]
            repeat infer_instance
            exact nxt
          · repeat infer_instance
            exact nxt
        · repeat infer_instance
          refine w_decF (by omega) ?_
          repeat infer_instance
          exact nxt
      · rintro ρ ⟨y11, hin3, rfl⟩
        repeat infer_instance
        exact ⟨_, _, fun j hj => hin j (List.mem_cons_of_mem _ hj), rfl⟩
    · rintro ρ ⟨y10, y11, hin, rfl⟩
      repeat infer_instance
      refine w_lcD (List.range ts.length) (fun j => qtD (y j)) (fun j => decide (0 < (y j).num)) (fun j => qtD (y j)) (by rw [List.length_range]; omega) (fun j hj => ?_) ?_
      · repeat infer_instance
        refine ⟨rfl, fun _ => ?_⟩
        repeat infer_instance
        rfl
      repeat infer_instance
      obtain ⟨sz1, sz2⟩ := gone_sz (n := ts.length) (g := fun j => x j - y j) (Q := Q) (Q' := Q') (x := x) (y := y) hl5 (fun j hj => by
        have h1 := I1.le j hj
        have h2 := I1.nn j hj
        have h3 := I.le j hj
        have h4 := (hx0 j hj).2
        exact ⟨by grind, by grind⟩) ⟨Q1, Q2⟩ ⟨q1, q2⟩ (fun j hj => by
        obtain ⟨l, hl⟩ := Q3 j hj
        obtain ⟨l', hl'⟩ := q3 j hj
        refine ⟨l * (Q' : Int) - l' * (Q : Int), ?_⟩
        rw [Rat.intCast_sub, Rat.intCast_mul, Rat.intCast_mul, ← hl, ← hl', Rat.natCast_mul]
        have e1 : (((Q' : Nat) : Int) : Rat) = (Q' : Rat) := rfl
        have e2 : (((Q : Nat) : Int) : Rat) = (Q : Rat) := rfl
        rw [e1, e2]
        grind)
      refine w_loop0 (L := rngI 0 ts.length) (fun rest ρ => ∃ (u : Nat) (y5 y14 : Option SV), rest = rngI (u : Int) (ts.length - u) ∧ u ≤ ts.length ∧
        ρ = [none, some .row, some (.d (ti ts)), some (.d (.int (ss.length : Nat))), some (.d (ti ss)), y5, some (.d (.tuple (leftD ts.length x))), some (.d (.int ((v + 1 : Nat) : Int))), y8, some (.d (.tuple (leftD ts.length y))), y10, y11, some (.d (qtD (RS_ (fun j => x j - y j) (List.range u)))), some (.d (.int (((List.range ts.length).filter fun j => decide (0 < (y j).num)).length : Nat))), y14]) ⟨0, y5, y14, rfl, Nat.zero_le _, ?_⟩ ?_ ?_
      · rfl
      · rintro j rest4 ρ ⟨u, y5, y14, er, hu, rfl⟩
        obtain ⟨hj, hult, hrest4⟩ := rng_step er
        subst hj
        have s1 := sz1 u hu
        have s2 := sz2 u hult
        have s1 : Sz 1100 (RS_ (fun j => x j - y j) (List.range u)) := s1
        have s2 : Sz 1100 (x u - y u) := s2
        have esum := rs_succ (fun j => x j - y j) u
        have esum : RS_ (fun j => x j - y j) (List.range (u + 1)) = RS_ (fun j => x j - y j) (List.range u) + (x u - y u) := esum
        generalize hR : RS_ (fun j => x j - y j) (List.range u) = q at *
        generalize hS : x u - y u = d at *
        have hnow : ((q.num * (d.den : Int) + d.num * (q.den : Int) : Int) : Rat) = (q + d) * (((q.den : Int) * (d.den : Int) : Int) : Rat) := by
          rw [Rat.intCast_add, Rat.intCast_mul, Rat.intCast_mul, Rat.intCast_mul, nd_ q, nd_ d]
          grind
        have hm : DV.Gives (m__law_minus [.d (qtD (x u)), .d (qtD (y u))]) fun r => r = .d (qtD d) := by
          rw [← hS]
          exact law_minus_gives (hsx u hult) (hsy u hult)
        repeat infer_instance
        refine w_ixLft hult ?_
        repeat infer_instance
        refine w_ixLft hult ?_
        repeat infer_instance
        refine w_is hm ?_
        repeat infer_instance
        refine w_mulB 1100 1100 s1.1 (na_den s2) (by decide) ?_
        repeat infer_instance
        refine w_mulB 1100 1100 s2.1 (na_den s1) (by decide) ?_
        repeat infer_instance
        refine w_mulB 1100 1100 (na_den s1) (na_den s2) (by decide) ?_
        repeat infer_instance
        refine w_is (lowest_is (q := q + d) (Int.mul_pos (den_pos q) (den_pos d)) (up_ (wide_lt (na_den s1) (na_den s2)) (by decide)) hnow) ?_
        repeat infer_instance
        exact ⟨u + 1, some (.d (.int (u : Int))), some (.d (qtD d)), hrest4, hult, by rw [esum]⟩
      · rintro ρ ⟨u, y5, y14, er, hu, rfl⟩
        have hend := rng_end er hu
        subst hend
        have s1 : Sz 1100 (RS_ (fun j => x j - y j) (List.range ts.length)) := sz1 ts.length (Nat.le_refl _)
        have hgone := I1.any (List.range ts.length) List.nodup_range fun j hj => List.mem_range.mp hj
        rw [List.length_range] at hgone
        have hall : (∀ j, j < ts.length → 0 < y j) → RS_ (fun j => x j - y j) (List.range ts.length) = Fs ss ts.length := busy_all hl1 I1
        generalize hRq : RS_ (fun j => x j - y j) (List.range ts.length) = q at *
        have hfm : 0 ≤ fsm ss ts.length ∧ fsm ss ts.length ≤ 360 := by
          have := sum_le60 (L := fst_ ss) (fun t ht => O.sr t ((fst_perm ss).mem_iff.mp ht)) ts.length
          rw [fst_len] at this
          unfold fsm
          omega
        have hfsz : Sz 3000 ((fsm ss ts.length : Int) : Rat) := ⟨Nat.lt_of_lt_of_le (show (fsm ss ts.length).natAbs < 2 ^ 9 by omega) (Nat.pow_le_pow_right (by decide) (by decide)), Nat.lt_of_lt_of_le (show 1 < 2 ^ 6 by decide) (Nat.pow_le_pow_right (by decide) (by decide))⟩
        have hrev : (List.map PyData.int (DV.sortI ss)).reverse = (fst_ ss).map PyData.int := List.map_reverse.symm
        have hle : q ≤ ((fsm ss ts.length : Int) : Rat) := by
          have : q ≤ 1 * Fs ss ts.length := hgone
          unfold Fs at this
          grind
        have nxt : ∀ y9 : Option SV, ∃ (v' : Nat) (x' : Nat → Rat) (Q : Nat) (z5 z8 z9 z10 z11 z12 z13 z14 : Option SV), rest = rngI ((v' + 1 : Nat) : Int) (5 - (v' + 1)) ∧ v' ≤ 4 ∧ LI (Fs ss) ts.length (x0_ ts) x' (v' : Rat) ∧ Reach (Fs ss) ts.length (x0_ ts) (v' : Rat) x' ∧ (∀ j, j < ts.length → Sz 500 (x' j)) ∧ (0 < Q ∧ Q < 2 ^ 500 ∧ ∀ j, j < ts.length → ∃ l : Int, x' j * (Q : Rat) = (l : Rat)) ∧
          [none, some SV.row, some (.d (ti ts)), some (.d (.int (ss.length : Nat))), some (.d (ti ss)), y5, some (.d (.tuple (leftD ts.length y))), some (.d (.int ((v + 1 : Nat) : Int))), y8, y9, y10, y11, some (.d (qtD q)), some (.d (.int (((List.range ts.length).filter fun j => decide (0 < (y j).num)).length : Nat))), y14] = [none, some SV.row, some (.d (ti ts)), some (.d (.int (ss.length : Nat))), some (.d (ti ss)), z5, some (.d (.tuple (leftD ts.length x'))), some (.d (.int (v' : Nat))), z8, z9, z10, z11, z12, z13, z14] :=
          fun y9 => ⟨v + 1, y, Q', y5, y8, y9, y10, y11, _, _, y14, hrest, by omega, hI, hR, hsy, ⟨q1, q2, q3⟩, rfl⟩
        repeat infer_instance
        rw [hrev]
        refine w_slToN ?_
        repeat infer_instance
        refine w_is (law_less_gives (p := ((fsm ss ts.length : Int) : Rat)) hfsz (s1.up (by decide))) ?_
        repeat infer_instance
        refine w_decF (Rat.not_lt.mpr hle) ?_
        repeat infer_instance
        refine w_dec (fun c => ?_) (fun c => ?_)
        · repeat infer_instance
          rw [hrev]
          refine w_slToN ?_
          repeat infer_instance
          have hb : ∀ j, j < ts.length → 0 < y j := by
            have h1 : ((List.range ts.length).filter fun j => decide (0 < (y j).num)).length = (List.range ts.length).length := by
              rw [List.length_range]
              omega
            have h2 := List.length_filter_eq_length_iff.mp h1
            exact fun j hj => num_pos'.mp (of_decide_eq_true (h2 j (List.mem_range.mpr hj)))
          have hq : q = ((fsm ss ts.length : Int) : Rat) := hall hb
          rw [show (!decide (q.num = ((fst_ ss).take ts.length).sum ∧ ((q.den : Nat) : Int) = 1)) = false by
            rw [decide_eq_true]
            · rfl
            · rw [hq]
              exact ⟨rfl, rfl⟩]
          repeat infer_instance
          exact nxt _
        · repeat infer_instance
          exact nxt _
  · rintro ρ ⟨v, x, Q, y5, y8, y9, y10, y11, y12, y13, y14, e, hv, I, R, hsx, ⟨Q1, Q2, Q3⟩, rfl⟩
    have hend := rng_end e (by omega)
    have hv4 : v = 4 := by omega
    subst hv4
    repeat infer_instance
    refine w_use (level_speeds_gives O) fun r ⟨t, e, ht⟩ => ?_
    subst e
    repeat infer_instance
    obtain ⟨t1, t2, t3⟩ := top_sz O ht
    have h4 : Sz 3000 (((4 : Int) : Rat)) := ⟨Nat.lt_of_lt_of_le (show (4 : Int).natAbs < 2 ^ 6 by decide) (Nat.pow_le_pow_right (by decide) (by decide)), Nat.lt_of_lt_of_le (show 1 < 2 ^ 6 by decide) (Nat.pow_le_pow_right (by decide) (by decide))⟩
    refine w_is (law_less_gives (p := ((4 : Int) : Rat)) h4 (t1.up (by decide))) ?_
    repeat infer_instance
    by_cases c : ((4 : Int) : Rat) < t
    · rw [decide_eq_true c]
      repeat infer_instance
      obtain ⟨S, sa, sb, sc⟩ := short (fun s h => (hsr s h).1) hm1.1 ht (T := ((4 : Nat) : Rat)) (by decide) c
      obtain ⟨j0, hj0, hp0⟩ := I.some_left sa sb sc
      refine w_lcD (List.range ts.length) (fun j => qtD (x j)) (fun j => decide (0 < (x j).num)) (fun j => qtD (x j)) (by rw [List.length_range]; omega) (fun j hj => ?_) ?_
      · repeat infer_instance
        refine ⟨rfl, fun _ => ?_⟩
        repeat infer_instance
        rfl
      rw [show ((List.range ts.length).filter (fun j => decide (0 < (x j).num))).map (fun j => qtD (x j)) = (((List.range ts.length).filter (fun j => decide (0 < (x j).num))).map x).map qtD by rw [List.map_map]; rfl]
      repeat infer_instance
      refine w_neNQ ?_
      rw [show (!decide ((((List.range ts.length).filter (fun j => decide (0 < (x j).num))).map x) = [])) = true from by
        rw [decide_eq_false]
        · rfl
        · intro h
          rw [List.map_eq_nil_iff, List.filter_eq_nil_iff] at h
          exact h j0 (List.mem_range.mpr (sb j0 hj0)) (decide_eq_true (num_pos'.mpr hp0))]
      repeat infer_instance
      rfl
    · rw [decide_eq_false c]
      repeat infer_instance
      rfl
theorem law_holds : LawHolds := fun ns _ => by
  obtain ⟨o, rs', e, h⟩ := law_gives ⟨ns, 0, 3989, 0⟩
  subst h
  exact ⟨rs', e⟩
end Lk89

open PySem PySem.W PyProof.Rows
set_option maxHeartbeats 0 in
theorem PySem.Challenge.cw_shoporders_k89_whole_work_left_on_speeds_holds : PySem.Challenge.rw_shoporders_k89_whole_work_left_on_speeds.Holds := by
  w_on; o_law; k_head; (case hw => w_witness2)
  k_fill
  refine L2.walk_of (l := PySem.Challenge.rw_shoporders_k89_whole_work_left_on_speeds) (n := 63) (k := 6) (x := "_law_script") (CX := fun _ => L2.CX0) (sp := fun w => DV.spLaw _) rfl (by decide) rfl ⟨rfl, by decide, by decide⟩ (fun w h Y => PySem.W.kIn_of Y) ?F (fun _ _ a ns hl _ hS => ⟨a, ns, rfl, DV.tabs_none (by kernel_rfl), hS, hl, fun _ => rfl⟩) (fun _ _ _ _ _ h => h)
  case F =>
    intro w mg fa h KX G hmg
    refine' Lk89.all_mk Lk89.law_holds KX G hmg ?a1 ?l1 ?c1 ?k1 ?a2 ?l2 ?c2 ?k2 ?a3 ?l3 ?c3 ?k3 ?a4 ?l4 ?c4 ?k4 ?a5 ?l5 ?c5 ?k5 ?a6 ?l6 ?c6 ?k6 ?a7 ?l7 ?c7 ?k7 ?a8 ?l8 ?c8 ?k8 ?a9 ?l9 ?c9 ?k9 ?a10 ?l10 ?c10 ?k10 ?a11 ?l11 ?c11 ?k11 ?a12 ?l12 ?c12 ?k12 ?a13 ?l13 ?c13 ?k13 ?a14 ?l14 ?c14 ?k14 ?a15 ?l15 ?c15 ?k15 ?a16 ?l16 ?c16 ?k16 ?a17 ?l17 ?c17 ?k17 ?a18 ?l18 ?c18 ?k18 ?a19 ?l19 ?c19 ?k19 ?a20 ?l20 ?c20 ?k20 ?a21 ?l21 ?c21 ?k21 ?a22 ?l22 ?c22 ?k22 ?a23 ?l23 ?c23 ?k23 ?z0 ?z1 ?z2 ?z3 ?z4 ?z5 ?z6 ?z7 ?z8 ?z9 ?z10 ?z11 ?z12 ?y0 ?y1 ?y2
    (case a1 => k_is); (case l1 => k_is); (case c1 => k_is); (case k1 => k_is); (case a2 => k_is); (case l2 => k_is); (case c2 => k_is); (case k2 => k_is); (case a3 => k_is); (case l3 => k_is); (case c3 => k_is); (case k3 => k_is); (case a4 => k_is); (case l4 => k_is); (case c4 => k_is); (case k4 => k_is); (case a5 => k_is); (case l5 => k_is); (case c5 => k_is); (case k5 => k_is); (case a6 => k_is); (case l6 => k_is); (case c6 => k_is); (case k6 => k_is); (case a7 => k_is); (case l7 => k_is); (case c7 => k_is); (case k7 => k_is); (case a8 => k_is); (case l8 => k_is); (case c8 => k_is); (case k8 => k_is); (case a9 => k_is); (case l9 => k_is); (case c9 => k_is); (case k9 => k_is); (case a10 => k_is); (case l10 => k_is); (case c10 => k_is); (case k10 => k_is); (case a11 => k_is); (case l11 => k_is); (case c11 => k_is); (case k11 => k_is); (case a12 => k_is); (case l12 => k_is); (case c12 => k_is); (case k12 => k_is); (case a13 => k_is); (case l13 => k_is); (case c13 => k_is); (case k13 => k_is); (case a14 => k_is); (case l14 => k_is); (case c14 => k_is); (case k14 => k_is); (case a15 => k_is); (case l15 => k_is); (case c15 => k_is); (case k15 => k_is); (case a16 => k_is); (case l16 => k_is); (case c16 => k_is); (case k16 => k_is); (case a17 => k_is); (case l17 => k_is); (case c17 => k_is); (case k17 => k_is); (case a18 => k_is); (case l18 => k_is); (case c18 => k_is); (case k18 => k_is); (case a19 => k_is); (case l19 => k_is); (case c19 => k_is); (case k19 => k_is); (case a20 => k_is); (case l20 => k_is); (case c20 => k_is); (case k20 => k_is); (case a21 => k_is); (case l21 => k_is); (case c21 => k_is); (case k21 => k_is); (case a22 => k_is); (case l22 => k_is); (case c22 => k_is); (case k22 => k_is); (case a23 => k_is); (case l23 => k_is); (case c23 => k_is); (case k23 => k_is); (case z0 => k_is); (case z1 => k_is); (case z2 => k_is); (case z3 => k_is); (case z4 => k_is); (case z5 => k_is); (case z6 => k_is); (case z7 => k_is); (case z8 => k_is); (case z9 => k_is); (case z10 => k_is); (case z11 => k_is); (case z12 => k_is); (case y0 => k_is); (case y1 => k_is); (case y2 => k_is)


