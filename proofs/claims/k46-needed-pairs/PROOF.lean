import PyProof.Rows.All
import Wide.All
import OpenK.AllK
import Wide.FinOn
import HandS.ForMost
import HandS.Flow
import HandS.Walk
import HandS.Lambda
import HandS.Dict
import KE.KDictKeyed
import HandS.TupMul
import HandS.TupAny
import HandS.Deep
import HandS.IsInst
import HandS.SortInts
import HandS.Conv
import HandS.Star
import KE.DataMinMax
import KE.SortKeyHeap
import HandS.SetFor
import KE.GoesEnum
import KE.GoesZip
import HandS.ExcOwn
import HandS.ExcValue
import HandS.Style
import HandS.Zip
import PyProof.TupleOfSeq
import KE.DataCmp
import HandS.Nested
import HandS.SortKw
import HandS.Keys
import HandS.EndOwn
import HandS.NestedK
import HandS.List
import HandS.Rev
import HandS.RevTup
import PyProof.Walks
import HandS.More
import PyProof.ListCopy
import PyProof.Rows.ExtendIn
import HandS.ForDict
import KE.KDictDisplayH
import KE.KDictWalk
import KE.KDictSum
import HandS.DictComp
import HandS.TupSets
import KE.KDictZip
import KE.KEqDict
import PySem.Challenge.RW_shoporders_k46_whole_needed_pairs
set_option Elab.async false
set_option linter.all false
set_option maxRecDepth 100000
set_option maxHeartbeats 4000000
namespace DV
open PySem L2

abbrev D := PyData
/-- a dict: whether its keys are tuples; its pairs in the order of insertion -/
structure DC where
  t : Bool
  kv : List (D × D)
/-- what an expression gives: data; a list that is read where it stands; a new list; a new dict; the drawing row -/
inductive RV where
  | d (x : D) | b (ds : List D) | n (ds : List D) | gb (c : DC) | gn (c : DC) | row
/-- an error: its class's name, its field -/
structure Ex where
  c : Str
  f : Option (Str × D)
/-- where an error stands: its address, its class, its dict -/
structure Q3 where
  a : Addr
  cls : Value
  d : Option Addr
/-- a container within a container -/
inductive IC where
  | l (ds : List D) | g (c : DC) | f (c : DC)
/-- a list of containers, or a dict of them whose keys are ints -/
structure NC where
  ks : Option (List Int)
  xs : List IC
/-- what a name holds: data; a list of one's own; a list that may be read alone (the caller's, or one that a loop walks); the drawing row -/
inductive SV where
  | d (x : D) | o (ds : List D) | k (ds : List D) | g (c : DC) | un | row | ex (q : Q3) (e : Ex) | fn (x : Str) | lm | m (c : NC)
/-- things of one's own -/
def SV.ow : SV → Prop
  | .o _ => True
  | .g _ => True
  | _ => False
/-- the drawing row: the script, the place, the mixed number, the rest -/
structure RS where
  ns : List Int
  i : Nat
  s : Int
  c : Int
/-- the drawing row's address; the address of a lambda that was handed on -/
structure RA where
  row : Option Addr
  lam : Option Addr
abbrev Env := List (Option SV)

def M (α : Type) : Type := RS → Option (α × RS)
def ret {α : Type} (a : α) : M α := fun rs => some (a, rs)
def fail {α : Type} : M α := fun _ => none
def bnd {α β : Type} (m : M α) (k : α → M β) : M β := fun rs => match m rs with
  | none => none
  | some (a, rs') => k a rs'
def lft {α : Type} (o : Option α) : M α := match o with
  | none => fail
  | some a => ret a
instance : Monad M where
  pure := ret
  bind := bnd
theorem bnd_some {α β : Type} {m : M α} {k : α → M β} {rs : RS} {r : β × RS} (h : bnd m k rs = some r) : ∃ a rs', m rs = some (a, rs') ∧ k a rs' = some r := by
  unfold bnd at h
  cases e : m rs with
  | none => rw [e] at h; cases h
  | some p => rw [e] at h; exact ⟨p.1, p.2, rfl, h⟩
theorem lft_some {α : Type} {o : Option α} {rs : RS} {a : α} {rs' : RS} (h : lft o rs = some (a, rs')) : o = some a ∧ rs' = rs := by
  cases o with
  | none => cases h
  | some x => cases h; exact ⟨rfl, rfl⟩
theorem ret_some {α : Type} {x : α} {rs : RS} {a : α} {rs' : RS} (h : ret x rs = some (a, rs')) : x = a ∧ rs' = rs := by
  cases h; exact ⟨rfl, rfl⟩

end DV
namespace L2
open PySem
section
variable {K : PySem.W.Frag}
theorem ex_rdd {H H' : Hp} {a : Addr} {u : HO} (e : ∀ o, H a = some o → H' a = some o) (h : Rd H a u) : Rd H' a u := by
  rcases h with h | ⟨o, h⟩
  · exact Or.inl (e _ h)
  · exact Or.inr ⟨o, e _ h⟩
theorem ex_l {H H' : Hp} {a : Addr} {xs : List V} (e : ∀ o, H a = some o → H' a = some o) (h : SqL K H a xs) : SqL K H' a xs := by
  rcases h with h | h
  · exact Or.inl (ex_rdd e h)
  · exact Or.inr h
theorem ex_t {H H' : Hp} {a : Addr} {xs : List V} (e : ∀ o, H a = some o → H' a = some o) (h : SqT K H a xs) : SqT K H' a xs := by
  rcases h with h | h
  · exact Or.inl (ex_rdd e h)
  · exact Or.inr h
mutual
theorem Dp.mono {F F' : Hp} (e : ∀ a o, F a = some o → F' a = some o) : ∀ (d : PyData) (v : V), Dp K F v d → Dp K F' v d
  | .none, _, h => by cases h; exact .non
  | .bool _, _, h => by cases h; exact .bl _
  | .int _, _, h => by cases h; exact .int _
  | .str _, _, h => by cases h; exact .str _
  | .list ds, _, h => by
    cases h with
    | lst hs ha => exact .lst (ex_l (e _) hs) (Dp.monoA e ds _ ha)
  | .tuple ds, _, h => by
    cases h with
    | tup hs ha => exact .tup (ex_t (e _) hs) (Dp.monoA e ds _ ha)
  | .dict _, _, h => by cases h
theorem Dp.monoA {F F' : Hp} (e : ∀ a o, F a = some o → F' a = some o) : ∀ (ds : List PyData) (vs : List V), DpAll K F vs ds → DpAll K F' vs ds
  | [], _, h => by cases h; exact .nil
  | d :: ds, _, h => by
    cases h with
    | cons h1 h2 => exact .cons (Dp.mono e d _ h1) (Dp.monoA e ds _ h2)
end
theorem DpAll.len {F : Hp} : ∀ {vs : List V} {ds : List PyData}, DpAll K F vs ds → vs.length = ds.length
  | _, _, .nil => rfl
  | _, _, .cons _ h => congrArg (· + 1) (DpAll.len h)
theorem DpAll.get {F : Hp} : ∀ {vs : List V} {ds : List PyData} {i : Nat} {d : PyData}, DpAll K F vs ds → ds[i]? = some d → ∃ v, vs[i]? = some v ∧ Dp K F v d
  | _, _, _, _, .nil, h => by simp at h
  | _, _, 0, _, .cons h1 _, h => by
    simp at h; subst h
    exact ⟨_, rfl, h1⟩
  | _, _, i + 1, _, .cons _ h2, h => by
    simp at h
    obtain ⟨v, e, r⟩ := DpAll.get h2 h
    exact ⟨v, by simpa using e, r⟩
theorem DpAll.append {F : Hp} : ∀ {vs ws : List V} {ds es : List PyData}, DpAll K F vs ds → DpAll K F ws es → DpAll K F (vs ++ ws) (ds ++ es)
  | _, _, _, _, .nil, h => h
  | _, _, _, _, .cons h1 h2, h => .cons h1 (DpAll.append h2 h)
theorem DpAll.set {F : Hp} : ∀ {vs : List V} {ds : List PyData} (i : Nat) {v : V} {d : PyData}, DpAll K F vs ds → Dp K F v d → DpAll K F (vs.set i v) (ds.set i d)
  | _, _, _, _, _, .nil, _ => .nil
  | _, _, 0, _, _, .cons _ h2, h => .cons h h2
  | _, _, i + 1, _, _, .cons h1 h2, h => .cons h1 (DpAll.set i h2 h)
theorem DpAll.take {F : Hp} : ∀ (n : Nat) {vs : List V} {ds : List PyData}, DpAll K F vs ds → DpAll K F (vs.take n) (ds.take n)
  | 0, _, _, _ => .nil
  | n + 1, _, _, .nil => .nil
  | n + 1, _, _, .cons h1 h2 => .cons h1 (DpAll.take n h2)
theorem DpAll.drop {F : Hp} : ∀ (n : Nat) {vs : List V} {ds : List PyData}, DpAll K F vs ds → DpAll K F (vs.drop n) (ds.drop n)
  | 0, _, _, h => h
  | n + 1, _, _, .nil => .nil
  | n + 1, _, _, .cons h1 h2 => DpAll.drop n h2
theorem DpAll.rev {F : Hp} : ∀ {vs : List V} {ds : List PyData}, DpAll K F vs ds → DpAll K F vs.reverse ds.reverse
  | _, _, .nil => .nil
  | _, _, .cons h1 h2 => by
    rw [List.reverse_cons, List.reverse_cons]
    exact DpAll.append (DpAll.rev h2) (.cons h1 .nil)
theorem DpAll.rep {F : Hp} {vs : List V} {ds : List PyData} (h : DpAll K F vs ds) : ∀ n : Nat, DpAll K F (List.replicate n vs).flatten (List.replicate n ds).flatten
  | 0 => .nil
  | n + 1 => by
    rw [List.replicate_succ, List.flatten_cons, List.replicate_succ, List.flatten_cons]
    exact DpAll.append h (DpAll.rep h n)
end
end L2
namespace DV
open PySem L2
/-- ints among data -/
def intsOf : List D → Option (List Int)
  | [] => some []
  | .int i :: r => match intsOf r with
    | some js => some (i :: js)
    | none => none
  | _ => none
theorem ints_map : ∀ js : List Int, intsOf (js.map PyData.int) = some js
  | [] => rfl
  | j :: js => by
    show (match intsOf (js.map PyData.int) with | some js => some (j :: js) | none => none) = _
    rw [ints_map js]

end DV
namespace L2
open PySem
section
variable {K : PySem.W.Frag}
theorem DpAll.intsV {F : Hp} : ∀ {vs : List V} {ds : List PyData} {js : List Int}, DpAll K F vs ds → DV.intsOf ds = some js → vs = js.map V.int
  | _, _, _, .nil, h => by cases h; rfl
  | _, d :: r, js, .cons h1 h2, h => by
    cases d with
    | int i =>
      unfold DV.intsOf at h
      cases e : DV.intsOf r with
      | none => rw [e] at h; cases h
      | some ks =>
        rw [e] at h
        cases h
        cases h1
        rw [DpAll.intsV h2 e]
        rfl
    | none => unfold DV.intsOf at h; cases h
    | bool _ => unfold DV.intsOf at h; cases h
    | str _ => unfold DV.intsOf at h; cases h
    | list _ => unfold DV.intsOf at h; cases h
    | tuple _ => unfold DV.intsOf at h; cases h
    | dict _ => unfold DV.intsOf at h; cases h
theorem DpAll.ofInts {F : Hp} : ∀ (js : List Int), DpAll K F (js.map V.int) (js.map PyData.int)
  | [] => .nil
  | j :: js => .cons (.int j) (DpAll.ofInts js)
end
end L2
namespace DV
open PySem L2
section
variable {K : PySem.W.Frag}
/-- the defs that hold a lambda -/
def lamNames : List Str := ["due_order_in", "punctual_in", "within", "least_greatest", "plan_by", "due_plan", "short_plan", "unit_order", "longest_first", "short_lists", "unlike_sum", "by_rank", "names_of", "most_apart", "piercing", "heaviest_apart", "most_on", "heaviest_on", "fewest_machines", "johnson_order", "lag_order", "next_job", "by_rule", "free_gaps", "family_sum", "family_lateness", "two_owners", "short_order"]
def tabTo : Option Value → Option Value → Option (Addr × Str)
  | some (.str n _), some (.ref P) => if lamNames.elem n = true then some (P, n ++ ".<locals>.<lambda>") else none
  | _, _ => none
def tabOf (o : Obj) : Option (Addr × Str) := match o.data with
  | .fields vs => tabTo vs[1]? vs[11]?
  | _ => none
/-- the tables of the code objects that K tells, each with the one name that it may tell -/
def tabsOf : PySem.W.Frag → List (Addr × Str)
  | [] => []
  | (_, o) :: r => match tabOf o with
    | some p => p :: tabsOf r
    | none => tabsOf r
/-- what is never written anew: all but those tables -/
def Fx (K : PySem.W.Frag) (a : Addr) (o : HO) : Prop := (∀ ps, o ≠ .tbl ps) ∨ ∀ q, (a, q) ∉ tabsOf K
theorem Fx.lst {a : Addr} {vs : List V} : Fx K a (.lst vs) := .inl fun _ z => nomatch z
theorem Fx.tup {a : Addr} {vs : List V} : Fx K a (.tup vs) := .inl fun _ z => nomatch z
structure RowOk (K : PySem.W.Frag) (R : RA) (rs : RS) (F H : Hp) : Prop where
  at_ : ∀ r, R.row = some r → ∃ a, H r = some (.lst [.ref a, .int (rs.i : Int), .int rs.s, .int rs.c]) ∧ SqL K F a (rs.ns.map V.int) ∧ rs.ns.length ≤ 63
  tab : LamX.Tabs (tabsOf K) H
  fnt : ∀ a o, F a = some o → Fx K a o
theorem RowOk.mono {K : PySem.W.Frag} {R : RA} {rs : RS} {F F' H : Hp} (h : RowOk K R rs F H) (k : ∀ a o, F a = some o → F' a = some o) (n : ∀ a o, F' a = some o → Fx K a o) : RowOk K R rs F' H :=
  ⟨fun r e => by
    obtain ⟨a, e1, h1, h2⟩ := h.at_ r e
    exact ⟨a, e1, ex_l (k _) h1, h2⟩, h.tab, n⟩
theorem tabs_at {T : List (Addr × Str)} {H : Hp} (t : LamX.Tabs T H) {a : Addr} {q : Str} (h : (a, q) ∈ T) : ∃ ps, H a = some (.tbl ps) := by
  obtain ⟨ps, e, _⟩ := t _ h
  exact ⟨ps, e⟩
theorem tabs_upd {T : List (Addr × Str)} {H : Hp} (t : LamX.Tabs T H) {a : Addr} {o : HO} (h : H a = none ∨ ∃ vs, H a = some (.lst vs)) : LamX.Tabs T (upd H a o) := fun p hp => by
  obtain ⟨ps, e, h2, h3⟩ := t p hp
  have ne : ∀ b u, H b = some u → (∀ vs, u ≠ .lst vs) → b ≠ a := fun b u e1 e2 z => by
    subst z
    rcases h with h | ⟨vs, h⟩
    · rw [h] at e1; cases e1
    · rw [h] at e1
      exact e2 vs (Option.some.inj e1).symm
  refine ⟨ps, by rw [upd_ne (ne _ _ e fun vs z => nomatch z)]; exact e, h2, fun pos cv hc => ?_⟩
  obtain ⟨c, e1, e2⟩ := h3 pos cv hc
  exact ⟨c, e1, by rw [upd_ne (ne _ _ e2 fun vs z => by unfold LamX.CodeO at z; cases z)]; exact e2⟩
/-- the heap grows; F is what is never changed any more -/
structure Step (K : PySem.W.Frag) (R : RA) (rs' : RS) (F H F' H' : Hp) : Prop where
  keep : ∀ a o, H a = some o → some a ≠ R.row → (n : Fx K a o := by exact .inl fun _ z => nomatch z) → H' a = some o
  sub : ∀ a o, F a = some o → F' a = some o
  new : ∀ a o, F' a = some o → F a = some o ∨ H a = none
  fin : ∀ a o, F' a = some o → H' a = some o
  row : RowOk K R rs' F' H'
  rF : ∀ r, R.row = some r → F' r = none
theorem Step.refl {R : RA} {rs : RS} {F H : Hp} (h1 : ∀ a o, F a = some o → H a = some o) (h2 : RowOk K R rs F H) (h3 : ∀ r, R.row = some r → F r = none) : Step K R rs F H F H :=
  ⟨fun _ _ h _ _ => h, fun _ _ h => h, fun _ _ h => .inl h, h1, h2, h3⟩
theorem Step.back {R : RA} {rs rs' : RS} {F H F' H' : Hp} (s : Step K R rs' F H F' H') (r0 : RowOk K R rs F H) {a : Addr} (h : H' a = none) : H a = none := by
  cases e : H a with
  | none => rfl
  | some o =>
    by_cases q : some a = R.row
    · obtain ⟨b, hb, _⟩ := s.row.at_ a q.symm
      rw [h] at hb; cases hb
    · by_cases t : ∃ n, (a, n) ∈ tabsOf K
      · obtain ⟨n, t⟩ := t
        obtain ⟨ps, hb⟩ := tabs_at s.row.tab t
        rw [h] at hb; cases hb
      · rw [s.keep a o e q (.inr fun n z => t ⟨n, z⟩)] at h; cases h
theorem Step.trans {R : RA} {rs rs1 rs2 : RS} {F H F1 H1 F2 H2 : Hp} (r0 : RowOk K R rs F H) (a : Step K R rs1 F H F1 H1) (b : Step K R rs2 F1 H1 F2 H2) : Step K R rs2 F H F2 H2 :=
  ⟨fun c o h q n => b.keep c o (a.keep c o h q n) q n, fun c o h => b.sub c o (a.sub c o h), fun c o h => by
    rcases b.new c o h with z | z
    · exact a.new c o z
    · exact .inr (a.back r0 z), b.fin, b.row, b.rF⟩

mutual
/-- data as a key -/
def nk : D → Option NestedKey
  | .none => some .none
  | .int i => some (.num i)
  | .tuple ds => match nkA ds with
    | some ks => some (.tup ks)
    | none => none
  | .bool _ => none
  | .str _ => none
  | .list _ => none
  | .dict _ => none
def nkA : List D → Option (List NestedKey)
  | [] => some []
  | d :: ds => match nk d, nkA ds with
    | some k, some ks => some (k :: ks)
    | _, _ => none
end
/-- a dict's object: its keys' tuples stand at the addresses -/
def dcO (a : Addr) (xs : List (NestedKey × Addr × V)) : HO := .ext fun h => (a == sysModules) = false ∧ xs.length ≤ sizeLine ∧ (xs.map (·.1)).Nodup ∧ ∃ (o : Obj) (es : Array DictEntry) (ep : Nat) (ys : List (NestedKey × Addr × Value)),
  h.get? a = some o ∧ o.ExactDict ∧ o.data = .dict es ep ∧ Paired (fun (p : NestedKey × Addr × V) (q : NestedKey × Addr × Value) => p.1 = q.1 ∧ p.2.1 = q.2.1 ∧ RelV p.2.2 q.2.2) xs ys ∧
  ∀ w : World, es.toList = ys.map fun y => (⟨y.1.hash w, .ref y.2.1, y.2.2⟩ : DictEntry)
def DictR (K : PySem.W.Frag) (F : Hp) (a : Addr) (u : HO) (c : DC) : Prop := match c.t with
  | false => ∃ ks : List (Int × V), u = .dK (ks.map fun p => ((.inl p.1 : Key), p.2)) ∧ (ks.map (·.1)).Nodup ∧ Paired (fun (p : Int × V) (q : D × D) => q.1 = .int p.1 ∧ Dp K F p.2 q.2) ks c.kv
  | true => ∃ xs : List (NestedKey × Addr × V), u = dcO a xs ∧ Paired (fun (x : NestedKey × Addr × V) (q : D × D) => nk q.1 = some x.1 ∧ x.1.depth ≤ 8 ∧ Dp K F (.ref x.2.1) q.1 ∧ Dp K F x.2.2 q.2) xs c.kv
theorem Paired.imp {α β : Type} {f g : α → β → Prop} : ∀ {xs : List α} {ys : List β}, Paired f xs ys → (∀ x y, f x y → g x y) → Paired g xs ys
  | _, _, .nil, _ => .nil
  | _, _, .cons h t, k => .cons (k _ _ h) (Paired.imp t k)
theorem DictR.mono {F F' : Hp} {a : Addr} {u : HO} {c : DC} (e : ∀ a o, F a = some o → F' a = some o) (h : DictR K F a u c) : DictR K F' a u c := by
  unfold DictR at h ⊢
  cases q : c.t with
  | false =>
    rw [q] at h
    obtain ⟨ks, h1, h2, h3⟩ := h
    exact ⟨ks, h1, h2, Paired.imp h3 fun x y z => ⟨z.1, Dp.mono e _ _ z.2⟩⟩
  | true =>
    rw [q] at h
    obtain ⟨xs, h1, h2⟩ := h
    exact ⟨xs, h1, Paired.imp h2 fun x y z => ⟨z.1, z.2.1, Dp.mono e _ _ z.2.2.1, Dp.mono e _ _ z.2.2.2⟩⟩
theorem DictR.fx {F : Hp} {a : Addr} {u : HO} {c : DC} (h : DictR K F a u c) : Fx K a u := by
  unfold DictR at h
  cases q : c.t with
  | false =>
    rw [q] at h
    obtain ⟨ks, h1, _⟩ := h
    exact .inl fun _ z => by rw [h1] at z; cases z
  | true =>
    rw [q] at h
    obtain ⟨xs, h1, _⟩ := h
    exact .inl fun _ z => by rw [h1] at z; unfold dcO at z; cases z

/-- v stands for the result; H0: the heap ahead (a new list is new since it) -/
def VR (K : PySem.W.Frag) (R : RA) (F H0 H : Hp) (v : V) : RV → Prop
  | .d x => Dp K F v x
  | .b ds => ∃ a vs, v = .ref a ∧ H a = some (.lst vs) ∧ some a ≠ R.row ∧ DpAll K F vs ds
  | .n ds => ∃ a vs, v = .ref a ∧ H a = some (.lst vs) ∧ H0 a = none ∧ F a = none ∧ some a ≠ R.row ∧ DpAll K F vs ds
  | .gb c => ∃ a u, v = .ref a ∧ H a = some u ∧ some a ≠ R.row ∧ DictR K F a u c
  | .gn c => ∃ a u, v = .ref a ∧ H a = some u ∧ H0 a = none ∧ F a = none ∧ some a ≠ R.row ∧ DictR K F a u c
  | .row => ∃ r, R.row = some r ∧ v = .ref r
theorem VR.step {R : RA} {rs' : RS} {F F' H0 H H' : Hp} {v : V} {x : RV} (s : Step K R rs' F H F' H') (h : VR K R F H0 H v x) : VR K R F' H0 H' v x := by
  cases x with
  | d x => exact Dp.mono s.sub _ _ h
  | b ds =>
    obtain ⟨a, vs, e, h1, h2, h3⟩ := h
    exact ⟨a, vs, e, s.keep a _ h1 h2, h2, Dp.monoA s.sub _ _ h3⟩
  | n ds =>
    obtain ⟨a, vs, e, h1, h0, h2, h3, h4⟩ := h
    refine ⟨a, vs, e, s.keep _ _ h1 h3, h0, ?_, h3, Dp.monoA s.sub _ _ h4⟩
    cases q : F' a with
    | none => rfl
    | some o =>
      rcases s.new a o q with z | z
      · rw [h2] at z; cases z
      · rw [h1] at z; cases z
  | gb c =>
    obtain ⟨a, u, e, h1, h2, h3⟩ := h
    exact ⟨a, u, e, s.keep a _ h1 h2 h3.fx, h2, h3.mono s.sub⟩
  | gn c =>
    obtain ⟨a, u, e, h1, h0, h2, h3, h4⟩ := h
    refine ⟨a, u, e, s.keep _ _ h1 h3 h4.fx, h0, ?_, h3, h4.mono s.sub⟩
    cases q : F' a with
    | none => rfl
    | some o =>
      rcases s.new a o q with z | z
      · rw [h2] at z; cases z
      · rw [h1] at z; cases z
  | row => exact h
theorem VR.older {R : RA} {F H0 H1 H : Hp} {v : V} {x : RV} (e : ∀ a, H1 a = none → H0 a = none) (h : VR K R F H1 H v x) : VR K R F H0 H v x := by
  cases x with
  | d x => exact h
  | b ds => exact h
  | n ds =>
    obtain ⟨a, vs, e1, h1, h0, h2, h3, h4⟩ := h
    exact ⟨a, vs, e1, h1, e a h0, h2, h3, h4⟩
  | gb c => exact h
  | gn c =>
    obtain ⟨a, u, e1, h1, h0, h2, h3, h4⟩ := h
    exact ⟨a, u, e1, h1, e a h0, h2, h3, h4⟩
  | row => exact h

/-- the error of the class cls, its dict d: its name, its field; the dict is never changed -/
def XF (K : PySem.W.Frag) (F : Hp) (cls : Value) (d : Option Addr) (e : Ex) : Prop := PySem.W.nsIn K mainGlobals e.c = some (some cls) ∧ match e.f with
  | none => d = none
  | some (f, x) => ∃ dd w, d = some dd ∧ F dd = some (.xd [(f, w)]) ∧ Dp K F w x
theorem XF.mono {F F' : Hp} {cls : Value} {d : Option Addr} {e : Ex} (k : ∀ a o, F a = some o → F' a = some o) (h : XF K F cls d e) : XF K F' cls d e := by
  unfold XF at h ⊢
  refine ⟨h.1, ?_⟩
  have h := h.2
  cases z : e.f with
  | none => rw [z] at h; exact h
  | some p =>
    rw [z] at h
    obtain ⟨dd, w, h1, h2, h3⟩ := h
    exact ⟨dd, w, h1, k _ _ h2, Dp.mono k _ _ h3⟩
def outO : Option (List Int) → List Addr → HO
  | none, as => .lst (as.map V.ref)
  | some ks, as => .dK ((ks.zip as).map fun p => ((.inl p.1 : Key), V.ref p.2))
def InR (K : PySem.W.Frag) (F : Hp) (b : Addr) (u : HO) : IC → Prop
  | .l ds => ∃ vs, u = .lst vs ∧ DpAll K F vs ds
  | .g c => DictR K F b u c
  | .f c => ∃ o u', u = .frz o u' ∧ DictR K F b u' c
structure MR (K : PySem.W.Frag) (L : Nat → Option (Addr × HO)) (F : Hp) (a : Addr) (as : List Addr) (c : NC) : Prop where
  out : L 1 = some (a, outO c.ks as)
  len : as.length = c.xs.length
  ks : ∀ k, c.ks = some k → k.length = as.length ∧ k.Nodup
  nd : (a :: as).Nodup
  fa : F a = none
  inn : ∀ (k : Nat) (b : Addr) (x : IC), as[k]? = some b → c.xs[k]? = some x → F b = none ∧ ∃ u, L (2 * k + 3) = some (b, u) ∧ InR K F b u x
theorem InR.mono {F F' : Hp} {b : Addr} {u : HO} {x : IC} (e : ∀ a o, F a = some o → F' a = some o) (h : InR K F b u x) : InR K F' b u x := by
  cases x with
  | l ds =>
    obtain ⟨vs, h1, h2⟩ := h
    exact ⟨vs, h1, Dp.monoA e _ _ h2⟩
  | g c => exact DictR.mono e h
  | f c =>
    obtain ⟨o, u', h1, h2⟩ := h
    exact ⟨o, u', h1, DictR.mono e h2⟩
theorem MR.mono {L : Nat → Option (Addr × HO)} {F F' : Hp} {a : Addr} {as : List Addr} {c : NC} (h : MR K L F a as c) (e : ∀ a o, F a = some o → F' a = some o) (n : ∀ i b u, L i = some (b, u) → F b = none → F' b = none) : MR K L F' a as c :=
  ⟨h.out, h.len, h.ks, h.nd, n _ _ _ h.out h.fa, fun k b x h1 h2 => by
    obtain ⟨h3, u, h4, h5⟩ := h.inn k b x h1 h2
    exact ⟨n _ _ _ h4 h3, u, h4, h5.mono e⟩⟩
theorem MR.cong {L L' : Nat → Option (Addr × HO)} {F : Hp} {a : Addr} {as : List Addr} {c : NC} (h : MR K L F a as c) (e : ∀ i, L' (2 * i + 1) = L (2 * i + 1)) : MR K L' F a as c :=
  ⟨(e 0).trans h.out, h.len, h.ks, h.nd, h.fa, fun k b x h1 h2 => by
    obtain ⟨h3, u, h4, h5⟩ := h.inn k b x h1 h2
    exact ⟨h3, u, (e (k + 1)).trans h4, h5⟩⟩
def SR (K : PySem.W.Frag) (R : RA) (L : Nat → Option (Addr × HO)) (E F H : Hp) (i : Nat) (v : V) : SV → Prop
  | .d x => Dp K F v x
  | .o ds => ∃ a vs, v = .ref a ∧ H a = some (.lst vs) ∧ E a = none ∧ F a = none ∧ some a ≠ R.row ∧ DpAll K F vs ds
  | .k ds => ∃ a vs, L (2 * i) = some (a, .lst vs) ∧ v = .ref a ∧ DpAll K F vs ds
  | .g c => ∃ a u, v = .ref a ∧ H a = some u ∧ E a = none ∧ F a = none ∧ some a ≠ R.row ∧ DictR K F a u c
  | .un => True
  | .row => ∃ r, R.row = some r ∧ v = .ref r
  | .ex q e => v = .ref q.a ∧ XF K F q.cls q.d e
  | .fn x => ∃ a, PySem.W.nsIn K mainGlobals x = some (some (.ref a)) ∧ v = .ref a
  | .lm => ∃ f, R.lam = some f ∧ v = .ref f
  | .m c => ∃ a as, v = .ref a ∧ MR K L F a as c
structure Rel (K : PySem.W.Frag) (R : RA) (L : Nat → Option (Addr × HO)) (E F : Hp) (ρ : Env) (σ : L2.St) (rs : RS) (H : Hp) : Prop where
  len : ρ.length = σ.length
  ex : ∀ a o, E a = some o → H a = some o
  ent : ∀ a o, E a = some o → Fx K a o
  fr : ∀ a o, F a = some o → H a = some o
  row : RowOk K R rs F H
  rE : ∀ r, R.row = some r → E r = none ∧ F r = none
  lk : ∀ i a u, L i = some (a, u) → E a = some u
  sl : ∀ (i : Nat) (sv : SV), ρ[i]? = some (some sv) → ∃ v, σ[i]? = some (some v) ∧ SR K R L E F H i v sv
  own : ∀ (i j : Nat) (a : Addr) (x y : SV), ρ[i]? = some (some x) → ρ[j]? = some (some y) → x.ow → y.ow → σ[i]? = some (some (V.ref a)) → σ[j]? = some (some (V.ref a)) → i = j
section
variable {R : RA} {L : Nat → Option (Addr × HO)} {E F F' H H' : Hp} {ρ : Env} {σ : L2.St} {rs rs' : RS}
theorem Rel.refl (r : Rel K R L E F ρ σ rs H) : Step K R rs F H F H := Step.refl r.fr r.row fun _ e => (r.rE _ e).2
theorem Rel.step (r : Rel K R L E F ρ σ rs H) (s : Step K R rs' F H F' H') : Rel K R L E F' ρ σ rs' H' where
  len := r.len
  ex := fun a o h => s.keep a o (r.ex a o h) (fun q => by
    have := (r.rE a q.symm).1
    rw [h] at this; cases this) (r.ent a o h)
  ent := r.ent
  fr := s.fin
  row := s.row
  rE := fun q e => ⟨(r.rE q e).1, s.rF q e⟩
  lk := r.lk
  sl := fun i sv h => by
    obtain ⟨v, e, q⟩ := r.sl i sv h
    refine ⟨v, e, ?_⟩
    cases sv with
    | d x => exact Dp.mono s.sub _ _ q
    | k ds =>
      obtain ⟨a, vs, hl, e1, h3⟩ := q
      exact ⟨a, vs, hl, e1, Dp.monoA s.sub _ _ h3⟩
    | o ds =>
      obtain ⟨a, vs, e1, h1, h2, h3, h4, h5⟩ := q
      refine ⟨a, vs, e1, s.keep _ _ h1 h4, h2, ?_, h4, Dp.monoA s.sub _ _ h5⟩
      cases q : F' a with
      | none => rfl
      | some o =>
        rcases s.new a o q with z | z
        · rw [h3] at z; cases z
        · rw [h1] at z; cases z
    | g c =>
      obtain ⟨a, u, e1, h1, h2, h3, h4, h5⟩ := q
      refine ⟨a, u, e1, s.keep _ _ h1 h4 h5.fx, h2, ?_, h4, h5.mono s.sub⟩
      cases q : F' a with
      | none => rfl
      | some o =>
        rcases s.new a o q with z | z
        · rw [h3] at z; cases z
        · rw [h1] at z; cases z
    | un => exact trivial
    | row => exact q
    | ex _ _ => exact ⟨q.1, XF.mono s.sub q.2⟩
    | fn _ => exact q
    | lm => exact q
    | m c =>
      obtain ⟨a, as, e1, h⟩ := q
      refine ⟨a, as, e1, h.mono s.sub fun i b u hl hF => ?_⟩
      cases q : F' b with
      | none => rfl
      | some o =>
        rcases s.new b o q with z | z
        · rw [hF] at z; cases z
        · rw [r.ex b u (r.lk i b u hl)] at z; cases z
  own := r.own
/-- reading a name -/
def vget (ρ : Env) (i : Nat) : Option RV := match ρ[i]? with
  | some (some (.d x)) => some (.d x)
  | some (some (.o ds)) => some (.b ds)
  | some (some (.k ds)) => some (.b ds)
  | some (some (.g c)) => some (.gb c)
  | some (some .row) => some .row
  | _ => none
theorem Rel.get (r : Rel K R L E F ρ σ rs H) {i : Nat} {x : RV} (h : vget ρ i = some x) : ∃ v, σ[i]? = some (some v) ∧ VR K R F H H v x := by
  unfold vget at h
  cases e : ρ[i]? with
  | none => rw [e] at h; cases h
  | some o =>
    cases o with
    | none => rw [e] at h; cases h
    | some sv =>
      rw [e] at h
      obtain ⟨v, ev, q⟩ := r.sl i sv e
      refine ⟨v, ev, ?_⟩
      cases sv with
      | d x => cases h; exact q
      | k ds =>
        cases h
        obtain ⟨a, vs, hl, e1, h3⟩ := q
        have hE := r.lk _ a _ hl
        have hR : some a ≠ R.row := fun q => by
          have z := (r.rE a q.symm).1
          rw [hE] at z
          cases z
        exact ⟨a, vs, e1, r.ex a _ hE, hR, h3⟩
      | o ds =>
        cases h
        obtain ⟨a, vs, e1, h1, h2, h3, h4, h5⟩ := q
        exact ⟨a, vs, e1, h1, h4, h5⟩
      | g c =>
        cases h
        obtain ⟨a, vs, e1, h1, h2, h3, h4, h5⟩ := q
        exact ⟨a, vs, e1, h1, h4, h5⟩
      | un => cases h
      | ex _ _ => cases h
      | fn _ => cases h
      | lm => cases h
      | m _ => cases h
      | row => cases h; exact q
end

def ESem (K : PySem.W.Frag) (R : RA) (t : TE) (f : Env → M RV) : Prop :=
  ∀ (L : Nat → Option (Addr × HO)) (E : Hp) (ρ : Env) (σ : L2.St) (F H : Hp) (rs : RS) (x : RV) (rs' : RS) (Q : VK), Rel K R L E F ρ σ rs H → f ρ rs = some (x, rs') →
    (∀ v F' H', Step K R rs' F H F' H' → VR K R F' H H' v x → Q v H') → t σ H Q
def TSem (K : PySem.W.Frag) (R : RA) (t : TT) (f : Env → M Bool) : Prop :=
  ∀ (L : Nat → Option (Addr × HO)) (E : Hp) (ρ : Env) (σ : L2.St) (F H : Hp) (rs : RS) (x : Bool) (rs' : RS) (Q : Bool → Hp → Prop), Rel K R L E F ρ σ rs H → f ρ rs = some (x, rs') →
    (∀ F' H', Step K R rs' F H F' H' → Q x H') → t σ H Q
inductive VRs (K : PySem.W.Frag) (R : RA) (F H0 H : Hp) : List V → List RV → Prop
  | nil : VRs K R F H0 H [] []
  | cons {v : V} {vs : List V} {x : RV} {xs : List RV} : VR K R F H0 H v x → VRs K R F H0 H vs xs → VRs K R F H0 H (v :: vs) (x :: xs)
theorem VRs.len {R : RA} {F H0 H : Hp} : ∀ {vs : List V} {xs : List RV}, VRs K R F H0 H vs xs → vs.length = xs.length
  | _, _, .nil => rfl
  | _, _, .cons _ t => congrArg (· + 1) (VRs.len t)
theorem VRs.older {R : RA} {F H0 H1 H : Hp} (e : ∀ a, H1 a = none → H0 a = none) : ∀ {vs : List V} {xs : List RV}, VRs K R F H1 H vs xs → VRs K R F H0 H vs xs
  | _, _, .nil => .nil
  | _, _, .cons h t => .cons (h.older e) (VRs.older e t)
def ASem (K : PySem.W.Frag) (R : RA) (t : TA) (f : Env → M (List RV)) : Prop :=
  ∀ (L : Nat → Option (Addr × HO)) (E : Hp) (ρ : Env) (σ : L2.St) (F H : Hp) (rs : RS) (x : List RV) (rs' : RS) (Q : List V → Hp → Prop), Rel K R L E F ρ σ rs H → f ρ rs = some (x, rs') →
    (∀ vs F' H', Step K R rs' F H F' H' → VRs K R F' H H' vs x → Q vs H') → t σ H Q
structure DE (X : Cx) (R : RA) (e : Expr) (t : TE) (f : Env → M RV) : Prop where
  pe : PE X e t
  sem : ESem X.K R t f
structure DT (X : Cx) (R : RA) (e : Expr) (t : TT) (f : Env → M Bool) : Prop where
  pt : PT X e t
  sem : TSem X.K R t f
/-- in an and, an or -/
structure DW (X : Cx) (R : RA) (e : Expr) (t : TT) (f : Env → M Bool) : Prop where
  pw : PW X e t
  sem : TSem X.K R t f
structure DA (X : Cx) (R : RA) (es : List Expr) (t : TA) (f : Env → M (List RV)) : Prop where
  pa : PA X es t
  sem : ASem X.K R t f
end
end DV

namespace DV
open PySem L2

def asInt : RV → Option Int
  | .d (.int i) => some i
  | _ => none
def asBool : RV → Option Bool
  | .d (.bool b) => some b
  | _ => none
/-- the items of a list or tuple -/
def items : RV → Option (List D)
  | .d (.tuple ds) => some ds
  | .d (.list ds) => some ds
  | .b ds => some ds
  | .n ds => some ds
  | _ => none
/-- as data (a new list is from then on never changed) -/
def toD : RV → Option D
  | .d x => some x
  | .n ds => some (.list ds)
  | _ => none
def toDs : List RV → Option (List D)
  | [] => some []
  | x :: xs => match toD x, toDs xs with
    | some d, some ds => some (d :: ds)
    | _, _ => none
section
variable {K : PySem.W.Frag} {R : RA} {F F' H0 H H' : Hp} {rs rs' : RS}
/-- a sequence at an address: a list or a tuple -/
theorem VR.items {v : V} {x : RV} {ds : List D} (s : Step K R rs F H F H) (h : VR K R F H0 H v x) (e : DV.items x = some ds) :
    ∃ a vs, v = .ref a ∧ (SqL K H a vs ∨ SqT K H a vs) ∧ DpAll K F vs ds := by
  cases x with
  | d x =>
    cases x with
    | tuple es =>
      cases e
      cases h with
      | tup h1 h2 => exact ⟨_, _, rfl, .inr (ex_t (s.fin _) h1), h2⟩
    | list es =>
      cases e
      cases h with
      | lst h1 h2 => exact ⟨_, _, rfl, .inl (ex_l (s.fin _) h1), h2⟩
    | none => cases e
    | bool _ => cases e
    | int _ => cases e
    | str _ => cases e
    | dict _ => cases e
  | b es =>
    cases e
    obtain ⟨a, vs, e1, h1, h2, h3⟩ := h
    exact ⟨a, vs, e1, .inl (.inl (.inl h1)), h3⟩
  | n es =>
    cases e
    obtain ⟨a, vs, e1, h1, h0, h2, h3, h4⟩ := h
    exact ⟨a, vs, e1, .inl (.inl (.inl h1)), h4⟩
  | gb _ => cases e
  | gn _ => cases e
  | row => cases e
theorem VR.int {v : V} {x : RV} {i : Int} (h : VR K R F H0 H v x) (e : asInt x = some i) : v = .int i := by
  cases x with
  | d x =>
    cases x with
    | int j => cases e; cases h; rfl
    | _ => cases e
  | _ => cases e
theorem VR.bool {v : V} {x : RV} {i : Bool} (h : VR K R F H0 H v x) (e : asBool x = some i) : v = .bl i := by
  cases x with
  | d x =>
    cases x with
    | bool j => cases e; cases h; rfl
    | _ => cases e
  | _ => cases e
/-- F grows by things that are new since H0 -/
theorem VRs.freeze (s : Step K R rs F H F H) : ∀ {vs : List V} {xs : List RV} {ds : List D}, VRs K R F H0 H vs xs → toDs xs = some ds →
    ∃ F', (∀ a o, F a = some o → F' a = some o) ∧ (∀ a o, F' a = some o → F a = some o ∨ H0 a = none) ∧ (∀ a o, F' a = some o → H a = some o) ∧ (∀ r, R.row = some r → F' r = none) ∧ (∀ a o, F' a = some o → Fx K a o) ∧ DpAll K F' vs ds
  | _, _, _, .nil, e => by
    cases e
    exact ⟨F, fun _ _ h => h, fun _ _ h => .inl h, s.fin, s.rF, s.row.fnt, .nil⟩
  | _, _, _, .cons (v := v) (x := x) (xs := xs) hx ht, e => by
    unfold toDs at e
    cases e1 : toD x with
    | none => rw [e1] at e; cases e
    | some d =>
      cases e2 : toDs xs with
      | none => rw [e1, e2] at e; cases e
      | some es =>
        rw [e1, e2] at e
        cases e
        obtain ⟨F1, k1, k2, k3, k4, k5, hA⟩ := VRs.freeze s ht e2
        cases x with
        | d y =>
          cases e1
          exact ⟨F1, k1, k2, k3, k4, k5, .cons (Dp.mono k1 _ _ hx) hA⟩
        | n y =>
          cases e1
          obtain ⟨a, ws, rfl, h1, h0, h2, h3, h4⟩ := hx
          have ku : ∀ b o, F1 b = some o → upd F1 a (.lst ws) b = some o := fun b o q => by
            by_cases eb : b = a
            · subst eb
              rw [upd_same]
              have := k3 b o q
              rw [h1] at this
              exact this
            · rw [upd_ne eb]; exact q
          refine ⟨upd F1 a (.lst ws), fun b o q => ku b o (k1 b o q), fun b o q => ?_, fun b o q => ?_, fun r er => ?_, fun b o q => ?_, .cons (.lst (.inl (.inl upd_same)) (Dp.monoA (fun b o q => ku b o (k1 b o q)) _ _ h4)) (Dp.monoA ku _ _ hA)⟩
          · by_cases eb : b = a
            · subst eb; exact .inr h0
            · rw [upd_ne eb] at q; exact k2 b o q
          · by_cases eb : b = a
            · subst eb
              rw [upd_same] at q
              rw [h1]; exact q
            · rw [upd_ne eb] at q; exact k3 b o q
          · rw [upd_ne (fun z => h3 (by rw [er, z]))]
            exact k4 r er
          · by_cases eb : b = a
            · subst eb; rw [upd_same] at q; cases q; exact .lst
            · rw [upd_ne eb] at q; exact k5 b o q
        | b y => cases e1
        | gb _ => cases e1
        | gn _ => cases e1
        | row => cases e1
/-- a new object at p -/
theorem Step.new_lst {p : Addr} {vs : List V} (s : Step K R rs F H F H) (hp : H p = none) : Step K R rs F H F (upd H p (.lst vs)) ∧ F p = none ∧ some p ≠ R.row := by
  have hr : some p ≠ R.row := fun q => by
    obtain ⟨a, e, _⟩ := s.row.at_ p q.symm
    rw [hp] at e; cases e
  have hF : F p = none := by
    cases q : F p with
    | none => rfl
    | some o =>
      have := s.fin p o q
      rw [hp] at this; cases this
  refine ⟨⟨fun a o h _ _ => by rw [upd_ne (ne_of_none h hp)]; exact h, fun _ _ h => h, fun _ _ h => .inl h, fun a o h => by rw [upd_ne (ne_of_none (s.fin a o h) hp)]; exact s.fin a o h, ⟨fun r e => ?_, tabs_upd s.row.tab (.inl hp), s.row.fnt⟩, s.rF⟩, hF, hr⟩
  obtain ⟨a, e1, h1, h3⟩ := s.row.at_ r e
  exact ⟨a, by rw [upd_ne (ne_of_none e1 hp)]; exact e1, h1, h3⟩
theorem Step.new_tup {p : Addr} {vs : List V} (s : Step K R rs F H F H) (hp : H p = none) : Step K R rs F H (upd F p (.tup vs)) (upd H p (.tup vs)) := by
  have hr : some p ≠ R.row := fun q => by
    obtain ⟨a, e, _⟩ := s.row.at_ p q.symm
    rw [hp] at e; cases e
  refine ⟨fun a o h _ _ => by rw [upd_ne (ne_of_none h hp)]; exact h, fun a o h => ?_, fun a o h => ?_, fun a o h => ?_, ⟨fun r e => ?_, tabs_upd s.row.tab (.inl hp), fun a o h => ?_⟩, fun r e => ?_⟩
  · rw [upd_ne (ne_of_none (s.fin a o h) hp)]; exact h
  · by_cases eb : a = p
    · subst eb; exact .inr hp
    · rw [upd_ne eb] at h; exact .inl h
  · by_cases eb : a = p
    · subst eb; rw [upd_same] at h ⊢; exact h
    · rw [upd_ne eb] at h ⊢; exact s.fin a o h
  · obtain ⟨a, e1, h1, h3⟩ := s.row.at_ r e
    exact ⟨a, by rw [upd_ne (ne_of_none e1 hp)]; exact e1, ex_l (fun o q => by rw [upd_ne (ne_of_none (s.fin _ _ q) hp)]; exact q) h1, h3⟩
  · by_cases eb : a = p
    · subst eb; rw [upd_same] at h; cases h; exact .tup
    · rw [upd_ne eb] at h; exact s.row.fnt a o h
  · rw [upd_ne (fun z => hr (by rw [e, z]))]
    exact s.rF r e
end

section
variable {X : Cx} {R : RA} {a b c e : Expr} {es : List Expr} {ta tb tc te : TE} {tt uu : TT} {t u : TA} {f g h : Env → M RV} {pos : Pos}

def eVar (i : Nat) : Env → M RV := fun ρ => lft (vget ρ i)
def eC (d : D) : Env → M RV := fun _ => ret (.d d)
theorem esem_var (K : PySem.W.Frag) (i : Nat) : ESem K R (tVar i) (eVar i) := fun L E ρ σ F H rs x rs' Q r hf k => by
  obtain ⟨e, rfl⟩ := lft_some hf
  obtain ⟨v, ev, hv⟩ := r.get e
  exact ⟨v, ev, k v F H r.refl hv⟩
theorem de_var (i : Nat) {x : Str} (hN : X.N[i]? = some x := by rfl) (hv : Vis X.env.scope x := by first | exact Or.inl rfl | exact Or.inr (Or.inl rfl) | exact Or.inr (Or.inr rfl)) (hd : (x == ("__debug__" : Str)) = false := by decide)
    (hcd : (x == ("__classdict__" : Str)) = false := by decide) : DE X R (.Name x pos) (tVar i) (eVar i) := ⟨pe_var hN hv hd hcd, esem_var _ i⟩
theorem esem_c (K : PySem.W.Frag) {v : V} {d : D} (h : ∀ F, Dp K F v d) : ESem K R (tC v) (eC d) := fun L E ρ σ F H rs x rs' Q r hf k => by
  obtain ⟨e, rfl⟩ := ret_some hf
  subst e
  exact k v F H r.refl (h F)
theorem de_int {i : Int} {j} : DE X R (.Constant (.int i) j pos) (tC (.int i)) (eC (.int i)) := ⟨pe_int, esem_c _ fun _ => .int i⟩
theorem de_bl {i : Bool} {j} : DE X R (.Constant (.bool i) j pos) (tC (.bl i)) (eC (.bool i)) := ⟨pe_bl, esem_c _ fun _ => .bl i⟩
theorem de_non {j} : DE X R (.Constant .none j pos) (tC .non) (eC .none) := ⟨pe_non, esem_c _ fun _ => .non⟩
/-- a module's constant -/
theorem de_globI {x : Str} {i : Int} {tk : Tok} (hg : Gl X x) (hm : X.mg x = some (.int i tk)) (hd : (x == ("__debug__" : Str)) = false := by decide) : DE X R (.Name x pos) (tC (.int i)) (eC (.int i)) :=
  ⟨pe_glob hg hm ⟨_, rfl⟩ hd, esem_c _ fun _ => .int i⟩

def RSem (K : PySem.W.Frag) (R : RA) (r : R2) (g : RV → RV → Option RV) : Prop :=
  ∀ (F H0 H : Hp) (rs : RS) (x y : V) (p q z : RV) (Q : VK), Step K R rs F H F H → VR K R F H0 H x p → VR K R F H0 H y q → g p q = some z →
    (∀ v F' H', Step K R rs F H F' H' → VR K R F' H H' v z → Q v H') → r x y H Q
def e2 (g : RV → RV → Option RV) (f h : Env → M RV) : Env → M RV := fun ρ => bnd (f ρ) fun x => bnd (h ρ) fun y => lft (g x y)
theorem esem_op {K : PySem.W.Frag} {r : R2} {g : RV → RV → Option RV} (hr : RSem K R r g) (ha : ESem K R ta f) (hb : ESem K R tb h) : ESem K R (tOp r ta tb) (e2 g f h) := fun L E ρ σ F H rs x rs' Q r0 hf k => by
  obtain ⟨x1, rs1, e1, hf⟩ := bnd_some hf
  obtain ⟨x2, rs2, e2, hf⟩ := bnd_some hf
  obtain ⟨e3, rfl⟩ := lft_some hf
  refine ha L E ρ σ F H rs x1 rs1 _ r0 e1 fun v1 F1 H1 s1 h1 => ?_
  refine hb L E ρ σ F1 H1 rs1 x2 rs' _ (r0.step s1) e2 fun v2 F2 H2 s2 h2 => ?_
  have s12 := s1.trans r0.row s2
  refine hr F2 H H2 rs' v1 v2 x1 x2 x Q ((r0.step s1).step s2).refl (h1.step s2) (h2.older fun a q => s1.back r0.row q) e3 fun v3 F3 H3 s3 h3 => ?_
  exact k v3 F3 H3 (s12.trans r0.row s3) (h3.older fun a q => s12.back r0.row q)
theorem de_op {op : Operator} {r : R2} {g : RV → RV → Option RV} (ho : OpR X (binaryOp op) r) (hr : RSem X.K R r g) (ha : DE X R a ta f) (hb : DE X R b tb h) : DE X R (.BinOp a op b pos) (tOp r ta tb) (e2 g f h) :=
  ⟨pe_op ho ha.pe hb.pe, esem_op hr ha.sem hb.sem⟩
theorem de_cmp {op : CmpOp} {r : R2} {g : RV → RV → Option RV} (ho : OpR X (compareOp op) r) (hr : RSem X.K R r g) (ha : DE X R a ta f) (hb : DE X R b tb h) (hm : behindInMarks op b = false) : DE X R (.Compare a [op] [b] pos) (tOp r ta tb) (e2 g f h) :=
  ⟨pe_cmpR ho ha.pe hb.pe hm, esem_op hr ha.sem hb.sem⟩
def eT (f : Env → M RV) : Env → M Bool := fun ρ => bnd (f ρ) fun x => lft (asBool x)
theorem tsem_of {K : PySem.W.Frag} (he : ESem K R te f) : TSem K R (tTest te) (eT f) := fun L E ρ σ F H rs x rs' Q r hf k => by
  obtain ⟨x1, rs1, e1, hf⟩ := bnd_some hf
  obtain ⟨e2, rfl⟩ := lft_some hf
  exact he L E ρ σ F H rs x1 rs' _ r e1 fun v1 F1 H1 s1 h1 => ⟨x, h1.bool e2, k F1 H1 s1⟩
theorem dt_cmp {op : CmpOp} {r : R2} {g : RV → RV → Option RV} (ho : OpR X (compareOp op) r) (hr : RSem X.K R r g) (ha : DE X R a ta f) (hb : DE X R b tb h) (hm : behindInMarks op b = false) :
    DT X R (.Compare a [op] [b] pos) (tTest (tOp r ta tb)) (eT (e2 g f h)) := ⟨pt_cmpR ho ha.pe hb.pe hm, tsem_of (esem_op hr ha.sem hb.sem)⟩
theorem dt_val (he : DE X R e te f) (hw : ∀ whole, isTrue e X.env whole = (do let v ← whole; standAt e.pos; holding [v] (truthy v)) := by intro _; rfl) : DT X R e (tB te) (eT f) := ⟨pt_val he.pe hw, tsem_of he.sem⟩

def eCh (g g' : RV → RV → Option RV) (f h k : Env → M RV) : Env → M RV := fun ρ => bnd (f ρ) fun x => bnd (h ρ) fun y => bnd (lft (g x y)) fun b => bnd (lft (asBool b)) fun c =>
  if c = true then bnd (k ρ) fun w => lft (g' y w) else ret (.d (.bool false))
theorem esem_chain {K : PySem.W.Frag} {r r' : R2} {g g' : RV → RV → Option RV} {k : Env → M RV} (hr : RSem K R r g) (hr' : RSem K R r' g') (ha : ESem K R ta f) (hb : ESem K R tb h) (hc : ESem K R tc k) :
    ESem K R (tChain r r' ta tb tc) (eCh g g' f h k) := fun L E ρ σ F H rs x rs' Q r0 hf kk => by
  obtain ⟨x1, rs1, e1, hf1⟩ := bnd_some hf
  obtain ⟨x2, rs4, e2, hf2⟩ := bnd_some hf1
  obtain ⟨z, rs3, e3', hf3⟩ := bnd_some hf2
  obtain ⟨e3, q3⟩ := lft_some e3'
  obtain ⟨c, rs5, e4', hf4⟩ := bnd_some hf3
  obtain ⟨e4, q4⟩ := lft_some e4'
  rw [q4, q3] at hf4
  clear e3' e4' hf hf1 hf2 hf3
  refine ha L E ρ σ F H rs x1 rs1 _ r0 e1 fun v1 F1 H1 s1 h1 => ?_
  refine hb L E ρ σ F1 H1 rs1 x2 rs4 _ (r0.step s1) e2 fun v2 F2 H2 s2 h2 => ?_
  have s12 := s1.trans r0.row s2
  have h2' := h2.older (H0 := H) fun a q => s1.back r0.row q
  refine hr F2 H H2 rs4 v1 v2 x1 x2 z _ (Rel.refl ((r0.step s1).step s2)) (h1.step s2) h2' e3 fun v3 F3 H3 s3 h3 => ?_
  have s13 := s12.trans r0.row s3
  refine ⟨c, h3.bool e4, ?_⟩
  cases c with
  | false =>
    rw [if_neg Bool.false_ne_true] at hf4
    obtain ⟨e5, rfl⟩ := ret_some hf4
    subst e5
    exact kk _ F3 H3 s13 (.bl false)
  | true =>
    rw [if_pos rfl] at hf4
    obtain ⟨x5, rs5, e5, hf5⟩ := bnd_some hf4
    obtain ⟨e6, rfl⟩ := lft_some hf5
    refine hc L E ρ σ F3 H3 rs4 x5 rs' _ (r0.step s13) e5 fun v5 F5 H5 s5 h5 => ?_
    have s15 := s13.trans r0.row s5
    refine hr' F5 H H5 rs' v2 v5 x2 x5 x Q (r0.step s15).refl ((h2'.step s3).step s5) (h5.older fun a q => s13.back r0.row q) e6 fun v6 F6 H6 s6 h6 => ?_
    exact kk v6 F6 H6 (s15.trans r0.row s6) (h6.older fun a q => s15.back r0.row q)
theorem de_chain {op op' : CmpOp} {r r' : R2} {g g' : RV → RV → Option RV} {k : Env → M RV} (ho : OpR X (compareOp op) r) (ho' : OpR X (compareOp op') r') (hr : RSem X.K R r g) (hr' : RSem X.K R r' g')
    (ha : DE X R a ta f) (hb : DE X R b tb h) (hc : DE X R c tc k) (hm : lastMarks [op, op'] [b, c] = false := by with_unfolding_all rfl) : DE X R (.Compare a [op, op'] [b, c] pos) (tChain r r' ta tb tc) (eCh g g' f h k) :=
  ⟨pe_chain ho ho' ha.pe hb.pe hc.pe hm, esem_chain hr hr' ha.sem hb.sem hc.sem⟩
def gI (C : Int → Int → Bool) (k : Int → Int → D) : RV → RV → Option RV := fun x y => match asInt x, asInt y with
  | some i, some j => if C i j = true then some (.d (k i j)) else none
  | _, _ => none
theorem rsem_I {K : PySem.W.Frag} {C : Int → Int → Prop} {Cb : Int → Int → Bool} {kv : Int → Int → V} {k : Int → Int → D} (hC : ∀ i j, Cb i j = true → C i j) (hk : ∀ F i j, Dp K F (kv i j) (k i j)) : RSem K R (rI C kv) (gI Cb k) :=
  fun F H0 H rs x y p q z Q s hx hy e kk => by
    unfold gI at e
    cases e1 : asInt p with
    | none => rw [e1] at e; cases e
    | some i =>
      cases e2 : asInt q with
      | none => rw [e1, e2] at e; cases e
      | some j =>
        rw [e1, e2] at e
        by_cases hc : Cb i j = true
        · simp only [hc, if_true] at e
          cases e
          exact ⟨i, j, hx.int e1, hy.int e2, hC i j hc, kk _ F H s (hk F i j)⟩
        · simp only [hc] at e
          cases e
theorem rsem_I0 {K : PySem.W.Frag} {kv : Int → Int → V} {k : Int → Int → D} (hk : ∀ F i j, Dp K F (kv i j) (k i j)) : RSem K R (rI0 kv) (gI (fun _ _ => true) k) :=
  fun F H0 H rs x y p q z Q s hx hy e kk => by
    obtain ⟨i, j, h1, h2, _, h4⟩ := rsem_I (C := fun _ _ => True) (kv := kv) (fun _ _ _ => trivial) hk F H0 H rs x y p q z Q s hx hy e kk
    exact ⟨i, j, h1, h2, h4⟩
/-- a product: one factor below 2^64 in size -/
def cMul (i j : Int) : Bool := (decide (-18446744073709551616 < i) && decide (i < 18446744073709551616)) || (decide (-18446744073709551616 < j) && decide (j < 18446744073709551616))
theorem cMul_ok (i j : Int) (h : cMul i j = true) : CMul i j := by
  unfold cMul at h
  simp only [Bool.or_eq_true, Bool.and_eq_true, decide_eq_true_eq] at h
  unfold CMul
  exact h
def cDiv (i j : Int) : Bool := decide (0 < j) && decide (j < 1073741824)
theorem cDiv_ok (i j : Int) (h : cDiv i j = true) : CDiv i j := by
  unfold cDiv at h
  simp only [Bool.and_eq_true, decide_eq_true_eq] at h
  exact h
def cPos (i j : Int) : Bool := decide (0 < j)
def cPow (i j : Int) : Bool := decide (0 ≤ j) && (decide (j ≤ 1000000) && decide (i.natAbs < 18446744073709551616))
theorem cPow_ok (i j : Int) (h : cPow i j = true) : CPow i j := by
  unfold cPow at h
  simp only [Bool.and_eq_true, decide_eq_true_eq] at h
  exact h
abbrev gSubI := gI (fun _ _ => true) fun i j => .int (i - j)
abbrev gFdiv := gI cDiv fun i j => .int (i / j)
abbrev gMod := gI cPos fun i j => .int (i % j)
abbrev gPow := gI cPow fun i j => .int (i ^ j.toNat)
abbrev gLt := gI (fun _ _ => true) fun i j => .bool (decide (i < j))
abbrev gLe := gI (fun _ _ => true) fun i j => .bool (decide (i ≤ j))
abbrev gGt := gI (fun _ _ => true) fun i j => .bool (decide (j < i))
abbrev gGe := gI (fun _ _ => true) fun i j => .bool (decide (j ≤ i))
end
end DV

namespace DV
open PySem L2

/-- as data, where it is read at once -/
def viewD : RV → Option D
  | .d x => some x
  | .b ds => some (.list ds)
  | .n ds => some (.list ds)
  | .gb _ => none
  | .gn _ => none
  | .row => none
section
variable {K : PySem.W.Frag} {R : RA} {F F' H0 H H' : Hp} {rs rs' : RS}
theorem VR.view {v : V} {x : RV} {d : D} (s : Step K R rs F H F H) (h : VR K R F H0 H v x) (e : viewD x = some d) : Dp K H v d := by
  cases x with
  | d x => cases e; exact Dp.mono s.fin _ _ h
  | b ds =>
    cases e
    obtain ⟨a, vs, rfl, h1, h2, h3⟩ := h
    exact .lst (.inl (.inl h1)) (Dp.monoA s.fin _ _ h3)
  | n ds =>
    cases e
    obtain ⟨a, vs, rfl, h1, h0, h2, h3, h4⟩ := h
    exact .lst (.inl (.inl h1)) (Dp.monoA s.fin _ _ h4)
  | gb _ => cases e
  | gn _ => cases e
  | row => cases e
end

section
variable {X : Cx} {R : RA} {K : PySem.W.Frag} {a b c e : Expr} {es : List Expr} {ta tb tc te : TE} {tt uu : TT} {t u : TA} {f g h : Env → M RV} {pos : Pos}

def gEqB (neg : Bool) : RV → RV → Option RV := fun x y => match viewD x, viewD y with
  | some d, some e => if SeqAt.shaped d = true then if SeqAt.shaped e = true then some (.d (.bool (if neg then !PyData.eqv d e else PyData.eqv d e))) else none else none
  | _, _ => none
abbrev gEq := gEqB false
abbrev gNe := gEqB true
theorem gEqB_some {neg : Bool} {x y z : RV} (h : gEqB neg x y = some z) : ∃ d e, viewD x = some d ∧ viewD y = some e ∧ SeqAt.shaped d = true ∧ SeqAt.shaped e = true ∧ z = .d (.bool (if neg then !PyData.eqv d e else PyData.eqv d e)) := by
  unfold gEqB at h
  cases e1 : viewD x with
  | none => rw [e1] at h; cases h
  | some d =>
    cases e2 : viewD y with
    | none => rw [e1, e2] at h; cases h
    | some e =>
      rw [e1, e2] at h
      by_cases s1 : SeqAt.shaped d = true
      · by_cases s2 : SeqAt.shaped e = true
        · simp only [s1, s2, if_true] at h
          exact ⟨d, e, rfl, rfl, s1, s2, (Option.some.inj h).symm⟩
        · simp only [s1, s2, if_true] at h; cases h
      · simp only [s1] at h; cases h
theorem rsem_eq : RSem K R (rEqD K) gEq := fun F H0 H rs x y p q z Q s hx hy e kk => by
  obtain ⟨d, e', e1, e2, s1, s2, rfl⟩ := gEqB_some e
  exact ⟨d, e', hx.view s e1, hy.view s e2, s1, s2, kk _ F H s (.bl _)⟩
theorem rsem_ne : RSem K R (rNeD K) gNe := fun F H0 H rs x y p q z Q s hx hy e kk => by
  obtain ⟨d, e', e1, e2, s1, s2, rfl⟩ := gEqB_some e
  exact ⟨d, e', hx.view s e1, hy.view s e2, s1, s2, kk _ F H s (.bl _)⟩
/-- in a list or tuple -/
def seqD (y : D) (ds : List D) : Prop := y = .list ds ∨ y = .tuple ds
def rInA (K : PySem.W.Frag) (neg : Bool) : R2 := fun x y H Q => ∃ d ds e, Dp K H x d ∧ Dp K H y e ∧ seqD e ds ∧ SeqAt.shaped d = true ∧ SeqAt.shaped (.list ds) = true ∧ Q (.bl (if neg then !(ds.any fun z => PyData.eqv z d) else ds.any fun z => PyData.eqv z d)) H
theorem op_inA (hu : X.A.units + 65 < cLine) : OpR X (compareOp .In) (rInA X.K false) := by
  intro pins s σ H x y v u Q I rx ry h
  obtain ⟨d, ds, e, hd, he, hs, sd, se, q⟩ := h
  obtain ⟨as, r1⟩ := Dp.reads I d x v hd rx
  obtain ⟨bs, r2⟩ := Dp.reads I e y u he ry
  rcases hs with rfl | rfl
  · exact SeqAt.in_list_reads r2 r1 (SeqAt.canLay_of_shaped se) (SeqAt.canLay_of_shaped sd) (PyProof.Rows.room_in_shaped sd hu) ⟨.bl _, H, I, rfl, q⟩
  · exact SeqAt.in_tuple_reads r2 r1 (SeqAt.canLay_of_shaped se) (SeqAt.canLay_of_shaped sd) (PyProof.Rows.room_in_shaped sd hu) ⟨.bl _, H, I, rfl, q⟩
theorem op_notInA (hu : X.A.units + 65 < cLine) : OpR X (compareOp .NotIn) (rInA X.K true) := by
  intro pins s σ H x y v u Q I rx ry h
  obtain ⟨d, ds, e, hd, he, hs, sd, se, q⟩ := h
  obtain ⟨as, r1⟩ := Dp.reads I d x v hd rx
  obtain ⟨bs, r2⟩ := Dp.reads I e y u he ry
  rcases hs with rfl | rfl
  · exact SeqAt.notIn_list_reads r2 r1 (SeqAt.canLay_of_shaped se) (SeqAt.canLay_of_shaped sd) (PyProof.Rows.room_in_shaped sd hu) ⟨.bl _, H, I, rfl, q⟩
  · exact SeqAt.notIn_tuple_reads r2 r1 (SeqAt.canLay_of_shaped se) (SeqAt.canLay_of_shaped sd) (PyProof.Rows.room_in_shaped sd hu) ⟨.bl _, H, I, rfl, q⟩
def gInB (neg : Bool) : RV → RV → Option RV := fun x y => match viewD x, items y with
  | some d, some ds => if SeqAt.shaped d = true then if SeqAt.shaped (.list ds) = true then some (.d (.bool (if neg then !(ds.any fun z => PyData.eqv z d) else ds.any fun z => PyData.eqv z d))) else none else none
  | _, _ => none
abbrev gIn := gInB false
abbrev gNotIn := gInB true
theorem VR.seqD {v : V} {x : RV} {ds : List D} {F H0 H : Hp} {rs : RS} (s : Step K R rs F H F H) (h : VR K R F H0 H v x) (e : DV.items x = some ds) : ∃ y, Dp K H v y ∧ DV.seqD y ds := by
  obtain ⟨a, vs, rfl, h1, h2⟩ := h.items s e
  rcases h1 with h1 | h1
  · exact ⟨.list ds, .lst h1 (Dp.monoA s.fin _ _ h2), .inl rfl⟩
  · exact ⟨.tuple ds, .tup h1 (Dp.monoA s.fin _ _ h2), .inr rfl⟩
theorem rsem_in (neg : Bool) : RSem K R (rInA K neg) (gInB neg) := fun F H0 H rs x y p q z Q s hx hy e kk => by
  unfold gInB at e
  cases e1 : viewD p with
  | none => rw [e1] at e; cases e
  | some d =>
    cases e2 : items q with
    | none => rw [e1, e2] at e; cases e
    | some ds =>
      rw [e1, e2] at e
      by_cases s1 : SeqAt.shaped d = true
      · by_cases s2 : SeqAt.shaped (.list ds) = true
        · simp only [s1, s2, if_true] at e
          obtain ⟨y', h1, h2⟩ := hy.seqD s e2
          have e := Option.some.inj e
          subst e
          exact ⟨d, ds, y', hx.view s e1, h1, h2, s1, s2, kk _ F H s (.bl _)⟩
        · simp only [s1, s2, if_true] at e; cases e
      · simp only [s1] at e; cases e
/-- is None -/
def isNoneD : D → Bool
  | .none => true
  | _ => false
def gIsN (neg : Bool) : RV → RV → Option RV := fun x y => match viewD x, y with
  | some d, .d .none => some (.d (.bool (if neg then !isNoneD d else isNoneD d)))
  | _, _ => none
theorem none_iff {v : V} {d : D} {F : Hp} (h : Dp K F v d) : decide (v = V.non) = isNoneD d := by
  cases h <;> rfl
theorem gIsN_some {neg : Bool} {x y z : RV} (h : gIsN neg x y = some z) : ∃ d, viewD x = some d ∧ y = .d .none ∧ z = .d (.bool (if neg then !isNoneD d else isNoneD d)) := by
  unfold gIsN at h
  cases e1 : viewD x with
  | none => rw [e1] at h; cases h
  | some d =>
    rw [e1] at h
    cases y with
    | d y =>
      cases y with
      | none => exact ⟨d, rfl, rfl, (Option.some.inj h).symm⟩
      | _ => cases h
    | _ => cases h
theorem rsem_isN : RSem K R (fun x y H Q => y = .non ∧ Q (.bl (decide (x = .non))) H) (gIsN false) := fun F H0 H rs x y p q z Q s hx hy e kk => by
  obtain ⟨d, e1, rfl, rfl⟩ := gIsN_some e
  cases hy
  refine ⟨rfl, kk _ F H s ?_⟩
  rw [none_iff (hx.view s e1)]
  exact .bl _
def gIx : RV → RV → Option RV := fun x y => match items x, asInt y with
  | some ds, some i => (atI ds i).map RV.d
  | _, _ => none
theorem rsem_ix : RSem K R (rIx K) gIx := fun F H0 H rs x y p q z Q s hx hy e kk => by
  unfold gIx at e
  cases e1 : items p with
  | none => rw [e1] at e; cases e
  | some ds =>
    cases e2 : asInt q with
    | none => rw [e1, e2] at e; cases e
    | some i =>
      rw [e1, e2] at e
      obtain ⟨a, vs, rfl, h1, h2⟩ := hx.items s e1
      have e' : (atI ds i).map RV.d = some z := e
      cases e3 : atI ds i with
      | none => rw [e3] at e'; cases e'
      | some d =>
        rw [e3] at e'
        cases e'
        unfold atI at e3
        cases e4 : ixN ds.length i with
        | none => rw [e4] at e3; cases e3
        | some j =>
          rw [e4] at e3
          obtain ⟨v, hv, hd⟩ := h2.get (show ds[j]? = some d from e3)
          have hat : atI vs i = some v := by
            unfold atI
            rw [h2.len, e4]
            exact hv
          rcases h1 with h1 | h1
          · exact .inl ⟨a, vs, i, v, rfl, hy.int e2, h1, hat, kk _ F H s hd⟩
          · exact .inr (.inl ⟨a, vs, i, v, rfl, hy.int e2, h1, hat, kk _ F H s hd⟩)
theorem de_ix (ha : DE X R a ta f) (hb : DE X R b tb h) (hs : PlainIx b := by exact fun _ _ => rfl) : DE X R (.Subscript a b pos) (tOp (rIx X.K) ta tb) (e2 gIx f h) :=
  ⟨pe_ix ix_seq ha.pe hb.pe hs, esem_op rsem_ix ha.sem hb.sem⟩
def cutD (xs : List D) (lo hi : Option Int) : List D := (xs.drop (HT.sIx xs.length 0 lo)).take (HT.sIx xs.length xs.length hi - HT.sIx xs.length 0 lo)
theorem DpAllcut {F : Hp} {vs : List V} {ds : List D} (h : DpAll K F vs ds) (lo hi : Option Int) : DpAll K F (cutV vs lo hi) (cutD ds lo hi) := by
  unfold cutV cutD
  rw [h.len]
  exact DpAll.take _ (DpAll.drop _ h)
/-- the parts of a slice -/
def OSem (K : PySem.W.Frag) (R : RA) (t : TO) (f : Env → M (Option Int)) : Prop :=
  ∀ (L : Nat → Option (Addr × HO)) (E : Hp) (ρ : Env) (σ : L2.St) (F H : Hp) (rs : RS) (x : Option Int) (rs' : RS) (Q : Option Int → Hp → Prop), Rel K R L E F ρ σ rs H → f ρ rs = some (x, rs') →
    (∀ F' H', Step K R rs' F H F' H' → Q x H') → t σ H Q
structure DO (X : Cx) (R : RA) (e : Option Expr) (t : TO) (f : Env → M (Option Int)) : Prop where
  po : PO X e t
  sem : OSem X.K R t f
theorem do_none : DO X R none tNoPart (fun _ => ret none) := ⟨po_none, fun L E ρ σ F H rs x rs' Q r hf k => by
  obtain ⟨e, rfl⟩ := ret_some hf
  subst e
  exact k F H r.refl⟩
theorem do_some (he : DE X R e te f) : DO X R (some e) (tPart te) (fun ρ => bnd (f ρ) fun x => bnd (lft (asInt x)) fun i => ret (some i)) := ⟨po_some he.pe, fun L E ρ σ F H rs x rs' Q r hf k => by
  obtain ⟨x1, rs1, e1, hf1⟩ := bnd_some hf
  obtain ⟨i, rs2, e2, hf2⟩ := bnd_some hf1
  obtain ⟨e3, q3⟩ := lft_some e2
  obtain ⟨e4, q4⟩ := ret_some hf2
  subst e4 q4 q3
  exact he.sem L E ρ σ F H rs x1 _ _ r e1 fun v1 F1 H1 s1 h1 => ⟨i, h1.int e3, k F1 H1 s1⟩⟩
def eSlice (f : Env → M RV) (lo hi : Env → M (Option Int)) : Env → M RV := fun ρ => bnd (f ρ) fun x => bnd (lo ρ) fun l => bnd (hi ρ) fun u => lft (match x with
  | .d (.tuple ds) => some (.d (.tuple (cutD ds l u)))
  | .d (.list ds) => some (.n (cutD ds l u))
  | .b ds => some (.n (cutD ds l u))
  | .n ds => some (.n (cutD ds l u))
  | _ => none)
theorem sl_both : SlR X (fun x lo hi H Q => rSlL X.K x lo hi H Q ∨ rSlA X.K x lo hi H Q) := SlR.or sl_list sl_tupA
theorem esem_slice {tl th : TO} {lo hi : Env → M (Option Int)} (he : ESem K R te f) (hl : OSem K R tl lo) (hh : OSem K R th hi) : ESem K R (tSl (fun x lo hi H Q => rSlL K x lo hi H Q ∨ rSlA K x lo hi H Q) te tl th) (eSlice f lo hi) :=
  fun L E ρ σ F H rs x rs' Q r0 hf kk => by
    obtain ⟨x1, rs1, e1, hf1⟩ := bnd_some hf
    obtain ⟨l, rs2, e2, hf2⟩ := bnd_some hf1
    obtain ⟨u, rs3, e3, hf3⟩ := bnd_some hf2
    obtain ⟨e4, q4⟩ := lft_some hf3
    subst q4
    refine he L E ρ σ F H rs x1 rs1 _ r0 e1 fun v1 F1 H1 s1 h1 => ?_
    refine hl L E ρ σ F1 H1 rs1 l rs2 _ (r0.step s1) e2 fun F2 H2 s2 => ?_
    refine hh L E ρ σ F2 H2 rs2 u rs' _ ((r0.step s1).step s2) e3 fun F3 H3 s3 => ?_
    have s13 := (s1.trans r0.row s2).trans r0.row s3
    have r3 := r0.step s13
    have h3 := (h1.step s2).step s3
    have mk : ∀ (a : Addr) (vs : List V) (ds : List D), v1 = .ref a → SqL K H3 a vs → DpAll K F3 vs ds → RV.n (cutD ds l u) = x → rSlL K v1 l u H3 Q := fun a vs ds ev hs hd ex => by
      refine ⟨a, vs, ev, hs, fun p hp => ?_⟩
      obtain ⟨s4, hF, hR⟩ := Step.new_lst (vs := cutV vs l u) r3.refl hp
      subst ex
      exact kk _ F3 _ (s13.trans r0.row s4) ⟨p, _, rfl, upd_same, s13.back r0.row hp, hF, hR, DpAllcut hd l u⟩
    cases x1 with
    | d y =>
      cases y with
      | tuple ds =>
        have e4 := Option.some.inj e4
        cases h3 with
        | @tup a vs _ hs hd =>
          refine .inr ⟨_, _, rfl, ex_t (r3.fr _) hs, fun hw => ?_, fun hw p hp => ?_⟩
          · have ec : cutD ds l u = ds := by
              have hl := hd.len
              unfold cutD
              rw [hl] at hw
              rw [hw.1, hw.2]
              simp
            rw [ec] at e4
            subst e4
            exact kk _ F3 H3 s13 (.tup hs hd)
          · subst e4
            have s4 := Step.new_tup (vs := cutV vs l u) r3.refl hp
            exact kk _ _ _ (s13.trans r0.row s4) (.tup (.inl (.inl upd_same)) (Dp.monoA s4.sub _ _ (DpAllcut hd l u)))
      | list ds =>
        have e4 := Option.some.inj e4
        cases h3 with
        | lst hs hd => exact .inl (mk _ _ ds rfl (ex_l (r3.fr _) hs) hd e4)
      | none => cases e4
      | bool _ => cases e4
      | int _ => cases e4
      | str _ => cases e4
      | dict _ => cases e4
    | b ds =>
      have e4 := Option.some.inj e4
      obtain ⟨a, vs, ev, hs, _, hd⟩ := h3
      exact .inl (mk a vs ds ev (.inl (.inl hs)) hd e4)
    | n ds =>
      have e4 := Option.some.inj e4
      obtain ⟨a, vs, ev, hs, _, _, _, hd⟩ := h3
      exact .inl (mk a vs ds ev (.inl (.inl hs)) hd e4)
    | gb _ => cases e4
    | gn _ => cases e4
    | row => cases e4
theorem de_slice {lo hi : Option Expr} {tl th : TO} {l u : Env → M (Option Int)} {p2 : Pos} (he : DE X R e te f) (hl : DO X R lo tl l) (hh : DO X R hi th u) :
    DE X R (.Subscript e (.Slice lo hi none p2) pos) (tSl (fun x lo hi H Q => rSlL X.K x lo hi H Q ∨ rSlA X.K x lo hi H Q) te tl th) (eSlice f l u) := ⟨pe_slice sl_both he.pe hl.po hh.po, esem_slice he.sem hl.sem hh.sem⟩

theorem OpR.or {fo : Value → Value → Sem Value} {r r' : R2} (h : OpR X fo r) (h' : OpR X fo r') : OpR X fo (fun x y H Q => r x y H Q ∨ r' x y H Q) := fun pins s σ H x y v u Q I rx ry hq => by
  rcases hq with q | q
  · exact h pins s σ H x y v u Q I rx ry q
  · exact h' pins s σ H x y v u Q I rx ry q
theorem sz_of {n : Nat} (h : n ≤ 100000) : n ≤ sizeLine := Nat.le_trans h (by decide)
theorem sz_lt {n : Nat} (h : n < 100000) : n < sizeLine := Nat.lt_of_lt_of_le h (by decide)
end
end DV

namespace DV
open PySem L2 PyProof.Rows PySem.Spec
theorem tup_once (l : Addr) (its : Array Value) (n : Nat) (u : Tok) (dd : Option Addr) (sl : Array (Option Value)) :
    Meets (Builtin.«tuple.__mul__» ⟨[.ref l, .int 1 u], []⟩)
      (fun _ R s => (s.heap.get? l = some ⟨.type "tuple", dd, .seq its n, sl⟩) ∧ R (.ok (.ret (Value.ref l))) s) :=
  .of_wp fun prog w A R s h => by
    obtain ⟨hp, g, d, tk, os⟩ := s
    obtain ⟨hl, h⟩ := h
    have f1 := AutoSeq1.idx_int
    wp_walk using AutoSeq1.wpAny_loadPart' hl
    exact ⟨_, rfl, h⟩
def rOnce (K : PySem.W.Frag) : R2 := fun x y H Q => ∃ l xs, x = .ref l ∧ y = .int 1 ∧ SqT K H l xs ∧ Q (.ref l) H
section
variable {X : Cx}
theorem op_once : OpR X (binaryOp .Mult) (rOnce X.K) := by
  intro pins s σ H x y v u Q I rx ry h
  obtain ⟨l, xs, rfl, rfl, hT, q⟩ := h
  have hx := rx
  cases rx
  obtain ⟨t, rfl⟩ := ry
  obtain ⟨its, r, ⟨⟨cls, dd, data, sl⟩, ho, hc, n, hd⟩, hs⟩ := I.tuple hT
  simp only at hc hd
  subst hc hd
  refine wpAny_binaryOp_repeat_ref (T := "tuple") (U := "int") (by decide) ⟨_, ho, rfl⟩ (fun s' => typeIs_int s' 1 t) noFill_tuple_mul F.fills_int_mul F.slot_int_rmul repeat_tuple F.slot_int_index.lookup
    (call_meets F.slot_int_rmul (typeIs_int s 1 t) F.entry_int_rmul (F.args_int_rmul_2 _ _) (int_rmul_tuple 1 t l its.toArray n dd sl)
      ⟨ho, rfl, ⟨_, ho, rfl⟩, call_meets F.slot_tuple_mul ⟨_, ho, rfl⟩ F.entry_tuple_mul (F.args_tuple_mul_2 _ _) (tup_once l its.toArray n t dd sl) ⟨ho, ?_⟩⟩)
  exact ⟨.ref l, _, I, rfl, q⟩
end
end DV

namespace DV
open PySem L2
section
variable {X : Cx} {R : RA} {K : PySem.W.Frag} {a b c e : Expr} {es : List Expr} {ta tb tc te : TE} {tt uu : TT} {t u : TA} {f g h : Env → M RV} {p q pos : Pos}

/-- a tracked list -/
theorem VR.lst {F H0 H : Hp} {v : V} {x : RV} {ds : List D} (h : VR K R F H0 H v x) (e : x = .b ds ∨ x = .n ds) : ∃ a vs, v = .ref a ∧ H a = some (.lst vs) ∧ DpAll K F vs ds := by
  rcases e with rfl | rfl
  · obtain ⟨a, vs, e1, h1, h2, h3⟩ := h
    exact ⟨a, vs, e1, h1, h3⟩
  · obtain ⟨a, vs, e1, h1, h0, h2, h3, h4⟩ := h
    exact ⟨a, vs, e1, h1, h4⟩
def asLst : RV → Option (List D)
  | .b ds => some ds
  | .n ds => some ds
  | _ => none
theorem asLst_some {x : RV} {ds : List D} (h : asLst x = some ds) : x = .b ds ∨ x = .n ds := by
  cases x with
  | b es => cases h; exact .inl rfl
  | n es => cases h; exact .inr rfl
  | _ => cases h
def gAddA : RV → RV → Option RV := fun x y => match x, y with
  | .d (.int i), .d (.int j) => some (.d (.int (i + j)))
  | .d (.tuple ds), .d (.tuple es) => if ds.length + es.length ≤ 100000 then some (.d (.tuple (ds ++ es))) else none
  | x, y => match asLst x, asLst y with
    | some ds, some es => if ds.length + es.length ≤ 100000 then some (.n (ds ++ es)) else none
    | _, _ => none
abbrev rAddA (K : PySem.W.Frag) : R2 := fun x y H Q => rI0 (fun i j => .int (i + j)) x y H Q ∨ (rCatA K x y H Q ∨ rCat x y H Q)
theorem op_addA : OpR X (binaryOp .Add) (rAddA X.K) := OpR.or op_add (OpR.or op_catA op_cat)
theorem gAddA_some {x y z : RV} (h : gAddA x y = some z) :
    (∃ i j, x = .d (.int i) ∧ y = .d (.int j) ∧ z = .d (.int (i + j))) ∨
    (∃ ds es, x = .d (.tuple ds) ∧ y = .d (.tuple es) ∧ ds.length + es.length ≤ 100000 ∧ z = .d (.tuple (ds ++ es))) ∨
    (∃ ds es, asLst x = some ds ∧ asLst y = some es ∧ ds.length + es.length ≤ 100000 ∧ z = .n (ds ++ es)) := by
  unfold gAddA at h
  split at h
  · exact .inl ⟨_, _, rfl, rfl, (Option.some.inj h).symm⟩
  · split at h
    · rename_i hl
      exact .inr (.inl ⟨_, _, rfl, rfl, hl, (Option.some.inj h).symm⟩)
    · cases h
  · split at h
    · rename_i ds es e1 e2
      split at h
      · rename_i hl
        exact .inr (.inr ⟨ds, es, e1, e2, hl, (Option.some.inj h).symm⟩)
      · cases h
    · cases h
theorem rsem_add : RSem K R (rAddA K) gAddA := fun F H0 H rs x y p q z Q s hx hy e kk => by
  rcases gAddA_some e with ⟨i, j, rfl, rfl, rfl⟩ | ⟨ds, es, rfl, rfl, hl, rfl⟩ | ⟨ds, es, e1, e2, hl, rfl⟩
  · cases hx; cases hy
    exact .inl ⟨i, j, rfl, rfl, kk _ F H s (Dp.int _)⟩
  · cases hx with
    | @tup a vs _ h1 h2 =>
      cases hy with
      | @tup b ws _ k1 k2 =>
        refine .inr (.inl ⟨a, b, vs, ws, rfl, rfl, ex_t (s.fin _) h1, ex_t (s.fin _) k1, by rw [h2.len, k2.len]; exact sz_of hl, fun ev => ?_, fun nv ew => ?_, fun nv nw pp hp => ?_⟩)
        · have ed : ds = [] := List.eq_nil_of_length_eq_zero (by rw [← h2.len, ev]; rfl)
          refine kk _ F H s ?_
          rw [ed]
          exact .tup k1 k2
        · have ed : es = [] := List.eq_nil_of_length_eq_zero (by rw [← k2.len, ew]; rfl)
          refine kk _ F H s ?_
          rw [ed, List.append_nil]
          exact .tup h1 h2
        · have s4 := Step.new_tup (vs := vs ++ ws) s hp
          exact kk _ _ _ s4 (.tup (.inl (.inl upd_same)) (Dp.monoA s4.sub _ _ (h2.append k2)))
  · obtain ⟨a, vs, rfl, h1, h2⟩ := hx.lst (asLst_some e1)
    obtain ⟨b, ws, rfl, k1, k2⟩ := hy.lst (asLst_some e2)
    refine .inr (.inr ⟨a, b, vs, ws, rfl, rfl, h1, k1, by rw [h2.len, k2.len]; exact sz_of hl, fun pp hp => ?_⟩)
    obtain ⟨s4, hF, hR⟩ := Step.new_lst (vs := vs ++ ws) s hp
    exact kk _ F _ s4 ⟨pp, _, rfl, upd_same, hp, hF, hR, h2.append k2⟩
/-- list * n -/
def gMulA : RV → RV → Option RV := fun x y => match x, y with
  | .d (.int i), .d (.int j) => if cMul i j = true then some (.d (.int (i * j))) else none
  | .d (.tuple ds), .d (.int j) => if 1 ≤ j ∧ j ≤ 1000 ∧ ds.length ≤ 1000 ∧ ds ≠ [] then some (.d (.tuple (List.replicate j.toNat ds).flatten)) else none
  | x, .d (.int j) => match asLst x with
    | some ds => if -1000 ≤ j ∧ j ≤ 1000 ∧ ds.length ≤ 1000 then some (.n (List.replicate j.toNat ds).flatten) else none
    | none => none
  | _, _ => none
abbrev rMulA (K : PySem.W.Frag) : R2 := fun x y H Q => rI CMul (fun i j => .int (i * j)) x y H Q ∨ ((rOnce K x y H Q ∨ rRepT K x y H Q) ∨ rRep x y H Q)
theorem op_mulA : OpR X (binaryOp .Mult) (rMulA X.K) := OpR.or op_mul (OpR.or (OpR.or op_once op_repT) op_rep)
theorem gMulA_some {x y z : RV} (h : gMulA x y = some z) :
    (∃ i j, x = .d (.int i) ∧ y = .d (.int j) ∧ cMul i j = true ∧ z = .d (.int (i * j))) ∨
    (∃ ds j, x = .d (.tuple ds) ∧ y = .d (.int j) ∧ (1 ≤ j ∧ j ≤ 1000 ∧ ds.length ≤ 1000 ∧ ds ≠ []) ∧ z = .d (.tuple (List.replicate j.toNat ds).flatten)) ∨
    (∃ ds j, asLst x = some ds ∧ y = .d (.int j) ∧ (-1000 ≤ j ∧ j ≤ 1000 ∧ ds.length ≤ 1000) ∧ z = .n (List.replicate j.toNat ds).flatten) := by
  unfold gMulA at h
  split at h
  · split at h
    · rename_i hl
      exact .inl ⟨_, _, rfl, rfl, hl, (Option.some.inj h).symm⟩
    · cases h
  · split at h
    · rename_i hl
      exact .inr (.inl ⟨_, _, rfl, rfl, hl, (Option.some.inj h).symm⟩)
    · cases h
  · split at h
    · rename_i ds e1
      split at h
      · rename_i hl
        exact .inr (.inr ⟨ds, _, e1, rfl, hl, (Option.some.inj h).symm⟩)
      · cases h
    · cases h
  · cases h
theorem rsem_mul : RSem K R (rMulA K) gMulA := fun F H0 H rs x y p q z Q s hx hy e kk => by
  rcases gMulA_some e with ⟨i, j, rfl, rfl, hc, rfl⟩ | ⟨ds, j, rfl, rfl, ⟨h2, h3, h4, h5⟩, rfl⟩ | ⟨ds, j, e1, rfl, ⟨h2, h3, h4⟩, rfl⟩
  · cases hx; cases hy
    exact .inl ⟨i, j, rfl, rfl, cMul_ok i j hc, kk _ F H s (Dp.int _)⟩
  · cases hy
    cases hx with
    | @tup a vs _ k1 k2 =>
      by_cases hj : j = 1
      · subst hj
        refine .inr (.inl (.inl ⟨a, vs, rfl, rfl, ex_t (s.fin _) k1, kk _ F H s ?_⟩))
        rw [show (List.replicate (1 : Int).toNat ds).flatten = ds by simp]
        exact .tup k1 k2
      refine .inr (.inl (.inr ⟨a, j, vs, rfl, rfl, ex_t (s.fin _) k1, fun ev => h5 (List.eq_nil_of_length_eq_zero (by rw [← k2.len, ev]; rfl)), by omega, h3, by rw [k2.len]; exact h4, fun pp hp => ?_⟩))
      have s4 := Step.new_tup (vs := (List.replicate j.toNat vs).flatten) s hp
      exact kk _ _ _ s4 (.tup (.inl (.inl upd_same)) (Dp.monoA s4.sub _ _ (k2.rep _)))
  · cases hy
    obtain ⟨a, vs, rfl, k1, k2⟩ := hx.lst (asLst_some e1)
    refine .inr (.inr ⟨a, j, vs, rfl, rfl, k1, by omega, by omega, ?_, fun pp hp => ?_⟩)
    · rw [k2.len]
      have : ds.length * j.toNat ≤ 1000 * 1000 := Nat.mul_le_mul h4 (by omega)
      exact Nat.le_trans this (by decide)
    · obtain ⟨s4, hF, hR⟩ := Step.new_lst (vs := (List.replicate j.toNat vs).flatten) s hp
      exact kk _ F _ s4 ⟨pp, _, rfl, upd_same, hp, hF, hR, k2.rep _⟩

def eNeg (f : Env → M RV) : Env → M RV := fun ρ => bnd (f ρ) fun x => bnd (lft (asInt x)) fun i => ret (.d (.int (-i)))
def tIfT (f : Env → M Bool) (g h : Env → M Bool) : Env → M Bool := fun ρ => bnd (f ρ) fun c => if c = true then g ρ else h ρ
def tRetB (b : Bool) : Env → M Bool := fun _ => ret b
section tests
variable {x y : Env → M Bool} {rest : List Expr}
theorem tsem_or (hx : TSem K R tt x) (hy : TSem K R uu y) : TSem K R (tOr tt uu) (tIfT x (tRetB true) y) := fun L E ρ σ F H rs z rs' Q r hf k => by
  obtain ⟨c, rs1, e1, hf1⟩ := bnd_some hf
  refine hx L E ρ σ F H rs c rs1 _ r e1 fun F1 H1 s1 => ?_
  cases c with
  | true =>
    rw [if_pos rfl] at hf1 ⊢
    obtain ⟨e2, q2⟩ := ret_some hf1
    subst e2 q2
    exact k F1 H1 s1
  | false =>
    rw [if_neg Bool.false_ne_true] at hf1 ⊢
    exact hy L E ρ σ F1 H1 rs1 z rs' _ (r.step s1) hf1 fun F2 H2 s2 => k F2 H2 (s1.trans r.row s2)
theorem DW.dt (w : DW X R e tt x) : DT X R e tt x := ⟨w.pw.pt, w.sem⟩
theorem dw_or1 (hx : DT X R a tt x) : DW X R (.BoolOp .Or [a] pos) tt x := ⟨pw_or1 hx.pt, hx.sem⟩
theorem dw_or (hx : DT X R a tt x) (hy : DW X R (.BoolOp .Or (b :: rest) pos) uu y) : DW X R (.BoolOp .Or (a :: b :: rest) pos) (tOr tt uu) (tIfT x (tRetB true) y) := ⟨pw_or hx.pt hy.pw, tsem_or hx.sem hy.sem⟩
def tNotF (x : Env → M Bool) : Env → M Bool := fun ρ => bnd (x ρ) fun c => ret (!c)
theorem dt_not (hx : DT X R a tt x) : DT X R (.UnaryOp .Not a pos) (tNot tt) (tNotF x) := ⟨pt_not hx.pt, fun L E ρ σ F H rs z rs' Q r hf k => by
  obtain ⟨c, rs1, e1, hf1⟩ := bnd_some hf
  obtain ⟨e2, q2⟩ := ret_some hf1
  subst e2 q2
  exact hx.sem L E ρ σ F H rs c _ _ r e1 k⟩
/-- as values -/
def eIfB (f : Env → M RV) (g h : Env → M RV) : Env → M RV := fun ρ => bnd (f ρ) fun v => bnd (lft (asBool v)) fun c => if c = true then g ρ else h ρ
theorem de_one {op} (ha : DE X R a ta f) : DE X R (.BoolOp op [a] pos) ta f := ⟨pe_one ha.pe, ha.sem⟩
theorem de_and (ha : DE X R a ta f) (hb : DE X R (.BoolOp .And (b :: rest) pos) tb g) : DE X R (.BoolOp .And (a :: b :: rest) pos) (tAndV ta tb) (eIfB f g (eC (.bool false))) := ⟨pe_and ha.pe hb.pe, fun L E ρ σ F H rs z rs' Q r hf k => by
  obtain ⟨v, rs1, e1, hf1⟩ := bnd_some hf
  obtain ⟨c, rs2, e2, hf2⟩ := bnd_some hf1
  obtain ⟨e3, q3⟩ := lft_some e2
  subst q3
  refine ha.sem L E ρ σ F H rs v _ _ r e1 fun v1 F1 H1 s1 h1 => ⟨c, h1.bool e3, ?_⟩
  cases c with
  | true =>
    rw [if_pos rfl] at hf2 ⊢
    exact hb.sem L E ρ σ F1 H1 _ z rs' _ (r.step s1) hf2 fun v2 F2 H2 s2 h2 => k v2 F2 H2 (s1.trans r.row s2) (h2.older fun a q => s1.back r.row q)
  | false =>
    rw [if_neg Bool.false_ne_true] at hf2 ⊢
    obtain ⟨e4, q4⟩ := ret_some hf2
    subst e4 q4
    exact k _ F1 H1 s1 (.bl false)⟩
def eNotB (f : Env → M RV) : Env → M RV := fun ρ => bnd (f ρ) fun v => bnd (lft (asBool v)) fun c => ret (.d (.bool (!c)))
theorem de_not (ha : DE X R a ta f) : DE X R (.UnaryOp .Not a pos) (tNotV ta) (eNotB f) := ⟨pe_not ha.pe, fun L E ρ σ F H rs z rs' Q r hf k => by
  obtain ⟨v, rs1, e1, hf1⟩ := bnd_some hf
  obtain ⟨c, rs2, e2, hf2⟩ := bnd_some hf1
  obtain ⟨e3, q3⟩ := lft_some e2
  obtain ⟨e4, q4⟩ := ret_some hf2
  subst e4 q4 q3
  exact ha.sem L E ρ σ F H rs v _ _ r e1 fun v1 F1 H1 s1 h1 => ⟨c, h1.bool e3, k _ F1 H1 s1 (.bl _)⟩⟩
/-- a if t else b; the two ends may be a new list or data -/
def eIf (x : Env → M Bool) (f g : Env → M RV) : Env → M RV := fun ρ => bnd (x ρ) fun c => if c = true then f ρ else g ρ
end tests

def aNil : Env → M (List RV) := fun _ => ret []
def aCons (f : Env → M RV) (fa : Env → M (List RV)) : Env → M (List RV) := fun ρ => bnd (f ρ) fun x => bnd (fa ρ) fun xs => ret (x :: xs)
theorem VRs.step {F F' H0 H H' : Hp} {rs' : RS} (s : Step K R rs' F H F' H') : ∀ {vs : List V} {xs : List RV}, VRs K R F H0 H vs xs → VRs K R F' H0 H' vs xs
  | _, _, .nil => .nil
  | _, _, .cons h t => .cons (h.step s) (VRs.step s t)
theorem da_nil : DA X R [] tNil aNil := ⟨pa_nil, fun L E ρ σ F H rs x rs' Q r hf k => by
  obtain ⟨e1, q1⟩ := ret_some hf
  subst e1 q1
  exact k [] F H r.refl .nil⟩
theorem da_cons {fa : Env → M (List RV)} (ha : DE X R e te f) (hr : DA X R es t fa) (hs : starEach (e :: es) X.env = (false, eval e X.env) :: starEach es X.env := by rfl) : DA X R (e :: es) (tCons te t) (aCons f fa) := ⟨pa_cons ha.pe hr.pa hs, fun L E ρ σ F H rs x rs' Q r hf k => by
  obtain ⟨x1, rs1, e1, hf1⟩ := bnd_some hf
  obtain ⟨xs, rs2, e2, hf2⟩ := bnd_some hf1
  obtain ⟨e3, q3⟩ := ret_some hf2
  subst e3 q3
  refine ha.sem L E ρ σ F H rs x1 rs1 _ r e1 fun v1 F1 H1 s1 h1 => ?_
  refine hr.sem L E ρ σ F1 H1 rs1 xs _ _ (r.step s1) e2 fun vs F2 H2 s2 h2 => ?_
  exact k _ F2 H2 (s1.trans r.row s2) (.cons (h1.step s2) (h2.older fun a q => s1.back r.row q))⟩
def aStar (f : Env → M RV) (fa : Env → M (List RV)) : Env → M (List RV) := fun ρ => bnd (f ρ) fun x => bnd (lft (items x)) fun ds => bnd (fa ρ) fun xs => ret (ds.map RV.d ++ xs)
theorem VRs.append {F H0 H : Hp} : ∀ {vs ws : List V} {xs ys : List RV}, VRs K R F H0 H vs xs → VRs K R F H0 H ws ys → VRs K R F H0 H (vs ++ ws) (xs ++ ys)
  | _, _, _, _, .nil, h => h
  | _, _, _, _, .cons h t, h' => .cons h (VRs.append t h')
/-- (a, b, ..) -/
def eTup (fa : Env → M (List RV)) : Env → M RV := fun ρ => bnd (fa ρ) fun xs => bnd (lft (toDs xs)) fun ds => if ds.length ≤ 100000 then ret (.d (.tuple ds)) else fail
def eLst (fa : Env → M (List RV)) : Env → M RV := fun ρ => bnd (fa ρ) fun xs => bnd (lft (toDs xs)) fun ds => if ds.length ≤ 100000 then ret (.n ds) else fail
theorem frozen {F H0 H F1 : Hp} {rs rs' : RS} {L : Nat → Option (Addr × HO)} {E : Hp} {ρ : Env} {σ : L2.St} (r : Rel K R L E F ρ σ rs H0) (s : Step K R rs' F H0 F1 H) {vs : List V} {xs : List RV} {ds : List D} (h : VRs K R F1 H0 H vs xs) (e : toDs xs = some ds) :
    ∃ F2, Step K R rs' F H0 F2 H ∧ DpAll K F2 vs ds := by
  obtain ⟨F2, k1, k2, k3, k4, k5, hA⟩ := VRs.freeze (r.step s).refl h e
  refine ⟨F2, ⟨fun a o h q n => s.keep a o h q n, fun a o q => k1 a o (s.sub a o q), fun a o q => ?_, k3, s.row.mono k1 k5, k4⟩, hA⟩
  rcases k2 a o q with z | z
  · exact s.new a o z
  · exact .inr z
theorem tup_some {fa : Env → M (List RV)} {mk : List D → RV} {ρ : Env} {rs rs' : RS} {x : RV} (hf : (bnd (fa ρ) fun xs => bnd (lft (toDs xs)) fun ds => if ds.length ≤ 100000 then ret (mk ds) else fail) rs = some (x, rs')) :
    ∃ xs ds, fa ρ rs = some (xs, rs') ∧ toDs xs = some ds ∧ ds.length ≤ 100000 ∧ x = mk ds := by
  obtain ⟨xs, rs1, e1, hf1⟩ := bnd_some hf
  obtain ⟨ds, rs2, e2, hf2⟩ := bnd_some hf1
  obtain ⟨e3, q3⟩ := lft_some e2
  subst q3
  by_cases hl : ds.length ≤ 100000
  · rw [if_pos hl] at hf2
    obtain ⟨e4, q4⟩ := ret_some hf2
    subst e4 q4
    exact ⟨xs, ds, e1, e3, hl, rfl⟩
  · rw [if_neg hl] at hf2
    cases hf2
theorem de_tup {fa : Env → M (List RV)} {x1} (h : DA X R es t fa) : DE X R (.Tuple es x1 pos) (tTup t) (eTup fa) := ⟨pe_tup h.pa, fun L E ρ σ F H rs x rs' Q r hf k => by
  obtain ⟨xs, ds, e1, e3, hl, rfl⟩ := tup_some hf
  refine h.sem L E ρ σ F H rs xs rs' _ r e1 fun vs F1 H1 s1 hv => ?_
  obtain ⟨F2, s2, hA⟩ := frozen r s1 hv e3
  refine ⟨by rw [hA.len]; exact sz_of hl, fun pp hp => ?_⟩
  have s4 := Step.new_tup (vs := vs) (r.step s2).refl hp
  exact k _ _ _ (s2.trans r.row s4) (.tup (.inl (.inl upd_same)) (Dp.monoA s4.sub _ _ hA))⟩
theorem de_lst {fa : Env → M (List RV)} (h : DA X R es t fa) : DE X R (.List es pos) (tLst t) (eLst fa) := ⟨pe_lst h.pa, fun L E ρ σ F H rs x rs' Q r hf k => by
  obtain ⟨xs, ds, e1, e3, hl, rfl⟩ := tup_some hf
  refine h.sem L E ρ σ F H rs xs rs' _ r e1 fun vs F1 H1 s1 hv => ?_
  obtain ⟨F2, s2, hA⟩ := frozen r s1 hv e3
  refine ⟨by rw [hA.len]; exact sz_of hl, fun pp hp => ?_⟩
  obtain ⟨s4, hF, hR⟩ := Step.new_lst (vs := vs) (r.step s2).refl hp
  exact k _ _ _ (s2.trans r.row s4) ⟨pp, _, rfl, upd_same, s2.back r.row hp, hF, hR, hA⟩⟩

def CSem (K : PySem.W.Frag) (R : RA) (r : List V → Hp → VK → Prop) (g : List RV → Option RV) : Prop :=
  ∀ (F H0 H : Hp) (rs : RS) (vs : List V) (xs : List RV) (z : RV) (Q : VK), Step K R rs F H F H → VRs K R F H0 H vs xs → g xs = some z →
    (∀ v F' H', Step K R rs F H F' H' → VR K R F' H H' v z → Q v H') → r vs H Q
def eCall (g : List RV → Option RV) (fa : Env → M (List RV)) : Env → M RV := fun ρ => bnd (fa ρ) fun xs => lft (g xs)
theorem esem_call {r : List V → Hp → VK → Prop} {g : List RV → Option RV} {fa : Env → M (List RV)} (hr : CSem K R r g) (ha : ASem K R t fa) : ESem K R (tCB r t) (eCall g fa) := fun L E ρ σ F H rs x rs' Q r0 hf k => by
  obtain ⟨xs, rs1, e1, hf1⟩ := bnd_some hf
  obtain ⟨e2, q2⟩ := lft_some hf1
  subst q2
  refine ha L E ρ σ F H rs xs _ _ r0 e1 fun vs F1 H1 s1 h1 => ?_
  exact hr F1 H H1 _ vs xs x Q (r0.step s1).refl h1 e2 fun v F2 H2 s2 h2 => k v F2 H2 (s1.trans r0.row s2) (h2.older fun a q => s1.back r0.row q)
theorem de_callB {id : String} {x : Str} {r : List V → Hp → VK → Prop} {g : List RV → Option RV} {fa : Env → M (List RV)} (hc : CallR X (.builtin id) r) (hr : CSem X.K R r g) (hg : Gl X x) (hm : X.mg x = none) (hv : bootBuiltins x = some (.builtin id)) (ha : DA X R (e :: es) t fa)
    (hn : x ≠ "__name__" := by decide) (hdb : (x == ("__debug__" : Str)) = false := by decide) (he : starEach (e :: es) X.env = (false, eval e X.env) :: starEach es X.env := by rfl) (hpl : (backTo pos (starEach es X.env)).any (·.1) = false := by rfl) :
    DE X R (.Call (.Name x p) (e :: es) [] pos) (tCB r t) (eCall g fa) := ⟨pe_callB hc hg hm hv ha.pa hn hdb he hpl, esem_call hr ha.sem⟩
theorem de_callTy {T : String} {x : Str} {r : List V → Hp → VK → Prop} {g : List RV → Option RV} {fa : Env → M (List RV)} (hc : CallR X (.type T) r) (hr : CSem X.K R r g) (hg : Gl X x) (hm : X.mg x = none) (hv : bootBuiltins x = some (.type T)) (ha : DA X R (e :: es) t fa)
    (hn : x ≠ "__name__" := by decide) (hdb : (x == ("__debug__" : Str)) = false := by decide) (he : starEach (e :: es) X.env = (false, eval e X.env) :: starEach es X.env := by rfl) (hpl : (backTo pos (starEach es X.env)).any (·.1) = false := by rfl) :
    DE X R (.Call (.Name x p) (e :: es) [] pos) (tCB r t) (eCall g fa) := ⟨pe_callTy hc hg hm hv ha.pa hn hdb he hpl, esem_call hr ha.sem⟩
end
end DV

namespace DV
open PySem L2
section
variable {X : Cx} {R : RA} {K : PySem.W.Frag} {a b c e : Expr} {es : List Expr} {ta tb tc te : TE} {tt uu : TT} {t u : TA} {f g h : Env → M RV} {p q pos : Pos}
/-- a function of one argument -/
def c1 (k : RV → Option RV) : List RV → Option RV
  | [x] => k x
  | _ => none
def c2 (k : RV → RV → Option RV) : List RV → Option RV
  | [x, y] => k x y
  | _ => none
theorem c1_some {k : RV → Option RV} {xs : List RV} {z : RV} (h : c1 k xs = some z) : ∃ x, xs = [x] ∧ k x = some z := by
  unfold c1 at h
  split at h
  · exact ⟨_, rfl, h⟩
  · cases h
theorem VRs.one {F H0 H : Hp} {vs : List V} {x : RV} (h : VRs K R F H0 H vs [x]) : ∃ v, vs = [v] ∧ VR K R F H0 H v x := by
  cases h with
  | cons h1 h2 => cases h2; exact ⟨_, rfl, h1⟩
theorem VRs.two {F H0 H : Hp} {vs : List V} {x y : RV} (h : VRs K R F H0 H vs [x, y]) : ∃ v w, vs = [v, w] ∧ VR K R F H0 H v x ∧ VR K R F H0 H w y := by
  cases h with
  | cons h1 h2 =>
    cases h2 with
    | cons h2 h3 => cases h3; exact ⟨_, _, rfl, h1, h2⟩

def gLen : List RV → Option RV := c1 fun x => (items x).map fun ds => .d (.int ds.length)
abbrev rLen (K : PySem.W.Frag) : List V → Hp → VK → Prop := fun xs H Q => ∃ p ys, xs = [.ref p] ∧ (SqL K H p ys ∨ SqT K H p ys) ∧ Q (.int ys.length) H
theorem csem_len : CSem K R (rLen K) gLen := fun F H0 H rs vs xs z Q s hv e kk => by
  obtain ⟨x, rfl, ee⟩ := c1_some e
  clear e
  have e := ee
  clear ee
  obtain ⟨v, rfl, hx⟩ := hv.one
  cases e1 : items x with
  | none => rw [e1] at e; cases e
  | some ds =>
    rw [e1] at e
    cases e
    obtain ⟨a, ws, rfl, h1, h2⟩ := hx.items s e1
    refine ⟨a, ws, rfl, h1, ?_⟩
    rw [h2.len]
    exact kk _ F H s (Dp.int _)
def gList : List RV → Option RV := c1 fun x => (items x).map fun ds => .n ds
abbrev rList (K : PySem.W.Frag) : List V → Hp → VK → Prop := fun xs H Q => ∃ p ys, xs = [.ref p] ∧ (SqL K H p ys ∨ SqT K H p ys) ∧ ∀ l, H l = none → Q (.ref l) (upd H l (.lst ys))
theorem csem_list : CSem K R (rList K) gList := fun F H0 H rs vs xs z Q s hv e kk => by
  obtain ⟨x, rfl, ee⟩ := c1_some e
  clear e
  have e := ee
  clear ee
  obtain ⟨v, rfl, hx⟩ := hv.one
  cases e1 : items x with
  | none => rw [e1] at e; cases e
  | some ds =>
    rw [e1] at e
    cases e
    obtain ⟨a, ws, rfl, h1, h2⟩ := hx.items s e1
    refine ⟨a, ws, rfl, h1, fun l hl => ?_⟩
    obtain ⟨s4, hF, hR⟩ := Step.new_lst (vs := ws) s hl
    exact kk _ F _ s4 ⟨l, _, rfl, upd_same, hl, hF, hR, h2⟩
def gTuple : List RV → Option RV := c1 fun x => (items x).map fun ds => .d (.tuple ds)
abbrev rTuple (K : PySem.W.Frag) : List V → Hp → VK → Prop := fun xs H Q => ∃ p ys, xs = [.ref p] ∧ ((SqL K H p ys ∧ ∀ l, H l = none → Q (.ref l) (upd H l (.tup ys))) ∨ (SqT K H p ys ∧ Q (.ref p) H))
theorem csem_tuple : CSem K R (rTuple K) gTuple := fun F H0 H rs vs xs z Q s hv e kk => by
  obtain ⟨x, rfl, ee⟩ := c1_some e
  clear e
  have e := ee
  clear ee
  obtain ⟨v, rfl, hx⟩ := hv.one
  have go : ∀ (a : Addr) (ws : List V) (ds : List D), v = .ref a → SqL K H a ws → DpAll K F ws ds → z = .d (.tuple ds) → rTuple K [v] H Q := fun a ws ds ev h1 h2 ez => by
    subst ev ez
    refine ⟨a, ws, rfl, .inl ⟨h1, fun l hl => ?_⟩⟩
    have s4 := Step.new_tup (vs := ws) s hl
    exact kk _ _ _ s4 (.tup (.inl (.inl upd_same)) (Dp.monoA s4.sub _ _ h2))
  cases x with
  | d y =>
    cases y with
    | tuple ds =>
      cases e
      cases hx with
      | @tup a ws _ h1 h2 => exact ⟨a, ws, rfl, .inr ⟨ex_t (s.fin _) h1, kk _ F H s (.tup h1 h2)⟩⟩
    | list ds =>
      cases e
      cases hx with
      | @lst a ws _ h1 h2 => exact go a ws ds rfl (ex_l (s.fin _) h1) h2 rfl
    | none => cases e
    | bool _ => cases e
    | int _ => cases e
    | str _ => cases e
    | dict _ => cases e
  | b ds =>
    cases e
    obtain ⟨a, ws, ev, h1, h2⟩ := hx.lst (.inl rfl)
    exact go a ws ds ev (.inl (.inl h1)) h2 rfl
  | n ds =>
    cases e
    obtain ⟨a, ws, ev, h1, h2⟩ := hx.lst (.inr rfl)
    exact go a ws ds ev (.inl (.inl h1)) h2 rfl
  | gb _ => cases e
  | gn _ => cases e
  | row => cases e
def gAbs : List RV → Option RV := c1 fun x => (asInt x).map fun i => .d (.int (if i < 0 then -i else i))
def gInt : List RV → Option RV := c1 fun x => match asInt x with
  | some i => some (.d (.int i))
  | none => (asBool x).map fun b => .d (.int (if b = true then 1 else 0))
theorem csem_int : CSem K R (fun xs H Q => (∃ i, xs = [.int i] ∧ Q (.int i) H) ∨ ∃ k, xs = [.bl k] ∧ Q (.int (if k then 1 else 0)) H) gInt := fun F H0 H rs vs xs z Q s hv e kk => by
  obtain ⟨x, rfl, ee⟩ := c1_some e
  clear e
  have e := ee
  clear ee
  obtain ⟨v, rfl, hx⟩ := hv.one
  cases e1 : asInt x with
  | none =>
    rw [e1] at e
    cases e2 : asBool x with
    | none => rw [e2] at e; cases e
    | some b =>
      rw [e2] at e
      cases e
      have := hx.bool e2
      subst this
      exact .inr ⟨b, rfl, kk _ F H s (Dp.int _)⟩
  | some i =>
    rw [e1] at e
    cases e
    have := hx.int e1
    subst this
    exact .inl ⟨i, rfl, kk _ F H s (Dp.int _)⟩
def gMax2 : List RV → Option RV := c2 fun x y => match asInt x, asInt y with
  | some i, some j => some (.d (.int (if j > i then j else i)))
  | _, _ => none
def gMin2 : List RV → Option RV := c2 fun x y => match asInt x, asInt y with
  | some i, some j => some (.d (.int (if j < i then j else i)))
  | _, _ => none
def gSum : List RV → Option RV := c1 fun x => match items x with
  | some ds => (intsOf ds).map fun js => .d (.int js.sum)
  | none => none
def boolsOf : List D → Option (List Bool)
  | [] => some []
  | .bool i :: r => match boolsOf r with
    | some js => some (i :: js)
    | none => none
  | _ => none
theorem boolsV {F : Hp} : ∀ {vs : List V} {ds : List D} {js : List Bool}, DpAll K F vs ds → boolsOf ds = some js → vs = js.map V.bl
  | _, _, _, .nil, h => by cases h; rfl
  | _, d :: r, js, .cons h1 h2, h => by
    cases d with
    | bool i =>
      unfold boolsOf at h
      cases e : boolsOf r with
      | none => rw [e] at h; cases h
      | some ks =>
        rw [e] at h
        cases h
        cases h1
        rw [boolsV h2 e]
        rfl
    | none => unfold boolsOf at h; cases h
    | int _ => unfold boolsOf at h; cases h
    | str _ => unfold boolsOf at h; cases h
    | list _ => unfold boolsOf at h; cases h
    | tuple _ => unfold boolsOf at h; cases h
    | dict _ => unfold boolsOf at h; cases h
def gBools (k : List Bool → Bool) : List RV → Option RV := c1 fun x => match asLst x with
  | some ds => (boolsOf ds).map fun js => .d (.bool (k js))
  | none => none
abbrev gAll := gBools fun js => js.all id
abbrev gAny := gBools fun js => js.any id
theorem csem_bools (k : List Bool → Bool) : CSem K R (fun vs H Q => ∃ (a : Addr) (bs : List Bool), vs = [V.ref a] ∧ SqL K H a (bs.map V.bl) ∧ Q (.bl (k bs)) H) (gBools k) := fun F H0 H rs vs xs z Q s hv e kk => by
  obtain ⟨x, rfl, ee⟩ := c1_some e
  clear e
  have e := ee
  clear ee
  obtain ⟨v, rfl, hx⟩ := hv.one
  cases e1 : asLst x with
  | none => rw [e1] at e; cases e
  | some ds =>
    simp only [e1] at e
    cases e2 : boolsOf ds with
    | none => rw [e2] at e; cases e
    | some js =>
      rw [e2] at e
      cases e
      obtain ⟨a, ws, rfl, h1, h2⟩ := hx.lst (asLst_some e1)
      have hw := boolsV h2 e2
      subst hw
      exact ⟨a, js, rfl, .inl (.inl h1), kk _ F H s (.bl _)⟩

def tyD : D → String
  | .none => "NoneType"
  | .bool _ => "bool"
  | .int _ => "int"
  | .str _ => "str"
  | .list _ => "list"
  | .tuple _ => "tuple"
  | .dict _ => "dict"
inductive TyT where | int | bool | tuple | list | str
  deriving DecidableEq
def TyT.nm : TyT → String
  | .int => "int" | .bool => "bool" | .tuple => "tuple" | .list => "list" | .str => "str"
def isT : TyT → D → Bool
  | .int, .int _ => true
  | .int, .bool _ => true
  | .bool, .bool _ => true
  | .tuple, .tuple _ => true
  | .list, .list _ => true
  | .str, .str _ => true
  | _, _ => false
theorem kit_isT (T : TyT) (d : D) : kitB (tyD d) T.nm = some (isT T d) := by
  cases T <;> cases d <;> (simp only [tyD, TyT.nm, isT]; decide +kernel)
theorem dptyx {H : Hp} {v : V} {d : D} (h : Dp K H v d) : TyX K H v (.type (tyD d)) := by
  cases h with
  | non => exact .base .non
  | bl b => exact .base (.bl b)
  | int i => exact .base (.int i)
  | str x => exact .base (.str x)
  | lst hs _ =>
    rcases hs with (hs | ⟨o, hs⟩) | ⟨o, its, n, hk, hc, _⟩
    · exact .base (.lst hs)
    · exact .base (.frz hs)
    · exact .kList hk hc
  | tup hs _ =>
    rcases hs with (hs | ⟨o, hs⟩) | ⟨o, its, n, hk, hc, _⟩
    · exact .base (.tup hs)
    · exact .fTuple hs
    · exact .kTuple hk hc
def eIsT (T : TyT) (f : Env → M RV) : Env → M RV := fun ρ => bnd (f ρ) fun x => bnd (lft (viewD x)) fun d => ret (.d (.bool (isT T d)))
theorem de_isT (T : TyT) {x : Str} {p2 : Pos} (hg : Gl X "isinstance") (hm : X.mg "isinstance" = none) (hgT : Gl X x) (hmT : X.mg x = none) (hT : bootBuiltins x = some (.type T.nm)) (he : DE X R e te f)
    (hn : x ≠ "__name__" := by decide) (hdb : (x == ("__debug__" : Str)) = false := by decide)
    (he1 : starEach [e, .Name x p2] X.env = (false, eval e X.env) :: starEach [.Name x p2] X.env := by rfl) (he2 : starEach [.Name x p2] X.env = (false, eval (.Name x p2) X.env) :: starEach [] X.env := by rfl) (hpl : (backTo pos (starEach [.Name x p2] X.env)).any (·.1) = false := by rfl) :
    DE X R (.Call (.Name "isinstance" p) [e, .Name x p2] [] pos) (tCB (rIsi X.K) (tCons te (tCons (tC (.ty T.nm)) tNil))) (eIsT T f) :=
  ⟨pe_callB call_isi hg hm PyProof.Rows.boot_isinstance (pa_cons he.pe (pa_cons (pe_bltn hgT hmT hT rfl hn hdb) pa_nil he2) he1) (by decide) (by decide) he1 hpl, fun L E ρ σ F H rs z rs' Q r hf k => by
    obtain ⟨v, rs1, e1, hf1⟩ := bnd_some hf
    obtain ⟨d, rs2, e2, hf2⟩ := bnd_some hf1
    obtain ⟨e3, q3⟩ := lft_some e2
    obtain ⟨e4, q4⟩ := ret_some hf2
    subst e4 q4 q3
    refine he.sem L E ρ σ F H rs v _ _ r e1 fun v1 F1 H1 s1 h1 => ?_
    exact ⟨v1, .ty T.nm, .type (tyD d), .type T.nm, isT T d, rfl, .ty _, dptyx (h1.view (r.step s1).refl e3), kit_ty (kit_isT T d), k _ F1 H1 s1 (.bl _)⟩⟩
end
end DV

namespace DV
open PySem L2

inductive Out where
  | nx (ρ : Env) | rt (r : RV) | bk (ρ : Env) | ct (ρ : Env)
section
variable {X : Cx} {K : PySem.W.Frag} {R : RA} {L : Nat → Option (Addr × HO)} {E F F' H H' : Hp} {ρ ρ' : Env} {σ σ' : L2.St} {rs rs' : RS}

/-- what is never changed grows by things that the entry did not know -/
structure FStep (R : RA) (E F F' : Hp) : Prop where
  sub : ∀ a o, F a = some o → F' a = some o
  new : ∀ a o, F' a = some o → F a = some o ∨ (E a = none ∧ some a ≠ R.row)
theorem FStep.refl : FStep R E F F := ⟨fun _ _ h => h, fun _ _ h => .inl h⟩
theorem FStep.trans {F1 F2 : Hp} (a : FStep R E F F1) (b : FStep R E F1 F2) : FStep R E F F2 := ⟨fun c o h => b.sub c o (a.sub c o h), fun c o h => by
  rcases b.new c o h with z | z
  · exact a.new c o z
  · exact .inr z⟩
theorem FStep.ofStep (r : Rel K R L E F ρ σ rs H) (s : Step K R rs' F H F' H') : FStep R E F F' := ⟨s.sub, fun a o h => by
  rcases s.new a o h with z | z
  · exact .inl z
  · refine .inr ⟨?_, fun q => ?_⟩
    · cases e : E a with
      | none => rfl
      | some u => rw [r.ex a u e] at z; cases z
    · rw [s.rF a q.symm] at h; cases h⟩
/-- a smaller entry -/
theorem FStep.less {E' : Hp} (s : FStep R E' F F') (h : ∀ a, E' a = none → E a = none) : FStep R E F F' := ⟨s.sub, fun a o q => by
  rcases s.new a o q with z | ⟨z1, z2⟩
  · exact .inl z
  · exact .inr ⟨h a z1, z2⟩⟩
/-- what is handed back -/
def VRet (K : PySem.W.Frag) (R : RA) (E F H : Hp) (v : V) : RV → Prop
  | .d x => Dp K F v x
  | .n ds => ∃ a vs, v = .ref a ∧ H a = some (.lst vs) ∧ E a = none ∧ F a = none ∧ some a ≠ R.row ∧ DpAll K F vs ds
  | .gn c => ∃ a u, v = .ref a ∧ H a = some u ∧ E a = none ∧ F a = none ∧ some a ≠ R.row ∧ DictR K F a u c
  | _ => False
structure Ret (K : PySem.W.Frag) (R : RA) (rs' : RS) (E F F' H' : Hp) (v : V) (x : RV) : Prop where
  fs : FStep R E F F'
  ex : ∀ a o, E a = some o → H' a = some o
  fr : ∀ a o, F' a = some o → H' a = some o
  row : RowOk K R rs' F' H'
  rF : ∀ r, R.row = some r → F' r = none
  val : VRet K R E F' H' v x
def Post (K : PySem.W.Frag) (R : RA) (L : Nat → Option (Addr × HO)) (E F : Hp) (D : Ends) (rs' : RS) : Out → Prop
  | .nx ρ' => ∀ σ' F' H', FStep R E F F' → Rel K R L E F' ρ' σ' rs' H' → D.nx σ' H'
  | .bk ρ' => ∀ σ' F' H', FStep R E F F' → Rel K R L E F' ρ' σ' rs' H' → D.bk σ' H'
  | .ct ρ' => ∀ σ' F' H', FStep R E F F' → Rel K R L E F' ρ' σ' rs' H' → D.ct σ' H'
  | .rt x => ∀ v F' H', Ret K R rs' E F F' H' v x → D.rt v H'
def SSem (K : PySem.W.Frag) (R : RA) (t : TS) (g : Env → M Out) : Prop :=
  ∀ (L : Nat → Option (Addr × HO)) (E F : Hp) (ρ : Env) (σ : L2.St) (rs : RS) (H : Hp) (o : Out) (rs' : RS) (D : Ends), Rel K R L E F ρ σ rs H → g ρ rs = some (o, rs') → Post K R L E F D rs' o → t D σ H
structure DS (X : Cx) (R : RA) (st : Stmt) (t : TS) (g : Env → M Out) : Prop where
  ps : PS X st t
  sem : SSem X.K R t g
structure DSs (X : Cx) (R : RA) (st : List Stmt) (t : TS) (g : Env → M Out) : Prop where
  ps : PSs X st t
  sem : SSem X.K R t g
/-- behind a first part -/
theorem Post.after {F1 : Hp} {D : Ends} {o : Out} (h : Post K R L E F D rs' o) (s : FStep R E F F1) : Post K R L E F1 D rs' o := by
  cases o with
  | nx ρ' => exact fun σ' F' H' f r => h σ' F' H' (s.trans f) r
  | bk ρ' => exact fun σ' F' H' f r => h σ' F' H' (s.trans f) r
  | ct ρ' => exact fun σ' F' H' f r => h σ' F' H' (s.trans f) r
  | rt x => exact fun v F' H' q => h v F' H' ⟨s.trans q.fs, q.ex, q.fr, q.row, q.rF, q.val⟩

theorem Rel.put (r : Rel K R L E F ρ σ rs H) (i : Nat) (sv : SV) (v : V) (h : SR K R L E F H i v sv) (ho : ∀ a, sv.ow → v = .ref a → ∀ j y, j ≠ i → ρ[j]? = some (some y) → y.ow → σ[j]? = some (some (V.ref a)) → False) :
    Rel K R L E F (ρ.set i (some sv)) (σ.set i (some v)) rs H where
  len := by rw [List.length_set, List.length_set]; exact r.len
  ex := r.ex
  ent := r.ent
  fr := r.fr
  row := r.row
  rE := r.rE
  lk := r.lk
  sl := fun j sw e => by
    by_cases hj : j = i
    · subst hj
      have hl : j < ρ.length := by
        have := (List.getElem?_eq_some_iff.mp e).1
        rw [List.length_set] at this
        exact this
      rw [List.getElem?_set_self hl] at e
      cases e
      exact ⟨v, List.getElem?_set_self (by rw [← r.len]; exact hl), h⟩
    · rw [List.getElem?_set_ne (Ne.symm hj)] at e
      obtain ⟨w, e1, q⟩ := r.sl j sw e
      exact ⟨w, by rw [List.getElem?_set_ne (Ne.symm hj)]; exact e1, q⟩
  own := fun j k a x y e1 e2 ox oy e3 e4 => by
    by_cases hj : j = i
    · by_cases hk : k = i
      · rw [hj, hk]
      · exfalso
        subst hj
        have hl : j < ρ.length := by
          have := (List.getElem?_eq_some_iff.mp e1).1
          rw [List.length_set] at this
          exact this
        rw [List.getElem?_set_self hl] at e1
        rw [List.getElem?_set_self (by rw [← r.len]; exact hl)] at e3
        rw [List.getElem?_set_ne (Ne.symm hk)] at e2 e4
        exact ho a (by cases e1; exact ox) (Option.some.inj (Option.some.inj e3)) k y hk e2 oy e4
    · by_cases hk : k = i
      · exfalso
        subst hk
        have hl : k < ρ.length := by
          have := (List.getElem?_eq_some_iff.mp e2).1
          rw [List.length_set] at this
          exact this
        rw [List.getElem?_set_self hl] at e2
        rw [List.getElem?_set_self (by rw [← r.len]; exact hl)] at e4
        rw [List.getElem?_set_ne (Ne.symm hj)] at e1 e3
        exact ho a (by cases e2; exact oy) (Option.some.inj (Option.some.inj e4)) j x hj e1 ox e3
      · rw [List.getElem?_set_ne (Ne.symm hj)] at e1 e3
        rw [List.getElem?_set_ne (Ne.symm hk)] at e2 e4
        exact r.own j k a x y e1 e2 ox oy e3 e4
/-- data, or a new list, into a name -/
def toS : RV → Option SV
  | .d x => some (.d x)
  | .n ds => some (.o ds)
  | .gn c => some (.g c)
  | _ => none
/-- what is of one's own stands in the heap -/
theorem Rel.own_at (r : Rel K R L E F ρ σ rs H) {j : Nat} {y : SV} {a : Addr} (e : ρ[j]? = some (some y)) (oy : y.ow) (ea : σ[j]? = some (some (V.ref a))) : ∃ u, H a = some u ∧ E a = none ∧ F a = none ∧ some a ≠ R.row := by
  obtain ⟨w, e1, q⟩ := r.sl j _ e
  rw [ea] at e1
  cases e1
  cases y with
  | d x => cases oy
  | k x => cases oy
  | un => cases oy
  | ex _ _ => cases oy
  | fn _ => cases oy
  | lm => cases oy
  | m _ => cases oy
  | row => cases oy
  | o ds =>
    obtain ⟨b, vs, q1, q2, q3, q4, q5, _⟩ := q
    cases q1
    exact ⟨_, q2, q3, q4, q5⟩
  | g c =>
    obtain ⟨b, vs, q1, q2, q3, q4, q5, _⟩ := q
    cases q1
    exact ⟨_, q2, q3, q4, q5⟩
theorem Rel.store {H0 : Hp} (r0 : Rel K R L E F ρ σ rs H0) {F1 H1 : Hp} (s : Step K R rs' F H0 F1 H1) {v : V} {x : RV} {sv : SV} (hv : VR K R F1 H0 H1 v x) (e : toS x = some sv) (i : Nat) : Rel K R L E F1 (ρ.set i (some sv)) (σ.set i (some v)) rs' H1 := by
  cases x with
  | d y =>
    cases e
    exact (r0.step s).put i _ v hv (fun a q => nomatch q)
  | n ds =>
    cases e
    obtain ⟨a, vs, rfl, h1, h0, h2, h3, h4⟩ := hv
    have hE : E a = none := by
      cases q : E a with
      | none => rfl
      | some u => rw [r0.ex a u q] at h0; cases h0
    refine (r0.step s).put i _ _ ⟨a, vs, rfl, h1, hE, h2, h3, h4⟩ fun b q1 q2 j y hj e1 oy e2 => ?_
    cases q2
    obtain ⟨u, q, _⟩ := r0.own_at e1 oy e2
    rw [h0] at q
    cases q
  | gb _ => cases e
  | gn c =>
    cases e
    obtain ⟨a, u, rfl, h1, h0, h2, h3, h4⟩ := hv
    have hE : E a = none := by
      cases q : E a with
      | none => rfl
      | some u => rw [r0.ex a u q] at h0; cases h0
    refine (r0.step s).put i _ _ ⟨a, u, rfl, h1, hE, h2, h3, h4⟩ fun b q1 q2 j y hj e1 oy e2 => ?_
    cases q2
    obtain ⟨u, q, _⟩ := r0.own_at e1 oy e2
    rw [h0] at q
    cases q
  | b ds => cases e
  | row => cases e
theorem Rel.forget (r : Rel K R L E F ρ σ rs H) (i : Nat) : Rel K R L E F (ρ.set i none) σ rs H where
  len := by rw [List.length_set]; exact r.len
  ex := r.ex
  ent := r.ent
  fr := r.fr
  row := r.row
  rE := r.rE
  lk := r.lk
  sl := fun j sw e => by
    by_cases hj : j = i
    · subst hj
      have hl : j < ρ.length := by
        have := (List.getElem?_eq_some_iff.mp e).1
        rw [List.length_set] at this
        exact this
      rw [List.getElem?_set_self hl] at e
      cases e
    · rw [List.getElem?_set_ne (Ne.symm hj)] at e
      exact r.sl j sw e
  own := fun j k a x y e1 e2 ox oy e3 e4 => by
    have hj : j ≠ i := by
      rintro rfl
      have hl : j < ρ.length := by
        have := (List.getElem?_eq_some_iff.mp e1).1
        rw [List.length_set] at this
        exact this
      rw [List.getElem?_set_self hl] at e1
      cases e1
    have hk : k ≠ i := by
      rintro rfl
      have hl : k < ρ.length := by
        have := (List.getElem?_eq_some_iff.mp e2).1
        rw [List.length_set] at this
        exact this
      rw [List.getElem?_set_self hl] at e2
      cases e2
    rw [List.getElem?_set_ne (Ne.symm hj)] at e1
    rw [List.getElem?_set_ne (Ne.symm hk)] at e2
    exact r.own j k a x y e1 e2 ox oy e3 e4
/-- a list of one's own is changed -/
theorem Rel.change (r : Rel K R L E F ρ σ rs H) {i : Nat} {ds es : List D} {a : Addr} {ws : List V} (e : ρ[i]? = some (some (SV.o ds))) (ea : σ[i]? = some (some (V.ref a))) (hd : DpAll K F ws es) :
    Rel K R L E F (ρ.set i (some (.o es))) σ rs (upd H a (.lst ws)) := by
  obtain ⟨v, e1, b, vs, q1, q2, q3, q4, q5, q6⟩ := r.sl i _ e
  rw [ea] at e1
  cases e1
  cases q1
  have hl : i < ρ.length := (List.getElem?_eq_some_iff.mp e).1
  refine ⟨by rw [List.length_set]; exact r.len, fun b o z => ?_, r.ent, fun b o z => ?_, ⟨fun q eq => ?_, tabs_upd r.row.tab (.inr ⟨_, q2⟩), r.row.fnt⟩, r.rE, r.lk, fun j sw ej => ?_, fun j k c x y e1 e2 ox oy e3 e4 => ?_⟩
  · rw [upd_ne (fun zz => by rw [zz, q3] at z; cases z)]
    exact r.ex b o z
  · rw [upd_ne (fun zz => by rw [zz, q4] at z; cases z)]
    exact r.fr b o z
  · obtain ⟨c, k1, k2, k3⟩ := r.row.at_ q eq
    exact ⟨c, by rw [upd_ne (fun zz => q5 (by rw [← zz, eq]))]; exact k1, k2, k3⟩
  · by_cases hj : j = i
    · subst hj
      rw [List.getElem?_set_self hl] at ej
      cases ej
      exact ⟨_, ea, a, ws, rfl, upd_same, q3, q4, q5, hd⟩
    · rw [List.getElem?_set_ne (Ne.symm hj)] at ej
      obtain ⟨w, k1, k2⟩ := r.sl j sw ej
      refine ⟨w, k1, ?_⟩
      cases sw with
      | d x => exact k2
      | k x => exact k2
      | un => exact trivial
      | ex _ _ => exact k2
      | fn _ => exact k2
      | lm => exact k2
      | m _ => exact k2
      | row => exact k2
      | o x =>
        obtain ⟨c, us, rfl, z1, z2, z3, z4, z5⟩ := k2
        have hca : c ≠ a := by
          rintro rfl
          exact hj (r.own j i c _ _ ej e trivial trivial k1 ea)
        exact ⟨c, us, rfl, by rw [upd_ne hca]; exact z1, z2, z3, z4, z5⟩
      | g x =>
        obtain ⟨c, us, rfl, z1, z2, z3, z4, z5⟩ := k2
        have hca : c ≠ a := by
          rintro rfl
          exact hj (r.own j i c _ _ ej e trivial trivial k1 ea)
        exact ⟨c, us, rfl, by rw [upd_ne hca]; exact z1, z2, z3, z4, z5⟩
  · by_cases hj : j = i
    · by_cases hk : k = i
      · rw [hj, hk]
      · subst hj
        rw [List.getElem?_set_ne (Ne.symm hk)] at e2
        exact r.own j k c _ y e e2 trivial oy e3 e4
    · rw [List.getElem?_set_ne (Ne.symm hj)] at e1
      by_cases hk : k = i
      · subst hk
        exact r.own j k c x _ e1 e ox trivial e3 e4
      · rw [List.getElem?_set_ne (Ne.symm hk)] at e2
        exact r.own j k c x y e1 e2 ox oy e3 e4
variable {st : Stmt} {rest sa sb : List Stmt} {t u : TS} {e c : Expr} {te : TE} {tt : TT} {pos : Pos} {f : Env → M RV} {x : Env → M Bool} {g h : Env → M Out}
def sNil : Env → M Out := fun ρ => ret (.nx ρ)
def sSeq (g h : Env → M Out) : Env → M Out := fun ρ => bnd (g ρ) fun o => match o with
  | .nx ρ' => h ρ'
  | o => ret o
theorem ssem_nil : SSem K R tNext sNil := fun L E F ρ σ rs H o rs' D r hf k => by
  obtain ⟨e1, q1⟩ := ret_some hf
  subst e1 q1
  exact k σ F H FStep.refl r
theorem ssem_seq (h1 : SSem K R t g) (h2 : SSem K R u h) : SSem K R (tSeq t u) (sSeq g h) := fun L E F ρ σ rs H o rs' D r hf k => by
  obtain ⟨o1, rs1, e1, hf1⟩ := bnd_some hf
  refine h1 L E F ρ σ rs H o1 rs1 { D with nx := u D } r e1 ?_
  cases o1 with
  | nx ρ1 =>
    exact fun σ1 F1 H1 s1 r1 => h2 L E F1 ρ1 σ1 rs1 H1 o rs' D r1 hf1 (k.after s1)
  | rt x =>
    obtain ⟨e2, q2⟩ := ret_some hf1
    subst e2 q2
    exact k
  | bk ρ1 =>
    obtain ⟨e2, q2⟩ := ret_some hf1
    subst e2 q2
    exact k
  | ct ρ1 =>
    obtain ⟨e2, q2⟩ := ret_some hf1
    subst e2 q2
    exact k
theorem dss_nil : DSs X R [] tNext sNil := ⟨pss_nil, ssem_nil⟩
theorem dss_one (h1 : DS X R st t g) : DSs X R [st] t g := ⟨pss_one h1.ps, h1.sem⟩
theorem dss_cons (h1 : DS X R st t g) (h2 : DSs X R rest u h) : DSs X R (st :: rest) (tSeq t u) (sSeq g h) := ⟨pss_cons h1.ps h2.ps, ssem_seq h1.sem h2.sem⟩
def sNever : Env → M Out := fun _ => fail
theorem dss_never {sts : List Stmt} : DSs X R sts tNever sNever := ⟨pss_never, fun L E F ρ σ rs H o rs' D r hf k => nomatch hf⟩
def sIf (x : Env → M Bool) (g h : Env → M Out) : Env → M Out := fun ρ => bnd (x ρ) fun b => if b = true then g ρ else h ρ
theorem ds_if (hc : DT X R c tt x) (ha : DSs X R sa t g) (hb : DSs X R sb u h) : DS X R (.If c sa sb pos) (tIfS tt t u) (sIf x g h) := ⟨ps_if hc.pt ha.ps hb.ps, fun L E F ρ σ rs H o rs' D r hf k => by
  obtain ⟨b, rs1, e1, hf1⟩ := bnd_some hf
  refine hc.sem L E ρ σ F H rs b rs1 _ r e1 fun F1 H1 s1 => ?_
  cases b with
  | true =>
    rw [if_pos rfl] at hf1 ⊢
    exact ha.sem L E F1 ρ σ rs1 H1 o rs' D (r.step s1) hf1 (k.after (FStep.ofStep r s1))
  | false =>
    rw [if_neg Bool.false_ne_true] at hf1 ⊢
    exact hb.sem L E F1 ρ σ rs1 H1 o rs' D (r.step s1) hf1 (k.after (FStep.ofStep r s1))⟩

def toRet : RV → Option RV
  | .d x => some (.d x)
  | .n ds => some (.n ds)
  | .gn c => some (.gn c)
  | _ => none
def sRet (f : Env → M RV) : Env → M Out := fun ρ => bnd (f ρ) fun x => bnd (lft (toRet x)) fun y => ret (.rt y)
theorem Ret.of {F1 H1 : Hp} (r : Rel K R L E F ρ σ rs H) (s : Step K R rs' F H F1 H1) {v : V} {x y : RV} (hv : VR K R F1 H H1 v x) (e : toRet x = some y) : Ret K R rs' E F F1 H1 v y := by
  have r1 := r.step s
  refine ⟨FStep.ofStep r s, r1.ex, r1.fr, r1.row, s.rF, ?_⟩
  cases x with
  | d y => cases e; exact hv
  | n ds =>
    cases e
    obtain ⟨a, vs, rfl, h1, h0, h2, h3, h4⟩ := hv
    refine ⟨a, vs, rfl, h1, ?_, h2, h3, h4⟩
    cases q : E a with
    | none => rfl
    | some u => rw [r.ex a u q] at h0; cases h0
  | gb _ => cases e
  | gn c =>
    cases e
    obtain ⟨a, vs, rfl, h1, h0, h2, h3, h4⟩ := hv
    refine ⟨a, vs, rfl, h1, ?_, h2, h3, h4⟩
    cases q : E a with
    | none => rfl
    | some u => rw [r.ex a u q] at h0; cases h0
  | b ds => cases e
  | row => cases e
theorem ds_ret (he : DE X R e te f) : DS X R (.Return (some e) pos) (tRet te) (sRet f) := ⟨ps_ret he.pe, fun L E F ρ σ rs H o rs' D r hf k => by
  obtain ⟨x, rs1, e1, hf1⟩ := bnd_some hf
  obtain ⟨y, rs2, e2, hf2⟩ := bnd_some hf1
  obtain ⟨e3, q3⟩ := lft_some e2
  obtain ⟨e4, q4⟩ := ret_some hf2
  subst e4 q4 q3
  exact he.sem L E ρ σ F H rs x _ _ r e1 fun v F1 H1 s1 h1 => k v F1 H1 (Ret.of r s1 h1 e3)⟩
/-- return of a name: a list of one's own is handed over -/
def vown (ρ : Env) (i : Nat) : Option RV := match ρ[i]? with
  | some (some (.d x)) => some (.d x)
  | some (some (.o ds)) => some (.n ds)
  | some (some (.g c)) => some (.gn c)
  | _ => none
def sRetV (i : Nat) : Env → M Out := fun ρ => bnd (lft (vown ρ i)) fun y => ret (.rt y)
theorem ds_retV (i : Nat) {x : Str} {p : Pos} (hN : X.N[i]? = some x := by rfl) (hv : Vis X.env.scope x := by first | exact Or.inl rfl | exact Or.inr (Or.inl rfl) | exact Or.inr (Or.inr rfl)) (hd : (x == ("__debug__" : Str)) = false := by decide)
    (hcd : (x == ("__classdict__" : Str)) = false := by decide) : DS X R (.Return (some (.Name x p)) pos) (tRet (tVar i)) (sRetV i) := ⟨ps_ret (pe_var hN hv hd hcd), fun L E F ρ σ rs H o rs' D r hf k => by
  obtain ⟨y, rs2, e2, hf2⟩ := bnd_some hf
  obtain ⟨e3, q3⟩ := lft_some e2
  obtain ⟨e4, q4⟩ := ret_some hf2
  subst e4 q4 q3
  unfold vown at e3
  cases e : ρ[i]? with
  | none => rw [e] at e3; cases e3
  | some sv =>
    cases sv with
    | none => rw [e] at e3; cases e3
    | some sv =>
      rw [e] at e3
      obtain ⟨v, ev, q⟩ := r.sl i sv e
      refine ⟨v, ev, k v F H ⟨FStep.refl, r.ex, r.fr, r.row, fun q e => (r.rE q e).2, ?_⟩⟩
      cases sv with
      | d x => cases e3; exact q
      | o ds =>
        cases e3
        obtain ⟨a, vs, e1, h1, h2, h3, h4, h5⟩ := q
        exact ⟨a, vs, e1, h1, h2, h3, h4, h5⟩
      | g c =>
        cases e3
        obtain ⟨a, vs, e1, h1, h2, h3, h4, h5⟩ := q
        exact ⟨a, vs, e1, h1, h2, h3, h4, h5⟩
      | k ds => cases e3
      | un => cases e3
      | ex _ _ => cases e3
      | fn _ => cases e3
      | lm => cases e3
      | m _ => cases e3
      | row => cases e3⟩
def sDrop (f : Env → M RV) : Env → M Out := fun ρ => bnd (f ρ) fun _ => ret (.nx ρ)
theorem ds_expr (he : DE X R e te f) (hs : swapsWith e none pos.line X.env = pure false := by rfl) : DS X R (.Expr e pos) (tDrop te) (sDrop f) := ⟨ps_expr he.pe hs, fun L E F ρ σ rs H o rs' D r hf k => by
  obtain ⟨x, rs1, e1, hf1⟩ := bnd_some hf
  obtain ⟨e4, q4⟩ := ret_some hf1
  subst e4 q4
  exact he.sem L E ρ σ F H rs x _ _ r e1 fun v F1 H1 s1 h1 => k σ F1 H1 (FStep.ofStep r s1) (r.step s1)⟩
def sSet (i : Nat) (f : Env → M RV) : Env → M Out := fun ρ => bnd (f ρ) fun x => bnd (lft (toS x)) fun sv => ret (.nx (ρ.set i (some sv)))
theorem ds_set {i : Nat} {x : Str} {pos' : Pos} (hN : X.N.Nodup) (hi : X.N[i]? = some x) (hx : Loc X.env.scope x) (he : DE X R e te f) (hs : swapsWith e (some (.Name x pos')) pos.line X.env = pure false := by rfl)
    (hf : X.fn x = true ∨ X.env.scope.names.lookup x = some .local := by first | exact .inl rfl | exact .inr rfl | assumption) : DS X R (.Assign [.Name x pos'] e pos) (tAsg te (gName i)) (sSet i f) := ⟨ps_set hN hi hx he.pe hs hf, fun L E F ρ σ rs H o rs' D r hf k => by
  obtain ⟨x, rs1, e1, hf1⟩ := bnd_some hf
  obtain ⟨sv, rs2, e2, hf2⟩ := bnd_some hf1
  obtain ⟨e3, q3⟩ := lft_some e2
  obtain ⟨e4, q4⟩ := ret_some hf2
  subst e4 q4 q3
  exact he.sem L E ρ σ F H rs x _ _ r e1 fun v F1 H1 s1 h1 => k _ F1 H1 (FStep.ofStep r s1) (Rel.store r s1 h1 e3 i)⟩
/-- y = x, both names: a list of one's own moves -/
def sMove (i j : Nat) : Env → M Out := fun ρ => match ρ[j]? with
  | some (some (.d x)) => ret (.nx (ρ.set i (some (.d x))))
  | some (some (.o ds)) => ret (.nx ((ρ.set j none).set i (some (.o ds))))
  | some (some (.g c)) => ret (.nx ((ρ.set j none).set i (some (.g c))))
  | _ => fail
/-- x += e, ints -/
def sAug (i : Nat) (k : Int → Int → Int) (f : Env → M RV) : Env → M Out := fun ρ => bnd (lft (vget ρ i)) fun y => bnd (lft (asInt y)) fun a => bnd (f ρ) fun x => bnd (lft (asInt x)) fun b => ret (.nx (ρ.set i (some (.d (.int (k a b))))))
end
end DV

namespace DV
open PySem L2
section
variable {X : Cx} {K : PySem.W.Frag} {R : RA} {L : Nat → Option (Addr × HO)} {E F F' H H' : Hp} {ρ ρ' : Env} {σ σ' : L2.St} {rs rs' : RS}

/-- other slots than S stand as they stood -/
structure OffEq (S : List Nat) (σ σ' : L2.St) : Prop where
  len : σ'.length = σ.length
  at_ : ∀ j, j ∉ S → σ'[j]? = σ[j]?
theorem OffEq.refl {S : List Nat} : OffEq S σ σ := ⟨rfl, fun _ _ => rfl⟩
theorem OffEq.trans {S : List Nat} {σ1 σ2 : L2.St} (a : OffEq S σ σ1) (b : OffEq S σ1 σ2) : OffEq S σ σ2 := ⟨b.len.trans a.len, fun j h => (b.at_ j h).trans (a.at_ j h)⟩
theorem OffEq.mono {S S' : List Nat} (a : OffEq S σ σ') (h : ∀ i ∈ S, i ∈ S') : OffEq S' σ σ' := ⟨a.len, fun j hj => a.at_ j fun z => hj (h j z)⟩
theorem wipe_at (σ : L2.St) : ∀ (vs : List Nat) (j : Nat), (wipe σ vs)[j]? = if j ∈ vs then (if j < σ.length then some none else none) else σ[j]?
  | [], j => by simp [wipe]
  | v :: vs, j => by
    unfold wipe
    by_cases hj : j = v
    · subst hj
      rw [if_pos List.mem_cons_self]
      by_cases hl : j < σ.length
      · rw [List.getElem?_set_self (by rw [wipe_length]; exact hl), if_pos hl]
      · rw [if_neg hl, List.getElem?_eq_none]
        rw [List.length_set, wipe_length]
        omega
    · rw [List.getElem?_set_ne (Ne.symm hj), wipe_at σ vs j]
      have e : (j ∈ v :: vs) = (j ∈ vs) := by simp [hj]
      simp only [e]
theorem wipe_off {S : List Nat} (o : OffEq S σ σ') {vs : List Nat} (h : ∀ i ∈ S, i ∈ vs) : wipe σ' vs = wipe σ vs := by
  apply List.ext_getElem?
  intro j
  rw [wipe_at, wipe_at, o.len]
  by_cases hj : j ∈ vs
  · rw [if_pos hj, if_pos hj]
  · rw [if_neg hj, if_neg hj]
    exact o.at_ j fun z => hj (h j z)
def wipeE (ρ : Env) : List Nat → Env
  | [] => ρ
  | v :: vs => (wipeE ρ vs).set v none
theorem Rel.forget2 (r : Rel K R L E F ρ σ rs H) (i : Nat) : Rel K R L E F (ρ.set i none) (σ.set i none) rs H := by
  have q := r.forget i
  refine ⟨by rw [List.length_set, List.length_set]; exact r.len, q.ex, q.ent, q.fr, q.row, q.rE, q.lk, fun j sw e => ?_, fun j k a x y e1 e2 ox oy e3 e4 => ?_⟩
  · have hj : j ≠ i := by
      rintro rfl
      have hl : j < ρ.length := by
        have := (List.getElem?_eq_some_iff.mp e).1
        rw [List.length_set] at this
        exact this
      rw [List.getElem?_set_self hl] at e
      cases e
    obtain ⟨v, e1, h1⟩ := q.sl j sw e
    exact ⟨v, by rw [List.getElem?_set_ne (Ne.symm hj)]; exact e1, h1⟩
  · have hj : j ≠ i := by
      rintro rfl
      have hl : j < ρ.length := by
        have := (List.getElem?_eq_some_iff.mp e1).1
        rw [List.length_set] at this
        exact this
      rw [List.getElem?_set_self hl] at e1
      cases e1
    have hk : k ≠ i := by
      rintro rfl
      have hl : k < ρ.length := by
        have := (List.getElem?_eq_some_iff.mp e2).1
        rw [List.length_set] at this
        exact this
      rw [List.getElem?_set_self hl] at e2
      cases e2
    rw [List.getElem?_set_ne (Ne.symm hj)] at e3
    rw [List.getElem?_set_ne (Ne.symm hk)] at e4
    exact q.own j k a x y e1 e2 ox oy e3 e4
theorem Rel.wipe (r : Rel K R L E F ρ σ rs H) : ∀ vs : List Nat, Rel K R L E F (wipeE ρ vs) (L2.wipe σ vs) rs H
  | [] => r
  | v :: vs => (Rel.wipe r vs).forget2 v
def GSem (K : PySem.W.Frag) (R : RA) (S : List Nat) (t : TG) (h : D → Env → Option Env) : Prop :=
  ∀ (L : Nat → Option (Addr × HO)) (E F : Hp) (ρ : Env) (σ : L2.St) (rs : RS) (H : Hp) (v : V) (x : D) (ρ' : Env) (Q : L2.St → Hp → Prop), Rel K R L E F ρ σ rs H → Dp K F v x → h x ρ = some ρ' →
    (∀ σ', Rel K R L E F ρ' σ' rs H → OffEq S σ σ' → Q σ' H) → t v σ H Q
def GsSem (K : PySem.W.Frag) (R : RA) (S : List Nat) (t : TGs) (h : List D → Env → Option Env) : Prop :=
  ∀ (L : Nat → Option (Addr × HO)) (E F : Hp) (ρ : Env) (σ : L2.St) (rs : RS) (H : Hp) (v : List V) (x : List D) (ρ' : Env) (Q : L2.St → Hp → Prop), Rel K R L E F ρ σ rs H → DpAll K F v x → h x ρ = some ρ' →
    (∀ σ', Rel K R L E F ρ' σ' rs H → OffEq S σ σ' → Q σ' H) → t v σ H Q
structure DG (X : Cx) (R : RA) (S : List Nat) (tg : Expr) (t : TG) (h : D → Env → Option Env) : Prop where
  pg : PG X tg t
  sem : GSem X.K R S t h
structure DGs (X : Cx) (R : RA) (S : List Nat) (tg : List Expr) (t : TGs) (h : List D → Env → Option Env) : Prop where
  pg : PGs X tg t
  sem : GsSem X.K R S t h
variable {S S' : List Nat} {tg it elt e c : Expr} {es ifs : List Expr} {g : TG} {gs : TGs} {hg : D → Env → Option Env} {hgs : List D → Env → Option Env} {pos p : Pos} {st : Stmt} {body : List Stmt} {tb : TS} {tt : TT} {te : TE} {ta : TA} {wi : TI}
def gNm (i : Nat) : D → Env → Option Env := fun x ρ => some (ρ.set i (some (.d x)))
theorem dg_name {i : Nat} {x : Str} (hN : X.N.Nodup) (hi : X.N[i]? = some x) (hx : Loc X.env.scope x) (hf : X.fn x = true ∨ X.env.scope.names.lookup x = some .local := by first | exact .inl rfl | exact .inr rfl | assumption) : DG X R [i] (.Name x pos) (gName i) (gNm i) :=
  ⟨pg_name hN hi hx hf, fun L E F ρ σ rs H v x ρ' Q r hd e k => by
    cases e
    refine k _ (r.put i _ v hd (fun a q => nomatch q)) ⟨List.length_set, fun j hj => ?_⟩
    rw [List.getElem?_set_ne]
    exact fun z => hj (by simp [z])⟩
def gNone : List D → Env → Option Env := fun xs ρ => match xs with
  | [] => some ρ
  | _ => none
def gMore (h : D → Env → Option Env) (hs : List D → Env → Option Env) : List D → Env → Option Env := fun xs ρ => match xs with
  | x :: xs => match h x ρ with
    | some ρ1 => hs xs ρ1
    | none => none
  | [] => none
theorem dgs_nil : DGs X R [] [] gNil gNone := ⟨pgs_nil, fun L E F ρ σ rs H v x ρ' Q r hd e k => by
  cases hd with
  | nil =>
    cases e
    exact ⟨rfl, k σ r OffEq.refl⟩
  | cons _ _ => cases e⟩
theorem dgs_cons (h1 : DG X R S e g hg) (h2 : DGs X R S' es gs hgs) (hs : (assignEach (e :: es) X.env).map (·.2) = assign e X.env :: (assignEach es X.env).map (·.2) := by rfl) : DGs X R (S ++ S') (e :: es) (gCons g gs) (gMore hg hgs) :=
  ⟨pgs_cons h1.pg h2.pg hs, fun L E F ρ σ rs H v x ρ' Q r hd e k => by
    cases hd with
    | nil => cases e
    | @cons v vs d ds hv ht =>
      have e' : (match hg d ρ with | some ρ1 => hgs ds ρ1 | none => none) = some ρ' := e
      cases e1 : hg d ρ with
      | none => rw [e1] at e'; cases e'
      | some ρ1 =>
        rw [e1] at e'
        refine ⟨v, vs, rfl, h1.sem L E F ρ σ rs H v d ρ1 _ r hv e1 fun σ1 r1 o1 => ?_⟩
        exact h2.sem L E F ρ1 σ1 rs H vs ds ρ' Q r1 ht e' fun σ2 r2 o2 => k σ2 r2 ((o1.mono fun i h => List.mem_append_left _ h).trans (o2.mono fun i h => List.mem_append_right _ h))⟩
def gTupF (n : Nat) (hs : List D → Env → Option Env) : D → Env → Option Env := fun x ρ => match x with
  | .tuple ds => if ds.length = n then hs ds ρ else none
  | _ => none
theorem dg_tup {k n : Nat} (hc : X.calm = true) (h : DGs X R S es gs hgs) (hn : (assignEach es X.env).length = n := by rfl) (hst : (assignEach es X.env).findIdx? (·.1) = none := by rfl) : DG X R S (.Tuple es k pos) (gTup X.K n gs) (gTupF n hgs) :=
  ⟨pg_tup hc h.pg hn hst, fun L E F ρ σ rs H v x ρ' Q r hd e k => by
    cases x with
    | tuple ds =>
      have e' : (if ds.length = n then hgs ds ρ else none) = some ρ' := e
      by_cases hl : ds.length = n
      · rw [if_pos hl] at e'
        cases hd with
        | @tup a vs _ h1 h2 =>
          exact ⟨a, vs, rfl, ex_t (r.fr _) h1, by rw [h2.len, hl], h.sem L E F ρ σ rs H vs ds ρ' Q r h2 e' k⟩
      · rw [if_neg hl] at e'; cases e'
    | none => cases e
    | bool _ => cases e
    | int _ => cases e
    | str _ => cases e
    | list _ => cases e
    | dict _ => cases e⟩
/-- a, b = e -/
def sTup (f : Env → M RV) (h : D → Env → Option Env) : Env → M Out := fun ρ => bnd (f ρ) fun x => match x with
  | .d y => bnd (lft (h y ρ)) fun ρ' => ret (.nx ρ')
  | _ => fail
/-- a, b = x, y with two plain local names -/
def sPar (i j : Nat) (fa : Env → M (List RV)) : Env → M Out := fun ρ => bnd (fa ρ) fun xs => match xs with
  | [x, y] => bnd (lft (toS x)) fun sx => bnd (lft (toS y)) fun sy => ret (.nx ((ρ.set i (some sx)).set j (some sy)))
  | _ => fail
theorem Rel.store2 {H0 : Hp} (r0 : Rel K R L E F ρ σ rs H0) {ρ1 : Env} {σ1 : L2.St} {F1 H1 : Hp} (r1 : Rel K R L E F1 ρ1 σ1 rs' H1) {v : V} {x : RV} {sv : SV} (hv : VR K R F1 H0 H1 v x) (e : toS x = some sv) (i : Nat)
    (apart : ∀ a u, v = .ref a → H1 a = some u → H0 a = none → ∀ j y, j ≠ i → ρ1[j]? = some (some y) → y.ow → σ1[j]? = some (some (V.ref a)) → False) : Rel K R L E F1 (ρ1.set i (some sv)) (σ1.set i (some v)) rs' H1 := by
  cases x with
  | d y =>
    cases e
    exact r1.put i _ v hv (fun a q => nomatch q)
  | n ds =>
    cases e
    obtain ⟨a, vs, rfl, h1, h0, h2, h3, h4⟩ := hv
    have hE : E a = none := by
      cases q : E a with
      | none => rfl
      | some u => rw [r0.ex a u q] at h0; cases h0
    refine r1.put i _ _ ⟨a, vs, rfl, h1, hE, h2, h3, h4⟩ fun b q1 q2 j fs hj e1 oy e2 => ?_
    cases q2
    exact apart a _ rfl h1 h0 j fs hj e1 oy e2
  | gb _ => cases e
  | gn c =>
    cases e
    obtain ⟨a, vs, rfl, h1, h0, h2, h3, h4⟩ := hv
    have hE : E a = none := by
      cases q : E a with
      | none => rfl
      | some u => rw [r0.ex a u q] at h0; cases h0
    refine r1.put i _ _ ⟨a, vs, rfl, h1, hE, h2, h3, h4⟩ fun b q1 q2 j fs hj e1 oy e2 => ?_
    cases q2
    exact apart a _ rfl h1 h0 j fs hj e1 oy e2
  | b ds => cases e
  | row => cases e
theorem ds_par {i j : Nat} {x y : Str} {a b : Expr} {fa fb : Env → M RV} {tA tB : TE} {px py pt : Pos} {kt k2 pt2} (hc : X.calm = true) (hN : X.N.Nodup) (hi : X.N[i]? = some x) (hj : X.N[j]? = some y) (hij : i ≠ j)
    (hx : X.env.scope.names.lookup x = some .local) (hy : X.env.scope.names.lookup y = some .local) (ha : DE X R a tA fa) (hb : DE X R b tB fb)
    (hw : swappedStores [.Tuple [.Name x px, .Name y py] kt pt] (.Tuple [a, b] k2 pt2) X.env = pure (some [x, y])) (hs : swapsWithSole [.Tuple [.Name x px, .Name y py] kt pt] (.Tuple [a, b] k2 pt2) pos.line X.env = pure false := by rfl)
    (hq1 : starEach [a, b] X.env = (false, eval a X.env) :: starEach [b] X.env := by rfl) (hq2 : starEach [b] X.env = (false, eval b X.env) :: starEach [] X.env := by rfl) :
    DS X R (.Assign [.Tuple [.Name x px, .Name y py] kt pt] (.Tuple [a, b] k2 pt2) pos) (tPar i j (tCons tA (tCons tB tNil))) (sPar i j (aCons fa (aCons fb aNil))) :=
  ⟨ps_par hc hN hi hj hij hx hy (pa_cons ha.pe (pa_cons hb.pe pa_nil hq2) hq1) hw hs, fun L E F ρ σ rs H o rs' D r hf k => by
    obtain ⟨xs, rs1, e1, hf1⟩ := bnd_some hf
    obtain ⟨x1, rs2, e2, hf2⟩ := bnd_some e1
    obtain ⟨ys, rs3, e3, hf3⟩ := bnd_some hf2
    obtain ⟨x2, rs4, e4, hf4⟩ := bnd_some e3
    obtain ⟨zs, rs5, e5, hf5⟩ := bnd_some hf4
    obtain ⟨e6, q6⟩ := ret_some e5
    obtain ⟨e7, q7⟩ := ret_some hf5
    obtain ⟨e8, q8⟩ := ret_some hf3
    subst e6 q6 e7 q7 e8 q8
    obtain ⟨sx, rs6, e9, hf6⟩ := bnd_some hf1
    obtain ⟨e10, q10⟩ := lft_some e9
    obtain ⟨sy, rs7, e11, hf7⟩ := bnd_some hf6
    obtain ⟨e12, q12⟩ := lft_some e11
    obtain ⟨e13, q13⟩ := ret_some hf7
    subst e13 q13 q12 q10
    refine ha.sem L E ρ σ F H rs x1 rs2 _ r e2 fun v1 F1 H1 s1 h1 => ?_
    refine hb.sem L E ρ σ F1 H1 rs2 x2 _ _ (r.step s1) e4 fun v2 F2 H2 s2 h2 => ?_
    refine ⟨v1, v2, rfl, ?_⟩
    have s12 := s1.trans r.row s2
    have r1 := Rel.store r s12 (h1.step s2) e10 i
    refine k _ F2 H2 (FStep.ofStep r s12) (Rel.store2 (r.step s1) r1 h2 e12 j fun a u ev hl h0 m y hm q1 oy q2 => ?_)
    subst ev
    by_cases hmi : m = i
    · subst hmi
      have hl : m < ρ.length := by
        have := (List.getElem?_eq_some_iff.mp q1).1
        rw [List.length_set] at this
        exact this
      rw [List.getElem?_set_self (by rw [← r.len]; exact hl)] at q2
      have q3 := Option.some.inj (Option.some.inj q2)
      subst q3
      rw [List.getElem?_set_self hl] at q1
      cases x1 with
      | d y => cases e10; cases q1; cases oy
      | n y =>
        obtain ⟨_, _, e, hh, _⟩ := h1
        cases e
        rw [h0] at hh
        cases hh
      | gb _ => cases e10
      | gn y =>
        obtain ⟨_, _, e, hh, _⟩ := h1
        cases e
        rw [h0] at hh
        cases hh
      | b y => cases e10
      | row => cases e10
    · rw [List.getElem?_set_ne (Ne.symm hmi)] at q1 q2
      obtain ⟨w, q, _⟩ := (r.step s1).own_at q1 oy q2
      rw [h0] at q
      cases q⟩
end
end DV

namespace DV
open PySem L2
section
variable {X : Cx} {K : PySem.W.Frag} {R : RA} {L : Nat → Option (Addr × HO)} {E F F' H H' : Hp} {ρ ρ' : Env} {σ σ' : L2.St} {rs rs' : RS}

/-- what must stand while it is walked: things that are new, the caller's, or one list of one's own (lk) -/
def PinOk (K : PySem.W.Frag) (R : RA) (E F' H H' : Hp) (ρ : Env) (σ : L2.St) (lk : Option Nat) (P : Hp) : Prop := ∀ a o, P a = some o → H' a = some o ∧ some a ≠ R.row ∧ Fx K a o ∧
  ((H a = none ∧ F' a = none) ∨ E a = some o ∨ ∃ i ds, lk = some i ∧ ρ[i]? = some (some (SV.o ds)) ∧ σ[i]? = some (some (V.ref a)))
def YOk (K : PySem.W.Frag) (F' : Hp) (its : List D) (Y : Nat → Hp → V → Hp → Prop) : Prop := ∀ (i : Nat) (H1 : Hp) (v : V) (H2 F1 : Hp), i < its.length → (∀ a o, F' a = some o → F1 a = some o) → (∀ a o, F1 a = some o → H1 a = some o) → Y i H1 v H2 →
  ∃ x, its[i]? = some x ∧ ((H2 = H1 ∧ Dp K F1 v x) ∨ (∃ T vs ds, v = .ref T ∧ H1 T = none ∧ H2 = upd H1 T (.tup vs) ∧ x = .tuple ds ∧ DpAll K F1 vs ds) ∨
    ∃ T2 T vs ds j, v = .ref T ∧ H1 T2 = none ∧ T ≠ T2 ∧ H1 T = none ∧ H2 = upd (upd H1 T2 (.tup vs)) T (.tup [.int j, .ref T2]) ∧ x = .tuple [.int j, .tuple ds] ∧ DpAll K F1 vs ds)
def IterOk (K : PySem.W.Frag) (R : RA) (E : Hp) (ρ : Env) (σ : L2.St) (H F' H' : Hp) (J : It) (its : List D) (lk : Option Nat) : Prop :=
  ∃ (G : Hp → Prop) (Y : Nat → Hp → V → Hp → Prop) (P : Hp), Walk J its.length G Y ∧ PinOk K R E F' H H' ρ σ lk P ∧ (∀ H2, (∀ a o, P a = some o → H2 a = some o) → (∀ a o, F' a = some o → H2 a = some o) → G H2) ∧ YOk K F' its Y
def ISem (K : PySem.W.Frag) (R : RA) (wi : TI) (f : Env → M (List D × Option Nat)) : Prop :=
  ∀ (L : Nat → Option (Addr × HO)) (E : Hp) (ρ : Env) (σ : L2.St) (F H : Hp) (rs : RS) (its : List D) (lk : Option Nat) (rs' : RS) (Rq : It → Hp → Prop), Rel K R L E F ρ σ rs H → f ρ rs = some ((its, lk), rs') →
    (∀ J F' H', Step K R rs' F H F' H' → IterOk K R E ρ σ H F' H' J its lk → Rq J H') → wi σ H Rq
structure DI (X : Cx) (R : RA) (tg it : Expr) (wi : TI) (f : Env → M (List D × Option Nat)) : Prop where
  pi : PI X tg it wi
  sem : ISem X.K R wi f

def lockE (ρ : Env) : Option Nat → Env
  | none => ρ
  | some i => match ρ[i]? with
    | some (some (.o ds)) => ρ.set i (some (.k ds))
    | _ => ρ
def unlockE (ρ ρ' : Env) : Option Nat → Env
  | none => ρ'
  | some i => match ρ[i]?, ρ'[i]? with
    | some (some (.o ds)), some (some (.k _)) => ρ'.set i (some (.o ds))
    | _, _ => ρ'
theorem unlock_none {i : Nat} (h : ∀ ds, ρ[i]? ≠ some (some (SV.o ds))) : unlockE ρ ρ' (some i) = ρ' := by
  show (match ρ[i]?, ρ'[i]? with | some (some (.o ds)), some (some (.k _)) => ρ'.set i (some (.o ds)) | _, _ => ρ') = ρ'
  split
  · rename_i e _
    exact absurd e (h _)
  · rfl
theorem lock_none {i : Nat} (h : ∀ ds, ρ[i]? ≠ some (some (SV.o ds))) : lockE ρ (some i) = ρ := by
  show (match ρ[i]? with | some (some (.o ds)) => ρ.set i (some (.k ds)) | _ => ρ) = ρ
  split
  · rename_i e
    exact absurd e (h _)
  · rfl
def addH (P E : Hp) : Hp := fun a => match P a with
  | some o => some o
  | none => E a
theorem addH_fx {P E : Hp} (h1 : ∀ a o, P a = some o → Fx K a o) (h2 : ∀ a o, E a = some o → Fx K a o) : ∀ a o, addH P E a = some o → Fx K a o := fun a o h => by
  unfold addH at h
  cases e : P a with
  | none => rw [e] at h; exact h2 a o h
  | some u => rw [e] at h; cases h; exact h1 a _ e
theorem addH_none {P E : Hp} {a : Addr} (h : addH P E a = none) : P a = none ∧ E a = none := by
  unfold addH at h
  cases e : P a with
  | none => rw [e] at h; exact ⟨rfl, h⟩
  | some o => rw [e] at h; cases h
theorem addH_of {P E : Hp} {a : Addr} (h1 : P a = none) (h2 : E a = none) : addH P E a = none := by
  unfold addH; rw [h1]; exact h2
/-- without a lock of one's own -/
theorem Rel.pin0 (r0 : Rel K R L E F ρ σ rs H) (s : Step K R rs' F H F' H') {lk : Option Nat} {P : Hp} (p : PinOk K R E F' H H' ρ σ lk P) (hn : ∀ i ds, lk = some i → ρ[i]? ≠ some (some (SV.o ds))) :
    Rel K R L (addH P E) F' ρ σ rs' H' := by
  have r1 := r0.step s
  have hex : ∀ a o, addH P E a = some o → H' a = some o := fun a o e => by
    unfold addH at e
    cases q : P a with
    | none => rw [q] at e; exact r1.ex a o e
    | some u => rw [q] at e; cases e; exact (p a _ q).1
  refine ⟨r1.len, hex, addH_fx (fun a o e => (p a o e).2.2.1) r1.ent, r1.fr, r1.row, fun q e => ⟨addH_of ?_ (r1.rE q e).1, (r1.rE q e).2⟩, fun i a vs e => ?_, fun i sv e => ?_, r1.own⟩
  · cases z : P q with
    | none => rfl
    | some u => exact absurd e.symm (p q u z).2.1
  · have hE := r1.lk i a vs e
    unfold addH
    cases q : P a with
    | none => exact hE
    | some u =>
      have h1 := (p a u q).1
      rw [r1.ex a _ hE] at h1
      exact h1.symm ▸ rfl
  · obtain ⟨v, e1, q⟩ := r1.sl i sv e
    refine ⟨v, e1, ?_⟩
    cases sv with
    | d x => exact q
    | k ds => exact q
    | un => exact trivial
    | ex _ _ => exact q
    | fn _ => exact q
    | lm => exact q
    | m _ => exact q
    | row => exact q
    | o ds =>
      obtain ⟨a, vs, rfl, h1, h2, h3, h4, h5⟩ := q
      refine ⟨a, vs, rfl, h1, addH_of ?_ h2, h3, h4, h5⟩
      cases z : P a with
      | none => rfl
      | some u =>
        rcases (p a u z).2.2.2 with ⟨z1, _⟩ | z1 | ⟨j, es, z1, z2, _⟩
        · obtain ⟨w, e2, b, ws, e3, k1, _⟩ := r0.sl i _ e
          rw [e1] at e2
          cases e2
          cases e3
          rw [z1] at k1
          cases k1
        · rw [h2] at z1; cases z1
        · exact absurd z2 (hn j es z1)
    | g c =>
      obtain ⟨a, vs, rfl, h1, h2, h3, h4, h5⟩ := q
      refine ⟨a, vs, rfl, h1, addH_of ?_ h2, h3, h4, h5⟩
      cases z : P a with
      | none => rfl
      | some u =>
        rcases (p a u z).2.2.2 with ⟨z1, _⟩ | z1 | ⟨j, es, z1, z2, _⟩
        · obtain ⟨w, k1, _⟩ := r0.own_at e trivial e1
          rw [z1] at k1
          cases k1
        · rw [h2] at z1; cases z1
        · exact absurd z2 (hn j es z1)
theorem Rel.unpin0 {P : Hp} {F2 H2 : Hp} {ρ2 : Env} {σ2 : L2.St} {rs2 : RS} (r1 : Rel K R L E F' ρ σ rs' H') (r2 : Rel K R L (addH P E) F2 ρ2 σ2 rs2 H2) (hPE : ∀ a o, E a = some o → addH P E a = some o) : Rel K R L E F2 ρ2 σ2 rs2 H2 := by
  refine ⟨r2.len, fun a o e => r2.ex a o (hPE a o e), r1.ent, r2.fr, r2.row, fun q e => ⟨(r1.rE q e).1, (r2.rE q e).2⟩, r1.lk, fun i sv e => ?_, r2.own⟩
  obtain ⟨v, e1, q⟩ := r2.sl i sv e
  refine ⟨v, e1, ?_⟩
  cases sv with
  | d x => exact q
  | k ds => exact q
  | un => exact trivial
  | ex _ _ => exact q
  | fn _ => exact q
  | lm => exact q
  | m _ => exact q
  | row => exact q
  | o ds =>
    obtain ⟨a, vs, rfl, h1, h2, h3, h4, h5⟩ := q
    exact ⟨a, vs, rfl, h1, (addH_none h2).2, h3, h4, h5⟩
  | g c =>
    obtain ⟨a, vs, rfl, h1, h2, h3, h4, h5⟩ := q
    exact ⟨a, vs, rfl, h1, (addH_none h2).2, h3, h4, h5⟩
theorem pinE (r0 : Rel K R L E F ρ σ rs H) (s : Step K R rs' F H F' H') {lk : Option Nat} {P : Hp} (p : PinOk K R E F' H H' ρ σ lk P) : ∀ a o, E a = some o → addH P E a = some o := fun a o e => by
  unfold addH
  cases q : P a with
  | none => exact e
  | some u =>
    have h1 := (p a u q).1
    rw [(r0.step s).ex a o e] at h1
    exact h1.symm ▸ rfl
/-- what a loop starts from, and how its end is read -/
structure Pinned (K : PySem.W.Frag) (R : RA) (L : Nat → Option (Addr × HO)) (E F' H' P : Hp) (ρ : Env) (σ : L2.St) (rs' : RS) (lk : Option Nat) (L2 : Nat → Option (Addr × HO)) (E2 : Hp) : Prop where
  rel : Rel K R L2 E2 F' (lockE ρ lk) σ rs' H'
  less : ∀ a, E2 a = none → E a = none
  sub : ∀ a o, E a = some o → E2 a = some o
  pin : ∀ a o, P a = some o → E2 a = some o
  back : ∀ F2 ρ2 σ2 rs2 H2, FStep R E2 F' F2 → Rel K R L2 E2 F2 ρ2 σ2 rs2 H2 → Rel K R L E F2 (unlockE ρ ρ2 lk) σ2 rs2 H2
theorem pinned (r0 : Rel K R L E F ρ σ rs H) (s : Step K R rs' F H F' H') {lk : Option Nat} {P : Hp} (p : PinOk K R E F' H H' ρ σ lk P) : ∃ L2 E2, Pinned K R L E F' H' P ρ σ rs' lk L2 E2 := by
  have r1 := r0.step s
  have plain : (∀ i ds, lk = some i → ρ[i]? ≠ some (some (SV.o ds))) → ∃ L2 E2, Pinned K R L E F' H' P ρ σ rs' lk L2 E2 := fun hn => by
    have h1 : lockE ρ lk = ρ := by
      cases lk with
      | none => rfl
      | some i => exact lock_none fun ds => hn i ds rfl
    have h2 : ∀ ρ2, unlockE ρ ρ2 lk = ρ2 := fun ρ2 => by
      cases lk with
      | none => rfl
      | some i => exact unlock_none fun ds => hn i ds rfl
    refine ⟨L, addH P E, ⟨by rw [h1]; exact r0.pin0 s p hn, fun a e => (addH_none e).2, pinE r0 s p, fun a o e => by unfold addH; rw [e], fun F2 ρ2 σ2 rs2 H2 _ r2 => ?_⟩⟩
    rw [h2]
    exact Rel.unpin0 r1 r2 (pinE r0 s p)
  cases hlk : lk with
  | none =>
    subst hlk
    exact plain fun i ds e => nomatch e
  | some i =>
    by_cases ho : ∃ ds, ρ[i]? = some (some (SV.o ds))
    · obtain ⟨ds, ho⟩ := ho
      subst hlk
      obtain ⟨v, ev, a, vs, rfl, q1, q2, q3, q4, q5⟩ := r1.sl i _ ho
      have hl : i < ρ.length := (List.getElem?_eq_some_iff.mp ho).1
      have elock : lockE ρ (some i) = ρ.set i (some (.k ds)) := by
        show (match ρ[i]? with | some (some (.o ds)) => ρ.set i (some (.k ds)) | _ => ρ) = _
        rw [ho]
      have hPa : ∀ o, P a = some o → o = .lst vs := fun o e => by
        have := (p a o e).1
        rw [q1] at this
        exact (Option.some.inj this).symm
      have hE2 : ∀ b o, upd (addH P E) a (.lst vs) b = some o → H' b = some o := fun b o e => by
        by_cases hb : b = a
        · subst hb; rw [upd_same] at e; rw [q1]; exact e
        · rw [upd_ne hb] at e
          unfold addH at e
          cases z : P b with
          | none => rw [z] at e; exact r1.ex b o e
          | some u => rw [z] at e; cases e; exact (p b _ z).1
      have hsub : ∀ b o, E b = some o → upd (addH P E) a (.lst vs) b = some o := fun b o e => by
        rw [upd_ne (fun z => by rw [z, q2] at e; cases e)]
        exact pinE r0 s p b o e
      refine ⟨fun j => if j = 2 * i then some (a, .lst vs) else L j, upd (addH P E) a (.lst vs), ⟨?_, fun b e => ?_, hsub, fun b o e => ?_, fun F2 ρ2 σ2 rs2 H2 fs r2 => ?_⟩⟩
      · rw [elock]
        refine ⟨by rw [List.length_set]; exact r1.len, hE2, fun b o e => by
          by_cases hb : b = a
          · subst hb; rw [upd_same] at e; cases e; exact .lst
          · rw [upd_ne hb] at e; exact addH_fx (fun a o e => (p a o e).2.2.1) r1.ent b o e, r1.fr, r1.row, fun q e => ⟨?_, (r1.rE q e).2⟩, fun j b ws e => ?_, fun j sv e => ?_, fun j k c xa ya e1 e2 ox oy e3 e4 => ?_⟩
        · rw [upd_ne (fun z => q4 (by rw [← z, e]))]
          refine addH_of ?_ (r1.rE q e).1
          cases z : P q with
          | none => rfl
          | some u => exact absurd e.symm (p q u z).2.1
        · by_cases hj : j = 2 * i
          · have e' : (if j = 2 * i then some (a, .lst vs) else L j) = some (b, ws) := e
            rw [if_pos hj] at e'
            cases e'
            exact upd_same
          · have e' : (if j = 2 * i then some (a, .lst vs) else L j) = some (b, ws) := e
            rw [if_neg hj] at e'
            exact hsub b _ (r1.lk j b ws e')
        · by_cases hj : j = i
          · subst hj
            rw [List.getElem?_set_self hl] at e
            cases e
            exact ⟨_, ev, a, vs, if_pos rfl, rfl, q5⟩
          · rw [List.getElem?_set_ne (Ne.symm hj)] at e
            obtain ⟨w, e1, q⟩ := r1.sl j sv e
            refine ⟨w, e1, ?_⟩
            cases sv with
            | d x => exact q
            | k es =>
              obtain ⟨b, ws, z1, z2, z3⟩ := q
              exact ⟨b, ws, (if_neg (show ¬ 2 * j = 2 * i by omega)).trans z1, z2, z3⟩
            | un => exact trivial
            | ex _ _ => exact q
            | fn _ => exact q
            | lm => exact q
            | m _ =>
              obtain ⟨b, bs, z1, z2⟩ := q
              exact ⟨b, bs, z1, z2.cong fun k => if_neg (show ¬ 2 * k + 1 = 2 * i by omega)⟩
            | row => exact q
            | o es =>
              obtain ⟨b, ws, rfl, z1, z2, z3, z4, z5⟩ := q
              have hba : b ≠ a := by
                rintro rfl
                exact hj (r1.own j i b _ _ e ho trivial trivial e1 ev)
              refine ⟨b, ws, rfl, z1, ?_, z3, z4, z5⟩
              rw [upd_ne hba]
              refine addH_of ?_ z2
              cases z : P b with
              | none => rfl
              | some u =>
                rcases (p b u z).2.2.2 with ⟨y1, _⟩ | y1 | ⟨m, fs, y1, y2, y3⟩
                · obtain ⟨w, k1, _⟩ := r0.own_at e trivial e1
                  rw [y1] at k1
                  cases k1
                · rw [z2] at y1; cases y1
                · cases y1
                  rw [ev] at y3
                  cases y3
                  exact absurd rfl hba
            | g es =>
              obtain ⟨b, ws, rfl, z1, z2, z3, z4, z5⟩ := q
              have hba : b ≠ a := by
                rintro rfl
                exact hj (r1.own j i b _ _ e ho trivial trivial e1 ev)
              refine ⟨b, ws, rfl, z1, ?_, z3, z4, z5⟩
              rw [upd_ne hba]
              refine addH_of ?_ z2
              cases z : P b with
              | none => rfl
              | some u =>
                rcases (p b u z).2.2.2 with ⟨y1, _⟩ | y1 | ⟨m, fs, y1, y2, y3⟩
                · obtain ⟨w, k1, _⟩ := r0.own_at e trivial e1
                  rw [y1] at k1
                  cases k1
                · rw [z2] at y1; cases y1
                · cases y1
                  rw [ev] at y3
                  cases y3
                  exact absurd rfl hba
        · have hj : j ≠ i := by
            rintro rfl
            rw [List.getElem?_set_self hl] at e1
            cases e1
            cases ox
          have hk : k ≠ i := by
            rintro rfl
            rw [List.getElem?_set_self hl] at e2
            cases e2
            cases oy
          exact r1.own j k c xa ya (by rw [List.getElem?_set_ne (Ne.symm hj)] at e1; exact e1) (by rw [List.getElem?_set_ne (Ne.symm hk)] at e2; exact e2) ox oy e3 e4
      · have hba : b ≠ a := by
          rintro rfl
          rw [upd_same] at e
          cases e
        rw [upd_ne hba] at e
        exact (addH_none e).2
      · by_cases hb : b = a
        · subst hb
          rw [upd_same, hPa o e]
        · rw [upd_ne hb]
          unfold addH
          rw [e]
      · have weak : Rel K R (fun j => if j = 2 * i then some (a, .lst vs) else L j) E F2 ρ2 σ2 rs2 H2 → True := fun _ => trivial
        -- slots other than i
        have slot : ∀ (j : Nat) (sv : SV) (v : V), j ≠ i → SR K R (fun j => if j = 2 * i then some (a, .lst vs) else L j) (upd (addH P E) a (.lst vs)) F2 H2 j v sv → SR K R L E F2 H2 j v sv := fun j sv v hj q => by
          cases sv with
          | d x => exact q
          | k es =>
            obtain ⟨b, ws, z1, z2, z3⟩ := q
            exact ⟨b, ws, (if_neg (show ¬ 2 * j = 2 * i by omega)).symm.trans z1, z2, z3⟩
          | un => exact trivial
          | ex _ _ => exact q
          | fn _ => exact q
          | lm => exact q
          | m _ =>
            obtain ⟨b, bs, z1, z2⟩ := q
            exact ⟨b, bs, z1, z2.cong fun k => (if_neg (show ¬ 2 * k + 1 = 2 * i by omega)).symm⟩
          | row => exact q
          | o es =>
            obtain ⟨b, ws, rfl, z1, z2, z3, z4, z5⟩ := q
            refine ⟨b, ws, rfl, z1, ?_, z3, z4, z5⟩
            cases z : E b with
            | none => rfl
            | some u => rw [hsub b u z] at z2; cases z2
          | g es =>
            obtain ⟨b, ws, rfl, z1, z2, z3, z4, z5⟩ := q
            refine ⟨b, ws, rfl, z1, ?_, z3, z4, z5⟩
            cases z : E b with
            | none => rfl
            | some u => rw [hsub b u z] at z2; cases z2
        by_cases hk : ∃ es, ρ2[i]? = some (some (SV.k es))
        · obtain ⟨es, hk⟩ := hk
          have eun : unlockE ρ ρ2 (some i) = ρ2.set i (some (.o ds)) := by
            show (match ρ[i]?, ρ2[i]? with | some (some (.o ds)), some (some (.k _)) => ρ2.set i (some (.o ds)) | _, _ => ρ2) = _
            rw [ho, hk]
          rw [eun]
          have hl2 : i < ρ2.length := (List.getElem?_eq_some_iff.mp hk).1
          obtain ⟨v2, ev2, b, ws, y1, y2, y3⟩ := r2.sl i _ hk
          have y1' : (if 2 * i = 2 * i then some (a, HO.lst vs) else L (2 * i)) = some (b, .lst ws) := y1
          rw [if_pos rfl] at y1'
          cases y1'
          subst y2
          have hEa : upd (addH P E) a (.lst vs) a = some (.lst vs) := upd_same
          have hFa : F2 a = none := by
            cases z : F2 a with
            | none => rfl
            | some u =>
              rcases fs.new a u z with y | ⟨y, _⟩
              · rw [q3] at y; cases y
              · rw [hEa] at y; cases y
          refine ⟨by rw [List.length_set]; exact r2.len, fun b o e => r2.ex b o (hsub b o e), r1.ent, r2.fr, r2.row, fun q e => ⟨(r1.rE q e).1, (r2.rE q e).2⟩, r1.lk, fun j sv e => ?_, fun j k c xa ya e1 e2 ox oy e3 e4 => ?_⟩
          · by_cases hj : j = i
            · subst hj
              rw [List.getElem?_set_self hl2] at e
              cases e
              exact ⟨_, ev2, a, vs, rfl, r2.ex a _ hEa, q2, hFa, q4, Dp.monoA fs.sub _ _ q5⟩
            · rw [List.getElem?_set_ne (Ne.symm hj)] at e
              obtain ⟨w, e1, q⟩ := r2.sl j sv e
              exact ⟨w, e1, slot j sv w hj q⟩
          · have other : ∀ (j : Nat) (x1 : SV), j ≠ i → (ρ2.set i (some (SV.o ds)))[j]? = some (some x1) → x1.ow → σ2[j]? = some (some (V.ref c)) → c ≠ a := fun j x1 hj e1 ox e3 => by
              rw [List.getElem?_set_ne (Ne.symm hj)] at e1
              obtain ⟨u, _, z2, _⟩ := r2.own_at e1 ox e3
              rintro rfl
              rw [hEa] at z2
              cases z2
            by_cases hj : j = i
            · by_cases hk' : k = i
              · rw [hj, hk']
              · exfalso
                subst hj
                rw [ev2] at e3
                cases e3
                exact other k ya hk' e2 oy e4 rfl
            · by_cases hk' : k = i
              · exfalso
                subst hk'
                rw [ev2] at e4
                cases e4
                exact other j xa hj e1 ox e3 rfl
              · rw [List.getElem?_set_ne (Ne.symm hj)] at e1
                rw [List.getElem?_set_ne (Ne.symm hk')] at e2
                exact r2.own j k c xa ya e1 e2 ox oy e3 e4
        · have eun : unlockE ρ ρ2 (some i) = ρ2 := by
            show (match ρ[i]?, ρ2[i]? with | some (some (.o ds)), some (some (.k _)) => ρ2.set i (some (.o ds)) | _, _ => ρ2) = _
            split
            · rename_i e2
              exact absurd ⟨_, e2⟩ hk
            · rfl
          rw [eun]
          refine ⟨r2.len, fun b o e => r2.ex b o (hsub b o e), r1.ent, r2.fr, r2.row, fun q e => ⟨(r1.rE q e).1, (r2.rE q e).2⟩, r1.lk, fun j sv e => ?_, r2.own⟩
          obtain ⟨w, e1, q⟩ := r2.sl j sv e
          by_cases hj : j = i
          · subst hj
            refine ⟨w, e1, ?_⟩
            cases sv with
            | d x => exact q
            | k es => exact absurd ⟨es, e⟩ hk
            | un => exact trivial
            | ex _ _ => exact q
            | fn _ => exact q
            | lm => exact q
            | m _ =>
              obtain ⟨b, bs, z1, z2⟩ := q
              exact ⟨b, bs, z1, z2.cong fun k => (if_neg (show ¬ 2 * k + 1 = 2 * j by omega)).symm⟩
            | row => exact q
            | o es =>
              obtain ⟨b, ws, rfl, z1, z2, z3, z4, z5⟩ := q
              refine ⟨b, ws, rfl, z1, ?_, z3, z4, z5⟩
              cases z : E b with
              | none => rfl
              | some u => rw [hsub b u z] at z2; cases z2
            | g es =>
              obtain ⟨b, ws, rfl, z1, z2, z3, z4, z5⟩ := q
              refine ⟨b, ws, rfl, z1, ?_, z3, z4, z5⟩
              cases z : E b with
              | none => rfl
              | some u => rw [hsub b u z] at z2; cases z2
          · exact ⟨w, e1, slot j sv w hj q⟩
    · subst hlk
      exact plain fun j ds e q => by
        cases e
        exact ho ⟨ds, q⟩
end
end DV

namespace DV
open PySem L2
section
variable {X : Cx} {K : PySem.W.Frag} {R : RA} {L : Nat → Option (Addr × HO)} {E F F' H H' : Hp} {ρ ρ' : Env} {σ σ' : L2.St} {rs rs' : RS}
variable {S S' : List Nat} {tg it elt e c : Expr} {es ifs : List Expr} {g : TG} {gs : TGs} {hg : D → Env → Option Env} {hgs : List D → Env → Option Env} {pos p : Pos} {st : Stmt} {body : List Stmt} {tb : TS} {tt : TT} {te : TE} {ta : TA} {wi : TI}
/-- what a walk yields, as a step -/
theorem YOk.step {its : List D} {Y : Nat → Hp → V → Hp → Prop} (y : YOk K F' its Y) {i : Nat} {H1 H2 F1 : Hp} {v : V} (hi : i < its.length) (h1 : ∀ a o, F' a = some o → F1 a = some o) (s : Step K R rs F1 H1 F1 H1) (hy : Y i H1 v H2) :
    ∃ x F2, its[i]? = some x ∧ Step K R rs F1 H1 F2 H2 ∧ Dp K F2 v x := by
  obtain ⟨x, e, q⟩ := y i H1 v H2 F1 hi h1 s.fin hy
  rcases q with ⟨rfl, hd⟩ | ⟨T, vs, ds, rfl, hT, rfl, rfl, hd⟩ | ⟨T2, T, vs, ds, j, rfl, hT2, hne, hT, rfl, rfl, hd⟩
  · exact ⟨x, F1, e, s, hd⟩
  · have s2 := Step.new_tup (vs := vs) s hT
    exact ⟨_, _, e, s2, .tup (.inl (.inl upd_same)) (Dp.monoA s2.sub _ _ hd)⟩
  · have s2 := Step.new_tup (vs := vs) s hT2
    have hT' : upd H1 T2 (.tup vs) T = none := by rw [upd_ne hne]; exact hT
    have s3 := Step.new_tup (vs := [V.int j, V.ref T2]) (Step.refl s2.fin s2.row s2.rF) hT'
    have s23 := s2.trans s.row s3
    have d2 : Dp K (upd F1 T2 (.tup vs)) (.ref T2) (.tuple ds) := .tup (.inl (.inl upd_same)) (Dp.monoA s2.sub _ _ hd)
    exact ⟨_, _, e, s23, .tup (.inl (.inl upd_same)) (.cons (.int j) (.cons (Dp.mono s3.sub _ _ d2) .nil))⟩

def loopF (tg : D → Env → Option Env) (body : Env → M Out) : List D → Env → M Out
  | [], ρ => ret (.nx ρ)
  | x :: xs, ρ => bnd (lft (tg x ρ)) fun ρ1 => bnd (body ρ1) fun o => match o with
    | .nx ρ2 => loopF tg body xs ρ2
    | .ct ρ2 => loopF tg body xs ρ2
    | .bk ρ2 => ret (.nx ρ2)
    | .rt r => ret (.rt r)
def unlockO (ρ : Env) (lk : Option Nat) : Out → Out
  | .nx ρ' => .nx (unlockE ρ ρ' lk)
  | o => o
def sFor (fi : Env → M (List D × Option Nat)) (tg : D → Env → Option Env) (body : Env → M Out) : Env → M Out := fun ρ =>
  bnd (fi ρ) fun p => bnd (loopF tg body p.1 (lockE ρ p.2)) fun o => ret (unlockO ρ p.2 o)
theorem ssem_for_at {fi : Env → M (List D × Option Nat)} {gb : Env → M Out} (r : Rel K R L E F ρ σ rs H) (hi : ∀ (its : List D) (lk : Option Nat) (rs1 : RS) (Rq : It → Hp → Prop), fi ρ rs = some ((its, lk), rs1) → (∀ J F' H', Step K R rs1 F H F' H' → IterOk K R E ρ σ H F' H' J its lk → Rq J H') → wi σ H Rq)
    (hgs : GSem K R S g hg) (hb : SSem K R tb gb) {o : Out} {rs' : RS} {D : Ends} (hf : sFor fi hg gb ρ rs = some (o, rs')) (k : Post K R L E F D rs' o) : tFor wi g tb D σ H := by
  obtain ⟨⟨its, lk⟩, rs1, e1, hf1⟩ := bnd_some hf
  obtain ⟨o1, rs2, e2, hf2⟩ := bnd_some hf1
  obtain ⟨e3, q3⟩ := ret_some hf2
  subst e3 q3
  refine hi its lk rs1 _ e1 fun J F1 H1 s1 ⟨G, Y, P, wk, pn, hG, hY⟩ => ?_
  obtain ⟨L2, E2, pd⟩ := pinned r s1 pn
  have fs1 := FStep.ofStep r s1
  -- the ends
  have fin : ∀ ρ2 σ2 F2 H2, o1 = .nx ρ2 → FStep R E2 F1 F2 → Rel K R L2 E2 F2 ρ2 σ2 rs' H2 → D.nx σ2 H2 := fun ρ2 σ2 F2 H2 eo fs r2 => by
    subst eo
    exact k σ2 F2 H2 (fs1.trans (fs.less pd.less)) (pd.back F2 ρ2 σ2 _ H2 fs r2)
  have finR : ∀ x v F2 F3 H3, o1 = .rt x → FStep R E2 F1 F2 → Ret K R rs' E2 F2 F3 H3 v x → D.rt v H3 := fun x v F2 F3 H3 eo fs q => by
    subst eo
    refine k v F3 H3 ⟨fs1.trans ((fs.trans q.fs).less pd.less), fun a o e => q.ex a o (pd.sub a o e), q.fr, q.row, q.rF, ?_⟩
    have hv := q.val
    cases x with
    | d y => exact hv
    | n ds =>
      obtain ⟨a, vs, z1, z2, z3, z4⟩ := hv
      exact ⟨a, vs, z1, z2, pd.less a z3, z4⟩
    | gb _ => exact hv.elim
    | gn c =>
      obtain ⟨a, vs, z1, z2, z3, z4⟩ := hv
      exact ⟨a, vs, z1, z2, pd.less a z3, z4⟩
    | b ds => exact hv.elim
    | row => exact hv.elim
  refine for_it wk (fun i σ' H' => ∃ F2 ρ2 rs3, FStep R E2 F1 F2 ∧ Rel K R L2 E2 F2 ρ2 σ' rs3 H' ∧ loopF hg gb (its.drop i) ρ2 rs3 = some (o1, rs')) ⟨F1, _, rs1, FStep.refl, pd.rel, e2⟩
    (fun i σ' H' hi ⟨F2, ρ2, rs3, fs, r2, _⟩ => hG H' (fun a o q => r2.ex a o (pd.pin a o q)) fun a o q => r2.fr a o (fs.sub a o q)) ?_ ?_
  · rintro i v σ' H2 H3 hi' ⟨F2, ρ2, rs3, fs, r2, el⟩ hy
    obtain ⟨x, F3, ex, s3, hd⟩ := hY.step hi' fs.sub r2.refl hy
    have er : its.drop i = x :: its.drop (i + 1) := by
      have hx : its[i] = x := by
        rw [List.getElem?_eq_getElem hi'] at ex
        exact Option.some.inj ex
      rw [← hx]
      exact List.drop_eq_getElem_cons hi'
    rw [er] at el
    obtain ⟨ρ3, rs4, e4, el1⟩ := bnd_some el
    obtain ⟨e5, q5⟩ := lft_some e4
    subst q5
    obtain ⟨o2, rs5, e6, el2⟩ := bnd_some el1
    have r3 := r2.step s3
    have fs3 := fs.trans (FStep.ofStep r2 s3)
    refine hgs L2 E2 F3 ρ2 σ' _ H3 v x ρ3 _ r3 hd e5 fun σ4 r4 _ => ?_
    refine hb L2 E2 F3 ρ3 σ4 _ H3 o2 rs5 _ r4 e6 ?_
    cases o2 with
    | nx ρ5 => exact fun σ5 F5 H5 f5 r5 => ⟨F5, ρ5, rs5, fs3.trans f5, r5, el2⟩
    | ct ρ5 => exact fun σ5 F5 H5 f5 r5 => ⟨F5, ρ5, rs5, fs3.trans f5, r5, el2⟩
    | bk ρ5 =>
      obtain ⟨e7, q7⟩ := ret_some el2
      subst q7
      exact fun σ5 F5 H5 f5 r5 => fin ρ5 σ5 F5 H5 e7.symm (fs3.trans f5) r5
    | rt x =>
      obtain ⟨e7, q7⟩ := ret_some el2
      subst q7
      exact fun v5 F5 H5 q => finR x v5 F3 F5 H5 e7.symm fs3 q
  · rintro σ' H' ⟨F2, ρ2, rs3, fs, r2, el⟩
    rw [List.drop_length] at el
    obtain ⟨e7, q7⟩ := ret_some el
    subst q7
    exact fin ρ2 σ' F2 H' e7.symm fs r2
theorem ssem_for {fi : Env → M (List D × Option Nat)} {gb : Env → M Out} (hi : ISem K R wi fi) (hgs : GSem K R S g hg) (hb : SSem K R tb gb) : SSem K R (tFor wi g tb) (sFor fi hg gb) := fun L E F ρ σ rs H o rs' D r hf k =>
  ssem_for_at r (fun its lk rs1 Rq e1 kk => hi L E ρ σ F H rs its lk rs1 Rq r e1 kk) hgs hb hf k
theorem ds_for {fi : Env → M (List D × Option Nat)} {gb : Env → M Out} (hp : PassesOwn (model X.prog X.w) X.A X.env X.xe) (hc : X.calm = true) (hi : DI X R tg it wi fi) (hg' : DG X R S tg g hg) (hb : DSs X R body tb gb)
    (hs : ∀ x, foldedSetIterable it X.env x = pure x := by intro _; rfl) : DS X R (.For tg it body [] pos) (tFor wi g tb) (sFor fi hg gb) := ⟨ps_for hp hc hi.pi hg'.pg hb.ps hs, ssem_for hi.sem hg'.sem hb.sem⟩

def wloopF (x : Env → M Bool) (body : Env → M Out) : Nat → Env → M Out
  | 0, _ => fail
  | n + 1, ρ => bnd (x ρ) fun b => if b = true then bnd (body ρ) fun o => match o with
    | .nx ρ2 => wloopF x body n ρ2
    | .ct ρ2 => wloopF x body n ρ2
    | .bk ρ2 => ret (.nx ρ2)
    | .rt r => ret (.rt r)
    else ret (.nx ρ)
theorem ssem_while (n : Nat) {x : Env → M Bool} {gb : Env → M Out} (hx : TSem K R tt x) (hb : SSem K R tb gb) : SSem K R (tWhile tt tb) (wloopF x gb n) := fun L E F ρ σ rs H o rs' D r hf k => by
  refine ⟨fun m σ H => ∃ F2 ρ2 rs3, FStep R E F F2 ∧ Rel K R L E F2 ρ2 σ rs3 H ∧ wloopF x gb m ρ2 rs3 = some (o, rs'), ⟨n, F, ρ, rs, FStep.refl, r, hf⟩, ?_⟩
  rintro m σ1 H1 ⟨F1, ρ1, rs1, fs, r1, el⟩
  cases m with
  | zero => cases el
  | succ m =>
    obtain ⟨b, rs2, e2, el1⟩ := bnd_some el
    refine hx L E ρ1 σ1 F1 H1 rs1 b rs2 _ r1 e2 fun F2 H2 s2 => ?_
    have r2 := r1.step s2
    have fs2 := fs.trans (FStep.ofStep r1 s2)
    cases b with
    | true =>
      rw [if_pos rfl] at el1 ⊢
      obtain ⟨o2, rs5, e6, el2⟩ := bnd_some el1
      refine ⟨fun σ' H' => ∃ F5 ρ5, FStep R E F F5 ∧ Rel K R L E F5 ρ5 σ' rs5 H' ∧ wloopF x gb m ρ5 rs5 = some (o, rs'), fun σ' H' ⟨F5, ρ5, a, b, c⟩ => ⟨m, Nat.lt_succ_self m, F5, ρ5, rs5, a, b, c⟩, ?_⟩
      refine hb L E F2 ρ1 σ1 rs2 H2 o2 rs5 _ r2 e6 ?_
      cases o2 with
      | nx ρ5 => exact fun σ5 F5 H5 f5 r5 => ⟨F5, ρ5, fs2.trans f5, r5, el2⟩
      | ct ρ5 => exact fun σ5 F5 H5 f5 r5 => ⟨F5, ρ5, fs2.trans f5, r5, el2⟩
      | bk ρ5 =>
        obtain ⟨e7, q7⟩ := ret_some el2
        subst e7 q7
        exact fun σ5 F5 H5 f5 r5 => k σ5 F5 H5 (fs2.trans f5) r5
      | rt y =>
        obtain ⟨e7, q7⟩ := ret_some el2
        subst e7 q7
        exact fun v F5 H5 q => k v F5 H5 ⟨fs2.trans q.fs, q.ex, q.fr, q.row, q.rF, q.val⟩
    | false =>
      rw [if_neg Bool.false_ne_true] at el1 ⊢
      obtain ⟨e7, q7⟩ := ret_some el1
      subst e7 q7
      exact k σ1 F2 H2 fs2 r2
theorem ds_while (n : Nat) {x : Env → M Bool} {gb : Env → M Out} (hp : PassesOwn (model X.prog X.w) X.A X.env X.xe) (hc : DT X R c tt x) (hb : DSs X R body tb gb) : DS X R (.While c body [] pos) (tWhile tt tb) (wloopF x gb n) := ⟨ps_while hp hc.pt hb.ps, ssem_while n hc.sem hb.sem⟩

structure DTs (X : Cx) (R : RA) (ifs : List Expr) (t : TT) (f : Env → M Bool) : Prop where
  pt : PTs X ifs t
  sem : TSem X.K R t f
def tTrue : Env → M Bool := fun _ => ret true
theorem dts_nil : DTs X R [] tYes tTrue := ⟨pts_nil, fun L E ρ σ F H rs x rs' Q r hf k => by
  obtain ⟨e1, q1⟩ := ret_some hf
  subst e1 q1
  exact k F H r.refl⟩
theorem dts_one {x : Env → M Bool} (h : DT X R c tt x) : DTs X R [c] tt x := ⟨pts_one h.pt, h.sem⟩
def lcF (tg : D → Env → Option Env) (tst : Env → M Bool) (el : Env → M RV) (ρ : Env) : List D → M (List D)
  | [] => ret []
  | x :: xs => bnd (lft (tg x ρ)) fun ρ1 => bnd (tst ρ1) fun b => if b = true then bnd (el ρ1) fun y => bnd (lft (toD y)) fun d => bnd (lcF tg tst el ρ xs) fun ds => ret (d :: ds) else lcF tg tst el ρ xs
def eLc (fi : Env → M (List D × Option Nat)) (vs : List Nat) (tg : D → Env → Option Env) (tst : Env → M Bool) (el : Env → M RV) : Env → M RV := fun ρ =>
  bnd (fi ρ) fun p => bnd (lcF tg tst el (wipeE ρ vs) p.1) fun ds => if p.1.length ≤ 100000 then ret (.n ds) else fail
theorem freeze1 {F0 H0 F1 H1 : Hp} {rs0 rs1 : RS} (s : Step K R rs1 F0 H0 F1 H1) (r0 : RowOk K R rs0 F0 H0) {v : V} {x : RV} {d : D} {Hb : Hp} (hb : ∀ a, Hb a = none → H0 a = none) (h : VR K R F1 Hb H1 v x) (e : toD x = some d) :
    ∃ F2, Step K R rs1 F0 H0 F2 H1 ∧ Dp K F2 v d ∧ (∀ a o, F1 a = some o → F2 a = some o) ∧ ∀ a, Hb a ≠ none → F1 a = none → F2 a = none := by
  cases x with
  | d y => cases e; exact ⟨F1, s, h, fun _ _ q => q, fun _ _ q => q⟩
  | n ds =>
    cases e
    obtain ⟨a, vs, rfl, h1, h0, h2, h3, h4⟩ := h
    have ku : ∀ b o, F1 b = some o → upd F1 a (.lst vs) b = some o := fun b o q => by
      rw [upd_ne (fun z => by rw [z, h2] at q; cases q)]; exact q
    refine ⟨upd F1 a (.lst vs), ⟨fun b o h q n => s.keep b o h q n, fun b o q => ku b o (s.sub b o q), fun b o q => ?_, fun b o q => ?_, s.row.mono ku fun b o q => ?_, fun r er => ?_⟩, .lst (.inl (.inl upd_same)) (Dp.monoA ku _ _ h4), ku, fun b hb1 hb2 => ?_⟩
    · by_cases eb : b = a
      · subst eb; exact .inr (hb b h0)
      · rw [upd_ne eb] at q; exact s.new b o q
    · by_cases eb : b = a
      · subst eb; rw [upd_same] at q; rw [h1]; exact q
      · rw [upd_ne eb] at q; exact s.fin b o q
    · by_cases eb : b = a
      · subst eb; rw [upd_same] at q; cases q; exact .lst
      · rw [upd_ne eb] at q; exact s.row.fnt b o q
    · rw [upd_ne (fun z => h3 (by rw [er, z]))]; exact s.rF r er
    · rw [upd_ne (fun z => hb1 (by rw [z]; exact h0))]; exact hb2
  | b y => cases e
  | gb _ => cases e
  | gn y => cases e
  | row => cases e
theorem esem_lc_at {fi : Env → M (List D × Option Nat)} {vs : List Nat} {tst : Env → M Bool} {el : Env → M RV} (r : Rel K R L E F ρ σ rs H) (hi : ∀ (its : List D) (lk : Option Nat) (rs1 : RS) (Rq : It → Hp → Prop), fi ρ rs = some ((its, lk), rs1) → (∀ J F' H', Step K R rs1 F H F' H' → IterOk K R E ρ σ H F' H' J its lk → Rq J H') → wi σ H Rq)
    (hgs : GSem K R S g hg) (hS : ∀ i ∈ S, i ∈ vs) (ht : TSem K R tt tst) (he : ESem K R te el) {x : RV} {rs' : RS} {Q : VK} (hf : eLc fi vs hg tst el ρ rs = some (x, rs')) (kk : ∀ v F' H', Step K R rs' F H F' H' → VR K R F' H H' v x → Q v H') : tLc wi g tt te vs σ H Q := by
  obtain ⟨⟨its, lk⟩, rs1, e1, hf1⟩ := bnd_some hf
  obtain ⟨ds, rs2, e2, hf2⟩ := bnd_some hf1
  by_cases hlen : its.length ≤ 100000
  · have hf2' : (if its.length ≤ 100000 then ret (RV.n ds) else fail) rs2 = some (x, rs') := hf2
    rw [if_pos hlen] at hf2'
    obtain ⟨e3, q3⟩ := ret_some hf2'
    subst e3 q3
    have e2 : lcF hg tst el (wipeE ρ vs) its rs1 = some (ds, rs') := e2
    refine hi its lk rs1 _ e1 fun J F1 H1 s1 ⟨G, Y, P, wk, pn, hG, hY⟩ => ?_
    intro Da hD
    have r1 := r.step s1
    have hDr : some Da ≠ R.row := fun q => by
      obtain ⟨a, e, _⟩ := r1.row.at_ Da q.symm
      rw [hD] at e; cases e
    have hDF1 : F1 Da = none := by
      cases q : F1 Da with
      | none => rfl
      | some o =>
        have := s1.fin Da o q
        rw [hD] at this; cases this
    refine lc_it wk (fun i H2 => ∃ F2 rs3 av ad rest, Step K R rs3 F1 H1 F2 H2 ∧ H2 Da = some (.lst av) ∧ F2 Da = none ∧ DpAll K F2 av ad ∧ ad.length ≤ i ∧ ad ++ rest = ds ∧ lcF hg tst el (wipeE ρ vs) (its.drop i) rs3 = some (rest, rs')) ?_ ?_ ?_ ?_
    · refine ⟨F1, rs1, [], [], ds, (Step.new_lst (vs := []) r1.refl hD).1, upd_same, hDF1, .nil, Nat.le_refl _, rfl, e2⟩
    · rintro i H2 hi' ⟨F2, rs3, av, ad, rest, s2, _⟩
      exact hG H2 (fun a o q => s2.keep a o (pn a o q).1 (pn a o q).2.1 (pn a o q).2.2.1) fun a o q => s2.fin a o (s2.sub a o q)
    · rintro i v H2 H3 hi' ⟨F2, rs3, av, ad, rest, s2, hDl, hDF, hA, hlA, hsum, el1⟩ hy
      have s02 := s1.trans r.row s2
      have r2 := r.step s02
      obtain ⟨x, F3, ex, s3, hd⟩ := hY.step hi' s2.sub r2.refl hy
      have er : its.drop i = x :: its.drop (i + 1) := by
        have hx : its[i] = x := by
          rw [List.getElem?_eq_getElem hi'] at ex
          exact Option.some.inj ex
        rw [← hx]
        exact List.drop_eq_getElem_cons hi'
      rw [er] at el1
      obtain ⟨ρ3, rs4, e4, el2⟩ := bnd_some el1
      obtain ⟨e5, q5⟩ := lft_some e4
      subst q5
      obtain ⟨b, rs5, e6, el3⟩ := bnd_some el2
      have s13 := s2.trans r1.row s3
      have r3 := r2.step s3
      have hD3 : H3 Da = some (.lst av) := s3.keep Da _ hDl hDr
      have hDF3 : F3 Da = none := by
        cases q : F3 Da with
        | none => rfl
        | some o =>
          rcases s3.new Da o q with z | z
          · rw [hDF] at z; cases z
          · rw [hDl] at z; cases z
      refine hgs L E F3 (wipeE ρ vs) (L2.wipe σ vs) _ H3 v x ρ3 _ (r3.wipe vs) hd e5 fun σ4 r4 o4 => ⟨?_, ?_⟩
      · rw [wipe_off o4 hS]
        apply List.ext_getElem?
        intro j
        rw [wipe_at, wipe_at]
        by_cases hj : j ∈ vs
        · rw [if_pos hj, if_pos hj, wipe_length]
        · rw [if_neg hj, if_neg hj]
      · refine ht L E ρ3 σ4 F3 H3 _ b rs5 _ r4 e6 fun F5 H5 s5 => ?_
        have s15 := s13.trans r1.row s5
        have hD5 : H5 Da = some (.lst av) := s5.keep Da _ hD3 hDr
        have hDF5 : F5 Da = none := by
          cases q : F5 Da with
          | none => rfl
          | some o =>
            rcases s5.new Da o q with z | z
            · rw [hDF3] at z; cases z
            · rw [hD3] at z; cases z
        cases b with
        | true =>
          rw [if_pos rfl] at el3 ⊢
          obtain ⟨y, rs6, e7, el4⟩ := bnd_some el3
          obtain ⟨d, rs7, e8, el5⟩ := bnd_some el4
          obtain ⟨e9, q9⟩ := lft_some e8
          subst q9
          obtain ⟨ds2, rs8, e10, el6⟩ := bnd_some el5
          obtain ⟨e11, q11⟩ := ret_some el6
          subst e11 q11
          refine he L E ρ3 σ4 F5 H5 rs5 y _ _ (r4.step s5) e7 fun w F6 H6 s6 h6 => ?_
          have s16 := s15.trans r1.row s6
          have hD6 : H6 Da = some (.lst av) := s6.keep Da _ hD5 hDr
          have hDF6 : F6 Da = none := by
            cases q : F6 Da with
            | none => rfl
            | some o =>
              rcases s6.new Da o q with z | z
              · rw [hDF5] at z; cases z
              · rw [hD5] at z; cases z
          obtain ⟨F7, s17, hd7, k7, n7⟩ := freeze1 (Hb := H5) s16 r1.row (fun a q => s15.back r1.row q) h6 e9
          have hDF7 : F7 Da = none := n7 Da (by rw [hD5]; exact fun z => nomatch z) hDF6
          have hk : ∀ a o, F2 a = some o → F7 a = some o := fun a o q => k7 a o (s6.sub a o (s5.sub a o (s3.sub a o q)))
          refine ⟨av, hD6, ?_, F7, _, av ++ [w], ad ++ [d], ds2, ?_, upd_same, hDF7, (Dp.monoA hk _ _ hA).append (.cons hd7 .nil), ?_, ?_, e10⟩
          · rw [hA.len]
            exact sz_lt (by omega)
          · refine ⟨fun a o q z n => ?_, s17.sub, s17.new, fun a o q => ?_, ⟨fun q e => ?_, tabs_upd s17.row.tab (.inr ⟨_, hD6⟩), s17.row.fnt⟩, s17.rF⟩
            · rw [upd_ne (fun zz => by rw [zz, hD] at q; cases q)]
              exact s17.keep a o q z n
            · rw [upd_ne (fun zz => by rw [zz, hDF7] at q; cases q)]
              exact s17.fin a o q
            · obtain ⟨a, z1, z2⟩ := s17.row.at_ q e
              exact ⟨a, by rw [upd_ne (fun zz => hDr (by rw [← zz, e]))]; exact z1, z2⟩
          · rw [List.length_append, List.length_singleton]
            omega
          · rw [List.append_assoc]
            exact hsum
        | false =>
          rw [if_neg Bool.false_ne_true] at el3 ⊢
          have hk : ∀ a o, F2 a = some o → F5 a = some o := fun a o q => s5.sub a o (s3.sub a o q)
          exact ⟨F5, rs5, av, ad, rest, s15, hD5, hDF5, Dp.monoA hk _ _ hA, by omega, hsum, el3⟩
    · rintro H2 ⟨F2, rs3, av, ad, rest, s2, hDl, hDF, hA, _, hsum, el1⟩
      rw [List.drop_length] at el1
      obtain ⟨e7, q7⟩ := ret_some el1
      subst e7 q7
      rw [List.append_nil] at hsum
      subst hsum
      have s02 := s1.trans r.row s2
      exact kk _ F2 H2 s02 ⟨Da, av, rfl, hDl, s1.back r.row hD, hDF, hDr, hA⟩
  · have hf2' : (if its.length ≤ 100000 then ret (RV.n ds) else fail) rs2 = some (x, rs') := hf2
    rw [if_neg hlen] at hf2'
    cases hf2'
theorem esem_lc {fi : Env → M (List D × Option Nat)} {vs : List Nat} {tst : Env → M Bool} {el : Env → M RV} (hi : ISem K R wi fi) (hgs : GSem K R S g hg) (hS : ∀ i ∈ S, i ∈ vs) (ht : TSem K R tt tst) (he : ESem K R te el) :
    ESem K R (tLc wi g tt te vs) (eLc fi vs hg tst el) := fun L E ρ σ F H rs x rs' Q r hf kk =>
  esem_lc_at r (fun its lk rs1 Rq e1 k => hi L E ρ σ F H rs its lk rs1 Rq r e1 k) hgs hS ht he hf kk
theorem de_lc {scope : Scope} {own : List (Str × Nat)} {fi : Env → M (List D × Option Nat)} {tst : Env → M Bool} {el : Env → M RV} (hc : X.calm = true) (hN : X.N.Nodup) (hi : DI X R tg it wi fi) (ok : BlkOk X.N X.env.scope scope own) (hS : ∀ i ∈ S, i ∈ own.map (·.2))
    (hg' : ∀ (s : Shared) (H : Hp) (C : Addr) (cl : List (Str × Addr)) (fp : List Addr), DG (X.blk s H scope (compEnvC scope cl C X.env) fp) R S tg g hg) (ht : ∀ (s : Shared) (H : Hp) (C : Addr) (cl : List (Str × Addr)) (fp : List Addr), DTs (X.blk s H scope (compEnvC scope cl C X.env) fp) R ifs tt tst)
    (he : ∀ (s : Shared) (H : Hp) (C : Addr) (cl : List (Str × Addr)) (fp : List Addr), DE (X.blk s H scope (compEnvC scope cl C X.env) fp) R elt te el) (hs : ∀ x, foldedSetIterable it X.env x = pure x := by intro _; rfl) :
    DE X R (.ListComp elt [⟨tg, it, ifs, 0⟩] scope pos) (tLc wi g tt te (own.map (·.2))) (eLc fi (own.map (·.2)) hg tst el) :=
  ⟨pe_lc hc hN hi.pi ok (fun s H C cl fp => (hg' s H C cl fp).pg) (fun s H C cl fp => (ht s H C cl fp).pt) (fun s H C cl fp => (he s H C cl fp).pe) hs,
    esem_lc hi.sem (hg' {} (fun _ => none) 0 [] []).sem hS (ht {} (fun _ => none) 0 [] []).sem (he {} (fun _ => none) 0 [] []).sem⟩
end
end DV

namespace DV
open PySem L2 PyProof.Rows
/-- a list or a tuple -/
inductive SK where | l | t
def SqK (k : SK) (K : PySem.W.Frag) (H : Hp) (a : Addr) (xs : List V) : Prop := match k with
  | .l => SqL K H a xs
  | .t => SqT K H a xs
def isItK (k : SK) (h : Heap) (it a : Addr) (i : Nat) : Prop := match k with
  | .l => h.IsListIter it a i
  | .t => h.IsTupleIter it a i
def isSqK (k : SK) (h : Heap) (a : Addr) (its : Array Value) : Prop := match k with
  | .l => h.IsList a its
  | .t => h.IsTuple a its
def itObj (k : SK) (a : Addr) : Obj := match k with
  | .l => { cls := .type "list_iterator", data := .fields #[.ref a, .int 0 0] }
  | .t => { cls := .type "tuple_iterator", data := .fields #[.ref a, .int 0 0] }
theorem drawK (k : SK) {prog : Program} {w : World} {A : Around} (hh : A.handled = none) (it a : Addr) (hne : a ≠ it) (items : Array Value) :
    Draws prog w A it [it, a] items.size (fun i v => items[i]? = some v) (fun i h => isItK k h it a i ∧ isSqK k h a items) := by
  cases k
  · exact Draws.list hh it a hne items
  · exact Draws.tuple hh it a hne items
theorem beginK (k : SK) (a : Addr) (items : Array Value) : Begins (.ref a) (itObj k a) fun h => isSqK k h a items := by
  cases k
  · exact begins_list a items
  · exact begins_tuple a items
theorem isItK.at' {k : SK} {h h' : Heap} {it a : Addr} {i : Nat} (x : isItK k h it a i) (e : ∀ o, h.get? it = some o → h'.get? it = some o) : isItK k h' it a i := by
  cases k
  · exact Heap.IsListIter.at x e
  · exact Heap.IsTupleIter.at x e
theorem isItK.obj {k : SK} {h : Heap} {it a : Addr} {i : Nat} (x : isItK k h it a i) : ∃ o, h.get? it = some o ∧ ∀ v, o.data ≠ .cell v := by
  cases k
  · obtain ⟨o, e, _, d⟩ := (show h.IsListIter it a i from x)
    exact ⟨o, e, fun v z => by rw [d] at z; cases z⟩
  · obtain ⟨o, e, _, d⟩ := (show h.IsTupleIter it a i from x)
    exact ⟨o, e, fun v z => by rw [d] at z; cases z⟩
theorem isItK.new (k : SK) {h : Heap} {it a : Addr} (e : h.get? it = some (itObj k a)) : isItK k h it a 0 := by
  cases k
  · exact ⟨_, e, rfl, rfl⟩
  · exact ⟨_, e, rfl, rfl⟩
section
variable {X : Cx} {pins : List (Addr × Obj)} {σ : L2.St} {H : Hp} {s : Shared}
theorem seqK (k : SK) {a : Addr} {xs : List V} (I : Inv X pins σ H s) (h : SqK k X.K H a xs) : ∃ its : List Value, Vals xs its ∧ isSqK k s.heap a its.toArray ∧ xs.length ≤ sizeLine ∧ a < s.heap.objs.size := by
  cases k
  · obtain ⟨its, rv, p, hz⟩ := I.list h
    exact ⟨its, rv, p.isList, hz, p.lt⟩
  · obtain ⟨its, rv, p, hz⟩ := I.tuple h
    exact ⟨its, rv, p, hz, p.lt⟩
theorem seqK_inj (k : SK) {a : Addr} {xs ys : List V} (I : Inv X pins σ H s) (h : SqK k X.K H a xs) (h' : SqK k X.K H a ys) : xs = ys := by
  cases k
  · exact I.list_inj h h'
  · exact I.tuple_inj h h'
end

set_option maxHeartbeats 1000000 in
theorem meets_enumerate_new1 {v : Value} {o : Obj} {H : Heap → Prop} (B : Begins v o H) :
    Meets (Builtin.«enumerate.__new__» ⟨[.type "enumerate", v], []⟩) (fun _ R s => H s.heap ∧
      R (.ok (.ret (.ref (s.heap.push o).objs.size))) { s with heap := (s.heap.push o).push { cls := .type "enumerate", data := .fields #[.none, .bool false, .ref s.heap.objs.size, rawInt 0, .none, .none] } }) :=
  .of_wp fun prog w A R s h => by
    obtain ⟨hp, g, d, tk, os⟩ := s; obtain ⟨h1, h⟩ := h
    have hsub := sub_enumerate
    have q1 : ∀ {A' : Around} {E : Value → Shared → Prop} {Q : Value → Shared → Prop}, Q (.ref hp.objs.size) ⟨hp.push o, g, d, tk, os⟩ → wpAny (model prog w) A' (pyIter v) Q E ⟨hp, g, d, tk, os⟩ :=
      fun q => B.iter prog w _ _ ⟨hp, g, d, tk, os⟩ _ h1 q
    wp_walk using q1
    refine wpAny_stack_any fun st => wpAny_pure ?_
    split
    · rename_i c _ _ _ _ _
      cases (c == Value.type "enumerate")
      · wp_walk using q1
        exact ⟨_, rfl, h⟩
      · wp_walk using q1
        exact ⟨_, rfl, h⟩
    · wp_walk using q1
      exact ⟨_, rfl, h⟩
theorem enum_begins1 {prog : Program} {w : World} {A : Around} {E : Value → Shared → Prop} {s : Shared} {v : Value} {o : Obj} {H : Heap → Prop} {Q : Value → Shared → Prop} (B : Begins v o H) (h1 : H s.heap)
    (h : ∀ h', IsEnum h' (s.heap.objs.size + 1) s.heap.objs.size 0 .none → h'.get? s.heap.objs.size = some o → h'.objs.size = s.heap.objs.size + 2 →
      (∀ b o, s.heap.get? b = some o → h'.get? b = some o) → Q (.ref (s.heap.objs.size + 1)) { s with heap := h' }) :
    wpAny (model prog w) A (call (.type "enumerate") [v]) Q E s := by
  refine callType_new F.called_enumerate (by decide) (F.typeCall_enumerate_1 _) (F.newCall_enumerate_1 _) (fun obj => F.args_object_init_2 obj _) F.entry_enumerate_new
    (meets_enumerate_new1 B) ⟨h1, ?_⟩
  have hz : (s.heap.push o).objs.size = s.heap.objs.size + 1 := Heap.size_push ..
  show _ ∧ _
  rw [hz]
  have he : IsEnum ((s.heap.push o).push { cls := .type "enumerate", data := .fields #[.none, .bool false, .ref s.heap.objs.size, rawInt 0, .none, .none] }) (s.heap.objs.size + 1) s.heap.objs.size 0 .none := by
    have := Heap.get?_push_size (s.heap.push o) (o := { cls := .type "enumerate", data := .fields #[.none, .bool false, .ref s.heap.objs.size, rawInt 0, .none, .none] }) rfl
    rw [hz] at this; exact this
  refine ⟨⟨_, he, rfl⟩, h _ he (Heap.get?_push_of_some _ (Heap.get?_push_size _ B.free)) (by rw [Heap.size_push, hz]) fun b o x => Heap.get?_push_of_some _ (Heap.get?_push_of_some _ x)⟩
def IteK (k : SK) (K : PySem.W.Frag) (a : Addr) : It :=
  ⟨fun i H => ∃ (xs : List V) (x : V), SqK k K H a xs ∧ xs[i]? = some x, fun i H v H' => ∃ T x, v = .ref T ∧ H T = none ∧ H' = upd H T (.tup [.int (i : Nat), x]) ∧ ∀ xs, SqK k K H a xs → xs[i]? = some x, fun i H => ∃ xs : List V, SqK k K H a xs ∧ xs.length ≤ i⟩
theorem turn_enumK (k : SK) {P : Program} {w : World} {K : PySem.W.Frag} {elts : List Expr} {kk : Nat} {tpos : Pos} (a e it : Addr) (hai : a ≠ it) (hae : a ≠ e) :
    Turn P w K (.Tuple elts kk tpos) (IteK k K a) [e, it] e (fun i h => (∃ old, IsEnum h e it ((i : Nat) : Int) old) ∧ isItK k h it a i ∧ e ≠ it) where
  mem := by simp
  obj := fun i h st b hb => by
    obtain ⟨⟨old, he⟩, hit, _⟩ := st
    have e' : b = e ∨ b = it := by simpa using hb
    rcases e' with z | z
    · rw [z]; exact ⟨_, he, fun v q => nomatch q⟩
    · rw [z]; exact hit.obj
  keep := fun i h h' st q => let ⟨⟨old, he⟩, hi, hne⟩ := st; ⟨⟨old, q e (by simp) _ he⟩, hi.at' fun o z => q it (by simp) o z, hne⟩
  item := by
    intro X hP hw hK hc i pins s σ H E I hf st hg
    subst hP hw hK
    obtain ⟨⟨old, he⟩, hit, hne⟩ := st
    obtain ⟨xs, x, hq, hx⟩ := hg
    obtain ⟨its, rv, p, hz, hal⟩ := seqK k I hq
    obtain ⟨u, hu, ru⟩ := rv.get hx
    have hel : e < s.heap.objs.size := Heap.lt_size he
    have hil : it < s.heap.objs.size := by obtain ⟨_, q, _⟩ := hit.obj; exact Heap.lt_size q
    have hlen : i < its.toArray.size := by
      have q1 := (List.getElem?_eq_some_iff.mp hu).1
      simpa using q1
    refine wpAny_pyNext_enum_itemD (drawK k (A := X.A.in1) (I.ok.hd hc) it a hai its.toArray) he ⟨hit, p⟩ hlen hne (by simp [hne, Ne.symm hae]) fun y h' tk hy ho hst hT hsz hk => ?_
    have hyu : y = u := by
      have q1 : its[i]? = some y := by simpa using hy
      rw [hu] at q1
      exact (Option.some.inj q1).symm
    subst hyu
    refine ⟨_, rfl, wpAny_letOwnedTupleGo_enum (s := { s with heap := h', toks := tk + 1 }) ho fun h'' he' sb => ?_⟩
    have hT2 : h''.get? s.heap.objs.size = some { cls := .type "tuple", data := .seq #[.int i tk, y] } := (sb.2 _ (Nat.ne_of_gt hel)).trans hT
    have new : ObjOk X.prog X.w (upd H s.heap.objs.size (.tup [.int (i : Nat), x])) h'' s.heap.objs.size (.tup [.int (i : Nat), x]) :=
      ⟨by show 2 ≤ sizeLine; decide, [.int i tk, y], .cons ⟨_, rfl⟩ (.cons ru .nil), ⟨_, hT2, rfl, _, rfl⟩⟩
    have I1 : Inv X pins σ (upd H s.heap.objs.size (.tup [.int (i : Nat), x])) { s with heap := h'', toks := tk + 1 } :=
      I.turnedNew (ch := [e, it]) (fun b ob hb q => (sb.2 b (fun z => hb (by simp [z]))).trans (hk b ob (fun z => hb (by simp [z])) (fun z => hb (by simp [z])) q)) hf (Nat.le_refl _) new
    refine ⟨.ref s.heap.objs.size, _, I1, rfl, ⟨_, x, rfl, I.hok.fresh (Nat.le_refl _), rfl, fun ys hy => by rw [seqK_inj k I hy hq]; exact hx⟩, ⟨⟨y, ?_⟩, hst.1.at' fun o q => (sb.2 it (Ne.symm hne)).trans q, hne⟩, fun b hb => ?_⟩
    · have e1 : ((i + 1 : Nat) : Int) = (i : Int) + 1 := by omega
      rw [e1]; exact he'
    · have hb' : b < s.heap.objs.size := by
        have e' : b = e ∨ b = it := by simpa using hb
        rcases e' with z | z
        · rw [z]; exact hel
        · rw [z]; exact hil
      rw [upd_ne (Nat.ne_of_lt hb')]
      exact (hf b hb).1
  done := by
    intro X hP hw hK hc i pins s σ H E I hf st hg
    subst hP hw hK
    obtain ⟨⟨old, he⟩, hit, hne⟩ := st
    obtain ⟨xs, hq, hx⟩ := hg
    obtain ⟨its, rv, p, hz, hal⟩ := seqK k I hq
    obtain ⟨f0, f1, f2, f3, f4, f5⟩ := hf it (by simp)
    have hl := rv.length
    have hend : ∀ (Q : Option Value → Shared → Prop), (∀ h', Heap.ExtBut it s.heap h' → Q none { s with heap := h' }) → wpAny (model X.prog X.w) X.A (pyNext (.ref e)) Q E s := fun Q hQ => by
      cases k
      · exact wpAny_pyNext_enum_end (I.ok.hd hc) he hit p (by simp; omega) hQ
      · have hT : s.TypeIs (.ref e) "enumerate" := ⟨_, he, rfl⟩
        unfold pyNext
        refine wpAny_bind (wpAny_attempt (wpAny_callSpecial?_slot (name := Str.ofString "__next__") hT F.slot_enumerate_next
          (wpAny_call_entry F.slot_enumerate_next hT F.entry_enumerate_next ?_ (F.args_enumerate_next_1 _))))
        show wpAny _ _ (field (.ref e) 2 >>= _) _ _ _
        refine wpAny_bind (wpAny_field he rfl (x := .ref it) rfl ?_)
        refine wpAny_bind (wpAny_nextOf_tuple_end (I.ok.hd hc) hit p (by simp; omega) fun h' x he' hx' => ?_)
        obtain ⟨o, ho, hc⟩ := hx'
        refine wpAny_bind (wpAny_isInstance (T := "StopIteration") (b := true) ⟨o, ho, hc⟩ isSubtype_stop ?_)
        exact wpAny_pure (hQ _ he')
    exact hend _ fun h' eb => ⟨rfl, I.turned (t' := s.toks) (fun b o hb q => eb b o hb q) f0 f1 f3 f4 f5⟩
  self := fun A i s Q E st h => let ⟨⟨_, he⟩, _⟩ := st; wpAny_pyIter_enum he h
def iEnumK (K : PySem.W.Frag) (ta : TE) : TI := fun σ H R => ta σ H fun v H1 => ∃ k a xs, v = .ref a ∧ SqK k K H1 a xs ∧ R (IteK k K a) H1
theorem pi_enumK {X : Cx} {e : Expr} {te : TE} {p pos tpos : Pos} {elts : List Expr} {kk : Nat} (hg : Gl X "enumerate") (hm : X.mg "enumerate" = none) (he : PE X e te) (hs : starEach [e] X.env = (false, eval e X.env) :: starEach [] X.env := by rfl) :
    PI X (.Tuple elts kk tpos) (.Call (.Name "enumerate" p) [e] [] pos) (iEnumK X.K te) := by
  refine ⟨fun pins s σ H R I h => ?_⟩
  refine Call_ (ld_blt I hg hm boot_enumerate (PyProof.Rows.callWith_type1 (args_cons (thn (he.run pins s σ H _ I h) fun u s1 ⟨v, H1, I1, r1, q1⟩ => args_nil ?_) hs) hs rfl))
  obtain ⟨k, a, xs, ex, hq, q⟩ := q1
  subst ex
  cases r1
  obtain ⟨its, rv, p', hz, hal⟩ := seqK k I1 hq
  refine enum_begins1 (beginK k a its.toArray) p' fun h' he' hit hsz hk => wpAny_pyIter_enum he' ?_
  have I2 : Inv X pins σ H1 { s1 with heap := h' } := I1.kept (t' := s1.toks) hk
  refine ⟨s1.heap.objs.size + 1, [s1.heap.objs.size + 1, s1.heap.objs.size], _, _, H1, rfl, I2, turn_enumK k a (s1.heap.objs.size + 1) s1.heap.objs.size (Nat.ne_of_lt hal) (Nat.ne_of_lt (Nat.lt_succ_of_lt hal)), ⟨⟨.none, he'⟩, .new k hit, Nat.succ_ne_self _⟩, fun b hb => ?_, q⟩
  have e' : b = s1.heap.objs.size + 1 ∨ b = s1.heap.objs.size := by simpa using hb
  have hle : s1.heap.objs.size ≤ b := by
    rcases e' with z | z
    · rw [z]; exact Nat.le_add_right _ _
    · rw [z]; exact Nat.le_refl _
  exact I1.fpOk hle (I1.hok.fresh hle)
theorem walk_enumK (k : SK) {K : PySem.W.Frag} {a : Addr} {xs : List V} : Walk (IteK k K a) xs.length (fun H => SqK k K H a xs) (YPair (fun i => some (.int (i : Nat))) (fun i => xs[i]?)) := by
  refine ⟨fun i _ hi q => ⟨xs, xs[i], q, by simp [hi]⟩, fun _ q => ⟨xs, q, Nat.le_refl _⟩, fun i H v H' _ q y => ?_⟩
  obtain ⟨T, x, h1, h2, h3, h4⟩ := y
  exact ⟨T, .int (i : Nat), x, h1, h2, h3, rfl, h4 xs q⟩

def ItK (k : SK) (K : PySem.W.Frag) (a : Addr) : It := match k with
  | .l => Itl K a
  | .t => Itt K a
def iSeqK (K : PySem.W.Frag) (tl : TE) : TI := fun σ H R => tl σ H fun x H1 => ∃ k a xs, x = .ref a ∧ SqK k K H1 a xs ∧ R (ItK k K a) H1
theorem pi_seqK {X : Cx} {tg l : Expr} {tl : TE} (hl : PE X l tl) : PI X tg l (iSeqK X.K tl) := by
  refine ⟨fun pins s σ H R I h => ?_⟩
  refine thn (hl.run pins s σ H _ I h) fun v s1 ⟨x, H1, I1, r1, q1⟩ => ?_
  obtain ⟨k, a, xs, e, hq, q⟩ := q1
  subst e
  cases r1
  cases k
  · obtain ⟨its, rv, p, hz⟩ := I1.list hq
    refine wpAny_pyIter_list p.isList ?_
    refine ⟨s1.heap.objs.size, [s1.heap.objs.size], _, _, H1, rfl, I1.kept (t' := s1.toks) fun b o e => Heap.get?_push_of_some _ e, turn_list a _, ⟨_, Heap.get?_push_size _ rfl, rfl, rfl⟩, fun b hb => ?_, q⟩
    have e : b = s1.heap.objs.size := by simpa using hb
    subst e
    exact I1.fpOk (Nat.le_refl _) (I1.hok.fresh (Nat.le_refl _))
  · obtain ⟨its, rv, p, hz⟩ := I1.tuple hq
    refine wpAny_pyIter_tuple (show s1.heap.IsTuple a its.toArray from p) ?_
    refine ⟨s1.heap.objs.size, [s1.heap.objs.size], _, _, H1, rfl, I1.kept (t' := s1.toks) fun b o e => Heap.get?_push_of_some _ e, turn_tuple a _, ⟨_, Heap.get?_push_size _ rfl, rfl, rfl⟩, fun b hb => ?_, q⟩
    have e : b = s1.heap.objs.size := by simpa using hb
    subst e
    exact I1.fpOk (Nat.le_refl _) (I1.hok.fresh (Nat.le_refl _))
theorem walk_seqK (k : SK) {K : PySem.W.Frag} {a : Addr} {xs : List V} : Walk (ItK k K a) xs.length (fun H => SqK k K H a xs) (YAt xs) := by
  cases k
  · exact walk_list
  · exact walk_tup

end DV

namespace DV
open PySem L2 PyProof.Rows
section
variable {X : Cx} {K : PySem.W.Frag} {R : RA} {L : Nat → Option (Addr × HO)} {E F F' H H' : Hp} {ρ ρ' : Env} {σ σ' : L2.St} {rs rs' : RS}
variable {S S' : List Nat} {tg it elt e e2 c : Expr} {es ifs : List Expr} {g : TG} {gs : TGs} {hg : D → Env → Option Env} {hgs : List D → Env → Option Env} {pos p : Pos} {st : Stmt} {body : List Stmt} {tb : TS} {tt : TT} {te t1 t2 : TE} {ta : TA} {wi : TI}

def SrcOk (K : PySem.W.Frag) (R : RA) (E : Hp) (ρ : Env) (σ : L2.St) (H F' H' : Hp) (v : V) (its : List D) (lk : Option Nat) : Prop := ∃ a vs, v = .ref a ∧ DpAll K F' vs its ∧
  ((∃ k, SqK k K F' a vs) ∨ (H' a = some (.lst vs) ∧ some a ≠ R.row ∧ ((H a = none ∧ F' a = none) ∨ E a = some (.lst vs) ∨ ∃ i ds, lk = some i ∧ ρ[i]? = some (some (SV.o ds)) ∧ σ[i]? = some (some (V.ref a)))))
theorem SqK.mono {k : SK} {F F' : Hp} {a : Addr} {vs : List V} (h : SqK k K F a vs) (e : ∀ o, F a = some o → F' a = some o) : SqK k K F' a vs := by
  cases k
  · exact ex_l e h
  · exact ex_t e h
theorem SrcOk.step {F1 H1 F2 H2 : Hp} {v : V} {its : List D} {lk : Option Nat} (s : Step K R rs' F1 H1 F2 H2) (h : SrcOk K R E ρ σ H F1 H1 v its lk) : SrcOk K R E ρ σ H F2 H2 v its lk := by
  obtain ⟨a, vs, rfl, hd, q⟩ := h
  refine ⟨a, vs, rfl, Dp.monoA s.sub _ _ hd, ?_⟩
  rcases q with ⟨k, q⟩ | ⟨q1, q2, q3⟩
  · exact .inl ⟨k, q.mono (s.sub a)⟩
  · refine .inr ⟨s.keep a _ q1 q2, q2, ?_⟩
    rcases q3 with ⟨z1, z2⟩ | z | z
    · refine .inl ⟨z1, ?_⟩
      cases q : F2 a with
      | none => rfl
      | some o =>
        rcases s.new a o q with y | y
        · rw [z2] at y; cases y
        · rw [q1] at y; cases y
    · exact .inr (.inl z)
    · exact .inr (.inr z)
theorem SrcOk.older {H0 H1 : Hp} {v : V} {its : List D} {lk : Option Nat} (e : ∀ a, H1 a = none → H0 a = none) (h : SrcOk K R E ρ σ H1 F' H' v its lk) : SrcOk K R E ρ σ H0 F' H' v its lk := by
  obtain ⟨a, vs, rfl, hd, q⟩ := h
  refine ⟨a, vs, rfl, hd, ?_⟩
  rcases q with q | ⟨q1, q2, q3⟩
  · exact .inl q
  · refine .inr ⟨q1, q2, ?_⟩
    rcases q3 with ⟨z1, z2⟩ | z | z
    · exact .inl ⟨e a z1, z2⟩
    · exact .inr (.inl z)
    · exact .inr (.inr z)
def SrcSem (K : PySem.W.Frag) (R : RA) (t : TE) (f : Env → M (List D × Option Nat)) : Prop :=
  ∀ (L : Nat → Option (Addr × HO)) (E : Hp) (ρ : Env) (σ : L2.St) (F H : Hp) (rs : RS) (its : List D) (lk : Option Nat) (rs' : RS) (Q : VK), Rel K R L E F ρ σ rs H → f ρ rs = some ((its, lk), rs') →
    (∀ v F' H', Step K R rs' F H F' H' → SrcOk K R E ρ σ H F' H' v its lk → Q v H') → t σ H Q
structure DSrc (X : Cx) (R : RA) (e : Expr) (t : TE) (f : Env → M (List D × Option Nat)) : Prop where
  pe : PE X e t
  sem : SrcSem X.K R t f
def srcOf : RV → Option (List D)
  | .d (.tuple ds) => some ds
  | .d (.list ds) => some ds
  | .n ds => some ds
  | _ => none
def srcE (f : Env → M RV) : Env → M (List D × Option Nat) := fun ρ => bnd (f ρ) fun x => bnd (lft (srcOf x)) fun ds => ret (ds, none)
theorem src_e {f : Env → M RV} (h : DE X R e te f) : DSrc X R e te (srcE f) := ⟨h.pe, fun L E ρ σ F H rs its lk rs' Q r hf k => by
  obtain ⟨x, rs1, e1, hf1⟩ := bnd_some hf
  obtain ⟨ds, rs2, e2, hf2⟩ := bnd_some hf1
  obtain ⟨e3, q3⟩ := lft_some e2
  obtain ⟨e4, q4⟩ := ret_some hf2
  cases e4
  subst q4 q3
  refine h.sem L E ρ σ F H rs x _ _ r e1 fun v F1 H1 s1 h1 => k v F1 H1 s1 ?_
  cases x with
  | d y =>
    cases y with
    | tuple es =>
      cases e3
      cases h1 with
      | tup z1 z2 => exact ⟨_, _, rfl, z2, .inl ⟨.t, z1⟩⟩
    | list es =>
      cases e3
      cases h1 with
      | lst z1 z2 => exact ⟨_, _, rfl, z2, .inl ⟨.l, z1⟩⟩
    | none => cases e3
    | bool _ => cases e3
    | int _ => cases e3
    | str _ => cases e3
    | dict _ => cases e3
  | n es =>
    cases e3
    obtain ⟨a, vs, rfl, z1, z0, z2, z3, z4⟩ := h1
    exact ⟨a, vs, rfl, z4, .inr ⟨z1, z3, .inl ⟨z0, z2⟩⟩⟩
  | b es => cases e3
  | gb _ => cases e3
  | gn _ => cases e3
  | row => cases e3⟩
def srcV (i : Nat) : Env → M (List D × Option Nat) := fun ρ => lft (match ρ[i]? with
  | some (some (.d (.tuple ds))) => some (ds, none)
  | some (some (.d (.list ds))) => some (ds, none)
  | some (some (.o ds)) => some (ds, some i)
  | some (some (.k ds)) => some (ds, none)
  | _ => none)
theorem src_v (i : Nat) {x : Str} (hN : X.N[i]? = some x := by rfl) (hv : Vis X.env.scope x := by first | exact Or.inl rfl | exact Or.inr (Or.inl rfl) | exact Or.inr (Or.inr rfl)) (hd : (x == ("__debug__" : Str)) = false := by decide)
    (hcd : (x == ("__classdict__" : Str)) = false := by decide) : DSrc X R (.Name x pos) (tVar i) (srcV i) := ⟨pe_var hN hv hd hcd, fun L E ρ σ F H rs its lk rs' Q r hf k => by
  obtain ⟨e1, q1⟩ := lft_some hf
  subst q1
  cases e : ρ[i]? with
  | none => rw [e] at e1; cases e1
  | some sv =>
    cases sv with
    | none => rw [e] at e1; cases e1
    | some sv =>
      obtain ⟨v, ev, q⟩ := r.sl i sv e
      refine ⟨v, ev, k v F H r.refl ?_⟩
      rw [e] at e1
      cases sv with
      | d y =>
        cases y with
        | tuple es =>
          cases e1
          cases q with
          | tup z1 z2 => exact ⟨_, _, rfl, z2, .inl ⟨.t, z1⟩⟩
        | list es =>
          cases e1
          cases q with
          | lst z1 z2 => exact ⟨_, _, rfl, z2, .inl ⟨.l, z1⟩⟩
        | none => cases e1
        | bool _ => cases e1
        | int _ => cases e1
        | str _ => cases e1
        | dict _ => cases e1
      | o es =>
        cases e1
        obtain ⟨a, vs, rfl, z1, z2, z3, z4, z5⟩ := q
        exact ⟨a, vs, rfl, z5, .inr ⟨z1, z4, .inr (.inr ⟨i, _, rfl, e, ev⟩)⟩⟩
      | k es =>
        cases e1
        obtain ⟨a, vs, hl, rfl, z5⟩ := q
        have hE := r.lk _ a _ hl
        refine ⟨a, vs, rfl, z5, .inr ⟨r.ex a _ hE, fun z => ?_, .inr (.inl hE)⟩⟩
        have := (r.rE a z.symm).1
        rw [hE] at this
        cases this
      | g _ => cases e1
      | un => cases e1
      | ex _ _ => cases e1
      | fn _ => cases e1
      | lm => cases e1
      | m _ => cases e1
      | row => cases e1⟩

theorem SrcOk.pin {v : V} {its : List D} {lk : Option Nat} (r0 : Rel K R L E F ρ σ rs H) (h : SrcOk K R E ρ σ H F' H' v its lk) : ∃ (a : Addr) (vs : List V) (k : SK) (P : Hp), v = .ref a ∧ DpAll K F' vs its ∧ PinOk K R E F' H H' ρ σ lk P ∧
    (∀ H2, (∀ b o, P b = some o → H2 b = some o) → (∀ b o, F' b = some o → H2 b = some o) → SqK k K H2 a vs) := by
  obtain ⟨a, vs, rfl, hd, q⟩ := h
  rcases q with ⟨k, q⟩ | ⟨q1, q2, q3⟩
  · exact ⟨a, vs, k, fun _ => none, rfl, hd, fun b o e => (nomatch e), fun H2 _ h2 => q.mono (h2 a)⟩
  · refine ⟨a, vs, .l, fun b => if b = a then some (.lst vs) else none, rfl, hd, fun b o e => ?_, fun H2 h1 _ => .inl (.inl (h1 a _ (if_pos rfl)))⟩
    by_cases hb : b = a
    · subst hb
      have e' : (if b = b then some (HO.lst vs) else none) = some o := e
      rw [if_pos rfl] at e'
      cases e'
      exact ⟨q1, q2, .lst, q3⟩
    · have e' : (if b = a then some (HO.lst vs) else none) = some o := e
      rw [if_neg hb] at e'
      cases e'
theorem yAt_ok {vs : List V} {its : List D} (hd : DpAll K F' vs its) : YOk K F' its (YAt vs) := fun i H1 v H2 F1 hi h1 h2 y => by
  obtain ⟨rfl, hv⟩ := y
  have hx : its[i]? = some its[i] := List.getElem?_eq_getElem hi
  obtain ⟨w, hw, hdw⟩ := hd.get hx
  rw [hv] at hw
  cases hw
  exact ⟨_, hx, .inl ⟨rfl, Dp.mono h1 _ _ hdw⟩⟩
theorem di_seq {f : Env → M (List D × Option Nat)} (h : DSrc X R e te f) : DI X R tg e (iSeqK X.K te) f := ⟨pi_seqK h.pe, fun L E ρ σ F H rs its lk rs' Rq r hf k => by
  refine h.sem L E ρ σ F H rs its lk rs' _ r hf fun v F1 H1 s1 h1 => ?_
  obtain ⟨a, vs, kd, P, rfl, hd, pn, hG⟩ := h1.pin r
  have r1 := r.step s1
  refine ⟨kd, a, vs, rfl, hG H1 (fun b o q => (pn b o q).1) r1.fr, k _ F1 H1 s1 ⟨_, _, P, ?_, pn, hG, yAt_ok hd⟩⟩
  have := walk_seqK kd (K := X.K) (a := a) (xs := vs)
  rw [hd.len] at this
  exact this⟩
/-- enumerate -/
def enumD : Nat → List D → List D
  | _, [] => []
  | i, x :: xs => .tuple [.int (i : Nat), x] :: enumD (i + 1) xs
theorem enumD_len : ∀ (i : Nat) (xs : List D), (enumD i xs).length = xs.length
  | _, [] => rfl
  | i, x :: xs => congrArg (· + 1) (enumD_len (i + 1) xs)
theorem enumD_get : ∀ (k : Nat) (xs : List D) (i : Nat) (x : D), xs[i]? = some x → (enumD k xs)[i]? = some (.tuple [.int ((k + i : Nat) : Int), x])
  | k, y :: ys, 0, x, h => by
    simp at h; subst h
    rfl
  | k, y :: ys, i + 1, x, h => by
    simp at h
    have := enumD_get (k + 1) ys i x h
    have e : k + 1 + i = k + (i + 1) := by omega
    rw [e] at this
    simpa [enumD] using this
def iEnumF (f : Env → M (List D × Option Nat)) : Env → M (List D × Option Nat) := fun ρ => bnd (f ρ) fun p => ret (enumD 0 p.1, p.2)
theorem di_enum {f : Env → M (List D × Option Nat)} {elts : List Expr} {kk : Nat} {tpos : Pos} (hgl : Gl X "enumerate") (hm : X.mg "enumerate" = none) (h : DSrc X R e te f) (hs : starEach [e] X.env = (false, eval e X.env) :: starEach [] X.env := by rfl) :
    DI X R (.Tuple elts kk tpos) (.Call (.Name "enumerate" p) [e] [] pos) (iEnumK X.K te) (iEnumF f) := ⟨pi_enumK hgl hm h.pe hs, fun L E ρ σ F H rs its lk rs' Rq r hf k => by
  obtain ⟨⟨xs, lk1⟩, rs1, e1, hf1⟩ := bnd_some hf
  obtain ⟨e2, q2⟩ := ret_some hf1
  cases e2
  subst q2
  refine h.sem L E ρ σ F H rs xs lk1 _ _ r e1 fun v F1 H1 s1 h1 => ?_
  obtain ⟨a, vs, kd, P, rfl, hd, pn, hG⟩ := h1.pin r
  have r1 := r.step s1
  refine ⟨kd, a, vs, rfl, hG H1 (fun b o q => (pn b o q).1) r1.fr, k _ F1 H1 s1 ⟨fun H => SqK kd X.K H a vs, YPair (fun i => some (.int (i : Nat))) (fun i => vs[i]?), P, ?_, pn, hG, ?_⟩⟩
  · have := walk_enumK kd (K := X.K) (a := a) (xs := vs)
    rw [hd.len] at this
    show Walk _ (enumD 0 xs).length _ _
    rw [enumD_len]
    exact this
  · intro i H2 w H3 F2 hi h1 h2 y
    obtain ⟨T, x, y', rfl, hT, rfl, ex, ey⟩ := y
    cases ex
    have hi' : i < xs.length := by
      have hi2 : i < (enumD 0 xs).length := hi
      rw [enumD_len] at hi2
      exact hi2
    have hx : xs[i]? = some xs[i] := List.getElem?_eq_getElem hi'
    obtain ⟨w, hw, hdw⟩ := hd.get hx
    have ey' : vs[i]? = some y' := ey
    rw [ey'] at hw
    cases hw
    refine ⟨_, enumD_get 0 xs i _ hx, .inr (.inl ⟨T, _, _, rfl, hT, rfl, rfl, .cons ?_ (.cons (Dp.mono h1 _ _ hdw) .nil)⟩)⟩
    rw [Nat.zero_add]
    exact Dp.int _⟩
/-- range(a, b) -/
def rngD (lo : Int) : Nat → List D
  | 0 => []
  | n + 1 => .int lo :: rngD (lo + 1) n
theorem rngD_len : ∀ (lo : Int) (n : Nat), (rngD lo n).length = n
  | _, 0 => rfl
  | lo, n + 1 => congrArg (· + 1) (rngD_len (lo + 1) n)
theorem rngD_get : ∀ (lo : Int) (n i : Nat), i < n → (rngD lo n)[i]? = some (.int (lo + i))
  | _, 0, _, h => absurd h (Nat.not_lt_zero _)
  | lo, n + 1, 0, _ => by simp [rngD]
  | lo, n + 1, i + 1, h => by
    have := rngD_get (lo + 1) n i (by omega)
    have e : lo + 1 + (i : Int) = lo + ((i + 1 : Nat) : Int) := by omega
    rw [e] at this
    simpa [rngD] using this
def iRng1F (f : Env → M RV) : Env → M (List D × Option Nat) := fun ρ => bnd (f ρ) fun x => bnd (lft (asInt x)) fun n => if n ≤ 100000 ∧ -100000 ≤ n then ret (rngD 0 n.toNat, none) else fail
def iRng2F (f g : Env → M RV) : Env → M (List D × Option Nat) := fun ρ => bnd (f ρ) fun x => bnd (lft (asInt x)) fun a => bnd (g ρ) fun y => bnd (lft (asInt y)) fun b =>
  if a ≤ 100000 ∧ -100000 ≤ a ∧ b ≤ 100000 ∧ -100000 ≤ b then ret (rngD a (b - a).toNat, none) else fail
theorem rng_ok {lo : Int} {n : Nat} (r : Rel K R L E F' ρ σ rs H') {H : Hp} : IterOk K R E ρ σ H F' H' (Itr lo n) (rngD lo n) none := by
  refine ⟨fun _ => True, YFn fun i => .int (lo + i), fun _ => none, ?_, fun a o e => (nomatch e), fun _ _ _ => trivial, ?_⟩
  · have := walk_range (lo := lo) (n := n)
    rw [rngD_len]
    exact this
  · intro i H1 v H2 F1 hi h1 h2 y
    obtain ⟨rfl, rfl⟩ := y
    rw [rngD_len] at hi
    exact ⟨_, rngD_get lo n i hi, .inl ⟨rfl, Dp.int _⟩⟩
theorem di_range1 {f : Env → M RV} (hgl : Gl X "range") (hm : X.mg "range" = none) (h : DE X R e te f) (hs : starEach [e] X.env = [(false, eval e X.env)] := by rfl) (hs' : starEach [e] X.env = (false, eval e X.env) :: starEach [] X.env := by rfl) :
    DI X R tg (.Call (.Name "range" p) [e] [] pos) (iRng1 (tCons te tNil)) (iRng1F f) := ⟨pi_range1 hgl hm (pa_cons h.pe pa_nil hs') hs, fun L E ρ σ F H rs its lk rs' Rq r hf k => by
  obtain ⟨x, rs1, e1, hf1⟩ := bnd_some hf
  obtain ⟨n, rs2, e2, hf2⟩ := bnd_some hf1
  obtain ⟨e3, q3⟩ := lft_some e2
  subst q3
  by_cases hb : n ≤ 100000 ∧ -100000 ≤ n
  · rw [if_pos hb] at hf2
    obtain ⟨e4, q4⟩ := ret_some hf2
    cases e4
    subst q4
    refine h.sem L E ρ σ F H rs x _ _ r e1 fun v F1 H1 s1 h1 => ?_
    have := h1.int e3
    subst this
    exact ⟨n, rfl, by omega, by omega, k _ F1 H1 s1 (rng_ok (r.step s1))⟩
  · rw [if_neg hb] at hf2
    cases hf2⟩
theorem di_range2 {f g : Env → M RV} (hgl : Gl X "range") (hm : X.mg "range" = none) (h : DE X R e t1 f) (h2 : DE X R e2 t2 g) (hs : starEach [e, e2] X.env = [(false, eval e X.env), (false, eval e2 X.env)] := by rfl) (hs2 : starEach [e2] X.env = [(false, eval e2 X.env)] := by rfl)
    (hq1 : starEach [e, e2] X.env = (false, eval e X.env) :: starEach [e2] X.env := by rfl) (hq2 : starEach [e2] X.env = (false, eval e2 X.env) :: starEach [] X.env := by rfl) :
    DI X R tg (.Call (.Name "range" p) [e, e2] [] pos) (iRng2 (tCons t1 (tCons t2 tNil))) (iRng2F f g) := ⟨pi_range2 hgl hm (pa_cons h.pe (pa_cons h2.pe pa_nil hq2) hq1) hs hs2, fun L E ρ σ F H rs its lk rs' Rq r hf k => by
  obtain ⟨x, rs1, e1, hf1⟩ := bnd_some hf
  obtain ⟨a, rs2, e2, hf2⟩ := bnd_some hf1
  obtain ⟨e3, q3⟩ := lft_some e2
  subst q3
  obtain ⟨y, rs4, e4, hf4⟩ := bnd_some hf2
  obtain ⟨b, rs5, e5, hf5⟩ := bnd_some hf4
  obtain ⟨e6, q6⟩ := lft_some e5
  subst q6
  by_cases hb : a ≤ 100000 ∧ -100000 ≤ a ∧ b ≤ 100000 ∧ -100000 ≤ b
  · rw [if_pos hb] at hf5
    obtain ⟨e7, q7⟩ := ret_some hf5
    cases e7
    subst q7
    refine h.sem L E ρ σ F H rs x _ _ r e1 fun v F1 H1 s1 h1 => ?_
    refine h2.sem L E ρ σ F1 H1 _ y _ _ (r.step s1) e4 fun w F2 H2 s2 h2 => ?_
    have := h1.int e3
    subst this
    have := h2.int e6
    subst this
    exact ⟨a, b, rfl, ⟨by omega, by omega, by omega, by omega⟩, k _ F2 H2 (s1.trans r.row s2) (rng_ok ((r.step s1).step s2))⟩
  · rw [if_neg hb] at hf5
    cases hf5⟩

def toK : RV → SV
  | .d x => .d x
  | .b ds => .k ds
  | .n ds => .k ds
  | .gb _ => .un
  | .gn _ => .un
  | .row => .row
def startE (n : Nat) (xs : List RV) : Env := xs.map (fun x => some (toK x)) ++ List.replicate (n - xs.length) none
/-- a def's body run at its arguments -/
def runDef (n : Nat) (g : Env → M Out) (xs : List RV) : M RV := bnd (g (startE n xs)) fun o => match o with
  | .nx _ => ret (.d .none)
  | .rt x => ret x
  | _ => fail
/-- a def's promise: the function m of its arguments (np of them) -/
def spFn (K : PySem.W.Frag) (np : Nat) (m : List RV → M RV) : Sp := fun vs H Q _ => ∃ (R : RA) (F : Hp) (rs : RS) (xs : List RV) (x : RV) (rs' : RS), Step K R rs F H F H ∧ VRs K R F H H vs xs ∧ xs.length = np ∧ m xs rs = some (x, rs') ∧
  ∀ v F' H', Step K R rs' F H F' H' → VR K R F' H H' v x → Q v H'
theorem VRs.old {F H0 H : Hp} : ∀ {vs : List V} {xs : List RV}, VRs K R F H0 H vs xs → True := fun _ => trivial
/-- data lists as they stand for a call: not new any more -/
def readable : RV → RV
  | .n ds => .b ds
  | .gn c => .gb c
  | x => x
def eFn (m : List RV → M RV) (fa : Env → M (List RV)) : Env → M RV := fun ρ => bnd (fa ρ) fun xs => m (xs.map readable)
theorem VRs.readable {F H0 H : Hp} : ∀ {vs : List V} {xs : List RV}, VRs K R F H0 H vs xs → VRs K R F H H vs (xs.map DV.readable)
  | _, _, .nil => .nil
  | _, _, .cons (x := x) h t => .cons (by
      cases x with
      | d y => exact h
      | b y => exact h
      | gb y => exact h
      | gn y =>
        obtain ⟨a, vs, e1, h1, h0, h2, h3, h4⟩ := h
        exact ⟨a, vs, e1, h1, h3, h4⟩
      | row => exact h
      | n y =>
        obtain ⟨a, vs, e1, h1, h0, h2, h3, h4⟩ := h
        exact ⟨a, vs, e1, h1, h3, h4⟩) (VRs.readable t)
theorem de_fn {k : Nat} {f : Addr} {fd : FuncData} {ps : List Str} {np : Nat} {m : List RV → M RV} {x : Str} {fa : Env → M (List RV)} {k' : Nat} (Fn : FnOk X.prog X.w X.K X.mg X.base CX0 k f fd ps (spFn X.K np m)) (hr : Room k' X.A) (hk' : k ≤ k') (hgl : Gl X x) (hm : X.mg x = some (.ref f)) (hk : PySem.W.keepIn X.K (.ref f) = true)
    (hb : Binds X.K fd ps []) (ha : DA X R (e :: es) ta fa) (hdb : (x == ("__debug__" : Str)) = false := by decide) (he : starEach (e :: es) X.env = (false, eval e X.env) :: starEach es X.env := by rfl) (hpl : (backTo pos (starEach es X.env)).any (·.1) = false := by rfl) :
    DE X R (.Call (.Name x p) (e :: es) [] pos) (tCall (spFn X.K np m) [] E0 ta) (eFn (fun xs => if xs.length = np then m xs else fail) fa) := ⟨pe_call Fn (hr.mono hk') hgl hm hk hb .nil pass0 ha.pa hdb he hpl, fun L E ρ σ F H rs y rs' Q r hf kk => by
  obtain ⟨xs, rs1, e1, hf1⟩ := bnd_some hf
  refine ha.sem L E ρ σ F H rs xs rs1 _ r e1 fun vs F1 H1 s1 h1 => ?_
  have hf1 : (if (xs.map readable).length = np then m (xs.map readable) else fail) rs1 = some (y, rs') := hf1
  have hl : (xs.map readable).length = np := by
    by_cases hl : (xs.map readable).length = np
    · exact hl
    · rw [if_neg hl] at hf1; cases hf1
  rw [if_pos hl] at hf1
  rw [List.append_nil]
  exact ⟨R, F1, rs1, _, y, rs', (r.step s1).refl, h1.readable, hl, hf1, fun v F2 H2 s2 h2 => kk v F2 H2 (s1.trans r.row s2) (h2.older fun a q => s1.back r.row q)⟩⟩
theorem start_get {α : Type} {xs : List α} {n i : Nat} {x : α} (h : (xs.map some ++ List.replicate (n - xs.length) none)[i]? = some (some x)) : xs[i]? = some x := by
  by_cases hi : i < xs.length
  · rw [List.getElem?_append_left (by simpa using hi), List.getElem?_map] at h
    cases e : xs[i]? with
    | none => rw [e] at h; cases h
    | some y => rw [e] at h; cases h; rfl
  · rw [List.getElem?_append_right (by simpa using hi), List.getElem?_replicate] at h
    split at h <;> cases h
theorem VRs.get {F H0 H : Hp} : ∀ {vs : List V} {xs : List RV} {i : Nat} {x : RV}, VRs K R F H0 H vs xs → xs[i]? = some x → ∃ v, vs[i]? = some v ∧ VR K R F H0 H v x
  | _, _, _, _, .nil, h => by simp at h
  | _, _, 0, _, .cons h1 _, h => by
    simp at h; subst h
    exact ⟨_, rfl, h1⟩
  | _, _, i + 1, _, .cons _ h2, h => by
    simp at h
    obtain ⟨v, e, r⟩ := VRs.get h2 h
    exact ⟨v, by simpa using e, r⟩
open Classical in
/-- at a def's entry -/
noncomputable def lockL (R : RA) (H : Hp) (vs : List V) (xs : List RV) (i : Nat) : Option (Addr × List V) := match vs[i]?, xs[i]? with
  | some (.ref a), some x => match toK x with
    | .k _ => if some a = R.row then none else match H a with
      | some (.lst ws) => some (a, ws)
      | _ => none
    | _ => none
  | _, _ => none
open Classical in
theorem lockL_eq {vs : List V} {xs : List RV} {i : Nat} {a : Addr} {x : RV} {ds : List D} {ws : List V} (h1 : vs[i]? = some (.ref a)) (h2 : xs[i]? = some x) (h3 : toK x = .k ds) (h4 : some a ≠ R.row) (h5 : H a = some (.lst ws)) : lockL R H vs xs i = some (a, ws) := by
  unfold lockL
  rw [h1, h2]
  dsimp only
  rw [h3]
  dsimp only
  rw [if_neg h4, h5]
open Classical in
theorem lockL_inv {vs : List V} {xs : List RV} {i : Nat} {a : Addr} {ws : List V} (h : lockL R H vs xs i = some (a, ws)) : some a ≠ R.row ∧ H a = some (.lst ws) := by
  unfold lockL at h
  split at h
  · split at h
    · split at h
      · cases h
      · rename_i hR
        split at h
        · rename_i hh
          cases h
          exact ⟨hR, hh⟩
        · cases h
    · cases h
  · cases h
/-- a table's place -/
def tbAt (K : PySem.W.Frag) (a : Addr) : Prop := ∃ q, (a, q) ∈ tabsOf K
theorem RowOk.noTb {F1 H1 : Hp} {rs1 : RS} (r : RowOk K R rs1 F1 H1) {a : Addr} {ws : List V} (h : H1 a = some (.lst ws)) : ¬ tbAt K a := fun ⟨q, z⟩ => by
  obtain ⟨ps, e⟩ := tabs_at r.tab z
  rw [h] at e; cases e
open Classical in
/-- what the entry knows: neither the row nor a table -/
noncomputable def entE (K : PySem.W.Frag) (R : RA) (H : Hp) : Hp := fun a => if some a = R.row ∨ tbAt K a then none else H a
theorem entE_of {a : Addr} {o : HO} (e : entE K R H a = some o) : some a ≠ R.row ∧ ¬ tbAt K a ∧ H a = some o := by
  unfold entE at e
  split at e
  · cases e
  · rename_i h
    exact ⟨fun z => h (.inl z), fun z => h (.inr z), e⟩
theorem entE_at {a : Addr} (h1 : some a ≠ R.row) (h2 : ¬ tbAt K a) : entE K R H a = H a := by
  unfold entE
  exact if_neg fun z => z.elim h1 h2
theorem entE_row {a : Addr} (h : R.row = some a) : entE K R H a = none := by
  unfold entE
  exact if_pos (.inl h.symm)
open Classical in
noncomputable def lockH (R : RA) (H : Hp) (vs : List V) (xs : List RV) : Nat → Option (Addr × HO) := fun j => if j % 2 = 0 then (lockL R H vs xs (j / 2)).map fun p => (p.1, HO.lst p.2) else none
theorem lockH_inv {R : RA} {H : Hp} {vs : List V} {xs : List RV} {j : Nat} {a : Addr} {u : HO} (h : lockH R H vs xs j = some (a, u)) : ∃ ws, u = .lst ws ∧ some a ≠ R.row ∧ H a = some (.lst ws) := by
  unfold lockH at h
  split at h
  · cases e : lockL R H vs xs (j / 2) with
    | none => rw [e] at h; cases h
    | some p =>
      rw [e] at h
      cases h
      exact ⟨p.2, rfl, lockL_inv (a := p.1) (ws := p.2) e⟩
  · cases h
theorem lockH_at {R : RA} {H : Hp} {vs : List V} {xs : List RV} {i : Nat} {a : Addr} {ws : List V} (h : lockL R H vs xs i = some (a, ws)) : lockH R H vs xs (2 * i) = some (a, .lst ws) := by
  unfold lockH
  rw [if_pos (by omega), show 2 * i / 2 = i by omega, h]
  rfl
open Classical in
theorem Rel.start {N : List Str} {vs : List V} {xs : List RV} (s : Step K R rs F H F H) (h : VRs K R F H H vs xs) : ∃ L, Rel K R L (entE K R H) F (startE N.length xs) (L2.start N vs) rs H := by
  have hl := h.len
  refine ⟨lockH R H vs xs, ?_⟩
  refine ⟨?_, fun a o e => (entE_of e).2.2, fun a o e => .inr fun n z => (entE_of e).2.1 ⟨n, z⟩, s.fin, s.row, fun q e => ⟨entE_row e, s.rF q e⟩, fun i a ws e => ?_, fun i sv e => ?_, fun i j a sv sw e1 _ ox _ _ _ => ?_⟩
  · unfold startE L2.start
    rw [List.length_append, List.length_append, List.length_map, List.length_map, List.length_replicate, List.length_replicate, hl]
  · obtain ⟨ws2, rfl, h1, h2⟩ := lockH_inv e
    rw [entE_at h1 (s.row.noTb h2)]
    exact h2
  · have hx : ∃ x, xs[i]? = some x ∧ sv = toK x := by
      unfold startE at e
      have : (((xs.map toK).map some) ++ List.replicate (N.length - (xs.map toK).length) none)[i]? = some (some sv) := by
        rw [List.map_map, List.length_map]
        exact e
      have q := start_get this
      rw [List.getElem?_map] at q
      cases q2 : xs[i]? with
      | none => rw [q2] at q; cases q
      | some x => rw [q2] at q; exact ⟨x, rfl, (Option.some.inj q).symm⟩
    obtain ⟨x, hx, rfl⟩ := hx
    obtain ⟨v, hv, q⟩ := h.get hx
    refine ⟨v, ?_, ?_⟩
    · unfold L2.start
      have hi := (List.getElem?_eq_some_iff.mp hv).1
      rw [List.getElem?_append_left (by simpa using hi), List.getElem?_map, hv]
      rfl
    · have lst : ∀ (a : Addr) (ws : List V) (ds : List D), v = .ref a → H a = some (.lst ws) → some a ≠ R.row → DpAll K F ws ds → toK x = .k ds → SR K R (lockH R H vs xs) (fun a => if some a = R.row then none else H a) F H i v (.k ds) := fun a ws ds ev h1 h2 h3 ek => by
        subst ev
        exact ⟨a, ws, lockH_at (lockL_eq hv hx ek h2 h1), rfl, h3⟩
      cases x with
      | d y => exact q
      | b ds =>
        obtain ⟨a, ws, ev, h1, h2, h3⟩ := q
        exact lst a ws ds ev h1 h2 h3 rfl
      | n ds =>
        obtain ⟨a, ws, ev, h1, h0, h2, h3, h4⟩ := q
        exact lst a ws ds ev h1 h3 h4 rfl
      | gb _ => exact trivial
      | gn _ => exact trivial
      | row => exact q
  · exfalso
    unfold startE at e1
    have : (((xs.map toK).map some) ++ List.replicate (N.length - (xs.map toK).length) none)[i]? = some (some sv) := by
      rw [List.map_map, List.length_map]
      exact e1
    have q := start_get this
    rw [List.getElem?_map] at q
    cases q2 : xs[i]? with
    | none => rw [q2] at q; cases q
    | some x =>
      rw [q2] at q
      have q3 := Option.some.inj q
      cases x <;> cases q3 <;> exact ox
/-- a def by its body, its code told -/
theorem fun_code {P : Program} {w : World} {mg : Str → Option Value} {base : Heap} {x qual : Str} {st : Stmt} {f : Addr} {fd : FuncData} {N ps : List Str} {k : Nat} {sp : Sp} (Fn : Fun K x qual st f fd) (S : FnScope N ps (defScope st)) (len : ∀ vs H Q E, sp vs H Q E → vs.length = ps.length)
    (go : ∀ (cdv : Value) (A : Around) (outer : List PySem.Env) (s : Shared) (H : Hp) (vs : List V) (Q : VK) (E : XK), fd.code = cdv → Room k (A.deeper (envOfC qual (defScope st) s.heap.objs.size f cdv)) → sp vs H Q E →
      ∃ t, PSs (cxOf CX0 P w K mg base N qual (defScope st) f cdv A outer s H E).nox (defBody st) t ∧ t { nx := fun _ H' => Q .non H', rt := Q } (L2.start N vs) H) : FnOk P w K mg base CX0 (k + 1) f fd ps sp := by
  obtain ⟨c0, d0, kv, dc, pm, an, code, ct, sl, rfl, look, isC⟩ := Fn.ex
  refine fn_of look isC S len fun A outer s H vs Q E room h => ?_
  obtain ⟨t, h1, h2⟩ := go code A outer s H vs Q E rfl room h
  exact ⟨t, h1.nox, h2⟩
/-- THE RULE for a def -/
theorem fn_ok {P : Program} {w : World} {mg : Str → Option Value} {base : Heap} {x qual : Str} {st : Stmt} {f : Addr} {fd : FuncData} {N ps : List Str} {k : Nat} {g : Env → M Out} (Fn : Fun K x qual st f fd) (S : FnScope N ps (defScope st))
    (hbody : ∀ (R : RA) (cdv : Value) (A : Around) (outer : List PySem.Env) (s : Shared) (H : Hp) (E : XK), fd.code = cdv → Room k (A.deeper (envOfC qual (defScope st) s.heap.objs.size f cdv)) →
      ∃ t, DSs (cxOf CX0 P w K mg base N qual (defScope st) f cdv A outer s H E).nox R (defBody st) t g) : FnOk P w K mg base CX0 (k + 1) f fd ps (spFn K ps.length (runDef N.length g)) := by
  refine fun_code Fn S (fun vs H Q E h => ?_) (fun cdv A outer s H vs Q E hcd hr h => ?_)
  · obtain ⟨R, F, rs, xs, x, rs', _, h2, h3, _⟩ := h
    rw [h2.len, h3]
  · obtain ⟨R, F, rs, xs, y, rs', hs, hv, hl, hm, kk⟩ := h
    obtain ⟨t, hb⟩ := hbody R cdv A outer s H E hcd hr
    obtain ⟨L, r⟩ := Rel.start (N := N) hs hv
    have s0 := hs
    refine ⟨t, hb.ps, ?_⟩
    obtain ⟨o, rs1, e1, hf1⟩ := bnd_some hm
    have free : ∀ a, entE K R H a = none → some a ≠ R.row → ¬ tbAt K a → H a = none := fun a e q t => by rwa [entE_at q t] at e
    have fin : ∀ (v : V) (F1 H1 : Hp) (z : RV), Ret K R rs1 (entE K R H) F F1 H1 v z → y = z → rs1 = rs' → Q v H1 := fun v F1 H1 z q ez er => by
      subst ez er
      refine kk v F1 H1 ⟨fun a o e hR n => ?_, q.fs.sub, fun a o e => ?_, q.fr, q.row, q.rF⟩ ?_
      · by_cases t : tbAt K a
        · obtain ⟨m, t⟩ := t
          obtain ⟨ps, et⟩ := tabs_at s0.row.tab t
          rw [e] at et
          cases et
          rcases n with n | n
          · exact absurd rfl (n ps)
          · exact absurd t (n m)
        · exact q.ex a o (by rw [entE_at hR t]; exact e)
      · rcases q.fs.new a o e with z | ⟨z1, z2⟩
        · exact .inl z
        · refine .inr (free a z1 z2 fun ⟨m, t⟩ => ?_)
          obtain ⟨ps, et⟩ := tabs_at q.row.tab t
          rw [q.fr a o e] at et
          cases et
          rcases q.row.fnt a _ e with n | n
          · exact absurd rfl (n ps)
          · exact absurd t (n m)
      · have hv := q.val
        cases y with
        | d y => exact hv
        | n ds =>
          obtain ⟨a, ws, z1, z2, z3, z4, z5, z6⟩ := hv
          exact ⟨a, ws, z1, z2, free a z3 z5 (q.row.noTb z2), z4, z5, z6⟩
        | gn c =>
          obtain ⟨a, ws, z1, z2, z3, z4, z5, z6⟩ := hv
          exact ⟨a, ws, z1, z2, free a z3 z5 (fun ⟨m, t⟩ => by
            obtain ⟨ps, et⟩ := tabs_at q.row.tab t
            rw [z2] at et
            cases et
            rcases z6.fx with n | n
            · exact absurd rfl (n ps)
            · exact absurd t (n m)), z4, z5, z6⟩
        | b _ => exact hv.elim
        | gb _ => exact hv.elim
        | row => exact hv.elim
    refine hb.sem L _ F _ _ rs H o rs1 _ r e1 ?_
    cases o with
    | nx ρ' =>
      obtain ⟨e2, q2⟩ := ret_some hf1
      exact fun σ' F' H' fs r' => fin .non F' H' (.d .none) ⟨fs, r'.ex, r'.fr, r'.row, fun q e => (r'.rE q e).2, .non⟩ e2.symm q2.symm
    | rt z =>
      obtain ⟨e2, q2⟩ := ret_some hf1
      exact fun v F' H' q => fin v F' H' z q e2.symm q2.symm
    | bk ρ' => cases hf1
    | ct ρ' => cases hf1

def sApp (i : Nat) (f : Env → M RV) : Env → M Out := fun ρ => bnd (lft (own? ρ i)) fun ds => bnd (f ρ) fun x => bnd (lft (toD x)) fun d => if ds.length < 100000 then ret (.nx (ρ.set i (some (.o (ds ++ [d]))))) else fail
  where own? (ρ : Env) (i : Nat) : Option (List D) := match ρ[i]? with
    | some (some (.o ds)) => some ds
    | _ => none
theorem own_some {ρ : Env} {i : Nat} {ds : List D} (h : sApp.own? ρ i = some ds) : ρ[i]? = some (some (SV.o ds)) := by
  unfold sApp.own? at h
  cases e : ρ[i]? with
  | none => rw [e] at h; cases h
  | some o =>
    cases o with
    | none => rw [e] at h; cases h
    | some sv =>
      rw [e] at h
      cases sv with
      | o es => cases h; rfl
      | d _ => cases h
      | k _ => cases h
      | g _ => cases h
      | un => cases h
      | ex _ _ => cases h
      | fn _ => cases h
      | lm => cases h
      | m _ => cases h
      | row => cases h
theorem frozen1 {F1 H1 : Hp} (r : Rel K R L E F ρ σ rs H) (s : Step K R rs' F H F1 H1) {v : V} {x : RV} {d : D} (h : VR K R F1 H H1 v x) (e : toD x = some d) : ∃ F2, Step K R rs' F H F2 H1 ∧ Dp K F2 v d := by
  obtain ⟨F2, h1, h2, _⟩ := freeze1 s r.row (fun a q => q) h e
  exact ⟨F2, h1, h2⟩
theorem ds_append {i : Nat} {x : Str} {e : Expr} {te : TE} {f : Env → M RV} {apos p1 spos : Pos} (he : DE X R e te f) (hN : X.N[i]? = some x := by rfl) (hv : Vis X.env.scope x := by first | exact Or.inl rfl | exact Or.inr (Or.inl rfl) | exact Or.inr (Or.inr rfl)) (hd : (x == ("__debug__" : Str)) = false := by decide)
    (hcd : (x == ("__classdict__" : Str)) = false := by decide) (pe : PE X (.Call (.Attribute (.Name x p1) "append" apos) [e] [] pos) (tBM X.K "list" rAppend (tVar i) (tCons te tNil))) (hs : swapsWith (.Call (.Attribute (.Name x p1) "append" apos) [e] [] pos) none spos.line X.env = pure false := by rfl) :
    DS X R (.Expr (.Call (.Attribute (.Name x p1) "append" apos) [e] [] pos) spos) (tDrop (tBM X.K "list" rAppend (tVar i) (tCons te tNil))) (sApp i f) := ⟨ps_expr pe hs, fun L E F ρ σ rs H o rs' D r hf k => by
  obtain ⟨ds, rs1, e1, hf1⟩ := bnd_some hf
  obtain ⟨e2, q2⟩ := lft_some e1
  subst q2
  obtain ⟨x, rs3, e3, hf3⟩ := bnd_some hf1
  obtain ⟨d, rs4, e4, hf4⟩ := bnd_some hf3
  obtain ⟨e5, q5⟩ := lft_some e4
  subst q5
  by_cases hl : ds.length < 100000
  · rw [if_pos hl] at hf4
    obtain ⟨e6, q6⟩ := ret_some hf4
    subst e6 q6
    have eo := own_some e2
    obtain ⟨v, ev, a, vs, rfl, h1, h2, h3, h4, h5⟩ := r.sl i _ eo
    refine ⟨_, ev, .inl ⟨rfl, vs, .inl (.inl h1)⟩, ?_⟩
    refine he.sem L E ρ σ F H _ x _ _ r e3 fun w F1 H1 s1 hw => ?_
    obtain ⟨F2, s2, hd2⟩ := frozen1 r s1 hw e5
    have r2 := r.step s2
    obtain ⟨v', ev', a', vs', ea, k1, k2, k3, k4, k5⟩ := r2.sl i _ eo
    rw [ev] at ev'
    cases ev'
    cases ea
    refine ⟨a, vs', w, rfl, rfl, k1, by rw [k5.len]; exact sz_lt hl, ?_⟩
    exact k σ F2 _ (FStep.ofStep r s2) (r2.change eo ev (k5.append (.cons hd2 .nil)))
  · rw [if_neg hl] at hf4
    cases hf4⟩
/-- x[k] = e -/
def sPut (i : Nat) (f g : Env → M RV) : Env → M Out := fun ρ => bnd (f ρ) fun x => bnd (lft (sApp.own? ρ i)) fun ds => bnd (g ρ) fun y => bnd (lft (asInt y)) fun j => bnd (lft (toD x)) fun d => bnd (lft (ixN ds.length j)) fun m => ret (.nx (ρ.set i (some (.o (ds.set m d)))))
end
end DV

namespace DV
open PySem L2 LamX PyProof.Rows PySem.Spec PySem.W
section
variable {K : PySem.W.Frag}
/-- xs in the order of their keys -/
def byKeys (rev : Bool) (xs : List V) (kz : List D) : List V := ((xs.zip kz).mergeSort (dataLe rev fun p => p.2)).map (·.1)
theorem each_zip : ∀ {xs : List V} {its : List Value} {kz : List D}, Vals xs its → kz.length = xs.length → EachIs (fun v (p : V × D) => L2.RelV p.1 v) its (xs.zip kz)
  | _, _, _, .nil, _ => .nil
  | _ :: _, _ :: _, [], .cons _ _, h => by simp at h
  | _ :: _, _ :: _, k :: kz, .cons r t, h => .cons r (each_zip t (by simpa using h))
theorem vals_each : ∀ {its : List Value} {ps : List (V × D)}, EachIs (fun v (p : V × D) => L2.RelV p.1 v) its ps → Vals (ps.map (·.1)) its
  | _, _, .nil => .nil
  | _, _, .cons r t => .cons r (vals_each t)
theorem zip_snd : ∀ {xs : List V} {kz : List D}, kz.length = xs.length → (xs.zip kz).map (·.2) = kz
  | [], [], _ => rfl
  | [], _ :: _, h => by simp at h
  | _ :: _, [], h => by simp at h
  | x :: xs, k :: kz, h => by
    rw [List.zip_cons_cons, List.map_cons, zip_snd (by simpa using h)]
def isTupNe : D → Bool
  | .tuple (_ :: _) => true
  | _ => false
def isPlain : D → Bool
  | .none => false
  | .tuple _ => false
  | _ => true
def okKeys (kz : List D) : Bool := kz.all (fun x => kz.all (alike x)) && ((kz.all isTupNe || kz.all isPlain) && kz.all fun d => decide (d.depth ≤ 60))
theorem okKeys_of {kz : List D} (h : okKeys kz = true) : AllAlike kz ∧ Sortable kz ∧ ∀ d, d ∈ kz → d.depth ≤ 60 := by
  unfold okKeys at h
  simp only [Bool.and_eq_true, Bool.or_eq_true, List.all_eq_true, decide_eq_true_eq] at h
  obtain ⟨h1, h2, h3⟩ := h
  refine ⟨fun x hx y hy => h1 x hx y hy, ?_, h3⟩
  rcases h2 with h2 | h2
  · refine .inl fun d hd => ?_
    have z := h2 d hd
    match d, z with
    | .tuple (x :: r), _ => exact ⟨x, r, rfl⟩
  · refine .inr fun d hd => ⟨fun z => ?_, fun xs z => ?_⟩
    · have y := h2 d hd
      rw [z] at y
      cases y
    · have y := h2 d hd
      rw [z] at y
      cases y
/-- the items in the order of their keys -/
def sortK (its kz : List D) : List D := ((its.zip kz).mergeSort fun p q => !dataLt q.2 p.2).map (·.1)
theorem sortK_data {F : Hp} {xs : List V} {its kz : List D} (h : DpAll K F xs its) (hl : kz.length = xs.length) : DpAll K F (byKeys false xs kz) (sortK its kz) := by
  have hz : ∀ (xs : List V) (its kz : List D), DpAll K F xs its → kz.length = xs.length → ∃ Z : List (V × D × D), (∀ z ∈ Z, Dp K F z.1 z.2.1) ∧ Z.map (fun z => (z.1, z.2.2)) = xs.zip kz ∧ Z.map (fun z => z.2) = its.zip kz := fun xs => by
    induction xs with
    | nil =>
      intro its kz h hl
      cases h
      have : kz = [] := List.eq_nil_of_length_eq_zero hl
      subst this
      exact ⟨[], fun _ h => (nomatch h), rfl, rfl⟩
    | cons x xs ih =>
      intro its kz h hl
      cases h with
      | cons h1 h2 =>
        rename_i dd dds
        cases kz with
        | nil => simp at hl
        | cons k kz =>
          obtain ⟨Z, a1, a2, a3⟩ := ih _ kz h2 (by simpa using hl)
          refine ⟨(x, dd, k) :: Z, fun z hz => ?_, ?_, ?_⟩
          · rcases List.mem_cons.mp hz with e | e
            · subst e; exact h1
            · exact a1 z e
          · rw [List.map_cons, a2]; rfl
          · rw [List.map_cons, a3]; rfl
  obtain ⟨Z, a1, a2, a3⟩ := hz xs its kz h hl
  have e1 : byKeys false xs kz = (Z.mergeSort fun p q => !dataLt q.2.2 p.2.2).map (·.1) := by
    unfold byKeys
    rw [← a2, ← List.map_mergeSort (r := fun p q : V × D × D => !dataLt q.2.2 p.2.2) (f := fun z : V × D × D => (z.1, z.2.2)) (fun _ _ _ _ => rfl), List.map_map]
    rfl
  have e2 : sortK its kz = (Z.mergeSort fun p q => !dataLt q.2.2 p.2.2).map fun z => z.2.1 := by
    unfold sortK
    rw [← a3, ← List.map_mergeSort (r := fun p q : V × D × D => !dataLt q.2.2 p.2.2) (f := fun z : V × D × D => z.2) (fun _ _ _ _ => rfl), List.map_map]
    rfl
  rw [e1, e2]
  have go : ∀ Z2 : List (V × D × D), (∀ z ∈ Z2, Dp K F z.1 z.2.1) → DpAll K F (Z2.map (·.1)) (Z2.map fun z => z.2.1) := fun Z2 => by
    induction Z2 with
    | nil => exact fun _ => .nil
    | cons z Z2 ih => exact fun h => .cons (h z List.mem_cons_self) (ih fun y hy => h y (List.mem_cons_of_mem _ hy))
  exact go _ fun z hz2 => a1 z (List.mem_mergeSort.mp hz2)
end
section
variable {prog : Program} {w : World} {A : Around} {E : Value → Shared → Prop} {s : Shared} {β : Type} {vs : List Value} {bs : List β} {R : Value → β → Prop} {enc : β → PyData}
/-- sorted of a tuple of data -/
theorem sorted_dataT {l : Addr} {Q : Value → Shared → Prop} (hl : s.heap.IsTuple l vs.toArray) (hz : vs.length ≤ sizeLine) (e : EachIs R vs bs) (er : EachIs (fun v b => ∃ as, Reads s.heap v (enc b) as) vs bs) (hal : AllAlike (bs.map enc)) (hk : Sortable (bs.map enc))
    (hu : ∀ b, b ∈ bs → A.units + 2 + (enc b).depth < cLine)
    (h : ∀ (out : List Value) (h' : Heap) (p : Addr), out.length = bs.length → EachIs R out (bs.mergeSort (dataLe false enc)) → (∀ b o, s.heap.get? b = some o → b < p ∧ h'.get? b = some o) → (∃ e, h'.get? p = some (seqObj "list" out.toArray e)) → Q (.ref p) { s with heap := h' }) :
    wpAny (model prog w) A (call (.builtin "sorted") [.ref l]) Q E s := by
  refine Calls.call_function_entry kind_sorted plain_sorted entry_sorted (args_sorted1 _) ?_
  unfold Builtin.«sorted»
  refine wpAny_bind (m := checkCount "sorted" 1 1 _) (wpAny_pure ?_)
  obtain ⟨o, ho, hc, n, hd⟩ := hl
  refine wpAny_bind (wpAny_collect_seq l (.inr rfl) ho hc hd (fun h' k => ?_) (by simpa using hz))
  refine wpAny_bind (wpAny_newList ?_ hz)
  have hoL : (h'.push (seqObj "list" vs.toArray 0)).get? h'.objs.size = some (seqObj "list" vs.toArray 0) := Heap.get?_push_size _ rfl
  have keep : ∀ b u, s.heap.get? b = some u → b < h'.objs.size ∧ (h'.push (seqObj "list" vs.toArray 0)).get? b = some u := fun b u q => ⟨Heap.lt_size (k b u q), Heap.get?_push_of_some _ (k b u q)⟩
  show wpAny _ _ _ _ _ { s with heap := h'.push (seqObj "list" vs.toArray 0) }
  have er' : EachIs (fun v b => ∃ as, Reads (sortingHeap (h'.push (seqObj "list" vs.toArray 0)) h'.objs.size vs) v (enc b) as) vs bs := er.mono fun _ _ ⟨as, r⟩ => ⟨as, PyProof.Rows.Reads.keeps (fun b u q => sortingHeap_old (Nat.ne_of_lt (keep b u q).1) (keep b u q).2) r⟩
  refine wpAny_bind (wpAny_holding (wpAny_call_entry slot_list_sort ⟨_, hoL, rfl⟩ entry_list_sort (list_sort_vals (κ := dataKind (sortingHeap (h'.push (seqObj "list" vs.toArray 0)) h'.objs.size vs) (bs.map enc)) hoL (SortsAt.data (s := { s with heap := sortingHeap (h'.push (seqObj "list" vs.toArray 0)) h'.objs.size vs }) (each_map (R := fun v d => ∃ as, Reads (sortingHeap (h'.push (seqObj "list" vs.toArray 0)) h'.objs.size vs) v d as) enc er') hal hk (bound_map hu)) hz ⟨_, rfl, ?_⟩) (args_list_sort _)))
  refine wpAny_pure ⟨_, rfl, ?_⟩
  refine h _ _ h'.objs.size (by rw [sortVals_length false rfl]; exact e.length) (sortVals_data false e er' hal) (fun b u q => ⟨(keep b u q).1, ?_⟩) (sortedHeap_at (n := 0) hoL)
  have hlt := (keep b u q).1
  rw [sortedHeap_old (Nat.ne_of_lt hlt) (by rw [size_push']; exact Nat.lt_succ_of_lt hlt)]
  exact (keep b u q).2
end
end DV

namespace SrtO
open PySem PyProof.Rows Srt
section
variable {prog : Program} {w : World} {A : Around} {E : Value → Shared → Prop} {s : Shared}
/-- sorted of a tuple -/
theorem sorted_ordT {l : Addr} {vs : List Value} {ltv : Value → Value → Bool} {Q : Value → Shared → Prop} (O : Swo ltv) (hl : s.heap.IsTuple l vs.toArray) (hz : vs.length ≤ sizeLine)
    (hS : 2 ≤ vs.length → ∀ (h₁ : Heap) (a : Addr), h₁.get? a = some (seqObj "list" vs.toArray 0) → SortableO prog w A.in1.in1 { s with heap := h₁ } a vs ltv)
    (h : ∀ (out : List Value) (h' : Heap) (p : Addr), Srtd ltv out → Stb ltv out vs → (∀ b o, s.heap.get? b = some o → b < p ∧ h'.get? b = some o) → (∃ e, h'.get? p = some (seqObj "list" out.toArray e)) → Q (.ref p) { s with heap := h' }) :
    wpAny (model prog w) A (call (.builtin "sorted") [.ref l]) Q E s := by
  refine Calls.call_function_entry kind_sorted plain_sorted entry_sorted (args_sorted1 _) ?_
  unfold Builtin.«sorted»
  refine wpAny_bind (m := checkCount "sorted" 1 1 _) (wpAny_pure ?_)
  obtain ⟨o, ho, hc, n, hd⟩ := hl
  refine wpAny_bind (wpAny_collect_seq l (.inr rfl) ho hc hd (fun h' k => ?_) (by simpa using hz))
  refine wpAny_bind (wpAny_newList ?_ hz)
  have hoL : (h'.push (seqObj "list" vs.toArray 0)).get? h'.objs.size = some (seqObj "list" vs.toArray 0) := Heap.get?_push_size _ rfl
  have keep : ∀ b u, s.heap.get? b = some u → b < h'.objs.size ∧ (h'.push (seqObj "list" vs.toArray 0)).get? b = some u := fun b u q => ⟨Heap.lt_size (k b u q), Heap.get?_push_of_some _ (k b u q)⟩
  show wpAny _ _ _ _ _ { s with heap := h'.push (seqObj "list" vs.toArray 0) }
  refine wpAny_bind (wpAny_holding (wpAny_call_entry slot_list_sort ⟨_, hoL, rfl⟩ entry_list_sort (list_sort_ord O hoL hz (fun h2 => hS h2 _ _ hoL) fun out hs hb => ⟨_, rfl, ?_⟩) (args_list_sort _)))
  refine wpAny_pure ⟨_, rfl, ?_⟩
  refine h out _ h'.objs.size hs hb (fun b u q => ⟨(keep b u q).1, ?_⟩) (sortedHeap_at (n := 0) hoL)
  have hlt := (keep b u q).1
  rw [sortedHeap_old (Nat.ne_of_lt hlt) (by rw [size_push']; exact Nat.lt_succ_of_lt hlt)]
  exact (keep b u q).2
end
end SrtO
namespace DV
open PySem L2 PyProof.Rows
def insI (x : Int) : List Int → List Int
  | [] => [x]
  | y :: r => if x ≤ y then x :: y :: r else y :: insI x r
def sortI : List Int → List Int
  | [] => []
  | x :: r => insI x (sortI r)
theorem insI_perm (x : Int) : ∀ l, (insI x l).Perm (x :: l)
  | [] => .refl _
  | y :: r => by
    unfold insI
    split
    · exact .refl _
    · exact ((insI_perm x r).cons y).trans (.swap x y r)
theorem sortI_perm : ∀ l, (sortI l).Perm l
  | [] => .refl _
  | x :: r => (insI_perm x _).trans ((sortI_perm r).cons x)
theorem insI_sorted (x : Int) : ∀ l : List Int, l.Pairwise (· ≤ ·) → (insI x l).Pairwise (· ≤ ·)
  | [], _ => List.pairwise_singleton _ _
  | y :: r, h => by
    unfold insI
    obtain ⟨h1, h2⟩ := List.pairwise_cons.mp h
    split
    · rename_i e
      refine List.pairwise_cons.mpr ⟨fun z hz => ?_, h⟩
      rcases List.mem_cons.mp hz with q | q
      · subst q; exact e
      · exact Int.le_trans e (h1 z q)
    · rename_i e
      refine List.pairwise_cons.mpr ⟨fun z hz => ?_, insI_sorted x r h2⟩
      rcases List.mem_cons.mp ((insI_perm x r).mem_iff.mp hz) with q | q
      · subst q; omega
      · exact h1 z q
theorem sortI_sorted : ∀ l : List Int, (sortI l).Pairwise (· ≤ ·)
  | [] => .nil
  | x :: r => insI_sorted x _ (sortI_sorted r)
theorem sorted_uniq : ∀ {xs ys : List Int}, xs.Perm ys → xs.Pairwise (· ≤ ·) → ys.Pairwise (· ≤ ·) → xs = ys
  | [], ys, h, _, _ => h.nil_eq
  | x :: xs, [], h, _, _ => absurd h.length_eq (by simp)
  | x :: xs, y :: ys, h, hx, hy => by
    obtain ⟨a1, a2⟩ := List.pairwise_cons.mp hx
    obtain ⟨b1, b2⟩ := List.pairwise_cons.mp hy
    have e : x = y := by
      have h1 : x ≤ y := by
        rcases List.mem_cons.mp (h.mem_iff.mpr List.mem_cons_self) with q | q
        · omega
        · exact a1 _ q
      have h2 : y ≤ x := by
        rcases List.mem_cons.mp (h.mem_iff.mp List.mem_cons_self) with q | q
        · omega
        · exact b1 _ q
      omega
    subst e
    rw [sorted_uniq (List.perm_cons _ |>.mp h) a2 b2]
def rSortA0 (K : PySem.W.Frag) : List V → Hp → VK → Prop := fun vs H Q => ∃ (a : Addr) (ns : List Int), vs = [V.ref a] ∧ (SqL K H a (ns.map V.int) ∨ SqT K H a (ns.map V.int)) ∧
  ∀ p : Addr, H p = none → Q (.ref p) (upd H p (.lst ((sortI ns).map V.int)))
theorem cr_sortA0 {X : Cx} : CallR X (.builtin "sorted") (rSortA0 X.K) := by
  intro pins s σ H vs us Q I r h
  obtain ⟨a, ns, rfl, hs, q⟩ := h
  rcases hs with hs | hs
  · exact cr_sortedI pins s σ H [V.ref a] us Q I r ⟨a, ns, rfl, hs, fun ns' p h1 h2 hp => by
      have e : ns' = sortI ns := sorted_uniq (h1.trans (sortI_perm ns).symm) h2 (sortI_sorted ns)
      rw [e]
      exact q p hp⟩
  · obtain ⟨its, rv, hl, hz⟩ := I.tuple hs
    rw [Vals.ref1 r]
    have hi := rv.ints
    refine SrtO.sorted_ordT SrtO.swo_int hl (by rw [← rv.length]; exact hz) (fun h2 h₁ a' _ => SrtO.ints_sortable hi h2) fun out h' p h1 h2 kp ⟨e, he⟩ => ?_
    obtain ⟨k1, k2, k3⟩ := SrtO.ints_out hi h1 h2
    have e : out.map SrtO.iv = sortI ns := sorted_uniq (k2.trans (sortI_perm ns).symm) k3 (sortI_sorted ns)
    rw [e] at k1 k2
    have hlen : ((sortI ns).map V.int).length ≤ sizeLine := by
      rw [List.length_map, k2.length_eq]
      rw [List.length_map] at hz
      exact hz
    have hg : s.heap.get? p = none := by
      cases q : s.heap.get? p with
      | none => rfl
      | some u => exact absurd (kp p u q).1 (Nat.lt_irrefl _)
    have hn := I.hok.gone hg
    exact ⟨.ref p, upd H p (.lst ((sortI ns).map V.int)), I.laidN (t' := s.toks) (fun b o e => (kp b o e).2) hg hn ⟨hlen, out, _, vals_of_ints k1, he⟩, rfl, q _ hn⟩
/-- data of one kind -/
def rSortD (K : PySem.W.Frag) : List V → Hp → VK → Prop := fun vs H Q => ∃ (a : Addr) (xs : List V) (ds : List D), vs = [V.ref a] ∧ (SqL K H a xs ∨ SqT K H a xs) ∧ DpAll K H xs ds ∧ PySem.W.AllAlike ds ∧ PySem.W.Sortable ds ∧ (∀ d, d ∈ ds → d.depth ≤ 60) ∧
  ∀ p : Addr, H p = none → Q (.ref p) (upd H p (.lst (byKeys false xs ds)))
section
open PySem.Spec PySem.W
theorem cr_sortD {X : Cx} (hu : X.A.units + 65 < cLine) : CallR X (.builtin "sorted") (rSortD X.K) := by
  intro pins s σ H vs us Q I r h
  obtain ⟨a, xs, ds, rfl, hs, hd, hal, hk, hdp, q⟩ := h
  rw [Vals.ref1 r]
  have go : ∀ its : List Value, Vals xs its → ∃ bs : List (V × D), bs = xs.zip ds ∧ bs.map (·.2) = ds ∧ EachIs (fun v (p : V × D) => L2.RelV p.1 v) its bs ∧ EachIs (fun v (p : V × D) => ∃ as, Reads s.heap v p.2 as) its bs := fun its rv => by
    refine ⟨_, rfl, zip_snd hd.len.symm, each_zip rv hd.len.symm, ?_⟩
    have z : ∀ {xs : List V} {its : List Value} {ds : List D}, Vals xs its → DpAll X.K H xs ds → EachIs (fun v (p : V × D) => ∃ as, Reads s.heap v p.2 as) its (xs.zip ds) := fun {xs} => by
      induction xs with
      | nil => intro its ds rv hd; cases rv; exact .nil
      | cons x xs ih =>
        intro its ds rv hd
        cases rv with
        | cons r1 r2 =>
          cases hd with
          | cons h1 h2 => exact .cons (Dp.reads I _ _ _ h1 r1) (ih r2 h2)
    exact z rv hd
  rcases hs with hs | hs
  · obtain ⟨its, rv, hl, hz⟩ := I.list hs
    obtain ⟨bs, e1, e2, h1, h2⟩ := go its rv
    have hlb : bs.length ≤ sizeLine := by rw [← h1.length, ← rv.length]; exact hz
    refine sorted_data (enc := fun p : V × D => p.2) hl.isList h1 h2 (by rw [e2]; exact hal) (by rw [e2]; exact hk) hlb (fun b hb => ?_) fun out ho eo => ?_
    · have := hdp b.2 (by rw [← e2]; exact List.mem_map.mpr ⟨b, hb, rfl⟩)
      omega
    · obtain ⟨ep, he'⟩ := PyProof.Rows.sortedAll_at s.heap its (List.toArray out)
      have hv := vals_each eo
      have eb : (bs.mergeSort (dataLe false fun p : V × D => p.2)).map (·.1) = byKeys false xs ds := by unfold byKeys; rw [e1]
      rw [eb] at hv
      have hlen : (byKeys false xs ds).length ≤ sizeLine := by rw [hv.length, ho]; exact hlb
      exact ⟨.ref _, upd H (s.heap.objs.size + 1) (.lst (byKeys false xs ds)), I.laid (t' := s.toks) (fun _ _ => PyProof.Rows.sortedAll_old) (Nat.le_succ _) ⟨hlen, out, ep, hv, he'⟩, rfl, q _ (I.hok.fresh (Nat.le_succ _))⟩
  · obtain ⟨its, rv, hl, hz⟩ := I.tuple hs
    obtain ⟨bs, e1, e2, h1, h2⟩ := go its rv
    have hlb : bs.length ≤ sizeLine := by rw [← h1.length, ← rv.length]; exact hz
    refine sorted_dataT (enc := fun p : V × D => p.2) hl (by rw [← rv.length]; exact hz) h1 h2 (by rw [e2]; exact hal) (by rw [e2]; exact hk) (fun b hb => ?_) fun out h' p ho eo kp ⟨e, he⟩ => ?_
    · have := hdp b.2 (by rw [← e2]; exact List.mem_map.mpr ⟨b, hb, rfl⟩)
      omega
    · have hv := vals_each eo
      have eb : (bs.mergeSort (dataLe false fun p : V × D => p.2)).map (·.1) = byKeys false xs ds := by unfold byKeys; rw [e1]
      rw [eb] at hv
      have hlen : (byKeys false xs ds).length ≤ sizeLine := by rw [hv.length, ho]; exact hlb
      have hg : s.heap.get? p = none := by
        cases q : s.heap.get? p with
        | none => rfl
        | some u => exact absurd (kp p u q).1 (Nat.lt_irrefl _)
      have hn := I.hok.gone hg
      exact ⟨.ref p, upd H p (.lst (byKeys false xs ds)), I.laidN (t' := s.toks) (fun b o e => (kp b o e).2) hg hn ⟨hlen, out, _, hv, he⟩, rfl, q _ hn⟩
end
def rSortA (K : PySem.W.Frag) : List V → Hp → VK → Prop := fun vs H Q => rSortA0 K vs H Q ∨ rSortD K vs H Q
theorem cr_sortA {X : Cx} (hu : X.A.units + 65 < cLine) : CallR X (.builtin "sorted") (rSortA X.K) := by
  intro pins s σ H vs us Q I r h
  rcases h with h | h
  · exact cr_sortA0 pins s σ H vs us Q I r h
  · exact cr_sortD hu pins s σ H vs us Q I r h
section
variable {K : PySem.W.Frag} {R : RA}
def gSort : List RV → Option RV := c1 fun x => match items x with
  | some ds => match intsOf ds with
    | some js => some (.n ((sortI js).map PyData.int))
    | none => if okKeys ds = true then some (.n (sortK ds ds)) else none
  | none => none
theorem csem_sort : CSem K R (rSortA K) gSort := fun F H0 H rs vs xs z Q s hv e kk => by
  obtain ⟨x, rfl, ee⟩ := c1_some e
  clear e
  have e := ee
  clear ee
  obtain ⟨v, rfl, hx⟩ := hv.one
  cases e1 : items x with
  | none => rw [e1] at e; cases e
  | some ds =>
    simp only [e1] at e
    cases e2 : intsOf ds with
    | none =>
      rw [e2] at e
      by_cases hok : okKeys ds = true
      · simp only [hok, if_true] at e
        cases e
        obtain ⟨a, ws, rfl, h1, h2⟩ := hx.items s e1
        obtain ⟨k1, k2, k3⟩ := okKeys_of hok
        refine .inr ⟨a, ws, ds, rfl, h1, Dp.monoA s.fin _ _ h2, k1, k2, k3, fun l hl => ?_⟩
        obtain ⟨s4, hF, hR⟩ := Step.new_lst (vs := byKeys false ws ds) s hl
        exact kk _ F _ s4 ⟨l, _, rfl, upd_same, hl, hF, hR, sortK_data h2 h2.len.symm⟩
      · simp only [hok] at e
        cases e
    | some js =>
      rw [e2] at e
      cases e
      obtain ⟨a, ws, rfl, h1, h2⟩ := hx.items s e1
      have hw := h2.intsV e2
      subst hw
      refine .inl ⟨a, js, rfl, h1, fun l hl => ?_⟩
      obtain ⟨s4, hF, hR⟩ := Step.new_lst (vs := (sortI js).map V.int) s hl
      exact kk _ F _ s4 ⟨l, _, rfl, upd_same, hl, hF, hR, DpAll.ofInts _⟩
end
end DV

namespace DV
open PySem L2 PyProof.Rows
section
variable {X : Cx} {K : PySem.W.Frag} {R : RA} {L : Nat → Option (Addr × HO)} {E F F' H H' : Hp} {ρ ρ' : Env} {σ σ' : L2.St} {rs rs' : RS}
variable {S S' : List Nat} {tg it elt e e2 c : Expr} {es ifs : List Expr} {g : TG} {gs : TGs} {hg : D → Env → Option Env} {hgs : List D → Env → Option Env} {pos p : Pos} {st : Stmt} {body : List Stmt} {tb : TS} {tt : TT} {te t1 t2 : TE} {ta : TA} {wi : TI}
theorem rg_data {F : Hp} (lo : Int) : ∀ n : Nat, DpAll K F ((List.range n).map fun i => V.int (lo + (i : Nat))) (rngD lo n) := fun n => by
  have go : ∀ (n : Nat) (lo : Int), DpAll K F ((List.range n).map fun i => V.int (lo + (i : Nat))) (rngD lo n) := fun n => by
    induction n with
    | zero => exact fun lo => .nil
    | succ n ih =>
      intro lo
      rw [List.range_succ_eq_map, List.map_cons, List.map_map]
      have e : (fun i : Nat => V.int (lo + (i : Nat))) ∘ Nat.succ = fun i : Nat => V.int ((lo + 1) + (i : Nat)) := by
        funext i
        show V.int (lo + ((i + 1 : Nat) : Int)) = _
        congr 1
        omega
      rw [e]
      show DpAll K F (V.int (lo + ((0 : Nat) : Int)) :: _) (.int lo :: rngD (lo + 1) n)
      refine .cons ?_ (ih (lo + 1))
      have z : lo + ((0 : Nat) : Int) = lo := by omega
      rw [z]
      exact .int lo
  exact go n lo
def RgSem (K : PySem.W.Frag) (R : RA) (t : L2.St → Hp → (Int → Int → Hp → Prop) → Prop) (f : Env → M (Int × Int)) : Prop :=
  ∀ (L : Nat → Option (Addr × HO)) (E : Hp) (ρ : Env) (σ : L2.St) (F H : Hp) (rs : RS) (x : Int × Int) (rs' : RS) (Q : Int → Int → Hp → Prop), Rel K R L E F ρ σ rs H → f ρ rs = some (x, rs') →
    (∀ F' H', Step K R rs' F H F' H' → Q x.1 x.2 H') → t σ H Q
structure DRg (X : Cx) (R : RA) (e : Expr) (t : L2.St → Hp → (Int → Int → Hp → Prop) → Prop) (f : Env → M (Int × Int)) : Prop where
  pr : PRg X e t
  sem : RgSem X.K R t f
def rg1F (f : Env → M RV) : Env → M (Int × Int) := fun ρ => bnd (f ρ) fun x => bnd (lft (asInt x)) fun n => ret (0, n)
theorem drg_1 {f : Env → M RV} (hgl : Gl X "range") (hm : X.mg "range" = none) (h : DE X R e te f) (hs : starEach [e] X.env = (false, eval e X.env) :: starEach [] X.env := by rfl) : DRg X R (.Call (.Name "range" p) [e] [] pos) (tRg1 te) (rg1F f) :=
  ⟨prg_1 hgl hm h.pe hs, fun L E ρ σ F H rs x rs' Q r hf k => by
    obtain ⟨v, rs1, e1, hf1⟩ := bnd_some hf
    obtain ⟨n, rs2, e2, hf2⟩ := bnd_some hf1
    obtain ⟨e3, q3⟩ := lft_some e2
    obtain ⟨e4, q4⟩ := ret_some hf2
    subst e4 q4 q3
    exact h.sem L E ρ σ F H rs v _ _ r e1 fun v1 F1 H1 s1 h1 => ⟨n, h1.int e3, k F1 H1 s1⟩⟩
def okRg (a b : Int) : Bool := decide (-1000000 ≤ a) && (decide (a ≤ 1000000) && (decide (-1000000 ≤ b) && decide (b ≤ 1000000)))
theorem okRg_of {a b : Int} (h : okRg a b = true) : RgOk a b := by
  unfold okRg at h
  simp only [Bool.and_eq_true, decide_eq_true_eq] at h
  obtain ⟨h1, h2, h3, h4⟩ := h
  refine ⟨by omega, by omega, by omega, by omega, ?_⟩
  have : (2 : Nat) ^ 24 = 16777216 := by decide
  omega
def eListRg (f : Env → M (Int × Int)) : Env → M RV := fun ρ => bnd (f ρ) fun x => if okRg x.1 x.2 = true then ret (.n (rngD x.1 (x.2 - x.1).toNat)) else fail
def eTupRg (f : Env → M (Int × Int)) : Env → M RV := fun ρ => bnd (f ρ) fun x => if okRg x.1 x.2 = true then ret (.d (.tuple (rngD x.1 (x.2 - x.1).toNat))) else fail
theorem de_listRg {t : L2.St → Hp → (Int → Int → Hp → Prop) → Prop} {f : Env → M (Int × Int)} (hc : X.calm = true) (hgl : Gl X "list") (hm : X.mg "list" = none) (h : DRg X R e t f) (na : starEach [e] X.env = (false, eval e X.env) :: starEach [] X.env := by rfl) : DE X R (.Call (.Name "list" p) [e] [] pos) (tLstRg t) (eListRg f) :=
  ⟨pe_listRg hc hgl hm h.pr na, fun L E ρ σ F H rs x rs' Q r hf k => by
    obtain ⟨v, rs1, e1, hf1⟩ := bnd_some hf
    by_cases hb : okRg v.1 v.2 = true
    · rw [if_pos hb] at hf1
      obtain ⟨e4, q4⟩ := ret_some hf1
      subst e4 q4
      refine h.sem L E ρ σ F H rs v _ _ r e1 fun F1 H1 s1 => ⟨okRg_of hb, fun q hq => ?_⟩
      obtain ⟨s2, hF, hR⟩ := Step.new_lst (vs := rgV v.1 v.2) (r.step s1).refl hq
      exact k _ F1 _ (s1.trans r.row s2) ⟨q, _, rfl, upd_same, s1.back r.row hq, hF, hR, rg_data _ _⟩
    · rw [if_neg hb] at hf1
      cases hf1⟩
end
end DV

namespace L2
open PySem
theorem DpAll.eraseIdx {K : PySem.W.Frag} {F : Hp} (n : Nat) {vs : List V} {ds : List PyData} (h : DpAll K F vs ds) : DpAll K F (vs.eraseIdx n) (ds.eraseIdx n) := by
  rw [List.eraseIdx_eq_take_drop_succ, List.eraseIdx_eq_take_drop_succ]
  exact DpAll.append (h.take n) (h.drop (n + 1))
end L2
namespace DV
open PySem L2 PyProof.Rows
section
variable {X : Cx} {K : PySem.W.Frag} {R : RA} {L : Nat → Option (Addr × HO)} {E F F' H H' : Hp} {ρ ρ' : Env} {σ σ' : L2.St} {rs rs' : RS}
variable {S S' : List Nat} {tg it elt e e2 c : Expr} {es ifs : List Expr} {g : TG} {gs : TGs} {hg : D → Env → Option Env} {hgs : List D → Env → Option Env} {pos p : Pos} {st : Stmt} {body : List Stmt} {tb : TS} {tt : TT} {te t1 t2 : TE} {ta : TA} {wi : TI}
def popIx (es : List D) (n : Int) : Option (Nat × D) := if -1000000 ≤ n ∧ n ≤ 1000000 then (match seqIndex? n es.length with
  | some k => (es[k]?).map fun y => (k, y)
  | none => none) else none
theorem popIx_some {es : List D} {n : Int} {k : Nat} {y : D} (h : popIx es n = some (k, y)) : -(2 ^ 63) ≤ n ∧ n < 2 ^ 63 ∧ seqIndex? n es.length = some k ∧ es[k]? = some y := by
  unfold popIx at h
  by_cases hb : -1000000 ≤ n ∧ n ≤ 1000000
  · rw [if_pos hb] at h
    cases e : seqIndex? n es.length with
    | none => rw [e] at h; cases h
    | some j =>
      simp only [e] at h
      cases e2 : es[j]? with
      | none => rw [e2] at h; cases h
      | some z =>
        rw [e2] at h
        cases h
        exact ⟨by omega, by omega, rfl, e2⟩
  · rw [if_neg hb] at h
    cases h
def sPopApp (i j : Nat) (f : Env → M RV) : Env → M Out := fun ρ => bnd (lft (sApp.own? ρ i)) fun ds => bnd (lft (sApp.own? ρ j)) fun es => bnd (f ρ) fun x => bnd (lft (asInt x)) fun n => bnd (lft (popIx es n)) fun kk =>
  if ds.length < 100000 ∧ i ≠ j then ret (.nx ((ρ.set j (some (.o (es.eraseIdx kk.1)))).set i (some (.o (ds ++ [kk.2]))))) else fail
theorem ssem_popApp {i j : Nat} {f : Env → M RV} (he : ESem K R te f) : SSem K R (tDrop (tBM K "list" rAppend (tVar i) (tCons (tBM K "list" rPopAt (tVar j) (tCons te tNil)) tNil))) (sPopApp i j f) := fun L E F ρ σ rs H o rs' D r hf k => by
  obtain ⟨ds, rs1, e1, hf1⟩ := bnd_some hf
  obtain ⟨e2, q2⟩ := lft_some e1
  subst q2
  obtain ⟨es, rs3, e3, hf3⟩ := bnd_some hf1
  obtain ⟨e4, q4⟩ := lft_some e3
  subst q4
  obtain ⟨x, rs5, e5, hf5⟩ := bnd_some hf3
  obtain ⟨n, rs6, e6, hf6⟩ := bnd_some hf5
  obtain ⟨e7, q7⟩ := lft_some e6
  subst q7
  obtain ⟨⟨kk, y⟩, rs8, e8, hf8⟩ := bnd_some hf6
  obtain ⟨e9, q9⟩ := lft_some e8
  subst q9
  by_cases hl : ds.length < 100000 ∧ i ≠ j
  · rw [if_pos hl] at hf8
    obtain ⟨e10, q10⟩ := ret_some hf8
    subst e10 q10
    have eoi := own_some e2
    have eoj := own_some e4
    obtain ⟨b1, b2, b3, b4⟩ := popIx_some e9
    obtain ⟨v, evi, a, vs, rfl, h1, _⟩ := r.sl i _ eoi
    obtain ⟨v2, evj, b, ws, rfl, g1, _⟩ := r.sl j _ eoj
    refine ⟨_, evi, .inl ⟨rfl, vs, .inl (.inl h1)⟩, ?_⟩
    refine ⟨_, evj, .inl ⟨rfl, ws, .inl (.inl g1)⟩, ?_⟩
    refine he L E ρ σ F H _ x _ _ r e5 fun w F1 H1 s1 hw => ?_
    have hwi := hw.int e7
    subst hwi
    have r1 := r.step s1
    obtain ⟨v', ev', b', ws', eb, k1, k2, k3, k4, k5⟩ := r1.sl j _ eoj
    rw [evj] at ev'
    cases ev'
    cases eb
    obtain ⟨yv, ey, hy⟩ := k5.get b4
    refine ⟨b, ws', n, kk, yv, rfl, rfl, k1, b1, b2, by rw [k5.len]; exact b3, ey, ?_⟩
    have r2 := r1.change eoj evj (DpAll.eraseIdx kk k5)
    have eoi2 : (ρ.set j (some (SV.o (es.eraseIdx kk))))[i]? = some (some (SV.o ds)) := by
      rw [List.getElem?_set_ne (Ne.symm hl.2)]
      exact eoi
    obtain ⟨v3, ev3, a', vs', ea, m1, m2, m3, m4, m5⟩ := r2.sl i _ eoi2
    rw [evi] at ev3
    cases ev3
    cases ea
    refine ⟨a, vs', yv, rfl, rfl, m1, by rw [m5.len]; exact sz_lt hl.1, ?_⟩
    exact k σ F1 _ (FStep.ofStep r s1) (r2.change eoi2 evi (m5.append (.cons hy .nil)))
  · rw [if_neg hl] at hf8
    cases hf8
theorem ds_popApp {i j : Nat} {f : Env → M RV} (he : ESem X.K R te f) (pe : PE X e (tBM X.K "list" rAppend (tVar i) (tCons (tBM X.K "list" rPopAt (tVar j) (tCons te tNil)) tNil))) (hs : swapsWith e none pos.line X.env = pure false := by rfl) :
    DS X R (.Expr e pos) (tDrop (tBM X.K "list" rAppend (tVar i) (tCons (tBM X.K "list" rPopAt (tVar j) (tCons te tNil)) tNil))) (sPopApp i j f) := ⟨ps_expr pe hs, ssem_popApp he⟩
end
end DV


namespace DV
open PySem L2 PyProof.Rows
section
variable {X : Cx} {K : PySem.W.Frag} {R : RA} {L : Nat → Option (Addr × HO)} {E F F' H H' : Hp} {ρ ρ' : Env} {σ σ' : L2.St} {rs rs' : RS}
variable {S S' : List Nat} {tg it elt e e2 c : Expr} {es ifs : List Expr} {g : TG} {gs : TGs} {hg : D → Env → Option Env} {hgs : List D → Env → Option Env} {pos p : Pos} {st : Stmt} {body : List Stmt} {tb : TS} {tt : TT} {te t1 t2 : TE} {ta : TA} {wi : TI}
def sPar3 (i j l : Nat) (fa : Env → M (List RV)) : Env → M Out := fun ρ => bnd (fa ρ) fun xs => match xs with
  | [x, y, z] => bnd (lft (toS x)) fun sx => bnd (lft (toS y)) fun sy => bnd (lft (toS z)) fun sz => ret (.nx (((ρ.set i (some sx)).set j (some sy)).set l (some sz)))
  | _ => fail
end
end DV

namespace DV
open PySem L2 PyProof.Rows
def ddI : List Int → List Int
  | [] => []
  | x :: r => if r.elem x = true then ddI r else x :: ddI r
theorem mem_ddI (k : Int) : ∀ l : List Int, k ∈ ddI l ↔ k ∈ l
  | [] => Iff.rfl
  | x :: r => by
    unfold ddI
    by_cases h : r.elem x = true
    · rw [if_pos h, mem_ddI k r, List.mem_cons]
      have hx : x ∈ r := List.elem_iff.mp h
      exact ⟨.inr, fun q => q.elim (fun e => e ▸ hx) id⟩
    · rw [if_neg h, List.mem_cons, mem_ddI k r, List.mem_cons]
theorem ddI_nodup : ∀ l : List Int, (ddI l).Nodup
  | [] => .nil
  | x :: r => by
    unfold ddI
    by_cases h : r.elem x = true
    · rw [if_pos h]; exact ddI_nodup r
    · rw [if_neg h]
      exact List.nodup_cons.mpr ⟨fun q => h (List.elem_iff.mpr ((mem_ddI x r).mp q)), ddI_nodup r⟩
theorem ddI_of_nodup : ∀ l : List Int, l.Nodup → ddI l = l
  | [], _ => rfl
  | x :: r, h => by
    obtain ⟨h1, h2⟩ := List.nodup_cons.mp h
    unfold ddI
    rw [if_neg (fun q => h1 (List.elem_iff.mp q)), ddI_of_nodup r h2]
section
variable {X : Cx} {K : PySem.W.Frag} {R : RA}
def lenSetOf : RV → Option D
  | .d (.tuple ds) => match intsOf ds with
    | some js => if js.length ≤ 1000 then some (.int ((ddI js).length : Nat)) else none
    | none => none
  | x => match items x with
    | some ds => match intsOf ds with
      | some js => if js.length ≤ 1000 ∧ js.Nodup then some (.int ((ddI js).length : Nat)) else none
      | none => none
    | none => none
theorem VR.isTup {F H0 H : Hp} {rs : RS} {v : V} {ds : List D} (s : Step K R rs F H F H) (h : VR K R F H0 H v (.d (.tuple ds))) : ∃ a vs, v = .ref a ∧ SqT K H a vs ∧ DpAll K F vs ds := by
  cases h with
  | tup h1 h2 => exact ⟨_, _, rfl, ex_t (s.fin _) h1, h2⟩
def eLenSet (f : Env → M RV) : Env → M RV := fun ρ => bnd (f ρ) fun x => bnd (lft (lenSetOf x)) fun d => ret (.d d)
end
end DV

namespace DV
open PySem L2 PyProof.Rows
theorem ddI_len : ∀ l : List Int, (ddI l).length ≤ l.length
  | [] => Nat.le_refl _
  | x :: r => by
    unfold ddI
    have := ddI_len r
    by_cases h : r.elem x = true
    · rw [if_pos h, List.length_cons]
      omega
    · rw [if_neg h, List.length_cons, List.length_cons]
      omega
section
variable {X : Cx} {K : PySem.W.Frag} {R : RA}
def sortSetOf : RV → Option (List Int)
  | .d (.tuple ds) => match intsOf ds with
    | some js => if js.length < 64 then some (sortI (ddI js)) else none
    | none => none
  | _ => none
def eSortSet (f : Env → M RV) : Env → M RV := fun ρ => bnd (f ρ) fun x => bnd (lft (sortSetOf x)) fun js => ret (.n (js.map PyData.int))
end
end DV

namespace DV
open PySem L2 PyProof.Rows
section
variable {X : Cx} {K : PySem.W.Frag} {R : RA} {L : Nat → Option (Addr × HO)} {E F F' H H' : Hp} {ρ ρ' : Env} {σ σ' : L2.St} {rs rs' : RS}
variable {S S' : List Nat} {tg it elt e e2 c : Expr} {es ifs : List Expr} {g : TG} {gs : TGs} {hg : D → Env → Option Env} {hgs : List D → Env → Option Env} {pos p : Pos} {st : Stmt} {body : List Stmt} {tb : TS} {tt : TT} {te t1 t2 : TE} {ta : TA} {wi : TI}
theorem rs_sub : RSem K R (rI0 fun i j => .int (i - j)) gSubI := rsem_I0 fun F i j => .int _
theorem rs_fdiv : RSem K R (rI CDiv fun i j => .int (i / j)) gFdiv := rsem_I cDiv_ok fun F i j => .int _
theorem rs_mod : RSem K R (rI (fun _ j => 0 < j) fun i j => .int (i % j)) gMod := rsem_I (fun i j h => of_decide_eq_true h) fun F i j => .int _
theorem rs_pow : RSem K R (rI CPow fun i j => .int (i ^ j.toNat)) gPow := rsem_I cPow_ok fun F i j => .int _
theorem rs_lt : RSem K R (rI0 fun i j => .bl (decide (i < j))) gLt := rsem_I0 fun F i j => .bl _
theorem rs_le : RSem K R (rI0 fun i j => .bl (decide (i ≤ j))) gLe := rsem_I0 fun F i j => .bl _
theorem rs_gt : RSem K R (rI0 fun i j => .bl (decide (j < i))) gGt := rsem_I0 fun F i j => .bl _
theorem rs_ge : RSem K R (rI0 fun i j => .bl (decide (j ≤ i))) gGe := rsem_I0 fun F i j => .bl _
abbrev gIs := gIsN false
abbrev gIsNot := gIsN true
theorem rm65 {k : Nat} {A : Around} (r : Room k A) : A.units + 65 < cLine := by have := r.un; omega
theorem rm64 {k : Nat} {A : Around} (r : Room k A) : A.units + 64 < cLine := r.units
/-- a def that may be called -/
def Cal (P : Program) (w : World) (K : PySem.W.Frag) (mg : Str → Option Value) (base : Heap) (x : Str) (k : Nat) (ps : List Str) (np : Nat) (m : List RV → M RV) : Prop :=
  ∃ (f : Addr) (fd : FuncData), FnOk P w K mg base CX0 k f fd ps (spFn K np m) ∧ mg x = some (.ref f) ∧ PySem.W.keepIn K (.ref f) = true ∧ Binds K fd ps []
theorem de_call {k : Nat} {ps : List Str} {np : Nat} {m : List RV → M RV} {x : Str} {fa : Env → M (List RV)} {k' : Nat} (C : Cal X.prog X.w X.K X.mg X.base x k ps np m) (hr : Room k' X.A) (hk' : k ≤ k') (hgl : Gl X x) (ha : DA X R (e :: es) ta fa)
    (hdb : (x == ("__debug__" : Str)) = false := by decide) (he : starEach (e :: es) X.env = (false, eval e X.env) :: starEach es X.env := by rfl) (hpl : (backTo pos (starEach es X.env)).any (·.1) = false := by rfl) :
    DE X R (.Call (.Name x p) (e :: es) [] pos) (tCall (spFn X.K np m) [] E0 ta) (eFn (fun xs => if xs.length = np then m xs else fail) fa) := by
  obtain ⟨f, fd, h1, h2, h3, h4⟩ := C
  exact de_fn h1 hr hk' hgl h2 h3 h4 ha hdb he hpl
theorem de_gI {x : Str} {i : Int} (hg : Gl X x) (hm : ∃ tk, X.mg x = some (.int i tk)) (hd : (x == ("__debug__" : Str)) = false := by decide) : DE X R (.Name x pos) (tC (.int i)) (eC (.int i)) := by
  obtain ⟨tk, h⟩ := hm
  exact de_globI hg h hd
end
end DV
namespace DV
open PySem L2
section
variable {X : Cx} {R : RA} {e ei : Expr} {te ti : TE} {f g : Env → M RV} {pos : Pos}
abbrev ePart (f : Env → M RV) : Env → M (Option Int) := fun ρ => bnd (f ρ) fun x => bnd (lft (asInt x)) fun i => ret (some i)
theorem ds_appendF {i : Nat} {x : Str} {apos p1 spos : Pos} (he : DE X R e te f) (pe : PE X e te → PE X (.Call (.Attribute (.Name x p1) "append" apos) [e] [] pos) (tBM X.K "list" rAppend (tVar i) (tCons te tNil))) (hN : X.N[i]? = some x := by rfl) (hv : Vis X.env.scope x := by first | exact Or.inl rfl | exact Or.inr (Or.inl rfl) | exact Or.inr (Or.inr rfl)) (hd : (x == ("__debug__" : Str)) = false := by decide)
    (hcd : (x == ("__classdict__" : Str)) = false := by decide) (hs : swapsWith (.Call (.Attribute (.Name x p1) "append" apos) [e] [] pos) none spos.line X.env = pure false := by rfl) :
    DS X R (.Expr (.Call (.Attribute (.Name x p1) "append" apos) [e] [] pos) spos) (tDrop (tBM X.K "list" rAppend (tVar i) (tCons te tNil))) (sApp i f) := ds_append he hN hv hd hcd (pe he.pe) hs
theorem ds_popAppF {i j : Nat} {x y : Str} {apos bpos cpos p1 p2 spos : Pos} (he : DE X R e te f) (pe : PE X e te → PE X (.Call (.Attribute (.Name x p1) "append" apos) [.Call (.Attribute (.Name y p2) "pop" bpos) [e] [] cpos] [] pos) (tBM X.K "list" rAppend (tVar i) (tCons (tBM X.K "list" rPopAt (tVar j) (tCons te tNil)) tNil)))
    (hs : swapsWith (.Call (.Attribute (.Name x p1) "append" apos) [.Call (.Attribute (.Name y p2) "pop" bpos) [e] [] cpos] [] pos) none spos.line X.env = pure false := by rfl) :
    DS X R (.Expr (.Call (.Attribute (.Name x p1) "append" apos) [.Call (.Attribute (.Name y p2) "pop" bpos) [e] [] cpos] [] pos) spos) (tDrop (tBM X.K "list" rAppend (tVar i) (tCons (tBM X.K "list" rPopAt (tVar j) (tCons te tNil)) tNil))) (sPopApp i j f) := ds_popApp he.sem (pe he.pe) hs
end
end DV

namespace DV
open PySem L2 PyProof.Rows
section
variable {X : Cx} {K : PySem.W.Frag} {R : RA} {L : Nat → Option (Addr × HO)} {E F F' H H' : Hp} {ρ ρ' : Env} {σ σ' : L2.St} {rs rs' : RS}
variable {S S' : List Nat} {tg it elt e e2 c : Expr} {es ifs : List Expr} {g : TG} {gs : TGs} {hg : D → Env → Option Env} {hgs : List D → Env → Option Env} {pos p : Pos} {st : Stmt} {body : List Stmt} {tb : TS} {tt : TT} {te t1 t2 : TE} {ta : TA} {wi : TI}
def rowCell (k : Nat) (rs : RS) : Option D := match k with
  | 0 => some (.list (rs.ns.map PyData.int))
  | 1 => some (.int (rs.i : Int))
  | 2 => some (.int rs.s)
  | 3 => some (.int rs.c)
  | _ => none
def eRow (i k : Nat) : Env → M RV := fun ρ => bnd (lft (vget ρ i)) fun x => match x with
  | .row => fun rs => match rowCell k rs with
    | some d => some (.d d, rs)
    | none => none
  | _ => fail
theorem rowCell_at {a : Addr} {d : D} {k : Nat} (h : rowCell k rs = some d) (hs : SqL K F a (rs.ns.map V.int)) : ∃ v, [V.ref a, .int (rs.i : Int), .int rs.s, .int rs.c][k]? = some v ∧ Dp K F v d := by
  match k, h with
  | 0, h => cases h; exact ⟨_, rfl, .lst hs (DpAll.ofInts _)⟩
  | 1, h => cases h; exact ⟨_, rfl, .int _⟩
  | 2, h => cases h; exact ⟨_, rfl, .int _⟩
  | 3, h => cases h; exact ⟨_, rfl, .int _⟩
theorem de_row (i k : Nat) {x : Str} {j : Nat} {p2 : Pos} (hv' : DE X R (.Name x p) (tVar i) (eVar i)) (hs : PlainIx (.Constant (.int (k : Int)) j p2) := by exact fun _ _ => rfl) :
    DE X R (.Subscript (.Name x p) (.Constant (.int (k : Int)) j p2) pos) (tOp (rIx X.K) (tVar i) (tC (.int (k : Int)))) (eRow i k) := ⟨(de_ix hv' (de_int (R := R)) hs).pe, fun L E ρ σ F H rs x rs' Q r hf kk => by
  obtain ⟨y, rs1, e1, hf1⟩ := bnd_some hf
  obtain ⟨e2, q2⟩ := lft_some e1
  subst q2
  cases y with
  | row =>
    obtain ⟨v, ev, hv⟩ := r.get e2
    obtain ⟨r0, eR, rfl⟩ := hv
    have hf2 : (match rowCell k rs1 with | some d => some (RV.d d, rs1) | none => none) = some (x, rs') := hf1
    cases e3 : rowCell k rs1 with
    | none => rw [e3] at hf2; cases hf2
    | some d =>
      rw [e3] at hf2
      cases hf2
      obtain ⟨a, h1, h2, h3⟩ := r.row.at_ r0 eR
      obtain ⟨w, ew, hw⟩ := rowCell_at e3 h2
      refine ⟨_, ev, .inl ⟨r0, _, (k : Int), w, rfl, rfl, .inl (.inl h1), atI_nat ew, kk w F H r.refl hw⟩⟩
  | d _ => cases hf1
  | b _ => cases hf1
  | n _ => cases hf1
  | gb _ => cases hf1
  | gn _ => cases hf1⟩
def rowPut (k : Nat) (v : Int) (rs : RS) : Option RS := match k with
  | 1 => if 0 ≤ v then some { rs with i := v.toNat } else none
  | 2 => some { rs with s := v }
  | 3 => some { rs with c := v }
  | _ => none
def sRowPut (i k : Nat) (f : Env → M RV) : Env → M Out := fun ρ => bnd (f ρ) fun x => bnd (lft (asInt x)) fun v => bnd (lft (vget ρ i)) fun y => match y with
  | .row => fun rs => match rowPut k v rs with
    | some rs' => some (.nx ρ, rs')
    | none => none
  | _ => fail
theorem rowPut_at {a : Addr} {v : Int} {k : Nat} (h : rowPut k v rs = some rs') : rs'.ns = rs.ns ∧ ixN [V.ref a, .int (rs.i : Int), .int rs.s, .int rs.c].length (k : Int) = some k ∧
    [V.ref a, .int (rs.i : Int), .int rs.s, .int rs.c].set k (.int v) = [V.ref a, .int (rs'.i : Int), .int rs'.s, .int rs'.c] := by
  match k, h with
  | 1, h =>
    unfold rowPut at h
    by_cases hv : 0 ≤ v
    · rw [if_pos hv] at h
      cases h
      refine ⟨rfl, rfl, ?_⟩
      show [V.ref a, .int v, .int rs.s, .int rs.c] = [V.ref a, .int (v.toNat : Int), .int rs.s, .int rs.c]
      rw [Int.toNat_of_nonneg hv]
    · rw [if_neg hv] at h
      cases h
  | 2, h => cases h; exact ⟨rfl, rfl, rfl⟩
  | 3, h => cases h; exact ⟨rfl, rfl, rfl⟩
theorem Rel.rowput (r : Rel K R L E F ρ σ rs H) {r0 a : Addr} (eR : R.row = some r0) (hn : rs'.ns = rs.ns) (h2 : SqL K F a (rs.ns.map V.int)) (h3 : rs.ns.length ≤ 63) : Rel K R L E F ρ σ rs' (upd H r0 (.lst [V.ref a, .int (rs'.i : Int), .int rs'.s, .int rs'.c])) where
  len := r.len
  ent := r.ent
  ex := fun b o e => by
    have hb : b ≠ r0 := fun q => by
      have := (r.rE r0 eR).1
      rw [← q, e] at this
      cases this
    rw [upd_ne hb]
    exact r.ex b o e
  fr := fun b o e => by
    have hb : b ≠ r0 := fun q => by
      have := (r.rE r0 eR).2
      rw [← q, e] at this
      cases this
    rw [upd_ne hb]
    exact r.fr b o e
  row := ⟨fun r1 e1 => by
    rw [eR] at e1
    cases e1
    exact ⟨a, upd_same, by rw [hn]; exact h2, by rw [hn]; exact h3⟩, tabs_upd r.row.tab (.inr (by
      obtain ⟨_, h, _⟩ := r.row.at_ r0 eR
      exact ⟨_, h⟩)), r.row.fnt⟩
  rE := r.rE
  lk := r.lk
  sl := fun i sv e => by
    obtain ⟨v, ev, q⟩ := r.sl i sv e
    refine ⟨v, ev, ?_⟩
    cases sv with
    | d x => exact q
    | k ds => exact q
    | row => exact q
    | o ds =>
      obtain ⟨b, vs, e1, h1, g2, g3, g4, g5⟩ := q
      refine ⟨b, vs, e1, ?_, g2, g3, g4, g5⟩
      rw [upd_ne (fun z => g4 (by rw [eR, z]))]
      exact h1
    | g ds =>
      obtain ⟨b, vs, e1, h1, g2, g3, g4, g5⟩ := q
      refine ⟨b, vs, e1, ?_, g2, g3, g4, g5⟩
      rw [upd_ne (fun z => g4 (by rw [eR, z]))]
      exact h1
    | un => exact trivial
    | ex _ _ => exact q
    | fn _ => exact q
    | lm => exact q
    | m _ => exact q
  own := r.own
theorem ds_rowPut (i k : Nat) {x : Str} {j : Nat} {p1 p2 : Pos} {f : Env → M RV} (he : DE X R e te f) (hv' : DE X R (.Name x p1) (tVar i) (eVar i)) (hpg : PG X (.Subscript (.Name x p1) (.Constant (.int (k : Int)) j p2) pos) (gSub (tVar i) (tC (.int (k : Int))) rSetL))
    {spos : Pos} (hs : swapsWithSole [.Subscript (.Name x p1) (.Constant (.int (k : Int)) j p2) pos] e spos.line X.env = pure false := by rfl) (hw : swappedStores [.Subscript (.Name x p1) (.Constant (.int (k : Int)) j p2) pos] e X.env = pure none := by rfl)
    (h1 : (assignEach [.Subscript (.Name x p1) (.Constant (.int (k : Int)) j p2) pos] X.env).map (·.2) = [assign (.Subscript (.Name x p1) (.Constant (.int (k : Int)) j p2) pos) X.env] := by rfl) :
    DS X R (.Assign [.Subscript (.Name x p1) (.Constant (.int (k : Int)) j p2) pos] e spos) (tAsg te (gSub (tVar i) (tC (.int (k : Int))) rSetL)) (sRowPut i k f) := ⟨ps_asg he.pe hpg hs hw h1, fun L E F ρ σ rs H o rs' D r hf kk => by
  obtain ⟨x, rs1, e1, hf1⟩ := bnd_some hf
  obtain ⟨v, rs2, e2, hf2⟩ := bnd_some hf1
  obtain ⟨e3, q3⟩ := lft_some e2
  obtain ⟨y, rs4, e4, hf4⟩ := bnd_some hf2
  obtain ⟨e5, q5⟩ := lft_some e4
  subst q5 q3
  cases y with
  | row =>
    have hf5 : (match rowPut k v rs4 with | some rs' => some (Out.nx ρ, rs') | none => none) = some (o, rs') := hf4
    cases e6 : rowPut k v rs4 with
    | none => rw [e6] at hf5; cases hf5
    | some rs6 =>
      rw [e6] at hf5
      cases hf5
      refine he.sem L E ρ σ F H rs x _ _ r e1 fun w F1 H1 s1 h1 => ?_
      have hwi := h1.int e3
      subst hwi
      have r1 := r.step s1
      obtain ⟨u, eu, hu⟩ := r1.get e5
      obtain ⟨r0, eR, rfl⟩ := hu
      obtain ⟨a, g1, g2, g3⟩ := r1.row.at_ r0 eR
      obtain ⟨n1, n2, n3⟩ := rowPut_at (a := a) e6
      refine ⟨_, eu, r0, _, (k : Int), k, rfl, rfl, g1, n2, ?_⟩
      rw [n3]
      exact kk σ F1 _ (FStep.ofStep r s1) (r1.rowput eR n1 g2 g3)
  | d _ => cases hf4
  | b _ => cases hf4
  | n _ => cases hf4
  | gb _ => cases hf4
  | gn _ => cases hf4⟩

def spLaw (K : PySem.W.Frag) : Sp := fun vs H Q _ => ∃ (a : Addr) (ns : List Int), vs = [.ref a] ∧ LamX.Tabs (tabsOf K) H ∧ SqL K H a (ns.map V.int) ∧ ns.length ≤ 63 ∧ ∀ H', Q (.bl true) H'
/-- the law's names behind the row's making -/
def lawE (n : Nat) : Env := none :: some .row :: List.replicate (n - 2) none
theorem law_ok {P : Program} {w : World} {mg : Str → Option Value} {base : Heap} {x qual : Str} {st : Stmt} {f : Addr} {fd : FuncData} {N : List Str} {k : Nat} {g : Env → M Out} {y : Str} {seed : Int} {s0 : Stmt} {rest : List Stmt} (Fn : Fun K x qual st f fd) (S : FnScope N [y] (defScope st)) (hN : 2 ≤ N.length)
    (hbd : defBody st = s0 :: rest)
    (hbody : ∀ (cdv : Value) (A : Around) (outer : List PySem.Env) (s : Shared) (H : Hp) (E : XK), Room k (A.deeper (envOfC qual (defScope st) s.heap.objs.size f cdv)) →
      PS (cxOf CX0 P w K mg base N qual (defScope st) f cdv A outer s H E).nox s0 (tAsg (tLst (tCons (tVar 0) (tCons (tC (.int 0)) (tCons (tC (.int seed)) (tCons (tC (.int 0)) tNil))))) (gName 1)) ∧
      ∃ t, ∀ R, DSs (cxOf CX0 P w K mg base N qual (defScope st) f cdv A outer s H E).nox R rest t g)
    (hlaw : ∀ ns : List Int, ns.length ≤ 63 → ∃ rs', g (lawE N.length) ⟨ns, 0, seed, 0⟩ = some (.rt (.d (.bool true)), rs')) : FnOk P w K mg base CX0 (k + 1) f fd [y] (spLaw K) := by
  refine Fn.ok S (fun vs H Q E h => ?_) (fun cdv A outer s H vs Q E hr h => ?_)
  · obtain ⟨a, ns, rfl, _⟩ := h
    rfl
  · obtain ⟨a, ns, rfl, hT, hS0, hlen, q⟩ := h
    obtain ⟨h0, t, ht⟩ := hbody cdv A outer s H E hr
    rw [hbd]
    refine ⟨_, pss_cons h0 (ht ⟨none, none⟩).ps, ?_⟩
    obtain ⟨rs', hl⟩ := hlaw ns hlen
    have hst : L2.start N [V.ref a] = some (V.ref a) :: List.replicate (N.length - 1) none := rfl
    rw [hst]
    refine ⟨V.ref a, rfl, ?_⟩
    refine ⟨by show 4 ≤ sizeLine; exact sz_of (by decide), fun r hr0 => ?_⟩
    have hNl : N.length - 1 = (N.length - 2) + 1 := by omega
    have hF : ∀ b o, entE K ⟨none, none⟩ H b = some o → (upd H r (.lst [V.ref a, .int 0, .int seed, .int 0])) b = some o := fun b o e => by
      have e := (entE_of e).2.2
      rw [upd_ne (ne_of_none e hr0)]
      exact e
    have hX : ∀ b o, entE K ⟨none, none⟩ H b = some o → Fx K b o := fun b o e => .inr fun n z => (entE_of e).2.1 ⟨n, z⟩
    have hN0 : entE K ⟨none, none⟩ H r = none := by
      cases e : entE K ⟨none, none⟩ H r with
      | none => rfl
      | some o =>
        have e2 := (entE_of e).2.2
        rw [hr0] at e2
        cases e2
    have hS : SqL K (entE K ⟨none, none⟩ H) a (ns.map V.int) := by
      by_cases t : tbAt K a
      · obtain ⟨n, t⟩ := t
        obtain ⟨ps, et⟩ := tabs_at hT t
        rcases hS0 with (z | ⟨o, z⟩) | z
        · rw [et] at z; cases z
        · rw [et] at z; cases z
        · exact .inr z
      · exact ex_l (fun o e => (entE_at (R := ⟨none, none⟩) (fun z => by cases z) t).trans e) hS0
    have rel : Rel K ⟨some r, none⟩ (fun _ => none) (entE K ⟨none, none⟩ H) (entE K ⟨none, none⟩ H) (lawE N.length) ((some (V.ref a) :: List.replicate (N.length - 1) none).set 1 (some (V.ref r))) ⟨ns, 0, seed, 0⟩ (upd H r (.lst [V.ref a, .int 0, .int seed, .int 0])) := by
      rw [hNl, List.replicate_succ]
      refine ⟨?_, hF, hX, hF, ⟨fun r1 e1 => ?_, tabs_upd hT (.inl hr0), hX⟩, fun r1 e1 => ?_, fun i b vs e1 => ?_, fun i sv e1 => ?_, fun i j b sv sw e1 e2 ox oy e3 e4 => ?_⟩
      · show (List.replicate (N.length - 2) (none : Option SV)).length + 1 + 1 = (List.replicate (N.length - 2) (none : Option V)).length + 1 + 1
        rw [List.length_replicate, List.length_replicate]
      · cases e1
        exact ⟨a, upd_same, hS, hlen⟩
      · cases e1
        exact ⟨hN0, hN0⟩
      · cases e1
      · match i, e1 with
        | 0, e1 => cases e1
        | 1, e1 =>
          cases e1
          exact ⟨_, rfl, r, rfl, rfl⟩
        | i + 2, e1 =>
          have e2 : (List.replicate (N.length - 2) (none : Option SV))[i]? = some (some sv) := e1
          have e3 := List.mem_of_getElem? e2
          rw [List.mem_replicate] at e3
          cases e3.2
      · match i, e1 with
        | 0, e1 => cases e1
        | 1, e1 => cases e1; cases ox
        | i + 2, e1 =>
          have e5 : (List.replicate (N.length - 2) (none : Option SV))[i]? = some (some sv) := e1
          have e6 := List.mem_of_getElem? e5
          rw [List.mem_replicate] at e6
          cases e6.2
    refine (ht ⟨some r, none⟩).sem (fun _ => none) (entE K ⟨none, none⟩ H) (entE K ⟨none, none⟩ H) (lawE N.length) _ _ _ _ rs' _ rel hl ?_
    intro v F' H' hret
    have hv : Dp K F' v (.bool true) := hret.val
    cases hv
    exact q H'
end
end DV

namespace DV
open PySem L2
section
variable {X : Cx} {K : PySem.W.Frag} {R : RA} {L : Nat → Option (Addr × HO)} {E F F' H H' : Hp} {ρ ρ' : Env} {σ σ' : L2.St} {rs rs' : RS}
variable {S S' : List Nat} {tg it elt e e2 c : Expr} {es ifs : List Expr} {pos p : Pos} {te t1 t2 : TE} {ta : TA} {wi : TI}
def zipD : List D → List D → List D
  | x :: xs, y :: ys => .tuple [x, y] :: zipD xs ys
  | _, _ => []
def joinLk : Option Nat → Option Nat → Option (Option Nat)
  | none, l => some l
  | some i, none => some (some i)
  | some i, some j => if i = j then some (some i) else none
def iZipF (f g : Env → M (List D × Option Nat)) : Env → M (List D × Option Nat) := fun ρ => bnd (f ρ) fun p => bnd (g ρ) fun q => bnd (lft (joinLk p.2 q.2)) fun l => ret (zipD p.1 q.1, l)
theorem SrcOk.any {v : V} {its : List D} {lk l : Option Nat} (h : SrcOk K R E ρ σ H F' H' v its lk) (e : lk = none ∨ lk = l) : SrcOk K R E ρ σ H F' H' v its l := by
  rcases e with e | e
  · subst e
    obtain ⟨a, vs, rfl, hd, q⟩ := h
    refine ⟨a, vs, rfl, hd, ?_⟩
    rcases q with q | ⟨q1, q2, q3⟩
    · exact .inl q
    · refine .inr ⟨q1, q2, ?_⟩
      rcases q3 with z | z | ⟨i, ds, z, _⟩
      · exact .inl z
      · exact .inr (.inl z)
      · cases z
  · subst e; exact h
end
end DV

namespace DV
open PySem L2 PyProof.Rows
section
variable {X : Cx} {K : PySem.W.Frag} {R : RA} {e e2 e3 : Expr} {pos p : Pos} {t1 t2 t3 : TE}
def zip3D : List D → List D → List D → List D
  | x :: xs, y :: ys, z :: zs => .tuple [x, y, z] :: zip3D xs ys zs
  | _, _, _ => []
def iZip3F (f g h : Env → M (List D × Option Nat)) : Env → M (List D × Option Nat) := fun ρ => bnd (f ρ) fun p => bnd (g ρ) fun q => bnd (h ρ) fun r => bnd (lft (joinLk p.2 q.2)) fun l => bnd (lft (joinLk l r.2)) fun l2 => ret (zip3D p.1 q.1 r.1, l2)
end
end DV

namespace DV
open PySem L2
section
variable {X : Cx} {K : PySem.W.Frag} {R : RA} {L : Nat → Option (Addr × HO)} {E F F' H H' : Hp} {ρ ρ' : Env} {σ σ' : L2.St} {rs rs' : RS}
variable {S S' S1 : List Nat} {tg it tg1 it1 elt e c : Expr} {es ifs ifs1 : List Expr} {g g1 : TG} {hg hg1 : D → Env → Option Env} {pos p : Pos} {tt tt1 : TT} {te : TE} {wi wi1 : TI}
def lc2F (tg : D → Env → Option Env) (tst : Env → M Bool) (fi1 : Env → M (List D × Option Nat)) (vs1 : List Nat) (tg1 : D → Env → Option Env) (tst1 : Env → M Bool) (el : Env → M RV) (ρ : Env) : List D → M (List D)
  | [] => ret []
  | x :: xs => bnd (lft (tg x ρ)) fun ρ1 => bnd (tst ρ1) fun b => if b = true then bnd (fi1 ρ1) fun q => bnd (lcF tg1 tst1 el (wipeE ρ1 vs1) q.1) fun d1 => bnd (lc2F tg tst fi1 vs1 tg1 tst1 el ρ xs) fun ds => ret (d1 ++ ds) else lc2F tg tst fi1 vs1 tg1 tst1 el ρ xs
def eLc2 (fi : Env → M (List D × Option Nat)) (vs : List Nat) (tg : D → Env → Option Env) (tst : Env → M Bool) (fi1 : Env → M (List D × Option Nat)) (vs1 : List Nat) (tg1 : D → Env → Option Env) (tst1 : Env → M Bool) (el : Env → M RV) : Env → M RV := fun ρ =>
  bnd (fi ρ) fun p => bnd (lc2F tg tst fi1 vs1 tg1 tst1 el (wipeE ρ vs) p.1) fun ds => if ds.length ≤ 100000 then ret (.n ds) else fail
end
end DV

namespace DV
open PySem L2 PySem.W
section
variable {X : Cx} {K : PySem.W.Frag} {R : RA}
def cmpOk (d e : D) : Bool := alike d e && (!isNoneD d && decide (d.depth ≤ 60))
def gCmpA (ki : Int → Int → Bool) (kd : D → D → Bool) : RV → RV → Option RV := fun x y => match asInt x, asInt y with
  | some i, some j => some (.d (.bool (ki i j)))
  | _, _ => match viewD x, viewD y with
    | some d, some e => if cmpOk d e = true then some (.d (.bool (kd d e))) else none
    | _, _ => none
abbrev gLtA := gCmpA (fun i j => decide (i < j)) dataLt
abbrev gGtA := gCmpA (fun i j => decide (j < i)) fun d e => dataLt e d
abbrev gLeA := gCmpA (fun i j => decide (i ≤ j)) fun d e => !dataLt e d
abbrev gGeA := gCmpA (fun i j => decide (j ≤ i)) fun d e => !dataLt d e
end
end DV

namespace DV
open PySem L2 PyProof.Rows
section
variable {X : Cx} {K : PySem.W.Frag} {R : RA} {L : Nat → Option (Addr × HO)} {E F F' H H' : Hp} {ρ ρ' : Env} {σ σ' : L2.St} {rs rs' : RS} {pos : Pos}
def sPar4 (i j l m : Nat) (fa : Env → M (List RV)) : Env → M Out := fun ρ => bnd (fa ρ) fun xs => match xs with
  | [x, y, z, w] => bnd (lft (toS x)) fun sx => bnd (lft (toS y)) fun sy => bnd (lft (toS z)) fun sz => bnd (lft (toS w)) fun sw => ret (.nx ((((ρ.set i (some sx)).set j (some sy)).set l (some sz)).set m (some sw)))
  | _ => fail
end
end DV




namespace DV
open PySem L2 LamX PyProof.Rows PySem.Spec PySem.W
def colS (f : Env → M RV) : Env → M (List D) := fun ρ => bnd (f ρ) fun x => lft (items x)
def colR (f : Env → M (Int × Int)) : Env → M (List D) := fun ρ => bnd (f ρ) fun x => if okRg x.1 x.2 = true then ret (rngD x.1 (x.2 - x.1).toNat) else fail
section
variable {X : Cx} {R : RA} {K : PySem.W.Frag} {e : Expr} {te : TE}
/-- data alone -/
def asD : RV → Option D
  | .d d => some d
  | _ => none
/-- the keys -/
def keysF (el : Env → M RV) (ρ : Env) (ip : Nat) : List D → M (List D)
  | [] => ret []
  | x :: xs => bnd (el (ρ.set ip (some (.d x)))) fun y => bnd (lft (asD y)) fun d => bnd (keysF el ρ ip xs) fun ds => ret (d :: ds)
def eSortK (fi : Env → M (List D)) (el : Env → M RV) (ip : Nat) : Env → M RV := fun ρ => bnd (fi ρ) fun its => bnd (keysF el ρ ip its) fun kz => if okKeys kz = true ∧ its.length ≤ 100000 then ret (.n (sortK its kz)) else fail
end
end DV

namespace DV
open PySem L2 LamX PyProof.Rows PySem.Spec
theorem tabs_none {K : PySem.W.Frag} {H : Hp} (h : tabsOf K = []) : Tabs (tabsOf K) H := fun p hp => by
  rw [h] at hp
  cases hp
end DV

namespace DV
open PySem L2 PyProof.Rows
section
variable {K : PySem.W.Frag} {R : RA}
def gIsBl (neg : Bool) : RV → RV → Option RV := fun x y => match asBool x, asBool y with
  | some a, some b => some (.d (.bool (if neg then !decide (a = b) else decide (a = b))))
  | _, _ => none
end
end DV

namespace RevT
open PySem PySem.Spec PyProof.Rows HT
section
variable {prog : Program} {w : World} {A : Around} {E : Value → Shared → Prop} {s : Shared}
theorem adj (n : Nat) : Builtin.Slice.sliceAdjust none none (-1) (n : Int) = ((n : Int) - 1, -1) := rfl
theorem plc (n : Nat) : Builtin.Slice.slicePlaces ((n : Int) - 1) (-1) (-1) = n := by
  unfold Builtin.Slice.slicePlaces
  rw [if_neg (by decide)]
  by_cases h : n = 0
  · subst h
    rfl
  · rw [if_pos (by omega)]
    have e : ((n : Int) - 1 - -1 - 1) / (- -1) + 1 = (n : Int) := by
      rw [show (- -1 : Int) = 1 by decide, Int.ediv_one]
      omega
    rw [e, Int.toNat_natCast]
theorem picks (xs : Array Value) : ((List.range xs.size).filterMap fun (m : Nat) => xs[(((xs.size : Int) - 1) + (m : Int) * (-1)).toNat]?).toArray = xs.toList.reverse.toArray := by
  congr 1
  have e1 : (List.range xs.size).filterMap (fun (m : Nat) => xs[(((xs.size : Int) - 1) + (m : Int) * (-1)).toNat]?) = ((List.range xs.size).map fun k => xs.size - 1 - k).filterMap (xs[·]?) := by
    have e2 : (List.range xs.size).map (fun m : Nat => (((xs.size : Int) - 1) + (m : Int) * (-1)).toNat) = (List.range xs.size).map fun k => xs.size - 1 - k := by
      refine List.map_congr_left fun m hm => ?_
      have := List.mem_range.mp hm
      omega
    rw [← e2, List.filterMap_map]
    rfl
  rw [e1, PySem.W.krv_range, List.filterMap_reverse, PySem.W.krv_all]
theorem applied {sl : Addr} {k : Tok} {n : Nat} {Q : Int × Int × Nat → Shared → Prop} (hS : s.heap.IsSliceOf sl .none .none (.int (-1) k)) (hq : Q ((n : Int) - 1, -1, n) s) : wpAny (model prog w) A (Builtin.Slice.sliceApplied (.ref sl) (pure (n : Int))) Q E s := by
  obtain ⟨ob, o1, o2, o3⟩ := id hS
  unfold Builtin.Slice.sliceApplied Builtin.Slice.sliceFields
  refine wpAny_bind (wpAny_bind (wpAny_field o1 o3 (x := Value.none) rfl (wpAny_bind (wpAny_field o1 o3 (x := Value.none) rfl (wpAny_bind (wpAny_field o1 o3 (x := Value.int (-1) k) rfl (wpAny_pure ?_)))))))
  refine wpAny_bind (slicePart_int ?_)
  show wpAny _ _ (if ((-1 : Int) == 0) = true then _ else _) _ _ s
  rw [if_neg (by decide)]
  refine wpAny_bind (slicePart_none (wpAny_bind (slicePart_none (wpAny_bind (wpAny_pure ?_)))))
  show wpAny _ _ (match Builtin.Slice.sliceAdjust none none (-1) (n : Int) with | (a, b) => pure (a, (-1 : Int), Builtin.Slice.slicePlaces a b (-1))) _ _ s
  rw [adj]
  show wpAny _ _ (pure ((n : Int) - 1, (-1 : Int), Builtin.Slice.slicePlaces ((n : Int) - 1) (-1) (-1))) _ _ s
  rw [plc]
  exact wpAny_pure hq
theorem turned {t sl : Addr} {items : Array Value} {k : Tok} {Q : Value → Shared → Prop} (hT : IsTup s.heap t items) (hS : s.heap.IsSliceOf sl .none .none (.int (-1) k))
    (hq : Q (.ref s.heap.objs.size) { s with heap := s.heap.push { cls := .type "tuple", data := .seq items.toList.reverse.toArray } }) (hz : items.size ≤ sizeLine) : wpAny (model prog w) A (getItem (.ref t) (.ref sl)) Q E s := by
  have fits : sizeOk (.seq items.toList.reverse.toArray) := by
    show items.toList.reverse.toArray.size ≤ sizeLine
    rw [List.size_toArray, List.length_reverse, Array.length_toList]
    exact hz
  obtain ⟨ob, o1, o2, o3⟩ := id hS
  have isS : s.TypeIs (.ref sl) "slice" := ⟨ob, o1, o2⟩
  unfold getItem
  try with_reducible refine wpAny_holding ?_
  first
    | refine wpAny_bind (wpAny_pure ?_)
    | skip
  refine wpAny_bind (wpAny_sequenceKey hT.typeIs (by decide) ?_)
  refine wpAny_bind (wpAny_callSpecial?_slot (name := Str.ofString "__getitem__") hT.typeIs slot_tuple_getitem
    (wpAny_call_entry slot_tuple_getitem hT.typeIs entry_tuple_getitem ?_ (args_tuple_getitem _ _)))
  show wpAny _ _ (Builtin.Tuple.tupleItemsOf (.ref t) >>= _) _ _ s
  refine wpAny_bind (tupleItemsOf_ hT ?_)
  refine wpAny_bind (wpAny_typeOf isS ?_)
  rw [if_pos (by decide)]
  refine wpAny_bind (applied hS ?_)
  have ne : ¬ ((((items.size : Int) - 1) == 0 && (-1 : Int) == 1 && items.size == items.size) = true) := fun q => by
    rw [Bool.and_eq_true, Bool.and_eq_true] at q
    exact absurd q.1.2 (by decide)
  show wpAny _ _ (if (((items.size : Int) - 1) == 0 && (-1 : Int) == 1 && items.size == items.size) = true then _ else _) _ _ s
  rw [if_neg ne, picks]
  first
    | exact wpAny_bind (m := Builtin.Tuple.tupleExact _) (wpAny_newObj_type (wpAny_pure ⟨_, rfl, wpAny_pure hq⟩) fits)
    | exact wpAny_bind (m := Builtin.Tuple.tupleExact _) (wpAny_newObj_type (wpAny_bind (wpAny_pure (wpAny_pure ⟨_, rfl, wpAny_pure hq⟩))) fits)
    | exact wpAny_bind (wpAny_bind (m := Builtin.Tuple.tupleExact _) (wpAny_newObj_type (wpAny_pure (wpAny_pure ⟨_, rfl, wpAny_pure hq⟩)) fits))
    | exact wpAny_bind (wpAny_bind (m := Builtin.Tuple.tupleExact _) (wpAny_newObj_type (wpAny_pure ⟨_, rfl, wpAny_pure hq⟩) fits))
end
end RevT
namespace DV
open PySem L2 PyProof.Rows
section
variable {X : Cx} {K : PySem.W.Frag} {R : RA}
def gRev : RV → Option RV
  | .d (.tuple ds) => some (.d (.tuple ds.reverse))
  | x => (items x).map fun ds => .n ds.reverse
def eRev (f : Env → M RV) : Env → M RV := fun ρ => bnd (f ρ) fun x => lft (gRev x)
end
end DV




namespace DV
open PySem L2 PyProof.Rows
section
variable {X : Cx} {K : PySem.W.Frag} {R : RA} {L : Nat → Option (Addr × HO)} {E F F' H H' : Hp} {ρ ρ' : Env} {σ σ' : L2.St} {rs rs' : RS}
variable {S S' : List Nat} {tg o e e2' c : Expr} {es : List Expr} {g : TG} {hg : D → Env → Option Env} {pos p spos apos : Pos} {te to : TE} {f h : Env → M RV}
/-- the items of a list -/
def itemsL : RV → Option (List D)
  | .d (.list ds) => some ds
  | .b ds => some ds
  | .n ds => some ds
  | _ => none
def eMet (gg : RV → RV → Option RV) (f h : Env → M RV) : Env → M RV := fun ρ => bnd (f ρ) fun x => bnd (lft (itemsL x)) fun _ => bnd (h ρ) fun y => lft (gg x y)
def idxOf (ds : List D) (d : D) : Option Nat := ds.findIdx? fun z => PyData.eqv z d
theorem DpAll.dropLast {F : Hp} {vs : List V} {ds : List D} (h : DpAll K F vs ds) : DpAll K F vs.dropLast ds.dropLast := by
  rw [List.dropLast_eq_take, List.dropLast_eq_take, h.len]
  exact DpAll.take _ h
/-- x.extend(e), e a new list -/
def newL : RV → Option (List D)
  | .n ds => some ds
  | .b ds => some ds
  | _ => none
def extL : RV → Option (List D)
  | .d (.tuple ds) => some ds
  | x => newL x
def sExt (i : Nat) (f : Env → M RV) : Env → M Out := fun ρ => bnd (lft (sApp.own? ρ i)) fun ds => bnd (f ρ) fun x => bnd (lft (extL x)) fun es => if ds.length + es.length ≤ 100000 then ret (.nx (ρ.set i (some (.o (ds ++ es))))) else fail
end
end DV

namespace DV
open PySem L2 PyProof.Rows RT
section
variable {X : Cx} {K : PySem.W.Frag} {R : RA} {L : Nat → Option (Addr × HO)} {E F F' H H' : Hp} {ρ ρ' : Env} {σ σ' : L2.St} {rs rs' : RS}
variable {tg e : Expr} {pos p p2 pos2 : Pos} {te : TE}
theorem walk_rt {a : Addr} {xs : List V} : Walk (ItvT K a xs.length) xs.length (fun H => SqT K H a xs) (fun i H x H' => H' = H ∧ xs[xs.length - 1 - i]? = some x) :=
  ⟨fun i _ hi q => ⟨hi, xs, xs[xs.length - 1 - i]'(by omega), q, by simp [show xs.length - 1 - i < xs.length by omega]⟩, fun _ _ => Nat.le_refl _, fun _ _ _ _ _ q y => ⟨y.1, y.2 xs q⟩⟩
theorem yRev_ok {vs : List V} {its : List D} (hd : DpAll K F' vs its) : YOk K F' its.reverse (fun i H x H' => H' = H ∧ vs[vs.length - 1 - i]? = some x) := fun i H1 v H2 F1 hi h1 h2 y => by
  obtain ⟨rfl, hv⟩ := y
  have hl := hd.len
  rw [List.length_reverse] at hi
  have hj : its.length - 1 - i < its.length := by omega
  have hx : its[its.length - 1 - i]? = some its[its.length - 1 - i] := List.getElem?_eq_getElem hj
  obtain ⟨w, hw, hdw⟩ := hd.get hx
  rw [hl] at hv
  rw [hv] at hw
  cases hw
  refine ⟨_, ?_, .inl ⟨rfl, Dp.mono h1 _ _ hdw⟩⟩
  rw [List.getElem?_reverse hi]
  exact hx
end
end DV
namespace DV
open PySem L2 PyProof.Rows SrtR
section
variable {X : Cx} {K : PySem.W.Frag} {R : RA} {e : Expr} {pos p p2 kpos : Pos} {te : TE}
def eSortRev (f : Env → M RV) : Env → M RV := fun ρ => bnd (f ρ) fun x => bnd (lft (items x)) fun ds => bnd (lft (intsOf ds)) fun js => ret (.n ((sortI js).reverse.map PyData.int))
end
end DV

namespace DV
open PySem L2 PyProof.Rows
mutual
theorem hash_any (w w' : World) : ∀ (d : D) (k : NestedKey), nk d = some k → k.hash w = k.hash w'
  | .none, _, h => by cases h; rfl
  | .int _, _, h => by cases h; rfl
  | .tuple ds, _, h => by
    unfold nk at h
    cases e : nkA ds with
    | none => rw [e] at h; cases h
    | some ks =>
      rw [e] at h
      cases h
      unfold NestedKey.hash
      rw [hashes_any w w' ds ks e]
  | .bool _, _, h => by cases h
  | .str _, _, h => by cases h
  | .list _, _, h => by cases h
  | .dict _, _, h => by cases h
theorem hashes_any (w w' : World) : ∀ (ds : List D) (ks : List NestedKey), nkA ds = some ks → NestedKey.hashes w ks = NestedKey.hashes w' ks
  | [], _, h => by cases h; rfl
  | d :: ds, _, h => by
    unfold nkA at h
    cases e1 : nk d with
    | none => rw [e1] at h; cases h
    | some k =>
      cases e2 : nkA ds with
      | none => rw [e1, e2] at h; cases h
      | some ks =>
        rw [e1, e2] at h
        cases h
        unfold NestedKey.hashes
        rw [hash_any w w' d k e1, hashes_any w w' ds ks e2]
end
section
variable {X : Cx} {pins : List (Addr × Obj)} {σ : L2.St} {H : Hp} {s : Shared}
mutual
theorem nestedV (I : Inv X pins σ H s) : ∀ (d : D) (v : V) (u : Value) (k : NestedKey), Dp X.K H v d → L2.RelV v u → nk d = some k → NestedIs s.heap k u
  | .none, _, u, _, hd, r, h => by
    cases h; cases hd
    obtain rfl : u = Value.none := r
    exact .none
  | .int i, _, u, _, hd, r, h => by
    cases h; cases hd
    obtain ⟨t, rfl⟩ := (show ∃ t, u = Value.int i t from r)
    exact .int i t
  | .tuple ds, _, u, _, hd, r, h => by
    unfold nk at h
    cases e : nkA ds with
    | none => rw [e] at h; cases h
    | some ks =>
      rw [e] at h
      cases h
      cases hd with
      | @tup a vs _ h1 h2 =>
        obtain rfl : u = Value.ref a := r
        obtain ⟨its, rv, hp, _⟩ := I.tuple h1
        obtain ⟨o, ho, hc, n, hdat⟩ := hp
        exact .tup ho hc hdat (nestedA I ds vs its ks h2 rv e)
  | .bool _, _, _, _, _, _, h => by cases h
  | .str _, _, _, _, _, _, h => by cases h
  | .list _, _, _, _, _, _, h => by cases h
  | .dict _, _, _, _, _, _, h => by cases h
theorem nestedA (I : Inv X pins σ H s) : ∀ (ds : List D) (vs : List V) (us : List Value) (ks : List NestedKey), DpAll X.K H vs ds → Vals vs us → nkA ds = some ks → NestedAll s.heap ks us
  | [], _, _, _, hd, r, h => by
    cases h; cases hd; cases r
    exact .nil
  | d :: ds, _, _, _, hd, r, h => by
    unfold nkA at h
    cases e1 : nk d with
    | none => rw [e1] at h; cases h
    | some k =>
      cases e2 : nkA ds with
      | none => rw [e1, e2] at h; cases h
      | some ks =>
        rw [e1, e2] at h
        cases h
        cases hd with
        | cons h1 h2 =>
          cases r with
          | cons r1 r2 => exact .cons (nestedV I d _ _ k h1 r1 e1) (nestedA I ds _ _ ks h2 r2 e2)
end
end
/-- may stand as a key -/
def keyOk (t : Bool) (d : D) : Bool := match t, d with
  | false, .int _ => true
  | true, .tuple ds => match nkA ds with
    | some ks => decide ((NestedKey.tup ks).depth ≤ 8)
    | none => false
  | _, _ => false
theorem keyOk_int {d : D} (h : keyOk false d = true) : ∃ i, d = .int i := by
  cases d with
  | int i => exact ⟨i, rfl⟩
  | _ => cases h
theorem keyOk_tup {d : D} (h : keyOk true d = true) : ∃ ds k, d = .tuple ds ∧ nk d = some k ∧ k.depth ≤ 8 := by
  cases d with
  | tuple ds =>
    have h' : (match nkA ds with | some ks => decide ((NestedKey.tup ks).depth ≤ 8) | none => false) = true := h
    cases e : nkA ds with
    | none => rw [e] at h'; cases h'
    | some ks =>
      rw [e] at h'
      refine ⟨ds, .tup ks, rfl, ?_, of_decide_eq_true h'⟩
      unfold nk
      rw [e]
  | _ => cases h
/-- what the dict holds at the key -/
def lookK (kv : List (D × D)) (k : Option NestedKey) : Option D := (kv.find? fun q => decide (nk q.1 = k)).map (·.2)
/-- a pair more, or another value -/
def putD (kv : List (D × D)) (kd vd : D) : List (D × D) := if (lookK kv (nk kd)).isSome = true then kv.map fun q => if nk q.1 = nk kd then (q.1, vd) else q else kv ++ [(kd, vd)]
abbrev EntR (K : PySem.W.Frag) (F : Hp) : NestedKey × Addr × V → D × D → Prop := fun x q => nk q.1 = some x.1 ∧ x.1.depth ≤ 8 ∧ Dp K F (.ref x.2.1) q.1 ∧ Dp K F x.2.2 q.2
abbrev EntV : NestedKey × Addr × V → NestedKey × Addr × Value → Prop := fun p q => p.1 = q.1 ∧ p.2.1 = q.2.1 ∧ L2.RelV p.2.2 q.2.2
section
variable {K : PySem.W.Frag} {F : Hp}
theorem look_int {i : Int} : ∀ {ks : List (Int × V)} {kv : List (D × D)}, Paired (fun (p : Int × V) (q : D × D) => q.1 = .int p.1 ∧ Dp K F p.2 q.2) ks kv →
    match lookK kv (nk (.int i)), valV (ks.map fun p => ((.inl p.1 : Key), p.2)) (.inl i) with
    | some d, some v => Dp K F v d
    | none, none => True
    | _, _ => False
  | _, _, .nil => trivial
  | p :: ks, q :: kv, .cons h t => by
    obtain ⟨e1, h2⟩ := h
    by_cases hi : p.1 = i
    · have e2 : lookK (q :: kv) (nk (.int i)) = some q.2 := by
        unfold lookK
        rw [List.find?_cons_of_pos (by rw [e1, hi]; exact decide_eq_true rfl)]
        rfl
      have e3 : valV ((p :: ks).map fun p => ((.inl p.1 : Key), p.2)) (.inl i) = some p.2 := valV_pos (show (Sum.inl p.1 : Key) = .inl i by rw [hi])
      rw [e2, e3]
      exact h2
    · have e2 : lookK (q :: kv) (nk (.int i)) = lookK kv (nk (.int i)) := by
        unfold lookK
        rw [List.find?_cons_of_neg (by rw [e1]; exact fun z => hi (by have := of_decide_eq_true z; unfold nk at this; cases this; rfl))]
      have e3 : valV ((p :: ks).map fun p => ((.inl p.1 : Key), p.2)) (.inl i) = valV (ks.map fun p => ((.inl p.1 : Key), p.2)) (.inl i) := valV_neg fun z => hi (by cases z; rfl)
      rw [e2, e3]
      exact look_int t
theorem look_tup {k : NestedKey} : ∀ {xs : List (NestedKey × Addr × V)} {ys : List (NestedKey × Addr × Value)} {kv : List (D × D)}, Paired EntV xs ys → Paired (EntR K F) xs kv →
    match lookK kv (some k), atKey ys k with
    | some d, some p => ∃ v, L2.RelV v p.2 ∧ Dp K F v d
    | none, none => True
    | _, _ => False
  | _, _, _, .nil, .nil => trivial
  | x :: xs, y :: ys, q :: kv, .cons h t, .cons g u => by
    obtain ⟨e1, e2, e3⟩ := h
    obtain ⟨g1, g2, g3, g4⟩ := g
    by_cases hk : x.1 = k
    · have a1 : lookK (q :: kv) (some k) = some q.2 := by
        unfold lookK
        rw [List.find?_cons_of_pos (by rw [g1, hk]; exact decide_eq_true rfl)]
        rfl
      have a2 : atKey (y :: ys) k = some y.2 := by
        unfold atKey
        rw [List.find?_cons_of_pos (by rw [← e1, hk]; exact decide_eq_true rfl)]
        rfl
      rw [a1, a2]
      exact ⟨_, e3, g4⟩
    · have a1 : lookK (q :: kv) (some k) = lookK kv (some k) := by
        unfold lookK
        rw [List.find?_cons_of_neg (by rw [g1]; exact fun z => hk (Option.some.inj (of_decide_eq_true z)))]
      have a2 : atKey (y :: ys) k = atKey ys k := by
        unfold atKey
        rw [List.find?_cons_of_neg (by rw [← e1]; exact fun z => hk (of_decide_eq_true z))]
      rw [a1, a2]
      exact look_tup t u
end
section
variable {X : Cx} {pins : List (Addr × Obj)} {σ : L2.St} {H F : Hp} {s : Shared} {a : Addr} {u : HO} {c : DC} {y : V} {kd vd : D} {uy : Value} {A : Around} {E : Value → Shared → Prop}
/-- the dict with keys that are tuples, in the heap -/
theorem dc_heap (I : Inv X pins σ H s) {xs : List (NestedKey × Addr × V)} {kv : List (D × D)} (e : Rd H a (dcO a xs)) (hF : ∀ a o, F a = some o → H a = some o) (hp : Paired (EntR X.K F) xs kv) :
    (a == sysModules) = false ∧ xs.length ≤ sizeLine ∧ ∃ ys, Paired EntV xs ys ∧ s.heap.DictOfH (nestedKind X.prog X.w) a ys := by
  obtain ⟨⟨h1, h2, h3, o, es, ep, ys, h4, h5, h6, h7, h8⟩, _⟩ := e.ok I.hok
  refine ⟨h1, h2, ys, h7, o, es, ep, h4, h5, h6, h8 X.w, ?_, ?_⟩
  · have go : ∀ {xs : List (NestedKey × Addr × V)} {ys : List (NestedKey × Addr × Value)} {kv : List (D × D)}, Paired EntV xs ys → Paired (EntR X.K F) xs kv → ∀ z ∈ ys, (nestedKind X.prog X.w).is s.heap z.1 z.2.1 := fun {xs} => by
      induction xs with
      | nil =>
        intro ys kv p q z hz
        cases p
        cases hz
      | cons x xs ih =>
        intro ys kv p q z hz
        cases p with
        | cons p1 p2 =>
          cases q with
          | cons q1 q2 =>
            rcases List.mem_cons.mp hz with ez | hz
            · subst ez
              obtain ⟨e1, e2, _⟩ := p1
              obtain ⟨g1, g2, g3, _⟩ := q1
              rw [← e1, ← e2]
              exact ⟨nestedV I _ _ _ _ (Dp.mono hF _ _ g3) rfl g1, g2⟩
            · exact ih p2 q2 z hz
    exact go h7 hp
  · have go : ∀ {xs : List (NestedKey × Addr × V)} {ys : List (NestedKey × Addr × Value)}, Paired EntV xs ys → xs.map (·.1) = ys.map (·.1) := fun {xs} => by
      induction xs with
      | nil => intro ys p; cases p; rfl
      | cons x xs ih =>
        intro ys p
        cases p with
        | cons p1 p2 => rw [List.map_cons, List.map_cons, p1.1, ih p2]
    rw [← go h7]
    exact h3
theorem key_at (I : Inv X pins σ H s) (hy : Dp X.K H y kd) (hk : keyOk true kd = true) (ry : L2.RelV y uy) : ∃ b k, uy = .ref b ∧ y = .ref b ∧ nk kd = some k ∧ (nestedKind X.prog X.w).is s.heap k b := by
  obtain ⟨ds, k, rfl, h1, h2⟩ := keyOk_tup hk
  cases hy with
  | @tup b vs _ q1 q2 =>
    obtain rfl : uy = Value.ref b := ry
    exact ⟨b, k, rfl, rfl, h1, nestedV I _ _ _ _ (Dp.tup q1 q2) rfl h1, h2⟩
theorem g_in {Q : Value → Shared → Prop} (hu : A.units + 9 < cLine) (I : Inv X pins σ H s) (e : Rd H a u) (hF : ∀ a o, F a = some o → H a = some o) (R : DictR X.K F a u c) (hy : Dp X.K H y kd) (hk : keyOk c.t kd = true) (ry : L2.RelV y uy)
    (h : ∀ s', Inv X pins σ H s' → Q (.bool (lookK c.kv (nk kd)).isSome) s') : wpAny (model X.prog X.w) A (compareOp .In uy (.ref a)) Q E s := by
  unfold DictR at R
  cases q : c.t with
  | false =>
    rw [q] at R hk
    obtain ⟨ks, rfl, _, hp⟩ := R
    obtain ⟨i, rfl⟩ := keyOk_int hk
    cases hy
    have z := look_int (i := i) hp
    refine d_in (by omega) I (.inl ⟨_, .inl i, e, rfl, rfl⟩) ry fun s' I' => ?_
    have e2 : (valV (ks.map fun p => ((.inl p.1 : Key), p.2)) (.inl i)).isSome = (lookK c.kv (nk (.int i))).isSome := by
      cases e3 : valV (ks.map fun p => ((.inl p.1 : Key), p.2)) (.inl i) <;> cases e4 : lookK c.kv (nk (.int i)) <;> rw [e3, e4] at z <;> first | rfl | exact z.elim
    rw [e2]
    exact h s' I'
  | true =>
    rw [q] at R hk
    obtain ⟨xs, rfl, hp⟩ := R
    obtain ⟨h1, _, ys, hv, dd⟩ := dc_heap I e hF hp
    obtain ⟨b, k, rfl, rfl, ek, hkey⟩ := key_at I hy hk ry
    have z := look_tup (k := k) hv hp
    refine wpAny_in_heap (show A.in1.units + 8 < cLine by show A.units + 1 + 8 < cLine; omega) hkey h1 dd ?_
    have e2 : (atKey ys k).isSome = (lookK c.kv (some k)).isSome := by
      cases e3 : atKey ys k <;> cases e4 : lookK c.kv (some k) <;> rw [e3, e4] at z <;> first | rfl | exact z.elim
    rw [e2, ← ek]
    exact h _ (I.tok _)
end
end DV

namespace DV
open PySem L2 PyProof.Rows LamX
section
variable {K : PySem.W.Frag} {F : Hp}
theorem Paired.map2 {α β α' β' : Type} {f : α → β → Prop} {g : α' → β' → Prop} {m : α → α'} {n : β → β'} : ∀ {xs : List α} {ys : List β}, Paired f xs ys → (∀ x y, f x y → g (m x) (n y)) → Paired g (xs.map m) (ys.map n)
  | _, _, .nil, _ => .nil
  | _, _, .cons h t, k => .cons (k _ _ h) (Paired.map2 t k)
theorem Paired.app {α β : Type} {f : α → β → Prop} : ∀ {xs : List α} {ys : List β} {xs2 : List α} {ys2 : List β}, Paired f xs ys → Paired f xs2 ys2 → Paired f (xs ++ xs2) (ys ++ ys2)
  | _, _, _, _, .nil, h => h
  | _, _, _, _, .cons h t, k => .cons h (Paired.app t k)
theorem Paired.len {α β : Type} {f : α → β → Prop} : ∀ {xs : List α} {ys : List β}, Paired f xs ys → xs.length = ys.length
  | _, _, .nil => rfl
  | _, _, .cons _ t => congrArg (· + 1) (Paired.len t)
theorem put_int {i : Int} {v : V} {vd : D} {ks : List (Int × V)} {kv : List (D × D)} (hn : (ks.map (·.1)).Nodup) (hp : Paired (fun (p : Int × V) (q : D × D) => q.1 = .int p.1 ∧ Dp K F p.2 q.2) ks kv) (hv : Dp K F v vd) :
    ∃ ks2 : List (Int × V), putK (ks.map fun p => ((.inl p.1 : Key), p.2)) (.inl i) v = (ks2.map fun p => ((.inl p.1 : Key), p.2)) ∧ (ks2.map (·.1)).Nodup ∧ Paired (fun (p : Int × V) (q : D × D) => q.1 = .int p.1 ∧ Dp K F p.2 q.2) ks2 (putD kv (.int i) vd) := by
  have z := look_int (i := i) hp
  have any : ((ks.map fun p => ((.inl p.1 : Key), p.2)).any fun kv => decide (kv.1 = .inl i)) = (lookK kv (nk (.int i))).isSome := by
    rw [valV_any]
    cases e3 : valV (ks.map fun p => ((.inl p.1 : Key), p.2)) (.inl i) <;> cases e4 : lookK kv (nk (.int i)) <;> rw [e3, e4] at z <;> first | rfl | exact z.elim
  unfold putK putD
  rw [any]
  by_cases hs : (lookK kv (nk (.int i))).isSome = true
  · rw [if_pos hs, if_pos hs]
    refine ⟨ks.map fun p => if p.1 = i then (p.1, v) else p, ?_, ?_, Paired.map2 hp fun x y h => ?_⟩
    · rw [List.map_map, List.map_map]
      refine List.map_congr_left fun p _ => ?_
      by_cases hi : p.1 = i
      · simp [hi]
      · simp [hi]
    · rw [List.map_map]
      have : (fun x : Int × V => x.1) ∘ (fun p : Int × V => if p.1 = i then (p.1, v) else p) = fun x => x.1 := by
        funext p
        by_cases hi : p.1 = i <;> simp [hi]
      rw [this]
      exact hn
    · obtain ⟨e1, e2⟩ := h
      by_cases hi : x.1 = i
      · rw [if_pos hi, if_pos (by rw [e1, hi])]
        exact ⟨by rw [e1], hv⟩
      · rw [if_neg hi, if_neg (by rw [e1]; intro q; unfold nk at q; cases q; exact hi rfl)]
        exact ⟨e1, e2⟩
  · rw [if_neg hs, if_neg hs]
    refine ⟨ks ++ [(i, v)], by rw [List.map_append]; rfl, ?_, Paired.app hp (.cons ⟨rfl, hv⟩ .nil)⟩
    rw [List.map_append, List.nodup_append]
    refine ⟨hn, by simp, fun a ha b hb => ?_⟩
    simp only [List.map_cons, List.map_nil, List.mem_singleton] at hb
    subst hb
    intro e
    subst e
    obtain ⟨p, hp1, hp2⟩ := List.mem_map.mp ha
    have : ((ks.map fun p => ((.inl p.1 : Key), p.2)).any fun kv => decide (kv.1 = .inl a)) = true := by
      rw [List.any_eq_true]
      exact ⟨(.inl p.1, p.2), List.mem_map.mpr ⟨p, hp1, rfl⟩, by rw [hp2]; exact decide_eq_true rfl⟩
    rw [any] at this
    exact hs this
/-- the entries behind a store -/
def putX (xs : List (NestedKey × Addr × V)) (there : Bool) (k : NestedKey) (b : Addr) (v : V) : List (NestedKey × Addr × V) := if there = true then xs.map fun x => if x.1 = k then (x.1, x.2.1, v) else x else xs ++ [(k, b, v)]
theorem put_tup {k : NestedKey} {b : Addr} {v : V} {r : Value} {kd vd : D} {xs : List (NestedKey × Addr × V)} {ys : List (NestedKey × Addr × Value)} {kv : List (D × D)} (h1 : Paired EntV xs ys) (h2 : Paired (EntR K F) xs kv) (ek : nk kd = some k) (hd : k.depth ≤ 8) (hb : Dp K F (.ref b) kd) (hv : Dp K F v vd) (rv : L2.RelV v r) :
    Paired EntV (putX xs (lookK kv (some k)).isSome k b v) (storedH ys k b r) ∧ Paired (EntR K F) (putX xs (lookK kv (some k)).isSome k b v) (putD kv kd vd) := by
  have z := look_tup (k := k) h1 h2
  have e0 : (atKey ys k).isSome = (lookK kv (some k)).isSome := by
    cases e3 : atKey ys k <;> cases e4 : lookK kv (some k) <;> rw [e3, e4] at z <;> first | rfl | exact z.elim
  unfold putX storedH putD
  rw [e0, ek]
  by_cases hs : (lookK kv (some k)).isSome = true
  · rw [if_pos hs, if_pos hs, if_pos hs]
    refine ⟨Paired.map2 h1 fun x y h => ?_, Paired.map2 h2 fun x q h => ?_⟩
    · obtain ⟨q1, q2, q3⟩ := h
      unfold putAt
      by_cases hx : x.1 = k
      · rw [if_pos hx, if_pos (by rw [← q1]; exact hx)]
        exact ⟨q1, q2, rv⟩
      · rw [if_neg hx, if_neg (by rw [← q1]; exact hx)]
        exact ⟨q1, q2, q3⟩
    · obtain ⟨g1, g2, g3, g4⟩ := h
      by_cases hx : x.1 = k
      · rw [if_pos hx, if_pos (by rw [g1, hx])]
        exact ⟨g1, g2, g3, hv⟩
      · rw [if_neg hx, if_neg (by rw [g1]; exact fun q => hx (Option.some.inj q))]
        exact ⟨g1, g2, g3, g4⟩
  · rw [if_neg hs, if_neg hs, if_neg hs]
    exact ⟨Paired.app h1 (.cons ⟨rfl, rfl, rv⟩ .nil), Paired.app h2 (.cons ⟨ek, hd, hb, hv⟩ .nil)⟩
/-- keys without texts hash alike in every world -/
theorem ents_all {w : World} {es : List DictEntry} : ∀ {xs : List (NestedKey × Addr × V)} {ys : List (NestedKey × Addr × Value)} {kv : List (D × D)}, Paired EntV xs ys → Paired (EntR K F) xs kv → es = ys.map (fun y => (⟨y.1.hash w, .ref y.2.1, y.2.2⟩ : DictEntry)) →
    ∀ w' : World, es = ys.map fun y => (⟨y.1.hash w', .ref y.2.1, y.2.2⟩ : DictEntry) := fun {xs} {ys} {kv} h1 h2 e w' => by
  rw [e]
  clear e
  induction h1 generalizing kv with
  | nil => rfl
  | cons p1 p2 ih =>
    cases h2 with
    | cons q1 q2 =>
      rw [List.map_cons, List.map_cons, ih q2]
      obtain ⟨e1, _⟩ := p1
      obtain ⟨g1, _⟩ := q1
      rw [← e1, hash_any w w' _ _ g1]
end
section
variable {X : Cx} {pins : List (Addr × Obj)} {σ : L2.St} {H F : Hp} {s : Shared} {a : Addr} {u : HO} {c : DC} {y v : V} {kd vd : D} {uy r : Value} {A : Around} {E : Value → Shared → Prop}
theorem dc_ok {P : Program} {w : World} {H' : Hp} {h' : Heap} {xs : List (NestedKey × Addr × V)} {ys : List (NestedKey × Addr × Value)} {kv : List (D × D)} (h1 : (a == sysModules) = false) (h2 : xs.length ≤ sizeLine) (h3 : Paired EntV xs ys) (h4 : Paired (EntR X.K F) xs kv) (dd : h'.DictOfH (nestedKind P w) a ys) : ObjOk P w H' h' a (dcO a xs) := by
  obtain ⟨o, es, ep, g1, g2, g3, g4, _, g6⟩ := dd
  refine ⟨⟨h1, h2, ?_, o, es, ep, ys, g1, g2, g3, h3, ents_all h3 h4 g4⟩, ⟨o, g1⟩, fun m1 m2 q k => ?_⟩
  · have go : ∀ {xs : List (NestedKey × Addr × V)} {ys : List (NestedKey × Addr × Value)}, Paired EntV xs ys → xs.map (·.1) = ys.map (·.1) := fun {xs} => by
      induction xs with
      | nil => intro ys p; cases p; rfl
      | cons x xs ih =>
        intro ys p
        cases p with
        | cons p1 p2 => rw [List.map_cons, List.map_cons, p1.1, ih p2]
    rw [go h3]
    exact g6
  · obtain ⟨q1, q2, q3, o, es, ep, ys, q4, q5⟩ := q
    exact ⟨q1, q2, q3, o, es, ep, ys, k _ q4, q5⟩
theorem putX_len {xs : List (NestedKey × Addr × V)} {t : Bool} {k : NestedKey} {b : Addr} {v : V} : (putX xs t k b v).length ≤ xs.length + 1 := by
  unfold putX
  split
  · rw [List.length_map]; omega
  · rw [List.length_append, List.length_singleton]
    exact Nat.le_refl _
/-- d[k] = v -/
theorem g_setItem {Q : Unit → Shared → Prop} (hu : A.units + 9 < cLine) (I : Inv X pins σ H s) (e : H a = some u) (hF : ∀ a o, F a = some o → H a = some o) (R : DictR X.K F a u c) (hy : Dp X.K F y kd) (hk : keyOk c.t kd = true) (ry : L2.RelV y uy) (hv : Dp X.K F v vd) (rv : L2.RelV v r)
    (hl : c.kv.length ≤ 100000) (h : ∀ u' s', DictR X.K F a u' ⟨c.t, putD c.kv kd vd⟩ → Inv X pins σ (upd H a u') s' → Q () s') : wpAny (model X.prog X.w) A (setItem (.ref a) uy r) Q E s := by
  have hline : (100000 : Nat) < sizeLine := by rw [sizeLine_eq]; omega
  unfold DictR at R h
  cases q : c.t with
  | false =>
    rw [q] at R hk
    simp only [q] at h
    obtain ⟨ks, rfl, hn, hp⟩ := R
    obtain ⟨i, rfl⟩ := keyOk_int hk
    cases hy
    obtain ⟨ks2, e1, e2, e3⟩ := put_int (i := i) hn hp hv
    have hl2 : (ks.map fun p => ((.inl p.1 : Key), p.2)).length < sizeLine := by rw [List.length_map, Paired.len hp]; omega
    refine d_setItem (by omega) I (.inl ⟨_, .inl i, e, rfl, hl2, rfl⟩) ry rv fun s' I' => h _ s' ⟨ks2, rfl, e2, e3⟩ ?_
    rw [e1] at I'
    exact I'
  | true =>
    rw [q] at R hk
    simp only [q] at h
    obtain ⟨xs, rfl, hp⟩ := R
    obtain ⟨h1, hz, ys, hvv, dd⟩ := dc_heap I (.inl e) hF hp
    obtain ⟨ds, k, rfl, ek, hd8⟩ := keyOk_tup hk
    obtain ⟨b, k', rfl, rfl, ek', hkey⟩ := key_at I (Dp.mono hF _ _ hy) hk ry
    rw [ek] at ek'
    cases ek'
    obtain ⟨n1, n2⟩ := put_tup (F := F) hvv hp ek hd8 hy hv rv
    refine wpAny_setItem_heap (hsz := by rw [← Paired.len hvv]; exact hz) (show A.in1.units + 8 < cLine by show A.units + 1 + 8 < cLine; omega) hkey dd fun h' dd' hs => h _ _ ⟨_, rfl, n2⟩ ?_
    have he : ∃ q, h'.get? a = some q := let ⟨q, _, _, hq, _⟩ := dd'; ⟨q, hq⟩
    refine d_write I (by rw [e]; exact True.intro) hs he (dc_ok (X := X) (F := F) h1 ?_ n1 n2 dd')
    refine Nat.le_trans putX_len ?_
    rw [Paired.len hp]
    omega
/-- a new dict -/
def newG (t : Bool) (p : Addr) : HO := match t with
  | false => .dK []
  | true => dcO p []
end
theorem code_ne {a : Addr} {q : Str} {xs : List (NestedKey × Addr × V)} : CodeO a q ≠ dcO a xs := fun z => by
  unfold CodeO dcO at z
  injection z with z
  have h0 : ∃ o : Obj, ∃ h : Heap, h.get? a = some o ∧ o.data = .fields #[.none, .str q 0] := by
    refine ⟨{ cls := .none, data := .fields #[.none, .str q 0] }, { objs := Array.replicate (a + 1) { cls := .none, data := .fields #[.none, .str q 0] } }, ?_, rfl⟩
    unfold Heap.get?
    rw [Array.getElem?_replicate, if_pos (Nat.lt_succ_self a)]
  obtain ⟨o, h, h1, h2⟩ := h0
  have h3 := congrFun z h
  have h4 : ∃ (oc : Obj) (vs : Array Value) (t : Tok), h.get? a = some oc ∧ oc.data = .fields vs ∧ vs[1]? = some (.str q t) := ⟨o, _, 0, h1, h2, rfl⟩
  rw [h3] at h4
  obtain ⟨_, _, _, o2, es, ep, ys, g1, _, g3, _⟩ := h4
  rw [h1] at g1
  cases g1
  rw [h2] at g3
  cases g3
theorem DictR.noCode {K : PySem.W.Frag} {F : Hp} {a : Addr} {u : HO} {c : DC} {q : Str} (R : DictR K F a u c) : CodeO a q ≠ u := by
  unfold DictR at R
  cases e : c.t with
  | false =>
    rw [e] at R
    obtain ⟨ks, rfl, _⟩ := R
    intro z
    unfold CodeO at z
    cases z
  | true =>
    rw [e] at R
    obtain ⟨xs, rfl, _⟩ := R
    exact code_ne
theorem DictR.noTbl {K : PySem.W.Frag} {F : Hp} {a : Addr} {u : HO} {c : DC} {ps : Array Value} (R : DictR K F a u c) : u ≠ .tbl ps := by
  unfold DictR at R
  cases e : c.t with
  | false =>
    rw [e] at R
    obtain ⟨ks, rfl, _⟩ := R
    exact fun z => nomatch z
  | true =>
    rw [e] at R
    obtain ⟨xs, rfl, _⟩ := R
    intro z
    unfold dcO at z
    cases z
theorem tabs_updG {T : List (Addr × Str)} {H : Hp} (t : LamX.Tabs T H) {a : Addr} {o u : HO} (h : H a = some u) (n1 : ∀ ps, u ≠ .tbl ps) (n2 : ∀ q, CodeO a q ≠ u) : LamX.Tabs T (upd H a o) := fun p hp => by
  obtain ⟨ps, e, h2, h3⟩ := t p hp
  refine ⟨ps, by rw [upd_ne (fun z => by rw [z, h] at e; cases e; exact n1 _ rfl)]; exact e, h2, fun pos cv hc => ?_⟩
  obtain ⟨c, e1, e2⟩ := h3 pos cv hc
  refine ⟨c, e1, ?_⟩
  rw [upd_ne (fun z => by subst z; rw [h] at e2; exact n2 _ (Option.some.inj e2).symm)]
  exact e2
section
variable {K : PySem.W.Frag} {R : RA} {L : Nat → Option (Addr × HO)} {E F F' H H' : Hp} {ρ ρ' : Env} {σ σ' : L2.St} {rs rs' : RS}
theorem Step.new_g {p : Addr} {t : Bool} (s : Step K R rs F H F H) (hp : H p = none) : Step K R rs F H F (upd H p (newG t p)) ∧ F p = none ∧ some p ≠ R.row := by
  have hr : some p ≠ R.row := fun q => by
    obtain ⟨a, e, _⟩ := s.row.at_ p q.symm
    rw [hp] at e; cases e
  have hF : F p = none := by
    cases q : F p with
    | none => rfl
    | some o =>
      have := s.fin p o q
      rw [hp] at this; cases this
  refine ⟨⟨fun a o h _ _ => by rw [upd_ne (ne_of_none h hp)]; exact h, fun _ _ h => h, fun _ _ h => .inl h, fun a o h => by rw [upd_ne (ne_of_none (s.fin a o h) hp)]; exact s.fin a o h, ⟨fun r e => ?_, tabs_upd s.row.tab (.inl hp), s.row.fnt⟩, s.rF⟩, hF, hr⟩
  obtain ⟨a, e1, h1, h3⟩ := s.row.at_ r e
  exact ⟨a, by rw [upd_ne (ne_of_none e1 hp)]; exact e1, h1, h3⟩
end
end DV

namespace DV
open PySem L2 PyProof.Rows LamX
theorem rm9 {k : Nat} {A : Around} (r : Room k A) : A.units + 9 < cLine := by have := r.un; omega
def eGNew (t : Bool) : Env → M RV := fun _ => ret (.gn ⟨t, []⟩)
section
variable {X : Cx} {K : PySem.W.Frag} {R : RA} {L : Nat → Option (Addr × HO)} {E F F' H H' : Hp} {ρ ρ' : Env} {σ σ' : L2.St} {rs rs' : RS}
variable {o e i e2 : Expr} {pos spos apos cpos : Pos} {td ty tv tx : TE} {f h k : Env → M RV}
def dcOf : RV → Option DC
  | .gb c => some c
  | .gn c => some c
  | _ => none
def asKey : RV → Option D
  | .d d => some d
  | _ => none
theorem VR.dict {F H0 H : Hp} {v : V} {x : RV} {c : DC} (hv : VR K R F H0 H v x) (e : dcOf x = some c) : ∃ a u, v = .ref a ∧ H a = some u ∧ some a ≠ R.row ∧ DictR K F a u c := by
  cases x with
  | gb d =>
    cases e
    exact hv
  | gn d =>
    cases e
    obtain ⟨a, u, e1, h1, _, _, h2, h3⟩ := hv
    exact ⟨a, u, e1, h1, h2, h3⟩
  | d _ => cases e
  | b _ => cases e
  | n _ => cases e
  | row => cases e
theorem VR.key {F H0 H : Hp} {v : V} {x : RV} {d : D} (hv : VR K R F H0 H v x) (e : asKey x = some d) : Dp K F v d := by
  cases x with
  | d y => cases e; exact hv
  | b _ => cases e
  | n _ => cases e
  | gb _ => cases e
  | gn _ => cases e
  | row => cases e
/-- the dict at a, asked for kd -/
def GAsk (K : PySem.W.Frag) (H : Hp) (a : Addr) (y : V) (F : Hp) (c : DC) (kd : D) : Prop := ∃ u, H a = some u ∧ (∀ a o, F a = some o → H a = some o) ∧ DictR K F a u c ∧ Dp K H y kd ∧ keyOk c.t kd = true
def eGGet (f h : Env → M RV) : Env → M RV := fun ρ => bnd (f ρ) fun x => bnd (lft (dcOf x)) fun c => bnd (h ρ) fun y => bnd (lft (asKey y)) fun kd => if keyOk c.t kd = true then bnd (lft (lookK c.kv (nk kd))) fun vd => ret (.d vd) else fail
def rGIn (K : PySem.W.Frag) (neg : Bool) : R2 := fun y x H Q => ∃ (a : Addr) (F : Hp) (c : DC) (kd : D), x = .ref a ∧ GAsk K H a y F c kd ∧ Q (.bl (if neg then !(lookK c.kv (nk kd)).isSome else (lookK c.kv (nk kd)).isSome)) H
theorem op_gIn (hu : X.A.units + 9 < cLine) : OpR X (compareOp .In) (rGIn X.K false) := by
  intro pins s σ H x y v u Q I rx ry h
  obtain ⟨a, F, c, kd, ex, ⟨w, g1, g2, g3, g4, g5⟩, q⟩ := h
  subst ex
  obtain rfl : u = Value.ref a := ry
  exact g_in hu I (.inl g1) g2 g3 g4 g5 rx fun s' I' => ⟨.bl _, H, I', rfl, q⟩
def gGIn (neg : Bool) : RV → RV → Option RV := fun y x => match asKey y, dcOf x with
  | some kd, some c => if keyOk c.t kd = true then some (.d (.bool (if neg then !(lookK c.kv (nk kd)).isSome else (lookK c.kv (nk kd)).isSome))) else none
  | _, _ => none
theorem rsem_gIn (neg : Bool) : RSem K R (rGIn K neg) (gGIn neg) := fun F H0 H rs y x p q z Q s hy hx e k => by
  unfold gGIn at e
  cases e1 : asKey p with
  | none => rw [e1] at e; cases e
  | some kd =>
    cases e2 : dcOf q with
    | none => rw [e1, e2] at e; cases e
    | some c =>
      rw [e1, e2] at e
      by_cases hk : keyOk c.t kd = true
      · simp only [hk, if_true] at e
        cases e
        obtain ⟨a, u, rfl, z1, z2, z3⟩ := hx.dict e2
        exact ⟨a, F, c, kd, rfl, ⟨u, z1, s.fin, z3, Dp.mono s.fin _ _ (hy.key e1), hk⟩, k _ F H s (.bl _)⟩
      · simp only [hk] at e
        cases e
def eGGet2 (f h k : Env → M RV) : Env → M RV := fun ρ => bnd (f ρ) fun x => bnd (lft (dcOf x)) fun c => bnd (h ρ) fun y => bnd (lft (asKey y)) fun kd => bnd (k ρ) fun z => if keyOk c.t kd = true then match lookK c.kv (nk kd) with
  | some vd => ret (.d vd)
  | none => ret z
  else fail
def own_g (ρ : Env) (i : Nat) : Option DC := match ρ[i]? with
  | some (some (.g c)) => some c
  | _ => none
def sGPutT (K : PySem.W.Frag) (td ty tv : TE)   : TS := fun Dn σ H => tv σ H fun v H1 => td σ H1 fun x H2 => ty σ H2 fun y H3 => ∃ (a : Addr) (u : HO) (F : Hp) (c : DC) (kd vd : D), x = .ref a ∧ H3 a = some u ∧ (∀ a o, F a = some o → H3 a = some o) ∧ DictR K F a u c ∧ Dp K F y kd ∧ keyOk c.t kd = true ∧ Dp K F v vd ∧ c.kv.length ≤ 100000 ∧
  ∀ u', DictR K F a u' ⟨c.t, putD c.kv kd vd⟩ → Dn.nx σ (upd H3 a u')
theorem ps_gput {value : Expr} {pos' : Pos} (hu : X.A.units + 9 < cLine) (ho : PE X o td) (hi : PE X i ty) (hv : PE X value tv) (hs : swapsWith value (some (.Subscript o i pos')) pos.line X.env = pure false) :
    PS X (.Assign [.Subscript o i pos'] value pos) (sGPutT X.K td ty tv) := by
  refine ⟨fun pins s σ H D I h => ?_⟩
  refine wpAny_Assign_Subscript (thn (hv.run pins s σ H _ I h) fun r s1 ⟨v, H1, I1, rv, q1⟩ => thn (ho.run pins s1 σ H1 _ I1 q1) fun u s2 ⟨x, H2, I2, rx, q2⟩ => thn (hi.run pins s2 σ H2 _ I2 q2) fun iv s3 ⟨y, H3, I3, ry, a, u1, F, c, kd, vd, ex, g1, g2, g3, g4, g5, g6, g7, q3⟩ => ?_) hs
  subst ex
  obtain rfl : u = Value.ref a := rx
  exact g_setItem hu I3 g1 g2 g3 g4 g5 ry g6 rv g7 fun u' s4 R4 I4 => ⟨σ, _, I4, q3 u' R4⟩
def sGPut (i : Nat) (f g : Env → M RV) : Env → M Out := fun ρ => bnd (f ρ) fun x => bnd (lft (toD x)) fun vd => bnd (g ρ) fun y => bnd (lft (asKey y)) fun kd => bnd (lft (own_g ρ i)) fun c =>
  if keyOk c.t kd = true ∧ c.kv.length ≤ 100000 then ret (.nx (ρ.set i (some (.g ⟨c.t, putD c.kv kd vd⟩)))) else fail
end
end DV

namespace DV
open PySem L2 PyProof.Rows LamX
/-- the pairs of a dict's object -/
def PsOf (d : Addr) (u : HO) (ps : List (V × V)) : Prop := (∃ ks : List (Key × V), u = .dK ks ∧ ps = ks.map fun p => (kV p.1, p.2)) ∨ ∃ xs : List (NestedKey × Addr × V), u = dcO d xs ∧ ps = xs.map fun x => (.ref x.2.1, x.2.2)
abbrev GP (K : PySem.W.Frag) (F : Hp) : V × V → D × D → Prop := fun p q => Dp K F p.1 q.1 ∧ Dp K F p.2 q.2
theorem DictR.ps {K : PySem.W.Frag} {F : Hp} {a : Addr} {u : HO} {c : DC} (R : DictR K F a u c) : ∃ ps, PsOf a u ps ∧ Paired (GP K F) ps c.kv := by
  unfold DictR at R
  cases e : c.t with
  | false =>
    rw [e] at R
    obtain ⟨ks, rfl, _, hp⟩ := R
    refine ⟨_, .inl ⟨_, rfl, rfl⟩, ?_⟩
    rw [List.map_map]
    have := Paired.map2 (g := GP K F) (m := fun p : Int × V => (V.int p.1, p.2)) (n := id) hp fun x q h => ⟨by rw [show (id q).1 = q.1 from rfl, h.1]; exact Dp.int _, h.2⟩
    rw [List.map_id] at this
    exact this
  | true =>
    rw [e] at R
    obtain ⟨xs, rfl, hp⟩ := R
    refine ⟨_, .inr ⟨_, rfl, rfl⟩, ?_⟩
    have := Paired.map2 (g := GP K F) (m := fun x : NestedKey × Addr × V => (V.ref x.2.1, x.2.2)) (n := id) hp fun x q h => ⟨h.2.2.1, h.2.2.2⟩
    rw [List.map_id] at this
    exact this
/-- what a walk hands out -/
inductive WK where | keys | vals | items
def ItG (k : WK) (d : Addr) (o : Obj) (u : HO) (ps : List (V × V)) : It :=
  ⟨fun i H => H d = some (.frz o u) ∧ i < ps.length, fun i H x H' => match k with
    | .keys => H' = H ∧ ∃ p, ps[i]? = some p ∧ x = p.1
    | .vals => H' = H ∧ ∃ p, ps[i]? = some p ∧ x = p.2
    | .items => ∃ T p, ps[i]? = some p ∧ x = .ref T ∧ H T = none ∧ H' = upd H T (.tup [p.1, p.2]), fun i H => H d = some (.frz o u) ∧ ps.length ≤ i⟩
section
variable {X : Cx} {pins : List (Addr × Obj)} {σ : L2.St} {H : Hp} {s : Shared} {d : Addr} {o : Obj} {u : HO} {ps : List (V × V)}
theorem frzG (I : Inv X pins σ H s) (h : H d = some (.frz o u)) (hp : PsOf d u ps) : (d == sysModules) = false ∧ s.heap.get? d = some o ∧ o.ExactDict ∧ ∃ (es : Array DictEntry) (ep : Nat), o.data = .dict es ep ∧ es.size = ps.length ∧ ps.length ≤ sizeLine ∧
    ∀ (i : Nat) (hi : i < es.size), ∃ p, ps[i]? = some p ∧ L2.RelV p.1 es[i].key ∧ L2.RelV p.2 es[i].val := by
  rcases hp with ⟨ks, rfl, rfl⟩ | ⟨xs, rfl, rfl⟩
  · obtain ⟨hs, hgd, hx, es, ep, vs, hdt, hsz, kv, hm⟩ := I.frzK h
    have hz : ks.length ≤ sizeLine := by
      obtain ⟨_, z, _⟩ := I.hok d _ h
      exact z
    refine ⟨hs, hgd, hx, es, ep, hdt, by rw [List.length_map]; exact hsz, by rw [List.length_map]; exact hz, fun i hi => ?_⟩
    obtain ⟨es2, ep2, ⟨o2, g1, _, g2⟩, hs2, he⟩ := hm.dictOf.raw
    rw [hgd] at g1
    cases g1
    rw [hdt] at g2
    cases g2
    have hik : i < ks.length := by rw [← hsz]; exact hi
    obtain ⟨⟨k, v⟩, hkv⟩ : ∃ p, ks[i]? = some p := ⟨ks[i], List.getElem?_eq_getElem hik⟩
    have go : ∀ {ks : List (Key × V)} {vs : List (Key × Value)} {i : Nat} {k : Key} {v : V}, KV ks vs → ks[i]? = some (k, v) → ∃ w, vs[i]? = some (k, w) ∧ L2.RelV v w := fun {ks} => by
      induction ks with
      | nil => intro vs i k v _ h; simp at h
      | cons p ks ih =>
        intro vs i k v q h
        cases q with
        | cons q1 q2 =>
          cases i with
          | zero =>
            simp at h
            subst h
            rename_i y ys
            refine ⟨y.2, ?_, q1.2⟩
            have := q1.1
            simp only at this
            simp [this]
          | succ i =>
            simp at h
            obtain ⟨w, e1, e2⟩ := ih q2 h
            exact ⟨w, by simpa using e1, e2⟩
    obtain ⟨w, hw, rw'⟩ := go kv hkv
    obtain ⟨e1, e2⟩ := he i hi k w hw
    refine ⟨(kV k, v), by rw [List.getElem?_map, hkv]; rfl, relV_key e1, ?_⟩
    rw [e2]
    exact rw'
  · obtain ⟨hg, ⟨h1, h2, h3, o2, es, ep, ys, h4, h5, h6, h7, h8⟩, _⟩ := I.hok d _ h
    rw [hg] at h4
    cases h4
    have hl : xs.length = ys.length := Paired.len h7
    have hsz : es.size = ys.length := by
      have := congrArg List.length (h8 X.w)
      rw [List.length_map, Array.length_toList] at this
      exact this
    refine ⟨h1, hg, h5, es, ep, h6, by rw [List.length_map, hsz, hl], by rw [List.length_map]; exact h2, fun i hi => ?_⟩
    have go : ∀ {xs : List (NestedKey × Addr × V)} {ys : List (NestedKey × Addr × Value)} {i : Nat} {y}, Paired EntV xs ys → ys[i]? = some y → ∃ x, xs[i]? = some x ∧ EntV x y := fun {xs} => by
      induction xs with
      | nil => intro ys i y q h; cases q; simp at h
      | cons p xs ih =>
        intro ys i y q h
        cases q with
        | cons q1 q2 =>
          cases i with
          | zero =>
            simp at h
            subst h
            exact ⟨p, rfl, q1⟩
          | succ i =>
            simp at h
            obtain ⟨x, e1, e2⟩ := ih q2 h
            exact ⟨x, by simpa using e1, e2⟩
    have hiy : i < ys.length := by omega
    obtain ⟨x, hx, ex⟩ := go h7 (List.getElem?_eq_getElem hiy)
    have e1 : es.toList[i]? = some (⟨ys[i].1.hash X.w, .ref ys[i].2.1, ys[i].2.2⟩ : DictEntry) := by
      rw [h8 X.w, List.getElem?_map, List.getElem?_eq_getElem hiy]
      rfl
    rw [Array.getElem?_toList, Array.getElem?_eq_getElem hi] at e1
    have e2 := Option.some.inj e1
    refine ⟨(.ref x.2.1, x.2.2), by rw [List.getElem?_map, hx]; rfl, ?_, ?_⟩
    · rw [e2]
      show Value.ref ys[i].2.1 = Value.ref x.2.1
      rw [ex.2.1]
    · rw [e2]
      exact ex.2.2
end
/-- how the iterator stands -/
def stG (k : WK) (h : Heap) (it d : Addr) (i n ep : Nat) : Prop := match k with
  | .keys => h.IsKeyIter it d i n ep
  | .vals => h.IsValIter it d i n ep
  | .items => ∃ ok ov, IsItemIter h it d i n ep ok ov
def tgOk (k : WK) (tg : Expr) : Prop := match k with
  | .items => ∃ elts kk tpos, tg = .Tuple elts kk tpos
  | _ => True
theorem turn_G {P : Program} {w : World} {K : PySem.W.Frag} {tg : Expr} {d : Addr} {o : Obj} {u : HO} {ps : List (V × V)} {es : Array DictEntry} {ep : Nat} (k : WK) (it : Addr) (htg : tgOk k tg) (hod : o.data = .dict es ep) (hp : PsOf d u ps) : Turn P w K tg (ItG k d o u ps) [it] it (fun i h => stG k h it d i ps.length ep) where
  mem := by simp
  obj := fun i h st b hb => by
    have e : b = it := by simpa using hb
    subst e
    cases k with
    | keys =>
      obtain ⟨oi, e, c, dd⟩ := (show h.IsKeyIter b d i ps.length ep from st)
      exact ⟨oi, e, fun v z => by rw [dd] at z; cases z⟩
    | vals =>
      obtain ⟨oi, e, c, dd⟩ := (show h.IsValIter b d i ps.length ep from st)
      exact ⟨oi, e, fun v z => by rw [dd] at z; cases z⟩
    | items =>
      obtain ⟨ok, ov, e⟩ := st
      exact ⟨_, e, fun v z => nomatch z⟩
  keep := fun i h h' st q => by
    cases k with
    | keys => exact (show h.IsKeyIter it d i ps.length ep from st).at fun oi e => q it (by simp) oi e
    | vals => exact (show h.IsValIter it d i ps.length ep from st).at fun oi e => q it (by simp) oi e
    | items =>
      obtain ⟨ok, ov, e⟩ := st
      exact ⟨ok, ov, q it (by simp) _ e⟩
  item := by
    intro X hP hw hK hc i pins s σ H E I hf st hg
    subst hP hw hK
    obtain ⟨hd, hi⟩ := hg
    obtain ⟨f0, f1, f2, f3, f4, f5⟩ := hf it (by simp)
    obtain ⟨hs, hgd, hx, es', ep', hdt, hsz, hzl, ent⟩ := frzG I hd hp
    obtain ⟨rfl, rfl⟩ := dict_ep hod hdt
    have hm : s.heap.DictRaw d es' ep' := ⟨o, hgd, hx, hdt⟩
    have hi2 : i < es'.size := by rw [hsz]; exact hi
    obtain ⟨p, hp1, r1, r2⟩ := ent i hi2
    have st1 := st
    rw [← hsz] at st1
    cases k with
    | keys =>
      refine wpAny_pyNext_keys_item_raw (show s.heap.IsKeyIter it d i es'.size ep' from st1) hm hi2 fun h' st' sb => ?_
      have I1 : Inv X pins σ H { s with heap := h' } := I.turned (t' := s.toks) (fun b ob hb e => (sb.2 b hb).trans e) f0 f1 f3 f4 f5
      obtain ⟨oi, e, c, dd⟩ := id st'
      refine ⟨es'[i].key, rfl, go_of (s := { s with heap := h' }) e c dd (by decide) ⟨p.1, H, I1, r1, ⟨rfl, p, hp1, rfl⟩, ?_, fun b hb => (hf b hb).1⟩⟩
      show h'.IsKeyIter it d (i + 1) ps.length _
      rw [← hsz]
      exact st'
    | vals =>
      refine wpAny_pyNext_values_item_raw (show s.heap.IsValIter it d i es'.size ep' from st1) hm hi2 fun h' st' sb => ?_
      have I1 : Inv X pins σ H { s with heap := h' } := I.turned (t' := s.toks) (fun b ob hb e => (sb.2 b hb).trans e) f0 f1 f3 f4 f5
      obtain ⟨oi, e, c, dd⟩ := id st'
      refine ⟨es'[i].val, rfl, go_of (s := { s with heap := h' }) e c dd (by decide) ⟨p.2, H, I1, r2, ⟨rfl, p, hp1, rfl⟩, ?_, fun b hb => (hf b hb).1⟩⟩
      show h'.IsValIter it d (i + 1) ps.length _
      rw [← hsz]
      exact st'
    | items =>
      obtain ⟨elts, kk, tpos, rfl⟩ := (show ∃ elts kk tpos, tg = .Tuple elts kk tpos from htg)
      obtain ⟨ok, ov, he⟩ := st1
      have hlt : it < s.heap.objs.size := Heap.lt_size he
      refine wpAny_pyNext_items_item_raw he hm hi2 fun h' ho hT hz hk => ?_
      refine ⟨_, rfl, wpAny_letOwnedTupleGo_items (s := { s with heap := h' }) ho fun h'' he' sb => ?_⟩
      have hT2 : h''.get? s.heap.objs.size = some { cls := .type "tuple", data := .seq #[es'[i].key, es'[i].val] } := (sb.2 _ (Nat.ne_of_gt hlt)).trans hT
      have new : ObjOk X.prog X.w (upd H s.heap.objs.size (.tup [p.1, p.2])) h'' s.heap.objs.size (.tup [p.1, p.2]) :=
        ⟨by show 2 ≤ sizeLine; decide, [es'[i].key, es'[i].val], .cons r1 (.cons r2 .nil), ⟨_, hT2, rfl, _, rfl⟩⟩
      have I1 : Inv X pins σ (upd H s.heap.objs.size (.tup [p.1, p.2])) { s with heap := h'' } :=
        I.turnedNew (t' := s.toks) (ch := [it]) (fun b ob hb e => (sb.2 b (by simpa using hb)).trans (hk b ob (by simpa using hb) e)) hf (Nat.le_refl _) new
      refine ⟨.ref s.heap.objs.size, _, I1, rfl, ⟨_, p, hp1, rfl, I.hok.fresh (Nat.le_refl _), rfl⟩, ⟨es'[i].key, es'[i].val, ?_⟩, fun b hb => ?_⟩
      · rw [← hsz]; exact he'
      · have e : b = it := by simpa using hb
        rw [e, upd_ne (Nat.ne_of_lt hlt)]
        exact (hf it (by simp)).1
  done := by
    intro X hP hw hK hc i pins s σ H E I hf st hg
    subst hP hw hK
    obtain ⟨hd, hi⟩ := hg
    obtain ⟨f0, f1, f2, f3, f4, f5⟩ := hf it (by simp)
    obtain ⟨hs, hgd, hx, es', ep', hdt, hsz, hzl, ent⟩ := frzG I hd hp
    obtain ⟨rfl, rfl⟩ := dict_ep hod hdt
    have hm : s.heap.DictRaw d es' ep' := ⟨o, hgd, hx, hdt⟩
    have st1 := st
    rw [← hsz] at st1 hi
    cases k with
    | keys => exact wpAny_pyNext_keys_end_raw (I.ok.hd hc) (show s.heap.IsKeyIter it d i es'.size ep' from st1) hm hi fun h' eb => ⟨rfl, I.turned (t' := s.toks) (fun b ob hb e => eb b ob hb e) f0 f1 f3 f4 f5⟩
    | vals => exact wpAny_pyNext_values_end_raw (I.ok.hd hc) (show s.heap.IsValIter it d i es'.size ep' from st1) hm hi fun h' eb => ⟨rfl, I.turned (t' := s.toks) (fun b ob hb e => eb b ob hb e) f0 f1 f3 f4 f5⟩
    | items =>
      obtain ⟨ok, ov, he⟩ := st1
      exact wpAny_pyNext_items_end_raw (I.ok.hd hc) he hm hi fun h' eb => ⟨rfl, I.turned (t' := s.toks) (fun b ob hb e => eb b ob hb e) f0 f1 f3 f4 f5⟩
  self := fun A i s Q E st h => by
    cases k with
    | keys => exact wpAny_pyIter_keyiter (show s.heap.IsKeyIter it d i ps.length ep from st) h
    | vals => exact wpAny_pyIter_valiter (show s.heap.IsValIter it d i ps.length ep from st) h
    | items =>
      obtain ⟨ok, ov, he⟩ := st
      exact wpAny_pyIter_itemiter he h
/-- the dict is locked by the caller -/
def iG (k : WK) (td : TE) : TI := fun σ H R => td σ H fun x H1 => ∃ d o u ps, x = .ref d ∧ H1 d = some (.frz o u) ∧ PsOf d u ps ∧ R (ItG k d o u ps) H1
section
variable {X : Cx} {tg e : Expr} {td : TE} {apos cpos : Pos}
theorem pi_keysG (he : PE X e td) : PI X tg e (iG .keys td) := by
  refine ⟨fun pins s σ H R I h => ?_⟩
  refine thn (he.run pins s σ H _ I h) fun u s1 ⟨x, H1, I1, rx, d, o, w, ps, ex, hd, hp, q⟩ => ?_
  subst ex
  obtain rfl : u = Value.ref d := rx
  obtain ⟨hs, hgd, hx, es, ep, hdt, hsz, _, ent⟩ := frzG I1 hd hp
  refine wpAny_pyIter_dict_raw hs ⟨o, hgd, hx, hdt⟩ (pi_one (tk := s1.toks) I1 _ (turn_G .keys _ trivial hdt hp) ⟨_, Heap.get?_push_size _ rfl, rfl, ?_⟩ q)
  rw [hsz] <;> rfl
end
/-- what is walked, as data -/
def wkD : WK → D × D → D
  | .keys, q => q.1
  | .vals, q => q.2
  | .items, q => .tuple [q.1, q.2]
def wkY (k : WK) (ps : List (V × V)) : Nat → Hp → V → Hp → Prop := fun i H x H' => match k with
  | .keys => H' = H ∧ ∃ p, ps[i]? = some p ∧ x = p.1
  | .vals => H' = H ∧ ∃ p, ps[i]? = some p ∧ x = p.2
  | .items => ∃ T p, ps[i]? = some p ∧ x = .ref T ∧ H T = none ∧ H' = upd H T (.tup [p.1, p.2])
theorem walk_G {k : WK} {d : Addr} {o : Obj} {u : HO} {ps : List (V × V)} : Walk (ItG k d o u ps) ps.length (fun H => H d = some (.frz o u)) (wkY k ps) :=
  ⟨fun _ _ hi q => ⟨q, hi⟩, fun _ q => ⟨q, Nat.le_refl _⟩, fun _ _ _ _ _ _ y => y⟩
theorem wk_ok {K : PySem.W.Frag} {F' : Hp} {k : WK} : ∀ {ps : List (V × V)} {kv : List (D × D)}, Paired (GP K F') ps kv → YOk K F' (kv.map (wkD k)) (wkY k ps) := fun {ps kv} hp i H1 v H2 F1 hi h1 h2 y => by
  have get : ∀ {ps : List (V × V)} {kv : List (D × D)} {i : Nat} {p : V × V}, Paired (GP K F') ps kv → ps[i]? = some p → ∃ q, kv[i]? = some q ∧ GP K F' p q := fun {ps} => by
    induction ps with
    | nil => intro kv i p q h; simp at h
    | cons x ps ih =>
      intro kv i p q h
      cases q with
      | cons q1 q2 =>
        cases i with
        | zero =>
          simp at h
          subst h
          exact ⟨_, rfl, q1⟩
        | succ i =>
          simp at h
          obtain ⟨z, e1, e2⟩ := ih q2 h
          exact ⟨z, by simpa using e1, e2⟩
  cases k with
  | keys =>
    obtain ⟨rfl, p, hp1, rfl⟩ := (show H2 = H1 ∧ ∃ p, ps[i]? = some p ∧ v = p.1 from y)
    obtain ⟨q, hq, g1, g2⟩ := get hp hp1
    exact ⟨q.1, by rw [List.getElem?_map, hq]; rfl, .inl ⟨rfl, Dp.mono h1 _ _ g1⟩⟩
  | vals =>
    obtain ⟨rfl, p, hp1, rfl⟩ := (show H2 = H1 ∧ ∃ p, ps[i]? = some p ∧ v = p.2 from y)
    obtain ⟨q, hq, g1, g2⟩ := get hp hp1
    exact ⟨q.2, by rw [List.getElem?_map, hq]; rfl, .inl ⟨rfl, Dp.mono h1 _ _ g2⟩⟩
  | items =>
    obtain ⟨T, p, hp1, rfl, hT, rfl⟩ := (show ∃ T p, ps[i]? = some p ∧ v = .ref T ∧ H1 T = none ∧ H2 = upd H1 T (.tup [p.1, p.2]) from y)
    obtain ⟨q, hq, g1, g2⟩ := get hp hp1
    exact ⟨.tuple [q.1, q.2], by rw [List.getElem?_map, hq]; rfl, .inr (.inl ⟨T, _, _, rfl, hT, rfl, rfl, .cons (Dp.mono h1 _ _ g1) (.cons (Dp.mono h1 _ _ g2) .nil)⟩)⟩
end DV

namespace DV
open PySem L2 PyProof.Rows LamX
theorem DictR.mut {K : PySem.W.Frag} {F : Hp} {a : Addr} {u : HO} {c : DC} (R : DictR K F a u c) : L2.Mut (some u) := by
  unfold DictR at R
  cases e : c.t with
  | false =>
    rw [e] at R
    obtain ⟨ks, rfl, _⟩ := R
    exact trivial
  | true =>
    rw [e] at R
    obtain ⟨xs, rfl, _⟩ := R
    exact trivial
section
variable {X : Cx} {K : PySem.W.Frag} {R : RA} {L : Nat → Option (Addr × HO)} {E F F' H H' : Hp} {ρ ρ' : Env} {σ σ' : L2.St} {rs rs' : RS}
theorem FStep.unlockG {a : Addr} {o : HO} (s : FStep R (upd E a o) F F') (hE : E a = none) (hF : F a = none) : FStep R E F F' ∧ F' a = none := by
  refine ⟨⟨s.sub, fun b u q => ?_⟩, ?_⟩
  · rcases s.new b u q with z | ⟨z1, z2⟩
    · exact .inl z
    · refine .inr ⟨?_, z2⟩
      rw [upd_ne (fun z => by rw [z, upd_same] at z1; cases z1)] at z1
      exact z1
  · cases q : F' a with
    | none => rfl
    | some u =>
      rcases s.new a u q with z | ⟨z1, _⟩
      · rw [hF] at z; cases z
      · rw [upd_same] at z1; cases z1
theorem Rel.unlockG {a : Addr} {u : HO} {od : Obj} {F2 H2 : Hp} {ρ2 : Env} {σ2 : L2.St} {rs2 : RS} (r0 : Rel K R L E F ρ σ rs H) (r2 : Rel K R L (upd E a (.frz od u)) F2 ρ2 σ2 rs2 H2) (hE : E a = none) (hF : F2 a = none) (hR : some a ≠ R.row) :
    H2 a = some (.frz od u) ∧ Rel K R L E F2 ρ2 σ2 rs2 (upd H2 a u) := by
  have ha : H2 a = some (.frz od u) := r2.ex a _ upd_same
  refine ⟨ha, ⟨r2.len, fun b o q => ?_, r0.ent, fun b o q => ?_, ⟨fun q eq => ?_, tabs_updG r2.row.tab ha (fun ps z => nomatch z) (fun q z => by unfold CodeO at z; cases z), r2.row.fnt⟩, fun q eq => ⟨(r0.rE q eq).1, (r2.rE q eq).2⟩, r0.lk, fun j sw ej => ?_, r2.own⟩⟩
  · have hb : b ≠ a := fun z => by rw [z, hE] at q; cases q
    rw [upd_ne hb]
    exact r2.ex b o (by rw [upd_ne hb]; exact q)
  · rw [upd_ne (fun z => by rw [z, hF] at q; cases q)]
    exact r2.fr b o q
  · obtain ⟨c, k1, k2, k3⟩ := r2.row.at_ q eq
    exact ⟨c, by rw [upd_ne (fun zz => hR (by rw [← zz, eq]))]; exact k1, k2, k3⟩
  · obtain ⟨w, k1, k2⟩ := r2.sl j sw ej
    refine ⟨w, k1, ?_⟩
    cases sw with
    | d x => exact k2
    | k ds => exact k2
    | un => exact trivial
    | ex _ _ => exact k2
    | fn _ => exact k2
    | lm => exact k2
    | m _ => exact k2
    | row => exact k2
    | o x =>
      obtain ⟨b, us, rfl, z1, z2, z3, z4, z5⟩ := k2
      have hba : b ≠ a := fun z => by rw [z, upd_same] at z2; cases z2
      exact ⟨b, us, rfl, by rw [upd_ne hba]; exact z1, by rw [upd_ne hba] at z2; exact z2, z3, z4, z5⟩
    | g x =>
      obtain ⟨b, us, rfl, z1, z2, z3, z4, z5⟩ := k2
      have hba : b ≠ a := fun z => by rw [z, upd_same] at z2; cases z2
      exact ⟨b, us, rfl, by rw [upd_ne hba]; exact z1, by rw [upd_ne hba] at z2; exact z2, z3, z4, z5⟩
theorem Ret.unlockG {a : Addr} {u : HO} {od : Obj} {F2 H2 : Hp} {v : V} {x : RV} (q : Ret K R rs' (upd E a (.frz od u)) F F2 H2 v x) (hE : E a = none) (hF : F a = none) (hR : some a ≠ R.row) : H2 a = some (.frz od u) ∧ Ret K R rs' E F F2 (upd H2 a u) v x := by
  have ha : H2 a = some (.frz od u) := q.ex a _ upd_same
  obtain ⟨fs, hF2⟩ := q.fs.unlockG hE hF
  refine ⟨ha, ⟨fs, fun b o z => ?_, fun b o z => ?_, ⟨fun r eq => ?_, tabs_updG q.row.tab ha (fun ps z => nomatch z) (fun q z => by unfold CodeO at z; cases z), q.row.fnt⟩, q.rF, ?_⟩⟩
  · have hb : b ≠ a := fun y => by rw [y, hE] at z; cases z
    rw [upd_ne hb]
    exact q.ex b o (by rw [upd_ne hb]; exact z)
  · rw [upd_ne (fun y => by rw [y, hF2] at z; cases z)]
    exact q.fr b o z
  · obtain ⟨c, k1, k2, k3⟩ := q.row.at_ r eq
    exact ⟨c, by rw [upd_ne (fun zz => hR (by rw [← zz, eq]))]; exact k1, k2, k3⟩
  · have hv := q.val
    cases x with
    | d y => exact hv
    | n ds =>
      obtain ⟨b, vs, z1, z2, z3, z4, z5, z6⟩ := hv
      have hba : b ≠ a := fun z => by rw [z, upd_same] at z3; cases z3
      exact ⟨b, vs, z1, by rw [upd_ne hba]; exact z2, by rw [upd_ne hba] at z3; exact z3, z4, z5, z6⟩
    | gn c =>
      obtain ⟨b, vs, z1, z2, z3, z4, z5, z6⟩ := hv
      have hba : b ≠ a := fun z => by rw [z, upd_same] at z3; cases z3
      exact ⟨b, vs, z1, by rw [upd_ne hba]; exact z2, by rw [upd_ne hba] at z3; exact z3, z4, z5, z6⟩
    | b ds => exact hv.elim
    | gb c => exact hv.elim
    | row => exact hv.elim
variable {S S' : List Nat} {tg it elt e c : Expr} {es ifs : List Expr} {g : TG} {hg : D → Env → Option Env} {pos p spos apos cpos : Pos} {st : Stmt} {body : List Stmt} {tb : TS} {tt : TT} {te : TE}
theorem Step.unlockG {a : Addr} {u : HO} {od : Obj} {F2 H2 : Hp} (hu : H a = some u) (hF : F a = none) (hR : some a ≠ R.row) (s : Step K R rs' F (upd H a (.frz od u)) F2 H2) : H2 a = some (.frz od u) ∧ F2 a = none ∧ Step K R rs' F H F2 (upd H2 a u) := by
  have ha : H2 a = some (.frz od u) := s.keep a _ upd_same hR
  have hF2 : F2 a = none := by
    cases q : F2 a with
    | none => rfl
    | some o =>
      rcases s.new a o q with z | z
      · rw [hF] at z; cases z
      · rw [upd_same] at z; cases z
  refine ⟨ha, hF2, ⟨fun b o q n f => ?_, s.sub, fun b o q => ?_, fun b o q => ?_, ⟨fun r eq => ?_, tabs_updG s.row.tab ha (fun ps z => nomatch z) (fun q z => by unfold CodeO at z; cases z), s.row.fnt⟩, s.rF⟩⟩
  · by_cases hb : b = a
    · subst hb; rw [upd_same, ← hu]; exact q
    · rw [upd_ne hb]
      exact s.keep b o (by rw [upd_ne hb]; exact q) n f
  · rcases s.new b o q with z | z
    · exact .inl z
    · refine .inr ?_
      rw [upd_ne (fun y => by rw [y, upd_same] at z; cases z)] at z
      exact z
  · rw [upd_ne (fun y => by rw [y, hF2] at q; cases q)]
    exact s.fin b o q
  · obtain ⟨c, k1, k2, k3⟩ := s.row.at_ r eq
    exact ⟨c, by rw [upd_ne (fun zz => hR (by rw [← zz, eq]))]; exact k1, k2, k3⟩
theorem VR.unlockN {a : Addr} {u : HO} {od : Obj} {F2 H2 : Hp} {v : V} {ds : List D} (h : VR K R F2 (upd H a (.frz od u)) H2 v (.n ds)) : VR K R F2 H (upd H2 a u) v (.n ds) := by
  obtain ⟨b, vs, z1, z2, z3, z4⟩ := h
  have hba : b ≠ a := fun z => by rw [z, upd_same] at z3; cases z3
  exact ⟨b, vs, z1, by rw [upd_ne hba]; exact z2, by rw [upd_ne hba] at z3; exact z3, z4⟩
theorem eLc_new {fi : Env → M (List D × Option Nat)} {vs : List Nat} {tst : Env → M Bool} {el : Env → M RV} {x : RV} (h : eLc fi vs hg tst el ρ rs = some (x, rs')) : ∃ ds, x = .n ds := by
  obtain ⟨p, rs1, e1, h1⟩ := bnd_some h
  obtain ⟨ds, rs2, e2, h2⟩ := bnd_some h1
  by_cases hl : p.1.length ≤ 100000
  · rw [if_pos hl] at h2
    obtain ⟨e3, _⟩ := ret_some h2
    exact ⟨ds, e3.symm⟩
  · rw [if_neg hl] at h2
    cases h2
end
end DV

namespace DV
open PySem L2 PyProof.Rows LamX
section
variable {X : Cx} {K : PySem.W.Frag} {R : RA} {k v : Expr} {tk tv : TE} {pos : Pos}
def eG1 (t : Bool) (f h : Env → M RV) : Env → M RV := fun ρ => bnd (f ρ) fun x => bnd (lft (asKey x)) fun kd => bnd (h ρ) fun y => bnd (lft (toD y)) fun vd => if keyOk t kd = true then ret (.gn ⟨t, [(kd, vd)]⟩) else fail
end
end DV

namespace DV
open PySem L2 PyProof.Rows LamX PySem.W
/-- what is listed -/
def wkV : Bool → V × V → V
  | true, p => p.2
  | false, p => p.1
def wkB : Bool → D × D → D
  | true, q => q.2
  | false, q => q.1
section
variable {prog : Program} {w : World} {A : Around} {es : Array DictEntry} {ep : Nat} {d r : Addr}
theorem kdl_rk (lo : (d == sysModules) = false) : KdlSrc prog w "dict" d d es.size (fun i v => ∃ hi : i < es.size, v = es[i].key) (fun h => h.DictRaw d es ep) where
  type := fun _ hm => hm.typeIs
  there := fun _ hm => ⟨let ⟨_, ho, _⟩ := hm; Heap.lt_size ho, let ⟨_, ho, _⟩ := hm; Heap.lt_size ho⟩
  keep := fun _ _ hm hk => hm.at fun o e => hk d (.inl rfl) o e
  notList := by decide
  notTuple := by decide
  hint := fun _ _ _ _ hm hq => kdl_hint_dict hm.typeIs hq
  iter := fun A s hh hm => ⟨_, _, (fun _ _ hq => wpAny_pyIter_dict_raw lo hm hq), Walks.rawKeys hh _ d (let ⟨_, ho, _⟩ := hm; Nat.ne_of_lt (Heap.lt_size ho)) es ep, ⟨⟨_, Heap.get?_push_size _ rfl, rfl, rfl⟩, hm.at fun o e => Heap.get?_push_of_some _ e⟩⟩
end
theorem PsOf.mut {a : Addr} {u : HO} {ps : List (V × V)} (h : PsOf a u ps) : L2.Mut (some u) := by
  rcases h with ⟨ks, rfl, _⟩ | ⟨xs, rfl, _⟩
  · trivial
  · trivial
theorem rawG {X : Cx} {pins : List (Addr × Obj)} {σ : L2.St} {H : Hp} {s : Shared} {d : Addr} {u : HO} {ps : List (V × V)} (I : Inv X pins σ H s) (h : H d = some u) (hp : PsOf d u ps) : (d == sysModules) = false ∧ ∃ (es : Array DictEntry) (ep : Nat), s.heap.DictRaw d es ep ∧ es.size = ps.length ∧ ps.length ≤ sizeLine ∧
    ∀ (i : Nat) (hi : i < es.size), ∃ p, ps[i]? = some p ∧ L2.RelV p.1 es[i].key ∧ L2.RelV p.2 es[i].val := by
  obtain ⟨od, I1⟩ := I.lock h hp.mut
  obtain ⟨a1, a2, a3, es, ep, a4, a5, a6, a7⟩ := frzG I1 upd_same hp
  exact ⟨a1, es, ep, ⟨od, a2, a3, a4⟩, a5, a6, a7⟩
section
variable {X : Cx} {td : TE} {e : Expr} {apos cpos pos p : Pos}
/-- something to be listed -/
def PGs (X : Cx) (b : Bool) (it : Expr) (td : TE) : Prop :=
  ∀ (pins : List (Addr × Obj)) (s : Shared) (σ : L2.St) (H : Hp) (Q : List (V × V) → Hp → Prop), Inv X pins σ H s → (td σ H fun x H1 => ∃ d u ps, x = .ref d ∧ H1 d = some u ∧ PsOf d u ps ∧ Q ps H1) →
    wpAny (model X.prog X.w) X.A (eval it X.env) (fun x s' => ∃ (r d : Addr) (T : String) (n : Nat) (P : Nat → Value → Prop) (OK : Heap → Prop) (H1 : Hp) (ps : List (V × V)), x = .ref r ∧ Inv X pins σ H1 s' ∧ KdlSrc X.prog X.w T r d n P OK ∧ OK s'.heap ∧ n = ps.length ∧ n ≤ sizeLine ∧ (∀ j w, P j w → ∃ p, ps[j]? = some p ∧ L2.RelV (wkV b p) w) ∧ Q ps H1) X.xe s
theorem pgs_keys (he : PE X e td) : PGs X false e td := by
  intro pins s σ H Q I h
  refine thn (he.run pins s σ H _ I h) fun u s1 ⟨x, H1, I1, rx, d, w, ps, ex, hd, hp, q⟩ => ?_
  subst ex
  obtain rfl : u = Value.ref d := rx
  obtain ⟨hs, es, ep, hm, hsz, hz, ent⟩ := rawG I1 hd hp
  exact ⟨d, d, "dict", es.size, _, _, H1, ps, rfl, I1, kdl_rk hs, hm, hsz, by rw [hsz]; exact hz, fun j w ⟨hi, ew⟩ => by
    obtain ⟨p, h1, h2, _⟩ := ent j hi
    exact ⟨p, h1, by rw [ew]; exact h2⟩, q⟩
def tListG (b : Bool) (td : TE) : TE := fun σ H Q => td σ H fun x H1 => ∃ d u ps, x = .ref d ∧ H1 d = some u ∧ PsOf d u ps ∧ ∀ q, H1 q = none → Q (.ref q) (upd H1 q (.lst (ps.map (wkV b))))
theorem pe_listG {b : Bool} {it : Expr} (hc : X.calm = true) (hg : Gl X "list") (hm : X.mg "list" = none) (he : PGs X b it td) (na : starEach [it] X.env = (false, eval it X.env) :: starEach [] X.env := by rfl) : PE X (.Call (.Name "list" p) [it] [] pos) (tListG b td) := by
  refine ⟨fun pins s σ H Q I h => ?_⟩
  refine Call_ (ld_blt I hg hm boot_list (PyProof.Rows.callWith_type1 (args_cons (thn (he pins s σ H (fun ps H1 => ∀ q, H1 q = none → Q (.ref q) (upd H1 q (.lst (ps.map (wkV b))))) I h) fun x s1 ⟨r, d, T, n, P, OK, H1, ps, ex, I1, K, hok, hn, hz, hP, q⟩ => args_nil ?_) na) na))
  subst ex
  refine kdl_call K (I1.ok.hd hc) hok hz fun h' tk acc' c' hkeep hS hacc => ?_
  refine ⟨.ref s1.heap.objs.size, upd H1 s1.heap.objs.size (.lst (ps.map (wkV b))), I1.laid hkeep (Nat.le_refl _) (show ObjOk X.prog X.w _ _ _ (.lst (ps.map (wkV b))) from ⟨?_, acc'.toList, c', ?_, ?_⟩), rfl, q _ (I1.hok.fresh (Nat.le_refl _))⟩
  · rw [List.length_map, ← hn]; exact hz
  · have el : acc'.toList.length = acc'.size := by simp
    refine vals_of_at (by rw [List.length_map, el, hacc.1, hn]) fun j x w h1 h2 => ?_
    obtain ⟨p, hp, hi⟩ := hP j w (hacc.2 j w (by rw [← Array.getElem?_toList]; exact h2))
    rw [List.getElem?_map, hp] at h1
    cases h1
    exact hi
  · rw [Array.toArray_toList]; exact hS
def eListG (b : Bool) (f : Env → M RV) : Env → M RV := fun ρ => bnd (f ρ) fun x => bnd (lft (dcOf x)) fun c => ret (.n (c.kv.map (wkB b)))
theorem wkV_data {K : PySem.W.Frag} {F : Hp} {b : Bool} : ∀ {ps : List (V × V)} {kv : List (D × D)}, Paired (GP K F) ps kv → DpAll K F (ps.map (wkV b)) (kv.map (wkB b))
  | _, _, .nil => .nil
  | _, _, .cons h t => .cons (by cases b <;> first | exact h.1 | exact h.2) (wkV_data t)
theorem esem_listG {K : PySem.W.Frag} {R : RA} {b : Bool} {f : Env → M RV} (he : ESem K R td f) : ESem K R (tListG b td) (eListG b f) := fun L E ρ σ F H rs x0 rs' Q r hf kk => by
  obtain ⟨x, rs1, e1, hf1⟩ := bnd_some hf
  obtain ⟨c, rs2, e2, hf2⟩ := bnd_some hf1
  obtain ⟨e3, q3⟩ := lft_some e2
  obtain ⟨e4, q4⟩ := ret_some hf2
  subst e4 q4 q3
  refine he L E ρ σ F H rs x _ _ r e1 fun v F1 H1 s1 h1 => ?_
  obtain ⟨a, u, ea, hu, hR, hD⟩ := h1.dict e3
  obtain ⟨ps, hp, hpr⟩ := hD.ps
  refine ⟨a, u, ps, ea, hu, hp, fun q hq => ?_⟩
  obtain ⟨s2, hF, hR2⟩ := Step.new_lst (vs := ps.map (wkV b)) (r.step s1).refl hq
  exact kk _ F1 _ (s1.trans r.row s2) ⟨q, _, rfl, upd_same, s1.back r.row hq, hF, hR2, wkV_data hpr⟩
theorem de_listG {R : RA} {b : Bool} {it : Expr} {f : Env → M RV} (hc : X.calm = true) (hg : Gl X "list") (hm : X.mg "list" = none) (hi : PE X e td → PGs X b it td) (he : DE X R e td f) (na : starEach [it] X.env = (false, eval it X.env) :: starEach [] X.env := by rfl) : DE X R (.Call (.Name "list" p) [it] [] pos) (tListG b td) (eListG b f) :=
  ⟨pe_listG hc hg hm (hi he.pe) na, esem_listG he.sem⟩
end
end DV


namespace DV
open PySem L2 PyProof.Rows LamX
section
variable {J : It} {n : Nat} {G : Hp → Prop} {Y : Nat → Hp → V → Hp → Prop}
theorem dc_it (w : Walk J n G Y) {g : TG} {tt : TT} {tk tv : TE} {vs : List Nat} {σ : L2.St} {H1 : Hp} {D : Addr} {Qd : Hp → Prop} (Pv : Nat → Hp → Prop) (h0 : Pv 0 (upd H1 D (.dK []))) (hG : ∀ i H, i ≤ n → Pv i H → G H)
    (hs : ∀ i x H H', i < n → Pv i H → Y i H x H' → g x (L2.wipe σ vs) H' fun σ2 H2 => L2.wipe σ2 vs = L2.wipe σ vs ∧ tt σ2 H2 fun b H3 =>
      if b = true then tk σ2 H3 fun y H4 => tv σ2 H4 fun z H5 => ∃ kvs k, y = kV k ∧ H5 D = some (.dK kvs) ∧ kvs.length < sizeLine ∧ Pv (i + 1) (upd H5 D (.dK (putK kvs k z))) else Pv (i + 1) H3) (hd : ∀ H, Pv n H → Qd H) :
    ∃ W : Nat → Nat → Hp → Prop, (∃ m, W 0 m (upd H1 D (.dK []))) ∧ ∀ i m H, W i m H →
      (J.stop i H ∧ Qd H) ∨ (J.go i H ∧ ∃ Nx : Hp → Prop, (∀ H', Nx H' → ∃ m', m' < m ∧ W (i + 1) m' H') ∧ ∀ x H', J.yld i H x H' → g x (L2.wipe σ vs) H' fun σ2 H2 => L2.wipe σ2 vs = L2.wipe σ vs ∧ tt σ2 H2 fun b H3 =>
        if b = true then tk σ2 H3 fun y H4 => tv σ2 H4 fun z H5 => ∃ kvs k, y = kV k ∧ H5 D = some (.dK kvs) ∧ kvs.length < sizeLine ∧ Nx (upd H5 D (.dK (putK kvs k z))) else Nx H3) := by
  refine ⟨fun i m H => m = n - i ∧ i ≤ n ∧ Pv i H, ⟨n, by simp, Nat.zero_le _, h0⟩, ?_⟩
  rintro i m H ⟨rfl, hi, p⟩
  have q := hG i H hi p
  by_cases hlt : i < n
  · refine .inr ⟨w.goes i H hlt q, Pv (i + 1), fun H' p' => ⟨n - (i + 1), by omega, rfl, hlt, p'⟩, fun x H' y => hs i x H H' hlt p (w.yields i H x H' hlt q y)⟩
  · have e : i = n := by omega
    subst e
    exact .inl ⟨w.stops H q, hd H p⟩
end
def dcF (tg : D → Env → Option Env) (tst : Env → M Bool) (kf vf : Env → M RV) (ρ : Env) : List D → List (D × D) → M (List (D × D))
  | [], kv => ret kv
  | x :: xs, kv => bnd (lft (tg x ρ)) fun ρ1 => bnd (tst ρ1) fun b => if b = true then bnd (kf ρ1) fun y => bnd (lft (asInt y)) fun i => bnd (vf ρ1) fun z => bnd (lft (asKey z)) fun d => dcF tg tst kf vf ρ xs (putD kv (.int i) d) else dcF tg tst kf vf ρ xs kv
def eDc (fi : Env → M (List D × Option Nat)) (vs : List Nat) (tg : D → Env → Option Env) (tst : Env → M Bool) (kf vf : Env → M RV) : Env → M RV := fun ρ =>
  bnd (fi ρ) fun p => if p.1.length ≤ 50000 then bnd (dcF tg tst kf vf (wipeE ρ vs) p.1 []) fun kv => ret (.gn ⟨false, kv⟩) else fail
section
variable {X : Cx} {K : PySem.W.Frag} {R : RA} {L : Nat → Option (Addr × HO)} {E F F' H H' : Hp} {ρ ρ' : Env} {σ σ' : L2.St} {rs rs' : RS}
variable {S : List Nat} {g : TG} {hg : D → Env → Option Env} {tt : TT} {tk tv : TE} {wi : TI} {it tg kx vx : Expr} {ifs : List Expr} {pos : Pos}
theorem dk_tbl {a : Addr} {ks : List (Key × V)} : (∀ ps, (HO.dK ks) ≠ .tbl ps) ∧ ∀ q, CodeO a q ≠ .dK ks :=
  ⟨fun ps z => (nomatch z), fun q z => by
    unfold CodeO at z
    cases z⟩
end
end DV


namespace DVL
open PySem L2 DV
def g__law_taken : DV.Env → M Out :=
  (sSeq (sIf (eT (e2 gGt (eRow 0 3) (eC (.int 0)))) (sSeq (sSet 2 (e2 gMod (eCall gInt (aCons (eRow 0 3) aNil)) (eVar 1)))
  (sSeq (sRowPut 0 3 (e2 gFdiv (eRow 0 3) (eVar 1)))
  (sRetV 2))) sNil)
  (sSeq (sRowPut 0 1 (e2 gAddA (eRow 0 1) (eC (.int 1))))
  (sSeq (sIf (eT (e2 gGt (eRow 0 1) (eCall gLen (aCons (eRow 0 0) aNil)))) (sSeq (sRowPut 0 2 (e2 gMod (eCall gInt (aCons (e2 gAddA (e2 gMulA (eRow 0 2) (eC (.int 48271))) (eC (.int 11))) aNil)) (eC (.int 2147483647))))
  (sRet (e2 gMod (eCall gInt (aCons (e2 gFdiv (eRow 0 2) (eC (.int 7))) aNil)) (eVar 1)))) sNil)
  (sSeq (sSet 3 (e2 gIx (eRow 0 0) (e2 gSubI (eRow 0 1) (eC (.int 1)))))
  (sSeq (sRowPut 0 2 (e2 gMod (eCall gInt (aCons (e2 gAddA (e2 gAddA (e2 gMulA (eRow 0 2) (eC (.int 48271))) (eVar 3)) (eC (.int 11))) aNil)) (eC (.int 2147483647))))
  (sSeq (sIf (eT (e2 gGe (eVar 3) (e2 gPow (eC (.int 10)) (eC (.int 18))))) (sRowPut 0 3 (e2 gFdiv (eVar 3) (eVar 1))) sNil)
  (sRet (e2 gMod (eCall gInt (aCons (eVar 3) aNil)) (eVar 1)))))))))
def m__law_taken : List RV → M RV := runDef 4 g__law_taken
def g__law_pick : DV.Env → M Out :=
  (sRet (e2 gIx (eVar 1) (eFn (fun xs => if xs.length = 2 then m__law_taken xs else fail) (aCons (eVar 0) (aCons (eCall gLen (aCons (eVar 1) aNil)) aNil)))))
def m__law_pick : List RV → M RV := runDef 2 g__law_pick
def g__law_order : DV.Env → M Out :=
  (sSeq (sPar 2 3 (aCons (eListRg (rg1F (eVar 1))) (aCons (eLst aNil) aNil)))
  (sSeq (sFor (iRng1F (eVar 1)) (gNm 4) (sPopApp 3 2 (eFn (fun xs => if xs.length = 2 then m__law_taken xs else fail) (aCons (eVar 0) (aCons (eCall gLen (aCons (eVar 2) aNil)) aNil)))))
  (sRet (eCall gTuple (aCons (eVar 3) aNil)))))
def m__law_order : List RV → M RV := runDef 5 g__law_order
def g_is_integer : DV.Env → M Out :=
  (sRet (eIfB (eIsT .int (eVar 0)) (eNotB (eIsT .bool (eVar 0))) (eC (.bool false))))
def m_is_integer : List RV → M RV := runDef 1 g_is_integer
def g_is_in : DV.Env → M Out :=
  (sRet (eIfB (eFn (fun xs => if xs.length = 1 then m_is_integer xs else fail) (aCons (eVar 0) aNil)) (eCh gLe gLe (eVar 1) (eVar 0) (eVar 2)) (eC (.bool false))))
def m_is_in : List RV → M RV := runDef 3 g_is_in
def g_is_list : DV.Env → M Out :=
  (sRet (eIfB (eIsT .tuple (eVar 0)) (eCh gLe gLe (eVar 1) (eCall gLen (aCons (eVar 0) aNil)) (eVar 2)) (eC (.bool false))))
def m_is_list : List RV → M RV := runDef 3 g_is_list
def g_is_order : DV.Env → M Out :=
  (sRet (eIfB (eFn (fun xs => if xs.length = 3 then m_is_list xs else fail) (aCons (eVar 0) (aCons (eVar 1) (aCons (eVar 1) aNil)))) (eIfB (eCall gAll (aCons (eLc (srcV 0) [2] (gNm 2) tTrue (eFn (fun xs => if xs.length = 3 then m_is_in xs else fail) (aCons (eVar 2) (aCons (eC (.int 0)) (aCons (e2 gSubI (eVar 1) (eC (.int 1))) aNil))))) aNil)) (e2 gEq (eLenSet (eVar 0)) (eVar 1)) (eC (.bool false))) (eC (.bool false))))
def m_is_order : List RV → M RV := runDef 3 g_is_order
def g_need_order : DV.Env → M Out :=
  (sIf (tNotF (eT (eFn (fun xs => if xs.length = 2 then m_is_order xs else fail) (aCons (eVar 0) (aCons (eVar 1) aNil))))) sNever sNil)
def m_need_order : List RV → M RV := runDef 2 g_need_order
def g_able_jobs : DV.Env → M Out :=
  (sSeq (sSet 3 (eLc (iRng1F (eVar 2)) [4] (gNm 4) (eT (e2 gNotIn (eVar 4) (eVar 1))) (eVar 4)))
  (sRet (eLc (srcV 3) [4] (gNm 4) (tNotF (eT (eCall gAny (aCons (eLc (srcV 0) [5] (gNm 5) tTrue (eIfB (e2 gEq (e2 gIx (eVar 5) (eC (.int 1))) (eVar 4)) (e2 gIn (e2 gIx (eVar 5) (eC (.int 0))) (eVar 3)) (eC (.bool false)))) aNil)))) (eVar 4))))
def m_able_jobs : List RV → M RV := runDef 6 g_able_jobs
end DVL

namespace DV
open PySem L2 PyProof.Rows
section
variable {X : Cx} {K : PySem.W.Frag} {R : RA} {L : Nat → Option (Addr × HO)} {E F F' H H' : Hp} {ρ ρ' : Env} {σ σ' : L2.St} {rs rs' : RS} {tg e c : Expr} {pos p : Pos} {te : TE} {f : Env → M RV}
def dI : D → Option Int
  | .int a => some a
  | _ => none
/-- x[k] op= e, ints -/
def sAugIx (i : Nat) (kf : Int → Int → Int) (g f : Env → M RV) : Env → M Out := fun ρ => bnd (lft (sApp.own? ρ i)) fun ds => bnd (g ρ) fun y => bnd (lft (asInt y)) fun j => bnd (lft (ixN ds.length j)) fun m => bnd (lft ((ds[m]?).bind dI)) fun a => bnd (f ρ) fun x => bnd (lft (asInt x)) fun b => ret (.nx (ρ.set i (some (.o (ds.set m (.int (kf a b)))))))
def pickA {α : Type} (xs : List α) (lo st : Int) : List α := (sliceRange (sliceBounds (some lo) none (some st) xs.length).1 (sliceBounds (some lo) none (some st) xs.length).2.1 (sliceBounds (some lo) none (some st) xs.length).2.2).filterMap (xs[·]?)
def eStep (f : Env → M RV) (lo st : Env → M (Option Int)) : Env → M RV := fun ρ => bnd (f ρ) fun x => bnd (lo ρ) fun l => bnd (st ρ) fun k => match l, k with
  | some l, some k => if k = 0 then fail else bnd (lft (newL x)) fun ds => ret (.n (pickA ds l k))
  | _, _ => fail
inductive Tgt where
  | nm (i : Nat) | sb (i : Nat) (f : Env → M RV)
def tgtF : Tgt → D → Env → M Env
  | .nm i, d, ρ => ret (ρ.set i (some (.d d)))
  | .sb i f, d, ρ => bnd (lft (sApp.own? ρ i)) fun ds => bnd (f ρ) fun y => bnd (lft (asInt y)) fun j => bnd (lft (ixN ds.length j)) fun m => ret (ρ.set i (some (.o (ds.set m d))))
def asDat : RV → Option D
  | .d x => some x
  | _ => none
def sTwo (t1 t2 : Tgt) (fa : Env → M (List RV)) : Env → M Out := fun ρ => bnd (fa ρ) fun xs => match xs with
  | [x, y] => bnd (lft (asDat x)) fun d => bnd (lft (asDat y)) fun e => bnd (tgtF t1 d ρ) fun ρ1 => bnd (tgtF t2 e ρ1) fun ρ2 => ret (.nx ρ2)
  | _ => fail
end
end DV

namespace DV
open PySem L2 PyProof.Rows RT
section
variable {X : Cx} {K : PySem.W.Frag} {R : RA} {L L0 : Nat → Option (Addr × HO)} {E E0 F F' H H' : Hp} {ρ ρ' : Env} {σ σ' : L2.St} {rs rs' : RS}
/-- (L, E) goes on from (L0, E0): the entry's things stand; what stands at odd places is new since -/
structure Xt (L0 : Nat → Option (Addr × HO)) (E0 : Hp) (L : Nat → Option (Addr × HO)) (E : Hp) : Prop where
  e : ∀ a o, E0 a = some o → E a = some o
  ev : ∀ i, L (2 * i) = L0 (2 * i)
  lk : ∀ i a u, L0 (2 * i) = some (a, u) → E0 a = some u
  od : ∀ i a u, L (2 * i + 1) = some (a, u) → E0 a = none
theorem Xt.less (x : Xt L0 E0 L E) (a : Addr) (h : E a = none) : E0 a = none := by
  cases q : E0 a with
  | none => rfl
  | some u => rw [x.e a u q] at h; cases h
theorem VRet.less {v : V} {x : RV} (h : VRet K R E F H v x) (e : ∀ a, E a = none → E0 a = none) : VRet K R E0 F H v x := by
  cases x with
  | d y => exact h
  | n ds =>
    obtain ⟨a, vs, z1, z2, z3, z4⟩ := h
    exact ⟨a, vs, z1, z2, e a z3, z4⟩
  | gb _ => exact h.elim
  | gn c =>
    obtain ⟨a, vs, z1, z2, z3, z4⟩ := h
    exact ⟨a, vs, z1, z2, e a z3, z4⟩
  | b ds => exact h.elim
  | row => exact h.elim
theorem Ret.less2 {v : V} {x : RV} (x1 : Xt L0 E0 L E) (q : Ret K R rs' E F F' H' v x) : Ret K R rs' E0 F F' H' v x :=
  ⟨q.fs.less x1.less, fun a o h => q.ex a o (x1.e a o h), q.fr, q.row, q.rF, q.val.less x1.less⟩
def Post2 (K : PySem.W.Frag) (R : RA) (L0 : Nat → Option (Addr × HO)) (E0 F : Hp) (D : Ends) (rs' : RS) : Out → Prop
  | .nx ρ' => ∀ L' E' σ' F' H', Xt L0 E0 L' E' → FStep R E0 F F' → Rel K R L' E' F' ρ' σ' rs' H' → D.nx σ' H'
  | .bk ρ' => ∀ L' E' σ' F' H', Xt L0 E0 L' E' → FStep R E0 F F' → Rel K R L' E' F' ρ' σ' rs' H' → D.bk σ' H'
  | .ct ρ' => ∀ L' E' σ' F' H', Xt L0 E0 L' E' → FStep R E0 F F' → Rel K R L' E' F' ρ' σ' rs' H' → D.ct σ' H'
  | .rt x => ∀ v F' H', Ret K R rs' E0 F F' H' v x → D.rt v H'
def SSem2 (K : PySem.W.Frag) (R : RA) (t : TS) (g : Env → M Out) : Prop :=
  ∀ (L0 : Nat → Option (Addr × HO)) (E0 : Hp) (L : Nat → Option (Addr × HO)) (E F : Hp) (ρ : Env) (σ : L2.St) (rs : RS) (H : Hp) (o : Out) (rs' : RS) (D : Ends), Xt L0 E0 L E → Rel K R L E F ρ σ rs H → g ρ rs = some (o, rs') → Post2 K R L0 E0 F D rs' o → t D σ H
structure DS2 (X : Cx) (R : RA) (st : Stmt) (t : TS) (g : Env → M Out) : Prop where
  ps : PS X st t
  sem : SSem2 X.K R t g
structure DSs2 (X : Cx) (R : RA) (st : List Stmt) (t : TS) (g : Env → M Out) : Prop where
  ps : PSs X st t
  sem : SSem2 X.K R t g
theorem Post2.after {F1 : Hp} {D : Ends} {o : Out} (h : Post2 K R L0 E0 F D rs' o) (s : FStep R E0 F F1) : Post2 K R L0 E0 F1 D rs' o := by
  cases o with
  | nx ρ' => exact fun L' E' σ' F' H' x f r => h L' E' σ' F' H' x (s.trans f) r
  | bk ρ' => exact fun L' E' σ' F' H' x f r => h L' E' σ' F' H' x (s.trans f) r
  | ct ρ' => exact fun L' E' σ' F' H' x f r => h L' E' σ' F' H' x (s.trans f) r
  | rt x => exact fun v F' H' q => h v F' H' ⟨s.trans q.fs, q.ex, q.fr, q.row, q.rF, q.val⟩
variable {st : Stmt} {rest sa sb : List Stmt} {t u : TS} {e c : Expr} {te : TE} {tt : TT} {pos : Pos} {f : Env → M RV} {x : Env → M Bool} {g h : Env → M Out}
/-- what changes no nested container -/
theorem ssem2_up (h : SSem K R t g) : SSem2 K R t g := fun L0 E0 L E F ρ σ rs H o rs' D x r hf k => by
  refine h L E F ρ σ rs H o rs' D r hf ?_
  cases o with
  | nx ρ' => exact fun σ' F' H' f r' => k L E σ' F' H' x (f.less x.less) r'
  | bk ρ' => exact fun σ' F' H' f r' => k L E σ' F' H' x (f.less x.less) r'
  | ct ρ' => exact fun σ' F' H' f r' => k L E σ' F' H' x (f.less x.less) r'
  | rt y => exact fun v F' H' q => k v F' H' (q.less2 x)
theorem ds2_up (h : DS X R st t g) : DS2 X R st t g := ⟨h.ps, ssem2_up h.sem⟩
theorem dss2_up (h : DSs X R rest t g) : DSs2 X R rest t g := ⟨h.ps, ssem2_up h.sem⟩
theorem ssem2_seq (h1 : SSem2 K R t g) (h2 : SSem2 K R u h) : SSem2 K R (tSeq t u) (sSeq g h) := fun L0 E0 L E F ρ σ rs H o rs' D x r hf k => by
  obtain ⟨o1, rs1, e1, hf1⟩ := bnd_some hf
  refine h1 L0 E0 L E F ρ σ rs H o1 rs1 { D with nx := u D } x r e1 ?_
  cases o1 with
  | nx ρ1 =>
    exact fun L1 E1 σ1 F1 H1 x1 s1 r1 => h2 L0 E0 L1 E1 F1 ρ1 σ1 rs1 H1 o rs' D x1 r1 hf1 (k.after s1)
  | rt x =>
    obtain ⟨e2, q2⟩ := ret_some hf1
    subst e2 q2
    exact k
  | bk ρ1 =>
    obtain ⟨e2, q2⟩ := ret_some hf1
    subst e2 q2
    exact k
  | ct ρ1 =>
    obtain ⟨e2, q2⟩ := ret_some hf1
    subst e2 q2
    exact k
theorem dss2_one (h1 : DS2 X R st t g) : DSs2 X R [st] t g := ⟨pss_one h1.ps, h1.sem⟩
theorem dss2_cons (h1 : DS2 X R st t g) (h2 : DSs2 X R rest u h) : DSs2 X R (st :: rest) (tSeq t u) (sSeq g h) := ⟨pss_cons h1.ps h2.ps, ssem2_seq h1.sem h2.sem⟩
theorem ds2_if (hc : DT X R c tt x) (ha : DSs2 X R sa t g) (hb : DSs2 X R sb u h) : DS2 X R (.If c sa sb pos) (tIfS tt t u) (sIf x g h) := ⟨ps_if hc.pt ha.ps hb.ps, fun L0 E0 L E F ρ σ rs H o rs' D xt r hf k => by
  obtain ⟨b, rs1, e1, hf1⟩ := bnd_some hf
  refine hc.sem L E ρ σ F H rs b rs1 _ r e1 fun F1 H1 s1 => ?_
  have fs := (FStep.ofStep r s1).less xt.less
  cases b with
  | true =>
    rw [if_pos rfl] at hf1 ⊢
    exact ha.sem L0 E0 L E F1 ρ σ rs1 H1 o rs' D xt (r.step s1) hf1 (k.after fs)
  | false =>
    rw [if_neg Bool.false_ne_true] at hf1 ⊢
    exact hb.sem L0 E0 L E F1 ρ σ rs1 H1 o rs' D xt (r.step s1) hf1 (k.after fs)⟩
/-- a source that is data: nothing has to be locked -/
def IterOk2 (K : PySem.W.Frag) (F' : Hp) (J : It) (its : List D) : Prop := ∃ (G : Hp → Prop) (Y : Nat → Hp → V → Hp → Prop), Walk J its.length G Y ∧ (∀ H2, (∀ a o, F' a = some o → H2 a = some o) → G H2) ∧ YOk K F' its Y
def ISem2 (K : PySem.W.Frag) (R : RA) (wi : TI) (f : Env → M (List D)) : Prop :=
  ∀ (L : Nat → Option (Addr × HO)) (E : Hp) (ρ : Env) (σ : L2.St) (F H : Hp) (rs : RS) (its : List D) (rs' : RS) (Rq : It → Hp → Prop), Rel K R L E F ρ σ rs H → f ρ rs = some (its, rs') →
    (∀ J F' H', Step K R rs' F H F' H' → IterOk2 K F' J its → Rq J H') → wi σ H Rq
structure DI2 (X : Cx) (R : RA) (tg it : Expr) (wi : TI) (f : Env → M (List D)) : Prop where
  pi : PI X tg it wi
  sem : ISem2 X.K R wi f
def sFor2 (fi : Env → M (List D)) (tg : D → Env → Option Env) (body : Env → M Out) : Env → M Out := fun ρ => bnd (fi ρ) fun its => loopF tg body its ρ
variable {S : List Nat} {tg it : Expr} {body : List Stmt} {tb : TS} {wi : TI} {gt : TG} {hg : D → Env → Option Env}
theorem ssem2_for {fi : Env → M (List D)} {gb : Env → M Out} (hi : ISem2 K R wi fi) (hgs : GSem K R S gt hg) (hb : SSem2 K R tb gb) : SSem2 K R (tFor wi gt tb) (sFor2 fi hg gb) := fun L0 E0 L E F ρ σ rs H o rs' D xt r hf k => by
  obtain ⟨its, rs1, e1, hf1⟩ := bnd_some hf
  refine hi L E ρ σ F H rs its rs1 _ r e1 fun J F1 H1 s1 ⟨G, Y, wk, hG, hY⟩ => ?_
  have r1 := r.step s1
  have fs1 := (FStep.ofStep r s1).less xt.less
  refine for_it wk (fun i σ' H' => ∃ L2 E2 F2 ρ2 rs3, Xt L0 E0 L2 E2 ∧ FStep R E0 F1 F2 ∧ Rel K R L2 E2 F2 ρ2 σ' rs3 H' ∧ loopF hg gb (its.drop i) ρ2 rs3 = some (o, rs')) ⟨L, E, F1, _, rs1, xt, FStep.refl, r1, hf1⟩
    (fun i σ' H' hi ⟨L2, E2, F2, ρ2, rs3, x2, fs, r2, _⟩ => hG H' fun a o q => r2.fr a o (fs.sub a o q)) ?_ ?_
  · rintro i v σ' H2 H3 hi' ⟨L2, E2, F2, ρ2, rs3, x2, fs, r2, el⟩ hy
    obtain ⟨x, F3, ex, s3, hd⟩ := hY.step hi' fs.sub r2.refl hy
    have er : its.drop i = x :: its.drop (i + 1) := by
      have hx : its[i] = x := by
        rw [List.getElem?_eq_getElem hi'] at ex
        exact Option.some.inj ex
      rw [← hx]
      exact List.drop_eq_getElem_cons hi'
    rw [er] at el
    obtain ⟨ρ3, rs4, e4, el1⟩ := bnd_some el
    obtain ⟨e5, q5⟩ := lft_some e4
    subst q5
    obtain ⟨o2, rs5, e6, el2⟩ := bnd_some el1
    have r3 := r2.step s3
    have fs3 := fs.trans ((FStep.ofStep r2 s3).less x2.less)
    refine hgs L2 E2 F3 ρ2 σ' _ H3 v x ρ3 _ r3 hd e5 fun σ4 r4 _ => ?_
    refine hb L0 E0 L2 E2 F3 ρ3 σ4 _ H3 o2 rs5 _ x2 r4 e6 ?_
    cases o2 with
    | nx ρ5 => exact fun L5 E5 σ5 F5 H5 x5 f5 r5 => ⟨L5, E5, F5, ρ5, rs5, x5, fs3.trans f5, r5, el2⟩
    | ct ρ5 => exact fun L5 E5 σ5 F5 H5 x5 f5 r5 => ⟨L5, E5, F5, ρ5, rs5, x5, fs3.trans f5, r5, el2⟩
    | bk ρ5 =>
      obtain ⟨e7, q7⟩ := ret_some el2
      subst e7 q7
      exact fun L5 E5 σ5 F5 H5 x5 f5 r5 => k L5 E5 σ5 F5 H5 x5 (fs1.trans (fs3.trans f5)) r5
    | rt x =>
      obtain ⟨e7, q7⟩ := ret_some el2
      subst e7 q7
      exact fun v5 F5 H5 q => k v5 F5 H5 ⟨fs1.trans (fs3.trans q.fs), q.ex, q.fr, q.row, q.rF, q.val⟩
  · rintro σ' H' ⟨L2, E2, F2, ρ2, rs3, x2, fs, r2, el⟩
    rw [List.drop_length] at el
    obtain ⟨e7, q7⟩ := ret_some el
    subst e7 q7
    exact k L2 E2 σ' F2 H' x2 (fs1.trans fs) r2
/-- a tuple that is data -/
def tupOf : RV → Option (List D)
  | .d (.tuple ds) => some ds
  | _ => none
def iDat (f : Env → M RV) : Env → M (List D) := fun ρ => bnd (f ρ) fun x => lft (tupOf x)
theorem tupOf_some {x : RV} {ds : List D} (h : tupOf x = some ds) : x = .d (.tuple ds) := by
  cases x with
  | d y => cases y <;> cases h; rfl
  | b _ => cases h
  | n _ => cases h
  | gb _ => cases h
  | gn _ => cases h
  | row => cases h
theorem di2_dat (h : DE X R e te f) : DI2 X R tg e (iSeqK X.K te) (iDat f) := ⟨pi_seqK h.pe, fun L E ρ σ F H rs its rs' Rq r hf k => by
  obtain ⟨x, rs1, e1, hf1⟩ := bnd_some hf
  obtain ⟨e2, q2⟩ := lft_some hf1
  subst q2
  have ex := tupOf_some e2
  subst ex
  refine h.sem L E ρ σ F H rs _ _ _ r e1 fun v F1 H1 s1 h1 => ?_
  cases h1 with
  | @tup a vs _ z1 z2 =>
    have r1 := r.step s1
    refine ⟨.t, a, vs, rfl, ex_t (r1.fr a) z1, k _ F1 H1 s1 ⟨fun H => SqK .t X.K H a vs, YAt vs, ?_, fun H2 h2 => ex_t (h2 a) z1, yAt_ok z2⟩⟩
    have := walk_seqK .t (K := X.K) (a := a) (xs := vs)
    rw [z2.len] at this
    exact this⟩
def iDatR (f : Env → M RV) : Env → M (List D) := fun ρ => bnd (iDat f ρ) fun ds => ret ds.reverse
theorem di2_rev {p : Pos} (hgl : Gl X "reversed") (hm : X.mg "reversed" = none) (h : DE X R e te f) (hs : starEach [e] X.env = (false, eval e X.env) :: starEach [] X.env := by rfl) :
    DI2 X R tg (.Call (.Name "reversed" p) [e] [] pos) (iRevA X.K te) (iDatR f) := ⟨pi_revA hgl hm h.pe hs, fun L E ρ σ F H rs its rs' Rq r hf k => by
  obtain ⟨ds, rs0, e0, hf0⟩ := bnd_some hf
  obtain ⟨e9, q9⟩ := ret_some hf0
  subst e9 q9
  obtain ⟨x, rs1, e1, hf1⟩ := bnd_some e0
  obtain ⟨e2, q2⟩ := lft_some hf1
  subst q2
  have ex := tupOf_some e2
  subst ex
  refine h.sem L E ρ σ F H rs _ _ _ r e1 fun v F1 H1 s1 h1 => ?_
  cases h1 with
  | @tup a vs _ z1 z2 =>
    have r1 := r.step s1
    have hl : ds.reverse.length = vs.length := by rw [List.length_reverse, z2.len]
    refine ⟨a, vs, rfl, .inr ⟨ex_t (r1.fr a) z1, k _ F1 H1 s1 ⟨fun H => SqT X.K H a vs, fun i H x H' => H' = H ∧ vs[vs.length - 1 - i]? = some x, ?_, fun H2 h2 => ex_t (h2 a) z1, yRev_ok z2⟩⟩⟩
    rw [hl]
    exact walk_rt⟩
theorem ds2_for {fi : Env → M (List D)} {gb : Env → M Out} (hp : PassesOwn (model X.prog X.w) X.A X.env X.xe) (hc : X.calm = true) (hi : DI2 X R tg it wi fi) (hg' : DG X R S tg gt hg) (hb : DSs2 X R body tb gb)
    (hs : ∀ x, foldedSetIterable it X.env x = pure x := by intro _; rfl) : DS2 X R (.For tg it body [] pos) (tFor wi gt tb) (sFor2 fi hg gb) := ⟨ps_for hp hc hi.pi hg'.pg hb.ps hs, ssem2_for hi.sem hg'.sem hb.sem⟩
def noM (ρ : Env) : Bool := ρ.all fun s => match s with
  | some (.m _) => false
  | _ => true
theorem noM_of {i : Nat} {c : NC} (h : noM ρ = true) : ρ[i]? ≠ some (some (SV.m c)) := fun e => by
  have hm := List.mem_of_getElem? e
  have := List.all_eq_true.mp h _ hm
  cases this
def evL (L : Nat → Option (Addr × HO)) : Nat → Option (Addr × HO) := fun j => if j % 2 = 0 then L j else none
theorem evL_at {i : Nat} : evL L (2 * i) = L (2 * i) := if_pos (by omega)
theorem Rel.evens (r : Rel K R L E F ρ σ rs H) (h : noM ρ = true) : Rel K R (evL L) E F ρ σ rs H := by
  refine ⟨r.len, r.ex, r.ent, r.fr, r.row, r.rE, fun i a u e => ?_, fun i sv e => ?_, r.own⟩
  · unfold evL at e
    split at e
    · exact r.lk i a u e
    · cases e
  · obtain ⟨v, e1, q⟩ := r.sl i sv e
    refine ⟨v, e1, ?_⟩
    cases sv with
    | d x => exact q
    | k ds =>
      obtain ⟨a, vs, z1, z2⟩ := q
      exact ⟨a, vs, evL_at.trans z1, z2⟩
    | un => exact trivial
    | ex _ _ => exact q
    | fn _ => exact q
    | lm => exact q
    | m c => exact absurd e (noM_of h)
    | row => exact q
    | o ds => exact q
    | g c => exact q
/-- the body of a def that holds a nested container: it ends by a return -/
def sBody2 (g : Env → M Out) : Env → M Out := fun ρ => if noM ρ = true then bnd (g ρ) fun o => match o with
  | .rt x => ret (.rt x)
  | _ => fail
  else fail
theorem dss_of2 (h : DSs2 X R rest t g) : DSs X R rest t (sBody2 g) := ⟨h.ps, fun L E F ρ σ rs H o rs' D r hf k => by
  unfold sBody2 at hf
  by_cases hm : noM ρ = true
  · rw [if_pos hm] at hf
    obtain ⟨o1, rs1, e1, hf1⟩ := bnd_some hf
    have x0 : Xt (evL L) E (evL L) E := ⟨fun _ _ h => h, fun _ => rfl, fun i a u e => r.lk _ a u (evL_at.symm.trans e), fun i a u e => by
      unfold evL at e
      rw [if_neg (by omega)] at e
      cases e⟩
    refine h.sem (evL L) E (evL L) E F ρ σ rs H o1 rs1 D x0 (r.evens hm) e1 ?_
    cases o1 with
    | rt y =>
      obtain ⟨e2, q2⟩ := ret_some hf1
      subst e2 q2
      exact k
    | nx _ => cases hf1
    | bk _ => cases hf1
    | ct _ => cases hf1
  · rw [if_neg hm] at hf
    cases hf⟩
end
end DV

namespace DV
open PySem L2 PyProof.Rows LamX
section
variable {X : Cx} {K : PySem.W.Frag} {R : RA} {L L0 : Nat → Option (Addr × HO)} {E E0 F F' H H' : Hp} {ρ ρ' : Env} {σ σ' : L2.St} {rs rs' : RS}
theorem rm1 {k : Nat} {A : Around} (r : Room k A) : A.units + 1 < cLine := by have := r.un; omega
def rDUpd : V → List V → Hp → VK → Prop := fun x vs H Q => ∃ (a b : Addr) (ks ms : List (Key × V)), x = .ref a ∧ vs = [.ref b] ∧ a ≠ b ∧ H a = some (.dK ks) ∧ H b = some (.dK ms) ∧ ks.length + ms.length ≤ sizeLine ∧ Q .non (upd H a (.dK (mergeK ks ms)))
theorem mt_dupd : MtR X "dict.update" rDUpd := by
  intro pins s σ H x vs v us Q I rx rv h
  obtain ⟨a, b, ks, ms, rfl, rfl, hne, ha, hb, hl, q⟩ := h
  cases rx
  obtain ⟨u, rfl, ru⟩ := rv.one
  cases ru
  obtain ⟨za, hda, va, ra, da⟩ := dk_of I.hok ha
  obtain ⟨zb, hdb, vb, rb, db⟩ := dk_of I.hok hb
  refine call_meetsIn F.slot_dict_update da.typeIs F.entry_dict_update (F.args_dict_update_2 _ _) (meets_dict_update (mixKind X.prog X.w) a b hne hdb)
    ⟨va, vb, da, db, by rw [← ra.length, ← rb.length]; exact hl, fun h' d1 d2 hs => ?_⟩
  have hz : (mergeK ks ms).length ≤ sizeLine := by
    have := length_mergeK ms ks
    omega
  have he : ∃ q, h'.get? a = some q := let ⟨q, _, _, hq, _⟩ := d1; ⟨q, hq⟩
  exact ⟨.non, _, d_write I (by rw [ha]; exact True.intro) hs he (dk_new hz hda (rb.merge ra) d1), rfl, q⟩
def mAt (ρ : Env) (i : Nat) : Option NC := match ρ[i]? with
  | some (some (.m c)) => some c
  | _ => none
theorem mAt_some {i : Nat} {c : NC} (h : mAt ρ i = some c) : ρ[i]? = some (some (SV.m c)) := by
  unfold mAt at h
  cases e : ρ[i]? with
  | none => rw [e] at h; cases h
  | some o =>
    cases o with
    | none => rw [e] at h; cases h
    | some sv =>
      rw [e] at h
      cases sv with
      | m c => cases h; rfl
      | d _ => cases h
      | k _ => cases h
      | o _ => cases h
      | g _ => cases h
      | un => cases h
      | ex _ _ => cases h
      | fn _ => cases h
      | lm => cases h
      | row => cases h
def mPos (c : NC) (j : Int) : Option Nat := match c.ks with
  | some ks => ks.findIdx? fun k => decide (k = j)
  | none => if 0 ≤ j ∧ j < c.xs.length then some j.toNat else none
theorem outO_fx {ks : Option (List Int)} {as : List Addr} {a : Addr} : Fx K a (outO ks as) := by
  cases ks with
  | none => exact .lst
  | some ks => exact .inl fun _ z => nomatch z
theorem InR.fx {b : Addr} {u : HO} {x : IC} (h : InR K F b u x) : Fx K b u := by
  cases x with
  | l ds => obtain ⟨vs, rfl, _⟩ := h; exact .lst
  | g c => exact DictR.fx h
  | f c => obtain ⟨o, u', rfl, _⟩ := h; exact .inl fun _ z => nomatch z
theorem InR.noTbl {b : Addr} {u : HO} {x : IC} {ps : Array Value} (h : InR K F b u x) : u ≠ .tbl ps := by
  cases x with
  | l ds => obtain ⟨vs, rfl, _⟩ := h; exact fun z => nomatch z
  | g c => exact DictR.noTbl h
  | f c => obtain ⟨o, u', rfl, _⟩ := h; exact fun z => nomatch z
theorem InR.noCode {b : Addr} {u : HO} {x : IC} {q : Str} (h : InR K F b u x) : CodeO b q ≠ u := by
  cases x with
  | l ds =>
    obtain ⟨vs, rfl, _⟩ := h
    intro z
    unfold CodeO at z
    cases z
  | g c => exact DictR.noCode h
  | f c =>
    obtain ⟨o, u', rfl, _⟩ := h
    intro z
    unfold CodeO at z
    cases z
theorem Rel.mAt (r : Rel K R L E F ρ σ rs H) {i : Nat} {c : NC} (e : ρ[i]? = some (some (SV.m c))) : ∃ a as, σ[i]? = some (some (V.ref a)) ∧ MR K L F a as c := by
  obtain ⟨v, e1, a, as, rfl, h⟩ := r.sl i _ e
  exact ⟨a, as, e1, h⟩
/-- the k-th of them -/
theorem MR.at_ {a : Addr} {as : List Addr} {c : NC} (h : MR K L F a as c) {k : Nat} {x : IC} (hx : c.xs[k]? = some x) : ∃ b u, as[k]? = some b ∧ F b = none ∧ L (2 * k + 3) = some (b, u) ∧ InR K F b u x := by
  have hk : k < as.length := by rw [h.len]; exact (List.getElem?_eq_some_iff.mp hx).1
  obtain ⟨h1, u, h2, h3⟩ := h.inn k as[k] x (List.getElem?_eq_getElem hk) hx
  exact ⟨as[k], u, List.getElem?_eq_getElem hk, h1, h2, h3⟩
/-- a dict of them is asked -/
theorem zip_get : ∀ {ks : List Int} {as : List Addr} {j : Int} {k : Nat} {b : Addr}, ks.length = as.length → ks.findIdx? (fun k => decide (k = j)) = some k → as[k]? = some b → valV ((ks.zip as).map fun p => ((.inl p.1 : Key), V.ref p.2)) (.inl j) = some (.ref b)
  | [], _, _, _, _, _, h, _ => by cases h
  | q :: ks, [], _, _, _, hl, _, _ => by cases hl
  | q :: ks, a :: as, j, k, b, hl, h, hb => by
    rw [List.zip_cons_cons, List.map_cons]
    rw [List.findIdx?_cons] at h
    by_cases e : q = j
    · subst e
      rw [valV_pos rfl]
      simp at h
      subst h
      simp at hb
      rw [hb]
    · rw [valV_neg (fun z => e (by cases z; rfl))]
      rw [if_neg (by simpa using e)] at h
      cases h2 : ks.findIdx? (fun k => decide (k = j)) with
      | none => rw [h2] at h; cases h
      | some k2 =>
        rw [h2] at h
        cases h
        exact zip_get (by simpa using hl) h2 (by simpa using hb)
def icRV : IC → Option RV
  | .l ds => some (.b ds)
  | .g c => some (.gb c)
  | .f _ => none
/-- name[e], the name of a container within which containers stand -/
def eMGet (i : Nat) (h : Env → M RV) : Env → M RV := fun ρ => bnd (lft (DV.mAt ρ i)) fun c => bnd (h ρ) fun y => bnd (lft (asInt y)) fun j => bnd (lft (mPos c j)) fun k => bnd (lft (c.xs[k]?)) fun x => lft (icRV x)
theorem eMGet_some {i : Nat} {h : Env → M RV} {x : RV} (hf : eMGet i h ρ rs = some (x, rs')) : ∃ c y j k z, ρ[i]? = some (some (SV.m c)) ∧ h ρ rs = some (y, rs') ∧ asInt y = some j ∧ mPos c j = some k ∧ c.xs[k]? = some z ∧ icRV z = some x := by
  obtain ⟨c, rs1, e1, g1⟩ := bnd_some hf
  obtain ⟨e1', q1⟩ := lft_some e1
  subst q1
  obtain ⟨y, rs2, e2, g2⟩ := bnd_some g1
  obtain ⟨j, rs3, e3, g3⟩ := bnd_some g2
  obtain ⟨e3', q3⟩ := lft_some e3
  subst q3
  obtain ⟨k, rs4, e4, g4⟩ := bnd_some g3
  obtain ⟨e4', q4⟩ := lft_some e4
  subst q4
  obtain ⟨z, rs5, e5, g5⟩ := bnd_some g4
  obtain ⟨e5', q5⟩ := lft_some e5
  subst q5
  obtain ⟨e6, q6⟩ := lft_some g5
  subst q6
  exact ⟨c, y, j, k, z, mAt_some e1', e2, e3', e4', e5', e6⟩
/-- what the k-th is, behind a step -/
theorem Rel.inner (r : Rel K R L E F ρ σ rs H) {a : Addr} {as : List Addr} {c : NC} (h : MR K L F a as c) {k : Nat} {x : IC} (hx : c.xs[k]? = some x) : ∃ b u, as[k]? = some b ∧ H b = some u ∧ E b = some u ∧ F b = none ∧ some b ≠ R.row ∧ L (2 * k + 3) = some (b, u) ∧ InR K F b u x := by
  obtain ⟨b, u, h1, h2, h3, h4⟩ := h.at_ hx
  have hE := r.lk _ _ _ h3
  refine ⟨b, u, h1, r.ex b u hE, hE, h2, fun z => ?_, h3, h4⟩
  have := (r.rE b z.symm).1
  rw [hE] at this
  cases this
theorem InR.vr {b : Addr} {u : HO} {x : IC} {H0 : Hp} {y : RV} (h : InR K F b u x) (hb : H b = some u) (hR : some b ≠ R.row) (e : icRV x = some y) : VR K R F H0 H (.ref b) y := by
  cases x with
  | l ds =>
    cases e
    obtain ⟨vs, rfl, h2⟩ := h
    exact ⟨b, vs, rfl, hb, hR, h2⟩
  | g c => cases e; exact ⟨b, u, rfl, hb, hR, h⟩
  | f c => cases e
variable {i : Nat} {te ti tv : TE} {h f g : Env → M RV}
/-- a dict of them is asked, raw -/
theorem mget_raw (hi : ESem K R ti h) (r : Rel K R L E F ρ σ rs H) {c : NC} {ks : List Int} {y : RV} {j : Int} {k : Nat} (e1 : ρ[i]? = some (some (SV.m c))) (hks : c.ks = some ks) (e2 : h ρ rs = some (y, rs')) (e3 : asInt y = some j) (e4 : mPos c j = some k) (hk : k < c.xs.length) {Q : VK}
    (kk : ∀ a as b F' H', Step K R rs' F H F' H' → σ[i]? = some (some (V.ref a)) → as[k]? = some b → MR K L F' a as c → Q (.ref b) H') : tDGet (tVar i) ti σ H Q := by
  obtain ⟨a, as, ea, hM⟩ := r.mAt e1
  refine ⟨_, ea, hi L E ρ σ F H rs y rs' _ r e2 fun v1 F1 H1 s1 h1 => ?_⟩
  have hv := h1.int e3
  subst hv
  have r1 := r.step s1
  obtain ⟨a', as', ea', hM1⟩ := r1.mAt e1
  rw [ea] at ea'
  cases ea'
  obtain ⟨b, u, b1, _⟩ := r1.inner hM1 (List.getElem?_eq_getElem hk)
  have hout := r1.ex _ _ (r1.lk _ _ _ hM1.out)
  have hl := (hM1.ks ks hks).1
  have e4' : ks.findIdx? (fun k => decide (k = j)) = some k := by
    unfold mPos at e4
    rw [hks] at e4
    exact e4
  rw [hks] at hout
  have hv := zip_get hl e4' b1
  refine ⟨a, .ref b, rfl, ?_, kk a as' b F1 H1 s1 ea b1 hM1⟩
  rw [← hv]
  exact DGet.k (k := .inl j) hout
/-- name[e] of a dict of containers -/
def isDictM (ρ : Env) (i : Nat) : Bool := match DV.mAt ρ i with
  | some ⟨some _, _⟩ => true
  | _ => false
theorem isDictM_of {c : NC} (h : isDictM ρ i = true) (e : ρ[i]? = some (some (SV.m c))) : ∃ ks, c.ks = some ks := by
  unfold isDictM DV.mAt at h
  simp only [e] at h
  obtain ⟨ko, xs⟩ := c
  cases ko with
  | none => cases h
  | some ks => exact ⟨ks, rfl⟩
def eMGetD (i : Nat) (h : Env → M RV) : Env → M RV := fun ρ => if isDictM ρ i = true then eMGet i h ρ else fail
theorem esem_mget (hi : ESem K R ti h) : ESem K R (tDGet (tVar i) ti) (eMGetD i h) := fun L E ρ σ F H rs x rs' Q r hf kk => by
  unfold eMGetD at hf
  by_cases hd : isDictM ρ i = true
  · rw [if_pos hd] at hf
    obtain ⟨c, y, j, k, z, e1, e2, e3, e4, e5, e6⟩ := eMGet_some hf
    obtain ⟨ks, hks⟩ := isDictM_of hd e1
    refine mget_raw hi r e1 hks e2 e3 e4 (List.getElem?_eq_some_iff.mp e5).1 fun a as b F1 H1 s1 ea hb hM => ?_
    obtain ⟨b', u, b1, b2, b3, b4, b5, b6, b7⟩ := (r.step s1).inner hM e5
    rw [hb] at b1
    cases b1
    exact kk _ F1 H1 s1 (b7.vr b2 b5 e6)
  · rw [if_neg hd] at hf
    cases hf
theorem de_mget {x : Str} {ei : Expr} {p1 pos : Pos} (hu : X.A.units + 1 < cLine) (hi : DE X R ei ti h) (hN : X.N[i]? = some x := by rfl) (hv : Vis X.env.scope x := by first | exact Or.inl rfl | exact Or.inr (Or.inl rfl) | exact Or.inr (Or.inr rfl)) (hd : (x == ("__debug__" : Str)) = false := by decide)
    (hcd : (x == ("__classdict__" : Str)) = false := by decide) (hs : NoSl ei := by exact fun _ _ => rfl) : DE X R (.Subscript (.Name x p1) ei pos) (tDGet (tVar i) ti) (eMGetD i h) := ⟨pe_dget hu (pe_var hN hv hd hcd) hi.pe hs, esem_mget hi.sem⟩
/-- L with the k-th's new content; of the odd places those alone that are in use -/
def updL (L : Nat → Option (Addr × HO)) (n k : Nat) (b : Addr) (u : HO) : Nat → Option (Addr × HO) := fun j => if j = 2 * k + 3 then some (b, u) else if j % 2 = 0 ∨ j < 2 * n + 3 then L j else none
theorem updL_ev {L : Nat → Option (Addr × HO)} {n k : Nat} {b : Addr} {u : HO} {i : Nat} : updL L n k b u (2 * i) = L (2 * i) := by
  unfold updL
  rw [if_neg (by omega), if_pos (.inl (by omega))]
theorem updL_at {L : Nat → Option (Addr × HO)} {n k : Nat} {b : Addr} {u : HO} : updL L n k b u (2 * k + 3) = some (b, u) := if_pos rfl
theorem updL_od {L : Nat → Option (Addr × HO)} {n k j : Nat} {b : Addr} {u : HO} (h : j ≠ 2 * k + 3) (h2 : j < 2 * n + 3) : updL L n k b u j = L j := by
  unfold updL
  rw [if_neg h, if_pos (.inr h2)]
theorem updL_inv {L : Nat → Option (Addr × HO)} {n k j : Nat} {b c : Addr} {u w : HO} (h : updL L n k b u j = some (c, w)) : (j = 2 * k + 3 ∧ c = b ∧ w = u) ∨ (j ≠ 2 * k + 3 ∧ (j % 2 = 0 ∨ j < 2 * n + 3) ∧ L j = some (c, w)) := by
  unfold updL at h
  by_cases e : j = 2 * k + 3
  · rw [if_pos e] at h
    cases h
    exact .inl ⟨e, rfl, rfl⟩
  · rw [if_neg e] at h
    by_cases e2 : j % 2 = 0 ∨ j < 2 * n + 3
    · rw [if_pos e2] at h
      exact .inr ⟨e, e2, h⟩
    · rw [if_neg e2] at h
      cases h
/-- no other container of this kind -/
def onlyM (ρ : Env) (i : Nat) : Bool := noM (ρ.set i none)
theorem onlyM_of {i j : Nat} {c : NC} (h : onlyM ρ i = true) (hj : j ≠ i) : ρ[j]? ≠ some (some (SV.m c)) := fun e => by
  refine noM_of (i := j) (c := c) h ?_
  rw [List.getElem?_set_ne (Ne.symm hj)]
  exact e
theorem Rel.changeM (xt : Xt L0 E0 L E) (r : Rel K R L E F ρ σ rs H) {c : NC} (e : ρ[i]? = some (some (SV.m c))) (ho : onlyM ρ i = true) {a : Addr} {as : List Addr} (hM : MR K L F a as c) (ea : σ[i]? = some (some (V.ref a))) {k : Nat} {x x' : IC} (hx : c.xs[k]? = some x)
    {b : Addr} (hb : as[k]? = some b) {u' : HO} (hu : InR K F b u' x') :
    Xt L0 E0 (updL L as.length k b u') (upd E b u') ∧ Rel K R (updL L as.length k b u') (upd E b u') F (ρ.set i (some (.m ⟨c.ks, c.xs.set k x'⟩))) σ rs (upd H b u') := by
  obtain ⟨b2, u, h1, hH, hE, hF, hR, hL, hI⟩ := r.inner hM hx
  rw [hb] at h1
  cases h1
  have hl : i < ρ.length := (List.getElem?_eq_some_iff.mp e).1
  have hk : k < as.length := (List.getElem?_eq_some_iff.mp hb).1
  have hE0 : E0 b = none := by
    have := xt.od (k + 1) b u (by rw [show 2 * (k + 1) + 1 = 2 * k + 3 by omega]; exact hL)
    exact this
  have nd := List.nodup_cons.mp hM.nd
  have hab : a ≠ b := fun z => nd.1 (by rw [z]; exact List.mem_of_getElem? hb)
  have hother : ∀ {j : Nat} {d : Addr} {w : HO}, j ≠ 2 * k + 3 → (j % 2 = 0 ∨ j < 2 * as.length + 3) → L j = some (d, w) → d ≠ b := fun {j d w} hj hjn hLj z => by
    subst z
    by_cases hev : j % 2 = 0
    · have e1 : j = 2 * (j / 2) := by omega
      rw [e1, xt.ev] at hLj
      have := xt.lk _ _ _ hLj
      rw [hE0] at this
      cases this
    · by_cases h1 : j = 1
      · subst h1
        rw [hM.out] at hLj
        cases hLj
        exact hab rfl
      · obtain ⟨m, rfl⟩ : ∃ m, j = 2 * m + 3 := ⟨(j - 3) / 2, by omega⟩
        have hm : m < as.length := by omega
        have hmx : m < c.xs.length := by rw [← hM.len]; exact hm
        obtain ⟨_, u2, h2, _⟩ := hM.inn m as[m] c.xs[m] (List.getElem?_eq_getElem hm) (List.getElem?_eq_getElem hmx)
        rw [hLj] at h2
        cases h2
        have hbk : as[k] = as[m] := by
          rw [List.getElem?_eq_getElem hk] at hb
          exact Option.some.inj hb
        have := (List.getElem_inj nd.2).mp hbk
        exact hj (by rw [this])
  refine ⟨⟨fun d o q => ?_, fun j => updL_ev.trans (xt.ev j), xt.lk, fun j d w q => ?_⟩, ?_⟩
  · rw [upd_ne (fun z => by rw [z, hE0] at q; cases q)]
    exact xt.e d o q
  · rcases updL_inv q with ⟨_, rfl, _⟩ | ⟨_, _, q⟩
    · exact hE0
    · exact xt.od j d w q
  · refine ⟨by rw [List.length_set]; exact r.len, fun d o q => ?_, fun d o q => ?_, fun d o q => ?_, ⟨fun q eq => ?_, tabs_updG r.row.tab hH (fun ps => hI.noTbl) (fun q => hI.noCode), r.row.fnt⟩, fun q eq => ⟨?_, (r.rE q eq).2⟩, fun j d w q => ?_, fun j sv ej => ?_, fun j m d y z e1 e2 oy oz e3 e4 => ?_⟩
    · by_cases hd : d = b
      · subst hd; rw [upd_same] at q ⊢; exact q
      · rw [upd_ne hd] at q ⊢; exact r.ex d o q
    · by_cases hd : d = b
      · subst hd; rw [upd_same] at q; cases q; exact hu.fx
      · rw [upd_ne hd] at q; exact r.ent d o q
    · rw [upd_ne (fun z => by rw [z, hF] at q; cases q)]
      exact r.fr d o q
    · obtain ⟨d, k1, k2, k3⟩ := r.row.at_ q eq
      exact ⟨d, by rw [upd_ne (fun zz => hR (by rw [← zz, eq]))]; exact k1, k2, k3⟩
    · rw [upd_ne (fun zz => hR (by rw [← zz, eq]))]
      exact (r.rE q eq).1
    · rcases updL_inv q with ⟨_, rfl, rfl⟩ | ⟨hj, hjn, q⟩
      · exact upd_same
      · rw [upd_ne (hother hj hjn q)]
        exact r.lk j d w q
    · by_cases hj : j = i
      · subst hj
        rw [List.getElem?_set_self hl] at ej
        cases ej
        refine ⟨_, ea, a, as, rfl, ⟨(updL_od (by omega) (by omega)).trans hM.out, by rw [hM.len]; exact List.length_set.symm, hM.ks, hM.nd, hM.fa, fun m d y h1 h2 => ?_⟩⟩
        have h2 : (c.xs.set k x')[m]? = some y := h2
        have hml : m < as.length := (List.getElem?_eq_some_iff.mp h1).1
        by_cases hm : m = k
        · subst hm
          rw [hb] at h1
          cases h1
          rw [List.getElem?_set_self (by rw [← hM.len]; exact hk)] at h2
          cases h2
          exact ⟨hF, u', updL_at, hu⟩
        · rw [List.getElem?_set_ne (Ne.symm hm)] at h2
          obtain ⟨h3, w, h4, h5⟩ := hM.inn m d y h1 h2
          exact ⟨h3, w, (updL_od (by omega) (by omega)).trans h4, h5⟩
      · rw [List.getElem?_set_ne (Ne.symm hj)] at ej
        obtain ⟨v, e1, q⟩ := r.sl j sv ej
        refine ⟨v, e1, ?_⟩
        cases sv with
        | d x => exact q
        | k ds =>
          obtain ⟨d, vs, z1, z2⟩ := q
          exact ⟨d, vs, updL_ev.trans z1, z2⟩
        | un => exact trivial
        | ex _ _ => exact q
        | fn _ => exact q
        | lm => exact q
        | m c2 => exact absurd ej (onlyM_of ho hj)
        | row => exact q
        | o ds =>
          obtain ⟨d, vs, z1, z2, z3, z4⟩ := q
          have hd : d ≠ b := fun z => by rw [z, hE] at z3; cases z3
          exact ⟨d, vs, z1, by rw [upd_ne hd]; exact z2, by rw [upd_ne hd]; exact z3, z4⟩
        | g ds =>
          obtain ⟨d, vs, z1, z2, z3, z4⟩ := q
          have hd : d ≠ b := fun z => by rw [z, hE] at z3; cases z3
          exact ⟨d, vs, z1, by rw [upd_ne hd]; exact z2, by rw [upd_ne hd]; exact z3, z4⟩
    · have hj : j ≠ i := by
        rintro rfl
        rw [List.getElem?_set_self hl] at e1
        cases e1
        cases oy
      have hm : m ≠ i := by
        rintro rfl
        rw [List.getElem?_set_self hl] at e2
        cases e2
        cases oz
      rw [List.getElem?_set_ne (Ne.symm hj)] at e1
      rw [List.getElem?_set_ne (Ne.symm hm)] at e2
      exact r.own j m d y z e1 e2 oy oz e3 e4
end
end DV

namespace DV
open PySem L2 PyProof.Rows LamX
section
variable {X : Cx} {K : PySem.W.Frag} {R : RA} {L L0 : Nat → Option (Addr × HO)} {E E0 F F' H H' : Hp} {ρ ρ' : Env} {σ σ' : L2.St} {rs rs' : RS}
variable {i : Nat} {te ti tv tj tk : TE} {h f g : Env → M RV}
def getGc (c : NC) (k : Nat) : Option DC := match c.xs[k]? with
  | some (.g d) => some d
  | _ => none
theorem getGc_some {c : NC} {k : Nat} {d : DC} (h : getGc c k = some d) : c.xs[k]? = some (.g d) := by
  unfold getGc at h
  cases e : c.xs[k]? with
  | none => rw [e] at h; cases h
  | some x =>
    rw [e] at h
    cases x with
    | l _ => cases h
    | f _ => cases h
    | g d => cases h; rfl
/-- name[e1]: which one -/
def atM (i : Nat) (h : Env → M RV) : Env → M (NC × Nat × DC) := fun ρ => if isDictM ρ i = true then bnd (lft (DV.mAt ρ i)) fun c => bnd (h ρ) fun y => bnd (lft (asInt y)) fun j => bnd (lft (mPos c j)) fun k => bnd (lft (getGc c k)) fun d => ret (c, k, d) else fail
theorem atM_some {z : NC × Nat × DC} (hf : atM i h ρ rs = some (z, rs')) : ∃ y j ks, ρ[i]? = some (some (SV.m z.1)) ∧ z.1.ks = some ks ∧ h ρ rs = some (y, rs') ∧ asInt y = some j ∧ mPos z.1 j = some z.2.1 ∧ z.1.xs[z.2.1]? = some (.g z.2.2) := by
  unfold atM at hf
  by_cases hd : isDictM ρ i = true
  · rw [if_pos hd] at hf
    obtain ⟨c, rs1, e1, g1⟩ := bnd_some hf
    obtain ⟨e1', q1⟩ := lft_some e1
    subst q1
    obtain ⟨y, rs2, e2, g2⟩ := bnd_some g1
    obtain ⟨j, rs3, e3, g3⟩ := bnd_some g2
    obtain ⟨e3', q3⟩ := lft_some e3
    subst q3
    obtain ⟨k, rs4, e4, g4⟩ := bnd_some g3
    obtain ⟨e4', q4⟩ := lft_some e4
    subst q4
    obtain ⟨d, rs5, e5, g5⟩ := bnd_some g4
    obtain ⟨e5', q5⟩ := lft_some e5
    subst q5
    obtain ⟨e6, q6⟩ := ret_some g5
    subst e6 q6
    have hc := mAt_some e1'
    obtain ⟨ks, hks⟩ := isDictM_of hd hc
    exact ⟨y, j, ks, hc, hks, e2, e3', e4', getGc_some e5'⟩
  · rw [if_neg hd] at hf
    cases hf
theorem same_as {a : Addr} {as as' : List Addr} {c : NC} {F2 : Hp} {ks : List Int} (hM : MR K L F a as c) (hM3 : MR K L F2 a as' c) (m2 : c.ks = some ks) : as' = as := by
  have h1 := hM.out
  rw [hM3.out] at h1
  have h2 : outO c.ks as' = outO c.ks as := by
    have h5 := Option.some.inj h1
    exact (Prod.mk.inj h5).2
  rw [m2] at h2
  have h3 : (ks.zip as').map (fun p => ((.inl p.1 : Key), V.ref p.2)) = (ks.zip as).map fun p => ((.inl p.1 : Key), V.ref p.2) := by
    unfold outO at h2
    exact HO.dK.inj h2
  have l1 := (hM3.ks ks m2).1
  have l2 := (hM.ks ks m2).1
  have h4 : ((ks.zip as').map (fun p => ((.inl p.1 : Key), V.ref p.2))).map (·.2) = ((ks.zip as).map fun p => ((.inl p.1 : Key), V.ref p.2)).map (·.2) := by rw [h3]
  rw [List.map_map, List.map_map] at h4
  have e1 : ∀ bs : List Addr, ks.length = bs.length → (ks.zip bs).map ((fun p : Key × V => p.2) ∘ fun p : Int × Addr => ((.inl p.1 : Key), V.ref p.2)) = bs.map V.ref := fun bs hl => by
    have : (ks.zip bs).map ((fun p : Key × V => p.2) ∘ fun p : Int × Addr => ((.inl p.1 : Key), V.ref p.2)) = ((ks.zip bs).map Prod.snd).map V.ref := by rw [List.map_map]; rfl
    rw [this, List.map_snd_zip (by omega)]
  rw [e1 _ l1, e1 _ l2] at h4
  exact (List.map_inj_right fun p q h => by cases h; rfl).mp h4
def sMPut (i : Nat) (f h g : Env → M RV) : Env → M Out := fun ρ => bnd (f ρ) fun x => bnd (lft (asKey x)) fun vd => bnd (atM i h ρ) fun z => bnd (g ρ) fun y => bnd (lft (asKey y)) fun kd =>
  if onlyM ρ i = true ∧ keyOk z.2.2.t kd = true ∧ z.2.2.kv.length ≤ 100000 then ret (.nx (ρ.set i (some (.m ⟨z.1.ks, z.1.xs.set z.2.1 (.g ⟨z.2.2.t, putD z.2.2.kv kd vd⟩)⟩)))) else fail
theorem ssem2_mput (he : ESem K R tv f) (hj : ESem K R tj h) (hk : ESem K R tk g) : SSem2 K R (sGPutT K (tDGet (tVar i) tj) tk tv) (sMPut i f h g) := fun L0 E0 L E F ρ σ rs H o rs' D xt r hf kk => by
  obtain ⟨x, rs1, e1, g1⟩ := bnd_some hf
  obtain ⟨vd, rs2, e2, g2⟩ := bnd_some g1
  obtain ⟨e2', q2⟩ := lft_some e2
  subst q2
  obtain ⟨z, rs3, e3, g3⟩ := bnd_some g2
  obtain ⟨y, rs4, e4, g4⟩ := bnd_some g3
  obtain ⟨kd, rs5, e5, g5⟩ := bnd_some g4
  obtain ⟨e5', q5⟩ := lft_some e5
  subst q5
  by_cases hc : onlyM ρ i = true ∧ keyOk z.2.2.t kd = true ∧ z.2.2.kv.length ≤ 100000
  · rw [if_pos hc] at g5
    obtain ⟨e9, q9⟩ := ret_some g5
    subst e9 q9
    obtain ⟨yj, j, ks, m1, m2, m3, m4, m5, m6⟩ := atM_some e3
    refine he L E ρ σ F H rs x _ _ r e1 fun w F1 H1 s1 hw => ?_
    have r1 := r.step s1
    refine mget_raw hj r1 m1 m2 m3 m4 m5 (List.getElem?_eq_some_iff.mp m6).1 fun a as b F2 H2 s2 ea hb hM => ?_
    have r2 := r1.step s2
    refine hk L E ρ σ F2 H2 _ y _ _ r2 e4 fun w3 F3 H3 s3 h3 => ?_
    have r3 := r2.step s3
    obtain ⟨a', as', ea', hM3⟩ := r3.mAt m1
    rw [ea] at ea'
    cases ea'
    have has := same_as hM hM3 m2
    subst has
    obtain ⟨b', u, b1, b2, b3, b4, b5, b6, b7⟩ := r3.inner hM3 m6
    rw [hb] at b1
    cases b1
    have hwd : Dp K F3 w vd := Dp.mono s3.sub _ _ (Dp.mono s2.sub _ _ (hw.key e2'))
    refine ⟨b, u, F3, z.2.2, kd, vd, rfl, b2, r3.fr, b7, h3.key e5', hc.2.1, hwd, hc.2.2, fun u' R' => ?_⟩
    obtain ⟨x4, r4⟩ := Rel.changeM (x' := .g ⟨z.2.2.t, putD z.2.2.kv kd vd⟩) xt r3 m1 hc.1 hM3 ea m6 hb R'
    exact kk _ _ σ F3 _ x4 ((FStep.ofStep r (((s1.trans r.row s2)).trans r.row s3)).less xt.less) r4
  · rw [if_neg hc] at g5
    cases g5
theorem ds2_mput {x : Str} {ej ei value : Expr} {p1 p2 pos' spos : Pos} (hu : X.A.units + 9 < cLine) (he : DE X R value tv f) (hj : DE X R ej tj h) (hk : DE X R ei tk g) (hN : X.N[i]? = some x := by rfl) (hv : Vis X.env.scope x := by first | exact Or.inl rfl | exact Or.inr (Or.inl rfl) | exact Or.inr (Or.inr rfl)) (hd : (x == ("__debug__" : Str)) = false := by decide)
    (hcd : (x == ("__classdict__" : Str)) = false := by decide) (hsl : NoSl ej := by exact fun _ _ => rfl) (hs : swapsWith value (some (.Subscript (.Subscript (.Name x p1) ej p2) ei pos')) spos.line X.env = pure false := by rfl) :
    DS2 X R (.Assign [.Subscript (.Subscript (.Name x p1) ej p2) ei pos'] value spos) (sGPutT X.K (tDGet (tVar i) tj) tk tv) (sMPut i f h g) :=
  ⟨ps_gput hu (pe_dget (by omega) (pe_var hN hv hd hcd) hj.pe hsl) hk.pe he.pe hs, ssem2_mput he.sem hj.sem hk.sem⟩
def mergeD (kv ms : List (D × D)) : List (D × D) := ms.foldl (fun acc p => putD acc p.1 p.2) kv
theorem merge_int : ∀ {ms : List (Int × V)} {md : List (D × D)} {ks : List (Int × V)} {kv : List (D × D)}, (ks.map (·.1)).Nodup → Paired (fun (p : Int × V) (q : D × D) => q.1 = .int p.1 ∧ Dp K F p.2 q.2) ks kv → Paired (fun (p : Int × V) (q : D × D) => q.1 = .int p.1 ∧ Dp K F p.2 q.2) ms md →
    ∃ ks2 : List (Int × V), mergeK (ks.map fun p => ((.inl p.1 : Key), p.2)) (ms.map fun p => ((.inl p.1 : Key), p.2)) = (ks2.map fun p => ((.inl p.1 : Key), p.2)) ∧ (ks2.map (·.1)).Nodup ∧ Paired (fun (p : Int × V) (q : D × D) => q.1 = .int p.1 ∧ Dp K F p.2 q.2) ks2 (mergeD kv md)
  | [], _, ks, kv, hn, hp, .nil => ⟨ks, rfl, hn, hp⟩
  | p :: ms, q :: md, ks, kv, hn, hp, .cons hq t => by
    obtain ⟨e1, e2⟩ := hq
    obtain ⟨ks2, k1, k2, k3⟩ := put_int (i := p.1) hn hp e2
    obtain ⟨ks3, g1, g2, g3⟩ := merge_int k2 k3 t
    refine ⟨ks3, ?_, g2, ?_⟩
    · show mergeK (putK (ks.map fun p => ((.inl p.1 : Key), p.2)) (.inl p.1) p.2) (ms.map fun p => ((.inl p.1 : Key), p.2)) = _
      rw [k1]
      exact g1
    · show Paired _ ks3 (mergeD (putD kv q.1 q.2) md)
      rw [e1]
      exact g3
def sMUpd (i : Nat) (h g : Env → M RV) : Env → M Out := fun ρ => bnd (atM i h ρ) fun z => bnd (atM i g ρ) fun y =>
  if (onlyM ρ i = true ∧ z.2.1 ≠ y.2.1) ∧ (z.2.2.t = false ∧ y.2.2.t = false) ∧ z.2.2.kv.length + y.2.2.kv.length ≤ 100000 then ret (.nx (ρ.set i (some (.m ⟨z.1.ks, z.1.xs.set z.2.1 (.g ⟨false, mergeD z.2.2.kv y.2.2.kv⟩)⟩)))) else fail
theorem ssem2_mupd (hj : ESem K R tj h) (hk : ESem K R tk g) : SSem2 K R (tDrop (tBM K "dict" rDUpd (tDGet (tVar i) tj) (tCons (tDGet (tVar i) tk) tNil))) (sMUpd i h g) := fun L0 E0 L E F ρ σ rs H o rs' D xt r hf kk => by
  obtain ⟨z, rs1, e1, g1⟩ := bnd_some hf
  obtain ⟨y, rs2, e2, g2⟩ := bnd_some g1
  by_cases hc : (onlyM ρ i = true ∧ z.2.1 ≠ y.2.1) ∧ (z.2.2.t = false ∧ y.2.2.t = false) ∧ z.2.2.kv.length + y.2.2.kv.length ≤ 100000
  · rw [if_pos hc] at g2
    obtain ⟨e9, q9⟩ := ret_some g2
    subst e9 q9
    obtain ⟨yj, j, ks, m1, m2, m3, m4, m5, m6⟩ := atM_some e1
    obtain ⟨yj2, j2, ks2, n1, n2, n3, n4, n5, n6⟩ := atM_some e2
    have ezy : y.1 = z.1 := by
      rw [m1] at n1
      exact (SV.m.inj (Option.some.inj (Option.some.inj n1))).symm
    rw [ezy] at n1 n2 n5 n6
    refine mget_raw hj r m1 m2 m3 m4 m5 (List.getElem?_eq_some_iff.mp m6).1 fun a as b F1 H1 s1 ea hb hM => ?_
    have r1 := r.step s1
    obtain ⟨b', u, b1, b2, b3, b4, b5, b6, b7⟩ := r1.inner hM m6
    rw [hb] at b1
    cases b1
    have b7' : DictR K F1 b u z.2.2 := b7
    unfold DictR at b7'
    rw [hc.2.1.1] at b7'
    obtain ⟨k1, rfl, k1n, k1p⟩ := b7'
    refine ⟨.inr (.inr (.inl ⟨rfl, .inl ⟨_, b2⟩⟩)), ?_⟩
    refine mget_raw hk r1 m1 m2 n3 n4 n5 (List.getElem?_eq_some_iff.mp n6).1 fun a2 as2 d F2 H2 s2 ea2 hd hM2 => ?_
    rw [ea] at ea2
    cases ea2
    have has := same_as hM hM2 m2
    subst has
    have r2 := r1.step s2
    obtain ⟨d', w, d1, d2, d3, d4, d5, d6, d7⟩ := r2.inner hM2 n6
    rw [hd] at d1
    cases d1
    have d7' : DictR K F2 d w y.2.2 := d7
    unfold DictR at d7'
    rw [hc.2.1.2] at d7'
    obtain ⟨k2, rfl, k2n, k2p⟩ := d7'
    obtain ⟨b'', u2, c1, c2, c3, c4, c5, c6, c7⟩ := r2.inner hM2 m6
    rw [hb] at c1
    cases c1
    have hH := s2.keep b _ b2 b5 (.inl fun _ z => nomatch z)
    have hbd : b ≠ d := fun e => by
      subst e
      have nd := (List.nodup_cons.mp hM2.nd).2
      obtain ⟨h1, h2⟩ := List.getElem?_eq_some_iff.mp hb
      obtain ⟨h3, h4⟩ := List.getElem?_eq_some_iff.mp hd
      exact hc.1.2 ((List.getElem_inj nd).mp (h2.trans h4.symm))
    have k1p2 : Paired (fun (p : Int × V) (q : DV.D × DV.D) => q.1 = .int p.1 ∧ Dp K F2 p.2 q.2) k1 z.2.2.kv := Paired.imp k1p fun x y z => ⟨z.1, Dp.mono s2.sub _ _ z.2⟩
    obtain ⟨k3, g1, g2, g3⟩ := merge_int k1n k1p2 k2p
    refine ⟨b, d, _, _, rfl, rfl, hbd, hH, d2, ?_, ?_⟩
    · rw [List.length_map, List.length_map, Paired.len k1p, Paired.len k2p]
      have hline : (100000 : Nat) < sizeLine := by rw [sizeLine_eq]; omega
      omega
    · rw [g1]
      obtain ⟨x4, r4⟩ := Rel.changeM (x' := .g ⟨false, mergeD z.2.2.kv y.2.2.kv⟩) xt r2 m1 hc.1.1 hM2 ea m6 hb (u' := .dK (k3.map fun p => ((.inl p.1 : Key), p.2))) ⟨k3, rfl, g2, g3⟩
      exact kk _ _ σ F2 _ x4 ((FStep.ofStep r (s1.trans r.row s2)).less xt.less) r4
  · rw [if_neg hc] at g2
    cases g2
theorem ds2_mupd {x : Str} {ej ei : Expr} {p1 p2 p3 p4 apos cpos spos : Pos} (hu : X.A.units + 9 < cLine) (hj : DE X R ej tj h) (hk : DE X R ei tk g) (hN : X.N[i]? = some x := by rfl) (hv : Vis X.env.scope x := by first | exact Or.inl rfl | exact Or.inr (Or.inl rfl) | exact Or.inr (Or.inr rfl)) (hd : (x == ("__debug__" : Str)) = false := by decide)
    (hcd : (x == ("__classdict__" : Str)) = false := by decide) (hsl : NoSl ej := by exact fun _ _ => rfl) (hsl2 : NoSl ei := by exact fun _ _ => rfl)
    (hs : swapsWith (.Call (.Attribute (.Subscript (.Name x p1) ej p2) "update" apos) [.Subscript (.Name x p3) ei p4] [] cpos) none spos.line X.env = pure false := by rfl)
    (hbase : attributeBase (.Subscript (.Name x p1) ej p2) "update" X.env (eval (.Subscript (.Name x p1) ej p2) X.env) = eval (.Subscript (.Name x p1) ej p2) X.env := by rfl)
    (hfew : ((backTo cpos (starEach [.Subscript (.Name x p3) ei p4] X.env)).all (fun x => !x.1) && (backToKw cpos (keywordEach [] X.env)).all (fun x => x.1.isSome)
      && decide (([.Subscript (.Name x p3) ei p4] : List Expr).length + ([] : List Keyword).length + (if ([] : List Keyword).isEmpty then 0 else 1) < 30)) = true := by rfl)
    (hline : (apos.endLine == cpos.line) = true := by rfl) (hst : starEach [.Subscript (.Name x p3) ei p4] X.env = (false, eval (.Subscript (.Name x p3) ei p4) X.env) :: starEach [] X.env := by rfl) (hplain : (backTo cpos (starEach [] X.env)).any (·.1) = false := by rfl) :
    DS2 X R (.Expr (.Call (.Attribute (.Subscript (.Name x p1) ej p2) "update" apos) [.Subscript (.Name x p3) ei p4] [] cpos) spos) (tDrop (tBM X.K "dict" rDUpd (tDGet (tVar i) tj) (tCons (tDGet (tVar i) tk) tNil))) (sMUpd i h g) :=
  ⟨ps_expr (pe_bm PySem.F.plainAttrs_dict PySem.F.slot_dict_update PySem.F.type_dict_update mt_dupd (pe_dget (by omega) (pe_var hN hv hd hcd) hj.pe hsl) (pa_cons (pe_dget (by omega) (pe_var hN hv hd hcd) hk.pe hsl2) pa_nil hst) hbase hfew hline hst hplain) hs, ssem2_mupd hj.sem hk.sem⟩
end
end DV

namespace DV
open PySem L2 PyProof.Rows LamX
section
variable {X : Cx} {K : PySem.W.Frag} {R : RA} {L L0 : Nat → Option (Addr × HO)} {E E0 F F' H H' : Hp} {ρ ρ' : Env} {σ σ' : L2.St} {rs rs' : RS}
variable {i : Nat} {te ti tv tj tk : TE} {h f g : Env → M RV}
/-- it stands in the heap -/
structure IsM (K : PySem.W.Frag) (F H : Hp) (a : Addr) (as : List Addr) (c : NC) : Prop where
  out : H a = some (outO c.ks as)
  len : as.length = c.xs.length
  ks : ∀ k, c.ks = some k → k.length = as.length ∧ k.Nodup
  nd : (a :: as).Nodup
  inn : ∀ (k : Nat) (b : Addr) (x : IC), as[k]? = some b → c.xs[k]? = some x → ∃ u, H b = some u ∧ InR K F b u x
/-- and is new since H0 -/
structure NewM (K : PySem.W.Frag) (R : RA) (F H0 H : Hp) (a : Addr) (as : List Addr) (c : NC) : Prop where
  is : IsM K F H a as c
  nw : ∀ b ∈ a :: as, H0 b = none ∧ F b = none ∧ some b ≠ R.row
theorem IsM.at_ {a : Addr} {as : List Addr} {c : NC} (h : IsM K F H a as c) {b : Addr} (hb : b ∈ a :: as) : ∃ u, H b = some u ∧ Fx K b u := by
  rcases List.mem_cons.mp hb with rfl | hb
  · exact ⟨_, h.out, outO_fx⟩
  · obtain ⟨k, hk, rfl⟩ := List.getElem_of_mem hb
    obtain ⟨u, h1, h2⟩ := h.inn k as[k] (c.xs[k]'(by rw [← h.len]; exact hk)) (List.getElem?_eq_getElem hk) (List.getElem?_eq_getElem _)
    exact ⟨u, h1, h2.fx⟩
theorem NewM.step {F2 H2 : Hp} {H0 : Hp} {a : Addr} {as : List Addr} {c : NC} (h : NewM K R F H0 H a as c) (s : Step K R rs' F H F2 H2) : NewM K R F2 H0 H2 a as c := by
  have kp : ∀ b ∈ a :: as, ∀ u, H b = some u → Fx K b u → H2 b = some u := fun b hb u e fx => s.keep b u e (h.nw b hb).2.2 fx
  refine ⟨⟨kp a List.mem_cons_self _ h.is.out outO_fx, h.is.len, h.is.ks, h.is.nd, fun k b x h1 h2 => ?_⟩, fun b hb => ?_⟩
  · obtain ⟨u, h3, h4⟩ := h.is.inn k b x h1 h2
    exact ⟨u, kp b (List.mem_cons_of_mem _ (List.mem_of_getElem? h1)) u h3 h4.fx, h4.mono s.sub⟩
  · obtain ⟨n1, n2, n3⟩ := h.nw b hb
    refine ⟨n1, ?_, n3⟩
    obtain ⟨u, hu, _⟩ := h.is.at_ hb
    cases q : F2 b with
    | none => rfl
    | some o =>
      rcases s.new b o q with z | z
      · rw [n2] at z; cases z
      · rw [hu] at z; cases z
theorem NewM.older {H0 H1 : Hp} {a : Addr} {as : List Addr} {c : NC} (h : NewM K R F H1 H a as c) (e : ∀ a, H1 a = none → H0 a = none) : NewM K R F H0 H a as c := ⟨h.is, fun b hb => ⟨e b (h.nw b hb).1, (h.nw b hb).2⟩⟩
def mkLM (L : Nat → Option (Addr × HO)) (H : Hp) (a : Addr) (as : List Addr) : Nat → Option (Addr × HO) := fun j => if j % 2 = 0 then L j else if j = 1 then (H a).map fun u => (a, u) else match as[(j - 3) / 2]? with
  | some b => (H b).map fun u => (b, u)
  | none => none
theorem mkLM_ev {a : Addr} {as : List Addr} {i : Nat} : mkLM L H a as (2 * i) = L (2 * i) := if_pos (by omega)
theorem mkLM_1 {a : Addr} {as : List Addr} {u : HO} (h : H a = some u) : mkLM L H a as 1 = some (a, u) := by
  unfold mkLM
  rw [if_neg (by decide), if_pos rfl, h]
  rfl
theorem mkLM_k {a b : Addr} {as : List Addr} {u : HO} {k : Nat} (hb : as[k]? = some b) (h : H b = some u) : mkLM L H a as (2 * k + 3) = some (b, u) := by
  unfold mkLM
  rw [if_neg (by omega), if_neg (by omega), show (2 * k + 3 - 3) / 2 = k by omega, hb]
  show (H b).map _ = _
  rw [h]
  rfl
theorem mkLM_inv {a d : Addr} {as : List Addr} {u : HO} {j : Nat} (h : mkLM L H a as j = some (d, u)) : (j % 2 = 0 ∧ L j = some (d, u)) ∨ (j % 2 = 1 ∧ d ∈ a :: as ∧ H d = some u) := by
  unfold mkLM at h
  by_cases h0 : j % 2 = 0
  · rw [if_pos h0] at h
    exact .inl ⟨h0, h⟩
  · rw [if_neg h0] at h
    refine .inr ⟨by omega, ?_⟩
    by_cases h1 : j = 1
    · rw [if_pos h1] at h
      cases e : H a with
      | none => rw [e] at h; cases h
      | some w => rw [e] at h; cases h; exact ⟨List.mem_cons_self, e⟩
    · rw [if_neg h1] at h
      cases e2 : as[(j - 3) / 2]? with
      | none => rw [e2] at h; cases h
      | some b =>
        rw [e2] at h
        have h : (H b).map (fun u => (b, u)) = some (d, u) := h
        cases e : H b with
        | none => rw [e] at h; cases h
        | some w => rw [e] at h; cases h; exact ⟨List.mem_cons_of_mem _ (List.mem_of_getElem? e2), e⟩
open Classical in
noncomputable def mkEM (E H : Hp) (S : List Addr) : Hp := fun b => if b ∈ S then H b else E b
theorem mkEM_in {S : List Addr} {b : Addr} (h : b ∈ S) : mkEM E H S b = H b := if_pos h
theorem mkEM_out {S : List Addr} {b : Addr} (h : b ∉ S) : mkEM E H S b = E b := if_neg h
/-- a name takes a new one over -/
theorem Rel.newM {H0 : Hp} (xt : Xt L0 E0 L E) (r : Rel K R L E F ρ σ rs H) (ho : onlyM ρ i = true) {a : Addr} {as : List Addr} {c : NC} (hN : NewM K R F H0 H a as c) (hE : ∀ b, H0 b = none → E b = none)
    (hown : ∀ b ∈ a :: as, ∀ (j : Nat) (y : SV), ρ[j]? = some (some y) → y.ow → σ[j]? = some (some (V.ref b)) → False) (hl : i < ρ.length) :
    Xt L0 E0 (mkLM L H a as) (mkEM E H (a :: as)) ∧ Rel K R (mkLM L H a as) (mkEM E H (a :: as)) F (ρ.set i (some (.m c))) (σ.set i (some (.ref a))) rs H := by
  have hEn : ∀ b ∈ a :: as, E b = none := fun b hb => hE b (hN.nw b hb).1
  have hls : i < σ.length := by rw [← r.len]; exact hl
  refine ⟨⟨fun d o q => ?_, fun j => mkLM_ev.trans (xt.ev j), xt.lk, fun j d w q => ?_⟩, ?_⟩
  · have h1 := xt.e d o q
    rw [mkEM_out (fun z => by rw [hEn d z] at h1; cases h1)]
    exact h1
  · rcases mkLM_inv q with ⟨z, _⟩ | ⟨_, hd, _⟩
    · omega
    · exact xt.less d (hEn d hd)
  · refine ⟨by rw [List.length_set, List.length_set]; exact r.len, fun d o q => ?_, fun d o q => ?_, r.fr, r.row, fun q eq => ⟨?_, (r.rE q eq).2⟩, fun j d w q => ?_, fun j sv ej => ?_, fun j m d y z e1 e2 oy oz e3 e4 => ?_⟩
    · by_cases hd : d ∈ a :: as
      · rw [mkEM_in hd] at q; exact q
      · rw [mkEM_out hd] at q; exact r.ex d o q
    · by_cases hd : d ∈ a :: as
      · rw [mkEM_in hd] at q
        obtain ⟨u, hu, fx⟩ := hN.is.at_ hd
        rw [hu] at q
        cases q
        exact fx
      · rw [mkEM_out hd] at q; exact r.ent d o q
    · rw [mkEM_out (fun z => (hN.nw q z).2.2 eq.symm)]
      exact (r.rE q eq).1
    · rcases mkLM_inv q with ⟨_, q⟩ | ⟨_, hd, q⟩
      · have h1 := r.lk j d w q
        rw [mkEM_out (fun z => by rw [hEn d z] at h1; cases h1)]
        exact h1
      · rw [mkEM_in hd]
        exact q
    · by_cases hj : j = i
      · subst hj
        rw [List.getElem?_set_self hl] at ej
        cases ej
        refine ⟨.ref a, List.getElem?_set_self hls, a, as, rfl, ⟨mkLM_1 hN.is.out, hN.is.len, hN.is.ks, hN.is.nd, (hN.nw a List.mem_cons_self).2.1, fun k b x h1 h2 => ?_⟩⟩
        obtain ⟨u, h3, h4⟩ := hN.is.inn k b x h1 h2
        exact ⟨(hN.nw b (List.mem_cons_of_mem _ (List.mem_of_getElem? h1))).2.1, u, mkLM_k h1 h3, h4⟩
      · rw [List.getElem?_set_ne (Ne.symm hj)] at ej
        obtain ⟨v, e1, q⟩ := r.sl j sv ej
        refine ⟨v, by rw [List.getElem?_set_ne (Ne.symm hj)]; exact e1, ?_⟩
        cases sv with
        | d x => exact q
        | k ds =>
          obtain ⟨d, vs, z1, z2⟩ := q
          exact ⟨d, vs, mkLM_ev.trans z1, z2⟩
        | un => exact trivial
        | ex _ _ => exact q
        | fn _ => exact q
        | lm => exact q
        | m c2 => exact absurd ej (onlyM_of ho hj)
        | row => exact q
        | o ds =>
          obtain ⟨d, vs, rfl, z2, z3, z4⟩ := q
          exact ⟨d, vs, rfl, z2, by rw [mkEM_out (fun z => hown d z j _ ej trivial e1)]; exact z3, z4⟩
        | g ds =>
          obtain ⟨d, vs, rfl, z2, z3, z4⟩ := q
          exact ⟨d, vs, rfl, z2, by rw [mkEM_out (fun z => hown d z j _ ej trivial e1)]; exact z3, z4⟩
    · have hj : j ≠ i := by
        rintro rfl
        rw [List.getElem?_set_self hl] at e1
        cases e1
        cases oy
      have hm : m ≠ i := by
        rintro rfl
        rw [List.getElem?_set_self hl] at e2
        cases e2
        cases oz
      rw [List.getElem?_set_ne (Ne.symm hj)] at e1 e3
      rw [List.getElem?_set_ne (Ne.symm hm)] at e2 e4
      exact r.own j m d y z e1 e2 oy oz e3 e4
structure RetM (K : PySem.W.Frag) (R : RA) (rs' : RS) (E F F' H' : Hp) (a : Addr) (as : List Addr) (c : NC) : Prop where
  fs : FStep R E F F'
  ex : ∀ a o, E a = some o → H' a = some o
  fr : ∀ a o, F' a = some o → H' a = some o
  row : RowOk K R rs' F' H'
  rF : ∀ r, R.row = some r → F' r = none
  val : NewM K R F' E H' a as c
def SSemM (K : PySem.W.Frag) (R : RA) (t : TS) (g : Env → M NC) : Prop :=
  ∀ (L0 : Nat → Option (Addr × HO)) (E0 : Hp) (L : Nat → Option (Addr × HO)) (E F : Hp) (ρ : Env) (σ : L2.St) (rs : RS) (H : Hp) (c : NC) (rs' : RS) (D : Ends), Xt L0 E0 L E → Rel K R L E F ρ σ rs H → g ρ rs = some (c, rs') →
    (∀ a as F' H', RetM K R rs' E0 F F' H' a as c → D.rt (.ref a) H') → t D σ H
structure DSsM (X : Cx) (R : RA) (st : List Stmt) (t : TS) (g : Env → M NC) : Prop where
  ps : PSs X st t
  sem : SSemM X.K R t g
def sRetM (i : Nat) : Env → M NC := fun ρ => lft (DV.mAt ρ i)
def sSeqM (g : Env → M Out) (gM : Env → M NC) : Env → M NC := fun ρ => bnd (g ρ) fun o => match o with | .nx ρ' => gM ρ' | _ => fail
theorem dssM_ret (i : Nat) {x : Str} {p pos : Pos} (hN : X.N[i]? = some x := by rfl) (hv : Vis X.env.scope x := by first | exact Or.inl rfl | exact Or.inr (Or.inl rfl) | exact Or.inr (Or.inr rfl)) (hd : (x == ("__debug__" : Str)) = false := by decide)
    (hcd : (x == ("__classdict__" : Str)) = false := by decide) : DSsM X R [.Return (some (.Name x p)) pos] (tRet (tVar i)) (sRetM i) :=
  ⟨pss_one (ps_ret (pe_var hN hv hd hcd)), fun L0 E0 L E F ρ σ rs H c rs' D xt r hf kk => by
    obtain ⟨e1, q1⟩ := lft_some hf
    subst q1
    obtain ⟨a, as, ea, hM⟩ := r.mAt (mAt_some e1)
    refine ⟨_, ea, kk a as F H ⟨FStep.refl, fun d o q => r.ex d o (xt.e d o q), r.fr, r.row, fun q e => (r.rE q e).2, ⟨⟨r.ex _ _ (r.lk _ _ _ hM.out), hM.len, hM.ks, hM.nd, fun k b x h1 h2 => ?_⟩, fun b hb => ?_⟩⟩⟩
    · obtain ⟨_, u, h3, h4⟩ := hM.inn k b x h1 h2
      exact ⟨u, r.ex _ _ (r.lk _ _ _ h3), h4⟩
    · have odd : ∃ j u, L (2 * j + 1) = some (b, u) ∧ F b = none := by
        rcases List.mem_cons.mp hb with rfl | hb
        · exact ⟨0, _, hM.out, hM.fa⟩
        · obtain ⟨k, hk, rfl⟩ := List.getElem_of_mem hb
          obtain ⟨h3, u, h4, _⟩ := hM.inn k as[k] (c.xs[k]'(by rw [← hM.len]; exact hk)) (List.getElem?_eq_getElem hk) (List.getElem?_eq_getElem _)
          exact ⟨k + 1, u, h4, h3⟩
      obtain ⟨j, u, h1, h2⟩ := odd
      refine ⟨xt.od j b u h1, h2, fun z => ?_⟩
      have h3 := (r.rE b z.symm).1
      rw [r.lk _ _ _ h1] at h3
      cases h3⟩
theorem dssM_cons {st : Stmt} {rest : List Stmt} {t u : TS} {g : Env → M Out} {gM : Env → M NC} (h1 : DS2 X R st t g) (h2 : DSsM X R rest u gM) :
    DSsM X R (st :: rest) (tSeq t u) (sSeqM g gM) := ⟨pss_cons h1.ps h2.ps, fun L0 E0 L E F ρ σ rs H c rs' D xt r hf kk => by
  obtain ⟨o1, rs1, e1, hf1⟩ := bnd_some hf
  refine h1.sem L0 E0 L E F ρ σ rs H o1 rs1 { D with nx := u D } xt r e1 ?_
  cases o1 with
  | nx ρ1 =>
    exact fun L1 E1 σ1 F1 H1 x1 s1 r1 => h2.sem L0 E0 L1 E1 F1 ρ1 σ1 rs1 H1 c rs' D x1 r1 hf1 fun a as F' H' q => kk a as F' H' ⟨s1.trans q.fs, q.ex, q.fr, q.row, q.rF, q.val⟩
  | rt _ => cases hf1
  | bk _ => cases hf1
  | ct _ => cases hf1⟩
/-- a def's promise: it hands a container of containers back -/
def spM (K : PySem.W.Frag) (np : Nat) (m : List RV → M NC) : Sp := fun vs H Q _ => ∃ (R : RA) (F : Hp) (rs : RS) (xs : List RV) (c : NC) (rs' : RS), Step K R rs F H F H ∧ VRs K R F H H vs xs ∧ xs.length = np ∧ m xs rs = some (c, rs') ∧
  ∀ a as F' H', Step K R rs' F H F' H' → NewM K R F' H H' a as c → Q (.ref a) H'
theorem noM_start {n : Nat} {xs : List RV} : noM (startE n xs) = true := by
  unfold noM startE
  rw [List.all_append, Bool.and_eq_true]
  constructor
  · rw [List.all_eq_true]
    intro s hs
    obtain ⟨x, _, rfl⟩ := List.mem_map.mp hs
    cases x <;> rfl
  · rw [List.all_eq_true]
    intro s hs
    rw [List.eq_of_mem_replicate hs]
def runDefM (n : Nat) (g : Env → M NC) (xs : List RV) : M NC := g (startE n xs)
theorem fn_okM {P : Program} {w : World} {mg : Str → Option Value} {base : Heap} {x qual : Str} {st : Stmt} {f : Addr} {fd : FuncData} {N ps : List Str} {k : Nat} {g : Env → M NC} (Fn : Fun K x qual st f fd) (S : FnScope N ps (defScope st))
    (hbody : ∀ (R : RA) (cdv : Value) (A : Around) (outer : List PySem.Env) (s : Shared) (H : Hp) (E : XK), fd.code = cdv → Room k (A.deeper (envOfC qual (defScope st) s.heap.objs.size f cdv)) →
      ∃ t, DSsM (cxOf CX0 P w K mg base N qual (defScope st) f cdv A outer s H E).nox R (defBody st) t g) : FnOk P w K mg base CX0 (k + 1) f fd ps (spM K ps.length (runDefM N.length g)) := by
  refine fun_code Fn S (fun vs H Q E h => ?_) (fun cdv A outer s H vs Q E hcd hr h => ?_)
  · obtain ⟨R, F, rs, xs, x, rs', _, h2, h3, _⟩ := h
    rw [h2.len, h3]
  · obtain ⟨R, F, rs, xs, c, rs', hs, hv, hl, hm, kk⟩ := h
    obtain ⟨t, hb⟩ := hbody R cdv A outer s H E hcd hr
    obtain ⟨L, r⟩ := Rel.start (N := N) hs hv
    have r := r.evens noM_start
    have s0 := hs
    refine ⟨t, hb.ps, ?_⟩
    have free : ∀ a, entE K R H a = none → some a ≠ R.row → ¬ tbAt K a → H a = none := fun a e q t => by rwa [entE_at q t] at e
    have x0 : Xt (evL L) (entE K R H) (evL L) (entE K R H) := ⟨fun _ _ h => h, fun _ => rfl, fun i a u e => r.lk _ a u e, fun i a u e => by
      unfold evL at e
      rw [if_neg (by omega)] at e
      cases e⟩
    refine hb.sem (evL L) _ (evL L) _ F _ _ rs H c rs' _ x0 r hm fun a as F1 H1 q => ?_
    refine kk a as F1 H1 ⟨fun a o e hR n => ?_, q.fs.sub, fun a o e => ?_, q.fr, q.row, q.rF⟩ ⟨q.val.is, fun b hb => ?_⟩
    · by_cases t : tbAt K a
      · obtain ⟨m, t⟩ := t
        obtain ⟨ps, et⟩ := tabs_at s0.row.tab t
        rw [e] at et
        cases et
        rcases n with n | n
        · exact absurd rfl (n ps)
        · exact absurd t (n m)
      · exact q.ex a o (by rw [entE_at hR t]; exact e)
    · rcases q.fs.new a o e with z | ⟨z1, z2⟩
      · exact .inl z
      · refine .inr (free a z1 z2 fun ⟨m, t⟩ => ?_)
        obtain ⟨ps, et⟩ := tabs_at q.row.tab t
        rw [q.fr a o e] at et
        cases et
        rcases q.row.fnt a _ e with n | n
        · exact absurd rfl (n ps)
        · exact absurd t (n m)
    · obtain ⟨n1, n2, n3⟩ := q.val.nw b hb
      refine ⟨free b n1 n3 fun ⟨m, t⟩ => ?_, n2, n3⟩
      obtain ⟨ps, et⟩ := tabs_at q.row.tab t
      obtain ⟨u, hu, fx⟩ := q.val.is.at_ hb
      rw [hu] at et
      cases et
      rcases fx with n | n
      · exact absurd rfl (n ps)
      · exact absurd t (n m)
def CalM (P : Program) (w : World) (K : PySem.W.Frag) (mg : Str → Option Value) (base : Heap) (x : Str) (k : Nat) (ps : List Str) (np : Nat) (m : List RV → M NC) : Prop :=
  ∃ (f : Addr) (fd : FuncData), FnOk P w K mg base CX0 k f fd ps (spM K np m) ∧ mg x = some (.ref f) ∧ PySem.W.keepIn K (.ref f) = true ∧ Binds K fd ps []
def sSetM (i : Nat) (np : Nat) (m : List RV → M NC) (fa : Env → M (List RV)) : Env → M Out := fun ρ => bnd (fa ρ) fun xs => bnd (if (xs.map readable).length = np then m (xs.map readable) else fail) fun c => if onlyM ρ i = true ∧ i < ρ.length then ret (.nx (ρ.set i (some (.m c)))) else fail
theorem ds2_setM {i : Nat} {y x : Str} {p pos pos' spos : Pos} {k np k' : Nat} {ps : List Str} {m : List RV → M NC} {e : Expr} {es : List Expr} {ta : TA} {fa : Env → M (List RV)} (C : CalM X.prog X.w X.K X.mg X.base x k ps np m) (hr : Room k' X.A) (hk' : k ≤ k') (hgl : Gl X x) (ha : DA X R (e :: es) ta fa)
    (hN : X.N.Nodup) (hi : X.N[i]? = some y) (hy : Loc X.env.scope y)
    (hdb : (x == ("__debug__" : Str)) = false := by decide) (he : starEach (e :: es) X.env = (false, eval e X.env) :: starEach es X.env := by rfl) (hpl : (backTo pos (starEach es X.env)).any (·.1) = false := by rfl)
    (hs : swapsWith (.Call (.Name x p) (e :: es) [] pos) (some (.Name y pos')) spos.line X.env = pure false := by rfl) (hf : X.fn y = true ∨ X.env.scope.names.lookup y = some .local := by first | exact .inl rfl | exact .inr rfl | assumption) :
    DS2 X R (.Assign [.Name y pos'] (.Call (.Name x p) (e :: es) [] pos) spos) (tAsg (tCall (spM X.K np m) [] L2.E0 ta) (gName i)) (sSetM i np m fa) := by
  obtain ⟨f, fd, Fn, hm, hkp, hb⟩ := C
  refine ⟨ps_set hN hi hy (pe_call Fn (hr.mono hk') hgl hm hkp hb .nil pass0 ha.pa hdb he hpl) hs hf, fun L0 E0 L E F ρ σ rs H o rs' D xt r hf kk => ?_⟩
  obtain ⟨xs, rs1, e1, hf1⟩ := bnd_some hf
  obtain ⟨c, rs2, e2, hf2⟩ := bnd_some hf1
  by_cases hc : onlyM ρ i = true ∧ i < ρ.length
  · rw [if_pos hc] at hf2
    obtain ⟨e9, q9⟩ := ret_some hf2
    subst e9 q9
    have hl : (xs.map readable).length = np := by
      by_cases hl : (xs.map readable).length = np
      · exact hl
      · rw [if_neg hl] at e2; cases e2
    rw [if_pos hl] at e2
    refine ha.sem L E ρ σ F H rs xs rs1 _ r e1 fun vs F1 H1 s1 h1 => ?_
    rw [List.append_nil]
    have r1 := r.step s1
    refine ⟨R, F1, rs1, _, c, _, r1.refl, h1.readable, hl, e2, fun a as F2 H2 s2 hN2 => ?_⟩
    have r2 := r1.step s2
    obtain ⟨x3, r3⟩ := Rel.newM xt r2 hc.1 hN2 (fun b hb => by
      cases q : E b with
      | none => rfl
      | some u => rw [r1.ex b u q] at hb; cases hb) (fun b hb j y ej oy es => by
      obtain ⟨u, hu, _⟩ := r1.own_at ej oy es
      rw [(hN2.nw b hb).1] at hu
      cases hu) hc.2
    exact kk _ _ _ F2 H2 x3 ((FStep.ofStep r (s1.trans r.row s2)).less xt.less) r3
  · rw [if_neg hc] at hf2
    cases hf2
end
end DV

namespace DV
open PySem PySem.Spec L2 PyProof.Rows LamX
section
variable {X : Cx} {K : PySem.W.Frag} {R : RA} {L L0 : Nat → Option (Addr × HO)} {E E0 F F' H H' : Hp} {ρ ρ' : Env} {σ σ' : L2.St} {rs rs' : RS}
variable {S : List Nat} {g : TG} {hg : D → Env → Option Env} {tk tv : TE} {wi : TI} {it tg kx : Expr} {pos : Pos}
def dnF (tg : D → Env → Option Env) (kf : Env → M RV) (ρ : Env) : List D → List Int → M (List Int)
  | [], ks => ret ks
  | x :: xs, ks => bnd (lft (tg x ρ)) fun ρ1 => bnd (kf ρ1) fun y => bnd (lft (asInt y)) fun j => if j ∈ ks then fail else dnF tg kf ρ xs (ks ++ [j])
def eNewD (fi : Env → M (List D × Option Nat)) (vs : List Nat) (tg : D → Env → Option Env) (kf : Env → M RV) : Env → M (List Int) := fun ρ => bnd (fi ρ) fun p => if p.1.length ≤ 50000 then dnF tg kf (wipeE ρ vs) p.1 [] else fail
def ncD (ks : List Int) : NC := ⟨some ks, ks.map fun _ => .g ⟨false, []⟩⟩
theorem zip_snoc {ks : List Int} {as : List Addr} (hl : ks.length = as.length) (j : Int) (p : Addr) : ((ks ++ [j]).zip (as ++ [p])).map (fun p => ((.inl p.1 : Key), V.ref p.2)) = (ks.zip as).map (fun p => ((.inl p.1 : Key), V.ref p.2)) ++ [(.inl j, V.ref p)] := by
  rw [List.zip_append hl, List.map_append]
  rfl
theorem zip_fresh : ∀ {ks : List Int} {as : List Addr} {j : Int}, j ∉ ks → ((ks.zip as).map (fun p => ((.inl p.1 : Key), V.ref p.2))).any (fun kv => decide (kv.1 = (.inl j : Key))) = false
  | [], _, _, _ => rfl
  | _ :: _, [], _, _ => rfl
  | k :: ks, a :: as, j, h => by
    rw [List.zip_cons_cons, List.map_cons, List.any_cons, zip_fresh fun z => h (List.mem_cons_of_mem _ z), Bool.or_false]
    exact decide_eq_false fun z => h (by cases z; exact List.mem_cons_self)
/-- the loop's state -/
structure NwD (K : PySem.W.Frag) (R : RA) (Da : Addr) (H1 F2 H2 : Hp) (ks : List Int) (as : List Addr) : Prop where
  out : H2 Da = some (.dK ((ks.zip as).map fun p => ((.inl p.1 : Key), V.ref p.2)))
  len : ks.length = as.length
  kn : ks.Nodup
  nd : (Da :: as).Nodup
  inn : ∀ b ∈ as, H2 b = some (.dK [])
  nw : ∀ b ∈ Da :: as, H1 b = none ∧ F2 b = none ∧ some b ≠ R.row
theorem NwD.step {Da : Addr} {H1 F2 H2 F3 H3 : Hp} {ks : List Int} {as : List Addr} (h : NwD K R Da H1 F2 H2 ks as) (s : Step K R rs' F2 H2 F3 H3) : NwD K R Da H1 F3 H3 ks as := by
  refine ⟨s.keep _ _ h.out (h.nw _ List.mem_cons_self).2.2 (.inl fun _ z => nomatch z), h.len, h.kn, h.nd, fun b hb => s.keep _ _ (h.inn b hb) (h.nw _ (List.mem_cons_of_mem _ hb)).2.2 (.inl fun _ z => nomatch z), fun b hb => ?_⟩
  obtain ⟨n1, n2, n3⟩ := h.nw b hb
  refine ⟨n1, ?_, n3⟩
  have hu : ∃ u, H2 b = some u := by
    rcases List.mem_cons.mp hb with rfl | hb
    · exact ⟨_, h.out⟩
    · exact ⟨_, h.inn b hb⟩
  obtain ⟨u, hu⟩ := hu
  cases q : F3 b with
  | none => rfl
  | some o =>
    rcases s.new b o q with z | z
    · rw [n2] at z; cases z
    · rw [hu] at z; cases z
theorem new_raw {fi : Env → M (List D × Option Nat)} {vs : List Nat} {kf : Env → M RV} (hi : ISem K R wi fi) (hgs : GSem K R S g hg) (hS : ∀ i ∈ S, i ∈ vs) (hk : ESem K R tk kf) (r : Rel K R L E F ρ σ rs H) {ks : List Int} (hf : eNewD fi vs hg kf ρ rs = some (ks, rs')) {Q : VK}
    (kk : ∀ a as F' H', Step K R rs' F H F' H' → NewM K R F' H H' a as (ncD ks) → Q (.ref a) H') : tDc wi g tYes tk tDNewK vs σ H Q := by
  obtain ⟨⟨its, lk⟩, rs1, e1, hf1⟩ := bnd_some hf
  have hf1 : (if its.length ≤ 50000 then dnF hg kf (wipeE ρ vs) its [] else fail) rs1 = some (ks, rs') := hf1
  by_cases hlen : its.length ≤ 50000
  · rw [if_pos hlen] at hf1
    refine hi L E ρ σ F H rs its lk rs1 _ r e1 fun J F1 H1 s1 ⟨G, Y, P, wk, pn, hG, hY⟩ => ?_
    intro Da hD
    have r1 := r.step s1
    have hDr : some Da ≠ R.row := fun q => by
      obtain ⟨a, e, _⟩ := r1.row.at_ Da q.symm
      rw [hD] at e; cases e
    have hDF1 : F1 Da = none := by
      cases q : F1 Da with
      | none => rfl
      | some o =>
        have := s1.fin Da o q
        rw [hD] at this; cases this
    refine dc_it wk (fun i H2 => ∃ F2 rs3 ks2 as, Step K R rs3 F1 H1 F2 H2 ∧ NwD K R Da H1 F2 H2 ks2 as ∧ ks2.length ≤ i ∧ dnF hg kf (wipeE ρ vs) (its.drop i) ks2 rs3 = some (ks, rs')) ?_ ?_ ?_ ?_
    · refine ⟨F1, rs1, [], [], (Step.new_g (t := false) r1.refl hD).1, ⟨upd_same, rfl, List.nodup_nil, by simp, (fun _ h => nomatch h), fun b hb => ?_⟩, Nat.le_refl _, hf1⟩
      cases List.mem_singleton.mp hb
      exact ⟨hD, hDF1, hDr⟩
    · rintro i H2 hi' ⟨F2, rs3, ks2, as, s2, _⟩
      exact hG H2 (fun a o q => s2.keep a o (pn a o q).1 (pn a o q).2.1 (pn a o q).2.2.1) fun a o q => s2.fin a o (s2.sub a o q)
    · rintro i v H2 H3 hi' ⟨F2, rs3, ks2, as, s2, hN, hlA, el1⟩ hy
      have s02 := s1.trans r.row s2
      have r2 := r.step s02
      obtain ⟨x, F3, ex, s3, hd⟩ := hY.step hi' s2.sub r2.refl hy
      have er : its.drop i = x :: its.drop (i + 1) := by
        have hx : its[i] = x := by
          rw [List.getElem?_eq_getElem hi'] at ex
          exact Option.some.inj ex
        rw [← hx]
        exact List.drop_eq_getElem_cons hi'
      rw [er] at el1
      obtain ⟨ρ3, rs4, e4, el2⟩ := bnd_some el1
      obtain ⟨e5, q5⟩ := lft_some e4
      subst q5
      obtain ⟨y, rs6, e7, el4⟩ := bnd_some el2
      obtain ⟨ki, rs7, e8, el5⟩ := bnd_some el4
      obtain ⟨e9, q9⟩ := lft_some e8
      subst q9
      have el5 : (if ki ∈ ks2 then fail else dnF hg kf (wipeE ρ vs) (its.drop (i + 1)) (ks2 ++ [ki])) rs7 = some (ks, rs') := el5
      by_cases hki : ki ∈ ks2
      · rw [if_pos hki] at el5; cases el5
      rw [if_neg hki] at el5
      have s13 := s2.trans r1.row s3
      have r3 := r2.step s3
      have N3 := hN.step s3
      refine hgs L E F3 (wipeE ρ vs) (L2.wipe σ vs) _ H3 v x ρ3 _ (r3.wipe vs) hd e5 fun σ4 r4 o4 => ⟨?_, ?_⟩
      · rw [wipe_off o4 hS]
        apply List.ext_getElem?
        intro j
        rw [wipe_at, wipe_at]
        by_cases hj : j ∈ vs
        · rw [if_pos hj, if_pos hj, wipe_length]
        · rw [if_neg hj, if_neg hj]
      · show tk σ4 H3 _
        refine hk L E ρ3 σ4 F3 H3 _ y _ _ r4 e7 fun w F6 H6 s6 h6 => ?_
        have hw := h6.int e9
        subst hw
        have N6 := N3.step s6
        have s16 := s13.trans r1.row s6
        intro p hp
        have r6 := r4.step s6
        have s67 : Step K R rs7 F6 H6 F6 (upd H6 p (.dK [])) := (Step.new_g (t := false) r6.refl hp).1
        have N7 := N6.step s67
        have hpF : F6 p = none := by
          cases q : F6 p with
          | none => rfl
          | some o => rw [r6.fr p o q] at hp; cases hp
        have hpR : some p ≠ R.row := fun q => by
          obtain ⟨a, e, _⟩ := r6.row.at_ p q.symm
          rw [hp] at e; cases e
        have hpD : p ≠ Da := fun z => by rw [z, N6.out] at hp; cases hp
        have hpa : p ∉ as := fun z => by rw [N6.inn p z] at hp; cases hp
        have hpH1 : H1 p = none := by
          cases q : H1 p with
          | none => rfl
          | some o => exact absurd (s16.back r1.row hp) (by rw [q]; exact fun z => nomatch z)
        have s17 := s16.trans r1.row s67
        refine ⟨_, .inl ki, rfl, N7.out, ?_, F6, rs7, ks2 ++ [ki], as ++ [p], ?_, ⟨?_, ?_, ?_, ?_, ?_, ?_⟩, ?_, el5⟩
        · rw [List.length_map, List.length_zip, N7.len, Nat.min_self]
          have := N7.len
          exact sz_lt (by omega)
        · have tb := dk_tbl (a := Da) (ks := (ks2.zip as).map fun p => ((.inl p.1 : Key), V.ref p.2))
          refine ⟨fun a o q z n => ?_, s17.sub, s17.new, fun a o q => ?_, ⟨fun q e => ?_, tabs_updG s17.row.tab N7.out tb.1 tb.2, s17.row.fnt⟩, s17.rF⟩
          · rw [upd_ne (fun zz => by rw [zz, hD] at q; cases q)]
            exact s17.keep a o q z n
          · rw [upd_ne (fun zz => by rw [zz, (N7.nw Da List.mem_cons_self).2.1] at q; cases q)]
            exact s17.fin a o q
          · obtain ⟨a, z1, z2⟩ := s17.row.at_ q e
            exact ⟨a, by rw [upd_ne (fun zz => hDr (by rw [← zz, e]))]; exact z1, z2⟩
        · rw [upd_same, zip_snoc N7.len]
          unfold putK
          rw [if_neg (by rw [zip_fresh hki]; exact Bool.false_ne_true)]
        · rw [List.length_append, List.length_append, N7.len]; rfl
        · rw [List.nodup_append]
          exact ⟨N7.kn, by simp, fun a ha b hb z => by rw [List.mem_singleton.mp hb] at z; exact hki (z ▸ ha)⟩
        · have nd := List.nodup_cons.mp N7.nd
          rw [List.nodup_cons, List.nodup_append]
          refine ⟨fun z => ?_, nd.2, by simp, fun a ha b hb z => by rw [List.mem_singleton.mp hb] at z; exact hpa (z ▸ ha)⟩
          rcases List.mem_append.mp z with z | z
          · exact nd.1 z
          · exact hpD (List.mem_singleton.mp z).symm
        · intro b hb
          rcases List.mem_append.mp hb with z | z
          · have nd := List.nodup_cons.mp N7.nd
            rw [upd_ne (fun y : b = Da => nd.1 (y ▸ z))]
            exact N7.inn b z
          · rw [List.mem_singleton.mp z, upd_ne hpD]
            exact upd_same
        · intro b hb
          rcases List.mem_cons.mp hb with z | z
          · rw [z]; exact N7.nw _ List.mem_cons_self
          · rcases List.mem_append.mp z with z | z
            · exact N7.nw b (List.mem_cons_of_mem _ z)
            · rw [List.mem_singleton.mp z]
              exact ⟨hpH1, hpF, hpR⟩
        · rw [List.length_append]
          show ks2.length + 1 ≤ i + 1
          omega
    · rintro H2 ⟨F2, rs3, ks2, as, s2, hN, _, el1⟩
      rw [List.drop_length] at el1
      obtain ⟨e7, q7⟩ := ret_some el1
      subst e7 q7
      have s02 := s1.trans r.row s2
      refine kk Da as F2 H2 s02 ⟨⟨hN.out, ?_, fun k hk => ?_, hN.nd, fun k b x h1 h2 => ?_⟩, fun b hb => ?_⟩
      · show as.length = (ks2.map _).length
        rw [List.length_map, hN.len]
      · cases hk
        exact ⟨hN.len, hN.kn⟩
      · have h2 : (ks2.map fun _ => IC.g ⟨false, []⟩)[k]? = some x := h2
        have hx : x = .g ⟨false, []⟩ := by
          rw [List.getElem?_map] at h2
          cases e : ks2[k]? with
          | none => rw [e] at h2; cases h2
          | some _ => rw [e] at h2; cases h2; rfl
        subst hx
        exact ⟨_, hN.inn b (List.mem_of_getElem? h1), [], rfl, List.nodup_nil, .nil⟩
      · obtain ⟨n1, n2, n3⟩ := hN.nw b hb
        exact ⟨s1.back r.row n1, n2, n3⟩
  · rw [if_neg hlen] at hf1
    cases hf1
def sNewD (i : Nat) (fi : Env → M (List D × Option Nat)) (vs : List Nat) (tg : D → Env → Option Env) (kf : Env → M RV) : Env → M Out := fun ρ => bnd (eNewD fi vs tg kf ρ) fun ks => if onlyM ρ i = true ∧ i < ρ.length then ret (.nx (ρ.set i (some (.m (ncD ks))))) else fail
/-- name = {k: v for ..} on one line, the name a local -/
theorem ps_setDc {i : Nat} {y : Str} {py : Pos} {kx vx tg iter : Expr} {ifs : List Expr} {scope : Scope} {own : List (Str × Nat)} {pos spos : Pos} {wi : TI} {g : TG} {tt : TT} {tk tv : TE} (hc : X.calm = true) (hN : X.N.Nodup) (hy : X.N[i]? = some y) (hyl : X.env.scope.names.lookup y = some .local)
    (hsw : swapsWith (.DictComp kx vx [⟨tg, iter, ifs, 0⟩] scope pos) (some (.Name y py)) spos.line X.env = pure true) (hi : PI X tg iter wi) (ok : BlkOk X.N X.env.scope scope own)
    (hg : ∀ (s : Shared) (H : Hp) (C : Addr) (cl : List (Str × Addr)) (fp : List Addr), PG (X.blk s H scope (compEnvC scope cl C X.env) fp) tg g) (ht : ∀ (s : Shared) (H : Hp) (C : Addr) (cl : List (Str × Addr)) (fp : List Addr), PTs (X.blk s H scope (compEnvC scope cl C X.env) fp) ifs tt)
    (hk : ∀ (s : Shared) (H : Hp) (C : Addr) (cl : List (Str × Addr)) (fp : List Addr), PE (X.blk s H scope (compEnvC scope cl C X.env) fp) kx tk)
    (he : ∀ (s : Shared) (H : Hp) (C : Addr) (cl : List (Str × Addr)) (fp : List Addr), PE (X.blk s H scope (compEnvC scope cl C X.env) fp) vx tv) (hs : ∀ x, foldedSetIterable iter X.env x = pure x := by intro _; rfl) :
    PS X (.Assign [.Name y py] (.DictComp kx vx [⟨tg, iter, ifs, 0⟩] scope pos) spos) (tAsg (tDc wi g tt tk tv (own.map (·.2))) (gName i)) := by
  refine ⟨fun pins s σ H D I h => ?_⟩
  rw [exec_Assign_Name_used _ _ _ _ hsw]
  refine wpAny_bind (wpAny_standAt (wpAny_bind ?_))
  show wpAny _ X.A (do let _ ← comprehension (.DictComp kx vx [⟨tg, iter, ifs, 0⟩] scope pos) scope X.env (firstIterPos [⟨tg, iter, ifs, 0⟩] pos) newDict false (eval iter X.env) (some (assign (.Name y py) X.env))) _ _ s
  have h : tDc wi g tt tk tv (own.map (·.2)) σ H (fun x H1 => gName i x σ H1 D.nx) := h
  refine wpAny_bind (thn (dc_core (Qf := fun _ s' => SP X pins D .next s') hc hN I hi ok hg ht hk he hs h fun L C s' m H' I' q hn f => ?_) fun _ s' hq => wpAny_pure (wpAny_pure hq))
  show wpAny _ _ (assign (.Name y py) X.env (.ref L)) _ _ _
  refine wpAny_assign_Name (store_ok2 (v := V.ref L) I' hN hy (.inl hyl) rfl (fun s2 I2 ⟨a, sb, ha⟩ => ?_) (.inr hyl))
  obtain ⟨f0, f1, f2, f3, f4, f5⟩ := f
  have haC : C ≠ a := by
    rcases ha with z | z
    · rw [z]; exact f1
    · exact fun e => f4 y a z e.symm
  refine ⟨m, hn.sameBut sb haC, fun h3 sb3 => ?_⟩
  exact ⟨_, H', I2.turned (t' := s2.toks) (fun b o hb e => (sb3.2 b hb).trans e) f0 f1 f3 f4 f5, q⟩
theorem sw_trueD {kx vx : Expr} {gs : List Comprehension} {scope : Scope} {pos py : Pos} {y : Str} {l : Nat} {env : PySem.Env} (hk : env.scope.kind = .function) (hy : env.scope.names.lookup y = some .local) (hl : (py.line == pos.line) = true)
    (ha : (scope.names.any fun (n, k) => n == y && (k == .local || k == .cell)) = false) : swapsWith (.DictComp kx vx gs scope pos) (some (.Name y py)) l env = pure true := by
  have ky : env.kindOf y = some .local := hy
  have hb : env.blockKind = .function := by unfold PySem.Env.blockKind; rw [hk]; rfl
  unfold swapsWith
  simp only [hb, ky, ha, Expr.pos, hl]
  rfl
theorem ds2_newDS {i : Nat} {y : Str} {scope : Scope} {own : List (Str × Nat)} {fi : Env → M (List D × Option Nat)} {kf : Env → M RV} {p2 pos' spos : Pos} (hc : X.calm = true) (hN : X.N.Nodup) (hi : DI X R tg it wi fi) (ok : BlkOk X.N X.env.scope scope own) (hS : ∀ i ∈ S, i ∈ own.map (·.2))
    (hg' : ∀ (s : Shared) (H : Hp) (C : Addr) (cl : List (Str × Addr)) (fp : List Addr), DG (X.blk s H scope (compEnvC scope cl C X.env) fp) R S tg g hg)
    (hk : ∀ (s : Shared) (H : Hp) (C : Addr) (cl : List (Str × Addr)) (fp : List Addr), DE (X.blk s H scope (compEnvC scope cl C X.env) fp) R kx tk kf)
    (hj : X.N[i]? = some y) (hy : X.env.scope.names.lookup y = some .local) (hs : ∀ x, foldedSetIterable it X.env x = pure x := by intro _; rfl)
    (hsw : swapsWith (.DictComp kx (.Dict [] [] p2) [⟨tg, it, [], 0⟩] scope pos) (some (.Name y pos')) spos.line X.env = pure true) :
    DS2 X R (.Assign [.Name y pos'] (.DictComp kx (.Dict [] [] p2) [⟨tg, it, [], 0⟩] scope pos) spos) (tAsg (tDc wi g tYes tk tDNewK (own.map (·.2))) (gName i)) (sNewD i fi (own.map (·.2)) hg kf) :=
  ⟨ps_setDc hc hN hj hy hsw hi.pi ok (fun s H C cl fp => (hg' s H C cl fp).pg) (fun s H C cl fp => pts_nil) (fun s H C cl fp => (hk s H C cl fp).pe) (fun s H C cl fp => pe_dnewK) hs, fun L0 E0 L E F ρ σ rs H o rs' D xt r hf kk => by
    obtain ⟨ks, rs1, e1, hf1⟩ := bnd_some hf
    by_cases hc : onlyM ρ i = true ∧ i < ρ.length
    · rw [if_pos hc] at hf1
      obtain ⟨e9, q9⟩ := ret_some hf1
      subst e9 q9
      refine new_raw hi.sem (hg' {} (fun _ => none) 0 [] []).sem hS (hk {} (fun _ => none) 0 [] []).sem r e1 fun a as F2 H2 s2 hN2 => ?_
      obtain ⟨x3, r3⟩ := Rel.newM xt (r.step s2) hc.1 hN2 (fun b hb => by
        cases q : E b with
        | none => rfl
        | some u => rw [r.ex b u q] at hb; cases hb) (fun b hb j y ej oy es => by
        obtain ⟨u, hu, _⟩ := r.own_at ej oy es
        rw [(hN2.nw b hb).1] at hu
        cases hu) hc.2
      exact kk _ _ _ F2 H2 x3 ((FStep.ofStep r s2).less xt.less) r3
    · rw [if_neg hc] at hf1
      cases hf1⟩
end
end DV

namespace DV
open PySem L2 PyProof.Rows LamX
section
variable {X : Cx} {K : PySem.W.Frag} {R : RA} {L L0 : Nat → Option (Addr × HO)} {E F F' H H' : Hp} {ρ ρ' : Env} {σ σ' : L2.St} {rs rs' : RS}
open Classical in
/-- L with the k-th locked; what else told of its place is dropped -/
noncomputable def lkL (L : Nat → Option (Addr × HO)) (n k : Nat) (b : Addr) (u : HO) : Nat → Option (Addr × HO) := fun j => if j = 2 * k + 3 then some (b, u) else if (j % 2 = 0 ∨ j < 2 * n + 3) ∧ ∀ w, L j ≠ some (b, w) then L j else none
theorem lkL_at {n k : Nat} {b : Addr} {u : HO} : lkL L n k b u (2 * k + 3) = some (b, u) := if_pos rfl
theorem lkL_ok {n k j : Nat} {b d : Addr} {u w : HO} (h : j ≠ 2 * k + 3) (h2 : j % 2 = 0 ∨ j < 2 * n + 3) (e : L j = some (d, w)) (hd : d ≠ b) : lkL L n k b u j = some (d, w) := by
  unfold lkL
  rw [if_neg h, if_pos ⟨h2, fun w2 z => by rw [e] at z; cases z; exact hd rfl⟩]
  exact e
theorem lkL_inv {n k j : Nat} {b d : Addr} {u w : HO} (h : lkL L n k b u j = some (d, w)) : (d = b ∧ w = u) ∨ (d ≠ b ∧ L j = some (d, w)) := by
  unfold lkL at h
  by_cases e : j = 2 * k + 3
  · rw [if_pos e] at h
    cases h
    exact .inl ⟨rfl, rfl⟩
  · rw [if_neg e] at h
    by_cases e2 : (j % 2 = 0 ∨ j < 2 * n + 3) ∧ ∀ w, L j ≠ some (b, w)
    · rw [if_pos e2] at h
      refine .inr ⟨fun z => ?_, h⟩
      subst z
      exact e2.2 w h
    · rw [if_neg e2] at h
      cases h
variable {i : Nat} {te ti tv tj tk : TE} {h f : Env → M RV}
theorem Rel.lockM (r : Rel K R L E F ρ σ rs H) {c : NC} (e : ρ[i]? = some (some (SV.m c))) (ho : onlyM ρ i = true) {a : Addr} {as : List Addr} (hM : MR K L F a as c) (ea : σ[i]? = some (some (V.ref a))) {k : Nat} {d : DC} (hx : c.xs[k]? = some (.g d))
    {b : Addr} (hb : as[k]? = some b) (od : Obj) : ∃ u, H b = some u ∧ E b = some u ∧ F b = none ∧ some b ≠ R.row ∧ DictR K F b u d ∧ Rel K R (lkL L as.length k b (.frz od u)) (upd E b (.frz od u)) F (ρ.set i (some (.m ⟨c.ks, c.xs.set k (.f d)⟩))) σ rs (upd H b (.frz od u)) := by
  obtain ⟨b2, u, h1, hH, hE, hF, hR, hL, hI⟩ := r.inner hM hx
  rw [hb] at h1
  cases h1
  have hD : DictR K F b u d := hI
  have hl : i < ρ.length := (List.getElem?_eq_some_iff.mp e).1
  have hk : k < as.length := (List.getElem?_eq_some_iff.mp hb).1
  have nd := List.nodup_cons.mp hM.nd
  have hab : a ≠ b := fun z => nd.1 (by rw [z]; exact List.mem_of_getElem? hb)
  have notL : ∀ vs, u ≠ .lst vs := fun vs z => by
    unfold DictR at hD
    cases q : d.t with
    | false => rw [q] at hD; obtain ⟨ks, h1, _⟩ := hD; rw [z] at h1; cases h1
    | true => rw [q] at hD; obtain ⟨xs, h1, _⟩ := hD; rw [z] at h1; unfold dcO at h1; cases h1
  refine ⟨u, hH, hE, hF, hR, hD, ⟨by rw [List.length_set]; exact r.len, fun d o q => ?_, fun d o q => ?_, fun d o q => ?_, ⟨fun q eq => ?_, tabs_updG r.row.tab hH (fun ps => hI.noTbl) (fun q => hI.noCode), r.row.fnt⟩, fun q eq => ⟨?_, (r.rE q eq).2⟩, fun j d w q => ?_, fun j sv ej => ?_, fun j m d y z e1 e2 oy oz e3 e4 => ?_⟩⟩
  · by_cases hd : d = b
    · subst hd; rw [upd_same] at q ⊢; exact q
    · rw [upd_ne hd] at q ⊢; exact r.ex d o q
  · by_cases hd : d = b
    · subst hd; rw [upd_same] at q; cases q; exact .inl fun _ z => nomatch z
    · rw [upd_ne hd] at q; exact r.ent d o q
  · rw [upd_ne (fun z => by rw [z, hF] at q; cases q)]
    exact r.fr d o q
  · obtain ⟨d, k1, k2, k3⟩ := r.row.at_ q eq
    exact ⟨d, by rw [upd_ne (fun zz => hR (by rw [← zz, eq]))]; exact k1, k2, k3⟩
  · rw [upd_ne (fun zz => hR (by rw [← zz, eq]))]
    exact (r.rE q eq).1
  · rcases lkL_inv q with ⟨rfl, rfl⟩ | ⟨hd, q⟩
    · exact upd_same
    · rw [upd_ne hd]
      exact r.lk j d w q
  · by_cases hj : j = i
    · subst hj
      rw [List.getElem?_set_self hl] at ej
      cases ej
      refine ⟨_, ea, a, as, rfl, ⟨lkL_ok (by omega) (.inr (by omega)) hM.out hab, by rw [hM.len]; exact List.length_set.symm, hM.ks, hM.nd, hM.fa, fun m d2 y h1 h2 => ?_⟩⟩
      have h2 : (c.xs.set k (.f d))[m]? = some y := h2
      have hml : m < as.length := (List.getElem?_eq_some_iff.mp h1).1
      by_cases hm : m = k
      · subst hm
        rw [hb] at h1
        cases h1
        rw [List.getElem?_set_self (by rw [← hM.len]; exact hk)] at h2
        cases h2
        exact ⟨hF, _, lkL_at, od, u, rfl, hD⟩
      · rw [List.getElem?_set_ne (Ne.symm hm)] at h2
        obtain ⟨h3, w, h4, h5⟩ := hM.inn m d2 y h1 h2
        refine ⟨h3, w, lkL_ok (by omega) (.inr (by omega)) h4 fun z => ?_, h5⟩
        subst z
        obtain ⟨p1, p2⟩ := List.getElem?_eq_some_iff.mp hb
        obtain ⟨p3, p4⟩ := List.getElem?_eq_some_iff.mp h1
        exact hm ((List.getElem_inj nd.2).mp (p4.trans p2.symm))
    · rw [List.getElem?_set_ne (Ne.symm hj)] at ej
      obtain ⟨v, e1, q⟩ := r.sl j sv ej
      refine ⟨v, e1, ?_⟩
      cases sv with
      | d x => exact q
      | k ds =>
        obtain ⟨d2, vs, z1, z2⟩ := q
        refine ⟨d2, vs, lkL_ok (by omega) (.inl (by omega)) z1 fun z => ?_, z2⟩
        have := r.lk _ _ _ z1
        rw [z, hE] at this
        exact notL vs (Option.some.inj this)
      | un => exact trivial
      | ex _ _ => exact q
      | fn _ => exact q
      | lm => exact q
      | m c2 => exact absurd ej (onlyM_of ho hj)
      | row => exact q
      | o ds =>
        obtain ⟨d2, vs, z1, z2, z3, z4⟩ := q
        have hd : d2 ≠ b := fun z => by rw [z, hE] at z3; cases z3
        exact ⟨d2, vs, z1, by rw [upd_ne hd]; exact z2, by rw [upd_ne hd]; exact z3, z4⟩
      | g ds =>
        obtain ⟨d2, vs, z1, z2, z3, z4⟩ := q
        have hd : d2 ≠ b := fun z => by rw [z, hE] at z3; cases z3
        exact ⟨d2, vs, z1, by rw [upd_ne hd]; exact z2, by rw [upd_ne hd]; exact z3, z4⟩
  · have hj : j ≠ i := by
      rintro rfl
      rw [List.getElem?_set_self hl] at e1
      cases e1
      cases oy
    have hm : m ≠ i := by
      rintro rfl
      rw [List.getElem?_set_self hl] at e2
      cases e2
      cases oz
    rw [List.getElem?_set_ne (Ne.symm hj)] at e1
    rw [List.getElem?_set_ne (Ne.symm hm)] at e2
    exact r.own j m d y z e1 e2 oy oz e3 e4
variable {S : List Nat} {tg it elt : Expr} {ifs : List Expr} {g : TG} {hg : D → Env → Option Env} {pos : Pos} {tt : TT}
/-- [.. for .. in d[x]] -/
def eLcM (i n : Nat) (vs : List Nat) (tg : D → Env → Option Env) (tst : Env → M Bool) (el : Env → M RV) : Env → M RV := fun ρ => bnd (atM i (eVar n) ρ) fun z =>
  if onlyM ρ i = true ∧ n ≠ i ∧ z.2.2.kv.length ≤ 100000 then eLc (fun _ => ret (z.2.2.kv.map (wkD .keys), none)) vs tg tst el (ρ.set i (some (.m ⟨z.1.ks, z.1.xs.set z.2.1 (.f z.2.2)⟩))) else fail
theorem esem_lcM {n : Nat} {vs : List Nat} {tst : Env → M Bool} {el : Env → M RV} (hgs : GSem K R S g hg) (hS : ∀ i ∈ S, i ∈ vs) (ht : TSem K R tt tst) (he : ESem K R te el) : ESem K R (tLockE (tLc (iG .keys (tDGet (tVar i) (tVar n))) g tt te vs)) (eLcM i n vs hg tst el) := fun L E ρ σ F H rs x rs' Q r hf kk => by
  obtain ⟨z, rs1, e1, hf1⟩ := bnd_some hf
  by_cases hc : onlyM ρ i = true ∧ n ≠ i ∧ z.2.2.kv.length ≤ 100000
  · rw [if_pos hc] at hf1
    obtain ⟨y, j, ks, m1, m2, m3, m4, m5, m6⟩ := atM_some e1
    have m3' : vget ρ n = some y ∧ rs1 = rs := by
      obtain ⟨h1, h2⟩ := lft_some (show lft (vget ρ n) rs = some (y, rs1) from m3)
      exact ⟨h1, h2⟩
    obtain ⟨m3', rfl⟩ := m3'
    obtain ⟨a, as, ea, hM⟩ := r.mAt m1
    have hk : z.2.1 < as.length := by rw [hM.len]; exact (List.getElem?_eq_some_iff.mp m6).1
    have hb : as[z.2.1]? = some as[z.2.1] := List.getElem?_eq_getElem hk
    obtain ⟨u, hH, hE, hF, hR, hD, _⟩ := Rel.lockM r m1 hc.1 hM ea m6 hb default
    refine ⟨as[z.2.1], u, hH, hD.mut, fun od => ?_⟩
    obtain ⟨u2, hH2, _, _, _, _, r1⟩ := Rel.lockM r m1 hc.1 hM ea m6 hb od
    rw [hH] at hH2
    cases hH2
    obtain ⟨ds, rfl⟩ := eLc_new hf1
    refine esem_lc_at r1 (fun its lk rs2 Rq ef k1 => ?_) hgs hS ht he hf1 fun v F' H' s h => ?_
    · obtain ⟨q1, q2⟩ := ret_some ef
      cases q1
      subst q2
      obtain ⟨ps, hps, hpr⟩ := hD.ps
      obtain ⟨v2, ev2, hv2⟩ := r.get m3'
      have hv2 := hv2.int m4
      subst hv2
      have hl := (hM.ks ks m2).1
      have e4' : ks.findIdx? (fun k => decide (k = j)) = some z.2.1 := by
        unfold mPos at m5
        rw [m2] at m5
        exact m5
      have hv := zip_get hl e4' hb
      have hout : (upd H as[z.2.1] (.frz od u)) a = some (outO z.1.ks as) := by
        rw [upd_ne (fun q => (List.nodup_cons.mp hM.nd).1 (by rw [q]; exact List.getElem_mem hk))]
        exact r.ex _ _ (r.lk _ _ _ hM.out)
      rw [m2] at hout
      refine ⟨_, ea, _, ev2, a, .ref as[z.2.1], rfl, ?_, as[z.2.1], od, u, ps, rfl, upd_same, hps, k1 _ F _ r1.refl ⟨fun H => H as[z.2.1] = some (.frz od u), wkY .keys ps, fun b => if b = as[z.2.1] then some (.frz od u) else none, ?_, fun b o q => ?_, fun H2 q _ => q _ _ (if_pos rfl), wk_ok hpr⟩⟩
      · rw [← hv]
        exact DGet.k (k := .inl j) hout
      · rw [List.length_map, ← Paired.len hpr]
        exact walk_G
      · by_cases hb2 : b = as[z.2.1]
        · have q' : (if b = as[z.2.1] then some (HO.frz od u) else none) = some o := q
          rw [if_pos hb2] at q'
          cases q'
          rw [hb2]
          exact ⟨upd_same, hR, .inl fun _ z => (nomatch z), .inr (.inl upd_same)⟩
        · have q' : (if b = as[z.2.1] then some (HO.frz od u) else none) = some o := q
          rw [if_neg hb2] at q'
          cases q'
    · obtain ⟨h1, h2, s'⟩ := s.unlockG hH hF hR
      exact ⟨h1, kk v F' _ s' h.unlockN⟩
  · rw [if_neg hc] at hf1
    cases hf1
theorem de_lcM {n : Nat} {x y : Str} {p1 p2 p3 : Pos} {scope : Scope} {own : List (Str × Nat)} {tst : Env → M Bool} {el : Env → M RV} (hu : X.A.units + 9 < cLine) (hc : X.calm = true) (hN : X.N.Nodup) (ok : BlkOk X.N X.env.scope scope own) (hS : ∀ i ∈ S, i ∈ own.map (·.2))
    (hg' : ∀ (s : Shared) (H : Hp) (C : Addr) (cl : List (Str × Addr)) (fp : List Addr), DG (X.blk s H scope (compEnvC scope cl C X.env) fp) R S tg g hg) (ht : ∀ (s : Shared) (H : Hp) (C : Addr) (cl : List (Str × Addr)) (fp : List Addr), DTs (X.blk s H scope (compEnvC scope cl C X.env) fp) R ifs tt tst)
    (he : ∀ (s : Shared) (H : Hp) (C : Addr) (cl : List (Str × Addr)) (fp : List Addr), DE (X.blk s H scope (compEnvC scope cl C X.env) fp) R elt te el)
    (hi : X.N[i]? = some x := by rfl) (hv : Vis X.env.scope x := by first | exact Or.inl rfl | exact Or.inr (Or.inl rfl) | exact Or.inr (Or.inr rfl)) (hd : (x == ("__debug__" : Str)) = false := by decide)
    (hcd : (x == ("__classdict__" : Str)) = false := by decide)
    (hj : X.N[n]? = some y := by rfl) (hv2 : Vis X.env.scope y := by first | exact Or.inl rfl | exact Or.inr (Or.inl rfl) | exact Or.inr (Or.inr rfl)) (hd2 : (y == ("__debug__" : Str)) = false := by decide)
    (hcd2 : (y == ("__classdict__" : Str)) = false := by decide) (hsl : NoSl (.Name y p2) := by exact fun _ _ => rfl) (hs : ∀ x2, foldedSetIterable (.Subscript (.Name x p1) (.Name y p2) p3) X.env x2 = pure x2 := by intro _; rfl) :
    DE X R (.ListComp elt [⟨tg, .Subscript (.Name x p1) (.Name y p2) p3, ifs, 0⟩] scope pos) (tLockE (tLc (iG .keys (tDGet (tVar i) (tVar n))) g tt te (own.map (·.2)))) (eLcM i n (own.map (·.2)) hg tst el) :=
  ⟨pe_lock (pe_lc hc hN (pi_keysG (pe_dget (by omega) (pe_var hi hv hd hcd) (pe_var hj hv2 hd2 hcd2) hsl)) ok (fun s H C cl fp => (hg' s H C cl fp).pg) (fun s H C cl fp => (ht s H C cl fp).pt) (fun s H C cl fp => (he s H C cl fp).pe) hs),
    esem_lcM (hg' {} (fun _ => none) 0 [] []).sem hS (ht {} (fun _ => none) 0 [] []).sem (he {} (fun _ => none) 0 [] []).sem⟩
end
end DV

namespace L2
open PySem PySem.Spec PyProof.Rows
section
variable {P : Program} {w : World} {A : Around} {E : Value → Shared → Prop} {s : Shared}
set_option maxHeartbeats 3200000 in
theorem call_set_tupP {l : Addr} {items : Array Value} (ks : List (Addr × List Int)) {Q : Value → Shared → Prop} (hh : A.handled = none) (hl : s.heap.IsTuple l items) (hit : items.toList = ks.map fun p => Value.ref p.1)
    (hk : ∀ p ∈ ks, IsT P w s.heap p.2 p.1) (hfew : ks.length < 64) (hu : A.units + 3 < cLine)
    (h : ∀ (h' : Heap) (tk : Nat) L es ep t, SetTR P w h' s.heap.objs.size L es ep t → Got ks ks.length L → (∀ b o, s.heap.get? b = some o → h'.get? b = some o) → Q (.ref s.heap.objs.size) { s with heap := h', toks := tk }) :
    wpAny (model P w) A (call (.type "set") [.ref l]) Q E s := by
  have hisz : items.size = ks.length := by
    have q := congrArg List.length hit
    rw [Array.length_toList, List.length_map] at q
    exact q
  obtain ⟨c, tl, hmro⟩ := F.called_set.mro
  have hmade := F.called_set.made
  have hsub := F.called_set.sub
  refine wpAny_call (codeAny_of_tree ?_)
  show wpAny _ _ (callAny (.type "set") _) _ _ _
  refine wpAny_pure ⟨Code.quiet_builtin _ (by decide +kernel), codeAny_builtin F.entry_type_call ?_⟩
  rw [Around.under_plain (weight_type_call_type "set" [.ref l] []) rfl]
  have h1 := F.called_set.notType
  have h2 := F.called_set.canCreate
  have hct := F.typeCall_set_1 (.ref l)
  repeat (any_goals (first | assumption | wp_step))

  refine codeAny_mono (code_set_led1 (.ref l) (E := E) (Q₁ := fun obj s₁ => obj = .ref s.heap.objs.size ∧ s₁ = { s with heap := s.heap.push { cls := .type "set", dict := none, data := .set #[] 0 (.fresh 0 0 (!w.params.followText "set-order")) } }) ⟨rfl, rfl⟩) fun r s₁ hr => ?_
  cases r with
  | error e => exact hr
  | ok fl =>
    cases fl with
    | ret obj =>
      obtain ⟨rfl, rfl⟩ := hr
      have hS : (s.heap.push { cls := .type "set", dict := none, data := .set #[] 0 (.fresh 0 0 (!w.params.followText "set-order")) }).get? s.heap.objs.size = some { cls := .type "set", dict := none, data := .set #[] 0 (.fresh 0 0 (!w.params.followText "set-order")) } := Heap.get?_push_size _ rfl
      have hT : Shared.TypeIs { s with heap := s.heap.push { cls := .type "set", dict := none, data := .set #[] 0 (.fresh 0 0 (!w.params.followText "set-order")) } } (.ref s.heap.objs.size) "set" := ⟨_, hS, rfl⟩
      have hli := F.called_set.init.lookup
      have hbi := F.called_set.init.bind (.ref s.heap.objs.size)
      repeat (any_goals (first | assumption | wp_step))

      refine codeAny_mono (codeAny_call_builtin (R := wants (fun r s₂ => r = .none ∧ ∃ h' tk L es ep t, s₂ = { s with heap := h', toks := tk } ∧ SetTR P w h' s.heap.objs.size L es ep t ∧ Got ks ks.length L ∧
          (∀ b o, s.heap.get? b = some o → h'.get? b = some o)) E) F.called_set.init.plain F.entry_set_init (check_set_init_1 hT ?_)) fun r₂ s₂ hr₂ => ?_
      · obtain ⟨ol, hol, hcl, nl, hdl⟩ := hl
        obtain ⟨ocls, odict, odata, oslots⟩ := ol
        simp only at hcl hdl
        subst hcl; subst hdl
        have hol' : (s.heap.push { cls := .type "set", dict := none, data := .set #[] 0 (.fresh 0 0 (!w.params.followText "set-order")) }).get? l = some { cls := .type "tuple", dict := odict, data := .seq items nl, slots := oslots } := Heap.get?_push_of_some _ hol
        have hsls := F.sub_tuple_set
        have hslf := F.sub_tuple_frozenset
        have hne : (Value.type "tuple" == Value.type "dict") = false := by decide
        have hl1 : (s.heap.push { cls := .type "set", dict := none, data := .set #[] 0 (.fresh 0 0 (!w.params.followText "set-order")) }).IsTuple l items := ⟨_, hol', rfl, nl, rfl⟩
        unfold Builtin.«set.__init__» noKeywords Builtin.Frozenset.updateFrom
        generalize hPI : pyIter = PI
        wp_walk
        subst hPI

        refine wpAny_pyIter_tuple hl1 ?_
        refine wpAny_bind (wpAny_runValue ?_)
        have hlS : l < s.heap.objs.size := Heap.lt_size hol
        have hh3 : A.in1.in1.in1.handled = none := by simp [hh]
        have hz1 : (s.heap.push { cls := .type "set", dict := none, data := .set #[] 0 (.fresh 0 0 (!w.params.followText "set-order")) }).objs.size = s.heap.objs.size + 1 := Heap.size_push ..
        have hneI : l ≠ (s.heap.push { cls := .type "set", dict := none, data := .set #[] 0 (.fresh 0 0 (!w.params.followText "set-order")) }).objs.size := by
          rw [Heap.size_push]; exact Nat.ne_of_lt (Nat.lt_succ_of_lt hlS)
        have hSf : s.heap.objs.size ∉ [(s.heap.push { cls := .type "set", dict := none, data := .set #[] 0 (.fresh 0 0 (!w.params.followText "set-order")) }).objs.size, l] := by
          rw [Heap.size_push]; simp only [List.mem_cons, List.mem_singleton, List.not_mem_nil, or_false, not_or]
          exact ⟨Nat.ne_of_lt (Nat.lt_succ_self _), Nat.ne_of_gt hlS⟩
        have hval : ∀ (i : Nat) (v : Value), items[i]? = some v → ∃ p, ks[i]? = some p ∧ v = .ref p.1 := fun i v hv => by
          have q : items.toList[i]? = some v := by rw [Array.getElem?_toList]; exact hv
          rw [hit, List.getElem?_map] at q
          cases hq : ks[i]? with
          | none => rw [hq] at q; cases q
          | some p =>
            rw [hq] at q
            exact ⟨p, rfl, (Option.some.inj q).symm⟩
        have none_of : ∀ b, s.heap.objs.size ≤ b → s.heap.get? b = none := fun b hb => by
          cases q : s.heap.get? b with
          | none => rfl
          | some o => exact absurd (Nat.lt_of_lt_of_le (Heap.lt_size q) hb) (Nat.lt_irrefl _)
        refine set_update_tups ((Walks.tuple hh3 _ l hneI items).toS) s.heap.objs.size
          hSf ks hisz hfew hval s.heap hk (none_of _ (Nat.le_refl _)) (fun b hb => none_of b (by
            rw [List.mem_singleton.mp hb, Heap.size_push]
            exact Nat.le_succ _)) hu (items.size - 0) 0 _ (by omega) (Nat.zero_le _)
          ⟨⟨_, Heap.get?_push_size _ rfl, rfl, rfl⟩, (hl1.push _)⟩ (fun b o e => Heap.get?_push_of_some _ (Heap.get?_push_of_some _ e)) ?hS0 ?hR
        case hS0 =>
          have hget : ((s.heap.push { cls := .type "set", dict := none, data := .set #[] 0 (.fresh 0 0 (!w.params.followText "set-order")) }).push { cls := .type "tuple_iterator", data := .fields #[.ref l, .int 0 0] }).get? s.heap.objs.size
              = some { cls := .type "set", dict := none, data := .set #[] 0 (.fresh 0 0 (!w.params.followText "set-order")) } := Heap.get?_push_of_some _ hS
          exact ⟨[], #[], 0, _, setTR_fresh hget, Got.zero ks⟩
        case hR =>
          intro s' L es ep t hm hS' g' hkp
          obtain ⟨h', g2, d', tk', os'⟩ := s'
          have eg : g2 = s.gens := hm.gens
          have ed : d' = s.drawn := hm.drawn
          have eo : os' = s.os := hm.os
          subst eg; subst ed; subst eo
          show wpAny _ _ _ _ _ _
          refine wpAny_pure ?_
          show wpAny _ _ (ret Value.none) _ _ _
          rw [hisz] at g'
          exact wpAny_pure ⟨rfl, h', tk', L, es, ep, t, rfl, hS', g', hkp⟩

      · cases r₂ with
        | error e => exact hr₂
        | ok fl₂ =>
          cases fl₂ with
          | ret r =>
            obtain ⟨rfl, h', tk, L, es, ep, t, rfl, hS', g', hk'⟩ := hr₂
            repeat (any_goals (first | assumption | wp_step))
            exact h _ _ _ _ _ _ hS' g' hk'
          | _ => exact hr₂.elim
    | _ => exact hr.elim

end
end L2
namespace DV
open PySem L2 PyProof.Rows
section
variable {X : Cx} {K : PySem.W.Frag} {R : RA}
def cdP (p : Int × Int) : Int := p.1 * 64 + p.2
def dcP (c : Int) : D := .tuple [.int (c / 64), .int (c % 64)]
def pr64 (p : Int × Int) : Bool := decide (0 ≤ p.1 ∧ p.1 < 64 ∧ 0 ≤ p.2 ∧ p.2 < 64)
def tSortSetP (K : PySem.W.Frag) (ta : TE) : TE := fun σ H Q => ta σ H fun x H1 => ∃ (l : Addr) (ks : List (Addr × List Int)), x = .ref l ∧ SqT K H1 l (ks.map fun p => V.ref p.1) ∧ (∀ p ∈ ks, SqT K H1 p.1 (p.2.map V.int)) ∧ ks.length < 64 ∧ (∀ p ∈ ks, p.2.length = 2 ∧ TS.Bd 64 p.2) ∧
  ∀ (L : List (Addr × List Int)) (p : Addr), (∀ q ∈ L, q ∈ ks) → (∀ q ∈ ks, q.2 ∈ L.map (·.2)) → (L.map (·.2)).Nodup → L.Pairwise (fun q r => TS.code 64 q.2 ≤ TS.code 64 r.2) → H1 p = none → Q (.ref p) (upd H1 p (.lst (L.map fun q => V.ref q.1)))
theorem pe_sortSetP {a : Expr} {ta : TE} {p p2 q pos : Pos} (hu : X.A.units + 64 < cLine) (hc : X.calm = true) (hg : Gl X "sorted") (hm : X.mg "sorted" = none) (hg2 : Gl X "set") (hm2 : X.mg "set" = none) (ha : PE X a ta)
    (na : starEach [a] X.env = (false, eval a X.env) :: starEach [] X.env := by rfl) : PE X (.Call (.Name "sorted" p) [.Call (.Name "set" p2) [a] [] q] [] pos) (tSortSetP X.K ta) := by
  refine ⟨fun pins s σ H Q I h => ?_⟩
  refine Call_ (ld_blt I hg hm boot_sorted ?_)
  refine PyProof.Rows.callWith_builtin1 (PyProof.Rows.args_cons ?_ rfl) rfl rfl
  refine Call_ (ld_blt I hg2 hm2 PyProof.Rows.boot_set ?_)
  refine PyProof.Rows.callWith_type1 (PyProof.Rows.args_cons (thn (ha.run pins s σ H _ I h) fun v s1 ⟨x, H1, I1, r1, q1⟩ => PyProof.Rows.args_nil ?_) na) na rfl
  obtain ⟨l, ks, rfl, hq, hk, hf, hB, q1⟩ := q1
  cases r1
  obtain ⟨its, rv, pt, hz⟩ := I1.tuple hq
  refine call_set_tupP (P := X.prog) (w := X.w) ks (I1.ok.hd hc) (show s1.heap.IsTuple l its.toArray from pt) (by simpa using refs_of_vals rv) (fun p hp => I1.isT (hk p hp)) hf (by omega) fun h' tk L es ep t R g hk2 => ?_
  refine PyProof.Rows.args_nil ?_
  have I2 : Inv X pins σ H1 { s1 with heap := h', toks := tk } := I1.kept hk2
  obtain ⟨s2, hs2⟩ : ∃ s2 : Shared, s2 = { s1 with heap := h', toks := tk } := ⟨_, rfl⟩
  have R2 : SetTR X.prog X.w s2.heap s1.heap.objs.size L es ep t := by rw [hs2]; exact R
  rw [← hs2] at I2 ⊢
  have sub : ∀ p ∈ L, p ∈ ks := fun p hp => List.mem_of_mem_take (g.sub p hp)
  refine sorted_setT R2 (I2.ok.hd hc) (d := 2) (B := 64) (by decide) (fun p hp => hB p (sub p hp)) fun s' p out c L' k g2 o hp hg3 hout pm pw => ?_
  have hlen : (L'.map fun q => V.ref q.1).length ≤ sizeLine := by
    have := R2.few
    rw [List.length_map, pm.length_eq, sizeLine_eq]
    omega
  have hn : H1 p = none := I2.hok.fresh hp
  have hv : Vals (L'.map fun q => V.ref q.1) out.toList := by rw [hout]; exact vals_of_refs L'
  have J : Inv X pins σ (upd H1 p (.lst (L'.map fun q => V.ref q.1))) { s2 with heap := s'.heap, gens := s'.gens, drawn := s'.drawn, toks := s'.toks } :=
    I2.call (ch := []) (Un.laid k hp hn) (I2.hok.laid k hp ⟨hlen, out.toList, c, hv, hg3⟩) (by rw [g2]; exact I2.bare) (fun _ z => nomatch z)
  have e2 : s' = { s2 with heap := s'.heap, gens := s'.gens, drawn := s'.drawn, toks := s'.toks } := by
    cases s'
    cases s2
    cases o
    rfl
  rw [e2]
  exact ⟨.ref p, _, J, rfl, q1 L' p (fun q hq => sub q (pm.mem_iff.mp hq)) (fun q hq => by
    have := g.all q (by rw [List.take_length]; exact hq)
    exact (pm.map (·.2)).mem_iff.mpr this) ((pm.map (·.2)).nodup_iff.mpr R2.nd) pw hn⟩
def prOf : D → Option (Int × Int)
  | .tuple [.int a, .int b] => some (a, b)
  | _ => none
def prsOf : List D → Option (List (Int × Int))
  | [] => some []
  | d :: ds => match prOf d, prsOf ds with
    | some p, some ps => some (p :: ps)
    | _, _ => none
theorem prOf_some {d : D} {p : Int × Int} (h : prOf d = some p) : d = .tuple [.int p.1, .int p.2] := by
  unfold prOf at h
  split at h
  · cases h; rfl
  · cases h
theorem prsV {F : Hp} : ∀ {vs : List V} {ds : List D} {ps : List (Int × Int)}, DpAll K F vs ds → prsOf ds = some ps →
    ∃ ks : List (Addr × List Int), vs = ks.map (fun p => V.ref p.1) ∧ ks.map (·.2) = ps.map (fun p => [p.1, p.2]) ∧ ∀ p ∈ ks, SqT K F p.1 (p.2.map V.int)
  | _, _, _, .nil, h => by cases h; exact ⟨[], rfl, rfl, fun _ z => nomatch z⟩
  | _, _, _, @DpAll.cons _ _ v d vs ds h t, e => by
    unfold prsOf at e
    split at e
    · rename_i p ps e1 e2
      cases e
      have := prOf_some e1
      subst this
      cases h with
      | @tup a ws _ g1 g2 =>
        have hw := g2.intsV (js := [p.1, p.2]) rfl
        subst hw
        obtain ⟨ks, k1, k2, k3⟩ := prsV t e2
        refine ⟨(a, [p.1, p.2]) :: ks, by rw [List.map_cons, k1], by rw [List.map_cons, List.map_cons, k2], fun q hq => ?_⟩
        rcases List.mem_cons.mp hq with z | z
        · rw [z]; exact g1
        · exact k3 q z
    · cases e
def sortSetPOf : RV → Option (List Int)
  | .d (.tuple ds) => match prsOf ds with
    | some ps => if ps.length < 64 ∧ ps.all pr64 = true then some (sortI (ddI (ps.map cdP))) else none
    | none => none
  | _ => none
def eSortSetP (f : Env → M RV) : Env → M RV := fun ρ => bnd (f ρ) fun x => bnd (lft (sortSetPOf x)) fun js => ret (.n (js.map dcP))
theorem code2 {p : Int × Int} : TS.code 64 [p.1, p.2] = cdP p := by rw [code_pair]; rfl
theorem de_sortSetP {a : Expr} {ta : TE} {f : Env → M RV} {p p2 q pos : Pos} (hu : X.A.units + 65 < cLine) (hc : X.calm = true) (hg : Gl X "sorted") (hm : X.mg "sorted" = none) (hg2 : Gl X "set") (hm2 : X.mg "set" = none) (ha : DE X R a ta f)
    (na : starEach [a] X.env = (false, eval a X.env) :: starEach [] X.env := by rfl) : DE X R (.Call (.Name "sorted" p) [.Call (.Name "set" p2) [a] [] q] [] pos) (tSortSetP X.K ta) (eSortSetP f) := ⟨pe_sortSetP (by omega) hc hg hm hg2 hm2 ha.pe na, fun L E ρ σ F H rs x rs' Q r hf k => by
  obtain ⟨x1, rs1, e1, hf1⟩ := bnd_some hf
  obtain ⟨d, rs2, e2, hf2⟩ := bnd_some hf1
  obtain ⟨e3, q3⟩ := lft_some e2
  obtain ⟨e4, q4⟩ := ret_some hf2
  subst e4 q4 q3
  refine ha.sem L E ρ σ F H rs x1 _ _ r e1 fun v F1 H1 s1 h1 => ?_
  have rf := (r.step s1).refl
  unfold sortSetPOf at e3
  split at e3
  · rename_i ds
    split at e3
    · rename_i ps e6
      by_cases hb : ps.length < 64 ∧ ps.all pr64 = true
      · rw [if_pos hb] at e3
        cases e3
        obtain ⟨a, ws, rfl, g1, g2⟩ := VR.isTup rf h1
        obtain ⟨ks, rfl, k2, k3⟩ := prsV g2 e6
        have hl : ks.length = ps.length := by
          have := congrArg List.length k2
          rwa [List.length_map, List.length_map] at this
        have of_ks : ∀ q ∈ ks, ∃ p ∈ ps, q.2 = [p.1, p.2] ∧ (0 ≤ p.1 ∧ p.1 < 64 ∧ 0 ≤ p.2 ∧ p.2 < 64) := fun q hq => by
          have h1 : q.2 ∈ ks.map (·.2) := List.mem_map.mpr ⟨q, hq, rfl⟩
          rw [k2] at h1
          obtain ⟨p, hp, e⟩ := List.mem_map.mp h1
          exact ⟨p, hp, e.symm, of_decide_eq_true (List.all_eq_true.mp hb.2 p hp)⟩
        refine ⟨a, ks, rfl, g1, fun p hp => ex_t (rf.fin _) (k3 p hp), by omega, fun q hq => ?_, fun L p ls la ln lw hp => ?_⟩
        · obtain ⟨p, _, e, b1, b2, b3, b4⟩ := of_ks q hq
          rw [e]
          refine ⟨rfl, fun m hm => ?_⟩
          rcases List.mem_cons.mp hm with z | z
          · rw [z]; exact ⟨b1, b2⟩
          · rw [List.mem_singleton.mp z]; exact ⟨b3, b4⟩
        · obtain ⟨s4, hF, hR⟩ := Step.new_lst (vs := L.map fun q => V.ref q.1) rf hp
          refine k _ F1 _ (s1.trans r.row s4) ⟨p, _, rfl, upd_same, s1.back r.row hp, hF, hR, ?_⟩
          -- the data
          have dat : ∀ M : List (Addr × List Int), (∀ q ∈ M, q ∈ ks) → DpAll X.K F1 (M.map fun q => V.ref q.1) (M.map fun q => .tuple (q.2.map PyData.int)) := fun M => by
            induction M with
            | nil => exact fun _ => .nil
            | cons q M ih =>
              intro hM
              exact .cons (.tup (k3 q (hM q List.mem_cons_self)) (DpAll.ofInts _)) (ih fun z hz => hM z (List.mem_cons_of_mem _ hz))
          have eq1 : (L.map fun q => TS.code 64 q.2) = sortI (ddI (ps.map cdP)) := by
            refine sorted_uniq ((List.perm_ext_iff_of_nodup ?_ ((sortI_perm _).nodup_iff.mpr (ddI_nodup _))).mpr fun c => ?_) (List.pairwise_map.mpr lw) (sortI_sorted _)
            · have e0 : (L.map fun q => TS.code 64 q.2) = (L.map (·.2)).map (TS.code 64) := by rw [List.map_map]; rfl
              rw [e0]
              have inj : ∀ (M : List (List Int)), (∀ x ∈ M, ∃ q ∈ L, q.2 = x) → M.Nodup → (M.map (TS.code 64)).Nodup := fun M => by
                induction M with
                | nil => exact fun _ _ => .nil
                | cons x M ih =>
                  intro hM nd
                  obtain ⟨n1, n2⟩ := List.nodup_cons.mp nd
                  refine List.nodup_cons.mpr ⟨fun hx => ?_, ih (fun z hz => hM z (List.mem_cons_of_mem _ hz)) n2⟩
                  obtain ⟨y, hy, ey⟩ := List.mem_map.mp hx
                  obtain ⟨q1, hq1, r1⟩ := hM x List.mem_cons_self
                  obtain ⟨q2, hq2, r2⟩ := hM y (List.mem_cons_of_mem _ hy)
                  obtain ⟨p1, _, z1, a1, a2, a3, a4⟩ := of_ks q1 (ls q1 hq1)
                  obtain ⟨p2, _, z2, b1, b2, b3, b4⟩ := of_ks q2 (ls q2 hq2)
                  rw [← r1, ← r2, z1, z2, code_pair, code_pair] at ey
                  refine n1 ?_
                  have e1 : p1.1 = p2.1 := by omega
                  have e2 : p1.2 = p2.2 := by omega
                  rw [← r1, z1, e1, e2, ← z2, r2]
                  exact hy
              exact inj _ (fun x hx => by obtain ⟨q, hq, e⟩ := List.mem_map.mp hx; exact ⟨q, hq, e⟩) ln
            · rw [(sortI_perm _).mem_iff, mem_ddI, List.mem_map, List.mem_map]
              constructor
              · rintro ⟨q, hq, rfl⟩
                obtain ⟨p, hp, e, _⟩ := of_ks q (ls q hq)
                exact ⟨p, hp, by rw [e]; exact code2.symm⟩
              · rintro ⟨p, hp, rfl⟩
                have h1 : [p.1, p.2] ∈ ks.map (·.2) := by rw [k2]; exact List.mem_map.mpr ⟨p, hp, rfl⟩
                obtain ⟨q, hq, e⟩ := List.mem_map.mp h1
                obtain ⟨q2, hq2, e2⟩ := List.mem_map.mp (la q hq)
                have e2 : q2.2 = q.2 := e2
                have e : q.2 = [p.1, p.2] := e
                exact ⟨q2, hq2, by rw [e2, e]; exact code2⟩
          have eq2 : (sortI (ddI (ps.map cdP))).map dcP = L.map fun q => .tuple (q.2.map PyData.int) := by
            rw [← eq1, List.map_map]
            refine List.map_congr_left fun q hq => ?_
            obtain ⟨p, hp, e, b1, b2, b3, b4⟩ := of_ks q (ls q hq)
            show dcP (TS.code 64 q.2) = _
            rw [e, code_pair]
            show PyData.tuple [.int ((p.1 * 64 + p.2) / 64), .int ((p.1 * 64 + p.2) % 64)] = .tuple [.int p.1, .int p.2]
            rw [show (p.1 * 64 + p.2) / 64 = p.1 by omega, show (p.1 * 64 + p.2) % 64 = p.2 by omega]
          rw [eq2]
          exact dat L ls
      · rw [if_neg hb] at e3
        cases e3
    · cases e3
  · cases e3⟩
end
end DV













namespace DV
open PySem L2 PyProof.Rows
section
variable {X : Cx} {K : PySem.W.Frag} {R : RA} {L : Nat → Option (Addr × HO)} {E F F' H H' : Hp} {ρ ρ' : Env} {σ σ' : L2.St} {rs rs' : RS}
variable {S S' : List Nat} {tg it elt e e2 c : Expr} {es ifs : List Expr} {g : TG} {hg : D → Env → Option Env} {pos p : Pos} {te t1 t2 : TE} {tt : TT} {ta : TA} {wi : TI}
/-- what stands already, and what is pinned -/
theorem Rel.pinE (r : Rel K R L E F ρ σ rs H) {F2 H2 : Hp} {rs1 : RS} (s : Step K R rs1 F H F2 H2) {P : Hp} (pn : PinOk K R E F2 H H2 ρ σ none P) : Rel K R L (addH E P) F2 ρ σ rs1 H2 := by
  have r2 := r.step s
  have npin : ∀ {b o}, H b = some o → E b = none → P b = none := fun {b o} e1 e2 => by
    cases q : P b with
    | none => rfl
    | some u =>
      rcases (pn b u q).2.2.2 with ⟨z, _⟩ | z | ⟨_, _, z, _⟩
      · rw [e1] at z; cases z
      · rw [e2] at z; cases z
      · cases z
  have addn : ∀ {b o}, H b = some o → E b = none → addH E P b = none := fun {b o} e1 e2 => by
    unfold addH
    rw [e2]
    exact npin e1 e2
  refine ⟨r2.len, fun a o e => ?_, fun a o e => ?_, r2.fr, r2.row, fun q e => ⟨?_, (r2.rE q e).2⟩, fun i a vs e => ?_, fun i sv e => ?_, r2.own⟩
  · unfold addH at e
    cases q : E a with
    | some u => rw [q] at e; cases e; exact r2.ex a o q
    | none => rw [q] at e; exact (pn a o e).1
  · unfold addH at e
    cases q : E a with
    | some u => rw [q] at e; cases e; exact r2.ent a o q
    | none => rw [q] at e; exact (pn a o e).2.2.1
  · unfold addH
    rw [(r.rE q e).1]
    cases z : P q with
    | none => rfl
    | some u => exact absurd e.symm (pn q u z).2.1
  · unfold addH
    rw [r2.lk i a vs e]
  · obtain ⟨v, e1, q⟩ := r2.sl i sv e
    obtain ⟨v0, e0, q0⟩ := r.sl i sv e
    rw [e1] at e0
    cases e0
    refine ⟨v, e1, ?_⟩
    cases sv with
    | o ds =>
      obtain ⟨a, vs, ea, h1, h2, h3, h4, h5⟩ := q
      obtain ⟨a0, vs0, ea0, g1, g2, _⟩ := q0
      rw [ea] at ea0
      cases ea0
      exact ⟨a, vs, ea, h1, addn g1 g2, h3, h4, h5⟩
    | g c =>
      obtain ⟨a, u, ea, h1, h2, h3, h4, h5⟩ := q
      obtain ⟨a0, u0, ea0, g1, g2, _⟩ := q0
      rw [ea] at ea0
      cases ea0
      exact ⟨a, u, ea, h1, addn g1 g2, h3, h4, h5⟩
    | d _ => exact q
    | k _ => exact q
    | un => exact q
    | row => exact q
    | ex _ _ => exact q
    | fn _ => exact q
    | lm => exact q
    | m _ => exact q
end
end DV

namespace Lk46
open PySem L2 DV
def top (i : Nat) : Stmt := PySem.Challenge.pw_shoporders_k46_whole_needed_pairs.main.body.getD i (.Pass ⟨0, 0, 0, 0⟩)
abbrev s__law_taken : Stmt := top 20
abbrev s__law_order : Stmt := top 22
abbrev s__law_pick : Stmt := top 21
abbrev s__law_pairs : Stmt := top 23
abbrev s_able_jobs : Stmt := top 13
abbrev s_first_order : Stmt := top 12
abbrev s_closure : Stmt := top 14
abbrev s_is_integer : Stmt := top 1
abbrev s_is_in : Stmt := top 2
abbrev s_is_list : Stmt := top 3
abbrev s_need_pairs : Stmt := top 11
abbrev s_followers : Stmt := top 18
abbrev s_needed : Stmt := top 16
abbrev s_law : Stmt := top 24
structure Txt (mg : Str → Option Value) : Prop where
  b_all : mg "all" = none
  b_any : mg "any" = none
  b_bool : mg "bool" = none
  b_enumerate : mg "enumerate" = none
  b_int : mg "int" = none
  b_isinstance : mg "isinstance" = none
  b_len : mg "len" = none
  b_list : mg "list" = none
  b_range : mg "range" = none
  b_reversed : mg "reversed" = none
  b_set : mg "set" = none
  b_sorted : mg "sorted" = none
  b_tuple : mg "tuple" = none
  c_MOST_PAIRS : ∃ tk, mg "MOST_PAIRS" = some (.int 40 tk)
section
variable {P : Program} {w : World} {K : PySem.W.Frag} {mg : Str → Option Value} {base : Heap}
abbrev nm__law_taken : List Str := ["_law_row", "_law_many", "_law_found", "_law_cell"]
theorem sc__law_taken : FnScope nm__law_taken ["_law_row", "_law_many"] (defScope s__law_taken) := ⟨rfl, rfl, rfl, by decide +kernel, rfl, by decide +kernel, by decide +kernel⟩
abbrev g__law_taken : DV.Env → M Out := DVL.g__law_taken
abbrev m__law_taken : List RV → M RV := DVL.m__law_taken
theorem ok__law_taken {f : Addr} {fd : FuncData} (F : Fun K "_law_taken" "_law_taken" s__law_taken f fd) (T : Txt mg)  : FnOk P w K mg base CX0 1 f fd ["_law_row", "_law_many"] (spFn K 2 m__law_taken) := by
  have sc := sc__law_taken
  have e : spFn K 2 m__law_taken = spFn K (["_law_row", "_law_many"] : List Str).length (runDef nm__law_taken.length g__law_taken) := rfl
  rw [e]
  refine fn_ok (P := P) (w := w) (mg := mg) (base := base) (k := 0) (g := g__law_taken) F sc ?_
  intro R cdv A outer s H E hcd hr
  exact ⟨_, (dss_cons (ds_if (dt_cmp (r := (rI0 fun i j => .bl (decide (j < i)))) op_gt rs_gt (de_row 0 3 (de_var 0)) de_int (nomark _)) (dss_cons (ds_set (i := 2) sc.nd (by rfl) (by first | exact Or.inl rfl | exact Or.inr rfl) (de_op (r := (rI (fun _ j => 0 < j) fun i j => .int (i % j))) op_mod rs_mod (de_callTy (r := (fun xs H Q => (∃ i, xs = [.int i] ∧ Q (.int i) H) ∨ ∃ k, xs = [.bl k] ∧ Q (.int (if k then 1 else 0)) H)) call_int1 csem_int (by rfl) T.b_int PyProof.Rows.boot_int (da_cons (de_row 0 3 (de_var 0)) da_nil)) (de_var 1)))
    (dss_cons (ds_rowPut 0 3 (de_op (r := (rI CDiv fun i j => .int (i / j))) op_fdiv rs_fdiv (de_row 0 3 (de_var 0)) (de_var 1)) (de_var 0) (pg_sub (pv 0) pe_int set_list))
    (dss_one (ds_retV 2)))) dss_nil)
    (dss_cons (ds_rowPut 0 1 (de_op (r := (rAddA K)) op_addA rsem_add (de_row 0 1 (de_var 0)) de_int) (de_var 0) (pg_sub (pv 0) pe_int set_list))
    (dss_cons (ds_if (dt_cmp (r := (rI0 fun i j => .bl (decide (j < i)))) op_gt rs_gt (de_row 0 1 (de_var 0)) (de_callB (r := (DV.rLen K)) call_len_seq csem_len (by rfl) T.b_len PySem.boot_len (da_cons (de_row 0 0 (de_var 0)) da_nil)) (nomark _)) (dss_cons (ds_rowPut 0 2 (de_op (r := (rI (fun _ j => 0 < j) fun i j => .int (i % j))) op_mod rs_mod (de_callTy (r := (fun xs H Q => (∃ i, xs = [.int i] ∧ Q (.int i) H) ∨ ∃ k, xs = [.bl k] ∧ Q (.int (if k then 1 else 0)) H)) call_int1 csem_int (by rfl) T.b_int PyProof.Rows.boot_int (da_cons (de_op (r := (rAddA K)) op_addA rsem_add (de_op (r := (rMulA K)) op_mulA rsem_mul (de_row 0 2 (de_var 0)) de_int) de_int) da_nil)) de_int) (de_var 0) (pg_sub (pv 0) pe_int set_list))
    (dss_one (ds_ret (de_op (r := (rI (fun _ j => 0 < j) fun i j => .int (i % j))) op_mod rs_mod (de_callTy (r := (fun xs H Q => (∃ i, xs = [.int i] ∧ Q (.int i) H) ∨ ∃ k, xs = [.bl k] ∧ Q (.int (if k then 1 else 0)) H)) call_int1 csem_int (by rfl) T.b_int PyProof.Rows.boot_int (da_cons (de_op (r := (rI CDiv fun i j => .int (i / j))) op_fdiv rs_fdiv (de_row 0 2 (de_var 0)) de_int) da_nil)) (de_var 1))))) dss_nil)
    (dss_cons (ds_set (i := 3) sc.nd (by rfl) (by first | exact Or.inl rfl | exact Or.inr rfl) (de_ix (de_row 0 0 (de_var 0)) (de_op (r := (rI0 fun i j => .int (i - j))) op_sub rs_sub (de_row 0 1 (de_var 0)) de_int)))
    (dss_cons (ds_rowPut 0 2 (de_op (r := (rI (fun _ j => 0 < j) fun i j => .int (i % j))) op_mod rs_mod (de_callTy (r := (fun xs H Q => (∃ i, xs = [.int i] ∧ Q (.int i) H) ∨ ∃ k, xs = [.bl k] ∧ Q (.int (if k then 1 else 0)) H)) call_int1 csem_int (by rfl) T.b_int PyProof.Rows.boot_int (da_cons (de_op (r := (rAddA K)) op_addA rsem_add (de_op (r := (rAddA K)) op_addA rsem_add (de_op (r := (rMulA K)) op_mulA rsem_mul (de_row 0 2 (de_var 0)) de_int) (de_var 3)) de_int) da_nil)) de_int) (de_var 0) (pg_sub (pv 0) pe_int set_list))
    (dss_cons (ds_if (dt_cmp (r := (rI0 fun i j => .bl (decide (j ≤ i)))) op_ge rs_ge (de_var 3) (de_op (r := (rI CPow fun i j => .int (i ^ j.toNat))) op_pow rs_pow de_int de_int) (nomark _)) (dss_one (ds_rowPut 0 3 (de_op (r := (rI CDiv fun i j => .int (i / j))) op_fdiv rs_fdiv (de_var 3) (de_var 1)) (de_var 0) (pg_sub (pv 0) pe_int set_list))) dss_nil)
    (dss_one (ds_ret (de_op (r := (rI (fun _ j => 0 < j) fun i j => .int (i % j))) op_mod rs_mod (de_callTy (r := (fun xs H Q => (∃ i, xs = [.int i] ∧ Q (.int i) H) ∨ ∃ k, xs = [.bl k] ∧ Q (.int (if k then 1 else 0)) H)) call_int1 csem_int (by rfl) T.b_int PyProof.Rows.boot_int (da_cons (de_var 3) da_nil)) (de_var 1))))))))))⟩
abbrev nm__law_order : List Str := ["_law_row", "_law_many", "_law_left", "_law_found", "_law_turn"]
theorem sc__law_order : FnScope nm__law_order ["_law_row", "_law_many"] (defScope s__law_order) := ⟨rfl, rfl, rfl, by decide +kernel, rfl, by decide +kernel, by decide +kernel⟩
abbrev g__law_order : DV.Env → M Out := DVL.g__law_order
abbrev m__law_order : List RV → M RV := DVL.m__law_order
theorem ok__law_order {f : Addr} {fd : FuncData} (F : Fun K "_law_order" "_law_order" s__law_order f fd) (T : Txt mg) (C__law_taken : Cal P w K mg base "_law_taken" 1 ["_law_row", "_law_many"] 2 m__law_taken) : FnOk P w K mg base CX0 2 f fd ["_law_row", "_law_many"] (spFn K 2 m__law_order) := by
  have sc := sc__law_order
  have e : spFn K 2 m__law_order = spFn K (["_law_row", "_law_many"] : List Str).length (runDef nm__law_order.length g__law_order) := rfl
  rw [e]
  refine fn_ok (P := P) (w := w) (mg := mg) (base := base) (k := 1) (g := g__law_order) F sc ?_
  intro R cdv A outer s H E hcd hr
  exact ⟨_, (dss_cons (ds_par (i := 2) (j := 3) (by rfl) sc.nd (by rfl) (by rfl) (by decide) (by rfl) (by rfl) (de_listRg (by rfl) (by rfl) T.b_list (drg_1 (by rfl) T.b_range (de_var 1))) (de_lst da_nil) (by rfl))
    (dss_cons (ds_for PassesOwn.never (by rfl) (di_range1 (by rfl) T.b_range (de_var 1)) (dg_name (i := 4) sc.nd (by rfl) (by first | exact Or.inl rfl | exact Or.inr rfl)) (dss_one (ds_popAppF (i := 3) (j := 2) (de_call C__law_taken hr (by decide) (by rfl) (da_cons (de_var 0) (da_cons (de_callB (r := (DV.rLen K)) call_len_seq csem_len (by rfl) T.b_len PySem.boot_len (da_cons (de_var 2) da_nil)) da_nil))) fun h => (pe_bm PySem.F.plainAttrs_list PySem.F.slot_list_append PySem.F.type_list_append mt_append (pv 3) (pa_cons (pe_bm PySem.F.plainAttrs_list PySem.F.slot_list_pop PySem.F.type_list_pop mt_popAt (pv 2) (pa_cons h pa_nil)) pa_nil)))))
    (dss_one (ds_ret (de_callTy (r := (DV.rTuple K)) call_tuple_of csem_tuple (by rfl) T.b_tuple PyProof.Rows.boot_tuple (da_cons (de_var 3) da_nil))))))⟩
abbrev nm__law_pick : List Str := ["_law_row", "_law_things"]
theorem sc__law_pick : FnScope nm__law_pick ["_law_row", "_law_things"] (defScope s__law_pick) := ⟨rfl, rfl, rfl, by decide +kernel, rfl, by decide +kernel, by decide +kernel⟩
abbrev g__law_pick : DV.Env → M Out := DVL.g__law_pick
abbrev m__law_pick : List RV → M RV := DVL.m__law_pick
theorem ok__law_pick {f : Addr} {fd : FuncData} (F : Fun K "_law_pick" "_law_pick" s__law_pick f fd) (T : Txt mg) (C__law_taken : Cal P w K mg base "_law_taken" 1 ["_law_row", "_law_many"] 2 m__law_taken) : FnOk P w K mg base CX0 2 f fd ["_law_row", "_law_things"] (spFn K 2 m__law_pick) := by
  have sc := sc__law_pick
  have e : spFn K 2 m__law_pick = spFn K (["_law_row", "_law_things"] : List Str).length (runDef nm__law_pick.length g__law_pick) := rfl
  rw [e]
  refine fn_ok (P := P) (w := w) (mg := mg) (base := base) (k := 1) (g := g__law_pick) F sc ?_
  intro R cdv A outer s H E hcd hr
  exact ⟨_, (dss_one (ds_ret (de_ix (de_var 1) (de_call C__law_taken hr (by decide) (by rfl) (da_cons (de_var 0) (da_cons (de_callB (r := (DV.rLen K)) call_len_seq csem_len (by rfl) T.b_len PySem.boot_len (da_cons (de_var 1) da_nil)) da_nil))))))⟩
abbrev nm__law_pairs : List Str := ["_law_row", "_law_many", "_law_order_here", "_law_found", "_law_dense", "_law_one", "_law_other"]
theorem sc__law_pairs : FnScope nm__law_pairs ["_law_row", "_law_many"] (defScope s__law_pairs) := ⟨rfl, rfl, rfl, by decide +kernel, rfl, by decide +kernel, by decide +kernel⟩
def g__law_pairs : DV.Env → M Out :=
  (sSeq (sPar 2 3 (aCons (eFn (fun xs => if xs.length = 2 then m__law_order xs else fail) (aCons (eVar 0) (aCons (eVar 1) aNil))) (aCons (eLst aNil) aNil)))
  (sSeq (sSet 4 (eFn (fun xs => if xs.length = 2 then m__law_pick xs else fail) (aCons (eVar 0) (aCons (eLst (aCons (eC (.int 2)) (aCons (eC (.int 3)) (aCons (eC (.int 6)) aNil)))) aNil))))
  (sSeq (sFor (iRng1F (eVar 1)) (gNm 5) (sFor (iRng2F (e2 gAddA (eVar 5) (eC (.int 1))) (eVar 1)) (gNm 6) (sIf (eT (e2 gEq (eFn (fun xs => if xs.length = 2 then m__law_taken xs else fail) (aCons (eVar 0) (aCons (eVar 4) aNil))) (eC (.int 0)))) (sApp 3 (eTup (aCons (e2 gIx (eVar 2) (eVar 5)) (aCons (e2 gIx (eVar 2) (eVar 6)) aNil)))) sNil)))
  (sRet (eCall gTuple (aCons (eVar 3) aNil))))))
def m__law_pairs : List RV → M RV := runDef 7 g__law_pairs
theorem ok__law_pairs {f : Addr} {fd : FuncData} (F : Fun K "_law_pairs" "_law_pairs" s__law_pairs f fd) (T : Txt mg) (C__law_order : Cal P w K mg base "_law_order" 2 ["_law_row", "_law_many"] 2 m__law_order) (C__law_pick : Cal P w K mg base "_law_pick" 2 ["_law_row", "_law_things"] 2 m__law_pick) (C__law_taken : Cal P w K mg base "_law_taken" 1 ["_law_row", "_law_many"] 2 m__law_taken) : FnOk P w K mg base CX0 3 f fd ["_law_row", "_law_many"] (spFn K 2 m__law_pairs) := by
  have sc := sc__law_pairs
  have e : spFn K 2 m__law_pairs = spFn K (["_law_row", "_law_many"] : List Str).length (runDef nm__law_pairs.length g__law_pairs) := rfl
  rw [e]
  refine fn_ok (P := P) (w := w) (mg := mg) (base := base) (k := 2) (g := g__law_pairs) F sc ?_
  intro R cdv A outer s H E hcd hr
  exact ⟨_, (dss_cons (ds_par (i := 2) (j := 3) (by rfl) sc.nd (by rfl) (by rfl) (by decide) (by rfl) (by rfl) (de_call C__law_order hr (by decide) (by rfl) (da_cons (de_var 0) (da_cons (de_var 1) da_nil))) (de_lst da_nil) (by rfl))
    (dss_cons (ds_set (i := 4) sc.nd (by rfl) (by first | exact Or.inl rfl | exact Or.inr rfl) (de_call C__law_pick hr (by decide) (by rfl) (da_cons (de_var 0) (da_cons (de_lst (da_cons de_int (da_cons de_int (da_cons de_int da_nil)))) da_nil))))
    (dss_cons (ds_for PassesOwn.never (by rfl) (di_range1 (by rfl) T.b_range (de_var 1)) (dg_name (i := 5) sc.nd (by rfl) (by first | exact Or.inl rfl | exact Or.inr rfl)) (dss_one (ds_for PassesOwn.never (by rfl) (di_range2 (by rfl) T.b_range (de_op (r := (rAddA K)) op_addA rsem_add (de_var 5) de_int) (de_var 1)) (dg_name (i := 6) sc.nd (by rfl) (by first | exact Or.inl rfl | exact Or.inr rfl)) (dss_one (ds_if (dt_cmp (r := (rEqD K)) (op_eqD (rm64 hr)) rsem_eq (de_call C__law_taken hr (by decide) (by rfl) (da_cons (de_var 0) (da_cons (de_var 4) da_nil))) de_int (nomark _)) (dss_one (ds_appendF (i := 3) (de_tup (da_cons (de_ix (de_var 2) (de_var 5)) (da_cons (de_ix (de_var 2) (de_var 6)) da_nil))) fun h => (pe_bm PySem.F.plainAttrs_list PySem.F.slot_list_append PySem.F.type_list_append mt_append (pv 3) (pa_cons h pa_nil)))) dss_nil)))))
    (dss_one (ds_ret (de_callTy (r := (DV.rTuple K)) call_tuple_of csem_tuple (by rfl) T.b_tuple PyProof.Rows.boot_tuple (da_cons (de_var 3) da_nil)))))))⟩
abbrev nm_able_jobs : List Str := ["pairs", "done", "many", "left", "job", "pair"]
theorem sc_able_jobs : FnScope nm_able_jobs ["pairs", "done", "many"] (defScope s_able_jobs) := ⟨rfl, rfl, rfl, by decide +kernel, rfl, by decide +kernel, by decide +kernel⟩
abbrev g_able_jobs : DV.Env → M Out := DVL.g_able_jobs
abbrev m_able_jobs : List RV → M RV := DVL.m_able_jobs
theorem ok_able_jobs {f : Addr} {fd : FuncData} (F : Fun K "able_jobs" "able_jobs" s_able_jobs f fd) (T : Txt mg)  : FnOk P w K mg base CX0 1 f fd ["pairs", "done", "many"] (spFn K 3 m_able_jobs) := by
  have sc := sc_able_jobs
  have e : spFn K 3 m_able_jobs = spFn K (["pairs", "done", "many"] : List Str).length (runDef nm_able_jobs.length g_able_jobs) := rfl
  rw [e]
  refine fn_ok (P := P) (w := w) (mg := mg) (base := base) (k := 0) (g := g_able_jobs) F sc ?_
  intro R cdv A outer s H E hcd hr
  exact ⟨_, (dss_cons (ds_set (i := 3) sc.nd (by rfl) (by first | exact Or.inl rfl | exact Or.inr rfl) (de_lc (own := [("job", 4)]) (g := (gName 4)) (tt := (tTest (tOp (rInA K true) (tVar 4) (tVar 1)))) (te := (tVar 4)) (by rfl) sc.nd (di_range1 (by rfl) T.b_range (de_var 2)) (blkOk_by (N := nm_able_jobs) (sc := defScope s_able_jobs) (by decide +kernel)) (by decide) (fun _ _ _ _ _ => (dg_name (i := 4) sc.nd (by rfl) (by first | exact Or.inl rfl | exact Or.inr rfl))) (fun _ _ _ _ _ => (dts_one (dt_cmp (r := (rInA K true)) (op_notInA (rm65 hr)) (rsem_in true) (de_var 4) (de_var 1) (by with_unfolding_all rfl)))) (fun _ _ _ _ _ => (de_var 4))))
    (dss_one (ds_ret (de_lc (own := [("job", 4)]) (g := (gName 4)) (tt := (tNot (tB (tCB (rAny K) (tCons (tLc (iSeqK K (tVar 0)) (gName 5) tYes (tAndV (tOp (rEqD K) (tOp (rIx K) (tVar 5) (tC (.int 1))) (tVar 4)) (tOp (rInA K false) (tOp (rIx K) (tVar 5) (tC (.int 0))) (tVar 3))) [5]) tNil))))) (te := (tVar 4)) (by rfl) sc.nd (di_seq (src_v 3)) (blkOk_by (N := nm_able_jobs) (sc := defScope s_able_jobs) (by decide +kernel)) (by decide) (fun _ _ _ _ _ => (dg_name (i := 4) sc.nd (by rfl) (by first | exact Or.inl rfl | exact Or.inr rfl))) (fun _ _ _ _ _ => (dts_one (dt_not (dt_val (de_callB (r := (rAny K)) (cr_any (by rfl)) (csem_bools _) (by rfl) T.b_any PyProof.Rows.boot_any (da_cons (de_lc (own := [("pair", 5)]) (g := (gName 5)) (tt := tYes) (te := (tAndV (tOp (rEqD K) (tOp (rIx K) (tVar 5) (tC (.int 1))) (tVar 4)) (tOp (rInA K false) (tOp (rIx K) (tVar 5) (tC (.int 0))) (tVar 3)))) (by rfl) sc.nd (di_seq (src_v 0)) (blkOk_by (N := nm_able_jobs) (by rfl)) (by decide) (fun _ _ _ _ _ => (dg_name (i := 5) sc.nd (by rfl) (by first | exact Or.inl rfl | exact Or.inr rfl))) (fun _ _ _ _ _ => dts_nil) (fun _ _ _ _ _ => (de_and (de_cmp (r := (rEqD K)) (op_eqD (rm64 hr)) rsem_eq (de_ix (de_var 5) de_int) (de_var 4) (nomark _)) (de_one (de_cmp (r := (rInA K false)) (op_inA (rm65 hr)) (rsem_in false) (de_ix (de_var 5) de_int) (de_var 3) (by with_unfolding_all rfl)))))) da_nil)))))) (fun _ _ _ _ _ => (de_var 4))))))⟩
abbrev nm_first_order : List Str := ["pairs", "many", "found", "able"]
theorem sc_first_order : FnScope nm_first_order ["pairs", "many"] (defScope s_first_order) := ⟨rfl, rfl, rfl, by decide +kernel, rfl, by decide +kernel, by decide +kernel⟩
def g_first_order : DV.Env → M Out :=
  (sSeq (sSet 2 (eLst aNil))
  (sSeq (wloopF (eT (e2 gLt (eCall gLen (aCons (eVar 2) aNil)) (eVar 1))) (sSeq (sSet 3 (eFn (fun xs => if xs.length = 3 then m_able_jobs xs else fail) (aCons (eVar 0) (aCons (eVar 2) (aCons (eVar 1) aNil)))))
  (sSeq (sIf (eT (e2 gEq (eVar 3) (eLst aNil))) (sRet (eC .none)) sNil)
  (sApp 2 (e2 gIx (eVar 3) (eC (.int 0)))))) 100000)
  (sRet (eCall gTuple (aCons (eVar 2) aNil)))))
def m_first_order : List RV → M RV := runDef 4 g_first_order
theorem ok_first_order {f : Addr} {fd : FuncData} (F : Fun K "first_order" "first_order" s_first_order f fd) (T : Txt mg) (C_able_jobs : Cal P w K mg base "able_jobs" 1 ["pairs", "done", "many"] 3 m_able_jobs) : FnOk P w K mg base CX0 2 f fd ["pairs", "many"] (spFn K 2 m_first_order) := by
  have sc := sc_first_order
  have e : spFn K 2 m_first_order = spFn K (["pairs", "many"] : List Str).length (runDef nm_first_order.length g_first_order) := rfl
  rw [e]
  refine fn_ok (P := P) (w := w) (mg := mg) (base := base) (k := 1) (g := g_first_order) F sc ?_
  intro R cdv A outer s H E hcd hr
  exact ⟨_, (dss_cons (ds_set (i := 2) sc.nd (by rfl) (by first | exact Or.inl rfl | exact Or.inr rfl) (de_lst da_nil))
    (dss_cons (ds_while 100000 PassesOwn.never (dt_cmp (r := (rI0 fun i j => .bl (decide (i < j)))) op_lt rs_lt (de_callB (r := (DV.rLen K)) call_len_seq csem_len (by rfl) T.b_len PySem.boot_len (da_cons (de_var 2) da_nil)) (de_var 1) (nomark _)) (dss_cons (ds_set (i := 3) sc.nd (by rfl) (by first | exact Or.inl rfl | exact Or.inr rfl) (de_call C_able_jobs hr (by decide) (by rfl) (da_cons (de_var 0) (da_cons (de_var 2) (da_cons (de_var 1) da_nil)))))
    (dss_cons (ds_if (dt_cmp (r := (rEqD K)) (op_eqD (rm64 hr)) rsem_eq (de_var 3) (de_lst da_nil) (nomark _)) (dss_one (ds_ret de_non)) dss_nil)
    (dss_one (ds_appendF (i := 2) (de_ix (de_var 3) de_int) fun h => (pe_bm PySem.F.plainAttrs_list PySem.F.slot_list_append PySem.F.type_list_append mt_append (pv 2) (pa_cons h pa_nil)))))))
    (dss_one (ds_ret (de_callTy (r := (DV.rTuple K)) call_tuple_of csem_tuple (by rfl) T.b_tuple PyProof.Rows.boot_tuple (da_cons (de_var 2) da_nil))))))⟩
abbrev nm_closure : List Str := ["pairs", "many", "found", "job", "one", "other"]
theorem sc_closure : FnScope nm_closure ["pairs", "many"] (defScope s_closure) := ⟨rfl, rfl, rfl, by decide +kernel, rfl, by decide +kernel, by decide +kernel⟩
def g_closure : DV.Env → M NC :=
  (sSeqM (sNewD 2 (iRng1F (eVar 1)) [3] (gNm 3) (eVar 3))
  (sSeqM (sFor2 (iDatR (eFn (fun xs => if xs.length = 2 then m_first_order xs else fail) (aCons (eVar 0) (aCons (eVar 1) aNil)))) (gNm 3) (sFor2 (iDat (eVar 0)) (gTupF 2 (gMore (gNm 4) (gMore (gNm 5) gNone))) (sIf (eT (e2 gEq (eVar 4) (eVar 3))) (sSeq (sMPut 2 (eC (.bool true)) (eVar 3) (eVar 5))
  (sMUpd 2 (eVar 3) (eVar 5))) sNil)))
  (sRetM 2)))
def m_closure : List RV → M NC := runDefM 6 g_closure
theorem ok_closure {f : Addr} {fd : FuncData} (F : Fun K "closure" "closure" s_closure f fd) (T : Txt mg) (C_first_order : Cal P w K mg base "first_order" 2 ["pairs", "many"] 2 m_first_order) : FnOk P w K mg base CX0 3 f fd ["pairs", "many"] (spM K 2 m_closure) := by
  have sc := sc_closure
  have e : spM K 2 m_closure = spM K (["pairs", "many"] : List Str).length (runDefM nm_closure.length g_closure) := rfl
  rw [e]
  refine fn_okM (P := P) (w := w) (mg := mg) (base := base) (k := 2) (g := g_closure) F sc ?_
  intro R cdv A outer s H E hcd hr
  exact ⟨_, (dssM_cons (ds2_newDS (i := 2) (own := [("job", 3)]) (g := (gName 3)) (tk := (tVar 3)) (by rfl) sc.nd (di_range1 (by rfl) T.b_range (de_var 1)) (blkOk_by (N := nm_closure) (sc := defScope s_closure) (by decide +kernel)) (by decide) (fun _ _ _ _ _ => (dg_name (i := 3) sc.nd (by rfl) (by first | exact Or.inl rfl | exact Or.inr rfl))) (fun _ _ _ _ _ => (de_var 3)) (by rfl) (by rfl) (hsw := sw_trueD (by rfl) (by rfl) (by rfl) (by decide +kernel)))
    (dssM_cons (ds2_for PassesOwn.never (by rfl) (di2_rev (by rfl) T.b_reversed (de_call C_first_order hr (by decide) (by rfl) (da_cons (de_var 0) (da_cons (de_var 1) da_nil)))) (dg_name (i := 3) sc.nd (by rfl) (by first | exact Or.inl rfl | exact Or.inr rfl)) (dss2_one (ds2_for PassesOwn.never (by rfl) (di2_dat (de_var 0)) (dg_tup (by rfl) (dgs_cons (dg_name (i := 4) sc.nd (by rfl) (by first | exact Or.inl rfl | exact Or.inr rfl)) (dgs_cons (dg_name (i := 5) sc.nd (by rfl) (by first | exact Or.inl rfl | exact Or.inr rfl)) dgs_nil))) (dss2_one (ds2_if (dt_cmp (r := (rEqD K)) (op_eqD (rm64 hr)) rsem_eq (de_var 4) (de_var 3) (nomark _)) (dss2_cons (ds2_mput (i := 2) (rm9 hr) de_bl (de_var 3) (de_var 5))
    (dss2_one (ds2_mupd (i := 2) (rm9 hr) (de_var 3) (de_var 5)))) (dss2_up dss_nil))))))
    (dssM_ret 2)))⟩
abbrev nm_is_integer : List Str := ["value"]
theorem sc_is_integer : FnScope nm_is_integer ["value"] (defScope s_is_integer) := ⟨rfl, rfl, rfl, by decide +kernel, rfl, by decide +kernel, by decide +kernel⟩
abbrev g_is_integer : DV.Env → M Out := DVL.g_is_integer
abbrev m_is_integer : List RV → M RV := DVL.m_is_integer
theorem ok_is_integer {f : Addr} {fd : FuncData} (F : Fun K "is_integer" "is_integer" s_is_integer f fd) (T : Txt mg)  : FnOk P w K mg base CX0 1 f fd ["value"] (spFn K 1 m_is_integer) := by
  have sc := sc_is_integer
  have e : spFn K 1 m_is_integer = spFn K (["value"] : List Str).length (runDef nm_is_integer.length g_is_integer) := rfl
  rw [e]
  refine fn_ok (P := P) (w := w) (mg := mg) (base := base) (k := 0) (g := g_is_integer) F sc ?_
  intro R cdv A outer s H E hcd hr
  exact ⟨_, (dss_one (ds_ret (de_and (de_isT .int (by rfl) T.b_isinstance (by rfl) T.b_int (by decide +kernel) (de_var 0)) (de_one (de_not (de_isT .bool (by rfl) T.b_isinstance (by rfl) T.b_bool (by decide +kernel) (de_var 0)))))))⟩
abbrev nm_is_in : List Str := ["value", "least", "most"]
theorem sc_is_in : FnScope nm_is_in ["value", "least", "most"] (defScope s_is_in) := ⟨rfl, rfl, rfl, by decide +kernel, rfl, by decide +kernel, by decide +kernel⟩
abbrev g_is_in : DV.Env → M Out := DVL.g_is_in
abbrev m_is_in : List RV → M RV := DVL.m_is_in
theorem ok_is_in {f : Addr} {fd : FuncData} (F : Fun K "is_in" "is_in" s_is_in f fd) (T : Txt mg) (C_is_integer : Cal P w K mg base "is_integer" 1 ["value"] 1 m_is_integer) : FnOk P w K mg base CX0 2 f fd ["value", "least", "most"] (spFn K 3 m_is_in) := by
  have sc := sc_is_in
  have e : spFn K 3 m_is_in = spFn K (["value", "least", "most"] : List Str).length (runDef nm_is_in.length g_is_in) := rfl
  rw [e]
  refine fn_ok (P := P) (w := w) (mg := mg) (base := base) (k := 1) (g := g_is_in) F sc ?_
  intro R cdv A outer s H E hcd hr
  exact ⟨_, (dss_one (ds_ret (de_and (de_call C_is_integer hr (by decide) (by rfl) (da_cons (de_var 0) da_nil)) (de_one (de_chain (r := (rI0 fun i j => .bl (decide (i ≤ j)))) (r' := (rI0 fun i j => .bl (decide (i ≤ j)))) op_le op_le rs_le rs_le (de_var 1) (de_var 0) (de_var 2))))))⟩
abbrev nm_is_list : List Str := ["value", "least", "most"]
theorem sc_is_list : FnScope nm_is_list ["value", "least", "most"] (defScope s_is_list) := ⟨rfl, rfl, rfl, by decide +kernel, rfl, by decide +kernel, by decide +kernel⟩
abbrev g_is_list : DV.Env → M Out := DVL.g_is_list
abbrev m_is_list : List RV → M RV := DVL.m_is_list
theorem ok_is_list {f : Addr} {fd : FuncData} (F : Fun K "is_list" "is_list" s_is_list f fd) (T : Txt mg)  : FnOk P w K mg base CX0 1 f fd ["value", "least", "most"] (spFn K 3 m_is_list) := by
  have sc := sc_is_list
  have e : spFn K 3 m_is_list = spFn K (["value", "least", "most"] : List Str).length (runDef nm_is_list.length g_is_list) := rfl
  rw [e]
  refine fn_ok (P := P) (w := w) (mg := mg) (base := base) (k := 0) (g := g_is_list) F sc ?_
  intro R cdv A outer s H E hcd hr
  exact ⟨_, (dss_one (ds_ret (de_and (de_isT .tuple (by rfl) T.b_isinstance (by rfl) T.b_tuple (by decide +kernel) (de_var 0)) (de_one (de_chain (r := (rI0 fun i j => .bl (decide (i ≤ j)))) (r' := (rI0 fun i j => .bl (decide (i ≤ j)))) op_le op_le rs_le rs_le (de_var 1) (de_callB (r := (DV.rLen K)) call_len_seq csem_len (by rfl) T.b_len PySem.boot_len (da_cons (de_var 0) da_nil)) (de_var 2))))))⟩
abbrev nm_need_pairs : List Str := ["pairs", "many", "index", "pair", "job"]
theorem sc_need_pairs : FnScope nm_need_pairs ["pairs", "many"] (defScope s_need_pairs) := ⟨rfl, rfl, rfl, by decide +kernel, rfl, by decide +kernel, by decide +kernel⟩
def g_need_pairs : DV.Env → M Out :=
  (sSeq (sIf (tNotF (eT (eFn (fun xs => if xs.length = 3 then m_is_list xs else fail) (aCons (eVar 0) (aCons (eC (.int 0)) (aCons (eC (.int 40)) aNil)))))) sNever sNil)
  (sSeq (sFor (iEnumF (srcV 0)) (gTupF 2 (gMore (gNm 2) (gMore (gNm 3) gNone))) (sIf (tIfT (tNotF (eT (eFn (fun xs => if xs.length = 3 then m_is_list xs else fail) (aCons (eVar 3) (aCons (eC (.int 2)) (aCons (eC (.int 2)) aNil)))))) (tRetB true) (tIfT (tNotF (eT (eCall gAll (aCons (eLc (srcV 3) [4] (gNm 4) tTrue (eFn (fun xs => if xs.length = 3 then m_is_in xs else fail) (aCons (eVar 4) (aCons (eC (.int 0)) (aCons (e2 gSubI (eVar 1) (eC (.int 1))) aNil))))) aNil)))) (tRetB true) (eT (e2 gEq (e2 gIx (eVar 3) (eC (.int 0))) (e2 gIx (eVar 3) (eC (.int 1))))))) sNever sNil))
  (sIf (eT (e2 gIs (eFn (fun xs => if xs.length = 2 then m_first_order xs else fail) (aCons (eVar 0) (aCons (eVar 1) aNil))) (eC .none))) sNever sNil)))
def m_need_pairs : List RV → M RV := runDef 5 g_need_pairs
theorem ok_need_pairs {f : Addr} {fd : FuncData} (F : Fun K "need_pairs" "need_pairs" s_need_pairs f fd) (T : Txt mg) (C_is_list : Cal P w K mg base "is_list" 1 ["value", "least", "most"] 3 m_is_list) (C_is_in : Cal P w K mg base "is_in" 2 ["value", "least", "most"] 3 m_is_in) (C_first_order : Cal P w K mg base "first_order" 2 ["pairs", "many"] 2 m_first_order) : FnOk P w K mg base CX0 3 f fd ["pairs", "many"] (spFn K 2 m_need_pairs) := by
  have sc := sc_need_pairs
  have e : spFn K 2 m_need_pairs = spFn K (["pairs", "many"] : List Str).length (runDef nm_need_pairs.length g_need_pairs) := rfl
  rw [e]
  refine fn_ok (P := P) (w := w) (mg := mg) (base := base) (k := 2) (g := g_need_pairs) F sc ?_
  intro R cdv A outer s H E hcd hr
  exact ⟨_, (dss_cons (ds_if (dt_not (dt_val (de_call C_is_list hr (by decide) (by rfl) (da_cons (de_var 0) (da_cons de_int (da_cons (de_gI (by rfl) T.c_MOST_PAIRS) da_nil)))))) dss_never dss_nil)
    (dss_cons (ds_for PassesOwn.never (by rfl) (di_enum (by rfl) T.b_enumerate (src_v 0)) (dg_tup (by rfl) (dgs_cons (dg_name (i := 2) sc.nd (by rfl) (by first | exact Or.inl rfl | exact Or.inr rfl)) (dgs_cons (dg_name (i := 3) sc.nd (by rfl) (by first | exact Or.inl rfl | exact Or.inr rfl)) dgs_nil))) (dss_one (ds_if (DW.dt (dw_or (dt_not (dt_val (de_call C_is_list hr (by decide) (by rfl) (da_cons (de_var 3) (da_cons de_int (da_cons de_int da_nil)))))) (dw_or (dt_not (dt_val (de_callB (r := (rAll K)) (cr_all (by rfl)) (csem_bools _) (by rfl) T.b_all PyProof.Rows.boot_all (da_cons (de_lc (own := [("job", 4)]) (g := (gName 4)) (tt := tYes) (te := (tCall (spFn K 3 m_is_in) [] E0 (tCons (tVar 4) (tCons (tC (.int 0)) (tCons (tOp (rI0 fun i j => .int (i - j)) (tVar 1) (tC (.int 1))) tNil))))) (by rfl) sc.nd (di_seq (src_v 3)) (blkOk_by (N := nm_need_pairs) (sc := defScope s_need_pairs) (by decide +kernel)) (by decide) (fun _ _ _ _ _ => (dg_name (i := 4) sc.nd (by rfl) (by first | exact Or.inl rfl | exact Or.inr rfl))) (fun _ _ _ _ _ => dts_nil) (fun _ _ _ _ _ => (de_call C_is_in hr (by decide) (by rfl) (da_cons (de_var 4) (da_cons de_int (da_cons (de_op (r := (rI0 fun i j => .int (i - j))) op_sub rs_sub (de_var 1) de_int) da_nil)))))) da_nil)))) (dw_or1 (dt_cmp (r := (rEqD K)) (op_eqD (rm64 hr)) rsem_eq (de_ix (de_var 3) de_int) (de_ix (de_var 3) de_int) (nomark _)))))) dss_never dss_nil)))
    (dss_one (ds_if (dt_cmp (r := (fun x y H Q => y = .non ∧ Q (.bl (decide (x = .non))) H)) op_isN rsem_isN (de_call C_first_order hr (by decide) (by rfl) (da_cons (de_var 0) (da_cons (de_var 1) da_nil))) de_non (nomark _)) dss_never dss_nil))))⟩
abbrev nm_followers : List Str := ["many", "pairs", "found", "job"]
theorem sc_followers : FnScope nm_followers ["many", "pairs"] (defScope s_followers) := ⟨rfl, rfl, rfl, by decide +kernel, rfl, by decide +kernel, by decide +kernel⟩
def g_followers : DV.Env → M Out :=
  (sBody2 (sSeq (sIf (tNotF (eT (eFn (fun xs => if xs.length = 3 then m_is_in xs else fail) (aCons (eVar 0) (aCons (eC (.int 1)) (aCons (eC (.int 10)) aNil)))))) sNever sNil)
  (sSeq (sDrop (eFn (fun xs => if xs.length = 2 then m_need_pairs xs else fail) (aCons (eVar 1) (aCons (eVar 0) aNil))))
  (sSeq (sSetM 2 2 m_closure (aCons (eVar 1) (aCons (eVar 0) aNil)))
  (sRet (eCall gTuple (aCons (eLc (iRng1F (eVar 0)) [3] (gNm 3) tTrue (eCall gTuple (aCons (eCall gSort (aCons (eListG false (eMGetD 2 (eVar 3))) aNil)) aNil))) aNil)))))))
def m_followers : List RV → M RV := runDef 4 g_followers
theorem ok_followers {f : Addr} {fd : FuncData} (F : Fun K "followers" "followers" s_followers f fd) (T : Txt mg) (C_is_in : Cal P w K mg base "is_in" 2 ["value", "least", "most"] 3 m_is_in) (C_need_pairs : Cal P w K mg base "need_pairs" 3 ["pairs", "many"] 2 m_need_pairs) (C_closure : CalM P w K mg base "closure" 3 ["pairs", "many"] 2 m_closure) : FnOk P w K mg base CX0 4 f fd ["many", "pairs"] (spFn K 2 m_followers) := by
  have sc := sc_followers
  have e : spFn K 2 m_followers = spFn K (["many", "pairs"] : List Str).length (runDef nm_followers.length g_followers) := rfl
  rw [e]
  refine fn_ok (P := P) (w := w) (mg := mg) (base := base) (k := 3) (g := g_followers) F sc ?_
  intro R cdv A outer s H E hcd hr
  exact ⟨_, (dss_of2 (dss2_cons (ds2_up (ds_if (dt_not (dt_val (de_call C_is_in hr (by decide) (by rfl) (da_cons (de_var 0) (da_cons de_int (da_cons de_int da_nil)))))) dss_never dss_nil))
    (dss2_cons (ds2_up (ds_expr (de_call C_need_pairs hr (by decide) (by rfl) (da_cons (de_var 1) (da_cons (de_var 0) da_nil)))))
    (dss2_cons (ds2_setM (i := 2) C_closure hr (by decide) (by rfl) (da_cons (de_var 1) (da_cons (de_var 0) da_nil)) sc.nd (by rfl) (by first | exact Or.inl rfl | exact Or.inr rfl))
    (dss2_up (dss_one (ds_ret (de_callTy (r := (DV.rTuple K)) call_tuple_of csem_tuple (by rfl) T.b_tuple PyProof.Rows.boot_tuple (da_cons (de_lc (own := [("job", 3)]) (g := (gName 3)) (tt := tYes) (te := (tCB (DV.rTuple K) (tCons (tCB (DV.rSortA K) (tCons (tListG false (tDGet (tVar 2) (tVar 3))) tNil)) tNil))) (by rfl) sc.nd (di_range1 (by rfl) T.b_range (de_var 0)) (blkOk_by (N := nm_followers) (sc := defScope s_followers) (by decide +kernel)) (by decide) (fun _ _ _ _ _ => (dg_name (i := 3) sc.nd (by rfl) (by first | exact Or.inl rfl | exact Or.inr rfl))) (fun _ _ _ _ _ => dts_nil) (fun _ _ _ _ _ => (de_callTy (r := (DV.rTuple K)) call_tuple_of csem_tuple (by rfl) T.b_tuple PyProof.Rows.boot_tuple (da_cons (de_callB (r := (DV.rSortA K)) (cr_sortA (rm65 hr)) csem_sort (by rfl) T.b_sorted PyProof.Rows.boot_sorted (da_cons (de_listG (b := false) (by rfl) (by rfl) T.b_list (fun h => pgs_keys h) (de_mget (i := 2) (rm1 hr) (de_var 3))) da_nil)) da_nil)))) da_nil)))))))))⟩
abbrev nm_needed : List Str := ["many", "pairs", "behind", "found", "one", "other", "middle"]
theorem sc_needed : FnScope nm_needed ["many", "pairs"] (defScope s_needed) := ⟨rfl, rfl, rfl, by decide +kernel, rfl, by decide +kernel, by decide +kernel⟩
def g_needed : DV.Env → M Out :=
  (sBody2 (sSeq (sIf (tNotF (eT (eFn (fun xs => if xs.length = 3 then m_is_in xs else fail) (aCons (eVar 0) (aCons (eC (.int 1)) (aCons (eC (.int 10)) aNil)))))) sNever sNil)
  (sSeq (sDrop (eFn (fun xs => if xs.length = 2 then m_need_pairs xs else fail) (aCons (eVar 1) (aCons (eVar 0) aNil))))
  (sSeq (sSetM 2 2 m_closure (aCons (eVar 1) (aCons (eVar 0) aNil)))
  (sSeq (sSet 3 (eLst aNil))
  (sSeq (sFor (srcE (eSortSetP (eVar 1))) (gTupF 2 (gMore (gNm 4) (gMore (gNm 5) gNone))) (sIf (tNotF (eT (eCall gAny (aCons (eLcM 2 4 [6] (gNm 6) tTrue (e2 (gGIn false) (eVar 5) (eMGetD 2 (eVar 6)))) aNil)))) (sApp 3 (eTup (aCons (eVar 4) (aCons (eVar 5) aNil)))) sNil))
  (sRet (eCall gTuple (aCons (eVar 3) aNil)))))))))
def m_needed : List RV → M RV := runDef 7 g_needed
theorem ok_needed {f : Addr} {fd : FuncData} (F : Fun K "needed" "needed" s_needed f fd) (T : Txt mg) (C_is_in : Cal P w K mg base "is_in" 2 ["value", "least", "most"] 3 m_is_in) (C_need_pairs : Cal P w K mg base "need_pairs" 3 ["pairs", "many"] 2 m_need_pairs) (C_closure : CalM P w K mg base "closure" 3 ["pairs", "many"] 2 m_closure) : FnOk P w K mg base CX0 4 f fd ["many", "pairs"] (spFn K 2 m_needed) := by
  have sc := sc_needed
  have e : spFn K 2 m_needed = spFn K (["many", "pairs"] : List Str).length (runDef nm_needed.length g_needed) := rfl
  rw [e]
  refine fn_ok (P := P) (w := w) (mg := mg) (base := base) (k := 3) (g := g_needed) F sc ?_
  intro R cdv A outer s H E hcd hr
  exact ⟨_, (dss_of2 (dss2_cons (ds2_up (ds_if (dt_not (dt_val (de_call C_is_in hr (by decide) (by rfl) (da_cons (de_var 0) (da_cons de_int (da_cons de_int da_nil)))))) dss_never dss_nil))
    (dss2_cons (ds2_up (ds_expr (de_call C_need_pairs hr (by decide) (by rfl) (da_cons (de_var 1) (da_cons (de_var 0) da_nil)))))
    (dss2_cons (ds2_setM (i := 2) C_closure hr (by decide) (by rfl) (da_cons (de_var 1) (da_cons (de_var 0) da_nil)) sc.nd (by rfl) (by first | exact Or.inl rfl | exact Or.inr rfl))
    (dss2_up (dss_cons (ds_set (i := 3) sc.nd (by rfl) (by first | exact Or.inl rfl | exact Or.inr rfl) (de_lst da_nil))
    (dss_cons (ds_for PassesOwn.never (by rfl) (di_seq (src_e (de_sortSetP (rm65 hr) (by rfl) (by rfl) T.b_sorted (by rfl) T.b_set (de_var 1)))) (dg_tup (by rfl) (dgs_cons (dg_name (i := 4) sc.nd (by rfl) (by first | exact Or.inl rfl | exact Or.inr rfl)) (dgs_cons (dg_name (i := 5) sc.nd (by rfl) (by first | exact Or.inl rfl | exact Or.inr rfl)) dgs_nil))) (dss_one (ds_if (dt_not (dt_val (de_callB (r := (rAny K)) (cr_any (by rfl)) (csem_bools _) (by rfl) T.b_any PyProof.Rows.boot_any (da_cons (de_lcM (i := 2) (n := 4) (own := [("middle", 6)]) (g := (gName 6)) (tt := tYes) (te := (tOp (rGIn K false) (tVar 5) (tDGet (tVar 2) (tVar 6)))) (rm9 hr) (by rfl) sc.nd (blkOk_by (N := nm_needed) (sc := defScope s_needed) (by decide +kernel)) (by decide) (fun _ _ _ _ _ => (dg_name (i := 6) sc.nd (by rfl) (by first | exact Or.inl rfl | exact Or.inr rfl))) (fun _ _ _ _ _ => dts_nil) (fun _ _ _ _ _ => (de_cmp (r := (rGIn K false)) (op_gIn (rm9 hr)) (rsem_gIn false) (de_var 5) (de_mget (i := 2) (rm1 hr) (de_var 6)) (by with_unfolding_all rfl)))) da_nil)))) (dss_one (ds_appendF (i := 3) (de_tup (da_cons (de_var 4) (da_cons (de_var 5) da_nil))) fun h => (pe_bm PySem.F.plainAttrs_list PySem.F.slot_list_append PySem.F.type_list_append mt_append (pv 3) (pa_cons h pa_nil)))) dss_nil)))
    (dss_one (ds_ret (de_callTy (r := (DV.rTuple K)) call_tuple_of csem_tuple (by rfl) T.b_tuple PyProof.Rows.boot_tuple (da_cons (de_var 3) da_nil)))))))))))⟩
abbrev nm_law : List Str := ["_law_script", "_law_row", "_law_turn", "_law_many", "_law_pairs_here", "_law_told", "_law_pair", "_law_at"]
theorem sc_law : FnScope nm_law ["_law_script"] (defScope s_law) := ⟨rfl, rfl, rfl, by decide +kernel, rfl, by decide +kernel, by decide +kernel⟩
def g_law : DV.Env → M Out :=
  (sSeq (sFor (iRng1F (eC (.int 2))) (gNm 2) (sSeq (sSet 3 (e2 gAddA (eC (.int 1)) (eFn (fun xs => if xs.length = 2 then m__law_taken xs else fail) (aCons (eVar 1) (aCons (eC (.int 8)) aNil)))))
  (sSeq (sSet 4 (eSlice (eFn (fun xs => if xs.length = 2 then m__law_pairs xs else fail) (aCons (eVar 1) (aCons (eVar 3) aNil))) (fun _ => ret none) (ePart (eC (.int 20)))))
  (sSeq (sSet 4 (e2 gAddA (eVar 4) (eSlice (eVar 4) (fun _ => ret none) (ePart (eFn (fun xs => if xs.length = 2 then m__law_taken xs else fail) (aCons (eVar 1) (aCons (eC (.int 3)) aNil)))))))
  (sSeq (sSet 5 (eFn (fun xs => if xs.length = 2 then m_needed xs else fail) (aCons (eVar 3) (aCons (eVar 4) aNil))))
  (sSeq (sIf (tIfT (eT (e2 gNe (eCall gList (aCons (eVar 5) aNil)) (eSortSetP (eVar 5)))) (tRetB true) (tIfT (eT (e2 gNe (eLc (srcV 5) [6] (gNm 6) (eT (e2 gNotIn (eVar 6) (eVar 4))) (eVar 6)) (eLst aNil))) (tRetB true) (tNotF (eT (eIsT .tuple (eVar 5)))))) (sRet (eC (.bool false))) sNil)
  (sSeq (sIf (eT (e2 gNe (eFn (fun xs => if xs.length = 2 then m_followers xs else fail) (aCons (eVar 3) (aCons (eVar 5) aNil))) (eFn (fun xs => if xs.length = 2 then m_followers xs else fail) (aCons (eVar 3) (aCons (eVar 4) aNil))))) (sRet (eC (.bool false))) sNil)
  (sFor (iRng1F (eCall gLen (aCons (eVar 5) aNil))) (gNm 7) (sIf (eT (e2 gEq (eFn (fun xs => if xs.length = 2 then m_followers xs else fail) (aCons (eVar 3) (aCons (e2 gAddA (eSlice (eVar 5) (fun _ => ret none) (ePart (eVar 7))) (eSlice (eVar 5) (ePart (e2 gAddA (eVar 7) (eC (.int 1)))) (fun _ => ret none))) aNil))) (eFn (fun xs => if xs.length = 2 then m_followers xs else fail) (aCons (eVar 3) (aCons (eVar 4) aNil))))) (sRet (eC (.bool false))) sNil)))))))))
  (sRet (eC (.bool true))))
def LawHolds : Prop := ∀ ns : List Int, ns.length ≤ 63 → ∃ rs', g_law (lawE 8) ⟨ns, 0, 3946, 0⟩ = some (.rt (.d (.bool true)), rs')
theorem ok_law {f : Addr} {fd : FuncData} (hlaw : LawHolds) (F : Fun K "law" "law" s_law f fd) (T : Txt mg) (C__law_taken : Cal P w K mg base "_law_taken" 1 ["_law_row", "_law_many"] 2 m__law_taken) (C__law_pairs : Cal P w K mg base "_law_pairs" 3 ["_law_row", "_law_many"] 2 m__law_pairs) (C_needed : Cal P w K mg base "needed" 4 ["many", "pairs"] 2 m_needed) (C_followers : Cal P w K mg base "followers" 4 ["many", "pairs"] 2 m_followers) : FnOk P w K mg base CX0 5 f fd ["_law_script"] (spLaw K) :=
  have sc := sc_law
  law_ok (k := 4) (g := g_law) (seed := 3946) F sc (by decide) rfl (fun cdv A outer s H E hr => ⟨ps_set (i := 1) sc.nd rfl (by first | exact Or.inl rfl | exact Or.inr rfl) (pe_lst (pa_cons (pv 0) (pa_cons pe_int (pa_cons pe_int (pa_cons pe_int pa_nil))))), _, fun R => (dss_cons (ds_for PassesOwn.never (by rfl) (di_range1 (by rfl) T.b_range de_int) (dg_name (i := 2) sc.nd (by rfl) (by first | exact Or.inl rfl | exact Or.inr rfl)) (dss_cons (ds_set (i := 3) sc.nd (by rfl) (by first | exact Or.inl rfl | exact Or.inr rfl) (de_op (r := (rAddA K)) op_addA rsem_add de_int (de_call C__law_taken hr (by decide) (by rfl) (da_cons (de_var 1) (da_cons de_int da_nil)))))
    (dss_cons (ds_set (i := 4) sc.nd (by rfl) (by first | exact Or.inl rfl | exact Or.inr rfl) (de_slice (de_call C__law_pairs hr (by decide) (by rfl) (da_cons (de_var 1) (da_cons (de_var 3) da_nil))) do_none (do_some de_int)))
    (dss_cons (ds_set (i := 4) sc.nd (by rfl) (by first | exact Or.inl rfl | exact Or.inr rfl) (de_op (r := (rAddA K)) op_addA rsem_add (de_var 4) (de_slice (de_var 4) do_none (do_some (de_call C__law_taken hr (by decide) (by rfl) (da_cons (de_var 1) (da_cons de_int da_nil)))))))
    (dss_cons (ds_set (i := 5) sc.nd (by rfl) (by first | exact Or.inl rfl | exact Or.inr rfl) (de_call C_needed hr (by decide) (by rfl) (da_cons (de_var 3) (da_cons (de_var 4) da_nil))))
    (dss_cons (ds_if (DW.dt (dw_or (dt_cmp (r := (rNeD K)) (op_neD (rm64 hr)) rsem_ne (de_callTy (r := (DV.rList K)) call_list_of csem_list (by rfl) T.b_list PyProof.Rows.boot_list (da_cons (de_var 5) da_nil)) (de_sortSetP (rm65 hr) (by rfl) (by rfl) T.b_sorted (by rfl) T.b_set (de_var 5)) (nomark _)) (dw_or (dt_cmp (r := (rNeD K)) (op_neD (rm64 hr)) rsem_ne (de_lc (own := [("_law_pair", 6)]) (g := (gName 6)) (tt := (tTest (tOp (rInA K true) (tVar 6) (tVar 4)))) (te := (tVar 6)) (by rfl) sc.nd (di_seq (src_v 5)) (blkOk_by (N := nm_law) (sc := defScope s_law) (by decide +kernel)) (by decide) (fun _ _ _ _ _ => (dg_name (i := 6) sc.nd (by rfl) (by first | exact Or.inl rfl | exact Or.inr rfl))) (fun _ _ _ _ _ => (dts_one (dt_cmp (r := (rInA K true)) (op_notInA (rm65 hr)) (rsem_in true) (de_var 6) (de_var 4) (by with_unfolding_all rfl)))) (fun _ _ _ _ _ => (de_var 6))) (de_lst da_nil) (nomark _)) (dw_or1 (dt_not (dt_val (de_isT .tuple (by rfl) T.b_isinstance (by rfl) T.b_tuple (by decide +kernel) (de_var 5)))))))) (dss_one (ds_ret de_bl)) dss_nil)
    (dss_cons (ds_if (dt_cmp (r := (rNeD K)) (op_neD (rm64 hr)) rsem_ne (de_call C_followers hr (by decide) (by rfl) (da_cons (de_var 3) (da_cons (de_var 5) da_nil))) (de_call C_followers hr (by decide) (by rfl) (da_cons (de_var 3) (da_cons (de_var 4) da_nil))) (nomark _)) (dss_one (ds_ret de_bl)) dss_nil)
    (dss_one (ds_for PassesOwn.never (by rfl) (di_range1 (by rfl) T.b_range (de_callB (r := (DV.rLen K)) call_len_seq csem_len (by rfl) T.b_len PySem.boot_len (da_cons (de_var 5) da_nil))) (dg_name (i := 7) sc.nd (by rfl) (by first | exact Or.inl rfl | exact Or.inr rfl)) (dss_one (ds_if (dt_cmp (r := (rEqD K)) (op_eqD (rm64 hr)) rsem_eq (de_call C_followers hr (by decide) (by rfl) (da_cons (de_var 3) (da_cons (de_op (r := (rAddA K)) op_addA rsem_add (de_slice (de_var 5) do_none (do_some (de_var 7))) (de_slice (de_var 5) (do_some (de_op (r := (rAddA K)) op_addA rsem_add (de_var 7) de_int)) do_none)) da_nil))) (de_call C_followers hr (by decide) (by rfl) (da_cons (de_var 3) (da_cons (de_var 4) da_nil))) (nomark _)) (dss_one (ds_ret de_bl)) dss_nil)))))))))))
    (dss_one (ds_ret de_bl)))⟩) hlaw
end
theorem all_mk {l : PySem.W.OpenLaw} {w : World} {K : PySem.W.Frag} {h : Heap} {mg : Str → Option Value} {fa f1 f2 f3 f4 f5 f6 f7 f8 f9 f10 f11 f12 f13 f14 : Addr} (hlaw : LawHolds) (X : K.In h) (G : h.Ns mainGlobals mg) (hfa : mg "law" = some (.ref fa))
    {od1 an1 od2 an2 od3 an3 od4 an4 od5 an5 od6 an6 od7 an7 od8 an8 od9 an9 od10 an10 od11 an11 od12 an12 od13 an13 od14 an14 : Option Addr} {sl1 sl2 sl3 sl4 sl5 sl6 sl7 sl8 sl9 sl10 sl11 sl12 sl13 sl14 : Array (Option Value)} {oc1 kV1 dc1 pm1 cd1 ct1 oc2 kV2 dc2 pm2 cd2 ct2 oc3 kV3 dc3 pm3 cd3 ct3 oc4 kV4 dc4 pm4 cd4 ct4 oc5 kV5 dc5 pm5 cd5 ct5 oc6 kV6 dc6 pm6 cd6 ct6 oc7 kV7 dc7 pm7 cd7 ct7 oc8 kV8 dc8 pm8 cd8 ct8 oc9 kV9 dc9 pm9 cd9 ct9 oc10 kV10 dc10 pm10 cd10 ct10 oc11 kV11 dc11 pm11 cd11 ct11 oc12 kV12 dc12 pm12 cd12 ct12 oc13 kV13 dc13 pm13 cd13 ct13 oc14 kV14 dc14 pm14 cd14 ct14 : Value}
    (a1 : PySem.W.nsIn K mainGlobals "_law_taken" = some (some (.ref f1))) (l1 : K.lookup f1 = some ⟨oc1, od1, .func (PySem.W.fnOf "_law_taken" "_law_taken" (defArgs s__law_taken) (defBody s__law_taken) (defScope s__law_taken) .none kV1 dc1 pm1 an1 cd1 ct1), sl1⟩) (c1 : PySem.W.codeIn K cd1 "_law_taken" = true) (k1 : PySem.W.keepIn K (.ref f1) = true)
    (a2 : PySem.W.nsIn K mainGlobals "_law_order" = some (some (.ref f2))) (l2 : K.lookup f2 = some ⟨oc2, od2, .func (PySem.W.fnOf "_law_order" "_law_order" (defArgs s__law_order) (defBody s__law_order) (defScope s__law_order) .none kV2 dc2 pm2 an2 cd2 ct2), sl2⟩) (c2 : PySem.W.codeIn K cd2 "_law_order" = true) (k2 : PySem.W.keepIn K (.ref f2) = true)
    (a3 : PySem.W.nsIn K mainGlobals "_law_pick" = some (some (.ref f3))) (l3 : K.lookup f3 = some ⟨oc3, od3, .func (PySem.W.fnOf "_law_pick" "_law_pick" (defArgs s__law_pick) (defBody s__law_pick) (defScope s__law_pick) .none kV3 dc3 pm3 an3 cd3 ct3), sl3⟩) (c3 : PySem.W.codeIn K cd3 "_law_pick" = true) (k3 : PySem.W.keepIn K (.ref f3) = true)
    (a4 : PySem.W.nsIn K mainGlobals "_law_pairs" = some (some (.ref f4))) (l4 : K.lookup f4 = some ⟨oc4, od4, .func (PySem.W.fnOf "_law_pairs" "_law_pairs" (defArgs s__law_pairs) (defBody s__law_pairs) (defScope s__law_pairs) .none kV4 dc4 pm4 an4 cd4 ct4), sl4⟩) (c4 : PySem.W.codeIn K cd4 "_law_pairs" = true) (k4 : PySem.W.keepIn K (.ref f4) = true)
    (a5 : PySem.W.nsIn K mainGlobals "able_jobs" = some (some (.ref f5))) (l5 : K.lookup f5 = some ⟨oc5, od5, .func (PySem.W.fnOf "able_jobs" "able_jobs" (defArgs s_able_jobs) (defBody s_able_jobs) (defScope s_able_jobs) .none kV5 dc5 pm5 an5 cd5 ct5), sl5⟩) (c5 : PySem.W.codeIn K cd5 "able_jobs" = true) (k5 : PySem.W.keepIn K (.ref f5) = true)
    (a6 : PySem.W.nsIn K mainGlobals "first_order" = some (some (.ref f6))) (l6 : K.lookup f6 = some ⟨oc6, od6, .func (PySem.W.fnOf "first_order" "first_order" (defArgs s_first_order) (defBody s_first_order) (defScope s_first_order) .none kV6 dc6 pm6 an6 cd6 ct6), sl6⟩) (c6 : PySem.W.codeIn K cd6 "first_order" = true) (k6 : PySem.W.keepIn K (.ref f6) = true)
    (a7 : PySem.W.nsIn K mainGlobals "closure" = some (some (.ref f7))) (l7 : K.lookup f7 = some ⟨oc7, od7, .func (PySem.W.fnOf "closure" "closure" (defArgs s_closure) (defBody s_closure) (defScope s_closure) .none kV7 dc7 pm7 an7 cd7 ct7), sl7⟩) (c7 : PySem.W.codeIn K cd7 "closure" = true) (k7 : PySem.W.keepIn K (.ref f7) = true)
    (a8 : PySem.W.nsIn K mainGlobals "is_integer" = some (some (.ref f8))) (l8 : K.lookup f8 = some ⟨oc8, od8, .func (PySem.W.fnOf "is_integer" "is_integer" (defArgs s_is_integer) (defBody s_is_integer) (defScope s_is_integer) .none kV8 dc8 pm8 an8 cd8 ct8), sl8⟩) (c8 : PySem.W.codeIn K cd8 "is_integer" = true) (k8 : PySem.W.keepIn K (.ref f8) = true)
    (a9 : PySem.W.nsIn K mainGlobals "is_in" = some (some (.ref f9))) (l9 : K.lookup f9 = some ⟨oc9, od9, .func (PySem.W.fnOf "is_in" "is_in" (defArgs s_is_in) (defBody s_is_in) (defScope s_is_in) .none kV9 dc9 pm9 an9 cd9 ct9), sl9⟩) (c9 : PySem.W.codeIn K cd9 "is_in" = true) (k9 : PySem.W.keepIn K (.ref f9) = true)
    (a10 : PySem.W.nsIn K mainGlobals "is_list" = some (some (.ref f10))) (l10 : K.lookup f10 = some ⟨oc10, od10, .func (PySem.W.fnOf "is_list" "is_list" (defArgs s_is_list) (defBody s_is_list) (defScope s_is_list) .none kV10 dc10 pm10 an10 cd10 ct10), sl10⟩) (c10 : PySem.W.codeIn K cd10 "is_list" = true) (k10 : PySem.W.keepIn K (.ref f10) = true)
    (a11 : PySem.W.nsIn K mainGlobals "need_pairs" = some (some (.ref f11))) (l11 : K.lookup f11 = some ⟨oc11, od11, .func (PySem.W.fnOf "need_pairs" "need_pairs" (defArgs s_need_pairs) (defBody s_need_pairs) (defScope s_need_pairs) .none kV11 dc11 pm11 an11 cd11 ct11), sl11⟩) (c11 : PySem.W.codeIn K cd11 "need_pairs" = true) (k11 : PySem.W.keepIn K (.ref f11) = true)
    (a12 : PySem.W.nsIn K mainGlobals "followers" = some (some (.ref f12))) (l12 : K.lookup f12 = some ⟨oc12, od12, .func (PySem.W.fnOf "followers" "followers" (defArgs s_followers) (defBody s_followers) (defScope s_followers) .none kV12 dc12 pm12 an12 cd12 ct12), sl12⟩) (c12 : PySem.W.codeIn K cd12 "followers" = true) (k12 : PySem.W.keepIn K (.ref f12) = true)
    (a13 : PySem.W.nsIn K mainGlobals "needed" = some (some (.ref f13))) (l13 : K.lookup f13 = some ⟨oc13, od13, .func (PySem.W.fnOf "needed" "needed" (defArgs s_needed) (defBody s_needed) (defScope s_needed) .none kV13 dc13 pm13 an13 cd13 ct13), sl13⟩) (c13 : PySem.W.codeIn K cd13 "needed" = true) (k13 : PySem.W.keepIn K (.ref f13) = true)
    (a14 : PySem.W.nsIn K mainGlobals "law" = some (some (.ref f14))) (l14 : K.lookup f14 = some ⟨oc14, od14, .func (PySem.W.fnOf "law" "law" (defArgs s_law) (defBody s_law) (defScope s_law) .none kV14 dc14 pm14 an14 cd14 ct14), sl14⟩) (c14 : PySem.W.codeIn K cd14 "law" = true) (k14 : PySem.W.keepIn K (.ref f14) = true)
    (z0 : PySem.W.nsIn K mainGlobals "all" = some none) (z1 : PySem.W.nsIn K mainGlobals "any" = some none) (z2 : PySem.W.nsIn K mainGlobals "bool" = some none) (z3 : PySem.W.nsIn K mainGlobals "enumerate" = some none) (z4 : PySem.W.nsIn K mainGlobals "int" = some none) (z5 : PySem.W.nsIn K mainGlobals "isinstance" = some none) (z6 : PySem.W.nsIn K mainGlobals "len" = some none) (z7 : PySem.W.nsIn K mainGlobals "list" = some none) (z8 : PySem.W.nsIn K mainGlobals "range" = some none) (z9 : PySem.W.nsIn K mainGlobals "reversed" = some none) (z10 : PySem.W.nsIn K mainGlobals "set" = some none) (z11 : PySem.W.nsIn K mainGlobals "sorted" = some none) (z12 : PySem.W.nsIn K mainGlobals "tuple" = some none)
    {tk0 : Tok} (y0 : PySem.W.nsIn K mainGlobals "MOST_PAIRS" = some (some (.int 40 tk0)))
    : ∃ fd : FuncData, (∀ (s : Shared) (v : Value), BindsTo s fd ⟨[v], []⟩ [("_law_script", v)]) ∧ ∀ base : Heap, K.In base → base.Ns mainGlobals mg → FnOk l.prog w K mg base CX0 5 fa fd ["_law_script"] (spLaw K) := by
  have e := hfa.symm.trans (PySem.W.mg_of X G a14)
  cases e
  have T : Txt mg := ⟨PySem.W.mg_none_of X G z0, PySem.W.mg_none_of X G z1, PySem.W.mg_none_of X G z2, PySem.W.mg_none_of X G z3, PySem.W.mg_none_of X G z4, PySem.W.mg_none_of X G z5, PySem.W.mg_none_of X G z6, PySem.W.mg_none_of X G z7, PySem.W.mg_none_of X G z8, PySem.W.mg_none_of X G z9, PySem.W.mg_none_of X G z10, PySem.W.mg_none_of X G z11, PySem.W.mg_none_of X G z12, ⟨_, PySem.W.mg_of X G y0⟩⟩
  have F1 := fun_mk (st := s__law_taken) l1 c1 k1
  have b1 := F1.binds (ps := ["_law_row", "_law_many"]) fun _ _ _ _ _ _ us hl => match us, hl with | [_, _], _ => rfl
  have F2 := fun_mk (st := s__law_order) l2 c2 k2
  have b2 := F2.binds (ps := ["_law_row", "_law_many"]) fun _ _ _ _ _ _ us hl => match us, hl with | [_, _], _ => rfl
  have F3 := fun_mk (st := s__law_pick) l3 c3 k3
  have b3 := F3.binds (ps := ["_law_row", "_law_things"]) fun _ _ _ _ _ _ us hl => match us, hl with | [_, _], _ => rfl
  have F4 := fun_mk (st := s__law_pairs) l4 c4 k4
  have b4 := F4.binds (ps := ["_law_row", "_law_many"]) fun _ _ _ _ _ _ us hl => match us, hl with | [_, _], _ => rfl
  have F5 := fun_mk (st := s_able_jobs) l5 c5 k5
  have b5 := F5.binds (ps := ["pairs", "done", "many"]) fun _ _ _ _ _ _ us hl => match us, hl with | [_, _, _], _ => rfl
  have F6 := fun_mk (st := s_first_order) l6 c6 k6
  have b6 := F6.binds (ps := ["pairs", "many"]) fun _ _ _ _ _ _ us hl => match us, hl with | [_, _], _ => rfl
  have F7 := fun_mk (st := s_closure) l7 c7 k7
  have b7 := F7.binds (ps := ["pairs", "many"]) fun _ _ _ _ _ _ us hl => match us, hl with | [_, _], _ => rfl
  have F8 := fun_mk (st := s_is_integer) l8 c8 k8
  have b8 := F8.binds (ps := ["value"]) fun _ _ _ _ _ _ us hl => match us, hl with | [_], _ => rfl
  have F9 := fun_mk (st := s_is_in) l9 c9 k9
  have b9 := F9.binds (ps := ["value", "least", "most"]) fun _ _ _ _ _ _ us hl => match us, hl with | [_, _, _], _ => rfl
  have F10 := fun_mk (st := s_is_list) l10 c10 k10
  have b10 := F10.binds (ps := ["value", "least", "most"]) fun _ _ _ _ _ _ us hl => match us, hl with | [_, _, _], _ => rfl
  have F11 := fun_mk (st := s_need_pairs) l11 c11 k11
  have b11 := F11.binds (ps := ["pairs", "many"]) fun _ _ _ _ _ _ us hl => match us, hl with | [_, _], _ => rfl
  have F12 := fun_mk (st := s_followers) l12 c12 k12
  have b12 := F12.binds (ps := ["many", "pairs"]) fun _ _ _ _ _ _ us hl => match us, hl with | [_, _], _ => rfl
  have F13 := fun_mk (st := s_needed) l13 c13 k13
  have b13 := F13.binds (ps := ["many", "pairs"]) fun _ _ _ _ _ _ us hl => match us, hl with | [_, _], _ => rfl
  have F14 := fun_mk (st := s_law) l14 c14 k14
  refine ⟨PySem.W.fnOf "law" "law" (defArgs s_law) (defBody s_law) (defScope s_law) .none kV14 dc14 pm14 an14 cd14 ct14, fun s v => .of_eq rfl, fun base _ _ => ?_⟩
  have C__law_taken : Cal l.prog w K mg base "_law_taken" 1 ["_law_row", "_law_many"] 2 m__law_taken := ⟨_, _, ok__law_taken F1 T , PySem.W.mg_of X G a1, k1, b1⟩
  have C__law_order : Cal l.prog w K mg base "_law_order" 2 ["_law_row", "_law_many"] 2 m__law_order := ⟨_, _, ok__law_order F2 T C__law_taken, PySem.W.mg_of X G a2, k2, b2⟩
  have C__law_pick : Cal l.prog w K mg base "_law_pick" 2 ["_law_row", "_law_things"] 2 m__law_pick := ⟨_, _, ok__law_pick F3 T C__law_taken, PySem.W.mg_of X G a3, k3, b3⟩
  have C__law_pairs : Cal l.prog w K mg base "_law_pairs" 3 ["_law_row", "_law_many"] 2 m__law_pairs := ⟨_, _, ok__law_pairs F4 T C__law_order C__law_pick C__law_taken, PySem.W.mg_of X G a4, k4, b4⟩
  have C_able_jobs : Cal l.prog w K mg base "able_jobs" 1 ["pairs", "done", "many"] 3 m_able_jobs := ⟨_, _, ok_able_jobs F5 T , PySem.W.mg_of X G a5, k5, b5⟩
  have C_first_order : Cal l.prog w K mg base "first_order" 2 ["pairs", "many"] 2 m_first_order := ⟨_, _, ok_first_order F6 T C_able_jobs, PySem.W.mg_of X G a6, k6, b6⟩
  have C_closure : CalM l.prog w K mg base "closure" 3 ["pairs", "many"] 2 m_closure := ⟨_, _, ok_closure F7 T C_first_order, PySem.W.mg_of X G a7, k7, b7⟩
  have C_is_integer : Cal l.prog w K mg base "is_integer" 1 ["value"] 1 m_is_integer := ⟨_, _, ok_is_integer F8 T , PySem.W.mg_of X G a8, k8, b8⟩
  have C_is_in : Cal l.prog w K mg base "is_in" 2 ["value", "least", "most"] 3 m_is_in := ⟨_, _, ok_is_in F9 T C_is_integer, PySem.W.mg_of X G a9, k9, b9⟩
  have C_is_list : Cal l.prog w K mg base "is_list" 1 ["value", "least", "most"] 3 m_is_list := ⟨_, _, ok_is_list F10 T , PySem.W.mg_of X G a10, k10, b10⟩
  have C_need_pairs : Cal l.prog w K mg base "need_pairs" 3 ["pairs", "many"] 2 m_need_pairs := ⟨_, _, ok_need_pairs F11 T C_is_list C_is_in C_first_order, PySem.W.mg_of X G a11, k11, b11⟩
  have C_followers : Cal l.prog w K mg base "followers" 4 ["many", "pairs"] 2 m_followers := ⟨_, _, ok_followers F12 T C_is_in C_need_pairs C_closure, PySem.W.mg_of X G a12, k12, b12⟩
  have C_needed : Cal l.prog w K mg base "needed" 4 ["many", "pairs"] 2 m_needed := ⟨_, _, ok_needed F13 T C_is_in C_need_pairs C_closure, PySem.W.mg_of X G a13, k13, b13⟩
  exact ok_law hlaw F14 T C__law_taken C__law_pairs C_needed C_followers
end Lk46

namespace DV
open PySem L2
def Gives {α : Type} (m : M α) (P : α → Prop) : Prop := ∀ rs, ∃ a rs', m rs = some (a, rs') ∧ P a
section
variable {α β : Type} {m : M α} {f : α → M β} {P Q : α → Prop} {P' : β → Prop} {a : α}
theorem Gives.ret (h : P a) : Gives (ret a) P := fun rs => ⟨a, rs, rfl, h⟩
theorem Gives.bnd (h : Gives m P) (k : ∀ a, P a → Gives (f a) P') : Gives (bnd m f) P' := fun rs => by
  obtain ⟨a, rs1, e, h1⟩ := h rs
  obtain ⟨b, rs2, e2, h2⟩ := k a h1 rs1
  exact ⟨b, rs2, by unfold DV.bnd; rw [e]; exact e2, h2⟩
theorem Gives.mono (h : Gives m P) (k : ∀ a, P a → Q a) : Gives m Q := fun rs => by
  obtain ⟨a, rs1, e, h1⟩ := h rs
  exact ⟨a, rs1, e, k a h1⟩
theorem Gives.eq {m' : M α} (e : m = m') (h : Gives m' P) : Gives m P := by rw [e]; exact h
theorem bnd_ret (a : α) (f : α → M β) : bnd (ret a) f = f a := rfl
theorem lft_s (a : α) : lft (some a) = ret a := rfl
theorem bnd_bnd {γ : Type} (m : M α) (f : α → M β) (g : β → M γ) : bnd (bnd m f) g = bnd m fun a => bnd (f a) g := by
  funext rs
  unfold bnd
  cases m rs with
  | none => rfl
  | some p => rfl
theorem Gives.loop {tg : D → Env → Option Env} {body : Env → M Out} {Q : Out → Prop} : ∀ (its : List D) (I : List D → Env → Prop) (ρ : Env), I its ρ →
    (∀ x xs ρ, I (x :: xs) ρ → ∃ ρ1, tg x ρ = some ρ1 ∧ Gives (body ρ1) fun o => match o with
      | .nx ρ2 => I xs ρ2
      | .ct ρ2 => I xs ρ2
      | .bk ρ2 => Q (.nx ρ2)
      | .rt r => Q (.rt r)) → (∀ ρ, I [] ρ → Q (.nx ρ)) → Gives (loopF tg body its ρ) Q
  | [], I, ρ, h, _, hd => Gives.ret (hd ρ h)
  | x :: xs, I, ρ, h, hs, hd => by
    obtain ⟨ρ1, e1, g1⟩ := hs x xs ρ h
    unfold loopF
    rw [e1, lft_s, bnd_ret]
    refine Gives.bnd g1 fun o ho => ?_
    cases o with
    | nx ρ2 => exact Gives.loop xs I ρ2 ho hs hd
    | ct ρ2 => exact Gives.loop xs I ρ2 ho hs hd
    | bk ρ2 => exact Gives.ret ho
    | rt r => exact Gives.ret ho
theorem Gives.while {t : Env → M Bool} {body : Env → M Out} {Q : Out → Prop} (I : Nat → Env → Prop)
    (hs : ∀ k ρ, I k ρ → ∃ b : Bool, t ρ = DV.ret b ∧ (b = false → Q (.nx ρ)) ∧ (b = true → ∃ j, k = j + 1 ∧ Gives (body ρ) fun o => match o with
      | .nx ρ2 => I j ρ2
      | .ct ρ2 => I j ρ2
      | .bk ρ2 => Q (.nx ρ2)
      | .rt r => Q (.rt r))) : ∀ (k n : Nat) (ρ : Env), k < n → I k ρ → Gives (wloopF t body n ρ) Q
  | k, 0, _, hn, _ => absurd hn (Nat.not_lt_zero _)
  | k, n + 1, ρ, hn, h => by
    obtain ⟨b, e, h1, h2⟩ := hs k ρ h
    unfold wloopF
    rw [e, bnd_ret]
    cases b with
    | false => exact Gives.ret (h1 rfl)
    | true =>
      obtain ⟨j, rfl, g⟩ := h2 rfl
      rw [if_pos rfl]
      refine Gives.bnd g fun o ho => ?_
      cases o with
      | nx ρ2 => exact Gives.while I hs j n ρ2 (by omega) ho
      | ct ρ2 => exact Gives.while I hs j n ρ2 (by omega) ho
      | bk ρ2 => exact Gives.ret ho
      | rt r => exact Gives.ret ho
/-- a comprehension of plain functions -/
theorem lc_eq {tg : D → Env → Option Env} {t : Env → M Bool} {el : Env → M RV} {ρ : Env} (p : D → Bool) (f : D → D) : ∀ (its : List D), (∀ x ∈ its, ∃ ρ1, tg x ρ = some ρ1 ∧ t ρ1 = DV.ret (p x) ∧ (p x = true → ∃ r, el ρ1 = DV.ret r ∧ toD r = some (f x))) →
    lcF tg t el ρ its = DV.ret ((its.filter p).map f)
  | [], _ => rfl
  | x :: xs, h => by
    obtain ⟨ρ1, e1, e2, e3⟩ := h x List.mem_cons_self
    unfold lcF
    rw [e1, lft_s, bnd_ret, e2, bnd_ret, lc_eq p f xs fun y hy => h y (List.mem_cons_of_mem _ hy)]
    cases hp : p x with
    | false =>
      rw [if_neg (by decide), List.filter_cons_of_neg (by rw [hp]; decide)]
    | true =>
      obtain ⟨r, er, ed⟩ := e3 hp
      rw [if_pos rfl, List.filter_cons_of_pos hp, er, bnd_ret, ed, lft_s, bnd_ret, bnd_ret]
      rfl
end
section
variable {ρ ρ' : Env} {rs rs' rs1 rs2 : RS} {x y z : RV} {f h : Env → M RV} {g k : Env → M Out}
theorem e2_at {gg : RV → RV → Option RV} (h1 : f ρ rs = some (x, rs1)) (h2 : h ρ rs1 = some (y, rs2)) (h3 : gg x y = some z) : e2 gg f h ρ rs = some (z, rs2) := by
  unfold e2 bnd
  simp only [h1, h2, h3]
  rfl
theorem sSeq_at (h1 : g ρ rs = some (.nx ρ', rs')) : sSeq g k ρ rs = k ρ' rs' := by
  unfold sSeq bnd
  simp only [h1]
theorem sSeq_rt (h1 : g ρ rs = some (.rt x, rs')) : sSeq g k ρ rs = some (.rt x, rs') := by
  unfold sSeq bnd
  simp only [h1]
  rfl
theorem sIf_at {t : Env → M Bool} {b : Bool} (h1 : t ρ rs = some (b, rs')) : sIf t g k ρ rs = if b = true then g ρ rs' else k ρ rs' := by
  unfold sIf bnd
  simp only [h1]
  split <;> rfl
theorem sSet_at {i : Nat} {sv : SV} (h1 : f ρ rs = some (x, rs')) (h2 : toS x = some sv) : sSet i f ρ rs = some (.nx (ρ.set i (some sv)), rs') := by
  unfold sSet bnd
  simp only [h1, h2]
  rfl
theorem sRet_at (h1 : f ρ rs = some (x, rs')) (h2 : toRet x = some y) : sRet f ρ rs = some (.rt y, rs') := by
  unfold sRet bnd
  simp only [h1, h2]
  rfl
theorem sRowPut_at {i j : Nat} {v : Int} (h1 : f ρ rs = some (.d (.int v), rs1)) (h2 : vget ρ i = some .row) (h3 : rowPut j v rs1 = some rs2) : sRowPut i j f ρ rs = some (.nx ρ, rs2) := by
  unfold sRowPut bnd
  simp only [h1, h2]
  show (match rowPut j v rs1 with | some rs' => some (Out.nx ρ, rs') | none => none) = _
  rw [h3]
theorem gMod_eq {i j : Int} (h : 0 < j) : gMod (.d (.int i)) (.d (.int j)) = some (.d (.int (i % j))) := by
  show (if cPos i j = true then some (RV.d (.int (i % j))) else none) = _
  rw [if_pos (show cPos i j = true from decide_eq_true h)]
theorem gFdiv_eq {i j : Int} (h : 0 < j) (h1 : j < 1073741824) : gFdiv (.d (.int i)) (.d (.int j)) = some (.d (.int (i / j))) := by
  show (if cDiv i j = true then some (RV.d (.int (i / j))) else none) = _
  rw [if_pos (by simp [cDiv, h, h1])]
theorem gMulI_eq {i j : Int} (h : cMul i j = true) : gMulA (.d (.int i)) (.d (.int j)) = some (.d (.int (i * j))) := by
  show (if cMul i j = true then some (RV.d (.int (i * j))) else none) = _
  rw [if_pos h]
theorem cMul_r {i j : Int} (h1 : -18446744073709551616 < j) (h2 : j < 18446744073709551616) : cMul i j = true := by
  unfold cMul
  simp [h1, h2]
theorem cMul_l {i j : Int} (h1 : -18446744073709551616 < i) (h2 : i < 18446744073709551616) : cMul i j = true := by
  unfold cMul
  simp [h1, h2]
end
end DV
namespace DVL
open PySem L2 DV
theorem taken_at (many : Int) (h0 : 0 < many) (h1 : many < 1073741824) (rs : RS) : ∃ rs' x, g__law_taken [some .row, some (.d (.int many)), none, none] rs = some (.rt (.d (.int (x % many))), rs') := by
  obtain ⟨ns, i, s, c⟩ := rs
  unfold g__law_taken
  by_cases hc : 0 < c
  · refine ⟨⟨ns, i, s, c / many⟩, c, ?_⟩
    refine sSeq_rt ?_
    rw [sIf_at (b := decide (0 < c)) (rs' := ⟨ns, i, s, c⟩) rfl, if_pos (decide_eq_true hc)]
    rw [sSeq_at (sSet_at (e2_at (gg := gMod) (x := .d (.int c)) (y := .d (.int many)) rfl rfl (gMod_eq h0)) rfl)]
    rw [sSeq_at (sRowPut_at (rs2 := ⟨ns, i, s, c / many⟩) (e2_at (gg := gFdiv) (x := .d (.int c)) (y := .d (.int many)) rfl rfl (gFdiv_eq h0 h1)) rfl rfl)]
    rfl
  · have p7 : (0 : Int) < 2147483647 := by decide
    have hn : sIf (eT (e2 gGt (eRow 0 3) (eC (.int 0)))) (sSeq (sSet 2 (e2 gMod (eCall gInt (aCons (eRow 0 3) aNil)) (eVar 1))) (sSeq (sRowPut 0 3 (e2 gFdiv (eRow 0 3) (eVar 1))) (sRetV 2))) sNil [some .row, some (.d (.int many)), none, none] ⟨ns, i, s, c⟩ = some (.nx [some .row, some (.d (.int many)), none, none], ⟨ns, i, s, c⟩) := by
      rw [sIf_at (b := decide (0 < c)) (rs' := ⟨ns, i, s, c⟩) rfl, if_neg (by simpa using hc)]
      rfl
    rw [sSeq_at hn]
    have hi : rowPut 1 ((i : Int) + 1) ⟨ns, i, s, c⟩ = some ⟨ns, i + 1, s, c⟩ := by
      show (if 0 ≤ (i : Int) + 1 then some (⟨ns, ((i : Int) + 1).toNat, s, c⟩ : RS) else none) = _
      rw [if_pos (by omega)]
      have : ((i : Int) + 1).toNat = i + 1 := by omega
      rw [this]
    rw [sSeq_at (sRowPut_at (rs2 := ⟨ns, i + 1, s, c⟩) (v := (i : Int) + 1) rfl rfl hi)]
    have hlen : (ns.map PyData.int).length = ns.length := List.length_map ..
    by_cases hl : (((ns.map PyData.int).length : Nat) : Int) < ((i + 1 : Nat) : Int)
    · refine ⟨⟨ns, i + 1, (s * 48271 + 11) % 2147483647, c⟩, (s * 48271 + 11) % 2147483647 / 7, ?_⟩
      refine sSeq_rt ?_
      rw [sIf_at (b := decide ((((ns.map PyData.int).length : Nat) : Int) < ((i + 1 : Nat) : Int))) (rs' := ⟨ns, i + 1, s, c⟩) rfl, if_pos (decide_eq_true hl)]
      rw [sSeq_at (sRowPut_at (rs2 := ⟨ns, i + 1, (s * 48271 + 11) % 2147483647, c⟩) (v := (s * 48271 + 11) % 2147483647) (e2_at (gg := gMod) (x := .d (.int (s * 48271 + 11))) (y := .d (.int 2147483647)) (by
        show DV.bnd (DV.bnd (e2 gAddA (e2 gMulA (eRow 0 2) (eC (.int 48271))) (eC (.int 11)) _) _) _ _ = _
        unfold DV.bnd
        rw [e2_at (gg := gAddA) (x := .d (.int (s * 48271))) (y := .d (.int 11)) (z := .d (.int (s * 48271 + 11))) (e2_at (gg := gMulA) (x := .d (.int s)) (y := .d (.int 48271)) rfl rfl (gMulI_eq (cMul_r (by decide) (by decide)))) rfl rfl]
        rfl) rfl (gMod_eq p7)) rfl rfl)]
      refine sRet_at (e2_at (gg := gMod) (x := .d (.int ((s * 48271 + 11) % 2147483647 / 7))) (y := .d (.int many)) (by
        show DV.bnd (DV.bnd (e2 gFdiv (eRow 0 2) (eC (.int 7)) _) _) _ _ = _
        unfold DV.bnd
        rw [e2_at (gg := gFdiv) (x := .d (.int ((s * 48271 + 11) % 2147483647))) (y := .d (.int 7)) rfl rfl (gFdiv_eq (by decide) (by decide))]
        rfl) rfl (gMod_eq h0)) rfl
    · have hlt : i < ns.length := by omega
      have hg : (ns.map PyData.int)[i]? = some (.int ns[i]) := by
        rw [List.getElem?_map, List.getElem?_eq_getElem hlt]
        rfl
      have hnn : sIf (eT (e2 gGt (eRow 0 1) (eCall gLen (aCons (eRow 0 0) aNil)))) (sSeq (sRowPut 0 2 (e2 gMod (eCall gInt (aCons (e2 gAddA (e2 gMulA (eRow 0 2) (eC (.int 48271))) (eC (.int 11))) aNil)) (eC (.int 2147483647)))) (sRet (e2 gMod (eCall gInt (aCons (e2 gFdiv (eRow 0 2) (eC (.int 7))) aNil)) (eVar 1)))) sNil [some .row, some (.d (.int many)), none, none] ⟨ns, i + 1, s, c⟩ = some (.nx [some .row, some (.d (.int many)), none, none], ⟨ns, i + 1, s, c⟩) := by
        rw [sIf_at (b := decide ((((ns.map PyData.int).length : Nat) : Int) < ((i + 1 : Nat) : Int))) (rs' := ⟨ns, i + 1, s, c⟩) rfl, if_neg (by simpa using hl)]
        rfl
      rw [sSeq_at hnn]
      have hix : gIx (.d (.list (ns.map PyData.int))) (.d (.int (((i + 1 : Nat) : Int) - 1))) = some (.d (.int ns[i])) := by
        show (atI (ns.map PyData.int) (((i + 1 : Nat) : Int) - 1)).map RV.d = _
        have e1 : (((i + 1 : Nat) : Int) - 1) = (i : Int) := by omega
        rw [e1, atI_nat hg]
        rfl
      rw [sSeq_at (sSet_at (sv := .d (.int ns[i])) (e2_at (gg := gIx) (x := .d (.list (ns.map PyData.int))) (y := .d (.int (((i + 1 : Nat) : Int) - 1))) rfl rfl hix) rfl)]
      rw [sSeq_at (sRowPut_at (rs2 := ⟨ns, i + 1, (s * 48271 + ns[i] + 11) % 2147483647, c⟩) (v := (s * 48271 + ns[i] + 11) % 2147483647) (e2_at (gg := gMod) (x := .d (.int (s * 48271 + ns[i] + 11))) (y := .d (.int 2147483647)) (by
        show DV.bnd (DV.bnd (e2 gAddA (e2 gAddA (e2 gMulA (eRow 0 2) (eC (.int 48271))) (eVar 3)) (eC (.int 11)) _) _) _ _ = _
        unfold DV.bnd
        rw [e2_at (gg := gAddA) (x := .d (.int (s * 48271 + ns[i]))) (y := .d (.int 11)) (z := .d (.int (s * 48271 + ns[i] + 11))) (e2_at (gg := gAddA) (x := .d (.int (s * 48271))) (y := .d (.int ns[i])) (e2_at (gg := gMulA) (x := .d (.int s)) (y := .d (.int 48271)) rfl rfl (gMulI_eq (cMul_r (by decide) (by decide)))) rfl rfl) rfl rfl]
        rfl) rfl (gMod_eq p7)) rfl rfl)]
      have hp : e2 gPow (eC (.int 10)) (eC (.int 18)) [some .row, some (.d (.int many)), none, some (SV.d (.int ns[i]))] ⟨ns, i + 1, (s * 48271 + ns[i] + 11) % 2147483647, c⟩ = some (.d (.int (1000000000000000000 : Int)), ⟨ns, i + 1, (s * 48271 + ns[i] + 11) % 2147483647, c⟩) := by
        refine e2_at rfl rfl ?_
        show (if cPow 10 18 = true then some (RV.d (.int ((10 : Int) ^ (18 : Int).toNat))) else none) = _
        rw [if_pos (by decide +kernel)]
        rfl
      have fin : ∀ c', sRet (e2 gMod (eCall gInt (aCons (eVar 3) aNil)) (eVar 1)) [some .row, some (.d (.int many)), none, some (SV.d (.int ns[i]))] ⟨ns, i + 1, (s * 48271 + ns[i] + 11) % 2147483647, c'⟩ = some (.rt (.d (.int (ns[i] % many))), ⟨ns, i + 1, (s * 48271 + ns[i] + 11) % 2147483647, c'⟩) := fun c' =>
        sRet_at (e2_at (gg := gMod) (x := .d (.int ns[i])) (y := .d (.int many)) rfl rfl (gMod_eq h0)) rfl
      have hge : (eT (e2 gGe (eVar 3) (e2 gPow (eC (.int 10)) (eC (.int 18))))) [some .row, some (.d (.int many)), none, some (SV.d (.int ns[i]))] ⟨ns, i + 1, (s * 48271 + ns[i] + 11) % 2147483647, c⟩ = some (decide ((1000000000000000000 : Int) ≤ ns[i]), ⟨ns, i + 1, (s * 48271 + ns[i] + 11) % 2147483647, c⟩) := by
        unfold eT
        unfold DV.bnd
        rw [e2_at (gg := gGe) (x := .d (.int ns[i])) rfl hp rfl]
        rfl
      by_cases hb : (1000000000000000000 : Int) ≤ ns[i]
      · refine ⟨⟨ns, i + 1, (s * 48271 + ns[i] + 11) % 2147483647, ns[i] / many⟩, ns[i], ?_⟩
        rw [sSeq_at (rs' := ⟨ns, i + 1, (s * 48271 + ns[i] + 11) % 2147483647, ns[i] / many⟩) (by
          show sIf _ _ _ [some .row, some (.d (.int many)), none, some (SV.d (.int ns[i]))] _ = _
          rw [sIf_at hge, if_pos (decide_eq_true hb)]
          exact sRowPut_at (e2_at (gg := gFdiv) (x := .d (.int ns[i])) (y := .d (.int many)) rfl rfl (gFdiv_eq h0 h1)) rfl rfl)]
        exact fin _
      · refine ⟨⟨ns, i + 1, (s * 48271 + ns[i] + 11) % 2147483647, c⟩, ns[i], ?_⟩
        rw [sSeq_at (rs' := ⟨ns, i + 1, (s * 48271 + ns[i] + 11) % 2147483647, c⟩) (by
          show sIf _ _ _ [some .row, some (.d (.int many)), none, some (SV.d (.int ns[i]))] _ = _
          rw [sIf_at hge, if_neg (by simpa using hb)]
          rfl)]
        exact fin _
theorem taken_eq (many : Int) (h0 : 0 < many) (h1 : many < 1073741824) : Gives (m__law_taken [.row, .d (.int many)]) fun r => ∃ i : Int, r = .d (.int i) ∧ 0 ≤ i ∧ i < many := by
  intro rs
  obtain ⟨rs', x, e⟩ := taken_at many h0 h1 rs
  refine ⟨_, rs', ?_, _, rfl, Int.emod_nonneg x (by omega), Int.emod_lt_of_pos x h0⟩
  show DV.bnd (g__law_taken [some .row, some (.d (.int many)), none, none]) _ rs = _
  unfold DV.bnd
  rw [e]
  rfl
end DVL
namespace DV
open PySem L2
section
variable {α : Type} {ρ : Env} {P : RV → Prop} {Q : Out → Prop} {PA : List RV → Prop} {PB : Bool → Prop} {f h k : Env → M RV} {fa : Env → M (List RV)} {g g2 : Env → M Out} {t t2 : Env → M Bool} {x : RV}
theorem gv_eq {m : M α} {P : α → Prop} {a : α} (e : m = ret a) (p : P a) : Gives m P := by rw [e]; exact Gives.ret p
theorem gv_var {i : Nat} (e : vget ρ i = some x) (p : P x) : Gives (eVar i ρ) P := gv_eq (by unfold eVar; rw [e]; rfl) p
theorem gv_e2 {gg : RV → RV → Option RV} (p : Gives (f ρ) fun x => Gives (h ρ) fun y => ∃ z, gg x y = some z ∧ P z) : Gives (e2 gg f h ρ) P :=
  Gives.bnd p fun x q => Gives.bnd q fun y ⟨z, e, pz⟩ => by rw [e, lft_s]; exact Gives.ret pz
theorem gv_nil (p : PA []) : Gives (aNil ρ) PA := Gives.ret p
theorem gv_cons (p : Gives (f ρ) fun x => Gives (fa ρ) fun xs => PA (x :: xs)) : Gives (aCons f fa ρ) PA := Gives.bnd p fun x q => Gives.bnd q fun xs r => Gives.ret r
theorem gv_star (p : Gives (f ρ) fun x => ∃ ds, items x = some ds ∧ Gives (fa ρ) fun xs => PA (ds.map RV.d ++ xs)) : Gives (aStar f fa ρ) PA :=
  Gives.bnd p fun x ⟨ds, e, q⟩ => by rw [e, lft_s, bnd_ret]; exact Gives.bnd q fun xs r => Gives.ret r
theorem gv_call {gg : List RV → Option RV} (p : Gives (fa ρ) fun xs => ∃ z, gg xs = some z ∧ P z) : Gives (eCall gg fa ρ) P := Gives.bnd p fun xs ⟨z, e, pz⟩ => by rw [e, lft_s]; exact Gives.ret pz
theorem gv_fn {m : List RV → M RV} {n : Nat} (p : Gives (fa ρ) fun xs => xs.length = n ∧ Gives (m (xs.map readable)) P) : Gives (eFn (fun xs => if xs.length = n then m xs else fail) fa ρ) P :=
  Gives.bnd p fun xs ⟨e, q⟩ => by
    show Gives (if (xs.map readable).length = n then m (xs.map readable) else fail) P
    rw [if_pos (by rw [List.length_map]; exact e)]
    exact q
theorem gv_tup (p : Gives (fa ρ) fun xs => ∃ ds, toDs xs = some ds ∧ ds.length ≤ 100000 ∧ P (.d (.tuple ds))) : Gives (eTup fa ρ) P :=
  Gives.bnd p fun xs ⟨ds, e, hl, q⟩ => by rw [e, lft_s, bnd_ret, if_pos hl]; exact Gives.ret q
theorem gv_lst (p : Gives (fa ρ) fun xs => ∃ ds, toDs xs = some ds ∧ ds.length ≤ 100000 ∧ P (.n ds)) : Gives (eLst fa ρ) P :=
  Gives.bnd p fun xs ⟨ds, e, hl, q⟩ => by rw [e, lft_s, bnd_ret, if_pos hl]; exact Gives.ret q
theorem gv_neg (p : Gives (f ρ) fun x => ∃ i, asInt x = some i ∧ P (.d (.int (-i)))) : Gives (eNeg f ρ) P := Gives.bnd p fun x ⟨i, e, q⟩ => by rw [e, lft_s, bnd_ret]; exact Gives.ret q
theorem gv_ifB (p : Gives (f ρ) fun x => ∃ b, asBool x = some b ∧ (b = true → Gives (h ρ) P) ∧ (b = false → Gives (k ρ) P)) : Gives (eIfB f h k ρ) P :=
  Gives.bnd p fun x ⟨b, e, q1, q2⟩ => by
    rw [e, lft_s, bnd_ret]
    cases b with
    | true => rw [if_pos rfl]; exact q1 rfl
    | false => rw [if_neg (by decide)]; exact q2 rfl
theorem gv_ifE (p : Gives (t ρ) fun b => (b = true → Gives (h ρ) P) ∧ (b = false → Gives (k ρ) P)) : Gives (eIf t h k ρ) P :=
  Gives.bnd p fun b ⟨q1, q2⟩ => by
    cases b with
    | true => rw [if_pos rfl]; exact q1 rfl
    | false => rw [if_neg (by decide)]; exact q2 rfl
theorem gv_notB (p : Gives (f ρ) fun x => ∃ b, asBool x = some b ∧ P (.d (.bool (!b)))) : Gives (eNotB f ρ) P := Gives.bnd p fun x ⟨b, e, q⟩ => by rw [e, lft_s, bnd_ret]; exact Gives.ret q
theorem gv_ch {gg g' : RV → RV → Option RV} (p : Gives (f ρ) fun x => Gives (h ρ) fun y => ∃ b, gg x y = some (.d (.bool b)) ∧ (b = true → Gives (k ρ) fun w => ∃ z, g' y w = some z ∧ P z) ∧ (b = false → P (.d (.bool false)))) : Gives (eCh gg g' f h k ρ) P :=
  Gives.bnd p fun x q => Gives.bnd q fun y ⟨b, e, q1, q2⟩ => by
    rw [e, lft_s, bnd_ret]
    show Gives (bnd (lft (some b)) _) P
    rw [lft_s, bnd_ret]
    cases b with
    | true => rw [if_pos rfl]; exact Gives.bnd (q1 rfl) fun w ⟨z, e, pz⟩ => by rw [e, lft_s]; exact Gives.ret pz
    | false => rw [if_neg (by decide)]; exact Gives.ret (q2 rfl)
theorem gv_T (p : Gives (f ρ) fun x => ∃ b, asBool x = some b ∧ PB b) : Gives (eT f ρ) PB := Gives.bnd p fun x ⟨b, e, q⟩ => by rw [e, lft_s]; exact Gives.ret q
theorem gv_not (p : Gives (t ρ) fun b => PB (!b)) : Gives (tNotF t ρ) PB := Gives.bnd p fun b q => Gives.ret q
theorem gv_and (p : Gives (t ρ) fun b => (b = true → Gives (t2 ρ) PB) ∧ (b = false → PB false)) : Gives (tIfT t t2 (tRetB false) ρ) PB := Gives.bnd p fun b ⟨q1, q2⟩ => by
  cases b with
  | true => rw [if_pos rfl]; exact q1 rfl
  | false => rw [if_neg (by decide)]; exact Gives.ret (q2 rfl)
theorem gv_or (p : Gives (t ρ) fun b => (b = true → PB true) ∧ (b = false → Gives (t2 ρ) PB)) : Gives (tIfT t (tRetB true) t2 ρ) PB := Gives.bnd p fun b ⟨q1, q2⟩ => by
  cases b with
  | true => rw [if_pos rfl]; exact Gives.ret (q1 rfl)
  | false => rw [if_neg (by decide)]; exact q2 rfl
theorem gv_seq (p : Gives (g ρ) fun o => match o with | .nx ρ' => Gives (g2 ρ') Q | o => Q o) : Gives (sSeq g g2 ρ) Q := Gives.bnd p fun o q => by
  cases o with
  | nx ρ' => exact q
  | rt r => exact Gives.ret q
  | bk r => exact Gives.ret q
  | ct r => exact Gives.ret q
theorem gv_nop (p : Q (.nx ρ)) : Gives (sNil ρ) Q := Gives.ret p
theorem gv_set {i : Nat} (p : Gives (f ρ) fun x => ∃ sv, toS x = some sv ∧ Q (.nx (ρ.set i (some sv)))) : Gives (sSet i f ρ) Q := Gives.bnd p fun x ⟨sv, e, q⟩ => by rw [e, lft_s, bnd_ret]; exact Gives.ret q
theorem gv_rt (p : Gives (f ρ) fun x => ∃ y, toRet x = some y ∧ Q (.rt y)) : Gives (sRet f ρ) Q := Gives.bnd p fun x ⟨y, e, q⟩ => by rw [e, lft_s, bnd_ret]; exact Gives.ret q
theorem gv_rtV {i : Nat} {y : RV} (e : vown ρ i = some y) (q : Q (.rt y)) : Gives (sRetV i ρ) Q := gv_eq (by unfold sRetV; rw [e]; rfl) q
theorem gv_if (p : Gives (t ρ) fun b => (b = true → Gives (g ρ) Q) ∧ (b = false → Gives (g2 ρ) Q)) : Gives (sIf t g g2 ρ) Q := Gives.bnd p fun b ⟨q1, q2⟩ => by
  cases b with
  | true => rw [if_pos rfl]; exact q1 rfl
  | false => rw [if_neg (by decide)]; exact q2 rfl
theorem gv_drop (p : Gives (f ρ) fun _ => Q (.nx ρ)) : Gives (sDrop f ρ) Q := Gives.bnd p fun _ q => Gives.ret q
theorem gv_par {i j : Nat} (p : Gives (fa ρ) fun xs => ∃ x y sx sy, xs = [x, y] ∧ toS x = some sx ∧ toS y = some sy ∧ Q (.nx ((ρ.set i (some sx)).set j (some sy)))) : Gives (sPar i j fa ρ) Q := Gives.bnd p fun xs ⟨x, y, sx, sy, e, e1, e2, q⟩ => by
  subst e
  show Gives (bnd (lft (toS x)) _) Q
  rw [e1, lft_s, bnd_ret, e2, lft_s, bnd_ret]
  exact Gives.ret q
theorem gv_par3 {i j l : Nat} (p : Gives (fa ρ) fun xs => ∃ x y z sx sy sz, xs = [x, y, z] ∧ toS x = some sx ∧ toS y = some sy ∧ toS z = some sz ∧ Q (.nx (((ρ.set i (some sx)).set j (some sy)).set l (some sz)))) : Gives (sPar3 i j l fa ρ) Q := Gives.bnd p fun xs ⟨x, y, z, sx, sy, sz, e, e1, e2, e3, q⟩ => by
  subst e
  show Gives (bnd (lft (toS x)) _) Q
  rw [e1, lft_s, bnd_ret, e2, lft_s, bnd_ret, e3, lft_s, bnd_ret]
  exact Gives.ret q
theorem gv_stup {hh : D → Env → Option Env} (p : Gives (f ρ) fun x => ∃ d ρ', x = .d d ∧ hh d ρ = some ρ' ∧ Q (.nx ρ')) : Gives (sTup f hh ρ) Q := Gives.bnd p fun x ⟨d, ρ', e, e1, q⟩ => by
  subst e
  show Gives (bnd (lft (hh d ρ)) _) Q
  rw [e1, lft_s, bnd_ret]
  exact Gives.ret q
theorem gv_aug {i : Nat} {kf : Int → Int → Int} {y : RV} {a : Int} (e1 : vget ρ i = some y) (e2 : asInt y = some a) (p : Gives (f ρ) fun x => ∃ b, asInt x = some b ∧ Q (.nx (ρ.set i (some (.d (.int (kf a b))))))) : Gives (sAug i kf f ρ) Q := by
  unfold sAug
  rw [e1, lft_s, bnd_ret, e2, lft_s, bnd_ret]
  exact Gives.bnd p fun x ⟨b, e, q⟩ => by rw [e, lft_s, bnd_ret]; exact Gives.ret q
theorem gv_app {i : Nat} {ds : List D} (e1 : sApp.own? ρ i = some ds) (hl : ds.length < 100000) (p : Gives (f ρ) fun x => ∃ d, toD x = some d ∧ Q (.nx (ρ.set i (some (.o (ds ++ [d])))))) : Gives (sApp i f ρ) Q := by
  unfold sApp
  rw [e1, lft_s, bnd_ret]
  exact Gives.bnd p fun x ⟨d, e, q⟩ => by rw [e, lft_s, bnd_ret, if_pos hl]; exact Gives.ret q
theorem gv_popApp {i j : Nat} {ds es : List D} (e1 : sApp.own? ρ i = some ds) (e2 : sApp.own? ρ j = some es) (hl : ds.length < 100000 ∧ i ≠ j)
    (p : Gives (f ρ) fun x => ∃ n kk y, asInt x = some n ∧ popIx es n = some (kk, y) ∧ Q (.nx ((ρ.set j (some (.o (es.eraseIdx kk)))).set i (some (.o (ds ++ [y])))))) : Gives (sPopApp i j f ρ) Q := by
  unfold sPopApp
  rw [e1, lft_s, bnd_ret, e2, lft_s, bnd_ret]
  exact Gives.bnd p fun x ⟨n, kk, y, e, e3, q⟩ => by rw [e, lft_s, bnd_ret, e3, lft_s, bnd_ret, if_pos hl]; exact Gives.ret q
theorem gv_for {fi : Env → M (List D × Option Nat)} {tg : D → Env → Option Env} {its : List D} {lk : Option Nat} (e : fi ρ = ret (its, lk)) (p : Gives (loopF tg g its (lockE ρ lk)) fun o => Q (unlockO ρ lk o)) : Gives (sFor fi tg g ρ) Q := by
  unfold sFor
  rw [e, bnd_ret]
  exact Gives.bnd p fun o q => Gives.ret q
theorem gv_lc {fi : Env → M (List D × Option Nat)} {vs : List Nat} {tg : D → Env → Option Env} {its : List D} {lk : Option Nat} (e : fi ρ = ret (its, lk)) (hl : its.length ≤ 100000) (p : Gives (lcF tg t h (wipeE ρ vs) its) fun ds => P (.n ds)) : Gives (eLc fi vs tg t h ρ) P := by
  unfold eLc
  rw [e, bnd_ret]
  refine Gives.bnd p fun ds q => ?_
  show Gives (if its.length ≤ 100000 then ret (.n ds) else fail) P
  rw [if_pos hl]
  exact Gives.ret q
theorem gv_run {n : Nat} {xs : List RV} (p : Gives (g (startE n xs)) fun o => match o with | .nx _ => P (.d .none) | .rt r => P r | _ => False) : Gives (runDef n g xs) P := Gives.bnd p fun o q => by
  cases o with
  | nx ρ' => exact Gives.ret q
  | rt r => exact Gives.ret q
  | bk r => exact q.elim
  | ct r => exact q.elim
end
theorem gv_isT {T : TyT} {ρ : Env} {f : Env → M RV} {P : RV → Prop} (p : Gives (f ρ) fun x => ∃ d, viewD x = some d ∧ P (.d (.bool (isT T d)))) : Gives (eIsT T f ρ) P := Gives.bnd p fun x ⟨d, e, q⟩ => by rw [e, lft_s, bnd_ret]; exact Gives.ret q
theorem Gives.wh {t : Env → M Bool} {body : Env → M Out} {Q : Out → Prop} (I : Nat → Env → Prop)
    (hs : ∀ k ρ, I k ρ → Gives (t ρ) fun b => (b = false → Q (.nx ρ)) ∧ (b = true → ∃ j, k = j + 1 ∧ Gives (body ρ) fun o => match o with
      | .nx ρ2 => I j ρ2
      | .ct ρ2 => I j ρ2
      | .bk ρ2 => Q (.nx ρ2)
      | .rt r => Q (.rt r))) : ∀ (k n : Nat) (ρ : Env), k < n → I k ρ → Gives (wloopF t body n ρ) Q
  | k, 0, _, hn, _ => absurd hn (Nat.not_lt_zero _)
  | k, n + 1, ρ, hn, h => by
    unfold wloopF
    refine Gives.bnd (hs k ρ h) fun b ⟨h1, h2⟩ => ?_
    cases b with
    | false => exact Gives.ret (h1 rfl)
    | true =>
      obtain ⟨j, rfl, g⟩ := h2 rfl
      rw [if_pos rfl]
      refine Gives.bnd g fun o ho => ?_
      cases o with
      | nx ρ2 => exact Gives.wh I hs j n ρ2 (by omega) ho
      | ct ρ2 => exact Gives.wh I hs j n ρ2 (by omega) ho
      | bk ρ2 => exact Gives.ret ho
      | rt r => exact Gives.ret ho
/-- a tuple of ints -/
abbrev ti (ns : List Int) : D := .tuple (ns.map PyData.int)
end DV
namespace DVL
open PySem L2 DV
theorem pick_gives (ds : List D) (h0 : 0 < ds.length) (h1 : ds.length ≤ 1000) : Gives (m__law_pick [.row, .b ds]) fun r => ∃ d, d ∈ ds ∧ r = .d d := by
  refine gv_run (gv_rt (gv_e2 (gv_var rfl (gv_fn (gv_cons (gv_var rfl (gv_cons (gv_call (gv_cons (gv_var rfl (gv_nil ⟨_, rfl, gv_nil ⟨rfl, ?_⟩⟩)))))))))))
  refine (taken_eq (ds.length : Nat) (by omega) (by omega)).mono fun r ⟨i, e, h2, h3⟩ => ?_
  subst e
  have hi : i.toNat < ds.length := by omega
  have e1 : atI ds i = some ds[i.toNat] := by
    have := atI_nat (xs := ds) (j := i.toNat) (List.getElem?_eq_getElem hi)
    rwa [Int.toNat_of_nonneg h2] at this
  refine ⟨.d ds[i.toNat], ?_, _, rfl, _, List.getElem_mem hi, rfl⟩
  show (atI ds i).map RV.d = _
  rw [e1]
  rfl
end DVL

namespace DVL
open PySem L2 DV
def rngI (lo : Int) : Nat → List Int
  | 0 => []
  | n + 1 => lo :: rngI (lo + 1) n
theorem rngI_len : ∀ (lo : Int) (n : Nat), (rngI lo n).length = n
  | _, 0 => rfl
  | lo, n + 1 => congrArg (· + 1) (rngI_len (lo + 1) n)
theorem rngD_eq : ∀ (lo : Int) (n : Nat), rngD lo n = (rngI lo n).map PyData.int
  | _, 0 => rfl
  | lo, n + 1 => by
    show PyData.int lo :: rngD (lo + 1) n = PyData.int lo :: (rngI (lo + 1) n).map PyData.int
    rw [rngD_eq]
theorem mem_rngI (k : Int) : ∀ (lo : Int) (n : Nat), k ∈ rngI lo n ↔ lo ≤ k ∧ k < lo + n
  | lo, 0 => by
    simp [rngI]
    try omega
  | lo, n + 1 => by
    rw [rngI, List.mem_cons, mem_rngI k (lo + 1) n]
    omega
theorem rngI_nodup : ∀ (lo : Int) (n : Nat), (rngI lo n).Nodup
  | _, 0 => .nil
  | lo, n + 1 => List.nodup_cons.mpr ⟨fun h => by
      have := ((mem_rngI lo (lo + 1) n).mp h).1
      omega, rngI_nodup (lo + 1) n⟩
theorem rng1_eq {f : DV.Env → M RV} {ρ : DV.Env} {n : Int} (e : f ρ = ret (.d (.int n))) (h1 : n ≤ 100000) (h2 : -100000 ≤ n) : iRng1F f ρ = ret ((rngI 0 n.toNat).map PyData.int, none) := by
  unfold iRng1F
  rw [e, bnd_ret]
  show bnd (lft (some n)) _ = _
  rw [lft_s, bnd_ret, if_pos ⟨h1, h2⟩, rngD_eq]
theorem var_eq {ρ : DV.Env} {i : Nat} {x : RV} (e : vget ρ i = some x) : eVar i ρ = ret x := by unfold eVar; rw [e]; rfl
theorem eqv_int (a b : Int) : PyData.eqv (.int a) (.int b) = decide (a = b) := by
  simp [PyData.eqv]
  by_cases h : a = b <;> simp [h]
theorem intsOf_map (js : List Int) : intsOf (js.map PyData.int) = some js := ints_map js
theorem gSum_eq (js : List Int) : gSum [.d (ti js)] = some (.d (.int js.sum)) := by
  show (intsOf (js.map PyData.int)).map _ = _
  rw [intsOf_map]
  rfl
theorem sum_le (b : Int) : ∀ ts : List Int, (∀ t ∈ ts, t ≤ b) → ts.sum ≤ b * ts.length
  | [], _ => by simp
  | t :: ts, h => by
    have h1 := h t List.mem_cons_self
    have h2 := sum_le b ts fun x hx => h x (List.mem_cons_of_mem _ hx)
    rw [List.sum_cons, List.length_cons]
    have : b * ((ts.length + 1 : Nat) : Int) = b * ts.length + b := by
      rw [Int.natCast_add, Int.mul_add]; simp
    omega
end DVL

namespace DVL
open PySem L2 DV
theorem map_eraseIdx {α β : Type} (f : α → β) : ∀ (l : List α) (k : Nat), (l.map f).eraseIdx k = (l.eraseIdx k).map f
  | [], k => by simp
  | x :: l, 0 => rfl
  | x :: l, k + 1 => congrArg (f x :: ·) (map_eraseIdx f l k)
theorem eraseIdx_perm {α : Type} : ∀ (l : List α) (k : Nat) (h : k < l.length), (l[k] :: l.eraseIdx k).Perm l
  | x :: l, 0, _ => .refl _
  | x :: l, k + 1, h => (List.Perm.swap x (l[k]'(by simpa using h)) (l.eraseIdx k)).trans ((eraseIdx_perm l k (by simpa using h)).cons x)
theorem popIx_eq {L : List Int} {i : Int} (h0 : 0 ≤ i) (h1 : i < L.length) (hl : L.length ≤ 1000) : popIx (L.map PyData.int) i = some (i.toNat, .int (L[i.toNat]'(by omega))) := by
  unfold popIx
  rw [if_pos ⟨by omega, by omega⟩]
  have e : seqIndex? i (L.map PyData.int).length = some i.toNat := by
    unfold seqIndex?
    rw [List.length_map]
    have h2 : ¬ i < 0 := by omega
    simp [h2, h0, h1]
  rw [e]
  show ((L.map PyData.int)[i.toNat]?).map _ = _
  rw [List.getElem?_map, List.getElem?_eq_getElem (by omega)]
  rfl
theorem order_gives (n : Nat) (hn : n ≤ 1000) : DV.Gives (m__law_order [.row, .d (.int (n : Int))]) fun r => ∃ p : List Int, r = .d (ti p) ∧ p.Perm (rngI 0 n) := by
  refine gv_run (gv_seq (gv_par (gv_cons (f := eListRg (rg1F (eVar 1))) ?_)))
  have e0 : eListRg (rg1F (eVar 1)) (startE 5 [RV.row, RV.d (.int (n : Int))]) = DV.ret (RV.n ((rngI 0 n).map PyData.int)) := by
    show bnd (bnd (DV.ret (RV.d (.int (n : Int)))) _) _ = _
    rw [bnd_ret]
    show bnd (bnd (lft (some (n : Int))) _) _ = _
    rw [lft_s, bnd_ret, bnd_ret, if_pos (by unfold okRg; simp; omega)]
    have e1 : ((n : Int) - 0).toNat = n := by omega
    show DV.ret (RV.n (rngD 0 ((n : Int) - 0).toNat)) = _
    rw [e1, rngD_eq]
  refine gv_eq e0 (gv_cons (gv_lst (gv_nil ⟨[], rfl, by simp, gv_nil ⟨_, _, _, _, rfl, rfl, rfl, ?_⟩⟩)))
  refine gv_seq (gv_for (its := (rngI 0 n).map PyData.int) (lk := none) (by
    have := rng1_eq (f := eVar 1) (ρ := ((startE 5 [RV.row, RV.d (.int (n : Int))]).set 2 (some (.o ((rngI 0 n).map PyData.int)))).set 3 (some (.o []))) (n := (n : Int)) (var_eq rfl) (by omega) (by omega)
    rwa [Int.toNat_natCast] at this) ?_)
  refine DV.Gives.loop _ (fun xs ρ => ∃ (L Fd : List Int) (y : Option SV), ρ = [some .row, some (.d (.int (n : Int))), some (.o (L.map PyData.int)), some (.o (Fd.map PyData.int)), y] ∧ (Fd ++ L).Perm (rngI 0 n) ∧ xs.length = L.length) _ ⟨rngI 0 n, [], none, rfl, .refl _, by rw [List.length_map]⟩ ?_ ?_
  · rintro x xs ρ ⟨L, Fd, y, rfl, hp, hl⟩
    refine ⟨_, rfl, ?_⟩
    have hlen := hp.length_eq
    rw [List.length_append, rngI_len] at hlen
    rw [List.length_cons] at hl
    refine gv_popApp (ds := Fd.map PyData.int) (es := L.map PyData.int) rfl rfl ⟨by rw [List.length_map]; omega, by decide⟩ ?_
    refine gv_fn (gv_cons (gv_var rfl (gv_cons (gv_call (gv_cons (gv_var rfl (gv_nil ⟨_, rfl, gv_nil ⟨rfl, ?_⟩⟩)))))))
    refine (taken_eq ((L.map PyData.int).length : Nat) (by rw [List.length_map]; omega) (by rw [List.length_map]; omega)).mono fun r ⟨i, e, i0, i1⟩ => ?_
    subst e
    rw [List.length_map] at i1
    refine ⟨i, i.toNat, _, rfl, popIx_eq i0 i1 (by omega), ?_⟩
    refine ⟨L.eraseIdx i.toNat, Fd ++ [L[i.toNat]'(by omega)], some (.d x), ?_, ?_, ?_⟩
    · rw [← map_eraseIdx, List.map_append]
      rfl
    · rw [List.append_assoc]
      exact (List.Perm.append_left Fd (eraseIdx_perm L i.toNat (by omega))).trans hp
    · rw [List.length_eraseIdx_of_lt (by omega)]
      omega
  · rintro ρ ⟨L, Fd, y, rfl, hp, hl⟩
    have hL : L = [] := List.eq_nil_of_length_eq_zero hl.symm
    subst hL
    rw [List.append_nil] at hp
    refine gv_rt (gv_call (gv_cons (gv_var rfl (gv_nil ⟨_, rfl, _, rfl, Fd, rfl, hp⟩))))
theorem is_integer_i (i : Int) : m_is_integer [.d (.int i)] = ret (.d (.bool true)) := rfl
theorem is_in_ok {i a b : Int} (h1 : a ≤ i) (h2 : i ≤ b) : m_is_in [.d (.int i), .d (.int a), .d (.int b)] = ret (.d (.bool true)) := by
  simp [m_is_in, runDef, g_is_in, sRet, eIfB, eFn, aCons, aNil, eVar, bnd_bnd, bnd_ret, lft_s, startE, toK, vget, readable, is_integer_i, asBool, eCh, gLe, gI, asInt, h1, h2, toRet]
theorem is_list_ok {ds : List D} {a b : Int} (h1 : a ≤ ds.length) (h2 : (ds.length : Int) ≤ b) : m_is_list [.d (.tuple ds), .d (.int a), .d (.int b)] = ret (.d (.bool true)) := by
  simp [m_is_list, runDef, g_is_list, sRet, eIfB, eCall, aCons, aNil, eVar, eIsT, viewD, isT, bnd_bnd, bnd_ret, lft_s, startE, toK, vget, readable, asBool, eCh, gLe, gI, asInt, gLen, DV.c1, items, h1, h2, toRet]
theorem all_true : ∀ n : Nat, (List.replicate n true).all id = true
  | 0 => rfl
  | n + 1 => all_true n
theorem bools_true {α : Type} : ∀ xs : List α, boolsOf (xs.map fun _ => PyData.bool true) = some (List.replicate xs.length true)
  | [] => rfl
  | x :: xs => by
    show (match boolsOf (xs.map fun _ => PyData.bool true) with | some js => some (true :: js) | none => none) = _
    rw [bools_true xs]
    rfl
theorem order_len {p : List Int} {n : Nat} (h : p.Perm (rngI 0 n)) : p.length = n := by rw [h.length_eq, rngI_len]
theorem order_mem {p : List Int} {n : Nat} (h : p.Perm (rngI 0 n)) {k : Int} (hk : k ∈ p) : 0 ≤ k ∧ k < n := by
  have := (mem_rngI k 0 n).mp (h.mem_iff.mp hk)
  omega
theorem order_nodup {p : List Int} {n : Nat} (h : p.Perm (rngI 0 n)) : p.Nodup := h.nodup_iff.mpr (rngI_nodup 0 n)
theorem is_order_ok (p : List Int) (n : Nat) (hn : n ≤ 1000) (h : p.Perm (rngI 0 n)) : DV.Gives (m_is_order [.d (ti p), .d (.int (n : Nat))]) fun r => r = .d (.bool true) := by
  have hl := order_len h
  refine gv_run (gv_rt (gv_ifB (gv_fn (gv_cons (gv_var rfl (gv_cons (gv_var rfl (gv_cons (gv_var rfl (gv_nil ⟨rfl, ?_⟩))))))))))
  refine gv_eq (is_list_ok (by rw [List.length_map]; omega) (by rw [List.length_map]; omega)) ⟨true, rfl, fun _ => ?_, (fun q => nomatch q)⟩
  refine gv_ifB (gv_call (gv_cons (gv_lc (its := p.map PyData.int) (lk := none) rfl (by rw [List.length_map]; omega) ?_)))
  rw [lc_eq (fun _ => true) (fun _ => .bool true)]
  · refine DV.Gives.ret (gv_nil ⟨.d (.bool true), ?_, true, rfl, fun _ => ?_, (fun q => nomatch q)⟩)
    · rw [List.filter_eq_self.mpr (fun _ _ => rfl), List.map_map]
      show (boolsOf (p.map fun _ => PyData.bool true)).map _ = _
      rw [bools_true]
      show some (RV.d (.bool ((List.replicate p.length true).all id))) = _
      rw [all_true]
    · refine gv_e2 (f := eLenSet (eVar 0)) (gv_eq (a := .d (.int (n : Nat))) ?_ (gv_var rfl ⟨_, rfl, _, rfl, ?_⟩))
      · show bnd (lft (lenSetOf (.d (ti p)))) _ = _
        have : lenSetOf (.d (ti p)) = some (.int (n : Nat)) := by
          show (match intsOf (p.map PyData.int) with | some js => if js.length ≤ 1000 then some (PyData.int ((ddI js).length : Nat)) else none | none => none) = _
          rw [intsOf_map]
          show (if p.length ≤ 1000 then _ else _) = _
          rw [if_pos (by omega), ddI_of_nodup p (order_nodup h), hl]
        rw [this]
        rfl
      · show RV.d (.bool (PyData.eqv (.int (n : Int)) (.int (n : Int)))) = _
        rw [eqv_int]
        simp
  · intro x hx
    obtain ⟨k, hk, rfl⟩ := List.mem_map.mp hx
    have := order_mem h hk
    refine ⟨_, rfl, rfl, fun _ => ⟨.d (.bool true), ?_, rfl⟩⟩
    show m_is_in [.d (.int k), .d (.int 0), .d (.int ((n : Int) - 1))] = _
    exact is_in_ok (by omega) (by omega)
theorem need_order_ok (p : List Int) (n : Nat) (hn : n ≤ 1000) (h : p.Perm (rngI 0 n)) : DV.Gives (m_need_order [.d (ti p), .d (.int (n : Nat))]) fun r => r = .d .none := by
  refine gv_run (gv_if (gv_not (gv_T (gv_fn (gv_cons (gv_var rfl (gv_cons (gv_var rfl (gv_nil ⟨rfl, ?_⟩)))))))))
  refine (is_order_ok p n hn h).mono fun r e => ?_
  subst e
  exact ⟨true, rfl, (fun q => nomatch q), fun _ => gv_nop rfl⟩
end DVL

namespace DVL
open PySem L2 DV
def ext (n : Nat) (ps : List (List Int)) : List (List Int) := ps.flatMap fun p => ((rngI 0 n).filter fun j => !p.elem j).map fun j => p ++ [j]
theorem nodup_perm : ∀ {p q : List Int}, p.Nodup → (∀ x ∈ p, x ∈ q) → q.length ≤ p.length → p.Perm q
  | [], q, _, _, hl => by
    have : q = [] := List.eq_nil_of_length_eq_zero (Nat.le_zero.mp hl)
    rw [this]
  | x :: p, q, nd, hs, hl => by
    obtain ⟨h1, h2⟩ := List.nodup_cons.mp nd
    have hx := hs x List.mem_cons_self
    have e := List.perm_cons_erase hx
    refine ((nodup_perm h2 (fun y hy => ?_) ?_).cons x).trans e.symm
    · have hy2 := hs y (List.mem_cons_of_mem _ hy)
      rcases List.mem_cons.mp (e.mem_iff.mp hy2) with z | z
      · exact absurd (z ▸ hy) h1
      · exact z
    · have := e.length_eq
      rw [List.length_cons] at this hl
      omega
theorem canLay_ints : ∀ js : List Int, PyData.canLayAll0 (js.map PyData.int) = true
  | [] => by simp [PyData.canLayAll0]
  | j :: js => by
    rw [List.map_cons, PyData.canLayAll0, canLay_ints js]
    simp [PyData.canLay0]
theorem depth_ints : ∀ js : List Int, PyData.depthAll (js.map PyData.int) = 0
  | [] => by simp [PyData.depthAll]
  | j :: js => by
    rw [List.map_cons, PyData.depthAll, depth_ints js]
    simp [PyData.depth]
theorem shaped_ints (js : List Int) : SeqAt.shaped (.list (js.map PyData.int)) = true := by
  unfold SeqAt.shaped
  rw [PyData.canLay0, canLay_ints, PyData.depth, depth_ints]
  rfl
theorem shaped_intsT (js : List Int) : SeqAt.shaped (ti js) = true := by
  unfold SeqAt.shaped ti
  rw [PyData.canLay0, canLay_ints, PyData.depth, depth_ints]
  rfl
theorem shaped_int (j : Int) : SeqAt.shaped (.int j) = true := by
  unfold SeqAt.shaped
  rw [PyData.canLay0, PyData.depth]
  rfl
theorem any_eqv (j : Int) : ∀ p : List Int, ((p.map PyData.int).any fun z => PyData.eqv z (.int j)) = p.elem j
  | [] => rfl
  | x :: p => by
    rw [List.map_cons, List.any_cons, any_eqv j p, eqv_int]
    by_cases h : x = j
    · subst h; simp
    · have h2 : ¬ j = x := fun e => h e.symm
      simp [h, h2]
theorem notIn_eq (j : Int) (p : List Int) : gNotIn (.d (.int j)) (.d (ti p)) = some (.d (.bool (!p.elem j))) := by
  show (if SeqAt.shaped (.int j) = true then if SeqAt.shaped (.list (p.map PyData.int)) = true then some (RV.d (.bool (!((p.map PyData.int).any fun z => PyData.eqv z (.int j))))) else none else none) = _
  rw [if_pos (shaped_int j), if_pos (shaped_ints p), any_eqv]
theorem eqv_intsA : ∀ xs ys : List Int, PyData.eqvAll (xs.map PyData.int) (ys.map PyData.int) = decide (xs = ys)
  | [], [] => by simp [PyData.eqvAll]
  | [], y :: ys => by simp [PyData.eqvAll]
  | x :: xs, [] => by simp [PyData.eqvAll]
  | x :: xs, y :: ys => by
    rw [List.map_cons, List.map_cons, PyData.eqvAll, eqv_intsA xs ys, eqv_int]
    by_cases h : x = y <;> by_cases h2 : xs = ys <;> simp [h, h2]
theorem eq_lists (neg : Bool) (xs ys : List Int) : gEqB neg (.n (xs.map PyData.int)) (.n (ys.map PyData.int)) = some (.d (.bool (if neg then !decide (xs = ys) else decide (xs = ys)))) := by
  show (if SeqAt.shaped (.list (xs.map PyData.int)) = true then if SeqAt.shaped (.list (ys.map PyData.int)) = true then some (RV.d (.bool (if neg then !PyData.eqv (.list (xs.map PyData.int)) (.list (ys.map PyData.int)) else PyData.eqv (.list (xs.map PyData.int)) (.list (ys.map PyData.int))))) else none else none) = _
  rw [if_pos (shaped_ints _), if_pos (shaped_ints _), PyData.eqv, eqv_intsA]
theorem eq_ints (neg : Bool) (x y : Int) : gEqB neg (.d (.int x)) (.d (.int y)) = some (.d (.bool (if neg then !decide (x = y) else decide (x = y)))) := by
  show (if SeqAt.shaped (.int x) = true then if SeqAt.shaped (.int y) = true then some (RV.d (.bool (if neg then !PyData.eqv (.int x) (.int y) else PyData.eqv (.int x) (.int y)))) else none else none) = _
  rw [if_pos (shaped_int _), if_pos (shaped_int _), eqv_int]
end DVL

namespace DVL
open PySem L2 DV
def val (ts : List Int) (j : Int) : Int := ts.getD j.toNat 0
theorem ix_map {ts : List Int} {j : Int} (h0 : 0 ≤ j) (h1 : j < ts.length) : atI (ts.map PyData.int) j = some (.int (val ts j)) := by
  have hl : j.toNat < ts.length := by omega
  have e : (ts.map PyData.int)[j.toNat]? = some (.int (val ts j)) := by
    rw [List.getElem?_map, List.getElem?_eq_getElem hl]
    unfold val
    rw [List.getD_eq_getElem?_getD, List.getElem?_eq_getElem hl]
    rfl
  have := atI_nat e
  rwa [Int.toNat_of_nonneg h0] at this
theorem gIx_ti {ts : List Int} {j : Int} (h0 : 0 ≤ j) (h1 : j < ts.length) : gIx (.d (ti ts)) (.d (.int j)) = some (.d (.int (val ts j))) := by
  show (atI (ts.map PyData.int) j).map RV.d = _
  rw [ix_map h0 h1]
  rfl
theorem gIx_b {ts : List Int} {j : Int} (h0 : 0 ≤ j) (h1 : j < ts.length) : gIx (.b (ts.map PyData.int)) (.d (.int j)) = some (.d (.int (val ts j))) := by
  show (atI (ts.map PyData.int) j).map RV.d = _
  rw [ix_map h0 h1]
  rfl
theorem val_mem {ts : List Int} {j : Int} (h0 : 0 ≤ j) (h1 : j < ts.length) : val ts j ∈ ts := by
  have hl : j.toNat < ts.length := by omega
  unfold val
  rw [List.getD_eq_getElem?_getD, List.getElem?_eq_getElem hl]
  exact List.getElem_mem hl
end DVL

namespace DVL
open PySem L2 DV
def fitI : List (Int × Int) → Int → Int → Int
  | [], d, _ => d
  | (b, e) :: r, d, t => if b < d + t ∧ d < e then fitI r e t else fitI r d t
/-- the day behind the order, the sum of ends times weights -/
def fin (ss : List (Int × Int)) (ts : List Int) (d : Int) (p : List Int) : Int := p.foldl (fun d j => fitI ss d (val ts j) + val ts j) d
end DVL

namespace DVL
open PySem L2 DV
abbrev pr (p : Int × Int) : D := .tuple [.int p.1, .int p.2]
abbrev sts (ss : List (Int × Int)) : D := .tuple (ss.map pr)
end DVL

namespace DVL
open PySem L2 DV
/-- times as they are drawn -/
structure Tm (ts : List Int) : Prop where
  pos : 1 ≤ ts.length
  len : ts.length ≤ 10
  tim : ∀ t ∈ ts, 1 ≤ t ∧ t ≤ 60
theorem Tm.t {ts : List Int} (W : Tm ts) {j : Int} (h0 : 0 ≤ j) (h1 : j < ts.length) : 1 ≤ val ts j ∧ val ts j ≤ 60 := W.tim _ (val_mem h0 h1)
theorem ixN_nat {n : Nat} {j : Int} (h0 : 0 ≤ j) (h1 : j < n) : ixN n j = some j.toNat := by
  unfold ixN
  rw [if_pos h0, if_pos h1]
theorem gv_put {i : Nat} {f g : DV.Env → M RV} {ρ : DV.Env} {Q : Out → Prop} {ds : List D} (e1 : sApp.own? ρ i = some ds) (p : DV.Gives (f ρ) fun x => DV.Gives (g ρ) fun y => ∃ j d m, asInt y = some j ∧ toD x = some d ∧ ixN ds.length j = some m ∧ Q (.nx (ρ.set i (some (.o (ds.set m d)))))) : DV.Gives (sPut i f g ρ) Q := by
  unfold sPut
  refine DV.Gives.bnd p fun x q => ?_
  rw [e1, lft_s, bnd_ret]
  refine DV.Gives.bnd q fun y ⟨j, d, m, a1, a2, a3, q⟩ => ?_
  rw [a1, lft_s, bnd_ret, a2, lft_s, bnd_ret, a3, lft_s, bnd_ret]
  exact DV.Gives.ret q
theorem atI_pr (ss : List (Int × Int)) {k : Nat} (hk : k < ss.length) : atI (ss.map pr) (k : Int) = some (pr ss[k]) := by
  refine atI_nat ?_
  rw [List.getElem?_map, List.getElem?_eq_getElem hk]
  rfl
end DVL



namespace DVL
open PySem L2 DV
theorem gv_lcG {t : DV.Env → M Bool} {h : DV.Env → M RV} {ρ : DV.Env} {P : RV → Prop} {fi : DV.Env → M (List D × Option Nat)} {vs : List Nat} {tg : D → DV.Env → Option DV.Env} (p : DV.Gives (fi ρ) fun q => q.1.length ≤ 100000 ∧ DV.Gives (lcF tg t h (wipeE ρ vs) q.1) fun ds => P (.n ds)) : DV.Gives (eLc fi vs tg t h ρ) P := by
  unfold eLc
  refine DV.Gives.bnd p fun q ⟨hl, g⟩ => DV.Gives.bnd g fun ds hp => ?_
  show DV.Gives (if q.1.length ≤ 100000 then DV.ret (RV.n ds) else DV.fail) P
  rw [if_pos hl]
  exact DV.Gives.ret hp
theorem gv_srcE {f : DV.Env → M RV} {ρ : DV.Env} {P : List D × Option Nat → Prop} (p : DV.Gives (f ρ) fun x => ∃ ds, srcOf x = some ds ∧ P (ds, none)) : DV.Gives (srcE f ρ) P :=
  DV.Gives.bnd p fun x ⟨ds, e, q⟩ => by rw [e, lft_s, bnd_ret]; exact DV.Gives.ret q
theorem gv_forG {fi : DV.Env → M (List D × Option Nat)} {tg : D → DV.Env → Option DV.Env} {g : DV.Env → M Out} {ρ : DV.Env} {Q : Out → Prop} (p : DV.Gives (fi ρ) fun q => DV.Gives (loopF tg g q.1 (lockE ρ q.2)) fun o => Q (unlockO ρ q.2 o)) : DV.Gives (sFor fi tg g ρ) Q := by
  unfold sFor
  exact DV.Gives.bnd p fun q h => DV.Gives.bnd h fun o r => DV.Gives.ret r
end DVL


namespace DVL
open PySem L2 DV
theorem rng_get : ∀ (n : Nat) (lo : Int) (i : Nat), i < n → (rngI lo n)[i]? = some (lo + i)
  | 0, _, _, h => absurd h (Nat.not_lt_zero _)
  | n + 1, lo, 0, _ => by simp [rngI]
  | n + 1, lo, i + 1, h => by
    show (rngI (lo + 1) n)[i]? = _
    rw [rng_get n (lo + 1) i (by omega)]
    congr 1
    omega
/-- a walk over a range: the next one -/
theorem rng_step {j : Int} {rest : List Int} {u n : Nat} (h : j :: rest = rngI (u : Int) (n - u)) : j = (u : Int) ∧ u < n ∧ rest = rngI ((u + 1 : Nat) : Int) (n - (u + 1)) := by
  obtain ⟨w, hw⟩ : ∃ w, n - u = w + 1 := by
    cases e : n - u with
    | zero => rw [e] at h; cases h
    | succ w => exact ⟨w, rfl⟩
  rw [hw] at h
  obtain ⟨e1, e2⟩ := List.cons.inj (show j :: rest = (u : Int) :: rngI ((u : Int) + 1) w from h)
  exact ⟨e1, by omega, by rw [e2, show n - (u + 1) = w by omega]; rfl⟩
theorem rng_end {u n : Nat} (h : [] = rngI (u : Int) (n - u)) (hu : u ≤ n) : u = n := by
  have := congrArg List.length h
  rw [rngI_len] at this
  have h0 : 0 = n - u := this
  omega
theorem val_get {L : List Int} {i : Nat} (h : i < L.length) : val L (i : Int) = L[i] := by
  unfold val
  rw [List.getD_eq_getElem?_getD, Int.toNat_natCast, List.getElem?_eq_getElem h]
  rfl
end DVL

namespace DV
open PySem L2
def KSeq (g2 : Env → M Out) (Q : Out → Prop) : Out → Prop := fun o => match o with
  | .nx ρ' => Gives (g2 ρ') Q
  | o => Q o
def KRun (P : RV → Prop) : Out → Prop := fun o => match o with
  | .nx _ => P (.d .none)
  | .rt r => P r
  | _ => False
def KLoop (J : Env → Prop) (Q : Out → Prop) : Out → Prop := fun o => match o with
  | .nx ρ2 => J ρ2
  | .ct ρ2 => J ρ2
  | .bk ρ2 => Q (.nx ρ2)
  | .rt r => Q (.rt r)
def KTg (o : Option Env) (C : Env → Prop) : Prop := ∃ ρ1, o = some ρ1 ∧ C ρ1
def KSet (i : Nat) (ρ : Env) (Q : Out → Prop) (x : RV) : Prop := ∃ sv, toS x = some sv ∧ Q (.nx (ρ.set i (some sv)))
def KPar (i j : Nat) (ρ : Env) (Q : Out → Prop) (xs : List RV) : Prop := ∃ x y sx sy, xs = [x, y] ∧ toS x = some sx ∧ toS y = some sy ∧ Q (.nx ((ρ.set i (some sx)).set j (some sy)))
def KPar3 (i j l : Nat) (ρ : Env) (Q : Out → Prop) (xs : List RV) : Prop := ∃ x y z sx sy sz, xs = [x, y, z] ∧ toS x = some sx ∧ toS y = some sy ∧ toS z = some sz ∧ Q (.nx (((ρ.set i (some sx)).set j (some sy)).set l (some sz)))
def KPar4 (i j l m : Nat) (ρ : Env) (Q : Out → Prop) (xs : List RV) : Prop := ∃ x y z w sx sy sz sw, xs = [x, y, z, w] ∧ toS x = some sx ∧ toS y = some sy ∧ toS z = some sz ∧ toS w = some sw ∧ Q (.nx ((((ρ.set i (some sx)).set j (some sy)).set l (some sz)).set m (some sw)))
def KRet (Q : Out → Prop) (x : RV) : Prop := ∃ y, toRet x = some y ∧ Q (.rt y)
def KTup (hh : D → Env → Option Env) (ρ : Env) (Q : Out → Prop) (x : RV) : Prop := ∃ d ρ', x = .d d ∧ hh d ρ = some ρ' ∧ Q (.nx ρ')
def KD (C : D → Prop) (x : RV) : Prop := ∃ d, toD x = some d ∧ C d
def KI (C : Int → Prop) (x : RV) : Prop := ∃ d, asInt x = some d ∧ C d
def K2 (gg : RV → RV → Option RV) (P : RV → Prop) (x y : RV) : Prop := ∃ z, gg x y = some z ∧ P z
def KC (gg : List RV → Option RV) (P : RV → Prop) (xs : List RV) : Prop := ∃ z, gg xs = some z ∧ P z
def KF (n : Nat) (m : List RV → M RV) (P : RV → Prop) (xs : List RV) : Prop := xs.length = n ∧ Gives (m (xs.map readable)) P
def KB (PB : Bool → Prop) (x : RV) : Prop := ∃ b, asBool x = some b ∧ PB b
def KIf (A B : Prop) (b : Bool) : Prop := (b = true → A) ∧ (b = false → B)
def KTu (P : RV → Prop) (xs : List RV) : Prop := ∃ ds, toDs xs = some ds ∧ ds.length ≤ 100000 ∧ P (.d (.tuple ds))
def KLs (P : RV → Prop) (xs : List RV) : Prop := ∃ ds, toDs xs = some ds ∧ ds.length ≤ 100000 ∧ P (.n ds)
def KLc (vs : List Nat) (tg : D → Env → Option Env) (t : Env → M Bool) (el : Env → M RV) (ρ : Env) (P : RV → Prop) (q : List D × Option Nat) : Prop := q.1.length ≤ 100000 ∧ Gives (lcF tg t el (wipeE ρ vs) q.1) fun ds => P (.n ds)
def KFor (tg : D → Env → Option Env) (g : Env → M Out) (ρ : Env) (Q : Out → Prop) (q : List D × Option Nat) : Prop := Gives (loopF tg g q.1 (lockE ρ q.2)) fun o => Q (unlockO ρ q.2 o)
def KSrc (C : List D × Option Nat → Prop) (x : RV) : Prop := ∃ ds, srcOf x = some ds ∧ C (ds, none)
def KRng (C : List D × Option Nat → Prop) (x : RV) : Prop := ∃ n, asInt x = some n ∧ n ≤ 100000 ∧ -100000 ≤ n ∧ C ((rngD 0 n.toNat), none)
def KRng2 (C : List D × Option Nat → Prop) (x y : RV) : Prop := ∃ a b, asInt x = some a ∧ asInt y = some b ∧ (a ≤ 100000 ∧ -100000 ≤ a ∧ b ≤ 100000 ∧ -100000 ≤ b) ∧ C ((DVL.rngI a (b - a).toNat).map PyData.int, none)
section
variable {α β : Type} {ρ ρ' : Env} {P : RV → Prop} {Q : Out → Prop} {PA : List RV → Prop} {PB : Bool → Prop} {f h k : Env → M RV} {fa : Env → M (List RV)} {g g2 : Env → M Out} {t t2 : Env → M Bool} {x y : RV} {A B : Prop} {C : List D × Option Nat → Prop} {tg : D → Env → Option Env}
theorem w_is {m : M α} {a : α} {P : α → Prop} (p : Gives m fun r => r = a) (q : P a) : Gives m P := p.mono fun r e => by subst e; exact q
theorem w_use {m : M α} {P0 P : α → Prop} (p : Gives m P0) (q : ∀ r, P0 r → P r) : Gives m P := p.mono q
theorem w_seq (p : Gives (g ρ) (KSeq g2 Q)) : Gives (sSeq g g2 ρ) Q := gv_seq p
theorem w_seqN (p : Gives (g2 ρ') Q) : KSeq g2 Q (.nx ρ') := p
theorem w_seqR (p : Q (.rt x)) : KSeq g2 Q (.rt x) := p
theorem w_seqB (p : Q (.bk ρ)) : KSeq g2 Q (.bk ρ) := p
theorem w_seqC (p : Q (.ct ρ)) : KSeq g2 Q (.ct ρ) := p
theorem w_loopN {J : Env → Prop} (p : J ρ) : KLoop J Q (.nx ρ) := p
theorem w_loopC {J : Env → Prop} (p : J ρ) : KLoop J Q (.ct ρ) := p
theorem w_loopB {J : Env → Prop} (p : Q (.nx ρ)) : KLoop J Q (.bk ρ) := p
theorem w_loopR {J : Env → Prop} (p : Q (.rt x)) : KLoop J Q (.rt x) := p
theorem w_runN (p : P (.d .none)) : KRun P (.nx ρ) := p
theorem w_runR (p : P x) : KRun P (.rt x) := p
theorem w_tg {o : Option Env} {C : Env → Prop} (e : o = some ρ) (p : C ρ) : KTg o C := ⟨ρ, e, p⟩
theorem w_nop (p : Q (.nx ρ)) : Gives (sNil ρ) Q := Gives.ret p
theorem w_set {i : Nat} (p : Gives (f ρ) (KSet i ρ Q)) : Gives (sSet i f ρ) Q := gv_set p
theorem w_setX {i : Nat} {sv : SV} (e1 : toS x = some sv) (e : ρ.set i (some sv) = ρ') (p : Q (.nx ρ')) : KSet i ρ Q x := ⟨sv, e1, by rw [e]; exact p⟩
theorem w_rt (p : Gives (f ρ) (KRet Q)) : Gives (sRet f ρ) Q := gv_rt p
theorem w_rtD {d : D} (p : Q (.rt (.d d))) : KRet Q (.d d) := ⟨_, rfl, p⟩
theorem w_rtN {d : List D} (p : Q (.rt (.n d))) : KRet Q (.n d) := ⟨_, rfl, p⟩
theorem w_rtV {i : Nat} (e : vown ρ i = some x) (p : Q (.rt x)) : Gives (sRetV i ρ) Q := gv_rtV e p
theorem w_if (p : Gives (t ρ) fun b => KIf (Gives (g ρ) Q) (Gives (g2 ρ) Q) b) : Gives (sIf t g g2 ρ) Q := gv_if p
theorem w_drop (p : Gives (f ρ) fun _ => Q (.nx ρ)) : Gives (sDrop f ρ) Q := gv_drop p
theorem w_stup {hh : D → Env → Option Env} (p : Gives (f ρ) (KTup hh ρ Q)) : Gives (sTup f hh ρ) Q := gv_stup p
theorem w_stupD {hh : D → Env → Option Env} {d : D} (e : hh d ρ = some ρ') (p : Q (.nx ρ')) : KTup hh ρ Q (.d d) := ⟨d, ρ', rfl, e, p⟩
theorem w_aug {i : Nat} {kf : Int → Int → Int} {a : Int} (e1 : vget ρ i = some (.d (.int a))) (p : Gives (f ρ) (KI fun b => KSet i ρ Q (.d (.int (kf a b))))) : Gives (sAug i kf f ρ) Q :=
  gv_aug e1 rfl (p.mono fun x ⟨b, e, sv, e2, q⟩ => ⟨b, e, by cases e2; exact q⟩)
theorem w_I {C : Int → Prop} {i : Int} (p : C i) : KI C (.d (.int i)) := ⟨i, rfl, p⟩
theorem w_app {i : Nat} {ds : List D} (e1 : sApp.own? ρ i = some ds) (hl : ds.length < 100000) (p : Gives (f ρ) (KD fun d => KSet i ρ Q (.n (ds ++ [d])))) : Gives (sApp i f ρ) Q :=
  gv_app e1 hl (p.mono fun x ⟨d, e, sv, e2, q⟩ => ⟨d, e, by cases e2; exact q⟩)
theorem w_D {C : D → Prop} {d : D} (p : C d) : KD C (.d d) := ⟨d, rfl, p⟩
theorem w_for {fi : Env → M (List D × Option Nat)} (p : Gives (fi ρ) (KFor tg g ρ Q)) : Gives (sFor fi tg g ρ) Q := DVL.gv_forG p
/-- several names at once -/
theorem w_par {i j : Nat} (p : Gives (fa ρ) (KPar i j ρ Q)) : Gives (sPar i j fa ρ) Q := gv_par p
theorem w_parX {i j : Nat} {sx sy : SV} (e1 : toS x = some sx) (e2 : toS y = some sy) (e : (ρ.set i (some sx)).set j (some sy) = ρ') (q : Q (.nx ρ')) : KPar i j ρ Q [x, y] := ⟨x, y, sx, sy, rfl, e1, e2, by rw [e]; exact q⟩
theorem w_par3 {i j l : Nat} (p : Gives (fa ρ) (KPar3 i j l ρ Q)) : Gives (sPar3 i j l fa ρ) Q := gv_par3 p
theorem w_par3X {i j l : Nat} {z : RV} {sx sy sz : SV} (e1 : toS x = some sx) (e2 : toS y = some sy) (e3 : toS z = some sz) (e : ((ρ.set i (some sx)).set j (some sy)).set l (some sz) = ρ') (q : Q (.nx ρ')) : KPar3 i j l ρ Q [x, y, z] := ⟨x, y, z, sx, sy, sz, rfl, e1, e2, e3, by rw [e]; exact q⟩
theorem w_par4 {i j l m : Nat} (p : Gives (fa ρ) (KPar4 i j l m ρ Q)) : Gives (sPar4 i j l m fa ρ) Q :=
  Gives.bnd p fun xs ⟨x, y, z, w, sx, sy, sz, sw, e, e1, e2, e3, e4, q⟩ => by
    subst e
    show Gives (bnd (lft (toS x)) fun sx => bnd (lft (toS y)) fun sy => bnd (lft (toS z)) fun sz => bnd (lft (toS w)) fun sw => ret (.nx ((((ρ.set i (some sx)).set j (some sy)).set l (some sz)).set m (some sw)))) Q
    rw [e1, lft_s, bnd_ret, e2, lft_s, bnd_ret, e3, lft_s, bnd_ret, e4, lft_s, bnd_ret]
    exact Gives.ret q
theorem w_par4X {i j l m : Nat} {z w : RV} {sx sy sz sw : SV} (e1 : toS x = some sx) (e2 : toS y = some sy) (e3 : toS z = some sz) (e4 : toS w = some sw) (e : (((ρ.set i (some sx)).set j (some sy)).set l (some sz)).set m (some sw) = ρ') (q : Q (.nx ρ')) : KPar4 i j l m ρ Q [x, y, z, w] := ⟨x, y, z, w, sx, sy, sz, sw, rfl, e1, e2, e3, e4, by rw [e]; exact q⟩
theorem w_var {i : Nat} (e : vget ρ i = some x) (p : P x) : Gives (eVar i ρ) P := gv_var e p
theorem w_c {d : D} (p : P (.d d)) : Gives (eC d ρ) P := Gives.ret p
theorem w_e2 {gg : RV → RV → Option RV} (p : Gives (f ρ) fun x => Gives (h ρ) fun y => K2 gg P x y) : Gives (e2 gg f h ρ) P := gv_e2 p
theorem w_nil (p : PA []) : Gives (aNil ρ) PA := Gives.ret p
theorem w_cons (p : Gives (f ρ) fun x => Gives (fa ρ) fun xs => PA (x :: xs)) : Gives (aCons f fa ρ) PA := gv_cons p
theorem w_call {gg : List RV → Option RV} (p : Gives (fa ρ) (KC gg P)) : Gives (eCall gg fa ρ) P := gv_call p
theorem w_fn {m : List RV → M RV} {n : Nat} (p : Gives (fa ρ) (KF n m P)) : Gives (eFn (fun xs => if xs.length = n then m xs else fail) fa ρ) P := gv_fn p
theorem w_f1 {m : List RV → M RV} {x1 : RV} (p : Gives (m [readable x1]) P) : KF 1 m P [x1] := ⟨rfl, p⟩
theorem w_f2 {m : List RV → M RV} {x1 x2 : RV} (p : Gives (m [readable x1, readable x2]) P) : KF 2 m P [x1, x2] := ⟨rfl, p⟩
theorem w_f3 {m : List RV → M RV} {x1 x2 x3 : RV} (p : Gives (m [readable x1, readable x2, readable x3]) P) : KF 3 m P [x1, x2, x3] := ⟨rfl, p⟩
theorem w_f4 {m : List RV → M RV} {x1 x2 x3 x4 : RV} (p : Gives (m [readable x1, readable x2, readable x3, readable x4]) P) : KF 4 m P [x1, x2, x3, x4] := ⟨rfl, p⟩
theorem w_f5 {m : List RV → M RV} {x1 x2 x3 x4 x5 : RV} (p : Gives (m [readable x1, readable x2, readable x3, readable x4, readable x5]) P) : KF 5 m P [x1, x2, x3, x4, x5] := ⟨rfl, p⟩
theorem w_f6 {m : List RV → M RV} {x1 x2 x3 x4 x5 x6 : RV} (p : Gives (m [readable x1, readable x2, readable x3, readable x4, readable x5, readable x6]) P) : KF 6 m P [x1, x2, x3, x4, x5, x6] := ⟨rfl, p⟩
theorem w_tup (p : Gives (fa ρ) (KTu P)) : Gives (eTup fa ρ) P := gv_tup p
theorem w_lst (p : Gives (fa ρ) (KLs P)) : Gives (eLst fa ρ) P := gv_lst p
theorem w_tu {xs : List RV} {ds : List D} (e : toDs xs = some ds) (hl : ds.length ≤ 100000) (p : P (.d (.tuple ds))) : KTu P xs := ⟨ds, e, hl, p⟩
theorem w_ls {xs : List RV} {ds : List D} (e : toDs xs = some ds) (hl : ds.length ≤ 100000) (p : P (.n ds)) : KLs P xs := ⟨ds, e, hl, p⟩
theorem w_neg (p : Gives (f ρ) (KI fun i => P (.d (.int (-i))))) : Gives (eNeg f ρ) P := gv_neg p
theorem w_ifB (p : Gives (f ρ) (KB fun b => KIf (Gives (h ρ) P) (Gives (k ρ) P) b)) : Gives (eIfB f h k ρ) P := gv_ifB p
theorem w_ifE (p : Gives (t ρ) fun b => KIf (Gives (h ρ) P) (Gives (k ρ) P) b) : Gives (eIf t h k ρ) P := gv_ifE p
theorem w_notB (p : Gives (f ρ) (KB fun b => P (.d (.bool (!b))))) : Gives (eNotB f ρ) P := gv_notB p
theorem w_T (p : Gives (f ρ) (KB PB)) : Gives (eT f ρ) PB := gv_T p
theorem w_B {b : Bool} (p : PB b) : KB PB (.d (.bool b)) := ⟨b, rfl, p⟩
theorem w_not (p : Gives (t ρ) fun b => PB (!b)) : Gives (tNotF t ρ) PB := gv_not p
theorem w_and (p : Gives (t ρ) fun b => KIf (Gives (t2 ρ) PB) (PB false) b) : Gives (tIfT t t2 (tRetB false) ρ) PB := gv_and p
theorem w_or (p : Gives (t ρ) fun b => KIf (PB true) (Gives (t2 ρ) PB) b) : Gives (tIfT t (tRetB true) t2 ρ) PB := gv_or p
theorem w_tt (p : PB true) : Gives (tTrue ρ) PB := Gives.ret p
theorem w_ch {gg g' : RV → RV → Option RV} (p : Gives (f ρ) fun x => Gives (h ρ) fun y => K2 gg (KB fun b => KIf (Gives (k ρ) fun w => K2 g' P y w) (P (.d (.bool false))) b) x y) : Gives (eCh gg g' f h k ρ) P :=
  gv_ch (p.mono fun x q => q.mono fun y ⟨z, e, b, e2, q1, q2⟩ => by
    cases z with
    | d z =>
      cases z with
      | bool c => cases e2; exact ⟨_, e, q1, q2⟩
      | _ => cases e2
    | _ => cases e2)
theorem w_ifT (p : A) : KIf A B true := ⟨fun _ => p, fun q => nomatch q⟩
theorem w_ifF (p : B) : KIf A B false := ⟨fun q => (nomatch q), fun _ => p⟩
theorem w_ifNT (p : B) : KIf A B (!true) := w_ifF p
theorem w_ifNF (p : A) : KIf A B (!false) := w_ifT p
theorem w_dec {a : Prop} [Decidable a] (p : a → A) (q : ¬a → B) : KIf A B (decide a) := ⟨fun e => p (of_decide_eq_true e), fun e => q (of_decide_eq_false e)⟩
theorem w_decF {a : Prop} [Decidable a] (e : ¬a) (p : B) : KIf A B (decide a) := by rw [decide_eq_false e]; exact w_ifF p
theorem w_add {a b : Int} (p : P (.d (.int (a + b)))) : K2 gAddA P (.d (.int a)) (.d (.int b)) := ⟨_, rfl, p⟩
theorem w_sub {a b : Int} (p : P (.d (.int (a - b)))) : K2 gSubI P (.d (.int a)) (.d (.int b)) := ⟨_, rfl, p⟩
theorem w_mul {a b : Int} (c : (-18446744073709551616 < a ∧ a < 18446744073709551616) ∨ (-18446744073709551616 < b ∧ b < 18446744073709551616)) (p : P (.d (.int (a * b)))) : K2 gMulA P (.d (.int a)) (.d (.int b)) :=
  ⟨_, gMulI_eq (c.elim (fun q => cMul_l q.1 q.2) fun q => cMul_r q.1 q.2), p⟩
theorem w_mod {a b : Int} (c : 0 < b) (p : P (.d (.int (a % b)))) : K2 gMod P (.d (.int a)) (.d (.int b)) := ⟨_, gMod_eq c, p⟩
theorem w_div {a b : Int} (c : 0 < b ∧ b < 1073741824) (p : P (.d (.int (a / b)))) : K2 gFdiv P (.d (.int a)) (.d (.int b)) := ⟨_, gFdiv_eq c.1 c.2, p⟩
theorem w_lt {a b : Int} (p : P (.d (.bool (decide (a < b))))) : K2 gLt P (.d (.int a)) (.d (.int b)) := ⟨_, rfl, p⟩
theorem w_le {a b : Int} (p : P (.d (.bool (decide (a ≤ b))))) : K2 gLe P (.d (.int a)) (.d (.int b)) := ⟨_, rfl, p⟩
theorem w_gt {a b : Int} (p : P (.d (.bool (decide (b < a))))) : K2 gGt P (.d (.int a)) (.d (.int b)) := ⟨_, rfl, p⟩
theorem w_ge {a b : Int} (p : P (.d (.bool (decide (b ≤ a))))) : K2 gGe P (.d (.int a)) (.d (.int b)) := ⟨_, rfl, p⟩
theorem w_ltA {a b : Int} (p : P (.d (.bool (decide (a < b))))) : K2 gLtA P (.d (.int a)) (.d (.int b)) := ⟨_, rfl, p⟩
theorem w_leA {a b : Int} (p : P (.d (.bool (decide (a ≤ b))))) : K2 gLeA P (.d (.int a)) (.d (.int b)) := ⟨_, rfl, p⟩
theorem w_gtA {a b : Int} (p : P (.d (.bool (decide (b < a))))) : K2 gGtA P (.d (.int a)) (.d (.int b)) := ⟨_, rfl, p⟩
theorem w_geA {a b : Int} (p : P (.d (.bool (decide (b ≤ a))))) : K2 gGeA P (.d (.int a)) (.d (.int b)) := ⟨_, rfl, p⟩
theorem w_eq {a b : Int} (p : P (.d (.bool (decide (a = b))))) : K2 gEq P (.d (.int a)) (.d (.int b)) := ⟨_, DVL.eq_ints false a b, p⟩
theorem w_ne {a b : Int} (p : P (.d (.bool (!decide (a = b))))) : K2 gNe P (.d (.int a)) (.d (.int b)) := ⟨_, DVL.eq_ints true a b, p⟩
theorem eq_bls (neg a b : Bool) : gEqB neg (.d (.bool a)) (.d (.bool b)) = some (.d (.bool (if neg then !(decide (a = b)) else decide (a = b)))) := by
  simp [gEqB, viewD, SeqAt.shaped, PyData.canLay0, PyData.depth, PyData.eqv]
  cases neg <;> cases a <;> cases b <;> rfl
theorem w_eqB {a b : Bool} (p : P (.d (.bool (decide (a = b))))) : K2 gEq P (.d (.bool a)) (.d (.bool b)) := ⟨_, eq_bls false a b, p⟩
theorem w_neB {a b : Bool} (p : P (.d (.bool (!decide (a = b))))) : K2 gNe P (.d (.bool a)) (.d (.bool b)) := ⟨_, eq_bls true a b, p⟩
theorem w_eqN {a b : List Int} (p : P (.d (.bool (decide (a = b))))) : K2 gEq P (.n (a.map PyData.int)) (.n (b.map PyData.int)) := ⟨_, DVL.eq_lists false a b, p⟩
theorem w_neN {a b : List Int} (p : P (.d (.bool (!decide (a = b))))) : K2 gNe P (.n (a.map PyData.int)) (.n (b.map PyData.int)) := ⟨_, DVL.eq_lists true a b, p⟩
theorem w_neN0 {a : List Int} (p : P (.d (.bool (!decide (a = []))))) : K2 gNe P (.n (a.map PyData.int)) (.n []) := ⟨_, DVL.eq_lists true a [], p⟩
theorem w_eqN0 {a : List Int} (p : P (.d (.bool (decide (a = []))))) : K2 gEq P (.n (a.map PyData.int)) (.n []) := ⟨_, DVL.eq_lists false a [], p⟩
theorem in_eq (j : Int) (q : List Int) : gIn (.d (.int j)) (.d (ti q)) = some (.d (.bool (q.elem j))) := by
  show (if SeqAt.shaped (.int j) = true then if SeqAt.shaped (.list (q.map PyData.int)) = true then some (RV.d (.bool ((q.map PyData.int).any fun z => PyData.eqv z (.int j)))) else none else none) = _
  rw [if_pos (DVL.shaped_int j), if_pos (DVL.shaped_ints q), DVL.any_eqv]
theorem w_in {j : Int} {q : List Int} (p : P (.d (.bool (q.elem j)))) : K2 gIn P (.d (.int j)) (.d (ti q)) := ⟨_, in_eq j q, p⟩
theorem w_inB {j : Int} {q : List Int} (p : P (.d (.bool (q.elem j)))) : K2 gIn P (.d (.int j)) (.b (q.map PyData.int)) := ⟨_, in_eq j q, p⟩
theorem w_notInB {j : Int} {q : List Int} (p : P (.d (.bool (!q.elem j)))) : K2 gNotIn P (.d (.int j)) (.b (q.map PyData.int)) := ⟨_, DVL.notIn_eq j q, p⟩
theorem w_notIn {j : Int} {q : List Int} (p : P (.d (.bool (!q.elem j)))) : K2 gNotIn P (.d (.int j)) (.d (ti q)) := ⟨_, DVL.notIn_eq j q, p⟩
theorem w_ix {ts : List Int} {j : Int} (c : 0 ≤ j ∧ j < ts.length) (p : P (.d (.int (DVL.val ts j)))) : K2 gIx P (.d (ti ts)) (.d (.int j)) := ⟨_, DVL.gIx_ti c.1 c.2, p⟩
theorem w_ixB {ts : List Int} {j : Int} (c : 0 ≤ j ∧ j < ts.length) (p : P (.d (.int (DVL.val ts j)))) : K2 gIx P (.b (ts.map PyData.int)) (.d (.int j)) := ⟨_, DVL.gIx_b c.1 c.2, p⟩
theorem w_ix0 {d : D} {ds : List D} (p : P (.d d)) : K2 gIx P (.d (.tuple (d :: ds))) (.d (.int 0)) := by
  refine ⟨.d d, ?_, p⟩
  show (atI (d :: ds) ((0 : Nat) : Int)).map RV.d = _
  rw [atI_nat (v := d) rfl]; rfl
theorem w_ix1 {d e : D} {ds : List D} (p : P (.d e)) : K2 gIx P (.d (.tuple (d :: e :: ds))) (.d (.int 1)) := by
  refine ⟨.d e, ?_, p⟩
  show (atI (d :: e :: ds) ((1 : Nat) : Int)).map RV.d = _
  rw [atI_nat (v := e) rfl]; rfl
theorem w_len {ts : List Int} (p : P (.d (.int (ts.length : Nat)))) : KC gLen P [.d (ti ts)] := ⟨.d (.int (ts.length : Nat)), by show some (RV.d (.int (((ts.map PyData.int).length : Nat) : Int))) = _; rw [List.length_map], p⟩
theorem w_lenB {ts : List Int} (p : P (.d (.int (ts.length : Nat)))) : KC gLen P [.b (ts.map PyData.int)] := ⟨.d (.int (ts.length : Nat)), by show some (RV.d (.int (((ts.map PyData.int).length : Nat) : Int))) = _; rw [List.length_map], p⟩
theorem w_lenN {ts : List Int} (p : P (.d (.int (ts.length : Nat)))) : KC gLen P [.n (ts.map PyData.int)] := ⟨.d (.int (ts.length : Nat)), by show some (RV.d (.int (((ts.map PyData.int).length : Nat) : Int))) = _; rw [List.length_map], p⟩
theorem w_lenD {ts : List D} (p : P (.d (.int (ts.length : Nat)))) : KC gLen P [.d (.tuple ts)] := ⟨_, rfl, p⟩
theorem w_lenDB {ts : List D} (p : P (.d (.int (ts.length : Nat)))) : KC gLen P [.b ts] := ⟨_, rfl, p⟩
theorem w_lenDN {ts : List D} (p : P (.d (.int (ts.length : Nat)))) : KC gLen P [.n ts] := ⟨_, rfl, p⟩
theorem w_tupN {ds : List D} (p : P (.d (.tuple ds))) : KC gTuple P [.n ds] := ⟨_, rfl, p⟩
theorem w_tupB {ds : List D} (p : P (.d (.tuple ds))) : KC gTuple P [.b ds] := ⟨_, rfl, p⟩
theorem w_tupD {ds : List D} (p : P (.d (.tuple ds))) : KC gTuple P [.d (.tuple ds)] := ⟨_, rfl, p⟩
theorem w_lstD {ds : List D} (p : P (.n ds)) : KC gList P [.d (.tuple ds)] := ⟨_, rfl, p⟩
theorem w_lstB {ds : List D} (p : P (.n ds)) : KC gList P [.b ds] := ⟨_, rfl, p⟩
theorem w_lstN {ds : List D} (p : P (.n ds)) : KC gList P [.n ds] := ⟨_, rfl, p⟩
theorem w_sum {ts : List Int} (p : P (.d (.int ts.sum))) : KC gSum P [.d (ti ts)] := ⟨_, DVL.gSum_eq ts, p⟩
theorem w_sumN {ts : List Int} (p : P (.d (.int ts.sum))) : KC gSum P [.n (ts.map PyData.int)] := ⟨_, DVL.gSum_eq ts, p⟩
theorem w_sumB {ts : List Int} (p : P (.d (.int ts.sum))) : KC gSum P [.b (ts.map PyData.int)] := ⟨_, DVL.gSum_eq ts, p⟩
theorem w_max2 {a b : Int} (p : P (.d (.int (max a b)))) : KC gMax2 P [.d (.int a), .d (.int b)] := by
  refine ⟨.d (.int (max a b)), ?_, p⟩
  show some (RV.d (.int (if b > a then b else a))) = _
  congr 3
  split <;> omega
theorem w_min2 {a b : Int} (p : P (.d (.int (min a b)))) : KC gMin2 P [.d (.int a), .d (.int b)] := by
  refine ⟨.d (.int (min a b)), ?_, p⟩
  show some (RV.d (.int (if b < a then b else a))) = _
  congr 3
  split <;> omega
theorem w_int {a : Int} (p : P (.d (.int a))) : KC gInt P [.d (.int a)] := ⟨_, rfl, p⟩
theorem w_sortN {a : List Int} (p : P (.n ((DV.sortI a).map PyData.int))) : KC gSort P [.n (a.map PyData.int)] := by
  refine ⟨_, ?_, p⟩
  show (match intsOf (a.map PyData.int) with | some js => some (RV.n ((DV.sortI js).map PyData.int)) | none => _) = _
  rw [DVL.intsOf_map]
theorem w_sortB {a : List Int} (p : P (.n ((DV.sortI a).map PyData.int))) : KC gSort P [.b (a.map PyData.int)] := by
  obtain ⟨z, e, q⟩ := w_sortN (a := a) p
  exact ⟨z, e, q⟩
theorem w_sort {a : List Int} (p : P (.n ((DV.sortI a).map PyData.int))) : KC gSort P [.d (ti a)] := by
  obtain ⟨z, e, q⟩ := w_sortN (a := a) p
  exact ⟨z, e, q⟩
theorem w_rep {x : Int} {n : Nat} (c : 1 ≤ n ∧ n ≤ 1000) (p : P (.d (ti (List.replicate n x)))) : K2 gMulA P (.d (.tuple [.int x])) (.d (.int (n : Nat))) := by
  refine ⟨_, ?_, p⟩
  show (if 1 ≤ (n : Int) ∧ (n : Int) ≤ 1000 ∧ ([PyData.int x] : List D).length ≤ 1000 ∧ [PyData.int x] ≠ [] then some (RV.d (.tuple (List.replicate (n : Int).toNat [PyData.int x]).flatten)) else none) = _
  rw [if_pos ⟨by omega, by omega, by simp, by simp⟩, Int.toNat_natCast, List.flatten_replicate_singleton]
  show _ = some (RV.d (.tuple ((List.replicate n x).map PyData.int)))
  rw [List.map_replicate]
theorem w_repN {x : Int} {n : Nat} (c : n ≤ 1000) (p : P (.n ((List.replicate n x).map PyData.int))) : K2 gMulA P (.n [.int x]) (.d (.int (n : Nat))) := by
  refine ⟨_, ?_, p⟩
  show (if -1000 ≤ (n : Int) ∧ (n : Int) ≤ 1000 ∧ ([PyData.int x] : List D).length ≤ 1000 then some (RV.n (List.replicate (n : Int).toNat [PyData.int x]).flatten) else none) = _
  rw [if_pos ⟨by omega, by omega, by simp⟩, Int.toNat_natCast, List.flatten_replicate_singleton, List.map_replicate]
theorem w_catT {a b : List D} (c : a.length + b.length ≤ 100000) (p : P (.d (.tuple (a ++ b)))) : K2 gAddA P (.d (.tuple a)) (.d (.tuple b)) := by
  refine ⟨_, ?_, p⟩
  show (if a.length + b.length ≤ 100000 then some (RV.d (.tuple (a ++ b))) else none) = _
  rw [if_pos c]
theorem w_lc {fi : Env → M (List D × Option Nat)} {vs : List Nat} (p : Gives (fi ρ) (KLc vs tg t h ρ P)) : Gives (eLc fi vs tg t h ρ) P := DVL.gv_lcG p
theorem w_srcE (p : Gives (f ρ) (KSrc C)) : Gives (srcE f ρ) C := DVL.gv_srcE p
theorem w_srcV {i : Nat} {q : List D × Option Nat} (e : srcV i ρ = DV.ret q) (p : C q) : Gives (srcV i ρ) C := gv_eq e p
theorem w_src {ds : List D} (e : srcOf x = some ds) (p : C (ds, none)) : KSrc C x := ⟨ds, e, p⟩
theorem w_rng1 (p : Gives (f ρ) (KRng C)) : Gives (iRng1F f ρ) C := by
  unfold iRng1F
  refine Gives.bnd p fun x ⟨n, e, h1, h2, q⟩ => ?_
  rw [e, lft_s, bnd_ret, if_pos ⟨h1, h2⟩]
  exact Gives.ret q
theorem w_rngN {n : Nat} (c : n ≤ 100000) (p : C ((DVL.rngI 0 n).map PyData.int, none)) : KRng C (.d (.int (n : Nat))) := ⟨n, rfl, by omega, by omega, by rw [DVL.rngD_eq, Int.toNat_natCast]; exact p⟩
theorem w_rngI {n : Int} (c : n ≤ 100000 ∧ -100000 ≤ n) (p : C ((DVL.rngI 0 n.toNat).map PyData.int, none)) : KRng C (.d (.int n)) := ⟨n, rfl, c.1, c.2, by rw [DVL.rngD_eq]; exact p⟩
theorem w_rng2 (p : Gives (f ρ) fun x => Gives (h ρ) fun y => KRng2 C x y) : Gives (iRng2F f h ρ) C := by
  unfold iRng2F
  refine Gives.bnd p fun x q => ?_
  intro rs
  obtain ⟨y, rs1, e1, a, b, ea, eb, hc, q⟩ := q rs
  refine ⟨_, rs1, ?_, q⟩
  rw [ea, lft_s, bnd_ret]
  unfold bnd
  simp only [e1, eb, lft_s]
  show (if _ then _ else _ : M (List D × Option Nat)) rs1 = _
  rw [if_pos hc, DVL.rngD_eq]
  rfl
theorem w_rng2I {a b : Int} (c : a ≤ 100000 ∧ -100000 ≤ a ∧ b ≤ 100000 ∧ -100000 ≤ b) (p : C ((DVL.rngI a (b - a).toNat).map PyData.int, none)) : KRng2 C (.d (.int a)) (.d (.int b)) := ⟨a, b, rfl, rfl, c, p⟩
theorem lcF_mk {el : Env → M RV} (mk : α → D) (p : α → Bool) (φ : α → D) : ∀ L : List α, (∀ a ∈ L, KTg (tg (mk a) ρ) fun ρ1 => Gives (t ρ1) fun b => b = p a ∧ (p a = true → Gives (el ρ1) fun r => toD r = some (φ a))) →
    Gives (lcF tg t el ρ (L.map mk)) fun ds => ds = (L.filter p).map φ
  | [], _ => Gives.ret rfl
  | a :: L, h => by
    obtain ⟨ρ1, e1, g1⟩ := h a List.mem_cons_self
    show Gives (lcF tg t el ρ (mk a :: L.map mk)) _
    unfold lcF
    rw [e1, lft_s, bnd_ret]
    refine Gives.bnd g1 fun b ⟨eb, g2⟩ => ?_
    have ih := lcF_mk mk p φ L fun y hy => h y (List.mem_cons_of_mem _ hy)
    subst eb
    cases hp : p a with
    | true =>
      rw [if_pos rfl]
      refine Gives.bnd (g2 hp) fun r er => ?_
      rw [er, lft_s, bnd_ret]
      refine Gives.bnd ih fun ds hds => Gives.ret ?_
      rw [List.filter_cons_of_pos hp, hds]; rfl
    | false =>
      rw [if_neg (by decide), List.filter_cons_of_neg (by rw [hp]; decide)]
      exact ih
/-- a filter and a map over any list -/
theorem w_lcD {vs : List Nat} {el : Env → M RV} (L : List α) (mk : α → D) (p : α → Bool) (φ : α → D) {lk : Option Nat} (c : L.length ≤ 100000)
    (hh : ∀ a ∈ L, KTg (tg (mk a) (wipeE ρ vs)) fun ρ1 => Gives (t ρ1) fun b => b = p a ∧ (p a = true → Gives (el ρ1) fun r => toD r = some (φ a)))
    (k : P (.n ((L.filter p).map φ))) : KLc vs tg t el ρ P (L.map mk, lk) :=
  ⟨by show (L.map mk).length ≤ 100000; rw [List.length_map]; exact c, (lcF_mk mk p φ L hh).mono fun ds e => by subst e; exact k⟩
/-- to ints, with a test -/
theorem w_lcP {vs : List Nat} {el : Env → M RV} {mk : α → D} {lk : Option Nat} {L : List α} (p : α → Bool) (φ : α → Int) (c : L.length ≤ 100000)
    (hh : ∀ a ∈ L, KTg (tg (mk a) (wipeE ρ vs)) fun ρ1 => Gives (t ρ1) fun b => b = p a ∧ (p a = true → Gives (el ρ1) fun r => r = .d (.int (φ a))))
    (k : P (.n (((L.filter p).map φ).map PyData.int))) : KLc vs tg t el ρ P (L.map mk, lk) :=
  w_lcD L mk p (fun a => .int (φ a)) c (fun a ha => by
    obtain ⟨ρ1, e, g⟩ := hh a ha
    exact ⟨ρ1, e, g.mono fun b ⟨e1, g1⟩ => ⟨e1, fun hp => (g1 hp).mono fun r er => by rw [er]; rfl⟩⟩) (by
    have e : (L.filter p).map (fun a => PyData.int (φ a)) = ((L.filter p).map φ).map PyData.int := by rw [List.map_map]; rfl
    rw [e]; exact k)
/-- to any data, without a test -/
theorem w_lcM {vs : List Nat} {el : Env → M RV} {mk : α → D} {lk : Option Nat} {L : List α} (φ : α → D) (c : L.length ≤ 100000)
    (hh : ∀ a ∈ L, KTg (tg (mk a) (wipeE ρ vs)) fun ρ1 => Gives (el ρ1) fun r => toD r = some (φ a))
    (k : P (.n (L.map φ))) : KLc vs tg tTrue el ρ P (L.map mk, lk) :=
  w_lcD L mk (fun _ => true) φ c (fun a ha => by
    obtain ⟨ρ1, e, g⟩ := hh a ha
    exact ⟨ρ1, e, Gives.ret ⟨rfl, fun _ => g⟩⟩) (by rw [List.filter_eq_self.mpr (fun _ _ => rfl)]; exact k)
theorem w_loop {mk : α → D} {lk : Option Nat} {L : List α} (I : List α → Env → Prop) (h0 : I L (lockE ρ lk))
    (hs : ∀ a rest ρ1, I (a :: rest) ρ1 → KTg (tg (mk a) ρ1) fun ρ2 => Gives (g ρ2) (KLoop (I rest) fun o => Q (unlockO ρ lk o))) (hd : ∀ ρ1, I [] ρ1 → Q (.nx (unlockE ρ ρ1 lk))) : KFor tg g ρ Q (L.map mk, lk) := by
  show Gives (loopF tg g (L.map mk) (lockE ρ lk)) _
  refine Gives.loop _ (fun xs ρ1 => ∃ r, xs = r.map mk ∧ I r ρ1) _ ⟨L, rfl, h0⟩ ?_ ?_
  · rintro x xs ρ1 ⟨r, e, hi⟩
    cases r with
    | nil => cases e
    | cons a r =>
      cases e
      obtain ⟨ρ2, e2, g2⟩ := hs a r ρ1 hi
      refine ⟨ρ2, e2, g2.mono fun o ho => ?_⟩
      cases o with
      | nx _ => exact ⟨r, rfl, ho⟩
      | ct _ => exact ⟨r, rfl, ho⟩
      | bk _ => exact ho
      | rt _ => exact ho
  · rintro ρ1 ⟨r, e, hi⟩
    cases r with
    | nil => exact hd ρ1 hi
    | cons _ _ => cases e
theorem w_loop0 {mk : α → D} {L : List α} (I : List α → Env → Prop) (h0 : I L ρ)
    (hs : ∀ a rest ρ1, I (a :: rest) ρ1 → KTg (tg (mk a) ρ1) fun ρ2 => Gives (g ρ2) (KLoop (I rest) Q)) (hd : ∀ ρ1, I [] ρ1 → Q (.nx ρ1)) : KFor tg g ρ Q (L.map mk, none) :=
  w_loop I h0 (fun a rest ρ1 hi => by
    obtain ⟨ρ2, e2, g2⟩ := hs a rest ρ1 hi
    exact ⟨ρ2, e2, g2.mono fun o ho => by cases o <;> exact ho⟩) hd
theorem w_run {n : Nat} {xs : List RV} (e : startE n xs = ρ) (p : Gives (g ρ) (KRun P)) : Gives (runDef n g xs) P := by
  rw [← e] at p
  exact gv_run p
theorem w_env {g : Env → M Out} (e : ρ = ρ') (p : Gives (g ρ') Q) : Gives (g ρ) Q := by rw [e]; exact p
end
end DV

namespace DV
open PySem L2
/-- a kind of key -/
structure Key (κ : Type) where
  t : Bool
  enc : κ → D
  inj : ∀ a b, nk (enc a) = nk (enc b) → a = b
  ok : ∀ a, keyOk t (enc a) = true
theorem kint_inj {a b : Int} (h : nk (.int a) = nk (.int b)) : a = b := by
  have h2 : some (NestedKey.num a) = some (NestedKey.num b) := h
  have h3 := Option.some.inj h2
  cases h3
  rfl
def kInt : Key Int := ⟨false, PyData.int, fun _ _ h => kint_inj h, fun _ => rfl⟩
section
variable {κ β : Type} [DecidableEq κ]
def getA (M : List (κ × β)) (k : κ) : Option β := (M.find? fun p => decide (p.1 = k)).map (·.2)
def putA (M : List (κ × β)) (k : κ) (b : β) : List (κ × β) := if (getA M k).isSome = true then M.map fun p => if p.1 = k then (k, b) else p else M ++ [(k, b)]
def encT (E : Key κ) (v : β → D) (M : List (κ × β)) : List (D × D) := M.map fun p => (E.enc p.1, v p.2)
abbrev dT (E : Key κ) (v : β → D) (M : List (κ × β)) : DC := ⟨E.t, encT E v M⟩
variable {E : Key κ} {v : β → D} {M : List (κ × β)} {k k2 : κ} {b : β}
theorem enc_iff : nk (E.enc k) = nk (E.enc k2) ↔ k = k2 := ⟨E.inj _ _, fun h => by rw [h]⟩
theorem encT_len : (encT E v M).length = M.length := List.length_map ..
theorem look_enc : lookK (encT E v M) (nk (E.enc k)) = (getA M k).map v := by
  induction M with
  | nil => rfl
  | cons q l ih =>
    unfold lookK getA at ih ⊢
    show ((((E.enc q.1, v q.2) :: encT E v l).find? fun x => decide (nk x.1 = nk (E.enc k))).map fun x => x.2) = _
    by_cases h : q.1 = k
    · rw [List.find?_cons_of_pos (by rw [decide_eq_true_eq]; exact enc_iff.mpr h), List.find?_cons_of_pos (by rw [decide_eq_true_eq]; exact h)]
      rfl
    · rw [List.find?_cons_of_neg (by rw [decide_eq_true_eq]; exact fun z => h (enc_iff.mp z)), List.find?_cons_of_neg (by rw [decide_eq_true_eq]; exact h)]
      exact ih
theorem put_enc : putD (encT E v M) (E.enc k) (v b) = encT E v (putA M k b) := by
  unfold putD putA
  rw [look_enc]
  cases h : getA M k with
  | none =>
    show encT E v M ++ _ = encT E v (M ++ [(k, b)])
    unfold encT
    rw [List.map_append]
    rfl
  | some m =>
    show (encT E v M).map _ = encT E v (M.map fun p => if p.1 = k then (k, b) else p)
    unfold encT
    rw [List.map_map, List.map_map]
    refine List.map_congr_left fun q _ => ?_
    show (if nk (E.enc q.1) = nk (E.enc k) then (E.enc q.1, v b) else (E.enc q.1, v q.2)) = (E.enc (if q.1 = k then (k, b) else q).1, v (if q.1 = k then (k, b) else q).2)
    by_cases e : q.1 = k
    · rw [if_pos (enc_iff.mpr e), if_pos e, e]
    · rw [if_neg (fun z => e (enc_iff.mp z)), if_neg e]
theorem getA_nil : getA ([] : List (κ × β)) k = none := rfl
theorem getA_cons (p : κ × β) (M : List (κ × β)) : getA (p :: M) k = if p.1 = k then some p.2 else getA M k := by
  unfold getA
  by_cases h : p.1 = k
  · rw [List.find?_cons_of_pos (by rw [decide_eq_true_eq]; exact h), if_pos h]
    rfl
  · rw [List.find?_cons_of_neg (by rw [decide_eq_true_eq]; exact h), if_neg h]
theorem getA_app (A B : List (κ × β)) : getA (A ++ B) k = (getA A k).or (getA B k) := by
  induction A with
  | nil => rfl
  | cons p A ih =>
    rw [List.cons_append, getA_cons, getA_cons, ih]
    split <;> rfl
theorem getA_mem (h : getA M k = some b) : (k, b) ∈ M := by
  induction M with
  | nil => cases h
  | cons p M ih =>
    rw [getA_cons] at h
    by_cases e : p.1 = k
    · rw [if_pos e] at h
      cases h
      subst e
      exact List.mem_cons_self
    · rw [if_neg e] at h
      exact List.mem_cons_of_mem _ (ih h)
theorem getA_none : getA M k = none ↔ k ∉ M.map (·.1) := by
  induction M with
  | nil => simp [getA]
  | cons p M ih =>
    rw [getA_cons, List.map_cons, List.mem_cons]
    by_cases e : p.1 = k
    · rw [if_pos e]
      simp [e]
    · rw [if_neg e, ih]
      constructor
      · rintro h (z | z)
        · exact e z.symm
        · exact h z
      · exact fun h z => h (.inr z)
theorem getA_isSome : (getA M k).isSome = true ↔ k ∈ M.map (·.1) := by
  cases h : getA M k with
  | none => simp [getA_none.mp h]
  | some b => simp only [Option.isSome_some, true_iff]; exact List.mem_map.mpr ⟨_, getA_mem h, rfl⟩
/-- no key twice -/
def Uq (M : List (κ × β)) : Prop := (M.map (·.1)).Nodup
theorem Uq.nil : Uq ([] : List (κ × β)) := List.nodup_nil
theorem Uq.one (p : κ × β) : Uq [p] := by unfold Uq; simp
theorem Uq.get (U : Uq M) (h : (k, b) ∈ M) : getA M k = some b := by
  induction M with
  | nil => cases h
  | cons p M ih =>
    obtain ⟨h1, h2⟩ := List.nodup_cons.mp (show ((p :: M).map (·.1)).Nodup from U)
    rw [getA_cons]
    rcases List.mem_cons.mp h with e | e
    · subst e
      rw [if_pos rfl]
    · rw [if_neg fun z => h1 (by show p.1 ∈ _; rw [z]; exact List.mem_map.mpr ⟨_, e, rfl⟩)]
      exact ih h2 e
theorem Uq.iff (U : Uq M) : (k, b) ∈ M ↔ getA M k = some b := ⟨U.get, getA_mem⟩
theorem keys_put : (putA M k b).map (·.1) = if (getA M k).isSome = true then M.map (·.1) else M.map (·.1) ++ [k] := by
  unfold putA
  split
  · rw [List.map_map]
    refine List.map_congr_left fun q _ => ?_
    show (if q.1 = k then (k, b) else q).1 = q.1
    split
    · rename_i h
      exact h.symm
    · rfl
  · rw [List.map_append]
    rfl
theorem Uq.put (U : Uq M) : Uq (putA M k b) := by
  unfold Uq
  rw [keys_put]
  split
  · exact U
  · rename_i h
    refine List.nodup_append.mpr ⟨U, by simp, fun a ha c hc e => ?_⟩
    rw [List.mem_singleton.mp hc] at e
    subst e
    exact h (getA_isSome.mpr ha)
theorem getA_put : getA (putA M k b) k2 = if k2 = k then some b else getA M k2 := by
  unfold putA
  split
  · rename_i h
    have hk := getA_isSome.mp h
    clear h
    induction M with
    | nil => cases hk
    | cons p M ih =>
      rw [List.map_cons, getA_cons, getA_cons]
      by_cases e : p.1 = k
      · rw [if_pos e]
        by_cases e2 : k2 = k
        · rw [if_pos e2, if_pos e2.symm]
        · rw [if_neg (fun z => e2 z.symm), if_neg e2, if_neg (fun z => e2 (z.symm.trans e))]
          by_cases hm : k ∈ M.map (·.1)
          · rw [ih hm, if_neg e2]
          · have : (M.map fun p => if p.1 = k then (k, b) else p) = M := by
              have h2 : M.map (fun p => if p.1 = k then (k, b) else p) = M.map id := List.map_congr_left fun q hq => if_neg fun z => hm (by rw [← z]; exact List.mem_map.mpr ⟨q, hq, rfl⟩)
              rw [h2, List.map_id]
            rw [this]
      · rw [if_neg e]
        rw [List.map_cons, List.mem_cons] at hk
        have hm : k ∈ M.map (·.1) := hk.resolve_left fun z => e z.symm
        rw [ih hm]
        by_cases e2 : p.1 = k2
        · rw [if_pos e2, if_neg fun z => e (e2.trans z)]
          rw [if_pos e2]
        · rw [if_neg e2, if_neg e2]
  · rename_i h
    rw [getA_app, getA_cons, getA_nil]
    by_cases e : k2 = k
    · subst e
      rw [if_pos rfl, if_pos rfl]
      cases hh : getA M k2 with
      | none => rfl
      | some x => rw [hh] at h; exact absurd rfl h
    · rw [if_neg e, if_neg fun z => e z.symm]
      cases getA M k2 <;> rfl
end
def KG (C : D → Prop) (x : RV) : Prop := ∃ d, asKey x = some d ∧ C d
def KGget (k : DC) (P : RV → Prop) (d : D) : Prop := keyOk k.t d = true ∧ ∃ w, lookK k.kv (nk d) = some w ∧ P (.d w)
def KGput (i : Nat) (ρ : Env) (Q : Out → Prop) (w d : D) : Prop := ∃ c : DC, own_g ρ i = some c ∧ c.kv.length ≤ 100000 ∧ keyOk c.t d = true ∧ Q (.nx (ρ.set i (some (.g ⟨c.t, putD c.kv d w⟩))))
section
variable {κ β : Type} [DecidableEq κ] {E : Key κ} {v : β → D} {M : List (κ × β)} {key : κ} {b : β}
variable {ρ ρ' : Env} {P : RV → Prop} {Q : Out → Prop} {f h : Env → DV.M RV} {g : Env → DV.M Out} {x y : RV} {tg : D → Env → Option Env} {vs : List Nat} {t : Env → DV.M Bool}
theorem w_G {C : D → Prop} {d : D} (p : C d) : KG C (.d d) := ⟨d, rfl, p⟩
/-- d[k] -/
theorem w_gget {f h : Env → DV.M RV} (p : Gives (f ρ) fun x => ∃ c, dcOf x = some c ∧ Gives (h ρ) (KG (KGget c P))) : Gives (eGGet f h ρ) P := by
  unfold eGGet
  refine Gives.bnd p fun x ⟨c, e, q⟩ => ?_
  rw [e, lft_s, bnd_ret]
  refine Gives.bnd q fun y ⟨d, e2, h1, w, h2, q⟩ => ?_
  rw [e2, lft_s, bnd_ret, if_pos h1, h2, lft_s, bnd_ret]
  exact Gives.ret q
theorem w_dc {c : DC} {C : DC → Prop} (p : C c) : ∃ c', dcOf (.gb c) = some c' ∧ C c' := ⟨c, rfl, p⟩
theorem w_dcN {c : DC} {C : DC → Prop} (p : C c) : ∃ c', dcOf (.gn c) = some c' ∧ C c' := ⟨c, rfl, p⟩
/-- k in d -/
theorem w_gin (E : Key κ) (v : β → D) {key : κ} {kd : D} (ek : kd = E.enc key) (p : P (.d (.bool (getA M key).isSome))) : K2 (gGIn false) P (.d kd) (.gb (dT E v M)) := by
  subst ek
  refine ⟨_, ?_, p⟩
  show (if keyOk E.t (E.enc key) = true then some (RV.d (.bool (lookK (encT E v M) (nk (E.enc key))).isSome)) else none) = _
  rw [if_pos (E.ok _), look_enc]
  cases getA M key <;> rfl
/-- d[k] = x -/
theorem w_gput {i : Nat} {f h : Env → DV.M RV} (p : Gives (f ρ) (KD fun w => Gives (h ρ) (KG (KGput i ρ Q w)))) : Gives (sGPut i f h ρ) Q := by
  unfold sGPut
  refine Gives.bnd p fun x ⟨w, e, q⟩ => ?_
  rw [e, lft_s, bnd_ret]
  refine Gives.bnd q fun y ⟨d, e2, c, h1, h2, h3, q⟩ => ?_
  rw [e2, lft_s, bnd_ret, h1, lft_s, bnd_ret, if_pos ⟨h3, h2⟩]
  exact Gives.ret q
/-- {} and {k: x} -/
theorem w_gnew {tt : Bool} (p : P (.gn ⟨tt, []⟩)) : Gives (eGNew tt ρ) P := Gives.ret p
theorem w_g1 {tt : Bool} {f h : Env → DV.M RV} (p : Gives (f ρ) (KG fun kd => Gives (h ρ) (KD fun w => keyOk tt kd = true ∧ P (.gn ⟨tt, [(kd, w)]⟩)))) : Gives (eG1 tt f h ρ) P := by
  unfold eG1
  refine Gives.bnd p fun x ⟨kd, e, q⟩ => ?_
  rw [e, lft_s, bnd_ret]
  refine Gives.bnd q fun y ⟨w, e2, h1, h2⟩ => ?_
  rw [e2, lft_s, bnd_ret, if_pos h1]
  exact Gives.ret h2
end
section
variable {κ β : Type} [DecidableEq κ]
/-- of what was offered, the table holds under each key one that no offered one beats -/
structure UT (le : β → β → Prop) (dn M : List (κ × β)) : Prop where
  uq : Uq M
  sub : ∀ m ∈ M, m ∈ dn
  all : ∀ o ∈ dn, ∃ b, getA M o.1 = some b ∧ le b o.2
variable {le : β → β → Prop} {dn M : List (κ × β)} {o : κ × β}
theorem UT.nil : UT le ([] : List (κ × β)) [] := ⟨Uq.nil, fun _ h => h, fun _ h => nomatch h⟩
theorem UT.put (tr : ∀ a b c, le a b → le b c → le a c) (rf : ∀ a, le a a) (U : UT le dn M) (h : ∀ b, getA M o.1 = some b → le o.2 b) : UT le (dn ++ [o]) (putA M o.1 o.2) := by
  refine ⟨U.uq.put, fun m hm => ?_, fun q hq => ?_⟩
  · have := U.uq.put (k := o.1) (b := o.2) |>.get (show (m.1, m.2) ∈ putA M o.1 o.2 from hm)
    rw [getA_put] at this
    by_cases e : m.1 = o.1
    · rw [if_pos e] at this
      have e2 := Option.some.inj this
      exact List.mem_append_right _ (List.mem_singleton.mpr (Prod.ext e e2.symm))
    · rw [if_neg e] at this
      exact List.mem_append_left _ (U.sub _ (getA_mem this))
  · rw [getA_put]
    rcases List.mem_append.mp hq with z | z
    · obtain ⟨b, h1, h2⟩ := U.all q z
      by_cases e : q.1 = o.1
      · rw [if_pos e]
        exact ⟨_, rfl, tr _ _ _ (h b (by rw [← e]; exact h1)) h2⟩
      · rw [if_neg e]
        exact ⟨b, h1, h2⟩
    · rw [List.mem_singleton.mp z, if_pos rfl]
      exact ⟨_, rfl, rf _⟩
theorem UT.skip {b : β} (U : UT le dn M) (h : getA M o.1 = some b) (hle : le b o.2) : UT le (dn ++ [o]) M := by
  refine ⟨U.uq, fun m hm => List.mem_append_left _ (U.sub m hm), fun q hq => ?_⟩
  rcases List.mem_append.mp hq with z | z
  · exact U.all q z
  · rw [List.mem_singleton.mp z]
    exact ⟨b, h, hle⟩
end
end DV

namespace DV
open PySem L2
def KSl (P : RV → Prop) (x : RV) (l u : Option Int) : Prop := Gives (eSlice (fun _ => ret x) (fun _ => ret l) (fun _ => ret u) []) P
def KStar (fa : Env → M (List RV)) (ρ : Env) (PA : List RV → Prop) (x : RV) : Prop := ∃ ds, items x = some ds ∧ Gives (fa ρ) fun xs => PA (ds.map RV.d ++ xs)
def KRg (P : RV → Prop) (w : List D → RV) (x : RV) : Prop := ∃ n : Nat, x = .d (.int (n : Int)) ∧ n ≤ 100000 ∧ P (w ((DVL.rngI 0 n).map PyData.int))
def KZip (C : List D × Option Nat → Prop) (p q : List D × Option Nat) : Prop := ∃ l, joinLk p.2 q.2 = some l ∧ C (zipD p.1 q.1, l)
def enI {α : Type} : Int → List α → List (Int × α)
  | _, [] => []
  | k, a :: L => (k, a) :: enI (k + 1) L
section
variable {α β : Type} {ρ ρ' : Env} {P : RV → Prop} {Q : Out → Prop} {PA : List RV → Prop} {f h k : Env → M RV} {fa : Env → M (List RV)} {g : Env → M Out} {t : Env → M Bool} {x y : RV} {C : List D × Option Nat → Prop}
theorem w_ret {m : α} {P : α → Prop} (p : P m) : Gives (ret m) P := Gives.ret p
theorem w_slice {lo hi : Env → M (Option Int)} (p : Gives (f ρ) fun x => Gives (lo ρ) fun l => Gives (hi ρ) fun u => KSl P x l u) : Gives (eSlice f lo hi ρ) P :=
  Gives.bnd p fun x q => Gives.bnd q fun l r => Gives.bnd r fun u s => s
theorem w_part {C : Option Int → Prop} (p : Gives (f ρ) (KI fun i => C (some i))) : Gives (ePart f ρ) C :=
  Gives.bnd p fun x ⟨i, e, q⟩ => by rw [e, lft_s, bnd_ret]; exact Gives.ret q
theorem cut_to (ds : List D) {m : Int} (h : 0 ≤ m) : cutD ds none (some m) = ds.take m.toNat := by
  unfold cutD
  rw [HT.sIx_none, List.drop_zero]
  obtain ⟨n, rfl⟩ : ∃ n : Nat, m = (n : Int) := ⟨m.toNat, by omega⟩
  rw [HT.sIx_nat, Int.toNat_natCast, Nat.sub_zero]
  by_cases h : n ≤ ds.length
  · rw [Nat.min_eq_left h]
  · rw [Nat.min_eq_right (by omega), List.take_of_length_le (Nat.le_refl _), List.take_of_length_le (by omega)]
theorem cut_from (ds : List D) {m : Int} (h : 0 ≤ m) : cutD ds (some m) none = ds.drop m.toNat := by
  unfold cutD
  rw [HT.sIx_none]
  obtain ⟨n, rfl⟩ : ∃ n : Nat, m = (n : Int) := ⟨m.toNat, by omega⟩
  rw [HT.sIx_nat, Int.toNat_natCast]
  by_cases h : n ≤ ds.length
  · rw [Nat.min_eq_left h, List.take_of_length_le (by rw [List.length_drop]; exact Nat.le_refl _)]
  · rw [Nat.min_eq_right (by omega), List.drop_of_length_le (Nat.le_refl _), List.drop_of_length_le (by omega), List.take_nil]
theorem w_slTo {ds : List D} {m : Int} (c : 0 ≤ m) (p : P (.d (.tuple (ds.take m.toNat)))) : KSl P (.d (.tuple ds)) none (some m) := Gives.ret (by rw [cut_to ds c]; exact p)
theorem w_slFrom {ds : List D} {m : Int} (c : 0 ≤ m) (p : P (.d (.tuple (ds.drop m.toNat)))) : KSl P (.d (.tuple ds)) (some m) none := Gives.ret (by rw [cut_from ds c]; exact p)
theorem w_slToI {L : List Int} {m : Int} (c : 0 ≤ m) (p : P (.d (ti (L.take m.toNat)))) : KSl P (.d (ti L)) none (some m) := w_slTo c (by rw [← List.map_take]; exact p)
theorem w_slFromI {L : List Int} {m : Int} (c : 0 ≤ m) (p : P (.d (ti (L.drop m.toNat)))) : KSl P (.d (ti L)) (some m) none := w_slFrom c (by rw [← List.map_drop]; exact p)
theorem w_slToB {ds : List D} {m : Int} (c : 0 ≤ m) (p : P (.n (ds.take m.toNat))) : KSl P (.b ds) none (some m) := Gives.ret (by rw [cut_to ds c]; exact p)
theorem w_slFromB {ds : List D} {m : Int} (c : 0 ≤ m) (p : P (.n (ds.drop m.toNat))) : KSl P (.b ds) (some m) none := Gives.ret (by rw [cut_from ds c]; exact p)
theorem w_slToBI {L : List Int} {m : Int} (c : 0 ≤ m) (p : P (.n ((L.take m.toNat).map PyData.int))) : KSl P (.b (L.map PyData.int)) none (some m) := w_slToB c (by rw [← List.map_take]; exact p)
theorem w_slFromBI {L : List Int} {m : Int} (c : 0 ≤ m) (p : P (.n ((L.drop m.toNat).map PyData.int))) : KSl P (.b (L.map PyData.int)) (some m) none := w_slFromB c (by rw [← List.map_drop]; exact p)
theorem w_star (p : Gives (f ρ) (KStar fa ρ PA)) : Gives (aStar f fa ρ) PA := gv_star p
theorem w_starT {ds : List D} (p : Gives (fa ρ) fun xs => PA (ds.map RV.d ++ xs)) : KStar fa ρ PA (.d (.tuple ds)) := ⟨ds, rfl, p⟩
theorem w_starB {ds : List D} (p : Gives (fa ρ) fun xs => PA (ds.map RV.d ++ xs)) : KStar fa ρ PA (.b ds) := ⟨ds, rfl, p⟩
theorem w_starN {ds : List D} (p : Gives (fa ρ) fun xs => PA (ds.map RV.d ++ xs)) : KStar fa ρ PA (.n ds) := ⟨ds, rfl, p⟩
theorem w_catTI {a b : List Int} (c : a.length + b.length ≤ 100000) (p : P (.d (ti (a ++ b)))) : K2 gAddA P (.d (ti a)) (.d (ti b)) := w_catT (by rw [List.length_map, List.length_map]; exact c) (by rw [← List.map_append]; exact p)
theorem w_catT1 {a : List Int} {b : Int} (c : a.length < 100000) (p : P (.d (ti (a ++ [b])))) : K2 gAddA P (.d (ti a)) (.d (.tuple [.int b])) := w_catTI (b := [b]) c p
theorem w_listG {b : Bool} (p : Gives (f ρ) fun x => ∃ c, dcOf x = some c ∧ P (.n (c.kv.map (wkB b)))) : Gives (eListG b f ρ) P :=
  Gives.bnd p fun x ⟨c, e, q⟩ => by
    rw [e, lft_s, bnd_ret]
    exact Gives.ret q
theorem boolsOf_map (F : α → Bool) : ∀ L : List α, boolsOf (L.map fun a => PyData.bool (F a)) = some (L.map F)
  | [] => rfl
  | a :: L => by
    show (match boolsOf (L.map fun a => PyData.bool (F a)) with | some js => some (F a :: js) | none => none) = _
    rw [boolsOf_map F L]
    rfl
theorem w_all {L : List α} (F : α → Bool) (p : P (.d (.bool (L.all F)))) : KC gAll P [.n (L.map fun a => PyData.bool (F a))] := by
  refine ⟨.d (.bool (L.all F)), ?_, p⟩
  show (boolsOf (L.map fun a => PyData.bool (F a))).map (fun js => RV.d (.bool (js.all id))) = _
  rw [boolsOf_map]
  show some (RV.d (.bool ((L.map F).all id))) = _
  rw [List.all_map]
  rfl
theorem w_any {L : List α} (F : α → Bool) (p : P (.d (.bool (L.any F)))) : KC gAny P [.n (L.map fun a => PyData.bool (F a))] := by
  refine ⟨.d (.bool (L.any F)), ?_, p⟩
  show (boolsOf (L.map fun a => PyData.bool (F a))).map (fun js => RV.d (.bool (js.any id))) = _
  rw [boolsOf_map]
  show some (RV.d (.bool ((L.map F).any id))) = _
  rw [List.any_map]
  rfl
theorem w_eqm {m : M α} {a : α} {P : α → Prop} (e : m = ret a) (p : P a) : Gives m P := gv_eq e p
theorem w_moveG {i j : Nat} {c : DC} (e1 : ρ[j]? = some (some (.g c))) (e : (ρ.set j none).set i (some (.g c)) = ρ') (p : Q (.nx ρ')) : Gives (sMove i j ρ) Q := gv_eq (by unfold sMove; rw [e1]) (by rw [e]; exact p)
theorem w_moveO {i j : Nat} {c : List D} (e1 : ρ[j]? = some (some (.o c))) (e : (ρ.set j none).set i (some (.o c)) = ρ') (p : Q (.nx ρ')) : Gives (sMove i j ρ) Q := gv_eq (by unfold sMove; rw [e1]) (by rw [e]; exact p)
theorem w_moveD {i j : Nat} {c : D} (e1 : ρ[j]? = some (some (.d c))) (e : ρ.set i (some (.d c)) = ρ') (p : Q (.nx ρ')) : Gives (sMove i j ρ) Q := gv_eq (by unfold sMove; rw [e1]) (by rw [e]; exact p)
theorem w_ext {i : Nat} {ds : List D} (e1 : sApp.own? ρ i = some ds) (p : Gives (f ρ) fun x => ∃ es, extL x = some es ∧ ds.length + es.length ≤ 100000 ∧ KSet i ρ Q (.n (ds ++ es))) : Gives (sExt i f ρ) Q := by
  unfold sExt
  rw [e1, lft_s, bnd_ret]
  refine Gives.bnd p fun x ⟨es, e, hl, sv, e2, q⟩ => ?_
  rw [e, lft_s, bnd_ret, if_pos hl]
  cases e2
  exact Gives.ret q
theorem w_while (I : Nat → Env → Prop) (k n : Nat) (hk : k < n) (h0 : I k ρ)
    (hs : ∀ k ρ, I k ρ → Gives (t ρ) (KIf (∃ j, k = j + 1 ∧ Gives (g ρ) (KLoop (I j) Q)) (Q (.nx ρ)))) : Gives (wloopF t g n ρ) Q :=
  Gives.wh I (fun k ρ hi => (hs k ρ hi).mono fun b ⟨h1, h2⟩ => ⟨h2, fun hb => by
    obtain ⟨j, e, q⟩ := h1 hb
    exact ⟨j, e, q.mono fun o ho => by cases o <;> exact ho⟩⟩) k n ρ hk h0
def rowA (T : List (List Int)) (j : Int) : List Int := T.getD j.toNat []
theorem w_ixR {T : List (List Int)} {j : Int} (c : 0 ≤ j ∧ j < T.length) (p : P (.d (ti (rowA T j)))) : K2 gIx P (.d (.tuple (T.map ti))) (.d (.int j)) := by
  refine ⟨.d (ti (rowA T j)), ?_, p⟩
  show (atI (T.map ti) j).map RV.d = _
  obtain ⟨n, rfl⟩ : ∃ n : Nat, j = (n : Int) := ⟨j.toNat, by omega⟩
  have h : (T.map ti)[n]? = some (ti (rowA T n)) := by
    unfold rowA
    rw [List.getElem?_map, Int.toNat_natCast, List.getD_eq_getElem?_getD, List.getElem?_eq_getElem (by omega)]
    rfl
  rw [atI_nat h]
  rfl
theorem w_ixRB {T : List (List Int)} {j : Int} (c : 0 ≤ j ∧ j < T.length) (p : P (.d (ti (rowA T j)))) : K2 gIx P (.b (T.map ti)) (.d (.int j)) := by
  obtain ⟨z, e, q⟩ := w_ixR c p
  exact ⟨z, e, q⟩
/-- an item of any list of a kind -/
theorem w_ixM {L : List α} {mk : α → D} {j : Int} {a : α} (c : 0 ≤ j) (e : L[j.toNat]? = some a) (p : P (.d (mk a))) : K2 gIx P (.d (.tuple (L.map mk))) (.d (.int j)) := by
  refine ⟨.d (mk a), ?_, p⟩
  show (atI (L.map mk) j).map RV.d = _
  obtain ⟨n, rfl⟩ : ∃ n : Nat, j = (n : Int) := ⟨j.toNat, by omega⟩
  rw [Int.toNat_natCast] at e
  rw [atI_nat (v := mk a) (by rw [List.getElem?_map, e]; rfl)]
  rfl
theorem w_lenM {L : List α} {mk : α → D} (p : P (.d (.int (L.length : Nat)))) : KC gLen P [.d (.tuple (L.map mk))] := ⟨.d (.int (L.length : Nat)), by show some (RV.d (.int (((L.map mk).length : Nat) : Int))) = _; rw [List.length_map], p⟩
theorem w_lenMB {L : List α} {mk : α → D} (p : P (.d (.int (L.length : Nat)))) : KC gLen P [.b (L.map mk)] := ⟨.d (.int (L.length : Nat)), by show some (RV.d (.int (((L.map mk).length : Nat) : Int))) = _; rw [List.length_map], p⟩
theorem w_lenMN {L : List α} {mk : α → D} (p : P (.d (.int (L.length : Nat)))) : KC gLen P [.n (L.map mk)] := ⟨.d (.int (L.length : Nat)), by show some (RV.d (.int (((L.map mk).length : Nat) : Int))) = _; rw [List.length_map], p⟩
theorem w_lrg (p : Gives (f ρ) (KRg P RV.n)) : Gives (eListRg (rg1F f) ρ) P := by
  intro rs
  obtain ⟨x, rs1, e, n, rfl, hn, q⟩ := p rs
  refine ⟨_, rs1, ?_, q⟩
  unfold eListRg rg1F bnd
  simp only [e]
  show (if okRg 0 (n : Int) = true then ret (RV.n (rngD 0 ((n : Int) - 0).toNat)) else fail) rs1 = _
  rw [if_pos (by unfold okRg; simp; omega), DVL.rngD_eq]
  have e1 : ((n : Int) - 0).toNat = n := by omega
  rw [e1]
  rfl
theorem w_trg (p : Gives (f ρ) (KRg P fun ds => .d (.tuple ds))) : Gives (eTupRg (rg1F f) ρ) P := by
  intro rs
  obtain ⟨x, rs1, e, n, rfl, hn, q⟩ := p rs
  refine ⟨_, rs1, ?_, q⟩
  unfold eTupRg rg1F bnd
  simp only [e]
  show (if okRg 0 (n : Int) = true then ret (RV.d (.tuple (rngD 0 ((n : Int) - 0).toNat))) else fail) rs1 = _
  rw [if_pos (by unfold okRg; simp; omega), DVL.rngD_eq]
  have e1 : ((n : Int) - 0).toNat = n := by omega
  rw [e1]
  rfl
theorem w_rg {n : Nat} {w : List D → RV} (c : n ≤ 100000) (p : P (w ((DVL.rngI 0 n).map PyData.int))) : KRg P w (.d (.int (n : Int))) := ⟨n, rfl, c, p⟩
theorem w_enum {s : Env → M (List D × Option Nat)} (p : Gives (s ρ) fun q => C (enumD 0 q.1, q.2)) : Gives (iEnumF s ρ) C := Gives.bnd p fun q r => Gives.ret r
theorem enI_map (mk : α → D) : ∀ (L : List α) (k : Nat), enumD k (L.map mk) = (enI (k : Int) L).map fun p => PyData.tuple [.int p.1, mk p.2]
  | [], _ => rfl
  | a :: L, k => by
    show PyData.tuple [.int (k : Nat), mk a] :: enumD (k + 1) (L.map mk) = PyData.tuple [.int (k : Nat), mk a] :: (enI ((k : Int) + 1) L).map _
    rw [enI_map mk L (k + 1)]
    rfl
theorem w_enM {L : List α} {mk : α → D} {lk : Option Nat} (p : C ((enI 0 L).map (fun p => PyData.tuple [.int p.1, mk p.2]), lk)) : C (enumD 0 (L.map mk), lk) := by
  rw [enI_map mk L 0]
  exact p
theorem enI_get : ∀ (L : List α) (k : Int) (p : Int × α), p ∈ enI k L → k ≤ p.1 ∧ p.1 < k + L.length ∧ L[(p.1 - k).toNat]? = some p.2
  | [], _, _, h => nomatch h
  | a :: L, k, p, h => by
    rcases List.mem_cons.mp h with e | e
    · subst e
      refine ⟨Int.le_refl _, by rw [List.length_cons]; omega, ?_⟩
      show (a :: L)[(k - k).toNat]? = some a
      rw [Int.sub_self]
      rfl
    · obtain ⟨h1, h2, h3⟩ := enI_get L (k + 1) p e
      refine ⟨by omega, by rw [List.length_cons]; omega, ?_⟩
      rw [show (p.1 - k).toNat = (p.1 - (k + 1)).toNat + 1 by omega, List.getElem?_cons_succ]
      exact h3
theorem w_zip {s1 s2 : Env → M (List D × Option Nat)} (p : Gives (s1 ρ) fun a => Gives (s2 ρ) fun b => KZip C a b) : Gives (iZipF s1 s2 ρ) C :=
  Gives.bnd p fun a q => Gives.bnd q fun b ⟨l, e, r⟩ => by rw [e, lft_s, bnd_ret]; exact Gives.ret r
theorem w_inN {j : Int} {q : List Int} (p : P (.d (.bool (q.elem j)))) : K2 gIn P (.d (.int j)) (.n (q.map PyData.int)) := ⟨_, in_eq j q, p⟩
theorem w_notInN {j : Int} {q : List Int} (p : P (.d (.bool (!q.elem j)))) : K2 gNotIn P (.d (.int j)) (.n (q.map PyData.int)) := ⟨_, DVL.notIn_eq j q, p⟩
end
end DV

namespace DV
open PySem L2
def KSk (el : Env → M RV) (ip : Nat) (ρ : Env) (P : RV → Prop) (its : List D) : Prop := its.length ≤ 100000 ∧ Gives (keysF el ρ ip its) fun kz => okKeys kz = true ∧ P (.n (sortK its kz))
section
variable {α : Type} {ρ : Env} {P : RV → Prop} {f el : Env → M RV} {ip : Nat} {x : RV}
theorem w_sortK {fi : Env → M (List D)} (p : Gives (fi ρ) (KSk el ip ρ P)) : Gives (eSortK fi el ip ρ) P := by
  unfold eSortK
  refine Gives.bnd p fun its ⟨hl, q⟩ => Gives.bnd q fun kz ⟨h, r⟩ => ?_
  rw [if_pos ⟨h, hl⟩]
  exact Gives.ret r
theorem w_colS {C : List D → Prop} (p : Gives (f ρ) fun x => ∃ ds, items x = some ds ∧ C ds) : Gives (colS f ρ) C := Gives.bnd p fun x ⟨ds, e, q⟩ => by rw [e, lft_s]; exact Gives.ret q
theorem w_itT {C : List D → Prop} {ds : List D} (p : C ds) : ∃ es, items (.d (.tuple ds)) = some es ∧ C es := ⟨ds, rfl, p⟩
theorem w_itB {C : List D → Prop} {ds : List D} (p : C ds) : ∃ es, items (.b ds) = some es ∧ C es := ⟨ds, rfl, p⟩
theorem w_itN {C : List D → Prop} {ds : List D} (p : C ds) : ∃ es, items (.n ds) = some es ∧ C es := ⟨ds, rfl, p⟩
theorem w_colR {C : List D → Prop} (p : Gives (f ρ) fun x => ∃ n : Nat, x = .d (.int (n : Int)) ∧ n ≤ 100000 ∧ C ((DVL.rngI 0 n).map PyData.int)) : Gives (colR (rg1F f) ρ) C := by
  intro rs
  obtain ⟨x, rs1, e, n, rfl, hn, q⟩ := p rs
  refine ⟨_, rs1, ?_, q⟩
  unfold colR rg1F bnd
  simp only [e]
  show (if okRg 0 (n : Int) = true then ret (rngD 0 ((n : Int) - 0).toNat) else fail) rs1 = _
  rw [if_pos (by unfold okRg; simp; omega), DVL.rngD_eq]
  have e1 : ((n : Int) - 0).toNat = n := by omega
  rw [e1]
  rfl
theorem w_colRN {n : Nat} {C : List D → Prop} (c : n ≤ 100000) (p : C ((DVL.rngI 0 n).map PyData.int)) : ∃ m : Nat, RV.d (.int (n : Int)) = .d (.int (m : Int)) ∧ m ≤ 100000 ∧ C ((DVL.rngI 0 m).map PyData.int) := ⟨n, rfl, c, p⟩
def byP (F G : α → Int) (a b : α) : Prop := F a < F b ∨ (F a = F b ∧ G a ≤ G b)
instance (F G : α → Int) (a b : α) : Decidable (byP F G a b) := by unfold byP; exact inferInstance
def sbP (F G : α → Int) (L : List α) : List α := L.mergeSort fun a b => decide (byP F G a b)
def byT (F G H : α → Int) (a b : α) : Prop := F a < F b ∨ (F a = F b ∧ (G a < G b ∨ (G a = G b ∧ H a ≤ H b)))
instance (F G H : α → Int) (a b : α) : Decidable (byT F G H a b) := by unfold byT; exact inferInstance
theorem eqvP (a b c d : Int) : PyData.eqv (.tuple [.int a, .int b]) (.tuple [.int c, .int d]) = decide (a = c ∧ b = d) := by
  simp only [PyData.eqv, PyData.eqvAll]
  by_cases h1 : a = c <;> by_cases h2 : b = d <;> simp [h1, h2]
end
end DV

namespace DV
open PySem L2
def KLc2 (vs : List Nat) (tg : D → Env → Option Env) (t : Env → M Bool) (fi1 : Env → M (List D × Option Nat)) (vs1 : List Nat) (tg1 : D → Env → Option Env) (t1 : Env → M Bool) (el : Env → M RV) (ρ : Env) (P : RV → Prop) (q : List D × Option Nat) : Prop :=
  Gives (lc2F tg t fi1 vs1 tg1 t1 el (wipeE ρ vs) q.1) fun ds => ds.length ≤ 100000 ∧ P (.n ds)
section
variable {α β : Type} {ρ : Env} {P : RV → Prop} {tg tg1 : D → Env → Option Env} {t t1 : Env → M Bool} {fi fi1 : Env → M (List D × Option Nat)} {vs vs1 : List Nat} {el : Env → M RV}
theorem w_lc2 (p : Gives (fi ρ) (KLc2 vs tg t fi1 vs1 tg1 t1 el ρ P)) : Gives (eLc2 fi vs tg t fi1 vs1 tg1 t1 el ρ) P := by
  unfold eLc2
  refine Gives.bnd p fun q r => Gives.bnd r fun ds ⟨hl, k⟩ => ?_
  rw [if_pos hl]
  exact Gives.ret k
theorem w_isNN (p : P (.d (.bool true))) : K2 gIs P (.d .none) (.d .none) := ⟨_, rfl, p⟩
theorem w_isNI {a : Int} (p : P (.d (.bool false))) : K2 gIs P (.d (.int a)) (.d .none) := ⟨_, rfl, p⟩
theorem w_isNT {a : List D} (p : P (.d (.bool false))) : K2 gIs P (.d (.tuple a)) (.d .none) := ⟨_, rfl, p⟩
theorem w_ntNN (p : P (.d (.bool false))) : K2 gIsNot P (.d .none) (.d .none) := ⟨_, rfl, p⟩
theorem w_ntNI {a : Int} (p : P (.d (.bool true))) : K2 gIsNot P (.d (.int a)) (.d .none) := ⟨_, rfl, p⟩
theorem w_ntNT {a : List D} (p : P (.d (.bool true))) : K2 gIsNot P (.d (.tuple a)) (.d .none) := ⟨_, rfl, p⟩
theorem w_repND {x : D} {n : Nat} (c : n ≤ 1000) (p : P (.n (List.replicate n x))) : K2 gMulA P (.n [x]) (.d (.int (n : Nat))) := by
  refine ⟨_, ?_, p⟩
  show (if -1000 ≤ (n : Int) ∧ (n : Int) ≤ 1000 ∧ ([x] : List D).length ≤ 1000 then some (RV.n (List.replicate (n : Int).toNat [x]).flatten) else none) = _
  rw [if_pos ⟨by omega, by omega, by simp⟩, Int.toNat_natCast, List.flatten_replicate_singleton]
def KPut (i : Nat) (ds : List D) (ρ : Env) (Q : Out → Prop) (d : D) (j : Int) : Prop := ∃ m, ixN ds.length j = some m ∧ KSet i ρ Q (.n (ds.set m d))
theorem w_put {i : Nat} {f g : Env → M RV} {Q : Out → Prop} {ds : List D} (e1 : sApp.own? ρ i = some ds) (p : Gives (f ρ) (KD fun d => Gives (g ρ) (KI fun j => KPut i ds ρ Q d j))) : Gives (sPut i f g ρ) Q :=
  DVL.gv_put e1 (p.mono fun x ⟨d, e, q⟩ => q.mono fun y ⟨j, e2, m, e3, sv, e4, q⟩ => ⟨j, d, m, e2, e, e3, by cases e4; exact q⟩)
theorem w_putM {i : Nat} {Q : Out → Prop} {L : List α} {mk : α → D} {d : D} {j : Int} (b : α) (ed : d = mk b) (c : 0 ≤ j ∧ j < L.length) (p : KSet i ρ Q (.n ((L.set j.toNat b).map mk))) : KPut i (L.map mk) ρ Q d j := by
  subst ed
  refine ⟨j.toNat, DVL.ixN_nat c.1 (by rw [List.length_map]; exact c.2), ?_⟩
  rw [← List.map_set]
  exact p
theorem w_putI {i : Nat} {Q : Out → Prop} {L : List Int} {b j : Int} (c : 0 ≤ j ∧ j < L.length) (p : KSet i ρ Q (.n ((L.set j.toNat b).map PyData.int))) : KPut i (L.map PyData.int) ρ Q (.int b) j := w_putM b rfl c p
theorem w_eqB0 {a : List Int} (p : P (.d (.bool (decide (a = []))))) : K2 gEq P (.b (a.map PyData.int)) (.n []) := ⟨_, DVL.eq_lists false a [], p⟩
theorem w_neB0 {a : List Int} (p : P (.d (.bool (!decide (a = []))))) : K2 gNe P (.b (a.map PyData.int)) (.n []) := ⟨_, DVL.eq_lists true a [], p⟩
theorem w_eqBB {a b : List Int} (p : P (.d (.bool (decide (a = b))))) : K2 gEq P (.b (a.map PyData.int)) (.b (b.map PyData.int)) := ⟨_, DVL.eq_lists false a b, p⟩
theorem w_neBB {a b : List Int} (p : P (.d (.bool (!decide (a = b))))) : K2 gNe P (.b (a.map PyData.int)) (.b (b.map PyData.int)) := ⟨_, DVL.eq_lists true a b, p⟩
theorem w_eqNB {a b : List Int} (p : P (.d (.bool (decide (a = b))))) : K2 gEq P (.n (a.map PyData.int)) (.b (b.map PyData.int)) := ⟨_, DVL.eq_lists false a b, p⟩
theorem w_neNB {a b : List Int} (p : P (.d (.bool (!decide (a = b))))) : K2 gNe P (.n (a.map PyData.int)) (.b (b.map PyData.int)) := ⟨_, DVL.eq_lists true a b, p⟩
theorem w_eqBN {a b : List Int} (p : P (.d (.bool (decide (a = b))))) : K2 gEq P (.b (a.map PyData.int)) (.n (b.map PyData.int)) := ⟨_, DVL.eq_lists false a b, p⟩
theorem w_neBN {a b : List Int} (p : P (.d (.bool (!decide (a = b))))) : K2 gNe P (.b (a.map PyData.int)) (.n (b.map PyData.int)) := ⟨_, DVL.eq_lists true a b, p⟩
theorem eq_tis (neg : Bool) (a b : List Int) : gEqB neg (.d (ti a)) (.d (ti b)) = some (.d (.bool (if neg then !decide (a = b) else decide (a = b)))) := by
  show (if SeqAt.shaped (ti a) = true then if SeqAt.shaped (ti b) = true then some (RV.d (.bool (if neg then !PyData.eqv (ti a) (ti b) else PyData.eqv (ti a) (ti b)))) else none else none) = _
  rw [if_pos (DVL.shaped_intsT a), if_pos (DVL.shaped_intsT b)]
  have e : PyData.eqv (ti a) (ti b) = decide (a = b) := by
    show PyData.eqv (.tuple _) (.tuple _) = _
    rw [PyData.eqv]
    exact DVL.eqv_intsA a b
  rw [e]
theorem w_eqT {a b : List Int} (p : P (.d (.bool (decide (a = b))))) : K2 gEq P (.d (ti a)) (.d (ti b)) := ⟨_, eq_tis false a b, p⟩
theorem w_neT {a b : List Int} (p : P (.d (.bool (!decide (a = b))))) : K2 gNe P (.d (ti a)) (.d (ti b)) := ⟨_, eq_tis true a b, p⟩
theorem w_eqT0 {a : List Int} (p : P (.d (.bool (decide (a = []))))) : K2 gEq P (.d (ti a)) (.d (.tuple [])) := ⟨_, eq_tis false a [], p⟩
theorem w_neT0 {a : List Int} (p : P (.d (.bool (!decide (a = []))))) : K2 gNe P (.d (ti a)) (.d (.tuple [])) := ⟨_, eq_tis true a [], p⟩
theorem w_setApp {i : Nat} {Q : Out → Prop} {A : List Int} {b : Int} (p : KSet i ρ Q (.n ((A ++ [b]).map PyData.int))) : KSet i ρ Q (.n (A.map PyData.int ++ [PyData.int b])) := by rw [List.map_append] at p; exact p
theorem w_isT {T : TyT} {f : Env → M RV} (p : Gives (f ρ) fun x => ∃ d, viewD x = some d ∧ P (.d (.bool (isT T d)))) : Gives (eIsT T f ρ) P := gv_isT p
end
end DV

namespace DVL
open PySem L2 DV
local macro_rules
  | `(tactic| get_elem_tactic_trivial) => `(tactic| first
    | (simp only [List.set_cons_succ, List.set_cons_zero, DV.startE, DV.lawE, DV.toK, DV.lockE, DV.wipeE, List.map_cons, List.map_nil, List.length_cons, List.length_nil, List.replicate_zero, List.replicate_succ, Nat.reduceSub, Nat.reduceAdd, List.append_nil, List.cons_append, List.nil_append]; rfl)
    | exact rfl)
local macro_rules
  | `(tactic| infer_instance) => `(tactic| first
    | with_reducible refine DV.w_cons ?_
    | with_reducible refine DV.w_var (by with_unfolding_all exact rfl) ?_
    | with_reducible refine DV.w_c ?_
    | with_reducible refine DV.w_nil ?_
    | with_reducible refine DV.w_e2 ?_
    | with_reducible refine DV.w_seq ?_
    | with_reducible refine DV.w_seqN ?_
    | with_reducible refine DV.w_seqR ?_
    | with_reducible refine DV.w_seqB ?_
    | with_reducible refine DV.w_seqC ?_
    | with_reducible refine DV.w_call ?_
    | with_reducible refine DV.w_fn ?_
    | with_reducible refine DV.w_f1 ?_
    | with_reducible refine DV.w_f2 ?_
    | with_reducible refine DV.w_f3 ?_
    | with_reducible refine DV.w_f4 ?_
    | with_reducible refine DV.w_f5 ?_
    | with_reducible refine DV.w_f6 ?_
    | with_reducible refine DV.w_set ?_
    | with_reducible refine DV.w_setApp ?_
    | with_reducible refine DV.w_setX (by with_unfolding_all exact rfl) (by with_unfolding_all (simp only [List.set_cons_succ, List.set_cons_zero]; rfl)) ?_
    | with_reducible refine DV.w_rt ?_
    | with_reducible refine DV.w_rtD ?_
    | with_reducible refine DV.w_rtN ?_
    | with_reducible refine DV.w_rtV (by with_unfolding_all exact rfl) ?_
    | with_reducible refine DV.w_if ?_
    | with_reducible refine DV.w_drop ?_
    | with_reducible refine DV.w_nop ?_
    | with_reducible refine DV.w_T ?_
    | with_reducible refine DV.w_B ?_
    | with_reducible refine DV.w_not ?_
    | with_reducible refine DV.w_and ?_
    | with_reducible refine DV.w_or ?_
    | with_reducible refine DV.w_ifT ?_
    | with_reducible refine DV.w_ifF ?_
    | with_reducible refine DV.w_ifNT ?_
    | with_reducible refine DV.w_ifNF ?_
    | with_reducible refine DV.w_stup ?_
    | with_reducible refine DV.w_stupD (by with_unfolding_all (simp only [DV.wipeE, DV.gTupF, DV.gMore, DV.gNone, DV.gNm, List.set_cons_succ, List.set_cons_zero, List.length]; rfl)) ?_
    | with_reducible refine DV.w_aug (by with_unfolding_all exact rfl) ?_
    | with_reducible refine DV.w_I ?_
    | with_reducible refine DV.w_app (by with_unfolding_all exact rfl) (by simp only [List.length_map]; omega) ?_
    | with_reducible refine DV.w_D ?_
    | with_reducible refine DV.w_for ?_
    | with_reducible refine DV.w_lc ?_
    | with_reducible refine DV.w_par ?_
    | with_reducible refine DV.w_par3 ?_
    | with_reducible refine DV.w_par4 ?_
    | with_reducible refine DV.w_parX (by with_unfolding_all exact rfl) (by with_unfolding_all exact rfl) (by with_unfolding_all (simp only [List.set_cons_succ, List.set_cons_zero]; rfl)) ?_
    | with_reducible refine DV.w_par3X (by with_unfolding_all exact rfl) (by with_unfolding_all exact rfl) (by with_unfolding_all exact rfl) (by with_unfolding_all (simp only [List.set_cons_succ, List.set_cons_zero]; rfl)) ?_
    | with_reducible refine DV.w_par4X (by with_unfolding_all exact rfl) (by with_unfolding_all exact rfl) (by with_unfolding_all exact rfl) (by with_unfolding_all exact rfl) (by with_unfolding_all (simp only [List.set_cons_succ, List.set_cons_zero]; rfl)) ?_
    | with_reducible refine DV.w_tup ?_
    | with_reducible refine DV.w_lst ?_
    | with_reducible refine DV.w_tu (by with_unfolding_all exact rfl) (by with_unfolding_all exact Nat.le_of_ble_eq_true rfl) ?_
    | with_reducible refine DV.w_ls (by with_unfolding_all exact rfl) (by with_unfolding_all exact Nat.le_of_ble_eq_true rfl) ?_
    | with_reducible refine DV.w_neg ?_
    | with_reducible refine DV.w_ifB ?_
    | with_reducible refine DV.w_ifE ?_
    | with_reducible refine DV.w_notB ?_
    | with_reducible refine DV.w_tt ?_
    | with_reducible refine DV.w_ch ?_
    | with_reducible refine DV.w_add ?_
    | with_reducible refine DV.w_sub ?_
    | with_reducible refine DV.w_mul (by first | omega | (left; constructor <;> omega) | (right; constructor <;> omega)) ?_
    | with_reducible refine DV.w_mod (by omega) ?_
    | with_reducible refine DV.w_div (by omega) ?_
    | with_reducible refine DV.w_lt ?_
    | with_reducible refine DV.w_le ?_
    | with_reducible refine DV.w_gt ?_
    | with_reducible refine DV.w_ge ?_
    | with_reducible refine DV.w_ltA ?_
    | with_reducible refine DV.w_leA ?_
    | with_reducible refine DV.w_gtA ?_
    | with_reducible refine DV.w_geA ?_
    | with_reducible refine DV.w_eq ?_
    | with_reducible refine DV.w_ne ?_
    | with_reducible refine DV.w_eqB ?_
    | with_reducible refine DV.w_neB ?_
    | with_reducible refine DV.w_eqN ?_
    | with_reducible refine DV.w_neN ?_
    | with_reducible refine DV.w_eqN0 ?_
    | with_reducible refine DV.w_neN0 ?_
    | with_reducible refine DV.w_in ?_
    | with_reducible refine DV.w_inB ?_
    | with_reducible refine DV.w_notIn ?_
    | with_reducible refine DV.w_notInB ?_
    | with_reducible refine DV.w_ix0 ?_
    | with_reducible refine DV.w_ix1 ?_
    | with_reducible refine DV.w_ix (by omega) ?_
    | with_reducible refine DV.w_ixB (by omega) ?_
    | with_reducible refine DV.w_len ?_
    | with_reducible refine DV.w_lenB ?_
    | with_reducible refine DV.w_lenN ?_
    | with_reducible refine DV.w_lenM ?_
    | with_reducible refine DV.w_lenMB ?_
    | with_reducible refine DV.w_lenMN ?_
    | with_reducible refine DV.w_lenD ?_
    | with_reducible refine DV.w_lenDB ?_
    | with_reducible refine DV.w_lenDN ?_
    | with_reducible refine DV.w_tupN ?_
    | with_reducible refine DV.w_tupB ?_
    | with_reducible refine DV.w_tupD ?_
    | with_reducible refine DV.w_lstD ?_
    | with_reducible refine DV.w_lstB ?_
    | with_reducible refine DV.w_lstN ?_
    | with_reducible refine DV.w_sum ?_
    | with_reducible refine DV.w_sumN ?_
    | with_reducible refine DV.w_sumB ?_
    | with_reducible refine DV.w_max2 ?_
    | with_reducible refine DV.w_min2 ?_
    | with_reducible refine DV.w_int ?_
    | with_reducible refine DV.w_sort ?_
    | with_reducible refine DV.w_sortN ?_
    | with_reducible refine DV.w_sortB ?_
    | with_reducible refine DV.w_rep (by omega) ?_
    | with_reducible refine DV.w_repN (by omega) ?_
    | with_reducible refine DV.w_moveG (by with_unfolding_all exact rfl) (by with_unfolding_all (simp only [List.set_cons_succ, List.set_cons_zero]; rfl)) ?_
    | with_reducible refine DV.w_moveO (by with_unfolding_all exact rfl) (by with_unfolding_all (simp only [List.set_cons_succ, List.set_cons_zero]; rfl)) ?_
    | with_reducible refine DV.w_moveD (by with_unfolding_all exact rfl) (by with_unfolding_all (simp only [List.set_cons_succ, List.set_cons_zero]; rfl)) ?_
    | with_reducible refine DV.w_catTI (by (try simp only [List.length_append, List.length_take, List.length_drop, List.length_cons, List.length_nil]); omega) ?_
    | with_reducible refine DV.w_catT1 (by (try simp only [List.length_append, List.length_take, List.length_drop, List.length_cons, List.length_nil]); omega) ?_
    | with_reducible refine DV.w_listG ?_
    | with_reducible refine DV.w_sortK ?_
    | with_reducible refine DV.w_colS ?_
    | with_reducible refine DV.w_itT ?_
    | with_reducible refine DV.w_itB ?_
    | with_reducible refine DV.w_itN ?_
    | with_reducible refine DV.w_colR ?_
    | with_reducible refine DV.w_colRN (by omega) ?_
    | with_reducible refine DV.w_ext (by with_unfolding_all exact rfl) ?_
    | with_reducible refine DV.w_lc2 ?_
    | with_reducible refine DV.w_isT ?_
    | with_reducible refine DV.w_isNN ?_
    | with_reducible refine DV.w_isNI ?_
    | with_reducible refine DV.w_isNT ?_
    | with_reducible refine DV.w_ntNN ?_
    | with_reducible refine DV.w_ntNI ?_
    | with_reducible refine DV.w_ntNT ?_
    | with_reducible refine DV.w_repND (by omega) ?_
    | with_reducible refine DV.w_put (by with_unfolding_all exact rfl) ?_
    | with_reducible refine DV.w_putI (by (try simp only [List.length_set, List.length_replicate, List.length_map]); omega) ?_
    | with_reducible refine DV.w_eqB0 ?_
    | with_reducible refine DV.w_neB0 ?_
    | with_reducible refine DV.w_eqBB ?_
    | with_reducible refine DV.w_neBB ?_
    | with_reducible refine DV.w_eqNB ?_
    | with_reducible refine DV.w_neNB ?_
    | with_reducible refine DV.w_eqBN ?_
    | with_reducible refine DV.w_neBN ?_
    | with_reducible refine DV.w_eqT0 ?_
    | with_reducible refine DV.w_neT0 ?_
    | with_reducible refine DV.w_eqT ?_
    | with_reducible refine DV.w_neT ?_
    | with_reducible refine DV.w_gget ?_
    | with_reducible refine DV.w_dc ?_
    | with_reducible refine DV.w_dcN ?_
    | with_reducible refine DV.w_G ?_
    | with_reducible refine DV.w_gput ?_
    | with_reducible refine DV.w_gnew ?_
    | with_reducible refine DV.w_g1 ?_
    | with_reducible refine DV.w_ret ?_
    | with_reducible refine DV.w_slice ?_
    | with_reducible refine DV.w_part ?_
    | with_reducible refine DV.w_slToI (by omega) ?_
    | with_reducible refine DV.w_slFromI (by omega) ?_
    | with_reducible refine DV.w_slToBI (by omega) ?_
    | with_reducible refine DV.w_slFromBI (by omega) ?_
    | with_reducible refine DV.w_star ?_
    | with_reducible refine DV.w_starT ?_
    | with_reducible refine DV.w_starB ?_
    | with_reducible refine DV.w_starN ?_
    | with_reducible refine DV.w_ixR (by omega) ?_
    | with_reducible refine DV.w_ixRB (by omega) ?_
    | with_reducible refine DV.w_lrg ?_
    | with_reducible refine DV.w_trg ?_
    | with_reducible refine DV.w_rg (by omega) ?_
    | with_reducible refine DV.w_enum ?_
    | with_reducible refine DV.w_zip ?_
    | with_reducible refine DV.w_zip3 ?_
    | with_reducible refine DV.w_step ?_
    | with_reducible refine DV.w_stepB (by omega) ?_
    | with_reducible refine DV.w_srev ?_
    | with_reducible refine DV.w_srevT ?_
    | with_reducible refine DV.w_isTT ?_
    | with_reducible refine DV.w_ntTT ?_
    | with_reducible refine DV.w_isFT ?_
    | with_reducible refine DV.w_ntFT ?_
    | with_reducible refine DV.w_isTF ?_
    | with_reducible refine DV.w_ntTF ?_
    | with_reducible refine DV.w_isFF ?_
    | with_reducible refine DV.w_ntFF ?_
    | with_reducible refine DV.w_ixS (by omega) ?_
    | with_reducible refine DV.w_ix2 ?_
    | with_reducible refine DV.w_gget2 ?_
    | with_reducible refine DV.w_notInTs ?_
    | with_reducible refine DV.w_inTs ?_
    | with_reducible refine DV.w_inTsN ?_
    | with_reducible refine DV.w_sset ?_
    | with_reducible refine DV.w_ssetU (by omega) (by assumption) ?_
    | with_reducible refine DV.w_met ?_
    | with_reducible refine DV.w_itL ?_
    | with_reducible refine DV.w_two ?_
    | with_reducible refine DV.w_twoX ?_
    | with_reducible refine DV.w_neS ?_
    | with_reducible refine DV.w_eqS ?_
    | with_reducible refine DV.w_rev ?_
    | with_reducible refine DV.w_revN ?_
    | with_reducible refine DV.w_lset ?_
    | with_reducible refine DV.w_isNL ?_
    | with_reducible refine DV.w_isBL ?_
    | with_reducible refine DV.w_ntNL ?_
    | with_reducible refine DV.w_ntBL ?_
    | with_reducible refine DV.w_abs ?_
    | with_reducible refine DV.w_neBl ?_
    | with_reducible refine DV.w_eqBl ?_
    | with_reducible refine DV.w_eqIP ?_
    | with_reducible refine DV.w_neIP ?_
    | with_reducible refine DV.w_ix3 ?_
    | with_reducible refine DVR.w_neW ?_
    | with_reducible refine DVR.w_ixL (by omega) ?_
    | with_reducible refine DV.w_dcomp ?_
    | with_reducible refine DV.w_intB ?_
    | with_reducible refine DV.w_augIx (by with_unfolding_all exact rfl) ?_
    | with_reducible refine DV.w_inN ?_
    | with_reducible refine DV.w_notInN ?_
    | with_reducible refine DV.w_srcE ?_
    | with_reducible refine DV.w_srcV (by with_unfolding_all exact rfl) ?_
    | with_reducible refine DV.w_src (by with_unfolding_all exact rfl) ?_
    | with_reducible refine DV.w_rng1 ?_
    | with_reducible refine DV.w_rng2 ?_
    | with_reducible refine DV.w_rng2I (by omega) ?_
    | with_reducible refine DV.w_rngN (by omega) ?_
    | with_reducible refine DV.w_rngI (by omega) ?_
    | with_reducible refine DV.w_loopN ?_
    | with_reducible refine DV.w_loopC ?_
    | with_reducible refine DV.w_loopB ?_
    | with_reducible refine DV.w_loopR ?_
    | with_reducible refine DV.w_runN ?_
    | with_reducible refine DV.w_runR ?_
    | with_reducible refine DV.w_tg (by with_unfolding_all (simp only [DV.lockE, DV.unlockE, List.getElem?_cons_succ, List.getElem?_cons_zero, DV.wipeE, DV.gTupF, DV.gMore, DV.gNone, DV.gNm, List.set_cons_succ, List.set_cons_zero, List.length]; rfl)) ?_)
abbrev prT (P : List (Int × Int)) : D := .tuple (P.map pr)
/-- the jobs that are left, and able -/
def lfJ (n : Nat) (done : List Int) : List Int := (rngI 0 n).filter fun j => !done.elem j
def abB (P : List (Int × Int)) (left : List Int) (j : Int) : Bool := P.any fun p => decide (p.2 = j) && left.elem p.1
def Ab (P : List (Int × Int)) (n : Nat) (done : List Int) : List Int := (lfJ n done).filter fun j => !abB P (lfJ n done) j
structure Prs (n : Nat) (P : List (Int × Int)) : Prop where
  rg : ∀ p ∈ P, (0 ≤ p.1 ∧ p.1 < (n : Int)) ∧ 0 ≤ p.2 ∧ p.2 < (n : Int)
  ac : ∃ rk : Int → Nat, ∀ p ∈ P, rk p.1 < rk p.2
  len : P.length ≤ 40
theorem mem_lfJ {n : Nat} {done : List Int} {j : Int} : j ∈ lfJ n done ↔ (0 ≤ j ∧ j < (n : Int)) ∧ j ∉ done := by
  unfold lfJ
  rw [List.mem_filter, mem_rngI]
  simp
theorem lfJ_len (n : Nat) (done : List Int) : (lfJ n done).length ≤ n := by
  have := List.length_filter_le (fun j => !done.elem j) (rngI 0 n)
  rw [rngI_len] at this
  exact this
theorem mem_Ab {n : Nat} {P : List (Int × Int)} {done : List Int} {j : Int} (G : Prs n P) : j ∈ Ab P n done ↔ (0 ≤ j ∧ j < (n : Int)) ∧ j ∉ done ∧ ∀ p ∈ P, p.2 = j → p.1 ∈ done := by
  unfold Ab abB
  rw [List.mem_filter, mem_lfJ]
  simp only [Bool.not_eq_true', List.any_eq_false, Bool.and_eq_true, decide_eq_true_eq, not_and, List.elem_iff]
  constructor
  · rintro ⟨⟨h1, h2⟩, h3⟩
    refine ⟨h1, h2, fun p hp e => ?_⟩
    have := h3 p hp e
    rw [mem_lfJ] at this
    exact Classical.byContradiction fun z => this ⟨(G.rg p hp).1, z⟩
  · rintro ⟨h1, h2, h3⟩
    refine ⟨⟨h1, h2⟩, fun p hp e hm => ?_⟩
    exact (mem_lfJ.mp hm).2 (h3 p hp e)
theorem Ab_nodup (P : List (Int × Int)) (n : Nat) (done : List Int) : (Ab P n done).Nodup := ((rngI_nodup 0 n).sublist List.filter_sublist).sublist List.filter_sublist
theorem Ab_len (P : List (Int × Int)) (n : Nat) (done : List Int) : (Ab P n done).length ≤ n := Nat.le_trans (List.length_filter_le _ _) (lfJ_len n done)
/-- who is left has one that is able -/
theorem Ab_ne {n : Nat} {P : List (Int × Int)} {done : List Int} (G : Prs n P) {j : Int} (hj : 0 ≤ j ∧ j < (n : Int)) (hd : j ∉ done) : Ab P n done ≠ [] := by
  obtain ⟨rk, hrk⟩ := G.ac
  have main : ∀ k (j : Int), rk j ≤ k → (0 ≤ j ∧ j < (n : Int)) → j ∉ done → ∃ i, i ∈ Ab P n done := fun k => by
    induction k with
    | zero =>
      intro j hk h1 h2
      refine ⟨j, (mem_Ab G).mpr ⟨h1, h2, fun p hp e => ?_⟩⟩
      have := hrk p hp
      rw [e] at this
      omega
    | succ k ih =>
      intro j hk h1 h2
      by_cases h : ∀ p ∈ P, p.2 = j → p.1 ∈ done
      · exact ⟨j, (mem_Ab G).mpr ⟨h1, h2, h⟩⟩
      · obtain ⟨p, hp⟩ := Classical.not_forall.mp h
        obtain ⟨hp, h3⟩ := Classical.not_imp.mp hp
        obtain ⟨e, h4⟩ := Classical.not_imp.mp h3
        have := hrk p hp
        rw [e] at this
        exact ih p.1 (by omega) (G.rg p hp).1 h4
  obtain ⟨i, hi⟩ := main _ j (Nat.le_refl _) hj hd
  exact fun e => by rw [e] at hi; cases hi
theorem able_run {n : Nat} {P : List (Int × Int)} {done : List Int} (hn : n ≤ 1000) (hP : P.length ≤ 100000) (sv : SV) (hsv : sv = .d (ti done) ∨ sv = .k (done.map PyData.int)) : DV.Gives (g_able_jobs [some (.d (prT P)), some sv, some (.d (.int (n : Nat))), none, none, none]) (DV.KRun fun r => r = .n ((Ab P n done).map PyData.int)) := by
  unfold g_able_jobs
  rcases hsv with rfl | rfl
  all_goals
    repeat infer_instance
    refine w_lcP (fun j => !done.elem j) id (by rw [rngI_len]; omega) (fun j hj => ?_) ?_
    · repeat infer_instance
      refine ⟨rfl, fun _ => ?_⟩
      repeat infer_instance
      rfl
    rw [List.map_id]
    have hl : ((rngI 0 n).filter fun j => !done.elem j) = lfJ n done := rfl
    rw [hl]
    have hll := lfJ_len n done
    repeat infer_instance
    refine w_lcP (fun j => !abB P (lfJ n done) j) id (by omega) (fun j hj => ?_) ?_
    · repeat infer_instance
      refine w_lcM (fun p : Int × Int => .bool (decide (p.2 = j) && (lfJ n done).elem p.1)) hP (fun p hp => ?_) ?_
      · repeat infer_instance
        refine w_dec (fun h => ?_) (fun h => ?_)
        · repeat infer_instance
          rw [decide_eq_true h]
          rfl
        · repeat infer_instance
          rw [decide_eq_false h]
          rfl
      repeat infer_instance
      refine w_any (fun p : Int × Int => decide (p.2 = j) && (lfJ n done).elem p.1) ?_
      repeat infer_instance
      refine ⟨rfl, fun _ => ?_⟩
      repeat infer_instance
      rfl
    rw [List.map_id]
    repeat infer_instance
    rfl
theorem able_giveB {n : Nat} {P : List (Int × Int)} {done : List Int} (hn : n ≤ 1000) (hP : P.length ≤ 100000) : DV.Gives (m_able_jobs [.d (prT P), .b (done.map PyData.int), .d (.int (n : Nat))]) fun r => r = .n ((Ab P n done).map PyData.int) := by
  unfold m_able_jobs
  refine DV.w_run (by get_elem_tactic_trivial) ?_
  exact able_run hn hP _ (.inr rfl)
/-- each job behind those ahead of it -/
def Ord (P : List (Int × Int)) (q : List Int) : Prop := ∀ A x B, q = A ++ x :: B → ∀ p ∈ P, p.2 = x → p.1 ∈ A
theorem Ord.nil (P : List (Int × Int)) : Ord P [] := fun A x B e => by cases A <;> cases e
theorem ord_snoc {P : List (Int × Int)} {q : List Int} {j : Int} : Ord P (q ++ [j]) ↔ Ord P q ∧ ∀ p ∈ P, p.2 = j → p.1 ∈ q := by
  constructor
  · intro h
    refine ⟨fun A x B e => h A x (B ++ [j]) (by rw [e]; simp), fun p hp e => h q j [] rfl p hp e⟩
  · rintro ⟨h1, h2⟩ A x B e p hp ep
    rcases List.eq_nil_or_concat B with rfl | ⟨B', y, rfl⟩
    · have h3 := List.append_inj' (show q ++ [j] = A ++ [x] from e) rfl
      obtain ⟨e1, e2⟩ := h3
      subst e1
      have e3 : j = x := (List.cons.inj e2).1
      exact h2 p hp (ep.trans e3.symm)
    · have e4 : q ++ [j] = (A ++ x :: B') ++ [y] := by rw [e]; simp
      obtain ⟨e1, e2⟩ := List.append_inj' e4 rfl
      exact h1 A x B' e1 p hp ep
/-- so far a good order -/
structure Pre (P : List (Int × Int)) (n : Nat) (q : List Int) : Prop where
  nd : q.Nodup
  rg : ∀ j ∈ q, 0 ≤ j ∧ j < (n : Int)
  od : Ord P q
theorem Pre.nil (P : List (Int × Int)) (n : Nat) : Pre P n [] := ⟨List.nodup_nil, fun _ h => (nomatch h), Ord.nil P⟩
theorem Pre.snoc {P : List (Int × Int)} {n : Nat} {q : List Int} {j : Int} (G : Prs n P) (h : Pre P n q) (hj : j ∈ Ab P n q) : Pre P n (q ++ [j]) := by
  obtain ⟨h1, h2, h3⟩ := (mem_Ab G).mp hj
  refine ⟨List.nodup_append.mpr ⟨h.nd, by simp, fun a ha b hb e => ?_⟩, fun i hi => ?_, ord_snoc.mpr ⟨h.od, h3⟩⟩
  · rw [List.mem_singleton.mp hb] at e
    subst e
    exact h2 ha
  · rcases List.mem_append.mp hi with z | z
    · exact h.rg i z
    · rw [List.mem_singleton.mp z]; exact h1
theorem Pre.len {P : List (Int × Int)} {n : Nat} {q : List Int} (h : Pre P n q) : q.length ≤ n := by
  have := List.Nodup.length_le_of_subset h.nd (l₂ := rngI 0 n) fun j hj => (mem_rngI _ _ _).mpr (by have := h.rg j hj; omega)
  rwa [rngI_len] at this
theorem Pre.perm {P : List (Int × Int)} {n : Nat} {q : List Int} (h : Pre P n q) (hl : q.length = n) : q.Perm (rngI 0 n) :=
  nodup_perm h.nd (fun j hj => (mem_rngI _ _ _).mpr (by have := h.rg j hj; omega)) (by rw [rngI_len, hl]; exact Nat.le_refl _)
theorem Pre.of {P : List (Int × Int)} {n : Nat} {q : List Int} (h : q.Perm (rngI 0 n)) (o : Ord P q) : Pre P n q :=
  ⟨h.nodup_iff.mpr (rngI_nodup 0 n), fun j hj => by have := (mem_rngI _ _ _).mp (h.mem_iff.mp hj); omega, o⟩
def g_fo : DV.Env → M Out :=
  (sSeq (sSet 2 (eLst aNil))
  (sSeq (wloopF (eT (e2 gLt (eCall gLen (aCons (eVar 2) aNil)) (eVar 1))) (sSeq (sSet 3 (eFn (fun xs => if xs.length = 3 then m_able_jobs xs else fail) (aCons (eVar 0) (aCons (eVar 2) (aCons (eVar 1) aNil)))))
  (sSeq (sIf (eT (e2 gEq (eVar 3) (eLst aNil))) (sRet (eC .none)) sNil)
  (sApp 2 (e2 gIx (eVar 3) (eC (.int 0)))))) 100000)
  (sRet (eCall gTuple (aCons (eVar 2) aNil)))))
def m_fo : List RV → M RV := runDef 4 g_fo
theorem first_order_gives {n : Nat} {P : List (Int × Int)} (hn : n ≤ 1000) (G : Prs n P) : DV.Gives (m_fo [.d (prT P), .d (.int (n : Nat))]) fun r => ∃ q : List Int, r = .d (ti q) ∧ q.Perm (rngI 0 n) ∧ Ord P q := by
  have hP := G.len
  unfold m_fo
  refine DV.w_run (by get_elem_tactic_trivial) ?_
  unfold g_fo
  repeat infer_instance
  refine DV.w_while (fun k ρ => ∃ (q : List Int) (y3 : Option SV), k + q.length = n ∧ Pre P n q ∧ ρ = [some (.d (prT P)), some (.d (.int (n : Nat))), some (.o (q.map PyData.int)), y3]) n 100000 (by omega) ⟨[], none, rfl, Pre.nil P n, rfl⟩ ?_
  rintro k ρ ⟨q, y3, hk, hq, rfl⟩
  repeat infer_instance
  refine w_dec (fun hlt => ?_) (fun hge => ?_)
  · obtain ⟨k', rfl⟩ : ∃ k', k = k' + 1 := ⟨k - 1, by omega⟩
    refine ⟨k', rfl, ?_⟩
    repeat infer_instance
    refine w_is (able_giveB hn (by omega)) ?_
    have hex : ∃ j : Int, (0 ≤ j ∧ j < (n : Int)) ∧ j ∉ q := by
      refine Classical.byContradiction fun hno => ?_
      have := List.Nodup.length_le_of_subset (rngI_nodup 0 n) (l₂ := q) fun j hj => Classical.byContradiction fun z => hno ⟨j, by have := (mem_rngI _ _ _).mp hj; omega, z⟩
      rw [rngI_len] at this
      omega
    obtain ⟨j, hj1, hj2⟩ := hex
    have hne := Ab_ne G hj1 hj2
    obtain ⟨i, rest, hA⟩ : ∃ i rest, Ab P n q = i :: rest := by
      cases h : Ab P n q with
      | nil => exact absurd h hne
      | cons i rest => exact ⟨i, rest, rfl⟩
    have hi : i ∈ Ab P n q := by rw [hA]; exact List.mem_cons_self
    have hal := Ab_len P n q
    repeat infer_instance
    refine w_decF hne ?_
    have hv : val (Ab P n q) 0 = i := by rw [hA]; rfl
    have hpos : 0 < (Ab P n q).length := by rw [hA, List.length_cons]; omega
    repeat infer_instance
    rw [hv]
    exact ⟨q ++ [i], _, by rw [List.length_append, List.length_singleton]; omega, hq.snoc G hi, rfl⟩
  · repeat infer_instance
    exact ⟨q, rfl, hq.perm (by have := hq.len; omega), hq.od⟩
def g_np : DV.Env → M Out :=
  (sSeq (sIf (tNotF (eT (eFn (fun xs => if xs.length = 3 then m_is_list xs else fail) (aCons (eVar 0) (aCons (eC (.int 0)) (aCons (eC (.int 40)) aNil)))))) sNever sNil)
  (sSeq (sFor (iEnumF (srcV 0)) (gTupF 2 (gMore (gNm 2) (gMore (gNm 3) gNone))) (sIf (tIfT (tNotF (eT (eFn (fun xs => if xs.length = 3 then m_is_list xs else fail) (aCons (eVar 3) (aCons (eC (.int 2)) (aCons (eC (.int 2)) aNil)))))) (tRetB true) (tIfT (tNotF (eT (eCall gAll (aCons (eLc (srcV 3) [4] (gNm 4) tTrue (eFn (fun xs => if xs.length = 3 then m_is_in xs else fail) (aCons (eVar 4) (aCons (eC (.int 0)) (aCons (e2 gSubI (eVar 1) (eC (.int 1))) aNil))))) aNil)))) (tRetB true) (eT (e2 gEq (e2 gIx (eVar 3) (eC (.int 0))) (e2 gIx (eVar 3) (eC (.int 1))))))) sNever sNil))
  (sIf (eT (e2 gIs (eFn (fun xs => if xs.length = 2 then m_fo xs else fail) (aCons (eVar 0) (aCons (eVar 1) aNil))) (eC .none))) sNever sNil)))
def m_np : List RV → M RV := runDef 5 g_np
theorem need_pairs_ok {n : Nat} {P : List (Int × Int)} (hn : n ≤ 1000) (G : Prs n P) : DV.Gives (m_np [.d (prT P), .d (.int (n : Nat))]) fun r => r = .d .none := by
  have hP := G.len
  unfold m_np
  refine DV.w_run (by get_elem_tactic_trivial) ?_
  unfold g_np
  repeat infer_instance
  refine w_eqm (is_list_ok (by rw [List.length_map]; omega) (by rw [List.length_map]; omega)) ?_
  repeat infer_instance
  refine w_enM ?_
  refine w_loop0 (fun rest ρ => ∃ (y2 y3 : Option SV), (∀ p ∈ rest, p ∈ enI 0 P) ∧ ρ = [some (.d (prT P)), some (.d (.int (n : Nat))), y2, y3, none]) ⟨_, _, fun p h => h, rfl⟩ ?_ ?_
  · rintro ⟨i, a, b⟩ rest ρ ⟨y2, y3, hr, rfl⟩
    obtain ⟨_, _, hm⟩ := enI_get P 0 _ (hr _ List.mem_cons_self)
    have hmem := List.mem_of_getElem? hm
    obtain ⟨⟨a0, a1⟩, b0, b1⟩ := G.rg _ hmem
    have hab : a ≠ b := fun e => by
      obtain ⟨rk, hrk⟩ := G.ac
      have := hrk _ hmem
      simp only at this
      rw [e] at this
      omega
    repeat infer_instance
    refine w_eqm (is_list_ok (ds := [.int a, .int b]) (by simp) (by simp)) ?_
    repeat infer_instance
    show DV.KLc _ _ _ _ _ _ ([a, b].map PyData.int, none)
    refine w_lcM (fun _ => .bool true) (by simp) (fun x hx => ?_) ?_
    · have hx : 0 ≤ x ∧ x < (n : Int) := by
        rcases List.mem_cons.mp hx with q | q
        · rw [q]; exact ⟨a0, a1⟩
        · rw [List.mem_singleton.mp q]; exact ⟨b0, b1⟩
      repeat infer_instance
      refine w_eqm (is_in_ok (by omega) (by omega)) ?_
      rfl
    repeat infer_instance
    refine w_all (fun _ => true) ?_
    rw [List.all_eq_true.mpr fun _ _ => rfl]
    repeat infer_instance
    refine w_decF hab ?_
    repeat infer_instance
    exact ⟨_, _, fun p hp => hr p (List.mem_cons_of_mem _ hp), rfl⟩
  · rintro ρ ⟨y2, y3, hr, rfl⟩
    repeat infer_instance
    refine w_use (first_order_gives hn G) fun r ⟨q, e, _, _⟩ => ?_
    subst e
    repeat infer_instance
    rfl
end DVL










namespace DVL
open PySem L2 DV
theorem getD_pre (pre : List Int) (x : Int) (l : List Int) : (pre ++ x :: l).getD pre.length 0 = x := by
  rw [List.getD_eq_getElem?_getD, List.getElem?_append_right (Nat.le_refl _), Nat.sub_self]
  rfl
theorem rng_val : ∀ (ws pre : List Int), (rngI (pre.length : Nat) ws.length).map (fun i => (pre ++ ws).getD i.toNat 0) = ws
  | [], _ => rfl
  | w :: ws, pre => by
    have ih := rng_val ws (pre ++ [w])
    rw [List.length_append, List.length_singleton, List.append_assoc] at ih
    show (pre ++ w :: ws).getD ((pre.length : Nat) : Int).toNat 0 :: (rngI ((pre.length : Int) + 1) ws.length).map (fun i => (pre ++ w :: ws).getD i.toNat 0) = w :: ws
    rw [Int.toNat_natCast, getD_pre]
    congr 1
theorem perm_sum {a b : List Int} (h : a.Perm b) : a.sum = b.sum := by
  induction h with
  | nil => rfl
  | cons x _ ih => rw [List.sum_cons, List.sum_cons, ih]
  | swap x y l =>
    rw [List.sum_cons, List.sum_cons, List.sum_cons, List.sum_cons]
    omega
  | trans _ _ h1 h2 => exact h1.trans h2
theorem sum_perm (ts : List Int) {p : List Int} (hp : p.Perm (rngI 0 ts.length)) : (p.map (val ts)).sum = ts.sum := by
  have e := rng_val ts []
  have h : ((rngI 0 ts.length).map (val ts)) = ts := e
  have h2 := (hp.map (val ts))
  rw [h] at h2
  exact perm_sum h2
/-- the law's names -/
theorem Tm.ord {ts p : List Int} (W : Tm ts) (hp : p.Perm (rngI 0 ts.length)) : DV.Gives (m_need_order [.d (ti p), .d (.int ((ts.map PyData.int).length : Nat))]) fun r => r = .d .none := by
  have no := need_order_ok p ts.length (by have := W.len; omega) hp
  rwa [← (List.length_map .. : (ts.map PyData.int).length = ts.length)] at no
end DVL

namespace DVL
open PySem L2 DV
theorem Tm.tp {ts p : List Int} (W : Tm ts) (hp : p.Perm (rngI 0 ts.length)) : ∀ j ∈ p, 1 ≤ val ts j := fun j hj => (W.t (order_mem hp hj).1 (order_mem hp hj).2).1
end DVL

namespace DVL
open PySem L2 DV
abbrev kp (a b : Int) : D := .tuple [.int a, .int b]
/-- in the order of pairs -/
abbrev pLe (k : Int → Int × Int) (i j : Int) : Prop := (k i).1 < (k j).1 ∨ ((k i).1 = (k j).1 ∧ (k i).2 ≤ (k j).2)
end DVL

namespace DVL
open PySem L2 DV
def hitQ (x : Int) (p : Int × Int) : Bool := decide (p.1 ≤ x) && decide (x < p.2)
def hitB (ss : List (Int × Int)) (x : Int) : Bool := ss.any (hitQ x)
def free (ss : List (Int × Int)) (last : Nat) : List Int := (rngI 0 last).filter fun x => !hitB ss x
theorem canLay_prs : ∀ ss : List (Int × Int), PyData.canLayAll0 (ss.map pr) = true
  | [] => by simp [PyData.canLayAll0]
  | p :: ss => by
    rw [List.map_cons, PyData.canLayAll0, canLay_prs ss]
    simp [PyData.canLay0, PyData.canLayAll0]
theorem depth_prs : ∀ ss : List (Int × Int), PyData.depthAll (ss.map pr) ≤ 1
  | [] => by simp [PyData.depthAll]
  | p :: ss => by
    rw [List.map_cons, PyData.depthAll]
    have := depth_prs ss
    simp [PyData.depth, PyData.depthAll]
    omega
theorem shaped_prs (ss : List (Int × Int)) : SeqAt.shaped (.list (ss.map pr)) = true := by
  unfold SeqAt.shaped
  rw [PyData.canLay0, canLay_prs, PyData.depth]
  have := depth_prs ss
  simp
  omega
theorem eqv_empty (ss : List (Int × Int)) : PyData.eqv (.list (ss.map pr)) (.list []) = decide (ss = []) := by
  cases ss with
  | nil => simp [PyData.eqv, PyData.eqvAll]
  | cons p ss => simp [PyData.eqv, PyData.eqvAll]
end DVL


namespace DVL
open PySem L2 DV
def at2 (tb : List (Int × Int)) (j : Int) : Int × Int := tb.getD j.toNat (0, 0)
def srtP (k : Int → Int × Int) (js : List Int) : List Int := js.mergeSort fun i j => decide (pLe k i j)
theorem srtP_perm (k : Int → Int × Int) (js : List Int) : (srtP k js).Perm js := List.mergeSort_perm _ _
end DVL

namespace DVL
open PySem L2 DV
structure Tb (tb : List (Int × Int)) : Prop where
  pos : 1 ≤ tb.length
  len : tb.length ≤ 8
  rng : ∀ p ∈ tb, (0 ≤ p.1 ∧ p.1 ≤ 60) ∧ 0 ≤ p.2 ∧ p.2 ≤ 60
section
variable {tb : List (Int × Int)} {ls : List Int}
theorem at2_mem {j : Int} (h0 : 0 ≤ j) (h1 : j < tb.length) : at2 tb j ∈ tb := by
  unfold at2
  rw [List.getD_eq_getElem?_getD, List.getElem?_eq_getElem (by omega)]
  exact List.getElem_mem _
theorem Tb.at (B : Tb tb) {j : Int} (h0 : 0 ≤ j) (h1 : j < tb.length) : (0 ≤ (at2 tb j).1 ∧ (at2 tb j).1 ≤ 60) ∧ 0 ≤ (at2 tb j).2 ∧ (at2 tb j).2 ≤ 60 := B.rng _ (at2_mem h0 h1)
theorem gIx_tb {j : Int} (h0 : 0 ≤ j) (h1 : j < tb.length) : gIx (.d (sts tb)) (.d (.int j)) = some (.d (pr (at2 tb j))) := by
  obtain ⟨k, rfl⟩ : ∃ k : Nat, j = (k : Int) := ⟨j.toNat, by omega⟩
  have hk : k < tb.length := by omega
  show (atI (tb.map pr) (k : Int)).map RV.d = _
  rw [atI_pr tb hk]
  unfold at2
  rw [Int.toNat_natCast, List.getD_eq_getElem?_getD, List.getElem?_eq_getElem hk]
  rfl
end
end DVL



namespace DVL
open PySem L2 DV
def rowA (tb : List (List Int)) (j : Int) : List Int := tb.getD j.toNat []
end DVL


namespace DVL
open PySem L2 DV
structure Sp (ss : List (Int × Int)) : Prop where
  pos : 1 ≤ ss.length
  len : ss.length ≤ 14
  rng : ∀ p ∈ ss, 0 ≤ p.1 ∧ p.1 < p.2 ∧ p.2 ≤ 600
section
variable {ss : List (Int × Int)}
theorem Sp.at (S : Sp ss) {j : Int} (h0 : 0 ≤ j) (h1 : j < ss.length) : 0 ≤ (at2 ss j).1 ∧ (at2 ss j).1 < (at2 ss j).2 ∧ (at2 ss j).2 ≤ 600 := S.rng _ (at2_mem h0 h1)
end
end DVL

namespace DVL
open PySem L2 DV
theorem gv_sortSet {f : DV.Env → M RV} {ρ : DV.Env} {P : RV → Prop} (p : DV.Gives (f ρ) fun x => ∃ js, sortSetOf x = some js ∧ P (.n (js.map PyData.int))) : DV.Gives (eSortSet f ρ) P := by
  unfold eSortSet
  refine DV.Gives.bnd p fun x ⟨js, e, q⟩ => ?_
  rw [e, lft_s, bnd_ret]
  exact DV.Gives.ret q
theorem sortSet_ti {js : List Int} (h : js.length < 64) : sortSetOf (.d (ti js)) = some (sortI (ddI js)) := by
  unfold sortSetOf
  simp only [intsOf_map, if_pos h]
theorem sort_up {js : List Int} (h : js.Pairwise (· < ·)) : sortI (ddI js) = js := by
  rw [ddI_of_nodup js (h.imp fun h => Int.ne_of_lt h)]
  exact sorted_uniq (sortI_perm js) (sortI_sorted js) (h.imp fun h => Int.le_of_lt h)
theorem sort_nodup {js : List Int} (h : js.Nodup) : (sortI js).Pairwise (· < ·) := by
  have h2 : (sortI js).Nodup := (sortI_perm js).nodup_iff.mpr h
  exact (List.pairwise_and_iff.mpr ⟨sortI_sorted js, h2⟩).imp fun {a b} ⟨h1, h2⟩ => by
    have : a ≠ b := h2
    omega
end DVL

namespace DVL
open PySem L2 DV
def cnt (ss : List (Int × Int)) (d : Int) : Nat := (ss.filter fun p => decide (p.1 ≤ d ∧ d < p.2)).length
end DVL

namespace DVL
open PySem L2 DV
theorem nodup_le : ∀ {p q : List Int}, p.Nodup → (∀ x ∈ p, x ∈ q) → p.length ≤ q.length
  | [], _, _, _ => Nat.zero_le _
  | x :: p, q, nd, hs => by
    obtain ⟨h1, h2⟩ := List.nodup_cons.mp nd
    have hx := hs x List.mem_cons_self
    have e := List.perm_cons_erase hx
    have := nodup_le (q := q.erase x) h2 fun y hy => by
      rcases List.mem_cons.mp (e.mem_iff.mp (hs y (List.mem_cons_of_mem _ hy))) with z | z
      · exact absurd (z ▸ hy) h1
      · exact z
    have h3 := e.length_eq
    rw [List.length_cons] at h3 ⊢
    omega
end DVL

namespace DVL
open PySem L2 DV
section
variable {ss : List (Int × Int)}
/-- the free machines -/
def able (fr : List Int) (b : Int) : List Int := (rngI 0 fr.length).filter fun k => decide (val fr k ≤ b)
theorem boolsOf_map : ∀ bs : List Bool, boolsOf (bs.map PyData.bool) = some bs
  | [] => rfl
  | b :: bs => by
    show (match boolsOf (bs.map PyData.bool) with | some js => some (b :: js) | none => none) = _
    rw [boolsOf_map bs]
end
end DVL

namespace DVL
open PySem L2 DV
section
variable {ss : List (Int × Int)}
theorem rngI_lt : ∀ (n : Nat) (lo : Int), (rngI lo n).Pairwise (· < ·)
  | 0, _ => .nil
  | n + 1, lo => List.pairwise_cons.mpr ⟨fun y hy => by
      have := (mem_rngI y (lo + 1) n).mp hy
      omega, rngI_lt n (lo + 1)⟩
end
end DVL


namespace DVL
open PySem L2 DV
section
variable {ss : List (Int × Int)}
theorem Sp.ne (S : Sp ss) : ss ≠ [] := fun e => by have := S.pos; rw [e] at this; simp at this
end
end DVL

namespace DVL
open PySem L2 DV
section
variable {κ : Type} [DecidableEq κ]
def pm (M : List (κ × Int)) (k : κ) (w : Int) : List (κ × Int) := putA M k (max ((getA M k).getD w) w)
variable {M : List (κ × Int)} {k : κ} {w : Int} {p : κ × Int}
end
abbrev HM := List (List Int × Int)
end DVL

namespace DVL
open PySem L2 DV
section
variable {ss : List (Int × Int)} {ws S T pre : List Int} {i : Int}
abbrev R3 := Int × Int × List Int
end
end DVL

namespace DV
open PySem L2
section
variable {ρ ρ' : Env} {P : RV → Prop} {Q : Out → Prop} {f g : Env → M RV}
def KAx (i : Nat) (kf : Int → Int → Int) (ds : List D) (f : Env → M RV) (ρ : Env) (Q : Out → Prop) (j : Int) : Prop := ∃ m a, ixN ds.length j = some m ∧ (ds[m]?).bind dI = some a ∧ Gives (f ρ) (KI fun b => KSet i ρ Q (.n (ds.set m (.int (kf a b)))))
theorem w_augIx {i : Nat} {kf : Int → Int → Int} {ds : List D} (e1 : sApp.own? ρ i = some ds) (p : Gives (g ρ) (KI (KAx i kf ds f ρ Q))) : Gives (sAugIx i kf g f ρ) Q := by
  unfold sAugIx
  rw [e1, lft_s, bnd_ret]
  refine Gives.bnd p fun y ⟨j, e2, m, a, e3, e4, q⟩ => ?_
  rw [e2, lft_s, bnd_ret, e3, lft_s, bnd_ret, e4, lft_s, bnd_ret]
  refine Gives.bnd q fun x ⟨b, e5, sv, e6, q⟩ => ?_
  rw [e5, lft_s, bnd_ret]
  cases e6
  exact Gives.ret q
theorem w_isBl {a b : Bool} (p : P (.d (.bool (a == b)))) : K2 (gIsBl false) P (.d (.bool a)) (.d (.bool b)) := ⟨.d (.bool (a == b)), by cases a <;> cases b <;> rfl, p⟩
theorem w_ntBl {a b : Bool} (p : P (.d (.bool (a != b)))) : K2 (gIsBl true) P (.d (.bool a)) (.d (.bool b)) := ⟨.d (.bool (a != b)), by cases a <;> cases b <;> rfl, p⟩
theorem w_isTT (p : P (.d (.bool true))) : K2 (gIsBl false) P (.d (.bool true)) (.d (.bool true)) := w_isBl p
theorem w_ntTT (p : P (.d (.bool false))) : K2 (gIsBl true) P (.d (.bool true)) (.d (.bool true)) := w_ntBl p
theorem w_isFT (p : P (.d (.bool false))) : K2 (gIsBl false) P (.d (.bool false)) (.d (.bool true)) := w_isBl p
theorem w_ntFT (p : P (.d (.bool true))) : K2 (gIsBl true) P (.d (.bool false)) (.d (.bool true)) := w_ntBl p
theorem w_isTF (p : P (.d (.bool false))) : K2 (gIsBl false) P (.d (.bool true)) (.d (.bool false)) := w_isBl p
theorem w_ntTF (p : P (.d (.bool true))) : K2 (gIsBl true) P (.d (.bool true)) (.d (.bool false)) := w_ntBl p
theorem w_isFF (p : P (.d (.bool true))) : K2 (gIsBl false) P (.d (.bool false)) (.d (.bool false)) := w_isBl p
theorem w_ntFF (p : P (.d (.bool false))) : K2 (gIsBl true) P (.d (.bool false)) (.d (.bool false)) := w_ntBl p
def KZip3 (C : List D × Option Nat → Prop) (p q r : List D × Option Nat) : Prop := ∃ l l2, joinLk p.2 q.2 = some l ∧ joinLk l r.2 = some l2 ∧ C (zip3D p.1 q.1 r.1, l2)
theorem w_zip3 {C : List D × Option Nat → Prop} {s1 s2 s3 : Env → M (List D × Option Nat)} (p : Gives (s1 ρ) fun a => Gives (s2 ρ) fun b => Gives (s3 ρ) fun c => KZip3 C a b c) : Gives (iZip3F s1 s2 s3 ρ) C :=
  Gives.bnd p fun a q => Gives.bnd q fun b q => Gives.bnd q fun c ⟨l, l2, e, e2, r⟩ => by rw [e, lft_s, bnd_ret, e2, lft_s, bnd_ret]; exact Gives.ret r
end
end DV

namespace DV
open PySem L2
section
variable {κ : Type} [DecidableEq κ] {E : Key κ} {ρ ρ' : Env} {P : RV → Prop} {Q : Out → Prop} {f h k : Env → DV.M RV} {x y : RV}
theorem w_ixS {tb : List (Int × Int)} {j : Int} (c : 0 ≤ j ∧ j < tb.length) (p : P (.d (DVL.pr (DVL.at2 tb j)))) : K2 gIx P (.d (DVL.sts tb)) (.d (.int j)) := ⟨_, DVL.gIx_tb c.1 c.2, p⟩
theorem w_ix2 {d e g : D} {ds : List D} (p : P (.d g)) : K2 gIx P (.d (.tuple (d :: e :: g :: ds))) (.d (.int 2)) := by
  refine ⟨.d g, ?_, p⟩
  show (atI (d :: e :: g :: ds) ((2 : Nat) : Int)).map RV.d = _
  rw [atI_nat (v := g) rfl]; rfl
/-- d.get(k, x) -/
def KGg2 (c : DC) (k : Env → DV.M RV) (ρ : Env) (P : RV → Prop) (d : D) : Prop := keyOk c.t d = true ∧ Gives (k ρ) fun z => P (match lookK c.kv (nk d) with | some vd => .d vd | none => z)
theorem w_gget2 (p : Gives (f ρ) fun x => ∃ c, dcOf x = some c ∧ Gives (h ρ) (KG (KGg2 c k ρ P))) : Gives (eGGet2 f h k ρ) P := by
  unfold eGGet2
  refine Gives.bnd p fun x ⟨c, e, q⟩ => ?_
  rw [e, lft_s, bnd_ret]
  refine Gives.bnd q fun y ⟨d, e2, h1, q2⟩ => ?_
  rw [e2, lft_s, bnd_ret]
  refine Gives.bnd q2 fun z hz => ?_
  rw [if_pos h1]
  revert hz
  cases lookK c.kv (nk d) with
  | none => exact fun hz => Gives.ret hz
  | some vd => exact fun hz => Gives.ret hz
end
end DV

namespace DVB
open PySem L2 DV DVL
/-- what is kept of rows -/
structure Kept (L K : List (Int × Int × List Int)) : Prop where
  sub : ∀ r ∈ K, r ∈ L
  dom : ∀ o ∈ L, ∃ r ∈ K, r.1 ≤ o.1 ∧ r.2.1 ≤ o.2.1
  str : K.Pairwise fun a b => b.2.1 < a.2.1
/-- one row more, of rows in their order -/
theorem Kept.nil : Kept [] [] := ⟨fun _ h => h, fun _ h => (nomatch h), .nil⟩
theorem Kept.skip {L K : List (Int × Int × List Int)} {x : Int × Int × List Int} (h : Kept L K) (hx : ∃ r ∈ K, r.1 ≤ x.1 ∧ r.2.1 ≤ x.2.1) : Kept (L ++ [x]) K :=
  ⟨fun r m => List.mem_append_left _ (h.sub r m), fun o m => by
    rcases List.mem_append.mp m with m | m
    · exact h.dom o m
    · rw [List.mem_singleton] at m
      subst m
      exact hx, h.str⟩
theorem Kept.add {L K : List (Int × Int × List Int)} {x : Int × Int × List Int} (h : Kept L K) (hx : ∀ r ∈ K, x.2.1 < r.2.1) : Kept (L ++ [x]) (K ++ [x]) :=
  ⟨fun r m => by
    rcases List.mem_append.mp m with m | m
    · exact List.mem_append_left _ (h.sub r m)
    · exact List.mem_append_right _ m, fun o m => by
    rcases List.mem_append.mp m with m | m
    · obtain ⟨r, h1, h2⟩ := h.dom o m
      exact ⟨r, List.mem_append_left _ h1, h2⟩
    · rw [List.mem_singleton] at m
      subst m
      exact ⟨o, List.mem_append_right _ List.mem_cons_self, Int.le_refl _, Int.le_refl _⟩,
   List.pairwise_append.mpr ⟨h.str, List.pairwise_singleton .., fun a ha b hb => by
    rw [List.mem_singleton] at hb
    subst hb
    exact hx a ha⟩⟩
theorem Kept.perm {L L' K : List (Int × Int × List Int)} (h : Kept L K) (p : L.Perm L') : Kept L' K := ⟨fun r m => p.mem_iff.mp (h.sub r m), fun o m => h.dom o (p.mem_iff.mpr m), h.str⟩
structure St where
  c : Int
  d : Int
  l : Option Int
section
variable (ts fs ss ord : List Int) (A : Int → Int → Int → Int) (c0 : Int) (k : Nat)
def nxt (s : St) (j : Int) : St := ⟨A s.c j (s.d + val ts j + (if s.l = some (val fs j) then 0 else val ss (val fs j))), s.d + val ts j + (if s.l = some (val fs j) then 0 else val ss (val fs j)), some (val fs j)⟩
def run (p : List Int) : St := p.foldl (nxt ts fs ss A) ⟨c0, 0, none⟩
def ofF (f : Int) (p : List Int) : List Int := p.filter fun j => decide (val fs j = f)
def cnt (p : List Int) (f : Int) : Nat := (ofF fs f p).length
def key (p : List Int) : List Int × Option Int := ((rngI 0 k).map fun f => ((cnt fs p f : Nat) : Int), (run ts fs ss A c0 p).l)
def Leg (p : List Int) : Prop := (∀ j ∈ p, j ∈ ord) ∧ ∀ f, ofF fs f p <+: ofF fs f ord
/-- its row -/
def rw3 (p : List Int) : Int × Int × List Int := ((run ts fs ss A c0 p).c, (run ts fs ss A c0 p).d, p)
variable {ts fs ss ord A c0 k}
theorem run_snoc (p : List Int) (j : Int) : run ts fs ss A c0 (p ++ [j]) = nxt ts fs ss A (run ts fs ss A c0 p) j := by
  unfold run
  rw [List.foldl_append]
  rfl
theorem ofF_snoc (f : Int) (p : List Int) (j : Int) : ofF fs f (p ++ [j]) = ofF fs f p ++ if val fs j = f then [j] else [] := by
  unfold ofF
  rw [List.filter_append]
  by_cases h : val fs j = f
  · rw [if_pos h, List.filter_cons_of_pos (by simpa using h)]
    rfl
  · rw [if_neg h, List.filter_cons_of_neg (by simpa using h)]
    rfl
theorem cnt_snoc (f : Int) (p : List Int) (j : Int) : cnt fs (p ++ [j]) f = cnt fs p f + if val fs j = f then 1 else 0 := by
  unfold cnt
  rw [ofF_snoc, List.length_append]
  split <;> rfl
theorem pre_snoc {l m : List Int} {a : Int} : l ++ [a] <+: m ↔ l <+: m ∧ m[l.length]? = some a := by
  constructor
  · rintro ⟨t, e⟩
    subst e
    refine ⟨⟨a :: t, by simp⟩, ?_⟩
    rw [List.append_assoc, List.getElem?_append_right (Nat.le_refl _), Nat.sub_self]
    rfl
  · rintro ⟨⟨t, e⟩, h⟩
    subst e
    rw [List.getElem?_append_right (Nat.le_refl _), Nat.sub_self] at h
    cases t with
    | nil => cases h
    | cons b t =>
      cases h
      exact ⟨t, by simp⟩
theorem Leg.nil : Leg fs ord [] := ⟨fun _ h => (nomatch h), fun f => List.nil_prefix⟩
theorem leg_snoc {p : List Int} {j : Int} : Leg fs ord (p ++ [j]) ↔ Leg fs ord p ∧ (ofF fs (val fs j) ord)[cnt fs p (val fs j)]? = some j := by
  constructor
  · rintro ⟨h1, h2⟩
    have h3 := h2 (val fs j)
    rw [ofF_snoc, if_pos rfl, pre_snoc] at h3
    refine ⟨⟨fun i hi => h1 i (List.mem_append_left _ hi), fun f => ?_⟩, h3.2⟩
    have h4 := h2 f
    rw [ofF_snoc] at h4
    exact (List.prefix_append ..).trans h4
  · rintro ⟨⟨h1, h2⟩, h3⟩
    have hj : j ∈ ord := (List.mem_filter.mp (List.mem_of_getElem? h3)).1
    refine ⟨fun i hi => ?_, fun f => ?_⟩
    · rcases List.mem_append.mp hi with z | z
      · exact h1 i z
      · rw [List.mem_singleton] at z
        subst z
        exact hj
    · rw [ofF_snoc]
      by_cases h : val fs j = f
      · subst h
        rw [if_pos rfl, pre_snoc]
        exact ⟨h2 _, h3⟩
      · rw [if_neg h, List.append_nil]
        exact h2 f
/-- a job that a family's list tells is of that family -/
theorem ofF_get {f : Int} {i : Nat} {j : Int} (h : (ofF fs f ord)[i]? = some j) : val fs j = f ∧ j ∈ ord := by
  have := List.mem_filter.mp (List.mem_of_getElem? h)
  exact ⟨by simpa using this.2, this.1⟩
theorem Leg.nodup (nd : ord.Nodup) {p : List Int} (h : Leg fs ord p) : p.Nodup := by
  rw [List.nodup_iff_count]
  intro j
  by_cases hj : j ∈ p
  · have h1 := (h.2 (val fs j)).sublist.count_le j
    have e : ∀ q : List Int, (ofF fs (val fs j) q).count j = q.count j := fun q => List.count_filter (by simp)
    rw [e, e] at h1
    exact Nat.le_trans h1 (List.nodup_iff_count.mp nd j)
  · rw [List.count_eq_zero.mpr hj]
    exact Nat.zero_le _
theorem Leg.len (nd : ord.Nodup) {p : List Int} (h : Leg fs ord p) : p.length ≤ ord.length := by
  exact nodup_le (h.nodup nd) h.1
theorem Leg.perm (nd : ord.Nodup) {p : List Int} (h : Leg fs ord p) (hl : p.length = ord.length) : p.Perm ord :=
  nodup_perm (h.nodup nd) h.1 (by omega)
theorem Leg.cnt_le {p : List Int} (h : Leg fs ord p) (f : Int) : cnt fs p f ≤ ord.length := Nat.le_trans (h.2 f).length_le (List.length_filter_le ..)
/-- at the end all lists are done -/
theorem Leg.full (nd : ord.Nodup) {p : List Int} (h : Leg fs ord p) (hl : p.length = ord.length) (f : Int) : cnt fs p f = cnt fs ord f := ((h.perm nd hl).filter _).length_eq
def Mono (A : Int → Int → Int → Int) (ord : List Int) : Prop := ∀ c c' j e e', j ∈ ord → c ≤ c' → e ≤ e' → A c j e ≤ A c' j e'
theorem better (hA : Mono A ord) {r p : List Int} {j : Int} (hj : j ∈ ord) (hl : (run ts fs ss A c0 r).l = (run ts fs ss A c0 p).l) (h1 : (run ts fs ss A c0 r).c ≤ (run ts fs ss A c0 p).c) (h2 : (run ts fs ss A c0 r).d ≤ (run ts fs ss A c0 p).d) :
    (run ts fs ss A c0 (r ++ [j])).c ≤ (run ts fs ss A c0 (p ++ [j])).c ∧ (run ts fs ss A c0 (r ++ [j])).d ≤ (run ts fs ss A c0 (p ++ [j])).d := by
  rw [run_snoc, run_snoc]
  unfold nxt
  rw [hl]
  refine ⟨hA _ _ _ _ _ hj h1 ?_, ?_⟩
  · omega
  · show _ + _ + _ ≤ _ + _ + _
    omega
end
end DVB

namespace DVB
open PySem L2 DV DVL
theorem nodup_leG {α : Type} : ∀ {p q : List α}, p.Nodup → (∀ x ∈ p, x ∈ q) → p.length ≤ q.length
  | [], _, _, _ => Nat.zero_le _
  | x :: p, q, nd, h => by
    rw [List.nodup_cons] at nd
    obtain ⟨s, t, e⟩ := List.append_of_mem (h x List.mem_cons_self)
    subst e
    have := nodup_leG (q := s ++ t) nd.2 fun y hy => by
      have h2 := h y (List.mem_cons_of_mem _ hy)
      rcases List.mem_append.mp h2 with z | z
      · exact List.mem_append_left _ z
      · rcases List.mem_cons.mp z with z | z
        · subst z
          exact absurd hy nd.1
        · exact List.mem_append_right _ z
    rw [List.length_append] at this
    rw [List.length_append, List.length_cons, List.length_cons]
    omega
/-- all keys there may be -/
def allC (n : Nat) : Nat → List (List Int)
  | 0 => [[]]
  | k + 1 => (rngI 0 (n + 1)).flatMap fun x => (allC n k).map (x :: ·)
theorem allC_len (n : Nat) : ∀ k, (allC n k).length = (n + 1) ^ k
  | 0 => rfl
  | k + 1 => by
    have h : ∀ L : List Int, (L.flatMap fun x => (allC n k).map (x :: ·)).length = L.length * (n + 1) ^ k := fun L => by
      induction L with
      | nil => simp
      | cons a L ih => rw [List.flatMap_cons, List.length_append, List.length_map, ih, allC_len n k, List.length_cons, Nat.add_mul, Nat.one_mul, Nat.add_comm]
    show (List.flatMap _ _).length = _
    rw [h, rngI_len, Nat.pow_succ, Nat.mul_comm]
theorem allC_mem (n : Nat) : ∀ (k : Nat) (c : List Int), c.length = k → (∀ x ∈ c, 0 ≤ x ∧ x ≤ (n : Int)) → c ∈ allC n k
  | 0, c, hl, _ => by rw [List.length_eq_zero_iff.mp hl]; exact List.mem_cons_self
  | k + 1, [], hl, _ => nomatch hl
  | k + 1, x :: c, hl, h => by
    show _ ∈ List.flatMap _ _
    rw [List.mem_flatMap]
    refine ⟨x, (mem_rngI _ _ _).mpr ?_, List.mem_map.mpr ⟨c, allC_mem n k c (by simpa using hl) fun y hy => h y (List.mem_cons_of_mem _ hy), rfl⟩⟩
    have := h x List.mem_cons_self
    omega
def allL (k : Nat) : List (Option Int) := none :: (rngI 0 k).map some
theorem allL_len (k : Nat) : (allL k).length = k + 1 := by
  unfold allL
  rw [List.length_cons, List.length_map, rngI_len]
def allK (n k : Nat) : List (List Int × Option Int) := (allL k).flatMap fun l => (allC n k).map fun c => (c, l)
theorem allK_len (n k : Nat) : (allK n k).length = (k + 1) * (n + 1) ^ k := by
  have h : ∀ L : List (Option Int), (L.flatMap fun l => (allC n k).map fun c => (c, l)).length = L.length * (n + 1) ^ k := fun L => by
    induction L with
    | nil => simp
    | cons a L ih => rw [List.flatMap_cons, List.length_append, List.length_map, ih, allC_len n k, List.length_cons, Nat.add_mul, Nat.one_mul, Nat.add_comm]
  unfold allK
  rw [h, allL_len]
section
variable {ts fs ss ord : List Int} {A : Int → Int → Int → Int} {c0 : Int} {k : Nat}
abbrev BT := List ((List Int × Option Int) × List (Int × Int × List Int))
/-- families are in their range -/
def InF (fs ord : List Int) (k : Nat) : Prop := ∀ j ∈ ord, 0 ≤ val fs j ∧ val fs j < (k : Int)
theorem last_in (hF : InF fs ord k) {p : List Int} (h : Leg fs ord p) : (run ts fs ss A c0 p).l ∈ allL k := by
  rcases List.eq_nil_or_concat p with e | ⟨q, j, e⟩
  · subst e
    exact List.mem_cons_self
  · rw [List.concat_eq_append] at e
    subst e
    rw [run_snoc]
    refine List.mem_cons_of_mem _ (List.mem_map.mpr ⟨val fs j, (mem_rngI _ _ _).mpr ?_, rfl⟩)
    have := hF j (h.1 j (List.mem_append_right _ List.mem_cons_self))
    omega
theorem key_in (hF : InF fs ord k) {p : List Int} (h : Leg fs ord p) : key ts fs ss A c0 k p ∈ allK ord.length k := by
  unfold allK
  rw [List.mem_flatMap]
  refine ⟨_, last_in (ts := ts) (ss := ss) (A := A) (c0 := c0) hF h, List.mem_map.mpr ⟨_, allC_mem _ _ _ (by rw [List.length_map, rngI_len]) fun x hx => ?_, rfl⟩⟩
  obtain ⟨f, _, rfl⟩ := List.mem_map.mp hx
  have := h.cnt_le f
  omega
/-- the table, after what was offered -/
structure Tb (ts fs ss ord : List Int) (A : Int → Int → Int → Int) (c0 : Int) (k : Nat) (dn : List (List Int)) (N : BT) : Prop where
  uq : Uq N
  leg : ∀ o ∈ dn, Leg fs ord o
  mem : ∀ e ∈ N, ∀ r ∈ e.2, ∃ o ∈ dn, r = rw3 ts fs ss A c0 o ∧ key ts fs ss A c0 k o = e.1
  ne : ∀ e ∈ N, ∃ o ∈ dn, key ts fs ss A c0 k o = e.1
  dom : ∀ o ∈ dn, ∃ rows, getA N (key ts fs ss A c0 k o) = some rows ∧ ∃ r ∈ rows, r.1 ≤ (run ts fs ss A c0 o).c ∧ r.2.1 ≤ (run ts fs ss A c0 o).d
  str : ∀ e ∈ N, e.2.Pairwise fun a b => b.2.1 < a.2.1
theorem Tb.nil : Tb ts fs ss ord A c0 k [] [] := ⟨Uq.nil, fun _ h => (nomatch h), fun _ h => (nomatch h), fun _ h => (nomatch h), fun _ h => (nomatch h), fun _ h => (nomatch h)⟩
theorem mem_put {M : BT} (U : Uq M) {x : List Int × Option Int} {b : List (Int × Int × List Int)} {e : (List Int × Option Int) × List (Int × Int × List Int)} (h : e ∈ putA M x b) : e = (x, b) ∨ e ∈ M := by
  have h1 : getA (putA M x b) e.1 = some e.2 := U.put.get h
  rw [getA_put] at h1
  by_cases he : e.1 = x
  · rw [if_pos he] at h1
    cases h1
    exact .inl (by rw [← he])
  · rw [if_neg he] at h1
    exact .inr (getA_mem h1)
theorem Tb.put {dn : List (List Int)} {N : BT} (T : Tb ts fs ss ord A c0 k dn N) {o : List Int} (ho : Leg fs ord o) {K : List (Int × Int × List Int)} (hK : Kept ((getA N (key ts fs ss A c0 k o)).getD [] ++ [rw3 ts fs ss A c0 o]) K) :
    Tb ts fs ss ord A c0 k (dn ++ [o]) (putA N (key ts fs ss A c0 k o) K) := by
  have old : ∀ r ∈ (getA N (key ts fs ss A c0 k o)).getD [], ∃ o' ∈ dn, r = rw3 ts fs ss A c0 o' ∧ key ts fs ss A c0 k o' = key ts fs ss A c0 k o := fun r hr => by
    cases e : getA N (key ts fs ss A c0 k o) with
    | none => rw [e] at hr; exact nomatch hr
    | some rows =>
      rw [e] at hr
      exact T.mem _ (getA_mem e) r hr
  refine ⟨T.uq.put, fun p hp => ?_, fun e he r hr => ?_, fun e he => ?_, fun p hp => ?_, fun e he => ?_⟩
  · rcases List.mem_append.mp hp with z | z
    · exact T.leg p z
    · rw [List.mem_singleton] at z
      subst z
      exact ho
  · rcases mem_put T.uq he with z | z
    · subst z
      rcases List.mem_append.mp (hK.sub r hr) with y | y
      · obtain ⟨o', h1, h2, h3⟩ := old r y
        exact ⟨o', List.mem_append_left _ h1, h2, h3⟩
      · rw [List.mem_singleton] at y
        exact ⟨o, List.mem_append_right _ List.mem_cons_self, y, rfl⟩
    · obtain ⟨o', h1, h2, h3⟩ := T.mem e z r hr
      exact ⟨o', List.mem_append_left _ h1, h2, h3⟩
  · rcases mem_put T.uq he with z | z
    · subst z
      exact ⟨o, List.mem_append_right _ List.mem_cons_self, rfl⟩
    · obtain ⟨o', h1, h2⟩ := T.ne e z
      exact ⟨o', List.mem_append_left _ h1, h2⟩
  · rw [getA_put]
    by_cases hk : key ts fs ss A c0 k p = key ts fs ss A c0 k o
    · rw [if_pos hk]
      refine ⟨K, rfl, ?_⟩
      rcases List.mem_append.mp hp with z | z
      · obtain ⟨rows, h1, r, h2, h3, h4⟩ := T.dom p z
        rw [hk] at h1
        obtain ⟨r', k1, k2, k3⟩ := hK.dom r (List.mem_append_left _ (by rw [h1]; exact h2))
        exact ⟨r', k1, by omega, by omega⟩
      · rw [List.mem_singleton] at z
        subst z
        exact hK.dom _ (List.mem_append_right _ List.mem_cons_self)
    · rw [if_neg hk]
      rcases List.mem_append.mp hp with z | z
      · exact T.dom p z
      · rw [List.mem_singleton] at z
        subst z
        exact absurd rfl hk
  · rcases mem_put T.uq he with z | z
    · subst z
      exact hK.str
    · exact T.str e z
theorem Tb.len (hF : InF fs ord k) {dn : List (List Int)} {N : BT} (T : Tb ts fs ss ord A c0 k dn N) : N.length ≤ (k + 1) * (ord.length + 1) ^ k := by
  rw [← allK_len, ← List.length_map (f := (·.1)) (as := N)]
  refine nodup_leG T.uq fun x hx => ?_
  obtain ⟨e, he, rfl⟩ := List.mem_map.mp hx
  obtain ⟨o, h1, h2⟩ := T.ne e he
  rw [← h2]
  exact key_in hF (T.leg o h1)
/-- what a row is continued by -/
def off (fs ord : List Int) (o : List Int) (f : Int) : List (List Int) := match (ofF fs f ord)[cnt fs o f]? with
  | some j => [o ++ [j]]
  | none => []
def nx (fs ord : List Int) (k : Nat) (o : List Int) : List (List Int) := (rngI 0 k).flatMap (off fs ord o)
def offs (fs ord : List Int) (k : Nat) (rows : List (Int × Int × List Int)) : List (List Int) := rows.flatMap fun r => nx fs ord k r.2.2
def offM (fs ord : List Int) (k : Nat) (M : BT) : List (List Int) := M.flatMap fun e => offs fs ord k e.2
/-- the table at the turn t -/
structure TT (ts fs ss ord : List Int) (A : Int → Int → Int → Int) (c0 : Int) (k : Nat) (t : Nat) (M : BT) : Prop where
  uq : Uq M
  mem : ∀ e ∈ M, ∀ r ∈ e.2, ∃ o, Leg fs ord o ∧ o.length = t ∧ r = rw3 ts fs ss A c0 o ∧ key ts fs ss A c0 k o = e.1
  ne : ∀ e ∈ M, ∃ o, Leg fs ord o ∧ o.length = t ∧ key ts fs ss A c0 k o = e.1
  dom : ∀ p, Leg fs ord p → p.length = t → ∃ rows, getA M (key ts fs ss A c0 k p) = some rows ∧ ∃ r ∈ rows, r.1 ≤ (run ts fs ss A c0 p).c ∧ r.2.1 ≤ (run ts fs ss A c0 p).d
  str : ∀ e ∈ M, e.2.Pairwise fun a b => b.2.1 < a.2.1
theorem TT.zero : TT ts fs ss ord A c0 k 0 [(key ts fs ss A c0 k [], [rw3 ts fs ss A c0 []])] := by
  refine ⟨Uq.one _, fun e he r hr => ?_, fun e he => ?_, fun p _ hl => ?_, fun e he => ?_⟩
  · rw [List.mem_singleton] at he
    subst he
    rw [List.mem_singleton] at hr
    exact ⟨[], Leg.nil, rfl, hr, rfl⟩
  · rw [List.mem_singleton] at he
    subst he
    exact ⟨[], Leg.nil, rfl, rfl⟩
  · rw [List.length_eq_zero_iff.mp hl]
    refine ⟨_, by rw [getA_cons, if_pos rfl], _, List.mem_cons_self, Int.le_refl _, Int.le_refl _⟩
  · rw [List.mem_singleton] at he
    subst he
    exact List.pairwise_singleton ..
theorem off_leg {o : List Int} (h : Leg fs ord o) {f : Int} {q : List Int} (hq : q ∈ off fs ord o f) : Leg fs ord q ∧ q.length = o.length + 1 := by
  unfold off at hq
  split at hq
  · rename_i j e
    rw [List.mem_singleton] at hq
    subst hq
    obtain ⟨h1, _⟩ := ofF_get e
    subst h1
    exact ⟨leg_snoc.mpr ⟨h, e⟩, by rw [List.length_append]; rfl⟩
  · exact nomatch hq
theorem offM_leg {t : Nat} {M : BT} (T : TT ts fs ss ord A c0 k t M) {q : List Int} (hq : q ∈ offM fs ord k M) : Leg fs ord q ∧ q.length = t + 1 := by
  unfold offM at hq
  obtain ⟨e, he, hq⟩ := List.mem_flatMap.mp hq
  unfold offs at hq
  obtain ⟨r, hr, hq⟩ := List.mem_flatMap.mp hq
  unfold nx at hq
  obtain ⟨f, _, hq⟩ := List.mem_flatMap.mp hq
  obtain ⟨o, h1, h2, h3, _⟩ := T.mem e he r hr
  subst h3
  have := off_leg h1 hq
  exact ⟨this.1, by rw [this.2]; show o.length + 1 = _; rw [h2]⟩
theorem key_eq {o p : List Int} (h : key ts fs ss A c0 k o = key ts fs ss A c0 k p) : (∀ f, 0 ≤ f → f < (k : Int) → cnt fs o f = cnt fs p f) ∧ (run ts fs ss A c0 o).l = (run ts fs ss A c0 p).l := by
  unfold key at h
  rw [Prod.mk.injEq] at h
  refine ⟨fun f h0 h1 => ?_, h.2⟩
  have h2 := List.map_inj_left.mp h.1 f ((mem_rngI _ _ _).mpr (by omega))
  have h2 : ((cnt fs o f : Nat) : Int) = ((cnt fs p f : Nat) : Int) := h2
  omega
theorem TT.next (hA : Mono A ord) (hF : InF fs ord k) {t : Nat} {M N : BT} (T : TT ts fs ss ord A c0 k t M) (B : Tb ts fs ss ord A c0 k (offM fs ord k M) N) : TT ts fs ss ord A c0 k (t + 1) N := by
  refine ⟨B.uq, fun e he r hr => ?_, fun e he => ?_, fun p hp hl => ?_, B.str⟩
  · obtain ⟨o, h1, h2, h3⟩ := B.mem e he r hr
    obtain ⟨h4, h5⟩ := offM_leg T h1
    exact ⟨o, h4, h5, h2, h3⟩
  · obtain ⟨o, h1, h2⟩ := B.ne e he
    obtain ⟨h4, h5⟩ := offM_leg T h1
    exact ⟨o, h4, h5, h2⟩
  · rcases List.eq_nil_or_concat p with e | ⟨q, j, e⟩
    · subst e
      cases hl
    rw [List.concat_eq_append] at e
    subst e
    rw [List.length_append] at hl
    obtain ⟨hq, hj⟩ := leg_snoc.mp hp
    have hjo := (ofF_get hj).2
    obtain ⟨rows, g1, r, hr, d1, d2⟩ := T.dom q hq (by simpa using hl)
    obtain ⟨o, o1, o2, o3, o4⟩ := T.mem _ (getA_mem g1) r hr
    subst o3
    have o4 : key ts fs ss A c0 k o = key ts fs ss A c0 k q := o4
    obtain ⟨k1, k2⟩ := key_eq o4
    have hf := hF j hjo
    have hin : o ++ [j] ∈ offM fs ord k M := by
      unfold offM
      refine List.mem_flatMap.mpr ⟨_, getA_mem g1, ?_⟩
      unfold offs
      refine List.mem_flatMap.mpr ⟨_, hr, ?_⟩
      unfold nx
      refine List.mem_flatMap.mpr ⟨val fs j, (mem_rngI _ _ _).mpr (by omega), ?_⟩
      unfold off
      show o ++ [j] ∈ (match (ofF fs (val fs j) ord)[cnt fs o (val fs j)]? with | some j => [o ++ [j]] | none => [])
      rw [k1 _ hf.1 hf.2, hj]
      exact List.mem_cons_self
    obtain ⟨b1, b2⟩ := better hA hjo k2 d1 d2
    have hk : key ts fs ss A c0 k (o ++ [j]) = key ts fs ss A c0 k (q ++ [j]) := by
      unfold key
      rw [Prod.mk.injEq]
      refine ⟨List.map_congr_left fun f hf => ?_, by rw [run_snoc, run_snoc]; rfl⟩
      have := (mem_rngI _ _ _).mp hf
      rw [cnt_snoc, cnt_snoc, k1 f this.1 (by omega)]
    obtain ⟨rows2, g2, r2, m2, e1, e2⟩ := B.dom _ hin
    rw [hk] at g2
    exact ⟨rows2, g2, r2, m2, by omega, by omega⟩
end
end DVB

namespace DVS
open PySem L2 DV DVL DVB
/-- a day that can be done behind some jobs -/
structure DayOk (n : Nat) (P : List (Int × Int)) (b : Nat) (S day : List Int) : Prop where
  able : ∀ j ∈ day, j ∈ Ab P n S
  nd : day.Nodup
  len : day.length ≤ b
/-- days one behind the other -/
inductive Pl (n : Nat) (P : List (Int × Int)) (b : Nat) : List Int → List (List Int) → Prop
  | nil {S : List Int} : Pl n P b S []
  | cons {S day : List Int} {ds : List (List Int)} : DayOk n P b S day → Pl n P b (S ++ day) ds → Pl n P b S (day :: ds)
section
variable {n : Nat} {P : List (Int × Int)} {b : Nat}
/-- the jobs done stand behind those ahead of them -/
structure Dn (n : Nat) (P : List (Int × Int)) (S : List Int) : Prop where
  nd : S.Nodup
  rg : ∀ j ∈ S, 0 ≤ j ∧ j < (n : Int)
  cl : ∀ p ∈ P, p.2 ∈ S → p.1 ∈ S
theorem Dn.nil : Dn n P [] := ⟨List.nodup_nil, fun _ h => (nomatch h), fun _ _ h => nomatch h⟩
theorem Dn.add (G : Prs n P) {S day : List Int} (h : Dn n P S) (hd : DayOk n P b S day) : Dn n P (S ++ day) := by
  refine ⟨List.nodup_append.mpr ⟨h.nd, hd.nd, fun a ha c hc e => ?_⟩, fun j hj => ?_, fun p hp hj => ?_⟩
  · subst e
    exact ((mem_Ab G).mp (hd.able a hc)).2.1 ha
  · rcases List.mem_append.mp hj with z | z
    · exact h.rg j z
    · exact ((mem_Ab G).mp (hd.able j z)).1
  · rcases List.mem_append.mp hj with z | z
    · exact List.mem_append_left _ (h.cl p hp z)
    · exact List.mem_append_left _ (((mem_Ab G).mp (hd.able _ z)).2.2 p hp rfl)
theorem Dn.pl (G : Prs n P) : ∀ {ds : List (List Int)} {S : List Int}, Dn n P S → Pl n P b S ds → Dn n P (S ++ ds.flatten)
  | [], S, h, _ => by rw [List.flatten_nil, List.append_nil]; exact h
  | d :: ds, S, h, hp => by
    cases hp with
    | cons h1 h2 =>
      rw [List.flatten_cons, ← List.append_assoc]
      exact Dn.pl G (h.add G h1) h2
/-- levels: lengths of the longest rows from each job on -/
structure Lvl (n : Nat) (P : List (Int × Int)) (lv : Int → Int) : Prop where
  ge : ∀ j, 0 ≤ j → j < (n : Int) → 1 ≤ lv j
  dn : ∀ p ∈ P, lv p.2 + 1 ≤ lv p.1
  ex : ∀ j, 0 ≤ j → j < (n : Int) → lv j = 1 ∨ ∃ p ∈ P, p.1 = j ∧ lv j = lv p.2 + 1
variable {lv : Int → Int}
/-- the jobs left above a level -/
def rem (n : Nat) (lv : Int → Int) (S : List Int) (L : Int) : List Int := (rngI 0 n).filter fun j => !S.elem j && decide (L < lv j)
theorem mem_rem {S : List Int} {L j : Int} : j ∈ rem n lv S L ↔ (0 ≤ j ∧ j < (n : Int)) ∧ j ∉ S ∧ L < lv j := by
  unfold rem
  rw [List.mem_filter, mem_rngI, Bool.and_eq_true, Bool.not_eq_true', decide_eq_true_eq]
  constructor
  · rintro ⟨a, b, c⟩
    exact ⟨by omega, (fun z => by rw [List.elem_eq_true_of_mem z] at b; cases b), c⟩
  · rintro ⟨a, b, c⟩
    refine ⟨by omega, ?_, c⟩
    cases e : S.elem j with
    | false => rfl
    | true => exact absurd (List.mem_of_elem_eq_true e) b
theorem rem_nd (S : List Int) (L : Int) : (rem n lv S L).Nodup := (rngI_nodup 0 n).filter _
theorem rem_day {S day : List Int} {L : Int} : (rem n lv S L).length ≤ (rem n lv (S ++ day) L).length + day.length := by
  rw [← List.length_append]
  refine nodup_leG (rem_nd S L) fun j hj => ?_
  obtain ⟨a, c, d⟩ := mem_rem.mp hj
  by_cases e : j ∈ day
  · exact List.mem_append_right _ e
  · exact List.mem_append_left _ (mem_rem.mpr ⟨a, fun z => (List.mem_append.mp z).elim c e, d⟩)
/-- no plan is shorter than what is left above a level asks -/
theorem low (G : Prs n P) (V : Lvl n P lv) : ∀ (ds : List (List Int)) (S : List Int), Dn n P S → Pl n P b S ds → (∀ j, 0 ≤ j → j < (n : Int) → j ∈ S ++ ds.flatten) → ∀ L : Nat, (rem n lv S (L : Int)).length ≤ b * (ds.length - L) ∧ ((ds.length : Nat) ≤ L → rem n lv S (L : Int) = [])
  | [], S, hS, _, hf, L => by
    have e : rem n lv S (L : Int) = [] := List.eq_nil_iff_forall_not_mem.mpr fun j hj => by
      obtain ⟨a, c, _⟩ := mem_rem.mp hj
      have := hf j a.1 a.2
      rw [List.flatten_nil, List.append_nil] at this
      exact c this
    exact ⟨by rw [e]; exact Nat.zero_le _, fun _ => e⟩
  | d :: ds, S, hS, hp, hf, L => by
    cases hp with
    | cons h1 h2 =>
      have ih := low G V ds (S ++ d) (hS.add G h1) h2 fun j a c => by
        have := hf j a c
        rw [List.flatten_cons, ← List.append_assoc] at this
        exact this
      have emp : (d :: ds).length ≤ L → rem n lv S (L : Int) = [] := fun hl => List.eq_nil_iff_forall_not_mem.mpr fun j hj => by
        rw [List.length_cons] at hl
        obtain ⟨a, c, e⟩ := mem_rem.mp hj
        have h0 := (ih (L - 1)).2 (by omega)
        have hin : ∀ k, (0 ≤ k ∧ k < (n : Int)) → ((L - 1 : Nat) : Int) < lv k → k ∈ S ++ d := fun k hk hl2 => Classical.byContradiction fun hn => by
          have : k ∈ rem n lv (S ++ d) ((L - 1 : Nat) : Int) := mem_rem.mpr ⟨hk, hn, hl2⟩
          rw [h0] at this
          exact nomatch this
        rcases V.ex j a.1 a.2 with h | ⟨p, hpP, e1, e2⟩
        · omega
        · have hk := hin p.2 (by have := G.rg p hpP; omega) (by omega)
          rcases List.mem_append.mp hk with z | z
          · exact c (e1 ▸ hS.cl p hpP z)
          · exact c (e1 ▸ ((mem_Ab G).mp (h1.able _ z)).2.2 p hpP rfl)
      refine ⟨?_, emp⟩
      by_cases hl : (d :: ds).length ≤ L
      · rw [emp hl]; exact Nat.zero_le _
      · rw [List.length_cons] at hl ⊢
        have h3 := (ih L).1
        have h4 := rem_day (n := n) (lv := lv) (S := S) (day := d) (L := (L : Int))
        have h5 := h1.len
        have e : b * (ds.length + 1 - L) = b * (ds.length - L) + b := by
          rw [show ds.length + 1 - L = (ds.length - L) + 1 by omega, Nat.mul_add, Nat.mul_one]
        omega
/-- a day of the able jobs of the highest levels -/
structure Hi (n : Nat) (P : List (Int × Int)) (b : Nat) (lv : Int → Int) (S day : List Int) : Prop where
  ok : DayOk n P b S day
  full : ∀ y ∈ Ab P n S, y ∉ day → day.length = b ∧ ∀ x ∈ day, lv y ≤ lv x
/-- the able jobs not below a level -/
def abH (n : Nat) (P : List (Int × Int)) (lv : Int → Int) (M : Int) (S : List Int) : List Int := (Ab P n S).filter fun j => decide (M ≤ lv j)
def dayH (lv : Int → Int) (M : Int) (day : List Int) : List Int := day.filter fun j => decide (M ≤ lv j)
theorem mem_abH {M : Int} {S : List Int} {j : Int} : j ∈ abH n P lv M S ↔ j ∈ Ab P n S ∧ M ≤ lv j := by
  unfold abH; rw [List.mem_filter, decide_eq_true_eq]
/-- a day on which fewer than all machines are on high jobs takes all able high jobs -/
theorem Hi.all {S day : List Int} {M : Int} (h : Hi n P b lv S day) (hl : (dayH lv M day).length < b) : ∀ y ∈ abH n P lv M S, y ∈ day := fun y hy => Classical.byContradiction fun hn => by
  obtain ⟨h1, h2⟩ := mem_abH.mp hy
  obtain ⟨h3, h4⟩ := h.full y h1 hn
  have : dayH lv M day = day := List.filter_eq_self.mpr fun x hx => decide_eq_true (by have := h4 x hx; omega)
  rw [this] at hl
  omega
/-- days by levels -/
inductive Hp (n : Nat) (P : List (Int × Int)) (b : Nat) (lv : Int → Int) : List Int → List (List Int) → Prop
  | nil {S : List Int} : Hp n P b lv S []
  | cons {S day : List Int} {ds : List (List Int)} : Hi n P b lv S day → Hp n P b lv (S ++ day) ds → Hp n P b lv S (day :: ds)
theorem Hp.pl : ∀ {ds : List (List Int)} {S : List Int}, Hp n P b lv S ds → Pl n P b S ds
  | [], _, _ => .nil
  | _ :: _, _, h => by
    cases h with
    | cons h1 h2 => exact .cons h1.ok h2.pl
theorem Hp.split : ∀ {us vs : List (List Int)} {S : List Int}, Hp n P b lv S (us ++ vs) → Hp n P b lv S us ∧ Hp n P b lv (S ++ us.flatten) vs
  | [], vs, S, h => ⟨.nil, by rw [List.flatten_nil, List.append_nil]; exact h⟩
  | d :: us, vs, S, h => by
    cases h with
    | cons h1 h2 =>
      obtain ⟨a, c⟩ := h2.split
      exact ⟨.cons h1 a, by rw [List.flatten_cons, ← List.append_assoc]; exact c⟩
end
end DVS




namespace DVL
open PySem L2 DV
section
variable {ts dd : List Int}
def ordD (dd : List Int) (n : Nat) : List Int := srtP (fun j => (val dd j, j)) (rngI 0 n)
theorem ordD_perm (dd : List Int) (n : Nat) : (ordD dd n).Perm (rngI 0 n) := srtP_perm _ _
end
end DVL

namespace DVL
open PySem L2 DV
abbrev ab (i : Int) : Int := if i < 0 then -i else i
/-- ends one after another -/
def es : Int → List Int → List Int
  | _, [] => []
  | d, t :: x => (d + t) :: es (d + t) x
/-- the sum of the differences of the ends and a day -/
def gD (due : Int) : Int → List Int → Int
  | _, [] => 0
  | d, t :: x => ab (d + t - due) + gD due (d + t) x
def dn : List Int → Int
  | [] => 0
  | t :: B => ((B.length : Int) + 1) * t + dn B
end DVL

namespace DVL
open PySem L2 DV
abbrev vs (ts p : List Int) : List Int := p.map (val ts)
end DVL

namespace DVL
open PySem L2 DV
def mid (x : List Int) : Int := (x.take ((x.length + 1) / 2)).sum
def told (ts p : List Int) : Int := gD (mid (vs ts p)) 0 (vs ts p)
end DVL

namespace DVL
open PySem L2 DV
section
variable {ts dd : List Int}
abbrev T3 (ts : List Int) (p : List Int) : Int := (p.map (val ts)).sum
/-- no end later than x behind its due day -/
def okL (ts dd : List Int) (x : Int) : Int → List Int → Prop
  | _, [] => True
  | d, j :: p => d + val ts j - val dd j ≤ x ∧ okL ts dd x (d + val ts j) p
theorem okL_app {x : Int} : ∀ (a b : List Int) (d : Int), okL ts dd x d (a ++ b) ↔ okL ts dd x d a ∧ okL ts dd x (d + T3 ts a) b
  | [], b, d => by
    show okL ts dd x d b ↔ True ∧ okL ts dd x (d + 0) b
    rw [Int.add_zero, true_and]
  | j :: a, b, d => by
    have ih := okL_app (x := x) a b (d + val ts j)
    show _ ∧ okL ts dd x (d + val ts j) (a ++ b) ↔ (_ ∧ okL ts dd x (d + val ts j) a) ∧ okL ts dd x (d + (val ts j + T3 ts a)) b
    rw [ih, and_assoc, Int.add_assoc]
theorem T3_app (a b : List Int) : T3 ts (a ++ b) = T3 ts a + T3 ts b := by
  unfold T3
  rw [List.map_append, List.sum_append]
theorem T3_cons (j : Int) (b : List Int) : T3 ts (j :: b) = val ts j + T3 ts b := by
  unfold T3
  rw [List.map_cons, List.sum_cons]
theorem T3_perm {a b : List Int} (h : a.Perm b) : T3 ts a = T3 ts b := perm_sum (h.map _)
end
abbrev k3 (a b c : Int) : D := .tuple [.int a, .int b, .int c]
end DVL

namespace DVL
open PySem L2 DV
section
variable {ts dd : List Int}
theorem sub_one {A P : List Int} {i : Int} (h : A.Sublist (P ++ [i])) : A.Sublist P ∨ ∃ A1, A = A1 ++ [i] ∧ A1.Sublist P := by
  obtain ⟨A1, A2, rfl, h1, h2⟩ := List.sublist_append_iff.mp h
  cases h2 with
  | cons _ h3 =>
    rw [List.sublist_nil.mp h3, List.append_nil]
    exact .inl h1
  | cons_cons _ h3 =>
    rw [List.sublist_nil.mp h3]
    exact .inr ⟨A1, rfl, h1⟩
end
end DVL



namespace DVL
open PySem L2 DV
section
variable {ts ow dd : List Int}
/-- the sum of the ends of owner 0's jobs -/
def sO (ts ow : List Int) : Int → List Int → Int
  | _, [] => 0
  | d, j :: p => (if val ow j = 0 then d + val ts j else 0) + sO ts ow (d + val ts j) p
/-- no job of the other owner later than x behind its due day -/
def okO (ts ow dd : List Int) (x : Int) : Int → List Int → Prop
  | _, [] => True
  | d, j :: p => (val ow j ≠ 0 → d + val ts j - val dd j ≤ x) ∧ okO ts ow dd x (d + val ts j) p
end
end DVL

namespace DVL
open PySem L2 DV
section
variable {ts ow dd : List Int}
def TI (ts ow dd : List Int) (x : Int) (k : Nat) (ρ : DV.Env) : Prop := ∃ (L Fd : List Int) (y6 y7 y8 y9 y10 : Option SV), ρ = [some (.d (ti ts)), some (.d (ti ow)), some (.d (ti dd)), some (.d (.int x)), some (.o (L.map PyData.int)), some (.o (Fd.map PyData.int)), y6, y7, y8, y9, y10] ∧ L.length = k ∧ (L ++ Fd.reverse).Perm (rngI 0 ts.length) ∧ okO ts ow dd x (T3 ts L) Fd.reverse ∧
  ∀ q, q.Perm (rngI 0 ts.length) → okO ts ow dd x 0 q → ∃ q', q'.Perm L ∧ okO ts ow dd x 0 q' ∧ sO ts ow 0 (q' ++ Fd.reverse) ≤ sO ts ow 0 q
end
end DVL


namespace DVL
open PySem L2 DV
def mx2 (w : Option Int) (y : Int) : Option Int := some (match w with
  | none => y
  | some m => max m y)
section
variable {ts ow dd : List Int}
/-- the jobs with their ends -/
def eL (ts : List Int) : Int → List Int → List (Int × Int)
  | _, [] => []
  | d, j :: p => (j, d + val ts j) :: eL ts (d + val ts j) p
/-- the others' ends less their due days -/
def wsO (ts ow dd : List Int) (d : Int) (p : List Int) : List Int := ((eL ts d p).filter fun z => !decide (val ow z.1 = 0)).map fun z => z.2 - val dd z.1
def wOf (ts ow dd : List Int) (w : Option Int) (d : Int) (p : List Int) : Option Int := (wsO ts ow dd d p).foldl mx2 w
/-- the worst of an order -/
abbrev wO (ts ow dd p : List Int) : Option Int := wOf ts ow dd none 0 p
end
end DVL

namespace DVL
open PySem L2 DV
section
variable {ts ow dd : List Int}
/-- told by an order -/
def A2 (ts ow dd : List Int) (f : Int × Int) : Prop := ∃ q, q.Perm (rngI 0 ts.length) ∧ f.1 = sO ts ow 0 q ∧ wO ts ow dd q = some f.2
end
end DVL


namespace DVL
open PySem L2 DV
/-- a row: the day, the weight of the late, the kept -/
abbrev Rw3 := Int × Int × List Int
/-- put a row in -/
def putR (R : List Rw3) (r : Rw3) : List Rw3 := if (R.find? fun q => decide (q.1 = r.1)).isSome = true then R.map fun q => if q.1 = r.1 then r else q else R ++ [r]
/-- of the options done, the rows hold for each day one of no more weight -/
structure UI (dn M : List Rw3) : Prop where
  nd : (M.map (·.1)).Nodup
  sub : ∀ m ∈ M, m ∈ dn
  all : ∀ o ∈ dn, ∃ m ∈ M, m.1 = o.1 ∧ m.2.1 ≤ o.2.1
theorem UI.nil : UI [] [] := ⟨List.nodup_nil, (fun _ h => nomatch h), fun _ h => nomatch h⟩
theorem put_keys {R : List Rw3} {r : Rw3} : (putR R r).map (·.1) = if (R.find? fun q => decide (q.1 = r.1)).isSome = true then R.map (·.1) else R.map (·.1) ++ [r.1] := by
  unfold putR
  split
  · rw [List.map_map]
    refine List.map_congr_left fun q _ => ?_
    show (if q.1 = r.1 then r else q).1 = q.1
    split
    · rename_i h
      exact h.symm
    · rfl
  · rw [List.map_append]
    rfl
theorem UI.put {dn M : List Rw3} {r : Rw3} (I : UI dn M) (h : ∀ m ∈ M, m.1 = r.1 → r.2.1 ≤ m.2.1) : UI (dn ++ [r]) (putR M r) := by
  have hr : r ∈ putR M r := by
    unfold putR
    split
    · rename_i hs
      obtain ⟨m, hm⟩ := Option.isSome_iff_exists.mp hs
      have h1 := List.find?_some hm
      have h2 := List.mem_of_find?_eq_some hm
      refine List.mem_map.mpr ⟨m, h2, if_pos (of_decide_eq_true h1)⟩
    · simp
  refine ⟨?_, fun m hm => ?_, fun o ho => ?_⟩
  · rw [put_keys]
    split
    · exact I.nd
    · rename_i hs
      refine List.nodup_append.mpr ⟨I.nd, by simp, fun a ha b hb e => ?_⟩
      rw [List.mem_singleton.mp hb] at e
      obtain ⟨m, hm, em⟩ := List.mem_map.mp ha
      apply hs
      rw [List.find?_isSome]
      exact ⟨m, hm, decide_eq_true (em.trans e)⟩
  · unfold putR at hm
    split at hm
    · obtain ⟨q, hq, e⟩ := List.mem_map.mp hm
      split at e
      · rw [← e]; simp
      · rw [← e]; exact List.mem_append_left _ (I.sub q hq)
    · rcases List.mem_append.mp hm with z | z
      · exact List.mem_append_left _ (I.sub m z)
      · rw [List.mem_singleton.mp z]; simp
  · rcases List.mem_append.mp ho with z | z
    · obtain ⟨m, hm, e1, e2⟩ := I.all o z
      by_cases e : m.1 = r.1
      · exact ⟨r, hr, by omega, by have := h m hm e; omega⟩
      · refine ⟨m, ?_, e1, e2⟩
        unfold putR
        split
        · exact List.mem_map.mpr ⟨m, hm, if_neg e⟩
        · exact List.mem_append_left _ hm
    · rw [List.mem_singleton.mp z]
      exact ⟨r, hr, rfl, Int.le_refl _⟩
theorem UI.skip {dn M : List Rw3} {r m : Rw3} (I : UI dn M) (hm : m ∈ M) (h1 : m.1 = r.1) (h2 : m.2.1 ≤ r.2.1) : UI (dn ++ [r]) M := by
  refine ⟨I.nd, fun x hx => List.mem_append_left _ (I.sub x hx), fun o ho => ?_⟩
  rcases List.mem_append.mp ho with z | z
  · exact I.all o z
  · rw [List.mem_singleton.mp z]
    exact ⟨m, hm, h1, h2⟩
section
variable {ts ws dd : List Int}
abbrev WS (ws : List Int) (p : List Int) : Int := (p.map (val ws)).sum
theorem WS_one (p : List Int) (i : Int) : WS ws (p ++ [i]) = WS ws p + val ws i := by
  unfold WS
  rw [List.map_append, List.sum_append]
  simp
/-- a row that tells of a feasible set -/
structure Row (ts ws dd P : List Int) (r : Rw3) : Prop where
  sub : r.2.2.Sublist P
  ok : okL ts dd 0 0 r.2.2
  day : r.1 = T3 ts r.2.2
  wt : r.2.1 = WS ws P - WS ws r.2.2
structure DI (ts ws dd P : List Int) (R : List Rw3) : Prop where
  nd : (R.map (·.1)).Nodup
  row : ∀ r ∈ R, Row ts ws dd P r
  all : ∀ A, A.Sublist P → okL ts dd 0 0 A → ∃ r ∈ R, r.1 = T3 ts A ∧ r.2.1 ≤ WS ws P - WS ws A
theorem DI.nil : DI ts ws dd [] [(0, 0, [])] := ⟨by simp, fun r hr => by
    rw [List.mem_singleton.mp hr]
    exact ⟨.slnil, trivial, rfl, rfl⟩, fun A hA _ => ⟨_, List.mem_singleton.mpr rfl, by rw [List.sublist_nil.mp hA]; rfl, by rw [List.sublist_nil.mp hA]; exact Int.le_refl _⟩⟩
/-- what a row offers for the next job -/
def opts (ts ws dd : List Int) (i : Int) (r : Rw3) : List Rw3 := (r.1, r.2.1 + val ws i, r.2.2) :: (if r.1 + val ts i ≤ val dd i then [(r.1 + val ts i, r.2.1, r.2.2 ++ [i])] else [])
theorem DI.next {P : List Int} {R M : List Rw3} {i : Int} (I : DI ts ws dd P R) (U : UI (R.flatMap (opts ts ws dd i)) M) : DI ts ws dd (P ++ [i]) M := by
  have h3 : T3 ts [i] = val ts i := by unfold T3; simp
  have hrow : ∀ o ∈ R.flatMap (opts ts ws dd i), Row ts ws dd (P ++ [i]) o := fun o ho => by
    obtain ⟨r, hr, h1⟩ := List.mem_flatMap.mp ho
    have Rr := I.row r hr
    have hw := Rr.wt
    have hd := Rr.day
    rcases List.mem_cons.mp h1 with z | z
    · rw [z]
      refine ⟨Rr.sub.trans (List.sublist_append_left _ _), Rr.ok, hd, ?_⟩
      rw [WS_one]
      simp only
      omega
    · split at z
      · rename_i hle
        rw [List.mem_singleton.mp z]
        refine ⟨Rr.sub.append_right [i], (okL_app _ [i] 0).mpr ⟨Rr.ok, by omega, trivial⟩, ?_, ?_⟩
        · rw [T3_app]
          simp only
          omega
        · rw [WS_one, WS_one]
          simp only
          omega
      · cases z
  refine ⟨U.nd, fun m hm => hrow m (U.sub m hm), fun A hA ho => ?_⟩
  rcases sub_one hA with z | ⟨A1, rfl, z⟩
  · obtain ⟨r, hr, e1, e2⟩ := I.all A z ho
    obtain ⟨m, hm, e3, e4⟩ := U.all (r.1, r.2.1 + val ws i, r.2.2) (List.mem_flatMap.mpr ⟨r, hr, List.mem_cons_self⟩)
    refine ⟨m, hm, by rw [e3]; exact e1, ?_⟩
    rw [WS_one]
    simp only at e4
    omega
  · obtain ⟨o1, o2⟩ := (okL_app A1 [i] 0).mp ho
    obtain ⟨r, hr, e1, e2⟩ := I.all A1 z o1
    have hle : r.1 + val ts i ≤ val dd i := by
      have := o2.1
      omega
    obtain ⟨m, hm, e3, e4⟩ := U.all (r.1 + val ts i, r.2.1, r.2.2 ++ [i]) (List.mem_flatMap.mpr ⟨r, hr, by unfold opts; rw [if_pos hle]; simp⟩)
    refine ⟨m, hm, ?_, ?_⟩
    · rw [e3, T3_app]
      simp only
      omega
    · rw [WS_one, WS_one]
      simp only at e4
      omega
end
end DVL


namespace DVL
open PySem L2 DV
theorem pw_tri {α : Type} {R : α → α → Prop} : ∀ {l : List α}, l.Pairwise R → ∀ a ∈ l, ∀ b ∈ l, a = b ∨ R a b ∨ R b a
  | x :: l, .cons h1 h2, a, ha, b, hb => by
    rcases List.mem_cons.mp ha with za | za
    · rcases List.mem_cons.mp hb with zb | zb
      · exact .inl (za.trans zb.symm)
      · exact .inr (.inl (za ▸ h1 b zb))
    · rcases List.mem_cons.mp hb with zb | zb
      · exact .inr (.inr (zb ▸ h1 a za))
      · exact pw_tri h2 a za b zb
end DVL

namespace DVL
open PySem L2 DV
section
variable {ts ws dd : List Int}
theorem UI.len {dn M : List Rw3} (U : UI dn M) : M.length ≤ dn.length := by
  refine List.Nodup.length_le_of_subset ?_ U.sub
  have h := U.nd
  unfold List.Nodup at *
  rw [List.pairwise_map] at h
  exact h.imp fun h e => h (by rw [e])
end
end DVL

namespace DVL
open PySem L2 DV
section
variable {ts ws dd : List Int}
theorem DI.few (W : Tm ts) {P : List Int} {R : List Rw3} (I : DI ts ws dd P R) (hP : P.Sublist (ordD dd ts.length)) : R.length ≤ 601 := by
  have hpe := ordD_perm dd ts.length
  have hT : ∀ A : List Int, A.Sublist (ordD dd ts.length) → 0 ≤ T3 ts A ∧ T3 ts A ≤ 600 := fun A hA => by
    have h0 : ∀ j ∈ ordD dd ts.length, 0 ≤ val ts j := fun j hj => by have := W.tp hpe j hj; omega
    have h1 : ∀ (A B : List Int), A.Sublist B → (∀ j ∈ B, 0 ≤ val ts j) → 0 ≤ T3 ts A ∧ T3 ts A ≤ T3 ts B := fun A B h => by
      induction h with
      | slnil => exact fun _ => ⟨Int.le_refl _, Int.le_refl _⟩
      | cons b h ih =>
        intro hb
        have := ih fun j hj => hb j (List.mem_cons_of_mem _ hj)
        have h2 := hb b List.mem_cons_self
        rw [T3_cons]
        omega
      | cons_cons b h ih =>
        intro hb
        have := ih fun j hj => hb j (List.mem_cons_of_mem _ hj)
        have h2 := hb b List.mem_cons_self
        rw [T3_cons, T3_cons]
        omega
    have h2 := h1 A _ hA h0
    have h3 : T3 ts (ordD dd ts.length) = ts.sum := sum_perm ts hpe
    have h4 := sum_le 60 ts fun t ht => (W.tim t ht).2
    have h5 := W.len
    omega
  have h := List.Nodup.length_le_of_subset (l₂ := rngI 0 601) I.nd fun x hx => by
    obtain ⟨r, hr, rfl⟩ := List.mem_map.mp hx
    have Rr := I.row r hr
    have := hT _ (Rr.sub.trans hP)
    have e := Rr.day
    exact (mem_rngI _ _ _).mpr (by omega)
  rw [List.length_map, rngI_len] at h
  exact h
end
end DVL

namespace DVL
open PySem L2 DV
/-- a row: the jobs (ascending), the sum, the order -/
abbrev Rk := List Int × Int × List Int
/-- put a row in -/
def putK (R : List Rk) (r : Rk) : List Rk := if (R.find? fun q => decide (q.1 = r.1)).isSome = true then R.map fun q => if q.1 = r.1 then r else q else R ++ [r]
/-- of the rows offered, the table holds for each set one of no greater sum -/
structure UK (dn M : List Rk) : Prop where
  nd : (M.map (·.1)).Nodup
  sub : ∀ m ∈ M, m ∈ dn
  all : ∀ o ∈ dn, ∃ m ∈ M, m.1 = o.1 ∧ m.2.1 ≤ o.2.1
theorem putk_keys {R : List Rk} {r : Rk} : (putK R r).map (·.1) = if (R.find? fun q => decide (q.1 = r.1)).isSome = true then R.map (·.1) else R.map (·.1) ++ [r.1] := by
  unfold putK
  split
  · rw [List.map_map]
    refine List.map_congr_left fun q _ => ?_
    show (if q.1 = r.1 then r else q).1 = q.1
    split
    · rename_i h
      exact h.symm
    · rfl
  · rw [List.map_append]
    rfl
theorem UK.put {dn M : List Rk} {r : Rk} (I : UK dn M) (h : ∀ m ∈ M, m.1 = r.1 → r.2.1 ≤ m.2.1) : UK (dn ++ [r]) (putK M r) := by
  have hr : r ∈ putK M r := by
    unfold putK
    split
    · rename_i hs
      obtain ⟨m, hm⟩ := Option.isSome_iff_exists.mp hs
      have h1 := List.find?_some hm
      have h2 := List.mem_of_find?_eq_some hm
      refine List.mem_map.mpr ⟨m, h2, if_pos (of_decide_eq_true h1)⟩
    · simp
  refine ⟨?_, fun m hm => ?_, fun o ho => ?_⟩
  · rw [putk_keys]
    split
    · exact I.nd
    · rename_i hs
      refine List.nodup_append.mpr ⟨I.nd, by simp, fun a ha b hb e => ?_⟩
      rw [List.mem_singleton.mp hb] at e
      obtain ⟨m, hm, em⟩ := List.mem_map.mp ha
      apply hs
      rw [List.find?_isSome]
      exact ⟨m, hm, decide_eq_true (em.trans e)⟩
  · unfold putK at hm
    split at hm
    · obtain ⟨q, hq, e⟩ := List.mem_map.mp hm
      split at e
      · rw [← e]; simp
      · rw [← e]; exact List.mem_append_left _ (I.sub q hq)
    · rcases List.mem_append.mp hm with z | z
      · exact List.mem_append_left _ (I.sub m z)
      · rw [List.mem_singleton.mp z]; simp
  · rcases List.mem_append.mp ho with z | z
    · obtain ⟨m, hm, e1, e2⟩ := I.all o z
      by_cases e : m.1 = r.1
      · exact ⟨r, hr, e.symm.trans e1, Int.le_trans (h m hm e) e2⟩
      · refine ⟨m, ?_, e1, e2⟩
        unfold putK
        split
        · exact List.mem_map.mpr ⟨m, hm, if_neg e⟩
        · exact List.mem_append_left _ hm
    · rw [List.mem_singleton.mp z]
      exact ⟨r, hr, rfl, Int.le_refl _⟩
theorem UK.skip {dn M : List Rk} {r m : Rk} (I : UK dn M) (hm : m ∈ M) (h1 : m.1 = r.1) (h2 : m.2.1 ≤ r.2.1) : UK (dn ++ [r]) M := by
  refine ⟨I.nd, fun x hx => List.mem_append_left _ (I.sub x hx), fun o ho => ?_⟩
  rcases List.mem_append.mp ho with z | z
  · exact I.all o z
  · rw [List.mem_singleton.mp z]
    exact ⟨m, hm, h1, h2⟩
end DVL

namespace DVL
open PySem L2 DV
section
variable {ts ws dd : List Int}
/-- weights times the days behind, the work begun at d -/
def TD (ts ws dd : List Int) : Int → List Int → Int
  | _, [] => 0
  | d, j :: p => val ws j * max 0 (d + val ts j - val dd j) + TD ts ws dd (d + val ts j) p
theorem TD_app (p q : List Int) : ∀ d, TD ts ws dd d (p ++ q) = TD ts ws dd d p + TD ts ws dd (d + T3 ts p) q := by
  induction p with
  | nil =>
    intro d
    show TD ts ws dd d q = 0 + TD ts ws dd (d + ([] : List Int).sum) q
    rw [List.sum_nil, Int.add_zero, Int.zero_add]
  | cons j p ih =>
    intro d
    show val ws j * _ + TD ts ws dd (d + val ts j) (p ++ q) = (val ws j * _ + TD ts ws dd (d + val ts j) p) + _
    rw [ih, T3_cons, Int.add_assoc, Int.add_assoc]
/-- what a job costs behind a set of jobs -/
def CJ (ts ws dd : List Int) (p : List Int) (j : Int) : Int := val ws j * max 0 (T3 ts p + val ts j - val dd j)
theorem TD_one (p : List Int) (j : Int) : TD ts ws dd 0 (p ++ [j]) = TD ts ws dd 0 p + CJ ts ws dd p j := by
  rw [TD_app]
  show _ + (val ws j * max 0 (0 + T3 ts p + val ts j - val dd j) + 0) = _
  rw [Int.zero_add, Int.add_zero]
  rfl
theorem CJ_perm {p q : List Int} (h : p.Perm q) (j : Int) : CJ ts ws dd p j = CJ ts ws dd q j := by
  unfold CJ
  rw [T3_perm h]
end
end DVL

namespace DVL
open PySem L2 DV
theorem sortI_eq {A B : List Int} (h : A.Perm B) : sortI A = sortI B := sorted_uniq (((sortI_perm A).trans h).trans (sortI_perm B).symm) (sortI_sorted A) (sortI_sorted B)
section
variable {ts ws dd : List Int}
/-- a row that tells the truth -/
structure OKr (ts ws dd : List Int) (n : Nat) (o : Rk) : Prop where
  key : o.1 = sortI o.2.2
  nd : o.2.2.Nodup
  rg : ∀ j ∈ o.2.2, 0 ≤ j ∧ j < (n : Int)
  sum : o.2.1 = TD ts ws dd 0 o.2.2
def Full (ts ws dd : List Int) (n s : Nat) (dn : List Rk) : Prop := ∀ q : List Int, q.Nodup → (∀ j ∈ q, 0 ≤ j ∧ j < (n : Int)) → q.length ≤ s → ∃ o ∈ dn, o.1 = sortI q ∧ o.2.1 ≤ TD ts ws dd 0 q
/-- a set and a job have been offered -/
def Off (ts ws dd : List Int) (dn : List Rk) (S : List Int) (j : Int) : Prop := ∃ o ∈ dn, o.1 = sortI (S ++ [j]) ∧ ∀ q : List Int, q.Perm S → o.2.1 ≤ TD ts ws dd 0 (q ++ [j])
theorem Full.mono {n s : Nat} {dn dn2 : List Rk} (h : Full ts ws dd n s dn) (i : ∀ o ∈ dn, o ∈ dn2) : Full ts ws dd n s dn2 := fun q a b c => by
  obtain ⟨o, h1, h2⟩ := h q a b c
  exact ⟨o, i o h1, h2⟩
theorem Off.mono {dn dn2 : List Rk} {S : List Int} {j : Int} (h : Off ts ws dd dn S j) (i : ∀ o ∈ dn, o ∈ dn2) : Off ts ws dd dn2 S j := by
  obtain ⟨o, h1, h2⟩ := h
  exact ⟨o, i o h1, h2⟩
theorem Full.next {n s : Nat} {dn : List Rk} (F : Full ts ws dd n s dn) (h : ∀ q : List Int, q.Nodup → (∀ j ∈ q, 0 ≤ j ∧ j < (n : Int)) → q.length = s → ∀ j : Int, 0 ≤ j → j < (n : Int) → j ∉ q → Off ts ws dd dn (sortI q) j) : Full ts ws dd n (s + 1) dn := by
  intro q hn hr hl
  by_cases hs : q.length ≤ s
  · exact F q hn hr hs
  have hne : q ≠ [] := fun e => by rw [e] at hs; simp at hs
  have eq : q = q.dropLast ++ [q.getLast hne] := (List.dropLast_concat_getLast hne).symm
  generalize q.dropLast = p at eq
  generalize q.getLast hne = j at eq
  subst eq
  rw [List.length_append, List.length_singleton] at hl hs
  obtain ⟨n1, _, n3⟩ := List.nodup_append.mp hn
  have hj := hr j (by simp)
  obtain ⟨o, o1, o2, o3⟩ := h p n1 (fun k hk => hr k (List.mem_append_left _ hk)) (by omega) j hj.1 hj.2 fun hm => n3 j hm j (by simp) rfl
  exact ⟨o, o1, o2.trans (sortI_eq ((sortI_perm p).append_right [j])), o3 p (sortI_perm p).symm⟩
/-- the row of a set serves all its orders -/
theorem full_row {n s : Nat} {dn M : List Rk} (F : Full ts ws dd n s dn) (U : UK dn M) {m : Rk} (hm : m ∈ M) {q : List Int} (h1 : q.Nodup) (h2 : ∀ j ∈ q, 0 ≤ j ∧ j < (n : Int)) (h3 : q.length ≤ s) (e : m.1 = sortI q) : m.2.1 ≤ TD ts ws dd 0 q := by
  obtain ⟨o, o1, o2, o3⟩ := F q h1 h2 h3
  obtain ⟨m2, a1, a2, a3⟩ := U.all o o1
  have hu := U.nd
  unfold List.Nodup at hu
  rw [List.pairwise_map] at hu
  have : m2 = m := Classical.byContradiction fun hne => by
    rcases pw_tri hu m2 a1 m hm with z | z | z
    · exact hne z
    · exact z (a2.trans (o2.trans e.symm))
    · exact z (e.trans (o2.symm.trans a2.symm))
  rw [← this]
  omega
end
end DVL

namespace DVL
open PySem L2 DV
/-- the ascending lists within lo .. lo + k -/
def subsA (lo : Int) : Nat → List (List Int)
  | 0 => [[]]
  | k + 1 => subsA (lo + 1) k ++ (subsA (lo + 1) k).map fun S => lo :: S
theorem subsA_len : ∀ (k : Nat) (lo : Int), (subsA lo k).length = 2 ^ k
  | 0, _ => rfl
  | k + 1, lo => by
    show (subsA (lo + 1) k ++ _).length = _
    rw [List.length_append, List.length_map, subsA_len k (lo + 1), Nat.pow_succ]
    omega
theorem subsA_mem : ∀ (k : Nat) (lo : Int) (S : List Int), S.Pairwise (· < ·) → (∀ j ∈ S, lo ≤ j ∧ j < lo + (k : Int)) → S ∈ subsA lo k
  | 0, lo, S, _, h => by
    cases S with
    | nil => exact List.mem_singleton.mpr rfl
    | cons a S =>
      have := h a List.mem_cons_self
      omega
  | k + 1, lo, [], hp, h => List.mem_append_left _ (subsA_mem k (lo + 1) [] List.Pairwise.nil (fun j hj => nomatch hj))
  | k + 1, lo, a :: S, hp, h => by
    obtain ⟨h1, h2⟩ := List.pairwise_cons.mp hp
    have ha := h a List.mem_cons_self
    have hS : ∀ j ∈ S, a < j ∧ j < lo + ((k + 1 : Nat) : Int) := fun j hj => ⟨h1 j hj, (h j (List.mem_cons_of_mem _ hj)).2⟩
    by_cases e : a = lo
    · subst e
      refine List.mem_append_right _ (List.mem_map.mpr ⟨S, subsA_mem k (a + 1) S h2 (fun j hj => ?_), rfl⟩)
      have := hS j hj
      omega
    · refine List.mem_append_left _ (subsA_mem k (lo + 1) (a :: S) hp (fun j hj => ?_))
      rcases List.mem_cons.mp hj with z | z
      · subst z; omega
      · have := hS j z
        omega
theorem uk_len {n : Nat} {dn M : List Rk} (U : UK dn M) (h : ∀ o ∈ dn, o.1.Pairwise (· < ·) ∧ ∀ j ∈ o.1, 0 ≤ j ∧ j < (n : Int)) : M.length ≤ 2 ^ n := by
  have h1 : (M.map (·.1)).length ≤ (subsA 0 n).length := List.Nodup.length_le_of_subset U.nd fun S hS => by
    obtain ⟨m, hm, rfl⟩ := List.mem_map.mp hS
    have := h m (U.sub m hm)
    exact subsA_mem n 0 m.1 this.1 fun j hj => by have := this.2 j hj; omega
  rwa [List.length_map, subsA_len] at h1
end DVL

namespace DVL
open PySem L2 DV
section
variable {ts ws dd : List Int}
structure TabOK (ts ws dd : List Int) (n s : Nat) (dn M : List Rk) : Prop where
  U : UK dn M
  ok : ∀ o ∈ dn, OKr ts ws dd n o
  full : Full ts ws dd n s dn
theorem OKr.asc {n : Nat} {o : Rk} (h : OKr ts ws dd n o) : o.1.Pairwise (· < ·) ∧ ∀ j ∈ o.1, 0 ≤ j ∧ j < (n : Int) := by
  rw [h.key]
  exact ⟨sort_nodup h.nd, fun j hj => h.rg j ((sortI_perm _).mem_iff.mp hj)⟩
theorem TabOK.few {n s : Nat} {dn M : List Rk} (T : TabOK ts ws dd n s dn M) (hn : n ≤ 10) : M.length ≤ 100000 := by
  have h := uk_len T.U fun o ho => (T.ok o ho).asc
  have : (2 : Nat) ^ n ≤ 2 ^ 10 := Nat.pow_le_pow_right (by decide) hn
  omega
theorem Off.of {n s : Nat} {dn M : List Rk} (T : TabOK ts ws dd n s dn M) {m : Rk} (hm : m ∈ M) (hs : m.1.length = s) {j : Int} {o : Rk} (e1 : o.1 = sortI (m.1 ++ [j])) (e2 : o.2.1 = m.2.1 + CJ ts ws dd m.1 j) (ho : o ∈ dn ++ [o]) : Off ts ws dd (dn ++ [o]) m.1 j := by
  refine ⟨o, ho, e1, fun q hq => ?_⟩
  have hk := T.ok m (T.U.sub m hm)
  have ha := hk.asc
  have hqn : q.Nodup := hq.nodup_iff.mpr (ha.1.imp fun h => Int.ne_of_lt h)
  have h1 := full_row T.full T.U hm hqn (fun k hk2 => ha.2 k (hq.mem_iff.mp hk2)) (by rw [hq.length_eq]; omega) (by
    rw [hk.key]
    exact sortI_eq (((sortI_perm _).symm).trans (by rw [← hk.key]; exact hq.symm)))
  rw [TD_one, e2, CJ_perm hq]
  omega
end
end DVL




namespace DVL
open PySem L2 DV
/-- the jobs of machine m -/
def cell (n : Nat) (a : List Int) (m : Int) : List Int := (rngI 0 n).filter fun i => decide (val a i = m)
/-- the lists of an assignment -/
def lists (n : Nat) (T : List (List Int)) (a : List Int) : List (List Int) := (rngI 0 T.length).map fun m => sbP (val (rowA T m)) id (cell n a m)
end DVL

namespace DVS
open PySem L2 DV DVL DVB
section
variable {n : Nat} {P : List (Int × Int)} {b : Nat} {lv : Int → Int}
theorem Dn.le {S : List Int} (h : Dn n P S) : S.length ≤ n := by
  have := nodup_leG h.nd (q := rngI 0 n) fun j hj => (mem_rngI _ _ _).mpr (by have := h.rg j hj; omega)
  rwa [rngI_len] at this
theorem Dn.ex {S : List Int} (h : S.length < n) : ∃ j : Int, (0 ≤ j ∧ j < (n : Int)) ∧ j ∉ S := Classical.byContradiction fun hno => by
  have := nodup_leG (rngI_nodup 0 n) (q := S) fun j hj => Classical.byContradiction fun z => hno ⟨j, by have := (mem_rngI _ _ _).mp hj; omega, z⟩
  rw [rngI_len] at this
  omega
theorem Dn.all {S : List Int} (h : Dn n P S) (hl : S.length = n) : S.Perm (rngI 0 n) := nodup_perm h.nd (fun j hj => (mem_rngI _ _ _).mpr (by have := h.rg j hj; omega)) (by rw [rngI_len, hl]; exact Nat.le_refl _)
theorem flat_ge : ∀ {ds : List (List Int)}, (∀ d ∈ ds, d ≠ []) → ds.length ≤ ds.flatten.length
  | [], _ => Nat.le_refl _
  | d :: ds, h => by
    have := flat_ge fun x hx => h x (List.mem_cons_of_mem _ hx)
    have h2 := h d List.mem_cons_self
    rw [List.flatten_cons, List.length_append, List.length_cons]
    cases d with
    | nil => exact absurd rfl h2
    | cons => rw [List.length_cons]; omega
/-- the days of one plan do all jobs -/
structure Full (n : Nat) (P : List (Int × Int)) (b : Nat) (lv : Int → Int) (ds : List (List Int)) : Prop where
  hp : Hp n P b lv [] ds
  all : ds.flatten.Perm (rngI 0 n)
  pos : ∀ d ∈ ds, d ≠ []
  sd : ∀ d ∈ ds, d.Pairwise (· ≤ ·)
end
end DVS

namespace DVS
open PySem L2 DV DVL DVB
def ptI (b : Nat) (L : List Int) : List (List Int) := L.foldl (fun F x => F ++ (F.filter fun p => decide (p.length < b)).map fun p => p ++ [x]) [[]]
theorem pt_snoc (b : Nat) (L : List Int) (x : Int) : ptI b (L ++ [x]) = ptI b L ++ ((ptI b L).filter fun p => decide (p.length < b)).map fun p => p ++ [x] := by
  unfold ptI
  rw [List.foldl_append]
  rfl
theorem snoc_ind {Q : List Int → Prop} (h0 : Q []) (h1 : ∀ L x, Q L → Q (L ++ [x])) (L : List Int) : Q L := by
  have : ∀ k (L : List Int), L.length = k → Q L := fun k => by
    induction k with
    | zero => exact fun L h => by rw [List.length_eq_zero_iff.mp h]; exact h0
    | succ k ih =>
      intro L h
      rcases List.eq_nil_or_concat L with rfl | ⟨A, y, rfl⟩
      · exact h0
      · exact h1 A y (ih A (by rw [List.concat_eq_append, List.length_append, List.length_singleton] at h; omega)) |> fun z => by rw [List.concat_eq_append]; exact z
  exact this _ L rfl
theorem pt_sub (b : Nat) : ∀ L, ∀ p ∈ ptI b L, p.Sublist L ∧ p.length ≤ b := snoc_ind (fun p hp => by rw [List.mem_singleton.mp hp]; exact ⟨List.Sublist.refl _, Nat.zero_le _⟩) fun L x ih p hp => by
  rw [pt_snoc] at hp
  rcases List.mem_append.mp hp with z | z
  · exact ⟨(ih p z).1.trans (List.sublist_append_left _ _), (ih p z).2⟩
  · obtain ⟨q, hq, rfl⟩ := List.mem_map.mp z
    obtain ⟨h1, h2⟩ := List.mem_filter.mp hq
    refine ⟨(ih q h1).1.append (List.Sublist.refl _), ?_⟩
    rw [List.length_append, List.length_singleton]
    exact of_decide_eq_true h2
theorem pt_filter (b : Nat) (f : Int → Bool) : ∀ L, (L.filter f).length ≤ b → L.filter f ∈ ptI b L := snoc_ind (fun _ => List.mem_singleton.mpr rfl) fun L x ih h => by
  rw [pt_snoc]
  rw [List.filter_append] at h ⊢
  cases e : f x with
  | false =>
    rw [List.filter_cons_of_neg (by rw [e]; exact Bool.false_ne_true), List.filter_nil, List.append_nil] at h ⊢
    exact List.mem_append_left _ (ih h)
  | true =>
    rw [List.filter_cons_of_pos e, List.filter_nil] at h ⊢
    rw [List.length_append, List.length_singleton] at h
    exact List.mem_append_right _ (List.mem_map.mpr ⟨_, List.mem_filter.mpr ⟨ih (by omega), decide_eq_true (by omega)⟩, rfl⟩)
section
variable {n : Nat} {P : List (Int × Int)} {b : Nat}
theorem srt_app {A B C : List Int} (h : A.Perm B) : DV.sortI (A ++ C) = DV.sortI (B ++ C) := DVL.sortI_eq (h.append_right C)
/-- days that do all jobs -/
structure Cp (n : Nat) (P : List (Int × Int)) (b : Nat) (ds : List (List Int)) : Prop where
  pl : Pl n P b [] ds
  all : ds.flatten.Perm (rngI 0 n)
end
end DVS

namespace DVG
open PySem L2 DV DVL
/-- what some jobs weigh on a machine -/
def gs (a : List Int) (w : Int → Int) (S : List Int) (m : Int) : Int := ((S.filter fun i => decide (val a i = m)).map w).sum
end DVG

namespace DV
open PySem L2
section
variable {ρ ρ' : Env} {P : RV → Prop} {Q : Out → Prop} {f g : Env → M RV}
def KStep (P : RV → Prop) (x : RV) (l k : Option Int) : Prop := ∃ ds a b, newL x = some ds ∧ l = some a ∧ k = some b ∧ b ≠ 0 ∧ P (.n (pickA ds a b))
theorem w_step {lo st : Env → M (Option Int)} (p : Gives (f ρ) fun x => Gives (lo ρ) fun l => Gives (st ρ) fun k => KStep P x l k) : Gives (eStep f lo st ρ) P := by
  unfold eStep
  refine Gives.bnd p fun x q1 => Gives.bnd q1 fun l q2 => Gives.bnd q2 fun k ⟨ds, a, b, e, e1, e2, h, q4⟩ => ?_
  subst e1 e2
  show Gives (if b = 0 then fail else bnd (lft (newL x)) fun ds => ret (.n (pickA ds a b))) P
  rw [if_neg h, e, lft_s, bnd_ret]
  exact Gives.ret q4
theorem pickA_map {α β : Type} (h : α → β) (L : List α) (a b : Int) : pickA (L.map h) a b = (pickA L a b).map h := by
  unfold pickA
  rw [List.length_map, List.map_filterMap]
  congr 1
  funext i
  exact List.getElem?_map
theorem w_stepB {α : Type} {mk : α → D} {L : List α} {a b : Int} (h : b ≠ 0) (p : P (.n ((pickA L a b).map mk))) : KStep P (.b (L.map mk)) (some a) (some b) := ⟨_, a, b, rfl, rfl, rfl, h, by rw [pickA_map]; exact p⟩
theorem w_srev (p : Gives (f ρ) fun x => ∃ js, items x = some (js.map PyData.int) ∧ P (.n ((sortI js).reverse.map PyData.int))) : Gives (eSortRev f ρ) P := by
  unfold eSortRev
  refine Gives.bnd p fun x ⟨js, e, q⟩ => ?_
  rw [e, lft_s, bnd_ret, DVL.intsOf_map, lft_s, bnd_ret]
  exact Gives.ret q
theorem w_srevT {js : List Int} (p : P (.n ((sortI js).reverse.map PyData.int))) : ∃ js', items (.d (ti js)) = some (js'.map PyData.int) ∧ P (.n ((sortI js').reverse.map PyData.int)) := ⟨js, rfl, p⟩
end
end DV

namespace DV
open PySem L2
section
variable {P : RV → Prop} {f h : Env → DV.M RV} {ρ : Env} {Q : Out → Prop}
theorem w_met {gg : RV → RV → Option RV} (p : Gives (f ρ) fun x => ∃ ds, itemsL x = some ds ∧ Gives (h ρ) fun y => K2 gg P x y) : Gives (eMet gg f h ρ) P := by
  unfold eMet
  refine Gives.bnd p fun x ⟨ds, e, q⟩ => ?_
  rw [e, lft_s, bnd_ret]
  refine Gives.bnd q fun y ⟨z, e2, q2⟩ => ?_
  rw [e2]
  exact Gives.ret q2
theorem w_itL {C : Prop} {ds : List D} (p : C) : ∃ es, itemsL (.b ds) = some es ∧ C := ⟨ds, rfl, p⟩
/-- x[i], y[j] = a, b of ints -/
def KTwo (t1 t2 : Tgt) (ρ : Env) (Q : Out → Prop) (xs : List RV) : Prop := ∃ d e, xs = [.d d, .d e] ∧ Gives (tgtF t1 d ρ) fun ρ1 => Gives (tgtF t2 e ρ1) fun ρ2 => Q (.nx ρ2)
theorem w_two {t1 t2 : Tgt} {fa : Env → DV.M (List RV)} (p : Gives (fa ρ) (KTwo t1 t2 ρ Q)) : Gives (sTwo t1 t2 fa ρ) Q := by
  unfold sTwo
  refine Gives.bnd p fun xs ⟨d, e, ex, q⟩ => ?_
  subst ex
  show Gives (bnd (lft (some d)) fun d => bnd (lft (some e)) fun e => bnd (tgtF t1 d ρ) fun ρ1 => bnd (tgtF t2 e ρ1) fun ρ2 => ret (.nx ρ2)) Q
  rw [lft_s, bnd_ret, lft_s, bnd_ret]
  refine Gives.bnd q fun ρ1 q1 => ?_
  exact Gives.bnd q1 fun ρ2 q2 => Gives.ret q2
theorem w_twoX {t1 t2 : Tgt} {d e : D} (p : Gives (tgtF t1 d ρ) fun ρ1 => Gives (tgtF t2 e ρ1) fun ρ2 => Q (.nx ρ2)) : KTwo t1 t2 ρ Q [.d d, .d e] := ⟨d, e, rfl, p⟩
end
end DV

namespace DVR
open PySem L2 DV DVL
abbrev Lk := Int × Int × Int × Int
def at4 (ls : List Lk) (i : Int) : Lk := ls.getD i.toNat (0, 0, 0, 0)
def src (ls : List Lk) (i : Int) : Int := (at4 ls i).1
def tgt (ls : List Lk) (i : Int) : Int := (at4 ls i).2.1
def tim (ls : List Lk) (i : Int) : Int := (at4 ls i).2.2.1
def rnd (ls : List Lk) (i : Int) : Int := (at4 ls i).2.2.2
def wt (w : Int → Int) (p : List Int) : Int := (p.map w).sum
section
variable {ls : List Lk} {n : Nat} {w : Int → Int}
def Hd (ls : List Lk) (s : Int) (p : List Int) : Int := match p.getLast? with
  | none => s
  | some i => tgt ls i
def Mt4 (ls : List Lk) (s : Int) (p : List Int) : List Int := s :: p.map (tgt ls)
end
end DVR

namespace DVR
open PySem L2 DV DVL
section
variable {ls : List Lk} {n : Nat} {s : Int} {p : List Int}
def clB (ls : List Lk) (s : Int) (p : List Int) (i : Int) : Bool := decide (src ls i = Hd ls s p) && decide (tgt ls i = s)
/-- the rings that a path closes to, the paths that it goes on to -/
def cls (ls : List Lk) (s : Int) (p I : List Int) : List (List Int) := (I.filter (clB ls s p)).map fun i => p ++ [i]
/-- links that leave an event -/
def dg (ls : List Lk) (v : Int) : Nat := ((rngI 0 ls.length).filter fun i => decide (src ls i = v)).length
def prodN : List Nat → Nat
  | [] => 1
  | a :: L => a * prodN L
def Un (ls : List Lk) (n : Nat) (M : List Int) : Nat := prodN (((rngI 0 n).filter fun v => !M.elem v).map fun v => 1 + dg ls v)
/-- more than all walks from an event that meet none twice -/
def PT (ls : List Lk) (n : Nat) : Nat := prodN ((rngI 0 n).map fun v => 1 + dg ls v)
end
end DVR

namespace DVL
open PySem L2 DV
local macro_rules
  | `(tactic| get_elem_tactic_trivial) => `(tactic| first
    | (simp only [List.set_cons_succ, List.set_cons_zero, DV.startE, DV.lawE, DV.toK, DV.lockE, DV.wipeE, List.map_cons, List.map_nil, List.length_cons, List.length_nil, List.replicate_zero, List.replicate_succ, Nat.reduceSub, Nat.reduceAdd, List.append_nil, List.cons_append, List.nil_append]; rfl)
    | exact rfl)
local macro_rules
  | `(tactic| infer_instance) => `(tactic| first
    | with_reducible refine DV.w_cons ?_
    | with_reducible refine DV.w_var (by with_unfolding_all exact rfl) ?_
    | with_reducible refine DV.w_c ?_
    | with_reducible refine DV.w_nil ?_
    | with_reducible refine DV.w_e2 ?_
    | with_reducible refine DV.w_seq ?_
    | with_reducible refine DV.w_seqN ?_
    | with_reducible refine DV.w_seqR ?_
    | with_reducible refine DV.w_seqB ?_
    | with_reducible refine DV.w_seqC ?_
    | with_reducible refine DV.w_call ?_
    | with_reducible refine DV.w_fn ?_
    | with_reducible refine DV.w_f1 ?_
    | with_reducible refine DV.w_f2 ?_
    | with_reducible refine DV.w_f3 ?_
    | with_reducible refine DV.w_f4 ?_
    | with_reducible refine DV.w_f5 ?_
    | with_reducible refine DV.w_f6 ?_
    | with_reducible refine DV.w_set ?_
    | with_reducible refine DV.w_setApp ?_
    | with_reducible refine DV.w_setX (by with_unfolding_all exact rfl) (by with_unfolding_all (simp only [List.set_cons_succ, List.set_cons_zero]; rfl)) ?_
    | with_reducible refine DV.w_rt ?_
    | with_reducible refine DV.w_rtD ?_
    | with_reducible refine DV.w_rtN ?_
    | with_reducible refine DV.w_rtV (by with_unfolding_all exact rfl) ?_
    | with_reducible refine DV.w_if ?_
    | with_reducible refine DV.w_drop ?_
    | with_reducible refine DV.w_nop ?_
    | with_reducible refine DV.w_T ?_
    | with_reducible refine DV.w_B ?_
    | with_reducible refine DV.w_not ?_
    | with_reducible refine DV.w_and ?_
    | with_reducible refine DV.w_or ?_
    | with_reducible refine DV.w_ifT ?_
    | with_reducible refine DV.w_ifF ?_
    | with_reducible refine DV.w_ifNT ?_
    | with_reducible refine DV.w_ifNF ?_
    | with_reducible refine DV.w_stup ?_
    | with_reducible refine DV.w_stupD (by with_unfolding_all (simp only [DV.wipeE, DV.gTupF, DV.gMore, DV.gNone, DV.gNm, List.set_cons_succ, List.set_cons_zero, List.length]; rfl)) ?_
    | with_reducible refine DV.w_aug (by with_unfolding_all exact rfl) ?_
    | with_reducible refine DV.w_I ?_
    | with_reducible refine DV.w_app (by with_unfolding_all exact rfl) (by simp only [List.length_map]; omega) ?_
    | with_reducible refine DV.w_D ?_
    | with_reducible refine DV.w_for ?_
    | with_reducible refine DV.w_lc ?_
    | with_reducible refine DV.w_par ?_
    | with_reducible refine DV.w_par3 ?_
    | with_reducible refine DV.w_par4 ?_
    | with_reducible refine DV.w_parX (by with_unfolding_all exact rfl) (by with_unfolding_all exact rfl) (by with_unfolding_all (simp only [List.set_cons_succ, List.set_cons_zero]; rfl)) ?_
    | with_reducible refine DV.w_par3X (by with_unfolding_all exact rfl) (by with_unfolding_all exact rfl) (by with_unfolding_all exact rfl) (by with_unfolding_all (simp only [List.set_cons_succ, List.set_cons_zero]; rfl)) ?_
    | with_reducible refine DV.w_par4X (by with_unfolding_all exact rfl) (by with_unfolding_all exact rfl) (by with_unfolding_all exact rfl) (by with_unfolding_all exact rfl) (by with_unfolding_all (simp only [List.set_cons_succ, List.set_cons_zero]; rfl)) ?_
    | with_reducible refine DV.w_tup ?_
    | with_reducible refine DV.w_lst ?_
    | with_reducible refine DV.w_tu (by with_unfolding_all exact rfl) (by with_unfolding_all exact Nat.le_of_ble_eq_true rfl) ?_
    | with_reducible refine DV.w_ls (by with_unfolding_all exact rfl) (by with_unfolding_all exact Nat.le_of_ble_eq_true rfl) ?_
    | with_reducible refine DV.w_neg ?_
    | with_reducible refine DV.w_ifB ?_
    | with_reducible refine DV.w_ifE ?_
    | with_reducible refine DV.w_notB ?_
    | with_reducible refine DV.w_tt ?_
    | with_reducible refine DV.w_ch ?_
    | with_reducible refine DV.w_add ?_
    | with_reducible refine DV.w_sub ?_
    | with_reducible refine DV.w_mul (by first | omega | (left; constructor <;> omega) | (right; constructor <;> omega)) ?_
    | with_reducible refine DV.w_mod (by omega) ?_
    | with_reducible refine DV.w_div (by omega) ?_
    | with_reducible refine DV.w_lt ?_
    | with_reducible refine DV.w_le ?_
    | with_reducible refine DV.w_gt ?_
    | with_reducible refine DV.w_ge ?_
    | with_reducible refine DV.w_ltA ?_
    | with_reducible refine DV.w_leA ?_
    | with_reducible refine DV.w_gtA ?_
    | with_reducible refine DV.w_geA ?_
    | with_reducible refine DV.w_eq ?_
    | with_reducible refine DV.w_ne ?_
    | with_reducible refine DV.w_eqB ?_
    | with_reducible refine DV.w_neB ?_
    | with_reducible refine DV.w_eqN ?_
    | with_reducible refine DV.w_neN ?_
    | with_reducible refine DV.w_eqN0 ?_
    | with_reducible refine DV.w_neN0 ?_
    | with_reducible refine DV.w_in ?_
    | with_reducible refine DV.w_inB ?_
    | with_reducible refine DV.w_notIn ?_
    | with_reducible refine DV.w_notInB ?_
    | with_reducible refine DV.w_ix0 ?_
    | with_reducible refine DV.w_ix1 ?_
    | with_reducible refine DV.w_ix (by omega) ?_
    | with_reducible refine DV.w_ixB (by omega) ?_
    | with_reducible refine DV.w_len ?_
    | with_reducible refine DV.w_lenB ?_
    | with_reducible refine DV.w_lenN ?_
    | with_reducible refine DV.w_lenM ?_
    | with_reducible refine DV.w_lenMB ?_
    | with_reducible refine DV.w_lenMN ?_
    | with_reducible refine DV.w_lenD ?_
    | with_reducible refine DV.w_lenDB ?_
    | with_reducible refine DV.w_lenDN ?_
    | with_reducible refine DV.w_tupN ?_
    | with_reducible refine DV.w_tupB ?_
    | with_reducible refine DV.w_tupD ?_
    | with_reducible refine DV.w_lstD ?_
    | with_reducible refine DV.w_lstB ?_
    | with_reducible refine DV.w_lstN ?_
    | with_reducible refine DV.w_sum ?_
    | with_reducible refine DV.w_sumN ?_
    | with_reducible refine DV.w_sumB ?_
    | with_reducible refine DV.w_max2 ?_
    | with_reducible refine DV.w_min2 ?_
    | with_reducible refine DV.w_int ?_
    | with_reducible refine DV.w_sort ?_
    | with_reducible refine DV.w_sortN ?_
    | with_reducible refine DV.w_sortB ?_
    | with_reducible refine DV.w_rep (by omega) ?_
    | with_reducible refine DV.w_repN (by omega) ?_
    | with_reducible refine DV.w_moveG (by with_unfolding_all exact rfl) (by with_unfolding_all (simp only [List.set_cons_succ, List.set_cons_zero]; rfl)) ?_
    | with_reducible refine DV.w_moveO (by with_unfolding_all exact rfl) (by with_unfolding_all (simp only [List.set_cons_succ, List.set_cons_zero]; rfl)) ?_
    | with_reducible refine DV.w_moveD (by with_unfolding_all exact rfl) (by with_unfolding_all (simp only [List.set_cons_succ, List.set_cons_zero]; rfl)) ?_
    | with_reducible refine DV.w_catTI (by (try simp only [List.length_append, List.length_take, List.length_drop, List.length_cons, List.length_nil]); omega) ?_
    | with_reducible refine DV.w_catT1 (by (try simp only [List.length_append, List.length_take, List.length_drop, List.length_cons, List.length_nil]); omega) ?_
    | with_reducible refine DV.w_listG ?_
    | with_reducible refine DV.w_sortK ?_
    | with_reducible refine DV.w_colS ?_
    | with_reducible refine DV.w_itT ?_
    | with_reducible refine DV.w_itB ?_
    | with_reducible refine DV.w_itN ?_
    | with_reducible refine DV.w_colR ?_
    | with_reducible refine DV.w_colRN (by omega) ?_
    | with_reducible refine DV.w_ext (by with_unfolding_all exact rfl) ?_
    | with_reducible refine DV.w_lc2 ?_
    | with_reducible refine DV.w_isT ?_
    | with_reducible refine DV.w_isNN ?_
    | with_reducible refine DV.w_isNI ?_
    | with_reducible refine DV.w_isNT ?_
    | with_reducible refine DV.w_ntNN ?_
    | with_reducible refine DV.w_ntNI ?_
    | with_reducible refine DV.w_ntNT ?_
    | with_reducible refine DV.w_repND (by omega) ?_
    | with_reducible refine DV.w_put (by with_unfolding_all exact rfl) ?_
    | with_reducible refine DV.w_putI (by (try simp only [List.length_set, List.length_replicate, List.length_map]); omega) ?_
    | with_reducible refine DV.w_eqB0 ?_
    | with_reducible refine DV.w_neB0 ?_
    | with_reducible refine DV.w_eqBB ?_
    | with_reducible refine DV.w_neBB ?_
    | with_reducible refine DV.w_eqNB ?_
    | with_reducible refine DV.w_neNB ?_
    | with_reducible refine DV.w_eqBN ?_
    | with_reducible refine DV.w_neBN ?_
    | with_reducible refine DV.w_eqT0 ?_
    | with_reducible refine DV.w_neT0 ?_
    | with_reducible refine DV.w_eqT ?_
    | with_reducible refine DV.w_neT ?_
    | with_reducible refine DV.w_gget ?_
    | with_reducible refine DV.w_dc ?_
    | with_reducible refine DV.w_dcN ?_
    | with_reducible refine DV.w_G ?_
    | with_reducible refine DV.w_gput ?_
    | with_reducible refine DV.w_gnew ?_
    | with_reducible refine DV.w_g1 ?_
    | with_reducible refine DV.w_ret ?_
    | with_reducible refine DV.w_slice ?_
    | with_reducible refine DV.w_part ?_
    | with_reducible refine DV.w_slToI (by omega) ?_
    | with_reducible refine DV.w_slFromI (by omega) ?_
    | with_reducible refine DV.w_slToBI (by omega) ?_
    | with_reducible refine DV.w_slFromBI (by omega) ?_
    | with_reducible refine DV.w_star ?_
    | with_reducible refine DV.w_starT ?_
    | with_reducible refine DV.w_starB ?_
    | with_reducible refine DV.w_starN ?_
    | with_reducible refine DV.w_ixR (by omega) ?_
    | with_reducible refine DV.w_ixRB (by omega) ?_
    | with_reducible refine DV.w_lrg ?_
    | with_reducible refine DV.w_trg ?_
    | with_reducible refine DV.w_rg (by omega) ?_
    | with_reducible refine DV.w_enum ?_
    | with_reducible refine DV.w_zip ?_
    | with_reducible refine DV.w_zip3 ?_
    | with_reducible refine DV.w_step ?_
    | with_reducible refine DV.w_stepB (by omega) ?_
    | with_reducible refine DV.w_srev ?_
    | with_reducible refine DV.w_srevT ?_
    | with_reducible refine DV.w_isTT ?_
    | with_reducible refine DV.w_ntTT ?_
    | with_reducible refine DV.w_isFT ?_
    | with_reducible refine DV.w_ntFT ?_
    | with_reducible refine DV.w_isTF ?_
    | with_reducible refine DV.w_ntTF ?_
    | with_reducible refine DV.w_isFF ?_
    | with_reducible refine DV.w_ntFF ?_
    | with_reducible refine DV.w_ixS (by omega) ?_
    | with_reducible refine DV.w_ix2 ?_
    | with_reducible refine DV.w_gget2 ?_
    | with_reducible refine DV.w_notInTs ?_
    | with_reducible refine DV.w_inTs ?_
    | with_reducible refine DV.w_inTsN ?_
    | with_reducible refine DV.w_sset ?_
    | with_reducible refine DV.w_ssetU (by omega) (by assumption) ?_
    | with_reducible refine DV.w_met ?_
    | with_reducible refine DV.w_itL ?_
    | with_reducible refine DV.w_two ?_
    | with_reducible refine DV.w_twoX ?_
    | with_reducible refine DV.w_neS ?_
    | with_reducible refine DV.w_eqS ?_
    | with_reducible refine DV.w_rev ?_
    | with_reducible refine DV.w_revN ?_
    | with_reducible refine DV.w_lset ?_
    | with_reducible refine DV.w_isNL ?_
    | with_reducible refine DV.w_isBL ?_
    | with_reducible refine DV.w_ntNL ?_
    | with_reducible refine DV.w_ntBL ?_
    | with_reducible refine DV.w_abs ?_
    | with_reducible refine DV.w_neBl ?_
    | with_reducible refine DV.w_eqBl ?_
    | with_reducible refine DV.w_eqIP ?_
    | with_reducible refine DV.w_neIP ?_
    | with_reducible refine DV.w_ix3 ?_
    | with_reducible refine DVR.w_neW ?_
    | with_reducible refine DVR.w_ixL (by omega) ?_
    | with_reducible refine DV.w_dcomp ?_
    | with_reducible refine DV.w_intB ?_
    | with_reducible refine DV.w_augIx (by with_unfolding_all exact rfl) ?_
    | with_reducible refine DV.w_inN ?_
    | with_reducible refine DV.w_notInN ?_
    | with_reducible refine DV.w_srcE ?_
    | with_reducible refine DV.w_srcV (by with_unfolding_all exact rfl) ?_
    | with_reducible refine DV.w_src (by with_unfolding_all exact rfl) ?_
    | with_reducible refine DV.w_rng1 ?_
    | with_reducible refine DV.w_rng2 ?_
    | with_reducible refine DV.w_rng2I (by omega) ?_
    | with_reducible refine DV.w_rngN (by omega) ?_
    | with_reducible refine DV.w_rngI (by omega) ?_
    | with_reducible refine DV.w_loopN ?_
    | with_reducible refine DV.w_loopC ?_
    | with_reducible refine DV.w_loopB ?_
    | with_reducible refine DV.w_loopR ?_
    | with_reducible refine DV.w_runN ?_
    | with_reducible refine DV.w_runR ?_
    | with_reducible refine DV.w_tg (by with_unfolding_all (simp only [DV.lockE, DV.unlockE, List.getElem?_cons_succ, List.getElem?_cons_zero, DV.wipeE, DV.gTupF, DV.gMore, DV.gNone, DV.gNm, List.set_cons_succ, List.set_cons_zero, List.length]; rfl)) ?_)
end DVL

namespace DV
open PySem L2
section
variable {P : RV → Prop} {f h : Env → DV.M RV} {ρ ρ' : Env} {Q : Out → Prop} {α : Type} {mk : α → D}
theorem w_isNL {ds : List D} (p : P (.d (.bool false))) : K2 gIs P (.n ds) (.d .none) := ⟨_, rfl, p⟩
theorem w_isBL {ds : List D} (p : P (.d (.bool false))) : K2 gIs P (.b ds) (.d .none) := ⟨_, rfl, p⟩
theorem w_ntNL {ds : List D} (p : P (.d (.bool true))) : K2 gIsNot P (.n ds) (.d .none) := ⟨_, rfl, p⟩
theorem w_ntBL {ds : List D} (p : P (.d (.bool true))) : K2 gIsNot P (.b ds) (.d .none) := ⟨_, rfl, p⟩
theorem w_abs {i : Int} (p : P (.d (.int (i.natAbs : Int)))) : KC gAbs P [.d (.int i)] := by
  refine ⟨.d (.int (i.natAbs : Int)), ?_, p⟩
  show some (RV.d (.int (if i < 0 then -i else i))) = _
  congr 3
  split <;> omega
theorem eq_blB (neg x y : Bool) : gEqB neg (.d (.bool x)) (.d (.bool y)) = some (.d (.bool (if neg then !decide (x = y) else decide (x = y)))) := by
  cases neg <;> cases x <;> cases y <;> rfl
theorem w_neBl {x y : Bool} (p : P (.d (.bool (!decide (x = y))))) : K2 gNe P (.d (.bool x)) (.d (.bool y)) := ⟨_, eq_blB true x y, p⟩
theorem w_eqBl {x y : Bool} (p : P (.d (.bool (decide (x = y))))) : K2 gEq P (.d (.bool x)) (.d (.bool y)) := ⟨_, eq_blB false x y, p⟩
theorem eq_ip (neg : Bool) (a b c d : Int) : gEqB neg (.d (.tuple [.int a, .int b])) (.d (.tuple [.int c, .int d])) = some (.d (.bool (if neg then !decide (a = c ∧ b = d) else decide (a = c ∧ b = d)))) := by
  have hs : ∀ a b : Int, SeqAt.shaped (.tuple [.int a, .int b]) = true := fun a b => DVL.shaped_intsT [a, b]
  show (if SeqAt.shaped (.tuple [.int a, .int b]) = true then if SeqAt.shaped (.tuple [.int c, .int d]) = true then some (RV.d (.bool (if neg then !PyData.eqv (.tuple [.int a, .int b]) (.tuple [.int c, .int d]) else PyData.eqv (.tuple [.int a, .int b]) (.tuple [.int c, .int d])))) else none else none) = _
  rw [if_pos (hs a b), if_pos (hs c d), eqvP]
theorem w_eqIP {a b c d : Int} (p : P (.d (.bool (decide (a = c ∧ b = d))))) : K2 gEq P (.d (.tuple [.int a, .int b])) (.d (.tuple [.int c, .int d])) := ⟨_, eq_ip false a b c d, p⟩
theorem w_neIP {a b c d : Int} (p : P (.d (.bool (!decide (a = c ∧ b = d))))) : K2 gNe P (.d (.tuple [.int a, .int b])) (.d (.tuple [.int c, .int d])) := ⟨_, eq_ip true a b c d, p⟩
theorem w_ix3 {d e g x : D} {ds : List D} (p : P (.d x)) : K2 gIx P (.d (.tuple (d :: e :: g :: x :: ds))) (.d (.int 3)) := by
  refine ⟨.d x, ?_, p⟩
  show (atI (d :: e :: g :: x :: ds) ((3 : Nat) : Int)).map RV.d = _
  rw [atI_nat (v := x) rfl]; rfl
end
end DV
namespace DVR
open PySem L2 DV DVL
/-- links as data -/
abbrev mkL (l : Lk) : D := .tuple [.int l.1, .int l.2.1, .int l.2.2.1, .int l.2.2.2]
/-- what waits -/
abbrev mkW (ls : List Lk) (s : Int) (p : List Int) : D := .tuple [.int (Hd ls s p), .int (wt (tim ls) p), .int (wt (rnd ls) p), ti p, ti (Mt4 ls s p)]
theorem at4_in {ls : List Lk} {i : Int} (h0 : 0 ≤ i) (h1 : i < (ls.length : Int)) : ls[i.toNat]? = some (at4 ls i) := by
  have h : i.toNat < ls.length := by omega
  unfold at4
  rw [List.getD_eq_getElem?_getD, List.getElem?_eq_getElem h]
  rfl
theorem canLay_W (ls : List Lk) (s : Int) : ∀ P : List (List Int), PyData.canLayAll0 (P.map (mkW ls s)) = true
  | [] => by simp [PyData.canLayAll0]
  | p :: P => by
    rw [List.map_cons, PyData.canLayAll0, canLay_W ls s P]
    have h1 := canLay_ints p
    have h2 := canLay_ints (Mt4 ls s p)
    simp [PyData.canLay0, PyData.canLayAll0, h1, h2]
theorem depth_W (ls : List Lk) (s : Int) : ∀ P : List (List Int), PyData.depthAll (P.map (mkW ls s)) ≤ 2
  | [] => by simp [PyData.depthAll]
  | p :: P => by
    rw [List.map_cons, PyData.depthAll]
    have h1 := depth_W ls s P
    have h2 : (mkW ls s p).depth ≤ 2 := by
      have a := depth_ints p
      have b := depth_ints (Mt4 ls s p)
      show PyData.depth (.tuple _) ≤ 2
      simp only [PyData.depth, PyData.depthAll, a, b]
      omega
    omega
theorem w_neW {P : RV → Prop} {ls : List Lk} {s : Int} {L : List (List Int)} (p : P (.d (.bool (!decide (L = []))))) : DV.K2 gNe P (.b (L.map (mkW ls s))) (.n []) := by
  refine ⟨_, ?_, p⟩
  have hs : SeqAt.shaped (.list (L.map (mkW ls s))) = true := by
    unfold SeqAt.shaped
    have h := depth_W ls s L
    rw [PyData.canLay0, canLay_W, PyData.depth]
    simp
    omega
  have hn : SeqAt.shaped (.list []) = true := rfl
  show (if SeqAt.shaped (.list (L.map (mkW ls s))) = true then if SeqAt.shaped (.list []) = true then some (RV.d (.bool (!PyData.eqv (.list (L.map (mkW ls s))) (.list [])))) else none else none) = _
  rw [if_pos hs, if_pos hn]
  have e : PyData.eqv (.list (L.map (mkW ls s))) (.list []) = decide (L = []) := by
    rw [PyData.eqv]
    cases L with
    | nil => rfl
    | cons a L => simp [PyData.eqvAll]
  rw [e]
theorem w_ixL {P : RV → Prop} {ls : List Lk} {j : Int} (c : 0 ≤ j ∧ j < ls.length) (p : P (.d (mkL (at4 ls j)))) : DV.K2 gIx P (.d (.tuple (ls.map mkL))) (.d (.int j)) := w_ixM c.1 (at4_in c.1 c.2) p
end DVR

namespace DVR
open PySem L2 DV DVL
/-- where a move stands -/
def pl (o : List Int) (v : Int) : Int := (o.idxOf v : Nat)
def lt1 (o : List Int) (m : Int) : Int := if pl o (m + 1) < pl o m then 1 else 0
/-- the links of the order -/
def oLk (ms : List Int) (wk : Int) (o : List Int) (k : Int) : Lk := (val o k, val o ((k + 1) % (o.length : Int)), val ms (val o k) + wk * ((val o k + 1 - val o ((k + 1) % (o.length : Int))).natAbs : Int), if k + 1 = (o.length : Int) then 1 else 0)
def mLk (ts ms o : List Int) (m : Int) : Lk := (m, m + 1, val ms m + val ts m, lt1 o m)
def LL (ts ms : List Int) (wk : Int) (o : List Int) : List Lk := (rngI 0 o.length).map (oLk ms wk o) ++ (rngI 0 ts.length).map (mLk ts ms o)
section
variable {ts ms o : List Int} {wk : Int}
/-- what any of the links is like -/
structure L2 (ts o : List Int) (l : Lk) : Prop where
  a : 0 ≤ l.1 ∧ l.1 < ((ts.length + 1 : Nat) : Int)
  b : 0 ≤ l.2.1 ∧ l.2.1 < ((ts.length + 1 : Nat) : Int)
  t : 0 ≤ l.2.2.1 ∧ l.2.2.1 ≤ 100
  r : 0 ≤ l.2.2.2 ∧ l.2.2.2 ≤ 3
  k : pl o l.2.1 ≤ pl o l.1 → 1 ≤ l.2.2.2
end
end DVR

namespace DV
open PySem L2
def KDc (vs : List Nat) (tg : D → Env → Option Env) (t : Env → M Bool) (kf vf : Env → DV.M RV) (ρ : Env) (P : RV → Prop) (q : List D × Option Nat) : Prop := q.1.length ≤ 50000 ∧ Gives (dcF tg t kf vf (wipeE ρ vs) q.1 []) fun kv => P (.gn ⟨false, kv⟩)
section
variable {α : Type} {P : RV → Prop} {ρ : Env} {fi : Env → M (List D × Option Nat)} {vs : List Nat} {tg : D → Env → Option Env} {t : Env → M Bool} {kf vf : Env → DV.M RV}
theorem w_dcomp (p : Gives (fi ρ) (KDc vs tg t kf vf ρ P)) : Gives (eDc fi vs tg t kf vf ρ) P := by
  unfold eDc
  refine Gives.bnd p fun q ⟨h1, h2⟩ => ?_
  rw [if_pos h1]
  exact Gives.bnd h2 fun kv h => Gives.ret h
theorem w_intB {b : Bool} (p : P (.d (.int (if b = true then 1 else 0)))) : KC gInt P [.d (.bool b)] := ⟨.d (.int (if b = true then 1 else 0)), by cases b <;> rfl, p⟩
end
end DV





namespace DVS
open PySem L2 DV DVL DVB
def fl (k : Int) (ds : List (List Int)) : List (Int × Int) := (enI k ds).flatMap fun q => q.2.map fun j => (j, q.1)
theorem fl_cons (k : Int) (d : List Int) (ds : List (List Int)) : fl k (d :: ds) = d.map (fun j => (j, k)) ++ fl (k + 1) ds := rfl
theorem fl_keys : ∀ (k : Int) (ds : List (List Int)), (fl k ds).map (·.1) = ds.flatten
  | k, [] => rfl
  | k, d :: ds => by
    rw [fl_cons, List.map_append, fl_keys (k + 1) ds, List.map_map, List.flatten_cons]
    congr 1
    exact List.map_id' d
theorem fl_app : ∀ (k : Int) (us vs : List (List Int)), fl k (us ++ vs) = fl k us ++ fl (k + (us.length : Nat)) vs
  | k, [], vs => by
    show fl k vs = fl (k + 0) vs
    rw [Int.add_zero]
  | k, d :: us, vs => by
    rw [List.cons_append, fl_cons, fl_cons, fl_app (k + 1) us vs, List.append_assoc, List.length_cons]
    congr 3
    omega
theorem fl_in {k : Int} {us vs : List (List Int)} {d : List Int} {j : Int} (h : j ∈ d) : (j, k + (us.length : Nat)) ∈ fl k (us ++ d :: vs) := by
  rw [fl_app, fl_cons]
  exact List.mem_append_right _ (List.mem_append_left _ (List.mem_map.mpr ⟨j, h, rfl⟩))
section
variable {n : Nat} {P : List (Int × Int)} {b : Nat} {ds : List (List Int)}
theorem pl_at : ∀ {us vs : List (List Int)} {d S : List Int}, Pl n P b S (us ++ d :: vs) → DayOk n P b (S ++ us.flatten) d
  | [], vs, d, S, h => by
    cases h with
    | cons h1 h2 => rw [List.flatten_nil, List.append_nil]; exact h1
  | u :: us, vs, d, S, h => by
    cases h with
    | cons h1 h2 => rw [List.flatten_cons, ← List.append_assoc]; exact pl_at h2
theorem in_day {ds : List (List Int)} {j : Int} (h : j ∈ ds.flatten) : ∃ us d vs, ds = us ++ d :: vs ∧ j ∈ d := by
  obtain ⟨d, hd, hj⟩ := List.mem_flatten.mp h
  obtain ⟨us, vs, e⟩ := List.append_of_mem hd
  exact ⟨us, d, vs, e, hj⟩
/-- each job behind those ahead of it -/
theorem Cp.lt (G : Prs n P) (C : Cp n P b ds) {p : Int × Int} (hp : p ∈ P) : ∃ a c : Int, (p.1, a) ∈ fl 0 ds ∧ (p.2, c) ∈ fl 0 ds ∧ a < c := by
  have hr := G.rg p hp
  obtain ⟨us, d, vs, e, hj⟩ := in_day (C.all.mem_iff.mpr ((mem_rngI p.2 0 n).mpr (by omega)))
  subst e
  have hd := pl_at C.pl
  rw [List.nil_append] at hd
  have h1 := ((mem_Ab G).mp (hd.able _ hj)).2.2 p hp rfl
  obtain ⟨us1, d1, vs1, e1, hj1⟩ := in_day h1
  subst e1
  refine ⟨0 + (us1.length : Nat), 0 + ((us1 ++ d1 :: vs1).length : Nat), ?_, fl_in hj, ?_⟩
  · rw [List.append_assoc, List.cons_append]
    exact fl_in hj1
  · rw [List.length_append, List.length_cons]
    omega
theorem Cp.keys (C : Cp n P b ds) : ((fl 0 ds).map (·.1)).Nodup := by
  rw [fl_keys]
  exact C.all.nodup_iff.mpr (rngI_nodup 0 n)
theorem Cp.day (C : Cp n P b ds) {d : List Int} (h : d ∈ ds) : d.length ≤ b ∧ ∀ j ∈ d, 0 ≤ j ∧ j < (n : Int) := by
  obtain ⟨us, vs, e⟩ := List.append_of_mem h
  have hd := pl_at (e ▸ C.pl)
  refine ⟨hd.len, fun j hj => ?_⟩
  have := (mem_rngI j 0 n).mp (C.all.mem_iff.mp (List.mem_flatten.mpr ⟨d, h, hj⟩))
  omega
end
end DVS

namespace DVS
open PySem L2 DV DVL DVB
section
variable {n : Nat} {ch : List Int}
variable {P : List (Int × Int)} {b : Nat} {lv : Int → Int}
/-- the bound by levels -/
def cntL (n : Nat) (lv : Int → Int) (L : Int) : Nat := (rem n lv [] L).length
structure Bd (n : Nat) (b : Nat) (lv : Int → Int) (F : Int) : Prop where
  ge : ∀ L : Nat, 1 ≤ cntL n lv L → (L : Int) + -(-(cntL n lv L : Int) / (b : Int)) ≤ F
  at_ : ∃ L : Nat, F = (L : Int) + -(-(cntL n lv L : Int) / (b : Int)) ∧ (1 ≤ cntL n lv L ∨ ∃ K : Nat, K + 1 = L ∧ 1 ≤ cntL n lv K)
theorem Bd.low (hb : 1 ≤ b) (G : Prs n P) (V : Lvl n P lv) {F : Int} (B : Bd n b lv F) {ds : List (List Int)} (C : Cp n P b ds) : F ≤ (ds.length : Int) := by
  obtain ⟨L, e, h⟩ := B.at_
  have hl := DVS.low G V ds [] Dn.nil C.pl fun j h0 h1 => by
    rw [List.nil_append]
    exact C.all.mem_iff.mpr ((mem_rngI _ _ _).mpr (by omega))
  have hL := hl L
  have pos : ∀ K : Nat, 1 ≤ cntL n lv K → K < ds.length := fun K hK => Nat.lt_of_not_le fun hc => by
    have := (hl K).2 hc
    unfold cntL at hK
    rw [this] at hK
    exact absurd hK (by decide)
  have hLd : L ≤ ds.length := by
    rcases h with h | ⟨K, e2, h⟩
    · exact Nat.le_of_lt (pos L h)
    · have := pos K h; omega
  have h1 : (cntL n lv L : Int) ≤ (b : Int) * ((ds.length : Int) - (L : Int)) := by
    have h2 : cntL n lv L ≤ b * (ds.length - L) := hL.1
    have h3 : ((b * (ds.length - L) : Nat) : Int) = (b : Int) * ((ds.length : Int) - (L : Int)) := by
      rw [Int.natCast_mul, Int.natCast_sub hLd]
    omega
  have h4 : -((ds.length : Int) - (L : Int)) ≤ -(cntL n lv L : Int) / (b : Int) := by
    rw [Int.le_ediv_iff_mul_le (by omega), Int.neg_mul, Int.mul_comm]
    omega
  omega
theorem Full.le (hn : n ≤ 10) {ds : List (List Int)} (H : Full n P b lv ds) : ds.length ≤ 10 := by
  have h1 := flat_ge H.pos
  have h2 := H.all.length_eq
  rw [rngI_len] at h2
  omega
end
end DVS

namespace DVS
open PySem L2 DV DVL DVB
/-- the parts of so many -/
def fdI (b : Nat) (A : List Int) : List (List Int) := (ptI (min A.length b) A).filter fun p => decide (p.length = min A.length b)
theorem mem_fdI {b : Nat} {A p : List Int} (h : p ∈ fdI b A) : p.Sublist A ∧ p.length = min A.length b := by
  unfold fdI at h
  rw [List.mem_filter, decide_eq_true_eq] at h
  exact ⟨(pt_sub _ _ _ h.1).1, h.2⟩
theorem sub_filter {A p : List Int} (nd : A.Nodup) (h : p.Sublist A) : A.filter (fun j => p.elem j) = p := by
  induction h with
  | slnil => rfl
  | @cons l1 l2 a hs ih =>
    rw [List.nodup_cons] at nd
    have h1 : (l1.elem a) = false := by
      cases e : l1.elem a with
      | false => rfl
      | true => exact absurd (hs.mem (List.mem_of_elem_eq_true e)) nd.1
    rw [List.filter_cons_of_neg (by rw [h1]; exact Bool.false_ne_true)]
    exact ih nd.2
  | @cons_cons l1 l2 a hs ih =>
    rw [List.nodup_cons] at nd
    have h1 : ((a :: l1).elem a) = true := List.elem_eq_true_of_mem List.mem_cons_self
    rw [List.filter_cons_of_pos (p := fun j => (a :: l1).elem j) h1]
    congr 1
    refine Eq.trans (List.filter_congr fun j hj => ?_) (ih nd.2)
    have hne : j ≠ a := fun e => nd.1 (e ▸ hj)
    rw [Bool.eq_iff_iff, List.elem_iff, List.elem_iff, List.mem_cons]
    exact ⟨fun z => z.elim (fun z => absurd z hne) id, .inr⟩
theorem in_fdI {b : Nat} {A p : List Int} (nd : A.Nodup) (h : p.Sublist A) (hl : p.length = min A.length b) : p ∈ fdI b A := by
  unfold fdI
  rw [List.mem_filter, decide_eq_true_eq]
  refine ⟨?_, hl⟩
  have := pt_filter (min A.length b) (fun j => p.elem j) A (by rw [sub_filter nd h]; omega)
  rwa [sub_filter nd h] at this
/-- a part made larger -/
theorem sub_more : ∀ {A c : List Int} {m : Nat}, c.Sublist A → c.length ≤ m → m ≤ A.length → ∃ d : List Int, d.Sublist A ∧ (∀ x ∈ c, x ∈ d) ∧ d.length = m := by
  intro A
  induction A with
  | nil =>
    intro c m hs hc hm
    exact ⟨[], List.Sublist.refl _, fun x hx => hs.mem hx, by simp at hm; exact hm.symm⟩
  | cons a A ih =>
    intro c m hs hc hm
    rw [List.length_cons] at hm
    cases hs with
    | cons _ h =>
      by_cases e : m ≤ A.length
      · obtain ⟨d, d1, d2, d3⟩ := ih h hc e
        exact ⟨d, d1.cons a, d2, d3⟩
      · exact ⟨a :: A, List.Sublist.refl _, fun x hx => List.mem_cons_of_mem _ (h.mem hx), by rw [List.length_cons]; omega⟩
    | cons_cons _ h =>
      rename_i c'
      rw [List.length_cons] at hc
      obtain ⟨d, d1, d2, d3⟩ := ih h (m := m - 1) (by omega) (by omega)
      refine ⟨a :: d, d1.cons_cons a, fun x hx => ?_, by rw [List.length_cons]; omega⟩
      rcases List.mem_cons.mp hx with z | z
      · rw [z]; exact List.mem_cons_self
      · exact List.mem_cons_of_mem _ (d2 x z)
/-- days that are full each -/
inductive Fp (n : Nat) (P : List (Int × Int)) (b : Nat) : List Int → List (List Int) → Prop
  | nil {S : List Int} : Fp n P b S []
  | cons {S day : List Int} {ds : List (List Int)} : day ∈ fdI b (Ab P n S) → Fp n P b (S ++ day) ds → Fp n P b S (day :: ds)
section
variable {n : Nat} {P : List (Int × Int)} {b : Nat}
theorem fd_ok {S day : List Int} (h : day ∈ fdI b (Ab P n S)) : DayOk n P b S day := by
  obtain ⟨h1, h2⟩ := mem_fdI h
  exact ⟨fun j hj => h1.mem hj, (Ab_nodup P n S).sublist h1, by omega⟩
theorem Fp.pl : ∀ {ds : List (List Int)} {S : List Int}, Fp n P b S ds → Pl n P b S ds
  | [], _, _ => .nil
  | _ :: _, _, h => by
    cases h with
    | cons h1 h2 => exact .cons (fd_ok h1) h2.pl
/-- full days are no more than any days -/
theorem full_le (G : Prs n P) : ∀ (ds : List (List Int)) (S S' : List Int), Dn n P S → Dn n P S' → (∀ x ∈ S, x ∈ S') → Pl n P b S ds → (∀ j, 0 ≤ j → j < (n : Int) → j ∈ S ++ ds.flatten) → ∃ es : List (List Int), Fp n P b S' es ∧ es.length ≤ ds.length ∧ ∀ j, 0 ≤ j → j < (n : Int) → j ∈ S' ++ es.flatten
  | [], S, S', hS, hS', hss, hp, hf => by
    refine ⟨[], .nil, Nat.le_refl _, fun j h0 h1 => ?_⟩
    have := hf j h0 h1
    rw [List.flatten_nil, List.append_nil] at this
    exact List.mem_append_left _ (hss j this)
  | d :: ds, S, S', hS, hS', hss, hp, hf => by
    cases hp with
    | cons h1 h2 =>
      have hc := sub_filter (A := Ab P n S') (Ab_nodup P n S') (p := (Ab P n S').filter fun j => d.elem j) List.filter_sublist
      have hcs : ((Ab P n S').filter fun j => d.elem j).Sublist (Ab P n S') := List.filter_sublist
      have hcl : ((Ab P n S').filter fun j => d.elem j).length ≤ min (Ab P n S').length b := by
        have a := hcs.length_le
        have c := nodup_leG ((Ab_nodup P n S').sublist hcs) (q := d) fun x hx => List.mem_of_elem_eq_true (List.mem_filter.mp hx).2
        have := h1.len
        omega
      obtain ⟨d', d1, d2, d3⟩ := sub_more hcs hcl (Nat.min_le_left ..)
      have hd' := in_fdI (b := b) (Ab_nodup P n S') d1 d3
      have hcov : ∀ x ∈ S ++ d, x ∈ S' ++ d' := fun x hx => by
        rcases List.mem_append.mp hx with z | z
        · exact List.mem_append_left _ (hss x z)
        · by_cases e : x ∈ S'
          · exact List.mem_append_left _ e
          · obtain ⟨a, _, c⟩ := (mem_Ab G).mp (h1.able x z)
            exact List.mem_append_right _ (d2 x (List.mem_filter.mpr ⟨(mem_Ab G).mpr ⟨a, e, fun p hp ep => hss _ (c p hp ep)⟩, List.elem_eq_true_of_mem z⟩))
      obtain ⟨es, e1, e2, e3⟩ := full_le G ds (S ++ d) (S' ++ d') (hS.add G h1) (hS'.add G (fd_ok hd')) hcov h2 fun j h0 h1 => by
        have := hf j h0 h1
        rwa [List.flatten_cons, ← List.append_assoc] at this
      refine ⟨d' :: es, .cons hd' e1, by rw [List.length_cons, List.length_cons]; omega, fun j h0 h1 => ?_⟩
      rw [List.flatten_cons, ← List.append_assoc]
      exact e3 j h0 h1
/-- full days that do all jobs -/
structure Fc (n : Nat) (P : List (Int × Int)) (b : Nat) (ds : List (List Int)) : Prop where
  fp : Fp n P b [] ds
  all : ds.flatten.Perm (rngI 0 n)
theorem Cp.full (G : Prs n P) {ds : List (List Int)} (C : Cp n P b ds) : ∃ es, Fc n P b es ∧ es.length ≤ ds.length := by
  obtain ⟨es, e1, e2, e3⟩ := full_le G ds [] [] Dn.nil Dn.nil (fun x hx => hx) C.pl fun j h0 h1 => by
    rw [List.nil_append]
    exact C.all.mem_iff.mpr ((mem_rngI _ _ _).mpr (by omega))
  have hD := Dn.pl G (b := b) (Dn.nil (n := n) (P := P)) e1.pl
  rw [List.nil_append] at hD e3
  exact ⟨es, ⟨e1, nodup_perm hD.nd (fun j hj => (mem_rngI _ _ _).mpr (by have := hD.rg j hj; omega)) (nodup_leG (rngI_nodup 0 n) fun j hj => by have := (mem_rngI _ _ _).mp hj; exact e3 j (by omega) (by omega))⟩, e2⟩
end
end DVS


namespace DVS
open PySem L2 DV DVL DVB
section
variable {n : Nat} {P : List (Int × Int)} {b : Nat} {lv : Int → Int}
/-- a day that is not full takes all that is able: what is left is lower -/
theorem short_day (G : Prs n P) (V : Lvl n P lv) {S day : List Int} (hS : Dn n P S) (h : Hi n P b lv S day) (hl : day.length < b) {L : Nat} (hL : ∀ j, 0 ≤ j → j < (n : Int) → j ∉ S → lv j ≤ (L : Int) + 1) : ∀ j, 0 ≤ j → j < (n : Int) → j ∉ S ++ day → lv j ≤ (L : Int) := fun j h0 h1 hn => by
  have hjS : j ∉ S := fun z => hn (List.mem_append_left _ z)
  have hjd : j ∉ day := fun z => hn (List.mem_append_right _ z)
  have hna : j ∉ Ab P n S := fun z => by
    have := (h.full j z hjd).1
    omega
  have hex : ∃ p ∈ P, p.2 = j ∧ p.1 ∉ S := Classical.byContradiction fun hc => hna ((mem_Ab G).mpr ⟨⟨h0, h1⟩, hjS, fun p hp e => Classical.byContradiction fun z => hc ⟨p, hp, e, z⟩⟩)
  obtain ⟨p, hp, e, hps⟩ := hex
  have h2 := V.dn p hp
  have h3 := G.rg p hp
  have h4 := hL p.1 h3.1.1 h3.1.2 hps
  rw [e] at h2
  omega
/-- days and jobs -/
theorem graham (G : Prs n P) (V : Lvl n P lv) : ∀ (ds : List (List Int)) (S : List Int) (L : Nat), Dn n P S → Hp n P b lv S ds → (∀ d ∈ ds, d ≠ []) → (∀ j, 0 ≤ j → j < (n : Int) → j ∉ S → lv j ≤ (L : Int)) → ds.length * b ≤ ds.flatten.length + L * (b - 1)
  | [], S, L, _, _, _, _ => by
    rw [List.length_nil, Nat.zero_mul]
    exact Nat.zero_le _
  | d :: ds, S, L, hS, hh, hne, hL => by
    cases hh with
    | cons h1 h2 =>
      have hd := hne d List.mem_cons_self
      have hd1 : 1 ≤ d.length := by cases d with | nil => exact absurd rfl hd | cons => rw [List.length_cons]; omega
      rw [List.flatten_cons, List.length_append, List.length_cons, Nat.add_mul, Nat.one_mul]
      by_cases hl : d.length < b
      · obtain ⟨j, hj⟩ := List.exists_mem_of_ne_nil d hd
        obtain ⟨⟨j0, j1⟩, jS, _⟩ := (mem_Ab G).mp (h1.ok.able j hj)
        have hp := V.ge j j0 j1
        have hq := hL j j0 j1 jS
        obtain ⟨K, rfl⟩ : ∃ K, L = K + 1 := ⟨L - 1, by omega⟩
        have ih := graham G V ds (S ++ d) K (hS.add G h1.ok) h2 (fun x hx => hne x (List.mem_cons_of_mem _ hx)) (short_day G V hS h1 hl fun j a c e => by have := hL j a c e; omega)
        rw [Nat.add_mul, Nat.one_mul]
        omega
      · have hb := h1.ok.len
        have ih := graham G V ds (S ++ d) L (hS.add G h1.ok) h2 (fun x hx => hne x (List.mem_cons_of_mem _ hx)) fun j a c e => hL j a c fun z => e (List.mem_append_left _ z)
        omega
/-- a plan is no shorter than the highest level, and holds all jobs -/
theorem Cp.lvl (G : Prs n P) (V : Lvl n P lv) {ds : List (List Int)} (C : Cp n P b ds) {j : Int} (h0 : 0 ≤ j) (h1 : j < (n : Int)) : lv j ≤ (ds.length : Int) := by
  have hl := DVS.low G V ds [] Dn.nil C.pl fun j h0 h1 => by
    rw [List.nil_append]
    exact C.all.mem_iff.mpr ((mem_rngI _ _ _).mpr (by omega))
  refine Classical.byContradiction fun hc => ?_
  have := (hl ds.length).2 (Nat.le_refl _)
  have h2 : j ∈ rem n lv [] ((ds.length : Nat) : Int) := mem_rem.mpr ⟨⟨h0, h1⟩, (fun z => nomatch z), by omega⟩
  rw [this] at h2
  cases h2
theorem pl_size {ds : List (List Int)} : ∀ {S : List Int}, Pl n P b S ds → ds.flatten.length ≤ ds.length * b := by
  induction ds with
  | nil => exact fun _ => Nat.zero_le _
  | cons d ds ih =>
    intro S h
    cases h with
    | cons h1 h2 =>
      have := ih h2
      have h3 := h1.len
      rw [List.flatten_cons, List.length_append, List.length_cons, Nat.add_mul, Nat.one_mul]
      omega
theorem Cp.size {ds : List (List Int)} (C : Cp n P b ds) : n ≤ ds.length * b := by
  have h1 := pl_size C.pl
  rw [C.all.length_eq, rngI_len] at h1
  exact h1
theorem Full.bnd (hb : 1 ≤ b) (G : Prs n P) (V : Lvl n P lv) {ds es : List (List Int)} (F : Full n P b lv ds) (C : Cp n P b es) : ds.length * b ≤ es.length * (2 * b - 1) := by
  have h1 := graham G V ds [] es.length Dn.nil F.hp F.pos fun j h0 h1 _ => C.lvl G V h0 h1
  rw [F.all.length_eq, rngI_len] at h1
  have h2 := C.size
  have e : es.length * (2 * b - 1) = es.length * b + es.length * (b - 1) := by
    rw [← Nat.mul_add]
    congr 1
    omega
  omega
end
end DVS

namespace Lk46
open PySem L2 DV DVL DVB DVS
local macro_rules
  | `(tactic| get_elem_tactic_trivial) => `(tactic| first
    | (simp only [List.set_cons_succ, List.set_cons_zero, DV.startE, DV.lawE, DV.toK, DV.lockE, DV.wipeE, List.map_cons, List.map_nil, List.length_cons, List.length_nil, List.replicate_zero, List.replicate_succ, Nat.reduceSub, Nat.reduceAdd, List.append_nil, List.cons_append, List.nil_append]; rfl)
    | exact rfl)
local macro_rules
  | `(tactic| infer_instance) => `(tactic| first
    | with_reducible refine DV.w_cons ?_
    | with_reducible refine DV.w_var (by with_unfolding_all exact rfl) ?_
    | with_reducible refine DV.w_c ?_
    | with_reducible refine DV.w_nil ?_
    | with_reducible refine DV.w_e2 ?_
    | with_reducible refine DV.w_seq ?_
    | with_reducible refine DV.w_seqN ?_
    | with_reducible refine DV.w_seqR ?_
    | with_reducible refine DV.w_seqB ?_
    | with_reducible refine DV.w_seqC ?_
    | with_reducible refine DV.w_call ?_
    | with_reducible refine DV.w_fn ?_
    | with_reducible refine DV.w_f1 ?_
    | with_reducible refine DV.w_f2 ?_
    | with_reducible refine DV.w_f3 ?_
    | with_reducible refine DV.w_f4 ?_
    | with_reducible refine DV.w_f5 ?_
    | with_reducible refine DV.w_f6 ?_
    | with_reducible refine DV.w_set ?_
    | with_reducible refine DV.w_setApp ?_
    | with_reducible refine DV.w_setX (by with_unfolding_all exact rfl) (by with_unfolding_all (simp only [List.set_cons_succ, List.set_cons_zero]; rfl)) ?_
    | with_reducible refine DV.w_rt ?_
    | with_reducible refine DV.w_rtD ?_
    | with_reducible refine DV.w_rtN ?_
    | with_reducible refine DV.w_rtV (by with_unfolding_all exact rfl) ?_
    | with_reducible refine DV.w_if ?_
    | with_reducible refine DV.w_drop ?_
    | with_reducible refine DV.w_nop ?_
    | with_reducible refine DV.w_T ?_
    | with_reducible refine DV.w_B ?_
    | with_reducible refine DV.w_not ?_
    | with_reducible refine DV.w_and ?_
    | with_reducible refine DV.w_or ?_
    | with_reducible refine DV.w_ifT ?_
    | with_reducible refine DV.w_ifF ?_
    | with_reducible refine DV.w_ifNT ?_
    | with_reducible refine DV.w_ifNF ?_
    | with_reducible refine DV.w_stup ?_
    | with_reducible refine DV.w_stupD (by with_unfolding_all (simp only [DV.wipeE, DV.gTupF, DV.gMore, DV.gNone, DV.gNm, List.set_cons_succ, List.set_cons_zero, List.length]; rfl)) ?_
    | with_reducible refine DV.w_aug (by with_unfolding_all exact rfl) ?_
    | with_reducible refine DV.w_I ?_
    | with_reducible refine DV.w_app (by with_unfolding_all exact rfl) (by simp only [List.length_map]; omega) ?_
    | with_reducible refine DV.w_D ?_
    | with_reducible refine DV.w_for ?_
    | with_reducible refine DV.w_lc ?_
    | with_reducible refine DV.w_par ?_
    | with_reducible refine DV.w_par3 ?_
    | with_reducible refine DV.w_par4 ?_
    | with_reducible refine DV.w_parX (by with_unfolding_all exact rfl) (by with_unfolding_all exact rfl) (by with_unfolding_all (simp only [List.set_cons_succ, List.set_cons_zero]; rfl)) ?_
    | with_reducible refine DV.w_par3X (by with_unfolding_all exact rfl) (by with_unfolding_all exact rfl) (by with_unfolding_all exact rfl) (by with_unfolding_all (simp only [List.set_cons_succ, List.set_cons_zero]; rfl)) ?_
    | with_reducible refine DV.w_par4X (by with_unfolding_all exact rfl) (by with_unfolding_all exact rfl) (by with_unfolding_all exact rfl) (by with_unfolding_all exact rfl) (by with_unfolding_all (simp only [List.set_cons_succ, List.set_cons_zero]; rfl)) ?_
    | with_reducible refine DV.w_tup ?_
    | with_reducible refine DV.w_lst ?_
    | with_reducible refine DV.w_tu (by with_unfolding_all exact rfl) (by with_unfolding_all exact Nat.le_of_ble_eq_true rfl) ?_
    | with_reducible refine DV.w_ls (by with_unfolding_all exact rfl) (by with_unfolding_all exact Nat.le_of_ble_eq_true rfl) ?_
    | with_reducible refine DV.w_neg ?_
    | with_reducible refine DV.w_ifB ?_
    | with_reducible refine DV.w_ifE ?_
    | with_reducible refine DV.w_notB ?_
    | with_reducible refine DV.w_tt ?_
    | with_reducible refine DV.w_ch ?_
    | with_reducible refine DV.w_add ?_
    | with_reducible refine DV.w_sub ?_
    | with_reducible refine DV.w_mul (by first | omega | (left; constructor <;> omega) | (right; constructor <;> omega)) ?_
    | with_reducible refine DV.w_mod (by omega) ?_
    | with_reducible refine DV.w_div (by omega) ?_
    | with_reducible refine DV.w_lt ?_
    | with_reducible refine DV.w_le ?_
    | with_reducible refine DV.w_gt ?_
    | with_reducible refine DV.w_ge ?_
    | with_reducible refine DV.w_ltA ?_
    | with_reducible refine DV.w_leA ?_
    | with_reducible refine DV.w_gtA ?_
    | with_reducible refine DV.w_geA ?_
    | with_reducible refine DV.w_eq ?_
    | with_reducible refine DV.w_ne ?_
    | with_reducible refine DV.w_eqB ?_
    | with_reducible refine DV.w_neB ?_
    | with_reducible refine DV.w_eqN ?_
    | with_reducible refine DV.w_neN ?_
    | with_reducible refine DV.w_eqN0 ?_
    | with_reducible refine DV.w_neN0 ?_
    | with_reducible refine DV.w_in ?_
    | with_reducible refine DV.w_inB ?_
    | with_reducible refine DV.w_notIn ?_
    | with_reducible refine DV.w_notInB ?_
    | with_reducible refine DV.w_ix0 ?_
    | with_reducible refine DV.w_ix1 ?_
    | with_reducible refine DV.w_ix (by omega) ?_
    | with_reducible refine DV.w_ixB (by omega) ?_
    | with_reducible refine DV.w_len ?_
    | with_reducible refine DV.w_lenB ?_
    | with_reducible refine DV.w_lenN ?_
    | with_reducible refine DV.w_lenM ?_
    | with_reducible refine DV.w_lenMB ?_
    | with_reducible refine DV.w_lenMN ?_
    | with_reducible refine DV.w_lenD ?_
    | with_reducible refine DV.w_lenDB ?_
    | with_reducible refine DV.w_lenDN ?_
    | with_reducible refine DV.w_tupN ?_
    | with_reducible refine DV.w_tupB ?_
    | with_reducible refine DV.w_tupD ?_
    | with_reducible refine DV.w_lstD ?_
    | with_reducible refine DV.w_lstB ?_
    | with_reducible refine DV.w_lstN ?_
    | with_reducible refine DV.w_sum ?_
    | with_reducible refine DV.w_sumN ?_
    | with_reducible refine DV.w_sumB ?_
    | with_reducible refine DV.w_max2 ?_
    | with_reducible refine DV.w_min2 ?_
    | with_reducible refine DV.w_int ?_
    | with_reducible refine DV.w_sort ?_
    | with_reducible refine DV.w_sortN ?_
    | with_reducible refine DV.w_sortB ?_
    | with_reducible refine DV.w_rep (by omega) ?_
    | with_reducible refine DV.w_repN (by omega) ?_
    | with_reducible refine DV.w_moveG (by with_unfolding_all exact rfl) (by with_unfolding_all (simp only [List.set_cons_succ, List.set_cons_zero]; rfl)) ?_
    | with_reducible refine DV.w_moveO (by with_unfolding_all exact rfl) (by with_unfolding_all (simp only [List.set_cons_succ, List.set_cons_zero]; rfl)) ?_
    | with_reducible refine DV.w_moveD (by with_unfolding_all exact rfl) (by with_unfolding_all (simp only [List.set_cons_succ, List.set_cons_zero]; rfl)) ?_
    | with_reducible refine DV.w_catTI (by (try simp only [List.length_append, List.length_take, List.length_drop, List.length_cons, List.length_nil]); omega) ?_
    | with_reducible refine DV.w_catT1 (by (try simp only [List.length_append, List.length_take, List.length_drop, List.length_cons, List.length_nil]); omega) ?_
    | with_reducible refine DV.w_listG ?_
    | with_reducible refine DV.w_sortK ?_
    | with_reducible refine DV.w_colS ?_
    | with_reducible refine DV.w_itT ?_
    | with_reducible refine DV.w_itB ?_
    | with_reducible refine DV.w_itN ?_
    | with_reducible refine DV.w_colR ?_
    | with_reducible refine DV.w_colRN (by omega) ?_
    | with_reducible refine DV.w_ext (by with_unfolding_all exact rfl) ?_
    | with_reducible refine DV.w_lc2 ?_
    | with_reducible refine DV.w_isT ?_
    | with_reducible refine DV.w_isNN ?_
    | with_reducible refine DV.w_isNI ?_
    | with_reducible refine DV.w_isNT ?_
    | with_reducible refine DV.w_ntNN ?_
    | with_reducible refine DV.w_ntNI ?_
    | with_reducible refine DV.w_ntNT ?_
    | with_reducible refine DV.w_repND (by omega) ?_
    | with_reducible refine DV.w_put (by with_unfolding_all exact rfl) ?_
    | with_reducible refine DV.w_putI (by (try simp only [List.length_set, List.length_replicate, List.length_map]); omega) ?_
    | with_reducible refine DV.w_eqB0 ?_
    | with_reducible refine DV.w_neB0 ?_
    | with_reducible refine DV.w_eqBB ?_
    | with_reducible refine DV.w_neBB ?_
    | with_reducible refine DV.w_eqNB ?_
    | with_reducible refine DV.w_neNB ?_
    | with_reducible refine DV.w_eqBN ?_
    | with_reducible refine DV.w_neBN ?_
    | with_reducible refine DV.w_eqT0 ?_
    | with_reducible refine DV.w_neT0 ?_
    | with_reducible refine DV.w_eqT ?_
    | with_reducible refine DV.w_neT ?_
    | with_reducible refine DV.w_gget ?_
    | with_reducible refine DV.w_dc ?_
    | with_reducible refine DV.w_dcN ?_
    | with_reducible refine DV.w_G ?_
    | with_reducible refine DV.w_gput ?_
    | with_reducible refine DV.w_gnew ?_
    | with_reducible refine DV.w_g1 ?_
    | with_reducible refine DV.w_ret ?_
    | with_reducible refine DV.w_slice ?_
    | with_reducible refine DV.w_part ?_
    | with_reducible refine DV.w_slToI (by omega) ?_
    | with_reducible refine DV.w_slFromI (by omega) ?_
    | with_reducible refine DV.w_slToBI (by omega) ?_
    | with_reducible refine DV.w_slFromBI (by omega) ?_
    | with_reducible refine DV.w_star ?_
    | with_reducible refine DV.w_starT ?_
    | with_reducible refine DV.w_starB ?_
    | with_reducible refine DV.w_starN ?_
    | with_reducible refine DV.w_ixR (by omega) ?_
    | with_reducible refine DV.w_ixRB (by omega) ?_
    | with_reducible refine DV.w_lrg ?_
    | with_reducible refine DV.w_trg ?_
    | with_reducible refine DV.w_rg (by omega) ?_
    | with_reducible refine DV.w_enum ?_
    | with_reducible refine DV.w_zip ?_
    | with_reducible refine DV.w_zip3 ?_
    | with_reducible refine DV.w_step ?_
    | with_reducible refine DV.w_stepB (by omega) ?_
    | with_reducible refine DV.w_srev ?_
    | with_reducible refine DV.w_srevT ?_
    | with_reducible refine DV.w_isTT ?_
    | with_reducible refine DV.w_ntTT ?_
    | with_reducible refine DV.w_isFT ?_
    | with_reducible refine DV.w_ntFT ?_
    | with_reducible refine DV.w_isTF ?_
    | with_reducible refine DV.w_ntTF ?_
    | with_reducible refine DV.w_isFF ?_
    | with_reducible refine DV.w_ntFF ?_
    | with_reducible refine DV.w_ixS (by omega) ?_
    | with_reducible refine DV.w_ix2 ?_
    | with_reducible refine DV.w_gget2 ?_
    | with_reducible refine DV.w_notInTs ?_
    | with_reducible refine DV.w_inTs ?_
    | with_reducible refine DV.w_inTsN ?_
    | with_reducible refine DV.w_sset ?_
    | with_reducible refine DV.w_ssetU (by omega) (by assumption) ?_
    | with_reducible refine DV.w_met ?_
    | with_reducible refine DV.w_itL ?_
    | with_reducible refine DV.w_two ?_
    | with_reducible refine DV.w_twoX ?_
    | with_reducible refine DV.w_neS ?_
    | with_reducible refine DV.w_eqS ?_
    | with_reducible refine DV.w_rev ?_
    | with_reducible refine DV.w_revN ?_
    | with_reducible refine DV.w_lset ?_
    | with_reducible refine DV.w_isNL ?_
    | with_reducible refine DV.w_isBL ?_
    | with_reducible refine DV.w_ntNL ?_
    | with_reducible refine DV.w_ntBL ?_
    | with_reducible refine DV.w_abs ?_
    | with_reducible refine DV.w_neBl ?_
    | with_reducible refine DV.w_eqBl ?_
    | with_reducible refine DV.w_eqIP ?_
    | with_reducible refine DV.w_neIP ?_
    | with_reducible refine DV.w_ix3 ?_
    | with_reducible refine DVR.w_neW ?_
    | with_reducible refine DVR.w_ixL (by omega) ?_
    | with_reducible refine DV.w_dcomp ?_
    | with_reducible refine DV.w_intB ?_
    | with_reducible refine DV.w_augIx (by with_unfolding_all exact rfl) ?_
    | with_reducible refine DV.w_inN ?_
    | with_reducible refine DV.w_notInN ?_
    | with_reducible refine DV.w_srcE ?_
    | with_reducible refine DV.w_srcV (by with_unfolding_all exact rfl) ?_
    | with_reducible refine DV.w_src (by with_unfolding_all exact rfl) ?_
    | with_reducible refine DV.w_rng1 ?_
    | with_reducible refine DV.w_rng2 ?_
    | with_reducible refine DV.w_rng2I (by omega) ?_
    | with_reducible refine DV.w_rngN (by omega) ?_
    | with_reducible refine DV.w_rngI (by omega) ?_
    | with_reducible refine DV.w_loopN ?_
    | with_reducible refine DV.w_loopC ?_
    | with_reducible refine DV.w_loopB ?_
    | with_reducible refine DV.w_loopR ?_
    | with_reducible refine DV.w_runN ?_
    | with_reducible refine DV.w_runR ?_
    | with_reducible refine DV.w_tg (by with_unfolding_all (simp only [DV.lockE, DV.unlockE, List.getElem?_cons_succ, List.getElem?_cons_zero, DV.wipeE, DV.gTupF, DV.gMore, DV.gNone, DV.gNm, List.set_cons_succ, List.set_cons_zero, List.length]; rfl)) ?_)
/-- pairs drawn along an order -/
structure Dr (n : Nat) (q : List Int) (P : List (Int × Int)) : Prop where
  at_ : ∀ p ∈ P, ∃ a b : Nat, a < b ∧ b < n ∧ q[a]? = some p.1 ∧ q[b]? = some p.2
def tri (n : Nat) : Nat → Nat
  | 0 => 0
  | u + 1 => tri n u + (n - 1 - u)
theorem tri_le : ∀ n, n ≤ 9 → ∀ u, u ≤ n → tri n u ≤ 36 := by decide
theorem pairs_gives {n : Nat} (hn1 : 1 ≤ n) (hn : n ≤ 9) : DV.Gives (m__law_pairs [.row, .d (.int (n : Nat))]) fun r => ∃ P : List (Int × Int), r = .d (prT P) ∧ Prs n P ∧ P.length ≤ 36 := by
  unfold m__law_pairs
  refine DV.w_run (by get_elem_tactic_trivial) ?_
  unfold g__law_pairs
  repeat infer_instance
  refine w_use (order_gives n (by omega)) fun r ⟨q, e, hp⟩ => ?_
  subst e
  have hql : q.length = n := by rw [hp.length_eq, rngI_len]
  repeat infer_instance
  refine w_use (pick_gives _ (by decide) (by decide)) fun r ⟨d, hd, e⟩ => ?_
  subst e
  have hd : ∃ k : Int, d = .int k ∧ 1 ≤ k ∧ k ≤ 6 := by
    rcases List.mem_cons.mp hd with z | z
    · exact ⟨2, z, by omega, by omega⟩
    rcases List.mem_cons.mp z with z | z
    · exact ⟨3, z, by omega, by omega⟩
    rcases List.mem_cons.mp z with z | z
    · exact ⟨6, z, by omega, by omega⟩
    cases z
  obtain ⟨k, rfl, hk1, hk2⟩ := hd
  repeat infer_instance
  refine w_loop0 (fun rest ρ => ∃ (u : Nat) (F : List (Int × Int)) (y5 y6 : Option SV), rest = rngI (u : Int) (n - u) ∧ u ≤ n ∧ Dr n q F ∧ F.length ≤ tri n u ∧ ρ = [some .row, some (.d (.int (n : Nat))), some (.d (ti q)), some (.o (F.map pr)), some (.d (.int k)), y5, y6]) ⟨0, [], _, _, rfl, Nat.zero_le _, ⟨(fun _ h => nomatch h)⟩, Nat.le_refl _, rfl⟩ ?_ ?_
  · rintro i rest ρ ⟨u, F, y5, y6, hr, hu, hD, hFl, rfl⟩
    obtain ⟨e1, hun, e2⟩ := rng_step hr
    subst e1
    have htr := tri_le n hn (u + 1) (by omega)
    have htr2 : tri n (u + 1) = tri n u + (n - 1 - u) := rfl
    repeat infer_instance
    refine w_loop0 (fun rest ρ => ∃ (v m : Nat) (F : List (Int × Int)) (y6 : Option SV), rest = rngI (v : Int) m ∧ u < v ∧ v + m = n ∧ Dr n q F ∧ F.length + m ≤ tri n (u + 1) ∧ ρ = [some .row, some (.d (.int (n : Nat))), some (.d (ti q)), some (.o (F.map pr)), some (.d (.int k)), some (.d (.int (u : Int))), y6]) ⟨u + 1, n - (u + 1), F, _, by congr 1; omega, by omega, by omega, hD, by omega, rfl⟩ ?_ ?_
    · rintro x rest ρ ⟨v, m, F, y6, hr2, hv1, hv2, hD, hFl, rfl⟩
      cases m with
      | zero => cases hr2
      | succ m =>
        obtain ⟨rfl, rfl⟩ := List.cons.inj hr2
        repeat infer_instance
        refine w_use (taken_eq k (by omega) (by omega)) fun r ⟨t, e, t1, t2⟩ => ?_
        subst e
        repeat infer_instance
        refine w_dec (fun h => ?_) (fun h => ?_)
        · have a : q[u]? = some (val q (u : Int)) := by rw [val_get (by omega), List.getElem?_eq_getElem (by omega)]
          have b : q[v]? = some (val q (v : Int)) := by rw [val_get (by omega), List.getElem?_eq_getElem (by omega)]
          repeat infer_instance
          have e : F.map pr ++ [PyData.tuple [.int (val q (u : Int)), .int (val q (v : Int))]] = (F ++ [(val q (u : Int), val q (v : Int))]).map pr := by rw [List.map_append]; rfl
          rw [e]
          repeat infer_instance
          refine ⟨v + 1, m, _, _, rfl, by omega, by omega, ⟨fun p hp => ?_⟩, by rw [List.length_append, List.length_singleton]; omega, rfl⟩
          rcases List.mem_append.mp hp with z | z
          · exact hD.at_ p z
          · cases List.mem_singleton.mp z
            exact ⟨u, v, hv1, by omega, a, b⟩
        · repeat infer_instance
          exact ⟨v + 1, m, F, _, rfl, by omega, by omega, hD, by omega, rfl⟩
    · rintro ρ ⟨v, m, F, y6, hr2, hv1, hv2, hD, hFl, rfl⟩
      cases m with
      | succ m => cases hr2
      | zero =>
        repeat infer_instance
        exact ⟨u + 1, F, _, _, e2, by omega, hD, by omega, rfl⟩
  · rintro ρ ⟨u, F, y5, y6, hr, hu, hD, hFl, rfl⟩
    have hun := rng_end hr hu
    subst hun
    have htr := tri_le u hn u (Nat.le_refl _)
    repeat infer_instance
    have hnd : q.Nodup := hp.nodup_iff.mpr (rngI_nodup 0 u)
    refine ⟨F, rfl, ⟨fun p hp2 => ?_, ⟨fun x => q.idxOf x, fun p hp2 => ?_⟩, by omega⟩, by omega⟩
    · obtain ⟨a, b, h1, h2, h3, h4⟩ := hD.at_ p hp2
      have m1 := (mem_rngI ..).mp (hp.mem_iff.mp (List.mem_of_getElem? h3))
      have m2 := (mem_rngI ..).mp (hp.mem_iff.mp (List.mem_of_getElem? h4))
      omega
    · obtain ⟨a, b, h1, h2, h3, h4⟩ := hD.at_ p hp2
      have i1 : q.idxOf p.1 = a := by
        obtain ⟨l, e⟩ := List.getElem?_eq_some_iff.mp h3
        rw [← e]
        exact List.Nodup.idxOf_getElem hnd a l
      have i2 : q.idxOf p.2 = b := by
        obtain ⟨l, e⟩ := List.getElem?_eq_some_iff.mp h4
        rw [← e]
        exact List.Nodup.idxOf_getElem hnd b l
      show q.idxOf p.1 < q.idxOf p.2
      omega

end Lk46

namespace DVA
open PySem L2 DV DVL
theorem canLay_prs : ∀ ss : List (Int × Int), PyData.canLayAll0 (ss.map pr) = true
  | [] => by simp [PyData.canLayAll0]
  | p :: ss => by
    rw [List.map_cons, PyData.canLayAll0, canLay_prs ss]
    simp [PyData.canLay0, PyData.canLayAll0]
theorem depth_prs : ∀ ss : List (Int × Int), PyData.depthAll (ss.map pr) ≤ 1
  | [] => by simp [PyData.depthAll]
  | p :: ss => by
    rw [List.map_cons, PyData.depthAll]
    have := depth_prs ss
    simp [PyData.depth, PyData.depthAll]
    omega
theorem shaped_prs (ss : List (Int × Int)) : SeqAt.shaped (.list (ss.map pr)) = true := by
  unfold SeqAt.shaped
  rw [PyData.canLay0, canLay_prs, PyData.depth]
  have := depth_prs ss
  simp
  omega
theorem eqv_empty (ss : List (Int × Int)) : PyData.eqv (.list (ss.map pr)) (.list []) = decide (ss = []) := by
  cases ss with
  | nil => simp [PyData.eqv, PyData.eqvAll]
  | cons p ss => simp [PyData.eqv, PyData.eqvAll]
theorem eqn_prs (neg : Bool) (ps : List (Int × Int)) : gEqB neg (.n (ps.map pr)) (.n []) = some (.d (.bool (if neg then !decide (ps = []) else decide (ps = [])))) := by
  show (if SeqAt.shaped (.list (ps.map pr)) = true then if SeqAt.shaped (.list []) = true then some (RV.d (.bool (if neg then !PyData.eqv (.list (ps.map pr)) (.list []) else PyData.eqv (.list (ps.map pr)) (.list [])))) else none else none) = _
  rw [if_pos (shaped_prs _), if_pos (show SeqAt.shaped (.list []) = true from shaped_prs []), eqv_empty]
section
variable {P : RV → Prop}
theorem w_neP0 {ps : List (Int × Int)} (p : P (.d (.bool (!decide (ps = []))))) : K2 gNe P (.n (ps.map pr)) (.n []) := ⟨_, eqn_prs true ps, p⟩
end
end DVA

namespace DVL
open PySem L2 DV
local macro_rules
  | `(tactic| get_elem_tactic_trivial) => `(tactic| first
    | (simp only [List.set_cons_succ, List.set_cons_zero, DV.startE, DV.lawE, DV.toK, DV.lockE, DV.wipeE, List.map_cons, List.map_nil, List.length_cons, List.length_nil, List.replicate_zero, List.replicate_succ, Nat.reduceSub, Nat.reduceAdd, List.append_nil, List.cons_append, List.nil_append]; rfl)
    | exact rfl)
local macro_rules
  | `(tactic| infer_instance) => `(tactic| first
    | with_reducible refine DV.w_cons ?_
    | with_reducible refine DV.w_var (by with_unfolding_all exact rfl) ?_
    | with_reducible refine DV.w_c ?_
    | with_reducible refine DV.w_nil ?_
    | with_reducible refine DV.w_e2 ?_
    | with_reducible refine DV.w_seq ?_
    | with_reducible refine DV.w_seqN ?_
    | with_reducible refine DV.w_seqR ?_
    | with_reducible refine DV.w_seqB ?_
    | with_reducible refine DV.w_seqC ?_
    | with_reducible refine DV.w_call ?_
    | with_reducible refine DV.w_fn ?_
    | with_reducible refine DV.w_f1 ?_
    | with_reducible refine DV.w_f2 ?_
    | with_reducible refine DV.w_f3 ?_
    | with_reducible refine DV.w_f4 ?_
    | with_reducible refine DV.w_f5 ?_
    | with_reducible refine DV.w_f6 ?_
    | with_reducible refine DV.w_set ?_
    | with_reducible refine DV.w_setApp ?_
    | with_reducible refine DV.w_setX (by with_unfolding_all exact rfl) (by with_unfolding_all (simp only [List.set_cons_succ, List.set_cons_zero]; rfl)) ?_
    | with_reducible refine DV.w_rt ?_
    | with_reducible refine DV.w_rtD ?_
    | with_reducible refine DV.w_rtN ?_
    | with_reducible refine DV.w_rtV (by with_unfolding_all exact rfl) ?_
    | with_reducible refine DV.w_if ?_
    | with_reducible refine DV.w_drop ?_
    | with_reducible refine DV.w_nop ?_
    | with_reducible refine DV.w_T ?_
    | with_reducible refine DV.w_B ?_
    | with_reducible refine DV.w_not ?_
    | with_reducible refine DV.w_and ?_
    | with_reducible refine DV.w_or ?_
    | with_reducible refine DV.w_ifT ?_
    | with_reducible refine DV.w_ifF ?_
    | with_reducible refine DV.w_ifNT ?_
    | with_reducible refine DV.w_ifNF ?_
    | with_reducible refine DV.w_stup ?_
    | with_reducible refine DV.w_stupD (by with_unfolding_all (simp only [DV.wipeE, DV.gTupF, DV.gMore, DV.gNone, DV.gNm, List.set_cons_succ, List.set_cons_zero, List.length]; rfl)) ?_
    | with_reducible refine DV.w_aug (by with_unfolding_all exact rfl) ?_
    | with_reducible refine DV.w_I ?_
    | with_reducible refine DV.w_app (by with_unfolding_all exact rfl) (by simp only [List.length_map]; omega) ?_
    | with_reducible refine DV.w_D ?_
    | with_reducible refine DV.w_for ?_
    | with_reducible refine DV.w_lc ?_
    | with_reducible refine DV.w_par ?_
    | with_reducible refine DV.w_par3 ?_
    | with_reducible refine DV.w_par4 ?_
    | with_reducible refine DV.w_parX (by with_unfolding_all exact rfl) (by with_unfolding_all exact rfl) (by with_unfolding_all (simp only [List.set_cons_succ, List.set_cons_zero]; rfl)) ?_
    | with_reducible refine DV.w_par3X (by with_unfolding_all exact rfl) (by with_unfolding_all exact rfl) (by with_unfolding_all exact rfl) (by with_unfolding_all (simp only [List.set_cons_succ, List.set_cons_zero]; rfl)) ?_
    | with_reducible refine DV.w_par4X (by with_unfolding_all exact rfl) (by with_unfolding_all exact rfl) (by with_unfolding_all exact rfl) (by with_unfolding_all exact rfl) (by with_unfolding_all (simp only [List.set_cons_succ, List.set_cons_zero]; rfl)) ?_
    | with_reducible refine DV.w_tup ?_
    | with_reducible refine DV.w_lst ?_
    | with_reducible refine DV.w_tu (by with_unfolding_all exact rfl) (by with_unfolding_all exact Nat.le_of_ble_eq_true rfl) ?_
    | with_reducible refine DV.w_ls (by with_unfolding_all exact rfl) (by with_unfolding_all exact Nat.le_of_ble_eq_true rfl) ?_
    | with_reducible refine DV.w_neg ?_
    | with_reducible refine DV.w_ifB ?_
    | with_reducible refine DV.w_ifE ?_
    | with_reducible refine DV.w_notB ?_
    | with_reducible refine DV.w_tt ?_
    | with_reducible refine DV.w_ch ?_
    | with_reducible refine DV.w_add ?_
    | with_reducible refine DV.w_sub ?_
    | with_reducible refine DV.w_mul (by first | omega | (left; constructor <;> omega) | (right; constructor <;> omega)) ?_
    | with_reducible refine DV.w_mod (by omega) ?_
    | with_reducible refine DV.w_div (by omega) ?_
    | with_reducible refine DV.w_lt ?_
    | with_reducible refine DV.w_le ?_
    | with_reducible refine DV.w_gt ?_
    | with_reducible refine DV.w_ge ?_
    | with_reducible refine DV.w_ltA ?_
    | with_reducible refine DV.w_leA ?_
    | with_reducible refine DV.w_gtA ?_
    | with_reducible refine DV.w_geA ?_
    | with_reducible refine DV.w_eq ?_
    | with_reducible refine DV.w_ne ?_
    | with_reducible refine DV.w_eqB ?_
    | with_reducible refine DV.w_neB ?_
    | with_reducible refine DV.w_eqN ?_
    | with_reducible refine DV.w_neN ?_
    | with_reducible refine DV.w_eqN0 ?_
    | with_reducible refine DV.w_neN0 ?_
    | with_reducible refine DV.w_in ?_
    | with_reducible refine DV.w_inB ?_
    | with_reducible refine DV.w_notIn ?_
    | with_reducible refine DV.w_notInB ?_
    | with_reducible refine DV.w_ix0 ?_
    | with_reducible refine DV.w_ix1 ?_
    | with_reducible refine DV.w_ix (by omega) ?_
    | with_reducible refine DV.w_ixB (by omega) ?_
    | with_reducible refine DV.w_len ?_
    | with_reducible refine DV.w_lenB ?_
    | with_reducible refine DV.w_lenN ?_
    | with_reducible refine DV.w_lenM ?_
    | with_reducible refine DV.w_lenMB ?_
    | with_reducible refine DV.w_lenMN ?_
    | with_reducible refine DV.w_lenD ?_
    | with_reducible refine DV.w_lenDB ?_
    | with_reducible refine DV.w_lenDN ?_
    | with_reducible refine DV.w_tupN ?_
    | with_reducible refine DV.w_tupB ?_
    | with_reducible refine DV.w_tupD ?_
    | with_reducible refine DV.w_lstD ?_
    | with_reducible refine DV.w_lstB ?_
    | with_reducible refine DV.w_lstN ?_
    | with_reducible refine DV.w_sum ?_
    | with_reducible refine DV.w_sumN ?_
    | with_reducible refine DV.w_sumB ?_
    | with_reducible refine DV.w_max2 ?_
    | with_reducible refine DV.w_min2 ?_
    | with_reducible refine DV.w_int ?_
    | with_reducible refine DV.w_sort ?_
    | with_reducible refine DV.w_sortN ?_
    | with_reducible refine DV.w_sortB ?_
    | with_reducible refine DV.w_rep (by omega) ?_
    | with_reducible refine DV.w_repN (by omega) ?_
    | with_reducible refine DV.w_moveG (by with_unfolding_all exact rfl) (by with_unfolding_all (simp only [List.set_cons_succ, List.set_cons_zero]; rfl)) ?_
    | with_reducible refine DV.w_moveO (by with_unfolding_all exact rfl) (by with_unfolding_all (simp only [List.set_cons_succ, List.set_cons_zero]; rfl)) ?_
    | with_reducible refine DV.w_moveD (by with_unfolding_all exact rfl) (by with_unfolding_all (simp only [List.set_cons_succ, List.set_cons_zero]; rfl)) ?_
    | with_reducible refine DV.w_catTI (by (try simp only [List.length_append, List.length_take, List.length_drop, List.length_cons, List.length_nil]); omega) ?_
    | with_reducible refine DV.w_catT1 (by (try simp only [List.length_append, List.length_take, List.length_drop, List.length_cons, List.length_nil]); omega) ?_
    | with_reducible refine DV.w_listG ?_
    | with_reducible refine DV.w_sortK ?_
    | with_reducible refine DV.w_colS ?_
    | with_reducible refine DV.w_itT ?_
    | with_reducible refine DV.w_itB ?_
    | with_reducible refine DV.w_itN ?_
    | with_reducible refine DV.w_colR ?_
    | with_reducible refine DV.w_colRN (by omega) ?_
    | with_reducible refine DV.w_ext (by with_unfolding_all exact rfl) ?_
    | with_reducible refine DV.w_lc2 ?_
    | with_reducible refine DV.w_isT ?_
    | with_reducible refine DV.w_isNN ?_
    | with_reducible refine DV.w_isNI ?_
    | with_reducible refine DV.w_isNT ?_
    | with_reducible refine DV.w_ntNN ?_
    | with_reducible refine DV.w_ntNI ?_
    | with_reducible refine DV.w_ntNT ?_
    | with_reducible refine DV.w_repND (by omega) ?_
    | with_reducible refine DV.w_put (by with_unfolding_all exact rfl) ?_
    | with_reducible refine DV.w_putI (by (try simp only [List.length_set, List.length_replicate, List.length_map]); omega) ?_
    | with_reducible refine DV.w_eqB0 ?_
    | with_reducible refine DV.w_neB0 ?_
    | with_reducible refine DV.w_eqBB ?_
    | with_reducible refine DV.w_neBB ?_
    | with_reducible refine DV.w_eqNB ?_
    | with_reducible refine DV.w_neNB ?_
    | with_reducible refine DV.w_eqBN ?_
    | with_reducible refine DV.w_neBN ?_
    | with_reducible refine DV.w_eqT0 ?_
    | with_reducible refine DV.w_neT0 ?_
    | with_reducible refine DV.w_eqT ?_
    | with_reducible refine DV.w_neT ?_
    | with_reducible refine DV.w_gget ?_
    | with_reducible refine DV.w_dc ?_
    | with_reducible refine DV.w_dcN ?_
    | with_reducible refine DV.w_G ?_
    | with_reducible refine DV.w_gput ?_
    | with_reducible refine DV.w_gnew ?_
    | with_reducible refine DV.w_g1 ?_
    | with_reducible refine DV.w_ret ?_
    | with_reducible refine DV.w_slice ?_
    | with_reducible refine DV.w_part ?_
    | with_reducible refine DV.w_slToI (by omega) ?_
    | with_reducible refine DV.w_slFromI (by omega) ?_
    | with_reducible refine DV.w_slToBI (by omega) ?_
    | with_reducible refine DV.w_slFromBI (by omega) ?_
    | with_reducible refine DV.w_star ?_
    | with_reducible refine DV.w_starT ?_
    | with_reducible refine DV.w_starB ?_
    | with_reducible refine DV.w_starN ?_
    | with_reducible refine DV.w_ixR (by omega) ?_
    | with_reducible refine DV.w_ixRB (by omega) ?_
    | with_reducible refine DV.w_lrg ?_
    | with_reducible refine DV.w_trg ?_
    | with_reducible refine DV.w_rg (by omega) ?_
    | with_reducible refine DV.w_enum ?_
    | with_reducible refine DV.w_zip ?_
    | with_reducible refine DV.w_zip3 ?_
    | with_reducible refine DV.w_step ?_
    | with_reducible refine DV.w_stepB (by omega) ?_
    | with_reducible refine DV.w_srev ?_
    | with_reducible refine DV.w_srevT ?_
    | with_reducible refine DV.w_isTT ?_
    | with_reducible refine DV.w_ntTT ?_
    | with_reducible refine DV.w_isFT ?_
    | with_reducible refine DV.w_ntFT ?_
    | with_reducible refine DV.w_isTF ?_
    | with_reducible refine DV.w_ntTF ?_
    | with_reducible refine DV.w_isFF ?_
    | with_reducible refine DV.w_ntFF ?_
    | with_reducible refine DV.w_ixS (by omega) ?_
    | with_reducible refine DV.w_ix2 ?_
    | with_reducible refine DV.w_gget2 ?_
    | with_reducible refine DV.w_notInTs ?_
    | with_reducible refine DV.w_inTs ?_
    | with_reducible refine DV.w_inTsN ?_
    | with_reducible refine DV.w_sset ?_
    | with_reducible refine DV.w_ssetU (by omega) (by assumption) ?_
    | with_reducible refine DV.w_met ?_
    | with_reducible refine DV.w_itL ?_
    | with_reducible refine DV.w_two ?_
    | with_reducible refine DV.w_twoX ?_
    | with_reducible refine DV.w_neS ?_
    | with_reducible refine DV.w_eqS ?_
    | with_reducible refine DV.w_rev ?_
    | with_reducible refine DV.w_revN ?_
    | with_reducible refine DV.w_lset ?_
    | with_reducible refine DV.w_isNL ?_
    | with_reducible refine DV.w_isBL ?_
    | with_reducible refine DV.w_ntNL ?_
    | with_reducible refine DV.w_ntBL ?_
    | with_reducible refine DV.w_abs ?_
    | with_reducible refine DV.w_neBl ?_
    | with_reducible refine DV.w_eqBl ?_
    | with_reducible refine DV.w_eqIP ?_
    | with_reducible refine DV.w_neIP ?_
    | with_reducible refine DV.w_ix3 ?_
    | with_reducible refine DVR.w_neW ?_
    | with_reducible refine DVR.w_ixL (by omega) ?_
    | with_reducible refine DV.w_dcomp ?_
    | with_reducible refine DV.w_intB ?_
    | with_reducible refine DV.w_augIx (by with_unfolding_all exact rfl) ?_
    | with_reducible refine DV.w_inN ?_
    | with_reducible refine DV.w_notInN ?_
    | with_reducible refine DV.w_srcE ?_
    | with_reducible refine DV.w_srcV (by with_unfolding_all exact rfl) ?_
    | with_reducible refine DV.w_src (by with_unfolding_all exact rfl) ?_
    | with_reducible refine DV.w_rng1 ?_
    | with_reducible refine DV.w_rng2 ?_
    | with_reducible refine DV.w_rng2I (by omega) ?_
    | with_reducible refine DV.w_rngN (by omega) ?_
    | with_reducible refine DV.w_rngI (by omega) ?_
    | with_reducible refine DV.w_loopN ?_
    | with_reducible refine DV.w_loopC ?_
    | with_reducible refine DV.w_loopB ?_
    | with_reducible refine DV.w_loopR ?_
    | with_reducible refine DV.w_runN ?_
    | with_reducible refine DV.w_runR ?_
    | with_reducible refine DV.w_tg (by with_unfolding_all (simp only [DV.lockE, DV.unlockE, List.getElem?_cons_succ, List.getElem?_cons_zero, DV.wipeE, DV.gTupF, DV.gMore, DV.gNone, DV.gNm, List.set_cons_succ, List.set_cons_zero, List.length]; rfl)) ?_)
end DVL

namespace DVL
open PySem L2 DV
local macro_rules
  | `(tactic| get_elem_tactic_trivial) => `(tactic| first
    | (simp only [List.set_cons_succ, List.set_cons_zero, DV.startE, DV.lawE, DV.toK, DV.lockE, DV.wipeE, List.map_cons, List.map_nil, List.length_cons, List.length_nil, List.replicate_zero, List.replicate_succ, Nat.reduceSub, Nat.reduceAdd, List.append_nil, List.cons_append, List.nil_append]; rfl)
    | exact rfl)
local macro_rules
  | `(tactic| infer_instance) => `(tactic| first
    | with_reducible refine DV.w_cons ?_
    | with_reducible refine DV.w_var (by with_unfolding_all exact rfl) ?_
    | with_reducible refine DV.w_c ?_
    | with_reducible refine DV.w_nil ?_
    | with_reducible refine DV.w_e2 ?_
    | with_reducible refine DV.w_seq ?_
    | with_reducible refine DV.w_seqN ?_
    | with_reducible refine DV.w_seqR ?_
    | with_reducible refine DV.w_seqB ?_
    | with_reducible refine DV.w_seqC ?_
    | with_reducible refine DV.w_call ?_
    | with_reducible refine DV.w_fn ?_
    | with_reducible refine DV.w_f1 ?_
    | with_reducible refine DV.w_f2 ?_
    | with_reducible refine DV.w_f3 ?_
    | with_reducible refine DV.w_f4 ?_
    | with_reducible refine DV.w_f5 ?_
    | with_reducible refine DV.w_f6 ?_
    | with_reducible refine DV.w_set ?_
    | with_reducible refine DV.w_setApp ?_
    | with_reducible refine DV.w_setX (by with_unfolding_all exact rfl) (by with_unfolding_all (simp only [List.set_cons_succ, List.set_cons_zero]; rfl)) ?_
    | with_reducible refine DV.w_rt ?_
    | with_reducible refine DV.w_rtD ?_
    | with_reducible refine DV.w_rtN ?_
    | with_reducible refine DV.w_rtV (by with_unfolding_all exact rfl) ?_
    | with_reducible refine DV.w_if ?_
    | with_reducible refine DV.w_drop ?_
    | with_reducible refine DV.w_nop ?_
    | with_reducible refine DV.w_T ?_
    | with_reducible refine DV.w_B ?_
    | with_reducible refine DV.w_not ?_
    | with_reducible refine DV.w_and ?_
    | with_reducible refine DV.w_or ?_
    | with_reducible refine DV.w_ifT ?_
    | with_reducible refine DV.w_ifF ?_
    | with_reducible refine DV.w_ifNT ?_
    | with_reducible refine DV.w_ifNF ?_
    | with_reducible refine DV.w_stup ?_
    | with_reducible refine DV.w_stupD (by with_unfolding_all (simp only [DV.wipeE, DV.gTupF, DV.gMore, DV.gNone, DV.gNm, List.set_cons_succ, List.set_cons_zero, List.length]; rfl)) ?_
    | with_reducible refine DV.w_aug (by with_unfolding_all exact rfl) ?_
    | with_reducible refine DV.w_I ?_
    | with_reducible refine DV.w_app (by with_unfolding_all exact rfl) (by simp only [List.length_map]; omega) ?_
    | with_reducible refine DV.w_D ?_
    | with_reducible refine DV.w_for ?_
    | with_reducible refine DV.w_lc ?_
    | with_reducible refine DV.w_par ?_
    | with_reducible refine DV.w_par3 ?_
    | with_reducible refine DV.w_par4 ?_
    | with_reducible refine DV.w_parX (by with_unfolding_all exact rfl) (by with_unfolding_all exact rfl) (by with_unfolding_all (simp only [List.set_cons_succ, List.set_cons_zero]; rfl)) ?_
    | with_reducible refine DV.w_par3X (by with_unfolding_all exact rfl) (by with_unfolding_all exact rfl) (by with_unfolding_all exact rfl) (by with_unfolding_all (simp only [List.set_cons_succ, List.set_cons_zero]; rfl)) ?_
    | with_reducible refine DV.w_par4X (by with_unfolding_all exact rfl) (by with_unfolding_all exact rfl) (by with_unfolding_all exact rfl) (by with_unfolding_all exact rfl) (by with_unfolding_all (simp only [List.set_cons_succ, List.set_cons_zero]; rfl)) ?_
    | with_reducible refine DV.w_tup ?_
    | with_reducible refine DV.w_lst ?_
    | with_reducible refine DV.w_tu (by with_unfolding_all exact rfl) (by with_unfolding_all exact Nat.le_of_ble_eq_true rfl) ?_
    | with_reducible refine DV.w_ls (by with_unfolding_all exact rfl) (by with_unfolding_all exact Nat.le_of_ble_eq_true rfl) ?_
    | with_reducible refine DV.w_neg ?_
    | with_reducible refine DV.w_ifB ?_
    | with_reducible refine DV.w_ifE ?_
    | with_reducible refine DV.w_notB ?_
    | with_reducible refine DV.w_tt ?_
    | with_reducible refine DV.w_ch ?_
    | with_reducible refine DV.w_add ?_
    | with_reducible refine DV.w_sub ?_
    | with_reducible refine DV.w_mul (by first | omega | (left; constructor <;> omega) | (right; constructor <;> omega)) ?_
    | with_reducible refine DV.w_mod (by omega) ?_
    | with_reducible refine DV.w_div (by omega) ?_
    | with_reducible refine DV.w_lt ?_
    | with_reducible refine DV.w_le ?_
    | with_reducible refine DV.w_gt ?_
    | with_reducible refine DV.w_ge ?_
    | with_reducible refine DV.w_ltA ?_
    | with_reducible refine DV.w_leA ?_
    | with_reducible refine DV.w_gtA ?_
    | with_reducible refine DV.w_geA ?_
    | with_reducible refine DV.w_eq ?_
    | with_reducible refine DV.w_ne ?_
    | with_reducible refine DV.w_eqB ?_
    | with_reducible refine DV.w_neB ?_
    | with_reducible refine DV.w_eqN ?_
    | with_reducible refine DV.w_neN ?_
    | with_reducible refine DV.w_eqN0 ?_
    | with_reducible refine DV.w_neN0 ?_
    | with_reducible refine DV.w_in ?_
    | with_reducible refine DV.w_inB ?_
    | with_reducible refine DV.w_notIn ?_
    | with_reducible refine DV.w_notInB ?_
    | with_reducible refine DV.w_ix0 ?_
    | with_reducible refine DV.w_ix1 ?_
    | with_reducible refine DV.w_ix (by omega) ?_
    | with_reducible refine DV.w_ixB (by omega) ?_
    | with_reducible refine DV.w_len ?_
    | with_reducible refine DV.w_lenB ?_
    | with_reducible refine DV.w_lenN ?_
    | with_reducible refine DV.w_lenM ?_
    | with_reducible refine DV.w_lenMB ?_
    | with_reducible refine DV.w_lenMN ?_
    | with_reducible refine DV.w_lenD ?_
    | with_reducible refine DV.w_lenDB ?_
    | with_reducible refine DV.w_lenDN ?_
    | with_reducible refine DV.w_tupN ?_
    | with_reducible refine DV.w_tupB ?_
    | with_reducible refine DV.w_tupD ?_
    | with_reducible refine DV.w_lstD ?_
    | with_reducible refine DV.w_lstB ?_
    | with_reducible refine DV.w_lstN ?_
    | with_reducible refine DV.w_sum ?_
    | with_reducible refine DV.w_sumN ?_
    | with_reducible refine DV.w_sumB ?_
    | with_reducible refine DV.w_max2 ?_
    | with_reducible refine DV.w_min2 ?_
    | with_reducible refine DV.w_int ?_
    | with_reducible refine DV.w_sort ?_
    | with_reducible refine DV.w_sortN ?_
    | with_reducible refine DV.w_sortB ?_
    | with_reducible refine DV.w_rep (by omega) ?_
    | with_reducible refine DV.w_repN (by omega) ?_
    | with_reducible refine DV.w_moveG (by with_unfolding_all exact rfl) (by with_unfolding_all (simp only [List.set_cons_succ, List.set_cons_zero]; rfl)) ?_
    | with_reducible refine DV.w_moveO (by with_unfolding_all exact rfl) (by with_unfolding_all (simp only [List.set_cons_succ, List.set_cons_zero]; rfl)) ?_
    | with_reducible refine DV.w_moveD (by with_unfolding_all exact rfl) (by with_unfolding_all (simp only [List.set_cons_succ, List.set_cons_zero]; rfl)) ?_
    | with_reducible refine DV.w_catTI (by (try simp only [List.length_append, List.length_take, List.length_drop, List.length_cons, List.length_nil]); omega) ?_
    | with_reducible refine DV.w_catT1 (by (try simp only [List.length_append, List.length_take, List.length_drop, List.length_cons, List.length_nil]); omega) ?_
    | with_reducible refine DV.w_listG ?_
    | with_reducible refine DV.w_sortK ?_
    | with_reducible refine DV.w_colS ?_
    | with_reducible refine DV.w_itT ?_
    | with_reducible refine DV.w_itB ?_
    | with_reducible refine DV.w_itN ?_
    | with_reducible refine DV.w_colR ?_
    | with_reducible refine DV.w_colRN (by omega) ?_
    | with_reducible refine DV.w_ext (by with_unfolding_all exact rfl) ?_
    | with_reducible refine DV.w_lc2 ?_
    | with_reducible refine DV.w_isT ?_
    | with_reducible refine DV.w_isNN ?_
    | with_reducible refine DV.w_isNI ?_
    | with_reducible refine DV.w_isNT ?_
    | with_reducible refine DV.w_ntNN ?_
    | with_reducible refine DV.w_ntNI ?_
    | with_reducible refine DV.w_ntNT ?_
    | with_reducible refine DV.w_repND (by omega) ?_
    | with_reducible refine DV.w_put (by with_unfolding_all exact rfl) ?_
    | with_reducible refine DV.w_putI (by (try simp only [List.length_set, List.length_replicate, List.length_map]); omega) ?_
    | with_reducible refine DV.w_eqB0 ?_
    | with_reducible refine DV.w_neB0 ?_
    | with_reducible refine DV.w_eqBB ?_
    | with_reducible refine DV.w_neBB ?_
    | with_reducible refine DV.w_eqNB ?_
    | with_reducible refine DV.w_neNB ?_
    | with_reducible refine DV.w_eqBN ?_
    | with_reducible refine DV.w_neBN ?_
    | with_reducible refine DV.w_eqT0 ?_
    | with_reducible refine DV.w_neT0 ?_
    | with_reducible refine DV.w_eqT ?_
    | with_reducible refine DV.w_neT ?_
    | with_reducible refine DV.w_gget ?_
    | with_reducible refine DV.w_dc ?_
    | with_reducible refine DV.w_dcN ?_
    | with_reducible refine DV.w_G ?_
    | with_reducible refine DV.w_gput ?_
    | with_reducible refine DV.w_gnew ?_
    | with_reducible refine DV.w_g1 ?_
    | with_reducible refine DV.w_ret ?_
    | with_reducible refine DV.w_slice ?_
    | with_reducible refine DV.w_part ?_
    | with_reducible refine DV.w_slToI (by omega) ?_
    | with_reducible refine DV.w_slFromI (by omega) ?_
    | with_reducible refine DV.w_slToBI (by omega) ?_
    | with_reducible refine DV.w_slFromBI (by omega) ?_
    | with_reducible refine DV.w_star ?_
    | with_reducible refine DV.w_starT ?_
    | with_reducible refine DV.w_starB ?_
    | with_reducible refine DV.w_starN ?_
    | with_reducible refine DV.w_ixR (by omega) ?_
    | with_reducible refine DV.w_ixRB (by omega) ?_
    | with_reducible refine DV.w_lrg ?_
    | with_reducible refine DV.w_trg ?_
    | with_reducible refine DV.w_rg (by omega) ?_
    | with_reducible refine DV.w_enum ?_
    | with_reducible refine DV.w_zip ?_
    | with_reducible refine DV.w_zip3 ?_
    | with_reducible refine DV.w_step ?_
    | with_reducible refine DV.w_stepB (by omega) ?_
    | with_reducible refine DV.w_srev ?_
    | with_reducible refine DV.w_srevT ?_
    | with_reducible refine DV.w_isTT ?_
    | with_reducible refine DV.w_ntTT ?_
    | with_reducible refine DV.w_isFT ?_
    | with_reducible refine DV.w_ntFT ?_
    | with_reducible refine DV.w_isTF ?_
    | with_reducible refine DV.w_ntTF ?_
    | with_reducible refine DV.w_isFF ?_
    | with_reducible refine DV.w_ntFF ?_
    | with_reducible refine DV.w_ixS (by omega) ?_
    | with_reducible refine DV.w_ix2 ?_
    | with_reducible refine DV.w_gget2 ?_
    | with_reducible refine DV.w_notInTs ?_
    | with_reducible refine DV.w_inTs ?_
    | with_reducible refine DV.w_inTsN ?_
    | with_reducible refine DV.w_sset ?_
    | with_reducible refine DV.w_ssetU (by omega) (by assumption) ?_
    | with_reducible refine DV.w_met ?_
    | with_reducible refine DV.w_itL ?_
    | with_reducible refine DV.w_two ?_
    | with_reducible refine DV.w_twoX ?_
    | with_reducible refine DV.w_neS ?_
    | with_reducible refine DV.w_eqS ?_
    | with_reducible refine DV.w_rev ?_
    | with_reducible refine DV.w_revN ?_
    | with_reducible refine DV.w_lset ?_
    | with_reducible refine DV.w_isNL ?_
    | with_reducible refine DV.w_isBL ?_
    | with_reducible refine DV.w_ntNL ?_
    | with_reducible refine DV.w_ntBL ?_
    | with_reducible refine DV.w_abs ?_
    | with_reducible refine DV.w_neBl ?_
    | with_reducible refine DV.w_eqBl ?_
    | with_reducible refine DV.w_eqIP ?_
    | with_reducible refine DV.w_neIP ?_
    | with_reducible refine DV.w_ix3 ?_
    | with_reducible refine DVR.w_neW ?_
    | with_reducible refine DVR.w_ixL (by omega) ?_
    | with_reducible refine DV.w_dcomp ?_
    | with_reducible refine DV.w_intB ?_
    | with_reducible refine DV.w_augIx (by with_unfolding_all exact rfl) ?_
    | with_reducible refine DV.w_inN ?_
    | with_reducible refine DV.w_notInN ?_
    | with_reducible refine DV.w_srcE ?_
    | with_reducible refine DV.w_srcV (by with_unfolding_all exact rfl) ?_
    | with_reducible refine DV.w_src (by with_unfolding_all exact rfl) ?_
    | with_reducible refine DV.w_rng1 ?_
    | with_reducible refine DV.w_rng2 ?_
    | with_reducible refine DV.w_rng2I (by omega) ?_
    | with_reducible refine DV.w_rngN (by omega) ?_
    | with_reducible refine DV.w_rngI (by omega) ?_
    | with_reducible refine DV.w_loopN ?_
    | with_reducible refine DV.w_loopC ?_
    | with_reducible refine DV.w_loopB ?_
    | with_reducible refine DV.w_loopR ?_
    | with_reducible refine DV.w_runN ?_
    | with_reducible refine DV.w_runR ?_
    | with_reducible refine DV.w_tg (by with_unfolding_all (simp only [DV.lockE, DV.unlockE, List.getElem?_cons_succ, List.getElem?_cons_zero, DV.wipeE, DV.gTupF, DV.gMore, DV.gNone, DV.gNm, List.set_cons_succ, List.set_cons_zero, List.length]; rfl)) ?_)
section
variable {ss : List (Int × Int)} {ws : List Int}
/-- a row, as the greatest is looked for -/
def rk (p : Int × R3) : Int × Int × List Int := (p.2.2.1, -p.1, p.2.2.2)
end
end DVL

namespace DVL
open PySem L2 DV
local macro_rules
  | `(tactic| get_elem_tactic_trivial) => `(tactic| first
    | (simp only [List.set_cons_succ, List.set_cons_zero, DV.startE, DV.lawE, DV.toK, DV.lockE, DV.wipeE, List.map_cons, List.map_nil, List.length_cons, List.length_nil, List.replicate_zero, List.replicate_succ, Nat.reduceSub, Nat.reduceAdd, List.append_nil, List.cons_append, List.nil_append]; rfl)
    | exact rfl)
local macro_rules
  | `(tactic| infer_instance) => `(tactic| first
    | with_reducible refine DV.w_cons ?_
    | with_reducible refine DV.w_var (by with_unfolding_all exact rfl) ?_
    | with_reducible refine DV.w_c ?_
    | with_reducible refine DV.w_nil ?_
    | with_reducible refine DV.w_e2 ?_
    | with_reducible refine DV.w_seq ?_
    | with_reducible refine DV.w_seqN ?_
    | with_reducible refine DV.w_seqR ?_
    | with_reducible refine DV.w_seqB ?_
    | with_reducible refine DV.w_seqC ?_
    | with_reducible refine DV.w_call ?_
    | with_reducible refine DV.w_fn ?_
    | with_reducible refine DV.w_f1 ?_
    | with_reducible refine DV.w_f2 ?_
    | with_reducible refine DV.w_f3 ?_
    | with_reducible refine DV.w_f4 ?_
    | with_reducible refine DV.w_f5 ?_
    | with_reducible refine DV.w_f6 ?_
    | with_reducible refine DV.w_set ?_
    | with_reducible refine DV.w_setApp ?_
    | with_reducible refine DV.w_setX (by with_unfolding_all exact rfl) (by with_unfolding_all (simp only [List.set_cons_succ, List.set_cons_zero]; rfl)) ?_
    | with_reducible refine DV.w_rt ?_
    | with_reducible refine DV.w_rtD ?_
    | with_reducible refine DV.w_rtN ?_
    | with_reducible refine DV.w_rtV (by with_unfolding_all exact rfl) ?_
    | with_reducible refine DV.w_if ?_
    | with_reducible refine DV.w_drop ?_
    | with_reducible refine DV.w_nop ?_
    | with_reducible refine DV.w_T ?_
    | with_reducible refine DV.w_B ?_
    | with_reducible refine DV.w_not ?_
    | with_reducible refine DV.w_and ?_
    | with_reducible refine DV.w_or ?_
    | with_reducible refine DV.w_ifT ?_
    | with_reducible refine DV.w_ifF ?_
    | with_reducible refine DV.w_ifNT ?_
    | with_reducible refine DV.w_ifNF ?_
    | with_reducible refine DV.w_stup ?_
    | with_reducible refine DV.w_stupD (by with_unfolding_all (simp only [DV.wipeE, DV.gTupF, DV.gMore, DV.gNone, DV.gNm, List.set_cons_succ, List.set_cons_zero, List.length]; rfl)) ?_
    | with_reducible refine DV.w_aug (by with_unfolding_all exact rfl) ?_
    | with_reducible refine DV.w_I ?_
    | with_reducible refine DV.w_app (by with_unfolding_all exact rfl) (by simp only [List.length_map]; omega) ?_
    | with_reducible refine DV.w_D ?_
    | with_reducible refine DV.w_for ?_
    | with_reducible refine DV.w_lc ?_
    | with_reducible refine DV.w_par ?_
    | with_reducible refine DV.w_par3 ?_
    | with_reducible refine DV.w_par4 ?_
    | with_reducible refine DV.w_parX (by with_unfolding_all exact rfl) (by with_unfolding_all exact rfl) (by with_unfolding_all (simp only [List.set_cons_succ, List.set_cons_zero]; rfl)) ?_
    | with_reducible refine DV.w_par3X (by with_unfolding_all exact rfl) (by with_unfolding_all exact rfl) (by with_unfolding_all exact rfl) (by with_unfolding_all (simp only [List.set_cons_succ, List.set_cons_zero]; rfl)) ?_
    | with_reducible refine DV.w_par4X (by with_unfolding_all exact rfl) (by with_unfolding_all exact rfl) (by with_unfolding_all exact rfl) (by with_unfolding_all exact rfl) (by with_unfolding_all (simp only [List.set_cons_succ, List.set_cons_zero]; rfl)) ?_
    | with_reducible refine DV.w_tup ?_
    | with_reducible refine DV.w_lst ?_
    | with_reducible refine DV.w_tu (by with_unfolding_all exact rfl) (by with_unfolding_all exact Nat.le_of_ble_eq_true rfl) ?_
    | with_reducible refine DV.w_ls (by with_unfolding_all exact rfl) (by with_unfolding_all exact Nat.le_of_ble_eq_true rfl) ?_
    | with_reducible refine DV.w_neg ?_
    | with_reducible refine DV.w_ifB ?_
    | with_reducible refine DV.w_ifE ?_
    | with_reducible refine DV.w_notB ?_
    | with_reducible refine DV.w_tt ?_
    | with_reducible refine DV.w_ch ?_
    | with_reducible refine DV.w_add ?_
    | with_reducible refine DV.w_sub ?_
    | with_reducible refine DV.w_mul (by first | omega | (left; constructor <;> omega) | (right; constructor <;> omega)) ?_
    | with_reducible refine DV.w_mod (by omega) ?_
    | with_reducible refine DV.w_div (by omega) ?_
    | with_reducible refine DV.w_lt ?_
    | with_reducible refine DV.w_le ?_
    | with_reducible refine DV.w_gt ?_
    | with_reducible refine DV.w_ge ?_
    | with_reducible refine DV.w_ltA ?_
    | with_reducible refine DV.w_leA ?_
    | with_reducible refine DV.w_gtA ?_
    | with_reducible refine DV.w_geA ?_
    | with_reducible refine DV.w_eq ?_
    | with_reducible refine DV.w_ne ?_
    | with_reducible refine DV.w_eqB ?_
    | with_reducible refine DV.w_neB ?_
    | with_reducible refine DV.w_eqN ?_
    | with_reducible refine DV.w_neN ?_
    | with_reducible refine DV.w_eqN0 ?_
    | with_reducible refine DV.w_neN0 ?_
    | with_reducible refine DV.w_in ?_
    | with_reducible refine DV.w_inB ?_
    | with_reducible refine DV.w_notIn ?_
    | with_reducible refine DV.w_notInB ?_
    | with_reducible refine DV.w_ix0 ?_
    | with_reducible refine DV.w_ix1 ?_
    | with_reducible refine DV.w_ix (by omega) ?_
    | with_reducible refine DV.w_ixB (by omega) ?_
    | with_reducible refine DV.w_len ?_
    | with_reducible refine DV.w_lenB ?_
    | with_reducible refine DV.w_lenN ?_
    | with_reducible refine DV.w_lenM ?_
    | with_reducible refine DV.w_lenMB ?_
    | with_reducible refine DV.w_lenMN ?_
    | with_reducible refine DV.w_lenD ?_
    | with_reducible refine DV.w_lenDB ?_
    | with_reducible refine DV.w_lenDN ?_
    | with_reducible refine DV.w_tupN ?_
    | with_reducible refine DV.w_tupB ?_
    | with_reducible refine DV.w_tupD ?_
    | with_reducible refine DV.w_lstD ?_
    | with_reducible refine DV.w_lstB ?_
    | with_reducible refine DV.w_lstN ?_
    | with_reducible refine DV.w_sum ?_
    | with_reducible refine DV.w_sumN ?_
    | with_reducible refine DV.w_sumB ?_
    | with_reducible refine DV.w_max2 ?_
    | with_reducible refine DV.w_min2 ?_
    | with_reducible refine DV.w_int ?_
    | with_reducible refine DV.w_sort ?_
    | with_reducible refine DV.w_sortN ?_
    | with_reducible refine DV.w_sortB ?_
    | with_reducible refine DV.w_rep (by omega) ?_
    | with_reducible refine DV.w_repN (by omega) ?_
    | with_reducible refine DV.w_moveG (by with_unfolding_all exact rfl) (by with_unfolding_all (simp only [List.set_cons_succ, List.set_cons_zero]; rfl)) ?_
    | with_reducible refine DV.w_moveO (by with_unfolding_all exact rfl) (by with_unfolding_all (simp only [List.set_cons_succ, List.set_cons_zero]; rfl)) ?_
    | with_reducible refine DV.w_moveD (by with_unfolding_all exact rfl) (by with_unfolding_all (simp only [List.set_cons_succ, List.set_cons_zero]; rfl)) ?_
    | with_reducible refine DV.w_catTI (by (try simp only [List.length_append, List.length_take, List.length_drop, List.length_cons, List.length_nil]); omega) ?_
    | with_reducible refine DV.w_catT1 (by (try simp only [List.length_append, List.length_take, List.length_drop, List.length_cons, List.length_nil]); omega) ?_
    | with_reducible refine DV.w_listG ?_
    | with_reducible refine DV.w_sortK ?_
    | with_reducible refine DV.w_colS ?_
    | with_reducible refine DV.w_itT ?_
    | with_reducible refine DV.w_itB ?_
    | with_reducible refine DV.w_itN ?_
    | with_reducible refine DV.w_colR ?_
    | with_reducible refine DV.w_colRN (by omega) ?_
    | with_reducible refine DV.w_ext (by with_unfolding_all exact rfl) ?_
    | with_reducible refine DV.w_lc2 ?_
    | with_reducible refine DV.w_isT ?_
    | with_reducible refine DV.w_isNN ?_
    | with_reducible refine DV.w_isNI ?_
    | with_reducible refine DV.w_isNT ?_
    | with_reducible refine DV.w_ntNN ?_
    | with_reducible refine DV.w_ntNI ?_
    | with_reducible refine DV.w_ntNT ?_
    | with_reducible refine DV.w_repND (by omega) ?_
    | with_reducible refine DV.w_put (by with_unfolding_all exact rfl) ?_
    | with_reducible refine DV.w_putI (by (try simp only [List.length_set, List.length_replicate, List.length_map]); omega) ?_
    | with_reducible refine DV.w_eqB0 ?_
    | with_reducible refine DV.w_neB0 ?_
    | with_reducible refine DV.w_eqBB ?_
    | with_reducible refine DV.w_neBB ?_
    | with_reducible refine DV.w_eqNB ?_
    | with_reducible refine DV.w_neNB ?_
    | with_reducible refine DV.w_eqBN ?_
    | with_reducible refine DV.w_neBN ?_
    | with_reducible refine DV.w_eqT0 ?_
    | with_reducible refine DV.w_neT0 ?_
    | with_reducible refine DV.w_eqT ?_
    | with_reducible refine DV.w_neT ?_
    | with_reducible refine DV.w_gget ?_
    | with_reducible refine DV.w_dc ?_
    | with_reducible refine DV.w_dcN ?_
    | with_reducible refine DV.w_G ?_
    | with_reducible refine DV.w_gput ?_
    | with_reducible refine DV.w_gnew ?_
    | with_reducible refine DV.w_g1 ?_
    | with_reducible refine DV.w_ret ?_
    | with_reducible refine DV.w_slice ?_
    | with_reducible refine DV.w_part ?_
    | with_reducible refine DV.w_slToI (by omega) ?_
    | with_reducible refine DV.w_slFromI (by omega) ?_
    | with_reducible refine DV.w_slToBI (by omega) ?_
    | with_reducible refine DV.w_slFromBI (by omega) ?_
    | with_reducible refine DV.w_star ?_
    | with_reducible refine DV.w_starT ?_
    | with_reducible refine DV.w_starB ?_
    | with_reducible refine DV.w_starN ?_
    | with_reducible refine DV.w_ixR (by omega) ?_
    | with_reducible refine DV.w_ixRB (by omega) ?_
    | with_reducible refine DV.w_lrg ?_
    | with_reducible refine DV.w_trg ?_
    | with_reducible refine DV.w_rg (by omega) ?_
    | with_reducible refine DV.w_enum ?_
    | with_reducible refine DV.w_zip ?_
    | with_reducible refine DV.w_zip3 ?_
    | with_reducible refine DV.w_step ?_
    | with_reducible refine DV.w_stepB (by omega) ?_
    | with_reducible refine DV.w_srev ?_
    | with_reducible refine DV.w_srevT ?_
    | with_reducible refine DV.w_isTT ?_
    | with_reducible refine DV.w_ntTT ?_
    | with_reducible refine DV.w_isFT ?_
    | with_reducible refine DV.w_ntFT ?_
    | with_reducible refine DV.w_isTF ?_
    | with_reducible refine DV.w_ntTF ?_
    | with_reducible refine DV.w_isFF ?_
    | with_reducible refine DV.w_ntFF ?_
    | with_reducible refine DV.w_ixS (by omega) ?_
    | with_reducible refine DV.w_ix2 ?_
    | with_reducible refine DV.w_gget2 ?_
    | with_reducible refine DV.w_notInTs ?_
    | with_reducible refine DV.w_inTs ?_
    | with_reducible refine DV.w_inTsN ?_
    | with_reducible refine DV.w_sset ?_
    | with_reducible refine DV.w_ssetU (by omega) (by assumption) ?_
    | with_reducible refine DV.w_met ?_
    | with_reducible refine DV.w_itL ?_
    | with_reducible refine DV.w_two ?_
    | with_reducible refine DV.w_twoX ?_
    | with_reducible refine DV.w_neS ?_
    | with_reducible refine DV.w_eqS ?_
    | with_reducible refine DV.w_rev ?_
    | with_reducible refine DV.w_revN ?_
    | with_reducible refine DV.w_lset ?_
    | with_reducible refine DV.w_isNL ?_
    | with_reducible refine DV.w_isBL ?_
    | with_reducible refine DV.w_ntNL ?_
    | with_reducible refine DV.w_ntBL ?_
    | with_reducible refine DV.w_abs ?_
    | with_reducible refine DV.w_neBl ?_
    | with_reducible refine DV.w_eqBl ?_
    | with_reducible refine DV.w_eqIP ?_
    | with_reducible refine DV.w_neIP ?_
    | with_reducible refine DV.w_ix3 ?_
    | with_reducible refine DVR.w_neW ?_
    | with_reducible refine DVR.w_ixL (by omega) ?_
    | with_reducible refine DV.w_dcomp ?_
    | with_reducible refine DV.w_intB ?_
    | with_reducible refine DV.w_augIx (by with_unfolding_all exact rfl) ?_
    | with_reducible refine DV.w_inN ?_
    | with_reducible refine DV.w_notInN ?_
    | with_reducible refine DV.w_srcE ?_
    | with_reducible refine DV.w_srcV (by with_unfolding_all exact rfl) ?_
    | with_reducible refine DV.w_src (by with_unfolding_all exact rfl) ?_
    | with_reducible refine DV.w_rng1 ?_
    | with_reducible refine DV.w_rng2 ?_
    | with_reducible refine DV.w_rng2I (by omega) ?_
    | with_reducible refine DV.w_rngN (by omega) ?_
    | with_reducible refine DV.w_rngI (by omega) ?_
    | with_reducible refine DV.w_loopN ?_
    | with_reducible refine DV.w_loopC ?_
    | with_reducible refine DV.w_loopB ?_
    | with_reducible refine DV.w_loopR ?_
    | with_reducible refine DV.w_runN ?_
    | with_reducible refine DV.w_runR ?_
    | with_reducible refine DV.w_tg (by with_unfolding_all (simp only [DV.lockE, DV.unlockE, List.getElem?_cons_succ, List.getElem?_cons_zero, DV.wipeE, DV.gTupF, DV.gMore, DV.gNone, DV.gNm, List.set_cons_succ, List.set_cons_zero, List.length]; rfl)) ?_)
end DVL

namespace DV
open PySem L2
theorem canLay_tis : ∀ L : List (List Int), PyData.canLayAll0 (L.map ti) = true
  | [] => by simp [PyData.canLayAll0]
  | a :: L => by
    rw [List.map_cons, PyData.canLayAll0, canLay_tis L]
    have := DVL.canLay_ints a
    simp [PyData.canLay0, this]
theorem depth_tis : ∀ L : List (List Int), PyData.depthAll (L.map ti) ≤ 1
  | [] => by simp [PyData.depthAll]
  | a :: L => by
    rw [List.map_cons, PyData.depthAll]
    have h1 := depth_tis L
    have h2 : (ti a).depth = 1 := by
      show PyData.depth (.tuple _) = 1
      rw [PyData.depth, DVL.depth_ints]
    omega
theorem shaped_tis (L : List (List Int)) : SeqAt.shaped (.list (L.map ti)) = true := by
  unfold SeqAt.shaped
  have h := depth_tis L
  rw [PyData.canLay0, canLay_tis, PyData.depth]
  simp
  omega
theorem any_tis (K : List Int) : ∀ L : List (List Int), ((L.map ti).any fun z => PyData.eqv z (ti K)) = decide (K ∈ L)
  | [] => by simp
  | a :: L => by
    rw [List.map_cons, List.any_cons, any_tis K L]
    have e : PyData.eqv (ti a) (ti K) = decide (a = K) := by
      show PyData.eqv (.tuple _) (.tuple _) = _
      rw [PyData.eqv]
      exact DVL.eqv_intsA a K
    rw [e]
    by_cases h : a = K
    · subst h; simp
    · have h2 : ¬ K = a := fun e => h e.symm
      simp [h, h2]
section
variable {P : RV → Prop} {f : Env → DV.M RV} {ρ : Env} {K : List Int} {L : List (List Int)}
theorem notIn_tis : gNotIn (.d (ti K)) (.n (L.map ti)) = some (.d (.bool (!decide (K ∈ L)))) := by
  show (if SeqAt.shaped (ti K) = true then if SeqAt.shaped (.list (L.map ti)) = true then some (RV.d (.bool (!((L.map ti).any fun z => PyData.eqv z (ti K))))) else none else none) = _
  rw [if_pos (DVL.shaped_intsT K), if_pos (shaped_tis L), any_tis]
theorem in_tis : gIn (.d (ti K)) (.n (L.map ti)) = some (.d (.bool (decide (K ∈ L)))) := by
  show (if SeqAt.shaped (ti K) = true then if SeqAt.shaped (.list (L.map ti)) = true then some (RV.d (.bool (((L.map ti).any fun z => PyData.eqv z (ti K))))) else none else none) = _
  rw [if_pos (DVL.shaped_intsT K), if_pos (shaped_tis L), any_tis]
theorem w_notInTs (p : P (.d (.bool (!decide (K ∈ L))))) : K2 gNotIn P (.d (ti K)) (.n (L.map ti)) := ⟨_, notIn_tis, p⟩
theorem w_inTs (p : P (.d (.bool (decide (K ∈ L))))) : K2 gIn P (.d (ti K)) (.b (L.map ti)) := ⟨_, in_tis, p⟩
theorem w_inTsN (p : P (.d (.bool (decide (K ∈ L))))) : K2 gIn P (.d (ti K)) (.n (L.map ti)) := ⟨_, in_tis, p⟩
theorem w_sset (p : Gives (f ρ) fun x => ∃ js, sortSetOf x = some js ∧ P (.n (js.map PyData.int))) : Gives (eSortSet f ρ) P := DVL.gv_sortSet p
theorem w_ssetU (h : K.length < 64) (u : K.Pairwise (· < ·)) (p : P (.n (K.map PyData.int))) : ∃ js, sortSetOf (.d (ti K)) = some js ∧ P (.n (js.map PyData.int)) := ⟨_, DVL.sortSet_ti h, by rw [DVL.sort_up u]; exact p⟩
end
end DV

namespace DV
open PySem L2
section
variable {P : RV → Prop} {f : Env → DV.M RV} {ρ : Env}
theorem w_rev (p : Gives (f ρ) fun x => ∃ y, gRev x = some y ∧ P y) : Gives (eRev f ρ) P := by
  unfold eRev
  refine Gives.bnd p fun x ⟨y, e, q⟩ => ?_
  rw [e]
  exact Gives.ret q
theorem w_revN {ds : List D} (p : P (.n ds.reverse)) : ∃ y, gRev (.n ds) = some y ∧ P y := ⟨_, rfl, p⟩
theorem w_lset (p : Gives (f ρ) fun x => ∃ d, lenSetOf x = some d ∧ P (.d d)) : Gives (eLenSet f ρ) P := by
  unfold eLenSet
  refine Gives.bnd p fun x ⟨d, e, q⟩ => ?_
  rw [e, lft_s, bnd_ret]
  exact Gives.ret q
theorem eqvA_prs : ∀ xs ys : List (Int × Int), PyData.eqvAll (xs.map DVL.pr) (ys.map DVL.pr) = decide (xs = ys)
  | [], [] => by simp [PyData.eqvAll]
  | [], y :: ys => by simp [PyData.eqvAll]
  | x :: xs, [] => by simp [PyData.eqvAll]
  | x :: xs, y :: ys => by
    rw [List.map_cons, List.map_cons, PyData.eqvAll, eqvA_prs xs ys]
    have e : PyData.eqv (DVL.pr x) (DVL.pr y) = decide (x = y) := by
      show PyData.eqv (.tuple [.int x.1, .int x.2]) (.tuple [.int y.1, .int y.2]) = _
      rw [PyData.eqv, PyData.eqvAll, PyData.eqvAll, PyData.eqvAll, DVL.eqv_int, DVL.eqv_int, Bool.and_true]
      by_cases h : x = y
      · subst h; simp
      · rw [decide_eq_false h]
        by_cases h1 : x.1 = y.1
        · by_cases h2 : x.2 = y.2
          · exact absurd (Prod.ext h1 h2) h
          · simp [h2]
        · simp [h1]
    rw [e]
    by_cases h : x = y <;> by_cases h2 : xs = ys <;> simp [h, h2]
theorem shaped_sts (ss : List (Int × Int)) : SeqAt.shaped (DVL.sts ss) = true := by
  unfold SeqAt.shaped
  show (PyData.canLay0 (.tuple _) && _) = true
  rw [PyData.canLay0, DVL.canLay_prs, PyData.depth]
  have := DVL.depth_prs ss
  simp
  omega
theorem eq_stss (neg : Bool) (a b : List (Int × Int)) : gEqB neg (.d (DVL.sts a)) (.d (DVL.sts b)) = some (.d (.bool (if neg then !decide (a = b) else decide (a = b)))) := by
  show (if SeqAt.shaped (DVL.sts a) = true then if SeqAt.shaped (DVL.sts b) = true then some (RV.d (.bool (if neg then !PyData.eqv (DVL.sts a) (DVL.sts b) else PyData.eqv (DVL.sts a) (DVL.sts b)))) else none else none) = _
  rw [if_pos (shaped_sts a), if_pos (shaped_sts b)]
  have e : PyData.eqv (DVL.sts a) (DVL.sts b) = decide (a = b) := by
    show PyData.eqv (.tuple _) (.tuple _) = _
    rw [PyData.eqv]
    exact eqvA_prs a b
  rw [e]
theorem w_neS {a b : List (Int × Int)} (p : P (.d (.bool (!decide (a = b))))) : K2 gNe P (.d (DVL.sts a)) (.d (DVL.sts b)) := ⟨_, eq_stss true a b, p⟩
theorem w_eqS {a b : List (Int × Int)} (p : P (.d (.bool (decide (a = b))))) : K2 gEq P (.d (DVL.sts a)) (.d (DVL.sts b)) := ⟨_, eq_stss false a b, p⟩
end
end DV

namespace DV
open PySem L2
theorem shaped_lprs (ss : List (Int × Int)) : SeqAt.shaped (.list (ss.map DVL.pr)) = true := by
  unfold SeqAt.shaped
  rw [PyData.canLay0, DVL.canLay_prs, PyData.depth]
  have := DVL.depth_prs ss
  simp
  omega
theorem eq_lprs (neg : Bool) (a b : List (Int × Int)) : gEqB neg (.n (a.map DVL.pr)) (.n (b.map DVL.pr)) = some (.d (.bool (if neg then !decide (a = b) else decide (a = b)))) := by
  show (if SeqAt.shaped (.list (a.map DVL.pr)) = true then if SeqAt.shaped (.list (b.map DVL.pr)) = true then some (RV.d (.bool (if neg then !PyData.eqv (.list (a.map DVL.pr)) (.list (b.map DVL.pr)) else PyData.eqv (.list (a.map DVL.pr)) (.list (b.map DVL.pr))))) else none else none) = _
  rw [if_pos (shaped_lprs a), if_pos (shaped_lprs b), PyData.eqv, eqvA_prs a b]
theorem w_neLP {P : RV → Prop} {a b : List (Int × Int)} (p : P (.d (.bool (!decide (a = b))))) : K2 gNe P (.n (a.map DVL.pr)) (.n (b.map DVL.pr)) := ⟨_, eq_lprs true a b, p⟩
end DV

namespace DVS
open PySem L2 DV DVL DVB
/-- what days behind others tell: the day less the due day -/
def latL (du : List Int) (k : Int) (d : List Int) : List Int := d.map fun j => k - val du j
def LL (du : List Int) (ds : List (List Int)) : List Int := (fl 1 ds).map fun q => q.2 - val du q.1
theorem LL_snoc {du : List Int} {ds : List (List Int)} {d : List Int} : LL du (ds ++ [d]) = LL du ds ++ latL du ((ds.length : Nat) + 1) d := by
  unfold LL latL
  rw [fl_app, List.map_append]
  congr 1
  rw [show fl (1 + (ds.length : Nat)) [d] = d.map (fun j => (j, 1 + ((ds.length : Nat) : Int))) ++ [] from rfl, List.append_nil, List.map_map]
  refine List.map_congr_left fun j _ => ?_
  show 1 + ((ds.length : Nat) : Int) - val du j = _
  omega
def MxL (L : List Int) (m : Int) : Prop := m ∈ L ∧ ∀ x ∈ L, x ≤ m
/-- days by a choice of each -/
inductive Pc (C : List Int → List (List Int)) : List Int → List (List Int) → Prop
  | nil {S : List Int} : Pc C S []
  | cons {S day : List Int} {ds : List (List Int)} : day ∈ C S → Pc C (S ++ day) ds → Pc C S (day :: ds)
theorem pc_snoc {C : List Int → List (List Int)} {day : List Int} : ∀ {ds : List (List Int)} {S : List Int}, Pc C S (ds ++ [day]) ↔ Pc C S ds ∧ day ∈ C (S ++ ds.flatten)
  | [], S => by
    rw [List.flatten_nil, List.append_nil, List.nil_append]
    exact ⟨fun h => by cases h with | cons h1 h2 => exact ⟨.nil, h1⟩, fun h => .cons h.2 .nil⟩
  | d :: ds, S => by
    rw [List.cons_append, List.flatten_cons, ← List.append_assoc]
    constructor
    · intro h
      cases h with
      | cons h1 h2 =>
        obtain ⟨a, c⟩ := pc_snoc.mp h2
        exact ⟨.cons h1 a, c⟩
    · rintro ⟨h, c⟩
      cases h with
      | cons h1 h2 => exact .cons h1 (pc_snoc.mpr ⟨h2, c⟩)
theorem pc_app {C : List Int → List (List Int)} : ∀ {us vs : List (List Int)} {S : List Int}, Pc C S (us ++ vs) → Pc C S us ∧ Pc C (S ++ us.flatten) vs
  | [], vs, S, h => by rw [List.flatten_nil, List.append_nil]; exact ⟨.nil, h⟩
  | d :: us, vs, S, h => by
    cases h with
    | cons h1 h2 =>
      obtain ⟨a, c⟩ := pc_app h2
      rw [List.flatten_cons, ← List.append_assoc]
      exact ⟨.cons h1 a, c⟩
section
variable {n : Nat} {C : List Int → List (List Int)} {du B0 : List Int} {ρ : Type} {lt : ρ → Option Int} {W : ρ → List (List Int) → Prop}
/-- the value held behind days -/
def LateIs (B0 du : List Int) (ds : List (List Int)) : Option Int → Prop
  | none => ds = []
  | some x => MxL (B0 ++ LL du ds) x
def LB (B0 : List Int) : Option Int → List Int
  | none => B0
  | some x => [x]
theorem late_next {ds : List (List Int)} {d : List Int} {l : Option Int} {y : Int} (h : LateIs B0 du ds l) (m : MxL (LB B0 l ++ latL du ((ds.length : Nat) + 1) d) y) : MxL (B0 ++ LL du (ds ++ [d])) y := by
  obtain ⟨m1, m2⟩ := m
  rw [LL_snoc, ← List.append_assoc]
  cases l with
  | none =>
    have h : ds = [] := h
    subst h
    have e : B0 ++ LL du [] = B0 := List.append_nil B0
    rw [e]
    exact ⟨m1, m2⟩
  | some x =>
    obtain ⟨h1, h2⟩ := (show MxL (B0 ++ LL du ds) x from h)
    refine ⟨?_, fun z hz => ?_⟩
    · rcases List.mem_append.mp m1 with z | z
      · rw [List.mem_singleton.mp z]
        exact List.mem_append_left _ h1
      · exact List.mem_append_right _ z
    · rcases List.mem_append.mp hz with q | q
      · have a := h2 z q
        have b := m2 x (List.mem_append_left _ (List.mem_singleton.mpr rfl))
        omega
      · exact m2 z (List.mem_append_right _ q)
/-- what is said of a row: its key, its value -/
structure Row (n : Nat) (C : List Int → List (List Int)) (du B0 : List Int) (lt : ρ → Option Int) (W : ρ → List (List Int) → Prop) (t : Nat) (o : List Int × ρ) (ds : List (List Int)) : Prop where
  pc : Pc C [] ds
  len : ds.length = t
  key : o.1 = DV.sortI ds.flatten
  late : LateIs B0 du ds (lt o.2)
  w : W o.2 ds
/-- the rows of a turn -/
structure Rw (n : Nat) (C : List Int → List (List Int)) (du B0 : List Int) (lt : ρ → Option Int) (W : ρ → List (List Int) → Prop) (t : Nat) (M : List (List Int × ρ)) : Prop where
  uq : Uq M
  ok : ∀ e ∈ M, (∃ ds, Row n C du B0 lt W t e ds) ∧ e.1.length < n
  cov : ∀ ds, Pc C [] ds → ds.length = t → ds.flatten.length < n → ∃ e ∈ M, e.1 = DV.sortI ds.flatten ∧ ∀ x, lt e.2 = some x → ∃ y ∈ B0 ++ LL du ds, x ≤ y
/-- the best row of all jobs -/
structure Bs (n : Nat) (C : List Int → List (List Int)) (du B0 : List Int) (lt : ρ → Option Int) (W : ρ → List (List Int) → Prop) (t u : Nat) (best : Option ρ) : Prop where
  ok : ∀ x, best = some x → ∃ (k : Nat) (ds : List (List Int)), k ≤ u ∧ Pc C [] ds ∧ ds.length = k ∧ ds.flatten.length = n ∧ (∃ y, lt x = some y ∧ MxL (B0 ++ LL du ds) y) ∧ W x ds
  cov : ∀ ds, Pc C [] ds → ds.flatten.length = n → ds.length ≤ t → ∃ x y, best = some x ∧ lt x = some y ∧ ∃ z ∈ B0 ++ LL du ds, y ≤ z
def leR (lt : ρ → Option Int) (a b : ρ) : Prop := (lt a).getD 0 ≤ (lt b).getD 0
/-- within a turn: what was offered -/
structure In (n : Nat) (C : List Int → List (List Int)) (du B0 : List Int) (lt : ρ → Option Int) (W : ρ → List (List Int) → Prop) (t : Nat) (dn dc N : List (List Int × ρ)) (best : Option ρ) : Prop where
  ut : UT (leR lt) dn N
  ok : ∀ o ∈ dn, (∃ ds, Row n C du B0 lt W (t + 1) o ds) ∧ o.1.length < n ∧ (lt o.2).isSome = true
  bs : Bs n C du B0 lt W t (t + 1) best
  cc : ∀ o ∈ dc, o.1.length = n ∧ (lt o.2).isSome = true ∧ ∃ x, best = some x ∧ leR lt x o.2
  ob : ∀ x, best = some x → (lt x).isSome = true
/-- an offer of a row by a day -/
def Off (du B0 : List Int) (lt : ρ → Option Int) (t : Nat) (e o : List Int × ρ) (day : List Int) : Prop :=
  o.1 = DV.sortI (e.1 ++ day) ∧ ∃ y, lt o.2 = some y ∧ MxL (LB B0 (lt e.2) ++ latL du ((t : Nat) + 1) day) y
theorem Off.row (hC : ∀ S K, (∀ x, x ∈ S ↔ x ∈ K) → C S = C K) {t : Nat} {e o : List Int × ρ} {day : List Int} {ds : List (List Int)} (R : Row n C du B0 lt W t e ds) (h : Off du B0 lt t e o day) (hd : day ∈ C e.1) (hw : W o.2 (ds ++ [day])) : Row n C du B0 lt W (t + 1) o (ds ++ [day]) := by
  obtain ⟨h1, y, h2, h3⟩ := h
  have ep := DV.sortI_perm ds.flatten
  have hA : C e.1 = C ds.flatten := hC _ _ fun x => by rw [R.key]; exact ep.mem_iff
  refine ⟨pc_snoc.mpr ⟨R.pc, by rw [List.nil_append, ← hA]; exact hd⟩, by rw [List.length_append, List.length_singleton, R.len], ?_, ?_, hw⟩
  · rw [h1, R.key, srt_app ep, List.flatten_append, List.flatten_cons, List.flatten_nil, List.append_nil]
  · rw [h2]
    refine late_next R.late ?_
    rw [R.len]
    exact h3
theorem In.first {t : Nat} {best : Option ρ} (B : Bs n C du B0 lt W t t best) : In n C du B0 lt W t [] [] [] best :=
  ⟨UT.nil, fun _ h => (nomatch h), ⟨fun x hx => by
    obtain ⟨k, ds, h1, h2⟩ := B.ok x hx
    exact ⟨k, ds, by omega, h2⟩, B.cov⟩, fun _ h => (nomatch h), fun x hx => by
    obtain ⟨_, _, _, _, _, _, ⟨y, h, _⟩, _⟩ := B.ok x hx
    rw [h]; rfl⟩
theorem leR_tr (lt : ρ → Option Int) (a b c : ρ) (h1 : leR lt a b) (h2 : leR lt b c) : leR lt a c := by unfold leR at *; omega
theorem leR_rf (lt : ρ → Option Int) (a : ρ) : leR lt a a := Int.le_refl _
theorem In.put {t : Nat} {dn dc N : List (List Int × ρ)} {best : Option ρ} (I : In n C du B0 lt W t dn dc N best) {o : List Int × ρ} {ds : List (List Int)} (R : Row n C du B0 lt W (t + 1) o ds) (hs : (lt o.2).isSome = true) (hl : o.1.length < n)
    (h : ∀ b, getA N o.1 = some b → leR lt o.2 b) : In n C du B0 lt W t (dn ++ [o]) dc (putA N o.1 o.2) best :=
  ⟨I.ut.put (leR_tr lt) (leR_rf lt) h, fun q hq => (List.mem_append.mp hq).elim (I.ok q) fun z => by rw [List.mem_singleton.mp z]; exact ⟨⟨ds, R⟩, hl, hs⟩, I.bs, I.cc, I.ob⟩
theorem In.skip {t : Nat} {dn dc N : List (List Int × ρ)} {best : Option ρ} (I : In n C du B0 lt W t dn dc N best) {o : List Int × ρ} {ds : List (List Int)} {b : ρ} (R : Row n C du B0 lt W (t + 1) o ds) (hs : (lt o.2).isSome = true) (hl : o.1.length < n)
    (h : getA N o.1 = some b) (hle : leR lt b o.2) : In n C du B0 lt W t (dn ++ [o]) dc N best :=
  ⟨I.ut.skip h hle, fun q hq => (List.mem_append.mp hq).elim (I.ok q) fun z => by rw [List.mem_singleton.mp z]; exact ⟨⟨ds, R⟩, hl, hs⟩, I.bs, I.cc, I.ob⟩
/-- a row of all jobs -/
theorem In.best {t : Nat} {dn dc N : List (List Int × ρ)} {best : Option ρ} (I : In n C du B0 lt W t dn dc N best) {o : List Int × ρ} {ds : List (List Int)} (R : Row n C du B0 lt W (t + 1) o ds) {y : Int} (hs : lt o.2 = some y) (hl : o.1.length = n)
    {new : Option ρ} (h : (new = some o.2 ∧ ∀ x, best = some x → leR lt o.2 x) ∨ (∃ x, best = some x ∧ new = best ∧ leR lt x o.2)) : In n C du B0 lt W t dn (dc ++ [o]) N new := by
  have hfl : ds.flatten.length = n := by rw [← hl, R.key]; exact (DV.sortI_perm _).length_eq.symm
  rcases h with ⟨h1, h2⟩ | ⟨x, h1, h2, h3⟩
  · refine ⟨I.ut, I.ok, ⟨fun x hx => ?_, fun ds2 p1 p2 p3 => ?_⟩, fun q hq => ?_, fun x hx => ?_⟩
    · rw [h1] at hx
      cases hx
      have := R.late
      rw [hs] at this
      exact ⟨t + 1, ds, Nat.le_refl _, R.pc, R.len, hfl, ⟨y, hs, this⟩, R.w⟩
    · obtain ⟨x, v, e1, e2, z, hz, hv⟩ := I.bs.cov ds2 p1 p2 p3
      have := h2 x e1
      unfold leR at this
      rw [hs, e2] at this
      exact ⟨o.2, y, h1, hs, z, hz, by have : y ≤ v := this; omega⟩
    · rcases List.mem_append.mp hq with z | z
      · obtain ⟨a, b, x, e1, e2⟩ := I.cc q z
        exact ⟨a, b, o.2, h1, leR_tr lt _ _ _ (h2 x e1) e2⟩
      · rw [List.mem_singleton.mp z]
        exact ⟨hl, by rw [hs]; rfl, o.2, h1, leR_rf lt _⟩
    · rw [h1] at hx
      cases hx
      rw [hs]; rfl
  · subst h2
    refine ⟨I.ut, I.ok, I.bs, fun q hq => ?_, I.ob⟩
    rcases List.mem_append.mp hq with z | z
    · exact I.cc q z
    · rw [List.mem_singleton.mp z]
      exact ⟨hl, by rw [hs]; rfl, x, h1, h3⟩
/-- an offer that was made -/
def Had (du B0 : List Int) (lt : ρ → Option Int) (t : Nat) (dn dc : List (List Int × ρ)) (e : List Int × ρ) (day : List Int) : Prop := ∃ o, (o ∈ dn ∨ o ∈ dc) ∧ Off du B0 lt t e o day
theorem Had.more {t : Nat} {dn dc dn2 dc2 : List (List Int × ρ)} {e : List Int × ρ} {day : List Int} (h : Had du B0 lt t dn dc e day) : Had du B0 lt t (dn ++ dn2) (dc ++ dc2) e day := by
  obtain ⟨o, h1, h2⟩ := h
  exact ⟨o, h1.imp (List.mem_append_left _) (List.mem_append_left _), h2⟩
theorem mx_low {t : Nat} {e : List Int × ρ} {us ds : List (List Int)} {day : List Int} {y : Int} (hl : us.length = t) (R : Row n C du B0 lt W t e ds) (h : ∀ x, lt e.2 = some x → ∃ y ∈ B0 ++ LL du us, x ≤ y) (m : MxL (LB B0 (lt e.2) ++ latL du ((t : Nat) + 1) day) y) : ∃ z ∈ B0 ++ LL du (us ++ [day]), y ≤ z := by
  rw [LL_snoc, hl, ← List.append_assoc]
  rcases List.mem_append.mp m.1 with q | q
  · cases e1 : lt e.2 with
    | none =>
      rw [e1] at q
      exact ⟨y, List.mem_append_left _ (List.mem_append_left _ q), Int.le_refl _⟩
    | some x =>
      rw [e1] at q
      obtain ⟨z, hz, h2⟩ := h x e1
      exact ⟨z, List.mem_append_left _ hz, by rw [List.mem_singleton.mp q]; exact h2⟩
  · exact ⟨y, List.mem_append_right _ q, Int.le_refl _⟩
theorem In.fin (hC : ∀ S K, (∀ x, x ∈ S ↔ x ∈ K) → C S = C K) (hne : ∀ us day, Pc C [] us → us.flatten.length = n → day ∈ C us.flatten → day = []) (hmax : ∀ ds, Pc C [] ds → ds.flatten.length ≤ n) {t : Nat} {M dn dc N : List (List Int × ρ)} {best : Option ρ} (Q : Rw n C du B0 lt W t M) (I : In n C du B0 lt W t dn dc N best) (hall : ∀ e ∈ M, ∀ day ∈ C e.1, Had du B0 lt t dn dc e day) :
    Rw n C du B0 lt W (t + 1) N ∧ Bs n C du B0 lt W (t + 1) (t + 1) best := by
  have main : ∀ us day, Pc C [] (us ++ [day]) → us.length = t → us.flatten.length < n → ∃ o, (o ∈ dn ∨ o ∈ dc) ∧ o.1 = DV.sortI (us ++ [day]).flatten ∧ ∃ y, lt o.2 = some y ∧ ∃ z ∈ B0 ++ LL du (us ++ [day]), y ≤ z := fun us day p l h => by
    obtain ⟨p1, p2⟩ := pc_snoc.mp p
    rw [List.nil_append] at p2
    obtain ⟨e, he, ek, ev⟩ := Q.cov us p1 l h
    have ep := DV.sortI_perm us.flatten
    have hA : C e.1 = C us.flatten := hC _ _ fun x => by rw [ek]; exact ep.mem_iff
    obtain ⟨o, ho, h1, y, h2, h3⟩ := hall e he day (by rw [hA]; exact p2)
    obtain ⟨ds, R⟩ := (Q.ok e he).1
    exact ⟨o, ho, by rw [h1, ek, srt_app ep, List.flatten_append, List.flatten_cons, List.flatten_nil, List.append_nil], y, h2, mx_low l R ev h3⟩
  refine ⟨⟨I.ut.uq, fun e he => ⟨(I.ok e (I.ut.sub e he)).1, (I.ok e (I.ut.sub e he)).2.1⟩, fun ds p l h => ?_⟩, ⟨I.bs.ok, fun ds p h l => ?_⟩⟩
  · rcases List.eq_nil_or_concat ds with rfl | ⟨us, day, rfl⟩
    · cases l
    · rw [List.concat_eq_append] at *
      rw [List.length_append, List.length_singleton] at l
      have hf : us.flatten.length < n := by
        rw [List.flatten_append, List.length_append] at h
        omega
      obtain ⟨o, ho, ek, y, ey, z, hz, hyz⟩ := main us day p (by omega) hf
      have hol : o.1.length < n := by rw [ek, (DV.sortI_perm _).length_eq]; exact h
      rcases ho with ho | ho
      · obtain ⟨b, g1, g2⟩ := I.ut.all o ho
        refine ⟨(o.1, b), getA_mem g1, ek, fun x hx => ⟨z, hz, ?_⟩⟩
        unfold leR at g2
        rw [ey] at g2
        have hx : lt b = some x := hx
        rw [hx] at g2
        have g2 : x ≤ y := g2
        omega
      · have := (I.cc o ho).1
        omega
  · by_cases hl : ds.length ≤ t
    · exact I.bs.cov ds p h hl
    · rcases List.eq_nil_or_concat ds with rfl | ⟨us, day, rfl⟩
      · exact absurd (Nat.zero_le t) hl
      · rw [List.concat_eq_append] at *
        rw [List.length_append, List.length_singleton] at l hl
        by_cases hf : us.flatten.length < n
        · obtain ⟨o, ho, ek, y, ey, z, hz, hyz⟩ := main us day p (by omega) hf
          have hol : o.1.length = n := by rw [ek, (DV.sortI_perm _).length_eq]; exact h
          rcases ho with ho | ho
          · have := (I.ok o ho).2.1
            omega
          · obtain ⟨_, _, x, e1, e2⟩ := I.cc o ho
            have hx := I.ob x e1
            cases e3 : lt x with
            | none => rw [e3] at hx; cases hx
            | some v =>
              unfold leR at e2
              rw [e3, ey] at e2
              have e2 : v ≤ y := e2
              exact ⟨x, v, e1, e3, z, hz, by omega⟩
        · obtain ⟨p1, p2⟩ := pc_snoc.mp p
          rw [List.nil_append] at p2
          have hfl : us.flatten.length = n := by
            have := hmax us p1
            omega
          have hd := hne us day p1 hfl p2
          subst hd
          obtain ⟨x, y, e1, e2, z, hz, hyz⟩ := I.bs.cov us p1 hfl (by omega)
          exact ⟨x, y, e1, e2, z, by rw [LL_snoc]; rw [show latL du ((us.length : Nat) + 1) [] = [] from rfl, List.append_nil]; exact hz, hyz⟩
/-- no rows are left: the best is the best of all -/
theorem Bs.out (hmax : ∀ ds, Pc C [] ds → ds.flatten.length ≤ n) (hne : ∀ us day, Pc C [] us → us.flatten.length = n → day ∈ C us.flatten → day = []) {t u : Nat} {best : Option ρ} (Q : Rw n C du B0 lt W t []) (B : Bs n C du B0 lt W t u best) : ∀ ds, Pc C [] ds → ds.flatten.length = n → ∃ x y, best = some x ∧ lt x = some y ∧ ∃ z ∈ B0 ++ LL du ds, y ≤ z := by
  have go : ∀ (k : Nat) (ds : List (List Int)), ds.length = k → Pc C [] ds → ds.flatten.length = n → ∃ x y, best = some x ∧ lt x = some y ∧ ∃ z ∈ B0 ++ LL du ds, y ≤ z := fun k => by
    induction k with
    | zero => exact fun ds l p h => B.cov ds p h (by omega)
    | succ k ih =>
      intro ds l p h
      by_cases hl : ds.length ≤ t
      · exact B.cov ds p h hl
      · rcases List.eq_nil_or_concat ds with rfl | ⟨us, day, rfl⟩
        · cases l
        · rw [List.concat_eq_append] at *
          obtain ⟨p1, p2⟩ := pc_snoc.mp p
          rw [List.nil_append] at p2
          rw [List.length_append, List.length_singleton] at l hl
          by_cases hf : us.flatten.length < n
          · have hu : us = us.take t ++ us.drop t := (List.take_append_drop t us).symm
            have ht : (us.take t).length = t := by rw [List.length_take]; omega
            have p3 := p1
            rw [hu] at p3
            have hfl : (us.take t).flatten.length < n := by
              have := congrArg (fun l : List (List Int) => l.flatten.length) hu
              simp only [List.flatten_append, List.length_append] at this
              omega
            obtain ⟨e, he, _⟩ := Q.cov _ (pc_app p3).1 ht hfl
            cases he
          · have hfl : us.flatten.length = n := by
              have := hmax us p1
              omega
            have hd := hne us day p1 hfl p2
            subst hd
            obtain ⟨x, y, e1, e2, z, hz, hyz⟩ := ih us (by omega) p1 hfl
            exact ⟨x, y, e1, e2, z, by rw [LL_snoc]; rw [show latL du ((us.length : Nat) + 1) [] = [] from rfl, List.append_nil]; exact hz, hyz⟩
  exact fun ds p h => go _ ds rfl p h
end
end DVS

namespace DVS
open PySem L2 DV DVL DVB
section
variable {n : Nat} {P : List (Int × Int)} {b : Nat}
theorem Fc.len {ds : List (List Int)} (C : Fc n P b ds) : ds.flatten.length = n := by rw [C.all.length_eq, rngI_len]
end
end DVS

namespace DVJ
open PySem L2 DV DVL DVB DVS
section
variable {n : Nat} {P : List (Int × Int)} {ts : List Int} {b e f : Int → Int} {z : Int}
abbrev sw (p : Int × Int) : Int × Int := (p.2, p.1)
end
end DVJ

namespace DVJ
open PySem L2 DV DVL DVB DVS
section
variable {ρ : DV.Env} {α : Type}
theorem pr_tis (P : List (Int × Int)) : P.map pr = (P.map fun p => [p.1, p.2]).map ti := by
  rw [List.map_map]
  rfl
theorem mem_two {P : List (Int × Int)} {a b : Int} : [a, b] ∈ (P.map fun p => [p.1, p.2]) ↔ (a, b) ∈ P := by
  constructor
  · intro h
    obtain ⟨q, hq, e⟩ := List.mem_map.mp h
    obtain ⟨q1, q2⟩ := q
    injection e with e1 e2
    injection e2 with e3 _
    have e1 : q1 = a := e1
    have e3 : q2 = b := e3
    subst e1 e3
    exact hq
  · exact fun h => List.mem_map.mpr ⟨(a, b), h, rfl⟩
theorem shaped_tisT (L : List (List Int)) : SeqAt.shaped (.tuple (L.map ti)) = true := by
  unfold SeqAt.shaped
  have h := depth_tis L
  rw [PyData.canLay0, canLay_tis, PyData.depth]
  simp
  omega
theorem w_notInPr {Q : RV → Prop} {P : List (Int × Int)} {a b : Int} (p : Q (.d (.bool (!decide ((a, b) ∈ P))))) : K2 gNotIn Q (.d (.tuple [.int a, .int b])) (.d (prT P)) := by
  refine ⟨.d (.bool (!decide ((a, b) ∈ P))), ?_, p⟩
  show gNotIn (.d (ti [a, b])) (.d (.tuple (P.map pr))) = _
  rw [pr_tis]
  show (if SeqAt.shaped (ti [a, b]) = true then if SeqAt.shaped (.tuple ((P.map fun p => [p.1, p.2]).map ti)) = true then some (RV.d (.bool (!(((P.map fun p => [p.1, p.2]).map ti).any fun z => PyData.eqv z (ti [a, b]))))) else none else none) = _
  rw [if_pos (DVL.shaped_intsT _), if_pos (shaped_tisT _), any_tis, decide_eq_decide.mpr mem_two]
end
end DVJ

namespace DV
open PySem L2
def KRt (Q : Out → Prop) : Out → Prop := fun o => match o with
  | .rt x => Q (.rt x)
  | _ => False
def KSeqM (gM : Env → M NC) (Q : NC → Prop) : Out → Prop := fun o => match o with
  | .nx ρ' => Gives (gM ρ') Q
  | _ => False
def KSM (i np : Nat) (m : List RV → M NC) (ρ : Env) (Q : Out → Prop) (xs : List RV) : Prop := xs.length = np ∧ Gives (m (xs.map readable)) fun c => onlyM ρ i = true ∧ i < ρ.length ∧ Q (.nx (ρ.set i (some (.m c))))
section
variable {ρ ρ' : Env} {P : RV → Prop} {Q : Out → Prop} {QM : NC → Prop} {f h g : Env → M RV} {s : Env → M Out} {gM : Env → M NC} {x : RV} {tg : D → Env → Option Env} {i a b n : Nat} {c : NC}
theorem w_body2 (e : noM ρ = true) (p : Gives (s ρ) (KRt Q)) : Gives (sBody2 s ρ) Q := by
  unfold sBody2
  rw [if_pos e]
  exact Gives.bnd p fun o q => by
    cases o with
    | rt y => exact Gives.ret q
    | nx _ => exact q.elim
    | bk _ => exact q.elim
    | ct _ => exact q.elim
theorem w_krt (p : Q (.rt x)) : KRt Q (.rt x) := p
theorem w_seqM (p : Gives (s ρ) (KSeqM gM QM)) : Gives (sSeqM s gM ρ) QM := Gives.bnd p fun o q => by
  cases o with
  | nx _ => exact q
  | rt _ => exact q.elim
  | bk _ => exact q.elim
  | ct _ => exact q.elim
theorem w_kseqM (p : Gives (gM ρ) QM) : KSeqM gM QM (.nx ρ) := p
theorem mAt_of (e : ρ[i]? = some (some (.m c))) : DV.mAt ρ i = some c := by
  unfold DV.mAt
  rw [e]
theorem w_retM (e : ρ[i]? = some (some (.m c))) (p : QM c) : Gives (sRetM i ρ) QM := by
  unfold sRetM
  rw [mAt_of e, lft_s]
  exact Gives.ret p
theorem w_runM {xs : List RV} (e : startE n xs = ρ) (p : Gives (gM ρ) QM) : Gives (runDefM n gM xs) QM := by
  unfold runDefM
  rw [e]
  exact p
theorem w_setM {np : Nat} {m : List RV → M NC} {fa : Env → M (List RV)} (p : Gives (fa ρ) (KSM i np m ρ Q)) : Gives (sSetM i np m fa ρ) Q := Gives.bnd p fun xs ⟨hl, q⟩ => by
  rw [if_pos (by rw [List.length_map]; exact hl)]
  exact Gives.bnd q fun c ⟨h1, h2, q2⟩ => by
    rw [if_pos ⟨h1, h2⟩]
    exact Gives.ret q2
theorem w_setM2 {m : List RV → M NC} {x y : RV} (p : Gives (m [readable x, readable y]) fun c => onlyM ρ i = true ∧ i < ρ.length ∧ Q (.nx (ρ.set i (some (.m c))))) : KSM i 2 m ρ Q [x, y] := ⟨rfl, p⟩
theorem w_for2 {fi : Env → M (List D)} (p : Gives (fi ρ) fun its => KFor tg s ρ Q (its, none)) : Gives (sFor2 fi tg s ρ) Q := Gives.bnd p fun its q => q.mono fun o h => by
  cases o <;> exact h
theorem w_dat {C : List D → Prop} (p : Gives (f ρ) fun x => ∃ ds, tupOf x = some ds ∧ C ds) : Gives (iDat f ρ) C := Gives.bnd p fun x ⟨ds, e, q⟩ => by
  rw [e, lft_s]
  exact Gives.ret q
theorem w_datT {C : List D → Prop} {ds : List D} (p : C ds) : ∃ es, tupOf (.d (.tuple ds)) = some es ∧ C es := ⟨ds, rfl, p⟩
theorem w_datR {C : List D → Prop} (p : Gives (iDat f ρ) fun ds => C ds.reverse) : Gives (iDatR f ρ) C := Gives.bnd p fun ds q => Gives.ret q
abbrev uD : Unit → D := fun _ => .bool true
abbrev uK (l : List Int) : List (Int × Unit) := l.map fun k => (k, ())
def tbK (l : List Int) : List (D × D) := encT kInt uD (uK l)
def adK (l : List Int) (k : Int) : List Int := if k ∈ l then l else l ++ [k]
theorem getA_uK {l : List Int} {k : Int} : (getA (uK l) k).isSome = decide (k ∈ l) := by
  induction l with
  | nil => rfl
  | cons x l ih =>
    rw [uK, List.map_cons, getA_cons]
    by_cases e : x = k
    · rw [if_pos e]
      simp [e]
    · rw [if_neg e]
      have : (getA (uK l) k).isSome = decide (k ∈ l) := ih
      rw [this, decide_eq_decide, List.mem_cons]
      constructor
      · exact .inr
      · rintro (z | z)
        · exact absurd z.symm e
        · exact z
theorem put_tbK {l : List Int} {k : Int} : putD (tbK l) (.int k) (.bool true) = tbK (adK l k) := by
  have e : putD (encT kInt uD (uK l)) (kInt.enc k) (uD ()) = encT kInt uD (putA (uK l) k ()) := put_enc
  refine Eq.trans e ?_
  unfold tbK
  congr 1
  unfold putA adK
  rw [getA_uK]
  by_cases h : k ∈ l
  · rw [if_pos (decide_eq_true h), if_pos h, uK, List.map_map]
    refine List.map_congr_left fun q _ => ?_
    show (if q = k then (k, ()) else (q, ())) = (q, ())
    by_cases e : q = k
    · rw [if_pos e, e]
    · rw [if_neg e]
  · rw [if_neg (by simpa using h), if_neg h, uK, uK, List.map_append]
    rfl
theorem tbK_len {l : List Int} : (tbK l).length = l.length := by unfold tbK uK; rw [encT_len, List.length_map]
theorem merge_tbK : ∀ {m l : List Int}, mergeD (tbK l) (tbK m) = tbK (m.foldl adK l)
  | [], _ => rfl
  | k :: m, l => by
    show mergeD (putD (tbK l) (.int k) (.bool true)) (tbK m) = tbK (m.foldl adK (adK l k))
    rw [put_tbK]
    exact merge_tbK
theorem mem_adK {l : List Int} {k x : Int} : x ∈ adK l k ↔ x ∈ l ∨ x = k := by
  unfold adK
  by_cases h : k ∈ l
  · rw [if_pos h]
    exact ⟨.inl, fun z => z.elim id fun e => e ▸ h⟩
  · rw [if_neg h, List.mem_append, List.mem_singleton]
theorem adK_nodup {l : List Int} {k : Int} (h : l.Nodup) : (adK l k).Nodup := by
  unfold adK
  by_cases e : k ∈ l
  · rw [if_pos e]; exact h
  · rw [if_neg e]
    refine List.nodup_append.mpr ⟨h, by simp, fun a ha b hb z => ?_⟩
    rw [List.mem_singleton.mp hb] at z
    exact e (z ▸ ha)
theorem mem_insF {x : Int} : ∀ {m l : List Int}, x ∈ m.foldl adK l ↔ x ∈ l ∨ x ∈ m
  | [], l => by simp
  | k :: m, l => by
    rw [List.foldl_cons, mem_insF, mem_adK, List.mem_cons]
    constructor
    · rintro ((z | z) | z)
      · exact .inl z
      · exact .inr (.inl z)
      · exact .inr (.inr z)
    · rintro (z | z | z)
      · exact .inl (.inl z)
      · exact .inl (.inr z)
      · exact .inr z
theorem insF_nodup : ∀ {m l : List Int}, l.Nodup → (m.foldl adK l).Nodup
  | [], _, h => h
  | _ :: m, _, h => insF_nodup (m := m) (adK_nodup h)
theorem keys_tbK {l : List Int} : (tbK l).map (wkB false) = l.map PyData.int := by
  unfold tbK uK encT
  rw [List.map_map, List.map_map]
  rfl
theorem keysD_tbK {l : List Int} : (tbK l).map (wkD .keys) = l.map PyData.int := by
  unfold tbK uK encT
  rw [List.map_map, List.map_map]
  rfl
def ncS (n : Nat) (ms : Int → List Int) : NC := ⟨some (DVL.rngI 0 n), (DVL.rngI 0 n).map fun j => .g ⟨false, tbK (ms j)⟩⟩
def upM (ms : Int → List Int) (j : Int) (l : List Int) : Int → List Int := fun i => if i = j then l else ms i
theorem upM_at {ms : Int → List Int} {j : Int} {l : List Int} : upM ms j l j = l := if_pos rfl
theorem upM_ne {ms : Int → List Int} {i j : Int} {l : List Int} (h : i ≠ j) : upM ms j l i = ms i := if_neg h
theorem mPos_rng {xs : List IC} {j : Int} (h0 : 0 ≤ j) (h1 : j < (n : Int)) : mPos ⟨some (DVL.rngI 0 n), xs⟩ j = some j.toNat := by
  have hg : ∀ (k : Nat) (hk : k < (DVL.rngI 0 n).length), (DVL.rngI 0 n)[k] = (k : Int) := fun k hk => by
    have hk2 : k < n := by rw [DVL.rngI_len] at hk; exact hk
    have := DVL.rng_get n 0 k hk2
    rw [List.getElem?_eq_getElem hk] at this
    have e := Option.some.inj this
    rw [e]
    omega
  show (DVL.rngI 0 n).findIdx? _ = _
  rw [List.findIdx?_eq_some_iff_getElem]
  have hl : j.toNat < (DVL.rngI 0 n).length := by rw [DVL.rngI_len]; omega
  refine ⟨hl, ?_, fun k hk => ?_⟩
  · rw [hg _ hl, decide_eq_true_eq]
    omega
  · rw [hg, decide_eq_true_eq]
    omega
theorem ncS_get {ms : Int → List Int} {j : Int} (h0 : 0 ≤ j) (h1 : j < (n : Int)) : (ncS n ms).xs[j.toNat]? = some (.g ⟨false, tbK (ms j)⟩) := by
  show ((DVL.rngI 0 n).map _)[j.toNat]? = _
  rw [List.getElem?_map, DVL.rng_get n 0 j.toNat (by omega)]
  show some (IC.g ⟨false, tbK (ms (0 + (j.toNat : Int)))⟩) = _
  rw [show (0 : Int) + (j.toNat : Int) = j by omega]
theorem ncS_set {ms : Int → List Int} {j : Int} {l : List Int} (h0 : 0 ≤ j) (h1 : j < (n : Int)) : (⟨some (DVL.rngI 0 n), (ncS n ms).xs.set j.toNat (.g ⟨false, tbK l⟩)⟩ : NC) = ncS n (upM ms j l) := by
  unfold ncS
  congr 1
  refine List.ext_getElem? fun k => ?_
  show (((DVL.rngI 0 n).map _).set j.toNat _)[k]? = ((DVL.rngI 0 n).map _)[k]?
  by_cases hk : k < n
  · rw [List.getElem?_set, List.getElem?_map, List.getElem?_map, DVL.rng_get n 0 k hk, List.length_map, DVL.rngI_len]
    by_cases e : j.toNat = k
    · rw [if_pos e, if_pos (by omega)]
      show _ = some (IC.g ⟨false, tbK (upM ms j l (0 + (k : Int)))⟩)
      rw [show (0 : Int) + (k : Int) = j by omega, upM_at]
    · rw [if_neg e]
      show _ = some (IC.g ⟨false, tbK (upM ms j l (0 + (k : Int)))⟩)
      rw [upM_ne (by omega)]
      rfl
  · rw [List.getElem?_eq_none (by rw [List.length_set, List.length_map, DVL.rngI_len]; omega), List.getElem?_eq_none (by rw [List.length_map, DVL.rngI_len]; omega)]
theorem isDictM_at {ks : List Int} (e : ρ[i]? = some (some (.m c))) (hk : c.ks = some ks) : isDictM ρ i = true := by
  unfold isDictM
  rw [mAt_of e]
  obtain ⟨k, xs⟩ := c
  cases hk
  rfl
theorem w_mgetD {ks : List Int} {d : DC} {j : Int} {k : Nat} (e : ρ[i]? = some (some (.m c))) (hk : c.ks = some ks) (ea : vget ρ a = some (.d (.int j))) (hp : mPos c j = some k) (hx : c.xs[k]? = some (.g d)) (p : P (.gb d)) : Gives (eMGetD i (eVar a) ρ) P := by
  unfold eMGetD
  rw [if_pos (isDictM_at e hk)]
  unfold eMGet
  rw [mAt_of e, lft_s, bnd_ret]
  have ev : Gives (eVar a ρ) fun x => x = .d (.int j) := w_var ea rfl
  refine Gives.bnd ev fun x ex => ?_
  subst ex
  show Gives (bnd (lft (some j)) fun j => bnd (lft (mPos c j)) fun k => bnd (lft c.xs[k]?) fun x => lft (icRV x)) P
  rw [lft_s, bnd_ret, hp, lft_s, bnd_ret, hx, lft_s, bnd_ret]
  exact Gives.ret p
theorem w_mgetS {ms : Int → List Int} {j : Int} (e : ρ[i]? = some (some (.m (ncS n ms)))) (ea : vget ρ a = some (.d (.int j))) (h0 : 0 ≤ j) (h1 : j < (n : Int)) (p : P (.gb ⟨false, tbK (ms j)⟩)) : Gives (eMGetD i (eVar a) ρ) P :=
  w_mgetD e rfl ea (mPos_rng h0 h1) (ncS_get h0 h1) p
theorem atM_S {C : NC × Nat × DC → Prop} {ms : Int → List Int} {j : Int} (e : ρ[i]? = some (some (.m (ncS n ms)))) (ea : vget ρ a = some (.d (.int j))) (h0 : 0 ≤ j) (h1 : j < (n : Int)) (p : C (ncS n ms, j.toNat, ⟨false, tbK (ms j)⟩)) : Gives (atM i (eVar a) ρ) C := by
  unfold atM
  rw [if_pos (isDictM_at e rfl), mAt_of e, lft_s, bnd_ret]
  have ev : Gives (eVar a ρ) fun x => x = .d (.int j) := w_var ea rfl
  refine Gives.bnd ev fun x ex => ?_
  subst ex
  show Gives (bnd (lft (some j)) fun j => bnd (lft (mPos (ncS n ms) j)) fun k => bnd (lft (getGc (ncS n ms) k)) fun d => ret (ncS n ms, k, d)) C
  have hp : mPos (ncS n ms) j = some j.toNat := mPos_rng h0 h1
  have hx : getGc (ncS n ms) j.toNat = some ⟨false, tbK (ms j)⟩ := by
    unfold getGc
    rw [ncS_get h0 h1]
  rw [lft_s, bnd_ret, hp, lft_s, bnd_ret, hx, lft_s, bnd_ret]
  exact Gives.ret p
theorem w_mput {ms : Int → List Int} {j k : Int} (e : ρ[i]? = some (some (.m (ncS n ms)))) (ea : vget ρ a = some (.d (.int j))) (eb : vget ρ b = some (.d (.int k))) (ho : onlyM ρ i = true) (h0 : 0 ≤ j) (h1 : j < (n : Int)) (hl : (ms j).length ≤ 100000)
    (er : ρ.set i (some (.m (ncS n (upM ms j (adK (ms j) k))))) = ρ') (p : Q (.nx ρ')) : Gives (sMPut i (eC (.bool true)) (eVar a) (eVar b) ρ) Q := by
  unfold sMPut
  have ec : Gives (eC (.bool true) ρ) fun x => x = .d (.bool true) := Gives.ret rfl
  refine Gives.bnd ec fun x ex => ?_
  subst ex
  show Gives (bnd (lft (some (PyData.bool true))) _) Q
  rw [lft_s, bnd_ret]
  refine Gives.bnd (atM_S (C := fun z => z = (ncS n ms, j.toNat, ⟨false, tbK (ms j)⟩)) e ea h0 h1 rfl) fun z ez => ?_
  subst ez
  have ev : Gives (eVar b ρ) fun x => x = .d (.int k) := w_var eb rfl
  refine Gives.bnd ev fun x ex => ?_
  subst ex
  show Gives (bnd (lft (some (PyData.int k))) _) Q
  rw [lft_s, bnd_ret, if_pos ⟨ho, rfl, by rw [tbK_len]; exact hl⟩]
  refine Gives.ret ?_
  show Q (.nx (ρ.set i (some (.m ⟨some (DVL.rngI 0 n), (ncS n ms).xs.set j.toNat (.g ⟨false, putD (tbK (ms j)) (.int k) (.bool true)⟩)⟩))))
  rw [put_tbK, ncS_set h0 h1, er]
  exact p
theorem w_mupd {ms : Int → List Int} {j k : Int} (e : ρ[i]? = some (some (.m (ncS n ms)))) (ea : vget ρ a = some (.d (.int j))) (eb : vget ρ b = some (.d (.int k))) (ho : onlyM ρ i = true) (h0 : 0 ≤ j) (h1 : j < (n : Int)) (h2 : 0 ≤ k) (h3 : k < (n : Int)) (hne : j ≠ k) (hl : (ms j).length + (ms k).length ≤ 100000)
    (er : ρ.set i (some (.m (ncS n (upM ms j ((ms k).foldl adK (ms j)))))) = ρ') (p : Q (.nx ρ')) : Gives (sMUpd i (eVar a) (eVar b) ρ) Q := by
  unfold sMUpd
  refine Gives.bnd (atM_S (C := fun z => z = (ncS n ms, j.toNat, ⟨false, tbK (ms j)⟩)) e ea h0 h1 rfl) fun z ez => ?_
  subst ez
  refine Gives.bnd (atM_S (C := fun z => z = (ncS n ms, k.toNat, ⟨false, tbK (ms k)⟩)) e eb h2 h3 rfl) fun z ez => ?_
  subst ez
  rw [if_pos ⟨⟨ho, fun z => hne (by have z : j.toNat = k.toNat := z; omega)⟩, ⟨rfl, rfl⟩, by rw [tbK_len, tbK_len]; exact hl⟩]
  refine Gives.ret ?_
  show Q (.nx (ρ.set i (some (.m ⟨some (DVL.rngI 0 n), (ncS n ms).xs.set j.toNat (.g ⟨false, mergeD (tbK (ms j)) (tbK (ms k))⟩)⟩))))
  rw [merge_tbK, ncS_set h0 h1, er]
  exact p
/-- a new one -/
theorem dnF_rng {tg : D → Env → Option Env} {kf : Env → M RV} (hh : ∀ j : Int, ∃ ρ1, tg (.int j) ρ = some ρ1 ∧ Gives (kf ρ1) fun x => x = .d (.int j)) : ∀ (m : Nat) (k : Int) (acc : List Int), (∀ x ∈ acc, x < k) → Gives (dnF tg kf ρ ((DVL.rngI k m).map PyData.int) acc) fun ks => ks = acc ++ DVL.rngI k m
  | 0, k, acc, _ => Gives.ret (by simp [DVL.rngI])
  | m + 1, k, acc, ha => by
    obtain ⟨ρ1, e1, g1⟩ := hh k
    have hr : DVL.rngI k (m + 1) = k :: DVL.rngI (k + 1) m := rfl
    rw [hr, List.map_cons]
    unfold dnF
    rw [e1, lft_s, bnd_ret]
    refine Gives.bnd g1 fun x ex => ?_
    subst ex
    show Gives (bnd (lft (some k)) _) _
    rw [lft_s, bnd_ret]
    have hnk : k ∉ acc := fun z => by have := ha k z; omega
    rw [if_neg hnk]
    refine (dnF_rng hh m (k + 1) (acc ++ [k]) fun x hx => ?_).mono fun ks e => by rw [e, List.append_assoc]; rfl
    rcases List.mem_append.mp hx with z | z
    · have := ha x z; omega
    · rw [List.mem_singleton.mp z]; omega
theorem w_newD {kv : Nat} {nn : Int} (ea : vget ρ a = some (.d (.int (n : Nat)))) (hn : n ≤ 50000) (hg : ∀ j : Int, ∃ ρ1, gNm kv (.int j) (wipeE ρ [kv]) = some ρ1 ∧ vget ρ1 kv = some (.d (.int j))) (ho : onlyM ρ i = true) (hl : i < ρ.length)
    (er : ρ.set i (some (.m (ncS n fun _ => []))) = ρ') (p : Q (.nx ρ')) : Gives (sNewD i (iRng1F (eVar a)) [kv] (gNm kv) (eVar kv) ρ) Q := by
  unfold sNewD eNewD
  have e1 : Gives (iRng1F (eVar a) ρ) fun q => q = ((DVL.rngI 0 n).map PyData.int, none) := by
    refine DV.w_rng1 (w_var ea ⟨(n : Int), rfl, by omega, by omega, ?_⟩)
    rw [Int.toNat_natCast]
    exact Prod.ext (DVL.rngD_eq 0 n) rfl
  refine Gives.bnd (P := fun ks => ks = DVL.rngI 0 n) (Gives.bnd e1 fun q eq => ?_) fun ks e => ?_
  · subst eq
    rw [if_pos (by rw [List.length_map, DVL.rngI_len]; exact hn)]
    exact (dnF_rng (fun j => by obtain ⟨ρ1, h1, h2⟩ := hg j; exact ⟨ρ1, h1, w_var h2 rfl⟩) n 0 [] fun _ z => nomatch z).mono fun ks e => e
  · subst e
    rw [if_pos ⟨ho, hl⟩]
    refine Gives.ret ?_
    show Q (.nx (ρ.set i (some (.m (ncS n fun _ => [])))))
    rw [er]
    exact p
def lkS (n : Nat) (ms : Int → List Int) (j : Int) : NC := ⟨some (DVL.rngI 0 n), (ncS n ms).xs.set j.toNat (.f ⟨false, tbK (ms j)⟩)⟩
theorem w_mgetL {ms : Int → List Int} {j k : Int} (e : ρ[i]? = some (some (.m (lkS n ms k)))) (ea : vget ρ a = some (.d (.int j))) (h0 : 0 ≤ j) (h1 : j < (n : Int)) (hk : 0 ≤ k) (hne : j ≠ k) (p : P (.gb ⟨false, tbK (ms j)⟩)) : Gives (eMGetD i (eVar a) ρ) P :=
  w_mgetD e rfl ea (mPos_rng h0 h1) (by
    show ((ncS n ms).xs.set k.toNat _)[j.toNat]? = _
    rw [List.getElem?_set_ne (by omega)]
    exact ncS_get h0 h1) p
theorem w_lcMd {vs : List Nat} {t : Env → M Bool} {el : Env → M RV} {ms : Int → List Int} {j : Int} (e : ρ[i]? = some (some (.m (ncS n ms)))) (ea : vget ρ a = some (.d (.int j))) (ho : onlyM ρ i = true) (hai : a ≠ i) (h0 : 0 ≤ j) (h1 : j < (n : Int)) (hl : (ms j).length ≤ 100000)
    (er : ρ.set i (some (.m (lkS n ms j))) = ρ') (p : KLc vs tg t el ρ' P ((ms j).map PyData.int, none)) : Gives (eLcM i a vs tg t el ρ) P := by
  unfold eLcM
  refine Gives.bnd (atM_S (C := fun z => z = (ncS n ms, j.toNat, ⟨false, tbK (ms j)⟩)) e ea h0 h1 rfl) fun z ez => ?_
  subst ez
  rw [if_pos ⟨ho, hai, by rw [tbK_len]; exact hl⟩]
  show Gives (eLc _ vs tg t el (ρ.set i (some (.m (lkS n ms j))))) P
  rw [er]
  refine w_lc (Gives.ret ?_)
  show KLc vs tg t el ρ' P ((tbK (ms j)).map (wkD .keys), none)
  rw [keysD_tbK]
  exact p
theorem w_ginK {l : List Int} {k : Int} (p : P (.d (.bool (decide (k ∈ l))))) : K2 (gGIn false) P (.d (.int k)) (.gb ⟨false, tbK l⟩) :=
  w_gin (M := uK l) kInt uD (key := k) rfl (by rw [getA_uK]; exact p)
end
def ssP (L : List (Int × Int)) : List (Int × Int) := (sortI (ddI (L.map cdP))).map fun c => (c / 64, c % 64)
theorem prsOf_map : ∀ L : List (Int × Int), prsOf (L.map DVL.pr) = some L
  | [] => rfl
  | p :: L => by
    rw [List.map_cons]
    unfold prsOf
    rw [prsOf_map L]
    rfl
theorem w_ssetP {ρ : Env} {f : Env → M RV} {P : RV → Prop} {L : List (Int × Int)} (hl : L.length < 64) (hb : ∀ p ∈ L, (0 ≤ p.1 ∧ p.1 < 64) ∧ 0 ≤ p.2 ∧ p.2 < 64) (p : Gives (f ρ) fun x => x = .d (DVL.prT L)) (q : P (.n ((ssP L).map DVL.pr))) : Gives (eSortSetP f ρ) P := by
  unfold eSortSetP
  refine Gives.bnd p fun x e => ?_
  subst e
  have e2 : sortSetPOf (.d (DVL.prT L)) = some (sortI (ddI (L.map cdP))) := by
    show (match prsOf (L.map DVL.pr) with
      | some ps => if ps.length < 64 ∧ ps.all pr64 = true then some (sortI (ddI (ps.map cdP))) else none
      | none => none) = _
    rw [prsOf_map]
    exact if_pos ⟨hl, List.all_eq_true.mpr fun p hp => decide_eq_true (by have := hb p hp; omega)⟩
  rw [e2, lft_s, bnd_ret]
  refine Gives.ret ?_
  have e3 : (sortI (ddI (L.map cdP))).map dcP = (ssP L).map DVL.pr := by
    unfold ssP
    rw [List.map_map]
    rfl
  rw [e3]
  exact q
theorem mem_ssP {L : List (Int × Int)} (hb : ∀ p ∈ L, (0 ≤ p.1 ∧ p.1 < 64) ∧ 0 ≤ p.2 ∧ p.2 < 64) {p : Int × Int} : p ∈ ssP L ↔ p ∈ L := by
  unfold ssP
  rw [List.mem_map]
  constructor
  · rintro ⟨c, hc, rfl⟩
    have := (mem_ddI c _).mp ((sortI_perm _).mem_iff.mp hc)
    obtain ⟨q, hq, rfl⟩ := List.mem_map.mp this
    have h := hb q hq
    have e : (cdP q / 64, cdP q % 64) = q := by
      unfold cdP
      refine Prod.ext ?_ ?_
      · show (q.1 * 64 + q.2) / 64 = q.1
        omega
      · show (q.1 * 64 + q.2) % 64 = q.2
        omega
    rw [e]
    exact hq
  · intro hp
    have h := hb p hp
    refine ⟨cdP p, (sortI_perm _).mem_iff.mpr ((mem_ddI _ _).mpr (List.mem_map.mpr ⟨p, hp, rfl⟩)), ?_⟩
    unfold cdP
    refine Prod.ext ?_ ?_
    · show (p.1 * 64 + p.2) / 64 = p.1
      omega
    · show (p.1 * 64 + p.2) % 64 = p.2
      omega
theorem ssP_up (L : List (Int × Int)) : (ssP L).Pairwise fun p q => cdP p < cdP q := by
  unfold ssP
  rw [List.pairwise_map]
  have h1 : (sortI (ddI (L.map cdP))).Pairwise (· ≤ ·) := sortI_sorted _
  have h2 : (sortI (ddI (L.map cdP))).Nodup := (sortI_perm _).nodup_iff.mpr (ddI_nodup _)
  refine (h1.and h2).imp fun {a b} ⟨x, y⟩ => ?_
  unfold cdP
  show a / 64 * 64 + a % 64 < b / 64 * 64 + b % 64
  have : a ≠ b := y
  omega
/-- one that stands in order is its own -/
theorem ssP_self {L : List (Int × Int)} (hb : ∀ p ∈ L, (0 ≤ p.1 ∧ p.1 < 64) ∧ 0 ≤ p.2 ∧ p.2 < 64) (h : L.Pairwise fun p q => cdP p < cdP q) : ssP L = L := by
  have e : sortI (ddI (L.map cdP)) = L.map cdP := by
    have hp : (L.map cdP).Pairwise (· < ·) := List.pairwise_map.mpr h
    have hn : (L.map cdP).Nodup := hp.imp fun x => Int.ne_of_lt x
    rw [ddI_of_nodup _ hn]
    exact sorted_uniq (sortI_perm _) (sortI_sorted _) (hp.imp fun x => Int.le_of_lt x)
  unfold ssP
  rw [e, List.map_map]
  conv => rhs; rw [← List.map_id L]
  refine List.map_congr_left fun q hq => ?_
  have h := hb q hq
  refine Prod.ext ?_ ?_
  · show (q.1 * 64 + q.2) / 64 = q.1
    omega
  · show (q.1 * 64 + q.2) % 64 = q.2
    omega
theorem ssP_len (L : List (Int × Int)) : (ssP L).length ≤ L.length := by
  unfold ssP
  rw [List.length_map, (sortI_perm _).length_eq]
  have := ddI_len (L.map cdP)
  rwa [List.length_map] at this
end DV

namespace DVL
open PySem L2 DV
local macro_rules
  | `(tactic| get_elem_tactic_trivial) => `(tactic| first
    | (simp only [List.set_cons_succ, List.set_cons_zero, DV.startE, DV.lawE, DV.toK, DV.lockE, DV.wipeE, List.map_cons, List.map_nil, List.length_cons, List.length_nil, List.replicate_zero, List.replicate_succ, Nat.reduceSub, Nat.reduceAdd, List.append_nil, List.cons_append, List.nil_append]; rfl)
    | exact rfl)
local macro_rules
  | `(tactic| infer_instance) => `(tactic| first
    | with_reducible refine DV.w_cons ?_
    | with_reducible refine DV.w_var (by with_unfolding_all exact rfl) ?_
    | with_reducible refine DV.w_c ?_
    | with_reducible refine DV.w_nil ?_
    | with_reducible refine DV.w_e2 ?_
    | with_reducible refine DV.w_seq ?_
    | with_reducible refine DV.w_seqN ?_
    | with_reducible refine DV.w_seqR ?_
    | with_reducible refine DV.w_seqB ?_
    | with_reducible refine DV.w_seqC ?_
    | with_reducible refine DV.w_call ?_
    | with_reducible refine DV.w_fn ?_
    | with_reducible refine DV.w_f1 ?_
    | with_reducible refine DV.w_f2 ?_
    | with_reducible refine DV.w_f3 ?_
    | with_reducible refine DV.w_f4 ?_
    | with_reducible refine DV.w_f5 ?_
    | with_reducible refine DV.w_f6 ?_
    | with_reducible refine DV.w_set ?_
    | with_reducible refine DV.w_setApp ?_
    | with_reducible refine DV.w_setX (by with_unfolding_all exact rfl) (by with_unfolding_all (simp only [List.set_cons_succ, List.set_cons_zero]; rfl)) ?_
    | with_reducible refine DV.w_rt ?_
    | with_reducible refine DV.w_rtD ?_
    | with_reducible refine DV.w_rtN ?_
    | with_reducible refine DV.w_rtV (by with_unfolding_all exact rfl) ?_
    | with_reducible refine DV.w_if ?_
    | with_reducible refine DV.w_drop ?_
    | with_reducible refine DV.w_nop ?_
    | with_reducible refine DV.w_T ?_
    | with_reducible refine DV.w_B ?_
    | with_reducible refine DV.w_not ?_
    | with_reducible refine DV.w_and ?_
    | with_reducible refine DV.w_or ?_
    | with_reducible refine DV.w_ifT ?_
    | with_reducible refine DV.w_ifF ?_
    | with_reducible refine DV.w_ifNT ?_
    | with_reducible refine DV.w_ifNF ?_
    | with_reducible refine DV.w_stup ?_
    | with_reducible refine DV.w_stupD (by with_unfolding_all (simp only [DV.wipeE, DV.gTupF, DV.gMore, DV.gNone, DV.gNm, List.set_cons_succ, List.set_cons_zero, List.length]; rfl)) ?_
    | with_reducible refine DV.w_aug (by with_unfolding_all exact rfl) ?_
    | with_reducible refine DV.w_I ?_
    | with_reducible refine DV.w_app (by with_unfolding_all exact rfl) (by simp only [List.length_map]; omega) ?_
    | with_reducible refine DV.w_D ?_
    | with_reducible refine DV.w_for ?_
    | with_reducible refine DV.w_lc ?_
    | with_reducible refine DV.w_par ?_
    | with_reducible refine DV.w_par3 ?_
    | with_reducible refine DV.w_par4 ?_
    | with_reducible refine DV.w_parX (by with_unfolding_all exact rfl) (by with_unfolding_all exact rfl) (by with_unfolding_all (simp only [List.set_cons_succ, List.set_cons_zero]; rfl)) ?_
    | with_reducible refine DV.w_par3X (by with_unfolding_all exact rfl) (by with_unfolding_all exact rfl) (by with_unfolding_all exact rfl) (by with_unfolding_all (simp only [List.set_cons_succ, List.set_cons_zero]; rfl)) ?_
    | with_reducible refine DV.w_par4X (by with_unfolding_all exact rfl) (by with_unfolding_all exact rfl) (by with_unfolding_all exact rfl) (by with_unfolding_all exact rfl) (by with_unfolding_all (simp only [List.set_cons_succ, List.set_cons_zero]; rfl)) ?_
    | with_reducible refine DV.w_tup ?_
    | with_reducible refine DV.w_lst ?_
    | with_reducible refine DV.w_tu (by with_unfolding_all exact rfl) (by with_unfolding_all exact Nat.le_of_ble_eq_true rfl) ?_
    | with_reducible refine DV.w_ls (by with_unfolding_all exact rfl) (by with_unfolding_all exact Nat.le_of_ble_eq_true rfl) ?_
    | with_reducible refine DV.w_neg ?_
    | with_reducible refine DV.w_ifB ?_
    | with_reducible refine DV.w_ifE ?_
    | with_reducible refine DV.w_notB ?_
    | with_reducible refine DV.w_tt ?_
    | with_reducible refine DV.w_ch ?_
    | with_reducible refine DV.w_add ?_
    | with_reducible refine DV.w_sub ?_
    | with_reducible refine DV.w_mul (by first | omega | (left; constructor <;> omega) | (right; constructor <;> omega)) ?_
    | with_reducible refine DV.w_mod (by omega) ?_
    | with_reducible refine DV.w_div (by omega) ?_
    | with_reducible refine DV.w_lt ?_
    | with_reducible refine DV.w_le ?_
    | with_reducible refine DV.w_gt ?_
    | with_reducible refine DV.w_ge ?_
    | with_reducible refine DV.w_ltA ?_
    | with_reducible refine DV.w_leA ?_
    | with_reducible refine DV.w_gtA ?_
    | with_reducible refine DV.w_geA ?_
    | with_reducible refine DV.w_eq ?_
    | with_reducible refine DV.w_ne ?_
    | with_reducible refine DV.w_eqB ?_
    | with_reducible refine DV.w_neB ?_
    | with_reducible refine DV.w_eqN ?_
    | with_reducible refine DV.w_neN ?_
    | with_reducible refine DV.w_eqN0 ?_
    | with_reducible refine DV.w_neN0 ?_
    | with_reducible refine DV.w_in ?_
    | with_reducible refine DV.w_inB ?_
    | with_reducible refine DV.w_notIn ?_
    | with_reducible refine DV.w_notInB ?_
    | with_reducible refine DV.w_ix0 ?_
    | with_reducible refine DV.w_ix1 ?_
    | with_reducible refine DV.w_ix (by omega) ?_
    | with_reducible refine DV.w_ixB (by omega) ?_
    | with_reducible refine DV.w_len ?_
    | with_reducible refine DV.w_lenB ?_
    | with_reducible refine DV.w_lenN ?_
    | with_reducible refine DV.w_lenM ?_
    | with_reducible refine DV.w_lenMB ?_
    | with_reducible refine DV.w_lenMN ?_
    | with_reducible refine DV.w_lenD ?_
    | with_reducible refine DV.w_lenDB ?_
    | with_reducible refine DV.w_lenDN ?_
    | with_reducible refine DV.w_tupN ?_
    | with_reducible refine DV.w_tupB ?_
    | with_reducible refine DV.w_tupD ?_
    | with_reducible refine DV.w_lstD ?_
    | with_reducible refine DV.w_lstB ?_
    | with_reducible refine DV.w_lstN ?_
    | with_reducible refine DV.w_sum ?_
    | with_reducible refine DV.w_sumN ?_
    | with_reducible refine DV.w_sumB ?_
    | with_reducible refine DV.w_max2 ?_
    | with_reducible refine DV.w_min2 ?_
    | with_reducible refine DV.w_int ?_
    | with_reducible refine DV.w_sort ?_
    | with_reducible refine DV.w_sortN ?_
    | with_reducible refine DV.w_sortB ?_
    | with_reducible refine DV.w_rep (by omega) ?_
    | with_reducible refine DV.w_repN (by omega) ?_
    | with_reducible refine DV.w_moveG (by with_unfolding_all exact rfl) (by with_unfolding_all (simp only [List.set_cons_succ, List.set_cons_zero]; rfl)) ?_
    | with_reducible refine DV.w_moveO (by with_unfolding_all exact rfl) (by with_unfolding_all (simp only [List.set_cons_succ, List.set_cons_zero]; rfl)) ?_
    | with_reducible refine DV.w_moveD (by with_unfolding_all exact rfl) (by with_unfolding_all (simp only [List.set_cons_succ, List.set_cons_zero]; rfl)) ?_
    | with_reducible refine DV.w_catTI (by (try simp only [List.length_append, List.length_take, List.length_drop, List.length_cons, List.length_nil]); omega) ?_
    | with_reducible refine DV.w_catT1 (by (try simp only [List.length_append, List.length_take, List.length_drop, List.length_cons, List.length_nil]); omega) ?_
    | with_reducible refine DV.w_listG ?_
    | with_reducible refine DV.w_sortK ?_
    | with_reducible refine DV.w_colS ?_
    | with_reducible refine DV.w_itT ?_
    | with_reducible refine DV.w_itB ?_
    | with_reducible refine DV.w_itN ?_
    | with_reducible refine DV.w_colR ?_
    | with_reducible refine DV.w_colRN (by omega) ?_
    | with_reducible refine DV.w_ext (by with_unfolding_all exact rfl) ?_
    | with_reducible refine DV.w_lc2 ?_
    | with_reducible refine DV.w_isT ?_
    | with_reducible refine DV.w_isNN ?_
    | with_reducible refine DV.w_isNI ?_
    | with_reducible refine DV.w_isNT ?_
    | with_reducible refine DV.w_ntNN ?_
    | with_reducible refine DV.w_ntNI ?_
    | with_reducible refine DV.w_ntNT ?_
    | with_reducible refine DV.w_repND (by omega) ?_
    | with_reducible refine DV.w_put (by with_unfolding_all exact rfl) ?_
    | with_reducible refine DV.w_putI (by (try simp only [List.length_set, List.length_replicate, List.length_map]); omega) ?_
    | with_reducible refine DV.w_eqB0 ?_
    | with_reducible refine DV.w_neB0 ?_
    | with_reducible refine DV.w_eqBB ?_
    | with_reducible refine DV.w_neBB ?_
    | with_reducible refine DV.w_eqNB ?_
    | with_reducible refine DV.w_neNB ?_
    | with_reducible refine DV.w_eqBN ?_
    | with_reducible refine DV.w_neBN ?_
    | with_reducible refine DV.w_eqT0 ?_
    | with_reducible refine DV.w_neT0 ?_
    | with_reducible refine DV.w_eqT ?_
    | with_reducible refine DV.w_neT ?_
    | with_reducible refine DV.w_gget ?_
    | with_reducible refine DV.w_dc ?_
    | with_reducible refine DV.w_dcN ?_
    | with_reducible refine DV.w_G ?_
    | with_reducible refine DV.w_gput ?_
    | with_reducible refine DV.w_gnew ?_
    | with_reducible refine DV.w_g1 ?_
    | with_reducible refine DV.w_ret ?_
    | with_reducible refine DV.w_slice ?_
    | with_reducible refine DV.w_part ?_
    | with_reducible refine DV.w_slToI (by omega) ?_
    | with_reducible refine DV.w_slFromI (by omega) ?_
    | with_reducible refine DV.w_slToBI (by omega) ?_
    | with_reducible refine DV.w_slFromBI (by omega) ?_
    | with_reducible refine DV.w_star ?_
    | with_reducible refine DV.w_starT ?_
    | with_reducible refine DV.w_starB ?_
    | with_reducible refine DV.w_starN ?_
    | with_reducible refine DV.w_ixR (by omega) ?_
    | with_reducible refine DV.w_ixRB (by omega) ?_
    | with_reducible refine DV.w_lrg ?_
    | with_reducible refine DV.w_trg ?_
    | with_reducible refine DV.w_rg (by omega) ?_
    | with_reducible refine DV.w_enum ?_
    | with_reducible refine DV.w_zip ?_
    | with_reducible refine DV.w_zip3 ?_
    | with_reducible refine DV.w_step ?_
    | with_reducible refine DV.w_stepB (by omega) ?_
    | with_reducible refine DV.w_srev ?_
    | with_reducible refine DV.w_srevT ?_
    | with_reducible refine DV.w_isTT ?_
    | with_reducible refine DV.w_ntTT ?_
    | with_reducible refine DV.w_isFT ?_
    | with_reducible refine DV.w_ntFT ?_
    | with_reducible refine DV.w_isTF ?_
    | with_reducible refine DV.w_ntTF ?_
    | with_reducible refine DV.w_isFF ?_
    | with_reducible refine DV.w_ntFF ?_
    | with_reducible refine DV.w_ixS (by omega) ?_
    | with_reducible refine DV.w_ix2 ?_
    | with_reducible refine DV.w_gget2 ?_
    | with_reducible refine DV.w_notInTs ?_
    | with_reducible refine DV.w_inTs ?_
    | with_reducible refine DV.w_inTsN ?_
    | with_reducible refine DV.w_sset ?_
    | with_reducible refine DV.w_ssetU (by omega) (by assumption) ?_
    | with_reducible refine DV.w_met ?_
    | with_reducible refine DV.w_itL ?_
    | with_reducible refine DV.w_two ?_
    | with_reducible refine DV.w_twoX ?_
    | with_reducible refine DV.w_neS ?_
    | with_reducible refine DV.w_eqS ?_
    | with_reducible refine DV.w_rev ?_
    | with_reducible refine DV.w_revN ?_
    | with_reducible refine DV.w_lset ?_
    | with_reducible refine DV.w_isNL ?_
    | with_reducible refine DV.w_isBL ?_
    | with_reducible refine DV.w_ntNL ?_
    | with_reducible refine DV.w_ntBL ?_
    | with_reducible refine DV.w_abs ?_
    | with_reducible refine DV.w_neBl ?_
    | with_reducible refine DV.w_eqBl ?_
    | with_reducible refine DV.w_eqIP ?_
    | with_reducible refine DV.w_neIP ?_
    | with_reducible refine DV.w_ix3 ?_
    | with_reducible refine DVR.w_neW ?_
    | with_reducible refine DVR.w_ixL (by omega) ?_
    | with_reducible refine DV.w_dcomp ?_
    | with_reducible refine DV.w_intB ?_
    | with_reducible refine DV.w_augIx (by with_unfolding_all exact rfl) ?_
    | with_reducible refine DV.w_inN ?_
    | with_reducible refine DV.w_notInN ?_
    | with_reducible refine DV.w_srcE ?_
    | with_reducible refine DV.w_srcV (by with_unfolding_all exact rfl) ?_
    | with_reducible refine DV.w_src (by with_unfolding_all exact rfl) ?_
    | with_reducible refine DV.w_rng1 ?_
    | with_reducible refine DV.w_rng2 ?_
    | with_reducible refine DV.w_rng2I (by omega) ?_
    | with_reducible refine DV.w_rngN (by omega) ?_
    | with_reducible refine DV.w_rngI (by omega) ?_
    | with_reducible refine DV.w_loopN ?_
    | with_reducible refine DV.w_loopC ?_
    | with_reducible refine DV.w_loopB ?_
    | with_reducible refine DV.w_loopR ?_
    | with_reducible refine DV.w_runN ?_
    | with_reducible refine DV.w_runR ?_
    | with_reducible refine DV.w_tg (by with_unfolding_all (simp only [DV.lockE, DV.unlockE, List.getElem?_cons_succ, List.getElem?_cons_zero, DV.wipeE, DV.gTupF, DV.gMore, DV.gNone, DV.gNm, List.set_cons_succ, List.set_cons_zero, List.length]; rfl)) ?_)
local macro_rules
  | `(tactic| infer_instance) => `(tactic| first
    | with_reducible refine DV.w_body2 (by with_unfolding_all exact rfl) ?_
    | with_reducible refine DV.w_krt ?_
    | with_reducible refine DV.w_seqM ?_
    | with_reducible refine DV.w_kseqM ?_
    | with_reducible refine DV.w_retM (by with_unfolding_all exact rfl) ?_
    | with_reducible refine DV.w_setM ?_
    | with_reducible refine DV.w_setM2 ?_
    | with_reducible refine DV.w_for2 ?_
    | with_reducible refine DV.w_dat ?_
    | with_reducible refine DV.w_datT ?_
    | with_reducible refine DV.w_datR ?_)
/-- b must be behind a -/
inductive Fl (P : List (Int × Int)) : Int → Int → Prop where
  | one {a b : Int} : (a, b) ∈ P → Fl P a b
  | step {a b c : Int} : (a, b) ∈ P → Fl P b c → Fl P a c
section
variable {n : Nat} {P T : List (Int × Int)} {a b c j : Int}
theorem Fl.iff : Fl P j b ↔ ∃ p ∈ P, p.1 = j ∧ (b = p.2 ∨ Fl P p.2 b) := by
  constructor
  · intro h
    cases h with
    | one h => exact ⟨(j, b), h, rfl, .inl rfl⟩
    | @step _ x _ h t => exact ⟨(j, x), h, rfl, .inr t⟩
  · rintro ⟨⟨x, y⟩, hp, rfl, h⟩
    rcases h with h | h
    · have h : b = y := h
      subst h
      exact .one hp
    · exact .step hp h
theorem Fl.trans (h1 : Fl P a b) (h2 : Fl P b c) : Fl P a c := by
  induction h1 with
  | one h => exact .step h h2
  | step h _ ih => exact .step h (ih h2)
theorem Fl.mono (e : ∀ p ∈ T, p ∈ P) (h : Fl T a b) : Fl P a b := by
  induction h with
  | one h => exact .one (e _ h)
  | step h _ ih => exact .step (e _ h) ih
theorem Fl.rk {rk : Int → Nat} (hr : ∀ p ∈ P, rk p.1 < rk p.2) (h : Fl P a b) : rk a < rk b := by
  induction h with
  | one h => exact hr _ h
  | step h _ ih => exact Nat.lt_trans (hr _ h) ih
theorem Fl.rg (G : Prs n P) (h : Fl P a b) : (0 ≤ a ∧ a < (n : Int)) ∧ 0 ≤ b ∧ b < (n : Int) := by
  induction h with
  | one h => exact G.rg _ h
  | step h _ ih => exact ⟨(G.rg _ h).1, ih.2⟩
theorem Fl.ne (G : Prs n P) (h : Fl P a b) : a ≠ b := fun e => by
  obtain ⟨rk, hr⟩ := G.ac
  have := h.rk hr
  rw [e] at this
  omega
def g_clo : DV.Env → M NC :=
  (sSeqM (sNewD 2 (iRng1F (eVar 1)) [3] (gNm 3) (eVar 3))
  (sSeqM (sFor2 (iDatR (eFn (fun xs => if xs.length = 2 then m_fo xs else fail) (aCons (eVar 0) (aCons (eVar 1) aNil)))) (gNm 3) (sFor2 (iDat (eVar 0)) (gTupF 2 (gMore (gNm 4) (gMore (gNm 5) gNone))) (sIf (eT (e2 gEq (eVar 4) (eVar 3))) (sSeq (sMPut 2 (eC (.bool true)) (eVar 3) (eVar 5))
  (sMUpd 2 (eVar 3) (eVar 5))) sNil)))
  (sRetM 2)))
def m_clo : List RV → M NC := runDefM 6 g_clo
/-- the sets of those behind each -/
def Clo (n : Nat) (P : List (Int × Int)) (ms : Int → List Int) : Prop := ∀ j, 0 ≤ j → j < (n : Int) → (ms j).Nodup ∧ ∀ b, b ∈ ms j ↔ Fl P j b
theorem le_of_rg {l : List Int} (h : l.Nodup) (r : ∀ b ∈ l, 0 ≤ b ∧ b < (n : Int)) : l.length ≤ n := by
  have := List.Nodup.length_le_of_subset h (l₂ := rngI 0 n) fun b hb => (mem_rngI ..).mpr (by have := r b hb; omega)
  rwa [rngI_len] at this
theorem Clo.len {ms : Int → List Int} (G : Prs n P) (h : Clo n P ms) (h0 : 0 ≤ j) (h1 : j < (n : Int)) : (ms j).length ≤ n :=
  le_of_rg (h j h0 h1).1 fun b hb => ((((h j h0 h1).2 b).mp hb).rg G).2
theorem clo_gives (hn : n ≤ 1000) (G : Prs n P) : DV.Gives (m_clo [.d (prT P), .d (.int (n : Nat))]) fun c => ∃ ms, c = ncS n ms ∧ Clo n P ms := by
  have hP := G.len
  unfold m_clo
  refine DV.w_runM (by get_elem_tactic_trivial) ?_
  unfold g_clo
  repeat infer_instance
  refine w_newD (n := n) (nn := 0) (by rfl) (by omega) (fun j => ⟨_, rfl, rfl⟩) rfl (by simp) rfl ?_
  repeat infer_instance
  refine w_use (first_order_gives hn G) fun r ⟨q, e, hperm, hord⟩ => ?_
  subst e
  have hpre : Pre P n q := Pre.of hperm hord
  repeat infer_instance
  rw [← List.map_reverse]
  refine w_loop0 (fun rest ρ => ∃ (dn : List Int) (ms : Int → List Int) (y3 y4 y5 : Option SV), q = rest.reverse ++ dn ∧ (∀ j ∈ dn, (ms j).Nodup ∧ ∀ b, b ∈ ms j ↔ Fl P j b) ∧ (∀ j, j ∉ dn → ms j = []) ∧ ρ = [some (.d (prT P)), some (.d (.int (n : Nat))), some (.m (ncS n ms)), y3, y4, y5]) ⟨[], fun _ => [], _, _, _, by rw [List.reverse_reverse, List.append_nil], (fun _ z => nomatch z), fun _ _ => rfl, rfl⟩ ?_ ?_
  · rintro j rest ρ ⟨dn, ms, y3, y4, y5, hq, hdn, hno, rfl⟩
    have hq2 : q = rest.reverse ++ j :: dn := by rw [hq, List.reverse_cons, List.append_assoc]; rfl
    have hjr := hpre.rg j (by rw [hq2]; exact List.mem_append_right _ List.mem_cons_self)
    have nd := hpre.nd
    rw [hq2] at nd
    obtain ⟨nd1, nd2, nd3⟩ := List.nodup_append.mp nd
    have hjd : j ∉ dn := (List.nodup_cons.mp nd2).1
    have after : ∀ p ∈ P, p.1 = j → p.2 ∈ dn := fun p hp e => by
      obtain ⟨_, r2⟩ := G.rg p hp
      have hm : p.2 ∈ q := hperm.mem_iff.mpr ((mem_rngI ..).mpr (by omega))
      rw [hq2] at hm
      rcases List.mem_append.mp hm with z | z
      · obtain ⟨A, B, eA⟩ := List.append_of_mem z
        have h1 := hord A p.2 (B ++ j :: dn) (by rw [hq2, eA, List.append_assoc]; rfl) p hp rfl
        rw [e] at h1
        exact absurd rfl (nd3 j (by rw [eA]; exact List.mem_append_left _ h1) j List.mem_cons_self)
      · rcases List.mem_cons.mp z with z | z
        · have h1 := hord rest.reverse j dn hq2 p hp z
          rw [e] at h1
          exact absurd rfl (nd3 j h1 j List.mem_cons_self)
        · exact z
    repeat infer_instance
    refine w_loop0 (fun rest2 ρ => ∃ (us : List (Int × Int)) (ms : Int → List Int) (y4 y5 : Option SV), P = us ++ rest2 ∧ (∀ j ∈ dn, (ms j).Nodup ∧ ∀ b, b ∈ ms j ↔ Fl P j b) ∧ (∀ i, i ∉ dn → i ≠ j → ms i = []) ∧ (ms j).Nodup ∧ (∀ b, b ∈ ms j ↔ ∃ p ∈ us, p.1 = j ∧ (b = p.2 ∨ Fl P p.2 b)) ∧ ρ = [some (.d (prT P)), some (.d (.int (n : Nat))), some (.m (ncS n ms)), some (.d (.int j)), y4, y5])
      ⟨[], ms, _, _, rfl, hdn, fun i h _ => hno i h, by rw [hno j hjd]; exact List.nodup_nil, fun b => by rw [hno j hjd]; simp, rfl⟩ ?_ ?_
    · rintro p rest2 ρ ⟨us, ms, y4, y5, hu, hdn, hno, hnd, hms, rfl⟩
      have hp : p ∈ P := by rw [hu]; exact List.mem_append_right _ List.mem_cons_self
      obtain ⟨r1, r2⟩ := G.rg p hp
      have hu2 : P = (us ++ [p]) ++ rest2 := by rw [hu, List.append_assoc]; rfl
      have hjl : (ms j).length ≤ n := le_of_rg hnd fun b hb => by
        obtain ⟨x, hx, e, z⟩ := (hms b).mp hb
        have hxP : x ∈ P := by rw [hu]; exact List.mem_append_left _ hx
        rcases z with z | z
        · rw [z]; exact (G.rg x hxP).2
        · exact (z.rg G).2
      repeat infer_instance
      refine w_dec (fun h => ?_) (fun h => ?_)
      · have h2 := after p hp h
        have h2j : j ≠ p.2 := fun e => hjd (e ▸ h2)
        obtain ⟨m1, m2⟩ := hdn p.2 h2
        have hl2 : (ms p.2).length ≤ n := le_of_rg m1 fun b hb => (((m2 b).mp hb).rg G).2
        repeat infer_instance
        refine w_mput (n := n) (ms := ms) (j := j) (k := p.2) rfl rfl rfl rfl hjr.1 hjr.2 (by omega) rfl ?_
        have hal : (adK (ms j) p.2).length ≤ n + 1 := by
          unfold adK
          split
          · omega
          · rw [List.length_append, List.length_singleton]; omega
        repeat infer_instance
        refine w_mupd (n := n) (ms := upM ms j (adK (ms j) p.2)) (j := j) (k := p.2) rfl rfl rfl rfl hjr.1 hjr.2 r2.1 r2.2 h2j (by rw [upM_at, upM_ne (Ne.symm h2j)]; omega) rfl ?_
        rw [upM_at, upM_ne (Ne.symm h2j)]
        repeat infer_instance
        refine ⟨us ++ [p], _, _, _, hu2, fun i hi => ?_, fun i hi hij => ?_, ?_, fun b => ?_, rfl⟩
        · have hij : i ≠ j := fun e => hjd (e ▸ hi)
          rw [upM_ne hij, upM_ne hij]
          exact hdn i hi
        · rw [upM_ne hij, upM_ne hij]
          exact hno i hi hij
        · rw [upM_at]
          exact insF_nodup (adK_nodup hnd)
        · rw [upM_at, mem_insF, mem_adK, hms b, m2 b]
          constructor
          · rintro ((⟨x, hx, z⟩ | z) | z)
            · exact ⟨x, List.mem_append_left _ hx, z⟩
            · exact ⟨p, List.mem_append_right _ List.mem_cons_self, h, .inl z⟩
            · exact ⟨p, List.mem_append_right _ List.mem_cons_self, h, .inr z⟩
          · rintro ⟨x, hx, e, z⟩
            rcases List.mem_append.mp hx with hx | hx
            · exact .inl (.inl ⟨x, hx, e, z⟩)
            · cases List.mem_singleton.mp hx
              rcases z with z | z
              · exact .inl (.inr z)
              · exact .inr z
      · repeat infer_instance
        refine ⟨us ++ [p], ms, _, _, hu2, hdn, hno, hnd, fun b => (hms b).trans ⟨?_, ?_⟩, rfl⟩
        · rintro ⟨x, hx, z⟩
          exact ⟨x, List.mem_append_left _ hx, z⟩
        · rintro ⟨x, hx, e, z⟩
          rcases List.mem_append.mp hx with hx | hx
          · exact ⟨x, hx, e, z⟩
          · cases List.mem_singleton.mp hx
            exact absurd e h
    · rintro ρ ⟨us, ms, y4, y5, hu, hdn, hno, hnd, hms, rfl⟩
      rw [List.append_nil] at hu
      subst hu
      repeat infer_instance
      refine ⟨j :: dn, ms, _, _, _, hq2, fun i hi => ?_, fun i hi => hno i (fun z => hi (List.mem_cons_of_mem _ z)) fun z => hi (by rw [z]; exact List.mem_cons_self), rfl⟩
      rcases List.mem_cons.mp hi with z | z
      · subst z
        exact ⟨hnd, fun b => (hms b).trans Fl.iff.symm⟩
      · exact hdn i z
  · rintro ρ ⟨dn, ms, y3, y4, y5, hq, hdn, hno, rfl⟩
    have hq : q = dn := by rw [hq]; rfl
    subst hq
    repeat infer_instance
    exact ⟨ms, rfl, fun j h0 h1 => hdn j (hperm.mem_iff.mpr ((mem_rngI ..).mpr (by omega)))⟩
end
end DVL

namespace DVL
open PySem L2 DV
local macro_rules
  | `(tactic| get_elem_tactic_trivial) => `(tactic| first
    | (simp only [List.set_cons_succ, List.set_cons_zero, DV.startE, DV.lawE, DV.toK, DV.lockE, DV.wipeE, List.map_cons, List.map_nil, List.length_cons, List.length_nil, List.replicate_zero, List.replicate_succ, Nat.reduceSub, Nat.reduceAdd, List.append_nil, List.cons_append, List.nil_append]; rfl)
    | exact rfl)
local macro_rules
  | `(tactic| infer_instance) => `(tactic| first
    | with_reducible refine DV.w_cons ?_
    | with_reducible refine DV.w_var (by with_unfolding_all exact rfl) ?_
    | with_reducible refine DV.w_c ?_
    | with_reducible refine DV.w_nil ?_
    | with_reducible refine DV.w_e2 ?_
    | with_reducible refine DV.w_seq ?_
    | with_reducible refine DV.w_seqN ?_
    | with_reducible refine DV.w_seqR ?_
    | with_reducible refine DV.w_seqB ?_
    | with_reducible refine DV.w_seqC ?_
    | with_reducible refine DV.w_call ?_
    | with_reducible refine DV.w_fn ?_
    | with_reducible refine DV.w_f1 ?_
    | with_reducible refine DV.w_f2 ?_
    | with_reducible refine DV.w_f3 ?_
    | with_reducible refine DV.w_f4 ?_
    | with_reducible refine DV.w_f5 ?_
    | with_reducible refine DV.w_f6 ?_
    | with_reducible refine DV.w_set ?_
    | with_reducible refine DV.w_setApp ?_
    | with_reducible refine DV.w_setX (by with_unfolding_all exact rfl) (by with_unfolding_all (simp only [List.set_cons_succ, List.set_cons_zero]; rfl)) ?_
    | with_reducible refine DV.w_rt ?_
    | with_reducible refine DV.w_rtD ?_
    | with_reducible refine DV.w_rtN ?_
    | with_reducible refine DV.w_rtV (by with_unfolding_all exact rfl) ?_
    | with_reducible refine DV.w_if ?_
    | with_reducible refine DV.w_drop ?_
    | with_reducible refine DV.w_nop ?_
    | with_reducible refine DV.w_T ?_
    | with_reducible refine DV.w_B ?_
    | with_reducible refine DV.w_not ?_
    | with_reducible refine DV.w_and ?_
    | with_reducible refine DV.w_or ?_
    | with_reducible refine DV.w_ifT ?_
    | with_reducible refine DV.w_ifF ?_
    | with_reducible refine DV.w_ifNT ?_
    | with_reducible refine DV.w_ifNF ?_
    | with_reducible refine DV.w_stup ?_
    | with_reducible refine DV.w_stupD (by with_unfolding_all (simp only [DV.wipeE, DV.gTupF, DV.gMore, DV.gNone, DV.gNm, List.set_cons_succ, List.set_cons_zero, List.length]; rfl)) ?_
    | with_reducible refine DV.w_aug (by with_unfolding_all exact rfl) ?_
    | with_reducible refine DV.w_I ?_
    | with_reducible refine DV.w_app (by with_unfolding_all exact rfl) (by simp only [List.length_map]; omega) ?_
    | with_reducible refine DV.w_D ?_
    | with_reducible refine DV.w_for ?_
    | with_reducible refine DV.w_lc ?_
    | with_reducible refine DV.w_par ?_
    | with_reducible refine DV.w_par3 ?_
    | with_reducible refine DV.w_par4 ?_
    | with_reducible refine DV.w_parX (by with_unfolding_all exact rfl) (by with_unfolding_all exact rfl) (by with_unfolding_all (simp only [List.set_cons_succ, List.set_cons_zero]; rfl)) ?_
    | with_reducible refine DV.w_par3X (by with_unfolding_all exact rfl) (by with_unfolding_all exact rfl) (by with_unfolding_all exact rfl) (by with_unfolding_all (simp only [List.set_cons_succ, List.set_cons_zero]; rfl)) ?_
    | with_reducible refine DV.w_par4X (by with_unfolding_all exact rfl) (by with_unfolding_all exact rfl) (by with_unfolding_all exact rfl) (by with_unfolding_all exact rfl) (by with_unfolding_all (simp only [List.set_cons_succ, List.set_cons_zero]; rfl)) ?_
    | with_reducible refine DV.w_tup ?_
    | with_reducible refine DV.w_lst ?_
    | with_reducible refine DV.w_tu (by with_unfolding_all exact rfl) (by with_unfolding_all exact Nat.le_of_ble_eq_true rfl) ?_
    | with_reducible refine DV.w_ls (by with_unfolding_all exact rfl) (by with_unfolding_all exact Nat.le_of_ble_eq_true rfl) ?_
    | with_reducible refine DV.w_neg ?_
    | with_reducible refine DV.w_ifB ?_
    | with_reducible refine DV.w_ifE ?_
    | with_reducible refine DV.w_notB ?_
    | with_reducible refine DV.w_tt ?_
    | with_reducible refine DV.w_ch ?_
    | with_reducible refine DV.w_add ?_
    | with_reducible refine DV.w_sub ?_
    | with_reducible refine DV.w_mul (by first | omega | (left; constructor <;> omega) | (right; constructor <;> omega)) ?_
    | with_reducible refine DV.w_mod (by omega) ?_
    | with_reducible refine DV.w_div (by omega) ?_
    | with_reducible refine DV.w_lt ?_
    | with_reducible refine DV.w_le ?_
    | with_reducible refine DV.w_gt ?_
    | with_reducible refine DV.w_ge ?_
    | with_reducible refine DV.w_ltA ?_
    | with_reducible refine DV.w_leA ?_
    | with_reducible refine DV.w_gtA ?_
    | with_reducible refine DV.w_geA ?_
    | with_reducible refine DV.w_eq ?_
    | with_reducible refine DV.w_ne ?_
    | with_reducible refine DV.w_eqB ?_
    | with_reducible refine DV.w_neB ?_
    | with_reducible refine DV.w_eqN ?_
    | with_reducible refine DV.w_neN ?_
    | with_reducible refine DV.w_eqN0 ?_
    | with_reducible refine DV.w_neN0 ?_
    | with_reducible refine DV.w_in ?_
    | with_reducible refine DV.w_inB ?_
    | with_reducible refine DV.w_notIn ?_
    | with_reducible refine DV.w_notInB ?_
    | with_reducible refine DV.w_ix0 ?_
    | with_reducible refine DV.w_ix1 ?_
    | with_reducible refine DV.w_ix (by omega) ?_
    | with_reducible refine DV.w_ixB (by omega) ?_
    | with_reducible refine DV.w_len ?_
    | with_reducible refine DV.w_lenB ?_
    | with_reducible refine DV.w_lenN ?_
    | with_reducible refine DV.w_lenM ?_
    | with_reducible refine DV.w_lenMB ?_
    | with_reducible refine DV.w_lenMN ?_
    | with_reducible refine DV.w_lenD ?_
    | with_reducible refine DV.w_lenDB ?_
    | with_reducible refine DV.w_lenDN ?_
    | with_reducible refine DV.w_tupN ?_
    | with_reducible refine DV.w_tupB ?_
    | with_reducible refine DV.w_tupD ?_
    | with_reducible refine DV.w_lstD ?_
    | with_reducible refine DV.w_lstB ?_
    | with_reducible refine DV.w_lstN ?_
    | with_reducible refine DV.w_sum ?_
    | with_reducible refine DV.w_sumN ?_
    | with_reducible refine DV.w_sumB ?_
    | with_reducible refine DV.w_max2 ?_
    | with_reducible refine DV.w_min2 ?_
    | with_reducible refine DV.w_int ?_
    | with_reducible refine DV.w_sort ?_
    | with_reducible refine DV.w_sortN ?_
    | with_reducible refine DV.w_sortB ?_
    | with_reducible refine DV.w_rep (by omega) ?_
    | with_reducible refine DV.w_repN (by omega) ?_
    | with_reducible refine DV.w_moveG (by with_unfolding_all exact rfl) (by with_unfolding_all (simp only [List.set_cons_succ, List.set_cons_zero]; rfl)) ?_
    | with_reducible refine DV.w_moveO (by with_unfolding_all exact rfl) (by with_unfolding_all (simp only [List.set_cons_succ, List.set_cons_zero]; rfl)) ?_
    | with_reducible refine DV.w_moveD (by with_unfolding_all exact rfl) (by with_unfolding_all (simp only [List.set_cons_succ, List.set_cons_zero]; rfl)) ?_
    | with_reducible refine DV.w_catTI (by (try simp only [List.length_append, List.length_take, List.length_drop, List.length_cons, List.length_nil]); omega) ?_
    | with_reducible refine DV.w_catT1 (by (try simp only [List.length_append, List.length_take, List.length_drop, List.length_cons, List.length_nil]); omega) ?_
    | with_reducible refine DV.w_listG ?_
    | with_reducible refine DV.w_sortK ?_
    | with_reducible refine DV.w_colS ?_
    | with_reducible refine DV.w_itT ?_
    | with_reducible refine DV.w_itB ?_
    | with_reducible refine DV.w_itN ?_
    | with_reducible refine DV.w_colR ?_
    | with_reducible refine DV.w_colRN (by omega) ?_
    | with_reducible refine DV.w_ext (by with_unfolding_all exact rfl) ?_
    | with_reducible refine DV.w_lc2 ?_
    | with_reducible refine DV.w_isT ?_
    | with_reducible refine DV.w_isNN ?_
    | with_reducible refine DV.w_isNI ?_
    | with_reducible refine DV.w_isNT ?_
    | with_reducible refine DV.w_ntNN ?_
    | with_reducible refine DV.w_ntNI ?_
    | with_reducible refine DV.w_ntNT ?_
    | with_reducible refine DV.w_repND (by omega) ?_
    | with_reducible refine DV.w_put (by with_unfolding_all exact rfl) ?_
    | with_reducible refine DV.w_putI (by (try simp only [List.length_set, List.length_replicate, List.length_map]); omega) ?_
    | with_reducible refine DV.w_eqB0 ?_
    | with_reducible refine DV.w_neB0 ?_
    | with_reducible refine DV.w_eqBB ?_
    | with_reducible refine DV.w_neBB ?_
    | with_reducible refine DV.w_eqNB ?_
    | with_reducible refine DV.w_neNB ?_
    | with_reducible refine DV.w_eqBN ?_
    | with_reducible refine DV.w_neBN ?_
    | with_reducible refine DV.w_eqT0 ?_
    | with_reducible refine DV.w_neT0 ?_
    | with_reducible refine DV.w_eqT ?_
    | with_reducible refine DV.w_neT ?_
    | with_reducible refine DV.w_gget ?_
    | with_reducible refine DV.w_dc ?_
    | with_reducible refine DV.w_dcN ?_
    | with_reducible refine DV.w_G ?_
    | with_reducible refine DV.w_gput ?_
    | with_reducible refine DV.w_gnew ?_
    | with_reducible refine DV.w_g1 ?_
    | with_reducible refine DV.w_ret ?_
    | with_reducible refine DV.w_slice ?_
    | with_reducible refine DV.w_part ?_
    | with_reducible refine DV.w_slToI (by omega) ?_
    | with_reducible refine DV.w_slFromI (by omega) ?_
    | with_reducible refine DV.w_slToBI (by omega) ?_
    | with_reducible refine DV.w_slFromBI (by omega) ?_
    | with_reducible refine DV.w_star ?_
    | with_reducible refine DV.w_starT ?_
    | with_reducible refine DV.w_starB ?_
    | with_reducible refine DV.w_starN ?_
    | with_reducible refine DV.w_ixR (by omega) ?_
    | with_reducible refine DV.w_ixRB (by omega) ?_
    | with_reducible refine DV.w_lrg ?_
    | with_reducible refine DV.w_trg ?_
    | with_reducible refine DV.w_rg (by omega) ?_
    | with_reducible refine DV.w_enum ?_
    | with_reducible refine DV.w_zip ?_
    | with_reducible refine DV.w_zip3 ?_
    | with_reducible refine DV.w_step ?_
    | with_reducible refine DV.w_stepB (by omega) ?_
    | with_reducible refine DV.w_srev ?_
    | with_reducible refine DV.w_srevT ?_
    | with_reducible refine DV.w_isTT ?_
    | with_reducible refine DV.w_ntTT ?_
    | with_reducible refine DV.w_isFT ?_
    | with_reducible refine DV.w_ntFT ?_
    | with_reducible refine DV.w_isTF ?_
    | with_reducible refine DV.w_ntTF ?_
    | with_reducible refine DV.w_isFF ?_
    | with_reducible refine DV.w_ntFF ?_
    | with_reducible refine DV.w_ixS (by omega) ?_
    | with_reducible refine DV.w_ix2 ?_
    | with_reducible refine DV.w_gget2 ?_
    | with_reducible refine DV.w_notInTs ?_
    | with_reducible refine DV.w_inTs ?_
    | with_reducible refine DV.w_inTsN ?_
    | with_reducible refine DV.w_sset ?_
    | with_reducible refine DV.w_ssetU (by omega) (by assumption) ?_
    | with_reducible refine DV.w_met ?_
    | with_reducible refine DV.w_itL ?_
    | with_reducible refine DV.w_two ?_
    | with_reducible refine DV.w_twoX ?_
    | with_reducible refine DV.w_neS ?_
    | with_reducible refine DV.w_eqS ?_
    | with_reducible refine DV.w_rev ?_
    | with_reducible refine DV.w_revN ?_
    | with_reducible refine DV.w_lset ?_
    | with_reducible refine DV.w_isNL ?_
    | with_reducible refine DV.w_isBL ?_
    | with_reducible refine DV.w_ntNL ?_
    | with_reducible refine DV.w_ntBL ?_
    | with_reducible refine DV.w_abs ?_
    | with_reducible refine DV.w_neBl ?_
    | with_reducible refine DV.w_eqBl ?_
    | with_reducible refine DV.w_eqIP ?_
    | with_reducible refine DV.w_neIP ?_
    | with_reducible refine DV.w_ix3 ?_
    | with_reducible refine DVR.w_neW ?_
    | with_reducible refine DVR.w_ixL (by omega) ?_
    | with_reducible refine DV.w_dcomp ?_
    | with_reducible refine DV.w_intB ?_
    | with_reducible refine DV.w_augIx (by with_unfolding_all exact rfl) ?_
    | with_reducible refine DV.w_inN ?_
    | with_reducible refine DV.w_notInN ?_
    | with_reducible refine DV.w_srcE ?_
    | with_reducible refine DV.w_srcV (by with_unfolding_all exact rfl) ?_
    | with_reducible refine DV.w_src (by with_unfolding_all exact rfl) ?_
    | with_reducible refine DV.w_rng1 ?_
    | with_reducible refine DV.w_rng2 ?_
    | with_reducible refine DV.w_rng2I (by omega) ?_
    | with_reducible refine DV.w_rngN (by omega) ?_
    | with_reducible refine DV.w_rngI (by omega) ?_
    | with_reducible refine DV.w_loopN ?_
    | with_reducible refine DV.w_loopC ?_
    | with_reducible refine DV.w_loopB ?_
    | with_reducible refine DV.w_loopR ?_
    | with_reducible refine DV.w_runN ?_
    | with_reducible refine DV.w_runR ?_
    | with_reducible refine DV.w_tg (by with_unfolding_all (simp only [DV.lockE, DV.unlockE, List.getElem?_cons_succ, List.getElem?_cons_zero, DV.wipeE, DV.gTupF, DV.gMore, DV.gNone, DV.gNm, List.set_cons_succ, List.set_cons_zero, List.length]; rfl)) ?_)
local macro_rules
  | `(tactic| infer_instance) => `(tactic| first
    | with_reducible refine DV.w_body2 (by with_unfolding_all exact rfl) ?_
    | with_reducible refine DV.w_krt ?_
    | with_reducible refine DV.w_setM ?_
    | with_reducible refine DV.w_setM2 ?_)
section
variable {n : Nat} {P T : List (Int × Int)} {a b c j : Int}
open Classical in
noncomputable def flw (P : List (Int × Int)) (n : Nat) (j : Int) : List Int := (rngI 0 n).filter fun b => decide (Fl P j b)
open Classical in
theorem mem_flw (G : Prs n P) : b ∈ flw P n j ↔ Fl P j b := by
  unfold flw
  rw [List.mem_filter, mem_rngI, decide_eq_true_eq]
  exact ⟨fun h => h.2, fun h => ⟨by have := (h.rg G).2; omega, h⟩⟩
theorem flw_sort (G : Prs n P) {ms : Int → List Int} (h : Clo n P ms) (h0 : 0 ≤ j) (h1 : j < (n : Int)) : sortI (ms j) = flw P n j := by
  obtain ⟨m1, m2⟩ := h j h0 h1
  have hs : (rngI 0 n).Pairwise (· < ·) := rngI_lt n 0
  have hf : (flw P n j).Pairwise (· < ·) := hs.sublist List.filter_sublist
  refine sorted_uniq ((sortI_perm _).trans ((List.perm_ext_iff_of_nodup m1 (hf.imp fun x => Int.ne_of_lt x)).mpr fun b => ?_)) (sortI_sorted _) (hf.imp fun x => Int.le_of_lt x)
  rw [m2 b, mem_flw G]
def g_fol : DV.Env → M Out :=
  (sBody2 (sSeq (sIf (tNotF (eT (eFn (fun xs => if xs.length = 3 then m_is_in xs else fail) (aCons (eVar 0) (aCons (eC (.int 1)) (aCons (eC (.int 10)) aNil)))))) sNever sNil)
  (sSeq (sDrop (eFn (fun xs => if xs.length = 2 then m_np xs else fail) (aCons (eVar 1) (aCons (eVar 0) aNil))))
  (sSeq (sSetM 2 2 m_clo (aCons (eVar 1) (aCons (eVar 0) aNil)))
  (sRet (eCall gTuple (aCons (eLc (iRng1F (eVar 0)) [3] (gNm 3) tTrue (eCall gTuple (aCons (eCall gSort (aCons (eListG false (eMGetD 2 (eVar 3))) aNil)) aNil))) aNil)))))))
def m_fol : List RV → M RV := runDef 4 g_fol
theorem fol_gives (hn1 : 1 ≤ n) (hn : n ≤ 10) (G : Prs n P) : DV.Gives (m_fol [.d (.int (n : Nat)), .d (prT P)]) fun r => r = .d (.tuple ((rngI 0 n).map fun j => ti (flw P n j))) := by
  unfold m_fol
  refine DV.w_run (by get_elem_tactic_trivial) ?_
  unfold g_fol
  repeat infer_instance
  refine w_eqm (is_in_ok (by omega) (by omega)) ?_
  repeat infer_instance
  refine w_is (need_pairs_ok (by omega) G) ?_
  repeat infer_instance
  refine w_use (clo_gives (by omega) G) fun c ⟨ms, e, hC⟩ => ?_
  subst e
  refine ⟨rfl, by simp, ?_⟩
  repeat infer_instance
  refine w_lcM (fun j => ti (flw P n j)) (by rw [rngI_len]; omega) (fun j hj => ?_) ?_
  · have hj := (mem_rngI ..).mp hj
    have hl := hC.len G (j := j) (by omega) (by omega)
    repeat infer_instance
    refine w_mgetS (n := n) (ms := ms) (j := j) rfl rfl (by omega) (by omega) ⟨⟨false, tbK (ms j)⟩, rfl, ?_⟩
    dsimp only
    rw [keys_tbK]
    repeat infer_instance
    rw [flw_sort G hC (by omega) (by omega)]
    rfl
  repeat infer_instance
  rfl
open Classical in
/-- p does not follow from others -/
noncomputable def ndB (P : List (Int × Int)) (p : Int × Int) : Bool := !decide (∃ m, Fl P p.1 m ∧ Fl P m p.2)
noncomputable def ndd (P : List (Int × Int)) : List (Int × Int) := (ssP P).filter (ndB P)
def g_ndd : DV.Env → M Out :=
  (sBody2 (sSeq (sIf (tNotF (eT (eFn (fun xs => if xs.length = 3 then m_is_in xs else fail) (aCons (eVar 0) (aCons (eC (.int 1)) (aCons (eC (.int 10)) aNil)))))) sNever sNil)
  (sSeq (sDrop (eFn (fun xs => if xs.length = 2 then m_np xs else fail) (aCons (eVar 1) (aCons (eVar 0) aNil))))
  (sSeq (sSetM 2 2 m_clo (aCons (eVar 1) (aCons (eVar 0) aNil)))
  (sSeq (sSet 3 (eLst aNil))
  (sSeq (sFor (srcE (eSortSetP (eVar 1))) (gTupF 2 (gMore (gNm 4) (gMore (gNm 5) gNone))) (sIf (tNotF (eT (eCall gAny (aCons (eLcM 2 4 [6] (gNm 6) tTrue (e2 (gGIn false) (eVar 5) (eMGetD 2 (eVar 6)))) aNil)))) (sApp 3 (eTup (aCons (eVar 4) (aCons (eVar 5) aNil)))) sNil))
  (sRet (eCall gTuple (aCons (eVar 3) aNil)))))))))
def m_ndd : List RV → M RV := runDef 7 g_ndd
theorem prs64 (hn : n ≤ 64) (G : Prs n P) : ∀ p ∈ P, (0 ≤ p.1 ∧ p.1 < 64) ∧ 0 ≤ p.2 ∧ p.2 < 64 := fun p hp => by have := G.rg p hp; omega
open Classical in
theorem ndd_gives (hn1 : 1 ≤ n) (hn : n ≤ 10) (G : Prs n P) : DV.Gives (m_ndd [.d (.int (n : Nat)), .d (prT P)]) fun r => r = .d (prT (ndd P)) := by
  have hP := G.len
  have hb := prs64 (by omega) G
  unfold m_ndd
  refine DV.w_run (by get_elem_tactic_trivial) ?_
  unfold g_ndd
  repeat infer_instance
  refine w_eqm (is_in_ok (by omega) (by omega)) ?_
  repeat infer_instance
  refine w_is (need_pairs_ok (by omega) G) ?_
  repeat infer_instance
  refine w_use (clo_gives (by omega) G) fun c ⟨ms, e, hC⟩ => ?_
  subst e
  refine ⟨rfl, by simp, ?_⟩
  repeat infer_instance
  refine w_ssetP (L := P) (by omega) hb (w_var rfl rfl) ?_
  repeat infer_instance
  have hsl := ssP_len P
  refine w_loop0 (fun rest ρ => ∃ (us : List (Int × Int)) (y4 y5 : Option D), ssP P = us ++ rest ∧ ρ = [some (.d (.int (n : Nat))), some (.d (prT P)), some (.m (ncS n ms)), some (.o ((us.filter (ndB P)).map pr)), y4.map SV.d, y5.map SV.d, none]) ⟨[], none, none, rfl, rfl⟩ ?_ ?_
  · rintro ⟨x, y⟩ rest ρ ⟨us, y4, y5, hu, rfl⟩
    have hu2 : ssP P = (us ++ [(x, y)]) ++ rest := by rw [hu, List.append_assoc]; rfl
    have hp : (x, y) ∈ P := (mem_ssP hb).mp (by rw [hu]; exact List.mem_append_right _ List.mem_cons_self)
    obtain ⟨⟨x0, x1⟩, y0, y1⟩ := G.rg _ hp
    have hxl := hC.len G (j := x) x0 x1
    have hfl : (us.filter (ndB P)).length < 100000 := by
      have := List.length_filter_le (ndB P) us
      have h2 := congrArg List.length hu
      rw [List.length_append] at h2
      omega
    repeat infer_instance
    refine w_lcMd (n := n) (ms := ms) (j := x) rfl rfl rfl (by decide) x0 x1 (by omega) rfl ?_
    refine w_lcM (fun m => .bool (decide (y ∈ ms m))) (by omega) (fun m hm => ?_) ?_
    · have hf := ((hC x x0 x1).2 m).mp hm
      obtain ⟨_, m0, m1⟩ := hf.rg G
      repeat infer_instance
      refine w_mgetL (n := n) (ms := ms) (j := m) (k := x) rfl rfl m0 m1 x0 (Ne.symm (hf.ne G)) ?_
      refine w_ginK ?_
      rfl
    repeat infer_instance
    refine w_any (fun m => decide (y ∈ ms m)) ?_
    have e : (!(ms x).any fun m => decide (y ∈ ms m)) = ndB P (x, y) := by
      unfold ndB
      congr 1
      rw [Bool.eq_iff_iff, List.any_eq_true, decide_eq_true_eq]
      constructor
      · rintro ⟨m, hm, hy⟩
        have hf := ((hC x x0 x1).2 m).mp hm
        obtain ⟨_, m0, m1⟩ := hf.rg G
        exact ⟨m, hf, ((hC m m0 m1).2 y).mp (of_decide_eq_true hy)⟩
      · rintro ⟨m, h1, h2⟩
        obtain ⟨_, m0, m1⟩ := h1.rg G
        exact ⟨m, ((hC x x0 x1).2 m).mpr h1, decide_eq_true (((hC m m0 m1).2 y).mpr h2)⟩
    repeat infer_instance
    rw [e]
    refine ⟨fun h => ?_, fun h => ?_⟩
    · repeat infer_instance
      have e2 : (us.filter (ndB P)).map pr ++ [PyData.tuple [.int x, .int y]] = ((us ++ [(x, y)]).filter (ndB P)).map pr := by
        rw [List.filter_append, List.filter_cons_of_pos h, List.filter_nil, List.map_append]
        rfl
      rw [e2]
      repeat infer_instance
      exact ⟨us ++ [(x, y)], some (.int x), some (.int y), hu2, rfl⟩
    · repeat infer_instance
      refine ⟨us ++ [(x, y)], some (.int x), some (.int y), hu2, ?_⟩
      rw [List.filter_append, List.filter_cons_of_neg (by rw [h]; exact Bool.false_ne_true), List.filter_nil, List.append_nil]
      rfl
  · rintro ρ ⟨us, y4, y5, hu, rfl⟩
    rw [List.append_nil] at hu
    subst hu
    repeat infer_instance
    rfl
open Classical in
theorem ndd_mem (hn : n ≤ 64) (G : Prs n P) {p : Int × Int} : p ∈ ndd P ↔ p ∈ P ∧ ¬∃ m, Fl P p.1 m ∧ Fl P m p.2 := by
  unfold ndd ndB
  rw [List.mem_filter, mem_ssP (prs64 hn G)]
  simp
theorem ndd_up (P : List (Int × Int)) : (ndd P).Pairwise fun p q => cdP p < cdP q := (ssP_up P).sublist List.filter_sublist
theorem ndd_len : (ndd P).length ≤ P.length := Nat.le_trans (List.length_filter_le _ _) (ssP_len P)
theorem Prs.sub (G : Prs n P) (e : ∀ p ∈ T, p ∈ P) (hl : T.length ≤ 40) : Prs n T := ⟨fun p hp => G.rg p (e p hp), by
  obtain ⟨rk, h⟩ := G.ac
  exact ⟨rk, fun p hp => h p (e p hp)⟩, hl⟩
theorem ndd_prs (hn : n ≤ 64) (G : Prs n P) : Prs n (ndd P) := G.sub (fun p hp => ((ndd_mem hn G).mp hp).1) (Nat.le_trans ndd_len G.len)
/-- the needed ones tell as much -/
theorem ndd_fl (hn : n ≤ 64) (G : Prs n P) : Fl (ndd P) a b ↔ Fl P a b := by
  refine ⟨Fl.mono fun p hp => ((ndd_mem hn G).mp hp).1, ?_⟩
  obtain ⟨rk, hr⟩ := G.ac
  have main : ∀ (k : Nat) (a b : Int), rk b ≤ rk a + k → Fl P a b → Fl (ndd P) a b := fun k => by
    induction k with
    | zero =>
      intro a b hk h
      have := h.rk hr
      omega
    | succ k ih =>
      intro a b hk h
      by_cases hm : ∃ m, Fl P a m ∧ Fl P m b
      · obtain ⟨m, h1, h2⟩ := hm
        have r1 := h1.rk hr
        have r2 := h2.rk hr
        exact (ih a m (by omega) h1).trans (ih m b (by omega) h2)
      · cases h with
        | one h => exact .one ((ndd_mem hn G).mpr ⟨h, hm⟩)
        | @step _ x _ h t => exact absurd ⟨x, .one h, t⟩ hm
  intro h
  exact main (rk b) a b (by omega) h
open Classical in
theorem flw_eq (h : ∀ a b, Fl T a b ↔ Fl P a b) : flw T n j = flw P n j := by
  unfold flw
  refine List.filter_congr fun b _ => ?_
  exact decide_eq_decide.mpr (h j b)
/-- each of them is needed -/
theorem ndd_need (hn : n ≤ 64) (G : Prs n P) {A B : List (Int × Int)} {p : Int × Int} (h : ndd P = A ++ p :: B) : ¬Fl (A ++ B) p.1 p.2 := fun hf => by
  have nd : (ndd P).Nodup := (ndd_up P).imp fun x e => by rw [e] at x; omega
  rw [h] at nd
  have hp := (ndd_mem hn G (p := p)).mp (by rw [h]; exact List.mem_append_right _ List.mem_cons_self)
  have hsub : ∀ q ∈ A ++ B, q ∈ P := fun q hq => ((ndd_mem hn G).mp (by
    rw [h]
    rcases List.mem_append.mp hq with z | z
    · exact List.mem_append_left _ z
    · exact List.mem_append_right _ (List.mem_cons_of_mem _ z))).1
  obtain ⟨n1, n2, n3⟩ := List.nodup_append.mp nd
  cases hf with
  | one q =>
    rcases List.mem_append.mp q with z | z
    · exact n3 _ z _ List.mem_cons_self rfl
    · exact (List.nodup_cons.mp n2).1 z
  | @step _ x _ q t => exact hp.2 ⟨x, .one (hsub _ q), t.mono hsub⟩
end
end DVL
namespace DV
open PySem L2
theorem eqvA_tis : ∀ A B : List (List Int), PyData.eqvAll (A.map ti) (B.map ti) = decide (A = B)
  | [], [] => by simp [PyData.eqvAll]
  | [], y :: ys => by simp [PyData.eqvAll]
  | x :: xs, [] => by simp [PyData.eqvAll]
  | x :: xs, y :: ys => by
    have e : PyData.eqv (ti x) (ti y) = decide (x = y) := by
      show PyData.eqv (.tuple _) (.tuple _) = _
      rw [PyData.eqv]
      exact DVL.eqv_intsA x y
    rw [List.map_cons, List.map_cons, PyData.eqvAll, eqvA_tis xs ys, e]
    by_cases h : x = y <;> by_cases h2 : xs = ys <;> simp [h, h2]
theorem eq_ttis (neg : Bool) (A B : List (List Int)) : gEqB neg (.d (.tuple (A.map ti))) (.d (.tuple (B.map ti))) = some (.d (.bool (if neg then !decide (A = B) else decide (A = B)))) := by
  show (if SeqAt.shaped (.tuple (A.map ti)) = true then if SeqAt.shaped (.tuple (B.map ti)) = true then some (RV.d (.bool (if neg then !PyData.eqv (.tuple (A.map ti)) (.tuple (B.map ti)) else PyData.eqv (.tuple (A.map ti)) (.tuple (B.map ti))))) else none else none) = _
  rw [if_pos (DVJ.shaped_tisT A), if_pos (DVJ.shaped_tisT B), PyData.eqv, eqvA_tis A B]
theorem w_eqTs {P : RV → Prop} {A B : List (List Int)} (p : P (.d (.bool (decide (A = B))))) : K2 gEq P (.d (.tuple (A.map ti))) (.d (.tuple (B.map ti))) := ⟨_, eq_ttis false A B, p⟩
theorem w_neTs {P : RV → Prop} {A B : List (List Int)} (p : P (.d (.bool (!decide (A = B))))) : K2 gNe P (.d (.tuple (A.map ti))) (.d (.tuple (B.map ti))) := ⟨_, eq_ttis true A B, p⟩
end DV

namespace Lk46
open PySem L2 DV DVL DVB DVS DVJ
local macro_rules
  | `(tactic| get_elem_tactic_trivial) => `(tactic| first
    | (simp only [List.set_cons_succ, List.set_cons_zero, DV.startE, DV.lawE, DV.toK, DV.lockE, DV.wipeE, List.map_cons, List.map_nil, List.length_cons, List.length_nil, List.replicate_zero, List.replicate_succ, Nat.reduceSub, Nat.reduceAdd, List.append_nil, List.cons_append, List.nil_append]; rfl)
    | exact rfl)
local macro_rules
  | `(tactic| infer_instance) => `(tactic| first
    | with_reducible refine DV.w_cons ?_
    | with_reducible refine DV.w_var (by with_unfolding_all exact rfl) ?_
    | with_reducible refine DV.w_c ?_
    | with_reducible refine DV.w_nil ?_
    | with_reducible refine DV.w_e2 ?_
    | with_reducible refine DV.w_seq ?_
    | with_reducible refine DV.w_seqN ?_
    | with_reducible refine DV.w_seqR ?_
    | with_reducible refine DV.w_seqB ?_
    | with_reducible refine DV.w_seqC ?_
    | with_reducible refine DV.w_call ?_
    | with_reducible refine DV.w_fn ?_
    | with_reducible refine DV.w_f1 ?_
    | with_reducible refine DV.w_f2 ?_
    | with_reducible refine DV.w_f3 ?_
    | with_reducible refine DV.w_f4 ?_
    | with_reducible refine DV.w_f5 ?_
    | with_reducible refine DV.w_f6 ?_
    | with_reducible refine DV.w_set ?_
    | with_reducible refine DV.w_setApp ?_
    | with_reducible refine DV.w_setX (by with_unfolding_all exact rfl) (by with_unfolding_all (simp only [List.set_cons_succ, List.set_cons_zero]; rfl)) ?_
    | with_reducible refine DV.w_rt ?_
    | with_reducible refine DV.w_rtD ?_
    | with_reducible refine DV.w_rtN ?_
    | with_reducible refine DV.w_rtV (by with_unfolding_all exact rfl) ?_
    | with_reducible refine DV.w_if ?_
    | with_reducible refine DV.w_drop ?_
    | with_reducible refine DV.w_nop ?_
    | with_reducible refine DV.w_T ?_
    | with_reducible refine DV.w_B ?_
    | with_reducible refine DV.w_not ?_
    | with_reducible refine DV.w_and ?_
    | with_reducible refine DV.w_or ?_
    | with_reducible refine DV.w_ifT ?_
    | with_reducible refine DV.w_ifF ?_
    | with_reducible refine DV.w_ifNT ?_
    | with_reducible refine DV.w_ifNF ?_
    | with_reducible refine DV.w_stup ?_
    | with_reducible refine DV.w_stupD (by with_unfolding_all (simp only [DV.wipeE, DV.gTupF, DV.gMore, DV.gNone, DV.gNm, List.set_cons_succ, List.set_cons_zero, List.length]; rfl)) ?_
    | with_reducible refine DV.w_aug (by with_unfolding_all exact rfl) ?_
    | with_reducible refine DV.w_I ?_
    | with_reducible refine DV.w_app (by with_unfolding_all exact rfl) (by simp only [List.length_map]; omega) ?_
    | with_reducible refine DV.w_D ?_
    | with_reducible refine DV.w_for ?_
    | with_reducible refine DV.w_lc ?_
    | with_reducible refine DV.w_par ?_
    | with_reducible refine DV.w_par3 ?_
    | with_reducible refine DV.w_par4 ?_
    | with_reducible refine DV.w_parX (by with_unfolding_all exact rfl) (by with_unfolding_all exact rfl) (by with_unfolding_all (simp only [List.set_cons_succ, List.set_cons_zero]; rfl)) ?_
    | with_reducible refine DV.w_par3X (by with_unfolding_all exact rfl) (by with_unfolding_all exact rfl) (by with_unfolding_all exact rfl) (by with_unfolding_all (simp only [List.set_cons_succ, List.set_cons_zero]; rfl)) ?_
    | with_reducible refine DV.w_par4X (by with_unfolding_all exact rfl) (by with_unfolding_all exact rfl) (by with_unfolding_all exact rfl) (by with_unfolding_all exact rfl) (by with_unfolding_all (simp only [List.set_cons_succ, List.set_cons_zero]; rfl)) ?_
    | with_reducible refine DV.w_tup ?_
    | with_reducible refine DV.w_lst ?_
    | with_reducible refine DV.w_tu (by with_unfolding_all exact rfl) (by with_unfolding_all exact Nat.le_of_ble_eq_true rfl) ?_
    | with_reducible refine DV.w_ls (by with_unfolding_all exact rfl) (by with_unfolding_all exact Nat.le_of_ble_eq_true rfl) ?_
    | with_reducible refine DV.w_neg ?_
    | with_reducible refine DV.w_ifB ?_
    | with_reducible refine DV.w_ifE ?_
    | with_reducible refine DV.w_notB ?_
    | with_reducible refine DV.w_tt ?_
    | with_reducible refine DV.w_ch ?_
    | with_reducible refine DV.w_add ?_
    | with_reducible refine DV.w_sub ?_
    | with_reducible refine DV.w_mul (by first | omega | (left; constructor <;> omega) | (right; constructor <;> omega)) ?_
    | with_reducible refine DV.w_mod (by omega) ?_
    | with_reducible refine DV.w_div (by omega) ?_
    | with_reducible refine DV.w_lt ?_
    | with_reducible refine DV.w_le ?_
    | with_reducible refine DV.w_gt ?_
    | with_reducible refine DV.w_ge ?_
    | with_reducible refine DV.w_ltA ?_
    | with_reducible refine DV.w_leA ?_
    | with_reducible refine DV.w_gtA ?_
    | with_reducible refine DV.w_geA ?_
    | with_reducible refine DV.w_eq ?_
    | with_reducible refine DV.w_ne ?_
    | with_reducible refine DV.w_eqB ?_
    | with_reducible refine DV.w_neB ?_
    | with_reducible refine DV.w_eqN ?_
    | with_reducible refine DV.w_neN ?_
    | with_reducible refine DV.w_eqN0 ?_
    | with_reducible refine DV.w_neN0 ?_
    | with_reducible refine DV.w_in ?_
    | with_reducible refine DV.w_inB ?_
    | with_reducible refine DV.w_notIn ?_
    | with_reducible refine DV.w_notInB ?_
    | with_reducible refine DV.w_ix0 ?_
    | with_reducible refine DV.w_ix1 ?_
    | with_reducible refine DV.w_ix (by omega) ?_
    | with_reducible refine DV.w_ixB (by omega) ?_
    | with_reducible refine DV.w_len ?_
    | with_reducible refine DV.w_lenB ?_
    | with_reducible refine DV.w_lenN ?_
    | with_reducible refine DV.w_lenM ?_
    | with_reducible refine DV.w_lenMB ?_
    | with_reducible refine DV.w_lenMN ?_
    | with_reducible refine DV.w_lenD ?_
    | with_reducible refine DV.w_lenDB ?_
    | with_reducible refine DV.w_lenDN ?_
    | with_reducible refine DV.w_tupN ?_
    | with_reducible refine DV.w_tupB ?_
    | with_reducible refine DV.w_tupD ?_
    | with_reducible refine DV.w_lstD ?_
    | with_reducible refine DV.w_lstB ?_
    | with_reducible refine DV.w_lstN ?_
    | with_reducible refine DV.w_sum ?_
    | with_reducible refine DV.w_sumN ?_
    | with_reducible refine DV.w_sumB ?_
    | with_reducible refine DV.w_max2 ?_
    | with_reducible refine DV.w_min2 ?_
    | with_reducible refine DV.w_int ?_
    | with_reducible refine DV.w_sort ?_
    | with_reducible refine DV.w_sortN ?_
    | with_reducible refine DV.w_sortB ?_
    | with_reducible refine DV.w_rep (by omega) ?_
    | with_reducible refine DV.w_repN (by omega) ?_
    | with_reducible refine DV.w_moveG (by with_unfolding_all exact rfl) (by with_unfolding_all (simp only [List.set_cons_succ, List.set_cons_zero]; rfl)) ?_
    | with_reducible refine DV.w_moveO (by with_unfolding_all exact rfl) (by with_unfolding_all (simp only [List.set_cons_succ, List.set_cons_zero]; rfl)) ?_
    | with_reducible refine DV.w_moveD (by with_unfolding_all exact rfl) (by with_unfolding_all (simp only [List.set_cons_succ, List.set_cons_zero]; rfl)) ?_
    | with_reducible refine DV.w_catTI (by (try simp only [List.length_append, List.length_take, List.length_drop, List.length_cons, List.length_nil]); omega) ?_
    | with_reducible refine DV.w_catT1 (by (try simp only [List.length_append, List.length_take, List.length_drop, List.length_cons, List.length_nil]); omega) ?_
    | with_reducible refine DV.w_listG ?_
    | with_reducible refine DV.w_sortK ?_
    | with_reducible refine DV.w_colS ?_
    | with_reducible refine DV.w_itT ?_
    | with_reducible refine DV.w_itB ?_
    | with_reducible refine DV.w_itN ?_
    | with_reducible refine DV.w_colR ?_
    | with_reducible refine DV.w_colRN (by omega) ?_
    | with_reducible refine DV.w_ext (by with_unfolding_all exact rfl) ?_
    | with_reducible refine DV.w_lc2 ?_
    | with_reducible refine DV.w_isT ?_
    | with_reducible refine DV.w_isNN ?_
    | with_reducible refine DV.w_isNI ?_
    | with_reducible refine DV.w_isNT ?_
    | with_reducible refine DV.w_ntNN ?_
    | with_reducible refine DV.w_ntNI ?_
    | with_reducible refine DV.w_ntNT ?_
    | with_reducible refine DV.w_repND (by omega) ?_
    | with_reducible refine DV.w_put (by with_unfolding_all exact rfl) ?_
    | with_reducible refine DV.w_putI (by (try simp only [List.length_set, List.length_replicate, List.length_map]); omega) ?_
    | with_reducible refine DV.w_eqB0 ?_
    | with_reducible refine DV.w_neB0 ?_
    | with_reducible refine DV.w_eqBB ?_
    | with_reducible refine DV.w_neBB ?_
    | with_reducible refine DV.w_eqNB ?_
    | with_reducible refine DV.w_neNB ?_
    | with_reducible refine DV.w_eqBN ?_
    | with_reducible refine DV.w_neBN ?_
    | with_reducible refine DV.w_eqT0 ?_
    | with_reducible refine DV.w_neT0 ?_
    | with_reducible refine DV.w_eqT ?_
    | with_reducible refine DV.w_neT ?_
    | with_reducible refine DV.w_gget ?_
    | with_reducible refine DV.w_dc ?_
    | with_reducible refine DV.w_dcN ?_
    | with_reducible refine DV.w_G ?_
    | with_reducible refine DV.w_gput ?_
    | with_reducible refine DV.w_gnew ?_
    | with_reducible refine DV.w_g1 ?_
    | with_reducible refine DV.w_ret ?_
    | with_reducible refine DV.w_slice ?_
    | with_reducible refine DV.w_part ?_
    | with_reducible refine DV.w_slToI (by omega) ?_
    | with_reducible refine DV.w_slFromI (by omega) ?_
    | with_reducible refine DV.w_slToBI (by omega) ?_
    | with_reducible refine DV.w_slFromBI (by omega) ?_
    | with_reducible refine DV.w_star ?_
    | with_reducible refine DV.w_starT ?_
    | with_reducible refine DV.w_starB ?_
    | with_reducible refine DV.w_starN ?_
    | with_reducible refine DV.w_ixR (by omega) ?_
    | with_reducible refine DV.w_ixRB (by omega) ?_
    | with_reducible refine DV.w_lrg ?_
    | with_reducible refine DV.w_trg ?_
    | with_reducible refine DV.w_rg (by omega) ?_
    | with_reducible refine DV.w_enum ?_
    | with_reducible refine DV.w_zip ?_
    | with_reducible refine DV.w_zip3 ?_
    | with_reducible refine DV.w_step ?_
    | with_reducible refine DV.w_stepB (by omega) ?_
    | with_reducible refine DV.w_srev ?_
    | with_reducible refine DV.w_srevT ?_
    | with_reducible refine DV.w_isTT ?_
    | with_reducible refine DV.w_ntTT ?_
    | with_reducible refine DV.w_isFT ?_
    | with_reducible refine DV.w_ntFT ?_
    | with_reducible refine DV.w_isTF ?_
    | with_reducible refine DV.w_ntTF ?_
    | with_reducible refine DV.w_isFF ?_
    | with_reducible refine DV.w_ntFF ?_
    | with_reducible refine DV.w_ixS (by omega) ?_
    | with_reducible refine DV.w_ix2 ?_
    | with_reducible refine DV.w_gget2 ?_
    | with_reducible refine DV.w_notInTs ?_
    | with_reducible refine DV.w_inTs ?_
    | with_reducible refine DV.w_inTsN ?_
    | with_reducible refine DV.w_sset ?_
    | with_reducible refine DV.w_ssetU (by omega) (by assumption) ?_
    | with_reducible refine DV.w_met ?_
    | with_reducible refine DV.w_itL ?_
    | with_reducible refine DV.w_two ?_
    | with_reducible refine DV.w_twoX ?_
    | with_reducible refine DV.w_neS ?_
    | with_reducible refine DV.w_eqS ?_
    | with_reducible refine DV.w_rev ?_
    | with_reducible refine DV.w_revN ?_
    | with_reducible refine DV.w_lset ?_
    | with_reducible refine DV.w_isNL ?_
    | with_reducible refine DV.w_isBL ?_
    | with_reducible refine DV.w_ntNL ?_
    | with_reducible refine DV.w_ntBL ?_
    | with_reducible refine DV.w_abs ?_
    | with_reducible refine DV.w_neBl ?_
    | with_reducible refine DV.w_eqBl ?_
    | with_reducible refine DV.w_eqIP ?_
    | with_reducible refine DV.w_neIP ?_
    | with_reducible refine DV.w_ix3 ?_
    | with_reducible refine DVR.w_neW ?_
    | with_reducible refine DVR.w_ixL (by omega) ?_
    | with_reducible refine DV.w_dcomp ?_
    | with_reducible refine DV.w_intB ?_
    | with_reducible refine DV.w_augIx (by with_unfolding_all exact rfl) ?_
    | with_reducible refine DV.w_inN ?_
    | with_reducible refine DV.w_notInN ?_
    | with_reducible refine DV.w_srcE ?_
    | with_reducible refine DV.w_srcV (by with_unfolding_all exact rfl) ?_
    | with_reducible refine DV.w_src (by with_unfolding_all exact rfl) ?_
    | with_reducible refine DV.w_rng1 ?_
    | with_reducible refine DV.w_rng2 ?_
    | with_reducible refine DV.w_rng2I (by omega) ?_
    | with_reducible refine DV.w_rngN (by omega) ?_
    | with_reducible refine DV.w_rngI (by omega) ?_
    | with_reducible refine DV.w_loopN ?_
    | with_reducible refine DV.w_loopC ?_
    | with_reducible refine DV.w_loopB ?_
    | with_reducible refine DV.w_loopR ?_
    | with_reducible refine DV.w_runN ?_
    | with_reducible refine DV.w_runR ?_
    | with_reducible refine DV.w_tg (by with_unfolding_all (simp only [DV.lockE, DV.unlockE, List.getElem?_cons_succ, List.getElem?_cons_zero, DV.wipeE, DV.gTupF, DV.gMore, DV.gNone, DV.gNm, List.set_cons_succ, List.set_cons_zero, List.length]; rfl)) ?_)
local macro_rules
  | `(tactic| infer_instance) => `(tactic| first
    | with_reducible refine DV.w_neLP ?_
    | with_reducible refine DVA.w_neP0 ?_)
section
variable {n : Nat} {P : List (Int × Int)}
noncomputable abbrev flT (P : List (Int × Int)) (n : Nat) : List (List Int) := (rngI 0 n).map (flw P n)
theorem fol_gives' (hn1 : 1 ≤ n) (hn : n ≤ 10) (G : Prs n P) : DV.Gives (m_followers [.d (.int (n : Nat)), .d (prT P)]) fun r => r = .d (.tuple ((flT P n).map ti)) := by
  refine (fol_gives hn1 hn G).mono fun r e => ?_
  rw [e, List.map_map]
  rfl
theorem flT_eq {T : List (Int × Int)} (h : ∀ a b, Fl T a b ↔ Fl P a b) : flT T n = flT P n := List.map_congr_left fun j _ => flw_eq h
theorem flT_inj {T : List (Int × Int)} (GT : Prs n T) (G : Prs n P) (h : flT T n = flT P n) {a b : Int} (hf : Fl P a b) : Fl T a b := by
  have hr := (hf.rg G).1
  have e : flw T n a = flw P n a := List.map_inj_left.mp h a ((mem_rngI ..).mpr (by omega))
  exact (mem_flw GT).mp (by rw [e]; exact (mem_flw G).mpr hf)
end
theorem law_gives : DV.Gives (g_law (lawE 8)) fun o => o = .rt (.d (.bool true)) := by
  unfold g_law
  refine w_env (by get_elem_tactic_trivial) ?_
  repeat infer_instance
  show DV.KFor _ _ _ _ ((rngI 0 2).map PyData.int, none)
  refine w_loop0 (fun rest ρ => ∃ y2 y3 y4 y5 y6 y7 : Option SV, ρ = [none, some .row, y2, y3, y4, y5, y6, y7]) ⟨_, _, _, _, _, _, rfl⟩ ?_ ?_
  · rintro t rest ρ ⟨y2, y3, y4, y5, y6, y7, rfl⟩
    repeat infer_instance
    refine w_use (taken_eq 8 (by decide) (by decide)) fun r ⟨t, e, t0, t1⟩ => ?_
    subst e
    obtain ⟨n, en⟩ : ∃ n : Nat, (1 + t : Int) = (n : Int) := ⟨(1 + t).toNat, by omega⟩
    repeat infer_instance
    rw [en]
    have hn1 : 1 ≤ n := by omega
    have hn8 : n ≤ 8 := by omega
    repeat infer_instance
    refine w_use (pairs_gives hn1 (by omega)) fun r ⟨P0, eq, G0, hPl⟩ => ?_
    subst eq
    repeat infer_instance
    refine w_slTo (by omega) ?_
    rw [← List.map_take]
    repeat infer_instance
    refine w_use (taken_eq 3 (by decide) (by decide)) fun r ⟨u, e, u0, u1⟩ => ?_
    subst e
    repeat infer_instance
    refine w_slTo (by omega) ?_
    rw [← List.map_take]
    repeat infer_instance
    refine w_catT (by rw [List.length_map, List.length_map, List.length_take, List.length_take, List.length_take]; omega) ?_
    rw [← List.map_append]
    generalize hPe : P0.take (20 : Int).toNat ++ (P0.take (20 : Int).toNat).take u.toNat = P
    have hPlen : P.length ≤ 40 := by
      rw [← hPe, List.length_append, List.length_take, List.length_take, List.length_take]
      omega
    have G : Prs n P := G0.sub (fun p hp => by
      rw [← hPe] at hp
      rcases List.mem_append.mp hp with z | z
      · exact List.mem_of_mem_take z
      · exact List.mem_of_mem_take (List.mem_of_mem_take z)) hPlen
    have hnd := ndd_len (P := P)
    have GT := ndd_prs (by omega) G
    repeat infer_instance
    refine w_is (ndd_gives hn1 (by omega) G) ?_
    repeat infer_instance
    refine w_ssetP (L := ndd P) (by omega) (prs64 (n := n) (by omega) GT) (w_var rfl rfl) ?_
    rw [ssP_self (prs64 (n := n) (by omega) GT) (ndd_up P)]
    repeat infer_instance
    rw [decide_eq_true (rfl : ndd P = ndd P)]
    repeat infer_instance
    refine w_lcD (ndd P) pr (fun p => !decide (p ∈ P)) pr (by omega) (fun p hp => ?_) ?_
    · obtain ⟨a, b⟩ := p
      repeat infer_instance
      refine w_notInPr ?_
      repeat infer_instance
      refine ⟨rfl, fun _ => ?_⟩
      repeat infer_instance
      rfl
    have e0 : (ndd P).filter (fun p => !decide (p ∈ P)) = [] := List.filter_eq_nil_iff.mpr fun p hp => by
      have := ((ndd_mem (n := n) (by omega) G).mp hp).1
      simp [this]
    rw [e0]
    repeat infer_instance
    rw [decide_eq_true (rfl : ([] : List (Int × Int)) = [])]
    repeat infer_instance
    refine ⟨_, rfl, ?_⟩
    repeat infer_instance
    refine w_ifNT ?_
    repeat infer_instance
    refine w_is (fol_gives' hn1 (by omega) GT) ?_
    repeat infer_instance
    refine w_is (fol_gives' hn1 (by omega) G) ?_
    rw [flT_eq (fun a b => ndd_fl (n := n) (by omega) G)]
    refine w_neTs ?_
    rw [decide_eq_true (rfl : flT P n = flT P n)]
    repeat infer_instance
    have hlenI : ((ndd P).map pr).length = (ndd P).length := List.length_map ..
    refine w_loop0 (fun rest ρ => ∃ (k : Nat) (y7 : Option SV), rest = rngI (k : Nat) ((ndd P).length - k) ∧ k ≤ (ndd P).length ∧ ρ = [none, some .row, _, some (.d (.int (n : Nat))), some (.d (prT P)), some (.d (prT (ndd P))), y6, y7]) ⟨0, _, rfl, Nat.zero_le _, rfl⟩ ?_ ?_
    · rintro x rest ρ ⟨k, y7, er, hk, rfl⟩
      obtain ⟨e1, hkn, e2⟩ := rng_step er
      subst e1
      have hspl : ndd P = (ndd P).take k ++ (ndd P)[k] :: (ndd P).drop (k + 1) := by
        rw [← List.drop_eq_getElem_cons hkn, List.take_append_drop]
      repeat infer_instance
      refine w_slTo (by omega) ?_
      rw [← List.map_take, Int.toNat_natCast]
      repeat infer_instance
      refine w_slFrom (by omega) ?_
      rw [← List.map_drop, show ((k : Int) + 1).toNat = k + 1 by omega]
      repeat infer_instance
      refine w_catT (by rw [List.length_map, List.length_map, List.length_take, List.length_drop]; omega) ?_
      rw [← List.map_append]
      have GA : Prs n ((ndd P).take k ++ (ndd P).drop (k + 1)) := GT.sub (fun p hp => by
        rcases List.mem_append.mp hp with z | z
        · exact List.mem_of_mem_take z
        · exact List.mem_of_mem_drop z) (by rw [List.length_append, List.length_take, List.length_drop]; omega)
      repeat infer_instance
      refine w_is (fol_gives' hn1 (by omega) GA) ?_
      repeat infer_instance
      refine w_is (fol_gives' hn1 (by omega) G) ?_
      refine w_eqTs ?_
      have hne : ¬flT ((ndd P).take k ++ (ndd P).drop (k + 1)) n = flT P n := fun h => by
        have hm := (ndd_mem (n := n) (by omega) G (p := (ndd P)[k])).mp (List.getElem_mem hkn)
        exact ndd_need (n := n) (by omega) G hspl (flT_inj GA G h (.one hm.1))
      rw [decide_eq_false hne]
      repeat infer_instance
      exact ⟨k + 1, _, e2, by omega, rfl⟩
    · rintro ρ ⟨k, y7, er, hk, rfl⟩
      repeat infer_instance
      exact ⟨_, _, _, _, _, _, rfl⟩
  · rintro ρ ⟨y2, y3, y4, y5, y6, y7, rfl⟩
    repeat infer_instance
    rfl
theorem law_holds : LawHolds := fun ns _ => by
  obtain ⟨o, rs', e, rfl⟩ := law_gives ⟨ns, 0, 3946, 0⟩
  exact ⟨rs', e⟩
end Lk46

open PySem PySem.W PyProof.Rows
set_option maxHeartbeats 0 in
theorem PySem.Challenge.cw_shoporders_k46_whole_needed_pairs_holds : PySem.Challenge.rw_shoporders_k46_whole_needed_pairs.Holds := by
  w_on; o_law; k_head; (case hw => w_witness2)
  k_fill
  refine L2.walk_of (l := PySem.Challenge.rw_shoporders_k46_whole_needed_pairs) (n := 63) (k := 5) (x := "_law_script") (CX := fun _ => L2.CX0) (sp := fun w => DV.spLaw _) rfl (by decide) rfl ⟨rfl, by decide, by decide⟩ (fun w h Y => PySem.W.kIn_of Y) ?F (fun _ _ a ns hl _ hS => ⟨a, ns, rfl, DV.tabs_none (by kernel_rfl), hS, hl, fun _ => rfl⟩) (fun _ _ _ _ _ h => h)
  case F =>
    intro w mg fa h KX G hmg
    refine' Lk46.all_mk Lk46.law_holds KX G hmg ?a1 ?l1 ?c1 ?k1 ?a2 ?l2 ?c2 ?k2 ?a3 ?l3 ?c3 ?k3 ?a4 ?l4 ?c4 ?k4 ?a5 ?l5 ?c5 ?k5 ?a6 ?l6 ?c6 ?k6 ?a7 ?l7 ?c7 ?k7 ?a8 ?l8 ?c8 ?k8 ?a9 ?l9 ?c9 ?k9 ?a10 ?l10 ?c10 ?k10 ?a11 ?l11 ?c11 ?k11 ?a12 ?l12 ?c12 ?k12 ?a13 ?l13 ?c13 ?k13 ?a14 ?l14 ?c14 ?k14 ?z0 ?z1 ?z2 ?z3 ?z4 ?z5 ?z6 ?z7 ?z8 ?z9 ?z10 ?z11 ?z12 ?y0
    (case a1 => k_is); (case l1 => k_is); (case c1 => k_is); (case k1 => k_is); (case a2 => k_is); (case l2 => k_is); (case c2 => k_is); (case k2 => k_is); (case a3 => k_is); (case l3 => k_is); (case c3 => k_is); (case k3 => k_is); (case a4 => k_is); (case l4 => k_is); (case c4 => k_is); (case k4 => k_is); (case a5 => k_is); (case l5 => k_is); (case c5 => k_is); (case k5 => k_is); (case a6 => k_is); (case l6 => k_is); (case c6 => k_is); (case k6 => k_is); (case a7 => k_is); (case l7 => k_is); (case c7 => k_is); (case k7 => k_is); (case a8 => k_is); (case l8 => k_is); (case c8 => k_is); (case k8 => k_is); (case a9 => k_is); (case l9 => k_is); (case c9 => k_is); (case k9 => k_is); (case a10 => k_is); (case l10 => k_is); (case c10 => k_is); (case k10 => k_is); (case a11 => k_is); (case l11 => k_is); (case c11 => k_is); (case k11 => k_is); (case a12 => k_is); (case l12 => k_is); (case c12 => k_is); (case k12 => k_is); (case a13 => k_is); (case l13 => k_is); (case c13 => k_is); (case k13 => k_is); (case a14 => k_is); (case l14 => k_is); (case c14 => k_is); (case k14 => k_is); (case z0 => k_is); (case z1 => k_is); (case z2 => k_is); (case z3 => k_is); (case z4 => k_is); (case z5 => k_is); (case z6 => k_is); (case z7 => k_is); (case z8 => k_is); (case z9 => k_is); (case z10 => k_is); (case z11 => k_is); (case z12 => k_is); (case y0 => k_is)


