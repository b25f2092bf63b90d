import PyProof.Rows.All
import Wide.All
import OpenK.AllK
import Wide.FinOn
import HandS.ForMost
import HandS.Flow
import HandS.Walk
import HandS.Lambda
import HandS.Dict
import KE.KDictKeyed
import HandS.TupMul
import HandS.TupAny
import HandS.Deep
import HandS.IsInst
import HandS.SortInts
import HandS.Conv
import HandS.Star
import KE.DataMinMax
import KE.SortKeyHeap
import HandS.SetFor
import KE.GoesEnum
import KE.GoesZip
import HandS.ExcOwn
import HandS.ExcValue
import HandS.Style
import HandS.Zip
import PyProof.TupleOfSeq
import KE.DataCmp
import HandS.Nested
import HandS.SortKw
import HandS.Keys
import HandS.EndOwn
import HandS.NestedK
import HandS.List
import HandS.Rev
import HandS.RevTup
import PyProof.Walks
import HandS.More
import PyProof.ListCopy
import PyProof.Rows.ExtendIn
import HandS.ForDict
import KE.KDictDisplayH
import KE.KDictWalk
import KE.KDictSum
import HandS.DictComp
import KE.KEqDict
import PySem.Challenge.RW_shoporders_k06_whole_greatest_costs
set_option Elab.async false
set_option linter.all false
set_option maxRecDepth 100000
set_option maxHeartbeats 4000000
namespace DV
open PySem L2

abbrev D := PyData
/-- a dict: whether its keys are tuples; its pairs in the order of insertion -/
structure DC where
  t : Bool
  kv : List (D × D)
/-- what an expression gives: data; a list that is read where it stands; a new list; a new dict; the drawing row -/
inductive RV where
  | d (x : D) | b (ds : List D) | n (ds : List D) | gb (c : DC) | gn (c : DC) | row
/-- an error: its class's name, its field -/
structure Ex where
  c : Str
  f : Option (Str × D)
/-- where an error stands: its address, its class, its dict -/
structure Q3 where
  a : Addr
  cls : Value
  d : Option Addr
/-- what a name holds: data; a list of one's own; a list that may be read alone (the caller's, or one that a loop walks); the drawing row -/
inductive SV where
  | d (x : D) | o (ds : List D) | k (ds : List D) | g (c : DC) | un | row | ex (q : Q3) (e : Ex) | fn (x : Str) | lm
/-- things of one's own -/
def SV.ow : SV → Prop
  | .o _ => True
  | .g _ => True
  | _ => False
/-- the drawing row: the script, the place, the mixed number, the rest -/
structure RS where
  ns : List Int
  i : Nat
  s : Int
  c : Int
/-- the drawing row's address; the address of a lambda that was handed on -/
structure RA where
  row : Option Addr
  lam : Option Addr
abbrev Env := List (Option SV)

def M (α : Type) : Type := RS → Option (α × RS)
def ret {α : Type} (a : α) : M α := fun rs => some (a, rs)
def fail {α : Type} : M α := fun _ => none
def bnd {α β : Type} (m : M α) (k : α → M β) : M β := fun rs => match m rs with
  | none => none
  | some (a, rs') => k a rs'
def lft {α : Type} (o : Option α) : M α := match o with
  | none => fail
  | some a => ret a
instance : Monad M where
  pure := ret
  bind := bnd
theorem bnd_some {α β : Type} {m : M α} {k : α → M β} {rs : RS} {r : β × RS} (h : bnd m k rs = some r) : ∃ a rs', m rs = some (a, rs') ∧ k a rs' = some r := by
  unfold bnd at h
  cases e : m rs with
  | none => rw [e] at h; cases h
  | some p => rw [e] at h; exact ⟨p.1, p.2, rfl, h⟩
theorem lft_some {α : Type} {o : Option α} {rs : RS} {a : α} {rs' : RS} (h : lft o rs = some (a, rs')) : o = some a ∧ rs' = rs := by
  cases o with
  | none => cases h
  | some x => cases h; exact ⟨rfl, rfl⟩
theorem ret_some {α : Type} {x : α} {rs : RS} {a : α} {rs' : RS} (h : ret x rs = some (a, rs')) : x = a ∧ rs' = rs := by
  cases h; exact ⟨rfl, rfl⟩

end DV
namespace L2
open PySem
section
variable {K : PySem.W.Frag}
theorem ex_rdd {H H' : Hp} {a : Addr} {u : HO} (e : ∀ o, H a = some o → H' a = some o) (h : Rd H a u) : Rd H' a u := by
  rcases h with h | ⟨o, h⟩
  · exact Or.inl (e _ h)
  · exact Or.inr ⟨o, e _ h⟩
theorem ex_l {H H' : Hp} {a : Addr} {xs : List V} (e : ∀ o, H a = some o → H' a = some o) (h : SqL K H a xs) : SqL K H' a xs := by
  rcases h with h | h
  · exact Or.inl (ex_rdd e h)
  · exact Or.inr h
theorem ex_t {H H' : Hp} {a : Addr} {xs : List V} (e : ∀ o, H a = some o → H' a = some o) (h : SqT K H a xs) : SqT K H' a xs := by
  rcases h with h | h
  · exact Or.inl (ex_rdd e h)
  · exact Or.inr h
mutual
theorem Dp.mono {F F' : Hp} (e : ∀ a o, F a = some o → F' a = some o) : ∀ (d : PyData) (v : V), Dp K F v d → Dp K F' v d
  | .none, _, h => by cases h; exact .non
  | .bool _, _, h => by cases h; exact .bl _
  | .int _, _, h => by cases h; exact .int _
  | .str _, _, h => by cases h; exact .str _
  | .list ds, _, h => by
    cases h with
    | lst hs ha => exact .lst (ex_l (e _) hs) (Dp.monoA e ds _ ha)
  | .tuple ds, _, h => by
    cases h with
    | tup hs ha => exact .tup (ex_t (e _) hs) (Dp.monoA e ds _ ha)
  | .dict _, _, h => by cases h
theorem Dp.monoA {F F' : Hp} (e : ∀ a o, F a = some o → F' a = some o) : ∀ (ds : List PyData) (vs : List V), DpAll K F vs ds → DpAll K F' vs ds
  | [], _, h => by cases h; exact .nil
  | d :: ds, _, h => by
    cases h with
    | cons h1 h2 => exact .cons (Dp.mono e d _ h1) (Dp.monoA e ds _ h2)
end
theorem DpAll.len {F : Hp} : ∀ {vs : List V} {ds : List PyData}, DpAll K F vs ds → vs.length = ds.length
  | _, _, .nil => rfl
  | _, _, .cons _ h => congrArg (· + 1) (DpAll.len h)
theorem DpAll.get {F : Hp} : ∀ {vs : List V} {ds : List PyData} {i : Nat} {d : PyData}, DpAll K F vs ds → ds[i]? = some d → ∃ v, vs[i]? = some v ∧ Dp K F v d
  | _, _, _, _, .nil, h => by simp at h
  | _, _, 0, _, .cons h1 _, h => by
    simp at h; subst h
    exact ⟨_, rfl, h1⟩
  | _, _, i + 1, _, .cons _ h2, h => by
    simp at h
    obtain ⟨v, e, r⟩ := DpAll.get h2 h
    exact ⟨v, by simpa using e, r⟩
theorem DpAll.append {F : Hp} : ∀ {vs ws : List V} {ds es : List PyData}, DpAll K F vs ds → DpAll K F ws es → DpAll K F (vs ++ ws) (ds ++ es)
  | _, _, _, _, .nil, h => h
  | _, _, _, _, .cons h1 h2, h => .cons h1 (DpAll.append h2 h)
theorem DpAll.set {F : Hp} : ∀ {vs : List V} {ds : List PyData} (i : Nat) {v : V} {d : PyData}, DpAll K F vs ds → Dp K F v d → DpAll K F (vs.set i v) (ds.set i d)
  | _, _, _, _, _, .nil, _ => .nil
  | _, _, 0, _, _, .cons _ h2, h => .cons h h2
  | _, _, i + 1, _, _, .cons h1 h2, h => .cons h1 (DpAll.set i h2 h)
theorem DpAll.take {F : Hp} : ∀ (n : Nat) {vs : List V} {ds : List PyData}, DpAll K F vs ds → DpAll K F (vs.take n) (ds.take n)
  | 0, _, _, _ => .nil
  | n + 1, _, _, .nil => .nil
  | n + 1, _, _, .cons h1 h2 => .cons h1 (DpAll.take n h2)
theorem DpAll.drop {F : Hp} : ∀ (n : Nat) {vs : List V} {ds : List PyData}, DpAll K F vs ds → DpAll K F (vs.drop n) (ds.drop n)
  | 0, _, _, h => h
  | n + 1, _, _, .nil => .nil
  | n + 1, _, _, .cons h1 h2 => DpAll.drop n h2
theorem DpAll.rev {F : Hp} : ∀ {vs : List V} {ds : List PyData}, DpAll K F vs ds → DpAll K F vs.reverse ds.reverse
  | _, _, .nil => .nil
  | _, _, .cons h1 h2 => by
    rw [List.reverse_cons, List.reverse_cons]
    exact DpAll.append (DpAll.rev h2) (.cons h1 .nil)
theorem DpAll.rep {F : Hp} {vs : List V} {ds : List PyData} (h : DpAll K F vs ds) : ∀ n : Nat, DpAll K F (List.replicate n vs).flatten (List.replicate n ds).flatten
  | 0 => .nil
  | n + 1 => by
    rw [List.replicate_succ, List.flatten_cons, List.replicate_succ, List.flatten_cons]
    exact DpAll.append h (DpAll.rep h n)
end
end L2
namespace DV
open PySem L2
/-- ints among data -/
def intsOf : List D → Option (List Int)
  | [] => some []
  | .int i :: r => match intsOf r with
    | some js => some (i :: js)
    | none => none
  | _ => none
theorem ints_map : ∀ js : List Int, intsOf (js.map PyData.int) = some js
  | [] => rfl
  | j :: js => by
    show (match intsOf (js.map PyData.int) with | some js => some (j :: js) | none => none) = _
    rw [ints_map js]

end DV
namespace L2
open PySem
section
variable {K : PySem.W.Frag}
theorem DpAll.intsV {F : Hp} : ∀ {vs : List V} {ds : List PyData} {js : List Int}, DpAll K F vs ds → DV.intsOf ds = some js → vs = js.map V.int
  | _, _, _, .nil, h => by cases h; rfl
  | _, d :: r, js, .cons h1 h2, h => by
    cases d with
    | int i =>
      unfold DV.intsOf at h
      cases e : DV.intsOf r with
      | none => rw [e] at h; cases h
      | some ks =>
        rw [e] at h
        cases h
        cases h1
        rw [DpAll.intsV h2 e]
        rfl
    | none => unfold DV.intsOf at h; cases h
    | bool _ => unfold DV.intsOf at h; cases h
    | str _ => unfold DV.intsOf at h; cases h
    | list _ => unfold DV.intsOf at h; cases h
    | tuple _ => unfold DV.intsOf at h; cases h
    | dict _ => unfold DV.intsOf at h; cases h
theorem DpAll.ofInts {F : Hp} : ∀ (js : List Int), DpAll K F (js.map V.int) (js.map PyData.int)
  | [] => .nil
  | j :: js => .cons (.int j) (DpAll.ofInts js)
end
end L2
namespace DV
open PySem L2
section
variable {K : PySem.W.Frag}
/-- the defs that hold a lambda -/
def lamNames : List Str := ["due_order_in", "punctual_in", "within", "least_greatest", "plan_by", "due_plan", "short_plan", "unit_order", "longest_first", "short_lists", "unlike_sum", "by_rank", "names_of", "most_apart", "piercing", "heaviest_apart", "most_on", "heaviest_on", "fewest_machines", "johnson_order", "lag_order", "next_job", "by_rule", "free_gaps", "family_sum", "family_lateness", "two_owners", "short_order"]
def tabTo : Option Value → Option Value → Option (Addr × Str)
  | some (.str n _), some (.ref P) => if lamNames.elem n = true then some (P, n ++ ".<locals>.<lambda>") else none
  | _, _ => none
def tabOf (o : Obj) : Option (Addr × Str) := match o.data with
  | .fields vs => tabTo vs[1]? vs[11]?
  | _ => none
/-- the tables of the code objects that K tells, each with the one name that it may tell -/
def tabsOf : PySem.W.Frag → List (Addr × Str)
  | [] => []
  | (_, o) :: r => match tabOf o with
    | some p => p :: tabsOf r
    | none => tabsOf r
/-- what is never written anew: all but those tables -/
def Fx (K : PySem.W.Frag) (a : Addr) (o : HO) : Prop := (∀ ps, o ≠ .tbl ps) ∨ ∀ q, (a, q) ∉ tabsOf K
theorem Fx.lst {a : Addr} {vs : List V} : Fx K a (.lst vs) := .inl fun _ z => nomatch z
theorem Fx.tup {a : Addr} {vs : List V} : Fx K a (.tup vs) := .inl fun _ z => nomatch z
structure RowOk (K : PySem.W.Frag) (R : RA) (rs : RS) (F H : Hp) : Prop where
  at_ : ∀ r, R.row = some r → ∃ a, H r = some (.lst [.ref a, .int (rs.i : Int), .int rs.s, .int rs.c]) ∧ SqL K F a (rs.ns.map V.int) ∧ rs.ns.length ≤ 63
  tab : LamX.Tabs (tabsOf K) H
  fnt : ∀ a o, F a = some o → Fx K a o
theorem RowOk.mono {K : PySem.W.Frag} {R : RA} {rs : RS} {F F' H : Hp} (h : RowOk K R rs F H) (k : ∀ a o, F a = some o → F' a = some o) (n : ∀ a o, F' a = some o → Fx K a o) : RowOk K R rs F' H :=
  ⟨fun r e => by
    obtain ⟨a, e1, h1, h2⟩ := h.at_ r e
    exact ⟨a, e1, ex_l (k _) h1, h2⟩, h.tab, n⟩
theorem tabs_at {T : List (Addr × Str)} {H : Hp} (t : LamX.Tabs T H) {a : Addr} {q : Str} (h : (a, q) ∈ T) : ∃ ps, H a = some (.tbl ps) := by
  obtain ⟨ps, e, _⟩ := t _ h
  exact ⟨ps, e⟩
theorem tabs_upd {T : List (Addr × Str)} {H : Hp} (t : LamX.Tabs T H) {a : Addr} {o : HO} (h : H a = none ∨ ∃ vs, H a = some (.lst vs)) : LamX.Tabs T (upd H a o) := fun p hp => by
  obtain ⟨ps, e, h2, h3⟩ := t p hp
  have ne : ∀ b u, H b = some u → (∀ vs, u ≠ .lst vs) → b ≠ a := fun b u e1 e2 z => by
    subst z
    rcases h with h | ⟨vs, h⟩
    · rw [h] at e1; cases e1
    · rw [h] at e1
      exact e2 vs (Option.some.inj e1).symm
  refine ⟨ps, by rw [upd_ne (ne _ _ e fun vs z => nomatch z)]; exact e, h2, fun pos cv hc => ?_⟩
  obtain ⟨c, e1, e2⟩ := h3 pos cv hc
  exact ⟨c, e1, by rw [upd_ne (ne _ _ e2 fun vs z => by unfold LamX.CodeO at z; cases z)]; exact e2⟩
/-- the heap grows; F is what is never changed any more -/
structure Step (K : PySem.W.Frag) (R : RA) (rs' : RS) (F H F' H' : Hp) : Prop where
  keep : ∀ a o, H a = some o → some a ≠ R.row → (n : Fx K a o := by exact .inl fun _ z => nomatch z) → H' a = some o
  sub : ∀ a o, F a = some o → F' a = some o
  new : ∀ a o, F' a = some o → F a = some o ∨ H a = none
  fin : ∀ a o, F' a = some o → H' a = some o
  row : RowOk K R rs' F' H'
  rF : ∀ r, R.row = some r → F' r = none
theorem Step.refl {R : RA} {rs : RS} {F H : Hp} (h1 : ∀ a o, F a = some o → H a = some o) (h2 : RowOk K R rs F H) (h3 : ∀ r, R.row = some r → F r = none) : Step K R rs F H F H :=
  ⟨fun _ _ h _ _ => h, fun _ _ h => h, fun _ _ h => .inl h, h1, h2, h3⟩
theorem Step.back {R : RA} {rs rs' : RS} {F H F' H' : Hp} (s : Step K R rs' F H F' H') (r0 : RowOk K R rs F H) {a : Addr} (h : H' a = none) : H a = none := by
  cases e : H a with
  | none => rfl
  | some o =>
    by_cases q : some a = R.row
    · obtain ⟨b, hb, _⟩ := s.row.at_ a q.symm
      rw [h] at hb; cases hb
    · by_cases t : ∃ n, (a, n) ∈ tabsOf K
      · obtain ⟨n, t⟩ := t
        obtain ⟨ps, hb⟩ := tabs_at s.row.tab t
        rw [h] at hb; cases hb
      · rw [s.keep a o e q (.inr fun n z => t ⟨n, z⟩)] at h; cases h
theorem Step.trans {R : RA} {rs rs1 rs2 : RS} {F H F1 H1 F2 H2 : Hp} (r0 : RowOk K R rs F H) (a : Step K R rs1 F H F1 H1) (b : Step K R rs2 F1 H1 F2 H2) : Step K R rs2 F H F2 H2 :=
  ⟨fun c o h q n => b.keep c o (a.keep c o h q n) q n, fun c o h => b.sub c o (a.sub c o h), fun c o h => by
    rcases b.new c o h with z | z
    · exact a.new c o z
    · exact .inr (a.back r0 z), b.fin, b.row, b.rF⟩

mutual
/-- data as a key -/
def nk : D → Option NestedKey
  | .none => some .none
  | .int i => some (.num i)
  | .tuple ds => match nkA ds with
    | some ks => some (.tup ks)
    | none => none
  | .bool _ => none
  | .str _ => none
  | .list _ => none
  | .dict _ => none
def nkA : List D → Option (List NestedKey)
  | [] => some []
  | d :: ds => match nk d, nkA ds with
    | some k, some ks => some (k :: ks)
    | _, _ => none
end
/-- a dict's object: its keys' tuples stand at the addresses -/
def dcO (a : Addr) (xs : List (NestedKey × Addr × V)) : HO := .ext fun h => (a == sysModules) = false ∧ xs.length ≤ sizeLine ∧ (xs.map (·.1)).Nodup ∧ ∃ (o : Obj) (es : Array DictEntry) (ep : Nat) (ys : List (NestedKey × Addr × Value)),
  h.get? a = some o ∧ o.ExactDict ∧ o.data = .dict es ep ∧ Paired (fun (p : NestedKey × Addr × V) (q : NestedKey × Addr × Value) => p.1 = q.1 ∧ p.2.1 = q.2.1 ∧ RelV p.2.2 q.2.2) xs ys ∧
  ∀ w : World, es.toList = ys.map fun y => (⟨y.1.hash w, .ref y.2.1, y.2.2⟩ : DictEntry)
def DictR (K : PySem.W.Frag) (F : Hp) (a : Addr) (u : HO) (c : DC) : Prop := match c.t with
  | false => ∃ ks : List (Int × V), u = .dK (ks.map fun p => ((.inl p.1 : Key), p.2)) ∧ (ks.map (·.1)).Nodup ∧ Paired (fun (p : Int × V) (q : D × D) => q.1 = .int p.1 ∧ Dp K F p.2 q.2) ks c.kv
  | true => ∃ xs : List (NestedKey × Addr × V), u = dcO a xs ∧ Paired (fun (x : NestedKey × Addr × V) (q : D × D) => nk q.1 = some x.1 ∧ x.1.depth ≤ 8 ∧ Dp K F (.ref x.2.1) q.1 ∧ Dp K F x.2.2 q.2) xs c.kv
theorem Paired.imp {α β : Type} {f g : α → β → Prop} : ∀ {xs : List α} {ys : List β}, Paired f xs ys → (∀ x y, f x y → g x y) → Paired g xs ys
  | _, _, .nil, _ => .nil
  | _, _, .cons h t, k => .cons (k _ _ h) (Paired.imp t k)
theorem DictR.mono {F F' : Hp} {a : Addr} {u : HO} {c : DC} (e : ∀ a o, F a = some o → F' a = some o) (h : DictR K F a u c) : DictR K F' a u c := by
  unfold DictR at h ⊢
  cases q : c.t with
  | false =>
    rw [q] at h
    obtain ⟨ks, h1, h2, h3⟩ := h
    exact ⟨ks, h1, h2, Paired.imp h3 fun x y z => ⟨z.1, Dp.mono e _ _ z.2⟩⟩
  | true =>
    rw [q] at h
    obtain ⟨xs, h1, h2⟩ := h
    exact ⟨xs, h1, Paired.imp h2 fun x y z => ⟨z.1, z.2.1, Dp.mono e _ _ z.2.2.1, Dp.mono e _ _ z.2.2.2⟩⟩
theorem DictR.fx {F : Hp} {a : Addr} {u : HO} {c : DC} (h : DictR K F a u c) : Fx K a u := by
  unfold DictR at h
  cases q : c.t with
  | false =>
    rw [q] at h
    obtain ⟨ks, h1, _⟩ := h
    exact .inl fun _ z => by rw [h1] at z; cases z
  | true =>
    rw [q] at h
    obtain ⟨xs, h1, _⟩ := h
    exact .inl fun _ z => by rw [h1] at z; unfold dcO at z; cases z

/-- v stands for the result; H0: the heap ahead (a new list is new since it) -/
def VR (K : PySem.W.Frag) (R : RA) (F H0 H : Hp) (v : V) : RV → Prop
  | .d x => Dp K F v x
  | .b ds => ∃ a vs, v = .ref a ∧ H a = some (.lst vs) ∧ some a ≠ R.row ∧ DpAll K F vs ds
  | .n ds => ∃ a vs, v = .ref a ∧ H a = some (.lst vs) ∧ H0 a = none ∧ F a = none ∧ some a ≠ R.row ∧ DpAll K F vs ds
  | .gb c => ∃ a u, v = .ref a ∧ H a = some u ∧ some a ≠ R.row ∧ DictR K F a u c
  | .gn c => ∃ a u, v = .ref a ∧ H a = some u ∧ H0 a = none ∧ F a = none ∧ some a ≠ R.row ∧ DictR K F a u c
  | .row => ∃ r, R.row = some r ∧ v = .ref r
theorem VR.step {R : RA} {rs' : RS} {F F' H0 H H' : Hp} {v : V} {x : RV} (s : Step K R rs' F H F' H') (h : VR K R F H0 H v x) : VR K R F' H0 H' v x := by
  cases x with
  | d x => exact Dp.mono s.sub _ _ h
  | b ds =>
    obtain ⟨a, vs, e, h1, h2, h3⟩ := h
    exact ⟨a, vs, e, s.keep a _ h1 h2, h2, Dp.monoA s.sub _ _ h3⟩
  | n ds =>
    obtain ⟨a, vs, e, h1, h0, h2, h3, h4⟩ := h
    refine ⟨a, vs, e, s.keep _ _ h1 h3, h0, ?_, h3, Dp.monoA s.sub _ _ h4⟩
    cases q : F' a with
    | none => rfl
    | some o =>
      rcases s.new a o q with z | z
      · rw [h2] at z; cases z
      · rw [h1] at z; cases z
  | gb c =>
    obtain ⟨a, u, e, h1, h2, h3⟩ := h
    exact ⟨a, u, e, s.keep a _ h1 h2 h3.fx, h2, h3.mono s.sub⟩
  | gn c =>
    obtain ⟨a, u, e, h1, h0, h2, h3, h4⟩ := h
    refine ⟨a, u, e, s.keep _ _ h1 h3 h4.fx, h0, ?_, h3, h4.mono s.sub⟩
    cases q : F' a with
    | none => rfl
    | some o =>
      rcases s.new a o q with z | z
      · rw [h2] at z; cases z
      · rw [h1] at z; cases z
  | row => exact h
theorem VR.older {R : RA} {F H0 H1 H : Hp} {v : V} {x : RV} (e : ∀ a, H1 a = none → H0 a = none) (h : VR K R F H1 H v x) : VR K R F H0 H v x := by
  cases x with
  | d x => exact h
  | b ds => exact h
  | n ds =>
    obtain ⟨a, vs, e1, h1, h0, h2, h3, h4⟩ := h
    exact ⟨a, vs, e1, h1, e a h0, h2, h3, h4⟩
  | gb c => exact h
  | gn c =>
    obtain ⟨a, u, e1, h1, h0, h2, h3, h4⟩ := h
    exact ⟨a, u, e1, h1, e a h0, h2, h3, h4⟩
  | row => exact h

/-- the error of the class cls, its dict d: its name, its field; the dict is never changed -/
def XF (K : PySem.W.Frag) (F : Hp) (cls : Value) (d : Option Addr) (e : Ex) : Prop := PySem.W.nsIn K mainGlobals e.c = some (some cls) ∧ match e.f with
  | none => d = none
  | some (f, x) => ∃ dd w, d = some dd ∧ F dd = some (.xd [(f, w)]) ∧ Dp K F w x
theorem XF.mono {F F' : Hp} {cls : Value} {d : Option Addr} {e : Ex} (k : ∀ a o, F a = some o → F' a = some o) (h : XF K F cls d e) : XF K F' cls d e := by
  unfold XF at h ⊢
  refine ⟨h.1, ?_⟩
  have h := h.2
  cases z : e.f with
  | none => rw [z] at h; exact h
  | some p =>
    rw [z] at h
    obtain ⟨dd, w, h1, h2, h3⟩ := h
    exact ⟨dd, w, h1, k _ _ h2, Dp.mono k _ _ h3⟩
def SR (K : PySem.W.Frag) (R : RA) (L : Nat → Option (Addr × List V)) (E F H : Hp) (i : Nat) (v : V) : SV → Prop
  | .d x => Dp K F v x
  | .o ds => ∃ a vs, v = .ref a ∧ H a = some (.lst vs) ∧ E a = none ∧ F a = none ∧ some a ≠ R.row ∧ DpAll K F vs ds
  | .k ds => ∃ a vs, L i = some (a, vs) ∧ v = .ref a ∧ DpAll K F vs ds
  | .g c => ∃ a u, v = .ref a ∧ H a = some u ∧ E a = none ∧ F a = none ∧ some a ≠ R.row ∧ DictR K F a u c
  | .un => True
  | .row => ∃ r, R.row = some r ∧ v = .ref r
  | .ex q e => v = .ref q.a ∧ XF K F q.cls q.d e
  | .fn x => ∃ a, PySem.W.nsIn K mainGlobals x = some (some (.ref a)) ∧ v = .ref a
  | .lm => ∃ f, R.lam = some f ∧ v = .ref f
structure Rel (K : PySem.W.Frag) (R : RA) (L : Nat → Option (Addr × List V)) (E F : Hp) (ρ : Env) (σ : L2.St) (rs : RS) (H : Hp) : Prop where
  len : ρ.length = σ.length
  ex : ∀ a o, E a = some o → H a = some o
  ent : ∀ a o, E a = some o → Fx K a o
  fr : ∀ a o, F a = some o → H a = some o
  row : RowOk K R rs F H
  rE : ∀ r, R.row = some r → E r = none ∧ F r = none
  lk : ∀ i a vs, L i = some (a, vs) → E a = some (.lst vs)
  sl : ∀ (i : Nat) (sv : SV), ρ[i]? = some (some sv) → ∃ v, σ[i]? = some (some v) ∧ SR K R L E F H i v sv
  own : ∀ (i j : Nat) (a : Addr) (x y : SV), ρ[i]? = some (some x) → ρ[j]? = some (some y) → x.ow → y.ow → σ[i]? = some (some (V.ref a)) → σ[j]? = some (some (V.ref a)) → i = j
section
variable {R : RA} {L : Nat → Option (Addr × List V)} {E F F' H H' : Hp} {ρ : Env} {σ : L2.St} {rs rs' : RS}
theorem Rel.refl (r : Rel K R L E F ρ σ rs H) : Step K R rs F H F H := Step.refl r.fr r.row fun _ e => (r.rE _ e).2
theorem Rel.step (r : Rel K R L E F ρ σ rs H) (s : Step K R rs' F H F' H') : Rel K R L E F' ρ σ rs' H' where
  len := r.len
  ex := fun a o h => s.keep a o (r.ex a o h) (fun q => by
    have := (r.rE a q.symm).1
    rw [h] at this; cases this) (r.ent a o h)
  ent := r.ent
  fr := s.fin
  row := s.row
  rE := fun q e => ⟨(r.rE q e).1, s.rF q e⟩
  lk := r.lk
  sl := fun i sv h => by
    obtain ⟨v, e, q⟩ := r.sl i sv h
    refine ⟨v, e, ?_⟩
    cases sv with
    | d x => exact Dp.mono s.sub _ _ q
    | k ds =>
      obtain ⟨a, vs, hl, e1, h3⟩ := q
      exact ⟨a, vs, hl, e1, Dp.monoA s.sub _ _ h3⟩
    | o ds =>
      obtain ⟨a, vs, e1, h1, h2, h3, h4, h5⟩ := q
      refine ⟨a, vs, e1, s.keep _ _ h1 h4, h2, ?_, h4, Dp.monoA s.sub _ _ h5⟩
      cases q : F' a with
      | none => rfl
      | some o =>
        rcases s.new a o q with z | z
        · rw [h3] at z; cases z
        · rw [h1] at z; cases z
    | g c =>
      obtain ⟨a, u, e1, h1, h2, h3, h4, h5⟩ := q
      refine ⟨a, u, e1, s.keep _ _ h1 h4 h5.fx, h2, ?_, h4, h5.mono s.sub⟩
      cases q : F' a with
      | none => rfl
      | some o =>
        rcases s.new a o q with z | z
        · rw [h3] at z; cases z
        · rw [h1] at z; cases z
    | un => exact trivial
    | row => exact q
    | ex _ _ => exact ⟨q.1, XF.mono s.sub q.2⟩
    | fn _ => exact q
    | lm => exact q
  own := r.own
/-- reading a name -/
def vget (ρ : Env) (i : Nat) : Option RV := match ρ[i]? with
  | some (some (.d x)) => some (.d x)
  | some (some (.o ds)) => some (.b ds)
  | some (some (.k ds)) => some (.b ds)
  | some (some (.g c)) => some (.gb c)
  | some (some .row) => some .row
  | _ => none
theorem Rel.get (r : Rel K R L E F ρ σ rs H) {i : Nat} {x : RV} (h : vget ρ i = some x) : ∃ v, σ[i]? = some (some v) ∧ VR K R F H H v x := by
  unfold vget at h
  cases e : ρ[i]? with
  | none => rw [e] at h; cases h
  | some o =>
    cases o with
    | none => rw [e] at h; cases h
    | some sv =>
      rw [e] at h
      obtain ⟨v, ev, q⟩ := r.sl i sv e
      refine ⟨v, ev, ?_⟩
      cases sv with
      | d x => cases h; exact q
      | k ds =>
        cases h
        obtain ⟨a, vs, hl, e1, h3⟩ := q
        have hE := r.lk i a vs hl
        have hR : some a ≠ R.row := fun q => by
          have z := (r.rE a q.symm).1
          rw [hE] at z
          cases z
        exact ⟨a, vs, e1, r.ex a _ hE, hR, h3⟩
      | o ds =>
        cases h
        obtain ⟨a, vs, e1, h1, h2, h3, h4, h5⟩ := q
        exact ⟨a, vs, e1, h1, h4, h5⟩
      | g c =>
        cases h
        obtain ⟨a, vs, e1, h1, h2, h3, h4, h5⟩ := q
        exact ⟨a, vs, e1, h1, h4, h5⟩
      | un => cases h
      | ex _ _ => cases h
      | fn _ => cases h
      | lm => cases h
      | row => cases h; exact q
end

def ESem (K : PySem.W.Frag) (R : RA) (t : TE) (f : Env → M RV) : Prop :=
  ∀ (L : Nat → Option (Addr × List V)) (E : Hp) (ρ : Env) (σ : L2.St) (F H : Hp) (rs : RS) (x : RV) (rs' : RS) (Q : VK), Rel K R L E F ρ σ rs H → f ρ rs = some (x, rs') →
    (∀ v F' H', Step K R rs' F H F' H' → VR K R F' H H' v x → Q v H') → t σ H Q
def TSem (K : PySem.W.Frag) (R : RA) (t : TT) (f : Env → M Bool) : Prop :=
  ∀ (L : Nat → Option (Addr × List V)) (E : Hp) (ρ : Env) (σ : L2.St) (F H : Hp) (rs : RS) (x : Bool) (rs' : RS) (Q : Bool → Hp → Prop), Rel K R L E F ρ σ rs H → f ρ rs = some (x, rs') →
    (∀ F' H', Step K R rs' F H F' H' → Q x H') → t σ H Q
inductive VRs (K : PySem.W.Frag) (R : RA) (F H0 H : Hp) : List V → List RV → Prop
  | nil : VRs K R F H0 H [] []
  | cons {v : V} {vs : List V} {x : RV} {xs : List RV} : VR K R F H0 H v x → VRs K R F H0 H vs xs → VRs K R F H0 H (v :: vs) (x :: xs)
theorem VRs.len {R : RA} {F H0 H : Hp} : ∀ {vs : List V} {xs : List RV}, VRs K R F H0 H vs xs → vs.length = xs.length
  | _, _, .nil => rfl
  | _, _, .cons _ t => congrArg (· + 1) (VRs.len t)
theorem VRs.older {R : RA} {F H0 H1 H : Hp} (e : ∀ a, H1 a = none → H0 a = none) : ∀ {vs : List V} {xs : List RV}, VRs K R F H1 H vs xs → VRs K R F H0 H vs xs
  | _, _, .nil => .nil
  | _, _, .cons h t => .cons (h.older e) (VRs.older e t)
def ASem (K : PySem.W.Frag) (R : RA) (t : TA) (f : Env → M (List RV)) : Prop :=
  ∀ (L : Nat → Option (Addr × List V)) (E : Hp) (ρ : Env) (σ : L2.St) (F H : Hp) (rs : RS) (x : List RV) (rs' : RS) (Q : List V → Hp → Prop), Rel K R L E F ρ σ rs H → f ρ rs = some (x, rs') →
    (∀ vs F' H', Step K R rs' F H F' H' → VRs K R F' H H' vs x → Q vs H') → t σ H Q
structure DE (X : Cx) (R : RA) (e : Expr) (t : TE) (f : Env → M RV) : Prop where
  pe : PE X e t
  sem : ESem X.K R t f
structure DT (X : Cx) (R : RA) (e : Expr) (t : TT) (f : Env → M Bool) : Prop where
  pt : PT X e t
  sem : TSem X.K R t f
/-- in an and, an or -/
structure DW (X : Cx) (R : RA) (e : Expr) (t : TT) (f : Env → M Bool) : Prop where
  pw : PW X e t
  sem : TSem X.K R t f
structure DA (X : Cx) (R : RA) (es : List Expr) (t : TA) (f : Env → M (List RV)) : Prop where
  pa : PA X es t
  sem : ASem X.K R t f
end
end DV

namespace DV
open PySem L2

def asInt : RV → Option Int
  | .d (.int i) => some i
  | _ => none
def asBool : RV → Option Bool
  | .d (.bool b) => some b
  | _ => none
/-- the items of a list or tuple -/
def items : RV → Option (List D)
  | .d (.tuple ds) => some ds
  | .d (.list ds) => some ds
  | .b ds => some ds
  | .n ds => some ds
  | _ => none
/-- as data (a new list is from then on never changed) -/
def toD : RV → Option D
  | .d x => some x
  | .n ds => some (.list ds)
  | _ => none
def toDs : List RV → Option (List D)
  | [] => some []
  | x :: xs => match toD x, toDs xs with
    | some d, some ds => some (d :: ds)
    | _, _ => none
section
variable {K : PySem.W.Frag} {R : RA} {F F' H0 H H' : Hp} {rs rs' : RS}
/-- a sequence at an address: a list or a tuple -/
theorem VR.items {v : V} {x : RV} {ds : List D} (s : Step K R rs F H F H) (h : VR K R F H0 H v x) (e : DV.items x = some ds) :
    ∃ a vs, v = .ref a ∧ (SqL K H a vs ∨ SqT K H a vs) ∧ DpAll K F vs ds := by
  cases x with
  | d x =>
    cases x with
    | tuple es =>
      cases e
      cases h with
      | tup h1 h2 => exact ⟨_, _, rfl, .inr (ex_t (s.fin _) h1), h2⟩
    | list es =>
      cases e
      cases h with
      | lst h1 h2 => exact ⟨_, _, rfl, .inl (ex_l (s.fin _) h1), h2⟩
    | none => cases e
    | bool _ => cases e
    | int _ => cases e
    | str _ => cases e
    | dict _ => cases e
  | b es =>
    cases e
    obtain ⟨a, vs, e1, h1, h2, h3⟩ := h
    exact ⟨a, vs, e1, .inl (.inl (.inl h1)), h3⟩
  | n es =>
    cases e
    obtain ⟨a, vs, e1, h1, h0, h2, h3, h4⟩ := h
    exact ⟨a, vs, e1, .inl (.inl (.inl h1)), h4⟩
  | gb _ => cases e
  | gn _ => cases e
  | row => cases e
theorem VR.int {v : V} {x : RV} {i : Int} (h : VR K R F H0 H v x) (e : asInt x = some i) : v = .int i := by
  cases x with
  | d x =>
    cases x with
    | int j => cases e; cases h; rfl
    | _ => cases e
  | _ => cases e
theorem VR.bool {v : V} {x : RV} {i : Bool} (h : VR K R F H0 H v x) (e : asBool x = some i) : v = .bl i := by
  cases x with
  | d x =>
    cases x with
    | bool j => cases e; cases h; rfl
    | _ => cases e
  | _ => cases e
/-- F grows by things that are new since H0 -/
theorem VRs.freeze (s : Step K R rs F H F H) : ∀ {vs : List V} {xs : List RV} {ds : List D}, VRs K R F H0 H vs xs → toDs xs = some ds →
    ∃ F', (∀ a o, F a = some o → F' a = some o) ∧ (∀ a o, F' a = some o → F a = some o ∨ H0 a = none) ∧ (∀ a o, F' a = some o → H a = some o) ∧ (∀ r, R.row = some r → F' r = none) ∧ (∀ a o, F' a = some o → Fx K a o) ∧ DpAll K F' vs ds
  | _, _, _, .nil, e => by
    cases e
    exact ⟨F, fun _ _ h => h, fun _ _ h => .inl h, s.fin, s.rF, s.row.fnt, .nil⟩
  | _, _, _, .cons (v := v) (x := x) (xs := xs) hx ht, e => by
    unfold toDs at e
    cases e1 : toD x with
    | none => rw [e1] at e; cases e
    | some d =>
      cases e2 : toDs xs with
      | none => rw [e1, e2] at e; cases e
      | some es =>
        rw [e1, e2] at e
        cases e
        obtain ⟨F1, k1, k2, k3, k4, k5, hA⟩ := VRs.freeze s ht e2
        cases x with
        | d y =>
          cases e1
          exact ⟨F1, k1, k2, k3, k4, k5, .cons (Dp.mono k1 _ _ hx) hA⟩
        | n y =>
          cases e1
          obtain ⟨a, ws, rfl, h1, h0, h2, h3, h4⟩ := hx
          have ku : ∀ b o, F1 b = some o → upd F1 a (.lst ws) b = some o := fun b o q => by
            by_cases eb : b = a
            · subst eb
              rw [upd_same]
              have := k3 b o q
              rw [h1] at this
              exact this
            · rw [upd_ne eb]; exact q
          refine ⟨upd F1 a (.lst ws), fun b o q => ku b o (k1 b o q), fun b o q => ?_, fun b o q => ?_, fun r er => ?_, fun b o q => ?_, .cons (.lst (.inl (.inl upd_same)) (Dp.monoA (fun b o q => ku b o (k1 b o q)) _ _ h4)) (Dp.monoA ku _ _ hA)⟩
          · by_cases eb : b = a
            · subst eb; exact .inr h0
            · rw [upd_ne eb] at q; exact k2 b o q
          · by_cases eb : b = a
            · subst eb
              rw [upd_same] at q
              rw [h1]; exact q
            · rw [upd_ne eb] at q; exact k3 b o q
          · rw [upd_ne (fun z => h3 (by rw [er, z]))]
            exact k4 r er
          · by_cases eb : b = a
            · subst eb; rw [upd_same] at q; cases q; exact .lst
            · rw [upd_ne eb] at q; exact k5 b o q
        | b y => cases e1
        | gb _ => cases e1
        | gn _ => cases e1
        | row => cases e1
/-- a new object at p -/
theorem Step.new_lst {p : Addr} {vs : List V} (s : Step K R rs F H F H) (hp : H p = none) : Step K R rs F H F (upd H p (.lst vs)) ∧ F p = none ∧ some p ≠ R.row := by
  have hr : some p ≠ R.row := fun q => by
    obtain ⟨a, e, _⟩ := s.row.at_ p q.symm
    rw [hp] at e; cases e
  have hF : F p = none := by
    cases q : F p with
    | none => rfl
    | some o =>
      have := s.fin p o q
      rw [hp] at this; cases this
  refine ⟨⟨fun a o h _ _ => by rw [upd_ne (ne_of_none h hp)]; exact h, fun _ _ h => h, fun _ _ h => .inl h, fun a o h => by rw [upd_ne (ne_of_none (s.fin a o h) hp)]; exact s.fin a o h, ⟨fun r e => ?_, tabs_upd s.row.tab (.inl hp), s.row.fnt⟩, s.rF⟩, hF, hr⟩
  obtain ⟨a, e1, h1, h3⟩ := s.row.at_ r e
  exact ⟨a, by rw [upd_ne (ne_of_none e1 hp)]; exact e1, h1, h3⟩
theorem Step.new_tup {p : Addr} {vs : List V} (s : Step K R rs F H F H) (hp : H p = none) : Step K R rs F H (upd F p (.tup vs)) (upd H p (.tup vs)) := by
  have hr : some p ≠ R.row := fun q => by
    obtain ⟨a, e, _⟩ := s.row.at_ p q.symm
    rw [hp] at e; cases e
  refine ⟨fun a o h _ _ => by rw [upd_ne (ne_of_none h hp)]; exact h, fun a o h => ?_, fun a o h => ?_, fun a o h => ?_, ⟨fun r e => ?_, tabs_upd s.row.tab (.inl hp), fun a o h => ?_⟩, fun r e => ?_⟩
  · rw [upd_ne (ne_of_none (s.fin a o h) hp)]; exact h
  · by_cases eb : a = p
    · subst eb; exact .inr hp
    · rw [upd_ne eb] at h; exact .inl h
  · by_cases eb : a = p
    · subst eb; rw [upd_same] at h ⊢; exact h
    · rw [upd_ne eb] at h ⊢; exact s.fin a o h
  · obtain ⟨a, e1, h1, h3⟩ := s.row.at_ r e
    exact ⟨a, by rw [upd_ne (ne_of_none e1 hp)]; exact e1, ex_l (fun o q => by rw [upd_ne (ne_of_none (s.fin _ _ q) hp)]; exact q) h1, h3⟩
  · by_cases eb : a = p
    · subst eb; rw [upd_same] at h; cases h; exact .tup
    · rw [upd_ne eb] at h; exact s.row.fnt a o h
  · rw [upd_ne (fun z => hr (by rw [e, z]))]
    exact s.rF r e
end

section
variable {X : Cx} {R : RA} {a b c e : Expr} {es : List Expr} {ta tb tc te : TE} {tt uu : TT} {t u : TA} {f g h : Env → M RV} {pos : Pos}

def eVar (i : Nat) : Env → M RV := fun ρ => lft (vget ρ i)
def eC (d : D) : Env → M RV := fun _ => ret (.d d)
theorem esem_var (K : PySem.W.Frag) (i : Nat) : ESem K R (tVar i) (eVar i) := fun L E ρ σ F H rs x rs' Q r hf k => by
  obtain ⟨e, rfl⟩ := lft_some hf
  obtain ⟨v, ev, hv⟩ := r.get e
  exact ⟨v, ev, k v F H r.refl hv⟩
theorem de_var (i : Nat) {x : Str} (hN : X.N[i]? = some x := by rfl) (hv : Vis X.env.scope x := by first | exact Or.inl rfl | exact Or.inr (Or.inl rfl) | exact Or.inr (Or.inr rfl)) (hd : (x == ("__debug__" : Str)) = false := by decide)
    (hcd : (x == ("__classdict__" : Str)) = false := by decide) : DE X R (.Name x pos) (tVar i) (eVar i) := ⟨pe_var hN hv hd hcd, esem_var _ i⟩
theorem esem_c (K : PySem.W.Frag) {v : V} {d : D} (h : ∀ F, Dp K F v d) : ESem K R (tC v) (eC d) := fun L E ρ σ F H rs x rs' Q r hf k => by
  obtain ⟨e, rfl⟩ := ret_some hf
  subst e
  exact k v F H r.refl (h F)
theorem de_int {i : Int} {j} : DE X R (.Constant (.int i) j pos) (tC (.int i)) (eC (.int i)) := ⟨pe_int, esem_c _ fun _ => .int i⟩
theorem de_bl {i : Bool} {j} : DE X R (.Constant (.bool i) j pos) (tC (.bl i)) (eC (.bool i)) := ⟨pe_bl, esem_c _ fun _ => .bl i⟩
theorem de_non {j} : DE X R (.Constant .none j pos) (tC .non) (eC .none) := ⟨pe_non, esem_c _ fun _ => .non⟩
/-- a module's constant -/
theorem de_globI {x : Str} {i : Int} {tk : Tok} (hg : Gl X x) (hm : X.mg x = some (.int i tk)) (hd : (x == ("__debug__" : Str)) = false := by decide) : DE X R (.Name x pos) (tC (.int i)) (eC (.int i)) :=
  ⟨pe_glob hg hm ⟨_, rfl⟩ hd, esem_c _ fun _ => .int i⟩

def RSem (K : PySem.W.Frag) (R : RA) (r : R2) (g : RV → RV → Option RV) : Prop :=
  ∀ (F H0 H : Hp) (rs : RS) (x y : V) (p q z : RV) (Q : VK), Step K R rs F H F H → VR K R F H0 H x p → VR K R F H0 H y q → g p q = some z →
    (∀ v F' H', Step K R rs F H F' H' → VR K R F' H H' v z → Q v H') → r x y H Q
def e2 (g : RV → RV → Option RV) (f h : Env → M RV) : Env → M RV := fun ρ => bnd (f ρ) fun x => bnd (h ρ) fun y => lft (g x y)
theorem esem_op {K : PySem.W.Frag} {r : R2} {g : RV → RV → Option RV} (hr : RSem K R r g) (ha : ESem K R ta f) (hb : ESem K R tb h) : ESem K R (tOp r ta tb) (e2 g f h) := fun L E ρ σ F H rs x rs' Q r0 hf k => by
  obtain ⟨x1, rs1, e1, hf⟩ := bnd_some hf
  obtain ⟨x2, rs2, e2, hf⟩ := bnd_some hf
  obtain ⟨e3, rfl⟩ := lft_some hf
  refine ha L E ρ σ F H rs x1 rs1 _ r0 e1 fun v1 F1 H1 s1 h1 => ?_
  refine hb L E ρ σ F1 H1 rs1 x2 rs' _ (r0.step s1) e2 fun v2 F2 H2 s2 h2 => ?_
  have s12 := s1.trans r0.row s2
  refine hr F2 H H2 rs' v1 v2 x1 x2 x Q ((r0.step s1).step s2).refl (h1.step s2) (h2.older fun a q => s1.back r0.row q) e3 fun v3 F3 H3 s3 h3 => ?_
  exact k v3 F3 H3 (s12.trans r0.row s3) (h3.older fun a q => s12.back r0.row q)
theorem de_op {op : Operator} {r : R2} {g : RV → RV → Option RV} (ho : OpR X (binaryOp op) r) (hr : RSem X.K R r g) (ha : DE X R a ta f) (hb : DE X R b tb h) : DE X R (.BinOp a op b pos) (tOp r ta tb) (e2 g f h) :=
  ⟨pe_op ho ha.pe hb.pe, esem_op hr ha.sem hb.sem⟩
theorem de_cmp {op : CmpOp} {r : R2} {g : RV → RV → Option RV} (ho : OpR X (compareOp op) r) (hr : RSem X.K R r g) (ha : DE X R a ta f) (hb : DE X R b tb h) (hm : behindInMarks op b = false) : DE X R (.Compare a [op] [b] pos) (tOp r ta tb) (e2 g f h) :=
  ⟨pe_cmpR ho ha.pe hb.pe hm, esem_op hr ha.sem hb.sem⟩
def eT (f : Env → M RV) : Env → M Bool := fun ρ => bnd (f ρ) fun x => lft (asBool x)
theorem tsem_of {K : PySem.W.Frag} (he : ESem K R te f) : TSem K R (tTest te) (eT f) := fun L E ρ σ F H rs x rs' Q r hf k => by
  obtain ⟨x1, rs1, e1, hf⟩ := bnd_some hf
  obtain ⟨e2, rfl⟩ := lft_some hf
  exact he L E ρ σ F H rs x1 rs' _ r e1 fun v1 F1 H1 s1 h1 => ⟨x, h1.bool e2, k F1 H1 s1⟩
theorem dt_cmp {op : CmpOp} {r : R2} {g : RV → RV → Option RV} (ho : OpR X (compareOp op) r) (hr : RSem X.K R r g) (ha : DE X R a ta f) (hb : DE X R b tb h) (hm : behindInMarks op b = false) :
    DT X R (.Compare a [op] [b] pos) (tTest (tOp r ta tb)) (eT (e2 g f h)) := ⟨pt_cmpR ho ha.pe hb.pe hm, tsem_of (esem_op hr ha.sem hb.sem)⟩
theorem dt_val (he : DE X R e te f) (hw : ∀ whole, isTrue e X.env whole = (do let v ← whole; standAt e.pos; holding [v] (truthy v)) := by intro _; rfl) : DT X R e (tB te) (eT f) := ⟨pt_val he.pe hw, tsem_of he.sem⟩

def eCh (g g' : RV → RV → Option RV) (f h k : Env → M RV) : Env → M RV := fun ρ => bnd (f ρ) fun x => bnd (h ρ) fun y => bnd (lft (g x y)) fun b => bnd (lft (asBool b)) fun c =>
  if c = true then bnd (k ρ) fun w => lft (g' y w) else ret (.d (.bool false))
theorem esem_chain {K : PySem.W.Frag} {r r' : R2} {g g' : RV → RV → Option RV} {k : Env → M RV} (hr : RSem K R r g) (hr' : RSem K R r' g') (ha : ESem K R ta f) (hb : ESem K R tb h) (hc : ESem K R tc k) :
    ESem K R (tChain r r' ta tb tc) (eCh g g' f h k) := fun L E ρ σ F H rs x rs' Q r0 hf kk => by
  obtain ⟨x1, rs1, e1, hf1⟩ := bnd_some hf
  obtain ⟨x2, rs4, e2, hf2⟩ := bnd_some hf1
  obtain ⟨z, rs3, e3', hf3⟩ := bnd_some hf2
  obtain ⟨e3, q3⟩ := lft_some e3'
  obtain ⟨c, rs5, e4', hf4⟩ := bnd_some hf3
  obtain ⟨e4, q4⟩ := lft_some e4'
  rw [q4, q3] at hf4
  clear e3' e4' hf hf1 hf2 hf3
  refine ha L E ρ σ F H rs x1 rs1 _ r0 e1 fun v1 F1 H1 s1 h1 => ?_
  refine hb L E ρ σ F1 H1 rs1 x2 rs4 _ (r0.step s1) e2 fun v2 F2 H2 s2 h2 => ?_
  have s12 := s1.trans r0.row s2
  have h2' := h2.older (H0 := H) fun a q => s1.back r0.row q
  refine hr F2 H H2 rs4 v1 v2 x1 x2 z _ (Rel.refl ((r0.step s1).step s2)) (h1.step s2) h2' e3 fun v3 F3 H3 s3 h3 => ?_
  have s13 := s12.trans r0.row s3
  refine ⟨c, h3.bool e4, ?_⟩
  cases c with
  | false =>
    rw [if_neg Bool.false_ne_true] at hf4
    obtain ⟨e5, rfl⟩ := ret_some hf4
    subst e5
    exact kk _ F3 H3 s13 (.bl false)
  | true =>
    rw [if_pos rfl] at hf4
    obtain ⟨x5, rs5, e5, hf5⟩ := bnd_some hf4
    obtain ⟨e6, rfl⟩ := lft_some hf5
    refine hc L E ρ σ F3 H3 rs4 x5 rs' _ (r0.step s13) e5 fun v5 F5 H5 s5 h5 => ?_
    have s15 := s13.trans r0.row s5
    refine hr' F5 H H5 rs' v2 v5 x2 x5 x Q (r0.step s15).refl ((h2'.step s3).step s5) (h5.older fun a q => s13.back r0.row q) e6 fun v6 F6 H6 s6 h6 => ?_
    exact kk v6 F6 H6 (s15.trans r0.row s6) (h6.older fun a q => s15.back r0.row q)
theorem de_chain {op op' : CmpOp} {r r' : R2} {g g' : RV → RV → Option RV} {k : Env → M RV} (ho : OpR X (compareOp op) r) (ho' : OpR X (compareOp op') r') (hr : RSem X.K R r g) (hr' : RSem X.K R r' g')
    (ha : DE X R a ta f) (hb : DE X R b tb h) (hc : DE X R c tc k) (hm : lastMarks [op, op'] [b, c] = false := by with_unfolding_all rfl) : DE X R (.Compare a [op, op'] [b, c] pos) (tChain r r' ta tb tc) (eCh g g' f h k) :=
  ⟨pe_chain ho ho' ha.pe hb.pe hc.pe hm, esem_chain hr hr' ha.sem hb.sem hc.sem⟩
def gI (C : Int → Int → Bool) (k : Int → Int → D) : RV → RV → Option RV := fun x y => match asInt x, asInt y with
  | some i, some j => if C i j = true then some (.d (k i j)) else none
  | _, _ => none
theorem rsem_I {K : PySem.W.Frag} {C : Int → Int → Prop} {Cb : Int → Int → Bool} {kv : Int → Int → V} {k : Int → Int → D} (hC : ∀ i j, Cb i j = true → C i j) (hk : ∀ F i j, Dp K F (kv i j) (k i j)) : RSem K R (rI C kv) (gI Cb k) :=
  fun F H0 H rs x y p q z Q s hx hy e kk => by
    unfold gI at e
    cases e1 : asInt p with
    | none => rw [e1] at e; cases e
    | some i =>
      cases e2 : asInt q with
      | none => rw [e1, e2] at e; cases e
      | some j =>
        rw [e1, e2] at e
        by_cases hc : Cb i j = true
        · simp only [hc, if_true] at e
          cases e
          exact ⟨i, j, hx.int e1, hy.int e2, hC i j hc, kk _ F H s (hk F i j)⟩
        · simp only [hc] at e
          cases e
theorem rsem_I0 {K : PySem.W.Frag} {kv : Int → Int → V} {k : Int → Int → D} (hk : ∀ F i j, Dp K F (kv i j) (k i j)) : RSem K R (rI0 kv) (gI (fun _ _ => true) k) :=
  fun F H0 H rs x y p q z Q s hx hy e kk => by
    obtain ⟨i, j, h1, h2, _, h4⟩ := rsem_I (C := fun _ _ => True) (kv := kv) (fun _ _ _ => trivial) hk F H0 H rs x y p q z Q s hx hy e kk
    exact ⟨i, j, h1, h2, h4⟩
/-- a product: one factor below 2^64 in size -/
def cMul (i j : Int) : Bool := (decide (-18446744073709551616 < i) && decide (i < 18446744073709551616)) || (decide (-18446744073709551616 < j) && decide (j < 18446744073709551616))
theorem cMul_ok (i j : Int) (h : cMul i j = true) : CMul i j := by
  unfold cMul at h
  simp only [Bool.or_eq_true, Bool.and_eq_true, decide_eq_true_eq] at h
  unfold CMul
  exact h
def cDiv (i j : Int) : Bool := decide (0 < j) && decide (j < 1073741824)
theorem cDiv_ok (i j : Int) (h : cDiv i j = true) : CDiv i j := by
  unfold cDiv at h
  simp only [Bool.and_eq_true, decide_eq_true_eq] at h
  exact h
def cPos (i j : Int) : Bool := decide (0 < j)
def cPow (i j : Int) : Bool := decide (0 ≤ j) && (decide (j ≤ 1000000) && decide (i.natAbs < 18446744073709551616))
theorem cPow_ok (i j : Int) (h : cPow i j = true) : CPow i j := by
  unfold cPow at h
  simp only [Bool.and_eq_true, decide_eq_true_eq] at h
  exact h
abbrev gSubI := gI (fun _ _ => true) fun i j => .int (i - j)
abbrev gFdiv := gI cDiv fun i j => .int (i / j)
abbrev gMod := gI cPos fun i j => .int (i % j)
abbrev gPow := gI cPow fun i j => .int (i ^ j.toNat)
abbrev gLt := gI (fun _ _ => true) fun i j => .bool (decide (i < j))
abbrev gLe := gI (fun _ _ => true) fun i j => .bool (decide (i ≤ j))
abbrev gGt := gI (fun _ _ => true) fun i j => .bool (decide (j < i))
abbrev gGe := gI (fun _ _ => true) fun i j => .bool (decide (j ≤ i))
end
end DV

namespace DV
open PySem L2

/-- as data, where it is read at once -/
def viewD : RV → Option D
  | .d x => some x
  | .b ds => some (.list ds)
  | .n ds => some (.list ds)
  | .gb _ => none
  | .gn _ => none
  | .row => none
section
variable {K : PySem.W.Frag} {R : RA} {F F' H0 H H' : Hp} {rs rs' : RS}
theorem VR.view {v : V} {x : RV} {d : D} (s : Step K R rs F H F H) (h : VR K R F H0 H v x) (e : viewD x = some d) : Dp K H v d := by
  cases x with
  | d x => cases e; exact Dp.mono s.fin _ _ h
  | b ds =>
    cases e
    obtain ⟨a, vs, rfl, h1, h2, h3⟩ := h
    exact .lst (.inl (.inl h1)) (Dp.monoA s.fin _ _ h3)
  | n ds =>
    cases e
    obtain ⟨a, vs, rfl, h1, h0, h2, h3, h4⟩ := h
    exact .lst (.inl (.inl h1)) (Dp.monoA s.fin _ _ h4)
  | gb _ => cases e
  | gn _ => cases e
  | row => cases e
end

section
variable {X : Cx} {R : RA} {K : PySem.W.Frag} {a b c e : Expr} {es : List Expr} {ta tb tc te : TE} {tt uu : TT} {t u : TA} {f g h : Env → M RV} {pos : Pos}

def gEqB (neg : Bool) : RV → RV → Option RV := fun x y => match viewD x, viewD y with
  | some d, some e => if SeqAt.shaped d = true then if SeqAt.shaped e = true then some (.d (.bool (if neg then !PyData.eqv d e else PyData.eqv d e))) else none else none
  | _, _ => none
abbrev gEq := gEqB false
abbrev gNe := gEqB true
theorem gEqB_some {neg : Bool} {x y z : RV} (h : gEqB neg x y = some z) : ∃ d e, viewD x = some d ∧ viewD y = some e ∧ SeqAt.shaped d = true ∧ SeqAt.shaped e = true ∧ z = .d (.bool (if neg then !PyData.eqv d e else PyData.eqv d e)) := by
  unfold gEqB at h
  cases e1 : viewD x with
  | none => rw [e1] at h; cases h
  | some d =>
    cases e2 : viewD y with
    | none => rw [e1, e2] at h; cases h
    | some e =>
      rw [e1, e2] at h
      by_cases s1 : SeqAt.shaped d = true
      · by_cases s2 : SeqAt.shaped e = true
        · simp only [s1, s2, if_true] at h
          exact ⟨d, e, rfl, rfl, s1, s2, (Option.some.inj h).symm⟩
        · simp only [s1, s2, if_true] at h; cases h
      · simp only [s1] at h; cases h
theorem rsem_eq : RSem K R (rEqD K) gEq := fun F H0 H rs x y p q z Q s hx hy e kk => by
  obtain ⟨d, e', e1, e2, s1, s2, rfl⟩ := gEqB_some e
  exact ⟨d, e', hx.view s e1, hy.view s e2, s1, s2, kk _ F H s (.bl _)⟩
theorem rsem_ne : RSem K R (rNeD K) gNe := fun F H0 H rs x y p q z Q s hx hy e kk => by
  obtain ⟨d, e', e1, e2, s1, s2, rfl⟩ := gEqB_some e
  exact ⟨d, e', hx.view s e1, hy.view s e2, s1, s2, kk _ F H s (.bl _)⟩
/-- in a list or tuple -/
def seqD (y : D) (ds : List D) : Prop := y = .list ds ∨ y = .tuple ds
def rInA (K : PySem.W.Frag) (neg : Bool) : R2 := fun x y H Q => ∃ d ds e, Dp K H x d ∧ Dp K H y e ∧ seqD e ds ∧ SeqAt.shaped d = true ∧ SeqAt.shaped (.list ds) = true ∧ Q (.bl (if neg then !(ds.any fun z => PyData.eqv z d) else ds.any fun z => PyData.eqv z d)) H
theorem op_inA (hu : X.A.units + 65 < cLine) : OpR X (compareOp .In) (rInA X.K false) := by
  intro pins s σ H x y v u Q I rx ry h
  obtain ⟨d, ds, e, hd, he, hs, sd, se, q⟩ := h
  obtain ⟨as, r1⟩ := Dp.reads I d x v hd rx
  obtain ⟨bs, r2⟩ := Dp.reads I e y u he ry
  rcases hs with rfl | rfl
  · exact SeqAt.in_list_reads r2 r1 (SeqAt.canLay_of_shaped se) (SeqAt.canLay_of_shaped sd) (PyProof.Rows.room_in_shaped sd hu) ⟨.bl _, H, I, rfl, q⟩
  · exact SeqAt.in_tuple_reads r2 r1 (SeqAt.canLay_of_shaped se) (SeqAt.canLay_of_shaped sd) (PyProof.Rows.room_in_shaped sd hu) ⟨.bl _, H, I, rfl, q⟩
theorem op_notInA (hu : X.A.units + 65 < cLine) : OpR X (compareOp .NotIn) (rInA X.K true) := by
  intro pins s σ H x y v u Q I rx ry h
  obtain ⟨d, ds, e, hd, he, hs, sd, se, q⟩ := h
  obtain ⟨as, r1⟩ := Dp.reads I d x v hd rx
  obtain ⟨bs, r2⟩ := Dp.reads I e y u he ry
  rcases hs with rfl | rfl
  · exact SeqAt.notIn_list_reads r2 r1 (SeqAt.canLay_of_shaped se) (SeqAt.canLay_of_shaped sd) (PyProof.Rows.room_in_shaped sd hu) ⟨.bl _, H, I, rfl, q⟩
  · exact SeqAt.notIn_tuple_reads r2 r1 (SeqAt.canLay_of_shaped se) (SeqAt.canLay_of_shaped sd) (PyProof.Rows.room_in_shaped sd hu) ⟨.bl _, H, I, rfl, q⟩
def gInB (neg : Bool) : RV → RV → Option RV := fun x y => match viewD x, items y with
  | some d, some ds => if SeqAt.shaped d = true then if SeqAt.shaped (.list ds) = true then some (.d (.bool (if neg then !(ds.any fun z => PyData.eqv z d) else ds.any fun z => PyData.eqv z d))) else none else none
  | _, _ => none
abbrev gIn := gInB false
abbrev gNotIn := gInB true
theorem VR.seqD {v : V} {x : RV} {ds : List D} {F H0 H : Hp} {rs : RS} (s : Step K R rs F H F H) (h : VR K R F H0 H v x) (e : DV.items x = some ds) : ∃ y, Dp K H v y ∧ DV.seqD y ds := by
  obtain ⟨a, vs, rfl, h1, h2⟩ := h.items s e
  rcases h1 with h1 | h1
  · exact ⟨.list ds, .lst h1 (Dp.monoA s.fin _ _ h2), .inl rfl⟩
  · exact ⟨.tuple ds, .tup h1 (Dp.monoA s.fin _ _ h2), .inr rfl⟩
theorem rsem_in (neg : Bool) : RSem K R (rInA K neg) (gInB neg) := fun F H0 H rs x y p q z Q s hx hy e kk => by
  unfold gInB at e
  cases e1 : viewD p with
  | none => rw [e1] at e; cases e
  | some d =>
    cases e2 : items q with
    | none => rw [e1, e2] at e; cases e
    | some ds =>
      rw [e1, e2] at e
      by_cases s1 : SeqAt.shaped d = true
      · by_cases s2 : SeqAt.shaped (.list ds) = true
        · simp only [s1, s2, if_true] at e
          obtain ⟨y', h1, h2⟩ := hy.seqD s e2
          have e := Option.some.inj e
          subst e
          exact ⟨d, ds, y', hx.view s e1, h1, h2, s1, s2, kk _ F H s (.bl _)⟩
        · simp only [s1, s2, if_true] at e; cases e
      · simp only [s1] at e; cases e
/-- is None -/
def isNoneD : D → Bool
  | .none => true
  | _ => false
def gIsN (neg : Bool) : RV → RV → Option RV := fun x y => match viewD x, y with
  | some d, .d .none => some (.d (.bool (if neg then !isNoneD d else isNoneD d)))
  | _, _ => none
theorem none_iff {v : V} {d : D} {F : Hp} (h : Dp K F v d) : decide (v = V.non) = isNoneD d := by
  cases h <;> rfl
theorem gIsN_some {neg : Bool} {x y z : RV} (h : gIsN neg x y = some z) : ∃ d, viewD x = some d ∧ y = .d .none ∧ z = .d (.bool (if neg then !isNoneD d else isNoneD d)) := by
  unfold gIsN at h
  cases e1 : viewD x with
  | none => rw [e1] at h; cases h
  | some d =>
    rw [e1] at h
    cases y with
    | d y =>
      cases y with
      | none => exact ⟨d, rfl, rfl, (Option.some.inj h).symm⟩
      | _ => cases h
    | _ => cases h
theorem rsem_isN : RSem K R (fun x y H Q => y = .non ∧ Q (.bl (decide (x = .non))) H) (gIsN false) := fun F H0 H rs x y p q z Q s hx hy e kk => by
  obtain ⟨d, e1, rfl, rfl⟩ := gIsN_some e
  cases hy
  refine ⟨rfl, kk _ F H s ?_⟩
  rw [none_iff (hx.view s e1)]
  exact .bl _
def gIx : RV → RV → Option RV := fun x y => match items x, asInt y with
  | some ds, some i => (atI ds i).map RV.d
  | _, _ => none
theorem rsem_ix : RSem K R (rIx K) gIx := fun F H0 H rs x y p q z Q s hx hy e kk => by
  unfold gIx at e
  cases e1 : items p with
  | none => rw [e1] at e; cases e
  | some ds =>
    cases e2 : asInt q with
    | none => rw [e1, e2] at e; cases e
    | some i =>
      rw [e1, e2] at e
      obtain ⟨a, vs, rfl, h1, h2⟩ := hx.items s e1
      have e' : (atI ds i).map RV.d = some z := e
      cases e3 : atI ds i with
      | none => rw [e3] at e'; cases e'
      | some d =>
        rw [e3] at e'
        cases e'
        unfold atI at e3
        cases e4 : ixN ds.length i with
        | none => rw [e4] at e3; cases e3
        | some j =>
          rw [e4] at e3
          obtain ⟨v, hv, hd⟩ := h2.get (show ds[j]? = some d from e3)
          have hat : atI vs i = some v := by
            unfold atI
            rw [h2.len, e4]
            exact hv
          rcases h1 with h1 | h1
          · exact .inl ⟨a, vs, i, v, rfl, hy.int e2, h1, hat, kk _ F H s hd⟩
          · exact .inr (.inl ⟨a, vs, i, v, rfl, hy.int e2, h1, hat, kk _ F H s hd⟩)
theorem de_ix (ha : DE X R a ta f) (hb : DE X R b tb h) (hs : PlainIx b := by exact fun _ _ => rfl) : DE X R (.Subscript a b pos) (tOp (rIx X.K) ta tb) (e2 gIx f h) :=
  ⟨pe_ix ix_seq ha.pe hb.pe hs, esem_op rsem_ix ha.sem hb.sem⟩
def cutD (xs : List D) (lo hi : Option Int) : List D := (xs.drop (HT.sIx xs.length 0 lo)).take (HT.sIx xs.length xs.length hi - HT.sIx xs.length 0 lo)
def eSlice (f : Env → M RV) (lo hi : Env → M (Option Int)) : Env → M RV := fun ρ => bnd (f ρ) fun x => bnd (lo ρ) fun l => bnd (hi ρ) fun u => lft (match x with
  | .d (.tuple ds) => some (.d (.tuple (cutD ds l u)))
  | .d (.list ds) => some (.n (cutD ds l u))
  | .b ds => some (.n (cutD ds l u))
  | .n ds => some (.n (cutD ds l u))
  | _ => none)
theorem OpR.or {fo : Value → Value → Sem Value} {r r' : R2} (h : OpR X fo r) (h' : OpR X fo r') : OpR X fo (fun x y H Q => r x y H Q ∨ r' x y H Q) := fun pins s σ H x y v u Q I rx ry hq => by
  rcases hq with q | q
  · exact h pins s σ H x y v u Q I rx ry q
  · exact h' pins s σ H x y v u Q I rx ry q
theorem sz_of {n : Nat} (h : n ≤ 100000) : n ≤ sizeLine := Nat.le_trans h (by decide)
theorem sz_lt {n : Nat} (h : n < 100000) : n < sizeLine := Nat.lt_of_lt_of_le h (by decide)
end
end DV

namespace DV
open PySem L2 PyProof.Rows PySem.Spec
theorem tup_once (l : Addr) (its : Array Value) (n : Nat) (u : Tok) (dd : Option Addr) (sl : Array (Option Value)) :
    Meets (Builtin.«tuple.__mul__» ⟨[.ref l, .int 1 u], []⟩)
      (fun _ R s => (s.heap.get? l = some ⟨.type "tuple", dd, .seq its n, sl⟩) ∧ R (.ok (.ret (Value.ref l))) s) :=
  .of_wp fun prog w A R s h => by
    obtain ⟨hp, g, d, tk, os⟩ := s
    obtain ⟨hl, h⟩ := h
    have f1 := AutoSeq1.idx_int
    wp_walk using AutoSeq1.wpAny_loadPart' hl
    exact ⟨_, rfl, h⟩
def rOnce (K : PySem.W.Frag) : R2 := fun x y H Q => ∃ l xs, x = .ref l ∧ y = .int 1 ∧ SqT K H l xs ∧ Q (.ref l) H
section
variable {X : Cx}
theorem op_once : OpR X (binaryOp .Mult) (rOnce X.K) := by
  intro pins s σ H x y v u Q I rx ry h
  obtain ⟨l, xs, rfl, rfl, hT, q⟩ := h
  have hx := rx
  cases rx
  obtain ⟨t, rfl⟩ := ry
  obtain ⟨its, r, ⟨⟨cls, dd, data, sl⟩, ho, hc, n, hd⟩, hs⟩ := I.tuple hT
  simp only at hc hd
  subst hc hd
  refine wpAny_binaryOp_repeat_ref (T := "tuple") (U := "int") (by decide) ⟨_, ho, rfl⟩ (fun s' => typeIs_int s' 1 t) noFill_tuple_mul F.fills_int_mul F.slot_int_rmul repeat_tuple F.slot_int_index.lookup
    (call_meets F.slot_int_rmul (typeIs_int s 1 t) F.entry_int_rmul (F.args_int_rmul_2 _ _) (int_rmul_tuple 1 t l its.toArray n dd sl)
      ⟨ho, rfl, ⟨_, ho, rfl⟩, call_meets F.slot_tuple_mul ⟨_, ho, rfl⟩ F.entry_tuple_mul (F.args_tuple_mul_2 _ _) (tup_once l its.toArray n t dd sl) ⟨ho, ?_⟩⟩)
  exact ⟨.ref l, _, I, rfl, q⟩
end
end DV

namespace DV
open PySem L2
section
variable {X : Cx} {R : RA} {K : PySem.W.Frag} {a b c e : Expr} {es : List Expr} {ta tb tc te : TE} {tt uu : TT} {t u : TA} {f g h : Env → M RV} {p q pos : Pos}

/-- a tracked list -/
theorem VR.lst {F H0 H : Hp} {v : V} {x : RV} {ds : List D} (h : VR K R F H0 H v x) (e : x = .b ds ∨ x = .n ds) : ∃ a vs, v = .ref a ∧ H a = some (.lst vs) ∧ DpAll K F vs ds := by
  rcases e with rfl | rfl
  · obtain ⟨a, vs, e1, h1, h2, h3⟩ := h
    exact ⟨a, vs, e1, h1, h3⟩
  · obtain ⟨a, vs, e1, h1, h0, h2, h3, h4⟩ := h
    exact ⟨a, vs, e1, h1, h4⟩
def asLst : RV → Option (List D)
  | .b ds => some ds
  | .n ds => some ds
  | _ => none
theorem asLst_some {x : RV} {ds : List D} (h : asLst x = some ds) : x = .b ds ∨ x = .n ds := by
  cases x with
  | b es => cases h; exact .inl rfl
  | n es => cases h; exact .inr rfl
  | _ => cases h
def gAddA : RV → RV → Option RV := fun x y => match x, y with
  | .d (.int i), .d (.int j) => some (.d (.int (i + j)))
  | .d (.tuple ds), .d (.tuple es) => if ds.length + es.length ≤ 100000 then some (.d (.tuple (ds ++ es))) else none
  | x, y => match asLst x, asLst y with
    | some ds, some es => if ds.length + es.length ≤ 100000 then some (.n (ds ++ es)) else none
    | _, _ => none
abbrev rAddA (K : PySem.W.Frag) : R2 := fun x y H Q => rI0 (fun i j => .int (i + j)) x y H Q ∨ (rCatA K x y H Q ∨ rCat x y H Q)
theorem op_addA : OpR X (binaryOp .Add) (rAddA X.K) := OpR.or op_add (OpR.or op_catA op_cat)
theorem gAddA_some {x y z : RV} (h : gAddA x y = some z) :
    (∃ i j, x = .d (.int i) ∧ y = .d (.int j) ∧ z = .d (.int (i + j))) ∨
    (∃ ds es, x = .d (.tuple ds) ∧ y = .d (.tuple es) ∧ ds.length + es.length ≤ 100000 ∧ z = .d (.tuple (ds ++ es))) ∨
    (∃ ds es, asLst x = some ds ∧ asLst y = some es ∧ ds.length + es.length ≤ 100000 ∧ z = .n (ds ++ es)) := by
  unfold gAddA at h
  split at h
  · exact .inl ⟨_, _, rfl, rfl, (Option.some.inj h).symm⟩
  · split at h
    · rename_i hl
      exact .inr (.inl ⟨_, _, rfl, rfl, hl, (Option.some.inj h).symm⟩)
    · cases h
  · split at h
    · rename_i ds es e1 e2
      split at h
      · rename_i hl
        exact .inr (.inr ⟨ds, es, e1, e2, hl, (Option.some.inj h).symm⟩)
      · cases h
    · cases h
theorem rsem_add : RSem K R (rAddA K) gAddA := fun F H0 H rs x y p q z Q s hx hy e kk => by
  rcases gAddA_some e with ⟨i, j, rfl, rfl, rfl⟩ | ⟨ds, es, rfl, rfl, hl, rfl⟩ | ⟨ds, es, e1, e2, hl, rfl⟩
  · cases hx; cases hy
    exact .inl ⟨i, j, rfl, rfl, kk _ F H s (Dp.int _)⟩
  · cases hx with
    | @tup a vs _ h1 h2 =>
      cases hy with
      | @tup b ws _ k1 k2 =>
        refine .inr (.inl ⟨a, b, vs, ws, rfl, rfl, ex_t (s.fin _) h1, ex_t (s.fin _) k1, by rw [h2.len, k2.len]; exact sz_of hl, fun ev => ?_, fun nv ew => ?_, fun nv nw pp hp => ?_⟩)
        · have ed : ds = [] := List.eq_nil_of_length_eq_zero (by rw [← h2.len, ev]; rfl)
          refine kk _ F H s ?_
          rw [ed]
          exact .tup k1 k2
        · have ed : es = [] := List.eq_nil_of_length_eq_zero (by rw [← k2.len, ew]; rfl)
          refine kk _ F H s ?_
          rw [ed, List.append_nil]
          exact .tup h1 h2
        · have s4 := Step.new_tup (vs := vs ++ ws) s hp
          exact kk _ _ _ s4 (.tup (.inl (.inl upd_same)) (Dp.monoA s4.sub _ _ (h2.append k2)))
  · obtain ⟨a, vs, rfl, h1, h2⟩ := hx.lst (asLst_some e1)
    obtain ⟨b, ws, rfl, k1, k2⟩ := hy.lst (asLst_some e2)
    refine .inr (.inr ⟨a, b, vs, ws, rfl, rfl, h1, k1, by rw [h2.len, k2.len]; exact sz_of hl, fun pp hp => ?_⟩)
    obtain ⟨s4, hF, hR⟩ := Step.new_lst (vs := vs ++ ws) s hp
    exact kk _ F _ s4 ⟨pp, _, rfl, upd_same, hp, hF, hR, h2.append k2⟩
/-- list * n -/
def gMulA : RV → RV → Option RV := fun x y => match x, y with
  | .d (.int i), .d (.int j) => if cMul i j = true then some (.d (.int (i * j))) else none
  | .d (.tuple ds), .d (.int j) => if 1 ≤ j ∧ j ≤ 1000 ∧ ds.length ≤ 1000 ∧ ds ≠ [] then some (.d (.tuple (List.replicate j.toNat ds).flatten)) else none
  | x, .d (.int j) => match asLst x with
    | some ds => if -1000 ≤ j ∧ j ≤ 1000 ∧ ds.length ≤ 1000 then some (.n (List.replicate j.toNat ds).flatten) else none
    | none => none
  | _, _ => none
abbrev rMulA (K : PySem.W.Frag) : R2 := fun x y H Q => rI CMul (fun i j => .int (i * j)) x y H Q ∨ ((rOnce K x y H Q ∨ rRepT K x y H Q) ∨ rRep x y H Q)
theorem op_mulA : OpR X (binaryOp .Mult) (rMulA X.K) := OpR.or op_mul (OpR.or (OpR.or op_once op_repT) op_rep)
theorem gMulA_some {x y z : RV} (h : gMulA x y = some z) :
    (∃ i j, x = .d (.int i) ∧ y = .d (.int j) ∧ cMul i j = true ∧ z = .d (.int (i * j))) ∨
    (∃ ds j, x = .d (.tuple ds) ∧ y = .d (.int j) ∧ (1 ≤ j ∧ j ≤ 1000 ∧ ds.length ≤ 1000 ∧ ds ≠ []) ∧ z = .d (.tuple (List.replicate j.toNat ds).flatten)) ∨
    (∃ ds j, asLst x = some ds ∧ y = .d (.int j) ∧ (-1000 ≤ j ∧ j ≤ 1000 ∧ ds.length ≤ 1000) ∧ z = .n (List.replicate j.toNat ds).flatten) := by
  unfold gMulA at h
  split at h
  · split at h
    · rename_i hl
      exact .inl ⟨_, _, rfl, rfl, hl, (Option.some.inj h).symm⟩
    · cases h
  · split at h
    · rename_i hl
      exact .inr (.inl ⟨_, _, rfl, rfl, hl, (Option.some.inj h).symm⟩)
    · cases h
  · split at h
    · rename_i ds e1
      split at h
      · rename_i hl
        exact .inr (.inr ⟨ds, _, e1, rfl, hl, (Option.some.inj h).symm⟩)
      · cases h
    · cases h
  · cases h
theorem rsem_mul : RSem K R (rMulA K) gMulA := fun F H0 H rs x y p q z Q s hx hy e kk => by
  rcases gMulA_some e with ⟨i, j, rfl, rfl, hc, rfl⟩ | ⟨ds, j, rfl, rfl, ⟨h2, h3, h4, h5⟩, rfl⟩ | ⟨ds, j, e1, rfl, ⟨h2, h3, h4⟩, rfl⟩
  · cases hx; cases hy
    exact .inl ⟨i, j, rfl, rfl, cMul_ok i j hc, kk _ F H s (Dp.int _)⟩
  · cases hy
    cases hx with
    | @tup a vs _ k1 k2 =>
      by_cases hj : j = 1
      · subst hj
        refine .inr (.inl (.inl ⟨a, vs, rfl, rfl, ex_t (s.fin _) k1, kk _ F H s ?_⟩))
        rw [show (List.replicate (1 : Int).toNat ds).flatten = ds by simp]
        exact .tup k1 k2
      refine .inr (.inl (.inr ⟨a, j, vs, rfl, rfl, ex_t (s.fin _) k1, fun ev => h5 (List.eq_nil_of_length_eq_zero (by rw [← k2.len, ev]; rfl)), by omega, h3, by rw [k2.len]; exact h4, fun pp hp => ?_⟩))
      have s4 := Step.new_tup (vs := (List.replicate j.toNat vs).flatten) s hp
      exact kk _ _ _ s4 (.tup (.inl (.inl upd_same)) (Dp.monoA s4.sub _ _ (k2.rep _)))
  · cases hy
    obtain ⟨a, vs, rfl, k1, k2⟩ := hx.lst (asLst_some e1)
    refine .inr (.inr ⟨a, j, vs, rfl, rfl, k1, by omega, by omega, ?_, fun pp hp => ?_⟩)
    · rw [k2.len]
      have : ds.length * j.toNat ≤ 1000 * 1000 := Nat.mul_le_mul h4 (by omega)
      exact Nat.le_trans this (by decide)
    · obtain ⟨s4, hF, hR⟩ := Step.new_lst (vs := (List.replicate j.toNat vs).flatten) s hp
      exact kk _ F _ s4 ⟨pp, _, rfl, upd_same, hp, hF, hR, k2.rep _⟩

def eNeg (f : Env → M RV) : Env → M RV := fun ρ => bnd (f ρ) fun x => bnd (lft (asInt x)) fun i => ret (.d (.int (-i)))
theorem de_neg (ha : DE X R a ta f) : DE X R (.UnaryOp .USub a pos) (tUn (rU fun i => .int (-i)) ta) (eNeg f) := ⟨pe_un un_neg ha.pe, fun L E ρ σ F H rs x rs' Q r hf k => by
  obtain ⟨x1, rs1, e1, hf1⟩ := bnd_some hf
  obtain ⟨i, rs2, e2, hf2⟩ := bnd_some hf1
  obtain ⟨e3, q3⟩ := lft_some e2
  obtain ⟨e4, q4⟩ := ret_some hf2
  subst e4 q4 q3
  exact ha.sem L E ρ σ F H rs x1 _ _ r e1 fun v1 F1 H1 s1 h1 => ⟨i, h1.int e3, k _ F1 H1 s1 (Dp.int _)⟩⟩
def tIfT (f : Env → M Bool) (g h : Env → M Bool) : Env → M Bool := fun ρ => bnd (f ρ) fun c => if c = true then g ρ else h ρ
def tRetB (b : Bool) : Env → M Bool := fun _ => ret b
section tests
variable {x y : Env → M Bool} {rest : List Expr}
theorem tsem_and (hx : TSem K R tt x) (hy : TSem K R uu y) : TSem K R (tAnd tt uu) (tIfT x y (tRetB false)) := fun L E ρ σ F H rs z rs' Q r hf k => by
  obtain ⟨c, rs1, e1, hf1⟩ := bnd_some hf
  refine hx L E ρ σ F H rs c rs1 _ r e1 fun F1 H1 s1 => ?_
  cases c with
  | true =>
    rw [if_pos rfl] at hf1 ⊢
    exact hy L E ρ σ F1 H1 rs1 z rs' _ (r.step s1) hf1 fun F2 H2 s2 => k F2 H2 (s1.trans r.row s2)
  | false =>
    rw [if_neg Bool.false_ne_true] at hf1 ⊢
    obtain ⟨e2, q2⟩ := ret_some hf1
    subst e2 q2
    exact k F1 H1 s1
theorem tsem_or (hx : TSem K R tt x) (hy : TSem K R uu y) : TSem K R (tOr tt uu) (tIfT x (tRetB true) y) := fun L E ρ σ F H rs z rs' Q r hf k => by
  obtain ⟨c, rs1, e1, hf1⟩ := bnd_some hf
  refine hx L E ρ σ F H rs c rs1 _ r e1 fun F1 H1 s1 => ?_
  cases c with
  | true =>
    rw [if_pos rfl] at hf1 ⊢
    obtain ⟨e2, q2⟩ := ret_some hf1
    subst e2 q2
    exact k F1 H1 s1
  | false =>
    rw [if_neg Bool.false_ne_true] at hf1 ⊢
    exact hy L E ρ σ F1 H1 rs1 z rs' _ (r.step s1) hf1 fun F2 H2 s2 => k F2 H2 (s1.trans r.row s2)
theorem DW.dt (w : DW X R e tt x) : DT X R e tt x := ⟨w.pw.pt, w.sem⟩
theorem dw_and1 (hx : DT X R a tt x) : DW X R (.BoolOp .And [a] pos) tt x := ⟨pw_and1 hx.pt, hx.sem⟩
theorem dw_or1 (hx : DT X R a tt x) : DW X R (.BoolOp .Or [a] pos) tt x := ⟨pw_or1 hx.pt, hx.sem⟩
theorem dw_and (hx : DT X R a tt x) (hy : DW X R (.BoolOp .And (b :: rest) pos) uu y) : DW X R (.BoolOp .And (a :: b :: rest) pos) (tAnd tt uu) (tIfT x y (tRetB false)) := ⟨pw_and hx.pt hy.pw, tsem_and hx.sem hy.sem⟩
theorem dw_or (hx : DT X R a tt x) (hy : DW X R (.BoolOp .Or (b :: rest) pos) uu y) : DW X R (.BoolOp .Or (a :: b :: rest) pos) (tOr tt uu) (tIfT x (tRetB true) y) := ⟨pw_or hx.pt hy.pw, tsem_or hx.sem hy.sem⟩
def tNotF (x : Env → M Bool) : Env → M Bool := fun ρ => bnd (x ρ) fun c => ret (!c)
theorem dt_not (hx : DT X R a tt x) : DT X R (.UnaryOp .Not a pos) (tNot tt) (tNotF x) := ⟨pt_not hx.pt, fun L E ρ σ F H rs z rs' Q r hf k => by
  obtain ⟨c, rs1, e1, hf1⟩ := bnd_some hf
  obtain ⟨e2, q2⟩ := ret_some hf1
  subst e2 q2
  exact hx.sem L E ρ σ F H rs c _ _ r e1 k⟩
/-- as values -/
def eIfB (f : Env → M RV) (g h : Env → M RV) : Env → M RV := fun ρ => bnd (f ρ) fun v => bnd (lft (asBool v)) fun c => if c = true then g ρ else h ρ
theorem de_one {op} (ha : DE X R a ta f) : DE X R (.BoolOp op [a] pos) ta f := ⟨pe_one ha.pe, ha.sem⟩
theorem de_and (ha : DE X R a ta f) (hb : DE X R (.BoolOp .And (b :: rest) pos) tb g) : DE X R (.BoolOp .And (a :: b :: rest) pos) (tAndV ta tb) (eIfB f g (eC (.bool false))) := ⟨pe_and ha.pe hb.pe, fun L E ρ σ F H rs z rs' Q r hf k => by
  obtain ⟨v, rs1, e1, hf1⟩ := bnd_some hf
  obtain ⟨c, rs2, e2, hf2⟩ := bnd_some hf1
  obtain ⟨e3, q3⟩ := lft_some e2
  subst q3
  refine ha.sem L E ρ σ F H rs v _ _ r e1 fun v1 F1 H1 s1 h1 => ⟨c, h1.bool e3, ?_⟩
  cases c with
  | true =>
    rw [if_pos rfl] at hf2 ⊢
    exact hb.sem L E ρ σ F1 H1 _ z rs' _ (r.step s1) hf2 fun v2 F2 H2 s2 h2 => k v2 F2 H2 (s1.trans r.row s2) (h2.older fun a q => s1.back r.row q)
  | false =>
    rw [if_neg Bool.false_ne_true] at hf2 ⊢
    obtain ⟨e4, q4⟩ := ret_some hf2
    subst e4 q4
    exact k _ F1 H1 s1 (.bl false)⟩
def eNotB (f : Env → M RV) : Env → M RV := fun ρ => bnd (f ρ) fun v => bnd (lft (asBool v)) fun c => ret (.d (.bool (!c)))
theorem de_not (ha : DE X R a ta f) : DE X R (.UnaryOp .Not a pos) (tNotV ta) (eNotB f) := ⟨pe_not ha.pe, fun L E ρ σ F H rs z rs' Q r hf k => by
  obtain ⟨v, rs1, e1, hf1⟩ := bnd_some hf
  obtain ⟨c, rs2, e2, hf2⟩ := bnd_some hf1
  obtain ⟨e3, q3⟩ := lft_some e2
  obtain ⟨e4, q4⟩ := ret_some hf2
  subst e4 q4 q3
  exact ha.sem L E ρ σ F H rs v _ _ r e1 fun v1 F1 H1 s1 h1 => ⟨c, h1.bool e3, k _ F1 H1 s1 (.bl _)⟩⟩
/-- a if t else b; the two ends may be a new list or data -/
def eIf (x : Env → M Bool) (f g : Env → M RV) : Env → M RV := fun ρ => bnd (x ρ) fun c => if c = true then f ρ else g ρ
end tests

def aNil : Env → M (List RV) := fun _ => ret []
def aCons (f : Env → M RV) (fa : Env → M (List RV)) : Env → M (List RV) := fun ρ => bnd (f ρ) fun x => bnd (fa ρ) fun xs => ret (x :: xs)
theorem VRs.step {F F' H0 H H' : Hp} {rs' : RS} (s : Step K R rs' F H F' H') : ∀ {vs : List V} {xs : List RV}, VRs K R F H0 H vs xs → VRs K R F' H0 H' vs xs
  | _, _, .nil => .nil
  | _, _, .cons h t => .cons (h.step s) (VRs.step s t)
theorem da_nil : DA X R [] tNil aNil := ⟨pa_nil, fun L E ρ σ F H rs x rs' Q r hf k => by
  obtain ⟨e1, q1⟩ := ret_some hf
  subst e1 q1
  exact k [] F H r.refl .nil⟩
theorem da_cons {fa : Env → M (List RV)} (ha : DE X R e te f) (hr : DA X R es t fa) (hs : starEach (e :: es) X.env = (false, eval e X.env) :: starEach es X.env := by rfl) : DA X R (e :: es) (tCons te t) (aCons f fa) := ⟨pa_cons ha.pe hr.pa hs, fun L E ρ σ F H rs x rs' Q r hf k => by
  obtain ⟨x1, rs1, e1, hf1⟩ := bnd_some hf
  obtain ⟨xs, rs2, e2, hf2⟩ := bnd_some hf1
  obtain ⟨e3, q3⟩ := ret_some hf2
  subst e3 q3
  refine ha.sem L E ρ σ F H rs x1 rs1 _ r e1 fun v1 F1 H1 s1 h1 => ?_
  refine hr.sem L E ρ σ F1 H1 rs1 xs _ _ (r.step s1) e2 fun vs F2 H2 s2 h2 => ?_
  exact k _ F2 H2 (s1.trans r.row s2) (.cons (h1.step s2) (h2.older fun a q => s1.back r.row q))⟩
def aStar (f : Env → M RV) (fa : Env → M (List RV)) : Env → M (List RV) := fun ρ => bnd (f ρ) fun x => bnd (lft (items x)) fun ds => bnd (fa ρ) fun xs => ret (ds.map RV.d ++ xs)
theorem VRs.append {F H0 H : Hp} : ∀ {vs ws : List V} {xs ys : List RV}, VRs K R F H0 H vs xs → VRs K R F H0 H ws ys → VRs K R F H0 H (vs ++ ws) (xs ++ ys)
  | _, _, _, _, .nil, h => h
  | _, _, _, _, .cons h t, h' => .cons h (VRs.append t h')
/-- (a, b, ..) -/
def eTup (fa : Env → M (List RV)) : Env → M RV := fun ρ => bnd (fa ρ) fun xs => bnd (lft (toDs xs)) fun ds => if ds.length ≤ 100000 then ret (.d (.tuple ds)) else fail
def eLst (fa : Env → M (List RV)) : Env → M RV := fun ρ => bnd (fa ρ) fun xs => bnd (lft (toDs xs)) fun ds => if ds.length ≤ 100000 then ret (.n ds) else fail
theorem frozen {F H0 H F1 : Hp} {rs rs' : RS} {L : Nat → Option (Addr × List V)} {E : Hp} {ρ : Env} {σ : L2.St} (r : Rel K R L E F ρ σ rs H0) (s : Step K R rs' F H0 F1 H) {vs : List V} {xs : List RV} {ds : List D} (h : VRs K R F1 H0 H vs xs) (e : toDs xs = some ds) :
    ∃ F2, Step K R rs' F H0 F2 H ∧ DpAll K F2 vs ds := by
  obtain ⟨F2, k1, k2, k3, k4, k5, hA⟩ := VRs.freeze (r.step s).refl h e
  refine ⟨F2, ⟨fun a o h q n => s.keep a o h q n, fun a o q => k1 a o (s.sub a o q), fun a o q => ?_, k3, s.row.mono k1 k5, k4⟩, hA⟩
  rcases k2 a o q with z | z
  · exact s.new a o z
  · exact .inr z
theorem tup_some {fa : Env → M (List RV)} {mk : List D → RV} {ρ : Env} {rs rs' : RS} {x : RV} (hf : (bnd (fa ρ) fun xs => bnd (lft (toDs xs)) fun ds => if ds.length ≤ 100000 then ret (mk ds) else fail) rs = some (x, rs')) :
    ∃ xs ds, fa ρ rs = some (xs, rs') ∧ toDs xs = some ds ∧ ds.length ≤ 100000 ∧ x = mk ds := by
  obtain ⟨xs, rs1, e1, hf1⟩ := bnd_some hf
  obtain ⟨ds, rs2, e2, hf2⟩ := bnd_some hf1
  obtain ⟨e3, q3⟩ := lft_some e2
  subst q3
  by_cases hl : ds.length ≤ 100000
  · rw [if_pos hl] at hf2
    obtain ⟨e4, q4⟩ := ret_some hf2
    subst e4 q4
    exact ⟨xs, ds, e1, e3, hl, rfl⟩
  · rw [if_neg hl] at hf2
    cases hf2
theorem de_tup {fa : Env → M (List RV)} {x1} (h : DA X R es t fa) : DE X R (.Tuple es x1 pos) (tTup t) (eTup fa) := ⟨pe_tup h.pa, fun L E ρ σ F H rs x rs' Q r hf k => by
  obtain ⟨xs, ds, e1, e3, hl, rfl⟩ := tup_some hf
  refine h.sem L E ρ σ F H rs xs rs' _ r e1 fun vs F1 H1 s1 hv => ?_
  obtain ⟨F2, s2, hA⟩ := frozen r s1 hv e3
  refine ⟨by rw [hA.len]; exact sz_of hl, fun pp hp => ?_⟩
  have s4 := Step.new_tup (vs := vs) (r.step s2).refl hp
  exact k _ _ _ (s2.trans r.row s4) (.tup (.inl (.inl upd_same)) (Dp.monoA s4.sub _ _ hA))⟩
theorem de_lst {fa : Env → M (List RV)} (h : DA X R es t fa) : DE X R (.List es pos) (tLst t) (eLst fa) := ⟨pe_lst h.pa, fun L E ρ σ F H rs x rs' Q r hf k => by
  obtain ⟨xs, ds, e1, e3, hl, rfl⟩ := tup_some hf
  refine h.sem L E ρ σ F H rs xs rs' _ r e1 fun vs F1 H1 s1 hv => ?_
  obtain ⟨F2, s2, hA⟩ := frozen r s1 hv e3
  refine ⟨by rw [hA.len]; exact sz_of hl, fun pp hp => ?_⟩
  obtain ⟨s4, hF, hR⟩ := Step.new_lst (vs := vs) (r.step s2).refl hp
  exact k _ _ _ (s2.trans r.row s4) ⟨pp, _, rfl, upd_same, s2.back r.row hp, hF, hR, hA⟩⟩

def CSem (K : PySem.W.Frag) (R : RA) (r : List V → Hp → VK → Prop) (g : List RV → Option RV) : Prop :=
  ∀ (F H0 H : Hp) (rs : RS) (vs : List V) (xs : List RV) (z : RV) (Q : VK), Step K R rs F H F H → VRs K R F H0 H vs xs → g xs = some z →
    (∀ v F' H', Step K R rs F H F' H' → VR K R F' H H' v z → Q v H') → r vs H Q
def eCall (g : List RV → Option RV) (fa : Env → M (List RV)) : Env → M RV := fun ρ => bnd (fa ρ) fun xs => lft (g xs)
theorem esem_call {r : List V → Hp → VK → Prop} {g : List RV → Option RV} {fa : Env → M (List RV)} (hr : CSem K R r g) (ha : ASem K R t fa) : ESem K R (tCB r t) (eCall g fa) := fun L E ρ σ F H rs x rs' Q r0 hf k => by
  obtain ⟨xs, rs1, e1, hf1⟩ := bnd_some hf
  obtain ⟨e2, q2⟩ := lft_some hf1
  subst q2
  refine ha L E ρ σ F H rs xs _ _ r0 e1 fun vs F1 H1 s1 h1 => ?_
  exact hr F1 H H1 _ vs xs x Q (r0.step s1).refl h1 e2 fun v F2 H2 s2 h2 => k v F2 H2 (s1.trans r0.row s2) (h2.older fun a q => s1.back r0.row q)
theorem de_callB {id : String} {x : Str} {r : List V → Hp → VK → Prop} {g : List RV → Option RV} {fa : Env → M (List RV)} (hc : CallR X (.builtin id) r) (hr : CSem X.K R r g) (hg : Gl X x) (hm : X.mg x = none) (hv : bootBuiltins x = some (.builtin id)) (ha : DA X R (e :: es) t fa)
    (hn : x ≠ "__name__" := by decide) (hdb : (x == ("__debug__" : Str)) = false := by decide) (he : starEach (e :: es) X.env = (false, eval e X.env) :: starEach es X.env := by rfl) (hpl : (backTo pos (starEach es X.env)).any (·.1) = false := by rfl) :
    DE X R (.Call (.Name x p) (e :: es) [] pos) (tCB r t) (eCall g fa) := ⟨pe_callB hc hg hm hv ha.pa hn hdb he hpl, esem_call hr ha.sem⟩
theorem de_callTy {T : String} {x : Str} {r : List V → Hp → VK → Prop} {g : List RV → Option RV} {fa : Env → M (List RV)} (hc : CallR X (.type T) r) (hr : CSem X.K R r g) (hg : Gl X x) (hm : X.mg x = none) (hv : bootBuiltins x = some (.type T)) (ha : DA X R (e :: es) t fa)
    (hn : x ≠ "__name__" := by decide) (hdb : (x == ("__debug__" : Str)) = false := by decide) (he : starEach (e :: es) X.env = (false, eval e X.env) :: starEach es X.env := by rfl) (hpl : (backTo pos (starEach es X.env)).any (·.1) = false := by rfl) :
    DE X R (.Call (.Name x p) (e :: es) [] pos) (tCB r t) (eCall g fa) := ⟨pe_callTy hc hg hm hv ha.pa hn hdb he hpl, esem_call hr ha.sem⟩
end
end DV

namespace DV
open PySem L2
section
variable {X : Cx} {R : RA} {K : PySem.W.Frag} {a b c e : Expr} {es : List Expr} {ta tb tc te : TE} {tt uu : TT} {t u : TA} {f g h : Env → M RV} {p q pos : Pos}
/-- a function of one argument -/
def c1 (k : RV → Option RV) : List RV → Option RV
  | [x] => k x
  | _ => none
def c2 (k : RV → RV → Option RV) : List RV → Option RV
  | [x, y] => k x y
  | _ => none
theorem c1_some {k : RV → Option RV} {xs : List RV} {z : RV} (h : c1 k xs = some z) : ∃ x, xs = [x] ∧ k x = some z := by
  unfold c1 at h
  split at h
  · exact ⟨_, rfl, h⟩
  · cases h
theorem c2_some {k : RV → RV → Option RV} {xs : List RV} {z : RV} (h : c2 k xs = some z) : ∃ x y, xs = [x, y] ∧ k x y = some z := by
  unfold c2 at h
  split at h
  · exact ⟨_, _, rfl, h⟩
  · cases h
theorem VRs.one {F H0 H : Hp} {vs : List V} {x : RV} (h : VRs K R F H0 H vs [x]) : ∃ v, vs = [v] ∧ VR K R F H0 H v x := by
  cases h with
  | cons h1 h2 => cases h2; exact ⟨_, rfl, h1⟩
theorem VRs.two {F H0 H : Hp} {vs : List V} {x y : RV} (h : VRs K R F H0 H vs [x, y]) : ∃ v w, vs = [v, w] ∧ VR K R F H0 H v x ∧ VR K R F H0 H w y := by
  cases h with
  | cons h1 h2 =>
    cases h2 with
    | cons h2 h3 => cases h3; exact ⟨_, _, rfl, h1, h2⟩

def gLen : List RV → Option RV := c1 fun x => (items x).map fun ds => .d (.int ds.length)
abbrev rLen (K : PySem.W.Frag) : List V → Hp → VK → Prop := fun xs H Q => ∃ p ys, xs = [.ref p] ∧ (SqL K H p ys ∨ SqT K H p ys) ∧ Q (.int ys.length) H
theorem csem_len : CSem K R (rLen K) gLen := fun F H0 H rs vs xs z Q s hv e kk => by
  obtain ⟨x, rfl, ee⟩ := c1_some e
  clear e
  have e := ee
  clear ee
  obtain ⟨v, rfl, hx⟩ := hv.one
  cases e1 : items x with
  | none => rw [e1] at e; cases e
  | some ds =>
    rw [e1] at e
    cases e
    obtain ⟨a, ws, rfl, h1, h2⟩ := hx.items s e1
    refine ⟨a, ws, rfl, h1, ?_⟩
    rw [h2.len]
    exact kk _ F H s (Dp.int _)
def gList : List RV → Option RV := c1 fun x => (items x).map fun ds => .n ds
abbrev rList (K : PySem.W.Frag) : List V → Hp → VK → Prop := fun xs H Q => ∃ p ys, xs = [.ref p] ∧ (SqL K H p ys ∨ SqT K H p ys) ∧ ∀ l, H l = none → Q (.ref l) (upd H l (.lst ys))
theorem csem_list : CSem K R (rList K) gList := fun F H0 H rs vs xs z Q s hv e kk => by
  obtain ⟨x, rfl, ee⟩ := c1_some e
  clear e
  have e := ee
  clear ee
  obtain ⟨v, rfl, hx⟩ := hv.one
  cases e1 : items x with
  | none => rw [e1] at e; cases e
  | some ds =>
    rw [e1] at e
    cases e
    obtain ⟨a, ws, rfl, h1, h2⟩ := hx.items s e1
    refine ⟨a, ws, rfl, h1, fun l hl => ?_⟩
    obtain ⟨s4, hF, hR⟩ := Step.new_lst (vs := ws) s hl
    exact kk _ F _ s4 ⟨l, _, rfl, upd_same, hl, hF, hR, h2⟩
def gTuple : List RV → Option RV := c1 fun x => (items x).map fun ds => .d (.tuple ds)
abbrev rTuple (K : PySem.W.Frag) : List V → Hp → VK → Prop := fun xs H Q => ∃ p ys, xs = [.ref p] ∧ ((SqL K H p ys ∧ ∀ l, H l = none → Q (.ref l) (upd H l (.tup ys))) ∨ (SqT K H p ys ∧ Q (.ref p) H))
theorem csem_tuple : CSem K R (rTuple K) gTuple := fun F H0 H rs vs xs z Q s hv e kk => by
  obtain ⟨x, rfl, ee⟩ := c1_some e
  clear e
  have e := ee
  clear ee
  obtain ⟨v, rfl, hx⟩ := hv.one
  have go : ∀ (a : Addr) (ws : List V) (ds : List D), v = .ref a → SqL K H a ws → DpAll K F ws ds → z = .d (.tuple ds) → rTuple K [v] H Q := fun a ws ds ev h1 h2 ez => by
    subst ev ez
    refine ⟨a, ws, rfl, .inl ⟨h1, fun l hl => ?_⟩⟩
    have s4 := Step.new_tup (vs := ws) s hl
    exact kk _ _ _ s4 (.tup (.inl (.inl upd_same)) (Dp.monoA s4.sub _ _ h2))
  cases x with
  | d y =>
    cases y with
    | tuple ds =>
      cases e
      cases hx with
      | @tup a ws _ h1 h2 => exact ⟨a, ws, rfl, .inr ⟨ex_t (s.fin _) h1, kk _ F H s (.tup h1 h2)⟩⟩
    | list ds =>
      cases e
      cases hx with
      | @lst a ws _ h1 h2 => exact go a ws ds rfl (ex_l (s.fin _) h1) h2 rfl
    | none => cases e
    | bool _ => cases e
    | int _ => cases e
    | str _ => cases e
    | dict _ => cases e
  | b ds =>
    cases e
    obtain ⟨a, ws, ev, h1, h2⟩ := hx.lst (.inl rfl)
    exact go a ws ds ev (.inl (.inl h1)) h2 rfl
  | n ds =>
    cases e
    obtain ⟨a, ws, ev, h1, h2⟩ := hx.lst (.inr rfl)
    exact go a ws ds ev (.inl (.inl h1)) h2 rfl
  | gb _ => cases e
  | gn _ => cases e
  | row => cases e
def gAbs : List RV → Option RV := c1 fun x => (asInt x).map fun i => .d (.int (if i < 0 then -i else i))
def gInt : List RV → Option RV := c1 fun x => match asInt x with
  | some i => some (.d (.int i))
  | none => (asBool x).map fun b => .d (.int (if b = true then 1 else 0))
theorem csem_int : CSem K R (fun xs H Q => (∃ i, xs = [.int i] ∧ Q (.int i) H) ∨ ∃ k, xs = [.bl k] ∧ Q (.int (if k then 1 else 0)) H) gInt := fun F H0 H rs vs xs z Q s hv e kk => by
  obtain ⟨x, rfl, ee⟩ := c1_some e
  clear e
  have e := ee
  clear ee
  obtain ⟨v, rfl, hx⟩ := hv.one
  cases e1 : asInt x with
  | none =>
    rw [e1] at e
    cases e2 : asBool x with
    | none => rw [e2] at e; cases e
    | some b =>
      rw [e2] at e
      cases e
      have := hx.bool e2
      subst this
      exact .inr ⟨b, rfl, kk _ F H s (Dp.int _)⟩
  | some i =>
    rw [e1] at e
    cases e
    have := hx.int e1
    subst this
    exact .inl ⟨i, rfl, kk _ F H s (Dp.int _)⟩
def gMax2 : List RV → Option RV := c2 fun x y => match asInt x, asInt y with
  | some i, some j => some (.d (.int (if j > i then j else i)))
  | _, _ => none
def gMin2 : List RV → Option RV := c2 fun x y => match asInt x, asInt y with
  | some i, some j => some (.d (.int (if j < i then j else i)))
  | _, _ => none
theorem csem_max2 : CSem K R (fun xs H Q => ∃ i j, xs = [.int i, .int j] ∧ Q (.int (if j > i then j else i)) H) gMax2 := fun F H0 H rs vs xs z Q s hv e kk => by
  obtain ⟨x, y, rfl, ee⟩ := c2_some e
  clear e
  have e := ee
  clear ee
  obtain ⟨v, w, rfl, hx, hy⟩ := hv.two
  cases e1 : asInt x with
  | none => simp only [e1] at e; cases e
  | some i =>
    cases e2 : asInt y with
    | none => simp only [e1, e2] at e; cases e
    | some j =>
      simp only [e1, e2] at e
      cases e
      have := hx.int e1
      have := hy.int e2
      subst v w
      exact ⟨i, j, rfl, kk _ F H s (Dp.int _)⟩
theorem csem_min2 : CSem K R (fun xs H Q => ∃ i j, xs = [.int i, .int j] ∧ Q (.int (if j < i then j else i)) H) gMin2 := fun F H0 H rs vs xs z Q s hv e kk => by
  obtain ⟨x, y, rfl, ee⟩ := c2_some e
  clear e
  have e := ee
  clear ee
  obtain ⟨v, w, rfl, hx, hy⟩ := hv.two
  cases e1 : asInt x with
  | none => simp only [e1] at e; cases e
  | some i =>
    cases e2 : asInt y with
    | none => simp only [e1, e2] at e; cases e
    | some j =>
      simp only [e1, e2] at e
      cases e
      have := hx.int e1
      have := hy.int e2
      subst v w
      exact ⟨i, j, rfl, kk _ F H s (Dp.int _)⟩
def gSum : List RV → Option RV := c1 fun x => match items x with
  | some ds => (intsOf ds).map fun js => .d (.int js.sum)
  | none => none
def rSumA (K : PySem.W.Frag) : List V → Hp → VK → Prop := fun vs H Q => ∃ (a : Addr) (ns : List Int), vs = [V.ref a] ∧ (SqL K H a (ns.map V.int) ∨ SqT K H a (ns.map V.int)) ∧ Q (.int ns.sum) H
theorem sum_tup {prog : Program} {w : World} {A : Around} {E : Value → Shared → Prop} {s : Shared} {l : Addr} {its : List Value} {ns : List Int} {Q : Value → Shared → Prop} (hh : A.handled = none) (hl : s.heap.IsTuple l its.toArray) (hi : PyProof.Rows.IntsAre its ns)
    (hq : ∀ h' tk t', (∀ b o, s.heap.get? b = some o → h'.get? b = some o) → Q (.int ns.sum t') { s with heap := h', toks := tk }) : wpAny (model prog w) A (call (.builtin "sum") [.ref l]) Q E s := by
  obtain ⟨xs, e⟩ := hi.allInts.items
  have hn : numsOf (intItems xs).toList = ns := by rw [← e]; exact hi.numsOf
  rw [nums_intItems] at hn
  rw [e] at hl
  have hlt : l < s.heap.objs.size := by obtain ⟨_, e, _⟩ := hl; exact Heap.lt_size e
  refine call_sum_walkG (wpAny_pyIter_tuple hl ?_)
  refine ⟨_, _, _, _, _, _, numAt xs, rfl, Walks.tuple (A := A.in1) hh _ l (Nat.ne_of_lt hlt) (intItems xs), ⟨⟨_, Heap.get?_push_size _ rfl, rfl, rfl⟩, ?_⟩, fun b hb => ?_, (fun _ _ => intItems_at), fun h' tk t' hk => ?_⟩
  · obtain ⟨o, q1, q2⟩ := hl
    exact ⟨o, Heap.get?_push_of_some _ q1, q2⟩
  · show b < (s.heap.push _).objs.size
    rw [Heap.size_push]
    rcases List.mem_cons.mp hb with rfl | hb
    · exact Nat.lt_succ_self _
    · rcases List.mem_cons.mp hb with rfl | hb
      · exact Nat.lt_succ_of_lt hlt
      · cases hb
  · have := hq h' tk t' (fun b o eo => hk b o (fun hm => by
      rcases List.mem_cons.mp hm with e1 | hm
      · exact absurd (e1 ▸ Heap.lt_size eo) (Nat.lt_irrefl _)
      · cases hm) (Heap.get?_push_of_some _ eo))
    rw [preSum_eq, List.take_of_length_le (by simp [intItems]), hn]
    exact this
theorem cr_sumA (hc : X.calm = true) : CallR X (.builtin "sum") (rSumA X.K) := by
  intro pins s σ H vs us Q I r h
  obtain ⟨a, ns, rfl, hs, q⟩ := h
  rcases hs with hs | hs
  · exact cr_sum hc pins s σ H _ us Q I r ⟨a, ns, rfl, hs, q⟩
  · obtain ⟨its, rv, hl, _⟩ := I.tuple hs
    rw [Vals.ref1 r]
    exact sum_tup (I.ok.hd hc) hl rv.ints fun h' tk t' hk => ⟨.int _, H, I.kept hk, ⟨_, rfl⟩, q⟩
theorem csem_sum : CSem K R (rSumA K) gSum := fun F H0 H rs vs xs z Q s hv e kk => by
  obtain ⟨x, rfl, ee⟩ := c1_some e
  clear e
  have e := ee
  clear ee
  obtain ⟨v, rfl, hx⟩ := hv.one
  cases e1 : items x with
  | none => rw [e1] at e; cases e
  | some ds =>
    simp only [e1] at e
    cases e2 : intsOf ds with
    | none => rw [e2] at e; cases e
    | some js =>
      rw [e2] at e
      cases e
      obtain ⟨a, ws, rfl, h1, h2⟩ := hx.items s e1
      have hw := h2.intsV e2
      subst hw
      exact ⟨a, js, rfl, h1, kk _ F H s (Dp.int _)⟩
def boolsOf : List D → Option (List Bool)
  | [] => some []
  | .bool i :: r => match boolsOf r with
    | some js => some (i :: js)
    | none => none
  | _ => none
theorem boolsV {F : Hp} : ∀ {vs : List V} {ds : List D} {js : List Bool}, DpAll K F vs ds → boolsOf ds = some js → vs = js.map V.bl
  | _, _, _, .nil, h => by cases h; rfl
  | _, d :: r, js, .cons h1 h2, h => by
    cases d with
    | bool i =>
      unfold boolsOf at h
      cases e : boolsOf r with
      | none => rw [e] at h; cases h
      | some ks =>
        rw [e] at h
        cases h
        cases h1
        rw [boolsV h2 e]
        rfl
    | none => unfold boolsOf at h; cases h
    | int _ => unfold boolsOf at h; cases h
    | str _ => unfold boolsOf at h; cases h
    | list _ => unfold boolsOf at h; cases h
    | tuple _ => unfold boolsOf at h; cases h
    | dict _ => unfold boolsOf at h; cases h
def gBools (k : List Bool → Bool) : List RV → Option RV := c1 fun x => match asLst x with
  | some ds => (boolsOf ds).map fun js => .d (.bool (k js))
  | none => none
abbrev gAll := gBools fun js => js.all id
abbrev gAny := gBools fun js => js.any id
theorem csem_bools (k : List Bool → Bool) : CSem K R (fun vs H Q => ∃ (a : Addr) (bs : List Bool), vs = [V.ref a] ∧ SqL K H a (bs.map V.bl) ∧ Q (.bl (k bs)) H) (gBools k) := fun F H0 H rs vs xs z Q s hv e kk => by
  obtain ⟨x, rfl, ee⟩ := c1_some e
  clear e
  have e := ee
  clear ee
  obtain ⟨v, rfl, hx⟩ := hv.one
  cases e1 : asLst x with
  | none => rw [e1] at e; cases e
  | some ds =>
    simp only [e1] at e
    cases e2 : boolsOf ds with
    | none => rw [e2] at e; cases e
    | some js =>
      rw [e2] at e
      cases e
      obtain ⟨a, ws, rfl, h1, h2⟩ := hx.lst (asLst_some e1)
      have hw := boolsV h2 e2
      subst hw
      exact ⟨a, js, rfl, .inl (.inl h1), kk _ F H s (.bl _)⟩

def tyD : D → String
  | .none => "NoneType"
  | .bool _ => "bool"
  | .int _ => "int"
  | .str _ => "str"
  | .list _ => "list"
  | .tuple _ => "tuple"
  | .dict _ => "dict"
inductive TyT where | int | bool | tuple | list | str
  deriving DecidableEq
def TyT.nm : TyT → String
  | .int => "int" | .bool => "bool" | .tuple => "tuple" | .list => "list" | .str => "str"
def isT : TyT → D → Bool
  | .int, .int _ => true
  | .int, .bool _ => true
  | .bool, .bool _ => true
  | .tuple, .tuple _ => true
  | .list, .list _ => true
  | .str, .str _ => true
  | _, _ => false
theorem kit_isT (T : TyT) (d : D) : kitB (tyD d) T.nm = some (isT T d) := by
  cases T <;> cases d <;> (simp only [tyD, TyT.nm, isT]; decide +kernel)
theorem dptyx {H : Hp} {v : V} {d : D} (h : Dp K H v d) : TyX K H v (.type (tyD d)) := by
  cases h with
  | non => exact .base .non
  | bl b => exact .base (.bl b)
  | int i => exact .base (.int i)
  | str x => exact .base (.str x)
  | lst hs _ =>
    rcases hs with (hs | ⟨o, hs⟩) | ⟨o, its, n, hk, hc, _⟩
    · exact .base (.lst hs)
    · exact .base (.frz hs)
    · exact .kList hk hc
  | tup hs _ =>
    rcases hs with (hs | ⟨o, hs⟩) | ⟨o, its, n, hk, hc, _⟩
    · exact .base (.tup hs)
    · exact .fTuple hs
    · exact .kTuple hk hc
def eIsT (T : TyT) (f : Env → M RV) : Env → M RV := fun ρ => bnd (f ρ) fun x => bnd (lft (viewD x)) fun d => ret (.d (.bool (isT T d)))
theorem de_isT (T : TyT) {x : Str} {p2 : Pos} (hg : Gl X "isinstance") (hm : X.mg "isinstance" = none) (hgT : Gl X x) (hmT : X.mg x = none) (hT : bootBuiltins x = some (.type T.nm)) (he : DE X R e te f)
    (hn : x ≠ "__name__" := by decide) (hdb : (x == ("__debug__" : Str)) = false := by decide)
    (he1 : starEach [e, .Name x p2] X.env = (false, eval e X.env) :: starEach [.Name x p2] X.env := by rfl) (he2 : starEach [.Name x p2] X.env = (false, eval (.Name x p2) X.env) :: starEach [] X.env := by rfl) (hpl : (backTo pos (starEach [.Name x p2] X.env)).any (·.1) = false := by rfl) :
    DE X R (.Call (.Name "isinstance" p) [e, .Name x p2] [] pos) (tCB (rIsi X.K) (tCons te (tCons (tC (.ty T.nm)) tNil))) (eIsT T f) :=
  ⟨pe_callB call_isi hg hm PyProof.Rows.boot_isinstance (pa_cons he.pe (pa_cons (pe_bltn hgT hmT hT rfl hn hdb) pa_nil he2) he1) (by decide) (by decide) he1 hpl, fun L E ρ σ F H rs z rs' Q r hf k => by
    obtain ⟨v, rs1, e1, hf1⟩ := bnd_some hf
    obtain ⟨d, rs2, e2, hf2⟩ := bnd_some hf1
    obtain ⟨e3, q3⟩ := lft_some e2
    obtain ⟨e4, q4⟩ := ret_some hf2
    subst e4 q4 q3
    refine he.sem L E ρ σ F H rs v _ _ r e1 fun v1 F1 H1 s1 h1 => ?_
    exact ⟨v1, .ty T.nm, .type (tyD d), .type T.nm, isT T d, rfl, .ty _, dptyx (h1.view (r.step s1).refl e3), kit_ty (kit_isT T d), k _ F1 H1 s1 (.bl _)⟩⟩
end
end DV

namespace DV
open PySem L2

inductive Out where
  | nx (ρ : Env) | rt (r : RV) | bk (ρ : Env) | ct (ρ : Env)
section
variable {X : Cx} {K : PySem.W.Frag} {R : RA} {L : Nat → Option (Addr × List V)} {E F F' H H' : Hp} {ρ ρ' : Env} {σ σ' : L2.St} {rs rs' : RS}

/-- what is never changed grows by things that the entry did not know -/
structure FStep (R : RA) (E F F' : Hp) : Prop where
  sub : ∀ a o, F a = some o → F' a = some o
  new : ∀ a o, F' a = some o → F a = some o ∨ (E a = none ∧ some a ≠ R.row)
theorem FStep.refl : FStep R E F F := ⟨fun _ _ h => h, fun _ _ h => .inl h⟩
theorem FStep.trans {F1 F2 : Hp} (a : FStep R E F F1) (b : FStep R E F1 F2) : FStep R E F F2 := ⟨fun c o h => b.sub c o (a.sub c o h), fun c o h => by
  rcases b.new c o h with z | z
  · exact a.new c o z
  · exact .inr z⟩
theorem FStep.ofStep (r : Rel K R L E F ρ σ rs H) (s : Step K R rs' F H F' H') : FStep R E F F' := ⟨s.sub, fun a o h => by
  rcases s.new a o h with z | z
  · exact .inl z
  · refine .inr ⟨?_, fun q => ?_⟩
    · cases e : E a with
      | none => rfl
      | some u => rw [r.ex a u e] at z; cases z
    · rw [s.rF a q.symm] at h; cases h⟩
/-- a smaller entry -/
theorem FStep.less {E' : Hp} (s : FStep R E' F F') (h : ∀ a, E' a = none → E a = none) : FStep R E F F' := ⟨s.sub, fun a o q => by
  rcases s.new a o q with z | ⟨z1, z2⟩
  · exact .inl z
  · exact .inr ⟨h a z1, z2⟩⟩
/-- what is handed back -/
def VRet (K : PySem.W.Frag) (R : RA) (E F H : Hp) (v : V) : RV → Prop
  | .d x => Dp K F v x
  | .n ds => ∃ a vs, v = .ref a ∧ H a = some (.lst vs) ∧ E a = none ∧ F a = none ∧ some a ≠ R.row ∧ DpAll K F vs ds
  | .gn c => ∃ a u, v = .ref a ∧ H a = some u ∧ E a = none ∧ F a = none ∧ some a ≠ R.row ∧ DictR K F a u c
  | _ => False
structure Ret (K : PySem.W.Frag) (R : RA) (rs' : RS) (E F F' H' : Hp) (v : V) (x : RV) : Prop where
  fs : FStep R E F F'
  ex : ∀ a o, E a = some o → H' a = some o
  fr : ∀ a o, F' a = some o → H' a = some o
  row : RowOk K R rs' F' H'
  rF : ∀ r, R.row = some r → F' r = none
  val : VRet K R E F' H' v x
def Post (K : PySem.W.Frag) (R : RA) (L : Nat → Option (Addr × List V)) (E F : Hp) (D : Ends) (rs' : RS) : Out → Prop
  | .nx ρ' => ∀ σ' F' H', FStep R E F F' → Rel K R L E F' ρ' σ' rs' H' → D.nx σ' H'
  | .bk ρ' => ∀ σ' F' H', FStep R E F F' → Rel K R L E F' ρ' σ' rs' H' → D.bk σ' H'
  | .ct ρ' => ∀ σ' F' H', FStep R E F F' → Rel K R L E F' ρ' σ' rs' H' → D.ct σ' H'
  | .rt x => ∀ v F' H', Ret K R rs' E F F' H' v x → D.rt v H'
def SSem (K : PySem.W.Frag) (R : RA) (t : TS) (g : Env → M Out) : Prop :=
  ∀ (L : Nat → Option (Addr × List V)) (E F : Hp) (ρ : Env) (σ : L2.St) (rs : RS) (H : Hp) (o : Out) (rs' : RS) (D : Ends), Rel K R L E F ρ σ rs H → g ρ rs = some (o, rs') → Post K R L E F D rs' o → t D σ H
structure DS (X : Cx) (R : RA) (st : Stmt) (t : TS) (g : Env → M Out) : Prop where
  ps : PS X st t
  sem : SSem X.K R t g
structure DSs (X : Cx) (R : RA) (st : List Stmt) (t : TS) (g : Env → M Out) : Prop where
  ps : PSs X st t
  sem : SSem X.K R t g
/-- behind a first part -/
theorem Post.after {F1 : Hp} {D : Ends} {o : Out} (h : Post K R L E F D rs' o) (s : FStep R E F F1) : Post K R L E F1 D rs' o := by
  cases o with
  | nx ρ' => exact fun σ' F' H' f r => h σ' F' H' (s.trans f) r
  | bk ρ' => exact fun σ' F' H' f r => h σ' F' H' (s.trans f) r
  | ct ρ' => exact fun σ' F' H' f r => h σ' F' H' (s.trans f) r
  | rt x => exact fun v F' H' q => h v F' H' ⟨s.trans q.fs, q.ex, q.fr, q.row, q.rF, q.val⟩

theorem Rel.put (r : Rel K R L E F ρ σ rs H) (i : Nat) (sv : SV) (v : V) (h : SR K R L E F H i v sv) (ho : ∀ a, sv.ow → v = .ref a → ∀ j y, j ≠ i → ρ[j]? = some (some y) → y.ow → σ[j]? = some (some (V.ref a)) → False) :
    Rel K R L E F (ρ.set i (some sv)) (σ.set i (some v)) rs H where
  len := by rw [List.length_set, List.length_set]; exact r.len
  ex := r.ex
  ent := r.ent
  fr := r.fr
  row := r.row
  rE := r.rE
  lk := r.lk
  sl := fun j sw e => by
    by_cases hj : j = i
    · subst hj
      have hl : j < ρ.length := by
        have := (List.getElem?_eq_some_iff.mp e).1
        rw [List.length_set] at this
        exact this
      rw [List.getElem?_set_self hl] at e
      cases e
      exact ⟨v, List.getElem?_set_self (by rw [← r.len]; exact hl), h⟩
    · rw [List.getElem?_set_ne (Ne.symm hj)] at e
      obtain ⟨w, e1, q⟩ := r.sl j sw e
      exact ⟨w, by rw [List.getElem?_set_ne (Ne.symm hj)]; exact e1, q⟩
  own := fun j k a x y e1 e2 ox oy e3 e4 => by
    by_cases hj : j = i
    · by_cases hk : k = i
      · rw [hj, hk]
      · exfalso
        subst hj
        have hl : j < ρ.length := by
          have := (List.getElem?_eq_some_iff.mp e1).1
          rw [List.length_set] at this
          exact this
        rw [List.getElem?_set_self hl] at e1
        rw [List.getElem?_set_self (by rw [← r.len]; exact hl)] at e3
        rw [List.getElem?_set_ne (Ne.symm hk)] at e2 e4
        exact ho a (by cases e1; exact ox) (Option.some.inj (Option.some.inj e3)) k y hk e2 oy e4
    · by_cases hk : k = i
      · exfalso
        subst hk
        have hl : k < ρ.length := by
          have := (List.getElem?_eq_some_iff.mp e2).1
          rw [List.length_set] at this
          exact this
        rw [List.getElem?_set_self hl] at e2
        rw [List.getElem?_set_self (by rw [← r.len]; exact hl)] at e4
        rw [List.getElem?_set_ne (Ne.symm hj)] at e1 e3
        exact ho a (by cases e2; exact oy) (Option.some.inj (Option.some.inj e4)) j x hj e1 ox e3
      · rw [List.getElem?_set_ne (Ne.symm hj)] at e1 e3
        rw [List.getElem?_set_ne (Ne.symm hk)] at e2 e4
        exact r.own j k a x y e1 e2 ox oy e3 e4
/-- data, or a new list, into a name -/
def toS : RV → Option SV
  | .d x => some (.d x)
  | .n ds => some (.o ds)
  | .gn c => some (.g c)
  | _ => none
/-- what is of one's own stands in the heap -/
theorem Rel.own_at (r : Rel K R L E F ρ σ rs H) {j : Nat} {y : SV} {a : Addr} (e : ρ[j]? = some (some y)) (oy : y.ow) (ea : σ[j]? = some (some (V.ref a))) : ∃ u, H a = some u ∧ E a = none ∧ F a = none ∧ some a ≠ R.row := by
  obtain ⟨w, e1, q⟩ := r.sl j _ e
  rw [ea] at e1
  cases e1
  cases y with
  | d x => cases oy
  | k x => cases oy
  | un => cases oy
  | ex _ _ => cases oy
  | fn _ => cases oy
  | lm => cases oy
  | row => cases oy
  | o ds =>
    obtain ⟨b, vs, q1, q2, q3, q4, q5, _⟩ := q
    cases q1
    exact ⟨_, q2, q3, q4, q5⟩
  | g c =>
    obtain ⟨b, vs, q1, q2, q3, q4, q5, _⟩ := q
    cases q1
    exact ⟨_, q2, q3, q4, q5⟩
theorem Rel.store {H0 : Hp} (r0 : Rel K R L E F ρ σ rs H0) {F1 H1 : Hp} (s : Step K R rs' F H0 F1 H1) {v : V} {x : RV} {sv : SV} (hv : VR K R F1 H0 H1 v x) (e : toS x = some sv) (i : Nat) : Rel K R L E F1 (ρ.set i (some sv)) (σ.set i (some v)) rs' H1 := by
  cases x with
  | d y =>
    cases e
    exact (r0.step s).put i _ v hv (fun a q => nomatch q)
  | n ds =>
    cases e
    obtain ⟨a, vs, rfl, h1, h0, h2, h3, h4⟩ := hv
    have hE : E a = none := by
      cases q : E a with
      | none => rfl
      | some u => rw [r0.ex a u q] at h0; cases h0
    refine (r0.step s).put i _ _ ⟨a, vs, rfl, h1, hE, h2, h3, h4⟩ fun b q1 q2 j y hj e1 oy e2 => ?_
    cases q2
    obtain ⟨u, q, _⟩ := r0.own_at e1 oy e2
    rw [h0] at q
    cases q
  | gb _ => cases e
  | gn c =>
    cases e
    obtain ⟨a, u, rfl, h1, h0, h2, h3, h4⟩ := hv
    have hE : E a = none := by
      cases q : E a with
      | none => rfl
      | some u => rw [r0.ex a u q] at h0; cases h0
    refine (r0.step s).put i _ _ ⟨a, u, rfl, h1, hE, h2, h3, h4⟩ fun b q1 q2 j y hj e1 oy e2 => ?_
    cases q2
    obtain ⟨u, q, _⟩ := r0.own_at e1 oy e2
    rw [h0] at q
    cases q
  | b ds => cases e
  | row => cases e
theorem Rel.forget (r : Rel K R L E F ρ σ rs H) (i : Nat) : Rel K R L E F (ρ.set i none) σ rs H where
  len := by rw [List.length_set]; exact r.len
  ex := r.ex
  ent := r.ent
  fr := r.fr
  row := r.row
  rE := r.rE
  lk := r.lk
  sl := fun j sw e => by
    by_cases hj : j = i
    · subst hj
      have hl : j < ρ.length := by
        have := (List.getElem?_eq_some_iff.mp e).1
        rw [List.length_set] at this
        exact this
      rw [List.getElem?_set_self hl] at e
      cases e
    · rw [List.getElem?_set_ne (Ne.symm hj)] at e
      exact r.sl j sw e
  own := fun j k a x y e1 e2 ox oy e3 e4 => by
    have hj : j ≠ i := by
      rintro rfl
      have hl : j < ρ.length := by
        have := (List.getElem?_eq_some_iff.mp e1).1
        rw [List.length_set] at this
        exact this
      rw [List.getElem?_set_self hl] at e1
      cases e1
    have hk : k ≠ i := by
      rintro rfl
      have hl : k < ρ.length := by
        have := (List.getElem?_eq_some_iff.mp e2).1
        rw [List.length_set] at this
        exact this
      rw [List.getElem?_set_self hl] at e2
      cases e2
    rw [List.getElem?_set_ne (Ne.symm hj)] at e1
    rw [List.getElem?_set_ne (Ne.symm hk)] at e2
    exact r.own j k a x y e1 e2 ox oy e3 e4
/-- a list of one's own is changed -/
theorem Rel.change (r : Rel K R L E F ρ σ rs H) {i : Nat} {ds es : List D} {a : Addr} {ws : List V} (e : ρ[i]? = some (some (SV.o ds))) (ea : σ[i]? = some (some (V.ref a))) (hd : DpAll K F ws es) :
    Rel K R L E F (ρ.set i (some (.o es))) σ rs (upd H a (.lst ws)) := by
  obtain ⟨v, e1, b, vs, q1, q2, q3, q4, q5, q6⟩ := r.sl i _ e
  rw [ea] at e1
  cases e1
  cases q1
  have hl : i < ρ.length := (List.getElem?_eq_some_iff.mp e).1
  refine ⟨by rw [List.length_set]; exact r.len, fun b o z => ?_, r.ent, fun b o z => ?_, ⟨fun q eq => ?_, tabs_upd r.row.tab (.inr ⟨_, q2⟩), r.row.fnt⟩, r.rE, r.lk, fun j sw ej => ?_, fun j k c x y e1 e2 ox oy e3 e4 => ?_⟩
  · rw [upd_ne (fun zz => by rw [zz, q3] at z; cases z)]
    exact r.ex b o z
  · rw [upd_ne (fun zz => by rw [zz, q4] at z; cases z)]
    exact r.fr b o z
  · obtain ⟨c, k1, k2, k3⟩ := r.row.at_ q eq
    exact ⟨c, by rw [upd_ne (fun zz => q5 (by rw [← zz, eq]))]; exact k1, k2, k3⟩
  · by_cases hj : j = i
    · subst hj
      rw [List.getElem?_set_self hl] at ej
      cases ej
      exact ⟨_, ea, a, ws, rfl, upd_same, q3, q4, q5, hd⟩
    · rw [List.getElem?_set_ne (Ne.symm hj)] at ej
      obtain ⟨w, k1, k2⟩ := r.sl j sw ej
      refine ⟨w, k1, ?_⟩
      cases sw with
      | d x => exact k2
      | k x => exact k2
      | un => exact trivial
      | ex _ _ => exact k2
      | fn _ => exact k2
      | lm => exact k2
      | row => exact k2
      | o x =>
        obtain ⟨c, us, rfl, z1, z2, z3, z4, z5⟩ := k2
        have hca : c ≠ a := by
          rintro rfl
          exact hj (r.own j i c _ _ ej e trivial trivial k1 ea)
        exact ⟨c, us, rfl, by rw [upd_ne hca]; exact z1, z2, z3, z4, z5⟩
      | g x =>
        obtain ⟨c, us, rfl, z1, z2, z3, z4, z5⟩ := k2
        have hca : c ≠ a := by
          rintro rfl
          exact hj (r.own j i c _ _ ej e trivial trivial k1 ea)
        exact ⟨c, us, rfl, by rw [upd_ne hca]; exact z1, z2, z3, z4, z5⟩
  · by_cases hj : j = i
    · by_cases hk : k = i
      · rw [hj, hk]
      · subst hj
        rw [List.getElem?_set_ne (Ne.symm hk)] at e2
        exact r.own j k c _ y e e2 trivial oy e3 e4
    · rw [List.getElem?_set_ne (Ne.symm hj)] at e1
      by_cases hk : k = i
      · subst hk
        exact r.own j k c x _ e1 e ox trivial e3 e4
      · rw [List.getElem?_set_ne (Ne.symm hk)] at e2
        exact r.own j k c x y e1 e2 ox oy e3 e4
variable {st : Stmt} {rest sa sb : List Stmt} {t u : TS} {e c : Expr} {te : TE} {tt : TT} {pos : Pos} {f : Env → M RV} {x : Env → M Bool} {g h : Env → M Out}
def sNil : Env → M Out := fun ρ => ret (.nx ρ)
def sSeq (g h : Env → M Out) : Env → M Out := fun ρ => bnd (g ρ) fun o => match o with
  | .nx ρ' => h ρ'
  | o => ret o
theorem ssem_nil : SSem K R tNext sNil := fun L E F ρ σ rs H o rs' D r hf k => by
  obtain ⟨e1, q1⟩ := ret_some hf
  subst e1 q1
  exact k σ F H FStep.refl r
theorem ssem_seq (h1 : SSem K R t g) (h2 : SSem K R u h) : SSem K R (tSeq t u) (sSeq g h) := fun L E F ρ σ rs H o rs' D r hf k => by
  obtain ⟨o1, rs1, e1, hf1⟩ := bnd_some hf
  refine h1 L E F ρ σ rs H o1 rs1 { D with nx := u D } r e1 ?_
  cases o1 with
  | nx ρ1 =>
    exact fun σ1 F1 H1 s1 r1 => h2 L E F1 ρ1 σ1 rs1 H1 o rs' D r1 hf1 (k.after s1)
  | rt x =>
    obtain ⟨e2, q2⟩ := ret_some hf1
    subst e2 q2
    exact k
  | bk ρ1 =>
    obtain ⟨e2, q2⟩ := ret_some hf1
    subst e2 q2
    exact k
  | ct ρ1 =>
    obtain ⟨e2, q2⟩ := ret_some hf1
    subst e2 q2
    exact k
theorem dss_nil : DSs X R [] tNext sNil := ⟨pss_nil, ssem_nil⟩
theorem dss_one (h1 : DS X R st t g) : DSs X R [st] t g := ⟨pss_one h1.ps, h1.sem⟩
theorem dss_cons (h1 : DS X R st t g) (h2 : DSs X R rest u h) : DSs X R (st :: rest) (tSeq t u) (sSeq g h) := ⟨pss_cons h1.ps h2.ps, ssem_seq h1.sem h2.sem⟩
def sNever : Env → M Out := fun _ => fail
theorem dss_never {sts : List Stmt} : DSs X R sts tNever sNever := ⟨pss_never, fun L E F ρ σ rs H o rs' D r hf k => nomatch hf⟩
def sIf (x : Env → M Bool) (g h : Env → M Out) : Env → M Out := fun ρ => bnd (x ρ) fun b => if b = true then g ρ else h ρ
theorem ds_if (hc : DT X R c tt x) (ha : DSs X R sa t g) (hb : DSs X R sb u h) : DS X R (.If c sa sb pos) (tIfS tt t u) (sIf x g h) := ⟨ps_if hc.pt ha.ps hb.ps, fun L E F ρ σ rs H o rs' D r hf k => by
  obtain ⟨b, rs1, e1, hf1⟩ := bnd_some hf
  refine hc.sem L E ρ σ F H rs b rs1 _ r e1 fun F1 H1 s1 => ?_
  cases b with
  | true =>
    rw [if_pos rfl] at hf1 ⊢
    exact ha.sem L E F1 ρ σ rs1 H1 o rs' D (r.step s1) hf1 (k.after (FStep.ofStep r s1))
  | false =>
    rw [if_neg Bool.false_ne_true] at hf1 ⊢
    exact hb.sem L E F1 ρ σ rs1 H1 o rs' D (r.step s1) hf1 (k.after (FStep.ofStep r s1))⟩

def toRet : RV → Option RV
  | .d x => some (.d x)
  | .n ds => some (.n ds)
  | .gn c => some (.gn c)
  | _ => none
def sRet (f : Env → M RV) : Env → M Out := fun ρ => bnd (f ρ) fun x => bnd (lft (toRet x)) fun y => ret (.rt y)
theorem Ret.of {F1 H1 : Hp} (r : Rel K R L E F ρ σ rs H) (s : Step K R rs' F H F1 H1) {v : V} {x y : RV} (hv : VR K R F1 H H1 v x) (e : toRet x = some y) : Ret K R rs' E F F1 H1 v y := by
  have r1 := r.step s
  refine ⟨FStep.ofStep r s, r1.ex, r1.fr, r1.row, s.rF, ?_⟩
  cases x with
  | d y => cases e; exact hv
  | n ds =>
    cases e
    obtain ⟨a, vs, rfl, h1, h0, h2, h3, h4⟩ := hv
    refine ⟨a, vs, rfl, h1, ?_, h2, h3, h4⟩
    cases q : E a with
    | none => rfl
    | some u => rw [r.ex a u q] at h0; cases h0
  | gb _ => cases e
  | gn c =>
    cases e
    obtain ⟨a, vs, rfl, h1, h0, h2, h3, h4⟩ := hv
    refine ⟨a, vs, rfl, h1, ?_, h2, h3, h4⟩
    cases q : E a with
    | none => rfl
    | some u => rw [r.ex a u q] at h0; cases h0
  | b ds => cases e
  | row => cases e
theorem ds_ret (he : DE X R e te f) : DS X R (.Return (some e) pos) (tRet te) (sRet f) := ⟨ps_ret he.pe, fun L E F ρ σ rs H o rs' D r hf k => by
  obtain ⟨x, rs1, e1, hf1⟩ := bnd_some hf
  obtain ⟨y, rs2, e2, hf2⟩ := bnd_some hf1
  obtain ⟨e3, q3⟩ := lft_some e2
  obtain ⟨e4, q4⟩ := ret_some hf2
  subst e4 q4 q3
  exact he.sem L E ρ σ F H rs x _ _ r e1 fun v F1 H1 s1 h1 => k v F1 H1 (Ret.of r s1 h1 e3)⟩
/-- return of a name: a list of one's own is handed over -/
def vown (ρ : Env) (i : Nat) : Option RV := match ρ[i]? with
  | some (some (.d x)) => some (.d x)
  | some (some (.o ds)) => some (.n ds)
  | some (some (.g c)) => some (.gn c)
  | _ => none
def sRetV (i : Nat) : Env → M Out := fun ρ => bnd (lft (vown ρ i)) fun y => ret (.rt y)
theorem ds_retV (i : Nat) {x : Str} {p : Pos} (hN : X.N[i]? = some x := by rfl) (hv : Vis X.env.scope x := by first | exact Or.inl rfl | exact Or.inr (Or.inl rfl) | exact Or.inr (Or.inr rfl)) (hd : (x == ("__debug__" : Str)) = false := by decide)
    (hcd : (x == ("__classdict__" : Str)) = false := by decide) : DS X R (.Return (some (.Name x p)) pos) (tRet (tVar i)) (sRetV i) := ⟨ps_ret (pe_var hN hv hd hcd), fun L E F ρ σ rs H o rs' D r hf k => by
  obtain ⟨y, rs2, e2, hf2⟩ := bnd_some hf
  obtain ⟨e3, q3⟩ := lft_some e2
  obtain ⟨e4, q4⟩ := ret_some hf2
  subst e4 q4 q3
  unfold vown at e3
  cases e : ρ[i]? with
  | none => rw [e] at e3; cases e3
  | some sv =>
    cases sv with
    | none => rw [e] at e3; cases e3
    | some sv =>
      rw [e] at e3
      obtain ⟨v, ev, q⟩ := r.sl i sv e
      refine ⟨v, ev, k v F H ⟨FStep.refl, r.ex, r.fr, r.row, fun q e => (r.rE q e).2, ?_⟩⟩
      cases sv with
      | d x => cases e3; exact q
      | o ds =>
        cases e3
        obtain ⟨a, vs, e1, h1, h2, h3, h4, h5⟩ := q
        exact ⟨a, vs, e1, h1, h2, h3, h4, h5⟩
      | g c =>
        cases e3
        obtain ⟨a, vs, e1, h1, h2, h3, h4, h5⟩ := q
        exact ⟨a, vs, e1, h1, h2, h3, h4, h5⟩
      | k ds => cases e3
      | un => cases e3
      | ex _ _ => cases e3
      | fn _ => cases e3
      | lm => cases e3
      | row => cases e3⟩
def sDrop (f : Env → M RV) : Env → M Out := fun ρ => bnd (f ρ) fun _ => ret (.nx ρ)
theorem ds_expr (he : DE X R e te f) (hs : swapsWith e none pos.line X.env = pure false := by rfl) : DS X R (.Expr e pos) (tDrop te) (sDrop f) := ⟨ps_expr he.pe hs, fun L E F ρ σ rs H o rs' D r hf k => by
  obtain ⟨x, rs1, e1, hf1⟩ := bnd_some hf
  obtain ⟨e4, q4⟩ := ret_some hf1
  subst e4 q4
  exact he.sem L E ρ σ F H rs x _ _ r e1 fun v F1 H1 s1 h1 => k σ F1 H1 (FStep.ofStep r s1) (r.step s1)⟩
def sSet (i : Nat) (f : Env → M RV) : Env → M Out := fun ρ => bnd (f ρ) fun x => bnd (lft (toS x)) fun sv => ret (.nx (ρ.set i (some sv)))
theorem ds_set {i : Nat} {x : Str} {pos' : Pos} (hN : X.N.Nodup) (hi : X.N[i]? = some x) (hx : Loc X.env.scope x) (he : DE X R e te f) (hs : swapsWith e (some (.Name x pos')) pos.line X.env = pure false := by rfl)
    (hf : X.fn x = true ∨ X.env.scope.names.lookup x = some .local := by first | exact .inl rfl | exact .inr rfl | assumption) : DS X R (.Assign [.Name x pos'] e pos) (tAsg te (gName i)) (sSet i f) := ⟨ps_set hN hi hx he.pe hs hf, fun L E F ρ σ rs H o rs' D r hf k => by
  obtain ⟨x, rs1, e1, hf1⟩ := bnd_some hf
  obtain ⟨sv, rs2, e2, hf2⟩ := bnd_some hf1
  obtain ⟨e3, q3⟩ := lft_some e2
  obtain ⟨e4, q4⟩ := ret_some hf2
  subst e4 q4 q3
  exact he.sem L E ρ σ F H rs x _ _ r e1 fun v F1 H1 s1 h1 => k _ F1 H1 (FStep.ofStep r s1) (Rel.store r s1 h1 e3 i)⟩
/-- y = x, both names: a list of one's own moves -/
def sMove (i j : Nat) : Env → M Out := fun ρ => match ρ[j]? with
  | some (some (.d x)) => ret (.nx (ρ.set i (some (.d x))))
  | some (some (.o ds)) => ret (.nx ((ρ.set j none).set i (some (.o ds))))
  | some (some (.g c)) => ret (.nx ((ρ.set j none).set i (some (.g c))))
  | _ => fail
theorem ds_move {i j : Nat} {x y : Str} {pos' p2 : Pos} (hN : X.N.Nodup) (hi : X.N[i]? = some x) (hx : Loc X.env.scope x) (hj : X.N[j]? = some y) (hv : Vis X.env.scope y := by first | exact Or.inl rfl | exact Or.inr (Or.inl rfl) | exact Or.inr (Or.inr rfl)) (hd : (y == ("__debug__" : Str)) = false := by decide)
    (hcd : (y == ("__classdict__" : Str)) = false := by decide) (hs : swapsWith (.Name y p2) (some (.Name x pos')) pos.line X.env = pure false := by rfl)
    (hf : X.fn x = true ∨ X.env.scope.names.lookup x = some .local := by first | exact .inl rfl | exact .inr rfl | assumption) : DS X R (.Assign [.Name x pos'] (.Name y p2) pos) (tAsg (tVar j) (gName i)) (sMove i j) := ⟨ps_set hN hi hx (pe_var hj hv hd hcd) hs hf, fun L E F ρ σ rs H o rs' D r hf k => by
  unfold sMove at hf
  cases e : ρ[j]? with
  | none => rw [e] at hf; cases hf
  | some sv =>
    cases sv with
    | none => rw [e] at hf; cases hf
    | some sv =>
      rw [e] at hf
      obtain ⟨v, ev, q⟩ := r.sl j sv e
      refine ⟨v, ev, ?_⟩
      cases sv with
      | d x =>
        obtain ⟨e4, q4⟩ := ret_some hf
        subst e4 q4
        exact k _ F H FStep.refl (r.put i _ v q (fun a q => nomatch q))
      | o ds =>
        obtain ⟨e4, q4⟩ := ret_some hf
        subst e4 q4
        obtain ⟨a, vs, rfl, h1, h2, h3, h4, h5⟩ := q
        refine k _ F H FStep.refl ((r.forget j).put i _ _ ⟨a, vs, rfl, h1, h2, h3, h4, h5⟩ fun b q1 q2 m y hm e1 oy e2 => ?_)
        cases q2
        have hmj : m ≠ j := by
          rintro rfl
          have hl : m < ρ.length := by
            have := (List.getElem?_eq_some_iff.mp e1).1
            rw [List.length_set] at this
            exact this
          rw [List.getElem?_set_self hl] at e1
          cases e1
        rw [List.getElem?_set_ne (Ne.symm hmj)] at e1
        exact hmj (r.own m j a _ _ e1 e oy trivial e2 ev)
      | g c =>
        obtain ⟨e4, q4⟩ := ret_some hf
        subst e4 q4
        obtain ⟨a, vs, rfl, h1, h2, h3, h4, h5⟩ := q
        refine k _ F H FStep.refl ((r.forget j).put i _ _ ⟨a, vs, rfl, h1, h2, h3, h4, h5⟩ fun b q1 q2 m y hm e1 oy e2 => ?_)
        cases q2
        have hmj : m ≠ j := by
          rintro rfl
          have hl : m < ρ.length := by
            have := (List.getElem?_eq_some_iff.mp e1).1
            rw [List.length_set] at this
            exact this
          rw [List.getElem?_set_self hl] at e1
          cases e1
        rw [List.getElem?_set_ne (Ne.symm hmj)] at e1
        exact hmj (r.own m j a _ _ e1 e oy trivial e2 ev)
      | k ds => cases hf
      | un => cases hf
      | ex _ _ => cases hf
      | fn _ => cases hf
      | lm => cases hf
      | row => cases hf⟩
/-- x += e, ints -/
def sAug (i : Nat) (k : Int → Int → Int) (f : Env → M RV) : Env → M Out := fun ρ => bnd (lft (vget ρ i)) fun y => bnd (lft (asInt y)) fun a => bnd (f ρ) fun x => bnd (lft (asInt x)) fun b => ret (.nx (ρ.set i (some (.d (.int (k a b))))))
theorem ds_aug {i : Nat} {x : Str} {op : Operator} {kf : Int → Int → Int} {pos' : Pos} (ho : PIp X op (ipI kf)) (hN : X.N.Nodup) (hi : X.N[i]? = some x) (hx : Loc X.env.scope x) (he : DE X R e te f)
    (hf : X.fn x = true ∨ X.env.scope.names.lookup x = some .local := by first | exact .inl rfl | exact .inr rfl | assumption) : DS X R (.AugAssign (.Name x pos') op e pos) (tAug i te (ipI kf)) (sAug i kf f) := ⟨ps_aug hN hi hx he.pe ho hf, fun L E F ρ σ rs H o rs' D r hf k => by
  obtain ⟨y, rs5, e5, hf5⟩ := bnd_some hf
  obtain ⟨e5', q5⟩ := lft_some e5
  obtain ⟨a, rs6, e6, hf6⟩ := bnd_some hf5
  obtain ⟨e6', q6⟩ := lft_some e6
  obtain ⟨x, rs1, e1, hf1⟩ := bnd_some hf6
  obtain ⟨b, rs2, e2, hf2⟩ := bnd_some hf1
  obtain ⟨e3, q3⟩ := lft_some e2
  obtain ⟨e4, q4⟩ := ret_some hf2
  subst e4 q4 q3 q6 q5
  obtain ⟨v, ev, q⟩ := r.get e5'
  have hv := q.int e6'
  subst hv
  refine ⟨_, ev, he.sem L E ρ σ F H _ x _ _ r e1 fun v F1 H1 s1 h1 => ?_⟩
  have := h1.int e3
  subst this
  exact ⟨a, b, rfl, rfl, k _ F1 H1 (FStep.ofStep r s1) ((r.step s1).put i _ _ (Dp.int _) (fun a q => nomatch q))⟩⟩
end
end DV

namespace DV
open PySem L2
section
variable {X : Cx} {K : PySem.W.Frag} {R : RA} {L : Nat → Option (Addr × List V)} {E F F' H H' : Hp} {ρ ρ' : Env} {σ σ' : L2.St} {rs rs' : RS}

/-- other slots than S stand as they stood -/
structure OffEq (S : List Nat) (σ σ' : L2.St) : Prop where
  len : σ'.length = σ.length
  at_ : ∀ j, j ∉ S → σ'[j]? = σ[j]?
theorem OffEq.refl {S : List Nat} : OffEq S σ σ := ⟨rfl, fun _ _ => rfl⟩
theorem OffEq.trans {S : List Nat} {σ1 σ2 : L2.St} (a : OffEq S σ σ1) (b : OffEq S σ1 σ2) : OffEq S σ σ2 := ⟨b.len.trans a.len, fun j h => (b.at_ j h).trans (a.at_ j h)⟩
theorem OffEq.mono {S S' : List Nat} (a : OffEq S σ σ') (h : ∀ i ∈ S, i ∈ S') : OffEq S' σ σ' := ⟨a.len, fun j hj => a.at_ j fun z => hj (h j z)⟩
theorem wipe_at (σ : L2.St) : ∀ (vs : List Nat) (j : Nat), (wipe σ vs)[j]? = if j ∈ vs then (if j < σ.length then some none else none) else σ[j]?
  | [], j => by simp [wipe]
  | v :: vs, j => by
    unfold wipe
    by_cases hj : j = v
    · subst hj
      rw [if_pos List.mem_cons_self]
      by_cases hl : j < σ.length
      · rw [List.getElem?_set_self (by rw [wipe_length]; exact hl), if_pos hl]
      · rw [if_neg hl, List.getElem?_eq_none]
        rw [List.length_set, wipe_length]
        omega
    · rw [List.getElem?_set_ne (Ne.symm hj), wipe_at σ vs j]
      have e : (j ∈ v :: vs) = (j ∈ vs) := by simp [hj]
      simp only [e]
theorem wipe_off {S : List Nat} (o : OffEq S σ σ') {vs : List Nat} (h : ∀ i ∈ S, i ∈ vs) : wipe σ' vs = wipe σ vs := by
  apply List.ext_getElem?
  intro j
  rw [wipe_at, wipe_at, o.len]
  by_cases hj : j ∈ vs
  · rw [if_pos hj, if_pos hj]
  · rw [if_neg hj, if_neg hj]
    exact o.at_ j fun z => hj (h j z)
def wipeE (ρ : Env) : List Nat → Env
  | [] => ρ
  | v :: vs => (wipeE ρ vs).set v none
theorem Rel.forget2 (r : Rel K R L E F ρ σ rs H) (i : Nat) : Rel K R L E F (ρ.set i none) (σ.set i none) rs H := by
  have q := r.forget i
  refine ⟨by rw [List.length_set, List.length_set]; exact r.len, q.ex, q.ent, q.fr, q.row, q.rE, q.lk, fun j sw e => ?_, fun j k a x y e1 e2 ox oy e3 e4 => ?_⟩
  · have hj : j ≠ i := by
      rintro rfl
      have hl : j < ρ.length := by
        have := (List.getElem?_eq_some_iff.mp e).1
        rw [List.length_set] at this
        exact this
      rw [List.getElem?_set_self hl] at e
      cases e
    obtain ⟨v, e1, h1⟩ := q.sl j sw e
    exact ⟨v, by rw [List.getElem?_set_ne (Ne.symm hj)]; exact e1, h1⟩
  · have hj : j ≠ i := by
      rintro rfl
      have hl : j < ρ.length := by
        have := (List.getElem?_eq_some_iff.mp e1).1
        rw [List.length_set] at this
        exact this
      rw [List.getElem?_set_self hl] at e1
      cases e1
    have hk : k ≠ i := by
      rintro rfl
      have hl : k < ρ.length := by
        have := (List.getElem?_eq_some_iff.mp e2).1
        rw [List.length_set] at this
        exact this
      rw [List.getElem?_set_self hl] at e2
      cases e2
    rw [List.getElem?_set_ne (Ne.symm hj)] at e3
    rw [List.getElem?_set_ne (Ne.symm hk)] at e4
    exact q.own j k a x y e1 e2 ox oy e3 e4
theorem Rel.wipe (r : Rel K R L E F ρ σ rs H) : ∀ vs : List Nat, Rel K R L E F (wipeE ρ vs) (L2.wipe σ vs) rs H
  | [] => r
  | v :: vs => (Rel.wipe r vs).forget2 v
def GSem (K : PySem.W.Frag) (R : RA) (S : List Nat) (t : TG) (h : D → Env → Option Env) : Prop :=
  ∀ (L : Nat → Option (Addr × List V)) (E F : Hp) (ρ : Env) (σ : L2.St) (rs : RS) (H : Hp) (v : V) (x : D) (ρ' : Env) (Q : L2.St → Hp → Prop), Rel K R L E F ρ σ rs H → Dp K F v x → h x ρ = some ρ' →
    (∀ σ', Rel K R L E F ρ' σ' rs H → OffEq S σ σ' → Q σ' H) → t v σ H Q
def GsSem (K : PySem.W.Frag) (R : RA) (S : List Nat) (t : TGs) (h : List D → Env → Option Env) : Prop :=
  ∀ (L : Nat → Option (Addr × List V)) (E F : Hp) (ρ : Env) (σ : L2.St) (rs : RS) (H : Hp) (v : List V) (x : List D) (ρ' : Env) (Q : L2.St → Hp → Prop), Rel K R L E F ρ σ rs H → DpAll K F v x → h x ρ = some ρ' →
    (∀ σ', Rel K R L E F ρ' σ' rs H → OffEq S σ σ' → Q σ' H) → t v σ H Q
structure DG (X : Cx) (R : RA) (S : List Nat) (tg : Expr) (t : TG) (h : D → Env → Option Env) : Prop where
  pg : PG X tg t
  sem : GSem X.K R S t h
structure DGs (X : Cx) (R : RA) (S : List Nat) (tg : List Expr) (t : TGs) (h : List D → Env → Option Env) : Prop where
  pg : PGs X tg t
  sem : GsSem X.K R S t h
variable {S S' : List Nat} {tg it elt e c : Expr} {es ifs : List Expr} {g : TG} {gs : TGs} {hg : D → Env → Option Env} {hgs : List D → Env → Option Env} {pos p : Pos} {st : Stmt} {body : List Stmt} {tb : TS} {tt : TT} {te : TE} {ta : TA} {wi : TI}
def gNm (i : Nat) : D → Env → Option Env := fun x ρ => some (ρ.set i (some (.d x)))
theorem dg_name {i : Nat} {x : Str} (hN : X.N.Nodup) (hi : X.N[i]? = some x) (hx : Loc X.env.scope x) (hf : X.fn x = true ∨ X.env.scope.names.lookup x = some .local := by first | exact .inl rfl | exact .inr rfl | assumption) : DG X R [i] (.Name x pos) (gName i) (gNm i) :=
  ⟨pg_name hN hi hx hf, fun L E F ρ σ rs H v x ρ' Q r hd e k => by
    cases e
    refine k _ (r.put i _ v hd (fun a q => nomatch q)) ⟨List.length_set, fun j hj => ?_⟩
    rw [List.getElem?_set_ne]
    exact fun z => hj (by simp [z])⟩
def gNone : List D → Env → Option Env := fun xs ρ => match xs with
  | [] => some ρ
  | _ => none
def gMore (h : D → Env → Option Env) (hs : List D → Env → Option Env) : List D → Env → Option Env := fun xs ρ => match xs with
  | x :: xs => match h x ρ with
    | some ρ1 => hs xs ρ1
    | none => none
  | [] => none
theorem dgs_nil : DGs X R [] [] gNil gNone := ⟨pgs_nil, fun L E F ρ σ rs H v x ρ' Q r hd e k => by
  cases hd with
  | nil =>
    cases e
    exact ⟨rfl, k σ r OffEq.refl⟩
  | cons _ _ => cases e⟩
theorem dgs_cons (h1 : DG X R S e g hg) (h2 : DGs X R S' es gs hgs) (hs : (assignEach (e :: es) X.env).map (·.2) = assign e X.env :: (assignEach es X.env).map (·.2) := by rfl) : DGs X R (S ++ S') (e :: es) (gCons g gs) (gMore hg hgs) :=
  ⟨pgs_cons h1.pg h2.pg hs, fun L E F ρ σ rs H v x ρ' Q r hd e k => by
    cases hd with
    | nil => cases e
    | @cons v vs d ds hv ht =>
      have e' : (match hg d ρ with | some ρ1 => hgs ds ρ1 | none => none) = some ρ' := e
      cases e1 : hg d ρ with
      | none => rw [e1] at e'; cases e'
      | some ρ1 =>
        rw [e1] at e'
        refine ⟨v, vs, rfl, h1.sem L E F ρ σ rs H v d ρ1 _ r hv e1 fun σ1 r1 o1 => ?_⟩
        exact h2.sem L E F ρ1 σ1 rs H vs ds ρ' Q r1 ht e' fun σ2 r2 o2 => k σ2 r2 ((o1.mono fun i h => List.mem_append_left _ h).trans (o2.mono fun i h => List.mem_append_right _ h))⟩
def gTupF (n : Nat) (hs : List D → Env → Option Env) : D → Env → Option Env := fun x ρ => match x with
  | .tuple ds => if ds.length = n then hs ds ρ else none
  | _ => none
theorem dg_tup {k n : Nat} (hc : X.calm = true) (h : DGs X R S es gs hgs) (hn : (assignEach es X.env).length = n := by rfl) (hst : (assignEach es X.env).findIdx? (·.1) = none := by rfl) : DG X R S (.Tuple es k pos) (gTup X.K n gs) (gTupF n hgs) :=
  ⟨pg_tup hc h.pg hn hst, fun L E F ρ σ rs H v x ρ' Q r hd e k => by
    cases x with
    | tuple ds =>
      have e' : (if ds.length = n then hgs ds ρ else none) = some ρ' := e
      by_cases hl : ds.length = n
      · rw [if_pos hl] at e'
        cases hd with
        | @tup a vs _ h1 h2 =>
          exact ⟨a, vs, rfl, ex_t (r.fr _) h1, by rw [h2.len, hl], h.sem L E F ρ σ rs H vs ds ρ' Q r h2 e' k⟩
      · rw [if_neg hl] at e'; cases e'
    | none => cases e
    | bool _ => cases e
    | int _ => cases e
    | str _ => cases e
    | list _ => cases e
    | dict _ => cases e⟩
/-- a, b = e -/
def sTup (f : Env → M RV) (h : D → Env → Option Env) : Env → M Out := fun ρ => bnd (f ρ) fun x => match x with
  | .d y => bnd (lft (h y ρ)) fun ρ' => ret (.nx ρ')
  | _ => fail
theorem ds_tup {f : Env → M RV} (he : DE X R e te f) (h : DG X R S tg g hg) (hs : swapsWithSole [tg] e pos.line X.env = pure false := by rfl) (hw : swappedStores [tg] e X.env = pure none := by rfl)
    (h1 : (assignEach [tg] X.env).map (·.2) = [assign tg X.env] := by rfl) : DS X R (.Assign [tg] e pos) (tAsg te g) (sTup f hg) := ⟨ps_asg he.pe h.pg hs hw h1, fun L E F ρ σ rs H o rs' D r hf k => by
  obtain ⟨x, rs1, e1, hf1⟩ := bnd_some hf
  refine he.sem L E ρ σ F H rs x rs1 _ r e1 fun v F1 H1 s1 h1 => ?_
  cases x with
  | d y =>
    obtain ⟨ρ', rs2, e2, hf2⟩ := bnd_some hf1
    obtain ⟨e3, q3⟩ := lft_some e2
    obtain ⟨e4, q4⟩ := ret_some hf2
    subst e4 q4 q3
    exact h.sem L E F1 ρ σ _ H1 v y ρ' _ (r.step s1) h1 e3 fun σ' r' _ => k σ' F1 H1 (FStep.ofStep r s1) r'
  | b _ => cases hf1
  | n _ => cases hf1
  | gb _ => cases hf1
  | gn _ => cases hf1
  | row => cases hf1⟩
/-- a, b = x, y with two plain local names -/
def sPar (i j : Nat) (fa : Env → M (List RV)) : Env → M Out := fun ρ => bnd (fa ρ) fun xs => match xs with
  | [x, y] => bnd (lft (toS x)) fun sx => bnd (lft (toS y)) fun sy => ret (.nx ((ρ.set i (some sx)).set j (some sy)))
  | _ => fail
theorem Rel.store2 {H0 : Hp} (r0 : Rel K R L E F ρ σ rs H0) {ρ1 : Env} {σ1 : L2.St} {F1 H1 : Hp} (r1 : Rel K R L E F1 ρ1 σ1 rs' H1) {v : V} {x : RV} {sv : SV} (hv : VR K R F1 H0 H1 v x) (e : toS x = some sv) (i : Nat)
    (apart : ∀ a u, v = .ref a → H1 a = some u → H0 a = none → ∀ j y, j ≠ i → ρ1[j]? = some (some y) → y.ow → σ1[j]? = some (some (V.ref a)) → False) : Rel K R L E F1 (ρ1.set i (some sv)) (σ1.set i (some v)) rs' H1 := by
  cases x with
  | d y =>
    cases e
    exact r1.put i _ v hv (fun a q => nomatch q)
  | n ds =>
    cases e
    obtain ⟨a, vs, rfl, h1, h0, h2, h3, h4⟩ := hv
    have hE : E a = none := by
      cases q : E a with
      | none => rfl
      | some u => rw [r0.ex a u q] at h0; cases h0
    refine r1.put i _ _ ⟨a, vs, rfl, h1, hE, h2, h3, h4⟩ fun b q1 q2 j fs hj e1 oy e2 => ?_
    cases q2
    exact apart a _ rfl h1 h0 j fs hj e1 oy e2
  | gb _ => cases e
  | gn c =>
    cases e
    obtain ⟨a, vs, rfl, h1, h0, h2, h3, h4⟩ := hv
    have hE : E a = none := by
      cases q : E a with
      | none => rfl
      | some u => rw [r0.ex a u q] at h0; cases h0
    refine r1.put i _ _ ⟨a, vs, rfl, h1, hE, h2, h3, h4⟩ fun b q1 q2 j fs hj e1 oy e2 => ?_
    cases q2
    exact apart a _ rfl h1 h0 j fs hj e1 oy e2
  | b ds => cases e
  | row => cases e
theorem ds_par {i j : Nat} {x y : Str} {a b : Expr} {fa fb : Env → M RV} {tA tB : TE} {px py pt : Pos} {kt k2 pt2} (hc : X.calm = true) (hN : X.N.Nodup) (hi : X.N[i]? = some x) (hj : X.N[j]? = some y) (hij : i ≠ j)
    (hx : X.env.scope.names.lookup x = some .local) (hy : X.env.scope.names.lookup y = some .local) (ha : DE X R a tA fa) (hb : DE X R b tB fb)
    (hw : swappedStores [.Tuple [.Name x px, .Name y py] kt pt] (.Tuple [a, b] k2 pt2) X.env = pure (some [x, y])) (hs : swapsWithSole [.Tuple [.Name x px, .Name y py] kt pt] (.Tuple [a, b] k2 pt2) pos.line X.env = pure false := by rfl)
    (hq1 : starEach [a, b] X.env = (false, eval a X.env) :: starEach [b] X.env := by rfl) (hq2 : starEach [b] X.env = (false, eval b X.env) :: starEach [] X.env := by rfl) :
    DS X R (.Assign [.Tuple [.Name x px, .Name y py] kt pt] (.Tuple [a, b] k2 pt2) pos) (tPar i j (tCons tA (tCons tB tNil))) (sPar i j (aCons fa (aCons fb aNil))) :=
  ⟨ps_par hc hN hi hj hij hx hy (pa_cons ha.pe (pa_cons hb.pe pa_nil hq2) hq1) hw hs, fun L E F ρ σ rs H o rs' D r hf k => by
    obtain ⟨xs, rs1, e1, hf1⟩ := bnd_some hf
    obtain ⟨x1, rs2, e2, hf2⟩ := bnd_some e1
    obtain ⟨ys, rs3, e3, hf3⟩ := bnd_some hf2
    obtain ⟨x2, rs4, e4, hf4⟩ := bnd_some e3
    obtain ⟨zs, rs5, e5, hf5⟩ := bnd_some hf4
    obtain ⟨e6, q6⟩ := ret_some e5
    obtain ⟨e7, q7⟩ := ret_some hf5
    obtain ⟨e8, q8⟩ := ret_some hf3
    subst e6 q6 e7 q7 e8 q8
    obtain ⟨sx, rs6, e9, hf6⟩ := bnd_some hf1
    obtain ⟨e10, q10⟩ := lft_some e9
    obtain ⟨sy, rs7, e11, hf7⟩ := bnd_some hf6
    obtain ⟨e12, q12⟩ := lft_some e11
    obtain ⟨e13, q13⟩ := ret_some hf7
    subst e13 q13 q12 q10
    refine ha.sem L E ρ σ F H rs x1 rs2 _ r e2 fun v1 F1 H1 s1 h1 => ?_
    refine hb.sem L E ρ σ F1 H1 rs2 x2 _ _ (r.step s1) e4 fun v2 F2 H2 s2 h2 => ?_
    refine ⟨v1, v2, rfl, ?_⟩
    have s12 := s1.trans r.row s2
    have r1 := Rel.store r s12 (h1.step s2) e10 i
    refine k _ F2 H2 (FStep.ofStep r s12) (Rel.store2 (r.step s1) r1 h2 e12 j fun a u ev hl h0 m y hm q1 oy q2 => ?_)
    subst ev
    by_cases hmi : m = i
    · subst hmi
      have hl : m < ρ.length := by
        have := (List.getElem?_eq_some_iff.mp q1).1
        rw [List.length_set] at this
        exact this
      rw [List.getElem?_set_self (by rw [← r.len]; exact hl)] at q2
      have q3 := Option.some.inj (Option.some.inj q2)
      subst q3
      rw [List.getElem?_set_self hl] at q1
      cases x1 with
      | d y => cases e10; cases q1; cases oy
      | n y =>
        obtain ⟨_, _, e, hh, _⟩ := h1
        cases e
        rw [h0] at hh
        cases hh
      | gb _ => cases e10
      | gn y =>
        obtain ⟨_, _, e, hh, _⟩ := h1
        cases e
        rw [h0] at hh
        cases hh
      | b y => cases e10
      | row => cases e10
    · rw [List.getElem?_set_ne (Ne.symm hmi)] at q1 q2
      obtain ⟨w, q, _⟩ := (r.step s1).own_at q1 oy q2
      rw [h0] at q
      cases q⟩
end
end DV

namespace DV
open PySem L2
section
variable {X : Cx} {K : PySem.W.Frag} {R : RA} {L : Nat → Option (Addr × List V)} {E F F' H H' : Hp} {ρ ρ' : Env} {σ σ' : L2.St} {rs rs' : RS}

/-- what must stand while it is walked: things that are new, the caller's, or one list of one's own (lk) -/
def PinOk (K : PySem.W.Frag) (R : RA) (E F' H H' : Hp) (ρ : Env) (σ : L2.St) (lk : Option Nat) (P : Hp) : Prop := ∀ a o, P a = some o → H' a = some o ∧ some a ≠ R.row ∧ Fx K a o ∧
  ((H a = none ∧ F' a = none) ∨ E a = some o ∨ ∃ i ds, lk = some i ∧ ρ[i]? = some (some (SV.o ds)) ∧ σ[i]? = some (some (V.ref a)))
def YOk (K : PySem.W.Frag) (F' : Hp) (its : List D) (Y : Nat → Hp → V → Hp → Prop) : Prop := ∀ (i : Nat) (H1 : Hp) (v : V) (H2 F1 : Hp), i < its.length → (∀ a o, F' a = some o → F1 a = some o) → (∀ a o, F1 a = some o → H1 a = some o) → Y i H1 v H2 →
  ∃ x, its[i]? = some x ∧ ((H2 = H1 ∧ Dp K F1 v x) ∨ ∃ T vs ds, v = .ref T ∧ H1 T = none ∧ H2 = upd H1 T (.tup vs) ∧ x = .tuple ds ∧ DpAll K F1 vs ds)
def IterOk (K : PySem.W.Frag) (R : RA) (E : Hp) (ρ : Env) (σ : L2.St) (H F' H' : Hp) (J : It) (its : List D) (lk : Option Nat) : Prop :=
  ∃ (G : Hp → Prop) (Y : Nat → Hp → V → Hp → Prop) (P : Hp), Walk J its.length G Y ∧ PinOk K R E F' H H' ρ σ lk P ∧ (∀ H2, (∀ a o, P a = some o → H2 a = some o) → (∀ a o, F' a = some o → H2 a = some o) → G H2) ∧ YOk K F' its Y
def ISem (K : PySem.W.Frag) (R : RA) (wi : TI) (f : Env → M (List D × Option Nat)) : Prop :=
  ∀ (L : Nat → Option (Addr × List V)) (E : Hp) (ρ : Env) (σ : L2.St) (F H : Hp) (rs : RS) (its : List D) (lk : Option Nat) (rs' : RS) (Rq : It → Hp → Prop), Rel K R L E F ρ σ rs H → f ρ rs = some ((its, lk), rs') →
    (∀ J F' H', Step K R rs' F H F' H' → IterOk K R E ρ σ H F' H' J its lk → Rq J H') → wi σ H Rq
structure DI (X : Cx) (R : RA) (tg it : Expr) (wi : TI) (f : Env → M (List D × Option Nat)) : Prop where
  pi : PI X tg it wi
  sem : ISem X.K R wi f

def lockE (ρ : Env) : Option Nat → Env
  | none => ρ
  | some i => match ρ[i]? with
    | some (some (.o ds)) => ρ.set i (some (.k ds))
    | _ => ρ
def unlockE (ρ ρ' : Env) : Option Nat → Env
  | none => ρ'
  | some i => match ρ[i]?, ρ'[i]? with
    | some (some (.o ds)), some (some (.k _)) => ρ'.set i (some (.o ds))
    | _, _ => ρ'
theorem unlock_none {i : Nat} (h : ∀ ds, ρ[i]? ≠ some (some (SV.o ds))) : unlockE ρ ρ' (some i) = ρ' := by
  show (match ρ[i]?, ρ'[i]? with | some (some (.o ds)), some (some (.k _)) => ρ'.set i (some (.o ds)) | _, _ => ρ') = ρ'
  split
  · rename_i e _
    exact absurd e (h _)
  · rfl
theorem lock_none {i : Nat} (h : ∀ ds, ρ[i]? ≠ some (some (SV.o ds))) : lockE ρ (some i) = ρ := by
  show (match ρ[i]? with | some (some (.o ds)) => ρ.set i (some (.k ds)) | _ => ρ) = ρ
  split
  · rename_i e
    exact absurd e (h _)
  · rfl
def addH (P E : Hp) : Hp := fun a => match P a with
  | some o => some o
  | none => E a
theorem addH_fx {P E : Hp} (h1 : ∀ a o, P a = some o → Fx K a o) (h2 : ∀ a o, E a = some o → Fx K a o) : ∀ a o, addH P E a = some o → Fx K a o := fun a o h => by
  unfold addH at h
  cases e : P a with
  | none => rw [e] at h; exact h2 a o h
  | some u => rw [e] at h; cases h; exact h1 a _ e
theorem addH_none {P E : Hp} {a : Addr} (h : addH P E a = none) : P a = none ∧ E a = none := by
  unfold addH at h
  cases e : P a with
  | none => rw [e] at h; exact ⟨rfl, h⟩
  | some o => rw [e] at h; cases h
theorem addH_of {P E : Hp} {a : Addr} (h1 : P a = none) (h2 : E a = none) : addH P E a = none := by
  unfold addH; rw [h1]; exact h2
/-- without a lock of one's own -/
theorem Rel.pin0 (r0 : Rel K R L E F ρ σ rs H) (s : Step K R rs' F H F' H') {lk : Option Nat} {P : Hp} (p : PinOk K R E F' H H' ρ σ lk P) (hn : ∀ i ds, lk = some i → ρ[i]? ≠ some (some (SV.o ds))) :
    Rel K R L (addH P E) F' ρ σ rs' H' := by
  have r1 := r0.step s
  have hex : ∀ a o, addH P E a = some o → H' a = some o := fun a o e => by
    unfold addH at e
    cases q : P a with
    | none => rw [q] at e; exact r1.ex a o e
    | some u => rw [q] at e; cases e; exact (p a _ q).1
  refine ⟨r1.len, hex, addH_fx (fun a o e => (p a o e).2.2.1) r1.ent, r1.fr, r1.row, fun q e => ⟨addH_of ?_ (r1.rE q e).1, (r1.rE q e).2⟩, fun i a vs e => ?_, fun i sv e => ?_, r1.own⟩
  · cases z : P q with
    | none => rfl
    | some u => exact absurd e.symm (p q u z).2.1
  · have hE := r1.lk i a vs e
    unfold addH
    cases q : P a with
    | none => exact hE
    | some u =>
      have h1 := (p a u q).1
      rw [r1.ex a _ hE] at h1
      exact h1.symm ▸ rfl
  · obtain ⟨v, e1, q⟩ := r1.sl i sv e
    refine ⟨v, e1, ?_⟩
    cases sv with
    | d x => exact q
    | k ds => exact q
    | un => exact trivial
    | ex _ _ => exact q
    | fn _ => exact q
    | lm => exact q
    | row => exact q
    | o ds =>
      obtain ⟨a, vs, rfl, h1, h2, h3, h4, h5⟩ := q
      refine ⟨a, vs, rfl, h1, addH_of ?_ h2, h3, h4, h5⟩
      cases z : P a with
      | none => rfl
      | some u =>
        rcases (p a u z).2.2.2 with ⟨z1, _⟩ | z1 | ⟨j, es, z1, z2, _⟩
        · obtain ⟨w, e2, b, ws, e3, k1, _⟩ := r0.sl i _ e
          rw [e1] at e2
          cases e2
          cases e3
          rw [z1] at k1
          cases k1
        · rw [h2] at z1; cases z1
        · exact absurd z2 (hn j es z1)
    | g c =>
      obtain ⟨a, vs, rfl, h1, h2, h3, h4, h5⟩ := q
      refine ⟨a, vs, rfl, h1, addH_of ?_ h2, h3, h4, h5⟩
      cases z : P a with
      | none => rfl
      | some u =>
        rcases (p a u z).2.2.2 with ⟨z1, _⟩ | z1 | ⟨j, es, z1, z2, _⟩
        · obtain ⟨w, k1, _⟩ := r0.own_at e trivial e1
          rw [z1] at k1
          cases k1
        · rw [h2] at z1; cases z1
        · exact absurd z2 (hn j es z1)
theorem Rel.unpin0 {P : Hp} {F2 H2 : Hp} {ρ2 : Env} {σ2 : L2.St} {rs2 : RS} (r1 : Rel K R L E F' ρ σ rs' H') (r2 : Rel K R L (addH P E) F2 ρ2 σ2 rs2 H2) (hPE : ∀ a o, E a = some o → addH P E a = some o) : Rel K R L E F2 ρ2 σ2 rs2 H2 := by
  refine ⟨r2.len, fun a o e => r2.ex a o (hPE a o e), r1.ent, r2.fr, r2.row, fun q e => ⟨(r1.rE q e).1, (r2.rE q e).2⟩, r1.lk, fun i sv e => ?_, r2.own⟩
  obtain ⟨v, e1, q⟩ := r2.sl i sv e
  refine ⟨v, e1, ?_⟩
  cases sv with
  | d x => exact q
  | k ds => exact q
  | un => exact trivial
  | ex _ _ => exact q
  | fn _ => exact q
  | lm => exact q
  | row => exact q
  | o ds =>
    obtain ⟨a, vs, rfl, h1, h2, h3, h4, h5⟩ := q
    exact ⟨a, vs, rfl, h1, (addH_none h2).2, h3, h4, h5⟩
  | g c =>
    obtain ⟨a, vs, rfl, h1, h2, h3, h4, h5⟩ := q
    exact ⟨a, vs, rfl, h1, (addH_none h2).2, h3, h4, h5⟩
theorem pinE (r0 : Rel K R L E F ρ σ rs H) (s : Step K R rs' F H F' H') {lk : Option Nat} {P : Hp} (p : PinOk K R E F' H H' ρ σ lk P) : ∀ a o, E a = some o → addH P E a = some o := fun a o e => by
  unfold addH
  cases q : P a with
  | none => exact e
  | some u =>
    have h1 := (p a u q).1
    rw [(r0.step s).ex a o e] at h1
    exact h1.symm ▸ rfl
/-- what a loop starts from, and how its end is read -/
structure Pinned (K : PySem.W.Frag) (R : RA) (L : Nat → Option (Addr × List V)) (E F' H' P : Hp) (ρ : Env) (σ : L2.St) (rs' : RS) (lk : Option Nat) (L2 : Nat → Option (Addr × List V)) (E2 : Hp) : Prop where
  rel : Rel K R L2 E2 F' (lockE ρ lk) σ rs' H'
  less : ∀ a, E2 a = none → E a = none
  sub : ∀ a o, E a = some o → E2 a = some o
  pin : ∀ a o, P a = some o → E2 a = some o
  back : ∀ F2 ρ2 σ2 rs2 H2, FStep R E2 F' F2 → Rel K R L2 E2 F2 ρ2 σ2 rs2 H2 → Rel K R L E F2 (unlockE ρ ρ2 lk) σ2 rs2 H2
theorem pinned (r0 : Rel K R L E F ρ σ rs H) (s : Step K R rs' F H F' H') {lk : Option Nat} {P : Hp} (p : PinOk K R E F' H H' ρ σ lk P) : ∃ L2 E2, Pinned K R L E F' H' P ρ σ rs' lk L2 E2 := by
  have r1 := r0.step s
  have plain : (∀ i ds, lk = some i → ρ[i]? ≠ some (some (SV.o ds))) → ∃ L2 E2, Pinned K R L E F' H' P ρ σ rs' lk L2 E2 := fun hn => by
    have h1 : lockE ρ lk = ρ := by
      cases lk with
      | none => rfl
      | some i => exact lock_none fun ds => hn i ds rfl
    have h2 : ∀ ρ2, unlockE ρ ρ2 lk = ρ2 := fun ρ2 => by
      cases lk with
      | none => rfl
      | some i => exact unlock_none fun ds => hn i ds rfl
    refine ⟨L, addH P E, ⟨by rw [h1]; exact r0.pin0 s p hn, fun a e => (addH_none e).2, pinE r0 s p, fun a o e => by unfold addH; rw [e], fun F2 ρ2 σ2 rs2 H2 _ r2 => ?_⟩⟩
    rw [h2]
    exact Rel.unpin0 r1 r2 (pinE r0 s p)
  cases hlk : lk with
  | none =>
    subst hlk
    exact plain fun i ds e => nomatch e
  | some i =>
    by_cases ho : ∃ ds, ρ[i]? = some (some (SV.o ds))
    · obtain ⟨ds, ho⟩ := ho
      subst hlk
      obtain ⟨v, ev, a, vs, rfl, q1, q2, q3, q4, q5⟩ := r1.sl i _ ho
      have hl : i < ρ.length := (List.getElem?_eq_some_iff.mp ho).1
      have elock : lockE ρ (some i) = ρ.set i (some (.k ds)) := by
        show (match ρ[i]? with | some (some (.o ds)) => ρ.set i (some (.k ds)) | _ => ρ) = _
        rw [ho]
      have hPa : ∀ o, P a = some o → o = .lst vs := fun o e => by
        have := (p a o e).1
        rw [q1] at this
        exact (Option.some.inj this).symm
      have hE2 : ∀ b o, upd (addH P E) a (.lst vs) b = some o → H' b = some o := fun b o e => by
        by_cases hb : b = a
        · subst hb; rw [upd_same] at e; rw [q1]; exact e
        · rw [upd_ne hb] at e
          unfold addH at e
          cases z : P b with
          | none => rw [z] at e; exact r1.ex b o e
          | some u => rw [z] at e; cases e; exact (p b _ z).1
      have hsub : ∀ b o, E b = some o → upd (addH P E) a (.lst vs) b = some o := fun b o e => by
        rw [upd_ne (fun z => by rw [z, q2] at e; cases e)]
        exact pinE r0 s p b o e
      refine ⟨fun j => if j = i then some (a, vs) else L j, upd (addH P E) a (.lst vs), ⟨?_, fun b e => ?_, hsub, fun b o e => ?_, fun F2 ρ2 σ2 rs2 H2 fs r2 => ?_⟩⟩
      · rw [elock]
        refine ⟨by rw [List.length_set]; exact r1.len, hE2, fun b o e => by
          by_cases hb : b = a
          · subst hb; rw [upd_same] at e; cases e; exact .lst
          · rw [upd_ne hb] at e; exact addH_fx (fun a o e => (p a o e).2.2.1) r1.ent b o e, r1.fr, r1.row, fun q e => ⟨?_, (r1.rE q e).2⟩, fun j b ws e => ?_, fun j sv e => ?_, fun j k c xa ya e1 e2 ox oy e3 e4 => ?_⟩
        · rw [upd_ne (fun z => q4 (by rw [← z, e]))]
          refine addH_of ?_ (r1.rE q e).1
          cases z : P q with
          | none => rfl
          | some u => exact absurd e.symm (p q u z).2.1
        · by_cases hj : j = i
          · have e' : (if j = i then some (a, vs) else L j) = some (b, ws) := e
            rw [if_pos hj] at e'
            cases e'
            exact upd_same
          · have e' : (if j = i then some (a, vs) else L j) = some (b, ws) := e
            rw [if_neg hj] at e'
            exact hsub b _ (r1.lk j b ws e')
        · by_cases hj : j = i
          · subst hj
            rw [List.getElem?_set_self hl] at e
            cases e
            exact ⟨_, ev, a, vs, if_pos rfl, rfl, q5⟩
          · rw [List.getElem?_set_ne (Ne.symm hj)] at e
            obtain ⟨w, e1, q⟩ := r1.sl j sv e
            refine ⟨w, e1, ?_⟩
            cases sv with
            | d x => exact q
            | k es =>
              obtain ⟨b, ws, z1, z2, z3⟩ := q
              exact ⟨b, ws, (if_neg hj).trans z1, z2, z3⟩
            | un => exact trivial
            | ex _ _ => exact q
            | fn _ => exact q
            | lm => exact q
            | row => exact q
            | o es =>
              obtain ⟨b, ws, rfl, z1, z2, z3, z4, z5⟩ := q
              have hba : b ≠ a := by
                rintro rfl
                exact hj (r1.own j i b _ _ e ho trivial trivial e1 ev)
              refine ⟨b, ws, rfl, z1, ?_, z3, z4, z5⟩
              rw [upd_ne hba]
              refine addH_of ?_ z2
              cases z : P b with
              | none => rfl
              | some u =>
                rcases (p b u z).2.2.2 with ⟨y1, _⟩ | y1 | ⟨m, fs, y1, y2, y3⟩
                · obtain ⟨w, k1, _⟩ := r0.own_at e trivial e1
                  rw [y1] at k1
                  cases k1
                · rw [z2] at y1; cases y1
                · cases y1
                  rw [ev] at y3
                  cases y3
                  exact absurd rfl hba
            | g es =>
              obtain ⟨b, ws, rfl, z1, z2, z3, z4, z5⟩ := q
              have hba : b ≠ a := by
                rintro rfl
                exact hj (r1.own j i b _ _ e ho trivial trivial e1 ev)
              refine ⟨b, ws, rfl, z1, ?_, z3, z4, z5⟩
              rw [upd_ne hba]
              refine addH_of ?_ z2
              cases z : P b with
              | none => rfl
              | some u =>
                rcases (p b u z).2.2.2 with ⟨y1, _⟩ | y1 | ⟨m, fs, y1, y2, y3⟩
                · obtain ⟨w, k1, _⟩ := r0.own_at e trivial e1
                  rw [y1] at k1
                  cases k1
                · rw [z2] at y1; cases y1
                · cases y1
                  rw [ev] at y3
                  cases y3
                  exact absurd rfl hba
        · have hj : j ≠ i := by
            rintro rfl
            rw [List.getElem?_set_self hl] at e1
            cases e1
            cases ox
          have hk : k ≠ i := by
            rintro rfl
            rw [List.getElem?_set_self hl] at e2
            cases e2
            cases oy
          exact r1.own j k c xa ya (by rw [List.getElem?_set_ne (Ne.symm hj)] at e1; exact e1) (by rw [List.getElem?_set_ne (Ne.symm hk)] at e2; exact e2) ox oy e3 e4
      · have hba : b ≠ a := by
          rintro rfl
          rw [upd_same] at e
          cases e
        rw [upd_ne hba] at e
        exact (addH_none e).2
      · by_cases hb : b = a
        · subst hb
          rw [upd_same, hPa o e]
        · rw [upd_ne hb]
          unfold addH
          rw [e]
      · have weak : Rel K R (fun j => if j = i then some (a, vs) else L j) E F2 ρ2 σ2 rs2 H2 → True := fun _ => trivial
        -- slots other than i
        have slot : ∀ (j : Nat) (sv : SV) (v : V), j ≠ i → SR K R (fun j => if j = i then some (a, vs) else L j) (upd (addH P E) a (.lst vs)) F2 H2 j v sv → SR K R L E F2 H2 j v sv := fun j sv v hj q => by
          cases sv with
          | d x => exact q
          | k es =>
            obtain ⟨b, ws, z1, z2, z3⟩ := q
            exact ⟨b, ws, (if_neg hj).symm.trans z1, z2, z3⟩
          | un => exact trivial
          | ex _ _ => exact q
          | fn _ => exact q
          | lm => exact q
          | row => exact q
          | o es =>
            obtain ⟨b, ws, rfl, z1, z2, z3, z4, z5⟩ := q
            refine ⟨b, ws, rfl, z1, ?_, z3, z4, z5⟩
            cases z : E b with
            | none => rfl
            | some u => rw [hsub b u z] at z2; cases z2
          | g es =>
            obtain ⟨b, ws, rfl, z1, z2, z3, z4, z5⟩ := q
            refine ⟨b, ws, rfl, z1, ?_, z3, z4, z5⟩
            cases z : E b with
            | none => rfl
            | some u => rw [hsub b u z] at z2; cases z2
        by_cases hk : ∃ es, ρ2[i]? = some (some (SV.k es))
        · obtain ⟨es, hk⟩ := hk
          have eun : unlockE ρ ρ2 (some i) = ρ2.set i (some (.o ds)) := by
            show (match ρ[i]?, ρ2[i]? with | some (some (.o ds)), some (some (.k _)) => ρ2.set i (some (.o ds)) | _, _ => ρ2) = _
            rw [ho, hk]
          rw [eun]
          have hl2 : i < ρ2.length := (List.getElem?_eq_some_iff.mp hk).1
          obtain ⟨v2, ev2, b, ws, y1, y2, y3⟩ := r2.sl i _ hk
          have y1' : (if i = i then some (a, vs) else L i) = some (b, ws) := y1
          rw [if_pos rfl] at y1'
          cases y1'
          subst y2
          have hEa : upd (addH P E) a (.lst vs) a = some (.lst vs) := upd_same
          have hFa : F2 a = none := by
            cases z : F2 a with
            | none => rfl
            | some u =>
              rcases fs.new a u z with y | ⟨y, _⟩
              · rw [q3] at y; cases y
              · rw [hEa] at y; cases y
          refine ⟨by rw [List.length_set]; exact r2.len, fun b o e => r2.ex b o (hsub b o e), r1.ent, r2.fr, r2.row, fun q e => ⟨(r1.rE q e).1, (r2.rE q e).2⟩, r1.lk, fun j sv e => ?_, fun j k c xa ya e1 e2 ox oy e3 e4 => ?_⟩
          · by_cases hj : j = i
            · subst hj
              rw [List.getElem?_set_self hl2] at e
              cases e
              exact ⟨_, ev2, a, vs, rfl, r2.ex a _ hEa, q2, hFa, q4, Dp.monoA fs.sub _ _ q5⟩
            · rw [List.getElem?_set_ne (Ne.symm hj)] at e
              obtain ⟨w, e1, q⟩ := r2.sl j sv e
              exact ⟨w, e1, slot j sv w hj q⟩
          · have other : ∀ (j : Nat) (x1 : SV), j ≠ i → (ρ2.set i (some (SV.o ds)))[j]? = some (some x1) → x1.ow → σ2[j]? = some (some (V.ref c)) → c ≠ a := fun j x1 hj e1 ox e3 => by
              rw [List.getElem?_set_ne (Ne.symm hj)] at e1
              obtain ⟨u, _, z2, _⟩ := r2.own_at e1 ox e3
              rintro rfl
              rw [hEa] at z2
              cases z2
            by_cases hj : j = i
            · by_cases hk' : k = i
              · rw [hj, hk']
              · exfalso
                subst hj
                rw [ev2] at e3
                cases e3
                exact other k ya hk' e2 oy e4 rfl
            · by_cases hk' : k = i
              · exfalso
                subst hk'
                rw [ev2] at e4
                cases e4
                exact other j xa hj e1 ox e3 rfl
              · rw [List.getElem?_set_ne (Ne.symm hj)] at e1
                rw [List.getElem?_set_ne (Ne.symm hk')] at e2
                exact r2.own j k c xa ya e1 e2 ox oy e3 e4
        · have eun : unlockE ρ ρ2 (some i) = ρ2 := by
            show (match ρ[i]?, ρ2[i]? with | some (some (.o ds)), some (some (.k _)) => ρ2.set i (some (.o ds)) | _, _ => ρ2) = _
            split
            · rename_i e2
              exact absurd ⟨_, e2⟩ hk
            · rfl
          rw [eun]
          refine ⟨r2.len, fun b o e => r2.ex b o (hsub b o e), r1.ent, r2.fr, r2.row, fun q e => ⟨(r1.rE q e).1, (r2.rE q e).2⟩, r1.lk, fun j sv e => ?_, r2.own⟩
          obtain ⟨w, e1, q⟩ := r2.sl j sv e
          by_cases hj : j = i
          · subst hj
            refine ⟨w, e1, ?_⟩
            cases sv with
            | d x => exact q
            | k es => exact absurd ⟨es, e⟩ hk
            | un => exact trivial
            | ex _ _ => exact q
            | fn _ => exact q
            | lm => exact q
            | row => exact q
            | o es =>
              obtain ⟨b, ws, rfl, z1, z2, z3, z4, z5⟩ := q
              refine ⟨b, ws, rfl, z1, ?_, z3, z4, z5⟩
              cases z : E b with
              | none => rfl
              | some u => rw [hsub b u z] at z2; cases z2
            | g es =>
              obtain ⟨b, ws, rfl, z1, z2, z3, z4, z5⟩ := q
              refine ⟨b, ws, rfl, z1, ?_, z3, z4, z5⟩
              cases z : E b with
              | none => rfl
              | some u => rw [hsub b u z] at z2; cases z2
          · exact ⟨w, e1, slot j sv w hj q⟩
    · subst hlk
      exact plain fun j ds e q => by
        cases e
        exact ho ⟨ds, q⟩
end
end DV

namespace DV
open PySem L2
section
variable {X : Cx} {K : PySem.W.Frag} {R : RA} {L : Nat → Option (Addr × List V)} {E F F' H H' : Hp} {ρ ρ' : Env} {σ σ' : L2.St} {rs rs' : RS}
variable {S S' : List Nat} {tg it elt e c : Expr} {es ifs : List Expr} {g : TG} {gs : TGs} {hg : D → Env → Option Env} {hgs : List D → Env → Option Env} {pos p : Pos} {st : Stmt} {body : List Stmt} {tb : TS} {tt : TT} {te : TE} {ta : TA} {wi : TI}
/-- what a walk yields, as a step -/
theorem YOk.step {its : List D} {Y : Nat → Hp → V → Hp → Prop} (y : YOk K F' its Y) {i : Nat} {H1 H2 F1 : Hp} {v : V} (hi : i < its.length) (h1 : ∀ a o, F' a = some o → F1 a = some o) (s : Step K R rs F1 H1 F1 H1) (hy : Y i H1 v H2) :
    ∃ x F2, its[i]? = some x ∧ Step K R rs F1 H1 F2 H2 ∧ Dp K F2 v x := by
  obtain ⟨x, e, q⟩ := y i H1 v H2 F1 hi h1 s.fin hy
  rcases q with ⟨rfl, hd⟩ | ⟨T, vs, ds, rfl, hT, rfl, rfl, hd⟩
  · exact ⟨x, F1, e, s, hd⟩
  · have s2 := Step.new_tup (vs := vs) s hT
    exact ⟨_, _, e, s2, .tup (.inl (.inl upd_same)) (Dp.monoA s2.sub _ _ hd)⟩

def loopF (tg : D → Env → Option Env) (body : Env → M Out) : List D → Env → M Out
  | [], ρ => ret (.nx ρ)
  | x :: xs, ρ => bnd (lft (tg x ρ)) fun ρ1 => bnd (body ρ1) fun o => match o with
    | .nx ρ2 => loopF tg body xs ρ2
    | .ct ρ2 => loopF tg body xs ρ2
    | .bk ρ2 => ret (.nx ρ2)
    | .rt r => ret (.rt r)
def unlockO (ρ : Env) (lk : Option Nat) : Out → Out
  | .nx ρ' => .nx (unlockE ρ ρ' lk)
  | o => o
def sFor (fi : Env → M (List D × Option Nat)) (tg : D → Env → Option Env) (body : Env → M Out) : Env → M Out := fun ρ =>
  bnd (fi ρ) fun p => bnd (loopF tg body p.1 (lockE ρ p.2)) fun o => ret (unlockO ρ p.2 o)
theorem ssem_for_at {fi : Env → M (List D × Option Nat)} {gb : Env → M Out} (r : Rel K R L E F ρ σ rs H) (hi : ∀ (its : List D) (lk : Option Nat) (rs1 : RS) (Rq : It → Hp → Prop), fi ρ rs = some ((its, lk), rs1) → (∀ J F' H', Step K R rs1 F H F' H' → IterOk K R E ρ σ H F' H' J its lk → Rq J H') → wi σ H Rq)
    (hgs : GSem K R S g hg) (hb : SSem K R tb gb) {o : Out} {rs' : RS} {D : Ends} (hf : sFor fi hg gb ρ rs = some (o, rs')) (k : Post K R L E F D rs' o) : tFor wi g tb D σ H := by
  obtain ⟨⟨its, lk⟩, rs1, e1, hf1⟩ := bnd_some hf
  obtain ⟨o1, rs2, e2, hf2⟩ := bnd_some hf1
  obtain ⟨e3, q3⟩ := ret_some hf2
  subst e3 q3
  refine hi its lk rs1 _ e1 fun J F1 H1 s1 ⟨G, Y, P, wk, pn, hG, hY⟩ => ?_
  obtain ⟨L2, E2, pd⟩ := pinned r s1 pn
  have fs1 := FStep.ofStep r s1
  -- the ends
  have fin : ∀ ρ2 σ2 F2 H2, o1 = .nx ρ2 → FStep R E2 F1 F2 → Rel K R L2 E2 F2 ρ2 σ2 rs' H2 → D.nx σ2 H2 := fun ρ2 σ2 F2 H2 eo fs r2 => by
    subst eo
    exact k σ2 F2 H2 (fs1.trans (fs.less pd.less)) (pd.back F2 ρ2 σ2 _ H2 fs r2)
  have finR : ∀ x v F2 F3 H3, o1 = .rt x → FStep R E2 F1 F2 → Ret K R rs' E2 F2 F3 H3 v x → D.rt v H3 := fun x v F2 F3 H3 eo fs q => by
    subst eo
    refine k v F3 H3 ⟨fs1.trans ((fs.trans q.fs).less pd.less), fun a o e => q.ex a o (pd.sub a o e), q.fr, q.row, q.rF, ?_⟩
    have hv := q.val
    cases x with
    | d y => exact hv
    | n ds =>
      obtain ⟨a, vs, z1, z2, z3, z4⟩ := hv
      exact ⟨a, vs, z1, z2, pd.less a z3, z4⟩
    | gb _ => exact hv.elim
    | gn c =>
      obtain ⟨a, vs, z1, z2, z3, z4⟩ := hv
      exact ⟨a, vs, z1, z2, pd.less a z3, z4⟩
    | b ds => exact hv.elim
    | row => exact hv.elim
  refine for_it wk (fun i σ' H' => ∃ F2 ρ2 rs3, FStep R E2 F1 F2 ∧ Rel K R L2 E2 F2 ρ2 σ' rs3 H' ∧ loopF hg gb (its.drop i) ρ2 rs3 = some (o1, rs')) ⟨F1, _, rs1, FStep.refl, pd.rel, e2⟩
    (fun i σ' H' hi ⟨F2, ρ2, rs3, fs, r2, _⟩ => hG H' (fun a o q => r2.ex a o (pd.pin a o q)) fun a o q => r2.fr a o (fs.sub a o q)) ?_ ?_
  · rintro i v σ' H2 H3 hi' ⟨F2, ρ2, rs3, fs, r2, el⟩ hy
    obtain ⟨x, F3, ex, s3, hd⟩ := hY.step hi' fs.sub r2.refl hy
    have er : its.drop i = x :: its.drop (i + 1) := by
      have hx : its[i] = x := by
        rw [List.getElem?_eq_getElem hi'] at ex
        exact Option.some.inj ex
      rw [← hx]
      exact List.drop_eq_getElem_cons hi'
    rw [er] at el
    obtain ⟨ρ3, rs4, e4, el1⟩ := bnd_some el
    obtain ⟨e5, q5⟩ := lft_some e4
    subst q5
    obtain ⟨o2, rs5, e6, el2⟩ := bnd_some el1
    have r3 := r2.step s3
    have fs3 := fs.trans (FStep.ofStep r2 s3)
    refine hgs L2 E2 F3 ρ2 σ' _ H3 v x ρ3 _ r3 hd e5 fun σ4 r4 _ => ?_
    refine hb L2 E2 F3 ρ3 σ4 _ H3 o2 rs5 _ r4 e6 ?_
    cases o2 with
    | nx ρ5 => exact fun σ5 F5 H5 f5 r5 => ⟨F5, ρ5, rs5, fs3.trans f5, r5, el2⟩
    | ct ρ5 => exact fun σ5 F5 H5 f5 r5 => ⟨F5, ρ5, rs5, fs3.trans f5, r5, el2⟩
    | bk ρ5 =>
      obtain ⟨e7, q7⟩ := ret_some el2
      subst q7
      exact fun σ5 F5 H5 f5 r5 => fin ρ5 σ5 F5 H5 e7.symm (fs3.trans f5) r5
    | rt x =>
      obtain ⟨e7, q7⟩ := ret_some el2
      subst q7
      exact fun v5 F5 H5 q => finR x v5 F3 F5 H5 e7.symm fs3 q
  · rintro σ' H' ⟨F2, ρ2, rs3, fs, r2, el⟩
    rw [List.drop_length] at el
    obtain ⟨e7, q7⟩ := ret_some el
    subst q7
    exact fin ρ2 σ' F2 H' e7.symm fs r2
theorem ssem_for {fi : Env → M (List D × Option Nat)} {gb : Env → M Out} (hi : ISem K R wi fi) (hgs : GSem K R S g hg) (hb : SSem K R tb gb) : SSem K R (tFor wi g tb) (sFor fi hg gb) := fun L E F ρ σ rs H o rs' D r hf k =>
  ssem_for_at r (fun its lk rs1 Rq e1 kk => hi L E ρ σ F H rs its lk rs1 Rq r e1 kk) hgs hb hf k
theorem ds_for {fi : Env → M (List D × Option Nat)} {gb : Env → M Out} (hp : PassesOwn (model X.prog X.w) X.A X.env X.xe) (hc : X.calm = true) (hi : DI X R tg it wi fi) (hg' : DG X R S tg g hg) (hb : DSs X R body tb gb)
    (hs : ∀ x, foldedSetIterable it X.env x = pure x := by intro _; rfl) : DS X R (.For tg it body [] pos) (tFor wi g tb) (sFor fi hg gb) := ⟨ps_for hp hc hi.pi hg'.pg hb.ps hs, ssem_for hi.sem hg'.sem hb.sem⟩

def wloopF (x : Env → M Bool) (body : Env → M Out) : Nat → Env → M Out
  | 0, _ => fail
  | n + 1, ρ => bnd (x ρ) fun b => if b = true then bnd (body ρ) fun o => match o with
    | .nx ρ2 => wloopF x body n ρ2
    | .ct ρ2 => wloopF x body n ρ2
    | .bk ρ2 => ret (.nx ρ2)
    | .rt r => ret (.rt r)
    else ret (.nx ρ)
theorem ssem_while (n : Nat) {x : Env → M Bool} {gb : Env → M Out} (hx : TSem K R tt x) (hb : SSem K R tb gb) : SSem K R (tWhile tt tb) (wloopF x gb n) := fun L E F ρ σ rs H o rs' D r hf k => by
  refine ⟨fun m σ H => ∃ F2 ρ2 rs3, FStep R E F F2 ∧ Rel K R L E F2 ρ2 σ rs3 H ∧ wloopF x gb m ρ2 rs3 = some (o, rs'), ⟨n, F, ρ, rs, FStep.refl, r, hf⟩, ?_⟩
  rintro m σ1 H1 ⟨F1, ρ1, rs1, fs, r1, el⟩
  cases m with
  | zero => cases el
  | succ m =>
    obtain ⟨b, rs2, e2, el1⟩ := bnd_some el
    refine hx L E ρ1 σ1 F1 H1 rs1 b rs2 _ r1 e2 fun F2 H2 s2 => ?_
    have r2 := r1.step s2
    have fs2 := fs.trans (FStep.ofStep r1 s2)
    cases b with
    | true =>
      rw [if_pos rfl] at el1 ⊢
      obtain ⟨o2, rs5, e6, el2⟩ := bnd_some el1
      refine ⟨fun σ' H' => ∃ F5 ρ5, FStep R E F F5 ∧ Rel K R L E F5 ρ5 σ' rs5 H' ∧ wloopF x gb m ρ5 rs5 = some (o, rs'), fun σ' H' ⟨F5, ρ5, a, b, c⟩ => ⟨m, Nat.lt_succ_self m, F5, ρ5, rs5, a, b, c⟩, ?_⟩
      refine hb L E F2 ρ1 σ1 rs2 H2 o2 rs5 _ r2 e6 ?_
      cases o2 with
      | nx ρ5 => exact fun σ5 F5 H5 f5 r5 => ⟨F5, ρ5, fs2.trans f5, r5, el2⟩
      | ct ρ5 => exact fun σ5 F5 H5 f5 r5 => ⟨F5, ρ5, fs2.trans f5, r5, el2⟩
      | bk ρ5 =>
        obtain ⟨e7, q7⟩ := ret_some el2
        subst e7 q7
        exact fun σ5 F5 H5 f5 r5 => k σ5 F5 H5 (fs2.trans f5) r5
      | rt y =>
        obtain ⟨e7, q7⟩ := ret_some el2
        subst e7 q7
        exact fun v F5 H5 q => k v F5 H5 ⟨fs2.trans q.fs, q.ex, q.fr, q.row, q.rF, q.val⟩
    | false =>
      rw [if_neg Bool.false_ne_true] at el1 ⊢
      obtain ⟨e7, q7⟩ := ret_some el1
      subst e7 q7
      exact k σ1 F2 H2 fs2 r2
theorem ds_while (n : Nat) {x : Env → M Bool} {gb : Env → M Out} (hp : PassesOwn (model X.prog X.w) X.A X.env X.xe) (hc : DT X R c tt x) (hb : DSs X R body tb gb) : DS X R (.While c body [] pos) (tWhile tt tb) (wloopF x gb n) := ⟨ps_while hp hc.pt hb.ps, ssem_while n hc.sem hb.sem⟩

structure DTs (X : Cx) (R : RA) (ifs : List Expr) (t : TT) (f : Env → M Bool) : Prop where
  pt : PTs X ifs t
  sem : TSem X.K R t f
def tTrue : Env → M Bool := fun _ => ret true
theorem dts_nil : DTs X R [] tYes tTrue := ⟨pts_nil, fun L E ρ σ F H rs x rs' Q r hf k => by
  obtain ⟨e1, q1⟩ := ret_some hf
  subst e1 q1
  exact k F H r.refl⟩
theorem dts_one {x : Env → M Bool} (h : DT X R c tt x) : DTs X R [c] tt x := ⟨pts_one h.pt, h.sem⟩
def lcF (tg : D → Env → Option Env) (tst : Env → M Bool) (el : Env → M RV) (ρ : Env) : List D → M (List D)
  | [] => ret []
  | x :: xs => bnd (lft (tg x ρ)) fun ρ1 => bnd (tst ρ1) fun b => if b = true then bnd (el ρ1) fun y => bnd (lft (toD y)) fun d => bnd (lcF tg tst el ρ xs) fun ds => ret (d :: ds) else lcF tg tst el ρ xs
def eLc (fi : Env → M (List D × Option Nat)) (vs : List Nat) (tg : D → Env → Option Env) (tst : Env → M Bool) (el : Env → M RV) : Env → M RV := fun ρ =>
  bnd (fi ρ) fun p => bnd (lcF tg tst el (wipeE ρ vs) p.1) fun ds => if p.1.length ≤ 100000 then ret (.n ds) else fail
theorem freeze1 {F0 H0 F1 H1 : Hp} {rs0 rs1 : RS} (s : Step K R rs1 F0 H0 F1 H1) (r0 : RowOk K R rs0 F0 H0) {v : V} {x : RV} {d : D} {Hb : Hp} (hb : ∀ a, Hb a = none → H0 a = none) (h : VR K R F1 Hb H1 v x) (e : toD x = some d) :
    ∃ F2, Step K R rs1 F0 H0 F2 H1 ∧ Dp K F2 v d ∧ (∀ a o, F1 a = some o → F2 a = some o) ∧ ∀ a, Hb a ≠ none → F1 a = none → F2 a = none := by
  cases x with
  | d y => cases e; exact ⟨F1, s, h, fun _ _ q => q, fun _ _ q => q⟩
  | n ds =>
    cases e
    obtain ⟨a, vs, rfl, h1, h0, h2, h3, h4⟩ := h
    have ku : ∀ b o, F1 b = some o → upd F1 a (.lst vs) b = some o := fun b o q => by
      rw [upd_ne (fun z => by rw [z, h2] at q; cases q)]; exact q
    refine ⟨upd F1 a (.lst vs), ⟨fun b o h q n => s.keep b o h q n, fun b o q => ku b o (s.sub b o q), fun b o q => ?_, fun b o q => ?_, s.row.mono ku fun b o q => ?_, fun r er => ?_⟩, .lst (.inl (.inl upd_same)) (Dp.monoA ku _ _ h4), ku, fun b hb1 hb2 => ?_⟩
    · by_cases eb : b = a
      · subst eb; exact .inr (hb b h0)
      · rw [upd_ne eb] at q; exact s.new b o q
    · by_cases eb : b = a
      · subst eb; rw [upd_same] at q; rw [h1]; exact q
      · rw [upd_ne eb] at q; exact s.fin b o q
    · by_cases eb : b = a
      · subst eb; rw [upd_same] at q; cases q; exact .lst
      · rw [upd_ne eb] at q; exact s.row.fnt b o q
    · rw [upd_ne (fun z => h3 (by rw [er, z]))]; exact s.rF r er
    · rw [upd_ne (fun z => hb1 (by rw [z]; exact h0))]; exact hb2
  | b y => cases e
  | gb _ => cases e
  | gn y => cases e
  | row => cases e
theorem esem_lc_at {fi : Env → M (List D × Option Nat)} {vs : List Nat} {tst : Env → M Bool} {el : Env → M RV} (r : Rel K R L E F ρ σ rs H) (hi : ∀ (its : List D) (lk : Option Nat) (rs1 : RS) (Rq : It → Hp → Prop), fi ρ rs = some ((its, lk), rs1) → (∀ J F' H', Step K R rs1 F H F' H' → IterOk K R E ρ σ H F' H' J its lk → Rq J H') → wi σ H Rq)
    (hgs : GSem K R S g hg) (hS : ∀ i ∈ S, i ∈ vs) (ht : TSem K R tt tst) (he : ESem K R te el) {x : RV} {rs' : RS} {Q : VK} (hf : eLc fi vs hg tst el ρ rs = some (x, rs')) (kk : ∀ v F' H', Step K R rs' F H F' H' → VR K R F' H H' v x → Q v H') : tLc wi g tt te vs σ H Q := by
  obtain ⟨⟨its, lk⟩, rs1, e1, hf1⟩ := bnd_some hf
  obtain ⟨ds, rs2, e2, hf2⟩ := bnd_some hf1
  by_cases hlen : its.length ≤ 100000
  · have hf2' : (if its.length ≤ 100000 then ret (RV.n ds) else fail) rs2 = some (x, rs') := hf2
    rw [if_pos hlen] at hf2'
    obtain ⟨e3, q3⟩ := ret_some hf2'
    subst e3 q3
    have e2 : lcF hg tst el (wipeE ρ vs) its rs1 = some (ds, rs') := e2
    refine hi its lk rs1 _ e1 fun J F1 H1 s1 ⟨G, Y, P, wk, pn, hG, hY⟩ => ?_
    intro Da hD
    have r1 := r.step s1
    have hDr : some Da ≠ R.row := fun q => by
      obtain ⟨a, e, _⟩ := r1.row.at_ Da q.symm
      rw [hD] at e; cases e
    have hDF1 : F1 Da = none := by
      cases q : F1 Da with
      | none => rfl
      | some o =>
        have := s1.fin Da o q
        rw [hD] at this; cases this
    refine lc_it wk (fun i H2 => ∃ F2 rs3 av ad rest, Step K R rs3 F1 H1 F2 H2 ∧ H2 Da = some (.lst av) ∧ F2 Da = none ∧ DpAll K F2 av ad ∧ ad.length ≤ i ∧ ad ++ rest = ds ∧ lcF hg tst el (wipeE ρ vs) (its.drop i) rs3 = some (rest, rs')) ?_ ?_ ?_ ?_
    · refine ⟨F1, rs1, [], [], ds, (Step.new_lst (vs := []) r1.refl hD).1, upd_same, hDF1, .nil, Nat.le_refl _, rfl, e2⟩
    · rintro i H2 hi' ⟨F2, rs3, av, ad, rest, s2, _⟩
      exact hG H2 (fun a o q => s2.keep a o (pn a o q).1 (pn a o q).2.1 (pn a o q).2.2.1) fun a o q => s2.fin a o (s2.sub a o q)
    · rintro i v H2 H3 hi' ⟨F2, rs3, av, ad, rest, s2, hDl, hDF, hA, hlA, hsum, el1⟩ hy
      have s02 := s1.trans r.row s2
      have r2 := r.step s02
      obtain ⟨x, F3, ex, s3, hd⟩ := hY.step hi' s2.sub r2.refl hy
      have er : its.drop i = x :: its.drop (i + 1) := by
        have hx : its[i] = x := by
          rw [List.getElem?_eq_getElem hi'] at ex
          exact Option.some.inj ex
        rw [← hx]
        exact List.drop_eq_getElem_cons hi'
      rw [er] at el1
      obtain ⟨ρ3, rs4, e4, el2⟩ := bnd_some el1
      obtain ⟨e5, q5⟩ := lft_some e4
      subst q5
      obtain ⟨b, rs5, e6, el3⟩ := bnd_some el2
      have s13 := s2.trans r1.row s3
      have r3 := r2.step s3
      have hD3 : H3 Da = some (.lst av) := s3.keep Da _ hDl hDr
      have hDF3 : F3 Da = none := by
        cases q : F3 Da with
        | none => rfl
        | some o =>
          rcases s3.new Da o q with z | z
          · rw [hDF] at z; cases z
          · rw [hDl] at z; cases z
      refine hgs L E F3 (wipeE ρ vs) (L2.wipe σ vs) _ H3 v x ρ3 _ (r3.wipe vs) hd e5 fun σ4 r4 o4 => ⟨?_, ?_⟩
      · rw [wipe_off o4 hS]
        apply List.ext_getElem?
        intro j
        rw [wipe_at, wipe_at]
        by_cases hj : j ∈ vs
        · rw [if_pos hj, if_pos hj, wipe_length]
        · rw [if_neg hj, if_neg hj]
      · refine ht L E ρ3 σ4 F3 H3 _ b rs5 _ r4 e6 fun F5 H5 s5 => ?_
        have s15 := s13.trans r1.row s5
        have hD5 : H5 Da = some (.lst av) := s5.keep Da _ hD3 hDr
        have hDF5 : F5 Da = none := by
          cases q : F5 Da with
          | none => rfl
          | some o =>
            rcases s5.new Da o q with z | z
            · rw [hDF3] at z; cases z
            · rw [hD3] at z; cases z
        cases b with
        | true =>
          rw [if_pos rfl] at el3 ⊢
          obtain ⟨y, rs6, e7, el4⟩ := bnd_some el3
          obtain ⟨d, rs7, e8, el5⟩ := bnd_some el4
          obtain ⟨e9, q9⟩ := lft_some e8
          subst q9
          obtain ⟨ds2, rs8, e10, el6⟩ := bnd_some el5
          obtain ⟨e11, q11⟩ := ret_some el6
          subst e11 q11
          refine he L E ρ3 σ4 F5 H5 rs5 y _ _ (r4.step s5) e7 fun w F6 H6 s6 h6 => ?_
          have s16 := s15.trans r1.row s6
          have hD6 : H6 Da = some (.lst av) := s6.keep Da _ hD5 hDr
          have hDF6 : F6 Da = none := by
            cases q : F6 Da with
            | none => rfl
            | some o =>
              rcases s6.new Da o q with z | z
              · rw [hDF5] at z; cases z
              · rw [hD5] at z; cases z
          obtain ⟨F7, s17, hd7, k7, n7⟩ := freeze1 (Hb := H5) s16 r1.row (fun a q => s15.back r1.row q) h6 e9
          have hDF7 : F7 Da = none := n7 Da (by rw [hD5]; exact fun z => nomatch z) hDF6
          have hk : ∀ a o, F2 a = some o → F7 a = some o := fun a o q => k7 a o (s6.sub a o (s5.sub a o (s3.sub a o q)))
          refine ⟨av, hD6, ?_, F7, _, av ++ [w], ad ++ [d], ds2, ?_, upd_same, hDF7, (Dp.monoA hk _ _ hA).append (.cons hd7 .nil), ?_, ?_, e10⟩
          · rw [hA.len]
            exact sz_lt (by omega)
          · refine ⟨fun a o q z n => ?_, s17.sub, s17.new, fun a o q => ?_, ⟨fun q e => ?_, tabs_upd s17.row.tab (.inr ⟨_, hD6⟩), s17.row.fnt⟩, s17.rF⟩
            · rw [upd_ne (fun zz => by rw [zz, hD] at q; cases q)]
              exact s17.keep a o q z n
            · rw [upd_ne (fun zz => by rw [zz, hDF7] at q; cases q)]
              exact s17.fin a o q
            · obtain ⟨a, z1, z2⟩ := s17.row.at_ q e
              exact ⟨a, by rw [upd_ne (fun zz => hDr (by rw [← zz, e]))]; exact z1, z2⟩
          · rw [List.length_append, List.length_singleton]
            omega
          · rw [List.append_assoc]
            exact hsum
        | false =>
          rw [if_neg Bool.false_ne_true] at el3 ⊢
          have hk : ∀ a o, F2 a = some o → F5 a = some o := fun a o q => s5.sub a o (s3.sub a o q)
          exact ⟨F5, rs5, av, ad, rest, s15, hD5, hDF5, Dp.monoA hk _ _ hA, by omega, hsum, el3⟩
    · rintro H2 ⟨F2, rs3, av, ad, rest, s2, hDl, hDF, hA, _, hsum, el1⟩
      rw [List.drop_length] at el1
      obtain ⟨e7, q7⟩ := ret_some el1
      subst e7 q7
      rw [List.append_nil] at hsum
      subst hsum
      have s02 := s1.trans r.row s2
      exact kk _ F2 H2 s02 ⟨Da, av, rfl, hDl, s1.back r.row hD, hDF, hDr, hA⟩
  · have hf2' : (if its.length ≤ 100000 then ret (RV.n ds) else fail) rs2 = some (x, rs') := hf2
    rw [if_neg hlen] at hf2'
    cases hf2'
theorem esem_lc {fi : Env → M (List D × Option Nat)} {vs : List Nat} {tst : Env → M Bool} {el : Env → M RV} (hi : ISem K R wi fi) (hgs : GSem K R S g hg) (hS : ∀ i ∈ S, i ∈ vs) (ht : TSem K R tt tst) (he : ESem K R te el) :
    ESem K R (tLc wi g tt te vs) (eLc fi vs hg tst el) := fun L E ρ σ F H rs x rs' Q r hf kk =>
  esem_lc_at r (fun its lk rs1 Rq e1 k => hi L E ρ σ F H rs its lk rs1 Rq r e1 k) hgs hS ht he hf kk
theorem de_lc {scope : Scope} {own : List (Str × Nat)} {fi : Env → M (List D × Option Nat)} {tst : Env → M Bool} {el : Env → M RV} (hc : X.calm = true) (hN : X.N.Nodup) (hi : DI X R tg it wi fi) (ok : BlkOk X.N X.env.scope scope own) (hS : ∀ i ∈ S, i ∈ own.map (·.2))
    (hg' : ∀ (s : Shared) (H : Hp) (C : Addr) (cl : List (Str × Addr)) (fp : List Addr), DG (X.blk s H scope (compEnvC scope cl C X.env) fp) R S tg g hg) (ht : ∀ (s : Shared) (H : Hp) (C : Addr) (cl : List (Str × Addr)) (fp : List Addr), DTs (X.blk s H scope (compEnvC scope cl C X.env) fp) R ifs tt tst)
    (he : ∀ (s : Shared) (H : Hp) (C : Addr) (cl : List (Str × Addr)) (fp : List Addr), DE (X.blk s H scope (compEnvC scope cl C X.env) fp) R elt te el) (hs : ∀ x, foldedSetIterable it X.env x = pure x := by intro _; rfl) :
    DE X R (.ListComp elt [⟨tg, it, ifs, 0⟩] scope pos) (tLc wi g tt te (own.map (·.2))) (eLc fi (own.map (·.2)) hg tst el) :=
  ⟨pe_lc hc hN hi.pi ok (fun s H C cl fp => (hg' s H C cl fp).pg) (fun s H C cl fp => (ht s H C cl fp).pt) (fun s H C cl fp => (he s H C cl fp).pe) hs,
    esem_lc hi.sem (hg' {} (fun _ => none) 0 [] []).sem hS (ht {} (fun _ => none) 0 [] []).sem (he {} (fun _ => none) 0 [] []).sem⟩
end
end DV

namespace DV
open PySem L2 PyProof.Rows
/-- a list or a tuple -/
inductive SK where | l | t
def SqK (k : SK) (K : PySem.W.Frag) (H : Hp) (a : Addr) (xs : List V) : Prop := match k with
  | .l => SqL K H a xs
  | .t => SqT K H a xs
def isItK (k : SK) (h : Heap) (it a : Addr) (i : Nat) : Prop := match k with
  | .l => h.IsListIter it a i
  | .t => h.IsTupleIter it a i
def isSqK (k : SK) (h : Heap) (a : Addr) (its : Array Value) : Prop := match k with
  | .l => h.IsList a its
  | .t => h.IsTuple a its
def itObj (k : SK) (a : Addr) : Obj := match k with
  | .l => { cls := .type "list_iterator", data := .fields #[.ref a, .int 0 0] }
  | .t => { cls := .type "tuple_iterator", data := .fields #[.ref a, .int 0 0] }
theorem drawK (k : SK) {prog : Program} {w : World} {A : Around} (hh : A.handled = none) (it a : Addr) (hne : a ≠ it) (items : Array Value) :
    Draws prog w A it [it, a] items.size (fun i v => items[i]? = some v) (fun i h => isItK k h it a i ∧ isSqK k h a items) := by
  cases k
  · exact Draws.list hh it a hne items
  · exact Draws.tuple hh it a hne items
theorem beginK (k : SK) (a : Addr) (items : Array Value) : Begins (.ref a) (itObj k a) fun h => isSqK k h a items := by
  cases k
  · exact begins_list a items
  · exact begins_tuple a items
theorem isItK.at' {k : SK} {h h' : Heap} {it a : Addr} {i : Nat} (x : isItK k h it a i) (e : ∀ o, h.get? it = some o → h'.get? it = some o) : isItK k h' it a i := by
  cases k
  · exact Heap.IsListIter.at x e
  · exact Heap.IsTupleIter.at x e
theorem isItK.obj {k : SK} {h : Heap} {it a : Addr} {i : Nat} (x : isItK k h it a i) : ∃ o, h.get? it = some o ∧ ∀ v, o.data ≠ .cell v := by
  cases k
  · obtain ⟨o, e, _, d⟩ := (show h.IsListIter it a i from x)
    exact ⟨o, e, fun v z => by rw [d] at z; cases z⟩
  · obtain ⟨o, e, _, d⟩ := (show h.IsTupleIter it a i from x)
    exact ⟨o, e, fun v z => by rw [d] at z; cases z⟩
theorem isItK.new (k : SK) {h : Heap} {it a : Addr} (e : h.get? it = some (itObj k a)) : isItK k h it a 0 := by
  cases k
  · exact ⟨_, e, rfl, rfl⟩
  · exact ⟨_, e, rfl, rfl⟩
section
variable {X : Cx} {pins : List (Addr × Obj)} {σ : L2.St} {H : Hp} {s : Shared}
theorem seqK (k : SK) {a : Addr} {xs : List V} (I : Inv X pins σ H s) (h : SqK k X.K H a xs) : ∃ its : List Value, Vals xs its ∧ isSqK k s.heap a its.toArray ∧ xs.length ≤ sizeLine ∧ a < s.heap.objs.size := by
  cases k
  · obtain ⟨its, rv, p, hz⟩ := I.list h
    exact ⟨its, rv, p.isList, hz, p.lt⟩
  · obtain ⟨its, rv, p, hz⟩ := I.tuple h
    exact ⟨its, rv, p, hz, p.lt⟩
theorem seqK_inj (k : SK) {a : Addr} {xs ys : List V} (I : Inv X pins σ H s) (h : SqK k X.K H a xs) (h' : SqK k X.K H a ys) : xs = ys := by
  cases k
  · exact I.list_inj h h'
  · exact I.tuple_inj h h'
end

set_option maxHeartbeats 1000000 in
theorem meets_enumerate_new1 {v : Value} {o : Obj} {H : Heap → Prop} (B : Begins v o H) :
    Meets (Builtin.«enumerate.__new__» ⟨[.type "enumerate", v], []⟩) (fun _ R s => H s.heap ∧
      R (.ok (.ret (.ref (s.heap.push o).objs.size))) { s with heap := (s.heap.push o).push { cls := .type "enumerate", data := .fields #[.none, .bool false, .ref s.heap.objs.size, rawInt 0, .none, .none] } }) :=
  .of_wp fun prog w A R s h => by
    obtain ⟨hp, g, d, tk, os⟩ := s; obtain ⟨h1, h⟩ := h
    have hsub := sub_enumerate
    have q1 : ∀ {A' : Around} {E : Value → Shared → Prop} {Q : Value → Shared → Prop}, Q (.ref hp.objs.size) ⟨hp.push o, g, d, tk, os⟩ → wpAny (model prog w) A' (pyIter v) Q E ⟨hp, g, d, tk, os⟩ :=
      fun q => B.iter prog w _ _ ⟨hp, g, d, tk, os⟩ _ h1 q
    wp_walk using q1
    refine wpAny_stack_any fun st => wpAny_pure ?_
    split
    · rename_i c _ _ _ _ _
      cases (c == Value.type "enumerate")
      · wp_walk using q1
        exact ⟨_, rfl, h⟩
      · wp_walk using q1
        exact ⟨_, rfl, h⟩
    · wp_walk using q1
      exact ⟨_, rfl, h⟩
theorem enum_begins1 {prog : Program} {w : World} {A : Around} {E : Value → Shared → Prop} {s : Shared} {v : Value} {o : Obj} {H : Heap → Prop} {Q : Value → Shared → Prop} (B : Begins v o H) (h1 : H s.heap)
    (h : ∀ h', IsEnum h' (s.heap.objs.size + 1) s.heap.objs.size 0 .none → h'.get? s.heap.objs.size = some o → h'.objs.size = s.heap.objs.size + 2 →
      (∀ b o, s.heap.get? b = some o → h'.get? b = some o) → Q (.ref (s.heap.objs.size + 1)) { s with heap := h' }) :
    wpAny (model prog w) A (call (.type "enumerate") [v]) Q E s := by
  refine callType_new F.called_enumerate (by decide) (F.typeCall_enumerate_1 _) (F.newCall_enumerate_1 _) (fun obj => F.args_object_init_2 obj _) F.entry_enumerate_new
    (meets_enumerate_new1 B) ⟨h1, ?_⟩
  have hz : (s.heap.push o).objs.size = s.heap.objs.size + 1 := Heap.size_push ..
  show _ ∧ _
  rw [hz]
  have he : IsEnum ((s.heap.push o).push { cls := .type "enumerate", data := .fields #[.none, .bool false, .ref s.heap.objs.size, rawInt 0, .none, .none] }) (s.heap.objs.size + 1) s.heap.objs.size 0 .none := by
    have := Heap.get?_push_size (s.heap.push o) (o := { cls := .type "enumerate", data := .fields #[.none, .bool false, .ref s.heap.objs.size, rawInt 0, .none, .none] }) rfl
    rw [hz] at this; exact this
  refine ⟨⟨_, he, rfl⟩, h _ he (Heap.get?_push_of_some _ (Heap.get?_push_size _ B.free)) (by rw [Heap.size_push, hz]) fun b o x => Heap.get?_push_of_some _ (Heap.get?_push_of_some _ x)⟩
def IteK (k : SK) (K : PySem.W.Frag) (a : Addr) : It :=
  ⟨fun i H => ∃ (xs : List V) (x : V), SqK k K H a xs ∧ xs[i]? = some x, fun i H v H' => ∃ T x, v = .ref T ∧ H T = none ∧ H' = upd H T (.tup [.int (i : Nat), x]) ∧ ∀ xs, SqK k K H a xs → xs[i]? = some x, fun i H => ∃ xs : List V, SqK k K H a xs ∧ xs.length ≤ i⟩
theorem turn_enumK (k : SK) {P : Program} {w : World} {K : PySem.W.Frag} {elts : List Expr} {kk : Nat} {tpos : Pos} (a e it : Addr) (hai : a ≠ it) (hae : a ≠ e) :
    Turn P w K (.Tuple elts kk tpos) (IteK k K a) [e, it] e (fun i h => (∃ old, IsEnum h e it ((i : Nat) : Int) old) ∧ isItK k h it a i ∧ e ≠ it) where
  mem := by simp
  obj := fun i h st b hb => by
    obtain ⟨⟨old, he⟩, hit, _⟩ := st
    have e' : b = e ∨ b = it := by simpa using hb
    rcases e' with z | z
    · rw [z]; exact ⟨_, he, fun v q => nomatch q⟩
    · rw [z]; exact hit.obj
  keep := fun i h h' st q => let ⟨⟨old, he⟩, hi, hne⟩ := st; ⟨⟨old, q e (by simp) _ he⟩, hi.at' fun o z => q it (by simp) o z, hne⟩
  item := by
    intro X hP hw hK hc i pins s σ H E I hf st hg
    subst hP hw hK
    obtain ⟨⟨old, he⟩, hit, hne⟩ := st
    obtain ⟨xs, x, hq, hx⟩ := hg
    obtain ⟨its, rv, p, hz, hal⟩ := seqK k I hq
    obtain ⟨u, hu, ru⟩ := rv.get hx
    have hel : e < s.heap.objs.size := Heap.lt_size he
    have hil : it < s.heap.objs.size := by obtain ⟨_, q, _⟩ := hit.obj; exact Heap.lt_size q
    have hlen : i < its.toArray.size := by
      have q1 := (List.getElem?_eq_some_iff.mp hu).1
      simpa using q1
    refine wpAny_pyNext_enum_itemD (drawK k (A := X.A.in1) (I.ok.hd hc) it a hai its.toArray) he ⟨hit, p⟩ hlen hne (by simp [hne, Ne.symm hae]) fun y h' tk hy ho hst hT hsz hk => ?_
    have hyu : y = u := by
      have q1 : its[i]? = some y := by simpa using hy
      rw [hu] at q1
      exact (Option.some.inj q1).symm
    subst hyu
    refine ⟨_, rfl, wpAny_letOwnedTupleGo_enum (s := { s with heap := h', toks := tk + 1 }) ho fun h'' he' sb => ?_⟩
    have hT2 : h''.get? s.heap.objs.size = some { cls := .type "tuple", data := .seq #[.int i tk, y] } := (sb.2 _ (Nat.ne_of_gt hel)).trans hT
    have new : ObjOk X.prog X.w (upd H s.heap.objs.size (.tup [.int (i : Nat), x])) h'' s.heap.objs.size (.tup [.int (i : Nat), x]) :=
      ⟨by show 2 ≤ sizeLine; decide, [.int i tk, y], .cons ⟨_, rfl⟩ (.cons ru .nil), ⟨_, hT2, rfl, _, rfl⟩⟩
    have I1 : Inv X pins σ (upd H s.heap.objs.size (.tup [.int (i : Nat), x])) { s with heap := h'', toks := tk + 1 } :=
      I.turnedNew (ch := [e, it]) (fun b ob hb q => (sb.2 b (fun z => hb (by simp [z]))).trans (hk b ob (fun z => hb (by simp [z])) (fun z => hb (by simp [z])) q)) hf (Nat.le_refl _) new
    refine ⟨.ref s.heap.objs.size, _, I1, rfl, ⟨_, x, rfl, I.hok.fresh (Nat.le_refl _), rfl, fun ys hy => by rw [seqK_inj k I hy hq]; exact hx⟩, ⟨⟨y, ?_⟩, hst.1.at' fun o q => (sb.2 it (Ne.symm hne)).trans q, hne⟩, fun b hb => ?_⟩
    · have e1 : ((i + 1 : Nat) : Int) = (i : Int) + 1 := by omega
      rw [e1]; exact he'
    · have hb' : b < s.heap.objs.size := by
        have e' : b = e ∨ b = it := by simpa using hb
        rcases e' with z | z
        · rw [z]; exact hel
        · rw [z]; exact hil
      rw [upd_ne (Nat.ne_of_lt hb')]
      exact (hf b hb).1
  done := by
    intro X hP hw hK hc i pins s σ H E I hf st hg
    subst hP hw hK
    obtain ⟨⟨old, he⟩, hit, hne⟩ := st
    obtain ⟨xs, hq, hx⟩ := hg
    obtain ⟨its, rv, p, hz, hal⟩ := seqK k I hq
    obtain ⟨f0, f1, f2, f3, f4, f5⟩ := hf it (by simp)
    have hl := rv.length
    have hend : ∀ (Q : Option Value → Shared → Prop), (∀ h', Heap.ExtBut it s.heap h' → Q none { s with heap := h' }) → wpAny (model X.prog X.w) X.A (pyNext (.ref e)) Q E s := fun Q hQ => by
      cases k
      · exact wpAny_pyNext_enum_end (I.ok.hd hc) he hit p (by simp; omega) hQ
      · have hT : s.TypeIs (.ref e) "enumerate" := ⟨_, he, rfl⟩
        unfold pyNext
        refine wpAny_bind (wpAny_attempt (wpAny_callSpecial?_slot (name := Str.ofString "__next__") hT F.slot_enumerate_next
          (wpAny_call_entry F.slot_enumerate_next hT F.entry_enumerate_next ?_ (F.args_enumerate_next_1 _))))
        show wpAny _ _ (field (.ref e) 2 >>= _) _ _ _
        refine wpAny_bind (wpAny_field he rfl (x := .ref it) rfl ?_)
        refine wpAny_bind (wpAny_nextOf_tuple_end (I.ok.hd hc) hit p (by simp; omega) fun h' x he' hx' => ?_)
        obtain ⟨o, ho, hc⟩ := hx'
        refine wpAny_bind (wpAny_isInstance (T := "StopIteration") (b := true) ⟨o, ho, hc⟩ isSubtype_stop ?_)
        exact wpAny_pure (hQ _ he')
    exact hend _ fun h' eb => ⟨rfl, I.turned (t' := s.toks) (fun b o hb q => eb b o hb q) f0 f1 f3 f4 f5⟩
  self := fun A i s Q E st h => let ⟨⟨_, he⟩, _⟩ := st; wpAny_pyIter_enum he h
def iEnumK (K : PySem.W.Frag) (ta : TE) : TI := fun σ H R => ta σ H fun v H1 => ∃ k a xs, v = .ref a ∧ SqK k K H1 a xs ∧ R (IteK k K a) H1
theorem pi_enumK {X : Cx} {e : Expr} {te : TE} {p pos tpos : Pos} {elts : List Expr} {kk : Nat} (hg : Gl X "enumerate") (hm : X.mg "enumerate" = none) (he : PE X e te) (hs : starEach [e] X.env = (false, eval e X.env) :: starEach [] X.env := by rfl) :
    PI X (.Tuple elts kk tpos) (.Call (.Name "enumerate" p) [e] [] pos) (iEnumK X.K te) := by
  refine ⟨fun pins s σ H R I h => ?_⟩
  refine Call_ (ld_blt I hg hm boot_enumerate (PyProof.Rows.callWith_type1 (args_cons (thn (he.run pins s σ H _ I h) fun u s1 ⟨v, H1, I1, r1, q1⟩ => args_nil ?_) hs) hs rfl))
  obtain ⟨k, a, xs, ex, hq, q⟩ := q1
  subst ex
  cases r1
  obtain ⟨its, rv, p', hz, hal⟩ := seqK k I1 hq
  refine enum_begins1 (beginK k a its.toArray) p' fun h' he' hit hsz hk => wpAny_pyIter_enum he' ?_
  have I2 : Inv X pins σ H1 { s1 with heap := h' } := I1.kept (t' := s1.toks) hk
  refine ⟨s1.heap.objs.size + 1, [s1.heap.objs.size + 1, s1.heap.objs.size], _, _, H1, rfl, I2, turn_enumK k a (s1.heap.objs.size + 1) s1.heap.objs.size (Nat.ne_of_lt hal) (Nat.ne_of_lt (Nat.lt_succ_of_lt hal)), ⟨⟨.none, he'⟩, .new k hit, Nat.succ_ne_self _⟩, fun b hb => ?_, q⟩
  have e' : b = s1.heap.objs.size + 1 ∨ b = s1.heap.objs.size := by simpa using hb
  have hle : s1.heap.objs.size ≤ b := by
    rcases e' with z | z
    · rw [z]; exact Nat.le_add_right _ _
    · rw [z]; exact Nat.le_refl _
  exact I1.fpOk hle (I1.hok.fresh hle)
theorem walk_enumK (k : SK) {K : PySem.W.Frag} {a : Addr} {xs : List V} : Walk (IteK k K a) xs.length (fun H => SqK k K H a xs) (YPair (fun i => some (.int (i : Nat))) (fun i => xs[i]?)) := by
  refine ⟨fun i _ hi q => ⟨xs, xs[i], q, by simp [hi]⟩, fun _ q => ⟨xs, q, Nat.le_refl _⟩, fun i H v H' _ q y => ?_⟩
  obtain ⟨T, x, h1, h2, h3, h4⟩ := y
  exact ⟨T, .int (i : Nat), x, h1, h2, h3, rfl, h4 xs q⟩

def ItK (k : SK) (K : PySem.W.Frag) (a : Addr) : It := match k with
  | .l => Itl K a
  | .t => Itt K a
def iSeqK (K : PySem.W.Frag) (tl : TE) : TI := fun σ H R => tl σ H fun x H1 => ∃ k a xs, x = .ref a ∧ SqK k K H1 a xs ∧ R (ItK k K a) H1
theorem pi_seqK {X : Cx} {tg l : Expr} {tl : TE} (hl : PE X l tl) : PI X tg l (iSeqK X.K tl) := by
  refine ⟨fun pins s σ H R I h => ?_⟩
  refine thn (hl.run pins s σ H _ I h) fun v s1 ⟨x, H1, I1, r1, q1⟩ => ?_
  obtain ⟨k, a, xs, e, hq, q⟩ := q1
  subst e
  cases r1
  cases k
  · obtain ⟨its, rv, p, hz⟩ := I1.list hq
    refine wpAny_pyIter_list p.isList ?_
    refine ⟨s1.heap.objs.size, [s1.heap.objs.size], _, _, H1, rfl, I1.kept (t' := s1.toks) fun b o e => Heap.get?_push_of_some _ e, turn_list a _, ⟨_, Heap.get?_push_size _ rfl, rfl, rfl⟩, fun b hb => ?_, q⟩
    have e : b = s1.heap.objs.size := by simpa using hb
    subst e
    exact I1.fpOk (Nat.le_refl _) (I1.hok.fresh (Nat.le_refl _))
  · obtain ⟨its, rv, p, hz⟩ := I1.tuple hq
    refine wpAny_pyIter_tuple (show s1.heap.IsTuple a its.toArray from p) ?_
    refine ⟨s1.heap.objs.size, [s1.heap.objs.size], _, _, H1, rfl, I1.kept (t' := s1.toks) fun b o e => Heap.get?_push_of_some _ e, turn_tuple a _, ⟨_, Heap.get?_push_size _ rfl, rfl, rfl⟩, fun b hb => ?_, q⟩
    have e : b = s1.heap.objs.size := by simpa using hb
    subst e
    exact I1.fpOk (Nat.le_refl _) (I1.hok.fresh (Nat.le_refl _))
theorem walk_seqK (k : SK) {K : PySem.W.Frag} {a : Addr} {xs : List V} : Walk (ItK k K a) xs.length (fun H => SqK k K H a xs) (YAt xs) := by
  cases k
  · exact walk_list
  · exact walk_tup

end DV

namespace DV
open PySem L2 PyProof.Rows
section
variable {X : Cx} {K : PySem.W.Frag} {R : RA} {L : Nat → Option (Addr × List V)} {E F F' H H' : Hp} {ρ ρ' : Env} {σ σ' : L2.St} {rs rs' : RS}
variable {S S' : List Nat} {tg it elt e e2 c : Expr} {es ifs : List Expr} {g : TG} {gs : TGs} {hg : D → Env → Option Env} {hgs : List D → Env → Option Env} {pos p : Pos} {st : Stmt} {body : List Stmt} {tb : TS} {tt : TT} {te t1 t2 : TE} {ta : TA} {wi : TI}

def SrcOk (K : PySem.W.Frag) (R : RA) (E : Hp) (ρ : Env) (σ : L2.St) (H F' H' : Hp) (v : V) (its : List D) (lk : Option Nat) : Prop := ∃ a vs, v = .ref a ∧ DpAll K F' vs its ∧
  ((∃ k, SqK k K F' a vs) ∨ (H' a = some (.lst vs) ∧ some a ≠ R.row ∧ ((H a = none ∧ F' a = none) ∨ E a = some (.lst vs) ∨ ∃ i ds, lk = some i ∧ ρ[i]? = some (some (SV.o ds)) ∧ σ[i]? = some (some (V.ref a)))))
theorem SqK.mono {k : SK} {F F' : Hp} {a : Addr} {vs : List V} (h : SqK k K F a vs) (e : ∀ o, F a = some o → F' a = some o) : SqK k K F' a vs := by
  cases k
  · exact ex_l e h
  · exact ex_t e h
theorem SrcOk.step {F1 H1 F2 H2 : Hp} {v : V} {its : List D} {lk : Option Nat} (s : Step K R rs' F1 H1 F2 H2) (h : SrcOk K R E ρ σ H F1 H1 v its lk) : SrcOk K R E ρ σ H F2 H2 v its lk := by
  obtain ⟨a, vs, rfl, hd, q⟩ := h
  refine ⟨a, vs, rfl, Dp.monoA s.sub _ _ hd, ?_⟩
  rcases q with ⟨k, q⟩ | ⟨q1, q2, q3⟩
  · exact .inl ⟨k, q.mono (s.sub a)⟩
  · refine .inr ⟨s.keep a _ q1 q2, q2, ?_⟩
    rcases q3 with ⟨z1, z2⟩ | z | z
    · refine .inl ⟨z1, ?_⟩
      cases q : F2 a with
      | none => rfl
      | some o =>
        rcases s.new a o q with y | y
        · rw [z2] at y; cases y
        · rw [q1] at y; cases y
    · exact .inr (.inl z)
    · exact .inr (.inr z)
theorem SrcOk.older {H0 H1 : Hp} {v : V} {its : List D} {lk : Option Nat} (e : ∀ a, H1 a = none → H0 a = none) (h : SrcOk K R E ρ σ H1 F' H' v its lk) : SrcOk K R E ρ σ H0 F' H' v its lk := by
  obtain ⟨a, vs, rfl, hd, q⟩ := h
  refine ⟨a, vs, rfl, hd, ?_⟩
  rcases q with q | ⟨q1, q2, q3⟩
  · exact .inl q
  · refine .inr ⟨q1, q2, ?_⟩
    rcases q3 with ⟨z1, z2⟩ | z | z
    · exact .inl ⟨e a z1, z2⟩
    · exact .inr (.inl z)
    · exact .inr (.inr z)
def SrcSem (K : PySem.W.Frag) (R : RA) (t : TE) (f : Env → M (List D × Option Nat)) : Prop :=
  ∀ (L : Nat → Option (Addr × List V)) (E : Hp) (ρ : Env) (σ : L2.St) (F H : Hp) (rs : RS) (its : List D) (lk : Option Nat) (rs' : RS) (Q : VK), Rel K R L E F ρ σ rs H → f ρ rs = some ((its, lk), rs') →
    (∀ v F' H', Step K R rs' F H F' H' → SrcOk K R E ρ σ H F' H' v its lk → Q v H') → t σ H Q
structure DSrc (X : Cx) (R : RA) (e : Expr) (t : TE) (f : Env → M (List D × Option Nat)) : Prop where
  pe : PE X e t
  sem : SrcSem X.K R t f
def srcOf : RV → Option (List D)
  | .d (.tuple ds) => some ds
  | .d (.list ds) => some ds
  | .n ds => some ds
  | _ => none
def srcE (f : Env → M RV) : Env → M (List D × Option Nat) := fun ρ => bnd (f ρ) fun x => bnd (lft (srcOf x)) fun ds => ret (ds, none)
theorem src_e {f : Env → M RV} (h : DE X R e te f) : DSrc X R e te (srcE f) := ⟨h.pe, fun L E ρ σ F H rs its lk rs' Q r hf k => by
  obtain ⟨x, rs1, e1, hf1⟩ := bnd_some hf
  obtain ⟨ds, rs2, e2, hf2⟩ := bnd_some hf1
  obtain ⟨e3, q3⟩ := lft_some e2
  obtain ⟨e4, q4⟩ := ret_some hf2
  cases e4
  subst q4 q3
  refine h.sem L E ρ σ F H rs x _ _ r e1 fun v F1 H1 s1 h1 => k v F1 H1 s1 ?_
  cases x with
  | d y =>
    cases y with
    | tuple es =>
      cases e3
      cases h1 with
      | tup z1 z2 => exact ⟨_, _, rfl, z2, .inl ⟨.t, z1⟩⟩
    | list es =>
      cases e3
      cases h1 with
      | lst z1 z2 => exact ⟨_, _, rfl, z2, .inl ⟨.l, z1⟩⟩
    | none => cases e3
    | bool _ => cases e3
    | int _ => cases e3
    | str _ => cases e3
    | dict _ => cases e3
  | n es =>
    cases e3
    obtain ⟨a, vs, rfl, z1, z0, z2, z3, z4⟩ := h1
    exact ⟨a, vs, rfl, z4, .inr ⟨z1, z3, .inl ⟨z0, z2⟩⟩⟩
  | b es => cases e3
  | gb _ => cases e3
  | gn _ => cases e3
  | row => cases e3⟩
def srcV (i : Nat) : Env → M (List D × Option Nat) := fun ρ => lft (match ρ[i]? with
  | some (some (.d (.tuple ds))) => some (ds, none)
  | some (some (.d (.list ds))) => some (ds, none)
  | some (some (.o ds)) => some (ds, some i)
  | some (some (.k ds)) => some (ds, none)
  | _ => none)
theorem src_v (i : Nat) {x : Str} (hN : X.N[i]? = some x := by rfl) (hv : Vis X.env.scope x := by first | exact Or.inl rfl | exact Or.inr (Or.inl rfl) | exact Or.inr (Or.inr rfl)) (hd : (x == ("__debug__" : Str)) = false := by decide)
    (hcd : (x == ("__classdict__" : Str)) = false := by decide) : DSrc X R (.Name x pos) (tVar i) (srcV i) := ⟨pe_var hN hv hd hcd, fun L E ρ σ F H rs its lk rs' Q r hf k => by
  obtain ⟨e1, q1⟩ := lft_some hf
  subst q1
  cases e : ρ[i]? with
  | none => rw [e] at e1; cases e1
  | some sv =>
    cases sv with
    | none => rw [e] at e1; cases e1
    | some sv =>
      obtain ⟨v, ev, q⟩ := r.sl i sv e
      refine ⟨v, ev, k v F H r.refl ?_⟩
      rw [e] at e1
      cases sv with
      | d y =>
        cases y with
        | tuple es =>
          cases e1
          cases q with
          | tup z1 z2 => exact ⟨_, _, rfl, z2, .inl ⟨.t, z1⟩⟩
        | list es =>
          cases e1
          cases q with
          | lst z1 z2 => exact ⟨_, _, rfl, z2, .inl ⟨.l, z1⟩⟩
        | none => cases e1
        | bool _ => cases e1
        | int _ => cases e1
        | str _ => cases e1
        | dict _ => cases e1
      | o es =>
        cases e1
        obtain ⟨a, vs, rfl, z1, z2, z3, z4, z5⟩ := q
        exact ⟨a, vs, rfl, z5, .inr ⟨z1, z4, .inr (.inr ⟨i, _, rfl, e, ev⟩)⟩⟩
      | k es =>
        cases e1
        obtain ⟨a, vs, hl, rfl, z5⟩ := q
        have hE := r.lk i a vs hl
        refine ⟨a, vs, rfl, z5, .inr ⟨r.ex a _ hE, fun z => ?_, .inr (.inl hE)⟩⟩
        have := (r.rE a z.symm).1
        rw [hE] at this
        cases this
      | g _ => cases e1
      | un => cases e1
      | ex _ _ => cases e1
      | fn _ => cases e1
      | lm => cases e1
      | row => cases e1⟩

theorem SrcOk.pin {v : V} {its : List D} {lk : Option Nat} (r0 : Rel K R L E F ρ σ rs H) (h : SrcOk K R E ρ σ H F' H' v its lk) : ∃ (a : Addr) (vs : List V) (k : SK) (P : Hp), v = .ref a ∧ DpAll K F' vs its ∧ PinOk K R E F' H H' ρ σ lk P ∧
    (∀ H2, (∀ b o, P b = some o → H2 b = some o) → (∀ b o, F' b = some o → H2 b = some o) → SqK k K H2 a vs) := by
  obtain ⟨a, vs, rfl, hd, q⟩ := h
  rcases q with ⟨k, q⟩ | ⟨q1, q2, q3⟩
  · exact ⟨a, vs, k, fun _ => none, rfl, hd, fun b o e => (nomatch e), fun H2 _ h2 => q.mono (h2 a)⟩
  · refine ⟨a, vs, .l, fun b => if b = a then some (.lst vs) else none, rfl, hd, fun b o e => ?_, fun H2 h1 _ => .inl (.inl (h1 a _ (if_pos rfl)))⟩
    by_cases hb : b = a
    · subst hb
      have e' : (if b = b then some (HO.lst vs) else none) = some o := e
      rw [if_pos rfl] at e'
      cases e'
      exact ⟨q1, q2, .lst, q3⟩
    · have e' : (if b = a then some (HO.lst vs) else none) = some o := e
      rw [if_neg hb] at e'
      cases e'
theorem yAt_ok {vs : List V} {its : List D} (hd : DpAll K F' vs its) : YOk K F' its (YAt vs) := fun i H1 v H2 F1 hi h1 h2 y => by
  obtain ⟨rfl, hv⟩ := y
  have hx : its[i]? = some its[i] := List.getElem?_eq_getElem hi
  obtain ⟨w, hw, hdw⟩ := hd.get hx
  rw [hv] at hw
  cases hw
  exact ⟨_, hx, .inl ⟨rfl, Dp.mono h1 _ _ hdw⟩⟩
theorem di_seq {f : Env → M (List D × Option Nat)} (h : DSrc X R e te f) : DI X R tg e (iSeqK X.K te) f := ⟨pi_seqK h.pe, fun L E ρ σ F H rs its lk rs' Rq r hf k => by
  refine h.sem L E ρ σ F H rs its lk rs' _ r hf fun v F1 H1 s1 h1 => ?_
  obtain ⟨a, vs, kd, P, rfl, hd, pn, hG⟩ := h1.pin r
  have r1 := r.step s1
  refine ⟨kd, a, vs, rfl, hG H1 (fun b o q => (pn b o q).1) r1.fr, k _ F1 H1 s1 ⟨_, _, P, ?_, pn, hG, yAt_ok hd⟩⟩
  have := walk_seqK kd (K := X.K) (a := a) (xs := vs)
  rw [hd.len] at this
  exact this⟩
/-- enumerate -/
def enumD : Nat → List D → List D
  | _, [] => []
  | i, x :: xs => .tuple [.int (i : Nat), x] :: enumD (i + 1) xs
theorem enumD_len : ∀ (i : Nat) (xs : List D), (enumD i xs).length = xs.length
  | _, [] => rfl
  | i, x :: xs => congrArg (· + 1) (enumD_len (i + 1) xs)
theorem enumD_get : ∀ (k : Nat) (xs : List D) (i : Nat) (x : D), xs[i]? = some x → (enumD k xs)[i]? = some (.tuple [.int ((k + i : Nat) : Int), x])
  | k, y :: ys, 0, x, h => by
    simp at h; subst h
    rfl
  | k, y :: ys, i + 1, x, h => by
    simp at h
    have := enumD_get (k + 1) ys i x h
    have e : k + 1 + i = k + (i + 1) := by omega
    rw [e] at this
    simpa [enumD] using this
def iEnumF (f : Env → M (List D × Option Nat)) : Env → M (List D × Option Nat) := fun ρ => bnd (f ρ) fun p => ret (enumD 0 p.1, p.2)
theorem di_enum {f : Env → M (List D × Option Nat)} {elts : List Expr} {kk : Nat} {tpos : Pos} (hgl : Gl X "enumerate") (hm : X.mg "enumerate" = none) (h : DSrc X R e te f) (hs : starEach [e] X.env = (false, eval e X.env) :: starEach [] X.env := by rfl) :
    DI X R (.Tuple elts kk tpos) (.Call (.Name "enumerate" p) [e] [] pos) (iEnumK X.K te) (iEnumF f) := ⟨pi_enumK hgl hm h.pe hs, fun L E ρ σ F H rs its lk rs' Rq r hf k => by
  obtain ⟨⟨xs, lk1⟩, rs1, e1, hf1⟩ := bnd_some hf
  obtain ⟨e2, q2⟩ := ret_some hf1
  cases e2
  subst q2
  refine h.sem L E ρ σ F H rs xs lk1 _ _ r e1 fun v F1 H1 s1 h1 => ?_
  obtain ⟨a, vs, kd, P, rfl, hd, pn, hG⟩ := h1.pin r
  have r1 := r.step s1
  refine ⟨kd, a, vs, rfl, hG H1 (fun b o q => (pn b o q).1) r1.fr, k _ F1 H1 s1 ⟨fun H => SqK kd X.K H a vs, YPair (fun i => some (.int (i : Nat))) (fun i => vs[i]?), P, ?_, pn, hG, ?_⟩⟩
  · have := walk_enumK kd (K := X.K) (a := a) (xs := vs)
    rw [hd.len] at this
    show Walk _ (enumD 0 xs).length _ _
    rw [enumD_len]
    exact this
  · intro i H2 w H3 F2 hi h1 h2 y
    obtain ⟨T, x, y', rfl, hT, rfl, ex, ey⟩ := y
    cases ex
    have hi' : i < xs.length := by
      have hi2 : i < (enumD 0 xs).length := hi
      rw [enumD_len] at hi2
      exact hi2
    have hx : xs[i]? = some xs[i] := List.getElem?_eq_getElem hi'
    obtain ⟨w, hw, hdw⟩ := hd.get hx
    have ey' : vs[i]? = some y' := ey
    rw [ey'] at hw
    cases hw
    refine ⟨_, enumD_get 0 xs i _ hx, .inr ⟨T, _, _, rfl, hT, rfl, rfl, .cons ?_ (.cons (Dp.mono h1 _ _ hdw) .nil)⟩⟩
    rw [Nat.zero_add]
    exact Dp.int _⟩
/-- range(a, b) -/
def rngD (lo : Int) : Nat → List D
  | 0 => []
  | n + 1 => .int lo :: rngD (lo + 1) n
theorem rngD_len : ∀ (lo : Int) (n : Nat), (rngD lo n).length = n
  | _, 0 => rfl
  | lo, n + 1 => congrArg (· + 1) (rngD_len (lo + 1) n)
theorem rngD_get : ∀ (lo : Int) (n i : Nat), i < n → (rngD lo n)[i]? = some (.int (lo + i))
  | _, 0, _, h => absurd h (Nat.not_lt_zero _)
  | lo, n + 1, 0, _ => by simp [rngD]
  | lo, n + 1, i + 1, h => by
    have := rngD_get (lo + 1) n i (by omega)
    have e : lo + 1 + (i : Int) = lo + ((i + 1 : Nat) : Int) := by omega
    rw [e] at this
    simpa [rngD] using this
def iRng1F (f : Env → M RV) : Env → M (List D × Option Nat) := fun ρ => bnd (f ρ) fun x => bnd (lft (asInt x)) fun n => if n ≤ 100000 ∧ -100000 ≤ n then ret (rngD 0 n.toNat, none) else fail
def iRng2F (f g : Env → M RV) : Env → M (List D × Option Nat) := fun ρ => bnd (f ρ) fun x => bnd (lft (asInt x)) fun a => bnd (g ρ) fun y => bnd (lft (asInt y)) fun b =>
  if a ≤ 100000 ∧ -100000 ≤ a ∧ b ≤ 100000 ∧ -100000 ≤ b then ret (rngD a (b - a).toNat, none) else fail
theorem rng_ok {lo : Int} {n : Nat} (r : Rel K R L E F' ρ σ rs H') {H : Hp} : IterOk K R E ρ σ H F' H' (Itr lo n) (rngD lo n) none := by
  refine ⟨fun _ => True, YFn fun i => .int (lo + i), fun _ => none, ?_, fun a o e => (nomatch e), fun _ _ _ => trivial, ?_⟩
  · have := walk_range (lo := lo) (n := n)
    rw [rngD_len]
    exact this
  · intro i H1 v H2 F1 hi h1 h2 y
    obtain ⟨rfl, rfl⟩ := y
    rw [rngD_len] at hi
    exact ⟨_, rngD_get lo n i hi, .inl ⟨rfl, Dp.int _⟩⟩
theorem di_range1 {f : Env → M RV} (hgl : Gl X "range") (hm : X.mg "range" = none) (h : DE X R e te f) (hs : starEach [e] X.env = [(false, eval e X.env)] := by rfl) (hs' : starEach [e] X.env = (false, eval e X.env) :: starEach [] X.env := by rfl) :
    DI X R tg (.Call (.Name "range" p) [e] [] pos) (iRng1 (tCons te tNil)) (iRng1F f) := ⟨pi_range1 hgl hm (pa_cons h.pe pa_nil hs') hs, fun L E ρ σ F H rs its lk rs' Rq r hf k => by
  obtain ⟨x, rs1, e1, hf1⟩ := bnd_some hf
  obtain ⟨n, rs2, e2, hf2⟩ := bnd_some hf1
  obtain ⟨e3, q3⟩ := lft_some e2
  subst q3
  by_cases hb : n ≤ 100000 ∧ -100000 ≤ n
  · rw [if_pos hb] at hf2
    obtain ⟨e4, q4⟩ := ret_some hf2
    cases e4
    subst q4
    refine h.sem L E ρ σ F H rs x _ _ r e1 fun v F1 H1 s1 h1 => ?_
    have := h1.int e3
    subst this
    exact ⟨n, rfl, by omega, by omega, k _ F1 H1 s1 (rng_ok (r.step s1))⟩
  · rw [if_neg hb] at hf2
    cases hf2⟩
theorem di_range2 {f g : Env → M RV} (hgl : Gl X "range") (hm : X.mg "range" = none) (h : DE X R e t1 f) (h2 : DE X R e2 t2 g) (hs : starEach [e, e2] X.env = [(false, eval e X.env), (false, eval e2 X.env)] := by rfl) (hs2 : starEach [e2] X.env = [(false, eval e2 X.env)] := by rfl)
    (hq1 : starEach [e, e2] X.env = (false, eval e X.env) :: starEach [e2] X.env := by rfl) (hq2 : starEach [e2] X.env = (false, eval e2 X.env) :: starEach [] X.env := by rfl) :
    DI X R tg (.Call (.Name "range" p) [e, e2] [] pos) (iRng2 (tCons t1 (tCons t2 tNil))) (iRng2F f g) := ⟨pi_range2 hgl hm (pa_cons h.pe (pa_cons h2.pe pa_nil hq2) hq1) hs hs2, fun L E ρ σ F H rs its lk rs' Rq r hf k => by
  obtain ⟨x, rs1, e1, hf1⟩ := bnd_some hf
  obtain ⟨a, rs2, e2, hf2⟩ := bnd_some hf1
  obtain ⟨e3, q3⟩ := lft_some e2
  subst q3
  obtain ⟨y, rs4, e4, hf4⟩ := bnd_some hf2
  obtain ⟨b, rs5, e5, hf5⟩ := bnd_some hf4
  obtain ⟨e6, q6⟩ := lft_some e5
  subst q6
  by_cases hb : a ≤ 100000 ∧ -100000 ≤ a ∧ b ≤ 100000 ∧ -100000 ≤ b
  · rw [if_pos hb] at hf5
    obtain ⟨e7, q7⟩ := ret_some hf5
    cases e7
    subst q7
    refine h.sem L E ρ σ F H rs x _ _ r e1 fun v F1 H1 s1 h1 => ?_
    refine h2.sem L E ρ σ F1 H1 _ y _ _ (r.step s1) e4 fun w F2 H2 s2 h2 => ?_
    have := h1.int e3
    subst this
    have := h2.int e6
    subst this
    exact ⟨a, b, rfl, ⟨by omega, by omega, by omega, by omega⟩, k _ F2 H2 (s1.trans r.row s2) (rng_ok ((r.step s1).step s2))⟩
  · rw [if_neg hb] at hf5
    cases hf5⟩

def toK : RV → SV
  | .d x => .d x
  | .b ds => .k ds
  | .n ds => .k ds
  | .gb _ => .un
  | .gn _ => .un
  | .row => .row
def startE (n : Nat) (xs : List RV) : Env := xs.map (fun x => some (toK x)) ++ List.replicate (n - xs.length) none
/-- a def's body run at its arguments -/
def runDef (n : Nat) (g : Env → M Out) (xs : List RV) : M RV := bnd (g (startE n xs)) fun o => match o with
  | .nx _ => ret (.d .none)
  | .rt x => ret x
  | _ => fail
/-- a def's promise: the function m of its arguments (np of them) -/
def spFn (K : PySem.W.Frag) (np : Nat) (m : List RV → M RV) : Sp := fun vs H Q _ => ∃ (R : RA) (F : Hp) (rs : RS) (xs : List RV) (x : RV) (rs' : RS), Step K R rs F H F H ∧ VRs K R F H H vs xs ∧ xs.length = np ∧ m xs rs = some (x, rs') ∧
  ∀ v F' H', Step K R rs' F H F' H' → VR K R F' H H' v x → Q v H'
theorem VRs.old {F H0 H : Hp} : ∀ {vs : List V} {xs : List RV}, VRs K R F H0 H vs xs → True := fun _ => trivial
/-- data lists as they stand for a call: not new any more -/
def readable : RV → RV
  | .n ds => .b ds
  | .gn c => .gb c
  | x => x
def eFn (m : List RV → M RV) (fa : Env → M (List RV)) : Env → M RV := fun ρ => bnd (fa ρ) fun xs => m (xs.map readable)
theorem VRs.readable {F H0 H : Hp} : ∀ {vs : List V} {xs : List RV}, VRs K R F H0 H vs xs → VRs K R F H H vs (xs.map DV.readable)
  | _, _, .nil => .nil
  | _, _, .cons (x := x) h t => .cons (by
      cases x with
      | d y => exact h
      | b y => exact h
      | gb y => exact h
      | gn y =>
        obtain ⟨a, vs, e1, h1, h0, h2, h3, h4⟩ := h
        exact ⟨a, vs, e1, h1, h3, h4⟩
      | row => exact h
      | n y =>
        obtain ⟨a, vs, e1, h1, h0, h2, h3, h4⟩ := h
        exact ⟨a, vs, e1, h1, h3, h4⟩) (VRs.readable t)
theorem de_fn {k : Nat} {f : Addr} {fd : FuncData} {ps : List Str} {np : Nat} {m : List RV → M RV} {x : Str} {fa : Env → M (List RV)} {k' : Nat} (Fn : FnOk X.prog X.w X.K X.mg X.base CX0 k f fd ps (spFn X.K np m)) (hr : Room k' X.A) (hk' : k ≤ k') (hgl : Gl X x) (hm : X.mg x = some (.ref f)) (hk : PySem.W.keepIn X.K (.ref f) = true)
    (hb : Binds X.K fd ps []) (ha : DA X R (e :: es) ta fa) (hdb : (x == ("__debug__" : Str)) = false := by decide) (he : starEach (e :: es) X.env = (false, eval e X.env) :: starEach es X.env := by rfl) (hpl : (backTo pos (starEach es X.env)).any (·.1) = false := by rfl) :
    DE X R (.Call (.Name x p) (e :: es) [] pos) (tCall (spFn X.K np m) [] E0 ta) (eFn (fun xs => if xs.length = np then m xs else fail) fa) := ⟨pe_call Fn (hr.mono hk') hgl hm hk hb .nil pass0 ha.pa hdb he hpl, fun L E ρ σ F H rs y rs' Q r hf kk => by
  obtain ⟨xs, rs1, e1, hf1⟩ := bnd_some hf
  refine ha.sem L E ρ σ F H rs xs rs1 _ r e1 fun vs F1 H1 s1 h1 => ?_
  have hf1 : (if (xs.map readable).length = np then m (xs.map readable) else fail) rs1 = some (y, rs') := hf1
  have hl : (xs.map readable).length = np := by
    by_cases hl : (xs.map readable).length = np
    · exact hl
    · rw [if_neg hl] at hf1; cases hf1
  rw [if_pos hl] at hf1
  rw [List.append_nil]
  exact ⟨R, F1, rs1, _, y, rs', (r.step s1).refl, h1.readable, hl, hf1, fun v F2 H2 s2 h2 => kk v F2 H2 (s1.trans r.row s2) (h2.older fun a q => s1.back r.row q)⟩⟩
theorem start_get {α : Type} {xs : List α} {n i : Nat} {x : α} (h : (xs.map some ++ List.replicate (n - xs.length) none)[i]? = some (some x)) : xs[i]? = some x := by
  by_cases hi : i < xs.length
  · rw [List.getElem?_append_left (by simpa using hi), List.getElem?_map] at h
    cases e : xs[i]? with
    | none => rw [e] at h; cases h
    | some y => rw [e] at h; cases h; rfl
  · rw [List.getElem?_append_right (by simpa using hi), List.getElem?_replicate] at h
    split at h <;> cases h
theorem VRs.get {F H0 H : Hp} : ∀ {vs : List V} {xs : List RV} {i : Nat} {x : RV}, VRs K R F H0 H vs xs → xs[i]? = some x → ∃ v, vs[i]? = some v ∧ VR K R F H0 H v x
  | _, _, _, _, .nil, h => by simp at h
  | _, _, 0, _, .cons h1 _, h => by
    simp at h; subst h
    exact ⟨_, rfl, h1⟩
  | _, _, i + 1, _, .cons _ h2, h => by
    simp at h
    obtain ⟨v, e, r⟩ := VRs.get h2 h
    exact ⟨v, by simpa using e, r⟩
open Classical in
/-- at a def's entry -/
noncomputable def lockL (R : RA) (H : Hp) (vs : List V) (xs : List RV) (i : Nat) : Option (Addr × List V) := match vs[i]?, xs[i]? with
  | some (.ref a), some x => match toK x with
    | .k _ => if some a = R.row then none else match H a with
      | some (.lst ws) => some (a, ws)
      | _ => none
    | _ => none
  | _, _ => none
open Classical in
theorem lockL_eq {vs : List V} {xs : List RV} {i : Nat} {a : Addr} {x : RV} {ds : List D} {ws : List V} (h1 : vs[i]? = some (.ref a)) (h2 : xs[i]? = some x) (h3 : toK x = .k ds) (h4 : some a ≠ R.row) (h5 : H a = some (.lst ws)) : lockL R H vs xs i = some (a, ws) := by
  unfold lockL
  rw [h1, h2]
  dsimp only
  rw [h3]
  dsimp only
  rw [if_neg h4, h5]
open Classical in
theorem lockL_inv {vs : List V} {xs : List RV} {i : Nat} {a : Addr} {ws : List V} (h : lockL R H vs xs i = some (a, ws)) : some a ≠ R.row ∧ H a = some (.lst ws) := by
  unfold lockL at h
  split at h
  · split at h
    · split at h
      · cases h
      · rename_i hR
        split at h
        · rename_i hh
          cases h
          exact ⟨hR, hh⟩
        · cases h
    · cases h
  · cases h
/-- a table's place -/
def tbAt (K : PySem.W.Frag) (a : Addr) : Prop := ∃ q, (a, q) ∈ tabsOf K
theorem RowOk.noTb {F1 H1 : Hp} {rs1 : RS} (r : RowOk K R rs1 F1 H1) {a : Addr} {ws : List V} (h : H1 a = some (.lst ws)) : ¬ tbAt K a := fun ⟨q, z⟩ => by
  obtain ⟨ps, e⟩ := tabs_at r.tab z
  rw [h] at e; cases e
open Classical in
/-- what the entry knows: neither the row nor a table -/
noncomputable def entE (K : PySem.W.Frag) (R : RA) (H : Hp) : Hp := fun a => if some a = R.row ∨ tbAt K a then none else H a
theorem entE_of {a : Addr} {o : HO} (e : entE K R H a = some o) : some a ≠ R.row ∧ ¬ tbAt K a ∧ H a = some o := by
  unfold entE at e
  split at e
  · cases e
  · rename_i h
    exact ⟨fun z => h (.inl z), fun z => h (.inr z), e⟩
theorem entE_at {a : Addr} (h1 : some a ≠ R.row) (h2 : ¬ tbAt K a) : entE K R H a = H a := by
  unfold entE
  exact if_neg fun z => z.elim h1 h2
theorem entE_row {a : Addr} (h : R.row = some a) : entE K R H a = none := by
  unfold entE
  exact if_pos (.inl h.symm)
open Classical in
theorem Rel.start {N : List Str} {vs : List V} {xs : List RV} (s : Step K R rs F H F H) (h : VRs K R F H H vs xs) : ∃ L, Rel K R L (entE K R H) F (startE N.length xs) (L2.start N vs) rs H := by
  have hl := h.len
  refine ⟨lockL R H vs xs, ?_⟩
  refine ⟨?_, fun a o e => (entE_of e).2.2, fun a o e => .inr fun n z => (entE_of e).2.1 ⟨n, z⟩, s.fin, s.row, fun q e => ⟨entE_row e, s.rF q e⟩, fun i a ws e => ?_, fun i sv e => ?_, fun i j a sv sw e1 _ ox _ _ _ => ?_⟩
  · unfold startE L2.start
    rw [List.length_append, List.length_append, List.length_map, List.length_map, List.length_replicate, List.length_replicate, hl]
  · obtain ⟨h1, h2⟩ := lockL_inv e
    rw [entE_at h1 (s.row.noTb h2)]
    exact h2
  · have hx : ∃ x, xs[i]? = some x ∧ sv = toK x := by
      unfold startE at e
      have : (((xs.map toK).map some) ++ List.replicate (N.length - (xs.map toK).length) none)[i]? = some (some sv) := by
        rw [List.map_map, List.length_map]
        exact e
      have q := start_get this
      rw [List.getElem?_map] at q
      cases q2 : xs[i]? with
      | none => rw [q2] at q; cases q
      | some x => rw [q2] at q; exact ⟨x, rfl, (Option.some.inj q).symm⟩
    obtain ⟨x, hx, rfl⟩ := hx
    obtain ⟨v, hv, q⟩ := h.get hx
    refine ⟨v, ?_, ?_⟩
    · unfold L2.start
      have hi := (List.getElem?_eq_some_iff.mp hv).1
      rw [List.getElem?_append_left (by simpa using hi), List.getElem?_map, hv]
      rfl
    · have lst : ∀ (a : Addr) (ws : List V) (ds : List D), v = .ref a → H a = some (.lst ws) → some a ≠ R.row → DpAll K F ws ds → toK x = .k ds → SR K R (lockL R H vs xs) (fun a => if some a = R.row then none else H a) F H i v (.k ds) := fun a ws ds ev h1 h2 h3 ek => by
        subst ev
        exact ⟨a, ws, lockL_eq hv hx ek h2 h1, rfl, h3⟩
      cases x with
      | d y => exact q
      | b ds =>
        obtain ⟨a, ws, ev, h1, h2, h3⟩ := q
        exact lst a ws ds ev h1 h2 h3 rfl
      | n ds =>
        obtain ⟨a, ws, ev, h1, h0, h2, h3, h4⟩ := q
        exact lst a ws ds ev h1 h3 h4 rfl
      | gb _ => exact trivial
      | gn _ => exact trivial
      | row => exact q
  · exfalso
    unfold startE at e1
    have : (((xs.map toK).map some) ++ List.replicate (N.length - (xs.map toK).length) none)[i]? = some (some sv) := by
      rw [List.map_map, List.length_map]
      exact e1
    have q := start_get this
    rw [List.getElem?_map] at q
    cases q2 : xs[i]? with
    | none => rw [q2] at q; cases q
    | some x =>
      rw [q2] at q
      have q3 := Option.some.inj q
      cases x <;> cases q3 <;> exact ox
/-- a def by its body, its code told -/
theorem fun_code {P : Program} {w : World} {mg : Str → Option Value} {base : Heap} {x qual : Str} {st : Stmt} {f : Addr} {fd : FuncData} {N ps : List Str} {k : Nat} {sp : Sp} (Fn : Fun K x qual st f fd) (S : FnScope N ps (defScope st)) (len : ∀ vs H Q E, sp vs H Q E → vs.length = ps.length)
    (go : ∀ (cdv : Value) (A : Around) (outer : List PySem.Env) (s : Shared) (H : Hp) (vs : List V) (Q : VK) (E : XK), fd.code = cdv → Room k (A.deeper (envOfC qual (defScope st) s.heap.objs.size f cdv)) → sp vs H Q E →
      ∃ t, PSs (cxOf CX0 P w K mg base N qual (defScope st) f cdv A outer s H E).nox (defBody st) t ∧ t { nx := fun _ H' => Q .non H', rt := Q } (L2.start N vs) H) : FnOk P w K mg base CX0 (k + 1) f fd ps sp := by
  obtain ⟨c0, d0, kv, dc, pm, an, code, ct, sl, rfl, look, isC⟩ := Fn.ex
  refine fn_of look isC S len fun A outer s H vs Q E room h => ?_
  obtain ⟨t, h1, h2⟩ := go code A outer s H vs Q E rfl room h
  exact ⟨t, h1.nox, h2⟩
/-- THE RULE for a def -/
theorem fn_ok {P : Program} {w : World} {mg : Str → Option Value} {base : Heap} {x qual : Str} {st : Stmt} {f : Addr} {fd : FuncData} {N ps : List Str} {k : Nat} {g : Env → M Out} (Fn : Fun K x qual st f fd) (S : FnScope N ps (defScope st))
    (hbody : ∀ (R : RA) (cdv : Value) (A : Around) (outer : List PySem.Env) (s : Shared) (H : Hp) (E : XK), fd.code = cdv → Room k (A.deeper (envOfC qual (defScope st) s.heap.objs.size f cdv)) →
      ∃ t, DSs (cxOf CX0 P w K mg base N qual (defScope st) f cdv A outer s H E).nox R (defBody st) t g) : FnOk P w K mg base CX0 (k + 1) f fd ps (spFn K ps.length (runDef N.length g)) := by
  refine fun_code Fn S (fun vs H Q E h => ?_) (fun cdv A outer s H vs Q E hcd hr h => ?_)
  · obtain ⟨R, F, rs, xs, x, rs', _, h2, h3, _⟩ := h
    rw [h2.len, h3]
  · obtain ⟨R, F, rs, xs, y, rs', hs, hv, hl, hm, kk⟩ := h
    obtain ⟨t, hb⟩ := hbody R cdv A outer s H E hcd hr
    obtain ⟨L, r⟩ := Rel.start (N := N) hs hv
    have s0 := hs
    refine ⟨t, hb.ps, ?_⟩
    obtain ⟨o, rs1, e1, hf1⟩ := bnd_some hm
    have free : ∀ a, entE K R H a = none → some a ≠ R.row → ¬ tbAt K a → H a = none := fun a e q t => by rwa [entE_at q t] at e
    have fin : ∀ (v : V) (F1 H1 : Hp) (z : RV), Ret K R rs1 (entE K R H) F F1 H1 v z → y = z → rs1 = rs' → Q v H1 := fun v F1 H1 z q ez er => by
      subst ez er
      refine kk v F1 H1 ⟨fun a o e hR n => ?_, q.fs.sub, fun a o e => ?_, q.fr, q.row, q.rF⟩ ?_
      · by_cases t : tbAt K a
        · obtain ⟨m, t⟩ := t
          obtain ⟨ps, et⟩ := tabs_at s0.row.tab t
          rw [e] at et
          cases et
          rcases n with n | n
          · exact absurd rfl (n ps)
          · exact absurd t (n m)
        · exact q.ex a o (by rw [entE_at hR t]; exact e)
      · rcases q.fs.new a o e with z | ⟨z1, z2⟩
        · exact .inl z
        · refine .inr (free a z1 z2 fun ⟨m, t⟩ => ?_)
          obtain ⟨ps, et⟩ := tabs_at q.row.tab t
          rw [q.fr a o e] at et
          cases et
          rcases q.row.fnt a _ e with n | n
          · exact absurd rfl (n ps)
          · exact absurd t (n m)
      · have hv := q.val
        cases y with
        | d y => exact hv
        | n ds =>
          obtain ⟨a, ws, z1, z2, z3, z4, z5, z6⟩ := hv
          exact ⟨a, ws, z1, z2, free a z3 z5 (q.row.noTb z2), z4, z5, z6⟩
        | gn c =>
          obtain ⟨a, ws, z1, z2, z3, z4, z5, z6⟩ := hv
          exact ⟨a, ws, z1, z2, free a z3 z5 (fun ⟨m, t⟩ => by
            obtain ⟨ps, et⟩ := tabs_at q.row.tab t
            rw [z2] at et
            cases et
            rcases z6.fx with n | n
            · exact absurd rfl (n ps)
            · exact absurd t (n m)), z4, z5, z6⟩
        | b _ => exact hv.elim
        | gb _ => exact hv.elim
        | row => exact hv.elim
    refine hb.sem L _ F _ _ rs H o rs1 _ r e1 ?_
    cases o with
    | nx ρ' =>
      obtain ⟨e2, q2⟩ := ret_some hf1
      exact fun σ' F' H' fs r' => fin .non F' H' (.d .none) ⟨fs, r'.ex, r'.fr, r'.row, fun q e => (r'.rE q e).2, .non⟩ e2.symm q2.symm
    | rt z =>
      obtain ⟨e2, q2⟩ := ret_some hf1
      exact fun v F' H' q => fin v F' H' z q e2.symm q2.symm
    | bk ρ' => cases hf1
    | ct ρ' => cases hf1

def sApp (i : Nat) (f : Env → M RV) : Env → M Out := fun ρ => bnd (lft (own? ρ i)) fun ds => bnd (f ρ) fun x => bnd (lft (toD x)) fun d => if ds.length < 100000 then ret (.nx (ρ.set i (some (.o (ds ++ [d]))))) else fail
  where own? (ρ : Env) (i : Nat) : Option (List D) := match ρ[i]? with
    | some (some (.o ds)) => some ds
    | _ => none
theorem own_some {ρ : Env} {i : Nat} {ds : List D} (h : sApp.own? ρ i = some ds) : ρ[i]? = some (some (SV.o ds)) := by
  unfold sApp.own? at h
  cases e : ρ[i]? with
  | none => rw [e] at h; cases h
  | some o =>
    cases o with
    | none => rw [e] at h; cases h
    | some sv =>
      rw [e] at h
      cases sv with
      | o es => cases h; rfl
      | d _ => cases h
      | k _ => cases h
      | g _ => cases h
      | un => cases h
      | ex _ _ => cases h
      | fn _ => cases h
      | lm => cases h
      | row => cases h
theorem frozen1 {F1 H1 : Hp} (r : Rel K R L E F ρ σ rs H) (s : Step K R rs' F H F1 H1) {v : V} {x : RV} {d : D} (h : VR K R F1 H H1 v x) (e : toD x = some d) : ∃ F2, Step K R rs' F H F2 H1 ∧ Dp K F2 v d := by
  obtain ⟨F2, h1, h2, _⟩ := freeze1 s r.row (fun a q => q) h e
  exact ⟨F2, h1, h2⟩
theorem ds_append {i : Nat} {x : Str} {e : Expr} {te : TE} {f : Env → M RV} {apos p1 spos : Pos} (he : DE X R e te f) (hN : X.N[i]? = some x := by rfl) (hv : Vis X.env.scope x := by first | exact Or.inl rfl | exact Or.inr (Or.inl rfl) | exact Or.inr (Or.inr rfl)) (hd : (x == ("__debug__" : Str)) = false := by decide)
    (hcd : (x == ("__classdict__" : Str)) = false := by decide) (pe : PE X (.Call (.Attribute (.Name x p1) "append" apos) [e] [] pos) (tBM X.K "list" rAppend (tVar i) (tCons te tNil))) (hs : swapsWith (.Call (.Attribute (.Name x p1) "append" apos) [e] [] pos) none spos.line X.env = pure false := by rfl) :
    DS X R (.Expr (.Call (.Attribute (.Name x p1) "append" apos) [e] [] pos) spos) (tDrop (tBM X.K "list" rAppend (tVar i) (tCons te tNil))) (sApp i f) := ⟨ps_expr pe hs, fun L E F ρ σ rs H o rs' D r hf k => by
  obtain ⟨ds, rs1, e1, hf1⟩ := bnd_some hf
  obtain ⟨e2, q2⟩ := lft_some e1
  subst q2
  obtain ⟨x, rs3, e3, hf3⟩ := bnd_some hf1
  obtain ⟨d, rs4, e4, hf4⟩ := bnd_some hf3
  obtain ⟨e5, q5⟩ := lft_some e4
  subst q5
  by_cases hl : ds.length < 100000
  · rw [if_pos hl] at hf4
    obtain ⟨e6, q6⟩ := ret_some hf4
    subst e6 q6
    have eo := own_some e2
    obtain ⟨v, ev, a, vs, rfl, h1, h2, h3, h4, h5⟩ := r.sl i _ eo
    refine ⟨_, ev, .inl ⟨rfl, vs, .inl (.inl h1)⟩, ?_⟩
    refine he.sem L E ρ σ F H _ x _ _ r e3 fun w F1 H1 s1 hw => ?_
    obtain ⟨F2, s2, hd2⟩ := frozen1 r s1 hw e5
    have r2 := r.step s2
    obtain ⟨v', ev', a', vs', ea, k1, k2, k3, k4, k5⟩ := r2.sl i _ eo
    rw [ev] at ev'
    cases ev'
    cases ea
    refine ⟨a, vs', w, rfl, rfl, k1, by rw [k5.len]; exact sz_lt hl, ?_⟩
    exact k σ F2 _ (FStep.ofStep r s2) (r2.change eo ev (k5.append (.cons hd2 .nil)))
  · rw [if_neg hl] at hf4
    cases hf4⟩
/-- x[k] = e -/
def sPut (i : Nat) (f g : Env → M RV) : Env → M Out := fun ρ => bnd (f ρ) fun x => bnd (lft (sApp.own? ρ i)) fun ds => bnd (g ρ) fun y => bnd (lft (asInt y)) fun j => bnd (lft (toD x)) fun d => bnd (lft (ixN ds.length j)) fun m => ret (.nx (ρ.set i (some (.o (ds.set m d)))))
theorem ds_put {i : Nat} {x : Str} {ei e : Expr} {te ti : TE} {f g : Env → M RV} {p1 spos : Pos} (he : DE X R e te f) (hi : DE X R ei ti g) (hN : X.N[i]? = some x := by rfl) (hv : Vis X.env.scope x := by first | exact Or.inl rfl | exact Or.inr (Or.inl rfl) | exact Or.inr (Or.inr rfl)) (hd : (x == ("__debug__" : Str)) = false := by decide)
    (hcd : (x == ("__classdict__" : Str)) = false := by decide) (hpg : PG X (.Subscript (.Name x p1) ei pos) (gSub (tVar i) ti rSetL)) (hs : swapsWithSole [.Subscript (.Name x p1) ei pos] e spos.line X.env = pure false := by rfl) (hw : swappedStores [.Subscript (.Name x p1) ei pos] e X.env = pure none := by rfl)
    (h1 : (assignEach [.Subscript (.Name x p1) ei pos] X.env).map (·.2) = [assign (.Subscript (.Name x p1) ei pos) X.env] := by rfl) : DS X R (.Assign [.Subscript (.Name x p1) ei pos] e spos) (tAsg te (gSub (tVar i) ti rSetL)) (sPut i f g) := ⟨ps_asg he.pe hpg hs hw h1, fun L E F ρ σ rs H o rs' D r hf k => by
  obtain ⟨x, rs1, e1, hf1⟩ := bnd_some hf
  obtain ⟨ds, rs2, e2, hf2⟩ := bnd_some hf1
  obtain ⟨e2', q2⟩ := lft_some e2
  subst q2
  obtain ⟨y, rs3, e3, hf3⟩ := bnd_some hf2
  obtain ⟨j, rs4, e4, hf4⟩ := bnd_some hf3
  obtain ⟨e4', q4⟩ := lft_some e4
  subst q4
  obtain ⟨d, rs5, e5, hf5⟩ := bnd_some hf4
  obtain ⟨e5', q5⟩ := lft_some e5
  subst q5
  obtain ⟨m, rs6, e6, hf6⟩ := bnd_some hf5
  obtain ⟨e6', q6⟩ := lft_some e6
  obtain ⟨e7, q7⟩ := ret_some hf6
  subst e7 q7 q6
  refine he.sem L E ρ σ F H _ x _ _ r e1 fun w F1 H1 s1 hw => ?_
  obtain ⟨F2, s2, hd2⟩ := frozen1 r s1 hw e5'
  have r2 := r.step s2
  have eo := own_some e2'
  obtain ⟨v, ev, _⟩ := r.sl i _ eo
  refine ⟨v, ev, ?_⟩
  refine hi.sem L E ρ σ F2 H1 _ y _ _ r2 e3 fun u F3 H3 s3 hu => ?_
  have hu' := hu.int e4'
  subst hu'
  have r3 := r2.step s3
  obtain ⟨v', ev', a', vs', ea, k1, k2, k3, k4, k5⟩ := r3.sl i _ eo
  rw [ev] at ev'
  cases ev'
  subst ea
  refine ⟨a', vs', j, m, rfl, rfl, k1, by rw [k5.len]; exact e6', ?_⟩
  exact k σ F3 _ (FStep.ofStep r (s2.trans r.row s3)) (r3.change eo ev (DpAll.set m k5 (Dp.mono s3.sub _ _ hd2)))⟩
end
end DV

namespace DV
open PySem L2 LamX PyProof.Rows PySem.Spec PySem.W
section
variable {K : PySem.W.Frag}
def isTupNe : D → Bool
  | .tuple (_ :: _) => true
  | _ => false
def isPlain : D → Bool
  | .none => false
  | .tuple _ => false
  | _ => true
def okKeys (kz : List D) : Bool := kz.all (fun x => kz.all (alike x)) && ((kz.all isTupNe || kz.all isPlain) && kz.all fun d => decide (d.depth ≤ 60))
/-- the items in the order of their keys -/
def sortK (its kz : List D) : List D := ((its.zip kz).mergeSort fun p q => !dataLt q.2 p.2).map (·.1)
end
end DV

namespace DV
open PySem L2 PyProof.Rows
def insI (x : Int) : List Int → List Int
  | [] => [x]
  | y :: r => if x ≤ y then x :: y :: r else y :: insI x r
def sortI : List Int → List Int
  | [] => []
  | x :: r => insI x (sortI r)
theorem insI_perm (x : Int) : ∀ l, (insI x l).Perm (x :: l)
  | [] => .refl _
  | y :: r => by
    unfold insI
    split
    · exact .refl _
    · exact ((insI_perm x r).cons y).trans (.swap x y r)
theorem sortI_perm : ∀ l, (sortI l).Perm l
  | [] => .refl _
  | x :: r => (insI_perm x _).trans ((sortI_perm r).cons x)
theorem insI_sorted (x : Int) : ∀ l : List Int, l.Pairwise (· ≤ ·) → (insI x l).Pairwise (· ≤ ·)
  | [], _ => List.pairwise_singleton _ _
  | y :: r, h => by
    unfold insI
    obtain ⟨h1, h2⟩ := List.pairwise_cons.mp h
    split
    · rename_i e
      refine List.pairwise_cons.mpr ⟨fun z hz => ?_, h⟩
      rcases List.mem_cons.mp hz with q | q
      · subst q; exact e
      · exact Int.le_trans e (h1 z q)
    · rename_i e
      refine List.pairwise_cons.mpr ⟨fun z hz => ?_, insI_sorted x r h2⟩
      rcases List.mem_cons.mp ((insI_perm x r).mem_iff.mp hz) with q | q
      · subst q; omega
      · exact h1 z q
theorem sortI_sorted : ∀ l : List Int, (sortI l).Pairwise (· ≤ ·)
  | [] => .nil
  | x :: r => insI_sorted x _ (sortI_sorted r)
theorem sorted_uniq : ∀ {xs ys : List Int}, xs.Perm ys → xs.Pairwise (· ≤ ·) → ys.Pairwise (· ≤ ·) → xs = ys
  | [], ys, h, _, _ => h.nil_eq
  | x :: xs, [], h, _, _ => absurd h.length_eq (by simp)
  | x :: xs, y :: ys, h, hx, hy => by
    obtain ⟨a1, a2⟩ := List.pairwise_cons.mp hx
    obtain ⟨b1, b2⟩ := List.pairwise_cons.mp hy
    have e : x = y := by
      have h1 : x ≤ y := by
        rcases List.mem_cons.mp (h.mem_iff.mpr List.mem_cons_self) with q | q
        · omega
        · exact a1 _ q
      have h2 : y ≤ x := by
        rcases List.mem_cons.mp (h.mem_iff.mp List.mem_cons_self) with q | q
        · omega
        · exact b1 _ q
      omega
    subst e
    rw [sorted_uniq (List.perm_cons _ |>.mp h) a2 b2]
section
open PySem.Spec PySem.W
end
section
variable {K : PySem.W.Frag} {R : RA}
def gSort : List RV → Option RV := c1 fun x => match items x with
  | some ds => match intsOf ds with
    | some js => some (.n ((sortI js).map PyData.int))
    | none => if okKeys ds = true then some (.n (sortK ds ds)) else none
  | none => none
end
end DV

namespace DV
open PySem L2 PyProof.Rows
section
variable {X : Cx} {K : PySem.W.Frag} {R : RA} {L : Nat → Option (Addr × List V)} {E F F' H H' : Hp} {ρ ρ' : Env} {σ σ' : L2.St} {rs rs' : RS}
variable {S S' : List Nat} {tg it elt e e2 c : Expr} {es ifs : List Expr} {g : TG} {gs : TGs} {hg : D → Env → Option Env} {hgs : List D → Env → Option Env} {pos p : Pos} {st : Stmt} {body : List Stmt} {tb : TS} {tt : TT} {te t1 t2 : TE} {ta : TA} {wi : TI}
theorem ssem_set {i : Nat} {f : Env → M RV} (he : ESem K R te f) : SSem K R (tAsg te (gName i)) (sSet i f) := fun L E F ρ σ rs H o rs' D r hf k => by
  obtain ⟨x, rs1, e1, hf1⟩ := bnd_some hf
  obtain ⟨sv, rs2, e2, hf2⟩ := bnd_some hf1
  obtain ⟨e3, q3⟩ := lft_some e2
  obtain ⟨e4, q4⟩ := ret_some hf2
  subst e4 q4 q3
  exact he L E ρ σ F H rs x _ _ r e1 fun v F1 H1 s1 h1 => k _ F1 H1 (FStep.ofStep r s1) (Rel.store r s1 h1 e3 i)
theorem ds_setLc {i : Nat} {y : Str} {py spos : Pos} {scope : Scope} {own : List (Str × Nat)} {fi : Env → M (List D × Option Nat)} {tst : Env → M Bool} {el : Env → M RV} (hc : X.calm = true) (hN : X.N.Nodup) (hy : X.N[i]? = some y) (hyl : X.env.scope.names.lookup y = some .local)
    (hsw : swapsWith (.ListComp elt [⟨tg, it, ifs, 0⟩] scope pos) (some (.Name y py)) spos.line X.env = pure true) (hi : DI X R tg it wi fi) (ok : BlkOk X.N X.env.scope scope own) (hS : ∀ i ∈ S, i ∈ own.map (·.2))
    (hg' : ∀ (s : Shared) (H : Hp) (C : Addr) (cl : List (Str × Addr)) (fp : List Addr), DG (X.blk s H scope (compEnvC scope cl C X.env) fp) R S tg g hg) (ht : ∀ (s : Shared) (H : Hp) (C : Addr) (cl : List (Str × Addr)) (fp : List Addr), DTs (X.blk s H scope (compEnvC scope cl C X.env) fp) R ifs tt tst)
    (he : ∀ (s : Shared) (H : Hp) (C : Addr) (cl : List (Str × Addr)) (fp : List Addr), DE (X.blk s H scope (compEnvC scope cl C X.env) fp) R elt te el) (hs : ∀ x, foldedSetIterable it X.env x = pure x := by intro _; rfl) :
    DS X R (.Assign [.Name y py] (.ListComp elt [⟨tg, it, ifs, 0⟩] scope pos) spos) (tAsg (tLc wi g tt te (own.map (·.2))) (gName i)) (sSet i (eLc fi (own.map (·.2)) hg tst el)) :=
  ⟨ps_setLc hc hN hy hyl hsw hi.pi ok (fun s H C cl fp => (hg' s H C cl fp).pg) (fun s H C cl fp => (ht s H C cl fp).pt) (fun s H C cl fp => (he s H C cl fp).pe) hs,
    ssem_set (esem_lc hi.sem (hg' {} (fun _ => none) 0 [] []).sem hS (ht {} (fun _ => none) 0 [] []).sem (he {} (fun _ => none) 0 [] []).sem)⟩
theorem rg_data {F : Hp} (lo : Int) : ∀ n : Nat, DpAll K F ((List.range n).map fun i => V.int (lo + (i : Nat))) (rngD lo n) := fun n => by
  have go : ∀ (n : Nat) (lo : Int), DpAll K F ((List.range n).map fun i => V.int (lo + (i : Nat))) (rngD lo n) := fun n => by
    induction n with
    | zero => exact fun lo => .nil
    | succ n ih =>
      intro lo
      rw [List.range_succ_eq_map, List.map_cons, List.map_map]
      have e : (fun i : Nat => V.int (lo + (i : Nat))) ∘ Nat.succ = fun i : Nat => V.int ((lo + 1) + (i : Nat)) := by
        funext i
        show V.int (lo + ((i + 1 : Nat) : Int)) = _
        congr 1
        omega
      rw [e]
      show DpAll K F (V.int (lo + ((0 : Nat) : Int)) :: _) (.int lo :: rngD (lo + 1) n)
      refine .cons ?_ (ih (lo + 1))
      have z : lo + ((0 : Nat) : Int) = lo := by omega
      rw [z]
      exact .int lo
  exact go n lo
def RgSem (K : PySem.W.Frag) (R : RA) (t : L2.St → Hp → (Int → Int → Hp → Prop) → Prop) (f : Env → M (Int × Int)) : Prop :=
  ∀ (L : Nat → Option (Addr × List V)) (E : Hp) (ρ : Env) (σ : L2.St) (F H : Hp) (rs : RS) (x : Int × Int) (rs' : RS) (Q : Int → Int → Hp → Prop), Rel K R L E F ρ σ rs H → f ρ rs = some (x, rs') →
    (∀ F' H', Step K R rs' F H F' H' → Q x.1 x.2 H') → t σ H Q
structure DRg (X : Cx) (R : RA) (e : Expr) (t : L2.St → Hp → (Int → Int → Hp → Prop) → Prop) (f : Env → M (Int × Int)) : Prop where
  pr : PRg X e t
  sem : RgSem X.K R t f
def rg1F (f : Env → M RV) : Env → M (Int × Int) := fun ρ => bnd (f ρ) fun x => bnd (lft (asInt x)) fun n => ret (0, n)
theorem drg_1 {f : Env → M RV} (hgl : Gl X "range") (hm : X.mg "range" = none) (h : DE X R e te f) (hs : starEach [e] X.env = (false, eval e X.env) :: starEach [] X.env := by rfl) : DRg X R (.Call (.Name "range" p) [e] [] pos) (tRg1 te) (rg1F f) :=
  ⟨prg_1 hgl hm h.pe hs, fun L E ρ σ F H rs x rs' Q r hf k => by
    obtain ⟨v, rs1, e1, hf1⟩ := bnd_some hf
    obtain ⟨n, rs2, e2, hf2⟩ := bnd_some hf1
    obtain ⟨e3, q3⟩ := lft_some e2
    obtain ⟨e4, q4⟩ := ret_some hf2
    subst e4 q4 q3
    exact h.sem L E ρ σ F H rs v _ _ r e1 fun v1 F1 H1 s1 h1 => ⟨n, h1.int e3, k F1 H1 s1⟩⟩
def okRg (a b : Int) : Bool := decide (-1000000 ≤ a) && (decide (a ≤ 1000000) && (decide (-1000000 ≤ b) && decide (b ≤ 1000000)))
theorem okRg_of {a b : Int} (h : okRg a b = true) : RgOk a b := by
  unfold okRg at h
  simp only [Bool.and_eq_true, decide_eq_true_eq] at h
  obtain ⟨h1, h2, h3, h4⟩ := h
  refine ⟨by omega, by omega, by omega, by omega, ?_⟩
  have : (2 : Nat) ^ 24 = 16777216 := by decide
  omega
def eListRg (f : Env → M (Int × Int)) : Env → M RV := fun ρ => bnd (f ρ) fun x => if okRg x.1 x.2 = true then ret (.n (rngD x.1 (x.2 - x.1).toNat)) else fail
def eTupRg (f : Env → M (Int × Int)) : Env → M RV := fun ρ => bnd (f ρ) fun x => if okRg x.1 x.2 = true then ret (.d (.tuple (rngD x.1 (x.2 - x.1).toNat))) else fail
theorem de_listRg {t : L2.St → Hp → (Int → Int → Hp → Prop) → Prop} {f : Env → M (Int × Int)} (hc : X.calm = true) (hgl : Gl X "list") (hm : X.mg "list" = none) (h : DRg X R e t f) (na : starEach [e] X.env = (false, eval e X.env) :: starEach [] X.env := by rfl) : DE X R (.Call (.Name "list" p) [e] [] pos) (tLstRg t) (eListRg f) :=
  ⟨pe_listRg hc hgl hm h.pr na, fun L E ρ σ F H rs x rs' Q r hf k => by
    obtain ⟨v, rs1, e1, hf1⟩ := bnd_some hf
    by_cases hb : okRg v.1 v.2 = true
    · rw [if_pos hb] at hf1
      obtain ⟨e4, q4⟩ := ret_some hf1
      subst e4 q4
      refine h.sem L E ρ σ F H rs v _ _ r e1 fun F1 H1 s1 => ⟨okRg_of hb, fun q hq => ?_⟩
      obtain ⟨s2, hF, hR⟩ := Step.new_lst (vs := rgV v.1 v.2) (r.step s1).refl hq
      exact k _ F1 _ (s1.trans r.row s2) ⟨q, _, rfl, upd_same, s1.back r.row hq, hF, hR, rg_data _ _⟩
    · rw [if_neg hb] at hf1
      cases hf1⟩
end
end DV

namespace L2
open PySem
theorem DpAll.eraseIdx {K : PySem.W.Frag} {F : Hp} (n : Nat) {vs : List V} {ds : List PyData} (h : DpAll K F vs ds) : DpAll K F (vs.eraseIdx n) (ds.eraseIdx n) := by
  rw [List.eraseIdx_eq_take_drop_succ, List.eraseIdx_eq_take_drop_succ]
  exact DpAll.append (h.take n) (h.drop (n + 1))
end L2
namespace DV
open PySem L2 PyProof.Rows
section
variable {X : Cx} {K : PySem.W.Frag} {R : RA} {L : Nat → Option (Addr × List V)} {E F F' H H' : Hp} {ρ ρ' : Env} {σ σ' : L2.St} {rs rs' : RS}
variable {S S' : List Nat} {tg it elt e e2 c : Expr} {es ifs : List Expr} {g : TG} {gs : TGs} {hg : D → Env → Option Env} {hgs : List D → Env → Option Env} {pos p : Pos} {st : Stmt} {body : List Stmt} {tb : TS} {tt : TT} {te t1 t2 : TE} {ta : TA} {wi : TI}
def popIx (es : List D) (n : Int) : Option (Nat × D) := if -1000000 ≤ n ∧ n ≤ 1000000 then (match seqIndex? n es.length with
  | some k => (es[k]?).map fun y => (k, y)
  | none => none) else none
theorem popIx_some {es : List D} {n : Int} {k : Nat} {y : D} (h : popIx es n = some (k, y)) : -(2 ^ 63) ≤ n ∧ n < 2 ^ 63 ∧ seqIndex? n es.length = some k ∧ es[k]? = some y := by
  unfold popIx at h
  by_cases hb : -1000000 ≤ n ∧ n ≤ 1000000
  · rw [if_pos hb] at h
    cases e : seqIndex? n es.length with
    | none => rw [e] at h; cases h
    | some j =>
      simp only [e] at h
      cases e2 : es[j]? with
      | none => rw [e2] at h; cases h
      | some z =>
        rw [e2] at h
        cases h
        exact ⟨by omega, by omega, rfl, e2⟩
  · rw [if_neg hb] at h
    cases h
def sPopApp (i j : Nat) (f : Env → M RV) : Env → M Out := fun ρ => bnd (lft (sApp.own? ρ i)) fun ds => bnd (lft (sApp.own? ρ j)) fun es => bnd (f ρ) fun x => bnd (lft (asInt x)) fun n => bnd (lft (popIx es n)) fun kk =>
  if ds.length < 100000 ∧ i ≠ j then ret (.nx ((ρ.set j (some (.o (es.eraseIdx kk.1)))).set i (some (.o (ds ++ [kk.2]))))) else fail
theorem ssem_popApp {i j : Nat} {f : Env → M RV} (he : ESem K R te f) : SSem K R (tDrop (tBM K "list" rAppend (tVar i) (tCons (tBM K "list" rPopAt (tVar j) (tCons te tNil)) tNil))) (sPopApp i j f) := fun L E F ρ σ rs H o rs' D r hf k => by
  obtain ⟨ds, rs1, e1, hf1⟩ := bnd_some hf
  obtain ⟨e2, q2⟩ := lft_some e1
  subst q2
  obtain ⟨es, rs3, e3, hf3⟩ := bnd_some hf1
  obtain ⟨e4, q4⟩ := lft_some e3
  subst q4
  obtain ⟨x, rs5, e5, hf5⟩ := bnd_some hf3
  obtain ⟨n, rs6, e6, hf6⟩ := bnd_some hf5
  obtain ⟨e7, q7⟩ := lft_some e6
  subst q7
  obtain ⟨⟨kk, y⟩, rs8, e8, hf8⟩ := bnd_some hf6
  obtain ⟨e9, q9⟩ := lft_some e8
  subst q9
  by_cases hl : ds.length < 100000 ∧ i ≠ j
  · rw [if_pos hl] at hf8
    obtain ⟨e10, q10⟩ := ret_some hf8
    subst e10 q10
    have eoi := own_some e2
    have eoj := own_some e4
    obtain ⟨b1, b2, b3, b4⟩ := popIx_some e9
    obtain ⟨v, evi, a, vs, rfl, h1, _⟩ := r.sl i _ eoi
    obtain ⟨v2, evj, b, ws, rfl, g1, _⟩ := r.sl j _ eoj
    refine ⟨_, evi, .inl ⟨rfl, vs, .inl (.inl h1)⟩, ?_⟩
    refine ⟨_, evj, .inl ⟨rfl, ws, .inl (.inl g1)⟩, ?_⟩
    refine he L E ρ σ F H _ x _ _ r e5 fun w F1 H1 s1 hw => ?_
    have hwi := hw.int e7
    subst hwi
    have r1 := r.step s1
    obtain ⟨v', ev', b', ws', eb, k1, k2, k3, k4, k5⟩ := r1.sl j _ eoj
    rw [evj] at ev'
    cases ev'
    cases eb
    obtain ⟨yv, ey, hy⟩ := k5.get b4
    refine ⟨b, ws', n, kk, yv, rfl, rfl, k1, b1, b2, by rw [k5.len]; exact b3, ey, ?_⟩
    have r2 := r1.change eoj evj (DpAll.eraseIdx kk k5)
    have eoi2 : (ρ.set j (some (SV.o (es.eraseIdx kk))))[i]? = some (some (SV.o ds)) := by
      rw [List.getElem?_set_ne (Ne.symm hl.2)]
      exact eoi
    obtain ⟨v3, ev3, a', vs', ea, m1, m2, m3, m4, m5⟩ := r2.sl i _ eoi2
    rw [evi] at ev3
    cases ev3
    cases ea
    refine ⟨a, vs', yv, rfl, rfl, m1, by rw [m5.len]; exact sz_lt hl.1, ?_⟩
    exact k σ F1 _ (FStep.ofStep r s1) (r2.change eoi2 evi (m5.append (.cons hy .nil)))
  · rw [if_neg hl] at hf8
    cases hf8
theorem ds_popApp {i j : Nat} {f : Env → M RV} (he : ESem X.K R te f) (pe : PE X e (tBM X.K "list" rAppend (tVar i) (tCons (tBM X.K "list" rPopAt (tVar j) (tCons te tNil)) tNil))) (hs : swapsWith e none pos.line X.env = pure false := by rfl) :
    DS X R (.Expr e pos) (tDrop (tBM X.K "list" rAppend (tVar i) (tCons (tBM X.K "list" rPopAt (tVar j) (tCons te tNil)) tNil))) (sPopApp i j f) := ⟨ps_expr pe hs, ssem_popApp he⟩
def eIsT2 (T1 T2 : TyT) (f : Env → M RV) : Env → M RV := fun ρ => bnd (f ρ) fun x => bnd (lft (viewD x)) fun d => ret (.d (.bool (isT T1 d || isT T2 d)))
theorem de_isT2 (T1 T2 : TyT) {x1 x2 : Str} {p1 p2 p3 : Pos} {kk : Nat} (hg : Gl X "isinstance") (hm : X.mg "isinstance" = none) (hg1 : Gl X x1) (hm1 : X.mg x1 = none) (hT1 : bootBuiltins x1 = some (.type T1.nm)) (hg2 : Gl X x2) (hm2 : X.mg x2 = none) (hT2 : bootBuiltins x2 = some (.type T2.nm)) (he : DE X R e te f)
    (hn1 : x1 ≠ "__name__" := by decide) (hdb1 : (x1 == ("__debug__" : Str)) = false := by decide) (hn2 : x2 ≠ "__name__" := by decide) (hdb2 : (x2 == ("__debug__" : Str)) = false := by decide)
    (he1 : starEach [e, .Tuple [.Name x1 p1, .Name x2 p2] kk p3] X.env = (false, eval e X.env) :: starEach [.Tuple [.Name x1 p1, .Name x2 p2] kk p3] X.env := by rfl) (he2 : starEach [.Tuple [.Name x1 p1, .Name x2 p2] kk p3] X.env = (false, eval (.Tuple [.Name x1 p1, .Name x2 p2] kk p3) X.env) :: starEach [] X.env := by rfl) (hpl : (backTo pos (starEach [.Tuple [.Name x1 p1, .Name x2 p2] kk p3] X.env)).any (·.1) = false := by rfl)
    (hi1 : starEach [.Name x1 p1, .Name x2 p2] X.env = (false, eval (.Name x1 p1) X.env) :: starEach [.Name x2 p2] X.env := by rfl) (hi2 : starEach [.Name x2 p2] X.env = (false, eval (.Name x2 p2) X.env) :: starEach [] X.env := by rfl) :
    DE X R (.Call (.Name "isinstance" p) [e, .Tuple [.Name x1 p1, .Name x2 p2] kk p3] [] pos) (tCB (rIsiT X.K) (tCons te (tCons (tTup (tCons (tC (.ty T1.nm)) (tCons (tC (.ty T2.nm)) tNil))) tNil))) (eIsT2 T1 T2 f) :=
  ⟨pe_callB call_isiT hg hm PyProof.Rows.boot_isinstance (pa_cons he.pe (pa_cons (pe_tup (pa_cons (pe_bltn hg1 hm1 hT1 rfl hn1 hdb1) (pa_cons (pe_bltn hg2 hm2 hT2 rfl hn2 hdb2) pa_nil hi2) hi1)) pa_nil he2) he1) (by decide) (by decide) he1 hpl, fun L E ρ σ F H rs z rs' Q r hf k => by
    obtain ⟨v, rs1, e1, hf1⟩ := bnd_some hf
    obtain ⟨d, rs2, e2, hf2⟩ := bnd_some hf1
    obtain ⟨e3, q3⟩ := lft_some e2
    obtain ⟨e4, q4⟩ := ret_some hf2
    subst e4 q4 q3
    refine he.sem L E ρ σ F H rs v _ _ r e1 fun v1 F1 H1 s1 h1 => ?_
    refine ⟨by show 2 ≤ sizeLine; exact sz_of (by decide), fun tp htp => ?_⟩
    have s2 := Step.new_tup (vs := [.ty T1.nm, .ty T2.nm]) (r.step s1).refl htp
    have h2 := h1.step s2
    refine ⟨v1, tp, [.ty T1.nm, .ty T2.nm], .type (tyD d), [.type T1.nm, .type T2.nm], _, rfl, upd_same, .cons (.ty _) (.cons (.ty _) .nil), dptyx (h2.view ((r.step s1).step s2).refl e3), ?_, k _ _ _ (s1.trans r.row s2) (.bl _)⟩
    refine kitAny_cons (kit_ty (kit_isT T1 d)) (fun q1 => ?_) (fun q1 => by rw [q1]; rfl)
    rw [q1]
    refine kitAny_cons (kit_ty (kit_isT T2 d)) (fun q2 => ?_) (fun q2 => by rw [q2]; rfl)
    rw [q2]
    exact kitAny_nil⟩
end
end DV

namespace DV
open PySem L2 PyProof.Rows PySem.W
section
variable {X : Cx} {K : PySem.W.Frag} {R : RA} {L : Nat → Option (Addr × List V)} {E F F' H H' : Hp} {ρ ρ' : Env} {σ σ' : L2.St} {rs rs' : RS}
variable {S S' : List Nat} {tg it elt e e2 c : Expr} {es ifs : List Expr} {g : TG} {gs : TGs} {hg : D → Env → Option Env} {hgs : List D → Env → Option Env} {pos p : Pos} {st : Stmt} {body : List Stmt} {tb : TS} {tt : TT} {te t1 t2 : TE} {ta : TA} {wi : TI}
def alikeB (ds : List D) : Bool := ds.all (fun x => ds.all (alike x)) && (ds.all (fun x => !isNoneD x) && decide (PyData.depthAll ds ≤ 60))
theorem alikeB_of {ds : List D} (h : alikeB ds = true) : AlikeAll ds ∧ PyData.depthAll ds ≤ 60 := by
  unfold alikeB at h
  simp only [Bool.and_eq_true, decide_eq_true_eq, List.all_eq_true] at h
  obtain ⟨h1, h2, h3⟩ := h
  refine ⟨⟨fun x hx y hy => h1 x hx y hy, fun x hx e => ?_⟩, h3⟩
  have := h2 x hx
  rw [e] at this
  cases this
theorem foldl_pick (f : D → D → Bool) : ∀ (xs : List D) (x : D), xs.foldl (fun a y => if f a y = true then y else a) x ∈ x :: xs
  | [], x => List.mem_cons_self
  | y :: ys, x => by
    rw [List.foldl_cons]
    have q := foldl_pick f ys (if f x y = true then y else x)
    rcases List.mem_cons.mp q with z | z
    · rw [z]
      by_cases hb : f x y = true
      · rw [if_pos hb]; exact List.mem_cons_of_mem _ List.mem_cons_self
      · rw [if_neg hb]; exact List.mem_cons_self
    · exact List.mem_cons_of_mem _ (List.mem_cons_of_mem _ z)
theorem minD_mem (x : D) (xs : List D) : minD x xs ∈ x :: xs := foldl_pick (fun a y => dataLt y a) xs x
theorem maxD_mem (x : D) (xs : List D) : maxD x xs ∈ x :: xs := foldl_pick (fun a y => dataLt a y) xs x
def rBest (K : PySem.W.Frag) (m : D → List D → D) : List V → Hp → VK → Prop := fun vs H Q => ∃ (a : Addr) (ys : List V) (x : D) (xs : List D), vs = [V.ref a] ∧ (SqL K H a ys ∨ SqT K H a ys) ∧ DpAll K H ys (x :: xs) ∧ alikeB (x :: xs) = true ∧
  ∀ (i : Nat) (u : V), ys[i]? = some u → (x :: xs)[i]? = some (m x xs) → Q u H
theorem ReadsAll_get {h : Heap} : ∀ {vs : List Value} {xs : List PyData} {as : List Addr}, ReadsAll h vs xs as → ∀ (i : Nat) (v : Value), vs[i]? = some v → ∃ d bs, xs[i]? = some d ∧ Reads h v d bs
  | _, _, _, .nil, _, _, hv => by simp at hv
  | _, _, _, .cons r rs, 0, v, hv => by
    simp at hv; subst hv
    exact ⟨_, _, rfl, r⟩
  | _, _, _, .cons r rs, i + 1, v, hv => by
    obtain ⟨d, bs, a, b⟩ := ReadsAll_get rs i v (by simpa using hv)
    exact ⟨d, bs, by simpa using a, b⟩
theorem Vals_get : ∀ {ys : List V} {us : List Value}, Vals ys us → ∀ (i : Nat) (u : Value), us[i]? = some u → ∃ y, ys[i]? = some y ∧ RelV y u
  | _, _, .nil, _, _, h => by simp at h
  | _, _, .cons r t, 0, u, h => by
    simp at h; subst h
    exact ⟨_, rfl, r⟩
  | _, _, .cons r t, i + 1, u, h => by
    obtain ⟨y, a, b⟩ := Vals_get t i u (by simpa using h)
    exact ⟨y, by simpa using a, b⟩
theorem best_fin {X : Cx} {pins : List (Addr × Obj)} {s : Shared} {σ : L2.St} {H : Hp} {Q : VK} (I : Inv X pins σ H s) {ys : List V} {x z : D} {xs : List D} {its : List Value} {as : List Addr} (rv : Vals ys its) (hr : ReadsAll s.heap its (x :: xs) as) (ha : AlikeAll (x :: xs)) (hz : z ∈ x :: xs)
    (q : ∀ (i : Nat) (u : V), ys[i]? = some u → (x :: xs)[i]? = some z → Q u H) (i : Nat) (v : Value) (h' : Heap) (tk : Nat) (bs : List Addr) (hv : its.toArray[i]? = some v) (hrd : Reads h' v z bs) (k : ∀ b o, s.heap.get? b = some o → h'.get? b = some o) :
    EP X pins σ Q v { s with heap := h', toks := tk } := by
  rw [List.getElem?_toArray] at hv
  obtain ⟨d, cs, e1, r1⟩ := ReadsAll_get hr i v hv
  obtain ⟨u, e2, r2⟩ := Vals_get rv i v hv
  have hd : d ∈ x :: xs := List.mem_of_getElem? e1
  have e3 := alike_unique d z v cs bs (ha.1 d hd z hz) (reads_keeps k r1) hrd
  subst e3
  exact ⟨u, H, I.kept k, r2, q i u e2 e1⟩
theorem cr_minA (hc : X.calm = true) (hu : X.A.units + 65 < cLine) : CallR X (.builtin "min") (rBest X.K minD) := by
  intro pins s σ H vs us Q I r h
  obtain ⟨a, ys, x, xs, rfl, hs, hd, hal, q⟩ := h
  obtain ⟨ha, hdp⟩ := alikeB_of hal
  rw [Vals.ref1 r]
  rcases hs with hs | hs
  · obtain ⟨its, rv, hl, hz⟩ := I.list hs
    obtain ⟨as, hr⟩ := Dp.readsAll I _ ys its hd rv
    exact min_list_data (x := x) (xs := xs) (I.ok.hd hc) hl.isList (by simpa using hr) ha (by omega) fun i v h' tk bs hv hrd k => best_fin I rv hr ha (minD_mem x xs) q i v h' tk bs hv hrd k
  · obtain ⟨its, rv, hl, hz⟩ := I.tuple hs
    obtain ⟨as, hr⟩ := Dp.readsAll I _ ys its hd rv
    exact min_tuple_data (x := x) (xs := xs) (I.ok.hd hc) hl (by simpa using hr) ha (by omega) fun i v h' tk bs hv hrd k => best_fin I rv hr ha (minD_mem x xs) q i v h' tk bs hv hrd k
theorem cr_maxA (hc : X.calm = true) (hu : X.A.units + 65 < cLine) : CallR X (.builtin "max") (rBest X.K maxD) := by
  intro pins s σ H vs us Q I r h
  obtain ⟨a, ys, x, xs, rfl, hs, hd, hal, q⟩ := h
  obtain ⟨ha, hdp⟩ := alikeB_of hal
  rw [Vals.ref1 r]
  rcases hs with hs | hs
  · obtain ⟨its, rv, hl, hz⟩ := I.list hs
    obtain ⟨as, hr⟩ := Dp.readsAll I _ ys its hd rv
    exact max_list_data (x := x) (xs := xs) (I.ok.hd hc) hl.isList (by simpa using hr) ha (by omega) fun i v h' tk bs hv hrd k => best_fin I rv hr ha (maxD_mem x xs) q i v h' tk bs hv hrd k
  · obtain ⟨its, rv, hl, hz⟩ := I.tuple hs
    obtain ⟨as, hr⟩ := Dp.readsAll I _ ys its hd rv
    exact max_tuple_data (x := x) (xs := xs) (I.ok.hd hc) hl (by simpa using hr) ha (by omega) fun i v h' tk bs hv hrd k => best_fin I rv hr ha (maxD_mem x xs) q i v h' tk bs hv hrd k
def gBest (m : D → List D → D) : List RV → Option RV := c1 fun x => match items x with
  | some (y :: ys) => if alikeB (y :: ys) = true then some (.d (m y ys)) else none
  | _ => none
theorem csem_best {m : D → List D → D} : CSem K R (rBest K m) (gBest m) := fun F H0 H rs vs xs z Q s hv e kk => by
  obtain ⟨x, rfl, ee⟩ := c1_some e
  clear e
  have e := ee
  clear ee
  obtain ⟨v, rfl, hx⟩ := hv.one
  cases e1 : items x with
  | none => rw [e1] at e; cases e
  | some ds =>
    cases ds with
    | nil => rw [e1] at e; cases e
    | cons y ys =>
      simp only [e1] at e
      by_cases hal : alikeB (y :: ys) = true
      · rw [if_pos hal] at e
        cases e
        obtain ⟨a, ws, rfl, h1, h2⟩ := hx.items s e1
        refine ⟨a, ws, y, ys, rfl, h1, Dp.monoA s.fin _ _ h2, hal, fun i u hi hj => ?_⟩
        obtain ⟨u', eu, hu⟩ := h2.get hj
        rw [hi] at eu
        cases eu
        exact kk _ F H s hu
      · rw [if_neg hal] at e
        cases e
end
end DV

namespace DV
open PySem L2 PyProof.Rows
section
variable {X : Cx} {K : PySem.W.Frag} {R : RA} {L : Nat → Option (Addr × List V)} {E F F' H H' : Hp} {ρ ρ' : Env} {σ σ' : L2.St} {rs rs' : RS}
variable {S S' : List Nat} {tg it elt e e2 c : Expr} {es ifs : List Expr} {g : TG} {gs : TGs} {hg : D → Env → Option Env} {hgs : List D → Env → Option Env} {pos p : Pos} {st : Stmt} {body : List Stmt} {tb : TS} {tt : TT} {te t1 t2 : TE} {ta : TA} {wi : TI}
/-- the lists of one's own stand already in H -/
def OwnOld (H : Hp) (ρ : Env) (σ : L2.St) : Prop := ∀ (m : Nat) (y : SV) (a : Addr), ρ[m]? = some (some y) → y.ow → σ[m]? = some (some (V.ref a)) → H a ≠ none
theorem Rel.known (r : Rel K R L E F ρ σ rs H) : OwnOld H ρ σ := fun m y a e1 oy e2 => by
  obtain ⟨u, h1, _⟩ := r.own_at e1 oy e2
  rw [h1]
  exact fun q => nomatch q
theorem OwnOld.step (k : OwnOld H ρ σ) (s : Step K R rs' F H F' H') (r : RowOk K R rs F H) : OwnOld H' ρ σ := fun m es a e1 oy e2 q => k m es a e1 oy e2 (s.back r q)
theorem OwnOld.set {H0 : Hp} {F1 : Hp} (k : OwnOld H ρ σ) (hl : ρ.length = σ.length) {v : V} {x : RV} {sv : SV} (hv : VR K R F1 H0 H v x) (e : toS x = some sv) (i : Nat) : OwnOld H (ρ.set i (some sv)) (σ.set i (some v)) := fun m es a e1 oy e2 => by
  by_cases hm : m = i
  · subst hm
    have h1 : m < ρ.length := by
      have := (List.getElem?_eq_some_iff.mp e1).1
      rw [List.length_set] at this
      exact this
    rw [List.getElem?_set_self h1] at e1
    rw [List.getElem?_set_self (by rw [← hl]; exact h1)] at e2
    have q1 := Option.some.inj (Option.some.inj e1)
    have q2 := Option.some.inj (Option.some.inj e2)
    subst q1 q2
    cases x with
    | d y => cases e; cases oy
    | n y =>
      obtain ⟨b, vs, eb, hb, _⟩ := hv
      cases eb
      rw [hb]
      exact fun q => nomatch q
    | gn y =>
      obtain ⟨b, vs, eb, hb, _⟩ := hv
      cases eb
      rw [hb]
      exact fun q => nomatch q
    | b y => cases e
    | gb y => cases e
    | row => cases e
  · rw [List.getElem?_set_ne (Ne.symm hm)] at e1 e2
    exact k m es a e1 oy e2
/-- a new thing is none of the known ones -/
theorem OwnOld.apart (k : OwnOld H ρ σ) {H1 : Hp} {v : V} {i : Nat} (a : Addr) (u : HO) (_ : v = .ref a) (_ : H1 a = some u) (h0 : H a = none) (j : Nat) (y : SV) (_ : j ≠ i) (e1 : ρ[j]? = some (some y)) (oy : y.ow) (e2 : σ[j]? = some (some (V.ref a))) : False := k j y a e1 oy e2 h0
def sPar3 (i j l : Nat) (fa : Env → M (List RV)) : Env → M Out := fun ρ => bnd (fa ρ) fun xs => match xs with
  | [x, y, z] => bnd (lft (toS x)) fun sx => bnd (lft (toS y)) fun sy => bnd (lft (toS z)) fun sz => ret (.nx (((ρ.set i (some sx)).set j (some sy)).set l (some sz)))
  | _ => fail
end
end DV

namespace DV
open PySem L2 PyProof.Rows
def ddI : List Int → List Int
  | [] => []
  | x :: r => if r.elem x = true then ddI r else x :: ddI r
theorem mem_ddI (k : Int) : ∀ l : List Int, k ∈ ddI l ↔ k ∈ l
  | [] => Iff.rfl
  | x :: r => by
    unfold ddI
    by_cases h : r.elem x = true
    · rw [if_pos h, mem_ddI k r, List.mem_cons]
      have hx : x ∈ r := List.elem_iff.mp h
      exact ⟨.inr, fun q => q.elim (fun e => e ▸ hx) id⟩
    · rw [if_neg h, List.mem_cons, mem_ddI k r, List.mem_cons]
theorem ddI_nodup : ∀ l : List Int, (ddI l).Nodup
  | [] => .nil
  | x :: r => by
    unfold ddI
    by_cases h : r.elem x = true
    · rw [if_pos h]; exact ddI_nodup r
    · rw [if_neg h]
      exact List.nodup_cons.mpr ⟨fun q => h (List.elem_iff.mpr ((mem_ddI x r).mp q)), ddI_nodup r⟩
theorem ddI_of_nodup : ∀ l : List Int, l.Nodup → ddI l = l
  | [], _ => rfl
  | x :: r, h => by
    obtain ⟨h1, h2⟩ := List.nodup_cons.mp h
    unfold ddI
    rw [if_neg (fun q => h1 (List.elem_iff.mp q)), ddI_of_nodup r h2]
theorem same_len {xs ys : List Int} (h1 : xs.Nodup) (h2 : ys.Nodup) (h : ∀ k, k ∈ xs ↔ k ∈ ys) : xs.length = ys.length :=
  ((List.perm_ext_iff_of_nodup h1 h2).mpr h).length_eq
section
variable {X : Cx} {K : PySem.W.Frag} {R : RA}
def tLenSetA (K : PySem.W.Frag) (ta : TE) : TE := fun σ H Q => ta σ H fun x H1 => ∃ (l : Addr) (ns : List Int), x = .ref l ∧ ((SqL K H1 l (ns.map V.int) ∧ ns.Nodup) ∨ SqT K H1 l (ns.map V.int)) ∧ ns.length ≤ 1000 ∧ Q (.int ((ddI ns).length : Nat)) H1
theorem pe_lenSetA {a : Expr} {ta : TE} {p p2 q pos : Pos} (hc : X.calm = true) (hg : Gl X "len") (hm : X.mg "len" = none) (hg2 : Gl X "set") (hm2 : X.mg "set" = none) (ha : PE X a ta)
    (na : starEach [a] X.env = (false, eval a X.env) :: starEach [] X.env := by rfl) : PE X (.Call (.Name "len" p) [.Call (.Name "set" p2) [a] [] q] [] pos) (tLenSetA X.K ta) := by
  refine ⟨fun pins s σ H Q I h => ?_⟩
  refine Call_ (ld_blt I hg hm boot_len ?_)
  refine PyProof.Rows.callWith_builtin1 (PyProof.Rows.args_cons ?_ rfl) rfl rfl
  refine Call_ (ld_blt I hg2 hm2 PyProof.Rows.boot_set ?_)
  refine PyProof.Rows.callWith_type1 (PyProof.Rows.args_cons (thn (ha.run pins s σ H _ I h) fun v s1 ⟨x, H1, I1, r1, q1⟩ => PyProof.Rows.args_nil ?_) na) na rfl
  obtain ⟨l, ns, rfl, hq, hb, q1⟩ := q1
  cases r1
  rcases hq with ⟨hq, hnd⟩ | hq
  · obtain ⟨its, rv, pl, hz⟩ := I1.list hq
    have hlen : its.toArray.size = ns.length := by rw [List.size_toArray, ← rv.length, List.length_map]
    have hi : IntsAre its.toArray.toList ns := rv.ints
    refine call_set_list (I1.ok.hd hc) pl.isList hi (by rw [hlen]; unfold scanBound; omega) fun h' tk hS hk => ?_
    refine PyProof.Rows.args_nil ?_
    rw [hlen, RZ.firstMet_nodup hnd ns.length (Nat.le_refl _), List.take_length] at hS
    rw [ddI_of_nodup ns hnd] at q1
    obtain ⟨o, es, ep, t, ho, hex, hd, _, _, _, hf, hn⟩ := hS
    have I2 : Inv X pins σ H1 { s1 with heap := h', toks := tk } := I1.kept fun b o e => hk b o (Heap.lt_size e) e
    exact call_len_set ho hex hd hf (by rw [hn]; omega) ⟨.int ns.length, H1, I2.tok _, ⟨_, by rw [hn]⟩, q1⟩
  · obtain ⟨its, rv, pt, hz⟩ := I1.tuple hq
    have hi : IntsAre its.toArray.toList ns := rv.ints
    refine call_set_tupI ns (I1.ok.hd hc) (show s1.heap.IsTuple l its.toArray from pt) hi (by unfold scanBound; omega) fun h' tk c hR hcn hk => ?_
    refine PyProof.Rows.args_nil ?_
    obtain ⟨o, es, ep, t, ho, hex, hd, g, nd, hm2, hb2, hf, hn, hr, hl2⟩ := hR
    have hsz : es.size = (ddI ns).length := by
      have e := same_len nd (ddI_nodup ns) fun k => by
        rw [mem_ddI, ← hm2 k, decide_eq_true_eq]
      rw [List.length_map, Array.length_toList] at e
      exact e
    have I2 : Inv X pins σ H1 { s1 with heap := h', toks := tk } := I1.kept hk
    exact call_len_set ho hex hd hf (by rw [hn]; omega) ⟨.int (ddI ns).length, H1, I2.tok _, ⟨_, by rw [hsz]⟩, q1⟩
def lenSetOf : RV → Option D
  | .d (.tuple ds) => match intsOf ds with
    | some js => if js.length ≤ 1000 then some (.int ((ddI js).length : Nat)) else none
    | none => none
  | x => match items x with
    | some ds => match intsOf ds with
      | some js => if js.length ≤ 1000 ∧ js.Nodup then some (.int ((ddI js).length : Nat)) else none
      | none => none
    | none => none
theorem VR.isL {F H0 H : Hp} {rs : RS} {v : V} {x : RV} {ds : List D} (s : Step K R rs F H F H) (h : VR K R F H0 H v x) (e : DV.items x = some ds) (hx : ∀ es, x ≠ .d (.tuple es)) : ∃ a vs, v = .ref a ∧ SqL K H a vs ∧ DpAll K F vs ds := by
  cases x with
  | d x =>
    cases x with
    | list es =>
      cases e
      cases h with
      | lst h1 h2 => exact ⟨_, _, rfl, ex_l (s.fin _) h1, h2⟩
    | tuple es => exact absurd rfl (hx es)
    | none => cases e
    | bool _ => cases e
    | int _ => cases e
    | str _ => cases e
    | dict _ => cases e
  | b es =>
    cases e
    obtain ⟨a, vs, rfl, h1, _, h3⟩ := h
    exact ⟨a, vs, rfl, .inl (.inl h1), h3⟩
  | n es =>
    cases e
    obtain ⟨a, vs, rfl, h1, _, _, _, h3⟩ := h
    exact ⟨a, vs, rfl, .inl (.inl h1), h3⟩
  | gb _ => cases e
  | gn _ => cases e
  | row => cases e
theorem VR.isTup {F H0 H : Hp} {rs : RS} {v : V} {ds : List D} (s : Step K R rs F H F H) (h : VR K R F H0 H v (.d (.tuple ds))) : ∃ a vs, v = .ref a ∧ SqT K H a vs ∧ DpAll K F vs ds := by
  cases h with
  | tup h1 h2 => exact ⟨_, _, rfl, ex_t (s.fin _) h1, h2⟩
def eLenSet (f : Env → M RV) : Env → M RV := fun ρ => bnd (f ρ) fun x => bnd (lft (lenSetOf x)) fun d => ret (.d d)
theorem de_lenSet {a : Expr} {ta : TE} {f : Env → M RV} {p p2 q pos : Pos} (hc : X.calm = true) (hg : Gl X "len") (hm : X.mg "len" = none) (hg2 : Gl X "set") (hm2 : X.mg "set" = none) (ha : DE X R a ta f)
    (na : starEach [a] X.env = (false, eval a X.env) :: starEach [] X.env := by rfl) : DE X R (.Call (.Name "len" p) [.Call (.Name "set" p2) [a] [] q] [] pos) (tLenSetA X.K ta) (eLenSet f) := ⟨pe_lenSetA hc hg hm hg2 hm2 ha.pe na, fun L E ρ σ F H rs x rs' Q r hf k => by
  obtain ⟨x1, rs1, e1, hf1⟩ := bnd_some hf
  obtain ⟨d, rs2, e2, hf2⟩ := bnd_some hf1
  obtain ⟨e3, q3⟩ := lft_some e2
  obtain ⟨e4, q4⟩ := ret_some hf2
  subst e4 q4 q3
  refine ha.sem L E ρ σ F H rs x1 _ _ r e1 fun v F1 H1 s1 h1 => ?_
  have rf := (r.step s1).refl
  have oth : (∀ es, x1 ≠ .d (.tuple es)) → (match items x1 with
    | some ds => match intsOf ds with
      | some js => if js.length ≤ 1000 ∧ js.Nodup then some (PyData.int ((ddI js).length : Nat)) else none
      | none => none
    | none => none) = some d → ∃ (l : Addr) (ns : List Int), v = .ref l ∧ ((SqL X.K H1 l (ns.map V.int) ∧ ns.Nodup) ∨ SqT X.K H1 l (ns.map V.int)) ∧ ns.length ≤ 1000 ∧ Q (.int ((ddI ns).length : Nat)) H1 := fun hx q => by
    cases e5 : items x1 with
    | none => rw [e5] at q; cases q
    | some ds =>
      simp only [e5] at q
      cases e6 : intsOf ds with
      | none => rw [e6] at q; cases q
      | some js =>
        simp only [e6] at q
        by_cases hb : js.length ≤ 1000 ∧ js.Nodup
        · rw [if_pos hb] at q
          cases q
          obtain ⟨a, ws, rfl, g1, g2⟩ := VR.isL rf h1 e5 hx
          have hw := g2.intsV e6
          subst hw
          exact ⟨a, js, rfl, .inl ⟨g1, hb.2⟩, hb.1, k _ F1 H1 s1 (Dp.int _)⟩
        · rw [if_neg hb] at q
          cases q
  cases x1 with
  | d y =>
    cases y with
    | tuple ds =>
      unfold lenSetOf at e3
      cases e6 : intsOf ds with
      | none => simp only [e6] at e3; cases e3
      | some js =>
        simp only [e6] at e3
        by_cases hb : js.length ≤ 1000
        · rw [if_pos hb] at e3
          cases e3
          obtain ⟨a, ws, rfl, g1, g2⟩ := VR.isTup rf h1
          have hw := g2.intsV e6
          subst hw
          exact ⟨a, js, rfl, .inr g1, hb, k _ F1 H1 s1 (Dp.int _)⟩
        · rw [if_neg hb] at e3
          cases e3
    | list ds => exact oth (fun es q => nomatch q) e3
    | none => exact oth (fun es q => nomatch q) e3
    | bool _ => exact oth (fun es q => nomatch q) e3
    | int _ => exact oth (fun es q => nomatch q) e3
    | str _ => exact oth (fun es q => nomatch q) e3
    | dict _ => exact oth (fun es q => nomatch q) e3
  | b ds => exact oth (fun es q => nomatch q) e3
  | n ds => exact oth (fun es q => nomatch q) e3
  | gb _ => exact oth (fun es q => nomatch q) e3
  | gn _ => exact oth (fun es q => nomatch q) e3
  | row => exact oth (fun es q => nomatch q) e3⟩
end
end DV

namespace DV
open PySem L2 PyProof.Rows
section
variable {X : Cx} {K : PySem.W.Frag} {R : RA}
def sortSetOf : RV → Option (List Int)
  | .d (.tuple ds) => match intsOf ds with
    | some js => if js.length < 64 then some (sortI (ddI js)) else none
    | none => none
  | _ => none
def eSortSet (f : Env → M RV) : Env → M RV := fun ρ => bnd (f ρ) fun x => bnd (lft (sortSetOf x)) fun js => ret (.n (js.map PyData.int))
end
end DV

namespace DV
open PySem L2 PyProof.Rows
section
variable {X : Cx} {K : PySem.W.Frag} {R : RA} {L : Nat → Option (Addr × List V)} {E F F' H H' : Hp} {ρ ρ' : Env} {σ σ' : L2.St} {rs rs' : RS}
variable {S S' : List Nat} {tg it elt e e2 c : Expr} {es ifs : List Expr} {g : TG} {gs : TGs} {hg : D → Env → Option Env} {hgs : List D → Env → Option Env} {pos p : Pos} {st : Stmt} {body : List Stmt} {tb : TS} {tt : TT} {te t1 t2 : TE} {ta : TA} {wi : TI}
theorem rs_sub : RSem K R (rI0 fun i j => .int (i - j)) gSubI := rsem_I0 fun F i j => .int _
theorem rs_fdiv : RSem K R (rI CDiv fun i j => .int (i / j)) gFdiv := rsem_I cDiv_ok fun F i j => .int _
theorem rs_mod : RSem K R (rI (fun _ j => 0 < j) fun i j => .int (i % j)) gMod := rsem_I (fun i j h => of_decide_eq_true h) fun F i j => .int _
theorem rs_pow : RSem K R (rI CPow fun i j => .int (i ^ j.toNat)) gPow := rsem_I cPow_ok fun F i j => .int _
theorem rs_lt : RSem K R (rI0 fun i j => .bl (decide (i < j))) gLt := rsem_I0 fun F i j => .bl _
theorem rs_le : RSem K R (rI0 fun i j => .bl (decide (i ≤ j))) gLe := rsem_I0 fun F i j => .bl _
theorem rs_gt : RSem K R (rI0 fun i j => .bl (decide (j < i))) gGt := rsem_I0 fun F i j => .bl _
theorem rs_ge : RSem K R (rI0 fun i j => .bl (decide (j ≤ i))) gGe := rsem_I0 fun F i j => .bl _
abbrev gIs := gIsN false
abbrev gIsNot := gIsN true
theorem rm65 {k : Nat} {A : Around} (r : Room k A) : A.units + 65 < cLine := by have := r.un; omega
theorem rm64 {k : Nat} {A : Around} (r : Room k A) : A.units + 64 < cLine := r.units
/-- a def that may be called -/
def Cal (P : Program) (w : World) (K : PySem.W.Frag) (mg : Str → Option Value) (base : Heap) (x : Str) (k : Nat) (ps : List Str) (np : Nat) (m : List RV → M RV) : Prop :=
  ∃ (f : Addr) (fd : FuncData), FnOk P w K mg base CX0 k f fd ps (spFn K np m) ∧ mg x = some (.ref f) ∧ PySem.W.keepIn K (.ref f) = true ∧ Binds K fd ps []
theorem de_call {k : Nat} {ps : List Str} {np : Nat} {m : List RV → M RV} {x : Str} {fa : Env → M (List RV)} {k' : Nat} (C : Cal X.prog X.w X.K X.mg X.base x k ps np m) (hr : Room k' X.A) (hk' : k ≤ k') (hgl : Gl X x) (ha : DA X R (e :: es) ta fa)
    (hdb : (x == ("__debug__" : Str)) = false := by decide) (he : starEach (e :: es) X.env = (false, eval e X.env) :: starEach es X.env := by rfl) (hpl : (backTo pos (starEach es X.env)).any (·.1) = false := by rfl) :
    DE X R (.Call (.Name x p) (e :: es) [] pos) (tCall (spFn X.K np m) [] E0 ta) (eFn (fun xs => if xs.length = np then m xs else fail) fa) := by
  obtain ⟨f, fd, h1, h2, h3, h4⟩ := C
  exact de_fn h1 hr hk' hgl h2 h3 h4 ha hdb he hpl
theorem de_gI {x : Str} {i : Int} (hg : Gl X x) (hm : ∃ tk, X.mg x = some (.int i tk)) (hd : (x == ("__debug__" : Str)) = false := by decide) : DE X R (.Name x pos) (tC (.int i)) (eC (.int i)) := by
  obtain ⟨tk, h⟩ := hm
  exact de_globI hg h hd
theorem fn_none {P : Program} {w : World} {mg : Str → Option Value} {base : Heap} {k : Nat} {f : Addr} {fd : FuncData} {ps : List Str} {np : Nat} : FnOk P w K mg base CX0 k f fd ps (spFn K np fun _ => fail) := by
  have no : ∀ vs H Q E, ¬ spFn K np (fun _ => fail) vs H Q E := fun vs H Q E h => by
    obtain ⟨R, F, rs, xs, x, rs', _, _, _, e, _⟩ := h
    cases e
  exact ⟨fun vs H Q E h => absurd h (no vs H Q E), fun A outer s H args us vs Q E _ _ _ _ h => absurd h (no vs H Q E)⟩
theorem Step.new_o {o : HO} {q : Addr} (s : Step K R rs F H F H) (hp : H q = none) : Step K R rs F H F (upd H q o) := by
  have hr : some q ≠ R.row := fun z => by
    obtain ⟨a, e, _⟩ := s.row.at_ q z.symm
    rw [hp] at e; cases e
  refine ⟨fun a u h _ _ => by rw [upd_ne (ne_of_none h hp)]; exact h, fun _ _ h => h, fun _ _ h => .inl h, fun a u h => by rw [upd_ne (ne_of_none (s.fin a u h) hp)]; exact s.fin a u h, ⟨fun r e => ?_, tabs_upd s.row.tab (.inl hp), s.row.fnt⟩, s.rF⟩
  obtain ⟨a, e1, h1, h3⟩ := s.row.at_ r e
  exact ⟨a, by rw [upd_ne (ne_of_none e1 hp)]; exact e1, h1, h3⟩
theorem ds_tup2L {i j : Nat} {x y : Str} {a b : Expr} {fa fb : Env → M RV} {tA tB : TE} {px py pt : Pos} {kt k2 pt2} (hc : X.calm = true) (hN : X.N.Nodup) (hi : X.N[i]? = some x) (hj : X.N[j]? = some y)
    (hx : Loc X.env.scope x) (hy : Loc X.env.scope y) (ha : DE X R a tA fa) (hb : DE X R b tB fb)
    (hw : swappedStores [.Tuple [.Name x px, .Name y py] kt pt] (.Tuple [a, b] k2 pt2) X.env = pure none) (hs : swapsWithSole [.Tuple [.Name x px, .Name y py] kt pt] (.Tuple [a, b] k2 pt2) pos.line X.env = pure false := by rfl)
    (hq1 : starEach [a, b] X.env = (false, eval a X.env) :: starEach [b] X.env := by rfl) (hq2 : starEach [b] X.env = (false, eval b X.env) :: starEach [] X.env := by rfl)
    (hfx : X.fn x = true ∨ X.env.scope.names.lookup x = some .local := by first | exact .inl rfl | exact .inr rfl) (hfy : X.fn y = true ∨ X.env.scope.names.lookup y = some .local := by first | exact .inl rfl | exact .inr rfl)
    (hn : (assignEach [.Name x px, .Name y py] X.env).length = 2 := by rfl) (hst : (assignEach [.Name x px, .Name y py] X.env).findIdx? (·.1) = none := by rfl)
    (hs1 : (assignEach [.Name x px, .Name y py] X.env).map (·.2) = assign (.Name x px) X.env :: (assignEach [.Name y py] X.env).map (·.2) := by rfl) (hs2 : (assignEach [.Name y py] X.env).map (·.2) = assign (.Name y py) X.env :: (assignEach [] X.env).map (·.2) := by rfl)
    (h1 : (assignEach [.Tuple [.Name x px, .Name y py] kt pt] X.env).map (·.2) = [assign (.Tuple [.Name x px, .Name y py] kt pt) X.env] := by rfl) :
    DS X R (.Assign [.Tuple [.Name x px, .Name y py] kt pt] (.Tuple [a, b] k2 pt2) pos) (tAsg (tTup (tCons tA (tCons tB tNil))) (gTup X.K 2 (gCons (gName i) (gCons (gName j) gNil)))) (sPar i j (aCons fa (aCons fb aNil))) :=
  ⟨ps_asg (pe_tup (pa_cons ha.pe (pa_cons hb.pe pa_nil hq2) hq1)) (pg_tup hc (pgs_cons (pg_name hN hi hx hfx) (pgs_cons (pg_name hN hj hy hfy) pgs_nil hs2) hs1) hn hst) hs hw h1, fun L E F ρ σ rs H o rs' D r hf k => by
    obtain ⟨xs, rs1, e1, hf1⟩ := bnd_some hf
    obtain ⟨x1, rs2, e2, hf2⟩ := bnd_some e1
    obtain ⟨ys, rs3, e3, hf3⟩ := bnd_some hf2
    obtain ⟨x2, rs4, e4, hf4⟩ := bnd_some e3
    obtain ⟨zs, rs5, e5, hf5⟩ := bnd_some hf4
    obtain ⟨e6, q6⟩ := ret_some e5
    obtain ⟨e7, q7⟩ := ret_some hf5
    obtain ⟨e8, q8⟩ := ret_some hf3
    subst e6 q6 e7 q7 e8 q8
    obtain ⟨sx, rs6, e9, hf6⟩ := bnd_some hf1
    obtain ⟨e10, q10⟩ := lft_some e9
    obtain ⟨sy, rs7, e11, hf7⟩ := bnd_some hf6
    obtain ⟨e12, q12⟩ := lft_some e11
    obtain ⟨e13, q13⟩ := ret_some hf7
    subst e13 q13 q12 q10
    refine ha.sem L E ρ σ F H rs x1 rs2 _ r e2 fun v1 F1 H1 s1 h1 => ?_
    have r1 := r.step s1
    refine hb.sem L E ρ σ F1 H1 rs2 x2 _ _ r1 e4 fun v2 F2 H2 s2 h2 => ?_
    have r2 := r1.step s2
    refine ⟨by show 2 ≤ sizeLine; exact sz_of (by decide), fun q hq => ?_⟩
    have s3 := Step.new_o (o := .tup [v1, v2]) r2.refl hq
    refine ⟨q, [v1, v2], rfl, .inl (.inl upd_same), rfl, v1, [v2], rfl, v2, [], rfl, rfl, ?_⟩
    have s12 := s1.trans r.row s2
    have s123 := s12.trans r.row s3
    have q1 := Rel.store r s123 ((h1.step s2).step s3) e10 i
    have k1 := (Rel.known r1).set r1.len h1 e10 i
    have q2 := Rel.store2 r1 q1 (h2.step s3) e12 j fun a u ev hl h0 => k1.apart a u ev hl h0
    exact k _ F2 _ (FStep.ofStep r s123) q2⟩
theorem ds_tup3L {i j l : Nat} {x y z : Str} {a b c : Expr} {fa fb fc : Env → M RV} {tA tB tC' : TE} {px py pz pt : Pos} {kt k2 pt2} (hc : X.calm = true) (hN : X.N.Nodup) (hi : X.N[i]? = some x) (hj : X.N[j]? = some y) (hl : X.N[l]? = some z)
    (hx : Loc X.env.scope x) (hy : Loc X.env.scope y) (hz : Loc X.env.scope z) (ha : DE X R a tA fa) (hb : DE X R b tB fb) (hcc : DE X R c tC' fc)
    (hw : swappedStores [.Tuple [.Name x px, .Name y py, .Name z pz] kt pt] (.Tuple [a, b, c] k2 pt2) X.env = pure none) (hs : swapsWithSole [.Tuple [.Name x px, .Name y py, .Name z pz] kt pt] (.Tuple [a, b, c] k2 pt2) pos.line X.env = pure false := by rfl)
    (hq1 : starEach [a, b, c] X.env = (false, eval a X.env) :: starEach [b, c] X.env := by rfl) (hq2 : starEach [b, c] X.env = (false, eval b X.env) :: starEach [c] X.env := by rfl) (hq3 : starEach [c] X.env = (false, eval c X.env) :: starEach [] X.env := by rfl)
    (hfx : X.fn x = true ∨ X.env.scope.names.lookup x = some .local := by first | exact .inl rfl | exact .inr rfl) (hfy : X.fn y = true ∨ X.env.scope.names.lookup y = some .local := by first | exact .inl rfl | exact .inr rfl) (hfz : X.fn z = true ∨ X.env.scope.names.lookup z = some .local := by first | exact .inl rfl | exact .inr rfl)
    (hn : (assignEach [.Name x px, .Name y py, .Name z pz] X.env).length = 3 := by rfl) (hst : (assignEach [.Name x px, .Name y py, .Name z pz] X.env).findIdx? (·.1) = none := by rfl)
    (hs1 : (assignEach [.Name x px, .Name y py, .Name z pz] X.env).map (·.2) = assign (.Name x px) X.env :: (assignEach [.Name y py, .Name z pz] X.env).map (·.2) := by rfl) (hs2 : (assignEach [.Name y py, .Name z pz] X.env).map (·.2) = assign (.Name y py) X.env :: (assignEach [.Name z pz] X.env).map (·.2) := by rfl)
    (hs3 : (assignEach [.Name z pz] X.env).map (·.2) = assign (.Name z pz) X.env :: (assignEach [] X.env).map (·.2) := by rfl)
    (h1 : (assignEach [.Tuple [.Name x px, .Name y py, .Name z pz] kt pt] X.env).map (·.2) = [assign (.Tuple [.Name x px, .Name y py, .Name z pz] kt pt) X.env] := by rfl) :
    DS X R (.Assign [.Tuple [.Name x px, .Name y py, .Name z pz] kt pt] (.Tuple [a, b, c] k2 pt2) pos) (tAsg (tTup (tCons tA (tCons tB (tCons tC' tNil)))) (gTup X.K 3 (gCons (gName i) (gCons (gName j) (gCons (gName l) gNil))))) (sPar3 i j l (aCons fa (aCons fb (aCons fc aNil)))) :=
  ⟨ps_asg (pe_tup (pa_cons ha.pe (pa_cons hb.pe (pa_cons hcc.pe pa_nil hq3) hq2) hq1)) (pg_tup hc (pgs_cons (pg_name hN hi hx hfx) (pgs_cons (pg_name hN hj hy hfy) (pgs_cons (pg_name hN hl hz hfz) pgs_nil hs3) hs2) hs1) hn hst) hs hw h1, fun L E F ρ σ rs H o rs' D r hf k => by
    obtain ⟨xs, rs1, e1, hf1⟩ := bnd_some hf
    obtain ⟨x1, rs2, e2, hf2⟩ := bnd_some e1
    obtain ⟨ys, rs3, e3, hf3⟩ := bnd_some hf2
    obtain ⟨x2, rs4, e4, hf4⟩ := bnd_some e3
    obtain ⟨zs, rs5, e5, hf5⟩ := bnd_some hf4
    obtain ⟨x3, rs6, e6, hf6⟩ := bnd_some e5
    obtain ⟨ws, rs7, e7, hf7⟩ := bnd_some hf6
    obtain ⟨e8, q8⟩ := ret_some e7
    obtain ⟨e9, q9⟩ := ret_some hf7
    obtain ⟨e10, q10⟩ := ret_some hf5
    obtain ⟨e11, q11⟩ := ret_some hf3
    subst e8 q8 e9 q9 e10 q10 e11 q11
    obtain ⟨sx, rs12, e12, hf12⟩ := bnd_some hf1
    obtain ⟨e13, q13⟩ := lft_some e12
    obtain ⟨sy, rs14, e14, hf14⟩ := bnd_some hf12
    obtain ⟨e15, q15⟩ := lft_some e14
    obtain ⟨sz, rs16, e16, hf16⟩ := bnd_some hf14
    obtain ⟨e17, q17⟩ := lft_some e16
    obtain ⟨e18, q18⟩ := ret_some hf16
    subst e18 q18 q17 q15 q13
    refine ha.sem L E ρ σ F H rs x1 rs2 _ r e2 fun v1 F1 H1 s1 h1 => ?_
    have r1 := r.step s1
    refine hb.sem L E ρ σ F1 H1 rs2 x2 _ _ r1 e4 fun v2 F2 H2 s2 h2 => ?_
    have r2 := r1.step s2
    refine hcc.sem L E ρ σ F2 H2 _ x3 _ _ r2 e6 fun v3 F3 H3 s3 h3 => ?_
    have r3 := r2.step s3
    refine ⟨by show 3 ≤ sizeLine; exact sz_of (by decide), fun q hq => ?_⟩
    have s4 := Step.new_o (o := .tup [v1, v2, v3]) r3.refl hq
    refine ⟨q, [v1, v2, v3], rfl, .inl (.inl upd_same), rfl, v1, [v2, v3], rfl, v2, [v3], rfl, v3, [], rfl, rfl, ?_⟩
    have s12 := s1.trans r.row s2
    have s123 := s12.trans r.row s3
    have s1234 := s123.trans r.row s4
    have q1 := Rel.store r s1234 (((h1.step s2).step s3).step s4) e13 i
    have k1 := (Rel.known r1).set r1.len h1 e13 i
    have q2 := Rel.store2 r1 q1 ((h2.step s3).step s4) e15 j fun a u ev hl h0 => k1.apart a u ev hl h0
    have k2 : OwnOld H2 ((ρ.set i (some sx)).set j (some sy)) ((σ.set i (some v1)).set j (some v2)) := (k1.step s2 r1.row).set (by rw [List.length_set, List.length_set]; exact r1.len) h2 e15 j
    have q3 := Rel.store2 r2 q2 (h3.step s4) e17 l fun a u ev hl h0 => k2.apart a u ev hl h0
    exact k _ F3 _ (FStep.ofStep r s1234) q3⟩
end
end DV
namespace DV
open PySem L2
section
variable {X : Cx} {R : RA} {e ei : Expr} {te ti : TE} {f g : Env → M RV} {pos : Pos}
abbrev ePart (f : Env → M RV) : Env → M (Option Int) := fun ρ => bnd (f ρ) fun x => bnd (lft (asInt x)) fun i => ret (some i)
theorem ds_appendF {i : Nat} {x : Str} {apos p1 spos : Pos} (he : DE X R e te f) (pe : PE X e te → PE X (.Call (.Attribute (.Name x p1) "append" apos) [e] [] pos) (tBM X.K "list" rAppend (tVar i) (tCons te tNil))) (hN : X.N[i]? = some x := by rfl) (hv : Vis X.env.scope x := by first | exact Or.inl rfl | exact Or.inr (Or.inl rfl) | exact Or.inr (Or.inr rfl)) (hd : (x == ("__debug__" : Str)) = false := by decide)
    (hcd : (x == ("__classdict__" : Str)) = false := by decide) (hs : swapsWith (.Call (.Attribute (.Name x p1) "append" apos) [e] [] pos) none spos.line X.env = pure false := by rfl) :
    DS X R (.Expr (.Call (.Attribute (.Name x p1) "append" apos) [e] [] pos) spos) (tDrop (tBM X.K "list" rAppend (tVar i) (tCons te tNil))) (sApp i f) := ds_append he hN hv hd hcd (pe he.pe) hs
theorem ds_popAppF {i j : Nat} {x y : Str} {apos bpos cpos p1 p2 spos : Pos} (he : DE X R e te f) (pe : PE X e te → PE X (.Call (.Attribute (.Name x p1) "append" apos) [.Call (.Attribute (.Name y p2) "pop" bpos) [e] [] cpos] [] pos) (tBM X.K "list" rAppend (tVar i) (tCons (tBM X.K "list" rPopAt (tVar j) (tCons te tNil)) tNil)))
    (hs : swapsWith (.Call (.Attribute (.Name x p1) "append" apos) [.Call (.Attribute (.Name y p2) "pop" bpos) [e] [] cpos] [] pos) none spos.line X.env = pure false := by rfl) :
    DS X R (.Expr (.Call (.Attribute (.Name x p1) "append" apos) [.Call (.Attribute (.Name y p2) "pop" bpos) [e] [] cpos] [] pos) spos) (tDrop (tBM X.K "list" rAppend (tVar i) (tCons (tBM X.K "list" rPopAt (tVar j) (tCons te tNil)) tNil))) (sPopApp i j f) := ds_popApp he.sem (pe he.pe) hs
theorem ds_putF {i : Nat} {x : Str} {p1 spos : Pos} (he : DE X R e te f) (hi : DE X R ei ti g) (hpg : PE X ei ti → PG X (.Subscript (.Name x p1) ei pos) (gSub (tVar i) ti rSetL)) (hN : X.N[i]? = some x := by rfl) (hv : Vis X.env.scope x := by first | exact Or.inl rfl | exact Or.inr (Or.inl rfl) | exact Or.inr (Or.inr rfl)) (hd : (x == ("__debug__" : Str)) = false := by decide)
    (hcd : (x == ("__classdict__" : Str)) = false := by decide) (hs : swapsWithSole [.Subscript (.Name x p1) ei pos] e spos.line X.env = pure false := by rfl) (hw : swappedStores [.Subscript (.Name x p1) ei pos] e X.env = pure none := by rfl)
    (h1 : (assignEach [.Subscript (.Name x p1) ei pos] X.env).map (·.2) = [assign (.Subscript (.Name x p1) ei pos) X.env] := by rfl) : DS X R (.Assign [.Subscript (.Name x p1) ei pos] e spos) (tAsg te (gSub (tVar i) ti rSetL)) (sPut i f g) := ds_put he hi hN hv hd hcd (hpg hi.pe) hs hw h1
end
end DV

namespace DV
open PySem L2 PyProof.Rows
section
variable {X : Cx} {K : PySem.W.Frag} {R : RA} {L : Nat → Option (Addr × List V)} {E F F' H H' : Hp} {ρ ρ' : Env} {σ σ' : L2.St} {rs rs' : RS}
variable {S S' : List Nat} {tg it elt e e2 c : Expr} {es ifs : List Expr} {g : TG} {gs : TGs} {hg : D → Env → Option Env} {hgs : List D → Env → Option Env} {pos p : Pos} {st : Stmt} {body : List Stmt} {tb : TS} {tt : TT} {te t1 t2 : TE} {ta : TA} {wi : TI}
def rowCell (k : Nat) (rs : RS) : Option D := match k with
  | 0 => some (.list (rs.ns.map PyData.int))
  | 1 => some (.int (rs.i : Int))
  | 2 => some (.int rs.s)
  | 3 => some (.int rs.c)
  | _ => none
def eRow (i k : Nat) : Env → M RV := fun ρ => bnd (lft (vget ρ i)) fun x => match x with
  | .row => fun rs => match rowCell k rs with
    | some d => some (.d d, rs)
    | none => none
  | _ => fail
theorem rowCell_at {a : Addr} {d : D} {k : Nat} (h : rowCell k rs = some d) (hs : SqL K F a (rs.ns.map V.int)) : ∃ v, [V.ref a, .int (rs.i : Int), .int rs.s, .int rs.c][k]? = some v ∧ Dp K F v d := by
  match k, h with
  | 0, h => cases h; exact ⟨_, rfl, .lst hs (DpAll.ofInts _)⟩
  | 1, h => cases h; exact ⟨_, rfl, .int _⟩
  | 2, h => cases h; exact ⟨_, rfl, .int _⟩
  | 3, h => cases h; exact ⟨_, rfl, .int _⟩
theorem de_row (i k : Nat) {x : Str} {j : Nat} {p2 : Pos} (hv' : DE X R (.Name x p) (tVar i) (eVar i)) (hs : PlainIx (.Constant (.int (k : Int)) j p2) := by exact fun _ _ => rfl) :
    DE X R (.Subscript (.Name x p) (.Constant (.int (k : Int)) j p2) pos) (tOp (rIx X.K) (tVar i) (tC (.int (k : Int)))) (eRow i k) := ⟨(de_ix hv' (de_int (R := R)) hs).pe, fun L E ρ σ F H rs x rs' Q r hf kk => by
  obtain ⟨y, rs1, e1, hf1⟩ := bnd_some hf
  obtain ⟨e2, q2⟩ := lft_some e1
  subst q2
  cases y with
  | row =>
    obtain ⟨v, ev, hv⟩ := r.get e2
    obtain ⟨r0, eR, rfl⟩ := hv
    have hf2 : (match rowCell k rs1 with | some d => some (RV.d d, rs1) | none => none) = some (x, rs') := hf1
    cases e3 : rowCell k rs1 with
    | none => rw [e3] at hf2; cases hf2
    | some d =>
      rw [e3] at hf2
      cases hf2
      obtain ⟨a, h1, h2, h3⟩ := r.row.at_ r0 eR
      obtain ⟨w, ew, hw⟩ := rowCell_at e3 h2
      refine ⟨_, ev, .inl ⟨r0, _, (k : Int), w, rfl, rfl, .inl (.inl h1), atI_nat ew, kk w F H r.refl hw⟩⟩
  | d _ => cases hf1
  | b _ => cases hf1
  | n _ => cases hf1
  | gb _ => cases hf1
  | gn _ => cases hf1⟩
def rowPut (k : Nat) (v : Int) (rs : RS) : Option RS := match k with
  | 1 => if 0 ≤ v then some { rs with i := v.toNat } else none
  | 2 => some { rs with s := v }
  | 3 => some { rs with c := v }
  | _ => none
def sRowPut (i k : Nat) (f : Env → M RV) : Env → M Out := fun ρ => bnd (f ρ) fun x => bnd (lft (asInt x)) fun v => bnd (lft (vget ρ i)) fun y => match y with
  | .row => fun rs => match rowPut k v rs with
    | some rs' => some (.nx ρ, rs')
    | none => none
  | _ => fail
theorem rowPut_at {a : Addr} {v : Int} {k : Nat} (h : rowPut k v rs = some rs') : rs'.ns = rs.ns ∧ ixN [V.ref a, .int (rs.i : Int), .int rs.s, .int rs.c].length (k : Int) = some k ∧
    [V.ref a, .int (rs.i : Int), .int rs.s, .int rs.c].set k (.int v) = [V.ref a, .int (rs'.i : Int), .int rs'.s, .int rs'.c] := by
  match k, h with
  | 1, h =>
    unfold rowPut at h
    by_cases hv : 0 ≤ v
    · rw [if_pos hv] at h
      cases h
      refine ⟨rfl, rfl, ?_⟩
      show [V.ref a, .int v, .int rs.s, .int rs.c] = [V.ref a, .int (v.toNat : Int), .int rs.s, .int rs.c]
      rw [Int.toNat_of_nonneg hv]
    · rw [if_neg hv] at h
      cases h
  | 2, h => cases h; exact ⟨rfl, rfl, rfl⟩
  | 3, h => cases h; exact ⟨rfl, rfl, rfl⟩
theorem Rel.rowput (r : Rel K R L E F ρ σ rs H) {r0 a : Addr} (eR : R.row = some r0) (hn : rs'.ns = rs.ns) (h2 : SqL K F a (rs.ns.map V.int)) (h3 : rs.ns.length ≤ 63) : Rel K R L E F ρ σ rs' (upd H r0 (.lst [V.ref a, .int (rs'.i : Int), .int rs'.s, .int rs'.c])) where
  len := r.len
  ent := r.ent
  ex := fun b o e => by
    have hb : b ≠ r0 := fun q => by
      have := (r.rE r0 eR).1
      rw [← q, e] at this
      cases this
    rw [upd_ne hb]
    exact r.ex b o e
  fr := fun b o e => by
    have hb : b ≠ r0 := fun q => by
      have := (r.rE r0 eR).2
      rw [← q, e] at this
      cases this
    rw [upd_ne hb]
    exact r.fr b o e
  row := ⟨fun r1 e1 => by
    rw [eR] at e1
    cases e1
    exact ⟨a, upd_same, by rw [hn]; exact h2, by rw [hn]; exact h3⟩, tabs_upd r.row.tab (.inr (by
      obtain ⟨_, h, _⟩ := r.row.at_ r0 eR
      exact ⟨_, h⟩)), r.row.fnt⟩
  rE := r.rE
  lk := r.lk
  sl := fun i sv e => by
    obtain ⟨v, ev, q⟩ := r.sl i sv e
    refine ⟨v, ev, ?_⟩
    cases sv with
    | d x => exact q
    | k ds => exact q
    | row => exact q
    | o ds =>
      obtain ⟨b, vs, e1, h1, g2, g3, g4, g5⟩ := q
      refine ⟨b, vs, e1, ?_, g2, g3, g4, g5⟩
      rw [upd_ne (fun z => g4 (by rw [eR, z]))]
      exact h1
    | g ds =>
      obtain ⟨b, vs, e1, h1, g2, g3, g4, g5⟩ := q
      refine ⟨b, vs, e1, ?_, g2, g3, g4, g5⟩
      rw [upd_ne (fun z => g4 (by rw [eR, z]))]
      exact h1
    | un => exact trivial
    | ex _ _ => exact q
    | fn _ => exact q
    | lm => exact q
  own := r.own
theorem ds_rowPut (i k : Nat) {x : Str} {j : Nat} {p1 p2 : Pos} {f : Env → M RV} (he : DE X R e te f) (hv' : DE X R (.Name x p1) (tVar i) (eVar i)) (hpg : PG X (.Subscript (.Name x p1) (.Constant (.int (k : Int)) j p2) pos) (gSub (tVar i) (tC (.int (k : Int))) rSetL))
    {spos : Pos} (hs : swapsWithSole [.Subscript (.Name x p1) (.Constant (.int (k : Int)) j p2) pos] e spos.line X.env = pure false := by rfl) (hw : swappedStores [.Subscript (.Name x p1) (.Constant (.int (k : Int)) j p2) pos] e X.env = pure none := by rfl)
    (h1 : (assignEach [.Subscript (.Name x p1) (.Constant (.int (k : Int)) j p2) pos] X.env).map (·.2) = [assign (.Subscript (.Name x p1) (.Constant (.int (k : Int)) j p2) pos) X.env] := by rfl) :
    DS X R (.Assign [.Subscript (.Name x p1) (.Constant (.int (k : Int)) j p2) pos] e spos) (tAsg te (gSub (tVar i) (tC (.int (k : Int))) rSetL)) (sRowPut i k f) := ⟨ps_asg he.pe hpg hs hw h1, fun L E F ρ σ rs H o rs' D r hf kk => by
  obtain ⟨x, rs1, e1, hf1⟩ := bnd_some hf
  obtain ⟨v, rs2, e2, hf2⟩ := bnd_some hf1
  obtain ⟨e3, q3⟩ := lft_some e2
  obtain ⟨y, rs4, e4, hf4⟩ := bnd_some hf2
  obtain ⟨e5, q5⟩ := lft_some e4
  subst q5 q3
  cases y with
  | row =>
    have hf5 : (match rowPut k v rs4 with | some rs' => some (Out.nx ρ, rs') | none => none) = some (o, rs') := hf4
    cases e6 : rowPut k v rs4 with
    | none => rw [e6] at hf5; cases hf5
    | some rs6 =>
      rw [e6] at hf5
      cases hf5
      refine he.sem L E ρ σ F H rs x _ _ r e1 fun w F1 H1 s1 h1 => ?_
      have hwi := h1.int e3
      subst hwi
      have r1 := r.step s1
      obtain ⟨u, eu, hu⟩ := r1.get e5
      obtain ⟨r0, eR, rfl⟩ := hu
      obtain ⟨a, g1, g2, g3⟩ := r1.row.at_ r0 eR
      obtain ⟨n1, n2, n3⟩ := rowPut_at (a := a) e6
      refine ⟨_, eu, r0, _, (k : Int), k, rfl, rfl, g1, n2, ?_⟩
      rw [n3]
      exact kk σ F1 _ (FStep.ofStep r s1) (r1.rowput eR n1 g2 g3)
  | d _ => cases hf4
  | b _ => cases hf4
  | n _ => cases hf4
  | gb _ => cases hf4
  | gn _ => cases hf4⟩

def spLaw (K : PySem.W.Frag) : Sp := fun vs H Q _ => ∃ (a : Addr) (ns : List Int), vs = [.ref a] ∧ LamX.Tabs (tabsOf K) H ∧ SqL K H a (ns.map V.int) ∧ ns.length ≤ 63 ∧ ∀ H', Q (.bl true) H'
/-- the law's names behind the row's making -/
def lawE (n : Nat) : Env := none :: some .row :: List.replicate (n - 2) none
theorem law_ok {P : Program} {w : World} {mg : Str → Option Value} {base : Heap} {x qual : Str} {st : Stmt} {f : Addr} {fd : FuncData} {N : List Str} {k : Nat} {g : Env → M Out} {y : Str} {seed : Int} {s0 : Stmt} {rest : List Stmt} (Fn : Fun K x qual st f fd) (S : FnScope N [y] (defScope st)) (hN : 2 ≤ N.length)
    (hbd : defBody st = s0 :: rest)
    (hbody : ∀ (cdv : Value) (A : Around) (outer : List PySem.Env) (s : Shared) (H : Hp) (E : XK), Room k (A.deeper (envOfC qual (defScope st) s.heap.objs.size f cdv)) →
      PS (cxOf CX0 P w K mg base N qual (defScope st) f cdv A outer s H E).nox s0 (tAsg (tLst (tCons (tVar 0) (tCons (tC (.int 0)) (tCons (tC (.int seed)) (tCons (tC (.int 0)) tNil))))) (gName 1)) ∧
      ∃ t, ∀ R, DSs (cxOf CX0 P w K mg base N qual (defScope st) f cdv A outer s H E).nox R rest t g)
    (hlaw : ∀ ns : List Int, ns.length ≤ 63 → ∃ rs', g (lawE N.length) ⟨ns, 0, seed, 0⟩ = some (.rt (.d (.bool true)), rs')) : FnOk P w K mg base CX0 (k + 1) f fd [y] (spLaw K) := by
  refine Fn.ok S (fun vs H Q E h => ?_) (fun cdv A outer s H vs Q E hr h => ?_)
  · obtain ⟨a, ns, rfl, _⟩ := h
    rfl
  · obtain ⟨a, ns, rfl, hT, hS0, hlen, q⟩ := h
    obtain ⟨h0, t, ht⟩ := hbody cdv A outer s H E hr
    rw [hbd]
    refine ⟨_, pss_cons h0 (ht ⟨none, none⟩).ps, ?_⟩
    obtain ⟨rs', hl⟩ := hlaw ns hlen
    have hst : L2.start N [V.ref a] = some (V.ref a) :: List.replicate (N.length - 1) none := rfl
    rw [hst]
    refine ⟨V.ref a, rfl, ?_⟩
    refine ⟨by show 4 ≤ sizeLine; exact sz_of (by decide), fun r hr0 => ?_⟩
    have hNl : N.length - 1 = (N.length - 2) + 1 := by omega
    have hF : ∀ b o, entE K ⟨none, none⟩ H b = some o → (upd H r (.lst [V.ref a, .int 0, .int seed, .int 0])) b = some o := fun b o e => by
      have e := (entE_of e).2.2
      rw [upd_ne (ne_of_none e hr0)]
      exact e
    have hX : ∀ b o, entE K ⟨none, none⟩ H b = some o → Fx K b o := fun b o e => .inr fun n z => (entE_of e).2.1 ⟨n, z⟩
    have hN0 : entE K ⟨none, none⟩ H r = none := by
      cases e : entE K ⟨none, none⟩ H r with
      | none => rfl
      | some o =>
        have e2 := (entE_of e).2.2
        rw [hr0] at e2
        cases e2
    have hS : SqL K (entE K ⟨none, none⟩ H) a (ns.map V.int) := by
      by_cases t : tbAt K a
      · obtain ⟨n, t⟩ := t
        obtain ⟨ps, et⟩ := tabs_at hT t
        rcases hS0 with (z | ⟨o, z⟩) | z
        · rw [et] at z; cases z
        · rw [et] at z; cases z
        · exact .inr z
      · exact ex_l (fun o e => (entE_at (R := ⟨none, none⟩) (fun z => by cases z) t).trans e) hS0
    have rel : Rel K ⟨some r, none⟩ (fun _ => none) (entE K ⟨none, none⟩ H) (entE K ⟨none, none⟩ H) (lawE N.length) ((some (V.ref a) :: List.replicate (N.length - 1) none).set 1 (some (V.ref r))) ⟨ns, 0, seed, 0⟩ (upd H r (.lst [V.ref a, .int 0, .int seed, .int 0])) := by
      rw [hNl, List.replicate_succ]
      refine ⟨?_, hF, hX, hF, ⟨fun r1 e1 => ?_, tabs_upd hT (.inl hr0), hX⟩, fun r1 e1 => ?_, fun i b vs e1 => ?_, fun i sv e1 => ?_, fun i j b sv sw e1 e2 ox oy e3 e4 => ?_⟩
      · show (List.replicate (N.length - 2) (none : Option SV)).length + 1 + 1 = (List.replicate (N.length - 2) (none : Option V)).length + 1 + 1
        rw [List.length_replicate, List.length_replicate]
      · cases e1
        exact ⟨a, upd_same, hS, hlen⟩
      · cases e1
        exact ⟨hN0, hN0⟩
      · cases e1
      · match i, e1 with
        | 0, e1 => cases e1
        | 1, e1 =>
          cases e1
          exact ⟨_, rfl, r, rfl, rfl⟩
        | i + 2, e1 =>
          have e2 : (List.replicate (N.length - 2) (none : Option SV))[i]? = some (some sv) := e1
          have e3 := List.mem_of_getElem? e2
          rw [List.mem_replicate] at e3
          cases e3.2
      · match i, e1 with
        | 0, e1 => cases e1
        | 1, e1 => cases e1; cases ox
        | i + 2, e1 =>
          have e5 : (List.replicate (N.length - 2) (none : Option SV))[i]? = some (some sv) := e1
          have e6 := List.mem_of_getElem? e5
          rw [List.mem_replicate] at e6
          cases e6.2
    refine (ht ⟨some r, none⟩).sem (fun _ => none) (entE K ⟨none, none⟩ H) (entE K ⟨none, none⟩ H) (lawE N.length) _ _ _ _ rs' _ rel hl ?_
    intro v F' H' hret
    have hv : Dp K F' v (.bool true) := hret.val
    cases hv
    exact q H'
end
end DV

namespace DV
open PySem L2
section
variable {X : Cx} {K : PySem.W.Frag} {R : RA} {L : Nat → Option (Addr × List V)} {E F F' H H' : Hp} {ρ ρ' : Env} {σ σ' : L2.St} {rs rs' : RS}
variable {S S' : List Nat} {tg it elt e e2 c : Expr} {es ifs : List Expr} {pos p : Pos} {te t1 t2 : TE} {ta : TA} {wi : TI}
def zipD : List D → List D → List D
  | x :: xs, y :: ys => .tuple [x, y] :: zipD xs ys
  | _, _ => []
def joinLk : Option Nat → Option Nat → Option (Option Nat)
  | none, l => some l
  | some i, none => some (some i)
  | some i, some j => if i = j then some (some i) else none
def iZipF (f g : Env → M (List D × Option Nat)) : Env → M (List D × Option Nat) := fun ρ => bnd (f ρ) fun p => bnd (g ρ) fun q => bnd (lft (joinLk p.2 q.2)) fun l => ret (zipD p.1 q.1, l)
theorem SrcOk.any {v : V} {its : List D} {lk l : Option Nat} (h : SrcOk K R E ρ σ H F' H' v its lk) (e : lk = none ∨ lk = l) : SrcOk K R E ρ σ H F' H' v its l := by
  rcases e with e | e
  · subst e
    obtain ⟨a, vs, rfl, hd, q⟩ := h
    refine ⟨a, vs, rfl, hd, ?_⟩
    rcases q with q | ⟨q1, q2, q3⟩
    · exact .inl q
    · refine .inr ⟨q1, q2, ?_⟩
      rcases q3 with z | z | ⟨i, ds, z, _⟩
      · exact .inl z
      · exact .inr (.inl z)
      · cases z
  · subst e; exact h
theorem joinLk_l {a b l : Option Nat} (h : joinLk a b = some l) : (a = none ∨ a = l) ∧ (b = none ∨ b = l) := by
  cases a with
  | none => cases h; exact ⟨.inl rfl, .inr rfl⟩
  | some i =>
    cases b with
    | none => cases h; exact ⟨.inr rfl, .inl rfl⟩
    | some j =>
      have h : (if i = j then some (some i) else none) = some l := h
      by_cases e : i = j
      · rw [if_pos e] at h
        cases h
        exact ⟨.inr rfl, .inr (by rw [e])⟩
      · rw [if_neg e] at h
        cases h
end
end DV

namespace DV
open PySem L2 PyProof.Rows
def ItzK3 (k1 k2 k3 : SK) (K : PySem.W.Frag) (a b c : Addr) : It :=
  ⟨fun i H => ∃ (xs ys us : List V) (x y u : V), SqK k1 K H a xs ∧ SqK k2 K H b ys ∧ SqK k3 K H c us ∧ xs[i]? = some x ∧ ys[i]? = some y ∧ us[i]? = some u,
    fun i H v H' => ∃ T x y u, v = .ref T ∧ H T = none ∧ H' = upd H T (.tup [x, y, u]) ∧ (∀ xs, SqK k1 K H a xs → xs[i]? = some x) ∧ (∀ ys, SqK k2 K H b ys → ys[i]? = some y) ∧ ∀ us, SqK k3 K H c us → us[i]? = some u,
    fun i H => ∃ xs ys us : List V, SqK k1 K H a xs ∧ SqK k2 K H b ys ∧ SqK k3 K H c us ∧ i ≤ xs.length ∧ i ≤ ys.length ∧ i ≤ us.length ∧ (i = xs.length ∨ i = ys.length ∨ i = us.length)⟩
theorem turn_zipK3 (k1 k2 k3 : SK) {P : Program} {w : World} {K : PySem.W.Frag} {elts : List Expr} {kk : Nat} {tpos : Pos} {a b c z TI TO i1 i2 i3 : Addr} (S : ZipSep3 z TI TO i1 i2 i3 [i1, a] [i2, b] [i3, c]) (ha : a ≠ i1) (hb : b ≠ i2) (hc3 : c ≠ i3) :
    Turn P w K (.Tuple elts kk tpos) (ItzK3 k1 k2 k3 K a b c) [z, TI, TO, i1, i2, i3] z (fun i h => IsZip h z TI TO .none ∧ IsTupOf3 h TI (.ref i1) (.ref i2) (.ref i3) ∧ (∃ x y u, IsTupOf3 h TO x y u) ∧ isItK k1 h i1 a i ∧ isItK k2 h i2 b i ∧ isItK k3 h i3 c i) where
  mem := by simp
  obj := fun i h st c hc => by
    obtain ⟨hz, hTI, ⟨x, y, u, hTO⟩, h1, h2, h3⟩ := st
    have e' : c = z ∨ c = TI ∨ c = TO ∨ c = i1 ∨ c = i2 ∨ c = i3 := by simpa using hc
    rcases e' with q | q | q | q | q | q
    · rw [q]; exact ⟨_, hz, fun v q => nomatch q⟩
    · rw [q]; exact ⟨_, hTI, fun v q => nomatch q⟩
    · rw [q]; exact ⟨_, hTO, fun v q => nomatch q⟩
    · rw [q]; exact h1.obj
    · rw [q]; exact h2.obj
    · rw [q]; exact h3.obj
  keep := fun i h h' st k => by
    obtain ⟨hz, hTI, ⟨x, y, u, hTO⟩, h1, h2, h3⟩ := st
    exact ⟨k z (by simp) _ hz, k TI (by simp) _ hTI, ⟨x, y, u, k TO (by simp) _ hTO⟩, h1.at' fun o q => k i1 (by simp) o q, h2.at' fun o q => k i2 (by simp) o q, h3.at' fun o q => k i3 (by simp) o q⟩
  item := by
    intro X hP hw hK hc i pins s σ H E I hf st hg
    subst hP hw hK
    obtain ⟨hz, hTI, ⟨x0, y0, u0, hTO⟩, h1, h2, h3⟩ := st
    obtain ⟨xs, ys, us, x, y, u3, hqx, hqy, hqu, hx, hy, hu0⟩ := hg
    obtain ⟨its, rv, p, _, _⟩ := seqK k1 I hqx
    obtain ⟨its2, rv2, p2, _, _⟩ := seqK k2 I hqy
    obtain ⟨its3, rv3, p3, _, _⟩ := seqK k3 I hqu
    obtain ⟨u, hu, ru⟩ := rv.get hx
    obtain ⟨u2, hu2, ru2⟩ := rv2.get hy
    obtain ⟨u3', hu3, ru3⟩ := rv3.get hu0
    have hzl : z < s.heap.objs.size := Heap.lt_size hz
    have hl1 : i < its.toArray.size := by have q1 := (List.getElem?_eq_some_iff.mp hu).1; simpa using q1
    have hl2 : i < its2.toArray.size := by have q1 := (List.getElem?_eq_some_iff.mp hu2).1; simpa using q1
    have hl3 : i < its3.toArray.size := by have q1 := (List.getElem?_eq_some_iff.mp hu3).1; simpa using q1
    refine wpAny_pyNext_zipD3_item S (drawK k1 (A := X.A.in1) (I.ok.hd hc) i1 a ha its.toArray) (drawK k2 (A := X.A.in1) (I.ok.hd hc) i2 b hb its2.toArray) (drawK k3 (A := X.A.in1) (I.ok.hd hc) i3 c hc3 its3.toArray) hz hTI hTO ⟨h1, p⟩ ⟨h2, p2⟩ ⟨h3, p3⟩ hl1 hl2 hl3 fun v1 v2 v3 h' tk y1 y2 y3 z' TO' d1 d2 d3 hT hsz hk => ?_
    have e1 : v1 = u := by
      have q1 : its[i]? = some v1 := by simpa using y1
      rw [hu] at q1
      exact (Option.some.inj q1).symm
    have e2 : v2 = u2 := by
      have q1 : its2[i]? = some v2 := by simpa using y2
      rw [hu2] at q1
      exact (Option.some.inj q1).symm
    have e3 : v3 = u3' := by
      have q1 : its3[i]? = some v3 := by simpa using y3
      rw [hu3] at q1
      exact (Option.some.inj q1).symm
    subst e1 e2 e3
    refine ⟨_, rfl, wpAny_letOwnedTupleGo_zip (s := { s with heap := h', toks := tk }) z' fun h'' z'' sb => ?_⟩
    have hT2 : h''.get? s.heap.objs.size = some { cls := .type "tuple", data := .seq #[v1, v2, v3] } := (sb.2 _ (Nat.ne_of_gt hzl)).trans hT
    have new : ObjOk X.prog X.w (upd H s.heap.objs.size (.tup [x, y, u3])) h'' s.heap.objs.size (.tup [x, y, u3]) :=
      ⟨by show 3 ≤ sizeLine; decide, [v1, v2, v3], .cons ru (.cons ru2 (.cons ru3 .nil)), ⟨_, hT2, rfl, _, rfl⟩⟩
    have I1 : Inv X pins σ (upd H s.heap.objs.size (.tup [x, y, u3])) { s with heap := h'', toks := tk } :=
      I.turnedNew (ch := [z, TI, TO, i1, i2, i3]) (fun c o hb q => (sb.2 c (fun q' => hb (by simp [q']))).trans (hk c o (fun q' => hb (by simp [q'])) (fun q' => hb (by simp [q'])) (fun q' => hb (by simp [q'])) (fun q' => hb (by simp [q'])) (fun q' => hb (by simp [q'])) q)) hf (Nat.le_refl _) new
    refine ⟨.ref s.heap.objs.size, _, I1, rfl, ⟨_, x, y, u3, rfl, I.hok.fresh (Nat.le_refl _), rfl, fun l hl => by rw [seqK_inj k1 I hl hqx]; exact hx, fun l hl => by rw [seqK_inj k2 I hl hqy]; exact hy, fun l hl => by rw [seqK_inj k3 I hl hqu]; exact hu0⟩, ⟨z'', ?_, ⟨v1, v2, v3, ?_⟩, ?_, ?_, ?_⟩, fun c hcm => ?_⟩
    · exact (sb.2 _ S.TIz).trans (hk _ _ S.TIz S.TITO S.TIi1 S.TIi2 S.TIi3 hTI)
    · exact (sb.2 _ S.TOz).trans TO'
    · exact d1.1.at' fun o q => (sb.2 _ (Ne.symm S.zi1)).trans q
    · exact d2.1.at' fun o q => (sb.2 _ (Ne.symm S.zi2)).trans q
    · exact d3.1.at' fun o q => (sb.2 _ (Ne.symm S.zi3)).trans q
    · have hlt : c < s.heap.objs.size := by
        have e' : c = z ∨ c = TI ∨ c = TO ∨ c = i1 ∨ c = i2 ∨ c = i3 := by simpa using hcm
        rcases e' with q | q | q | q | q | q
        · rw [q]; exact hzl
        · rw [q]; exact Heap.lt_size hTI
        · rw [q]; exact Heap.lt_size hTO
        · rw [q]; obtain ⟨_, e1, _⟩ := h1.obj; exact Heap.lt_size e1
        · rw [q]; obtain ⟨_, e2, _⟩ := h2.obj; exact Heap.lt_size e2
        · rw [q]; obtain ⟨_, e3, _⟩ := h3.obj; exact Heap.lt_size e3
      rw [upd_ne (Nat.ne_of_lt hlt)]
      exact (hf c hcm).1
  done := by
    intro X hP hw hK hc i pins s σ H E I hf st hg
    subst hP hw hK
    obtain ⟨hz, hTI, ⟨x0, y0, u0, hTO⟩, h1, h2, h3⟩ := st
    obtain ⟨xs, ys, us, hqx, hqy, hqu, hle1, hle2, hle3, hend⟩ := hg
    obtain ⟨its, rv, p, _, _⟩ := seqK k1 I hqx
    obtain ⟨its2, rv2, p2, _, _⟩ := seqK k2 I hqy
    obtain ⟨its3, rv3, p3, _, _⟩ := seqK k3 I hqu
    have l1 := rv.length
    have l2 := rv2.length
    have l3 := rv3.length
    exact wpAny_pyNext_zipD3_end S (drawK k1 (A := X.A.in1) (I.ok.hd hc) i1 a ha its.toArray) (drawK k2 (A := X.A.in1) (I.ok.hd hc) i2 b hb its2.toArray) (drawK k3 (A := X.A.in1) (I.ok.hd hc) i3 c hc3 its3.toArray) hz hTI hTO ⟨h1, p⟩ ⟨h2, p2⟩ ⟨h3, p3⟩ (by simp; omega) (by simp; omega) (by simp; omega) (by simp; omega) fun h' tk hk =>
      ⟨rfl, I.turnedL (t' := tk) (ch := [z, TI, TO, i1, i2, i3]) (fun c o hb q => hk c o (fun q' => hb (by simp [q'])) (fun q' => hb (by simp [q'])) (fun q' => hb (by simp [q'])) (fun q' => hb (by simp [q'])) (fun q' => hb (by simp [q'])) q) hf⟩
  self := fun A i s Q E st h => wpAny_pyIter_zip st.1 h
def iZipK3 (K : PySem.W.Frag) (ta : TA) : TI := fun σ H R => ta σ H fun vs H2 => ∃ k1 k2 k3 a b c xs ys us, vs = [.ref a, .ref b, .ref c] ∧ SqK k1 K H2 a xs ∧ SqK k2 K H2 b ys ∧ SqK k3 K H2 c us ∧ R (ItzK3 k1 k2 k3 K a b c) H2
theorem pi_zipK3 {X : Cx} {e e2 e3 : Expr} {ta : TA} {p pos tpos : Pos} {elts : List Expr} {kk : Nat} (hg : Gl X "zip") (hm : X.mg "zip" = none) (ha : PA X [e, e2, e3] ta)
    (hs : starEach [e, e2, e3] X.env = (false, eval e X.env) :: starEach [e2, e3] X.env := by rfl) (hpl : (backTo pos (starEach [e2, e3] X.env)).any (·.1) = false := by rfl) :
    PI X (.Tuple elts kk tpos) (.Call (.Name "zip" p) [e, e2, e3] [] pos) (iZipK3 X.K ta) := by
  refine ⟨fun pins s σ H R I h => ?_⟩
  refine Call_ (ld_blt I hg hm PyProof.Rows.boot_zip (PyProof.Rows.callWith_type1 (thn (ha.run pos pins s σ H _ I h) fun us s1 ⟨vs, H1, I1, r1, q1⟩ => ?_) hs hpl))
  · obtain ⟨k1, k2, k3, a, b, c, xs, ys, us3, rfl, hqx, hqy, hqu, q⟩ := q1
    cases r1 with
    | cons r rr =>
      cases rr with
      | cons r' rr =>
        cases rr with
        | cons r'' rr =>
          cases rr
          cases r
          cases r'
          cases r''
          obtain ⟨its, rv, p1, _, la⟩ := seqK k1 I1 hqx
          obtain ⟨its2, rv2, p2, _, lb⟩ := seqK k2 I1 hqy
          obtain ⟨its3, rv3, p3, _, lc⟩ := seqK k3 I1 hqu
          refine zip_begins3 (beginK k1 a its.toArray) (beginK k2 b its2.toArray) (beginK k3 c its3.toArray) p1 p2 p3 fun h' hz hTI hTO g1 g2 g3 hsz hk => wpAny_pyIter_zip hz ?_
          have I2 : Inv X pins σ H1 { s1 with heap := h' } := I1.kept (t' := s1.toks) hk
          refine ⟨s1.heap.objs.size + 5, [s1.heap.objs.size + 5, s1.heap.objs.size + 3, s1.heap.objs.size + 4, s1.heap.objs.size, s1.heap.objs.size + 1, s1.heap.objs.size + 2], _, _, H1, rfl, I2,
            turn_zipK3 k1 k2 k3 (zip_sep3 (fun c hc => by simp at hc; rw [hc]; exact la) (fun c hc => by simp at hc; rw [hc]; exact lb) (fun d hd => by simp at hd; rw [hd]; exact lc)) (Nat.ne_of_lt la) (Nat.ne_of_lt (Nat.lt_succ_of_lt lb)) (Nat.ne_of_lt (Nat.lt_succ_of_lt (Nat.lt_succ_of_lt lc))), ⟨hz, hTI, ⟨_, _, _, hTO⟩, .new k1 g1, .new k2 g2, .new k3 g3⟩, fun c hcm => ?_, q⟩
          have e' : c = s1.heap.objs.size + 5 ∨ c = s1.heap.objs.size + 3 ∨ c = s1.heap.objs.size + 4 ∨ c = s1.heap.objs.size ∨ c = s1.heap.objs.size + 1 ∨ c = s1.heap.objs.size + 2 := by simpa using hcm
          have hle : s1.heap.objs.size ≤ c := by
            rcases e' with z | z | z | z | z | z
            · rw [z]; exact Nat.le_add_right _ _
            · rw [z]; exact Nat.le_add_right _ _
            · rw [z]; exact Nat.le_add_right _ _
            · rw [z]; exact Nat.le_refl _
            · rw [z]; exact Nat.le_add_right _ _
            · rw [z]; exact Nat.le_add_right _ _
          exact I1.fpOk hle (I1.hok.fresh hle)
def YTrip (xs ys us : Nat → Option V) : Nat → Hp → V → Hp → Prop := fun i H v H' => ∃ T x y u, v = .ref T ∧ H T = none ∧ H' = upd H T (.tup [x, y, u]) ∧ xs i = some x ∧ ys i = some y ∧ us i = some u
theorem walk_zipK3 (k1 k2 k3 : SK) {K : PySem.W.Frag} {a b c : Addr} {xs ys us : List V} {n : Nat} (hn : n = min xs.length (min ys.length us.length)) : Walk (ItzK3 k1 k2 k3 K a b c) n (fun H => SqK k1 K H a xs ∧ SqK k2 K H b ys ∧ SqK k3 K H c us) (YTrip (fun i => xs[i]?) (fun i => ys[i]?) (fun i => us[i]?)) := by
  subst hn
  refine ⟨fun i _ hi q => ?_, fun _ q => ⟨xs, ys, us, q.1, q.2.1, q.2.2, by omega, by omega, by omega, by omega⟩, fun i H v H' _ q y => ?_⟩
  · have h1 : i < xs.length := by omega
    have h2 : i < ys.length := by omega
    have h3 : i < us.length := by omega
    exact ⟨xs, ys, us, xs[i], ys[i], us[i], q.1, q.2.1, q.2.2, by simp [h1], by simp [h2], by simp [h3]⟩
  · obtain ⟨T, x, z, u, h1, h2, h3, h4, h5, h6⟩ := y
    exact ⟨T, x, z, u, h1, h2, h3, h4 xs q.1, h5 ys q.2.1, h6 us q.2.2⟩
section
variable {X : Cx} {K : PySem.W.Frag} {R : RA} {e e2 e3 : Expr} {pos p : Pos} {t1 t2 t3 : TE}
def zip3D : List D → List D → List D → List D
  | x :: xs, y :: ys, z :: zs => .tuple [x, y, z] :: zip3D xs ys zs
  | _, _, _ => []
theorem zip3D_len : ∀ xs ys zs : List D, (zip3D xs ys zs).length = min xs.length (min ys.length zs.length)
  | [], ys, zs => by simp [zip3D]
  | x :: xs, [], zs => by simp [zip3D]
  | x :: xs, y :: ys, [] => by simp [zip3D]
  | x :: xs, y :: ys, z :: zs => by
    rw [zip3D, List.length_cons, zip3D_len xs ys zs, List.length_cons, List.length_cons, List.length_cons]
    omega
theorem zip3D_get : ∀ (xs ys zs : List D) (i : Nat) (x y z : D), xs[i]? = some x → ys[i]? = some y → zs[i]? = some z → (zip3D xs ys zs)[i]? = some (.tuple [x, y, z])
  | [], _, _, _, _, _, _, h, _, _ => by simp at h
  | _ :: _, [], _, _, _, _, _, _, h, _ => by simp at h
  | _ :: _, _ :: _, [], _, _, _, _, _, _, h => by simp at h
  | a :: xs, b :: ys, c :: zs, 0, x, y, z, h, h2, h3 => by
    simp at h h2 h3; subst h h2 h3
    rfl
  | a :: xs, b :: ys, c :: zs, i + 1, x, y, z, h, h2, h3 => by
    have := zip3D_get xs ys zs i x y z (by simpa using h) (by simpa using h2) (by simpa using h3)
    simpa [zip3D] using this
def iZip3F (f g h : Env → M (List D × Option Nat)) : Env → M (List D × Option Nat) := fun ρ => bnd (f ρ) fun p => bnd (g ρ) fun q => bnd (h ρ) fun r => bnd (lft (joinLk p.2 q.2)) fun l => bnd (lft (joinLk l r.2)) fun l2 => ret (zip3D p.1 q.1 r.1, l2)
theorem addH_or {P P2 : Hp} {c : Addr} {o : HO} (h : addH P P2 c = some o) : P c = some o ∨ P2 c = some o := by
  unfold addH at h
  cases e6 : P c with
  | none => rw [e6] at h; exact .inr h
  | some o2 => rw [e6] at h; cases h; exact .inl rfl
theorem addH_l {P P2 H3 : Hp} (q : ∀ c o, addH P P2 c = some o → H3 c = some o) : ∀ c o, P c = some o → H3 c = some o := fun c o e => q c o (by unfold addH; rw [e])
theorem addH_r {P P2 H H3 : Hp} (pn : ∀ c o, P c = some o → H c = some o) (pn2 : ∀ c o, P2 c = some o → H c = some o) (q : ∀ c o, addH P P2 c = some o → H3 c = some o) : ∀ c o, P2 c = some o → H3 c = some o := fun c o e => by
  refine q c o ?_
  unfold addH
  cases e6 : P c with
  | none => exact e
  | some o2 =>
    have z1 := pn c o2 e6
    have z2 := pn2 c o e
    rw [z1] at z2
    cases z2
    rfl
theorem di_zip3 {f g h : Env → M (List D × Option Nat)} {elts : List Expr} {kk : Nat} {tpos : Pos} (hgl : Gl X "zip") (hm : X.mg "zip" = none) (h1 : DSrc X R e t1 f) (h2 : DSrc X R e2 t2 g) (h3 : DSrc X R e3 t3 h) (hs : starEach [e, e2, e3] X.env = (false, eval e X.env) :: starEach [e2, e3] X.env := by rfl) (hs2 : starEach [e2, e3] X.env = (false, eval e2 X.env) :: starEach [e3] X.env := by rfl) (hs3 : starEach [e3] X.env = (false, eval e3 X.env) :: starEach [] X.env := by rfl)
    (hpl : (backTo pos (starEach [e2, e3] X.env)).any (·.1) = false := by rfl) :
    DI X R (.Tuple elts kk tpos) (.Call (.Name "zip" p) [e, e2, e3] [] pos) (iZipK3 X.K (tCons t1 (tCons t2 (tCons t3 tNil)))) (iZip3F f g h) := ⟨pi_zipK3 hgl hm (pa_cons h1.pe (pa_cons h2.pe (pa_cons h3.pe pa_nil hs3) hs2) hs) hs hpl, fun L E ρ σ F H rs its lk rs' Rq r hf k => by
  obtain ⟨⟨xs, lk1⟩, rs1, e1, hf1⟩ := bnd_some hf
  obtain ⟨⟨ys, lk2⟩, rs2, e2, hf2⟩ := bnd_some hf1
  obtain ⟨⟨us, lk3⟩, rs3, e3, hf3⟩ := bnd_some hf2
  obtain ⟨l, rs4, e4, hf4⟩ := bnd_some hf3
  obtain ⟨e5, q5⟩ := lft_some e4
  obtain ⟨l2, rs5, e6, hf5⟩ := bnd_some hf4
  obtain ⟨e7, q7⟩ := lft_some e6
  obtain ⟨e8, q8⟩ := ret_some hf5
  cases e8
  subst q8 q7 q5
  obtain ⟨j1, j2⟩ := joinLk_l e5
  obtain ⟨j4, j3⟩ := joinLk_l e7
  have up : ∀ {k : Option Nat}, (k = none ∨ k = l) → k = none ∨ k = lk := fun {k} z => by
    rcases z with z | z
    · exact .inl z
    · rcases j4 with y | y
      · exact .inl (z.trans y)
      · exact .inr (z.trans y)
  refine h1.sem L E ρ σ F H rs xs lk1 rs1 _ r e1 fun v1 F1 H1 s1 g1 => ?_
  have r1 := r.step s1
  refine h2.sem L E ρ σ F1 H1 rs1 ys lk2 _ _ r1 e2 fun v2 F2 H2 s2 g2 => ?_
  have r2 := r1.step s2
  have s12 := s1.trans r.row s2
  refine h3.sem L E ρ σ F2 H2 rs2 us lk3 _ _ r2 e3 fun v3 F3 H3 s3 g3 => ?_
  have r3 := r2.step s3
  have s13 := s12.trans r.row s3
  obtain ⟨a, vs, kd, P, rfl, hd, pn, hG⟩ := (((g1.step s2).step s3).any (up j1)).pin r
  obtain ⟨b, ws, kd2, P2, rfl, hd2, pn2, hG2⟩ := (((g2.older fun a q => s1.back r.row q).step s3).any (up j2)).pin r
  obtain ⟨c, zs, kd3, P3, rfl, hd3, pn3, hG3⟩ := ((g3.older fun a q => s12.back r.row q).any j3).pin r
  have w1 : ∀ c o, P c = some o → H3 c = some o := fun c o q => (pn c o q).1
  have w2 : ∀ c o, P2 c = some o → H3 c = some o := fun c o q => (pn2 c o q).1
  have w3 : ∀ c o, P3 c = some o → H3 c = some o := fun c o q => (pn3 c o q).1
  have w12 : ∀ c o, addH P P2 c = some o → H3 c = some o := fun c o q => by
    rcases addH_or q with z | z
    · exact w1 c o z
    · exact w2 c o z
  refine ⟨kd, kd2, kd3, a, b, c, vs, ws, zs, rfl, hG H3 w1 r3.fr, hG2 H3 w2 r3.fr, hG3 H3 w3 r3.fr, k _ F3 H3 s13 ⟨fun H => SqK kd X.K H a vs ∧ SqK kd2 X.K H b ws ∧ SqK kd3 X.K H c zs, YTrip (fun i => vs[i]?) (fun i => ws[i]?) (fun i => zs[i]?), addH (addH P P2) P3, ?_, ?_, ?_, ?_⟩⟩
  · exact walk_zipK3 kd kd2 kd3 (by rw [zip3D_len, hd.len, hd2.len, hd3.len])
  · intro c o e
    rcases addH_or e with z | z
    · rcases addH_or z with z | z
      · exact pn c o z
      · exact pn2 c o z
    · exact pn3 c o z
  · intro H4 q1 q2
    have a12 := addH_l q1
    exact ⟨hG H4 (addH_l a12) q2, hG2 H4 (addH_r w1 w2 a12) q2, hG3 H4 (addH_r w12 w3 q1) q2⟩
  · intro i H4 w H5 F4 hi q1 q2 y
    obtain ⟨T, x, y, z, rfl, hT, rfl, ex, ey, ez⟩ := y
    have hi' : i < (zip3D xs ys us).length := hi
    rw [zip3D_len] at hi'
    have hx : xs[i]? = some (xs[i]'(by omega)) := List.getElem?_eq_getElem (by omega)
    have hy : ys[i]? = some (ys[i]'(by omega)) := List.getElem?_eq_getElem (by omega)
    have hz : us[i]? = some (us[i]'(by omega)) := List.getElem?_eq_getElem (by omega)
    obtain ⟨a1, hw1, hdw1⟩ := hd.get hx
    obtain ⟨a2, hw2, hdw2⟩ := hd2.get hy
    obtain ⟨a3, hw3, hdw3⟩ := hd3.get hz
    have ex' : vs[i]? = some x := ex
    have ey' : ws[i]? = some y := ey
    have ez' : zs[i]? = some z := ez
    rw [ex'] at hw1
    rw [ey'] at hw2
    rw [ez'] at hw3
    cases hw1
    cases hw2
    cases hw3
    exact ⟨_, zip3D_get xs ys us i _ _ _ hx hy hz, .inr ⟨T, _, _, rfl, hT, rfl, rfl, .cons (Dp.mono q1 _ _ hdw1) (.cons (Dp.mono q1 _ _ hdw2) (.cons (Dp.mono q1 _ _ hdw3) .nil))⟩⟩⟩
end
end DV

namespace DV
open PySem L2
section
variable {X : Cx} {K : PySem.W.Frag} {R : RA} {L : Nat → Option (Addr × List V)} {E F F' H H' : Hp} {ρ ρ' : Env} {σ σ' : L2.St} {rs rs' : RS}
variable {S S' S1 : List Nat} {tg it tg1 it1 elt e c : Expr} {es ifs ifs1 : List Expr} {g g1 : TG} {hg hg1 : D → Env → Option Env} {pos p : Pos} {tt tt1 : TT} {te : TE} {wi wi1 : TI}
def lc2F (tg : D → Env → Option Env) (tst : Env → M Bool) (fi1 : Env → M (List D × Option Nat)) (vs1 : List Nat) (tg1 : D → Env → Option Env) (tst1 : Env → M Bool) (el : Env → M RV) (ρ : Env) : List D → M (List D)
  | [] => ret []
  | x :: xs => bnd (lft (tg x ρ)) fun ρ1 => bnd (tst ρ1) fun b => if b = true then bnd (fi1 ρ1) fun q => bnd (lcF tg1 tst1 el (wipeE ρ1 vs1) q.1) fun d1 => bnd (lc2F tg tst fi1 vs1 tg1 tst1 el ρ xs) fun ds => ret (d1 ++ ds) else lc2F tg tst fi1 vs1 tg1 tst1 el ρ xs
def eLc2 (fi : Env → M (List D × Option Nat)) (vs : List Nat) (tg : D → Env → Option Env) (tst : Env → M Bool) (fi1 : Env → M (List D × Option Nat)) (vs1 : List Nat) (tg1 : D → Env → Option Env) (tst1 : Env → M Bool) (el : Env → M RV) : Env → M RV := fun ρ =>
  bnd (fi ρ) fun p => bnd (lc2F tg tst fi1 vs1 tg1 tst1 el (wipeE ρ vs) p.1) fun ds => if ds.length ≤ 100000 then ret (.n ds) else fail
theorem OwnOld.wipe : ∀ (vs : List Nat) {H : Hp} {ρ : Env} {σ : L2.St}, OwnOld H ρ σ → OwnOld H (wipeE ρ vs) (L2.wipe σ vs)
  | [], _, _, _, h => h
  | v :: vs, H, ρ, σ, h => fun m es a e1 ow e2 => by
    have e1' : ((wipeE ρ vs).set v none)[m]? = some (some es) := e1
    have e2' : ((L2.wipe σ vs).set v none)[m]? = some (some (V.ref a)) := e2
    by_cases hm : m = v
    · subst hm
      have hl : m < (wipeE ρ vs).length := by
        have := (List.getElem?_eq_some_iff.mp e1').1
        rw [List.length_set] at this
        exact this
      rw [List.getElem?_set_self hl] at e1'
      cases e1'
    · rw [List.getElem?_set_ne (Ne.symm hm)] at e1' e2'
      exact OwnOld.wipe vs h m es a e1' ow e2'
end
end DV

namespace DV
open PySem L2 PySem.W
section
variable {X : Cx} {K : PySem.W.Frag} {R : RA}
def cmpOk (d e : D) : Bool := alike d e && (!isNoneD d && decide (d.depth ≤ 60))
theorem cmpOk_of {d e : D} (h : cmpOk d e = true) : alike d e = true ∧ d ≠ .none ∧ d.depth ≤ 60 := by
  unfold cmpOk at h
  simp only [Bool.and_eq_true, decide_eq_true_eq] at h
  refine ⟨h.1, fun q => ?_, h.2.2⟩
  have := h.2.1
  rw [q] at this
  cases this
def gCmpA (ki : Int → Int → Bool) (kd : D → D → Bool) : RV → RV → Option RV := fun x y => match asInt x, asInt y with
  | some i, some j => some (.d (.bool (ki i j)))
  | _, _ => match viewD x, viewD y with
    | some d, some e => if cmpOk d e = true then some (.d (.bool (kd d e))) else none
    | _, _ => none
abbrev gLtA := gCmpA (fun i j => decide (i < j)) dataLt
abbrev gGtA := gCmpA (fun i j => decide (j < i)) fun d e => dataLt e d
abbrev gLeA := gCmpA (fun i j => decide (i ≤ j)) fun d e => !dataLt e d
abbrev gGeA := gCmpA (fun i j => decide (j ≤ i)) fun d e => !dataLt d e
end
end DV

namespace DV
open PySem L2 PyProof.Rows
section
variable {X : Cx} {K : PySem.W.Frag} {R : RA} {L : Nat → Option (Addr × List V)} {E F F' H H' : Hp} {ρ ρ' : Env} {σ σ' : L2.St} {rs rs' : RS} {pos : Pos}
def sPar4 (i j l m : Nat) (fa : Env → M (List RV)) : Env → M Out := fun ρ => bnd (fa ρ) fun xs => match xs with
  | [x, y, z, w] => bnd (lft (toS x)) fun sx => bnd (lft (toS y)) fun sy => bnd (lft (toS z)) fun sz => bnd (lft (toS w)) fun sw => ret (.nx ((((ρ.set i (some sx)).set j (some sy)).set l (some sz)).set m (some sw)))
  | _ => fail
end
end DV

namespace DV
open PySem L2 LamX PyProof.Rows PySem.Spec
abbrev lmObj (q : Str) (params : Arguments) (body : Expr) (scope : Scope) (cl : List (Str × Addr)) (pm : Value) (c' : Addr) (ctv : Value) : Obj := PySem.W.kla_obj "<lambda>" q params body scope cl pm c' ctv
section
variable {X : Cx} {pins : List (Addr × Obj)} {σ : L2.St} {H : Hp} {s : Shared}
/-- all stays but the table at P; what is new was not tracked -/
structure Grown (T : List (Addr × Str)) (P : Addr) (H H1 : Hp) : Prop where
  keep : ∀ b o, b ≠ P → H b = some o → H1 b = some o
  old : ∀ b, H1 b = none → H b = none
  tabs : Tabs T H1
/-- the lambda's object is made -/
theorem lam_mk {T : List (Addr × Str)} {c P : Addr} {params : Arguments} {body : Expr} {scope : Scope} {pos : Pos} {Er : Value → Shared → Prop} {Q : Value → Shared → Prop} (I : Inv X pins σ H s) (tb : TabB X.base X.mg c P) (ec : X.env.code = .ref c)
    (mem : (P, X.env.qual ++ "<lambda>") ∈ T) (uni : ∀ p ∈ T, p.1 = P → p.2 = X.env.qual ++ "<lambda>") (tabs : Tabs T H) (noDef : defaultsOf params X.env = ([], [])) (fr : ∀ y ∈ scope.names, y.2 = .free → ∃ a, X.env.cells.lookup y.1 = some a)
    (go : ∀ (f c' : Addr) (pm ctv : Value) (H1 : Hp) (s1 : Shared), Inv X pins σ H1 s1 → Grown T P H H1 → s1.heap.get? f = some (lmObj (X.env.qual ++ "<lambda>") params body scope (cloFrom X.env.cells scope.names []) pm c' ctv) → H1 f = none → s.heap.objs.size ≤ f → (∀ b o, b ≠ P → s.heap.get? b = some o → s1.heap.get? b = some o) →
      H1 c' = some (CodeO c' (X.env.qual ++ "<lambda>")) → Q (.ref f) s1) :
    wpAny (model X.prog X.w) X.A (eval (.Lambda params body scope pos) X.env) Q Er s := by
  obtain ⟨ps, eP, tri, among⟩ := tabs _ mem
  have atP : s.heap.get? P = some { cls := .none, data := .fields ps } := I.hok P _ eP
  have blt := tb.bm.keeps I.bk
  have cod := tb.code.keeps I.bk
  have glo := I.mod.glob.keeps I.bk
  apply PySem.W.kla_eval noDef
  rcases hit : codeAmong pos ps.toList with _ | cv
  · refine PySem.W.kla_makeFunction (closure_ok fr) I.ok.glob glo ec cod atP tri hit tb.gP blt ?_
    intro c' ctv h1 tk ext ge lt rec tab
    obtain ⟨_, oc, vs, t, er, gc, dc, vc⟩ := rec
    cases er
    have fresh : H c' = none := I.hok.fresh ge
    have neq : P ≠ c' := ne_of_none eP fresh
    have J := inv_table (t' := tk) (c := c') (q := X.env.qual ++ "<lambda>") (more := #[rawInt pos.line, rawInt pos.col, .ref c']) (h' := h1.push (lmObj (X.env.qual ++ "<lambda>") params body scope (cloFrom X.env.cells scope.names []) ((X.mg "__name__").getD .none) c' ctv)) I eP
      (fun b o nb e => Heap.get?_push_of_some _ (ext b o nb e)) (Heap.get?_push_of_some _ tab) ge ⟨oc, vs, t, Heap.get?_push_of_some _ gc, dc, vc⟩
    have sz : s.heap.objs.size ≤ h1.objs.size := Nat.le_trans ge (Nat.le_of_lt lt)
    have lst : (ps ++ #[rawInt pos.line, rawInt pos.col, .ref c']).toList = ps.toList ++ [rawInt pos.line, rawInt pos.col, .ref c'] := by simp
    have kp : ∀ b o, b ≠ P → H b = some o → upd (upd H P (.tbl (ps ++ #[rawInt pos.line, rawInt pos.col, .ref c']))) c' (CodeO c' (X.env.qual ++ "<lambda>")) b = some o := fun b o nb e => by
      rw [upd_ne (ne_of_none e fresh), upd_ne nb]
      exact e
    have notP : ∀ c0 q, H c0 = some (CodeO c0 q) → c0 ≠ P := fun c0 q e z => by
      rw [z, eP] at e
      exact codeO_ne ps (Option.some.inj e).symm
    refine go h1.objs.size c' ((X.mg "__name__").getD .none) ctv _ _ J ⟨kp, fun b e => ?_, fun p hp => ?_⟩ (Heap.get?_push_size _ rfl) ?_ sz (fun b o nb e => Heap.get?_push_of_some _ (ext b o nb e)) upd_same
    · exact NdefX.upd_none (NdefX.upd_none e)
    · obtain ⟨a, q⟩ := p
      by_cases ha : a = P
      · subst ha
        have eq := uni _ hp rfl
        simp only at eq
        subst eq
        refine ⟨_, by rw [upd_ne neq, upd_same], by rw [lst]; exact PySem.TriplesOk_snoc _ _ _ _ tri, fun pos2 cv2 found => ?_⟩
        rw [lst] at found
        rcases among_app _ tri found with z | z
        · obtain ⟨c0, z1, z2⟩ := among pos2 cv2 z
          exact ⟨c0, z1, kp _ _ (notP _ _ z2) z2⟩
        · exact ⟨c', z, upd_same⟩
      · obtain ⟨ps2, z1, z2, z3⟩ := tabs _ hp
        refine ⟨ps2, kp _ _ ha z1, z2, fun pos2 cv2 found => ?_⟩
        obtain ⟨c0, y1, y2⟩ := z3 pos2 cv2 found
        exact ⟨c0, y1, kp _ _ (notP _ _ y2) y2⟩
    · rw [upd_ne (Nat.ne_of_gt lt), upd_ne (Nat.ne_of_gt (Nat.lt_of_lt_of_le (Heap.lt_size atP) sz))]
      exact I.hok.fresh sz
  · obtain ⟨c', rfl, isC⟩ := among pos cv hit
    refine PySem.W.kla_makeFunctionHit (closure_ok fr) I.ok.glob glo ec cod atP tri hit blt ?_
    intro ctv h1 tk ext sz
    exact go h1.objs.size c' ((X.mg "__name__").getD .none) ctv H _ (I.kept fun b o e => Heap.get?_push_of_some _ (ext b o e)) ⟨fun _ _ _ e => e, fun _ e => e, tabs⟩ (Heap.get?_push_size _ rfl) (I.hok.fresh sz) sz (fun b o _ e => Heap.get?_push_of_some _ (ext b o e)) isC
end
/-- one parameter x, no cell of its own; the captured ones are the maker's cells -/
structure LamP (sc scope : Scope) (x : Str) : Prop where
  kind : scope.kind = .function
  co : scope.isCoroutine = false
  gen : scope.isGenerator = false
  nocell : ∀ y ∈ scope.names, y.2 ≠ .cell
  own : ∀ y ∈ scope.names, y.2 = .local → y.1 = x
  par : scope.names.lookup x = some .local
  free : ∀ y ∈ scope.names, y.2 = .free → sc.names.lookup y.1 = some .cell ∨ sc.names.lookup y.1 = some .free
def lamPB (sc scope : Scope) (x : Str) : Bool :=
  decide (scope.kind = .function) && !scope.isCoroutine && !scope.isGenerator && (scope.names.all fun y => !decide (y.2 = .cell) && (!decide (y.2 = .local) || decide (y.1 = x)) && (!decide (y.2 = .free) || decide (sc.names.lookup y.1 = some .cell) || decide (sc.names.lookup y.1 = some .free))) && decide (scope.names.lookup x = some .local)
theorem lamP_by {sc scope : Scope} {x : Str} (h : lamPB sc scope x = true) : LamP sc scope x := by
  unfold lamPB at h
  simp only [Bool.and_eq_true, Bool.or_eq_true, Bool.not_eq_true', decide_eq_true_eq, decide_eq_false_iff_not, List.all_eq_true] at h
  obtain ⟨⟨⟨⟨a1, a2⟩, a3⟩, a4⟩, a5⟩ := h
  refine ⟨a1, a2, a3, fun y m => (a4 y m).1.1, fun y m e => ?_, a5, fun y m e => ?_⟩
  · exact (a4 y m).1.2.resolve_left fun z => z e
  · rcases (a4 y m).2 with (z | z) | z
    · exact absurd e z
    · exact .inl z
    · exact .inr z
/-- the context of its body -/
abbrev lamC (X : Cx) (A : Around) (s : Shared) (H : Hp) (scope : Scope) (f c' : Addr) : Cx := (lamCx X A X.stack s H (fun _ _ _ => False) scope f c').nox
section
variable {X : Cx} {pins : List (Addr × Obj)} {σ : L2.St} {H : Hp} {s : Shared}
theorem lam_in {A : Around} {scope : Scope} {x : Str} {ip : Nat} {v : V} {u : Value} {f c' : Addr} {h₁ : Heap} {tk : Nat} (I : Inv X pins σ H s) (L : LamP X.env.scope scope x) (e0 : Env0 X.prog X.w X.K X.mg X.base A X.stack s H) (hd : A.handled = none)
    (nd : X.N.Nodup) (hip : X.N[ip]? = some x) (rv : L2.RelV v u)
    (hns : h₁.Ns s.heap.objs.size fun y => ([(x, u)] : List (Str × Value)).reverse.lookup y) (kp : ∀ b o, s.heap.get? b = some o → h₁.get? b = some o) :
    Inv (lamC X A s H scope f c') [] (σ.set ip (some v)) H { s with heap := h₁, toks := tk } := by
  have hfree : ∀ y ∈ scope.names, y.2 = .free → ∃ a, X.env.cells.lookup y.1 = some a := fun y m e => I.ok.has _ (L.free y m e)
  have cm : ∀ {y a}, (cloFrom X.env.cells scope.names []).lookup y = some a → X.env.cells.lookup y = some a := fun {y a} e => NdefX.clo_cm hfree e
  have look : ∀ {y}, scope.names.lookup y = some .free → ∃ a, (cloFrom X.env.cells scope.names []).lookup y = some a := fun {y} hl =>
    mem_lookup (cloFrom_has (cells := X.env.cells) (acc := []) (PySem.mem_of_lookup hl))
  have cellK : ∀ {a : Addr} {w : Option Value}, s.heap.IsCell a w → h₁.IsCell a w := fun {a w} ⟨o, ho, e⟩ => ⟨o, kp _ _ ho, e⟩
  have noA : ∀ b : Addr, b ∉ (lamC X A s H scope f c').ex := fun b z => absurd (show b ∈ ([] : List Addr) from z) (by simp)
  have ip_lt : ip < σ.length := by
    rw [I.len]
    exact (List.getElem?_eq_some_iff.mp hip).1
  refine ⟨⟨e0.mod, L.kind, rfl, rfl, Nat.le_refl _, fun y z a e1 e2 => I.ok.inj y z a (cm e1) (cm e2), fun y hy => ?_, fun y a z _ => ?_, fun _ => hd, Around.frames_deeper e0.frames, .inr ⟨rfl, rfl⟩, fun b z => absurd z (noA b), e0.bs, e0.bsz, fun b _ _ => noA b,
      fun b z => absurd z (noA b), e0.funs, e0.frf⟩,
    rfl, e0.bare, Un.kept kp, ⟨_, hns, fun i y w e1 e2 e3 => ?_⟩, fun y a e => ?_, e0.hok.fresh (Nat.le_refl _), fun y a e => I.freeC y a (cm e), fun q hq => absurd (show q ∈ ([] : List (Addr × Obj)) ++ [] from hq) (by simp), e0.hok.kept kp, by rw [List.length_set]; exact I.len⟩
  · have hy : scope.names.lookup y = some .cell ∨ scope.names.lookup y = some .free := hy
    rcases hy with hy | hy
    · exact absurd rfl (L.nocell _ (PySem.mem_of_lookup hy))
    · exact look hy
  · have z : false = true := z
    cases z
  · have e1 : X.N[i]? = some y := e1
    have e3 : Vis scope y := e3
    rcases e3 with k | k | k
    · have ey : y = x := L.own _ (PySem.mem_of_lookup k) rfl
      subst ey
      have ei := nodup_ix nd e1 hip
      subst ei
      rw [List.getElem?_set_self ip_lt] at e2
      cases e2
      exact ⟨u, rv, .inl ⟨k, by simp [List.lookup]⟩⟩
    · exact absurd rfl (L.nocell _ (PySem.mem_of_lookup k))
    · have ne : i ≠ ip := fun z => by
        subst z
        rw [hip] at e1
        cases e1
        rw [L.par] at k
        cases k
      rw [List.getElem?_set_ne (Ne.symm ne)] at e2
      obtain ⟨m, hn, hl⟩ := I.loc
      have hk := L.free _ (PySem.mem_of_lookup k) rfl
      have hvis : Vis X.env.scope y := hk.elim (fun k => .inr (.inl k)) (fun k => .inr (.inr k))
      obtain ⟨w', r, q⟩ := hl i y w e1 e2 hvis
      obtain ⟨c2, h2⟩ := look k
      refine ⟨w', r, .inr ⟨.inr k, c2, h2, ?_⟩⟩
      have c1 := cm h2
      rcases q with ⟨k', _⟩ | ⟨_, c3, e', z⟩
      · have k' : X.env.scope.names.lookup y = some .local := k'
        rcases hk with k2 | k2 <;> rw [show X.env.scope.names.lookup y = _ from k2] at k' <;> cases k'
      · rw [c1] at e'
        cases e'
        exact cellK z
  · obtain ⟨w', z⟩ := I.cell y a (cm e)
    exact ⟨w', cellK z⟩
/-- THE CALL f(v), no exception -/
theorem lam_call {A : Around} {k : Nat} {scope : Scope} {x : Str} {ip : Nat} {v : V} {u : Value} {f c' : Addr} {params : Arguments} {body : Expr} {pm ctv : Value} {tb : TE} {Q : VK} (I : Inv X pins σ H s) (L : LamP X.env.scope scope x) (e0 : Env0 X.prog X.w X.K X.mg X.base A X.stack s H) (hr : Room (k + 1) A)
    (nd : X.N.Nodup) (hip : X.N[ip]? = some x) (rv : L2.RelV v u) (of : s.heap.get? f = some (lmObj (X.env.qual ++ "<lambda>") params body scope (cloFrom X.env.cells scope.names []) pm c' ctv)) (hc : H c' = some (CodeO c' (X.env.qual ++ "<lambda>")))
    (hbind : ∀ u : Value, bindArgs (PySem.W.kla_fn "<lambda>" (X.env.qual ++ "<lambda>") params body scope (cloFrom X.env.cells scope.names []) pm (.ref c') ctv) ⟨[u], []⟩ = pure [(x, u)])
    (hbody : Room k (lamC X A s H scope f c').A → PE (lamC X A s H scope f c') body tb) (ht : tb (σ.set ip (some v)) H Q) :
    codeAny (model X.prog X.w) A (.call (.ref f) ⟨[u], []⟩) (fun r s' => ∃ w, r = .ok (.ret w) ∧ CE X.stack X.prog X.w H s Q w s') s := by
  refine PySem.W.kla_callFunE hr.depth of rfl L.co L.gen rfl (NdefX.codeO_at I.hok hc) ?_
  rw [hbind u]
  refine wpAny_pure (wpAny_newFunctionEnv L.nocell (fun y hy => ?_) (fun h₁ hns hsb => ⟨I.nolimit.fresh _ hsb, ?_⟩) L.kind)
  · rw [List.mem_singleton] at hy
    subst hy
    exact L.par
  show codeAny _ _ (.expr body (lamEnv X scope s.heap.objs.size f c')) _ _
  have kp : ∀ b o, s.heap.get? b = some o → h₁.get? b = some o := fun b o e => hsb.extBut b o (Nat.ne_of_lt (Heap.lt_size e)) (Heap.get?_push_of_some _ e)
  have J := lam_in (f := f) (c' := c') (tk := s.toks + ([(x, u)] : List (Str × Value)).length) I L e0 hr.hd nd hip rv hns kp
  refine PySem.W.kla_codeExpr (wpAny_mono ((hbody (hr.deeper _)).run [] _ _ H Q J ht) (fun w s' hq => ?_) fun e s' hq => hq.elim)
  obtain ⟨w', H', J', rw', q⟩ := hq
  exact ⟨w, rfl, w', H', J'.os, J'.bare, J'.base, J'.hok, rw', q⟩
end
end DV

namespace DV
open PySem L2 LamX PyProof.Rows PySem.Spec PySem.W
section
variable {X : Cx} {pins : List (Addr × Obj)} {σ : L2.St} {H : Hp} {s s0 : Shared}
/-- what may be pinned -/
structure Aside (X : Cx) (b : Addr) (o : Obj) : Prop where
  nl : b ≠ X.env.locals
  nf : b ∉ X.fs
  nc : ∀ v, o.data ≠ .cell v
theorem Aside.pin {b : Addr} {o : Obj} (a : Aside X b o) (h1 : s.heap.get? b = some o) (h2 : H b = none) : s.heap.get? b = some o ∧ H b = none ∧ b ≠ X.env.locals ∧ b ∉ X.fs ∧ ∀ v, o.data ≠ .cell v := ⟨h1, h2, a.nl, a.nf, a.nc⟩
theorem aside_new {b : Addr} {o : Obj} (I : Inv X pins σ H s0) (hb : s0.heap.objs.size ≤ b) (nc : ∀ v, o.data ≠ .cell v) : Aside X b o := by
  have q := I.fpOk (H' := fun _ => none) hb rfl
  exact ⟨q.2.1, q.2.2.1, nc⟩
abbrev lstO (a : Array Value) (e : Nat) : Obj := seqObj "list" a e
theorem lst_nc {a : Array Value} {e : Nat} : ∀ v, (lstO a e).data ≠ .cell v := fun v z => by cases z
end
end DV


namespace DV
open PySem L2 LamX PyProof.Rows PySem.Spec PySem.W
/-- where the lambda is made -/
structure LamAt (X : Cx) (P : Addr) (q : Str) (params : Arguments) (scope : Scope) (x : Str) (ip : Nat) : Prop where
  cod : ∃ c, TabB X.base X.mg c P ∧ X.env.code = .ref c
  mem : (P, q) ∈ tabsOf X.K
  uni : ∀ p ∈ tabsOf X.K, p.1 = P → p.2 = q
  qual : X.env.qual ++ "<lambda>" = q
  par : LamP X.env.scope scope x
  slot : X.N[ip]? = some x
  noDef : defaultsOf params X.env = ([], [])
  bind : ∀ (qn : Str) (body : Expr) (cl : List (Str × Addr)) (pm cd ct u : Value), bindArgs (PySem.W.kla_fn "<lambda>" qn params body scope cl pm cd ct) ⟨[u], []⟩ = pure [(x, u)]
def colS (f : Env → M RV) : Env → M (List D) := fun ρ => bnd (f ρ) fun x => lft (items x)
def colR (f : Env → M (Int × Int)) : Env → M (List D) := fun ρ => bnd (f ρ) fun x => if okRg x.1 x.2 = true then ret (rngD x.1 (x.2 - x.1).toNat) else fail
section
variable {X : Cx} {R : RA} {K : PySem.W.Frag} {e : Expr} {te : TE}
/-- data alone -/
def asD : RV → Option D
  | .d d => some d
  | _ => none
/-- the keys -/
def keysF (el : Env → M RV) (ρ : Env) (ip : Nat) : List D → M (List D)
  | [] => ret []
  | x :: xs => bnd (el (ρ.set ip (some (.d x)))) fun y => bnd (lft (asD y)) fun d => bnd (keysF el ρ ip xs) fun ds => ret (d :: ds)
def eSortK (fi : Env → M (List D)) (el : Env → M RV) (ip : Nat) : Env → M RV := fun ρ => bnd (fi ρ) fun its => bnd (keysF el ρ ip its) fun kz => if okKeys kz = true ∧ its.length ≤ 100000 then ret (.n (sortK its kz)) else fail
/-- a table has grown -/
theorem Step.grown {rs : RS} {F H H2 : Hp} {P : Addr} {q : Str} (s : Step K R rs F H F H) (hP : (P, q) ∈ tabsOf K) (G : Grown (tabsOf K) P H H2) : Step K R rs F H F H2 := by
  obtain ⟨ps, eP⟩ := tabs_at s.row.tab hP
  have ne : ∀ a o, H a = some o → Fx K a o → a ≠ P := fun a o e n z => by
    subst z
    rw [eP] at e
    cases e
    rcases n with n | n
    · exact n ps rfl
    · exact n q hP
  refine ⟨fun a o e _ n => G.keep a o (ne a o e n) e, fun _ _ h => h, fun _ _ h => .inl h, fun a o e => G.keep a o (ne a o (s.fin a o e) (s.row.fnt a o e)) (s.fin a o e), ⟨fun r e => ?_, G.tabs, s.row.fnt⟩, s.rF⟩
  obtain ⟨a, e1, e2, e3⟩ := s.row.at_ r e
  exact ⟨a, G.keep _ _ (ne _ _ e1 .lst) e1, e2, e3⟩
end
end DV

namespace DV
open PySem L2 LamX PyProof.Rows PySem.Spec
/-- a def that makes lambdas: its code object, its table -/
structure LamFn (K : PySem.W.Frag) (mg : Str → Option Value) (base : Heap) (fd : FuncData) (q : Str) (P : Addr) : Prop where
  cod : ∃ c, TabB base mg c P ∧ fd.code = .ref c
  mem : (P, q) ∈ tabsOf K
  uni : ∀ p ∈ tabsOf K, p.1 = P → p.2 = q
theorem LamFn.at {X : Cx} {fd : FuncData} {q : Str} {P : Addr} {params : Arguments} {scope : Scope} {x : Str} {ip : Nat} (G : LamFn X.K X.mg X.base fd q P) (hcd : fd.code = X.env.code) (hq : X.env.qual ++ "<lambda>" = q) (par : lamPB X.env.scope scope x = true) (slot : X.N[ip]? = some x)
    (noDef : defaultsOf params X.env = ([], [])) (bind : ∀ (qn : Str) (body : Expr) (cl : List (Str × Addr)) (pm cd ct u : Value), bindArgs (PySem.W.kla_fn "<lambda>" qn params body scope cl pm cd ct) ⟨[u], []⟩ = pure [(x, u)]) : LamAt X P q params scope x ip :=
  ⟨by obtain ⟨c, h1, h2⟩ := G.cod; exact ⟨c, h1, hcd.symm.trans h2⟩, G.mem, G.uni, hq, lamP_by par, slot, noDef, bind⟩
/-- the end: the tables of the defs named are empty at first -/
theorem walk_lam {l : PySem.W.OpenLaw} {n k : Nat} {q : Program} {loose : List Str} {XP : (Str → Option Value) → Heap → Prop} {YP : World → Heap → Prop} {d : DefRec} {K : Params → PySem.W.Frag} {x : Str} (names : List Str)
    (hn : l.most = some n) (hn2 : n ≤ sizeLine) (hdf : d.params.defaults = []) (hr : Room k callerA) (hrec : names.all (fun y => (recsOf q).any fun e => e.name == y) = true) (hY : ∀ (w : World) (h : Heap), YP w h → (K w.params).In h)
    (go : ∀ (w : World) (mg : Str → Option Value) (fa : Addr) (h : Heap), (K w.params).In h → h.Ns mainGlobals mg → mg d.name = some (.ref fa) → (∀ y ∈ names, ∀ a, mg y = some (.ref a) → OwnTab (K w.params) a h) → LawAtS l w (K w.params) CX0 k n x mg fa h) :
    PySem.W.WalkO q loose XP YP l.row.toRowW d [] (fun f vs => PySem.call f vs) := by
  refine Att.attach_callB hn hdf fun w s₀ s1 mg mb fa o pm cd doc a vs ns top Y ho hd hcd hmg isList areInts most bits nog => ?_
  have inK := hY w _ Y
  have tabs : ∀ y ∈ names, ∀ b, mg y = some (.ref b) → OwnTab (K w.params) b s1.heap := fun y hy b eb c P o1 fd1 e dd vs1 sl k1 k2 k3 k4 k5 => by
    obtain ⟨r, hm, en⟩ := List.any_eq_true.mp (List.all_eq_true.mp hrec y hy)
    obtain ⟨b2, o2, fd2, c2, P2, h1, h2, h3, h4, h5, ⟨⟨o3, vs3, e1, e2, e3, e4⟩, e5⟩⟩ := top.T.tab r hm
    rw [beq_iff_eq.mp en, eb] at h1
    cases h1
    cases (inK _ _ k1).symm.trans h2
    cases k2.symm.trans h3
    cases k3.symm.trans h4
    cases (inK _ _ k4).symm.trans e1
    cases e3
    cases k5.symm.trans e4
    exact e5
  obtain ⟨fd, cs, sp, t1, t2, t3, bnd, pro, ok⟩ := go w mg fa _ inK top.T.g hmg tabs
  exact law_callTs inK top.T.g top.T.b top.T.builtins top.T.nolimit nog t1 t2 t3 top.T.bmain isList areInts (Nat.le_trans most hn2) hr ok bnd (fun H h1 h2 => pro H a ns most bits h1 h2) fun H e s' z => z
/-- the makers of a law: code object, table, name -/
structure Mk3 where
  c : Addr
  P : Addr
  q : Str
theorem tabs_of {K : PySem.W.Frag} {H : Hp} {ms : List Mk3} (h : (tabsOf K).all (fun p => ms.any fun m => m.P == p.1) = true) (e : ∀ m ∈ ms, H m.P = some (.tbl #[])) : Tabs (tabsOf K) H := fun p hp => by
  obtain ⟨m, hm, e1⟩ := List.any_eq_true.mp (List.all_eq_true.mp h p hp)
  rw [← beq_iff_eq.mp e1]
  exact TabS.nil (e m hm)
theorem uni_of {K : PySem.W.Frag} {P : Addr} {q : Str} (h : (tabsOf K).all (fun p => !(p.1 == P) || p.2 == q) = true) : ∀ p ∈ tabsOf K, p.1 = P → p.2 = q := fun p hp e => by
  have z := List.all_eq_true.mp h p hp
  rw [e] at z
  simpa using z
theorem mem_of_ {K : PySem.W.Frag} {P : Addr} {q : Str} (h : ((tabsOf K).any fun p => p.1 == P && p.2 == q) = true) : (P, q) ∈ tabsOf K := by
  obtain ⟨p, hp, e⟩ := List.any_eq_true.mp h
  simp only [Bool.and_eq_true, beq_iff_eq] at e
  obtain ⟨e1, e2⟩ := e
  rw [← e1, ← e2]
  exact hp
end DV

namespace DV
open PySem L2 PyProof.Rows
section
variable {K : PySem.W.Frag} {R : RA}
def gIsBl (neg : Bool) : RV → RV → Option RV := fun x y => match asBool x, asBool y with
  | some a, some b => some (.d (.bool (if neg then !decide (a = b) else decide (a = b))))
  | _, _ => none
end
end DV

namespace RevT
open PySem PySem.Spec PyProof.Rows HT
section
variable {prog : Program} {w : World} {A : Around} {E : Value → Shared → Prop} {s : Shared}
theorem adj (n : Nat) : Builtin.Slice.sliceAdjust none none (-1) (n : Int) = ((n : Int) - 1, -1) := rfl
theorem plc (n : Nat) : Builtin.Slice.slicePlaces ((n : Int) - 1) (-1) (-1) = n := by
  unfold Builtin.Slice.slicePlaces
  rw [if_neg (by decide)]
  by_cases h : n = 0
  · subst h
    rfl
  · rw [if_pos (by omega)]
    have e : ((n : Int) - 1 - -1 - 1) / (- -1) + 1 = (n : Int) := by
      rw [show (- -1 : Int) = 1 by decide, Int.ediv_one]
      omega
    rw [e, Int.toNat_natCast]
theorem picks (xs : Array Value) : ((List.range xs.size).filterMap fun (m : Nat) => xs[(((xs.size : Int) - 1) + (m : Int) * (-1)).toNat]?).toArray = xs.toList.reverse.toArray := by
  congr 1
  have e1 : (List.range xs.size).filterMap (fun (m : Nat) => xs[(((xs.size : Int) - 1) + (m : Int) * (-1)).toNat]?) = ((List.range xs.size).map fun k => xs.size - 1 - k).filterMap (xs[·]?) := by
    have e2 : (List.range xs.size).map (fun m : Nat => (((xs.size : Int) - 1) + (m : Int) * (-1)).toNat) = (List.range xs.size).map fun k => xs.size - 1 - k := by
      refine List.map_congr_left fun m hm => ?_
      have := List.mem_range.mp hm
      omega
    rw [← e2, List.filterMap_map]
    rfl
  rw [e1, PySem.W.krv_range, List.filterMap_reverse, PySem.W.krv_all]
theorem applied {sl : Addr} {k : Tok} {n : Nat} {Q : Int × Int × Nat → Shared → Prop} (hS : s.heap.IsSliceOf sl .none .none (.int (-1) k)) (hq : Q ((n : Int) - 1, -1, n) s) : wpAny (model prog w) A (Builtin.Slice.sliceApplied (.ref sl) (pure (n : Int))) Q E s := by
  obtain ⟨ob, o1, o2, o3⟩ := id hS
  unfold Builtin.Slice.sliceApplied Builtin.Slice.sliceFields
  refine wpAny_bind (wpAny_bind (wpAny_field o1 o3 (x := Value.none) rfl (wpAny_bind (wpAny_field o1 o3 (x := Value.none) rfl (wpAny_bind (wpAny_field o1 o3 (x := Value.int (-1) k) rfl (wpAny_pure ?_)))))))
  refine wpAny_bind (slicePart_int ?_)
  show wpAny _ _ (if ((-1 : Int) == 0) = true then _ else _) _ _ s
  rw [if_neg (by decide)]
  refine wpAny_bind (slicePart_none (wpAny_bind (slicePart_none (wpAny_bind (wpAny_pure ?_)))))
  show wpAny _ _ (match Builtin.Slice.sliceAdjust none none (-1) (n : Int) with | (a, b) => pure (a, (-1 : Int), Builtin.Slice.slicePlaces a b (-1))) _ _ s
  rw [adj]
  show wpAny _ _ (pure ((n : Int) - 1, (-1 : Int), Builtin.Slice.slicePlaces ((n : Int) - 1) (-1) (-1))) _ _ s
  rw [plc]
  exact wpAny_pure hq
theorem turned {t sl : Addr} {items : Array Value} {k : Tok} {Q : Value → Shared → Prop} (hT : IsTup s.heap t items) (hS : s.heap.IsSliceOf sl .none .none (.int (-1) k))
    (hq : Q (.ref s.heap.objs.size) { s with heap := s.heap.push { cls := .type "tuple", data := .seq items.toList.reverse.toArray } }) (hz : items.size ≤ sizeLine) : wpAny (model prog w) A (getItem (.ref t) (.ref sl)) Q E s := by
  have fits : sizeOk (.seq items.toList.reverse.toArray) := by
    show items.toList.reverse.toArray.size ≤ sizeLine
    rw [List.size_toArray, List.length_reverse, Array.length_toList]
    exact hz
  obtain ⟨ob, o1, o2, o3⟩ := id hS
  have isS : s.TypeIs (.ref sl) "slice" := ⟨ob, o1, o2⟩
  unfold getItem
  try with_reducible refine wpAny_holding ?_
  first
    | refine wpAny_bind (wpAny_pure ?_)
    | skip
  refine wpAny_bind (wpAny_sequenceKey hT.typeIs (by decide) ?_)
  refine wpAny_bind (wpAny_callSpecial?_slot (name := Str.ofString "__getitem__") hT.typeIs slot_tuple_getitem
    (wpAny_call_entry slot_tuple_getitem hT.typeIs entry_tuple_getitem ?_ (args_tuple_getitem _ _)))
  show wpAny _ _ (Builtin.Tuple.tupleItemsOf (.ref t) >>= _) _ _ s
  refine wpAny_bind (tupleItemsOf_ hT ?_)
  refine wpAny_bind (wpAny_typeOf isS ?_)
  rw [if_pos (by decide)]
  refine wpAny_bind (applied hS ?_)
  have ne : ¬ ((((items.size : Int) - 1) == 0 && (-1 : Int) == 1 && items.size == items.size) = true) := fun q => by
    rw [Bool.and_eq_true, Bool.and_eq_true] at q
    exact absurd q.1.2 (by decide)
  show wpAny _ _ (if (((items.size : Int) - 1) == 0 && (-1 : Int) == 1 && items.size == items.size) = true then _ else _) _ _ s
  rw [if_neg ne, picks]
  first
    | exact wpAny_bind (m := Builtin.Tuple.tupleExact _) (wpAny_newObj_type (wpAny_pure ⟨_, rfl, wpAny_pure hq⟩) fits)
    | exact wpAny_bind (m := Builtin.Tuple.tupleExact _) (wpAny_newObj_type (wpAny_bind (wpAny_pure (wpAny_pure ⟨_, rfl, wpAny_pure hq⟩))) fits)
    | exact wpAny_bind (wpAny_bind (m := Builtin.Tuple.tupleExact _) (wpAny_newObj_type (wpAny_pure (wpAny_pure ⟨_, rfl, wpAny_pure hq⟩)) fits))
    | exact wpAny_bind (wpAny_bind (m := Builtin.Tuple.tupleExact _) (wpAny_newObj_type (wpAny_pure ⟨_, rfl, wpAny_pure hq⟩) fits))
end
end RevT


namespace DV
open PySem L2 LamX PyProof.Rows PySem.Spec PySem.W
/-- a state that X may be in -/
def AtX (X : Cx) (H : Hp) (s : Shared) : Prop := ∃ pins σ, Inv X pins σ H s
/-- the best item so far, with its key; C: what stands at each turn -/
def kBest (K : PySem.W.Frag) (C : Hp → Prop) (bt : D → D → Bool) (tb : TE) (σ : L2.St) (ip : Nat) : List V → V → V → D → Hp → VK → Prop
  | [], b, _, _, H, Q => C H ∧ Q b H
  | v :: vs, b, kb, db, H, Q => C H ∧ tb (σ.set ip (some v)) H fun kv H1 => ∃ d, Dp K H1 kv d ∧ Dp K H1 kb db ∧ cmpOk d db = true ∧
      (if bt d db = true then kBest K C bt tb σ ip vs v kv d H1 Q else kBest K C bt tb σ ip vs b kb db H1 Q)
def kBest0 (K : PySem.W.Frag) (C : Hp → Prop) (bt : D → D → Bool) (tb : TE) (σ : L2.St) (ip : Nat) : List V → Hp → VK → Prop
  | [], _, _ => False
  | v :: vs, H, Q => C H ∧ tb (σ.set ip (some v)) H fun kv H1 => ∃ d, Dp K H1 kv d ∧ kBest K C bt tb σ ip vs v kv d H1 Q
abbrev ltB : D → D → Bool := fun d e => dataLt d e
theorem bst_upd {h : Heap} {T : Addr} {xs ys : Array Value} {e : Nat} (p : h.get? T = some (seqObj "list" xs e)) : ∃ e', (h.update T (Obj.mapSeq fun _ => ys)).get? T = some (seqObj "list" ys e') := ⟨_, get?_update_seq p fun _ => ys⟩
section
variable {X : Cx} {pins : List (Addr × Obj)} {σ : L2.St} {s0 : Shared} {H0 : Hp}
/-- the scratch list at T, the iterator at J, the lambda at f -/
def bPins (X : Cx) (T J f c' : Addr) (row : Array Value) (c : Nat) (oJ : Obj) (params : Arguments) (body : Expr) (scope : Scope) (pm ctv : Value) (pins : List (Addr × Obj)) : List (Addr × Obj) :=
  [(T, lstO row c), (J, oJ), (f, lmObj (X.env.qual ++ "<lambda>") params body scope (cloFrom X.env.cells scope.names []) pm c' ctv)] ++ pins
structure BAt (X : Cx) (s0 : Shared) (T J f l c' : Addr) (params : Arguments) (body : Expr) (scope : Scope) (pm ctv : Value) : Prop where
  hT : s0.heap.objs.size ≤ T
  hJ : s0.heap.objs.size ≤ J
  tj : T ≠ J
  fT : f ≠ T
  fJ : f ≠ J
  lT : l ≠ T
  lJ : l ≠ J
  lm : Aside X f (lmObj (X.env.qual ++ "<lambda>") params body scope (cloFrom X.env.cells scope.names []) pm c' ctv)
variable {T J f l c' : Addr} {params : Arguments} {body : Expr} {scope : Scope} {pm ctv : Value}
theorem bMem1 {row : Array Value} {c : Nat} {oJ : Obj} : (T, lstO row c) ∈ X.pn ++ bPins X T J f c' row c oJ params body scope pm ctv pins := List.mem_append_right _ (List.mem_append_left _ List.mem_cons_self)
theorem bMem2 {row : Array Value} {c : Nat} {oJ : Obj} : (J, oJ) ∈ X.pn ++ bPins X T J f c' row c oJ params body scope pm ctv pins := List.mem_append_right _ (List.mem_append_left _ (List.mem_cons_of_mem _ List.mem_cons_self))
theorem bMem3 {row : Array Value} {c : Nat} {oJ : Obj} : (f, lmObj (X.env.qual ++ "<lambda>") params body scope (cloFrom X.env.cells scope.names []) pm c' ctv) ∈ X.pn ++ bPins X T J f c' row c oJ params body scope pm ctv pins := List.mem_append_right _ (List.mem_append_left _ (List.mem_cons_of_mem _ (List.mem_cons_of_mem _ List.mem_cons_self)))
/-- the scratch list, the iterator may change -/
theorem bMove {row row2 : Array Value} {c c2 : Nat} {oJ oJ2 : Obj} {H : Hp} {s : Shared} {h' : Heap} {tk : Nat} (B : BAt X s0 T J f l c' params body scope pm ctv) (I0 : Inv X pins σ H0 s0) (nJ : ∀ v, oJ2.data ≠ .cell v)
    (I : Inv X (bPins X T J f c' row c oJ params body scope pm ctv pins) σ H s) (kp : ∀ b o, b ≠ T → b ≠ J → s.heap.get? b = some o → h'.get? b = some o) (eT : h'.get? T = some (lstO row2 c2)) (eJ : h'.get? J = some oJ2) :
    Inv X (bPins X T J f c' row2 c2 oJ2 params body scope pm ctv pins) σ H { s with heap := h', toks := tk } := by
  have pT := I.pin _ bMem1
  have pJ := I.pin _ bMem2
  have pF := I.pin _ bMem3
  have I1 : Inv X pins σ H s := I.pins_of fun p hp => I.pin p (List.mem_append_right _ (List.mem_append_right _ hp))
  have I2 : Inv X pins σ H { s with heap := h', toks := tk } := I1.turnedL (ch := [T, J]) (fun b o hb q => kp b o (fun z => hb (by simp [z])) (fun z => hb (by simp [z])) q) fun b hb => by
    simp only [List.mem_cons, List.not_mem_nil, or_false] at hb
    rcases hb with rfl | rfl
    · exact I0.fpOk B.hT pT.2.1
    · exact I0.fpOk B.hJ pJ.2.1
  refine I2.pins_of fun p hp => ?_
  rcases List.mem_append.mp hp with z | z
  · simp only [List.mem_cons, List.not_mem_nil, or_false] at z
    rcases z with rfl | rfl | rfl
    · exact ⟨eT, pT.2.1, pT.2.2.1, pT.2.2.2.1, lst_nc⟩
    · exact ⟨eJ, pJ.2.1, pJ.2.2.1, pJ.2.2.2.1, nJ⟩
    · exact ⟨kp f _ B.fT B.fJ pF.1, pF.2⟩
  · exact I2.pin p (List.mem_append_right _ z)
theorem bOut {row : Array Value} {c : Nat} {oJ : Obj} {H : Hp} {s : Shared} {h' : Heap} {tk : Nat} (B : BAt X s0 T J f l c' params body scope pm ctv) (I0 : Inv X pins σ H0 s0)
    (I : Inv X (bPins X T J f c' row c oJ params body scope pm ctv pins) σ H s) (kp : ∀ b o, b ≠ T → b ≠ J → s.heap.get? b = some o → h'.get? b = some o) : Inv X pins σ H { s with heap := h', toks := tk } := by
  have pT := I.pin _ bMem1
  have pJ := I.pin _ bMem2
  have I1 : Inv X pins σ H s := I.pins_of fun p hp => I.pin p (List.mem_append_right _ (List.mem_append_right _ hp))
  exact I1.turnedL (ch := [T, J]) (fun b o hb q => kp b o (fun z => hb (by simp [z])) (fun z => hb (by simp [z])) q) fun b hb => by
    simp only [List.mem_cons, List.not_mem_nil, or_false] at hb
    rcases hb with rfl | rfl
    · exact I0.fpOk B.hT pT.2.1
    · exact I0.fpOk B.hJ pJ.2.1

theorem min_loop {k : Nat} {x : Str} {ip : Nat} {tb : TE} {all : List V} {Q : VK} {Rz : Result → Shared → Prop} (B : BAt X s0 T J f l c' params body scope pm ctv) (I0 : Inv X pins σ H0 s0) (hr : Room (k + 1) X.A.in1) (L : LamP X.env.scope scope x) (nd : X.N.Nodup) (hip : X.N[ip]? = some x)
    (hbind : ∀ u : Value, bindArgs (PySem.W.kla_fn "<lambda>" (X.env.qual ++ "<lambda>") params body scope (cloFrom X.env.cells scope.names []) pm (.ref c') ctv) ⟨[u], []⟩ = pure [(x, u)])
    (hbody : ∀ (s : Shared) (H : Hp), AtX X H s → Room k (lamC X X.A.in1 s H scope f c').A → PE (lamC X X.A.in1 s H scope f c') body tb)
    (hR : ∀ w s', EP X pins σ Q w s' → Rz (.ok (.ret w)) s') :
    ∀ (vs : List V) (j : Nat) (s : Shared) (H : Hp) (b kb : V) (db : D) (ub uk : Value) (c : Nat) (oJ : Obj), all.drop (j + 1) = vs → j + 1 ≤ all.length → Inv X (bPins X T J f c' #[ub, uk] c oJ params body scope pm ctv pins) σ H s → s.heap.IsListIter J l (j + 1) → L2.RelV b ub → L2.RelV kb uk →
      kBest X.K (fun H => H c' = some (CodeO c' (X.env.qual ++ "<lambda>")) ∧ H l = some (.lst all)) ltB tb σ ip vs b kb db H Q → codeAny (model X.prog X.w) X.A (.builtin "min.loop" ⟨[.ref J, .ref f, .ref T], []⟩) Rz s := by
  have hname : (toString "min" ++ toString ".loop" : String) = "min.loop" := by decide
  intro vs
  induction vs with
  | nil =>
    intro j s H b kb db ub uk c oJ hdr hle I hit rb rk run
    obtain ⟨⟨_, hC2⟩, q⟩ := run
    have pT := I.pin _ bMem1
    obtain ⟨its, rv, hl, hz⟩ := I.list (.inl (.inl hC2))
    have hlen := rv.length
    have hend : its.toArray.size = j + 1 := by
      have := congrArg List.length hdr
      rw [List.length_drop] at this
      have h0 : ([] : List V).length = 0 := rfl
      rw [List.size_toArray]
      omega
    have W := Walks.list (prog := X.prog) (w := X.w) (A := X.A.in1) hr.hd J l B.lJ its.toArray
    refine codeAny_builtin PySem.F.entry_min_loop ?_
    rw [Around.under_plainId PySem.F.plain_min_loop _]
    show wpAny _ X.A.in1 (seqItems? (.ref T) >>= _) _ _ s
    refine wpAny_bind (wpAny_seqItems pT.1 rfl ?_)
    show wpAny _ X.A.in1 (tryCatch (pyNext (.ref J)) _ >>= _) _ _ s
    refine wpAny_bind (wpAny_tryCatch (W.done s _ _ ⟨by rw [hend]; exact hit, hl.isList⟩ fun h' tk' kp => ?_))
    have eT := kp T _ (by simpa using B.tj) pT.1
    show wpAny _ X.A.in1 (updateSeq T (fun _ => #[]) >>= _) _ _ _
    refine wpAny_bind ?_
    refine wpAny_updateSeq eT rfl (wpAny_bind (wpAny_letGo (wpAny_pure ?_)))
    have sb := Heap.SameBut.update h' T (Obj.mapSeq fun _ => (#[] : Array Value))
    exact hR ub _ ⟨b, H, bOut (s := s) (tk := tk') B I0 I fun a o n1 n2 q => (sb.2 a n1).trans (kp a o (by simpa using n2) q), rb, q⟩
  | cons v vs ih =>
    intro j s H b kb db ub uk c oJ hdr hle I hit rb rk run
    obtain ⟨⟨hC1, hC2⟩, ht⟩ := run
    have pT := I.pin _ bMem1
    have pF := I.pin _ bMem3
    obtain ⟨its, rv, hl, hz⟩ := I.list (.inl (.inl hC2))
    have hlen := rv.length
    have hlt : j + 1 < all.length := by
      have := congrArg List.length hdr
      rw [List.length_drop, List.length_cons] at this
      omega
    have W := Walks.list (prog := X.prog) (w := X.w) (A := X.A.in1) hr.hd J l B.lJ its.toArray
    refine codeAny_builtin PySem.F.entry_min_loop ?_
    rw [Around.under_plainId PySem.F.plain_min_loop _]
    show wpAny _ X.A.in1 (seqItems? (.ref T) >>= _) _ _ s
    refine wpAny_bind (wpAny_seqItems pT.1 rfl ?_)
    show wpAny _ X.A.in1 (tryCatch (pyNext (.ref J)) _ >>= _) _ _ s
    refine wpAny_bind (wpAny_tryCatch (W.item (j + 1) s _ _ (by rw [List.size_toArray]; omega) ⟨hit, hl.isList⟩ fun u h' tk' hP hst kp => ?_))
    obtain ⟨v2, e2, ru⟩ := Vals_get rv (j + 1) u (by simpa using hP)
    have ev : v2 = v := by
      have h1 : all[j + 1]? = some v := by
        have := congrArg (fun z : List V => z[0]?) hdr
        simpa using this
      rw [h1] at e2
      exact (Option.some.inj e2).symm
    subst ev
    obtain ⟨oJ2, eJ2, cJ, dJ⟩ := id hst.1
    have eT := kp T _ (by simpa using B.tj) pT.1
    have nJ : ∀ z, oJ2.data ≠ .cell z := fun z q => by rw [dJ] at q; cases q
    have I2 := bMove (tk := tk') (row2 := #[ub, uk]) (c2 := c) B I0 nJ I (fun a o _ n2 q => kp a o (by simpa using n2) q) eT eJ2
    have pF2 := I2.pin _ bMem3
    have cc := lam_call (A := X.A.in1) (tb := tb) I2 L I2.env0.in1 hr nd hip ru pF2.1 hC1 hbind (hbody _ H ⟨_, _, I2⟩) ht
    show wpAny _ X.A.in1 (tryCatch (holding [u] (call (.ref f) [u])) _ >>= _) _ _ _
    refine wpAny_bind (wpAny_tryCatch (wpAny_holding (wpAny_call (codeAny_mono cc fun r s2 hq => ?_))))
    obtain ⟨w, rfl, hq⟩ := hq
    obtain ⟨kv, H2, I3, rw2, d, hd, hdb, hcm, run2⟩ := I2.after hq
    obtain ⟨hc1, hc2, hc3⟩ := cmpOk_of hcm
    obtain ⟨as, r1⟩ := Dp.reads I3 d kv w hd rw2
    obtain ⟨bs, r2⟩ := Dp.reads I3 db kb uk hdb rk
    have pT3 := I3.pin _ bMem1
    have pJ3 := I3.pin _ bMem2
    show wpAny _ X.A.in1 (tryCatch (holding [u, w] (richCompare .Lt w uk >>= _)) _ >>= _) _ _ _
    refine wpAny_bind (wpAny_tryCatch (wpAny_holding (wpAny_bind (lt_data r1 r2 hc1 hc2 (by have := hr.un; have := Nat.min_le_left d.depth db.depth; omega) ?_))))
    refine wpAny_bind (wpAny_holding (wpAny_truthy_bool ?_))
    refine wpAny_bind (wpAny_letGo (wpAny_pure ?_))
    have hdr2 : all.drop (j + 1 + 1) = vs := by
      rw [← List.drop_drop, hdr]
      rfl
    by_cases hb : ltB d db = true
    · rw [if_pos hb] at run2
      have hb2 : dataLt d db = true := hb
      simp only [hb2, if_true]
      obtain ⟨c2, ec2⟩ := bst_upd (ys := #[u, w]) pT3.1
      have sb := Heap.SameBut.update s2.heap T (Obj.mapSeq fun _ => #[u, w])
      refine wpAny_bind ?_
      refine wpAny_updateSeq pT3.1 rfl (wpAny_bind (wpAny_letGo ?_))
      rw [hname]
      exact wpAny_pure ⟨plainId_quiet PySem.F.plain_min_loop _, ih (j + 1) _ H2 v2 kv d u w c2 oJ2 hdr2 hlt (bMove (tk := s2.toks) B I0 nJ I3 (fun a o n1 _ q => (sb.2 a n1).trans q) ec2 ((sb.2 J (Ne.symm B.tj)).trans pJ3.1)) ⟨oJ2, (sb.2 J (Ne.symm B.tj)).trans pJ3.1, cJ, dJ⟩ ru rw2 run2⟩
    · rw [if_neg hb] at run2
      have hb2 : dataLt d db = false := by
        have : ltB d db = false := by simpa using hb
        exact this
      simp only [hb2, Bool.false_eq_true, if_false]
      refine wpAny_bind (wpAny_letGo ?_)
      rw [hname]
      exact wpAny_pure ⟨plainId_quiet PySem.F.plain_min_loop _, ih (j + 1) _ H2 b kb db ub uk c oJ2 hdr2 hlt I3 ⟨oJ2, pJ3.1, cJ, dJ⟩ rb rk run2⟩
theorem min_call {k : Nat} {x : Str} {ip : Nat} {tb : TE} {all : List V} {Q : VK} {Er : Value → Shared → Prop} {H : Hp} {s : Shared} (I : Inv X pins σ H s) (hr : Room (k + 2) X.A) (L : LamP X.env.scope scope x) (nd : X.N.Nodup) (hip : X.N[ip]? = some x)
    (of : s.heap.get? f = some (lmObj (X.env.qual ++ "<lambda>") params body scope (cloFrom X.env.cells scope.names []) pm c' ctv)) (hf : H f = none) (asf : Aside X f (lmObj (X.env.qual ++ "<lambda>") params body scope (cloFrom X.env.cells scope.names []) pm c' ctv))
    (hbind : ∀ u : Value, bindArgs (PySem.W.kla_fn "<lambda>" (X.env.qual ++ "<lambda>") params body scope (cloFrom X.env.cells scope.names []) pm (.ref c') ctv) ⟨[u], []⟩ = pure [(x, u)])
    (hbody : ∀ (s : Shared) (H : Hp), AtX X H s → Room k (lamC X X.A.in1 s H scope f c').A → PE (lamC X X.A.in1 s H scope f c') body tb)
    (run : kBest0 X.K (fun H => H c' = some (CodeO c' (X.env.qual ++ "<lambda>")) ∧ H l = some (.lst all)) ltB tb σ ip all H Q) :
    wpAny (model X.prog X.w) X.A (call (.builtin "min") [.ref l] [(Str.ofString "key", .ref f)]) (EP X pins σ Q) Er s := by
  have hname : (toString "min" ++ toString ".loop" : String) = "min.loop" := by decide
  have hr1 : Room (k + 1) X.A.in1 := hr.in1
  cases all with
  | nil => exact run.elim
  | cons v vs =>
    obtain ⟨⟨hC1, hC2⟩, ht⟩ := run
    obtain ⟨its, rv, hl, hz⟩ := I.list (.inl (.inl hC2))
    have hlen := rv.length
    obtain ⟨ol, eol, _⟩ := id hl.isList
    have ll : l < s.heap.objs.size := Heap.lt_size eol
    have lf : f < s.heap.objs.size := Heap.lt_size of
    refine kmk_tree PySem.F.kind_min PySem.F.plain_min PySem.F.entry_min (kmk_min_key _ _) ?_
    show wpAny _ X.A.in1 (Builtin.Builtins.bindParams "min" ["key", "default"] 0 ⟨[], [(Str.ofString "key", .ref f)]⟩ >>= _) _ _ s
    refine wpAny_bind (wpAny_of_eq (show Builtin.Builtins.bindParams "min" ["key", "default"] 0 ⟨[], [(Str.ofString "key", .ref f)]⟩ = pure [some (.ref f), none] from rfl) ?_)
    refine wpAny_bind (wpAny_pure ?_)
    refine wpAny_bind (wpAny_pyIter_list hl.isList ?_)
    refine wpAny_bind (wpAny_newList ?_ (Nat.zero_le _))
    rw [hname]
    obtain ⟨g1, hg1⟩ : ∃ g1 : Heap, g1 = s.heap.push { cls := .type "list_iterator", data := .fields #[.ref l, .int 0 0] } := ⟨_, rfl⟩
    have sz1 : g1.objs.size = s.heap.objs.size + 1 := by rw [hg1]; exact size_push' ..
    rw [← hg1]
    have eJ1 : g1.get? s.heap.objs.size = some { cls := .type "list_iterator", data := .fields #[.ref l, .int 0 0] } := by
      rw [hg1]
      exact Heap.get?_push_size _ rfl
    have kp1 : ∀ a o, s.heap.get? a = some o → g1.get? a = some o := fun a o q => by
      rw [hg1]
      exact Heap.get?_push_of_some _ q
    obtain ⟨g2, hg2⟩ : ∃ g2 : Heap, g2 = g1.push (seqObj "list" #[] 0) := ⟨_, rfl⟩
    have eT2 : g2.get? g1.objs.size = some (lstO #[] 0) := by
      rw [hg2]
      exact Heap.get?_push_size _ rfl
    have kp2 : ∀ a o, s.heap.get? a = some o → g2.get? a = some o := fun a o q => by
      rw [hg2]
      exact Heap.get?_push_of_some _ (kp1 a o q)
    have eJ2 : g2.get? s.heap.objs.size = some { cls := .type "list_iterator", data := .fields #[.ref l, .int 0 0] } := by
      rw [hg2]
      exact Heap.get?_push_of_some _ eJ1
    rw [show g1.push (seqObj "list" ([] : List Value).toArray 0) = g2 from hg2.symm]
    have B : BAt X s g1.objs.size s.heap.objs.size f l c' params body scope pm ctv := ⟨by omega, Nat.le_refl _, Nat.ne_of_gt (by omega), Nat.ne_of_lt (Nat.lt_of_lt_of_le lf (by omega)), Nat.ne_of_lt lf, Nat.ne_of_lt (Nat.lt_of_lt_of_le ll (by omega)), Nat.ne_of_lt ll, asf⟩
    have nJ0 : ∀ z, ({ cls := .type "list_iterator", data := .fields #[.ref l, .int 0 0] } : Obj).data ≠ .cell z := fun z q => by cases q
    have fT := I.hok.fresh (a := g1.objs.size) (by omega)
    have fJ := I.hok.fresh (a := s.heap.objs.size) (Nat.le_refl _)
    have aT : Aside X g1.objs.size (lstO #[] 0) := aside_new I (by omega) lst_nc
    have aJ : Aside X s.heap.objs.size ({ cls := .type "list_iterator", data := .fields #[.ref l, .int 0 0] } : Obj) := aside_new I (Nat.le_refl _) nJ0
    have I1 : Inv X pins σ H { s with heap := g2, toks := s.toks } := I.kept kp2
    have I2 : Inv X (bPins X g1.objs.size s.heap.objs.size f c' #[] 0 { cls := .type "list_iterator", data := .fields #[.ref l, .int 0 0] } params body scope pm ctv pins) σ H { s with heap := g2, toks := s.toks } := I1.pins_of fun p hp => by
      rcases List.mem_append.mp hp with z | z
      · simp only [List.mem_cons, List.not_mem_nil, or_false] at z
        rcases z with rfl | rfl | rfl
        · exact aT.pin eT2 fT
        · exact aJ.pin eJ2 fJ
        · exact asf.pin (kp2 _ _ of) hf
      · exact I1.pin p (List.mem_append_right _ z)
    obtain ⟨its2, rv2, hl2, hz2⟩ := I2.list (.inl (.inl hC2))
    have hlen2 := rv2.length
    have W := Walks.list (prog := X.prog) (w := X.w) (A := X.A.in1) hr1.hd s.heap.objs.size l B.lJ its2.toArray
    refine wpAny_pure ⟨plainId_quiet PySem.F.plain_min_loop _, ?_⟩
    refine codeAny_builtin PySem.F.entry_min_loop ?_
    rw [Around.under_plainId PySem.F.plain_min_loop _]
    show wpAny _ X.A.in1 (seqItems? (.ref g1.objs.size) >>= _) _ _ _
    refine wpAny_bind (wpAny_seqItems eT2 rfl ?_)
    show wpAny _ X.A.in1 (tryCatch (pyNext (.ref s.heap.objs.size)) _ >>= _) _ _ _
    refine wpAny_bind (wpAny_tryCatch (W.item 0 _ _ _ (by rw [List.size_toArray, ← hlen2]; exact Nat.succ_pos _) ⟨⟨_, eJ2, rfl, rfl⟩, hl2.isList⟩ fun u h' tk' hP hst kp => ?_))
    obtain ⟨v2, e2, ru⟩ := Vals_get rv2 0 u (by simpa using hP)
    have ev : v2 = v := (Option.some.inj e2).symm
    subst ev
    obtain ⟨oJ2, eJ3, cJ, dJ⟩ := id hst.1
    have eT := kp g1.objs.size _ (by simpa using B.tj) eT2
    have nJ : ∀ z, oJ2.data ≠ .cell z := fun z q => by rw [dJ] at q; cases q
    have I3 := bMove (tk := tk') (row2 := #[]) (c2 := 0) B I nJ I2 (fun a o _ n2 q => kp a o (by simpa using n2) q) eT eJ3
    have pF3 := I3.pin _ bMem3
    have cc := lam_call (A := X.A.in1) (tb := tb) I3 L I3.env0.in1 hr1 nd hip ru pF3.1 hC1 hbind (hbody _ H ⟨_, _, I3⟩) ht
    show wpAny _ X.A.in1 (tryCatch (holding [u] (call (.ref f) [u])) _ >>= _) _ _ _
    refine wpAny_bind (wpAny_tryCatch (wpAny_holding (wpAny_call (codeAny_mono cc fun r s2 hq => ?_))))
    obtain ⟨w, rfl, hq⟩ := hq
    obtain ⟨kv, H2, I4, rw2, d, hd, run2⟩ := I3.after hq
    have pT4 := I4.pin _ bMem1
    have pJ4 := I4.pin _ bMem2
    obtain ⟨c2, ec2⟩ := bst_upd (ys := #[u, w]) pT4.1
    have sb := Heap.SameBut.update s2.heap g1.objs.size (Obj.mapSeq fun _ => #[u, w])
    show wpAny _ X.A.in1 (updateSeq g1.objs.size (fun _ => #[u, w]) >>= _) _ _ _
    refine wpAny_bind ?_
    refine wpAny_updateSeq pT4.1 rfl ?_
    rw [hname]
    exact wpAny_pure ⟨plainId_quiet PySem.F.plain_min_loop _, min_loop (all := v2 :: vs) B I hr1 L nd hip hbind hbody (fun w s' q => q) vs 0 _ H2 v2 kv d u w c2 oJ2 rfl (Nat.succ_le_succ (Nat.zero_le _)) (bMove (tk := s2.toks) B I nJ I4 (fun a o n1 _ q => (sb.2 a n1).trans q) ec2 ((sb.2 _ (Ne.symm B.tj)).trans pJ4.1)) ⟨oJ2, (sb.2 _ (Ne.symm B.tj)).trans pJ4.1, cJ, dJ⟩ ru rw2 run2⟩
end
end DV

namespace DV
open PySem L2 LamX PyProof.Rows PySem.Spec PySem.W
def tBestK (K : PySem.W.Frag) (P : Addr) (q : Str) (bt : D → D → Bool) (t : TE) (tb : TE) (ip : Nat) : TE := fun σ H Q => t σ H fun v H1 => ∃ l all, v = .ref l ∧ H1 l = some (.lst all) ∧ Tabs (tabsOf K) H1 ∧ ∀ c' H2, Grown (tabsOf K) P H1 H2 → H2 c' = some (CodeO c' q) →
  kBest0 K (fun H => H c' = some (CodeO c' q) ∧ H l = some (.lst all)) bt tb σ ip all H2 Q
section
variable {X : Cx} {e : Expr} {t tb : TE} {k : Nat} {P : Addr} {q : Str} {params : Arguments} {body : Expr} {scope : Scope} {x : Str} {ip : Nat} {p pos lpos kpos : Pos}
theorem pe_minK (hg : Gl X "min") (hm : X.mg "min" = none) (hr : Room (k + 2) X.A) (nd : X.N.Nodup) (he : PE X e t) (A : LamAt X P q params scope x ip)
    (hbody : ∀ (s : Shared) (H : Hp) (f c' : Addr), AtX X H s → Room k (lamC X X.A.in1 s H scope f c').A → PE (lamC X X.A.in1 s H scope f c') body tb)
    (hb1 : backTo pos (starEach [e] X.env) = (false, eval e X.env) :: backTo pos (starEach [] X.env) := by rfl) (hb2 : (backTo pos (starEach [e] X.env)).any (·.1) = false := by rfl) :
    PE X (.Call (.Name "min" p) [e] [⟨some "key", .Lambda params body scope lpos, kpos⟩] pos) (tBestK X.K P q ltB t tb ip) := by
  refine ⟨fun pins s σ H Q I h => ?_⟩
  refine wpAny_Call_Name_kw (ld_blt I hg hm boot_min ?_)
  obtain ⟨c, hTB, hcode⟩ := A.cod
  have hq2 := A.qual
  subst hq2
  have hfree : ∀ y ∈ scope.names, y.2 = .free → ∃ a, X.env.cells.lookup y.1 = some a := fun y m ey => I.ok.has _ (A.par.free y m ey)
  refine PyProof.Rows.callWith_kw ?_ hb1 hb2 rfl rfl
  rw [hb1]
  refine Calls.spliced_cons (thn (he.run pins s σ H _ I h) fun u s1 ⟨v, H1, I1, r1, l, all, ev, hl, hT, q1⟩ => ?_)
  subst ev
  cases r1
  refine wpAny_pure ?_
  show wpAny _ _ (evalAll [(do let v ← eval (.Lambda params body scope lpos) X.env; standAt pos; pure v)]) _ _ s1
  refine wpAny_evalAll_cons (wpAny_bind (lam_mk I1 hTB hcode A.mem A.uni hT A.noDef hfree fun f c' pm ctv H2 s2 I2 G of hf sz kp hc => ?_))
  refine wpAny_bind (wpAny_standAt (wpAny_pure (wpAny_evalAll_nil ?_)))
  show wpAny _ _ (call (.builtin "min") [.ref l] [(Str.ofString "key", .ref f)]) _ _ s2
  exact min_call (tb := tb) I2 hr A.par nd A.slot of hf (aside_new I1 sz fun v z => by cases z) (fun u => A.bind _ _ _ _ _ _ u) (fun s' H' => hbody s' H' f c') (q1 c' H2 G hc)
end
/-- the first best of the items by their keys -/
def bestF (bt : D → D → Bool) : List (D × D) → D × D → D × D
  | [], b => b
  | p :: ps, b => bestF bt ps (if bt p.2 b.2 = true then p else b)
def okBest (kz : List D) : Bool := kz.all fun x => kz.all (cmpOk x)
def ownL : RV → Option (List D)
  | .b ds => some ds
  | .n ds => some ds
  | _ => none
def eBestK (bt : D → D → Bool) (f : Env → M RV) (el : Env → M RV) (ip : Nat) : Env → M RV := fun ρ => bnd (f ρ) fun x => bnd (lft (ownL x)) fun its => bnd (keysF el ρ ip its) fun kz => match its.zip kz with
  | [] => fail
  | p :: ps => if okBest kz = true then ret (.d (bestF bt ps p).1) else fail
section
variable {K : PySem.W.Frag} {R : RA} {tb : TE}
theorem best_run {C : Hp → Prop} {bt : D → D → Bool} {el : Env → M RV} {ip : Nat} {L : Nat → Option (Addr × List V)} {E : Hp} {ρ : Env} {σ : L2.St} (hC : ∀ rs F H rs' F' H', RowOk K R rs F H → Step K R rs' F H F' H' → C H → C H') (he : ESem K R tb el) :
    ∀ (its : List D) (xs : List V) (F H : Hp) (rs : RS) (kz : List D) (rs' : RS) (b kb : V) (bd db : D) (Q : VK), Rel K R L E F ρ σ rs H → C H → DpAll K F xs its → Dp K F b bd → Dp K F kb db → keysF el ρ ip its rs = some (kz, rs') → (∀ x ∈ db :: kz, ∀ y ∈ db :: kz, cmpOk x y = true) →
      (∀ v F' H', Step K R rs' F H F' H' → Dp K F' v (bestF bt (its.zip kz) (bd, db)).1 → Q v H') → kBest K C bt tb σ ip xs b kb db H Q := fun its => by
  induction its with
  | nil =>
    intro xs F H rs kz rs' b kb bd db Q r c hd hb hk hf ok k
    cases hd
    obtain ⟨e1, q1⟩ := ret_some hf
    subst e1 q1
    exact ⟨c, k b F H r.refl hb⟩
  | cons x its ih =>
    intro xs F H rs kz rs' b kb bd db Q r c hd hb hk hf ok k
    cases hd with
    | cons h1 h2 =>
      rename_i v vs
      obtain ⟨y, rs1, e1, hf1⟩ := bnd_some hf
      obtain ⟨d, rs2, e2, hf2⟩ := bnd_some hf1
      obtain ⟨e3, q3⟩ := lft_some e2
      subst q3
      obtain ⟨ds, rs4, e4, hf4⟩ := bnd_some hf2
      obtain ⟨e5, q5⟩ := ret_some hf4
      subst e5 q5
      refine ⟨c, he L E _ _ F H rs y _ _ (r.put ip (.d x) v h1 (fun a q => nomatch q)) e1 fun kv F1 H1 s1 hk1 => ?_⟩
      have hkd : Dp K F1 kv d := by
        cases y with
        | d z => cases e3; exact hk1
        | b _ => cases e3
        | n _ => cases e3
        | gb _ => cases e3
        | gn _ => cases e3
        | row => cases e3
      have md : d ∈ db :: d :: ds := by simp
      refine ⟨d, Dp.mono (r.step s1).fr _ _ hkd, Dp.mono (r.step s1).fr _ _ (Dp.mono s1.sub _ _ hk), ok d md db (by simp), ?_⟩
      have c1 := hC _ _ _ _ _ _ r.row s1 c
      have hd2 := Dp.monoA s1.sub _ _ h2
      by_cases q : bt d db = true
      · rw [if_pos q]
        refine ih vs F1 H1 _ ds _ v kv x d _ (r.step s1) c1 hd2 (Dp.mono s1.sub _ _ h1) hkd e4 (fun a ha b hb => ok a (List.mem_cons_of_mem _ ha) b (List.mem_cons_of_mem _ hb)) fun w F2 H2 s2 hw => ?_
        refine k w F2 H2 (s1.trans r.row s2) ?_
        rw [List.zip_cons_cons]
        unfold bestF
        rw [if_pos q]
        exact hw
      · rw [if_neg q]
        refine ih vs F1 H1 _ ds _ b kb bd db _ (r.step s1) c1 hd2 (Dp.mono s1.sub _ _ hb) (Dp.mono s1.sub _ _ hk) e4 (fun a ha b hb => ok a (by simp only [List.mem_cons] at ha ⊢; rcases ha with z | z; exact .inl z; exact .inr (.inr z)) b (by simp only [List.mem_cons] at hb ⊢; rcases hb with z | z; exact .inl z; exact .inr (.inr z))) fun w F2 H2 s2 hw => ?_
        refine k w F2 H2 (s1.trans r.row s2) ?_
        rw [List.zip_cons_cons]
        unfold bestF
        rw [if_neg q]
        exact hw
theorem esem_best {X : Cx} {bt : D → D → Bool} {f el : Env → M RV} {t : TE} {P : Addr} {q : Str} {ip : Nat} (mem : (P, q) ∈ tabsOf K) (ha : ESem K R t f) (hsem : ESem K R tb el) : ESem K R (tBestK K P q bt t tb ip) (eBestK bt f el ip) := fun L E ρ σ F H rs x0 rs' Q r hf kk => by
  obtain ⟨x, rs1, e1, hf1⟩ := bnd_some hf
  obtain ⟨its, rs2, e2, hf2⟩ := bnd_some hf1
  obtain ⟨e3, q3⟩ := lft_some e2
  subst q3
  obtain ⟨kz, rs4, e4, hf4⟩ := bnd_some hf2
  refine ha L E ρ σ F H rs x _ _ r e1 fun v F1 H1 s1 h1 => ?_
  have r1 := r.step s1
  have hl : ∃ l all, v = .ref l ∧ H1 l = some (.lst all) ∧ some l ≠ R.row ∧ DpAll K F1 all its := by
    cases x with
    | d _ => cases e3
    | gb _ => cases e3
    | gn _ => cases e3
    | row => cases e3
    | b ds =>
      cases e3
      obtain ⟨a, vs, z1, z2, z3, z4⟩ := h1
      exact ⟨a, vs, z1, z2, z3, z4⟩
    | n ds =>
      cases e3
      obtain ⟨a, vs, z1, z2, _, _, z3, z4⟩ := h1
      exact ⟨a, vs, z1, z2, z3, z4⟩
  obtain ⟨l, all, rfl, hl1, hlR, hd⟩ := hl
  refine ⟨l, all, rfl, hl1, s1.row.tab, fun c' H2 G hc => ?_⟩
  have sg := r1.refl.grown mem G
  have r2 := r1.step sg
  have hC : ∀ rs F H rs' F' H', RowOk K R rs F H → Step K R rs' F H F' H' → (H c' = some (CodeO c' q) ∧ H l = some (.lst all)) → (H' c' = some (CodeO c' q) ∧ H' l = some (.lst all)) := fun rs F H rs' F' H' ro st c => ⟨st.keep c' _ c.1 (fun z => by
      obtain ⟨a, ea, _⟩ := ro.at_ c' z.symm
      rw [c.1] at ea
      have := Option.some.inj ea
      unfold CodeO at this
      cases this) (.inl codeO_ne), st.keep l _ c.2 hlR⟩
  have hc2 : H2 c' = some (CodeO c' q) ∧ H2 l = some (.lst all) := ⟨hc, sg.keep l _ hl1 hlR⟩
  cases its with
  | nil =>
    obtain ⟨z1, z2⟩ := ret_some e4
    subst z1
    cases hf4
  | cons y its =>
    cases hd with
    | cons hd1 hd2 =>
      rename_i v vs
      obtain ⟨w, rs5, e5, g1⟩ := bnd_some e4
      obtain ⟨d, rs6, e6, g2⟩ := bnd_some g1
      obtain ⟨e7, q7⟩ := lft_some e6
      subst q7
      obtain ⟨ds, rs8, e8, g3⟩ := bnd_some g2
      obtain ⟨e9, q9⟩ := ret_some g3
      subst e9 q9
      have hf5 : (if okBest (d :: ds) = true then ret (RV.d (bestF bt (its.zip ds) (y, d)).1) else fail) rs4 = some (x0, rs') := hf4
      by_cases hok : okBest (d :: ds) = true
      · rw [if_pos hok] at hf5
        obtain ⟨e10, q10⟩ := ret_some hf5
        subst e10 q10
        unfold okBest at hok
        simp only [List.all_eq_true] at hok
        refine ⟨hc2, hsem L E _ _ F1 H2 _ w _ _ (r2.put ip (.d y) v hd1 (fun a q => nomatch q)) e5 fun kv F3 H3 s3 hk1 => ?_⟩
        have hkd : Dp K F3 kv d := by
          cases w with
          | d z => cases e7; exact hk1
          | b _ => cases e7
          | n _ => cases e7
          | gb _ => cases e7
          | gn _ => cases e7
          | row => cases e7
        have sub13 : ∀ a o, F1 a = some o → F3 a = some o := s3.sub
        refine ⟨d, Dp.mono (r2.step s3).fr _ _ hkd, best_run hC hsem its vs F3 H3 _ ds _ v kv y d Q (r2.step s3) (hC _ _ _ _ _ _ r2.row s3 hc2) (Dp.monoA sub13 _ _ hd2) (Dp.mono sub13 _ _ hd1) hkd e8 hok fun u F4 H4 s4 hu => ?_⟩
        exact kk u F4 H4 (s1.trans r.row (sg.trans r1.row (s3.trans r2.row s4))) hu
      · rw [if_neg hok] at hf5
        cases hf5
end
section
variable {X : Cx} {R : RA} {e : Expr} {t tb : TE} {f el : Env → M RV} {k : Nat} {P : Addr} {q : Str} {params : Arguments} {body : Expr} {scope : Scope} {x : Str} {ip : Nat} {p pos lpos kpos : Pos}
theorem de_minK (hg : Gl X "min") (hm : X.mg "min" = none) (hr : Room (k + 2) X.A) (nd : X.N.Nodup) (he : DE X R e t f) (A : LamAt X P q params scope x ip)
    (hbody : ∀ (s : Shared) (H : Hp) (f c' : Addr), Room k (lamC X X.A.in1 s H scope f c').A → DE (lamC X X.A.in1 s H scope f c') R body tb el)
    (hb1 : backTo pos (starEach [e] X.env) = (false, eval e X.env) :: backTo pos (starEach [] X.env) := by rfl) (hb2 : (backTo pos (starEach [e] X.env)).any (·.1) = false := by rfl) :
    DE X R (.Call (.Name "min" p) [e] [⟨some "key", .Lambda params body scope lpos, kpos⟩] pos) (tBestK X.K P q ltB t tb ip) (eBestK ltB f el ip) :=
  ⟨pe_minK hg hm hr nd he.pe A (fun s H f c' _ hr' => (hbody s H f c' hr').pe) hb1 hb2, esem_best (X := X) A.mem he.sem (hbody {} (fun _ => none) 0 0 ((hr.in1 : Room (k + 1) X.A.in1).deeper _)).sem⟩
end
end DV

namespace DV
open PySem L2 PyProof.Rows
section
variable {X : Cx} {K : PySem.W.Frag} {R : RA} {L : Nat → Option (Addr × List V)} {E F F' H H' : Hp} {ρ ρ' : Env} {σ σ' : L2.St} {rs rs' : RS}
variable {S S' : List Nat} {tg o e e2' c : Expr} {es : List Expr} {g : TG} {hg : D → Env → Option Env} {pos p spos apos : Pos} {te to : TE} {f h : Env → M RV}
/-- the items of a list -/
def itemsL : RV → Option (List D)
  | .d (.list ds) => some ds
  | .b ds => some ds
  | .n ds => some ds
  | _ => none
theorem VR.isLL {F H0 H : Hp} {rs : RS} {v : V} {x : RV} {ds : List D} (s : Step K R rs F H F H) (hv : VR K R F H0 H v x) (e : itemsL x = some ds) : ∃ a vs, v = .ref a ∧ SqL K H a vs ∧ DpAll K F vs ds := by
  cases x with
  | d x =>
    cases x with
    | list es =>
      cases e
      cases hv with
      | lst h1 h2 => exact ⟨_, _, rfl, ex_l (s.fin _) h1, h2⟩
    | tuple es => cases e
    | none => cases e
    | bool _ => cases e
    | int _ => cases e
    | str _ => cases e
    | dict _ => cases e
  | b es =>
    cases e
    obtain ⟨a, vs, rfl, h1, _, h3⟩ := hv
    exact ⟨a, vs, rfl, .inl (.inl h1), h3⟩
  | n es =>
    cases e
    obtain ⟨a, vs, rfl, h1, _, _, _, h3⟩ := hv
    exact ⟨a, vs, rfl, .inl (.inl h1), h3⟩
  | gb _ => cases e
  | gn _ => cases e
  | row => cases e
def eMet (gg : RV → RV → Option RV) (f h : Env → M RV) : Env → M RV := fun ρ => bnd (f ρ) fun x => bnd (lft (itemsL x)) fun _ => bnd (h ρ) fun y => lft (gg x y)
def idxOf (ds : List D) (d : D) : Option Nat := ds.findIdx? fun z => PyData.eqv z d
theorem DpAll.dropLast {F : Hp} {vs : List V} {ds : List D} (h : DpAll K F vs ds) : DpAll K F vs.dropLast ds.dropLast := by
  rw [List.dropLast_eq_take, List.dropLast_eq_take, h.len]
  exact DpAll.take _ h
/-- x.extend(e), e a new list -/
def newL : RV → Option (List D)
  | .n ds => some ds
  | .b ds => some ds
  | _ => none
def extL : RV → Option (List D)
  | .d (.tuple ds) => some ds
  | x => newL x
def sExt (i : Nat) (f : Env → M RV) : Env → M Out := fun ρ => bnd (lft (sApp.own? ρ i)) fun ds => bnd (f ρ) fun x => bnd (lft (extL x)) fun es => if ds.length + es.length ≤ 100000 then ret (.nx (ρ.set i (some (.o (ds ++ es))))) else fail
end
end DV

namespace DV
open PySem L2 PyProof.Rows RT
section
variable {X : Cx} {K : PySem.W.Frag} {R : RA} {L : Nat → Option (Addr × List V)} {E F F' H H' : Hp} {ρ ρ' : Env} {σ σ' : L2.St} {rs rs' : RS}
variable {tg e : Expr} {pos p p2 pos2 : Pos} {te : TE}
def eTupRev (f : Env → M RV) : Env → M RV := fun ρ => bnd (f ρ) fun x => bnd (lft (itemsL x)) fun ds => ret (.d (.tuple ds.reverse))
theorem de_tupRev {f : Env → M RV} (hc : X.calm = true) (hg : Gl X "tuple") (hm : X.mg "tuple" = none) (hg2 : Gl X "reversed") (hm2 : X.mg "reversed" = none) (he : DE X R e te f)
    (hs : starEach [e] X.env = (false, eval e X.env) :: starEach [] X.env := by rfl)
    (hs2 : starEach [.Call (.Name "reversed" p2) [e] [] pos2] X.env = (false, eval (.Call (.Name "reversed" p2) [e] [] pos2) X.env) :: starEach [] X.env := by rfl) :
    DE X R (.Call (.Name "tuple" p) [.Call (.Name "reversed" p2) [e] [] pos2] [] pos) (tTupRev X.K te) (eTupRev f) := ⟨pe_tupRev hc hg hm hg2 hm2 he.pe hs hs2, fun L E ρ σ F H rs x0 rs' Q r hf kk => by
  obtain ⟨x, rs1, e1, hf1⟩ := bnd_some hf
  obtain ⟨ds, rs2, e2, hf2⟩ := bnd_some hf1
  obtain ⟨e3, q3⟩ := lft_some e2
  obtain ⟨e4, q4⟩ := ret_some hf2
  subst e4 q4 q3
  refine he.sem L E ρ σ F H rs x _ _ r e1 fun v F1 H1 s1 h1 => ?_
  have r1 := r.step s1
  obtain ⟨a, vs, rfl, g1, g2⟩ := VR.isLL r1.refl h1 e3
  refine ⟨a, vs, rfl, g1, fun q hq => ?_⟩
  have s2 := Step.new_tup (vs := vs.reverse) r1.refl hq
  exact kk _ _ _ (s1.trans r.row s2) (.tup (.inl (.inl upd_same)) (Dp.monoA s2.sub _ _ (DpAll.rev g2)))⟩
def iRevF (f : Env → M (List D × Option Nat)) : Env → M (List D × Option Nat) := fun ρ => bnd (f ρ) fun p => ret (p.1.reverse, p.2)
end
end DV
namespace DV
open PySem L2 PyProof.Rows SrtR
section
variable {X : Cx} {K : PySem.W.Frag} {R : RA} {e : Expr} {pos p p2 kpos : Pos} {te : TE}
def eSortRev (f : Env → M RV) : Env → M RV := fun ρ => bnd (f ρ) fun x => bnd (lft (items x)) fun ds => bnd (lft (intsOf ds)) fun js => ret (.n ((sortI js).reverse.map PyData.int))
end
end DV

namespace DV
open PySem L2 PyProof.Rows
/-- may stand as a key -/
def keyOk (t : Bool) (d : D) : Bool := match t, d with
  | false, .int _ => true
  | true, .tuple ds => match nkA ds with
    | some ks => decide ((NestedKey.tup ks).depth ≤ 8)
    | none => false
  | _, _ => false
/-- what the dict holds at the key -/
def lookK (kv : List (D × D)) (k : Option NestedKey) : Option D := (kv.find? fun q => decide (nk q.1 = k)).map (·.2)
/-- a pair more, or another value -/
def putD (kv : List (D × D)) (kd vd : D) : List (D × D) := if (lookK kv (nk kd)).isSome = true then kv.map fun q => if nk q.1 = nk kd then (q.1, vd) else q else kv ++ [(kd, vd)]
end DV

namespace DV
open PySem L2 PyProof.Rows LamX
section
variable {K : PySem.W.Frag} {F : Hp}
theorem Paired.map2 {α β α' β' : Type} {f : α → β → Prop} {g : α' → β' → Prop} {m : α → α'} {n : β → β'} : ∀ {xs : List α} {ys : List β}, Paired f xs ys → (∀ x y, f x y → g (m x) (n y)) → Paired g (xs.map m) (ys.map n)
  | _, _, .nil, _ => .nil
  | _, _, .cons h t, k => .cons (k _ _ h) (Paired.map2 t k)
theorem Paired.len {α β : Type} {f : α → β → Prop} : ∀ {xs : List α} {ys : List β}, Paired f xs ys → xs.length = ys.length
  | _, _, .nil => rfl
  | _, _, .cons _ t => congrArg (· + 1) (Paired.len t)
end
end DV

namespace DV
open PySem L2 PyProof.Rows LamX
def eGNew (t : Bool) : Env → M RV := fun _ => ret (.gn ⟨t, []⟩)
section
variable {X : Cx} {K : PySem.W.Frag} {R : RA} {L : Nat → Option (Addr × List V)} {E F F' H H' : Hp} {ρ ρ' : Env} {σ σ' : L2.St} {rs rs' : RS}
variable {o e i e2 : Expr} {pos spos apos cpos : Pos} {td ty tv tx : TE} {f h k : Env → M RV}
def dcOf : RV → Option DC
  | .gb c => some c
  | .gn c => some c
  | _ => none
def asKey : RV → Option D
  | .d d => some d
  | _ => none
theorem VR.dict {F H0 H : Hp} {v : V} {x : RV} {c : DC} (hv : VR K R F H0 H v x) (e : dcOf x = some c) : ∃ a u, v = .ref a ∧ H a = some u ∧ some a ≠ R.row ∧ DictR K F a u c := by
  cases x with
  | gb d =>
    cases e
    exact hv
  | gn d =>
    cases e
    obtain ⟨a, u, e1, h1, _, _, h2, h3⟩ := hv
    exact ⟨a, u, e1, h1, h2, h3⟩
  | d _ => cases e
  | b _ => cases e
  | n _ => cases e
  | row => cases e
theorem VR.key {F H0 H : Hp} {v : V} {x : RV} {d : D} (hv : VR K R F H0 H v x) (e : asKey x = some d) : Dp K F v d := by
  cases x with
  | d y => cases e; exact hv
  | b _ => cases e
  | n _ => cases e
  | gb _ => cases e
  | gn _ => cases e
  | row => cases e
def eGGet (f h : Env → M RV) : Env → M RV := fun ρ => bnd (f ρ) fun x => bnd (lft (dcOf x)) fun c => bnd (h ρ) fun y => bnd (lft (asKey y)) fun kd => if keyOk c.t kd = true then bnd (lft (lookK c.kv (nk kd))) fun vd => ret (.d vd) else fail
def eGGet2 (f h k : Env → M RV) : Env → M RV := fun ρ => bnd (f ρ) fun x => bnd (lft (dcOf x)) fun c => bnd (h ρ) fun y => bnd (lft (asKey y)) fun kd => bnd (k ρ) fun z => if keyOk c.t kd = true then match lookK c.kv (nk kd) with
  | some vd => ret (.d vd)
  | none => ret z
  else fail
def own_g (ρ : Env) (i : Nat) : Option DC := match ρ[i]? with
  | some (some (.g c)) => some c
  | _ => none
def sGPut (i : Nat) (f g : Env → M RV) : Env → M Out := fun ρ => bnd (f ρ) fun x => bnd (lft (toD x)) fun vd => bnd (g ρ) fun y => bnd (lft (asKey y)) fun kd => bnd (lft (own_g ρ i)) fun c =>
  if keyOk c.t kd = true ∧ c.kv.length ≤ 100000 then ret (.nx (ρ.set i (some (.g ⟨c.t, putD c.kv kd vd⟩)))) else fail
end
end DV

namespace DV
open PySem L2 PyProof.Rows LamX
/-- the pairs of a dict's object -/
def PsOf (d : Addr) (u : HO) (ps : List (V × V)) : Prop := (∃ ks : List (Key × V), u = .dK ks ∧ ps = ks.map fun p => (kV p.1, p.2)) ∨ ∃ xs : List (NestedKey × Addr × V), u = dcO d xs ∧ ps = xs.map fun x => (.ref x.2.1, x.2.2)
abbrev GP (K : PySem.W.Frag) (F : Hp) : V × V → D × D → Prop := fun p q => Dp K F p.1 q.1 ∧ Dp K F p.2 q.2
theorem DictR.ps {K : PySem.W.Frag} {F : Hp} {a : Addr} {u : HO} {c : DC} (R : DictR K F a u c) : ∃ ps, PsOf a u ps ∧ Paired (GP K F) ps c.kv := by
  unfold DictR at R
  cases e : c.t with
  | false =>
    rw [e] at R
    obtain ⟨ks, rfl, _, hp⟩ := R
    refine ⟨_, .inl ⟨_, rfl, rfl⟩, ?_⟩
    rw [List.map_map]
    have := Paired.map2 (g := GP K F) (m := fun p : Int × V => (V.int p.1, p.2)) (n := id) hp fun x q h => ⟨by rw [show (id q).1 = q.1 from rfl, h.1]; exact Dp.int _, h.2⟩
    rw [List.map_id] at this
    exact this
  | true =>
    rw [e] at R
    obtain ⟨xs, rfl, hp⟩ := R
    refine ⟨_, .inr ⟨_, rfl, rfl⟩, ?_⟩
    have := Paired.map2 (g := GP K F) (m := fun x : NestedKey × Addr × V => (V.ref x.2.1, x.2.2)) (n := id) hp fun x q h => ⟨h.2.2.1, h.2.2.2⟩
    rw [List.map_id] at this
    exact this
end DV


namespace DV
open PySem L2 PyProof.Rows LamX
section
variable {X : Cx} {K : PySem.W.Frag} {R : RA} {k v : Expr} {tk tv : TE} {pos : Pos}
def eG1 (t : Bool) (f h : Env → M RV) : Env → M RV := fun ρ => bnd (f ρ) fun x => bnd (lft (asKey x)) fun kd => bnd (h ρ) fun y => bnd (lft (toD y)) fun vd => if keyOk t kd = true then ret (.gn ⟨t, [(kd, vd)]⟩) else fail
end
end DV

namespace DV
open PySem L2 PyProof.Rows LamX PySem.W
/-- what is listed -/
def wkV : Bool → V × V → V
  | true, p => p.2
  | false, p => p.1
def wkB : Bool → D × D → D
  | true, q => q.2
  | false, q => q.1
section
variable {X : Cx} {td : TE} {e : Expr} {apos cpos pos p : Pos}
/-- something to be listed -/
def PGs (X : Cx) (b : Bool) (it : Expr) (td : TE) : Prop :=
  ∀ (pins : List (Addr × Obj)) (s : Shared) (σ : L2.St) (H : Hp) (Q : List (V × V) → Hp → Prop), Inv X pins σ H s → (td σ H fun x H1 => ∃ d u ps, x = .ref d ∧ H1 d = some u ∧ PsOf d u ps ∧ Q ps H1) →
    wpAny (model X.prog X.w) X.A (eval it X.env) (fun x s' => ∃ (r d : Addr) (T : String) (n : Nat) (P : Nat → Value → Prop) (OK : Heap → Prop) (H1 : Hp) (ps : List (V × V)), x = .ref r ∧ Inv X pins σ H1 s' ∧ KdlSrc X.prog X.w T r d n P OK ∧ OK s'.heap ∧ n = ps.length ∧ n ≤ sizeLine ∧ (∀ j w, P j w → ∃ p, ps[j]? = some p ∧ L2.RelV (wkV b p) w) ∧ Q ps H1) X.xe s
def eListG (b : Bool) (f : Env → M RV) : Env → M RV := fun ρ => bnd (f ρ) fun x => bnd (lft (dcOf x)) fun c => ret (.n (c.kv.map (wkB b)))
end
end DV


namespace DV
open PySem L2 PyProof.Rows LamX
def dcF (tg : D → Env → Option Env) (tst : Env → M Bool) (kf vf : Env → M RV) (ρ : Env) : List D → List (D × D) → M (List (D × D))
  | [], kv => ret kv
  | x :: xs, kv => bnd (lft (tg x ρ)) fun ρ1 => bnd (tst ρ1) fun b => if b = true then bnd (kf ρ1) fun y => bnd (lft (asInt y)) fun i => bnd (vf ρ1) fun z => bnd (lft (asKey z)) fun d => dcF tg tst kf vf ρ xs (putD kv (.int i) d) else dcF tg tst kf vf ρ xs kv
def eDc (fi : Env → M (List D × Option Nat)) (vs : List Nat) (tg : D → Env → Option Env) (tst : Env → M Bool) (kf vf : Env → M RV) : Env → M RV := fun ρ =>
  bnd (fi ρ) fun p => if p.1.length ≤ 50000 then bnd (dcF tg tst kf vf (wipeE ρ vs) p.1 []) fun kv => ret (.gn ⟨false, kv⟩) else fail
end DV


namespace DVL
open PySem L2 DV
def g__law_alike (self : List RV → M RV) : DV.Env → M Out :=
  (sSeq (sIf (eT (eIsT2 .tuple .list (eVar 1))) (sSeq (sIf (tIfT (tNotF (eT (eIsT2 .tuple .list (eVar 0)))) (tRetB true) (eT (e2 gNe (eIsT .list (eVar 0)) (eIsT .list (eVar 1))))) (sRet (eC (.bool false))) sNil)
  (sSeq (sIf (eT (e2 gNe (eCall gLen (aCons (eVar 0) aNil)) (eCall gLen (aCons (eVar 1) aNil)))) (sRet (eC (.bool false))) sNil)
  (sRet (e2 gEq (eLc (iRng1F (eCall gLen (aCons (eVar 1) aNil))) [2] (gNm 2) (tNotF (eT (eFn (fun xs => if xs.length = 2 then self xs else fail) (aCons (e2 gIx (eVar 0) (eVar 2)) (aCons (e2 gIx (eVar 1) (eVar 2)) aNil))))) (eVar 2)) (eLst aNil))))) sNil)
  (sSeq (sIf (tIfT (eT (e2 gIs (eVar 1) (eC .none))) (tRetB true) (eT (eIsT .str (eVar 1)))) (sRet (eIfB (e2 gEq (eVar 0) (eVar 1)) (e2 gEq (eIsT .str (eVar 0)) (eIsT .str (eVar 1))) (eC (.bool false)))) sNil)
  (sRet (eIfB (eIsT .int (eVar 0)) (eIfB (e2 gEq (eIsT .bool (eVar 0)) (eIsT .bool (eVar 1))) (e2 gEq (eVar 0) (eVar 1)) (eC (.bool false))) (eC (.bool false))))))
def mr__law_alike : Nat → List RV → M RV
  | 0 => fun _ => fail
  | k + 1 => runDef 3 (g__law_alike (mr__law_alike k))
abbrev m__law_alike : List RV → M RV := mr__law_alike 5
def g__law_taken : DV.Env → M Out :=
  (sSeq (sIf (eT (e2 gGt (eRow 0 3) (eC (.int 0)))) (sSeq (sSet 2 (e2 gMod (eCall gInt (aCons (eRow 0 3) aNil)) (eVar 1)))
  (sSeq (sRowPut 0 3 (e2 gFdiv (eRow 0 3) (eVar 1)))
  (sRetV 2))) sNil)
  (sSeq (sRowPut 0 1 (e2 gAddA (eRow 0 1) (eC (.int 1))))
  (sSeq (sIf (eT (e2 gGt (eRow 0 1) (eCall gLen (aCons (eRow 0 0) aNil)))) (sSeq (sRowPut 0 2 (e2 gMod (eCall gInt (aCons (e2 gAddA (e2 gMulA (eRow 0 2) (eC (.int 48271))) (eC (.int 11))) aNil)) (eC (.int 2147483647))))
  (sRet (e2 gMod (eCall gInt (aCons (e2 gFdiv (eRow 0 2) (eC (.int 7))) aNil)) (eVar 1)))) sNil)
  (sSeq (sSet 3 (e2 gIx (eRow 0 0) (e2 gSubI (eRow 0 1) (eC (.int 1)))))
  (sSeq (sRowPut 0 2 (e2 gMod (eCall gInt (aCons (e2 gAddA (e2 gAddA (e2 gMulA (eRow 0 2) (eC (.int 48271))) (eVar 3)) (eC (.int 11))) aNil)) (eC (.int 2147483647))))
  (sSeq (sIf (eT (e2 gGe (eVar 3) (e2 gPow (eC (.int 10)) (eC (.int 18))))) (sRowPut 0 3 (e2 gFdiv (eVar 3) (eVar 1))) sNil)
  (sRet (e2 gMod (eCall gInt (aCons (eVar 3) aNil)) (eVar 1)))))))))
def m__law_taken : List RV → M RV := runDef 4 g__law_taken
def g__law_pick : DV.Env → M Out :=
  (sRet (e2 gIx (eVar 1) (eFn (fun xs => if xs.length = 2 then m__law_taken xs else fail) (aCons (eVar 0) (aCons (eCall gLen (aCons (eVar 1) aNil)) aNil)))))
def m__law_pick : List RV → M RV := runDef 2 g__law_pick
def g__law_jobs : DV.Env → M Out :=
  (sSeq (sPar3 3 4 5 (aCons (e2 gAddA (eC (.int 1)) (eFn (fun xs => if xs.length = 2 then m__law_taken xs else fail) (aCons (eVar 0) (aCons (eVar 1) aNil)))) (aCons (eFn (fun xs => if xs.length = 2 then m__law_pick xs else fail) (aCons (eVar 0) (aCons (eLst (aCons (eC (.int 2)) (aCons (eVar 2) aNil))) aNil))) (aCons (eFn (fun xs => if xs.length = 2 then m__law_pick xs else fail) (aCons (eVar 0) (aCons (eLst (aCons (eC (.int 1)) (aCons (eC (.int 3)) (aCons (eC (.int 9)) aNil)))) aNil))) aNil))))
  (sSeq (sSet 6 (eCall gTuple (aCons (eLc (iRng1F (eVar 3)) [7] (gNm 7) tTrue (e2 gAddA (eC (.int 1)) (eFn (fun xs => if xs.length = 2 then m__law_taken xs else fail) (aCons (eVar 0) (aCons (eVar 4) aNil))))) aNil)))
  (sSeq (sSet 8 (eCall gTuple (aCons (eLc (iRng1F (eVar 3)) [7] (gNm 7) tTrue (eFn (fun xs => if xs.length = 2 then m__law_taken xs else fail) (aCons (eVar 0) (aCons (e2 gAddA (eVar 5) (eC (.int 1))) aNil)))) aNil)))
  (sSeq (sSet 9 (e2 gAddA (eCall gSum (aCons (eVar 6) aNil)) (eC (.int 2))))
  (sSeq (sSet 10 (eCall gTuple (aCons (eLc (iRng1F (eVar 3)) [7] (gNm 7) tTrue (eFn (fun xs => if xs.length = 2 then m__law_taken xs else fail) (aCons (eVar 0) (aCons (eVar 9) aNil)))) aNil)))
  (sRet (eTup (aCons (eVar 6) (aCons (eVar 8) (aCons (eVar 10) aNil))))))))))
def m__law_jobs : List RV → M RV := runDef 11 g__law_jobs
def g__law_order : DV.Env → M Out :=
  (sSeq (sPar 2 3 (aCons (eListRg (rg1F (eVar 1))) (aCons (eLst aNil) aNil)))
  (sSeq (sFor (iRng1F (eVar 1)) (gNm 4) (sPopApp 3 2 (eFn (fun xs => if xs.length = 2 then m__law_taken xs else fail) (aCons (eVar 0) (aCons (eCall gLen (aCons (eVar 2) aNil)) aNil)))))
  (sRet (eCall gTuple (aCons (eVar 3) aNil)))))
def m__law_order : List RV → M RV := runDef 5 g__law_order
def g__law_orders : DV.Env → M Out :=
  (sSeq (sSet 2 (eLst (aCons (eTup aNil) aNil)))
  (sSeq (sFor (iRng1F (eVar 0)) (gNm 3) (sSeq (sSet 4 (eLst aNil))
  (sSeq (sFor (srcV 2) (gNm 5) (sFor (iRng1F (eVar 0)) (gNm 6) (sIf (tIfT (eT (e2 gNotIn (eVar 6) (eVar 5))) (eT (e2 gEq (eLc (srcV 1) [7] (gNm 7) (tIfT (eT (e2 gEq (e2 gIx (eVar 7) (eC (.int 1))) (eVar 6))) (eT (e2 gNotIn (e2 gIx (eVar 7) (eC (.int 0))) (eVar 5))) (tRetB false)) (eVar 7)) (eLst aNil))) (tRetB false)) (sApp 4 (e2 gAddA (eVar 5) (eTup (aCons (eVar 6) aNil)))) sNil)))
  (sMove 2 4))))
  (sRetV 2)))
def m__law_orders : List RV → M RV := runDef 8 g__law_orders
def g_is_integer : DV.Env → M Out :=
  (sRet (eIfB (eIsT .int (eVar 0)) (eNotB (eIsT .bool (eVar 0))) (eC (.bool false))))
def m_is_integer : List RV → M RV := runDef 1 g_is_integer
def g_is_in : DV.Env → M Out :=
  (sRet (eIfB (eFn (fun xs => if xs.length = 1 then m_is_integer xs else fail) (aCons (eVar 0) aNil)) (eCh gLe gLe (eVar 1) (eVar 0) (eVar 2)) (eC (.bool false))))
def m_is_in : List RV → M RV := runDef 3 g_is_in
def g_is_list : DV.Env → M Out :=
  (sRet (eIfB (eIsT .tuple (eVar 0)) (eCh gLe gLe (eVar 1) (eCall gLen (aCons (eVar 0) aNil)) (eVar 2)) (eC (.bool false))))
def m_is_list : List RV → M RV := runDef 3 g_is_list
def g_is_order : DV.Env → M Out :=
  (sRet (eIfB (eFn (fun xs => if xs.length = 3 then m_is_list xs else fail) (aCons (eVar 0) (aCons (eVar 1) (aCons (eVar 1) aNil)))) (eIfB (eCall gAll (aCons (eLc (srcV 0) [2] (gNm 2) tTrue (eFn (fun xs => if xs.length = 3 then m_is_in xs else fail) (aCons (eVar 2) (aCons (eC (.int 0)) (aCons (e2 gSubI (eVar 1) (eC (.int 1))) aNil))))) aNil)) (e2 gEq (eLenSet (eVar 0)) (eVar 1)) (eC (.bool false))) (eC (.bool false))))
def m_is_order : List RV → M RV := runDef 3 g_is_order
def g_need_order : DV.Env → M Out :=
  (sIf (tNotF (eT (eFn (fun xs => if xs.length = 2 then m_is_order xs else fail) (aCons (eVar 0) (aCons (eVar 1) aNil))))) sNever sNil)
def m_need_order : List RV → M RV := runDef 2 g_need_order
def g_first_bad : DV.Env → M Out :=
  (sSeq (sIf (tNotF (eT (eFn (fun xs => if xs.length = 3 then m_is_list xs else fail) (aCons (eVar 0) (aCons (eVar 1) (aCons (eVar 1) aNil)))))) (sRet (eC .none)) sNil)
  (sSeq (sFor (iEnumF (srcV 0)) (gTupF 2 (gMore (gNm 4) (gMore (gNm 5) gNone))) (sIf (tNotF (eT (eFn (fun xs => if xs.length = 3 then m_is_in xs else fail) (aCons (eVar 5) (aCons (eVar 2) (aCons (eVar 3) aNil)))))) (sRetV 4) sNil))
  (sRet (eNeg (eC (.int 1))))))
def m_first_bad : List RV → M RV := runDef 6 g_first_bad
def g_need_times : DV.Env → M Out :=
  (sSeq (sIf (tNotF (eT (eFn (fun xs => if xs.length = 3 then m_is_list xs else fail) (aCons (eVar 0) (aCons (eC (.int 1)) (aCons (eC (.int 10)) aNil)))))) sNever sNil)
  (sSeq (sSet 1 (eFn (fun xs => if xs.length = 4 then m_first_bad xs else fail) (aCons (eVar 0) (aCons (eCall gLen (aCons (eVar 0) aNil)) (aCons (eC (.int 1)) (aCons (eC (.int 60)) aNil))))))
  (sIf (eT (e2 gNe (eVar 1) (eNeg (eC (.int 1))))) sNever sNil)))
def m_need_times : List RV → M RV := runDef 2 g_need_times
def g_able_jobs : DV.Env → M Out :=
  (sSeq (sSet 3 (eLc (iRng1F (eVar 2)) [4] (gNm 4) (eT (e2 gNotIn (eVar 4) (eVar 1))) (eVar 4)))
  (sRet (eLc (srcV 3) [4] (gNm 4) (tNotF (eT (eCall gAny (aCons (eLc (srcV 0) [5] (gNm 5) tTrue (eIfB (e2 gEq (e2 gIx (eVar 5) (eC (.int 1))) (eVar 4)) (e2 gIn (e2 gIx (eVar 5) (eC (.int 0))) (eVar 3)) (eC (.bool false)))) aNil)))) (eVar 4))))
def m_able_jobs : List RV → M RV := runDef 6 g_able_jobs
def g_need_weights : DV.Env → M Out :=
  (sSeq (sSet 2 (eFn (fun xs => if xs.length = 4 then m_first_bad xs else fail) (aCons (eVar 0) (aCons (eVar 1) (aCons (eC (.int 0)) (aCons (eC (.int 60)) aNil))))))
  (sIf (eT (e2 gNe (eVar 2) (eNeg (eC (.int 1))))) sNever sNil))
def m_need_weights : List RV → M RV := runDef 3 g_need_weights
def g_ends_in : DV.Env → M Out :=
  (sSeq (sPar 2 3 (aCons (e2 gMulA (eLst (aCons (eC (.int 0)) aNil)) (eCall gLen (aCons (eVar 0) aNil))) (aCons (eC (.int 0)) aNil)))
  (sSeq (sFor (srcV 1) (gNm 4) (sSeq (sAug 3 (fun a b => a + b) (e2 gIx (eVar 0) (eVar 4)))
  (sPut 2 (eVar 3) (eVar 4))))
  (sRetV 2)))
def m_ends_in : List RV → M RV := runDef 5 g_ends_in
def g_need_weighed : DV.Env → M Out :=
  (sSeq (sDrop (eFn (fun xs => if xs.length = 1 then m_need_times xs else fail) (aCons (eVar 0) aNil)))
  (sDrop (eFn (fun xs => if xs.length = 2 then m_need_weights xs else fail) (aCons (eVar 1) (aCons (eCall gLen (aCons (eVar 0) aNil)) aNil)))))
def m_need_weighed : List RV → M RV := runDef 2 g_need_weighed
def g__law_ends : DV.Env → M Out :=
  (sSeq (sPar 2 3 (aCons (e2 gMulA (eLst (aCons (eC (.int 0)) aNil)) (eCall gLen (aCons (eVar 0) aNil))) (aCons (eC (.int 0)) aNil)))
  (sSeq (sFor (srcV 1) (gNm 4) (sSeq (sSet 3 (e2 gAddA (eVar 3) (e2 gIx (eVar 0) (eVar 4))))
  (sPut 2 (eVar 3) (eVar 4))))
  (sRetV 2)))
def m__law_ends : List RV → M RV := runDef 5 g__law_ends
def g_need_dues : DV.Env → M Out :=
  (sSeq (sSet 2 (eFn (fun xs => if xs.length = 4 then m_first_bad xs else fail) (aCons (eVar 0) (aCons (eVar 1) (aCons (eC (.int 0)) (aCons (eC (.int 600)) aNil))))))
  (sIf (eT (e2 gNe (eVar 2) (eNeg (eC (.int 1))))) sNever sNil))
def m_need_dues : List RV → M RV := runDef 3 g_need_dues
end DVL

namespace DV
open PySem L2 PyProof.Rows
section
variable {X : Cx} {K : PySem.W.Frag} {R : RA} {L : Nat → Option (Addr × List V)} {E F F' H H' : Hp} {ρ ρ' : Env} {σ σ' : L2.St} {rs rs' : RS} {tg e c : Expr} {pos p : Pos} {te : TE} {f : Env → M RV}
def dI : D → Option Int
  | .int a => some a
  | _ => none
/-- x[k] op= e, ints -/
def sAugIx (i : Nat) (kf : Int → Int → Int) (g f : Env → M RV) : Env → M Out := fun ρ => bnd (lft (sApp.own? ρ i)) fun ds => bnd (g ρ) fun y => bnd (lft (asInt y)) fun j => bnd (lft (ixN ds.length j)) fun m => bnd (lft ((ds[m]?).bind dI)) fun a => bnd (f ρ) fun x => bnd (lft (asInt x)) fun b => ret (.nx (ρ.set i (some (.o (ds.set m (.int (kf a b)))))))
def pickA {α : Type} (xs : List α) (lo st : Int) : List α := (sliceRange (sliceBounds (some lo) none (some st) xs.length).1 (sliceBounds (some lo) none (some st) xs.length).2.1 (sliceBounds (some lo) none (some st) xs.length).2.2).filterMap (xs[·]?)
def eStep (f : Env → M RV) (lo st : Env → M (Option Int)) : Env → M RV := fun ρ => bnd (f ρ) fun x => bnd (lo ρ) fun l => bnd (st ρ) fun k => match l, k with
  | some l, some k => if k = 0 then fail else bnd (lft (newL x)) fun ds => ret (.n (pickA ds l k))
  | _, _ => fail
inductive Tgt where
  | nm (i : Nat) | sb (i : Nat) (f : Env → M RV)
def tgtF : Tgt → D → Env → M Env
  | .nm i, d, ρ => ret (ρ.set i (some (.d d)))
  | .sb i f, d, ρ => bnd (lft (sApp.own? ρ i)) fun ds => bnd (f ρ) fun y => bnd (lft (asInt y)) fun j => bnd (lft (ixN ds.length j)) fun m => ret (ρ.set i (some (.o (ds.set m d))))
def asDat : RV → Option D
  | .d x => some x
  | _ => none
def sTwo (t1 t2 : Tgt) (fa : Env → M (List RV)) : Env → M Out := fun ρ => bnd (fa ρ) fun xs => match xs with
  | [x, y] => bnd (lft (asDat x)) fun d => bnd (lft (asDat y)) fun e => bnd (tgtF t1 d ρ) fun ρ1 => bnd (tgtF t2 e ρ1) fun ρ2 => ret (.nx ρ2)
  | _ => fail
end
end DV

namespace DV
open PySem L2 PyProof.Rows
/-- the iterator's own objects, as they stood -/
def exAt (h0 : Heap) (c : Addr) : Heap → Prop := fun h => ∀ o, h0.get? c = some o → h.get? c = some o
def trkE (H : Hp) (h0 : Heap) (fp : List Addr) : Hp := fun c => if c ∈ fp then some (.ext (exAt h0 c)) else H c
theorem trkE_in {H : Hp} {h0 : Heap} {fp : List Addr} {c : Addr} (h : c ∈ fp) : trkE H h0 fp c = some (.ext (exAt h0 c)) := if_pos h
theorem trkE_out {H : Hp} {h0 : Heap} {fp : List Addr} {c : Addr} (h : c ∉ fp) : trkE H h0 fp c = H c := if_neg h
section
variable {X : Cx} {pins : List (Addr × Obj)} {σ : L2.St} {H : Hp} {s : Shared} {fp : List Addr} {h0 : Heap}
theorem trkE_of {b : Addr} {o : HO} (hn : ∀ b ∈ fp, H b = none) (e : H b = some o) : trkE H h0 fp b = some o := by
  rw [trkE_out fun z => by rw [hn b z] at e; cases e]
  exact e
theorem inv_trk (I : Inv X pins σ H s) (hf : ∀ b ∈ fp, FpOk X pins H b ∧ ∃ o, s.heap.get? b = some o) : Inv X pins σ (trkE H s.heap fp) s where
  ok := I.ok
  os := I.os
  bare := I.bare
  base := by
    have hn : ∀ b ∈ fp, H b = none := fun b h => (hf b h).1.1
    refine ⟨I.base.keep, I.base.slot, fun b o e n hx => ?_, I.base.there, fun b xs e => trkE_of hn (I.base.tups b xs e), fun b o u e => trkE_of hn (I.base.frzs b o u e), fun b ps e => ?_⟩
    · rw [trkE_out fun z => ?_]
      · exact I.base.free b o e n hx
      · rcases (hf b z).1.2.2.2.1 with q | q
        · exact hx q
        · exact absurd (Nat.lt_of_lt_of_le (Heap.lt_size e) q) (Nat.lt_irrefl _)
    · obtain ⟨more, q⟩ := I.base.tbls b ps e
      exact ⟨more, trkE_of hn q⟩
  loc := I.loc
  cell := I.cell
  free := by rw [trkE_out fun z => (hf _ z).1.2.1 rfl]; exact I.free
  freeC := fun x c e => by rw [trkE_out fun z => (hf _ z).1.2.2.2.2.1 x c e rfl]; exact I.freeC x c e
  pin := fun p hp => by
    obtain ⟨a1, a2, a3⟩ := I.pin p hp
    exact ⟨a1, by rw [trkE_out fun z => (hf _ z).1.2.2.2.2.2 p hp rfl]; exact a2, a3⟩
  hok := fun a o e => by
    have hn : ∀ b ∈ fp, H b = none := fun b h => (hf b h).1.1
    by_cases h : a ∈ fp
    · rw [trkE_in h] at e
      cases e
      exact ⟨fun _ q => q, (hf a h).2, fun h1 h2 p1 p2 o q => p2 o (p1 o q)⟩
    · rw [trkE_out h] at e
      exact (I.hok a o e).stay (fun b u _ q => q) (fun b q => trkE_of hn q) fun b xs q => trkE_of hn q
  len := I.len
theorem inv_untrk (I : Inv X pins σ (trkE H h0 fp) s) (hn : ∀ b ∈ fp, H b = none ∧ X.s_0.heap.objs.size ≤ b) : (∀ b ∈ fp, ∀ o, h0.get? b = some o → s.heap.get? b = some o) ∧ Inv X pins σ H s ∧ ∀ b ∈ fp, FpOk X pins H b := by
  have out : ∀ {b o}, trkE H h0 fp b = some o → (∀ φ, o ≠ .ext φ) → H b = some o := fun {b o} e ne => by
    by_cases h : b ∈ fp
    · rw [trkE_in h] at e
      exact absurd (Option.some.inj e).symm (ne _)
    · rw [trkE_out h] at e
      exact e
  have none_ : ∀ {b}, trkE H h0 fp b = none → H b = none := fun {b} e => by
    by_cases h : b ∈ fp
    · rw [trkE_in h] at e
      cases e
    · rw [trkE_out h] at e
      exact e
  refine ⟨fun b h o q => (I.hok b _ (trkE_in h)).1 o q, ⟨I.ok, I.os, I.bare, ⟨I.base.keep, I.base.slot, fun b o e n hx => none_ (I.base.free b o e n hx), I.base.there, fun b xs e => out (I.base.tups b xs e) (fun _ z => nomatch z), fun b o u e => out (I.base.frzs b o u e) (fun _ z => nomatch z), fun b ps e => ?_⟩, I.loc, I.cell, none_ I.free, fun x c e => none_ (I.freeC x c e), fun p hp => ?_, fun a o e => ?_, I.len⟩, fun b h => ⟨(hn b h).1, fun z => ?_, fun z => ?_, .inr (hn b h).2, fun x c e z => ?_, fun p hp z => ?_⟩⟩
  · obtain ⟨more, q⟩ := I.base.tbls b ps e
    exact ⟨more, out q fun _ z => nomatch z⟩
  · obtain ⟨a1, a2, a3⟩ := I.pin p hp
    exact ⟨a1, none_ a2, a3⟩
  · have e2 : trkE H h0 fp a = some o := trkE_of (fun b h => (hn b h).1) e
    exact (I.hok a o e2).stay (fun b u _ q => q) (fun b q => out q (fun _ z => nomatch z)) fun b xs q => out q (fun _ z => nomatch z)
  · have := I.free
    rw [← z, trkE_in h] at this
    cases this
  · obtain ⟨_, o, ho, _⟩ := I.ok.funs.mem z
    exact absurd (Nat.lt_of_lt_of_le (Heap.lt_size ho) (hn b h).2) (Nat.lt_irrefl _)
  · have := I.freeC x c e
    rw [z, trkE_in h] at this
    cases this
  · have := (I.pin p hp).2.1
    rw [z, trkE_in h] at this
    cases this
end
/-- what is known of an iterator that a name keeps -/
structure KeptAt (X : Cx) (tg : Expr) (it : Addr) (fp : List Addr) (tn : Nat → Heap → Prop) (J : It) (h0 : Heap) (H : Hp) : Prop where
  turn : Turn X.prog X.w X.K tg J fp it tn
  st : tn 0 h0
  fpo : ∀ b ∈ fp, H b = none ∧ X.s_0.heap.objs.size ≤ b
def tKeep (X : Cx) (tg : Expr) (wi : TI) : TE := fun σ H Q => wi σ H fun J H2 => ∀ it fp tn h0, KeptAt X tg it fp tn J h0 H2 → Q (.ref it) (trkE H2 h0 fp)
def iKept (X : Cx) (tg : Expr) (i : Nat) : TI := fun σ H R => ∃ it fp tn h0 J H2, σ[i]? = some (some (V.ref it)) ∧ H = trkE H2 h0 fp ∧ KeptAt X tg it fp tn J h0 H2 ∧ R J H2
section
variable {X : Cx}
theorem kept_fin {pins : List (Addr × Obj)} {σ : L2.St} {H : Hp} {s : Shared} {tg : Expr} {it : Addr} {fp : List Addr} {tn : Nat → Heap → Prop} {J : It} {Q : VK} (I : Inv X pins σ H s) (T : Turn X.prog X.w X.K tg J fp it tn) (st : tn 0 s.heap) (hf : ∀ b ∈ fp, FpOk X pins H b)
    (hsz : ∀ b ∈ fp, X.s_0.heap.objs.size ≤ b) (h : ∀ it fp tn h0, KeptAt X tg it fp tn J h0 H → Q (.ref it) (trkE H h0 fp)) : EP X pins σ Q (.ref it) s :=
  ⟨.ref it, trkE H s.heap fp, inv_trk I fun b hb => ⟨hf b hb, by obtain ⟨o, e, _⟩ := T.obj 0 s.heap st b hb; exact ⟨o, e⟩⟩, rfl, h it fp tn s.heap ⟨T, st, fun b hb => ⟨(hf b hb).1, hsz b hb⟩⟩⟩
theorem pe_zipKept3 {e e2 e3 : Expr} {ta : TA} {p pos tpos : Pos} {elts : List Expr} {kk : Nat} (hg : Gl X "zip") (hm : X.mg "zip" = none) (ha : PA X [e, e2, e3] ta)
    (hs : starEach [e, e2, e3] X.env = (false, eval e X.env) :: starEach [e2, e3] X.env := by rfl) (hpl : (backTo pos (starEach [e2, e3] X.env)).any (·.1) = false := by rfl) :
    PE X (.Call (.Name "zip" p) [e, e2, e3] [] pos) (tKeep X (.Tuple elts kk tpos) (iZipK3 X.K ta)) := by
  refine ⟨fun pins s σ H Q I h => ?_⟩
  refine Call_ (ld_blt I hg hm PyProof.Rows.boot_zip (PyProof.Rows.callWith_type1 (thn (ha.run pos pins s σ H _ I h) fun us s1 ⟨vs, H1, I1, r1, q1⟩ => ?_) hs hpl))
  obtain ⟨k1, k2, k3, a, b, c, xs, ys, us3, rfl, hqx, hqy, hqu, q⟩ := q1
  cases r1 with
  | cons r rr =>
  cases rr with
  | cons r' rr =>
  cases rr with
  | cons r'' rr =>
  cases rr
  cases r
  cases r'
  cases r''
  obtain ⟨its, rv, p1, _, la⟩ := seqK k1 I1 hqx
  obtain ⟨its2, rv2, p2, _, lb⟩ := seqK k2 I1 hqy
  obtain ⟨its3, rv3, p3, _, lc⟩ := seqK k3 I1 hqu
  refine zip_begins3 (beginK k1 a its.toArray) (beginK k2 b its2.toArray) (beginK k3 c its3.toArray) p1 p2 p3 fun h' hz hTI hTO g1 g2 g3 hsz hk => ?_
  have hle : ∀ c ∈ [s1.heap.objs.size + 5, s1.heap.objs.size + 3, s1.heap.objs.size + 4, s1.heap.objs.size, s1.heap.objs.size + 1, s1.heap.objs.size + 2], s1.heap.objs.size ≤ c := fun c hcm => by
    simp only [List.mem_cons, List.not_mem_nil, or_false] at hcm
    rcases hcm with z | z | z | z | z | z <;> rw [z] <;> first | exact Nat.le_add_right _ _ | exact Nat.le_refl _
  exact kept_fin (s := { s1 with heap := h' }) (I1.kept (t' := s1.toks) hk)
    (turn_zipK3 k1 k2 k3 (zip_sep3 (fun c hc => by simp at hc; rw [hc]; exact la) (fun c hc => by simp at hc; rw [hc]; exact lb) (fun d hd => by simp at hd; rw [hd]; exact lc)) (Nat.ne_of_lt la) (Nat.ne_of_lt (Nat.lt_succ_of_lt lb)) (Nat.ne_of_lt (Nat.lt_succ_of_lt (Nat.lt_succ_of_lt lc))))
    ⟨hz, hTI, ⟨_, _, _, hTO⟩, .new k1 g1, .new k2 g2, .new k3 g3⟩ (fun c hc => I1.fpOk (hle c hc) (I1.hok.fresh (hle c hc))) (fun c hc => Nat.le_trans I1.sz (hle c hc)) q
theorem pi_kept {i : Nat} {x : Str} {p : Pos} {tg : Expr} (hN : X.N[i]? = some x) (hv : Vis X.env.scope x) (hd : (x == ("__debug__" : Str)) = false := by decide) (hcd : (x == ("__classdict__" : Str)) = false := by decide) : PI X tg (.Name x p) (iKept X tg i) := by
  refine ⟨fun pins s σ H R I h => ?_⟩
  obtain ⟨it, fp, tn, h0, J, H2, e, rfl, k, q⟩ := h
  refine thn ((pe_var hN hv hd hcd).run pins s σ _ (fun v H' => v = .ref it ∧ H' = trkE H2 h0 fp) I ⟨_, e, rfl, rfl⟩) fun u s1 ⟨v, H', I1, r, ev, eH⟩ => ?_
  subst ev eH
  obtain rfl : u = Value.ref it := r
  obtain ⟨a1, a2, a3⟩ := inv_untrk I1 k.fpo
  have st : tn 0 s1.heap := k.turn.keep 0 h0 s1.heap k.st a1
  exact k.turn.self X.A 0 s1 _ _ st ⟨it, fp, tn, J, H2, rfl, a2, k.turn, st, a3, q⟩
end
section
variable {X : Cx} {K : PySem.W.Frag} {R : RA} {L : Nat → Option (Addr × List V)} {E F F' H H' : Hp} {ρ ρ' : Env} {σ σ' : L2.St} {rs rs' : RS}
variable {S S' : List Nat} {tg it elt e e2 c : Expr} {es ifs : List Expr} {g : TG} {hg : D → Env → Option Env} {pos p : Pos} {te t1 t2 : TE} {tt : TT} {ta : TA} {wi : TI}
/-- what stands already, and what is pinned -/
theorem Rel.pinE (r : Rel K R L E F ρ σ rs H) {F2 H2 : Hp} {rs1 : RS} (s : Step K R rs1 F H F2 H2) {P : Hp} (pn : PinOk K R E F2 H H2 ρ σ none P) : Rel K R L (addH E P) F2 ρ σ rs1 H2 := by
  have r2 := r.step s
  have npin : ∀ {b o}, H b = some o → E b = none → P b = none := fun {b o} e1 e2 => by
    cases q : P b with
    | none => rfl
    | some u =>
      rcases (pn b u q).2.2.2 with ⟨z, _⟩ | z | ⟨_, _, z, _⟩
      · rw [e1] at z; cases z
      · rw [e2] at z; cases z
      · cases z
  have addn : ∀ {b o}, H b = some o → E b = none → addH E P b = none := fun {b o} e1 e2 => by
    unfold addH
    rw [e2]
    exact npin e1 e2
  refine ⟨r2.len, fun a o e => ?_, fun a o e => ?_, r2.fr, r2.row, fun q e => ⟨?_, (r2.rE q e).2⟩, fun i a vs e => ?_, fun i sv e => ?_, r2.own⟩
  · unfold addH at e
    cases q : E a with
    | some u => rw [q] at e; cases e; exact r2.ex a o q
    | none => rw [q] at e; exact (pn a o e).1
  · unfold addH at e
    cases q : E a with
    | some u => rw [q] at e; cases e; exact r2.ent a o q
    | none => rw [q] at e; exact (pn a o e).2.2.1
  · unfold addH
    rw [(r.rE q e).1]
    cases z : P q with
    | none => rfl
    | some u => exact absurd e.symm (pn q u z).2.1
  · unfold addH
    rw [r2.lk i a vs e]
  · obtain ⟨v, e1, q⟩ := r2.sl i sv e
    obtain ⟨v0, e0, q0⟩ := r.sl i sv e
    rw [e1] at e0
    cases e0
    refine ⟨v, e1, ?_⟩
    cases sv with
    | o ds =>
      obtain ⟨a, vs, ea, h1, h2, h3, h4, h5⟩ := q
      obtain ⟨a0, vs0, ea0, g1, g2, _⟩ := q0
      rw [ea] at ea0
      cases ea0
      exact ⟨a, vs, ea, h1, addn g1 g2, h3, h4, h5⟩
    | g c =>
      obtain ⟨a, u, ea, h1, h2, h3, h4, h5⟩ := q
      obtain ⟨a0, u0, ea0, g1, g2, _⟩ := q0
      rw [ea] at ea0
      cases ea0
      exact ⟨a, u, ea, h1, addn g1 g2, h3, h4, h5⟩
    | d _ => exact q
    | k _ => exact q
    | un => exact q
    | row => exact q
    | ex _ _ => exact q
    | fn _ => exact q
    | lm => exact q
def sZk (i : Nat) (fi : Env → M (List D × Option Nat)) (vs : List Nat) (hg : D → Env → Option Env) (tst : Env → M Bool) (el : Env → M RV) (gg : List RV → Option RV) : Env → M Out := fun ρ => bnd (fi ρ) fun p => if i < ρ.length then match p.2 with
  | none => bnd (eLc (fun _ => ret (p.1, none)) vs hg tst el (ρ.set i (some .un))) fun x => bnd (lft (gg [x])) fun y => match y with
    | .d d => ret (.rt (.d d))
    | _ => fail
  | some _ => fail
  else fail
theorem sZk_some {i : Nat} {fi : Env → M (List D × Option Nat)} {vs : List Nat} {tst : Env → M Bool} {el : Env → M RV} {gg : List RV → Option RV} {o : Out} (hf : sZk i fi vs hg tst el gg ρ rs = some (o, rs')) :
    ∃ its rs1 x d, fi ρ rs = some ((its, none), rs1) ∧ eLc (fun _ => ret (its, none)) vs hg tst el (ρ.set i (some .un)) rs1 = some (x, rs') ∧ gg [x] = some (.d d) ∧ o = .rt (.d d) ∧ i < ρ.length := by
  obtain ⟨⟨its, lk⟩, rs1, e1, h1⟩ := bnd_some hf
  by_cases hl : i < ρ.length
  case neg => rw [if_neg hl] at h1; cases h1
  rw [if_pos hl] at h1
  cases lk with
  | some _ => cases h1
  | none =>
    obtain ⟨x, rs2, e2, h2⟩ := bnd_some h1
    obtain ⟨y, rs3, e3, h3⟩ := bnd_some h2
    obtain ⟨e4, q4⟩ := lft_some e3
    subst q4
    cases y with
    | d d =>
      obtain ⟨e5, q5⟩ := ret_some h3
      subst e5 q5
      exact ⟨its, rs1, x, d, e1, e2, e4, rfl, hl⟩
    | b _ => cases h3
    | n _ => cases h3
    | gb _ => cases h3
    | gn _ => cases h3
    | row => cases h3
def tZk (X : Cx) (tg : Expr) (wi : TI) (i : Nat) (r : List V → Hp → VK → Prop) (g : TG) (tt : TT) (te : TE) (vs : List Nat) : TS := tSeq (tAsg (tKeep X tg wi) (gName i)) (tRet (tCB r (tCons (tLc (iKept X tg i) g tt te vs) tNil)))
theorem ssem_zk {i : Nat} {r : List V → Hp → VK → Prop} {gg : List RV → Option RV} {fi : Env → M (List D × Option Nat)} {vs : List Nat} {tst : Env → M Bool} {el : Env → M RV} (hi : ISem K R wi fi) (hr : CSem K R r gg) (hgs : GSem K R S g hg) (hS : ∀ i ∈ S, i ∈ vs) (ht : TSem K R tt tst) (he : ESem K R te el) :
    SSem K R (tZk X tg wi i r g tt te vs) (sZk i fi vs hg tst el gg) :=
  fun L E F ρ σ rs H o rs' D r0 hf k => by
    obtain ⟨its, rs1, x, d, e1, e2, e3, rfl, hl⟩ := sZk_some hf
    have hlen := r0.len
    refine hi L E ρ σ F H rs its none rs1 _ r0 e1 fun J F2 H2 s1 ⟨G, Y, P, wk, pn, hG, hY⟩ => ?_
    intro it fp tn h0 kp
    have r2 : Rel K R L (addH E P) F2 (ρ.set i (some .un)) (σ.set i (some (.ref it))) rs1 H2 := (r0.pinE s1 pn).put i .un (.ref it) trivial fun _ z => z.elim
    have iσ : (σ.set i (some (V.ref it)))[i]? = some (some (V.ref it)) := List.getElem?_set_self (by omega)
    refine ⟨it, fp, tn, h0, J, H2, iσ, rfl, kp, ?_⟩
    refine esem_lc_at (wi := fun _ H R => R J H) (fi := fun _ => ret (its, none)) (Q := fun v H1 => tNil (σ.set i (some (V.ref it))) H1 fun vs H2 => r (v :: vs) H2 D.rt) r2 (fun its' lk' rs2 Rq ee kk => ?_) hgs hS ht he e2 (fun v F3 H3 s3 h3 => ?_)
    · obtain ⟨ea, eb⟩ := ret_some ee
      cases ea
      subst eb
      refine kk J F2 H2 r2.refl ⟨G, Y, P, wk, fun a o q => ?_, hG, hY⟩
      obtain ⟨b1, b2, b3, b4⟩ := pn a o q
      refine ⟨b1, b2, b3, .inr (.inl ?_)⟩
      unfold addH
      cases z : E a with
      | none => exact q
      | some u =>
        rw [(s1.trans r0.row (Step.refl s1.fin s1.row s1.rF)).keep a u (r0.ex a u z) (fun y => b2 y) (r0.ent a u z)] at b1
        exact b1
    · refine hr F3 H2 H3 rs' [v] [x] (.d d) _ (r2.step s3).refl (.cons h3 .nil) e3 fun w F4 H4 s4 h4 => ?_
      have r3 := r2.step s3
      have r4 := r3.step s4
      have f4 : FStep R (addH E P) F2 F4 := (FStep.ofStep r2 s3).trans (FStep.ofStep r3 s4)
      have less : ∀ a, addH E P a = none → E a = none := fun a z => by
        unfold addH at z
        cases q : E a with
        | none => rfl
        | some u => rw [q] at z; cases z
      exact k w F4 H4 ⟨(FStep.ofStep r0 s1).trans (f4.less less), fun a o q => r4.ex a o (by unfold addH; rw [q]), r4.fr, r4.row, fun q e => (r4.rE q e).2, h4⟩
/-- an iterator made, to be kept -/
structure DZ (X : Cx) (R : RA) (tg e : Expr) (wi : TI) (fi : Env → M (List D × Option Nat)) : Prop where
  pe : PE X e (tKeep X tg wi)
  sem : ISem X.K R wi fi
theorem dz_zip3 {e3 : Expr} {t3 : TE} {f g h' : Env → M (List D × Option Nat)} {elts : List Expr} {kk : Nat} {tpos : Pos} (hgl : Gl X "zip") (hm : X.mg "zip" = none) (h : DSrc X R e t1 f) (h2 : DSrc X R e2 t2 g) (h3 : DSrc X R e3 t3 h') (hs : starEach [e, e2, e3] X.env = (false, eval e X.env) :: starEach [e2, e3] X.env := by rfl) (hs2 : starEach [e2, e3] X.env = (false, eval e2 X.env) :: starEach [e3] X.env := by rfl) (hs3 : starEach [e3] X.env = (false, eval e3 X.env) :: starEach [] X.env := by rfl)
    (hpl : (backTo pos (starEach [e2, e3] X.env)).any (·.1) = false := by rfl) : DZ X R (.Tuple elts kk tpos) (.Call (.Name "zip" p) [e, e2, e3] [] pos) (iZipK3 X.K (tCons t1 (tCons t2 (tCons t3 tNil)))) (iZip3F f g h') :=
  ⟨pe_zipKept3 hgl hm (pa_cons h.pe (pa_cons h2.pe (pa_cons h3.pe pa_nil hs3) hs2) hs) hs hpl, (di_zip3 (pos := pos) (p := p) (elts := elts) (kk := kk) (tpos := tpos) hgl hm h h2 h3 hs hs2 hs3 hpl).sem⟩
section
variable {i : Nat} {x f : Str} {ez : Expr} {px p2 pf pos2 pos3 : Pos} {scope : Scope} {own : List (Str × Nat)} {fi : Env → M (List D × Option Nat)} {tst : Env → M Bool} {el : Env → M RV} {r : List V → Hp → VK → Prop} {gg : List RV → Option RV}
theorem dss_zkB {id : String} (hc : X.calm = true) (hN : X.N.Nodup) (hi : X.N[i]? = some x) (hx : Loc X.env.scope x) (hz : DZ X R tg ez wi fi) (ok : BlkOk X.N X.env.scope scope own) (hS : ∀ i ∈ S, i ∈ own.map (·.2))
    (hg' : ∀ (s : Shared) (H : Hp) (C : Addr) (cl : List (Str × Addr)) (fp : List Addr), DG (X.blk s H scope (compEnvC scope cl C X.env) fp) R S tg g hg) (ht : ∀ (s : Shared) (H : Hp) (C : Addr) (cl : List (Str × Addr)) (fp : List Addr), DTs (X.blk s H scope (compEnvC scope cl C X.env) fp) R ifs tt tst)
    (he : ∀ (s : Shared) (H : Hp) (C : Addr) (cl : List (Str × Addr)) (fp : List Addr), DE (X.blk s H scope (compEnvC scope cl C X.env) fp) R elt te el)
    (hcr : CallR X (.builtin id) r) (hr : CSem X.K R r gg) (hgf : Gl X f) (hmf : X.mg f = none) (hvf : bootBuiltins f = some (.builtin id))
    (hv : Vis X.env.scope x := by first | exact Or.inl rfl | exact Or.inr (Or.inl rfl) | exact Or.inr (Or.inr rfl)) (hd : (x == ("__debug__" : Str)) = false := by decide) (hcd : (x == ("__classdict__" : Str)) = false := by decide)
    (hs1 : swapsWith ez (some (.Name x px)) pos.line X.env = pure false := by rfl) (hf : X.fn x = true ∨ X.env.scope.names.lookup x = some .local := by first | exact .inl rfl | exact .inr rfl | assumption)
    (hn : f ≠ "__name__" := by decide) (hdb : (f == ("__debug__" : Str)) = false := by decide)
    (hs : ∀ y, foldedSetIterable (.Name x p2) X.env y = pure y := by intro _; rfl)
    (hq : starEach [.ListComp elt [⟨tg, .Name x p2, ifs, 0⟩] scope pos2] X.env = (false, eval (.ListComp elt [⟨tg, .Name x p2, ifs, 0⟩] scope pos2) X.env) :: starEach [] X.env := by rfl) (hpl : (backTo pos3 (starEach [] X.env)).any (·.1) = false := by rfl) :
    DSs X R [.Assign [.Name x px] ez pos, .Return (some (.Call (.Name f pf) [.ListComp elt [⟨tg, .Name x p2, ifs, 0⟩] scope pos2] [] pos3)) p] (tZk X tg wi i r g tt te (own.map (·.2))) (sZk i fi (own.map (·.2)) hg tst el gg) :=
  ⟨pss_cons (ps_set hN hi hx hz.pe hs1 hf) (pss_one (ps_ret (pe_callB hcr hgf hmf hvf (pa_cons (pe_lc hc hN (pi_kept hi hv hd hcd) ok (fun s H C cl fp => (hg' s H C cl fp).pg) (fun s H C cl fp => (ht s H C cl fp).pt) (fun s H C cl fp => (he s H C cl fp).pe) hs) pa_nil hq) hn hdb hq hpl))),
    ssem_zk hz.sem hr (hg' {} (fun _ => none) 0 [] []).sem hS (ht {} (fun _ => none) 0 [] []).sem (he {} (fun _ => none) 0 [] []).sem⟩
end
end
end DV







namespace Lk06
open PySem L2 DV
def top (i : Nat) : Stmt := PySem.Challenge.pw_shoporders_k06_whole_greatest_costs.main.body.getD i (.Pass ⟨0, 0, 0, 0⟩)
abbrev s__law_alike : Stmt := top 40
abbrev s__law_ends : Stmt := top 44
abbrev s__law_greatest : Stmt := top 47
abbrev s__law_taken : Stmt := top 38
abbrev s__law_pick : Stmt := top 39
abbrev s__law_jobs : Stmt := top 41
abbrev s__law_late : Stmt := top 45
abbrev s__law_order : Stmt := top 42
abbrev s__law_orders : Stmt := top 43
abbrev s__law_pairs : Stmt := top 46
abbrev s_is_integer : Stmt := top 1
abbrev s_is_in : Stmt := top 2
abbrev s_is_list : Stmt := top 3
abbrev s_first_bad : Stmt := top 18
abbrev s_need_dues : Stmt := top 21
abbrev s_able_jobs : Stmt := top 26
abbrev s_first_order : Stmt := top 25
abbrev s_need_pairs : Stmt := top 24
abbrev s_need_times : Stmt := top 19
abbrev s_due_days : Stmt := top 36
abbrev s_cost_at : Stmt := top 32
abbrev s_ends_in : Stmt := top 28
abbrev s_greatest_in : Stmt := top 33
abbrev s_is_order : Stmt := top 22
abbrev s_need_order : Stmt := top 23
abbrev s_need_weights : Stmt := top 20
abbrev s_need_weighed : Stmt := top 29
abbrev s_greatest_cost : Stmt := top 34
abbrev s_need_costs : Stmt := top 31
abbrev s_least_greatest : Stmt := top 35
abbrev s_law : Stmt := top 48
structure Txt (mg : Str → Option Value) : Prop where
  b_all : mg "all" = none
  b_any : mg "any" = none
  b_bool : mg "bool" = none
  b_enumerate : mg "enumerate" = none
  b_int : mg "int" = none
  b_isinstance : mg "isinstance" = none
  b_len : mg "len" = none
  b_list : mg "list" = none
  b_max : mg "max" = none
  b_min : mg "min" = none
  b_range : mg "range" = none
  b_reversed : mg "reversed" = none
  b_set : mg "set" = none
  b_str : mg "str" = none
  b_sum : mg "sum" = none
  b_tuple : mg "tuple" = none
  b_zip : mg "zip" = none
  c_MOST_DAY : ∃ tk, mg "MOST_DAY" = some (.int 600 tk)
  c_MOST_JOBS : ∃ tk, mg "MOST_JOBS" = some (.int 10 tk)
  c_MOST_PAIRS : ∃ tk, mg "MOST_PAIRS" = some (.int 40 tk)
  c_MOST_TIME : ∃ tk, mg "MOST_TIME" = some (.int 60 tk)
  c_MOST_WEIGHT : ∃ tk, mg "MOST_WEIGHT" = some (.int 60 tk)
section
variable {P : Program} {w : World} {K : PySem.W.Frag} {mg : Str → Option Value} {base : Heap}
abbrev nm__law_alike : List Str := ["_law_found", "_law_due", "_law_k"]
theorem sc__law_alike : FnScope nm__law_alike ["_law_found", "_law_due"] (defScope s__law_alike) := ⟨rfl, rfl, rfl, by decide +kernel, rfl, by decide +kernel, by decide +kernel⟩
abbrev g__law_alike := DVL.g__law_alike
abbrev mr__law_alike := DVL.mr__law_alike
abbrev m__law_alike : List RV → M RV := DVL.m__law_alike
theorem okr__law_alike {f : Addr} {fd : FuncData} (F : Fun K "_law_alike" "_law_alike" s__law_alike f fd) (T : Txt mg) (hm : mg "_law_alike" = some (.ref f)) (hk : PySem.W.keepIn K (.ref f) = true) (hb : Binds K fd ["_law_found", "_law_due"] [])  : ∀ n : Nat, FnOk P w K mg base CX0 (1 + n) f fd ["_law_found", "_law_due"] (spFn K 2 (mr__law_alike n))
  | 0 => fn_none
  | n + 1 => by
    have C__law_alike : Cal P w K mg base "_law_alike" (1 + n) ["_law_found", "_law_due"] 2 (mr__law_alike n) := ⟨f, fd, okr__law_alike F T hm hk hb  n, hm, hk, hb⟩
    have sc := sc__law_alike
    have e : spFn K 2 (mr__law_alike (n + 1)) = spFn K (["_law_found", "_law_due"] : List Str).length (runDef nm__law_alike.length (g__law_alike (mr__law_alike n))) := rfl
    rw [e]
    refine fn_ok (P := P) (w := w) (mg := mg) (base := base) (k := 1 + n) (g := g__law_alike (mr__law_alike n)) F sc ?_
    intro R cdv A outer s H E hcd hr
    exact ⟨_, (dss_cons (ds_if (dt_val (de_isT2 .tuple .list (by rfl) T.b_isinstance (by rfl) T.b_tuple (by decide +kernel) (by rfl) T.b_list (by decide +kernel) (de_var 1))) (dss_cons (ds_if (DW.dt (dw_or (dt_not (dt_val (de_isT2 .tuple .list (by rfl) T.b_isinstance (by rfl) T.b_tuple (by decide +kernel) (by rfl) T.b_list (by decide +kernel) (de_var 0)))) (dw_or1 (dt_cmp (r := (rNeD K)) (op_neD (rm64 hr)) rsem_ne (de_isT .list (by rfl) T.b_isinstance (by rfl) T.b_list (by decide +kernel) (de_var 0)) (de_isT .list (by rfl) T.b_isinstance (by rfl) T.b_list (by decide +kernel) (de_var 1)) (nomark _))))) (dss_one (ds_ret de_bl)) dss_nil)
    (dss_cons (ds_if (dt_cmp (r := (rNeD K)) (op_neD (rm64 hr)) rsem_ne (de_callB (r := (DV.rLen K)) call_len_seq csem_len (by rfl) T.b_len PySem.boot_len (da_cons (de_var 0) da_nil)) (de_callB (r := (DV.rLen K)) call_len_seq csem_len (by rfl) T.b_len PySem.boot_len (da_cons (de_var 1) da_nil)) (nomark _)) (dss_one (ds_ret de_bl)) dss_nil)
    (dss_one (ds_ret (de_cmp (r := (rEqD K)) (op_eqD (rm64 hr)) rsem_eq (de_lc (own := [("_law_k", 2)]) (g := (gName 2)) (tt := (tNot (tB (tCall (spFn K 2 (mr__law_alike n)) [] E0 (tCons (tOp (rIx K) (tVar 0) (tVar 2)) (tCons (tOp (rIx K) (tVar 1) (tVar 2)) tNil)))))) (te := (tVar 2)) (by rfl) sc.nd (di_range1 (by rfl) T.b_range (de_callB (r := (DV.rLen K)) call_len_seq csem_len (by rfl) T.b_len PySem.boot_len (da_cons (de_var 1) da_nil))) (blkOk_by (N := nm__law_alike) (sc := defScope s__law_alike) (by decide +kernel)) (by decide) (fun _ _ _ _ _ => (dg_name (i := 2) sc.nd (by rfl) (by first | exact Or.inl rfl | exact Or.inr rfl))) (fun _ _ _ _ _ => (dts_one (dt_not (dt_val (de_call C__law_alike hr (Nat.le_refl _) (by rfl) (da_cons (de_ix (de_var 0) (de_var 2)) (da_cons (de_ix (de_var 1) (de_var 2)) da_nil))))))) (fun _ _ _ _ _ => (de_var 2))) (de_lst da_nil) (nomark _)))))) dss_nil)
    (dss_cons (ds_if (DW.dt (dw_or (dt_cmp (r := (fun x y H Q => y = .non ∧ Q (.bl (decide (x = .non))) H)) op_isN rsem_isN (de_var 1) de_non (nomark _)) (dw_or1 (dt_val (de_isT .str (by rfl) T.b_isinstance (by rfl) T.b_str (by decide +kernel) (de_var 1)))))) (dss_one (ds_ret (de_and (de_cmp (r := (rEqD K)) (op_eqD (rm64 hr)) rsem_eq (de_var 0) (de_var 1) (nomark _)) (de_one (de_cmp (r := (rEqD K)) (op_eqD (rm64 hr)) rsem_eq (de_isT .str (by rfl) T.b_isinstance (by rfl) T.b_str (by decide +kernel) (de_var 0)) (de_isT .str (by rfl) T.b_isinstance (by rfl) T.b_str (by decide +kernel) (de_var 1)) (nomark _)))))) dss_nil)
    (dss_one (ds_ret (de_and (de_isT .int (by rfl) T.b_isinstance (by rfl) T.b_int (by decide +kernel) (de_var 0)) (de_and (de_cmp (r := (rEqD K)) (op_eqD (rm64 hr)) rsem_eq (de_isT .bool (by rfl) T.b_isinstance (by rfl) T.b_bool (by decide +kernel) (de_var 0)) (de_isT .bool (by rfl) T.b_isinstance (by rfl) T.b_bool (by decide +kernel) (de_var 1)) (nomark _)) (de_one (de_cmp (r := (rEqD K)) (op_eqD (rm64 hr)) rsem_eq (de_var 0) (de_var 1) (nomark _)))))))))⟩
abbrev nm__law_ends : List Str := ["_law_times", "_law_order_here", "_law_found", "_law_day", "_law_job"]
theorem sc__law_ends : FnScope nm__law_ends ["_law_times", "_law_order_here"] (defScope s__law_ends) := ⟨rfl, rfl, rfl, by decide +kernel, rfl, by decide +kernel, by decide +kernel⟩
abbrev g__law_ends : DV.Env → M Out := DVL.g__law_ends
abbrev m__law_ends : List RV → M RV := DVL.m__law_ends
theorem ok__law_ends {f : Addr} {fd : FuncData} (F : Fun K "_law_ends" "_law_ends" s__law_ends f fd) (T : Txt mg)  : FnOk P w K mg base CX0 1 f fd ["_law_times", "_law_order_here"] (spFn K 2 m__law_ends) := by
  have sc := sc__law_ends
  have e : spFn K 2 m__law_ends = spFn K (["_law_times", "_law_order_here"] : List Str).length (runDef nm__law_ends.length g__law_ends) := rfl
  rw [e]
  refine fn_ok (P := P) (w := w) (mg := mg) (base := base) (k := 0) (g := g__law_ends) F sc ?_
  intro R cdv A outer s H E hcd hr
  exact ⟨_, (dss_cons (ds_par (i := 2) (j := 3) (by rfl) sc.nd (by rfl) (by rfl) (by decide) (by rfl) (by rfl) (de_op (r := (rMulA K)) op_mulA rsem_mul (de_lst (da_cons de_int da_nil)) (de_callB (r := (DV.rLen K)) call_len_seq csem_len (by rfl) T.b_len PySem.boot_len (da_cons (de_var 0) da_nil))) de_int (by rfl))
    (dss_cons (ds_for PassesOwn.never (by rfl) (di_seq (src_v 1)) (dg_name (i := 4) sc.nd (by rfl) (by first | exact Or.inl rfl | exact Or.inr rfl)) (dss_cons (ds_set (i := 3) sc.nd (by rfl) (by first | exact Or.inl rfl | exact Or.inr rfl) (de_op (r := (rAddA K)) op_addA rsem_add (de_var 3) (de_ix (de_var 0) (de_var 4))))
    (dss_one (ds_putF (i := 2) (de_var 3) (de_var 4) fun h => pg_sub (pv 2) h set_list))))
    (dss_one (ds_retV 2))))⟩
abbrev nm__law_greatest : List Str := ["_law_times", "_law_weights", "_law_dues", "_law_order_here", "_law_ends_here", "_law_at"]
theorem sc__law_greatest : FnScope nm__law_greatest ["_law_times", "_law_weights", "_law_dues", "_law_order_here"] (defScope s__law_greatest) := ⟨rfl, rfl, rfl, by decide +kernel, rfl, by decide +kernel, by decide +kernel⟩
def g__law_greatest : DV.Env → M Out :=
  (sSeq (sSet 4 (eFn (fun xs => if xs.length = 2 then m__law_ends xs else fail) (aCons (eVar 0) (aCons (eVar 3) aNil))))
  (sRet (eCall (gBest PySem.W.maxD) (aCons (eLc (iRng1F (eCall gLen (aCons (eVar 0) aNil))) [5] (gNm 5) tTrue (e2 gMulA (e2 gIx (eVar 1) (eVar 5)) (eCall gMax2 (aCons (eC (.int 0)) (aCons (e2 gSubI (e2 gIx (eVar 4) (eVar 5)) (e2 gIx (eVar 2) (eVar 5))) aNil))))) aNil))))
def m__law_greatest : List RV → M RV := runDef 6 g__law_greatest
theorem ok__law_greatest {f : Addr} {fd : FuncData} (F : Fun K "_law_greatest" "_law_greatest" s__law_greatest f fd) (T : Txt mg) (C__law_ends : Cal P w K mg base "_law_ends" 1 ["_law_times", "_law_order_here"] 2 m__law_ends) : FnOk P w K mg base CX0 2 f fd ["_law_times", "_law_weights", "_law_dues", "_law_order_here"] (spFn K 4 m__law_greatest) := by
  have sc := sc__law_greatest
  have e : spFn K 4 m__law_greatest = spFn K (["_law_times", "_law_weights", "_law_dues", "_law_order_here"] : List Str).length (runDef nm__law_greatest.length g__law_greatest) := rfl
  rw [e]
  refine fn_ok (P := P) (w := w) (mg := mg) (base := base) (k := 1) (g := g__law_greatest) F sc ?_
  intro R cdv A outer s H E hcd hr
  exact ⟨_, (dss_cons (ds_set (i := 4) sc.nd (by rfl) (by first | exact Or.inl rfl | exact Or.inr rfl) (de_call C__law_ends hr (by decide) (by rfl) (da_cons (de_var 0) (da_cons (de_var 3) da_nil))))
    (dss_one (ds_ret (de_callB (r := (DV.rBest K PySem.W.maxD)) (cr_maxA (by rfl) (rm65 hr)) csem_best (by rfl) T.b_max PyProof.Rows.boot_max (da_cons (de_lc (own := [("_law_at", 5)]) (g := (gName 5)) (tt := tYes) (te := (tOp (rMulA K) (tOp (rIx K) (tVar 1) (tVar 5)) (tCB (fun xs H Q => ∃ i j, xs = [.int i, .int j] ∧ Q (.int (if j > i then j else i)) H) (tCons (tC (.int 0)) (tCons (tOp (rI0 fun i j => .int (i - j)) (tOp (rIx K) (tVar 4) (tVar 5)) (tOp (rIx K) (tVar 2) (tVar 5))) tNil))))) (by rfl) sc.nd (di_range1 (by rfl) T.b_range (de_callB (r := (DV.rLen K)) call_len_seq csem_len (by rfl) T.b_len PySem.boot_len (da_cons (de_var 0) da_nil))) (blkOk_by (N := nm__law_greatest) (sc := defScope s__law_greatest) (by decide +kernel)) (by decide) (fun _ _ _ _ _ => (dg_name (i := 5) sc.nd (by rfl) (by first | exact Or.inl rfl | exact Or.inr rfl))) (fun _ _ _ _ _ => dts_nil) (fun _ _ _ _ _ => (de_op (r := (rMulA K)) op_mulA rsem_mul (de_ix (de_var 1) (de_var 5)) (de_callB (r := (fun xs H Q => ∃ i j, xs = [.int i, .int j] ∧ Q (.int (if j > i then j else i)) H)) (call_max2 (by rfl)) csem_max2 (by rfl) T.b_max PyProof.Rows.boot_max (da_cons de_int (da_cons (de_op (r := (rI0 fun i j => .int (i - j))) op_sub rs_sub (de_ix (de_var 4) (de_var 5)) (de_ix (de_var 2) (de_var 5))) da_nil)))))) da_nil)))))⟩
abbrev nm__law_taken : List Str := ["_law_row", "_law_many", "_law_found", "_law_cell"]
theorem sc__law_taken : FnScope nm__law_taken ["_law_row", "_law_many"] (defScope s__law_taken) := ⟨rfl, rfl, rfl, by decide +kernel, rfl, by decide +kernel, by decide +kernel⟩
abbrev g__law_taken : DV.Env → M Out := DVL.g__law_taken
abbrev m__law_taken : List RV → M RV := DVL.m__law_taken
theorem ok__law_taken {f : Addr} {fd : FuncData} (F : Fun K "_law_taken" "_law_taken" s__law_taken f fd) (T : Txt mg)  : FnOk P w K mg base CX0 1 f fd ["_law_row", "_law_many"] (spFn K 2 m__law_taken) := by
  have sc := sc__law_taken
  have e : spFn K 2 m__law_taken = spFn K (["_law_row", "_law_many"] : List Str).length (runDef nm__law_taken.length g__law_taken) := rfl
  rw [e]
  refine fn_ok (P := P) (w := w) (mg := mg) (base := base) (k := 0) (g := g__law_taken) F sc ?_
  intro R cdv A outer s H E hcd hr
  exact ⟨_, (dss_cons (ds_if (dt_cmp (r := (rI0 fun i j => .bl (decide (j < i)))) op_gt rs_gt (de_row 0 3 (de_var 0)) de_int (nomark _)) (dss_cons (ds_set (i := 2) sc.nd (by rfl) (by first | exact Or.inl rfl | exact Or.inr rfl) (de_op (r := (rI (fun _ j => 0 < j) fun i j => .int (i % j))) op_mod rs_mod (de_callTy (r := (fun xs H Q => (∃ i, xs = [.int i] ∧ Q (.int i) H) ∨ ∃ k, xs = [.bl k] ∧ Q (.int (if k then 1 else 0)) H)) call_int1 csem_int (by rfl) T.b_int PyProof.Rows.boot_int (da_cons (de_row 0 3 (de_var 0)) da_nil)) (de_var 1)))
    (dss_cons (ds_rowPut 0 3 (de_op (r := (rI CDiv fun i j => .int (i / j))) op_fdiv rs_fdiv (de_row 0 3 (de_var 0)) (de_var 1)) (de_var 0) (pg_sub (pv 0) pe_int set_list))
    (dss_one (ds_retV 2)))) dss_nil)
    (dss_cons (ds_rowPut 0 1 (de_op (r := (rAddA K)) op_addA rsem_add (de_row 0 1 (de_var 0)) de_int) (de_var 0) (pg_sub (pv 0) pe_int set_list))
    (dss_cons (ds_if (dt_cmp (r := (rI0 fun i j => .bl (decide (j < i)))) op_gt rs_gt (de_row 0 1 (de_var 0)) (de_callB (r := (DV.rLen K)) call_len_seq csem_len (by rfl) T.b_len PySem.boot_len (da_cons (de_row 0 0 (de_var 0)) da_nil)) (nomark _)) (dss_cons (ds_rowPut 0 2 (de_op (r := (rI (fun _ j => 0 < j) fun i j => .int (i % j))) op_mod rs_mod (de_callTy (r := (fun xs H Q => (∃ i, xs = [.int i] ∧ Q (.int i) H) ∨ ∃ k, xs = [.bl k] ∧ Q (.int (if k then 1 else 0)) H)) call_int1 csem_int (by rfl) T.b_int PyProof.Rows.boot_int (da_cons (de_op (r := (rAddA K)) op_addA rsem_add (de_op (r := (rMulA K)) op_mulA rsem_mul (de_row 0 2 (de_var 0)) de_int) de_int) da_nil)) de_int) (de_var 0) (pg_sub (pv 0) pe_int set_list))
    (dss_one (ds_ret (de_op (r := (rI (fun _ j => 0 < j) fun i j => .int (i % j))) op_mod rs_mod (de_callTy (r := (fun xs H Q => (∃ i, xs = [.int i] ∧ Q (.int i) H) ∨ ∃ k, xs = [.bl k] ∧ Q (.int (if k then 1 else 0)) H)) call_int1 csem_int (by rfl) T.b_int PyProof.Rows.boot_int (da_cons (de_op (r := (rI CDiv fun i j => .int (i / j))) op_fdiv rs_fdiv (de_row 0 2 (de_var 0)) de_int) da_nil)) (de_var 1))))) dss_nil)
    (dss_cons (ds_set (i := 3) sc.nd (by rfl) (by first | exact Or.inl rfl | exact Or.inr rfl) (de_ix (de_row 0 0 (de_var 0)) (de_op (r := (rI0 fun i j => .int (i - j))) op_sub rs_sub (de_row 0 1 (de_var 0)) de_int)))
    (dss_cons (ds_rowPut 0 2 (de_op (r := (rI (fun _ j => 0 < j) fun i j => .int (i % j))) op_mod rs_mod (de_callTy (r := (fun xs H Q => (∃ i, xs = [.int i] ∧ Q (.int i) H) ∨ ∃ k, xs = [.bl k] ∧ Q (.int (if k then 1 else 0)) H)) call_int1 csem_int (by rfl) T.b_int PyProof.Rows.boot_int (da_cons (de_op (r := (rAddA K)) op_addA rsem_add (de_op (r := (rAddA K)) op_addA rsem_add (de_op (r := (rMulA K)) op_mulA rsem_mul (de_row 0 2 (de_var 0)) de_int) (de_var 3)) de_int) da_nil)) de_int) (de_var 0) (pg_sub (pv 0) pe_int set_list))
    (dss_cons (ds_if (dt_cmp (r := (rI0 fun i j => .bl (decide (j ≤ i)))) op_ge rs_ge (de_var 3) (de_op (r := (rI CPow fun i j => .int (i ^ j.toNat))) op_pow rs_pow de_int de_int) (nomark _)) (dss_one (ds_rowPut 0 3 (de_op (r := (rI CDiv fun i j => .int (i / j))) op_fdiv rs_fdiv (de_var 3) (de_var 1)) (de_var 0) (pg_sub (pv 0) pe_int set_list))) dss_nil)
    (dss_one (ds_ret (de_op (r := (rI (fun _ j => 0 < j) fun i j => .int (i % j))) op_mod rs_mod (de_callTy (r := (fun xs H Q => (∃ i, xs = [.int i] ∧ Q (.int i) H) ∨ ∃ k, xs = [.bl k] ∧ Q (.int (if k then 1 else 0)) H)) call_int1 csem_int (by rfl) T.b_int PyProof.Rows.boot_int (da_cons (de_var 3) da_nil)) (de_var 1))))))))))⟩
abbrev nm__law_pick : List Str := ["_law_row", "_law_things"]
theorem sc__law_pick : FnScope nm__law_pick ["_law_row", "_law_things"] (defScope s__law_pick) := ⟨rfl, rfl, rfl, by decide +kernel, rfl, by decide +kernel, by decide +kernel⟩
abbrev g__law_pick : DV.Env → M Out := DVL.g__law_pick
abbrev m__law_pick : List RV → M RV := DVL.m__law_pick
theorem ok__law_pick {f : Addr} {fd : FuncData} (F : Fun K "_law_pick" "_law_pick" s__law_pick f fd) (T : Txt mg) (C__law_taken : Cal P w K mg base "_law_taken" 1 ["_law_row", "_law_many"] 2 m__law_taken) : FnOk P w K mg base CX0 2 f fd ["_law_row", "_law_things"] (spFn K 2 m__law_pick) := by
  have sc := sc__law_pick
  have e : spFn K 2 m__law_pick = spFn K (["_law_row", "_law_things"] : List Str).length (runDef nm__law_pick.length g__law_pick) := rfl
  rw [e]
  refine fn_ok (P := P) (w := w) (mg := mg) (base := base) (k := 1) (g := g__law_pick) F sc ?_
  intro R cdv A outer s H E hcd hr
  exact ⟨_, (dss_one (ds_ret (de_ix (de_var 1) (de_call C__law_taken hr (by decide) (by rfl) (da_cons (de_var 0) (da_cons (de_callB (r := (DV.rLen K)) call_len_seq csem_len (by rfl) T.b_len PySem.boot_len (da_cons (de_var 1) da_nil)) da_nil))))))⟩
abbrev nm__law_jobs : List Str := ["_law_row", "_law_most", "_law_time", "_law_many", "_law_top", "_law_wide", "_law_times", "_law_at", "_law_weights", "_law_last", "_law_dues"]
theorem sc__law_jobs : FnScope nm__law_jobs ["_law_row", "_law_most", "_law_time"] (defScope s__law_jobs) := ⟨rfl, rfl, rfl, by decide +kernel, rfl, by decide +kernel, by decide +kernel⟩
abbrev g__law_jobs : DV.Env → M Out := DVL.g__law_jobs
abbrev m__law_jobs : List RV → M RV := DVL.m__law_jobs
theorem ok__law_jobs {f : Addr} {fd : FuncData} (F : Fun K "_law_jobs" "_law_jobs" s__law_jobs f fd) (T : Txt mg) (C__law_taken : Cal P w K mg base "_law_taken" 1 ["_law_row", "_law_many"] 2 m__law_taken) (C__law_pick : Cal P w K mg base "_law_pick" 2 ["_law_row", "_law_things"] 2 m__law_pick) : FnOk P w K mg base CX0 3 f fd ["_law_row", "_law_most", "_law_time"] (spFn K 3 m__law_jobs) := by
  have sc := sc__law_jobs
  have e : spFn K 3 m__law_jobs = spFn K (["_law_row", "_law_most", "_law_time"] : List Str).length (runDef nm__law_jobs.length g__law_jobs) := rfl
  rw [e]
  refine fn_ok (P := P) (w := w) (mg := mg) (base := base) (k := 2) (g := g__law_jobs) F sc ?_
  intro R cdv A outer s H E hcd hr
  exact ⟨_, (dss_cons (ds_tup3L (i := 3) (j := 4) (l := 5) (by rfl) sc.nd (by rfl) (by rfl) (by rfl) (by first | exact Or.inl rfl | exact Or.inr rfl) (by first | exact Or.inl rfl | exact Or.inr rfl) (by first | exact Or.inl rfl | exact Or.inr rfl) (de_op (r := (rAddA K)) op_addA rsem_add de_int (de_call C__law_taken hr (by decide) (by rfl) (da_cons (de_var 0) (da_cons (de_var 1) da_nil)))) (de_call C__law_pick hr (by decide) (by rfl) (da_cons (de_var 0) (da_cons (de_lst (da_cons de_int (da_cons (de_var 2) da_nil))) da_nil))) (de_call C__law_pick hr (by decide) (by rfl) (da_cons (de_var 0) (da_cons (de_lst (da_cons de_int (da_cons de_int (da_cons de_int da_nil)))) da_nil))) (by rfl))
    (dss_cons (ds_set (i := 6) sc.nd (by rfl) (by first | exact Or.inl rfl | exact Or.inr rfl) (de_callTy (r := (DV.rTuple K)) call_tuple_of csem_tuple (by rfl) T.b_tuple PyProof.Rows.boot_tuple (da_cons (de_lc (own := [("_law_at", 7)]) (g := (gName 7)) (tt := tYes) (te := (tOp (rAddA K) (tC (.int 1)) (tCall (spFn K 2 m__law_taken) [] E0 (tCons (tVar 0) (tCons (tVar 4) tNil))))) (by rfl) sc.nd (di_range1 (by rfl) T.b_range (de_var 3)) (blkOk_by (N := nm__law_jobs) (sc := defScope s__law_jobs) (by decide +kernel)) (by decide) (fun _ _ _ _ _ => (dg_name (i := 7) sc.nd (by rfl) (by first | exact Or.inl rfl | exact Or.inr rfl))) (fun _ _ _ _ _ => dts_nil) (fun _ _ _ _ _ => (de_op (r := (rAddA K)) op_addA rsem_add de_int (de_call C__law_taken hr (by decide) (by rfl) (da_cons (de_var 0) (da_cons (de_var 4) da_nil)))))) da_nil)))
    (dss_cons (ds_set (i := 8) sc.nd (by rfl) (by first | exact Or.inl rfl | exact Or.inr rfl) (de_callTy (r := (DV.rTuple K)) call_tuple_of csem_tuple (by rfl) T.b_tuple PyProof.Rows.boot_tuple (da_cons (de_lc (own := [("_law_at", 7)]) (g := (gName 7)) (tt := tYes) (te := (tCall (spFn K 2 m__law_taken) [] E0 (tCons (tVar 0) (tCons (tOp (rAddA K) (tVar 5) (tC (.int 1))) tNil)))) (by rfl) sc.nd (di_range1 (by rfl) T.b_range (de_var 3)) (blkOk_by (N := nm__law_jobs) (sc := defScope s__law_jobs) (by decide +kernel)) (by decide) (fun _ _ _ _ _ => (dg_name (i := 7) sc.nd (by rfl) (by first | exact Or.inl rfl | exact Or.inr rfl))) (fun _ _ _ _ _ => dts_nil) (fun _ _ _ _ _ => (de_call C__law_taken hr (by decide) (by rfl) (da_cons (de_var 0) (da_cons (de_op (r := (rAddA K)) op_addA rsem_add (de_var 5) de_int) da_nil))))) da_nil)))
    (dss_cons (ds_set (i := 9) sc.nd (by rfl) (by first | exact Or.inl rfl | exact Or.inr rfl) (de_op (r := (rAddA K)) op_addA rsem_add (de_callB (r := (DV.rSumA K)) (cr_sumA (by rfl)) csem_sum (by rfl) T.b_sum PyProof.Rows.boot_sum (da_cons (de_var 6) da_nil)) de_int))
    (dss_cons (ds_set (i := 10) sc.nd (by rfl) (by first | exact Or.inl rfl | exact Or.inr rfl) (de_callTy (r := (DV.rTuple K)) call_tuple_of csem_tuple (by rfl) T.b_tuple PyProof.Rows.boot_tuple (da_cons (de_lc (own := [("_law_at", 7)]) (g := (gName 7)) (tt := tYes) (te := (tCall (spFn K 2 m__law_taken) [] E0 (tCons (tVar 0) (tCons (tVar 9) tNil)))) (by rfl) sc.nd (di_range1 (by rfl) T.b_range (de_var 3)) (blkOk_by (N := nm__law_jobs) (sc := defScope s__law_jobs) (by decide +kernel)) (by decide) (fun _ _ _ _ _ => (dg_name (i := 7) sc.nd (by rfl) (by first | exact Or.inl rfl | exact Or.inr rfl))) (fun _ _ _ _ _ => dts_nil) (fun _ _ _ _ _ => (de_call C__law_taken hr (by decide) (by rfl) (da_cons (de_var 0) (da_cons (de_var 9) da_nil))))) da_nil)))
    (dss_one (ds_ret (de_tup (da_cons (de_var 6) (da_cons (de_var 8) (da_cons (de_var 10) da_nil)))))))))))⟩
abbrev nm__law_late : List Str := ["_law_times", "_law_dues", "_law_order_here", "_law_days", "_law_at"]
theorem sc__law_late : FnScope nm__law_late ["_law_times", "_law_dues", "_law_order_here"] (defScope s__law_late) := ⟨rfl, rfl, rfl, by decide +kernel, rfl, by decide +kernel, by decide +kernel⟩
def g__law_late : DV.Env → M Out :=
  (sSeq (sSet 3 (eFn (fun xs => if xs.length = 2 then m__law_ends xs else fail) (aCons (eVar 0) (aCons (eVar 2) aNil))))
  (sRet (eCall (gBest PySem.W.maxD) (aCons (eLc (iRng1F (eCall gLen (aCons (eVar 0) aNil))) [4] (gNm 4) tTrue (e2 gSubI (e2 gIx (eVar 3) (eVar 4)) (e2 gIx (eVar 1) (eVar 4)))) aNil))))
def m__law_late : List RV → M RV := runDef 5 g__law_late
theorem ok__law_late {f : Addr} {fd : FuncData} (F : Fun K "_law_late" "_law_late" s__law_late f fd) (T : Txt mg) (C__law_ends : Cal P w K mg base "_law_ends" 1 ["_law_times", "_law_order_here"] 2 m__law_ends) : FnOk P w K mg base CX0 2 f fd ["_law_times", "_law_dues", "_law_order_here"] (spFn K 3 m__law_late) := by
  have sc := sc__law_late
  have e : spFn K 3 m__law_late = spFn K (["_law_times", "_law_dues", "_law_order_here"] : List Str).length (runDef nm__law_late.length g__law_late) := rfl
  rw [e]
  refine fn_ok (P := P) (w := w) (mg := mg) (base := base) (k := 1) (g := g__law_late) F sc ?_
  intro R cdv A outer s H E hcd hr
  exact ⟨_, (dss_cons (ds_set (i := 3) sc.nd (by rfl) (by first | exact Or.inl rfl | exact Or.inr rfl) (de_call C__law_ends hr (by decide) (by rfl) (da_cons (de_var 0) (da_cons (de_var 2) da_nil))))
    (dss_one (ds_ret (de_callB (r := (DV.rBest K PySem.W.maxD)) (cr_maxA (by rfl) (rm65 hr)) csem_best (by rfl) T.b_max PyProof.Rows.boot_max (da_cons (de_lc (own := [("_law_at", 4)]) (g := (gName 4)) (tt := tYes) (te := (tOp (rI0 fun i j => .int (i - j)) (tOp (rIx K) (tVar 3) (tVar 4)) (tOp (rIx K) (tVar 1) (tVar 4)))) (by rfl) sc.nd (di_range1 (by rfl) T.b_range (de_callB (r := (DV.rLen K)) call_len_seq csem_len (by rfl) T.b_len PySem.boot_len (da_cons (de_var 0) da_nil))) (blkOk_by (N := nm__law_late) (sc := defScope s__law_late) (by decide +kernel)) (by decide) (fun _ _ _ _ _ => (dg_name (i := 4) sc.nd (by rfl) (by first | exact Or.inl rfl | exact Or.inr rfl))) (fun _ _ _ _ _ => dts_nil) (fun _ _ _ _ _ => (de_op (r := (rI0 fun i j => .int (i - j))) op_sub rs_sub (de_ix (de_var 3) (de_var 4)) (de_ix (de_var 1) (de_var 4))))) da_nil)))))⟩
abbrev nm__law_order : List Str := ["_law_row", "_law_many", "_law_left", "_law_found", "_law_turn"]
theorem sc__law_order : FnScope nm__law_order ["_law_row", "_law_many"] (defScope s__law_order) := ⟨rfl, rfl, rfl, by decide +kernel, rfl, by decide +kernel, by decide +kernel⟩
abbrev g__law_order : DV.Env → M Out := DVL.g__law_order
abbrev m__law_order : List RV → M RV := DVL.m__law_order
theorem ok__law_order {f : Addr} {fd : FuncData} (F : Fun K "_law_order" "_law_order" s__law_order f fd) (T : Txt mg) (C__law_taken : Cal P w K mg base "_law_taken" 1 ["_law_row", "_law_many"] 2 m__law_taken) : FnOk P w K mg base CX0 2 f fd ["_law_row", "_law_many"] (spFn K 2 m__law_order) := by
  have sc := sc__law_order
  have e : spFn K 2 m__law_order = spFn K (["_law_row", "_law_many"] : List Str).length (runDef nm__law_order.length g__law_order) := rfl
  rw [e]
  refine fn_ok (P := P) (w := w) (mg := mg) (base := base) (k := 1) (g := g__law_order) F sc ?_
  intro R cdv A outer s H E hcd hr
  exact ⟨_, (dss_cons (ds_par (i := 2) (j := 3) (by rfl) sc.nd (by rfl) (by rfl) (by decide) (by rfl) (by rfl) (de_listRg (by rfl) (by rfl) T.b_list (drg_1 (by rfl) T.b_range (de_var 1))) (de_lst da_nil) (by rfl))
    (dss_cons (ds_for PassesOwn.never (by rfl) (di_range1 (by rfl) T.b_range (de_var 1)) (dg_name (i := 4) sc.nd (by rfl) (by first | exact Or.inl rfl | exact Or.inr rfl)) (dss_one (ds_popAppF (i := 3) (j := 2) (de_call C__law_taken hr (by decide) (by rfl) (da_cons (de_var 0) (da_cons (de_callB (r := (DV.rLen K)) call_len_seq csem_len (by rfl) T.b_len PySem.boot_len (da_cons (de_var 2) da_nil)) da_nil))) fun h => (pe_bm PySem.F.plainAttrs_list PySem.F.slot_list_append PySem.F.type_list_append mt_append (pv 3) (pa_cons (pe_bm PySem.F.plainAttrs_list PySem.F.slot_list_pop PySem.F.type_list_pop mt_popAt (pv 2) (pa_cons h pa_nil)) pa_nil)))))
    (dss_one (ds_ret (de_callTy (r := (DV.rTuple K)) call_tuple_of csem_tuple (by rfl) T.b_tuple PyProof.Rows.boot_tuple (da_cons (de_var 3) da_nil))))))⟩
abbrev nm__law_orders : List Str := ["_law_many", "_law_pairs_here", "_law_found", "_law_turn", "_law_longer", "_law_part", "_law_job", "_law_pair"]
theorem sc__law_orders : FnScope nm__law_orders ["_law_many", "_law_pairs_here"] (defScope s__law_orders) := ⟨rfl, rfl, rfl, by decide +kernel, rfl, by decide +kernel, by decide +kernel⟩
abbrev g__law_orders : DV.Env → M Out := DVL.g__law_orders
abbrev m__law_orders : List RV → M RV := DVL.m__law_orders
theorem ok__law_orders {f : Addr} {fd : FuncData} (F : Fun K "_law_orders" "_law_orders" s__law_orders f fd) (T : Txt mg)  : FnOk P w K mg base CX0 1 f fd ["_law_many", "_law_pairs_here"] (spFn K 2 m__law_orders) := by
  have sc := sc__law_orders
  have e : spFn K 2 m__law_orders = spFn K (["_law_many", "_law_pairs_here"] : List Str).length (runDef nm__law_orders.length g__law_orders) := rfl
  rw [e]
  refine fn_ok (P := P) (w := w) (mg := mg) (base := base) (k := 0) (g := g__law_orders) F sc ?_
  intro R cdv A outer s H E hcd hr
  exact ⟨_, (dss_cons (ds_set (i := 2) sc.nd (by rfl) (by first | exact Or.inl rfl | exact Or.inr rfl) (de_lst (da_cons (de_tup da_nil) da_nil)))
    (dss_cons (ds_for PassesOwn.never (by rfl) (di_range1 (by rfl) T.b_range (de_var 0)) (dg_name (i := 3) sc.nd (by rfl) (by first | exact Or.inl rfl | exact Or.inr rfl)) (dss_cons (ds_set (i := 4) sc.nd (by rfl) (by first | exact Or.inl rfl | exact Or.inr rfl) (de_lst da_nil))
    (dss_cons (ds_for PassesOwn.never (by rfl) (di_seq (src_v 2)) (dg_name (i := 5) sc.nd (by rfl) (by first | exact Or.inl rfl | exact Or.inr rfl)) (dss_one (ds_for PassesOwn.never (by rfl) (di_range1 (by rfl) T.b_range (de_var 0)) (dg_name (i := 6) sc.nd (by rfl) (by first | exact Or.inl rfl | exact Or.inr rfl)) (dss_one (ds_if (DW.dt (dw_and (dt_cmp (r := (rInA K true)) (op_notInA (rm65 hr)) (rsem_in true) (de_var 6) (de_var 5) (by with_unfolding_all rfl)) (dw_and1 (dt_cmp (r := (rEqD K)) (op_eqD (rm64 hr)) rsem_eq (de_lc (own := [("_law_pair", 7)]) (g := (gName 7)) (tt := (tAnd (tTest (tOp (rEqD K) (tOp (rIx K) (tVar 7) (tC (.int 1))) (tVar 6))) (tTest (tOp (rInA K true) (tOp (rIx K) (tVar 7) (tC (.int 0))) (tVar 5))))) (te := (tVar 7)) (by rfl) sc.nd (di_seq (src_v 1)) (blkOk_by (N := nm__law_orders) (sc := defScope s__law_orders) (by decide +kernel)) (by decide) (fun _ _ _ _ _ => (dg_name (i := 7) sc.nd (by rfl) (by first | exact Or.inl rfl | exact Or.inr rfl))) (fun _ _ _ _ _ => (dts_one (DW.dt (dw_and (dt_cmp (r := (rEqD K)) (op_eqD (rm64 hr)) rsem_eq (de_ix (de_var 7) de_int) (de_var 6) (nomark _)) (dw_and1 (dt_cmp (r := (rInA K true)) (op_notInA (rm65 hr)) (rsem_in true) (de_ix (de_var 7) de_int) (de_var 5) (by with_unfolding_all rfl))))))) (fun _ _ _ _ _ => (de_var 7))) (de_lst da_nil) (nomark _))))) (dss_one (ds_appendF (i := 4) (de_op (r := (rAddA K)) op_addA rsem_add (de_var 5) (de_tup (da_cons (de_var 6) da_nil))) fun h => (pe_bm PySem.F.plainAttrs_list PySem.F.slot_list_append PySem.F.type_list_append mt_append (pv 4) (pa_cons h pa_nil)))) dss_nil)))))
    (dss_one (ds_move (i := 2) (j := 4) sc.nd (by rfl) (by first | exact Or.inl rfl | exact Or.inr rfl) (by rfl))))))
    (dss_one (ds_retV 2))))⟩
abbrev nm__law_pairs : List Str := ["_law_row", "_law_many", "_law_order_here", "_law_found", "_law_dense", "_law_one", "_law_other"]
theorem sc__law_pairs : FnScope nm__law_pairs ["_law_row", "_law_many"] (defScope s__law_pairs) := ⟨rfl, rfl, rfl, by decide +kernel, rfl, by decide +kernel, by decide +kernel⟩
def g__law_pairs : DV.Env → M Out :=
  (sSeq (sPar 2 3 (aCons (eFn (fun xs => if xs.length = 2 then m__law_order xs else fail) (aCons (eVar 0) (aCons (eVar 1) aNil))) (aCons (eLst aNil) aNil)))
  (sSeq (sSet 4 (eFn (fun xs => if xs.length = 2 then m__law_pick xs else fail) (aCons (eVar 0) (aCons (eLst (aCons (eC (.int 2)) (aCons (eC (.int 3)) (aCons (eC (.int 6)) aNil)))) aNil))))
  (sSeq (sFor (iRng1F (eVar 1)) (gNm 5) (sFor (iRng2F (e2 gAddA (eVar 5) (eC (.int 1))) (eVar 1)) (gNm 6) (sIf (eT (e2 gEq (eFn (fun xs => if xs.length = 2 then m__law_taken xs else fail) (aCons (eVar 0) (aCons (eVar 4) aNil))) (eC (.int 0)))) (sApp 3 (eTup (aCons (e2 gIx (eVar 2) (eVar 5)) (aCons (e2 gIx (eVar 2) (eVar 6)) aNil)))) sNil)))
  (sRet (eCall gTuple (aCons (eVar 3) aNil))))))
def m__law_pairs : List RV → M RV := runDef 7 g__law_pairs
theorem ok__law_pairs {f : Addr} {fd : FuncData} (F : Fun K "_law_pairs" "_law_pairs" s__law_pairs f fd) (T : Txt mg) (C__law_order : Cal P w K mg base "_law_order" 2 ["_law_row", "_law_many"] 2 m__law_order) (C__law_pick : Cal P w K mg base "_law_pick" 2 ["_law_row", "_law_things"] 2 m__law_pick) (C__law_taken : Cal P w K mg base "_law_taken" 1 ["_law_row", "_law_many"] 2 m__law_taken) : FnOk P w K mg base CX0 3 f fd ["_law_row", "_law_many"] (spFn K 2 m__law_pairs) := by
  have sc := sc__law_pairs
  have e : spFn K 2 m__law_pairs = spFn K (["_law_row", "_law_many"] : List Str).length (runDef nm__law_pairs.length g__law_pairs) := rfl
  rw [e]
  refine fn_ok (P := P) (w := w) (mg := mg) (base := base) (k := 2) (g := g__law_pairs) F sc ?_
  intro R cdv A outer s H E hcd hr
  exact ⟨_, (dss_cons (ds_par (i := 2) (j := 3) (by rfl) sc.nd (by rfl) (by rfl) (by decide) (by rfl) (by rfl) (de_call C__law_order hr (by decide) (by rfl) (da_cons (de_var 0) (da_cons (de_var 1) da_nil))) (de_lst da_nil) (by rfl))
    (dss_cons (ds_set (i := 4) sc.nd (by rfl) (by first | exact Or.inl rfl | exact Or.inr rfl) (de_call C__law_pick hr (by decide) (by rfl) (da_cons (de_var 0) (da_cons (de_lst (da_cons de_int (da_cons de_int (da_cons de_int da_nil)))) da_nil))))
    (dss_cons (ds_for PassesOwn.never (by rfl) (di_range1 (by rfl) T.b_range (de_var 1)) (dg_name (i := 5) sc.nd (by rfl) (by first | exact Or.inl rfl | exact Or.inr rfl)) (dss_one (ds_for PassesOwn.never (by rfl) (di_range2 (by rfl) T.b_range (de_op (r := (rAddA K)) op_addA rsem_add (de_var 5) de_int) (de_var 1)) (dg_name (i := 6) sc.nd (by rfl) (by first | exact Or.inl rfl | exact Or.inr rfl)) (dss_one (ds_if (dt_cmp (r := (rEqD K)) (op_eqD (rm64 hr)) rsem_eq (de_call C__law_taken hr (by decide) (by rfl) (da_cons (de_var 0) (da_cons (de_var 4) da_nil))) de_int (nomark _)) (dss_one (ds_appendF (i := 3) (de_tup (da_cons (de_ix (de_var 2) (de_var 5)) (da_cons (de_ix (de_var 2) (de_var 6)) da_nil))) fun h => (pe_bm PySem.F.plainAttrs_list PySem.F.slot_list_append PySem.F.type_list_append mt_append (pv 3) (pa_cons h pa_nil)))) dss_nil)))))
    (dss_one (ds_ret (de_callTy (r := (DV.rTuple K)) call_tuple_of csem_tuple (by rfl) T.b_tuple PyProof.Rows.boot_tuple (da_cons (de_var 3) da_nil)))))))⟩
abbrev nm_is_integer : List Str := ["value"]
theorem sc_is_integer : FnScope nm_is_integer ["value"] (defScope s_is_integer) := ⟨rfl, rfl, rfl, by decide +kernel, rfl, by decide +kernel, by decide +kernel⟩
abbrev g_is_integer : DV.Env → M Out := DVL.g_is_integer
abbrev m_is_integer : List RV → M RV := DVL.m_is_integer
theorem ok_is_integer {f : Addr} {fd : FuncData} (F : Fun K "is_integer" "is_integer" s_is_integer f fd) (T : Txt mg)  : FnOk P w K mg base CX0 1 f fd ["value"] (spFn K 1 m_is_integer) := by
  have sc := sc_is_integer
  have e : spFn K 1 m_is_integer = spFn K (["value"] : List Str).length (runDef nm_is_integer.length g_is_integer) := rfl
  rw [e]
  refine fn_ok (P := P) (w := w) (mg := mg) (base := base) (k := 0) (g := g_is_integer) F sc ?_
  intro R cdv A outer s H E hcd hr
  exact ⟨_, (dss_one (ds_ret (de_and (de_isT .int (by rfl) T.b_isinstance (by rfl) T.b_int (by decide +kernel) (de_var 0)) (de_one (de_not (de_isT .bool (by rfl) T.b_isinstance (by rfl) T.b_bool (by decide +kernel) (de_var 0)))))))⟩
abbrev nm_is_in : List Str := ["value", "least", "most"]
theorem sc_is_in : FnScope nm_is_in ["value", "least", "most"] (defScope s_is_in) := ⟨rfl, rfl, rfl, by decide +kernel, rfl, by decide +kernel, by decide +kernel⟩
abbrev g_is_in : DV.Env → M Out := DVL.g_is_in
abbrev m_is_in : List RV → M RV := DVL.m_is_in
theorem ok_is_in {f : Addr} {fd : FuncData} (F : Fun K "is_in" "is_in" s_is_in f fd) (T : Txt mg) (C_is_integer : Cal P w K mg base "is_integer" 1 ["value"] 1 m_is_integer) : FnOk P w K mg base CX0 2 f fd ["value", "least", "most"] (spFn K 3 m_is_in) := by
  have sc := sc_is_in
  have e : spFn K 3 m_is_in = spFn K (["value", "least", "most"] : List Str).length (runDef nm_is_in.length g_is_in) := rfl
  rw [e]
  refine fn_ok (P := P) (w := w) (mg := mg) (base := base) (k := 1) (g := g_is_in) F sc ?_
  intro R cdv A outer s H E hcd hr
  exact ⟨_, (dss_one (ds_ret (de_and (de_call C_is_integer hr (by decide) (by rfl) (da_cons (de_var 0) da_nil)) (de_one (de_chain (r := (rI0 fun i j => .bl (decide (i ≤ j)))) (r' := (rI0 fun i j => .bl (decide (i ≤ j)))) op_le op_le rs_le rs_le (de_var 1) (de_var 0) (de_var 2))))))⟩
abbrev nm_is_list : List Str := ["value", "least", "most"]
theorem sc_is_list : FnScope nm_is_list ["value", "least", "most"] (defScope s_is_list) := ⟨rfl, rfl, rfl, by decide +kernel, rfl, by decide +kernel, by decide +kernel⟩
abbrev g_is_list : DV.Env → M Out := DVL.g_is_list
abbrev m_is_list : List RV → M RV := DVL.m_is_list
theorem ok_is_list {f : Addr} {fd : FuncData} (F : Fun K "is_list" "is_list" s_is_list f fd) (T : Txt mg)  : FnOk P w K mg base CX0 1 f fd ["value", "least", "most"] (spFn K 3 m_is_list) := by
  have sc := sc_is_list
  have e : spFn K 3 m_is_list = spFn K (["value", "least", "most"] : List Str).length (runDef nm_is_list.length g_is_list) := rfl
  rw [e]
  refine fn_ok (P := P) (w := w) (mg := mg) (base := base) (k := 0) (g := g_is_list) F sc ?_
  intro R cdv A outer s H E hcd hr
  exact ⟨_, (dss_one (ds_ret (de_and (de_isT .tuple (by rfl) T.b_isinstance (by rfl) T.b_tuple (by decide +kernel) (de_var 0)) (de_one (de_chain (r := (rI0 fun i j => .bl (decide (i ≤ j)))) (r' := (rI0 fun i j => .bl (decide (i ≤ j)))) op_le op_le rs_le rs_le (de_var 1) (de_callB (r := (DV.rLen K)) call_len_seq csem_len (by rfl) T.b_len PySem.boot_len (da_cons (de_var 0) da_nil)) (de_var 2))))))⟩
abbrev nm_first_bad : List Str := ["value", "many", "low", "high", "index", "item"]
theorem sc_first_bad : FnScope nm_first_bad ["value", "many", "low", "high"] (defScope s_first_bad) := ⟨rfl, rfl, rfl, by decide +kernel, rfl, by decide +kernel, by decide +kernel⟩
abbrev g_first_bad : DV.Env → M Out := DVL.g_first_bad
abbrev m_first_bad : List RV → M RV := DVL.m_first_bad
theorem ok_first_bad {f : Addr} {fd : FuncData} (F : Fun K "first_bad" "first_bad" s_first_bad f fd) (T : Txt mg) (C_is_list : Cal P w K mg base "is_list" 1 ["value", "least", "most"] 3 m_is_list) (C_is_in : Cal P w K mg base "is_in" 2 ["value", "least", "most"] 3 m_is_in) : FnOk P w K mg base CX0 3 f fd ["value", "many", "low", "high"] (spFn K 4 m_first_bad) := by
  have sc := sc_first_bad
  have e : spFn K 4 m_first_bad = spFn K (["value", "many", "low", "high"] : List Str).length (runDef nm_first_bad.length g_first_bad) := rfl
  rw [e]
  refine fn_ok (P := P) (w := w) (mg := mg) (base := base) (k := 2) (g := g_first_bad) F sc ?_
  intro R cdv A outer s H E hcd hr
  exact ⟨_, (dss_cons (ds_if (dt_not (dt_val (de_call C_is_list hr (by decide) (by rfl) (da_cons (de_var 0) (da_cons (de_var 1) (da_cons (de_var 1) da_nil)))))) (dss_one (ds_ret de_non)) dss_nil)
    (dss_cons (ds_for PassesOwn.never (by rfl) (di_enum (by rfl) T.b_enumerate (src_v 0)) (dg_tup (by rfl) (dgs_cons (dg_name (i := 4) sc.nd (by rfl) (by first | exact Or.inl rfl | exact Or.inr rfl)) (dgs_cons (dg_name (i := 5) sc.nd (by rfl) (by first | exact Or.inl rfl | exact Or.inr rfl)) dgs_nil))) (dss_one (ds_if (dt_not (dt_val (de_call C_is_in hr (by decide) (by rfl) (da_cons (de_var 5) (da_cons (de_var 2) (da_cons (de_var 3) da_nil)))))) (dss_one (ds_retV 4)) dss_nil)))
    (dss_one (ds_ret (de_neg de_int)))))⟩
abbrev nm_need_dues : List Str := ["dues", "many", "index"]
theorem sc_need_dues : FnScope nm_need_dues ["dues", "many"] (defScope s_need_dues) := ⟨rfl, rfl, rfl, by decide +kernel, rfl, by decide +kernel, by decide +kernel⟩
abbrev g_need_dues : DV.Env → M Out := DVL.g_need_dues
abbrev m_need_dues : List RV → M RV := DVL.m_need_dues
theorem ok_need_dues {f : Addr} {fd : FuncData} (F : Fun K "need_dues" "need_dues" s_need_dues f fd) (T : Txt mg) (C_first_bad : Cal P w K mg base "first_bad" 3 ["value", "many", "low", "high"] 4 m_first_bad) : FnOk P w K mg base CX0 4 f fd ["dues", "many"] (spFn K 2 m_need_dues) := by
  have sc := sc_need_dues
  have e : spFn K 2 m_need_dues = spFn K (["dues", "many"] : List Str).length (runDef nm_need_dues.length g_need_dues) := rfl
  rw [e]
  refine fn_ok (P := P) (w := w) (mg := mg) (base := base) (k := 3) (g := g_need_dues) F sc ?_
  intro R cdv A outer s H E hcd hr
  exact ⟨_, (dss_cons (ds_set (i := 2) sc.nd (by rfl) (by first | exact Or.inl rfl | exact Or.inr rfl) (de_call C_first_bad hr (by decide) (by rfl) (da_cons (de_var 0) (da_cons (de_var 1) (da_cons de_int (da_cons (de_gI (by rfl) T.c_MOST_DAY) da_nil))))))
    (dss_one (ds_if (dt_cmp (r := (rNeD K)) (op_neD (rm64 hr)) rsem_ne (de_var 2) (de_neg de_int) (nomark _)) dss_never dss_nil)))⟩
abbrev nm_able_jobs : List Str := ["pairs", "done", "many", "left", "job", "pair"]
theorem sc_able_jobs : FnScope nm_able_jobs ["pairs", "done", "many"] (defScope s_able_jobs) := ⟨rfl, rfl, rfl, by decide +kernel, rfl, by decide +kernel, by decide +kernel⟩
abbrev g_able_jobs : DV.Env → M Out := DVL.g_able_jobs
abbrev m_able_jobs : List RV → M RV := DVL.m_able_jobs
theorem ok_able_jobs {f : Addr} {fd : FuncData} (F : Fun K "able_jobs" "able_jobs" s_able_jobs f fd) (T : Txt mg)  : FnOk P w K mg base CX0 1 f fd ["pairs", "done", "many"] (spFn K 3 m_able_jobs) := by
  have sc := sc_able_jobs
  have e : spFn K 3 m_able_jobs = spFn K (["pairs", "done", "many"] : List Str).length (runDef nm_able_jobs.length g_able_jobs) := rfl
  rw [e]
  refine fn_ok (P := P) (w := w) (mg := mg) (base := base) (k := 0) (g := g_able_jobs) F sc ?_
  intro R cdv A outer s H E hcd hr
  exact ⟨_, (dss_cons (ds_set (i := 3) sc.nd (by rfl) (by first | exact Or.inl rfl | exact Or.inr rfl) (de_lc (own := [("job", 4)]) (g := (gName 4)) (tt := (tTest (tOp (rInA K true) (tVar 4) (tVar 1)))) (te := (tVar 4)) (by rfl) sc.nd (di_range1 (by rfl) T.b_range (de_var 2)) (blkOk_by (N := nm_able_jobs) (sc := defScope s_able_jobs) (by decide +kernel)) (by decide) (fun _ _ _ _ _ => (dg_name (i := 4) sc.nd (by rfl) (by first | exact Or.inl rfl | exact Or.inr rfl))) (fun _ _ _ _ _ => (dts_one (dt_cmp (r := (rInA K true)) (op_notInA (rm65 hr)) (rsem_in true) (de_var 4) (de_var 1) (by with_unfolding_all rfl)))) (fun _ _ _ _ _ => (de_var 4))))
    (dss_one (ds_ret (de_lc (own := [("job", 4)]) (g := (gName 4)) (tt := (tNot (tB (tCB (rAny K) (tCons (tLc (iSeqK K (tVar 0)) (gName 5) tYes (tAndV (tOp (rEqD K) (tOp (rIx K) (tVar 5) (tC (.int 1))) (tVar 4)) (tOp (rInA K false) (tOp (rIx K) (tVar 5) (tC (.int 0))) (tVar 3))) [5]) tNil))))) (te := (tVar 4)) (by rfl) sc.nd (di_seq (src_v 3)) (blkOk_by (N := nm_able_jobs) (sc := defScope s_able_jobs) (by decide +kernel)) (by decide) (fun _ _ _ _ _ => (dg_name (i := 4) sc.nd (by rfl) (by first | exact Or.inl rfl | exact Or.inr rfl))) (fun _ _ _ _ _ => (dts_one (dt_not (dt_val (de_callB (r := (rAny K)) (cr_any (by rfl)) (csem_bools _) (by rfl) T.b_any PyProof.Rows.boot_any (da_cons (de_lc (own := [("pair", 5)]) (g := (gName 5)) (tt := tYes) (te := (tAndV (tOp (rEqD K) (tOp (rIx K) (tVar 5) (tC (.int 1))) (tVar 4)) (tOp (rInA K false) (tOp (rIx K) (tVar 5) (tC (.int 0))) (tVar 3)))) (by rfl) sc.nd (di_seq (src_v 0)) (blkOk_by (N := nm_able_jobs) (by rfl)) (by decide) (fun _ _ _ _ _ => (dg_name (i := 5) sc.nd (by rfl) (by first | exact Or.inl rfl | exact Or.inr rfl))) (fun _ _ _ _ _ => dts_nil) (fun _ _ _ _ _ => (de_and (de_cmp (r := (rEqD K)) (op_eqD (rm64 hr)) rsem_eq (de_ix (de_var 5) de_int) (de_var 4) (nomark _)) (de_one (de_cmp (r := (rInA K false)) (op_inA (rm65 hr)) (rsem_in false) (de_ix (de_var 5) de_int) (de_var 3) (by with_unfolding_all rfl)))))) da_nil)))))) (fun _ _ _ _ _ => (de_var 4))))))⟩
abbrev nm_first_order : List Str := ["pairs", "many", "found", "able"]
theorem sc_first_order : FnScope nm_first_order ["pairs", "many"] (defScope s_first_order) := ⟨rfl, rfl, rfl, by decide +kernel, rfl, by decide +kernel, by decide +kernel⟩
def g_first_order : DV.Env → M Out :=
  (sSeq (sSet 2 (eLst aNil))
  (sSeq (wloopF (eT (e2 gLt (eCall gLen (aCons (eVar 2) aNil)) (eVar 1))) (sSeq (sSet 3 (eFn (fun xs => if xs.length = 3 then m_able_jobs xs else fail) (aCons (eVar 0) (aCons (eVar 2) (aCons (eVar 1) aNil)))))
  (sSeq (sIf (eT (e2 gEq (eVar 3) (eLst aNil))) (sRet (eC .none)) sNil)
  (sApp 2 (e2 gIx (eVar 3) (eC (.int 0)))))) 100000)
  (sRet (eCall gTuple (aCons (eVar 2) aNil)))))
def m_first_order : List RV → M RV := runDef 4 g_first_order
theorem ok_first_order {f : Addr} {fd : FuncData} (F : Fun K "first_order" "first_order" s_first_order f fd) (T : Txt mg) (C_able_jobs : Cal P w K mg base "able_jobs" 1 ["pairs", "done", "many"] 3 m_able_jobs) : FnOk P w K mg base CX0 2 f fd ["pairs", "many"] (spFn K 2 m_first_order) := by
  have sc := sc_first_order
  have e : spFn K 2 m_first_order = spFn K (["pairs", "many"] : List Str).length (runDef nm_first_order.length g_first_order) := rfl
  rw [e]
  refine fn_ok (P := P) (w := w) (mg := mg) (base := base) (k := 1) (g := g_first_order) F sc ?_
  intro R cdv A outer s H E hcd hr
  exact ⟨_, (dss_cons (ds_set (i := 2) sc.nd (by rfl) (by first | exact Or.inl rfl | exact Or.inr rfl) (de_lst da_nil))
    (dss_cons (ds_while 100000 PassesOwn.never (dt_cmp (r := (rI0 fun i j => .bl (decide (i < j)))) op_lt rs_lt (de_callB (r := (DV.rLen K)) call_len_seq csem_len (by rfl) T.b_len PySem.boot_len (da_cons (de_var 2) da_nil)) (de_var 1) (nomark _)) (dss_cons (ds_set (i := 3) sc.nd (by rfl) (by first | exact Or.inl rfl | exact Or.inr rfl) (de_call C_able_jobs hr (by decide) (by rfl) (da_cons (de_var 0) (da_cons (de_var 2) (da_cons (de_var 1) da_nil)))))
    (dss_cons (ds_if (dt_cmp (r := (rEqD K)) (op_eqD (rm64 hr)) rsem_eq (de_var 3) (de_lst da_nil) (nomark _)) (dss_one (ds_ret de_non)) dss_nil)
    (dss_one (ds_appendF (i := 2) (de_ix (de_var 3) de_int) fun h => (pe_bm PySem.F.plainAttrs_list PySem.F.slot_list_append PySem.F.type_list_append mt_append (pv 2) (pa_cons h pa_nil)))))))
    (dss_one (ds_ret (de_callTy (r := (DV.rTuple K)) call_tuple_of csem_tuple (by rfl) T.b_tuple PyProof.Rows.boot_tuple (da_cons (de_var 2) da_nil))))))⟩
abbrev nm_need_pairs : List Str := ["pairs", "many", "index", "pair", "job"]
theorem sc_need_pairs : FnScope nm_need_pairs ["pairs", "many"] (defScope s_need_pairs) := ⟨rfl, rfl, rfl, by decide +kernel, rfl, by decide +kernel, by decide +kernel⟩
def g_need_pairs : DV.Env → M Out :=
  (sSeq (sIf (tNotF (eT (eFn (fun xs => if xs.length = 3 then m_is_list xs else fail) (aCons (eVar 0) (aCons (eC (.int 0)) (aCons (eC (.int 40)) aNil)))))) sNever sNil)
  (sSeq (sFor (iEnumF (srcV 0)) (gTupF 2 (gMore (gNm 2) (gMore (gNm 3) gNone))) (sIf (tIfT (tNotF (eT (eFn (fun xs => if xs.length = 3 then m_is_list xs else fail) (aCons (eVar 3) (aCons (eC (.int 2)) (aCons (eC (.int 2)) aNil)))))) (tRetB true) (tIfT (tNotF (eT (eCall gAll (aCons (eLc (srcV 3) [4] (gNm 4) tTrue (eFn (fun xs => if xs.length = 3 then m_is_in xs else fail) (aCons (eVar 4) (aCons (eC (.int 0)) (aCons (e2 gSubI (eVar 1) (eC (.int 1))) aNil))))) aNil)))) (tRetB true) (eT (e2 gEq (e2 gIx (eVar 3) (eC (.int 0))) (e2 gIx (eVar 3) (eC (.int 1))))))) sNever sNil))
  (sIf (eT (e2 gIs (eFn (fun xs => if xs.length = 2 then m_first_order xs else fail) (aCons (eVar 0) (aCons (eVar 1) aNil))) (eC .none))) sNever sNil)))
def m_need_pairs : List RV → M RV := runDef 5 g_need_pairs
theorem ok_need_pairs {f : Addr} {fd : FuncData} (F : Fun K "need_pairs" "need_pairs" s_need_pairs f fd) (T : Txt mg) (C_is_list : Cal P w K mg base "is_list" 1 ["value", "least", "most"] 3 m_is_list) (C_is_in : Cal P w K mg base "is_in" 2 ["value", "least", "most"] 3 m_is_in) (C_first_order : Cal P w K mg base "first_order" 2 ["pairs", "many"] 2 m_first_order) : FnOk P w K mg base CX0 3 f fd ["pairs", "many"] (spFn K 2 m_need_pairs) := by
  have sc := sc_need_pairs
  have e : spFn K 2 m_need_pairs = spFn K (["pairs", "many"] : List Str).length (runDef nm_need_pairs.length g_need_pairs) := rfl
  rw [e]
  refine fn_ok (P := P) (w := w) (mg := mg) (base := base) (k := 2) (g := g_need_pairs) F sc ?_
  intro R cdv A outer s H E hcd hr
  exact ⟨_, (dss_cons (ds_if (dt_not (dt_val (de_call C_is_list hr (by decide) (by rfl) (da_cons (de_var 0) (da_cons de_int (da_cons (de_gI (by rfl) T.c_MOST_PAIRS) da_nil)))))) dss_never dss_nil)
    (dss_cons (ds_for PassesOwn.never (by rfl) (di_enum (by rfl) T.b_enumerate (src_v 0)) (dg_tup (by rfl) (dgs_cons (dg_name (i := 2) sc.nd (by rfl) (by first | exact Or.inl rfl | exact Or.inr rfl)) (dgs_cons (dg_name (i := 3) sc.nd (by rfl) (by first | exact Or.inl rfl | exact Or.inr rfl)) dgs_nil))) (dss_one (ds_if (DW.dt (dw_or (dt_not (dt_val (de_call C_is_list hr (by decide) (by rfl) (da_cons (de_var 3) (da_cons de_int (da_cons de_int da_nil)))))) (dw_or (dt_not (dt_val (de_callB (r := (rAll K)) (cr_all (by rfl)) (csem_bools _) (by rfl) T.b_all PyProof.Rows.boot_all (da_cons (de_lc (own := [("job", 4)]) (g := (gName 4)) (tt := tYes) (te := (tCall (spFn K 3 m_is_in) [] E0 (tCons (tVar 4) (tCons (tC (.int 0)) (tCons (tOp (rI0 fun i j => .int (i - j)) (tVar 1) (tC (.int 1))) tNil))))) (by rfl) sc.nd (di_seq (src_v 3)) (blkOk_by (N := nm_need_pairs) (sc := defScope s_need_pairs) (by decide +kernel)) (by decide) (fun _ _ _ _ _ => (dg_name (i := 4) sc.nd (by rfl) (by first | exact Or.inl rfl | exact Or.inr rfl))) (fun _ _ _ _ _ => dts_nil) (fun _ _ _ _ _ => (de_call C_is_in hr (by decide) (by rfl) (da_cons (de_var 4) (da_cons de_int (da_cons (de_op (r := (rI0 fun i j => .int (i - j))) op_sub rs_sub (de_var 1) de_int) da_nil)))))) da_nil)))) (dw_or1 (dt_cmp (r := (rEqD K)) (op_eqD (rm64 hr)) rsem_eq (de_ix (de_var 3) de_int) (de_ix (de_var 3) de_int) (nomark _)))))) dss_never dss_nil)))
    (dss_one (ds_if (dt_cmp (r := (fun x y H Q => y = .non ∧ Q (.bl (decide (x = .non))) H)) op_isN rsem_isN (de_call C_first_order hr (by decide) (by rfl) (da_cons (de_var 0) (da_cons (de_var 1) da_nil))) de_non (nomark _)) dss_never dss_nil))))⟩
abbrev nm_need_times : List Str := ["times", "index"]
theorem sc_need_times : FnScope nm_need_times ["times"] (defScope s_need_times) := ⟨rfl, rfl, rfl, by decide +kernel, rfl, by decide +kernel, by decide +kernel⟩
abbrev g_need_times : DV.Env → M Out := DVL.g_need_times
abbrev m_need_times : List RV → M RV := DVL.m_need_times
theorem ok_need_times {f : Addr} {fd : FuncData} (F : Fun K "need_times" "need_times" s_need_times f fd) (T : Txt mg) (C_is_list : Cal P w K mg base "is_list" 1 ["value", "least", "most"] 3 m_is_list) (C_first_bad : Cal P w K mg base "first_bad" 3 ["value", "many", "low", "high"] 4 m_first_bad) : FnOk P w K mg base CX0 4 f fd ["times"] (spFn K 1 m_need_times) := by
  have sc := sc_need_times
  have e : spFn K 1 m_need_times = spFn K (["times"] : List Str).length (runDef nm_need_times.length g_need_times) := rfl
  rw [e]
  refine fn_ok (P := P) (w := w) (mg := mg) (base := base) (k := 3) (g := g_need_times) F sc ?_
  intro R cdv A outer s H E hcd hr
  exact ⟨_, (dss_cons (ds_if (dt_not (dt_val (de_call C_is_list hr (by decide) (by rfl) (da_cons (de_var 0) (da_cons de_int (da_cons (de_gI (by rfl) T.c_MOST_JOBS) da_nil)))))) dss_never dss_nil)
    (dss_cons (ds_set (i := 1) sc.nd (by rfl) (by first | exact Or.inl rfl | exact Or.inr rfl) (de_call C_first_bad hr (by decide) (by rfl) (da_cons (de_var 0) (da_cons (de_callB (r := (DV.rLen K)) call_len_seq csem_len (by rfl) T.b_len PySem.boot_len (da_cons (de_var 0) da_nil)) (da_cons de_int (da_cons (de_gI (by rfl) T.c_MOST_TIME) da_nil))))))
    (dss_one (ds_if (dt_cmp (r := (rNeD K)) (op_neD (rm64 hr)) rsem_ne (de_var 1) (de_neg de_int) (nomark _)) dss_never dss_nil))))⟩
abbrev nm_due_days : List Str := ["times", "dues", "pairs", "found", "turn", "one", "other"]
theorem sc_due_days : FnScope nm_due_days ["times", "dues", "pairs"] (defScope s_due_days) := ⟨rfl, rfl, rfl, by decide +kernel, rfl, by decide +kernel, by decide +kernel⟩
def g_due_days : DV.Env → M Out :=
  (sSeq (sDrop (eFn (fun xs => if xs.length = 1 then m_need_times xs else fail) (aCons (eVar 0) aNil)))
  (sSeq (sDrop (eFn (fun xs => if xs.length = 2 then m_need_dues xs else fail) (aCons (eVar 1) (aCons (eCall gLen (aCons (eVar 0) aNil)) aNil))))
  (sSeq (sDrop (eFn (fun xs => if xs.length = 2 then m_need_pairs xs else fail) (aCons (eVar 2) (aCons (eCall gLen (aCons (eVar 0) aNil)) aNil))))
  (sSeq (sSet 3 (eCall gList (aCons (eVar 1) aNil)))
  (sSeq (sFor (iRng1F (eCall gLen (aCons (eVar 0) aNil))) (gNm 4) (sFor (srcV 2) (gTupF 2 (gMore (gNm 5) (gMore (gNm 6) gNone))) (sPut 3 (eCall gMin2 (aCons (e2 gIx (eVar 3) (eVar 5)) (aCons (e2 gSubI (e2 gIx (eVar 3) (eVar 6)) (e2 gIx (eVar 0) (eVar 6))) aNil))) (eVar 5))))
  (sRet (eCall gTuple (aCons (eVar 3) aNil))))))))
def m_due_days : List RV → M RV := runDef 7 g_due_days
theorem ok_due_days {f : Addr} {fd : FuncData} (F : Fun K "due_days" "due_days" s_due_days f fd) (T : Txt mg) (C_need_times : Cal P w K mg base "need_times" 4 ["times"] 1 m_need_times) (C_need_dues : Cal P w K mg base "need_dues" 4 ["dues", "many"] 2 m_need_dues) (C_need_pairs : Cal P w K mg base "need_pairs" 3 ["pairs", "many"] 2 m_need_pairs) : FnOk P w K mg base CX0 5 f fd ["times", "dues", "pairs"] (spFn K 3 m_due_days) := by
  have sc := sc_due_days
  have e : spFn K 3 m_due_days = spFn K (["times", "dues", "pairs"] : List Str).length (runDef nm_due_days.length g_due_days) := rfl
  rw [e]
  refine fn_ok (P := P) (w := w) (mg := mg) (base := base) (k := 4) (g := g_due_days) F sc ?_
  intro R cdv A outer s H E hcd hr
  exact ⟨_, (dss_cons (ds_expr (de_call C_need_times hr (by decide) (by rfl) (da_cons (de_var 0) da_nil)))
    (dss_cons (ds_expr (de_call C_need_dues hr (by decide) (by rfl) (da_cons (de_var 1) (da_cons (de_callB (r := (DV.rLen K)) call_len_seq csem_len (by rfl) T.b_len PySem.boot_len (da_cons (de_var 0) da_nil)) da_nil))))
    (dss_cons (ds_expr (de_call C_need_pairs hr (by decide) (by rfl) (da_cons (de_var 2) (da_cons (de_callB (r := (DV.rLen K)) call_len_seq csem_len (by rfl) T.b_len PySem.boot_len (da_cons (de_var 0) da_nil)) da_nil))))
    (dss_cons (ds_set (i := 3) sc.nd (by rfl) (by first | exact Or.inl rfl | exact Or.inr rfl) (de_callTy (r := (DV.rList K)) call_list_of csem_list (by rfl) T.b_list PyProof.Rows.boot_list (da_cons (de_var 1) da_nil)))
    (dss_cons (ds_for PassesOwn.never (by rfl) (di_range1 (by rfl) T.b_range (de_callB (r := (DV.rLen K)) call_len_seq csem_len (by rfl) T.b_len PySem.boot_len (da_cons (de_var 0) da_nil))) (dg_name (i := 4) sc.nd (by rfl) (by first | exact Or.inl rfl | exact Or.inr rfl)) (dss_one (ds_for PassesOwn.never (by rfl) (di_seq (src_v 2)) (dg_tup (by rfl) (dgs_cons (dg_name (i := 5) sc.nd (by rfl) (by first | exact Or.inl rfl | exact Or.inr rfl)) (dgs_cons (dg_name (i := 6) sc.nd (by rfl) (by first | exact Or.inl rfl | exact Or.inr rfl)) dgs_nil))) (dss_one (ds_putF (i := 3) (de_callB (r := (fun xs H Q => ∃ i j, xs = [.int i, .int j] ∧ Q (.int (if j < i then j else i)) H)) (call_min2 (by rfl)) csem_min2 (by rfl) T.b_min PyProof.Rows.boot_min (da_cons (de_ix (de_var 3) (de_var 5)) (da_cons (de_op (r := (rI0 fun i j => .int (i - j))) op_sub rs_sub (de_ix (de_var 3) (de_var 6)) (de_ix (de_var 0) (de_var 6))) da_nil))) (de_var 5) fun h => pg_sub (pv 3) h set_list)))))
    (dss_one (ds_ret (de_callTy (r := (DV.rTuple K)) call_tuple_of csem_tuple (by rfl) T.b_tuple PyProof.Rows.boot_tuple (da_cons (de_var 3) da_nil)))))))))⟩
abbrev nm_cost_at : List Str := ["weight", "due", "end"]
theorem sc_cost_at : FnScope nm_cost_at ["weight", "due", "end"] (defScope s_cost_at) := ⟨rfl, rfl, rfl, by decide +kernel, rfl, by decide +kernel, by decide +kernel⟩
def g_cost_at : DV.Env → M Out :=
  (sRet (e2 gMulA (eVar 0) (eCall gMax2 (aCons (eC (.int 0)) (aCons (e2 gSubI (eVar 2) (eVar 1)) aNil)))))
def m_cost_at : List RV → M RV := runDef 3 g_cost_at
theorem ok_cost_at {f : Addr} {fd : FuncData} (F : Fun K "cost_at" "cost_at" s_cost_at f fd) (T : Txt mg)  : FnOk P w K mg base CX0 1 f fd ["weight", "due", "end"] (spFn K 3 m_cost_at) := by
  have sc := sc_cost_at
  have e : spFn K 3 m_cost_at = spFn K (["weight", "due", "end"] : List Str).length (runDef nm_cost_at.length g_cost_at) := rfl
  rw [e]
  refine fn_ok (P := P) (w := w) (mg := mg) (base := base) (k := 0) (g := g_cost_at) F sc ?_
  intro R cdv A outer s H E hcd hr
  exact ⟨_, (dss_one (ds_ret (de_op (r := (rMulA K)) op_mulA rsem_mul (de_var 0) (de_callB (r := (fun xs H Q => ∃ i j, xs = [.int i, .int j] ∧ Q (.int (if j > i then j else i)) H)) (call_max2 (by rfl)) csem_max2 (by rfl) T.b_max PyProof.Rows.boot_max (da_cons de_int (da_cons (de_op (r := (rI0 fun i j => .int (i - j))) op_sub rs_sub (de_var 2) (de_var 1)) da_nil))))))⟩
abbrev nm_ends_in : List Str := ["times", "order", "found", "day", "job"]
theorem sc_ends_in : FnScope nm_ends_in ["times", "order"] (defScope s_ends_in) := ⟨rfl, rfl, rfl, by decide +kernel, rfl, by decide +kernel, by decide +kernel⟩
abbrev g_ends_in : DV.Env → M Out := DVL.g_ends_in
abbrev m_ends_in : List RV → M RV := DVL.m_ends_in
theorem ok_ends_in {f : Addr} {fd : FuncData} (F : Fun K "ends_in" "ends_in" s_ends_in f fd) (T : Txt mg)  : FnOk P w K mg base CX0 1 f fd ["times", "order"] (spFn K 2 m_ends_in) := by
  have sc := sc_ends_in
  have e : spFn K 2 m_ends_in = spFn K (["times", "order"] : List Str).length (runDef nm_ends_in.length g_ends_in) := rfl
  rw [e]
  refine fn_ok (P := P) (w := w) (mg := mg) (base := base) (k := 0) (g := g_ends_in) F sc ?_
  intro R cdv A outer s H E hcd hr
  exact ⟨_, (dss_cons (ds_par (i := 2) (j := 3) (by rfl) sc.nd (by rfl) (by rfl) (by decide) (by rfl) (by rfl) (de_op (r := (rMulA K)) op_mulA rsem_mul (de_lst (da_cons de_int da_nil)) (de_callB (r := (DV.rLen K)) call_len_seq csem_len (by rfl) T.b_len PySem.boot_len (da_cons (de_var 0) da_nil))) de_int (by rfl))
    (dss_cons (ds_for PassesOwn.never (by rfl) (di_seq (src_v 1)) (dg_name (i := 4) sc.nd (by rfl) (by first | exact Or.inl rfl | exact Or.inr rfl)) (dss_cons (ds_aug (i := 3) ip_add sc.nd (by rfl) (by first | exact Or.inl rfl | exact Or.inr rfl) (de_ix (de_var 0) (de_var 4)))
    (dss_one (ds_putF (i := 2) (de_var 3) (de_var 4) fun h => pg_sub (pv 2) h set_list))))
    (dss_one (ds_retV 2))))⟩
abbrev nm_greatest_in : List Str := ["times", "weights", "dues", "order", "rows", "weight", "due", "end"]
theorem sc_greatest_in : FnScope nm_greatest_in ["times", "weights", "dues", "order"] (defScope s_greatest_in) := ⟨rfl, rfl, rfl, by decide +kernel, rfl, by decide +kernel, by decide +kernel⟩
def g_greatest_in : DV.Env → M Out :=
  (sZk 4 (iZip3F (srcV 1) (srcV 2) (srcE (eFn (fun xs => if xs.length = 2 then m_ends_in xs else fail) (aCons (eVar 0) (aCons (eVar 3) aNil))))) [5, 6, 7] (gTupF 3 (gMore (gNm 5) (gMore (gNm 6) (gMore (gNm 7) gNone)))) tTrue (eFn (fun xs => if xs.length = 3 then m_cost_at xs else fail) (aCons (eVar 5) (aCons (eVar 6) (aCons (eVar 7) aNil)))) (gBest PySem.W.maxD))
def m_greatest_in : List RV → M RV := runDef 8 g_greatest_in
theorem ok_greatest_in {f : Addr} {fd : FuncData} (F : Fun K "greatest_in" "greatest_in" s_greatest_in f fd) (T : Txt mg) (C_ends_in : Cal P w K mg base "ends_in" 1 ["times", "order"] 2 m_ends_in) (C_cost_at : Cal P w K mg base "cost_at" 1 ["weight", "due", "end"] 3 m_cost_at) : FnOk P w K mg base CX0 2 f fd ["times", "weights", "dues", "order"] (spFn K 4 m_greatest_in) := by
  have sc := sc_greatest_in
  have e : spFn K 4 m_greatest_in = spFn K (["times", "weights", "dues", "order"] : List Str).length (runDef nm_greatest_in.length g_greatest_in) := rfl
  rw [e]
  refine fn_ok (P := P) (w := w) (mg := mg) (base := base) (k := 1) (g := g_greatest_in) F sc ?_
  intro R cdv A outer s H E hcd hr
  exact ⟨_, (dss_zkB (i := 4) (own := [("weight", 5), ("due", 6), ("end", 7)]) (g := (gTup K 3 (gCons (gName 5) (gCons (gName 6) (gCons (gName 7) gNil))))) (tt := tYes) (te := (tCall (spFn K 3 m_cost_at) [] E0 (tCons (tVar 5) (tCons (tVar 6) (tCons (tVar 7) tNil))))) (r := (DV.rBest K PySem.W.maxD)) (by rfl) sc.nd (by rfl) (by first | exact Or.inl rfl | exact Or.inr rfl) (dz_zip3 (by rfl) T.b_zip (src_v 1) (src_v 2) (src_e (de_call C_ends_in hr (by decide) (by rfl) (da_cons (de_var 0) (da_cons (de_var 3) da_nil))))) (blkOk_by (N := nm_greatest_in) (sc := defScope s_greatest_in) (by decide +kernel)) (by decide) (fun _ _ _ _ _ => (dg_tup (by rfl) (dgs_cons (dg_name (i := 5) sc.nd (by rfl) (by first | exact Or.inl rfl | exact Or.inr rfl)) (dgs_cons (dg_name (i := 6) sc.nd (by rfl) (by first | exact Or.inl rfl | exact Or.inr rfl)) (dgs_cons (dg_name (i := 7) sc.nd (by rfl) (by first | exact Or.inl rfl | exact Or.inr rfl)) dgs_nil))))) (fun _ _ _ _ _ => dts_nil) (fun _ _ _ _ _ => (de_call C_cost_at hr (by decide) (by rfl) (da_cons (de_var 5) (da_cons (de_var 6) (da_cons (de_var 7) da_nil))))) (cr_maxA (by rfl) (rm65 hr)) csem_best (by rfl) T.b_max PyProof.Rows.boot_max)⟩
abbrev nm_is_order : List Str := ["value", "many", "job"]
theorem sc_is_order : FnScope nm_is_order ["value", "many"] (defScope s_is_order) := ⟨rfl, rfl, rfl, by decide +kernel, rfl, by decide +kernel, by decide +kernel⟩
abbrev g_is_order : DV.Env → M Out := DVL.g_is_order
abbrev m_is_order : List RV → M RV := DVL.m_is_order
theorem ok_is_order {f : Addr} {fd : FuncData} (F : Fun K "is_order" "is_order" s_is_order f fd) (T : Txt mg) (C_is_list : Cal P w K mg base "is_list" 1 ["value", "least", "most"] 3 m_is_list) (C_is_in : Cal P w K mg base "is_in" 2 ["value", "least", "most"] 3 m_is_in) : FnOk P w K mg base CX0 3 f fd ["value", "many"] (spFn K 2 m_is_order) := by
  have sc := sc_is_order
  have e : spFn K 2 m_is_order = spFn K (["value", "many"] : List Str).length (runDef nm_is_order.length g_is_order) := rfl
  rw [e]
  refine fn_ok (P := P) (w := w) (mg := mg) (base := base) (k := 2) (g := g_is_order) F sc ?_
  intro R cdv A outer s H E hcd hr
  exact ⟨_, (dss_one (ds_ret (de_and (de_call C_is_list hr (by decide) (by rfl) (da_cons (de_var 0) (da_cons (de_var 1) (da_cons (de_var 1) da_nil)))) (de_and (de_callB (r := (rAll K)) (cr_all (by rfl)) (csem_bools _) (by rfl) T.b_all PyProof.Rows.boot_all (da_cons (de_lc (own := [("job", 2)]) (g := (gName 2)) (tt := tYes) (te := (tCall (spFn K 3 m_is_in) [] E0 (tCons (tVar 2) (tCons (tC (.int 0)) (tCons (tOp (rI0 fun i j => .int (i - j)) (tVar 1) (tC (.int 1))) tNil))))) (by rfl) sc.nd (di_seq (src_v 0)) (blkOk_by (N := nm_is_order) (sc := defScope s_is_order) (by decide +kernel)) (by decide) (fun _ _ _ _ _ => (dg_name (i := 2) sc.nd (by rfl) (by first | exact Or.inl rfl | exact Or.inr rfl))) (fun _ _ _ _ _ => dts_nil) (fun _ _ _ _ _ => (de_call C_is_in hr (by decide) (by rfl) (da_cons (de_var 2) (da_cons de_int (da_cons (de_op (r := (rI0 fun i j => .int (i - j))) op_sub rs_sub (de_var 1) de_int) da_nil)))))) da_nil)) (de_one (de_cmp (r := (rEqD K)) (op_eqD (rm64 hr)) rsem_eq (de_lenSet (by rfl) (by rfl) T.b_len (by rfl) T.b_set (de_var 0)) (de_var 1) (nomark _)))))))⟩
abbrev nm_need_order : List Str := ["order", "many"]
theorem sc_need_order : FnScope nm_need_order ["order", "many"] (defScope s_need_order) := ⟨rfl, rfl, rfl, by decide +kernel, rfl, by decide +kernel, by decide +kernel⟩
abbrev g_need_order : DV.Env → M Out := DVL.g_need_order
abbrev m_need_order : List RV → M RV := DVL.m_need_order
theorem ok_need_order {f : Addr} {fd : FuncData} (F : Fun K "need_order" "need_order" s_need_order f fd) (T : Txt mg) (C_is_order : Cal P w K mg base "is_order" 3 ["value", "many"] 2 m_is_order) : FnOk P w K mg base CX0 4 f fd ["order", "many"] (spFn K 2 m_need_order) := by
  have sc := sc_need_order
  have e : spFn K 2 m_need_order = spFn K (["order", "many"] : List Str).length (runDef nm_need_order.length g_need_order) := rfl
  rw [e]
  refine fn_ok (P := P) (w := w) (mg := mg) (base := base) (k := 3) (g := g_need_order) F sc ?_
  intro R cdv A outer s H E hcd hr
  exact ⟨_, (dss_one (ds_if (dt_not (dt_val (de_call C_is_order hr (by decide) (by rfl) (da_cons (de_var 0) (da_cons (de_var 1) da_nil))))) dss_never dss_nil))⟩
abbrev nm_need_weights : List Str := ["weights", "many", "index"]
theorem sc_need_weights : FnScope nm_need_weights ["weights", "many"] (defScope s_need_weights) := ⟨rfl, rfl, rfl, by decide +kernel, rfl, by decide +kernel, by decide +kernel⟩
abbrev g_need_weights : DV.Env → M Out := DVL.g_need_weights
abbrev m_need_weights : List RV → M RV := DVL.m_need_weights
theorem ok_need_weights {f : Addr} {fd : FuncData} (F : Fun K "need_weights" "need_weights" s_need_weights f fd) (T : Txt mg) (C_first_bad : Cal P w K mg base "first_bad" 3 ["value", "many", "low", "high"] 4 m_first_bad) : FnOk P w K mg base CX0 4 f fd ["weights", "many"] (spFn K 2 m_need_weights) := by
  have sc := sc_need_weights
  have e : spFn K 2 m_need_weights = spFn K (["weights", "many"] : List Str).length (runDef nm_need_weights.length g_need_weights) := rfl
  rw [e]
  refine fn_ok (P := P) (w := w) (mg := mg) (base := base) (k := 3) (g := g_need_weights) F sc ?_
  intro R cdv A outer s H E hcd hr
  exact ⟨_, (dss_cons (ds_set (i := 2) sc.nd (by rfl) (by first | exact Or.inl rfl | exact Or.inr rfl) (de_call C_first_bad hr (by decide) (by rfl) (da_cons (de_var 0) (da_cons (de_var 1) (da_cons de_int (da_cons (de_gI (by rfl) T.c_MOST_WEIGHT) da_nil))))))
    (dss_one (ds_if (dt_cmp (r := (rNeD K)) (op_neD (rm64 hr)) rsem_ne (de_var 2) (de_neg de_int) (nomark _)) dss_never dss_nil)))⟩
abbrev nm_need_weighed : List Str := ["times", "weights"]
theorem sc_need_weighed : FnScope nm_need_weighed ["times", "weights"] (defScope s_need_weighed) := ⟨rfl, rfl, rfl, by decide +kernel, rfl, by decide +kernel, by decide +kernel⟩
abbrev g_need_weighed : DV.Env → M Out := DVL.g_need_weighed
abbrev m_need_weighed : List RV → M RV := DVL.m_need_weighed
theorem ok_need_weighed {f : Addr} {fd : FuncData} (F : Fun K "need_weighed" "need_weighed" s_need_weighed f fd) (T : Txt mg) (C_need_times : Cal P w K mg base "need_times" 4 ["times"] 1 m_need_times) (C_need_weights : Cal P w K mg base "need_weights" 4 ["weights", "many"] 2 m_need_weights) : FnOk P w K mg base CX0 5 f fd ["times", "weights"] (spFn K 2 m_need_weighed) := by
  have sc := sc_need_weighed
  have e : spFn K 2 m_need_weighed = spFn K (["times", "weights"] : List Str).length (runDef nm_need_weighed.length g_need_weighed) := rfl
  rw [e]
  refine fn_ok (P := P) (w := w) (mg := mg) (base := base) (k := 4) (g := g_need_weighed) F sc ?_
  intro R cdv A outer s H E hcd hr
  exact ⟨_, (dss_cons (ds_expr (de_call C_need_times hr (by decide) (by rfl) (da_cons (de_var 0) da_nil)))
    (dss_one (ds_expr (de_call C_need_weights hr (by decide) (by rfl) (da_cons (de_var 1) (da_cons (de_callB (r := (DV.rLen K)) call_len_seq csem_len (by rfl) T.b_len PySem.boot_len (da_cons (de_var 0) da_nil)) da_nil))))))⟩
abbrev nm_greatest_cost : List Str := ["times", "weights", "dues", "order"]
theorem sc_greatest_cost : FnScope nm_greatest_cost ["times", "weights", "dues", "order"] (defScope s_greatest_cost) := ⟨rfl, rfl, rfl, by decide +kernel, rfl, by decide +kernel, by decide +kernel⟩
def g_greatest_cost : DV.Env → M Out :=
  (sSeq (sDrop (eFn (fun xs => if xs.length = 2 then m_need_weighed xs else fail) (aCons (eVar 0) (aCons (eVar 1) aNil))))
  (sSeq (sDrop (eFn (fun xs => if xs.length = 2 then m_need_dues xs else fail) (aCons (eVar 2) (aCons (eCall gLen (aCons (eVar 0) aNil)) aNil))))
  (sSeq (sDrop (eFn (fun xs => if xs.length = 2 then m_need_order xs else fail) (aCons (eVar 3) (aCons (eCall gLen (aCons (eVar 0) aNil)) aNil))))
  (sRet (eFn (fun xs => if xs.length = 4 then m_greatest_in xs else fail) (aCons (eVar 0) (aCons (eVar 1) (aCons (eVar 2) (aCons (eVar 3) aNil)))))))))
def m_greatest_cost : List RV → M RV := runDef 4 g_greatest_cost
theorem ok_greatest_cost {f : Addr} {fd : FuncData} (F : Fun K "greatest_cost" "greatest_cost" s_greatest_cost f fd) (T : Txt mg) (C_need_weighed : Cal P w K mg base "need_weighed" 5 ["times", "weights"] 2 m_need_weighed) (C_need_dues : Cal P w K mg base "need_dues" 4 ["dues", "many"] 2 m_need_dues) (C_need_order : Cal P w K mg base "need_order" 4 ["order", "many"] 2 m_need_order) (C_greatest_in : Cal P w K mg base "greatest_in" 2 ["times", "weights", "dues", "order"] 4 m_greatest_in) : FnOk P w K mg base CX0 6 f fd ["times", "weights", "dues", "order"] (spFn K 4 m_greatest_cost) := by
  have sc := sc_greatest_cost
  have e : spFn K 4 m_greatest_cost = spFn K (["times", "weights", "dues", "order"] : List Str).length (runDef nm_greatest_cost.length g_greatest_cost) := rfl
  rw [e]
  refine fn_ok (P := P) (w := w) (mg := mg) (base := base) (k := 5) (g := g_greatest_cost) F sc ?_
  intro R cdv A outer s H E hcd hr
  exact ⟨_, (dss_cons (ds_expr (de_call C_need_weighed hr (by decide) (by rfl) (da_cons (de_var 0) (da_cons (de_var 1) da_nil))))
    (dss_cons (ds_expr (de_call C_need_dues hr (by decide) (by rfl) (da_cons (de_var 2) (da_cons (de_callB (r := (DV.rLen K)) call_len_seq csem_len (by rfl) T.b_len PySem.boot_len (da_cons (de_var 0) da_nil)) da_nil))))
    (dss_cons (ds_expr (de_call C_need_order hr (by decide) (by rfl) (da_cons (de_var 3) (da_cons (de_callB (r := (DV.rLen K)) call_len_seq csem_len (by rfl) T.b_len PySem.boot_len (da_cons (de_var 0) da_nil)) da_nil))))
    (dss_one (ds_ret (de_call C_greatest_in hr (by decide) (by rfl) (da_cons (de_var 0) (da_cons (de_var 1) (da_cons (de_var 2) (da_cons (de_var 3) da_nil))))))))))⟩
abbrev nm_need_costs : List Str := ["times", "weights", "dues", "pairs"]
theorem sc_need_costs : FnScope nm_need_costs ["times", "weights", "dues", "pairs"] (defScope s_need_costs) := ⟨rfl, rfl, rfl, by decide +kernel, rfl, by decide +kernel, by decide +kernel⟩
def g_need_costs : DV.Env → M Out :=
  (sSeq (sDrop (eFn (fun xs => if xs.length = 2 then m_need_weighed xs else fail) (aCons (eVar 0) (aCons (eVar 1) aNil))))
  (sSeq (sDrop (eFn (fun xs => if xs.length = 2 then m_need_dues xs else fail) (aCons (eVar 2) (aCons (eCall gLen (aCons (eVar 0) aNil)) aNil))))
  (sDrop (eFn (fun xs => if xs.length = 2 then m_need_pairs xs else fail) (aCons (eVar 3) (aCons (eCall gLen (aCons (eVar 0) aNil)) aNil))))))
def m_need_costs : List RV → M RV := runDef 4 g_need_costs
theorem ok_need_costs {f : Addr} {fd : FuncData} (F : Fun K "need_costs" "need_costs" s_need_costs f fd) (T : Txt mg) (C_need_weighed : Cal P w K mg base "need_weighed" 5 ["times", "weights"] 2 m_need_weighed) (C_need_dues : Cal P w K mg base "need_dues" 4 ["dues", "many"] 2 m_need_dues) (C_need_pairs : Cal P w K mg base "need_pairs" 3 ["pairs", "many"] 2 m_need_pairs) : FnOk P w K mg base CX0 6 f fd ["times", "weights", "dues", "pairs"] (spFn K 4 m_need_costs) := by
  have sc := sc_need_costs
  have e : spFn K 4 m_need_costs = spFn K (["times", "weights", "dues", "pairs"] : List Str).length (runDef nm_need_costs.length g_need_costs) := rfl
  rw [e]
  refine fn_ok (P := P) (w := w) (mg := mg) (base := base) (k := 5) (g := g_need_costs) F sc ?_
  intro R cdv A outer s H E hcd hr
  exact ⟨_, (dss_cons (ds_expr (de_call C_need_weighed hr (by decide) (by rfl) (da_cons (de_var 0) (da_cons (de_var 1) da_nil))))
    (dss_cons (ds_expr (de_call C_need_dues hr (by decide) (by rfl) (da_cons (de_var 2) (da_cons (de_callB (r := (DV.rLen K)) call_len_seq csem_len (by rfl) T.b_len PySem.boot_len (da_cons (de_var 0) da_nil)) da_nil))))
    (dss_one (ds_expr (de_call C_need_pairs hr (by decide) (by rfl) (da_cons (de_var 3) (da_cons (de_callB (r := (DV.rLen K)) call_len_seq csem_len (by rfl) T.b_len PySem.boot_len (da_cons (de_var 0) da_nil)) da_nil)))))))⟩
abbrev nm_least_greatest : List Str := ["times", "weights", "dues", "pairs", "left", "found", "day", "job", "able", "pair", "last"]
theorem sc_least_greatest : FnScope nm_least_greatest ["times", "weights", "dues", "pairs"] (defScope s_least_greatest) := ⟨rfl, rfl, rfl, by decide +kernel, rfl, by decide +kernel, by decide +kernel⟩
def g_least_greatest : DV.Env → M Out :=
  (sSeq (sDrop (eFn (fun xs => if xs.length = 4 then m_need_costs xs else fail) (aCons (eVar 0) (aCons (eVar 1) (aCons (eVar 2) (aCons (eVar 3) aNil))))))
  (sSeq (sPar 4 5 (aCons (eListRg (rg1F (eCall gLen (aCons (eVar 0) aNil)))) (aCons (eLst aNil) aNil)))
  (sSeq (wloopF (eT (e2 gNe (eVar 4) (eLst aNil))) (sSeq (sSet 6 (eCall gSum (aCons (eLc (srcV 4) [7] (gNm 7) tTrue (e2 gIx (eVar 0) (eVar 7))) aNil)))
  (sSeq (sSet 8 (eLc (srcV 4) [7] (gNm 7) (tNotF (eT (eCall gAny (aCons (eLc (srcV 3) [9] (gNm 9) tTrue (eIfB (e2 gEq (e2 gIx (eVar 9) (eC (.int 0))) (eVar 7)) (e2 gIn (e2 gIx (eVar 9) (eC (.int 1))) (eVar 4)) (eC (.bool false)))) aNil)))) (eVar 7)))
  (sSeq (sSet 10 (eBestK ltB (eVar 8) (eTup (aCons (eFn (fun xs => if xs.length = 3 then m_cost_at xs else fail) (aCons (e2 gIx (eVar 1) (eVar 7)) (aCons (e2 gIx (eVar 2) (eVar 7)) (aCons (eVar 6) aNil)))) (aCons (eVar 7) aNil))) 7))
  (sSeq (sApp 5 (eVar 10))
  (sSet 4 (eLc (srcV 4) [7] (gNm 7) (eT (e2 gNe (eVar 7) (eVar 10))) (eVar 7))))))) 100000)
  (sRet (eTupRev (eVar 5))))))
def m_least_greatest : List RV → M RV := runDef 11 g_least_greatest
theorem ok_least_greatest {f : Addr} {fd : FuncData} (F : Fun K "least_greatest" "least_greatest" s_least_greatest f fd) (T : Txt mg) {P_L : Addr} (G_L : LamFn K mg base fd "least_greatest.<locals>.<lambda>" P_L) (C_need_costs : Cal P w K mg base "need_costs" 6 ["times", "weights", "dues", "pairs"] 4 m_need_costs) (C_cost_at : Cal P w K mg base "cost_at" 1 ["weight", "due", "end"] 3 m_cost_at) : FnOk P w K mg base CX0 7 f fd ["times", "weights", "dues", "pairs"] (spFn K 4 m_least_greatest) := by
  have sc := sc_least_greatest
  have e : spFn K 4 m_least_greatest = spFn K (["times", "weights", "dues", "pairs"] : List Str).length (runDef nm_least_greatest.length g_least_greatest) := rfl
  rw [e]
  refine fn_ok (P := P) (w := w) (mg := mg) (base := base) (k := 6) (g := g_least_greatest) F sc ?_
  intro R cdv A outer s H E hcd hr
  exact ⟨_, (dss_cons (ds_expr (de_call C_need_costs hr (by decide) (by rfl) (da_cons (de_var 0) (da_cons (de_var 1) (da_cons (de_var 2) (da_cons (de_var 3) da_nil))))))
    (dss_cons (ds_tup2L (i := 4) (j := 5) (by rfl) sc.nd (by rfl) (by rfl) (by first | exact Or.inl rfl | exact Or.inr rfl) (by first | exact Or.inl rfl | exact Or.inr rfl) (de_listRg (by rfl) (by rfl) T.b_list (drg_1 (by rfl) T.b_range (de_callB (r := (DV.rLen K)) call_len_seq csem_len (by rfl) T.b_len PySem.boot_len (da_cons (de_var 0) da_nil)))) (de_lst da_nil) (by rfl))
    (dss_cons (ds_while 100000 PassesOwn.never (dt_cmp (r := (rNeD K)) (op_neD (rm64 hr)) rsem_ne (de_var 4) (de_lst da_nil) (nomark _)) (dss_cons (ds_set (i := 6) sc.nd (by rfl) (by first | exact Or.inl rfl | exact Or.inr rfl) (de_callB (r := (DV.rSumA K)) (cr_sumA (by rfl)) csem_sum (by rfl) T.b_sum PyProof.Rows.boot_sum (da_cons (de_lc (own := [("job", 7)]) (g := (gName 7)) (tt := tYes) (te := (tOp (rIx K) (tVar 0) (tVar 7))) (by rfl) sc.nd (di_seq (src_v 4)) (blkOk_by (N := nm_least_greatest) (sc := defScope s_least_greatest) (by decide +kernel)) (by decide) (fun _ _ _ _ _ => (dg_name (i := 7) sc.nd (by rfl) (by first | exact Or.inl rfl | exact Or.inr rfl))) (fun _ _ _ _ _ => dts_nil) (fun _ _ _ _ _ => (de_ix (de_var 0) (de_var 7)))) da_nil)))
    (dss_cons (ds_setLc (i := 8) (own := [("job", 7)]) (g := (gName 7)) (tt := (tNot (tB (tCB (rAny K) (tCons (tLc (iSeqK K (tVar 3)) (gName 9) tYes (tAndV (tOp (rEqD K) (tOp (rIx K) (tVar 9) (tC (.int 0))) (tVar 7)) (tOp (rInA K false) (tOp (rIx K) (tVar 9) (tC (.int 1))) (tVar 4))) [9]) tNil))))) (te := (tVar 7)) (by rfl) sc.nd (by rfl) (by rfl) (sw_true (by rfl) (by rfl) (by rfl) (by decide +kernel)) (di_seq (src_v 4)) (blkOk_by (N := nm_least_greatest) (sc := defScope s_least_greatest) (by decide +kernel)) (by decide) (fun _ _ _ _ _ => (dg_name (i := 7) sc.nd (by rfl) (by first | exact Or.inl rfl | exact Or.inr rfl))) (fun _ _ _ _ _ => (dts_one (dt_not (dt_val (de_callB (r := (rAny K)) (cr_any (by rfl)) (csem_bools _) (by rfl) T.b_any PyProof.Rows.boot_any (da_cons (de_lc (own := [("pair", 9)]) (g := (gName 9)) (tt := tYes) (te := (tAndV (tOp (rEqD K) (tOp (rIx K) (tVar 9) (tC (.int 0))) (tVar 7)) (tOp (rInA K false) (tOp (rIx K) (tVar 9) (tC (.int 1))) (tVar 4)))) (by rfl) sc.nd (di_seq (src_v 3)) (blkOk_by (N := nm_least_greatest) (by rfl)) (by decide) (fun _ _ _ _ _ => (dg_name (i := 9) sc.nd (by rfl) (by first | exact Or.inl rfl | exact Or.inr rfl))) (fun _ _ _ _ _ => dts_nil) (fun _ _ _ _ _ => (de_and (de_cmp (r := (rEqD K)) (op_eqD (rm64 hr)) rsem_eq (de_ix (de_var 9) de_int) (de_var 7) (nomark _)) (de_one (de_cmp (r := (rInA K false)) (op_inA (rm65 hr)) (rsem_in false) (de_ix (de_var 9) de_int) (de_var 4) (by with_unfolding_all rfl)))))) da_nil)))))) (fun _ _ _ _ _ => (de_var 7)))
    (dss_cons (ds_set (i := 10) sc.nd (by rfl) (by first | exact Or.inl rfl | exact Or.inr rfl) (de_minK (ip := 7) (tb := (tTup (tCons (tCall (spFn K 3 m_cost_at) [] E0 (tCons (tOp (rIx K) (tVar 1) (tVar 7)) (tCons (tOp (rIx K) (tVar 2) (tVar 7)) (tCons (tVar 6) tNil)))) (tCons (tVar 7) tNil)))) (el := (eTup (aCons (eFn (fun xs => if xs.length = 3 then m_cost_at xs else fail) (aCons (e2 gIx (eVar 1) (eVar 7)) (aCons (e2 gIx (eVar 2) (eVar 7)) (aCons (eVar 6) aNil)))) (aCons (eVar 7) aNil)))) (by rfl) T.b_min hr sc.nd (de_var 8) (G_L.at hcd (by rfl) (by kernel_rfl) (by rfl) (by rfl) (fun _ _ _ _ _ _ _ => rfl)) (fun _ _ _ _ hr => (de_tup (da_cons (de_call C_cost_at hr (by decide) (by rfl) (da_cons (de_ix (de_var 1) (de_var 7)) (da_cons (de_ix (de_var 2) (de_var 7)) (da_cons (de_var 6) da_nil)))) (da_cons (de_var 7) da_nil))))))
    (dss_cons (ds_appendF (i := 5) (de_var 10) fun h => (pe_bm PySem.F.plainAttrs_list PySem.F.slot_list_append PySem.F.type_list_append mt_append (pv 5) (pa_cons h pa_nil)))
    (dss_one (ds_set (i := 4) sc.nd (by rfl) (by first | exact Or.inl rfl | exact Or.inr rfl) (de_lc (own := [("job", 7)]) (g := (gName 7)) (tt := (tTest (tOp (rNeD K) (tVar 7) (tVar 10)))) (te := (tVar 7)) (by rfl) sc.nd (di_seq (src_v 4)) (blkOk_by (N := nm_least_greatest) (sc := defScope s_least_greatest) (by decide +kernel)) (by decide) (fun _ _ _ _ _ => (dg_name (i := 7) sc.nd (by rfl) (by first | exact Or.inl rfl | exact Or.inr rfl))) (fun _ _ _ _ _ => (dts_one (dt_cmp (r := (rNeD K)) (op_neD (rm64 hr)) rsem_ne (de_var 7) (de_var 10) (nomark _)))) (fun _ _ _ _ _ => (de_var 7))))))))))
    (dss_one (ds_ret (de_tupRev (by rfl) (by rfl) T.b_tuple (by rfl) T.b_reversed (de_var 5)))))))⟩
abbrev nm_law : List Str := ["_law_script", "_law_row", "_law_times", "_law_weights", "_law_dues", "_law_many", "_law_pairs_here", "_law_every", "_law_best", "_law_order_here", "_law_drawn", "_law_low", "_law_at", "_law_due", "_law_one", "_law_other"]
theorem sc_law : FnScope nm_law ["_law_script"] (defScope s_law) := ⟨rfl, rfl, rfl, by decide +kernel, rfl, by decide +kernel, by decide +kernel⟩
def g_law : DV.Env → M Out :=
  (sSeq (sTup (eFn (fun xs => if xs.length = 3 then m__law_jobs xs else fail) (aCons (eVar 1) (aCons (eC (.int 5)) (aCons (eC (.int 9)) aNil)))) (gTupF 3 (gMore (gNm 2) (gMore (gNm 3) (gMore (gNm 4) gNone)))))
  (sSeq (sSet 5 (eCall gLen (aCons (eVar 2) aNil)))
  (sSeq (sSet 6 (eFn (fun xs => if xs.length = 2 then m__law_pairs xs else fail) (aCons (eVar 1) (aCons (eVar 5) aNil))))
  (sSeq (sSet 7 (eFn (fun xs => if xs.length = 2 then m__law_orders xs else fail) (aCons (eVar 5) (aCons (eVar 6) aNil))))
  (sSeq (sSet 8 (eFn (fun xs => if xs.length = 4 then m_least_greatest xs else fail) (aCons (eVar 2) (aCons (eVar 3) (aCons (eVar 4) (aCons (eVar 6) aNil))))))
  (sSeq (sIf (tIfT (eT (e2 gNotIn (eVar 8) (eVar 7))) (tRetB true) (eT (e2 gNe (eFn (fun xs => if xs.length = 4 then m_greatest_cost xs else fail) (aCons (eVar 2) (aCons (eVar 3) (aCons (eVar 4) (aCons (eVar 8) aNil))))) (eCall (gBest PySem.W.minD) (aCons (eLc (srcV 7) [9] (gNm 9) tTrue (eFn (fun xs => if xs.length = 4 then m__law_greatest xs else fail) (aCons (eVar 2) (aCons (eVar 3) (aCons (eVar 4) (aCons (eVar 9) aNil)))))) aNil))))) (sRet (eC (.bool false))) sNil)
  (sSeq (sSet 10 (eFn (fun xs => if xs.length = 2 then m__law_order xs else fail) (aCons (eVar 1) (aCons (eVar 5) aNil))))
  (sSeq (sIf (tNotF (eT (eFn (fun xs => if xs.length = 2 then m__law_alike xs else fail) (aCons (eFn (fun xs => if xs.length = 4 then m_greatest_cost xs else fail) (aCons (eVar 2) (aCons (eVar 3) (aCons (eVar 4) (aCons (eVar 10) aNil))))) (aCons (eFn (fun xs => if xs.length = 4 then m__law_greatest xs else fail) (aCons (eVar 2) (aCons (eVar 3) (aCons (eVar 4) (aCons (eVar 10) aNil))))) aNil))))) (sRet (eC (.bool false))) sNil)
  (sSeq (sSet 11 (eFn (fun xs => if xs.length = 3 then m_due_days xs else fail) (aCons (eVar 2) (aCons (eVar 4) (aCons (eVar 6) aNil)))))
  (sSeq (sFor (iRng1F (eVar 5)) (gNm 12) (sSeq (sSet 13 (eCall (gBest PySem.W.minD) (aCons (e2 gAddA (eLst (aCons (e2 gIx (eVar 4) (eVar 12)) aNil)) (eLc (srcV 6) [14, 15] (gTupF 2 (gMore (gNm 14) (gMore (gNm 15) gNone))) (eT (e2 gEq (eVar 14) (eVar 12))) (e2 gSubI (e2 gIx (eVar 11) (eVar 15)) (e2 gIx (eVar 2) (eVar 15))))) aNil)))
  (sIf (eT (e2 gNe (e2 gIx (eVar 11) (eVar 12)) (eVar 13))) (sRet (eC (.bool false))) sNil)))
  (sRet (e2 gEq (eCall (gBest PySem.W.minD) (aCons (eLc (srcV 7) [9] (gNm 9) tTrue (eFn (fun xs => if xs.length = 3 then m__law_late xs else fail) (aCons (eVar 2) (aCons (eVar 11) (aCons (eVar 9) aNil))))) aNil)) (eCall (gBest PySem.W.minD) (aCons (eLc (srcV 7) [9] (gNm 9) tTrue (eFn (fun xs => if xs.length = 3 then m__law_late xs else fail) (aCons (eVar 2) (aCons (eVar 4) (aCons (eVar 9) aNil))))) aNil))))))))))))))
def LawHolds : Prop := ∀ ns : List Int, ns.length ≤ 63 → ∃ rs', g_law (lawE 16) ⟨ns, 0, 3906, 0⟩ = some (.rt (.d (.bool true)), rs')
theorem ok_law {f : Addr} {fd : FuncData} (hlaw : LawHolds) (F : Fun K "law" "law" s_law f fd) (T : Txt mg) (C__law_jobs : Cal P w K mg base "_law_jobs" 3 ["_law_row", "_law_most", "_law_time"] 3 m__law_jobs) (C__law_pairs : Cal P w K mg base "_law_pairs" 3 ["_law_row", "_law_many"] 2 m__law_pairs) (C__law_orders : Cal P w K mg base "_law_orders" 1 ["_law_many", "_law_pairs_here"] 2 m__law_orders) (C_least_greatest : Cal P w K mg base "least_greatest" 7 ["times", "weights", "dues", "pairs"] 4 m_least_greatest) (C_greatest_cost : Cal P w K mg base "greatest_cost" 6 ["times", "weights", "dues", "order"] 4 m_greatest_cost) (C__law_greatest : Cal P w K mg base "_law_greatest" 2 ["_law_times", "_law_weights", "_law_dues", "_law_order_here"] 4 m__law_greatest) (C__law_order : Cal P w K mg base "_law_order" 2 ["_law_row", "_law_many"] 2 m__law_order) (C__law_alike : Cal P w K mg base "_law_alike" 6 ["_law_found", "_law_due"] 2 m__law_alike) (C_due_days : Cal P w K mg base "due_days" 5 ["times", "dues", "pairs"] 3 m_due_days) (C__law_late : Cal P w K mg base "_law_late" 2 ["_law_times", "_law_dues", "_law_order_here"] 3 m__law_late) : FnOk P w K mg base CX0 8 f fd ["_law_script"] (spLaw K) :=
  have sc := sc_law
  law_ok (k := 7) (g := g_law) (seed := 3906) F sc (by decide) rfl (fun cdv A outer s H E hr => ⟨ps_set (i := 1) sc.nd rfl (by first | exact Or.inl rfl | exact Or.inr rfl) (pe_lst (pa_cons (pv 0) (pa_cons pe_int (pa_cons pe_int (pa_cons pe_int pa_nil))))), _, fun R => (dss_cons (ds_tup (de_call C__law_jobs hr (by decide) (by rfl) (da_cons (de_var 1) (da_cons de_int (da_cons de_int da_nil)))) (dg_tup (by rfl) (dgs_cons (dg_name (i := 2) sc.nd (by rfl) (by first | exact Or.inl rfl | exact Or.inr rfl)) (dgs_cons (dg_name (i := 3) sc.nd (by rfl) (by first | exact Or.inl rfl | exact Or.inr rfl)) (dgs_cons (dg_name (i := 4) sc.nd (by rfl) (by first | exact Or.inl rfl | exact Or.inr rfl)) dgs_nil)))))
    (dss_cons (ds_set (i := 5) sc.nd (by rfl) (by first | exact Or.inl rfl | exact Or.inr rfl) (de_callB (r := (DV.rLen K)) call_len_seq csem_len (by rfl) T.b_len PySem.boot_len (da_cons (de_var 2) da_nil)))
    (dss_cons (ds_set (i := 6) sc.nd (by rfl) (by first | exact Or.inl rfl | exact Or.inr rfl) (de_call C__law_pairs hr (by decide) (by rfl) (da_cons (de_var 1) (da_cons (de_var 5) da_nil))))
    (dss_cons (ds_set (i := 7) sc.nd (by rfl) (by first | exact Or.inl rfl | exact Or.inr rfl) (de_call C__law_orders hr (by decide) (by rfl) (da_cons (de_var 5) (da_cons (de_var 6) da_nil))))
    (dss_cons (ds_set (i := 8) sc.nd (by rfl) (by first | exact Or.inl rfl | exact Or.inr rfl) (de_call C_least_greatest hr (by decide) (by rfl) (da_cons (de_var 2) (da_cons (de_var 3) (da_cons (de_var 4) (da_cons (de_var 6) da_nil))))))
    (dss_cons (ds_if (DW.dt (dw_or (dt_cmp (r := (rInA K true)) (op_notInA (rm65 hr)) (rsem_in true) (de_var 8) (de_var 7) (by with_unfolding_all rfl)) (dw_or1 (dt_cmp (r := (rNeD K)) (op_neD (rm64 hr)) rsem_ne (de_call C_greatest_cost hr (by decide) (by rfl) (da_cons (de_var 2) (da_cons (de_var 3) (da_cons (de_var 4) (da_cons (de_var 8) da_nil))))) (de_callB (r := (DV.rBest K PySem.W.minD)) (cr_minA (by rfl) (rm65 hr)) csem_best (by rfl) T.b_min PyProof.Rows.boot_min (da_cons (de_lc (own := [("_law_order_here", 9)]) (g := (gName 9)) (tt := tYes) (te := (tCall (spFn K 4 m__law_greatest) [] E0 (tCons (tVar 2) (tCons (tVar 3) (tCons (tVar 4) (tCons (tVar 9) tNil)))))) (by rfl) sc.nd (di_seq (src_v 7)) (blkOk_by (N := nm_law) (sc := defScope s_law) (by decide +kernel)) (by decide) (fun _ _ _ _ _ => (dg_name (i := 9) sc.nd (by rfl) (by first | exact Or.inl rfl | exact Or.inr rfl))) (fun _ _ _ _ _ => dts_nil) (fun _ _ _ _ _ => (de_call C__law_greatest hr (by decide) (by rfl) (da_cons (de_var 2) (da_cons (de_var 3) (da_cons (de_var 4) (da_cons (de_var 9) da_nil))))))) da_nil)) (nomark _))))) (dss_one (ds_ret de_bl)) dss_nil)
    (dss_cons (ds_set (i := 10) sc.nd (by rfl) (by first | exact Or.inl rfl | exact Or.inr rfl) (de_call C__law_order hr (by decide) (by rfl) (da_cons (de_var 1) (da_cons (de_var 5) da_nil))))
    (dss_cons (ds_if (dt_not (dt_val (de_call C__law_alike hr (by decide) (by rfl) (da_cons (de_call C_greatest_cost hr (by decide) (by rfl) (da_cons (de_var 2) (da_cons (de_var 3) (da_cons (de_var 4) (da_cons (de_var 10) da_nil))))) (da_cons (de_call C__law_greatest hr (by decide) (by rfl) (da_cons (de_var 2) (da_cons (de_var 3) (da_cons (de_var 4) (da_cons (de_var 10) da_nil))))) da_nil))))) (dss_one (ds_ret de_bl)) dss_nil)
    (dss_cons (ds_set (i := 11) sc.nd (by rfl) (by first | exact Or.inl rfl | exact Or.inr rfl) (de_call C_due_days hr (by decide) (by rfl) (da_cons (de_var 2) (da_cons (de_var 4) (da_cons (de_var 6) da_nil)))))
    (dss_cons (ds_for PassesOwn.never (by rfl) (di_range1 (by rfl) T.b_range (de_var 5)) (dg_name (i := 12) sc.nd (by rfl) (by first | exact Or.inl rfl | exact Or.inr rfl)) (dss_cons (ds_set (i := 13) sc.nd (by rfl) (by first | exact Or.inl rfl | exact Or.inr rfl) (de_callB (r := (DV.rBest K PySem.W.minD)) (cr_minA (by rfl) (rm65 hr)) csem_best (by rfl) T.b_min PyProof.Rows.boot_min (da_cons (de_op (r := (rAddA K)) op_addA rsem_add (de_lst (da_cons (de_ix (de_var 4) (de_var 12)) da_nil)) (de_lc (own := [("_law_one", 14), ("_law_other", 15)]) (g := (gTup K 2 (gCons (gName 14) (gCons (gName 15) gNil)))) (tt := (tTest (tOp (rEqD K) (tVar 14) (tVar 12)))) (te := (tOp (rI0 fun i j => .int (i - j)) (tOp (rIx K) (tVar 11) (tVar 15)) (tOp (rIx K) (tVar 2) (tVar 15)))) (by rfl) sc.nd (di_seq (src_v 6)) (blkOk_by (N := nm_law) (sc := defScope s_law) (by decide +kernel)) (by decide) (fun _ _ _ _ _ => (dg_tup (by rfl) (dgs_cons (dg_name (i := 14) sc.nd (by rfl) (by first | exact Or.inl rfl | exact Or.inr rfl)) (dgs_cons (dg_name (i := 15) sc.nd (by rfl) (by first | exact Or.inl rfl | exact Or.inr rfl)) dgs_nil)))) (fun _ _ _ _ _ => (dts_one (dt_cmp (r := (rEqD K)) (op_eqD (rm64 hr)) rsem_eq (de_var 14) (de_var 12) (nomark _)))) (fun _ _ _ _ _ => (de_op (r := (rI0 fun i j => .int (i - j))) op_sub rs_sub (de_ix (de_var 11) (de_var 15)) (de_ix (de_var 2) (de_var 15)))))) da_nil)))
    (dss_one (ds_if (dt_cmp (r := (rNeD K)) (op_neD (rm64 hr)) rsem_ne (de_ix (de_var 11) (de_var 12)) (de_var 13) (nomark _)) (dss_one (ds_ret de_bl)) dss_nil))))
    (dss_one (ds_ret (de_cmp (r := (rEqD K)) (op_eqD (rm64 hr)) rsem_eq (de_callB (r := (DV.rBest K PySem.W.minD)) (cr_minA (by rfl) (rm65 hr)) csem_best (by rfl) T.b_min PyProof.Rows.boot_min (da_cons (de_lc (own := [("_law_order_here", 9)]) (g := (gName 9)) (tt := tYes) (te := (tCall (spFn K 3 m__law_late) [] E0 (tCons (tVar 2) (tCons (tVar 11) (tCons (tVar 9) tNil))))) (by rfl) sc.nd (di_seq (src_v 7)) (blkOk_by (N := nm_law) (sc := defScope s_law) (by decide +kernel)) (by decide) (fun _ _ _ _ _ => (dg_name (i := 9) sc.nd (by rfl) (by first | exact Or.inl rfl | exact Or.inr rfl))) (fun _ _ _ _ _ => dts_nil) (fun _ _ _ _ _ => (de_call C__law_late hr (by decide) (by rfl) (da_cons (de_var 2) (da_cons (de_var 11) (da_cons (de_var 9) da_nil)))))) da_nil)) (de_callB (r := (DV.rBest K PySem.W.minD)) (cr_minA (by rfl) (rm65 hr)) csem_best (by rfl) T.b_min PyProof.Rows.boot_min (da_cons (de_lc (own := [("_law_order_here", 9)]) (g := (gName 9)) (tt := tYes) (te := (tCall (spFn K 3 m__law_late) [] E0 (tCons (tVar 2) (tCons (tVar 4) (tCons (tVar 9) tNil))))) (by rfl) sc.nd (di_seq (src_v 7)) (blkOk_by (N := nm_law) (sc := defScope s_law) (by decide +kernel)) (by decide) (fun _ _ _ _ _ => (dg_name (i := 9) sc.nd (by rfl) (by first | exact Or.inl rfl | exact Or.inr rfl))) (fun _ _ _ _ _ => dts_nil) (fun _ _ _ _ _ => (de_call C__law_late hr (by decide) (by rfl) (da_cons (de_var 2) (da_cons (de_var 4) (da_cons (de_var 9) da_nil)))))) da_nil)) (nomark _))))))))))))))⟩) hlaw
end
theorem all_mk {l : PySem.W.OpenLaw} {w : World} {K : PySem.W.Frag} {h : Heap} {mg : Str → Option Value} {fa f1 f2 f3 f4 f5 f6 f7 f8 f9 f10 f11 f12 f13 f14 f15 f16 f17 f18 f19 f20 f21 f22 f23 f24 f25 f26 f27 f28 f29 f30 f31 : Addr} (hlaw : LawHolds) (X : K.In h) (G : h.Ns mainGlobals mg) (hfa : mg "law" = some (.ref fa))
    {od1 an1 od2 an2 od3 an3 od4 an4 od5 an5 od6 an6 od7 an7 od8 an8 od9 an9 od10 an10 od11 an11 od12 an12 od13 an13 od14 an14 od15 an15 od16 an16 od17 an17 od18 an18 od19 an19 od20 an20 od21 an21 od22 an22 od23 an23 od24 an24 od25 an25 od26 an26 od27 an27 od28 an28 od29 an29 od30 an30 od31 an31 : Option Addr} {sl1 sl2 sl3 sl4 sl5 sl6 sl7 sl8 sl9 sl10 sl11 sl12 sl13 sl14 sl15 sl16 sl17 sl18 sl19 sl20 sl21 sl22 sl23 sl24 sl25 sl26 sl27 sl28 sl29 sl30 sl31 : Array (Option Value)} {oc1 kV1 dc1 pm1 cd1 ct1 oc2 kV2 dc2 pm2 cd2 ct2 oc3 kV3 dc3 pm3 cd3 ct3 oc4 kV4 dc4 pm4 cd4 ct4 oc5 kV5 dc5 pm5 cd5 ct5 oc6 kV6 dc6 pm6 cd6 ct6 oc7 kV7 dc7 pm7 cd7 ct7 oc8 kV8 dc8 pm8 cd8 ct8 oc9 kV9 dc9 pm9 cd9 ct9 oc10 kV10 dc10 pm10 cd10 ct10 oc11 kV11 dc11 pm11 cd11 ct11 oc12 kV12 dc12 pm12 cd12 ct12 oc13 kV13 dc13 pm13 cd13 ct13 oc14 kV14 dc14 pm14 cd14 ct14 oc15 kV15 dc15 pm15 cd15 ct15 oc16 kV16 dc16 pm16 cd16 ct16 oc17 kV17 dc17 pm17 cd17 ct17 oc18 kV18 dc18 pm18 cd18 ct18 oc19 kV19 dc19 pm19 cd19 ct19 oc20 kV20 dc20 pm20 cd20 ct20 oc21 kV21 dc21 pm21 cd21 ct21 oc22 kV22 dc22 pm22 cd22 ct22 oc23 kV23 dc23 pm23 cd23 ct23 oc24 kV24 dc24 pm24 cd24 ct24 oc25 kV25 dc25 pm25 cd25 ct25 oc26 kV26 dc26 pm26 cd26 ct26 oc27 kV27 dc27 pm27 cd27 ct27 oc28 kV28 dc28 pm28 cd28 ct28 oc29 kV29 dc29 pm29 cd29 ct29 oc30 kV30 dc30 pm30 ct30 oc31 kV31 dc31 pm31 cd31 ct31 : Value}
    {cc30 pt30 : Addr} {vs30 : Array Value} {vc30 : Value} {vd30 : Option Addr} {vl30 : Array (Option Value)}
    (a1 : PySem.W.nsIn K mainGlobals "_law_alike" = some (some (.ref f1))) (l1 : K.lookup f1 = some ⟨oc1, od1, .func (PySem.W.fnOf "_law_alike" "_law_alike" (defArgs s__law_alike) (defBody s__law_alike) (defScope s__law_alike) .none kV1 dc1 pm1 an1 cd1 ct1), sl1⟩) (c1 : PySem.W.codeIn K cd1 "_law_alike" = true) (k1 : PySem.W.keepIn K (.ref f1) = true)
    (a2 : PySem.W.nsIn K mainGlobals "_law_ends" = some (some (.ref f2))) (l2 : K.lookup f2 = some ⟨oc2, od2, .func (PySem.W.fnOf "_law_ends" "_law_ends" (defArgs s__law_ends) (defBody s__law_ends) (defScope s__law_ends) .none kV2 dc2 pm2 an2 cd2 ct2), sl2⟩) (c2 : PySem.W.codeIn K cd2 "_law_ends" = true) (k2 : PySem.W.keepIn K (.ref f2) = true)
    (a3 : PySem.W.nsIn K mainGlobals "_law_greatest" = some (some (.ref f3))) (l3 : K.lookup f3 = some ⟨oc3, od3, .func (PySem.W.fnOf "_law_greatest" "_law_greatest" (defArgs s__law_greatest) (defBody s__law_greatest) (defScope s__law_greatest) .none kV3 dc3 pm3 an3 cd3 ct3), sl3⟩) (c3 : PySem.W.codeIn K cd3 "_law_greatest" = true) (k3 : PySem.W.keepIn K (.ref f3) = true)
    (a4 : PySem.W.nsIn K mainGlobals "_law_taken" = some (some (.ref f4))) (l4 : K.lookup f4 = some ⟨oc4, od4, .func (PySem.W.fnOf "_law_taken" "_law_taken" (defArgs s__law_taken) (defBody s__law_taken) (defScope s__law_taken) .none kV4 dc4 pm4 an4 cd4 ct4), sl4⟩) (c4 : PySem.W.codeIn K cd4 "_law_taken" = true) (k4 : PySem.W.keepIn K (.ref f4) = true)
    (a5 : PySem.W.nsIn K mainGlobals "_law_pick" = some (some (.ref f5))) (l5 : K.lookup f5 = some ⟨oc5, od5, .func (PySem.W.fnOf "_law_pick" "_law_pick" (defArgs s__law_pick) (defBody s__law_pick) (defScope s__law_pick) .none kV5 dc5 pm5 an5 cd5 ct5), sl5⟩) (c5 : PySem.W.codeIn K cd5 "_law_pick" = true) (k5 : PySem.W.keepIn K (.ref f5) = true)
    (a6 : PySem.W.nsIn K mainGlobals "_law_jobs" = some (some (.ref f6))) (l6 : K.lookup f6 = some ⟨oc6, od6, .func (PySem.W.fnOf "_law_jobs" "_law_jobs" (defArgs s__law_jobs) (defBody s__law_jobs) (defScope s__law_jobs) .none kV6 dc6 pm6 an6 cd6 ct6), sl6⟩) (c6 : PySem.W.codeIn K cd6 "_law_jobs" = true) (k6 : PySem.W.keepIn K (.ref f6) = true)
    (a7 : PySem.W.nsIn K mainGlobals "_law_late" = some (some (.ref f7))) (l7 : K.lookup f7 = some ⟨oc7, od7, .func (PySem.W.fnOf "_law_late" "_law_late" (defArgs s__law_late) (defBody s__law_late) (defScope s__law_late) .none kV7 dc7 pm7 an7 cd7 ct7), sl7⟩) (c7 : PySem.W.codeIn K cd7 "_law_late" = true) (k7 : PySem.W.keepIn K (.ref f7) = true)
    (a8 : PySem.W.nsIn K mainGlobals "_law_order" = some (some (.ref f8))) (l8 : K.lookup f8 = some ⟨oc8, od8, .func (PySem.W.fnOf "_law_order" "_law_order" (defArgs s__law_order) (defBody s__law_order) (defScope s__law_order) .none kV8 dc8 pm8 an8 cd8 ct8), sl8⟩) (c8 : PySem.W.codeIn K cd8 "_law_order" = true) (k8 : PySem.W.keepIn K (.ref f8) = true)
    (a9 : PySem.W.nsIn K mainGlobals "_law_orders" = some (some (.ref f9))) (l9 : K.lookup f9 = some ⟨oc9, od9, .func (PySem.W.fnOf "_law_orders" "_law_orders" (defArgs s__law_orders) (defBody s__law_orders) (defScope s__law_orders) .none kV9 dc9 pm9 an9 cd9 ct9), sl9⟩) (c9 : PySem.W.codeIn K cd9 "_law_orders" = true) (k9 : PySem.W.keepIn K (.ref f9) = true)
    (a10 : PySem.W.nsIn K mainGlobals "_law_pairs" = some (some (.ref f10))) (l10 : K.lookup f10 = some ⟨oc10, od10, .func (PySem.W.fnOf "_law_pairs" "_law_pairs" (defArgs s__law_pairs) (defBody s__law_pairs) (defScope s__law_pairs) .none kV10 dc10 pm10 an10 cd10 ct10), sl10⟩) (c10 : PySem.W.codeIn K cd10 "_law_pairs" = true) (k10 : PySem.W.keepIn K (.ref f10) = true)
    (a11 : PySem.W.nsIn K mainGlobals "is_integer" = some (some (.ref f11))) (l11 : K.lookup f11 = some ⟨oc11, od11, .func (PySem.W.fnOf "is_integer" "is_integer" (defArgs s_is_integer) (defBody s_is_integer) (defScope s_is_integer) .none kV11 dc11 pm11 an11 cd11 ct11), sl11⟩) (c11 : PySem.W.codeIn K cd11 "is_integer" = true) (k11 : PySem.W.keepIn K (.ref f11) = true)
    (a12 : PySem.W.nsIn K mainGlobals "is_in" = some (some (.ref f12))) (l12 : K.lookup f12 = some ⟨oc12, od12, .func (PySem.W.fnOf "is_in" "is_in" (defArgs s_is_in) (defBody s_is_in) (defScope s_is_in) .none kV12 dc12 pm12 an12 cd12 ct12), sl12⟩) (c12 : PySem.W.codeIn K cd12 "is_in" = true) (k12 : PySem.W.keepIn K (.ref f12) = true)
    (a13 : PySem.W.nsIn K mainGlobals "is_list" = some (some (.ref f13))) (l13 : K.lookup f13 = some ⟨oc13, od13, .func (PySem.W.fnOf "is_list" "is_list" (defArgs s_is_list) (defBody s_is_list) (defScope s_is_list) .none kV13 dc13 pm13 an13 cd13 ct13), sl13⟩) (c13 : PySem.W.codeIn K cd13 "is_list" = true) (k13 : PySem.W.keepIn K (.ref f13) = true)
    (a14 : PySem.W.nsIn K mainGlobals "first_bad" = some (some (.ref f14))) (l14 : K.lookup f14 = some ⟨oc14, od14, .func (PySem.W.fnOf "first_bad" "first_bad" (defArgs s_first_bad) (defBody s_first_bad) (defScope s_first_bad) .none kV14 dc14 pm14 an14 cd14 ct14), sl14⟩) (c14 : PySem.W.codeIn K cd14 "first_bad" = true) (k14 : PySem.W.keepIn K (.ref f14) = true)
    (a15 : PySem.W.nsIn K mainGlobals "need_dues" = some (some (.ref f15))) (l15 : K.lookup f15 = some ⟨oc15, od15, .func (PySem.W.fnOf "need_dues" "need_dues" (defArgs s_need_dues) (defBody s_need_dues) (defScope s_need_dues) .none kV15 dc15 pm15 an15 cd15 ct15), sl15⟩) (c15 : PySem.W.codeIn K cd15 "need_dues" = true) (k15 : PySem.W.keepIn K (.ref f15) = true)
    (a16 : PySem.W.nsIn K mainGlobals "able_jobs" = some (some (.ref f16))) (l16 : K.lookup f16 = some ⟨oc16, od16, .func (PySem.W.fnOf "able_jobs" "able_jobs" (defArgs s_able_jobs) (defBody s_able_jobs) (defScope s_able_jobs) .none kV16 dc16 pm16 an16 cd16 ct16), sl16⟩) (c16 : PySem.W.codeIn K cd16 "able_jobs" = true) (k16 : PySem.W.keepIn K (.ref f16) = true)
    (a17 : PySem.W.nsIn K mainGlobals "first_order" = some (some (.ref f17))) (l17 : K.lookup f17 = some ⟨oc17, od17, .func (PySem.W.fnOf "first_order" "first_order" (defArgs s_first_order) (defBody s_first_order) (defScope s_first_order) .none kV17 dc17 pm17 an17 cd17 ct17), sl17⟩) (c17 : PySem.W.codeIn K cd17 "first_order" = true) (k17 : PySem.W.keepIn K (.ref f17) = true)
    (a18 : PySem.W.nsIn K mainGlobals "need_pairs" = some (some (.ref f18))) (l18 : K.lookup f18 = some ⟨oc18, od18, .func (PySem.W.fnOf "need_pairs" "need_pairs" (defArgs s_need_pairs) (defBody s_need_pairs) (defScope s_need_pairs) .none kV18 dc18 pm18 an18 cd18 ct18), sl18⟩) (c18 : PySem.W.codeIn K cd18 "need_pairs" = true) (k18 : PySem.W.keepIn K (.ref f18) = true)
    (a19 : PySem.W.nsIn K mainGlobals "need_times" = some (some (.ref f19))) (l19 : K.lookup f19 = some ⟨oc19, od19, .func (PySem.W.fnOf "need_times" "need_times" (defArgs s_need_times) (defBody s_need_times) (defScope s_need_times) .none kV19 dc19 pm19 an19 cd19 ct19), sl19⟩) (c19 : PySem.W.codeIn K cd19 "need_times" = true) (k19 : PySem.W.keepIn K (.ref f19) = true)
    (a20 : PySem.W.nsIn K mainGlobals "due_days" = some (some (.ref f20))) (l20 : K.lookup f20 = some ⟨oc20, od20, .func (PySem.W.fnOf "due_days" "due_days" (defArgs s_due_days) (defBody s_due_days) (defScope s_due_days) .none kV20 dc20 pm20 an20 cd20 ct20), sl20⟩) (c20 : PySem.W.codeIn K cd20 "due_days" = true) (k20 : PySem.W.keepIn K (.ref f20) = true)
    (a21 : PySem.W.nsIn K mainGlobals "cost_at" = some (some (.ref f21))) (l21 : K.lookup f21 = some ⟨oc21, od21, .func (PySem.W.fnOf "cost_at" "cost_at" (defArgs s_cost_at) (defBody s_cost_at) (defScope s_cost_at) .none kV21 dc21 pm21 an21 cd21 ct21), sl21⟩) (c21 : PySem.W.codeIn K cd21 "cost_at" = true) (k21 : PySem.W.keepIn K (.ref f21) = true)
    (a22 : PySem.W.nsIn K mainGlobals "ends_in" = some (some (.ref f22))) (l22 : K.lookup f22 = some ⟨oc22, od22, .func (PySem.W.fnOf "ends_in" "ends_in" (defArgs s_ends_in) (defBody s_ends_in) (defScope s_ends_in) .none kV22 dc22 pm22 an22 cd22 ct22), sl22⟩) (c22 : PySem.W.codeIn K cd22 "ends_in" = true) (k22 : PySem.W.keepIn K (.ref f22) = true)
    (a23 : PySem.W.nsIn K mainGlobals "greatest_in" = some (some (.ref f23))) (l23 : K.lookup f23 = some ⟨oc23, od23, .func (PySem.W.fnOf "greatest_in" "greatest_in" (defArgs s_greatest_in) (defBody s_greatest_in) (defScope s_greatest_in) .none kV23 dc23 pm23 an23 cd23 ct23), sl23⟩) (c23 : PySem.W.codeIn K cd23 "greatest_in" = true) (k23 : PySem.W.keepIn K (.ref f23) = true)
    (a24 : PySem.W.nsIn K mainGlobals "is_order" = some (some (.ref f24))) (l24 : K.lookup f24 = some ⟨oc24, od24, .func (PySem.W.fnOf "is_order" "is_order" (defArgs s_is_order) (defBody s_is_order) (defScope s_is_order) .none kV24 dc24 pm24 an24 cd24 ct24), sl24⟩) (c24 : PySem.W.codeIn K cd24 "is_order" = true) (k24 : PySem.W.keepIn K (.ref f24) = true)
    (a25 : PySem.W.nsIn K mainGlobals "need_order" = some (some (.ref f25))) (l25 : K.lookup f25 = some ⟨oc25, od25, .func (PySem.W.fnOf "need_order" "need_order" (defArgs s_need_order) (defBody s_need_order) (defScope s_need_order) .none kV25 dc25 pm25 an25 cd25 ct25), sl25⟩) (c25 : PySem.W.codeIn K cd25 "need_order" = true) (k25 : PySem.W.keepIn K (.ref f25) = true)
    (a26 : PySem.W.nsIn K mainGlobals "need_weights" = some (some (.ref f26))) (l26 : K.lookup f26 = some ⟨oc26, od26, .func (PySem.W.fnOf "need_weights" "need_weights" (defArgs s_need_weights) (defBody s_need_weights) (defScope s_need_weights) .none kV26 dc26 pm26 an26 cd26 ct26), sl26⟩) (c26 : PySem.W.codeIn K cd26 "need_weights" = true) (k26 : PySem.W.keepIn K (.ref f26) = true)
    (a27 : PySem.W.nsIn K mainGlobals "need_weighed" = some (some (.ref f27))) (l27 : K.lookup f27 = some ⟨oc27, od27, .func (PySem.W.fnOf "need_weighed" "need_weighed" (defArgs s_need_weighed) (defBody s_need_weighed) (defScope s_need_weighed) .none kV27 dc27 pm27 an27 cd27 ct27), sl27⟩) (c27 : PySem.W.codeIn K cd27 "need_weighed" = true) (k27 : PySem.W.keepIn K (.ref f27) = true)
    (a28 : PySem.W.nsIn K mainGlobals "greatest_cost" = some (some (.ref f28))) (l28 : K.lookup f28 = some ⟨oc28, od28, .func (PySem.W.fnOf "greatest_cost" "greatest_cost" (defArgs s_greatest_cost) (defBody s_greatest_cost) (defScope s_greatest_cost) .none kV28 dc28 pm28 an28 cd28 ct28), sl28⟩) (c28 : PySem.W.codeIn K cd28 "greatest_cost" = true) (k28 : PySem.W.keepIn K (.ref f28) = true)
    (a29 : PySem.W.nsIn K mainGlobals "need_costs" = some (some (.ref f29))) (l29 : K.lookup f29 = some ⟨oc29, od29, .func (PySem.W.fnOf "need_costs" "need_costs" (defArgs s_need_costs) (defBody s_need_costs) (defScope s_need_costs) .none kV29 dc29 pm29 an29 cd29 ct29), sl29⟩) (c29 : PySem.W.codeIn K cd29 "need_costs" = true) (k29 : PySem.W.keepIn K (.ref f29) = true)
    (a30 : PySem.W.nsIn K mainGlobals "least_greatest" = some (some (.ref f30))) (l30 : K.lookup f30 = some ⟨oc30, od30, .func (PySem.W.fnOf "least_greatest" "least_greatest" (defArgs s_least_greatest) (defBody s_least_greatest) (defScope s_least_greatest) .none kV30 dc30 pm30 an30 (.ref cc30) ct30), sl30⟩) (c30 : PySem.W.codeIn K (.ref cc30) "least_greatest" = true) (k30 : PySem.W.keepIn K (.ref f30) = true)
    (a31 : PySem.W.nsIn K mainGlobals "law" = some (some (.ref f31))) (l31 : K.lookup f31 = some ⟨oc31, od31, .func (PySem.W.fnOf "law" "law" (defArgs s_law) (defBody s_law) (defScope s_law) .none kV31 dc31 pm31 an31 cd31 ct31), sl31⟩) (c31 : PySem.W.codeIn K cd31 "law" = true) (k31 : PySem.W.keepIn K (.ref f31) = true)
    (v30 : K.lookup cc30 = some ⟨vc30, vd30, .fields vs30, vl30⟩) (w30 : vs30[11]? = some (.ref pt30)) (d30 : PySem.W.codeHdIn K cc30 pt30 = true) (n30 : K.lookup pt30 = none) (m30 : ((tabsOf K).any fun p => p.1 == pt30 && p.2 == "least_greatest.<locals>.<lambda>") = true) (u30 : (tabsOf K).all (fun p => !(p.1 == pt30) || p.2 == "least_greatest.<locals>.<lambda>") = true)
    (tt : (tabsOf K).all (fun p => ([⟨cc30, pt30, "least_greatest.<locals>.<lambda>"⟩] : List Mk3).any fun m => m.P == p.1) = true) (own : ∀ y ∈ (["least_greatest"] : List Str), ∀ a, mg y = some (.ref a) → LamX.OwnTab K a h)
    (z0 : PySem.W.nsIn K mainGlobals "all" = some none) (z1 : PySem.W.nsIn K mainGlobals "any" = some none) (z2 : PySem.W.nsIn K mainGlobals "bool" = some none) (z3 : PySem.W.nsIn K mainGlobals "enumerate" = some none) (z4 : PySem.W.nsIn K mainGlobals "int" = some none) (z5 : PySem.W.nsIn K mainGlobals "isinstance" = some none) (z6 : PySem.W.nsIn K mainGlobals "len" = some none) (z7 : PySem.W.nsIn K mainGlobals "list" = some none) (z8 : PySem.W.nsIn K mainGlobals "max" = some none) (z9 : PySem.W.nsIn K mainGlobals "min" = some none) (z10 : PySem.W.nsIn K mainGlobals "range" = some none) (z11 : PySem.W.nsIn K mainGlobals "reversed" = some none) (z12 : PySem.W.nsIn K mainGlobals "set" = some none) (z13 : PySem.W.nsIn K mainGlobals "str" = some none) (z14 : PySem.W.nsIn K mainGlobals "sum" = some none) (z15 : PySem.W.nsIn K mainGlobals "tuple" = some none) (z16 : PySem.W.nsIn K mainGlobals "zip" = some none)
    {tk0 tk1 tk2 tk3 tk4 : Tok} (y0 : PySem.W.nsIn K mainGlobals "MOST_DAY" = some (some (.int 600 tk0))) (y1 : PySem.W.nsIn K mainGlobals "MOST_JOBS" = some (some (.int 10 tk1))) (y2 : PySem.W.nsIn K mainGlobals "MOST_PAIRS" = some (some (.int 40 tk2))) (y3 : PySem.W.nsIn K mainGlobals "MOST_TIME" = some (some (.int 60 tk3))) (y4 : PySem.W.nsIn K mainGlobals "MOST_WEIGHT" = some (some (.int 60 tk4)))
    : LamX.LawAtS l w K CX0 8 63 "_law_script" mg fa h := by
  have e := hfa.symm.trans (PySem.W.mg_of X G a31)
  cases e
  have T : Txt mg := ⟨PySem.W.mg_none_of X G z0, PySem.W.mg_none_of X G z1, PySem.W.mg_none_of X G z2, PySem.W.mg_none_of X G z3, PySem.W.mg_none_of X G z4, PySem.W.mg_none_of X G z5, PySem.W.mg_none_of X G z6, PySem.W.mg_none_of X G z7, PySem.W.mg_none_of X G z8, PySem.W.mg_none_of X G z9, PySem.W.mg_none_of X G z10, PySem.W.mg_none_of X G z11, PySem.W.mg_none_of X G z12, PySem.W.mg_none_of X G z13, PySem.W.mg_none_of X G z14, PySem.W.mg_none_of X G z15, PySem.W.mg_none_of X G z16, ⟨_, PySem.W.mg_of X G y0⟩, ⟨_, PySem.W.mg_of X G y1⟩, ⟨_, PySem.W.mg_of X G y2⟩, ⟨_, PySem.W.mg_of X G y3⟩, ⟨_, PySem.W.mg_of X G y4⟩⟩
  have F1 := fun_mk (st := s__law_alike) l1 c1 k1
  have b1 := F1.binds (ps := ["_law_found", "_law_due"]) fun _ _ _ _ _ _ us hl => match us, hl with | [_, _], _ => rfl
  have F2 := fun_mk (st := s__law_ends) l2 c2 k2
  have b2 := F2.binds (ps := ["_law_times", "_law_order_here"]) fun _ _ _ _ _ _ us hl => match us, hl with | [_, _], _ => rfl
  have F3 := fun_mk (st := s__law_greatest) l3 c3 k3
  have b3 := F3.binds (ps := ["_law_times", "_law_weights", "_law_dues", "_law_order_here"]) fun _ _ _ _ _ _ us hl => match us, hl with | [_, _, _, _], _ => rfl
  have F4 := fun_mk (st := s__law_taken) l4 c4 k4
  have b4 := F4.binds (ps := ["_law_row", "_law_many"]) fun _ _ _ _ _ _ us hl => match us, hl with | [_, _], _ => rfl
  have F5 := fun_mk (st := s__law_pick) l5 c5 k5
  have b5 := F5.binds (ps := ["_law_row", "_law_things"]) fun _ _ _ _ _ _ us hl => match us, hl with | [_, _], _ => rfl
  have F6 := fun_mk (st := s__law_jobs) l6 c6 k6
  have b6 := F6.binds (ps := ["_law_row", "_law_most", "_law_time"]) fun _ _ _ _ _ _ us hl => match us, hl with | [_, _, _], _ => rfl
  have F7 := fun_mk (st := s__law_late) l7 c7 k7
  have b7 := F7.binds (ps := ["_law_times", "_law_dues", "_law_order_here"]) fun _ _ _ _ _ _ us hl => match us, hl with | [_, _, _], _ => rfl
  have F8 := fun_mk (st := s__law_order) l8 c8 k8
  have b8 := F8.binds (ps := ["_law_row", "_law_many"]) fun _ _ _ _ _ _ us hl => match us, hl with | [_, _], _ => rfl
  have F9 := fun_mk (st := s__law_orders) l9 c9 k9
  have b9 := F9.binds (ps := ["_law_many", "_law_pairs_here"]) fun _ _ _ _ _ _ us hl => match us, hl with | [_, _], _ => rfl
  have F10 := fun_mk (st := s__law_pairs) l10 c10 k10
  have b10 := F10.binds (ps := ["_law_row", "_law_many"]) fun _ _ _ _ _ _ us hl => match us, hl with | [_, _], _ => rfl
  have F11 := fun_mk (st := s_is_integer) l11 c11 k11
  have b11 := F11.binds (ps := ["value"]) fun _ _ _ _ _ _ us hl => match us, hl with | [_], _ => rfl
  have F12 := fun_mk (st := s_is_in) l12 c12 k12
  have b12 := F12.binds (ps := ["value", "least", "most"]) fun _ _ _ _ _ _ us hl => match us, hl with | [_, _, _], _ => rfl
  have F13 := fun_mk (st := s_is_list) l13 c13 k13
  have b13 := F13.binds (ps := ["value", "least", "most"]) fun _ _ _ _ _ _ us hl => match us, hl with | [_, _, _], _ => rfl
  have F14 := fun_mk (st := s_first_bad) l14 c14 k14
  have b14 := F14.binds (ps := ["value", "many", "low", "high"]) fun _ _ _ _ _ _ us hl => match us, hl with | [_, _, _, _], _ => rfl
  have F15 := fun_mk (st := s_need_dues) l15 c15 k15
  have b15 := F15.binds (ps := ["dues", "many"]) fun _ _ _ _ _ _ us hl => match us, hl with | [_, _], _ => rfl
  have F16 := fun_mk (st := s_able_jobs) l16 c16 k16
  have b16 := F16.binds (ps := ["pairs", "done", "many"]) fun _ _ _ _ _ _ us hl => match us, hl with | [_, _, _], _ => rfl
  have F17 := fun_mk (st := s_first_order) l17 c17 k17
  have b17 := F17.binds (ps := ["pairs", "many"]) fun _ _ _ _ _ _ us hl => match us, hl with | [_, _], _ => rfl
  have F18 := fun_mk (st := s_need_pairs) l18 c18 k18
  have b18 := F18.binds (ps := ["pairs", "many"]) fun _ _ _ _ _ _ us hl => match us, hl with | [_, _], _ => rfl
  have F19 := fun_mk (st := s_need_times) l19 c19 k19
  have b19 := F19.binds (ps := ["times"]) fun _ _ _ _ _ _ us hl => match us, hl with | [_], _ => rfl
  have F20 := fun_mk (st := s_due_days) l20 c20 k20
  have b20 := F20.binds (ps := ["times", "dues", "pairs"]) fun _ _ _ _ _ _ us hl => match us, hl with | [_, _, _], _ => rfl
  have F21 := fun_mk (st := s_cost_at) l21 c21 k21
  have b21 := F21.binds (ps := ["weight", "due", "end"]) fun _ _ _ _ _ _ us hl => match us, hl with | [_, _, _], _ => rfl
  have F22 := fun_mk (st := s_ends_in) l22 c22 k22
  have b22 := F22.binds (ps := ["times", "order"]) fun _ _ _ _ _ _ us hl => match us, hl with | [_, _], _ => rfl
  have F23 := fun_mk (st := s_greatest_in) l23 c23 k23
  have b23 := F23.binds (ps := ["times", "weights", "dues", "order"]) fun _ _ _ _ _ _ us hl => match us, hl with | [_, _, _, _], _ => rfl
  have F24 := fun_mk (st := s_is_order) l24 c24 k24
  have b24 := F24.binds (ps := ["value", "many"]) fun _ _ _ _ _ _ us hl => match us, hl with | [_, _], _ => rfl
  have F25 := fun_mk (st := s_need_order) l25 c25 k25
  have b25 := F25.binds (ps := ["order", "many"]) fun _ _ _ _ _ _ us hl => match us, hl with | [_, _], _ => rfl
  have F26 := fun_mk (st := s_need_weights) l26 c26 k26
  have b26 := F26.binds (ps := ["weights", "many"]) fun _ _ _ _ _ _ us hl => match us, hl with | [_, _], _ => rfl
  have F27 := fun_mk (st := s_need_weighed) l27 c27 k27
  have b27 := F27.binds (ps := ["times", "weights"]) fun _ _ _ _ _ _ us hl => match us, hl with | [_, _], _ => rfl
  have F28 := fun_mk (st := s_greatest_cost) l28 c28 k28
  have b28 := F28.binds (ps := ["times", "weights", "dues", "order"]) fun _ _ _ _ _ _ us hl => match us, hl with | [_, _, _, _], _ => rfl
  have F29 := fun_mk (st := s_need_costs) l29 c29 k29
  have b29 := F29.binds (ps := ["times", "weights", "dues", "pairs"]) fun _ _ _ _ _ _ us hl => match us, hl with | [_, _, _, _], _ => rfl
  have F30 := fun_mk (st := s_least_greatest) l30 c30 k30
  have b30 := F30.binds (ps := ["times", "weights", "dues", "pairs"]) fun _ _ _ _ _ _ us hl => match us, hl with | [_, _, _, _], _ => rfl
  have F31 := fun_mk (st := s_law) l31 c31 k31
  have each : ∀ {R : Addr × Addr → Prop}, R (cc30, pt30) → ∀ p ∈ ([(cc30, pt30)] : List (Addr × Addr)), R p := fun {R} r30 p hp => by
    simp only [List.mem_cons, List.not_mem_nil, or_false] at hp
    rcases hp with rfl
    · exact r30
  refine ⟨PySem.W.fnOf "law" "law" (defArgs s_law) (defBody s_law) (defScope s_law) .none kV31 dc31 pm31 an31 cd31 ct31, [(cc30, pt30)], spLaw K, each (own "least_greatest" (by decide) _ (PySem.W.mg_of X G a30) cc30 pt30 _ _ _ _ _ _ l30 rfl rfl v30 w30), each n30, each (PySem.W.codeHd_of_K X d30), fun s v => .of_eq rfl, fun H a ns hl _ hT hS => ⟨a, ns, rfl, tabs_of tt (fun m hm => ?_), hS, hl, fun _ => rfl⟩, fun base _ _ hB => ?_⟩
  · simp only [List.mem_cons, List.not_mem_nil, or_false] at hm
    rcases hm with rfl
    · exact hT (cc30, pt30) (by simp)
  have G30 : LamFn K mg base _ "least_greatest.<locals>.<lambda>" pt30 := ⟨⟨cc30, hB (cc30, pt30) (by simp), (rfl : (PySem.W.fnOf "least_greatest" "least_greatest" (defArgs s_least_greatest) (defBody s_least_greatest) (defScope s_least_greatest) .none kV30 dc30 pm30 an30 (.ref cc30) ct30).code = .ref cc30)⟩, mem_of_ m30, uni_of u30⟩
  have C__law_alike : Cal l.prog w K mg base "_law_alike" 6 ["_law_found", "_law_due"] 2 m__law_alike := ⟨_, _, okr__law_alike F1 T (PySem.W.mg_of X G a1) k1 b1  5, PySem.W.mg_of X G a1, k1, b1⟩
  have C__law_ends : Cal l.prog w K mg base "_law_ends" 1 ["_law_times", "_law_order_here"] 2 m__law_ends := ⟨_, _, ok__law_ends F2 T , PySem.W.mg_of X G a2, k2, b2⟩
  have C__law_greatest : Cal l.prog w K mg base "_law_greatest" 2 ["_law_times", "_law_weights", "_law_dues", "_law_order_here"] 4 m__law_greatest := ⟨_, _, ok__law_greatest F3 T C__law_ends, PySem.W.mg_of X G a3, k3, b3⟩
  have C__law_taken : Cal l.prog w K mg base "_law_taken" 1 ["_law_row", "_law_many"] 2 m__law_taken := ⟨_, _, ok__law_taken F4 T , PySem.W.mg_of X G a4, k4, b4⟩
  have C__law_pick : Cal l.prog w K mg base "_law_pick" 2 ["_law_row", "_law_things"] 2 m__law_pick := ⟨_, _, ok__law_pick F5 T C__law_taken, PySem.W.mg_of X G a5, k5, b5⟩
  have C__law_jobs : Cal l.prog w K mg base "_law_jobs" 3 ["_law_row", "_law_most", "_law_time"] 3 m__law_jobs := ⟨_, _, ok__law_jobs F6 T C__law_taken C__law_pick, PySem.W.mg_of X G a6, k6, b6⟩
  have C__law_late : Cal l.prog w K mg base "_law_late" 2 ["_law_times", "_law_dues", "_law_order_here"] 3 m__law_late := ⟨_, _, ok__law_late F7 T C__law_ends, PySem.W.mg_of X G a7, k7, b7⟩
  have C__law_order : Cal l.prog w K mg base "_law_order" 2 ["_law_row", "_law_many"] 2 m__law_order := ⟨_, _, ok__law_order F8 T C__law_taken, PySem.W.mg_of X G a8, k8, b8⟩
  have C__law_orders : Cal l.prog w K mg base "_law_orders" 1 ["_law_many", "_law_pairs_here"] 2 m__law_orders := ⟨_, _, ok__law_orders F9 T , PySem.W.mg_of X G a9, k9, b9⟩
  have C__law_pairs : Cal l.prog w K mg base "_law_pairs" 3 ["_law_row", "_law_many"] 2 m__law_pairs := ⟨_, _, ok__law_pairs F10 T C__law_order C__law_pick C__law_taken, PySem.W.mg_of X G a10, k10, b10⟩
  have C_is_integer : Cal l.prog w K mg base "is_integer" 1 ["value"] 1 m_is_integer := ⟨_, _, ok_is_integer F11 T , PySem.W.mg_of X G a11, k11, b11⟩
  have C_is_in : Cal l.prog w K mg base "is_in" 2 ["value", "least", "most"] 3 m_is_in := ⟨_, _, ok_is_in F12 T C_is_integer, PySem.W.mg_of X G a12, k12, b12⟩
  have C_is_list : Cal l.prog w K mg base "is_list" 1 ["value", "least", "most"] 3 m_is_list := ⟨_, _, ok_is_list F13 T , PySem.W.mg_of X G a13, k13, b13⟩
  have C_first_bad : Cal l.prog w K mg base "first_bad" 3 ["value", "many", "low", "high"] 4 m_first_bad := ⟨_, _, ok_first_bad F14 T C_is_list C_is_in, PySem.W.mg_of X G a14, k14, b14⟩
  have C_need_dues : Cal l.prog w K mg base "need_dues" 4 ["dues", "many"] 2 m_need_dues := ⟨_, _, ok_need_dues F15 T C_first_bad, PySem.W.mg_of X G a15, k15, b15⟩
  have C_able_jobs : Cal l.prog w K mg base "able_jobs" 1 ["pairs", "done", "many"] 3 m_able_jobs := ⟨_, _, ok_able_jobs F16 T , PySem.W.mg_of X G a16, k16, b16⟩
  have C_first_order : Cal l.prog w K mg base "first_order" 2 ["pairs", "many"] 2 m_first_order := ⟨_, _, ok_first_order F17 T C_able_jobs, PySem.W.mg_of X G a17, k17, b17⟩
  have C_need_pairs : Cal l.prog w K mg base "need_pairs" 3 ["pairs", "many"] 2 m_need_pairs := ⟨_, _, ok_need_pairs F18 T C_is_list C_is_in C_first_order, PySem.W.mg_of X G a18, k18, b18⟩
  have C_need_times : Cal l.prog w K mg base "need_times" 4 ["times"] 1 m_need_times := ⟨_, _, ok_need_times F19 T C_is_list C_first_bad, PySem.W.mg_of X G a19, k19, b19⟩
  have C_due_days : Cal l.prog w K mg base "due_days" 5 ["times", "dues", "pairs"] 3 m_due_days := ⟨_, _, ok_due_days F20 T C_need_times C_need_dues C_need_pairs, PySem.W.mg_of X G a20, k20, b20⟩
  have C_cost_at : Cal l.prog w K mg base "cost_at" 1 ["weight", "due", "end"] 3 m_cost_at := ⟨_, _, ok_cost_at F21 T , PySem.W.mg_of X G a21, k21, b21⟩
  have C_ends_in : Cal l.prog w K mg base "ends_in" 1 ["times", "order"] 2 m_ends_in := ⟨_, _, ok_ends_in F22 T , PySem.W.mg_of X G a22, k22, b22⟩
  have C_greatest_in : Cal l.prog w K mg base "greatest_in" 2 ["times", "weights", "dues", "order"] 4 m_greatest_in := ⟨_, _, ok_greatest_in F23 T C_ends_in C_cost_at, PySem.W.mg_of X G a23, k23, b23⟩
  have C_is_order : Cal l.prog w K mg base "is_order" 3 ["value", "many"] 2 m_is_order := ⟨_, _, ok_is_order F24 T C_is_list C_is_in, PySem.W.mg_of X G a24, k24, b24⟩
  have C_need_order : Cal l.prog w K mg base "need_order" 4 ["order", "many"] 2 m_need_order := ⟨_, _, ok_need_order F25 T C_is_order, PySem.W.mg_of X G a25, k25, b25⟩
  have C_need_weights : Cal l.prog w K mg base "need_weights" 4 ["weights", "many"] 2 m_need_weights := ⟨_, _, ok_need_weights F26 T C_first_bad, PySem.W.mg_of X G a26, k26, b26⟩
  have C_need_weighed : Cal l.prog w K mg base "need_weighed" 5 ["times", "weights"] 2 m_need_weighed := ⟨_, _, ok_need_weighed F27 T C_need_times C_need_weights, PySem.W.mg_of X G a27, k27, b27⟩
  have C_greatest_cost : Cal l.prog w K mg base "greatest_cost" 6 ["times", "weights", "dues", "order"] 4 m_greatest_cost := ⟨_, _, ok_greatest_cost F28 T C_need_weighed C_need_dues C_need_order C_greatest_in, PySem.W.mg_of X G a28, k28, b28⟩
  have C_need_costs : Cal l.prog w K mg base "need_costs" 6 ["times", "weights", "dues", "pairs"] 4 m_need_costs := ⟨_, _, ok_need_costs F29 T C_need_weighed C_need_dues C_need_pairs, PySem.W.mg_of X G a29, k29, b29⟩
  have C_least_greatest : Cal l.prog w K mg base "least_greatest" 7 ["times", "weights", "dues", "pairs"] 4 m_least_greatest := ⟨_, _, ok_least_greatest F30 T G30 C_need_costs C_cost_at, PySem.W.mg_of X G a30, k30, b30⟩
  exact ok_law hlaw F31 T C__law_jobs C__law_pairs C__law_orders C_least_greatest C_greatest_cost C__law_greatest C__law_order C__law_alike C_due_days C__law_late
end Lk06

namespace DV
open PySem L2
def Gives {α : Type} (m : M α) (P : α → Prop) : Prop := ∀ rs, ∃ a rs', m rs = some (a, rs') ∧ P a
section
variable {α β : Type} {m : M α} {f : α → M β} {P Q : α → Prop} {P' : β → Prop} {a : α}
theorem Gives.ret (h : P a) : Gives (ret a) P := fun rs => ⟨a, rs, rfl, h⟩
theorem Gives.bnd (h : Gives m P) (k : ∀ a, P a → Gives (f a) P') : Gives (bnd m f) P' := fun rs => by
  obtain ⟨a, rs1, e, h1⟩ := h rs
  obtain ⟨b, rs2, e2, h2⟩ := k a h1 rs1
  exact ⟨b, rs2, by unfold DV.bnd; rw [e]; exact e2, h2⟩
theorem Gives.mono (h : Gives m P) (k : ∀ a, P a → Q a) : Gives m Q := fun rs => by
  obtain ⟨a, rs1, e, h1⟩ := h rs
  exact ⟨a, rs1, e, k a h1⟩
theorem Gives.eq {m' : M α} (e : m = m') (h : Gives m' P) : Gives m P := by rw [e]; exact h
theorem bnd_ret (a : α) (f : α → M β) : bnd (ret a) f = f a := rfl
theorem lft_s (a : α) : lft (some a) = ret a := rfl
theorem bnd_bnd {γ : Type} (m : M α) (f : α → M β) (g : β → M γ) : bnd (bnd m f) g = bnd m fun a => bnd (f a) g := by
  funext rs
  unfold bnd
  cases m rs with
  | none => rfl
  | some p => rfl
inductive All2 (P : α → β → Prop) : List α → List β → Prop
  | nil : All2 P [] []
  | cons {x : α} {y : β} {xs : List α} {ys : List β} : P x y → All2 P xs ys → All2 P (x :: xs) (y :: ys)
theorem All2.len {P : α → β → Prop} : ∀ {xs : List α} {ys : List β}, All2 P xs ys → xs.length = ys.length
  | _, _, .nil => rfl
  | _, _, .cons _ t => congrArg (· + 1) (All2.len t)
theorem Gives.loop {tg : D → Env → Option Env} {body : Env → M Out} {Q : Out → Prop} : ∀ (its : List D) (I : List D → Env → Prop) (ρ : Env), I its ρ →
    (∀ x xs ρ, I (x :: xs) ρ → ∃ ρ1, tg x ρ = some ρ1 ∧ Gives (body ρ1) fun o => match o with
      | .nx ρ2 => I xs ρ2
      | .ct ρ2 => I xs ρ2
      | .bk ρ2 => Q (.nx ρ2)
      | .rt r => Q (.rt r)) → (∀ ρ, I [] ρ → Q (.nx ρ)) → Gives (loopF tg body its ρ) Q
  | [], I, ρ, h, _, hd => Gives.ret (hd ρ h)
  | x :: xs, I, ρ, h, hs, hd => by
    obtain ⟨ρ1, e1, g1⟩ := hs x xs ρ h
    unfold loopF
    rw [e1, lft_s, bnd_ret]
    refine Gives.bnd g1 fun o ho => ?_
    cases o with
    | nx ρ2 => exact Gives.loop xs I ρ2 ho hs hd
    | ct ρ2 => exact Gives.loop xs I ρ2 ho hs hd
    | bk ρ2 => exact Gives.ret ho
    | rt r => exact Gives.ret ho
theorem Gives.while {t : Env → M Bool} {body : Env → M Out} {Q : Out → Prop} (I : Nat → Env → Prop)
    (hs : ∀ k ρ, I k ρ → ∃ b : Bool, t ρ = DV.ret b ∧ (b = false → Q (.nx ρ)) ∧ (b = true → ∃ j, k = j + 1 ∧ Gives (body ρ) fun o => match o with
      | .nx ρ2 => I j ρ2
      | .ct ρ2 => I j ρ2
      | .bk ρ2 => Q (.nx ρ2)
      | .rt r => Q (.rt r))) : ∀ (k n : Nat) (ρ : Env), k < n → I k ρ → Gives (wloopF t body n ρ) Q
  | k, 0, _, hn, _ => absurd hn (Nat.not_lt_zero _)
  | k, n + 1, ρ, hn, h => by
    obtain ⟨b, e, h1, h2⟩ := hs k ρ h
    unfold wloopF
    rw [e, bnd_ret]
    cases b with
    | false => exact Gives.ret (h1 rfl)
    | true =>
      obtain ⟨j, rfl, g⟩ := h2 rfl
      rw [if_pos rfl]
      refine Gives.bnd g fun o ho => ?_
      cases o with
      | nx ρ2 => exact Gives.while I hs j n ρ2 (by omega) ho
      | ct ρ2 => exact Gives.while I hs j n ρ2 (by omega) ho
      | bk ρ2 => exact Gives.ret ho
      | rt r => exact Gives.ret ho
/-- a comprehension without a test: each item gives one -/
theorem Gives.lc {tg : D → Env → Option Env} {el : Env → M RV} {ρ : Env} {P : D → D → Prop} : ∀ (its : List D), (∀ x ∈ its, ∃ ρ1, tg x ρ = some ρ1 ∧ Gives (el ρ1) fun r => ∃ d, toD r = some d ∧ P x d) →
    Gives (lcF tg tTrue el ρ its) fun ds => All2 P its ds
  | [], _ => Gives.ret .nil
  | x :: xs, h => by
    obtain ⟨ρ1, e1, g1⟩ := h x List.mem_cons_self
    unfold lcF
    rw [e1, lft_s, bnd_ret]
    show Gives (DV.bnd (el ρ1) _) _
    refine Gives.bnd g1 fun r ⟨d, hd, hp⟩ => ?_
    rw [hd, lft_s, bnd_ret]
    refine Gives.bnd (Gives.lc xs fun y hy => h y (List.mem_cons_of_mem _ hy)) fun ds hds => Gives.ret (.cons hp hds)
/-- a comprehension of plain functions -/
theorem lc_eq {tg : D → Env → Option Env} {t : Env → M Bool} {el : Env → M RV} {ρ : Env} (p : D → Bool) (f : D → D) : ∀ (its : List D), (∀ x ∈ its, ∃ ρ1, tg x ρ = some ρ1 ∧ t ρ1 = DV.ret (p x) ∧ (p x = true → ∃ r, el ρ1 = DV.ret r ∧ toD r = some (f x))) →
    lcF tg t el ρ its = DV.ret ((its.filter p).map f)
  | [], _ => rfl
  | x :: xs, h => by
    obtain ⟨ρ1, e1, e2, e3⟩ := h x List.mem_cons_self
    unfold lcF
    rw [e1, lft_s, bnd_ret, e2, bnd_ret, lc_eq p f xs fun y hy => h y (List.mem_cons_of_mem _ hy)]
    cases hp : p x with
    | false =>
      rw [if_neg (by decide), List.filter_cons_of_neg (by rw [hp]; decide)]
    | true =>
      obtain ⟨r, er, ed⟩ := e3 hp
      rw [if_pos rfl, List.filter_cons_of_pos hp, er, bnd_ret, ed, lft_s, bnd_ret, bnd_ret]
      rfl
end
section
variable {ρ ρ' : Env} {rs rs' rs1 rs2 : RS} {x y z : RV} {f h : Env → M RV} {g k : Env → M Out}
theorem e2_at {gg : RV → RV → Option RV} (h1 : f ρ rs = some (x, rs1)) (h2 : h ρ rs1 = some (y, rs2)) (h3 : gg x y = some z) : e2 gg f h ρ rs = some (z, rs2) := by
  unfold e2 bnd
  simp only [h1, h2, h3]
  rfl
theorem sSeq_at (h1 : g ρ rs = some (.nx ρ', rs')) : sSeq g k ρ rs = k ρ' rs' := by
  unfold sSeq bnd
  simp only [h1]
theorem sSeq_rt (h1 : g ρ rs = some (.rt x, rs')) : sSeq g k ρ rs = some (.rt x, rs') := by
  unfold sSeq bnd
  simp only [h1]
  rfl
theorem sIf_at {t : Env → M Bool} {b : Bool} (h1 : t ρ rs = some (b, rs')) : sIf t g k ρ rs = if b = true then g ρ rs' else k ρ rs' := by
  unfold sIf bnd
  simp only [h1]
  split <;> rfl
theorem sSet_at {i : Nat} {sv : SV} (h1 : f ρ rs = some (x, rs')) (h2 : toS x = some sv) : sSet i f ρ rs = some (.nx (ρ.set i (some sv)), rs') := by
  unfold sSet bnd
  simp only [h1, h2]
  rfl
theorem sRet_at (h1 : f ρ rs = some (x, rs')) (h2 : toRet x = some y) : sRet f ρ rs = some (.rt y, rs') := by
  unfold sRet bnd
  simp only [h1, h2]
  rfl
theorem sRowPut_at {i j : Nat} {v : Int} (h1 : f ρ rs = some (.d (.int v), rs1)) (h2 : vget ρ i = some .row) (h3 : rowPut j v rs1 = some rs2) : sRowPut i j f ρ rs = some (.nx ρ, rs2) := by
  unfold sRowPut bnd
  simp only [h1, h2]
  show (match rowPut j v rs1 with | some rs' => some (Out.nx ρ, rs') | none => none) = _
  rw [h3]
theorem gMod_eq {i j : Int} (h : 0 < j) : gMod (.d (.int i)) (.d (.int j)) = some (.d (.int (i % j))) := by
  show (if cPos i j = true then some (RV.d (.int (i % j))) else none) = _
  rw [if_pos (show cPos i j = true from decide_eq_true h)]
theorem gFdiv_eq {i j : Int} (h : 0 < j) (h1 : j < 1073741824) : gFdiv (.d (.int i)) (.d (.int j)) = some (.d (.int (i / j))) := by
  show (if cDiv i j = true then some (RV.d (.int (i / j))) else none) = _
  rw [if_pos (by simp [cDiv, h, h1])]
theorem gMulI_eq {i j : Int} (h : cMul i j = true) : gMulA (.d (.int i)) (.d (.int j)) = some (.d (.int (i * j))) := by
  show (if cMul i j = true then some (RV.d (.int (i * j))) else none) = _
  rw [if_pos h]
theorem cMul_r {i j : Int} (h1 : -18446744073709551616 < j) (h2 : j < 18446744073709551616) : cMul i j = true := by
  unfold cMul
  simp [h1, h2]
theorem cMul_l {i j : Int} (h1 : -18446744073709551616 < i) (h2 : i < 18446744073709551616) : cMul i j = true := by
  unfold cMul
  simp [h1, h2]
end
end DV
namespace DVL
open PySem L2 DV
theorem taken_at (many : Int) (h0 : 0 < many) (h1 : many < 1073741824) (rs : RS) : ∃ rs' x, g__law_taken [some .row, some (.d (.int many)), none, none] rs = some (.rt (.d (.int (x % many))), rs') := by
  obtain ⟨ns, i, s, c⟩ := rs
  unfold g__law_taken
  by_cases hc : 0 < c
  · refine ⟨⟨ns, i, s, c / many⟩, c, ?_⟩
    refine sSeq_rt ?_
    rw [sIf_at (b := decide (0 < c)) (rs' := ⟨ns, i, s, c⟩) rfl, if_pos (decide_eq_true hc)]
    rw [sSeq_at (sSet_at (e2_at (gg := gMod) (x := .d (.int c)) (y := .d (.int many)) rfl rfl (gMod_eq h0)) rfl)]
    rw [sSeq_at (sRowPut_at (rs2 := ⟨ns, i, s, c / many⟩) (e2_at (gg := gFdiv) (x := .d (.int c)) (y := .d (.int many)) rfl rfl (gFdiv_eq h0 h1)) rfl rfl)]
    rfl
  · have p7 : (0 : Int) < 2147483647 := by decide
    have hn : sIf (eT (e2 gGt (eRow 0 3) (eC (.int 0)))) (sSeq (sSet 2 (e2 gMod (eCall gInt (aCons (eRow 0 3) aNil)) (eVar 1))) (sSeq (sRowPut 0 3 (e2 gFdiv (eRow 0 3) (eVar 1))) (sRetV 2))) sNil [some .row, some (.d (.int many)), none, none] ⟨ns, i, s, c⟩ = some (.nx [some .row, some (.d (.int many)), none, none], ⟨ns, i, s, c⟩) := by
      rw [sIf_at (b := decide (0 < c)) (rs' := ⟨ns, i, s, c⟩) rfl, if_neg (by simpa using hc)]
      rfl
    rw [sSeq_at hn]
    have hi : rowPut 1 ((i : Int) + 1) ⟨ns, i, s, c⟩ = some ⟨ns, i + 1, s, c⟩ := by
      show (if 0 ≤ (i : Int) + 1 then some (⟨ns, ((i : Int) + 1).toNat, s, c⟩ : RS) else none) = _
      rw [if_pos (by omega)]
      have : ((i : Int) + 1).toNat = i + 1 := by omega
      rw [this]
    rw [sSeq_at (sRowPut_at (rs2 := ⟨ns, i + 1, s, c⟩) (v := (i : Int) + 1) rfl rfl hi)]
    have hlen : (ns.map PyData.int).length = ns.length := List.length_map ..
    by_cases hl : (((ns.map PyData.int).length : Nat) : Int) < ((i + 1 : Nat) : Int)
    · refine ⟨⟨ns, i + 1, (s * 48271 + 11) % 2147483647, c⟩, (s * 48271 + 11) % 2147483647 / 7, ?_⟩
      refine sSeq_rt ?_
      rw [sIf_at (b := decide ((((ns.map PyData.int).length : Nat) : Int) < ((i + 1 : Nat) : Int))) (rs' := ⟨ns, i + 1, s, c⟩) rfl, if_pos (decide_eq_true hl)]
      rw [sSeq_at (sRowPut_at (rs2 := ⟨ns, i + 1, (s * 48271 + 11) % 2147483647, c⟩) (v := (s * 48271 + 11) % 2147483647) (e2_at (gg := gMod) (x := .d (.int (s * 48271 + 11))) (y := .d (.int 2147483647)) (by
        show DV.bnd (DV.bnd (e2 gAddA (e2 gMulA (eRow 0 2) (eC (.int 48271))) (eC (.int 11)) _) _) _ _ = _
        unfold DV.bnd
        rw [e2_at (gg := gAddA) (x := .d (.int (s * 48271))) (y := .d (.int 11)) (z := .d (.int (s * 48271 + 11))) (e2_at (gg := gMulA) (x := .d (.int s)) (y := .d (.int 48271)) rfl rfl (gMulI_eq (cMul_r (by decide) (by decide)))) rfl rfl]
        rfl) rfl (gMod_eq p7)) rfl rfl)]
      refine sRet_at (e2_at (gg := gMod) (x := .d (.int ((s * 48271 + 11) % 2147483647 / 7))) (y := .d (.int many)) (by
        show DV.bnd (DV.bnd (e2 gFdiv (eRow 0 2) (eC (.int 7)) _) _) _ _ = _
        unfold DV.bnd
        rw [e2_at (gg := gFdiv) (x := .d (.int ((s * 48271 + 11) % 2147483647))) (y := .d (.int 7)) rfl rfl (gFdiv_eq (by decide) (by decide))]
        rfl) rfl (gMod_eq h0)) rfl
    · have hlt : i < ns.length := by omega
      have hg : (ns.map PyData.int)[i]? = some (.int ns[i]) := by
        rw [List.getElem?_map, List.getElem?_eq_getElem hlt]
        rfl
      have hnn : sIf (eT (e2 gGt (eRow 0 1) (eCall gLen (aCons (eRow 0 0) aNil)))) (sSeq (sRowPut 0 2 (e2 gMod (eCall gInt (aCons (e2 gAddA (e2 gMulA (eRow 0 2) (eC (.int 48271))) (eC (.int 11))) aNil)) (eC (.int 2147483647)))) (sRet (e2 gMod (eCall gInt (aCons (e2 gFdiv (eRow 0 2) (eC (.int 7))) aNil)) (eVar 1)))) sNil [some .row, some (.d (.int many)), none, none] ⟨ns, i + 1, s, c⟩ = some (.nx [some .row, some (.d (.int many)), none, none], ⟨ns, i + 1, s, c⟩) := by
        rw [sIf_at (b := decide ((((ns.map PyData.int).length : Nat) : Int) < ((i + 1 : Nat) : Int))) (rs' := ⟨ns, i + 1, s, c⟩) rfl, if_neg (by simpa using hl)]
        rfl
      rw [sSeq_at hnn]
      have hix : gIx (.d (.list (ns.map PyData.int))) (.d (.int (((i + 1 : Nat) : Int) - 1))) = some (.d (.int ns[i])) := by
        show (atI (ns.map PyData.int) (((i + 1 : Nat) : Int) - 1)).map RV.d = _
        have e1 : (((i + 1 : Nat) : Int) - 1) = (i : Int) := by omega
        rw [e1, atI_nat hg]
        rfl
      rw [sSeq_at (sSet_at (sv := .d (.int ns[i])) (e2_at (gg := gIx) (x := .d (.list (ns.map PyData.int))) (y := .d (.int (((i + 1 : Nat) : Int) - 1))) rfl rfl hix) rfl)]
      rw [sSeq_at (sRowPut_at (rs2 := ⟨ns, i + 1, (s * 48271 + ns[i] + 11) % 2147483647, c⟩) (v := (s * 48271 + ns[i] + 11) % 2147483647) (e2_at (gg := gMod) (x := .d (.int (s * 48271 + ns[i] + 11))) (y := .d (.int 2147483647)) (by
        show DV.bnd (DV.bnd (e2 gAddA (e2 gAddA (e2 gMulA (eRow 0 2) (eC (.int 48271))) (eVar 3)) (eC (.int 11)) _) _) _ _ = _
        unfold DV.bnd
        rw [e2_at (gg := gAddA) (x := .d (.int (s * 48271 + ns[i]))) (y := .d (.int 11)) (z := .d (.int (s * 48271 + ns[i] + 11))) (e2_at (gg := gAddA) (x := .d (.int (s * 48271))) (y := .d (.int ns[i])) (e2_at (gg := gMulA) (x := .d (.int s)) (y := .d (.int 48271)) rfl rfl (gMulI_eq (cMul_r (by decide) (by decide)))) rfl rfl) rfl rfl]
        rfl) rfl (gMod_eq p7)) rfl rfl)]
      have hp : e2 gPow (eC (.int 10)) (eC (.int 18)) [some .row, some (.d (.int many)), none, some (SV.d (.int ns[i]))] ⟨ns, i + 1, (s * 48271 + ns[i] + 11) % 2147483647, c⟩ = some (.d (.int (1000000000000000000 : Int)), ⟨ns, i + 1, (s * 48271 + ns[i] + 11) % 2147483647, c⟩) := by
        refine e2_at rfl rfl ?_
        show (if cPow 10 18 = true then some (RV.d (.int ((10 : Int) ^ (18 : Int).toNat))) else none) = _
        rw [if_pos (by decide +kernel)]
        rfl
      have fin : ∀ c', sRet (e2 gMod (eCall gInt (aCons (eVar 3) aNil)) (eVar 1)) [some .row, some (.d (.int many)), none, some (SV.d (.int ns[i]))] ⟨ns, i + 1, (s * 48271 + ns[i] + 11) % 2147483647, c'⟩ = some (.rt (.d (.int (ns[i] % many))), ⟨ns, i + 1, (s * 48271 + ns[i] + 11) % 2147483647, c'⟩) := fun c' =>
        sRet_at (e2_at (gg := gMod) (x := .d (.int ns[i])) (y := .d (.int many)) rfl rfl (gMod_eq h0)) rfl
      have hge : (eT (e2 gGe (eVar 3) (e2 gPow (eC (.int 10)) (eC (.int 18))))) [some .row, some (.d (.int many)), none, some (SV.d (.int ns[i]))] ⟨ns, i + 1, (s * 48271 + ns[i] + 11) % 2147483647, c⟩ = some (decide ((1000000000000000000 : Int) ≤ ns[i]), ⟨ns, i + 1, (s * 48271 + ns[i] + 11) % 2147483647, c⟩) := by
        unfold eT
        unfold DV.bnd
        rw [e2_at (gg := gGe) (x := .d (.int ns[i])) rfl hp rfl]
        rfl
      by_cases hb : (1000000000000000000 : Int) ≤ ns[i]
      · refine ⟨⟨ns, i + 1, (s * 48271 + ns[i] + 11) % 2147483647, ns[i] / many⟩, ns[i], ?_⟩
        rw [sSeq_at (rs' := ⟨ns, i + 1, (s * 48271 + ns[i] + 11) % 2147483647, ns[i] / many⟩) (by
          show sIf _ _ _ [some .row, some (.d (.int many)), none, some (SV.d (.int ns[i]))] _ = _
          rw [sIf_at hge, if_pos (decide_eq_true hb)]
          exact sRowPut_at (e2_at (gg := gFdiv) (x := .d (.int ns[i])) (y := .d (.int many)) rfl rfl (gFdiv_eq h0 h1)) rfl rfl)]
        exact fin _
      · refine ⟨⟨ns, i + 1, (s * 48271 + ns[i] + 11) % 2147483647, c⟩, ns[i], ?_⟩
        rw [sSeq_at (rs' := ⟨ns, i + 1, (s * 48271 + ns[i] + 11) % 2147483647, c⟩) (by
          show sIf _ _ _ [some .row, some (.d (.int many)), none, some (SV.d (.int ns[i]))] _ = _
          rw [sIf_at hge, if_neg (by simpa using hb)]
          rfl)]
        exact fin _
theorem taken_eq (many : Int) (h0 : 0 < many) (h1 : many < 1073741824) : Gives (m__law_taken [.row, .d (.int many)]) fun r => ∃ i : Int, r = .d (.int i) ∧ 0 ≤ i ∧ i < many := by
  intro rs
  obtain ⟨rs', x, e⟩ := taken_at many h0 h1 rs
  refine ⟨_, rs', ?_, _, rfl, Int.emod_nonneg x (by omega), Int.emod_lt_of_pos x h0⟩
  show DV.bnd (g__law_taken [some .row, some (.d (.int many)), none, none]) _ rs = _
  unfold DV.bnd
  rw [e]
  rfl
end DVL
namespace DV
open PySem L2
section
variable {α : Type} {ρ : Env} {P : RV → Prop} {Q : Out → Prop} {PA : List RV → Prop} {PB : Bool → Prop} {f h k : Env → M RV} {fa : Env → M (List RV)} {g g2 : Env → M Out} {t t2 : Env → M Bool} {x : RV}
theorem gv_eq {m : M α} {P : α → Prop} {a : α} (e : m = ret a) (p : P a) : Gives m P := by rw [e]; exact Gives.ret p
theorem gv_var {i : Nat} (e : vget ρ i = some x) (p : P x) : Gives (eVar i ρ) P := gv_eq (by unfold eVar; rw [e]; rfl) p
theorem gv_c {d : D} (p : P (.d d)) : Gives (eC d ρ) P := Gives.ret p
theorem gv_e2 {gg : RV → RV → Option RV} (p : Gives (f ρ) fun x => Gives (h ρ) fun y => ∃ z, gg x y = some z ∧ P z) : Gives (e2 gg f h ρ) P :=
  Gives.bnd p fun x q => Gives.bnd q fun y ⟨z, e, pz⟩ => by rw [e, lft_s]; exact Gives.ret pz
theorem gv_nil (p : PA []) : Gives (aNil ρ) PA := Gives.ret p
theorem gv_cons (p : Gives (f ρ) fun x => Gives (fa ρ) fun xs => PA (x :: xs)) : Gives (aCons f fa ρ) PA := Gives.bnd p fun x q => Gives.bnd q fun xs r => Gives.ret r
theorem gv_star (p : Gives (f ρ) fun x => ∃ ds, items x = some ds ∧ Gives (fa ρ) fun xs => PA (ds.map RV.d ++ xs)) : Gives (aStar f fa ρ) PA :=
  Gives.bnd p fun x ⟨ds, e, q⟩ => by rw [e, lft_s, bnd_ret]; exact Gives.bnd q fun xs r => Gives.ret r
theorem gv_call {gg : List RV → Option RV} (p : Gives (fa ρ) fun xs => ∃ z, gg xs = some z ∧ P z) : Gives (eCall gg fa ρ) P := Gives.bnd p fun xs ⟨z, e, pz⟩ => by rw [e, lft_s]; exact Gives.ret pz
theorem gv_fn {m : List RV → M RV} {n : Nat} (p : Gives (fa ρ) fun xs => xs.length = n ∧ Gives (m (xs.map readable)) P) : Gives (eFn (fun xs => if xs.length = n then m xs else fail) fa ρ) P :=
  Gives.bnd p fun xs ⟨e, q⟩ => by
    show Gives (if (xs.map readable).length = n then m (xs.map readable) else fail) P
    rw [if_pos (by rw [List.length_map]; exact e)]
    exact q
theorem gv_tup (p : Gives (fa ρ) fun xs => ∃ ds, toDs xs = some ds ∧ ds.length ≤ 100000 ∧ P (.d (.tuple ds))) : Gives (eTup fa ρ) P :=
  Gives.bnd p fun xs ⟨ds, e, hl, q⟩ => by rw [e, lft_s, bnd_ret, if_pos hl]; exact Gives.ret q
theorem gv_lst (p : Gives (fa ρ) fun xs => ∃ ds, toDs xs = some ds ∧ ds.length ≤ 100000 ∧ P (.n ds)) : Gives (eLst fa ρ) P :=
  Gives.bnd p fun xs ⟨ds, e, hl, q⟩ => by rw [e, lft_s, bnd_ret, if_pos hl]; exact Gives.ret q
theorem gv_neg (p : Gives (f ρ) fun x => ∃ i, asInt x = some i ∧ P (.d (.int (-i)))) : Gives (eNeg f ρ) P := Gives.bnd p fun x ⟨i, e, q⟩ => by rw [e, lft_s, bnd_ret]; exact Gives.ret q
theorem gv_ifB (p : Gives (f ρ) fun x => ∃ b, asBool x = some b ∧ (b = true → Gives (h ρ) P) ∧ (b = false → Gives (k ρ) P)) : Gives (eIfB f h k ρ) P :=
  Gives.bnd p fun x ⟨b, e, q1, q2⟩ => by
    rw [e, lft_s, bnd_ret]
    cases b with
    | true => rw [if_pos rfl]; exact q1 rfl
    | false => rw [if_neg (by decide)]; exact q2 rfl
theorem gv_ifE (p : Gives (t ρ) fun b => (b = true → Gives (h ρ) P) ∧ (b = false → Gives (k ρ) P)) : Gives (eIf t h k ρ) P :=
  Gives.bnd p fun b ⟨q1, q2⟩ => by
    cases b with
    | true => rw [if_pos rfl]; exact q1 rfl
    | false => rw [if_neg (by decide)]; exact q2 rfl
theorem gv_notB (p : Gives (f ρ) fun x => ∃ b, asBool x = some b ∧ P (.d (.bool (!b)))) : Gives (eNotB f ρ) P := Gives.bnd p fun x ⟨b, e, q⟩ => by rw [e, lft_s, bnd_ret]; exact Gives.ret q
theorem gv_ch {gg g' : RV → RV → Option RV} (p : Gives (f ρ) fun x => Gives (h ρ) fun y => ∃ b, gg x y = some (.d (.bool b)) ∧ (b = true → Gives (k ρ) fun w => ∃ z, g' y w = some z ∧ P z) ∧ (b = false → P (.d (.bool false)))) : Gives (eCh gg g' f h k ρ) P :=
  Gives.bnd p fun x q => Gives.bnd q fun y ⟨b, e, q1, q2⟩ => by
    rw [e, lft_s, bnd_ret]
    show Gives (bnd (lft (some b)) _) P
    rw [lft_s, bnd_ret]
    cases b with
    | true => rw [if_pos rfl]; exact Gives.bnd (q1 rfl) fun w ⟨z, e, pz⟩ => by rw [e, lft_s]; exact Gives.ret pz
    | false => rw [if_neg (by decide)]; exact Gives.ret (q2 rfl)
theorem gv_T (p : Gives (f ρ) fun x => ∃ b, asBool x = some b ∧ PB b) : Gives (eT f ρ) PB := Gives.bnd p fun x ⟨b, e, q⟩ => by rw [e, lft_s]; exact Gives.ret q
theorem gv_not (p : Gives (t ρ) fun b => PB (!b)) : Gives (tNotF t ρ) PB := Gives.bnd p fun b q => Gives.ret q
theorem gv_and (p : Gives (t ρ) fun b => (b = true → Gives (t2 ρ) PB) ∧ (b = false → PB false)) : Gives (tIfT t t2 (tRetB false) ρ) PB := Gives.bnd p fun b ⟨q1, q2⟩ => by
  cases b with
  | true => rw [if_pos rfl]; exact q1 rfl
  | false => rw [if_neg (by decide)]; exact Gives.ret (q2 rfl)
theorem gv_or (p : Gives (t ρ) fun b => (b = true → PB true) ∧ (b = false → Gives (t2 ρ) PB)) : Gives (tIfT t (tRetB true) t2 ρ) PB := Gives.bnd p fun b ⟨q1, q2⟩ => by
  cases b with
  | true => rw [if_pos rfl]; exact Gives.ret (q1 rfl)
  | false => rw [if_neg (by decide)]; exact q2 rfl
theorem gv_seq (p : Gives (g ρ) fun o => match o with | .nx ρ' => Gives (g2 ρ') Q | o => Q o) : Gives (sSeq g g2 ρ) Q := Gives.bnd p fun o q => by
  cases o with
  | nx ρ' => exact q
  | rt r => exact Gives.ret q
  | bk r => exact Gives.ret q
  | ct r => exact Gives.ret q
theorem gv_nop (p : Q (.nx ρ)) : Gives (sNil ρ) Q := Gives.ret p
theorem gv_set {i : Nat} (p : Gives (f ρ) fun x => ∃ sv, toS x = some sv ∧ Q (.nx (ρ.set i (some sv)))) : Gives (sSet i f ρ) Q := Gives.bnd p fun x ⟨sv, e, q⟩ => by rw [e, lft_s, bnd_ret]; exact Gives.ret q
theorem gv_rt (p : Gives (f ρ) fun x => ∃ y, toRet x = some y ∧ Q (.rt y)) : Gives (sRet f ρ) Q := Gives.bnd p fun x ⟨y, e, q⟩ => by rw [e, lft_s, bnd_ret]; exact Gives.ret q
theorem gv_rtV {i : Nat} {y : RV} (e : vown ρ i = some y) (q : Q (.rt y)) : Gives (sRetV i ρ) Q := gv_eq (by unfold sRetV; rw [e]; rfl) q
theorem gv_if (p : Gives (t ρ) fun b => (b = true → Gives (g ρ) Q) ∧ (b = false → Gives (g2 ρ) Q)) : Gives (sIf t g g2 ρ) Q := Gives.bnd p fun b ⟨q1, q2⟩ => by
  cases b with
  | true => rw [if_pos rfl]; exact q1 rfl
  | false => rw [if_neg (by decide)]; exact q2 rfl
theorem gv_drop (p : Gives (f ρ) fun _ => Q (.nx ρ)) : Gives (sDrop f ρ) Q := Gives.bnd p fun _ q => Gives.ret q
theorem gv_par {i j : Nat} (p : Gives (fa ρ) fun xs => ∃ x y sx sy, xs = [x, y] ∧ toS x = some sx ∧ toS y = some sy ∧ Q (.nx ((ρ.set i (some sx)).set j (some sy)))) : Gives (sPar i j fa ρ) Q := Gives.bnd p fun xs ⟨x, y, sx, sy, e, e1, e2, q⟩ => by
  subst e
  show Gives (bnd (lft (toS x)) _) Q
  rw [e1, lft_s, bnd_ret, e2, lft_s, bnd_ret]
  exact Gives.ret q
theorem gv_par3 {i j l : Nat} (p : Gives (fa ρ) fun xs => ∃ x y z sx sy sz, xs = [x, y, z] ∧ toS x = some sx ∧ toS y = some sy ∧ toS z = some sz ∧ Q (.nx (((ρ.set i (some sx)).set j (some sy)).set l (some sz)))) : Gives (sPar3 i j l fa ρ) Q := Gives.bnd p fun xs ⟨x, y, z, sx, sy, sz, e, e1, e2, e3, q⟩ => by
  subst e
  show Gives (bnd (lft (toS x)) _) Q
  rw [e1, lft_s, bnd_ret, e2, lft_s, bnd_ret, e3, lft_s, bnd_ret]
  exact Gives.ret q
theorem gv_stup {hh : D → Env → Option Env} (p : Gives (f ρ) fun x => ∃ d ρ', x = .d d ∧ hh d ρ = some ρ' ∧ Q (.nx ρ')) : Gives (sTup f hh ρ) Q := Gives.bnd p fun x ⟨d, ρ', e, e1, q⟩ => by
  subst e
  show Gives (bnd (lft (hh d ρ)) _) Q
  rw [e1, lft_s, bnd_ret]
  exact Gives.ret q
theorem gv_aug {i : Nat} {kf : Int → Int → Int} {y : RV} {a : Int} (e1 : vget ρ i = some y) (e2 : asInt y = some a) (p : Gives (f ρ) fun x => ∃ b, asInt x = some b ∧ Q (.nx (ρ.set i (some (.d (.int (kf a b))))))) : Gives (sAug i kf f ρ) Q := by
  unfold sAug
  rw [e1, lft_s, bnd_ret, e2, lft_s, bnd_ret]
  exact Gives.bnd p fun x ⟨b, e, q⟩ => by rw [e, lft_s, bnd_ret]; exact Gives.ret q
theorem gv_app {i : Nat} {ds : List D} (e1 : sApp.own? ρ i = some ds) (hl : ds.length < 100000) (p : Gives (f ρ) fun x => ∃ d, toD x = some d ∧ Q (.nx (ρ.set i (some (.o (ds ++ [d])))))) : Gives (sApp i f ρ) Q := by
  unfold sApp
  rw [e1, lft_s, bnd_ret]
  exact Gives.bnd p fun x ⟨d, e, q⟩ => by rw [e, lft_s, bnd_ret, if_pos hl]; exact Gives.ret q
theorem gv_popApp {i j : Nat} {ds es : List D} (e1 : sApp.own? ρ i = some ds) (e2 : sApp.own? ρ j = some es) (hl : ds.length < 100000 ∧ i ≠ j)
    (p : Gives (f ρ) fun x => ∃ n kk y, asInt x = some n ∧ popIx es n = some (kk, y) ∧ Q (.nx ((ρ.set j (some (.o (es.eraseIdx kk)))).set i (some (.o (ds ++ [y])))))) : Gives (sPopApp i j f ρ) Q := by
  unfold sPopApp
  rw [e1, lft_s, bnd_ret, e2, lft_s, bnd_ret]
  exact Gives.bnd p fun x ⟨n, kk, y, e, e3, q⟩ => by rw [e, lft_s, bnd_ret, e3, lft_s, bnd_ret, if_pos hl]; exact Gives.ret q
theorem gv_for {fi : Env → M (List D × Option Nat)} {tg : D → Env → Option Env} {its : List D} {lk : Option Nat} (e : fi ρ = ret (its, lk)) (p : Gives (loopF tg g its (lockE ρ lk)) fun o => Q (unlockO ρ lk o)) : Gives (sFor fi tg g ρ) Q := by
  unfold sFor
  rw [e, bnd_ret]
  exact Gives.bnd p fun o q => Gives.ret q
theorem gv_lc {fi : Env → M (List D × Option Nat)} {vs : List Nat} {tg : D → Env → Option Env} {its : List D} {lk : Option Nat} (e : fi ρ = ret (its, lk)) (hl : its.length ≤ 100000) (p : Gives (lcF tg t h (wipeE ρ vs) its) fun ds => P (.n ds)) : Gives (eLc fi vs tg t h ρ) P := by
  unfold eLc
  rw [e, bnd_ret]
  refine Gives.bnd p fun ds q => ?_
  show Gives (if its.length ≤ 100000 then ret (.n ds) else fail) P
  rw [if_pos hl]
  exact Gives.ret q
theorem gv_run {n : Nat} {xs : List RV} (p : Gives (g (startE n xs)) fun o => match o with | .nx _ => P (.d .none) | .rt r => P r | _ => False) : Gives (runDef n g xs) P := Gives.bnd p fun o q => by
  cases o with
  | nx ρ' => exact Gives.ret q
  | rt r => exact Gives.ret q
  | bk r => exact q.elim
  | ct r => exact q.elim
end
theorem gv_isT {T : TyT} {ρ : Env} {f : Env → M RV} {P : RV → Prop} (p : Gives (f ρ) fun x => ∃ d, viewD x = some d ∧ P (.d (.bool (isT T d)))) : Gives (eIsT T f ρ) P := Gives.bnd p fun x ⟨d, e, q⟩ => by rw [e, lft_s, bnd_ret]; exact Gives.ret q
theorem gv_isT2 {T T2 : TyT} {ρ : Env} {f : Env → M RV} {P : RV → Prop} (p : Gives (f ρ) fun x => ∃ d, viewD x = some d ∧ P (.d (.bool (isT T d || isT T2 d)))) : Gives (eIsT2 T T2 f ρ) P := Gives.bnd p fun x ⟨d, e, q⟩ => by rw [e, lft_s, bnd_ret]; exact Gives.ret q
theorem Gives.wh {t : Env → M Bool} {body : Env → M Out} {Q : Out → Prop} (I : Nat → Env → Prop)
    (hs : ∀ k ρ, I k ρ → Gives (t ρ) fun b => (b = false → Q (.nx ρ)) ∧ (b = true → ∃ j, k = j + 1 ∧ Gives (body ρ) fun o => match o with
      | .nx ρ2 => I j ρ2
      | .ct ρ2 => I j ρ2
      | .bk ρ2 => Q (.nx ρ2)
      | .rt r => Q (.rt r))) : ∀ (k n : Nat) (ρ : Env), k < n → I k ρ → Gives (wloopF t body n ρ) Q
  | k, 0, _, hn, _ => absurd hn (Nat.not_lt_zero _)
  | k, n + 1, ρ, hn, h => by
    unfold wloopF
    refine Gives.bnd (hs k ρ h) fun b ⟨h1, h2⟩ => ?_
    cases b with
    | false => exact Gives.ret (h1 rfl)
    | true =>
      obtain ⟨j, rfl, g⟩ := h2 rfl
      rw [if_pos rfl]
      refine Gives.bnd g fun o ho => ?_
      cases o with
      | nx ρ2 => exact Gives.wh I hs j n ρ2 (by omega) ho
      | ct ρ2 => exact Gives.wh I hs j n ρ2 (by omega) ho
      | bk ρ2 => exact Gives.ret ho
      | rt r => exact Gives.ret ho
/-- a tuple of ints -/
abbrev ti (ns : List Int) : D := .tuple (ns.map PyData.int)
end DV
namespace DVL
open PySem L2 DV
theorem pick_gives (ds : List D) (h0 : 0 < ds.length) (h1 : ds.length ≤ 1000) : Gives (m__law_pick [.row, .b ds]) fun r => ∃ d, d ∈ ds ∧ r = .d d := by
  refine gv_run (gv_rt (gv_e2 (gv_var rfl (gv_fn (gv_cons (gv_var rfl (gv_cons (gv_call (gv_cons (gv_var rfl (gv_nil ⟨_, rfl, gv_nil ⟨rfl, ?_⟩⟩)))))))))))
  refine (taken_eq (ds.length : Nat) (by omega) (by omega)).mono fun r ⟨i, e, h2, h3⟩ => ?_
  subst e
  have hi : i.toNat < ds.length := by omega
  have e1 : atI ds i = some ds[i.toNat] := by
    have := atI_nat (xs := ds) (j := i.toNat) (List.getElem?_eq_getElem hi)
    rwa [Int.toNat_of_nonneg h2] at this
  refine ⟨.d ds[i.toNat], ?_, _, rfl, _, List.getElem_mem hi, rfl⟩
  show (atI ds i).map RV.d = _
  rw [e1]
  rfl
end DVL

namespace DVL
open PySem L2 DV
def rngI (lo : Int) : Nat → List Int
  | 0 => []
  | n + 1 => lo :: rngI (lo + 1) n
theorem rngI_len : ∀ (lo : Int) (n : Nat), (rngI lo n).length = n
  | _, 0 => rfl
  | lo, n + 1 => congrArg (· + 1) (rngI_len (lo + 1) n)
theorem rngD_eq : ∀ (lo : Int) (n : Nat), rngD lo n = (rngI lo n).map PyData.int
  | _, 0 => rfl
  | lo, n + 1 => by
    show PyData.int lo :: rngD (lo + 1) n = PyData.int lo :: (rngI (lo + 1) n).map PyData.int
    rw [rngD_eq]
theorem mem_rngI (k : Int) : ∀ (lo : Int) (n : Nat), k ∈ rngI lo n ↔ lo ≤ k ∧ k < lo + n
  | lo, 0 => by
    simp [rngI]
    try omega
  | lo, n + 1 => by
    rw [rngI, List.mem_cons, mem_rngI k (lo + 1) n]
    omega
theorem rngI_nodup : ∀ (lo : Int) (n : Nat), (rngI lo n).Nodup
  | _, 0 => .nil
  | lo, n + 1 => List.nodup_cons.mpr ⟨fun h => by
      have := ((mem_rngI lo (lo + 1) n).mp h).1
      omega, rngI_nodup (lo + 1) n⟩
theorem rng1_eq {f : DV.Env → M RV} {ρ : DV.Env} {n : Int} (e : f ρ = ret (.d (.int n))) (h1 : n ≤ 100000) (h2 : -100000 ≤ n) : iRng1F f ρ = ret ((rngI 0 n.toNat).map PyData.int, none) := by
  unfold iRng1F
  rw [e, bnd_ret]
  show bnd (lft (some n)) _ = _
  rw [lft_s, bnd_ret, if_pos ⟨h1, h2⟩, rngD_eq]
theorem var_eq {ρ : DV.Env} {i : Nat} {x : RV} (e : vget ρ i = some x) : eVar i ρ = ret x := by unfold eVar; rw [e]; rfl
theorem eqv_int (a b : Int) : PyData.eqv (.int a) (.int b) = decide (a = b) := by
  simp [PyData.eqv]
  by_cases h : a = b <;> simp [h]
theorem all2_ints {α : Type} {p : Int → Prop} : ∀ {xs : List α} {ds : List D}, All2 (fun _ d => ∃ i, d = PyData.int i ∧ p i) xs ds → ∃ js : List Int, ds = js.map PyData.int ∧ js.length = xs.length ∧ ∀ j ∈ js, p j
  | _, _, .nil => ⟨[], rfl, rfl, fun _ h => nomatch h⟩
  | _, _, .cons ⟨i, e, h⟩ t => by
    obtain ⟨js, e2, e3, h2⟩ := all2_ints t
    subst e e2
    refine ⟨i :: js, rfl, congrArg (· + 1) e3, fun j hj => ?_⟩
    rcases List.mem_cons.mp hj with q | q
    · subst q; exact h
    · exact h2 j q
theorem intsOf_map (js : List Int) : intsOf (js.map PyData.int) = some js := ints_map js
/-- [e for _ in range(n)] where e gives an int -/
theorem draws {n i : Nat} {vs : List Nat} {el : DV.Env → M RV} {ρ : DV.Env} {f : DV.Env → M RV} {P : RV → Prop} {p : Int → Prop} (e : f ρ = ret (.d (.int (n : Int)))) (hn : n ≤ 1000)
    (h : ∀ x, DV.Gives (el ((wipeE ρ vs).set i (some (.d x)))) fun r => ∃ j, r = .d (.int j) ∧ p j)
    (k : ∀ js : List Int, js.length = n → (∀ j ∈ js, p j) → P (.d (ti js))) : DV.Gives (eCall gTuple (aCons (eLc (iRng1F f) vs (gNm i) tTrue el) aNil) ρ) P := by
  refine gv_call (gv_cons (gv_lc (rng1_eq e (by omega) (by omega)) (by rw [List.length_map, rngI_len]; omega) ?_))
  refine (DV.Gives.lc (P := fun _ d => ∃ j, d = PyData.int j ∧ p j) _ fun x _ => ⟨(wipeE ρ vs).set i (some (.d x)), rfl, (h x).mono fun r ⟨j, er, pj⟩ => ?_⟩).mono fun ds hd => ?_
  · subst er
    exact ⟨_, rfl, j, rfl, pj⟩
  · obtain ⟨js, rfl, hl, hp⟩ := all2_ints hd
    rw [List.length_map, rngI_len] at hl
    refine gv_nil ⟨_, rfl, k js (by omega) hp⟩
theorem gSum_eq (js : List Int) : gSum [.d (ti js)] = some (.d (.int js.sum)) := by
  show (intsOf (js.map PyData.int)).map _ = _
  rw [intsOf_map]
  rfl
structure Jobs (most time : Int) (ts ws dd : List Int) : Prop where
  pos : 1 ≤ ts.length
  len : (ts.length : Int) ≤ most
  lw : ws.length = ts.length
  ld : dd.length = ts.length
  tim : ∀ t ∈ ts, 1 ≤ t ∧ (t ≤ 2 ∨ t ≤ time)
  wei : ∀ t ∈ ws, 0 ≤ t ∧ t ≤ 9
  due : ∀ t ∈ dd, 0 ≤ t ∧ t < ts.sum + 2
theorem sum_le (b : Int) : ∀ ts : List Int, (∀ t ∈ ts, t ≤ b) → ts.sum ≤ b * ts.length
  | [], _ => by simp
  | t :: ts, h => by
    have h1 := h t List.mem_cons_self
    have h2 := sum_le b ts fun x hx => h x (List.mem_cons_of_mem _ hx)
    rw [List.sum_cons, List.length_cons]
    have : b * ((ts.length + 1 : Nat) : Int) = b * ts.length + b := by
      rw [Int.natCast_add, Int.mul_add]; simp
    omega
theorem sum_nn : ∀ ts : List Int, (∀ t ∈ ts, 0 ≤ t) → 0 ≤ ts.sum
  | [], _ => by simp
  | t :: ts, h => by
    have h1 := h t List.mem_cons_self
    have h2 := sum_nn ts fun x hx => h x (List.mem_cons_of_mem _ hx)
    rw [List.sum_cons]
    omega
theorem jobs_gives (most time : Int) (h1 : 1 ≤ most) (h2 : most ≤ 100) (h3 : 1 ≤ time) (h4 : time ≤ 1000) :
    DV.Gives (m__law_jobs [.row, .d (.int most), .d (.int time)]) fun r => ∃ ts ws dd, r = .d (.tuple [ti ts, ti ws, ti dd]) ∧ Jobs most time ts ws dd := by
  refine gv_run (gv_seq (gv_par3 (gv_cons (gv_e2 (gv_c (gv_fn (gv_cons (gv_var rfl (gv_cons (gv_var rfl (gv_nil ⟨rfl, ?_⟩)))))))))))
  refine (taken_eq most (by omega) (by omega)).mono fun r ⟨m, e, m0, m1⟩ => ?_
  subst e
  refine ⟨_, rfl, gv_cons (gv_fn (gv_cons (gv_var rfl (gv_cons (gv_lst (gv_cons (gv_c (gv_cons (gv_var rfl (gv_nil ⟨_, rfl, (by show (_ : Nat) ≤ _; simp), gv_nil ⟨rfl, ?_⟩⟩)))))))))) ⟩
  refine (pick_gives [.int 2, .int time] (by simp) (by simp)).mono fun r ⟨d, hd, e⟩ => ?_
  subst e
  have htop : ∃ top : Int, d = .int top ∧ 1 ≤ top ∧ (top ≤ 2 ∨ top ≤ time) := by
    rcases List.mem_cons.mp hd with q | q
    · exact ⟨2, q, by omega, .inl (by omega)⟩
    · rcases List.mem_cons.mp q with q | q
      · exact ⟨time, q, h3, .inr (by omega)⟩
      · cases q
  obtain ⟨top, rfl, t1, t2⟩ := htop
  refine gv_cons (gv_fn (gv_cons (gv_var rfl (gv_cons (gv_lst (gv_cons (gv_c (gv_cons (gv_c (gv_cons (gv_c (gv_nil ⟨_, rfl, (by show (_ : Nat) ≤ _; simp), gv_nil ⟨rfl, ?_⟩⟩)))))))))) )) 
  refine (pick_gives [.int 1, .int 3, .int 9] (by simp) (by simp)).mono fun r ⟨d, hd, e⟩ => ?_
  subst e
  have hw : ∃ wd : Int, d = .int wd ∧ 1 ≤ wd ∧ wd ≤ 9 := by
    rcases List.mem_cons.mp hd with q | q
    · exact ⟨1, q, by omega, by omega⟩
    · rcases List.mem_cons.mp q with q | q
      · exact ⟨3, q, by omega, by omega⟩
      · rcases List.mem_cons.mp q with q | q
        · exact ⟨9, q, by omega, by omega⟩
        · cases q
  obtain ⟨wd, rfl, w1, w2⟩ := hw
  refine gv_nil ⟨_, _, _, _, _, _, rfl, rfl, rfl, rfl, ?_⟩
  -- the times
  obtain ⟨n, en⟩ : ∃ n : Nat, 1 + m = (n : Int) := ⟨(1 + m).toNat, by omega⟩
  have hn : n ≤ 1000 := by omega
  refine gv_seq (gv_set (draws (n := n) (p := fun t => 1 ≤ t ∧ (t ≤ 2 ∨ t ≤ time)) (by rw [← en]; exact var_eq rfl) hn (fun x => ?_) fun ts htl hts => ?_))
  · refine gv_e2 (gv_c (gv_fn (gv_cons (gv_var rfl (gv_cons (gv_var rfl (gv_nil ⟨rfl, ?_⟩)))))))
    refine (taken_eq top (by omega) (by omega)).mono fun r ⟨i, e, i0, i1⟩ => ?_
    subst e
    exact ⟨_, rfl, _, rfl, by omega, by omega⟩
  refine ⟨_, rfl, ?_⟩
  -- the weights
  refine gv_seq (gv_set (draws (n := n) (p := fun t => 0 ≤ t ∧ t ≤ 9) (by rw [← en]; exact var_eq rfl) hn (fun x => ?_) fun ws hwl hws => ?_))
  · refine gv_fn (gv_cons (gv_var rfl (gv_cons (gv_e2 (gv_var rfl (gv_c ⟨_, rfl, gv_nil ⟨rfl, ?_⟩⟩))))))
    refine (taken_eq (wd + 1) (by omega) (by omega)).mono fun r ⟨i, e, i0, i1⟩ => ?_
    exact ⟨i, e, by omega, by omega⟩
  refine ⟨_, rfl, ?_⟩
  refine gv_seq (gv_set (gv_e2 (gv_call (gv_cons (gv_var rfl (gv_nil ⟨_, gSum_eq ts, gv_c ⟨_, rfl, _, rfl, ?_⟩⟩))))))
  have hb : ts.sum ≤ 1000 * (ts.length : Int) := sum_le 1000 ts fun t ht => by have := hts t ht; omega
  have hb0 : 0 ≤ ts.sum := sum_nn ts fun t ht => by have := hts t ht; omega
  refine gv_seq (gv_set (draws (n := n) (p := fun t => 0 ≤ t ∧ t < ts.sum + 2) (by rw [← en]; exact var_eq rfl) hn (fun x => ?_) fun dd hdl hdd => ?_))
  · refine gv_fn (gv_cons (gv_var rfl (gv_cons (gv_var rfl (gv_nil ⟨rfl, ?_⟩)))))
    refine (taken_eq (ts.sum + 2) (by omega) (by omega)).mono fun r ⟨i, e, i0, i1⟩ => ?_
    exact ⟨i, e, i0, i1⟩
  refine ⟨_, rfl, ?_⟩
  refine gv_rt (gv_tup (gv_cons (gv_var rfl (gv_cons (gv_var rfl (gv_cons (gv_var rfl (gv_nil ⟨_, rfl, (by simp), _, rfl, ts, ws, dd, rfl, ?_⟩))))))))
  exact ⟨by omega, by omega, by omega, by omega, hts, hws, hdd⟩
end DVL

namespace DVL
open PySem L2 DV
theorem map_eraseIdx {α β : Type} (f : α → β) : ∀ (l : List α) (k : Nat), (l.map f).eraseIdx k = (l.eraseIdx k).map f
  | [], k => by simp
  | x :: l, 0 => rfl
  | x :: l, k + 1 => congrArg (f x :: ·) (map_eraseIdx f l k)
theorem eraseIdx_perm {α : Type} : ∀ (l : List α) (k : Nat) (h : k < l.length), (l[k] :: l.eraseIdx k).Perm l
  | x :: l, 0, _ => .refl _
  | x :: l, k + 1, h => (List.Perm.swap x (l[k]'(by simpa using h)) (l.eraseIdx k)).trans ((eraseIdx_perm l k (by simpa using h)).cons x)
theorem popIx_eq {L : List Int} {i : Int} (h0 : 0 ≤ i) (h1 : i < L.length) (hl : L.length ≤ 1000) : popIx (L.map PyData.int) i = some (i.toNat, .int (L[i.toNat]'(by omega))) := by
  unfold popIx
  rw [if_pos ⟨by omega, by omega⟩]
  have e : seqIndex? i (L.map PyData.int).length = some i.toNat := by
    unfold seqIndex?
    rw [List.length_map]
    have h2 : ¬ i < 0 := by omega
    simp [h2, h0, h1]
  rw [e]
  show ((L.map PyData.int)[i.toNat]?).map _ = _
  rw [List.getElem?_map, List.getElem?_eq_getElem (by omega)]
  rfl
theorem order_gives (n : Nat) (hn : n ≤ 1000) : DV.Gives (m__law_order [.row, .d (.int (n : Int))]) fun r => ∃ p : List Int, r = .d (ti p) ∧ p.Perm (rngI 0 n) := by
  refine gv_run (gv_seq (gv_par (gv_cons (f := eListRg (rg1F (eVar 1))) ?_)))
  have e0 : eListRg (rg1F (eVar 1)) (startE 5 [RV.row, RV.d (.int (n : Int))]) = DV.ret (RV.n ((rngI 0 n).map PyData.int)) := by
    show bnd (bnd (DV.ret (RV.d (.int (n : Int)))) _) _ = _
    rw [bnd_ret]
    show bnd (bnd (lft (some (n : Int))) _) _ = _
    rw [lft_s, bnd_ret, bnd_ret, if_pos (by unfold okRg; simp; omega)]
    have e1 : ((n : Int) - 0).toNat = n := by omega
    show DV.ret (RV.n (rngD 0 ((n : Int) - 0).toNat)) = _
    rw [e1, rngD_eq]
  refine gv_eq e0 (gv_cons (gv_lst (gv_nil ⟨[], rfl, by simp, gv_nil ⟨_, _, _, _, rfl, rfl, rfl, ?_⟩⟩)))
  refine gv_seq (gv_for (its := (rngI 0 n).map PyData.int) (lk := none) (by
    have := rng1_eq (f := eVar 1) (ρ := ((startE 5 [RV.row, RV.d (.int (n : Int))]).set 2 (some (.o ((rngI 0 n).map PyData.int)))).set 3 (some (.o []))) (n := (n : Int)) (var_eq rfl) (by omega) (by omega)
    rwa [Int.toNat_natCast] at this) ?_)
  refine DV.Gives.loop _ (fun xs ρ => ∃ (L Fd : List Int) (y : Option SV), ρ = [some .row, some (.d (.int (n : Int))), some (.o (L.map PyData.int)), some (.o (Fd.map PyData.int)), y] ∧ (Fd ++ L).Perm (rngI 0 n) ∧ xs.length = L.length) _ ⟨rngI 0 n, [], none, rfl, .refl _, by rw [List.length_map]⟩ ?_ ?_
  · rintro x xs ρ ⟨L, Fd, y, rfl, hp, hl⟩
    refine ⟨_, rfl, ?_⟩
    have hlen := hp.length_eq
    rw [List.length_append, rngI_len] at hlen
    rw [List.length_cons] at hl
    refine gv_popApp (ds := Fd.map PyData.int) (es := L.map PyData.int) rfl rfl ⟨by rw [List.length_map]; omega, by decide⟩ ?_
    refine gv_fn (gv_cons (gv_var rfl (gv_cons (gv_call (gv_cons (gv_var rfl (gv_nil ⟨_, rfl, gv_nil ⟨rfl, ?_⟩⟩)))))))
    refine (taken_eq ((L.map PyData.int).length : Nat) (by rw [List.length_map]; omega) (by rw [List.length_map]; omega)).mono fun r ⟨i, e, i0, i1⟩ => ?_
    subst e
    rw [List.length_map] at i1
    refine ⟨i, i.toNat, _, rfl, popIx_eq i0 i1 (by omega), ?_⟩
    refine ⟨L.eraseIdx i.toNat, Fd ++ [L[i.toNat]'(by omega)], some (.d x), ?_, ?_, ?_⟩
    · rw [← map_eraseIdx, List.map_append]
      rfl
    · rw [List.append_assoc]
      exact (List.Perm.append_left Fd (eraseIdx_perm L i.toNat (by omega))).trans hp
    · rw [List.length_eraseIdx_of_lt (by omega)]
      omega
  · rintro ρ ⟨L, Fd, y, rfl, hp, hl⟩
    have hL : L = [] := List.eq_nil_of_length_eq_zero hl.symm
    subst hL
    rw [List.append_nil] at hp
    refine gv_rt (gv_call (gv_cons (gv_var rfl (gv_nil ⟨_, rfl, _, rfl, Fd, rfl, hp⟩))))
theorem is_integer_i (i : Int) : m_is_integer [.d (.int i)] = ret (.d (.bool true)) := rfl
theorem is_in_ok {i a b : Int} (h1 : a ≤ i) (h2 : i ≤ b) : m_is_in [.d (.int i), .d (.int a), .d (.int b)] = ret (.d (.bool true)) := by
  simp [m_is_in, runDef, g_is_in, sRet, eIfB, eFn, aCons, aNil, eVar, bnd_bnd, bnd_ret, lft_s, startE, toK, vget, readable, is_integer_i, asBool, eCh, gLe, gI, asInt, h1, h2, toRet]
theorem is_list_ok {ds : List D} {a b : Int} (h1 : a ≤ ds.length) (h2 : (ds.length : Int) ≤ b) : m_is_list [.d (.tuple ds), .d (.int a), .d (.int b)] = ret (.d (.bool true)) := by
  simp [m_is_list, runDef, g_is_list, sRet, eIfB, eCall, aCons, aNil, eVar, eIsT, viewD, isT, bnd_bnd, bnd_ret, lft_s, startE, toK, vget, readable, asBool, eCh, gLe, gI, asInt, gLen, DV.c1, items, h1, h2, toRet]
theorem first_bad_ok (ns : List Int) (lo hi : Int) (hn : ns.length ≤ 1000) (h : ∀ t ∈ ns, lo ≤ t ∧ t ≤ hi) : DV.Gives (m_first_bad [.d (ti ns), .d (.int (ns.length : Nat)), .d (.int lo), .d (.int hi)]) fun r => r = .d (.int (-1)) := by
  refine gv_run (gv_seq (gv_if (gv_not (gv_T (gv_fn (gv_cons (gv_var rfl (gv_cons (gv_var rfl (gv_cons (gv_var rfl (gv_nil ⟨rfl, ?_⟩))))))))))))
  refine gv_eq (is_list_ok (by rw [List.length_map]; omega) (by rw [List.length_map]; omega)) ⟨true, rfl, (fun q => nomatch q), fun _ => gv_nop ?_⟩
  refine gv_seq (gv_for (its := enumD 0 (ns.map PyData.int)) (lk := none) rfl ?_)
  refine DV.Gives.loop _ (fun xs ρ => ∃ (k : Nat) (ms : List Int) (y z : Option SV), xs = enumD k (ms.map PyData.int) ∧ (∀ t ∈ ms, lo ≤ t ∧ t ≤ hi) ∧ ρ = [some (.d (ti ns)), some (.d (.int (ns.length : Nat))), some (.d (.int lo)), some (.d (.int hi)), y, z]) _ ⟨0, ns, none, none, rfl, h, rfl⟩ ?_ ?_
  · rintro x xs ρ ⟨k, ms, y, z, e, hm, rfl⟩
    cases ms with
    | nil => cases e
    | cons t ms =>
      cases e
      refine ⟨_, rfl, gv_if (gv_not (gv_T (gv_fn (gv_cons (gv_var rfl (gv_cons (gv_var rfl (gv_cons (gv_var rfl (gv_nil ⟨rfl, ?_⟩))))))))))⟩
      have ht := hm t List.mem_cons_self
      refine gv_eq (is_in_ok ht.1 ht.2) ⟨true, rfl, (fun q => nomatch q), fun _ => gv_nop ?_⟩
      exact ⟨k + 1, ms, _, _, rfl, fun u hu => hm u (List.mem_cons_of_mem _ hu), rfl⟩
  · rintro ρ ⟨k, ms, y, z, e, hm, rfl⟩
    exact gv_rt (gv_neg (gv_c ⟨1, rfl, _, rfl, rfl⟩))
theorem need_times_ok (ns : List Int) (h1 : 1 ≤ ns.length) (h2 : ns.length ≤ 10) (h : ∀ t ∈ ns, 1 ≤ t ∧ t ≤ 60) : DV.Gives (m_need_times [.d (ti ns)]) fun r => r = .d .none := by
  refine gv_run (gv_seq (gv_if (gv_not (gv_T (gv_fn (gv_cons (gv_var rfl (gv_cons (gv_c (gv_cons (gv_c (gv_nil ⟨rfl, ?_⟩))))))))))))
  refine gv_eq (is_list_ok (by rw [List.length_map]; omega) (by rw [List.length_map]; omega)) ⟨true, rfl, (fun q => nomatch q), fun _ => gv_nop ?_⟩
  refine gv_seq (gv_set (gv_fn (gv_cons (gv_var rfl (gv_cons (gv_call (gv_cons (gv_var rfl (gv_nil ⟨_, rfl, ?_⟩)))))))))
  refine gv_cons (gv_c (gv_cons (gv_c (gv_nil ⟨rfl, ?_⟩))))
  have fb := first_bad_ok ns 1 60 (by omega) h
  have hl : (ns.map PyData.int).length = ns.length := List.length_map ..
  rw [← hl] at fb
  refine fb.mono fun r e => ?_
  subst e
  refine ⟨_, rfl, gv_if (gv_T (gv_e2 (gv_var rfl (gv_neg (gv_c ⟨1, rfl, _, rfl, false, rfl, (fun q => nomatch q), fun _ => gv_nop rfl⟩)))))⟩
theorem all_true : ∀ n : Nat, (List.replicate n true).all id = true
  | 0 => rfl
  | n + 1 => all_true n
theorem bools_true {α : Type} : ∀ xs : List α, boolsOf (xs.map fun _ => PyData.bool true) = some (List.replicate xs.length true)
  | [] => rfl
  | x :: xs => by
    show (match boolsOf (xs.map fun _ => PyData.bool true) with | some js => some (true :: js) | none => none) = _
    rw [bools_true xs]
    rfl
theorem order_len {p : List Int} {n : Nat} (h : p.Perm (rngI 0 n)) : p.length = n := by rw [h.length_eq, rngI_len]
theorem order_mem {p : List Int} {n : Nat} (h : p.Perm (rngI 0 n)) {k : Int} (hk : k ∈ p) : 0 ≤ k ∧ k < n := by
  have := (mem_rngI k 0 n).mp (h.mem_iff.mp hk)
  omega
theorem order_nodup {p : List Int} {n : Nat} (h : p.Perm (rngI 0 n)) : p.Nodup := h.nodup_iff.mpr (rngI_nodup 0 n)
theorem is_order_ok (p : List Int) (n : Nat) (hn : n ≤ 1000) (h : p.Perm (rngI 0 n)) : DV.Gives (m_is_order [.d (ti p), .d (.int (n : Nat))]) fun r => r = .d (.bool true) := by
  have hl := order_len h
  refine gv_run (gv_rt (gv_ifB (gv_fn (gv_cons (gv_var rfl (gv_cons (gv_var rfl (gv_cons (gv_var rfl (gv_nil ⟨rfl, ?_⟩))))))))))
  refine gv_eq (is_list_ok (by rw [List.length_map]; omega) (by rw [List.length_map]; omega)) ⟨true, rfl, fun _ => ?_, (fun q => nomatch q)⟩
  refine gv_ifB (gv_call (gv_cons (gv_lc (its := p.map PyData.int) (lk := none) rfl (by rw [List.length_map]; omega) ?_)))
  rw [lc_eq (fun _ => true) (fun _ => .bool true)]
  · refine DV.Gives.ret (gv_nil ⟨.d (.bool true), ?_, true, rfl, fun _ => ?_, (fun q => nomatch q)⟩)
    · rw [List.filter_eq_self.mpr (fun _ _ => rfl), List.map_map]
      show (boolsOf (p.map fun _ => PyData.bool true)).map _ = _
      rw [bools_true]
      show some (RV.d (.bool ((List.replicate p.length true).all id))) = _
      rw [all_true]
    · refine gv_e2 (f := eLenSet (eVar 0)) (gv_eq (a := .d (.int (n : Nat))) ?_ (gv_var rfl ⟨_, rfl, _, rfl, ?_⟩))
      · show bnd (lft (lenSetOf (.d (ti p)))) _ = _
        have : lenSetOf (.d (ti p)) = some (.int (n : Nat)) := by
          show (match intsOf (p.map PyData.int) with | some js => if js.length ≤ 1000 then some (PyData.int ((ddI js).length : Nat)) else none | none => none) = _
          rw [intsOf_map]
          show (if p.length ≤ 1000 then _ else _) = _
          rw [if_pos (by omega), ddI_of_nodup p (order_nodup h), hl]
        rw [this]
        rfl
      · show RV.d (.bool (PyData.eqv (.int (n : Int)) (.int (n : Int)))) = _
        rw [eqv_int]
        simp
  · intro x hx
    obtain ⟨k, hk, rfl⟩ := List.mem_map.mp hx
    have := order_mem h hk
    refine ⟨_, rfl, rfl, fun _ => ⟨.d (.bool true), ?_, rfl⟩⟩
    show m_is_in [.d (.int k), .d (.int 0), .d (.int ((n : Int) - 1))] = _
    exact is_in_ok (by omega) (by omega)
theorem need_order_ok (p : List Int) (n : Nat) (hn : n ≤ 1000) (h : p.Perm (rngI 0 n)) : DV.Gives (m_need_order [.d (ti p), .d (.int (n : Nat))]) fun r => r = .d .none := by
  refine gv_run (gv_if (gv_not (gv_T (gv_fn (gv_cons (gv_var rfl (gv_cons (gv_var rfl (gv_nil ⟨rfl, ?_⟩)))))))))
  refine (is_order_ok p n hn h).mono fun r e => ?_
  subst e
  exact ⟨true, rfl, (fun q => nomatch q), fun _ => gv_nop rfl⟩
end DVL

namespace DVL
open PySem L2 DV
def ext (n : Nat) (ps : List (List Int)) : List (List Int) := ps.flatMap fun p => ((rngI 0 n).filter fun j => !p.elem j).map fun j => p ++ [j]
theorem nodup_perm : ∀ {p q : List Int}, p.Nodup → (∀ x ∈ p, x ∈ q) → q.length ≤ p.length → p.Perm q
  | [], q, _, _, hl => by
    have : q = [] := List.eq_nil_of_length_eq_zero (Nat.le_zero.mp hl)
    rw [this]
  | x :: p, q, nd, hs, hl => by
    obtain ⟨h1, h2⟩ := List.nodup_cons.mp nd
    have hx := hs x List.mem_cons_self
    have e := List.perm_cons_erase hx
    refine ((nodup_perm h2 (fun y hy => ?_) ?_).cons x).trans e.symm
    · have hy2 := hs y (List.mem_cons_of_mem _ hy)
      rcases List.mem_cons.mp (e.mem_iff.mp hy2) with z | z
      · exact absurd (z ▸ hy) h1
      · exact z
    · have := e.length_eq
      rw [List.length_cons] at this hl
      omega
theorem canLay_ints : ∀ js : List Int, PyData.canLayAll0 (js.map PyData.int) = true
  | [] => by simp [PyData.canLayAll0]
  | j :: js => by
    rw [List.map_cons, PyData.canLayAll0, canLay_ints js]
    simp [PyData.canLay0]
theorem depth_ints : ∀ js : List Int, PyData.depthAll (js.map PyData.int) = 0
  | [] => by simp [PyData.depthAll]
  | j :: js => by
    rw [List.map_cons, PyData.depthAll, depth_ints js]
    simp [PyData.depth]
theorem shaped_ints (js : List Int) : SeqAt.shaped (.list (js.map PyData.int)) = true := by
  unfold SeqAt.shaped
  rw [PyData.canLay0, canLay_ints, PyData.depth, depth_ints]
  rfl
theorem shaped_intsT (js : List Int) : SeqAt.shaped (ti js) = true := by
  unfold SeqAt.shaped ti
  rw [PyData.canLay0, canLay_ints, PyData.depth, depth_ints]
  rfl
theorem shaped_int (j : Int) : SeqAt.shaped (.int j) = true := by
  unfold SeqAt.shaped
  rw [PyData.canLay0, PyData.depth]
  rfl
theorem any_eqv (j : Int) : ∀ p : List Int, ((p.map PyData.int).any fun z => PyData.eqv z (.int j)) = p.elem j
  | [] => rfl
  | x :: p => by
    rw [List.map_cons, List.any_cons, any_eqv j p, eqv_int]
    by_cases h : x = j
    · subst h; simp
    · have h2 : ¬ j = x := fun e => h e.symm
      simp [h, h2]
theorem notIn_eq (j : Int) (p : List Int) : gNotIn (.d (.int j)) (.d (ti p)) = some (.d (.bool (!p.elem j))) := by
  show (if SeqAt.shaped (.int j) = true then if SeqAt.shaped (.list (p.map PyData.int)) = true then some (RV.d (.bool (!((p.map PyData.int).any fun z => PyData.eqv z (.int j))))) else none else none) = _
  rw [if_pos (shaped_int j), if_pos (shaped_ints p), any_eqv]
theorem eqv_intsA : ∀ xs ys : List Int, PyData.eqvAll (xs.map PyData.int) (ys.map PyData.int) = decide (xs = ys)
  | [], [] => by simp [PyData.eqvAll]
  | [], y :: ys => by simp [PyData.eqvAll]
  | x :: xs, [] => by simp [PyData.eqvAll]
  | x :: xs, y :: ys => by
    rw [List.map_cons, List.map_cons, PyData.eqvAll, eqv_intsA xs ys, eqv_int]
    by_cases h : x = y <;> by_cases h2 : xs = ys <;> simp [h, h2]
theorem eq_lists (neg : Bool) (xs ys : List Int) : gEqB neg (.n (xs.map PyData.int)) (.n (ys.map PyData.int)) = some (.d (.bool (if neg then !decide (xs = ys) else decide (xs = ys)))) := by
  show (if SeqAt.shaped (.list (xs.map PyData.int)) = true then if SeqAt.shaped (.list (ys.map PyData.int)) = true then some (RV.d (.bool (if neg then !PyData.eqv (.list (xs.map PyData.int)) (.list (ys.map PyData.int)) else PyData.eqv (.list (xs.map PyData.int)) (.list (ys.map PyData.int))))) else none else none) = _
  rw [if_pos (shaped_ints _), if_pos (shaped_ints _), PyData.eqv, eqv_intsA]
theorem eq_ints (neg : Bool) (x y : Int) : gEqB neg (.d (.int x)) (.d (.int y)) = some (.d (.bool (if neg then !decide (x = y) else decide (x = y)))) := by
  show (if SeqAt.shaped (.int x) = true then if SeqAt.shaped (.int y) = true then some (RV.d (.bool (if neg then !PyData.eqv (.int x) (.int y) else PyData.eqv (.int x) (.int y)))) else none else none) = _
  rw [if_pos (shaped_int _), if_pos (shaped_int _), eqv_int]
end DVL

namespace DVL
open PySem L2 DV
def val (ts : List Int) (j : Int) : Int := ts.getD j.toNat 0
theorem ix_map {ts : List Int} {j : Int} (h0 : 0 ≤ j) (h1 : j < ts.length) : atI (ts.map PyData.int) j = some (.int (val ts j)) := by
  have hl : j.toNat < ts.length := by omega
  have e : (ts.map PyData.int)[j.toNat]? = some (.int (val ts j)) := by
    rw [List.getElem?_map, List.getElem?_eq_getElem hl]
    unfold val
    rw [List.getD_eq_getElem?_getD, List.getElem?_eq_getElem hl]
    rfl
  have := atI_nat e
  rwa [Int.toNat_of_nonneg h0] at this
theorem gIx_ti {ts : List Int} {j : Int} (h0 : 0 ≤ j) (h1 : j < ts.length) : gIx (.d (ti ts)) (.d (.int j)) = some (.d (.int (val ts j))) := by
  show (atI (ts.map PyData.int) j).map RV.d = _
  rw [ix_map h0 h1]
  rfl
theorem gIx_b {ts : List Int} {j : Int} (h0 : 0 ≤ j) (h1 : j < ts.length) : gIx (.b (ts.map PyData.int)) (.d (.int j)) = some (.d (.int (val ts j))) := by
  show (atI (ts.map PyData.int) j).map RV.d = _
  rw [ix_map h0 h1]
  rfl
theorem val_mem {ts : List Int} {j : Int} (h0 : 0 ≤ j) (h1 : j < ts.length) : val ts j ∈ ts := by
  have hl : j.toNat < ts.length := by omega
  unfold val
  rw [List.getD_eq_getElem?_getD, List.getElem?_eq_getElem hl]
  exact List.getElem_mem hl
theorem alike_intsB (js : List Int) : alikeB (js.map PyData.int) = true := by
  unfold alikeB
  rw [depth_ints]
  have h1 : ((js.map PyData.int).all fun x => (js.map PyData.int).all (PySem.W.alike x)) = true := by
    rw [List.all_eq_true]
    intro x hx
    rw [List.all_eq_true]
    intro y hy
    obtain ⟨a, _, rfl⟩ := List.mem_map.mp hx
    obtain ⟨b, _, rfl⟩ := List.mem_map.mp hy
    simp [PySem.W.alike]
  have h2 : ((js.map PyData.int).all fun x => !isNoneD x) = true := by
    rw [List.all_eq_true]
    intro x hx
    obtain ⟨a, _, rfl⟩ := List.mem_map.mp hx
    rfl
  rw [h1, h2]
  rfl
theorem foldl_min (js : List Int) : ∀ a : Int, js.foldl min a ∈ a :: js ∧ js.foldl min a ≤ a ∧ ∀ x ∈ js, js.foldl min a ≤ x := by
  induction js with
  | nil => exact fun a => ⟨List.mem_cons_self, Int.le_refl _, fun _ h => nomatch h⟩
  | cons j js ih =>
    intro a
    obtain ⟨h1, h2, h3⟩ := ih (min a j)
    rw [List.foldl_cons]
    refine ⟨?_, by omega, fun x hx => ?_⟩
    · rcases List.mem_cons.mp h1 with q | q
      · rw [q]
        by_cases h : a ≤ j
        · rw [Int.min_eq_left h]; exact List.mem_cons_self
        · rw [Int.min_eq_right (by omega)]; exact List.mem_cons_of_mem _ List.mem_cons_self
      · exact List.mem_cons_of_mem _ (List.mem_cons_of_mem _ q)
    · rcases List.mem_cons.mp hx with q | q
      · subst q; omega
      · exact h3 x q
theorem gMin_ints (js : List Int) (hne : js ≠ []) : ∃ m, gBest PySem.W.minD [.n (js.map PyData.int)] = some (.d (.int m)) ∧ m ∈ js ∧ ∀ x ∈ js, m ≤ x := by
  cases js with
  | nil => exact absurd rfl hne
  | cons j js =>
    obtain ⟨h1, h2, h3⟩ := foldl_min js j
    refine ⟨js.foldl min j, ?_, h1, fun x hx => ?_⟩
    · show (if alikeB ((j :: js).map PyData.int) = true then some (RV.d (PySem.W.minD (.int j) (js.map PyData.int))) else none) = _
      rw [if_pos (alike_intsB _), PySem.W.minD_ints]
    · rcases List.mem_cons.mp hx with q | q
      · subst q; exact h2
      · exact h3 x q
end DVL

namespace DVL
open PySem L2 DV
def fitI : List (Int × Int) → Int → Int → Int
  | [], d, _ => d
  | (b, e) :: r, d, t => if b < d + t ∧ d < e then fitI r e t else fitI r d t
/-- the day behind the order, the sum of ends times weights -/
def fin (ss : List (Int × Int)) (ts : List Int) (d : Int) (p : List Int) : Int := p.foldl (fun d j => fitI ss d (val ts j) + val ts j) d
end DVL

namespace DVL
open PySem L2 DV
abbrev pr (p : Int × Int) : D := .tuple [.int p.1, .int p.2]
abbrev sts (ss : List (Int × Int)) : D := .tuple (ss.map pr)
end DVL

namespace DVL
open PySem L2 DV
/-- times as they are drawn -/
structure Tm (ts : List Int) : Prop where
  pos : 1 ≤ ts.length
  len : ts.length ≤ 10
  tim : ∀ t ∈ ts, 1 ≤ t ∧ t ≤ 60
theorem Tm.t {ts : List Int} (W : Tm ts) {j : Int} (h0 : 0 ≤ j) (h1 : j < ts.length) : 1 ≤ val ts j ∧ val ts j ≤ 60 := W.tim _ (val_mem h0 h1)
theorem need_weights_ok (ws : List Int) (n : Nat) (hl : ws.length = n) (hn : n ≤ 100) (h : ∀ t ∈ ws, 0 ≤ t ∧ t ≤ 60) : DV.Gives (m_need_weights [.d (ti ws), .d (.int (n : Nat))]) fun r => r = .d .none := by
  subst hl
  refine gv_run (gv_seq (gv_set (gv_fn (gv_cons (gv_var rfl (gv_cons (gv_var rfl (gv_cons (gv_c (gv_cons (gv_c (gv_nil ⟨rfl, ?_⟩))))))))))))
  refine (first_bad_ok ws 0 60 (by omega) h).mono fun r e => ?_
  subst e
  refine ⟨_, rfl, gv_if (gv_T (gv_e2 (gv_var rfl (gv_neg (gv_c ⟨1, rfl, _, rfl, false, rfl, (fun q => nomatch q), fun _ => gv_nop rfl⟩)))))⟩
theorem rep_map (n : Nat) : (List.replicate n [PyData.int 0]).flatten = (List.replicate n (0 : Int)).map PyData.int := by
  induction n with
  | zero => rfl
  | succ n ih =>
    rw [List.replicate_succ, List.flatten_cons, ih, List.replicate_succ]
    rfl
theorem zeros_eq (n : Nat) (hn : n ≤ 1000) : gMulA (.n [.int 0]) (.d (.int (n : Nat))) = some (.n ((List.replicate n (0 : Int)).map PyData.int)) := by
  show (if -1000 ≤ (n : Int) ∧ (n : Int) ≤ 1000 ∧ ([PyData.int 0] : List D).length ≤ 1000 then some (RV.n (List.replicate (n : Int).toNat [PyData.int 0]).flatten) else none) = _
  rw [if_pos ⟨by omega, by omega, by simp⟩, Int.toNat_natCast, rep_map]
theorem ixN_nat {n : Nat} {j : Int} (h0 : 0 ≤ j) (h1 : j < n) : ixN n j = some j.toNat := by
  unfold ixN
  rw [if_pos h0, if_pos h1]
theorem gv_put {i : Nat} {f g : DV.Env → M RV} {ρ : DV.Env} {Q : Out → Prop} {ds : List D} (e1 : sApp.own? ρ i = some ds) (p : DV.Gives (f ρ) fun x => DV.Gives (g ρ) fun y => ∃ j d m, asInt y = some j ∧ toD x = some d ∧ ixN ds.length j = some m ∧ Q (.nx (ρ.set i (some (.o (ds.set m d)))))) : DV.Gives (sPut i f g ρ) Q := by
  unfold sPut
  refine DV.Gives.bnd p fun x q => ?_
  rw [e1, lft_s, bnd_ret]
  refine DV.Gives.bnd q fun y ⟨j, d, m, a1, a2, a3, q⟩ => ?_
  rw [a1, lft_s, bnd_ret, a2, lft_s, bnd_ret, a3, lft_s, bnd_ret]
  exact DV.Gives.ret q
theorem atI_pr (ss : List (Int × Int)) {k : Nat} (hk : k < ss.length) : atI (ss.map pr) (k : Int) = some (pr ss[k]) := by
  refine atI_nat ?_
  rw [List.getElem?_map, List.getElem?_eq_getElem hk]
  rfl
end DVL



namespace DVL
open PySem L2 DV
theorem gv_lcG {t : DV.Env → M Bool} {h : DV.Env → M RV} {ρ : DV.Env} {P : RV → Prop} {fi : DV.Env → M (List D × Option Nat)} {vs : List Nat} {tg : D → DV.Env → Option DV.Env} (p : DV.Gives (fi ρ) fun q => q.1.length ≤ 100000 ∧ DV.Gives (lcF tg t h (wipeE ρ vs) q.1) fun ds => P (.n ds)) : DV.Gives (eLc fi vs tg t h ρ) P := by
  unfold eLc
  refine DV.Gives.bnd p fun q ⟨hl, g⟩ => DV.Gives.bnd g fun ds hp => ?_
  show DV.Gives (if q.1.length ≤ 100000 then DV.ret (RV.n ds) else DV.fail) P
  rw [if_pos hl]
  exact DV.Gives.ret hp
theorem gv_srcE {f : DV.Env → M RV} {ρ : DV.Env} {P : List D × Option Nat → Prop} (p : DV.Gives (f ρ) fun x => ∃ ds, srcOf x = some ds ∧ P (ds, none)) : DV.Gives (srcE f ρ) P :=
  DV.Gives.bnd p fun x ⟨ds, e, q⟩ => by rw [e, lft_s, bnd_ret]; exact DV.Gives.ret q
theorem gv_forG {fi : DV.Env → M (List D × Option Nat)} {tg : D → DV.Env → Option DV.Env} {g : DV.Env → M Out} {ρ : DV.Env} {Q : Out → Prop} (p : DV.Gives (fi ρ) fun q => DV.Gives (loopF tg g q.1 (lockE ρ q.2)) fun o => Q (unlockO ρ q.2 o)) : DV.Gives (sFor fi tg g ρ) Q := by
  unfold sFor
  exact DV.Gives.bnd p fun q h => DV.Gives.bnd h fun o r => DV.Gives.ret r
theorem gMax_ints (js : List Int) (hne : js ≠ []) : ∃ m, gBest PySem.W.maxD [.d (ti js)] = some (.d (.int m)) ∧ m ∈ js ∧ ∀ x ∈ js, x ≤ m := by
  have foldl_max : ∀ (js : List Int) (a : Int), js.foldl max a ∈ a :: js ∧ a ≤ js.foldl max a ∧ ∀ x ∈ js, x ≤ js.foldl max a := fun js => by
    induction js with
    | nil => exact fun a => ⟨List.mem_cons_self, Int.le_refl _, fun _ h => nomatch h⟩
    | cons j js ih =>
      intro a
      obtain ⟨h1, h2, h3⟩ := ih (max a j)
      rw [List.foldl_cons]
      refine ⟨?_, by omega, fun x hx => ?_⟩
      · rcases List.mem_cons.mp h1 with q | q
        · rw [q]
          by_cases h : j ≤ a
          · rw [Int.max_eq_left h]; exact List.mem_cons_self
          · rw [Int.max_eq_right (by omega)]; exact List.mem_cons_of_mem _ List.mem_cons_self
        · exact List.mem_cons_of_mem _ (List.mem_cons_of_mem _ q)
      · rcases List.mem_cons.mp hx with q | q
        · subst q; omega
        · exact h3 x q
  cases js with
  | nil => exact absurd rfl hne
  | cons j js =>
    obtain ⟨h1, h2, h3⟩ := foldl_max js j
    refine ⟨js.foldl max j, ?_, h1, fun x hx => ?_⟩
    · show (if alikeB ((j :: js).map PyData.int) = true then some (RV.d (PySem.W.maxD (.int j) (js.map PyData.int))) else none) = _
      rw [if_pos (alike_intsB _), PySem.W.maxD_ints]
    · rcases List.mem_cons.mp hx with q | q
      · subst q; exact h2
      · exact h3 x q
end DVL


namespace DVL
open PySem L2 DV
theorem rng_get : ∀ (n : Nat) (lo : Int) (i : Nat), i < n → (rngI lo n)[i]? = some (lo + i)
  | 0, _, _, h => absurd h (Nat.not_lt_zero _)
  | n + 1, lo, 0, _ => by simp [rngI]
  | n + 1, lo, i + 1, h => by
    show (rngI (lo + 1) n)[i]? = _
    rw [rng_get n (lo + 1) i (by omega)]
    congr 1
    omega
/-- a walk over a range: the next one -/
theorem rng_step {j : Int} {rest : List Int} {u n : Nat} (h : j :: rest = rngI (u : Int) (n - u)) : j = (u : Int) ∧ u < n ∧ rest = rngI ((u + 1 : Nat) : Int) (n - (u + 1)) := by
  obtain ⟨w, hw⟩ : ∃ w, n - u = w + 1 := by
    cases e : n - u with
    | zero => rw [e] at h; cases h
    | succ w => exact ⟨w, rfl⟩
  rw [hw] at h
  obtain ⟨e1, e2⟩ := List.cons.inj (show j :: rest = (u : Int) :: rngI ((u : Int) + 1) w from h)
  exact ⟨e1, by omega, by rw [e2, show n - (u + 1) = w by omega]; rfl⟩
theorem rng_end {u n : Nat} (h : [] = rngI (u : Int) (n - u)) (hu : u ≤ n) : u = n := by
  have := congrArg List.length h
  rw [rngI_len] at this
  have h0 : 0 = n - u := this
  omega
theorem val_get {L : List Int} {i : Nat} (h : i < L.length) : val L (i : Int) = L[i] := by
  unfold val
  rw [List.getD_eq_getElem?_getD, Int.toNat_natCast, List.getElem?_eq_getElem h]
  rfl
theorem val_map_rng (f : Int → Int) (n : Nat) {j : Int} (h0 : 0 ≤ j) (h1 : j < n) : val ((rngI 0 n).map f) j = f j := by
  unfold val
  rw [List.getD_eq_getElem?_getD, List.getElem?_map, rng_get n 0 _ (by omega)]
  show f (0 + (j.toNat : Int)) = f j
  congr 1
  omega
end DVL

namespace DV
open PySem L2
def KSeq (g2 : Env → M Out) (Q : Out → Prop) : Out → Prop := fun o => match o with
  | .nx ρ' => Gives (g2 ρ') Q
  | o => Q o
def KRun (P : RV → Prop) : Out → Prop := fun o => match o with
  | .nx _ => P (.d .none)
  | .rt r => P r
  | _ => False
def KLoop (J : Env → Prop) (Q : Out → Prop) : Out → Prop := fun o => match o with
  | .nx ρ2 => J ρ2
  | .ct ρ2 => J ρ2
  | .bk ρ2 => Q (.nx ρ2)
  | .rt r => Q (.rt r)
def KTg (o : Option Env) (C : Env → Prop) : Prop := ∃ ρ1, o = some ρ1 ∧ C ρ1
def KSet (i : Nat) (ρ : Env) (Q : Out → Prop) (x : RV) : Prop := ∃ sv, toS x = some sv ∧ Q (.nx (ρ.set i (some sv)))
def KPar (i j : Nat) (ρ : Env) (Q : Out → Prop) (xs : List RV) : Prop := ∃ x y sx sy, xs = [x, y] ∧ toS x = some sx ∧ toS y = some sy ∧ Q (.nx ((ρ.set i (some sx)).set j (some sy)))
def KPar3 (i j l : Nat) (ρ : Env) (Q : Out → Prop) (xs : List RV) : Prop := ∃ x y z sx sy sz, xs = [x, y, z] ∧ toS x = some sx ∧ toS y = some sy ∧ toS z = some sz ∧ Q (.nx (((ρ.set i (some sx)).set j (some sy)).set l (some sz)))
def KPar4 (i j l m : Nat) (ρ : Env) (Q : Out → Prop) (xs : List RV) : Prop := ∃ x y z w sx sy sz sw, xs = [x, y, z, w] ∧ toS x = some sx ∧ toS y = some sy ∧ toS z = some sz ∧ toS w = some sw ∧ Q (.nx ((((ρ.set i (some sx)).set j (some sy)).set l (some sz)).set m (some sw)))
def KRet (Q : Out → Prop) (x : RV) : Prop := ∃ y, toRet x = some y ∧ Q (.rt y)
def KTup (hh : D → Env → Option Env) (ρ : Env) (Q : Out → Prop) (x : RV) : Prop := ∃ d ρ', x = .d d ∧ hh d ρ = some ρ' ∧ Q (.nx ρ')
def KD (C : D → Prop) (x : RV) : Prop := ∃ d, toD x = some d ∧ C d
def KI (C : Int → Prop) (x : RV) : Prop := ∃ d, asInt x = some d ∧ C d
def K2 (gg : RV → RV → Option RV) (P : RV → Prop) (x y : RV) : Prop := ∃ z, gg x y = some z ∧ P z
def KC (gg : List RV → Option RV) (P : RV → Prop) (xs : List RV) : Prop := ∃ z, gg xs = some z ∧ P z
def KF (n : Nat) (m : List RV → M RV) (P : RV → Prop) (xs : List RV) : Prop := xs.length = n ∧ Gives (m (xs.map readable)) P
def KB (PB : Bool → Prop) (x : RV) : Prop := ∃ b, asBool x = some b ∧ PB b
def KIf (A B : Prop) (b : Bool) : Prop := (b = true → A) ∧ (b = false → B)
def KTu (P : RV → Prop) (xs : List RV) : Prop := ∃ ds, toDs xs = some ds ∧ ds.length ≤ 100000 ∧ P (.d (.tuple ds))
def KLs (P : RV → Prop) (xs : List RV) : Prop := ∃ ds, toDs xs = some ds ∧ ds.length ≤ 100000 ∧ P (.n ds)
def KLc (vs : List Nat) (tg : D → Env → Option Env) (t : Env → M Bool) (el : Env → M RV) (ρ : Env) (P : RV → Prop) (q : List D × Option Nat) : Prop := q.1.length ≤ 100000 ∧ Gives (lcF tg t el (wipeE ρ vs) q.1) fun ds => P (.n ds)
def KFor (tg : D → Env → Option Env) (g : Env → M Out) (ρ : Env) (Q : Out → Prop) (q : List D × Option Nat) : Prop := Gives (loopF tg g q.1 (lockE ρ q.2)) fun o => Q (unlockO ρ q.2 o)
def KSrc (C : List D × Option Nat → Prop) (x : RV) : Prop := ∃ ds, srcOf x = some ds ∧ C (ds, none)
def KRng (C : List D × Option Nat → Prop) (x : RV) : Prop := ∃ n, asInt x = some n ∧ n ≤ 100000 ∧ -100000 ≤ n ∧ C ((rngD 0 n.toNat), none)
def KRng2 (C : List D × Option Nat → Prop) (x y : RV) : Prop := ∃ a b, asInt x = some a ∧ asInt y = some b ∧ (a ≤ 100000 ∧ -100000 ≤ a ∧ b ≤ 100000 ∧ -100000 ≤ b) ∧ C ((DVL.rngI a (b - a).toNat).map PyData.int, none)
section
variable {α β : Type} {ρ ρ' : Env} {P : RV → Prop} {Q : Out → Prop} {PA : List RV → Prop} {PB : Bool → Prop} {f h k : Env → M RV} {fa : Env → M (List RV)} {g g2 : Env → M Out} {t t2 : Env → M Bool} {x y : RV} {A B : Prop} {C : List D × Option Nat → Prop} {tg : D → Env → Option Env}
theorem w_is {m : M α} {a : α} {P : α → Prop} (p : Gives m fun r => r = a) (q : P a) : Gives m P := p.mono fun r e => by subst e; exact q
theorem w_use {m : M α} {P0 P : α → Prop} (p : Gives m P0) (q : ∀ r, P0 r → P r) : Gives m P := p.mono q
theorem w_seq (p : Gives (g ρ) (KSeq g2 Q)) : Gives (sSeq g g2 ρ) Q := gv_seq p
theorem w_seqN (p : Gives (g2 ρ') Q) : KSeq g2 Q (.nx ρ') := p
theorem w_seqR (p : Q (.rt x)) : KSeq g2 Q (.rt x) := p
theorem w_seqB (p : Q (.bk ρ)) : KSeq g2 Q (.bk ρ) := p
theorem w_seqC (p : Q (.ct ρ)) : KSeq g2 Q (.ct ρ) := p
theorem w_loopN {J : Env → Prop} (p : J ρ) : KLoop J Q (.nx ρ) := p
theorem w_loopC {J : Env → Prop} (p : J ρ) : KLoop J Q (.ct ρ) := p
theorem w_loopB {J : Env → Prop} (p : Q (.nx ρ)) : KLoop J Q (.bk ρ) := p
theorem w_loopR {J : Env → Prop} (p : Q (.rt x)) : KLoop J Q (.rt x) := p
theorem w_runN (p : P (.d .none)) : KRun P (.nx ρ) := p
theorem w_runR (p : P x) : KRun P (.rt x) := p
theorem w_tg {o : Option Env} {C : Env → Prop} (e : o = some ρ) (p : C ρ) : KTg o C := ⟨ρ, e, p⟩
theorem w_nop (p : Q (.nx ρ)) : Gives (sNil ρ) Q := Gives.ret p
theorem w_set {i : Nat} (p : Gives (f ρ) (KSet i ρ Q)) : Gives (sSet i f ρ) Q := gv_set p
theorem w_setX {i : Nat} {sv : SV} (e1 : toS x = some sv) (e : ρ.set i (some sv) = ρ') (p : Q (.nx ρ')) : KSet i ρ Q x := ⟨sv, e1, by rw [e]; exact p⟩
theorem w_rt (p : Gives (f ρ) (KRet Q)) : Gives (sRet f ρ) Q := gv_rt p
theorem w_rtD {d : D} (p : Q (.rt (.d d))) : KRet Q (.d d) := ⟨_, rfl, p⟩
theorem w_rtN {d : List D} (p : Q (.rt (.n d))) : KRet Q (.n d) := ⟨_, rfl, p⟩
theorem w_rtV {i : Nat} (e : vown ρ i = some x) (p : Q (.rt x)) : Gives (sRetV i ρ) Q := gv_rtV e p
theorem w_if (p : Gives (t ρ) fun b => KIf (Gives (g ρ) Q) (Gives (g2 ρ) Q) b) : Gives (sIf t g g2 ρ) Q := gv_if p
theorem w_drop (p : Gives (f ρ) fun _ => Q (.nx ρ)) : Gives (sDrop f ρ) Q := gv_drop p
theorem w_stup {hh : D → Env → Option Env} (p : Gives (f ρ) (KTup hh ρ Q)) : Gives (sTup f hh ρ) Q := gv_stup p
theorem w_stupD {hh : D → Env → Option Env} {d : D} (e : hh d ρ = some ρ') (p : Q (.nx ρ')) : KTup hh ρ Q (.d d) := ⟨d, ρ', rfl, e, p⟩
theorem w_aug {i : Nat} {kf : Int → Int → Int} {a : Int} (e1 : vget ρ i = some (.d (.int a))) (p : Gives (f ρ) (KI fun b => KSet i ρ Q (.d (.int (kf a b))))) : Gives (sAug i kf f ρ) Q :=
  gv_aug e1 rfl (p.mono fun x ⟨b, e, sv, e2, q⟩ => ⟨b, e, by cases e2; exact q⟩)
theorem w_I {C : Int → Prop} {i : Int} (p : C i) : KI C (.d (.int i)) := ⟨i, rfl, p⟩
theorem w_app {i : Nat} {ds : List D} (e1 : sApp.own? ρ i = some ds) (hl : ds.length < 100000) (p : Gives (f ρ) (KD fun d => KSet i ρ Q (.n (ds ++ [d])))) : Gives (sApp i f ρ) Q :=
  gv_app e1 hl (p.mono fun x ⟨d, e, sv, e2, q⟩ => ⟨d, e, by cases e2; exact q⟩)
theorem w_D {C : D → Prop} {d : D} (p : C d) : KD C (.d d) := ⟨d, rfl, p⟩
theorem w_for {fi : Env → M (List D × Option Nat)} (p : Gives (fi ρ) (KFor tg g ρ Q)) : Gives (sFor fi tg g ρ) Q := DVL.gv_forG p
/-- several names at once -/
theorem w_par {i j : Nat} (p : Gives (fa ρ) (KPar i j ρ Q)) : Gives (sPar i j fa ρ) Q := gv_par p
theorem w_parX {i j : Nat} {sx sy : SV} (e1 : toS x = some sx) (e2 : toS y = some sy) (e : (ρ.set i (some sx)).set j (some sy) = ρ') (q : Q (.nx ρ')) : KPar i j ρ Q [x, y] := ⟨x, y, sx, sy, rfl, e1, e2, by rw [e]; exact q⟩
theorem w_par3 {i j l : Nat} (p : Gives (fa ρ) (KPar3 i j l ρ Q)) : Gives (sPar3 i j l fa ρ) Q := gv_par3 p
theorem w_par3X {i j l : Nat} {z : RV} {sx sy sz : SV} (e1 : toS x = some sx) (e2 : toS y = some sy) (e3 : toS z = some sz) (e : ((ρ.set i (some sx)).set j (some sy)).set l (some sz) = ρ') (q : Q (.nx ρ')) : KPar3 i j l ρ Q [x, y, z] := ⟨x, y, z, sx, sy, sz, rfl, e1, e2, e3, by rw [e]; exact q⟩
theorem w_par4 {i j l m : Nat} (p : Gives (fa ρ) (KPar4 i j l m ρ Q)) : Gives (sPar4 i j l m fa ρ) Q :=
  Gives.bnd p fun xs ⟨x, y, z, w, sx, sy, sz, sw, e, e1, e2, e3, e4, q⟩ => by
    subst e
    show Gives (bnd (lft (toS x)) fun sx => bnd (lft (toS y)) fun sy => bnd (lft (toS z)) fun sz => bnd (lft (toS w)) fun sw => ret (.nx ((((ρ.set i (some sx)).set j (some sy)).set l (some sz)).set m (some sw)))) Q
    rw [e1, lft_s, bnd_ret, e2, lft_s, bnd_ret, e3, lft_s, bnd_ret, e4, lft_s, bnd_ret]
    exact Gives.ret q
theorem w_par4X {i j l m : Nat} {z w : RV} {sx sy sz sw : SV} (e1 : toS x = some sx) (e2 : toS y = some sy) (e3 : toS z = some sz) (e4 : toS w = some sw) (e : (((ρ.set i (some sx)).set j (some sy)).set l (some sz)).set m (some sw) = ρ') (q : Q (.nx ρ')) : KPar4 i j l m ρ Q [x, y, z, w] := ⟨x, y, z, w, sx, sy, sz, sw, rfl, e1, e2, e3, e4, by rw [e]; exact q⟩
theorem w_var {i : Nat} (e : vget ρ i = some x) (p : P x) : Gives (eVar i ρ) P := gv_var e p
theorem w_c {d : D} (p : P (.d d)) : Gives (eC d ρ) P := Gives.ret p
theorem w_e2 {gg : RV → RV → Option RV} (p : Gives (f ρ) fun x => Gives (h ρ) fun y => K2 gg P x y) : Gives (e2 gg f h ρ) P := gv_e2 p
theorem w_nil (p : PA []) : Gives (aNil ρ) PA := Gives.ret p
theorem w_cons (p : Gives (f ρ) fun x => Gives (fa ρ) fun xs => PA (x :: xs)) : Gives (aCons f fa ρ) PA := gv_cons p
theorem w_call {gg : List RV → Option RV} (p : Gives (fa ρ) (KC gg P)) : Gives (eCall gg fa ρ) P := gv_call p
theorem w_fn {m : List RV → M RV} {n : Nat} (p : Gives (fa ρ) (KF n m P)) : Gives (eFn (fun xs => if xs.length = n then m xs else fail) fa ρ) P := gv_fn p
theorem w_f1 {m : List RV → M RV} {x1 : RV} (p : Gives (m [readable x1]) P) : KF 1 m P [x1] := ⟨rfl, p⟩
theorem w_f2 {m : List RV → M RV} {x1 x2 : RV} (p : Gives (m [readable x1, readable x2]) P) : KF 2 m P [x1, x2] := ⟨rfl, p⟩
theorem w_f3 {m : List RV → M RV} {x1 x2 x3 : RV} (p : Gives (m [readable x1, readable x2, readable x3]) P) : KF 3 m P [x1, x2, x3] := ⟨rfl, p⟩
theorem w_f4 {m : List RV → M RV} {x1 x2 x3 x4 : RV} (p : Gives (m [readable x1, readable x2, readable x3, readable x4]) P) : KF 4 m P [x1, x2, x3, x4] := ⟨rfl, p⟩
theorem w_f5 {m : List RV → M RV} {x1 x2 x3 x4 x5 : RV} (p : Gives (m [readable x1, readable x2, readable x3, readable x4, readable x5]) P) : KF 5 m P [x1, x2, x3, x4, x5] := ⟨rfl, p⟩
theorem w_f6 {m : List RV → M RV} {x1 x2 x3 x4 x5 x6 : RV} (p : Gives (m [readable x1, readable x2, readable x3, readable x4, readable x5, readable x6]) P) : KF 6 m P [x1, x2, x3, x4, x5, x6] := ⟨rfl, p⟩
theorem w_tup (p : Gives (fa ρ) (KTu P)) : Gives (eTup fa ρ) P := gv_tup p
theorem w_lst (p : Gives (fa ρ) (KLs P)) : Gives (eLst fa ρ) P := gv_lst p
theorem w_tu {xs : List RV} {ds : List D} (e : toDs xs = some ds) (hl : ds.length ≤ 100000) (p : P (.d (.tuple ds))) : KTu P xs := ⟨ds, e, hl, p⟩
theorem w_ls {xs : List RV} {ds : List D} (e : toDs xs = some ds) (hl : ds.length ≤ 100000) (p : P (.n ds)) : KLs P xs := ⟨ds, e, hl, p⟩
theorem w_neg (p : Gives (f ρ) (KI fun i => P (.d (.int (-i))))) : Gives (eNeg f ρ) P := gv_neg p
theorem w_ifB (p : Gives (f ρ) (KB fun b => KIf (Gives (h ρ) P) (Gives (k ρ) P) b)) : Gives (eIfB f h k ρ) P := gv_ifB p
theorem w_ifE (p : Gives (t ρ) fun b => KIf (Gives (h ρ) P) (Gives (k ρ) P) b) : Gives (eIf t h k ρ) P := gv_ifE p
theorem w_notB (p : Gives (f ρ) (KB fun b => P (.d (.bool (!b))))) : Gives (eNotB f ρ) P := gv_notB p
theorem w_T (p : Gives (f ρ) (KB PB)) : Gives (eT f ρ) PB := gv_T p
theorem w_B {b : Bool} (p : PB b) : KB PB (.d (.bool b)) := ⟨b, rfl, p⟩
theorem w_not (p : Gives (t ρ) fun b => PB (!b)) : Gives (tNotF t ρ) PB := gv_not p
theorem w_and (p : Gives (t ρ) fun b => KIf (Gives (t2 ρ) PB) (PB false) b) : Gives (tIfT t t2 (tRetB false) ρ) PB := gv_and p
theorem w_or (p : Gives (t ρ) fun b => KIf (PB true) (Gives (t2 ρ) PB) b) : Gives (tIfT t (tRetB true) t2 ρ) PB := gv_or p
theorem w_tt (p : PB true) : Gives (tTrue ρ) PB := Gives.ret p
theorem w_ch {gg g' : RV → RV → Option RV} (p : Gives (f ρ) fun x => Gives (h ρ) fun y => K2 gg (KB fun b => KIf (Gives (k ρ) fun w => K2 g' P y w) (P (.d (.bool false))) b) x y) : Gives (eCh gg g' f h k ρ) P :=
  gv_ch (p.mono fun x q => q.mono fun y ⟨z, e, b, e2, q1, q2⟩ => by
    cases z with
    | d z =>
      cases z with
      | bool c => cases e2; exact ⟨_, e, q1, q2⟩
      | _ => cases e2
    | _ => cases e2)
theorem w_ifT (p : A) : KIf A B true := ⟨fun _ => p, fun q => nomatch q⟩
theorem w_ifF (p : B) : KIf A B false := ⟨fun q => (nomatch q), fun _ => p⟩
theorem w_ifNT (p : B) : KIf A B (!true) := w_ifF p
theorem w_ifNF (p : A) : KIf A B (!false) := w_ifT p
theorem w_dec {a : Prop} [Decidable a] (p : a → A) (q : ¬a → B) : KIf A B (decide a) := ⟨fun e => p (of_decide_eq_true e), fun e => q (of_decide_eq_false e)⟩
theorem w_ndec {a : Prop} [Decidable a] (p : ¬a → A) (q : a → B) : KIf A B (!decide a) := ⟨fun e => p (by simpa using e), fun e => q (by simpa using e)⟩
theorem w_bool {b : Bool} (p : b = true → A) (q : b = false → B) : KIf A B b := ⟨p, q⟩
theorem w_decF {a : Prop} [Decidable a] (e : ¬a) (p : B) : KIf A B (decide a) := by rw [decide_eq_false e]; exact w_ifF p
theorem w_ndecT {a : Prop} [Decidable a] (e : a) (p : B) : KIf A B (!decide a) := by rw [decide_eq_true e]; exact w_ifF p
theorem w_add {a b : Int} (p : P (.d (.int (a + b)))) : K2 gAddA P (.d (.int a)) (.d (.int b)) := ⟨_, rfl, p⟩
theorem w_sub {a b : Int} (p : P (.d (.int (a - b)))) : K2 gSubI P (.d (.int a)) (.d (.int b)) := ⟨_, rfl, p⟩
theorem w_mul {a b : Int} (c : (-18446744073709551616 < a ∧ a < 18446744073709551616) ∨ (-18446744073709551616 < b ∧ b < 18446744073709551616)) (p : P (.d (.int (a * b)))) : K2 gMulA P (.d (.int a)) (.d (.int b)) :=
  ⟨_, gMulI_eq (c.elim (fun q => cMul_l q.1 q.2) fun q => cMul_r q.1 q.2), p⟩
theorem w_mod {a b : Int} (c : 0 < b) (p : P (.d (.int (a % b)))) : K2 gMod P (.d (.int a)) (.d (.int b)) := ⟨_, gMod_eq c, p⟩
theorem w_div {a b : Int} (c : 0 < b ∧ b < 1073741824) (p : P (.d (.int (a / b)))) : K2 gFdiv P (.d (.int a)) (.d (.int b)) := ⟨_, gFdiv_eq c.1 c.2, p⟩
theorem w_lt {a b : Int} (p : P (.d (.bool (decide (a < b))))) : K2 gLt P (.d (.int a)) (.d (.int b)) := ⟨_, rfl, p⟩
theorem w_le {a b : Int} (p : P (.d (.bool (decide (a ≤ b))))) : K2 gLe P (.d (.int a)) (.d (.int b)) := ⟨_, rfl, p⟩
theorem w_gt {a b : Int} (p : P (.d (.bool (decide (b < a))))) : K2 gGt P (.d (.int a)) (.d (.int b)) := ⟨_, rfl, p⟩
theorem w_ge {a b : Int} (p : P (.d (.bool (decide (b ≤ a))))) : K2 gGe P (.d (.int a)) (.d (.int b)) := ⟨_, rfl, p⟩
theorem w_ltA {a b : Int} (p : P (.d (.bool (decide (a < b))))) : K2 gLtA P (.d (.int a)) (.d (.int b)) := ⟨_, rfl, p⟩
theorem w_leA {a b : Int} (p : P (.d (.bool (decide (a ≤ b))))) : K2 gLeA P (.d (.int a)) (.d (.int b)) := ⟨_, rfl, p⟩
theorem w_gtA {a b : Int} (p : P (.d (.bool (decide (b < a))))) : K2 gGtA P (.d (.int a)) (.d (.int b)) := ⟨_, rfl, p⟩
theorem w_geA {a b : Int} (p : P (.d (.bool (decide (b ≤ a))))) : K2 gGeA P (.d (.int a)) (.d (.int b)) := ⟨_, rfl, p⟩
theorem w_eq {a b : Int} (p : P (.d (.bool (decide (a = b))))) : K2 gEq P (.d (.int a)) (.d (.int b)) := ⟨_, DVL.eq_ints false a b, p⟩
theorem w_ne {a b : Int} (p : P (.d (.bool (!decide (a = b))))) : K2 gNe P (.d (.int a)) (.d (.int b)) := ⟨_, DVL.eq_ints true a b, p⟩
theorem eq_bls (neg a b : Bool) : gEqB neg (.d (.bool a)) (.d (.bool b)) = some (.d (.bool (if neg then !(decide (a = b)) else decide (a = b)))) := by
  simp [gEqB, viewD, SeqAt.shaped, PyData.canLay0, PyData.depth, PyData.eqv]
  cases neg <;> cases a <;> cases b <;> rfl
theorem w_eqB {a b : Bool} (p : P (.d (.bool (decide (a = b))))) : K2 gEq P (.d (.bool a)) (.d (.bool b)) := ⟨_, eq_bls false a b, p⟩
theorem w_neB {a b : Bool} (p : P (.d (.bool (!decide (a = b))))) : K2 gNe P (.d (.bool a)) (.d (.bool b)) := ⟨_, eq_bls true a b, p⟩
theorem w_eqN {a b : List Int} (p : P (.d (.bool (decide (a = b))))) : K2 gEq P (.n (a.map PyData.int)) (.n (b.map PyData.int)) := ⟨_, DVL.eq_lists false a b, p⟩
theorem w_neN {a b : List Int} (p : P (.d (.bool (!decide (a = b))))) : K2 gNe P (.n (a.map PyData.int)) (.n (b.map PyData.int)) := ⟨_, DVL.eq_lists true a b, p⟩
theorem w_neN0 {a : List Int} (p : P (.d (.bool (!decide (a = []))))) : K2 gNe P (.n (a.map PyData.int)) (.n []) := ⟨_, DVL.eq_lists true a [], p⟩
theorem w_eqN0 {a : List Int} (p : P (.d (.bool (decide (a = []))))) : K2 gEq P (.n (a.map PyData.int)) (.n []) := ⟨_, DVL.eq_lists false a [], p⟩
theorem in_eq (j : Int) (q : List Int) : gIn (.d (.int j)) (.d (ti q)) = some (.d (.bool (q.elem j))) := by
  show (if SeqAt.shaped (.int j) = true then if SeqAt.shaped (.list (q.map PyData.int)) = true then some (RV.d (.bool ((q.map PyData.int).any fun z => PyData.eqv z (.int j)))) else none else none) = _
  rw [if_pos (DVL.shaped_int j), if_pos (DVL.shaped_ints q), DVL.any_eqv]
theorem w_in {j : Int} {q : List Int} (p : P (.d (.bool (q.elem j)))) : K2 gIn P (.d (.int j)) (.d (ti q)) := ⟨_, in_eq j q, p⟩
theorem w_inB {j : Int} {q : List Int} (p : P (.d (.bool (q.elem j)))) : K2 gIn P (.d (.int j)) (.b (q.map PyData.int)) := ⟨_, in_eq j q, p⟩
theorem w_notInB {j : Int} {q : List Int} (p : P (.d (.bool (!q.elem j)))) : K2 gNotIn P (.d (.int j)) (.b (q.map PyData.int)) := ⟨_, DVL.notIn_eq j q, p⟩
theorem w_notIn {j : Int} {q : List Int} (p : P (.d (.bool (!q.elem j)))) : K2 gNotIn P (.d (.int j)) (.d (ti q)) := ⟨_, DVL.notIn_eq j q, p⟩
theorem w_ix {ts : List Int} {j : Int} (c : 0 ≤ j ∧ j < ts.length) (p : P (.d (.int (DVL.val ts j)))) : K2 gIx P (.d (ti ts)) (.d (.int j)) := ⟨_, DVL.gIx_ti c.1 c.2, p⟩
theorem w_ixB {ts : List Int} {j : Int} (c : 0 ≤ j ∧ j < ts.length) (p : P (.d (.int (DVL.val ts j)))) : K2 gIx P (.b (ts.map PyData.int)) (.d (.int j)) := ⟨_, DVL.gIx_b c.1 c.2, p⟩
theorem w_ix0 {d : D} {ds : List D} (p : P (.d d)) : K2 gIx P (.d (.tuple (d :: ds))) (.d (.int 0)) := by
  refine ⟨.d d, ?_, p⟩
  show (atI (d :: ds) ((0 : Nat) : Int)).map RV.d = _
  rw [atI_nat (v := d) rfl]; rfl
theorem w_ix1 {d e : D} {ds : List D} (p : P (.d e)) : K2 gIx P (.d (.tuple (d :: e :: ds))) (.d (.int 1)) := by
  refine ⟨.d e, ?_, p⟩
  show (atI (d :: e :: ds) ((1 : Nat) : Int)).map RV.d = _
  rw [atI_nat (v := e) rfl]; rfl
theorem w_len {ts : List Int} (p : P (.d (.int (ts.length : Nat)))) : KC gLen P [.d (ti ts)] := ⟨.d (.int (ts.length : Nat)), by show some (RV.d (.int (((ts.map PyData.int).length : Nat) : Int))) = _; rw [List.length_map], p⟩
theorem w_lenB {ts : List Int} (p : P (.d (.int (ts.length : Nat)))) : KC gLen P [.b (ts.map PyData.int)] := ⟨.d (.int (ts.length : Nat)), by show some (RV.d (.int (((ts.map PyData.int).length : Nat) : Int))) = _; rw [List.length_map], p⟩
theorem w_lenN {ts : List Int} (p : P (.d (.int (ts.length : Nat)))) : KC gLen P [.n (ts.map PyData.int)] := ⟨.d (.int (ts.length : Nat)), by show some (RV.d (.int (((ts.map PyData.int).length : Nat) : Int))) = _; rw [List.length_map], p⟩
theorem w_lenD {ts : List D} (p : P (.d (.int (ts.length : Nat)))) : KC gLen P [.d (.tuple ts)] := ⟨_, rfl, p⟩
theorem w_lenDB {ts : List D} (p : P (.d (.int (ts.length : Nat)))) : KC gLen P [.b ts] := ⟨_, rfl, p⟩
theorem w_lenDN {ts : List D} (p : P (.d (.int (ts.length : Nat)))) : KC gLen P [.n ts] := ⟨_, rfl, p⟩
theorem w_tupN {ds : List D} (p : P (.d (.tuple ds))) : KC gTuple P [.n ds] := ⟨_, rfl, p⟩
theorem w_tupB {ds : List D} (p : P (.d (.tuple ds))) : KC gTuple P [.b ds] := ⟨_, rfl, p⟩
theorem w_tupD {ds : List D} (p : P (.d (.tuple ds))) : KC gTuple P [.d (.tuple ds)] := ⟨_, rfl, p⟩
theorem w_lstD {ds : List D} (p : P (.n ds)) : KC gList P [.d (.tuple ds)] := ⟨_, rfl, p⟩
theorem w_lstB {ds : List D} (p : P (.n ds)) : KC gList P [.b ds] := ⟨_, rfl, p⟩
theorem w_lstN {ds : List D} (p : P (.n ds)) : KC gList P [.n ds] := ⟨_, rfl, p⟩
theorem w_sum {ts : List Int} (p : P (.d (.int ts.sum))) : KC gSum P [.d (ti ts)] := ⟨_, DVL.gSum_eq ts, p⟩
theorem w_sumN {ts : List Int} (p : P (.d (.int ts.sum))) : KC gSum P [.n (ts.map PyData.int)] := ⟨_, DVL.gSum_eq ts, p⟩
theorem w_sumB {ts : List Int} (p : P (.d (.int ts.sum))) : KC gSum P [.b (ts.map PyData.int)] := ⟨_, DVL.gSum_eq ts, p⟩
theorem w_max2 {a b : Int} (p : P (.d (.int (max a b)))) : KC gMax2 P [.d (.int a), .d (.int b)] := by
  refine ⟨.d (.int (max a b)), ?_, p⟩
  show some (RV.d (.int (if b > a then b else a))) = _
  congr 3
  split <;> omega
theorem w_min2 {a b : Int} (p : P (.d (.int (min a b)))) : KC gMin2 P [.d (.int a), .d (.int b)] := by
  refine ⟨.d (.int (min a b)), ?_, p⟩
  show some (RV.d (.int (if b < a then b else a))) = _
  congr 3
  split <;> omega
theorem w_int {a : Int} (p : P (.d (.int a))) : KC gInt P [.d (.int a)] := ⟨_, rfl, p⟩
theorem w_sortN {a : List Int} (p : P (.n ((DV.sortI a).map PyData.int))) : KC gSort P [.n (a.map PyData.int)] := by
  refine ⟨_, ?_, p⟩
  show (match intsOf (a.map PyData.int) with | some js => some (RV.n ((DV.sortI js).map PyData.int)) | none => _) = _
  rw [DVL.intsOf_map]
theorem w_sortB {a : List Int} (p : P (.n ((DV.sortI a).map PyData.int))) : KC gSort P [.b (a.map PyData.int)] := by
  obtain ⟨z, e, q⟩ := w_sortN (a := a) p
  exact ⟨z, e, q⟩
theorem w_sort {a : List Int} (p : P (.n ((DV.sortI a).map PyData.int))) : KC gSort P [.d (ti a)] := by
  obtain ⟨z, e, q⟩ := w_sortN (a := a) p
  exact ⟨z, e, q⟩
theorem w_rep {x : Int} {n : Nat} (c : 1 ≤ n ∧ n ≤ 1000) (p : P (.d (ti (List.replicate n x)))) : K2 gMulA P (.d (.tuple [.int x])) (.d (.int (n : Nat))) := by
  refine ⟨_, ?_, p⟩
  show (if 1 ≤ (n : Int) ∧ (n : Int) ≤ 1000 ∧ ([PyData.int x] : List D).length ≤ 1000 ∧ [PyData.int x] ≠ [] then some (RV.d (.tuple (List.replicate (n : Int).toNat [PyData.int x]).flatten)) else none) = _
  rw [if_pos ⟨by omega, by omega, by simp, by simp⟩, Int.toNat_natCast, List.flatten_replicate_singleton]
  show _ = some (RV.d (.tuple ((List.replicate n x).map PyData.int)))
  rw [List.map_replicate]
theorem w_repN {x : Int} {n : Nat} (c : n ≤ 1000) (p : P (.n ((List.replicate n x).map PyData.int))) : K2 gMulA P (.n [.int x]) (.d (.int (n : Nat))) := by
  refine ⟨_, ?_, p⟩
  show (if -1000 ≤ (n : Int) ∧ (n : Int) ≤ 1000 ∧ ([PyData.int x] : List D).length ≤ 1000 then some (RV.n (List.replicate (n : Int).toNat [PyData.int x]).flatten) else none) = _
  rw [if_pos ⟨by omega, by omega, by simp⟩, Int.toNat_natCast, List.flatten_replicate_singleton, List.map_replicate]
theorem w_catNN {a b : List Int} (c : a.length + b.length ≤ 100000) (p : P (.n ((a ++ b).map PyData.int))) : K2 gAddA P (.n (a.map PyData.int)) (.n (b.map PyData.int)) := by
  refine ⟨_, ?_, p⟩
  show (if (a.map PyData.int).length + (b.map PyData.int).length ≤ 100000 then some (RV.n (a.map PyData.int ++ b.map PyData.int)) else none) = _
  rw [if_pos (by rw [List.length_map, List.length_map]; exact c), List.map_append]
theorem w_catT {a b : List D} (c : a.length + b.length ≤ 100000) (p : P (.d (.tuple (a ++ b)))) : K2 gAddA P (.d (.tuple a)) (.d (.tuple b)) := by
  refine ⟨_, ?_, p⟩
  show (if a.length + b.length ≤ 100000 then some (RV.d (.tuple (a ++ b))) else none) = _
  rw [if_pos c]
/-- the greatest, the least of ints -/
theorem w_maxN {js : List Int} (hne : js ≠ []) (p : ∀ m : Int, m ∈ js → (∀ x ∈ js, x ≤ m) → P (.d (.int m))) : KC (gBest PySem.W.maxD) P [.n (js.map PyData.int)] := by
  obtain ⟨m, e, h1, h2⟩ := DVL.gMax_ints js hne
  exact ⟨_, e, p m h1 h2⟩
theorem w_minN {js : List Int} (hne : js ≠ []) (p : ∀ m : Int, m ∈ js → (∀ x ∈ js, m ≤ x) → P (.d (.int m))) : KC (gBest PySem.W.minD) P [.n (js.map PyData.int)] := by
  obtain ⟨m, e, h1, h2⟩ := DVL.gMin_ints js hne
  exact ⟨_, e, p m h1 h2⟩
theorem w_lc {fi : Env → M (List D × Option Nat)} {vs : List Nat} (p : Gives (fi ρ) (KLc vs tg t h ρ P)) : Gives (eLc fi vs tg t h ρ) P := DVL.gv_lcG p
theorem w_srcE (p : Gives (f ρ) (KSrc C)) : Gives (srcE f ρ) C := DVL.gv_srcE p
theorem w_srcV {i : Nat} {q : List D × Option Nat} (e : srcV i ρ = DV.ret q) (p : C q) : Gives (srcV i ρ) C := gv_eq e p
theorem w_src {ds : List D} (e : srcOf x = some ds) (p : C (ds, none)) : KSrc C x := ⟨ds, e, p⟩
theorem w_rng1 (p : Gives (f ρ) (KRng C)) : Gives (iRng1F f ρ) C := by
  unfold iRng1F
  refine Gives.bnd p fun x ⟨n, e, h1, h2, q⟩ => ?_
  rw [e, lft_s, bnd_ret, if_pos ⟨h1, h2⟩]
  exact Gives.ret q
theorem w_rngN {n : Nat} (c : n ≤ 100000) (p : C ((DVL.rngI 0 n).map PyData.int, none)) : KRng C (.d (.int (n : Nat))) := ⟨n, rfl, by omega, by omega, by rw [DVL.rngD_eq, Int.toNat_natCast]; exact p⟩
theorem w_rngI {n : Int} (c : n ≤ 100000 ∧ -100000 ≤ n) (p : C ((DVL.rngI 0 n.toNat).map PyData.int, none)) : KRng C (.d (.int n)) := ⟨n, rfl, c.1, c.2, by rw [DVL.rngD_eq]; exact p⟩
theorem w_rng2 (p : Gives (f ρ) fun x => Gives (h ρ) fun y => KRng2 C x y) : Gives (iRng2F f h ρ) C := by
  unfold iRng2F
  refine Gives.bnd p fun x q => ?_
  intro rs
  obtain ⟨y, rs1, e1, a, b, ea, eb, hc, q⟩ := q rs
  refine ⟨_, rs1, ?_, q⟩
  rw [ea, lft_s, bnd_ret]
  unfold bnd
  simp only [e1, eb, lft_s]
  show (if _ then _ else _ : M (List D × Option Nat)) rs1 = _
  rw [if_pos hc, DVL.rngD_eq]
  rfl
theorem w_rng2I {a b : Int} (c : a ≤ 100000 ∧ -100000 ≤ a ∧ b ≤ 100000 ∧ -100000 ≤ b) (p : C ((DVL.rngI a (b - a).toNat).map PyData.int, none)) : KRng2 C (.d (.int a)) (.d (.int b)) := ⟨a, b, rfl, rfl, c, p⟩
theorem lcF_mk {el : Env → M RV} (mk : α → D) (p : α → Bool) (φ : α → D) : ∀ L : List α, (∀ a ∈ L, KTg (tg (mk a) ρ) fun ρ1 => Gives (t ρ1) fun b => b = p a ∧ (p a = true → Gives (el ρ1) fun r => toD r = some (φ a))) →
    Gives (lcF tg t el ρ (L.map mk)) fun ds => ds = (L.filter p).map φ
  | [], _ => Gives.ret rfl
  | a :: L, h => by
    obtain ⟨ρ1, e1, g1⟩ := h a List.mem_cons_self
    show Gives (lcF tg t el ρ (mk a :: L.map mk)) _
    unfold lcF
    rw [e1, lft_s, bnd_ret]
    refine Gives.bnd g1 fun b ⟨eb, g2⟩ => ?_
    have ih := lcF_mk mk p φ L fun y hy => h y (List.mem_cons_of_mem _ hy)
    subst eb
    cases hp : p a with
    | true =>
      rw [if_pos rfl]
      refine Gives.bnd (g2 hp) fun r er => ?_
      rw [er, lft_s, bnd_ret]
      refine Gives.bnd ih fun ds hds => Gives.ret ?_
      rw [List.filter_cons_of_pos hp, hds]; rfl
    | false =>
      rw [if_neg (by decide), List.filter_cons_of_neg (by rw [hp]; decide)]
      exact ih
/-- a filter and a map over any list -/
theorem w_lcD {vs : List Nat} {el : Env → M RV} (L : List α) (mk : α → D) (p : α → Bool) (φ : α → D) {lk : Option Nat} (c : L.length ≤ 100000)
    (hh : ∀ a ∈ L, KTg (tg (mk a) (wipeE ρ vs)) fun ρ1 => Gives (t ρ1) fun b => b = p a ∧ (p a = true → Gives (el ρ1) fun r => toD r = some (φ a)))
    (k : P (.n ((L.filter p).map φ))) : KLc vs tg t el ρ P (L.map mk, lk) :=
  ⟨by show (L.map mk).length ≤ 100000; rw [List.length_map]; exact c, (lcF_mk mk p φ L hh).mono fun ds e => by subst e; exact k⟩
/-- to ints, with a test -/
theorem w_lcP {vs : List Nat} {el : Env → M RV} {mk : α → D} {lk : Option Nat} {L : List α} (p : α → Bool) (φ : α → Int) (c : L.length ≤ 100000)
    (hh : ∀ a ∈ L, KTg (tg (mk a) (wipeE ρ vs)) fun ρ1 => Gives (t ρ1) fun b => b = p a ∧ (p a = true → Gives (el ρ1) fun r => r = .d (.int (φ a))))
    (k : P (.n (((L.filter p).map φ).map PyData.int))) : KLc vs tg t el ρ P (L.map mk, lk) :=
  w_lcD L mk p (fun a => .int (φ a)) c (fun a ha => by
    obtain ⟨ρ1, e, g⟩ := hh a ha
    exact ⟨ρ1, e, g.mono fun b ⟨e1, g1⟩ => ⟨e1, fun hp => (g1 hp).mono fun r er => by rw [er]; rfl⟩⟩) (by
    have e : (L.filter p).map (fun a => PyData.int (φ a)) = ((L.filter p).map φ).map PyData.int := by rw [List.map_map]; rfl
    rw [e]; exact k)
/-- to ints, without a test -/
theorem w_lcI {vs : List Nat} {el : Env → M RV} {mk : α → D} {lk : Option Nat} {L : List α} (φ : α → Int) (c : L.length ≤ 100000)
    (hh : ∀ a ∈ L, KTg (tg (mk a) (wipeE ρ vs)) fun ρ1 => Gives (el ρ1) fun r => r = .d (.int (φ a)))
    (k : P (.n ((L.map φ).map PyData.int))) : KLc vs tg tTrue el ρ P (L.map mk, lk) :=
  w_lcP (fun _ => true) φ c (fun a ha => by
    obtain ⟨ρ1, e, g⟩ := hh a ha
    exact ⟨ρ1, e, Gives.ret ⟨rfl, fun _ => g⟩⟩) (by rw [List.filter_eq_self.mpr (fun _ _ => rfl)]; exact k)
/-- to any data, without a test -/
theorem w_lcM {vs : List Nat} {el : Env → M RV} {mk : α → D} {lk : Option Nat} {L : List α} (φ : α → D) (c : L.length ≤ 100000)
    (hh : ∀ a ∈ L, KTg (tg (mk a) (wipeE ρ vs)) fun ρ1 => Gives (el ρ1) fun r => toD r = some (φ a))
    (k : P (.n (L.map φ))) : KLc vs tg tTrue el ρ P (L.map mk, lk) :=
  w_lcD L mk (fun _ => true) φ c (fun a ha => by
    obtain ⟨ρ1, e, g⟩ := hh a ha
    exact ⟨ρ1, e, Gives.ret ⟨rfl, fun _ => g⟩⟩) (by rw [List.filter_eq_self.mpr (fun _ _ => rfl)]; exact k)
theorem w_loop {mk : α → D} {lk : Option Nat} {L : List α} (I : List α → Env → Prop) (h0 : I L (lockE ρ lk))
    (hs : ∀ a rest ρ1, I (a :: rest) ρ1 → KTg (tg (mk a) ρ1) fun ρ2 => Gives (g ρ2) (KLoop (I rest) fun o => Q (unlockO ρ lk o))) (hd : ∀ ρ1, I [] ρ1 → Q (.nx (unlockE ρ ρ1 lk))) : KFor tg g ρ Q (L.map mk, lk) := by
  show Gives (loopF tg g (L.map mk) (lockE ρ lk)) _
  refine Gives.loop _ (fun xs ρ1 => ∃ r, xs = r.map mk ∧ I r ρ1) _ ⟨L, rfl, h0⟩ ?_ ?_
  · rintro x xs ρ1 ⟨r, e, hi⟩
    cases r with
    | nil => cases e
    | cons a r =>
      cases e
      obtain ⟨ρ2, e2, g2⟩ := hs a r ρ1 hi
      refine ⟨ρ2, e2, g2.mono fun o ho => ?_⟩
      cases o with
      | nx _ => exact ⟨r, rfl, ho⟩
      | ct _ => exact ⟨r, rfl, ho⟩
      | bk _ => exact ho
      | rt _ => exact ho
  · rintro ρ1 ⟨r, e, hi⟩
    cases r with
    | nil => exact hd ρ1 hi
    | cons _ _ => cases e
theorem w_loop0 {mk : α → D} {L : List α} (I : List α → Env → Prop) (h0 : I L ρ)
    (hs : ∀ a rest ρ1, I (a :: rest) ρ1 → KTg (tg (mk a) ρ1) fun ρ2 => Gives (g ρ2) (KLoop (I rest) Q)) (hd : ∀ ρ1, I [] ρ1 → Q (.nx ρ1)) : KFor tg g ρ Q (L.map mk, none) :=
  w_loop I h0 (fun a rest ρ1 hi => by
    obtain ⟨ρ2, e2, g2⟩ := hs a rest ρ1 hi
    exact ⟨ρ2, e2, g2.mono fun o ho => by cases o <;> exact ho⟩) hd
theorem w_run {n : Nat} {xs : List RV} (e : startE n xs = ρ) (p : Gives (g ρ) (KRun P)) : Gives (runDef n g xs) P := by
  rw [← e] at p
  exact gv_run p
theorem w_env {g : Env → M Out} (e : ρ = ρ') (p : Gives (g ρ') Q) : Gives (g ρ) Q := by rw [e]; exact p
end
end DV

namespace DV
open PySem L2
/-- a kind of key -/
structure Key (κ : Type) where
  t : Bool
  enc : κ → D
  inj : ∀ a b, nk (enc a) = nk (enc b) → a = b
  ok : ∀ a, keyOk t (enc a) = true
section
variable {κ β : Type} [DecidableEq κ]
def getA (M : List (κ × β)) (k : κ) : Option β := (M.find? fun p => decide (p.1 = k)).map (·.2)
def putA (M : List (κ × β)) (k : κ) (b : β) : List (κ × β) := if (getA M k).isSome = true then M.map fun p => if p.1 = k then (k, b) else p else M ++ [(k, b)]
variable {E : Key κ} {v : β → D} {M : List (κ × β)} {k k2 : κ} {b : β}
theorem getA_nil : getA ([] : List (κ × β)) k = none := rfl
theorem getA_cons (p : κ × β) (M : List (κ × β)) : getA (p :: M) k = if p.1 = k then some p.2 else getA M k := by
  unfold getA
  by_cases h : p.1 = k
  · rw [List.find?_cons_of_pos (by rw [decide_eq_true_eq]; exact h), if_pos h]
    rfl
  · rw [List.find?_cons_of_neg (by rw [decide_eq_true_eq]; exact h), if_neg h]
theorem getA_app (A B : List (κ × β)) : getA (A ++ B) k = (getA A k).or (getA B k) := by
  induction A with
  | nil => rfl
  | cons p A ih =>
    rw [List.cons_append, getA_cons, getA_cons, ih]
    split <;> rfl
theorem getA_mem (h : getA M k = some b) : (k, b) ∈ M := by
  induction M with
  | nil => cases h
  | cons p M ih =>
    rw [getA_cons] at h
    by_cases e : p.1 = k
    · rw [if_pos e] at h
      cases h
      subst e
      exact List.mem_cons_self
    · rw [if_neg e] at h
      exact List.mem_cons_of_mem _ (ih h)
theorem getA_none : getA M k = none ↔ k ∉ M.map (·.1) := by
  induction M with
  | nil => simp [getA]
  | cons p M ih =>
    rw [getA_cons, List.map_cons, List.mem_cons]
    by_cases e : p.1 = k
    · rw [if_pos e]
      simp [e]
    · rw [if_neg e, ih]
      constructor
      · rintro h (z | z)
        · exact e z.symm
        · exact h z
      · exact fun h z => h (.inr z)
theorem getA_isSome : (getA M k).isSome = true ↔ k ∈ M.map (·.1) := by
  cases h : getA M k with
  | none => simp [getA_none.mp h]
  | some b => simp only [Option.isSome_some, true_iff]; exact List.mem_map.mpr ⟨_, getA_mem h, rfl⟩
/-- no key twice -/
def Uq (M : List (κ × β)) : Prop := (M.map (·.1)).Nodup
theorem Uq.nil : Uq ([] : List (κ × β)) := List.nodup_nil
theorem Uq.one (p : κ × β) : Uq [p] := by unfold Uq; simp
theorem Uq.get (U : Uq M) (h : (k, b) ∈ M) : getA M k = some b := by
  induction M with
  | nil => cases h
  | cons p M ih =>
    obtain ⟨h1, h2⟩ := List.nodup_cons.mp (show ((p :: M).map (·.1)).Nodup from U)
    rw [getA_cons]
    rcases List.mem_cons.mp h with e | e
    · subst e
      rw [if_pos rfl]
    · rw [if_neg fun z => h1 (by show p.1 ∈ _; rw [z]; exact List.mem_map.mpr ⟨_, e, rfl⟩)]
      exact ih h2 e
theorem keys_put : (putA M k b).map (·.1) = if (getA M k).isSome = true then M.map (·.1) else M.map (·.1) ++ [k] := by
  unfold putA
  split
  · rw [List.map_map]
    refine List.map_congr_left fun q _ => ?_
    show (if q.1 = k then (k, b) else q).1 = q.1
    split
    · rename_i h
      exact h.symm
    · rfl
  · rw [List.map_append]
    rfl
theorem Uq.put (U : Uq M) : Uq (putA M k b) := by
  unfold Uq
  rw [keys_put]
  split
  · exact U
  · rename_i h
    refine List.nodup_append.mpr ⟨U, by simp, fun a ha c hc e => ?_⟩
    rw [List.mem_singleton.mp hc] at e
    subst e
    exact h (getA_isSome.mpr ha)
theorem getA_put : getA (putA M k b) k2 = if k2 = k then some b else getA M k2 := by
  unfold putA
  split
  · rename_i h
    have hk := getA_isSome.mp h
    clear h
    induction M with
    | nil => cases hk
    | cons p M ih =>
      rw [List.map_cons, getA_cons, getA_cons]
      by_cases e : p.1 = k
      · rw [if_pos e]
        by_cases e2 : k2 = k
        · rw [if_pos e2, if_pos e2.symm]
        · rw [if_neg (fun z => e2 z.symm), if_neg e2, if_neg (fun z => e2 (z.symm.trans e))]
          by_cases hm : k ∈ M.map (·.1)
          · rw [ih hm, if_neg e2]
          · have : (M.map fun p => if p.1 = k then (k, b) else p) = M := by
              have h2 : M.map (fun p => if p.1 = k then (k, b) else p) = M.map id := List.map_congr_left fun q hq => if_neg fun z => hm (by rw [← z]; exact List.mem_map.mpr ⟨q, hq, rfl⟩)
              rw [h2, List.map_id]
            rw [this]
      · rw [if_neg e]
        rw [List.map_cons, List.mem_cons] at hk
        have hm : k ∈ M.map (·.1) := hk.resolve_left fun z => e z.symm
        rw [ih hm]
        by_cases e2 : p.1 = k2
        · rw [if_pos e2, if_neg fun z => e (e2.trans z)]
          rw [if_pos e2]
        · rw [if_neg e2, if_neg e2]
  · rename_i h
    rw [getA_app, getA_cons, getA_nil]
    by_cases e : k2 = k
    · subst e
      rw [if_pos rfl, if_pos rfl]
      cases hh : getA M k2 with
      | none => rfl
      | some x => rw [hh] at h; exact absurd rfl h
    · rw [if_neg e, if_neg fun z => e z.symm]
      cases getA M k2 <;> rfl
end
def KG (C : D → Prop) (x : RV) : Prop := ∃ d, asKey x = some d ∧ C d
def KGget (k : DC) (P : RV → Prop) (d : D) : Prop := keyOk k.t d = true ∧ ∃ w, lookK k.kv (nk d) = some w ∧ P (.d w)
def KGput (i : Nat) (ρ : Env) (Q : Out → Prop) (w d : D) : Prop := ∃ c : DC, own_g ρ i = some c ∧ c.kv.length ≤ 100000 ∧ keyOk c.t d = true ∧ Q (.nx (ρ.set i (some (.g ⟨c.t, putD c.kv d w⟩))))
section
variable {κ β : Type} [DecidableEq κ] {E : Key κ} {v : β → D} {M : List (κ × β)} {key : κ} {b : β}
variable {ρ ρ' : Env} {P : RV → Prop} {Q : Out → Prop} {f h : Env → DV.M RV} {g : Env → DV.M Out} {x y : RV} {tg : D → Env → Option Env} {vs : List Nat} {t : Env → DV.M Bool}
theorem w_G {C : D → Prop} {d : D} (p : C d) : KG C (.d d) := ⟨d, rfl, p⟩
/-- d[k] -/
theorem w_gget {f h : Env → DV.M RV} (p : Gives (f ρ) fun x => ∃ c, dcOf x = some c ∧ Gives (h ρ) (KG (KGget c P))) : Gives (eGGet f h ρ) P := by
  unfold eGGet
  refine Gives.bnd p fun x ⟨c, e, q⟩ => ?_
  rw [e, lft_s, bnd_ret]
  refine Gives.bnd q fun y ⟨d, e2, h1, w, h2, q⟩ => ?_
  rw [e2, lft_s, bnd_ret, if_pos h1, h2, lft_s, bnd_ret]
  exact Gives.ret q
theorem w_dc {c : DC} {C : DC → Prop} (p : C c) : ∃ c', dcOf (.gb c) = some c' ∧ C c' := ⟨c, rfl, p⟩
theorem w_dcN {c : DC} {C : DC → Prop} (p : C c) : ∃ c', dcOf (.gn c) = some c' ∧ C c' := ⟨c, rfl, p⟩
/-- d[k] = x -/
theorem w_gput {i : Nat} {f h : Env → DV.M RV} (p : Gives (f ρ) (KD fun w => Gives (h ρ) (KG (KGput i ρ Q w)))) : Gives (sGPut i f h ρ) Q := by
  unfold sGPut
  refine Gives.bnd p fun x ⟨w, e, q⟩ => ?_
  rw [e, lft_s, bnd_ret]
  refine Gives.bnd q fun y ⟨d, e2, c, h1, h2, h3, q⟩ => ?_
  rw [e2, lft_s, bnd_ret, h1, lft_s, bnd_ret, if_pos ⟨h3, h2⟩]
  exact Gives.ret q
/-- {} and {k: x} -/
theorem w_gnew {tt : Bool} (p : P (.gn ⟨tt, []⟩)) : Gives (eGNew tt ρ) P := Gives.ret p
theorem w_g1 {tt : Bool} {f h : Env → DV.M RV} (p : Gives (f ρ) (KG fun kd => Gives (h ρ) (KD fun w => keyOk tt kd = true ∧ P (.gn ⟨tt, [(kd, w)]⟩)))) : Gives (eG1 tt f h ρ) P := by
  unfold eG1
  refine Gives.bnd p fun x ⟨kd, e, q⟩ => ?_
  rw [e, lft_s, bnd_ret]
  refine Gives.bnd q fun y ⟨w, e2, h1, h2⟩ => ?_
  rw [e2, lft_s, bnd_ret, if_pos h1]
  exact Gives.ret h2
end
section
variable {κ β : Type} [DecidableEq κ]
/-- of what was offered, the table holds under each key one that no offered one beats -/
structure UT (le : β → β → Prop) (dn M : List (κ × β)) : Prop where
  uq : Uq M
  sub : ∀ m ∈ M, m ∈ dn
  all : ∀ o ∈ dn, ∃ b, getA M o.1 = some b ∧ le b o.2
variable {le : β → β → Prop} {dn M : List (κ × β)} {o : κ × β}
theorem UT.nil : UT le ([] : List (κ × β)) [] := ⟨Uq.nil, fun _ h => h, fun _ h => nomatch h⟩
theorem UT.put (tr : ∀ a b c, le a b → le b c → le a c) (rf : ∀ a, le a a) (U : UT le dn M) (h : ∀ b, getA M o.1 = some b → le o.2 b) : UT le (dn ++ [o]) (putA M o.1 o.2) := by
  refine ⟨U.uq.put, fun m hm => ?_, fun q hq => ?_⟩
  · have := U.uq.put (k := o.1) (b := o.2) |>.get (show (m.1, m.2) ∈ putA M o.1 o.2 from hm)
    rw [getA_put] at this
    by_cases e : m.1 = o.1
    · rw [if_pos e] at this
      have e2 := Option.some.inj this
      exact List.mem_append_right _ (List.mem_singleton.mpr (Prod.ext e e2.symm))
    · rw [if_neg e] at this
      exact List.mem_append_left _ (U.sub _ (getA_mem this))
  · rw [getA_put]
    rcases List.mem_append.mp hq with z | z
    · obtain ⟨b, h1, h2⟩ := U.all q z
      by_cases e : q.1 = o.1
      · rw [if_pos e]
        exact ⟨_, rfl, tr _ _ _ (h b (by rw [← e]; exact h1)) h2⟩
      · rw [if_neg e]
        exact ⟨b, h1, h2⟩
    · rw [List.mem_singleton.mp z, if_pos rfl]
      exact ⟨_, rfl, rf _⟩
theorem UT.skip {b : β} (U : UT le dn M) (h : getA M o.1 = some b) (hle : le b o.2) : UT le (dn ++ [o]) M := by
  refine ⟨U.uq, fun m hm => List.mem_append_left _ (U.sub m hm), fun q hq => ?_⟩
  rcases List.mem_append.mp hq with z | z
  · exact U.all q z
  · rw [List.mem_singleton.mp z]
    exact ⟨b, h, hle⟩
end
end DV

namespace DV
open PySem L2
def KSl (P : RV → Prop) (x : RV) (l u : Option Int) : Prop := Gives (eSlice (fun _ => ret x) (fun _ => ret l) (fun _ => ret u) []) P
def KStar (fa : Env → M (List RV)) (ρ : Env) (PA : List RV → Prop) (x : RV) : Prop := ∃ ds, items x = some ds ∧ Gives (fa ρ) fun xs => PA (ds.map RV.d ++ xs)
def KRg (P : RV → Prop) (w : List D → RV) (x : RV) : Prop := ∃ n : Nat, x = .d (.int (n : Int)) ∧ n ≤ 100000 ∧ P (w ((DVL.rngI 0 n).map PyData.int))
def KZip (C : List D × Option Nat → Prop) (p q : List D × Option Nat) : Prop := ∃ l, joinLk p.2 q.2 = some l ∧ C (zipD p.1 q.1, l)
def enI {α : Type} : Int → List α → List (Int × α)
  | _, [] => []
  | k, a :: L => (k, a) :: enI (k + 1) L
section
variable {α β : Type} {ρ ρ' : Env} {P : RV → Prop} {Q : Out → Prop} {PA : List RV → Prop} {f h k : Env → M RV} {fa : Env → M (List RV)} {g : Env → M Out} {t : Env → M Bool} {x y : RV} {C : List D × Option Nat → Prop}
theorem w_ret {m : α} {P : α → Prop} (p : P m) : Gives (ret m) P := Gives.ret p
theorem w_slice {lo hi : Env → M (Option Int)} (p : Gives (f ρ) fun x => Gives (lo ρ) fun l => Gives (hi ρ) fun u => KSl P x l u) : Gives (eSlice f lo hi ρ) P :=
  Gives.bnd p fun x q => Gives.bnd q fun l r => Gives.bnd r fun u s => s
theorem w_part {C : Option Int → Prop} (p : Gives (f ρ) (KI fun i => C (some i))) : Gives (ePart f ρ) C :=
  Gives.bnd p fun x ⟨i, e, q⟩ => by rw [e, lft_s, bnd_ret]; exact Gives.ret q
theorem cut_to (ds : List D) {m : Int} (h : 0 ≤ m) : cutD ds none (some m) = ds.take m.toNat := by
  unfold cutD
  rw [HT.sIx_none, List.drop_zero]
  obtain ⟨n, rfl⟩ : ∃ n : Nat, m = (n : Int) := ⟨m.toNat, by omega⟩
  rw [HT.sIx_nat, Int.toNat_natCast, Nat.sub_zero]
  by_cases h : n ≤ ds.length
  · rw [Nat.min_eq_left h]
  · rw [Nat.min_eq_right (by omega), List.take_of_length_le (Nat.le_refl _), List.take_of_length_le (by omega)]
theorem cut_from (ds : List D) {m : Int} (h : 0 ≤ m) : cutD ds (some m) none = ds.drop m.toNat := by
  unfold cutD
  rw [HT.sIx_none]
  obtain ⟨n, rfl⟩ : ∃ n : Nat, m = (n : Int) := ⟨m.toNat, by omega⟩
  rw [HT.sIx_nat, Int.toNat_natCast]
  by_cases h : n ≤ ds.length
  · rw [Nat.min_eq_left h, List.take_of_length_le (by rw [List.length_drop]; exact Nat.le_refl _)]
  · rw [Nat.min_eq_right (by omega), List.drop_of_length_le (Nat.le_refl _), List.drop_of_length_le (by omega), List.take_nil]
theorem w_slTo {ds : List D} {m : Int} (c : 0 ≤ m) (p : P (.d (.tuple (ds.take m.toNat)))) : KSl P (.d (.tuple ds)) none (some m) := Gives.ret (by rw [cut_to ds c]; exact p)
theorem w_slFrom {ds : List D} {m : Int} (c : 0 ≤ m) (p : P (.d (.tuple (ds.drop m.toNat)))) : KSl P (.d (.tuple ds)) (some m) none := Gives.ret (by rw [cut_from ds c]; exact p)
theorem w_slToI {L : List Int} {m : Int} (c : 0 ≤ m) (p : P (.d (ti (L.take m.toNat)))) : KSl P (.d (ti L)) none (some m) := w_slTo c (by rw [← List.map_take]; exact p)
theorem w_slFromI {L : List Int} {m : Int} (c : 0 ≤ m) (p : P (.d (ti (L.drop m.toNat)))) : KSl P (.d (ti L)) (some m) none := w_slFrom c (by rw [← List.map_drop]; exact p)
theorem w_slToB {ds : List D} {m : Int} (c : 0 ≤ m) (p : P (.n (ds.take m.toNat))) : KSl P (.b ds) none (some m) := Gives.ret (by rw [cut_to ds c]; exact p)
theorem w_slFromB {ds : List D} {m : Int} (c : 0 ≤ m) (p : P (.n (ds.drop m.toNat))) : KSl P (.b ds) (some m) none := Gives.ret (by rw [cut_from ds c]; exact p)
theorem w_slToBI {L : List Int} {m : Int} (c : 0 ≤ m) (p : P (.n ((L.take m.toNat).map PyData.int))) : KSl P (.b (L.map PyData.int)) none (some m) := w_slToB c (by rw [← List.map_take]; exact p)
theorem w_slFromBI {L : List Int} {m : Int} (c : 0 ≤ m) (p : P (.n ((L.drop m.toNat).map PyData.int))) : KSl P (.b (L.map PyData.int)) (some m) none := w_slFromB c (by rw [← List.map_drop]; exact p)
theorem w_star (p : Gives (f ρ) (KStar fa ρ PA)) : Gives (aStar f fa ρ) PA := gv_star p
theorem w_starT {ds : List D} (p : Gives (fa ρ) fun xs => PA (ds.map RV.d ++ xs)) : KStar fa ρ PA (.d (.tuple ds)) := ⟨ds, rfl, p⟩
theorem w_starB {ds : List D} (p : Gives (fa ρ) fun xs => PA (ds.map RV.d ++ xs)) : KStar fa ρ PA (.b ds) := ⟨ds, rfl, p⟩
theorem w_starN {ds : List D} (p : Gives (fa ρ) fun xs => PA (ds.map RV.d ++ xs)) : KStar fa ρ PA (.n ds) := ⟨ds, rfl, p⟩
theorem w_catTI {a b : List Int} (c : a.length + b.length ≤ 100000) (p : P (.d (ti (a ++ b)))) : K2 gAddA P (.d (ti a)) (.d (ti b)) := w_catT (by rw [List.length_map, List.length_map]; exact c) (by rw [← List.map_append]; exact p)
theorem w_catT1 {a : List Int} {b : Int} (c : a.length < 100000) (p : P (.d (ti (a ++ [b])))) : K2 gAddA P (.d (ti a)) (.d (.tuple [.int b])) := w_catTI (b := [b]) c p
theorem w_listG {b : Bool} (p : Gives (f ρ) fun x => ∃ c, dcOf x = some c ∧ P (.n (c.kv.map (wkB b)))) : Gives (eListG b f ρ) P :=
  Gives.bnd p fun x ⟨c, e, q⟩ => by
    rw [e, lft_s, bnd_ret]
    exact Gives.ret q
theorem boolsOf_map (F : α → Bool) : ∀ L : List α, boolsOf (L.map fun a => PyData.bool (F a)) = some (L.map F)
  | [] => rfl
  | a :: L => by
    show (match boolsOf (L.map fun a => PyData.bool (F a)) with | some js => some (F a :: js) | none => none) = _
    rw [boolsOf_map F L]
    rfl
theorem w_all {L : List α} (F : α → Bool) (p : P (.d (.bool (L.all F)))) : KC gAll P [.n (L.map fun a => PyData.bool (F a))] := by
  refine ⟨.d (.bool (L.all F)), ?_, p⟩
  show (boolsOf (L.map fun a => PyData.bool (F a))).map (fun js => RV.d (.bool (js.all id))) = _
  rw [boolsOf_map]
  show some (RV.d (.bool ((L.map F).all id))) = _
  rw [List.all_map]
  rfl
theorem w_any {L : List α} (F : α → Bool) (p : P (.d (.bool (L.any F)))) : KC gAny P [.n (L.map fun a => PyData.bool (F a))] := by
  refine ⟨.d (.bool (L.any F)), ?_, p⟩
  show (boolsOf (L.map fun a => PyData.bool (F a))).map (fun js => RV.d (.bool (js.any id))) = _
  rw [boolsOf_map]
  show some (RV.d (.bool ((L.map F).any id))) = _
  rw [List.any_map]
  rfl
theorem w_eqm {m : M α} {a : α} {P : α → Prop} (e : m = ret a) (p : P a) : Gives m P := gv_eq e p
theorem w_moveG {i j : Nat} {c : DC} (e1 : ρ[j]? = some (some (.g c))) (e : (ρ.set j none).set i (some (.g c)) = ρ') (p : Q (.nx ρ')) : Gives (sMove i j ρ) Q := gv_eq (by unfold sMove; rw [e1]) (by rw [e]; exact p)
theorem w_moveO {i j : Nat} {c : List D} (e1 : ρ[j]? = some (some (.o c))) (e : (ρ.set j none).set i (some (.o c)) = ρ') (p : Q (.nx ρ')) : Gives (sMove i j ρ) Q := gv_eq (by unfold sMove; rw [e1]) (by rw [e]; exact p)
theorem w_moveD {i j : Nat} {c : D} (e1 : ρ[j]? = some (some (.d c))) (e : ρ.set i (some (.d c)) = ρ') (p : Q (.nx ρ')) : Gives (sMove i j ρ) Q := gv_eq (by unfold sMove; rw [e1]) (by rw [e]; exact p)
theorem w_ext {i : Nat} {ds : List D} (e1 : sApp.own? ρ i = some ds) (p : Gives (f ρ) fun x => ∃ es, extL x = some es ∧ ds.length + es.length ≤ 100000 ∧ KSet i ρ Q (.n (ds ++ es))) : Gives (sExt i f ρ) Q := by
  unfold sExt
  rw [e1, lft_s, bnd_ret]
  refine Gives.bnd p fun x ⟨es, e, hl, sv, e2, q⟩ => ?_
  rw [e, lft_s, bnd_ret, if_pos hl]
  cases e2
  exact Gives.ret q
theorem w_while (I : Nat → Env → Prop) (k n : Nat) (hk : k < n) (h0 : I k ρ)
    (hs : ∀ k ρ, I k ρ → Gives (t ρ) (KIf (∃ j, k = j + 1 ∧ Gives (g ρ) (KLoop (I j) Q)) (Q (.nx ρ)))) : Gives (wloopF t g n ρ) Q :=
  Gives.wh I (fun k ρ hi => (hs k ρ hi).mono fun b ⟨h1, h2⟩ => ⟨h2, fun hb => by
    obtain ⟨j, e, q⟩ := h1 hb
    exact ⟨j, e, q.mono fun o ho => by cases o <;> exact ho⟩⟩) k n ρ hk h0
def rowA (T : List (List Int)) (j : Int) : List Int := T.getD j.toNat []
theorem w_ixR {T : List (List Int)} {j : Int} (c : 0 ≤ j ∧ j < T.length) (p : P (.d (ti (rowA T j)))) : K2 gIx P (.d (.tuple (T.map ti))) (.d (.int j)) := by
  refine ⟨.d (ti (rowA T j)), ?_, p⟩
  show (atI (T.map ti) j).map RV.d = _
  obtain ⟨n, rfl⟩ : ∃ n : Nat, j = (n : Int) := ⟨j.toNat, by omega⟩
  have h : (T.map ti)[n]? = some (ti (rowA T n)) := by
    unfold rowA
    rw [List.getElem?_map, Int.toNat_natCast, List.getD_eq_getElem?_getD, List.getElem?_eq_getElem (by omega)]
    rfl
  rw [atI_nat h]
  rfl
theorem w_ixRB {T : List (List Int)} {j : Int} (c : 0 ≤ j ∧ j < T.length) (p : P (.d (ti (rowA T j)))) : K2 gIx P (.b (T.map ti)) (.d (.int j)) := by
  obtain ⟨z, e, q⟩ := w_ixR c p
  exact ⟨z, e, q⟩
/-- an item of any list of a kind -/
theorem w_ixM {L : List α} {mk : α → D} {j : Int} {a : α} (c : 0 ≤ j) (e : L[j.toNat]? = some a) (p : P (.d (mk a))) : K2 gIx P (.d (.tuple (L.map mk))) (.d (.int j)) := by
  refine ⟨.d (mk a), ?_, p⟩
  show (atI (L.map mk) j).map RV.d = _
  obtain ⟨n, rfl⟩ : ∃ n : Nat, j = (n : Int) := ⟨j.toNat, by omega⟩
  rw [Int.toNat_natCast] at e
  rw [atI_nat (v := mk a) (by rw [List.getElem?_map, e]; rfl)]
  rfl
theorem w_lenM {L : List α} {mk : α → D} (p : P (.d (.int (L.length : Nat)))) : KC gLen P [.d (.tuple (L.map mk))] := ⟨.d (.int (L.length : Nat)), by show some (RV.d (.int (((L.map mk).length : Nat) : Int))) = _; rw [List.length_map], p⟩
theorem w_lenMB {L : List α} {mk : α → D} (p : P (.d (.int (L.length : Nat)))) : KC gLen P [.b (L.map mk)] := ⟨.d (.int (L.length : Nat)), by show some (RV.d (.int (((L.map mk).length : Nat) : Int))) = _; rw [List.length_map], p⟩
theorem w_lenMN {L : List α} {mk : α → D} (p : P (.d (.int (L.length : Nat)))) : KC gLen P [.n (L.map mk)] := ⟨.d (.int (L.length : Nat)), by show some (RV.d (.int (((L.map mk).length : Nat) : Int))) = _; rw [List.length_map], p⟩
theorem w_lrg (p : Gives (f ρ) (KRg P RV.n)) : Gives (eListRg (rg1F f) ρ) P := by
  intro rs
  obtain ⟨x, rs1, e, n, rfl, hn, q⟩ := p rs
  refine ⟨_, rs1, ?_, q⟩
  unfold eListRg rg1F bnd
  simp only [e]
  show (if okRg 0 (n : Int) = true then ret (RV.n (rngD 0 ((n : Int) - 0).toNat)) else fail) rs1 = _
  rw [if_pos (by unfold okRg; simp; omega), DVL.rngD_eq]
  have e1 : ((n : Int) - 0).toNat = n := by omega
  rw [e1]
  rfl
theorem w_trg (p : Gives (f ρ) (KRg P fun ds => .d (.tuple ds))) : Gives (eTupRg (rg1F f) ρ) P := by
  intro rs
  obtain ⟨x, rs1, e, n, rfl, hn, q⟩ := p rs
  refine ⟨_, rs1, ?_, q⟩
  unfold eTupRg rg1F bnd
  simp only [e]
  show (if okRg 0 (n : Int) = true then ret (RV.d (.tuple (rngD 0 ((n : Int) - 0).toNat))) else fail) rs1 = _
  rw [if_pos (by unfold okRg; simp; omega), DVL.rngD_eq]
  have e1 : ((n : Int) - 0).toNat = n := by omega
  rw [e1]
  rfl
theorem w_rg {n : Nat} {w : List D → RV} (c : n ≤ 100000) (p : P (w ((DVL.rngI 0 n).map PyData.int))) : KRg P w (.d (.int (n : Int))) := ⟨n, rfl, c, p⟩
theorem w_enum {s : Env → M (List D × Option Nat)} (p : Gives (s ρ) fun q => C (enumD 0 q.1, q.2)) : Gives (iEnumF s ρ) C := Gives.bnd p fun q r => Gives.ret r
theorem enI_map (mk : α → D) : ∀ (L : List α) (k : Nat), enumD k (L.map mk) = (enI (k : Int) L).map fun p => PyData.tuple [.int p.1, mk p.2]
  | [], _ => rfl
  | a :: L, k => by
    show PyData.tuple [.int (k : Nat), mk a] :: enumD (k + 1) (L.map mk) = PyData.tuple [.int (k : Nat), mk a] :: (enI ((k : Int) + 1) L).map _
    rw [enI_map mk L (k + 1)]
    rfl
theorem w_enM {L : List α} {mk : α → D} {lk : Option Nat} (p : C ((enI 0 L).map (fun p => PyData.tuple [.int p.1, mk p.2]), lk)) : C (enumD 0 (L.map mk), lk) := by
  rw [enI_map mk L 0]
  exact p
theorem enI_get : ∀ (L : List α) (k : Int) (p : Int × α), p ∈ enI k L → k ≤ p.1 ∧ p.1 < k + L.length ∧ L[(p.1 - k).toNat]? = some p.2
  | [], _, _, h => nomatch h
  | a :: L, k, p, h => by
    rcases List.mem_cons.mp h with e | e
    · subst e
      refine ⟨Int.le_refl _, by rw [List.length_cons]; omega, ?_⟩
      show (a :: L)[(k - k).toNat]? = some a
      rw [Int.sub_self]
      rfl
    · obtain ⟨h1, h2, h3⟩ := enI_get L (k + 1) p e
      refine ⟨by omega, by rw [List.length_cons]; omega, ?_⟩
      rw [show (p.1 - k).toNat = (p.1 - (k + 1)).toNat + 1 by omega, List.getElem?_cons_succ]
      exact h3
theorem w_zip {s1 s2 : Env → M (List D × Option Nat)} (p : Gives (s1 ρ) fun a => Gives (s2 ρ) fun b => KZip C a b) : Gives (iZipF s1 s2 ρ) C :=
  Gives.bnd p fun a q => Gives.bnd q fun b ⟨l, e, r⟩ => by rw [e, lft_s, bnd_ret]; exact Gives.ret r
theorem w_inN {j : Int} {q : List Int} (p : P (.d (.bool (q.elem j)))) : K2 gIn P (.d (.int j)) (.n (q.map PyData.int)) := ⟨_, in_eq j q, p⟩
theorem w_notInN {j : Int} {q : List Int} (p : P (.d (.bool (!q.elem j)))) : K2 gNotIn P (.d (.int j)) (.n (q.map PyData.int)) := ⟨_, DVL.notIn_eq j q, p⟩
end
end DV

namespace DV
open PySem L2
def KSk (el : Env → M RV) (ip : Nat) (ρ : Env) (P : RV → Prop) (its : List D) : Prop := its.length ≤ 100000 ∧ Gives (keysF el ρ ip its) fun kz => okKeys kz = true ∧ P (.n (sortK its kz))
section
variable {α : Type} {ρ : Env} {P : RV → Prop} {f el : Env → M RV} {ip : Nat} {x : RV}
theorem w_sortK {fi : Env → M (List D)} (p : Gives (fi ρ) (KSk el ip ρ P)) : Gives (eSortK fi el ip ρ) P := by
  unfold eSortK
  refine Gives.bnd p fun its ⟨hl, q⟩ => Gives.bnd q fun kz ⟨h, r⟩ => ?_
  rw [if_pos ⟨h, hl⟩]
  exact Gives.ret r
theorem w_colS {C : List D → Prop} (p : Gives (f ρ) fun x => ∃ ds, items x = some ds ∧ C ds) : Gives (colS f ρ) C := Gives.bnd p fun x ⟨ds, e, q⟩ => by rw [e, lft_s]; exact Gives.ret q
theorem w_itT {C : List D → Prop} {ds : List D} (p : C ds) : ∃ es, items (.d (.tuple ds)) = some es ∧ C es := ⟨ds, rfl, p⟩
theorem w_itB {C : List D → Prop} {ds : List D} (p : C ds) : ∃ es, items (.b ds) = some es ∧ C es := ⟨ds, rfl, p⟩
theorem w_itN {C : List D → Prop} {ds : List D} (p : C ds) : ∃ es, items (.n ds) = some es ∧ C es := ⟨ds, rfl, p⟩
theorem w_colR {C : List D → Prop} (p : Gives (f ρ) fun x => ∃ n : Nat, x = .d (.int (n : Int)) ∧ n ≤ 100000 ∧ C ((DVL.rngI 0 n).map PyData.int)) : Gives (colR (rg1F f) ρ) C := by
  intro rs
  obtain ⟨x, rs1, e, n, rfl, hn, q⟩ := p rs
  refine ⟨_, rs1, ?_, q⟩
  unfold colR rg1F bnd
  simp only [e]
  show (if okRg 0 (n : Int) = true then ret (rngD 0 ((n : Int) - 0).toNat) else fail) rs1 = _
  rw [if_pos (by unfold okRg; simp; omega), DVL.rngD_eq]
  have e1 : ((n : Int) - 0).toNat = n := by omega
  rw [e1]
  rfl
theorem w_colRN {n : Nat} {C : List D → Prop} (c : n ≤ 100000) (p : C ((DVL.rngI 0 n).map PyData.int)) : ∃ m : Nat, RV.d (.int (n : Int)) = .d (.int (m : Int)) ∧ m ≤ 100000 ∧ C ((DVL.rngI 0 m).map PyData.int) := ⟨n, rfl, c, p⟩
theorem keysF_mk (mk kd : α → D) : ∀ L : List α, (∀ a ∈ L, KTg (some (ρ.set ip (some (.d (mk a))))) fun ρ1 => Gives (el ρ1) fun r => r = .d (kd a)) → Gives (keysF el ρ ip (L.map mk)) fun kz => kz = L.map kd
  | [], _ => Gives.ret rfl
  | a :: L, h => by
    obtain ⟨ρ1, e1, g1⟩ := h a List.mem_cons_self
    obtain rfl := Option.some.inj e1
    show Gives (bnd (el (ρ.set ip (some (.d (mk a))))) _) _
    refine Gives.bnd g1 fun r er => ?_
    subst er
    show Gives (bnd (lft (some (kd a))) _) _
    rw [lft_s, bnd_ret]
    refine Gives.bnd (keysF_mk mk kd L fun y hy => h y (List.mem_cons_of_mem _ hy)) fun ds e => Gives.ret (by rw [e]; rfl)
def byP (F G : α → Int) (a b : α) : Prop := F a < F b ∨ (F a = F b ∧ G a ≤ G b)
instance (F G : α → Int) (a b : α) : Decidable (byP F G a b) := by unfold byP; exact inferInstance
def sbP (F G : α → Int) (L : List α) : List α := L.mergeSort fun a b => decide (byP F G a b)
def byT (F G H : α → Int) (a b : α) : Prop := F a < F b ∨ (F a = F b ∧ (G a < G b ∨ (G a = G b ∧ H a ≤ H b)))
instance (F G H : α → Int) (a b : α) : Decidable (byT F G H a b) := by unfold byT; exact inferInstance
theorem eqvP (a b c d : Int) : PyData.eqv (.tuple [.int a, .int b]) (.tuple [.int c, .int d]) = decide (a = c ∧ b = d) := by
  simp only [PyData.eqv, PyData.eqvAll]
  by_cases h1 : a = c <;> by_cases h2 : b = d <;> simp [h1, h2]
end
end DV

namespace DV
open PySem L2
def KLc2 (vs : List Nat) (tg : D → Env → Option Env) (t : Env → M Bool) (fi1 : Env → M (List D × Option Nat)) (vs1 : List Nat) (tg1 : D → Env → Option Env) (t1 : Env → M Bool) (el : Env → M RV) (ρ : Env) (P : RV → Prop) (q : List D × Option Nat) : Prop :=
  Gives (lc2F tg t fi1 vs1 tg1 t1 el (wipeE ρ vs) q.1) fun ds => ds.length ≤ 100000 ∧ P (.n ds)
section
variable {α β : Type} {ρ : Env} {P : RV → Prop} {tg tg1 : D → Env → Option Env} {t t1 : Env → M Bool} {fi fi1 : Env → M (List D × Option Nat)} {vs vs1 : List Nat} {el : Env → M RV}
theorem w_lc2 (p : Gives (fi ρ) (KLc2 vs tg t fi1 vs1 tg1 t1 el ρ P)) : Gives (eLc2 fi vs tg t fi1 vs1 tg1 t1 el ρ) P := by
  unfold eLc2
  refine Gives.bnd p fun q r => Gives.bnd r fun ds ⟨hl, k⟩ => ?_
  rw [if_pos hl]
  exact Gives.ret k
theorem All2.mem {p : α → β → Prop} : ∀ {L : List α} {bs : List β}, All2 p L bs → ∀ b ∈ bs, ∃ a ∈ L, p a b
  | _, _, .nil, _, h => nomatch h
  | _, _, .cons h t, b, hb => by
    rcases List.mem_cons.mp hb with e | e
    · subst e; exact ⟨_, List.mem_cons_self, h⟩
    · obtain ⟨a, ha, pa⟩ := All2.mem t b e
      exact ⟨a, List.mem_cons_of_mem _ ha, pa⟩
theorem w_isNN (p : P (.d (.bool true))) : K2 gIs P (.d .none) (.d .none) := ⟨_, rfl, p⟩
theorem w_isNI {a : Int} (p : P (.d (.bool false))) : K2 gIs P (.d (.int a)) (.d .none) := ⟨_, rfl, p⟩
theorem w_isNT {a : List D} (p : P (.d (.bool false))) : K2 gIs P (.d (.tuple a)) (.d .none) := ⟨_, rfl, p⟩
theorem w_ntNN (p : P (.d (.bool false))) : K2 gIsNot P (.d .none) (.d .none) := ⟨_, rfl, p⟩
theorem w_ntNI {a : Int} (p : P (.d (.bool true))) : K2 gIsNot P (.d (.int a)) (.d .none) := ⟨_, rfl, p⟩
theorem w_ntNT {a : List D} (p : P (.d (.bool true))) : K2 gIsNot P (.d (.tuple a)) (.d .none) := ⟨_, rfl, p⟩
theorem w_repND {x : D} {n : Nat} (c : n ≤ 1000) (p : P (.n (List.replicate n x))) : K2 gMulA P (.n [x]) (.d (.int (n : Nat))) := by
  refine ⟨_, ?_, p⟩
  show (if -1000 ≤ (n : Int) ∧ (n : Int) ≤ 1000 ∧ ([x] : List D).length ≤ 1000 then some (RV.n (List.replicate (n : Int).toNat [x]).flatten) else none) = _
  rw [if_pos ⟨by omega, by omega, by simp⟩, Int.toNat_natCast, List.flatten_replicate_singleton]
def KPut (i : Nat) (ds : List D) (ρ : Env) (Q : Out → Prop) (d : D) (j : Int) : Prop := ∃ m, ixN ds.length j = some m ∧ KSet i ρ Q (.n (ds.set m d))
theorem w_put {i : Nat} {f g : Env → M RV} {Q : Out → Prop} {ds : List D} (e1 : sApp.own? ρ i = some ds) (p : Gives (f ρ) (KD fun d => Gives (g ρ) (KI fun j => KPut i ds ρ Q d j))) : Gives (sPut i f g ρ) Q :=
  DVL.gv_put e1 (p.mono fun x ⟨d, e, q⟩ => q.mono fun y ⟨j, e2, m, e3, sv, e4, q⟩ => ⟨j, d, m, e2, e, e3, by cases e4; exact q⟩)
theorem w_putM {i : Nat} {Q : Out → Prop} {L : List α} {mk : α → D} {d : D} {j : Int} (b : α) (ed : d = mk b) (c : 0 ≤ j ∧ j < L.length) (p : KSet i ρ Q (.n ((L.set j.toNat b).map mk))) : KPut i (L.map mk) ρ Q d j := by
  subst ed
  refine ⟨j.toNat, DVL.ixN_nat c.1 (by rw [List.length_map]; exact c.2), ?_⟩
  rw [← List.map_set]
  exact p
theorem w_putI {i : Nat} {Q : Out → Prop} {L : List Int} {b j : Int} (c : 0 ≤ j ∧ j < L.length) (p : KSet i ρ Q (.n ((L.set j.toNat b).map PyData.int))) : KPut i (L.map PyData.int) ρ Q (.int b) j := w_putM b rfl c p
/-- a walk over a list of one's own -/
theorem w_loopK {g : Env → M Out} {Q : Out → Prop} {mk : α → D} {lk : Option Nat} {L : List α} (I : List α → Env → Prop) (h0 : KTg (some (lockE ρ lk)) (I L))
    (hs : ∀ a rest ρ1, I (a :: rest) ρ1 → KTg (tg (mk a) ρ1) fun ρ2 => Gives (g ρ2) (KLoop (I rest) fun o => Q (unlockO ρ lk o))) (hd : ∀ ρ1, I [] ρ1 → KTg (some (unlockE ρ ρ1 lk)) fun ρ2 => Q (.nx ρ2)) : KFor tg g ρ Q (L.map mk, lk) :=
  w_loop I (by obtain ⟨_, e, h⟩ := h0; obtain rfl := Option.some.inj e; exact h) hs fun ρ1 h => by
    obtain ⟨_, e, q⟩ := hd ρ1 h
    obtain rfl := Option.some.inj e
    exact q
theorem w_eqB0 {a : List Int} (p : P (.d (.bool (decide (a = []))))) : K2 gEq P (.b (a.map PyData.int)) (.n []) := ⟨_, DVL.eq_lists false a [], p⟩
theorem w_neB0 {a : List Int} (p : P (.d (.bool (!decide (a = []))))) : K2 gNe P (.b (a.map PyData.int)) (.n []) := ⟨_, DVL.eq_lists true a [], p⟩
theorem w_eqBB {a b : List Int} (p : P (.d (.bool (decide (a = b))))) : K2 gEq P (.b (a.map PyData.int)) (.b (b.map PyData.int)) := ⟨_, DVL.eq_lists false a b, p⟩
theorem w_neBB {a b : List Int} (p : P (.d (.bool (!decide (a = b))))) : K2 gNe P (.b (a.map PyData.int)) (.b (b.map PyData.int)) := ⟨_, DVL.eq_lists true a b, p⟩
theorem w_eqNB {a b : List Int} (p : P (.d (.bool (decide (a = b))))) : K2 gEq P (.n (a.map PyData.int)) (.b (b.map PyData.int)) := ⟨_, DVL.eq_lists false a b, p⟩
theorem w_neNB {a b : List Int} (p : P (.d (.bool (!decide (a = b))))) : K2 gNe P (.n (a.map PyData.int)) (.b (b.map PyData.int)) := ⟨_, DVL.eq_lists true a b, p⟩
theorem w_eqBN {a b : List Int} (p : P (.d (.bool (decide (a = b))))) : K2 gEq P (.b (a.map PyData.int)) (.n (b.map PyData.int)) := ⟨_, DVL.eq_lists false a b, p⟩
theorem w_neBN {a b : List Int} (p : P (.d (.bool (!decide (a = b))))) : K2 gNe P (.b (a.map PyData.int)) (.n (b.map PyData.int)) := ⟨_, DVL.eq_lists true a b, p⟩
theorem eq_tis (neg : Bool) (a b : List Int) : gEqB neg (.d (ti a)) (.d (ti b)) = some (.d (.bool (if neg then !decide (a = b) else decide (a = b)))) := by
  show (if SeqAt.shaped (ti a) = true then if SeqAt.shaped (ti b) = true then some (RV.d (.bool (if neg then !PyData.eqv (ti a) (ti b) else PyData.eqv (ti a) (ti b)))) else none else none) = _
  rw [if_pos (DVL.shaped_intsT a), if_pos (DVL.shaped_intsT b)]
  have e : PyData.eqv (ti a) (ti b) = decide (a = b) := by
    show PyData.eqv (.tuple _) (.tuple _) = _
    rw [PyData.eqv]
    exact DVL.eqv_intsA a b
  rw [e]
theorem w_eqT {a b : List Int} (p : P (.d (.bool (decide (a = b))))) : K2 gEq P (.d (ti a)) (.d (ti b)) := ⟨_, eq_tis false a b, p⟩
theorem w_neT {a b : List Int} (p : P (.d (.bool (!decide (a = b))))) : K2 gNe P (.d (ti a)) (.d (ti b)) := ⟨_, eq_tis true a b, p⟩
theorem w_eqT0 {a : List Int} (p : P (.d (.bool (decide (a = []))))) : K2 gEq P (.d (ti a)) (.d (.tuple [])) := ⟨_, eq_tis false a [], p⟩
theorem w_neT0 {a : List Int} (p : P (.d (.bool (!decide (a = []))))) : K2 gNe P (.d (ti a)) (.d (.tuple [])) := ⟨_, eq_tis true a [], p⟩
theorem w_setApp {i : Nat} {Q : Out → Prop} {A : List Int} {b : Int} (p : KSet i ρ Q (.n ((A ++ [b]).map PyData.int))) : KSet i ρ Q (.n (A.map PyData.int ++ [PyData.int b])) := by rw [List.map_append] at p; exact p
theorem w_isT {T : TyT} {f : Env → M RV} (p : Gives (f ρ) fun x => ∃ d, viewD x = some d ∧ P (.d (.bool (isT T d)))) : Gives (eIsT T f ρ) P := gv_isT p
end
end DV

namespace DVL
open PySem L2 DV
local macro_rules
  | `(tactic| get_elem_tactic_trivial) => `(tactic| first
    | (simp only [List.set_cons_succ, List.set_cons_zero, DV.startE, DV.lawE, DV.toK, DV.lockE, DV.wipeE, List.map_cons, List.map_nil, List.length_cons, List.length_nil, List.replicate_zero, List.replicate_succ, Nat.reduceSub, Nat.reduceAdd, List.append_nil, List.cons_append, List.nil_append]; rfl)
    | exact rfl)
local macro_rules
  | `(tactic| infer_instance) => `(tactic| first
    | with_reducible refine DV.w_cons ?_
    | with_reducible refine DV.w_var (by with_unfolding_all exact rfl) ?_
    | with_reducible refine DV.w_c ?_
    | with_reducible refine DV.w_nil ?_
    | with_reducible refine DV.w_e2 ?_
    | with_reducible refine DV.w_seq ?_
    | with_reducible refine DV.w_seqN ?_
    | with_reducible refine DV.w_seqR ?_
    | with_reducible refine DV.w_seqB ?_
    | with_reducible refine DV.w_seqC ?_
    | with_reducible refine DV.w_call ?_
    | with_reducible refine DV.w_fn ?_
    | with_reducible refine DV.w_f1 ?_
    | with_reducible refine DV.w_f2 ?_
    | with_reducible refine DV.w_f3 ?_
    | with_reducible refine DV.w_f4 ?_
    | with_reducible refine DV.w_f5 ?_
    | with_reducible refine DV.w_f6 ?_
    | with_reducible refine DV.w_set ?_
    | with_reducible refine DV.w_setApp ?_
    | with_reducible refine DV.w_setX (by with_unfolding_all exact rfl) (by with_unfolding_all (simp only [List.set_cons_succ, List.set_cons_zero]; rfl)) ?_
    | with_reducible refine DV.w_rt ?_
    | with_reducible refine DV.w_rtD ?_
    | with_reducible refine DV.w_rtN ?_
    | with_reducible refine DV.w_rtV (by with_unfolding_all exact rfl) ?_
    | with_reducible refine DV.w_if ?_
    | with_reducible refine DV.w_drop ?_
    | with_reducible refine DV.w_nop ?_
    | with_reducible refine DV.w_T ?_
    | with_reducible refine DV.w_B ?_
    | with_reducible refine DV.w_not ?_
    | with_reducible refine DV.w_and ?_
    | with_reducible refine DV.w_or ?_
    | with_reducible refine DV.w_ifT ?_
    | with_reducible refine DV.w_ifF ?_
    | with_reducible refine DV.w_ifNT ?_
    | with_reducible refine DV.w_ifNF ?_
    | with_reducible refine DV.w_stup ?_
    | with_reducible refine DV.w_stupD (by with_unfolding_all (simp only [DV.wipeE, DV.gTupF, DV.gMore, DV.gNone, DV.gNm, List.set_cons_succ, List.set_cons_zero, List.length]; rfl)) ?_
    | with_reducible refine DV.w_aug (by with_unfolding_all exact rfl) ?_
    | with_reducible refine DV.w_I ?_
    | with_reducible refine DV.w_app (by with_unfolding_all exact rfl) (by simp only [List.length_map]; omega) ?_
    | with_reducible refine DV.w_D ?_
    | with_reducible refine DV.w_for ?_
    | with_reducible refine DV.w_lc ?_
    | with_reducible refine DV.w_par ?_
    | with_reducible refine DV.w_par3 ?_
    | with_reducible refine DV.w_par4 ?_
    | with_reducible refine DV.w_parX (by with_unfolding_all exact rfl) (by with_unfolding_all exact rfl) (by with_unfolding_all (simp only [List.set_cons_succ, List.set_cons_zero]; rfl)) ?_
    | with_reducible refine DV.w_par3X (by with_unfolding_all exact rfl) (by with_unfolding_all exact rfl) (by with_unfolding_all exact rfl) (by with_unfolding_all (simp only [List.set_cons_succ, List.set_cons_zero]; rfl)) ?_
    | with_reducible refine DV.w_par4X (by with_unfolding_all exact rfl) (by with_unfolding_all exact rfl) (by with_unfolding_all exact rfl) (by with_unfolding_all exact rfl) (by with_unfolding_all (simp only [List.set_cons_succ, List.set_cons_zero]; rfl)) ?_
    | with_reducible refine DV.w_tup ?_
    | with_reducible refine DV.w_lst ?_
    | with_reducible refine DV.w_tu (by with_unfolding_all exact rfl) (by with_unfolding_all exact Nat.le_of_ble_eq_true rfl) ?_
    | with_reducible refine DV.w_ls (by with_unfolding_all exact rfl) (by with_unfolding_all exact Nat.le_of_ble_eq_true rfl) ?_
    | with_reducible refine DV.w_neg ?_
    | with_reducible refine DV.w_ifB ?_
    | with_reducible refine DV.w_ifE ?_
    | with_reducible refine DV.w_notB ?_
    | with_reducible refine DV.w_tt ?_
    | with_reducible refine DV.w_ch ?_
    | with_reducible refine DV.w_add ?_
    | with_reducible refine DV.w_sub ?_
    | with_reducible refine DV.w_mul (by first | omega | (left; constructor <;> omega) | (right; constructor <;> omega)) ?_
    | with_reducible refine DV.w_mod (by omega) ?_
    | with_reducible refine DV.w_div (by omega) ?_
    | with_reducible refine DV.w_lt ?_
    | with_reducible refine DV.w_le ?_
    | with_reducible refine DV.w_gt ?_
    | with_reducible refine DV.w_ge ?_
    | with_reducible refine DV.w_ltA ?_
    | with_reducible refine DV.w_leA ?_
    | with_reducible refine DV.w_gtA ?_
    | with_reducible refine DV.w_geA ?_
    | with_reducible refine DV.w_eq ?_
    | with_reducible refine DV.w_ne ?_
    | with_reducible refine DV.w_eqB ?_
    | with_reducible refine DV.w_neB ?_
    | with_reducible refine DV.w_eqN ?_
    | with_reducible refine DV.w_neN ?_
    | with_reducible refine DV.w_eqN0 ?_
    | with_reducible refine DV.w_neN0 ?_
    | with_reducible refine DV.w_in ?_
    | with_reducible refine DV.w_inB ?_
    | with_reducible refine DV.w_notIn ?_
    | with_reducible refine DV.w_notInB ?_
    | with_reducible refine DV.w_ix0 ?_
    | with_reducible refine DV.w_ix1 ?_
    | with_reducible refine DV.w_ix (by omega) ?_
    | with_reducible refine DV.w_ixB (by omega) ?_
    | with_reducible refine DV.w_len ?_
    | with_reducible refine DV.w_lenB ?_
    | with_reducible refine DV.w_lenN ?_
    | with_reducible refine DV.w_lenM ?_
    | with_reducible refine DV.w_lenMB ?_
    | with_reducible refine DV.w_lenMN ?_
    | with_reducible refine DV.w_lenD ?_
    | with_reducible refine DV.w_lenDB ?_
    | with_reducible refine DV.w_lenDN ?_
    | with_reducible refine DV.w_tupN ?_
    | with_reducible refine DV.w_tupB ?_
    | with_reducible refine DV.w_tupD ?_
    | with_reducible refine DV.w_lstD ?_
    | with_reducible refine DV.w_lstB ?_
    | with_reducible refine DV.w_lstN ?_
    | with_reducible refine DV.w_sum ?_
    | with_reducible refine DV.w_sumN ?_
    | with_reducible refine DV.w_sumB ?_
    | with_reducible refine DV.w_max2 ?_
    | with_reducible refine DV.w_min2 ?_
    | with_reducible refine DV.w_int ?_
    | with_reducible refine DV.w_sort ?_
    | with_reducible refine DV.w_sortN ?_
    | with_reducible refine DV.w_sortB ?_
    | with_reducible refine DV.w_rep (by omega) ?_
    | with_reducible refine DV.w_repN (by omega) ?_
    | with_reducible refine DV.w_moveG (by with_unfolding_all exact rfl) (by with_unfolding_all (simp only [List.set_cons_succ, List.set_cons_zero]; rfl)) ?_
    | with_reducible refine DV.w_moveO (by with_unfolding_all exact rfl) (by with_unfolding_all (simp only [List.set_cons_succ, List.set_cons_zero]; rfl)) ?_
    | with_reducible refine DV.w_moveD (by with_unfolding_all exact rfl) (by with_unfolding_all (simp only [List.set_cons_succ, List.set_cons_zero]; rfl)) ?_
    | with_reducible refine DV.w_catTI (by (try simp only [List.length_append, List.length_take, List.length_drop, List.length_cons, List.length_nil]); omega) ?_
    | with_reducible refine DV.w_catT1 (by (try simp only [List.length_append, List.length_take, List.length_drop, List.length_cons, List.length_nil]); omega) ?_
    | with_reducible refine DV.w_listG ?_
    | with_reducible refine DV.w_sortK ?_
    | with_reducible refine DV.w_colS ?_
    | with_reducible refine DV.w_itT ?_
    | with_reducible refine DV.w_itB ?_
    | with_reducible refine DV.w_itN ?_
    | with_reducible refine DV.w_colR ?_
    | with_reducible refine DV.w_colRN (by omega) ?_
    | with_reducible refine DV.w_ext (by with_unfolding_all exact rfl) ?_
    | with_reducible refine DV.w_lc2 ?_
    | with_reducible refine DV.w_isT ?_
    | with_reducible refine DV.w_isNN ?_
    | with_reducible refine DV.w_isNI ?_
    | with_reducible refine DV.w_isNT ?_
    | with_reducible refine DV.w_ntNN ?_
    | with_reducible refine DV.w_ntNI ?_
    | with_reducible refine DV.w_ntNT ?_
    | with_reducible refine DV.w_repND (by omega) ?_
    | with_reducible refine DV.w_put (by with_unfolding_all exact rfl) ?_
    | with_reducible refine DV.w_putI (by (try simp only [List.length_set, List.length_replicate, List.length_map]); omega) ?_
    | with_reducible refine DV.w_eqB0 ?_
    | with_reducible refine DV.w_neB0 ?_
    | with_reducible refine DV.w_eqBB ?_
    | with_reducible refine DV.w_neBB ?_
    | with_reducible refine DV.w_eqNB ?_
    | with_reducible refine DV.w_neNB ?_
    | with_reducible refine DV.w_eqBN ?_
    | with_reducible refine DV.w_neBN ?_
    | with_reducible refine DV.w_eqT0 ?_
    | with_reducible refine DV.w_neT0 ?_
    | with_reducible refine DV.w_eqT ?_
    | with_reducible refine DV.w_neT ?_
    | with_reducible refine DV.w_gget ?_
    | with_reducible refine DV.w_dc ?_
    | with_reducible refine DV.w_dcN ?_
    | with_reducible refine DV.w_G ?_
    | with_reducible refine DV.w_gput ?_
    | with_reducible refine DV.w_gnew ?_
    | with_reducible refine DV.w_g1 ?_
    | with_reducible refine DV.w_ret ?_
    | with_reducible refine DV.w_slice ?_
    | with_reducible refine DV.w_part ?_
    | with_reducible refine DV.w_slToI (by omega) ?_
    | with_reducible refine DV.w_slFromI (by omega) ?_
    | with_reducible refine DV.w_slToBI (by omega) ?_
    | with_reducible refine DV.w_slFromBI (by omega) ?_
    | with_reducible refine DV.w_star ?_
    | with_reducible refine DV.w_starT ?_
    | with_reducible refine DV.w_starB ?_
    | with_reducible refine DV.w_starN ?_
    | with_reducible refine DV.w_ixR (by omega) ?_
    | with_reducible refine DV.w_ixRB (by omega) ?_
    | with_reducible refine DV.w_lrg ?_
    | with_reducible refine DV.w_trg ?_
    | with_reducible refine DV.w_rg (by omega) ?_
    | with_reducible refine DV.w_enum ?_
    | with_reducible refine DV.w_zip ?_
    | with_reducible refine DV.w_zip3 ?_
    | with_reducible refine DV.w_step ?_
    | with_reducible refine DV.w_stepB (by omega) ?_
    | with_reducible refine DV.w_srev ?_
    | with_reducible refine DV.w_srevT ?_
    | with_reducible refine DV.w_isTT ?_
    | with_reducible refine DV.w_ntTT ?_
    | with_reducible refine DV.w_isFT ?_
    | with_reducible refine DV.w_ntFT ?_
    | with_reducible refine DV.w_isTF ?_
    | with_reducible refine DV.w_ntTF ?_
    | with_reducible refine DV.w_isFF ?_
    | with_reducible refine DV.w_ntFF ?_
    | with_reducible refine DV.w_ixS (by omega) ?_
    | with_reducible refine DV.w_ix2 ?_
    | with_reducible refine DV.w_gget2 ?_
    | with_reducible refine DV.w_notInTs ?_
    | with_reducible refine DV.w_inTs ?_
    | with_reducible refine DV.w_inTsN ?_
    | with_reducible refine DV.w_sset ?_
    | with_reducible refine DV.w_ssetU (by omega) (by assumption) ?_
    | with_reducible refine DV.w_met ?_
    | with_reducible refine DV.w_itL ?_
    | with_reducible refine DV.w_two ?_
    | with_reducible refine DV.w_twoX ?_
    | with_reducible refine DV.w_neS ?_
    | with_reducible refine DV.w_eqS ?_
    | with_reducible refine DV.w_rev ?_
    | with_reducible refine DV.w_revN ?_
    | with_reducible refine DV.w_lset ?_
    | with_reducible refine DV.w_isNL ?_
    | with_reducible refine DV.w_isBL ?_
    | with_reducible refine DV.w_ntNL ?_
    | with_reducible refine DV.w_ntBL ?_
    | with_reducible refine DV.w_abs ?_
    | with_reducible refine DV.w_neBl ?_
    | with_reducible refine DV.w_eqBl ?_
    | with_reducible refine DV.w_eqIP ?_
    | with_reducible refine DV.w_neIP ?_
    | with_reducible refine DV.w_ix3 ?_
    | with_reducible refine DVR.w_neW ?_
    | with_reducible refine DVR.w_ixL (by omega) ?_
    | with_reducible refine DV.w_dcomp ?_
    | with_reducible refine DV.w_intB ?_
    | with_reducible refine DV.w_augIx (by with_unfolding_all exact rfl) ?_
    | with_reducible refine DV.w_inN ?_
    | with_reducible refine DV.w_notInN ?_
    | with_reducible refine DV.w_srcE ?_
    | with_reducible refine DV.w_srcV (by with_unfolding_all exact rfl) ?_
    | with_reducible refine DV.w_src (by with_unfolding_all exact rfl) ?_
    | with_reducible refine DV.w_rng1 ?_
    | with_reducible refine DV.w_rng2 ?_
    | with_reducible refine DV.w_rng2I (by omega) ?_
    | with_reducible refine DV.w_rngN (by omega) ?_
    | with_reducible refine DV.w_rngI (by omega) ?_
    | with_reducible refine DV.w_loopN ?_
    | with_reducible refine DV.w_loopC ?_
    | with_reducible refine DV.w_loopB ?_
    | with_reducible refine DV.w_loopR ?_
    | with_reducible refine DV.w_runN ?_
    | with_reducible refine DV.w_runR ?_
    | with_reducible refine DV.w_tg (by with_unfolding_all (simp only [DV.lockE, DV.unlockE, List.getElem?_cons_succ, List.getElem?_cons_zero, DV.wipeE, DV.gTupF, DV.gMore, DV.gNone, DV.gNm, List.set_cons_succ, List.set_cons_zero, List.length]; rfl)) ?_)
abbrev prT (P : List (Int × Int)) : D := .tuple (P.map pr)
/-- the jobs that are left, and able -/
def lfJ (n : Nat) (done : List Int) : List Int := (rngI 0 n).filter fun j => !done.elem j
def abB (P : List (Int × Int)) (left : List Int) (j : Int) : Bool := P.any fun p => decide (p.2 = j) && left.elem p.1
def Ab (P : List (Int × Int)) (n : Nat) (done : List Int) : List Int := (lfJ n done).filter fun j => !abB P (lfJ n done) j
structure Prs (n : Nat) (P : List (Int × Int)) : Prop where
  rg : ∀ p ∈ P, (0 ≤ p.1 ∧ p.1 < (n : Int)) ∧ 0 ≤ p.2 ∧ p.2 < (n : Int)
  ac : ∃ rk : Int → Nat, ∀ p ∈ P, rk p.1 < rk p.2
  len : P.length ≤ 40
theorem mem_lfJ {n : Nat} {done : List Int} {j : Int} : j ∈ lfJ n done ↔ (0 ≤ j ∧ j < (n : Int)) ∧ j ∉ done := by
  unfold lfJ
  rw [List.mem_filter, mem_rngI]
  simp
theorem lfJ_len (n : Nat) (done : List Int) : (lfJ n done).length ≤ n := by
  have := List.length_filter_le (fun j => !done.elem j) (rngI 0 n)
  rw [rngI_len] at this
  exact this
theorem mem_Ab {n : Nat} {P : List (Int × Int)} {done : List Int} {j : Int} (G : Prs n P) : j ∈ Ab P n done ↔ (0 ≤ j ∧ j < (n : Int)) ∧ j ∉ done ∧ ∀ p ∈ P, p.2 = j → p.1 ∈ done := by
  unfold Ab abB
  rw [List.mem_filter, mem_lfJ]
  simp only [Bool.not_eq_true', List.any_eq_false, Bool.and_eq_true, decide_eq_true_eq, not_and, List.elem_iff]
  constructor
  · rintro ⟨⟨h1, h2⟩, h3⟩
    refine ⟨h1, h2, fun p hp e => ?_⟩
    have := h3 p hp e
    rw [mem_lfJ] at this
    exact Classical.byContradiction fun z => this ⟨(G.rg p hp).1, z⟩
  · rintro ⟨h1, h2, h3⟩
    refine ⟨⟨h1, h2⟩, fun p hp e hm => ?_⟩
    exact (mem_lfJ.mp hm).2 (h3 p hp e)
theorem Ab_nodup (P : List (Int × Int)) (n : Nat) (done : List Int) : (Ab P n done).Nodup := ((rngI_nodup 0 n).sublist List.filter_sublist).sublist List.filter_sublist
theorem Ab_len (P : List (Int × Int)) (n : Nat) (done : List Int) : (Ab P n done).length ≤ n := Nat.le_trans (List.length_filter_le _ _) (lfJ_len n done)
/-- who is left has one that is able -/
theorem Ab_ne {n : Nat} {P : List (Int × Int)} {done : List Int} (G : Prs n P) {j : Int} (hj : 0 ≤ j ∧ j < (n : Int)) (hd : j ∉ done) : Ab P n done ≠ [] := by
  obtain ⟨rk, hrk⟩ := G.ac
  have main : ∀ k (j : Int), rk j ≤ k → (0 ≤ j ∧ j < (n : Int)) → j ∉ done → ∃ i, i ∈ Ab P n done := fun k => by
    induction k with
    | zero =>
      intro j hk h1 h2
      refine ⟨j, (mem_Ab G).mpr ⟨h1, h2, fun p hp e => ?_⟩⟩
      have := hrk p hp
      rw [e] at this
      omega
    | succ k ih =>
      intro j hk h1 h2
      by_cases h : ∀ p ∈ P, p.2 = j → p.1 ∈ done
      · exact ⟨j, (mem_Ab G).mpr ⟨h1, h2, h⟩⟩
      · obtain ⟨p, hp⟩ := Classical.not_forall.mp h
        obtain ⟨hp, h3⟩ := Classical.not_imp.mp hp
        obtain ⟨e, h4⟩ := Classical.not_imp.mp h3
        have := hrk p hp
        rw [e] at this
        exact ih p.1 (by omega) (G.rg p hp).1 h4
  obtain ⟨i, hi⟩ := main _ j (Nat.le_refl _) hj hd
  exact fun e => by rw [e] at hi; cases hi
theorem able_run {n : Nat} {P : List (Int × Int)} {done : List Int} (hn : n ≤ 1000) (hP : P.length ≤ 100000) (sv : SV) (hsv : sv = .d (ti done) ∨ sv = .k (done.map PyData.int)) : DV.Gives (g_able_jobs [some (.d (prT P)), some sv, some (.d (.int (n : Nat))), none, none, none]) (DV.KRun fun r => r = .n ((Ab P n done).map PyData.int)) := by
  unfold g_able_jobs
  rcases hsv with rfl | rfl
  all_goals
    repeat infer_instance
    refine w_lcP (fun j => !done.elem j) id (by rw [rngI_len]; omega) (fun j hj => ?_) ?_
    · repeat infer_instance
      refine ⟨rfl, fun _ => ?_⟩
      repeat infer_instance
      rfl
    rw [List.map_id]
    have hl : ((rngI 0 n).filter fun j => !done.elem j) = lfJ n done := rfl
    rw [hl]
    have hll := lfJ_len n done
    repeat infer_instance
    refine w_lcP (fun j => !abB P (lfJ n done) j) id (by omega) (fun j hj => ?_) ?_
    · repeat infer_instance
      refine w_lcM (fun p : Int × Int => .bool (decide (p.2 = j) && (lfJ n done).elem p.1)) hP (fun p hp => ?_) ?_
      · repeat infer_instance
        refine w_dec (fun h => ?_) (fun h => ?_)
        · repeat infer_instance
          rw [decide_eq_true h]
          rfl
        · repeat infer_instance
          rw [decide_eq_false h]
          rfl
      repeat infer_instance
      refine w_any (fun p : Int × Int => decide (p.2 = j) && (lfJ n done).elem p.1) ?_
      repeat infer_instance
      refine ⟨rfl, fun _ => ?_⟩
      repeat infer_instance
      rfl
    rw [List.map_id]
    repeat infer_instance
    rfl
theorem able_giveB {n : Nat} {P : List (Int × Int)} {done : List Int} (hn : n ≤ 1000) (hP : P.length ≤ 100000) : DV.Gives (m_able_jobs [.d (prT P), .b (done.map PyData.int), .d (.int (n : Nat))]) fun r => r = .n ((Ab P n done).map PyData.int) := by
  unfold m_able_jobs
  refine DV.w_run (by get_elem_tactic_trivial) ?_
  exact able_run hn hP _ (.inr rfl)
/-- each job behind those ahead of it -/
def Ord (P : List (Int × Int)) (q : List Int) : Prop := ∀ A x B, q = A ++ x :: B → ∀ p ∈ P, p.2 = x → p.1 ∈ A
theorem Ord.nil (P : List (Int × Int)) : Ord P [] := fun A x B e => by cases A <;> cases e
theorem ord_snoc {P : List (Int × Int)} {q : List Int} {j : Int} : Ord P (q ++ [j]) ↔ Ord P q ∧ ∀ p ∈ P, p.2 = j → p.1 ∈ q := by
  constructor
  · intro h
    refine ⟨fun A x B e => h A x (B ++ [j]) (by rw [e]; simp), fun p hp e => h q j [] rfl p hp e⟩
  · rintro ⟨h1, h2⟩ A x B e p hp ep
    rcases List.eq_nil_or_concat B with rfl | ⟨B', y, rfl⟩
    · have h3 := List.append_inj' (show q ++ [j] = A ++ [x] from e) rfl
      obtain ⟨e1, e2⟩ := h3
      subst e1
      have e3 : j = x := (List.cons.inj e2).1
      exact h2 p hp (ep.trans e3.symm)
    · have e4 : q ++ [j] = (A ++ x :: B') ++ [y] := by rw [e]; simp
      obtain ⟨e1, e2⟩ := List.append_inj' e4 rfl
      exact h1 A x B' e1 p hp ep
/-- so far a good order -/
structure Pre (P : List (Int × Int)) (n : Nat) (q : List Int) : Prop where
  nd : q.Nodup
  rg : ∀ j ∈ q, 0 ≤ j ∧ j < (n : Int)
  od : Ord P q
theorem Pre.nil (P : List (Int × Int)) (n : Nat) : Pre P n [] := ⟨List.nodup_nil, fun _ h => (nomatch h), Ord.nil P⟩
theorem Pre.snoc {P : List (Int × Int)} {n : Nat} {q : List Int} {j : Int} (G : Prs n P) (h : Pre P n q) (hj : j ∈ Ab P n q) : Pre P n (q ++ [j]) := by
  obtain ⟨h1, h2, h3⟩ := (mem_Ab G).mp hj
  refine ⟨List.nodup_append.mpr ⟨h.nd, by simp, fun a ha b hb e => ?_⟩, fun i hi => ?_, ord_snoc.mpr ⟨h.od, h3⟩⟩
  · rw [List.mem_singleton.mp hb] at e
    subst e
    exact h2 ha
  · rcases List.mem_append.mp hi with z | z
    · exact h.rg i z
    · rw [List.mem_singleton.mp z]; exact h1
theorem Pre.len {P : List (Int × Int)} {n : Nat} {q : List Int} (h : Pre P n q) : q.length ≤ n := by
  have := List.Nodup.length_le_of_subset h.nd (l₂ := rngI 0 n) fun j hj => (mem_rngI _ _ _).mpr (by have := h.rg j hj; omega)
  rwa [rngI_len] at this
theorem Pre.perm {P : List (Int × Int)} {n : Nat} {q : List Int} (h : Pre P n q) (hl : q.length = n) : q.Perm (rngI 0 n) :=
  nodup_perm h.nd (fun j hj => (mem_rngI _ _ _).mpr (by have := h.rg j hj; omega)) (by rw [rngI_len, hl]; exact Nat.le_refl _)
theorem Pre.of {P : List (Int × Int)} {n : Nat} {q : List Int} (h : q.Perm (rngI 0 n)) (o : Ord P q) : Pre P n q :=
  ⟨h.nodup_iff.mpr (rngI_nodup 0 n), fun j hj => by have := (mem_rngI _ _ _).mp (h.mem_iff.mp hj); omega, o⟩
def g_fo : DV.Env → M Out :=
  (sSeq (sSet 2 (eLst aNil))
  (sSeq (wloopF (eT (e2 gLt (eCall gLen (aCons (eVar 2) aNil)) (eVar 1))) (sSeq (sSet 3 (eFn (fun xs => if xs.length = 3 then m_able_jobs xs else fail) (aCons (eVar 0) (aCons (eVar 2) (aCons (eVar 1) aNil)))))
  (sSeq (sIf (eT (e2 gEq (eVar 3) (eLst aNil))) (sRet (eC .none)) sNil)
  (sApp 2 (e2 gIx (eVar 3) (eC (.int 0)))))) 100000)
  (sRet (eCall gTuple (aCons (eVar 2) aNil)))))
def m_fo : List RV → M RV := runDef 4 g_fo
theorem first_order_gives {n : Nat} {P : List (Int × Int)} (hn : n ≤ 1000) (G : Prs n P) : DV.Gives (m_fo [.d (prT P), .d (.int (n : Nat))]) fun r => ∃ q : List Int, r = .d (ti q) ∧ q.Perm (rngI 0 n) ∧ Ord P q := by
  have hP := G.len
  unfold m_fo
  refine DV.w_run (by get_elem_tactic_trivial) ?_
  unfold g_fo
  repeat infer_instance
  refine DV.w_while (fun k ρ => ∃ (q : List Int) (y3 : Option SV), k + q.length = n ∧ Pre P n q ∧ ρ = [some (.d (prT P)), some (.d (.int (n : Nat))), some (.o (q.map PyData.int)), y3]) n 100000 (by omega) ⟨[], none, rfl, Pre.nil P n, rfl⟩ ?_
  rintro k ρ ⟨q, y3, hk, hq, rfl⟩
  repeat infer_instance
  refine w_dec (fun hlt => ?_) (fun hge => ?_)
  · obtain ⟨k', rfl⟩ : ∃ k', k = k' + 1 := ⟨k - 1, by omega⟩
    refine ⟨k', rfl, ?_⟩
    repeat infer_instance
    refine w_is (able_giveB hn (by omega)) ?_
    have hex : ∃ j : Int, (0 ≤ j ∧ j < (n : Int)) ∧ j ∉ q := by
      refine Classical.byContradiction fun hno => ?_
      have := List.Nodup.length_le_of_subset (rngI_nodup 0 n) (l₂ := q) fun j hj => Classical.byContradiction fun z => hno ⟨j, by have := (mem_rngI _ _ _).mp hj; omega, z⟩
      rw [rngI_len] at this
      omega
    obtain ⟨j, hj1, hj2⟩ := hex
    have hne := Ab_ne G hj1 hj2
    obtain ⟨i, rest, hA⟩ : ∃ i rest, Ab P n q = i :: rest := by
      cases h : Ab P n q with
      | nil => exact absurd h hne
      | cons i rest => exact ⟨i, rest, rfl⟩
    have hi : i ∈ Ab P n q := by rw [hA]; exact List.mem_cons_self
    have hal := Ab_len P n q
    repeat infer_instance
    refine w_decF hne ?_
    have hv : val (Ab P n q) 0 = i := by rw [hA]; rfl
    have hpos : 0 < (Ab P n q).length := by rw [hA, List.length_cons]; omega
    repeat infer_instance
    rw [hv]
    exact ⟨q ++ [i], _, by rw [List.length_append, List.length_singleton]; omega, hq.snoc G hi, rfl⟩
  · repeat infer_instance
    exact ⟨q, rfl, hq.perm (by have := hq.len; omega), hq.od⟩
def g_np : DV.Env → M Out :=
  (sSeq (sIf (tNotF (eT (eFn (fun xs => if xs.length = 3 then m_is_list xs else fail) (aCons (eVar 0) (aCons (eC (.int 0)) (aCons (eC (.int 40)) aNil)))))) sNever sNil)
  (sSeq (sFor (iEnumF (srcV 0)) (gTupF 2 (gMore (gNm 2) (gMore (gNm 3) gNone))) (sIf (tIfT (tNotF (eT (eFn (fun xs => if xs.length = 3 then m_is_list xs else fail) (aCons (eVar 3) (aCons (eC (.int 2)) (aCons (eC (.int 2)) aNil)))))) (tRetB true) (tIfT (tNotF (eT (eCall gAll (aCons (eLc (srcV 3) [4] (gNm 4) tTrue (eFn (fun xs => if xs.length = 3 then m_is_in xs else fail) (aCons (eVar 4) (aCons (eC (.int 0)) (aCons (e2 gSubI (eVar 1) (eC (.int 1))) aNil))))) aNil)))) (tRetB true) (eT (e2 gEq (e2 gIx (eVar 3) (eC (.int 0))) (e2 gIx (eVar 3) (eC (.int 1))))))) sNever sNil))
  (sIf (eT (e2 gIs (eFn (fun xs => if xs.length = 2 then m_fo xs else fail) (aCons (eVar 0) (aCons (eVar 1) aNil))) (eC .none))) sNever sNil)))
def m_np : List RV → M RV := runDef 5 g_np
theorem need_pairs_ok {n : Nat} {P : List (Int × Int)} (hn : n ≤ 1000) (G : Prs n P) : DV.Gives (m_np [.d (prT P), .d (.int (n : Nat))]) fun r => r = .d .none := by
  have hP := G.len
  unfold m_np
  refine DV.w_run (by get_elem_tactic_trivial) ?_
  unfold g_np
  repeat infer_instance
  refine w_eqm (is_list_ok (by rw [List.length_map]; omega) (by rw [List.length_map]; omega)) ?_
  repeat infer_instance
  refine w_enM ?_
  refine w_loop0 (fun rest ρ => ∃ (y2 y3 : Option SV), (∀ p ∈ rest, p ∈ enI 0 P) ∧ ρ = [some (.d (prT P)), some (.d (.int (n : Nat))), y2, y3, none]) ⟨_, _, fun p h => h, rfl⟩ ?_ ?_
  · rintro ⟨i, a, b⟩ rest ρ ⟨y2, y3, hr, rfl⟩
    obtain ⟨_, _, hm⟩ := enI_get P 0 _ (hr _ List.mem_cons_self)
    have hmem := List.mem_of_getElem? hm
    obtain ⟨⟨a0, a1⟩, b0, b1⟩ := G.rg _ hmem
    have hab : a ≠ b := fun e => by
      obtain ⟨rk, hrk⟩ := G.ac
      have := hrk _ hmem
      simp only at this
      rw [e] at this
      omega
    repeat infer_instance
    refine w_eqm (is_list_ok (ds := [.int a, .int b]) (by simp) (by simp)) ?_
    repeat infer_instance
    show DV.KLc _ _ _ _ _ _ ([a, b].map PyData.int, none)
    refine w_lcM (fun _ => .bool true) (by simp) (fun x hx => ?_) ?_
    · have hx : 0 ≤ x ∧ x < (n : Int) := by
        rcases List.mem_cons.mp hx with q | q
        · rw [q]; exact ⟨a0, a1⟩
        · rw [List.mem_singleton.mp q]; exact ⟨b0, b1⟩
      repeat infer_instance
      refine w_eqm (is_in_ok (by omega) (by omega)) ?_
      rfl
    repeat infer_instance
    refine w_all (fun _ => true) ?_
    rw [List.all_eq_true.mpr fun _ _ => rfl]
    repeat infer_instance
    refine w_decF hab ?_
    repeat infer_instance
    exact ⟨_, _, fun p hp => hr p (List.mem_cons_of_mem _ hp), rfl⟩
  · rintro ρ ⟨y2, y3, hr, rfl⟩
    repeat infer_instance
    refine w_use (first_order_gives hn G) fun r ⟨q, e, _, _⟩ => ?_
    subst e
    repeat infer_instance
    rfl
def ordP (P : List (Int × Int)) (n : Nat) : Nat → List (List Int)
  | 0 => [[]]
  | k + 1 => (ordP P n k).flatMap fun p => (Ab P n p).map fun j => p ++ [j]
theorem ordP_mem {P : List (Int × Int)} {n : Nat} (G : Prs n P) : ∀ (k : Nat) (p : List Int), p ∈ ordP P n k ↔ Pre P n p ∧ p.length = k
  | 0, p => by
    show p ∈ [[]] ↔ _
    rw [List.mem_singleton]
    exact ⟨fun e => by subst e; exact ⟨Pre.nil P n, rfl⟩, fun h => List.eq_nil_of_length_eq_zero h.2⟩
  | k + 1, p => by
    show p ∈ (ordP P n k).flatMap _ ↔ _
    rw [List.mem_flatMap]
    constructor
    · rintro ⟨q, hq, hp⟩
      obtain ⟨j, hj, rfl⟩ := List.mem_map.mp hp
      obtain ⟨h1, h2⟩ := (ordP_mem G k q).mp hq
      exact ⟨h1.snoc G hj, by rw [List.length_append, h2]; rfl⟩
    · rintro ⟨h1, h2⟩
      have hne : p ≠ [] := fun e => by rw [e] at h2; cases h2
      have e := (List.dropLast_concat_getLast hne).symm
      generalize p.dropLast = q at e
      generalize p.getLast hne = j at e
      subst e
      obtain ⟨n1, _, n3⟩ := List.nodup_append.mp h1.nd
      obtain ⟨o1, o2⟩ := ord_snoc.mp h1.od
      refine ⟨q, (ordP_mem G k q).mpr ⟨⟨n1, fun i hi => h1.rg i (List.mem_append_left _ hi), o1⟩, by rw [List.length_append, List.length_singleton] at h2; omega⟩, List.mem_map.mpr ⟨j, (mem_Ab G).mpr ⟨h1.rg j (by simp), fun hm => n3 j hm j (by simp) rfl, o2⟩, rfl⟩⟩
theorem ordP_len (P : List (Int × Int)) (n : Nat) : ∀ k, (ordP P n k).length ≤ n ^ k
  | 0 => Nat.le_refl _
  | k + 1 => by
    have ih := ordP_len P n k
    have : ∀ L : List (List Int), (L.flatMap fun p => (Ab P n p).map fun j => p ++ [j]).length ≤ L.length * n := fun L => by
      induction L with
      | nil => simp
      | cons x L ihl =>
        rw [List.flatMap_cons, List.length_append, List.length_map, List.length_cons, Nat.add_mul]
        have := Ab_len P n x
        omega
    rw [Nat.pow_succ]
    exact Nat.le_trans (this _) (Nat.mul_le_mul_right n ih)
end DVL


namespace DVL
open PySem L2 DV
/-- the list of ends, adv: the day behind a job from its day and its time -/
def fillG (adv : Int → Int → Int) (ts : List Int) : Int → List Int → List Int → List Int
  | _, fd, [] => fd
  | d, fd, j :: p => fillG adv ts (adv d (val ts j)) (fd.set j.toNat (adv d (val ts j))) p
end DVL

namespace DVL
open PySem L2 DV
theorem ends_in_gives (ts p : List Int) (hn : ts.length ≤ 1000) (hp : ∀ j ∈ p, 0 ≤ j ∧ j < ts.length) : DV.Gives (m_ends_in [.d (ti ts), .d (ti p)]) fun r => r = .n ((fillG (fun d t => d + t) ts 0 (List.replicate ts.length 0) p).map PyData.int) := by
  have hl : (ts.map PyData.int).length = ts.length := List.length_map ..
  refine gv_run (gv_seq (gv_par (gv_cons (gv_e2 (gv_lst (gv_cons (gv_c (gv_nil ⟨[.int 0], rfl, by simp, gv_call (gv_cons (gv_var rfl (gv_nil ⟨.d (.int (ts.length : Nat)), ?_, _, zeros_eq _ hn, gv_cons (gv_c (gv_nil ⟨_, _, _, _, rfl, rfl, rfl, ?_⟩))⟩)))⟩))))))))
  · show some (RV.d (.int (((ts.map PyData.int).length : Nat) : Int))) = _
    rw [hl]
  refine gv_seq (gv_for (its := p.map PyData.int) (lk := none) rfl ?_)
  refine DV.Gives.loop _ (fun xs ρ => ∃ (q fd : List Int) (d : Int) (y5 : Option SV), ρ = [some (.d (ti ts)), some (.d (ti p)), some (.o (fd.map PyData.int)), some (.d (.int d)), y5] ∧ xs = q.map PyData.int ∧ (∀ j ∈ q, 0 ≤ j ∧ j < (ts.length : Int)) ∧ fd.length = ts.length ∧ fillG (fun d t => d + t) ts d fd q = fillG (fun d t => d + t) ts 0 (List.replicate ts.length 0) p) _ ⟨p, List.replicate ts.length 0, 0, none, rfl, rfl, hp, by simp, rfl⟩ ?_ ?_
  · rintro x xs ρ ⟨q, fd, d, y5, rfl, e, hq, hfl, hf⟩
    cases q with
    | nil => cases e
    | cons j q =>
      cases e
      obtain ⟨j0, j1⟩ := hq j List.mem_cons_self
      refine ⟨_, rfl, gv_seq (gv_aug (y := .d (.int d)) (a := d) rfl rfl (gv_e2 (gv_var rfl (gv_var rfl ⟨_, gIx_ti j0 j1, _, rfl, ?_⟩))))⟩
      refine gv_put (ds := fd.map PyData.int) rfl (gv_var rfl (gv_var rfl ⟨j, .int (d + val ts j), j.toNat, rfl, rfl, by rw [List.length_map, hfl]; exact ixN_nat j0 j1, ?_⟩))
      refine ⟨q, fd.set j.toNat (d + val ts j), d + val ts j, some (.d (.int j)), ?_, rfl, fun z hz => hq z (List.mem_cons_of_mem _ hz), by rw [List.length_set]; exact hfl, hf⟩
      rw [List.map_set]
      rfl
  · rintro ρ ⟨q, fd, d, y5, rfl, e, hq, hfl, hf⟩
    cases q with
    | nil =>
      refine gv_rtV rfl ?_
      show RV.n (fd.map PyData.int) = _
      rw [← hf]
      rfl
    | cons j q => cases e
end DVL

namespace DVL
open PySem L2 DV
theorem fillG_len (adv : Int → Int → Int) (ts : List Int) : ∀ (p : List Int) (d : Int) (fd : List Int), (fillG adv ts d fd p).length = fd.length
  | [], _, _ => rfl
  | j :: p, d, fd => by
    unfold fillG
    rw [fillG_len adv ts p, List.length_set]
end DVL




namespace DVL
open PySem L2 DV
abbrev plus : Int → Int → Int := fun d t => d + t
end DVL


namespace DVL
open PySem L2 DV
theorem getD_pre (pre : List Int) (x : Int) (l : List Int) : (pre ++ x :: l).getD pre.length 0 = x := by
  rw [List.getD_eq_getElem?_getD, List.getElem?_append_right (Nat.le_refl _), Nat.sub_self]
  rfl
theorem rng_val : ∀ (ws pre : List Int), (rngI (pre.length : Nat) ws.length).map (fun i => (pre ++ ws).getD i.toNat 0) = ws
  | [], _ => rfl
  | w :: ws, pre => by
    have ih := rng_val ws (pre ++ [w])
    rw [List.length_append, List.length_singleton, List.append_assoc] at ih
    show (pre ++ w :: ws).getD ((pre.length : Nat) : Int).toNat 0 :: (rngI ((pre.length : Int) + 1) ws.length).map (fun i => (pre ++ w :: ws).getD i.toNat 0) = w :: ws
    rw [Int.toNat_natCast, getD_pre]
    congr 1
theorem perm_sum {a b : List Int} (h : a.Perm b) : a.sum = b.sum := by
  induction h with
  | nil => rfl
  | cons x _ ih => rw [List.sum_cons, List.sum_cons, ih]
  | swap x y l =>
    rw [List.sum_cons, List.sum_cons, List.sum_cons, List.sum_cons]
    omega
  | trans _ _ h1 h2 => exact h1.trans h2
theorem sum_perm (ts : List Int) {p : List Int} (hp : p.Perm (rngI 0 ts.length)) : (p.map (val ts)).sum = ts.sum := by
  have e := rng_val ts []
  have h : ((rngI 0 ts.length).map (val ts)) = ts := e
  have h2 := (hp.map (val ts))
  rw [h] at h2
  exact perm_sum h2
/-- the law's names -/
theorem Tm.ord {ts p : List Int} (W : Tm ts) (hp : p.Perm (rngI 0 ts.length)) : DV.Gives (m_need_order [.d (ti p), .d (.int ((ts.map PyData.int).length : Nat))]) fun r => r = .d .none := by
  have no := need_order_ok p ts.length (by have := W.len; omega) hp
  rwa [← (List.length_map .. : (ts.map PyData.int).length = ts.length)] at no
/-- the ends without stops -/
abbrev ensI (ts p : List Int) : List Int := fillG (fun d t => d + t) ts 0 (List.replicate ts.length 0) p
theorem need_weighed_ok (ts ws : List Int) (W : Tm ts) (hl : ws.length = ts.length) (hw : ∀ w ∈ ws, 0 ≤ w ∧ w ≤ 60) : DV.Gives (m_need_weighed [.d (ti ts), .d (ti ws)]) fun r => r = .d .none := by
  have hlm : (ts.map PyData.int).length = ts.length := List.length_map ..
  refine gv_run (gv_seq (gv_drop (gv_fn (gv_cons (gv_var rfl (gv_nil ⟨rfl, ?_⟩))))))
  refine (need_times_ok ts W.pos W.len W.tim).mono fun _ _ => ?_
  refine gv_drop (gv_fn (gv_cons (gv_var rfl (gv_cons (gv_call (gv_cons (gv_var rfl (gv_nil ⟨_, rfl, gv_nil ⟨rfl, ?_⟩⟩))))))))
  have nw := need_weights_ok ws ts.length hl (by have := W.len; omega) hw
  rw [← hlm] at nw
  exact nw.mono fun _ _ => rfl
end DVL

namespace DVL
open PySem L2 DV
theorem Tm.tp {ts p : List Int} (W : Tm ts) (hp : p.Perm (rngI 0 ts.length)) : ∀ j ∈ p, 1 ≤ val ts j := fun j hj => (W.t (order_mem hp hj).1 (order_mem hp hj).2).1
end DVL

namespace DVL
open PySem L2 DV
theorem alike_intK (k : Nat) (x : Int) : DV.Gives (mr__law_alike (k + 1) [.d (.int x), .d (.int x)]) fun r => r = .d (.bool true) := by
  refine gv_run (gv_seq (gv_if (gv_T (gv_isT2 (gv_var rfl ⟨_, rfl, false, rfl, (fun q => nomatch q), fun _ => gv_nop ?_⟩)))))
  refine gv_seq (gv_if (gv_or (gv_T (gv_e2 (gv_var rfl (gv_c ⟨.d (.bool false), rfl, false, rfl, (fun q => nomatch q), fun _ => ?_⟩))))))
  refine gv_T (gv_isT (gv_var rfl ⟨_, rfl, false, rfl, (fun q => nomatch q), fun _ => gv_nop ?_⟩))
  refine gv_rt (gv_ifB (gv_isT (gv_var rfl ⟨_, rfl, true, rfl, (fun _ => ?_), (fun q => nomatch q)⟩)))
  refine gv_ifB (gv_e2 (gv_isT (gv_var rfl ⟨_, rfl, gv_isT (gv_var rfl ⟨_, rfl, .d (.bool true), ?_, true, rfl, (fun _ => ?_), (fun q => nomatch q)⟩)⟩)))
  · simp [gEqB, viewD, isT, SeqAt.shaped, PyData.canLay0, PyData.depth, PyData.eqv]
  · refine gv_e2 (gv_var rfl (gv_var rfl ⟨_, eq_ints false x x, _, rfl, ?_⟩))
    simp
abbrev kp (a b : Int) : D := .tuple [.int a, .int b]
/-- in the order of pairs -/
abbrev pLe (k : Int → Int × Int) (i j : Int) : Prop := (k i).1 < (k j).1 ∨ ((k i).1 = (k j).1 ∧ (k i).2 ≤ (k j).2)
theorem law_ends_gives (ts p : List Int) (hn : ts.length ≤ 1000) (hp : ∀ j ∈ p, 0 ≤ j ∧ j < ts.length) : DV.Gives (m__law_ends [.d (ti ts), .d (ti p)]) fun r => r = .n ((ensI ts p).map PyData.int) := by
  have hl : (ts.map PyData.int).length = ts.length := List.length_map ..
  refine gv_run (gv_seq (gv_par (gv_cons (gv_e2 (gv_lst (gv_cons (gv_c (gv_nil ⟨[.int 0], rfl, by simp, gv_call (gv_cons (gv_var rfl (gv_nil ⟨.d (.int (ts.length : Nat)), ?_, _, zeros_eq _ hn, gv_cons (gv_c (gv_nil ⟨_, _, _, _, rfl, rfl, rfl, ?_⟩))⟩)))⟩))))))))
  · show some (RV.d (.int (((ts.map PyData.int).length : Nat) : Int))) = _
    rw [hl]
  refine gv_seq (gv_for (its := p.map PyData.int) (lk := none) rfl ?_)
  refine DV.Gives.loop _ (fun xs ρ => ∃ (q fd : List Int) (d : Int) (y5 : Option SV), ρ = [some (.d (ti ts)), some (.d (ti p)), some (.o (fd.map PyData.int)), some (.d (.int d)), y5] ∧ xs = q.map PyData.int ∧ (∀ j ∈ q, 0 ≤ j ∧ j < (ts.length : Int)) ∧ fd.length = ts.length ∧ fillG (fun d t => d + t) ts d fd q = fillG (fun d t => d + t) ts 0 (List.replicate ts.length 0) p) _ ⟨p, List.replicate ts.length 0, 0, none, rfl, rfl, hp, by simp, rfl⟩ ?_ ?_
  · rintro x xs ρ ⟨q, fd, d, y5, rfl, e, hq, hfl, hf⟩
    cases q with
    | nil => cases e
    | cons j q =>
      cases e
      obtain ⟨j0, j1⟩ := hq j List.mem_cons_self
      refine ⟨_, rfl, gv_seq (gv_set (gv_e2 (gv_var rfl (gv_e2 (gv_var rfl (gv_var rfl ⟨_, gIx_ti j0 j1, _, rfl, _, rfl, ?_⟩))))))⟩
      refine gv_put (ds := fd.map PyData.int) rfl (gv_var rfl (gv_var rfl ⟨j, .int (d + val ts j), j.toNat, rfl, rfl, by rw [List.length_map, hfl]; exact ixN_nat j0 j1, ?_⟩))
      refine ⟨q, fd.set j.toNat (d + val ts j), d + val ts j, some (.d (.int j)), ?_, rfl, fun z hz => hq z (List.mem_cons_of_mem _ hz), by rw [List.length_set]; exact hfl, hf⟩
      rw [List.map_set]
      rfl
  · rintro ρ ⟨q, fd, d, y5, rfl, e, hq, hfl, hf⟩
    cases q with
    | nil =>
      refine gv_rtV rfl ?_
      show RV.n (fd.map PyData.int) = _
      have hf : fd = ensI ts p := hf
      rw [hf]
    | cons j q => cases e
end DVL

namespace DVL
open PySem L2 DV
def hitQ (x : Int) (p : Int × Int) : Bool := decide (p.1 ≤ x) && decide (x < p.2)
def hitB (ss : List (Int × Int)) (x : Int) : Bool := ss.any (hitQ x)
def free (ss : List (Int × Int)) (last : Nat) : List Int := (rngI 0 last).filter fun x => !hitB ss x
theorem canLay_prs : ∀ ss : List (Int × Int), PyData.canLayAll0 (ss.map pr) = true
  | [] => by simp [PyData.canLayAll0]
  | p :: ss => by
    rw [List.map_cons, PyData.canLayAll0, canLay_prs ss]
    simp [PyData.canLay0, PyData.canLayAll0]
theorem depth_prs : ∀ ss : List (Int × Int), PyData.depthAll (ss.map pr) ≤ 1
  | [] => by simp [PyData.depthAll]
  | p :: ss => by
    rw [List.map_cons, PyData.depthAll]
    have := depth_prs ss
    simp [PyData.depth, PyData.depthAll]
    omega
theorem shaped_prs (ss : List (Int × Int)) : SeqAt.shaped (.list (ss.map pr)) = true := by
  unfold SeqAt.shaped
  rw [PyData.canLay0, canLay_prs, PyData.depth]
  have := depth_prs ss
  simp
  omega
end DVL


namespace DVL
open PySem L2 DV
def at2 (tb : List (Int × Int)) (j : Int) : Int × Int := tb.getD j.toNat (0, 0)
def srtP (k : Int → Int × Int) (js : List Int) : List Int := js.mergeSort fun i j => decide (pLe k i j)
theorem srtP_perm (k : Int → Int × Int) (js : List Int) : (srtP k js).Perm js := List.mergeSort_perm _ _
end DVL

namespace DVL
open PySem L2 DV
structure Tb (tb : List (Int × Int)) : Prop where
  pos : 1 ≤ tb.length
  len : tb.length ≤ 8
  rng : ∀ p ∈ tb, (0 ≤ p.1 ∧ p.1 ≤ 60) ∧ 0 ≤ p.2 ∧ p.2 ≤ 60
section
variable {tb : List (Int × Int)} {ls : List Int}
theorem at2_mem {j : Int} (h0 : 0 ≤ j) (h1 : j < tb.length) : at2 tb j ∈ tb := by
  unfold at2
  rw [List.getD_eq_getElem?_getD, List.getElem?_eq_getElem (by omega)]
  exact List.getElem_mem _
theorem Tb.at (B : Tb tb) {j : Int} (h0 : 0 ≤ j) (h1 : j < tb.length) : (0 ≤ (at2 tb j).1 ∧ (at2 tb j).1 ≤ 60) ∧ 0 ≤ (at2 tb j).2 ∧ (at2 tb j).2 ≤ 60 := B.rng _ (at2_mem h0 h1)
theorem gIx_tb {j : Int} (h0 : 0 ≤ j) (h1 : j < tb.length) : gIx (.d (sts tb)) (.d (.int j)) = some (.d (pr (at2 tb j))) := by
  obtain ⟨k, rfl⟩ : ∃ k : Nat, j = (k : Int) := ⟨j.toNat, by omega⟩
  have hk : k < tb.length := by omega
  show (atI (tb.map pr) (k : Int)).map RV.d = _
  rw [atI_pr tb hk]
  unfold at2
  rw [Int.toNat_natCast, List.getD_eq_getElem?_getD, List.getElem?_eq_getElem hk]
  rfl
end
end DVL



namespace DVL
open PySem L2 DV
def rowA (tb : List (List Int)) (j : Int) : List Int := tb.getD j.toNat []
end DVL


namespace DVL
open PySem L2 DV
structure Sp (ss : List (Int × Int)) : Prop where
  pos : 1 ≤ ss.length
  len : ss.length ≤ 14
  rng : ∀ p ∈ ss, 0 ≤ p.1 ∧ p.1 < p.2 ∧ p.2 ≤ 600
section
variable {ss : List (Int × Int)}
theorem Sp.at (S : Sp ss) {j : Int} (h0 : 0 ≤ j) (h1 : j < ss.length) : 0 ≤ (at2 ss j).1 ∧ (at2 ss j).1 < (at2 ss j).2 ∧ (at2 ss j).2 ≤ 600 := S.rng _ (at2_mem h0 h1)
end
end DVL

namespace DVL
open PySem L2 DV
theorem gv_sortSet {f : DV.Env → M RV} {ρ : DV.Env} {P : RV → Prop} (p : DV.Gives (f ρ) fun x => ∃ js, sortSetOf x = some js ∧ P (.n (js.map PyData.int))) : DV.Gives (eSortSet f ρ) P := by
  unfold eSortSet
  refine DV.Gives.bnd p fun x ⟨js, e, q⟩ => ?_
  rw [e, lft_s, bnd_ret]
  exact DV.Gives.ret q
theorem sortSet_ti {js : List Int} (h : js.length < 64) : sortSetOf (.d (ti js)) = some (sortI (ddI js)) := by
  unfold sortSetOf
  simp only [intsOf_map, if_pos h]
theorem sort_up {js : List Int} (h : js.Pairwise (· < ·)) : sortI (ddI js) = js := by
  rw [ddI_of_nodup js (h.imp fun h => Int.ne_of_lt h)]
  exact sorted_uniq (sortI_perm js) (sortI_sorted js) (h.imp fun h => Int.le_of_lt h)
theorem sort_nodup {js : List Int} (h : js.Nodup) : (sortI js).Pairwise (· < ·) := by
  have h2 : (sortI js).Nodup := (sortI_perm js).nodup_iff.mpr h
  exact (List.pairwise_and_iff.mpr ⟨sortI_sorted js, h2⟩).imp fun {a b} ⟨h1, h2⟩ => by
    have : a ≠ b := h2
    omega
end DVL

namespace DVL
open PySem L2 DV
def cnt (ss : List (Int × Int)) (d : Int) : Nat := (ss.filter fun p => decide (p.1 ≤ d ∧ d < p.2)).length
section
variable {ss : List (Int × Int)}
def kb (ss : List (Int × Int)) (j : Int) : D := .tuple [pr (at2 ss j), .int j]
end
end DVL

namespace DVL
open PySem L2 DV
theorem nodup_le : ∀ {p q : List Int}, p.Nodup → (∀ x ∈ p, x ∈ q) → p.length ≤ q.length
  | [], _, _, _ => Nat.zero_le _
  | x :: p, q, nd, hs => by
    obtain ⟨h1, h2⟩ := List.nodup_cons.mp nd
    have hx := hs x List.mem_cons_self
    have e := List.perm_cons_erase hx
    have := nodup_le (q := q.erase x) h2 fun y hy => by
      rcases List.mem_cons.mp (e.mem_iff.mp (hs y (List.mem_cons_of_mem _ hy))) with z | z
      · exact absurd (z ▸ hy) h1
      · exact z
    have h3 := e.length_eq
    rw [List.length_cons] at h3 ⊢
    omega
end DVL

namespace DVL
open PySem L2 DV
section
variable {ss : List (Int × Int)}
/-- the free machines -/
def able (fr : List Int) (b : Int) : List Int := (rngI 0 fr.length).filter fun k => decide (val fr k ≤ b)
theorem boolsOf_map : ∀ bs : List Bool, boolsOf (bs.map PyData.bool) = some bs
  | [] => rfl
  | b :: bs => by
    show (match boolsOf (bs.map PyData.bool) with | some js => some (b :: js) | none => none) = _
    rw [boolsOf_map bs]
end
end DVL



namespace DVL
open PySem L2 DV
section
variable {ss : List (Int × Int)}
theorem Sp.ne (S : Sp ss) : ss ≠ [] := fun e => by have := S.pos; rw [e] at this; simp at this
theorem okBest_kp (js : List Int) (k : Int → Int × Int) : okBest (js.map fun j => kp (k j).1 (k j).2) = true := by
  unfold okBest
  simp only [List.all_eq_true]
  intro x hx y hy
  obtain ⟨i, _, rfl⟩ := List.mem_map.mp hx
  obtain ⟨j, _, rfl⟩ := List.mem_map.mp hy
  simp [cmpOk, PySem.W.alike, PySem.W.alikeAll, isNoneD, PyData.depth, PyData.depthAll]
end
end DVL

namespace DVL
open PySem L2 DV
section
variable {κ : Type} [DecidableEq κ]
def pm (M : List (κ × Int)) (k : κ) (w : Int) : List (κ × Int) := putA M k (max ((getA M k).getD w) w)
variable {M : List (κ × Int)} {k : κ} {w : Int} {p : κ × Int}
end
abbrev HM := List (List Int × Int)
end DVL

namespace DVL
open PySem L2 DV
section
variable {ss : List (Int × Int)} {ws S T pre : List Int} {i : Int}
abbrev R3 := Int × Int × List Int
end
end DVL

namespace DV
open PySem L2
section
variable {ρ ρ' : Env} {P : RV → Prop} {Q : Out → Prop} {f g : Env → M RV}
def KAx (i : Nat) (kf : Int → Int → Int) (ds : List D) (f : Env → M RV) (ρ : Env) (Q : Out → Prop) (j : Int) : Prop := ∃ m a, ixN ds.length j = some m ∧ (ds[m]?).bind dI = some a ∧ Gives (f ρ) (KI fun b => KSet i ρ Q (.n (ds.set m (.int (kf a b)))))
theorem w_augIx {i : Nat} {kf : Int → Int → Int} {ds : List D} (e1 : sApp.own? ρ i = some ds) (p : Gives (g ρ) (KI (KAx i kf ds f ρ Q))) : Gives (sAugIx i kf g f ρ) Q := by
  unfold sAugIx
  rw [e1, lft_s, bnd_ret]
  refine Gives.bnd p fun y ⟨j, e2, m, a, e3, e4, q⟩ => ?_
  rw [e2, lft_s, bnd_ret, e3, lft_s, bnd_ret, e4, lft_s, bnd_ret]
  refine Gives.bnd q fun x ⟨b, e5, sv, e6, q⟩ => ?_
  rw [e5, lft_s, bnd_ret]
  cases e6
  exact Gives.ret q
theorem w_isBl {a b : Bool} (p : P (.d (.bool (a == b)))) : K2 (gIsBl false) P (.d (.bool a)) (.d (.bool b)) := ⟨.d (.bool (a == b)), by cases a <;> cases b <;> rfl, p⟩
theorem w_ntBl {a b : Bool} (p : P (.d (.bool (a != b)))) : K2 (gIsBl true) P (.d (.bool a)) (.d (.bool b)) := ⟨.d (.bool (a != b)), by cases a <;> cases b <;> rfl, p⟩
theorem w_isTT (p : P (.d (.bool true))) : K2 (gIsBl false) P (.d (.bool true)) (.d (.bool true)) := w_isBl p
theorem w_ntTT (p : P (.d (.bool false))) : K2 (gIsBl true) P (.d (.bool true)) (.d (.bool true)) := w_ntBl p
theorem w_isFT (p : P (.d (.bool false))) : K2 (gIsBl false) P (.d (.bool false)) (.d (.bool true)) := w_isBl p
theorem w_ntFT (p : P (.d (.bool true))) : K2 (gIsBl true) P (.d (.bool false)) (.d (.bool true)) := w_ntBl p
theorem w_isTF (p : P (.d (.bool false))) : K2 (gIsBl false) P (.d (.bool true)) (.d (.bool false)) := w_isBl p
theorem w_ntTF (p : P (.d (.bool true))) : K2 (gIsBl true) P (.d (.bool true)) (.d (.bool false)) := w_ntBl p
theorem w_isFF (p : P (.d (.bool true))) : K2 (gIsBl false) P (.d (.bool false)) (.d (.bool false)) := w_isBl p
theorem w_ntFF (p : P (.d (.bool false))) : K2 (gIsBl true) P (.d (.bool false)) (.d (.bool false)) := w_ntBl p
def KZip3 (C : List D × Option Nat → Prop) (p q r : List D × Option Nat) : Prop := ∃ l l2, joinLk p.2 q.2 = some l ∧ joinLk l r.2 = some l2 ∧ C (zip3D p.1 q.1 r.1, l2)
theorem w_zip3 {C : List D × Option Nat → Prop} {s1 s2 s3 : Env → M (List D × Option Nat)} (p : Gives (s1 ρ) fun a => Gives (s2 ρ) fun b => Gives (s3 ρ) fun c => KZip3 C a b c) : Gives (iZip3F s1 s2 s3 ρ) C :=
  Gives.bnd p fun a q => Gives.bnd q fun b q => Gives.bnd q fun c ⟨l, l2, e, e2, r⟩ => by rw [e, lft_s, bnd_ret, e2, lft_s, bnd_ret]; exact Gives.ret r
theorem zip3_rng : ∀ (n : Nat) (A B C : List Int), A.length = n → B.length = n → C.length = n → zip3D (A.map PyData.int) (B.map PyData.int) (C.map PyData.int) = (DVL.rngI 0 n).map fun i => PyData.tuple [.int (DVL.val A i), .int (DVL.val B i), .int (DVL.val C i)] := fun n A B C a b c => by
  refine List.ext_getElem? fun i => ?_
  by_cases h : i < n
  · have ha : i < A.length := by omega
    have hb : i < B.length := by omega
    have hc : i < C.length := by omega
    rw [zip3D_get _ _ _ i (.int A[i]) (.int B[i]) (.int C[i]) (by rw [List.getElem?_map, List.getElem?_eq_getElem ha]; rfl) (by rw [List.getElem?_map, List.getElem?_eq_getElem hb]; rfl) (by rw [List.getElem?_map, List.getElem?_eq_getElem hc]; rfl),
      List.getElem?_map, DVL.rng_get n 0 i h, Int.zero_add]
    show _ = some (PyData.tuple [.int (DVL.val A (i : Int)), .int (DVL.val B (i : Int)), .int (DVL.val C (i : Int))])
    rw [DVL.val_get ha, DVL.val_get hb, DVL.val_get hc]
  · rw [List.getElem?_eq_none (by rw [zip3D_len, List.length_map, List.length_map, List.length_map]; omega), List.getElem?_eq_none (by rw [List.length_map, DVL.rngI_len]; omega)]
theorem w_zip3V {C : List D × Option Nat → Prop} {A B D3 : List Int} {l1 l2 l3 l l4 : Option Nat} (n : Nat) (a : A.length = n) (b : B.length = n) (c : D3.length = n) (e1 : joinLk l1 l2 = some l) (e2 : joinLk l l3 = some l4) (p : C ((DVL.rngI 0 n).map (fun i => PyData.tuple [.int (DVL.val A i), .int (DVL.val B i), .int (DVL.val D3 i)]), l4)) : KZip3 C (A.map PyData.int, l1) (B.map PyData.int, l2) (D3.map PyData.int, l3) :=
  ⟨l, l4, e1, e2, by show C (zip3D _ _ _, l4); rw [zip3_rng n A B D3 a b c]; exact p⟩
end
end DV

namespace DV
open PySem L2
section
variable {κ : Type} [DecidableEq κ] {E : Key κ} {ρ ρ' : Env} {P : RV → Prop} {Q : Out → Prop} {f h k : Env → DV.M RV} {x y : RV}
theorem w_ixS {tb : List (Int × Int)} {j : Int} (c : 0 ≤ j ∧ j < tb.length) (p : P (.d (DVL.pr (DVL.at2 tb j)))) : K2 gIx P (.d (DVL.sts tb)) (.d (.int j)) := ⟨_, DVL.gIx_tb c.1 c.2, p⟩
theorem w_ix2 {d e g : D} {ds : List D} (p : P (.d g)) : K2 gIx P (.d (.tuple (d :: e :: g :: ds))) (.d (.int 2)) := by
  refine ⟨.d g, ?_, p⟩
  show (atI (d :: e :: g :: ds) ((2 : Nat) : Int)).map RV.d = _
  rw [atI_nat (v := g) rfl]; rfl
/-- d.get(k, x) -/
def KGg2 (c : DC) (k : Env → DV.M RV) (ρ : Env) (P : RV → Prop) (d : D) : Prop := keyOk c.t d = true ∧ Gives (k ρ) fun z => P (match lookK c.kv (nk d) with | some vd => .d vd | none => z)
theorem w_gget2 (p : Gives (f ρ) fun x => ∃ c, dcOf x = some c ∧ Gives (h ρ) (KG (KGg2 c k ρ P))) : Gives (eGGet2 f h k ρ) P := by
  unfold eGGet2
  refine Gives.bnd p fun x ⟨c, e, q⟩ => ?_
  rw [e, lft_s, bnd_ret]
  refine Gives.bnd q fun y ⟨d, e2, h1, q2⟩ => ?_
  rw [e2, lft_s, bnd_ret]
  refine Gives.bnd q2 fun z hz => ?_
  rw [if_pos h1]
  revert hz
  cases lookK c.kv (nk d) with
  | none => exact fun hz => Gives.ret hz
  | some vd => exact fun hz => Gives.ret hz
end
end DV

namespace DVB
open PySem L2 DV DVL
/-- what is kept of rows -/
structure Kept (L K : List (Int × Int × List Int)) : Prop where
  sub : ∀ r ∈ K, r ∈ L
  dom : ∀ o ∈ L, ∃ r ∈ K, r.1 ≤ o.1 ∧ r.2.1 ≤ o.2.1
  str : K.Pairwise fun a b => b.2.1 < a.2.1
/-- one row more, of rows in their order -/
theorem Kept.nil : Kept [] [] := ⟨fun _ h => h, fun _ h => (nomatch h), .nil⟩
theorem Kept.skip {L K : List (Int × Int × List Int)} {x : Int × Int × List Int} (h : Kept L K) (hx : ∃ r ∈ K, r.1 ≤ x.1 ∧ r.2.1 ≤ x.2.1) : Kept (L ++ [x]) K :=
  ⟨fun r m => List.mem_append_left _ (h.sub r m), fun o m => by
    rcases List.mem_append.mp m with m | m
    · exact h.dom o m
    · rw [List.mem_singleton] at m
      subst m
      exact hx, h.str⟩
theorem Kept.add {L K : List (Int × Int × List Int)} {x : Int × Int × List Int} (h : Kept L K) (hx : ∀ r ∈ K, x.2.1 < r.2.1) : Kept (L ++ [x]) (K ++ [x]) :=
  ⟨fun r m => by
    rcases List.mem_append.mp m with m | m
    · exact List.mem_append_left _ (h.sub r m)
    · exact List.mem_append_right _ m, fun o m => by
    rcases List.mem_append.mp m with m | m
    · obtain ⟨r, h1, h2⟩ := h.dom o m
      exact ⟨r, List.mem_append_left _ h1, h2⟩
    · rw [List.mem_singleton] at m
      subst m
      exact ⟨o, List.mem_append_right _ List.mem_cons_self, Int.le_refl _, Int.le_refl _⟩,
   List.pairwise_append.mpr ⟨h.str, List.pairwise_singleton .., fun a ha b hb => by
    rw [List.mem_singleton] at hb
    subst hb
    exact hx a ha⟩⟩
theorem Kept.perm {L L' K : List (Int × Int × List Int)} (h : Kept L K) (p : L.Perm L') : Kept L' K := ⟨fun r m => p.mem_iff.mp (h.sub r m), fun o m => h.dom o (p.mem_iff.mpr m), h.str⟩
structure St where
  c : Int
  d : Int
  l : Option Int
section
variable (ts fs ss ord : List Int) (A : Int → Int → Int → Int) (c0 : Int) (k : Nat)
def nxt (s : St) (j : Int) : St := ⟨A s.c j (s.d + val ts j + (if s.l = some (val fs j) then 0 else val ss (val fs j))), s.d + val ts j + (if s.l = some (val fs j) then 0 else val ss (val fs j)), some (val fs j)⟩
def run (p : List Int) : St := p.foldl (nxt ts fs ss A) ⟨c0, 0, none⟩
def ofF (f : Int) (p : List Int) : List Int := p.filter fun j => decide (val fs j = f)
def cnt (p : List Int) (f : Int) : Nat := (ofF fs f p).length
def key (p : List Int) : List Int × Option Int := ((rngI 0 k).map fun f => ((cnt fs p f : Nat) : Int), (run ts fs ss A c0 p).l)
def Leg (p : List Int) : Prop := (∀ j ∈ p, j ∈ ord) ∧ ∀ f, ofF fs f p <+: ofF fs f ord
/-- its row -/
def rw3 (p : List Int) : Int × Int × List Int := ((run ts fs ss A c0 p).c, (run ts fs ss A c0 p).d, p)
variable {ts fs ss ord A c0 k}
theorem run_snoc (p : List Int) (j : Int) : run ts fs ss A c0 (p ++ [j]) = nxt ts fs ss A (run ts fs ss A c0 p) j := by
  unfold run
  rw [List.foldl_append]
  rfl
theorem ofF_snoc (f : Int) (p : List Int) (j : Int) : ofF fs f (p ++ [j]) = ofF fs f p ++ if val fs j = f then [j] else [] := by
  unfold ofF
  rw [List.filter_append]
  by_cases h : val fs j = f
  · rw [if_pos h, List.filter_cons_of_pos (by simpa using h)]
    rfl
  · rw [if_neg h, List.filter_cons_of_neg (by simpa using h)]
    rfl
theorem cnt_snoc (f : Int) (p : List Int) (j : Int) : cnt fs (p ++ [j]) f = cnt fs p f + if val fs j = f then 1 else 0 := by
  unfold cnt
  rw [ofF_snoc, List.length_append]
  split <;> rfl
theorem pre_snoc {l m : List Int} {a : Int} : l ++ [a] <+: m ↔ l <+: m ∧ m[l.length]? = some a := by
  constructor
  · rintro ⟨t, e⟩
    subst e
    refine ⟨⟨a :: t, by simp⟩, ?_⟩
    rw [List.append_assoc, List.getElem?_append_right (Nat.le_refl _), Nat.sub_self]
    rfl
  · rintro ⟨⟨t, e⟩, h⟩
    subst e
    rw [List.getElem?_append_right (Nat.le_refl _), Nat.sub_self] at h
    cases t with
    | nil => cases h
    | cons b t =>
      cases h
      exact ⟨t, by simp⟩
theorem Leg.nil : Leg fs ord [] := ⟨fun _ h => (nomatch h), fun f => List.nil_prefix⟩
theorem leg_snoc {p : List Int} {j : Int} : Leg fs ord (p ++ [j]) ↔ Leg fs ord p ∧ (ofF fs (val fs j) ord)[cnt fs p (val fs j)]? = some j := by
  constructor
  · rintro ⟨h1, h2⟩
    have h3 := h2 (val fs j)
    rw [ofF_snoc, if_pos rfl, pre_snoc] at h3
    refine ⟨⟨fun i hi => h1 i (List.mem_append_left _ hi), fun f => ?_⟩, h3.2⟩
    have h4 := h2 f
    rw [ofF_snoc] at h4
    exact (List.prefix_append ..).trans h4
  · rintro ⟨⟨h1, h2⟩, h3⟩
    have hj : j ∈ ord := (List.mem_filter.mp (List.mem_of_getElem? h3)).1
    refine ⟨fun i hi => ?_, fun f => ?_⟩
    · rcases List.mem_append.mp hi with z | z
      · exact h1 i z
      · rw [List.mem_singleton] at z
        subst z
        exact hj
    · rw [ofF_snoc]
      by_cases h : val fs j = f
      · subst h
        rw [if_pos rfl, pre_snoc]
        exact ⟨h2 _, h3⟩
      · rw [if_neg h, List.append_nil]
        exact h2 f
/-- a job that a family's list tells is of that family -/
theorem ofF_get {f : Int} {i : Nat} {j : Int} (h : (ofF fs f ord)[i]? = some j) : val fs j = f ∧ j ∈ ord := by
  have := List.mem_filter.mp (List.mem_of_getElem? h)
  exact ⟨by simpa using this.2, this.1⟩
theorem Leg.nodup (nd : ord.Nodup) {p : List Int} (h : Leg fs ord p) : p.Nodup := by
  rw [List.nodup_iff_count]
  intro j
  by_cases hj : j ∈ p
  · have h1 := (h.2 (val fs j)).sublist.count_le j
    have e : ∀ q : List Int, (ofF fs (val fs j) q).count j = q.count j := fun q => List.count_filter (by simp)
    rw [e, e] at h1
    exact Nat.le_trans h1 (List.nodup_iff_count.mp nd j)
  · rw [List.count_eq_zero.mpr hj]
    exact Nat.zero_le _
theorem Leg.len (nd : ord.Nodup) {p : List Int} (h : Leg fs ord p) : p.length ≤ ord.length := by
  exact nodup_le (h.nodup nd) h.1
theorem Leg.perm (nd : ord.Nodup) {p : List Int} (h : Leg fs ord p) (hl : p.length = ord.length) : p.Perm ord :=
  nodup_perm (h.nodup nd) h.1 (by omega)
theorem Leg.cnt_le {p : List Int} (h : Leg fs ord p) (f : Int) : cnt fs p f ≤ ord.length := Nat.le_trans (h.2 f).length_le (List.length_filter_le ..)
/-- at the end all lists are done -/
theorem Leg.full (nd : ord.Nodup) {p : List Int} (h : Leg fs ord p) (hl : p.length = ord.length) (f : Int) : cnt fs p f = cnt fs ord f := ((h.perm nd hl).filter _).length_eq
def Mono (A : Int → Int → Int → Int) (ord : List Int) : Prop := ∀ c c' j e e', j ∈ ord → c ≤ c' → e ≤ e' → A c j e ≤ A c' j e'
theorem better (hA : Mono A ord) {r p : List Int} {j : Int} (hj : j ∈ ord) (hl : (run ts fs ss A c0 r).l = (run ts fs ss A c0 p).l) (h1 : (run ts fs ss A c0 r).c ≤ (run ts fs ss A c0 p).c) (h2 : (run ts fs ss A c0 r).d ≤ (run ts fs ss A c0 p).d) :
    (run ts fs ss A c0 (r ++ [j])).c ≤ (run ts fs ss A c0 (p ++ [j])).c ∧ (run ts fs ss A c0 (r ++ [j])).d ≤ (run ts fs ss A c0 (p ++ [j])).d := by
  rw [run_snoc, run_snoc]
  unfold nxt
  rw [hl]
  refine ⟨hA _ _ _ _ _ hj h1 ?_, ?_⟩
  · omega
  · show _ + _ + _ ≤ _ + _ + _
    omega
end
end DVB

namespace DVB
open PySem L2 DV DVL
theorem nodup_leG {α : Type} : ∀ {p q : List α}, p.Nodup → (∀ x ∈ p, x ∈ q) → p.length ≤ q.length
  | [], _, _, _ => Nat.zero_le _
  | x :: p, q, nd, h => by
    rw [List.nodup_cons] at nd
    obtain ⟨s, t, e⟩ := List.append_of_mem (h x List.mem_cons_self)
    subst e
    have := nodup_leG (q := s ++ t) nd.2 fun y hy => by
      have h2 := h y (List.mem_cons_of_mem _ hy)
      rcases List.mem_append.mp h2 with z | z
      · exact List.mem_append_left _ z
      · rcases List.mem_cons.mp z with z | z
        · subst z
          exact absurd hy nd.1
        · exact List.mem_append_right _ z
    rw [List.length_append] at this
    rw [List.length_append, List.length_cons, List.length_cons]
    omega
/-- all keys there may be -/
def allC (n : Nat) : Nat → List (List Int)
  | 0 => [[]]
  | k + 1 => (rngI 0 (n + 1)).flatMap fun x => (allC n k).map (x :: ·)
theorem allC_len (n : Nat) : ∀ k, (allC n k).length = (n + 1) ^ k
  | 0 => rfl
  | k + 1 => by
    have h : ∀ L : List Int, (L.flatMap fun x => (allC n k).map (x :: ·)).length = L.length * (n + 1) ^ k := fun L => by
      induction L with
      | nil => simp
      | cons a L ih => rw [List.flatMap_cons, List.length_append, List.length_map, ih, allC_len n k, List.length_cons, Nat.add_mul, Nat.one_mul, Nat.add_comm]
    show (List.flatMap _ _).length = _
    rw [h, rngI_len, Nat.pow_succ, Nat.mul_comm]
theorem allC_mem (n : Nat) : ∀ (k : Nat) (c : List Int), c.length = k → (∀ x ∈ c, 0 ≤ x ∧ x ≤ (n : Int)) → c ∈ allC n k
  | 0, c, hl, _ => by rw [List.length_eq_zero_iff.mp hl]; exact List.mem_cons_self
  | k + 1, [], hl, _ => nomatch hl
  | k + 1, x :: c, hl, h => by
    show _ ∈ List.flatMap _ _
    rw [List.mem_flatMap]
    refine ⟨x, (mem_rngI _ _ _).mpr ?_, List.mem_map.mpr ⟨c, allC_mem n k c (by simpa using hl) fun y hy => h y (List.mem_cons_of_mem _ hy), rfl⟩⟩
    have := h x List.mem_cons_self
    omega
def allL (k : Nat) : List (Option Int) := none :: (rngI 0 k).map some
theorem allL_len (k : Nat) : (allL k).length = k + 1 := by
  unfold allL
  rw [List.length_cons, List.length_map, rngI_len]
def allK (n k : Nat) : List (List Int × Option Int) := (allL k).flatMap fun l => (allC n k).map fun c => (c, l)
theorem allK_len (n k : Nat) : (allK n k).length = (k + 1) * (n + 1) ^ k := by
  have h : ∀ L : List (Option Int), (L.flatMap fun l => (allC n k).map fun c => (c, l)).length = L.length * (n + 1) ^ k := fun L => by
    induction L with
    | nil => simp
    | cons a L ih => rw [List.flatMap_cons, List.length_append, List.length_map, ih, allC_len n k, List.length_cons, Nat.add_mul, Nat.one_mul, Nat.add_comm]
  unfold allK
  rw [h, allL_len]
section
variable {ts fs ss ord : List Int} {A : Int → Int → Int → Int} {c0 : Int} {k : Nat}
abbrev BT := List ((List Int × Option Int) × List (Int × Int × List Int))
/-- families are in their range -/
def InF (fs ord : List Int) (k : Nat) : Prop := ∀ j ∈ ord, 0 ≤ val fs j ∧ val fs j < (k : Int)
theorem last_in (hF : InF fs ord k) {p : List Int} (h : Leg fs ord p) : (run ts fs ss A c0 p).l ∈ allL k := by
  rcases List.eq_nil_or_concat p with e | ⟨q, j, e⟩
  · subst e
    exact List.mem_cons_self
  · rw [List.concat_eq_append] at e
    subst e
    rw [run_snoc]
    refine List.mem_cons_of_mem _ (List.mem_map.mpr ⟨val fs j, (mem_rngI _ _ _).mpr ?_, rfl⟩)
    have := hF j (h.1 j (List.mem_append_right _ List.mem_cons_self))
    omega
theorem key_in (hF : InF fs ord k) {p : List Int} (h : Leg fs ord p) : key ts fs ss A c0 k p ∈ allK ord.length k := by
  unfold allK
  rw [List.mem_flatMap]
  refine ⟨_, last_in (ts := ts) (ss := ss) (A := A) (c0 := c0) hF h, List.mem_map.mpr ⟨_, allC_mem _ _ _ (by rw [List.length_map, rngI_len]) fun x hx => ?_, rfl⟩⟩
  obtain ⟨f, _, rfl⟩ := List.mem_map.mp hx
  have := h.cnt_le f
  omega
/-- the table, after what was offered -/
structure Tb (ts fs ss ord : List Int) (A : Int → Int → Int → Int) (c0 : Int) (k : Nat) (dn : List (List Int)) (N : BT) : Prop where
  uq : Uq N
  leg : ∀ o ∈ dn, Leg fs ord o
  mem : ∀ e ∈ N, ∀ r ∈ e.2, ∃ o ∈ dn, r = rw3 ts fs ss A c0 o ∧ key ts fs ss A c0 k o = e.1
  ne : ∀ e ∈ N, ∃ o ∈ dn, key ts fs ss A c0 k o = e.1
  dom : ∀ o ∈ dn, ∃ rows, getA N (key ts fs ss A c0 k o) = some rows ∧ ∃ r ∈ rows, r.1 ≤ (run ts fs ss A c0 o).c ∧ r.2.1 ≤ (run ts fs ss A c0 o).d
  str : ∀ e ∈ N, e.2.Pairwise fun a b => b.2.1 < a.2.1
theorem Tb.nil : Tb ts fs ss ord A c0 k [] [] := ⟨Uq.nil, fun _ h => (nomatch h), fun _ h => (nomatch h), fun _ h => (nomatch h), fun _ h => (nomatch h), fun _ h => (nomatch h)⟩
theorem mem_put {M : BT} (U : Uq M) {x : List Int × Option Int} {b : List (Int × Int × List Int)} {e : (List Int × Option Int) × List (Int × Int × List Int)} (h : e ∈ putA M x b) : e = (x, b) ∨ e ∈ M := by
  have h1 : getA (putA M x b) e.1 = some e.2 := U.put.get h
  rw [getA_put] at h1
  by_cases he : e.1 = x
  · rw [if_pos he] at h1
    cases h1
    exact .inl (by rw [← he])
  · rw [if_neg he] at h1
    exact .inr (getA_mem h1)
theorem Tb.put {dn : List (List Int)} {N : BT} (T : Tb ts fs ss ord A c0 k dn N) {o : List Int} (ho : Leg fs ord o) {K : List (Int × Int × List Int)} (hK : Kept ((getA N (key ts fs ss A c0 k o)).getD [] ++ [rw3 ts fs ss A c0 o]) K) :
    Tb ts fs ss ord A c0 k (dn ++ [o]) (putA N (key ts fs ss A c0 k o) K) := by
  have old : ∀ r ∈ (getA N (key ts fs ss A c0 k o)).getD [], ∃ o' ∈ dn, r = rw3 ts fs ss A c0 o' ∧ key ts fs ss A c0 k o' = key ts fs ss A c0 k o := fun r hr => by
    cases e : getA N (key ts fs ss A c0 k o) with
    | none => rw [e] at hr; exact nomatch hr
    | some rows =>
      rw [e] at hr
      exact T.mem _ (getA_mem e) r hr
  refine ⟨T.uq.put, fun p hp => ?_, fun e he r hr => ?_, fun e he => ?_, fun p hp => ?_, fun e he => ?_⟩
  · rcases List.mem_append.mp hp with z | z
    · exact T.leg p z
    · rw [List.mem_singleton] at z
      subst z
      exact ho
  · rcases mem_put T.uq he with z | z
    · subst z
      rcases List.mem_append.mp (hK.sub r hr) with y | y
      · obtain ⟨o', h1, h2, h3⟩ := old r y
        exact ⟨o', List.mem_append_left _ h1, h2, h3⟩
      · rw [List.mem_singleton] at y
        exact ⟨o, List.mem_append_right _ List.mem_cons_self, y, rfl⟩
    · obtain ⟨o', h1, h2, h3⟩ := T.mem e z r hr
      exact ⟨o', List.mem_append_left _ h1, h2, h3⟩
  · rcases mem_put T.uq he with z | z
    · subst z
      exact ⟨o, List.mem_append_right _ List.mem_cons_self, rfl⟩
    · obtain ⟨o', h1, h2⟩ := T.ne e z
      exact ⟨o', List.mem_append_left _ h1, h2⟩
  · rw [getA_put]
    by_cases hk : key ts fs ss A c0 k p = key ts fs ss A c0 k o
    · rw [if_pos hk]
      refine ⟨K, rfl, ?_⟩
      rcases List.mem_append.mp hp with z | z
      · obtain ⟨rows, h1, r, h2, h3, h4⟩ := T.dom p z
        rw [hk] at h1
        obtain ⟨r', k1, k2, k3⟩ := hK.dom r (List.mem_append_left _ (by rw [h1]; exact h2))
        exact ⟨r', k1, by omega, by omega⟩
      · rw [List.mem_singleton] at z
        subst z
        exact hK.dom _ (List.mem_append_right _ List.mem_cons_self)
    · rw [if_neg hk]
      rcases List.mem_append.mp hp with z | z
      · exact T.dom p z
      · rw [List.mem_singleton] at z
        subst z
        exact absurd rfl hk
  · rcases mem_put T.uq he with z | z
    · subst z
      exact hK.str
    · exact T.str e z
theorem Tb.len (hF : InF fs ord k) {dn : List (List Int)} {N : BT} (T : Tb ts fs ss ord A c0 k dn N) : N.length ≤ (k + 1) * (ord.length + 1) ^ k := by
  rw [← allK_len, ← List.length_map (f := (·.1)) (as := N)]
  refine nodup_leG T.uq fun x hx => ?_
  obtain ⟨e, he, rfl⟩ := List.mem_map.mp hx
  obtain ⟨o, h1, h2⟩ := T.ne e he
  rw [← h2]
  exact key_in hF (T.leg o h1)
/-- what a row is continued by -/
def off (fs ord : List Int) (o : List Int) (f : Int) : List (List Int) := match (ofF fs f ord)[cnt fs o f]? with
  | some j => [o ++ [j]]
  | none => []
def nx (fs ord : List Int) (k : Nat) (o : List Int) : List (List Int) := (rngI 0 k).flatMap (off fs ord o)
def offs (fs ord : List Int) (k : Nat) (rows : List (Int × Int × List Int)) : List (List Int) := rows.flatMap fun r => nx fs ord k r.2.2
def offM (fs ord : List Int) (k : Nat) (M : BT) : List (List Int) := M.flatMap fun e => offs fs ord k e.2
/-- the table at the turn t -/
structure TT (ts fs ss ord : List Int) (A : Int → Int → Int → Int) (c0 : Int) (k : Nat) (t : Nat) (M : BT) : Prop where
  uq : Uq M
  mem : ∀ e ∈ M, ∀ r ∈ e.2, ∃ o, Leg fs ord o ∧ o.length = t ∧ r = rw3 ts fs ss A c0 o ∧ key ts fs ss A c0 k o = e.1
  ne : ∀ e ∈ M, ∃ o, Leg fs ord o ∧ o.length = t ∧ key ts fs ss A c0 k o = e.1
  dom : ∀ p, Leg fs ord p → p.length = t → ∃ rows, getA M (key ts fs ss A c0 k p) = some rows ∧ ∃ r ∈ rows, r.1 ≤ (run ts fs ss A c0 p).c ∧ r.2.1 ≤ (run ts fs ss A c0 p).d
  str : ∀ e ∈ M, e.2.Pairwise fun a b => b.2.1 < a.2.1
theorem TT.zero : TT ts fs ss ord A c0 k 0 [(key ts fs ss A c0 k [], [rw3 ts fs ss A c0 []])] := by
  refine ⟨Uq.one _, fun e he r hr => ?_, fun e he => ?_, fun p _ hl => ?_, fun e he => ?_⟩
  · rw [List.mem_singleton] at he
    subst he
    rw [List.mem_singleton] at hr
    exact ⟨[], Leg.nil, rfl, hr, rfl⟩
  · rw [List.mem_singleton] at he
    subst he
    exact ⟨[], Leg.nil, rfl, rfl⟩
  · rw [List.length_eq_zero_iff.mp hl]
    refine ⟨_, by rw [getA_cons, if_pos rfl], _, List.mem_cons_self, Int.le_refl _, Int.le_refl _⟩
  · rw [List.mem_singleton] at he
    subst he
    exact List.pairwise_singleton ..
theorem off_leg {o : List Int} (h : Leg fs ord o) {f : Int} {q : List Int} (hq : q ∈ off fs ord o f) : Leg fs ord q ∧ q.length = o.length + 1 := by
  unfold off at hq
  split at hq
  · rename_i j e
    rw [List.mem_singleton] at hq
    subst hq
    obtain ⟨h1, _⟩ := ofF_get e
    subst h1
    exact ⟨leg_snoc.mpr ⟨h, e⟩, by rw [List.length_append]; rfl⟩
  · exact nomatch hq
theorem offM_leg {t : Nat} {M : BT} (T : TT ts fs ss ord A c0 k t M) {q : List Int} (hq : q ∈ offM fs ord k M) : Leg fs ord q ∧ q.length = t + 1 := by
  unfold offM at hq
  obtain ⟨e, he, hq⟩ := List.mem_flatMap.mp hq
  unfold offs at hq
  obtain ⟨r, hr, hq⟩ := List.mem_flatMap.mp hq
  unfold nx at hq
  obtain ⟨f, _, hq⟩ := List.mem_flatMap.mp hq
  obtain ⟨o, h1, h2, h3, _⟩ := T.mem e he r hr
  subst h3
  have := off_leg h1 hq
  exact ⟨this.1, by rw [this.2]; show o.length + 1 = _; rw [h2]⟩
theorem key_eq {o p : List Int} (h : key ts fs ss A c0 k o = key ts fs ss A c0 k p) : (∀ f, 0 ≤ f → f < (k : Int) → cnt fs o f = cnt fs p f) ∧ (run ts fs ss A c0 o).l = (run ts fs ss A c0 p).l := by
  unfold key at h
  rw [Prod.mk.injEq] at h
  refine ⟨fun f h0 h1 => ?_, h.2⟩
  have h2 := List.map_inj_left.mp h.1 f ((mem_rngI _ _ _).mpr (by omega))
  have h2 : ((cnt fs o f : Nat) : Int) = ((cnt fs p f : Nat) : Int) := h2
  omega
theorem TT.next (hA : Mono A ord) (hF : InF fs ord k) {t : Nat} {M N : BT} (T : TT ts fs ss ord A c0 k t M) (B : Tb ts fs ss ord A c0 k (offM fs ord k M) N) : TT ts fs ss ord A c0 k (t + 1) N := by
  refine ⟨B.uq, fun e he r hr => ?_, fun e he => ?_, fun p hp hl => ?_, B.str⟩
  · obtain ⟨o, h1, h2, h3⟩ := B.mem e he r hr
    obtain ⟨h4, h5⟩ := offM_leg T h1
    exact ⟨o, h4, h5, h2, h3⟩
  · obtain ⟨o, h1, h2⟩ := B.ne e he
    obtain ⟨h4, h5⟩ := offM_leg T h1
    exact ⟨o, h4, h5, h2⟩
  · rcases List.eq_nil_or_concat p with e | ⟨q, j, e⟩
    · subst e
      cases hl
    rw [List.concat_eq_append] at e
    subst e
    rw [List.length_append] at hl
    obtain ⟨hq, hj⟩ := leg_snoc.mp hp
    have hjo := (ofF_get hj).2
    obtain ⟨rows, g1, r, hr, d1, d2⟩ := T.dom q hq (by simpa using hl)
    obtain ⟨o, o1, o2, o3, o4⟩ := T.mem _ (getA_mem g1) r hr
    subst o3
    have o4 : key ts fs ss A c0 k o = key ts fs ss A c0 k q := o4
    obtain ⟨k1, k2⟩ := key_eq o4
    have hf := hF j hjo
    have hin : o ++ [j] ∈ offM fs ord k M := by
      unfold offM
      refine List.mem_flatMap.mpr ⟨_, getA_mem g1, ?_⟩
      unfold offs
      refine List.mem_flatMap.mpr ⟨_, hr, ?_⟩
      unfold nx
      refine List.mem_flatMap.mpr ⟨val fs j, (mem_rngI _ _ _).mpr (by omega), ?_⟩
      unfold off
      show o ++ [j] ∈ (match (ofF fs (val fs j) ord)[cnt fs o (val fs j)]? with | some j => [o ++ [j]] | none => [])
      rw [k1 _ hf.1 hf.2, hj]
      exact List.mem_cons_self
    obtain ⟨b1, b2⟩ := better hA hjo k2 d1 d2
    have hk : key ts fs ss A c0 k (o ++ [j]) = key ts fs ss A c0 k (q ++ [j]) := by
      unfold key
      rw [Prod.mk.injEq]
      refine ⟨List.map_congr_left fun f hf => ?_, by rw [run_snoc, run_snoc]; rfl⟩
      have := (mem_rngI _ _ _).mp hf
      rw [cnt_snoc, cnt_snoc, k1 f this.1 (by omega)]
    obtain ⟨rows2, g2, r2, m2, e1, e2⟩ := B.dom _ hin
    rw [hk] at g2
    exact ⟨rows2, g2, r2, m2, by omega, by omega⟩
end
end DVB

namespace DVS
open PySem L2 DV DVL DVB
/-- a day that can be done behind some jobs -/
structure DayOk (n : Nat) (P : List (Int × Int)) (b : Nat) (S day : List Int) : Prop where
  able : ∀ j ∈ day, j ∈ Ab P n S
  nd : day.Nodup
  len : day.length ≤ b
/-- days one behind the other -/
inductive Pl (n : Nat) (P : List (Int × Int)) (b : Nat) : List Int → List (List Int) → Prop
  | nil {S : List Int} : Pl n P b S []
  | cons {S day : List Int} {ds : List (List Int)} : DayOk n P b S day → Pl n P b (S ++ day) ds → Pl n P b S (day :: ds)
section
variable {n : Nat} {P : List (Int × Int)} {b : Nat}
/-- the jobs done stand behind those ahead of them -/
structure Dn (n : Nat) (P : List (Int × Int)) (S : List Int) : Prop where
  nd : S.Nodup
  rg : ∀ j ∈ S, 0 ≤ j ∧ j < (n : Int)
  cl : ∀ p ∈ P, p.2 ∈ S → p.1 ∈ S
theorem Dn.nil : Dn n P [] := ⟨List.nodup_nil, fun _ h => (nomatch h), fun _ _ h => nomatch h⟩
theorem Dn.add (G : Prs n P) {S day : List Int} (h : Dn n P S) (hd : DayOk n P b S day) : Dn n P (S ++ day) := by
  refine ⟨List.nodup_append.mpr ⟨h.nd, hd.nd, fun a ha c hc e => ?_⟩, fun j hj => ?_, fun p hp hj => ?_⟩
  · subst e
    exact ((mem_Ab G).mp (hd.able a hc)).2.1 ha
  · rcases List.mem_append.mp hj with z | z
    · exact h.rg j z
    · exact ((mem_Ab G).mp (hd.able j z)).1
  · rcases List.mem_append.mp hj with z | z
    · exact List.mem_append_left _ (h.cl p hp z)
    · exact List.mem_append_left _ (((mem_Ab G).mp (hd.able _ z)).2.2 p hp rfl)
theorem Dn.pl (G : Prs n P) : ∀ {ds : List (List Int)} {S : List Int}, Dn n P S → Pl n P b S ds → Dn n P (S ++ ds.flatten)
  | [], S, h, _ => by rw [List.flatten_nil, List.append_nil]; exact h
  | d :: ds, S, h, hp => by
    cases hp with
    | cons h1 h2 =>
      rw [List.flatten_cons, ← List.append_assoc]
      exact Dn.pl G (h.add G h1) h2
/-- levels: lengths of the longest rows from each job on -/
structure Lvl (n : Nat) (P : List (Int × Int)) (lv : Int → Int) : Prop where
  ge : ∀ j, 0 ≤ j → j < (n : Int) → 1 ≤ lv j
  dn : ∀ p ∈ P, lv p.2 + 1 ≤ lv p.1
  ex : ∀ j, 0 ≤ j → j < (n : Int) → lv j = 1 ∨ ∃ p ∈ P, p.1 = j ∧ lv j = lv p.2 + 1
variable {lv : Int → Int}
/-- the jobs left above a level -/
def rem (n : Nat) (lv : Int → Int) (S : List Int) (L : Int) : List Int := (rngI 0 n).filter fun j => !S.elem j && decide (L < lv j)
theorem mem_rem {S : List Int} {L j : Int} : j ∈ rem n lv S L ↔ (0 ≤ j ∧ j < (n : Int)) ∧ j ∉ S ∧ L < lv j := by
  unfold rem
  rw [List.mem_filter, mem_rngI, Bool.and_eq_true, Bool.not_eq_true', decide_eq_true_eq]
  constructor
  · rintro ⟨a, b, c⟩
    exact ⟨by omega, (fun z => by rw [List.elem_eq_true_of_mem z] at b; cases b), c⟩
  · rintro ⟨a, b, c⟩
    refine ⟨by omega, ?_, c⟩
    cases e : S.elem j with
    | false => rfl
    | true => exact absurd (List.mem_of_elem_eq_true e) b
theorem rem_nd (S : List Int) (L : Int) : (rem n lv S L).Nodup := (rngI_nodup 0 n).filter _
theorem rem_day {S day : List Int} {L : Int} : (rem n lv S L).length ≤ (rem n lv (S ++ day) L).length + day.length := by
  rw [← List.length_append]
  refine nodup_leG (rem_nd S L) fun j hj => ?_
  obtain ⟨a, c, d⟩ := mem_rem.mp hj
  by_cases e : j ∈ day
  · exact List.mem_append_right _ e
  · exact List.mem_append_left _ (mem_rem.mpr ⟨a, fun z => (List.mem_append.mp z).elim c e, d⟩)
/-- no plan is shorter than what is left above a level asks -/
theorem low (G : Prs n P) (V : Lvl n P lv) : ∀ (ds : List (List Int)) (S : List Int), Dn n P S → Pl n P b S ds → (∀ j, 0 ≤ j → j < (n : Int) → j ∈ S ++ ds.flatten) → ∀ L : Nat, (rem n lv S (L : Int)).length ≤ b * (ds.length - L) ∧ ((ds.length : Nat) ≤ L → rem n lv S (L : Int) = [])
  | [], S, hS, _, hf, L => by
    have e : rem n lv S (L : Int) = [] := List.eq_nil_iff_forall_not_mem.mpr fun j hj => by
      obtain ⟨a, c, _⟩ := mem_rem.mp hj
      have := hf j a.1 a.2
      rw [List.flatten_nil, List.append_nil] at this
      exact c this
    exact ⟨by rw [e]; exact Nat.zero_le _, fun _ => e⟩
  | d :: ds, S, hS, hp, hf, L => by
    cases hp with
    | cons h1 h2 =>
      have ih := low G V ds (S ++ d) (hS.add G h1) h2 fun j a c => by
        have := hf j a c
        rw [List.flatten_cons, ← List.append_assoc] at this
        exact this
      have emp : (d :: ds).length ≤ L → rem n lv S (L : Int) = [] := fun hl => List.eq_nil_iff_forall_not_mem.mpr fun j hj => by
        rw [List.length_cons] at hl
        obtain ⟨a, c, e⟩ := mem_rem.mp hj
        have h0 := (ih (L - 1)).2 (by omega)
        have hin : ∀ k, (0 ≤ k ∧ k < (n : Int)) → ((L - 1 : Nat) : Int) < lv k → k ∈ S ++ d := fun k hk hl2 => Classical.byContradiction fun hn => by
          have : k ∈ rem n lv (S ++ d) ((L - 1 : Nat) : Int) := mem_rem.mpr ⟨hk, hn, hl2⟩
          rw [h0] at this
          exact nomatch this
        rcases V.ex j a.1 a.2 with h | ⟨p, hpP, e1, e2⟩
        · omega
        · have hk := hin p.2 (by have := G.rg p hpP; omega) (by omega)
          rcases List.mem_append.mp hk with z | z
          · exact c (e1 ▸ hS.cl p hpP z)
          · exact c (e1 ▸ ((mem_Ab G).mp (h1.able _ z)).2.2 p hpP rfl)
      refine ⟨?_, emp⟩
      by_cases hl : (d :: ds).length ≤ L
      · rw [emp hl]; exact Nat.zero_le _
      · rw [List.length_cons] at hl ⊢
        have h3 := (ih L).1
        have h4 := rem_day (n := n) (lv := lv) (S := S) (day := d) (L := (L : Int))
        have h5 := h1.len
        have e : b * (ds.length + 1 - L) = b * (ds.length - L) + b := by
          rw [show ds.length + 1 - L = (ds.length - L) + 1 by omega, Nat.mul_add, Nat.mul_one]
        omega
/-- a day of the able jobs of the highest levels -/
structure Hi (n : Nat) (P : List (Int × Int)) (b : Nat) (lv : Int → Int) (S day : List Int) : Prop where
  ok : DayOk n P b S day
  full : ∀ y ∈ Ab P n S, y ∉ day → day.length = b ∧ ∀ x ∈ day, lv y ≤ lv x
/-- each job has at most one behind it -/
def Tree (P : List (Int × Int)) : Prop := ∀ p ∈ P, ∀ q ∈ P, p.1 = q.1 → p.2 = q.2
/-- the able jobs not below a level -/
def abH (n : Nat) (P : List (Int × Int)) (lv : Int → Int) (M : Int) (S : List Int) : List Int := (Ab P n S).filter fun j => decide (M ≤ lv j)
def dayH (lv : Int → Int) (M : Int) (day : List Int) : List Int := day.filter fun j => decide (M ≤ lv j)
theorem mem_abH {M : Int} {S : List Int} {j : Int} : j ∈ abH n P lv M S ↔ j ∈ Ab P n S ∧ M ≤ lv j := by
  unfold abH; rw [List.mem_filter, decide_eq_true_eq]
theorem mem_dayH {M : Int} {day : List Int} {j : Int} : j ∈ dayH lv M day ↔ j ∈ day ∧ M ≤ lv j := by
  unfold dayH; rw [List.mem_filter, decide_eq_true_eq]
/-- a day on which fewer than all machines are on high jobs takes all able high jobs -/
theorem Hi.all {S day : List Int} {M : Int} (h : Hi n P b lv S day) (hl : (dayH lv M day).length < b) : ∀ y ∈ abH n P lv M S, y ∈ day := fun y hy => Classical.byContradiction fun hn => by
  obtain ⟨h1, h2⟩ := mem_abH.mp hy
  obtain ⟨h3, h4⟩ := h.full y h1 hn
  have : dayH lv M day = day := List.filter_eq_self.mpr fun x hx => decide_eq_true (by have := h4 x hx; omega)
  rw [this] at hl
  omega
theorem Hi.all2 {S day : List Int} {M : Int} (h : Hi n P b lv S day) (hl : (abH n P lv M S).length < b) : ∀ y ∈ abH n P lv M S, y ∈ day := by
  refine h.all (M := M) (Nat.lt_of_le_of_lt (nodup_leG (h.ok.nd.filter _) fun x hx => ?_) hl)
  obtain ⟨h1, h2⟩ := mem_dayH.mp hx
  exact mem_abH.mpr ⟨h.ok.able x h1, h2⟩
theorem next_abH (G : Prs n P) (T : Tree P) (V : Lvl n P lv) {S day : List Int} {M : Int} (hS : Dn n P S) (h : Hi n P b lv S day) (hall : ∀ y ∈ abH n P lv M S, y ∈ day) : (abH n P lv M (S ++ day)).length ≤ (abH n P lv M S).length := by
  -- each able high job of the next day has one ahead of it that was done on the day
  have hpre : ∀ y ∈ abH n P lv M (S ++ day), ∃ p ∈ P, p.2 = y ∧ p.1 ∈ abH n P lv M S := fun y hy => by
    obtain ⟨h1, h2⟩ := mem_abH.mp hy
    obtain ⟨r, h3, h4⟩ := (mem_Ab G).mp h1
    have hS2 : y ∉ S := fun z => h3 (List.mem_append_left _ z)
    have hD2 : y ∉ day := fun z => h3 (List.mem_append_right _ z)
    have hex : ∃ p ∈ P, p.2 = y ∧ p.1 ∉ S := Classical.byContradiction fun hn => hD2 (hall y (mem_abH.mpr ⟨(mem_Ab G).mpr ⟨r, hS2, fun p hp e => Classical.byContradiction fun hc => hn ⟨p, hp, e, hc⟩⟩, h2⟩))
    obtain ⟨p, hp, e, hc⟩ := hex
    refine ⟨p, hp, e, ?_⟩
    rcases List.mem_append.mp (h4 p hp e) with z | z
    · exact absurd z hc
    · have := V.dn p hp
      exact mem_abH.mpr ⟨h.ok.able _ z, by rw [e] at this; omega⟩
  -- a list of those
  have gen : ∀ l : List Int, l.Nodup → (∀ y ∈ l, ∃ p ∈ P, p.2 = y ∧ p.1 ∈ abH n P lv M S) → ∃ k : List Int, k.length = l.length ∧ k.Nodup ∧ (∀ x ∈ k, x ∈ abH n P lv M S ∧ ∃ p ∈ P, p.1 = x ∧ p.2 ∈ l) := fun l => by
    induction l with
    | nil => exact fun _ _ => ⟨[], rfl, List.nodup_nil, fun _ h => nomatch h⟩
    | cons y l ih =>
      intro nd h
      rw [List.nodup_cons] at nd
      obtain ⟨k, k1, k2, k3⟩ := ih nd.2 fun z hz => h z (List.mem_cons_of_mem _ hz)
      obtain ⟨p, hp, e, hin⟩ := h y List.mem_cons_self
      refine ⟨p.1 :: k, by rw [List.length_cons, List.length_cons, k1], List.nodup_cons.mpr ⟨fun hc => ?_, k2⟩, fun x hx => ?_⟩
      · obtain ⟨_, q, hq, e1, e2⟩ := k3 _ hc
        have := T q hq p hp e1
        rw [e] at this
        exact nd.1 (this ▸ e2)
      · rcases List.mem_cons.mp hx with rfl | z
        · exact ⟨hin, p, hp, rfl, by rw [e]; exact List.mem_cons_self⟩
        · obtain ⟨a, q, hq, e1, e2⟩ := k3 x z
          exact ⟨a, q, hq, e1, List.mem_cons_of_mem _ e2⟩
  obtain ⟨k, k1, k2, k3⟩ := gen _ ((Ab_nodup P n (S ++ day)).filter _) hpre
  have := nodup_leG k2 fun x hx => (k3 x hx).1
  have e : (abH n P lv M (S ++ day)).length = k.length := k1.symm
  omega
/-- days by levels -/
inductive Hp (n : Nat) (P : List (Int × Int)) (b : Nat) (lv : Int → Int) : List Int → List (List Int) → Prop
  | nil {S : List Int} : Hp n P b lv S []
  | cons {S day : List Int} {ds : List (List Int)} : Hi n P b lv S day → Hp n P b lv (S ++ day) ds → Hp n P b lv S (day :: ds)
theorem Hp.pl : ∀ {ds : List (List Int)} {S : List Int}, Hp n P b lv S ds → Pl n P b S ds
  | [], _, _ => .nil
  | _ :: _, _, h => by
    cases h with
    | cons h1 h2 => exact .cons h1.ok h2.pl
/-- from a day on which high jobs are few: what is left is lower by each day -/
theorem drop_lv (G : Prs n P) (T : Tree P) (V : Lvl n P lv) {M : Int} : ∀ (ds : List (List Int)) (S : List Int), Dn n P S → Hp n P b lv S ds → (∀ d rest, ds = d :: rest → (dayH lv M d).length < b ∨ (abH n P lv M S).length < b) → ∀ x, (0 ≤ x ∧ x < (n : Int)) → x ∉ S ++ ds.flatten → M ≤ lv x → ∃ y, (0 ≤ y ∧ y < (n : Int)) ∧ y ∉ S ∧ lv x + (ds.length : Int) ≤ lv y
  | [], S, _, _, _, x, hx, hn, _ => ⟨x, hx, by rwa [List.flatten_nil, List.append_nil] at hn, by rw [List.length_nil]; omega⟩
  | d :: ds, S, hS, hh, hst, x, hx, hn, hM => by
    cases hh with
    | cons h1 h2 =>
      have hall : ∀ y ∈ abH n P lv M S, y ∈ d := (hst d ds rfl).elim h1.all h1.all2
      have hfew : (abH n P lv M S).length < b := by
        rcases hst d ds rfl with h | h
        · refine Nat.lt_of_le_of_lt (nodup_leG ((Ab_nodup P n S).filter _) fun y hy => mem_dayH.mpr ⟨hall y hy, (mem_abH.mp hy).2⟩) h
        · exact h
      have hnx := next_abH G T V hS h1 hall
      rw [List.flatten_cons, ← List.append_assoc] at hn
      obtain ⟨y, y1, y2, y3⟩ := drop_lv G T V ds (S ++ d) (hS.add G h1.ok) h2 (fun _ _ _ => .inr (Nat.lt_of_le_of_lt hnx hfew)) x hx hn hM
      have yS : y ∉ S := fun z => y2 (List.mem_append_left _ z)
      have yd : y ∉ d := fun z => y2 (List.mem_append_right _ z)
      have hex : ∃ p ∈ P, p.2 = y ∧ p.1 ∉ S := Classical.byContradiction fun hc => yd (hall y (mem_abH.mpr ⟨(mem_Ab G).mpr ⟨y1, yS, fun p hp e => Classical.byContradiction fun h => hc ⟨p, hp, e, h⟩⟩, by omega⟩))
      obtain ⟨p, hp, e, hc⟩ := hex
      have h5 := V.dn p hp
      have h6 := G.rg p hp
      refine ⟨p.1, h6.1, hc, ?_⟩
      rw [List.length_cons, e] at *
      omega
theorem Hp.split : ∀ {us vs : List (List Int)} {S : List Int}, Hp n P b lv S (us ++ vs) → Hp n P b lv S us ∧ Hp n P b lv (S ++ us.flatten) vs
  | [], vs, S, h => ⟨.nil, by rw [List.flatten_nil, List.append_nil]; exact h⟩
  | d :: us, vs, S, h => by
    cases h with
    | cons h1 h2 =>
      obtain ⟨a, c⟩ := h2.split
      exact ⟨.cons h1 a, by rw [List.flatten_cons, ← List.append_assoc]; exact c⟩
/-- what is left behind some days is not above the bound -/
theorem up (G : Prs n P) (T : Tree P) (V : Lvl n P lv) (hb : 1 ≤ b) {F : Int} (hF : ∀ L : Nat, ∀ c : Nat, c ≤ (rem n lv [] (L : Int)).length → 1 ≤ c → ∀ k : Nat, b * k < c → (L : Int) + (k : Int) + 1 ≤ F) :
    ∀ (t : Nat) (ds : List (List Int)), ds.length = t → Hp n P b lv [] ds → ∀ j, (0 ≤ j ∧ j < (n : Int)) → j ∉ ds.flatten → (t : Int) + lv j ≤ F := fun t => by
  induction t using Nat.strongRecOn with
  | ind t ih =>
    intro ds hl hh j hj hn
    have hpl : ∀ {us : List (List Int)}, Hp n P b lv [] us → Dn n P us.flatten := fun h => by
      have := Dn.pl G (b := b) (Dn.nil (n := n) (P := P)) h.pl
      rwa [List.nil_append] at this
    have h1 := V.ge j hj.1 hj.2
    by_cases hc : ∃ us d vs, ds = us ++ d :: vs ∧ (dayH lv (lv j) d).length < b
    · obtain ⟨us, d, vs, e, hlt⟩ := hc
      subst e
      obtain ⟨ha, hv⟩ := hh.split
      rw [List.nil_append] at hv
      rw [List.flatten_append] at hn
      obtain ⟨y, y1, y2, y3⟩ := drop_lv G T V (d :: vs) us.flatten (hpl ha) hv (fun d' r e => by
        injection e with e1 e2
        subst e1
        exact .inl hlt) j hj hn (Int.le_refl _)
      rw [List.length_append] at hl
      have h2 := ih us.length (by rw [List.length_cons] at hl; omega) us rfl ha y y1 y2
      omega
    · -- all days are full of high jobs
      have hfull : ∀ us : List (List Int), (∀ d ∈ us, b ≤ (dayH lv (lv j) d).length) → b * us.length ≤ (us.flatMap (dayH lv (lv j))).length := fun us => by
        induction us with
        | nil => exact fun _ => Nat.le_refl _
        | cons d us ihu =>
          intro h
          have := ihu fun x hx => h x (List.mem_cons_of_mem _ hx)
          have := h d List.mem_cons_self
          rw [List.flatMap_cons, List.length_append, List.length_cons, Nat.mul_add, Nat.mul_one]
          omega
      have h2 := hfull ds fun d hd => Nat.le_of_not_lt fun hlt => by
        obtain ⟨us, vs, e⟩ := List.append_of_mem hd
        exact hc ⟨us, d, vs, e, hlt⟩
      have hD := hpl hh
      have hsub : (ds.flatMap (dayH lv (lv j))).Sublist ds.flatten := by
        have : ∀ us : List (List Int), (us.flatMap (dayH lv (lv j))).Sublist us.flatten := fun us => by
          induction us with
          | nil => exact List.Sublist.refl _
          | cons d us ihu =>
            rw [List.flatMap_cons, List.flatten_cons]
            exact List.filter_sublist.append ihu
        exact this ds
      have nd : (j :: ds.flatMap (dayH lv (lv j))).Nodup := List.nodup_cons.mpr ⟨fun z => hn (hsub.mem z), hD.nd.sublist hsub⟩
      obtain ⟨L, hL⟩ : ∃ L : Nat, lv j = (L : Int) + 1 := ⟨(lv j - 1).toNat, by omega⟩
      have h3 := nodup_leG nd (q := rem n lv [] (L : Int)) fun x hx => by
        rcases List.mem_cons.mp hx with rfl | z
        · exact mem_rem.mpr ⟨hj, fun z => (nomatch z), by omega⟩
        · obtain ⟨d, hd, hxd⟩ := List.mem_flatMap.mp z
          obtain ⟨a, c⟩ := mem_dayH.mp hxd
          exact mem_rem.mpr ⟨hD.rg x (List.mem_flatten.mpr ⟨d, hd, a⟩), fun z => (nomatch z), by omega⟩
      rw [List.length_cons] at h3
      have := hF L _ (Nat.le_refl _) (by omega) t (by rw [hl] at h2; omega)
      omega
end
end DVS



namespace DVL
open PySem L2 DV
abbrev PL := List (Int × Int)
def sq (ts ws p : List Int) : PL := p.map fun j => (val ts j, val ws j)
/-- ends less due days -/
def mS : Int → PL → List Int
  | _, [] => []
  | d, x :: L => (d + x.1 - x.2) :: mS (d + x.1) L
abbrev Le (d : Int) (L : PL) (c : Int) : Prop := ∀ y ∈ mS d L, y ≤ c
end DVL

namespace DVL
open PySem L2 DV
section
variable {ts dd : List Int}
structure Dd (ts dd : List Int) : Prop where
  len : dd.length = ts.length
  rng : ∀ d ∈ dd, 0 ≤ d ∧ d ≤ 600
def ordD (dd : List Int) (n : Nat) : List Int := srtP (fun j => (val dd j, j)) (rngI 0 n)
theorem ordD_perm (dd : List Int) (n : Nat) : (ordD dd n).Perm (rngI 0 n) := srtP_perm _ _
/-- the greatest of the ends less the due days -/
structure Late (L : PL) (m : Int) : Prop where
  mem : m ∈ mS 0 L
  le : Le 0 L m
end
end DVL

namespace DVL
open PySem L2 DV
abbrev ab (i : Int) : Int := if i < 0 then -i else i
/-- ends one after another -/
def es : Int → List Int → List Int
  | _, [] => []
  | d, t :: x => (d + t) :: es (d + t) x
/-- the sum of the differences of the ends and a day -/
def gD (due : Int) : Int → List Int → Int
  | _, [] => 0
  | d, t :: x => ab (d + t - due) + gD due (d + t) x
/-- i, i + 1, .. times the items -/
def up : Int → List Int → Int
  | _, [] => 0
  | i, t :: A => i * t + up (i + 1) A
def dn : List Int → Int
  | [] => 0
  | t :: B => ((B.length : Int) + 1) * t + dn B
end DVL

namespace DVL
open PySem L2 DV
abbrev vs (ts p : List Int) : List Int := p.map (val ts)
end DVL

namespace DVL
open PySem L2 DV
def mid (x : List Int) : Int := (x.take ((x.length + 1) / 2)).sum
def told (ts p : List Int) : Int := gD (mid (vs ts p)) 0 (vs ts p)
end DVL

namespace DVL
open PySem L2 DV
section
variable {ts dd : List Int}
/-- the sum of ends, the work begun at d -/
def sE (ts : List Int) : Int → List Int → Int
  | _, [] => 0
  | d, j :: p => (d + val ts j) + sE ts (d + val ts j) p
abbrev T3 (ts : List Int) (p : List Int) : Int := (p.map (val ts)).sum
/-- no end later than x behind its due day -/
def okL (ts dd : List Int) (x : Int) : Int → List Int → Prop
  | _, [] => True
  | d, j :: p => d + val ts j - val dd j ≤ x ∧ okL ts dd x (d + val ts j) p
theorem okL_app {x : Int} : ∀ (a b : List Int) (d : Int), okL ts dd x d (a ++ b) ↔ okL ts dd x d a ∧ okL ts dd x (d + T3 ts a) b
  | [], b, d => by
    show okL ts dd x d b ↔ True ∧ okL ts dd x (d + 0) b
    rw [Int.add_zero, true_and]
  | j :: a, b, d => by
    have ih := okL_app (x := x) a b (d + val ts j)
    show _ ∧ okL ts dd x (d + val ts j) (a ++ b) ↔ (_ ∧ okL ts dd x (d + val ts j) a) ∧ okL ts dd x (d + (val ts j + T3 ts a)) b
    rw [ih, and_assoc, Int.add_assoc]
theorem T3_app (a b : List Int) : T3 ts (a ++ b) = T3 ts a + T3 ts b := by
  unfold T3
  rw [List.map_append, List.sum_append]
theorem T3_cons (j : Int) (b : List Int) : T3 ts (j :: b) = val ts j + T3 ts b := by
  unfold T3
  rw [List.map_cons, List.sum_cons]
theorem T3_perm {a b : List Int} (h : a.Perm b) : T3 ts a = T3 ts b := perm_sum (h.map _)
end
abbrev k3 (a b c : Int) : D := .tuple [.int a, .int b, .int c]
end DVL

namespace DVL
open PySem L2 DV
section
variable {ts dd : List Int}
theorem sub_one {A P : List Int} {i : Int} (h : A.Sublist (P ++ [i])) : A.Sublist P ∨ ∃ A1, A = A1 ++ [i] ∧ A1.Sublist P := by
  obtain ⟨A1, A2, rfl, h1, h2⟩ := List.sublist_append_iff.mp h
  cases h2 with
  | cons _ h3 =>
    rw [List.sublist_nil.mp h3, List.append_nil]
    exact .inl h1
  | cons_cons _ h3 =>
    rw [List.sublist_nil.mp h3]
    exact .inr ⟨A1, rfl, h1⟩
end
end DVL


namespace DVL
open PySem L2 DV
section
variable {ts dd : List Int}
/-- attained by an order -/
def Att (ts dd : List Int) (f : Int × Int) : Prop := ∃ q, q.Perm (rngI 0 ts.length) ∧ f.1 = sE ts 0 q ∧ Late (sq ts dd q) f.2
end
end DVL

namespace DVL
open PySem L2 DV
section
variable {ts ow dd : List Int}
/-- the sum of the ends of owner 0's jobs -/
def sO (ts ow : List Int) : Int → List Int → Int
  | _, [] => 0
  | d, j :: p => (if val ow j = 0 then d + val ts j else 0) + sO ts ow (d + val ts j) p
/-- no job of the other owner later than x behind its due day -/
def okO (ts ow dd : List Int) (x : Int) : Int → List Int → Prop
  | _, [] => True
  | d, j :: p => (val ow j ≠ 0 → d + val ts j - val dd j ≤ x) ∧ okO ts ow dd x (d + val ts j) p
end
end DVL

namespace DVL
open PySem L2 DV
section
variable {ts ow dd : List Int}
def TI (ts ow dd : List Int) (x : Int) (k : Nat) (ρ : DV.Env) : Prop := ∃ (L Fd : List Int) (y6 y7 y8 y9 y10 : Option SV), ρ = [some (.d (ti ts)), some (.d (ti ow)), some (.d (ti dd)), some (.d (.int x)), some (.o (L.map PyData.int)), some (.o (Fd.map PyData.int)), y6, y7, y8, y9, y10] ∧ L.length = k ∧ (L ++ Fd.reverse).Perm (rngI 0 ts.length) ∧ okO ts ow dd x (T3 ts L) Fd.reverse ∧
  ∀ q, q.Perm (rngI 0 ts.length) → okO ts ow dd x 0 q → ∃ q', q'.Perm L ∧ okO ts ow dd x 0 q' ∧ sO ts ow 0 (q' ++ Fd.reverse) ≤ sO ts ow 0 q
end
end DVL


namespace DVL
open PySem L2 DV
def mx2 (w : Option Int) (y : Int) : Option Int := some (match w with
  | none => y
  | some m => max m y)
section
variable {ts ow dd : List Int}
/-- the jobs with their ends -/
def eL (ts : List Int) : Int → List Int → List (Int × Int)
  | _, [] => []
  | d, j :: p => (j, d + val ts j) :: eL ts (d + val ts j) p
/-- the others' ends less their due days -/
def wsO (ts ow dd : List Int) (d : Int) (p : List Int) : List Int := ((eL ts d p).filter fun z => !decide (val ow z.1 = 0)).map fun z => z.2 - val dd z.1
def wOf (ts ow dd : List Int) (w : Option Int) (d : Int) (p : List Int) : Option Int := (wsO ts ow dd d p).foldl mx2 w
/-- the worst of an order -/
abbrev wO (ts ow dd p : List Int) : Option Int := wOf ts ow dd none 0 p
end
end DVL

namespace DVL
open PySem L2 DV
section
variable {ts ow dd : List Int}
/-- told by an order -/
def A2 (ts ow dd : List Int) (f : Int × Int) : Prop := ∃ q, q.Perm (rngI 0 ts.length) ∧ f.1 = sO ts ow 0 q ∧ wO ts ow dd q = some f.2
end
end DVL


namespace DVL
open PySem L2 DV
/-- a row: the day, the weight of the late, the kept -/
abbrev Rw3 := Int × Int × List Int
/-- put a row in -/
def putR (R : List Rw3) (r : Rw3) : List Rw3 := if (R.find? fun q => decide (q.1 = r.1)).isSome = true then R.map fun q => if q.1 = r.1 then r else q else R ++ [r]
/-- of the options done, the rows hold for each day one of no more weight -/
structure UI (dn M : List Rw3) : Prop where
  nd : (M.map (·.1)).Nodup
  sub : ∀ m ∈ M, m ∈ dn
  all : ∀ o ∈ dn, ∃ m ∈ M, m.1 = o.1 ∧ m.2.1 ≤ o.2.1
theorem UI.nil : UI [] [] := ⟨List.nodup_nil, (fun _ h => nomatch h), fun _ h => nomatch h⟩
theorem put_keys {R : List Rw3} {r : Rw3} : (putR R r).map (·.1) = if (R.find? fun q => decide (q.1 = r.1)).isSome = true then R.map (·.1) else R.map (·.1) ++ [r.1] := by
  unfold putR
  split
  · rw [List.map_map]
    refine List.map_congr_left fun q _ => ?_
    show (if q.1 = r.1 then r else q).1 = q.1
    split
    · rename_i h
      exact h.symm
    · rfl
  · rw [List.map_append]
    rfl
theorem UI.put {dn M : List Rw3} {r : Rw3} (I : UI dn M) (h : ∀ m ∈ M, m.1 = r.1 → r.2.1 ≤ m.2.1) : UI (dn ++ [r]) (putR M r) := by
  have hr : r ∈ putR M r := by
    unfold putR
    split
    · rename_i hs
      obtain ⟨m, hm⟩ := Option.isSome_iff_exists.mp hs
      have h1 := List.find?_some hm
      have h2 := List.mem_of_find?_eq_some hm
      refine List.mem_map.mpr ⟨m, h2, if_pos (of_decide_eq_true h1)⟩
    · simp
  refine ⟨?_, fun m hm => ?_, fun o ho => ?_⟩
  · rw [put_keys]
    split
    · exact I.nd
    · rename_i hs
      refine List.nodup_append.mpr ⟨I.nd, by simp, fun a ha b hb e => ?_⟩
      rw [List.mem_singleton.mp hb] at e
      obtain ⟨m, hm, em⟩ := List.mem_map.mp ha
      apply hs
      rw [List.find?_isSome]
      exact ⟨m, hm, decide_eq_true (em.trans e)⟩
  · unfold putR at hm
    split at hm
    · obtain ⟨q, hq, e⟩ := List.mem_map.mp hm
      split at e
      · rw [← e]; simp
      · rw [← e]; exact List.mem_append_left _ (I.sub q hq)
    · rcases List.mem_append.mp hm with z | z
      · exact List.mem_append_left _ (I.sub m z)
      · rw [List.mem_singleton.mp z]; simp
  · rcases List.mem_append.mp ho with z | z
    · obtain ⟨m, hm, e1, e2⟩ := I.all o z
      by_cases e : m.1 = r.1
      · exact ⟨r, hr, by omega, by have := h m hm e; omega⟩
      · refine ⟨m, ?_, e1, e2⟩
        unfold putR
        split
        · exact List.mem_map.mpr ⟨m, hm, if_neg e⟩
        · exact List.mem_append_left _ hm
    · rw [List.mem_singleton.mp z]
      exact ⟨r, hr, rfl, Int.le_refl _⟩
theorem UI.skip {dn M : List Rw3} {r m : Rw3} (I : UI dn M) (hm : m ∈ M) (h1 : m.1 = r.1) (h2 : m.2.1 ≤ r.2.1) : UI (dn ++ [r]) M := by
  refine ⟨I.nd, fun x hx => List.mem_append_left _ (I.sub x hx), fun o ho => ?_⟩
  rcases List.mem_append.mp ho with z | z
  · exact I.all o z
  · rw [List.mem_singleton.mp z]
    exact ⟨m, hm, h1, h2⟩
section
variable {ts ws dd : List Int}
abbrev WS (ws : List Int) (p : List Int) : Int := (p.map (val ws)).sum
theorem WS_one (p : List Int) (i : Int) : WS ws (p ++ [i]) = WS ws p + val ws i := by
  unfold WS
  rw [List.map_append, List.sum_append]
  simp
/-- a row that tells of a feasible set -/
structure Row (ts ws dd P : List Int) (r : Rw3) : Prop where
  sub : r.2.2.Sublist P
  ok : okL ts dd 0 0 r.2.2
  day : r.1 = T3 ts r.2.2
  wt : r.2.1 = WS ws P - WS ws r.2.2
structure DI (ts ws dd P : List Int) (R : List Rw3) : Prop where
  nd : (R.map (·.1)).Nodup
  row : ∀ r ∈ R, Row ts ws dd P r
  all : ∀ A, A.Sublist P → okL ts dd 0 0 A → ∃ r ∈ R, r.1 = T3 ts A ∧ r.2.1 ≤ WS ws P - WS ws A
theorem DI.nil : DI ts ws dd [] [(0, 0, [])] := ⟨by simp, fun r hr => by
    rw [List.mem_singleton.mp hr]
    exact ⟨.slnil, trivial, rfl, rfl⟩, fun A hA _ => ⟨_, List.mem_singleton.mpr rfl, by rw [List.sublist_nil.mp hA]; rfl, by rw [List.sublist_nil.mp hA]; exact Int.le_refl _⟩⟩
/-- what a row offers for the next job -/
def opts (ts ws dd : List Int) (i : Int) (r : Rw3) : List Rw3 := (r.1, r.2.1 + val ws i, r.2.2) :: (if r.1 + val ts i ≤ val dd i then [(r.1 + val ts i, r.2.1, r.2.2 ++ [i])] else [])
theorem DI.next {P : List Int} {R M : List Rw3} {i : Int} (I : DI ts ws dd P R) (U : UI (R.flatMap (opts ts ws dd i)) M) : DI ts ws dd (P ++ [i]) M := by
  have h3 : T3 ts [i] = val ts i := by unfold T3; simp
  have hrow : ∀ o ∈ R.flatMap (opts ts ws dd i), Row ts ws dd (P ++ [i]) o := fun o ho => by
    obtain ⟨r, hr, h1⟩ := List.mem_flatMap.mp ho
    have Rr := I.row r hr
    have hw := Rr.wt
    have hd := Rr.day
    rcases List.mem_cons.mp h1 with z | z
    · rw [z]
      refine ⟨Rr.sub.trans (List.sublist_append_left _ _), Rr.ok, hd, ?_⟩
      rw [WS_one]
      simp only
      omega
    · split at z
      · rename_i hle
        rw [List.mem_singleton.mp z]
        refine ⟨Rr.sub.append_right [i], (okL_app _ [i] 0).mpr ⟨Rr.ok, by omega, trivial⟩, ?_, ?_⟩
        · rw [T3_app]
          simp only
          omega
        · rw [WS_one, WS_one]
          simp only
          omega
      · cases z
  refine ⟨U.nd, fun m hm => hrow m (U.sub m hm), fun A hA ho => ?_⟩
  rcases sub_one hA with z | ⟨A1, rfl, z⟩
  · obtain ⟨r, hr, e1, e2⟩ := I.all A z ho
    obtain ⟨m, hm, e3, e4⟩ := U.all (r.1, r.2.1 + val ws i, r.2.2) (List.mem_flatMap.mpr ⟨r, hr, List.mem_cons_self⟩)
    refine ⟨m, hm, by rw [e3]; exact e1, ?_⟩
    rw [WS_one]
    simp only at e4
    omega
  · obtain ⟨o1, o2⟩ := (okL_app A1 [i] 0).mp ho
    obtain ⟨r, hr, e1, e2⟩ := I.all A1 z o1
    have hle : r.1 + val ts i ≤ val dd i := by
      have := o2.1
      omega
    obtain ⟨m, hm, e3, e4⟩ := U.all (r.1 + val ts i, r.2.1, r.2.2 ++ [i]) (List.mem_flatMap.mpr ⟨r, hr, by unfold opts; rw [if_pos hle]; simp⟩)
    refine ⟨m, hm, ?_, ?_⟩
    · rw [e3, T3_app]
      simp only
      omega
    · rw [WS_one, WS_one]
      simp only at e4
      omega
end
end DVL

namespace DVL
open PySem L2 DV
section
variable {ts ws dd : List Int}
theorem need_dues_ok (W : Tm ts) (G : Dd ts dd) : DV.Gives (m_need_dues [.d (ti dd), .d (.int (ts.length : Nat))]) fun r => r = .d .none := by
  have hn := W.len
  have hl := G.len
  refine gv_run (gv_seq (gv_set (gv_fn (gv_cons (gv_var rfl (gv_cons (gv_var rfl (gv_cons (gv_c (gv_cons (gv_c (gv_nil ⟨rfl, ?_⟩))))))))))))
  rw [show ts.length = dd.length from hl.symm]
  refine (first_bad_ok dd 0 600 (by omega) G.rng).mono fun r e => ?_
  subst e
  refine ⟨_, rfl, gv_if (gv_T (gv_e2 (gv_var rfl (gv_neg (gv_c ⟨1, rfl, _, eq_ints true _ _, _, rfl, fun q => ?_, fun _ => gv_nop rfl⟩)))))⟩
  simp at q
end
end DVL

namespace DVL
open PySem L2 DV
theorem pw_tri {α : Type} {R : α → α → Prop} : ∀ {l : List α}, l.Pairwise R → ∀ a ∈ l, ∀ b ∈ l, a = b ∨ R a b ∨ R b a
  | x :: l, .cons h1 h2, a, ha, b, hb => by
    rcases List.mem_cons.mp ha with za | za
    · rcases List.mem_cons.mp hb with zb | zb
      · exact .inl (za.trans zb.symm)
      · exact .inr (.inl (za ▸ h1 b zb))
    · rcases List.mem_cons.mp hb with zb | zb
      · exact .inr (.inr (zb ▸ h1 a za))
      · exact pw_tri h2 a za b zb
end DVL

namespace DVL
open PySem L2 DV
section
variable {ts ws dd : List Int}
theorem UI.len {dn M : List Rw3} (U : UI dn M) : M.length ≤ dn.length := by
  refine List.Nodup.length_le_of_subset ?_ U.sub
  have h := U.nd
  unfold List.Nodup at *
  rw [List.pairwise_map] at h
  exact h.imp fun h e => h (by rw [e])
end
end DVL

namespace DVL
open PySem L2 DV
section
variable {ts ws dd : List Int}
theorem DI.few (W : Tm ts) {P : List Int} {R : List Rw3} (I : DI ts ws dd P R) (hP : P.Sublist (ordD dd ts.length)) : R.length ≤ 601 := by
  have hpe := ordD_perm dd ts.length
  have hT : ∀ A : List Int, A.Sublist (ordD dd ts.length) → 0 ≤ T3 ts A ∧ T3 ts A ≤ 600 := fun A hA => by
    have h0 : ∀ j ∈ ordD dd ts.length, 0 ≤ val ts j := fun j hj => by have := W.tp hpe j hj; omega
    have h1 : ∀ (A B : List Int), A.Sublist B → (∀ j ∈ B, 0 ≤ val ts j) → 0 ≤ T3 ts A ∧ T3 ts A ≤ T3 ts B := fun A B h => by
      induction h with
      | slnil => exact fun _ => ⟨Int.le_refl _, Int.le_refl _⟩
      | cons b h ih =>
        intro hb
        have := ih fun j hj => hb j (List.mem_cons_of_mem _ hj)
        have h2 := hb b List.mem_cons_self
        rw [T3_cons]
        omega
      | cons_cons b h ih =>
        intro hb
        have := ih fun j hj => hb j (List.mem_cons_of_mem _ hj)
        have h2 := hb b List.mem_cons_self
        rw [T3_cons, T3_cons]
        omega
    have h2 := h1 A _ hA h0
    have h3 : T3 ts (ordD dd ts.length) = ts.sum := sum_perm ts hpe
    have h4 := sum_le 60 ts fun t ht => (W.tim t ht).2
    have h5 := W.len
    omega
  have h := List.Nodup.length_le_of_subset (l₂ := rngI 0 601) I.nd fun x hx => by
    obtain ⟨r, hr, rfl⟩ := List.mem_map.mp hx
    have Rr := I.row r hr
    have := hT _ (Rr.sub.trans hP)
    have e := Rr.day
    exact (mem_rngI _ _ _).mpr (by omega)
  rw [List.length_map, rngI_len] at h
  exact h
end
end DVL

namespace DVL
open PySem L2 DV
/-- a row: the jobs (ascending), the sum, the order -/
abbrev Rk := List Int × Int × List Int
/-- put a row in -/
def putK (R : List Rk) (r : Rk) : List Rk := if (R.find? fun q => decide (q.1 = r.1)).isSome = true then R.map fun q => if q.1 = r.1 then r else q else R ++ [r]
/-- of the rows offered, the table holds for each set one of no greater sum -/
structure UK (dn M : List Rk) : Prop where
  nd : (M.map (·.1)).Nodup
  sub : ∀ m ∈ M, m ∈ dn
  all : ∀ o ∈ dn, ∃ m ∈ M, m.1 = o.1 ∧ m.2.1 ≤ o.2.1
theorem putk_keys {R : List Rk} {r : Rk} : (putK R r).map (·.1) = if (R.find? fun q => decide (q.1 = r.1)).isSome = true then R.map (·.1) else R.map (·.1) ++ [r.1] := by
  unfold putK
  split
  · rw [List.map_map]
    refine List.map_congr_left fun q _ => ?_
    show (if q.1 = r.1 then r else q).1 = q.1
    split
    · rename_i h
      exact h.symm
    · rfl
  · rw [List.map_append]
    rfl
theorem UK.put {dn M : List Rk} {r : Rk} (I : UK dn M) (h : ∀ m ∈ M, m.1 = r.1 → r.2.1 ≤ m.2.1) : UK (dn ++ [r]) (putK M r) := by
  have hr : r ∈ putK M r := by
    unfold putK
    split
    · rename_i hs
      obtain ⟨m, hm⟩ := Option.isSome_iff_exists.mp hs
      have h1 := List.find?_some hm
      have h2 := List.mem_of_find?_eq_some hm
      refine List.mem_map.mpr ⟨m, h2, if_pos (of_decide_eq_true h1)⟩
    · simp
  refine ⟨?_, fun m hm => ?_, fun o ho => ?_⟩
  · rw [putk_keys]
    split
    · exact I.nd
    · rename_i hs
      refine List.nodup_append.mpr ⟨I.nd, by simp, fun a ha b hb e => ?_⟩
      rw [List.mem_singleton.mp hb] at e
      obtain ⟨m, hm, em⟩ := List.mem_map.mp ha
      apply hs
      rw [List.find?_isSome]
      exact ⟨m, hm, decide_eq_true (em.trans e)⟩
  · unfold putK at hm
    split at hm
    · obtain ⟨q, hq, e⟩ := List.mem_map.mp hm
      split at e
      · rw [← e]; simp
      · rw [← e]; exact List.mem_append_left _ (I.sub q hq)
    · rcases List.mem_append.mp hm with z | z
      · exact List.mem_append_left _ (I.sub m z)
      · rw [List.mem_singleton.mp z]; simp
  · rcases List.mem_append.mp ho with z | z
    · obtain ⟨m, hm, e1, e2⟩ := I.all o z
      by_cases e : m.1 = r.1
      · exact ⟨r, hr, e.symm.trans e1, Int.le_trans (h m hm e) e2⟩
      · refine ⟨m, ?_, e1, e2⟩
        unfold putK
        split
        · exact List.mem_map.mpr ⟨m, hm, if_neg e⟩
        · exact List.mem_append_left _ hm
    · rw [List.mem_singleton.mp z]
      exact ⟨r, hr, rfl, Int.le_refl _⟩
theorem UK.skip {dn M : List Rk} {r m : Rk} (I : UK dn M) (hm : m ∈ M) (h1 : m.1 = r.1) (h2 : m.2.1 ≤ r.2.1) : UK (dn ++ [r]) M := by
  refine ⟨I.nd, fun x hx => List.mem_append_left _ (I.sub x hx), fun o ho => ?_⟩
  rcases List.mem_append.mp ho with z | z
  · exact I.all o z
  · rw [List.mem_singleton.mp z]
    exact ⟨m, hm, h1, h2⟩
end DVL

namespace DVL
open PySem L2 DV
section
variable {ts ws dd : List Int}
/-- weights times the days behind, the work begun at d -/
def TD (ts ws dd : List Int) : Int → List Int → Int
  | _, [] => 0
  | d, j :: p => val ws j * max 0 (d + val ts j - val dd j) + TD ts ws dd (d + val ts j) p
theorem TD_app (p q : List Int) : ∀ d, TD ts ws dd d (p ++ q) = TD ts ws dd d p + TD ts ws dd (d + T3 ts p) q := by
  induction p with
  | nil =>
    intro d
    show TD ts ws dd d q = 0 + TD ts ws dd (d + ([] : List Int).sum) q
    rw [List.sum_nil, Int.add_zero, Int.zero_add]
  | cons j p ih =>
    intro d
    show val ws j * _ + TD ts ws dd (d + val ts j) (p ++ q) = (val ws j * _ + TD ts ws dd (d + val ts j) p) + _
    rw [ih, T3_cons, Int.add_assoc, Int.add_assoc]
/-- what a job costs behind a set of jobs -/
def CJ (ts ws dd : List Int) (p : List Int) (j : Int) : Int := val ws j * max 0 (T3 ts p + val ts j - val dd j)
theorem TD_one (p : List Int) (j : Int) : TD ts ws dd 0 (p ++ [j]) = TD ts ws dd 0 p + CJ ts ws dd p j := by
  rw [TD_app]
  show _ + (val ws j * max 0 (0 + T3 ts p + val ts j - val dd j) + 0) = _
  rw [Int.zero_add, Int.add_zero]
  rfl
theorem CJ_perm {p q : List Int} (h : p.Perm q) (j : Int) : CJ ts ws dd p j = CJ ts ws dd q j := by
  unfold CJ
  rw [T3_perm h]
end
end DVL

namespace DVL
open PySem L2 DV
theorem sortI_eq {A B : List Int} (h : A.Perm B) : sortI A = sortI B := sorted_uniq (((sortI_perm A).trans h).trans (sortI_perm B).symm) (sortI_sorted A) (sortI_sorted B)
section
variable {ts ws dd : List Int}
/-- a row that tells the truth -/
structure OKr (ts ws dd : List Int) (n : Nat) (o : Rk) : Prop where
  key : o.1 = sortI o.2.2
  nd : o.2.2.Nodup
  rg : ∀ j ∈ o.2.2, 0 ≤ j ∧ j < (n : Int)
  sum : o.2.1 = TD ts ws dd 0 o.2.2
def Full (ts ws dd : List Int) (n s : Nat) (dn : List Rk) : Prop := ∀ q : List Int, q.Nodup → (∀ j ∈ q, 0 ≤ j ∧ j < (n : Int)) → q.length ≤ s → ∃ o ∈ dn, o.1 = sortI q ∧ o.2.1 ≤ TD ts ws dd 0 q
/-- a set and a job have been offered -/
def Off (ts ws dd : List Int) (dn : List Rk) (S : List Int) (j : Int) : Prop := ∃ o ∈ dn, o.1 = sortI (S ++ [j]) ∧ ∀ q : List Int, q.Perm S → o.2.1 ≤ TD ts ws dd 0 (q ++ [j])
theorem Full.mono {n s : Nat} {dn dn2 : List Rk} (h : Full ts ws dd n s dn) (i : ∀ o ∈ dn, o ∈ dn2) : Full ts ws dd n s dn2 := fun q a b c => by
  obtain ⟨o, h1, h2⟩ := h q a b c
  exact ⟨o, i o h1, h2⟩
theorem Off.mono {dn dn2 : List Rk} {S : List Int} {j : Int} (h : Off ts ws dd dn S j) (i : ∀ o ∈ dn, o ∈ dn2) : Off ts ws dd dn2 S j := by
  obtain ⟨o, h1, h2⟩ := h
  exact ⟨o, i o h1, h2⟩
theorem Full.next {n s : Nat} {dn : List Rk} (F : Full ts ws dd n s dn) (h : ∀ q : List Int, q.Nodup → (∀ j ∈ q, 0 ≤ j ∧ j < (n : Int)) → q.length = s → ∀ j : Int, 0 ≤ j → j < (n : Int) → j ∉ q → Off ts ws dd dn (sortI q) j) : Full ts ws dd n (s + 1) dn := by
  intro q hn hr hl
  by_cases hs : q.length ≤ s
  · exact F q hn hr hs
  have hne : q ≠ [] := fun e => by rw [e] at hs; simp at hs
  have eq : q = q.dropLast ++ [q.getLast hne] := (List.dropLast_concat_getLast hne).symm
  generalize q.dropLast = p at eq
  generalize q.getLast hne = j at eq
  subst eq
  rw [List.length_append, List.length_singleton] at hl hs
  obtain ⟨n1, _, n3⟩ := List.nodup_append.mp hn
  have hj := hr j (by simp)
  obtain ⟨o, o1, o2, o3⟩ := h p n1 (fun k hk => hr k (List.mem_append_left _ hk)) (by omega) j hj.1 hj.2 fun hm => n3 j hm j (by simp) rfl
  exact ⟨o, o1, o2.trans (sortI_eq ((sortI_perm p).append_right [j])), o3 p (sortI_perm p).symm⟩
/-- the row of a set serves all its orders -/
theorem full_row {n s : Nat} {dn M : List Rk} (F : Full ts ws dd n s dn) (U : UK dn M) {m : Rk} (hm : m ∈ M) {q : List Int} (h1 : q.Nodup) (h2 : ∀ j ∈ q, 0 ≤ j ∧ j < (n : Int)) (h3 : q.length ≤ s) (e : m.1 = sortI q) : m.2.1 ≤ TD ts ws dd 0 q := by
  obtain ⟨o, o1, o2, o3⟩ := F q h1 h2 h3
  obtain ⟨m2, a1, a2, a3⟩ := U.all o o1
  have hu := U.nd
  unfold List.Nodup at hu
  rw [List.pairwise_map] at hu
  have : m2 = m := Classical.byContradiction fun hne => by
    rcases pw_tri hu m2 a1 m hm with z | z | z
    · exact hne z
    · exact z (a2.trans (o2.trans e.symm))
    · exact z (e.trans (o2.symm.trans a2.symm))
  rw [← this]
  omega
end
end DVL

namespace DVL
open PySem L2 DV
/-- the ascending lists within lo .. lo + k -/
def subsA (lo : Int) : Nat → List (List Int)
  | 0 => [[]]
  | k + 1 => subsA (lo + 1) k ++ (subsA (lo + 1) k).map fun S => lo :: S
theorem subsA_len : ∀ (k : Nat) (lo : Int), (subsA lo k).length = 2 ^ k
  | 0, _ => rfl
  | k + 1, lo => by
    show (subsA (lo + 1) k ++ _).length = _
    rw [List.length_append, List.length_map, subsA_len k (lo + 1), Nat.pow_succ]
    omega
theorem subsA_mem : ∀ (k : Nat) (lo : Int) (S : List Int), S.Pairwise (· < ·) → (∀ j ∈ S, lo ≤ j ∧ j < lo + (k : Int)) → S ∈ subsA lo k
  | 0, lo, S, _, h => by
    cases S with
    | nil => exact List.mem_singleton.mpr rfl
    | cons a S =>
      have := h a List.mem_cons_self
      omega
  | k + 1, lo, [], hp, h => List.mem_append_left _ (subsA_mem k (lo + 1) [] List.Pairwise.nil (fun j hj => nomatch hj))
  | k + 1, lo, a :: S, hp, h => by
    obtain ⟨h1, h2⟩ := List.pairwise_cons.mp hp
    have ha := h a List.mem_cons_self
    have hS : ∀ j ∈ S, a < j ∧ j < lo + ((k + 1 : Nat) : Int) := fun j hj => ⟨h1 j hj, (h j (List.mem_cons_of_mem _ hj)).2⟩
    by_cases e : a = lo
    · subst e
      refine List.mem_append_right _ (List.mem_map.mpr ⟨S, subsA_mem k (a + 1) S h2 (fun j hj => ?_), rfl⟩)
      have := hS j hj
      omega
    · refine List.mem_append_left _ (subsA_mem k (lo + 1) (a :: S) hp (fun j hj => ?_))
      rcases List.mem_cons.mp hj with z | z
      · subst z; omega
      · have := hS j z
        omega
theorem uk_len {n : Nat} {dn M : List Rk} (U : UK dn M) (h : ∀ o ∈ dn, o.1.Pairwise (· < ·) ∧ ∀ j ∈ o.1, 0 ≤ j ∧ j < (n : Int)) : M.length ≤ 2 ^ n := by
  have h1 : (M.map (·.1)).length ≤ (subsA 0 n).length := List.Nodup.length_le_of_subset U.nd fun S hS => by
    obtain ⟨m, hm, rfl⟩ := List.mem_map.mp hS
    have := h m (U.sub m hm)
    exact subsA_mem n 0 m.1 this.1 fun j hj => by have := this.2 j hj; omega
  rwa [List.length_map, subsA_len] at h1
end DVL

namespace DVL
open PySem L2 DV
section
variable {ts ws dd : List Int}
structure TabOK (ts ws dd : List Int) (n s : Nat) (dn M : List Rk) : Prop where
  U : UK dn M
  ok : ∀ o ∈ dn, OKr ts ws dd n o
  full : Full ts ws dd n s dn
theorem OKr.asc {n : Nat} {o : Rk} (h : OKr ts ws dd n o) : o.1.Pairwise (· < ·) ∧ ∀ j ∈ o.1, 0 ≤ j ∧ j < (n : Int) := by
  rw [h.key]
  exact ⟨sort_nodup h.nd, fun j hj => h.rg j ((sortI_perm _).mem_iff.mp hj)⟩
theorem TabOK.few {n s : Nat} {dn M : List Rk} (T : TabOK ts ws dd n s dn M) (hn : n ≤ 10) : M.length ≤ 100000 := by
  have h := uk_len T.U fun o ho => (T.ok o ho).asc
  have : (2 : Nat) ^ n ≤ 2 ^ 10 := Nat.pow_le_pow_right (by decide) hn
  omega
theorem Off.of {n s : Nat} {dn M : List Rk} (T : TabOK ts ws dd n s dn M) {m : Rk} (hm : m ∈ M) (hs : m.1.length = s) {j : Int} {o : Rk} (e1 : o.1 = sortI (m.1 ++ [j])) (e2 : o.2.1 = m.2.1 + CJ ts ws dd m.1 j) (ho : o ∈ dn ++ [o]) : Off ts ws dd (dn ++ [o]) m.1 j := by
  refine ⟨o, ho, e1, fun q hq => ?_⟩
  have hk := T.ok m (T.U.sub m hm)
  have ha := hk.asc
  have hqn : q.Nodup := hq.nodup_iff.mpr (ha.1.imp fun h => Int.ne_of_lt h)
  have h1 := full_row T.full T.U hm hqn (fun k hk2 => ha.2 k (hq.mem_iff.mp hk2)) (by rw [hq.length_eq]; omega) (by
    rw [hk.key]
    exact sortI_eq (((sortI_perm _).symm).trans (by rw [← hk.key]; exact hq.symm)))
  rw [TD_one, e2, CJ_perm hq]
  omega
end
end DVL


namespace DVL
open PySem L2 DV
section
variable {ts ws dd : List Int}
theorem val_set_ne {fd : List Int} {k j x : Int} (hk : 0 ≤ k) (hj : 0 ≤ j) (h : k ≠ j) : val (fd.set k.toNat x) j = val fd j := by
  unfold val
  rw [List.getD_eq_getElem?_getD, List.getD_eq_getElem?_getD, List.getElem?_set_ne (by omega)]
theorem val_set_eq {fd : List Int} {k x : Int} (hk : 0 ≤ k) (h : k < fd.length) : val (fd.set k.toNat x) k = x := by
  unfold val
  rw [List.getD_eq_getElem?_getD, List.getElem?_set_self (by omega)]
  rfl
theorem fillG_out (adv : Int → Int → Int) (ts : List Int) : ∀ (p : List Int) (d : Int) (fd : List Int) (j : Int), 0 ≤ j → j ∉ p → (∀ k ∈ p, 0 ≤ k) → val (fillG adv ts d fd p) j = val fd j
  | [], _, _, _, _, _, _ => rfl
  | k :: p, d, fd, j, h0, hj, h => by
    unfold fillG
    rw [fillG_out adv ts p _ _ j h0 (fun w => hj (List.mem_cons_of_mem _ w)) (fun i hi => h i (List.mem_cons_of_mem _ hi))]
    exact val_set_ne (h k List.mem_cons_self) h0 fun e => hj (by rw [e]; exact List.mem_cons_self)
end
end DVL

namespace DVS
open PySem L2 DV DVL DVB
def mxE (j : Int) (f : Int → Int) : List (Int × Int) → Int
  | [] => 1
  | p :: P => if p.1 = j then max (f p.2 + 1) (mxE j f P) else mxE j f P
/-- the longest rows of at most so many steps -/
def bd (P : List (Int × Int)) : Nat → Int → Int
  | 0, _ => 1
  | k + 1, j => mxE j (bd P k) P
end DVS

namespace DVL
open PySem L2 DV
/-- the jobs of machine m -/
def cell (n : Nat) (a : List Int) (m : Int) : List Int := (rngI 0 n).filter fun i => decide (val a i = m)
/-- the lists of an assignment -/
def lists (n : Nat) (T : List (List Int)) (a : List Int) : List (List Int) := (rngI 0 T.length).map fun m => sbP (val (rowA T m)) id (cell n a m)
end DVL

namespace DVS
open PySem L2 DV DVL DVB
section
variable {n : Nat} {P : List (Int × Int)} {b : Nat} {lv : Int → Int}
theorem Dn.le {S : List Int} (h : Dn n P S) : S.length ≤ n := by
  have := nodup_leG h.nd (q := rngI 0 n) fun j hj => (mem_rngI _ _ _).mpr (by have := h.rg j hj; omega)
  rwa [rngI_len] at this
theorem Dn.ex {S : List Int} (h : S.length < n) : ∃ j : Int, (0 ≤ j ∧ j < (n : Int)) ∧ j ∉ S := Classical.byContradiction fun hno => by
  have := nodup_leG (rngI_nodup 0 n) (q := S) fun j hj => Classical.byContradiction fun z => hno ⟨j, by have := (mem_rngI _ _ _).mp hj; omega, z⟩
  rw [rngI_len] at this
  omega
theorem Dn.all {S : List Int} (h : Dn n P S) (hl : S.length = n) : S.Perm (rngI 0 n) := nodup_perm h.nd (fun j hj => (mem_rngI _ _ _).mpr (by have := h.rg j hj; omega)) (by rw [rngI_len, hl]; exact Nat.le_refl _)
theorem flat_ge : ∀ {ds : List (List Int)}, (∀ d ∈ ds, d ≠ []) → ds.length ≤ ds.flatten.length
  | [], _ => Nat.le_refl _
  | d :: ds, h => by
    have := flat_ge fun x hx => h x (List.mem_cons_of_mem _ hx)
    have h2 := h d List.mem_cons_self
    rw [List.flatten_cons, List.length_append, List.length_cons]
    cases d with
    | nil => exact absurd rfl h2
    | cons => rw [List.length_cons]; omega
/-- the days of one plan do all jobs -/
structure Full (n : Nat) (P : List (Int × Int)) (b : Nat) (lv : Int → Int) (ds : List (List Int)) : Prop where
  hp : Hp n P b lv [] ds
  all : ds.flatten.Perm (rngI 0 n)
  pos : ∀ d ∈ ds, d ≠ []
  sd : ∀ d ∈ ds, d.Pairwise (· ≤ ·)
end
end DVS

namespace DVS
open PySem L2 DV DVL DVB
def ptI (b : Nat) (L : List Int) : List (List Int) := L.foldl (fun F x => F ++ (F.filter fun p => decide (p.length < b)).map fun p => p ++ [x]) [[]]
theorem pt_snoc (b : Nat) (L : List Int) (x : Int) : ptI b (L ++ [x]) = ptI b L ++ ((ptI b L).filter fun p => decide (p.length < b)).map fun p => p ++ [x] := by
  unfold ptI
  rw [List.foldl_append]
  rfl
theorem snoc_ind {Q : List Int → Prop} (h0 : Q []) (h1 : ∀ L x, Q L → Q (L ++ [x])) (L : List Int) : Q L := by
  have : ∀ k (L : List Int), L.length = k → Q L := fun k => by
    induction k with
    | zero => exact fun L h => by rw [List.length_eq_zero_iff.mp h]; exact h0
    | succ k ih =>
      intro L h
      rcases List.eq_nil_or_concat L with rfl | ⟨A, y, rfl⟩
      · exact h0
      · exact h1 A y (ih A (by rw [List.concat_eq_append, List.length_append, List.length_singleton] at h; omega)) |> fun z => by rw [List.concat_eq_append]; exact z
  exact this _ L rfl
theorem pt_sub (b : Nat) : ∀ L, ∀ p ∈ ptI b L, p.Sublist L ∧ p.length ≤ b := snoc_ind (fun p hp => by rw [List.mem_singleton.mp hp]; exact ⟨List.Sublist.refl _, Nat.zero_le _⟩) fun L x ih p hp => by
  rw [pt_snoc] at hp
  rcases List.mem_append.mp hp with z | z
  · exact ⟨(ih p z).1.trans (List.sublist_append_left _ _), (ih p z).2⟩
  · obtain ⟨q, hq, rfl⟩ := List.mem_map.mp z
    obtain ⟨h1, h2⟩ := List.mem_filter.mp hq
    refine ⟨(ih q h1).1.append (List.Sublist.refl _), ?_⟩
    rw [List.length_append, List.length_singleton]
    exact of_decide_eq_true h2
theorem pt_filter (b : Nat) (f : Int → Bool) : ∀ L, (L.filter f).length ≤ b → L.filter f ∈ ptI b L := snoc_ind (fun _ => List.mem_singleton.mpr rfl) fun L x ih h => by
  rw [pt_snoc]
  rw [List.filter_append] at h ⊢
  cases e : f x with
  | false =>
    rw [List.filter_cons_of_neg (by rw [e]; exact Bool.false_ne_true), List.filter_nil, List.append_nil] at h ⊢
    exact List.mem_append_left _ (ih h)
  | true =>
    rw [List.filter_cons_of_pos e, List.filter_nil] at h ⊢
    rw [List.length_append, List.length_singleton] at h
    exact List.mem_append_right _ (List.mem_map.mpr ⟨_, List.mem_filter.mpr ⟨ih (by omega), decide_eq_true (by omega)⟩, rfl⟩)
section
variable {n : Nat} {P : List (Int × Int)} {b : Nat}
theorem DayOk.same (G : Prs n P) {S K day : List Int} (h : DayOk n P b S day) (e : ∀ x, x ∈ S ↔ x ∈ K) : DayOk n P b K day :=
  ⟨fun j hj => by
    obtain ⟨h1, h2, h3⟩ := (mem_Ab G).mp (h.able j hj)
    exact (mem_Ab G).mpr ⟨h1, fun z => h2 ((e j).mpr z), fun p hp ep => (e _).mp (h3 p hp ep)⟩, h.nd, h.len⟩
theorem srt_app {A B C : List Int} (h : A.Perm B) : DV.sortI (A ++ C) = DV.sortI (B ++ C) := DVL.sortI_eq (h.append_right C)
/-- days that do all jobs -/
structure Cp (n : Nat) (P : List (Int × Int)) (b : Nat) (ds : List (List Int)) : Prop where
  pl : Pl n P b [] ds
  all : ds.flatten.Perm (rngI 0 n)
end
end DVS

namespace DVG
open PySem L2 DV DVL
/-- what some jobs weigh on a machine -/
def gs (a : List Int) (w : Int → Int) (S : List Int) (m : Int) : Int := ((S.filter fun i => decide (val a i = m)).map w).sum
end DVG

namespace DV
open PySem L2
section
variable {ρ ρ' : Env} {P : RV → Prop} {Q : Out → Prop} {f g : Env → M RV}
def KStep (P : RV → Prop) (x : RV) (l k : Option Int) : Prop := ∃ ds a b, newL x = some ds ∧ l = some a ∧ k = some b ∧ b ≠ 0 ∧ P (.n (pickA ds a b))
theorem w_step {lo st : Env → M (Option Int)} (p : Gives (f ρ) fun x => Gives (lo ρ) fun l => Gives (st ρ) fun k => KStep P x l k) : Gives (eStep f lo st ρ) P := by
  unfold eStep
  refine Gives.bnd p fun x q1 => Gives.bnd q1 fun l q2 => Gives.bnd q2 fun k ⟨ds, a, b, e, e1, e2, h, q4⟩ => ?_
  subst e1 e2
  show Gives (if b = 0 then fail else bnd (lft (newL x)) fun ds => ret (.n (pickA ds a b))) P
  rw [if_neg h, e, lft_s, bnd_ret]
  exact Gives.ret q4
theorem pickA_map {α β : Type} (h : α → β) (L : List α) (a b : Int) : pickA (L.map h) a b = (pickA L a b).map h := by
  unfold pickA
  rw [List.length_map, List.map_filterMap]
  congr 1
  funext i
  exact List.getElem?_map
theorem w_stepB {α : Type} {mk : α → D} {L : List α} {a b : Int} (h : b ≠ 0) (p : P (.n ((pickA L a b).map mk))) : KStep P (.b (L.map mk)) (some a) (some b) := ⟨_, a, b, rfl, rfl, rfl, h, by rw [pickA_map]; exact p⟩
theorem w_srev (p : Gives (f ρ) fun x => ∃ js, items x = some (js.map PyData.int) ∧ P (.n ((sortI js).reverse.map PyData.int))) : Gives (eSortRev f ρ) P := by
  unfold eSortRev
  refine Gives.bnd p fun x ⟨js, e, q⟩ => ?_
  rw [e, lft_s, bnd_ret, DVL.intsOf_map, lft_s, bnd_ret]
  exact Gives.ret q
theorem w_srevT {js : List Int} (p : P (.n ((sortI js).reverse.map PyData.int))) : ∃ js', items (.d (ti js)) = some (js'.map PyData.int) ∧ P (.n ((sortI js').reverse.map PyData.int)) := ⟨js, rfl, p⟩
end
end DV

namespace DV
open PySem L2
section
variable {P : RV → Prop} {f h : Env → DV.M RV} {ρ : Env} {Q : Out → Prop}
theorem w_met {gg : RV → RV → Option RV} (p : Gives (f ρ) fun x => ∃ ds, itemsL x = some ds ∧ Gives (h ρ) fun y => K2 gg P x y) : Gives (eMet gg f h ρ) P := by
  unfold eMet
  refine Gives.bnd p fun x ⟨ds, e, q⟩ => ?_
  rw [e, lft_s, bnd_ret]
  refine Gives.bnd q fun y ⟨z, e2, q2⟩ => ?_
  rw [e2]
  exact Gives.ret q2
theorem w_itL {C : Prop} {ds : List D} (p : C) : ∃ es, itemsL (.b ds) = some es ∧ C := ⟨ds, rfl, p⟩
/-- x[i], y[j] = a, b of ints -/
def KTwo (t1 t2 : Tgt) (ρ : Env) (Q : Out → Prop) (xs : List RV) : Prop := ∃ d e, xs = [.d d, .d e] ∧ Gives (tgtF t1 d ρ) fun ρ1 => Gives (tgtF t2 e ρ1) fun ρ2 => Q (.nx ρ2)
theorem w_two {t1 t2 : Tgt} {fa : Env → DV.M (List RV)} (p : Gives (fa ρ) (KTwo t1 t2 ρ Q)) : Gives (sTwo t1 t2 fa ρ) Q := by
  unfold sTwo
  refine Gives.bnd p fun xs ⟨d, e, ex, q⟩ => ?_
  subst ex
  show Gives (bnd (lft (some d)) fun d => bnd (lft (some e)) fun e => bnd (tgtF t1 d ρ) fun ρ1 => bnd (tgtF t2 e ρ1) fun ρ2 => ret (.nx ρ2)) Q
  rw [lft_s, bnd_ret, lft_s, bnd_ret]
  refine Gives.bnd q fun ρ1 q1 => ?_
  exact Gives.bnd q1 fun ρ2 q2 => Gives.ret q2
theorem w_twoX {t1 t2 : Tgt} {d e : D} (p : Gives (tgtF t1 d ρ) fun ρ1 => Gives (tgtF t2 e ρ1) fun ρ2 => Q (.nx ρ2)) : KTwo t1 t2 ρ Q [.d d, .d e] := ⟨d, e, rfl, p⟩
end
end DV

namespace DVR
open PySem L2 DV DVL
abbrev Lk := Int × Int × Int × Int
def at4 (ls : List Lk) (i : Int) : Lk := ls.getD i.toNat (0, 0, 0, 0)
def src (ls : List Lk) (i : Int) : Int := (at4 ls i).1
def tgt (ls : List Lk) (i : Int) : Int := (at4 ls i).2.1
def tim (ls : List Lk) (i : Int) : Int := (at4 ls i).2.2.1
def rnd (ls : List Lk) (i : Int) : Int := (at4 ls i).2.2.2
def wt (w : Int → Int) (p : List Int) : Int := (p.map w).sum
section
variable {ls : List Lk} {n : Nat} {w : Int → Int}
def Hd (ls : List Lk) (s : Int) (p : List Int) : Int := match p.getLast? with
  | none => s
  | some i => tgt ls i
def Mt4 (ls : List Lk) (s : Int) (p : List Int) : List Int := s :: p.map (tgt ls)
end
end DVR

namespace DVR
open PySem L2 DV DVL
section
variable {ls : List Lk} {n : Nat} {s : Int} {p : List Int}
def clB (ls : List Lk) (s : Int) (p : List Int) (i : Int) : Bool := decide (src ls i = Hd ls s p) && decide (tgt ls i = s)
/-- the rings that a path closes to, the paths that it goes on to -/
def cls (ls : List Lk) (s : Int) (p I : List Int) : List (List Int) := (I.filter (clB ls s p)).map fun i => p ++ [i]
/-- links that leave an event -/
def dg (ls : List Lk) (v : Int) : Nat := ((rngI 0 ls.length).filter fun i => decide (src ls i = v)).length
def prodN : List Nat → Nat
  | [] => 1
  | a :: L => a * prodN L
def Un (ls : List Lk) (n : Nat) (M : List Int) : Nat := prodN (((rngI 0 n).filter fun v => !M.elem v).map fun v => 1 + dg ls v)
/-- more than all walks from an event that meet none twice -/
def PT (ls : List Lk) (n : Nat) : Nat := prodN ((rngI 0 n).map fun v => 1 + dg ls v)
end
end DVR

namespace DVL
open PySem L2 DV
local macro_rules
  | `(tactic| get_elem_tactic_trivial) => `(tactic| first
    | (simp only [List.set_cons_succ, List.set_cons_zero, DV.startE, DV.lawE, DV.toK, DV.lockE, DV.wipeE, List.map_cons, List.map_nil, List.length_cons, List.length_nil, List.replicate_zero, List.replicate_succ, Nat.reduceSub, Nat.reduceAdd, List.append_nil, List.cons_append, List.nil_append]; rfl)
    | exact rfl)
local macro_rules
  | `(tactic| infer_instance) => `(tactic| first
    | with_reducible refine DV.w_cons ?_
    | with_reducible refine DV.w_var (by with_unfolding_all exact rfl) ?_
    | with_reducible refine DV.w_c ?_
    | with_reducible refine DV.w_nil ?_
    | with_reducible refine DV.w_e2 ?_
    | with_reducible refine DV.w_seq ?_
    | with_reducible refine DV.w_seqN ?_
    | with_reducible refine DV.w_seqR ?_
    | with_reducible refine DV.w_seqB ?_
    | with_reducible refine DV.w_seqC ?_
    | with_reducible refine DV.w_call ?_
    | with_reducible refine DV.w_fn ?_
    | with_reducible refine DV.w_f1 ?_
    | with_reducible refine DV.w_f2 ?_
    | with_reducible refine DV.w_f3 ?_
    | with_reducible refine DV.w_f4 ?_
    | with_reducible refine DV.w_f5 ?_
    | with_reducible refine DV.w_f6 ?_
    | with_reducible refine DV.w_set ?_
    | with_reducible refine DV.w_setApp ?_
    | with_reducible refine DV.w_setX (by with_unfolding_all exact rfl) (by with_unfolding_all (simp only [List.set_cons_succ, List.set_cons_zero]; rfl)) ?_
    | with_reducible refine DV.w_rt ?_
    | with_reducible refine DV.w_rtD ?_
    | with_reducible refine DV.w_rtN ?_
    | with_reducible refine DV.w_rtV (by with_unfolding_all exact rfl) ?_
    | with_reducible refine DV.w_if ?_
    | with_reducible refine DV.w_drop ?_
    | with_reducible refine DV.w_nop ?_
    | with_reducible refine DV.w_T ?_
    | with_reducible refine DV.w_B ?_
    | with_reducible refine DV.w_not ?_
    | with_reducible refine DV.w_and ?_
    | with_reducible refine DV.w_or ?_
    | with_reducible refine DV.w_ifT ?_
    | with_reducible refine DV.w_ifF ?_
    | with_reducible refine DV.w_ifNT ?_
    | with_reducible refine DV.w_ifNF ?_
    | with_reducible refine DV.w_stup ?_
    | with_reducible refine DV.w_stupD (by with_unfolding_all (simp only [DV.wipeE, DV.gTupF, DV.gMore, DV.gNone, DV.gNm, List.set_cons_succ, List.set_cons_zero, List.length]; rfl)) ?_
    | with_reducible refine DV.w_aug (by with_unfolding_all exact rfl) ?_
    | with_reducible refine DV.w_I ?_
    | with_reducible refine DV.w_app (by with_unfolding_all exact rfl) (by simp only [List.length_map]; omega) ?_
    | with_reducible refine DV.w_D ?_
    | with_reducible refine DV.w_for ?_
    | with_reducible refine DV.w_lc ?_
    | with_reducible refine DV.w_par ?_
    | with_reducible refine DV.w_par3 ?_
    | with_reducible refine DV.w_par4 ?_
    | with_reducible refine DV.w_parX (by with_unfolding_all exact rfl) (by with_unfolding_all exact rfl) (by with_unfolding_all (simp only [List.set_cons_succ, List.set_cons_zero]; rfl)) ?_
    | with_reducible refine DV.w_par3X (by with_unfolding_all exact rfl) (by with_unfolding_all exact rfl) (by with_unfolding_all exact rfl) (by with_unfolding_all (simp only [List.set_cons_succ, List.set_cons_zero]; rfl)) ?_
    | with_reducible refine DV.w_par4X (by with_unfolding_all exact rfl) (by with_unfolding_all exact rfl) (by with_unfolding_all exact rfl) (by with_unfolding_all exact rfl) (by with_unfolding_all (simp only [List.set_cons_succ, List.set_cons_zero]; rfl)) ?_
    | with_reducible refine DV.w_tup ?_
    | with_reducible refine DV.w_lst ?_
    | with_reducible refine DV.w_tu (by with_unfolding_all exact rfl) (by with_unfolding_all exact Nat.le_of_ble_eq_true rfl) ?_
    | with_reducible refine DV.w_ls (by with_unfolding_all exact rfl) (by with_unfolding_all exact Nat.le_of_ble_eq_true rfl) ?_
    | with_reducible refine DV.w_neg ?_
    | with_reducible refine DV.w_ifB ?_
    | with_reducible refine DV.w_ifE ?_
    | with_reducible refine DV.w_notB ?_
    | with_reducible refine DV.w_tt ?_
    | with_reducible refine DV.w_ch ?_
    | with_reducible refine DV.w_add ?_
    | with_reducible refine DV.w_sub ?_
    | with_reducible refine DV.w_mul (by first | omega | (left; constructor <;> omega) | (right; constructor <;> omega)) ?_
    | with_reducible refine DV.w_mod (by omega) ?_
    | with_reducible refine DV.w_div (by omega) ?_
    | with_reducible refine DV.w_lt ?_
    | with_reducible refine DV.w_le ?_
    | with_reducible refine DV.w_gt ?_
    | with_reducible refine DV.w_ge ?_
    | with_reducible refine DV.w_ltA ?_
    | with_reducible refine DV.w_leA ?_
    | with_reducible refine DV.w_gtA ?_
    | with_reducible refine DV.w_geA ?_
    | with_reducible refine DV.w_eq ?_
    | with_reducible refine DV.w_ne ?_
    | with_reducible refine DV.w_eqB ?_
    | with_reducible refine DV.w_neB ?_
    | with_reducible refine DV.w_eqN ?_
    | with_reducible refine DV.w_neN ?_
    | with_reducible refine DV.w_eqN0 ?_
    | with_reducible refine DV.w_neN0 ?_
    | with_reducible refine DV.w_in ?_
    | with_reducible refine DV.w_inB ?_
    | with_reducible refine DV.w_notIn ?_
    | with_reducible refine DV.w_notInB ?_
    | with_reducible refine DV.w_ix0 ?_
    | with_reducible refine DV.w_ix1 ?_
    | with_reducible refine DV.w_ix (by omega) ?_
    | with_reducible refine DV.w_ixB (by omega) ?_
    | with_reducible refine DV.w_len ?_
    | with_reducible refine DV.w_lenB ?_
    | with_reducible refine DV.w_lenN ?_
    | with_reducible refine DV.w_lenM ?_
    | with_reducible refine DV.w_lenMB ?_
    | with_reducible refine DV.w_lenMN ?_
    | with_reducible refine DV.w_lenD ?_
    | with_reducible refine DV.w_lenDB ?_
    | with_reducible refine DV.w_lenDN ?_
    | with_reducible refine DV.w_tupN ?_
    | with_reducible refine DV.w_tupB ?_
    | with_reducible refine DV.w_tupD ?_
    | with_reducible refine DV.w_lstD ?_
    | with_reducible refine DV.w_lstB ?_
    | with_reducible refine DV.w_lstN ?_
    | with_reducible refine DV.w_sum ?_
    | with_reducible refine DV.w_sumN ?_
    | with_reducible refine DV.w_sumB ?_
    | with_reducible refine DV.w_max2 ?_
    | with_reducible refine DV.w_min2 ?_
    | with_reducible refine DV.w_int ?_
    | with_reducible refine DV.w_sort ?_
    | with_reducible refine DV.w_sortN ?_
    | with_reducible refine DV.w_sortB ?_
    | with_reducible refine DV.w_rep (by omega) ?_
    | with_reducible refine DV.w_repN (by omega) ?_
    | with_reducible refine DV.w_moveG (by with_unfolding_all exact rfl) (by with_unfolding_all (simp only [List.set_cons_succ, List.set_cons_zero]; rfl)) ?_
    | with_reducible refine DV.w_moveO (by with_unfolding_all exact rfl) (by with_unfolding_all (simp only [List.set_cons_succ, List.set_cons_zero]; rfl)) ?_
    | with_reducible refine DV.w_moveD (by with_unfolding_all exact rfl) (by with_unfolding_all (simp only [List.set_cons_succ, List.set_cons_zero]; rfl)) ?_
    | with_reducible refine DV.w_catTI (by (try simp only [List.length_append, List.length_take, List.length_drop, List.length_cons, List.length_nil]); omega) ?_
    | with_reducible refine DV.w_catT1 (by (try simp only [List.length_append, List.length_take, List.length_drop, List.length_cons, List.length_nil]); omega) ?_
    | with_reducible refine DV.w_listG ?_
    | with_reducible refine DV.w_sortK ?_
    | with_reducible refine DV.w_colS ?_
    | with_reducible refine DV.w_itT ?_
    | with_reducible refine DV.w_itB ?_
    | with_reducible refine DV.w_itN ?_
    | with_reducible refine DV.w_colR ?_
    | with_reducible refine DV.w_colRN (by omega) ?_
    | with_reducible refine DV.w_ext (by with_unfolding_all exact rfl) ?_
    | with_reducible refine DV.w_lc2 ?_
    | with_reducible refine DV.w_isT ?_
    | with_reducible refine DV.w_isNN ?_
    | with_reducible refine DV.w_isNI ?_
    | with_reducible refine DV.w_isNT ?_
    | with_reducible refine DV.w_ntNN ?_
    | with_reducible refine DV.w_ntNI ?_
    | with_reducible refine DV.w_ntNT ?_
    | with_reducible refine DV.w_repND (by omega) ?_
    | with_reducible refine DV.w_put (by with_unfolding_all exact rfl) ?_
    | with_reducible refine DV.w_putI (by (try simp only [List.length_set, List.length_replicate, List.length_map]); omega) ?_
    | with_reducible refine DV.w_eqB0 ?_
    | with_reducible refine DV.w_neB0 ?_
    | with_reducible refine DV.w_eqBB ?_
    | with_reducible refine DV.w_neBB ?_
    | with_reducible refine DV.w_eqNB ?_
    | with_reducible refine DV.w_neNB ?_
    | with_reducible refine DV.w_eqBN ?_
    | with_reducible refine DV.w_neBN ?_
    | with_reducible refine DV.w_eqT0 ?_
    | with_reducible refine DV.w_neT0 ?_
    | with_reducible refine DV.w_eqT ?_
    | with_reducible refine DV.w_neT ?_
    | with_reducible refine DV.w_gget ?_
    | with_reducible refine DV.w_dc ?_
    | with_reducible refine DV.w_dcN ?_
    | with_reducible refine DV.w_G ?_
    | with_reducible refine DV.w_gput ?_
    | with_reducible refine DV.w_gnew ?_
    | with_reducible refine DV.w_g1 ?_
    | with_reducible refine DV.w_ret ?_
    | with_reducible refine DV.w_slice ?_
    | with_reducible refine DV.w_part ?_
    | with_reducible refine DV.w_slToI (by omega) ?_
    | with_reducible refine DV.w_slFromI (by omega) ?_
    | with_reducible refine DV.w_slToBI (by omega) ?_
    | with_reducible refine DV.w_slFromBI (by omega) ?_
    | with_reducible refine DV.w_star ?_
    | with_reducible refine DV.w_starT ?_
    | with_reducible refine DV.w_starB ?_
    | with_reducible refine DV.w_starN ?_
    | with_reducible refine DV.w_ixR (by omega) ?_
    | with_reducible refine DV.w_ixRB (by omega) ?_
    | with_reducible refine DV.w_lrg ?_
    | with_reducible refine DV.w_trg ?_
    | with_reducible refine DV.w_rg (by omega) ?_
    | with_reducible refine DV.w_enum ?_
    | with_reducible refine DV.w_zip ?_
    | with_reducible refine DV.w_zip3 ?_
    | with_reducible refine DV.w_step ?_
    | with_reducible refine DV.w_stepB (by omega) ?_
    | with_reducible refine DV.w_srev ?_
    | with_reducible refine DV.w_srevT ?_
    | with_reducible refine DV.w_isTT ?_
    | with_reducible refine DV.w_ntTT ?_
    | with_reducible refine DV.w_isFT ?_
    | with_reducible refine DV.w_ntFT ?_
    | with_reducible refine DV.w_isTF ?_
    | with_reducible refine DV.w_ntTF ?_
    | with_reducible refine DV.w_isFF ?_
    | with_reducible refine DV.w_ntFF ?_
    | with_reducible refine DV.w_ixS (by omega) ?_
    | with_reducible refine DV.w_ix2 ?_
    | with_reducible refine DV.w_gget2 ?_
    | with_reducible refine DV.w_notInTs ?_
    | with_reducible refine DV.w_inTs ?_
    | with_reducible refine DV.w_inTsN ?_
    | with_reducible refine DV.w_sset ?_
    | with_reducible refine DV.w_ssetU (by omega) (by assumption) ?_
    | with_reducible refine DV.w_met ?_
    | with_reducible refine DV.w_itL ?_
    | with_reducible refine DV.w_two ?_
    | with_reducible refine DV.w_twoX ?_
    | with_reducible refine DV.w_neS ?_
    | with_reducible refine DV.w_eqS ?_
    | with_reducible refine DV.w_rev ?_
    | with_reducible refine DV.w_revN ?_
    | with_reducible refine DV.w_lset ?_
    | with_reducible refine DV.w_isNL ?_
    | with_reducible refine DV.w_isBL ?_
    | with_reducible refine DV.w_ntNL ?_
    | with_reducible refine DV.w_ntBL ?_
    | with_reducible refine DV.w_abs ?_
    | with_reducible refine DV.w_neBl ?_
    | with_reducible refine DV.w_eqBl ?_
    | with_reducible refine DV.w_eqIP ?_
    | with_reducible refine DV.w_neIP ?_
    | with_reducible refine DV.w_ix3 ?_
    | with_reducible refine DVR.w_neW ?_
    | with_reducible refine DVR.w_ixL (by omega) ?_
    | with_reducible refine DV.w_dcomp ?_
    | with_reducible refine DV.w_intB ?_
    | with_reducible refine DV.w_augIx (by with_unfolding_all exact rfl) ?_
    | with_reducible refine DV.w_inN ?_
    | with_reducible refine DV.w_notInN ?_
    | with_reducible refine DV.w_srcE ?_
    | with_reducible refine DV.w_srcV (by with_unfolding_all exact rfl) ?_
    | with_reducible refine DV.w_src (by with_unfolding_all exact rfl) ?_
    | with_reducible refine DV.w_rng1 ?_
    | with_reducible refine DV.w_rng2 ?_
    | with_reducible refine DV.w_rng2I (by omega) ?_
    | with_reducible refine DV.w_rngN (by omega) ?_
    | with_reducible refine DV.w_rngI (by omega) ?_
    | with_reducible refine DV.w_loopN ?_
    | with_reducible refine DV.w_loopC ?_
    | with_reducible refine DV.w_loopB ?_
    | with_reducible refine DV.w_loopR ?_
    | with_reducible refine DV.w_runN ?_
    | with_reducible refine DV.w_runR ?_
    | with_reducible refine DV.w_tg (by with_unfolding_all (simp only [DV.lockE, DV.unlockE, List.getElem?_cons_succ, List.getElem?_cons_zero, DV.wipeE, DV.gTupF, DV.gMore, DV.gNone, DV.gNm, List.set_cons_succ, List.set_cons_zero, List.length]; rfl)) ?_)
end DVL

namespace DV
open PySem L2
section
variable {P : RV → Prop} {f h : Env → DV.M RV} {ρ ρ' : Env} {Q : Out → Prop} {α : Type} {mk : α → D}
theorem w_isNL {ds : List D} (p : P (.d (.bool false))) : K2 gIs P (.n ds) (.d .none) := ⟨_, rfl, p⟩
theorem w_isBL {ds : List D} (p : P (.d (.bool false))) : K2 gIs P (.b ds) (.d .none) := ⟨_, rfl, p⟩
theorem w_ntNL {ds : List D} (p : P (.d (.bool true))) : K2 gIsNot P (.n ds) (.d .none) := ⟨_, rfl, p⟩
theorem w_ntBL {ds : List D} (p : P (.d (.bool true))) : K2 gIsNot P (.b ds) (.d .none) := ⟨_, rfl, p⟩
theorem w_abs {i : Int} (p : P (.d (.int (i.natAbs : Int)))) : KC gAbs P [.d (.int i)] := by
  refine ⟨.d (.int (i.natAbs : Int)), ?_, p⟩
  show some (RV.d (.int (if i < 0 then -i else i))) = _
  congr 3
  split <;> omega
theorem eq_blB (neg x y : Bool) : gEqB neg (.d (.bool x)) (.d (.bool y)) = some (.d (.bool (if neg then !decide (x = y) else decide (x = y)))) := by
  cases neg <;> cases x <;> cases y <;> rfl
theorem w_neBl {x y : Bool} (p : P (.d (.bool (!decide (x = y))))) : K2 gNe P (.d (.bool x)) (.d (.bool y)) := ⟨_, eq_blB true x y, p⟩
theorem w_eqBl {x y : Bool} (p : P (.d (.bool (decide (x = y))))) : K2 gEq P (.d (.bool x)) (.d (.bool y)) := ⟨_, eq_blB false x y, p⟩
theorem eq_ip (neg : Bool) (a b c d : Int) : gEqB neg (.d (.tuple [.int a, .int b])) (.d (.tuple [.int c, .int d])) = some (.d (.bool (if neg then !decide (a = c ∧ b = d) else decide (a = c ∧ b = d)))) := by
  have hs : ∀ a b : Int, SeqAt.shaped (.tuple [.int a, .int b]) = true := fun a b => DVL.shaped_intsT [a, b]
  show (if SeqAt.shaped (.tuple [.int a, .int b]) = true then if SeqAt.shaped (.tuple [.int c, .int d]) = true then some (RV.d (.bool (if neg then !PyData.eqv (.tuple [.int a, .int b]) (.tuple [.int c, .int d]) else PyData.eqv (.tuple [.int a, .int b]) (.tuple [.int c, .int d])))) else none else none) = _
  rw [if_pos (hs a b), if_pos (hs c d), eqvP]
theorem w_eqIP {a b c d : Int} (p : P (.d (.bool (decide (a = c ∧ b = d))))) : K2 gEq P (.d (.tuple [.int a, .int b])) (.d (.tuple [.int c, .int d])) := ⟨_, eq_ip false a b c d, p⟩
theorem w_neIP {a b c d : Int} (p : P (.d (.bool (!decide (a = c ∧ b = d))))) : K2 gNe P (.d (.tuple [.int a, .int b])) (.d (.tuple [.int c, .int d])) := ⟨_, eq_ip true a b c d, p⟩
theorem w_ix3 {d e g x : D} {ds : List D} (p : P (.d x)) : K2 gIx P (.d (.tuple (d :: e :: g :: x :: ds))) (.d (.int 3)) := by
  refine ⟨.d x, ?_, p⟩
  show (atI (d :: e :: g :: x :: ds) ((3 : Nat) : Int)).map RV.d = _
  rw [atI_nat (v := x) rfl]; rfl
end
end DV
namespace DVR
open PySem L2 DV DVL
/-- links as data -/
abbrev mkL (l : Lk) : D := .tuple [.int l.1, .int l.2.1, .int l.2.2.1, .int l.2.2.2]
/-- what waits -/
abbrev mkW (ls : List Lk) (s : Int) (p : List Int) : D := .tuple [.int (Hd ls s p), .int (wt (tim ls) p), .int (wt (rnd ls) p), ti p, ti (Mt4 ls s p)]
theorem at4_in {ls : List Lk} {i : Int} (h0 : 0 ≤ i) (h1 : i < (ls.length : Int)) : ls[i.toNat]? = some (at4 ls i) := by
  have h : i.toNat < ls.length := by omega
  unfold at4
  rw [List.getD_eq_getElem?_getD, List.getElem?_eq_getElem h]
  rfl
theorem canLay_W (ls : List Lk) (s : Int) : ∀ P : List (List Int), PyData.canLayAll0 (P.map (mkW ls s)) = true
  | [] => by simp [PyData.canLayAll0]
  | p :: P => by
    rw [List.map_cons, PyData.canLayAll0, canLay_W ls s P]
    have h1 := canLay_ints p
    have h2 := canLay_ints (Mt4 ls s p)
    simp [PyData.canLay0, PyData.canLayAll0, h1, h2]
theorem depth_W (ls : List Lk) (s : Int) : ∀ P : List (List Int), PyData.depthAll (P.map (mkW ls s)) ≤ 2
  | [] => by simp [PyData.depthAll]
  | p :: P => by
    rw [List.map_cons, PyData.depthAll]
    have h1 := depth_W ls s P
    have h2 : (mkW ls s p).depth ≤ 2 := by
      have a := depth_ints p
      have b := depth_ints (Mt4 ls s p)
      show PyData.depth (.tuple _) ≤ 2
      simp only [PyData.depth, PyData.depthAll, a, b]
      omega
    omega
theorem w_neW {P : RV → Prop} {ls : List Lk} {s : Int} {L : List (List Int)} (p : P (.d (.bool (!decide (L = []))))) : DV.K2 gNe P (.b (L.map (mkW ls s))) (.n []) := by
  refine ⟨_, ?_, p⟩
  have hs : SeqAt.shaped (.list (L.map (mkW ls s))) = true := by
    unfold SeqAt.shaped
    have h := depth_W ls s L
    rw [PyData.canLay0, canLay_W, PyData.depth]
    simp
    omega
  have hn : SeqAt.shaped (.list []) = true := rfl
  show (if SeqAt.shaped (.list (L.map (mkW ls s))) = true then if SeqAt.shaped (.list []) = true then some (RV.d (.bool (!PyData.eqv (.list (L.map (mkW ls s))) (.list [])))) else none else none) = _
  rw [if_pos hs, if_pos hn]
  have e : PyData.eqv (.list (L.map (mkW ls s))) (.list []) = decide (L = []) := by
    rw [PyData.eqv]
    cases L with
    | nil => rfl
    | cons a L => simp [PyData.eqvAll]
  rw [e]
theorem w_ixL {P : RV → Prop} {ls : List Lk} {j : Int} (c : 0 ≤ j ∧ j < ls.length) (p : P (.d (mkL (at4 ls j)))) : DV.K2 gIx P (.d (.tuple (ls.map mkL))) (.d (.int j)) := w_ixM c.1 (at4_in c.1 c.2) p
end DVR

namespace DVR
open PySem L2 DV DVL
/-- where a move stands -/
def pl (o : List Int) (v : Int) : Int := (o.idxOf v : Nat)
def lt1 (o : List Int) (m : Int) : Int := if pl o (m + 1) < pl o m then 1 else 0
/-- the links of the order -/
def oLk (ms : List Int) (wk : Int) (o : List Int) (k : Int) : Lk := (val o k, val o ((k + 1) % (o.length : Int)), val ms (val o k) + wk * ((val o k + 1 - val o ((k + 1) % (o.length : Int))).natAbs : Int), if k + 1 = (o.length : Int) then 1 else 0)
def mLk (ts ms o : List Int) (m : Int) : Lk := (m, m + 1, val ms m + val ts m, lt1 o m)
def LL (ts ms : List Int) (wk : Int) (o : List Int) : List Lk := (rngI 0 o.length).map (oLk ms wk o) ++ (rngI 0 ts.length).map (mLk ts ms o)
section
variable {ts ms o : List Int} {wk : Int}
/-- what any of the links is like -/
structure L2 (ts o : List Int) (l : Lk) : Prop where
  a : 0 ≤ l.1 ∧ l.1 < ((ts.length + 1 : Nat) : Int)
  b : 0 ≤ l.2.1 ∧ l.2.1 < ((ts.length + 1 : Nat) : Int)
  t : 0 ≤ l.2.2.1 ∧ l.2.2.1 ≤ 100
  r : 0 ≤ l.2.2.2 ∧ l.2.2.2 ≤ 3
  k : pl o l.2.1 ≤ pl o l.1 → 1 ≤ l.2.2.2
end
end DVR

namespace DV
open PySem L2
def KDc (vs : List Nat) (tg : D → Env → Option Env) (t : Env → M Bool) (kf vf : Env → DV.M RV) (ρ : Env) (P : RV → Prop) (q : List D × Option Nat) : Prop := q.1.length ≤ 50000 ∧ Gives (dcF tg t kf vf (wipeE ρ vs) q.1 []) fun kv => P (.gn ⟨false, kv⟩)
section
variable {α : Type} {P : RV → Prop} {ρ : Env} {fi : Env → M (List D × Option Nat)} {vs : List Nat} {tg : D → Env → Option Env} {t : Env → M Bool} {kf vf : Env → DV.M RV}
theorem w_dcomp (p : Gives (fi ρ) (KDc vs tg t kf vf ρ P)) : Gives (eDc fi vs tg t kf vf ρ) P := by
  unfold eDc
  refine Gives.bnd p fun q ⟨h1, h2⟩ => ?_
  rw [if_pos h1]
  exact Gives.bnd h2 fun kv h => Gives.ret h
theorem w_intB {b : Bool} (p : P (.d (.int (if b = true then 1 else 0)))) : KC gInt P [.d (.bool b)] := ⟨.d (.int (if b = true then 1 else 0)), by cases b <;> rfl, p⟩
end
end DV


namespace DVS
open PySem L2 DV DVL DVB
section
variable {n : Nat} {P : List (Int × Int)}
theorem abL_eq (G : Prs n P) (K : List Int) : ((rngI 0 n).filter fun j => !K.elem j && decide ((P.filter fun p => decide (p.2 = j) && !K.elem p.1) = [])) = Ab P n K := by
  have e : Ab P n K = (rngI 0 n).filter fun j => !abB P (lfJ n K) j && !K.elem j := by
    unfold Ab
    show ((rngI 0 n).filter fun j => !K.elem j).filter _ = _
    rw [List.filter_filter]
  rw [e]
  refine List.filter_congr fun j hj => ?_
  rw [Bool.and_comm]
  congr 1
  rw [Bool.eq_iff_iff]
  unfold abB
  rw [decide_eq_true_eq, List.filter_eq_nil_iff, Bool.not_eq_true', List.any_eq_false]
  refine ⟨fun h p hp => ?_, fun h p hp => ?_⟩
  · have h1 := h p hp
    rw [Bool.and_eq_true, decide_eq_true_eq, List.elem_iff, mem_lfJ]
    rintro ⟨a, c⟩
    rw [Bool.and_eq_true, decide_eq_true_eq, Bool.not_eq_true'] at h1
    exact h1 ⟨a, Classical.byContradiction fun z => c.2 (List.mem_of_elem_eq_true (by cases e : K.elem p.1 with | true => rfl | false => exact absurd e z))⟩
  · have h1 := h p hp
    rw [Bool.and_eq_true, decide_eq_true_eq, List.elem_iff, mem_lfJ] at h1
    rw [Bool.and_eq_true, decide_eq_true_eq, Bool.not_eq_true']
    rintro ⟨a, c⟩
    exact h1 ⟨a, (G.rg p hp).1, fun z => by rw [List.elem_eq_true_of_mem z] at c; cases c⟩
end
end DVS

namespace DV
open PySem L2 DVL
section
variable {ρ ρ' : Env} {Q : Out → Prop} {P : RV → Prop} {f : Env → M RV}
/-- a list against an empty one -/
theorem w_eqE {ds : List D} (h : SeqAt.shaped (.list ds) = true) (p : P (.d (.bool (decide (ds = []))))) : K2 gEq P (.n ds) (.n []) := by
  refine ⟨_, ?_, p⟩
  show (if SeqAt.shaped (.list ds) = true then if SeqAt.shaped (.list []) = true then some (RV.d (.bool (PyData.eqv (.list ds) (.list [])))) else none else none) = _
  rw [if_pos h, if_pos (by decide), PyData.eqv]
  cases ds with
  | nil => rfl
  | cons a ds => rfl
theorem map_nilD {α β : Type} (L : List α) (g : α → β) : decide (L.map g = []) = decide (L = []) := decide_eq_decide.mpr List.map_eq_nil_iff
end
end DV


namespace DVS
open PySem L2 DV DVL DVB
def fl (k : Int) (ds : List (List Int)) : List (Int × Int) := (enI k ds).flatMap fun q => q.2.map fun j => (j, q.1)
theorem fl_cons (k : Int) (d : List Int) (ds : List (List Int)) : fl k (d :: ds) = d.map (fun j => (j, k)) ++ fl (k + 1) ds := rfl
theorem fl_keys : ∀ (k : Int) (ds : List (List Int)), (fl k ds).map (·.1) = ds.flatten
  | k, [] => rfl
  | k, d :: ds => by
    rw [fl_cons, List.map_append, fl_keys (k + 1) ds, List.map_map, List.flatten_cons]
    congr 1
    exact List.map_id' d
theorem fl_app : ∀ (k : Int) (us vs : List (List Int)), fl k (us ++ vs) = fl k us ++ fl (k + (us.length : Nat)) vs
  | k, [], vs => by
    show fl k vs = fl (k + 0) vs
    rw [Int.add_zero]
  | k, d :: us, vs => by
    rw [List.cons_append, fl_cons, fl_cons, fl_app (k + 1) us vs, List.append_assoc, List.length_cons]
    congr 3
    omega
theorem fl_in {k : Int} {us vs : List (List Int)} {d : List Int} {j : Int} (h : j ∈ d) : (j, k + (us.length : Nat)) ∈ fl k (us ++ d :: vs) := by
  rw [fl_app, fl_cons]
  exact List.mem_append_right _ (List.mem_append_left _ (List.mem_map.mpr ⟨j, h, rfl⟩))
section
variable {n : Nat} {P : List (Int × Int)} {b : Nat} {ds : List (List Int)}
theorem pl_at : ∀ {us vs : List (List Int)} {d S : List Int}, Pl n P b S (us ++ d :: vs) → DayOk n P b (S ++ us.flatten) d
  | [], vs, d, S, h => by
    cases h with
    | cons h1 h2 => rw [List.flatten_nil, List.append_nil]; exact h1
  | u :: us, vs, d, S, h => by
    cases h with
    | cons h1 h2 => rw [List.flatten_cons, ← List.append_assoc]; exact pl_at h2
theorem in_day {ds : List (List Int)} {j : Int} (h : j ∈ ds.flatten) : ∃ us d vs, ds = us ++ d :: vs ∧ j ∈ d := by
  obtain ⟨d, hd, hj⟩ := List.mem_flatten.mp h
  obtain ⟨us, vs, e⟩ := List.append_of_mem hd
  exact ⟨us, d, vs, e, hj⟩
/-- each job behind those ahead of it -/
theorem Cp.lt (G : Prs n P) (C : Cp n P b ds) {p : Int × Int} (hp : p ∈ P) : ∃ a c : Int, (p.1, a) ∈ fl 0 ds ∧ (p.2, c) ∈ fl 0 ds ∧ a < c := by
  have hr := G.rg p hp
  obtain ⟨us, d, vs, e, hj⟩ := in_day (C.all.mem_iff.mpr ((mem_rngI p.2 0 n).mpr (by omega)))
  subst e
  have hd := pl_at C.pl
  rw [List.nil_append] at hd
  have h1 := ((mem_Ab G).mp (hd.able _ hj)).2.2 p hp rfl
  obtain ⟨us1, d1, vs1, e1, hj1⟩ := in_day h1
  subst e1
  refine ⟨0 + (us1.length : Nat), 0 + ((us1 ++ d1 :: vs1).length : Nat), ?_, fl_in hj, ?_⟩
  · rw [List.append_assoc, List.cons_append]
    exact fl_in hj1
  · rw [List.length_append, List.length_cons]
    omega
theorem Cp.keys (C : Cp n P b ds) : ((fl 0 ds).map (·.1)).Nodup := by
  rw [fl_keys]
  exact C.all.nodup_iff.mpr (rngI_nodup 0 n)
theorem Cp.day (C : Cp n P b ds) {d : List Int} (h : d ∈ ds) : d.length ≤ b ∧ ∀ j ∈ d, 0 ≤ j ∧ j < (n : Int) := by
  obtain ⟨us, vs, e⟩ := List.append_of_mem h
  have hd := pl_at (e ▸ C.pl)
  refine ⟨hd.len, fun j hj => ?_⟩
  have := (mem_rngI j 0 n).mp (C.all.mem_iff.mp (List.mem_flatten.mpr ⟨d, h, hj⟩))
  omega
end
end DVS

namespace DVS
open PySem L2 DV DVL DVB
section
variable {n : Nat} {ch : List Int}
variable {P : List (Int × Int)} {b : Nat} {lv : Int → Int}
/-- the bound by levels -/
def cntL (n : Nat) (lv : Int → Int) (L : Int) : Nat := (rem n lv [] L).length
structure Bd (n : Nat) (b : Nat) (lv : Int → Int) (F : Int) : Prop where
  ge : ∀ L : Nat, 1 ≤ cntL n lv L → (L : Int) + -(-(cntL n lv L : Int) / (b : Int)) ≤ F
  at_ : ∃ L : Nat, F = (L : Int) + -(-(cntL n lv L : Int) / (b : Int)) ∧ (1 ≤ cntL n lv L ∨ ∃ K : Nat, K + 1 = L ∧ 1 ≤ cntL n lv K)
theorem Bd.low (hb : 1 ≤ b) (G : Prs n P) (V : Lvl n P lv) {F : Int} (B : Bd n b lv F) {ds : List (List Int)} (C : Cp n P b ds) : F ≤ (ds.length : Int) := by
  obtain ⟨L, e, h⟩ := B.at_
  have hl := DVS.low G V ds [] Dn.nil C.pl fun j h0 h1 => by
    rw [List.nil_append]
    exact C.all.mem_iff.mpr ((mem_rngI _ _ _).mpr (by omega))
  have hL := hl L
  have pos : ∀ K : Nat, 1 ≤ cntL n lv K → K < ds.length := fun K hK => Nat.lt_of_not_le fun hc => by
    have := (hl K).2 hc
    unfold cntL at hK
    rw [this] at hK
    exact absurd hK (by decide)
  have hLd : L ≤ ds.length := by
    rcases h with h | ⟨K, e2, h⟩
    · exact Nat.le_of_lt (pos L h)
    · have := pos K h; omega
  have h1 : (cntL n lv L : Int) ≤ (b : Int) * ((ds.length : Int) - (L : Int)) := by
    have h2 : cntL n lv L ≤ b * (ds.length - L) := hL.1
    have h3 : ((b * (ds.length - L) : Nat) : Int) = (b : Int) * ((ds.length : Int) - (L : Int)) := by
      rw [Int.natCast_mul, Int.natCast_sub hLd]
    omega
  have h4 : -((ds.length : Int) - (L : Int)) ≤ -(cntL n lv L : Int) / (b : Int) := by
    rw [Int.le_ediv_iff_mul_le (by omega), Int.neg_mul, Int.mul_comm]
    omega
  omega
theorem Bd.up (hb : 1 ≤ b) (G : Prs n P) (T : Tree P) (V : Lvl n P lv) {F : Int} (B : Bd n b lv F) {ds : List (List Int)} (H : Full n P b lv ds) (hn : 1 ≤ n) : (ds.length : Int) ≤ F := by
  rcases List.eq_nil_or_concat ds with e | ⟨us, d, e⟩
  · have := H.all.length_eq
    rw [e, rngI_len] at this
    rw [← this] at hn
    exact absurd hn (by decide)
  · rw [List.concat_eq_append] at e
    subst e
    have hd := H.pos d (by simp)
    obtain ⟨j, hj⟩ := List.exists_mem_of_ne_nil d hd
    have hnd := H.all.nodup_iff.mpr (rngI_nodup 0 n)
    rw [List.flatten_append, List.flatten_cons, List.flatten_nil, List.append_nil] at hnd
    have hjr := (mem_rngI j 0 n).mp (H.all.mem_iff.mp (List.mem_flatten.mpr ⟨d, by simp, hj⟩))
    have hjr : 0 ≤ j ∧ j < (n : Int) := by omega
    have hno : j ∉ us.flatten := fun z => (List.nodup_append.mp hnd).2.2 j z j hj rfl
    have := DVS.up G T V hb (F := F) (fun L c hc h1 k hk => by
      have h2 := B.ge L (by unfold cntL; omega)
      have h3 : -(cntL n lv L : Int) / (b : Int) < -(k : Int) := by
        rw [Int.ediv_lt_iff_lt_mul (by omega), Int.neg_mul]
        have h4 : ((b * k : Nat) : Int) = (k : Int) * (b : Int) := by rw [Int.natCast_mul, Int.mul_comm]
        have h5 : c ≤ cntL n lv L := hc
        omega
      omega) us.length us rfl H.hp.split.1 j hjr hno
    have h1 := V.ge j hjr.1 hjr.2
    rw [List.length_append, List.length_singleton]
    omega
theorem Full.le (hn : n ≤ 10) {ds : List (List Int)} (H : Full n P b lv ds) : ds.length ≤ 10 := by
  have h1 := flat_ge H.pos
  have h2 := H.all.length_eq
  rw [rngI_len] at h2
  omega
end
end DVS

namespace DVS
open PySem L2 DV DVL DVB
/-- the parts of so many -/
def fdI (b : Nat) (A : List Int) : List (List Int) := (ptI (min A.length b) A).filter fun p => decide (p.length = min A.length b)
theorem mem_fdI {b : Nat} {A p : List Int} (h : p ∈ fdI b A) : p.Sublist A ∧ p.length = min A.length b := by
  unfold fdI at h
  rw [List.mem_filter, decide_eq_true_eq] at h
  exact ⟨(pt_sub _ _ _ h.1).1, h.2⟩
theorem sub_filter {A p : List Int} (nd : A.Nodup) (h : p.Sublist A) : A.filter (fun j => p.elem j) = p := by
  induction h with
  | slnil => rfl
  | @cons l1 l2 a hs ih =>
    rw [List.nodup_cons] at nd
    have h1 : (l1.elem a) = false := by
      cases e : l1.elem a with
      | false => rfl
      | true => exact absurd (hs.mem (List.mem_of_elem_eq_true e)) nd.1
    rw [List.filter_cons_of_neg (by rw [h1]; exact Bool.false_ne_true)]
    exact ih nd.2
  | @cons_cons l1 l2 a hs ih =>
    rw [List.nodup_cons] at nd
    have h1 : ((a :: l1).elem a) = true := List.elem_eq_true_of_mem List.mem_cons_self
    rw [List.filter_cons_of_pos (p := fun j => (a :: l1).elem j) h1]
    congr 1
    refine Eq.trans (List.filter_congr fun j hj => ?_) (ih nd.2)
    have hne : j ≠ a := fun e => nd.1 (e ▸ hj)
    rw [Bool.eq_iff_iff, List.elem_iff, List.elem_iff, List.mem_cons]
    exact ⟨fun z => z.elim (fun z => absurd z hne) id, .inr⟩
theorem in_fdI {b : Nat} {A p : List Int} (nd : A.Nodup) (h : p.Sublist A) (hl : p.length = min A.length b) : p ∈ fdI b A := by
  unfold fdI
  rw [List.mem_filter, decide_eq_true_eq]
  refine ⟨?_, hl⟩
  have := pt_filter (min A.length b) (fun j => p.elem j) A (by rw [sub_filter nd h]; omega)
  rwa [sub_filter nd h] at this
/-- a part made larger -/
theorem sub_more : ∀ {A c : List Int} {m : Nat}, c.Sublist A → c.length ≤ m → m ≤ A.length → ∃ d : List Int, d.Sublist A ∧ (∀ x ∈ c, x ∈ d) ∧ d.length = m := by
  intro A
  induction A with
  | nil =>
    intro c m hs hc hm
    exact ⟨[], List.Sublist.refl _, fun x hx => hs.mem hx, by simp at hm; exact hm.symm⟩
  | cons a A ih =>
    intro c m hs hc hm
    rw [List.length_cons] at hm
    cases hs with
    | cons _ h =>
      by_cases e : m ≤ A.length
      · obtain ⟨d, d1, d2, d3⟩ := ih h hc e
        exact ⟨d, d1.cons a, d2, d3⟩
      · exact ⟨a :: A, List.Sublist.refl _, fun x hx => List.mem_cons_of_mem _ (h.mem hx), by rw [List.length_cons]; omega⟩
    | cons_cons _ h =>
      rename_i c'
      rw [List.length_cons] at hc
      obtain ⟨d, d1, d2, d3⟩ := ih h (m := m - 1) (by omega) (by omega)
      refine ⟨a :: d, d1.cons_cons a, fun x hx => ?_, by rw [List.length_cons]; omega⟩
      rcases List.mem_cons.mp hx with z | z
      · rw [z]; exact List.mem_cons_self
      · exact List.mem_cons_of_mem _ (d2 x z)
/-- days that are full each -/
inductive Fp (n : Nat) (P : List (Int × Int)) (b : Nat) : List Int → List (List Int) → Prop
  | nil {S : List Int} : Fp n P b S []
  | cons {S day : List Int} {ds : List (List Int)} : day ∈ fdI b (Ab P n S) → Fp n P b (S ++ day) ds → Fp n P b S (day :: ds)
section
variable {n : Nat} {P : List (Int × Int)} {b : Nat}
theorem fd_ok {S day : List Int} (h : day ∈ fdI b (Ab P n S)) : DayOk n P b S day := by
  obtain ⟨h1, h2⟩ := mem_fdI h
  exact ⟨fun j hj => h1.mem hj, (Ab_nodup P n S).sublist h1, by omega⟩
theorem Fp.pl : ∀ {ds : List (List Int)} {S : List Int}, Fp n P b S ds → Pl n P b S ds
  | [], _, _ => .nil
  | _ :: _, _, h => by
    cases h with
    | cons h1 h2 => exact .cons (fd_ok h1) h2.pl
/-- full days are no more than any days -/
theorem full_le (G : Prs n P) : ∀ (ds : List (List Int)) (S S' : List Int), Dn n P S → Dn n P S' → (∀ x ∈ S, x ∈ S') → Pl n P b S ds → (∀ j, 0 ≤ j → j < (n : Int) → j ∈ S ++ ds.flatten) → ∃ es : List (List Int), Fp n P b S' es ∧ es.length ≤ ds.length ∧ ∀ j, 0 ≤ j → j < (n : Int) → j ∈ S' ++ es.flatten
  | [], S, S', hS, hS', hss, hp, hf => by
    refine ⟨[], .nil, Nat.le_refl _, fun j h0 h1 => ?_⟩
    have := hf j h0 h1
    rw [List.flatten_nil, List.append_nil] at this
    exact List.mem_append_left _ (hss j this)
  | d :: ds, S, S', hS, hS', hss, hp, hf => by
    cases hp with
    | cons h1 h2 =>
      have hc := sub_filter (A := Ab P n S') (Ab_nodup P n S') (p := (Ab P n S').filter fun j => d.elem j) List.filter_sublist
      have hcs : ((Ab P n S').filter fun j => d.elem j).Sublist (Ab P n S') := List.filter_sublist
      have hcl : ((Ab P n S').filter fun j => d.elem j).length ≤ min (Ab P n S').length b := by
        have a := hcs.length_le
        have c := nodup_leG ((Ab_nodup P n S').sublist hcs) (q := d) fun x hx => List.mem_of_elem_eq_true (List.mem_filter.mp hx).2
        have := h1.len
        omega
      obtain ⟨d', d1, d2, d3⟩ := sub_more hcs hcl (Nat.min_le_left ..)
      have hd' := in_fdI (b := b) (Ab_nodup P n S') d1 d3
      have hcov : ∀ x ∈ S ++ d, x ∈ S' ++ d' := fun x hx => by
        rcases List.mem_append.mp hx with z | z
        · exact List.mem_append_left _ (hss x z)
        · by_cases e : x ∈ S'
          · exact List.mem_append_left _ e
          · obtain ⟨a, _, c⟩ := (mem_Ab G).mp (h1.able x z)
            exact List.mem_append_right _ (d2 x (List.mem_filter.mpr ⟨(mem_Ab G).mpr ⟨a, e, fun p hp ep => hss _ (c p hp ep)⟩, List.elem_eq_true_of_mem z⟩))
      obtain ⟨es, e1, e2, e3⟩ := full_le G ds (S ++ d) (S' ++ d') (hS.add G h1) (hS'.add G (fd_ok hd')) hcov h2 fun j h0 h1 => by
        have := hf j h0 h1
        rwa [List.flatten_cons, ← List.append_assoc] at this
      refine ⟨d' :: es, .cons hd' e1, by rw [List.length_cons, List.length_cons]; omega, fun j h0 h1 => ?_⟩
      rw [List.flatten_cons, ← List.append_assoc]
      exact e3 j h0 h1
/-- full days that do all jobs -/
structure Fc (n : Nat) (P : List (Int × Int)) (b : Nat) (ds : List (List Int)) : Prop where
  fp : Fp n P b [] ds
  all : ds.flatten.Perm (rngI 0 n)
theorem Cp.full (G : Prs n P) {ds : List (List Int)} (C : Cp n P b ds) : ∃ es, Fc n P b es ∧ es.length ≤ ds.length := by
  obtain ⟨es, e1, e2, e3⟩ := full_le G ds [] [] Dn.nil Dn.nil (fun x hx => hx) C.pl fun j h0 h1 => by
    rw [List.nil_append]
    exact C.all.mem_iff.mpr ((mem_rngI _ _ _).mpr (by omega))
  have hD := Dn.pl G (b := b) (Dn.nil (n := n) (P := P)) e1.pl
  rw [List.nil_append] at hD e3
  exact ⟨es, ⟨e1, nodup_perm hD.nd (fun j hj => (mem_rngI _ _ _).mpr (by have := hD.rg j hj; omega)) (nodup_leG (rngI_nodup 0 n) fun j hj => by have := (mem_rngI _ _ _).mp hj; exact e3 j (by omega) (by omega))⟩, e2⟩
end
end DVS


namespace DVS
open PySem L2 DV DVL DVB
/-- what days behind others tell: the day less the due day -/
def latL (du : List Int) (k : Int) (d : List Int) : List Int := d.map fun j => k - val du j
def LL (du : List Int) (ds : List (List Int)) : List Int := (fl 1 ds).map fun q => q.2 - val du q.1
theorem LL_snoc {du : List Int} {ds : List (List Int)} {d : List Int} : LL du (ds ++ [d]) = LL du ds ++ latL du ((ds.length : Nat) + 1) d := by
  unfold LL latL
  rw [fl_app, List.map_append]
  congr 1
  rw [show fl (1 + (ds.length : Nat)) [d] = d.map (fun j => (j, 1 + ((ds.length : Nat) : Int))) ++ [] from rfl, List.append_nil, List.map_map]
  refine List.map_congr_left fun j _ => ?_
  show 1 + ((ds.length : Nat) : Int) - val du j = _
  omega
def MxL (L : List Int) (m : Int) : Prop := m ∈ L ∧ ∀ x ∈ L, x ≤ m
/-- days by a choice of each -/
inductive Pc (C : List Int → List (List Int)) : List Int → List (List Int) → Prop
  | nil {S : List Int} : Pc C S []
  | cons {S day : List Int} {ds : List (List Int)} : day ∈ C S → Pc C (S ++ day) ds → Pc C S (day :: ds)
theorem pc_snoc {C : List Int → List (List Int)} {day : List Int} : ∀ {ds : List (List Int)} {S : List Int}, Pc C S (ds ++ [day]) ↔ Pc C S ds ∧ day ∈ C (S ++ ds.flatten)
  | [], S => by
    rw [List.flatten_nil, List.append_nil, List.nil_append]
    exact ⟨fun h => by cases h with | cons h1 h2 => exact ⟨.nil, h1⟩, fun h => .cons h.2 .nil⟩
  | d :: ds, S => by
    rw [List.cons_append, List.flatten_cons, ← List.append_assoc]
    constructor
    · intro h
      cases h with
      | cons h1 h2 =>
        obtain ⟨a, c⟩ := pc_snoc.mp h2
        exact ⟨.cons h1 a, c⟩
    · rintro ⟨h, c⟩
      cases h with
      | cons h1 h2 => exact .cons h1 (pc_snoc.mpr ⟨h2, c⟩)
theorem pc_app {C : List Int → List (List Int)} : ∀ {us vs : List (List Int)} {S : List Int}, Pc C S (us ++ vs) → Pc C S us ∧ Pc C (S ++ us.flatten) vs
  | [], vs, S, h => by rw [List.flatten_nil, List.append_nil]; exact ⟨.nil, h⟩
  | d :: us, vs, S, h => by
    cases h with
    | cons h1 h2 =>
      obtain ⟨a, c⟩ := pc_app h2
      rw [List.flatten_cons, ← List.append_assoc]
      exact ⟨.cons h1 a, c⟩
section
variable {n : Nat} {C : List Int → List (List Int)} {du B0 : List Int} {ρ : Type} {lt : ρ → Option Int} {W : ρ → List (List Int) → Prop}
/-- the value held behind days -/
def LateIs (B0 du : List Int) (ds : List (List Int)) : Option Int → Prop
  | none => ds = []
  | some x => MxL (B0 ++ LL du ds) x
def LB (B0 : List Int) : Option Int → List Int
  | none => B0
  | some x => [x]
theorem late_next {ds : List (List Int)} {d : List Int} {l : Option Int} {y : Int} (h : LateIs B0 du ds l) (m : MxL (LB B0 l ++ latL du ((ds.length : Nat) + 1) d) y) : MxL (B0 ++ LL du (ds ++ [d])) y := by
  obtain ⟨m1, m2⟩ := m
  rw [LL_snoc, ← List.append_assoc]
  cases l with
  | none =>
    have h : ds = [] := h
    subst h
    have e : B0 ++ LL du [] = B0 := List.append_nil B0
    rw [e]
    exact ⟨m1, m2⟩
  | some x =>
    obtain ⟨h1, h2⟩ := (show MxL (B0 ++ LL du ds) x from h)
    refine ⟨?_, fun z hz => ?_⟩
    · rcases List.mem_append.mp m1 with z | z
      · rw [List.mem_singleton.mp z]
        exact List.mem_append_left _ h1
      · exact List.mem_append_right _ z
    · rcases List.mem_append.mp hz with q | q
      · have a := h2 z q
        have b := m2 x (List.mem_append_left _ (List.mem_singleton.mpr rfl))
        omega
      · exact m2 z (List.mem_append_right _ q)
/-- what is said of a row: its key, its value -/
structure Row (n : Nat) (C : List Int → List (List Int)) (du B0 : List Int) (lt : ρ → Option Int) (W : ρ → List (List Int) → Prop) (t : Nat) (o : List Int × ρ) (ds : List (List Int)) : Prop where
  pc : Pc C [] ds
  len : ds.length = t
  key : o.1 = DV.sortI ds.flatten
  late : LateIs B0 du ds (lt o.2)
  w : W o.2 ds
/-- the rows of a turn -/
structure Rw (n : Nat) (C : List Int → List (List Int)) (du B0 : List Int) (lt : ρ → Option Int) (W : ρ → List (List Int) → Prop) (t : Nat) (M : List (List Int × ρ)) : Prop where
  uq : Uq M
  ok : ∀ e ∈ M, (∃ ds, Row n C du B0 lt W t e ds) ∧ e.1.length < n
  cov : ∀ ds, Pc C [] ds → ds.length = t → ds.flatten.length < n → ∃ e ∈ M, e.1 = DV.sortI ds.flatten ∧ ∀ x, lt e.2 = some x → ∃ y ∈ B0 ++ LL du ds, x ≤ y
/-- the best row of all jobs -/
structure Bs (n : Nat) (C : List Int → List (List Int)) (du B0 : List Int) (lt : ρ → Option Int) (W : ρ → List (List Int) → Prop) (t u : Nat) (best : Option ρ) : Prop where
  ok : ∀ x, best = some x → ∃ (k : Nat) (ds : List (List Int)), k ≤ u ∧ Pc C [] ds ∧ ds.length = k ∧ ds.flatten.length = n ∧ (∃ y, lt x = some y ∧ MxL (B0 ++ LL du ds) y) ∧ W x ds
  cov : ∀ ds, Pc C [] ds → ds.flatten.length = n → ds.length ≤ t → ∃ x y, best = some x ∧ lt x = some y ∧ ∃ z ∈ B0 ++ LL du ds, y ≤ z
def leR (lt : ρ → Option Int) (a b : ρ) : Prop := (lt a).getD 0 ≤ (lt b).getD 0
/-- within a turn: what was offered -/
structure In (n : Nat) (C : List Int → List (List Int)) (du B0 : List Int) (lt : ρ → Option Int) (W : ρ → List (List Int) → Prop) (t : Nat) (dn dc N : List (List Int × ρ)) (best : Option ρ) : Prop where
  ut : UT (leR lt) dn N
  ok : ∀ o ∈ dn, (∃ ds, Row n C du B0 lt W (t + 1) o ds) ∧ o.1.length < n ∧ (lt o.2).isSome = true
  bs : Bs n C du B0 lt W t (t + 1) best
  cc : ∀ o ∈ dc, o.1.length = n ∧ (lt o.2).isSome = true ∧ ∃ x, best = some x ∧ leR lt x o.2
  ob : ∀ x, best = some x → (lt x).isSome = true
/-- an offer of a row by a day -/
def Off (du B0 : List Int) (lt : ρ → Option Int) (t : Nat) (e o : List Int × ρ) (day : List Int) : Prop :=
  o.1 = DV.sortI (e.1 ++ day) ∧ ∃ y, lt o.2 = some y ∧ MxL (LB B0 (lt e.2) ++ latL du ((t : Nat) + 1) day) y
theorem Off.row (hC : ∀ S K, (∀ x, x ∈ S ↔ x ∈ K) → C S = C K) {t : Nat} {e o : List Int × ρ} {day : List Int} {ds : List (List Int)} (R : Row n C du B0 lt W t e ds) (h : Off du B0 lt t e o day) (hd : day ∈ C e.1) (hw : W o.2 (ds ++ [day])) : Row n C du B0 lt W (t + 1) o (ds ++ [day]) := by
  obtain ⟨h1, y, h2, h3⟩ := h
  have ep := DV.sortI_perm ds.flatten
  have hA : C e.1 = C ds.flatten := hC _ _ fun x => by rw [R.key]; exact ep.mem_iff
  refine ⟨pc_snoc.mpr ⟨R.pc, by rw [List.nil_append, ← hA]; exact hd⟩, by rw [List.length_append, List.length_singleton, R.len], ?_, ?_, hw⟩
  · rw [h1, R.key, srt_app ep, List.flatten_append, List.flatten_cons, List.flatten_nil, List.append_nil]
  · rw [h2]
    refine late_next R.late ?_
    rw [R.len]
    exact h3
theorem In.first {t : Nat} {best : Option ρ} (B : Bs n C du B0 lt W t t best) : In n C du B0 lt W t [] [] [] best :=
  ⟨UT.nil, fun _ h => (nomatch h), ⟨fun x hx => by
    obtain ⟨k, ds, h1, h2⟩ := B.ok x hx
    exact ⟨k, ds, by omega, h2⟩, B.cov⟩, fun _ h => (nomatch h), fun x hx => by
    obtain ⟨_, _, _, _, _, _, ⟨y, h, _⟩, _⟩ := B.ok x hx
    rw [h]; rfl⟩
theorem leR_tr (lt : ρ → Option Int) (a b c : ρ) (h1 : leR lt a b) (h2 : leR lt b c) : leR lt a c := by unfold leR at *; omega
theorem leR_rf (lt : ρ → Option Int) (a : ρ) : leR lt a a := Int.le_refl _
theorem In.put {t : Nat} {dn dc N : List (List Int × ρ)} {best : Option ρ} (I : In n C du B0 lt W t dn dc N best) {o : List Int × ρ} {ds : List (List Int)} (R : Row n C du B0 lt W (t + 1) o ds) (hs : (lt o.2).isSome = true) (hl : o.1.length < n)
    (h : ∀ b, getA N o.1 = some b → leR lt o.2 b) : In n C du B0 lt W t (dn ++ [o]) dc (putA N o.1 o.2) best :=
  ⟨I.ut.put (leR_tr lt) (leR_rf lt) h, fun q hq => (List.mem_append.mp hq).elim (I.ok q) fun z => by rw [List.mem_singleton.mp z]; exact ⟨⟨ds, R⟩, hl, hs⟩, I.bs, I.cc, I.ob⟩
theorem In.skip {t : Nat} {dn dc N : List (List Int × ρ)} {best : Option ρ} (I : In n C du B0 lt W t dn dc N best) {o : List Int × ρ} {ds : List (List Int)} {b : ρ} (R : Row n C du B0 lt W (t + 1) o ds) (hs : (lt o.2).isSome = true) (hl : o.1.length < n)
    (h : getA N o.1 = some b) (hle : leR lt b o.2) : In n C du B0 lt W t (dn ++ [o]) dc N best :=
  ⟨I.ut.skip h hle, fun q hq => (List.mem_append.mp hq).elim (I.ok q) fun z => by rw [List.mem_singleton.mp z]; exact ⟨⟨ds, R⟩, hl, hs⟩, I.bs, I.cc, I.ob⟩
/-- a row of all jobs -/
theorem In.best {t : Nat} {dn dc N : List (List Int × ρ)} {best : Option ρ} (I : In n C du B0 lt W t dn dc N best) {o : List Int × ρ} {ds : List (List Int)} (R : Row n C du B0 lt W (t + 1) o ds) {y : Int} (hs : lt o.2 = some y) (hl : o.1.length = n)
    {new : Option ρ} (h : (new = some o.2 ∧ ∀ x, best = some x → leR lt o.2 x) ∨ (∃ x, best = some x ∧ new = best ∧ leR lt x o.2)) : In n C du B0 lt W t dn (dc ++ [o]) N new := by
  have hfl : ds.flatten.length = n := by rw [← hl, R.key]; exact (DV.sortI_perm _).length_eq.symm
  rcases h with ⟨h1, h2⟩ | ⟨x, h1, h2, h3⟩
  · refine ⟨I.ut, I.ok, ⟨fun x hx => ?_, fun ds2 p1 p2 p3 => ?_⟩, fun q hq => ?_, fun x hx => ?_⟩
    · rw [h1] at hx
      cases hx
      have := R.late
      rw [hs] at this
      exact ⟨t + 1, ds, Nat.le_refl _, R.pc, R.len, hfl, ⟨y, hs, this⟩, R.w⟩
    · obtain ⟨x, v, e1, e2, z, hz, hv⟩ := I.bs.cov ds2 p1 p2 p3
      have := h2 x e1
      unfold leR at this
      rw [hs, e2] at this
      exact ⟨o.2, y, h1, hs, z, hz, by have : y ≤ v := this; omega⟩
    · rcases List.mem_append.mp hq with z | z
      · obtain ⟨a, b, x, e1, e2⟩ := I.cc q z
        exact ⟨a, b, o.2, h1, leR_tr lt _ _ _ (h2 x e1) e2⟩
      · rw [List.mem_singleton.mp z]
        exact ⟨hl, by rw [hs]; rfl, o.2, h1, leR_rf lt _⟩
    · rw [h1] at hx
      cases hx
      rw [hs]; rfl
  · subst h2
    refine ⟨I.ut, I.ok, I.bs, fun q hq => ?_, I.ob⟩
    rcases List.mem_append.mp hq with z | z
    · exact I.cc q z
    · rw [List.mem_singleton.mp z]
      exact ⟨hl, by rw [hs]; rfl, x, h1, h3⟩
/-- an offer that was made -/
def Had (du B0 : List Int) (lt : ρ → Option Int) (t : Nat) (dn dc : List (List Int × ρ)) (e : List Int × ρ) (day : List Int) : Prop := ∃ o, (o ∈ dn ∨ o ∈ dc) ∧ Off du B0 lt t e o day
theorem Had.more {t : Nat} {dn dc dn2 dc2 : List (List Int × ρ)} {e : List Int × ρ} {day : List Int} (h : Had du B0 lt t dn dc e day) : Had du B0 lt t (dn ++ dn2) (dc ++ dc2) e day := by
  obtain ⟨o, h1, h2⟩ := h
  exact ⟨o, h1.imp (List.mem_append_left _) (List.mem_append_left _), h2⟩
theorem mx_low {t : Nat} {e : List Int × ρ} {us ds : List (List Int)} {day : List Int} {y : Int} (hl : us.length = t) (R : Row n C du B0 lt W t e ds) (h : ∀ x, lt e.2 = some x → ∃ y ∈ B0 ++ LL du us, x ≤ y) (m : MxL (LB B0 (lt e.2) ++ latL du ((t : Nat) + 1) day) y) : ∃ z ∈ B0 ++ LL du (us ++ [day]), y ≤ z := by
  rw [LL_snoc, hl, ← List.append_assoc]
  rcases List.mem_append.mp m.1 with q | q
  · cases e1 : lt e.2 with
    | none =>
      rw [e1] at q
      exact ⟨y, List.mem_append_left _ (List.mem_append_left _ q), Int.le_refl _⟩
    | some x =>
      rw [e1] at q
      obtain ⟨z, hz, h2⟩ := h x e1
      exact ⟨z, List.mem_append_left _ hz, by rw [List.mem_singleton.mp q]; exact h2⟩
  · exact ⟨y, List.mem_append_right _ q, Int.le_refl _⟩
theorem In.fin (hC : ∀ S K, (∀ x, x ∈ S ↔ x ∈ K) → C S = C K) (hne : ∀ us day, Pc C [] us → us.flatten.length = n → day ∈ C us.flatten → day = []) (hmax : ∀ ds, Pc C [] ds → ds.flatten.length ≤ n) {t : Nat} {M dn dc N : List (List Int × ρ)} {best : Option ρ} (Q : Rw n C du B0 lt W t M) (I : In n C du B0 lt W t dn dc N best) (hall : ∀ e ∈ M, ∀ day ∈ C e.1, Had du B0 lt t dn dc e day) :
    Rw n C du B0 lt W (t + 1) N ∧ Bs n C du B0 lt W (t + 1) (t + 1) best := by
  have main : ∀ us day, Pc C [] (us ++ [day]) → us.length = t → us.flatten.length < n → ∃ o, (o ∈ dn ∨ o ∈ dc) ∧ o.1 = DV.sortI (us ++ [day]).flatten ∧ ∃ y, lt o.2 = some y ∧ ∃ z ∈ B0 ++ LL du (us ++ [day]), y ≤ z := fun us day p l h => by
    obtain ⟨p1, p2⟩ := pc_snoc.mp p
    rw [List.nil_append] at p2
    obtain ⟨e, he, ek, ev⟩ := Q.cov us p1 l h
    have ep := DV.sortI_perm us.flatten
    have hA : C e.1 = C us.flatten := hC _ _ fun x => by rw [ek]; exact ep.mem_iff
    obtain ⟨o, ho, h1, y, h2, h3⟩ := hall e he day (by rw [hA]; exact p2)
    obtain ⟨ds, R⟩ := (Q.ok e he).1
    exact ⟨o, ho, by rw [h1, ek, srt_app ep, List.flatten_append, List.flatten_cons, List.flatten_nil, List.append_nil], y, h2, mx_low l R ev h3⟩
  refine ⟨⟨I.ut.uq, fun e he => ⟨(I.ok e (I.ut.sub e he)).1, (I.ok e (I.ut.sub e he)).2.1⟩, fun ds p l h => ?_⟩, ⟨I.bs.ok, fun ds p h l => ?_⟩⟩
  · rcases List.eq_nil_or_concat ds with rfl | ⟨us, day, rfl⟩
    · cases l
    · rw [List.concat_eq_append] at *
      rw [List.length_append, List.length_singleton] at l
      have hf : us.flatten.length < n := by
        rw [List.flatten_append, List.length_append] at h
        omega
      obtain ⟨o, ho, ek, y, ey, z, hz, hyz⟩ := main us day p (by omega) hf
      have hol : o.1.length < n := by rw [ek, (DV.sortI_perm _).length_eq]; exact h
      rcases ho with ho | ho
      · obtain ⟨b, g1, g2⟩ := I.ut.all o ho
        refine ⟨(o.1, b), getA_mem g1, ek, fun x hx => ⟨z, hz, ?_⟩⟩
        unfold leR at g2
        rw [ey] at g2
        have hx : lt b = some x := hx
        rw [hx] at g2
        have g2 : x ≤ y := g2
        omega
      · have := (I.cc o ho).1
        omega
  · by_cases hl : ds.length ≤ t
    · exact I.bs.cov ds p h hl
    · rcases List.eq_nil_or_concat ds with rfl | ⟨us, day, rfl⟩
      · exact absurd (Nat.zero_le t) hl
      · rw [List.concat_eq_append] at *
        rw [List.length_append, List.length_singleton] at l hl
        by_cases hf : us.flatten.length < n
        · obtain ⟨o, ho, ek, y, ey, z, hz, hyz⟩ := main us day p (by omega) hf
          have hol : o.1.length = n := by rw [ek, (DV.sortI_perm _).length_eq]; exact h
          rcases ho with ho | ho
          · have := (I.ok o ho).2.1
            omega
          · obtain ⟨_, _, x, e1, e2⟩ := I.cc o ho
            have hx := I.ob x e1
            cases e3 : lt x with
            | none => rw [e3] at hx; cases hx
            | some v =>
              unfold leR at e2
              rw [e3, ey] at e2
              have e2 : v ≤ y := e2
              exact ⟨x, v, e1, e3, z, hz, by omega⟩
        · obtain ⟨p1, p2⟩ := pc_snoc.mp p
          rw [List.nil_append] at p2
          have hfl : us.flatten.length = n := by
            have := hmax us p1
            omega
          have hd := hne us day p1 hfl p2
          subst hd
          obtain ⟨x, y, e1, e2, z, hz, hyz⟩ := I.bs.cov us p1 hfl (by omega)
          exact ⟨x, y, e1, e2, z, by rw [LL_snoc]; rw [show latL du ((us.length : Nat) + 1) [] = [] from rfl, List.append_nil]; exact hz, hyz⟩
/-- no rows are left: the best is the best of all -/
theorem Bs.out (hmax : ∀ ds, Pc C [] ds → ds.flatten.length ≤ n) (hne : ∀ us day, Pc C [] us → us.flatten.length = n → day ∈ C us.flatten → day = []) {t u : Nat} {best : Option ρ} (Q : Rw n C du B0 lt W t []) (B : Bs n C du B0 lt W t u best) : ∀ ds, Pc C [] ds → ds.flatten.length = n → ∃ x y, best = some x ∧ lt x = some y ∧ ∃ z ∈ B0 ++ LL du ds, y ≤ z := by
  have go : ∀ (k : Nat) (ds : List (List Int)), ds.length = k → Pc C [] ds → ds.flatten.length = n → ∃ x y, best = some x ∧ lt x = some y ∧ ∃ z ∈ B0 ++ LL du ds, y ≤ z := fun k => by
    induction k with
    | zero => exact fun ds l p h => B.cov ds p h (by omega)
    | succ k ih =>
      intro ds l p h
      by_cases hl : ds.length ≤ t
      · exact B.cov ds p h hl
      · rcases List.eq_nil_or_concat ds with rfl | ⟨us, day, rfl⟩
        · cases l
        · rw [List.concat_eq_append] at *
          obtain ⟨p1, p2⟩ := pc_snoc.mp p
          rw [List.nil_append] at p2
          rw [List.length_append, List.length_singleton] at l hl
          by_cases hf : us.flatten.length < n
          · have hu : us = us.take t ++ us.drop t := (List.take_append_drop t us).symm
            have ht : (us.take t).length = t := by rw [List.length_take]; omega
            have p3 := p1
            rw [hu] at p3
            have hfl : (us.take t).flatten.length < n := by
              have := congrArg (fun l : List (List Int) => l.flatten.length) hu
              simp only [List.flatten_append, List.length_append] at this
              omega
            obtain ⟨e, he, _⟩ := Q.cov _ (pc_app p3).1 ht hfl
            cases he
          · have hfl : us.flatten.length = n := by
              have := hmax us p1
              omega
            have hd := hne us day p1 hfl p2
            subst hd
            obtain ⟨x, y, e1, e2, z, hz, hyz⟩ := ih us (by omega) p1 hfl
            exact ⟨x, y, e1, e2, z, by rw [LL_snoc]; rw [show latL du ((us.length : Nat) + 1) [] = [] from rfl, List.append_nil]; exact hz, hyz⟩
  exact fun ds p h => go _ ds rfl p h
end
end DVS

namespace DVL
open PySem L2 DV
local macro_rules
  | `(tactic| get_elem_tactic_trivial) => `(tactic| first
    | (simp only [List.set_cons_succ, List.set_cons_zero, DV.startE, DV.lawE, DV.toK, DV.lockE, DV.wipeE, List.map_cons, List.map_nil, List.length_cons, List.length_nil, List.replicate_zero, List.replicate_succ, Nat.reduceSub, Nat.reduceAdd, List.append_nil, List.cons_append, List.nil_append]; rfl)
    | exact rfl)
local macro_rules
  | `(tactic| infer_instance) => `(tactic| first
    | with_reducible refine DV.w_cons ?_
    | with_reducible refine DV.w_var (by with_unfolding_all exact rfl) ?_
    | with_reducible refine DV.w_c ?_
    | with_reducible refine DV.w_nil ?_
    | with_reducible refine DV.w_e2 ?_
    | with_reducible refine DV.w_seq ?_
    | with_reducible refine DV.w_seqN ?_
    | with_reducible refine DV.w_seqR ?_
    | with_reducible refine DV.w_seqB ?_
    | with_reducible refine DV.w_seqC ?_
    | with_reducible refine DV.w_call ?_
    | with_reducible refine DV.w_fn ?_
    | with_reducible refine DV.w_f1 ?_
    | with_reducible refine DV.w_f2 ?_
    | with_reducible refine DV.w_f3 ?_
    | with_reducible refine DV.w_f4 ?_
    | with_reducible refine DV.w_f5 ?_
    | with_reducible refine DV.w_f6 ?_
    | with_reducible refine DV.w_set ?_
    | with_reducible refine DV.w_setApp ?_
    | with_reducible refine DV.w_setX (by with_unfolding_all exact rfl) (by with_unfolding_all (simp only [List.set_cons_succ, List.set_cons_zero]; rfl)) ?_
    | with_reducible refine DV.w_rt ?_
    | with_reducible refine DV.w_rtD ?_
    | with_reducible refine DV.w_rtN ?_
    | with_reducible refine DV.w_rtV (by with_unfolding_all exact rfl) ?_
    | with_reducible refine DV.w_if ?_
    | with_reducible refine DV.w_drop ?_
    | with_reducible refine DV.w_nop ?_
    | with_reducible refine DV.w_T ?_
    | with_reducible refine DV.w_B ?_
    | with_reducible refine DV.w_not ?_
    | with_reducible refine DV.w_and ?_
    | with_reducible refine DV.w_or ?_
    | with_reducible refine DV.w_ifT ?_
    | with_reducible refine DV.w_ifF ?_
    | with_reducible refine DV.w_ifNT ?_
    | with_reducible refine DV.w_ifNF ?_
    | with_reducible refine DV.w_stup ?_
    | with_reducible refine DV.w_stupD (by with_unfolding_all (simp only [DV.wipeE, DV.gTupF, DV.gMore, DV.gNone, DV.gNm, List.set_cons_succ, List.set_cons_zero, List.length]; rfl)) ?_
    | with_reducible refine DV.w_aug (by with_unfolding_all exact rfl) ?_
    | with_reducible refine DV.w_I ?_
    | with_reducible refine DV.w_app (by with_unfolding_all exact rfl) (by simp only [List.length_map]; omega) ?_
    | with_reducible refine DV.w_D ?_
    | with_reducible refine DV.w_for ?_
    | with_reducible refine DV.w_lc ?_
    | with_reducible refine DV.w_par ?_
    | with_reducible refine DV.w_par3 ?_
    | with_reducible refine DV.w_par4 ?_
    | with_reducible refine DV.w_parX (by with_unfolding_all exact rfl) (by with_unfolding_all exact rfl) (by with_unfolding_all (simp only [List.set_cons_succ, List.set_cons_zero]; rfl)) ?_
    | with_reducible refine DV.w_par3X (by with_unfolding_all exact rfl) (by with_unfolding_all exact rfl) (by with_unfolding_all exact rfl) (by with_unfolding_all (simp only [List.set_cons_succ, List.set_cons_zero]; rfl)) ?_
    | with_reducible refine DV.w_par4X (by with_unfolding_all exact rfl) (by with_unfolding_all exact rfl) (by with_unfolding_all exact rfl) (by with_unfolding_all exact rfl) (by with_unfolding_all (simp only [List.set_cons_succ, List.set_cons_zero]; rfl)) ?_
    | with_reducible refine DV.w_tup ?_
    | with_reducible refine DV.w_lst ?_
    | with_reducible refine DV.w_tu (by with_unfolding_all exact rfl) (by with_unfolding_all exact Nat.le_of_ble_eq_true rfl) ?_
    | with_reducible refine DV.w_ls (by with_unfolding_all exact rfl) (by with_unfolding_all exact Nat.le_of_ble_eq_true rfl) ?_
    | with_reducible refine DV.w_neg ?_
    | with_reducible refine DV.w_ifB ?_
    | with_reducible refine DV.w_ifE ?_
    | with_reducible refine DV.w_notB ?_
    | with_reducible refine DV.w_tt ?_
    | with_reducible refine DV.w_ch ?_
    | with_reducible refine DV.w_add ?_
    | with_reducible refine DV.w_sub ?_
    | with_reducible refine DV.w_mul (by first | omega | (left; constructor <;> omega) | (right; constructor <;> omega)) ?_
    | with_reducible refine DV.w_mod (by omega) ?_
    | with_reducible refine DV.w_div (by omega) ?_
    | with_reducible refine DV.w_lt ?_
    | with_reducible refine DV.w_le ?_
    | with_reducible refine DV.w_gt ?_
    | with_reducible refine DV.w_ge ?_
    | with_reducible refine DV.w_ltA ?_
    | with_reducible refine DV.w_leA ?_
    | with_reducible refine DV.w_gtA ?_
    | with_reducible refine DV.w_geA ?_
    | with_reducible refine DV.w_eq ?_
    | with_reducible refine DV.w_ne ?_
    | with_reducible refine DV.w_eqB ?_
    | with_reducible refine DV.w_neB ?_
    | with_reducible refine DV.w_eqN ?_
    | with_reducible refine DV.w_neN ?_
    | with_reducible refine DV.w_eqN0 ?_
    | with_reducible refine DV.w_neN0 ?_
    | with_reducible refine DV.w_in ?_
    | with_reducible refine DV.w_inB ?_
    | with_reducible refine DV.w_notIn ?_
    | with_reducible refine DV.w_notInB ?_
    | with_reducible refine DV.w_ix0 ?_
    | with_reducible refine DV.w_ix1 ?_
    | with_reducible refine DV.w_ix (by omega) ?_
    | with_reducible refine DV.w_ixB (by omega) ?_
    | with_reducible refine DV.w_len ?_
    | with_reducible refine DV.w_lenB ?_
    | with_reducible refine DV.w_lenN ?_
    | with_reducible refine DV.w_lenM ?_
    | with_reducible refine DV.w_lenMB ?_
    | with_reducible refine DV.w_lenMN ?_
    | with_reducible refine DV.w_lenD ?_
    | with_reducible refine DV.w_lenDB ?_
    | with_reducible refine DV.w_lenDN ?_
    | with_reducible refine DV.w_tupN ?_
    | with_reducible refine DV.w_tupB ?_
    | with_reducible refine DV.w_tupD ?_
    | with_reducible refine DV.w_lstD ?_
    | with_reducible refine DV.w_lstB ?_
    | with_reducible refine DV.w_lstN ?_
    | with_reducible refine DV.w_sum ?_
    | with_reducible refine DV.w_sumN ?_
    | with_reducible refine DV.w_sumB ?_
    | with_reducible refine DV.w_max2 ?_
    | with_reducible refine DV.w_min2 ?_
    | with_reducible refine DV.w_int ?_
    | with_reducible refine DV.w_sort ?_
    | with_reducible refine DV.w_sortN ?_
    | with_reducible refine DV.w_sortB ?_
    | with_reducible refine DV.w_rep (by omega) ?_
    | with_reducible refine DV.w_repN (by omega) ?_
    | with_reducible refine DV.w_moveG (by with_unfolding_all exact rfl) (by with_unfolding_all (simp only [List.set_cons_succ, List.set_cons_zero]; rfl)) ?_
    | with_reducible refine DV.w_moveO (by with_unfolding_all exact rfl) (by with_unfolding_all (simp only [List.set_cons_succ, List.set_cons_zero]; rfl)) ?_
    | with_reducible refine DV.w_moveD (by with_unfolding_all exact rfl) (by with_unfolding_all (simp only [List.set_cons_succ, List.set_cons_zero]; rfl)) ?_
    | with_reducible refine DV.w_catTI (by (try simp only [List.length_append, List.length_take, List.length_drop, List.length_cons, List.length_nil]); omega) ?_
    | with_reducible refine DV.w_catT1 (by (try simp only [List.length_append, List.length_take, List.length_drop, List.length_cons, List.length_nil]); omega) ?_
    | with_reducible refine DV.w_listG ?_
    | with_reducible refine DV.w_sortK ?_
    | with_reducible refine DV.w_colS ?_
    | with_reducible refine DV.w_itT ?_
    | with_reducible refine DV.w_itB ?_
    | with_reducible refine DV.w_itN ?_
    | with_reducible refine DV.w_colR ?_
    | with_reducible refine DV.w_colRN (by omega) ?_
    | with_reducible refine DV.w_ext (by with_unfolding_all exact rfl) ?_
    | with_reducible refine DV.w_lc2 ?_
    | with_reducible refine DV.w_isT ?_
    | with_reducible refine DV.w_isNN ?_
    | with_reducible refine DV.w_isNI ?_
    | with_reducible refine DV.w_isNT ?_
    | with_reducible refine DV.w_ntNN ?_
    | with_reducible refine DV.w_ntNI ?_
    | with_reducible refine DV.w_ntNT ?_
    | with_reducible refine DV.w_repND (by omega) ?_
    | with_reducible refine DV.w_put (by with_unfolding_all exact rfl) ?_
    | with_reducible refine DV.w_putI (by (try simp only [List.length_set, List.length_replicate, List.length_map]); omega) ?_
    | with_reducible refine DV.w_eqB0 ?_
    | with_reducible refine DV.w_neB0 ?_
    | with_reducible refine DV.w_eqBB ?_
    | with_reducible refine DV.w_neBB ?_
    | with_reducible refine DV.w_eqNB ?_
    | with_reducible refine DV.w_neNB ?_
    | with_reducible refine DV.w_eqBN ?_
    | with_reducible refine DV.w_neBN ?_
    | with_reducible refine DV.w_eqT0 ?_
    | with_reducible refine DV.w_neT0 ?_
    | with_reducible refine DV.w_eqT ?_
    | with_reducible refine DV.w_neT ?_
    | with_reducible refine DV.w_gget ?_
    | with_reducible refine DV.w_dc ?_
    | with_reducible refine DV.w_dcN ?_
    | with_reducible refine DV.w_G ?_
    | with_reducible refine DV.w_gput ?_
    | with_reducible refine DV.w_gnew ?_
    | with_reducible refine DV.w_g1 ?_
    | with_reducible refine DV.w_ret ?_
    | with_reducible refine DV.w_slice ?_
    | with_reducible refine DV.w_part ?_
    | with_reducible refine DV.w_slToI (by omega) ?_
    | with_reducible refine DV.w_slFromI (by omega) ?_
    | with_reducible refine DV.w_slToBI (by omega) ?_
    | with_reducible refine DV.w_slFromBI (by omega) ?_
    | with_reducible refine DV.w_star ?_
    | with_reducible refine DV.w_starT ?_
    | with_reducible refine DV.w_starB ?_
    | with_reducible refine DV.w_starN ?_
    | with_reducible refine DV.w_ixR (by omega) ?_
    | with_reducible refine DV.w_ixRB (by omega) ?_
    | with_reducible refine DV.w_lrg ?_
    | with_reducible refine DV.w_trg ?_
    | with_reducible refine DV.w_rg (by omega) ?_
    | with_reducible refine DV.w_enum ?_
    | with_reducible refine DV.w_zip ?_
    | with_reducible refine DV.w_zip3 ?_
    | with_reducible refine DV.w_step ?_
    | with_reducible refine DV.w_stepB (by omega) ?_
    | with_reducible refine DV.w_srev ?_
    | with_reducible refine DV.w_srevT ?_
    | with_reducible refine DV.w_isTT ?_
    | with_reducible refine DV.w_ntTT ?_
    | with_reducible refine DV.w_isFT ?_
    | with_reducible refine DV.w_ntFT ?_
    | with_reducible refine DV.w_isTF ?_
    | with_reducible refine DV.w_ntTF ?_
    | with_reducible refine DV.w_isFF ?_
    | with_reducible refine DV.w_ntFF ?_
    | with_reducible refine DV.w_ixS (by omega) ?_
    | with_reducible refine DV.w_ix2 ?_
    | with_reducible refine DV.w_gget2 ?_
    | with_reducible refine DV.w_notInTs ?_
    | with_reducible refine DV.w_inTs ?_
    | with_reducible refine DV.w_inTsN ?_
    | with_reducible refine DV.w_sset ?_
    | with_reducible refine DV.w_ssetU (by omega) (by assumption) ?_
    | with_reducible refine DV.w_met ?_
    | with_reducible refine DV.w_itL ?_
    | with_reducible refine DV.w_two ?_
    | with_reducible refine DV.w_twoX ?_
    | with_reducible refine DV.w_neS ?_
    | with_reducible refine DV.w_eqS ?_
    | with_reducible refine DV.w_rev ?_
    | with_reducible refine DV.w_revN ?_
    | with_reducible refine DV.w_lset ?_
    | with_reducible refine DV.w_isNL ?_
    | with_reducible refine DV.w_isBL ?_
    | with_reducible refine DV.w_ntNL ?_
    | with_reducible refine DV.w_ntBL ?_
    | with_reducible refine DV.w_abs ?_
    | with_reducible refine DV.w_neBl ?_
    | with_reducible refine DV.w_eqBl ?_
    | with_reducible refine DV.w_eqIP ?_
    | with_reducible refine DV.w_neIP ?_
    | with_reducible refine DV.w_ix3 ?_
    | with_reducible refine DVR.w_neW ?_
    | with_reducible refine DVR.w_ixL (by omega) ?_
    | with_reducible refine DV.w_dcomp ?_
    | with_reducible refine DV.w_intB ?_
    | with_reducible refine DV.w_augIx (by with_unfolding_all exact rfl) ?_
    | with_reducible refine DV.w_inN ?_
    | with_reducible refine DV.w_notInN ?_
    | with_reducible refine DV.w_srcE ?_
    | with_reducible refine DV.w_srcV (by with_unfolding_all exact rfl) ?_
    | with_reducible refine DV.w_src (by with_unfolding_all exact rfl) ?_
    | with_reducible refine DV.w_rng1 ?_
    | with_reducible refine DV.w_rng2 ?_
    | with_reducible refine DV.w_rng2I (by omega) ?_
    | with_reducible refine DV.w_rngN (by omega) ?_
    | with_reducible refine DV.w_rngI (by omega) ?_
    | with_reducible refine DV.w_loopN ?_
    | with_reducible refine DV.w_loopC ?_
    | with_reducible refine DV.w_loopB ?_
    | with_reducible refine DV.w_loopR ?_
    | with_reducible refine DV.w_runN ?_
    | with_reducible refine DV.w_runR ?_
    | with_reducible refine DV.w_tg (by with_unfolding_all (simp only [DV.lockE, DV.unlockE, List.getElem?_cons_succ, List.getElem?_cons_zero, DV.wipeE, DV.gTupF, DV.gMore, DV.gNone, DV.gNm, List.set_cons_succ, List.set_cons_zero, List.length]; rfl)) ?_)
end DVL

namespace DVL
open PySem L2 DV
local macro_rules
  | `(tactic| get_elem_tactic_trivial) => `(tactic| first
    | (simp only [List.set_cons_succ, List.set_cons_zero, DV.startE, DV.lawE, DV.toK, DV.lockE, DV.wipeE, List.map_cons, List.map_nil, List.length_cons, List.length_nil, List.replicate_zero, List.replicate_succ, Nat.reduceSub, Nat.reduceAdd, List.append_nil, List.cons_append, List.nil_append]; rfl)
    | exact rfl)
local macro_rules
  | `(tactic| infer_instance) => `(tactic| first
    | with_reducible refine DV.w_cons ?_
    | with_reducible refine DV.w_var (by with_unfolding_all exact rfl) ?_
    | with_reducible refine DV.w_c ?_
    | with_reducible refine DV.w_nil ?_
    | with_reducible refine DV.w_e2 ?_
    | with_reducible refine DV.w_seq ?_
    | with_reducible refine DV.w_seqN ?_
    | with_reducible refine DV.w_seqR ?_
    | with_reducible refine DV.w_seqB ?_
    | with_reducible refine DV.w_seqC ?_
    | with_reducible refine DV.w_call ?_
    | with_reducible refine DV.w_fn ?_
    | with_reducible refine DV.w_f1 ?_
    | with_reducible refine DV.w_f2 ?_
    | with_reducible refine DV.w_f3 ?_
    | with_reducible refine DV.w_f4 ?_
    | with_reducible refine DV.w_f5 ?_
    | with_reducible refine DV.w_f6 ?_
    | with_reducible refine DV.w_set ?_
    | with_reducible refine DV.w_setApp ?_
    | with_reducible refine DV.w_setX (by with_unfolding_all exact rfl) (by with_unfolding_all (simp only [List.set_cons_succ, List.set_cons_zero]; rfl)) ?_
    | with_reducible refine DV.w_rt ?_
    | with_reducible refine DV.w_rtD ?_
    | with_reducible refine DV.w_rtN ?_
    | with_reducible refine DV.w_rtV (by with_unfolding_all exact rfl) ?_
    | with_reducible refine DV.w_if ?_
    | with_reducible refine DV.w_drop ?_
    | with_reducible refine DV.w_nop ?_
    | with_reducible refine DV.w_T ?_
    | with_reducible refine DV.w_B ?_
    | with_reducible refine DV.w_not ?_
    | with_reducible refine DV.w_and ?_
    | with_reducible refine DV.w_or ?_
    | with_reducible refine DV.w_ifT ?_
    | with_reducible refine DV.w_ifF ?_
    | with_reducible refine DV.w_ifNT ?_
    | with_reducible refine DV.w_ifNF ?_
    | with_reducible refine DV.w_stup ?_
    | with_reducible refine DV.w_stupD (by with_unfolding_all (simp only [DV.wipeE, DV.gTupF, DV.gMore, DV.gNone, DV.gNm, List.set_cons_succ, List.set_cons_zero, List.length]; rfl)) ?_
    | with_reducible refine DV.w_aug (by with_unfolding_all exact rfl) ?_
    | with_reducible refine DV.w_I ?_
    | with_reducible refine DV.w_app (by with_unfolding_all exact rfl) (by simp only [List.length_map]; omega) ?_
    | with_reducible refine DV.w_D ?_
    | with_reducible refine DV.w_for ?_
    | with_reducible refine DV.w_lc ?_
    | with_reducible refine DV.w_par ?_
    | with_reducible refine DV.w_par3 ?_
    | with_reducible refine DV.w_par4 ?_
    | with_reducible refine DV.w_parX (by with_unfolding_all exact rfl) (by with_unfolding_all exact rfl) (by with_unfolding_all (simp only [List.set_cons_succ, List.set_cons_zero]; rfl)) ?_
    | with_reducible refine DV.w_par3X (by with_unfolding_all exact rfl) (by with_unfolding_all exact rfl) (by with_unfolding_all exact rfl) (by with_unfolding_all (simp only [List.set_cons_succ, List.set_cons_zero]; rfl)) ?_
    | with_reducible refine DV.w_par4X (by with_unfolding_all exact rfl) (by with_unfolding_all exact rfl) (by with_unfolding_all exact rfl) (by with_unfolding_all exact rfl) (by with_unfolding_all (simp only [List.set_cons_succ, List.set_cons_zero]; rfl)) ?_
    | with_reducible refine DV.w_tup ?_
    | with_reducible refine DV.w_lst ?_
    | with_reducible refine DV.w_tu (by with_unfolding_all exact rfl) (by with_unfolding_all exact Nat.le_of_ble_eq_true rfl) ?_
    | with_reducible refine DV.w_ls (by with_unfolding_all exact rfl) (by with_unfolding_all exact Nat.le_of_ble_eq_true rfl) ?_
    | with_reducible refine DV.w_neg ?_
    | with_reducible refine DV.w_ifB ?_
    | with_reducible refine DV.w_ifE ?_
    | with_reducible refine DV.w_notB ?_
    | with_reducible refine DV.w_tt ?_
    | with_reducible refine DV.w_ch ?_
    | with_reducible refine DV.w_add ?_
    | with_reducible refine DV.w_sub ?_
    | with_reducible refine DV.w_mul (by first | omega | (left; constructor <;> omega) | (right; constructor <;> omega)) ?_
    | with_reducible refine DV.w_mod (by omega) ?_
    | with_reducible refine DV.w_div (by omega) ?_
    | with_reducible refine DV.w_lt ?_
    | with_reducible refine DV.w_le ?_
    | with_reducible refine DV.w_gt ?_
    | with_reducible refine DV.w_ge ?_
    | with_reducible refine DV.w_ltA ?_
    | with_reducible refine DV.w_leA ?_
    | with_reducible refine DV.w_gtA ?_
    | with_reducible refine DV.w_geA ?_
    | with_reducible refine DV.w_eq ?_
    | with_reducible refine DV.w_ne ?_
    | with_reducible refine DV.w_eqB ?_
    | with_reducible refine DV.w_neB ?_
    | with_reducible refine DV.w_eqN ?_
    | with_reducible refine DV.w_neN ?_
    | with_reducible refine DV.w_eqN0 ?_
    | with_reducible refine DV.w_neN0 ?_
    | with_reducible refine DV.w_in ?_
    | with_reducible refine DV.w_inB ?_
    | with_reducible refine DV.w_notIn ?_
    | with_reducible refine DV.w_notInB ?_
    | with_reducible refine DV.w_ix0 ?_
    | with_reducible refine DV.w_ix1 ?_
    | with_reducible refine DV.w_ix (by omega) ?_
    | with_reducible refine DV.w_ixB (by omega) ?_
    | with_reducible refine DV.w_len ?_
    | with_reducible refine DV.w_lenB ?_
    | with_reducible refine DV.w_lenN ?_
    | with_reducible refine DV.w_lenM ?_
    | with_reducible refine DV.w_lenMB ?_
    | with_reducible refine DV.w_lenMN ?_
    | with_reducible refine DV.w_lenD ?_
    | with_reducible refine DV.w_lenDB ?_
    | with_reducible refine DV.w_lenDN ?_
    | with_reducible refine DV.w_tupN ?_
    | with_reducible refine DV.w_tupB ?_
    | with_reducible refine DV.w_tupD ?_
    | with_reducible refine DV.w_lstD ?_
    | with_reducible refine DV.w_lstB ?_
    | with_reducible refine DV.w_lstN ?_
    | with_reducible refine DV.w_sum ?_
    | with_reducible refine DV.w_sumN ?_
    | with_reducible refine DV.w_sumB ?_
    | with_reducible refine DV.w_max2 ?_
    | with_reducible refine DV.w_min2 ?_
    | with_reducible refine DV.w_int ?_
    | with_reducible refine DV.w_sort ?_
    | with_reducible refine DV.w_sortN ?_
    | with_reducible refine DV.w_sortB ?_
    | with_reducible refine DV.w_rep (by omega) ?_
    | with_reducible refine DV.w_repN (by omega) ?_
    | with_reducible refine DV.w_moveG (by with_unfolding_all exact rfl) (by with_unfolding_all (simp only [List.set_cons_succ, List.set_cons_zero]; rfl)) ?_
    | with_reducible refine DV.w_moveO (by with_unfolding_all exact rfl) (by with_unfolding_all (simp only [List.set_cons_succ, List.set_cons_zero]; rfl)) ?_
    | with_reducible refine DV.w_moveD (by with_unfolding_all exact rfl) (by with_unfolding_all (simp only [List.set_cons_succ, List.set_cons_zero]; rfl)) ?_
    | with_reducible refine DV.w_catTI (by (try simp only [List.length_append, List.length_take, List.length_drop, List.length_cons, List.length_nil]); omega) ?_
    | with_reducible refine DV.w_catT1 (by (try simp only [List.length_append, List.length_take, List.length_drop, List.length_cons, List.length_nil]); omega) ?_
    | with_reducible refine DV.w_listG ?_
    | with_reducible refine DV.w_sortK ?_
    | with_reducible refine DV.w_colS ?_
    | with_reducible refine DV.w_itT ?_
    | with_reducible refine DV.w_itB ?_
    | with_reducible refine DV.w_itN ?_
    | with_reducible refine DV.w_colR ?_
    | with_reducible refine DV.w_colRN (by omega) ?_
    | with_reducible refine DV.w_ext (by with_unfolding_all exact rfl) ?_
    | with_reducible refine DV.w_lc2 ?_
    | with_reducible refine DV.w_isT ?_
    | with_reducible refine DV.w_isNN ?_
    | with_reducible refine DV.w_isNI ?_
    | with_reducible refine DV.w_isNT ?_
    | with_reducible refine DV.w_ntNN ?_
    | with_reducible refine DV.w_ntNI ?_
    | with_reducible refine DV.w_ntNT ?_
    | with_reducible refine DV.w_repND (by omega) ?_
    | with_reducible refine DV.w_put (by with_unfolding_all exact rfl) ?_
    | with_reducible refine DV.w_putI (by (try simp only [List.length_set, List.length_replicate, List.length_map]); omega) ?_
    | with_reducible refine DV.w_eqB0 ?_
    | with_reducible refine DV.w_neB0 ?_
    | with_reducible refine DV.w_eqBB ?_
    | with_reducible refine DV.w_neBB ?_
    | with_reducible refine DV.w_eqNB ?_
    | with_reducible refine DV.w_neNB ?_
    | with_reducible refine DV.w_eqBN ?_
    | with_reducible refine DV.w_neBN ?_
    | with_reducible refine DV.w_eqT0 ?_
    | with_reducible refine DV.w_neT0 ?_
    | with_reducible refine DV.w_eqT ?_
    | with_reducible refine DV.w_neT ?_
    | with_reducible refine DV.w_gget ?_
    | with_reducible refine DV.w_dc ?_
    | with_reducible refine DV.w_dcN ?_
    | with_reducible refine DV.w_G ?_
    | with_reducible refine DV.w_gput ?_
    | with_reducible refine DV.w_gnew ?_
    | with_reducible refine DV.w_g1 ?_
    | with_reducible refine DV.w_ret ?_
    | with_reducible refine DV.w_slice ?_
    | with_reducible refine DV.w_part ?_
    | with_reducible refine DV.w_slToI (by omega) ?_
    | with_reducible refine DV.w_slFromI (by omega) ?_
    | with_reducible refine DV.w_slToBI (by omega) ?_
    | with_reducible refine DV.w_slFromBI (by omega) ?_
    | with_reducible refine DV.w_star ?_
    | with_reducible refine DV.w_starT ?_
    | with_reducible refine DV.w_starB ?_
    | with_reducible refine DV.w_starN ?_
    | with_reducible refine DV.w_ixR (by omega) ?_
    | with_reducible refine DV.w_ixRB (by omega) ?_
    | with_reducible refine DV.w_lrg ?_
    | with_reducible refine DV.w_trg ?_
    | with_reducible refine DV.w_rg (by omega) ?_
    | with_reducible refine DV.w_enum ?_
    | with_reducible refine DV.w_zip ?_
    | with_reducible refine DV.w_zip3 ?_
    | with_reducible refine DV.w_step ?_
    | with_reducible refine DV.w_stepB (by omega) ?_
    | with_reducible refine DV.w_srev ?_
    | with_reducible refine DV.w_srevT ?_
    | with_reducible refine DV.w_isTT ?_
    | with_reducible refine DV.w_ntTT ?_
    | with_reducible refine DV.w_isFT ?_
    | with_reducible refine DV.w_ntFT ?_
    | with_reducible refine DV.w_isTF ?_
    | with_reducible refine DV.w_ntTF ?_
    | with_reducible refine DV.w_isFF ?_
    | with_reducible refine DV.w_ntFF ?_
    | with_reducible refine DV.w_ixS (by omega) ?_
    | with_reducible refine DV.w_ix2 ?_
    | with_reducible refine DV.w_gget2 ?_
    | with_reducible refine DV.w_notInTs ?_
    | with_reducible refine DV.w_inTs ?_
    | with_reducible refine DV.w_inTsN ?_
    | with_reducible refine DV.w_sset ?_
    | with_reducible refine DV.w_ssetU (by omega) (by assumption) ?_
    | with_reducible refine DV.w_met ?_
    | with_reducible refine DV.w_itL ?_
    | with_reducible refine DV.w_two ?_
    | with_reducible refine DV.w_twoX ?_
    | with_reducible refine DV.w_neS ?_
    | with_reducible refine DV.w_eqS ?_
    | with_reducible refine DV.w_rev ?_
    | with_reducible refine DV.w_revN ?_
    | with_reducible refine DV.w_lset ?_
    | with_reducible refine DV.w_isNL ?_
    | with_reducible refine DV.w_isBL ?_
    | with_reducible refine DV.w_ntNL ?_
    | with_reducible refine DV.w_ntBL ?_
    | with_reducible refine DV.w_abs ?_
    | with_reducible refine DV.w_neBl ?_
    | with_reducible refine DV.w_eqBl ?_
    | with_reducible refine DV.w_eqIP ?_
    | with_reducible refine DV.w_neIP ?_
    | with_reducible refine DV.w_ix3 ?_
    | with_reducible refine DVR.w_neW ?_
    | with_reducible refine DVR.w_ixL (by omega) ?_
    | with_reducible refine DV.w_dcomp ?_
    | with_reducible refine DV.w_intB ?_
    | with_reducible refine DV.w_augIx (by with_unfolding_all exact rfl) ?_
    | with_reducible refine DV.w_inN ?_
    | with_reducible refine DV.w_notInN ?_
    | with_reducible refine DV.w_srcE ?_
    | with_reducible refine DV.w_srcV (by with_unfolding_all exact rfl) ?_
    | with_reducible refine DV.w_src (by with_unfolding_all exact rfl) ?_
    | with_reducible refine DV.w_rng1 ?_
    | with_reducible refine DV.w_rng2 ?_
    | with_reducible refine DV.w_rng2I (by omega) ?_
    | with_reducible refine DV.w_rngN (by omega) ?_
    | with_reducible refine DV.w_rngI (by omega) ?_
    | with_reducible refine DV.w_loopN ?_
    | with_reducible refine DV.w_loopC ?_
    | with_reducible refine DV.w_loopB ?_
    | with_reducible refine DV.w_loopR ?_
    | with_reducible refine DV.w_runN ?_
    | with_reducible refine DV.w_runR ?_
    | with_reducible refine DV.w_tg (by with_unfolding_all (simp only [DV.lockE, DV.unlockE, List.getElem?_cons_succ, List.getElem?_cons_zero, DV.wipeE, DV.gTupF, DV.gMore, DV.gNone, DV.gNm, List.set_cons_succ, List.set_cons_zero, List.length]; rfl)) ?_)
section
variable {ss : List (Int × Int)} {ws : List Int}
/-- a row, as the greatest is looked for -/
def rk (p : Int × R3) : Int × Int × List Int := (p.2.2.1, -p.1, p.2.2.2)
end
end DVL

namespace DVL
open PySem L2 DV
local macro_rules
  | `(tactic| get_elem_tactic_trivial) => `(tactic| first
    | (simp only [List.set_cons_succ, List.set_cons_zero, DV.startE, DV.lawE, DV.toK, DV.lockE, DV.wipeE, List.map_cons, List.map_nil, List.length_cons, List.length_nil, List.replicate_zero, List.replicate_succ, Nat.reduceSub, Nat.reduceAdd, List.append_nil, List.cons_append, List.nil_append]; rfl)
    | exact rfl)
local macro_rules
  | `(tactic| infer_instance) => `(tactic| first
    | with_reducible refine DV.w_cons ?_
    | with_reducible refine DV.w_var (by with_unfolding_all exact rfl) ?_
    | with_reducible refine DV.w_c ?_
    | with_reducible refine DV.w_nil ?_
    | with_reducible refine DV.w_e2 ?_
    | with_reducible refine DV.w_seq ?_
    | with_reducible refine DV.w_seqN ?_
    | with_reducible refine DV.w_seqR ?_
    | with_reducible refine DV.w_seqB ?_
    | with_reducible refine DV.w_seqC ?_
    | with_reducible refine DV.w_call ?_
    | with_reducible refine DV.w_fn ?_
    | with_reducible refine DV.w_f1 ?_
    | with_reducible refine DV.w_f2 ?_
    | with_reducible refine DV.w_f3 ?_
    | with_reducible refine DV.w_f4 ?_
    | with_reducible refine DV.w_f5 ?_
    | with_reducible refine DV.w_f6 ?_
    | with_reducible refine DV.w_set ?_
    | with_reducible refine DV.w_setApp ?_
    | with_reducible refine DV.w_setX (by with_unfolding_all exact rfl) (by with_unfolding_all (simp only [List.set_cons_succ, List.set_cons_zero]; rfl)) ?_
    | with_reducible refine DV.w_rt ?_
    | with_reducible refine DV.w_rtD ?_
    | with_reducible refine DV.w_rtN ?_
    | with_reducible refine DV.w_rtV (by with_unfolding_all exact rfl) ?_
    | with_reducible refine DV.w_if ?_
    | with_reducible refine DV.w_drop ?_
    | with_reducible refine DV.w_nop ?_
    | with_reducible refine DV.w_T ?_
    | with_reducible refine DV.w_B ?_
    | with_reducible refine DV.w_not ?_
    | with_reducible refine DV.w_and ?_
    | with_reducible refine DV.w_or ?_
    | with_reducible refine DV.w_ifT ?_
    | with_reducible refine DV.w_ifF ?_
    | with_reducible refine DV.w_ifNT ?_
    | with_reducible refine DV.w_ifNF ?_
    | with_reducible refine DV.w_stup ?_
    | with_reducible refine DV.w_stupD (by with_unfolding_all (simp only [DV.wipeE, DV.gTupF, DV.gMore, DV.gNone, DV.gNm, List.set_cons_succ, List.set_cons_zero, List.length]; rfl)) ?_
    | with_reducible refine DV.w_aug (by with_unfolding_all exact rfl) ?_
    | with_reducible refine DV.w_I ?_
    | with_reducible refine DV.w_app (by with_unfolding_all exact rfl) (by simp only [List.length_map]; omega) ?_
    | with_reducible refine DV.w_D ?_
    | with_reducible refine DV.w_for ?_
    | with_reducible refine DV.w_lc ?_
    | with_reducible refine DV.w_par ?_
    | with_reducible refine DV.w_par3 ?_
    | with_reducible refine DV.w_par4 ?_
    | with_reducible refine DV.w_parX (by with_unfolding_all exact rfl) (by with_unfolding_all exact rfl) (by with_unfolding_all (simp only [List.set_cons_succ, List.set_cons_zero]; rfl)) ?_
    | with_reducible refine DV.w_par3X (by with_unfolding_all exact rfl) (by with_unfolding_all exact rfl) (by with_unfolding_all exact rfl) (by with_unfolding_all (simp only [List.set_cons_succ, List.set_cons_zero]; rfl)) ?_
    | with_reducible refine DV.w_par4X (by with_unfolding_all exact rfl) (by with_unfolding_all exact rfl) (by with_unfolding_all exact rfl) (by with_unfolding_all exact rfl) (by with_unfolding_all (simp only [List.set_cons_succ, List.set_cons_zero]; rfl)) ?_
    | with_reducible refine DV.w_tup ?_
    | with_reducible refine DV.w_lst ?_
    | with_reducible refine DV.w_tu (by with_unfolding_all exact rfl) (by with_unfolding_all exact Nat.le_of_ble_eq_true rfl) ?_
    | with_reducible refine DV.w_ls (by with_unfolding_all exact rfl) (by with_unfolding_all exact Nat.le_of_ble_eq_true rfl) ?_
    | with_reducible refine DV.w_neg ?_
    | with_reducible refine DV.w_ifB ?_
    | with_reducible refine DV.w_ifE ?_
    | with_reducible refine DV.w_notB ?_
    | with_reducible refine DV.w_tt ?_
    | with_reducible refine DV.w_ch ?_
    | with_reducible refine DV.w_add ?_
    | with_reducible refine DV.w_sub ?_
    | with_reducible refine DV.w_mul (by first | omega | (left; constructor <;> omega) | (right; constructor <;> omega)) ?_
    | with_reducible refine DV.w_mod (by omega) ?_
    | with_reducible refine DV.w_div (by omega) ?_
    | with_reducible refine DV.w_lt ?_
    | with_reducible refine DV.w_le ?_
    | with_reducible refine DV.w_gt ?_
    | with_reducible refine DV.w_ge ?_
    | with_reducible refine DV.w_ltA ?_
    | with_reducible refine DV.w_leA ?_
    | with_reducible refine DV.w_gtA ?_
    | with_reducible refine DV.w_geA ?_
    | with_reducible refine DV.w_eq ?_
    | with_reducible refine DV.w_ne ?_
    | with_reducible refine DV.w_eqB ?_
    | with_reducible refine DV.w_neB ?_
    | with_reducible refine DV.w_eqN ?_
    | with_reducible refine DV.w_neN ?_
    | with_reducible refine DV.w_eqN0 ?_
    | with_reducible refine DV.w_neN0 ?_
    | with_reducible refine DV.w_in ?_
    | with_reducible refine DV.w_inB ?_
    | with_reducible refine DV.w_notIn ?_
    | with_reducible refine DV.w_notInB ?_
    | with_reducible refine DV.w_ix0 ?_
    | with_reducible refine DV.w_ix1 ?_
    | with_reducible refine DV.w_ix (by omega) ?_
    | with_reducible refine DV.w_ixB (by omega) ?_
    | with_reducible refine DV.w_len ?_
    | with_reducible refine DV.w_lenB ?_
    | with_reducible refine DV.w_lenN ?_
    | with_reducible refine DV.w_lenM ?_
    | with_reducible refine DV.w_lenMB ?_
    | with_reducible refine DV.w_lenMN ?_
    | with_reducible refine DV.w_lenD ?_
    | with_reducible refine DV.w_lenDB ?_
    | with_reducible refine DV.w_lenDN ?_
    | with_reducible refine DV.w_tupN ?_
    | with_reducible refine DV.w_tupB ?_
    | with_reducible refine DV.w_tupD ?_
    | with_reducible refine DV.w_lstD ?_
    | with_reducible refine DV.w_lstB ?_
    | with_reducible refine DV.w_lstN ?_
    | with_reducible refine DV.w_sum ?_
    | with_reducible refine DV.w_sumN ?_
    | with_reducible refine DV.w_sumB ?_
    | with_reducible refine DV.w_max2 ?_
    | with_reducible refine DV.w_min2 ?_
    | with_reducible refine DV.w_int ?_
    | with_reducible refine DV.w_sort ?_
    | with_reducible refine DV.w_sortN ?_
    | with_reducible refine DV.w_sortB ?_
    | with_reducible refine DV.w_rep (by omega) ?_
    | with_reducible refine DV.w_repN (by omega) ?_
    | with_reducible refine DV.w_moveG (by with_unfolding_all exact rfl) (by with_unfolding_all (simp only [List.set_cons_succ, List.set_cons_zero]; rfl)) ?_
    | with_reducible refine DV.w_moveO (by with_unfolding_all exact rfl) (by with_unfolding_all (simp only [List.set_cons_succ, List.set_cons_zero]; rfl)) ?_
    | with_reducible refine DV.w_moveD (by with_unfolding_all exact rfl) (by with_unfolding_all (simp only [List.set_cons_succ, List.set_cons_zero]; rfl)) ?_
    | with_reducible refine DV.w_catTI (by (try simp only [List.length_append, List.length_take, List.length_drop, List.length_cons, List.length_nil]); omega) ?_
    | with_reducible refine DV.w_catT1 (by (try simp only [List.length_append, List.length_take, List.length_drop, List.length_cons, List.length_nil]); omega) ?_
    | with_reducible refine DV.w_listG ?_
    | with_reducible refine DV.w_sortK ?_
    | with_reducible refine DV.w_colS ?_
    | with_reducible refine DV.w_itT ?_
    | with_reducible refine DV.w_itB ?_
    | with_reducible refine DV.w_itN ?_
    | with_reducible refine DV.w_colR ?_
    | with_reducible refine DV.w_colRN (by omega) ?_
    | with_reducible refine DV.w_ext (by with_unfolding_all exact rfl) ?_
    | with_reducible refine DV.w_lc2 ?_
    | with_reducible refine DV.w_isT ?_
    | with_reducible refine DV.w_isNN ?_
    | with_reducible refine DV.w_isNI ?_
    | with_reducible refine DV.w_isNT ?_
    | with_reducible refine DV.w_ntNN ?_
    | with_reducible refine DV.w_ntNI ?_
    | with_reducible refine DV.w_ntNT ?_
    | with_reducible refine DV.w_repND (by omega) ?_
    | with_reducible refine DV.w_put (by with_unfolding_all exact rfl) ?_
    | with_reducible refine DV.w_putI (by (try simp only [List.length_set, List.length_replicate, List.length_map]); omega) ?_
    | with_reducible refine DV.w_eqB0 ?_
    | with_reducible refine DV.w_neB0 ?_
    | with_reducible refine DV.w_eqBB ?_
    | with_reducible refine DV.w_neBB ?_
    | with_reducible refine DV.w_eqNB ?_
    | with_reducible refine DV.w_neNB ?_
    | with_reducible refine DV.w_eqBN ?_
    | with_reducible refine DV.w_neBN ?_
    | with_reducible refine DV.w_eqT0 ?_
    | with_reducible refine DV.w_neT0 ?_
    | with_reducible refine DV.w_eqT ?_
    | with_reducible refine DV.w_neT ?_
    | with_reducible refine DV.w_gget ?_
    | with_reducible refine DV.w_dc ?_
    | with_reducible refine DV.w_dcN ?_
    | with_reducible refine DV.w_G ?_
    | with_reducible refine DV.w_gput ?_
    | with_reducible refine DV.w_gnew ?_
    | with_reducible refine DV.w_g1 ?_
    | with_reducible refine DV.w_ret ?_
    | with_reducible refine DV.w_slice ?_
    | with_reducible refine DV.w_part ?_
    | with_reducible refine DV.w_slToI (by omega) ?_
    | with_reducible refine DV.w_slFromI (by omega) ?_
    | with_reducible refine DV.w_slToBI (by omega) ?_
    | with_reducible refine DV.w_slFromBI (by omega) ?_
    | with_reducible refine DV.w_star ?_
    | with_reducible refine DV.w_starT ?_
    | with_reducible refine DV.w_starB ?_
    | with_reducible refine DV.w_starN ?_
    | with_reducible refine DV.w_ixR (by omega) ?_
    | with_reducible refine DV.w_ixRB (by omega) ?_
    | with_reducible refine DV.w_lrg ?_
    | with_reducible refine DV.w_trg ?_
    | with_reducible refine DV.w_rg (by omega) ?_
    | with_reducible refine DV.w_enum ?_
    | with_reducible refine DV.w_zip ?_
    | with_reducible refine DV.w_zip3 ?_
    | with_reducible refine DV.w_step ?_
    | with_reducible refine DV.w_stepB (by omega) ?_
    | with_reducible refine DV.w_srev ?_
    | with_reducible refine DV.w_srevT ?_
    | with_reducible refine DV.w_isTT ?_
    | with_reducible refine DV.w_ntTT ?_
    | with_reducible refine DV.w_isFT ?_
    | with_reducible refine DV.w_ntFT ?_
    | with_reducible refine DV.w_isTF ?_
    | with_reducible refine DV.w_ntTF ?_
    | with_reducible refine DV.w_isFF ?_
    | with_reducible refine DV.w_ntFF ?_
    | with_reducible refine DV.w_ixS (by omega) ?_
    | with_reducible refine DV.w_ix2 ?_
    | with_reducible refine DV.w_gget2 ?_
    | with_reducible refine DV.w_notInTs ?_
    | with_reducible refine DV.w_inTs ?_
    | with_reducible refine DV.w_inTsN ?_
    | with_reducible refine DV.w_sset ?_
    | with_reducible refine DV.w_ssetU (by omega) (by assumption) ?_
    | with_reducible refine DV.w_met ?_
    | with_reducible refine DV.w_itL ?_
    | with_reducible refine DV.w_two ?_
    | with_reducible refine DV.w_twoX ?_
    | with_reducible refine DV.w_neS ?_
    | with_reducible refine DV.w_eqS ?_
    | with_reducible refine DV.w_rev ?_
    | with_reducible refine DV.w_revN ?_
    | with_reducible refine DV.w_lset ?_
    | with_reducible refine DV.w_isNL ?_
    | with_reducible refine DV.w_isBL ?_
    | with_reducible refine DV.w_ntNL ?_
    | with_reducible refine DV.w_ntBL ?_
    | with_reducible refine DV.w_abs ?_
    | with_reducible refine DV.w_neBl ?_
    | with_reducible refine DV.w_eqBl ?_
    | with_reducible refine DV.w_eqIP ?_
    | with_reducible refine DV.w_neIP ?_
    | with_reducible refine DV.w_ix3 ?_
    | with_reducible refine DVR.w_neW ?_
    | with_reducible refine DVR.w_ixL (by omega) ?_
    | with_reducible refine DV.w_dcomp ?_
    | with_reducible refine DV.w_intB ?_
    | with_reducible refine DV.w_augIx (by with_unfolding_all exact rfl) ?_
    | with_reducible refine DV.w_inN ?_
    | with_reducible refine DV.w_notInN ?_
    | with_reducible refine DV.w_srcE ?_
    | with_reducible refine DV.w_srcV (by with_unfolding_all exact rfl) ?_
    | with_reducible refine DV.w_src (by with_unfolding_all exact rfl) ?_
    | with_reducible refine DV.w_rng1 ?_
    | with_reducible refine DV.w_rng2 ?_
    | with_reducible refine DV.w_rng2I (by omega) ?_
    | with_reducible refine DV.w_rngN (by omega) ?_
    | with_reducible refine DV.w_rngI (by omega) ?_
    | with_reducible refine DV.w_loopN ?_
    | with_reducible refine DV.w_loopC ?_
    | with_reducible refine DV.w_loopB ?_
    | with_reducible refine DV.w_loopR ?_
    | with_reducible refine DV.w_runN ?_
    | with_reducible refine DV.w_runR ?_
    | with_reducible refine DV.w_tg (by with_unfolding_all (simp only [DV.lockE, DV.unlockE, List.getElem?_cons_succ, List.getElem?_cons_zero, DV.wipeE, DV.gTupF, DV.gMore, DV.gNone, DV.gNm, List.set_cons_succ, List.set_cons_zero, List.length]; rfl)) ?_)
end DVL

namespace DV
open PySem L2
theorem canLay_tis : ∀ L : List (List Int), PyData.canLayAll0 (L.map ti) = true
  | [] => by simp [PyData.canLayAll0]
  | a :: L => by
    rw [List.map_cons, PyData.canLayAll0, canLay_tis L]
    have := DVL.canLay_ints a
    simp [PyData.canLay0, this]
theorem depth_tis : ∀ L : List (List Int), PyData.depthAll (L.map ti) ≤ 1
  | [] => by simp [PyData.depthAll]
  | a :: L => by
    rw [List.map_cons, PyData.depthAll]
    have h1 := depth_tis L
    have h2 : (ti a).depth = 1 := by
      show PyData.depth (.tuple _) = 1
      rw [PyData.depth, DVL.depth_ints]
    omega
theorem shaped_tis (L : List (List Int)) : SeqAt.shaped (.list (L.map ti)) = true := by
  unfold SeqAt.shaped
  have h := depth_tis L
  rw [PyData.canLay0, canLay_tis, PyData.depth]
  simp
  omega
theorem any_tis (K : List Int) : ∀ L : List (List Int), ((L.map ti).any fun z => PyData.eqv z (ti K)) = decide (K ∈ L)
  | [] => by simp
  | a :: L => by
    rw [List.map_cons, List.any_cons, any_tis K L]
    have e : PyData.eqv (ti a) (ti K) = decide (a = K) := by
      show PyData.eqv (.tuple _) (.tuple _) = _
      rw [PyData.eqv]
      exact DVL.eqv_intsA a K
    rw [e]
    by_cases h : a = K
    · subst h; simp
    · have h2 : ¬ K = a := fun e => h e.symm
      simp [h, h2]
section
variable {P : RV → Prop} {f : Env → DV.M RV} {ρ : Env} {K : List Int} {L : List (List Int)}
theorem notIn_tis : gNotIn (.d (ti K)) (.n (L.map ti)) = some (.d (.bool (!decide (K ∈ L)))) := by
  show (if SeqAt.shaped (ti K) = true then if SeqAt.shaped (.list (L.map ti)) = true then some (RV.d (.bool (!((L.map ti).any fun z => PyData.eqv z (ti K))))) else none else none) = _
  rw [if_pos (DVL.shaped_intsT K), if_pos (shaped_tis L), any_tis]
theorem in_tis : gIn (.d (ti K)) (.n (L.map ti)) = some (.d (.bool (decide (K ∈ L)))) := by
  show (if SeqAt.shaped (ti K) = true then if SeqAt.shaped (.list (L.map ti)) = true then some (RV.d (.bool (((L.map ti).any fun z => PyData.eqv z (ti K))))) else none else none) = _
  rw [if_pos (DVL.shaped_intsT K), if_pos (shaped_tis L), any_tis]
theorem w_notInTs (p : P (.d (.bool (!decide (K ∈ L))))) : K2 gNotIn P (.d (ti K)) (.n (L.map ti)) := ⟨_, notIn_tis, p⟩
theorem w_inTs (p : P (.d (.bool (decide (K ∈ L))))) : K2 gIn P (.d (ti K)) (.b (L.map ti)) := ⟨_, in_tis, p⟩
theorem w_inTsN (p : P (.d (.bool (decide (K ∈ L))))) : K2 gIn P (.d (ti K)) (.n (L.map ti)) := ⟨_, in_tis, p⟩
theorem w_sset (p : Gives (f ρ) fun x => ∃ js, sortSetOf x = some js ∧ P (.n (js.map PyData.int))) : Gives (eSortSet f ρ) P := DVL.gv_sortSet p
theorem w_ssetU (h : K.length < 64) (u : K.Pairwise (· < ·)) (p : P (.n (K.map PyData.int))) : ∃ js, sortSetOf (.d (ti K)) = some js ∧ P (.n (js.map PyData.int)) := ⟨_, DVL.sortSet_ti h, by rw [DVL.sort_up u]; exact p⟩
end
end DV

namespace DVS
open PySem L2 DV DVL DVB
section
variable {n : Nat} {P : List (Int × Int)} {b : Nat}
theorem Fc.len {ds : List (List Int)} (C : Fc n P b ds) : ds.flatten.length = n := by rw [C.all.length_eq, rngI_len]
/-- the choices of days that are full -/
abbrev cF (n : Nat) (P : List (Int × Int)) (b : Nat) : List Int → List (List Int) := fun S => fdI b (Ab P n S)
end
end DVS

namespace DVJ
open PySem L2 DV DVL DVB DVS
/-- the least numbers from b on that leave time enough behind those ahead -/
structure Eb (n : Nat) (P : List (Int × Int)) (ts : List Int) (b : Int → Int) (e : Int → Int) : Prop where
  nn : ∀ j, 0 ≤ j → j < (n : Int) → b j ≤ e j
  le : ∀ p ∈ P, e p.1 + val ts p.1 ≤ e p.2
  at_ : ∀ j, 0 ≤ j → j < (n : Int) → e j = b j ∨ ∃ p ∈ P, p.2 = j ∧ e j = e p.1 + val ts p.1
theorem foldl_mx : ∀ (js : List Int) (z : Int), js.foldl max z ∈ z :: js ∧ z ≤ js.foldl max z ∧ ∀ x ∈ js, x ≤ js.foldl max z
  | [], z => ⟨List.mem_cons_self, Int.le_refl _, fun _ h => nomatch h⟩
  | a :: js, z => by
    obtain ⟨h1, h2, h3⟩ := foldl_mx js (max z a)
    refine ⟨?_, ?_, fun x hx => ?_⟩
    · rcases List.mem_cons.mp h1 with y | y
      · show js.foldl max (max z a) ∈ _
        rw [y]
        by_cases h : z ≤ a
        · rw [show max z a = a by omega]
          exact List.mem_cons_of_mem _ List.mem_cons_self
        · rw [show max z a = z by omega]
          exact List.mem_cons_self
      · exact List.mem_cons_of_mem _ (List.mem_cons_of_mem _ y)
    · show z ≤ js.foldl max (max z a)
      omega
    · show x ≤ js.foldl max (max z a)
      rcases List.mem_cons.mp hx with y | y
      · subst y; omega
      · exact h3 x y
def mxB (z : Int) (P : List (Int × Int)) (ts : List Int) (j : Int) (f : Int → Int) : Int := ((P.filter fun p => decide (p.2 = j)).map fun p => f p.1 + val ts p.1).foldl max z
section
variable {n : Nat} {P : List (Int × Int)} {ts : List Int} {b e f : Int → Int} {z : Int}
theorem mxB_all (z : Int) (P : List (Int × Int)) (ts : List Int) (j : Int) (f : Int → Int) : z ≤ mxB z P ts j f ∧ (∀ p ∈ P, p.2 = j → f p.1 + val ts p.1 ≤ mxB z P ts j f) ∧ (mxB z P ts j f = z ∨ ∃ p ∈ P, p.2 = j ∧ mxB z P ts j f = f p.1 + val ts p.1) := by
  obtain ⟨h1, h2, h3⟩ := foldl_mx ((P.filter fun p => decide (p.2 = j)).map fun p => f p.1 + val ts p.1) z
  refine ⟨h2, fun p hp ep => h3 _ (List.mem_map.mpr ⟨p, List.mem_filter.mpr ⟨hp, decide_eq_true ep⟩, rfl⟩), ?_⟩
  rcases List.mem_cons.mp h1 with y | y
  · exact .inl y
  · obtain ⟨p, hp, ep⟩ := List.mem_map.mp y
    obtain ⟨a, c⟩ := List.mem_filter.mp hp
    exact .inr ⟨p, a, of_decide_eq_true c, ep.symm⟩
theorem mxJ_congr {j : Int} (h : ∀ p ∈ P, p.2 = j → e p.1 = f p.1) : mxB z P ts j e = mxB z P ts j f := by
  unfold mxB
  congr 1
  refine List.map_congr_left fun p hp => ?_
  obtain ⟨a, c⟩ := List.mem_filter.mp hp
  rw [h p a (of_decide_eq_true c)]
def erN (P : List (Int × Int)) (ts : List Int) (b : Int → Int) : Nat → Int → Int
  | 0, _ => 0
  | k + 1, j => mxB (b j) P ts j (erN P ts b k)
theorem er_stab {rk : Int → Nat} (hrk : ∀ p ∈ P, rk p.1 < rk p.2) : ∀ k j m, rk j < k → k ≤ m → erN P ts b m j = erN P ts b k j := fun k => by
  induction k with
  | zero => exact fun j m h => absurd h (Nat.not_lt_zero _)
  | succ k ih =>
    intro j m h hm
    obtain ⟨m', rfl⟩ : ∃ m', m = m' + 1 := ⟨m - 1, by omega⟩
    refine mxJ_congr fun p hp ep => ?_
    have := hrk p hp
    rw [ep] at this
    exact ih p.1 m' (by omega) (by omega)
theorem rk_bnd (rk : Int → Nat) : ∀ L : List Int, ∃ M, ∀ j ∈ L, rk j ≤ M
  | [] => ⟨0, fun _ h => nomatch h⟩
  | a :: L => by
    obtain ⟨M, h⟩ := rk_bnd rk L
    refine ⟨max (rk a) M, fun j hj => ?_⟩
    rcases List.mem_cons.mp hj with z | z
    · rw [z]; exact Nat.le_max_left ..
    · exact Nat.le_trans (h j z) (Nat.le_max_right ..)
theorem Eb.ex (G : Prs n P) (ts : List Int) (b : Int → Int) : ∃ e, Eb n P ts b e := by
  obtain ⟨rk, hrk⟩ := G.ac
  obtain ⟨M, hM⟩ := rk_bnd rk (rngI 0 n)
  have hM : ∀ j, 0 ≤ j → j < (n : Int) → rk j ≤ M := fun j h0 h1 => hM j ((mem_rngI _ _ _).mpr (by omega))
  have st : ∀ p ∈ P, erN P ts b M p.1 = erN P ts b (M + 1) p.1 := fun p hp => by
    have a := hrk p hp
    have c := (G.rg p hp).2
    have := hM p.2 c.1 c.2
    rw [er_stab hrk (rk p.1 + 1) p.1 M (by omega) (by omega), er_stab hrk (rk p.1 + 1) p.1 (M + 1) (by omega) (by omega)]
  refine ⟨erN P ts b (M + 1), fun j _ _ => (mxB_all (b j) P ts j (erN P ts b M)).1, fun p hp => ?_, fun j h0 h1 => ?_⟩
  · rw [← st p hp]
    exact (mxB_all (b p.2) P ts p.2 (erN P ts b M)).2.1 p hp rfl
  · rcases (mxB_all (b j) P ts j (erN P ts b M)).2.2 with z | ⟨p, hp, ep, z⟩
    · exact .inl z
    · exact .inr ⟨p, hp, ep, by rw [← st p hp]; exact z⟩
/-- ranks below the number of jobs -/
theorem prs_rk (G : Prs n P) : ∃ rk : Int → Nat, (∀ p ∈ P, rk p.1 < rk p.2) ∧ ∀ j, 0 ≤ j → j < (n : Int) → rk j < n := by
  obtain ⟨rk, hrk⟩ := G.ac
  have mem : ∀ i j, i ∈ (rngI 0 n).filter (fun i => decide (rk i < rk j)) ↔ (0 ≤ i ∧ i < (n : Int)) ∧ rk i < rk j := fun i j => by
    rw [List.mem_filter, mem_rngI, decide_eq_true_eq]
    constructor
    · rintro ⟨a, b⟩; exact ⟨by omega, b⟩
    · rintro ⟨a, b⟩; exact ⟨by omega, b⟩
  have lt : ∀ i j, 0 ≤ i → i < (n : Int) → rk i < rk j → ((rngI 0 n).filter fun x => decide (rk x < rk i)).length < ((rngI 0 n).filter fun x => decide (rk x < rk j)).length := fun i j h0 h1 h => by
    have := nodup_leG (p := i :: (rngI 0 n).filter fun x => decide (rk x < rk i)) (q := (rngI 0 n).filter fun x => decide (rk x < rk j)) (List.nodup_cons.mpr ⟨fun z => by have := ((mem i i).mp z).2; omega, (rngI_nodup 0 n).filter _⟩) fun x hx => by
      rcases List.mem_cons.mp hx with z | z
      · rw [z]; exact (mem i j).mpr ⟨⟨h0, h1⟩, h⟩
      · have := (mem x i).mp z
        exact (mem x j).mpr ⟨this.1, by omega⟩
    rw [List.length_cons] at this
    omega
  refine ⟨fun j => ((rngI 0 n).filter fun x => decide (rk x < rk j)).length, fun p hp => ?_, fun j h0 h1 => ?_⟩
  · have a := (G.rg p hp).1
    exact lt p.1 p.2 a.1 a.2 (hrk p hp)
  · have := nodup_leG (p := j :: (rngI 0 n).filter fun x => decide (rk x < rk j)) (q := rngI 0 n) (List.nodup_cons.mpr ⟨fun z => by have := ((mem j j).mp z).2; omega, (rngI_nodup 0 n).filter _⟩) fun x hx => by
      rcases List.mem_cons.mp hx with z | z
      · rw [z]; exact (mem_rngI _ _ _).mpr (by omega)
      · exact (List.mem_filter.mp z).1
    rw [List.length_cons, rngI_len] at this
    exact this
abbrev sw (p : Int × Int) : Int × Int := (p.2, p.1)
theorem mem_sw {p : Int × Int} : p ∈ P.map sw ↔ sw p ∈ P := by
  constructor
  · intro h
    obtain ⟨q, hq, e⟩ := List.mem_map.mp h
    rw [← e]
    exact hq
  · exact fun h => List.mem_map.mpr ⟨sw p, h, rfl⟩
theorem prs_sw (G : Prs n P) : Prs n (P.map sw) := by
  obtain ⟨rk, h1, h2⟩ := prs_rk G
  refine ⟨fun p hp => ?_, ⟨fun j => n - rk j, fun p hp => ?_⟩, by rw [List.length_map]; exact G.len⟩
  · have := G.rg _ (mem_sw.mp hp)
    exact ⟨this.2, this.1⟩
  · have a := h1 _ (mem_sw.mp hp)
    have b := (G.rg _ (mem_sw.mp hp)).2
    have c := h2 _ b.1 b.2
    show n - rk p.1 < n - rk p.2
    have a : rk p.2 < rk p.1 := a
    have c : rk p.1 < n := c
    omega
theorem val_upd {v : List Int} {x i j : Int} (h0 : 0 ≤ i) (h1 : i < (v.length : Int)) (hj : 0 ≤ j) : val (v.set i.toNat x) j = if j = i then x else val v j := by
  by_cases e : j = i
  · rw [if_pos e, e]
    exact val_set_eq h0 h1
  · rw [if_neg e]
    exact val_set_ne h0 hj fun z => e z.symm
/-- a list by its values -/
theorem list_of {v : List Int} {f : Int → Int} (hl : v.length = n) (h : ∀ j, 0 ≤ j → j < (n : Int) → val v j = f j) : v = (rngI 0 n).map f := by
  refine List.ext_getElem (by rw [List.length_map, rngI_len, hl]) fun i h1 h2 => ?_
  have h3 := h (i : Int) (by omega) (by omega)
  rw [val_get h1] at h3
  have h4 := val_map_rng f n (j := (i : Int)) (by omega) (by omega)
  rw [val_get h2] at h4
  rw [h3, h4]
end
end DVJ

namespace DVJ
open PySem L2 DV DVL DVB DVS
section
variable {ρ : DV.Env} {α : Type}
theorem w_revF {f : DV.Env → DV.M (List D × Option Nat)} {C : List D × Option Nat → Prop} (p : DV.Gives (f ρ) fun q => C (q.1.reverse, q.2)) : DV.Gives (iRevF f ρ) C := Gives.bnd p fun q r => Gives.ret r
theorem w_tupRev {f : DV.Env → DV.M RV} {P : RV → Prop} (p : DV.Gives (f ρ) fun x => ∃ ds, itemsL x = some ds ∧ P (.d (.tuple ds.reverse))) : DV.Gives (eTupRev f ρ) P := Gives.bnd p fun x ⟨ds, e, q⟩ => by
  rw [e, lft_s, bnd_ret]
  exact Gives.ret q
/-- rows = zip(..); return f([.. for .. in rows]) -/
def KZk (i : Nat) (ρ : DV.Env) (vs : List Nat) (hg : D → DV.Env → Option DV.Env) (tst : DV.Env → DV.M Bool) (el : DV.Env → DV.M RV) (gg : List RV → Option RV) (Q : Out → Prop) (p : List D × Option Nat) : Prop :=
  p.2 = none ∧ i < ρ.length ∧ KLc vs hg tst el (ρ.set i (some .un)) (fun x => KC gg (fun y => ∃ d, y = .d d ∧ Q (.rt (.d d))) [x]) (p.1, none)
theorem w_zk {i : Nat} {fi : DV.Env → DV.M (List D × Option Nat)} {vs : List Nat} {hg : D → DV.Env → Option DV.Env} {tst : DV.Env → DV.M Bool} {el : DV.Env → DV.M RV} {gg : List RV → Option RV} {Q : Out → Prop} (p : DV.Gives (fi ρ) (KZk i ρ vs hg tst el gg Q)) : DV.Gives (sZk i fi vs hg tst el gg ρ) Q := by
  refine Gives.bnd p fun q ⟨h1, h2, h3⟩ => ?_
  rw [if_pos h2]
  obtain ⟨its, lk⟩ := q
  have h1 : lk = none := h1
  subst h1
  refine Gives.bnd (P := fun x => KC gg (fun y => ∃ d, y = .d d ∧ Q (.rt (.d d))) [x]) (w_lc (DV.Gives.ret h3)) fun x ⟨y, e, d, ey, hq⟩ => ?_
  subst ey
  show DV.Gives (bnd (lft (gg [x])) _) _
  rw [e, lft_s, bnd_ret]
  exact Gives.ret hq
theorem w_zkK {i : Nat} {vs : List Nat} {hg : D → DV.Env → Option DV.Env} {tst : DV.Env → DV.M Bool} {el : DV.Env → DV.M RV} {gg : List RV → Option RV} {Q : Out → Prop} {its : List D} {ρ' : DV.Env} (hl : i < ρ.length) (e : ρ.set i (some .un) = ρ') (p : KLc vs hg tst el ρ' (fun x => KC gg (fun y => ∃ d, y = .d d ∧ Q (.rt (.d d))) [x]) (its, none)) : KZk i ρ vs hg tst el gg Q (its, none) := ⟨rfl, hl, by rw [e]; exact p⟩
end
end DVJ

namespace DVJ
open PySem L2 DV DVL DVB DVS
structure Bf (n : Nat) (P : List (Int × Int)) (ts : List Int) (b e : Int → Int) (rk : Int → Nat) (k : Nat) (done : List (Int × Int)) (v : Int → Int) : Prop where
  lo : ∀ j, 0 ≤ j → j < (n : Int) → b j ≤ v j
  hi : ∀ j, 0 ≤ j → j < (n : Int) → v j ≤ e j
  ex : ∀ j, 0 ≤ j → j < (n : Int) → rk j < k → v j = e j
  dn : ∀ p ∈ done, rk p.1 < k → e p.1 + val ts p.1 ≤ v p.2
section
variable {n : Nat} {P done : List (Int × Int)} {ts : List Int} {b e v w : Int → Int} {rk : Int → Nat} {k : Nat}
theorem Bf.first (A : Eb n P ts b e) : Bf n P ts b e rk 0 [] b := ⟨fun _ _ _ => Int.le_refl _, A.nn, fun _ _ _ h => absurd h (Nat.not_lt_zero _), fun _ h => nomatch h⟩
theorem Bf.step (G : Prs n P) (A : Eb n P ts b e) {p : Int × Int} (hp : p ∈ P) (h : Bf n P ts b e rk k done v) (hw : ∀ j, 0 ≤ j → j < (n : Int) → w j = if j = p.2 then max (v p.2) (v p.1 + val ts p.1) else v j) (hd : ∀ p ∈ done, p ∈ P) : Bf n P ts b e rk k (done ++ [p]) w := by
  have hr := G.rg p hp
  have up : ∀ j, 0 ≤ j → j < (n : Int) → v j ≤ w j := fun j h0 h1 => by
    rw [hw j h0 h1]
    split
    · next y => rw [y]; omega
    · exact Int.le_refl _
  have hi : ∀ j, 0 ≤ j → j < (n : Int) → w j ≤ e j := fun j h0 h1 => by
    rw [hw j h0 h1]
    split
    · next y =>
      subst y
      have a := h.hi p.2 h0 h1
      have c := h.hi p.1 hr.1.1 hr.1.2
      have d := A.le p hp
      omega
    · exact h.hi j h0 h1
  refine ⟨fun j h0 h1 => Int.le_trans (h.lo j h0 h1) (up j h0 h1), hi, fun j h0 h1 hk => ?_, fun q hq hk => ?_⟩
  · have a := h.ex j h0 h1 hk
    have c := up j h0 h1
    have d := hi j h0 h1
    omega
  · rcases List.mem_append.mp hq with z | z
    · have hq2 := (G.rg q (hd q z)).2
      exact Int.le_trans (h.dn q z hk) (up q.2 hq2.1 hq2.2)
    · have z := List.mem_singleton.mp z
      subst z
      rw [hw q.2 hr.2.1 hr.2.2, if_pos rfl, h.ex q.1 hr.1.1 hr.1.2 hk]
      omega
theorem Bf.next (G : Prs n P) (A : Eb n P ts b e) (hrk : ∀ p ∈ P, rk p.1 < rk p.2) (h : Bf n P ts b e rk k P v) : Bf n P ts b e rk (k + 1) [] v := by
  refine ⟨h.lo, h.hi, fun j h0 h1 hk => ?_, fun _ h => nomatch h⟩
  have a := h.hi j h0 h1
  rcases A.at_ j h0 h1 with y | ⟨p, hp, ep, y⟩
  · have := h.lo j h0 h1
    omega
  · have c := hrk p hp
    rw [ep] at c
    have d := h.dn p hp (by omega)
    rw [ep] at d
    omega
end
end DVJ

namespace DVL
open PySem L2 DV
section
variable {ts ws dd : List Int}
theorem Late.low {q : List Int} {x y : Int} (h : Late (sq ts dd q) x) (k : ∀ z ∈ mS 0 (sq ts dd q), z ≤ y) : x ≤ y := k x h.mem
end
end DVL

namespace DVL
open PySem L2 DV
section
variable {ts ws dd : List Int}
def z3 : D → D
  | .tuple [.int a, .int b, .int c] => .int (a * max 0 (b - c))
  | _ => .none
end
end DVL



namespace DVA
open PySem L2 DV DVL
theorem alike_intK (k : Nat) (x : Int) : DV.Gives (mr__law_alike (k + 1) [.d (.int x), .d (.int x)]) fun r => r = .d (.bool true) := by
  refine gv_run (gv_seq (gv_if (gv_T (gv_isT2 (gv_var rfl ⟨_, rfl, false, rfl, (fun q => nomatch q), fun _ => gv_nop ?_⟩)))))
  refine gv_seq (gv_if (gv_or (gv_T (gv_e2 (gv_var rfl (gv_c ⟨.d (.bool false), rfl, false, rfl, (fun q => nomatch q), fun _ => ?_⟩))))))
  refine gv_T (gv_isT (gv_var rfl ⟨_, rfl, false, rfl, (fun q => nomatch q), fun _ => gv_nop ?_⟩))
  refine gv_rt (gv_ifB (gv_isT (gv_var rfl ⟨_, rfl, true, rfl, (fun _ => ?_), (fun q => nomatch q)⟩)))
  refine gv_ifB (gv_e2 (gv_isT (gv_var rfl ⟨_, rfl, gv_isT (gv_var rfl ⟨_, rfl, .d (.bool true), ?_, true, rfl, (fun _ => ?_), (fun q => nomatch q)⟩)⟩)))
  · simp [gEqB, viewD, isT, SeqAt.shaped, PyData.canLay0, PyData.depth, PyData.eqv]
  · refine gv_e2 (gv_var rfl (gv_var rfl ⟨_, eq_ints false x x, _, rfl, ?_⟩))
    simp
theorem canLay_prs : ∀ ss : List (Int × Int), PyData.canLayAll0 (ss.map pr) = true
  | [] => by simp [PyData.canLayAll0]
  | p :: ss => by
    rw [List.map_cons, PyData.canLayAll0, canLay_prs ss]
    simp [PyData.canLay0, PyData.canLayAll0]
theorem depth_prs : ∀ ss : List (Int × Int), PyData.depthAll (ss.map pr) ≤ 1
  | [] => by simp [PyData.depthAll]
  | p :: ss => by
    rw [List.map_cons, PyData.depthAll]
    have := depth_prs ss
    simp [PyData.depth, PyData.depthAll]
    omega
theorem shaped_prs (ss : List (Int × Int)) : SeqAt.shaped (.list (ss.map pr)) = true := by
  unfold SeqAt.shaped
  rw [PyData.canLay0, canLay_prs, PyData.depth]
  have := depth_prs ss
  simp
  omega
end DVA

namespace DVJ
open PySem L2 DV DVL DVB DVS
local macro_rules
  | `(tactic| get_elem_tactic_trivial) => `(tactic| first
    | (simp only [List.set_cons_succ, List.set_cons_zero, DV.startE, DV.lawE, DV.toK, DV.lockE, DV.wipeE, List.map_cons, List.map_nil, List.length_cons, List.length_nil, List.replicate_zero, List.replicate_succ, Nat.reduceSub, Nat.reduceAdd, List.append_nil, List.cons_append, List.nil_append]; rfl)
    | exact rfl)
local macro_rules
  | `(tactic| infer_instance) => `(tactic| first
    | with_reducible refine DV.w_cons ?_
    | with_reducible refine DV.w_var (by with_unfolding_all exact rfl) ?_
    | with_reducible refine DV.w_c ?_
    | with_reducible refine DV.w_nil ?_
    | with_reducible refine DV.w_e2 ?_
    | with_reducible refine DV.w_seq ?_
    | with_reducible refine DV.w_seqN ?_
    | with_reducible refine DV.w_seqR ?_
    | with_reducible refine DV.w_seqB ?_
    | with_reducible refine DV.w_seqC ?_
    | with_reducible refine DV.w_call ?_
    | with_reducible refine DV.w_fn ?_
    | with_reducible refine DV.w_f1 ?_
    | with_reducible refine DV.w_f2 ?_
    | with_reducible refine DV.w_f3 ?_
    | with_reducible refine DV.w_f4 ?_
    | with_reducible refine DV.w_f5 ?_
    | with_reducible refine DV.w_f6 ?_
    | with_reducible refine DV.w_set ?_
    | with_reducible refine DV.w_setApp ?_
    | with_reducible refine DV.w_setX (by with_unfolding_all exact rfl) (by with_unfolding_all (simp only [List.set_cons_succ, List.set_cons_zero]; rfl)) ?_
    | with_reducible refine DV.w_rt ?_
    | with_reducible refine DV.w_rtD ?_
    | with_reducible refine DV.w_rtN ?_
    | with_reducible refine DV.w_rtV (by with_unfolding_all exact rfl) ?_
    | with_reducible refine DV.w_if ?_
    | with_reducible refine DV.w_drop ?_
    | with_reducible refine DV.w_nop ?_
    | with_reducible refine DV.w_T ?_
    | with_reducible refine DV.w_B ?_
    | with_reducible refine DV.w_not ?_
    | with_reducible refine DV.w_and ?_
    | with_reducible refine DV.w_or ?_
    | with_reducible refine DV.w_ifT ?_
    | with_reducible refine DV.w_ifF ?_
    | with_reducible refine DV.w_ifNT ?_
    | with_reducible refine DV.w_ifNF ?_
    | with_reducible refine DV.w_stup ?_
    | with_reducible refine DV.w_stupD (by with_unfolding_all (simp only [DV.wipeE, DV.gTupF, DV.gMore, DV.gNone, DV.gNm, List.set_cons_succ, List.set_cons_zero, List.length]; rfl)) ?_
    | with_reducible refine DV.w_aug (by with_unfolding_all exact rfl) ?_
    | with_reducible refine DV.w_I ?_
    | with_reducible refine DV.w_app (by with_unfolding_all exact rfl) (by simp only [List.length_map]; omega) ?_
    | with_reducible refine DV.w_D ?_
    | with_reducible refine DV.w_for ?_
    | with_reducible refine DV.w_lc ?_
    | with_reducible refine DV.w_par ?_
    | with_reducible refine DV.w_par3 ?_
    | with_reducible refine DV.w_par4 ?_
    | with_reducible refine DV.w_parX (by with_unfolding_all exact rfl) (by with_unfolding_all exact rfl) (by with_unfolding_all (simp only [List.set_cons_succ, List.set_cons_zero]; rfl)) ?_
    | with_reducible refine DV.w_par3X (by with_unfolding_all exact rfl) (by with_unfolding_all exact rfl) (by with_unfolding_all exact rfl) (by with_unfolding_all (simp only [List.set_cons_succ, List.set_cons_zero]; rfl)) ?_
    | with_reducible refine DV.w_par4X (by with_unfolding_all exact rfl) (by with_unfolding_all exact rfl) (by with_unfolding_all exact rfl) (by with_unfolding_all exact rfl) (by with_unfolding_all (simp only [List.set_cons_succ, List.set_cons_zero]; rfl)) ?_
    | with_reducible refine DV.w_tup ?_
    | with_reducible refine DV.w_lst ?_
    | with_reducible refine DV.w_tu (by with_unfolding_all exact rfl) (by with_unfolding_all exact Nat.le_of_ble_eq_true rfl) ?_
    | with_reducible refine DV.w_ls (by with_unfolding_all exact rfl) (by with_unfolding_all exact Nat.le_of_ble_eq_true rfl) ?_
    | with_reducible refine DV.w_neg ?_
    | with_reducible refine DV.w_ifB ?_
    | with_reducible refine DV.w_ifE ?_
    | with_reducible refine DV.w_notB ?_
    | with_reducible refine DV.w_tt ?_
    | with_reducible refine DV.w_ch ?_
    | with_reducible refine DV.w_add ?_
    | with_reducible refine DV.w_sub ?_
    | with_reducible refine DV.w_mul (by first | omega | (left; constructor <;> omega) | (right; constructor <;> omega)) ?_
    | with_reducible refine DV.w_mod (by omega) ?_
    | with_reducible refine DV.w_div (by omega) ?_
    | with_reducible refine DV.w_lt ?_
    | with_reducible refine DV.w_le ?_
    | with_reducible refine DV.w_gt ?_
    | with_reducible refine DV.w_ge ?_
    | with_reducible refine DV.w_ltA ?_
    | with_reducible refine DV.w_leA ?_
    | with_reducible refine DV.w_gtA ?_
    | with_reducible refine DV.w_geA ?_
    | with_reducible refine DV.w_eq ?_
    | with_reducible refine DV.w_ne ?_
    | with_reducible refine DV.w_eqB ?_
    | with_reducible refine DV.w_neB ?_
    | with_reducible refine DV.w_eqN ?_
    | with_reducible refine DV.w_neN ?_
    | with_reducible refine DV.w_eqN0 ?_
    | with_reducible refine DV.w_neN0 ?_
    | with_reducible refine DV.w_in ?_
    | with_reducible refine DV.w_inB ?_
    | with_reducible refine DV.w_notIn ?_
    | with_reducible refine DV.w_notInB ?_
    | with_reducible refine DV.w_ix0 ?_
    | with_reducible refine DV.w_ix1 ?_
    | with_reducible refine DV.w_ix (by omega) ?_
    | with_reducible refine DV.w_ixB (by omega) ?_
    | with_reducible refine DV.w_len ?_
    | with_reducible refine DV.w_lenB ?_
    | with_reducible refine DV.w_lenN ?_
    | with_reducible refine DV.w_lenM ?_
    | with_reducible refine DV.w_lenMB ?_
    | with_reducible refine DV.w_lenMN ?_
    | with_reducible refine DV.w_lenD ?_
    | with_reducible refine DV.w_lenDB ?_
    | with_reducible refine DV.w_lenDN ?_
    | with_reducible refine DV.w_tupN ?_
    | with_reducible refine DV.w_tupB ?_
    | with_reducible refine DV.w_tupD ?_
    | with_reducible refine DV.w_lstD ?_
    | with_reducible refine DV.w_lstB ?_
    | with_reducible refine DV.w_lstN ?_
    | with_reducible refine DV.w_sum ?_
    | with_reducible refine DV.w_sumN ?_
    | with_reducible refine DV.w_sumB ?_
    | with_reducible refine DV.w_max2 ?_
    | with_reducible refine DV.w_min2 ?_
    | with_reducible refine DV.w_int ?_
    | with_reducible refine DV.w_sort ?_
    | with_reducible refine DV.w_sortN ?_
    | with_reducible refine DV.w_sortB ?_
    | with_reducible refine DV.w_rep (by omega) ?_
    | with_reducible refine DV.w_repN (by omega) ?_
    | with_reducible refine DV.w_moveG (by with_unfolding_all exact rfl) (by with_unfolding_all (simp only [List.set_cons_succ, List.set_cons_zero]; rfl)) ?_
    | with_reducible refine DV.w_moveO (by with_unfolding_all exact rfl) (by with_unfolding_all (simp only [List.set_cons_succ, List.set_cons_zero]; rfl)) ?_
    | with_reducible refine DV.w_moveD (by with_unfolding_all exact rfl) (by with_unfolding_all (simp only [List.set_cons_succ, List.set_cons_zero]; rfl)) ?_
    | with_reducible refine DV.w_catTI (by (try simp only [List.length_append, List.length_take, List.length_drop, List.length_cons, List.length_nil]); omega) ?_
    | with_reducible refine DV.w_catT1 (by (try simp only [List.length_append, List.length_take, List.length_drop, List.length_cons, List.length_nil]); omega) ?_
    | with_reducible refine DV.w_listG ?_
    | with_reducible refine DV.w_sortK ?_
    | with_reducible refine DV.w_colS ?_
    | with_reducible refine DV.w_itT ?_
    | with_reducible refine DV.w_itB ?_
    | with_reducible refine DV.w_itN ?_
    | with_reducible refine DV.w_colR ?_
    | with_reducible refine DV.w_colRN (by omega) ?_
    | with_reducible refine DV.w_ext (by with_unfolding_all exact rfl) ?_
    | with_reducible refine DV.w_lc2 ?_
    | with_reducible refine DV.w_isT ?_
    | with_reducible refine DV.w_isNN ?_
    | with_reducible refine DV.w_isNI ?_
    | with_reducible refine DV.w_isNT ?_
    | with_reducible refine DV.w_ntNN ?_
    | with_reducible refine DV.w_ntNI ?_
    | with_reducible refine DV.w_ntNT ?_
    | with_reducible refine DV.w_repND (by omega) ?_
    | with_reducible refine DV.w_put (by with_unfolding_all exact rfl) ?_
    | with_reducible refine DV.w_putI (by (try simp only [List.length_set, List.length_replicate, List.length_map]); omega) ?_
    | with_reducible refine DV.w_eqB0 ?_
    | with_reducible refine DV.w_neB0 ?_
    | with_reducible refine DV.w_eqBB ?_
    | with_reducible refine DV.w_neBB ?_
    | with_reducible refine DV.w_eqNB ?_
    | with_reducible refine DV.w_neNB ?_
    | with_reducible refine DV.w_eqBN ?_
    | with_reducible refine DV.w_neBN ?_
    | with_reducible refine DV.w_eqT0 ?_
    | with_reducible refine DV.w_neT0 ?_
    | with_reducible refine DV.w_eqT ?_
    | with_reducible refine DV.w_neT ?_
    | with_reducible refine DV.w_gget ?_
    | with_reducible refine DV.w_dc ?_
    | with_reducible refine DV.w_dcN ?_
    | with_reducible refine DV.w_G ?_
    | with_reducible refine DV.w_gput ?_
    | with_reducible refine DV.w_gnew ?_
    | with_reducible refine DV.w_g1 ?_
    | with_reducible refine DV.w_ret ?_
    | with_reducible refine DV.w_slice ?_
    | with_reducible refine DV.w_part ?_
    | with_reducible refine DV.w_slToI (by omega) ?_
    | with_reducible refine DV.w_slFromI (by omega) ?_
    | with_reducible refine DV.w_slToBI (by omega) ?_
    | with_reducible refine DV.w_slFromBI (by omega) ?_
    | with_reducible refine DV.w_star ?_
    | with_reducible refine DV.w_starT ?_
    | with_reducible refine DV.w_starB ?_
    | with_reducible refine DV.w_starN ?_
    | with_reducible refine DV.w_ixR (by omega) ?_
    | with_reducible refine DV.w_ixRB (by omega) ?_
    | with_reducible refine DV.w_lrg ?_
    | with_reducible refine DV.w_trg ?_
    | with_reducible refine DV.w_rg (by omega) ?_
    | with_reducible refine DV.w_enum ?_
    | with_reducible refine DV.w_zip ?_
    | with_reducible refine DV.w_zip3 ?_
    | with_reducible refine DV.w_step ?_
    | with_reducible refine DV.w_stepB (by omega) ?_
    | with_reducible refine DV.w_srev ?_
    | with_reducible refine DV.w_srevT ?_
    | with_reducible refine DV.w_isTT ?_
    | with_reducible refine DV.w_ntTT ?_
    | with_reducible refine DV.w_isFT ?_
    | with_reducible refine DV.w_ntFT ?_
    | with_reducible refine DV.w_isTF ?_
    | with_reducible refine DV.w_ntTF ?_
    | with_reducible refine DV.w_isFF ?_
    | with_reducible refine DV.w_ntFF ?_
    | with_reducible refine DV.w_ixS (by omega) ?_
    | with_reducible refine DV.w_ix2 ?_
    | with_reducible refine DV.w_gget2 ?_
    | with_reducible refine DV.w_notInTs ?_
    | with_reducible refine DV.w_inTs ?_
    | with_reducible refine DV.w_inTsN ?_
    | with_reducible refine DV.w_sset ?_
    | with_reducible refine DV.w_ssetU (by omega) (by assumption) ?_
    | with_reducible refine DV.w_met ?_
    | with_reducible refine DV.w_itL ?_
    | with_reducible refine DV.w_two ?_
    | with_reducible refine DV.w_twoX ?_
    | with_reducible refine DV.w_neS ?_
    | with_reducible refine DV.w_eqS ?_
    | with_reducible refine DV.w_rev ?_
    | with_reducible refine DV.w_revN ?_
    | with_reducible refine DV.w_lset ?_
    | with_reducible refine DV.w_isNL ?_
    | with_reducible refine DV.w_isBL ?_
    | with_reducible refine DV.w_ntNL ?_
    | with_reducible refine DV.w_ntBL ?_
    | with_reducible refine DV.w_abs ?_
    | with_reducible refine DV.w_neBl ?_
    | with_reducible refine DV.w_eqBl ?_
    | with_reducible refine DV.w_eqIP ?_
    | with_reducible refine DV.w_neIP ?_
    | with_reducible refine DV.w_ix3 ?_
    | with_reducible refine DVR.w_neW ?_
    | with_reducible refine DVR.w_ixL (by omega) ?_
    | with_reducible refine DV.w_dcomp ?_
    | with_reducible refine DV.w_intB ?_
    | with_reducible refine DV.w_augIx (by with_unfolding_all exact rfl) ?_
    | with_reducible refine DV.w_inN ?_
    | with_reducible refine DV.w_notInN ?_
    | with_reducible refine DV.w_srcE ?_
    | with_reducible refine DV.w_srcV (by with_unfolding_all exact rfl) ?_
    | with_reducible refine DV.w_src (by with_unfolding_all exact rfl) ?_
    | with_reducible refine DV.w_rng1 ?_
    | with_reducible refine DV.w_rng2 ?_
    | with_reducible refine DV.w_rng2I (by omega) ?_
    | with_reducible refine DV.w_rngN (by omega) ?_
    | with_reducible refine DV.w_rngI (by omega) ?_
    | with_reducible refine DV.w_loopN ?_
    | with_reducible refine DV.w_loopC ?_
    | with_reducible refine DV.w_loopB ?_
    | with_reducible refine DV.w_loopR ?_
    | with_reducible refine DV.w_runN ?_
    | with_reducible refine DV.w_runR ?_
    | with_reducible refine DV.w_tg (by with_unfolding_all (simp only [DV.lockE, DV.unlockE, List.getElem?_cons_succ, List.getElem?_cons_zero, DV.wipeE, DV.gTupF, DV.gMore, DV.gNone, DV.gNm, List.set_cons_succ, List.set_cons_zero, List.length]; rfl)) ?_)
theorem w_notInTsB {P : RV → Prop} {K : List Int} {L : List (List Int)} (p : P (.d (.bool (!decide (K ∈ L))))) : K2 gNotIn P (.d (ti K)) (.b (L.map ti)) := ⟨_, notIn_tis, p⟩
theorem orders_giveP {n : Nat} {P : List (Int × Int)} (hn : n ≤ 6) (G : Prs n P) : DV.Gives (m__law_orders [.d (.int (n : Nat)), .d (prT P)]) fun r => r = .n ((ordP P n n).map ti) := by
  have hP := G.len
  have hpl : ∀ k, k ≤ n → (ordP P n k).length ≤ 46656 := fun k hk => by
    have h1 := ordP_len P n k
    have h2 : n ^ k ≤ 6 ^ k := Nat.pow_le_pow_left hn k
    have h3 : 6 ^ k ≤ 6 ^ 6 := Nat.pow_le_pow_right (by decide) (by omega)
    have h4 : (6 : Nat) ^ 6 = 46656 := by decide
    omega
  unfold m__law_orders
  refine DV.w_run (by get_elem_tactic_trivial) ?_
  unfold g__law_orders
  repeat infer_instance
  refine w_loop0 (fun rest ρ => ∃ (k : Nat) (y3 y4 y5 y6 y7 : Option SV), rest = rngI (k : Int) (n - k) ∧ k ≤ n ∧ ρ = [some (.d (.int (n : Nat))), some (.d (prT P)), some (.o ((ordP P n k).map ti)), y3, y4, y5, y6, y7]) ⟨0, _, _, _, _, _, rfl, Nat.zero_le _, rfl⟩ ?_ ?_
  · rintro x rest ρ ⟨k, y3, y4, y5, y6, y7, hr, hk, rfl⟩
    obtain ⟨e1, hkn, e2⟩ := rng_step hr
    have hfew := hpl (k + 1) hkn
    repeat infer_instance
    refine w_loopK (fun rs ρ => ∃ (us : List (List Int)) (y5 y6 y7 : Option SV), ordP P n k = us ++ rs ∧ ρ = [some (.d (.int (n : Nat))), some (.d (prT P)), some (.k ((ordP P n k).map ti)), some (.d (.int x)), some (.o ((us.flatMap fun p => (Ab P n p).map fun j => p ++ [j]).map ti)), y5, y6, y7]) ?_ ?_ ?_
    · exact ⟨_, rfl, [], _, _, _, rfl, rfl⟩
    · rintro q rs ρ ⟨us, y5, y6, y7, eu, rfl⟩
      have hql : q.length ≤ n := by
        obtain ⟨hpre, _⟩ := (ordP_mem G k q).mp (by rw [eu]; simp)
        exact hpre.len
      have hsum : ((us ++ [q]).flatMap fun p => (Ab P n p).map fun j => p ++ [j]).length ≤ 46656 := by
        have h1 : (ordP P n (k + 1)).length = ((us ++ q :: rs).flatMap fun p => (Ab P n p).map fun j => p ++ [j]).length := by rw [← eu]; rfl
        rw [show us ++ q :: rs = (us ++ [q]) ++ rs by simp, List.flatMap_append, List.length_append] at h1
        omega
      rw [List.flatMap_append, List.length_append, List.flatMap_cons, List.flatMap_nil, List.append_nil, List.length_map] at hsum
      repeat infer_instance
      refine w_loop0 (fun js ρ => ∃ (vs : List Int) (y6 y7 : Option SV), rngI 0 n = vs ++ js ∧ ρ = [some (.d (.int (n : Nat))), some (.d (prT P)), some (.k ((ordP P n k).map ti)), some (.d (.int x)), some (.o (((us.flatMap fun p => (Ab P n p).map fun j => p ++ [j]) ++ ((vs.filter fun j => !q.elem j && decide ((P.filter fun p => decide (p.2 = j) && !q.elem p.1) = [])).map fun j => q ++ [j])).map ti)), some (.d (ti q)), y6, y7]) ⟨[], _, _, rfl, by rw [List.filter_nil, List.map_nil, List.append_nil]⟩ ?_ ?_
      · rintro j js ρ ⟨vs, y6, y7, ej, rfl⟩
        have hvs : (vs.filter fun j => !q.elem j && decide ((P.filter fun p => decide (p.2 = j) && !q.elem p.1) = [])).length + (us.flatMap fun p => (Ab P n p).map fun j => p ++ [j]).length ≤ 50000 := by
          have h1 := List.length_filter_le (fun j => !q.elem j && decide ((P.filter fun p => decide (p.2 = j) && !q.elem p.1) = [])) vs
          have h2 := congrArg List.length ej
          rw [rngI_len, List.length_append] at h2
          omega
        have happ : (((us.flatMap fun p => (Ab P n p).map fun j => p ++ [j]) ++ ((vs.filter fun j => !q.elem j && decide ((P.filter fun p => decide (p.2 = j) && !q.elem p.1) = [])).map fun j => q ++ [j]))).length ≤ 50000 := by
          rw [List.length_append, List.length_map]
          omega
        repeat infer_instance
        refine w_bool (fun h1 => ?_) (fun h1 => ?_)
        · repeat infer_instance
          refine w_lcD P pr (fun p => decide (p.2 = j) && !q.elem p.1) pr (by omega) (fun p hp => ?_) ?_
          · have hr := G.rg p hp
            repeat infer_instance
            refine w_dec (fun h => ?_) (fun h => ?_)
            · repeat infer_instance
              rw [decide_eq_true h]
              refine ⟨rfl, fun _ => ?_⟩
              repeat infer_instance
              rfl
            · rw [decide_eq_false h]
              exact ⟨rfl, (fun z => by simp at z)⟩
          repeat infer_instance
          refine w_eqE (shaped_prs _) ?_
          rw [map_nilD]
          repeat infer_instance
          refine w_dec (fun h2 => ?_) (fun h2 => ?_)
          · have hok : (!q.elem j && decide ((P.filter fun p => decide (p.2 = j) && !q.elem p.1) = [])) = true := by
              rw [h1, decide_eq_true h2]
              rfl
            repeat infer_instance
            refine ⟨vs ++ [j], some (.d (.int j)), y7, by rw [ej]; simp, ?_⟩
            rw [List.filter_append, List.filter_cons_of_pos (p := fun j => !q.elem j && decide ((P.filter fun p => decide (p.2 = j) && !q.elem p.1) = [])) hok, List.filter_nil, List.map_append (f := fun j => q ++ [j]), ← List.append_assoc, List.map_append (f := ti) (l₂ := List.map _ [j])]
            rfl
          · have hok : (!q.elem j && decide ((P.filter fun p => decide (p.2 = j) && !q.elem p.1) = [])) = false := by
              rw [decide_eq_false h2, Bool.and_false]
            repeat infer_instance
            refine ⟨vs ++ [j], some (.d (.int j)), y7, by rw [ej]; simp, ?_⟩
            rw [List.filter_append, List.filter_cons_of_neg (p := fun j => !q.elem j && decide ((P.filter fun p => decide (p.2 = j) && !q.elem p.1) = [])) (by rw [hok]; exact Bool.false_ne_true), List.filter_nil, List.append_nil]
        · have hok : (!q.elem j && decide ((P.filter fun p => decide (p.2 = j) && !q.elem p.1) = [])) = false := by
            rw [h1, Bool.false_and]
          repeat infer_instance
          refine ⟨vs ++ [j], some (.d (.int j)), y7, by rw [ej]; simp, ?_⟩
          rw [List.filter_append, List.filter_cons_of_neg (p := fun j => !q.elem j && decide ((P.filter fun p => decide (p.2 = j) && !q.elem p.1) = [])) (by rw [hok]; exact Bool.false_ne_true), List.filter_nil, List.append_nil]
      · rintro ρ ⟨vs, y6, y7, ej, rfl⟩
        rw [List.append_nil] at ej
        subst ej
        repeat infer_instance
        refine ⟨us ++ [q], some (.d (ti q)), y6, y7, by rw [eu]; simp, ?_⟩
        rw [abL_eq G q, List.flatMap_append, List.flatMap_cons, List.flatMap_nil, List.append_nil]
    · rintro ρ ⟨us, y5, y6, y7, eu, rfl⟩
      rw [List.append_nil] at eu
      subst eu
      repeat infer_instance
      exact ⟨k + 1, _, _, _, _, _, e2, by omega, rfl⟩
  · rintro ρ ⟨k, y3, y4, y5, y6, y7, hr, hk, rfl⟩
    have hkn := rng_end hr hk
    subst hkn
    repeat infer_instance
    rfl
def alL (ts : List Int) (F : Int → Int → Int) : Int → List Int → List Int
  | _, [] => []
  | d, j :: p => F j (d + val ts j) :: alL ts F (d + val ts j) p
theorem fill_alL {ts : List Int} (F : Int → Int → Int) : ∀ (p : List Int) (d : Int) (fd : List Int), p.Nodup → (∀ j ∈ p, 0 ≤ j ∧ j < fd.length) → (p.map fun j => F j (val (fillG plus ts d fd p) j)) = alL ts F d p
  | [], _, _, _, _ => rfl
  | j :: p, d, fd, hn, h => by
    obtain ⟨n1, n2⟩ := List.nodup_cons.mp hn
    have hj := h j List.mem_cons_self
    have hp : ∀ k ∈ p, 0 ≤ k := fun k hk => (h k (List.mem_cons_of_mem _ hk)).1
    have ih := fill_alL (ts := ts) F p (d + val ts j) (fd.set j.toNat (d + val ts j)) n2 fun k hk => by
      rw [List.length_set]
      exact h k (List.mem_cons_of_mem _ hk)
    rw [List.map_cons]
    have e1 : val (fillG plus ts d fd (j :: p)) j = d + val ts j := by
      show val (fillG plus ts (d + val ts j) (fd.set j.toNat (d + val ts j)) p) j = _
      rw [fillG_out plus ts p _ _ j hj.1 n1 hp]
      exact val_set_eq hj.1 hj.2
    rw [e1]
    show _ :: (p.map fun k => F k (val (fillG plus ts (d + val ts j) (fd.set j.toNat (d + val ts j)) p) k)) = F j (d + val ts j) :: alL ts F (d + val ts j) p
    rw [ih]
section
variable {ts : List Int} {F : Int → Int → Int}
theorem alL_app : ∀ (A B : List Int) (d : Int), alL ts F d (A ++ B) = alL ts F d A ++ alL ts F (d + (A.map (val ts)).sum) B
  | [], B, d => by
    show alL ts F d B = alL ts F (d + 0) B
    rw [Int.add_zero]
  | a :: A, B, d => by
    rw [List.cons_append]
    show _ :: alL ts F (d + val ts a) (A ++ B) = _ :: (alL ts F (d + val ts a) A ++ _)
    rw [alL_app A B, List.map_cons, List.sum_cons, Int.add_assoc]
theorem alL_le (hm : ∀ j a b, a ≤ b → F j a ≤ F j b) : ∀ (B : List Int) (d e : Int), d ≤ e → ∀ x ∈ alL ts F d B, ∃ y ∈ alL ts F e B, x ≤ y
  | [], _, _, _, x, hx => nomatch hx
  | b :: B, d, e, h, x, hx => by
    rcases List.mem_cons.mp hx with z | z
    · exact ⟨_, List.mem_cons_self, by rw [z]; exact hm _ _ _ (by omega)⟩
    · obtain ⟨y, hy, hxy⟩ := alL_le hm B (d + val ts b) (e + val ts b) (by omega) x z
      exact ⟨y, List.mem_cons_of_mem _ hy, hxy⟩
/-- the greatest of some numbers -/
def mxF : List Int → Int
  | [] => 0
  | a :: l => l.foldl max a
theorem mxF_is {L : List Int} (h : L ≠ []) : MxL L (mxF L) := by
  cases L with
  | nil => exact absurd rfl h
  | cons a l =>
    obtain ⟨h1, h2, h3⟩ := foldl_mx l a
    refine ⟨h1, fun x hx => ?_⟩
    rcases List.mem_cons.mp hx with z | z
    · rw [z]; exact h2
    · exact h3 x z
theorem mxl_eq {L : List Int} {m : Int} (h : MxL L m) : m = mxF L := by
  have hne : L ≠ [] := fun z => by rw [z] at h; exact nomatch h.1
  have a := (mxF_is hne).2 _ h.1
  have b := h.2 _ (mxF_is hne).1
  omega
theorem mxl_mem {A B : List Int} {m : Int} (h : MxL A m) (e : ∀ x, x ∈ A ↔ x ∈ B) : MxL B m := ⟨(e m).mp h.1, fun x hx => h.2 x ((e x).mpr hx)⟩
/-- the greatest of all jobs, told by their ends -/
def grt (ts : List Int) (F : Int → Int → Int) (p : List Int) : Int := mxF (alL ts F 0 p)
theorem alL_ne {p : List Int} (h : p ≠ []) (d : Int) : alL ts F d p ≠ [] := by
  cases p with
  | nil => exact absurd rfl h
  | cons a p => exact fun z => nomatch z
theorem grt_ens {p : List Int} (hp : p.Perm (rngI 0 ts.length)) {m : Int} (h : MxL ((rngI 0 ts.length).map fun j => F j (val (ensI ts p) j)) m) : m = grt ts F p := by
  refine mxl_eq (mxl_mem h fun x => ?_)
  have hr : ∀ j ∈ p, 0 ≤ j ∧ j < ((List.replicate ts.length (0 : Int)).length : Int) := fun j hj => by rw [List.length_replicate]; have := (mem_rngI _ _ _).mp (hp.mem_iff.mp hj); omega
  rw [← fill_alL F p 0 (List.replicate ts.length 0) (hp.nodup_iff.mpr (rngI_nodup 0 _)) hr]
  exact ((hp.map _).mem_iff).symm
end
/-- nobody stands behind one that must follow -/
def OrB (P : List (Int × Int)) (q : List Int) : Prop := ∀ A x B, q = A ++ x :: B → ∀ p ∈ P, p.2 = x → p.1 ∉ B
structure Lw (n : Nat) (P : List (Int × Int)) (ts : List Int) (F : Int → Int → Int) (left o : List Int) : Prop where
  perm : (left ++ o).Perm (rngI 0 n)
  ord : OrB P o
  cl : ∀ p ∈ P, p.1 ∈ o → p.2 ∈ o
  bnd : ∀ q, q.Perm (rngI 0 n) → OrB P q → ∃ q', q'.Perm left ∧ OrB P q' ∧ (∀ x ∈ alL ts F 0 q', ∃ y ∈ alL ts F 0 q, x ≤ y) ∧ ∀ x ∈ alL ts F ((left.map (val ts)).sum) o, ∃ y ∈ alL ts F 0 q, x ≤ y
section
variable {n : Nat} {P : List (Int × Int)} {ts : List Int} {F : Int → Int → Int} {left o : List Int}
theorem Lw.first : Lw n P ts F (rngI 0 n) [] := ⟨by rw [List.append_nil], fun A x B e => (by cases A <;> cases e), fun _ _ h => (nomatch h), fun q hq ho => ⟨q, hq, ho, fun x hx => ⟨x, hx, Int.le_refl _⟩, fun _ h => nomatch h⟩⟩
theorem orb_of (G : Prs n P) {q : List Int} (hq : q.Perm (rngI 0 n)) : OrB P q ↔ DVL.Ord P q := by
  have nd : q.Nodup := hq.nodup_iff.mpr (rngI_nodup 0 n)
  obtain ⟨rk, hrk⟩ := G.ac
  constructor
  · intro h A x B e p hp ep
    have hr := (G.rg p hp).1
    have hm : p.1 ∈ q := hq.mem_iff.mpr ((mem_rngI _ _ _).mpr (by omega))
    rw [e] at hm
    rcases List.mem_append.mp hm with z | z
    · exact z
    · rcases List.mem_cons.mp z with z | z
      · have := hrk p hp
        rw [ep, z] at this
        exact absurd this (Nat.lt_irrefl _)
      · exact absurd z (h A x B e p hp ep)
  · intro h A x B e p hp ep hB
    have hA := h A x B e p hp ep
    rw [e] at nd
    exact (List.nodup_append.mp nd).2.2 p.1 hA p.1 (List.mem_cons_of_mem _ hB) rfl
theorem Lw.step (G : Prs n P) (ht : ∀ j, 0 ≤ j → j < (n : Int) → 0 ≤ val ts j) (hm : ∀ j a b, a ≤ b → F j a ≤ F j b) (L : Lw n P ts F left o) {l : Int} (hl : l ∈ left) (hab : ∀ p ∈ P, p.1 = l → p.2 ∉ left)
    (hmin : ∀ j ∈ left, (∀ p ∈ P, p.1 = j → p.2 ∉ left) → F l ((left.map (val ts)).sum) ≤ F j ((left.map (val ts)).sum)) : Lw n P ts F (left.filter fun j => !decide (j = l)) (l :: o) := by
  have nd : (left ++ o).Nodup := L.perm.nodup_iff.mpr (rngI_nodup 0 n)
  have ndl : left.Nodup := (List.nodup_append.mp nd).1
  have rg : ∀ j ∈ left, 0 ≤ j ∧ j < (n : Int) := fun j hj => by have := (mem_rngI _ _ _).mp (L.perm.mem_iff.mp (List.mem_append_left _ hj)); omega
  obtain ⟨A, B, hAB⟩ := List.append_of_mem hl
  have hfil : left.filter (fun j => !decide (j = l)) = A ++ B := by
    rw [hAB] at ndl ⊢
    have h2 := (List.nodup_append.mp ndl)
    have hA : ∀ x ∈ A, x ≠ l := fun x hx e => h2.2.2 x hx l List.mem_cons_self e
    have hB : ∀ x ∈ B, x ≠ l := fun x hx e => (List.nodup_cons.mp h2.2.1).1 (e ▸ hx)
    rw [List.filter_append, List.filter_cons_of_neg (by simp), List.filter_eq_self.mpr (fun x hx => by simp [hA x hx]), List.filter_eq_self.mpr (fun x hx => by simp [hB x hx])]
  have hsum : (left.map (val ts)).sum = ((A ++ B).map (val ts)).sum + val ts l := by
    rw [hAB, List.map_append, List.map_cons, List.map_append, List.sum_append, List.sum_cons, List.sum_append]
    omega
  have hperm : (left.filter (fun j => !decide (j = l)) ++ l :: o).Perm (rngI 0 n) := by
    rw [hfil]
    refine List.Perm.trans ?_ L.perm
    rw [hAB]
    have : (A ++ B ++ l :: o).Perm (l :: (A ++ B ++ o)) := List.perm_middle
    refine this.trans ?_
    rw [List.append_assoc A (l :: B)]
    have h3 : (A ++ (l :: B ++ o)).Perm (l :: (A ++ (B ++ o))) := by
      rw [List.cons_append]
      exact List.perm_middle
    refine List.Perm.trans ?_ h3.symm
    rw [List.append_assoc]
  refine ⟨hperm, fun A' x B' e p hp ep => ?_, fun p hp h => ?_, fun q hq ho => ?_⟩
  · cases A' with
    | nil =>
      obtain ⟨rfl, rfl⟩ := List.cons.inj e
      intro h1
      have h2 := L.cl p hp h1
      rw [ep] at h2
      exact (List.nodup_append.mp nd).2.2 l hl l h2 rfl
    | cons a A' =>
      obtain ⟨_, e2⟩ := List.cons.inj e
      exact L.ord A' x B' e2 p hp ep
  · rcases List.mem_cons.mp h with z | z
    · have h1 := hab p hp z
      have hr := (G.rg p hp).2
      have h2 : p.2 ∈ left ++ o := L.perm.mem_iff.mpr ((mem_rngI _ _ _).mpr (by omega))
      rcases List.mem_append.mp h2 with y | y
      · exact absurd y h1
      · exact List.mem_cons_of_mem _ y
    · exact List.mem_cons_of_mem _ (L.cl p hp z)
  · obtain ⟨q', hq', ho', hc1, hc2⟩ := L.bnd q hq ho
    have hl' : l ∈ q' := hq'.mem_iff.mpr hl
    obtain ⟨C, Dd, hq'e⟩ := List.append_of_mem hl'
    have hqs : (q'.map (val ts)).sum = (left.map (val ts)).sum := perm_sum (hq'.map _)
    -- the last one of q'
    obtain ⟨I, z, hIz⟩ : ∃ I z, q' = I ++ [z] := by
      rcases List.eq_nil_or_concat q' with h | ⟨I, z, h⟩
      · rw [h] at hl'; cases hl'
      · exact ⟨I, z, by rw [h, List.concat_eq_append]⟩
    have hz : z ∈ left := hq'.mem_iff.mp (by rw [hIz]; simp)
    have hzab : ∀ p ∈ P, p.1 = z → p.2 ∉ left := fun p hp ep h => by
      have h1 : p.2 ∈ q' := hq'.mem_iff.mpr h
      rw [hIz] at h1
      rcases List.mem_append.mp h1 with y | y
      · obtain ⟨A2, B2, eI⟩ := List.append_of_mem y
        have := ho' A2 p.2 (B2 ++ [z]) (by rw [hIz, eI]; simp) p hp rfl
        rw [ep] at this
        exact this (by simp)
      · obtain ⟨rk, hrk⟩ := G.ac
        have := hrk p hp
        rw [ep, List.mem_singleton.mp y] at this
        exact absurd this (Nat.lt_irrefl _)
    have hcl : ∃ y ∈ alL ts F 0 q, F l ((left.map (val ts)).sum) ≤ y := by
      have h1 : F z ((left.map (val ts)).sum) ∈ alL ts F 0 q' := by
        rw [hIz, alL_app, ← hqs, hIz, List.map_append, List.sum_append]
        refine List.mem_append_right _ ?_
        show _ ∈ [F z (0 + (I.map (val ts)).sum + val ts z)]
        rw [List.mem_singleton]
        congr 1
        simp
      obtain ⟨y, hy, h2⟩ := hc1 _ h1
      have h3 := hmin z hz hzab
      exact ⟨y, hy, by omega⟩
    refine ⟨C ++ Dd, ?_, ?_, ?_, ?_⟩
    · rw [hfil]
      have h1 : (l :: (C ++ Dd)).Perm (l :: (A ++ B)) := (List.perm_middle.symm.trans (hq'e ▸ hq')).trans (hAB ▸ List.perm_middle)
      exact List.Perm.cons_inv h1
    · intro A2 x B2 e p hp ep h
      rcases List.append_eq_append_iff.mp e with ⟨u, e1, e2⟩ | ⟨u, e1, e2⟩
      · -- C ++ u = A2, D = u ++ x :: B2
        exact ho' (C ++ l :: u) x B2 (by rw [hq'e, e2]; simp) p hp ep h
      · -- C = A2 ++ u, x :: B2 = u ++ D
        cases u with
        | nil =>
          rw [List.nil_append] at e2
          exact ho' (C ++ [l]) x B2 (by rw [hq'e, ← e2]; simp) p hp ep h
        | cons u0 u =>
          obtain ⟨rfl, e3⟩ := List.cons.inj e2
          refine ho' A2 x (u ++ l :: Dd) (by rw [hq'e, e1]; simp) p hp ep ?_
          rw [e3] at h
          rcases List.mem_append.mp h with y | y
          · exact List.mem_append_left _ y
          · exact List.mem_append_right _ (List.mem_cons_of_mem _ y)
    · intro x hx
      rw [alL_app] at hx
      have hlr := rg l hl
      have h0 := ht l hlr.1 hlr.2
      have key : ∃ y ∈ alL ts F 0 q', x ≤ y := by
        rw [hq'e, alL_app]
        rcases List.mem_append.mp hx with y | y
        · exact ⟨x, List.mem_append_left _ y, Int.le_refl _⟩
        · obtain ⟨w, hw, h1⟩ := alL_le hm Dd (0 + (C.map (val ts)).sum) (0 + (C.map (val ts)).sum + val ts l) (by omega) x y
          exact ⟨w, List.mem_append_right _ (List.mem_cons_of_mem _ hw), h1⟩
      obtain ⟨y, hy, h1⟩ := key
      obtain ⟨w, hw, h2⟩ := hc1 y hy
      exact ⟨w, hw, by omega⟩
    · intro x hx
      rw [hfil] at hx
      rcases List.mem_cons.mp hx with y | y
      · rw [y, ← hsum]
        exact hcl
      · rw [← hsum] at y
        exact hc2 x y
end
end DVJ

namespace DVJ
open PySem L2 DV DVL DVB DVS
theorem fill_at {ts : List Int} {j : Int} {B : List Int} : ∀ (A : List Int) (d : Int) (fd : List Int), (A ++ j :: B).Nodup → (∀ i ∈ A ++ j :: B, 0 ≤ i ∧ i < (fd.length : Int)) → val (fillG plus ts d fd (A ++ j :: B)) j = d + (A.map (val ts)).sum + val ts j
  | [], d, fd, nd, h => by
    obtain ⟨n1, n2⟩ := List.nodup_cons.mp (show (j :: B).Nodup from nd)
    have hj := h j (by simp)
    show val (fillG plus ts (d + val ts j) (fd.set j.toNat (d + val ts j)) B) j = d + 0 + val ts j
    rw [fillG_out plus ts B _ _ j hj.1 n1 fun k hk => (h k (by simp [hk])).1, val_set_eq hj.1 hj.2]
    omega
  | a :: A, d, fd, nd, h => by
    obtain ⟨n1, n2⟩ := List.nodup_cons.mp (show (a :: (A ++ j :: B)).Nodup from nd)
    show val (fillG plus ts (d + val ts a) (fd.set a.toNat (d + val ts a)) (A ++ j :: B)) j = _
    rw [fill_at A _ _ n2 fun i hi => by rw [List.length_set]; exact h i (List.mem_cons_of_mem _ hi), List.map_cons, List.sum_cons]
    omega
section
variable {P : List (Int × Int)} {ts dd : List Int} {e : Int → Int}
theorem ens_at {p A B : List Int} {j : Int} (hp : p.Perm (rngI 0 ts.length)) (h : p = A ++ j :: B) : val (ensI ts p) j = (A.map (val ts)).sum + val ts j := by
  have nd : p.Nodup := hp.nodup_iff.mpr (rngI_nodup 0 _)
  have hr : ∀ i ∈ p, 0 ≤ i ∧ i < ((List.replicate ts.length (0 : Int)).length : Int) := fun i hi => by rw [List.length_replicate]; have := (mem_rngI _ _ _).mp (hp.mem_iff.mp hi); omega
  have := fill_at (ts := ts) (j := j) (B := B) A 0 (List.replicate ts.length 0) (h ▸ nd) (h ▸ hr)
  rw [← h, Int.zero_add] at this
  exact this
theorem sum_nn {f : Int → Int} : ∀ (A : List Int), (∀ i ∈ A, 0 ≤ f i) → 0 ≤ (A.map f).sum
  | [], _ => Int.le_refl _
  | a :: A, h => by
    rw [List.map_cons, List.sum_cons]
    have := sum_nn A fun i hi => h i (List.mem_cons_of_mem _ hi)
    have := h a List.mem_cons_self
    omega
theorem ens_pair (ht : ∀ j, 0 ≤ j → j < (ts.length : Int) → 0 ≤ val ts j) {p : List Int} (hp : p.Perm (rngI 0 ts.length)) (ho : DVL.Ord P p) {q : Int × Int} (hq : q ∈ P) (hr : 0 ≤ q.2 ∧ q.2 < (ts.length : Int)) : val (ensI ts p) q.1 + val ts q.2 ≤ val (ensI ts p) q.2 := by
  have hm : q.2 ∈ p := hp.mem_iff.mpr ((mem_rngI _ _ _).mpr (by omega))
  obtain ⟨A, B, e1⟩ := List.append_of_mem hm
  have hA := ho A q.2 B e1 q hq rfl
  obtain ⟨A1, A2, e2⟩ := List.append_of_mem hA
  have hpr : ∀ i ∈ p, 0 ≤ val ts i := fun i hi => by have := (mem_rngI _ _ _).mp (hp.mem_iff.mp hi); exact ht i (by omega) (by omega)
  rw [ens_at hp e1, ens_at (A := A1) (B := A2 ++ q.2 :: B) hp (by rw [e1, e2]; simp), e2, List.map_append, List.sum_append, List.map_cons, List.sum_cons]
  have := sum_nn (f := val ts) A2 fun i hi => hpr i (by rw [e1, e2]; simp [hi])
  omega
theorem late_same {n : Nat} (hn : ts.length = n) (G : Prs n P) (ht : ∀ j, 0 ≤ j → j < (ts.length : Int) → 0 ≤ val ts j) (A : Eb n (P.map sw) ts (fun j => - val dd j) e) {p : List Int} (hp : p.Perm (rngI 0 ts.length)) (ho : DVL.Ord P p) {m1 m2 : Int}
    (h1 : MxL ((rngI 0 ts.length).map fun j => val (ensI ts p) j - -e j) m1) (h2 : MxL ((rngI 0 ts.length).map fun j => val (ensI ts p) j - val dd j) m2) : m1 = m2 := by
  subst hn
  obtain ⟨rk, hrk⟩ := (prs_sw G).ac
  have main : ∀ k j, rk j ≤ k → 0 ≤ j → j < (ts.length : Int) → val (ensI ts p) j + e j ≤ m2 := fun k => by
    induction k with
    | zero =>
      intro j hk h0 h3
      rcases A.at_ j h0 h3 with z | ⟨q, hq, eq, z⟩
      · have := h2.2 _ (List.mem_map.mpr ⟨j, (mem_rngI _ _ _).mpr (by omega), rfl⟩)
        omega
      · have := hrk q hq
        rw [eq] at this
        omega
    | succ k ih =>
      intro j hk h0 h3
      rcases A.at_ j h0 h3 with z | ⟨q, hq, eq, z⟩
      · have := h2.2 _ (List.mem_map.mpr ⟨j, (mem_rngI _ _ _).mpr (by omega), rfl⟩)
        omega
      · have := hrk q hq
        rw [eq] at this
        have hr := ((prs_sw G).rg q hq).1
        have h4 := ih q.1 (by omega) hr.1 hr.2
        have h5 := ens_pair ht hp ho (mem_sw.mp hq) hr
        have h5 : val (ensI ts p) q.2 + val ts q.1 ≤ val (ensI ts p) q.1 := h5
        rw [eq] at h5
        omega
  have a : m1 ≤ m2 := by
    obtain ⟨j, hj, ej⟩ := List.mem_map.mp h1.1
    have hj := (mem_rngI _ _ _).mp hj
    have := main (rk j) j (Nat.le_refl _) (by omega) (by omega)
    omega
  have b : m2 ≤ m1 := by
    obtain ⟨j, hj, ej⟩ := List.mem_map.mp h2.1
    have hj2 := (mem_rngI _ _ _).mp hj
    have h3 := h1.2 _ (List.mem_map.mpr ⟨j, hj, rfl⟩)
    have h4 := A.nn j (by omega) (by omega)
    omega
  omega
end
end DVJ

namespace DV
open PySem L2 DVL
theorem bestF_minQ (F : Int → Int) : ∀ (ys : List Int) (a : Int), ∃ m ∈ a :: ys, bestF ltB (ys.map fun j => (PyData.int j, DVL.kp (F j) j)) (PyData.int a, DVL.kp (F a) a) = (PyData.int m, DVL.kp (F m) m) ∧ ∀ b ∈ a :: ys, F m < F b ∨ (F m = F b ∧ m ≤ b)
  | [], a => ⟨a, List.mem_cons_self, rfl, fun b hb => by rw [List.mem_singleton.mp hb]; exact .inr ⟨rfl, Int.le_refl _⟩⟩
  | y :: ys, a => by
    show ∃ m ∈ a :: y :: ys, bestF ltB (ys.map fun j => (PyData.int j, DVL.kp (F j) j)) (if ltB (DVL.kp (F y) y) (DVL.kp (F a) a) = true then (PyData.int y, DVL.kp (F y) y) else (PyData.int a, DVL.kp (F a) a)) = _ ∧ _
    have hd : ltB (DVL.kp (F y) y) (DVL.kp (F a) a) = decide (F y < F a ∨ (F y = F a ∧ y < a)) := PySem.W.dataLt_ii (F y) y (F a) a
    rw [hd]
    by_cases h : F y < F a ∨ (F y = F a ∧ y < a)
    · rw [if_pos (decide_eq_true h)]
      obtain ⟨m, m1, m2, m3⟩ := bestF_minQ F ys y
      refine ⟨m, List.mem_cons_of_mem _ m1, m2, fun b hb => ?_⟩
      rcases List.mem_cons.mp hb with q | q
      · subst q
        have h2 := m3 y List.mem_cons_self
        omega
      · exact m3 b q
    · rw [if_neg (by rw [decide_eq_true_eq]; exact h)]
      obtain ⟨m, m1, m2, m3⟩ := bestF_minQ F ys a
      refine ⟨m, ?_, m2, fun b hb => ?_⟩
      · rcases List.mem_cons.mp m1 with q | q
        · rw [q]; exact List.mem_cons_self
        · exact List.mem_cons_of_mem _ (List.mem_cons_of_mem _ q)
      · rcases List.mem_cons.mp hb with q | q
        · rw [q]; exact m3 a List.mem_cons_self
        · rcases List.mem_cons.mp q with q | q
          · subst q
            have h2 := m3 a List.mem_cons_self
            omega
          · exact m3 b (List.mem_cons_of_mem _ q)
/-- min(.., key=lambda j: (F j, j)) -/
theorem w_leastQ {P : RV → Prop} {f el : Env → DV.M RV} {ρ : Env} {ip : Nat} {L : List Int} (F : Int → Int) (hne : L ≠ []) (e : Gives (f ρ) fun x => ownL x = some (L.map PyData.int))
    (hh : ∀ a ∈ L, KTg (some (ρ.set ip (some (.d (.int a))))) fun ρ1 => Gives (el ρ1) fun r => r = .d (DVL.kp (F a) a)) (p : ∀ m ∈ L, (∀ a ∈ L, F m < F a ∨ (F m = F a ∧ m ≤ a)) → P (.d (.int m))) : Gives (eBestK ltB f el ip ρ) P := by
  unfold eBestK
  refine Gives.bnd e fun x e => ?_
  rw [e, lft_s, bnd_ret]
  refine Gives.bnd (keysF_mk PyData.int (fun a => DVL.kp (F a) a) L hh) fun kz ek => ?_
  subst ek
  rw [List.zip_map']
  cases L with
  | nil => exact absurd rfl hne
  | cons a L =>
    obtain ⟨m, m1, m2, m3⟩ := bestF_minQ F L a
    have hk : okBest ((a :: L).map fun a => DVL.kp (F a) a) = true := DVL.okBest_kp (a :: L) fun j => (F j, j)
    show Gives (if okBest ((a :: L).map fun a => DVL.kp (F a) a) = true then ret (.d (bestF ltB (L.map fun j => (PyData.int j, DVL.kp (F j) j)) (PyData.int a, DVL.kp (F a) a)).1) else fail) P
    rw [if_pos hk, m2]
    exact Gives.ret (p m m1 m3)
end DV

namespace DVS
open PySem L2 DV DVL DVB
section
variable {n : Nat} {P : List (Int × Int)} {b : Nat} {lv : Int → Int}
/-- a day that is not full takes all that is able: what is left is lower -/
theorem short_day (G : Prs n P) (V : Lvl n P lv) {S day : List Int} (hS : Dn n P S) (h : Hi n P b lv S day) (hl : day.length < b) {L : Nat} (hL : ∀ j, 0 ≤ j → j < (n : Int) → j ∉ S → lv j ≤ (L : Int) + 1) : ∀ j, 0 ≤ j → j < (n : Int) → j ∉ S ++ day → lv j ≤ (L : Int) := fun j h0 h1 hn => by
  have hjS : j ∉ S := fun z => hn (List.mem_append_left _ z)
  have hjd : j ∉ day := fun z => hn (List.mem_append_right _ z)
  have hna : j ∉ Ab P n S := fun z => by
    have := (h.full j z hjd).1
    omega
  have hex : ∃ p ∈ P, p.2 = j ∧ p.1 ∉ S := Classical.byContradiction fun hc => hna ((mem_Ab G).mpr ⟨⟨h0, h1⟩, hjS, fun p hp e => Classical.byContradiction fun z => hc ⟨p, hp, e, z⟩⟩)
  obtain ⟨p, hp, e, hps⟩ := hex
  have h2 := V.dn p hp
  have h3 := G.rg p hp
  have h4 := hL p.1 h3.1.1 h3.1.2 hps
  rw [e] at h2
  omega
/-- days and jobs -/
theorem graham (G : Prs n P) (V : Lvl n P lv) : ∀ (ds : List (List Int)) (S : List Int) (L : Nat), Dn n P S → Hp n P b lv S ds → (∀ d ∈ ds, d ≠ []) → (∀ j, 0 ≤ j → j < (n : Int) → j ∉ S → lv j ≤ (L : Int)) → ds.length * b ≤ ds.flatten.length + L * (b - 1)
  | [], S, L, _, _, _, _ => by
    rw [List.length_nil, Nat.zero_mul]
    exact Nat.zero_le _
  | d :: ds, S, L, hS, hh, hne, hL => by
    cases hh with
    | cons h1 h2 =>
      have hd := hne d List.mem_cons_self
      have hd1 : 1 ≤ d.length := by cases d with | nil => exact absurd rfl hd | cons => rw [List.length_cons]; omega
      rw [List.flatten_cons, List.length_append, List.length_cons, Nat.add_mul, Nat.one_mul]
      by_cases hl : d.length < b
      · obtain ⟨j, hj⟩ := List.exists_mem_of_ne_nil d hd
        obtain ⟨⟨j0, j1⟩, jS, _⟩ := (mem_Ab G).mp (h1.ok.able j hj)
        have hp := V.ge j j0 j1
        have hq := hL j j0 j1 jS
        obtain ⟨K, rfl⟩ : ∃ K, L = K + 1 := ⟨L - 1, by omega⟩
        have ih := graham G V ds (S ++ d) K (hS.add G h1.ok) h2 (fun x hx => hne x (List.mem_cons_of_mem _ hx)) (short_day G V hS h1 hl fun j a c e => by have := hL j a c e; omega)
        rw [Nat.add_mul, Nat.one_mul]
        omega
      · have hb := h1.ok.len
        have ih := graham G V ds (S ++ d) L (hS.add G h1.ok) h2 (fun x hx => hne x (List.mem_cons_of_mem _ hx)) fun j a c e => hL j a c fun z => e (List.mem_append_left _ z)
        omega
/-- a plan is no shorter than the highest level, and holds all jobs -/
theorem Cp.lvl (G : Prs n P) (V : Lvl n P lv) {ds : List (List Int)} (C : Cp n P b ds) {j : Int} (h0 : 0 ≤ j) (h1 : j < (n : Int)) : lv j ≤ (ds.length : Int) := by
  have hl := DVS.low G V ds [] Dn.nil C.pl fun j h0 h1 => by
    rw [List.nil_append]
    exact C.all.mem_iff.mpr ((mem_rngI _ _ _).mpr (by omega))
  refine Classical.byContradiction fun hc => ?_
  have := (hl ds.length).2 (Nat.le_refl _)
  have h2 : j ∈ rem n lv [] ((ds.length : Nat) : Int) := mem_rem.mpr ⟨⟨h0, h1⟩, (fun z => nomatch z), by omega⟩
  rw [this] at h2
  cases h2
theorem pl_size {ds : List (List Int)} : ∀ {S : List Int}, Pl n P b S ds → ds.flatten.length ≤ ds.length * b := by
  induction ds with
  | nil => exact fun _ => Nat.zero_le _
  | cons d ds ih =>
    intro S h
    cases h with
    | cons h1 h2 =>
      have := ih h2
      have h3 := h1.len
      rw [List.flatten_cons, List.length_append, List.length_cons, Nat.add_mul, Nat.one_mul]
      omega
theorem Cp.size {ds : List (List Int)} (C : Cp n P b ds) : n ≤ ds.length * b := by
  have h1 := pl_size C.pl
  rw [C.all.length_eq, rngI_len] at h1
  exact h1
theorem Full.bnd (hb : 1 ≤ b) (G : Prs n P) (V : Lvl n P lv) {ds es : List (List Int)} (F : Full n P b lv ds) (C : Cp n P b es) : ds.length * b ≤ es.length * (2 * b - 1) := by
  have h1 := graham G V ds [] es.length Dn.nil F.hp F.pos fun j h0 h1 _ => C.lvl G V h0 h1
  rw [F.all.length_eq, rngI_len] at h1
  have h2 := C.size
  have e : es.length * (2 * b - 1) = es.length * b + es.length * (b - 1) := by
    rw [← Nat.mul_add]
    congr 1
    omega
  omega
end
end DVS

namespace Lk06
open PySem L2 DV DVL DVB DVS
local macro_rules
  | `(tactic| get_elem_tactic_trivial) => `(tactic| first
    | (simp only [List.set_cons_succ, List.set_cons_zero, DV.startE, DV.lawE, DV.toK, DV.lockE, DV.wipeE, List.map_cons, List.map_nil, List.length_cons, List.length_nil, List.replicate_zero, List.replicate_succ, Nat.reduceSub, Nat.reduceAdd, List.append_nil, List.cons_append, List.nil_append]; rfl)
    | exact rfl)
local macro_rules
  | `(tactic| infer_instance) => `(tactic| first
    | with_reducible refine DV.w_cons ?_
    | with_reducible refine DV.w_var (by with_unfolding_all exact rfl) ?_
    | with_reducible refine DV.w_c ?_
    | with_reducible refine DV.w_nil ?_
    | with_reducible refine DV.w_e2 ?_
    | with_reducible refine DV.w_seq ?_
    | with_reducible refine DV.w_seqN ?_
    | with_reducible refine DV.w_seqR ?_
    | with_reducible refine DV.w_seqB ?_
    | with_reducible refine DV.w_seqC ?_
    | with_reducible refine DV.w_call ?_
    | with_reducible refine DV.w_fn ?_
    | with_reducible refine DV.w_f1 ?_
    | with_reducible refine DV.w_f2 ?_
    | with_reducible refine DV.w_f3 ?_
    | with_reducible refine DV.w_f4 ?_
    | with_reducible refine DV.w_f5 ?_
    | with_reducible refine DV.w_f6 ?_
    | with_reducible refine DV.w_set ?_
    | with_reducible refine DV.w_setApp ?_
    | with_reducible refine DV.w_setX (by with_unfolding_all exact rfl) (by with_unfolding_all (simp only [List.set_cons_succ, List.set_cons_zero]; rfl)) ?_
    | with_reducible refine DV.w_rt ?_
    | with_reducible refine DV.w_rtD ?_
    | with_reducible refine DV.w_rtN ?_
    | with_reducible refine DV.w_rtV (by with_unfolding_all exact rfl) ?_
    | with_reducible refine DV.w_if ?_
    | with_reducible refine DV.w_drop ?_
    | with_reducible refine DV.w_nop ?_
    | with_reducible refine DV.w_T ?_
    | with_reducible refine DV.w_B ?_
    | with_reducible refine DV.w_not ?_
    | with_reducible refine DV.w_and ?_
    | with_reducible refine DV.w_or ?_
    | with_reducible refine DV.w_ifT ?_
    | with_reducible refine DV.w_ifF ?_
    | with_reducible refine DV.w_ifNT ?_
    | with_reducible refine DV.w_ifNF ?_
    | with_reducible refine DV.w_stup ?_
    | with_reducible refine DV.w_stupD (by with_unfolding_all (simp only [DV.wipeE, DV.gTupF, DV.gMore, DV.gNone, DV.gNm, List.set_cons_succ, List.set_cons_zero, List.length]; rfl)) ?_
    | with_reducible refine DV.w_aug (by with_unfolding_all exact rfl) ?_
    | with_reducible refine DV.w_I ?_
    | with_reducible refine DV.w_app (by with_unfolding_all exact rfl) (by simp only [List.length_map]; omega) ?_
    | with_reducible refine DV.w_D ?_
    | with_reducible refine DV.w_for ?_
    | with_reducible refine DV.w_lc ?_
    | with_reducible refine DV.w_par ?_
    | with_reducible refine DV.w_par3 ?_
    | with_reducible refine DV.w_par4 ?_
    | with_reducible refine DV.w_parX (by with_unfolding_all exact rfl) (by with_unfolding_all exact rfl) (by with_unfolding_all (simp only [List.set_cons_succ, List.set_cons_zero]; rfl)) ?_
    | with_reducible refine DV.w_par3X (by with_unfolding_all exact rfl) (by with_unfolding_all exact rfl) (by with_unfolding_all exact rfl) (by with_unfolding_all (simp only [List.set_cons_succ, List.set_cons_zero]; rfl)) ?_
    | with_reducible refine DV.w_par4X (by with_unfolding_all exact rfl) (by with_unfolding_all exact rfl) (by with_unfolding_all exact rfl) (by with_unfolding_all exact rfl) (by with_unfolding_all (simp only [List.set_cons_succ, List.set_cons_zero]; rfl)) ?_
    | with_reducible refine DV.w_tup ?_
    | with_reducible refine DV.w_lst ?_
    | with_reducible refine DV.w_tu (by with_unfolding_all exact rfl) (by with_unfolding_all exact Nat.le_of_ble_eq_true rfl) ?_
    | with_reducible refine DV.w_ls (by with_unfolding_all exact rfl) (by with_unfolding_all exact Nat.le_of_ble_eq_true rfl) ?_
    | with_reducible refine DV.w_neg ?_
    | with_reducible refine DV.w_ifB ?_
    | with_reducible refine DV.w_ifE ?_
    | with_reducible refine DV.w_notB ?_
    | with_reducible refine DV.w_tt ?_
    | with_reducible refine DV.w_ch ?_
    | with_reducible refine DV.w_add ?_
    | with_reducible refine DV.w_sub ?_
    | with_reducible refine DV.w_mul (by first | omega | (left; constructor <;> omega) | (right; constructor <;> omega)) ?_
    | with_reducible refine DV.w_mod (by omega) ?_
    | with_reducible refine DV.w_div (by omega) ?_
    | with_reducible refine DV.w_lt ?_
    | with_reducible refine DV.w_le ?_
    | with_reducible refine DV.w_gt ?_
    | with_reducible refine DV.w_ge ?_
    | with_reducible refine DV.w_ltA ?_
    | with_reducible refine DV.w_leA ?_
    | with_reducible refine DV.w_gtA ?_
    | with_reducible refine DV.w_geA ?_
    | with_reducible refine DV.w_eq ?_
    | with_reducible refine DV.w_ne ?_
    | with_reducible refine DV.w_eqB ?_
    | with_reducible refine DV.w_neB ?_
    | with_reducible refine DV.w_eqN ?_
    | with_reducible refine DV.w_neN ?_
    | with_reducible refine DV.w_eqN0 ?_
    | with_reducible refine DV.w_neN0 ?_
    | with_reducible refine DV.w_in ?_
    | with_reducible refine DV.w_inB ?_
    | with_reducible refine DV.w_notIn ?_
    | with_reducible refine DV.w_notInB ?_
    | with_reducible refine DV.w_ix0 ?_
    | with_reducible refine DV.w_ix1 ?_
    | with_reducible refine DV.w_ix (by omega) ?_
    | with_reducible refine DV.w_ixB (by omega) ?_
    | with_reducible refine DV.w_len ?_
    | with_reducible refine DV.w_lenB ?_
    | with_reducible refine DV.w_lenN ?_
    | with_reducible refine DV.w_lenM ?_
    | with_reducible refine DV.w_lenMB ?_
    | with_reducible refine DV.w_lenMN ?_
    | with_reducible refine DV.w_lenD ?_
    | with_reducible refine DV.w_lenDB ?_
    | with_reducible refine DV.w_lenDN ?_
    | with_reducible refine DV.w_tupN ?_
    | with_reducible refine DV.w_tupB ?_
    | with_reducible refine DV.w_tupD ?_
    | with_reducible refine DV.w_lstD ?_
    | with_reducible refine DV.w_lstB ?_
    | with_reducible refine DV.w_lstN ?_
    | with_reducible refine DV.w_sum ?_
    | with_reducible refine DV.w_sumN ?_
    | with_reducible refine DV.w_sumB ?_
    | with_reducible refine DV.w_max2 ?_
    | with_reducible refine DV.w_min2 ?_
    | with_reducible refine DV.w_int ?_
    | with_reducible refine DV.w_sort ?_
    | with_reducible refine DV.w_sortN ?_
    | with_reducible refine DV.w_sortB ?_
    | with_reducible refine DV.w_rep (by omega) ?_
    | with_reducible refine DV.w_repN (by omega) ?_
    | with_reducible refine DV.w_moveG (by with_unfolding_all exact rfl) (by with_unfolding_all (simp only [List.set_cons_succ, List.set_cons_zero]; rfl)) ?_
    | with_reducible refine DV.w_moveO (by with_unfolding_all exact rfl) (by with_unfolding_all (simp only [List.set_cons_succ, List.set_cons_zero]; rfl)) ?_
    | with_reducible refine DV.w_moveD (by with_unfolding_all exact rfl) (by with_unfolding_all (simp only [List.set_cons_succ, List.set_cons_zero]; rfl)) ?_
    | with_reducible refine DV.w_catTI (by (try simp only [List.length_append, List.length_take, List.length_drop, List.length_cons, List.length_nil]); omega) ?_
    | with_reducible refine DV.w_catT1 (by (try simp only [List.length_append, List.length_take, List.length_drop, List.length_cons, List.length_nil]); omega) ?_
    | with_reducible refine DV.w_listG ?_
    | with_reducible refine DV.w_sortK ?_
    | with_reducible refine DV.w_colS ?_
    | with_reducible refine DV.w_itT ?_
    | with_reducible refine DV.w_itB ?_
    | with_reducible refine DV.w_itN ?_
    | with_reducible refine DV.w_colR ?_
    | with_reducible refine DV.w_colRN (by omega) ?_
    | with_reducible refine DV.w_ext (by with_unfolding_all exact rfl) ?_
    | with_reducible refine DV.w_lc2 ?_
    | with_reducible refine DV.w_isT ?_
    | with_reducible refine DV.w_isNN ?_
    | with_reducible refine DV.w_isNI ?_
    | with_reducible refine DV.w_isNT ?_
    | with_reducible refine DV.w_ntNN ?_
    | with_reducible refine DV.w_ntNI ?_
    | with_reducible refine DV.w_ntNT ?_
    | with_reducible refine DV.w_repND (by omega) ?_
    | with_reducible refine DV.w_put (by with_unfolding_all exact rfl) ?_
    | with_reducible refine DV.w_putI (by (try simp only [List.length_set, List.length_replicate, List.length_map]); omega) ?_
    | with_reducible refine DV.w_eqB0 ?_
    | with_reducible refine DV.w_neB0 ?_
    | with_reducible refine DV.w_eqBB ?_
    | with_reducible refine DV.w_neBB ?_
    | with_reducible refine DV.w_eqNB ?_
    | with_reducible refine DV.w_neNB ?_
    | with_reducible refine DV.w_eqBN ?_
    | with_reducible refine DV.w_neBN ?_
    | with_reducible refine DV.w_eqT0 ?_
    | with_reducible refine DV.w_neT0 ?_
    | with_reducible refine DV.w_eqT ?_
    | with_reducible refine DV.w_neT ?_
    | with_reducible refine DV.w_gget ?_
    | with_reducible refine DV.w_dc ?_
    | with_reducible refine DV.w_dcN ?_
    | with_reducible refine DV.w_G ?_
    | with_reducible refine DV.w_gput ?_
    | with_reducible refine DV.w_gnew ?_
    | with_reducible refine DV.w_g1 ?_
    | with_reducible refine DV.w_ret ?_
    | with_reducible refine DV.w_slice ?_
    | with_reducible refine DV.w_part ?_
    | with_reducible refine DV.w_slToI (by omega) ?_
    | with_reducible refine DV.w_slFromI (by omega) ?_
    | with_reducible refine DV.w_slToBI (by omega) ?_
    | with_reducible refine DV.w_slFromBI (by omega) ?_
    | with_reducible refine DV.w_star ?_
    | with_reducible refine DV.w_starT ?_
    | with_reducible refine DV.w_starB ?_
    | with_reducible refine DV.w_starN ?_
    | with_reducible refine DV.w_ixR (by omega) ?_
    | with_reducible refine DV.w_ixRB (by omega) ?_
    | with_reducible refine DV.w_lrg ?_
    | with_reducible refine DV.w_trg ?_
    | with_reducible refine DV.w_rg (by omega) ?_
    | with_reducible refine DV.w_enum ?_
    | with_reducible refine DV.w_zip ?_
    | with_reducible refine DV.w_zip3 ?_
    | with_reducible refine DV.w_step ?_
    | with_reducible refine DV.w_stepB (by omega) ?_
    | with_reducible refine DV.w_srev ?_
    | with_reducible refine DV.w_srevT ?_
    | with_reducible refine DV.w_isTT ?_
    | with_reducible refine DV.w_ntTT ?_
    | with_reducible refine DV.w_isFT ?_
    | with_reducible refine DV.w_ntFT ?_
    | with_reducible refine DV.w_isTF ?_
    | with_reducible refine DV.w_ntTF ?_
    | with_reducible refine DV.w_isFF ?_
    | with_reducible refine DV.w_ntFF ?_
    | with_reducible refine DV.w_ixS (by omega) ?_
    | with_reducible refine DV.w_ix2 ?_
    | with_reducible refine DV.w_gget2 ?_
    | with_reducible refine DV.w_notInTs ?_
    | with_reducible refine DV.w_inTs ?_
    | with_reducible refine DV.w_inTsN ?_
    | with_reducible refine DV.w_sset ?_
    | with_reducible refine DV.w_ssetU (by omega) (by assumption) ?_
    | with_reducible refine DV.w_met ?_
    | with_reducible refine DV.w_itL ?_
    | with_reducible refine DV.w_two ?_
    | with_reducible refine DV.w_twoX ?_
    | with_reducible refine DV.w_neS ?_
    | with_reducible refine DV.w_eqS ?_
    | with_reducible refine DV.w_rev ?_
    | with_reducible refine DV.w_revN ?_
    | with_reducible refine DV.w_lset ?_
    | with_reducible refine DV.w_isNL ?_
    | with_reducible refine DV.w_isBL ?_
    | with_reducible refine DV.w_ntNL ?_
    | with_reducible refine DV.w_ntBL ?_
    | with_reducible refine DV.w_abs ?_
    | with_reducible refine DV.w_neBl ?_
    | with_reducible refine DV.w_eqBl ?_
    | with_reducible refine DV.w_eqIP ?_
    | with_reducible refine DV.w_neIP ?_
    | with_reducible refine DV.w_ix3 ?_
    | with_reducible refine DVR.w_neW ?_
    | with_reducible refine DVR.w_ixL (by omega) ?_
    | with_reducible refine DV.w_dcomp ?_
    | with_reducible refine DV.w_intB ?_
    | with_reducible refine DV.w_augIx (by with_unfolding_all exact rfl) ?_
    | with_reducible refine DV.w_inN ?_
    | with_reducible refine DV.w_notInN ?_
    | with_reducible refine DV.w_srcE ?_
    | with_reducible refine DV.w_srcV (by with_unfolding_all exact rfl) ?_
    | with_reducible refine DV.w_src (by with_unfolding_all exact rfl) ?_
    | with_reducible refine DV.w_rng1 ?_
    | with_reducible refine DV.w_rng2 ?_
    | with_reducible refine DV.w_rng2I (by omega) ?_
    | with_reducible refine DV.w_rngN (by omega) ?_
    | with_reducible refine DV.w_rngI (by omega) ?_
    | with_reducible refine DV.w_loopN ?_
    | with_reducible refine DV.w_loopC ?_
    | with_reducible refine DV.w_loopB ?_
    | with_reducible refine DV.w_loopR ?_
    | with_reducible refine DV.w_runN ?_
    | with_reducible refine DV.w_runR ?_
    | with_reducible refine DV.w_tg (by with_unfolding_all (simp only [DV.lockE, DV.unlockE, List.getElem?_cons_succ, List.getElem?_cons_zero, DV.wipeE, DV.gTupF, DV.gMore, DV.gNone, DV.gNm, List.set_cons_succ, List.set_cons_zero, List.length]; rfl)) ?_)
/-- pairs drawn along an order -/
structure Dr (n : Nat) (q : List Int) (P : List (Int × Int)) : Prop where
  at_ : ∀ p ∈ P, ∃ a b : Nat, a < b ∧ b < n ∧ q[a]? = some p.1 ∧ q[b]? = some p.2
def tri (n : Nat) : Nat → Nat
  | 0 => 0
  | u + 1 => tri n u + (n - 1 - u)
theorem tri_le : ∀ n, n ≤ 9 → ∀ u, u ≤ n → tri n u ≤ 36 := by decide
theorem pairs_gives {n : Nat} (hn1 : 1 ≤ n) (hn : n ≤ 9) : DV.Gives (m__law_pairs [.row, .d (.int (n : Nat))]) fun r => ∃ P : List (Int × Int), r = .d (prT P) ∧ Prs n P ∧ P.length ≤ 36 := by
  unfold m__law_pairs
  refine DV.w_run (by get_elem_tactic_trivial) ?_
  unfold g__law_pairs
  repeat infer_instance
  refine w_use (order_gives n (by omega)) fun r ⟨q, e, hp⟩ => ?_
  subst e
  have hql : q.length = n := by rw [hp.length_eq, rngI_len]
  repeat infer_instance
  refine w_use (pick_gives _ (by decide) (by decide)) fun r ⟨d, hd, e⟩ => ?_
  subst e
  have hd : ∃ k : Int, d = .int k ∧ 1 ≤ k ∧ k ≤ 6 := by
    rcases List.mem_cons.mp hd with z | z
    · exact ⟨2, z, by omega, by omega⟩
    rcases List.mem_cons.mp z with z | z
    · exact ⟨3, z, by omega, by omega⟩
    rcases List.mem_cons.mp z with z | z
    · exact ⟨6, z, by omega, by omega⟩
    cases z
  obtain ⟨k, rfl, hk1, hk2⟩ := hd
  repeat infer_instance
  refine w_loop0 (fun rest ρ => ∃ (u : Nat) (F : List (Int × Int)) (y5 y6 : Option SV), rest = rngI (u : Int) (n - u) ∧ u ≤ n ∧ Dr n q F ∧ F.length ≤ tri n u ∧ ρ = [some .row, some (.d (.int (n : Nat))), some (.d (ti q)), some (.o (F.map pr)), some (.d (.int k)), y5, y6]) ⟨0, [], _, _, rfl, Nat.zero_le _, ⟨(fun _ h => nomatch h)⟩, Nat.le_refl _, rfl⟩ ?_ ?_
  · rintro i rest ρ ⟨u, F, y5, y6, hr, hu, hD, hFl, rfl⟩
    obtain ⟨e1, hun, e2⟩ := rng_step hr
    subst e1
    have htr := tri_le n hn (u + 1) (by omega)
    have htr2 : tri n (u + 1) = tri n u + (n - 1 - u) := rfl
    repeat infer_instance
    refine w_loop0 (fun rest ρ => ∃ (v m : Nat) (F : List (Int × Int)) (y6 : Option SV), rest = rngI (v : Int) m ∧ u < v ∧ v + m = n ∧ Dr n q F ∧ F.length + m ≤ tri n (u + 1) ∧ ρ = [some .row, some (.d (.int (n : Nat))), some (.d (ti q)), some (.o (F.map pr)), some (.d (.int k)), some (.d (.int (u : Int))), y6]) ⟨u + 1, n - (u + 1), F, _, by congr 1; omega, by omega, by omega, hD, by omega, rfl⟩ ?_ ?_
    · rintro x rest ρ ⟨v, m, F, y6, hr2, hv1, hv2, hD, hFl, rfl⟩
      cases m with
      | zero => cases hr2
      | succ m =>
        obtain ⟨rfl, rfl⟩ := List.cons.inj hr2
        repeat infer_instance
        refine w_use (taken_eq k (by omega) (by omega)) fun r ⟨t, e, t1, t2⟩ => ?_
        subst e
        repeat infer_instance
        refine w_dec (fun h => ?_) (fun h => ?_)
        · have a : q[u]? = some (val q (u : Int)) := by rw [val_get (by omega), List.getElem?_eq_getElem (by omega)]
          have b : q[v]? = some (val q (v : Int)) := by rw [val_get (by omega), List.getElem?_eq_getElem (by omega)]
          repeat infer_instance
          have e : F.map pr ++ [PyData.tuple [.int (val q (u : Int)), .int (val q (v : Int))]] = (F ++ [(val q (u : Int), val q (v : Int))]).map pr := by rw [List.map_append]; rfl
          rw [e]
          repeat infer_instance
          refine ⟨v + 1, m, _, _, rfl, by omega, by omega, ⟨fun p hp => ?_⟩, by rw [List.length_append, List.length_singleton]; omega, rfl⟩
          rcases List.mem_append.mp hp with z | z
          · exact hD.at_ p z
          · cases List.mem_singleton.mp z
            exact ⟨u, v, hv1, by omega, a, b⟩
        · repeat infer_instance
          exact ⟨v + 1, m, F, _, rfl, by omega, by omega, hD, by omega, rfl⟩
    · rintro ρ ⟨v, m, F, y6, hr2, hv1, hv2, hD, hFl, rfl⟩
      cases m with
      | succ m => cases hr2
      | zero =>
        repeat infer_instance
        exact ⟨u + 1, F, _, _, e2, by omega, hD, by omega, rfl⟩
  · rintro ρ ⟨u, F, y5, y6, hr, hu, hD, hFl, rfl⟩
    have hun := rng_end hr hu
    subst hun
    have htr := tri_le u hn u (Nat.le_refl _)
    repeat infer_instance
    have hnd : q.Nodup := hp.nodup_iff.mpr (rngI_nodup 0 u)
    refine ⟨F, rfl, ⟨fun p hp2 => ?_, ⟨fun x => q.idxOf x, fun p hp2 => ?_⟩, by omega⟩, by omega⟩
    · obtain ⟨a, b, h1, h2, h3, h4⟩ := hD.at_ p hp2
      have m1 := (mem_rngI ..).mp (hp.mem_iff.mp (List.mem_of_getElem? h3))
      have m2 := (mem_rngI ..).mp (hp.mem_iff.mp (List.mem_of_getElem? h4))
      omega
    · obtain ⟨a, b, h1, h2, h3, h4⟩ := hD.at_ p hp2
      have i1 : q.idxOf p.1 = a := by
        obtain ⟨l, e⟩ := List.getElem?_eq_some_iff.mp h3
        rw [← e]
        exact List.Nodup.idxOf_getElem hnd a l
      have i2 : q.idxOf p.2 = b := by
        obtain ⟨l, e⟩ := List.getElem?_eq_some_iff.mp h4
        rw [← e]
        exact List.Nodup.idxOf_getElem hnd b l
      show q.idxOf p.1 < q.idxOf p.2
      omega

end Lk06

namespace Lk06
open PySem L2 DV DVL DVB DVS DVJ
local macro_rules
  | `(tactic| get_elem_tactic_trivial) => `(tactic| first
    | (simp only [List.set_cons_succ, List.set_cons_zero, DV.startE, DV.lawE, DV.toK, DV.lockE, DV.wipeE, List.map_cons, List.map_nil, List.length_cons, List.length_nil, List.replicate_zero, List.replicate_succ, Nat.reduceSub, Nat.reduceAdd, List.append_nil, List.cons_append, List.nil_append]; rfl)
    | exact rfl)
local macro_rules
  | `(tactic| infer_instance) => `(tactic| first
    | with_reducible refine DV.w_cons ?_
    | with_reducible refine DV.w_var (by with_unfolding_all exact rfl) ?_
    | with_reducible refine DV.w_c ?_
    | with_reducible refine DV.w_nil ?_
    | with_reducible refine DV.w_e2 ?_
    | with_reducible refine DV.w_seq ?_
    | with_reducible refine DV.w_seqN ?_
    | with_reducible refine DV.w_seqR ?_
    | with_reducible refine DV.w_seqB ?_
    | with_reducible refine DV.w_seqC ?_
    | with_reducible refine DV.w_call ?_
    | with_reducible refine DV.w_fn ?_
    | with_reducible refine DV.w_f1 ?_
    | with_reducible refine DV.w_f2 ?_
    | with_reducible refine DV.w_f3 ?_
    | with_reducible refine DV.w_f4 ?_
    | with_reducible refine DV.w_f5 ?_
    | with_reducible refine DV.w_f6 ?_
    | with_reducible refine DV.w_set ?_
    | with_reducible refine DV.w_setApp ?_
    | with_reducible refine DV.w_setX (by with_unfolding_all exact rfl) (by with_unfolding_all (simp only [List.set_cons_succ, List.set_cons_zero]; rfl)) ?_
    | with_reducible refine DV.w_rt ?_
    | with_reducible refine DV.w_rtD ?_
    | with_reducible refine DV.w_rtN ?_
    | with_reducible refine DV.w_rtV (by with_unfolding_all exact rfl) ?_
    | with_reducible refine DV.w_if ?_
    | with_reducible refine DV.w_drop ?_
    | with_reducible refine DV.w_nop ?_
    | with_reducible refine DV.w_T ?_
    | with_reducible refine DV.w_B ?_
    | with_reducible refine DV.w_not ?_
    | with_reducible refine DV.w_and ?_
    | with_reducible refine DV.w_or ?_
    | with_reducible refine DV.w_ifT ?_
    | with_reducible refine DV.w_ifF ?_
    | with_reducible refine DV.w_ifNT ?_
    | with_reducible refine DV.w_ifNF ?_
    | with_reducible refine DV.w_stup ?_
    | with_reducible refine DV.w_stupD (by with_unfolding_all (simp only [DV.wipeE, DV.gTupF, DV.gMore, DV.gNone, DV.gNm, List.set_cons_succ, List.set_cons_zero, List.length]; rfl)) ?_
    | with_reducible refine DV.w_aug (by with_unfolding_all exact rfl) ?_
    | with_reducible refine DV.w_I ?_
    | with_reducible refine DV.w_app (by with_unfolding_all exact rfl) (by simp only [List.length_map]; omega) ?_
    | with_reducible refine DV.w_D ?_
    | with_reducible refine DV.w_for ?_
    | with_reducible refine DV.w_lc ?_
    | with_reducible refine DV.w_par ?_
    | with_reducible refine DV.w_par3 ?_
    | with_reducible refine DV.w_par4 ?_
    | with_reducible refine DV.w_parX (by with_unfolding_all exact rfl) (by with_unfolding_all exact rfl) (by with_unfolding_all (simp only [List.set_cons_succ, List.set_cons_zero]; rfl)) ?_
    | with_reducible refine DV.w_par3X (by with_unfolding_all exact rfl) (by with_unfolding_all exact rfl) (by with_unfolding_all exact rfl) (by with_unfolding_all (simp only [List.set_cons_succ, List.set_cons_zero]; rfl)) ?_
    | with_reducible refine DV.w_par4X (by with_unfolding_all exact rfl) (by with_unfolding_all exact rfl) (by with_unfolding_all exact rfl) (by with_unfolding_all exact rfl) (by with_unfolding_all (simp only [List.set_cons_succ, List.set_cons_zero]; rfl)) ?_
    | with_reducible refine DV.w_tup ?_
    | with_reducible refine DV.w_lst ?_
    | with_reducible refine DV.w_tu (by with_unfolding_all exact rfl) (by with_unfolding_all exact Nat.le_of_ble_eq_true rfl) ?_
    | with_reducible refine DV.w_ls (by with_unfolding_all exact rfl) (by with_unfolding_all exact Nat.le_of_ble_eq_true rfl) ?_
    | with_reducible refine DV.w_neg ?_
    | with_reducible refine DV.w_ifB ?_
    | with_reducible refine DV.w_ifE ?_
    | with_reducible refine DV.w_notB ?_
    | with_reducible refine DV.w_tt ?_
    | with_reducible refine DV.w_ch ?_
    | with_reducible refine DV.w_add ?_
    | with_reducible refine DV.w_sub ?_
    | with_reducible refine DV.w_mul (by first | omega | (left; constructor <;> omega) | (right; constructor <;> omega)) ?_
    | with_reducible refine DV.w_mod (by omega) ?_
    | with_reducible refine DV.w_div (by omega) ?_
    | with_reducible refine DV.w_lt ?_
    | with_reducible refine DV.w_le ?_
    | with_reducible refine DV.w_gt ?_
    | with_reducible refine DV.w_ge ?_
    | with_reducible refine DV.w_ltA ?_
    | with_reducible refine DV.w_leA ?_
    | with_reducible refine DV.w_gtA ?_
    | with_reducible refine DV.w_geA ?_
    | with_reducible refine DV.w_eq ?_
    | with_reducible refine DV.w_ne ?_
    | with_reducible refine DV.w_eqB ?_
    | with_reducible refine DV.w_neB ?_
    | with_reducible refine DV.w_eqN ?_
    | with_reducible refine DV.w_neN ?_
    | with_reducible refine DV.w_eqN0 ?_
    | with_reducible refine DV.w_neN0 ?_
    | with_reducible refine DV.w_in ?_
    | with_reducible refine DV.w_inB ?_
    | with_reducible refine DV.w_notIn ?_
    | with_reducible refine DV.w_notInB ?_
    | with_reducible refine DV.w_ix0 ?_
    | with_reducible refine DV.w_ix1 ?_
    | with_reducible refine DV.w_ix (by omega) ?_
    | with_reducible refine DV.w_ixB (by omega) ?_
    | with_reducible refine DV.w_len ?_
    | with_reducible refine DV.w_lenB ?_
    | with_reducible refine DV.w_lenN ?_
    | with_reducible refine DV.w_lenM ?_
    | with_reducible refine DV.w_lenMB ?_
    | with_reducible refine DV.w_lenMN ?_
    | with_reducible refine DV.w_lenD ?_
    | with_reducible refine DV.w_lenDB ?_
    | with_reducible refine DV.w_lenDN ?_
    | with_reducible refine DV.w_tupN ?_
    | with_reducible refine DV.w_tupB ?_
    | with_reducible refine DV.w_tupD ?_
    | with_reducible refine DV.w_lstD ?_
    | with_reducible refine DV.w_lstB ?_
    | with_reducible refine DV.w_lstN ?_
    | with_reducible refine DV.w_sum ?_
    | with_reducible refine DV.w_sumN ?_
    | with_reducible refine DV.w_sumB ?_
    | with_reducible refine DV.w_max2 ?_
    | with_reducible refine DV.w_min2 ?_
    | with_reducible refine DV.w_int ?_
    | with_reducible refine DV.w_sort ?_
    | with_reducible refine DV.w_sortN ?_
    | with_reducible refine DV.w_sortB ?_
    | with_reducible refine DV.w_rep (by omega) ?_
    | with_reducible refine DV.w_repN (by omega) ?_
    | with_reducible refine DV.w_moveG (by with_unfolding_all exact rfl) (by with_unfolding_all (simp only [List.set_cons_succ, List.set_cons_zero]; rfl)) ?_
    | with_reducible refine DV.w_moveO (by with_unfolding_all exact rfl) (by with_unfolding_all (simp only [List.set_cons_succ, List.set_cons_zero]; rfl)) ?_
    | with_reducible refine DV.w_moveD (by with_unfolding_all exact rfl) (by with_unfolding_all (simp only [List.set_cons_succ, List.set_cons_zero]; rfl)) ?_
    | with_reducible refine DV.w_catTI (by (try simp only [List.length_append, List.length_take, List.length_drop, List.length_cons, List.length_nil]); omega) ?_
    | with_reducible refine DV.w_catT1 (by (try simp only [List.length_append, List.length_take, List.length_drop, List.length_cons, List.length_nil]); omega) ?_
    | with_reducible refine DV.w_listG ?_
    | with_reducible refine DV.w_sortK ?_
    | with_reducible refine DV.w_colS ?_
    | with_reducible refine DV.w_itT ?_
    | with_reducible refine DV.w_itB ?_
    | with_reducible refine DV.w_itN ?_
    | with_reducible refine DV.w_colR ?_
    | with_reducible refine DV.w_colRN (by omega) ?_
    | with_reducible refine DV.w_ext (by with_unfolding_all exact rfl) ?_
    | with_reducible refine DV.w_lc2 ?_
    | with_reducible refine DV.w_isT ?_
    | with_reducible refine DV.w_isNN ?_
    | with_reducible refine DV.w_isNI ?_
    | with_reducible refine DV.w_isNT ?_
    | with_reducible refine DV.w_ntNN ?_
    | with_reducible refine DV.w_ntNI ?_
    | with_reducible refine DV.w_ntNT ?_
    | with_reducible refine DV.w_repND (by omega) ?_
    | with_reducible refine DV.w_put (by with_unfolding_all exact rfl) ?_
    | with_reducible refine DV.w_putI (by (try simp only [List.length_set, List.length_replicate, List.length_map]); omega) ?_
    | with_reducible refine DV.w_eqB0 ?_
    | with_reducible refine DV.w_neB0 ?_
    | with_reducible refine DV.w_eqBB ?_
    | with_reducible refine DV.w_neBB ?_
    | with_reducible refine DV.w_eqNB ?_
    | with_reducible refine DV.w_neNB ?_
    | with_reducible refine DV.w_eqBN ?_
    | with_reducible refine DV.w_neBN ?_
    | with_reducible refine DV.w_eqT0 ?_
    | with_reducible refine DV.w_neT0 ?_
    | with_reducible refine DV.w_eqT ?_
    | with_reducible refine DV.w_neT ?_
    | with_reducible refine DV.w_gget ?_
    | with_reducible refine DV.w_dc ?_
    | with_reducible refine DV.w_dcN ?_
    | with_reducible refine DV.w_G ?_
    | with_reducible refine DV.w_gput ?_
    | with_reducible refine DV.w_gnew ?_
    | with_reducible refine DV.w_g1 ?_
    | with_reducible refine DV.w_ret ?_
    | with_reducible refine DV.w_slice ?_
    | with_reducible refine DV.w_part ?_
    | with_reducible refine DV.w_slToI (by omega) ?_
    | with_reducible refine DV.w_slFromI (by omega) ?_
    | with_reducible refine DV.w_slToBI (by omega) ?_
    | with_reducible refine DV.w_slFromBI (by omega) ?_
    | with_reducible refine DV.w_star ?_
    | with_reducible refine DV.w_starT ?_
    | with_reducible refine DV.w_starB ?_
    | with_reducible refine DV.w_starN ?_
    | with_reducible refine DV.w_ixR (by omega) ?_
    | with_reducible refine DV.w_ixRB (by omega) ?_
    | with_reducible refine DV.w_lrg ?_
    | with_reducible refine DV.w_trg ?_
    | with_reducible refine DV.w_rg (by omega) ?_
    | with_reducible refine DV.w_enum ?_
    | with_reducible refine DV.w_zip ?_
    | with_reducible refine DV.w_zip3 ?_
    | with_reducible refine DV.w_step ?_
    | with_reducible refine DV.w_stepB (by omega) ?_
    | with_reducible refine DV.w_srev ?_
    | with_reducible refine DV.w_srevT ?_
    | with_reducible refine DV.w_isTT ?_
    | with_reducible refine DV.w_ntTT ?_
    | with_reducible refine DV.w_isFT ?_
    | with_reducible refine DV.w_ntFT ?_
    | with_reducible refine DV.w_isTF ?_
    | with_reducible refine DV.w_ntTF ?_
    | with_reducible refine DV.w_isFF ?_
    | with_reducible refine DV.w_ntFF ?_
    | with_reducible refine DV.w_ixS (by omega) ?_
    | with_reducible refine DV.w_ix2 ?_
    | with_reducible refine DV.w_gget2 ?_
    | with_reducible refine DV.w_notInTs ?_
    | with_reducible refine DV.w_inTs ?_
    | with_reducible refine DV.w_inTsN ?_
    | with_reducible refine DV.w_sset ?_
    | with_reducible refine DV.w_ssetU (by omega) (by assumption) ?_
    | with_reducible refine DV.w_met ?_
    | with_reducible refine DV.w_itL ?_
    | with_reducible refine DV.w_two ?_
    | with_reducible refine DV.w_twoX ?_
    | with_reducible refine DV.w_neS ?_
    | with_reducible refine DV.w_eqS ?_
    | with_reducible refine DV.w_rev ?_
    | with_reducible refine DV.w_revN ?_
    | with_reducible refine DV.w_lset ?_
    | with_reducible refine DV.w_isNL ?_
    | with_reducible refine DV.w_isBL ?_
    | with_reducible refine DV.w_ntNL ?_
    | with_reducible refine DV.w_ntBL ?_
    | with_reducible refine DV.w_abs ?_
    | with_reducible refine DV.w_neBl ?_
    | with_reducible refine DV.w_eqBl ?_
    | with_reducible refine DV.w_eqIP ?_
    | with_reducible refine DV.w_neIP ?_
    | with_reducible refine DV.w_ix3 ?_
    | with_reducible refine DVR.w_neW ?_
    | with_reducible refine DVR.w_ixL (by omega) ?_
    | with_reducible refine DV.w_dcomp ?_
    | with_reducible refine DV.w_intB ?_
    | with_reducible refine DV.w_augIx (by with_unfolding_all exact rfl) ?_
    | with_reducible refine DV.w_inN ?_
    | with_reducible refine DV.w_notInN ?_
    | with_reducible refine DV.w_srcE ?_
    | with_reducible refine DV.w_srcV (by with_unfolding_all exact rfl) ?_
    | with_reducible refine DV.w_src (by with_unfolding_all exact rfl) ?_
    | with_reducible refine DV.w_rng1 ?_
    | with_reducible refine DV.w_rng2 ?_
    | with_reducible refine DV.w_rng2I (by omega) ?_
    | with_reducible refine DV.w_rngN (by omega) ?_
    | with_reducible refine DV.w_rngI (by omega) ?_
    | with_reducible refine DV.w_loopN ?_
    | with_reducible refine DV.w_loopC ?_
    | with_reducible refine DV.w_loopB ?_
    | with_reducible refine DV.w_loopR ?_
    | with_reducible refine DV.w_runN ?_
    | with_reducible refine DV.w_runR ?_
    | with_reducible refine DV.w_tg (by with_unfolding_all (simp only [DV.lockE, DV.unlockE, List.getElem?_cons_succ, List.getElem?_cons_zero, DV.wipeE, DV.gTupF, DV.gMore, DV.gNone, DV.gNm, List.set_cons_succ, List.set_cons_zero, List.length]; rfl)) ?_)
local macro_rules
  | `(tactic| infer_instance) => `(tactic| first
    | with_reducible refine DVJ.w_revF ?_
    | with_reducible refine DVJ.w_zk ?_)
structure Jb (ts ws dd : List Int) : Prop where
  tm : Tm ts
  lw : ws.length = ts.length
  wr : ∀ w ∈ ws, 0 ≤ w ∧ w ≤ 60
  dd : Dd ts dd
/-- the cost of a job -/
abbrev cF (ws dd : List Int) : Int → Int → Int := fun j e => val ws j * max 0 (e - val dd j)
theorem val_rg {l : List Int} {lo hi : Int} (h0 : lo ≤ 0 ∧ 0 ≤ hi) (h : ∀ x ∈ l, lo ≤ x ∧ x ≤ hi) (j : Int) : lo ≤ val l j ∧ val l j ≤ hi := by
  unfold val
  rw [List.getD_eq_getElem?_getD]
  cases e : l[j.toNat]? with
  | none => exact h0
  | some x => exact h x (List.mem_of_getElem? e)
section
variable {ts ws dd : List Int} {P : List (Int × Int)} {p : List Int} {e : Int → Int}
theorem Jb.mono (B : Jb ts ws dd) : ∀ j a b, a ≤ b → cF ws dd j a ≤ cF ws dd j b := fun j a b h => Int.mul_le_mul_of_nonneg_left (by omega) (val_rg (by omega) B.wr j).1
theorem cost_gives {w d t : Int} (h : 0 ≤ w ∧ w ≤ 60) : DV.Gives (m_cost_at [.d (.int w), .d (.int d), .d (.int t)]) fun r => r = .d (.int (w * max 0 (t - d))) := by
  unfold m_cost_at
  refine DV.w_run (by get_elem_tactic_trivial) ?_
  unfold g_cost_at
  repeat infer_instance
  rfl
theorem Jb.ens (B : Jb ts ws dd) : (ensI ts p).length = ts.length := by
  unfold ensI
  rw [fillG_len, List.length_replicate]
theorem greatest_in_gives (B : Jb ts ws dd) (hp : p.Perm (rngI 0 ts.length)) : DV.Gives (m_greatest_in [.d (ti ts), .d (ti ws), .d (ti dd), .d (ti p)]) fun r => r = .d (.int (grt ts (cF ws dd) p)) := by
  have W := B.tm
  have hpos := W.pos
  have hlen := W.len
  unfold m_greatest_in
  refine DV.w_run (by get_elem_tactic_trivial) ?_
  unfold g_greatest_in
  repeat infer_instance
  refine w_is (ends_in_gives ts p (by omega) (fun j hj => order_mem hp hj)) ?_
  refine ⟨_, rfl, ?_⟩
  have e1 : fillG (fun d t => d + t) ts 0 (List.replicate ts.length 0) p = ensI ts p := rfl
  rw [e1]
  refine DV.w_zip3V ts.length B.lw B.dd.len B.ens rfl rfl ?_
  refine w_zkK (by with_unfolding_all exact Nat.le_of_ble_eq_true rfl) (by get_elem_tactic_trivial) ?_
  refine w_lcI (L := rngI 0 ts.length) (fun j => cF ws dd j (val (ensI ts p) j)) (by rw [rngI_len]; omega) (fun j hj => ?_) ?_
  · repeat infer_instance
    refine w_is (cost_gives (val_rg (by omega) B.wr j)) ?_
    rfl
  repeat infer_instance
  refine w_maxN (fun z => ?_) fun m h1 h2 => ?_
  · have := congrArg List.length z
    rw [List.length_map, rngI_len] at this
    have this : ts.length = 0 := this
    omega
  refine ⟨_, rfl, ?_⟩
  repeat infer_instance
  rw [grt_ens hp ⟨h1, h2⟩]
theorem greatest_cost_gives (B : Jb ts ws dd) (hp : p.Perm (rngI 0 ts.length)) : DV.Gives (m_greatest_cost [.d (ti ts), .d (ti ws), .d (ti dd), .d (ti p)]) fun r => r = .d (.int (grt ts (cF ws dd) p)) := by
  have W := B.tm
  have hlen := W.len
  unfold m_greatest_cost
  refine DV.w_run (by get_elem_tactic_trivial) ?_
  unfold g_greatest_cost
  repeat infer_instance
  refine w_is (need_weighed_ok ts ws W B.lw B.wr) ?_
  repeat infer_instance
  refine w_is (need_dues_ok W B.dd) ?_
  repeat infer_instance
  refine w_is (need_order_ok p ts.length (by omega) hp) ?_
  repeat infer_instance
  refine w_is (greatest_in_gives B hp) ?_
  repeat infer_instance
  rfl
theorem law_greatest_gives (B : Jb ts ws dd) (hp : p.Perm (rngI 0 ts.length)) : DV.Gives (m__law_greatest [.d (ti ts), .d (ti ws), .d (ti dd), .d (ti p)]) fun r => r = .d (.int (grt ts (cF ws dd) p)) := by
  have W := B.tm
  have hpos := W.pos
  have hlen := W.len
  have hel := B.ens (p := p)
  have hwl := B.lw
  have hdl := B.dd.len
  unfold m__law_greatest
  refine DV.w_run (by get_elem_tactic_trivial) ?_
  unfold g__law_greatest
  repeat infer_instance
  refine w_is (law_ends_gives ts p (by omega) (fun j hj => order_mem hp hj)) ?_
  repeat infer_instance
  refine w_lcI (L := rngI 0 ts.length) (fun j => cF ws dd j (val (ensI ts p) j)) (by rw [rngI_len]; omega) (fun j hj => ?_) ?_
  · have hj := (mem_rngI _ _ _).mp hj
    have hw := val_rg (lo := 0) (hi := 60) (by omega) B.wr j
    repeat infer_instance
    rfl
  repeat infer_instance
  refine w_maxN (fun z => ?_) fun m h1 h2 => ?_
  · have := congrArg List.length z
    rw [List.length_map, rngI_len] at this
    have this : ts.length = 0 := this
    omega
  repeat infer_instance
  rw [grt_ens hp ⟨h1, h2⟩]
theorem law_late_gives (W : Tm ts) (hdl : dd.length = ts.length) (hp : p.Perm (rngI 0 ts.length)) : DV.Gives (m__law_late [.d (ti ts), .d (ti dd), .d (ti p)]) fun r => ∃ m, r = .d (.int m) ∧ MxL ((rngI 0 ts.length).map fun j => val (ensI ts p) j - val dd j) m := by
  have hpos := W.pos
  have hlen := W.len
  have hel : (ensI ts p).length = ts.length := by unfold ensI; rw [fillG_len, List.length_replicate]
  unfold m__law_late
  refine DV.w_run (by get_elem_tactic_trivial) ?_
  unfold g__law_late
  repeat infer_instance
  refine w_is (law_ends_gives ts p (by omega) (fun j hj => order_mem hp hj)) ?_
  repeat infer_instance
  refine w_lcI (L := rngI 0 ts.length) (fun j => val (ensI ts p) j - val dd j) (by rw [rngI_len]; omega) (fun j hj => ?_) ?_
  · have hj := (mem_rngI _ _ _).mp hj
    repeat infer_instance
    rfl
  repeat infer_instance
  refine w_maxN (fun z => ?_) fun m h1 h2 => ?_
  · have := congrArg List.length z
    rw [List.length_map, rngI_len] at this
    have this : ts.length = 0 := this
    omega
  repeat infer_instance
  exact ⟨m, rfl, h1, h2⟩
theorem need_costs_ok (B : Jb ts ws dd) (G : Prs ts.length P) : DV.Gives (m_need_costs [.d (ti ts), .d (ti ws), .d (ti dd), .d (prT P)]) fun r => r = .d .none := by
  have W := B.tm
  have hlen := W.len
  unfold m_need_costs
  refine DV.w_run (by get_elem_tactic_trivial) ?_
  unfold g_need_costs
  repeat infer_instance
  refine w_is (need_weighed_ok ts ws W B.lw B.wr) ?_
  repeat infer_instance
  refine w_is (need_dues_ok W B.dd) ?_
  repeat infer_instance
  refine w_is (need_pairs_ok (by omega) G) ?_
  repeat infer_instance
  rfl
theorem due_days_gives (B : Jb ts ws dd) (G : Prs ts.length P) (A : Eb ts.length (P.map sw) ts (fun j => - val dd j) e) : DV.Gives (m_due_days [.d (ti ts), .d (ti dd), .d (prT P)]) fun r => r = .d (ti ((rngI 0 ts.length).map fun j => - e j)) := by
  have W := B.tm
  have hlen := W.len
  have hdl := B.dd.len
  have hP := G.len
  obtain ⟨rk, hrk, hrn⟩ := prs_rk (prs_sw G)
  unfold m_due_days
  refine DV.w_run (by get_elem_tactic_trivial) ?_
  unfold g_due_days
  repeat infer_instance
  refine w_is (need_times_ok ts W.pos (by omega) W.tim) ?_
  repeat infer_instance
  refine w_is (need_dues_ok W B.dd) ?_
  repeat infer_instance
  refine w_is (need_pairs_ok (by omega) G) ?_
  repeat infer_instance
  generalize hn : ts.length = n at *
  refine w_loop0 (fun rest ρ => ∃ (k : Nat) (v : List Int) (y4 y5 y6 : Option SV), rest = rngI (k : Nat) (n - k) ∧ k ≤ n ∧ v.length = n ∧ Bf n (P.map sw) ts (fun j => - val dd j) e rk k [] (fun j => - val v j) ∧ ρ = [some (.d (ti ts)), some (.d (ti dd)), some (.d (prT P)), some (.o (v.map PyData.int)), y4, y5, y6]) ⟨0, dd, _, _, _, rfl, Nat.zero_le _, hdl, Bf.first A, rfl⟩ ?_ ?_
  · rintro x rest ρ ⟨k, v, y4, y5, y6, er, hk, hvl, F, rfl⟩
    obtain ⟨e1, hkn, e2⟩ := rng_step er
    repeat infer_instance
    refine w_loop0 (fun rest ρ => ∃ (ps : List (Int × Int)) (v : List Int) (y5 y6 : Option SV), P = ps ++ rest ∧ v.length = n ∧ Bf n (P.map sw) ts (fun j => - val dd j) e rk k (ps.map sw) (fun j => - val v j) ∧ ρ = [some (.d (ti ts)), some (.d (ti dd)), some (.d (prT P)), some (.o (v.map PyData.int)), some (.d (.int x)), y5, y6]) ⟨[], v, _, _, rfl, hvl, F, rfl⟩ ?_ ?_
    · rintro q rest2 ρ ⟨ps, v, y5, y6, hu, hvl, F, rfl⟩
      have hq : q ∈ P := by rw [hu]; exact List.mem_append_right _ List.mem_cons_self
      obtain ⟨r1, r2, r3⟩ := G.rg q hq
      repeat infer_instance
      refine ⟨ps ++ [q], _, _, _, by rw [hu, List.append_assoc]; rfl, by rw [List.length_set]; exact hvl, ?_, rfl⟩
      rw [List.map_append]
      refine F.step (prs_sw G) A (p := sw q) (mem_sw.mpr hq) (fun j h0 h1 => ?_) fun z hz => ?_
      · show - val _ j = if j = q.1 then max (- val v q.1) (- val v q.2 + val ts q.2) else - val v j
        rw [val_upd r1.1 (by omega) h0]
        split <;> omega
      · obtain ⟨y, hy, ey⟩ := List.mem_map.mp hz
        rw [← ey]
        exact List.mem_map.mpr ⟨y, by rw [hu]; exact List.mem_append_left _ hy, rfl⟩
    · rintro ρ ⟨ps, v, y5, y6, hu, hvl, F, rfl⟩
      rw [List.append_nil] at hu
      subst hu
      repeat infer_instance
      exact ⟨k + 1, v, _, _, _, e2, by omega, hvl, F.next (prs_sw G) A hrk, rfl⟩
  · rintro ρ ⟨k, v, y4, y5, y6, er, hk, hvl, F, rfl⟩
    have hkn := rng_end er hk
    subst hkn
    repeat infer_instance
    have : v = (rngI 0 k).map fun j => - e j := list_of hvl fun j h0 h1 => by
      have := F.ex j h0 h1 (hrn j h0 h1)
      have : - val v j = e j := this
      omega
    rw [this]
theorem least_gives (B : Jb ts ws dd) (G : Prs ts.length P) : DV.Gives (m_least_greatest [.d (ti ts), .d (ti ws), .d (ti dd), .d (prT P)]) fun r => ∃ o : List Int, r = .d (ti o) ∧ o.Perm (rngI 0 ts.length) ∧ DVL.Ord P o ∧ ∀ q, q.Perm (rngI 0 ts.length) → DVL.Ord P q → grt ts (cF ws dd) o ≤ grt ts (cF ws dd) q := by
  have W := B.tm
  have hpos := W.pos
  have hlen := W.len
  have hwl := B.lw
  have hdl := B.dd.len
  have hP := G.len
  have ht : ∀ j, 0 ≤ j → j < (ts.length : Int) → 0 ≤ val ts j := fun j h0 h1 => by have := W.t h0 h1; omega
  unfold m_least_greatest
  refine DV.w_run (by get_elem_tactic_trivial) ?_
  unfold g_least_greatest
  repeat infer_instance
  refine w_is (need_costs_ok B G) ?_
  repeat infer_instance
  refine DV.w_while (fun k ρ => ∃ (left f : List Int) (y6 y7 y8 y9 y10 : Option SV), left.length = k ∧ Lw ts.length P ts (cF ws dd) left f.reverse ∧ ρ = [some (.d (ti ts)), some (.d (ti ws)), some (.d (ti dd)), some (.d (prT P)), some (.o (left.map PyData.int)), some (.o (f.map PyData.int)), y6, y7, y8, y9, y10]) ts.length 100000 (by omega) ⟨rngI 0 ts.length, [], _, _, _, _, _, rngI_len 0 _, Lw.first, rfl⟩ ?_
  rintro k ρ ⟨left, f, y6, y7, y8, y9, y10, hk, L, rfl⟩
  have hll : left.length + f.length = ts.length := by
    have := L.perm.length_eq
    rw [List.length_append, List.length_reverse, rngI_len] at this
    exact this
  have hrg : ∀ j ∈ left, 0 ≤ j ∧ j < (ts.length : Int) := fun j hj => by have := (mem_rngI _ _ _).mp (L.perm.mem_iff.mp (List.mem_append_left _ hj)); omega
  repeat infer_instance
  refine w_ndec (fun hne => ?_) (fun he => ?_)
  · obtain ⟨k', rfl⟩ : ∃ k', k = k' + 1 := ⟨k - 1, by have := List.length_pos_iff.mpr hne; omega⟩
    refine ⟨k', rfl, ?_⟩
    repeat infer_instance
    refine w_lcI (L := left) (fun j => val ts j) (by omega) (fun j hj => ?_) ?_
    · have hj := hrg j hj
      repeat infer_instance
      rfl
    repeat infer_instance
    have eday : (left.map fun j => val ts j).sum = (left.map (val ts)).sum := rfl
    rw [eday]
    refine w_lcP (L := left) (fun j => !(P.any fun q => decide (q.1 = j) && left.elem q.2)) id (by omega) (fun j hj => ?_) ?_
    · repeat infer_instance
      refine w_lcM (L := P) (fun q => .bool (decide (q.1 = j) && left.elem q.2)) (by omega) (fun q hq => ?_) ?_
      · repeat infer_instance
        refine w_dec (fun h => ?_) (fun h => ?_)
        · repeat infer_instance
          rw [decide_eq_true h]
          rfl
        · repeat infer_instance
          rw [decide_eq_false h]
          rfl
      repeat infer_instance
      refine w_any (fun q : Int × Int => decide (q.1 = j) && left.elem q.2) ?_
      repeat infer_instance
      refine ⟨rfl, fun _ => ?_⟩
      repeat infer_instance
      rfl
    rw [List.map_id]
    have hab : ∀ j, j ∈ left.filter (fun j => !(P.any fun q => decide (q.1 = j) && left.elem q.2)) ↔ j ∈ left ∧ ∀ q ∈ P, q.1 = j → q.2 ∉ left := fun j => by
      rw [List.mem_filter]
      simp only [Bool.not_eq_true', List.any_eq_false, Bool.and_eq_true, decide_eq_true_eq, not_and, List.elem_iff]
    have hfl := List.length_filter_le (fun j => !(P.any fun q => decide (q.1 = j) && left.elem q.2)) left
    have hane : left.filter (fun j => !(P.any fun q => decide (q.1 = j) && left.elem q.2)) ≠ [] := by
      obtain ⟨rk, hrk⟩ := G.ac
      have main : ∀ (m : Nat) (L : List Int), L.length ≤ m → L ≠ [] → ∃ j ∈ L, ∀ i ∈ L, rk i ≤ rk j := fun m => by
        induction m with
        | zero => exact fun L h h2 => absurd (List.length_eq_zero_iff.mp (Nat.le_zero.mp h)) h2
        | succ m ih =>
          intro L h h2
          cases L with
          | nil => exact absurd rfl h2
          | cons a L =>
            by_cases h3 : L = []
            · exact ⟨a, List.mem_cons_self, fun i hi => by rw [h3] at hi; rw [List.mem_singleton.mp hi]; exact Nat.le_refl _⟩
            · obtain ⟨j, hj, h4⟩ := ih L (by rw [List.length_cons] at h; omega) h3
              by_cases h5 : rk j ≤ rk a
              · exact ⟨a, List.mem_cons_self, fun i hi => by
                  rcases List.mem_cons.mp hi with z | z
                  · rw [z]; exact Nat.le_refl _
                  · exact Nat.le_trans (h4 i z) h5⟩
              · exact ⟨j, List.mem_cons_of_mem _ hj, fun i hi => by
                  rcases List.mem_cons.mp hi with z | z
                  · rw [z]; omega
                  · exact h4 i z⟩
      obtain ⟨j, hj, h4⟩ := main _ left (Nat.le_refl _) hne
      have : j ∈ left.filter (fun j => !(P.any fun q => decide (q.1 = j) && left.elem q.2)) := (hab j).mpr ⟨hj, fun q hq eq h => by
        have := hrk q hq
        rw [eq] at this
        have := h4 _ h
        omega⟩
      exact fun z => by rw [z] at this; cases this
    generalize hA : left.filter (fun j => !(P.any fun q => decide (q.1 = j) && left.elem q.2)) = able at hab hfl hane
    repeat infer_instance
    refine w_leastQ (L := able) (fun j => cF ws dd j ((left.map (val ts)).sum)) hane ?_ (fun j hj => ?_) fun l hl hmin => ?_
    · repeat infer_instance
      rfl
    · have hj := hrg j ((hab j).mp hj).1
      refine ⟨_, rfl, ?_⟩
      repeat infer_instance
      refine w_is (cost_gives (val_rg (by omega) B.wr j)) ?_
      repeat infer_instance
      rfl
    obtain ⟨hl1, hl2⟩ := (hab l).mp hl
    repeat infer_instance
    refine w_lcP (L := left) (fun j => !decide (j = l)) id (by omega) (fun j hj => ?_) ?_
    · repeat infer_instance
      refine ⟨rfl, fun _ => ?_⟩
      repeat infer_instance
      rfl
    rw [List.map_id]
    repeat infer_instance
    have L2 := L.step G ht B.mono hl1 hl2 fun j hj h => by
      have := hmin j ((hab j).mpr ⟨hj, h⟩)
      omega
    refine ⟨left.filter fun j => !decide (j = l), f ++ [l], _, _, _, _, _, ?_, by rw [List.reverse_append]; exact L2, rfl⟩
    have := L2.perm.length_eq
    rw [List.length_append, List.length_cons, List.length_reverse, rngI_len] at this
    omega
  · subst he
    repeat infer_instance
    refine w_tupRev ?_
    repeat infer_instance
    refine ⟨_, rfl, ?_⟩
    rw [← List.map_reverse]
    repeat infer_instance
    have hperm : f.reverse.Perm (rngI 0 ts.length) := by have := L.perm; rwa [List.nil_append] at this
    have hne : f.reverse ≠ [] := fun z => by
      have := hperm.length_eq
      rw [z, rngI_len] at this
      have this : 0 = ts.length := this
      omega
    refine ⟨f.reverse, rfl, hperm, (orb_of G hperm).mp L.ord, fun q hq ho => ?_⟩
    obtain ⟨q', hq', _, _, h1⟩ := L.bnd q hq ((orb_of G hq).mpr ho)
    have hqne : q ≠ [] := fun z => by
      have := hq.length_eq
      rw [z, rngI_len] at this
      have this : 0 = ts.length := this
      omega
    have h2 := mxF_is (alL_ne (ts := ts) (F := cF ws dd) hne 0)
    have h3 := mxF_is (alL_ne (ts := ts) (F := cF ws dd) hqne 0)
    obtain ⟨y, hy, h4⟩ := h1 _ h2.1
    have := h3.2 y hy
    show mxF _ ≤ mxF _
    omega
end
theorem law_gives : DV.Gives (g_law (lawE 16)) fun o => o = .rt (.d (.bool true)) := by
  unfold g_law
  refine w_env (by get_elem_tactic_trivial) ?_
  repeat infer_instance
  refine w_use (jobs_gives 5 9 (by decide) (by decide) (by decide) (by decide)) fun r ⟨ts, ws, dd, eq, J⟩ => ?_
  subst eq
  repeat infer_instance
  have B : Jb ts ws dd := ⟨⟨J.pos, by have := J.len; omega, fun t ht => by have := J.tim t ht; omega⟩, J.lw, fun w hw => by have := J.wei w hw; omega, ⟨J.ld, fun d hd => by
    have h1 := J.due d hd
    have h2 : ts.sum ≤ 9 * ts.length := sum_le 9 ts fun t ht => by have := J.tim t ht; omega
    have h3 := J.len
    omega⟩⟩
  have hn5 : ts.length ≤ 5 := by have := J.len; omega
  have hpos := J.pos
  have W := B.tm
  have hwl := B.lw
  have hdl := B.dd.len
  have ht : ∀ j, 0 ≤ j → j < (ts.length : Int) → 0 ≤ val ts j := fun j h0 h1 => by have := W.t h0 h1; omega
  refine w_use (pairs_gives (by omega) (by omega)) fun r ⟨P, eq, G, hPl⟩ => ?_
  subst eq
  have hP := G.len
  obtain ⟨e, A⟩ := Eb.ex (prs_sw G) ts (fun j => - val dd j)
  repeat infer_instance
  refine w_is (orders_giveP (by omega) G) ?_
  repeat infer_instance
  refine w_use (least_gives B G) fun r ⟨o, eq, hop, hoo, hmin⟩ => ?_
  subst eq
  have hmem : ∀ p, p ∈ ordP P ts.length ts.length ↔ p.Perm (rngI 0 ts.length) ∧ DVL.Ord P p := fun p => by
    rw [ordP_mem G]
    constructor
    · rintro ⟨h1, h2⟩
      exact ⟨h1.perm h2, h1.od⟩
    · rintro ⟨h1, h2⟩
      exact ⟨Pre.of h1 h2, by rw [h1.length_eq, rngI_len]⟩
  have hol : (ordP P ts.length ts.length).length ≤ 3125 := by
    have h1 := ordP_len P ts.length ts.length
    have h2 : ts.length ^ ts.length ≤ 5 ^ ts.length := Nat.pow_le_pow_left hn5 _
    have h3 : 5 ^ ts.length ≤ 5 ^ 5 := Nat.pow_le_pow_right (by decide) hn5
    have h4 : (5 : Nat) ^ 5 = 3125 := by decide
    omega
  have hoin := (hmem o).mpr ⟨hop, hoo⟩
  repeat infer_instance
  refine w_notInTsB ?_
  rw [decide_eq_true hoin]
  repeat infer_instance
  refine w_is (greatest_cost_gives B hop) ?_
  repeat infer_instance
  refine w_lcI (L := ordP P ts.length ts.length) (fun p => grt ts (cF ws dd) p) (by omega) (fun p hp => ?_) ?_
  · repeat infer_instance
    refine w_is (law_greatest_gives B ((hmem p).mp hp).1) ?_
    rfl
  repeat infer_instance
  refine w_minN (fun z => by rw [List.map_eq_nil_iff.mp z] at hoin; cases hoin) fun m h1 h2 => ?_
  have hm : m = grt ts (cF ws dd) o := by
    obtain ⟨p, hp, ep⟩ := List.mem_map.mp h1
    have h3 := (hmem p).mp hp
    have h4 := hmin p h3.1 h3.2
    have h5 := h2 _ (List.mem_map.mpr ⟨o, hoin, rfl⟩)
    have ep : grt ts (cF ws dd) p = m := ep
    have h5 : m ≤ grt ts (cF ws dd) o := h5
    omega
  subst hm
  repeat infer_instance
  refine w_ndecT rfl ?_
  repeat infer_instance
  refine w_use (order_gives ts.length (by omega)) fun r ⟨q, eq, hq⟩ => ?_
  subst eq
  repeat infer_instance
  refine w_is (greatest_cost_gives B hq) ?_
  repeat infer_instance
  refine w_is (law_greatest_gives B hq) ?_
  repeat infer_instance
  refine w_is (alike_intK 4 _) ?_
  repeat infer_instance
  refine w_is (due_days_gives B G A) ?_
  have hll : ((rngI 0 ts.length).map fun j => - e j).length = ts.length := by rw [List.length_map, rngI_len]
  have hlv : ∀ j, 0 ≤ j → j < (ts.length : Int) → val ((rngI 0 ts.length).map fun j => - e j) j = - e j := fun j h0 h1 => val_map_rng _ _ h0 h1
  generalize hlow : (rngI 0 ts.length).map (fun j => - e j) = low at hll hlv
  repeat infer_instance
  refine w_loop0 (fun rest ρ => ∃ (u : Nat) (y12 y13 y14 y15 : Option SV), rest = rngI (u : Nat) (ts.length - u) ∧ u ≤ ts.length ∧ ρ = [none, some .row, some (.d (ti ts)), some (.d (ti ws)), some (.d (ti dd)), some (.d (.int (ts.length : Nat))), some (.d (prT P)), some (.o ((ordP P ts.length ts.length).map ti)), some (.d (ti o)), none, some (.d (ti q)), some (.d (ti low)), y12, y13, y14, y15]) ⟨0, _, _, _, _, rfl, Nat.zero_le _, rfl⟩ ?_ ?_
  · rintro j rest ρ ⟨u, y12, y13, y14, y15, er, hu, rfl⟩
    obtain ⟨rfl, hun, e2⟩ := rng_step er
    repeat infer_instance
    refine w_lcP (L := P) (fun q => decide (q.1 = (u : Int))) (fun q => val low q.2 - val ts q.2) (by omega) (fun q hq => ?_) ?_
    · have hr := G.rg q hq
      repeat infer_instance
      refine ⟨rfl, fun _ => ?_⟩
      repeat infer_instance
      rfl
    have hfl := List.length_filter_le (fun q : Int × Int => decide (q.1 = (u : Int))) P
    show K2 gAddA _ (.n ([val dd (u : Int)].map PyData.int)) _
    refine w_catNN (by rw [List.length_map]; show 1 + _ ≤ _; omega) ?_
    repeat infer_instance
    refine w_minN (fun z => nomatch z) fun m h1 h2 => ?_
    have hu2 : (u : Int) < (ts.length : Int) := by omega
    have hm : val low (u : Int) = m := by
      have hnn := A.nn (u : Int) (by omega) hu2
      rw [hlv _ (by omega) hu2]
      have hge : - e (u : Int) ≤ m := by
        rcases List.mem_append.mp h1 with z | z
        · have z : m = val dd (u : Int) := List.mem_singleton.mp z
          omega
        · obtain ⟨q, hq, eq⟩ := List.mem_map.mp z
          obtain ⟨hq1, hq2⟩ := List.mem_filter.mp hq
          have hq2 : q.1 = (u : Int) := of_decide_eq_true hq2
          have hr := G.rg q hq1
          have h3 := A.le (sw q) (mem_sw.mpr hq1)
          have h3 : e q.2 + val ts q.2 ≤ e q.1 := h3
          have eq : val low q.2 - val ts q.2 = m := eq
          rw [hlv _ hr.2.1 hr.2.2] at eq
          rw [hq2] at h3
          omega
      have hle : m ≤ - e (u : Int) := by
        rcases A.at_ (u : Int) (by omega) hu2 with z | ⟨q, hq, eq, z⟩
        · have := h2 (val dd (u : Int)) (List.mem_append_left _ (List.mem_singleton.mpr rfl))
          omega
        · have hq1 := mem_sw.mp hq
          have hr := G.rg _ hq1
          have h3 := h2 (val low q.1 - val ts q.1) (List.mem_append_right _ (List.mem_map.mpr ⟨sw q, List.mem_filter.mpr ⟨hq1, decide_eq_true eq⟩, rfl⟩))
          rw [hlv q.1 hr.2.1 hr.2.2] at h3
          omega
      omega
    repeat infer_instance
    refine w_ndecT hm ?_
    repeat infer_instance
    exact ⟨u + 1, _, _, _, _, e2, by omega, rfl⟩
  rintro ρ ⟨u, y12, y13, y14, y15, er, hu, rfl⟩
  have hun := rng_end er hu
  repeat infer_instance
  have lateF : ∀ (dl : List Int), dl.length = ts.length → ∀ p ∈ ordP P ts.length ts.length, DV.Gives (m__law_late [.d (ti ts), .d (ti dl), .d (ti p)]) fun r => r = .d (.int (mxF ((rngI 0 ts.length).map fun j => val (ensI ts p) j - val dl j))) := fun dl hl p hp =>
    (law_late_gives W hl ((hmem p).mp hp).1).mono fun r ⟨m, e1, e2⟩ => by rw [e1, mxl_eq e2]
  refine w_lcI (L := ordP P ts.length ts.length) (fun p => mxF ((rngI 0 ts.length).map fun j => val (ensI ts p) j - val low j)) (by omega) (fun p hp => ?_) ?_
  · repeat infer_instance
    refine w_is (lateF low hll p hp) ?_
    rfl
  have hne : ∀ (f : List Int → Int), (ordP P ts.length ts.length).map f ≠ [] := fun f z => by rw [List.map_eq_nil_iff.mp z] at hoin; cases hoin
  repeat infer_instance
  refine w_minN (hne _) fun m1 a1 a2 => ?_
  repeat infer_instance
  refine w_lcI (L := ordP P ts.length ts.length) (fun p => mxF ((rngI 0 ts.length).map fun j => val (ensI ts p) j - val dd j)) (by omega) (fun p hp => ?_) ?_
  · repeat infer_instance
    refine w_is (lateF dd hdl p hp) ?_
    rfl
  repeat infer_instance
  refine w_minN (hne _) fun m2 b1 b2 => ?_
  repeat infer_instance
  have hrne : ∀ (f : Int → Int), (rngI 0 ts.length).map f ≠ [] := fun f z => by
    have := congrArg List.length z
    rw [List.length_map, rngI_len] at this
    have this : ts.length = 0 := this
    omega
  have same : (ordP P ts.length ts.length).map (fun p => mxF ((rngI 0 ts.length).map fun j => val (ensI ts p) j - val low j)) = (ordP P ts.length ts.length).map (fun p => mxF ((rngI 0 ts.length).map fun j => val (ensI ts p) j - val dd j)) := List.map_congr_left fun p hp => by
    have hp := (hmem p).mp hp
    have e1 : ((rngI 0 ts.length).map fun j => val (ensI ts p) j - val low j) = (rngI 0 ts.length).map fun j => val (ensI ts p) j - - e j := List.map_congr_left fun j hj => by
      have hj := (mem_rngI _ _ _).mp hj
      rw [hlv j (by omega) (by omega)]
    rw [e1]
    exact late_same rfl G ht A hp.1 hp.2 (mxF_is (hrne _)) (mxF_is (hrne _))
  rw [same] at a1 a2
  have := a2 _ b1
  have := b2 _ a1
  rw [decide_eq_true (show m1 = m2 by omega)]
theorem law_holds : LawHolds := fun ns _ => by
  obtain ⟨o, rs', e, rfl⟩ := law_gives ⟨ns, 0, 3906, 0⟩
  exact ⟨rs', e⟩
end Lk06

open PySem PySem.W PyProof.Rows
set_option maxHeartbeats 0 in
theorem PySem.Challenge.cw_shoporders_k06_whole_greatest_costs_holds : PySem.Challenge.rw_shoporders_k06_whole_greatest_costs.Holds := by
  w_on; o_law; k_head; (case hw => w_witness2)
  k_fill
  refine DV.walk_lam (l := PySem.Challenge.rw_shoporders_k06_whole_greatest_costs) (n := 63) (k := 8) (x := "_law_script") ["least_greatest"] rfl (by decide) rfl ⟨rfl, by decide, by decide⟩ (by kernel_rfl) (fun w h Y => PySem.W.km_in_of Y) ?F
  case F =>
    intro w mg fa h KX G hmg own
    refine' Lk06.all_mk Lk06.law_holds KX G hmg ?a1 ?l1 ?c1 ?k1 ?a2 ?l2 ?c2 ?k2 ?a3 ?l3 ?c3 ?k3 ?a4 ?l4 ?c4 ?k4 ?a5 ?l5 ?c5 ?k5 ?a6 ?l6 ?c6 ?k6 ?a7 ?l7 ?c7 ?k7 ?a8 ?l8 ?c8 ?k8 ?a9 ?l9 ?c9 ?k9 ?a10 ?l10 ?c10 ?k10 ?a11 ?l11 ?c11 ?k11 ?a12 ?l12 ?c12 ?k12 ?a13 ?l13 ?c13 ?k13 ?a14 ?l14 ?c14 ?k14 ?a15 ?l15 ?c15 ?k15 ?a16 ?l16 ?c16 ?k16 ?a17 ?l17 ?c17 ?k17 ?a18 ?l18 ?c18 ?k18 ?a19 ?l19 ?c19 ?k19 ?a20 ?l20 ?c20 ?k20 ?a21 ?l21 ?c21 ?k21 ?a22 ?l22 ?c22 ?k22 ?a23 ?l23 ?c23 ?k23 ?a24 ?l24 ?c24 ?k24 ?a25 ?l25 ?c25 ?k25 ?a26 ?l26 ?c26 ?k26 ?a27 ?l27 ?c27 ?k27 ?a28 ?l28 ?c28 ?k28 ?a29 ?l29 ?c29 ?k29 ?a30 ?l30 ?c30 ?k30 ?a31 ?l31 ?c31 ?k31 ?v30 ?w30 ?d30 ?n30 ?m30 ?u30 ?tt own ?z0 ?z1 ?z2 ?z3 ?z4 ?z5 ?z6 ?z7 ?z8 ?z9 ?z10 ?z11 ?z12 ?z13 ?z14 ?z15 ?z16 ?y0 ?y1 ?y2 ?y3 ?y4
    (case a1 => k_is); (case l1 => k_is); (case c1 => k_is); (case k1 => k_is); (case a2 => k_is); (case l2 => k_is); (case c2 => k_is); (case k2 => k_is); (case a3 => k_is); (case l3 => k_is); (case c3 => k_is); (case k3 => k_is); (case a4 => k_is); (case l4 => k_is); (case c4 => k_is); (case k4 => k_is); (case a5 => k_is); (case l5 => k_is); (case c5 => k_is); (case k5 => k_is); (case a6 => k_is); (case l6 => k_is); (case c6 => k_is); (case k6 => k_is); (case a7 => k_is); (case l7 => k_is); (case c7 => k_is); (case k7 => k_is); (case a8 => k_is); (case l8 => k_is); (case c8 => k_is); (case k8 => k_is); (case a9 => k_is); (case l9 => k_is); (case c9 => k_is); (case k9 => k_is); (case a10 => k_is); (case l10 => k_is); (case c10 => k_is); (case k10 => k_is); (case a11 => k_is); (case l11 => k_is); (case c11 => k_is); (case k11 => k_is); (case a12 => k_is); (case l12 => k_is); (case c12 => k_is); (case k12 => k_is); (case a13 => k_is); (case l13 => k_is); (case c13 => k_is); (case k13 => k_is); (case a14 => k_is); (case l14 => k_is); (case c14 => k_is); (case k14 => k_is); (case a15 => k_is); (case l15 => k_is); (case c15 => k_is); (case k15 => k_is); (case a16 => k_is); (case l16 => k_is); (case c16 => k_is); (case k16 => k_is); (case a17 => k_is); (case l17 => k_is); (case c17 => k_is); (case k17 => k_is); (case a18 => k_is); (case l18 => k_is); (case c18 => k_is); (case k18 => k_is); (case a19 => k_is); (case l19 => k_is); (case c19 => k_is); (case k19 => k_is); (case a20 => k_is); (case l20 => k_is); (case c20 => k_is); (case k20 => k_is); (case a21 => k_is); (case l21 => k_is); (case c21 => k_is); (case k21 => k_is); (case a22 => k_is); (case l22 => k_is); (case c22 => k_is); (case k22 => k_is); (case a23 => k_is); (case l23 => k_is); (case c23 => k_is); (case k23 => k_is); (case a24 => k_is); (case l24 => k_is); (case c24 => k_is); (case k24 => k_is); (case a25 => k_is); (case l25 => k_is); (case c25 => k_is); (case k25 => k_is); (case a26 => k_is); (case l26 => k_is); (case c26 => k_is); (case k26 => k_is); (case a27 => k_is); (case l27 => k_is); (case c27 => k_is); (case k27 => k_is); (case a28 => k_is); (case l28 => k_is); (case c28 => k_is); (case k28 => k_is); (case a29 => k_is); (case l29 => k_is); (case c29 => k_is); (case k29 => k_is); (case a30 => k_is); (case l30 => k_is); (case c30 => k_is); (case k30 => k_is); (case a31 => k_is); (case l31 => k_is); (case c31 => k_is); (case k31 => k_is)
    (case v30 => k_is); (case w30 => rfl); (case d30 => kernel_rfl); (case n30 => kernel_rfl); (case m30 => kernel_rfl); (case u30 => kernel_rfl); (case tt => kernel_rfl)
    (case z0 => k_is); (case z1 => k_is); (case z2 => k_is); (case z3 => k_is); (case z4 => k_is); (case z5 => k_is); (case z6 => k_is); (case z7 => k_is); (case z8 => k_is); (case z9 => k_is); (case z10 => k_is); (case z11 => k_is); (case z12 => k_is); (case z13 => k_is); (case z14 => k_is); (case z15 => k_is); (case z16 => k_is); (case y0 => k_is); (case y1 => k_is); (case y2 => k_is); (case y3 => k_is); (case y4 => k_is)


