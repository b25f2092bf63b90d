import PyProof.Rows.All
import Wide.All
import OpenK.AllK
import Wide.FinOn
import HandS.ForMost
import HandS.Flow
import HandS.Walk
import HandS.Lambda
import HandS.Dict
import KE.KDictKeyed
import HandS.TupMul
import HandS.TupAny
import HandS.Deep
import HandS.IsInst
import HandS.SortInts
import HandS.Conv
import HandS.Star
import KE.DataMinMax
import KE.SortKeyHeap
import HandS.SetFor
import KE.GoesEnum
import KE.GoesZip
import HandS.ExcOwn
import HandS.ExcValue
import HandS.Style
import HandS.Zip
import PyProof.TupleOfSeq
import KE.DataCmp
import HandS.Nested
import HandS.SortKw
import HandS.Keys
import HandS.EndOwn
import HandS.NestedK
import HandS.List
import HandS.Rev
import HandS.RevTup
import PyProof.Walks
import HandS.More
import HandS.ForDict
import KE.KDictDisplayH
import KE.KDictWalk
import KE.KDictSum
import HandS.ExcInit
import HandS.ExcField
import HandS.WordsExc
import KE.KExcSuper
import KE.KExcIs
import KE.KExcMake
import PySem.Challenge.RW_shoporders_k40_whole_unit_jobs_in_any_or
set_option Elab.async false
set_option linter.all false
set_option maxRecDepth 100000
set_option maxHeartbeats 4000000
/-! DV: the text's defs as functions over data (lists by value), rule by rule over the hand layer. -/
namespace DV
open PySem L2

abbrev D := PyData
/-- a dict: whether its keys are tuples; its pairs in the order of insertion -/
structure DC where
  t : Bool
  kv : List (D × D)
/-- what an expression gives: data; a list that is read where it stands; a new list; a new dict; the drawing row -/
inductive RV where
  | d (x : D) | b (ds : List D) | n (ds : List D) | gb (c : DC) | gn (c : DC) | row
/-- an error: its class's name, its field -/
structure Ex where
  c : Str
  f : Option (Str × D)
/-- where an error stands: its address, its class, its dict -/
structure Q3 where
  a : Addr
  cls : Value
  d : Option Addr
/-- what a name holds: data; a list of one's own; a list that may be read alone (the caller's, or one that a loop walks); the drawing row -/
inductive SV where
  | d (x : D) | o (ds : List D) | k (ds : List D) | g (c : DC) | un | row | ex (q : Q3) (e : Ex) | fn (x : Str)
/-- things of one's own -/
def SV.ow : SV → Prop
  | .o _ => True
  | .g _ => True
  | _ => False
/-- the drawing row: the script, the place, the mixed number, the rest -/
structure RS where
  ns : List Int
  i : Nat
  s : Int
  c : Int
abbrev Env := List (Option SV)

/-! ### the functions' monad -/
def M (α : Type) : Type := RS → Option (α × RS)
def ret {α : Type} (a : α) : M α := fun rs => some (a, rs)
def fail {α : Type} : M α := fun _ => none
def bnd {α β : Type} (m : M α) (k : α → M β) : M β := fun rs => match m rs with
  | none => none
  | some (a, rs') => k a rs'
def lft {α : Type} (o : Option α) : M α := match o with
  | none => fail
  | some a => ret a
instance : Monad M where
  pure := ret
  bind := bnd
theorem bnd_some {α β : Type} {m : M α} {k : α → M β} {rs : RS} {r : β × RS} (h : bnd m k rs = some r) : ∃ a rs', m rs = some (a, rs') ∧ k a rs' = some r := by
  unfold bnd at h
  cases e : m rs with
  | none => rw [e] at h; cases h
  | some p => rw [e] at h; exact ⟨p.1, p.2, rfl, h⟩
theorem lft_some {α : Type} {o : Option α} {rs : RS} {a : α} {rs' : RS} (h : lft o rs = some (a, rs')) : o = some a ∧ rs' = rs := by
  cases o with
  | none => cases h
  | some x => cases h; exact ⟨rfl, rfl⟩
theorem ret_some {α : Type} {x : α} {rs : RS} {a : α} {rs' : RS} (h : ret x rs = some (a, rs')) : x = a ∧ rs' = rs := by
  cases h; exact ⟨rfl, rfl⟩

end DV
namespace L2
open PySem
section
variable {K : PySem.W.Frag}
theorem ex_rdd {H H' : Hp} {a : Addr} {u : HO} (e : ∀ o, H a = some o → H' a = some o) (h : Rd H a u) : Rd H' a u := by
  rcases h with h | ⟨o, h⟩
  · exact Or.inl (e _ h)
  · exact Or.inr ⟨o, e _ h⟩
theorem ex_l {H H' : Hp} {a : Addr} {xs : List V} (e : ∀ o, H a = some o → H' a = some o) (h : SqL K H a xs) : SqL K H' a xs := by
  rcases h with h | h
  · exact Or.inl (ex_rdd e h)
  · exact Or.inr h
theorem ex_t {H H' : Hp} {a : Addr} {xs : List V} (e : ∀ o, H a = some o → H' a = some o) (h : SqT K H a xs) : SqT K H' a xs := by
  rcases h with h | h
  · exact Or.inl (ex_rdd e h)
  · exact Or.inr h
mutual
theorem Dp.mono {F F' : Hp} (e : ∀ a o, F a = some o → F' a = some o) : ∀ (d : PyData) (v : V), Dp K F v d → Dp K F' v d
  | .none, _, h => by cases h; exact .non
  | .bool _, _, h => by cases h; exact .bl _
  | .int _, _, h => by cases h; exact .int _
  | .str _, _, h => by cases h; exact .str _
  | .list ds, _, h => by
    cases h with
    | lst hs ha => exact .lst (ex_l (e _) hs) (Dp.monoA e ds _ ha)
  | .tuple ds, _, h => by
    cases h with
    | tup hs ha => exact .tup (ex_t (e _) hs) (Dp.monoA e ds _ ha)
  | .dict _, _, h => by cases h
theorem Dp.monoA {F F' : Hp} (e : ∀ a o, F a = some o → F' a = some o) : ∀ (ds : List PyData) (vs : List V), DpAll K F vs ds → DpAll K F' vs ds
  | [], _, h => by cases h; exact .nil
  | d :: ds, _, h => by
    cases h with
    | cons h1 h2 => exact .cons (Dp.mono e d _ h1) (Dp.monoA e ds _ h2)
end
theorem DpAll.len {F : Hp} : ∀ {vs : List V} {ds : List PyData}, DpAll K F vs ds → vs.length = ds.length
  | _, _, .nil => rfl
  | _, _, .cons _ h => congrArg (· + 1) (DpAll.len h)
theorem DpAll.get {F : Hp} : ∀ {vs : List V} {ds : List PyData} {i : Nat} {d : PyData}, DpAll K F vs ds → ds[i]? = some d → ∃ v, vs[i]? = some v ∧ Dp K F v d
  | _, _, _, _, .nil, h => by simp at h
  | _, _, 0, _, .cons h1 _, h => by
    simp at h; subst h
    exact ⟨_, rfl, h1⟩
  | _, _, i + 1, _, .cons _ h2, h => by
    simp at h
    obtain ⟨v, e, r⟩ := DpAll.get h2 h
    exact ⟨v, by simpa using e, r⟩
theorem DpAll.append {F : Hp} : ∀ {vs ws : List V} {ds es : List PyData}, DpAll K F vs ds → DpAll K F ws es → DpAll K F (vs ++ ws) (ds ++ es)
  | _, _, _, _, .nil, h => h
  | _, _, _, _, .cons h1 h2, h => .cons h1 (DpAll.append h2 h)
theorem DpAll.set {F : Hp} : ∀ {vs : List V} {ds : List PyData} (i : Nat) {v : V} {d : PyData}, DpAll K F vs ds → Dp K F v d → DpAll K F (vs.set i v) (ds.set i d)
  | _, _, _, _, _, .nil, _ => .nil
  | _, _, 0, _, _, .cons _ h2, h => .cons h h2
  | _, _, i + 1, _, _, .cons h1 h2, h => .cons h1 (DpAll.set i h2 h)
theorem DpAll.take {F : Hp} : ∀ (n : Nat) {vs : List V} {ds : List PyData}, DpAll K F vs ds → DpAll K F (vs.take n) (ds.take n)
  | 0, _, _, _ => .nil
  | n + 1, _, _, .nil => .nil
  | n + 1, _, _, .cons h1 h2 => .cons h1 (DpAll.take n h2)
theorem DpAll.drop {F : Hp} : ∀ (n : Nat) {vs : List V} {ds : List PyData}, DpAll K F vs ds → DpAll K F (vs.drop n) (ds.drop n)
  | 0, _, _, h => h
  | n + 1, _, _, .nil => .nil
  | n + 1, _, _, .cons h1 h2 => DpAll.drop n h2
theorem DpAll.rev {F : Hp} : ∀ {vs : List V} {ds : List PyData}, DpAll K F vs ds → DpAll K F vs.reverse ds.reverse
  | _, _, .nil => .nil
  | _, _, .cons h1 h2 => by
    rw [List.reverse_cons, List.reverse_cons]
    exact DpAll.append (DpAll.rev h2) (.cons h1 .nil)
theorem DpAll.rep {F : Hp} {vs : List V} {ds : List PyData} (h : DpAll K F vs ds) : ∀ n : Nat, DpAll K F (List.replicate n vs).flatten (List.replicate n ds).flatten
  | 0 => .nil
  | n + 1 => by
    rw [List.replicate_succ, List.flatten_cons, List.replicate_succ, List.flatten_cons]
    exact DpAll.append h (DpAll.rep h n)
end
end L2
namespace DV
open PySem L2
/-! ### ints -/
/-- ints among data -/
def intsOf : List D → Option (List Int)
  | [] => some []
  | .int i :: r => match intsOf r with
    | some js => some (i :: js)
    | none => none
  | _ => none
theorem ints_map : ∀ js : List Int, intsOf (js.map PyData.int) = some js
  | [] => rfl
  | j :: js => by
    show (match intsOf (js.map PyData.int) with | some js => some (j :: js) | none => none) = _
    rw [ints_map js]

end DV
namespace L2
open PySem
section
variable {K : PySem.W.Frag}
theorem DpAll.intsV {F : Hp} : ∀ {vs : List V} {ds : List PyData} {js : List Int}, DpAll K F vs ds → DV.intsOf ds = some js → vs = js.map V.int
  | _, _, _, .nil, h => by cases h; rfl
  | _, d :: r, js, .cons h1 h2, h => by
    cases d with
    | int i =>
      unfold DV.intsOf at h
      cases e : DV.intsOf r with
      | none => rw [e] at h; cases h
      | some ks =>
        rw [e] at h
        cases h
        cases h1
        rw [DpAll.intsV h2 e]
        rfl
    | none => unfold DV.intsOf at h; cases h
    | bool _ => unfold DV.intsOf at h; cases h
    | str _ => unfold DV.intsOf at h; cases h
    | list _ => unfold DV.intsOf at h; cases h
    | tuple _ => unfold DV.intsOf at h; cases h
    | dict _ => unfold DV.intsOf at h; cases h
theorem DpAll.ofInts {F : Hp} : ∀ (js : List Int), DpAll K F (js.map V.int) (js.map PyData.int)
  | [] => .nil
  | j :: js => .cons (.int j) (DpAll.ofInts js)
end
end L2
namespace DV
open PySem L2
/-! ### what stands for what -/
section
variable {K : PySem.W.Frag}
/-- the defs that hold a lambda -/
def lamNames : List Str := []
def tabTo : Option Value → Option Value → Option (Addr × Str)
  | some (.str n _), some (.ref P) => if lamNames.elem n = true then some (P, n ++ ".<locals>.<lambda>") else none
  | _, _ => none
def tabOf (o : Obj) : Option (Addr × Str) := match o.data with
  | .fields vs => tabTo vs[1]? vs[11]?
  | _ => none
/-- the tables of the code objects that K tells, each with the one name that it may tell -/
def tabsOf : PySem.W.Frag → List (Addr × Str)
  | [] => []
  | (_, o) :: r => match tabOf o with
    | some p => p :: tabsOf r
    | none => tabsOf r
/-- what is never written anew: all but those tables -/
def Fx (K : PySem.W.Frag) (a : Addr) (o : HO) : Prop := (∀ ps, o ≠ .tbl ps) ∨ ∀ q, (a, q) ∉ tabsOf K
theorem Fx.lst {a : Addr} {vs : List V} : Fx K a (.lst vs) := .inl fun _ z => nomatch z
theorem Fx.tup {a : Addr} {vs : List V} : Fx K a (.tup vs) := .inl fun _ z => nomatch z
structure RowOk (K : PySem.W.Frag) (R : Option Addr) (rs : RS) (F H : Hp) : Prop where
  at_ : ∀ r, R = some r → ∃ a, H r = some (.lst [.ref a, .int (rs.i : Int), .int rs.s, .int rs.c]) ∧ SqL K F a (rs.ns.map V.int) ∧ rs.ns.length ≤ 63
  tab : LamX.Tabs (tabsOf K) H
  fnt : ∀ a o, F a = some o → Fx K a o
theorem RowOk.mono {K : PySem.W.Frag} {R : Option Addr} {rs : RS} {F F' H : Hp} (h : RowOk K R rs F H) (k : ∀ a o, F a = some o → F' a = some o) (n : ∀ a o, F' a = some o → Fx K a o) : RowOk K R rs F' H :=
  ⟨fun r e => by
    obtain ⟨a, e1, h1, h2⟩ := h.at_ r e
    exact ⟨a, e1, ex_l (k _) h1, h2⟩, h.tab, n⟩
theorem tabs_at {T : List (Addr × Str)} {H : Hp} (t : LamX.Tabs T H) {a : Addr} {q : Str} (h : (a, q) ∈ T) : ∃ ps, H a = some (.tbl ps) := by
  obtain ⟨ps, e, _⟩ := t _ h
  exact ⟨ps, e⟩
theorem tabs_upd {T : List (Addr × Str)} {H : Hp} (t : LamX.Tabs T H) {a : Addr} {o : HO} (h : H a = none ∨ ∃ vs, H a = some (.lst vs)) : LamX.Tabs T (upd H a o) := fun p hp => by
  obtain ⟨ps, e, h2, h3⟩ := t p hp
  have ne : ∀ b u, H b = some u → (∀ vs, u ≠ .lst vs) → b ≠ a := fun b u e1 e2 z => by
    subst z
    rcases h with h | ⟨vs, h⟩
    · rw [h] at e1; cases e1
    · rw [h] at e1
      exact e2 vs (Option.some.inj e1).symm
  refine ⟨ps, by rw [upd_ne (ne _ _ e fun vs z => nomatch z)]; exact e, h2, fun pos cv hc => ?_⟩
  obtain ⟨c, e1, e2⟩ := h3 pos cv hc
  exact ⟨c, e1, by rw [upd_ne (ne _ _ e2 fun vs z => by unfold LamX.CodeO at z; cases z)]; exact e2⟩
/-- the heap grows; F is what is never changed any more -/
structure Step (K : PySem.W.Frag) (R : Option Addr) (rs' : RS) (F H F' H' : Hp) : Prop where
  keep : ∀ a o, H a = some o → some a ≠ R → (n : Fx K a o := by exact .inl fun _ z => nomatch z) → H' a = some o
  sub : ∀ a o, F a = some o → F' a = some o
  new : ∀ a o, F' a = some o → F a = some o ∨ H a = none
  fin : ∀ a o, F' a = some o → H' a = some o
  row : RowOk K R rs' F' H'
  rF : ∀ r, R = some r → F' r = none
theorem Step.refl {R : Option Addr} {rs : RS} {F H : Hp} (h1 : ∀ a o, F a = some o → H a = some o) (h2 : RowOk K R rs F H) (h3 : ∀ r, R = some r → F r = none) : Step K R rs F H F H :=
  ⟨fun _ _ h _ _ => h, fun _ _ h => h, fun _ _ h => .inl h, h1, h2, h3⟩
theorem Step.back {R : Option Addr} {rs rs' : RS} {F H F' H' : Hp} (s : Step K R rs' F H F' H') (r0 : RowOk K R rs F H) {a : Addr} (h : H' a = none) : H a = none := by
  cases e : H a with
  | none => rfl
  | some o =>
    by_cases q : some a = R
    · obtain ⟨b, hb, _⟩ := s.row.at_ a q.symm
      rw [h] at hb; cases hb
    · by_cases t : ∃ n, (a, n) ∈ tabsOf K
      · obtain ⟨n, t⟩ := t
        obtain ⟨ps, hb⟩ := tabs_at s.row.tab t
        rw [h] at hb; cases hb
      · rw [s.keep a o e q (.inr fun n z => t ⟨n, z⟩)] at h; cases h
theorem Step.trans {R : Option Addr} {rs rs1 rs2 : RS} {F H F1 H1 F2 H2 : Hp} (r0 : RowOk K R rs F H) (a : Step K R rs1 F H F1 H1) (b : Step K R rs2 F1 H1 F2 H2) : Step K R rs2 F H F2 H2 :=
  ⟨fun c o h q n => b.keep c o (a.keep c o h q n) q n, fun c o h => b.sub c o (a.sub c o h), fun c o h => by
    rcases b.new c o h with z | z
    · exact a.new c o z
    · exact .inr (a.back r0 z), b.fin, b.row, b.rF⟩

/-! ### dicts -/
mutual
/-- data as a key -/
def nk : D → Option NestedKey
  | .none => some .none
  | .int i => some (.num i)
  | .tuple ds => match nkA ds with
    | some ks => some (.tup ks)
    | none => none
  | .bool _ => none
  | .str _ => none
  | .list _ => none
  | .dict _ => none
def nkA : List D → Option (List NestedKey)
  | [] => some []
  | d :: ds => match nk d, nkA ds with
    | some k, some ks => some (k :: ks)
    | _, _ => none
end
/-- a dict's object: its keys' tuples stand at the addresses -/
def dcO (a : Addr) (xs : List (NestedKey × Addr × V)) : HO := .ext fun h => (a == sysModules) = false ∧ xs.length ≤ sizeLine ∧ (xs.map (·.1)).Nodup ∧ ∃ (o : Obj) (es : Array DictEntry) (ep : Nat) (ys : List (NestedKey × Addr × Value)),
  h.get? a = some o ∧ o.ExactDict ∧ o.data = .dict es ep ∧ Paired (fun (p : NestedKey × Addr × V) (q : NestedKey × Addr × Value) => p.1 = q.1 ∧ p.2.1 = q.2.1 ∧ RelV p.2.2 q.2.2) xs ys ∧
  ∀ w : World, es.toList = ys.map fun y => (⟨y.1.hash w, .ref y.2.1, y.2.2⟩ : DictEntry)
def DictR (K : PySem.W.Frag) (F : Hp) (a : Addr) (u : HO) (c : DC) : Prop := match c.t with
  | false => ∃ ks : List (Int × V), u = .dK (ks.map fun p => ((.inl p.1 : Key), p.2)) ∧ (ks.map (·.1)).Nodup ∧ Paired (fun (p : Int × V) (q : D × D) => q.1 = .int p.1 ∧ Dp K F p.2 q.2) ks c.kv
  | true => ∃ xs : List (NestedKey × Addr × V), u = dcO a xs ∧ Paired (fun (x : NestedKey × Addr × V) (q : D × D) => nk q.1 = some x.1 ∧ x.1.depth ≤ 8 ∧ Dp K F (.ref x.2.1) q.1 ∧ Dp K F x.2.2 q.2) xs c.kv
theorem Paired.imp {α β : Type} {f g : α → β → Prop} : ∀ {xs : List α} {ys : List β}, Paired f xs ys → (∀ x y, f x y → g x y) → Paired g xs ys
  | _, _, .nil, _ => .nil
  | _, _, .cons h t, k => .cons (k _ _ h) (Paired.imp t k)
theorem DictR.mono {F F' : Hp} {a : Addr} {u : HO} {c : DC} (e : ∀ a o, F a = some o → F' a = some o) (h : DictR K F a u c) : DictR K F' a u c := by
  unfold DictR at h ⊢
  cases q : c.t with
  | false =>
    rw [q] at h
    obtain ⟨ks, h1, h2, h3⟩ := h
    exact ⟨ks, h1, h2, Paired.imp h3 fun x y z => ⟨z.1, Dp.mono e _ _ z.2⟩⟩
  | true =>
    rw [q] at h
    obtain ⟨xs, h1, h2⟩ := h
    exact ⟨xs, h1, Paired.imp h2 fun x y z => ⟨z.1, z.2.1, Dp.mono e _ _ z.2.2.1, Dp.mono e _ _ z.2.2.2⟩⟩
theorem DictR.fx {F : Hp} {a : Addr} {u : HO} {c : DC} (h : DictR K F a u c) : Fx K a u := by
  unfold DictR at h
  cases q : c.t with
  | false =>
    rw [q] at h
    obtain ⟨ks, h1, _⟩ := h
    exact .inl fun _ z => by rw [h1] at z; cases z
  | true =>
    rw [q] at h
    obtain ⟨xs, h1, _⟩ := h
    exact .inl fun _ z => by rw [h1] at z; unfold dcO at z; cases z

/-- v stands for the result; H0: the heap ahead (a new list is new since it) -/
def VR (K : PySem.W.Frag) (R : Option Addr) (F H0 H : Hp) (v : V) : RV → Prop
  | .d x => Dp K F v x
  | .b ds => ∃ a vs, v = .ref a ∧ H a = some (.lst vs) ∧ some a ≠ R ∧ DpAll K F vs ds
  | .n ds => ∃ a vs, v = .ref a ∧ H a = some (.lst vs) ∧ H0 a = none ∧ F a = none ∧ some a ≠ R ∧ DpAll K F vs ds
  | .gb c => ∃ a u, v = .ref a ∧ H a = some u ∧ some a ≠ R ∧ DictR K F a u c
  | .gn c => ∃ a u, v = .ref a ∧ H a = some u ∧ H0 a = none ∧ F a = none ∧ some a ≠ R ∧ DictR K F a u c
  | .row => ∃ r, R = some r ∧ v = .ref r
theorem VR.step {R : Option Addr} {rs' : RS} {F F' H0 H H' : Hp} {v : V} {x : RV} (s : Step K R rs' F H F' H') (h : VR K R F H0 H v x) : VR K R F' H0 H' v x := by
  cases x with
  | d x => exact Dp.mono s.sub _ _ h
  | b ds =>
    obtain ⟨a, vs, e, h1, h2, h3⟩ := h
    exact ⟨a, vs, e, s.keep a _ h1 h2, h2, Dp.monoA s.sub _ _ h3⟩
  | n ds =>
    obtain ⟨a, vs, e, h1, h0, h2, h3, h4⟩ := h
    refine ⟨a, vs, e, s.keep _ _ h1 h3, h0, ?_, h3, Dp.monoA s.sub _ _ h4⟩
    cases q : F' a with
    | none => rfl
    | some o =>
      rcases s.new a o q with z | z
      · rw [h2] at z; cases z
      · rw [h1] at z; cases z
  | gb c =>
    obtain ⟨a, u, e, h1, h2, h3⟩ := h
    exact ⟨a, u, e, s.keep a _ h1 h2 h3.fx, h2, h3.mono s.sub⟩
  | gn c =>
    obtain ⟨a, u, e, h1, h0, h2, h3, h4⟩ := h
    refine ⟨a, u, e, s.keep _ _ h1 h3 h4.fx, h0, ?_, h3, h4.mono s.sub⟩
    cases q : F' a with
    | none => rfl
    | some o =>
      rcases s.new a o q with z | z
      · rw [h2] at z; cases z
      · rw [h1] at z; cases z
  | row => exact h
theorem VR.older {R : Option Addr} {F H0 H1 H : Hp} {v : V} {x : RV} (e : ∀ a, H1 a = none → H0 a = none) (h : VR K R F H1 H v x) : VR K R F H0 H v x := by
  cases x with
  | d x => exact h
  | b ds => exact h
  | n ds =>
    obtain ⟨a, vs, e1, h1, h0, h2, h3, h4⟩ := h
    exact ⟨a, vs, e1, h1, e a h0, h2, h3, h4⟩
  | gb c => exact h
  | gn c =>
    obtain ⟨a, u, e1, h1, h0, h2, h3, h4⟩ := h
    exact ⟨a, u, e1, h1, e a h0, h2, h3, h4⟩
  | row => exact h

/-- the error of the class cls, its dict d: its name, its field; the dict is never changed -/
def XF (K : PySem.W.Frag) (F : Hp) (cls : Value) (d : Option Addr) (e : Ex) : Prop := PySem.W.nsIn K mainGlobals e.c = some (some cls) ∧ match e.f with
  | none => d = none
  | some (f, x) => ∃ dd w, d = some dd ∧ F dd = some (.xd [(f, w)]) ∧ Dp K F w x
theorem XF.mono {F F' : Hp} {cls : Value} {d : Option Addr} {e : Ex} (k : ∀ a o, F a = some o → F' a = some o) (h : XF K F cls d e) : XF K F' cls d e := by
  unfold XF at h ⊢
  refine ⟨h.1, ?_⟩
  have h := h.2
  cases z : e.f with
  | none => rw [z] at h; exact h
  | some p =>
    rw [z] at h
    obtain ⟨dd, w, h1, h2, h3⟩ := h
    exact ⟨dd, w, h1, k _ _ h2, Dp.mono k _ _ h3⟩
/-! ### names -/
def SR (K : PySem.W.Frag) (R : Option Addr) (L : Nat → Option (Addr × List V)) (E F H : Hp) (i : Nat) (v : V) : SV → Prop
  | .d x => Dp K F v x
  | .o ds => ∃ a vs, v = .ref a ∧ H a = some (.lst vs) ∧ E a = none ∧ F a = none ∧ some a ≠ R ∧ DpAll K F vs ds
  | .k ds => ∃ a vs, L i = some (a, vs) ∧ v = .ref a ∧ DpAll K F vs ds
  | .g c => ∃ a u, v = .ref a ∧ H a = some u ∧ E a = none ∧ F a = none ∧ some a ≠ R ∧ DictR K F a u c
  | .un => True
  | .row => ∃ r, R = some r ∧ v = .ref r
  | .ex q e => v = .ref q.a ∧ XF K F q.cls q.d e
  | .fn x => ∃ a, PySem.W.nsIn K mainGlobals x = some (some (.ref a)) ∧ v = .ref a
structure Rel (K : PySem.W.Frag) (R : Option Addr) (L : Nat → Option (Addr × List V)) (E F : Hp) (ρ : Env) (σ : L2.St) (rs : RS) (H : Hp) : Prop where
  len : ρ.length = σ.length
  ex : ∀ a o, E a = some o → H a = some o
  ent : ∀ a o, E a = some o → Fx K a o
  fr : ∀ a o, F a = some o → H a = some o
  row : RowOk K R rs F H
  rE : ∀ r, R = some r → E r = none ∧ F r = none
  lk : ∀ i a vs, L i = some (a, vs) → E a = some (.lst vs)
  sl : ∀ (i : Nat) (sv : SV), ρ[i]? = some (some sv) → ∃ v, σ[i]? = some (some v) ∧ SR K R L E F H i v sv
  own : ∀ (i j : Nat) (a : Addr) (x y : SV), ρ[i]? = some (some x) → ρ[j]? = some (some y) → x.ow → y.ow → σ[i]? = some (some (V.ref a)) → σ[j]? = some (some (V.ref a)) → i = j
section
variable {R : Option Addr} {L : Nat → Option (Addr × List V)} {E F F' H H' : Hp} {ρ : Env} {σ : L2.St} {rs rs' : RS}
theorem Rel.refl (r : Rel K R L E F ρ σ rs H) : Step K R rs F H F H := Step.refl r.fr r.row fun _ e => (r.rE _ e).2
theorem Rel.step (r : Rel K R L E F ρ σ rs H) (s : Step K R rs' F H F' H') : Rel K R L E F' ρ σ rs' H' where
  len := r.len
  ex := fun a o h => s.keep a o (r.ex a o h) (fun q => by
    have := (r.rE a q.symm).1
    rw [h] at this; cases this) (r.ent a o h)
  ent := r.ent
  fr := s.fin
  row := s.row
  rE := fun q e => ⟨(r.rE q e).1, s.rF q e⟩
  lk := r.lk
  sl := fun i sv h => by
    obtain ⟨v, e, q⟩ := r.sl i sv h
    refine ⟨v, e, ?_⟩
    cases sv with
    | d x => exact Dp.mono s.sub _ _ q
    | k ds =>
      obtain ⟨a, vs, hl, e1, h3⟩ := q
      exact ⟨a, vs, hl, e1, Dp.monoA s.sub _ _ h3⟩
    | o ds =>
      obtain ⟨a, vs, e1, h1, h2, h3, h4, h5⟩ := q
      refine ⟨a, vs, e1, s.keep _ _ h1 h4, h2, ?_, h4, Dp.monoA s.sub _ _ h5⟩
      cases q : F' a with
      | none => rfl
      | some o =>
        rcases s.new a o q with z | z
        · rw [h3] at z; cases z
        · rw [h1] at z; cases z
    | g c =>
      obtain ⟨a, u, e1, h1, h2, h3, h4, h5⟩ := q
      refine ⟨a, u, e1, s.keep _ _ h1 h4 h5.fx, h2, ?_, h4, h5.mono s.sub⟩
      cases q : F' a with
      | none => rfl
      | some o =>
        rcases s.new a o q with z | z
        · rw [h3] at z; cases z
        · rw [h1] at z; cases z
    | un => exact trivial
    | row => exact q
    | ex _ _ => exact ⟨q.1, XF.mono s.sub q.2⟩
    | fn _ => exact q
  own := r.own
/-- reading a name -/
def vget (ρ : Env) (i : Nat) : Option RV := match ρ[i]? with
  | some (some (.d x)) => some (.d x)
  | some (some (.o ds)) => some (.b ds)
  | some (some (.k ds)) => some (.b ds)
  | some (some (.g c)) => some (.gb c)
  | some (some .row) => some .row
  | _ => none
theorem Rel.get (r : Rel K R L E F ρ σ rs H) {i : Nat} {x : RV} (h : vget ρ i = some x) : ∃ v, σ[i]? = some (some v) ∧ VR K R F H H v x := by
  unfold vget at h
  cases e : ρ[i]? with
  | none => rw [e] at h; cases h
  | some o =>
    cases o with
    | none => rw [e] at h; cases h
    | some sv =>
      rw [e] at h
      obtain ⟨v, ev, q⟩ := r.sl i sv e
      refine ⟨v, ev, ?_⟩
      cases sv with
      | d x => cases h; exact q
      | k ds =>
        cases h
        obtain ⟨a, vs, hl, e1, h3⟩ := q
        have hE := r.lk i a vs hl
        have hR : some a ≠ R := fun q => by
          have z := (r.rE a q.symm).1
          rw [hE] at z
          cases z
        exact ⟨a, vs, e1, r.ex a _ hE, hR, h3⟩
      | o ds =>
        cases h
        obtain ⟨a, vs, e1, h1, h2, h3, h4, h5⟩ := q
        exact ⟨a, vs, e1, h1, h4, h5⟩
      | g c =>
        cases h
        obtain ⟨a, vs, e1, h1, h2, h3, h4, h5⟩ := q
        exact ⟨a, vs, e1, h1, h4, h5⟩
      | un => cases h
      | ex _ _ => cases h
      | fn _ => cases h
      | row => cases h; exact q
end

/-! ### expressions -/
def ESem (K : PySem.W.Frag) (R : Option Addr) (t : TE) (f : Env → M RV) : Prop :=
  ∀ (L : Nat → Option (Addr × List V)) (E : Hp) (ρ : Env) (σ : L2.St) (F H : Hp) (rs : RS) (x : RV) (rs' : RS) (Q : VK), Rel K R L E F ρ σ rs H → f ρ rs = some (x, rs') →
    (∀ v F' H', Step K R rs' F H F' H' → VR K R F' H H' v x → Q v H') → t σ H Q
def TSem (K : PySem.W.Frag) (R : Option Addr) (t : TT) (f : Env → M Bool) : Prop :=
  ∀ (L : Nat → Option (Addr × List V)) (E : Hp) (ρ : Env) (σ : L2.St) (F H : Hp) (rs : RS) (x : Bool) (rs' : RS) (Q : Bool → Hp → Prop), Rel K R L E F ρ σ rs H → f ρ rs = some (x, rs') →
    (∀ F' H', Step K R rs' F H F' H' → Q x H') → t σ H Q
inductive VRs (K : PySem.W.Frag) (R : Option Addr) (F H0 H : Hp) : List V → List RV → Prop
  | nil : VRs K R F H0 H [] []
  | cons {v : V} {vs : List V} {x : RV} {xs : List RV} : VR K R F H0 H v x → VRs K R F H0 H vs xs → VRs K R F H0 H (v :: vs) (x :: xs)
theorem VRs.len {R : Option Addr} {F H0 H : Hp} : ∀ {vs : List V} {xs : List RV}, VRs K R F H0 H vs xs → vs.length = xs.length
  | _, _, .nil => rfl
  | _, _, .cons _ t => congrArg (· + 1) (VRs.len t)
theorem VRs.older {R : Option Addr} {F H0 H1 H : Hp} (e : ∀ a, H1 a = none → H0 a = none) : ∀ {vs : List V} {xs : List RV}, VRs K R F H1 H vs xs → VRs K R F H0 H vs xs
  | _, _, .nil => .nil
  | _, _, .cons h t => .cons (h.older e) (VRs.older e t)
def ASem (K : PySem.W.Frag) (R : Option Addr) (t : TA) (f : Env → M (List RV)) : Prop :=
  ∀ (L : Nat → Option (Addr × List V)) (E : Hp) (ρ : Env) (σ : L2.St) (F H : Hp) (rs : RS) (x : List RV) (rs' : RS) (Q : List V → Hp → Prop), Rel K R L E F ρ σ rs H → f ρ rs = some (x, rs') →
    (∀ vs F' H', Step K R rs' F H F' H' → VRs K R F' H H' vs x → Q vs H') → t σ H Q
structure DE (X : Cx) (R : Option Addr) (e : Expr) (t : TE) (f : Env → M RV) : Prop where
  pe : PE X e t
  sem : ESem X.K R t f
structure DT (X : Cx) (R : Option Addr) (e : Expr) (t : TT) (f : Env → M Bool) : Prop where
  pt : PT X e t
  sem : TSem X.K R t f
/-- in an and, an or -/
structure DW (X : Cx) (R : Option Addr) (e : Expr) (t : TT) (f : Env → M Bool) : Prop where
  pw : PW X e t
  sem : TSem X.K R t f
structure DA (X : Cx) (R : Option Addr) (es : List Expr) (t : TA) (f : Env → M (List RV)) : Prop where
  pa : PA X es t
  sem : ASem X.K R t f
end
end DV

/-! DV: expressions -/
namespace DV
open PySem L2

/-! ### reading results as data -/
def asInt : RV → Option Int
  | .d (.int i) => some i
  | _ => none
def asBool : RV → Option Bool
  | .d (.bool b) => some b
  | _ => none
/-- the items of a list or tuple -/
def items : RV → Option (List D)
  | .d (.tuple ds) => some ds
  | .d (.list ds) => some ds
  | .b ds => some ds
  | .n ds => some ds
  | _ => none
/-- as data (a new list is from then on never changed) -/
def toD : RV → Option D
  | .d x => some x
  | .n ds => some (.list ds)
  | _ => none
def toDs : List RV → Option (List D)
  | [] => some []
  | x :: xs => match toD x, toDs xs with
    | some d, some ds => some (d :: ds)
    | _, _ => none
section
variable {K : PySem.W.Frag} {R : Option Addr} {F F' H0 H H' : Hp} {rs rs' : RS}
/-- a sequence at an address: a list or a tuple -/
theorem VR.items {v : V} {x : RV} {ds : List D} (s : Step K R rs F H F H) (h : VR K R F H0 H v x) (e : DV.items x = some ds) :
    ∃ a vs, v = .ref a ∧ (SqL K H a vs ∨ SqT K H a vs) ∧ DpAll K F vs ds := by
  cases x with
  | d x =>
    cases x with
    | tuple es =>
      cases e
      cases h with
      | tup h1 h2 => exact ⟨_, _, rfl, .inr (ex_t (s.fin _) h1), h2⟩
    | list es =>
      cases e
      cases h with
      | lst h1 h2 => exact ⟨_, _, rfl, .inl (ex_l (s.fin _) h1), h2⟩
    | none => cases e
    | bool _ => cases e
    | int _ => cases e
    | str _ => cases e
    | dict _ => cases e
  | b es =>
    cases e
    obtain ⟨a, vs, e1, h1, h2, h3⟩ := h
    exact ⟨a, vs, e1, .inl (.inl (.inl h1)), h3⟩
  | n es =>
    cases e
    obtain ⟨a, vs, e1, h1, h0, h2, h3, h4⟩ := h
    exact ⟨a, vs, e1, .inl (.inl (.inl h1)), h4⟩
  | gb _ => cases e
  | gn _ => cases e
  | row => cases e
theorem VR.int {v : V} {x : RV} {i : Int} (h : VR K R F H0 H v x) (e : asInt x = some i) : v = .int i := by
  cases x with
  | d x =>
    cases x with
    | int j => cases e; cases h; rfl
    | _ => cases e
  | _ => cases e
theorem VR.bool {v : V} {x : RV} {i : Bool} (h : VR K R F H0 H v x) (e : asBool x = some i) : v = .bl i := by
  cases x with
  | d x =>
    cases x with
    | bool j => cases e; cases h; rfl
    | _ => cases e
  | _ => cases e
/-- F grows by things that are new since H0 -/
theorem VRs.freeze (s : Step K R rs F H F H) : ∀ {vs : List V} {xs : List RV} {ds : List D}, VRs K R F H0 H vs xs → toDs xs = some ds →
    ∃ F', (∀ a o, F a = some o → F' a = some o) ∧ (∀ a o, F' a = some o → F a = some o ∨ H0 a = none) ∧ (∀ a o, F' a = some o → H a = some o) ∧ (∀ r, R = some r → F' r = none) ∧ (∀ a o, F' a = some o → Fx K a o) ∧ DpAll K F' vs ds
  | _, _, _, .nil, e => by
    cases e
    exact ⟨F, fun _ _ h => h, fun _ _ h => .inl h, s.fin, s.rF, s.row.fnt, .nil⟩
  | _, _, _, .cons (v := v) (x := x) (xs := xs) hx ht, e => by
    unfold toDs at e
    cases e1 : toD x with
    | none => rw [e1] at e; cases e
    | some d =>
      cases e2 : toDs xs with
      | none => rw [e1, e2] at e; cases e
      | some es =>
        rw [e1, e2] at e
        cases e
        obtain ⟨F1, k1, k2, k3, k4, k5, hA⟩ := VRs.freeze s ht e2
        cases x with
        | d y =>
          cases e1
          exact ⟨F1, k1, k2, k3, k4, k5, .cons (Dp.mono k1 _ _ hx) hA⟩
        | n y =>
          cases e1
          obtain ⟨a, ws, rfl, h1, h0, h2, h3, h4⟩ := hx
          have ku : ∀ b o, F1 b = some o → upd F1 a (.lst ws) b = some o := fun b o q => by
            by_cases eb : b = a
            · subst eb
              rw [upd_same]
              have := k3 b o q
              rw [h1] at this
              exact this
            · rw [upd_ne eb]; exact q
          refine ⟨upd F1 a (.lst ws), fun b o q => ku b o (k1 b o q), fun b o q => ?_, fun b o q => ?_, fun r er => ?_, fun b o q => ?_, .cons (.lst (.inl (.inl upd_same)) (Dp.monoA (fun b o q => ku b o (k1 b o q)) _ _ h4)) (Dp.monoA ku _ _ hA)⟩
          · by_cases eb : b = a
            · subst eb; exact .inr h0
            · rw [upd_ne eb] at q; exact k2 b o q
          · by_cases eb : b = a
            · subst eb
              rw [upd_same] at q
              rw [h1]; exact q
            · rw [upd_ne eb] at q; exact k3 b o q
          · rw [upd_ne (fun z => h3 (by rw [er, z]))]
            exact k4 r er
          · by_cases eb : b = a
            · subst eb; rw [upd_same] at q; cases q; exact .lst
            · rw [upd_ne eb] at q; exact k5 b o q
        | b y => cases e1
        | gb _ => cases e1
        | gn _ => cases e1
        | row => cases e1
/-- a new object at p -/
theorem Step.new_lst {p : Addr} {vs : List V} (s : Step K R rs F H F H) (hp : H p = none) : Step K R rs F H F (upd H p (.lst vs)) ∧ F p = none ∧ some p ≠ R := by
  have hr : some p ≠ R := fun q => by
    obtain ⟨a, e, _⟩ := s.row.at_ p q.symm
    rw [hp] at e; cases e
  have hF : F p = none := by
    cases q : F p with
    | none => rfl
    | some o =>
      have := s.fin p o q
      rw [hp] at this; cases this
  refine ⟨⟨fun a o h _ _ => by rw [upd_ne (ne_of_none h hp)]; exact h, fun _ _ h => h, fun _ _ h => .inl h, fun a o h => by rw [upd_ne (ne_of_none (s.fin a o h) hp)]; exact s.fin a o h, ⟨fun r e => ?_, tabs_upd s.row.tab (.inl hp), s.row.fnt⟩, s.rF⟩, hF, hr⟩
  obtain ⟨a, e1, h1, h3⟩ := s.row.at_ r e
  exact ⟨a, by rw [upd_ne (ne_of_none e1 hp)]; exact e1, h1, h3⟩
theorem Step.new_tup {p : Addr} {vs : List V} (s : Step K R rs F H F H) (hp : H p = none) : Step K R rs F H (upd F p (.tup vs)) (upd H p (.tup vs)) := by
  have hr : some p ≠ R := fun q => by
    obtain ⟨a, e, _⟩ := s.row.at_ p q.symm
    rw [hp] at e; cases e
  refine ⟨fun a o h _ _ => by rw [upd_ne (ne_of_none h hp)]; exact h, fun a o h => ?_, fun a o h => ?_, fun a o h => ?_, ⟨fun r e => ?_, tabs_upd s.row.tab (.inl hp), fun a o h => ?_⟩, fun r e => ?_⟩
  · rw [upd_ne (ne_of_none (s.fin a o h) hp)]; exact h
  · by_cases eb : a = p
    · subst eb; exact .inr hp
    · rw [upd_ne eb] at h; exact .inl h
  · by_cases eb : a = p
    · subst eb; rw [upd_same] at h ⊢; exact h
    · rw [upd_ne eb] at h ⊢; exact s.fin a o h
  · obtain ⟨a, e1, h1, h3⟩ := s.row.at_ r e
    exact ⟨a, by rw [upd_ne (ne_of_none e1 hp)]; exact e1, ex_l (fun o q => by rw [upd_ne (ne_of_none (s.fin _ _ q) hp)]; exact q) h1, h3⟩
  · by_cases eb : a = p
    · subst eb; rw [upd_same] at h; cases h; exact .tup
    · rw [upd_ne eb] at h; exact s.row.fnt a o h
  · rw [upd_ne (fun z => hr (by rw [e, z]))]
    exact s.rF r e
end

section
variable {X : Cx} {R : Option Addr} {a b c e : Expr} {es : List Expr} {ta tb tc te : TE} {tt uu : TT} {t u : TA} {f g h : Env → M RV} {pos : Pos}

/-! ### names, constants -/
def eVar (i : Nat) : Env → M RV := fun ρ => lft (vget ρ i)
def eC (d : D) : Env → M RV := fun _ => ret (.d d)
theorem esem_var (K : PySem.W.Frag) (i : Nat) : ESem K R (tVar i) (eVar i) := fun L E ρ σ F H rs x rs' Q r hf k => by
  obtain ⟨e, rfl⟩ := lft_some hf
  obtain ⟨v, ev, hv⟩ := r.get e
  exact ⟨v, ev, k v F H r.refl hv⟩
theorem de_var (i : Nat) {x : Str} (hN : X.N[i]? = some x := by rfl) (hv : Vis X.env.scope x := by first | exact Or.inl rfl | exact Or.inr (Or.inl rfl) | exact Or.inr (Or.inr rfl)) (hd : (x == ("__debug__" : Str)) = false := by decide)
    (hcd : (x == ("__classdict__" : Str)) = false := by decide) : DE X R (.Name x pos) (tVar i) (eVar i) := ⟨pe_var hN hv hd hcd, esem_var _ i⟩
theorem esem_c (K : PySem.W.Frag) {v : V} {d : D} (h : ∀ F, Dp K F v d) : ESem K R (tC v) (eC d) := fun L E ρ σ F H rs x rs' Q r hf k => by
  obtain ⟨e, rfl⟩ := ret_some hf
  subst e
  exact k v F H r.refl (h F)
theorem de_int {i : Int} {j} : DE X R (.Constant (.int i) j pos) (tC (.int i)) (eC (.int i)) := ⟨pe_int, esem_c _ fun _ => .int i⟩
theorem de_bl {i : Bool} {j} : DE X R (.Constant (.bool i) j pos) (tC (.bl i)) (eC (.bool i)) := ⟨pe_bl, esem_c _ fun _ => .bl i⟩
theorem de_non {j} : DE X R (.Constant .none j pos) (tC .non) (eC .none) := ⟨pe_non, esem_c _ fun _ => .non⟩
theorem de_str {i : Str} {j} : DE X R (.Constant (.str i) j pos) (tC (.str i)) (eC (.str i)) := ⟨pe_str, esem_c _ fun _ => .str i⟩
/-- a module's constant -/
theorem de_globI {x : Str} {i : Int} {tk : Tok} (hg : Gl X x) (hm : X.mg x = some (.int i tk)) (hd : (x == ("__debug__" : Str)) = false := by decide) : DE X R (.Name x pos) (tC (.int i)) (eC (.int i)) :=
  ⟨pe_glob hg hm ⟨_, rfl⟩ hd, esem_c _ fun _ => .int i⟩

/-! ### operations by values -/
def RSem (K : PySem.W.Frag) (R : Option Addr) (r : R2) (g : RV → RV → Option RV) : Prop :=
  ∀ (F H0 H : Hp) (rs : RS) (x y : V) (p q z : RV) (Q : VK), Step K R rs F H F H → VR K R F H0 H x p → VR K R F H0 H y q → g p q = some z →
    (∀ v F' H', Step K R rs F H F' H' → VR K R F' H H' v z → Q v H') → r x y H Q
def e2 (g : RV → RV → Option RV) (f h : Env → M RV) : Env → M RV := fun ρ => bnd (f ρ) fun x => bnd (h ρ) fun y => lft (g x y)
theorem esem_op {K : PySem.W.Frag} {r : R2} {g : RV → RV → Option RV} (hr : RSem K R r g) (ha : ESem K R ta f) (hb : ESem K R tb h) : ESem K R (tOp r ta tb) (e2 g f h) := fun L E ρ σ F H rs x rs' Q r0 hf k => by
  obtain ⟨x1, rs1, e1, hf⟩ := bnd_some hf
  obtain ⟨x2, rs2, e2, hf⟩ := bnd_some hf
  obtain ⟨e3, rfl⟩ := lft_some hf
  refine ha L E ρ σ F H rs x1 rs1 _ r0 e1 fun v1 F1 H1 s1 h1 => ?_
  refine hb L E ρ σ F1 H1 rs1 x2 rs' _ (r0.step s1) e2 fun v2 F2 H2 s2 h2 => ?_
  have s12 := s1.trans r0.row s2
  refine hr F2 H H2 rs' v1 v2 x1 x2 x Q ((r0.step s1).step s2).refl (h1.step s2) (h2.older fun a q => s1.back r0.row q) e3 fun v3 F3 H3 s3 h3 => ?_
  exact k v3 F3 H3 (s12.trans r0.row s3) (h3.older fun a q => s12.back r0.row q)
theorem de_op {op : Operator} {r : R2} {g : RV → RV → Option RV} (ho : OpR X (binaryOp op) r) (hr : RSem X.K R r g) (ha : DE X R a ta f) (hb : DE X R b tb h) : DE X R (.BinOp a op b pos) (tOp r ta tb) (e2 g f h) :=
  ⟨pe_op ho ha.pe hb.pe, esem_op hr ha.sem hb.sem⟩
theorem de_cmp {op : CmpOp} {r : R2} {g : RV → RV → Option RV} (ho : OpR X (compareOp op) r) (hr : RSem X.K R r g) (ha : DE X R a ta f) (hb : DE X R b tb h) (hm : behindInMarks op b = false) : DE X R (.Compare a [op] [b] pos) (tOp r ta tb) (e2 g f h) :=
  ⟨pe_cmpR ho ha.pe hb.pe hm, esem_op hr ha.sem hb.sem⟩
def eT (f : Env → M RV) : Env → M Bool := fun ρ => bnd (f ρ) fun x => lft (asBool x)
theorem tsem_of {K : PySem.W.Frag} (he : ESem K R te f) : TSem K R (tTest te) (eT f) := fun L E ρ σ F H rs x rs' Q r hf k => by
  obtain ⟨x1, rs1, e1, hf⟩ := bnd_some hf
  obtain ⟨e2, rfl⟩ := lft_some hf
  exact he L E ρ σ F H rs x1 rs' _ r e1 fun v1 F1 H1 s1 h1 => ⟨x, h1.bool e2, k F1 H1 s1⟩
theorem dt_cmp {op : CmpOp} {r : R2} {g : RV → RV → Option RV} (ho : OpR X (compareOp op) r) (hr : RSem X.K R r g) (ha : DE X R a ta f) (hb : DE X R b tb h) (hm : behindInMarks op b = false) :
    DT X R (.Compare a [op] [b] pos) (tTest (tOp r ta tb)) (eT (e2 g f h)) := ⟨pt_cmpR ho ha.pe hb.pe hm, tsem_of (esem_op hr ha.sem hb.sem)⟩
theorem dt_val (he : DE X R e te f) (hw : ∀ whole, isTrue e X.env whole = (do let v ← whole; standAt e.pos; holding [v] (truthy v)) := by intro _; rfl) : DT X R e (tB te) (eT f) := ⟨pt_val he.pe hw, tsem_of he.sem⟩

/-! chains -/
def eCh (g g' : RV → RV → Option RV) (f h k : Env → M RV) : Env → M RV := fun ρ => bnd (f ρ) fun x => bnd (h ρ) fun y => bnd (lft (g x y)) fun b => bnd (lft (asBool b)) fun c =>
  if c = true then bnd (k ρ) fun w => lft (g' y w) else ret (.d (.bool false))
theorem esem_chain {K : PySem.W.Frag} {r r' : R2} {g g' : RV → RV → Option RV} {k : Env → M RV} (hr : RSem K R r g) (hr' : RSem K R r' g') (ha : ESem K R ta f) (hb : ESem K R tb h) (hc : ESem K R tc k) :
    ESem K R (tChain r r' ta tb tc) (eCh g g' f h k) := fun L E ρ σ F H rs x rs' Q r0 hf kk => by
  obtain ⟨x1, rs1, e1, hf1⟩ := bnd_some hf
  obtain ⟨x2, rs4, e2, hf2⟩ := bnd_some hf1
  obtain ⟨z, rs3, e3', hf3⟩ := bnd_some hf2
  obtain ⟨e3, q3⟩ := lft_some e3'
  obtain ⟨c, rs5, e4', hf4⟩ := bnd_some hf3
  obtain ⟨e4, q4⟩ := lft_some e4'
  rw [q4, q3] at hf4
  clear e3' e4' hf hf1 hf2 hf3
  refine ha L E ρ σ F H rs x1 rs1 _ r0 e1 fun v1 F1 H1 s1 h1 => ?_
  refine hb L E ρ σ F1 H1 rs1 x2 rs4 _ (r0.step s1) e2 fun v2 F2 H2 s2 h2 => ?_
  have s12 := s1.trans r0.row s2
  have h2' := h2.older (H0 := H) fun a q => s1.back r0.row q
  refine hr F2 H H2 rs4 v1 v2 x1 x2 z _ (Rel.refl ((r0.step s1).step s2)) (h1.step s2) h2' e3 fun v3 F3 H3 s3 h3 => ?_
  have s13 := s12.trans r0.row s3
  refine ⟨c, h3.bool e4, ?_⟩
  cases c with
  | false =>
    rw [if_neg Bool.false_ne_true] at hf4
    obtain ⟨e5, rfl⟩ := ret_some hf4
    subst e5
    exact kk _ F3 H3 s13 (.bl false)
  | true =>
    rw [if_pos rfl] at hf4
    obtain ⟨x5, rs5, e5, hf5⟩ := bnd_some hf4
    obtain ⟨e6, rfl⟩ := lft_some hf5
    refine hc L E ρ σ F3 H3 rs4 x5 rs' _ (r0.step s13) e5 fun v5 F5 H5 s5 h5 => ?_
    have s15 := s13.trans r0.row s5
    refine hr' F5 H H5 rs' v2 v5 x2 x5 x Q (r0.step s15).refl ((h2'.step s3).step s5) (h5.older fun a q => s13.back r0.row q) e6 fun v6 F6 H6 s6 h6 => ?_
    exact kk v6 F6 H6 (s15.trans r0.row s6) (h6.older fun a q => s15.back r0.row q)
theorem de_chain {op op' : CmpOp} {r r' : R2} {g g' : RV → RV → Option RV} {k : Env → M RV} (ho : OpR X (compareOp op) r) (ho' : OpR X (compareOp op') r') (hr : RSem X.K R r g) (hr' : RSem X.K R r' g')
    (ha : DE X R a ta f) (hb : DE X R b tb h) (hc : DE X R c tc k) (hm : lastMarks [op, op'] [b, c] = false := by with_unfolding_all rfl) : DE X R (.Compare a [op, op'] [b, c] pos) (tChain r r' ta tb tc) (eCh g g' f h k) :=
  ⟨pe_chain ho ho' ha.pe hb.pe hc.pe hm, esem_chain hr hr' ha.sem hb.sem hc.sem⟩
theorem dt_chain {op op' : CmpOp} {r r' : R2} {g g' : RV → RV → Option RV} {k : Env → M RV} (ho : OpR X (compareOp op) r) (ho' : OpR X (compareOp op') r') (hr : RSem X.K R r g) (hr' : RSem X.K R r' g')
    (ha : DE X R a ta f) (hb : DE X R b tb h) (hc : DE X R c tc k) (hm : lastMarks [op, op'] [b, c] = false := by with_unfolding_all rfl) : DT X R (.Compare a [op, op'] [b, c] pos) (tTest (tChain r r' ta tb tc)) (eT (eCh g g' f h k)) :=
  ⟨pt_chain ho ho' ha.pe hb.pe hc.pe hm, tsem_of (esem_chain hr hr' ha.sem hb.sem hc.sem)⟩

/-! ### ints -/
def gI (C : Int → Int → Bool) (k : Int → Int → D) : RV → RV → Option RV := fun x y => match asInt x, asInt y with
  | some i, some j => if C i j = true then some (.d (k i j)) else none
  | _, _ => none
theorem rsem_I {K : PySem.W.Frag} {C : Int → Int → Prop} {Cb : Int → Int → Bool} {kv : Int → Int → V} {k : Int → Int → D} (hC : ∀ i j, Cb i j = true → C i j) (hk : ∀ F i j, Dp K F (kv i j) (k i j)) : RSem K R (rI C kv) (gI Cb k) :=
  fun F H0 H rs x y p q z Q s hx hy e kk => by
    unfold gI at e
    cases e1 : asInt p with
    | none => rw [e1] at e; cases e
    | some i =>
      cases e2 : asInt q with
      | none => rw [e1, e2] at e; cases e
      | some j =>
        rw [e1, e2] at e
        by_cases hc : Cb i j = true
        · simp only [hc, if_true] at e
          cases e
          exact ⟨i, j, hx.int e1, hy.int e2, hC i j hc, kk _ F H s (hk F i j)⟩
        · simp only [hc] at e
          cases e
theorem rsem_I0 {K : PySem.W.Frag} {kv : Int → Int → V} {k : Int → Int → D} (hk : ∀ F i j, Dp K F (kv i j) (k i j)) : RSem K R (rI0 kv) (gI (fun _ _ => true) k) :=
  fun F H0 H rs x y p q z Q s hx hy e kk => by
    obtain ⟨i, j, h1, h2, _, h4⟩ := rsem_I (C := fun _ _ => True) (kv := kv) (fun _ _ _ => trivial) hk F H0 H rs x y p q z Q s hx hy e kk
    exact ⟨i, j, h1, h2, h4⟩
/-- a product: one factor below 2^64 in size -/
def cMul (i j : Int) : Bool := (decide (-18446744073709551616 < i) && decide (i < 18446744073709551616)) || (decide (-18446744073709551616 < j) && decide (j < 18446744073709551616))
theorem cMul_ok (i j : Int) (h : cMul i j = true) : CMul i j := by
  unfold cMul at h
  simp only [Bool.or_eq_true, Bool.and_eq_true, decide_eq_true_eq] at h
  unfold CMul
  exact h
def cDiv (i j : Int) : Bool := decide (0 < j) && decide (j < 1073741824)
theorem cDiv_ok (i j : Int) (h : cDiv i j = true) : CDiv i j := by
  unfold cDiv at h
  simp only [Bool.and_eq_true, decide_eq_true_eq] at h
  exact h
def cPos (i j : Int) : Bool := decide (0 < j)
def cPow (i j : Int) : Bool := decide (0 ≤ j) && (decide (j ≤ 1000000) && decide (i.natAbs < 18446744073709551616))
theorem cPow_ok (i j : Int) (h : cPow i j = true) : CPow i j := by
  unfold cPow at h
  simp only [Bool.and_eq_true, decide_eq_true_eq] at h
  exact h
abbrev gAddI := gI (fun _ _ => true) fun i j => .int (i + j)
abbrev gSubI := gI (fun _ _ => true) fun i j => .int (i - j)
abbrev gMulI := gI cMul fun i j => .int (i * j)
abbrev gFdiv := gI cDiv fun i j => .int (i / j)
abbrev gMod := gI cPos fun i j => .int (i % j)
abbrev gPow := gI cPow fun i j => .int (i ^ j.toNat)
abbrev gLt := gI (fun _ _ => true) fun i j => .bool (decide (i < j))
abbrev gLe := gI (fun _ _ => true) fun i j => .bool (decide (i ≤ j))
abbrev gGt := gI (fun _ _ => true) fun i j => .bool (decide (j < i))
abbrev gGe := gI (fun _ _ => true) fun i j => .bool (decide (j ≤ i))
end
end DV

/-! DV: operations, displays, calls -/
namespace DV
open PySem L2

/-- as data, where it is read at once -/
def viewD : RV → Option D
  | .d x => some x
  | .b ds => some (.list ds)
  | .n ds => some (.list ds)
  | .gb _ => none
  | .gn _ => none
  | .row => none
section
variable {K : PySem.W.Frag} {R : Option Addr} {F F' H0 H H' : Hp} {rs rs' : RS}
theorem VR.view {v : V} {x : RV} {d : D} (s : Step K R rs F H F H) (h : VR K R F H0 H v x) (e : viewD x = some d) : Dp K H v d := by
  cases x with
  | d x => cases e; exact Dp.mono s.fin _ _ h
  | b ds =>
    cases e
    obtain ⟨a, vs, rfl, h1, h2, h3⟩ := h
    exact .lst (.inl (.inl h1)) (Dp.monoA s.fin _ _ h3)
  | n ds =>
    cases e
    obtain ⟨a, vs, rfl, h1, h0, h2, h3, h4⟩ := h
    exact .lst (.inl (.inl h1)) (Dp.monoA s.fin _ _ h4)
  | gb _ => cases e
  | gn _ => cases e
  | row => cases e
end

section
variable {X : Cx} {R : Option Addr} {K : PySem.W.Frag} {a b c e : Expr} {es : List Expr} {ta tb tc te : TE} {tt uu : TT} {t u : TA} {f g h : Env → M RV} {pos : Pos}

/-! ### ==, !=, in, is -/
def gEqB (neg : Bool) : RV → RV → Option RV := fun x y => match viewD x, viewD y with
  | some d, some e => if SeqAt.shaped d = true then if SeqAt.shaped e = true then some (.d (.bool (if neg then !PyData.eqv d e else PyData.eqv d e))) else none else none
  | _, _ => none
abbrev gEq := gEqB false
abbrev gNe := gEqB true
theorem gEqB_some {neg : Bool} {x y z : RV} (h : gEqB neg x y = some z) : ∃ d e, viewD x = some d ∧ viewD y = some e ∧ SeqAt.shaped d = true ∧ SeqAt.shaped e = true ∧ z = .d (.bool (if neg then !PyData.eqv d e else PyData.eqv d e)) := by
  unfold gEqB at h
  cases e1 : viewD x with
  | none => rw [e1] at h; cases h
  | some d =>
    cases e2 : viewD y with
    | none => rw [e1, e2] at h; cases h
    | some e =>
      rw [e1, e2] at h
      by_cases s1 : SeqAt.shaped d = true
      · by_cases s2 : SeqAt.shaped e = true
        · simp only [s1, s2, if_true] at h
          exact ⟨d, e, rfl, rfl, s1, s2, (Option.some.inj h).symm⟩
        · simp only [s1, s2, if_true] at h; cases h
      · simp only [s1] at h; cases h
theorem rsem_eq : RSem K R (rEqD K) gEq := fun F H0 H rs x y p q z Q s hx hy e kk => by
  obtain ⟨d, e', e1, e2, s1, s2, rfl⟩ := gEqB_some e
  exact ⟨d, e', hx.view s e1, hy.view s e2, s1, s2, kk _ F H s (.bl _)⟩
theorem rsem_ne : RSem K R (rNeD K) gNe := fun F H0 H rs x y p q z Q s hx hy e kk => by
  obtain ⟨d, e', e1, e2, s1, s2, rfl⟩ := gEqB_some e
  exact ⟨d, e', hx.view s e1, hy.view s e2, s1, s2, kk _ F H s (.bl _)⟩
/-- in a list or tuple -/
def seqD (y : D) (ds : List D) : Prop := y = .list ds ∨ y = .tuple ds
def rInA (K : PySem.W.Frag) (neg : Bool) : R2 := fun x y H Q => ∃ d ds e, Dp K H x d ∧ Dp K H y e ∧ seqD e ds ∧ SeqAt.shaped d = true ∧ SeqAt.shaped (.list ds) = true ∧ Q (.bl (if neg then !(ds.any fun z => PyData.eqv z d) else ds.any fun z => PyData.eqv z d)) H
theorem op_inA (hu : X.A.units + 65 < cLine) : OpR X (compareOp .In) (rInA X.K false) := by
  intro pins s σ H x y v u Q I rx ry h
  obtain ⟨d, ds, e, hd, he, hs, sd, se, q⟩ := h
  obtain ⟨as, r1⟩ := Dp.reads I d x v hd rx
  obtain ⟨bs, r2⟩ := Dp.reads I e y u he ry
  rcases hs with rfl | rfl
  · exact SeqAt.in_list_reads r2 r1 (SeqAt.canLay_of_shaped se) (SeqAt.canLay_of_shaped sd) (PyProof.Rows.room_in_shaped sd hu) ⟨.bl _, H, I, rfl, q⟩
  · exact SeqAt.in_tuple_reads r2 r1 (SeqAt.canLay_of_shaped se) (SeqAt.canLay_of_shaped sd) (PyProof.Rows.room_in_shaped sd hu) ⟨.bl _, H, I, rfl, q⟩
theorem op_notInA (hu : X.A.units + 65 < cLine) : OpR X (compareOp .NotIn) (rInA X.K true) := by
  intro pins s σ H x y v u Q I rx ry h
  obtain ⟨d, ds, e, hd, he, hs, sd, se, q⟩ := h
  obtain ⟨as, r1⟩ := Dp.reads I d x v hd rx
  obtain ⟨bs, r2⟩ := Dp.reads I e y u he ry
  rcases hs with rfl | rfl
  · exact SeqAt.notIn_list_reads r2 r1 (SeqAt.canLay_of_shaped se) (SeqAt.canLay_of_shaped sd) (PyProof.Rows.room_in_shaped sd hu) ⟨.bl _, H, I, rfl, q⟩
  · exact SeqAt.notIn_tuple_reads r2 r1 (SeqAt.canLay_of_shaped se) (SeqAt.canLay_of_shaped sd) (PyProof.Rows.room_in_shaped sd hu) ⟨.bl _, H, I, rfl, q⟩
def gInB (neg : Bool) : RV → RV → Option RV := fun x y => match viewD x, items y with
  | some d, some ds => if SeqAt.shaped d = true then if SeqAt.shaped (.list ds) = true then some (.d (.bool (if neg then !(ds.any fun z => PyData.eqv z d) else ds.any fun z => PyData.eqv z d))) else none else none
  | _, _ => none
abbrev gIn := gInB false
abbrev gNotIn := gInB true
theorem VR.seqD {v : V} {x : RV} {ds : List D} {F H0 H : Hp} {rs : RS} (s : Step K R rs F H F H) (h : VR K R F H0 H v x) (e : DV.items x = some ds) : ∃ y, Dp K H v y ∧ DV.seqD y ds := by
  obtain ⟨a, vs, rfl, h1, h2⟩ := h.items s e
  rcases h1 with h1 | h1
  · exact ⟨.list ds, .lst h1 (Dp.monoA s.fin _ _ h2), .inl rfl⟩
  · exact ⟨.tuple ds, .tup h1 (Dp.monoA s.fin _ _ h2), .inr rfl⟩
theorem rsem_in (neg : Bool) : RSem K R (rInA K neg) (gInB neg) := fun F H0 H rs x y p q z Q s hx hy e kk => by
  unfold gInB at e
  cases e1 : viewD p with
  | none => rw [e1] at e; cases e
  | some d =>
    cases e2 : items q with
    | none => rw [e1, e2] at e; cases e
    | some ds =>
      rw [e1, e2] at e
      by_cases s1 : SeqAt.shaped d = true
      · by_cases s2 : SeqAt.shaped (.list ds) = true
        · simp only [s1, s2, if_true] at e
          obtain ⟨y', h1, h2⟩ := hy.seqD s e2
          have e := Option.some.inj e
          subst e
          exact ⟨d, ds, y', hx.view s e1, h1, h2, s1, s2, kk _ F H s (.bl _)⟩
        · simp only [s1, s2, if_true] at e; cases e
      · simp only [s1] at e; cases e
/-- is None -/
def isNoneD : D → Bool
  | .none => true
  | _ => false
def gIsN (neg : Bool) : RV → RV → Option RV := fun x y => match viewD x, y with
  | some d, .d .none => some (.d (.bool (if neg then !isNoneD d else isNoneD d)))
  | _, _ => none
theorem none_iff {v : V} {d : D} {F : Hp} (h : Dp K F v d) : decide (v = V.non) = isNoneD d := by
  cases h <;> rfl
theorem gIsN_some {neg : Bool} {x y z : RV} (h : gIsN neg x y = some z) : ∃ d, viewD x = some d ∧ y = .d .none ∧ z = .d (.bool (if neg then !isNoneD d else isNoneD d)) := by
  unfold gIsN at h
  cases e1 : viewD x with
  | none => rw [e1] at h; cases h
  | some d =>
    rw [e1] at h
    cases y with
    | d y =>
      cases y with
      | none => exact ⟨d, rfl, rfl, (Option.some.inj h).symm⟩
      | _ => cases h
    | _ => cases h
theorem rsem_isN : RSem K R (fun x y H Q => y = .non ∧ Q (.bl (decide (x = .non))) H) (gIsN false) := fun F H0 H rs x y p q z Q s hx hy e kk => by
  obtain ⟨d, e1, rfl, rfl⟩ := gIsN_some e
  cases hy
  refine ⟨rfl, kk _ F H s ?_⟩
  rw [none_iff (hx.view s e1)]
  exact .bl _
theorem rsem_notN : RSem K R (fun x y H Q => y = .non ∧ Q (.bl (!decide (x = .non))) H) (gIsN true) := fun F H0 H rs x y p q z Q s hx hy e kk => by
  obtain ⟨d, e1, rfl, rfl⟩ := gIsN_some e
  cases hy
  refine ⟨rfl, kk _ F H s ?_⟩
  rw [none_iff (hx.view s e1)]
  exact .bl _

/-! ### subscripts, slices -/
def gIx : RV → RV → Option RV := fun x y => match items x, asInt y with
  | some ds, some i => (atI ds i).map RV.d
  | _, _ => none
theorem rsem_ix : RSem K R (rIx K) gIx := fun F H0 H rs x y p q z Q s hx hy e kk => by
  unfold gIx at e
  cases e1 : items p with
  | none => rw [e1] at e; cases e
  | some ds =>
    cases e2 : asInt q with
    | none => rw [e1, e2] at e; cases e
    | some i =>
      rw [e1, e2] at e
      obtain ⟨a, vs, rfl, h1, h2⟩ := hx.items s e1
      have e' : (atI ds i).map RV.d = some z := e
      cases e3 : atI ds i with
      | none => rw [e3] at e'; cases e'
      | some d =>
        rw [e3] at e'
        cases e'
        unfold atI at e3
        cases e4 : ixN ds.length i with
        | none => rw [e4] at e3; cases e3
        | some j =>
          rw [e4] at e3
          obtain ⟨v, hv, hd⟩ := h2.get (show ds[j]? = some d from e3)
          have hat : atI vs i = some v := by
            unfold atI
            rw [h2.len, e4]
            exact hv
          rcases h1 with h1 | h1
          · exact .inl ⟨a, vs, i, v, rfl, hy.int e2, h1, hat, kk _ F H s hd⟩
          · exact .inr (.inl ⟨a, vs, i, v, rfl, hy.int e2, h1, hat, kk _ F H s hd⟩)
theorem de_ix (ha : DE X R a ta f) (hb : DE X R b tb h) (hs : PlainIx b := by exact fun _ _ => rfl) : DE X R (.Subscript a b pos) (tOp (rIx X.K) ta tb) (e2 gIx f h) :=
  ⟨pe_ix ix_seq ha.pe hb.pe hs, esem_op rsem_ix ha.sem hb.sem⟩
def cutD (xs : List D) (lo hi : Option Int) : List D := (xs.drop (HT.sIx xs.length 0 lo)).take (HT.sIx xs.length xs.length hi - HT.sIx xs.length 0 lo)
theorem DpAllcut {F : Hp} {vs : List V} {ds : List D} (h : DpAll K F vs ds) (lo hi : Option Int) : DpAll K F (cutV vs lo hi) (cutD ds lo hi) := by
  unfold cutV cutD
  rw [h.len]
  exact DpAll.take _ (DpAll.drop _ h)
/-- the parts of a slice -/
def OSem (K : PySem.W.Frag) (R : Option Addr) (t : TO) (f : Env → M (Option Int)) : Prop :=
  ∀ (L : Nat → Option (Addr × List V)) (E : Hp) (ρ : Env) (σ : L2.St) (F H : Hp) (rs : RS) (x : Option Int) (rs' : RS) (Q : Option Int → Hp → Prop), Rel K R L E F ρ σ rs H → f ρ rs = some (x, rs') →
    (∀ F' H', Step K R rs' F H F' H' → Q x H') → t σ H Q
structure DO (X : Cx) (R : Option Addr) (e : Option Expr) (t : TO) (f : Env → M (Option Int)) : Prop where
  po : PO X e t
  sem : OSem X.K R t f
theorem do_none : DO X R none tNoPart (fun _ => ret none) := ⟨po_none, fun L E ρ σ F H rs x rs' Q r hf k => by
  obtain ⟨e, rfl⟩ := ret_some hf
  subst e
  exact k F H r.refl⟩
theorem do_some (he : DE X R e te f) : DO X R (some e) (tPart te) (fun ρ => bnd (f ρ) fun x => bnd (lft (asInt x)) fun i => ret (some i)) := ⟨po_some he.pe, fun L E ρ σ F H rs x rs' Q r hf k => by
  obtain ⟨x1, rs1, e1, hf1⟩ := bnd_some hf
  obtain ⟨i, rs2, e2, hf2⟩ := bnd_some hf1
  obtain ⟨e3, q3⟩ := lft_some e2
  obtain ⟨e4, q4⟩ := ret_some hf2
  subst e4 q4 q3
  exact he.sem L E ρ σ F H rs x1 _ _ r e1 fun v1 F1 H1 s1 h1 => ⟨i, h1.int e3, k F1 H1 s1⟩⟩
def eSlice (f : Env → M RV) (lo hi : Env → M (Option Int)) : Env → M RV := fun ρ => bnd (f ρ) fun x => bnd (lo ρ) fun l => bnd (hi ρ) fun u => lft (match x with
  | .d (.tuple ds) => some (.d (.tuple (cutD ds l u)))
  | .d (.list ds) => some (.n (cutD ds l u))
  | .b ds => some (.n (cutD ds l u))
  | .n ds => some (.n (cutD ds l u))
  | _ => none)
theorem sl_both : SlR X (fun x lo hi H Q => rSlL X.K x lo hi H Q ∨ rSlA X.K x lo hi H Q) := SlR.or sl_list sl_tupA
theorem esem_slice {tl th : TO} {lo hi : Env → M (Option Int)} (he : ESem K R te f) (hl : OSem K R tl lo) (hh : OSem K R th hi) : ESem K R (tSl (fun x lo hi H Q => rSlL K x lo hi H Q ∨ rSlA K x lo hi H Q) te tl th) (eSlice f lo hi) :=
  fun L E ρ σ F H rs x rs' Q r0 hf kk => by
    obtain ⟨x1, rs1, e1, hf1⟩ := bnd_some hf
    obtain ⟨l, rs2, e2, hf2⟩ := bnd_some hf1
    obtain ⟨u, rs3, e3, hf3⟩ := bnd_some hf2
    obtain ⟨e4, q4⟩ := lft_some hf3
    subst q4
    refine he L E ρ σ F H rs x1 rs1 _ r0 e1 fun v1 F1 H1 s1 h1 => ?_
    refine hl L E ρ σ F1 H1 rs1 l rs2 _ (r0.step s1) e2 fun F2 H2 s2 => ?_
    refine hh L E ρ σ F2 H2 rs2 u rs' _ ((r0.step s1).step s2) e3 fun F3 H3 s3 => ?_
    have s13 := (s1.trans r0.row s2).trans r0.row s3
    have r3 := r0.step s13
    have h3 := (h1.step s2).step s3
    have mk : ∀ (a : Addr) (vs : List V) (ds : List D), v1 = .ref a → SqL K H3 a vs → DpAll K F3 vs ds → RV.n (cutD ds l u) = x → rSlL K v1 l u H3 Q := fun a vs ds ev hs hd ex => by
      refine ⟨a, vs, ev, hs, fun p hp => ?_⟩
      obtain ⟨s4, hF, hR⟩ := Step.new_lst (vs := cutV vs l u) r3.refl hp
      subst ex
      exact kk _ F3 _ (s13.trans r0.row s4) ⟨p, _, rfl, upd_same, s13.back r0.row hp, hF, hR, DpAllcut hd l u⟩
    cases x1 with
    | d y =>
      cases y with
      | tuple ds =>
        have e4 := Option.some.inj e4
        cases h3 with
        | @tup a vs _ hs hd =>
          refine .inr ⟨_, _, rfl, ex_t (r3.fr _) hs, fun hw => ?_, fun hw p hp => ?_⟩
          · have ec : cutD ds l u = ds := by
              have hl := hd.len
              unfold cutD
              rw [hl] at hw
              rw [hw.1, hw.2]
              simp
            rw [ec] at e4
            subst e4
            exact kk _ F3 H3 s13 (.tup hs hd)
          · subst e4
            have s4 := Step.new_tup (vs := cutV vs l u) r3.refl hp
            exact kk _ _ _ (s13.trans r0.row s4) (.tup (.inl (.inl upd_same)) (Dp.monoA s4.sub _ _ (DpAllcut hd l u)))
      | list ds =>
        have e4 := Option.some.inj e4
        cases h3 with
        | lst hs hd => exact .inl (mk _ _ ds rfl (ex_l (r3.fr _) hs) hd e4)
      | none => cases e4
      | bool _ => cases e4
      | int _ => cases e4
      | str _ => cases e4
      | dict _ => cases e4
    | b ds =>
      have e4 := Option.some.inj e4
      obtain ⟨a, vs, ev, hs, _, hd⟩ := h3
      exact .inl (mk a vs ds ev (.inl (.inl hs)) hd e4)
    | n ds =>
      have e4 := Option.some.inj e4
      obtain ⟨a, vs, ev, hs, _, _, _, hd⟩ := h3
      exact .inl (mk a vs ds ev (.inl (.inl hs)) hd e4)
    | gb _ => cases e4
    | gn _ => cases e4
    | row => cases e4
theorem de_slice {lo hi : Option Expr} {tl th : TO} {l u : Env → M (Option Int)} {p2 : Pos} (he : DE X R e te f) (hl : DO X R lo tl l) (hh : DO X R hi th u) :
    DE X R (.Subscript e (.Slice lo hi none p2) pos) (tSl (fun x lo hi H Q => rSlL X.K x lo hi H Q ∨ rSlA X.K x lo hi H Q) te tl th) (eSlice f l u) := ⟨pe_slice sl_both he.pe hl.po hh.po, esem_slice he.sem hl.sem hh.sem⟩

/-! ### + and * -/
theorem OpR.or {fo : Value → Value → Sem Value} {r r' : R2} (h : OpR X fo r) (h' : OpR X fo r') : OpR X fo (fun x y H Q => r x y H Q ∨ r' x y H Q) := fun pins s σ H x y v u Q I rx ry hq => by
  rcases hq with q | q
  · exact h pins s σ H x y v u Q I rx ry q
  · exact h' pins s σ H x y v u Q I rx ry q
def gAdd : RV → RV → Option RV := fun x y => match x, y with
  | .d (.int i), .d (.int j) => some (.d (.int (i + j)))
  | .d (.tuple ds), .d (.tuple es) => if ds.length + es.length ≤ 10000 then some (.d (.tuple (ds ++ es))) else none
  | .n ds, .n es => if ds.length + es.length ≤ 10000 then some (.n (ds ++ es)) else none
  | .n ds, .b es => if ds.length + es.length ≤ 10000 then some (.n (ds ++ es)) else none
  | .b ds, .n es => if ds.length + es.length ≤ 10000 then some (.n (ds ++ es)) else none
  | .b ds, .b es => if ds.length + es.length ≤ 10000 then some (.n (ds ++ es)) else none
  | _, _ => none
theorem sz_of {n : Nat} (h : n ≤ 10000) : n ≤ sizeLine := Nat.le_trans h (by decide)
theorem sz_lt {n : Nat} (h : n < 10000) : n < sizeLine := Nat.lt_of_lt_of_le h (by decide)
end
end DV

/-! DV: a tuple once -/
namespace DV
open PySem L2 PyProof.Rows PySem.Spec
theorem tup_once (l : Addr) (its : Array Value) (n : Nat) (u : Tok) (dd : Option Addr) (sl : Array (Option Value)) :
    Meets (Builtin.«tuple.__mul__» ⟨[.ref l, .int 1 u], []⟩)
      (fun _ R s => (s.heap.get? l = some ⟨.type "tuple", dd, .seq its n, sl⟩) ∧ R (.ok (.ret (Value.ref l))) s) :=
  .of_wp fun prog w A R s h => by
    obtain ⟨hp, g, d, tk, os⟩ := s
    obtain ⟨hl, h⟩ := h
    have f1 := AutoSeq1.idx_int
    wp_walk using AutoSeq1.wpAny_loadPart' hl
    exact ⟨_, rfl, h⟩
def rOnce (K : PySem.W.Frag) : R2 := fun x y H Q => ∃ l xs, x = .ref l ∧ y = .int 1 ∧ SqT K H l xs ∧ Q (.ref l) H
section
variable {X : Cx}
theorem op_once : OpR X (binaryOp .Mult) (rOnce X.K) := by
  intro pins s σ H x y v u Q I rx ry h
  obtain ⟨l, xs, rfl, rfl, hT, q⟩ := h
  have hx := rx
  cases rx
  obtain ⟨t, rfl⟩ := ry
  obtain ⟨its, r, ⟨⟨cls, dd, data, sl⟩, ho, hc, n, hd⟩, hs⟩ := I.tuple hT
  simp only at hc hd
  subst hc hd
  refine wpAny_binaryOp_repeat_ref (T := "tuple") (U := "int") (by decide) ⟨_, ho, rfl⟩ (fun s' => typeIs_int s' 1 t) noFill_tuple_mul F.fills_int_mul F.slot_int_rmul repeat_tuple F.slot_int_index.lookup
    (call_meets F.slot_int_rmul (typeIs_int s 1 t) F.entry_int_rmul (F.args_int_rmul_2 _ _) (int_rmul_tuple 1 t l its.toArray n dd sl)
      ⟨ho, rfl, ⟨_, ho, rfl⟩, call_meets F.slot_tuple_mul ⟨_, ho, rfl⟩ F.entry_tuple_mul (F.args_tuple_mul_2 _ _) (tup_once l its.toArray n t dd sl) ⟨ho, ?_⟩⟩)
  exact ⟨.ref l, _, I, rfl, q⟩
end
end DV

/-! DV: +, *, and/or/not, displays, calls by value -/
namespace DV
open PySem L2
section
variable {X : Cx} {R : Option Addr} {K : PySem.W.Frag} {a b c e : Expr} {es : List Expr} {ta tb tc te : TE} {tt uu : TT} {t u : TA} {f g h : Env → M RV} {p q pos : Pos}

/-! ### + and * -/
/-- a tracked list -/
theorem VR.lst {F H0 H : Hp} {v : V} {x : RV} {ds : List D} (h : VR K R F H0 H v x) (e : x = .b ds ∨ x = .n ds) : ∃ a vs, v = .ref a ∧ H a = some (.lst vs) ∧ DpAll K F vs ds := by
  rcases e with rfl | rfl
  · obtain ⟨a, vs, e1, h1, h2, h3⟩ := h
    exact ⟨a, vs, e1, h1, h3⟩
  · obtain ⟨a, vs, e1, h1, h0, h2, h3, h4⟩ := h
    exact ⟨a, vs, e1, h1, h4⟩
def asLst : RV → Option (List D)
  | .b ds => some ds
  | .n ds => some ds
  | _ => none
theorem asLst_some {x : RV} {ds : List D} (h : asLst x = some ds) : x = .b ds ∨ x = .n ds := by
  cases x with
  | b es => cases h; exact .inl rfl
  | n es => cases h; exact .inr rfl
  | _ => cases h
def gAddA : RV → RV → Option RV := fun x y => match x, y with
  | .d (.int i), .d (.int j) => some (.d (.int (i + j)))
  | .d (.tuple ds), .d (.tuple es) => if ds.length + es.length ≤ 10000 then some (.d (.tuple (ds ++ es))) else none
  | x, y => match asLst x, asLst y with
    | some ds, some es => if ds.length + es.length ≤ 10000 then some (.n (ds ++ es)) else none
    | _, _ => none
abbrev rAddA (K : PySem.W.Frag) : R2 := fun x y H Q => rI0 (fun i j => .int (i + j)) x y H Q ∨ (rCatA K x y H Q ∨ rCat x y H Q)
theorem op_addA : OpR X (binaryOp .Add) (rAddA X.K) := OpR.or op_add (OpR.or op_catA op_cat)
theorem gAddA_some {x y z : RV} (h : gAddA x y = some z) :
    (∃ i j, x = .d (.int i) ∧ y = .d (.int j) ∧ z = .d (.int (i + j))) ∨
    (∃ ds es, x = .d (.tuple ds) ∧ y = .d (.tuple es) ∧ ds.length + es.length ≤ 10000 ∧ z = .d (.tuple (ds ++ es))) ∨
    (∃ ds es, asLst x = some ds ∧ asLst y = some es ∧ ds.length + es.length ≤ 10000 ∧ z = .n (ds ++ es)) := by
  unfold gAddA at h
  split at h
  · exact .inl ⟨_, _, rfl, rfl, (Option.some.inj h).symm⟩
  · split at h
    · rename_i hl
      exact .inr (.inl ⟨_, _, rfl, rfl, hl, (Option.some.inj h).symm⟩)
    · cases h
  · split at h
    · rename_i ds es e1 e2
      split at h
      · rename_i hl
        exact .inr (.inr ⟨ds, es, e1, e2, hl, (Option.some.inj h).symm⟩)
      · cases h
    · cases h
theorem rsem_add : RSem K R (rAddA K) gAddA := fun F H0 H rs x y p q z Q s hx hy e kk => by
  rcases gAddA_some e with ⟨i, j, rfl, rfl, rfl⟩ | ⟨ds, es, rfl, rfl, hl, rfl⟩ | ⟨ds, es, e1, e2, hl, rfl⟩
  · cases hx; cases hy
    exact .inl ⟨i, j, rfl, rfl, kk _ F H s (Dp.int _)⟩
  · cases hx with
    | @tup a vs _ h1 h2 =>
      cases hy with
      | @tup b ws _ k1 k2 =>
        refine .inr (.inl ⟨a, b, vs, ws, rfl, rfl, ex_t (s.fin _) h1, ex_t (s.fin _) k1, by rw [h2.len, k2.len]; exact sz_of hl, fun ev => ?_, fun nv ew => ?_, fun nv nw pp hp => ?_⟩)
        · have ed : ds = [] := List.eq_nil_of_length_eq_zero (by rw [← h2.len, ev]; rfl)
          refine kk _ F H s ?_
          rw [ed]
          exact .tup k1 k2
        · have ed : es = [] := List.eq_nil_of_length_eq_zero (by rw [← k2.len, ew]; rfl)
          refine kk _ F H s ?_
          rw [ed, List.append_nil]
          exact .tup h1 h2
        · have s4 := Step.new_tup (vs := vs ++ ws) s hp
          exact kk _ _ _ s4 (.tup (.inl (.inl upd_same)) (Dp.monoA s4.sub _ _ (h2.append k2)))
  · obtain ⟨a, vs, rfl, h1, h2⟩ := hx.lst (asLst_some e1)
    obtain ⟨b, ws, rfl, k1, k2⟩ := hy.lst (asLst_some e2)
    refine .inr (.inr ⟨a, b, vs, ws, rfl, rfl, h1, k1, by rw [h2.len, k2.len]; exact sz_of hl, fun pp hp => ?_⟩)
    obtain ⟨s4, hF, hR⟩ := Step.new_lst (vs := vs ++ ws) s hp
    exact kk _ F _ s4 ⟨pp, _, rfl, upd_same, hp, hF, hR, h2.append k2⟩
/-- list * n -/
def gMulA : RV → RV → Option RV := fun x y => match x, y with
  | .d (.int i), .d (.int j) => if cMul i j = true then some (.d (.int (i * j))) else none
  | .d (.tuple ds), .d (.int j) => if 1 ≤ j ∧ j ≤ 1000 ∧ ds.length ≤ 1000 ∧ ds ≠ [] then some (.d (.tuple (List.replicate j.toNat ds).flatten)) else none
  | x, .d (.int j) => match asLst x with
    | some ds => if -1000 ≤ j ∧ j ≤ 1000 ∧ ds.length ≤ 1000 then some (.n (List.replicate j.toNat ds).flatten) else none
    | none => none
  | _, _ => none
abbrev rMulA (K : PySem.W.Frag) : R2 := fun x y H Q => rI CMul (fun i j => .int (i * j)) x y H Q ∨ ((rOnce K x y H Q ∨ rRepT K x y H Q) ∨ rRep x y H Q)
theorem op_mulA : OpR X (binaryOp .Mult) (rMulA X.K) := OpR.or op_mul (OpR.or (OpR.or op_once op_repT) op_rep)
theorem gMulA_some {x y z : RV} (h : gMulA x y = some z) :
    (∃ i j, x = .d (.int i) ∧ y = .d (.int j) ∧ cMul i j = true ∧ z = .d (.int (i * j))) ∨
    (∃ ds j, x = .d (.tuple ds) ∧ y = .d (.int j) ∧ (1 ≤ j ∧ j ≤ 1000 ∧ ds.length ≤ 1000 ∧ ds ≠ []) ∧ z = .d (.tuple (List.replicate j.toNat ds).flatten)) ∨
    (∃ ds j, asLst x = some ds ∧ y = .d (.int j) ∧ (-1000 ≤ j ∧ j ≤ 1000 ∧ ds.length ≤ 1000) ∧ z = .n (List.replicate j.toNat ds).flatten) := by
  unfold gMulA at h
  split at h
  · split at h
    · rename_i hl
      exact .inl ⟨_, _, rfl, rfl, hl, (Option.some.inj h).symm⟩
    · cases h
  · split at h
    · rename_i hl
      exact .inr (.inl ⟨_, _, rfl, rfl, hl, (Option.some.inj h).symm⟩)
    · cases h
  · split at h
    · rename_i ds e1
      split at h
      · rename_i hl
        exact .inr (.inr ⟨ds, _, e1, rfl, hl, (Option.some.inj h).symm⟩)
      · cases h
    · cases h
  · cases h
theorem rsem_mul : RSem K R (rMulA K) gMulA := fun F H0 H rs x y p q z Q s hx hy e kk => by
  rcases gMulA_some e with ⟨i, j, rfl, rfl, hc, rfl⟩ | ⟨ds, j, rfl, rfl, ⟨h2, h3, h4, h5⟩, rfl⟩ | ⟨ds, j, e1, rfl, ⟨h2, h3, h4⟩, rfl⟩
  · cases hx; cases hy
    exact .inl ⟨i, j, rfl, rfl, cMul_ok i j hc, kk _ F H s (Dp.int _)⟩
  · cases hy
    cases hx with
    | @tup a vs _ k1 k2 =>
      by_cases hj : j = 1
      · subst hj
        refine .inr (.inl (.inl ⟨a, vs, rfl, rfl, ex_t (s.fin _) k1, kk _ F H s ?_⟩))
        rw [show (List.replicate (1 : Int).toNat ds).flatten = ds by simp]
        exact .tup k1 k2
      refine .inr (.inl (.inr ⟨a, j, vs, rfl, rfl, ex_t (s.fin _) k1, fun ev => h5 (List.eq_nil_of_length_eq_zero (by rw [← k2.len, ev]; rfl)), by omega, h3, by rw [k2.len]; exact h4, fun pp hp => ?_⟩))
      have s4 := Step.new_tup (vs := (List.replicate j.toNat vs).flatten) s hp
      exact kk _ _ _ s4 (.tup (.inl (.inl upd_same)) (Dp.monoA s4.sub _ _ (k2.rep _)))
  · cases hy
    obtain ⟨a, vs, rfl, k1, k2⟩ := hx.lst (asLst_some e1)
    refine .inr (.inr ⟨a, j, vs, rfl, rfl, k1, by omega, by omega, ?_, fun pp hp => ?_⟩)
    · rw [k2.len]
      have : ds.length * j.toNat ≤ 1000 * 1000 := Nat.mul_le_mul h4 (by omega)
      exact Nat.le_trans this (by decide)
    · obtain ⟨s4, hF, hR⟩ := Step.new_lst (vs := (List.replicate j.toNat vs).flatten) s hp
      exact kk _ F _ s4 ⟨pp, _, rfl, upd_same, hp, hF, hR, k2.rep _⟩

/-! ### one-place operations, and, or, not, if else -/
def eNeg (f : Env → M RV) : Env → M RV := fun ρ => bnd (f ρ) fun x => bnd (lft (asInt x)) fun i => ret (.d (.int (-i)))
theorem de_neg (ha : DE X R a ta f) : DE X R (.UnaryOp .USub a pos) (tUn (rU fun i => .int (-i)) ta) (eNeg f) := ⟨pe_un un_neg ha.pe, fun L E ρ σ F H rs x rs' Q r hf k => by
  obtain ⟨x1, rs1, e1, hf1⟩ := bnd_some hf
  obtain ⟨i, rs2, e2, hf2⟩ := bnd_some hf1
  obtain ⟨e3, q3⟩ := lft_some e2
  obtain ⟨e4, q4⟩ := ret_some hf2
  subst e4 q4 q3
  exact ha.sem L E ρ σ F H rs x1 _ _ r e1 fun v1 F1 H1 s1 h1 => ⟨i, h1.int e3, k _ F1 H1 s1 (Dp.int _)⟩⟩
def tIfT (f : Env → M Bool) (g h : Env → M Bool) : Env → M Bool := fun ρ => bnd (f ρ) fun c => if c = true then g ρ else h ρ
def tRetB (b : Bool) : Env → M Bool := fun _ => ret b
section tests
variable {x y : Env → M Bool} {rest : List Expr}
theorem tsem_and (hx : TSem K R tt x) (hy : TSem K R uu y) : TSem K R (tAnd tt uu) (tIfT x y (tRetB false)) := fun L E ρ σ F H rs z rs' Q r hf k => by
  obtain ⟨c, rs1, e1, hf1⟩ := bnd_some hf
  refine hx L E ρ σ F H rs c rs1 _ r e1 fun F1 H1 s1 => ?_
  cases c with
  | true =>
    rw [if_pos rfl] at hf1 ⊢
    exact hy L E ρ σ F1 H1 rs1 z rs' _ (r.step s1) hf1 fun F2 H2 s2 => k F2 H2 (s1.trans r.row s2)
  | false =>
    rw [if_neg Bool.false_ne_true] at hf1 ⊢
    obtain ⟨e2, q2⟩ := ret_some hf1
    subst e2 q2
    exact k F1 H1 s1
theorem tsem_or (hx : TSem K R tt x) (hy : TSem K R uu y) : TSem K R (tOr tt uu) (tIfT x (tRetB true) y) := fun L E ρ σ F H rs z rs' Q r hf k => by
  obtain ⟨c, rs1, e1, hf1⟩ := bnd_some hf
  refine hx L E ρ σ F H rs c rs1 _ r e1 fun F1 H1 s1 => ?_
  cases c with
  | true =>
    rw [if_pos rfl] at hf1 ⊢
    obtain ⟨e2, q2⟩ := ret_some hf1
    subst e2 q2
    exact k F1 H1 s1
  | false =>
    rw [if_neg Bool.false_ne_true] at hf1 ⊢
    exact hy L E ρ σ F1 H1 rs1 z rs' _ (r.step s1) hf1 fun F2 H2 s2 => k F2 H2 (s1.trans r.row s2)
theorem DW.dt (w : DW X R e tt x) : DT X R e tt x := ⟨w.pw.pt, w.sem⟩
theorem dw_and1 (hx : DT X R a tt x) : DW X R (.BoolOp .And [a] pos) tt x := ⟨pw_and1 hx.pt, hx.sem⟩
theorem dw_or1 (hx : DT X R a tt x) : DW X R (.BoolOp .Or [a] pos) tt x := ⟨pw_or1 hx.pt, hx.sem⟩
theorem dw_and (hx : DT X R a tt x) (hy : DW X R (.BoolOp .And (b :: rest) pos) uu y) : DW X R (.BoolOp .And (a :: b :: rest) pos) (tAnd tt uu) (tIfT x y (tRetB false)) := ⟨pw_and hx.pt hy.pw, tsem_and hx.sem hy.sem⟩
theorem dw_or (hx : DT X R a tt x) (hy : DW X R (.BoolOp .Or (b :: rest) pos) uu y) : DW X R (.BoolOp .Or (a :: b :: rest) pos) (tOr tt uu) (tIfT x (tRetB true) y) := ⟨pw_or hx.pt hy.pw, tsem_or hx.sem hy.sem⟩
def tNotF (x : Env → M Bool) : Env → M Bool := fun ρ => bnd (x ρ) fun c => ret (!c)
theorem dt_not (hx : DT X R a tt x) : DT X R (.UnaryOp .Not a pos) (tNot tt) (tNotF x) := ⟨pt_not hx.pt, fun L E ρ σ F H rs z rs' Q r hf k => by
  obtain ⟨c, rs1, e1, hf1⟩ := bnd_some hf
  obtain ⟨e2, q2⟩ := ret_some hf1
  subst e2 q2
  exact hx.sem L E ρ σ F H rs c _ _ r e1 k⟩
/-- as values -/
def eIfB (f : Env → M RV) (g h : Env → M RV) : Env → M RV := fun ρ => bnd (f ρ) fun v => bnd (lft (asBool v)) fun c => if c = true then g ρ else h ρ
theorem de_one {op} (ha : DE X R a ta f) : DE X R (.BoolOp op [a] pos) ta f := ⟨pe_one ha.pe, ha.sem⟩
theorem de_and (ha : DE X R a ta f) (hb : DE X R (.BoolOp .And (b :: rest) pos) tb g) : DE X R (.BoolOp .And (a :: b :: rest) pos) (tAndV ta tb) (eIfB f g (eC (.bool false))) := ⟨pe_and ha.pe hb.pe, fun L E ρ σ F H rs z rs' Q r hf k => by
  obtain ⟨v, rs1, e1, hf1⟩ := bnd_some hf
  obtain ⟨c, rs2, e2, hf2⟩ := bnd_some hf1
  obtain ⟨e3, q3⟩ := lft_some e2
  subst q3
  refine ha.sem L E ρ σ F H rs v _ _ r e1 fun v1 F1 H1 s1 h1 => ⟨c, h1.bool e3, ?_⟩
  cases c with
  | true =>
    rw [if_pos rfl] at hf2 ⊢
    exact hb.sem L E ρ σ F1 H1 _ z rs' _ (r.step s1) hf2 fun v2 F2 H2 s2 h2 => k v2 F2 H2 (s1.trans r.row s2) (h2.older fun a q => s1.back r.row q)
  | false =>
    rw [if_neg Bool.false_ne_true] at hf2 ⊢
    obtain ⟨e4, q4⟩ := ret_some hf2
    subst e4 q4
    exact k _ F1 H1 s1 (.bl false)⟩
theorem de_or (ha : DE X R a ta f) (hb : DE X R (.BoolOp .Or (b :: rest) pos) tb g) : DE X R (.BoolOp .Or (a :: b :: rest) pos) (tOrV ta tb) (eIfB f (eC (.bool true)) g) := ⟨pe_or ha.pe hb.pe, fun L E ρ σ F H rs z rs' Q r hf k => by
  obtain ⟨v, rs1, e1, hf1⟩ := bnd_some hf
  obtain ⟨c, rs2, e2, hf2⟩ := bnd_some hf1
  obtain ⟨e3, q3⟩ := lft_some e2
  subst q3
  refine ha.sem L E ρ σ F H rs v _ _ r e1 fun v1 F1 H1 s1 h1 => ⟨c, h1.bool e3, ?_⟩
  cases c with
  | false =>
    rw [if_neg Bool.false_ne_true] at hf2 ⊢
    exact hb.sem L E ρ σ F1 H1 _ z rs' _ (r.step s1) hf2 fun v2 F2 H2 s2 h2 => k v2 F2 H2 (s1.trans r.row s2) (h2.older fun a q => s1.back r.row q)
  | true =>
    rw [if_pos rfl] at hf2 ⊢
    obtain ⟨e4, q4⟩ := ret_some hf2
    subst e4 q4
    exact k _ F1 H1 s1 (.bl true)⟩
def eNotB (f : Env → M RV) : Env → M RV := fun ρ => bnd (f ρ) fun v => bnd (lft (asBool v)) fun c => ret (.d (.bool (!c)))
theorem de_not (ha : DE X R a ta f) : DE X R (.UnaryOp .Not a pos) (tNotV ta) (eNotB f) := ⟨pe_not ha.pe, fun L E ρ σ F H rs z rs' Q r hf k => by
  obtain ⟨v, rs1, e1, hf1⟩ := bnd_some hf
  obtain ⟨c, rs2, e2, hf2⟩ := bnd_some hf1
  obtain ⟨e3, q3⟩ := lft_some e2
  obtain ⟨e4, q4⟩ := ret_some hf2
  subst e4 q4 q3
  exact ha.sem L E ρ σ F H rs v _ _ r e1 fun v1 F1 H1 s1 h1 => ⟨c, h1.bool e3, k _ F1 H1 s1 (.bl _)⟩⟩
/-- a if t else b; the two ends may be a new list or data -/
def eIf (x : Env → M Bool) (f g : Env → M RV) : Env → M RV := fun ρ => bnd (x ρ) fun c => if c = true then f ρ else g ρ
theorem de_if (hc : DT X R c tt x) (ha : DE X R a ta f) (hb : DE X R b tb g) : DE X R (.IfExp c a b pos) (tIf tt ta tb) (eIf x f g) := ⟨pe_ifExp hc.pt ha.pe hb.pe, fun L E ρ σ F H rs z rs' Q r hf k => by
  obtain ⟨c, rs1, e1, hf1⟩ := bnd_some hf
  refine hc.sem L E ρ σ F H rs c rs1 _ r e1 fun F1 H1 s1 => ?_
  cases c with
  | true =>
    rw [if_pos rfl] at hf1 ⊢
    exact ha.sem L E ρ σ F1 H1 rs1 z rs' _ (r.step s1) hf1 fun v2 F2 H2 s2 h2 => k v2 F2 H2 (s1.trans r.row s2) (h2.older fun a q => s1.back r.row q)
  | false =>
    rw [if_neg Bool.false_ne_true] at hf1 ⊢
    exact hb.sem L E ρ σ F1 H1 rs1 z rs' _ (r.step s1) hf1 fun v2 F2 H2 s2 h2 => k v2 F2 H2 (s1.trans r.row s2) (h2.older fun a q => s1.back r.row q)⟩
end tests

/-! ### argument lists, displays -/
def aNil : Env → M (List RV) := fun _ => ret []
def aCons (f : Env → M RV) (fa : Env → M (List RV)) : Env → M (List RV) := fun ρ => bnd (f ρ) fun x => bnd (fa ρ) fun xs => ret (x :: xs)
theorem VRs.step {F F' H0 H H' : Hp} {rs' : RS} (s : Step K R rs' F H F' H') : ∀ {vs : List V} {xs : List RV}, VRs K R F H0 H vs xs → VRs K R F' H0 H' vs xs
  | _, _, .nil => .nil
  | _, _, .cons h t => .cons (h.step s) (VRs.step s t)
theorem da_nil : DA X R [] tNil aNil := ⟨pa_nil, fun L E ρ σ F H rs x rs' Q r hf k => by
  obtain ⟨e1, q1⟩ := ret_some hf
  subst e1 q1
  exact k [] F H r.refl .nil⟩
theorem da_cons {fa : Env → M (List RV)} (ha : DE X R e te f) (hr : DA X R es t fa) (hs : starEach (e :: es) X.env = (false, eval e X.env) :: starEach es X.env := by rfl) : DA X R (e :: es) (tCons te t) (aCons f fa) := ⟨pa_cons ha.pe hr.pa hs, fun L E ρ σ F H rs x rs' Q r hf k => by
  obtain ⟨x1, rs1, e1, hf1⟩ := bnd_some hf
  obtain ⟨xs, rs2, e2, hf2⟩ := bnd_some hf1
  obtain ⟨e3, q3⟩ := ret_some hf2
  subst e3 q3
  refine ha.sem L E ρ σ F H rs x1 rs1 _ r e1 fun v1 F1 H1 s1 h1 => ?_
  refine hr.sem L E ρ σ F1 H1 rs1 xs _ _ (r.step s1) e2 fun vs F2 H2 s2 h2 => ?_
  exact k _ F2 H2 (s1.trans r.row s2) (.cons (h1.step s2) (h2.older fun a q => s1.back r.row q))⟩
def aStar (f : Env → M RV) (fa : Env → M (List RV)) : Env → M (List RV) := fun ρ => bnd (f ρ) fun x => bnd (lft (items x)) fun ds => bnd (fa ρ) fun xs => ret (ds.map RV.d ++ xs)
theorem VRs.ofData {F H0 H : Hp} : ∀ {vs : List V} {ds : List D}, DpAll K F vs ds → VRs K R F H0 H vs (ds.map RV.d)
  | _, _, .nil => .nil
  | _, _, .cons h t => .cons h (VRs.ofData t)
theorem VRs.append {F H0 H : Hp} : ∀ {vs ws : List V} {xs ys : List RV}, VRs K R F H0 H vs xs → VRs K R F H0 H ws ys → VRs K R F H0 H (vs ++ ws) (xs ++ ys)
  | _, _, _, _, .nil, h => h
  | _, _, _, _, .cons h t, h' => .cons h (VRs.append t h')
theorem da_star {fa : Env → M (List RV)} (ha : DE X R e te f) (hr : DA X R es t fa) : DA X R (.Starred e p :: es) (StX.tStar X.K te t) (aStar f fa) := ⟨StX.pa_star ha.pe hr.pa, fun L E ρ σ F H rs x rs' Q r hf k => by
  obtain ⟨x1, rs1, e1, hf1⟩ := bnd_some hf
  obtain ⟨ds, rs2, e2, hf2⟩ := bnd_some hf1
  obtain ⟨e3, q3⟩ := lft_some e2
  subst q3
  obtain ⟨xs, rs4, e4, hf3⟩ := bnd_some hf2
  obtain ⟨e5, q5⟩ := ret_some hf3
  subst e5 q5
  refine ha.sem L E ρ σ F H rs x1 _ _ r e1 fun v1 F1 H1 s1 h1 => ?_
  obtain ⟨a, vs, rfl, hq, hd⟩ := h1.items (r.step s1).refl e3
  refine ⟨a, vs, rfl, hq.symm, ?_⟩
  refine hr.sem L E ρ σ F1 H1 _ xs _ _ (r.step s1) e4 fun ws F2 H2 s2 h2 => ?_
  exact k _ F2 H2 (s1.trans r.row s2) ((VRs.ofData (Dp.monoA s2.sub _ _ hd)).append (h2.older fun a q => s1.back r.row q))⟩
/-- (a, b, ..) -/
def eTup (fa : Env → M (List RV)) : Env → M RV := fun ρ => bnd (fa ρ) fun xs => bnd (lft (toDs xs)) fun ds => if ds.length ≤ 10000 then ret (.d (.tuple ds)) else fail
def eLst (fa : Env → M (List RV)) : Env → M RV := fun ρ => bnd (fa ρ) fun xs => bnd (lft (toDs xs)) fun ds => if ds.length ≤ 10000 then ret (.n ds) else fail
theorem frozen {F H0 H F1 : Hp} {rs rs' : RS} {L : Nat → Option (Addr × List V)} {E : Hp} {ρ : Env} {σ : L2.St} (r : Rel K R L E F ρ σ rs H0) (s : Step K R rs' F H0 F1 H) {vs : List V} {xs : List RV} {ds : List D} (h : VRs K R F1 H0 H vs xs) (e : toDs xs = some ds) :
    ∃ F2, Step K R rs' F H0 F2 H ∧ DpAll K F2 vs ds := by
  obtain ⟨F2, k1, k2, k3, k4, k5, hA⟩ := VRs.freeze (r.step s).refl h e
  refine ⟨F2, ⟨fun a o h q n => s.keep a o h q n, fun a o q => k1 a o (s.sub a o q), fun a o q => ?_, k3, s.row.mono k1 k5, k4⟩, hA⟩
  rcases k2 a o q with z | z
  · exact s.new a o z
  · exact .inr z
theorem tup_some {fa : Env → M (List RV)} {mk : List D → RV} {ρ : Env} {rs rs' : RS} {x : RV} (hf : (bnd (fa ρ) fun xs => bnd (lft (toDs xs)) fun ds => if ds.length ≤ 10000 then ret (mk ds) else fail) rs = some (x, rs')) :
    ∃ xs ds, fa ρ rs = some (xs, rs') ∧ toDs xs = some ds ∧ ds.length ≤ 10000 ∧ x = mk ds := by
  obtain ⟨xs, rs1, e1, hf1⟩ := bnd_some hf
  obtain ⟨ds, rs2, e2, hf2⟩ := bnd_some hf1
  obtain ⟨e3, q3⟩ := lft_some e2
  subst q3
  by_cases hl : ds.length ≤ 10000
  · rw [if_pos hl] at hf2
    obtain ⟨e4, q4⟩ := ret_some hf2
    subst e4 q4
    exact ⟨xs, ds, e1, e3, hl, rfl⟩
  · rw [if_neg hl] at hf2
    cases hf2
theorem de_tup {fa : Env → M (List RV)} {x1} (h : DA X R es t fa) : DE X R (.Tuple es x1 pos) (tTup t) (eTup fa) := ⟨pe_tup h.pa, fun L E ρ σ F H rs x rs' Q r hf k => by
  obtain ⟨xs, ds, e1, e3, hl, rfl⟩ := tup_some hf
  refine h.sem L E ρ σ F H rs xs rs' _ r e1 fun vs F1 H1 s1 hv => ?_
  obtain ⟨F2, s2, hA⟩ := frozen r s1 hv e3
  refine ⟨by rw [hA.len]; exact sz_of hl, fun pp hp => ?_⟩
  have s4 := Step.new_tup (vs := vs) (r.step s2).refl hp
  exact k _ _ _ (s2.trans r.row s4) (.tup (.inl (.inl upd_same)) (Dp.monoA s4.sub _ _ hA))⟩
theorem de_lst {fa : Env → M (List RV)} (h : DA X R es t fa) : DE X R (.List es pos) (tLst t) (eLst fa) := ⟨pe_lst h.pa, fun L E ρ σ F H rs x rs' Q r hf k => by
  obtain ⟨xs, ds, e1, e3, hl, rfl⟩ := tup_some hf
  refine h.sem L E ρ σ F H rs xs rs' _ r e1 fun vs F1 H1 s1 hv => ?_
  obtain ⟨F2, s2, hA⟩ := frozen r s1 hv e3
  refine ⟨by rw [hA.len]; exact sz_of hl, fun pp hp => ?_⟩
  obtain ⟨s4, hF, hR⟩ := Step.new_lst (vs := vs) (r.step s2).refl hp
  exact k _ _ _ (s2.trans r.row s4) ⟨pp, _, rfl, upd_same, s2.back r.row hp, hF, hR, hA⟩⟩

/-! ### calls by value -/
def CSem (K : PySem.W.Frag) (R : Option Addr) (r : List V → Hp → VK → Prop) (g : List RV → Option RV) : Prop :=
  ∀ (F H0 H : Hp) (rs : RS) (vs : List V) (xs : List RV) (z : RV) (Q : VK), Step K R rs F H F H → VRs K R F H0 H vs xs → g xs = some z →
    (∀ v F' H', Step K R rs F H F' H' → VR K R F' H H' v z → Q v H') → r vs H Q
def eCall (g : List RV → Option RV) (fa : Env → M (List RV)) : Env → M RV := fun ρ => bnd (fa ρ) fun xs => lft (g xs)
theorem esem_call {r : List V → Hp → VK → Prop} {g : List RV → Option RV} {fa : Env → M (List RV)} (hr : CSem K R r g) (ha : ASem K R t fa) : ESem K R (tCB r t) (eCall g fa) := fun L E ρ σ F H rs x rs' Q r0 hf k => by
  obtain ⟨xs, rs1, e1, hf1⟩ := bnd_some hf
  obtain ⟨e2, q2⟩ := lft_some hf1
  subst q2
  refine ha L E ρ σ F H rs xs _ _ r0 e1 fun vs F1 H1 s1 h1 => ?_
  exact hr F1 H H1 _ vs xs x Q (r0.step s1).refl h1 e2 fun v F2 H2 s2 h2 => k v F2 H2 (s1.trans r0.row s2) (h2.older fun a q => s1.back r0.row q)
theorem de_callB {id : String} {x : Str} {r : List V → Hp → VK → Prop} {g : List RV → Option RV} {fa : Env → M (List RV)} (hc : CallR X (.builtin id) r) (hr : CSem X.K R r g) (hg : Gl X x) (hm : X.mg x = none) (hv : bootBuiltins x = some (.builtin id)) (ha : DA X R (e :: es) t fa)
    (hn : x ≠ "__name__" := by decide) (hdb : (x == ("__debug__" : Str)) = false := by decide) (he : starEach (e :: es) X.env = (false, eval e X.env) :: starEach es X.env := by rfl) (hpl : (backTo pos (starEach es X.env)).any (·.1) = false := by rfl) :
    DE X R (.Call (.Name x p) (e :: es) [] pos) (tCB r t) (eCall g fa) := ⟨pe_callB hc hg hm hv ha.pa hn hdb he hpl, esem_call hr ha.sem⟩
theorem de_callTy {T : String} {x : Str} {r : List V → Hp → VK → Prop} {g : List RV → Option RV} {fa : Env → M (List RV)} (hc : CallR X (.type T) r) (hr : CSem X.K R r g) (hg : Gl X x) (hm : X.mg x = none) (hv : bootBuiltins x = some (.type T)) (ha : DA X R (e :: es) t fa)
    (hn : x ≠ "__name__" := by decide) (hdb : (x == ("__debug__" : Str)) = false := by decide) (he : starEach (e :: es) X.env = (false, eval e X.env) :: starEach es X.env := by rfl) (hpl : (backTo pos (starEach es X.env)).any (·.1) = false := by rfl) :
    DE X R (.Call (.Name x p) (e :: es) [] pos) (tCB r t) (eCall g fa) := ⟨pe_callTy hc hg hm hv ha.pa hn hdb he hpl, esem_call hr ha.sem⟩
end
end DV

/-! DV: built-in functions by value -/
namespace DV
open PySem L2
section
variable {X : Cx} {R : Option Addr} {K : PySem.W.Frag} {a b c e : Expr} {es : List Expr} {ta tb tc te : TE} {tt uu : TT} {t u : TA} {f g h : Env → M RV} {p q pos : Pos}
/-- a list's or tuple's items by value: tracked, frozen or written -/
def Sq (K : PySem.W.Frag) (H : Hp) (a : Addr) (vs : List V) : Prop := SqL K H a vs ∨ SqT K H a vs
/-- a function of one argument -/
def c1 (k : RV → Option RV) : List RV → Option RV
  | [x] => k x
  | _ => none
def c2 (k : RV → RV → Option RV) : List RV → Option RV
  | [x, y] => k x y
  | _ => none
theorem c1_some {k : RV → Option RV} {xs : List RV} {z : RV} (h : c1 k xs = some z) : ∃ x, xs = [x] ∧ k x = some z := by
  unfold c1 at h
  split at h
  · exact ⟨_, rfl, h⟩
  · cases h
theorem c2_some {k : RV → RV → Option RV} {xs : List RV} {z : RV} (h : c2 k xs = some z) : ∃ x y, xs = [x, y] ∧ k x y = some z := by
  unfold c2 at h
  split at h
  · exact ⟨_, _, rfl, h⟩
  · cases h
theorem VRs.one {F H0 H : Hp} {vs : List V} {x : RV} (h : VRs K R F H0 H vs [x]) : ∃ v, vs = [v] ∧ VR K R F H0 H v x := by
  cases h with
  | cons h1 h2 => cases h2; exact ⟨_, rfl, h1⟩
theorem VRs.two {F H0 H : Hp} {vs : List V} {x y : RV} (h : VRs K R F H0 H vs [x, y]) : ∃ v w, vs = [v, w] ∧ VR K R F H0 H v x ∧ VR K R F H0 H w y := by
  cases h with
  | cons h1 h2 =>
    cases h2 with
    | cons h2 h3 => cases h3; exact ⟨_, _, rfl, h1, h2⟩

/-! len -/
def gLen : List RV → Option RV := c1 fun x => (items x).map fun ds => .d (.int ds.length)
abbrev rLen (K : PySem.W.Frag) : List V → Hp → VK → Prop := fun xs H Q => ∃ p ys, xs = [.ref p] ∧ (SqL K H p ys ∨ SqT K H p ys) ∧ Q (.int ys.length) H
theorem csem_len : CSem K R (rLen K) gLen := fun F H0 H rs vs xs z Q s hv e kk => by
  obtain ⟨x, rfl, ee⟩ := c1_some e
  clear e
  have e := ee
  clear ee
  obtain ⟨v, rfl, hx⟩ := hv.one
  cases e1 : items x with
  | none => rw [e1] at e; cases e
  | some ds =>
    rw [e1] at e
    cases e
    obtain ⟨a, ws, rfl, h1, h2⟩ := hx.items s e1
    refine ⟨a, ws, rfl, h1, ?_⟩
    rw [h2.len]
    exact kk _ F H s (Dp.int _)
/-! list, tuple -/
def gList : List RV → Option RV := c1 fun x => (items x).map fun ds => .n ds
abbrev rList (K : PySem.W.Frag) : List V → Hp → VK → Prop := fun xs H Q => ∃ p ys, xs = [.ref p] ∧ (SqL K H p ys ∨ SqT K H p ys) ∧ ∀ l, H l = none → Q (.ref l) (upd H l (.lst ys))
theorem csem_list : CSem K R (rList K) gList := fun F H0 H rs vs xs z Q s hv e kk => by
  obtain ⟨x, rfl, ee⟩ := c1_some e
  clear e
  have e := ee
  clear ee
  obtain ⟨v, rfl, hx⟩ := hv.one
  cases e1 : items x with
  | none => rw [e1] at e; cases e
  | some ds =>
    rw [e1] at e
    cases e
    obtain ⟨a, ws, rfl, h1, h2⟩ := hx.items s e1
    refine ⟨a, ws, rfl, h1, fun l hl => ?_⟩
    obtain ⟨s4, hF, hR⟩ := Step.new_lst (vs := ws) s hl
    exact kk _ F _ s4 ⟨l, _, rfl, upd_same, hl, hF, hR, h2⟩
def gTuple : List RV → Option RV := c1 fun x => (items x).map fun ds => .d (.tuple ds)
abbrev rTuple (K : PySem.W.Frag) : List V → Hp → VK → Prop := fun xs H Q => ∃ p ys, xs = [.ref p] ∧ ((SqL K H p ys ∧ ∀ l, H l = none → Q (.ref l) (upd H l (.tup ys))) ∨ (SqT K H p ys ∧ Q (.ref p) H))
theorem csem_tuple : CSem K R (rTuple K) gTuple := fun F H0 H rs vs xs z Q s hv e kk => by
  obtain ⟨x, rfl, ee⟩ := c1_some e
  clear e
  have e := ee
  clear ee
  obtain ⟨v, rfl, hx⟩ := hv.one
  have go : ∀ (a : Addr) (ws : List V) (ds : List D), v = .ref a → SqL K H a ws → DpAll K F ws ds → z = .d (.tuple ds) → rTuple K [v] H Q := fun a ws ds ev h1 h2 ez => by
    subst ev ez
    refine ⟨a, ws, rfl, .inl ⟨h1, fun l hl => ?_⟩⟩
    have s4 := Step.new_tup (vs := ws) s hl
    exact kk _ _ _ s4 (.tup (.inl (.inl upd_same)) (Dp.monoA s4.sub _ _ h2))
  cases x with
  | d y =>
    cases y with
    | tuple ds =>
      cases e
      cases hx with
      | @tup a ws _ h1 h2 => exact ⟨a, ws, rfl, .inr ⟨ex_t (s.fin _) h1, kk _ F H s (.tup h1 h2)⟩⟩
    | list ds =>
      cases e
      cases hx with
      | @lst a ws _ h1 h2 => exact go a ws ds rfl (ex_l (s.fin _) h1) h2 rfl
    | none => cases e
    | bool _ => cases e
    | int _ => cases e
    | str _ => cases e
    | dict _ => cases e
  | b ds =>
    cases e
    obtain ⟨a, ws, ev, h1, h2⟩ := hx.lst (.inl rfl)
    exact go a ws ds ev (.inl (.inl h1)) h2 rfl
  | n ds =>
    cases e
    obtain ⟨a, ws, ev, h1, h2⟩ := hx.lst (.inr rfl)
    exact go a ws ds ev (.inl (.inl h1)) h2 rfl
  | gb _ => cases e
  | gn _ => cases e
  | row => cases e
/-! abs, int -/
def gAbs : List RV → Option RV := c1 fun x => (asInt x).map fun i => .d (.int (if i < 0 then -i else i))
theorem csem_abs : CSem K R (fun xs H Q => ∃ i, xs = [.int i] ∧ Q (.int (if i < 0 then -i else i)) H) gAbs := fun F H0 H rs vs xs z Q s hv e kk => by
  obtain ⟨x, rfl, ee⟩ := c1_some e
  clear e
  have e := ee
  clear ee
  obtain ⟨v, rfl, hx⟩ := hv.one
  cases e1 : asInt x with
  | none => rw [e1] at e; cases e
  | some i =>
    rw [e1] at e
    cases e
    have := hx.int e1
    subst this
    exact ⟨i, rfl, kk _ F H s (Dp.int _)⟩
def gInt : List RV → Option RV := c1 fun x => (asInt x).map fun i => .d (.int i)
theorem csem_int : CSem K R (fun xs H Q => (∃ i, xs = [.int i] ∧ Q (.int i) H) ∨ ∃ k, xs = [.bl k] ∧ Q (.int (if k then 1 else 0)) H) gInt := fun F H0 H rs vs xs z Q s hv e kk => by
  obtain ⟨x, rfl, ee⟩ := c1_some e
  clear e
  have e := ee
  clear ee
  obtain ⟨v, rfl, hx⟩ := hv.one
  cases e1 : asInt x with
  | none => rw [e1] at e; cases e
  | some i =>
    rw [e1] at e
    cases e
    have := hx.int e1
    subst this
    exact .inl ⟨i, rfl, kk _ F H s (Dp.int _)⟩
/-! max, min of two -/
def gMax2 : List RV → Option RV := c2 fun x y => match asInt x, asInt y with
  | some i, some j => some (.d (.int (if j > i then j else i)))
  | _, _ => none
def gMin2 : List RV → Option RV := c2 fun x y => match asInt x, asInt y with
  | some i, some j => some (.d (.int (if j < i then j else i)))
  | _, _ => none
theorem csem_max2 : CSem K R (fun xs H Q => ∃ i j, xs = [.int i, .int j] ∧ Q (.int (if j > i then j else i)) H) gMax2 := fun F H0 H rs vs xs z Q s hv e kk => by
  obtain ⟨x, y, rfl, ee⟩ := c2_some e
  clear e
  have e := ee
  clear ee
  obtain ⟨v, w, rfl, hx, hy⟩ := hv.two
  cases e1 : asInt x with
  | none => simp only [e1] at e; cases e
  | some i =>
    cases e2 : asInt y with
    | none => simp only [e1, e2] at e; cases e
    | some j =>
      simp only [e1, e2] at e
      cases e
      have := hx.int e1
      have := hy.int e2
      subst v w
      exact ⟨i, j, rfl, kk _ F H s (Dp.int _)⟩
theorem csem_min2 : CSem K R (fun xs H Q => ∃ i j, xs = [.int i, .int j] ∧ Q (.int (if j < i then j else i)) H) gMin2 := fun F H0 H rs vs xs z Q s hv e kk => by
  obtain ⟨x, y, rfl, ee⟩ := c2_some e
  clear e
  have e := ee
  clear ee
  obtain ⟨v, w, rfl, hx, hy⟩ := hv.two
  cases e1 : asInt x with
  | none => simp only [e1] at e; cases e
  | some i =>
    cases e2 : asInt y with
    | none => simp only [e1, e2] at e; cases e
    | some j =>
      simp only [e1, e2] at e
      cases e
      have := hx.int e1
      have := hy.int e2
      subst v w
      exact ⟨i, j, rfl, kk _ F H s (Dp.int _)⟩
/-! sum -/
def gSum : List RV → Option RV := c1 fun x => match items x with
  | some ds => (intsOf ds).map fun js => .d (.int js.sum)
  | none => none
def rSumA (K : PySem.W.Frag) : List V → Hp → VK → Prop := fun vs H Q => ∃ (a : Addr) (ns : List Int), vs = [V.ref a] ∧ (SqL K H a (ns.map V.int) ∨ SqT K H a (ns.map V.int)) ∧ Q (.int ns.sum) H
theorem sum_tup {prog : Program} {w : World} {A : Around} {E : Value → Shared → Prop} {s : Shared} {l : Addr} {its : List Value} {ns : List Int} {Q : Value → Shared → Prop} (hh : A.handled = none) (hl : s.heap.IsTuple l its.toArray) (hi : PyProof.Rows.IntsAre its ns)
    (hq : ∀ h' tk t', (∀ b o, s.heap.get? b = some o → h'.get? b = some o) → Q (.int ns.sum t') { s with heap := h', toks := tk }) : wpAny (model prog w) A (call (.builtin "sum") [.ref l]) Q E s := by
  obtain ⟨xs, e⟩ := hi.allInts.items
  have hn : numsOf (intItems xs).toList = ns := by rw [← e]; exact hi.numsOf
  rw [nums_intItems] at hn
  rw [e] at hl
  have hlt : l < s.heap.objs.size := by obtain ⟨_, e, _⟩ := hl; exact Heap.lt_size e
  refine call_sum_walkG (wpAny_pyIter_tuple hl ?_)
  refine ⟨_, _, _, _, _, _, numAt xs, rfl, Walks.tuple (A := A.in1) hh _ l (Nat.ne_of_lt hlt) (intItems xs), ⟨⟨_, Heap.get?_push_size _ rfl, rfl, rfl⟩, ?_⟩, fun b hb => ?_, (fun _ _ => intItems_at), fun h' tk t' hk => ?_⟩
  · obtain ⟨o, q1, q2⟩ := hl
    exact ⟨o, Heap.get?_push_of_some _ q1, q2⟩
  · show b < (s.heap.push _).objs.size
    rw [Heap.size_push]
    rcases List.mem_cons.mp hb with rfl | hb
    · exact Nat.lt_succ_self _
    · rcases List.mem_cons.mp hb with rfl | hb
      · exact Nat.lt_succ_of_lt hlt
      · cases hb
  · have := hq h' tk t' (fun b o eo => hk b o (fun hm => by
      rcases List.mem_cons.mp hm with e1 | hm
      · exact absurd (e1 ▸ Heap.lt_size eo) (Nat.lt_irrefl _)
      · cases hm) (Heap.get?_push_of_some _ eo))
    rw [preSum_eq, List.take_of_length_le (by simp [intItems]), hn]
    exact this
theorem cr_sumA (hc : X.calm = true) : CallR X (.builtin "sum") (rSumA X.K) := by
  intro pins s σ H vs us Q I r h
  obtain ⟨a, ns, rfl, hs, q⟩ := h
  rcases hs with hs | hs
  · exact cr_sum hc pins s σ H _ us Q I r ⟨a, ns, rfl, hs, q⟩
  · obtain ⟨its, rv, hl, _⟩ := I.tuple hs
    rw [Vals.ref1 r]
    exact sum_tup (I.ok.hd hc) hl rv.ints fun h' tk t' hk => ⟨.int _, H, I.kept hk, ⟨_, rfl⟩, q⟩
theorem csem_sum : CSem K R (rSumA K) gSum := fun F H0 H rs vs xs z Q s hv e kk => by
  obtain ⟨x, rfl, ee⟩ := c1_some e
  clear e
  have e := ee
  clear ee
  obtain ⟨v, rfl, hx⟩ := hv.one
  cases e1 : items x with
  | none => rw [e1] at e; cases e
  | some ds =>
    simp only [e1] at e
    cases e2 : intsOf ds with
    | none => rw [e2] at e; cases e
    | some js =>
      rw [e2] at e
      cases e
      obtain ⟨a, ws, rfl, h1, h2⟩ := hx.items s e1
      have hw := h2.intsV e2
      subst hw
      exact ⟨a, js, rfl, h1, kk _ F H s (Dp.int _)⟩
/-! any, all -/
def boolsOf : List D → Option (List Bool)
  | [] => some []
  | .bool i :: r => match boolsOf r with
    | some js => some (i :: js)
    | none => none
  | _ => none
theorem boolsV {F : Hp} : ∀ {vs : List V} {ds : List D} {js : List Bool}, DpAll K F vs ds → boolsOf ds = some js → vs = js.map V.bl
  | _, _, _, .nil, h => by cases h; rfl
  | _, d :: r, js, .cons h1 h2, h => by
    cases d with
    | bool i =>
      unfold boolsOf at h
      cases e : boolsOf r with
      | none => rw [e] at h; cases h
      | some ks =>
        rw [e] at h
        cases h
        cases h1
        rw [boolsV h2 e]
        rfl
    | none => unfold boolsOf at h; cases h
    | int _ => unfold boolsOf at h; cases h
    | str _ => unfold boolsOf at h; cases h
    | list _ => unfold boolsOf at h; cases h
    | tuple _ => unfold boolsOf at h; cases h
    | dict _ => unfold boolsOf at h; cases h
def gBools (k : List Bool → Bool) : List RV → Option RV := c1 fun x => match asLst x with
  | some ds => (boolsOf ds).map fun js => .d (.bool (k js))
  | none => none
abbrev gAll := gBools fun js => js.all id
abbrev gAny := gBools fun js => js.any id
theorem csem_bools (k : List Bool → Bool) : CSem K R (fun vs H Q => ∃ (a : Addr) (bs : List Bool), vs = [V.ref a] ∧ SqL K H a (bs.map V.bl) ∧ Q (.bl (k bs)) H) (gBools k) := fun F H0 H rs vs xs z Q s hv e kk => by
  obtain ⟨x, rfl, ee⟩ := c1_some e
  clear e
  have e := ee
  clear ee
  obtain ⟨v, rfl, hx⟩ := hv.one
  cases e1 : asLst x with
  | none => rw [e1] at e; cases e
  | some ds =>
    simp only [e1] at e
    cases e2 : boolsOf ds with
    | none => rw [e2] at e; cases e
    | some js =>
      rw [e2] at e
      cases e
      obtain ⟨a, ws, rfl, h1, h2⟩ := hx.lst (asLst_some e1)
      have hw := boolsV h2 e2
      subst hw
      exact ⟨a, js, rfl, .inl (.inl h1), kk _ F H s (.bl _)⟩

/-! ### isinstance with a built-in type -/
def tyD : D → String
  | .none => "NoneType"
  | .bool _ => "bool"
  | .int _ => "int"
  | .str _ => "str"
  | .list _ => "list"
  | .tuple _ => "tuple"
  | .dict _ => "dict"
inductive TyT where | int | bool | tuple | list | str
  deriving DecidableEq
def TyT.nm : TyT → String
  | .int => "int" | .bool => "bool" | .tuple => "tuple" | .list => "list" | .str => "str"
def isT : TyT → D → Bool
  | .int, .int _ => true
  | .int, .bool _ => true
  | .bool, .bool _ => true
  | .tuple, .tuple _ => true
  | .list, .list _ => true
  | .str, .str _ => true
  | _, _ => false
theorem kit_isT (T : TyT) (d : D) : kitB (tyD d) T.nm = some (isT T d) := by
  cases T <;> cases d <;> (simp only [tyD, TyT.nm, isT]; decide +kernel)
theorem dptyx {H : Hp} {v : V} {d : D} (h : Dp K H v d) : TyX K H v (.type (tyD d)) := by
  cases h with
  | non => exact .base .non
  | bl b => exact .base (.bl b)
  | int i => exact .base (.int i)
  | str x => exact .base (.str x)
  | lst hs _ =>
    rcases hs with (hs | ⟨o, hs⟩) | ⟨o, its, n, hk, hc, _⟩
    · exact .base (.lst hs)
    · exact .base (.frz hs)
    · exact .kList hk hc
  | tup hs _ =>
    rcases hs with (hs | ⟨o, hs⟩) | ⟨o, its, n, hk, hc, _⟩
    · exact .base (.tup hs)
    · exact .fTuple hs
    · exact .kTuple hk hc
def eIsT (T : TyT) (f : Env → M RV) : Env → M RV := fun ρ => bnd (f ρ) fun x => bnd (lft (viewD x)) fun d => ret (.d (.bool (isT T d)))
theorem de_isT (T : TyT) {x : Str} {p2 : Pos} (hg : Gl X "isinstance") (hm : X.mg "isinstance" = none) (hgT : Gl X x) (hmT : X.mg x = none) (hT : bootBuiltins x = some (.type T.nm)) (he : DE X R e te f)
    (hn : x ≠ "__name__" := by decide) (hdb : (x == ("__debug__" : Str)) = false := by decide)
    (he1 : starEach [e, .Name x p2] X.env = (false, eval e X.env) :: starEach [.Name x p2] X.env := by rfl) (he2 : starEach [.Name x p2] X.env = (false, eval (.Name x p2) X.env) :: starEach [] X.env := by rfl) (hpl : (backTo pos (starEach [.Name x p2] X.env)).any (·.1) = false := by rfl) :
    DE X R (.Call (.Name "isinstance" p) [e, .Name x p2] [] pos) (tCB (rIsi X.K) (tCons te (tCons (tC (.ty T.nm)) tNil))) (eIsT T f) :=
  ⟨pe_callB call_isi hg hm PyProof.Rows.boot_isinstance (pa_cons he.pe (pa_cons (pe_bltn hgT hmT hT rfl hn hdb) pa_nil he2) he1) (by decide) (by decide) he1 hpl, fun L E ρ σ F H rs z rs' Q r hf k => by
    obtain ⟨v, rs1, e1, hf1⟩ := bnd_some hf
    obtain ⟨d, rs2, e2, hf2⟩ := bnd_some hf1
    obtain ⟨e3, q3⟩ := lft_some e2
    obtain ⟨e4, q4⟩ := ret_some hf2
    subst e4 q4 q3
    refine he.sem L E ρ σ F H rs v _ _ r e1 fun v1 F1 H1 s1 h1 => ?_
    exact ⟨v1, .ty T.nm, .type (tyD d), .type T.nm, isT T d, rfl, .ty _, dptyx (h1.view (r.step s1).refl e3), kit_ty (kit_isT T d), k _ F1 H1 s1 (.bl _)⟩⟩
end
end DV

/-! DV: statements -/
namespace DV
open PySem L2

inductive Out where
  | nx (ρ : Env) | rt (r : RV) | bk (ρ : Env) | ct (ρ : Env)
section
variable {X : Cx} {K : PySem.W.Frag} {R : Option Addr} {L : Nat → Option (Addr × List V)} {E F F' H H' : Hp} {ρ ρ' : Env} {σ σ' : L2.St} {rs rs' : RS}

/-- what is never changed grows by things that the entry did not know -/
structure FStep (R : Option Addr) (E F F' : Hp) : Prop where
  sub : ∀ a o, F a = some o → F' a = some o
  new : ∀ a o, F' a = some o → F a = some o ∨ (E a = none ∧ some a ≠ R)
theorem FStep.refl : FStep R E F F := ⟨fun _ _ h => h, fun _ _ h => .inl h⟩
theorem FStep.trans {F1 F2 : Hp} (a : FStep R E F F1) (b : FStep R E F1 F2) : FStep R E F F2 := ⟨fun c o h => b.sub c o (a.sub c o h), fun c o h => by
  rcases b.new c o h with z | z
  · exact a.new c o z
  · exact .inr z⟩
theorem FStep.ofStep (r : Rel K R L E F ρ σ rs H) (s : Step K R rs' F H F' H') : FStep R E F F' := ⟨s.sub, fun a o h => by
  rcases s.new a o h with z | z
  · exact .inl z
  · refine .inr ⟨?_, fun q => ?_⟩
    · cases e : E a with
      | none => rfl
      | some u => rw [r.ex a u e] at z; cases z
    · rw [s.rF a q.symm] at h; cases h⟩
/-- a smaller entry -/
theorem FStep.less {E' : Hp} (s : FStep R E' F F') (h : ∀ a, E' a = none → E a = none) : FStep R E F F' := ⟨s.sub, fun a o q => by
  rcases s.new a o q with z | ⟨z1, z2⟩
  · exact .inl z
  · exact .inr ⟨h a z1, z2⟩⟩
/-- what is handed back -/
def VRet (K : PySem.W.Frag) (R : Option Addr) (E F H : Hp) (v : V) : RV → Prop
  | .d x => Dp K F v x
  | .n ds => ∃ a vs, v = .ref a ∧ H a = some (.lst vs) ∧ E a = none ∧ F a = none ∧ some a ≠ R ∧ DpAll K F vs ds
  | .gn c => ∃ a u, v = .ref a ∧ H a = some u ∧ E a = none ∧ F a = none ∧ some a ≠ R ∧ DictR K F a u c
  | _ => False
structure Ret (K : PySem.W.Frag) (R : Option Addr) (rs' : RS) (E F F' H' : Hp) (v : V) (x : RV) : Prop where
  fs : FStep R E F F'
  ex : ∀ a o, E a = some o → H' a = some o
  fr : ∀ a o, F' a = some o → H' a = some o
  row : RowOk K R rs' F' H'
  rF : ∀ r, R = some r → F' r = none
  val : VRet K R E F' H' v x
def Post (K : PySem.W.Frag) (R : Option Addr) (L : Nat → Option (Addr × List V)) (E F : Hp) (D : Ends) (rs' : RS) : Out → Prop
  | .nx ρ' => ∀ σ' F' H', FStep R E F F' → Rel K R L E F' ρ' σ' rs' H' → D.nx σ' H'
  | .bk ρ' => ∀ σ' F' H', FStep R E F F' → Rel K R L E F' ρ' σ' rs' H' → D.bk σ' H'
  | .ct ρ' => ∀ σ' F' H', FStep R E F F' → Rel K R L E F' ρ' σ' rs' H' → D.ct σ' H'
  | .rt x => ∀ v F' H', Ret K R rs' E F F' H' v x → D.rt v H'
def SSem (K : PySem.W.Frag) (R : Option Addr) (t : TS) (g : Env → M Out) : Prop :=
  ∀ (L : Nat → Option (Addr × List V)) (E F : Hp) (ρ : Env) (σ : L2.St) (rs : RS) (H : Hp) (o : Out) (rs' : RS) (D : Ends), Rel K R L E F ρ σ rs H → g ρ rs = some (o, rs') → Post K R L E F D rs' o → t D σ H
structure DS (X : Cx) (R : Option Addr) (st : Stmt) (t : TS) (g : Env → M Out) : Prop where
  ps : PS X st t
  sem : SSem X.K R t g
structure DSs (X : Cx) (R : Option Addr) (st : List Stmt) (t : TS) (g : Env → M Out) : Prop where
  ps : PSs X st t
  sem : SSem X.K R t g
/-- behind a first part -/
theorem Post.after {F1 : Hp} {D : Ends} {o : Out} (h : Post K R L E F D rs' o) (s : FStep R E F F1) : Post K R L E F1 D rs' o := by
  cases o with
  | nx ρ' => exact fun σ' F' H' f r => h σ' F' H' (s.trans f) r
  | bk ρ' => exact fun σ' F' H' f r => h σ' F' H' (s.trans f) r
  | ct ρ' => exact fun σ' F' H' f r => h σ' F' H' (s.trans f) r
  | rt x => exact fun v F' H' q => h v F' H' ⟨s.trans q.fs, q.ex, q.fr, q.row, q.rF, q.val⟩

/-! ### names are stored -/
theorem Rel.put (r : Rel K R L E F ρ σ rs H) (i : Nat) (sv : SV) (v : V) (h : SR K R L E F H i v sv) (ho : ∀ a, sv.ow → v = .ref a → ∀ j y, j ≠ i → ρ[j]? = some (some y) → y.ow → σ[j]? = some (some (V.ref a)) → False) :
    Rel K R L E F (ρ.set i (some sv)) (σ.set i (some v)) rs H where
  len := by rw [List.length_set, List.length_set]; exact r.len
  ex := r.ex
  ent := r.ent
  fr := r.fr
  row := r.row
  rE := r.rE
  lk := r.lk
  sl := fun j sw e => by
    by_cases hj : j = i
    · subst hj
      have hl : j < ρ.length := by
        have := (List.getElem?_eq_some_iff.mp e).1
        rw [List.length_set] at this
        exact this
      rw [List.getElem?_set_self hl] at e
      cases e
      exact ⟨v, List.getElem?_set_self (by rw [← r.len]; exact hl), h⟩
    · rw [List.getElem?_set_ne (Ne.symm hj)] at e
      obtain ⟨w, e1, q⟩ := r.sl j sw e
      exact ⟨w, by rw [List.getElem?_set_ne (Ne.symm hj)]; exact e1, q⟩
  own := fun j k a x y e1 e2 ox oy e3 e4 => by
    by_cases hj : j = i
    · by_cases hk : k = i
      · rw [hj, hk]
      · exfalso
        subst hj
        have hl : j < ρ.length := by
          have := (List.getElem?_eq_some_iff.mp e1).1
          rw [List.length_set] at this
          exact this
        rw [List.getElem?_set_self hl] at e1
        rw [List.getElem?_set_self (by rw [← r.len]; exact hl)] at e3
        rw [List.getElem?_set_ne (Ne.symm hk)] at e2 e4
        exact ho a (by cases e1; exact ox) (Option.some.inj (Option.some.inj e3)) k y hk e2 oy e4
    · by_cases hk : k = i
      · exfalso
        subst hk
        have hl : k < ρ.length := by
          have := (List.getElem?_eq_some_iff.mp e2).1
          rw [List.length_set] at this
          exact this
        rw [List.getElem?_set_self hl] at e2
        rw [List.getElem?_set_self (by rw [← r.len]; exact hl)] at e4
        rw [List.getElem?_set_ne (Ne.symm hj)] at e1 e3
        exact ho a (by cases e2; exact oy) (Option.some.inj (Option.some.inj e4)) j x hj e1 ox e3
      · rw [List.getElem?_set_ne (Ne.symm hj)] at e1 e3
        rw [List.getElem?_set_ne (Ne.symm hk)] at e2 e4
        exact r.own j k a x y e1 e2 ox oy e3 e4
/-- data, or a new list, into a name -/
def toS : RV → Option SV
  | .d x => some (.d x)
  | .n ds => some (.o ds)
  | .gn c => some (.g c)
  | _ => none
/-- what is of one's own stands in the heap -/
theorem Rel.own_at (r : Rel K R L E F ρ σ rs H) {j : Nat} {y : SV} {a : Addr} (e : ρ[j]? = some (some y)) (oy : y.ow) (ea : σ[j]? = some (some (V.ref a))) : ∃ u, H a = some u ∧ E a = none ∧ F a = none ∧ some a ≠ R := by
  obtain ⟨w, e1, q⟩ := r.sl j _ e
  rw [ea] at e1
  cases e1
  cases y with
  | d x => cases oy
  | k x => cases oy
  | un => cases oy
  | ex _ _ => cases oy
  | fn _ => cases oy
  | row => cases oy
  | o ds =>
    obtain ⟨b, vs, q1, q2, q3, q4, q5, _⟩ := q
    cases q1
    exact ⟨_, q2, q3, q4, q5⟩
  | g c =>
    obtain ⟨b, vs, q1, q2, q3, q4, q5, _⟩ := q
    cases q1
    exact ⟨_, q2, q3, q4, q5⟩
theorem Rel.store {H0 : Hp} (r0 : Rel K R L E F ρ σ rs H0) {F1 H1 : Hp} (s : Step K R rs' F H0 F1 H1) {v : V} {x : RV} {sv : SV} (hv : VR K R F1 H0 H1 v x) (e : toS x = some sv) (i : Nat) : Rel K R L E F1 (ρ.set i (some sv)) (σ.set i (some v)) rs' H1 := by
  cases x with
  | d y =>
    cases e
    exact (r0.step s).put i _ v hv (fun a q => nomatch q)
  | n ds =>
    cases e
    obtain ⟨a, vs, rfl, h1, h0, h2, h3, h4⟩ := hv
    have hE : E a = none := by
      cases q : E a with
      | none => rfl
      | some u => rw [r0.ex a u q] at h0; cases h0
    refine (r0.step s).put i _ _ ⟨a, vs, rfl, h1, hE, h2, h3, h4⟩ fun b q1 q2 j y hj e1 oy e2 => ?_
    cases q2
    obtain ⟨u, q, _⟩ := r0.own_at e1 oy e2
    rw [h0] at q
    cases q
  | gb _ => cases e
  | gn c =>
    cases e
    obtain ⟨a, u, rfl, h1, h0, h2, h3, h4⟩ := hv
    have hE : E a = none := by
      cases q : E a with
      | none => rfl
      | some u => rw [r0.ex a u q] at h0; cases h0
    refine (r0.step s).put i _ _ ⟨a, u, rfl, h1, hE, h2, h3, h4⟩ fun b q1 q2 j y hj e1 oy e2 => ?_
    cases q2
    obtain ⟨u, q, _⟩ := r0.own_at e1 oy e2
    rw [h0] at q
    cases q
  | b ds => cases e
  | row => cases e
theorem Rel.forget (r : Rel K R L E F ρ σ rs H) (i : Nat) : Rel K R L E F (ρ.set i none) σ rs H where
  len := by rw [List.length_set]; exact r.len
  ex := r.ex
  ent := r.ent
  fr := r.fr
  row := r.row
  rE := r.rE
  lk := r.lk
  sl := fun j sw e => by
    by_cases hj : j = i
    · subst hj
      have hl : j < ρ.length := by
        have := (List.getElem?_eq_some_iff.mp e).1
        rw [List.length_set] at this
        exact this
      rw [List.getElem?_set_self hl] at e
      cases e
    · rw [List.getElem?_set_ne (Ne.symm hj)] at e
      exact r.sl j sw e
  own := fun j k a x y e1 e2 ox oy e3 e4 => by
    have hj : j ≠ i := by
      rintro rfl
      have hl : j < ρ.length := by
        have := (List.getElem?_eq_some_iff.mp e1).1
        rw [List.length_set] at this
        exact this
      rw [List.getElem?_set_self hl] at e1
      cases e1
    have hk : k ≠ i := by
      rintro rfl
      have hl : k < ρ.length := by
        have := (List.getElem?_eq_some_iff.mp e2).1
        rw [List.length_set] at this
        exact this
      rw [List.getElem?_set_self hl] at e2
      cases e2
    rw [List.getElem?_set_ne (Ne.symm hj)] at e1
    rw [List.getElem?_set_ne (Ne.symm hk)] at e2
    exact r.own j k a x y e1 e2 ox oy e3 e4
/-- a list of one's own is changed -/
theorem Rel.change (r : Rel K R L E F ρ σ rs H) {i : Nat} {ds es : List D} {a : Addr} {ws : List V} (e : ρ[i]? = some (some (SV.o ds))) (ea : σ[i]? = some (some (V.ref a))) (hd : DpAll K F ws es) :
    Rel K R L E F (ρ.set i (some (.o es))) σ rs (upd H a (.lst ws)) := by
  obtain ⟨v, e1, b, vs, q1, q2, q3, q4, q5, q6⟩ := r.sl i _ e
  rw [ea] at e1
  cases e1
  cases q1
  have hl : i < ρ.length := (List.getElem?_eq_some_iff.mp e).1
  refine ⟨by rw [List.length_set]; exact r.len, fun b o z => ?_, r.ent, fun b o z => ?_, ⟨fun q eq => ?_, tabs_upd r.row.tab (.inr ⟨_, q2⟩), r.row.fnt⟩, r.rE, r.lk, fun j sw ej => ?_, fun j k c x y e1 e2 ox oy e3 e4 => ?_⟩
  · rw [upd_ne (fun zz => by rw [zz, q3] at z; cases z)]
    exact r.ex b o z
  · rw [upd_ne (fun zz => by rw [zz, q4] at z; cases z)]
    exact r.fr b o z
  · obtain ⟨c, k1, k2, k3⟩ := r.row.at_ q eq
    exact ⟨c, by rw [upd_ne (fun zz => q5 (by rw [← zz, eq]))]; exact k1, k2, k3⟩
  · by_cases hj : j = i
    · subst hj
      rw [List.getElem?_set_self hl] at ej
      cases ej
      exact ⟨_, ea, a, ws, rfl, upd_same, q3, q4, q5, hd⟩
    · rw [List.getElem?_set_ne (Ne.symm hj)] at ej
      obtain ⟨w, k1, k2⟩ := r.sl j sw ej
      refine ⟨w, k1, ?_⟩
      cases sw with
      | d x => exact k2
      | k x => exact k2
      | un => exact trivial
      | ex _ _ => exact k2
      | fn _ => exact k2
      | row => exact k2
      | o x =>
        obtain ⟨c, us, rfl, z1, z2, z3, z4, z5⟩ := k2
        have hca : c ≠ a := by
          rintro rfl
          exact hj (r.own j i c _ _ ej e trivial trivial k1 ea)
        exact ⟨c, us, rfl, by rw [upd_ne hca]; exact z1, z2, z3, z4, z5⟩
      | g x =>
        obtain ⟨c, us, rfl, z1, z2, z3, z4, z5⟩ := k2
        have hca : c ≠ a := by
          rintro rfl
          exact hj (r.own j i c _ _ ej e trivial trivial k1 ea)
        exact ⟨c, us, rfl, by rw [upd_ne hca]; exact z1, z2, z3, z4, z5⟩
  · by_cases hj : j = i
    · by_cases hk : k = i
      · rw [hj, hk]
      · subst hj
        rw [List.getElem?_set_ne (Ne.symm hk)] at e2
        exact r.own j k c _ y e e2 trivial oy e3 e4
    · rw [List.getElem?_set_ne (Ne.symm hj)] at e1
      by_cases hk : k = i
      · subst hk
        exact r.own j k c x _ e1 e ox trivial e3 e4
      · rw [List.getElem?_set_ne (Ne.symm hk)] at e2
        exact r.own j k c x y e1 e2 ox oy e3 e4
theorem FStep.keepE : FStep R E F F := FStep.refl

/-! ### blocks -/
variable {st : Stmt} {rest sa sb : List Stmt} {t u : TS} {e c : Expr} {te : TE} {tt : TT} {pos : Pos} {f : Env → M RV} {x : Env → M Bool} {g h : Env → M Out}
def sNil : Env → M Out := fun ρ => ret (.nx ρ)
def sSeq (g h : Env → M Out) : Env → M Out := fun ρ => bnd (g ρ) fun o => match o with
  | .nx ρ' => h ρ'
  | o => ret o
theorem ssem_nil : SSem K R tNext sNil := fun L E F ρ σ rs H o rs' D r hf k => by
  obtain ⟨e1, q1⟩ := ret_some hf
  subst e1 q1
  exact k σ F H FStep.refl r
theorem ssem_seq (h1 : SSem K R t g) (h2 : SSem K R u h) : SSem K R (tSeq t u) (sSeq g h) := fun L E F ρ σ rs H o rs' D r hf k => by
  obtain ⟨o1, rs1, e1, hf1⟩ := bnd_some hf
  refine h1 L E F ρ σ rs H o1 rs1 { D with nx := u D } r e1 ?_
  cases o1 with
  | nx ρ1 =>
    exact fun σ1 F1 H1 s1 r1 => h2 L E F1 ρ1 σ1 rs1 H1 o rs' D r1 hf1 (k.after s1)
  | rt x =>
    obtain ⟨e2, q2⟩ := ret_some hf1
    subst e2 q2
    exact k
  | bk ρ1 =>
    obtain ⟨e2, q2⟩ := ret_some hf1
    subst e2 q2
    exact k
  | ct ρ1 =>
    obtain ⟨e2, q2⟩ := ret_some hf1
    subst e2 q2
    exact k
theorem dss_nil : DSs X R [] tNext sNil := ⟨pss_nil, ssem_nil⟩
theorem dss_one (h1 : DS X R st t g) : DSs X R [st] t g := ⟨pss_one h1.ps, h1.sem⟩
theorem dss_cons (h1 : DS X R st t g) (h2 : DSs X R rest u h) : DSs X R (st :: rest) (tSeq t u) (sSeq g h) := ⟨pss_cons h1.ps h2.ps, ssem_seq h1.sem h2.sem⟩
theorem ds_pass : DS X R (.Pass pos) tNext sNil := ⟨ps_pass, ssem_nil⟩
theorem ds_doc {x j pos pos'} : DS X R (.Expr (.Constant (.str x) j pos) pos') tNext sNil := ⟨ps_doc, ssem_nil⟩
def sBreak : Env → M Out := fun ρ => ret (.bk ρ)
def sCont : Env → M Out := fun ρ => ret (.ct ρ)
theorem ds_break : DS X R (.Break pos) tBreak sBreak := ⟨ps_break, fun L E F ρ σ rs H o rs' D r hf k => by
  obtain ⟨e1, q1⟩ := ret_some hf
  subst e1 q1
  exact k σ F H FStep.refl r⟩
theorem ds_cont : DS X R (.Continue pos) tCont sCont := ⟨ps_continue, fun L E F ρ σ rs H o rs' D r hf k => by
  obtain ⟨e1, q1⟩ := ret_some hf
  subst e1 q1
  exact k σ F H FStep.refl r⟩
def sNever : Env → M Out := fun _ => fail
theorem ds_never : DS X R st tNever sNever := ⟨ps_never, fun L E F ρ σ rs H o rs' D r hf k => nomatch hf⟩
theorem dss_never {sts : List Stmt} : DSs X R sts tNever sNever := ⟨pss_never, fun L E F ρ σ rs H o rs' D r hf k => nomatch hf⟩
def sIf (x : Env → M Bool) (g h : Env → M Out) : Env → M Out := fun ρ => bnd (x ρ) fun b => if b = true then g ρ else h ρ
theorem ds_if (hc : DT X R c tt x) (ha : DSs X R sa t g) (hb : DSs X R sb u h) : DS X R (.If c sa sb pos) (tIfS tt t u) (sIf x g h) := ⟨ps_if hc.pt ha.ps hb.ps, fun L E F ρ σ rs H o rs' D r hf k => by
  obtain ⟨b, rs1, e1, hf1⟩ := bnd_some hf
  refine hc.sem L E ρ σ F H rs b rs1 _ r e1 fun F1 H1 s1 => ?_
  cases b with
  | true =>
    rw [if_pos rfl] at hf1 ⊢
    exact ha.sem L E F1 ρ σ rs1 H1 o rs' D (r.step s1) hf1 (k.after (FStep.ofStep r s1))
  | false =>
    rw [if_neg Bool.false_ne_true] at hf1 ⊢
    exact hb.sem L E F1 ρ σ rs1 H1 o rs' D (r.step s1) hf1 (k.after (FStep.ofStep r s1))⟩

/-! ### returns -/
def toRet : RV → Option RV
  | .d x => some (.d x)
  | .n ds => some (.n ds)
  | .gn c => some (.gn c)
  | _ => none
def sRet (f : Env → M RV) : Env → M Out := fun ρ => bnd (f ρ) fun x => bnd (lft (toRet x)) fun y => ret (.rt y)
theorem Ret.of {F1 H1 : Hp} (r : Rel K R L E F ρ σ rs H) (s : Step K R rs' F H F1 H1) {v : V} {x y : RV} (hv : VR K R F1 H H1 v x) (e : toRet x = some y) : Ret K R rs' E F F1 H1 v y := by
  have r1 := r.step s
  refine ⟨FStep.ofStep r s, r1.ex, r1.fr, r1.row, s.rF, ?_⟩
  cases x with
  | d y => cases e; exact hv
  | n ds =>
    cases e
    obtain ⟨a, vs, rfl, h1, h0, h2, h3, h4⟩ := hv
    refine ⟨a, vs, rfl, h1, ?_, h2, h3, h4⟩
    cases q : E a with
    | none => rfl
    | some u => rw [r.ex a u q] at h0; cases h0
  | gb _ => cases e
  | gn c =>
    cases e
    obtain ⟨a, vs, rfl, h1, h0, h2, h3, h4⟩ := hv
    refine ⟨a, vs, rfl, h1, ?_, h2, h3, h4⟩
    cases q : E a with
    | none => rfl
    | some u => rw [r.ex a u q] at h0; cases h0
  | b ds => cases e
  | row => cases e
theorem ds_ret (he : DE X R e te f) : DS X R (.Return (some e) pos) (tRet te) (sRet f) := ⟨ps_ret he.pe, fun L E F ρ σ rs H o rs' D r hf k => by
  obtain ⟨x, rs1, e1, hf1⟩ := bnd_some hf
  obtain ⟨y, rs2, e2, hf2⟩ := bnd_some hf1
  obtain ⟨e3, q3⟩ := lft_some e2
  obtain ⟨e4, q4⟩ := ret_some hf2
  subst e4 q4 q3
  exact he.sem L E ρ σ F H rs x _ _ r e1 fun v F1 H1 s1 h1 => k v F1 H1 (Ret.of r s1 h1 e3)⟩
/-- return of a name: a list of one's own is handed over -/
def vown (ρ : Env) (i : Nat) : Option RV := match ρ[i]? with
  | some (some (.d x)) => some (.d x)
  | some (some (.o ds)) => some (.n ds)
  | some (some (.g c)) => some (.gn c)
  | _ => none
def sRetV (i : Nat) : Env → M Out := fun ρ => bnd (lft (vown ρ i)) fun y => ret (.rt y)
theorem ds_retV (i : Nat) {x : Str} {p : Pos} (hN : X.N[i]? = some x := by rfl) (hv : Vis X.env.scope x := by first | exact Or.inl rfl | exact Or.inr (Or.inl rfl) | exact Or.inr (Or.inr rfl)) (hd : (x == ("__debug__" : Str)) = false := by decide)
    (hcd : (x == ("__classdict__" : Str)) = false := by decide) : DS X R (.Return (some (.Name x p)) pos) (tRet (tVar i)) (sRetV i) := ⟨ps_ret (pe_var hN hv hd hcd), fun L E F ρ σ rs H o rs' D r hf k => by
  obtain ⟨y, rs2, e2, hf2⟩ := bnd_some hf
  obtain ⟨e3, q3⟩ := lft_some e2
  obtain ⟨e4, q4⟩ := ret_some hf2
  subst e4 q4 q3
  unfold vown at e3
  cases e : ρ[i]? with
  | none => rw [e] at e3; cases e3
  | some sv =>
    cases sv with
    | none => rw [e] at e3; cases e3
    | some sv =>
      rw [e] at e3
      obtain ⟨v, ev, q⟩ := r.sl i sv e
      refine ⟨v, ev, k v F H ⟨FStep.refl, r.ex, r.fr, r.row, fun q e => (r.rE q e).2, ?_⟩⟩
      cases sv with
      | d x => cases e3; exact q
      | o ds =>
        cases e3
        obtain ⟨a, vs, e1, h1, h2, h3, h4, h5⟩ := q
        exact ⟨a, vs, e1, h1, h2, h3, h4, h5⟩
      | g c =>
        cases e3
        obtain ⟨a, vs, e1, h1, h2, h3, h4, h5⟩ := q
        exact ⟨a, vs, e1, h1, h2, h3, h4, h5⟩
      | k ds => cases e3
      | un => cases e3
      | ex _ _ => cases e3
      | fn _ => cases e3
      | row => cases e3⟩
def sRetN : Env → M Out := fun _ => ret (.rt (.d .none))
theorem ds_retN : DS X R (.Return none pos) tRetN sRetN := ⟨ps_retN, fun L E F ρ σ rs H o rs' D r hf k => by
  obtain ⟨e1, q1⟩ := ret_some hf
  subst e1 q1
  exact k _ F H ⟨FStep.refl, r.ex, r.fr, r.row, fun q e => (r.rE q e).2, .non⟩⟩

/-! ### assignments -/
def sDrop (f : Env → M RV) : Env → M Out := fun ρ => bnd (f ρ) fun _ => ret (.nx ρ)
theorem ds_expr (he : DE X R e te f) (hs : swapsWith e none pos.line X.env = pure false := by rfl) : DS X R (.Expr e pos) (tDrop te) (sDrop f) := ⟨ps_expr he.pe hs, fun L E F ρ σ rs H o rs' D r hf k => by
  obtain ⟨x, rs1, e1, hf1⟩ := bnd_some hf
  obtain ⟨e4, q4⟩ := ret_some hf1
  subst e4 q4
  exact he.sem L E ρ σ F H rs x _ _ r e1 fun v F1 H1 s1 h1 => k σ F1 H1 (FStep.ofStep r s1) (r.step s1)⟩
def sSet (i : Nat) (f : Env → M RV) : Env → M Out := fun ρ => bnd (f ρ) fun x => bnd (lft (toS x)) fun sv => ret (.nx (ρ.set i (some sv)))
theorem ds_set {i : Nat} {x : Str} {pos' : Pos} (hN : X.N.Nodup) (hi : X.N[i]? = some x) (hx : Loc X.env.scope x) (he : DE X R e te f) (hs : swapsWith e (some (.Name x pos')) pos.line X.env = pure false := by rfl)
    (hf : X.fn x = true ∨ X.env.scope.names.lookup x = some .local := by first | exact .inl rfl | exact .inr rfl | assumption) : DS X R (.Assign [.Name x pos'] e pos) (tAsg te (gName i)) (sSet i f) := ⟨ps_set hN hi hx he.pe hs hf, fun L E F ρ σ rs H o rs' D r hf k => by
  obtain ⟨x, rs1, e1, hf1⟩ := bnd_some hf
  obtain ⟨sv, rs2, e2, hf2⟩ := bnd_some hf1
  obtain ⟨e3, q3⟩ := lft_some e2
  obtain ⟨e4, q4⟩ := ret_some hf2
  subst e4 q4 q3
  exact he.sem L E ρ σ F H rs x _ _ r e1 fun v F1 H1 s1 h1 => k _ F1 H1 (FStep.ofStep r s1) (Rel.store r s1 h1 e3 i)⟩
/-- y = x, both names: a list of one's own moves -/
def sMove (i j : Nat) : Env → M Out := fun ρ => match ρ[j]? with
  | some (some (.d x)) => ret (.nx (ρ.set i (some (.d x))))
  | some (some (.o ds)) => ret (.nx ((ρ.set j none).set i (some (.o ds))))
  | some (some (.g c)) => ret (.nx ((ρ.set j none).set i (some (.g c))))
  | _ => fail
theorem ds_move {i j : Nat} {x y : Str} {pos' p2 : Pos} (hN : X.N.Nodup) (hi : X.N[i]? = some x) (hx : Loc X.env.scope x) (hj : X.N[j]? = some y) (hv : Vis X.env.scope y := by first | exact Or.inl rfl | exact Or.inr (Or.inl rfl) | exact Or.inr (Or.inr rfl)) (hd : (y == ("__debug__" : Str)) = false := by decide)
    (hcd : (y == ("__classdict__" : Str)) = false := by decide) (hs : swapsWith (.Name y p2) (some (.Name x pos')) pos.line X.env = pure false := by rfl)
    (hf : X.fn x = true ∨ X.env.scope.names.lookup x = some .local := by first | exact .inl rfl | exact .inr rfl | assumption) : DS X R (.Assign [.Name x pos'] (.Name y p2) pos) (tAsg (tVar j) (gName i)) (sMove i j) := ⟨ps_set hN hi hx (pe_var hj hv hd hcd) hs hf, fun L E F ρ σ rs H o rs' D r hf k => by
  unfold sMove at hf
  cases e : ρ[j]? with
  | none => rw [e] at hf; cases hf
  | some sv =>
    cases sv with
    | none => rw [e] at hf; cases hf
    | some sv =>
      rw [e] at hf
      obtain ⟨v, ev, q⟩ := r.sl j sv e
      refine ⟨v, ev, ?_⟩
      cases sv with
      | d x =>
        obtain ⟨e4, q4⟩ := ret_some hf
        subst e4 q4
        exact k _ F H FStep.refl (r.put i _ v q (fun a q => nomatch q))
      | o ds =>
        obtain ⟨e4, q4⟩ := ret_some hf
        subst e4 q4
        obtain ⟨a, vs, rfl, h1, h2, h3, h4, h5⟩ := q
        refine k _ F H FStep.refl ((r.forget j).put i _ _ ⟨a, vs, rfl, h1, h2, h3, h4, h5⟩ fun b q1 q2 m y hm e1 oy e2 => ?_)
        cases q2
        have hmj : m ≠ j := by
          rintro rfl
          have hl : m < ρ.length := by
            have := (List.getElem?_eq_some_iff.mp e1).1
            rw [List.length_set] at this
            exact this
          rw [List.getElem?_set_self hl] at e1
          cases e1
        rw [List.getElem?_set_ne (Ne.symm hmj)] at e1
        exact hmj (r.own m j a _ _ e1 e oy trivial e2 ev)
      | g c =>
        obtain ⟨e4, q4⟩ := ret_some hf
        subst e4 q4
        obtain ⟨a, vs, rfl, h1, h2, h3, h4, h5⟩ := q
        refine k _ F H FStep.refl ((r.forget j).put i _ _ ⟨a, vs, rfl, h1, h2, h3, h4, h5⟩ fun b q1 q2 m y hm e1 oy e2 => ?_)
        cases q2
        have hmj : m ≠ j := by
          rintro rfl
          have hl : m < ρ.length := by
            have := (List.getElem?_eq_some_iff.mp e1).1
            rw [List.length_set] at this
            exact this
          rw [List.getElem?_set_self hl] at e1
          cases e1
        rw [List.getElem?_set_ne (Ne.symm hmj)] at e1
        exact hmj (r.own m j a _ _ e1 e oy trivial e2 ev)
      | k ds => cases hf
      | un => cases hf
      | ex _ _ => cases hf
      | fn _ => cases hf
      | row => cases hf⟩
/-- x += e, ints -/
def sAug (i : Nat) (k : Int → Int → Int) (f : Env → M RV) : Env → M Out := fun ρ => bnd (lft (vget ρ i)) fun y => bnd (lft (asInt y)) fun a => bnd (f ρ) fun x => bnd (lft (asInt x)) fun b => ret (.nx (ρ.set i (some (.d (.int (k a b))))))
theorem ds_aug {i : Nat} {x : Str} {op : Operator} {kf : Int → Int → Int} {pos' : Pos} (ho : PIp X op (ipI kf)) (hN : X.N.Nodup) (hi : X.N[i]? = some x) (hx : Loc X.env.scope x) (he : DE X R e te f)
    (hf : X.fn x = true ∨ X.env.scope.names.lookup x = some .local := by first | exact .inl rfl | exact .inr rfl | assumption) : DS X R (.AugAssign (.Name x pos') op e pos) (tAug i te (ipI kf)) (sAug i kf f) := ⟨ps_aug hN hi hx he.pe ho hf, fun L E F ρ σ rs H o rs' D r hf k => by
  obtain ⟨y, rs5, e5, hf5⟩ := bnd_some hf
  obtain ⟨e5', q5⟩ := lft_some e5
  obtain ⟨a, rs6, e6, hf6⟩ := bnd_some hf5
  obtain ⟨e6', q6⟩ := lft_some e6
  obtain ⟨x, rs1, e1, hf1⟩ := bnd_some hf6
  obtain ⟨b, rs2, e2, hf2⟩ := bnd_some hf1
  obtain ⟨e3, q3⟩ := lft_some e2
  obtain ⟨e4, q4⟩ := ret_some hf2
  subst e4 q4 q3 q6 q5
  obtain ⟨v, ev, q⟩ := r.get e5'
  have hv := q.int e6'
  subst hv
  refine ⟨_, ev, he.sem L E ρ σ F H _ x _ _ r e1 fun v F1 H1 s1 h1 => ?_⟩
  have := h1.int e3
  subst this
  exact ⟨a, b, rfl, rfl, k _ F1 H1 (FStep.ofStep r s1) ((r.step s1).put i _ _ (Dp.int _) (fun a q => nomatch q))⟩⟩
end
end DV

/-! DV: targets, what is walked, for, while, comprehensions -/
namespace DV
open PySem L2
section
variable {X : Cx} {K : PySem.W.Frag} {R : Option Addr} {L : Nat → Option (Addr × List V)} {E F F' H H' : Hp} {ρ ρ' : Env} {σ σ' : L2.St} {rs rs' : RS}

/-! ### targets -/
/-- other slots than S stand as they stood -/
structure OffEq (S : List Nat) (σ σ' : L2.St) : Prop where
  len : σ'.length = σ.length
  at_ : ∀ j, j ∉ S → σ'[j]? = σ[j]?
theorem OffEq.refl {S : List Nat} : OffEq S σ σ := ⟨rfl, fun _ _ => rfl⟩
theorem OffEq.trans {S : List Nat} {σ1 σ2 : L2.St} (a : OffEq S σ σ1) (b : OffEq S σ1 σ2) : OffEq S σ σ2 := ⟨b.len.trans a.len, fun j h => (b.at_ j h).trans (a.at_ j h)⟩
theorem OffEq.mono {S S' : List Nat} (a : OffEq S σ σ') (h : ∀ i ∈ S, i ∈ S') : OffEq S' σ σ' := ⟨a.len, fun j hj => a.at_ j fun z => hj (h j z)⟩
theorem wipe_at (σ : L2.St) : ∀ (vs : List Nat) (j : Nat), (wipe σ vs)[j]? = if j ∈ vs then (if j < σ.length then some none else none) else σ[j]?
  | [], j => by simp [wipe]
  | v :: vs, j => by
    unfold wipe
    by_cases hj : j = v
    · subst hj
      rw [if_pos List.mem_cons_self]
      by_cases hl : j < σ.length
      · rw [List.getElem?_set_self (by rw [wipe_length]; exact hl), if_pos hl]
      · rw [if_neg hl, List.getElem?_eq_none]
        rw [List.length_set, wipe_length]
        omega
    · rw [List.getElem?_set_ne (Ne.symm hj), wipe_at σ vs j]
      have e : (j ∈ v :: vs) = (j ∈ vs) := by simp [hj]
      simp only [e]
theorem wipe_off {S : List Nat} (o : OffEq S σ σ') {vs : List Nat} (h : ∀ i ∈ S, i ∈ vs) : wipe σ' vs = wipe σ vs := by
  apply List.ext_getElem?
  intro j
  rw [wipe_at, wipe_at, o.len]
  by_cases hj : j ∈ vs
  · rw [if_pos hj, if_pos hj]
  · rw [if_neg hj, if_neg hj]
    exact o.at_ j fun z => hj (h j z)
def wipeE (ρ : Env) : List Nat → Env
  | [] => ρ
  | v :: vs => (wipeE ρ vs).set v none
theorem Rel.forget2 (r : Rel K R L E F ρ σ rs H) (i : Nat) : Rel K R L E F (ρ.set i none) (σ.set i none) rs H := by
  have q := r.forget i
  refine ⟨by rw [List.length_set, List.length_set]; exact r.len, q.ex, q.ent, q.fr, q.row, q.rE, q.lk, fun j sw e => ?_, fun j k a x y e1 e2 ox oy e3 e4 => ?_⟩
  · have hj : j ≠ i := by
      rintro rfl
      have hl : j < ρ.length := by
        have := (List.getElem?_eq_some_iff.mp e).1
        rw [List.length_set] at this
        exact this
      rw [List.getElem?_set_self hl] at e
      cases e
    obtain ⟨v, e1, h1⟩ := q.sl j sw e
    exact ⟨v, by rw [List.getElem?_set_ne (Ne.symm hj)]; exact e1, h1⟩
  · have hj : j ≠ i := by
      rintro rfl
      have hl : j < ρ.length := by
        have := (List.getElem?_eq_some_iff.mp e1).1
        rw [List.length_set] at this
        exact this
      rw [List.getElem?_set_self hl] at e1
      cases e1
    have hk : k ≠ i := by
      rintro rfl
      have hl : k < ρ.length := by
        have := (List.getElem?_eq_some_iff.mp e2).1
        rw [List.length_set] at this
        exact this
      rw [List.getElem?_set_self hl] at e2
      cases e2
    rw [List.getElem?_set_ne (Ne.symm hj)] at e3
    rw [List.getElem?_set_ne (Ne.symm hk)] at e4
    exact q.own j k a x y e1 e2 ox oy e3 e4
theorem Rel.wipe (r : Rel K R L E F ρ σ rs H) : ∀ vs : List Nat, Rel K R L E F (wipeE ρ vs) (L2.wipe σ vs) rs H
  | [] => r
  | v :: vs => (Rel.wipe r vs).forget2 v
def GSem (K : PySem.W.Frag) (R : Option Addr) (S : List Nat) (t : TG) (h : D → Env → Option Env) : Prop :=
  ∀ (L : Nat → Option (Addr × List V)) (E F : Hp) (ρ : Env) (σ : L2.St) (rs : RS) (H : Hp) (v : V) (x : D) (ρ' : Env) (Q : L2.St → Hp → Prop), Rel K R L E F ρ σ rs H → Dp K F v x → h x ρ = some ρ' →
    (∀ σ', Rel K R L E F ρ' σ' rs H → OffEq S σ σ' → Q σ' H) → t v σ H Q
def GsSem (K : PySem.W.Frag) (R : Option Addr) (S : List Nat) (t : TGs) (h : List D → Env → Option Env) : Prop :=
  ∀ (L : Nat → Option (Addr × List V)) (E F : Hp) (ρ : Env) (σ : L2.St) (rs : RS) (H : Hp) (v : List V) (x : List D) (ρ' : Env) (Q : L2.St → Hp → Prop), Rel K R L E F ρ σ rs H → DpAll K F v x → h x ρ = some ρ' →
    (∀ σ', Rel K R L E F ρ' σ' rs H → OffEq S σ σ' → Q σ' H) → t v σ H Q
structure DG (X : Cx) (R : Option Addr) (S : List Nat) (tg : Expr) (t : TG) (h : D → Env → Option Env) : Prop where
  pg : PG X tg t
  sem : GSem X.K R S t h
structure DGs (X : Cx) (R : Option Addr) (S : List Nat) (tg : List Expr) (t : TGs) (h : List D → Env → Option Env) : Prop where
  pg : PGs X tg t
  sem : GsSem X.K R S t h
variable {S S' : List Nat} {tg it elt e c : Expr} {es ifs : List Expr} {g : TG} {gs : TGs} {hg : D → Env → Option Env} {hgs : List D → Env → Option Env} {pos p : Pos} {st : Stmt} {body : List Stmt} {tb : TS} {tt : TT} {te : TE} {ta : TA} {wi : TI}
def gNm (i : Nat) : D → Env → Option Env := fun x ρ => some (ρ.set i (some (.d x)))
theorem dg_name {i : Nat} {x : Str} (hN : X.N.Nodup) (hi : X.N[i]? = some x) (hx : Loc X.env.scope x) (hf : X.fn x = true ∨ X.env.scope.names.lookup x = some .local := by first | exact .inl rfl | exact .inr rfl | assumption) : DG X R [i] (.Name x pos) (gName i) (gNm i) :=
  ⟨pg_name hN hi hx hf, fun L E F ρ σ rs H v x ρ' Q r hd e k => by
    cases e
    refine k _ (r.put i _ v hd (fun a q => nomatch q)) ⟨List.length_set, fun j hj => ?_⟩
    rw [List.getElem?_set_ne]
    exact fun z => hj (by simp [z])⟩
def gNone : List D → Env → Option Env := fun xs ρ => match xs with
  | [] => some ρ
  | _ => none
def gMore (h : D → Env → Option Env) (hs : List D → Env → Option Env) : List D → Env → Option Env := fun xs ρ => match xs with
  | x :: xs => match h x ρ with
    | some ρ1 => hs xs ρ1
    | none => none
  | [] => none
theorem dgs_nil : DGs X R [] [] gNil gNone := ⟨pgs_nil, fun L E F ρ σ rs H v x ρ' Q r hd e k => by
  cases hd with
  | nil =>
    cases e
    exact ⟨rfl, k σ r OffEq.refl⟩
  | cons _ _ => cases e⟩
theorem dgs_cons (h1 : DG X R S e g hg) (h2 : DGs X R S' es gs hgs) (hs : (assignEach (e :: es) X.env).map (·.2) = assign e X.env :: (assignEach es X.env).map (·.2) := by rfl) : DGs X R (S ++ S') (e :: es) (gCons g gs) (gMore hg hgs) :=
  ⟨pgs_cons h1.pg h2.pg hs, fun L E F ρ σ rs H v x ρ' Q r hd e k => by
    cases hd with
    | nil => cases e
    | @cons v vs d ds hv ht =>
      have e' : (match hg d ρ with | some ρ1 => hgs ds ρ1 | none => none) = some ρ' := e
      cases e1 : hg d ρ with
      | none => rw [e1] at e'; cases e'
      | some ρ1 =>
        rw [e1] at e'
        refine ⟨v, vs, rfl, h1.sem L E F ρ σ rs H v d ρ1 _ r hv e1 fun σ1 r1 o1 => ?_⟩
        exact h2.sem L E F ρ1 σ1 rs H vs ds ρ' Q r1 ht e' fun σ2 r2 o2 => k σ2 r2 ((o1.mono fun i h => List.mem_append_left _ h).trans (o2.mono fun i h => List.mem_append_right _ h))⟩
def gTupF (n : Nat) (hs : List D → Env → Option Env) : D → Env → Option Env := fun x ρ => match x with
  | .tuple ds => if ds.length = n then hs ds ρ else none
  | _ => none
theorem dg_tup {k n : Nat} (hc : X.calm = true) (h : DGs X R S es gs hgs) (hn : (assignEach es X.env).length = n := by rfl) (hst : (assignEach es X.env).findIdx? (·.1) = none := by rfl) : DG X R S (.Tuple es k pos) (gTup X.K n gs) (gTupF n hgs) :=
  ⟨pg_tup hc h.pg hn hst, fun L E F ρ σ rs H v x ρ' Q r hd e k => by
    cases x with
    | tuple ds =>
      have e' : (if ds.length = n then hgs ds ρ else none) = some ρ' := e
      by_cases hl : ds.length = n
      · rw [if_pos hl] at e'
        cases hd with
        | @tup a vs _ h1 h2 =>
          exact ⟨a, vs, rfl, ex_t (r.fr _) h1, by rw [h2.len, hl], h.sem L E F ρ σ rs H vs ds ρ' Q r h2 e' k⟩
      · rw [if_neg hl] at e'; cases e'
    | none => cases e
    | bool _ => cases e
    | int _ => cases e
    | str _ => cases e
    | list _ => cases e
    | dict _ => cases e⟩
/-- a, b = e -/
def sTup (f : Env → M RV) (h : D → Env → Option Env) : Env → M Out := fun ρ => bnd (f ρ) fun x => match x with
  | .d y => bnd (lft (h y ρ)) fun ρ' => ret (.nx ρ')
  | _ => fail
theorem ds_tup {f : Env → M RV} (he : DE X R e te f) (h : DG X R S tg g hg) (hs : swapsWithSole [tg] e pos.line X.env = pure false := by rfl) (hw : swappedStores [tg] e X.env = pure none := by rfl)
    (h1 : (assignEach [tg] X.env).map (·.2) = [assign tg X.env] := by rfl) : DS X R (.Assign [tg] e pos) (tAsg te g) (sTup f hg) := ⟨ps_asg he.pe h.pg hs hw h1, fun L E F ρ σ rs H o rs' D r hf k => by
  obtain ⟨x, rs1, e1, hf1⟩ := bnd_some hf
  refine he.sem L E ρ σ F H rs x rs1 _ r e1 fun v F1 H1 s1 h1 => ?_
  cases x with
  | d y =>
    obtain ⟨ρ', rs2, e2, hf2⟩ := bnd_some hf1
    obtain ⟨e3, q3⟩ := lft_some e2
    obtain ⟨e4, q4⟩ := ret_some hf2
    subst e4 q4 q3
    exact h.sem L E F1 ρ σ _ H1 v y ρ' _ (r.step s1) h1 e3 fun σ' r' _ => k σ' F1 H1 (FStep.ofStep r s1) r'
  | b _ => cases hf1
  | n _ => cases hf1
  | gb _ => cases hf1
  | gn _ => cases hf1
  | row => cases hf1⟩
/-- a, b = x, y with two plain local names -/
def sPar (i j : Nat) (fa : Env → M (List RV)) : Env → M Out := fun ρ => bnd (fa ρ) fun xs => match xs with
  | [x, y] => bnd (lft (toS x)) fun sx => bnd (lft (toS y)) fun sy => ret (.nx ((ρ.set i (some sx)).set j (some sy)))
  | _ => fail
theorem Rel.store2 {H0 : Hp} (r0 : Rel K R L E F ρ σ rs H0) {ρ1 : Env} {σ1 : L2.St} {F1 H1 : Hp} (r1 : Rel K R L E F1 ρ1 σ1 rs' H1) {v : V} {x : RV} {sv : SV} (hv : VR K R F1 H0 H1 v x) (e : toS x = some sv) (i : Nat)
    (apart : ∀ a u, v = .ref a → H1 a = some u → H0 a = none → ∀ j y, j ≠ i → ρ1[j]? = some (some y) → y.ow → σ1[j]? = some (some (V.ref a)) → False) : Rel K R L E F1 (ρ1.set i (some sv)) (σ1.set i (some v)) rs' H1 := by
  cases x with
  | d y =>
    cases e
    exact r1.put i _ v hv (fun a q => nomatch q)
  | n ds =>
    cases e
    obtain ⟨a, vs, rfl, h1, h0, h2, h3, h4⟩ := hv
    have hE : E a = none := by
      cases q : E a with
      | none => rfl
      | some u => rw [r0.ex a u q] at h0; cases h0
    refine r1.put i _ _ ⟨a, vs, rfl, h1, hE, h2, h3, h4⟩ fun b q1 q2 j fs hj e1 oy e2 => ?_
    cases q2
    exact apart a _ rfl h1 h0 j fs hj e1 oy e2
  | gb _ => cases e
  | gn c =>
    cases e
    obtain ⟨a, vs, rfl, h1, h0, h2, h3, h4⟩ := hv
    have hE : E a = none := by
      cases q : E a with
      | none => rfl
      | some u => rw [r0.ex a u q] at h0; cases h0
    refine r1.put i _ _ ⟨a, vs, rfl, h1, hE, h2, h3, h4⟩ fun b q1 q2 j fs hj e1 oy e2 => ?_
    cases q2
    exact apart a _ rfl h1 h0 j fs hj e1 oy e2
  | b ds => cases e
  | row => cases e
theorem ds_par {i j : Nat} {x y : Str} {a b : Expr} {fa fb : Env → M RV} {tA tB : TE} {px py pt : Pos} {kt k2 pt2} (hc : X.calm = true) (hN : X.N.Nodup) (hi : X.N[i]? = some x) (hj : X.N[j]? = some y) (hij : i ≠ j)
    (hx : X.env.scope.names.lookup x = some .local) (hy : X.env.scope.names.lookup y = some .local) (ha : DE X R a tA fa) (hb : DE X R b tB fb)
    (hw : swappedStores [.Tuple [.Name x px, .Name y py] kt pt] (.Tuple [a, b] k2 pt2) X.env = pure (some [x, y])) (hs : swapsWithSole [.Tuple [.Name x px, .Name y py] kt pt] (.Tuple [a, b] k2 pt2) pos.line X.env = pure false := by rfl)
    (hq1 : starEach [a, b] X.env = (false, eval a X.env) :: starEach [b] X.env := by rfl) (hq2 : starEach [b] X.env = (false, eval b X.env) :: starEach [] X.env := by rfl) :
    DS X R (.Assign [.Tuple [.Name x px, .Name y py] kt pt] (.Tuple [a, b] k2 pt2) pos) (tPar i j (tCons tA (tCons tB tNil))) (sPar i j (aCons fa (aCons fb aNil))) :=
  ⟨ps_par hc hN hi hj hij hx hy (pa_cons ha.pe (pa_cons hb.pe pa_nil hq2) hq1) hw hs, fun L E F ρ σ rs H o rs' D r hf k => by
    obtain ⟨xs, rs1, e1, hf1⟩ := bnd_some hf
    obtain ⟨x1, rs2, e2, hf2⟩ := bnd_some e1
    obtain ⟨ys, rs3, e3, hf3⟩ := bnd_some hf2
    obtain ⟨x2, rs4, e4, hf4⟩ := bnd_some e3
    obtain ⟨zs, rs5, e5, hf5⟩ := bnd_some hf4
    obtain ⟨e6, q6⟩ := ret_some e5
    obtain ⟨e7, q7⟩ := ret_some hf5
    obtain ⟨e8, q8⟩ := ret_some hf3
    subst e6 q6 e7 q7 e8 q8
    obtain ⟨sx, rs6, e9, hf6⟩ := bnd_some hf1
    obtain ⟨e10, q10⟩ := lft_some e9
    obtain ⟨sy, rs7, e11, hf7⟩ := bnd_some hf6
    obtain ⟨e12, q12⟩ := lft_some e11
    obtain ⟨e13, q13⟩ := ret_some hf7
    subst e13 q13 q12 q10
    refine ha.sem L E ρ σ F H rs x1 rs2 _ r e2 fun v1 F1 H1 s1 h1 => ?_
    refine hb.sem L E ρ σ F1 H1 rs2 x2 _ _ (r.step s1) e4 fun v2 F2 H2 s2 h2 => ?_
    refine ⟨v1, v2, rfl, ?_⟩
    have s12 := s1.trans r.row s2
    have r1 := Rel.store r s12 (h1.step s2) e10 i
    refine k _ F2 H2 (FStep.ofStep r s12) (Rel.store2 (r.step s1) r1 h2 e12 j fun a u ev hl h0 m y hm q1 oy q2 => ?_)
    subst ev
    by_cases hmi : m = i
    · subst hmi
      have hl : m < ρ.length := by
        have := (List.getElem?_eq_some_iff.mp q1).1
        rw [List.length_set] at this
        exact this
      rw [List.getElem?_set_self (by rw [← r.len]; exact hl)] at q2
      have q3 := Option.some.inj (Option.some.inj q2)
      subst q3
      rw [List.getElem?_set_self hl] at q1
      cases x1 with
      | d y => cases e10; cases q1; cases oy
      | n y =>
        obtain ⟨_, _, e, hh, _⟩ := h1
        cases e
        rw [h0] at hh
        cases hh
      | gb _ => cases e10
      | gn y =>
        obtain ⟨_, _, e, hh, _⟩ := h1
        cases e
        rw [h0] at hh
        cases hh
      | b y => cases e10
      | row => cases e10
    · rw [List.getElem?_set_ne (Ne.symm hmi)] at q1 q2
      obtain ⟨w, q, _⟩ := (r.step s1).own_at q1 oy q2
      rw [h0] at q
      cases q⟩
end
end DV

/-! DV: what is walked, for, while, comprehensions -/
namespace DV
open PySem L2
section
variable {X : Cx} {K : PySem.W.Frag} {R : Option Addr} {L : Nat → Option (Addr × List V)} {E F F' H H' : Hp} {ρ ρ' : Env} {σ σ' : L2.St} {rs rs' : RS}

/-! ### what is walked -/
/-- what must stand while it is walked: things that are new, the caller's, or one list of one's own (lk) -/
def PinOk (K : PySem.W.Frag) (R : Option Addr) (E F' H H' : Hp) (ρ : Env) (σ : L2.St) (lk : Option Nat) (P : Hp) : Prop := ∀ a o, P a = some o → H' a = some o ∧ some a ≠ R ∧ Fx K a o ∧
  ((H a = none ∧ F' a = none) ∨ E a = some o ∨ ∃ i ds, lk = some i ∧ ρ[i]? = some (some (SV.o ds)) ∧ σ[i]? = some (some (V.ref a)))
def YOk (K : PySem.W.Frag) (F' : Hp) (its : List D) (Y : Nat → Hp → V → Hp → Prop) : Prop := ∀ (i : Nat) (H1 : Hp) (v : V) (H2 F1 : Hp), i < its.length → (∀ a o, F' a = some o → F1 a = some o) → (∀ a o, F1 a = some o → H1 a = some o) → Y i H1 v H2 →
  ∃ x, its[i]? = some x ∧ ((H2 = H1 ∧ Dp K F1 v x) ∨ ∃ T vs ds, v = .ref T ∧ H1 T = none ∧ H2 = upd H1 T (.tup vs) ∧ x = .tuple ds ∧ DpAll K F1 vs ds)
def IterOk (K : PySem.W.Frag) (R : Option Addr) (E : Hp) (ρ : Env) (σ : L2.St) (H F' H' : Hp) (J : It) (its : List D) (lk : Option Nat) : Prop :=
  ∃ (G : Hp → Prop) (Y : Nat → Hp → V → Hp → Prop) (P : Hp), Walk J its.length G Y ∧ PinOk K R E F' H H' ρ σ lk P ∧ (∀ H2, (∀ a o, P a = some o → H2 a = some o) → (∀ a o, F' a = some o → H2 a = some o) → G H2) ∧ YOk K F' its Y
def ISem (K : PySem.W.Frag) (R : Option Addr) (wi : TI) (f : Env → M (List D × Option Nat)) : Prop :=
  ∀ (L : Nat → Option (Addr × List V)) (E : Hp) (ρ : Env) (σ : L2.St) (F H : Hp) (rs : RS) (its : List D) (lk : Option Nat) (rs' : RS) (Rq : It → Hp → Prop), Rel K R L E F ρ σ rs H → f ρ rs = some ((its, lk), rs') →
    (∀ J F' H', Step K R rs' F H F' H' → IterOk K R E ρ σ H F' H' J its lk → Rq J H') → wi σ H Rq
structure DI (X : Cx) (R : Option Addr) (tg it : Expr) (wi : TI) (f : Env → M (List D × Option Nat)) : Prop where
  pi : PI X tg it wi
  sem : ISem X.K R wi f

/-! ### locks -/
def lockE (ρ : Env) : Option Nat → Env
  | none => ρ
  | some i => match ρ[i]? with
    | some (some (.o ds)) => ρ.set i (some (.k ds))
    | _ => ρ
def unlockE (ρ ρ' : Env) : Option Nat → Env
  | none => ρ'
  | some i => match ρ[i]?, ρ'[i]? with
    | some (some (.o ds)), some (some (.k _)) => ρ'.set i (some (.o ds))
    | _, _ => ρ'
theorem unlock_none {i : Nat} (h : ∀ ds, ρ[i]? ≠ some (some (SV.o ds))) : unlockE ρ ρ' (some i) = ρ' := by
  show (match ρ[i]?, ρ'[i]? with | some (some (.o ds)), some (some (.k _)) => ρ'.set i (some (.o ds)) | _, _ => ρ') = ρ'
  split
  · rename_i e _
    exact absurd e (h _)
  · rfl
theorem lock_none {i : Nat} (h : ∀ ds, ρ[i]? ≠ some (some (SV.o ds))) : lockE ρ (some i) = ρ := by
  show (match ρ[i]? with | some (some (.o ds)) => ρ.set i (some (.k ds)) | _ => ρ) = ρ
  split
  · rename_i e
    exact absurd e (h _)
  · rfl
def addH (P E : Hp) : Hp := fun a => match P a with
  | some o => some o
  | none => E a
theorem addH_fx {P E : Hp} (h1 : ∀ a o, P a = some o → Fx K a o) (h2 : ∀ a o, E a = some o → Fx K a o) : ∀ a o, addH P E a = some o → Fx K a o := fun a o h => by
  unfold addH at h
  cases e : P a with
  | none => rw [e] at h; exact h2 a o h
  | some u => rw [e] at h; cases h; exact h1 a _ e
theorem addH_none {P E : Hp} {a : Addr} (h : addH P E a = none) : P a = none ∧ E a = none := by
  unfold addH at h
  cases e : P a with
  | none => rw [e] at h; exact ⟨rfl, h⟩
  | some o => rw [e] at h; cases h
theorem addH_of {P E : Hp} {a : Addr} (h1 : P a = none) (h2 : E a = none) : addH P E a = none := by
  unfold addH; rw [h1]; exact h2
/-- without a lock of one's own -/
theorem Rel.pin0 (r0 : Rel K R L E F ρ σ rs H) (s : Step K R rs' F H F' H') {lk : Option Nat} {P : Hp} (p : PinOk K R E F' H H' ρ σ lk P) (hn : ∀ i ds, lk = some i → ρ[i]? ≠ some (some (SV.o ds))) :
    Rel K R L (addH P E) F' ρ σ rs' H' := by
  have r1 := r0.step s
  have hex : ∀ a o, addH P E a = some o → H' a = some o := fun a o e => by
    unfold addH at e
    cases q : P a with
    | none => rw [q] at e; exact r1.ex a o e
    | some u => rw [q] at e; cases e; exact (p a _ q).1
  refine ⟨r1.len, hex, addH_fx (fun a o e => (p a o e).2.2.1) r1.ent, r1.fr, r1.row, fun q e => ⟨addH_of ?_ (r1.rE q e).1, (r1.rE q e).2⟩, fun i a vs e => ?_, fun i sv e => ?_, r1.own⟩
  · cases z : P q with
    | none => rfl
    | some u => exact absurd e.symm (p q u z).2.1
  · have hE := r1.lk i a vs e
    unfold addH
    cases q : P a with
    | none => exact hE
    | some u =>
      have h1 := (p a u q).1
      rw [r1.ex a _ hE] at h1
      exact h1.symm ▸ rfl
  · obtain ⟨v, e1, q⟩ := r1.sl i sv e
    refine ⟨v, e1, ?_⟩
    cases sv with
    | d x => exact q
    | k ds => exact q
    | un => exact trivial
    | ex _ _ => exact q
    | fn _ => exact q
    | row => exact q
    | o ds =>
      obtain ⟨a, vs, rfl, h1, h2, h3, h4, h5⟩ := q
      refine ⟨a, vs, rfl, h1, addH_of ?_ h2, h3, h4, h5⟩
      cases z : P a with
      | none => rfl
      | some u =>
        rcases (p a u z).2.2.2 with ⟨z1, _⟩ | z1 | ⟨j, es, z1, z2, _⟩
        · obtain ⟨w, e2, b, ws, e3, k1, _⟩ := r0.sl i _ e
          rw [e1] at e2
          cases e2
          cases e3
          rw [z1] at k1
          cases k1
        · rw [h2] at z1; cases z1
        · exact absurd z2 (hn j es z1)
    | g c =>
      obtain ⟨a, vs, rfl, h1, h2, h3, h4, h5⟩ := q
      refine ⟨a, vs, rfl, h1, addH_of ?_ h2, h3, h4, h5⟩
      cases z : P a with
      | none => rfl
      | some u =>
        rcases (p a u z).2.2.2 with ⟨z1, _⟩ | z1 | ⟨j, es, z1, z2, _⟩
        · obtain ⟨w, k1, _⟩ := r0.own_at e trivial e1
          rw [z1] at k1
          cases k1
        · rw [h2] at z1; cases z1
        · exact absurd z2 (hn j es z1)
theorem Rel.unpin0 {P : Hp} {F2 H2 : Hp} {ρ2 : Env} {σ2 : L2.St} {rs2 : RS} (r1 : Rel K R L E F' ρ σ rs' H') (r2 : Rel K R L (addH P E) F2 ρ2 σ2 rs2 H2) (hPE : ∀ a o, E a = some o → addH P E a = some o) : Rel K R L E F2 ρ2 σ2 rs2 H2 := by
  refine ⟨r2.len, fun a o e => r2.ex a o (hPE a o e), r1.ent, r2.fr, r2.row, fun q e => ⟨(r1.rE q e).1, (r2.rE q e).2⟩, r1.lk, fun i sv e => ?_, r2.own⟩
  obtain ⟨v, e1, q⟩ := r2.sl i sv e
  refine ⟨v, e1, ?_⟩
  cases sv with
  | d x => exact q
  | k ds => exact q
  | un => exact trivial
  | ex _ _ => exact q
  | fn _ => exact q
  | row => exact q
  | o ds =>
    obtain ⟨a, vs, rfl, h1, h2, h3, h4, h5⟩ := q
    exact ⟨a, vs, rfl, h1, (addH_none h2).2, h3, h4, h5⟩
  | g c =>
    obtain ⟨a, vs, rfl, h1, h2, h3, h4, h5⟩ := q
    exact ⟨a, vs, rfl, h1, (addH_none h2).2, h3, h4, h5⟩
theorem pinE (r0 : Rel K R L E F ρ σ rs H) (s : Step K R rs' F H F' H') {lk : Option Nat} {P : Hp} (p : PinOk K R E F' H H' ρ σ lk P) : ∀ a o, E a = some o → addH P E a = some o := fun a o e => by
  unfold addH
  cases q : P a with
  | none => exact e
  | some u =>
    have h1 := (p a u q).1
    rw [(r0.step s).ex a o e] at h1
    exact h1.symm ▸ rfl
/-- what a loop starts from, and how its end is read -/
structure Pinned (K : PySem.W.Frag) (R : Option Addr) (L : Nat → Option (Addr × List V)) (E F' H' P : Hp) (ρ : Env) (σ : L2.St) (rs' : RS) (lk : Option Nat) (L2 : Nat → Option (Addr × List V)) (E2 : Hp) : Prop where
  rel : Rel K R L2 E2 F' (lockE ρ lk) σ rs' H'
  less : ∀ a, E2 a = none → E a = none
  sub : ∀ a o, E a = some o → E2 a = some o
  pin : ∀ a o, P a = some o → E2 a = some o
  back : ∀ F2 ρ2 σ2 rs2 H2, FStep R E2 F' F2 → Rel K R L2 E2 F2 ρ2 σ2 rs2 H2 → Rel K R L E F2 (unlockE ρ ρ2 lk) σ2 rs2 H2
theorem pinned (r0 : Rel K R L E F ρ σ rs H) (s : Step K R rs' F H F' H') {lk : Option Nat} {P : Hp} (p : PinOk K R E F' H H' ρ σ lk P) : ∃ L2 E2, Pinned K R L E F' H' P ρ σ rs' lk L2 E2 := by
  have r1 := r0.step s
  have plain : (∀ i ds, lk = some i → ρ[i]? ≠ some (some (SV.o ds))) → ∃ L2 E2, Pinned K R L E F' H' P ρ σ rs' lk L2 E2 := fun hn => by
    have h1 : lockE ρ lk = ρ := by
      cases lk with
      | none => rfl
      | some i => exact lock_none fun ds => hn i ds rfl
    have h2 : ∀ ρ2, unlockE ρ ρ2 lk = ρ2 := fun ρ2 => by
      cases lk with
      | none => rfl
      | some i => exact unlock_none fun ds => hn i ds rfl
    refine ⟨L, addH P E, ⟨by rw [h1]; exact r0.pin0 s p hn, fun a e => (addH_none e).2, pinE r0 s p, fun a o e => by unfold addH; rw [e], fun F2 ρ2 σ2 rs2 H2 _ r2 => ?_⟩⟩
    rw [h2]
    exact Rel.unpin0 r1 r2 (pinE r0 s p)
  cases hlk : lk with
  | none =>
    subst hlk
    exact plain fun i ds e => nomatch e
  | some i =>
    by_cases ho : ∃ ds, ρ[i]? = some (some (SV.o ds))
    · obtain ⟨ds, ho⟩ := ho
      subst hlk
      obtain ⟨v, ev, a, vs, rfl, q1, q2, q3, q4, q5⟩ := r1.sl i _ ho
      have hl : i < ρ.length := (List.getElem?_eq_some_iff.mp ho).1
      have elock : lockE ρ (some i) = ρ.set i (some (.k ds)) := by
        show (match ρ[i]? with | some (some (.o ds)) => ρ.set i (some (.k ds)) | _ => ρ) = _
        rw [ho]
      have hPa : ∀ o, P a = some o → o = .lst vs := fun o e => by
        have := (p a o e).1
        rw [q1] at this
        exact (Option.some.inj this).symm
      have hE2 : ∀ b o, upd (addH P E) a (.lst vs) b = some o → H' b = some o := fun b o e => by
        by_cases hb : b = a
        · subst hb; rw [upd_same] at e; rw [q1]; exact e
        · rw [upd_ne hb] at e
          unfold addH at e
          cases z : P b with
          | none => rw [z] at e; exact r1.ex b o e
          | some u => rw [z] at e; cases e; exact (p b _ z).1
      have hsub : ∀ b o, E b = some o → upd (addH P E) a (.lst vs) b = some o := fun b o e => by
        rw [upd_ne (fun z => by rw [z, q2] at e; cases e)]
        exact pinE r0 s p b o e
      refine ⟨fun j => if j = i then some (a, vs) else L j, upd (addH P E) a (.lst vs), ⟨?_, fun b e => ?_, hsub, fun b o e => ?_, fun F2 ρ2 σ2 rs2 H2 fs r2 => ?_⟩⟩
      · rw [elock]
        refine ⟨by rw [List.length_set]; exact r1.len, hE2, fun b o e => by
          by_cases hb : b = a
          · subst hb; rw [upd_same] at e; cases e; exact .lst
          · rw [upd_ne hb] at e; exact addH_fx (fun a o e => (p a o e).2.2.1) r1.ent b o e, r1.fr, r1.row, fun q e => ⟨?_, (r1.rE q e).2⟩, fun j b ws e => ?_, fun j sv e => ?_, fun j k c xa ya e1 e2 ox oy e3 e4 => ?_⟩
        · rw [upd_ne (fun z => q4 (by rw [← z, e]))]
          refine addH_of ?_ (r1.rE q e).1
          cases z : P q with
          | none => rfl
          | some u => exact absurd e.symm (p q u z).2.1
        · by_cases hj : j = i
          · have e' : (if j = i then some (a, vs) else L j) = some (b, ws) := e
            rw [if_pos hj] at e'
            cases e'
            exact upd_same
          · have e' : (if j = i then some (a, vs) else L j) = some (b, ws) := e
            rw [if_neg hj] at e'
            exact hsub b _ (r1.lk j b ws e')
        · by_cases hj : j = i
          · subst hj
            rw [List.getElem?_set_self hl] at e
            cases e
            exact ⟨_, ev, a, vs, if_pos rfl, rfl, q5⟩
          · rw [List.getElem?_set_ne (Ne.symm hj)] at e
            obtain ⟨w, e1, q⟩ := r1.sl j sv e
            refine ⟨w, e1, ?_⟩
            cases sv with
            | d x => exact q
            | k es =>
              obtain ⟨b, ws, z1, z2, z3⟩ := q
              exact ⟨b, ws, (if_neg hj).trans z1, z2, z3⟩
            | un => exact trivial
            | ex _ _ => exact q
            | fn _ => exact q
            | row => exact q
            | o es =>
              obtain ⟨b, ws, rfl, z1, z2, z3, z4, z5⟩ := q
              have hba : b ≠ a := by
                rintro rfl
                exact hj (r1.own j i b _ _ e ho trivial trivial e1 ev)
              refine ⟨b, ws, rfl, z1, ?_, z3, z4, z5⟩
              rw [upd_ne hba]
              refine addH_of ?_ z2
              cases z : P b with
              | none => rfl
              | some u =>
                rcases (p b u z).2.2.2 with ⟨y1, _⟩ | y1 | ⟨m, fs, y1, y2, y3⟩
                · obtain ⟨w, k1, _⟩ := r0.own_at e trivial e1
                  rw [y1] at k1
                  cases k1
                · rw [z2] at y1; cases y1
                · cases y1
                  rw [ev] at y3
                  cases y3
                  exact absurd rfl hba
            | g es =>
              obtain ⟨b, ws, rfl, z1, z2, z3, z4, z5⟩ := q
              have hba : b ≠ a := by
                rintro rfl
                exact hj (r1.own j i b _ _ e ho trivial trivial e1 ev)
              refine ⟨b, ws, rfl, z1, ?_, z3, z4, z5⟩
              rw [upd_ne hba]
              refine addH_of ?_ z2
              cases z : P b with
              | none => rfl
              | some u =>
                rcases (p b u z).2.2.2 with ⟨y1, _⟩ | y1 | ⟨m, fs, y1, y2, y3⟩
                · obtain ⟨w, k1, _⟩ := r0.own_at e trivial e1
                  rw [y1] at k1
                  cases k1
                · rw [z2] at y1; cases y1
                · cases y1
                  rw [ev] at y3
                  cases y3
                  exact absurd rfl hba
        · have hj : j ≠ i := by
            rintro rfl
            rw [List.getElem?_set_self hl] at e1
            cases e1
            cases ox
          have hk : k ≠ i := by
            rintro rfl
            rw [List.getElem?_set_self hl] at e2
            cases e2
            cases oy
          exact r1.own j k c xa ya (by rw [List.getElem?_set_ne (Ne.symm hj)] at e1; exact e1) (by rw [List.getElem?_set_ne (Ne.symm hk)] at e2; exact e2) ox oy e3 e4
      · have hba : b ≠ a := by
          rintro rfl
          rw [upd_same] at e
          cases e
        rw [upd_ne hba] at e
        exact (addH_none e).2
      · by_cases hb : b = a
        · subst hb
          rw [upd_same, hPa o e]
        · rw [upd_ne hb]
          unfold addH
          rw [e]
      · have weak : Rel K R (fun j => if j = i then some (a, vs) else L j) E F2 ρ2 σ2 rs2 H2 → True := fun _ => trivial
        -- slots other than i
        have slot : ∀ (j : Nat) (sv : SV) (v : V), j ≠ i → SR K R (fun j => if j = i then some (a, vs) else L j) (upd (addH P E) a (.lst vs)) F2 H2 j v sv → SR K R L E F2 H2 j v sv := fun j sv v hj q => by
          cases sv with
          | d x => exact q
          | k es =>
            obtain ⟨b, ws, z1, z2, z3⟩ := q
            exact ⟨b, ws, (if_neg hj).symm.trans z1, z2, z3⟩
          | un => exact trivial
          | ex _ _ => exact q
          | fn _ => exact q
          | row => exact q
          | o es =>
            obtain ⟨b, ws, rfl, z1, z2, z3, z4, z5⟩ := q
            refine ⟨b, ws, rfl, z1, ?_, z3, z4, z5⟩
            cases z : E b with
            | none => rfl
            | some u => rw [hsub b u z] at z2; cases z2
          | g es =>
            obtain ⟨b, ws, rfl, z1, z2, z3, z4, z5⟩ := q
            refine ⟨b, ws, rfl, z1, ?_, z3, z4, z5⟩
            cases z : E b with
            | none => rfl
            | some u => rw [hsub b u z] at z2; cases z2
        by_cases hk : ∃ es, ρ2[i]? = some (some (SV.k es))
        · obtain ⟨es, hk⟩ := hk
          have eun : unlockE ρ ρ2 (some i) = ρ2.set i (some (.o ds)) := by
            show (match ρ[i]?, ρ2[i]? with | some (some (.o ds)), some (some (.k _)) => ρ2.set i (some (.o ds)) | _, _ => ρ2) = _
            rw [ho, hk]
          rw [eun]
          have hl2 : i < ρ2.length := (List.getElem?_eq_some_iff.mp hk).1
          obtain ⟨v2, ev2, b, ws, y1, y2, y3⟩ := r2.sl i _ hk
          have y1' : (if i = i then some (a, vs) else L i) = some (b, ws) := y1
          rw [if_pos rfl] at y1'
          cases y1'
          subst y2
          have hEa : upd (addH P E) a (.lst vs) a = some (.lst vs) := upd_same
          have hFa : F2 a = none := by
            cases z : F2 a with
            | none => rfl
            | some u =>
              rcases fs.new a u z with y | ⟨y, _⟩
              · rw [q3] at y; cases y
              · rw [hEa] at y; cases y
          refine ⟨by rw [List.length_set]; exact r2.len, fun b o e => r2.ex b o (hsub b o e), r1.ent, r2.fr, r2.row, fun q e => ⟨(r1.rE q e).1, (r2.rE q e).2⟩, r1.lk, fun j sv e => ?_, fun j k c xa ya e1 e2 ox oy e3 e4 => ?_⟩
          · by_cases hj : j = i
            · subst hj
              rw [List.getElem?_set_self hl2] at e
              cases e
              exact ⟨_, ev2, a, vs, rfl, r2.ex a _ hEa, q2, hFa, q4, Dp.monoA fs.sub _ _ q5⟩
            · rw [List.getElem?_set_ne (Ne.symm hj)] at e
              obtain ⟨w, e1, q⟩ := r2.sl j sv e
              exact ⟨w, e1, slot j sv w hj q⟩
          · have other : ∀ (j : Nat) (x1 : SV), j ≠ i → (ρ2.set i (some (SV.o ds)))[j]? = some (some x1) → x1.ow → σ2[j]? = some (some (V.ref c)) → c ≠ a := fun j x1 hj e1 ox e3 => by
              rw [List.getElem?_set_ne (Ne.symm hj)] at e1
              obtain ⟨u, _, z2, _⟩ := r2.own_at e1 ox e3
              rintro rfl
              rw [hEa] at z2
              cases z2
            by_cases hj : j = i
            · by_cases hk' : k = i
              · rw [hj, hk']
              · exfalso
                subst hj
                rw [ev2] at e3
                cases e3
                exact other k ya hk' e2 oy e4 rfl
            · by_cases hk' : k = i
              · exfalso
                subst hk'
                rw [ev2] at e4
                cases e4
                exact other j xa hj e1 ox e3 rfl
              · rw [List.getElem?_set_ne (Ne.symm hj)] at e1
                rw [List.getElem?_set_ne (Ne.symm hk')] at e2
                exact r2.own j k c xa ya e1 e2 ox oy e3 e4
        · have eun : unlockE ρ ρ2 (some i) = ρ2 := by
            show (match ρ[i]?, ρ2[i]? with | some (some (.o ds)), some (some (.k _)) => ρ2.set i (some (.o ds)) | _, _ => ρ2) = _
            split
            · rename_i e2
              exact absurd ⟨_, e2⟩ hk
            · rfl
          rw [eun]
          refine ⟨r2.len, fun b o e => r2.ex b o (hsub b o e), r1.ent, r2.fr, r2.row, fun q e => ⟨(r1.rE q e).1, (r2.rE q e).2⟩, r1.lk, fun j sv e => ?_, r2.own⟩
          obtain ⟨w, e1, q⟩ := r2.sl j sv e
          by_cases hj : j = i
          · subst hj
            refine ⟨w, e1, ?_⟩
            cases sv with
            | d x => exact q
            | k es => exact absurd ⟨es, e⟩ hk
            | un => exact trivial
            | ex _ _ => exact q
            | fn _ => exact q
            | row => exact q
            | o es =>
              obtain ⟨b, ws, rfl, z1, z2, z3, z4, z5⟩ := q
              refine ⟨b, ws, rfl, z1, ?_, z3, z4, z5⟩
              cases z : E b with
              | none => rfl
              | some u => rw [hsub b u z] at z2; cases z2
            | g es =>
              obtain ⟨b, ws, rfl, z1, z2, z3, z4, z5⟩ := q
              refine ⟨b, ws, rfl, z1, ?_, z3, z4, z5⟩
              cases z : E b with
              | none => rfl
              | some u => rw [hsub b u z] at z2; cases z2
          · exact ⟨w, e1, slot j sv w hj q⟩
    · subst hlk
      exact plain fun j ds e q => by
        cases e
        exact ho ⟨ds, q⟩
end
end DV

/-! DV: for, while, comprehensions -/
namespace DV
open PySem L2
section
variable {X : Cx} {K : PySem.W.Frag} {R : Option Addr} {L : Nat → Option (Addr × List V)} {E F F' H H' : Hp} {ρ ρ' : Env} {σ σ' : L2.St} {rs rs' : RS}
variable {S S' : List Nat} {tg it elt e c : Expr} {es ifs : List Expr} {g : TG} {gs : TGs} {hg : D → Env → Option Env} {hgs : List D → Env → Option Env} {pos p : Pos} {st : Stmt} {body : List Stmt} {tb : TS} {tt : TT} {te : TE} {ta : TA} {wi : TI}
/-- what a walk yields, as a step -/
theorem YOk.step {its : List D} {Y : Nat → Hp → V → Hp → Prop} (y : YOk K F' its Y) {i : Nat} {H1 H2 F1 : Hp} {v : V} (hi : i < its.length) (h1 : ∀ a o, F' a = some o → F1 a = some o) (s : Step K R rs F1 H1 F1 H1) (hy : Y i H1 v H2) :
    ∃ x F2, its[i]? = some x ∧ Step K R rs F1 H1 F2 H2 ∧ Dp K F2 v x := by
  obtain ⟨x, e, q⟩ := y i H1 v H2 F1 hi h1 s.fin hy
  rcases q with ⟨rfl, hd⟩ | ⟨T, vs, ds, rfl, hT, rfl, rfl, hd⟩
  · exact ⟨x, F1, e, s, hd⟩
  · have s2 := Step.new_tup (vs := vs) s hT
    exact ⟨_, _, e, s2, .tup (.inl (.inl upd_same)) (Dp.monoA s2.sub _ _ hd)⟩

/-! ### for -/
def loopF (tg : D → Env → Option Env) (body : Env → M Out) : List D → Env → M Out
  | [], ρ => ret (.nx ρ)
  | x :: xs, ρ => bnd (lft (tg x ρ)) fun ρ1 => bnd (body ρ1) fun o => match o with
    | .nx ρ2 => loopF tg body xs ρ2
    | .ct ρ2 => loopF tg body xs ρ2
    | .bk ρ2 => ret (.nx ρ2)
    | .rt r => ret (.rt r)
def unlockO (ρ : Env) (lk : Option Nat) : Out → Out
  | .nx ρ' => .nx (unlockE ρ ρ' lk)
  | o => o
def sFor (fi : Env → M (List D × Option Nat)) (tg : D → Env → Option Env) (body : Env → M Out) : Env → M Out := fun ρ =>
  bnd (fi ρ) fun p => bnd (loopF tg body p.1 (lockE ρ p.2)) fun o => ret (unlockO ρ p.2 o)
theorem loopF_shape {tg : D → Env → Option Env} {body : Env → M Out} : ∀ {xs : List D} {ρ : Env} {rs rs' : RS} {o : Out}, loopF tg body xs ρ rs = some (o, rs') → (∃ ρ', o = .nx ρ') ∨ ∃ r, o = .rt r
  | [], ρ, rs, rs', o, h => by
    obtain ⟨e, _⟩ := ret_some h
    exact .inl ⟨_, e.symm⟩
  | x :: xs, ρ, rs, rs', o, h => by
    obtain ⟨ρ1, rs1, e1, h1⟩ := bnd_some h
    obtain ⟨o1, rs2, e2, h2⟩ := bnd_some h1
    cases o1 with
    | nx ρ2 => exact loopF_shape h2
    | ct ρ2 => exact loopF_shape h2
    | bk ρ2 =>
      obtain ⟨e, _⟩ := ret_some h2
      exact .inl ⟨_, e.symm⟩
    | rt r =>
      obtain ⟨e, _⟩ := ret_some h2
      exact .inr ⟨_, e.symm⟩
theorem ssem_for_at {fi : Env → M (List D × Option Nat)} {gb : Env → M Out} (r : Rel K R L E F ρ σ rs H) (hi : ∀ (its : List D) (lk : Option Nat) (rs1 : RS) (Rq : It → Hp → Prop), fi ρ rs = some ((its, lk), rs1) → (∀ J F' H', Step K R rs1 F H F' H' → IterOk K R E ρ σ H F' H' J its lk → Rq J H') → wi σ H Rq)
    (hgs : GSem K R S g hg) (hb : SSem K R tb gb) {o : Out} {rs' : RS} {D : Ends} (hf : sFor fi hg gb ρ rs = some (o, rs')) (k : Post K R L E F D rs' o) : tFor wi g tb D σ H := by
  obtain ⟨⟨its, lk⟩, rs1, e1, hf1⟩ := bnd_some hf
  obtain ⟨o1, rs2, e2, hf2⟩ := bnd_some hf1
  obtain ⟨e3, q3⟩ := ret_some hf2
  subst e3 q3
  refine hi its lk rs1 _ e1 fun J F1 H1 s1 ⟨G, Y, P, wk, pn, hG, hY⟩ => ?_
  obtain ⟨L2, E2, pd⟩ := pinned r s1 pn
  have fs1 := FStep.ofStep r s1
  -- the ends
  have fin : ∀ ρ2 σ2 F2 H2, o1 = .nx ρ2 → FStep R E2 F1 F2 → Rel K R L2 E2 F2 ρ2 σ2 rs' H2 → D.nx σ2 H2 := fun ρ2 σ2 F2 H2 eo fs r2 => by
    subst eo
    exact k σ2 F2 H2 (fs1.trans (fs.less pd.less)) (pd.back F2 ρ2 σ2 _ H2 fs r2)
  have finR : ∀ x v F2 F3 H3, o1 = .rt x → FStep R E2 F1 F2 → Ret K R rs' E2 F2 F3 H3 v x → D.rt v H3 := fun x v F2 F3 H3 eo fs q => by
    subst eo
    refine k v F3 H3 ⟨fs1.trans ((fs.trans q.fs).less pd.less), fun a o e => q.ex a o (pd.sub a o e), q.fr, q.row, q.rF, ?_⟩
    have hv := q.val
    cases x with
    | d y => exact hv
    | n ds =>
      obtain ⟨a, vs, z1, z2, z3, z4⟩ := hv
      exact ⟨a, vs, z1, z2, pd.less a z3, z4⟩
    | gb _ => exact hv.elim
    | gn c =>
      obtain ⟨a, vs, z1, z2, z3, z4⟩ := hv
      exact ⟨a, vs, z1, z2, pd.less a z3, z4⟩
    | b ds => exact hv.elim
    | row => exact hv.elim
  refine for_it wk (fun i σ' H' => ∃ F2 ρ2 rs3, FStep R E2 F1 F2 ∧ Rel K R L2 E2 F2 ρ2 σ' rs3 H' ∧ loopF hg gb (its.drop i) ρ2 rs3 = some (o1, rs')) ⟨F1, _, rs1, FStep.refl, pd.rel, e2⟩
    (fun i σ' H' hi ⟨F2, ρ2, rs3, fs, r2, _⟩ => hG H' (fun a o q => r2.ex a o (pd.pin a o q)) fun a o q => r2.fr a o (fs.sub a o q)) ?_ ?_
  · rintro i v σ' H2 H3 hi' ⟨F2, ρ2, rs3, fs, r2, el⟩ hy
    obtain ⟨x, F3, ex, s3, hd⟩ := hY.step hi' fs.sub r2.refl hy
    have er : its.drop i = x :: its.drop (i + 1) := by
      have hx : its[i] = x := by
        rw [List.getElem?_eq_getElem hi'] at ex
        exact Option.some.inj ex
      rw [← hx]
      exact List.drop_eq_getElem_cons hi'
    rw [er] at el
    obtain ⟨ρ3, rs4, e4, el1⟩ := bnd_some el
    obtain ⟨e5, q5⟩ := lft_some e4
    subst q5
    obtain ⟨o2, rs5, e6, el2⟩ := bnd_some el1
    have r3 := r2.step s3
    have fs3 := fs.trans (FStep.ofStep r2 s3)
    refine hgs L2 E2 F3 ρ2 σ' _ H3 v x ρ3 _ r3 hd e5 fun σ4 r4 _ => ?_
    refine hb L2 E2 F3 ρ3 σ4 _ H3 o2 rs5 _ r4 e6 ?_
    cases o2 with
    | nx ρ5 => exact fun σ5 F5 H5 f5 r5 => ⟨F5, ρ5, rs5, fs3.trans f5, r5, el2⟩
    | ct ρ5 => exact fun σ5 F5 H5 f5 r5 => ⟨F5, ρ5, rs5, fs3.trans f5, r5, el2⟩
    | bk ρ5 =>
      obtain ⟨e7, q7⟩ := ret_some el2
      subst q7
      exact fun σ5 F5 H5 f5 r5 => fin ρ5 σ5 F5 H5 e7.symm (fs3.trans f5) r5
    | rt x =>
      obtain ⟨e7, q7⟩ := ret_some el2
      subst q7
      exact fun v5 F5 H5 q => finR x v5 F3 F5 H5 e7.symm fs3 q
  · rintro σ' H' ⟨F2, ρ2, rs3, fs, r2, el⟩
    rw [List.drop_length] at el
    obtain ⟨e7, q7⟩ := ret_some el
    subst q7
    exact fin ρ2 σ' F2 H' e7.symm fs r2
theorem ssem_for {fi : Env → M (List D × Option Nat)} {gb : Env → M Out} (hi : ISem K R wi fi) (hgs : GSem K R S g hg) (hb : SSem K R tb gb) : SSem K R (tFor wi g tb) (sFor fi hg gb) := fun L E F ρ σ rs H o rs' D r hf k =>
  ssem_for_at r (fun its lk rs1 Rq e1 kk => hi L E ρ σ F H rs its lk rs1 Rq r e1 kk) hgs hb hf k
theorem ds_for {fi : Env → M (List D × Option Nat)} {gb : Env → M Out} (hp : PassesOwn (model X.prog X.w) X.A X.env X.xe) (hc : X.calm = true) (hi : DI X R tg it wi fi) (hg' : DG X R S tg g hg) (hb : DSs X R body tb gb)
    (hs : ∀ x, foldedSetIterable it X.env x = pure x := by intro _; rfl) : DS X R (.For tg it body [] pos) (tFor wi g tb) (sFor fi hg gb) := ⟨ps_for hp hc hi.pi hg'.pg hb.ps hs, ssem_for hi.sem hg'.sem hb.sem⟩

/-! ### while -/
def wloopF (x : Env → M Bool) (body : Env → M Out) : Nat → Env → M Out
  | 0, _ => fail
  | n + 1, ρ => bnd (x ρ) fun b => if b = true then bnd (body ρ) fun o => match o with
    | .nx ρ2 => wloopF x body n ρ2
    | .ct ρ2 => wloopF x body n ρ2
    | .bk ρ2 => ret (.nx ρ2)
    | .rt r => ret (.rt r)
    else ret (.nx ρ)
theorem ssem_while (n : Nat) {x : Env → M Bool} {gb : Env → M Out} (hx : TSem K R tt x) (hb : SSem K R tb gb) : SSem K R (tWhile tt tb) (wloopF x gb n) := fun L E F ρ σ rs H o rs' D r hf k => by
  refine ⟨fun m σ H => ∃ F2 ρ2 rs3, FStep R E F F2 ∧ Rel K R L E F2 ρ2 σ rs3 H ∧ wloopF x gb m ρ2 rs3 = some (o, rs'), ⟨n, F, ρ, rs, FStep.refl, r, hf⟩, ?_⟩
  rintro m σ1 H1 ⟨F1, ρ1, rs1, fs, r1, el⟩
  cases m with
  | zero => cases el
  | succ m =>
    obtain ⟨b, rs2, e2, el1⟩ := bnd_some el
    refine hx L E ρ1 σ1 F1 H1 rs1 b rs2 _ r1 e2 fun F2 H2 s2 => ?_
    have r2 := r1.step s2
    have fs2 := fs.trans (FStep.ofStep r1 s2)
    cases b with
    | true =>
      rw [if_pos rfl] at el1 ⊢
      obtain ⟨o2, rs5, e6, el2⟩ := bnd_some el1
      refine ⟨fun σ' H' => ∃ F5 ρ5, FStep R E F F5 ∧ Rel K R L E F5 ρ5 σ' rs5 H' ∧ wloopF x gb m ρ5 rs5 = some (o, rs'), fun σ' H' ⟨F5, ρ5, a, b, c⟩ => ⟨m, Nat.lt_succ_self m, F5, ρ5, rs5, a, b, c⟩, ?_⟩
      refine hb L E F2 ρ1 σ1 rs2 H2 o2 rs5 _ r2 e6 ?_
      cases o2 with
      | nx ρ5 => exact fun σ5 F5 H5 f5 r5 => ⟨F5, ρ5, fs2.trans f5, r5, el2⟩
      | ct ρ5 => exact fun σ5 F5 H5 f5 r5 => ⟨F5, ρ5, fs2.trans f5, r5, el2⟩
      | bk ρ5 =>
        obtain ⟨e7, q7⟩ := ret_some el2
        subst e7 q7
        exact fun σ5 F5 H5 f5 r5 => k σ5 F5 H5 (fs2.trans f5) r5
      | rt y =>
        obtain ⟨e7, q7⟩ := ret_some el2
        subst e7 q7
        exact fun v F5 H5 q => k v F5 H5 ⟨fs2.trans q.fs, q.ex, q.fr, q.row, q.rF, q.val⟩
    | false =>
      rw [if_neg Bool.false_ne_true] at el1 ⊢
      obtain ⟨e7, q7⟩ := ret_some el1
      subst e7 q7
      exact k σ1 F2 H2 fs2 r2
theorem ds_while (n : Nat) {x : Env → M Bool} {gb : Env → M Out} (hp : PassesOwn (model X.prog X.w) X.A X.env X.xe) (hc : DT X R c tt x) (hb : DSs X R body tb gb) : DS X R (.While c body [] pos) (tWhile tt tb) (wloopF x gb n) := ⟨ps_while hp hc.pt hb.ps, ssem_while n hc.sem hb.sem⟩

/-! ### comprehensions -/
structure DTs (X : Cx) (R : Option Addr) (ifs : List Expr) (t : TT) (f : Env → M Bool) : Prop where
  pt : PTs X ifs t
  sem : TSem X.K R t f
def tTrue : Env → M Bool := fun _ => ret true
theorem dts_nil : DTs X R [] tYes tTrue := ⟨pts_nil, fun L E ρ σ F H rs x rs' Q r hf k => by
  obtain ⟨e1, q1⟩ := ret_some hf
  subst e1 q1
  exact k F H r.refl⟩
theorem dts_one {x : Env → M Bool} (h : DT X R c tt x) : DTs X R [c] tt x := ⟨pts_one h.pt, h.sem⟩
def lcF (tg : D → Env → Option Env) (tst : Env → M Bool) (el : Env → M RV) (ρ : Env) : List D → M (List D)
  | [] => ret []
  | x :: xs => bnd (lft (tg x ρ)) fun ρ1 => bnd (tst ρ1) fun b => if b = true then bnd (el ρ1) fun y => bnd (lft (toD y)) fun d => bnd (lcF tg tst el ρ xs) fun ds => ret (d :: ds) else lcF tg tst el ρ xs
def eLc (fi : Env → M (List D × Option Nat)) (vs : List Nat) (tg : D → Env → Option Env) (tst : Env → M Bool) (el : Env → M RV) : Env → M RV := fun ρ =>
  bnd (fi ρ) fun p => bnd (lcF tg tst el (wipeE ρ vs) p.1) fun ds => if p.1.length ≤ 10000 then ret (.n ds) else fail
theorem freeze1 {F0 H0 F1 H1 : Hp} {rs0 rs1 : RS} (s : Step K R rs1 F0 H0 F1 H1) (r0 : RowOk K R rs0 F0 H0) {v : V} {x : RV} {d : D} {Hb : Hp} (hb : ∀ a, Hb a = none → H0 a = none) (h : VR K R F1 Hb H1 v x) (e : toD x = some d) :
    ∃ F2, Step K R rs1 F0 H0 F2 H1 ∧ Dp K F2 v d ∧ (∀ a o, F1 a = some o → F2 a = some o) ∧ ∀ a, Hb a ≠ none → F1 a = none → F2 a = none := by
  cases x with
  | d y => cases e; exact ⟨F1, s, h, fun _ _ q => q, fun _ _ q => q⟩
  | n ds =>
    cases e
    obtain ⟨a, vs, rfl, h1, h0, h2, h3, h4⟩ := h
    have ku : ∀ b o, F1 b = some o → upd F1 a (.lst vs) b = some o := fun b o q => by
      rw [upd_ne (fun z => by rw [z, h2] at q; cases q)]; exact q
    refine ⟨upd F1 a (.lst vs), ⟨fun b o h q n => s.keep b o h q n, fun b o q => ku b o (s.sub b o q), fun b o q => ?_, fun b o q => ?_, s.row.mono ku fun b o q => ?_, fun r er => ?_⟩, .lst (.inl (.inl upd_same)) (Dp.monoA ku _ _ h4), ku, fun b hb1 hb2 => ?_⟩
    · by_cases eb : b = a
      · subst eb; exact .inr (hb b h0)
      · rw [upd_ne eb] at q; exact s.new b o q
    · by_cases eb : b = a
      · subst eb; rw [upd_same] at q; rw [h1]; exact q
      · rw [upd_ne eb] at q; exact s.fin b o q
    · by_cases eb : b = a
      · subst eb; rw [upd_same] at q; cases q; exact .lst
      · rw [upd_ne eb] at q; exact s.row.fnt b o q
    · rw [upd_ne (fun z => h3 (by rw [er, z]))]; exact s.rF r er
    · rw [upd_ne (fun z => hb1 (by rw [z]; exact h0))]; exact hb2
  | b y => cases e
  | gb _ => cases e
  | gn y => cases e
  | row => cases e
theorem esem_lc_at {fi : Env → M (List D × Option Nat)} {vs : List Nat} {tst : Env → M Bool} {el : Env → M RV} (r : Rel K R L E F ρ σ rs H) (hi : ∀ (its : List D) (lk : Option Nat) (rs1 : RS) (Rq : It → Hp → Prop), fi ρ rs = some ((its, lk), rs1) → (∀ J F' H', Step K R rs1 F H F' H' → IterOk K R E ρ σ H F' H' J its lk → Rq J H') → wi σ H Rq)
    (hgs : GSem K R S g hg) (hS : ∀ i ∈ S, i ∈ vs) (ht : TSem K R tt tst) (he : ESem K R te el) {x : RV} {rs' : RS} {Q : VK} (hf : eLc fi vs hg tst el ρ rs = some (x, rs')) (kk : ∀ v F' H', Step K R rs' F H F' H' → VR K R F' H H' v x → Q v H') : tLc wi g tt te vs σ H Q := by
  obtain ⟨⟨its, lk⟩, rs1, e1, hf1⟩ := bnd_some hf
  obtain ⟨ds, rs2, e2, hf2⟩ := bnd_some hf1
  by_cases hlen : its.length ≤ 10000
  · have hf2' : (if its.length ≤ 10000 then ret (RV.n ds) else fail) rs2 = some (x, rs') := hf2
    rw [if_pos hlen] at hf2'
    obtain ⟨e3, q3⟩ := ret_some hf2'
    subst e3 q3
    have e2 : lcF hg tst el (wipeE ρ vs) its rs1 = some (ds, rs') := e2
    refine hi its lk rs1 _ e1 fun J F1 H1 s1 ⟨G, Y, P, wk, pn, hG, hY⟩ => ?_
    intro Da hD
    have r1 := r.step s1
    have hDr : some Da ≠ R := fun q => by
      obtain ⟨a, e, _⟩ := r1.row.at_ Da q.symm
      rw [hD] at e; cases e
    have hDF1 : F1 Da = none := by
      cases q : F1 Da with
      | none => rfl
      | some o =>
        have := s1.fin Da o q
        rw [hD] at this; cases this
    refine lc_it wk (fun i H2 => ∃ F2 rs3 av ad rest, Step K R rs3 F1 H1 F2 H2 ∧ H2 Da = some (.lst av) ∧ F2 Da = none ∧ DpAll K F2 av ad ∧ ad.length ≤ i ∧ ad ++ rest = ds ∧ lcF hg tst el (wipeE ρ vs) (its.drop i) rs3 = some (rest, rs')) ?_ ?_ ?_ ?_
    · refine ⟨F1, rs1, [], [], ds, (Step.new_lst (vs := []) r1.refl hD).1, upd_same, hDF1, .nil, Nat.le_refl _, rfl, e2⟩
    · rintro i H2 hi' ⟨F2, rs3, av, ad, rest, s2, _⟩
      exact hG H2 (fun a o q => s2.keep a o (pn a o q).1 (pn a o q).2.1 (pn a o q).2.2.1) fun a o q => s2.fin a o (s2.sub a o q)
    · rintro i v H2 H3 hi' ⟨F2, rs3, av, ad, rest, s2, hDl, hDF, hA, hlA, hsum, el1⟩ hy
      have s02 := s1.trans r.row s2
      have r2 := r.step s02
      obtain ⟨x, F3, ex, s3, hd⟩ := hY.step hi' s2.sub r2.refl hy
      have er : its.drop i = x :: its.drop (i + 1) := by
        have hx : its[i] = x := by
          rw [List.getElem?_eq_getElem hi'] at ex
          exact Option.some.inj ex
        rw [← hx]
        exact List.drop_eq_getElem_cons hi'
      rw [er] at el1
      obtain ⟨ρ3, rs4, e4, el2⟩ := bnd_some el1
      obtain ⟨e5, q5⟩ := lft_some e4
      subst q5
      obtain ⟨b, rs5, e6, el3⟩ := bnd_some el2
      have s13 := s2.trans r1.row s3
      have r3 := r2.step s3
      have hD3 : H3 Da = some (.lst av) := s3.keep Da _ hDl hDr
      have hDF3 : F3 Da = none := by
        cases q : F3 Da with
        | none => rfl
        | some o =>
          rcases s3.new Da o q with z | z
          · rw [hDF] at z; cases z
          · rw [hDl] at z; cases z
      refine hgs L E F3 (wipeE ρ vs) (L2.wipe σ vs) _ H3 v x ρ3 _ (r3.wipe vs) hd e5 fun σ4 r4 o4 => ⟨?_, ?_⟩
      · rw [wipe_off o4 hS]
        apply List.ext_getElem?
        intro j
        rw [wipe_at, wipe_at]
        by_cases hj : j ∈ vs
        · rw [if_pos hj, if_pos hj, wipe_length]
        · rw [if_neg hj, if_neg hj]
      · refine ht L E ρ3 σ4 F3 H3 _ b rs5 _ r4 e6 fun F5 H5 s5 => ?_
        have s15 := s13.trans r1.row s5
        have hD5 : H5 Da = some (.lst av) := s5.keep Da _ hD3 hDr
        have hDF5 : F5 Da = none := by
          cases q : F5 Da with
          | none => rfl
          | some o =>
            rcases s5.new Da o q with z | z
            · rw [hDF3] at z; cases z
            · rw [hD3] at z; cases z
        cases b with
        | true =>
          rw [if_pos rfl] at el3 ⊢
          obtain ⟨y, rs6, e7, el4⟩ := bnd_some el3
          obtain ⟨d, rs7, e8, el5⟩ := bnd_some el4
          obtain ⟨e9, q9⟩ := lft_some e8
          subst q9
          obtain ⟨ds2, rs8, e10, el6⟩ := bnd_some el5
          obtain ⟨e11, q11⟩ := ret_some el6
          subst e11 q11
          refine he L E ρ3 σ4 F5 H5 rs5 y _ _ (r4.step s5) e7 fun w F6 H6 s6 h6 => ?_
          have s16 := s15.trans r1.row s6
          have hD6 : H6 Da = some (.lst av) := s6.keep Da _ hD5 hDr
          have hDF6 : F6 Da = none := by
            cases q : F6 Da with
            | none => rfl
            | some o =>
              rcases s6.new Da o q with z | z
              · rw [hDF5] at z; cases z
              · rw [hD5] at z; cases z
          obtain ⟨F7, s17, hd7, k7, n7⟩ := freeze1 (Hb := H5) s16 r1.row (fun a q => s15.back r1.row q) h6 e9
          have hDF7 : F7 Da = none := n7 Da (by rw [hD5]; exact fun z => nomatch z) hDF6
          have hk : ∀ a o, F2 a = some o → F7 a = some o := fun a o q => k7 a o (s6.sub a o (s5.sub a o (s3.sub a o q)))
          refine ⟨av, hD6, ?_, F7, _, av ++ [w], ad ++ [d], ds2, ?_, upd_same, hDF7, (Dp.monoA hk _ _ hA).append (.cons hd7 .nil), ?_, ?_, e10⟩
          · rw [hA.len]
            exact sz_lt (by omega)
          · refine ⟨fun a o q z n => ?_, s17.sub, s17.new, fun a o q => ?_, ⟨fun q e => ?_, tabs_upd s17.row.tab (.inr ⟨_, hD6⟩), s17.row.fnt⟩, s17.rF⟩
            · rw [upd_ne (fun zz => by rw [zz, hD] at q; cases q)]
              exact s17.keep a o q z n
            · rw [upd_ne (fun zz => by rw [zz, hDF7] at q; cases q)]
              exact s17.fin a o q
            · obtain ⟨a, z1, z2⟩ := s17.row.at_ q e
              exact ⟨a, by rw [upd_ne (fun zz => hDr (by rw [← zz, e]))]; exact z1, z2⟩
          · rw [List.length_append, List.length_singleton]
            omega
          · rw [List.append_assoc]
            exact hsum
        | false =>
          rw [if_neg Bool.false_ne_true] at el3 ⊢
          have hk : ∀ a o, F2 a = some o → F5 a = some o := fun a o q => s5.sub a o (s3.sub a o q)
          exact ⟨F5, rs5, av, ad, rest, s15, hD5, hDF5, Dp.monoA hk _ _ hA, by omega, hsum, el3⟩
    · rintro H2 ⟨F2, rs3, av, ad, rest, s2, hDl, hDF, hA, _, hsum, el1⟩
      rw [List.drop_length] at el1
      obtain ⟨e7, q7⟩ := ret_some el1
      subst e7 q7
      rw [List.append_nil] at hsum
      subst hsum
      have s02 := s1.trans r.row s2
      exact kk _ F2 H2 s02 ⟨Da, av, rfl, hDl, s1.back r.row hD, hDF, hDr, hA⟩
  · have hf2' : (if its.length ≤ 10000 then ret (RV.n ds) else fail) rs2 = some (x, rs') := hf2
    rw [if_neg hlen] at hf2'
    cases hf2'
theorem esem_lc {fi : Env → M (List D × Option Nat)} {vs : List Nat} {tst : Env → M Bool} {el : Env → M RV} (hi : ISem K R wi fi) (hgs : GSem K R S g hg) (hS : ∀ i ∈ S, i ∈ vs) (ht : TSem K R tt tst) (he : ESem K R te el) :
    ESem K R (tLc wi g tt te vs) (eLc fi vs hg tst el) := fun L E ρ σ F H rs x rs' Q r hf kk =>
  esem_lc_at r (fun its lk rs1 Rq e1 k => hi L E ρ σ F H rs its lk rs1 Rq r e1 k) hgs hS ht he hf kk
theorem de_lc {scope : Scope} {own : List (Str × Nat)} {fi : Env → M (List D × Option Nat)} {tst : Env → M Bool} {el : Env → M RV} (hc : X.calm = true) (hN : X.N.Nodup) (hi : DI X R tg it wi fi) (ok : BlkOk X.N X.env.scope scope own) (hS : ∀ i ∈ S, i ∈ own.map (·.2))
    (hg' : ∀ (s : Shared) (H : Hp) (C : Addr) (cl : List (Str × Addr)) (fp : List Addr), DG (X.blk s H scope (compEnvC scope cl C X.env) fp) R S tg g hg) (ht : ∀ (s : Shared) (H : Hp) (C : Addr) (cl : List (Str × Addr)) (fp : List Addr), DTs (X.blk s H scope (compEnvC scope cl C X.env) fp) R ifs tt tst)
    (he : ∀ (s : Shared) (H : Hp) (C : Addr) (cl : List (Str × Addr)) (fp : List Addr), DE (X.blk s H scope (compEnvC scope cl C X.env) fp) R elt te el) (hs : ∀ x, foldedSetIterable it X.env x = pure x := by intro _; rfl) :
    DE X R (.ListComp elt [⟨tg, it, ifs, 0⟩] scope pos) (tLc wi g tt te (own.map (·.2))) (eLc fi (own.map (·.2)) hg tst el) :=
  ⟨pe_lc hc hN hi.pi ok (fun s H C cl fp => (hg' s H C cl fp).pg) (fun s H C cl fp => (ht s H C cl fp).pt) (fun s H C cl fp => (he s H C cl fp).pe) hs,
    esem_lc hi.sem (hg' {} (fun _ => none) 0 [] []).sem hS (ht {} (fun _ => none) 0 [] []).sem (he {} (fun _ => none) 0 [] []).sem⟩
end
end DV

/-! DV: seq, enumerate, zip over lists and tuples alike -/
namespace DV
open PySem L2 PyProof.Rows
/-- a list or a tuple -/
inductive SK where | l | t
def SqK (k : SK) (K : PySem.W.Frag) (H : Hp) (a : Addr) (xs : List V) : Prop := match k with
  | .l => SqL K H a xs
  | .t => SqT K H a xs
def isItK (k : SK) (h : Heap) (it a : Addr) (i : Nat) : Prop := match k with
  | .l => h.IsListIter it a i
  | .t => h.IsTupleIter it a i
def isSqK (k : SK) (h : Heap) (a : Addr) (its : Array Value) : Prop := match k with
  | .l => h.IsList a its
  | .t => h.IsTuple a its
def itObj (k : SK) (a : Addr) : Obj := match k with
  | .l => { cls := .type "list_iterator", data := .fields #[.ref a, .int 0 0] }
  | .t => { cls := .type "tuple_iterator", data := .fields #[.ref a, .int 0 0] }
theorem drawK (k : SK) {prog : Program} {w : World} {A : Around} (hh : A.handled = none) (it a : Addr) (hne : a ≠ it) (items : Array Value) :
    Draws prog w A it [it, a] items.size (fun i v => items[i]? = some v) (fun i h => isItK k h it a i ∧ isSqK k h a items) := by
  cases k
  · exact Draws.list hh it a hne items
  · exact Draws.tuple hh it a hne items
theorem beginK (k : SK) (a : Addr) (items : Array Value) : Begins (.ref a) (itObj k a) fun h => isSqK k h a items := by
  cases k
  · exact begins_list a items
  · exact begins_tuple a items
theorem isItK.at' {k : SK} {h h' : Heap} {it a : Addr} {i : Nat} (x : isItK k h it a i) (e : ∀ o, h.get? it = some o → h'.get? it = some o) : isItK k h' it a i := by
  cases k
  · exact Heap.IsListIter.at x e
  · exact Heap.IsTupleIter.at x e
theorem isItK.obj {k : SK} {h : Heap} {it a : Addr} {i : Nat} (x : isItK k h it a i) : ∃ o, h.get? it = some o ∧ ∀ v, o.data ≠ .cell v := by
  cases k
  · obtain ⟨o, e, _, d⟩ := (show h.IsListIter it a i from x)
    exact ⟨o, e, fun v z => by rw [d] at z; cases z⟩
  · obtain ⟨o, e, _, d⟩ := (show h.IsTupleIter it a i from x)
    exact ⟨o, e, fun v z => by rw [d] at z; cases z⟩
theorem isItK.new (k : SK) {h : Heap} {it a : Addr} (e : h.get? it = some (itObj k a)) : isItK k h it a 0 := by
  cases k
  · exact ⟨_, e, rfl, rfl⟩
  · exact ⟨_, e, rfl, rfl⟩
section
variable {X : Cx} {pins : List (Addr × Obj)} {σ : L2.St} {H : Hp} {s : Shared}
theorem seqK (k : SK) {a : Addr} {xs : List V} (I : Inv X pins σ H s) (h : SqK k X.K H a xs) : ∃ its : List Value, Vals xs its ∧ isSqK k s.heap a its.toArray ∧ xs.length ≤ sizeLine ∧ a < s.heap.objs.size := by
  cases k
  · obtain ⟨its, rv, p, hz⟩ := I.list h
    exact ⟨its, rv, p.isList, hz, p.lt⟩
  · obtain ⟨its, rv, p, hz⟩ := I.tuple h
    exact ⟨its, rv, p, hz, p.lt⟩
theorem seqK_inj (k : SK) {a : Addr} {xs ys : List V} (I : Inv X pins σ H s) (h : SqK k X.K H a xs) (h' : SqK k X.K H a ys) : xs = ys := by
  cases k
  · exact I.list_inj h h'
  · exact I.tuple_inj h h'
end

/-! ### enumerate -/
set_option maxHeartbeats 1000000 in
theorem meets_enumerate_new1 {v : Value} {o : Obj} {H : Heap → Prop} (B : Begins v o H) :
    Meets (Builtin.«enumerate.__new__» ⟨[.type "enumerate", v], []⟩) (fun _ R s => H s.heap ∧
      R (.ok (.ret (.ref (s.heap.push o).objs.size))) { s with heap := (s.heap.push o).push { cls := .type "enumerate", data := .fields #[.none, .bool false, .ref s.heap.objs.size, rawInt 0, .none, .none] } }) :=
  .of_wp fun prog w A R s h => by
    obtain ⟨hp, g, d, tk, os⟩ := s; obtain ⟨h1, h⟩ := h
    have hsub := sub_enumerate
    have q1 : ∀ {A' : Around} {E : Value → Shared → Prop} {Q : Value → Shared → Prop}, Q (.ref hp.objs.size) ⟨hp.push o, g, d, tk, os⟩ → wpAny (model prog w) A' (pyIter v) Q E ⟨hp, g, d, tk, os⟩ :=
      fun q => B.iter prog w _ _ ⟨hp, g, d, tk, os⟩ _ h1 q
    wp_walk using q1
    refine wpAny_stack_any fun st => wpAny_pure ?_
    split
    · rename_i c _ _ _ _ _
      cases (c == Value.type "enumerate")
      · wp_walk using q1
        exact ⟨_, rfl, h⟩
      · wp_walk using q1
        exact ⟨_, rfl, h⟩
    · wp_walk using q1
      exact ⟨_, rfl, h⟩
theorem enum_begins1 {prog : Program} {w : World} {A : Around} {E : Value → Shared → Prop} {s : Shared} {v : Value} {o : Obj} {H : Heap → Prop} {Q : Value → Shared → Prop} (B : Begins v o H) (h1 : H s.heap)
    (h : ∀ h', IsEnum h' (s.heap.objs.size + 1) s.heap.objs.size 0 .none → h'.get? s.heap.objs.size = some o → h'.objs.size = s.heap.objs.size + 2 →
      (∀ b o, s.heap.get? b = some o → h'.get? b = some o) → Q (.ref (s.heap.objs.size + 1)) { s with heap := h' }) :
    wpAny (model prog w) A (call (.type "enumerate") [v]) Q E s := by
  refine callType_new F.called_enumerate (by decide) (F.typeCall_enumerate_1 _) (F.newCall_enumerate_1 _) (fun obj => F.args_object_init_2 obj _) F.entry_enumerate_new
    (meets_enumerate_new1 B) ⟨h1, ?_⟩
  have hz : (s.heap.push o).objs.size = s.heap.objs.size + 1 := Heap.size_push ..
  show _ ∧ _
  rw [hz]
  have he : IsEnum ((s.heap.push o).push { cls := .type "enumerate", data := .fields #[.none, .bool false, .ref s.heap.objs.size, rawInt 0, .none, .none] }) (s.heap.objs.size + 1) s.heap.objs.size 0 .none := by
    have := Heap.get?_push_size (s.heap.push o) (o := { cls := .type "enumerate", data := .fields #[.none, .bool false, .ref s.heap.objs.size, rawInt 0, .none, .none] }) rfl
    rw [hz] at this; exact this
  refine ⟨⟨_, he, rfl⟩, h _ he (Heap.get?_push_of_some _ (Heap.get?_push_size _ B.free)) (by rw [Heap.size_push, hz]) fun b o x => Heap.get?_push_of_some _ (Heap.get?_push_of_some _ x)⟩
def IteK (k : SK) (K : PySem.W.Frag) (a : Addr) : It :=
  ⟨fun i H => ∃ (xs : List V) (x : V), SqK k K H a xs ∧ xs[i]? = some x, fun i H v H' => ∃ T x, v = .ref T ∧ H T = none ∧ H' = upd H T (.tup [.int (i : Nat), x]) ∧ ∀ xs, SqK k K H a xs → xs[i]? = some x, fun i H => ∃ xs : List V, SqK k K H a xs ∧ xs.length ≤ i⟩
theorem turn_enumK (k : SK) {P : Program} {w : World} {K : PySem.W.Frag} {elts : List Expr} {kk : Nat} {tpos : Pos} (a e it : Addr) (hai : a ≠ it) (hae : a ≠ e) :
    Turn P w K (.Tuple elts kk tpos) (IteK k K a) [e, it] e (fun i h => (∃ old, IsEnum h e it ((i : Nat) : Int) old) ∧ isItK k h it a i ∧ e ≠ it) where
  mem := by simp
  obj := fun i h st b hb => by
    obtain ⟨⟨old, he⟩, hit, _⟩ := st
    have e' : b = e ∨ b = it := by simpa using hb
    rcases e' with z | z
    · rw [z]; exact ⟨_, he, fun v q => nomatch q⟩
    · rw [z]; exact hit.obj
  keep := fun i h h' st q => let ⟨⟨old, he⟩, hi, hne⟩ := st; ⟨⟨old, q e (by simp) _ he⟩, hi.at' fun o z => q it (by simp) o z, hne⟩
  item := by
    intro X hP hw hK hc i pins s σ H E I hf st hg
    subst hP hw hK
    obtain ⟨⟨old, he⟩, hit, hne⟩ := st
    obtain ⟨xs, x, hq, hx⟩ := hg
    obtain ⟨its, rv, p, hz, hal⟩ := seqK k I hq
    obtain ⟨u, hu, ru⟩ := rv.get hx
    have hel : e < s.heap.objs.size := Heap.lt_size he
    have hil : it < s.heap.objs.size := by obtain ⟨_, q, _⟩ := hit.obj; exact Heap.lt_size q
    have hlen : i < its.toArray.size := by
      have q1 := (List.getElem?_eq_some_iff.mp hu).1
      simpa using q1
    refine wpAny_pyNext_enum_itemD (drawK k (A := X.A.in1) (I.ok.hd hc) it a hai its.toArray) he ⟨hit, p⟩ hlen hne (by simp [hne, Ne.symm hae]) fun y h' tk hy ho hst hT hsz hk => ?_
    have hyu : y = u := by
      have q1 : its[i]? = some y := by simpa using hy
      rw [hu] at q1
      exact (Option.some.inj q1).symm
    subst hyu
    refine ⟨_, rfl, wpAny_letOwnedTupleGo_enum (s := { s with heap := h', toks := tk + 1 }) ho fun h'' he' sb => ?_⟩
    have hT2 : h''.get? s.heap.objs.size = some { cls := .type "tuple", data := .seq #[.int i tk, y] } := (sb.2 _ (Nat.ne_of_gt hel)).trans hT
    have new : ObjOk X.prog X.w (upd H s.heap.objs.size (.tup [.int (i : Nat), x])) h'' s.heap.objs.size (.tup [.int (i : Nat), x]) :=
      ⟨by show 2 ≤ sizeLine; decide, [.int i tk, y], .cons ⟨_, rfl⟩ (.cons ru .nil), ⟨_, hT2, rfl, _, rfl⟩⟩
    have I1 : Inv X pins σ (upd H s.heap.objs.size (.tup [.int (i : Nat), x])) { s with heap := h'', toks := tk + 1 } :=
      I.turnedNew (ch := [e, it]) (fun b ob hb q => (sb.2 b (fun z => hb (by simp [z]))).trans (hk b ob (fun z => hb (by simp [z])) (fun z => hb (by simp [z])) q)) hf (Nat.le_refl _) new
    refine ⟨.ref s.heap.objs.size, _, I1, rfl, ⟨_, x, rfl, I.hok.fresh (Nat.le_refl _), rfl, fun ys hy => by rw [seqK_inj k I hy hq]; exact hx⟩, ⟨⟨y, ?_⟩, hst.1.at' fun o q => (sb.2 it (Ne.symm hne)).trans q, hne⟩, fun b hb => ?_⟩
    · have e1 : ((i + 1 : Nat) : Int) = (i : Int) + 1 := by omega
      rw [e1]; exact he'
    · have hb' : b < s.heap.objs.size := by
        have e' : b = e ∨ b = it := by simpa using hb
        rcases e' with z | z
        · rw [z]; exact hel
        · rw [z]; exact hil
      rw [upd_ne (Nat.ne_of_lt hb')]
      exact (hf b hb).1
  done := by
    intro X hP hw hK hc i pins s σ H E I hf st hg
    subst hP hw hK
    obtain ⟨⟨old, he⟩, hit, hne⟩ := st
    obtain ⟨xs, hq, hx⟩ := hg
    obtain ⟨its, rv, p, hz, hal⟩ := seqK k I hq
    obtain ⟨f0, f1, f2, f3, f4, f5⟩ := hf it (by simp)
    have hl := rv.length
    have hend : ∀ (Q : Option Value → Shared → Prop), (∀ h', Heap.ExtBut it s.heap h' → Q none { s with heap := h' }) → wpAny (model X.prog X.w) X.A (pyNext (.ref e)) Q E s := fun Q hQ => by
      cases k
      · exact wpAny_pyNext_enum_end (I.ok.hd hc) he hit p (by simp; omega) hQ
      · have hT : s.TypeIs (.ref e) "enumerate" := ⟨_, he, rfl⟩
        unfold pyNext
        refine wpAny_bind (wpAny_attempt (wpAny_callSpecial?_slot (name := Str.ofString "__next__") hT F.slot_enumerate_next
          (wpAny_call_entry F.slot_enumerate_next hT F.entry_enumerate_next ?_ (F.args_enumerate_next_1 _))))
        show wpAny _ _ (field (.ref e) 2 >>= _) _ _ _
        refine wpAny_bind (wpAny_field he rfl (x := .ref it) rfl ?_)
        refine wpAny_bind (wpAny_nextOf_tuple_end (I.ok.hd hc) hit p (by simp; omega) fun h' x he' hx' => ?_)
        obtain ⟨o, ho, hc⟩ := hx'
        refine wpAny_bind (wpAny_isInstance (T := "StopIteration") (b := true) ⟨o, ho, hc⟩ isSubtype_stop ?_)
        exact wpAny_pure (hQ _ he')
    exact hend _ fun h' eb => ⟨rfl, I.turned (t' := s.toks) (fun b o hb q => eb b o hb q) f0 f1 f3 f4 f5⟩
  self := fun A i s Q E st h => let ⟨⟨_, he⟩, _⟩ := st; wpAny_pyIter_enum he h
def iEnumK (K : PySem.W.Frag) (ta : TE) : TI := fun σ H R => ta σ H fun v H1 => ∃ k a xs, v = .ref a ∧ SqK k K H1 a xs ∧ R (IteK k K a) H1
theorem pi_enumK {X : Cx} {e : Expr} {te : TE} {p pos tpos : Pos} {elts : List Expr} {kk : Nat} (hg : Gl X "enumerate") (hm : X.mg "enumerate" = none) (he : PE X e te) (hs : starEach [e] X.env = (false, eval e X.env) :: starEach [] X.env := by rfl) :
    PI X (.Tuple elts kk tpos) (.Call (.Name "enumerate" p) [e] [] pos) (iEnumK X.K te) := by
  refine ⟨fun pins s σ H R I h => ?_⟩
  refine Call_ (ld_blt I hg hm boot_enumerate (PyProof.Rows.callWith_type1 (args_cons (thn (he.run pins s σ H _ I h) fun u s1 ⟨v, H1, I1, r1, q1⟩ => args_nil ?_) hs) hs rfl))
  obtain ⟨k, a, xs, ex, hq, q⟩ := q1
  subst ex
  cases r1
  obtain ⟨its, rv, p', hz, hal⟩ := seqK k I1 hq
  refine enum_begins1 (beginK k a its.toArray) p' fun h' he' hit hsz hk => wpAny_pyIter_enum he' ?_
  have I2 : Inv X pins σ H1 { s1 with heap := h' } := I1.kept (t' := s1.toks) hk
  refine ⟨s1.heap.objs.size + 1, [s1.heap.objs.size + 1, s1.heap.objs.size], _, _, H1, rfl, I2, turn_enumK k a (s1.heap.objs.size + 1) s1.heap.objs.size (Nat.ne_of_lt hal) (Nat.ne_of_lt (Nat.lt_succ_of_lt hal)), ⟨⟨.none, he'⟩, .new k hit, Nat.succ_ne_self _⟩, fun b hb => ?_, q⟩
  have e' : b = s1.heap.objs.size + 1 ∨ b = s1.heap.objs.size := by simpa using hb
  have hle : s1.heap.objs.size ≤ b := by
    rcases e' with z | z
    · rw [z]; exact Nat.le_add_right _ _
    · rw [z]; exact Nat.le_refl _
  exact I1.fpOk hle (I1.hok.fresh hle)
theorem walk_enumK (k : SK) {K : PySem.W.Frag} {a : Addr} {xs : List V} : Walk (IteK k K a) xs.length (fun H => SqK k K H a xs) (YPair (fun i => some (.int (i : Nat))) (fun i => xs[i]?)) := by
  refine ⟨fun i _ hi q => ⟨xs, xs[i], q, by simp [hi]⟩, fun _ q => ⟨xs, q, Nat.le_refl _⟩, fun i H v H' _ q y => ?_⟩
  obtain ⟨T, x, h1, h2, h3, h4⟩ := y
  exact ⟨T, .int (i : Nat), x, h1, h2, h3, rfl, h4 xs q⟩

/-! ### a list or a tuple itself -/
def ItK (k : SK) (K : PySem.W.Frag) (a : Addr) : It := match k with
  | .l => Itl K a
  | .t => Itt K a
def iSeqK (K : PySem.W.Frag) (tl : TE) : TI := fun σ H R => tl σ H fun x H1 => ∃ k a xs, x = .ref a ∧ SqK k K H1 a xs ∧ R (ItK k K a) H1
theorem pi_seqK {X : Cx} {tg l : Expr} {tl : TE} (hl : PE X l tl) : PI X tg l (iSeqK X.K tl) := by
  refine ⟨fun pins s σ H R I h => ?_⟩
  refine thn (hl.run pins s σ H _ I h) fun v s1 ⟨x, H1, I1, r1, q1⟩ => ?_
  obtain ⟨k, a, xs, e, hq, q⟩ := q1
  subst e
  cases r1
  cases k
  · obtain ⟨its, rv, p, hz⟩ := I1.list hq
    refine wpAny_pyIter_list p.isList ?_
    refine ⟨s1.heap.objs.size, [s1.heap.objs.size], _, _, H1, rfl, I1.kept (t' := s1.toks) fun b o e => Heap.get?_push_of_some _ e, turn_list a _, ⟨_, Heap.get?_push_size _ rfl, rfl, rfl⟩, fun b hb => ?_, q⟩
    have e : b = s1.heap.objs.size := by simpa using hb
    subst e
    exact I1.fpOk (Nat.le_refl _) (I1.hok.fresh (Nat.le_refl _))
  · obtain ⟨its, rv, p, hz⟩ := I1.tuple hq
    refine wpAny_pyIter_tuple (show s1.heap.IsTuple a its.toArray from p) ?_
    refine ⟨s1.heap.objs.size, [s1.heap.objs.size], _, _, H1, rfl, I1.kept (t' := s1.toks) fun b o e => Heap.get?_push_of_some _ e, turn_tuple a _, ⟨_, Heap.get?_push_size _ rfl, rfl, rfl⟩, fun b hb => ?_, q⟩
    have e : b = s1.heap.objs.size := by simpa using hb
    subst e
    exact I1.fpOk (Nat.le_refl _) (I1.hok.fresh (Nat.le_refl _))
theorem walk_seqK (k : SK) {K : PySem.W.Frag} {a : Addr} {xs : List V} : Walk (ItK k K a) xs.length (fun H => SqK k K H a xs) (YAt xs) := by
  cases k
  · exact walk_list
  · exact walk_tup

/-! ### zip -/
def ItzK (k1 k2 : SK) (K : PySem.W.Frag) (a b : Addr) : It :=
  ⟨fun i H => ∃ (xs ys : List V) (x y : V), SqK k1 K H a xs ∧ SqK k2 K H b ys ∧ xs[i]? = some x ∧ ys[i]? = some y,
    fun i H v H' => ∃ T x y, v = .ref T ∧ H T = none ∧ H' = upd H T (.tup [x, y]) ∧ (∀ xs, SqK k1 K H a xs → xs[i]? = some x) ∧ ∀ ys, SqK k2 K H b ys → ys[i]? = some y,
    fun i H => ∃ xs ys : List V, SqK k1 K H a xs ∧ SqK k2 K H b ys ∧ i ≤ xs.length ∧ i ≤ ys.length ∧ (i = xs.length ∨ i = ys.length)⟩
theorem turn_zipK (k1 k2 : SK) {P : Program} {w : World} {K : PySem.W.Frag} {elts : List Expr} {kk : Nat} {tpos : Pos} {a b z TI TO i1 i2 : Addr} (S : ZipSep2 z TI TO i1 i2 [i1, a] [i2, b]) (ha : a ≠ i1) (hb : b ≠ i2) :
    Turn P w K (.Tuple elts kk tpos) (ItzK k1 k2 K a b) [z, TI, TO, i1, i2] z (fun i h => IsZip h z TI TO .none ∧ IsTupOf2 h TI (.ref i1) (.ref i2) ∧ (∃ x y, IsTupOf2 h TO x y) ∧ isItK k1 h i1 a i ∧ isItK k2 h i2 b i) where
  mem := by simp
  obj := fun i h st c hc => by
    obtain ⟨hz, hTI, ⟨x, y, hTO⟩, h1, h2⟩ := st
    have e' : c = z ∨ c = TI ∨ c = TO ∨ c = i1 ∨ c = i2 := by simpa using hc
    rcases e' with q | q | q | q | q
    · rw [q]; exact ⟨_, hz, fun v q => nomatch q⟩
    · rw [q]; exact ⟨_, hTI, fun v q => nomatch q⟩
    · rw [q]; exact ⟨_, hTO, fun v q => nomatch q⟩
    · rw [q]; exact h1.obj
    · rw [q]; exact h2.obj
  keep := fun i h h' st k => by
    obtain ⟨hz, hTI, ⟨x, y, hTO⟩, h1, h2⟩ := st
    exact ⟨k z (by simp) _ hz, k TI (by simp) _ hTI, ⟨x, y, k TO (by simp) _ hTO⟩, h1.at' fun o q => k i1 (by simp) o q, h2.at' fun o q => k i2 (by simp) o q⟩
  item := by
    intro X hP hw hK hc i pins s σ H E I hf st hg
    subst hP hw hK
    obtain ⟨hz, hTI, ⟨x0, y0, hTO⟩, h1, h2⟩ := st
    obtain ⟨xs, ys, x, y, hqx, hqy, hx, hy⟩ := hg
    obtain ⟨its, rv, p, _, _⟩ := seqK k1 I hqx
    obtain ⟨its2, rv2, p2, _, _⟩ := seqK k2 I hqy
    obtain ⟨u, hu, ru⟩ := rv.get hx
    obtain ⟨u2, hu2, ru2⟩ := rv2.get hy
    have hzl : z < s.heap.objs.size := Heap.lt_size hz
    have hl1 : i < its.toArray.size := by have q1 := (List.getElem?_eq_some_iff.mp hu).1; simpa using q1
    have hl2 : i < its2.toArray.size := by have q1 := (List.getElem?_eq_some_iff.mp hu2).1; simpa using q1
    refine wpAny_pyNext_zipD2_item S (drawK k1 (A := X.A.in1) (I.ok.hd hc) i1 a ha its.toArray) (drawK k2 (A := X.A.in1) (I.ok.hd hc) i2 b hb its2.toArray) hz hTI hTO ⟨h1, p⟩ ⟨h2, p2⟩ hl1 hl2 fun v1 v2 h' tk y1 y2 z' TO' d1 d2 hT hsz hk => ?_
    have e1 : v1 = u := by
      have q1 : its[i]? = some v1 := by simpa using y1
      rw [hu] at q1
      exact (Option.some.inj q1).symm
    have e2 : v2 = u2 := by
      have q1 : its2[i]? = some v2 := by simpa using y2
      rw [hu2] at q1
      exact (Option.some.inj q1).symm
    subst e1 e2
    refine ⟨_, rfl, wpAny_letOwnedTupleGo_zip (s := { s with heap := h', toks := tk }) z' fun h'' z'' sb => ?_⟩
    have hT2 : h''.get? s.heap.objs.size = some { cls := .type "tuple", data := .seq #[v1, v2] } := (sb.2 _ (Nat.ne_of_gt hzl)).trans hT
    have new : ObjOk X.prog X.w (upd H s.heap.objs.size (.tup [x, y])) h'' s.heap.objs.size (.tup [x, y]) :=
      ⟨by show 2 ≤ sizeLine; decide, [v1, v2], .cons ru (.cons ru2 .nil), ⟨_, hT2, rfl, _, rfl⟩⟩
    have I1 : Inv X pins σ (upd H s.heap.objs.size (.tup [x, y])) { s with heap := h'', toks := tk } :=
      I.turnedNew (ch := [z, TI, TO, i1, i2]) (fun c o hb q => (sb.2 c (fun q' => hb (by simp [q']))).trans (hk c o (fun q' => hb (by simp [q'])) (fun q' => hb (by simp [q'])) (fun q' => hb (by simp [q'])) (fun q' => hb (by simp [q'])) q)) hf (Nat.le_refl _) new
    refine ⟨.ref s.heap.objs.size, _, I1, rfl, ⟨_, x, y, rfl, I.hok.fresh (Nat.le_refl _), rfl, fun l hl => by rw [seqK_inj k1 I hl hqx]; exact hx, fun l hl => by rw [seqK_inj k2 I hl hqy]; exact hy⟩, ⟨z'', ?_, ⟨v1, v2, ?_⟩, ?_, ?_⟩, fun c hcm => ?_⟩
    · exact (sb.2 _ S.TIz).trans (hk _ _ S.TIz S.TITO S.TIi1 S.TIi2 hTI)
    · exact (sb.2 _ S.TOz).trans TO'
    · exact d1.1.at' fun o q => (sb.2 _ (Ne.symm S.zi1)).trans q
    · exact d2.1.at' fun o q => (sb.2 _ (Ne.symm S.zi2)).trans q
    · have hlt : c < s.heap.objs.size := by
        have e' : c = z ∨ c = TI ∨ c = TO ∨ c = i1 ∨ c = i2 := by simpa using hcm
        rcases e' with q | q | q | q | q
        · rw [q]; exact hzl
        · rw [q]; exact Heap.lt_size hTI
        · rw [q]; exact Heap.lt_size hTO
        · rw [q]; obtain ⟨_, e1, _⟩ := h1.obj; exact Heap.lt_size e1
        · rw [q]; obtain ⟨_, e2, _⟩ := h2.obj; exact Heap.lt_size e2
      rw [upd_ne (Nat.ne_of_lt hlt)]
      exact (hf c hcm).1
  done := by
    intro X hP hw hK hc i pins s σ H E I hf st hg
    subst hP hw hK
    obtain ⟨hz, hTI, ⟨x0, y0, hTO⟩, h1, h2⟩ := st
    obtain ⟨xs, ys, hqx, hqy, hle1, hle2, hend⟩ := hg
    obtain ⟨its, rv, p, _, _⟩ := seqK k1 I hqx
    obtain ⟨its2, rv2, p2, _, _⟩ := seqK k2 I hqy
    have l1 := rv.length
    have l2 := rv2.length
    exact wpAny_pyNext_zipD2_end S (drawK k1 (A := X.A.in1) (I.ok.hd hc) i1 a ha its.toArray) (drawK k2 (A := X.A.in1) (I.ok.hd hc) i2 b hb its2.toArray) hz hTI hTO ⟨h1, p⟩ ⟨h2, p2⟩ (by simp; omega) (by simp; omega) (by simp; omega) fun h' tk hk =>
      ⟨rfl, I.turnedL (t' := tk) (ch := [z, TI, TO, i1, i2]) (fun c o hb q => hk c o (fun q' => hb (by simp [q'])) (fun q' => hb (by simp [q'])) (fun q' => hb (by simp [q'])) (fun q' => hb (by simp [q'])) q) hf⟩
  self := fun A i s Q E st h => wpAny_pyIter_zip st.1 h
def iZipK (K : PySem.W.Frag) (ta : TA) : TI := fun σ H R => ta σ H fun vs H2 => ∃ k1 k2 a b xs ys, vs = [.ref a, .ref b] ∧ SqK k1 K H2 a xs ∧ SqK k2 K H2 b ys ∧ R (ItzK k1 k2 K a b) H2
theorem pi_zipK {X : Cx} {e e2 : Expr} {ta : TA} {p pos tpos : Pos} {elts : List Expr} {kk : Nat} (hg : Gl X "zip") (hm : X.mg "zip" = none) (ha : PA X [e, e2] ta)
    (hs : starEach [e, e2] X.env = (false, eval e X.env) :: starEach [e2] X.env := by rfl) (hpl : (backTo pos (starEach [e2] X.env)).any (·.1) = false := by rfl) :
    PI X (.Tuple elts kk tpos) (.Call (.Name "zip" p) [e, e2] [] pos) (iZipK X.K ta) := by
  refine ⟨fun pins s σ H R I h => ?_⟩
  refine Call_ (ld_blt I hg hm PyProof.Rows.boot_zip (PyProof.Rows.callWith_type1 (thn (ha.run pos pins s σ H _ I h) fun us s1 ⟨vs, H1, I1, r1, q1⟩ => ?_) hs hpl))
  · obtain ⟨k1, k2, a, b, xs, ys, rfl, hqx, hqy, q⟩ := q1
    cases r1 with
    | cons r rr =>
      cases rr with
      | cons r' rr =>
        cases rr
        cases r
        cases r'
        obtain ⟨its, rv, p1, _, la⟩ := seqK k1 I1 hqx
        obtain ⟨its2, rv2, p2, _, lb⟩ := seqK k2 I1 hqy
        refine zip_begins2 (beginK k1 a its.toArray) (beginK k2 b its2.toArray) p1 p2 fun h' hz hTI hTO g1 g2 hsz hk => wpAny_pyIter_zip hz ?_
        have I2 : Inv X pins σ H1 { s1 with heap := h' } := I1.kept (t' := s1.toks) hk
        refine ⟨s1.heap.objs.size + 4, [s1.heap.objs.size + 4, s1.heap.objs.size + 2, s1.heap.objs.size + 3, s1.heap.objs.size, s1.heap.objs.size + 1], _, _, H1, rfl, I2,
          turn_zipK k1 k2 (zip_sep2 (fun c hc => by simp at hc; rw [hc]; exact la) (fun c hc => by simp at hc; rw [hc]; exact lb)) (Nat.ne_of_lt la) (Nat.ne_of_lt (Nat.lt_succ_of_lt lb)), ⟨hz, hTI, ⟨_, _, hTO⟩, .new k1 g1, .new k2 g2⟩, fun c hcm => ?_, q⟩
        have e' : c = s1.heap.objs.size + 4 ∨ c = s1.heap.objs.size + 2 ∨ c = s1.heap.objs.size + 3 ∨ c = s1.heap.objs.size ∨ c = s1.heap.objs.size + 1 := by simpa using hcm
        have hle : s1.heap.objs.size ≤ c := by
          rcases e' with z | z | z | z | z
          · rw [z]; exact Nat.le_add_right _ _
          · rw [z]; exact Nat.le_add_right _ _
          · rw [z]; exact Nat.le_add_right _ _
          · rw [z]; exact Nat.le_refl _
          · rw [z]; exact Nat.le_add_right _ _
        exact I1.fpOk hle (I1.hok.fresh hle)
theorem walk_zipK (k1 k2 : SK) {K : PySem.W.Frag} {a b : Addr} {xs ys : List V} {n : Nat} (hn : n = min xs.length ys.length) : Walk (ItzK k1 k2 K a b) n (fun H => SqK k1 K H a xs ∧ SqK k2 K H b ys) (YPair (fun i => xs[i]?) (fun i => ys[i]?)) := by
  subst hn
  refine ⟨fun i _ hi q => ?_, fun _ q => ⟨xs, ys, q.1, q.2, by omega, by omega, by omega⟩, fun i H v H' _ q y => ?_⟩
  · have h1 : i < xs.length := by omega
    have h2 : i < ys.length := by omega
    exact ⟨xs, ys, xs[i], ys[i], q.1, q.2, by simp [h1], by simp [h2]⟩
  · obtain ⟨T, x, z, h1, h2, h3, h4, h5⟩ := y
    exact ⟨T, x, z, h1, h2, h3, h4 xs q.1, h5 ys q.2⟩
end DV

/-! DV: sources of walks; calls of defs; lists of one's own changed -/
namespace DV
open PySem L2 PyProof.Rows
section
variable {X : Cx} {K : PySem.W.Frag} {R : Option Addr} {L : Nat → Option (Addr × List V)} {E F F' H H' : Hp} {ρ ρ' : Env} {σ σ' : L2.St} {rs rs' : RS}
variable {S S' : List Nat} {tg it elt e e2 c : Expr} {es ifs : List Expr} {g : TG} {gs : TGs} {hg : D → Env → Option Env} {hgs : List D → Env → Option Env} {pos p : Pos} {st : Stmt} {body : List Stmt} {tb : TS} {tt : TT} {te t1 t2 : TE} {ta : TA} {wi : TI}

/-! ### sources -/
def SrcOk (K : PySem.W.Frag) (R : Option Addr) (E : Hp) (ρ : Env) (σ : L2.St) (H F' H' : Hp) (v : V) (its : List D) (lk : Option Nat) : Prop := ∃ a vs, v = .ref a ∧ DpAll K F' vs its ∧
  ((∃ k, SqK k K F' a vs) ∨ (H' a = some (.lst vs) ∧ some a ≠ R ∧ ((H a = none ∧ F' a = none) ∨ E a = some (.lst vs) ∨ ∃ i ds, lk = some i ∧ ρ[i]? = some (some (SV.o ds)) ∧ σ[i]? = some (some (V.ref a)))))
theorem SqK.mono {k : SK} {F F' : Hp} {a : Addr} {vs : List V} (h : SqK k K F a vs) (e : ∀ o, F a = some o → F' a = some o) : SqK k K F' a vs := by
  cases k
  · exact ex_l e h
  · exact ex_t e h
theorem SrcOk.step {F1 H1 F2 H2 : Hp} {v : V} {its : List D} {lk : Option Nat} (s : Step K R rs' F1 H1 F2 H2) (h : SrcOk K R E ρ σ H F1 H1 v its lk) : SrcOk K R E ρ σ H F2 H2 v its lk := by
  obtain ⟨a, vs, rfl, hd, q⟩ := h
  refine ⟨a, vs, rfl, Dp.monoA s.sub _ _ hd, ?_⟩
  rcases q with ⟨k, q⟩ | ⟨q1, q2, q3⟩
  · exact .inl ⟨k, q.mono (s.sub a)⟩
  · refine .inr ⟨s.keep a _ q1 q2, q2, ?_⟩
    rcases q3 with ⟨z1, z2⟩ | z | z
    · refine .inl ⟨z1, ?_⟩
      cases q : F2 a with
      | none => rfl
      | some o =>
        rcases s.new a o q with y | y
        · rw [z2] at y; cases y
        · rw [q1] at y; cases y
    · exact .inr (.inl z)
    · exact .inr (.inr z)
theorem SrcOk.older {H0 H1 : Hp} {v : V} {its : List D} {lk : Option Nat} (e : ∀ a, H1 a = none → H0 a = none) (h : SrcOk K R E ρ σ H1 F' H' v its lk) : SrcOk K R E ρ σ H0 F' H' v its lk := by
  obtain ⟨a, vs, rfl, hd, q⟩ := h
  refine ⟨a, vs, rfl, hd, ?_⟩
  rcases q with q | ⟨q1, q2, q3⟩
  · exact .inl q
  · refine .inr ⟨q1, q2, ?_⟩
    rcases q3 with ⟨z1, z2⟩ | z | z
    · exact .inl ⟨e a z1, z2⟩
    · exact .inr (.inl z)
    · exact .inr (.inr z)
def SrcSem (K : PySem.W.Frag) (R : Option Addr) (t : TE) (f : Env → M (List D × Option Nat)) : Prop :=
  ∀ (L : Nat → Option (Addr × List V)) (E : Hp) (ρ : Env) (σ : L2.St) (F H : Hp) (rs : RS) (its : List D) (lk : Option Nat) (rs' : RS) (Q : VK), Rel K R L E F ρ σ rs H → f ρ rs = some ((its, lk), rs') →
    (∀ v F' H', Step K R rs' F H F' H' → SrcOk K R E ρ σ H F' H' v its lk → Q v H') → t σ H Q
structure DSrc (X : Cx) (R : Option Addr) (e : Expr) (t : TE) (f : Env → M (List D × Option Nat)) : Prop where
  pe : PE X e t
  sem : SrcSem X.K R t f
def srcOf : RV → Option (List D)
  | .d (.tuple ds) => some ds
  | .d (.list ds) => some ds
  | .n ds => some ds
  | _ => none
def srcE (f : Env → M RV) : Env → M (List D × Option Nat) := fun ρ => bnd (f ρ) fun x => bnd (lft (srcOf x)) fun ds => ret (ds, none)
theorem src_e {f : Env → M RV} (h : DE X R e te f) : DSrc X R e te (srcE f) := ⟨h.pe, fun L E ρ σ F H rs its lk rs' Q r hf k => by
  obtain ⟨x, rs1, e1, hf1⟩ := bnd_some hf
  obtain ⟨ds, rs2, e2, hf2⟩ := bnd_some hf1
  obtain ⟨e3, q3⟩ := lft_some e2
  obtain ⟨e4, q4⟩ := ret_some hf2
  cases e4
  subst q4 q3
  refine h.sem L E ρ σ F H rs x _ _ r e1 fun v F1 H1 s1 h1 => k v F1 H1 s1 ?_
  cases x with
  | d y =>
    cases y with
    | tuple es =>
      cases e3
      cases h1 with
      | tup z1 z2 => exact ⟨_, _, rfl, z2, .inl ⟨.t, z1⟩⟩
    | list es =>
      cases e3
      cases h1 with
      | lst z1 z2 => exact ⟨_, _, rfl, z2, .inl ⟨.l, z1⟩⟩
    | none => cases e3
    | bool _ => cases e3
    | int _ => cases e3
    | str _ => cases e3
    | dict _ => cases e3
  | n es =>
    cases e3
    obtain ⟨a, vs, rfl, z1, z0, z2, z3, z4⟩ := h1
    exact ⟨a, vs, rfl, z4, .inr ⟨z1, z3, .inl ⟨z0, z2⟩⟩⟩
  | b es => cases e3
  | gb _ => cases e3
  | gn _ => cases e3
  | row => cases e3⟩
def srcV (i : Nat) : Env → M (List D × Option Nat) := fun ρ => lft (match ρ[i]? with
  | some (some (.d (.tuple ds))) => some (ds, none)
  | some (some (.d (.list ds))) => some (ds, none)
  | some (some (.o ds)) => some (ds, some i)
  | some (some (.k ds)) => some (ds, none)
  | _ => none)
theorem src_v (i : Nat) {x : Str} (hN : X.N[i]? = some x := by rfl) (hv : Vis X.env.scope x := by first | exact Or.inl rfl | exact Or.inr (Or.inl rfl) | exact Or.inr (Or.inr rfl)) (hd : (x == ("__debug__" : Str)) = false := by decide)
    (hcd : (x == ("__classdict__" : Str)) = false := by decide) : DSrc X R (.Name x pos) (tVar i) (srcV i) := ⟨pe_var hN hv hd hcd, fun L E ρ σ F H rs its lk rs' Q r hf k => by
  obtain ⟨e1, q1⟩ := lft_some hf
  subst q1
  cases e : ρ[i]? with
  | none => rw [e] at e1; cases e1
  | some sv =>
    cases sv with
    | none => rw [e] at e1; cases e1
    | some sv =>
      obtain ⟨v, ev, q⟩ := r.sl i sv e
      refine ⟨v, ev, k v F H r.refl ?_⟩
      rw [e] at e1
      cases sv with
      | d y =>
        cases y with
        | tuple es =>
          cases e1
          cases q with
          | tup z1 z2 => exact ⟨_, _, rfl, z2, .inl ⟨.t, z1⟩⟩
        | list es =>
          cases e1
          cases q with
          | lst z1 z2 => exact ⟨_, _, rfl, z2, .inl ⟨.l, z1⟩⟩
        | none => cases e1
        | bool _ => cases e1
        | int _ => cases e1
        | str _ => cases e1
        | dict _ => cases e1
      | o es =>
        cases e1
        obtain ⟨a, vs, rfl, z1, z2, z3, z4, z5⟩ := q
        exact ⟨a, vs, rfl, z5, .inr ⟨z1, z4, .inr (.inr ⟨i, _, rfl, e, ev⟩)⟩⟩
      | k es =>
        cases e1
        obtain ⟨a, vs, hl, rfl, z5⟩ := q
        have hE := r.lk i a vs hl
        refine ⟨a, vs, rfl, z5, .inr ⟨r.ex a _ hE, fun z => ?_, .inr (.inl hE)⟩⟩
        have := (r.rE a z.symm).1
        rw [hE] at this
        cases this
      | g _ => cases e1
      | un => cases e1
      | ex _ _ => cases e1
      | fn _ => cases e1
      | row => cases e1⟩

/-! ### walks -/
/-- the pinned list of a source -/
def pinOf (K : PySem.W.Frag) (F' : Hp) (v : V) (vs : List V) (P : Hp) : Prop := ∃ a, v = .ref a ∧ ((∃ k, SqK k K F' a vs ∧ P = fun _ => none) ∨ P = fun b => if b = a then some (.lst vs) else none)
theorem SrcOk.pin {v : V} {its : List D} {lk : Option Nat} (r0 : Rel K R L E F ρ σ rs H) (h : SrcOk K R E ρ σ H F' H' v its lk) : ∃ (a : Addr) (vs : List V) (k : SK) (P : Hp), v = .ref a ∧ DpAll K F' vs its ∧ PinOk K R E F' H H' ρ σ lk P ∧
    (∀ H2, (∀ b o, P b = some o → H2 b = some o) → (∀ b o, F' b = some o → H2 b = some o) → SqK k K H2 a vs) := by
  obtain ⟨a, vs, rfl, hd, q⟩ := h
  rcases q with ⟨k, q⟩ | ⟨q1, q2, q3⟩
  · exact ⟨a, vs, k, fun _ => none, rfl, hd, fun b o e => (nomatch e), fun H2 _ h2 => q.mono (h2 a)⟩
  · refine ⟨a, vs, .l, fun b => if b = a then some (.lst vs) else none, rfl, hd, fun b o e => ?_, fun H2 h1 _ => .inl (.inl (h1 a _ (if_pos rfl)))⟩
    by_cases hb : b = a
    · subst hb
      have e' : (if b = b then some (HO.lst vs) else none) = some o := e
      rw [if_pos rfl] at e'
      cases e'
      exact ⟨q1, q2, .lst, q3⟩
    · have e' : (if b = a then some (HO.lst vs) else none) = some o := e
      rw [if_neg hb] at e'
      cases e'
theorem yAt_ok {vs : List V} {its : List D} (hd : DpAll K F' vs its) : YOk K F' its (YAt vs) := fun i H1 v H2 F1 hi h1 h2 y => by
  obtain ⟨rfl, hv⟩ := y
  have hx : its[i]? = some its[i] := List.getElem?_eq_getElem hi
  obtain ⟨w, hw, hdw⟩ := hd.get hx
  rw [hv] at hw
  cases hw
  exact ⟨_, hx, .inl ⟨rfl, Dp.mono h1 _ _ hdw⟩⟩
theorem di_seq {f : Env → M (List D × Option Nat)} (h : DSrc X R e te f) : DI X R tg e (iSeqK X.K te) f := ⟨pi_seqK h.pe, fun L E ρ σ F H rs its lk rs' Rq r hf k => by
  refine h.sem L E ρ σ F H rs its lk rs' _ r hf fun v F1 H1 s1 h1 => ?_
  obtain ⟨a, vs, kd, P, rfl, hd, pn, hG⟩ := h1.pin r
  have r1 := r.step s1
  refine ⟨kd, a, vs, rfl, hG H1 (fun b o q => (pn b o q).1) r1.fr, k _ F1 H1 s1 ⟨_, _, P, ?_, pn, hG, yAt_ok hd⟩⟩
  have := walk_seqK kd (K := X.K) (a := a) (xs := vs)
  rw [hd.len] at this
  exact this⟩
/-- enumerate -/
def enumD : Nat → List D → List D
  | _, [] => []
  | i, x :: xs => .tuple [.int (i : Nat), x] :: enumD (i + 1) xs
theorem enumD_len : ∀ (i : Nat) (xs : List D), (enumD i xs).length = xs.length
  | _, [] => rfl
  | i, x :: xs => congrArg (· + 1) (enumD_len (i + 1) xs)
theorem enumD_get : ∀ (k : Nat) (xs : List D) (i : Nat) (x : D), xs[i]? = some x → (enumD k xs)[i]? = some (.tuple [.int ((k + i : Nat) : Int), x])
  | k, y :: ys, 0, x, h => by
    simp at h; subst h
    rfl
  | k, y :: ys, i + 1, x, h => by
    simp at h
    have := enumD_get (k + 1) ys i x h
    have e : k + 1 + i = k + (i + 1) := by omega
    rw [e] at this
    simpa [enumD] using this
def iEnumF (f : Env → M (List D × Option Nat)) : Env → M (List D × Option Nat) := fun ρ => bnd (f ρ) fun p => ret (enumD 0 p.1, p.2)
theorem di_enum {f : Env → M (List D × Option Nat)} {elts : List Expr} {kk : Nat} {tpos : Pos} (hgl : Gl X "enumerate") (hm : X.mg "enumerate" = none) (h : DSrc X R e te f) (hs : starEach [e] X.env = (false, eval e X.env) :: starEach [] X.env := by rfl) :
    DI X R (.Tuple elts kk tpos) (.Call (.Name "enumerate" p) [e] [] pos) (iEnumK X.K te) (iEnumF f) := ⟨pi_enumK hgl hm h.pe hs, fun L E ρ σ F H rs its lk rs' Rq r hf k => by
  obtain ⟨⟨xs, lk1⟩, rs1, e1, hf1⟩ := bnd_some hf
  obtain ⟨e2, q2⟩ := ret_some hf1
  cases e2
  subst q2
  refine h.sem L E ρ σ F H rs xs lk1 _ _ r e1 fun v F1 H1 s1 h1 => ?_
  obtain ⟨a, vs, kd, P, rfl, hd, pn, hG⟩ := h1.pin r
  have r1 := r.step s1
  refine ⟨kd, a, vs, rfl, hG H1 (fun b o q => (pn b o q).1) r1.fr, k _ F1 H1 s1 ⟨fun H => SqK kd X.K H a vs, YPair (fun i => some (.int (i : Nat))) (fun i => vs[i]?), P, ?_, pn, hG, ?_⟩⟩
  · have := walk_enumK kd (K := X.K) (a := a) (xs := vs)
    rw [hd.len] at this
    show Walk _ (enumD 0 xs).length _ _
    rw [enumD_len]
    exact this
  · intro i H2 w H3 F2 hi h1 h2 y
    obtain ⟨T, x, y', rfl, hT, rfl, ex, ey⟩ := y
    cases ex
    have hi' : i < xs.length := by
      have hi2 : i < (enumD 0 xs).length := hi
      rw [enumD_len] at hi2
      exact hi2
    have hx : xs[i]? = some xs[i] := List.getElem?_eq_getElem hi'
    obtain ⟨w, hw, hdw⟩ := hd.get hx
    have ey' : vs[i]? = some y' := ey
    rw [ey'] at hw
    cases hw
    refine ⟨_, enumD_get 0 xs i _ hx, .inr ⟨T, _, _, rfl, hT, rfl, rfl, .cons ?_ (.cons (Dp.mono h1 _ _ hdw) .nil)⟩⟩
    rw [Nat.zero_add]
    exact Dp.int _⟩
/-- range(a, b) -/
def rngD (lo : Int) : Nat → List D
  | 0 => []
  | n + 1 => .int lo :: rngD (lo + 1) n
theorem rngD_len : ∀ (lo : Int) (n : Nat), (rngD lo n).length = n
  | _, 0 => rfl
  | lo, n + 1 => congrArg (· + 1) (rngD_len (lo + 1) n)
theorem rngD_get : ∀ (lo : Int) (n i : Nat), i < n → (rngD lo n)[i]? = some (.int (lo + i))
  | _, 0, _, h => absurd h (Nat.not_lt_zero _)
  | lo, n + 1, 0, _ => by simp [rngD]
  | lo, n + 1, i + 1, h => by
    have := rngD_get (lo + 1) n i (by omega)
    have e : lo + 1 + (i : Int) = lo + ((i + 1 : Nat) : Int) := by omega
    rw [e] at this
    simpa [rngD] using this
def iRng1F (f : Env → M RV) : Env → M (List D × Option Nat) := fun ρ => bnd (f ρ) fun x => bnd (lft (asInt x)) fun n => if n ≤ 100000 ∧ -100000 ≤ n then ret (rngD 0 n.toNat, none) else fail
def iRng2F (f g : Env → M RV) : Env → M (List D × Option Nat) := fun ρ => bnd (f ρ) fun x => bnd (lft (asInt x)) fun a => bnd (g ρ) fun y => bnd (lft (asInt y)) fun b =>
  if a ≤ 100000 ∧ -100000 ≤ a ∧ b ≤ 100000 ∧ -100000 ≤ b then ret (rngD a (b - a).toNat, none) else fail
theorem rng_ok {lo : Int} {n : Nat} (r : Rel K R L E F' ρ σ rs H') {H : Hp} : IterOk K R E ρ σ H F' H' (Itr lo n) (rngD lo n) none := by
  refine ⟨fun _ => True, YFn fun i => .int (lo + i), fun _ => none, ?_, fun a o e => (nomatch e), fun _ _ _ => trivial, ?_⟩
  · have := walk_range (lo := lo) (n := n)
    rw [rngD_len]
    exact this
  · intro i H1 v H2 F1 hi h1 h2 y
    obtain ⟨rfl, rfl⟩ := y
    rw [rngD_len] at hi
    exact ⟨_, rngD_get lo n i hi, .inl ⟨rfl, Dp.int _⟩⟩
theorem di_range1 {f : Env → M RV} (hgl : Gl X "range") (hm : X.mg "range" = none) (h : DE X R e te f) (hs : starEach [e] X.env = [(false, eval e X.env)] := by rfl) (hs' : starEach [e] X.env = (false, eval e X.env) :: starEach [] X.env := by rfl) :
    DI X R tg (.Call (.Name "range" p) [e] [] pos) (iRng1 (tCons te tNil)) (iRng1F f) := ⟨pi_range1 hgl hm (pa_cons h.pe pa_nil hs') hs, fun L E ρ σ F H rs its lk rs' Rq r hf k => by
  obtain ⟨x, rs1, e1, hf1⟩ := bnd_some hf
  obtain ⟨n, rs2, e2, hf2⟩ := bnd_some hf1
  obtain ⟨e3, q3⟩ := lft_some e2
  subst q3
  by_cases hb : n ≤ 100000 ∧ -100000 ≤ n
  · rw [if_pos hb] at hf2
    obtain ⟨e4, q4⟩ := ret_some hf2
    cases e4
    subst q4
    refine h.sem L E ρ σ F H rs x _ _ r e1 fun v F1 H1 s1 h1 => ?_
    have := h1.int e3
    subst this
    exact ⟨n, rfl, by omega, by omega, k _ F1 H1 s1 (rng_ok (r.step s1))⟩
  · rw [if_neg hb] at hf2
    cases hf2⟩
theorem di_range2 {f g : Env → M RV} (hgl : Gl X "range") (hm : X.mg "range" = none) (h : DE X R e t1 f) (h2 : DE X R e2 t2 g) (hs : starEach [e, e2] X.env = [(false, eval e X.env), (false, eval e2 X.env)] := by rfl) (hs2 : starEach [e2] X.env = [(false, eval e2 X.env)] := by rfl)
    (hq1 : starEach [e, e2] X.env = (false, eval e X.env) :: starEach [e2] X.env := by rfl) (hq2 : starEach [e2] X.env = (false, eval e2 X.env) :: starEach [] X.env := by rfl) :
    DI X R tg (.Call (.Name "range" p) [e, e2] [] pos) (iRng2 (tCons t1 (tCons t2 tNil))) (iRng2F f g) := ⟨pi_range2 hgl hm (pa_cons h.pe (pa_cons h2.pe pa_nil hq2) hq1) hs hs2, fun L E ρ σ F H rs its lk rs' Rq r hf k => by
  obtain ⟨x, rs1, e1, hf1⟩ := bnd_some hf
  obtain ⟨a, rs2, e2, hf2⟩ := bnd_some hf1
  obtain ⟨e3, q3⟩ := lft_some e2
  subst q3
  obtain ⟨y, rs4, e4, hf4⟩ := bnd_some hf2
  obtain ⟨b, rs5, e5, hf5⟩ := bnd_some hf4
  obtain ⟨e6, q6⟩ := lft_some e5
  subst q6
  by_cases hb : a ≤ 100000 ∧ -100000 ≤ a ∧ b ≤ 100000 ∧ -100000 ≤ b
  · rw [if_pos hb] at hf5
    obtain ⟨e7, q7⟩ := ret_some hf5
    cases e7
    subst q7
    refine h.sem L E ρ σ F H rs x _ _ r e1 fun v F1 H1 s1 h1 => ?_
    refine h2.sem L E ρ σ F1 H1 _ y _ _ (r.step s1) e4 fun w F2 H2 s2 h2 => ?_
    have := h1.int e3
    subst this
    have := h2.int e6
    subst this
    exact ⟨a, b, rfl, ⟨by omega, by omega, by omega, by omega⟩, k _ F2 H2 (s1.trans r.row s2) (rng_ok ((r.step s1).step s2))⟩
  · rw [if_neg hb] at hf5
    cases hf5⟩

/-! ### calls of defs -/
def toK : RV → SV
  | .d x => .d x
  | .b ds => .k ds
  | .n ds => .k ds
  | .gb _ => .un
  | .gn _ => .un
  | .row => .row
def startE (n : Nat) (xs : List RV) : Env := xs.map (fun x => some (toK x)) ++ List.replicate (n - xs.length) none
/-- a def's body run at its arguments -/
def runDef (n : Nat) (g : Env → M Out) (xs : List RV) : M RV := bnd (g (startE n xs)) fun o => match o with
  | .nx _ => ret (.d .none)
  | .rt x => ret x
  | _ => fail
/-- a def's promise: the function m of its arguments (np of them) -/
def spFn (K : PySem.W.Frag) (np : Nat) (m : List RV → M RV) : Sp := fun vs H Q _ => ∃ (R : Option Addr) (F : Hp) (rs : RS) (xs : List RV) (x : RV) (rs' : RS), Step K R rs F H F H ∧ VRs K R F H H vs xs ∧ xs.length = np ∧ m xs rs = some (x, rs') ∧
  ∀ v F' H', Step K R rs' F H F' H' → VR K R F' H H' v x → Q v H'
theorem VRs.old {F H0 H : Hp} : ∀ {vs : List V} {xs : List RV}, VRs K R F H0 H vs xs → True := fun _ => trivial
/-- data lists as they stand for a call: not new any more -/
def readable : RV → RV
  | .n ds => .b ds
  | .gn c => .gb c
  | x => x
def eFn (m : List RV → M RV) (fa : Env → M (List RV)) : Env → M RV := fun ρ => bnd (fa ρ) fun xs => m (xs.map readable)
theorem VRs.readable {F H0 H : Hp} : ∀ {vs : List V} {xs : List RV}, VRs K R F H0 H vs xs → VRs K R F H H vs (xs.map DV.readable)
  | _, _, .nil => .nil
  | _, _, .cons (x := x) h t => .cons (by
      cases x with
      | d y => exact h
      | b y => exact h
      | gb y => exact h
      | gn y =>
        obtain ⟨a, vs, e1, h1, h0, h2, h3, h4⟩ := h
        exact ⟨a, vs, e1, h1, h3, h4⟩
      | row => exact h
      | n y =>
        obtain ⟨a, vs, e1, h1, h0, h2, h3, h4⟩ := h
        exact ⟨a, vs, e1, h1, h3, h4⟩) (VRs.readable t)
theorem de_fn {k : Nat} {f : Addr} {fd : FuncData} {ps : List Str} {np : Nat} {m : List RV → M RV} {x : Str} {fa : Env → M (List RV)} {k' : Nat} (Fn : FnOk X.prog X.w X.K X.mg X.base CX0 k f fd ps (spFn X.K np m)) (hr : Room k' X.A) (hk' : k ≤ k') (hgl : Gl X x) (hm : X.mg x = some (.ref f)) (hk : PySem.W.keepIn X.K (.ref f) = true)
    (hb : Binds X.K fd ps []) (ha : DA X R (e :: es) ta fa) (hdb : (x == ("__debug__" : Str)) = false := by decide) (he : starEach (e :: es) X.env = (false, eval e X.env) :: starEach es X.env := by rfl) (hpl : (backTo pos (starEach es X.env)).any (·.1) = false := by rfl) :
    DE X R (.Call (.Name x p) (e :: es) [] pos) (tCall (spFn X.K np m) [] E0 ta) (eFn (fun xs => if xs.length = np then m xs else fail) fa) := ⟨pe_call Fn (hr.mono hk') hgl hm hk hb .nil pass0 ha.pa hdb he hpl, fun L E ρ σ F H rs y rs' Q r hf kk => by
  obtain ⟨xs, rs1, e1, hf1⟩ := bnd_some hf
  refine ha.sem L E ρ σ F H rs xs rs1 _ r e1 fun vs F1 H1 s1 h1 => ?_
  have hf1 : (if (xs.map readable).length = np then m (xs.map readable) else fail) rs1 = some (y, rs') := hf1
  have hl : (xs.map readable).length = np := by
    by_cases hl : (xs.map readable).length = np
    · exact hl
    · rw [if_neg hl] at hf1; cases hf1
  rw [if_pos hl] at hf1
  rw [List.append_nil]
  exact ⟨R, F1, rs1, _, y, rs', (r.step s1).refl, h1.readable, hl, hf1, fun v F2 H2 s2 h2 => kk v F2 H2 (s1.trans r.row s2) (h2.older fun a q => s1.back r.row q)⟩⟩
/-- the argument addresses -/
def lockOf : List V → List RV → Nat → Option (Addr × List V)
  | _, _, _ => none
theorem start_get {α : Type} {xs : List α} {n i : Nat} {x : α} (h : (xs.map some ++ List.replicate (n - xs.length) none)[i]? = some (some x)) : xs[i]? = some x := by
  by_cases hi : i < xs.length
  · rw [List.getElem?_append_left (by simpa using hi), List.getElem?_map] at h
    cases e : xs[i]? with
    | none => rw [e] at h; cases h
    | some y => rw [e] at h; cases h; rfl
  · rw [List.getElem?_append_right (by simpa using hi), List.getElem?_replicate] at h
    split at h <;> cases h
theorem VRs.get {F H0 H : Hp} : ∀ {vs : List V} {xs : List RV} {i : Nat} {x : RV}, VRs K R F H0 H vs xs → xs[i]? = some x → ∃ v, vs[i]? = some v ∧ VR K R F H0 H v x
  | _, _, _, _, .nil, h => by simp at h
  | _, _, 0, _, .cons h1 _, h => by
    simp at h; subst h
    exact ⟨_, rfl, h1⟩
  | _, _, i + 1, _, .cons _ h2, h => by
    simp at h
    obtain ⟨v, e, r⟩ := VRs.get h2 h
    exact ⟨v, by simpa using e, r⟩
open Classical in
/-- at a def's entry -/
noncomputable def lockL (R : Option Addr) (H : Hp) (vs : List V) (xs : List RV) (i : Nat) : Option (Addr × List V) := match vs[i]?, xs[i]? with
  | some (.ref a), some x => match toK x with
    | .k _ => if some a = R then none else match H a with
      | some (.lst ws) => some (a, ws)
      | _ => none
    | _ => none
  | _, _ => none
open Classical in
theorem lockL_eq {vs : List V} {xs : List RV} {i : Nat} {a : Addr} {x : RV} {ds : List D} {ws : List V} (h1 : vs[i]? = some (.ref a)) (h2 : xs[i]? = some x) (h3 : toK x = .k ds) (h4 : some a ≠ R) (h5 : H a = some (.lst ws)) : lockL R H vs xs i = some (a, ws) := by
  unfold lockL
  rw [h1, h2]
  dsimp only
  rw [h3]
  dsimp only
  rw [if_neg h4, h5]
open Classical in
theorem lockL_inv {vs : List V} {xs : List RV} {i : Nat} {a : Addr} {ws : List V} (h : lockL R H vs xs i = some (a, ws)) : some a ≠ R ∧ H a = some (.lst ws) := by
  unfold lockL at h
  split at h
  · split at h
    · split at h
      · cases h
      · rename_i hR
        split at h
        · rename_i hh
          cases h
          exact ⟨hR, hh⟩
        · cases h
    · cases h
  · cases h
/-- a table's place -/
def tbAt (K : PySem.W.Frag) (a : Addr) : Prop := ∃ q, (a, q) ∈ tabsOf K
theorem RowOk.noTb {F1 H1 : Hp} {rs1 : RS} (r : RowOk K R rs1 F1 H1) {a : Addr} {ws : List V} (h : H1 a = some (.lst ws)) : ¬ tbAt K a := fun ⟨q, z⟩ => by
  obtain ⟨ps, e⟩ := tabs_at r.tab z
  rw [h] at e; cases e
open Classical in
/-- what the entry knows: neither the row nor a table -/
noncomputable def entE (K : PySem.W.Frag) (R : Option Addr) (H : Hp) : Hp := fun a => if some a = R ∨ tbAt K a then none else H a
theorem entE_of {a : Addr} {o : HO} (e : entE K R H a = some o) : some a ≠ R ∧ ¬ tbAt K a ∧ H a = some o := by
  unfold entE at e
  split at e
  · cases e
  · rename_i h
    exact ⟨fun z => h (.inl z), fun z => h (.inr z), e⟩
theorem entE_at {a : Addr} (h1 : some a ≠ R) (h2 : ¬ tbAt K a) : entE K R H a = H a := by
  unfold entE
  exact if_neg fun z => z.elim h1 h2
theorem entE_row {a : Addr} (h : R = some a) : entE K R H a = none := by
  unfold entE
  exact if_pos (.inl h.symm)
open Classical in
theorem Rel.start {N : List Str} {vs : List V} {xs : List RV} (s : Step K R rs F H F H) (h : VRs K R F H H vs xs) : ∃ L, Rel K R L (entE K R H) F (startE N.length xs) (L2.start N vs) rs H := by
  have hl := h.len
  refine ⟨lockL R H vs xs, ?_⟩
  refine ⟨?_, fun a o e => (entE_of e).2.2, fun a o e => .inr fun n z => (entE_of e).2.1 ⟨n, z⟩, s.fin, s.row, fun q e => ⟨entE_row e, s.rF q e⟩, fun i a ws e => ?_, fun i sv e => ?_, fun i j a sv sw e1 _ ox _ _ _ => ?_⟩
  · unfold startE L2.start
    rw [List.length_append, List.length_append, List.length_map, List.length_map, List.length_replicate, List.length_replicate, hl]
  · obtain ⟨h1, h2⟩ := lockL_inv e
    rw [entE_at h1 (s.row.noTb h2)]
    exact h2
  · have hx : ∃ x, xs[i]? = some x ∧ sv = toK x := by
      unfold startE at e
      have : (((xs.map toK).map some) ++ List.replicate (N.length - (xs.map toK).length) none)[i]? = some (some sv) := by
        rw [List.map_map, List.length_map]
        exact e
      have q := start_get this
      rw [List.getElem?_map] at q
      cases q2 : xs[i]? with
      | none => rw [q2] at q; cases q
      | some x => rw [q2] at q; exact ⟨x, rfl, (Option.some.inj q).symm⟩
    obtain ⟨x, hx, rfl⟩ := hx
    obtain ⟨v, hv, q⟩ := h.get hx
    refine ⟨v, ?_, ?_⟩
    · unfold L2.start
      have hi := (List.getElem?_eq_some_iff.mp hv).1
      rw [List.getElem?_append_left (by simpa using hi), List.getElem?_map, hv]
      rfl
    · have lst : ∀ (a : Addr) (ws : List V) (ds : List D), v = .ref a → H a = some (.lst ws) → some a ≠ R → DpAll K F ws ds → toK x = .k ds → SR K R (lockL R H vs xs) (fun a => if some a = R then none else H a) F H i v (.k ds) := fun a ws ds ev h1 h2 h3 ek => by
        subst ev
        exact ⟨a, ws, lockL_eq hv hx ek h2 h1, rfl, h3⟩
      cases x with
      | d y => exact q
      | b ds =>
        obtain ⟨a, ws, ev, h1, h2, h3⟩ := q
        exact lst a ws ds ev h1 h2 h3 rfl
      | n ds =>
        obtain ⟨a, ws, ev, h1, h0, h2, h3, h4⟩ := q
        exact lst a ws ds ev h1 h3 h4 rfl
      | gb _ => exact trivial
      | gn _ => exact trivial
      | row => exact q
  · exfalso
    unfold startE at e1
    have : (((xs.map toK).map some) ++ List.replicate (N.length - (xs.map toK).length) none)[i]? = some (some sv) := by
      rw [List.map_map, List.length_map]
      exact e1
    have q := start_get this
    rw [List.getElem?_map] at q
    cases q2 : xs[i]? with
    | none => rw [q2] at q; cases q
    | some x =>
      rw [q2] at q
      have q3 := Option.some.inj q
      cases x <;> cases q3 <;> exact ox
/-- a def by its body, its code told -/
theorem fun_code {P : Program} {w : World} {mg : Str → Option Value} {base : Heap} {x qual : Str} {st : Stmt} {f : Addr} {fd : FuncData} {N ps : List Str} {k : Nat} {sp : Sp} (Fn : Fun K x qual st f fd) (S : FnScope N ps (defScope st)) (len : ∀ vs H Q E, sp vs H Q E → vs.length = ps.length)
    (go : ∀ (cdv : Value) (A : Around) (outer : List PySem.Env) (s : Shared) (H : Hp) (vs : List V) (Q : VK) (E : XK), fd.code = cdv → Room k (A.deeper (envOfC qual (defScope st) s.heap.objs.size f cdv)) → sp vs H Q E →
      ∃ t, PSs (cxOf CX0 P w K mg base N qual (defScope st) f cdv A outer s H E).nox (defBody st) t ∧ t { nx := fun _ H' => Q .non H', rt := Q } (L2.start N vs) H) : FnOk P w K mg base CX0 (k + 1) f fd ps sp := by
  obtain ⟨c0, d0, kv, dc, pm, an, code, ct, sl, rfl, look, isC⟩ := Fn.ex
  refine fn_of look isC S len fun A outer s H vs Q E room h => ?_
  obtain ⟨t, h1, h2⟩ := go code A outer s H vs Q E rfl room h
  exact ⟨t, h1.nox, h2⟩
/-- THE RULE for a def -/
theorem fn_ok {P : Program} {w : World} {mg : Str → Option Value} {base : Heap} {x qual : Str} {st : Stmt} {f : Addr} {fd : FuncData} {N ps : List Str} {k : Nat} {g : Env → M Out} (Fn : Fun K x qual st f fd) (S : FnScope N ps (defScope st))
    (hbody : ∀ (R : Option Addr) (cdv : Value) (A : Around) (outer : List PySem.Env) (s : Shared) (H : Hp) (E : XK), fd.code = cdv → Room k (A.deeper (envOfC qual (defScope st) s.heap.objs.size f cdv)) →
      ∃ t, DSs (cxOf CX0 P w K mg base N qual (defScope st) f cdv A outer s H E).nox R (defBody st) t g) : FnOk P w K mg base CX0 (k + 1) f fd ps (spFn K ps.length (runDef N.length g)) := by
  refine fun_code Fn S (fun vs H Q E h => ?_) (fun cdv A outer s H vs Q E hcd hr h => ?_)
  · obtain ⟨R, F, rs, xs, x, rs', _, h2, h3, _⟩ := h
    rw [h2.len, h3]
  · obtain ⟨R, F, rs, xs, y, rs', hs, hv, hl, hm, kk⟩ := h
    obtain ⟨t, hb⟩ := hbody R cdv A outer s H E hcd hr
    obtain ⟨L, r⟩ := Rel.start (N := N) hs hv
    have s0 := hs
    refine ⟨t, hb.ps, ?_⟩
    obtain ⟨o, rs1, e1, hf1⟩ := bnd_some hm
    have free : ∀ a, entE K R H a = none → some a ≠ R → ¬ tbAt K a → H a = none := fun a e q t => by rwa [entE_at q t] at e
    have fin : ∀ (v : V) (F1 H1 : Hp) (z : RV), Ret K R rs1 (entE K R H) F F1 H1 v z → y = z → rs1 = rs' → Q v H1 := fun v F1 H1 z q ez er => by
      subst ez er
      refine kk v F1 H1 ⟨fun a o e hR n => ?_, q.fs.sub, fun a o e => ?_, q.fr, q.row, q.rF⟩ ?_
      · by_cases t : tbAt K a
        · obtain ⟨m, t⟩ := t
          obtain ⟨ps, et⟩ := tabs_at s0.row.tab t
          rw [e] at et
          cases et
          rcases n with n | n
          · exact absurd rfl (n ps)
          · exact absurd t (n m)
        · exact q.ex a o (by rw [entE_at hR t]; exact e)
      · rcases q.fs.new a o e with z | ⟨z1, z2⟩
        · exact .inl z
        · refine .inr (free a z1 z2 fun ⟨m, t⟩ => ?_)
          obtain ⟨ps, et⟩ := tabs_at q.row.tab t
          rw [q.fr a o e] at et
          cases et
          rcases q.row.fnt a _ e with n | n
          · exact absurd rfl (n ps)
          · exact absurd t (n m)
      · have hv := q.val
        cases y with
        | d y => exact hv
        | n ds =>
          obtain ⟨a, ws, z1, z2, z3, z4, z5, z6⟩ := hv
          exact ⟨a, ws, z1, z2, free a z3 z5 (q.row.noTb z2), z4, z5, z6⟩
        | gn c =>
          obtain ⟨a, ws, z1, z2, z3, z4, z5, z6⟩ := hv
          exact ⟨a, ws, z1, z2, free a z3 z5 (fun ⟨m, t⟩ => by
            obtain ⟨ps, et⟩ := tabs_at q.row.tab t
            rw [z2] at et
            cases et
            rcases z6.fx with n | n
            · exact absurd rfl (n ps)
            · exact absurd t (n m)), z4, z5, z6⟩
        | b _ => exact hv.elim
        | gb _ => exact hv.elim
        | row => exact hv.elim
    refine hb.sem L _ F _ _ rs H o rs1 _ r e1 ?_
    cases o with
    | nx ρ' =>
      obtain ⟨e2, q2⟩ := ret_some hf1
      exact fun σ' F' H' fs r' => fin .non F' H' (.d .none) ⟨fs, r'.ex, r'.fr, r'.row, fun q e => (r'.rE q e).2, .non⟩ e2.symm q2.symm
    | rt z =>
      obtain ⟨e2, q2⟩ := ret_some hf1
      exact fun v F' H' q => fin v F' H' z q e2.symm q2.symm
    | bk ρ' => cases hf1
    | ct ρ' => cases hf1

/-! ### lists of one's own changed -/
def sApp (i : Nat) (f : Env → M RV) : Env → M Out := fun ρ => bnd (lft (own? ρ i)) fun ds => bnd (f ρ) fun x => bnd (lft (toD x)) fun d => if ds.length < 10000 then ret (.nx (ρ.set i (some (.o (ds ++ [d]))))) else fail
  where own? (ρ : Env) (i : Nat) : Option (List D) := match ρ[i]? with
    | some (some (.o ds)) => some ds
    | _ => none
theorem own_some {ρ : Env} {i : Nat} {ds : List D} (h : sApp.own? ρ i = some ds) : ρ[i]? = some (some (SV.o ds)) := by
  unfold sApp.own? at h
  cases e : ρ[i]? with
  | none => rw [e] at h; cases h
  | some o =>
    cases o with
    | none => rw [e] at h; cases h
    | some sv =>
      rw [e] at h
      cases sv with
      | o es => cases h; rfl
      | d _ => cases h
      | k _ => cases h
      | g _ => cases h
      | un => cases h
      | ex _ _ => cases h
      | fn _ => cases h
      | row => cases h
theorem frozen1 {F1 H1 : Hp} (r : Rel K R L E F ρ σ rs H) (s : Step K R rs' F H F1 H1) {v : V} {x : RV} {d : D} (h : VR K R F1 H H1 v x) (e : toD x = some d) : ∃ F2, Step K R rs' F H F2 H1 ∧ Dp K F2 v d := by
  obtain ⟨F2, h1, h2, _⟩ := freeze1 s r.row (fun a q => q) h e
  exact ⟨F2, h1, h2⟩
theorem ds_append {i : Nat} {x : Str} {e : Expr} {te : TE} {f : Env → M RV} {apos p1 spos : Pos} (he : DE X R e te f) (hN : X.N[i]? = some x := by rfl) (hv : Vis X.env.scope x := by first | exact Or.inl rfl | exact Or.inr (Or.inl rfl) | exact Or.inr (Or.inr rfl)) (hd : (x == ("__debug__" : Str)) = false := by decide)
    (hcd : (x == ("__classdict__" : Str)) = false := by decide) (pe : PE X (.Call (.Attribute (.Name x p1) "append" apos) [e] [] pos) (tBM X.K "list" rAppend (tVar i) (tCons te tNil))) (hs : swapsWith (.Call (.Attribute (.Name x p1) "append" apos) [e] [] pos) none spos.line X.env = pure false := by rfl) :
    DS X R (.Expr (.Call (.Attribute (.Name x p1) "append" apos) [e] [] pos) spos) (tDrop (tBM X.K "list" rAppend (tVar i) (tCons te tNil))) (sApp i f) := ⟨ps_expr pe hs, fun L E F ρ σ rs H o rs' D r hf k => by
  obtain ⟨ds, rs1, e1, hf1⟩ := bnd_some hf
  obtain ⟨e2, q2⟩ := lft_some e1
  subst q2
  obtain ⟨x, rs3, e3, hf3⟩ := bnd_some hf1
  obtain ⟨d, rs4, e4, hf4⟩ := bnd_some hf3
  obtain ⟨e5, q5⟩ := lft_some e4
  subst q5
  by_cases hl : ds.length < 10000
  · rw [if_pos hl] at hf4
    obtain ⟨e6, q6⟩ := ret_some hf4
    subst e6 q6
    have eo := own_some e2
    obtain ⟨v, ev, a, vs, rfl, h1, h2, h3, h4, h5⟩ := r.sl i _ eo
    refine ⟨_, ev, .inl ⟨rfl, vs, .inl (.inl h1)⟩, ?_⟩
    refine he.sem L E ρ σ F H _ x _ _ r e3 fun w F1 H1 s1 hw => ?_
    obtain ⟨F2, s2, hd2⟩ := frozen1 r s1 hw e5
    have r2 := r.step s2
    obtain ⟨v', ev', a', vs', ea, k1, k2, k3, k4, k5⟩ := r2.sl i _ eo
    rw [ev] at ev'
    cases ev'
    cases ea
    refine ⟨a, vs', w, rfl, rfl, k1, by rw [k5.len]; exact sz_lt hl, ?_⟩
    exact k σ F2 _ (FStep.ofStep r s2) (r2.change eo ev (k5.append (.cons hd2 .nil)))
  · rw [if_neg hl] at hf4
    cases hf4⟩
/-- x[k] = e -/
def sPut (i : Nat) (f g : Env → M RV) : Env → M Out := fun ρ => bnd (f ρ) fun x => bnd (lft (sApp.own? ρ i)) fun ds => bnd (g ρ) fun y => bnd (lft (asInt y)) fun j => bnd (lft (toD x)) fun d => bnd (lft (ixN ds.length j)) fun m => ret (.nx (ρ.set i (some (.o (ds.set m d)))))
theorem ds_put {i : Nat} {x : Str} {ei e : Expr} {te ti : TE} {f g : Env → M RV} {p1 spos : Pos} (he : DE X R e te f) (hi : DE X R ei ti g) (hN : X.N[i]? = some x := by rfl) (hv : Vis X.env.scope x := by first | exact Or.inl rfl | exact Or.inr (Or.inl rfl) | exact Or.inr (Or.inr rfl)) (hd : (x == ("__debug__" : Str)) = false := by decide)
    (hcd : (x == ("__classdict__" : Str)) = false := by decide) (hpg : PG X (.Subscript (.Name x p1) ei pos) (gSub (tVar i) ti rSetL)) (hs : swapsWithSole [.Subscript (.Name x p1) ei pos] e spos.line X.env = pure false := by rfl) (hw : swappedStores [.Subscript (.Name x p1) ei pos] e X.env = pure none := by rfl)
    (h1 : (assignEach [.Subscript (.Name x p1) ei pos] X.env).map (·.2) = [assign (.Subscript (.Name x p1) ei pos) X.env] := by rfl) : DS X R (.Assign [.Subscript (.Name x p1) ei pos] e spos) (tAsg te (gSub (tVar i) ti rSetL)) (sPut i f g) := ⟨ps_asg he.pe hpg hs hw h1, fun L E F ρ σ rs H o rs' D r hf k => by
  obtain ⟨x, rs1, e1, hf1⟩ := bnd_some hf
  obtain ⟨ds, rs2, e2, hf2⟩ := bnd_some hf1
  obtain ⟨e2', q2⟩ := lft_some e2
  subst q2
  obtain ⟨y, rs3, e3, hf3⟩ := bnd_some hf2
  obtain ⟨j, rs4, e4, hf4⟩ := bnd_some hf3
  obtain ⟨e4', q4⟩ := lft_some e4
  subst q4
  obtain ⟨d, rs5, e5, hf5⟩ := bnd_some hf4
  obtain ⟨e5', q5⟩ := lft_some e5
  subst q5
  obtain ⟨m, rs6, e6, hf6⟩ := bnd_some hf5
  obtain ⟨e6', q6⟩ := lft_some e6
  obtain ⟨e7, q7⟩ := ret_some hf6
  subst e7 q7 q6
  refine he.sem L E ρ σ F H _ x _ _ r e1 fun w F1 H1 s1 hw => ?_
  obtain ⟨F2, s2, hd2⟩ := frozen1 r s1 hw e5'
  have r2 := r.step s2
  have eo := own_some e2'
  obtain ⟨v, ev, _⟩ := r.sl i _ eo
  refine ⟨v, ev, ?_⟩
  refine hi.sem L E ρ σ F2 H1 _ y _ _ r2 e3 fun u F3 H3 s3 hu => ?_
  have hu' := hu.int e4'
  subst hu'
  have r3 := r2.step s3
  obtain ⟨v', ev', a', vs', ea, k1, k2, k3, k4, k5⟩ := r3.sl i _ eo
  rw [ev] at ev'
  cases ev'
  subst ea
  refine ⟨a', vs', j, m, rfl, rfl, k1, by rw [k5.len]; exact e6', ?_⟩
  exact k σ F3 _ (FStep.ofStep r (s2.trans r.row s3)) (r3.change eo ev (DpAll.set m k5 (Dp.mono s3.sub _ _ hd2)))⟩
end
end DV

/-! DV: orders of data -/
namespace DV
open PySem L2 LamX PyProof.Rows PySem.Spec PySem.W
section
variable {K : PySem.W.Frag}
/-- xs in the order of their keys -/
def byKeys (rev : Bool) (xs : List V) (kz : List D) : List V := ((xs.zip kz).mergeSort (dataLe rev fun p => p.2)).map (·.1)
theorem each_zip : ∀ {xs : List V} {its : List Value} {kz : List D}, Vals xs its → kz.length = xs.length → EachIs (fun v (p : V × D) => L2.RelV p.1 v) its (xs.zip kz)
  | _, _, _, .nil, _ => .nil
  | _ :: _, _ :: _, [], .cons _ _, h => by simp at h
  | _ :: _, _ :: _, k :: kz, .cons r t, h => .cons r (each_zip t (by simpa using h))
theorem vals_each : ∀ {its : List Value} {ps : List (V × D)}, EachIs (fun v (p : V × D) => L2.RelV p.1 v) its ps → Vals (ps.map (·.1)) its
  | _, _, .nil => .nil
  | _, _, .cons r t => .cons r (vals_each t)
theorem zip_snd : ∀ {xs : List V} {kz : List D}, kz.length = xs.length → (xs.zip kz).map (·.2) = kz
  | [], [], _ => rfl
  | [], _ :: _, h => by simp at h
  | _ :: _, [], h => by simp at h
  | x :: xs, k :: kz, h => by
    rw [List.zip_cons_cons, List.map_cons, zip_snd (by simpa using h)]
def isTupNe : D → Bool
  | .tuple (_ :: _) => true
  | _ => false
def isPlain : D → Bool
  | .none => false
  | .tuple _ => false
  | _ => true
def okKeys (kz : List D) : Bool := kz.all (fun x => kz.all (alike x)) && ((kz.all isTupNe || kz.all isPlain) && kz.all fun d => decide (d.depth ≤ 60))
theorem okKeys_of {kz : List D} (h : okKeys kz = true) : AllAlike kz ∧ Sortable kz ∧ ∀ d, d ∈ kz → d.depth ≤ 60 := by
  unfold okKeys at h
  simp only [Bool.and_eq_true, Bool.or_eq_true, List.all_eq_true, decide_eq_true_eq] at h
  obtain ⟨h1, h2, h3⟩ := h
  refine ⟨fun x hx y hy => h1 x hx y hy, ?_, h3⟩
  rcases h2 with h2 | h2
  · refine .inl fun d hd => ?_
    have z := h2 d hd
    match d, z with
    | .tuple (x :: r), _ => exact ⟨x, r, rfl⟩
  · refine .inr fun d hd => ⟨fun z => ?_, fun xs z => ?_⟩
    · have y := h2 d hd
      rw [z] at y
      cases y
    · have y := h2 d hd
      rw [z] at y
      cases y
/-- the items in the order of their keys -/
def sortK (its kz : List D) : List D := ((its.zip kz).mergeSort fun p q => !dataLt q.2 p.2).map (·.1)
theorem sortK_data {F : Hp} {xs : List V} {its kz : List D} (h : DpAll K F xs its) (hl : kz.length = xs.length) : DpAll K F (byKeys false xs kz) (sortK its kz) := by
  have hz : ∀ (xs : List V) (its kz : List D), DpAll K F xs its → kz.length = xs.length → ∃ Z : List (V × D × D), (∀ z ∈ Z, Dp K F z.1 z.2.1) ∧ Z.map (fun z => (z.1, z.2.2)) = xs.zip kz ∧ Z.map (fun z => z.2) = its.zip kz := fun xs => by
    induction xs with
    | nil =>
      intro its kz h hl
      cases h
      have : kz = [] := List.eq_nil_of_length_eq_zero hl
      subst this
      exact ⟨[], fun _ h => (nomatch h), rfl, rfl⟩
    | cons x xs ih =>
      intro its kz h hl
      cases h with
      | cons h1 h2 =>
        rename_i dd dds
        cases kz with
        | nil => simp at hl
        | cons k kz =>
          obtain ⟨Z, a1, a2, a3⟩ := ih _ kz h2 (by simpa using hl)
          refine ⟨(x, dd, k) :: Z, fun z hz => ?_, ?_, ?_⟩
          · rcases List.mem_cons.mp hz with e | e
            · subst e; exact h1
            · exact a1 z e
          · rw [List.map_cons, a2]; rfl
          · rw [List.map_cons, a3]; rfl
  obtain ⟨Z, a1, a2, a3⟩ := hz xs its kz h hl
  have e1 : byKeys false xs kz = (Z.mergeSort fun p q => !dataLt q.2.2 p.2.2).map (·.1) := by
    unfold byKeys
    rw [← a2, ← List.map_mergeSort (r := fun p q : V × D × D => !dataLt q.2.2 p.2.2) (f := fun z : V × D × D => (z.1, z.2.2)) (fun _ _ _ _ => rfl), List.map_map]
    rfl
  have e2 : sortK its kz = (Z.mergeSort fun p q => !dataLt q.2.2 p.2.2).map fun z => z.2.1 := by
    unfold sortK
    rw [← a3, ← List.map_mergeSort (r := fun p q : V × D × D => !dataLt q.2.2 p.2.2) (f := fun z : V × D × D => z.2) (fun _ _ _ _ => rfl), List.map_map]
    rfl
  rw [e1, e2]
  have go : ∀ Z2 : List (V × D × D), (∀ z ∈ Z2, Dp K F z.1 z.2.1) → DpAll K F (Z2.map (·.1)) (Z2.map fun z => z.2.1) := fun Z2 => by
    induction Z2 with
    | nil => exact fun _ => .nil
    | cons z Z2 ih => exact fun h => .cons (h z List.mem_cons_self) (ih fun y hy => h y (List.mem_cons_of_mem _ hy))
  exact go _ fun z hz2 => a1 z (List.mem_mergeSort.mp hz2)
end
theorem zip_self_snd : ∀ xs : List D, (xs.zip xs).map (·.2) = xs
  | [] => rfl
  | x :: xs => by rw [List.zip_cons_cons, List.map_cons, zip_self_snd xs]
section
variable {prog : Program} {w : World} {A : Around} {E : Value → Shared → Prop} {s : Shared} {β : Type} {vs : List Value} {bs : List β} {R : Value → β → Prop} {enc : β → PyData}
/-- sorted of a tuple of data -/
theorem sorted_dataT {l : Addr} {Q : Value → Shared → Prop} (hl : s.heap.IsTuple l vs.toArray) (hz : vs.length ≤ sizeLine) (e : EachIs R vs bs) (er : EachIs (fun v b => ∃ as, Reads s.heap v (enc b) as) vs bs) (hal : AllAlike (bs.map enc)) (hk : Sortable (bs.map enc))
    (hu : ∀ b, b ∈ bs → A.units + 2 + (enc b).depth < cLine)
    (h : ∀ (out : List Value) (h' : Heap) (p : Addr), out.length = bs.length → EachIs R out (bs.mergeSort (dataLe false enc)) → (∀ b o, s.heap.get? b = some o → b < p ∧ h'.get? b = some o) → (∃ e, h'.get? p = some (seqObj "list" out.toArray e)) → Q (.ref p) { s with heap := h' }) :
    wpAny (model prog w) A (call (.builtin "sorted") [.ref l]) Q E s := by
  refine Calls.call_function_entry kind_sorted plain_sorted entry_sorted (args_sorted1 _) ?_
  unfold Builtin.«sorted»
  refine wpAny_bind (m := checkCount "sorted" 1 1 _) (wpAny_pure ?_)
  obtain ⟨o, ho, hc, n, hd⟩ := hl
  refine wpAny_bind (wpAny_collect_seq l (.inr rfl) ho hc hd (fun h' k => ?_) (by simpa using hz))
  refine wpAny_bind (wpAny_newList ?_ hz)
  have hoL : (h'.push (seqObj "list" vs.toArray 0)).get? h'.objs.size = some (seqObj "list" vs.toArray 0) := Heap.get?_push_size _ rfl
  have keep : ∀ b u, s.heap.get? b = some u → b < h'.objs.size ∧ (h'.push (seqObj "list" vs.toArray 0)).get? b = some u := fun b u q => ⟨Heap.lt_size (k b u q), Heap.get?_push_of_some _ (k b u q)⟩
  show wpAny _ _ _ _ _ { s with heap := h'.push (seqObj "list" vs.toArray 0) }
  have er' : EachIs (fun v b => ∃ as, Reads (sortingHeap (h'.push (seqObj "list" vs.toArray 0)) h'.objs.size vs) v (enc b) as) vs bs := er.mono fun _ _ ⟨as, r⟩ => ⟨as, PyProof.Rows.Reads.keeps (fun b u q => sortingHeap_old (Nat.ne_of_lt (keep b u q).1) (keep b u q).2) r⟩
  refine wpAny_bind (wpAny_holding (wpAny_call_entry slot_list_sort ⟨_, hoL, rfl⟩ entry_list_sort (list_sort_vals (κ := dataKind (sortingHeap (h'.push (seqObj "list" vs.toArray 0)) h'.objs.size vs) (bs.map enc)) hoL (SortsAt.data (s := { s with heap := sortingHeap (h'.push (seqObj "list" vs.toArray 0)) h'.objs.size vs }) (each_map (R := fun v d => ∃ as, Reads (sortingHeap (h'.push (seqObj "list" vs.toArray 0)) h'.objs.size vs) v d as) enc er') hal hk (bound_map hu)) hz ⟨_, rfl, ?_⟩) (args_list_sort _)))
  refine wpAny_pure ⟨_, rfl, ?_⟩
  refine h _ _ h'.objs.size (by rw [sortVals_length false rfl]; exact e.length) (sortVals_data false e er' hal) (fun b u q => ⟨(keep b u q).1, ?_⟩) (sortedHeap_at (n := 0) hoL)
  have hlt := (keep b u q).1
  rw [sortedHeap_old (Nat.ne_of_lt hlt) (by rw [size_push']; exact Nat.lt_succ_of_lt hlt)]
  exact (keep b u q).2
end
end DV

/-! DV: sorted, len of a set, ranges as lists, min and max, more statements -/
namespace SrtO
open PySem PyProof.Rows Srt
section
variable {prog : Program} {w : World} {A : Around} {E : Value → Shared → Prop} {s : Shared}
/-- sorted of a tuple -/
theorem sorted_ordT {l : Addr} {vs : List Value} {ltv : Value → Value → Bool} {Q : Value → Shared → Prop} (O : Swo ltv) (hl : s.heap.IsTuple l vs.toArray) (hz : vs.length ≤ sizeLine)
    (hS : 2 ≤ vs.length → ∀ (h₁ : Heap) (a : Addr), h₁.get? a = some (seqObj "list" vs.toArray 0) → SortableO prog w A.in1.in1 { s with heap := h₁ } a vs ltv)
    (h : ∀ (out : List Value) (h' : Heap) (p : Addr), Srtd ltv out → Stb ltv out vs → (∀ b o, s.heap.get? b = some o → b < p ∧ h'.get? b = some o) → (∃ e, h'.get? p = some (seqObj "list" out.toArray e)) → Q (.ref p) { s with heap := h' }) :
    wpAny (model prog w) A (call (.builtin "sorted") [.ref l]) Q E s := by
  refine Calls.call_function_entry kind_sorted plain_sorted entry_sorted (args_sorted1 _) ?_
  unfold Builtin.«sorted»
  refine wpAny_bind (m := checkCount "sorted" 1 1 _) (wpAny_pure ?_)
  obtain ⟨o, ho, hc, n, hd⟩ := hl
  refine wpAny_bind (wpAny_collect_seq l (.inr rfl) ho hc hd (fun h' k => ?_) (by simpa using hz))
  refine wpAny_bind (wpAny_newList ?_ hz)
  have hoL : (h'.push (seqObj "list" vs.toArray 0)).get? h'.objs.size = some (seqObj "list" vs.toArray 0) := Heap.get?_push_size _ rfl
  have keep : ∀ b u, s.heap.get? b = some u → b < h'.objs.size ∧ (h'.push (seqObj "list" vs.toArray 0)).get? b = some u := fun b u q => ⟨Heap.lt_size (k b u q), Heap.get?_push_of_some _ (k b u q)⟩
  show wpAny _ _ _ _ _ { s with heap := h'.push (seqObj "list" vs.toArray 0) }
  refine wpAny_bind (wpAny_holding (wpAny_call_entry slot_list_sort ⟨_, hoL, rfl⟩ entry_list_sort (list_sort_ord O hoL hz (fun h2 => hS h2 _ _ hoL) fun out hs hb => ⟨_, rfl, ?_⟩) (args_list_sort _)))
  refine wpAny_pure ⟨_, rfl, ?_⟩
  refine h out _ h'.objs.size hs hb (fun b u q => ⟨(keep b u q).1, ?_⟩) (sortedHeap_at (n := 0) hoL)
  have hlt := (keep b u q).1
  rw [sortedHeap_old (Nat.ne_of_lt hlt) (by rw [size_push']; exact Nat.lt_succ_of_lt hlt)]
  exact (keep b u q).2
end
end SrtO
namespace DV
open PySem L2 PyProof.Rows
/-! ### sorted ints -/
def insI (x : Int) : List Int → List Int
  | [] => [x]
  | y :: r => if x ≤ y then x :: y :: r else y :: insI x r
def sortI : List Int → List Int
  | [] => []
  | x :: r => insI x (sortI r)
theorem insI_perm (x : Int) : ∀ l, (insI x l).Perm (x :: l)
  | [] => .refl _
  | y :: r => by
    unfold insI
    split
    · exact .refl _
    · exact ((insI_perm x r).cons y).trans (.swap x y r)
theorem sortI_perm : ∀ l, (sortI l).Perm l
  | [] => .refl _
  | x :: r => (insI_perm x _).trans ((sortI_perm r).cons x)
theorem insI_sorted (x : Int) : ∀ l : List Int, l.Pairwise (· ≤ ·) → (insI x l).Pairwise (· ≤ ·)
  | [], _ => List.pairwise_singleton _ _
  | y :: r, h => by
    unfold insI
    obtain ⟨h1, h2⟩ := List.pairwise_cons.mp h
    split
    · rename_i e
      refine List.pairwise_cons.mpr ⟨fun z hz => ?_, h⟩
      rcases List.mem_cons.mp hz with q | q
      · subst q; exact e
      · exact Int.le_trans e (h1 z q)
    · rename_i e
      refine List.pairwise_cons.mpr ⟨fun z hz => ?_, insI_sorted x r h2⟩
      rcases List.mem_cons.mp ((insI_perm x r).mem_iff.mp hz) with q | q
      · subst q; omega
      · exact h1 z q
theorem sortI_sorted : ∀ l : List Int, (sortI l).Pairwise (· ≤ ·)
  | [] => .nil
  | x :: r => insI_sorted x _ (sortI_sorted r)
theorem sorted_uniq : ∀ {xs ys : List Int}, xs.Perm ys → xs.Pairwise (· ≤ ·) → ys.Pairwise (· ≤ ·) → xs = ys
  | [], ys, h, _, _ => h.nil_eq
  | x :: xs, [], h, _, _ => absurd h.length_eq (by simp)
  | x :: xs, y :: ys, h, hx, hy => by
    obtain ⟨a1, a2⟩ := List.pairwise_cons.mp hx
    obtain ⟨b1, b2⟩ := List.pairwise_cons.mp hy
    have e : x = y := by
      have h1 : x ≤ y := by
        rcases List.mem_cons.mp (h.mem_iff.mpr List.mem_cons_self) with q | q
        · omega
        · exact a1 _ q
      have h2 : y ≤ x := by
        rcases List.mem_cons.mp (h.mem_iff.mp List.mem_cons_self) with q | q
        · omega
        · exact b1 _ q
      omega
    subst e
    rw [sorted_uniq (List.perm_cons _ |>.mp h) a2 b2]
def rSortA0 (K : PySem.W.Frag) : List V → Hp → VK → Prop := fun vs H Q => ∃ (a : Addr) (ns : List Int), vs = [V.ref a] ∧ (SqL K H a (ns.map V.int) ∨ SqT K H a (ns.map V.int)) ∧
  ∀ p : Addr, H p = none → Q (.ref p) (upd H p (.lst ((sortI ns).map V.int)))
theorem cr_sortA0 {X : Cx} : CallR X (.builtin "sorted") (rSortA0 X.K) := by
  intro pins s σ H vs us Q I r h
  obtain ⟨a, ns, rfl, hs, q⟩ := h
  rcases hs with hs | hs
  · exact cr_sortedI pins s σ H [V.ref a] us Q I r ⟨a, ns, rfl, hs, fun ns' p h1 h2 hp => by
      have e : ns' = sortI ns := sorted_uniq (h1.trans (sortI_perm ns).symm) h2 (sortI_sorted ns)
      rw [e]
      exact q p hp⟩
  · obtain ⟨its, rv, hl, hz⟩ := I.tuple hs
    rw [Vals.ref1 r]
    have hi := rv.ints
    refine SrtO.sorted_ordT SrtO.swo_int hl (by rw [← rv.length]; exact hz) (fun h2 h₁ a' _ => SrtO.ints_sortable hi h2) fun out h' p h1 h2 kp ⟨e, he⟩ => ?_
    obtain ⟨k1, k2, k3⟩ := SrtO.ints_out hi h1 h2
    have e : out.map SrtO.iv = sortI ns := sorted_uniq (k2.trans (sortI_perm ns).symm) k3 (sortI_sorted ns)
    rw [e] at k1 k2
    have hlen : ((sortI ns).map V.int).length ≤ sizeLine := by
      rw [List.length_map, k2.length_eq]
      rw [List.length_map] at hz
      exact hz
    have hg : s.heap.get? p = none := by
      cases q : s.heap.get? p with
      | none => rfl
      | some u => exact absurd (kp p u q).1 (Nat.lt_irrefl _)
    have hn := I.hok.gone hg
    exact ⟨.ref p, upd H p (.lst ((sortI ns).map V.int)), I.laidN (t' := s.toks) (fun b o e => (kp b o e).2) hg hn ⟨hlen, out, _, vals_of_ints k1, he⟩, rfl, q _ hn⟩
/-- data of one kind -/
def rSortD (K : PySem.W.Frag) : List V → Hp → VK → Prop := fun vs H Q => ∃ (a : Addr) (xs : List V) (ds : List D), vs = [V.ref a] ∧ (SqL K H a xs ∨ SqT K H a xs) ∧ DpAll K H xs ds ∧ PySem.W.AllAlike ds ∧ PySem.W.Sortable ds ∧ (∀ d, d ∈ ds → d.depth ≤ 60) ∧
  ∀ p : Addr, H p = none → Q (.ref p) (upd H p (.lst (byKeys false xs ds)))
section
open PySem.Spec PySem.W
theorem cr_sortD {X : Cx} (hu : X.A.units + 65 < cLine) : CallR X (.builtin "sorted") (rSortD X.K) := by
  intro pins s σ H vs us Q I r h
  obtain ⟨a, xs, ds, rfl, hs, hd, hal, hk, hdp, q⟩ := h
  rw [Vals.ref1 r]
  have go : ∀ its : List Value, Vals xs its → ∃ bs : List (V × D), bs = xs.zip ds ∧ bs.map (·.2) = ds ∧ EachIs (fun v (p : V × D) => L2.RelV p.1 v) its bs ∧ EachIs (fun v (p : V × D) => ∃ as, Reads s.heap v p.2 as) its bs := fun its rv => by
    refine ⟨_, rfl, zip_snd hd.len.symm, each_zip rv hd.len.symm, ?_⟩
    have z : ∀ {xs : List V} {its : List Value} {ds : List D}, Vals xs its → DpAll X.K H xs ds → EachIs (fun v (p : V × D) => ∃ as, Reads s.heap v p.2 as) its (xs.zip ds) := fun {xs} => by
      induction xs with
      | nil => intro its ds rv hd; cases rv; exact .nil
      | cons x xs ih =>
        intro its ds rv hd
        cases rv with
        | cons r1 r2 =>
          cases hd with
          | cons h1 h2 => exact .cons (Dp.reads I _ _ _ h1 r1) (ih r2 h2)
    exact z rv hd
  rcases hs with hs | hs
  · obtain ⟨its, rv, hl, hz⟩ := I.list hs
    obtain ⟨bs, e1, e2, h1, h2⟩ := go its rv
    have hlb : bs.length ≤ sizeLine := by rw [← h1.length, ← rv.length]; exact hz
    refine sorted_data (enc := fun p : V × D => p.2) hl.isList h1 h2 (by rw [e2]; exact hal) (by rw [e2]; exact hk) hlb (fun b hb => ?_) fun out ho eo => ?_
    · have := hdp b.2 (by rw [← e2]; exact List.mem_map.mpr ⟨b, hb, rfl⟩)
      omega
    · obtain ⟨ep, he'⟩ := PyProof.Rows.sortedAll_at s.heap its (List.toArray out)
      have hv := vals_each eo
      have eb : (bs.mergeSort (dataLe false fun p : V × D => p.2)).map (·.1) = byKeys false xs ds := by unfold byKeys; rw [e1]
      rw [eb] at hv
      have hlen : (byKeys false xs ds).length ≤ sizeLine := by rw [hv.length, ho]; exact hlb
      exact ⟨.ref _, upd H (s.heap.objs.size + 1) (.lst (byKeys false xs ds)), I.laid (t' := s.toks) (fun _ _ => PyProof.Rows.sortedAll_old) (Nat.le_succ _) ⟨hlen, out, ep, hv, he'⟩, rfl, q _ (I.hok.fresh (Nat.le_succ _))⟩
  · obtain ⟨its, rv, hl, hz⟩ := I.tuple hs
    obtain ⟨bs, e1, e2, h1, h2⟩ := go its rv
    have hlb : bs.length ≤ sizeLine := by rw [← h1.length, ← rv.length]; exact hz
    refine sorted_dataT (enc := fun p : V × D => p.2) hl (by rw [← rv.length]; exact hz) h1 h2 (by rw [e2]; exact hal) (by rw [e2]; exact hk) (fun b hb => ?_) fun out h' p ho eo kp ⟨e, he⟩ => ?_
    · have := hdp b.2 (by rw [← e2]; exact List.mem_map.mpr ⟨b, hb, rfl⟩)
      omega
    · have hv := vals_each eo
      have eb : (bs.mergeSort (dataLe false fun p : V × D => p.2)).map (·.1) = byKeys false xs ds := by unfold byKeys; rw [e1]
      rw [eb] at hv
      have hlen : (byKeys false xs ds).length ≤ sizeLine := by rw [hv.length, ho]; exact hlb
      have hg : s.heap.get? p = none := by
        cases q : s.heap.get? p with
        | none => rfl
        | some u => exact absurd (kp p u q).1 (Nat.lt_irrefl _)
      have hn := I.hok.gone hg
      exact ⟨.ref p, upd H p (.lst (byKeys false xs ds)), I.laidN (t' := s.toks) (fun b o e => (kp b o e).2) hg hn ⟨hlen, out, _, hv, he⟩, rfl, q _ hn⟩
end
def rSortA (K : PySem.W.Frag) : List V → Hp → VK → Prop := fun vs H Q => rSortA0 K vs H Q ∨ rSortD K vs H Q
theorem cr_sortA {X : Cx} (hu : X.A.units + 65 < cLine) : CallR X (.builtin "sorted") (rSortA X.K) := by
  intro pins s σ H vs us Q I r h
  rcases h with h | h
  · exact cr_sortA0 pins s σ H vs us Q I r h
  · exact cr_sortD hu pins s σ H vs us Q I r h
section
variable {K : PySem.W.Frag} {R : Option Addr}
def gSort : List RV → Option RV := c1 fun x => match items x with
  | some ds => match intsOf ds with
    | some js => some (.n ((sortI js).map PyData.int))
    | none => if okKeys ds = true then some (.n (sortK ds ds)) else none
  | none => none
theorem csem_sort : CSem K R (rSortA K) gSort := fun F H0 H rs vs xs z Q s hv e kk => by
  obtain ⟨x, rfl, ee⟩ := c1_some e
  clear e
  have e := ee
  clear ee
  obtain ⟨v, rfl, hx⟩ := hv.one
  cases e1 : items x with
  | none => rw [e1] at e; cases e
  | some ds =>
    simp only [e1] at e
    cases e2 : intsOf ds with
    | none =>
      rw [e2] at e
      by_cases hok : okKeys ds = true
      · simp only [hok, if_true] at e
        cases e
        obtain ⟨a, ws, rfl, h1, h2⟩ := hx.items s e1
        obtain ⟨k1, k2, k3⟩ := okKeys_of hok
        refine .inr ⟨a, ws, ds, rfl, h1, Dp.monoA s.fin _ _ h2, k1, k2, k3, fun l hl => ?_⟩
        obtain ⟨s4, hF, hR⟩ := Step.new_lst (vs := byKeys false ws ds) s hl
        exact kk _ F _ s4 ⟨l, _, rfl, upd_same, hl, hF, hR, sortK_data h2 h2.len.symm⟩
      · simp only [hok] at e
        cases e
    | some js =>
      rw [e2] at e
      cases e
      obtain ⟨a, ws, rfl, h1, h2⟩ := hx.items s e1
      have hw := h2.intsV e2
      subst hw
      refine .inl ⟨a, js, rfl, h1, fun l hl => ?_⟩
      obtain ⟨s4, hF, hR⟩ := Step.new_lst (vs := (sortI js).map V.int) s hl
      exact kk _ F _ s4 ⟨l, _, rfl, upd_same, hl, hF, hR, DpAll.ofInts _⟩
end
end DV

/-! DV: more expressions and statements -/
namespace DV
open PySem L2 PyProof.Rows
section
variable {X : Cx} {K : PySem.W.Frag} {R : Option Addr} {L : Nat → Option (Addr × List V)} {E F F' H H' : Hp} {ρ ρ' : Env} {σ σ' : L2.St} {rs rs' : RS}
variable {S S' : List Nat} {tg it elt e e2 c : Expr} {es ifs : List Expr} {g : TG} {gs : TGs} {hg : D → Env → Option Env} {hgs : List D → Env → Option Env} {pos p : Pos} {st : Stmt} {body : List Stmt} {tb : TS} {tt : TT} {te t1 t2 : TE} {ta : TA} {wi : TI}
/-! name = [..] -/
theorem ssem_set {i : Nat} {f : Env → M RV} (he : ESem K R te f) : SSem K R (tAsg te (gName i)) (sSet i f) := fun L E F ρ σ rs H o rs' D r hf k => by
  obtain ⟨x, rs1, e1, hf1⟩ := bnd_some hf
  obtain ⟨sv, rs2, e2, hf2⟩ := bnd_some hf1
  obtain ⟨e3, q3⟩ := lft_some e2
  obtain ⟨e4, q4⟩ := ret_some hf2
  subst e4 q4 q3
  exact he L E ρ σ F H rs x _ _ r e1 fun v F1 H1 s1 h1 => k _ F1 H1 (FStep.ofStep r s1) (Rel.store r s1 h1 e3 i)
theorem ds_setLc {i : Nat} {y : Str} {py spos : Pos} {scope : Scope} {own : List (Str × Nat)} {fi : Env → M (List D × Option Nat)} {tst : Env → M Bool} {el : Env → M RV} (hc : X.calm = true) (hN : X.N.Nodup) (hy : X.N[i]? = some y) (hyl : X.env.scope.names.lookup y = some .local)
    (hsw : swapsWith (.ListComp elt [⟨tg, it, ifs, 0⟩] scope pos) (some (.Name y py)) spos.line X.env = pure true) (hi : DI X R tg it wi fi) (ok : BlkOk X.N X.env.scope scope own) (hS : ∀ i ∈ S, i ∈ own.map (·.2))
    (hg' : ∀ (s : Shared) (H : Hp) (C : Addr) (cl : List (Str × Addr)) (fp : List Addr), DG (X.blk s H scope (compEnvC scope cl C X.env) fp) R S tg g hg) (ht : ∀ (s : Shared) (H : Hp) (C : Addr) (cl : List (Str × Addr)) (fp : List Addr), DTs (X.blk s H scope (compEnvC scope cl C X.env) fp) R ifs tt tst)
    (he : ∀ (s : Shared) (H : Hp) (C : Addr) (cl : List (Str × Addr)) (fp : List Addr), DE (X.blk s H scope (compEnvC scope cl C X.env) fp) R elt te el) (hs : ∀ x, foldedSetIterable it X.env x = pure x := by intro _; rfl) :
    DS X R (.Assign [.Name y py] (.ListComp elt [⟨tg, it, ifs, 0⟩] scope pos) spos) (tAsg (tLc wi g tt te (own.map (·.2))) (gName i)) (sSet i (eLc fi (own.map (·.2)) hg tst el)) :=
  ⟨ps_setLc hc hN hy hyl hsw hi.pi ok (fun s H C cl fp => (hg' s H C cl fp).pg) (fun s H C cl fp => (ht s H C cl fp).pt) (fun s H C cl fp => (he s H C cl fp).pe) hs,
    ssem_set (esem_lc hi.sem (hg' {} (fun _ => none) 0 [] []).sem hS (ht {} (fun _ => none) 0 [] []).sem (he {} (fun _ => none) 0 [] []).sem)⟩
/-! ranges as lists -/
theorem rg_data {F : Hp} (lo : Int) : ∀ n : Nat, DpAll K F ((List.range n).map fun i => V.int (lo + (i : Nat))) (rngD lo n) := fun n => by
  have go : ∀ (n : Nat) (lo : Int), DpAll K F ((List.range n).map fun i => V.int (lo + (i : Nat))) (rngD lo n) := fun n => by
    induction n with
    | zero => exact fun lo => .nil
    | succ n ih =>
      intro lo
      rw [List.range_succ_eq_map, List.map_cons, List.map_map]
      have e : (fun i : Nat => V.int (lo + (i : Nat))) ∘ Nat.succ = fun i : Nat => V.int ((lo + 1) + (i : Nat)) := by
        funext i
        show V.int (lo + ((i + 1 : Nat) : Int)) = _
        congr 1
        omega
      rw [e]
      show DpAll K F (V.int (lo + ((0 : Nat) : Int)) :: _) (.int lo :: rngD (lo + 1) n)
      refine .cons ?_ (ih (lo + 1))
      have z : lo + ((0 : Nat) : Int) = lo := by omega
      rw [z]
      exact .int lo
  exact go n lo
def RgSem (K : PySem.W.Frag) (R : Option Addr) (t : L2.St → Hp → (Int → Int → Hp → Prop) → Prop) (f : Env → M (Int × Int)) : Prop :=
  ∀ (L : Nat → Option (Addr × List V)) (E : Hp) (ρ : Env) (σ : L2.St) (F H : Hp) (rs : RS) (x : Int × Int) (rs' : RS) (Q : Int → Int → Hp → Prop), Rel K R L E F ρ σ rs H → f ρ rs = some (x, rs') →
    (∀ F' H', Step K R rs' F H F' H' → Q x.1 x.2 H') → t σ H Q
structure DRg (X : Cx) (R : Option Addr) (e : Expr) (t : L2.St → Hp → (Int → Int → Hp → Prop) → Prop) (f : Env → M (Int × Int)) : Prop where
  pr : PRg X e t
  sem : RgSem X.K R t f
def rg1F (f : Env → M RV) : Env → M (Int × Int) := fun ρ => bnd (f ρ) fun x => bnd (lft (asInt x)) fun n => ret (0, n)
def rg2F (f g : Env → M RV) : Env → M (Int × Int) := fun ρ => bnd (f ρ) fun x => bnd (lft (asInt x)) fun a => bnd (g ρ) fun y => bnd (lft (asInt y)) fun b => ret (a, b)
theorem drg_1 {f : Env → M RV} (hgl : Gl X "range") (hm : X.mg "range" = none) (h : DE X R e te f) (hs : starEach [e] X.env = (false, eval e X.env) :: starEach [] X.env := by rfl) : DRg X R (.Call (.Name "range" p) [e] [] pos) (tRg1 te) (rg1F f) :=
  ⟨prg_1 hgl hm h.pe hs, fun L E ρ σ F H rs x rs' Q r hf k => by
    obtain ⟨v, rs1, e1, hf1⟩ := bnd_some hf
    obtain ⟨n, rs2, e2, hf2⟩ := bnd_some hf1
    obtain ⟨e3, q3⟩ := lft_some e2
    obtain ⟨e4, q4⟩ := ret_some hf2
    subst e4 q4 q3
    exact h.sem L E ρ σ F H rs v _ _ r e1 fun v1 F1 H1 s1 h1 => ⟨n, h1.int e3, k F1 H1 s1⟩⟩
theorem drg_2 {f g : Env → M RV} (hgl : Gl X "range") (hm : X.mg "range" = none) (h : DE X R e t1 f) (h2 : DE X R e2 t2 g) (hs : starEach [e, e2] X.env = (false, eval e X.env) :: starEach [e2] X.env := by rfl) (hs2 : starEach [e2] X.env = (false, eval e2 X.env) :: starEach [] X.env := by rfl)
    (hp : (backTo pos (starEach [e2] X.env)).any (·.1) = false := by rfl) : DRg X R (.Call (.Name "range" p) [e, e2] [] pos) (tRg2 t1 t2) (rg2F f g) :=
  ⟨prg_2 hgl hm h.pe h2.pe hs hs2 hp, fun L E ρ σ F H rs x rs' Q r hf k => by
    obtain ⟨v, rs1, e1, hf1⟩ := bnd_some hf
    obtain ⟨n, rs2, e2, hf2⟩ := bnd_some hf1
    obtain ⟨e3, q3⟩ := lft_some e2
    obtain ⟨w, rs4, e5, hf5⟩ := bnd_some hf2
    obtain ⟨m, rs6, e6, hf6⟩ := bnd_some hf5
    obtain ⟨e7, q7⟩ := lft_some e6
    obtain ⟨e4, q4⟩ := ret_some hf6
    subst e4 q4 q7 q3
    refine h.sem L E ρ σ F H rs v _ _ r e1 fun v1 F1 H1 s1 h1 => ?_
    refine h2.sem L E ρ σ F1 H1 _ w _ _ (r.step s1) e5 fun v2 F2 H2 s2 h2 => ?_
    exact ⟨n, m, h1.int e3, h2.int e7, k F2 H2 (s1.trans r.row s2)⟩⟩
def okRg (a b : Int) : Bool := decide (-1000000 ≤ a) && (decide (a ≤ 1000000) && (decide (-1000000 ≤ b) && decide (b ≤ 1000000)))
theorem okRg_of {a b : Int} (h : okRg a b = true) : RgOk a b := by
  unfold okRg at h
  simp only [Bool.and_eq_true, decide_eq_true_eq] at h
  obtain ⟨h1, h2, h3, h4⟩ := h
  refine ⟨by omega, by omega, by omega, by omega, ?_⟩
  have : (2 : Nat) ^ 24 = 16777216 := by decide
  omega
def eListRg (f : Env → M (Int × Int)) : Env → M RV := fun ρ => bnd (f ρ) fun x => if okRg x.1 x.2 = true then ret (.n (rngD x.1 (x.2 - x.1).toNat)) else fail
def eTupRg (f : Env → M (Int × Int)) : Env → M RV := fun ρ => bnd (f ρ) fun x => if okRg x.1 x.2 = true then ret (.d (.tuple (rngD x.1 (x.2 - x.1).toNat))) else fail
theorem de_listRg {t : L2.St → Hp → (Int → Int → Hp → Prop) → Prop} {f : Env → M (Int × Int)} (hc : X.calm = true) (hgl : Gl X "list") (hm : X.mg "list" = none) (h : DRg X R e t f) (na : starEach [e] X.env = (false, eval e X.env) :: starEach [] X.env := by rfl) : DE X R (.Call (.Name "list" p) [e] [] pos) (tLstRg t) (eListRg f) :=
  ⟨pe_listRg hc hgl hm h.pr na, fun L E ρ σ F H rs x rs' Q r hf k => by
    obtain ⟨v, rs1, e1, hf1⟩ := bnd_some hf
    by_cases hb : okRg v.1 v.2 = true
    · rw [if_pos hb] at hf1
      obtain ⟨e4, q4⟩ := ret_some hf1
      subst e4 q4
      refine h.sem L E ρ σ F H rs v _ _ r e1 fun F1 H1 s1 => ⟨okRg_of hb, fun q hq => ?_⟩
      obtain ⟨s2, hF, hR⟩ := Step.new_lst (vs := rgV v.1 v.2) (r.step s1).refl hq
      exact k _ F1 _ (s1.trans r.row s2) ⟨q, _, rfl, upd_same, s1.back r.row hq, hF, hR, rg_data _ _⟩
    · rw [if_neg hb] at hf1
      cases hf1⟩
theorem de_tupRg {t : L2.St → Hp → (Int → Int → Hp → Prop) → Prop} {f : Env → M (Int × Int)} (hc : X.calm = true) (hgl : Gl X "tuple") (hm : X.mg "tuple" = none) (h : DRg X R e t f) (na : starEach [e] X.env = (false, eval e X.env) :: starEach [] X.env := by rfl) : DE X R (.Call (.Name "tuple" p) [e] [] pos) (tTupRg t) (eTupRg f) :=
  ⟨pe_tupRg hc hgl hm h.pr na, fun L E ρ σ F H rs x rs' Q r hf k => by
    obtain ⟨v, rs1, e1, hf1⟩ := bnd_some hf
    by_cases hb : okRg v.1 v.2 = true
    · rw [if_pos hb] at hf1
      obtain ⟨e4, q4⟩ := ret_some hf1
      subst e4 q4
      refine h.sem L E ρ σ F H rs v _ _ r e1 fun F1 H1 s1 => ⟨okRg_of hb, fun q hq => ?_⟩
      have s2 := Step.new_tup (vs := rgV v.1 v.2) (r.step s1).refl hq
      exact k _ _ _ (s1.trans r.row s2) (.tup (.inl (.inl upd_same)) (rg_data _ _))
    · rw [if_neg hb] at hf1
      cases hf1⟩
end
end DV

namespace L2
open PySem
theorem DpAll.eraseIdx {K : PySem.W.Frag} {F : Hp} (n : Nat) {vs : List V} {ds : List PyData} (h : DpAll K F vs ds) : DpAll K F (vs.eraseIdx n) (ds.eraseIdx n) := by
  rw [List.eraseIdx_eq_take_drop_succ, List.eraseIdx_eq_take_drop_succ]
  exact DpAll.append (h.take n) (h.drop (n + 1))
end L2
namespace DV
open PySem L2 PyProof.Rows
section
variable {X : Cx} {K : PySem.W.Frag} {R : Option Addr} {L : Nat → Option (Addr × List V)} {E F F' H H' : Hp} {ρ ρ' : Env} {σ σ' : L2.St} {rs rs' : RS}
variable {S S' : List Nat} {tg it elt e e2 c : Expr} {es ifs : List Expr} {g : TG} {gs : TGs} {hg : D → Env → Option Env} {hgs : List D → Env → Option Env} {pos p : Pos} {st : Stmt} {body : List Stmt} {tb : TS} {tt : TT} {te t1 t2 : TE} {ta : TA} {wi : TI}
/-! x.append(y.pop(e)) -/
def popIx (es : List D) (n : Int) : Option (Nat × D) := if -1000000 ≤ n ∧ n ≤ 1000000 then (match seqIndex? n es.length with
  | some k => (es[k]?).map fun y => (k, y)
  | none => none) else none
theorem popIx_some {es : List D} {n : Int} {k : Nat} {y : D} (h : popIx es n = some (k, y)) : -(2 ^ 63) ≤ n ∧ n < 2 ^ 63 ∧ seqIndex? n es.length = some k ∧ es[k]? = some y := by
  unfold popIx at h
  by_cases hb : -1000000 ≤ n ∧ n ≤ 1000000
  · rw [if_pos hb] at h
    cases e : seqIndex? n es.length with
    | none => rw [e] at h; cases h
    | some j =>
      simp only [e] at h
      cases e2 : es[j]? with
      | none => rw [e2] at h; cases h
      | some z =>
        rw [e2] at h
        cases h
        exact ⟨by omega, by omega, rfl, e2⟩
  · rw [if_neg hb] at h
    cases h
def sPopApp (i j : Nat) (f : Env → M RV) : Env → M Out := fun ρ => bnd (lft (sApp.own? ρ i)) fun ds => bnd (lft (sApp.own? ρ j)) fun es => bnd (f ρ) fun x => bnd (lft (asInt x)) fun n => bnd (lft (popIx es n)) fun kk =>
  if ds.length < 10000 ∧ i ≠ j then ret (.nx ((ρ.set j (some (.o (es.eraseIdx kk.1)))).set i (some (.o (ds ++ [kk.2]))))) else fail
theorem ssem_popApp {i j : Nat} {f : Env → M RV} (he : ESem K R te f) : SSem K R (tDrop (tBM K "list" rAppend (tVar i) (tCons (tBM K "list" rPopAt (tVar j) (tCons te tNil)) tNil))) (sPopApp i j f) := fun L E F ρ σ rs H o rs' D r hf k => by
  obtain ⟨ds, rs1, e1, hf1⟩ := bnd_some hf
  obtain ⟨e2, q2⟩ := lft_some e1
  subst q2
  obtain ⟨es, rs3, e3, hf3⟩ := bnd_some hf1
  obtain ⟨e4, q4⟩ := lft_some e3
  subst q4
  obtain ⟨x, rs5, e5, hf5⟩ := bnd_some hf3
  obtain ⟨n, rs6, e6, hf6⟩ := bnd_some hf5
  obtain ⟨e7, q7⟩ := lft_some e6
  subst q7
  obtain ⟨⟨kk, y⟩, rs8, e8, hf8⟩ := bnd_some hf6
  obtain ⟨e9, q9⟩ := lft_some e8
  subst q9
  by_cases hl : ds.length < 10000 ∧ i ≠ j
  · rw [if_pos hl] at hf8
    obtain ⟨e10, q10⟩ := ret_some hf8
    subst e10 q10
    have eoi := own_some e2
    have eoj := own_some e4
    obtain ⟨b1, b2, b3, b4⟩ := popIx_some e9
    obtain ⟨v, evi, a, vs, rfl, h1, _⟩ := r.sl i _ eoi
    obtain ⟨v2, evj, b, ws, rfl, g1, _⟩ := r.sl j _ eoj
    refine ⟨_, evi, .inl ⟨rfl, vs, .inl (.inl h1)⟩, ?_⟩
    refine ⟨_, evj, .inl ⟨rfl, ws, .inl (.inl g1)⟩, ?_⟩
    refine he L E ρ σ F H _ x _ _ r e5 fun w F1 H1 s1 hw => ?_
    have hwi := hw.int e7
    subst hwi
    have r1 := r.step s1
    obtain ⟨v', ev', b', ws', eb, k1, k2, k3, k4, k5⟩ := r1.sl j _ eoj
    rw [evj] at ev'
    cases ev'
    cases eb
    obtain ⟨yv, ey, hy⟩ := k5.get b4
    refine ⟨b, ws', n, kk, yv, rfl, rfl, k1, b1, b2, by rw [k5.len]; exact b3, ey, ?_⟩
    have r2 := r1.change eoj evj (DpAll.eraseIdx kk k5)
    have eoi2 : (ρ.set j (some (SV.o (es.eraseIdx kk))))[i]? = some (some (SV.o ds)) := by
      rw [List.getElem?_set_ne (Ne.symm hl.2)]
      exact eoi
    obtain ⟨v3, ev3, a', vs', ea, m1, m2, m3, m4, m5⟩ := r2.sl i _ eoi2
    rw [evi] at ev3
    cases ev3
    cases ea
    refine ⟨a, vs', yv, rfl, rfl, m1, by rw [m5.len]; exact sz_lt hl.1, ?_⟩
    exact k σ F1 _ (FStep.ofStep r s1) (r2.change eoi2 evi (m5.append (.cons hy .nil)))
  · rw [if_neg hl] at hf8
    cases hf8
theorem ds_popApp {i j : Nat} {f : Env → M RV} (he : ESem X.K R te f) (pe : PE X e (tBM X.K "list" rAppend (tVar i) (tCons (tBM X.K "list" rPopAt (tVar j) (tCons te tNil)) tNil))) (hs : swapsWith e none pos.line X.env = pure false := by rfl) :
    DS X R (.Expr e pos) (tDrop (tBM X.K "list" rAppend (tVar i) (tCons (tBM X.K "list" rPopAt (tVar j) (tCons te tNil)) tNil))) (sPopApp i j f) := ⟨ps_expr pe hs, ssem_popApp he⟩
/-! isinstance(x, (T1, T2)) -/
def eIsT2 (T1 T2 : TyT) (f : Env → M RV) : Env → M RV := fun ρ => bnd (f ρ) fun x => bnd (lft (viewD x)) fun d => ret (.d (.bool (isT T1 d || isT T2 d)))
theorem de_isT2 (T1 T2 : TyT) {x1 x2 : Str} {p1 p2 p3 : Pos} {kk : Nat} (hg : Gl X "isinstance") (hm : X.mg "isinstance" = none) (hg1 : Gl X x1) (hm1 : X.mg x1 = none) (hT1 : bootBuiltins x1 = some (.type T1.nm)) (hg2 : Gl X x2) (hm2 : X.mg x2 = none) (hT2 : bootBuiltins x2 = some (.type T2.nm)) (he : DE X R e te f)
    (hn1 : x1 ≠ "__name__" := by decide) (hdb1 : (x1 == ("__debug__" : Str)) = false := by decide) (hn2 : x2 ≠ "__name__" := by decide) (hdb2 : (x2 == ("__debug__" : Str)) = false := by decide)
    (he1 : starEach [e, .Tuple [.Name x1 p1, .Name x2 p2] kk p3] X.env = (false, eval e X.env) :: starEach [.Tuple [.Name x1 p1, .Name x2 p2] kk p3] X.env := by rfl) (he2 : starEach [.Tuple [.Name x1 p1, .Name x2 p2] kk p3] X.env = (false, eval (.Tuple [.Name x1 p1, .Name x2 p2] kk p3) X.env) :: starEach [] X.env := by rfl) (hpl : (backTo pos (starEach [.Tuple [.Name x1 p1, .Name x2 p2] kk p3] X.env)).any (·.1) = false := by rfl)
    (hi1 : starEach [.Name x1 p1, .Name x2 p2] X.env = (false, eval (.Name x1 p1) X.env) :: starEach [.Name x2 p2] X.env := by rfl) (hi2 : starEach [.Name x2 p2] X.env = (false, eval (.Name x2 p2) X.env) :: starEach [] X.env := by rfl) :
    DE X R (.Call (.Name "isinstance" p) [e, .Tuple [.Name x1 p1, .Name x2 p2] kk p3] [] pos) (tCB (rIsiT X.K) (tCons te (tCons (tTup (tCons (tC (.ty T1.nm)) (tCons (tC (.ty T2.nm)) tNil))) tNil))) (eIsT2 T1 T2 f) :=
  ⟨pe_callB call_isiT hg hm PyProof.Rows.boot_isinstance (pa_cons he.pe (pa_cons (pe_tup (pa_cons (pe_bltn hg1 hm1 hT1 rfl hn1 hdb1) (pa_cons (pe_bltn hg2 hm2 hT2 rfl hn2 hdb2) pa_nil hi2) hi1)) pa_nil he2) he1) (by decide) (by decide) he1 hpl, fun L E ρ σ F H rs z rs' Q r hf k => by
    obtain ⟨v, rs1, e1, hf1⟩ := bnd_some hf
    obtain ⟨d, rs2, e2, hf2⟩ := bnd_some hf1
    obtain ⟨e3, q3⟩ := lft_some e2
    obtain ⟨e4, q4⟩ := ret_some hf2
    subst e4 q4 q3
    refine he.sem L E ρ σ F H rs v _ _ r e1 fun v1 F1 H1 s1 h1 => ?_
    refine ⟨by show 2 ≤ sizeLine; exact sz_of (by decide), fun tp htp => ?_⟩
    have s2 := Step.new_tup (vs := [.ty T1.nm, .ty T2.nm]) (r.step s1).refl htp
    have h2 := h1.step s2
    refine ⟨v1, tp, [.ty T1.nm, .ty T2.nm], .type (tyD d), [.type T1.nm, .type T2.nm], _, rfl, upd_same, .cons (.ty _) (.cons (.ty _) .nil), dptyx (h2.view ((r.step s1).step s2).refl e3), ?_, k _ _ _ (s1.trans r.row s2) (.bl _)⟩
    refine kitAny_cons (kit_ty (kit_isT T1 d)) (fun q1 => ?_) (fun q1 => by rw [q1]; rfl)
    rw [q1]
    refine kitAny_cons (kit_ty (kit_isT T2 d)) (fun q2 => ?_) (fun q2 => by rw [q2]; rfl)
    rw [q2]
    exact kitAny_nil⟩
end
end DV

/-! DV: len of a set, min and max of data, three names at once -/
namespace DV
open PySem L2 PyProof.Rows PySem.W
section
variable {X : Cx} {K : PySem.W.Frag} {R : Option Addr} {L : Nat → Option (Addr × List V)} {E F F' H H' : Hp} {ρ ρ' : Env} {σ σ' : L2.St} {rs rs' : RS}
variable {S S' : List Nat} {tg it elt e e2 c : Expr} {es ifs : List Expr} {g : TG} {gs : TGs} {hg : D → Env → Option Env} {hgs : List D → Env → Option Env} {pos p : Pos} {st : Stmt} {body : List Stmt} {tb : TS} {tt : TT} {te t1 t2 : TE} {ta : TA} {wi : TI}
/-! min, max -/
def alikeB (ds : List D) : Bool := ds.all (fun x => ds.all (alike x)) && (ds.all (fun x => !isNoneD x) && decide (PyData.depthAll ds ≤ 60))
theorem alikeB_of {ds : List D} (h : alikeB ds = true) : AlikeAll ds ∧ PyData.depthAll ds ≤ 60 := by
  unfold alikeB at h
  simp only [Bool.and_eq_true, decide_eq_true_eq, List.all_eq_true] at h
  obtain ⟨h1, h2, h3⟩ := h
  refine ⟨⟨fun x hx y hy => h1 x hx y hy, fun x hx e => ?_⟩, h3⟩
  have := h2 x hx
  rw [e] at this
  cases this
theorem foldl_pick (f : D → D → Bool) : ∀ (xs : List D) (x : D), xs.foldl (fun a y => if f a y = true then y else a) x ∈ x :: xs
  | [], x => List.mem_cons_self
  | y :: ys, x => by
    rw [List.foldl_cons]
    have q := foldl_pick f ys (if f x y = true then y else x)
    rcases List.mem_cons.mp q with z | z
    · rw [z]
      by_cases hb : f x y = true
      · rw [if_pos hb]; exact List.mem_cons_of_mem _ List.mem_cons_self
      · rw [if_neg hb]; exact List.mem_cons_self
    · exact List.mem_cons_of_mem _ (List.mem_cons_of_mem _ z)
theorem minD_mem (x : D) (xs : List D) : minD x xs ∈ x :: xs := foldl_pick (fun a y => dataLt y a) xs x
theorem maxD_mem (x : D) (xs : List D) : maxD x xs ∈ x :: xs := foldl_pick (fun a y => dataLt a y) xs x
def rBest (K : PySem.W.Frag) (m : D → List D → D) : List V → Hp → VK → Prop := fun vs H Q => ∃ (a : Addr) (ys : List V) (x : D) (xs : List D), vs = [V.ref a] ∧ (SqL K H a ys ∨ SqT K H a ys) ∧ DpAll K H ys (x :: xs) ∧ alikeB (x :: xs) = true ∧
  ∀ (i : Nat) (u : V), ys[i]? = some u → (x :: xs)[i]? = some (m x xs) → Q u H
theorem ReadsAll_get {h : Heap} : ∀ {vs : List Value} {xs : List PyData} {as : List Addr}, ReadsAll h vs xs as → ∀ (i : Nat) (v : Value), vs[i]? = some v → ∃ d bs, xs[i]? = some d ∧ Reads h v d bs
  | _, _, _, .nil, _, _, hv => by simp at hv
  | _, _, _, .cons r rs, 0, v, hv => by
    simp at hv; subst hv
    exact ⟨_, _, rfl, r⟩
  | _, _, _, .cons r rs, i + 1, v, hv => by
    obtain ⟨d, bs, a, b⟩ := ReadsAll_get rs i v (by simpa using hv)
    exact ⟨d, bs, by simpa using a, b⟩
theorem Vals_get : ∀ {ys : List V} {us : List Value}, Vals ys us → ∀ (i : Nat) (u : Value), us[i]? = some u → ∃ y, ys[i]? = some y ∧ RelV y u
  | _, _, .nil, _, _, h => by simp at h
  | _, _, .cons r t, 0, u, h => by
    simp at h; subst h
    exact ⟨_, rfl, r⟩
  | _, _, .cons r t, i + 1, u, h => by
    obtain ⟨y, a, b⟩ := Vals_get t i u (by simpa using h)
    exact ⟨y, by simpa using a, b⟩
theorem best_fin {X : Cx} {pins : List (Addr × Obj)} {s : Shared} {σ : L2.St} {H : Hp} {Q : VK} (I : Inv X pins σ H s) {ys : List V} {x z : D} {xs : List D} {its : List Value} {as : List Addr} (rv : Vals ys its) (hr : ReadsAll s.heap its (x :: xs) as) (ha : AlikeAll (x :: xs)) (hz : z ∈ x :: xs)
    (q : ∀ (i : Nat) (u : V), ys[i]? = some u → (x :: xs)[i]? = some z → Q u H) (i : Nat) (v : Value) (h' : Heap) (tk : Nat) (bs : List Addr) (hv : its.toArray[i]? = some v) (hrd : Reads h' v z bs) (k : ∀ b o, s.heap.get? b = some o → h'.get? b = some o) :
    EP X pins σ Q v { s with heap := h', toks := tk } := by
  rw [List.getElem?_toArray] at hv
  obtain ⟨d, cs, e1, r1⟩ := ReadsAll_get hr i v hv
  obtain ⟨u, e2, r2⟩ := Vals_get rv i v hv
  have hd : d ∈ x :: xs := List.mem_of_getElem? e1
  have e3 := alike_unique d z v cs bs (ha.1 d hd z hz) (reads_keeps k r1) hrd
  subst e3
  exact ⟨u, H, I.kept k, r2, q i u e2 e1⟩
theorem cr_minA (hc : X.calm = true) (hu : X.A.units + 65 < cLine) : CallR X (.builtin "min") (rBest X.K minD) := by
  intro pins s σ H vs us Q I r h
  obtain ⟨a, ys, x, xs, rfl, hs, hd, hal, q⟩ := h
  obtain ⟨ha, hdp⟩ := alikeB_of hal
  rw [Vals.ref1 r]
  rcases hs with hs | hs
  · obtain ⟨its, rv, hl, hz⟩ := I.list hs
    obtain ⟨as, hr⟩ := Dp.readsAll I _ ys its hd rv
    exact min_list_data (x := x) (xs := xs) (I.ok.hd hc) hl.isList (by simpa using hr) ha (by omega) fun i v h' tk bs hv hrd k => best_fin I rv hr ha (minD_mem x xs) q i v h' tk bs hv hrd k
  · obtain ⟨its, rv, hl, hz⟩ := I.tuple hs
    obtain ⟨as, hr⟩ := Dp.readsAll I _ ys its hd rv
    exact min_tuple_data (x := x) (xs := xs) (I.ok.hd hc) hl (by simpa using hr) ha (by omega) fun i v h' tk bs hv hrd k => best_fin I rv hr ha (minD_mem x xs) q i v h' tk bs hv hrd k
theorem cr_maxA (hc : X.calm = true) (hu : X.A.units + 65 < cLine) : CallR X (.builtin "max") (rBest X.K maxD) := by
  intro pins s σ H vs us Q I r h
  obtain ⟨a, ys, x, xs, rfl, hs, hd, hal, q⟩ := h
  obtain ⟨ha, hdp⟩ := alikeB_of hal
  rw [Vals.ref1 r]
  rcases hs with hs | hs
  · obtain ⟨its, rv, hl, hz⟩ := I.list hs
    obtain ⟨as, hr⟩ := Dp.readsAll I _ ys its hd rv
    exact max_list_data (x := x) (xs := xs) (I.ok.hd hc) hl.isList (by simpa using hr) ha (by omega) fun i v h' tk bs hv hrd k => best_fin I rv hr ha (maxD_mem x xs) q i v h' tk bs hv hrd k
  · obtain ⟨its, rv, hl, hz⟩ := I.tuple hs
    obtain ⟨as, hr⟩ := Dp.readsAll I _ ys its hd rv
    exact max_tuple_data (x := x) (xs := xs) (I.ok.hd hc) hl (by simpa using hr) ha (by omega) fun i v h' tk bs hv hrd k => best_fin I rv hr ha (maxD_mem x xs) q i v h' tk bs hv hrd k
def gBest (m : D → List D → D) : List RV → Option RV := c1 fun x => match items x with
  | some (y :: ys) => if alikeB (y :: ys) = true then some (.d (m y ys)) else none
  | _ => none
theorem csem_best {m : D → List D → D} : CSem K R (rBest K m) (gBest m) := fun F H0 H rs vs xs z Q s hv e kk => by
  obtain ⟨x, rfl, ee⟩ := c1_some e
  clear e
  have e := ee
  clear ee
  obtain ⟨v, rfl, hx⟩ := hv.one
  cases e1 : items x with
  | none => rw [e1] at e; cases e
  | some ds =>
    cases ds with
    | nil => rw [e1] at e; cases e
    | cons y ys =>
      simp only [e1] at e
      by_cases hal : alikeB (y :: ys) = true
      · rw [if_pos hal] at e
        cases e
        obtain ⟨a, ws, rfl, h1, h2⟩ := hx.items s e1
        refine ⟨a, ws, y, ys, rfl, h1, Dp.monoA s.fin _ _ h2, hal, fun i u hi hj => ?_⟩
        obtain ⟨u', eu, hu⟩ := h2.get hj
        rw [hi] at eu
        cases eu
        exact kk _ F H s hu
      · rw [if_neg hal] at e
        cases e
abbrev gMin := gBest minD
abbrev gMax := gBest maxD
end
end DV

/-! DV: three names at once, len of a set -/
namespace DV
open PySem L2 PyProof.Rows
section
variable {X : Cx} {K : PySem.W.Frag} {R : Option Addr} {L : Nat → Option (Addr × List V)} {E F F' H H' : Hp} {ρ ρ' : Env} {σ σ' : L2.St} {rs rs' : RS}
variable {S S' : List Nat} {tg it elt e e2 c : Expr} {es ifs : List Expr} {g : TG} {gs : TGs} {hg : D → Env → Option Env} {hgs : List D → Env → Option Env} {pos p : Pos} {st : Stmt} {body : List Stmt} {tb : TS} {tt : TT} {te t1 t2 : TE} {ta : TA} {wi : TI}
/-- the lists of one's own stand already in H -/
def OwnOld (H : Hp) (ρ : Env) (σ : L2.St) : Prop := ∀ (m : Nat) (y : SV) (a : Addr), ρ[m]? = some (some y) → y.ow → σ[m]? = some (some (V.ref a)) → H a ≠ none
theorem Rel.known (r : Rel K R L E F ρ σ rs H) : OwnOld H ρ σ := fun m y a e1 oy e2 => by
  obtain ⟨u, h1, _⟩ := r.own_at e1 oy e2
  rw [h1]
  exact fun q => nomatch q
theorem OwnOld.step (k : OwnOld H ρ σ) (s : Step K R rs' F H F' H') (r : RowOk K R rs F H) : OwnOld H' ρ σ := fun m es a e1 oy e2 q => k m es a e1 oy e2 (s.back r q)
theorem OwnOld.set {H0 : Hp} {F1 : Hp} (k : OwnOld H ρ σ) (hl : ρ.length = σ.length) {v : V} {x : RV} {sv : SV} (hv : VR K R F1 H0 H v x) (e : toS x = some sv) (i : Nat) : OwnOld H (ρ.set i (some sv)) (σ.set i (some v)) := fun m es a e1 oy e2 => by
  by_cases hm : m = i
  · subst hm
    have h1 : m < ρ.length := by
      have := (List.getElem?_eq_some_iff.mp e1).1
      rw [List.length_set] at this
      exact this
    rw [List.getElem?_set_self h1] at e1
    rw [List.getElem?_set_self (by rw [← hl]; exact h1)] at e2
    have q1 := Option.some.inj (Option.some.inj e1)
    have q2 := Option.some.inj (Option.some.inj e2)
    subst q1 q2
    cases x with
    | d y => cases e; cases oy
    | n y =>
      obtain ⟨b, vs, eb, hb, _⟩ := hv
      cases eb
      rw [hb]
      exact fun q => nomatch q
    | gn y =>
      obtain ⟨b, vs, eb, hb, _⟩ := hv
      cases eb
      rw [hb]
      exact fun q => nomatch q
    | b y => cases e
    | gb y => cases e
    | row => cases e
  · rw [List.getElem?_set_ne (Ne.symm hm)] at e1 e2
    exact k m es a e1 oy e2
/-- a new thing is none of the known ones -/
theorem OwnOld.apart (k : OwnOld H ρ σ) {H1 : Hp} {v : V} {i : Nat} (a : Addr) (u : HO) (_ : v = .ref a) (_ : H1 a = some u) (h0 : H a = none) (j : Nat) (y : SV) (_ : j ≠ i) (e1 : ρ[j]? = some (some y)) (oy : y.ow) (e2 : σ[j]? = some (some (V.ref a))) : False := k j y a e1 oy e2 h0
def sPar3 (i j l : Nat) (fa : Env → M (List RV)) : Env → M Out := fun ρ => bnd (fa ρ) fun xs => match xs with
  | [x, y, z] => bnd (lft (toS x)) fun sx => bnd (lft (toS y)) fun sy => bnd (lft (toS z)) fun sz => ret (.nx (((ρ.set i (some sx)).set j (some sy)).set l (some sz)))
  | _ => fail
theorem ds_par3 {i j l : Nat} {x y z : Str} {a b c : Expr} {fa fb fc : Env → M RV} {tA tB tC' : TE} {px py pz pt : Pos} {kt k2 pt2} (hc : X.calm = true) (hN : X.N.Nodup) (hi : X.N[i]? = some x) (hj : X.N[j]? = some y) (hl : X.N[l]? = some z) (hij : i ≠ j) (hil : i ≠ l) (hjl : j ≠ l)
    (hx : X.env.scope.names.lookup x = some .local) (hy : X.env.scope.names.lookup y = some .local) (hz : X.env.scope.names.lookup z = some .local) (ha : DE X R a tA fa) (hb : DE X R b tB fb) (hcc : DE X R c tC' fc)
    (hw : swappedStores [.Tuple [.Name x px, .Name y py, .Name z pz] kt pt] (.Tuple [a, b, c] k2 pt2) X.env = pure (some [x, y, z])) (hs : swapsWithSole [.Tuple [.Name x px, .Name y py, .Name z pz] kt pt] (.Tuple [a, b, c] k2 pt2) pos.line X.env = pure false := by rfl)
    (hq1 : starEach [a, b, c] X.env = (false, eval a X.env) :: starEach [b, c] X.env := by rfl) (hq2 : starEach [b, c] X.env = (false, eval b X.env) :: starEach [c] X.env := by rfl) (hq3 : starEach [c] X.env = (false, eval c X.env) :: starEach [] X.env := by rfl) :
    DS X R (.Assign [.Tuple [.Name x px, .Name y py, .Name z pz] kt pt] (.Tuple [a, b, c] k2 pt2) pos) (tPar3 i j l (tCons tA (tCons tB (tCons tC' tNil)))) (sPar3 i j l (aCons fa (aCons fb (aCons fc aNil)))) :=
  ⟨ps_par3 hc hN hi hj hl hij hil hjl hx hy hz (pa_cons ha.pe (pa_cons hb.pe (pa_cons hcc.pe pa_nil hq3) hq2) hq1) hw hs, fun L E F ρ σ rs H o rs' D r hf k => by
    obtain ⟨xs, rs1, e1, hf1⟩ := bnd_some hf
    obtain ⟨x1, rs2, e2, hf2⟩ := bnd_some e1
    obtain ⟨ys, rs3, e3, hf3⟩ := bnd_some hf2
    obtain ⟨x2, rs4, e4, hf4⟩ := bnd_some e3
    obtain ⟨zs, rs5, e5, hf5⟩ := bnd_some hf4
    obtain ⟨x3, rs6, e6, hf6⟩ := bnd_some e5
    obtain ⟨ws, rs7, e7, hf7⟩ := bnd_some hf6
    obtain ⟨e8, q8⟩ := ret_some e7
    obtain ⟨e9, q9⟩ := ret_some hf7
    obtain ⟨e10, q10⟩ := ret_some hf5
    obtain ⟨e11, q11⟩ := ret_some hf3
    subst e8 q8 e9 q9 e10 q10 e11 q11
    obtain ⟨sx, rs12, e12, hf12⟩ := bnd_some hf1
    obtain ⟨e13, q13⟩ := lft_some e12
    obtain ⟨sy, rs14, e14, hf14⟩ := bnd_some hf12
    obtain ⟨e15, q15⟩ := lft_some e14
    obtain ⟨sz, rs16, e16, hf16⟩ := bnd_some hf14
    obtain ⟨e17, q17⟩ := lft_some e16
    obtain ⟨e18, q18⟩ := ret_some hf16
    subst e18 q18 q17 q15 q13
    refine ha.sem L E ρ σ F H rs x1 rs2 _ r e2 fun v1 F1 H1 s1 h1 => ?_
    have r1 := r.step s1
    refine hb.sem L E ρ σ F1 H1 rs2 x2 _ _ r1 e4 fun v2 F2 H2 s2 h2 => ?_
    have r2 := r1.step s2
    refine hcc.sem L E ρ σ F2 H2 _ x3 _ _ r2 e6 fun v3 F3 H3 s3 h3 => ?_
    refine ⟨v1, v2, v3, rfl, ?_⟩
    have s12 := s1.trans r.row s2
    have s123 := s12.trans r.row s3
    have q1 := Rel.store r s123 ((h1.step s2).step s3) e13 i
    have k1 := (Rel.known r1).set r1.len h1 e13 i
    have q2 := Rel.store2 r1 q1 (h2.step s3) e15 j fun a u ev hl h0 => k1.apart a u ev hl h0
    have k2 : OwnOld H2 ((ρ.set i (some sx)).set j (some sy)) ((σ.set i (some v1)).set j (some v2)) := (k1.step s2 r1.row).set (by rw [List.length_set, List.length_set]; exact r1.len) h2 e15 j
    have q3 := Rel.store2 r2 q2 h3 e17 l fun a u ev hl h0 => k2.apart a u ev hl h0
    exact k _ F3 H3 (FStep.ofStep r s123) q3⟩
end
end DV

/-! DV: len(set(xs)), xs of ints -/
namespace DV
open PySem L2 PyProof.Rows
def ddI : List Int → List Int
  | [] => []
  | x :: r => if r.elem x = true then ddI r else x :: ddI r
theorem mem_ddI (k : Int) : ∀ l : List Int, k ∈ ddI l ↔ k ∈ l
  | [] => Iff.rfl
  | x :: r => by
    unfold ddI
    by_cases h : r.elem x = true
    · rw [if_pos h, mem_ddI k r, List.mem_cons]
      have hx : x ∈ r := List.elem_iff.mp h
      exact ⟨.inr, fun q => q.elim (fun e => e ▸ hx) id⟩
    · rw [if_neg h, List.mem_cons, mem_ddI k r, List.mem_cons]
theorem ddI_nodup : ∀ l : List Int, (ddI l).Nodup
  | [] => .nil
  | x :: r => by
    unfold ddI
    by_cases h : r.elem x = true
    · rw [if_pos h]; exact ddI_nodup r
    · rw [if_neg h]
      exact List.nodup_cons.mpr ⟨fun q => h (List.elem_iff.mpr ((mem_ddI x r).mp q)), ddI_nodup r⟩
theorem ddI_of_nodup : ∀ l : List Int, l.Nodup → ddI l = l
  | [], _ => rfl
  | x :: r, h => by
    obtain ⟨h1, h2⟩ := List.nodup_cons.mp h
    unfold ddI
    rw [if_neg (fun q => h1 (List.elem_iff.mp q)), ddI_of_nodup r h2]
theorem same_len {xs ys : List Int} (h1 : xs.Nodup) (h2 : ys.Nodup) (h : ∀ k, k ∈ xs ↔ k ∈ ys) : xs.length = ys.length :=
  ((List.perm_ext_iff_of_nodup h1 h2).mpr h).length_eq
section
variable {X : Cx} {K : PySem.W.Frag} {R : Option Addr}
def tLenSetA (K : PySem.W.Frag) (ta : TE) : TE := fun σ H Q => ta σ H fun x H1 => ∃ (l : Addr) (ns : List Int), x = .ref l ∧ ((SqL K H1 l (ns.map V.int) ∧ ns.Nodup) ∨ SqT K H1 l (ns.map V.int)) ∧ ns.length ≤ 1000 ∧ Q (.int ((ddI ns).length : Nat)) H1
theorem pe_lenSetA {a : Expr} {ta : TE} {p p2 q pos : Pos} (hc : X.calm = true) (hg : Gl X "len") (hm : X.mg "len" = none) (hg2 : Gl X "set") (hm2 : X.mg "set" = none) (ha : PE X a ta)
    (na : starEach [a] X.env = (false, eval a X.env) :: starEach [] X.env := by rfl) : PE X (.Call (.Name "len" p) [.Call (.Name "set" p2) [a] [] q] [] pos) (tLenSetA X.K ta) := by
  refine ⟨fun pins s σ H Q I h => ?_⟩
  refine Call_ (ld_blt I hg hm boot_len ?_)
  refine PyProof.Rows.callWith_builtin1 (PyProof.Rows.args_cons ?_ rfl) rfl rfl
  refine Call_ (ld_blt I hg2 hm2 PyProof.Rows.boot_set ?_)
  refine PyProof.Rows.callWith_type1 (PyProof.Rows.args_cons (thn (ha.run pins s σ H _ I h) fun v s1 ⟨x, H1, I1, r1, q1⟩ => PyProof.Rows.args_nil ?_) na) na rfl
  obtain ⟨l, ns, rfl, hq, hb, q1⟩ := q1
  cases r1
  rcases hq with ⟨hq, hnd⟩ | hq
  · obtain ⟨its, rv, pl, hz⟩ := I1.list hq
    have hlen : its.toArray.size = ns.length := by rw [List.size_toArray, ← rv.length, List.length_map]
    have hi : IntsAre its.toArray.toList ns := rv.ints
    refine call_set_list (I1.ok.hd hc) pl.isList hi (by rw [hlen]; unfold scanBound; omega) fun h' tk hS hk => ?_
    refine PyProof.Rows.args_nil ?_
    rw [hlen, RZ.firstMet_nodup hnd ns.length (Nat.le_refl _), List.take_length] at hS
    rw [ddI_of_nodup ns hnd] at q1
    obtain ⟨o, es, ep, t, ho, hex, hd, _, _, _, hf, hn⟩ := hS
    have I2 : Inv X pins σ H1 { s1 with heap := h', toks := tk } := I1.kept fun b o e => hk b o (Heap.lt_size e) e
    exact call_len_set ho hex hd hf (by rw [hn]; omega) ⟨.int ns.length, H1, I2.tok _, ⟨_, by rw [hn]⟩, q1⟩
  · obtain ⟨its, rv, pt, hz⟩ := I1.tuple hq
    have hi : IntsAre its.toArray.toList ns := rv.ints
    refine call_set_tupI ns (I1.ok.hd hc) (show s1.heap.IsTuple l its.toArray from pt) hi (by unfold scanBound; omega) fun h' tk c hR hcn hk => ?_
    refine PyProof.Rows.args_nil ?_
    obtain ⟨o, es, ep, t, ho, hex, hd, g, nd, hm2, hb2, hf, hn, hr, hl2⟩ := hR
    have hsz : es.size = (ddI ns).length := by
      have e := same_len nd (ddI_nodup ns) fun k => by
        rw [mem_ddI, ← hm2 k, decide_eq_true_eq]
      rw [List.length_map, Array.length_toList] at e
      exact e
    have I2 : Inv X pins σ H1 { s1 with heap := h', toks := tk } := I1.kept hk
    exact call_len_set ho hex hd hf (by rw [hn]; omega) ⟨.int (ddI ns).length, H1, I2.tok _, ⟨_, by rw [hsz]⟩, q1⟩
def nodupB (js : List Int) : Bool := decide ((ddI js).length = js.length)
def lenSetOf : RV → Option D
  | .d (.tuple ds) => match intsOf ds with
    | some js => if js.length ≤ 1000 then some (.int ((ddI js).length : Nat)) else none
    | none => none
  | x => match items x with
    | some ds => match intsOf ds with
      | some js => if js.length ≤ 1000 ∧ js.Nodup then some (.int ((ddI js).length : Nat)) else none
      | none => none
    | none => none
theorem VR.isL {F H0 H : Hp} {rs : RS} {v : V} {x : RV} {ds : List D} (s : Step K R rs F H F H) (h : VR K R F H0 H v x) (e : DV.items x = some ds) (hx : ∀ es, x ≠ .d (.tuple es)) : ∃ a vs, v = .ref a ∧ SqL K H a vs ∧ DpAll K F vs ds := by
  cases x with
  | d x =>
    cases x with
    | list es =>
      cases e
      cases h with
      | lst h1 h2 => exact ⟨_, _, rfl, ex_l (s.fin _) h1, h2⟩
    | tuple es => exact absurd rfl (hx es)
    | none => cases e
    | bool _ => cases e
    | int _ => cases e
    | str _ => cases e
    | dict _ => cases e
  | b es =>
    cases e
    obtain ⟨a, vs, rfl, h1, _, h3⟩ := h
    exact ⟨a, vs, rfl, .inl (.inl h1), h3⟩
  | n es =>
    cases e
    obtain ⟨a, vs, rfl, h1, _, _, _, h3⟩ := h
    exact ⟨a, vs, rfl, .inl (.inl h1), h3⟩
  | gb _ => cases e
  | gn _ => cases e
  | row => cases e
theorem VR.isTup {F H0 H : Hp} {rs : RS} {v : V} {ds : List D} (s : Step K R rs F H F H) (h : VR K R F H0 H v (.d (.tuple ds))) : ∃ a vs, v = .ref a ∧ SqT K H a vs ∧ DpAll K F vs ds := by
  cases h with
  | tup h1 h2 => exact ⟨_, _, rfl, ex_t (s.fin _) h1, h2⟩
def eLenSet (f : Env → M RV) : Env → M RV := fun ρ => bnd (f ρ) fun x => bnd (lft (lenSetOf x)) fun d => ret (.d d)
theorem de_lenSet {a : Expr} {ta : TE} {f : Env → M RV} {p p2 q pos : Pos} (hc : X.calm = true) (hg : Gl X "len") (hm : X.mg "len" = none) (hg2 : Gl X "set") (hm2 : X.mg "set" = none) (ha : DE X R a ta f)
    (na : starEach [a] X.env = (false, eval a X.env) :: starEach [] X.env := by rfl) : DE X R (.Call (.Name "len" p) [.Call (.Name "set" p2) [a] [] q] [] pos) (tLenSetA X.K ta) (eLenSet f) := ⟨pe_lenSetA hc hg hm hg2 hm2 ha.pe na, fun L E ρ σ F H rs x rs' Q r hf k => by
  obtain ⟨x1, rs1, e1, hf1⟩ := bnd_some hf
  obtain ⟨d, rs2, e2, hf2⟩ := bnd_some hf1
  obtain ⟨e3, q3⟩ := lft_some e2
  obtain ⟨e4, q4⟩ := ret_some hf2
  subst e4 q4 q3
  refine ha.sem L E ρ σ F H rs x1 _ _ r e1 fun v F1 H1 s1 h1 => ?_
  have rf := (r.step s1).refl
  have oth : (∀ es, x1 ≠ .d (.tuple es)) → (match items x1 with
    | some ds => match intsOf ds with
      | some js => if js.length ≤ 1000 ∧ js.Nodup then some (PyData.int ((ddI js).length : Nat)) else none
      | none => none
    | none => none) = some d → ∃ (l : Addr) (ns : List Int), v = .ref l ∧ ((SqL X.K H1 l (ns.map V.int) ∧ ns.Nodup) ∨ SqT X.K H1 l (ns.map V.int)) ∧ ns.length ≤ 1000 ∧ Q (.int ((ddI ns).length : Nat)) H1 := fun hx q => by
    cases e5 : items x1 with
    | none => rw [e5] at q; cases q
    | some ds =>
      simp only [e5] at q
      cases e6 : intsOf ds with
      | none => rw [e6] at q; cases q
      | some js =>
        simp only [e6] at q
        by_cases hb : js.length ≤ 1000 ∧ js.Nodup
        · rw [if_pos hb] at q
          cases q
          obtain ⟨a, ws, rfl, g1, g2⟩ := VR.isL rf h1 e5 hx
          have hw := g2.intsV e6
          subst hw
          exact ⟨a, js, rfl, .inl ⟨g1, hb.2⟩, hb.1, k _ F1 H1 s1 (Dp.int _)⟩
        · rw [if_neg hb] at q
          cases q
  cases x1 with
  | d y =>
    cases y with
    | tuple ds =>
      unfold lenSetOf at e3
      cases e6 : intsOf ds with
      | none => simp only [e6] at e3; cases e3
      | some js =>
        simp only [e6] at e3
        by_cases hb : js.length ≤ 1000
        · rw [if_pos hb] at e3
          cases e3
          obtain ⟨a, ws, rfl, g1, g2⟩ := VR.isTup rf h1
          have hw := g2.intsV e6
          subst hw
          exact ⟨a, js, rfl, .inr g1, hb, k _ F1 H1 s1 (Dp.int _)⟩
        · rw [if_neg hb] at e3
          cases e3
    | list ds => exact oth (fun es q => nomatch q) e3
    | none => exact oth (fun es q => nomatch q) e3
    | bool _ => exact oth (fun es q => nomatch q) e3
    | int _ => exact oth (fun es q => nomatch q) e3
    | str _ => exact oth (fun es q => nomatch q) e3
    | dict _ => exact oth (fun es q => nomatch q) e3
  | b ds => exact oth (fun es q => nomatch q) e3
  | n ds => exact oth (fun es q => nomatch q) e3
  | gb _ => exact oth (fun es q => nomatch q) e3
  | gn _ => exact oth (fun es q => nomatch q) e3
  | row => exact oth (fun es q => nomatch q) e3⟩
end
end DV

/-! DV: sorted(set(xs)), xs a tuple of ints -/
namespace DV
open PySem L2 PyProof.Rows
theorem ddI_len : ∀ l : List Int, (ddI l).length ≤ l.length
  | [] => Nat.le_refl _
  | x :: r => by
    unfold ddI
    have := ddI_len r
    by_cases h : r.elem x = true
    · rw [if_pos h, List.length_cons]
      omega
    · rw [if_neg h, List.length_cons, List.length_cons]
      omega
section
variable {X : Cx} {K : PySem.W.Frag} {R : Option Addr}
def tSortSetA (K : PySem.W.Frag) (ta : TE) : TE := fun σ H Q => ta σ H fun x H1 => ∃ (l : Addr) (ns : List Int), x = .ref l ∧ SqT K H1 l (ns.map V.int) ∧ ns.length < 64 ∧ ∀ p : Addr, H1 p = none → Q (.ref p) (upd H1 p (.lst ((sortI (ddI ns)).map V.int)))
theorem pe_sortSetA {a : Expr} {ta : TE} {p p2 q pos : Pos} (hc : X.calm = true) (hg : Gl X "sorted") (hm : X.mg "sorted" = none) (hg2 : Gl X "set") (hm2 : X.mg "set" = none) (ha : PE X a ta)
    (na : starEach [a] X.env = (false, eval a X.env) :: starEach [] X.env := by rfl) : PE X (.Call (.Name "sorted" p) [.Call (.Name "set" p2) [a] [] q] [] pos) (tSortSetA X.K ta) := by
  refine ⟨fun pins s σ H Q I h => ?_⟩
  refine Call_ (ld_blt I hg hm boot_sorted ?_)
  refine PyProof.Rows.callWith_builtin1 (PyProof.Rows.args_cons ?_ rfl) rfl rfl
  refine Call_ (ld_blt I hg2 hm2 PyProof.Rows.boot_set ?_)
  refine PyProof.Rows.callWith_type1 (PyProof.Rows.args_cons (thn (ha.run pins s σ H _ I h) fun v s1 ⟨x, H1, I1, r1, q1⟩ => PyProof.Rows.args_nil ?_) na) na rfl
  obtain ⟨l, ns, rfl, hq, hb, q1⟩ := q1
  cases r1
  obtain ⟨its, rv, pt, hz⟩ := I1.tuple hq
  have hi : IntsAre its.toArray.toList ns := rv.ints
  refine call_set_tupI ns (I1.ok.hd hc) (show s1.heap.IsTuple l its.toArray from pt) hi (by unfold scanBound; omega) fun h' tk c hR hcn hk => ?_
  refine PyProof.Rows.args_nil ?_
  have I2 : Inv X pins σ H1 { s1 with heap := h', toks := tk } := I1.kept hk
  obtain ⟨s2, hs2⟩ : ∃ s2 : Shared, s2 = { s1 with heap := h', toks := tk } := ⟨_, rfl⟩
  have hR2 : SetR X.w s2.heap s1.heap.objs.size (fun j => decide (j ∈ ns)) c := by rw [hs2]; exact hR
  rw [← hs2] at I2 ⊢
  refine sorted_set hR2 (I2.ok.hd hc) (by omega) fun s' p out c' ns' k g o hp hg3 hi3 hs hm3 hl => ?_
  have e : ns' = sortI (ddI ns) := by
    refine sorted_uniq ((List.perm_ext_iff_of_nodup (hs.imp fun h => Int.ne_of_lt h) ((sortI_perm _).nodup_iff.mpr (ddI_nodup ns))).mpr fun k => ?_) (hs.imp fun h => Int.le_of_lt h) (sortI_sorted _)
    rw [hm3 k, (sortI_perm _).mem_iff, mem_ddI, decide_eq_true_eq]
  subst e
  have hlen : ((sortI (ddI ns)).map V.int).length ≤ sizeLine := by rw [List.length_map, hl, sizeLine_eq]; omega
  have hn : H1 p = none := I2.hok.fresh hp
  have J : Inv X pins σ (upd H1 p (.lst ((sortI (ddI ns)).map V.int))) { s2 with heap := s'.heap, gens := s'.gens, drawn := s'.drawn, toks := s'.toks } :=
    I2.call (ch := []) (Un.laid k hp hn) (I2.hok.laid k hp ⟨hlen, out.toList, c', vals_of_ints hi3, hg3⟩) (by rw [g]; exact I2.bare) (fun _ z => nomatch z)
  have e2 : s' = { s2 with heap := s'.heap, gens := s'.gens, drawn := s'.drawn, toks := s'.toks } := by
    cases s'
    cases s2
    cases o
    rfl
  rw [e2]
  exact ⟨.ref p, _, J, rfl, q1 p hn⟩
def sortSetOf : RV → Option (List Int)
  | .d (.tuple ds) => match intsOf ds with
    | some js => if js.length < 64 then some (sortI (ddI js)) else none
    | none => none
  | _ => none
def eSortSet (f : Env → M RV) : Env → M RV := fun ρ => bnd (f ρ) fun x => bnd (lft (sortSetOf x)) fun js => ret (.n (js.map PyData.int))
theorem de_sortSet {a : Expr} {ta : TE} {f : Env → M RV} {p p2 q pos : Pos} (hc : X.calm = true) (hg : Gl X "sorted") (hm : X.mg "sorted" = none) (hg2 : Gl X "set") (hm2 : X.mg "set" = none) (ha : DE X R a ta f)
    (na : starEach [a] X.env = (false, eval a X.env) :: starEach [] X.env := by rfl) : DE X R (.Call (.Name "sorted" p) [.Call (.Name "set" p2) [a] [] q] [] pos) (tSortSetA X.K ta) (eSortSet f) := ⟨pe_sortSetA hc hg hm hg2 hm2 ha.pe na, fun L E ρ σ F H rs x rs' Q r hf k => by
  obtain ⟨x1, rs1, e1, hf1⟩ := bnd_some hf
  obtain ⟨d, rs2, e2, hf2⟩ := bnd_some hf1
  obtain ⟨e3, q3⟩ := lft_some e2
  obtain ⟨e4, q4⟩ := ret_some hf2
  subst e4 q4 q3
  refine ha.sem L E ρ σ F H rs x1 _ _ r e1 fun v F1 H1 s1 h1 => ?_
  have rf := (r.step s1).refl
  unfold sortSetOf at e3
  split at e3
  · rename_i ds
    split at e3
    · rename_i js e6
      by_cases hb : js.length < 64
      · rw [if_pos hb] at e3
        cases e3
        obtain ⟨a, ws, rfl, g1, g2⟩ := VR.isTup rf h1
        have hw := g2.intsV e6
        subst hw
        refine ⟨a, js, rfl, g1, hb, fun l hl => ?_⟩
        obtain ⟨s4, hF, hR⟩ := Step.new_lst (vs := (sortI (ddI js)).map V.int) rf hl
        exact k _ F1 _ (s1.trans r.row s4) ⟨l, _, rfl, upd_same, s1.back r.row hl, hF, hR, DpAll.ofInts _⟩
      · rw [if_neg hb] at e3
        cases e3
    · cases e3
  · cases e3⟩
end
end DV

/-! DV: names for the printed terms: operations, calls of defs, tuples of new lists -/
namespace DV
open PySem L2 PyProof.Rows
section
variable {X : Cx} {K : PySem.W.Frag} {R : Option Addr} {L : Nat → Option (Addr × List V)} {E F F' H H' : Hp} {ρ ρ' : Env} {σ σ' : L2.St} {rs rs' : RS}
variable {S S' : List Nat} {tg it elt e e2 c : Expr} {es ifs : List Expr} {g : TG} {gs : TGs} {hg : D → Env → Option Env} {hgs : List D → Env → Option Env} {pos p : Pos} {st : Stmt} {body : List Stmt} {tb : TS} {tt : TT} {te t1 t2 : TE} {ta : TA} {wi : TI}
theorem rs_sub : RSem K R (rI0 fun i j => .int (i - j)) gSubI := rsem_I0 fun F i j => .int _
theorem rs_fdiv : RSem K R (rI CDiv fun i j => .int (i / j)) gFdiv := rsem_I cDiv_ok fun F i j => .int _
theorem rs_mod : RSem K R (rI (fun _ j => 0 < j) fun i j => .int (i % j)) gMod := rsem_I (fun i j h => of_decide_eq_true h) fun F i j => .int _
theorem rs_pow : RSem K R (rI CPow fun i j => .int (i ^ j.toNat)) gPow := rsem_I cPow_ok fun F i j => .int _
theorem rs_lt : RSem K R (rI0 fun i j => .bl (decide (i < j))) gLt := rsem_I0 fun F i j => .bl _
theorem rs_le : RSem K R (rI0 fun i j => .bl (decide (i ≤ j))) gLe := rsem_I0 fun F i j => .bl _
theorem rs_gt : RSem K R (rI0 fun i j => .bl (decide (j < i))) gGt := rsem_I0 fun F i j => .bl _
theorem rs_ge : RSem K R (rI0 fun i j => .bl (decide (j ≤ i))) gGe := rsem_I0 fun F i j => .bl _
abbrev gIs := gIsN false
abbrev gIsNot := gIsN true
theorem rm65 {k : Nat} {A : Around} (r : Room k A) : A.units + 65 < cLine := by have := r.un; omega
theorem rm64 {k : Nat} {A : Around} (r : Room k A) : A.units + 64 < cLine := r.units
/-- a def that may be called -/
def Cal (P : Program) (w : World) (K : PySem.W.Frag) (mg : Str → Option Value) (base : Heap) (x : Str) (k : Nat) (ps : List Str) (np : Nat) (m : List RV → M RV) : Prop :=
  ∃ (f : Addr) (fd : FuncData), FnOk P w K mg base CX0 k f fd ps (spFn K np m) ∧ mg x = some (.ref f) ∧ PySem.W.keepIn K (.ref f) = true ∧ Binds K fd ps []
theorem de_call {k : Nat} {ps : List Str} {np : Nat} {m : List RV → M RV} {x : Str} {fa : Env → M (List RV)} {k' : Nat} (C : Cal X.prog X.w X.K X.mg X.base x k ps np m) (hr : Room k' X.A) (hk' : k ≤ k') (hgl : Gl X x) (ha : DA X R (e :: es) ta fa)
    (hdb : (x == ("__debug__" : Str)) = false := by decide) (he : starEach (e :: es) X.env = (false, eval e X.env) :: starEach es X.env := by rfl) (hpl : (backTo pos (starEach es X.env)).any (·.1) = false := by rfl) :
    DE X R (.Call (.Name x p) (e :: es) [] pos) (tCall (spFn X.K np m) [] E0 ta) (eFn (fun xs => if xs.length = np then m xs else fail) fa) := by
  obtain ⟨f, fd, h1, h2, h3, h4⟩ := C
  exact de_fn h1 hr hk' hgl h2 h3 h4 ha hdb he hpl
theorem de_gI {x : Str} {i : Int} (hg : Gl X x) (hm : ∃ tk, X.mg x = some (.int i tk)) (hd : (x == ("__debug__" : Str)) = false := by decide) : DE X R (.Name x pos) (tC (.int i)) (eC (.int i)) := by
  obtain ⟨tk, h⟩ := hm
  exact de_globI hg h hd
theorem fn_none {P : Program} {w : World} {mg : Str → Option Value} {base : Heap} {k : Nat} {f : Addr} {fd : FuncData} {ps : List Str} {np : Nat} : FnOk P w K mg base CX0 k f fd ps (spFn K np fun _ => fail) := by
  have no : ∀ vs H Q E, ¬ spFn K np (fun _ => fail) vs H Q E := fun vs H Q E h => by
    obtain ⟨R, F, rs, xs, x, rs', _, _, _, e, _⟩ := h
    cases e
  exact ⟨fun vs H Q E h => absurd h (no vs H Q E), fun A outer s H args us vs Q E _ _ _ _ h => absurd h (no vs H Q E)⟩
/-! a, b = x, y through a tuple -/
theorem Step.new_o {o : HO} {q : Addr} (s : Step K R rs F H F H) (hp : H q = none) : Step K R rs F H F (upd H q o) := by
  have hr : some q ≠ R := fun z => by
    obtain ⟨a, e, _⟩ := s.row.at_ q z.symm
    rw [hp] at e; cases e
  refine ⟨fun a u h _ _ => by rw [upd_ne (ne_of_none h hp)]; exact h, fun _ _ h => h, fun _ _ h => .inl h, fun a u h => by rw [upd_ne (ne_of_none (s.fin a u h) hp)]; exact s.fin a u h, ⟨fun r e => ?_, tabs_upd s.row.tab (.inl hp), s.row.fnt⟩, s.rF⟩
  obtain ⟨a, e1, h1, h3⟩ := s.row.at_ r e
  exact ⟨a, by rw [upd_ne (ne_of_none e1 hp)]; exact e1, h1, h3⟩
theorem ds_tup2L {i j : Nat} {x y : Str} {a b : Expr} {fa fb : Env → M RV} {tA tB : TE} {px py pt : Pos} {kt k2 pt2} (hc : X.calm = true) (hN : X.N.Nodup) (hi : X.N[i]? = some x) (hj : X.N[j]? = some y)
    (hx : Loc X.env.scope x) (hy : Loc X.env.scope y) (ha : DE X R a tA fa) (hb : DE X R b tB fb)
    (hw : swappedStores [.Tuple [.Name x px, .Name y py] kt pt] (.Tuple [a, b] k2 pt2) X.env = pure none) (hs : swapsWithSole [.Tuple [.Name x px, .Name y py] kt pt] (.Tuple [a, b] k2 pt2) pos.line X.env = pure false := by rfl)
    (hq1 : starEach [a, b] X.env = (false, eval a X.env) :: starEach [b] X.env := by rfl) (hq2 : starEach [b] X.env = (false, eval b X.env) :: starEach [] X.env := by rfl)
    (hfx : X.fn x = true ∨ X.env.scope.names.lookup x = some .local := by first | exact .inl rfl | exact .inr rfl) (hfy : X.fn y = true ∨ X.env.scope.names.lookup y = some .local := by first | exact .inl rfl | exact .inr rfl)
    (hn : (assignEach [.Name x px, .Name y py] X.env).length = 2 := by rfl) (hst : (assignEach [.Name x px, .Name y py] X.env).findIdx? (·.1) = none := by rfl)
    (hs1 : (assignEach [.Name x px, .Name y py] X.env).map (·.2) = assign (.Name x px) X.env :: (assignEach [.Name y py] X.env).map (·.2) := by rfl) (hs2 : (assignEach [.Name y py] X.env).map (·.2) = assign (.Name y py) X.env :: (assignEach [] X.env).map (·.2) := by rfl)
    (h1 : (assignEach [.Tuple [.Name x px, .Name y py] kt pt] X.env).map (·.2) = [assign (.Tuple [.Name x px, .Name y py] kt pt) X.env] := by rfl) :
    DS X R (.Assign [.Tuple [.Name x px, .Name y py] kt pt] (.Tuple [a, b] k2 pt2) pos) (tAsg (tTup (tCons tA (tCons tB tNil))) (gTup X.K 2 (gCons (gName i) (gCons (gName j) gNil)))) (sPar i j (aCons fa (aCons fb aNil))) :=
  ⟨ps_asg (pe_tup (pa_cons ha.pe (pa_cons hb.pe pa_nil hq2) hq1)) (pg_tup hc (pgs_cons (pg_name hN hi hx hfx) (pgs_cons (pg_name hN hj hy hfy) pgs_nil hs2) hs1) hn hst) hs hw h1, fun L E F ρ σ rs H o rs' D r hf k => by
    obtain ⟨xs, rs1, e1, hf1⟩ := bnd_some hf
    obtain ⟨x1, rs2, e2, hf2⟩ := bnd_some e1
    obtain ⟨ys, rs3, e3, hf3⟩ := bnd_some hf2
    obtain ⟨x2, rs4, e4, hf4⟩ := bnd_some e3
    obtain ⟨zs, rs5, e5, hf5⟩ := bnd_some hf4
    obtain ⟨e6, q6⟩ := ret_some e5
    obtain ⟨e7, q7⟩ := ret_some hf5
    obtain ⟨e8, q8⟩ := ret_some hf3
    subst e6 q6 e7 q7 e8 q8
    obtain ⟨sx, rs6, e9, hf6⟩ := bnd_some hf1
    obtain ⟨e10, q10⟩ := lft_some e9
    obtain ⟨sy, rs7, e11, hf7⟩ := bnd_some hf6
    obtain ⟨e12, q12⟩ := lft_some e11
    obtain ⟨e13, q13⟩ := ret_some hf7
    subst e13 q13 q12 q10
    refine ha.sem L E ρ σ F H rs x1 rs2 _ r e2 fun v1 F1 H1 s1 h1 => ?_
    have r1 := r.step s1
    refine hb.sem L E ρ σ F1 H1 rs2 x2 _ _ r1 e4 fun v2 F2 H2 s2 h2 => ?_
    have r2 := r1.step s2
    refine ⟨by show 2 ≤ sizeLine; exact sz_of (by decide), fun q hq => ?_⟩
    have s3 := Step.new_o (o := .tup [v1, v2]) r2.refl hq
    refine ⟨q, [v1, v2], rfl, .inl (.inl upd_same), rfl, v1, [v2], rfl, v2, [], rfl, rfl, ?_⟩
    have s12 := s1.trans r.row s2
    have s123 := s12.trans r.row s3
    have q1 := Rel.store r s123 ((h1.step s2).step s3) e10 i
    have k1 := (Rel.known r1).set r1.len h1 e10 i
    have q2 := Rel.store2 r1 q1 (h2.step s3) e12 j fun a u ev hl h0 => k1.apart a u ev hl h0
    exact k _ F2 _ (FStep.ofStep r s123) q2⟩
theorem ds_tup3L {i j l : Nat} {x y z : Str} {a b c : Expr} {fa fb fc : Env → M RV} {tA tB tC' : TE} {px py pz pt : Pos} {kt k2 pt2} (hc : X.calm = true) (hN : X.N.Nodup) (hi : X.N[i]? = some x) (hj : X.N[j]? = some y) (hl : X.N[l]? = some z)
    (hx : Loc X.env.scope x) (hy : Loc X.env.scope y) (hz : Loc X.env.scope z) (ha : DE X R a tA fa) (hb : DE X R b tB fb) (hcc : DE X R c tC' fc)
    (hw : swappedStores [.Tuple [.Name x px, .Name y py, .Name z pz] kt pt] (.Tuple [a, b, c] k2 pt2) X.env = pure none) (hs : swapsWithSole [.Tuple [.Name x px, .Name y py, .Name z pz] kt pt] (.Tuple [a, b, c] k2 pt2) pos.line X.env = pure false := by rfl)
    (hq1 : starEach [a, b, c] X.env = (false, eval a X.env) :: starEach [b, c] X.env := by rfl) (hq2 : starEach [b, c] X.env = (false, eval b X.env) :: starEach [c] X.env := by rfl) (hq3 : starEach [c] X.env = (false, eval c X.env) :: starEach [] X.env := by rfl)
    (hfx : X.fn x = true ∨ X.env.scope.names.lookup x = some .local := by first | exact .inl rfl | exact .inr rfl) (hfy : X.fn y = true ∨ X.env.scope.names.lookup y = some .local := by first | exact .inl rfl | exact .inr rfl) (hfz : X.fn z = true ∨ X.env.scope.names.lookup z = some .local := by first | exact .inl rfl | exact .inr rfl)
    (hn : (assignEach [.Name x px, .Name y py, .Name z pz] X.env).length = 3 := by rfl) (hst : (assignEach [.Name x px, .Name y py, .Name z pz] X.env).findIdx? (·.1) = none := by rfl)
    (hs1 : (assignEach [.Name x px, .Name y py, .Name z pz] X.env).map (·.2) = assign (.Name x px) X.env :: (assignEach [.Name y py, .Name z pz] X.env).map (·.2) := by rfl) (hs2 : (assignEach [.Name y py, .Name z pz] X.env).map (·.2) = assign (.Name y py) X.env :: (assignEach [.Name z pz] X.env).map (·.2) := by rfl)
    (hs3 : (assignEach [.Name z pz] X.env).map (·.2) = assign (.Name z pz) X.env :: (assignEach [] X.env).map (·.2) := by rfl)
    (h1 : (assignEach [.Tuple [.Name x px, .Name y py, .Name z pz] kt pt] X.env).map (·.2) = [assign (.Tuple [.Name x px, .Name y py, .Name z pz] kt pt) X.env] := by rfl) :
    DS X R (.Assign [.Tuple [.Name x px, .Name y py, .Name z pz] kt pt] (.Tuple [a, b, c] k2 pt2) pos) (tAsg (tTup (tCons tA (tCons tB (tCons tC' tNil)))) (gTup X.K 3 (gCons (gName i) (gCons (gName j) (gCons (gName l) gNil))))) (sPar3 i j l (aCons fa (aCons fb (aCons fc aNil)))) :=
  ⟨ps_asg (pe_tup (pa_cons ha.pe (pa_cons hb.pe (pa_cons hcc.pe pa_nil hq3) hq2) hq1)) (pg_tup hc (pgs_cons (pg_name hN hi hx hfx) (pgs_cons (pg_name hN hj hy hfy) (pgs_cons (pg_name hN hl hz hfz) pgs_nil hs3) hs2) hs1) hn hst) hs hw h1, fun L E F ρ σ rs H o rs' D r hf k => by
    obtain ⟨xs, rs1, e1, hf1⟩ := bnd_some hf
    obtain ⟨x1, rs2, e2, hf2⟩ := bnd_some e1
    obtain ⟨ys, rs3, e3, hf3⟩ := bnd_some hf2
    obtain ⟨x2, rs4, e4, hf4⟩ := bnd_some e3
    obtain ⟨zs, rs5, e5, hf5⟩ := bnd_some hf4
    obtain ⟨x3, rs6, e6, hf6⟩ := bnd_some e5
    obtain ⟨ws, rs7, e7, hf7⟩ := bnd_some hf6
    obtain ⟨e8, q8⟩ := ret_some e7
    obtain ⟨e9, q9⟩ := ret_some hf7
    obtain ⟨e10, q10⟩ := ret_some hf5
    obtain ⟨e11, q11⟩ := ret_some hf3
    subst e8 q8 e9 q9 e10 q10 e11 q11
    obtain ⟨sx, rs12, e12, hf12⟩ := bnd_some hf1
    obtain ⟨e13, q13⟩ := lft_some e12
    obtain ⟨sy, rs14, e14, hf14⟩ := bnd_some hf12
    obtain ⟨e15, q15⟩ := lft_some e14
    obtain ⟨sz, rs16, e16, hf16⟩ := bnd_some hf14
    obtain ⟨e17, q17⟩ := lft_some e16
    obtain ⟨e18, q18⟩ := ret_some hf16
    subst e18 q18 q17 q15 q13
    refine ha.sem L E ρ σ F H rs x1 rs2 _ r e2 fun v1 F1 H1 s1 h1 => ?_
    have r1 := r.step s1
    refine hb.sem L E ρ σ F1 H1 rs2 x2 _ _ r1 e4 fun v2 F2 H2 s2 h2 => ?_
    have r2 := r1.step s2
    refine hcc.sem L E ρ σ F2 H2 _ x3 _ _ r2 e6 fun v3 F3 H3 s3 h3 => ?_
    have r3 := r2.step s3
    refine ⟨by show 3 ≤ sizeLine; exact sz_of (by decide), fun q hq => ?_⟩
    have s4 := Step.new_o (o := .tup [v1, v2, v3]) r3.refl hq
    refine ⟨q, [v1, v2, v3], rfl, .inl (.inl upd_same), rfl, v1, [v2, v3], rfl, v2, [v3], rfl, v3, [], rfl, rfl, ?_⟩
    have s12 := s1.trans r.row s2
    have s123 := s12.trans r.row s3
    have s1234 := s123.trans r.row s4
    have q1 := Rel.store r s1234 (((h1.step s2).step s3).step s4) e13 i
    have k1 := (Rel.known r1).set r1.len h1 e13 i
    have q2 := Rel.store2 r1 q1 ((h2.step s3).step s4) e15 j fun a u ev hl h0 => k1.apart a u ev hl h0
    have k2 : OwnOld H2 ((ρ.set i (some sx)).set j (some sy)) ((σ.set i (some v1)).set j (some v2)) := (k1.step s2 r1.row).set (by rw [List.length_set, List.length_set]; exact r1.len) h2 e15 j
    have q3 := Rel.store2 r2 q2 (h3.step s4) e17 l fun a u ev hl h0 => k2.apart a u ev hl h0
    exact k _ F3 _ (FStep.ofStep r s1234) q3⟩
end
end DV
namespace DV
open PySem L2
section
variable {X : Cx} {R : Option Addr} {e ei : Expr} {te ti : TE} {f g : Env → M RV} {pos : Pos}
abbrev ePart (f : Env → M RV) : Env → M (Option Int) := fun ρ => bnd (f ρ) fun x => bnd (lft (asInt x)) fun i => ret (some i)
theorem ds_appendF {i : Nat} {x : Str} {apos p1 spos : Pos} (he : DE X R e te f) (pe : PE X e te → PE X (.Call (.Attribute (.Name x p1) "append" apos) [e] [] pos) (tBM X.K "list" rAppend (tVar i) (tCons te tNil))) (hN : X.N[i]? = some x := by rfl) (hv : Vis X.env.scope x := by first | exact Or.inl rfl | exact Or.inr (Or.inl rfl) | exact Or.inr (Or.inr rfl)) (hd : (x == ("__debug__" : Str)) = false := by decide)
    (hcd : (x == ("__classdict__" : Str)) = false := by decide) (hs : swapsWith (.Call (.Attribute (.Name x p1) "append" apos) [e] [] pos) none spos.line X.env = pure false := by rfl) :
    DS X R (.Expr (.Call (.Attribute (.Name x p1) "append" apos) [e] [] pos) spos) (tDrop (tBM X.K "list" rAppend (tVar i) (tCons te tNil))) (sApp i f) := ds_append he hN hv hd hcd (pe he.pe) hs
theorem ds_popAppF {i j : Nat} {x y : Str} {apos bpos cpos p1 p2 spos : Pos} (he : DE X R e te f) (pe : PE X e te → PE X (.Call (.Attribute (.Name x p1) "append" apos) [.Call (.Attribute (.Name y p2) "pop" bpos) [e] [] cpos] [] pos) (tBM X.K "list" rAppend (tVar i) (tCons (tBM X.K "list" rPopAt (tVar j) (tCons te tNil)) tNil)))
    (hs : swapsWith (.Call (.Attribute (.Name x p1) "append" apos) [.Call (.Attribute (.Name y p2) "pop" bpos) [e] [] cpos] [] pos) none spos.line X.env = pure false := by rfl) :
    DS X R (.Expr (.Call (.Attribute (.Name x p1) "append" apos) [.Call (.Attribute (.Name y p2) "pop" bpos) [e] [] cpos] [] pos) spos) (tDrop (tBM X.K "list" rAppend (tVar i) (tCons (tBM X.K "list" rPopAt (tVar j) (tCons te tNil)) tNil))) (sPopApp i j f) := ds_popApp he.sem (pe he.pe) hs
theorem ds_putF {i : Nat} {x : Str} {p1 spos : Pos} (he : DE X R e te f) (hi : DE X R ei ti g) (hpg : PE X ei ti → PG X (.Subscript (.Name x p1) ei pos) (gSub (tVar i) ti rSetL)) (hN : X.N[i]? = some x := by rfl) (hv : Vis X.env.scope x := by first | exact Or.inl rfl | exact Or.inr (Or.inl rfl) | exact Or.inr (Or.inr rfl)) (hd : (x == ("__debug__" : Str)) = false := by decide)
    (hcd : (x == ("__classdict__" : Str)) = false := by decide) (hs : swapsWithSole [.Subscript (.Name x p1) ei pos] e spos.line X.env = pure false := by rfl) (hw : swappedStores [.Subscript (.Name x p1) ei pos] e X.env = pure none := by rfl)
    (h1 : (assignEach [.Subscript (.Name x p1) ei pos] X.env).map (·.2) = [assign (.Subscript (.Name x p1) ei pos) X.env] := by rfl) : DS X R (.Assign [.Subscript (.Name x p1) ei pos] e spos) (tAsg te (gSub (tVar i) ti rSetL)) (sPut i f g) := ds_put he hi hN hv hd hcd (hpg hi.pe) hs hw h1
end
end DV

/-! DV: the drawing row: reading and writing its cells; the law's own rule -/
namespace DV
open PySem L2 PyProof.Rows
section
variable {X : Cx} {K : PySem.W.Frag} {R : Option Addr} {L : Nat → Option (Addr × List V)} {E F F' H H' : Hp} {ρ ρ' : Env} {σ σ' : L2.St} {rs rs' : RS}
variable {S S' : List Nat} {tg it elt e e2 c : Expr} {es ifs : List Expr} {g : TG} {gs : TGs} {hg : D → Env → Option Env} {hgs : List D → Env → Option Env} {pos p : Pos} {st : Stmt} {body : List Stmt} {tb : TS} {tt : TT} {te t1 t2 : TE} {ta : TA} {wi : TI}
def rowCell (k : Nat) (rs : RS) : Option D := match k with
  | 0 => some (.list (rs.ns.map PyData.int))
  | 1 => some (.int (rs.i : Int))
  | 2 => some (.int rs.s)
  | 3 => some (.int rs.c)
  | _ => none
def eRow (i k : Nat) : Env → M RV := fun ρ => bnd (lft (vget ρ i)) fun x => match x with
  | .row => fun rs => match rowCell k rs with
    | some d => some (.d d, rs)
    | none => none
  | _ => fail
theorem rowCell_at {a : Addr} {d : D} {k : Nat} (h : rowCell k rs = some d) (hs : SqL K F a (rs.ns.map V.int)) : ∃ v, [V.ref a, .int (rs.i : Int), .int rs.s, .int rs.c][k]? = some v ∧ Dp K F v d := by
  match k, h with
  | 0, h => cases h; exact ⟨_, rfl, .lst hs (DpAll.ofInts _)⟩
  | 1, h => cases h; exact ⟨_, rfl, .int _⟩
  | 2, h => cases h; exact ⟨_, rfl, .int _⟩
  | 3, h => cases h; exact ⟨_, rfl, .int _⟩
theorem de_row (i k : Nat) {x : Str} {j : Nat} {p2 : Pos} (hv' : DE X R (.Name x p) (tVar i) (eVar i)) (hs : PlainIx (.Constant (.int (k : Int)) j p2) := by exact fun _ _ => rfl) :
    DE X R (.Subscript (.Name x p) (.Constant (.int (k : Int)) j p2) pos) (tOp (rIx X.K) (tVar i) (tC (.int (k : Int)))) (eRow i k) := ⟨(de_ix hv' (de_int (R := R)) hs).pe, fun L E ρ σ F H rs x rs' Q r hf kk => by
  obtain ⟨y, rs1, e1, hf1⟩ := bnd_some hf
  obtain ⟨e2, q2⟩ := lft_some e1
  subst q2
  cases y with
  | row =>
    obtain ⟨v, ev, hv⟩ := r.get e2
    obtain ⟨r0, eR, rfl⟩ := hv
    have hf2 : (match rowCell k rs1 with | some d => some (RV.d d, rs1) | none => none) = some (x, rs') := hf1
    cases e3 : rowCell k rs1 with
    | none => rw [e3] at hf2; cases hf2
    | some d =>
      rw [e3] at hf2
      cases hf2
      obtain ⟨a, h1, h2, h3⟩ := r.row.at_ r0 eR
      obtain ⟨w, ew, hw⟩ := rowCell_at e3 h2
      refine ⟨_, ev, .inl ⟨r0, _, (k : Int), w, rfl, rfl, .inl (.inl h1), atI_nat ew, kk w F H r.refl hw⟩⟩
  | d _ => cases hf1
  | b _ => cases hf1
  | n _ => cases hf1
  | gb _ => cases hf1
  | gn _ => cases hf1⟩
def rowPut (k : Nat) (v : Int) (rs : RS) : Option RS := match k with
  | 1 => if 0 ≤ v then some { rs with i := v.toNat } else none
  | 2 => some { rs with s := v }
  | 3 => some { rs with c := v }
  | _ => none
def sRowPut (i k : Nat) (f : Env → M RV) : Env → M Out := fun ρ => bnd (f ρ) fun x => bnd (lft (asInt x)) fun v => bnd (lft (vget ρ i)) fun y => match y with
  | .row => fun rs => match rowPut k v rs with
    | some rs' => some (.nx ρ, rs')
    | none => none
  | _ => fail
theorem rowPut_at {a : Addr} {v : Int} {k : Nat} (h : rowPut k v rs = some rs') : rs'.ns = rs.ns ∧ ixN [V.ref a, .int (rs.i : Int), .int rs.s, .int rs.c].length (k : Int) = some k ∧
    [V.ref a, .int (rs.i : Int), .int rs.s, .int rs.c].set k (.int v) = [V.ref a, .int (rs'.i : Int), .int rs'.s, .int rs'.c] := by
  match k, h with
  | 1, h =>
    unfold rowPut at h
    by_cases hv : 0 ≤ v
    · rw [if_pos hv] at h
      cases h
      refine ⟨rfl, rfl, ?_⟩
      show [V.ref a, .int v, .int rs.s, .int rs.c] = [V.ref a, .int (v.toNat : Int), .int rs.s, .int rs.c]
      rw [Int.toNat_of_nonneg hv]
    · rw [if_neg hv] at h
      cases h
  | 2, h => cases h; exact ⟨rfl, rfl, rfl⟩
  | 3, h => cases h; exact ⟨rfl, rfl, rfl⟩
theorem Rel.rowput (r : Rel K R L E F ρ σ rs H) {r0 a : Addr} (eR : R = some r0) (hn : rs'.ns = rs.ns) (h2 : SqL K F a (rs.ns.map V.int)) (h3 : rs.ns.length ≤ 63) : Rel K R L E F ρ σ rs' (upd H r0 (.lst [V.ref a, .int (rs'.i : Int), .int rs'.s, .int rs'.c])) where
  len := r.len
  ent := r.ent
  ex := fun b o e => by
    have hb : b ≠ r0 := fun q => by
      have := (r.rE r0 eR).1
      rw [← q, e] at this
      cases this
    rw [upd_ne hb]
    exact r.ex b o e
  fr := fun b o e => by
    have hb : b ≠ r0 := fun q => by
      have := (r.rE r0 eR).2
      rw [← q, e] at this
      cases this
    rw [upd_ne hb]
    exact r.fr b o e
  row := ⟨fun r1 e1 => by
    rw [eR] at e1
    cases e1
    exact ⟨a, upd_same, by rw [hn]; exact h2, by rw [hn]; exact h3⟩, tabs_upd r.row.tab (.inr (by
      obtain ⟨_, h, _⟩ := r.row.at_ r0 eR
      exact ⟨_, h⟩)), r.row.fnt⟩
  rE := r.rE
  lk := r.lk
  sl := fun i sv e => by
    obtain ⟨v, ev, q⟩ := r.sl i sv e
    refine ⟨v, ev, ?_⟩
    cases sv with
    | d x => exact q
    | k ds => exact q
    | row => exact q
    | o ds =>
      obtain ⟨b, vs, e1, h1, g2, g3, g4, g5⟩ := q
      refine ⟨b, vs, e1, ?_, g2, g3, g4, g5⟩
      rw [upd_ne (fun z => g4 (by rw [eR, z]))]
      exact h1
    | g ds =>
      obtain ⟨b, vs, e1, h1, g2, g3, g4, g5⟩ := q
      refine ⟨b, vs, e1, ?_, g2, g3, g4, g5⟩
      rw [upd_ne (fun z => g4 (by rw [eR, z]))]
      exact h1
    | un => exact trivial
    | ex _ _ => exact q
    | fn _ => exact q
  own := r.own
theorem ds_rowPut (i k : Nat) {x : Str} {j : Nat} {p1 p2 : Pos} {f : Env → M RV} (he : DE X R e te f) (hv' : DE X R (.Name x p1) (tVar i) (eVar i)) (hpg : PG X (.Subscript (.Name x p1) (.Constant (.int (k : Int)) j p2) pos) (gSub (tVar i) (tC (.int (k : Int))) rSetL))
    {spos : Pos} (hs : swapsWithSole [.Subscript (.Name x p1) (.Constant (.int (k : Int)) j p2) pos] e spos.line X.env = pure false := by rfl) (hw : swappedStores [.Subscript (.Name x p1) (.Constant (.int (k : Int)) j p2) pos] e X.env = pure none := by rfl)
    (h1 : (assignEach [.Subscript (.Name x p1) (.Constant (.int (k : Int)) j p2) pos] X.env).map (·.2) = [assign (.Subscript (.Name x p1) (.Constant (.int (k : Int)) j p2) pos) X.env] := by rfl) :
    DS X R (.Assign [.Subscript (.Name x p1) (.Constant (.int (k : Int)) j p2) pos] e spos) (tAsg te (gSub (tVar i) (tC (.int (k : Int))) rSetL)) (sRowPut i k f) := ⟨ps_asg he.pe hpg hs hw h1, fun L E F ρ σ rs H o rs' D r hf kk => by
  obtain ⟨x, rs1, e1, hf1⟩ := bnd_some hf
  obtain ⟨v, rs2, e2, hf2⟩ := bnd_some hf1
  obtain ⟨e3, q3⟩ := lft_some e2
  obtain ⟨y, rs4, e4, hf4⟩ := bnd_some hf2
  obtain ⟨e5, q5⟩ := lft_some e4
  subst q5 q3
  cases y with
  | row =>
    have hf5 : (match rowPut k v rs4 with | some rs' => some (Out.nx ρ, rs') | none => none) = some (o, rs') := hf4
    cases e6 : rowPut k v rs4 with
    | none => rw [e6] at hf5; cases hf5
    | some rs6 =>
      rw [e6] at hf5
      cases hf5
      refine he.sem L E ρ σ F H rs x _ _ r e1 fun w F1 H1 s1 h1 => ?_
      have hwi := h1.int e3
      subst hwi
      have r1 := r.step s1
      obtain ⟨u, eu, hu⟩ := r1.get e5
      obtain ⟨r0, eR, rfl⟩ := hu
      obtain ⟨a, g1, g2, g3⟩ := r1.row.at_ r0 eR
      obtain ⟨n1, n2, n3⟩ := rowPut_at (a := a) e6
      refine ⟨_, eu, r0, _, (k : Int), k, rfl, rfl, g1, n2, ?_⟩
      rw [n3]
      exact kk σ F1 _ (FStep.ofStep r s1) (r1.rowput eR n1 g2 g3)
  | d _ => cases hf4
  | b _ => cases hf4
  | n _ => cases hf4
  | gb _ => cases hf4
  | gn _ => cases hf4⟩

/-! ### the law -/
def spLaw (K : PySem.W.Frag) : Sp := fun vs H Q _ => ∃ (a : Addr) (ns : List Int), vs = [.ref a] ∧ LamX.Tabs (tabsOf K) H ∧ SqL K H a (ns.map V.int) ∧ ns.length ≤ 63 ∧ ∀ H', Q (.bl true) H'
/-- the law's names behind the row's making -/
def lawE (n : Nat) : Env := none :: some .row :: List.replicate (n - 2) none
theorem law_ok {P : Program} {w : World} {mg : Str → Option Value} {base : Heap} {x qual : Str} {st : Stmt} {f : Addr} {fd : FuncData} {N : List Str} {k : Nat} {g : Env → M Out} {y : Str} {seed : Int} {s0 : Stmt} {rest : List Stmt} (Fn : Fun K x qual st f fd) (S : FnScope N [y] (defScope st)) (hN : 2 ≤ N.length)
    (hbd : defBody st = s0 :: rest)
    (hbody : ∀ (cdv : Value) (A : Around) (outer : List PySem.Env) (s : Shared) (H : Hp) (E : XK), Room k (A.deeper (envOfC qual (defScope st) s.heap.objs.size f cdv)) →
      PS (cxOf CX0 P w K mg base N qual (defScope st) f cdv A outer s H E).nox s0 (tAsg (tLst (tCons (tVar 0) (tCons (tC (.int 0)) (tCons (tC (.int seed)) (tCons (tC (.int 0)) tNil))))) (gName 1)) ∧
      ∃ t, ∀ R, DSs (cxOf CX0 P w K mg base N qual (defScope st) f cdv A outer s H E).nox R rest t g)
    (hlaw : ∀ ns : List Int, ns.length ≤ 63 → ∃ rs', g (lawE N.length) ⟨ns, 0, seed, 0⟩ = some (.rt (.d (.bool true)), rs')) : FnOk P w K mg base CX0 (k + 1) f fd [y] (spLaw K) := by
  refine Fn.ok S (fun vs H Q E h => ?_) (fun cdv A outer s H vs Q E hr h => ?_)
  · obtain ⟨a, ns, rfl, _⟩ := h
    rfl
  · obtain ⟨a, ns, rfl, hT, hS0, hlen, q⟩ := h
    obtain ⟨h0, t, ht⟩ := hbody cdv A outer s H E hr
    rw [hbd]
    refine ⟨_, pss_cons h0 (ht none).ps, ?_⟩
    obtain ⟨rs', hl⟩ := hlaw ns hlen
    have hst : L2.start N [V.ref a] = some (V.ref a) :: List.replicate (N.length - 1) none := rfl
    rw [hst]
    refine ⟨V.ref a, rfl, ?_⟩
    refine ⟨by show 4 ≤ sizeLine; exact sz_of (by decide), fun r hr0 => ?_⟩
    have hNl : N.length - 1 = (N.length - 2) + 1 := by omega
    have hF : ∀ b o, entE K none H b = some o → (upd H r (.lst [V.ref a, .int 0, .int seed, .int 0])) b = some o := fun b o e => by
      have e := (entE_of e).2.2
      rw [upd_ne (ne_of_none e hr0)]
      exact e
    have hX : ∀ b o, entE K none H b = some o → Fx K b o := fun b o e => .inr fun n z => (entE_of e).2.1 ⟨n, z⟩
    have hN0 : entE K none H r = none := by
      cases e : entE K none H r with
      | none => rfl
      | some o =>
        have e2 := (entE_of e).2.2
        rw [hr0] at e2
        cases e2
    have hS : SqL K (entE K none H) a (ns.map V.int) := by
      by_cases t : tbAt K a
      · obtain ⟨n, t⟩ := t
        obtain ⟨ps, et⟩ := tabs_at hT t
        rcases hS0 with (z | ⟨o, z⟩) | z
        · rw [et] at z; cases z
        · rw [et] at z; cases z
        · exact .inr z
      · exact ex_l (fun o e => (entE_at (R := none) (fun z => by cases z) t).trans e) hS0
    have rel : Rel K (some r) (fun _ => none) (entE K none H) (entE K none H) (lawE N.length) ((some (V.ref a) :: List.replicate (N.length - 1) none).set 1 (some (V.ref r))) ⟨ns, 0, seed, 0⟩ (upd H r (.lst [V.ref a, .int 0, .int seed, .int 0])) := by
      rw [hNl, List.replicate_succ]
      refine ⟨?_, hF, hX, hF, ⟨fun r1 e1 => ?_, tabs_upd hT (.inl hr0), hX⟩, fun r1 e1 => ?_, fun i b vs e1 => ?_, fun i sv e1 => ?_, fun i j b sv sw e1 e2 ox oy e3 e4 => ?_⟩
      · show (List.replicate (N.length - 2) (none : Option SV)).length + 1 + 1 = (List.replicate (N.length - 2) (none : Option V)).length + 1 + 1
        rw [List.length_replicate, List.length_replicate]
      · cases e1
        exact ⟨a, upd_same, hS, hlen⟩
      · cases e1
        exact ⟨hN0, hN0⟩
      · cases e1
      · match i, e1 with
        | 0, e1 => cases e1
        | 1, e1 =>
          cases e1
          exact ⟨_, rfl, r, rfl, rfl⟩
        | i + 2, e1 =>
          have e2 : (List.replicate (N.length - 2) (none : Option SV))[i]? = some (some sv) := e1
          have e3 := List.mem_of_getElem? e2
          rw [List.mem_replicate] at e3
          cases e3.2
      · match i, e1 with
        | 0, e1 => cases e1
        | 1, e1 => cases e1; cases ox
        | i + 2, e1 =>
          have e5 : (List.replicate (N.length - 2) (none : Option SV))[i]? = some (some sv) := e1
          have e6 := List.mem_of_getElem? e5
          rw [List.mem_replicate] at e6
          cases e6.2
    refine (ht (some r)).sem (fun _ => none) (entE K none H) (entE K none H) (lawE N.length) _ _ _ _ rs' _ rel hl ?_
    intro v F' H' hret
    have hv : Dp K F' v (.bool true) := hret.val
    cases hv
    exact q H'
end
end DV

/-! DV: zip of two -/
namespace DV
open PySem L2
section
variable {X : Cx} {K : PySem.W.Frag} {R : Option Addr} {L : Nat → Option (Addr × List V)} {E F F' H H' : Hp} {ρ ρ' : Env} {σ σ' : L2.St} {rs rs' : RS}
variable {S S' : List Nat} {tg it elt e e2 c : Expr} {es ifs : List Expr} {pos p : Pos} {te t1 t2 : TE} {ta : TA} {wi : TI}
def zipD : List D → List D → List D
  | x :: xs, y :: ys => .tuple [x, y] :: zipD xs ys
  | _, _ => []
theorem zipD_len : ∀ xs ys : List D, (zipD xs ys).length = min xs.length ys.length
  | [], ys => by cases ys <;> simp [zipD]
  | x :: xs, [] => by simp [zipD]
  | x :: xs, y :: ys => by
    rw [zipD, List.length_cons, zipD_len xs ys, List.length_cons, List.length_cons]
    omega
theorem zipD_get : ∀ (xs ys : List D) (i : Nat) (x y : D), xs[i]? = some x → ys[i]? = some y → (zipD xs ys)[i]? = some (.tuple [x, y])
  | [], _, _, _, _, h, _ => by simp at h
  | _ :: _, [], _, _, _, _, h => by simp at h
  | a :: xs, b :: ys, 0, x, y, h, h2 => by
    simp at h h2; subst h h2
    rfl
  | a :: xs, b :: ys, i + 1, x, y, h, h2 => by
    have := zipD_get xs ys i x y (by simpa using h) (by simpa using h2)
    simpa [zipD] using this
def joinLk : Option Nat → Option Nat → Option (Option Nat)
  | none, l => some l
  | some i, none => some (some i)
  | some i, some j => if i = j then some (some i) else none
def iZipF (f g : Env → M (List D × Option Nat)) : Env → M (List D × Option Nat) := fun ρ => bnd (f ρ) fun p => bnd (g ρ) fun q => bnd (lft (joinLk p.2 q.2)) fun l => ret (zipD p.1 q.1, l)
theorem SrcOk.any {v : V} {its : List D} {lk l : Option Nat} (h : SrcOk K R E ρ σ H F' H' v its lk) (e : lk = none ∨ lk = l) : SrcOk K R E ρ σ H F' H' v its l := by
  rcases e with e | e
  · subst e
    obtain ⟨a, vs, rfl, hd, q⟩ := h
    refine ⟨a, vs, rfl, hd, ?_⟩
    rcases q with q | ⟨q1, q2, q3⟩
    · exact .inl q
    · refine .inr ⟨q1, q2, ?_⟩
      rcases q3 with z | z | ⟨i, ds, z, _⟩
      · exact .inl z
      · exact .inr (.inl z)
      · cases z
  · subst e; exact h
theorem joinLk_l {a b l : Option Nat} (h : joinLk a b = some l) : (a = none ∨ a = l) ∧ (b = none ∨ b = l) := by
  cases a with
  | none => cases h; exact ⟨.inl rfl, .inr rfl⟩
  | some i =>
    cases b with
    | none => cases h; exact ⟨.inr rfl, .inl rfl⟩
    | some j =>
      have h : (if i = j then some (some i) else none) = some l := h
      by_cases e : i = j
      · rw [if_pos e] at h
        cases h
        exact ⟨.inr rfl, .inr (by rw [e])⟩
      · rw [if_neg e] at h
        cases h
theorem di_zip {f g : Env → M (List D × Option Nat)} {elts : List Expr} {kk : Nat} {tpos : Pos} (hgl : Gl X "zip") (hm : X.mg "zip" = none) (h : DSrc X R e t1 f) (h2 : DSrc X R e2 t2 g) (hs : starEach [e, e2] X.env = (false, eval e X.env) :: starEach [e2] X.env := by rfl) (hs2 : starEach [e2] X.env = (false, eval e2 X.env) :: starEach [] X.env := by rfl)
    (hpl : (backTo pos (starEach [e2] X.env)).any (·.1) = false := by rfl) :
    DI X R (.Tuple elts kk tpos) (.Call (.Name "zip" p) [e, e2] [] pos) (iZipK X.K (tCons t1 (tCons t2 tNil))) (iZipF f g) := ⟨pi_zipK hgl hm (pa_cons h.pe (pa_cons h2.pe pa_nil hs2) hs) hs hpl, fun L E ρ σ F H rs its lk rs' Rq r hf k => by
  obtain ⟨⟨xs, lk1⟩, rs1, e1, hf1⟩ := bnd_some hf
  obtain ⟨⟨ys, lk2⟩, rs2, e2, hf2⟩ := bnd_some hf1
  obtain ⟨l, rs3, e3, hf3⟩ := bnd_some hf2
  obtain ⟨e4, q4⟩ := lft_some e3
  obtain ⟨e5, q5⟩ := ret_some hf3
  cases e5
  subst q5 q4
  obtain ⟨j1, j2⟩ := joinLk_l e4
  refine h.sem L E ρ σ F H rs xs lk1 rs1 _ r e1 fun v1 F1 H1 s1 h1 => ?_
  have r1 := r.step s1
  refine h2.sem L E ρ σ F1 H1 rs1 ys lk2 _ _ r1 e2 fun v2 F2 H2 s2 h2 => ?_
  have r2 := r1.step s2
  have s12 := s1.trans r.row s2
  obtain ⟨a, vs, kd, P, rfl, hd, pn, hG⟩ := ((h1.step s2).any j1).pin r
  obtain ⟨b, ws, kd2, P2, rfl, hd2, pn2, hG2⟩ := ((h2.older fun a q => s1.back r.row q).any j2).pin r
  have hP1 : ∀ H3 : Hp, (∀ c o, addH P P2 c = some o → H3 c = some o) → ∀ c o, P c = some o → H3 c = some o := fun H3 q c o e => q c o (by unfold addH; rw [e])
  have hP2 : ∀ H3 : Hp, (∀ c o, addH P P2 c = some o → H3 c = some o) → ∀ c o, P2 c = some o → H3 c = some o := fun H3 q c o e => by
    refine q c o ?_
    unfold addH
    cases e6 : P c with
    | none => exact e
    | some o2 =>
      have z1 := (pn c o2 e6).1
      have z2 := (pn2 c o e).1
      rw [z1] at z2
      cases z2
      rfl
  have hA : ∀ c o, addH P P2 c = some o → P c = some o ∨ P2 c = some o := fun c o e => by
    unfold addH at e
    cases e6 : P c with
    | none => rw [e6] at e; exact .inr e
    | some o2 => rw [e6] at e; cases e; exact .inl rfl
  refine ⟨kd, kd2, a, b, vs, ws, rfl, hG H2 (fun c o q => (pn c o q).1) r2.fr, hG2 H2 (fun c o q => (pn2 c o q).1) r2.fr, k _ F2 H2 s12 ⟨fun H => SqK kd X.K H a vs ∧ SqK kd2 X.K H b ws, YPair (fun i => vs[i]?) (fun i => ws[i]?), addH P P2, ?_, ?_, ?_, ?_⟩⟩
  · exact walk_zipK kd kd2 (by rw [zipD_len, hd.len, hd2.len])
  · intro c o e
    rcases hA c o e with z | z
    · exact pn c o z
    · exact pn2 c o z
  · exact fun H3 q1 q2 => ⟨hG H3 (hP1 H3 q1) q2, hG2 H3 (hP2 H3 q1) q2⟩
  · intro i H3 w H4 F3 hi q1 q2 y
    obtain ⟨T, x, z, rfl, hT, rfl, ex, ez⟩ := y
    have hi' : i < (zipD xs ys).length := hi
    rw [zipD_len] at hi'
    have hx : xs[i]? = some (xs[i]'(by omega)) := List.getElem?_eq_getElem (by omega)
    have hy : ys[i]? = some (ys[i]'(by omega)) := List.getElem?_eq_getElem (by omega)
    obtain ⟨w1, hw1, hdw1⟩ := hd.get hx
    obtain ⟨w2, hw2, hdw2⟩ := hd2.get hy
    have ex' : vs[i]? = some x := ex
    have ez' : ws[i]? = some z := ez
    rw [ex'] at hw1
    rw [ez'] at hw2
    cases hw1
    cases hw2
    exact ⟨_, zipD_get xs ys i _ _ hx hy, .inr ⟨T, _, _, rfl, hT, rfl, rfl, .cons (Dp.mono q1 _ _ hdw1) (.cons (Dp.mono q1 _ _ hdw2) .nil)⟩⟩⟩
end
end DV

/-! DV: zip of three -/
namespace DV
open PySem L2 PyProof.Rows
def ItzK3 (k1 k2 k3 : SK) (K : PySem.W.Frag) (a b c : Addr) : It :=
  ⟨fun i H => ∃ (xs ys us : List V) (x y u : V), SqK k1 K H a xs ∧ SqK k2 K H b ys ∧ SqK k3 K H c us ∧ xs[i]? = some x ∧ ys[i]? = some y ∧ us[i]? = some u,
    fun i H v H' => ∃ T x y u, v = .ref T ∧ H T = none ∧ H' = upd H T (.tup [x, y, u]) ∧ (∀ xs, SqK k1 K H a xs → xs[i]? = some x) ∧ (∀ ys, SqK k2 K H b ys → ys[i]? = some y) ∧ ∀ us, SqK k3 K H c us → us[i]? = some u,
    fun i H => ∃ xs ys us : List V, SqK k1 K H a xs ∧ SqK k2 K H b ys ∧ SqK k3 K H c us ∧ i ≤ xs.length ∧ i ≤ ys.length ∧ i ≤ us.length ∧ (i = xs.length ∨ i = ys.length ∨ i = us.length)⟩
theorem turn_zipK3 (k1 k2 k3 : SK) {P : Program} {w : World} {K : PySem.W.Frag} {elts : List Expr} {kk : Nat} {tpos : Pos} {a b c z TI TO i1 i2 i3 : Addr} (S : ZipSep3 z TI TO i1 i2 i3 [i1, a] [i2, b] [i3, c]) (ha : a ≠ i1) (hb : b ≠ i2) (hc3 : c ≠ i3) :
    Turn P w K (.Tuple elts kk tpos) (ItzK3 k1 k2 k3 K a b c) [z, TI, TO, i1, i2, i3] z (fun i h => IsZip h z TI TO .none ∧ IsTupOf3 h TI (.ref i1) (.ref i2) (.ref i3) ∧ (∃ x y u, IsTupOf3 h TO x y u) ∧ isItK k1 h i1 a i ∧ isItK k2 h i2 b i ∧ isItK k3 h i3 c i) where
  mem := by simp
  obj := fun i h st c hc => by
    obtain ⟨hz, hTI, ⟨x, y, u, hTO⟩, h1, h2, h3⟩ := st
    have e' : c = z ∨ c = TI ∨ c = TO ∨ c = i1 ∨ c = i2 ∨ c = i3 := by simpa using hc
    rcases e' with q | q | q | q | q | q
    · rw [q]; exact ⟨_, hz, fun v q => nomatch q⟩
    · rw [q]; exact ⟨_, hTI, fun v q => nomatch q⟩
    · rw [q]; exact ⟨_, hTO, fun v q => nomatch q⟩
    · rw [q]; exact h1.obj
    · rw [q]; exact h2.obj
    · rw [q]; exact h3.obj
  keep := fun i h h' st k => by
    obtain ⟨hz, hTI, ⟨x, y, u, hTO⟩, h1, h2, h3⟩ := st
    exact ⟨k z (by simp) _ hz, k TI (by simp) _ hTI, ⟨x, y, u, k TO (by simp) _ hTO⟩, h1.at' fun o q => k i1 (by simp) o q, h2.at' fun o q => k i2 (by simp) o q, h3.at' fun o q => k i3 (by simp) o q⟩
  item := by
    intro X hP hw hK hc i pins s σ H E I hf st hg
    subst hP hw hK
    obtain ⟨hz, hTI, ⟨x0, y0, u0, hTO⟩, h1, h2, h3⟩ := st
    obtain ⟨xs, ys, us, x, y, u3, hqx, hqy, hqu, hx, hy, hu0⟩ := hg
    obtain ⟨its, rv, p, _, _⟩ := seqK k1 I hqx
    obtain ⟨its2, rv2, p2, _, _⟩ := seqK k2 I hqy
    obtain ⟨its3, rv3, p3, _, _⟩ := seqK k3 I hqu
    obtain ⟨u, hu, ru⟩ := rv.get hx
    obtain ⟨u2, hu2, ru2⟩ := rv2.get hy
    obtain ⟨u3', hu3, ru3⟩ := rv3.get hu0
    have hzl : z < s.heap.objs.size := Heap.lt_size hz
    have hl1 : i < its.toArray.size := by have q1 := (List.getElem?_eq_some_iff.mp hu).1; simpa using q1
    have hl2 : i < its2.toArray.size := by have q1 := (List.getElem?_eq_some_iff.mp hu2).1; simpa using q1
    have hl3 : i < its3.toArray.size := by have q1 := (List.getElem?_eq_some_iff.mp hu3).1; simpa using q1
    refine wpAny_pyNext_zipD3_item S (drawK k1 (A := X.A.in1) (I.ok.hd hc) i1 a ha its.toArray) (drawK k2 (A := X.A.in1) (I.ok.hd hc) i2 b hb its2.toArray) (drawK k3 (A := X.A.in1) (I.ok.hd hc) i3 c hc3 its3.toArray) hz hTI hTO ⟨h1, p⟩ ⟨h2, p2⟩ ⟨h3, p3⟩ hl1 hl2 hl3 fun v1 v2 v3 h' tk y1 y2 y3 z' TO' d1 d2 d3 hT hsz hk => ?_
    have e1 : v1 = u := by
      have q1 : its[i]? = some v1 := by simpa using y1
      rw [hu] at q1
      exact (Option.some.inj q1).symm
    have e2 : v2 = u2 := by
      have q1 : its2[i]? = some v2 := by simpa using y2
      rw [hu2] at q1
      exact (Option.some.inj q1).symm
    have e3 : v3 = u3' := by
      have q1 : its3[i]? = some v3 := by simpa using y3
      rw [hu3] at q1
      exact (Option.some.inj q1).symm
    subst e1 e2 e3
    refine ⟨_, rfl, wpAny_letOwnedTupleGo_zip (s := { s with heap := h', toks := tk }) z' fun h'' z'' sb => ?_⟩
    have hT2 : h''.get? s.heap.objs.size = some { cls := .type "tuple", data := .seq #[v1, v2, v3] } := (sb.2 _ (Nat.ne_of_gt hzl)).trans hT
    have new : ObjOk X.prog X.w (upd H s.heap.objs.size (.tup [x, y, u3])) h'' s.heap.objs.size (.tup [x, y, u3]) :=
      ⟨by show 3 ≤ sizeLine; decide, [v1, v2, v3], .cons ru (.cons ru2 (.cons ru3 .nil)), ⟨_, hT2, rfl, _, rfl⟩⟩
    have I1 : Inv X pins σ (upd H s.heap.objs.size (.tup [x, y, u3])) { s with heap := h'', toks := tk } :=
      I.turnedNew (ch := [z, TI, TO, i1, i2, i3]) (fun c o hb q => (sb.2 c (fun q' => hb (by simp [q']))).trans (hk c o (fun q' => hb (by simp [q'])) (fun q' => hb (by simp [q'])) (fun q' => hb (by simp [q'])) (fun q' => hb (by simp [q'])) (fun q' => hb (by simp [q'])) q)) hf (Nat.le_refl _) new
    refine ⟨.ref s.heap.objs.size, _, I1, rfl, ⟨_, x, y, u3, rfl, I.hok.fresh (Nat.le_refl _), rfl, fun l hl => by rw [seqK_inj k1 I hl hqx]; exact hx, fun l hl => by rw [seqK_inj k2 I hl hqy]; exact hy, fun l hl => by rw [seqK_inj k3 I hl hqu]; exact hu0⟩, ⟨z'', ?_, ⟨v1, v2, v3, ?_⟩, ?_, ?_, ?_⟩, fun c hcm => ?_⟩
    · exact (sb.2 _ S.TIz).trans (hk _ _ S.TIz S.TITO S.TIi1 S.TIi2 S.TIi3 hTI)
    · exact (sb.2 _ S.TOz).trans TO'
    · exact d1.1.at' fun o q => (sb.2 _ (Ne.symm S.zi1)).trans q
    · exact d2.1.at' fun o q => (sb.2 _ (Ne.symm S.zi2)).trans q
    · exact d3.1.at' fun o q => (sb.2 _ (Ne.symm S.zi3)).trans q
    · have hlt : c < s.heap.objs.size := by
        have e' : c = z ∨ c = TI ∨ c = TO ∨ c = i1 ∨ c = i2 ∨ c = i3 := by simpa using hcm
        rcases e' with q | q | q | q | q | q
        · rw [q]; exact hzl
        · rw [q]; exact Heap.lt_size hTI
        · rw [q]; exact Heap.lt_size hTO
        · rw [q]; obtain ⟨_, e1, _⟩ := h1.obj; exact Heap.lt_size e1
        · rw [q]; obtain ⟨_, e2, _⟩ := h2.obj; exact Heap.lt_size e2
        · rw [q]; obtain ⟨_, e3, _⟩ := h3.obj; exact Heap.lt_size e3
      rw [upd_ne (Nat.ne_of_lt hlt)]
      exact (hf c hcm).1
  done := by
    intro X hP hw hK hc i pins s σ H E I hf st hg
    subst hP hw hK
    obtain ⟨hz, hTI, ⟨x0, y0, u0, hTO⟩, h1, h2, h3⟩ := st
    obtain ⟨xs, ys, us, hqx, hqy, hqu, hle1, hle2, hle3, hend⟩ := hg
    obtain ⟨its, rv, p, _, _⟩ := seqK k1 I hqx
    obtain ⟨its2, rv2, p2, _, _⟩ := seqK k2 I hqy
    obtain ⟨its3, rv3, p3, _, _⟩ := seqK k3 I hqu
    have l1 := rv.length
    have l2 := rv2.length
    have l3 := rv3.length
    exact wpAny_pyNext_zipD3_end S (drawK k1 (A := X.A.in1) (I.ok.hd hc) i1 a ha its.toArray) (drawK k2 (A := X.A.in1) (I.ok.hd hc) i2 b hb its2.toArray) (drawK k3 (A := X.A.in1) (I.ok.hd hc) i3 c hc3 its3.toArray) hz hTI hTO ⟨h1, p⟩ ⟨h2, p2⟩ ⟨h3, p3⟩ (by simp; omega) (by simp; omega) (by simp; omega) (by simp; omega) fun h' tk hk =>
      ⟨rfl, I.turnedL (t' := tk) (ch := [z, TI, TO, i1, i2, i3]) (fun c o hb q => hk c o (fun q' => hb (by simp [q'])) (fun q' => hb (by simp [q'])) (fun q' => hb (by simp [q'])) (fun q' => hb (by simp [q'])) (fun q' => hb (by simp [q'])) q) hf⟩
  self := fun A i s Q E st h => wpAny_pyIter_zip st.1 h
def iZipK3 (K : PySem.W.Frag) (ta : TA) : TI := fun σ H R => ta σ H fun vs H2 => ∃ k1 k2 k3 a b c xs ys us, vs = [.ref a, .ref b, .ref c] ∧ SqK k1 K H2 a xs ∧ SqK k2 K H2 b ys ∧ SqK k3 K H2 c us ∧ R (ItzK3 k1 k2 k3 K a b c) H2
theorem pi_zipK3 {X : Cx} {e e2 e3 : Expr} {ta : TA} {p pos tpos : Pos} {elts : List Expr} {kk : Nat} (hg : Gl X "zip") (hm : X.mg "zip" = none) (ha : PA X [e, e2, e3] ta)
    (hs : starEach [e, e2, e3] X.env = (false, eval e X.env) :: starEach [e2, e3] X.env := by rfl) (hpl : (backTo pos (starEach [e2, e3] X.env)).any (·.1) = false := by rfl) :
    PI X (.Tuple elts kk tpos) (.Call (.Name "zip" p) [e, e2, e3] [] pos) (iZipK3 X.K ta) := by
  refine ⟨fun pins s σ H R I h => ?_⟩
  refine Call_ (ld_blt I hg hm PyProof.Rows.boot_zip (PyProof.Rows.callWith_type1 (thn (ha.run pos pins s σ H _ I h) fun us s1 ⟨vs, H1, I1, r1, q1⟩ => ?_) hs hpl))
  · obtain ⟨k1, k2, k3, a, b, c, xs, ys, us3, rfl, hqx, hqy, hqu, q⟩ := q1
    cases r1 with
    | cons r rr =>
      cases rr with
      | cons r' rr =>
        cases rr with
        | cons r'' rr =>
          cases rr
          cases r
          cases r'
          cases r''
          obtain ⟨its, rv, p1, _, la⟩ := seqK k1 I1 hqx
          obtain ⟨its2, rv2, p2, _, lb⟩ := seqK k2 I1 hqy
          obtain ⟨its3, rv3, p3, _, lc⟩ := seqK k3 I1 hqu
          refine zip_begins3 (beginK k1 a its.toArray) (beginK k2 b its2.toArray) (beginK k3 c its3.toArray) p1 p2 p3 fun h' hz hTI hTO g1 g2 g3 hsz hk => wpAny_pyIter_zip hz ?_
          have I2 : Inv X pins σ H1 { s1 with heap := h' } := I1.kept (t' := s1.toks) hk
          refine ⟨s1.heap.objs.size + 5, [s1.heap.objs.size + 5, s1.heap.objs.size + 3, s1.heap.objs.size + 4, s1.heap.objs.size, s1.heap.objs.size + 1, s1.heap.objs.size + 2], _, _, H1, rfl, I2,
            turn_zipK3 k1 k2 k3 (zip_sep3 (fun c hc => by simp at hc; rw [hc]; exact la) (fun c hc => by simp at hc; rw [hc]; exact lb) (fun d hd => by simp at hd; rw [hd]; exact lc)) (Nat.ne_of_lt la) (Nat.ne_of_lt (Nat.lt_succ_of_lt lb)) (Nat.ne_of_lt (Nat.lt_succ_of_lt (Nat.lt_succ_of_lt lc))), ⟨hz, hTI, ⟨_, _, _, hTO⟩, .new k1 g1, .new k2 g2, .new k3 g3⟩, fun c hcm => ?_, q⟩
          have e' : c = s1.heap.objs.size + 5 ∨ c = s1.heap.objs.size + 3 ∨ c = s1.heap.objs.size + 4 ∨ c = s1.heap.objs.size ∨ c = s1.heap.objs.size + 1 ∨ c = s1.heap.objs.size + 2 := by simpa using hcm
          have hle : s1.heap.objs.size ≤ c := by
            rcases e' with z | z | z | z | z | z
            · rw [z]; exact Nat.le_add_right _ _
            · rw [z]; exact Nat.le_add_right _ _
            · rw [z]; exact Nat.le_add_right _ _
            · rw [z]; exact Nat.le_refl _
            · rw [z]; exact Nat.le_add_right _ _
            · rw [z]; exact Nat.le_add_right _ _
          exact I1.fpOk hle (I1.hok.fresh hle)
def YTrip (xs ys us : Nat → Option V) : Nat → Hp → V → Hp → Prop := fun i H v H' => ∃ T x y u, v = .ref T ∧ H T = none ∧ H' = upd H T (.tup [x, y, u]) ∧ xs i = some x ∧ ys i = some y ∧ us i = some u
theorem walk_zipK3 (k1 k2 k3 : SK) {K : PySem.W.Frag} {a b c : Addr} {xs ys us : List V} {n : Nat} (hn : n = min xs.length (min ys.length us.length)) : Walk (ItzK3 k1 k2 k3 K a b c) n (fun H => SqK k1 K H a xs ∧ SqK k2 K H b ys ∧ SqK k3 K H c us) (YTrip (fun i => xs[i]?) (fun i => ys[i]?) (fun i => us[i]?)) := by
  subst hn
  refine ⟨fun i _ hi q => ?_, fun _ q => ⟨xs, ys, us, q.1, q.2.1, q.2.2, by omega, by omega, by omega, by omega⟩, fun i H v H' _ q y => ?_⟩
  · have h1 : i < xs.length := by omega
    have h2 : i < ys.length := by omega
    have h3 : i < us.length := by omega
    exact ⟨xs, ys, us, xs[i], ys[i], us[i], q.1, q.2.1, q.2.2, by simp [h1], by simp [h2], by simp [h3]⟩
  · obtain ⟨T, x, z, u, h1, h2, h3, h4, h5, h6⟩ := y
    exact ⟨T, x, z, u, h1, h2, h3, h4 xs q.1, h5 ys q.2.1, h6 us q.2.2⟩
section
variable {X : Cx} {K : PySem.W.Frag} {R : Option Addr} {e e2 e3 : Expr} {pos p : Pos} {t1 t2 t3 : TE}
def zip3D : List D → List D → List D → List D
  | x :: xs, y :: ys, z :: zs => .tuple [x, y, z] :: zip3D xs ys zs
  | _, _, _ => []
theorem zip3D_len : ∀ xs ys zs : List D, (zip3D xs ys zs).length = min xs.length (min ys.length zs.length)
  | [], ys, zs => by simp [zip3D]
  | x :: xs, [], zs => by simp [zip3D]
  | x :: xs, y :: ys, [] => by simp [zip3D]
  | x :: xs, y :: ys, z :: zs => by
    rw [zip3D, List.length_cons, zip3D_len xs ys zs, List.length_cons, List.length_cons, List.length_cons]
    omega
theorem zip3D_get : ∀ (xs ys zs : List D) (i : Nat) (x y z : D), xs[i]? = some x → ys[i]? = some y → zs[i]? = some z → (zip3D xs ys zs)[i]? = some (.tuple [x, y, z])
  | [], _, _, _, _, _, _, h, _, _ => by simp at h
  | _ :: _, [], _, _, _, _, _, _, h, _ => by simp at h
  | _ :: _, _ :: _, [], _, _, _, _, _, _, h => by simp at h
  | a :: xs, b :: ys, c :: zs, 0, x, y, z, h, h2, h3 => by
    simp at h h2 h3; subst h h2 h3
    rfl
  | a :: xs, b :: ys, c :: zs, i + 1, x, y, z, h, h2, h3 => by
    have := zip3D_get xs ys zs i x y z (by simpa using h) (by simpa using h2) (by simpa using h3)
    simpa [zip3D] using this
def iZip3F (f g h : Env → M (List D × Option Nat)) : Env → M (List D × Option Nat) := fun ρ => bnd (f ρ) fun p => bnd (g ρ) fun q => bnd (h ρ) fun r => bnd (lft (joinLk p.2 q.2)) fun l => bnd (lft (joinLk l r.2)) fun l2 => ret (zip3D p.1 q.1 r.1, l2)
theorem addH_or {P P2 : Hp} {c : Addr} {o : HO} (h : addH P P2 c = some o) : P c = some o ∨ P2 c = some o := by
  unfold addH at h
  cases e6 : P c with
  | none => rw [e6] at h; exact .inr h
  | some o2 => rw [e6] at h; cases h; exact .inl rfl
theorem addH_l {P P2 H3 : Hp} (q : ∀ c o, addH P P2 c = some o → H3 c = some o) : ∀ c o, P c = some o → H3 c = some o := fun c o e => q c o (by unfold addH; rw [e])
theorem addH_r {P P2 H H3 : Hp} (pn : ∀ c o, P c = some o → H c = some o) (pn2 : ∀ c o, P2 c = some o → H c = some o) (q : ∀ c o, addH P P2 c = some o → H3 c = some o) : ∀ c o, P2 c = some o → H3 c = some o := fun c o e => by
  refine q c o ?_
  unfold addH
  cases e6 : P c with
  | none => exact e
  | some o2 =>
    have z1 := pn c o2 e6
    have z2 := pn2 c o e
    rw [z1] at z2
    cases z2
    rfl
theorem di_zip3 {f g h : Env → M (List D × Option Nat)} {elts : List Expr} {kk : Nat} {tpos : Pos} (hgl : Gl X "zip") (hm : X.mg "zip" = none) (h1 : DSrc X R e t1 f) (h2 : DSrc X R e2 t2 g) (h3 : DSrc X R e3 t3 h) (hs : starEach [e, e2, e3] X.env = (false, eval e X.env) :: starEach [e2, e3] X.env := by rfl) (hs2 : starEach [e2, e3] X.env = (false, eval e2 X.env) :: starEach [e3] X.env := by rfl) (hs3 : starEach [e3] X.env = (false, eval e3 X.env) :: starEach [] X.env := by rfl)
    (hpl : (backTo pos (starEach [e2, e3] X.env)).any (·.1) = false := by rfl) :
    DI X R (.Tuple elts kk tpos) (.Call (.Name "zip" p) [e, e2, e3] [] pos) (iZipK3 X.K (tCons t1 (tCons t2 (tCons t3 tNil)))) (iZip3F f g h) := ⟨pi_zipK3 hgl hm (pa_cons h1.pe (pa_cons h2.pe (pa_cons h3.pe pa_nil hs3) hs2) hs) hs hpl, fun L E ρ σ F H rs its lk rs' Rq r hf k => by
  obtain ⟨⟨xs, lk1⟩, rs1, e1, hf1⟩ := bnd_some hf
  obtain ⟨⟨ys, lk2⟩, rs2, e2, hf2⟩ := bnd_some hf1
  obtain ⟨⟨us, lk3⟩, rs3, e3, hf3⟩ := bnd_some hf2
  obtain ⟨l, rs4, e4, hf4⟩ := bnd_some hf3
  obtain ⟨e5, q5⟩ := lft_some e4
  obtain ⟨l2, rs5, e6, hf5⟩ := bnd_some hf4
  obtain ⟨e7, q7⟩ := lft_some e6
  obtain ⟨e8, q8⟩ := ret_some hf5
  cases e8
  subst q8 q7 q5
  obtain ⟨j1, j2⟩ := joinLk_l e5
  obtain ⟨j4, j3⟩ := joinLk_l e7
  have up : ∀ {k : Option Nat}, (k = none ∨ k = l) → k = none ∨ k = lk := fun {k} z => by
    rcases z with z | z
    · exact .inl z
    · rcases j4 with y | y
      · exact .inl (z.trans y)
      · exact .inr (z.trans y)
  refine h1.sem L E ρ σ F H rs xs lk1 rs1 _ r e1 fun v1 F1 H1 s1 g1 => ?_
  have r1 := r.step s1
  refine h2.sem L E ρ σ F1 H1 rs1 ys lk2 _ _ r1 e2 fun v2 F2 H2 s2 g2 => ?_
  have r2 := r1.step s2
  have s12 := s1.trans r.row s2
  refine h3.sem L E ρ σ F2 H2 rs2 us lk3 _ _ r2 e3 fun v3 F3 H3 s3 g3 => ?_
  have r3 := r2.step s3
  have s13 := s12.trans r.row s3
  obtain ⟨a, vs, kd, P, rfl, hd, pn, hG⟩ := (((g1.step s2).step s3).any (up j1)).pin r
  obtain ⟨b, ws, kd2, P2, rfl, hd2, pn2, hG2⟩ := (((g2.older fun a q => s1.back r.row q).step s3).any (up j2)).pin r
  obtain ⟨c, zs, kd3, P3, rfl, hd3, pn3, hG3⟩ := ((g3.older fun a q => s12.back r.row q).any j3).pin r
  have w1 : ∀ c o, P c = some o → H3 c = some o := fun c o q => (pn c o q).1
  have w2 : ∀ c o, P2 c = some o → H3 c = some o := fun c o q => (pn2 c o q).1
  have w3 : ∀ c o, P3 c = some o → H3 c = some o := fun c o q => (pn3 c o q).1
  have w12 : ∀ c o, addH P P2 c = some o → H3 c = some o := fun c o q => by
    rcases addH_or q with z | z
    · exact w1 c o z
    · exact w2 c o z
  refine ⟨kd, kd2, kd3, a, b, c, vs, ws, zs, rfl, hG H3 w1 r3.fr, hG2 H3 w2 r3.fr, hG3 H3 w3 r3.fr, k _ F3 H3 s13 ⟨fun H => SqK kd X.K H a vs ∧ SqK kd2 X.K H b ws ∧ SqK kd3 X.K H c zs, YTrip (fun i => vs[i]?) (fun i => ws[i]?) (fun i => zs[i]?), addH (addH P P2) P3, ?_, ?_, ?_, ?_⟩⟩
  · exact walk_zipK3 kd kd2 kd3 (by rw [zip3D_len, hd.len, hd2.len, hd3.len])
  · intro c o e
    rcases addH_or e with z | z
    · rcases addH_or z with z | z
      · exact pn c o z
      · exact pn2 c o z
    · exact pn3 c o z
  · intro H4 q1 q2
    have a12 := addH_l q1
    exact ⟨hG H4 (addH_l a12) q2, hG2 H4 (addH_r w1 w2 a12) q2, hG3 H4 (addH_r w12 w3 q1) q2⟩
  · intro i H4 w H5 F4 hi q1 q2 y
    obtain ⟨T, x, y, z, rfl, hT, rfl, ex, ey, ez⟩ := y
    have hi' : i < (zip3D xs ys us).length := hi
    rw [zip3D_len] at hi'
    have hx : xs[i]? = some (xs[i]'(by omega)) := List.getElem?_eq_getElem (by omega)
    have hy : ys[i]? = some (ys[i]'(by omega)) := List.getElem?_eq_getElem (by omega)
    have hz : us[i]? = some (us[i]'(by omega)) := List.getElem?_eq_getElem (by omega)
    obtain ⟨a1, hw1, hdw1⟩ := hd.get hx
    obtain ⟨a2, hw2, hdw2⟩ := hd2.get hy
    obtain ⟨a3, hw3, hdw3⟩ := hd3.get hz
    have ex' : vs[i]? = some x := ex
    have ey' : ws[i]? = some y := ey
    have ez' : zs[i]? = some z := ez
    rw [ex'] at hw1
    rw [ey'] at hw2
    rw [ez'] at hw3
    cases hw1
    cases hw2
    cases hw3
    exact ⟨_, zip3D_get xs ys us i _ _ _ hx hy hz, .inr ⟨T, _, _, rfl, hT, rfl, rfl, .cons (Dp.mono q1 _ _ hdw1) (.cons (Dp.mono q1 _ _ hdw2) (.cons (Dp.mono q1 _ _ hdw3) .nil))⟩⟩⟩
end
end DV

/-! DV: comprehensions with two fors -/
namespace DV
open PySem L2
section
variable {X : Cx} {K : PySem.W.Frag} {R : Option Addr} {L : Nat → Option (Addr × List V)} {E F F' H H' : Hp} {ρ ρ' : Env} {σ σ' : L2.St} {rs rs' : RS}
variable {S S' S1 : List Nat} {tg it tg1 it1 elt e c : Expr} {es ifs ifs1 : List Expr} {g g1 : TG} {hg hg1 : D → Env → Option Env} {pos p : Pos} {tt tt1 : TT} {te : TE} {wi wi1 : TI}
def lc2F (tg : D → Env → Option Env) (tst : Env → M Bool) (fi1 : Env → M (List D × Option Nat)) (vs1 : List Nat) (tg1 : D → Env → Option Env) (tst1 : Env → M Bool) (el : Env → M RV) (ρ : Env) : List D → M (List D)
  | [] => ret []
  | x :: xs => bnd (lft (tg x ρ)) fun ρ1 => bnd (tst ρ1) fun b => if b = true then bnd (fi1 ρ1) fun q => bnd (lcF tg1 tst1 el (wipeE ρ1 vs1) q.1) fun d1 => bnd (lc2F tg tst fi1 vs1 tg1 tst1 el ρ xs) fun ds => ret (d1 ++ ds) else lc2F tg tst fi1 vs1 tg1 tst1 el ρ xs
def eLc2 (fi : Env → M (List D × Option Nat)) (vs : List Nat) (tg : D → Env → Option Env) (tst : Env → M Bool) (fi1 : Env → M (List D × Option Nat)) (vs1 : List Nat) (tg1 : D → Env → Option Env) (tst1 : Env → M Bool) (el : Env → M RV) : Env → M RV := fun ρ =>
  bnd (fi ρ) fun p => bnd (lc2F tg tst fi1 vs1 tg1 tst1 el (wipeE ρ vs) p.1) fun ds => if ds.length ≤ 10000 then ret (.n ds) else fail
/-- the list that grows -/
structure Acc (K : PySem.W.Frag) (R : Option Addr) (F1 H1 : Hp) (Da : Addr) (F2 H2 : Hp) (rs : RS) (av : List V) (ad : List D) : Prop where
  st : Step K R rs F1 H1 F2 H2
  at_ : H2 Da = some (.lst av)
  fr : F2 Da = none
  all : DpAll K F2 av ad
theorem Acc.step {F1 H1 F2 H2 F3 H3 : Hp} {Da : Addr} {rs rs' : RS} {av : List V} {ad : List D} (hDr : some Da ≠ R) (r0 : RowOk K R rs0 F1 H1) (a : Acc K R F1 H1 Da F2 H2 rs av ad) (s : Step K R rs' F2 H2 F3 H3) : Acc K R F1 H1 Da F3 H3 rs' av ad := by
  refine ⟨a.st.trans r0 s, s.keep Da _ a.at_ hDr, ?_, Dp.monoA s.sub _ _ a.all⟩
  cases q : F3 Da with
  | none => rfl
  | some o =>
    rcases s.new Da o q with z | z
    · rw [a.fr] at z; cases z
    · rw [a.at_] at z; cases z
/-- a step but for the list at Da -/
structure StepX (K : PySem.W.Frag) (R : Option Addr) (Da : Addr) (rs' : RS) (F H F' H' : Hp) : Prop where
  keep : ∀ a o, H a = some o → a ≠ Da → some a ≠ R → (n : Fx K a o := by exact .inl fun _ z => nomatch z) → H' a = some o
  sub : ∀ a o, F a = some o → F' a = some o
  new : ∀ a o, F' a = some o → F a = some o ∨ H a = none
  fin : ∀ a o, F' a = some o → H' a = some o
  row : RowOk K R rs' F' H'
  rF : ∀ r, R = some r → F' r = none
  dd : H' Da ≠ none
theorem StepX.of {Da : Addr} (s : Step K R rs' F H F' H') (d : H' Da ≠ none) : StepX K R Da rs' F H F' H' := ⟨fun a o h _ q n => s.keep a o h q n, s.sub, s.new, s.fin, s.row, s.rF, d⟩
theorem StepX.back {Da : Addr} (s : StepX K R Da rs' F H F' H') {a : Addr} (h : H' a = none) : H a = none := by
  cases e : H a with
  | none => rfl
  | some o =>
    by_cases q : some a = R
    · obtain ⟨b, hb, _⟩ := s.row.at_ a q.symm
      rw [h] at hb; cases hb
    · by_cases q2 : a = Da
      · subst q2; exact absurd h s.dd
      · by_cases t : ∃ n, (a, n) ∈ tabsOf K
        · obtain ⟨n, t⟩ := t
          obtain ⟨ps, hb⟩ := tabs_at s.row.tab t
          rw [h] at hb; cases hb
        · rw [s.keep a o e q2 q (.inr fun n z => t ⟨n, z⟩)] at h; cases h
theorem StepX.trans {Da : Addr} {rs1 rs2 : RS} {F1 H1 F2 H2 : Hp} (a : StepX K R Da rs1 F H F1 H1) (b : StepX K R Da rs2 F1 H1 F2 H2) : StepX K R Da rs2 F H F2 H2 :=
  ⟨fun c o h q1 q2 n => b.keep c o (a.keep c o h q1 q2 n) q1 q2 n, fun c o h => b.sub c o (a.sub c o h), fun c o h => by
    rcases b.new c o h with z | z
    · exact a.new c o z
    · exact .inr (a.back z), b.fin, b.row, b.rF, b.dd⟩
theorem Rel.stepX {Da : Addr} (r : Rel K R L E F ρ σ rs H) (s : StepX K R Da rs' F H F' H') (hE : E Da = none) (hno : ∀ (i : Nat) (ds : SV), ρ[i]? = some (some ds) → ds.ow → σ[i]? = some (some (V.ref Da)) → False) : Rel K R L E F' ρ σ rs' H' where
  len := r.len
  ex := fun a o h => s.keep a o (r.ex a o h) (fun q => by rw [q, hE] at h; cases h) (fun q => by
    have := (r.rE a q.symm).1
    rw [h] at this; cases this) (r.ent a o h)
  ent := r.ent
  fr := s.fin
  row := s.row
  rE := fun q e => ⟨(r.rE q e).1, s.rF q e⟩
  lk := r.lk
  sl := fun i sv h => by
    obtain ⟨v, e, q⟩ := r.sl i sv h
    refine ⟨v, e, ?_⟩
    cases sv with
    | d x => exact Dp.mono s.sub _ _ q
    | k ds =>
      obtain ⟨a, vs, hl, e1, h3⟩ := q
      exact ⟨a, vs, hl, e1, Dp.monoA s.sub _ _ h3⟩
    | o ds =>
      obtain ⟨a, vs, e1, h1, h2, h3, h4, h5⟩ := q
      have hDa : a ≠ Da := fun z => by
        subst e1 z
        exact hno i _ h trivial e
      refine ⟨a, vs, e1, s.keep _ _ h1 hDa h4, h2, ?_, h4, Dp.monoA s.sub _ _ h5⟩
      cases q : F' a with
      | none => rfl
      | some o =>
        rcases s.new a o q with z | z
        · rw [h3] at z; cases z
        · rw [h1] at z; cases z
    | g ds =>
      obtain ⟨a, vs, e1, h1, h2, h3, h4, h5⟩ := q
      have hDa : a ≠ Da := fun z => by
        subst e1 z
        exact hno i _ h trivial e
      refine ⟨a, vs, e1, s.keep _ _ h1 hDa h4 h5.fx, h2, ?_, h4, h5.mono s.sub⟩
      cases q : F' a with
      | none => rfl
      | some o =>
        rcases s.new a o q with z | z
        · rw [h3] at z; cases z
        · rw [h1] at z; cases z
    | un => exact trivial
    | ex _ _ => exact ⟨q.1, XF.mono s.sub q.2⟩
    | fn _ => exact q
    | row => exact q
  own := r.own
/-- an item more -/
theorem Acc.add {F1 H1 F2 H2 F3 H3 : Hp} {Da : Addr} {rs rs2 : RS} {av : List V} {ad : List D} (hD : H1 Da = none) (hDr : some Da ≠ R) (r0 : RowOk K R rs0 F1 H1) (a : Acc K R F1 H1 Da F2 H2 rs av ad) (s : Step K R rs2 F2 H2 F3 H3) {w : V} {y : RV} {d : D} (hw : VR K R F3 H2 H3 w y) (e : toD y = some d) :
    ∃ F4, Acc K R F1 H1 Da F4 (upd H3 Da (.lst (av ++ [w]))) rs2 (av ++ [w]) (ad ++ [d]) ∧ H3 Da = some (.lst av) ∧ StepX K R Da rs2 F2 H2 F4 (upd H3 Da (.lst (av ++ [w]))) := by
  have a3 := a.step hDr r0 s
  obtain ⟨F7, s17, hd7, k7, n7⟩ := freeze1 (Hb := H2) a3.st r0 (fun b q => a.st.back r0 q) hw e
  have hDF7 : F7 Da = none := n7 Da (by rw [a.at_]; exact fun z => nomatch z) a3.fr
  have hrow : RowOk K R rs2 F7 (upd H3 Da (.lst (av ++ [w]))) := ⟨fun q e => by
    obtain ⟨b, z1, z2⟩ := s17.row.at_ q e
    exact ⟨b, by rw [upd_ne (fun zz => hDr (by rw [← zz, e]))]; exact z1, z2⟩, tabs_upd s17.row.tab (.inr ⟨_, a3.at_⟩), s17.row.fnt⟩
  have hfin : ∀ b o, F7 b = some o → (upd H3 Da (.lst (av ++ [w]))) b = some o := fun b o q => by
    rw [upd_ne (fun zz => by rw [zz, hDF7] at q; cases q)]
    exact s17.fin b o q
  refine ⟨F7, ⟨⟨fun b o q z n => ?_, s17.sub, s17.new, hfin, hrow, s17.rF⟩, upd_same, hDF7, (Dp.monoA k7 _ _ a3.all).append (.cons hd7 .nil)⟩, a3.at_, ⟨fun b o q z1 z2 n => ?_, fun b o q => k7 b o (s.sub b o q), fun b o q => ?_, hfin, hrow, s17.rF, by rw [upd_same]; exact fun z => nomatch z⟩⟩
  · rw [upd_ne (fun zz => by rw [zz, hD] at q; cases q)]
    exact s17.keep b o q z n
  · rw [upd_ne z1]
    exact s.keep b o q z2 n
  · cases e3 : F3 b with
    | some o3 =>
      have := k7 b o3 e3
      rw [q] at this
      cases this
      exact s.new b o e3
    | none =>
      cases e2 : H2 b with
      | none => exact .inr rfl
      | some o2 =>
        have := n7 b (by rw [e2]; exact fun z => nomatch z) e3
        rw [q] at this
        cases this
/-- the targets store data alone -/
def GOwn (S : List Nat) (h : D → Env → Option Env) : Prop := ∀ x ρ ρ', h x ρ = some ρ' → ∀ (i : Nat) (ds : SV), ρ'[i]? = some (some ds) → ds.ow → ρ[i]? = some (some ds) ∧ i ∉ S
def GsOwn (S : List Nat) (h : List D → Env → Option Env) : Prop := ∀ x ρ ρ', h x ρ = some ρ' → ∀ (i : Nat) (ds : SV), ρ'[i]? = some (some ds) → ds.ow → ρ[i]? = some (some ds) ∧ i ∉ S
theorem gown_nm (i : Nat) : GOwn [i] (gNm i) := fun x ρ ρ' e j ds h ow => by
  cases e
  by_cases hj : j = i
  · subst hj
    have hl : j < ρ.length := by
      have := (List.getElem?_eq_some_iff.mp h).1
      rw [List.length_set] at this
      exact this
    rw [List.getElem?_set_self hl] at h
    cases h
    cases ow
  · rw [List.getElem?_set_ne (Ne.symm hj)] at h
    exact ⟨h, by simpa using hj⟩
theorem gowns_nil : GsOwn [] gNone := fun x ρ ρ' e j ds h ow => by
  cases x with
  | nil => cases e; exact ⟨h, by simp⟩
  | cons _ _ => cases e
theorem gowns_cons {S S' : List Nat} {h1 : D → Env → Option Env} {h2 : List D → Env → Option Env} (a : GOwn S h1) (b : GsOwn S' h2) : GsOwn (S ++ S') (gMore h1 h2) := fun x ρ ρ' e j ds h ow => by
  cases x with
  | nil => cases e
  | cons x xs =>
    have e' : (match h1 x ρ with | some ρ1 => h2 xs ρ1 | none => none) = some ρ' := e
    cases e1 : h1 x ρ with
    | none => rw [e1] at e'; cases e'
    | some ρ1 =>
      rw [e1] at e'
      obtain ⟨q1, q2⟩ := b xs ρ1 ρ' e' j ds h ow
      obtain ⟨q3, q4⟩ := a x ρ ρ1 e1 j ds q1 ow
      exact ⟨q3, fun z => (List.mem_append.mp z).elim q4 q2⟩
theorem gown_tup {S : List Nat} {n : Nat} {h : List D → Env → Option Env} (a : GsOwn S h) : GOwn S (gTupF n h) := fun x ρ ρ' e j ds q ow => by
  cases x with
  | tuple xs =>
    have e' : (if xs.length = n then h xs ρ else none) = some ρ' := e
    by_cases hl : xs.length = n
    · rw [if_pos hl] at e'
      exact a xs ρ ρ' e' j ds q ow
    · rw [if_neg hl] at e'; cases e'
  | none => cases e
  | bool _ => cases e
  | int _ => cases e
  | str _ => cases e
  | list _ => cases e
  | dict _ => cases e
theorem in_it {J : It} {n : Nat} {G : Hp → Prop} {Y : Nat → Hp → V → Hp → Prop} (w : Walk J n G Y) {H1 : Hp} {Qd : Hp → Prop} (B : V → Hp → (Hp → Prop) → Prop) (Pv : Nat → Hp → Prop) (h0 : Pv 0 H1) (hG : ∀ i H, i ≤ n → Pv i H → G H)
    (hs : ∀ i x H H', i < n → Pv i H → Y i H x H' → B x H' (Pv (i + 1))) (hd : ∀ H, Pv n H → Qd H) :
    ∃ W : Nat → Nat → Hp → Prop, (∃ m, W 0 m H1) ∧ ∀ i m H, W i m H → (J.stop i H ∧ Qd H) ∨ (J.go i H ∧ ∃ Nx : Hp → Prop, (∀ H', Nx H' → ∃ m', m' < m ∧ W (i + 1) m' H') ∧ ∀ x H', J.yld i H x H' → B x H' Nx) := by
  refine ⟨fun i m H => m = n - i ∧ i ≤ n ∧ Pv i H, ⟨n, by simp, Nat.zero_le _, h0⟩, ?_⟩
  rintro i m H ⟨rfl, hi, p⟩
  have q := hG i H hi p
  rcases Nat.lt_or_ge i n with hlt | hge
  · exact .inr ⟨w.goes i H hlt q, Pv (i + 1), fun H' p' => ⟨n - (i + 1), by omega, rfl, hlt, p'⟩, fun x H' y => hs i x H H' hlt p (w.yields i H x H' hlt q y)⟩
  · obtain rfl : i = n := by omega
    exact .inl ⟨w.stops H q, hd H p⟩
theorem OwnOld.wipe : ∀ (vs : List Nat) {H : Hp} {ρ : Env} {σ : L2.St}, OwnOld H ρ σ → OwnOld H (wipeE ρ vs) (L2.wipe σ vs)
  | [], _, _, _, h => h
  | v :: vs, H, ρ, σ, h => fun m es a e1 ow e2 => by
    have e1' : ((wipeE ρ vs).set v none)[m]? = some (some es) := e1
    have e2' : ((L2.wipe σ vs).set v none)[m]? = some (some (V.ref a)) := e2
    by_cases hm : m = v
    · subst hm
      have hl : m < (wipeE ρ vs).length := by
        have := (List.getElem?_eq_some_iff.mp e1').1
        rw [List.length_set] at this
        exact this
      rw [List.getElem?_set_self hl] at e1'
      cases e1'
    · rw [List.getElem?_set_ne (Ne.symm hm)] at e1' e2'
      exact OwnOld.wipe vs h m es a e1' ow e2'
theorem esem_lc2_at {fi fi1 : Env → M (List D × Option Nat)} {vs vs1 : List Nat} {tst tst1 : Env → M Bool} {el : Env → M RV} (r : Rel K R L E F ρ σ rs H) (hi : ∀ (its : List D) (lk : Option Nat) (rs1 : RS) (Rq : It → Hp → Prop), fi ρ rs = some ((its, lk), rs1) → (∀ J F' H', Step K R rs1 F H F' H' → IterOk K R E ρ σ H F' H' J its lk → Rq J H') → wi σ H Rq)
    (hgs : GSem K R S g hg) (hown : GOwn S hg) (hS : ∀ i ∈ S, i ∈ vs) (ht : TSem K R tt tst) (hi1 : ISem K R wi1 fi1) (hgs1 : GSem K R S1 g1 hg1) (hS1 : ∀ i ∈ S1, i ∈ vs1) (ht1 : TSem K R tt1 tst1) (he : ESem K R te el)
    {x : RV} {rs' : RS} {Q : VK} (hf : eLc2 fi vs hg tst fi1 vs1 hg1 tst1 el ρ rs = some (x, rs')) (kk : ∀ v F' H', Step K R rs' F H F' H' → VR K R F' H H' v x → Q v H') : tLc2 wi g tt wi1 g1 tt1 te vs vs1 σ H Q := by
  obtain ⟨⟨its, lk⟩, rs1, e1, hf1⟩ := bnd_some hf
  obtain ⟨ds, rs2, e2, hf2⟩ := bnd_some hf1
  by_cases hlen : ds.length ≤ 10000
  · have hf2' : (if ds.length ≤ 10000 then ret (RV.n ds) else fail) rs2 = some (x, rs') := hf2
    rw [if_pos hlen] at hf2'
    obtain ⟨e3, q3⟩ := ret_some hf2'
    subst e3 q3
    have e2 : lc2F hg tst fi1 vs1 hg1 tst1 el (wipeE ρ vs) its rs1 = some (ds, rs') := e2
    refine hi its lk rs1 _ e1 fun J F1 H1 s1 ⟨G, Y, P, wk, pn, hG, hY⟩ => ?_
    intro Da hD
    have r1 := r.step s1
    have hDr : some Da ≠ R := fun q => by
      obtain ⟨a, e, _⟩ := r1.row.at_ Da q.symm
      rw [hD] at e; cases e
    have hDF1 : F1 Da = none := by
      cases q : F1 Da with
      | none => rfl
      | some o =>
        have := s1.fin Da o q
        rw [hD] at this; cases this
    refine in_it wk (fun x H' Nx => g x (L2.wipe σ vs) H' fun σ2 H2 => L2.wipe σ2 vs = L2.wipe σ vs ∧ tt σ2 H2 fun b H3 => if b = true then wi1 σ2 H3 fun J1 H4 => ∃ W1 : Nat → Nat → Hp → Prop, (∃ m, W1 0 m H4) ∧ ∀ j k H, W1 j k H →
      (J1.stop j H ∧ Nx H) ∨ (J1.go j H ∧ ∃ Nx1 : Hp → Prop, (∀ H', Nx1 H' → ∃ k', k' < k ∧ W1 (j + 1) k' H') ∧ ∀ x H', J1.yld j H x H' → g1 x (L2.wipe σ2 vs1) H' fun σ3 H5 => L2.wipe σ3 vs1 = L2.wipe σ2 vs1 ∧ tt1 σ3 H5 fun b H6 =>
        if b = true then te σ3 H6 fun y H7 => ∃ acc, H7 Da = some (.lst acc) ∧ acc.length < sizeLine ∧ Nx1 (upd H7 Da (.lst (acc ++ [y]))) else Nx1 H6) else Nx H3) (fun i H2 => ∃ F2 rs3 av ad rest, Acc K R F1 H1 Da F2 H2 rs3 av ad ∧ ad ++ rest = ds ∧ lc2F hg tst fi1 vs1 hg1 tst1 el (wipeE ρ vs) (its.drop i) rs3 = some (rest, rs')) ?_ ?_ ?_ ?_
    · exact ⟨F1, rs1, [], [], ds, ⟨(Step.new_lst (vs := []) r1.refl hD).1, upd_same, hDF1, .nil⟩, rfl, e2⟩
    · rintro i H2 hi' ⟨F2, rs3, av, ad, rest, a2, _⟩
      exact hG H2 (fun a o q => a2.st.keep a o (pn a o q).1 (pn a o q).2.1 (pn a o q).2.2.1) fun a o q => a2.st.fin a o (a2.st.sub a o q)
    · rintro i v H2 H3 hi' ⟨F2, rs3, av, ad, rest, a2, hsum, el1⟩ hy
      have r2 := r.step (s1.trans r.row a2.st)
      obtain ⟨x, F3, ex, s3, hd⟩ := hY.step hi' a2.st.sub r2.refl hy
      have er : its.drop i = x :: its.drop (i + 1) := by
        have hx : its[i] = x := by
          rw [List.getElem?_eq_getElem hi'] at ex
          exact Option.some.inj ex
        rw [← hx]
        exact List.drop_eq_getElem_cons hi'
      rw [er] at el1
      obtain ⟨ρ3, rs4, e4, el2⟩ := bnd_some el1
      obtain ⟨e5, q5⟩ := lft_some e4
      subst q5
      obtain ⟨b, rs5, e6, el3⟩ := bnd_some el2
      have a3 := a2.step hDr r1.row s3
      have r3 := r2.step s3
      refine hgs L E F3 (wipeE ρ vs) (L2.wipe σ vs) _ H3 v x ρ3 _ (r3.wipe vs) hd e5 fun σ4 r4 o4 => ⟨?_, ?_⟩
      · rw [wipe_off o4 hS]
        apply List.ext_getElem?
        intro j
        rw [wipe_at, wipe_at]
        by_cases hj : j ∈ vs
        · rw [if_pos hj, if_pos hj, wipe_length]
        · rw [if_neg hj, if_neg hj]
      · refine ht L E ρ3 σ4 F3 H3 _ b rs5 _ r4 e6 fun F5 H5 s5 => ?_
        have a5 := a3.step hDr r1.row s5
        have r5 := r4.step s5
        cases b with
        | true =>
          rw [if_pos rfl] at el3 ⊢
          obtain ⟨⟨its1, lk1⟩, rs6, e7, el4⟩ := bnd_some el3
          obtain ⟨d1, rs7, e8, el5⟩ := bnd_some el4
          obtain ⟨ds2, rs8, e9, el6⟩ := bnd_some el5
          obtain ⟨e10, q10⟩ := ret_some el6
          subst e10 q10
          have e8 : lcF hg1 tst1 el (wipeE ρ3 vs1) its1 rs6 = some (d1, rs7) := e8
          refine hi1 L E ρ3 σ4 F5 H5 rs5 its1 lk1 rs6 _ r5 e7 fun J1 F6 H6 s6 ⟨G1, Y1, P1, wk1, pn1, hG1, hY1⟩ => ?_
          have a6 := a5.step hDr r1.row s6
          have r6 := r5.step s6
          have hE : E Da = none := by
            cases q : E Da with
            | none => rfl
            | some o => rw [r1.ex Da o q] at hD; cases hD
          have hno : ∀ (i : Nat) (ds : SV), ρ3[i]? = some (some ds) → ds.ow → σ4[i]? = some (some (V.ref Da)) → False := fun i ds q1 ow q2 => by
            obtain ⟨z1, z2⟩ := hown x _ ρ3 e5 i ds q1 ow
            rw [o4.at_ i z2] at q2
            exact OwnOld.wipe vs (Rel.known r1) i ds Da z1 ow q2 hD
          have hP1 : ∀ a o, P1 a = some o → a ≠ Da := fun a o q z => by
            subst z
            obtain ⟨_, _, _, y⟩ := pn1 a o q
            rcases y with ⟨y, _⟩ | y | ⟨i, es, _, y1, y2⟩
            · rw [a5.at_] at y; cases y
            · rw [hE] at y; cases y
            · exact hno i _ y1 trivial y2
          refine in_it wk1 (fun x1 H8 Nx => g1 x1 (L2.wipe σ4 vs1) H8 fun σ9 H9 => L2.wipe σ9 vs1 = L2.wipe σ4 vs1 ∧ tt1 σ9 H9 fun b H10 => if b = true then te σ9 H10 fun y H11 => ∃ acc, H11 Da = some (.lst acc) ∧ acc.length < sizeLine ∧ Nx (upd H11 Da (.lst (acc ++ [y]))) else Nx H10)
            (fun j H7 => ∃ F7 rs9 av7 ad7 rest7, Acc K R F1 H1 Da F7 H7 rs9 av7 ad7 ∧ StepX K R Da rs9 F6 H6 F7 H7 ∧ ad7 ++ (rest7 ++ ds2) = ds ∧ lcF hg1 tst1 el (wipeE ρ3 vs1) (its1.drop j) rs9 = some (rest7, rs7)) ?_ ?_ ?_ ?_
          · exact ⟨F6, rs6, av, ad, d1, a6, .of r6.refl (by rw [a6.at_]; exact fun z => nomatch z), hsum, e8⟩
          · rintro j H7 hj ⟨F7, rs9, av7, ad7, rest7, a7, x7, _⟩
            exact hG1 H7 (fun a o q => x7.keep a o (pn1 a o q).1 (hP1 a o q) (pn1 a o q).2.1 (pn1 a o q).2.2.1) fun a o q => x7.fin a o (x7.sub a o q)
          · rintro j v1 H7 H8 hj ⟨F7, rs9, av7, ad7, rest7, a7, x7, hsum7, el7⟩ hy1
            have r7 := r6.stepX x7 hE hno
            obtain ⟨x1, F8, ex1, s8, hd8⟩ := hY1.step hj x7.sub r7.refl hy1
            have er1 : its1.drop j = x1 :: its1.drop (j + 1) := by
              have hx : its1[j] = x1 := by
                rw [List.getElem?_eq_getElem hj] at ex1
                exact Option.some.inj ex1
              rw [← hx]
              exact List.drop_eq_getElem_cons hj
            rw [er1] at el7
            obtain ⟨ρ9, rs10, e11, el8⟩ := bnd_some el7
            obtain ⟨e12, q12⟩ := lft_some e11
            subst q12
            obtain ⟨b1, rs11, e13, el9⟩ := bnd_some el8
            have a8 := a7.step hDr r1.row s8
            have x8 := x7.trans (.of s8 (by rw [a8.at_]; exact fun z => nomatch z))
            have r8 := r7.step s8
            refine hgs1 L E F8 (wipeE ρ3 vs1) (L2.wipe σ4 vs1) _ H8 v1 x1 ρ9 _ (r8.wipe vs1) hd8 e12 fun σ9 r9 o9 => ⟨?_, ?_⟩
            · rw [wipe_off o9 hS1]
              apply List.ext_getElem?
              intro j
              rw [wipe_at, wipe_at]
              by_cases hj : j ∈ vs1
              · rw [if_pos hj, if_pos hj, wipe_length]
              · rw [if_neg hj, if_neg hj]
            · refine ht1 L E ρ9 σ9 F8 H8 _ b1 rs11 _ r9 e13 fun F9 H9 s9 => ?_
              have a9 := a8.step hDr r1.row s9
              have x9 := x8.trans (.of s9 (by rw [a9.at_]; exact fun z => nomatch z))
              have r10 := r9.step s9
              cases b1 with
              | true =>
                rw [if_pos rfl] at el9 ⊢
                obtain ⟨y, rs12, e14, el10⟩ := bnd_some el9
                obtain ⟨d, rs13, e15, el11⟩ := bnd_some el10
                obtain ⟨e16, q16⟩ := lft_some e15
                subst q16
                obtain ⟨ds3, rs14, e17, el12⟩ := bnd_some el11
                obtain ⟨e18, q18⟩ := ret_some el12
                subst e18 q18
                refine he L E ρ9 σ9 F9 H9 rs11 y _ _ r10 e14 fun w F11 H11 s11 h11 => ?_
                obtain ⟨F12, a12, hat, x12⟩ := a9.add hD hDr r1.row s11 h11 e16
                refine ⟨av7, hat, ?_, F12, _, av7 ++ [w], ad7 ++ [d], ds3, a12, x9.trans x12, ?_, e17⟩
                · have := congrArg List.length hsum7
                  rw [List.length_append, List.length_append, List.length_cons] at this
                  rw [a7.all.len]
                  exact sz_lt (by omega)
                · rw [List.append_assoc]
                  exact hsum7
              | false =>
                rw [if_neg Bool.false_ne_true] at el9 ⊢
                exact ⟨F9, rs11, av7, ad7, rest7, a9, x9, hsum7, el9⟩
          · rintro H7 ⟨F7, rs9, av7, ad7, rest7, a7, x7, hsum7, el7⟩
            rw [List.drop_length] at el7
            obtain ⟨e11, q11⟩ := ret_some el7
            subst e11 q11
            exact ⟨F7, _, av7, ad7, ds2, a7, hsum7, e9⟩
        | false =>
          rw [if_neg Bool.false_ne_true] at el3 ⊢
          exact ⟨F5, rs5, av, ad, rest, a5, hsum, el3⟩
    · rintro H2 ⟨F2, rs3, av, ad, rest, a2, hsum, el1⟩
      rw [List.drop_length] at el1
      obtain ⟨e7, q7⟩ := ret_some el1
      subst e7 q7
      rw [List.append_nil] at hsum
      subst hsum
      exact kk _ F2 H2 (s1.trans r.row a2.st) ⟨Da, av, rfl, a2.at_, s1.back r.row hD, a2.fr, hDr, a2.all⟩
  · have hf2' : (if ds.length ≤ 10000 then ret (RV.n ds) else fail) rs2 = some (x, rs') := hf2
    rw [if_neg hlen] at hf2'
    cases hf2'
theorem esem_lc2 {fi fi1 : Env → M (List D × Option Nat)} {vs vs1 : List Nat} {tst tst1 : Env → M Bool} {el : Env → M RV} (hi : ISem K R wi fi) (hgs : GSem K R S g hg) (hown : GOwn S hg) (hS : ∀ i ∈ S, i ∈ vs) (ht : TSem K R tt tst) (hi1 : ISem K R wi1 fi1) (hgs1 : GSem K R S1 g1 hg1) (hS1 : ∀ i ∈ S1, i ∈ vs1) (ht1 : TSem K R tt1 tst1) (he : ESem K R te el) :
    ESem K R (tLc2 wi g tt wi1 g1 tt1 te vs vs1) (eLc2 fi vs hg tst fi1 vs1 hg1 tst1 el) := fun L E ρ σ F H rs x rs' Q r hf kk =>
  esem_lc2_at r (fun its lk rs1 Rq e1 k => hi L E ρ σ F H rs its lk rs1 Rq r e1 k) hgs hown hS ht hi1 hgs1 hS1 ht1 he hf kk
theorem de_lc2 {scope : Scope} {own : List (Str × Nat)} {vs1 : List Nat} {fi fi1 : Env → M (List D × Option Nat)} {tst tst1 : Env → M Bool} {el : Env → M RV} (hc : X.calm = true) (hN : X.N.Nodup) (hi : DI X R tg it wi fi) (ok : BlkOk X.N X.env.scope scope own) (hv : ∀ i ∈ vs1, i ∈ own.map (·.2)) (hS : ∀ i ∈ S, i ∈ own.map (·.2)) (hS1 : ∀ i ∈ S1, i ∈ vs1) (hown : GOwn S hg)
    (hg' : ∀ (s : Shared) (H : Hp) (C : Addr) (cl : List (Str × Addr)) (fp : List Addr), DG (X.blk s H scope (compEnvC scope cl C X.env) fp) R S tg g hg) (ht : ∀ (s : Shared) (H : Hp) (C : Addr) (cl : List (Str × Addr)) (fp : List Addr), DTs (X.blk s H scope (compEnvC scope cl C X.env) fp) R ifs tt tst)
    (hi1 : ∀ (s : Shared) (H : Hp) (C : Addr) (cl : List (Str × Addr)) (fp : List Addr), DI (X.blk s H scope (compEnvC scope cl C X.env) fp) R tg1 it1 wi1 fi1)
    (hg1' : ∀ (s : Shared) (H : Hp) (C : Addr) (cl : List (Str × Addr)) (fp : List Addr), DG (X.blk s H scope (compEnvC scope cl C X.env) fp) R S1 tg1 g1 hg1) (ht1 : ∀ (s : Shared) (H : Hp) (C : Addr) (cl : List (Str × Addr)) (fp : List Addr), DTs (X.blk s H scope (compEnvC scope cl C X.env) fp) R ifs1 tt1 tst1)
    (he : ∀ (s : Shared) (H : Hp) (C : Addr) (cl : List (Str × Addr)) (fp : List Addr), DE (X.blk s H scope (compEnvC scope cl C X.env) fp) R elt te el) (hs : ∀ x, foldedSetIterable it X.env x = pure x := by intro _; rfl) (hs1 : ∀ env x, foldedSetIterable it1 env x = pure x := by intro _ _; rfl) :
    DE X R (.ListComp elt [⟨tg, it, ifs, 0⟩, ⟨tg1, it1, ifs1, 0⟩] scope pos) (tLc2 wi g tt wi1 g1 tt1 te (own.map (·.2)) vs1) (eLc2 fi (own.map (·.2)) hg tst fi1 vs1 hg1 tst1 el) :=
  ⟨pe_lc2 hc hN hi.pi ok hv (fun s H C cl fp => (hg' s H C cl fp).pg) (fun s H C cl fp => (ht s H C cl fp).pt) (fun s H C cl fp => (hi1 s H C cl fp).pi) (fun s H C cl fp => (hg1' s H C cl fp).pg) (fun s H C cl fp => (ht1 s H C cl fp).pt) (fun s H C cl fp => (he s H C cl fp).pe) hs hs1,
    esem_lc2 hi.sem (hg' {} (fun _ => none) 0 [] []).sem hown hS (ht {} (fun _ => none) 0 [] []).sem (hi1 {} (fun _ => none) 0 [] []).sem (hg1' {} (fun _ => none) 0 [] []).sem hS1 (ht1 {} (fun _ => none) 0 [] []).sem (he {} (fun _ => none) 0 [] []).sem⟩
theorem ds_setLc2 {i : Nat} {y : Str} {py spos : Pos} {scope : Scope} {own : List (Str × Nat)} {vs1 : List Nat} {fi fi1 : Env → M (List D × Option Nat)} {tst tst1 : Env → M Bool} {el : Env → M RV} (hc : X.calm = true) (hN : X.N.Nodup) (hy : X.N[i]? = some y) (hyl : X.env.scope.names.lookup y = some .local)
    (hsw : swapsWith (.ListComp elt [⟨tg, it, ifs, 0⟩, ⟨tg1, it1, ifs1, 0⟩] scope pos) (some (.Name y py)) spos.line X.env = pure true) (hi : DI X R tg it wi fi) (ok : BlkOk X.N X.env.scope scope own) (hv : ∀ i ∈ vs1, i ∈ own.map (·.2)) (hS : ∀ i ∈ S, i ∈ own.map (·.2)) (hS1 : ∀ i ∈ S1, i ∈ vs1) (hown : GOwn S hg)
    (hg' : ∀ (s : Shared) (H : Hp) (C : Addr) (cl : List (Str × Addr)) (fp : List Addr), DG (X.blk s H scope (compEnvC scope cl C X.env) fp) R S tg g hg) (ht : ∀ (s : Shared) (H : Hp) (C : Addr) (cl : List (Str × Addr)) (fp : List Addr), DTs (X.blk s H scope (compEnvC scope cl C X.env) fp) R ifs tt tst)
    (hi1 : ∀ (s : Shared) (H : Hp) (C : Addr) (cl : List (Str × Addr)) (fp : List Addr), DI (X.blk s H scope (compEnvC scope cl C X.env) fp) R tg1 it1 wi1 fi1)
    (hg1' : ∀ (s : Shared) (H : Hp) (C : Addr) (cl : List (Str × Addr)) (fp : List Addr), DG (X.blk s H scope (compEnvC scope cl C X.env) fp) R S1 tg1 g1 hg1) (ht1 : ∀ (s : Shared) (H : Hp) (C : Addr) (cl : List (Str × Addr)) (fp : List Addr), DTs (X.blk s H scope (compEnvC scope cl C X.env) fp) R ifs1 tt1 tst1)
    (he : ∀ (s : Shared) (H : Hp) (C : Addr) (cl : List (Str × Addr)) (fp : List Addr), DE (X.blk s H scope (compEnvC scope cl C X.env) fp) R elt te el) (hs : ∀ x, foldedSetIterable it X.env x = pure x := by intro _; rfl) (hs1 : ∀ env x, foldedSetIterable it1 env x = pure x := by intro _ _; rfl) :
    DS X R (.Assign [.Name y py] (.ListComp elt [⟨tg, it, ifs, 0⟩, ⟨tg1, it1, ifs1, 0⟩] scope pos) spos) (tAsg (tLc2 wi g tt wi1 g1 tt1 te (own.map (·.2)) vs1) (gName i)) (sSet i (eLc2 fi (own.map (·.2)) hg tst fi1 vs1 hg1 tst1 el)) :=
  ⟨ps_setLc2 hc hN hy hyl hsw hi.pi ok hv (fun s H C cl fp => (hg' s H C cl fp).pg) (fun s H C cl fp => (ht s H C cl fp).pt) (fun s H C cl fp => (hi1 s H C cl fp).pi) (fun s H C cl fp => (hg1' s H C cl fp).pg) (fun s H C cl fp => (ht1 s H C cl fp).pt) (fun s H C cl fp => (he s H C cl fp).pe) hs hs1,
    ssem_set (esem_lc2 hi.sem (hg' {} (fun _ => none) 0 [] []).sem hown hS (ht {} (fun _ => none) 0 [] []).sem (hi1 {} (fun _ => none) 0 [] []).sem (hg1' {} (fun _ => none) 0 [] []).sem hS1 (ht1 {} (fun _ => none) 0 [] []).sem (he {} (fun _ => none) 0 [] []).sem)⟩
end
end DV

/-! DV: <, <=, >, >= on data -/
namespace DV
open PySem L2 PySem.W
section
variable {X : Cx} {K : PySem.W.Frag} {R : Option Addr}
def cmpOk (d e : D) : Bool := alike d e && (!isNoneD d && decide (d.depth ≤ 60))
theorem cmpOk_of {d e : D} (h : cmpOk d e = true) : alike d e = true ∧ d ≠ .none ∧ d.depth ≤ 60 := by
  unfold cmpOk at h
  simp only [Bool.and_eq_true, decide_eq_true_eq] at h
  refine ⟨h.1, fun q => ?_, h.2.2⟩
  have := h.2.1
  rw [q] at this
  cases this
def rCmpD (K : PySem.W.Frag) (kd : D → D → Bool) : R2 := fun x y H Q => ∃ d e, Dp K H x d ∧ Dp K H y e ∧ cmpOk d e = true ∧ Q (.bl (kd d e)) H
abbrev rCmpA (K : PySem.W.Frag) (ki : Int → Int → Bool) (kd : D → D → Bool) : R2 := fun x y H Q => rI0 (fun i j => .bl (ki i j)) x y H Q ∨ rCmpD K kd x y H Q
def gCmpA (ki : Int → Int → Bool) (kd : D → D → Bool) : RV → RV → Option RV := fun x y => match asInt x, asInt y with
  | some i, some j => some (.d (.bool (ki i j)))
  | _, _ => match viewD x, viewD y with
    | some d, some e => if cmpOk d e = true then some (.d (.bool (kd d e))) else none
    | _, _ => none
theorem rsem_cmpA (ki : Int → Int → Bool) (kd : D → D → Bool) : RSem K R (rCmpA K ki kd) (gCmpA ki kd) := fun F H0 H rs x y p q z Q s hx hy e kk => by
  have dat : (match viewD p, viewD q with
    | some d, some e => if cmpOk d e = true then some (RV.d (.bool (kd d e))) else none
    | _, _ => none) = some z → rCmpA K ki kd x y H Q := fun e => by
    cases e1 : viewD p with
    | none => rw [e1] at e; cases e
    | some d =>
      cases e2 : viewD q with
      | none => rw [e1, e2] at e; cases e
      | some d2 =>
        rw [e1, e2] at e
        by_cases hc : cmpOk d d2 = true
        · have e' : (if cmpOk d d2 = true then some (RV.d (.bool (kd d d2))) else none) = some z := e
          rw [if_pos hc] at e'
          cases e'
          exact .inr ⟨d, d2, hx.view s e1, hy.view s e2, hc, kk _ F H s (Dp.bl _)⟩
        · have e' : (if cmpOk d d2 = true then some (RV.d (.bool (kd d d2))) else none) = some z := e
          rw [if_neg hc] at e'
          cases e'
  unfold gCmpA at e
  cases e1 : asInt p with
  | none =>
    simp only [e1] at e
    exact dat e
  | some i =>
    cases e2 : asInt q with
    | none =>
      simp only [e1, e2] at e
      exact dat e
    | some j =>
      simp only [e1, e2] at e
      cases e
      exact .inl ⟨i, j, hx.int e1, hy.int e2, kk _ F H s (Dp.bl _)⟩
theorem op_ltA (hu : X.A.units + 64 < cLine) : OpR X (compareOp .Lt) (rCmpA X.K (fun i j => decide (i < j)) dataLt) := OpR.or op_lt (by
  intro pins s σ H x y v u Q I rx ry h
  obtain ⟨d, e, hd, he, hc, q⟩ := h
  obtain ⟨h1, h2, h3⟩ := cmpOk_of hc
  obtain ⟨as, r1⟩ := Dp.reads I d x v hd rx
  obtain ⟨bs, r2⟩ := Dp.reads I e y u he ry
  exact lt_data r1 r2 h1 h2 (by have := Nat.min_le_left d.depth e.depth; omega) ⟨.bl _, H, I, rfl, q⟩)
theorem op_gtA (hu : X.A.units + 64 < cLine) : OpR X (compareOp .Gt) (rCmpA X.K (fun i j => decide (j < i)) fun d e => dataLt e d) := OpR.or op_gt (by
  intro pins s σ H x y v u Q I rx ry h
  obtain ⟨d, e, hd, he, hc, q⟩ := h
  obtain ⟨h1, h2, h3⟩ := cmpOk_of hc
  obtain ⟨as, r1⟩ := Dp.reads I d x v hd rx
  obtain ⟨bs, r2⟩ := Dp.reads I e y u he ry
  exact gt_data r1 r2 h1 h2 (by have := Nat.min_le_left d.depth e.depth; omega) ⟨.bl _, H, I, rfl, q⟩)
theorem op_leA (hu : X.A.units + 64 < cLine) : OpR X (compareOp .LtE) (rCmpA X.K (fun i j => decide (i ≤ j)) fun d e => !dataLt e d) := OpR.or op_le (by
  intro pins s σ H x y v u Q I rx ry h
  obtain ⟨d, e, hd, he, hc, q⟩ := h
  obtain ⟨h1, h2, h3⟩ := cmpOk_of hc
  obtain ⟨as, r1⟩ := Dp.reads I d x v hd rx
  obtain ⟨bs, r2⟩ := Dp.reads I e y u he ry
  exact le_data r1 r2 h1 h2 (by have := Nat.min_le_left d.depth e.depth; omega) ⟨.bl _, H, I, rfl, q⟩)
theorem op_geA (hu : X.A.units + 64 < cLine) : OpR X (compareOp .GtE) (rCmpA X.K (fun i j => decide (j ≤ i)) fun d e => !dataLt d e) := OpR.or op_ge (by
  intro pins s σ H x y v u Q I rx ry h
  obtain ⟨d, e, hd, he, hc, q⟩ := h
  obtain ⟨h1, h2, h3⟩ := cmpOk_of hc
  obtain ⟨as, r1⟩ := Dp.reads I d x v hd rx
  obtain ⟨bs, r2⟩ := Dp.reads I e y u he ry
  exact ge_data r1 r2 h1 h2 (by have := Nat.min_le_left d.depth e.depth; omega) ⟨.bl _, H, I, rfl, q⟩)
abbrev gLtA := gCmpA (fun i j => decide (i < j)) dataLt
abbrev gGtA := gCmpA (fun i j => decide (j < i)) fun d e => dataLt e d
abbrev gLeA := gCmpA (fun i j => decide (i ≤ j)) fun d e => !dataLt e d
abbrev gGeA := gCmpA (fun i j => decide (j ≤ i)) fun d e => !dataLt d e
end
end DV

/-! DV: four names at once -/
namespace DV
open PySem L2 PyProof.Rows
section
variable {X : Cx} {K : PySem.W.Frag} {R : Option Addr} {L : Nat → Option (Addr × List V)} {E F F' H H' : Hp} {ρ ρ' : Env} {σ σ' : L2.St} {rs rs' : RS} {pos : Pos}
def sPar4 (i j l m : Nat) (fa : Env → M (List RV)) : Env → M Out := fun ρ => bnd (fa ρ) fun xs => match xs with
  | [x, y, z, w] => bnd (lft (toS x)) fun sx => bnd (lft (toS y)) fun sy => bnd (lft (toS z)) fun sz => bnd (lft (toS w)) fun sw => ret (.nx ((((ρ.set i (some sx)).set j (some sy)).set l (some sz)).set m (some sw)))
  | _ => fail
theorem ds_tup4L {i j l m : Nat} {x y z u : Str} {a b c d : Expr} {fa fb fc fd : Env → M RV} {tA tB tC' tD : TE} {px py pz pu pt : Pos} {kt k2 pt2} (hc : X.calm = true) (hN : X.N.Nodup) (hi : X.N[i]? = some x) (hj : X.N[j]? = some y) (hl : X.N[l]? = some z) (hm : X.N[m]? = some u)
    (hx : Loc X.env.scope x) (hy : Loc X.env.scope y) (hz : Loc X.env.scope z) (hu : Loc X.env.scope u) (ha : DE X R a tA fa) (hb : DE X R b tB fb) (hcc : DE X R c tC' fc) (hdd : DE X R d tD fd)
    (hw : swappedStores [.Tuple [.Name x px, .Name y py, .Name z pz, .Name u pu] kt pt] (.Tuple [a, b, c, d] k2 pt2) X.env = pure none) (hs : swapsWithSole [.Tuple [.Name x px, .Name y py, .Name z pz, .Name u pu] kt pt] (.Tuple [a, b, c, d] k2 pt2) pos.line X.env = pure false := by rfl)
    (hq1 : starEach [a, b, c, d] X.env = (false, eval a X.env) :: starEach [b, c, d] X.env := by rfl) (hq2 : starEach [b, c, d] X.env = (false, eval b X.env) :: starEach [c, d] X.env := by rfl) (hq3 : starEach [c, d] X.env = (false, eval c X.env) :: starEach [d] X.env := by rfl) (hq4 : starEach [d] X.env = (false, eval d X.env) :: starEach [] X.env := by rfl)
    (hfx : X.fn x = true ∨ X.env.scope.names.lookup x = some .local := by first | exact .inl rfl | exact .inr rfl) (hfy : X.fn y = true ∨ X.env.scope.names.lookup y = some .local := by first | exact .inl rfl | exact .inr rfl) (hfz : X.fn z = true ∨ X.env.scope.names.lookup z = some .local := by first | exact .inl rfl | exact .inr rfl) (hfu : X.fn u = true ∨ X.env.scope.names.lookup u = some .local := by first | exact .inl rfl | exact .inr rfl)
    (hn : (assignEach [.Name x px, .Name y py, .Name z pz, .Name u pu] X.env).length = 4 := by rfl) (hst : (assignEach [.Name x px, .Name y py, .Name z pz, .Name u pu] X.env).findIdx? (·.1) = none := by rfl)
    (hs1 : (assignEach [.Name x px, .Name y py, .Name z pz, .Name u pu] X.env).map (·.2) = assign (.Name x px) X.env :: (assignEach [.Name y py, .Name z pz, .Name u pu] X.env).map (·.2) := by rfl) (hs2 : (assignEach [.Name y py, .Name z pz, .Name u pu] X.env).map (·.2) = assign (.Name y py) X.env :: (assignEach [.Name z pz, .Name u pu] X.env).map (·.2) := by rfl)
    (hs3 : (assignEach [.Name z pz, .Name u pu] X.env).map (·.2) = assign (.Name z pz) X.env :: (assignEach [.Name u pu] X.env).map (·.2) := by rfl) (hs4 : (assignEach [.Name u pu] X.env).map (·.2) = assign (.Name u pu) X.env :: (assignEach [] X.env).map (·.2) := by rfl)
    (h1 : (assignEach [.Tuple [.Name x px, .Name y py, .Name z pz, .Name u pu] kt pt] X.env).map (·.2) = [assign (.Tuple [.Name x px, .Name y py, .Name z pz, .Name u pu] kt pt) X.env] := by rfl) :
    DS X R (.Assign [.Tuple [.Name x px, .Name y py, .Name z pz, .Name u pu] kt pt] (.Tuple [a, b, c, d] k2 pt2) pos) (tAsg (tTup (tCons tA (tCons tB (tCons tC' (tCons tD tNil))))) (gTup X.K 4 (gCons (gName i) (gCons (gName j) (gCons (gName l) (gCons (gName m) gNil)))))) (sPar4 i j l m (aCons fa (aCons fb (aCons fc (aCons fd aNil))))) :=
  ⟨ps_asg (pe_tup (pa_cons ha.pe (pa_cons hb.pe (pa_cons hcc.pe (pa_cons hdd.pe pa_nil hq4) hq3) hq2) hq1)) (pg_tup hc (pgs_cons (pg_name hN hi hx hfx) (pgs_cons (pg_name hN hj hy hfy) (pgs_cons (pg_name hN hl hz hfz) (pgs_cons (pg_name hN hm hu hfu) pgs_nil hs4) hs3) hs2) hs1) hn hst) hs hw h1, fun L E F ρ σ rs H o rs' D r hf k => by
    obtain ⟨xs, rs1, e1, hf1⟩ := bnd_some hf
    obtain ⟨x1, rs2, e2, hf2⟩ := bnd_some e1
    obtain ⟨ys, rs3, e3, hf3⟩ := bnd_some hf2
    obtain ⟨x2, rs4, e4, hf4⟩ := bnd_some e3
    obtain ⟨zs, rs5, e5, hf5⟩ := bnd_some hf4
    obtain ⟨x3, rs6, e6, hf6⟩ := bnd_some e5
    obtain ⟨ws, rs7, e7, hf7⟩ := bnd_some hf6
    obtain ⟨x4, rs8, e8, hf8⟩ := bnd_some e7
    obtain ⟨us, rs9, e9, hf9⟩ := bnd_some hf8
    obtain ⟨e10, q10⟩ := ret_some e9
    obtain ⟨e11, q11⟩ := ret_some hf9
    obtain ⟨e12, q12⟩ := ret_some hf7
    obtain ⟨e13, q13⟩ := ret_some hf5
    obtain ⟨e14, q14⟩ := ret_some hf3
    subst e10 q10 e11 q11 e12 q12 e13 q13 e14 q14
    obtain ⟨sx, rs12, e12, hf12⟩ := bnd_some hf1
    obtain ⟨e13, q13⟩ := lft_some e12
    obtain ⟨sy, rs14, e14, hf14⟩ := bnd_some hf12
    obtain ⟨e15, q15⟩ := lft_some e14
    obtain ⟨sz, rs16, e16, hf16⟩ := bnd_some hf14
    obtain ⟨e17, q17⟩ := lft_some e16
    obtain ⟨su, rs18, e18, hf18⟩ := bnd_some hf16
    obtain ⟨e19, q19⟩ := lft_some e18
    obtain ⟨e20, q20⟩ := ret_some hf18
    subst e20 q20 q19 q17 q15 q13
    refine ha.sem L E ρ σ F H rs x1 rs2 _ r e2 fun v1 F1 H1 s1 h1 => ?_
    have r1 := r.step s1
    refine hb.sem L E ρ σ F1 H1 rs2 x2 _ _ r1 e4 fun v2 F2 H2 s2 h2 => ?_
    have r2 := r1.step s2
    refine hcc.sem L E ρ σ F2 H2 _ x3 _ _ r2 e6 fun v3 F3 H3 s3 h3 => ?_
    have r3 := r2.step s3
    refine hdd.sem L E ρ σ F3 H3 _ x4 _ _ r3 e8 fun v4 F4 H4 s4 h4 => ?_
    have r4 := r3.step s4
    refine ⟨by show 4 ≤ sizeLine; exact sz_of (by decide), fun q hq => ?_⟩
    have s5 := Step.new_o (o := .tup [v1, v2, v3, v4]) r4.refl hq
    refine ⟨q, [v1, v2, v3, v4], rfl, .inl (.inl upd_same), rfl, v1, [v2, v3, v4], rfl, v2, [v3, v4], rfl, v3, [v4], rfl, v4, [], rfl, rfl, ?_⟩
    have s12 := s1.trans r.row s2
    have s123 := s12.trans r.row s3
    have s14 := s123.trans r.row s4
    have s15 := s14.trans r.row s5
    have old : ∀ {Ha Hb : Hp} {Fa Fb : Hp} {rr : RS} {aa : Addr} {vs ws : List V} (ss : Step X.K R rr Fa Ha Fb Hb), Ha aa = some (.lst ws) → some aa ≠ R → Hb aa = some (.lst vs) → Ha aa = some (.lst vs) := fun ss e1 e2 e3 => by
      have e4 := ss.keep _ _ e1 e2
      rw [e3] at e4
      cases e4
      exact e1
    have q1 := Rel.store r s15 ((((h1.step s2).step s3).step s4).step s5) e13 i
    have k1 := (Rel.known r1).set r1.len h1 e13 i
    have q2 := Rel.store2 r1 q1 (((h2.step s3).step s4).step s5) e15 j fun a u ev hl h0 => k1.apart a u ev hl h0
    have k2 : OwnOld H2 ((ρ.set i (some sx)).set j (some sy)) ((σ.set i (some v1)).set j (some v2)) := (k1.step s2 r1.row).set (by rw [List.length_set, List.length_set]; exact r1.len) h2 e15 j
    have q3 := Rel.store2 r2 q2 ((h3.step s4).step s5) e17 l fun a u ev hl h0 => k2.apart a u ev hl h0
    have k3 : OwnOld H3 (((ρ.set i (some sx)).set j (some sy)).set l (some sz)) (((σ.set i (some v1)).set j (some v2)).set l (some v3)) := (k2.step s3 r2.row).set (by rw [List.length_set, List.length_set, List.length_set, List.length_set]; exact r2.len) h3 e17 l
    have q4 := Rel.store2 r3 q3 (h4.step s5) e19 m fun a u ev hl h0 => k3.apart a u ev hl h0
    exact k _ F4 _ (FStep.ofStep r s15) q4⟩
end
end DV

/-! DV: a lambda of one parameter, made and called -/
namespace DV
open PySem L2 LamX PyProof.Rows PySem.Spec
abbrev lmObj (q : Str) (params : Arguments) (body : Expr) (scope : Scope) (cl : List (Str × Addr)) (pm : Value) (c' : Addr) (ctv : Value) : Obj := PySem.W.kla_obj "<lambda>" q params body scope cl pm c' ctv
section
variable {X : Cx} {pins : List (Addr × Obj)} {σ : L2.St} {H : Hp} {s : Shared}
/-- all stays but the table at P; what is new was not tracked -/
structure Grown (T : List (Addr × Str)) (P : Addr) (H H1 : Hp) : Prop where
  keep : ∀ b o, b ≠ P → H b = some o → H1 b = some o
  old : ∀ b, H1 b = none → H b = none
  tabs : Tabs T H1
/-- the lambda's object is made -/
theorem lam_mk {T : List (Addr × Str)} {c P : Addr} {params : Arguments} {body : Expr} {scope : Scope} {pos : Pos} {Er : Value → Shared → Prop} {Q : Value → Shared → Prop} (I : Inv X pins σ H s) (tb : TabB X.base X.mg c P) (ec : X.env.code = .ref c)
    (mem : (P, X.env.qual ++ "<lambda>") ∈ T) (uni : ∀ p ∈ T, p.1 = P → p.2 = X.env.qual ++ "<lambda>") (tabs : Tabs T H) (noDef : defaultsOf params X.env = ([], [])) (fr : ∀ y ∈ scope.names, y.2 = .free → ∃ a, X.env.cells.lookup y.1 = some a)
    (go : ∀ (f c' : Addr) (pm ctv : Value) (H1 : Hp) (s1 : Shared), Inv X pins σ H1 s1 → Grown T P H H1 → s1.heap.get? f = some (lmObj (X.env.qual ++ "<lambda>") params body scope (cloFrom X.env.cells scope.names []) pm c' ctv) → H1 f = none → s.heap.objs.size ≤ f → (∀ b o, b ≠ P → s.heap.get? b = some o → s1.heap.get? b = some o) →
      H1 c' = some (CodeO c' (X.env.qual ++ "<lambda>")) → Q (.ref f) s1) :
    wpAny (model X.prog X.w) X.A (eval (.Lambda params body scope pos) X.env) Q Er s := by
  obtain ⟨ps, eP, tri, among⟩ := tabs _ mem
  have atP : s.heap.get? P = some { cls := .none, data := .fields ps } := I.hok P _ eP
  have blt := tb.bm.keeps I.bk
  have cod := tb.code.keeps I.bk
  have glo := I.mod.glob.keeps I.bk
  apply PySem.W.kla_eval noDef
  rcases hit : codeAmong pos ps.toList with _ | cv
  · refine PySem.W.kla_makeFunction (closure_ok fr) I.ok.glob glo ec cod atP tri hit tb.gP blt ?_
    intro c' ctv h1 tk ext ge lt rec tab
    obtain ⟨_, oc, vs, t, er, gc, dc, vc⟩ := rec
    cases er
    have fresh : H c' = none := I.hok.fresh ge
    have neq : P ≠ c' := ne_of_none eP fresh
    have J := inv_table (t' := tk) (c := c') (q := X.env.qual ++ "<lambda>") (more := #[rawInt pos.line, rawInt pos.col, .ref c']) (h' := h1.push (lmObj (X.env.qual ++ "<lambda>") params body scope (cloFrom X.env.cells scope.names []) ((X.mg "__name__").getD .none) c' ctv)) I eP
      (fun b o nb e => Heap.get?_push_of_some _ (ext b o nb e)) (Heap.get?_push_of_some _ tab) ge ⟨oc, vs, t, Heap.get?_push_of_some _ gc, dc, vc⟩
    have sz : s.heap.objs.size ≤ h1.objs.size := Nat.le_trans ge (Nat.le_of_lt lt)
    have lst : (ps ++ #[rawInt pos.line, rawInt pos.col, .ref c']).toList = ps.toList ++ [rawInt pos.line, rawInt pos.col, .ref c'] := by simp
    have kp : ∀ b o, b ≠ P → H b = some o → upd (upd H P (.tbl (ps ++ #[rawInt pos.line, rawInt pos.col, .ref c']))) c' (CodeO c' (X.env.qual ++ "<lambda>")) b = some o := fun b o nb e => by
      rw [upd_ne (ne_of_none e fresh), upd_ne nb]
      exact e
    have notP : ∀ c0 q, H c0 = some (CodeO c0 q) → c0 ≠ P := fun c0 q e z => by
      rw [z, eP] at e
      exact codeO_ne ps (Option.some.inj e).symm
    refine go h1.objs.size c' ((X.mg "__name__").getD .none) ctv _ _ J ⟨kp, fun b e => ?_, fun p hp => ?_⟩ (Heap.get?_push_size _ rfl) ?_ sz (fun b o nb e => Heap.get?_push_of_some _ (ext b o nb e)) upd_same
    · exact NdefX.upd_none (NdefX.upd_none e)
    · obtain ⟨a, q⟩ := p
      by_cases ha : a = P
      · subst ha
        have eq := uni _ hp rfl
        simp only at eq
        subst eq
        refine ⟨_, by rw [upd_ne neq, upd_same], by rw [lst]; exact PySem.TriplesOk_snoc _ _ _ _ tri, fun pos2 cv2 found => ?_⟩
        rw [lst] at found
        rcases among_app _ tri found with z | z
        · obtain ⟨c0, z1, z2⟩ := among pos2 cv2 z
          exact ⟨c0, z1, kp _ _ (notP _ _ z2) z2⟩
        · exact ⟨c', z, upd_same⟩
      · obtain ⟨ps2, z1, z2, z3⟩ := tabs _ hp
        refine ⟨ps2, kp _ _ ha z1, z2, fun pos2 cv2 found => ?_⟩
        obtain ⟨c0, y1, y2⟩ := z3 pos2 cv2 found
        exact ⟨c0, y1, kp _ _ (notP _ _ y2) y2⟩
    · rw [upd_ne (Nat.ne_of_gt lt), upd_ne (Nat.ne_of_gt (Nat.lt_of_lt_of_le (Heap.lt_size atP) sz))]
      exact I.hok.fresh sz
  · obtain ⟨c', rfl, isC⟩ := among pos cv hit
    refine PySem.W.kla_makeFunctionHit (closure_ok fr) I.ok.glob glo ec cod atP tri hit blt ?_
    intro ctv h1 tk ext sz
    exact go h1.objs.size c' ((X.mg "__name__").getD .none) ctv H _ (I.kept fun b o e => Heap.get?_push_of_some _ (ext b o e)) ⟨fun _ _ _ e => e, fun _ e => e, tabs⟩ (Heap.get?_push_size _ rfl) (I.hok.fresh sz) sz (fun b o _ e => Heap.get?_push_of_some _ (ext b o e)) isC
end
/-! ### its body -/
/-- one parameter x, no cell of its own; the captured ones are the maker's cells -/
structure LamP (sc scope : Scope) (x : Str) : Prop where
  kind : scope.kind = .function
  co : scope.isCoroutine = false
  gen : scope.isGenerator = false
  nocell : ∀ y ∈ scope.names, y.2 ≠ .cell
  own : ∀ y ∈ scope.names, y.2 = .local → y.1 = x
  par : scope.names.lookup x = some .local
  free : ∀ y ∈ scope.names, y.2 = .free → sc.names.lookup y.1 = some .cell ∨ sc.names.lookup y.1 = some .free
def lamPB (sc scope : Scope) (x : Str) : Bool :=
  decide (scope.kind = .function) && !scope.isCoroutine && !scope.isGenerator && (scope.names.all fun y => !decide (y.2 = .cell) && (!decide (y.2 = .local) || decide (y.1 = x)) && (!decide (y.2 = .free) || decide (sc.names.lookup y.1 = some .cell) || decide (sc.names.lookup y.1 = some .free))) && decide (scope.names.lookup x = some .local)
theorem lamP_by {sc scope : Scope} {x : Str} (h : lamPB sc scope x = true) : LamP sc scope x := by
  unfold lamPB at h
  simp only [Bool.and_eq_true, Bool.or_eq_true, Bool.not_eq_true', decide_eq_true_eq, decide_eq_false_iff_not, List.all_eq_true] at h
  obtain ⟨⟨⟨⟨a1, a2⟩, a3⟩, a4⟩, a5⟩ := h
  refine ⟨a1, a2, a3, fun y m => (a4 y m).1.1, fun y m e => ?_, a5, fun y m e => ?_⟩
  · exact (a4 y m).1.2.resolve_left fun z => z e
  · rcases (a4 y m).2 with (z | z) | z
    · exact absurd e z
    · exact .inl z
    · exact .inr z
/-- the context of its body -/
abbrev lamC (X : Cx) (A : Around) (s : Shared) (H : Hp) (scope : Scope) (f c' : Addr) : Cx := (lamCx X A X.stack s H (fun _ _ _ => False) scope f c').nox
section
variable {X : Cx} {pins : List (Addr × Obj)} {σ : L2.St} {H : Hp} {s : Shared}
theorem lam_in {A : Around} {scope : Scope} {x : Str} {ip : Nat} {v : V} {u : Value} {f c' : Addr} {h₁ : Heap} {tk : Nat} (I : Inv X pins σ H s) (L : LamP X.env.scope scope x) (e0 : Env0 X.prog X.w X.K X.mg X.base A X.stack s H) (hd : A.handled = none)
    (nd : X.N.Nodup) (hip : X.N[ip]? = some x) (rv : L2.RelV v u)
    (hns : h₁.Ns s.heap.objs.size fun y => ([(x, u)] : List (Str × Value)).reverse.lookup y) (kp : ∀ b o, s.heap.get? b = some o → h₁.get? b = some o) :
    Inv (lamC X A s H scope f c') [] (σ.set ip (some v)) H { s with heap := h₁, toks := tk } := by
  have hfree : ∀ y ∈ scope.names, y.2 = .free → ∃ a, X.env.cells.lookup y.1 = some a := fun y m e => I.ok.has _ (L.free y m e)
  have cm : ∀ {y a}, (cloFrom X.env.cells scope.names []).lookup y = some a → X.env.cells.lookup y = some a := fun {y a} e => NdefX.clo_cm hfree e
  have look : ∀ {y}, scope.names.lookup y = some .free → ∃ a, (cloFrom X.env.cells scope.names []).lookup y = some a := fun {y} hl =>
    mem_lookup (cloFrom_has (cells := X.env.cells) (acc := []) (PySem.mem_of_lookup hl))
  have cellK : ∀ {a : Addr} {w : Option Value}, s.heap.IsCell a w → h₁.IsCell a w := fun {a w} ⟨o, ho, e⟩ => ⟨o, kp _ _ ho, e⟩
  have noA : ∀ b : Addr, b ∉ (lamC X A s H scope f c').ex := fun b z => absurd (show b ∈ ([] : List Addr) from z) (by simp)
  have ip_lt : ip < σ.length := by
    rw [I.len]
    exact (List.getElem?_eq_some_iff.mp hip).1
  refine ⟨⟨e0.mod, L.kind, rfl, rfl, Nat.le_refl _, fun y z a e1 e2 => I.ok.inj y z a (cm e1) (cm e2), fun y hy => ?_, fun y a z _ => ?_, fun _ => hd, Around.frames_deeper e0.frames, .inr ⟨rfl, rfl⟩, fun b z => absurd z (noA b), e0.bs, e0.bsz, fun b _ _ => noA b,
      fun b z => absurd z (noA b), e0.funs, e0.frf⟩,
    rfl, e0.bare, Un.kept kp, ⟨_, hns, fun i y w e1 e2 e3 => ?_⟩, fun y a e => ?_, e0.hok.fresh (Nat.le_refl _), fun y a e => I.freeC y a (cm e), fun q hq => absurd (show q ∈ ([] : List (Addr × Obj)) ++ [] from hq) (by simp), e0.hok.kept kp, by rw [List.length_set]; exact I.len⟩
  · have hy : scope.names.lookup y = some .cell ∨ scope.names.lookup y = some .free := hy
    rcases hy with hy | hy
    · exact absurd rfl (L.nocell _ (PySem.mem_of_lookup hy))
    · exact look hy
  · have z : false = true := z
    cases z
  · have e1 : X.N[i]? = some y := e1
    have e3 : Vis scope y := e3
    rcases e3 with k | k | k
    · have ey : y = x := L.own _ (PySem.mem_of_lookup k) rfl
      subst ey
      have ei := nodup_ix nd e1 hip
      subst ei
      rw [List.getElem?_set_self ip_lt] at e2
      cases e2
      exact ⟨u, rv, .inl ⟨k, by simp [List.lookup]⟩⟩
    · exact absurd rfl (L.nocell _ (PySem.mem_of_lookup k))
    · have ne : i ≠ ip := fun z => by
        subst z
        rw [hip] at e1
        cases e1
        rw [L.par] at k
        cases k
      rw [List.getElem?_set_ne (Ne.symm ne)] at e2
      obtain ⟨m, hn, hl⟩ := I.loc
      have hk := L.free _ (PySem.mem_of_lookup k) rfl
      have hvis : Vis X.env.scope y := hk.elim (fun k => .inr (.inl k)) (fun k => .inr (.inr k))
      obtain ⟨w', r, q⟩ := hl i y w e1 e2 hvis
      obtain ⟨c2, h2⟩ := look k
      refine ⟨w', r, .inr ⟨.inr k, c2, h2, ?_⟩⟩
      have c1 := cm h2
      rcases q with ⟨k', _⟩ | ⟨_, c3, e', z⟩
      · have k' : X.env.scope.names.lookup y = some .local := k'
        rcases hk with k2 | k2 <;> rw [show X.env.scope.names.lookup y = _ from k2] at k' <;> cases k'
      · rw [c1] at e'
        cases e'
        exact cellK z
  · obtain ⟨w', z⟩ := I.cell y a (cm e)
    exact ⟨w', cellK z⟩
/-- THE CALL f(v), no exception -/
theorem lam_call {A : Around} {k : Nat} {scope : Scope} {x : Str} {ip : Nat} {v : V} {u : Value} {f c' : Addr} {params : Arguments} {body : Expr} {pm ctv : Value} {tb : TE} {Q : VK} (I : Inv X pins σ H s) (L : LamP X.env.scope scope x) (e0 : Env0 X.prog X.w X.K X.mg X.base A X.stack s H) (hr : Room (k + 1) A)
    (nd : X.N.Nodup) (hip : X.N[ip]? = some x) (rv : L2.RelV v u) (of : s.heap.get? f = some (lmObj (X.env.qual ++ "<lambda>") params body scope (cloFrom X.env.cells scope.names []) pm c' ctv)) (hc : H c' = some (CodeO c' (X.env.qual ++ "<lambda>")))
    (hbind : ∀ u : Value, bindArgs (PySem.W.kla_fn "<lambda>" (X.env.qual ++ "<lambda>") params body scope (cloFrom X.env.cells scope.names []) pm (.ref c') ctv) ⟨[u], []⟩ = pure [(x, u)])
    (hbody : Room k (lamC X A s H scope f c').A → PE (lamC X A s H scope f c') body tb) (ht : tb (σ.set ip (some v)) H Q) :
    codeAny (model X.prog X.w) A (.call (.ref f) ⟨[u], []⟩) (fun r s' => ∃ w, r = .ok (.ret w) ∧ CE X.stack X.prog X.w H s Q w s') s := by
  refine PySem.W.kla_callFunE hr.depth of rfl L.co L.gen rfl (NdefX.codeO_at I.hok hc) ?_
  rw [hbind u]
  refine wpAny_pure (wpAny_newFunctionEnv L.nocell (fun y hy => ?_) (fun h₁ hns hsb => ⟨I.nolimit.fresh _ hsb, ?_⟩) L.kind)
  · rw [List.mem_singleton] at hy
    subst hy
    exact L.par
  show codeAny _ _ (.expr body (lamEnv X scope s.heap.objs.size f c')) _ _
  have kp : ∀ b o, s.heap.get? b = some o → h₁.get? b = some o := fun b o e => hsb.extBut b o (Nat.ne_of_lt (Heap.lt_size e)) (Heap.get?_push_of_some _ e)
  have J := lam_in (f := f) (c' := c') (tk := s.toks + ([(x, u)] : List (Str × Value)).length) I L e0 hr.hd nd hip rv hns kp
  refine PySem.W.kla_codeExpr (wpAny_mono ((hbody (hr.deeper _)).run [] _ _ H Q J ht) (fun w s' hq => ?_) fun e s' hq => hq.elim)
  obtain ⟨w', H', J', rw', q⟩ := hq
  exact ⟨w, rfl, w', H', J'.os, J'.bare, J'.base, J'.hok, rw', q⟩
end
end DV

/-! DV: sorted by a lambda's keys: the loop over the items -/
namespace DV
open PySem L2 LamX PyProof.Rows PySem.Spec PySem.W
/-- the keys, one after another; C: what stands at each call -/
def kRun (C : Hp → Prop) (tb : TE) (σ : L2.St) (ip : Nat) : List V → Hp → (List V → Hp → Prop) → Prop
  | [], H, Q => Q [] H
  | v :: vs, H, Q => C H ∧ tb (σ.set ip (some v)) H fun kv H1 => kRun C tb σ ip vs H1 fun ks H2 => Q (kv :: ks) H2
theorem kRun_mono {C : Hp → Prop} {tb : TE} {σ : L2.St} {ip : Nat} (hm : ∀ σ H Q Q', (∀ v H', Q v H' → Q' v H') → tb σ H Q → tb σ H Q') : ∀ (vs : List V) (H : Hp) (Q Q' : List V → Hp → Prop), (∀ ks H', Q ks H' → Q' ks H') → kRun C tb σ ip vs H Q → kRun C tb σ ip vs H Q'
  | [], H, Q, Q', h, r => h _ _ r
  | v :: vs, H, Q, Q', h, r => ⟨r.1, hm _ _ _ _ (fun kv H1 q => kRun_mono hm vs H1 _ _ (fun ks H2 z => h _ _ z) q) r.2⟩
theorem vals_snoc {ks : List V} {us : List Value} {k : V} {u : Value} (h : Vals ks us) (r : RelV k u) : Vals (ks ++ [k]) (us ++ [u]) := h.append (.cons r .nil)
section
variable {X : Cx} {pins : List (Addr × Obj)} {σ : L2.St} {H : Hp} {s s0 : Shared}
/-- what may be pinned -/
structure Aside (X : Cx) (b : Addr) (o : Obj) : Prop where
  nl : b ≠ X.env.locals
  nf : b ∉ X.fs
  nc : ∀ v, o.data ≠ .cell v
theorem Aside.pin {b : Addr} {o : Obj} (a : Aside X b o) (h1 : s.heap.get? b = some o) (h2 : H b = none) : s.heap.get? b = some o ∧ H b = none ∧ b ≠ X.env.locals ∧ b ∉ X.fs ∧ ∀ v, o.data ≠ .cell v := ⟨h1, h2, a.nl, a.nf, a.nc⟩
theorem aside_new {b : Addr} {o : Obj} (I : Inv X pins σ H s0) (hb : s0.heap.objs.size ≤ b) (nc : ∀ v, o.data ≠ .cell v) : Aside X b o := by
  have q := I.fpOk (H' := fun _ => none) hb rfl
  exact ⟨q.2.1, q.2.2.1, nc⟩
abbrev lstO (a : Array Value) (e : Nat) : Obj := seqObj "list" a e
theorem lst_nc {a : Array Value} {e : Nat} : ∀ v, (lstO a e).data ≠ .cell v := fun v z => by cases z
theorem sort_rest {A : Around} {k : Nat} {scope : Scope} {x : Str} {ip : Nat} {a kS f c' : Addr} {params : Arguments} {body : Expr} {pm ctv : Value} {tb : TE} {b : Bool} {its : List Value} {vs : List V} {e1 : Nat} {H0 : Hp} {Fin : List V → Hp → Prop} {Gz : List V → List D → Hp → Prop} {P : PySem.Fin → Shared → Prop}
    (I0 : Inv X pins σ H0 s0) (hA : A = X.A.in1.in1) (hr : Room (k + 1) A) (L : LamP X.env.scope scope x) (nd : X.N.Nodup) (hip : X.N[ip]? = some x)
    (ha : s0.heap.objs.size ≤ a) (hkS : s0.heap.objs.size ≤ kS) (hka : kS ≠ a) (fa : f ≠ a) (fk : f ≠ kS) (asf : Aside X f (lmObj (X.env.qual ++ "<lambda>") params body scope (cloFrom X.env.cells scope.names []) pm c' ctv))
    (hbind : ∀ u : Value, bindArgs (PySem.W.kla_fn "<lambda>" (X.env.qual ++ "<lambda>") params body scope (cloFrom X.env.cells scope.names []) pm (.ref c') ctv) ⟨[u], []⟩ = pure [(x, u)])
    (hbody : ∀ (s : Shared) (H : Hp), Room k (lamC X A s H scope f c').A → PE (lamC X A s H scope f c') body tb)
    (I : Inv X ([(kS, lstO #[] 0), (a, lstO #[] e1), (f, lmObj (X.env.qual ++ "<lambda>") params body scope (cloFrom X.env.cells scope.names []) pm c' ctv)] ++ pins) σ H s) (hv : Vals vs its) (hz : vs.length ≤ sizeLine)
    (run : kRun (fun H => H c' = some (CodeO c' (X.env.qual ++ "<lambda>"))) tb σ ip vs H Fin)
    (okK : ∀ ks H2, Fin ks H2 → ∃ kz, Gz ks kz H2 ∧ DpAll X.K H2 ks kz ∧ AllAlike kz ∧ Sortable kz ∧ ∀ d, d ∈ kz → A.units + d.depth < cLine)
    (h : ∀ ks kz H2 s2 out c, Gz ks kz H2 → Inv X pins σ H2 s2 → H2 a = none → s2.heap.get? a = some (lstO (List.toArray out) c) → KeyedOut b kz its out → P (.done (.ret .none)) s2) :
    wpAny (model X.prog X.w) A (ksk_rest a (.ref f) b its.toArray e1 (.ref kS)) P (fun _ _ => False) s := by
  subst hA
  have hlen : vs.length = its.length := hv.length
  unfold ksk_rest
  refine wpAny_bind (wpAny_rule ?_)
  first
    | rw [List.forIn_toArray]
    | (rw [← Array.forIn_toList]; simp only [List.toList_toArray])
    | rw [← Array.forIn_toList]
  refine wpAny_bind (ksk_fold (fun i s' => ∃ (kA : Array Value) (e : Nat) (ks : List V) (H' : Hp), Inv X ([(kS, lstO kA e), (a, lstO #[] e1), (f, lmObj (X.env.qual ++ "<lambda>") params body scope (cloFrom X.env.cells scope.names []) pm c' ctv)] ++ pins) σ H' s' ∧ Vals ks kA.toList ∧ ks.length = i ∧
    kRun (fun H => H c' = some (CodeO c' (X.env.qual ++ "<lambda>"))) tb σ ip (vs.drop i) H' fun k2 H2 => Fin (ks ++ k2) H2) its 0 s ⟨#[], 0, [], H, I, .nil, rfl, run⟩ ?step ?done)
  case step =>
    rintro j u s' hu ⟨kA, e, ks, H', J, hks, hkl, hrun⟩
    simp only [Nat.zero_add] at hkl hrun ⊢
    have hj : j < vs.length := by
      rw [hlen]
      exact (List.getElem?_eq_some_iff.mp hu).1
    obtain ⟨v, ev, rv⟩ := Vals_get hv j u hu
    have ed : vs.drop j = v :: vs.drop (j + 1) := by
      have q := (List.getElem?_eq_some_iff.mp ev).2
      rw [← q]
      exact List.drop_eq_getElem_cons hj
    rw [ed] at hrun
    obtain ⟨hC, ht⟩ := hrun
    have pinF := J.pin (f, _) (List.mem_append_right _ (List.mem_append_left _ (List.mem_cons_of_mem _ (List.mem_cons_of_mem _ List.mem_cons_self))))
    have cc := lam_call (A := X.A.in1.in1) (tb := tb) J L J.env0.in1.in1 hr nd hip rv pinF.1 hC hbind (hbody s' H') ht
    refine wpAny_bind (wpAny_attempt (wpAny_call (codeAny_mono cc fun r s2 hq => ?_)))
    obtain ⟨w, rfl, hq⟩ := hq
    obtain ⟨kv, H2, J2, rk, hrun2⟩ := J.after hq
    try dsimp only
    have pK := J2.pin (kS, lstO kA e) (List.mem_append_right _ (List.mem_append_left _ (by simp)))
    have pA := J2.pin (a, lstO #[] e1) (List.mem_append_right _ (List.mem_append_left _ (by simp)))
    have pF := J2.pin (f, _) (List.mem_append_right _ (List.mem_append_left _ (List.mem_cons_of_mem _ (List.mem_cons_of_mem _ List.mem_cons_self))))
    have kAz : kA.size ≤ sizeLine := by
      have q : ks.length = kA.toList.length := hks.length
      have q2 : kA.toList.length = kA.size := Array.length_toList
      omega
    have sb := Heap.SameBut.update s2.heap kS (Obj.mapSeq (·.push w))
    obtain ⟨c2, hc2⟩ : ∃ c2, (s2.heap.update kS (Obj.mapSeq (·.push w))).get? kS = some (seqObj "list" (kA.push w) c2) := ⟨_, get?_update_seq pK.1 (·.push w)⟩
    refine wpAny_bind (listUpdate_at pK.1 rfl ?_ kAz (Nat.le_trans (Nat.le_of_eq (Array.size_push ..)) (Nat.succ_le_succ kAz)))
    refine wpAny_pure ⟨rfl, kA.push w, c2, ks ++ [kv], H2, ?_, ?_, ?_, ?_⟩
    · have J3 : Inv X pins σ H2 s2 := J2.pins_of fun p hp => J2.pin p (List.mem_append_right _ (List.mem_append_right _ hp))
      have fp := I0.fpOk (H' := H2) hkS pK.2.1
      have J4 : Inv X pins σ H2 { s2 with heap := s2.heap.update kS (Obj.mapSeq (·.push w)), toks := s2.toks } := J3.turned (t' := s2.toks) (fun b o hb q => (sb.2 b hb).trans q) fp.1 fp.2.1 fp.2.2.2.1 fp.2.2.2.2.1 fp.2.2.2.2.2
      refine J4.pins_of fun p hp => ?_
      rcases List.mem_append.mp hp with z | z
      · simp only [List.mem_cons, List.not_mem_nil, or_false] at z
        rcases z with rfl | rfl | rfl
        · exact ⟨hc2, pK.2.1, pK.2.2.1, pK.2.2.2.1, lst_nc⟩
        · exact ⟨(sb.2 a (Ne.symm hka)).trans pA.1, pA.2⟩
        · exact ⟨(sb.2 f fk).trans pF.1, pF.2⟩
      · exact J4.pin p (List.mem_append_right _ z)
    · rw [Array.toList_push]
      exact vals_snoc hks rk
    · rw [List.length_append, hkl]
      rfl
    · simpa [List.append_assoc] using hrun2
  case done =>
    rintro s' ⟨kA, e, ks, H', J, hks, hkl, hrun⟩
    have edr : vs.drop (0 + its.length) = [] := List.drop_eq_nil_of_le (by omega)
    rw [edr] at hrun
    have hF : Fin ks H' := by
      have q : Fin (ks ++ []) H' := hrun
      rwa [List.append_nil] at q
    obtain ⟨kz, hG, hd, hal, hsk, hu⟩ := okK ks H' hF
    have pK := J.pin (kS, lstO kA e) (List.mem_append_right _ (List.mem_append_left _ (by simp)))
    have pA := J.pin (a, lstO #[] e1) (List.mem_append_right _ (List.mem_append_left _ (by simp)))
    have hsz : kA.size = its.length := by
      have q : ks.length = kA.toList.length := hks.length
      have q2 : kA.toList.length = kA.size := Array.length_toList
      have q3 : ks.length = 0 + its.length := hkl
      omega
    obtain ⟨as, hrd⟩ := Dp.readsAll J kz ks kA.toList hd hks
    have each : EachIs (fun v d => ∃ as, Reads s'.heap v d as) kA.toList kz := by
      have go : ∀ {us : List Value} {ds : List PyData} {bs : List Addr}, ReadsAll s'.heap us ds bs → EachIs (fun v d => ∃ as, Reads s'.heap v d as) us ds := fun {us ds bs} r => by
        induction us generalizing ds bs with
        | nil => cases r; exact .nil
        | cons u us ih =>
          cases r with
          | cons r1 r2 => exact .cons ⟨_, r1⟩ (ih r2)
      exact go hrd
    obtain ⟨G, g1, g2⟩ := L2.restrict s'.heap fun b => !decide (b = kS)
    have gn : G.get? kS = none := g2 kS (by simp)
    have ge : ∀ b, b ≠ kS → G.get? b = s'.heap.get? b := fun b hb => g1 b (by simp [hb])
    refine wpAny_bind (listItems_at pK.1 rfl ?_)
    refine keyH_end (κ := dataKind s'.heap kz) (h₁ := G) (fun b o hb q => ?_) gn pK.1 pA.1 hka (SortsAt.data (s := s') each hal hsk hu) hsz (by omega) fun h3 tk3 c k3 n3 => ?_
    · by_cases hbk : b = kS
      · rw [hbk, gn] at q; cases q
      · rw [ge b hbk] at q; exact q
    · have J3 : Inv X pins σ H' s' := J.pins_of fun p hp => J.pin p (List.mem_append_right _ (List.mem_append_right _ hp))
      have J4 : Inv X pins σ H' { s' with heap := h3, toks := tk3 } := J3.turnedL (ch := [kS, a]) (fun b o hb q => by
        have hb1 : b ≠ kS := fun z => hb (by simp [z])
        have hb2 : b ≠ a := fun z => hb (by simp [z])
        exact k3 b o hb2 ((ge b hb1).trans q)) fun b hb => by
          simp only [List.mem_cons, List.not_mem_nil, or_false] at hb
          rcases hb with rfl | rfl
          · exact I0.fpOk hkS pK.2.1
          · exact I0.fpOk ha pA.2.1
      exact h ks kz H' _ _ c hG J4 pA.2.1 n3 ⟨s'.heap, kA.toList, hal, rfl, each⟩
end
end DV

/-! DV: sorted(.., key=lambda x: ..) -/
namespace DV
open PySem L2 LamX PyProof.Rows PySem.Spec PySem.W
/-- what is collected out of u, wherever h2 stands -/
def Col (X : Cx) (u : Value) (xs : List V) (h2 : Heap) : Prop := ∀ (A : Around) (s2 : Shared) (Er : Value → Shared → Prop) (Q : List Value → Shared → Prop), A.handled = none → s2.heap = h2 →
  (∀ h' tk items, (∀ b o, h2.get? b = some o → h'.get? b = some o) → Vals xs items → Q items { s2 with heap := h', toks := tk }) → wpAny (model X.prog X.w) A (collect u) Q Er s2
/-- an expression whose items are collected -/
def PCol (X : Cx) (e : Expr) (t : L2.St → Hp → (List V → Hp → Prop) → Prop) : Prop :=
  ∀ (pins : List (Addr × Obj)) (s : Shared) (σ : L2.St) (H : Hp) (Q : List V → Hp → Prop), Inv X pins σ H s → t σ H Q →
    wpAny (model X.prog X.w) X.A (eval e X.env) (fun u s' => ∃ l xs H', u = .ref l ∧ Inv X pins σ H' s' ∧ Q xs H' ∧ xs.length ≤ sizeLine ∧ ∀ (P : Addr) (ps : Array Value) (h2 : Heap), H' P = some (.tbl ps) → (∀ b o, b ≠ P → s'.heap.get? b = some o → h2.get? b = some o) → Col X u xs h2) X.xe s
section
variable {X : Cx} {e : Expr} {te : TE}
/-- a list or a tuple -/
def tColS (K : PySem.W.Frag) (te : TE) : L2.St → Hp → (List V → Hp → Prop) → Prop := fun σ H Q => te σ H fun v H1 => ∃ l xs, v = .ref l ∧ (SqL K H1 l xs ∨ SqT K H1 l xs) ∧ Q xs H1
theorem pcol_seq (he : PE X e te) : PCol X e (tColS X.K te) := by
  intro pins s σ H Q I h
  refine wpAny_mono (he.run pins s σ H _ I h) (fun u s1 hq => ?_) fun _ _ q => q
  obtain ⟨v, H1, I1, r, l, xs, rfl, hs, q⟩ := hq
  obtain rfl : u = Value.ref l := r
  rcases hs with hs | hs
  · obtain ⟨its, rv, hl, hz⟩ := I1.list hs
    refine ⟨l, xs, H1, rfl, I1, q, hz, fun P ps h2 eP kp A s2 Er Q2 hh es go => ?_⟩
    obtain ⟨o, ho, hc, n, hd⟩ := hl.isList
    have ne : l ≠ P := fun z => by
      have q2 : s1.heap.get? P = some { cls := .none, data := .fields ps } := I1.hok P _ eP
      rw [← z, ho] at q2
      cases q2
      cases hd
    subst es
    exact wpAny_collect_seq l (.inl rfl) (kp _ _ ne ho) hc hd (fun h' k => go h' s2.toks its k rv) (by rw [List.size_toArray, ← rv.length]; exact hz)
  · obtain ⟨its, rv, hl, hz⟩ := I1.tuple hs
    refine ⟨l, xs, H1, rfl, I1, q, hz, fun P ps h2 eP kp A s2 Er Q2 hh es go => ?_⟩
    obtain ⟨o, ho, hc, n, hd⟩ := hl
    have ne : l ≠ P := fun z => by
      have q2 : s1.heap.get? P = some { cls := .none, data := .fields ps } := I1.hok P _ eP
      rw [← z, ho] at q2
      cases q2
      cases hd
    subst es
    exact wpAny_collect_seq l (.inr rfl) (kp _ _ ne ho) hc hd (fun h' k => go h' s2.toks its k rv) (by rw [List.size_toArray, ← rv.length]; exact hz)
/-- a range -/
def tColR (t : L2.St → Hp → (Int → Int → Hp → Prop) → Prop) : L2.St → Hp → (List V → Hp → Prop) → Prop := fun σ H Q => t σ H fun a b H1 => RgOk a b ∧ Q (rgV a b) H1
theorem pcol_rg {t : L2.St → Hp → (Int → Int → Hp → Prop) → Prop} (he : PRg X e t) : PCol X e (tColR t) := by
  intro pins s σ H Q I h
  refine wpAny_mono (he pins s σ H _ I h) (fun u s1 hq => ?_) fun _ _ q => q
  obtain ⟨r, a, b, t1, t2, t3, H1, rfl, hr, I1, ok, q⟩ := hq
  obtain ⟨b1, b2, b3, b4, b5⟩ := ok
  refine ⟨r, rgV a b, H1, rfl, I1, q, by rw [rgV_length, sizeLine_eq]; omega, fun P ps h2 eP kp A s2 Er Q2 hh es go => ?_⟩
  have ne : r ≠ P := fun z => by
    have q2 : s1.heap.get? P = some { cls := .none, data := .fields ps } := I1.hok P _ eP
    rw [← z] at q2
    have q3 : s1.heap.get? r = some { cls := .type "range", dict := none, data := .fields #[.int a t1, .int b t2, .int 1 t3], slots := #[] } := hr
    rw [q2] at q3
    cases q3
  subst es
  exact L2.collect_range (n := (b - a).toNat) hh (kp _ _ ne hr) (PySem.small_one b1 b2 b3 b4) (PyProof.Rows.rangeSize_nat a b) b5 fun h' tk acc hk hi => go h' tk acc.toList hk (vals_rg hi)
end
section
variable {X : Cx} {pins : List (Addr × Obj)} {σ : L2.St} {H : Hp} {s s0 : Shared}
/-- the rule at the call -/
theorem sortK_call {k : Nat} {scope : Scope} {x : Str} {ip : Nat} {f c' : Addr} {params : Arguments} {body : Expr} {pm ctv : Value} {tb : TE} {xs : List V} {l : Addr} {Q : VK} {Er : Value → Shared → Prop}
    (I : Inv X pins σ H s) (hr : Room (k + 3) X.A) (L : LamP X.env.scope scope x) (nd : X.N.Nodup) (hip : X.N[ip]? = some x)
    (of : s.heap.get? f = some (lmObj (X.env.qual ++ "<lambda>") params body scope (cloFrom X.env.cells scope.names []) pm c' ctv)) (hf : H f = none) (asf : Aside X f (lmObj (X.env.qual ++ "<lambda>") params body scope (cloFrom X.env.cells scope.names []) pm c' ctv))
    (hbind : ∀ u : Value, bindArgs (PySem.W.kla_fn "<lambda>" (X.env.qual ++ "<lambda>") params body scope (cloFrom X.env.cells scope.names []) pm (.ref c') ctv) ⟨[u], []⟩ = pure [(x, u)])
    (hbody : ∀ (s : Shared) (H : Hp), Room k (lamC X X.A.in1.in1 s H scope f c').A → PE (lamC X X.A.in1.in1 s H scope f c') body tb)
    (col : Col X (.ref l) xs s.heap) (hz : xs.length ≤ sizeLine)
    (run : kRun (fun H => H c' = some (CodeO c' (X.env.qual ++ "<lambda>"))) tb σ ip xs H fun ks H2 => ∃ kz, DpAll X.K H2 ks kz ∧ kz.length = xs.length ∧ AllAlike kz ∧ Sortable kz ∧ (∀ d, d ∈ kz → d.depth ≤ 60) ∧ ∀ p, H2 p = none → Q (.ref p) (upd H2 p (.lst (byKeys false xs kz)))) :
    wpAny (model X.prog X.w) X.A (call (.builtin "sorted") [.ref l] [(Str.ofString "key", .ref f)]) (EP X pins σ Q) Er s := by
  have hr2 : Room (k + 1) X.A.in1.in1 := (hr.in1 : Room (k + 2) X.A.in1).in1
  refine call_function_entry_kw kind_sorted plain_sorted entry_sorted (ksk_s1 _ _) ?_
  unfold Builtin.«sorted»
  refine wpAny_bind (m := checkCount "sorted" 1 1 _) (wpAny_pure ?_)
  refine wpAny_bind (col X.A.in1 s _ _ hr.hd rfl fun h' tk its kp rv => ?_)
  have hzi : its.length ≤ sizeLine := by
    have q : xs.length = its.length := rv.length
    omega
  refine wpAny_bind (wpAny_newList ?_ hzi)
  show wpAny _ _ _ _ _ { s with heap := h'.push (seqObj "list" its.toArray 0), toks := tk }
  have hoL : (h'.push (seqObj "list" its.toArray 0)).get? h'.objs.size = some (seqObj "list" its.toArray 0) := Heap.get?_push_size _ rfl
  have I0 : Inv X pins σ H { s with heap := h', toks := tk } := I.kept kp
  have lt : ∀ {b : Addr} {o : Obj}, s.heap.get? b = some o → b < h'.objs.size := fun e => Heap.lt_size (kp _ _ e)
  refine wpAny_bind (wpAny_holding (wpAny_call_entry_kw slot_list_sort ⟨_, hoL, rfl⟩ entry_list_sort ?body (ksk_l1 _ _)))
  case body =>
    show wpAny (model X.prog X.w) X.A.in1.in1 (Builtin.«list.sort» ⟨[.ref h'.objs.size], [(Str.ofString "key", .ref f)]⟩) _ _ _
    rw [ksk_t1]
    suffices w2 : wpAny (model X.prog X.w) X.A.in1.in1 (ksk_tree h'.objs.size (.ref f) false) (fun (fl : PySem.Fin) s' => fl = .done (.ret .none) ∧ EP X pins σ Q (.ref h'.objs.size) s') (fun _ _ => False) { s with heap := h'.push (seqObj "list" its.toArray 0), toks := tk } by
      refine wpAny_mono w2 (fun fl s' hq => ?_) fun _ _ q => q.elim
      obtain ⟨rfl, hq⟩ := hq
      exact ⟨_, rfl, wpAny_pure ⟨_, rfl, hq⟩⟩
    unfold ksk_tree
    obtain ⟨e1, ho1⟩ : ∃ e1, ((h'.push (seqObj "list" its.toArray 0)).update h'.objs.size (Obj.mapSeq fun _ => (#[] : Array Value))).get? h'.objs.size = some (seqObj "list" #[] e1) := ⟨_, get?_update_seq hoL fun _ => #[]⟩
    have hzs : its.toArray.size ≤ sizeLine := by rw [List.size_toArray]; exact hzi
    refine wpAny_bind (listItems_at hoL rfl ?_)
    refine wpAny_bind (listUpdate_at hoL rfl ?_ hzs (Nat.zero_le _))
    refine wpAny_bind (seqEpoch_at ho1 rfl ?_)
    refine wpAny_bind (wpAny_newTuple ?_ (by show its.length ≤ _; exact hzi))
    refine wpAny_bind (wpAny_newList ?_ (Nat.zero_le _))
    refine wpAny_holding ?_
    have hk3 : (((h'.push (seqObj "list" its.toArray 0)).update h'.objs.size (Obj.mapSeq fun _ => (#[] : Array Value))).push (seqObj "tuple" its.toArray 0)).objs.size = h'.objs.size + 2 := by rw [size_push', Heap.size_update, size_push']
    show wpAny _ _ (ksk_rest h'.objs.size (.ref f) false its.toArray e1 (.ref (((h'.push (seqObj "list" its.toArray 0)).update h'.objs.size (Obj.mapSeq fun _ => (#[] : Array Value))).push (seqObj "tuple" its.toArray 0)).objs.size)) _ _ { s with heap := (((h'.push (seqObj "list" its.toArray 0)).update h'.objs.size (Obj.mapSeq fun _ => (#[] : Array Value))).push (seqObj "tuple" its.toArray 0)).push (seqObj "list" #[] 0), toks := tk }
    rw [hk3]
    have up : ∀ b o, h'.get? b = some o → ((((h'.push (seqObj "list" its.toArray 0)).update h'.objs.size (Obj.mapSeq fun _ => (#[] : Array Value))).push (seqObj "tuple" its.toArray 0)).push (seqObj "list" #[] 0)).get? b = some o := fun b o q =>
      sortingHeap_old (Nat.ne_of_lt (Heap.lt_size q)) (Heap.get?_push_of_some _ q)
    have I1 : Inv X pins σ H { s with heap := (((h'.push (seqObj "list" its.toArray 0)).update h'.objs.size (Obj.mapSeq fun _ => (#[] : Array Value))).push (seqObj "tuple" its.toArray 0)).push (seqObj "list" #[] 0), toks := tk } := I0.kept up
    have ga : ((((h'.push (seqObj "list" its.toArray 0)).update h'.objs.size (Obj.mapSeq fun _ => (#[] : Array Value))).push (seqObj "tuple" its.toArray 0)).push (seqObj "list" #[] 0)).get? h'.objs.size = some (seqObj "list" #[] e1) := Heap.get?_push_of_some _ (Heap.get?_push_of_some _ ho1)
    have gk : ((((h'.push (seqObj "list" its.toArray 0)).update h'.objs.size (Obj.mapSeq fun _ => (#[] : Array Value))).push (seqObj "tuple" its.toArray 0)).push (seqObj "list" #[] 0)).get? (h'.objs.size + 2) = some (seqObj "list" #[] 0) := by
      have q := Heap.get?_push_size (((h'.push (seqObj "list" its.toArray 0)).update h'.objs.size (Obj.mapSeq fun _ => (#[] : Array Value))).push (seqObj "tuple" its.toArray 0)) (o := seqObj "list" #[] 0) rfl
      rwa [hk3] at q
    have ff := lt of
    have fa := I0.hok.fresh (a := h'.objs.size) (Nat.le_refl _)
    have fk := I0.hok.fresh (a := h'.objs.size + 2) (Nat.le_add_right _ _)
    have asa : Aside X h'.objs.size (lstO #[] e1) := aside_new I0 (Nat.le_refl _) lst_nc
    have ask : Aside X (h'.objs.size + 2) (lstO #[] 0) := aside_new I0 (Nat.le_add_right _ _) lst_nc
    refine sort_rest (tb := tb) (b := false) (vs := xs) (H := H) (Gz := fun ks kz H2 => kz.length = xs.length ∧ ∀ p, H2 p = none → Q (.ref p) (upd H2 p (.lst (byKeys false xs kz)))) (Fin := fun ks H2 => ∃ kz, DpAll X.K H2 ks kz ∧ kz.length = xs.length ∧ AllAlike kz ∧ Sortable kz ∧ (∀ d, d ∈ kz → d.depth ≤ 60) ∧ ∀ p, H2 p = none → Q (.ref p) (upd H2 p (.lst (byKeys false xs kz)))) I0 rfl hr2 L nd hip (Nat.le_refl _) (Nat.le_add_right _ _) (Nat.ne_of_gt (Nat.lt_succ_of_lt (Nat.lt_succ_self _))) (Nat.ne_of_lt ff) (Nat.ne_of_lt (Nat.lt_of_lt_of_le ff (Nat.le_add_right _ _))) asf hbind hbody (I1.pins_of fun p hp => ?_) rv hz run (fun ks H2 hF => ?_) fun ks kz2 H2 s2 out c hF J na gout ko => ⟨rfl, ?_⟩
    · rcases List.mem_append.mp hp with z | z
      · simp only [List.mem_cons, List.not_mem_nil, or_false] at z
        rcases z with rfl | rfl | rfl
        · exact ask.pin gk fk
        · exact asa.pin ga fa
        · exact asf.pin (up _ _ (kp _ _ of)) hf
      · exact I1.pin p (List.mem_append_right _ z)
    · obtain ⟨kz, d1, d2, d3, d4, d5, d6⟩ := hF
      refine ⟨kz, ⟨d2, d6⟩, d1, d3, d4, fun d hd => ?_⟩
      have := hr2.un
      have := d5 d hd
      omega
    · obtain ⟨d2, q⟩ := hF
      have ko2 : KeyedOut false ((xs.zip kz2).map (·.2)) its out := by rw [zip_snd d2]; exact ko
      have each := keyedOut_each (fun p : V × D => p.2) ko2 (each_zip rv d2)
      have rv2 := vals_each each
      have hlen : (byKeys false xs kz2).length ≤ sizeLine := by
        unfold byKeys
        rw [List.length_map, List.length_mergeSort, List.length_zip]
        omega
      have fp := I0.fpOk (H' := H2) (Nat.le_refl _) na
      have J2 : Inv X pins σ (upd H2 h'.objs.size (.lst (byKeys false xs kz2))) { s2 with heap := s2.heap, toks := s2.toks } := J.take (t' := s2.toks) (fun _ _ _ e => e) fp ⟨hlen, out, c, rv2, gout⟩
      exact ⟨.ref h'.objs.size, _, J2, rfl, q _ na⟩
end
end DV

/-! DV: sorted by a lambda's keys, the expression -/
namespace DV
open PySem L2 LamX PyProof.Rows PySem.Spec PySem.W
def KeyFin (K : PySem.W.Frag) (out : List V → List D → List V) (xs : List V) (Q : VK) (ks : List V) (H2 : Hp) : Prop :=
  ∃ kz, DpAll K H2 ks kz ∧ kz.length = xs.length ∧ AllAlike kz ∧ Sortable kz ∧ (∀ d, d ∈ kz → d.depth ≤ 60) ∧ ∀ p, H2 p = none → Q (.ref p) (upd H2 p (.lst (out xs kz)))
def tSortK (K : PySem.W.Frag) (P : Addr) (q : Str) (t : L2.St → Hp → (List V → Hp → Prop) → Prop) (tb : TE) (ip : Nat) : TE := fun σ H Q => t σ H fun xs H1 => Tabs (tabsOf K) H1 ∧ ∀ c' H2, Grown (tabsOf K) P H1 H2 → H2 c' = some (CodeO c' q) →
  kRun (fun H => H c' = some (CodeO c' q)) tb σ ip xs H2 (KeyFin K (byKeys false) xs Q)
/-- where the lambda is made -/
structure LamAt (X : Cx) (P : Addr) (q : Str) (params : Arguments) (scope : Scope) (x : Str) (ip : Nat) : Prop where
  cod : ∃ c, TabB X.base X.mg c P ∧ X.env.code = .ref c
  mem : (P, q) ∈ tabsOf X.K
  uni : ∀ p ∈ tabsOf X.K, p.1 = P → p.2 = q
  qual : X.env.qual ++ "<lambda>" = q
  par : LamP X.env.scope scope x
  slot : X.N[ip]? = some x
  noDef : defaultsOf params X.env = ([], [])
  bind : ∀ (qn : Str) (body : Expr) (cl : List (Str × Addr)) (pm cd ct u : Value), bindArgs (PySem.W.kla_fn "<lambda>" qn params body scope cl pm cd ct) ⟨[u], []⟩ = pure [(x, u)]
section
variable {X : Cx} {e : Expr} {t : L2.St → Hp → (List V → Hp → Prop) → Prop} {tb : TE} {k : Nat} {P : Addr} {q : Str} {params : Arguments} {body : Expr} {scope : Scope} {x : Str} {ip : Nat} {p pos lpos kpos : Pos}
theorem pe_sortK (hg : Gl X "sorted") (hm : X.mg "sorted" = none) (hr : Room (k + 3) X.A) (nd : X.N.Nodup) (he : PCol X e t) (A : LamAt X P q params scope x ip)
    (hbody : ∀ (s : Shared) (H : Hp) (f c' : Addr), Room k (lamC X X.A.in1.in1 s H scope f c').A → PE (lamC X X.A.in1.in1 s H scope f c') body tb)
    (hb1 : backTo pos (starEach [e] X.env) = (false, eval e X.env) :: backTo pos (starEach [] X.env) := by rfl) (hb2 : (backTo pos (starEach [e] X.env)).any (·.1) = false := by rfl) :
    PE X (.Call (.Name "sorted" p) [e] [⟨some "key", .Lambda params body scope lpos, kpos⟩] pos) (tSortK X.K P q t tb ip) := by
  refine ⟨fun pins s σ H Q I h => ?_⟩
  refine wpAny_Call_Name_kw (ld_blt I hg hm boot_sorted ?_)
  obtain ⟨c, hTB, hcode⟩ := A.cod
  have hq2 := A.qual
  subst hq2
  have hfree : ∀ y ∈ scope.names, y.2 = .free → ∃ a, X.env.cells.lookup y.1 = some a := fun y m ey => I.ok.has _ (A.par.free y m ey)
  refine PyProof.Rows.callWith_kw ?_ hb1 hb2 rfl rfl
  rw [hb1]
  refine Calls.spliced_cons (thn (he pins s σ H _ I h) fun u s1 ⟨l, xs, H1, eu, I1, ⟨hT, q1⟩, hz, hcol⟩ => ?_)
  subst eu
  refine wpAny_pure ?_
  show wpAny _ _ (evalAll [(do let v ← eval (.Lambda params body scope lpos) X.env; standAt pos; pure v)]) _ _ s1
  refine wpAny_evalAll_cons (wpAny_bind (lam_mk I1 hTB hcode A.mem A.uni hT A.noDef hfree fun f c' pm ctv H2 s2 I2 G of hf sz kp hc => ?_))
  refine wpAny_bind (wpAny_standAt (wpAny_pure (wpAny_evalAll_nil ?_)))
  show wpAny _ _ (call (.builtin "sorted") [.ref l] [(Str.ofString "key", .ref f)]) _ _ s2
  obtain ⟨ps, eP, _⟩ := hT _ A.mem
  exact sortK_call (tb := tb) I2 hr A.par nd A.slot of hf (aside_new I1 sz fun v z => by cases z) (fun u => A.bind _ _ _ _ _ _ u) (fun s' H' => hbody s' H' f c') (hcol P ps s2.heap eP kp) hz (q1 c' H2 G hc)
end
/-! ### as functions over data -/
theorem DpAll_fin {K : PySem.W.Frag} {F H : Hp} (h : ∀ a o, F a = some o → H a = some o) {vs : List V} {ds : List D} (d : DpAll K F vs ds) : DpAll K H vs ds := Dp.monoA h ds vs d
def ColSem (K : PySem.W.Frag) (R : Option Addr) (t : L2.St → Hp → (List V → Hp → Prop) → Prop) (f : Env → M (List D)) : Prop :=
  ∀ (L : Nat → Option (Addr × List V)) (E : Hp) (ρ : Env) (σ : L2.St) (F H : Hp) (rs : RS) (its : List D) (rs' : RS) (Q : List V → Hp → Prop), Rel K R L E F ρ σ rs H → f ρ rs = some (its, rs') →
    (∀ xs F' H', Step K R rs' F H F' H' → DpAll K F' xs its → Q xs H') → t σ H Q
structure DCol (X : Cx) (R : Option Addr) (e : Expr) (t : L2.St → Hp → (List V → Hp → Prop) → Prop) (f : Env → M (List D)) : Prop where
  pc : PCol X e t
  sem : ColSem X.K R t f
def colS (f : Env → M RV) : Env → M (List D) := fun ρ => bnd (f ρ) fun x => lft (items x)
def colR (f : Env → M (Int × Int)) : Env → M (List D) := fun ρ => bnd (f ρ) fun x => if okRg x.1 x.2 = true then ret (rngD x.1 (x.2 - x.1).toNat) else fail
section
variable {X : Cx} {R : Option Addr} {K : PySem.W.Frag} {e : Expr} {te : TE}
theorem dcol_seq {f : Env → M RV} (h : DE X R e te f) : DCol X R e (tColS X.K te) (colS f) := ⟨pcol_seq h.pe, fun L E ρ σ F H rs its rs' Q r hf k => by
  obtain ⟨x, rs1, e1, hf1⟩ := bnd_some hf
  obtain ⟨e2, q2⟩ := lft_some hf1
  subst q2
  refine h.sem L E ρ σ F H rs x _ _ r e1 fun v F1 H1 s1 h1 => ?_
  obtain ⟨a, vs, rfl, hs, hd⟩ := h1.items (r.step s1).refl e2
  exact ⟨a, vs, rfl, hs, k vs F1 H1 s1 hd⟩⟩
theorem dcol_rg {t : L2.St → Hp → (Int → Int → Hp → Prop) → Prop} {f : Env → M (Int × Int)} (h : DRg X R e t f) : DCol X R e (tColR t) (colR f) := ⟨pcol_rg h.pr, fun L E ρ σ F H rs its rs' Q r hf k => by
  obtain ⟨v, rs1, e1, hf1⟩ := bnd_some hf
  by_cases hb : okRg v.1 v.2 = true
  · have hf2 : (if okRg v.1 v.2 = true then ret (rngD v.1 (v.2 - v.1).toNat) else fail) rs1 = some (its, rs') := hf1
    rw [if_pos hb] at hf2
    obtain ⟨e4, q4⟩ := ret_some hf2
    subst e4 q4
    exact h.sem L E ρ σ F H rs v _ _ r e1 fun F1 H1 s1 => ⟨okRg_of hb, k _ F1 H1 s1 (rg_data _ _)⟩
  · have hf2 : (if okRg v.1 v.2 = true then ret (rngD v.1 (v.2 - v.1).toNat) else fail) rs1 = some (its, rs') := hf1
    rw [if_neg hb] at hf2
    cases hf2⟩
/-- data alone -/
def asD : RV → Option D
  | .d d => some d
  | _ => none
/-- the keys -/
def keysF (el : Env → M RV) (ρ : Env) (ip : Nat) : List D → M (List D)
  | [] => ret []
  | x :: xs => bnd (el (ρ.set ip (some (.d x)))) fun y => bnd (lft (asD y)) fun d => bnd (keysF el ρ ip xs) fun ds => ret (d :: ds)
def eSortK (fi : Env → M (List D)) (el : Env → M RV) (ip : Nat) : Env → M RV := fun ρ => bnd (fi ρ) fun its => bnd (keysF el ρ ip its) fun kz => if okKeys kz = true ∧ its.length ≤ 10000 then ret (.n (sortK its kz)) else fail
/-- a table has grown -/
theorem Step.grown {rs : RS} {F H H2 : Hp} {P : Addr} {q : Str} (s : Step K R rs F H F H) (hP : (P, q) ∈ tabsOf K) (G : Grown (tabsOf K) P H H2) : Step K R rs F H F H2 := by
  obtain ⟨ps, eP⟩ := tabs_at s.row.tab hP
  have ne : ∀ a o, H a = some o → Fx K a o → a ≠ P := fun a o e n z => by
    subst z
    rw [eP] at e
    cases e
    rcases n with n | n
    · exact n ps rfl
    · exact n q hP
  refine ⟨fun a o e _ n => G.keep a o (ne a o e n) e, fun _ _ h => h, fun _ _ h => .inl h, fun a o e => G.keep a o (ne a o (s.fin a o e) (s.row.fnt a o e)) (s.fin a o e), ⟨fun r e => ?_, G.tabs, s.row.fnt⟩, s.rF⟩
  obtain ⟨a, e1, e2, e3⟩ := s.row.at_ r e
  exact ⟨a, G.keep _ _ (ne _ _ e1 .lst) e1, e2, e3⟩
theorem keys_run {C : Hp → Prop} {el : Env → M RV} {ip : Nat} {L : Nat → Option (Addr × List V)} {E : Hp} {ρ : Env} {σ : L2.St} (hC : ∀ rs F H rs' F' H', RowOk K R rs F H → Step K R rs' F H F' H' → C H → C H') (he : ESem K R tb el) :
    ∀ (its : List D) (xs : List V) (F H : Hp) (rs : RS) (kz : List D) (rs' : RS) (Q : List V → Hp → Prop), Rel K R L E F ρ σ rs H → C H → DpAll K F xs its → keysF el ρ ip its rs = some (kz, rs') →
      (∀ ks F' H', Step K R rs' F H F' H' → DpAll K F' ks kz → Q ks H') → kRun C tb σ ip xs H Q := fun its => by
  induction its with
  | nil =>
    intro xs F H rs kz rs' Q r c hd hf k
    cases hd
    obtain ⟨e1, q1⟩ := ret_some hf
    subst e1 q1
    exact k [] F H r.refl .nil
  | cons x its ih =>
    intro xs F H rs kz rs' Q r c hd hf k
    cases hd with
    | cons h1 h2 =>
      rename_i v vs
      obtain ⟨y, rs1, e1, hf1⟩ := bnd_some hf
      obtain ⟨d, rs2, e2, hf2⟩ := bnd_some hf1
      obtain ⟨e3, q3⟩ := lft_some e2
      subst q3
      obtain ⟨ds, rs4, e4, hf4⟩ := bnd_some hf2
      obtain ⟨e5, q5⟩ := ret_some hf4
      subst e5 q5
      refine ⟨c, he L E _ _ F H rs y _ _ (r.put ip (.d x) v h1 (fun a q => nomatch q)) e1 fun kv F1 H1 s1 hk => ?_⟩
      have hkd : Dp K F1 kv d := by
        cases y with
        | d z => cases e3; exact hk
        | b _ => cases e3
        | n _ => cases e3
        | gb _ => cases e3
        | gn _ => cases e3
        | row => cases e3
      refine ih vs F1 H1 _ ds _ _ (r.step s1) (hC _ _ _ _ _ _ r.row s1 c) (Dp.monoA s1.sub _ _ h2) e4 fun ks F2 H2 s2 hks => ?_
      exact k _ F2 H2 (s1.trans r.row s2) (.cons (Dp.mono s2.sub _ _ hkd) hks)
theorem de_sortK {t : L2.St → Hp → (List V → Hp → Prop) → Prop} {fi : Env → M (List D)} {el : Env → M RV} {tb : TE} {k : Nat} {P : Addr} {q : Str} {params : Arguments} {body : Expr} {scope : Scope} {x : Str} {ip : Nat} {p pos lpos kpos : Pos}
    (hg : Gl X "sorted") (hm : X.mg "sorted" = none) (hr : Room (k + 3) X.A) (nd : X.N.Nodup) (hi : DCol X R e t fi) (A : LamAt X P q params scope x ip)
    (hbody : ∀ (s : Shared) (H : Hp) (f c' : Addr), Room k (lamC X X.A.in1.in1 s H scope f c').A → DE (lamC X X.A.in1.in1 s H scope f c') R body tb el)
    (hb1 : backTo pos (starEach [e] X.env) = (false, eval e X.env) :: backTo pos (starEach [] X.env) := by rfl) (hb2 : (backTo pos (starEach [e] X.env)).any (·.1) = false := by rfl) :
    DE X R (.Call (.Name "sorted" p) [e] [⟨some "key", .Lambda params body scope lpos, kpos⟩] pos) (tSortK X.K P q t tb ip) (eSortK fi el ip) :=
  ⟨pe_sortK hg hm hr nd hi.pc A (fun s H f c' hr' => (hbody s H f c' hr').pe) hb1 hb2, fun L E ρ σ F H rs x0 rs' Q r hf kk => by
    have hsem : ESem X.K R tb el := (hbody {} (fun _ => none) 0 0 (((hr.in1 : Room (k + 2) X.A.in1).in1 : Room (k + 1) X.A.in1.in1).deeper _)).sem
    obtain ⟨its, rs1, e1, hf1⟩ := bnd_some hf
    obtain ⟨kz, rs2, e2, hf2⟩ := bnd_some hf1
    by_cases hok : okKeys kz = true ∧ its.length ≤ 10000
    · have hf3 : (if okKeys kz = true ∧ its.length ≤ 10000 then ret (RV.n (sortK its kz)) else fail) rs2 = some (x0, rs') := hf2
      rw [if_pos hok] at hf3
      obtain ⟨e4, q4⟩ := ret_some hf3
      subst e4 q4
      obtain ⟨k1, k2, k3⟩ := okKeys_of hok.1
      refine hi.sem L E ρ σ F H rs its rs1 _ r e1 fun xs F1 H1 s1 hd => ?_
      have r1 := r.step s1
      refine ⟨s1.row.tab, fun c' H2 G hc => ?_⟩
      have sg := r1.refl.grown A.mem G
      have r2 := r1.step sg
      refine keys_run (fun rs F H rs' F' H' ro st c => st.keep c' _ c (fun z => ?_) (.inl codeO_ne)) hsem its xs F1 H2 rs1 kz _ _ r2 hc hd e2 fun ks F3 H3 s3 hks => ?_
      · obtain ⟨a, ea, _⟩ := ro.at_ c' z.symm
        rw [c] at ea
        have := Option.some.inj ea
        unfold CodeO at this
        cases this
      have hl : kz.length = xs.length := by
        have q1 := hd.len
        have go : ∀ (its : List D) (rs : RS) (kz : List D) (rs' : RS), keysF el ρ ip its rs = some (kz, rs') → kz.length = its.length := fun its => by
          induction its with
          | nil =>
            intro rs kz rs' h
            obtain ⟨z1, _⟩ := ret_some h
            subst z1
            rfl
          | cons y its ih =>
            intro rs kz rs' h
            obtain ⟨_, _, _, h1⟩ := bnd_some h
            obtain ⟨_, _, _, h2⟩ := bnd_some h1
            obtain ⟨ds, _, h3, h4⟩ := bnd_some h2
            obtain ⟨z1, _⟩ := ret_some h4
            subst z1
            rw [List.length_cons, List.length_cons, ih _ _ _ h3]
        rw [go its _ _ _ e2, q1]
      refine ⟨kz, ?_, hl, k1, k2, k3, fun p hp => ?_⟩
      · have s13 := (r2.step s3)
        exact DpAll_fin s13.fr hks
      · have sAll := (s1.trans r.row (sg.trans r1.row s3))
        have rA := r.step sAll
        obtain ⟨s4, hF, hR⟩ := Step.new_lst (vs := byKeys false xs kz) rA.refl hp
        have hd3 := sortK_data (Dp.monoA (fun a o z => s3.sub a o (sg.sub a o z)) _ _ hd) hl
        exact kk _ F3 _ (sAll.trans r.row s4) ⟨p, _, rfl, upd_same, sAll.back r.row hp, hF, hR, hd3⟩
    · have hf3 : (if okKeys kz = true ∧ its.length ≤ 10000 then ret (RV.n (sortK its kz)) else fail) rs2 = some (x0, rs') := hf2
      rw [if_neg hok] at hf3
      cases hf3⟩
end
end DV

/-! DV: the end with tables, the makers' facts -/
namespace DV
open PySem L2 LamX PyProof.Rows PySem.Spec
/-- a def that makes lambdas: its code object, its table -/
structure LamFn (K : PySem.W.Frag) (mg : Str → Option Value) (base : Heap) (fd : FuncData) (q : Str) (P : Addr) : Prop where
  cod : ∃ c, TabB base mg c P ∧ fd.code = .ref c
  mem : (P, q) ∈ tabsOf K
  uni : ∀ p ∈ tabsOf K, p.1 = P → p.2 = q
theorem LamFn.at {X : Cx} {fd : FuncData} {q : Str} {P : Addr} {params : Arguments} {scope : Scope} {x : Str} {ip : Nat} (G : LamFn X.K X.mg X.base fd q P) (hcd : fd.code = X.env.code) (hq : X.env.qual ++ "<lambda>" = q) (par : lamPB X.env.scope scope x = true) (slot : X.N[ip]? = some x)
    (noDef : defaultsOf params X.env = ([], [])) (bind : ∀ (qn : Str) (body : Expr) (cl : List (Str × Addr)) (pm cd ct u : Value), bindArgs (PySem.W.kla_fn "<lambda>" qn params body scope cl pm cd ct) ⟨[u], []⟩ = pure [(x, u)]) : LamAt X P q params scope x ip :=
  ⟨by obtain ⟨c, h1, h2⟩ := G.cod; exact ⟨c, h1, hcd.symm.trans h2⟩, G.mem, G.uni, hq, lamP_by par, slot, noDef, bind⟩
/-- the end: the tables of the defs named are empty at first -/
theorem walk_lam {l : PySem.W.OpenLaw} {n k : Nat} {q : Program} {loose : List Str} {XP : (Str → Option Value) → Heap → Prop} {YP : World → Heap → Prop} {d : DefRec} {K : Params → PySem.W.Frag} {x : Str} (names : List Str)
    (hn : l.most = some n) (hn2 : n ≤ sizeLine) (hdf : d.params.defaults = []) (hr : Room k callerA) (hrec : names.all (fun y => (recsOf q).any fun e => e.name == y) = true) (hY : ∀ (w : World) (h : Heap), YP w h → (K w.params).In h)
    (go : ∀ (w : World) (mg : Str → Option Value) (fa : Addr) (h : Heap), (K w.params).In h → h.Ns mainGlobals mg → mg d.name = some (.ref fa) → (∀ y ∈ names, ∀ a, mg y = some (.ref a) → OwnTab (K w.params) a h) → LawAtS l w (K w.params) CX0 k n x mg fa h) :
    PySem.W.WalkO q loose XP YP l.row.toRowW d [] (fun f vs => PySem.call f vs) := by
  refine Att.attach_callB hn hdf fun w s₀ s1 mg mb fa o pm cd doc a vs ns top Y ho hd hcd hmg isList areInts most bits nog => ?_
  have inK := hY w _ Y
  have tabs : ∀ y ∈ names, ∀ b, mg y = some (.ref b) → OwnTab (K w.params) b s1.heap := fun y hy b eb c P o1 fd1 e dd vs1 sl k1 k2 k3 k4 k5 => by
    obtain ⟨r, hm, en⟩ := List.any_eq_true.mp (List.all_eq_true.mp hrec y hy)
    obtain ⟨b2, o2, fd2, c2, P2, h1, h2, h3, h4, h5, ⟨⟨o3, vs3, e1, e2, e3, e4⟩, e5⟩⟩ := top.T.tab r hm
    rw [beq_iff_eq.mp en, eb] at h1
    cases h1
    cases (inK _ _ k1).symm.trans h2
    cases k2.symm.trans h3
    cases k3.symm.trans h4
    cases (inK _ _ k4).symm.trans e1
    cases e3
    cases k5.symm.trans e4
    exact e5
  obtain ⟨fd, cs, sp, t1, t2, t3, bnd, pro, ok⟩ := go w mg fa _ inK top.T.g hmg tabs
  exact law_callTs inK top.T.g top.T.b top.T.builtins top.T.nolimit nog t1 t2 t3 top.T.bmain isList areInts (Nat.le_trans most hn2) hr ok bnd (fun H h1 h2 => pro H a ns most bits h1 h2) fun H e s' z => z
/-- the makers of a law: code object, table, name -/
structure Mk3 where
  c : Addr
  P : Addr
  q : Str
theorem tabs_of {K : PySem.W.Frag} {H : Hp} {ms : List Mk3} (h : (tabsOf K).all (fun p => ms.any fun m => m.P == p.1) = true) (e : ∀ m ∈ ms, H m.P = some (.tbl #[])) : Tabs (tabsOf K) H := fun p hp => by
  obtain ⟨m, hm, e1⟩ := List.any_eq_true.mp (List.all_eq_true.mp h p hp)
  rw [← beq_iff_eq.mp e1]
  exact TabS.nil (e m hm)
theorem tabs_none {K : PySem.W.Frag} {H : Hp} (h : tabsOf K = []) : Tabs (tabsOf K) H := fun p hp => by
  rw [h] at hp
  cases hp
theorem uni_of {K : PySem.W.Frag} {P : Addr} {q : Str} (h : (tabsOf K).all (fun p => !(p.1 == P) || p.2 == q) = true) : ∀ p ∈ tabsOf K, p.1 = P → p.2 = q := fun p hp e => by
  have z := List.all_eq_true.mp h p hp
  rw [e] at z
  simpa using z
theorem mem_of_ {K : PySem.W.Frag} {P : Addr} {q : Str} (h : ((tabsOf K).any fun p => p.1 == P && p.2 == q) = true) : (P, q) ∈ tabsOf K := by
  obtain ⟨p, hp, e⟩ := List.any_eq_true.mp h
  simp only [Bool.and_eq_true, beq_iff_eq] at e
  obtain ⟨e1, e2⟩ := e
  rw [← e1, ← e2]
  exact hp
end DV

/-! DV: is True, is not False -/
namespace DV
open PySem L2 PyProof.Rows
section
variable {K : PySem.W.Frag} {R : Option Addr}
def gIsBl (neg : Bool) : RV → RV → Option RV := fun x y => match asBool x, asBool y with
  | some a, some b => some (.d (.bool (if neg then !decide (a = b) else decide (a = b))))
  | _, _ => none
theorem rsem_isB (neg : Bool) : RSem K R (if neg then rNotB else rIsB) (gIsBl neg) := fun F H0 H rs x y p q z Q s hx hy e kk => by
  unfold gIsBl at e
  cases e1 : asBool p with
  | none => rw [e1] at e; cases e
  | some a =>
    cases e2 : asBool q with
    | none => rw [e1, e2] at e; cases e
    | some b =>
      rw [e1, e2] at e
      have e := Option.some.inj e
      subst e
      have h1 := hx.bool e1
      have h2 := hy.bool e2
      cases neg with
      | false => exact ⟨a, b, h1, h2, kk _ F H s (Dp.bl _)⟩
      | true => exact ⟨a, b, h1, h2, kk _ F H s (Dp.bl _)⟩
theorem rsem_isB0 : RSem K R rIsB (gIsBl false) := rsem_isB false
theorem rsem_isB1 : RSem K R rNotB (gIsBl true) := rsem_isB true
end
end DV

/-! DV: xs[::-1] of lists and tuples -/
namespace RevT
open PySem PySem.Spec PyProof.Rows HT
section
variable {prog : Program} {w : World} {A : Around} {E : Value → Shared → Prop} {s : Shared}
theorem adj (n : Nat) : Builtin.Slice.sliceAdjust none none (-1) (n : Int) = ((n : Int) - 1, -1) := rfl
theorem plc (n : Nat) : Builtin.Slice.slicePlaces ((n : Int) - 1) (-1) (-1) = n := by
  unfold Builtin.Slice.slicePlaces
  rw [if_neg (by decide)]
  by_cases h : n = 0
  · subst h
    rfl
  · rw [if_pos (by omega)]
    have e : ((n : Int) - 1 - -1 - 1) / (- -1) + 1 = (n : Int) := by
      rw [show (- -1 : Int) = 1 by decide, Int.ediv_one]
      omega
    rw [e, Int.toNat_natCast]
theorem picks (xs : Array Value) : ((List.range xs.size).filterMap fun (m : Nat) => xs[(((xs.size : Int) - 1) + (m : Int) * (-1)).toNat]?).toArray = xs.toList.reverse.toArray := by
  congr 1
  have e1 : (List.range xs.size).filterMap (fun (m : Nat) => xs[(((xs.size : Int) - 1) + (m : Int) * (-1)).toNat]?) = ((List.range xs.size).map fun k => xs.size - 1 - k).filterMap (xs[·]?) := by
    have e2 : (List.range xs.size).map (fun m : Nat => (((xs.size : Int) - 1) + (m : Int) * (-1)).toNat) = (List.range xs.size).map fun k => xs.size - 1 - k := by
      refine List.map_congr_left fun m hm => ?_
      have := List.mem_range.mp hm
      omega
    rw [← e2, List.filterMap_map]
    rfl
  rw [e1, PySem.W.krv_range, List.filterMap_reverse, PySem.W.krv_all]
theorem applied {sl : Addr} {k : Tok} {n : Nat} {Q : Int × Int × Nat → Shared → Prop} (hS : s.heap.IsSliceOf sl .none .none (.int (-1) k)) (hq : Q ((n : Int) - 1, -1, n) s) : wpAny (model prog w) A (Builtin.Slice.sliceApplied (.ref sl) (pure (n : Int))) Q E s := by
  obtain ⟨ob, o1, o2, o3⟩ := id hS
  unfold Builtin.Slice.sliceApplied Builtin.Slice.sliceFields
  refine wpAny_bind (wpAny_bind (wpAny_field o1 o3 (x := Value.none) rfl (wpAny_bind (wpAny_field o1 o3 (x := Value.none) rfl (wpAny_bind (wpAny_field o1 o3 (x := Value.int (-1) k) rfl (wpAny_pure ?_)))))))
  refine wpAny_bind (slicePart_int ?_)
  show wpAny _ _ (if ((-1 : Int) == 0) = true then _ else _) _ _ s
  rw [if_neg (by decide)]
  refine wpAny_bind (slicePart_none (wpAny_bind (slicePart_none (wpAny_bind (wpAny_pure ?_)))))
  show wpAny _ _ (match Builtin.Slice.sliceAdjust none none (-1) (n : Int) with | (a, b) => pure (a, (-1 : Int), Builtin.Slice.slicePlaces a b (-1))) _ _ s
  rw [adj]
  show wpAny _ _ (pure ((n : Int) - 1, (-1 : Int), Builtin.Slice.slicePlaces ((n : Int) - 1) (-1) (-1))) _ _ s
  rw [plc]
  exact wpAny_pure hq
theorem turned {t sl : Addr} {items : Array Value} {k : Tok} {Q : Value → Shared → Prop} (hT : IsTup s.heap t items) (hS : s.heap.IsSliceOf sl .none .none (.int (-1) k))
    (hq : Q (.ref s.heap.objs.size) { s with heap := s.heap.push { cls := .type "tuple", data := .seq items.toList.reverse.toArray } }) (hz : items.size ≤ sizeLine) : wpAny (model prog w) A (getItem (.ref t) (.ref sl)) Q E s := by
  have fits : sizeOk (.seq items.toList.reverse.toArray) := by
    show items.toList.reverse.toArray.size ≤ sizeLine
    rw [List.size_toArray, List.length_reverse, Array.length_toList]
    exact hz
  obtain ⟨ob, o1, o2, o3⟩ := id hS
  have isS : s.TypeIs (.ref sl) "slice" := ⟨ob, o1, o2⟩
  unfold getItem
  try with_reducible refine wpAny_holding ?_
  first
    | refine wpAny_bind (wpAny_pure ?_)
    | skip
  refine wpAny_bind (wpAny_sequenceKey hT.typeIs (by decide) ?_)
  refine wpAny_bind (wpAny_callSpecial?_slot (name := Str.ofString "__getitem__") hT.typeIs slot_tuple_getitem
    (wpAny_call_entry slot_tuple_getitem hT.typeIs entry_tuple_getitem ?_ (args_tuple_getitem _ _)))
  show wpAny _ _ (Builtin.Tuple.tupleItemsOf (.ref t) >>= _) _ _ s
  refine wpAny_bind (tupleItemsOf_ hT ?_)
  refine wpAny_bind (wpAny_typeOf isS ?_)
  rw [if_pos (by decide)]
  refine wpAny_bind (applied hS ?_)
  have ne : ¬ ((((items.size : Int) - 1) == 0 && (-1 : Int) == 1 && items.size == items.size) = true) := fun q => by
    rw [Bool.and_eq_true, Bool.and_eq_true] at q
    exact absurd q.1.2 (by decide)
  show wpAny _ _ (if (((items.size : Int) - 1) == 0 && (-1 : Int) == 1 && items.size == items.size) = true then _ else _) _ _ s
  rw [if_neg ne, picks]
  first
    | exact wpAny_bind (m := Builtin.Tuple.tupleExact _) (wpAny_newObj_type (wpAny_pure ⟨_, rfl, wpAny_pure hq⟩) fits)
    | exact wpAny_bind (m := Builtin.Tuple.tupleExact _) (wpAny_newObj_type (wpAny_bind (wpAny_pure (wpAny_pure ⟨_, rfl, wpAny_pure hq⟩))) fits)
    | exact wpAny_bind (wpAny_bind (m := Builtin.Tuple.tupleExact _) (wpAny_newObj_type (wpAny_pure (wpAny_pure ⟨_, rfl, wpAny_pure hq⟩)) fits))
    | exact wpAny_bind (wpAny_bind (m := Builtin.Tuple.tupleExact _) (wpAny_newObj_type (wpAny_pure ⟨_, rfl, wpAny_pure hq⟩) fits))
end
end RevT
namespace DV
open PySem L2 PyProof.Rows
section
variable {X : Cx} {K : PySem.W.Frag} {R : Option Addr}
def tRevA (K : PySem.W.Frag) (te : TE) : TE := fun σ H Q => te σ H fun x H1 => ∃ a xs, x = .ref a ∧ ((SqL K H1 a xs ∧ ∀ p, H1 p = none → Q (.ref p) (upd H1 p (.lst xs.reverse))) ∨ (SqT K H1 a xs ∧ ∀ p, H1 p = none → Q (.ref p) (upd H1 p (.tup xs.reverse))))
theorem pe_revA {e : Expr} {te : TE} {k : Nat} {p1 p2 p3 pos : Pos} (he : PE X e te) : PE X (.Subscript e (.Slice none none (some (.UnaryOp .USub (.Constant (.int 1) k p1) p2)) p3) pos) (tRevA X.K te) := by
  refine ⟨fun pins s σ H Q I h => ?_⟩
  refine Subscript_ (thn (he.run pins s σ H _ I h) fun v s1 ⟨x, H1, I1, r1, q1⟩ => ?_)
  obtain ⟨a, xs, ex, hh⟩ := q1
  subst ex
  cases r1
  have third : PO X (some (.UnaryOp .USub (.Constant (.int 1) k p1) p2)) (tPart (tUn (rU fun i => .int (-i)) (tC (.int 1)))) := po_some (pe_un un_neg pe_int)
  refine wpAny_Slice (thn (po_none.run pins s1 σ H1 (fun o G => o = none ∧ G = H1) I1 ⟨rfl, rfl⟩) fun vl s2 ⟨l, H2, I2, pl, el, e2⟩ => ?_)
  subst el e2
  refine thn (po_none.run pins s2 σ H2 (fun o G => o = none ∧ G = H2) I2 ⟨rfl, rfl⟩) fun vu s3 ⟨u, H3, I3, pu, eu, e3⟩ => ?_
  subst eu e3
  refine thn (third.run pins s3 σ H3 (fun o G => o = some (-1) ∧ G = H3) I3 ⟨1, rfl, -1, rfl, rfl, rfl⟩) fun vs s4 ⟨o, H4, I4, ps, eo, e4⟩ => ?_
  subst eo e4
  have J : Inv X pins σ H4 { s4 with heap := s4.heap.push { cls := .type "slice", data := .fields #[vl, vu, vs] } } := I4.kept (t' := s4.toks) fun b ob q => Heap.get?_push_of_some _ q
  show wpAny (model X.prog X.w) X.A (subscriptTail e (.Slice none none (some (.UnaryOp .USub (.Constant (.int 1) k p1) p2)) p3) (.ref a) (.ref s4.heap.objs.size)) (EP X pins σ Q) X.xe { s4 with heap := s4.heap.push { cls := .type "slice", data := .fields #[vl, vu, vs] } }
  rcases hh with ⟨hx, q⟩ | ⟨hx, q⟩
  · obtain ⟨its, r, ht, hz⟩ := J.list hx
    have hlen := r.length
    refine tail_any (ops := [.ref a, .ref s4.heap.objs.size]) ht.isList.typeIs (PySem.slot_list_getitem.lookup) ?_ (by with_unfolding_all rfl)
    refine wpAny_getItem_list_slice ht.isList (Heap.IsSliceOf.new _ vl vu vs) pl pu ps (by decide) ?_ (by rw [List.size_toArray]; omega)
    rw [PySem.W.krv_pick]
    refine ⟨.ref _, _, J.laid (t' := s4.toks) (o := .lst xs.reverse) (fun b ob q => Heap.get?_push_of_some _ q) (Nat.le_refl _) ?_, rfl, q _ (J.hok.fresh (Nat.le_refl _))⟩
    exact ⟨by rw [List.length_reverse]; exact hz, _, 0, r.reverse, Heap.get?_push_size _ rfl⟩
  · obtain ⟨its, r, ht, hz⟩ := J.tuple hx
    have hlen := r.length
    cases pl
    cases pu
    cases ps
    refine tail_any (ops := [.ref a, .ref s4.heap.objs.size]) ht.typeIs (PyProof.Rows.slot_tuple_getitem.lookup) ?_ (by with_unfolding_all rfl)
    refine RevT.turned ht (Heap.IsSliceOf.new _ _ _ _) ?_ (by rw [List.size_toArray]; omega)
    refine ⟨.ref _, _, J.laid (t' := s4.toks) (o := .tup xs.reverse) (fun b ob q => Heap.get?_push_of_some _ q) (Nat.le_refl _) ?_, rfl, q _ (J.hok.fresh (Nat.le_refl _))⟩
    exact ⟨by rw [List.length_reverse]; exact hz, _, r.reverse, IsTup.new _ _⟩
def gRev : RV → Option RV
  | .d (.tuple ds) => some (.d (.tuple ds.reverse))
  | x => (items x).map fun ds => .n ds.reverse
def eRev (f : Env → M RV) : Env → M RV := fun ρ => bnd (f ρ) fun x => lft (gRev x)
theorem de_rev {e : Expr} {te : TE} {f : Env → M RV} {k : Nat} {p1 p2 p3 pos : Pos} (he : DE X R e te f) : DE X R (.Subscript e (.Slice none none (some (.UnaryOp .USub (.Constant (.int 1) k p1) p2)) p3) pos) (tRevA X.K te) (eRev f) := ⟨pe_revA he.pe, fun L E ρ σ F H rs x rs' Q r hf kk => by
  obtain ⟨x1, rs1, e1, hf1⟩ := bnd_some hf
  obtain ⟨e2, q2⟩ := lft_some hf1
  subst q2
  refine he.sem L E ρ σ F H rs x1 _ _ r e1 fun v F1 H1 s1 h1 => ?_
  have rf := (r.step s1).refl
  have mkL : ∀ ds : List D, (∀ es, x1 ≠ .d (.tuple es)) → items x1 = some ds → x = .n ds.reverse → ∃ a xs, v = V.ref a ∧ ((SqL X.K H1 a xs ∧ ∀ p, H1 p = none → Q (.ref p) (upd H1 p (.lst xs.reverse))) ∨ (SqT X.K H1 a xs ∧ ∀ p, H1 p = none → Q (.ref p) (upd H1 p (.tup xs.reverse)))) := fun ds hne hi ex => by
    obtain ⟨a, ws, rfl, g1, g2⟩ := VR.isL rf h1 hi hne
    refine ⟨a, ws, rfl, .inl ⟨g1, fun p hp => ?_⟩⟩
    obtain ⟨s4, hF, hR⟩ := Step.new_lst (vs := ws.reverse) rf hp
    subst ex
    exact kk _ F1 _ (s1.trans r.row s4) ⟨p, _, rfl, upd_same, s1.back r.row hp, hF, hR, DpAll.rev g2⟩
  cases x1 with
  | d y =>
    cases y with
    | tuple ds =>
      cases e2
      obtain ⟨a, ws, rfl, g1, g2⟩ := VR.isTup rf h1
      refine ⟨a, ws, rfl, .inr ⟨g1, fun p hp => ?_⟩⟩
      have s4 := Step.new_tup (vs := ws.reverse) rf hp
      exact kk _ _ _ (s1.trans r.row s4) (.tup (.inl (.inl upd_same)) (Dp.monoA s4.sub _ _ (DpAll.rev g2)))
    | list ds => exact mkL ds (fun es q => nomatch q) rfl (Option.some.inj e2).symm
    | none => cases e2
    | bool _ => cases e2
    | int _ => cases e2
    | str _ => cases e2
    | dict _ => cases e2
  | b ds => exact mkL ds (fun es q => nomatch q) rfl (Option.some.inj e2).symm
  | n ds => exact mkL ds (fun es q => nomatch q) rfl (Option.some.inj e2).symm
  | gb _ => cases e2
  | gn _ => cases e2
  | row => cases e2⟩
end
end DV

/-! DV: (.., *reversed(xs)) -/
namespace DV
open PySem L2 PyProof.Rows
def tStarRev (K : PySem.W.Frag) (te : TE) (t : TA) : TA := fun σ H Q => te σ H fun x H1 => ∃ a xs, x = V.ref a ∧ SqL K H1 a xs ∧ t σ H1 fun ys H2 => Q (xs.reverse ++ ys) H2
section
variable {X : Cx} {K : PySem.W.Frag} {R : Option Addr} {e : Expr} {es : List Expr} {te : TE} {t : TA} {p p2 pos2 : Pos}
theorem pa_starRev (hc : X.calm = true) (hg : Gl X "reversed") (hm : X.mg "reversed" = none) (he : PE X e te) (hr : PA X es t)
    (h1 : starEach [e] X.env = (false, eval e X.env) :: starEach [] X.env := by rfl)
    (h2 : starEach (.Starred (.Call (.Name "reversed" p2) [e] [] pos2) p :: es) X.env = (true, eval (.Call (.Name "reversed" p2) [e] [] pos2) X.env) :: starEach es X.env := by rfl) :
    PA X (.Starred (.Call (.Name "reversed" p2) [e] [] pos2) p :: es) (tStarRev X.K te t) := by
  refine ⟨fun pos pins s σ H Q I h => ?_⟩
  refine PySem.W.items_star ?_ h2
  refine Call_ (ld_blt I hg hm PyProof.Rows.boot_reversed (PyProof.Rows.callWith_type1 (args_cons (thn (he.run pins s σ H _ I h) fun u s1 ⟨v, H1, I1, r1, q1⟩ => args_nil ?_) h1) h1 rfl))
  obtain ⟨a, xs, ev, hq, q⟩ := q1
  subst ev
  obtain rfl : u = Value.ref a := r1
  obtain ⟨its, rv, p', hz⟩ := I1.list hq
  refine call_reversed_list p'.isList ?_
  have k0 : ∀ b o, s1.heap.get? b = some o → (s1.heap.push (revObj a ((its.toArray.size : Int) - 1))).get? b = some o := fun b o e => Heap.get?_push_of_some _ e
  obtain ⟨s2, hs2⟩ : ∃ s2 : Shared, s2 = { s1 with heap := s1.heap.push (revObj a ((its.toArray.size : Int) - 1)) } := ⟨_, rfl⟩
  have I2 : Inv X pins σ H1 s2 := by
    rw [hs2]
    exact I1.kept (t' := s1.toks) k0
  have f := I1.fpOk (H' := H1) (b := s1.heap.objs.size) (Nat.le_refl _) (I1.hok.fresh (Nat.le_refl _))
  obtain ⟨ol, hol, _⟩ := id p'.isList
  have hne : a ≠ s1.heap.objs.size := Nat.ne_of_lt (Heap.lt_size hol)
  have hn : its.toArray.size ≤ sizeLine := by rw [List.size_toArray, ← rv.length]; exact hz
  have hit : s2.heap.IsRevIter s1.heap.objs.size a ((its.toArray.size : Int) - 1) := by
    rw [hs2]
    exact ⟨_, Heap.get?_push_size _ rfl, rfl, rfl⟩
  have hl2 : s2.heap.IsList a its.toArray := by
    rw [hs2]
    exact p'.isList.push _
  have hT : s2.TypeIs (.ref s1.heap.objs.size) "list_reverseiterator" := hit.typeIs
  show PySem.W.StarOf _ _ _ _ _ _
  rw [← hs2]
  unfold PySem.W.StarOf notIterableAtAll
  refine wpAny_bind (wpAny_specialOf hT PySem.F.slot_lri_iter.lookup (wpAny_pure ⟨rfl, ?_⟩))
  refine RT.collect_rev (I1.ok.hd hc) hit hl2 hne hn fun h' tk acc hk hi => ?_
  have I3 : Inv X pins σ H1 { s2 with heap := h', toks := tk } := I2.turned (t' := tk) (fun b o hb e => hk b o hb e) f.1 f.2.1 f.2.2.2.1 f.2.2.2.2.1 f.2.2.2.2.2
  exact thn (hr.run pos pins _ σ H1 _ I3 q) fun ws s3 ⟨vs, H3, I4, r3, q3⟩ => ⟨xs.reverse ++ vs, H3, I4, (RT.vals_rev rv hi).append r3, q3⟩
def aStarRev (f : Env → M RV) (fa : Env → M (List RV)) : Env → M (List RV) := fun ρ => bnd (f ρ) fun x => bnd (lft (asLst x)) fun ds => bnd (fa ρ) fun xs => ret (ds.reverse.map RV.d ++ xs)
theorem da_starRev {f : Env → M RV} {fa : Env → M (List RV)} (hc : X.calm = true) (hg : Gl X "reversed") (hm : X.mg "reversed" = none) (ha : DE X R e te f) (hr : DA X R es t fa)
    (h1 : starEach [e] X.env = (false, eval e X.env) :: starEach [] X.env := by rfl)
    (h2 : starEach (.Starred (.Call (.Name "reversed" p2) [e] [] pos2) p :: es) X.env = (true, eval (.Call (.Name "reversed" p2) [e] [] pos2) X.env) :: starEach es X.env := by rfl) :
    DA X R (.Starred (.Call (.Name "reversed" p2) [e] [] pos2) p :: es) (tStarRev X.K te t) (aStarRev f fa) := ⟨pa_starRev hc hg hm ha.pe hr.pa h1 h2, fun L E ρ σ F H rs x rs' Q r hf k => by
  obtain ⟨x1, rs1, e1, hf1⟩ := bnd_some hf
  obtain ⟨ds, rs2, e2, hf2⟩ := bnd_some hf1
  obtain ⟨e3, q3⟩ := lft_some e2
  subst q3
  obtain ⟨xs, rs4, e4, hf3⟩ := bnd_some hf2
  obtain ⟨e5, q5⟩ := ret_some hf3
  subst e5 q5
  refine ha.sem L E ρ σ F H rs x1 _ _ r e1 fun v1 F1 H1 s1 h1 => ?_
  obtain ⟨a, vs, rfl, hq, hd⟩ := h1.lst (asLst_some e3)
  refine ⟨a, vs, rfl, .inl (.inl hq), ?_⟩
  refine hr.sem L E ρ σ F1 H1 _ xs _ _ (r.step s1) e4 fun ws F2 H2 s2 h2 => ?_
  exact k _ F2 H2 (s1.trans r.row s2) ((VRs.ofData (DpAll.rev (Dp.monoA s2.sub _ _ hd))).append (h2.older fun a q => s1.back r.row q))⟩
end
end DV

/-! DV: max, min by a lambda's keys over a list: the loop of the built-in -/
namespace DV
open PySem L2 LamX PyProof.Rows PySem.Spec PySem.W
/-- the best item so far, with its key; C: what stands at each turn -/
def kBest (K : PySem.W.Frag) (C : Hp → Prop) (bt : D → D → Bool) (tb : TE) (σ : L2.St) (ip : Nat) : List V → V → V → D → Hp → VK → Prop
  | [], b, _, _, H, Q => C H ∧ Q b H
  | v :: vs, b, kb, db, H, Q => C H ∧ tb (σ.set ip (some v)) H fun kv H1 => ∃ d, Dp K H1 kv d ∧ Dp K H1 kb db ∧ cmpOk d db = true ∧
      (if bt d db = true then kBest K C bt tb σ ip vs v kv d H1 Q else kBest K C bt tb σ ip vs b kb db H1 Q)
def kBest0 (K : PySem.W.Frag) (C : Hp → Prop) (bt : D → D → Bool) (tb : TE) (σ : L2.St) (ip : Nat) : List V → Hp → VK → Prop
  | [], _, _ => False
  | v :: vs, H, Q => C H ∧ tb (σ.set ip (some v)) H fun kv H1 => ∃ d, Dp K H1 kv d ∧ kBest K C bt tb σ ip vs v kv d H1 Q
abbrev gtB : D → D → Bool := fun d e => dataLt e d
abbrev ltB : D → D → Bool := fun d e => dataLt d e
theorem bst_upd {h : Heap} {T : Addr} {xs ys : Array Value} {e : Nat} (p : h.get? T = some (seqObj "list" xs e)) : ∃ e', (h.update T (Obj.mapSeq fun _ => ys)).get? T = some (seqObj "list" ys e') := ⟨_, get?_update_seq p fun _ => ys⟩
section
variable {X : Cx} {pins : List (Addr × Obj)} {σ : L2.St} {s0 : Shared} {H0 : Hp}
/-- the scratch list at T, the iterator at J, the lambda at f -/
def bPins (X : Cx) (T J f c' : Addr) (row : Array Value) (c : Nat) (oJ : Obj) (params : Arguments) (body : Expr) (scope : Scope) (pm ctv : Value) (pins : List (Addr × Obj)) : List (Addr × Obj) :=
  [(T, lstO row c), (J, oJ), (f, lmObj (X.env.qual ++ "<lambda>") params body scope (cloFrom X.env.cells scope.names []) pm c' ctv)] ++ pins
structure BAt (X : Cx) (s0 : Shared) (T J f l c' : Addr) (params : Arguments) (body : Expr) (scope : Scope) (pm ctv : Value) : Prop where
  hT : s0.heap.objs.size ≤ T
  hJ : s0.heap.objs.size ≤ J
  tj : T ≠ J
  fT : f ≠ T
  fJ : f ≠ J
  lT : l ≠ T
  lJ : l ≠ J
  lm : Aside X f (lmObj (X.env.qual ++ "<lambda>") params body scope (cloFrom X.env.cells scope.names []) pm c' ctv)
variable {T J f l c' : Addr} {params : Arguments} {body : Expr} {scope : Scope} {pm ctv : Value}
theorem bMem1 {row : Array Value} {c : Nat} {oJ : Obj} : (T, lstO row c) ∈ X.pn ++ bPins X T J f c' row c oJ params body scope pm ctv pins := List.mem_append_right _ (List.mem_append_left _ List.mem_cons_self)
theorem bMem2 {row : Array Value} {c : Nat} {oJ : Obj} : (J, oJ) ∈ X.pn ++ bPins X T J f c' row c oJ params body scope pm ctv pins := List.mem_append_right _ (List.mem_append_left _ (List.mem_cons_of_mem _ List.mem_cons_self))
theorem bMem3 {row : Array Value} {c : Nat} {oJ : Obj} : (f, lmObj (X.env.qual ++ "<lambda>") params body scope (cloFrom X.env.cells scope.names []) pm c' ctv) ∈ X.pn ++ bPins X T J f c' row c oJ params body scope pm ctv pins := List.mem_append_right _ (List.mem_append_left _ (List.mem_cons_of_mem _ (List.mem_cons_of_mem _ List.mem_cons_self)))
/-- the scratch list, the iterator may change -/
theorem bMove {row row2 : Array Value} {c c2 : Nat} {oJ oJ2 : Obj} {H : Hp} {s : Shared} {h' : Heap} {tk : Nat} (B : BAt X s0 T J f l c' params body scope pm ctv) (I0 : Inv X pins σ H0 s0) (nJ : ∀ v, oJ2.data ≠ .cell v)
    (I : Inv X (bPins X T J f c' row c oJ params body scope pm ctv pins) σ H s) (kp : ∀ b o, b ≠ T → b ≠ J → s.heap.get? b = some o → h'.get? b = some o) (eT : h'.get? T = some (lstO row2 c2)) (eJ : h'.get? J = some oJ2) :
    Inv X (bPins X T J f c' row2 c2 oJ2 params body scope pm ctv pins) σ H { s with heap := h', toks := tk } := by
  have pT := I.pin _ bMem1
  have pJ := I.pin _ bMem2
  have pF := I.pin _ bMem3
  have I1 : Inv X pins σ H s := I.pins_of fun p hp => I.pin p (List.mem_append_right _ (List.mem_append_right _ hp))
  have I2 : Inv X pins σ H { s with heap := h', toks := tk } := I1.turnedL (ch := [T, J]) (fun b o hb q => kp b o (fun z => hb (by simp [z])) (fun z => hb (by simp [z])) q) fun b hb => by
    simp only [List.mem_cons, List.not_mem_nil, or_false] at hb
    rcases hb with rfl | rfl
    · exact I0.fpOk B.hT pT.2.1
    · exact I0.fpOk B.hJ pJ.2.1
  refine I2.pins_of fun p hp => ?_
  rcases List.mem_append.mp hp with z | z
  · simp only [List.mem_cons, List.not_mem_nil, or_false] at z
    rcases z with rfl | rfl | rfl
    · exact ⟨eT, pT.2.1, pT.2.2.1, pT.2.2.2.1, lst_nc⟩
    · exact ⟨eJ, pJ.2.1, pJ.2.2.1, pJ.2.2.2.1, nJ⟩
    · exact ⟨kp f _ B.fT B.fJ pF.1, pF.2⟩
  · exact I2.pin p (List.mem_append_right _ z)
theorem bOut {row : Array Value} {c : Nat} {oJ : Obj} {H : Hp} {s : Shared} {h' : Heap} {tk : Nat} (B : BAt X s0 T J f l c' params body scope pm ctv) (I0 : Inv X pins σ H0 s0)
    (I : Inv X (bPins X T J f c' row c oJ params body scope pm ctv pins) σ H s) (kp : ∀ b o, b ≠ T → b ≠ J → s.heap.get? b = some o → h'.get? b = some o) : Inv X pins σ H { s with heap := h', toks := tk } := by
  have pT := I.pin _ bMem1
  have pJ := I.pin _ bMem2
  have I1 : Inv X pins σ H s := I.pins_of fun p hp => I.pin p (List.mem_append_right _ (List.mem_append_right _ hp))
  exact I1.turnedL (ch := [T, J]) (fun b o hb q => kp b o (fun z => hb (by simp [z])) (fun z => hb (by simp [z])) q) fun b hb => by
    simp only [List.mem_cons, List.not_mem_nil, or_false] at hb
    rcases hb with rfl | rfl
    · exact I0.fpOk B.hT pT.2.1
    · exact I0.fpOk B.hJ pJ.2.1

/-! ### max -/
theorem max_loop {k : Nat} {x : Str} {ip : Nat} {tb : TE} {all : List V} {Q : VK} {Rz : Result → Shared → Prop} (B : BAt X s0 T J f l c' params body scope pm ctv) (I0 : Inv X pins σ H0 s0) (hr : Room (k + 1) X.A.in1) (L : LamP X.env.scope scope x) (nd : X.N.Nodup) (hip : X.N[ip]? = some x)
    (hbind : ∀ u : Value, bindArgs (PySem.W.kla_fn "<lambda>" (X.env.qual ++ "<lambda>") params body scope (cloFrom X.env.cells scope.names []) pm (.ref c') ctv) ⟨[u], []⟩ = pure [(x, u)])
    (hbody : ∀ (s : Shared) (H : Hp), Room k (lamC X X.A.in1 s H scope f c').A → PE (lamC X X.A.in1 s H scope f c') body tb)
    (hR : ∀ w s', EP X pins σ Q w s' → Rz (.ok (.ret w)) s') :
    ∀ (vs : List V) (j : Nat) (s : Shared) (H : Hp) (b kb : V) (db : D) (ub uk : Value) (c : Nat) (oJ : Obj), all.drop (j + 1) = vs → j + 1 ≤ all.length → Inv X (bPins X T J f c' #[ub, uk] c oJ params body scope pm ctv pins) σ H s → s.heap.IsListIter J l (j + 1) → L2.RelV b ub → L2.RelV kb uk →
      kBest X.K (fun H => H c' = some (CodeO c' (X.env.qual ++ "<lambda>")) ∧ H l = some (.lst all)) gtB tb σ ip vs b kb db H Q → codeAny (model X.prog X.w) X.A (.builtin "max.loop" ⟨[.ref J, .ref f, .ref T], []⟩) Rz s := by
  have hname : (toString "max" ++ toString ".loop" : String) = "max.loop" := by decide
  intro vs
  induction vs with
  | nil =>
    intro j s H b kb db ub uk c oJ hdr hle I hit rb rk run
    obtain ⟨⟨_, hC2⟩, q⟩ := run
    have pT := I.pin _ bMem1
    obtain ⟨its, rv, hl, hz⟩ := I.list (.inl (.inl hC2))
    have hlen := rv.length
    have hend : its.toArray.size = j + 1 := by
      have := congrArg List.length hdr
      rw [List.length_drop] at this
      have h0 : ([] : List V).length = 0 := rfl
      rw [List.size_toArray]
      omega
    have W := Walks.list (prog := X.prog) (w := X.w) (A := X.A.in1) hr.hd J l B.lJ its.toArray
    refine codeAny_builtin PySem.F.entry_max_loop ?_
    rw [Around.under_plainId PySem.F.plain_max_loop _]
    show wpAny _ X.A.in1 (seqItems? (.ref T) >>= _) _ _ s
    refine wpAny_bind (wpAny_seqItems pT.1 rfl ?_)
    show wpAny _ X.A.in1 (tryCatch (pyNext (.ref J)) _ >>= _) _ _ s
    refine wpAny_bind (wpAny_tryCatch (W.done s _ _ ⟨by rw [hend]; exact hit, hl.isList⟩ fun h' tk' kp => ?_))
    have eT := kp T _ (by simpa using B.tj) pT.1
    show wpAny _ X.A.in1 (updateSeq T (fun _ => #[]) >>= _) _ _ _
    refine wpAny_bind ?_
    refine wpAny_updateSeq eT rfl (wpAny_bind (wpAny_letGo (wpAny_pure ?_)))
    have sb := Heap.SameBut.update h' T (Obj.mapSeq fun _ => (#[] : Array Value))
    exact hR ub _ ⟨b, H, bOut (s := s) (tk := tk') B I0 I fun a o n1 n2 q => (sb.2 a n1).trans (kp a o (by simpa using n2) q), rb, q⟩
  | cons v vs ih =>
    intro j s H b kb db ub uk c oJ hdr hle I hit rb rk run
    obtain ⟨⟨hC1, hC2⟩, ht⟩ := run
    have pT := I.pin _ bMem1
    have pF := I.pin _ bMem3
    obtain ⟨its, rv, hl, hz⟩ := I.list (.inl (.inl hC2))
    have hlen := rv.length
    have hlt : j + 1 < all.length := by
      have := congrArg List.length hdr
      rw [List.length_drop, List.length_cons] at this
      omega
    have W := Walks.list (prog := X.prog) (w := X.w) (A := X.A.in1) hr.hd J l B.lJ its.toArray
    refine codeAny_builtin PySem.F.entry_max_loop ?_
    rw [Around.under_plainId PySem.F.plain_max_loop _]
    show wpAny _ X.A.in1 (seqItems? (.ref T) >>= _) _ _ s
    refine wpAny_bind (wpAny_seqItems pT.1 rfl ?_)
    show wpAny _ X.A.in1 (tryCatch (pyNext (.ref J)) _ >>= _) _ _ s
    refine wpAny_bind (wpAny_tryCatch (W.item (j + 1) s _ _ (by rw [List.size_toArray]; omega) ⟨hit, hl.isList⟩ fun u h' tk' hP hst kp => ?_))
    obtain ⟨v2, e2, ru⟩ := Vals_get rv (j + 1) u (by simpa using hP)
    have ev : v2 = v := by
      have h1 : all[j + 1]? = some v := by
        have := congrArg (fun z : List V => z[0]?) hdr
        simpa using this
      rw [h1] at e2
      exact (Option.some.inj e2).symm
    subst ev
    obtain ⟨oJ2, eJ2, cJ, dJ⟩ := id hst.1
    have eT := kp T _ (by simpa using B.tj) pT.1
    have nJ : ∀ z, oJ2.data ≠ .cell z := fun z q => by rw [dJ] at q; cases q
    have I2 := bMove (tk := tk') (row2 := #[ub, uk]) (c2 := c) B I0 nJ I (fun a o _ n2 q => kp a o (by simpa using n2) q) eT eJ2
    have pF2 := I2.pin _ bMem3
    have cc := lam_call (A := X.A.in1) (tb := tb) I2 L I2.env0.in1 hr nd hip ru pF2.1 hC1 hbind (hbody _ H) ht
    show wpAny _ X.A.in1 (tryCatch (holding [u] (call (.ref f) [u])) _ >>= _) _ _ _
    refine wpAny_bind (wpAny_tryCatch (wpAny_holding (wpAny_call (codeAny_mono cc fun r s2 hq => ?_))))
    obtain ⟨w, rfl, hq⟩ := hq
    obtain ⟨kv, H2, I3, rw2, d, hd, hdb, hcm, run2⟩ := I2.after hq
    obtain ⟨hc1, hc2, hc3⟩ := cmpOk_of hcm
    obtain ⟨as, r1⟩ := Dp.reads I3 d kv w hd rw2
    obtain ⟨bs, r2⟩ := Dp.reads I3 db kb uk hdb rk
    have pT3 := I3.pin _ bMem1
    have pJ3 := I3.pin _ bMem2
    show wpAny _ X.A.in1 (tryCatch (holding [u, w] (richCompare .Gt w uk >>= _)) _ >>= _) _ _ _
    refine wpAny_bind (wpAny_tryCatch (wpAny_holding (wpAny_bind (gt_data r1 r2 hc1 hc2 (by have := hr.un; have := Nat.min_le_left d.depth db.depth; omega) ?_))))
    refine wpAny_bind (wpAny_holding (wpAny_truthy_bool ?_))
    refine wpAny_bind (wpAny_letGo (wpAny_pure ?_))
    have hdr2 : all.drop (j + 1 + 1) = vs := by
      rw [← List.drop_drop, hdr]
      rfl
    by_cases hb : gtB d db = true
    · rw [if_pos hb] at run2
      have hb2 : dataLt db d = true := hb
      simp only [hb2, if_true]
      obtain ⟨c2, ec2⟩ := bst_upd (ys := #[u, w]) pT3.1
      have sb := Heap.SameBut.update s2.heap T (Obj.mapSeq fun _ => #[u, w])
      refine wpAny_bind ?_
      refine wpAny_updateSeq pT3.1 rfl (wpAny_bind (wpAny_letGo ?_))
      rw [hname]
      exact wpAny_pure ⟨plainId_quiet PySem.F.plain_max_loop _, ih (j + 1) _ H2 v2 kv d u w c2 oJ2 hdr2 hlt (bMove (tk := s2.toks) B I0 nJ I3 (fun a o n1 _ q => (sb.2 a n1).trans q) ec2 ((sb.2 J (Ne.symm B.tj)).trans pJ3.1)) ⟨oJ2, (sb.2 J (Ne.symm B.tj)).trans pJ3.1, cJ, dJ⟩ ru rw2 run2⟩
    · rw [if_neg hb] at run2
      have hb2 : dataLt db d = false := by
        have : gtB d db = false := by simpa using hb
        exact this
      simp only [hb2, Bool.false_eq_true, if_false]
      refine wpAny_bind (wpAny_letGo ?_)
      rw [hname]
      exact wpAny_pure ⟨plainId_quiet PySem.F.plain_max_loop _, ih (j + 1) _ H2 b kb db ub uk c oJ2 hdr2 hlt I3 ⟨oJ2, pJ3.1, cJ, dJ⟩ rb rk run2⟩
theorem max_call {k : Nat} {x : Str} {ip : Nat} {tb : TE} {all : List V} {Q : VK} {Er : Value → Shared → Prop} {H : Hp} {s : Shared} (I : Inv X pins σ H s) (hr : Room (k + 2) X.A) (L : LamP X.env.scope scope x) (nd : X.N.Nodup) (hip : X.N[ip]? = some x)
    (of : s.heap.get? f = some (lmObj (X.env.qual ++ "<lambda>") params body scope (cloFrom X.env.cells scope.names []) pm c' ctv)) (hf : H f = none) (asf : Aside X f (lmObj (X.env.qual ++ "<lambda>") params body scope (cloFrom X.env.cells scope.names []) pm c' ctv))
    (hbind : ∀ u : Value, bindArgs (PySem.W.kla_fn "<lambda>" (X.env.qual ++ "<lambda>") params body scope (cloFrom X.env.cells scope.names []) pm (.ref c') ctv) ⟨[u], []⟩ = pure [(x, u)])
    (hbody : ∀ (s : Shared) (H : Hp), Room k (lamC X X.A.in1 s H scope f c').A → PE (lamC X X.A.in1 s H scope f c') body tb)
    (run : kBest0 X.K (fun H => H c' = some (CodeO c' (X.env.qual ++ "<lambda>")) ∧ H l = some (.lst all)) gtB tb σ ip all H Q) :
    wpAny (model X.prog X.w) X.A (call (.builtin "max") [.ref l] [(Str.ofString "key", .ref f)]) (EP X pins σ Q) Er s := by
  have hname : (toString "max" ++ toString ".loop" : String) = "max.loop" := by decide
  have hr1 : Room (k + 1) X.A.in1 := hr.in1
  cases all with
  | nil => exact run.elim
  | cons v vs =>
    obtain ⟨⟨hC1, hC2⟩, ht⟩ := run
    obtain ⟨its, rv, hl, hz⟩ := I.list (.inl (.inl hC2))
    have hlen := rv.length
    obtain ⟨ol, eol, _⟩ := id hl.isList
    have ll : l < s.heap.objs.size := Heap.lt_size eol
    have lf : f < s.heap.objs.size := Heap.lt_size of
    refine kmk_tree PySem.F.kind_max PySem.F.plain_max PySem.F.entry_max (kmk_max_key _ _) ?_
    show wpAny _ X.A.in1 (Builtin.Builtins.bindParams "max" ["key", "default"] 0 ⟨[], [(Str.ofString "key", .ref f)]⟩ >>= _) _ _ s
    refine wpAny_bind (wpAny_of_eq (show Builtin.Builtins.bindParams "max" ["key", "default"] 0 ⟨[], [(Str.ofString "key", .ref f)]⟩ = pure [some (.ref f), none] from rfl) ?_)
    refine wpAny_bind (wpAny_pure ?_)
    refine wpAny_bind (wpAny_pyIter_list hl.isList ?_)
    refine wpAny_bind (wpAny_newList ?_ (Nat.zero_le _))
    rw [hname]
    obtain ⟨g1, hg1⟩ : ∃ g1 : Heap, g1 = s.heap.push { cls := .type "list_iterator", data := .fields #[.ref l, .int 0 0] } := ⟨_, rfl⟩
    have sz1 : g1.objs.size = s.heap.objs.size + 1 := by rw [hg1]; exact size_push' ..
    rw [← hg1]
    have eJ1 : g1.get? s.heap.objs.size = some { cls := .type "list_iterator", data := .fields #[.ref l, .int 0 0] } := by
      rw [hg1]
      exact Heap.get?_push_size _ rfl
    have kp1 : ∀ a o, s.heap.get? a = some o → g1.get? a = some o := fun a o q => by
      rw [hg1]
      exact Heap.get?_push_of_some _ q
    obtain ⟨g2, hg2⟩ : ∃ g2 : Heap, g2 = g1.push (seqObj "list" #[] 0) := ⟨_, rfl⟩
    have eT2 : g2.get? g1.objs.size = some (lstO #[] 0) := by
      rw [hg2]
      exact Heap.get?_push_size _ rfl
    have kp2 : ∀ a o, s.heap.get? a = some o → g2.get? a = some o := fun a o q => by
      rw [hg2]
      exact Heap.get?_push_of_some _ (kp1 a o q)
    have eJ2 : g2.get? s.heap.objs.size = some { cls := .type "list_iterator", data := .fields #[.ref l, .int 0 0] } := by
      rw [hg2]
      exact Heap.get?_push_of_some _ eJ1
    rw [show g1.push (seqObj "list" ([] : List Value).toArray 0) = g2 from hg2.symm]
    have B : BAt X s g1.objs.size s.heap.objs.size f l c' params body scope pm ctv := ⟨by omega, Nat.le_refl _, Nat.ne_of_gt (by omega), Nat.ne_of_lt (Nat.lt_of_lt_of_le lf (by omega)), Nat.ne_of_lt lf, Nat.ne_of_lt (Nat.lt_of_lt_of_le ll (by omega)), Nat.ne_of_lt ll, asf⟩
    have nJ0 : ∀ z, ({ cls := .type "list_iterator", data := .fields #[.ref l, .int 0 0] } : Obj).data ≠ .cell z := fun z q => by cases q
    have fT := I.hok.fresh (a := g1.objs.size) (by omega)
    have fJ := I.hok.fresh (a := s.heap.objs.size) (Nat.le_refl _)
    have aT : Aside X g1.objs.size (lstO #[] 0) := aside_new I (by omega) lst_nc
    have aJ : Aside X s.heap.objs.size ({ cls := .type "list_iterator", data := .fields #[.ref l, .int 0 0] } : Obj) := aside_new I (Nat.le_refl _) nJ0
    have I1 : Inv X pins σ H { s with heap := g2, toks := s.toks } := I.kept kp2
    have I2 : Inv X (bPins X g1.objs.size s.heap.objs.size f c' #[] 0 { cls := .type "list_iterator", data := .fields #[.ref l, .int 0 0] } params body scope pm ctv pins) σ H { s with heap := g2, toks := s.toks } := I1.pins_of fun p hp => by
      rcases List.mem_append.mp hp with z | z
      · simp only [List.mem_cons, List.not_mem_nil, or_false] at z
        rcases z with rfl | rfl | rfl
        · exact aT.pin eT2 fT
        · exact aJ.pin eJ2 fJ
        · exact asf.pin (kp2 _ _ of) hf
      · exact I1.pin p (List.mem_append_right _ z)
    obtain ⟨its2, rv2, hl2, hz2⟩ := I2.list (.inl (.inl hC2))
    have hlen2 := rv2.length
    have W := Walks.list (prog := X.prog) (w := X.w) (A := X.A.in1) hr1.hd s.heap.objs.size l B.lJ its2.toArray
    refine wpAny_pure ⟨plainId_quiet PySem.F.plain_max_loop _, ?_⟩
    refine codeAny_builtin PySem.F.entry_max_loop ?_
    rw [Around.under_plainId PySem.F.plain_max_loop _]
    show wpAny _ X.A.in1 (seqItems? (.ref g1.objs.size) >>= _) _ _ _
    refine wpAny_bind (wpAny_seqItems eT2 rfl ?_)
    show wpAny _ X.A.in1 (tryCatch (pyNext (.ref s.heap.objs.size)) _ >>= _) _ _ _
    refine wpAny_bind (wpAny_tryCatch (W.item 0 _ _ _ (by rw [List.size_toArray, ← hlen2]; exact Nat.succ_pos _) ⟨⟨_, eJ2, rfl, rfl⟩, hl2.isList⟩ fun u h' tk' hP hst kp => ?_))
    obtain ⟨v2, e2, ru⟩ := Vals_get rv2 0 u (by simpa using hP)
    have ev : v2 = v := (Option.some.inj e2).symm
    subst ev
    obtain ⟨oJ2, eJ3, cJ, dJ⟩ := id hst.1
    have eT := kp g1.objs.size _ (by simpa using B.tj) eT2
    have nJ : ∀ z, oJ2.data ≠ .cell z := fun z q => by rw [dJ] at q; cases q
    have I3 := bMove (tk := tk') (row2 := #[]) (c2 := 0) B I nJ I2 (fun a o _ n2 q => kp a o (by simpa using n2) q) eT eJ3
    have pF3 := I3.pin _ bMem3
    have cc := lam_call (A := X.A.in1) (tb := tb) I3 L I3.env0.in1 hr1 nd hip ru pF3.1 hC1 hbind (hbody _ H) ht
    show wpAny _ X.A.in1 (tryCatch (holding [u] (call (.ref f) [u])) _ >>= _) _ _ _
    refine wpAny_bind (wpAny_tryCatch (wpAny_holding (wpAny_call (codeAny_mono cc fun r s2 hq => ?_))))
    obtain ⟨w, rfl, hq⟩ := hq
    obtain ⟨kv, H2, I4, rw2, d, hd, run2⟩ := I3.after hq
    have pT4 := I4.pin _ bMem1
    have pJ4 := I4.pin _ bMem2
    obtain ⟨c2, ec2⟩ := bst_upd (ys := #[u, w]) pT4.1
    have sb := Heap.SameBut.update s2.heap g1.objs.size (Obj.mapSeq fun _ => #[u, w])
    show wpAny _ X.A.in1 (updateSeq g1.objs.size (fun _ => #[u, w]) >>= _) _ _ _
    refine wpAny_bind ?_
    refine wpAny_updateSeq pT4.1 rfl ?_
    rw [hname]
    exact wpAny_pure ⟨plainId_quiet PySem.F.plain_max_loop _, max_loop (all := v2 :: vs) B I hr1 L nd hip hbind hbody (fun w s' q => q) vs 0 _ H2 v2 kv d u w c2 oJ2 rfl (Nat.succ_le_succ (Nat.zero_le _)) (bMove (tk := s2.toks) B I nJ I4 (fun a o n1 _ q => (sb.2 a n1).trans q) ec2 ((sb.2 _ (Ne.symm B.tj)).trans pJ4.1)) ⟨oJ2, (sb.2 _ (Ne.symm B.tj)).trans pJ4.1, cJ, dJ⟩ ru rw2 run2⟩

/-! ### min -/
theorem min_loop {k : Nat} {x : Str} {ip : Nat} {tb : TE} {all : List V} {Q : VK} {Rz : Result → Shared → Prop} (B : BAt X s0 T J f l c' params body scope pm ctv) (I0 : Inv X pins σ H0 s0) (hr : Room (k + 1) X.A.in1) (L : LamP X.env.scope scope x) (nd : X.N.Nodup) (hip : X.N[ip]? = some x)
    (hbind : ∀ u : Value, bindArgs (PySem.W.kla_fn "<lambda>" (X.env.qual ++ "<lambda>") params body scope (cloFrom X.env.cells scope.names []) pm (.ref c') ctv) ⟨[u], []⟩ = pure [(x, u)])
    (hbody : ∀ (s : Shared) (H : Hp), Room k (lamC X X.A.in1 s H scope f c').A → PE (lamC X X.A.in1 s H scope f c') body tb)
    (hR : ∀ w s', EP X pins σ Q w s' → Rz (.ok (.ret w)) s') :
    ∀ (vs : List V) (j : Nat) (s : Shared) (H : Hp) (b kb : V) (db : D) (ub uk : Value) (c : Nat) (oJ : Obj), all.drop (j + 1) = vs → j + 1 ≤ all.length → Inv X (bPins X T J f c' #[ub, uk] c oJ params body scope pm ctv pins) σ H s → s.heap.IsListIter J l (j + 1) → L2.RelV b ub → L2.RelV kb uk →
      kBest X.K (fun H => H c' = some (CodeO c' (X.env.qual ++ "<lambda>")) ∧ H l = some (.lst all)) ltB tb σ ip vs b kb db H Q → codeAny (model X.prog X.w) X.A (.builtin "min.loop" ⟨[.ref J, .ref f, .ref T], []⟩) Rz s := by
  have hname : (toString "min" ++ toString ".loop" : String) = "min.loop" := by decide
  intro vs
  induction vs with
  | nil =>
    intro j s H b kb db ub uk c oJ hdr hle I hit rb rk run
    obtain ⟨⟨_, hC2⟩, q⟩ := run
    have pT := I.pin _ bMem1
    obtain ⟨its, rv, hl, hz⟩ := I.list (.inl (.inl hC2))
    have hlen := rv.length
    have hend : its.toArray.size = j + 1 := by
      have := congrArg List.length hdr
      rw [List.length_drop] at this
      have h0 : ([] : List V).length = 0 := rfl
      rw [List.size_toArray]
      omega
    have W := Walks.list (prog := X.prog) (w := X.w) (A := X.A.in1) hr.hd J l B.lJ its.toArray
    refine codeAny_builtin PySem.F.entry_min_loop ?_
    rw [Around.under_plainId PySem.F.plain_min_loop _]
    show wpAny _ X.A.in1 (seqItems? (.ref T) >>= _) _ _ s
    refine wpAny_bind (wpAny_seqItems pT.1 rfl ?_)
    show wpAny _ X.A.in1 (tryCatch (pyNext (.ref J)) _ >>= _) _ _ s
    refine wpAny_bind (wpAny_tryCatch (W.done s _ _ ⟨by rw [hend]; exact hit, hl.isList⟩ fun h' tk' kp => ?_))
    have eT := kp T _ (by simpa using B.tj) pT.1
    show wpAny _ X.A.in1 (updateSeq T (fun _ => #[]) >>= _) _ _ _
    refine wpAny_bind ?_
    refine wpAny_updateSeq eT rfl (wpAny_bind (wpAny_letGo (wpAny_pure ?_)))
    have sb := Heap.SameBut.update h' T (Obj.mapSeq fun _ => (#[] : Array Value))
    exact hR ub _ ⟨b, H, bOut (s := s) (tk := tk') B I0 I fun a o n1 n2 q => (sb.2 a n1).trans (kp a o (by simpa using n2) q), rb, q⟩
  | cons v vs ih =>
    intro j s H b kb db ub uk c oJ hdr hle I hit rb rk run
    obtain ⟨⟨hC1, hC2⟩, ht⟩ := run
    have pT := I.pin _ bMem1
    have pF := I.pin _ bMem3
    obtain ⟨its, rv, hl, hz⟩ := I.list (.inl (.inl hC2))
    have hlen := rv.length
    have hlt : j + 1 < all.length := by
      have := congrArg List.length hdr
      rw [List.length_drop, List.length_cons] at this
      omega
    have W := Walks.list (prog := X.prog) (w := X.w) (A := X.A.in1) hr.hd J l B.lJ its.toArray
    refine codeAny_builtin PySem.F.entry_min_loop ?_
    rw [Around.under_plainId PySem.F.plain_min_loop _]
    show wpAny _ X.A.in1 (seqItems? (.ref T) >>= _) _ _ s
    refine wpAny_bind (wpAny_seqItems pT.1 rfl ?_)
    show wpAny _ X.A.in1 (tryCatch (pyNext (.ref J)) _ >>= _) _ _ s
    refine wpAny_bind (wpAny_tryCatch (W.item (j + 1) s _ _ (by rw [List.size_toArray]; omega) ⟨hit, hl.isList⟩ fun u h' tk' hP hst kp => ?_))
    obtain ⟨v2, e2, ru⟩ := Vals_get rv (j + 1) u (by simpa using hP)
    have ev : v2 = v := by
      have h1 : all[j + 1]? = some v := by
        have := congrArg (fun z : List V => z[0]?) hdr
        simpa using this
      rw [h1] at e2
      exact (Option.some.inj e2).symm
    subst ev
    obtain ⟨oJ2, eJ2, cJ, dJ⟩ := id hst.1
    have eT := kp T _ (by simpa using B.tj) pT.1
    have nJ : ∀ z, oJ2.data ≠ .cell z := fun z q => by rw [dJ] at q; cases q
    have I2 := bMove (tk := tk') (row2 := #[ub, uk]) (c2 := c) B I0 nJ I (fun a o _ n2 q => kp a o (by simpa using n2) q) eT eJ2
    have pF2 := I2.pin _ bMem3
    have cc := lam_call (A := X.A.in1) (tb := tb) I2 L I2.env0.in1 hr nd hip ru pF2.1 hC1 hbind (hbody _ H) ht
    show wpAny _ X.A.in1 (tryCatch (holding [u] (call (.ref f) [u])) _ >>= _) _ _ _
    refine wpAny_bind (wpAny_tryCatch (wpAny_holding (wpAny_call (codeAny_mono cc fun r s2 hq => ?_))))
    obtain ⟨w, rfl, hq⟩ := hq
    obtain ⟨kv, H2, I3, rw2, d, hd, hdb, hcm, run2⟩ := I2.after hq
    obtain ⟨hc1, hc2, hc3⟩ := cmpOk_of hcm
    obtain ⟨as, r1⟩ := Dp.reads I3 d kv w hd rw2
    obtain ⟨bs, r2⟩ := Dp.reads I3 db kb uk hdb rk
    have pT3 := I3.pin _ bMem1
    have pJ3 := I3.pin _ bMem2
    show wpAny _ X.A.in1 (tryCatch (holding [u, w] (richCompare .Lt w uk >>= _)) _ >>= _) _ _ _
    refine wpAny_bind (wpAny_tryCatch (wpAny_holding (wpAny_bind (lt_data r1 r2 hc1 hc2 (by have := hr.un; have := Nat.min_le_left d.depth db.depth; omega) ?_))))
    refine wpAny_bind (wpAny_holding (wpAny_truthy_bool ?_))
    refine wpAny_bind (wpAny_letGo (wpAny_pure ?_))
    have hdr2 : all.drop (j + 1 + 1) = vs := by
      rw [← List.drop_drop, hdr]
      rfl
    by_cases hb : ltB d db = true
    · rw [if_pos hb] at run2
      have hb2 : dataLt d db = true := hb
      simp only [hb2, if_true]
      obtain ⟨c2, ec2⟩ := bst_upd (ys := #[u, w]) pT3.1
      have sb := Heap.SameBut.update s2.heap T (Obj.mapSeq fun _ => #[u, w])
      refine wpAny_bind ?_
      refine wpAny_updateSeq pT3.1 rfl (wpAny_bind (wpAny_letGo ?_))
      rw [hname]
      exact wpAny_pure ⟨plainId_quiet PySem.F.plain_min_loop _, ih (j + 1) _ H2 v2 kv d u w c2 oJ2 hdr2 hlt (bMove (tk := s2.toks) B I0 nJ I3 (fun a o n1 _ q => (sb.2 a n1).trans q) ec2 ((sb.2 J (Ne.symm B.tj)).trans pJ3.1)) ⟨oJ2, (sb.2 J (Ne.symm B.tj)).trans pJ3.1, cJ, dJ⟩ ru rw2 run2⟩
    · rw [if_neg hb] at run2
      have hb2 : dataLt d db = false := by
        have : ltB d db = false := by simpa using hb
        exact this
      simp only [hb2, Bool.false_eq_true, if_false]
      refine wpAny_bind (wpAny_letGo ?_)
      rw [hname]
      exact wpAny_pure ⟨plainId_quiet PySem.F.plain_min_loop _, ih (j + 1) _ H2 b kb db ub uk c oJ2 hdr2 hlt I3 ⟨oJ2, pJ3.1, cJ, dJ⟩ rb rk run2⟩
theorem min_call {k : Nat} {x : Str} {ip : Nat} {tb : TE} {all : List V} {Q : VK} {Er : Value → Shared → Prop} {H : Hp} {s : Shared} (I : Inv X pins σ H s) (hr : Room (k + 2) X.A) (L : LamP X.env.scope scope x) (nd : X.N.Nodup) (hip : X.N[ip]? = some x)
    (of : s.heap.get? f = some (lmObj (X.env.qual ++ "<lambda>") params body scope (cloFrom X.env.cells scope.names []) pm c' ctv)) (hf : H f = none) (asf : Aside X f (lmObj (X.env.qual ++ "<lambda>") params body scope (cloFrom X.env.cells scope.names []) pm c' ctv))
    (hbind : ∀ u : Value, bindArgs (PySem.W.kla_fn "<lambda>" (X.env.qual ++ "<lambda>") params body scope (cloFrom X.env.cells scope.names []) pm (.ref c') ctv) ⟨[u], []⟩ = pure [(x, u)])
    (hbody : ∀ (s : Shared) (H : Hp), Room k (lamC X X.A.in1 s H scope f c').A → PE (lamC X X.A.in1 s H scope f c') body tb)
    (run : kBest0 X.K (fun H => H c' = some (CodeO c' (X.env.qual ++ "<lambda>")) ∧ H l = some (.lst all)) ltB tb σ ip all H Q) :
    wpAny (model X.prog X.w) X.A (call (.builtin "min") [.ref l] [(Str.ofString "key", .ref f)]) (EP X pins σ Q) Er s := by
  have hname : (toString "min" ++ toString ".loop" : String) = "min.loop" := by decide
  have hr1 : Room (k + 1) X.A.in1 := hr.in1
  cases all with
  | nil => exact run.elim
  | cons v vs =>
    obtain ⟨⟨hC1, hC2⟩, ht⟩ := run
    obtain ⟨its, rv, hl, hz⟩ := I.list (.inl (.inl hC2))
    have hlen := rv.length
    obtain ⟨ol, eol, _⟩ := id hl.isList
    have ll : l < s.heap.objs.size := Heap.lt_size eol
    have lf : f < s.heap.objs.size := Heap.lt_size of
    refine kmk_tree PySem.F.kind_min PySem.F.plain_min PySem.F.entry_min (kmk_min_key _ _) ?_
    show wpAny _ X.A.in1 (Builtin.Builtins.bindParams "min" ["key", "default"] 0 ⟨[], [(Str.ofString "key", .ref f)]⟩ >>= _) _ _ s
    refine wpAny_bind (wpAny_of_eq (show Builtin.Builtins.bindParams "min" ["key", "default"] 0 ⟨[], [(Str.ofString "key", .ref f)]⟩ = pure [some (.ref f), none] from rfl) ?_)
    refine wpAny_bind (wpAny_pure ?_)
    refine wpAny_bind (wpAny_pyIter_list hl.isList ?_)
    refine wpAny_bind (wpAny_newList ?_ (Nat.zero_le _))
    rw [hname]
    obtain ⟨g1, hg1⟩ : ∃ g1 : Heap, g1 = s.heap.push { cls := .type "list_iterator", data := .fields #[.ref l, .int 0 0] } := ⟨_, rfl⟩
    have sz1 : g1.objs.size = s.heap.objs.size + 1 := by rw [hg1]; exact size_push' ..
    rw [← hg1]
    have eJ1 : g1.get? s.heap.objs.size = some { cls := .type "list_iterator", data := .fields #[.ref l, .int 0 0] } := by
      rw [hg1]
      exact Heap.get?_push_size _ rfl
    have kp1 : ∀ a o, s.heap.get? a = some o → g1.get? a = some o := fun a o q => by
      rw [hg1]
      exact Heap.get?_push_of_some _ q
    obtain ⟨g2, hg2⟩ : ∃ g2 : Heap, g2 = g1.push (seqObj "list" #[] 0) := ⟨_, rfl⟩
    have eT2 : g2.get? g1.objs.size = some (lstO #[] 0) := by
      rw [hg2]
      exact Heap.get?_push_size _ rfl
    have kp2 : ∀ a o, s.heap.get? a = some o → g2.get? a = some o := fun a o q => by
      rw [hg2]
      exact Heap.get?_push_of_some _ (kp1 a o q)
    have eJ2 : g2.get? s.heap.objs.size = some { cls := .type "list_iterator", data := .fields #[.ref l, .int 0 0] } := by
      rw [hg2]
      exact Heap.get?_push_of_some _ eJ1
    rw [show g1.push (seqObj "list" ([] : List Value).toArray 0) = g2 from hg2.symm]
    have B : BAt X s g1.objs.size s.heap.objs.size f l c' params body scope pm ctv := ⟨by omega, Nat.le_refl _, Nat.ne_of_gt (by omega), Nat.ne_of_lt (Nat.lt_of_lt_of_le lf (by omega)), Nat.ne_of_lt lf, Nat.ne_of_lt (Nat.lt_of_lt_of_le ll (by omega)), Nat.ne_of_lt ll, asf⟩
    have nJ0 : ∀ z, ({ cls := .type "list_iterator", data := .fields #[.ref l, .int 0 0] } : Obj).data ≠ .cell z := fun z q => by cases q
    have fT := I.hok.fresh (a := g1.objs.size) (by omega)
    have fJ := I.hok.fresh (a := s.heap.objs.size) (Nat.le_refl _)
    have aT : Aside X g1.objs.size (lstO #[] 0) := aside_new I (by omega) lst_nc
    have aJ : Aside X s.heap.objs.size ({ cls := .type "list_iterator", data := .fields #[.ref l, .int 0 0] } : Obj) := aside_new I (Nat.le_refl _) nJ0
    have I1 : Inv X pins σ H { s with heap := g2, toks := s.toks } := I.kept kp2
    have I2 : Inv X (bPins X g1.objs.size s.heap.objs.size f c' #[] 0 { cls := .type "list_iterator", data := .fields #[.ref l, .int 0 0] } params body scope pm ctv pins) σ H { s with heap := g2, toks := s.toks } := I1.pins_of fun p hp => by
      rcases List.mem_append.mp hp with z | z
      · simp only [List.mem_cons, List.not_mem_nil, or_false] at z
        rcases z with rfl | rfl | rfl
        · exact aT.pin eT2 fT
        · exact aJ.pin eJ2 fJ
        · exact asf.pin (kp2 _ _ of) hf
      · exact I1.pin p (List.mem_append_right _ z)
    obtain ⟨its2, rv2, hl2, hz2⟩ := I2.list (.inl (.inl hC2))
    have hlen2 := rv2.length
    have W := Walks.list (prog := X.prog) (w := X.w) (A := X.A.in1) hr1.hd s.heap.objs.size l B.lJ its2.toArray
    refine wpAny_pure ⟨plainId_quiet PySem.F.plain_min_loop _, ?_⟩
    refine codeAny_builtin PySem.F.entry_min_loop ?_
    rw [Around.under_plainId PySem.F.plain_min_loop _]
    show wpAny _ X.A.in1 (seqItems? (.ref g1.objs.size) >>= _) _ _ _
    refine wpAny_bind (wpAny_seqItems eT2 rfl ?_)
    show wpAny _ X.A.in1 (tryCatch (pyNext (.ref s.heap.objs.size)) _ >>= _) _ _ _
    refine wpAny_bind (wpAny_tryCatch (W.item 0 _ _ _ (by rw [List.size_toArray, ← hlen2]; exact Nat.succ_pos _) ⟨⟨_, eJ2, rfl, rfl⟩, hl2.isList⟩ fun u h' tk' hP hst kp => ?_))
    obtain ⟨v2, e2, ru⟩ := Vals_get rv2 0 u (by simpa using hP)
    have ev : v2 = v := (Option.some.inj e2).symm
    subst ev
    obtain ⟨oJ2, eJ3, cJ, dJ⟩ := id hst.1
    have eT := kp g1.objs.size _ (by simpa using B.tj) eT2
    have nJ : ∀ z, oJ2.data ≠ .cell z := fun z q => by rw [dJ] at q; cases q
    have I3 := bMove (tk := tk') (row2 := #[]) (c2 := 0) B I nJ I2 (fun a o _ n2 q => kp a o (by simpa using n2) q) eT eJ3
    have pF3 := I3.pin _ bMem3
    have cc := lam_call (A := X.A.in1) (tb := tb) I3 L I3.env0.in1 hr1 nd hip ru pF3.1 hC1 hbind (hbody _ H) ht
    show wpAny _ X.A.in1 (tryCatch (holding [u] (call (.ref f) [u])) _ >>= _) _ _ _
    refine wpAny_bind (wpAny_tryCatch (wpAny_holding (wpAny_call (codeAny_mono cc fun r s2 hq => ?_))))
    obtain ⟨w, rfl, hq⟩ := hq
    obtain ⟨kv, H2, I4, rw2, d, hd, run2⟩ := I3.after hq
    have pT4 := I4.pin _ bMem1
    have pJ4 := I4.pin _ bMem2
    obtain ⟨c2, ec2⟩ := bst_upd (ys := #[u, w]) pT4.1
    have sb := Heap.SameBut.update s2.heap g1.objs.size (Obj.mapSeq fun _ => #[u, w])
    show wpAny _ X.A.in1 (updateSeq g1.objs.size (fun _ => #[u, w]) >>= _) _ _ _
    refine wpAny_bind ?_
    refine wpAny_updateSeq pT4.1 rfl ?_
    rw [hname]
    exact wpAny_pure ⟨plainId_quiet PySem.F.plain_min_loop _, min_loop (all := v2 :: vs) B I hr1 L nd hip hbind hbody (fun w s' q => q) vs 0 _ H2 v2 kv d u w c2 oJ2 rfl (Nat.succ_le_succ (Nat.zero_le _)) (bMove (tk := s2.toks) B I nJ I4 (fun a o n1 _ q => (sb.2 a n1).trans q) ec2 ((sb.2 _ (Ne.symm B.tj)).trans pJ4.1)) ⟨oJ2, (sb.2 _ (Ne.symm B.tj)).trans pJ4.1, cJ, dJ⟩ ru rw2 run2⟩
end
end DV

/-! DV: max, min by a lambda's keys, the expression -/
namespace DV
open PySem L2 LamX PyProof.Rows PySem.Spec PySem.W
def tBestK (K : PySem.W.Frag) (P : Addr) (q : Str) (bt : D → D → Bool) (t : TE) (tb : TE) (ip : Nat) : TE := fun σ H Q => t σ H fun v H1 => ∃ l all, v = .ref l ∧ H1 l = some (.lst all) ∧ Tabs (tabsOf K) H1 ∧ ∀ c' H2, Grown (tabsOf K) P H1 H2 → H2 c' = some (CodeO c' q) →
  kBest0 K (fun H => H c' = some (CodeO c' q) ∧ H l = some (.lst all)) bt tb σ ip all H2 Q
section
variable {X : Cx} {e : Expr} {t tb : TE} {k : Nat} {P : Addr} {q : Str} {params : Arguments} {body : Expr} {scope : Scope} {x : Str} {ip : Nat} {p pos lpos kpos : Pos}
theorem pe_maxK (hg : Gl X "max") (hm : X.mg "max" = none) (hr : Room (k + 2) X.A) (nd : X.N.Nodup) (he : PE X e t) (A : LamAt X P q params scope x ip)
    (hbody : ∀ (s : Shared) (H : Hp) (f c' : Addr), Room k (lamC X X.A.in1 s H scope f c').A → PE (lamC X X.A.in1 s H scope f c') body tb)
    (hb1 : backTo pos (starEach [e] X.env) = (false, eval e X.env) :: backTo pos (starEach [] X.env) := by rfl) (hb2 : (backTo pos (starEach [e] X.env)).any (·.1) = false := by rfl) :
    PE X (.Call (.Name "max" p) [e] [⟨some "key", .Lambda params body scope lpos, kpos⟩] pos) (tBestK X.K P q gtB t tb ip) := by
  refine ⟨fun pins s σ H Q I h => ?_⟩
  refine wpAny_Call_Name_kw (ld_blt I hg hm boot_max ?_)
  obtain ⟨c, hTB, hcode⟩ := A.cod
  have hq2 := A.qual
  subst hq2
  have hfree : ∀ y ∈ scope.names, y.2 = .free → ∃ a, X.env.cells.lookup y.1 = some a := fun y m ey => I.ok.has _ (A.par.free y m ey)
  refine PyProof.Rows.callWith_kw ?_ hb1 hb2 rfl rfl
  rw [hb1]
  refine Calls.spliced_cons (thn (he.run pins s σ H _ I h) fun u s1 ⟨v, H1, I1, r1, l, all, ev, hl, hT, q1⟩ => ?_)
  subst ev
  cases r1
  refine wpAny_pure ?_
  show wpAny _ _ (evalAll [(do let v ← eval (.Lambda params body scope lpos) X.env; standAt pos; pure v)]) _ _ s1
  refine wpAny_evalAll_cons (wpAny_bind (lam_mk I1 hTB hcode A.mem A.uni hT A.noDef hfree fun f c' pm ctv H2 s2 I2 G of hf sz kp hc => ?_))
  refine wpAny_bind (wpAny_standAt (wpAny_pure (wpAny_evalAll_nil ?_)))
  show wpAny _ _ (call (.builtin "max") [.ref l] [(Str.ofString "key", .ref f)]) _ _ s2
  exact max_call (tb := tb) I2 hr A.par nd A.slot of hf (aside_new I1 sz fun v z => by cases z) (fun u => A.bind _ _ _ _ _ _ u) (fun s' H' => hbody s' H' f c') (q1 c' H2 G hc)
theorem pe_minK (hg : Gl X "min") (hm : X.mg "min" = none) (hr : Room (k + 2) X.A) (nd : X.N.Nodup) (he : PE X e t) (A : LamAt X P q params scope x ip)
    (hbody : ∀ (s : Shared) (H : Hp) (f c' : Addr), Room k (lamC X X.A.in1 s H scope f c').A → PE (lamC X X.A.in1 s H scope f c') body tb)
    (hb1 : backTo pos (starEach [e] X.env) = (false, eval e X.env) :: backTo pos (starEach [] X.env) := by rfl) (hb2 : (backTo pos (starEach [e] X.env)).any (·.1) = false := by rfl) :
    PE X (.Call (.Name "min" p) [e] [⟨some "key", .Lambda params body scope lpos, kpos⟩] pos) (tBestK X.K P q ltB t tb ip) := by
  refine ⟨fun pins s σ H Q I h => ?_⟩
  refine wpAny_Call_Name_kw (ld_blt I hg hm boot_min ?_)
  obtain ⟨c, hTB, hcode⟩ := A.cod
  have hq2 := A.qual
  subst hq2
  have hfree : ∀ y ∈ scope.names, y.2 = .free → ∃ a, X.env.cells.lookup y.1 = some a := fun y m ey => I.ok.has _ (A.par.free y m ey)
  refine PyProof.Rows.callWith_kw ?_ hb1 hb2 rfl rfl
  rw [hb1]
  refine Calls.spliced_cons (thn (he.run pins s σ H _ I h) fun u s1 ⟨v, H1, I1, r1, l, all, ev, hl, hT, q1⟩ => ?_)
  subst ev
  cases r1
  refine wpAny_pure ?_
  show wpAny _ _ (evalAll [(do let v ← eval (.Lambda params body scope lpos) X.env; standAt pos; pure v)]) _ _ s1
  refine wpAny_evalAll_cons (wpAny_bind (lam_mk I1 hTB hcode A.mem A.uni hT A.noDef hfree fun f c' pm ctv H2 s2 I2 G of hf sz kp hc => ?_))
  refine wpAny_bind (wpAny_standAt (wpAny_pure (wpAny_evalAll_nil ?_)))
  show wpAny _ _ (call (.builtin "min") [.ref l] [(Str.ofString "key", .ref f)]) _ _ s2
  exact min_call (tb := tb) I2 hr A.par nd A.slot of hf (aside_new I1 sz fun v z => by cases z) (fun u => A.bind _ _ _ _ _ _ u) (fun s' H' => hbody s' H' f c') (q1 c' H2 G hc)
end
/-! ### as functions over data -/
/-- the first best of the items by their keys -/
def bestF (bt : D → D → Bool) : List (D × D) → D × D → D × D
  | [], b => b
  | p :: ps, b => bestF bt ps (if bt p.2 b.2 = true then p else b)
def okBest (kz : List D) : Bool := kz.all fun x => kz.all (cmpOk x)
def ownL : RV → Option (List D)
  | .b ds => some ds
  | .n ds => some ds
  | _ => none
def eBestK (bt : D → D → Bool) (f : Env → M RV) (el : Env → M RV) (ip : Nat) : Env → M RV := fun ρ => bnd (f ρ) fun x => bnd (lft (ownL x)) fun its => bnd (keysF el ρ ip its) fun kz => match its.zip kz with
  | [] => fail
  | p :: ps => if okBest kz = true then ret (.d (bestF bt ps p).1) else fail
section
variable {K : PySem.W.Frag} {R : Option Addr} {tb : TE}
theorem best_run {C : Hp → Prop} {bt : D → D → Bool} {el : Env → M RV} {ip : Nat} {L : Nat → Option (Addr × List V)} {E : Hp} {ρ : Env} {σ : L2.St} (hC : ∀ rs F H rs' F' H', RowOk K R rs F H → Step K R rs' F H F' H' → C H → C H') (he : ESem K R tb el) :
    ∀ (its : List D) (xs : List V) (F H : Hp) (rs : RS) (kz : List D) (rs' : RS) (b kb : V) (bd db : D) (Q : VK), Rel K R L E F ρ σ rs H → C H → DpAll K F xs its → Dp K F b bd → Dp K F kb db → keysF el ρ ip its rs = some (kz, rs') → (∀ x ∈ db :: kz, ∀ y ∈ db :: kz, cmpOk x y = true) →
      (∀ v F' H', Step K R rs' F H F' H' → Dp K F' v (bestF bt (its.zip kz) (bd, db)).1 → Q v H') → kBest K C bt tb σ ip xs b kb db H Q := fun its => by
  induction its with
  | nil =>
    intro xs F H rs kz rs' b kb bd db Q r c hd hb hk hf ok k
    cases hd
    obtain ⟨e1, q1⟩ := ret_some hf
    subst e1 q1
    exact ⟨c, k b F H r.refl hb⟩
  | cons x its ih =>
    intro xs F H rs kz rs' b kb bd db Q r c hd hb hk hf ok k
    cases hd with
    | cons h1 h2 =>
      rename_i v vs
      obtain ⟨y, rs1, e1, hf1⟩ := bnd_some hf
      obtain ⟨d, rs2, e2, hf2⟩ := bnd_some hf1
      obtain ⟨e3, q3⟩ := lft_some e2
      subst q3
      obtain ⟨ds, rs4, e4, hf4⟩ := bnd_some hf2
      obtain ⟨e5, q5⟩ := ret_some hf4
      subst e5 q5
      refine ⟨c, he L E _ _ F H rs y _ _ (r.put ip (.d x) v h1 (fun a q => nomatch q)) e1 fun kv F1 H1 s1 hk1 => ?_⟩
      have hkd : Dp K F1 kv d := by
        cases y with
        | d z => cases e3; exact hk1
        | b _ => cases e3
        | n _ => cases e3
        | gb _ => cases e3
        | gn _ => cases e3
        | row => cases e3
      have md : d ∈ db :: d :: ds := by simp
      refine ⟨d, Dp.mono (r.step s1).fr _ _ hkd, Dp.mono (r.step s1).fr _ _ (Dp.mono s1.sub _ _ hk), ok d md db (by simp), ?_⟩
      have c1 := hC _ _ _ _ _ _ r.row s1 c
      have hd2 := Dp.monoA s1.sub _ _ h2
      by_cases q : bt d db = true
      · rw [if_pos q]
        refine ih vs F1 H1 _ ds _ v kv x d _ (r.step s1) c1 hd2 (Dp.mono s1.sub _ _ h1) hkd e4 (fun a ha b hb => ok a (List.mem_cons_of_mem _ ha) b (List.mem_cons_of_mem _ hb)) fun w F2 H2 s2 hw => ?_
        refine k w F2 H2 (s1.trans r.row s2) ?_
        rw [List.zip_cons_cons]
        unfold bestF
        rw [if_pos q]
        exact hw
      · rw [if_neg q]
        refine ih vs F1 H1 _ ds _ b kb bd db _ (r.step s1) c1 hd2 (Dp.mono s1.sub _ _ hb) (Dp.mono s1.sub _ _ hk) e4 (fun a ha b hb => ok a (by simp only [List.mem_cons] at ha ⊢; rcases ha with z | z; exact .inl z; exact .inr (.inr z)) b (by simp only [List.mem_cons] at hb ⊢; rcases hb with z | z; exact .inl z; exact .inr (.inr z))) fun w F2 H2 s2 hw => ?_
        refine k w F2 H2 (s1.trans r.row s2) ?_
        rw [List.zip_cons_cons]
        unfold bestF
        rw [if_neg q]
        exact hw
theorem esem_best {X : Cx} {bt : D → D → Bool} {f el : Env → M RV} {t : TE} {P : Addr} {q : Str} {ip : Nat} (mem : (P, q) ∈ tabsOf K) (ha : ESem K R t f) (hsem : ESem K R tb el) : ESem K R (tBestK K P q bt t tb ip) (eBestK bt f el ip) := fun L E ρ σ F H rs x0 rs' Q r hf kk => by
  obtain ⟨x, rs1, e1, hf1⟩ := bnd_some hf
  obtain ⟨its, rs2, e2, hf2⟩ := bnd_some hf1
  obtain ⟨e3, q3⟩ := lft_some e2
  subst q3
  obtain ⟨kz, rs4, e4, hf4⟩ := bnd_some hf2
  refine ha L E ρ σ F H rs x _ _ r e1 fun v F1 H1 s1 h1 => ?_
  have r1 := r.step s1
  have hl : ∃ l all, v = .ref l ∧ H1 l = some (.lst all) ∧ some l ≠ R ∧ DpAll K F1 all its := by
    cases x with
    | d _ => cases e3
    | gb _ => cases e3
    | gn _ => cases e3
    | row => cases e3
    | b ds =>
      cases e3
      obtain ⟨a, vs, z1, z2, z3, z4⟩ := h1
      exact ⟨a, vs, z1, z2, z3, z4⟩
    | n ds =>
      cases e3
      obtain ⟨a, vs, z1, z2, _, _, z3, z4⟩ := h1
      exact ⟨a, vs, z1, z2, z3, z4⟩
  obtain ⟨l, all, rfl, hl1, hlR, hd⟩ := hl
  refine ⟨l, all, rfl, hl1, s1.row.tab, fun c' H2 G hc => ?_⟩
  have sg := r1.refl.grown mem G
  have r2 := r1.step sg
  have hC : ∀ rs F H rs' F' H', RowOk K R rs F H → Step K R rs' F H F' H' → (H c' = some (CodeO c' q) ∧ H l = some (.lst all)) → (H' c' = some (CodeO c' q) ∧ H' l = some (.lst all)) := fun rs F H rs' F' H' ro st c => ⟨st.keep c' _ c.1 (fun z => by
      obtain ⟨a, ea, _⟩ := ro.at_ c' z.symm
      rw [c.1] at ea
      have := Option.some.inj ea
      unfold CodeO at this
      cases this) (.inl codeO_ne), st.keep l _ c.2 hlR⟩
  have hc2 : H2 c' = some (CodeO c' q) ∧ H2 l = some (.lst all) := ⟨hc, sg.keep l _ hl1 hlR⟩
  cases its with
  | nil =>
    obtain ⟨z1, z2⟩ := ret_some e4
    subst z1
    cases hf4
  | cons y its =>
    cases hd with
    | cons hd1 hd2 =>
      rename_i v vs
      obtain ⟨w, rs5, e5, g1⟩ := bnd_some e4
      obtain ⟨d, rs6, e6, g2⟩ := bnd_some g1
      obtain ⟨e7, q7⟩ := lft_some e6
      subst q7
      obtain ⟨ds, rs8, e8, g3⟩ := bnd_some g2
      obtain ⟨e9, q9⟩ := ret_some g3
      subst e9 q9
      have hf5 : (if okBest (d :: ds) = true then ret (RV.d (bestF bt (its.zip ds) (y, d)).1) else fail) rs4 = some (x0, rs') := hf4
      by_cases hok : okBest (d :: ds) = true
      · rw [if_pos hok] at hf5
        obtain ⟨e10, q10⟩ := ret_some hf5
        subst e10 q10
        unfold okBest at hok
        simp only [List.all_eq_true] at hok
        refine ⟨hc2, hsem L E _ _ F1 H2 _ w _ _ (r2.put ip (.d y) v hd1 (fun a q => nomatch q)) e5 fun kv F3 H3 s3 hk1 => ?_⟩
        have hkd : Dp K F3 kv d := by
          cases w with
          | d z => cases e7; exact hk1
          | b _ => cases e7
          | n _ => cases e7
          | gb _ => cases e7
          | gn _ => cases e7
          | row => cases e7
        have sub13 : ∀ a o, F1 a = some o → F3 a = some o := s3.sub
        refine ⟨d, Dp.mono (r2.step s3).fr _ _ hkd, best_run hC hsem its vs F3 H3 _ ds _ v kv y d Q (r2.step s3) (hC _ _ _ _ _ _ r2.row s3 hc2) (Dp.monoA sub13 _ _ hd2) (Dp.mono sub13 _ _ hd1) hkd e8 hok fun u F4 H4 s4 hu => ?_⟩
        exact kk u F4 H4 (s1.trans r.row (sg.trans r1.row (s3.trans r2.row s4))) hu
      · rw [if_neg hok] at hf5
        cases hf5
end
section
variable {X : Cx} {R : Option Addr} {e : Expr} {t tb : TE} {f el : Env → M RV} {k : Nat} {P : Addr} {q : Str} {params : Arguments} {body : Expr} {scope : Scope} {x : Str} {ip : Nat} {p pos lpos kpos : Pos}
theorem de_maxK (hg : Gl X "max") (hm : X.mg "max" = none) (hr : Room (k + 2) X.A) (nd : X.N.Nodup) (he : DE X R e t f) (A : LamAt X P q params scope x ip)
    (hbody : ∀ (s : Shared) (H : Hp) (f c' : Addr), Room k (lamC X X.A.in1 s H scope f c').A → DE (lamC X X.A.in1 s H scope f c') R body tb el)
    (hb1 : backTo pos (starEach [e] X.env) = (false, eval e X.env) :: backTo pos (starEach [] X.env) := by rfl) (hb2 : (backTo pos (starEach [e] X.env)).any (·.1) = false := by rfl) :
    DE X R (.Call (.Name "max" p) [e] [⟨some "key", .Lambda params body scope lpos, kpos⟩] pos) (tBestK X.K P q gtB t tb ip) (eBestK gtB f el ip) :=
  ⟨pe_maxK hg hm hr nd he.pe A (fun s H f c' hr' => (hbody s H f c' hr').pe) hb1 hb2, esem_best (X := X) A.mem he.sem (hbody {} (fun _ => none) 0 0 ((hr.in1 : Room (k + 1) X.A.in1).deeper _)).sem⟩
theorem de_minK (hg : Gl X "min") (hm : X.mg "min" = none) (hr : Room (k + 2) X.A) (nd : X.N.Nodup) (he : DE X R e t f) (A : LamAt X P q params scope x ip)
    (hbody : ∀ (s : Shared) (H : Hp) (f c' : Addr), Room k (lamC X X.A.in1 s H scope f c').A → DE (lamC X X.A.in1 s H scope f c') R body tb el)
    (hb1 : backTo pos (starEach [e] X.env) = (false, eval e X.env) :: backTo pos (starEach [] X.env) := by rfl) (hb2 : (backTo pos (starEach [e] X.env)).any (·.1) = false := by rfl) :
    DE X R (.Call (.Name "min" p) [e] [⟨some "key", .Lambda params body scope lpos, kpos⟩] pos) (tBestK X.K P q ltB t tb ip) (eBestK ltB f el ip) :=
  ⟨pe_minK hg hm hr nd he.pe A (fun s H f c' hr' => (hbody s H f c' hr').pe) hb1 hb2, esem_best (X := X) A.mem he.sem (hbody {} (fun _ => none) 0 0 ((hr.in1 : Room (k + 1) X.A.in1).deeper _)).sem⟩
end
end DV

/-! DV: methods of lists -/
namespace DV
open PySem L2 PyProof.Rows
section
variable {X : Cx} {K : PySem.W.Frag} {R : Option Addr} {L : Nat → Option (Addr × List V)} {E F F' H H' : Hp} {ρ ρ' : Env} {σ σ' : L2.St} {rs rs' : RS}
variable {S S' : List Nat} {tg o e e2' c : Expr} {es : List Expr} {g : TG} {hg : D → Env → Option Env} {pos p spos apos : Pos} {te to : TE} {f h : Env → M RV}
/-! ### asked of a list: index, count -/
def MSem (K : PySem.W.Frag) (R : Option Addr) (r : V → List V → Hp → VK → Prop) (gg : RV → RV → Option RV) : Prop :=
  ∀ (F H0 H : Hp) (rs : RS) (x y : V) (p q z : RV) (Q : VK), Step K R rs F H F H → VR K R F H0 H x p → VR K R F H0 H y q → gg p q = some z →
    (∀ v F' H', Step K R rs F H F' H' → VR K R F' H H' v z → Q v H') → r x [y] H Q
/-- the items of a list -/
def itemsL : RV → Option (List D)
  | .d (.list ds) => some ds
  | .b ds => some ds
  | .n ds => some ds
  | _ => none
theorem VR.isLL {F H0 H : Hp} {rs : RS} {v : V} {x : RV} {ds : List D} (s : Step K R rs F H F H) (hv : VR K R F H0 H v x) (e : itemsL x = some ds) : ∃ a vs, v = .ref a ∧ SqL K H a vs ∧ DpAll K F vs ds := by
  cases x with
  | d x =>
    cases x with
    | list es =>
      cases e
      cases hv with
      | lst h1 h2 => exact ⟨_, _, rfl, ex_l (s.fin _) h1, h2⟩
    | tuple es => cases e
    | none => cases e
    | bool _ => cases e
    | int _ => cases e
    | str _ => cases e
    | dict _ => cases e
  | b es =>
    cases e
    obtain ⟨a, vs, rfl, h1, _, h3⟩ := hv
    exact ⟨a, vs, rfl, .inl (.inl h1), h3⟩
  | n es =>
    cases e
    obtain ⟨a, vs, rfl, h1, _, _, _, h3⟩ := hv
    exact ⟨a, vs, rfl, .inl (.inl h1), h3⟩
  | gb _ => cases e
  | gn _ => cases e
  | row => cases e
def eMet (gg : RV → RV → Option RV) (f h : Env → M RV) : Env → M RV := fun ρ => bnd (f ρ) fun x => bnd (lft (itemsL x)) fun _ => bnd (h ρ) fun y => lft (gg x y)
theorem esem_met {r : V → List V → Hp → VK → Prop} {gg : RV → RV → Option RV} (hr : MSem K R r gg) (ho : ESem K R to f) (he : ESem K R te h) : ESem K R (tBM K "list" r to (tCons te tNil)) (eMet gg f h) := fun L E ρ σ F H rs x0 rs' Q r0 hf kk => by
  obtain ⟨x1, rs1, e1, hf1⟩ := bnd_some hf
  obtain ⟨ds, rs2, e2, hf2⟩ := bnd_some hf1
  obtain ⟨e3, q3⟩ := lft_some e2
  subst q3
  obtain ⟨x2, rs4, e4, hf4⟩ := bnd_some hf2
  obtain ⟨e5, q5⟩ := lft_some hf4
  subst q5
  refine ho L E ρ σ F H rs x1 _ _ r0 e1 fun v1 F1 H1 s1 h1 => ?_
  have r1 := r0.step s1
  obtain ⟨a, vs, rfl, g1, g2⟩ := VR.isLL r1.refl h1 e3
  refine ⟨.inl ⟨rfl, vs, g1⟩, ?_⟩
  refine he L E ρ σ F1 H1 _ x2 _ _ r1 e4 fun v2 F2 H2 s2 h2 => ?_
  have s12 := s1.trans r0.row s2
  refine hr F2 H H2 _ _ v2 x1 x2 x0 Q (r1.step s2).refl (h1.step s2) (h2.older fun a q => s1.back r0.row q) e5 fun v3 F3 H3 s3 h3 => ?_
  exact kk v3 F3 H3 (s12.trans r0.row s3) (h3.older fun a q => s12.back r0.row q)
def idxOf (ds : List D) (d : D) : Option Nat := ds.findIdx? fun z => PyData.eqv z d
def gIndex : RV → RV → Option RV := fun x y => match itemsL x, y with
  | some ds, .d d => if SeqAt.shaped (.list ds) = true ∧ SeqAt.shaped d = true then (idxOf ds d).map fun j => .d (.int (j : Nat)) else none
  | _, _ => none
theorem msem_index : MSem K R (rIndexD K) gIndex := fun F H0 H rs x y p q z Q s hx hy e k => by
  unfold gIndex at e
  cases e1 : itemsL p with
  | none => rw [e1] at e; cases e
  | some ds =>
    rw [e1] at e
    cases q with
    | d d =>
      by_cases hc : SeqAt.shaped (.list ds) = true ∧ SeqAt.shaped d = true
      · simp only [hc, and_self, if_true] at e
        cases e2 : idxOf ds d with
        | none => rw [e2] at e; cases e
        | some j =>
          rw [e2] at e
          cases e
          obtain ⟨a, vs, rfl, g1, g2⟩ := VR.isLL s hx e1
          unfold idxOf at e2
          rw [List.findIdx?_eq_some_iff_getElem] at e2
          obtain ⟨hj, k1, k2⟩ := e2
          refine ⟨a, y, d, ds, j, ds[j], rfl, rfl, .lst g1 (Dp.monoA s.fin _ _ g2), Dp.mono s.fin _ _ hy, hc.1, hc.2, List.getElem?_eq_getElem hj, k1, fun m z' hm hz => ?_, k _ F H s (Dp.int _)⟩
          have hml : m < ds.length := Nat.lt_trans hm hj
          rw [List.getElem?_eq_getElem hml] at hz
          cases hz
          have := k2 m hm
          simpa using this
      · simp only [hc, if_false] at e
        cases e
    | b _ => cases e
    | n _ => cases e
    | gb _ => cases e
    | gn _ => cases e
    | row => cases e
def gCount : RV → RV → Option RV := fun x y => match itemsL x, asInt y with
  | some ds, some i => (intsOf ds).map fun js => .d (.int (js.count i : Nat))
  | _, _ => none
theorem msem_count : MSem K R (rCntI K) gCount := fun F H0 H rs x y p q z Q s hx hy e k => by
  unfold gCount at e
  cases e1 : itemsL p with
  | none => rw [e1] at e; cases e
  | some ds =>
    cases e2 : asInt q with
    | none => rw [e1, e2] at e; cases e
    | some i =>
      rw [e1, e2] at e
      have e' : (intsOf ds).map (fun js => RV.d (.int (js.count i : Nat))) = some z := e
      cases e3 : intsOf ds with
      | none => rw [e3] at e'; cases e'
      | some js =>
        rw [e3] at e'
        cases e'
        obtain ⟨a, vs, rfl, g1, g2⟩ := VR.isLL s hx e1
        have hv := g2.intsV e3
        subst hv
        have hi := hy.int e2
        subst hi
        exact ⟨a, js, i, rfl, rfl, g1, k _ F H s (Dp.int _)⟩
theorem de_index {cpos : Pos} (hu : X.A.units + 65 < cLine) (ho : DE X R o to f) (he : DE X R e te h) (pe : PE X o to → PE X e te → PE X (.Call (.Attribute o "index" apos) [e] [] cpos) (tBM X.K "list" (rIndexD X.K) to (tCons te tNil))) :
    DE X R (.Call (.Attribute o "index" apos) [e] [] cpos) (tBM X.K "list" (rIndexD X.K) to (tCons te tNil)) (eMet gIndex f h) := ⟨pe ho.pe he.pe, esem_met msem_index ho.sem he.sem⟩
theorem de_count {cpos : Pos} (ho : DE X R o to f) (he : DE X R e te h) (pe : PE X o to → PE X e te → PE X (.Call (.Attribute o "count" apos) [e] [] cpos) (tBM X.K "list" (rCntI X.K) to (tCons te tNil))) :
    DE X R (.Call (.Attribute o "count" apos) [e] [] cpos) (tBM X.K "list" (rCntI X.K) to (tCons te tNil)) (eMet gCount f h) := ⟨pe ho.pe he.pe, esem_met msem_count ho.sem he.sem⟩

/-! ### a list of one's own: pop, extend, insert -/
/-- the last one is taken off -/
def popLast (ds : List D) : Option (List D × D) := match ds.getLast? with
  | some d => some (ds.dropLast, d)
  | none => none
def sPopG (i : Nat) (h : D → Env → Option Env) : Env → M Out := fun ρ => bnd (lft (sApp.own? ρ i)) fun ds => bnd (lft (popLast ds)) fun q => bnd (lft (h q.2 (ρ.set i (some (.o q.1))))) fun ρ' => ret (.nx ρ')
theorem DpAll.dropLast {F : Hp} {vs : List V} {ds : List D} (h : DpAll K F vs ds) : DpAll K F vs.dropLast ds.dropLast := by
  rw [List.dropLast_eq_take, List.dropLast_eq_take, h.len]
  exact DpAll.take _ h
theorem pop_sem {i : Nat} {Q : VK} {ds : List D} {d : D} {ds' : List D} (r : Rel K R L E F ρ σ rs H) (eo : sApp.own? ρ i = some ds) (ep : popLast ds = some (ds', d))
    (k : ∀ v H', Rel K R L E F (ρ.set i (some (.o ds'))) σ rs H' → Dp K F v d → Q v H') : tBM0 K "list" rPop (tVar i) σ H Q := by
  obtain ⟨v, ev, a, vs, rfl, h1, h2, h3, h4, h5⟩ := r.sl i _ (own_some eo)
  have hl := h5.len
  unfold popLast at ep
  cases e1 : ds.getLast? with
  | none => rw [e1] at ep; cases ep
  | some d1 =>
    rw [e1] at ep
    cases ep
    rw [List.getLast?_eq_getElem?] at e1
    obtain ⟨y, ey, hy⟩ := h5.get e1
    rw [← hl] at ey
    exact ⟨_, ev, .inl ⟨rfl, vs, .inl (.inl h1)⟩, a, vs, y, rfl, rfl, h1, ey, k y _ (r.change (own_some eo) ev (DpAll.dropLast h5)) hy⟩
theorem ds_popDrop {i : Nat} (pe : PE X e (tBM0 X.K "list" rPop (tVar i))) (hs : swapsWith e none spos.line X.env = pure false := by rfl) : DS X R (.Expr e spos) (tDrop (tBM0 X.K "list" rPop (tVar i))) (sPopG i fun _ ρ => some ρ) := ⟨ps_expr pe hs, fun L E F ρ σ rs H o rs' D r hf k => by
  obtain ⟨ds, rs1, e1, hf1⟩ := bnd_some hf
  obtain ⟨e2, q2⟩ := lft_some e1
  obtain ⟨⟨ds', d⟩, rs3, e3, hf3⟩ := bnd_some hf1
  obtain ⟨e4, q4⟩ := lft_some e3
  obtain ⟨ρ1, rs5, e5, hf5⟩ := bnd_some hf3
  obtain ⟨e6, q6⟩ := lft_some e5
  obtain ⟨e7, q7⟩ := ret_some hf5
  cases e6
  subst e7 q7 q6 q4 q2
  exact pop_sem r e2 e4 fun v H' r' _ => k σ F H' FStep.refl r'⟩
theorem ds_popTo {i : Nat} (pe : PE X e (tBM0 X.K "list" rPop (tVar i))) (hh : DG X R S tg g hg) (hs : swapsWithSole [tg] e pos.line X.env = pure false := by rfl) (hw : swappedStores [tg] e X.env = pure none := by rfl)
    (h1 : (assignEach [tg] X.env).map (·.2) = [assign tg X.env] := by rfl) : DS X R (.Assign [tg] e pos) (tAsg (tBM0 X.K "list" rPop (tVar i)) g) (sPopG i hg) := ⟨ps_asg pe hh.pg hs hw h1, fun L E F ρ σ rs H o rs' D r hf k => by
  obtain ⟨ds, rs1, e1, hf1⟩ := bnd_some hf
  obtain ⟨e2, q2⟩ := lft_some e1
  obtain ⟨⟨ds', d⟩, rs3, e3, hf3⟩ := bnd_some hf1
  obtain ⟨e4, q4⟩ := lft_some e3
  obtain ⟨ρ1, rs5, e5, hf5⟩ := bnd_some hf3
  obtain ⟨e6, q6⟩ := lft_some e5
  obtain ⟨e7, q7⟩ := ret_some hf5
  subst e7 q7 q6 q4 q2
  exact pop_sem r e2 e4 fun v H' r' hv => hh.sem L E F _ σ _ H' v d ρ1 _ r' hv e6 fun σ2 r2 _ => k σ2 F H' FStep.refl r2⟩
/-- x.extend(e), e a new list -/
def newL : RV → Option (List D)
  | .n ds => some ds
  | .b ds => some ds
  | _ => none
def sExt (i : Nat) (f : Env → M RV) : Env → M Out := fun ρ => bnd (lft (sApp.own? ρ i)) fun ds => bnd (f ρ) fun x => bnd (lft (newL x)) fun es => if ds.length + es.length ≤ 10000 then ret (.nx (ρ.set i (some (.o (ds ++ es))))) else fail
theorem sz_le {n : Nat} (h : n ≤ 10000) : n ≤ sizeLine := by
  rw [sizeLine_eq]; omega
theorem ds_extend {i : Nat} (he : ESem X.K R te f) (pe : PE X e (tBM X.K "list" rExtend (tVar i) (tCons te tNil))) (hs : swapsWith e none spos.line X.env = pure false := by rfl) :
    DS X R (.Expr e spos) (tDrop (tBM X.K "list" rExtend (tVar i) (tCons te tNil))) (sExt i f) := ⟨ps_expr pe hs, fun L E F ρ σ rs H o rs' D r hf k => by
  obtain ⟨ds, rs1, e1, hf1⟩ := bnd_some hf
  obtain ⟨e2, q2⟩ := lft_some e1
  subst q2
  obtain ⟨x, rs3, e3, hf3⟩ := bnd_some hf1
  obtain ⟨es, rs4, e4, hf4⟩ := bnd_some hf3
  obtain ⟨e5, q5⟩ := lft_some e4
  subst q5
  by_cases hl : ds.length + es.length ≤ 10000
  · rw [if_pos hl] at hf4
    obtain ⟨e6, q6⟩ := ret_some hf4
    subst e6 q6
    have eo := own_some e2
    obtain ⟨v, ev, a, vs, rfl, h1, h2, h3, h4, h5⟩ := r.sl i _ eo
    refine ⟨_, ev, .inl ⟨rfl, vs, .inl (.inl h1)⟩, ?_⟩
    refine he L E ρ σ F H _ x _ _ r e3 fun w F1 H1 s1 hw => ?_
    have r2 := r.step s1
    obtain ⟨v', ev', a', vs', ea, k1, k2, k3, k4, k5⟩ := r2.sl i _ eo
    rw [ev] at ev'
    cases ev'
    cases ea
    have hb : ∃ b ws, w = .ref b ∧ H1 b = some (.lst ws) ∧ DpAll X.K F1 ws es := by
      cases x with
      | n y =>
        cases e5
        obtain ⟨b, ws, z1, z2, _, _, _, z3⟩ := hw
        exact ⟨b, ws, z1, z2, z3⟩
      | b y =>
        cases e5
        obtain ⟨b, ws, z1, z2, _, z3⟩ := hw
        exact ⟨b, ws, z1, z2, z3⟩
      | d y => cases e5
      | gb y => cases e5
      | gn y => cases e5
      | row => cases e5
    obtain ⟨b, ws, rfl, g1, g2⟩ := hb
    refine ⟨a, b, vs', ws, rfl, rfl, k1, g1, by rw [k5.len, g2.len]; exact sz_le hl, ?_⟩
    exact k σ F1 _ (FStep.ofStep r s1) (r2.change eo ev (k5.append g2))
  · rw [if_neg hl] at hf4
    cases hf4⟩
/-- x.insert(e1, e2) -/
def rInsert : V → List V → Hp → VK → Prop := fun x vs H Q => ∃ (l : Addr) (xs : List V) (i : Int) (y : V), x = .ref l ∧ vs = [.int i, y] ∧ H l = some (.lst xs) ∧ xs.length < sizeLine ∧ 0 ≤ i ∧ i < 2 ^ 63 ∧
    Q .non (upd H l (.lst (xs.take i.toNat ++ [y] ++ xs.drop i.toNat)))
theorem mt_insertA : MtR X "list.insert" rInsert := mt_insert
def sIns (i : Nat) (f h : Env → M RV) : Env → M Out := fun ρ => bnd (lft (sApp.own? ρ i)) fun ds => bnd (f ρ) fun x => bnd (lft (asInt x)) fun j => bnd (h ρ) fun y => bnd (lft (toD y)) fun d =>
  if ds.length < 10000 ∧ 0 ≤ j ∧ j ≤ 10000 then ret (.nx (ρ.set i (some (.o (ds.take j.toNat ++ [d] ++ ds.drop j.toNat))))) else fail
theorem ds_insert {i : Nat} {te2 : TE} (hf1 : ESem X.K R te f) (hf2 : ESem X.K R te2 h) (pe : PE X e (tBM X.K "list" rInsert (tVar i) (tCons te (tCons te2 tNil)))) (hs : swapsWith e none spos.line X.env = pure false := by rfl) :
    DS X R (.Expr e spos) (tDrop (tBM X.K "list" rInsert (tVar i) (tCons te (tCons te2 tNil)))) (sIns i f h) := ⟨ps_expr pe hs, fun L E F ρ σ rs H o rs' D r hf k => by
  obtain ⟨ds, rs1, e1, g1⟩ := bnd_some hf
  obtain ⟨e2, q2⟩ := lft_some e1
  subst q2
  obtain ⟨x, rs3, e3, g3⟩ := bnd_some g1
  obtain ⟨j, rs4, e4, g4⟩ := bnd_some g3
  obtain ⟨e5, q5⟩ := lft_some e4
  subst q5
  obtain ⟨y, rs6, e6, g6⟩ := bnd_some g4
  obtain ⟨d, rs7, e7, g7⟩ := bnd_some g6
  obtain ⟨e8, q8⟩ := lft_some e7
  subst q8
  by_cases hl : ds.length < 10000 ∧ 0 ≤ j ∧ j ≤ 10000
  · rw [if_pos hl] at g7
    obtain ⟨e9, q9⟩ := ret_some g7
    subst e9 q9
    have eo := own_some e2
    obtain ⟨v, ev, a, vs, rfl, h1, h2, h3, h4, h5⟩ := r.sl i _ eo
    refine ⟨_, ev, .inl ⟨rfl, vs, .inl (.inl h1)⟩, ?_⟩
    refine hf1 L E ρ σ F H _ x _ _ r e3 fun w F1 H1 s1 hw => ?_
    have hwi := hw.int e5
    subst hwi
    have r1 := r.step s1
    refine hf2 L E ρ σ F1 H1 _ y _ _ r1 e6 fun w2 F2 H2 s2 hw2 => ?_
    obtain ⟨F3, s3, hd3⟩ := frozen1 r1 s2 hw2 e8
    have r3 := r1.step s3
    obtain ⟨v', ev', a', vs', ea, k1, k2, k3, k4, k5⟩ := r3.sl i _ eo
    rw [ev] at ev'
    cases ev'
    cases ea
    refine ⟨a, vs', j, w2, rfl, rfl, k1, by rw [k5.len]; exact sz_lt hl.1, hl.2.1, by have := hl.2.2; omega, ?_⟩
    exact k σ F3 _ (FStep.ofStep r (s1.trans r.row s3)) (r3.change eo ev (((DpAll.take _ k5).append (.cons hd3 .nil)).append (DpAll.drop _ k5)))
  · rw [if_neg hl] at g7
    cases g7⟩
theorem ds_extendF {i : Nat} {x : Str} {p1 : Pos} (he : DE X R e te f) (pe : PE X e te → PE X (.Call (.Attribute (.Name x p1) "extend" apos) [e] [] pos) (tBM X.K "list" rExtend (tVar i) (tCons te tNil))) (hs : swapsWith (.Call (.Attribute (.Name x p1) "extend" apos) [e] [] pos) none spos.line X.env = pure false := by rfl) :
    DS X R (.Expr (.Call (.Attribute (.Name x p1) "extend" apos) [e] [] pos) spos) (tDrop (tBM X.K "list" rExtend (tVar i) (tCons te tNil))) (sExt i f) := ds_extend he.sem (pe he.pe) hs
theorem ds_insertF {i : Nat} {x : Str} {p1 : Pos} {e2 : Expr} {te2 : TE} (he : DE X R e te f) (he2 : DE X R e2 te2 h) (pe : PE X e te → PE X e2 te2 → PE X (.Call (.Attribute (.Name x p1) "insert" apos) [e, e2] [] pos) (tBM X.K "list" rInsert (tVar i) (tCons te (tCons te2 tNil)))) (hs : swapsWith (.Call (.Attribute (.Name x p1) "insert" apos) [e, e2] [] pos) none spos.line X.env = pure false := by rfl) :
    DS X R (.Expr (.Call (.Attribute (.Name x p1) "insert" apos) [e, e2] [] pos) spos) (tDrop (tBM X.K "list" rInsert (tVar i) (tCons te (tCons te2 tNil)))) (sIns i f h) := ds_insert he.sem he2.sem (pe he.pe he2.pe) hs
end
end DV

/-! DV: reversed in a loop, tuple(reversed(list)), sorted(.., reverse=True) -/
namespace DV
open PySem L2 PyProof.Rows RT
section
variable {X : Cx} {K : PySem.W.Frag} {R : Option Addr} {L : Nat → Option (Addr × List V)} {E F F' H H' : Hp} {ρ ρ' : Env} {σ σ' : L2.St} {rs rs' : RS}
variable {tg e : Expr} {pos p p2 pos2 : Pos} {te : TE}
/-! ### tuple(reversed(list)) -/
def eTupRev (f : Env → M RV) : Env → M RV := fun ρ => bnd (f ρ) fun x => bnd (lft (itemsL x)) fun ds => ret (.d (.tuple ds.reverse))
theorem de_tupRev {f : Env → M RV} (hc : X.calm = true) (hg : Gl X "tuple") (hm : X.mg "tuple" = none) (hg2 : Gl X "reversed") (hm2 : X.mg "reversed" = none) (he : DE X R e te f)
    (hs : starEach [e] X.env = (false, eval e X.env) :: starEach [] X.env := by rfl)
    (hs2 : starEach [.Call (.Name "reversed" p2) [e] [] pos2] X.env = (false, eval (.Call (.Name "reversed" p2) [e] [] pos2) X.env) :: starEach [] X.env := by rfl) :
    DE X R (.Call (.Name "tuple" p) [.Call (.Name "reversed" p2) [e] [] pos2] [] pos) (tTupRev X.K te) (eTupRev f) := ⟨pe_tupRev hc hg hm hg2 hm2 he.pe hs hs2, fun L E ρ σ F H rs x0 rs' Q r hf kk => by
  obtain ⟨x, rs1, e1, hf1⟩ := bnd_some hf
  obtain ⟨ds, rs2, e2, hf2⟩ := bnd_some hf1
  obtain ⟨e3, q3⟩ := lft_some e2
  obtain ⟨e4, q4⟩ := ret_some hf2
  subst e4 q4 q3
  refine he.sem L E ρ σ F H rs x _ _ r e1 fun v F1 H1 s1 h1 => ?_
  have r1 := r.step s1
  obtain ⟨a, vs, rfl, g1, g2⟩ := VR.isLL r1.refl h1 e3
  refine ⟨a, vs, rfl, g1, fun q hq => ?_⟩
  have s2 := Step.new_tup (vs := vs.reverse) r1.refl hq
  exact kk _ _ _ (s1.trans r.row s2) (.tup (.inl (.inl upd_same)) (Dp.monoA s2.sub _ _ (DpAll.rev g2)))⟩
/-! ### for x in reversed(seq) -/
def iRevF (f : Env → M (List D × Option Nat)) : Env → M (List D × Option Nat) := fun ρ => bnd (f ρ) fun p => ret (p.1.reverse, p.2)
theorem walk_rt {a : Addr} {xs : List V} : Walk (ItvT K a xs.length) xs.length (fun H => SqT K H a xs) (fun i H x H' => H' = H ∧ xs[xs.length - 1 - i]? = some x) :=
  ⟨fun i _ hi q => ⟨hi, xs, xs[xs.length - 1 - i]'(by omega), q, by simp [show xs.length - 1 - i < xs.length by omega]⟩, fun _ _ => Nat.le_refl _, fun _ _ _ _ _ q y => ⟨y.1, y.2 xs q⟩⟩
theorem yRev_ok {vs : List V} {its : List D} (hd : DpAll K F' vs its) : YOk K F' its.reverse (fun i H x H' => H' = H ∧ vs[vs.length - 1 - i]? = some x) := fun i H1 v H2 F1 hi h1 h2 y => by
  obtain ⟨rfl, hv⟩ := y
  have hl := hd.len
  rw [List.length_reverse] at hi
  have hj : its.length - 1 - i < its.length := by omega
  have hx : its[its.length - 1 - i]? = some its[its.length - 1 - i] := List.getElem?_eq_getElem hj
  obtain ⟨w, hw, hdw⟩ := hd.get hx
  rw [hl] at hv
  rw [hv] at hw
  cases hw
  refine ⟨_, ?_, .inl ⟨rfl, Dp.mono h1 _ _ hdw⟩⟩
  rw [List.getElem?_reverse hi]
  exact hx
theorem di_rev {f : Env → M (List D × Option Nat)} (hgl : Gl X "reversed") (hm : X.mg "reversed" = none) (h : DSrc X R e te f) (hs : starEach [e] X.env = (false, eval e X.env) :: starEach [] X.env := by rfl) :
    DI X R tg (.Call (.Name "reversed" p) [e] [] pos) (iRevA X.K te) (iRevF f) := ⟨pi_revA hgl hm h.pe hs, fun L E ρ σ F H rs its lk rs' Rq r hf k => by
  obtain ⟨⟨xs, lk1⟩, rs1, e1, hf1⟩ := bnd_some hf
  obtain ⟨e2, q2⟩ := ret_some hf1
  cases e2
  subst q2
  refine h.sem L E ρ σ F H rs xs lk1 _ _ r e1 fun v F1 H1 s1 h1 => ?_
  obtain ⟨a, vs, kd, P, rfl, hd, pn, hG⟩ := h1.pin r
  have r1 := r.step s1
  have hq := hG H1 (fun b o q => (pn b o q).1) r1.fr
  have hl : xs.reverse.length = vs.length := by rw [List.length_reverse, hd.len]
  cases kd
  · refine ⟨a, vs, rfl, .inl ⟨hq, k _ F1 H1 s1 ⟨_, _, P, ?_, pn, hG, yRev_ok hd⟩⟩⟩
    rw [hl]
    exact walk_rev
  · refine ⟨a, vs, rfl, .inr ⟨hq, k _ F1 H1 s1 ⟨_, _, P, ?_, pn, hG, yRev_ok hd⟩⟩⟩
    rw [hl]
    exact walk_rt⟩
end
end DV
namespace SrtR
open PySem PyProof.Rows Srt SrtO
section
variable {prog : Program} {w : World} {A : Around} {E : Value → Shared → Prop} {s : Shared}
/-- sorted of a tuple, reverse -/
theorem sorted_ordTR {l : Addr} {vs : List Value} {ltv : Value → Value → Bool} {Q : Value → Shared → Prop} (O : Swo ltv) (hl : s.heap.IsTuple l vs.toArray) (hz : vs.length ≤ sizeLine)
    (hS : 2 ≤ vs.length → ∀ (h₁ : Heap) (a : Addr), h₁.get? a = some (seqObj "list" vs.toArray 0) → SortableO prog w A.in1.in1 { s with heap := h₁ } a vs ltv)
    (h : ∀ (out : List Value) (h' : Heap) (p : Addr), Srtd ltv out → Stb ltv out vs.reverse → (∀ b o, s.heap.get? b = some o → b < p ∧ h'.get? b = some o) → (∃ e, h'.get? p = some (seqObj "list" out.toArray.reverse e)) → Q (.ref p) { s with heap := h' }) :
    wpAny (model prog w) A (call (.builtin "sorted") [.ref l] [(Str.ofString "reverse", .bool true)]) Q E s := by
  refine call_function_entry_kw kind_sorted plain_sorted entry_sorted (args_sorted_rev _ _) ?_
  unfold Builtin.«sorted»
  refine wpAny_bind (m := checkCount "sorted" 1 1 _) (wpAny_pure ?_)
  obtain ⟨o, ho, hc, n, hd⟩ := hl
  refine wpAny_bind (wpAny_collect_seq l (.inr rfl) ho hc hd (fun h' k => ?_) (by simpa using hz))
  refine wpAny_bind (wpAny_newList ?_ hz)
  have hoL : (h'.push (seqObj "list" vs.toArray 0)).get? h'.objs.size = some (seqObj "list" vs.toArray 0) := Heap.get?_push_size _ rfl
  have keep : ∀ b u, s.heap.get? b = some u → b < h'.objs.size ∧ (h'.push (seqObj "list" vs.toArray 0)).get? b = some u := fun b u q => ⟨Heap.lt_size (k b u q), Heap.get?_push_of_some _ (k b u q)⟩
  show wpAny _ _ _ _ _ { s with heap := h'.push (seqObj "list" vs.toArray 0) }
  refine wpAny_bind (wpAny_holding (wpAny_call_entry_kw slot_list_sort ⟨_, hoL, rfl⟩ entry_list_sort ?_ (args_list_sort_rev _ _)))
  refine list_sort_ordR O hoL hz (fun h2 => hS h2 _ _ hoL) fun out hs hb => ⟨_, rfl, ?_⟩
  refine wpAny_pure ⟨_, rfl, ?_⟩
  refine h out _ h'.objs.size hs hb (fun b u q => ⟨(keep b u q).1, ?_⟩) (sortedHeap_at (n := 0) hoL)
  have hlt := (keep b u q).1
  rw [sortedHeap_old (Nat.ne_of_lt hlt) (by rw [size_push']; exact Nat.lt_succ_of_lt hlt)]
  exact (keep b u q).2
end
end SrtR
namespace DV
open PySem L2 PyProof.Rows SrtR
def rSortRevA (K : PySem.W.Frag) : List V → List V → Hp → VK → Prop := fun vs zs H Q => ∃ (a : Addr) (ns : List Int), vs = [V.ref a] ∧ zs = [V.bl true] ∧ (SqL K H a (ns.map V.int) ∨ SqT K H a (ns.map V.int)) ∧
  ∀ p : Addr, H p = none → Q (.ref p) (upd H p (.lst ((sortI ns).reverse.map V.int)))
theorem down_uniq {ns ns' : List Int} (h1 : ns'.Perm ns) (h2 : ns'.Pairwise (· ≥ ·)) : ns' = (sortI ns).reverse := by
  have e : ns'.reverse = sortI ns := sorted_uniq (((List.reverse_perm _).trans h1).trans (sortI_perm ns).symm) (by rw [List.pairwise_reverse]; exact h2) (sortI_sorted ns)
  rw [← e, List.reverse_reverse]
theorem cr_sortRevA {X : Cx} : CallRK X (.builtin "sorted") [Str.ofString "reverse"] (rSortRevA X.K) := by
  intro pins s σ H vs zs us ws Q I r rz h
  obtain ⟨a, ns, rfl, rfl, hs, q⟩ := h
  rcases hs with hs | hs
  · exact cr_sortedRev (b := true) pins s σ H [V.ref a] [V.bl true] us ws Q I r rz ⟨a, ns, rfl, rfl, hs, fun ns' p h1 h2 hp => by
      rw [down_uniq h1 h2]
      exact q p hp⟩
  · obtain ⟨its, rv, hl, hz⟩ := I.tuple hs
    rw [Vals.ref1 r]
    obtain ⟨w1, rfl, e1⟩ := vals1 rz
    obtain rfl : w1 = Value.bool true := e1
    have hi := rv.ints
    refine sorted_ordTR SrtO.swo_int hl (by rw [← rv.length]; exact hz) (fun h2 h₁ a' _ => SrtO.ints_sortable hi h2) fun out h' p h1 h2 kp ⟨e, he⟩ => ?_
    obtain ⟨ns', k1, k2, k3⟩ := SrtR.ints_outR (b := true) hi h1 h2
    have e2 : ns' = (sortI ns).reverse := down_uniq k2 k3
    rw [e2] at k1 k2
    have hlen : ((sortI ns).reverse.map V.int).length ≤ sizeLine := by
      rw [List.length_map, k2.length_eq]
      rw [List.length_map] at hz
      exact hz
    have hg : s.heap.get? p = none := by
      cases q : s.heap.get? p with
      | none => rfl
      | some u => exact absurd (kp p u q).1 (Nat.lt_irrefl _)
    have hn := I.hok.gone hg
    have k1' : IntsAre (out.toArray.reverse).toList (sortI ns).reverse := k1
    exact ⟨.ref p, upd H p (.lst ((sortI ns).reverse.map V.int)), I.laidN (t' := s.toks) (fun b o e => (kp b o e).2) hg hn ⟨hlen, _, _, vals_of_ints k1', by rw [Array.toArray_toList]; exact he⟩, rfl, q _ hn⟩
section
variable {X : Cx} {K : PySem.W.Frag} {R : Option Addr} {e : Expr} {pos p p2 kpos : Pos} {te : TE}
def eSortRev (f : Env → M RV) : Env → M RV := fun ρ => bnd (f ρ) fun x => bnd (lft (items x)) fun ds => bnd (lft (intsOf ds)) fun js => ret (.n ((sortI js).reverse.map PyData.int))
theorem de_sortRev {f : Env → M RV} {j} (hg : Gl X "sorted") (hm : X.mg "sorted" = none) (he : DE X R e te f)
    (hs : starEach [e] X.env = (false, eval e X.env) :: starEach [] X.env := by rfl)
    (he1 : backTo pos (starEach [e] X.env) = (false, eval e X.env) :: backTo pos (starEach [] X.env) := by rfl) (hpl : (backTo pos (starEach [e] X.env)).any (·.1) = false := by rfl) :
    DE X R (.Call (.Name "sorted" p) [e] [⟨some "reverse", .Constant (.bool true) j p2, kpos⟩] pos) (tCKw (rSortRevA X.K) (tCons te tNil) (tCons (tC (.bl true)) tNil)) (eSortRev f) :=
  ⟨pe_callBK cr_sortRevA hg hm boot_sorted (pa_cons he.pe pa_nil hs) (pk_cons pe_bl pk_nil) (by decide) (by decide) he1 hpl, fun L E ρ σ F H rs x0 rs' Q r hf kk => by
  obtain ⟨x, rs1, e1, hf1⟩ := bnd_some hf
  obtain ⟨ds, rs2, e2, hf2⟩ := bnd_some hf1
  obtain ⟨e3, q3⟩ := lft_some e2
  subst q3
  obtain ⟨js, rs4, e4, hf4⟩ := bnd_some hf2
  obtain ⟨e5, q5⟩ := lft_some e4
  obtain ⟨e6, q6⟩ := ret_some hf4
  subst e6 q6 q5
  refine he.sem L E ρ σ F H rs x _ _ r e1 fun v F1 H1 s1 h1 => ?_
  have r1 := r.step s1
  obtain ⟨a, ws, rfl, g1, g2⟩ := h1.items r1.refl e3
  have hw := g2.intsV e5
  subst hw
  refine ⟨a, js, rfl, rfl, g1, fun l hl => ?_⟩
  obtain ⟨s4, hF, hR⟩ := Step.new_lst (vs := (sortI js).reverse.map V.int) r1.refl hl
  exact kk _ F1 _ (s1.trans r.row s4) ⟨l, _, rfl, upd_same, s1.back r.row hl, hF, hR, DpAll.ofInts _⟩⟩
end
end DV

/-! DV: dicts whose keys are ints, or tuples (nested, of ints and None): what the heap does -/
namespace DV
open PySem L2 PyProof.Rows
/-! ### keys -/
mutual
theorem hash_any (w w' : World) : ∀ (d : D) (k : NestedKey), nk d = some k → k.hash w = k.hash w'
  | .none, _, h => by cases h; rfl
  | .int _, _, h => by cases h; rfl
  | .tuple ds, _, h => by
    unfold nk at h
    cases e : nkA ds with
    | none => rw [e] at h; cases h
    | some ks =>
      rw [e] at h
      cases h
      unfold NestedKey.hash
      rw [hashes_any w w' ds ks e]
  | .bool _, _, h => by cases h
  | .str _, _, h => by cases h
  | .list _, _, h => by cases h
  | .dict _, _, h => by cases h
theorem hashes_any (w w' : World) : ∀ (ds : List D) (ks : List NestedKey), nkA ds = some ks → NestedKey.hashes w ks = NestedKey.hashes w' ks
  | [], _, h => by cases h; rfl
  | d :: ds, _, h => by
    unfold nkA at h
    cases e1 : nk d with
    | none => rw [e1] at h; cases h
    | some k =>
      cases e2 : nkA ds with
      | none => rw [e1, e2] at h; cases h
      | some ks =>
        rw [e1, e2] at h
        cases h
        unfold NestedKey.hashes
        rw [hash_any w w' d k e1, hashes_any w w' ds ks e2]
end
section
variable {X : Cx} {pins : List (Addr × Obj)} {σ : L2.St} {H : Hp} {s : Shared}
mutual
theorem nestedV (I : Inv X pins σ H s) : ∀ (d : D) (v : V) (u : Value) (k : NestedKey), Dp X.K H v d → L2.RelV v u → nk d = some k → NestedIs s.heap k u
  | .none, _, u, _, hd, r, h => by
    cases h; cases hd
    obtain rfl : u = Value.none := r
    exact .none
  | .int i, _, u, _, hd, r, h => by
    cases h; cases hd
    obtain ⟨t, rfl⟩ := (show ∃ t, u = Value.int i t from r)
    exact .int i t
  | .tuple ds, _, u, _, hd, r, h => by
    unfold nk at h
    cases e : nkA ds with
    | none => rw [e] at h; cases h
    | some ks =>
      rw [e] at h
      cases h
      cases hd with
      | @tup a vs _ h1 h2 =>
        obtain rfl : u = Value.ref a := r
        obtain ⟨its, rv, hp, _⟩ := I.tuple h1
        obtain ⟨o, ho, hc, n, hdat⟩ := hp
        exact .tup ho hc hdat (nestedA I ds vs its ks h2 rv e)
  | .bool _, _, _, _, _, _, h => by cases h
  | .str _, _, _, _, _, _, h => by cases h
  | .list _, _, _, _, _, _, h => by cases h
  | .dict _, _, _, _, _, _, h => by cases h
theorem nestedA (I : Inv X pins σ H s) : ∀ (ds : List D) (vs : List V) (us : List Value) (ks : List NestedKey), DpAll X.K H vs ds → Vals vs us → nkA ds = some ks → NestedAll s.heap ks us
  | [], _, _, _, hd, r, h => by
    cases h; cases hd; cases r
    exact .nil
  | d :: ds, _, _, _, hd, r, h => by
    unfold nkA at h
    cases e1 : nk d with
    | none => rw [e1] at h; cases h
    | some k =>
      cases e2 : nkA ds with
      | none => rw [e1, e2] at h; cases h
      | some ks =>
        rw [e1, e2] at h
        cases h
        cases hd with
        | cons h1 h2 =>
          cases r with
          | cons r1 r2 => exact .cons (nestedV I d _ _ k h1 r1 e1) (nestedA I ds _ _ ks h2 r2 e2)
end
end
/-- may stand as a key -/
def keyOk (t : Bool) (d : D) : Bool := match t, d with
  | false, .int _ => true
  | true, .tuple ds => match nkA ds with
    | some ks => decide ((NestedKey.tup ks).depth ≤ 8)
    | none => false
  | _, _ => false
theorem keyOk_int {d : D} (h : keyOk false d = true) : ∃ i, d = .int i := by
  cases d with
  | int i => exact ⟨i, rfl⟩
  | _ => cases h
theorem keyOk_tup {d : D} (h : keyOk true d = true) : ∃ ds k, d = .tuple ds ∧ nk d = some k ∧ k.depth ≤ 8 := by
  cases d with
  | tuple ds =>
    have h' : (match nkA ds with | some ks => decide ((NestedKey.tup ks).depth ≤ 8) | none => false) = true := h
    cases e : nkA ds with
    | none => rw [e] at h'; cases h'
    | some ks =>
      rw [e] at h'
      refine ⟨ds, .tup ks, rfl, ?_, of_decide_eq_true h'⟩
      unfold nk
      rw [e]
  | _ => cases h
/-- what the dict holds at the key -/
def lookK (kv : List (D × D)) (k : Option NestedKey) : Option D := (kv.find? fun q => decide (nk q.1 = k)).map (·.2)
/-- a pair more, or another value -/
def putD (kv : List (D × D)) (kd vd : D) : List (D × D) := if (lookK kv (nk kd)).isSome = true then kv.map fun q => if nk q.1 = nk kd then (q.1, vd) else q else kv ++ [(kd, vd)]
abbrev EntR (K : PySem.W.Frag) (F : Hp) : NestedKey × Addr × V → D × D → Prop := fun x q => nk q.1 = some x.1 ∧ x.1.depth ≤ 8 ∧ Dp K F (.ref x.2.1) q.1 ∧ Dp K F x.2.2 q.2
abbrev EntV : NestedKey × Addr × V → NestedKey × Addr × Value → Prop := fun p q => p.1 = q.1 ∧ p.2.1 = q.2.1 ∧ L2.RelV p.2.2 q.2.2
section
variable {K : PySem.W.Frag} {F : Hp}
theorem look_int {i : Int} : ∀ {ks : List (Int × V)} {kv : List (D × D)}, Paired (fun (p : Int × V) (q : D × D) => q.1 = .int p.1 ∧ Dp K F p.2 q.2) ks kv →
    match lookK kv (nk (.int i)), valV (ks.map fun p => ((.inl p.1 : Key), p.2)) (.inl i) with
    | some d, some v => Dp K F v d
    | none, none => True
    | _, _ => False
  | _, _, .nil => trivial
  | p :: ks, q :: kv, .cons h t => by
    obtain ⟨e1, h2⟩ := h
    by_cases hi : p.1 = i
    · have e2 : lookK (q :: kv) (nk (.int i)) = some q.2 := by
        unfold lookK
        rw [List.find?_cons_of_pos (by rw [e1, hi]; exact decide_eq_true rfl)]
        rfl
      have e3 : valV ((p :: ks).map fun p => ((.inl p.1 : Key), p.2)) (.inl i) = some p.2 := valV_pos (show (Sum.inl p.1 : Key) = .inl i by rw [hi])
      rw [e2, e3]
      exact h2
    · have e2 : lookK (q :: kv) (nk (.int i)) = lookK kv (nk (.int i)) := by
        unfold lookK
        rw [List.find?_cons_of_neg (by rw [e1]; exact fun z => hi (by have := of_decide_eq_true z; unfold nk at this; cases this; rfl))]
      have e3 : valV ((p :: ks).map fun p => ((.inl p.1 : Key), p.2)) (.inl i) = valV (ks.map fun p => ((.inl p.1 : Key), p.2)) (.inl i) := valV_neg fun z => hi (by cases z; rfl)
      rw [e2, e3]
      exact look_int t
theorem look_tup {k : NestedKey} : ∀ {xs : List (NestedKey × Addr × V)} {ys : List (NestedKey × Addr × Value)} {kv : List (D × D)}, Paired EntV xs ys → Paired (EntR K F) xs kv →
    match lookK kv (some k), atKey ys k with
    | some d, some p => ∃ v, L2.RelV v p.2 ∧ Dp K F v d
    | none, none => True
    | _, _ => False
  | _, _, _, .nil, .nil => trivial
  | x :: xs, y :: ys, q :: kv, .cons h t, .cons g u => by
    obtain ⟨e1, e2, e3⟩ := h
    obtain ⟨g1, g2, g3, g4⟩ := g
    by_cases hk : x.1 = k
    · have a1 : lookK (q :: kv) (some k) = some q.2 := by
        unfold lookK
        rw [List.find?_cons_of_pos (by rw [g1, hk]; exact decide_eq_true rfl)]
        rfl
      have a2 : atKey (y :: ys) k = some y.2 := by
        unfold atKey
        rw [List.find?_cons_of_pos (by rw [← e1, hk]; exact decide_eq_true rfl)]
        rfl
      rw [a1, a2]
      exact ⟨_, e3, g4⟩
    · have a1 : lookK (q :: kv) (some k) = lookK kv (some k) := by
        unfold lookK
        rw [List.find?_cons_of_neg (by rw [g1]; exact fun z => hk (Option.some.inj (of_decide_eq_true z)))]
      have a2 : atKey (y :: ys) k = atKey ys k := by
        unfold atKey
        rw [List.find?_cons_of_neg (by rw [← e1]; exact fun z => hk (of_decide_eq_true z))]
      rw [a1, a2]
      exact look_tup t u
end
section
variable {X : Cx} {pins : List (Addr × Obj)} {σ : L2.St} {H F : Hp} {s : Shared} {a : Addr} {u : HO} {c : DC} {y : V} {kd vd : D} {uy : Value} {A : Around} {E : Value → Shared → Prop}
/-- the dict with keys that are tuples, in the heap -/
theorem dc_heap (I : Inv X pins σ H s) {xs : List (NestedKey × Addr × V)} {kv : List (D × D)} (e : Rd H a (dcO a xs)) (hF : ∀ a o, F a = some o → H a = some o) (hp : Paired (EntR X.K F) xs kv) :
    (a == sysModules) = false ∧ xs.length ≤ sizeLine ∧ ∃ ys, Paired EntV xs ys ∧ s.heap.DictOfH (nestedKind X.prog X.w) a ys := by
  obtain ⟨⟨h1, h2, h3, o, es, ep, ys, h4, h5, h6, h7, h8⟩, _⟩ := e.ok I.hok
  refine ⟨h1, h2, ys, h7, o, es, ep, h4, h5, h6, h8 X.w, ?_, ?_⟩
  · have go : ∀ {xs : List (NestedKey × Addr × V)} {ys : List (NestedKey × Addr × Value)} {kv : List (D × D)}, Paired EntV xs ys → Paired (EntR X.K F) xs kv → ∀ z ∈ ys, (nestedKind X.prog X.w).is s.heap z.1 z.2.1 := fun {xs} => by
      induction xs with
      | nil =>
        intro ys kv p q z hz
        cases p
        cases hz
      | cons x xs ih =>
        intro ys kv p q z hz
        cases p with
        | cons p1 p2 =>
          cases q with
          | cons q1 q2 =>
            rcases List.mem_cons.mp hz with ez | hz
            · subst ez
              obtain ⟨e1, e2, _⟩ := p1
              obtain ⟨g1, g2, g3, _⟩ := q1
              rw [← e1, ← e2]
              exact ⟨nestedV I _ _ _ _ (Dp.mono hF _ _ g3) rfl g1, g2⟩
            · exact ih p2 q2 z hz
    exact go h7 hp
  · have go : ∀ {xs : List (NestedKey × Addr × V)} {ys : List (NestedKey × Addr × Value)}, Paired EntV xs ys → xs.map (·.1) = ys.map (·.1) := fun {xs} => by
      induction xs with
      | nil => intro ys p; cases p; rfl
      | cons x xs ih =>
        intro ys p
        cases p with
        | cons p1 p2 => rw [List.map_cons, List.map_cons, p1.1, ih p2]
    rw [← go h7]
    exact h3
theorem key_at (I : Inv X pins σ H s) (hy : Dp X.K H y kd) (hk : keyOk true kd = true) (ry : L2.RelV y uy) : ∃ b k, uy = .ref b ∧ y = .ref b ∧ nk kd = some k ∧ (nestedKind X.prog X.w).is s.heap k b := by
  obtain ⟨ds, k, rfl, h1, h2⟩ := keyOk_tup hk
  cases hy with
  | @tup b vs _ q1 q2 =>
    obtain rfl : uy = Value.ref b := ry
    exact ⟨b, k, rfl, rfl, h1, nestedV I _ _ _ _ (Dp.tup q1 q2) rfl h1, h2⟩
theorem g_typeIs (I : Inv X pins σ H s) (e : Rd H a u) (hF : ∀ a o, F a = some o → H a = some o) (R : DictR X.K F a u c) : s.TypeIs (.ref a) "dict" ∧ (∀ b, Value.ref a = .ref b → ∃ ob, s.heap.get? b = some ob ∧ ob.dict = none) ∧ (a == sysModules) = false := by
  unfold DictR at R
  cases q : c.t with
  | false =>
    rw [q] at R
    obtain ⟨ks, rfl, _, _⟩ := R
    exact isD_at I (.inl ⟨_, e⟩)
  | true =>
    rw [q] at R
    obtain ⟨xs, rfl, hp⟩ := R
    obtain ⟨h1, _, ys, _, dd⟩ := dc_heap I e hF hp
    refine ⟨dd.typeIs, fun b eb => ?_, h1⟩
    cases eb
    obtain ⟨o, _, _, g1, g2, _⟩ := dd
    exact ⟨o, g1, g2.2.1⟩
theorem g_getItem {Q : Value → Shared → Prop} (hu : A.units + 9 < cLine) (I : Inv X pins σ H s) (e : Rd H a u) (hF : ∀ a o, F a = some o → H a = some o) (R : DictR X.K F a u c) (hy : Dp X.K H y kd) (hk : keyOk c.t kd = true) (ry : L2.RelV y uy)
    (l : lookK c.kv (nk kd) = some vd) (h : ∀ v w' s', Inv X pins σ H s' → L2.RelV v w' → Dp X.K F v vd → Q w' s') : wpAny (model X.prog X.w) A (getItem (.ref a) uy) Q E s := by
  unfold DictR at R
  cases q : c.t with
  | false =>
    rw [q] at R hk
    obtain ⟨ks, rfl, _, hp⟩ := R
    obtain ⟨i, rfl⟩ := keyOk_int hk
    cases hy
    have z := look_int (i := i) hp
    rw [l] at z
    cases e3 : valV (ks.map fun p => ((.inl p.1 : Key), p.2)) (.inl i) with
    | none => rw [e3] at z; exact z.elim
    | some v =>
      rw [e3] at z
      exact d_getItem (by omega) I (.inl ⟨_, .inl i, e, rfl, e3.symm⟩) ry fun w' s' I' rw' => h v w' s' I' rw' z
  | true =>
    rw [q] at R hk
    obtain ⟨xs, rfl, hp⟩ := R
    obtain ⟨h1, _, ys, hv, dd⟩ := dc_heap I e hF hp
    obtain ⟨b, k, rfl, rfl, ek, hkey⟩ := key_at I hy hk ry
    rw [ek] at l
    have z := look_tup (k := k) hv hp
    rw [l] at z
    cases e3 : atKey ys k with
    | none => rw [e3] at z; exact z.elim
    | some p =>
      rw [e3] at z
      obtain ⟨v, r1, r2⟩ := z
      exact wpAny_getItem_heap (show A.in1.units + 8 < cLine by show A.units + 1 + 8 < cLine; omega) hkey dd e3 (h v p.2 _ (I.tok _) r1 r2)
theorem g_in {Q : Value → Shared → Prop} (hu : A.units + 9 < cLine) (I : Inv X pins σ H s) (e : Rd H a u) (hF : ∀ a o, F a = some o → H a = some o) (R : DictR X.K F a u c) (hy : Dp X.K H y kd) (hk : keyOk c.t kd = true) (ry : L2.RelV y uy)
    (h : ∀ s', Inv X pins σ H s' → Q (.bool (lookK c.kv (nk kd)).isSome) s') : wpAny (model X.prog X.w) A (compareOp .In uy (.ref a)) Q E s := by
  unfold DictR at R
  cases q : c.t with
  | false =>
    rw [q] at R hk
    obtain ⟨ks, rfl, _, hp⟩ := R
    obtain ⟨i, rfl⟩ := keyOk_int hk
    cases hy
    have z := look_int (i := i) hp
    refine d_in (by omega) I (.inl ⟨_, .inl i, e, rfl, rfl⟩) ry fun s' I' => ?_
    have e2 : (valV (ks.map fun p => ((.inl p.1 : Key), p.2)) (.inl i)).isSome = (lookK c.kv (nk (.int i))).isSome := by
      cases e3 : valV (ks.map fun p => ((.inl p.1 : Key), p.2)) (.inl i) <;> cases e4 : lookK c.kv (nk (.int i)) <;> rw [e3, e4] at z <;> first | rfl | exact z.elim
    rw [e2]
    exact h s' I'
  | true =>
    rw [q] at R hk
    obtain ⟨xs, rfl, hp⟩ := R
    obtain ⟨h1, _, ys, hv, dd⟩ := dc_heap I e hF hp
    obtain ⟨b, k, rfl, rfl, ek, hkey⟩ := key_at I hy hk ry
    have z := look_tup (k := k) hv hp
    refine wpAny_in_heap (show A.in1.units + 8 < cLine by show A.units + 1 + 8 < cLine; omega) hkey h1 dd ?_
    have e2 : (atKey ys k).isSome = (lookK c.kv (some k)).isSome := by
      cases e3 : atKey ys k <;> cases e4 : lookK c.kv (some k) <;> rw [e3, e4] at z <;> first | rfl | exact z.elim
    rw [e2, ← ek]
    exact h _ (I.tok _)
theorem g_notIn {Q : Value → Shared → Prop} (hu : A.units + 9 < cLine) (I : Inv X pins σ H s) (e : Rd H a u) (hF : ∀ a o, F a = some o → H a = some o) (R : DictR X.K F a u c) (hy : Dp X.K H y kd) (hk : keyOk c.t kd = true) (ry : L2.RelV y uy)
    (h : ∀ s', Inv X pins σ H s' → Q (.bool (!(lookK c.kv (nk kd)).isSome)) s') : wpAny (model X.prog X.w) A (compareOp .NotIn uy (.ref a)) Q E s := by
  unfold DictR at R
  cases q : c.t with
  | false =>
    rw [q] at R hk
    obtain ⟨ks, rfl, _, hp⟩ := R
    obtain ⟨i, rfl⟩ := keyOk_int hk
    cases hy
    have z := look_int (i := i) hp
    refine d_notIn (by omega) I (.inl ⟨_, .inl i, e, rfl, rfl⟩) ry fun s' I' => ?_
    have e2 : (valV (ks.map fun p => ((.inl p.1 : Key), p.2)) (.inl i)).isSome = (lookK c.kv (nk (.int i))).isSome := by
      cases e3 : valV (ks.map fun p => ((.inl p.1 : Key), p.2)) (.inl i) <;> cases e4 : lookK c.kv (nk (.int i)) <;> rw [e3, e4] at z <;> first | rfl | exact z.elim
    rw [e2]
    exact h s' I'
  | true =>
    rw [q] at R hk
    obtain ⟨xs, rfl, hp⟩ := R
    obtain ⟨h1, _, ys, hv, dd⟩ := dc_heap I e hF hp
    obtain ⟨b, k, rfl, rfl, ek, hkey⟩ := key_at I hy hk ry
    have z := look_tup (k := k) hv hp
    refine wpAny_notIn_heap (show A.in1.units + 8 < cLine by show A.units + 1 + 8 < cLine; omega) hkey h1 dd ?_
    have e2 : (atKey ys k).isSome = (lookK c.kv (some k)).isSome := by
      cases e3 : atKey ys k <;> cases e4 : lookK c.kv (some k) <;> rw [e3, e4] at z <;> first | rfl | exact z.elim
    rw [e2, ← ek]
    exact h _ (I.tok _)
/-- d.get(k, x) -/
theorem g_get2 {Q : Value → Shared → Prop} {r : Value} (hu : A.units + 9 < cLine) (I : Inv X pins σ H s) (e : Rd H a u) (hF : ∀ a o, F a = some o → H a = some o) (R : DictR X.K F a u c) (hy : Dp X.K H y kd) (hk : keyOk c.t kd = true) (ry : L2.RelV y uy)
    (h1 : ∀ vd v w' s', lookK c.kv (nk kd) = some vd → Inv X pins σ H s' → L2.RelV v w' → Dp X.K F v vd → Q w' s') (h2 : ∀ s', lookK c.kv (nk kd) = none → Inv X pins σ H s' → Q r s') :
    wpAny (model X.prog X.w) A (call (.builtin "dict.get") [.ref a, uy, r]) Q E s := by
  unfold DictR at R
  cases q : c.t with
  | false =>
    rw [q] at R hk
    obtain ⟨ks, rfl, _, hp⟩ := R
    obtain ⟨i, rfl⟩ := keyOk_int hk
    cases hy
    have z := look_int (i := i) hp
    obtain ⟨zz, hd, vs, rel, dd⟩ := dk_rd I.hok e
    refine call_meetsIn PySem.F.slot_dict_get dd.typeIs PySem.F.entry_dict_get (PySem.F.args_dict_get_3 _ _ _) (meets_dict_get_default (mixKind X.prog X.w) a (kV_is (k := .inl i) ry) hd r) ⟨_, dd.mapOf, ?_⟩
    have rv := rel.val (.inl i)
    cases e3 : valV (ks.map fun p => ((.inl p.1 : Key), p.2)) (.inl i) with
    | none =>
      rw [e3] at z rv
      cases e4 : lookK c.kv (nk (.int i)) with
      | some _ => rw [e4] at z; exact z.elim
      | none =>
        have e5 : valueAt vs (.inl i) = none := RelO.none_of rv
        rw [e5]
        exact h2 _ e4 (I.tok _)
    | some v =>
      rw [e3] at z rv
      cases e4 : lookK c.kv (nk (.int i)) with
      | none => rw [e4] at z; exact z.elim
      | some vd =>
        rw [e4] at z
        obtain ⟨w', hw, rw'⟩ := RelO.some_of rv
        rw [hw]
        exact h1 vd v w' _ e4 (I.tok _) rw' z
  | true =>
    rw [q] at R hk
    obtain ⟨xs, rfl, hp⟩ := R
    obtain ⟨hd, _, ys, hv, dd⟩ := dc_heap I e hF hp
    obtain ⟨b, k, rfl, rfl, ek, hkey⟩ := key_at I hy hk ry
    have z := look_tup (k := k) hv hp
    refine call_meetsIn PySem.F.slot_dict_get dd.typeIs PySem.F.entry_dict_get (PySem.F.args_dict_get_3 _ _ _) (meetsH_dict_get_default (nestedKind X.prog X.w) a b hd r) ⟨show A.in1.units + 8 < cLine by show A.units + 1 + 8 < cLine; omega, k, ys, hkey, dd, ?_⟩
    cases e3 : atKey ys k with
    | none =>
      rw [e3] at z
      cases e4 : lookK c.kv (some k) with
      | some _ => rw [e4] at z; exact z.elim
      | none => exact h2 _ (by rw [ek]; exact e4) (I.tok _)
    | some p =>
      rw [e3] at z
      cases e4 : lookK c.kv (some k) with
      | none => rw [e4] at z; exact z.elim
      | some vd =>
        rw [e4] at z
        obtain ⟨v, r1, r2⟩ := z
        exact h1 vd v p.2 _ (by rw [ek]; exact e4) (I.tok _) r1 r2
end
end DV

/-! DV: dicts: a value put, a new dict, what names know -/
namespace DV
open PySem L2 PyProof.Rows LamX
/-! ### putting -/
section
variable {K : PySem.W.Frag} {F : Hp}
theorem Paired.map2 {α β α' β' : Type} {f : α → β → Prop} {g : α' → β' → Prop} {m : α → α'} {n : β → β'} : ∀ {xs : List α} {ys : List β}, Paired f xs ys → (∀ x y, f x y → g (m x) (n y)) → Paired g (xs.map m) (ys.map n)
  | _, _, .nil, _ => .nil
  | _, _, .cons h t, k => .cons (k _ _ h) (Paired.map2 t k)
theorem Paired.app {α β : Type} {f : α → β → Prop} : ∀ {xs : List α} {ys : List β} {xs2 : List α} {ys2 : List β}, Paired f xs ys → Paired f xs2 ys2 → Paired f (xs ++ xs2) (ys ++ ys2)
  | _, _, _, _, .nil, h => h
  | _, _, _, _, .cons h t, k => .cons h (Paired.app t k)
theorem Paired.len {α β : Type} {f : α → β → Prop} : ∀ {xs : List α} {ys : List β}, Paired f xs ys → xs.length = ys.length
  | _, _, .nil => rfl
  | _, _, .cons _ t => congrArg (· + 1) (Paired.len t)
theorem put_int {i : Int} {v : V} {vd : D} {ks : List (Int × V)} {kv : List (D × D)} (hn : (ks.map (·.1)).Nodup) (hp : Paired (fun (p : Int × V) (q : D × D) => q.1 = .int p.1 ∧ Dp K F p.2 q.2) ks kv) (hv : Dp K F v vd) :
    ∃ ks2 : List (Int × V), putK (ks.map fun p => ((.inl p.1 : Key), p.2)) (.inl i) v = (ks2.map fun p => ((.inl p.1 : Key), p.2)) ∧ (ks2.map (·.1)).Nodup ∧ Paired (fun (p : Int × V) (q : D × D) => q.1 = .int p.1 ∧ Dp K F p.2 q.2) ks2 (putD kv (.int i) vd) := by
  have z := look_int (i := i) hp
  have any : ((ks.map fun p => ((.inl p.1 : Key), p.2)).any fun kv => decide (kv.1 = .inl i)) = (lookK kv (nk (.int i))).isSome := by
    rw [valV_any]
    cases e3 : valV (ks.map fun p => ((.inl p.1 : Key), p.2)) (.inl i) <;> cases e4 : lookK kv (nk (.int i)) <;> rw [e3, e4] at z <;> first | rfl | exact z.elim
  unfold putK putD
  rw [any]
  by_cases hs : (lookK kv (nk (.int i))).isSome = true
  · rw [if_pos hs, if_pos hs]
    refine ⟨ks.map fun p => if p.1 = i then (p.1, v) else p, ?_, ?_, Paired.map2 hp fun x y h => ?_⟩
    · rw [List.map_map, List.map_map]
      refine List.map_congr_left fun p _ => ?_
      by_cases hi : p.1 = i
      · simp [hi]
      · simp [hi]
    · rw [List.map_map]
      have : (fun x : Int × V => x.1) ∘ (fun p : Int × V => if p.1 = i then (p.1, v) else p) = fun x => x.1 := by
        funext p
        by_cases hi : p.1 = i <;> simp [hi]
      rw [this]
      exact hn
    · obtain ⟨e1, e2⟩ := h
      by_cases hi : x.1 = i
      · rw [if_pos hi, if_pos (by rw [e1, hi])]
        exact ⟨by rw [e1], hv⟩
      · rw [if_neg hi, if_neg (by rw [e1]; intro q; unfold nk at q; cases q; exact hi rfl)]
        exact ⟨e1, e2⟩
  · rw [if_neg hs, if_neg hs]
    refine ⟨ks ++ [(i, v)], by rw [List.map_append]; rfl, ?_, Paired.app hp (.cons ⟨rfl, hv⟩ .nil)⟩
    rw [List.map_append, List.nodup_append]
    refine ⟨hn, by simp, fun a ha b hb => ?_⟩
    simp only [List.map_cons, List.map_nil, List.mem_singleton] at hb
    subst hb
    intro e
    subst e
    obtain ⟨p, hp1, hp2⟩ := List.mem_map.mp ha
    have : ((ks.map fun p => ((.inl p.1 : Key), p.2)).any fun kv => decide (kv.1 = .inl a)) = true := by
      rw [List.any_eq_true]
      exact ⟨(.inl p.1, p.2), List.mem_map.mpr ⟨p, hp1, rfl⟩, by rw [hp2]; exact decide_eq_true rfl⟩
    rw [any] at this
    exact hs this
/-- the entries behind a store -/
def putX (xs : List (NestedKey × Addr × V)) (there : Bool) (k : NestedKey) (b : Addr) (v : V) : List (NestedKey × Addr × V) := if there = true then xs.map fun x => if x.1 = k then (x.1, x.2.1, v) else x else xs ++ [(k, b, v)]
theorem put_tup {k : NestedKey} {b : Addr} {v : V} {r : Value} {kd vd : D} {xs : List (NestedKey × Addr × V)} {ys : List (NestedKey × Addr × Value)} {kv : List (D × D)} (h1 : Paired EntV xs ys) (h2 : Paired (EntR K F) xs kv) (ek : nk kd = some k) (hd : k.depth ≤ 8) (hb : Dp K F (.ref b) kd) (hv : Dp K F v vd) (rv : L2.RelV v r) :
    Paired EntV (putX xs (lookK kv (some k)).isSome k b v) (storedH ys k b r) ∧ Paired (EntR K F) (putX xs (lookK kv (some k)).isSome k b v) (putD kv kd vd) := by
  have z := look_tup (k := k) h1 h2
  have e0 : (atKey ys k).isSome = (lookK kv (some k)).isSome := by
    cases e3 : atKey ys k <;> cases e4 : lookK kv (some k) <;> rw [e3, e4] at z <;> first | rfl | exact z.elim
  unfold putX storedH putD
  rw [e0, ek]
  by_cases hs : (lookK kv (some k)).isSome = true
  · rw [if_pos hs, if_pos hs, if_pos hs]
    refine ⟨Paired.map2 h1 fun x y h => ?_, Paired.map2 h2 fun x q h => ?_⟩
    · obtain ⟨q1, q2, q3⟩ := h
      unfold putAt
      by_cases hx : x.1 = k
      · rw [if_pos hx, if_pos (by rw [← q1]; exact hx)]
        exact ⟨q1, q2, rv⟩
      · rw [if_neg hx, if_neg (by rw [← q1]; exact hx)]
        exact ⟨q1, q2, q3⟩
    · obtain ⟨g1, g2, g3, g4⟩ := h
      by_cases hx : x.1 = k
      · rw [if_pos hx, if_pos (by rw [g1, hx])]
        exact ⟨g1, g2, g3, hv⟩
      · rw [if_neg hx, if_neg (by rw [g1]; exact fun q => hx (Option.some.inj q))]
        exact ⟨g1, g2, g3, g4⟩
  · rw [if_neg hs, if_neg hs, if_neg hs]
    exact ⟨Paired.app h1 (.cons ⟨rfl, rfl, rv⟩ .nil), Paired.app h2 (.cons ⟨ek, hd, hb, hv⟩ .nil)⟩
/-- keys without texts hash alike in every world -/
theorem ents_all {w : World} {es : List DictEntry} : ∀ {xs : List (NestedKey × Addr × V)} {ys : List (NestedKey × Addr × Value)} {kv : List (D × D)}, Paired EntV xs ys → Paired (EntR K F) xs kv → es = ys.map (fun y => (⟨y.1.hash w, .ref y.2.1, y.2.2⟩ : DictEntry)) →
    ∀ w' : World, es = ys.map fun y => (⟨y.1.hash w', .ref y.2.1, y.2.2⟩ : DictEntry) := fun {xs} {ys} {kv} h1 h2 e w' => by
  rw [e]
  clear e
  induction h1 generalizing kv with
  | nil => rfl
  | cons p1 p2 ih =>
    cases h2 with
    | cons q1 q2 =>
      rw [List.map_cons, List.map_cons, ih q2]
      obtain ⟨e1, _⟩ := p1
      obtain ⟨g1, _⟩ := q1
      rw [← e1, hash_any w w' _ _ g1]
end
section
variable {X : Cx} {pins : List (Addr × Obj)} {σ : L2.St} {H F : Hp} {s : Shared} {a : Addr} {u : HO} {c : DC} {y v : V} {kd vd : D} {uy r : Value} {A : Around} {E : Value → Shared → Prop}
theorem dc_ok {P : Program} {w : World} {H' : Hp} {h' : Heap} {xs : List (NestedKey × Addr × V)} {ys : List (NestedKey × Addr × Value)} {kv : List (D × D)} (h1 : (a == sysModules) = false) (h2 : xs.length ≤ sizeLine) (h3 : Paired EntV xs ys) (h4 : Paired (EntR X.K F) xs kv) (dd : h'.DictOfH (nestedKind P w) a ys) : ObjOk P w H' h' a (dcO a xs) := by
  obtain ⟨o, es, ep, g1, g2, g3, g4, _, g6⟩ := dd
  refine ⟨⟨h1, h2, ?_, o, es, ep, ys, g1, g2, g3, h3, ents_all h3 h4 g4⟩, ⟨o, g1⟩, fun m1 m2 q k => ?_⟩
  · have go : ∀ {xs : List (NestedKey × Addr × V)} {ys : List (NestedKey × Addr × Value)}, Paired EntV xs ys → xs.map (·.1) = ys.map (·.1) := fun {xs} => by
      induction xs with
      | nil => intro ys p; cases p; rfl
      | cons x xs ih =>
        intro ys p
        cases p with
        | cons p1 p2 => rw [List.map_cons, List.map_cons, p1.1, ih p2]
    rw [go h3]
    exact g6
  · obtain ⟨q1, q2, q3, o, es, ep, ys, q4, q5⟩ := q
    exact ⟨q1, q2, q3, o, es, ep, ys, k _ q4, q5⟩
theorem putX_len {xs : List (NestedKey × Addr × V)} {t : Bool} {k : NestedKey} {b : Addr} {v : V} : (putX xs t k b v).length ≤ xs.length + 1 := by
  unfold putX
  split
  · rw [List.length_map]; omega
  · rw [List.length_append, List.length_singleton]
    exact Nat.le_refl _
/-- d[k] = v -/
theorem g_setItem {Q : Unit → Shared → Prop} (hu : A.units + 9 < cLine) (I : Inv X pins σ H s) (e : H a = some u) (hF : ∀ a o, F a = some o → H a = some o) (R : DictR X.K F a u c) (hy : Dp X.K F y kd) (hk : keyOk c.t kd = true) (ry : L2.RelV y uy) (hv : Dp X.K F v vd) (rv : L2.RelV v r)
    (hl : c.kv.length ≤ 100000) (h : ∀ u' s', DictR X.K F a u' ⟨c.t, putD c.kv kd vd⟩ → Inv X pins σ (upd H a u') s' → Q () s') : wpAny (model X.prog X.w) A (setItem (.ref a) uy r) Q E s := by
  have hline : (100000 : Nat) < sizeLine := by rw [sizeLine_eq]; omega
  unfold DictR at R h
  cases q : c.t with
  | false =>
    rw [q] at R hk
    simp only [q] at h
    obtain ⟨ks, rfl, hn, hp⟩ := R
    obtain ⟨i, rfl⟩ := keyOk_int hk
    cases hy
    obtain ⟨ks2, e1, e2, e3⟩ := put_int (i := i) hn hp hv
    have hl2 : (ks.map fun p => ((.inl p.1 : Key), p.2)).length < sizeLine := by rw [List.length_map, Paired.len hp]; omega
    refine d_setItem (by omega) I (.inl ⟨_, .inl i, e, rfl, hl2, rfl⟩) ry rv fun s' I' => h _ s' ⟨ks2, rfl, e2, e3⟩ ?_
    rw [e1] at I'
    exact I'
  | true =>
    rw [q] at R hk
    simp only [q] at h
    obtain ⟨xs, rfl, hp⟩ := R
    obtain ⟨h1, hz, ys, hvv, dd⟩ := dc_heap I (.inl e) hF hp
    obtain ⟨ds, k, rfl, ek, hd8⟩ := keyOk_tup hk
    obtain ⟨b, k', rfl, rfl, ek', hkey⟩ := key_at I (Dp.mono hF _ _ hy) hk ry
    rw [ek] at ek'
    cases ek'
    obtain ⟨n1, n2⟩ := put_tup (F := F) hvv hp ek hd8 hy hv rv
    refine wpAny_setItem_heap (hsz := by rw [← Paired.len hvv]; exact hz) (show A.in1.units + 8 < cLine by show A.units + 1 + 8 < cLine; omega) hkey dd fun h' dd' hs => h _ _ ⟨_, rfl, n2⟩ ?_
    have he : ∃ q, h'.get? a = some q := let ⟨q, _, _, hq, _⟩ := dd'; ⟨q, hq⟩
    refine d_write I (by rw [e]; exact True.intro) hs he (dc_ok (X := X) (F := F) h1 ?_ n1 n2 dd')
    refine Nat.le_trans putX_len ?_
    rw [Paired.len hp]
    omega
/-- a new dict -/
def newG (t : Bool) (p : Addr) : HO := match t with
  | false => .dK []
  | true => dcO p []
theorem newG_R {t : Bool} {p : Addr} {K : PySem.W.Frag} : DictR K F p (newG t p) ⟨t, []⟩ := by
  cases t
  · exact ⟨[], rfl, List.nodup_nil, .nil⟩
  · exact ⟨[], rfl, .nil⟩
theorem newG_ok {t : Bool} {P : Program} {w : World} {H' : Hp} (h : Heap) (hb : sysModules < h.objs.size) : ObjOk P w H' (h.push { cls := .type "dict", data := .dict #[] }) h.objs.size (newG t h.objs.size) := by
  cases t
  · exact dk_empty h hb
  · refine ⟨⟨beq_eq_false_iff_ne.mpr (Ne.symm (Nat.ne_of_lt hb)), Nat.zero_le _, List.nodup_nil, _, #[], 0, [], Heap.get?_push_size _ rfl, ⟨rfl, rfl, rfl⟩, rfl, .nil, fun _ => rfl⟩, ⟨_, Heap.get?_push_size _ rfl⟩, fun m1 m2 q k => ?_⟩
    obtain ⟨q1, q2, q3, o, es, ep, ys, q4, q5⟩ := q
    exact ⟨q1, q2, q3, o, es, ep, ys, k _ q4, q5⟩
end
/-! ### code objects are no dicts -/
theorem code_ne {a : Addr} {q : Str} {xs : List (NestedKey × Addr × V)} : CodeO a q ≠ dcO a xs := fun z => by
  unfold CodeO dcO at z
  injection z with z
  have h0 : ∃ o : Obj, ∃ h : Heap, h.get? a = some o ∧ o.data = .fields #[.none, .str q 0] := by
    refine ⟨{ cls := .none, data := .fields #[.none, .str q 0] }, { objs := Array.replicate (a + 1) { cls := .none, data := .fields #[.none, .str q 0] } }, ?_, rfl⟩
    unfold Heap.get?
    rw [Array.getElem?_replicate, if_pos (Nat.lt_succ_self a)]
  obtain ⟨o, h, h1, h2⟩ := h0
  have h3 := congrFun z h
  have h4 : ∃ (oc : Obj) (vs : Array Value) (t : Tok), h.get? a = some oc ∧ oc.data = .fields vs ∧ vs[1]? = some (.str q t) := ⟨o, _, 0, h1, h2, rfl⟩
  rw [h3] at h4
  obtain ⟨_, _, _, o2, es, ep, ys, g1, _, g3, _⟩ := h4
  rw [h1] at g1
  cases g1
  rw [h2] at g3
  cases g3
theorem DictR.noCode {K : PySem.W.Frag} {F : Hp} {a : Addr} {u : HO} {c : DC} {q : Str} (R : DictR K F a u c) : CodeO a q ≠ u := by
  unfold DictR at R
  cases e : c.t with
  | false =>
    rw [e] at R
    obtain ⟨ks, rfl, _⟩ := R
    intro z
    unfold CodeO at z
    cases z
  | true =>
    rw [e] at R
    obtain ⟨xs, rfl, _⟩ := R
    exact code_ne
theorem DictR.noTbl {K : PySem.W.Frag} {F : Hp} {a : Addr} {u : HO} {c : DC} {ps : Array Value} (R : DictR K F a u c) : u ≠ .tbl ps := by
  unfold DictR at R
  cases e : c.t with
  | false =>
    rw [e] at R
    obtain ⟨ks, rfl, _⟩ := R
    exact fun z => nomatch z
  | true =>
    rw [e] at R
    obtain ⟨xs, rfl, _⟩ := R
    intro z
    unfold dcO at z
    cases z
theorem tabs_updG {T : List (Addr × Str)} {H : Hp} (t : LamX.Tabs T H) {a : Addr} {o u : HO} (h : H a = some u) (n1 : ∀ ps, u ≠ .tbl ps) (n2 : ∀ q, CodeO a q ≠ u) : LamX.Tabs T (upd H a o) := fun p hp => by
  obtain ⟨ps, e, h2, h3⟩ := t p hp
  refine ⟨ps, by rw [upd_ne (fun z => by rw [z, h] at e; cases e; exact n1 _ rfl)]; exact e, h2, fun pos cv hc => ?_⟩
  obtain ⟨c, e1, e2⟩ := h3 pos cv hc
  refine ⟨c, e1, ?_⟩
  rw [upd_ne (fun z => by subst z; rw [h] at e2; exact n2 _ (Option.some.inj e2).symm)]
  exact e2
section
variable {K : PySem.W.Frag} {R : Option Addr} {L : Nat → Option (Addr × List V)} {E F F' H H' : Hp} {ρ ρ' : Env} {σ σ' : L2.St} {rs rs' : RS}
theorem Step.new_g {p : Addr} {t : Bool} (s : Step K R rs F H F H) (hp : H p = none) : Step K R rs F H F (upd H p (newG t p)) ∧ F p = none ∧ some p ≠ R := by
  have hr : some p ≠ R := fun q => by
    obtain ⟨a, e, _⟩ := s.row.at_ p q.symm
    rw [hp] at e; cases e
  have hF : F p = none := by
    cases q : F p with
    | none => rfl
    | some o =>
      have := s.fin p o q
      rw [hp] at this; cases this
  refine ⟨⟨fun a o h _ _ => by rw [upd_ne (ne_of_none h hp)]; exact h, fun _ _ h => h, fun _ _ h => .inl h, fun a o h => by rw [upd_ne (ne_of_none (s.fin a o h) hp)]; exact s.fin a o h, ⟨fun r e => ?_, tabs_upd s.row.tab (.inl hp), s.row.fnt⟩, s.rF⟩, hF, hr⟩
  obtain ⟨a, e1, h1, h3⟩ := s.row.at_ r e
  exact ⟨a, by rw [upd_ne (ne_of_none e1 hp)]; exact e1, h1, h3⟩
/-- a dict of one's own is changed -/
theorem Rel.changeG (r : Rel K R L E F ρ σ rs H) {i : Nat} {c c' : DC} {a : Addr} {u' : HO} (e : ρ[i]? = some (some (SV.g c))) (ea : σ[i]? = some (some (V.ref a))) (hd : DictR K F a u' c') :
    Rel K R L E F (ρ.set i (some (.g c'))) σ rs (upd H a u') := by
  obtain ⟨v, e1, b, u, q1, q2, q3, q4, q5, q6⟩ := r.sl i _ e
  rw [ea] at e1
  cases e1
  cases q1
  have hl : i < ρ.length := (List.getElem?_eq_some_iff.mp e).1
  refine ⟨by rw [List.length_set]; exact r.len, fun b o z => ?_, r.ent, fun b o z => ?_, ⟨fun q eq => ?_, tabs_updG r.row.tab q2 (fun ps => q6.noTbl) (fun q => q6.noCode), r.row.fnt⟩, r.rE, r.lk, fun j sw ej => ?_, fun j k c x y e1 e2 ox oy e3 e4 => ?_⟩
  · rw [upd_ne (fun zz => by rw [zz, q3] at z; cases z)]
    exact r.ex b o z
  · rw [upd_ne (fun zz => by rw [zz, q4] at z; cases z)]
    exact r.fr b o z
  · obtain ⟨c, k1, k2, k3⟩ := r.row.at_ q eq
    exact ⟨c, by rw [upd_ne (fun zz => q5 (by rw [← zz, eq]))]; exact k1, k2, k3⟩
  · by_cases hj : j = i
    · subst hj
      rw [List.getElem?_set_self hl] at ej
      cases ej
      exact ⟨_, ea, a, _, rfl, upd_same, q3, q4, q5, hd⟩
    · rw [List.getElem?_set_ne (Ne.symm hj)] at ej
      obtain ⟨w, k1, k2⟩ := r.sl j sw ej
      refine ⟨w, k1, ?_⟩
      cases sw with
      | d x => exact k2
      | k x => exact k2
      | un => exact trivial
      | ex _ _ => exact k2
      | fn _ => exact k2
      | row => exact k2
      | o x =>
        obtain ⟨c, us, rfl, z1, z2, z3, z4, z5⟩ := k2
        have hca : c ≠ a := by
          rintro rfl
          exact hj (r.own j i c _ _ ej e trivial trivial k1 ea)
        exact ⟨c, us, rfl, by rw [upd_ne hca]; exact z1, z2, z3, z4, z5⟩
      | g x =>
        obtain ⟨c, us, rfl, z1, z2, z3, z4, z5⟩ := k2
        have hca : c ≠ a := by
          rintro rfl
          exact hj (r.own j i c _ _ ej e trivial trivial k1 ea)
        exact ⟨c, us, rfl, by rw [upd_ne hca]; exact z1, z2, z3, z4, z5⟩
  · by_cases hj : j = i
    · by_cases hk : k = i
      · rw [hj, hk]
      · subst hj
        rw [List.getElem?_set_ne (Ne.symm hk)] at e2
        exact r.own j k c _ y e e2 trivial oy e3 e4
    · rw [List.getElem?_set_ne (Ne.symm hj)] at e1
      by_cases hk : k = i
      · subst hk
        exact r.own j k c x _ e1 e ox trivial e3 e4
      · rw [List.getElem?_set_ne (Ne.symm hk)] at e2
        exact r.own j k c x y e1 e2 ox oy e3 e4
/-- a dict of one's own is from now on never changed: its name is forgotten -/
theorem Rel.freezeG (r : Rel K R L E F ρ σ rs H) {i : Nat} {c : DC} {a : Addr} {u : HO} (e : ρ[i]? = some (some (SV.g c))) (ea : σ[i]? = some (some (V.ref a))) (hu : H a = some u) :
    Rel K R L E (upd F a u) (ρ.set i none) σ rs H ∧ FStep R E F (upd F a u) ∧ DictR K (upd F a u) a u c := by
  obtain ⟨v, e1, b, u2, q1, q2, q3, q4, q5, q6⟩ := r.sl i _ e
  rw [ea] at e1
  cases e1
  cases q1
  rw [hu] at q2
  cases q2
  have hl : i < ρ.length := (List.getElem?_eq_some_iff.mp e).1
  have ku : ∀ b o, F b = some o → upd F a u b = some o := fun b o q => by
    rw [upd_ne (fun z => by rw [z, q4] at q; cases q)]
    exact q
  have r1 := r.forget i
  refine ⟨⟨r1.len, r1.ex, r1.ent, fun b o q => ?_, r.row.mono ku fun b o q => ?_, fun q eq => ⟨(r.rE q eq).1, ?_⟩, r1.lk, fun j sw ej => ?_, r1.own⟩, ⟨ku, fun b o q => ?_⟩, q6.mono ku⟩
  · by_cases hb : b = a
    · subst hb; rw [upd_same] at q; rw [hu]; exact q
    · rw [upd_ne hb] at q; exact r.fr b o q
  · by_cases hb : b = a
    · subst hb; rw [upd_same] at q; cases q; exact q6.fx
    · rw [upd_ne hb] at q; exact r.row.fnt b o q
  · rw [upd_ne (fun z => q5 (by rw [← z, eq]))]
    exact (r.rE q eq).2
  · have hj : j ≠ i := by
      rintro rfl
      rw [List.getElem?_set_self hl] at ej
      cases ej
    have ej' := ej
    rw [List.getElem?_set_ne (Ne.symm hj)] at ej'
    obtain ⟨w, k1, k2⟩ := r.sl j sw ej'
    refine ⟨w, k1, ?_⟩
    cases sw with
    | d x => exact Dp.mono ku _ _ k2
    | k ds =>
      obtain ⟨b, vs, g1, g2, g3⟩ := k2
      exact ⟨b, vs, g1, g2, Dp.monoA ku _ _ g3⟩
    | un => exact trivial
    | ex _ _ => exact ⟨k2.1, XF.mono ku k2.2⟩
    | fn _ => exact k2
    | row => exact k2
    | o x =>
      obtain ⟨b, us, rfl, z1, z2, z3, z4, z5⟩ := k2
      have hba : b ≠ a := by
        rintro rfl
        exact hj (r.own j i b _ _ ej' e trivial trivial k1 ea)
      exact ⟨b, us, rfl, z1, z2, by rw [upd_ne hba]; exact z3, z4, Dp.monoA ku _ _ z5⟩
    | g x =>
      obtain ⟨b, us, rfl, z1, z2, z3, z4, z5⟩ := k2
      have hba : b ≠ a := by
        rintro rfl
        exact hj (r.own j i b _ _ ej' e trivial trivial k1 ea)
      exact ⟨b, us, rfl, z1, z2, by rw [upd_ne hba]; exact z3, z4, z5.mono ku⟩
  · by_cases hb : b = a
    · subst hb; exact .inr ⟨q3, q5⟩
    · rw [upd_ne hb] at q; exact .inl q
end
end DV

/-! DV: dicts in expressions and statements -/
namespace DV
open PySem L2 PyProof.Rows LamX
theorem rm9 {k : Nat} {A : Around} (r : Room k A) : A.units + 9 < cLine := by have := r.un; omega
/-! ### {} -/
def tGNew (t : Bool) : TE := fun _ H Q => ∀ p, H p = none → Q (.ref p) (upd H p (newG t p))
def eGNew (t : Bool) : Env → M RV := fun _ => ret (.gn ⟨t, []⟩)
section
variable {X : Cx} {K : PySem.W.Frag} {R : Option Addr} {L : Nat → Option (Addr × List V)} {E F F' H H' : Hp} {ρ ρ' : Env} {σ σ' : L2.St} {rs rs' : RS}
variable {o e i e2 : Expr} {pos spos apos cpos : Pos} {td ty tv tx : TE} {f h k : Env → M RV}
theorem pe_gnew (t : Bool) : PE X (.Dict [] [] pos) (tGNew t) := ⟨fun pins s σ H Q I h =>
  wpAny_Dict_empty ⟨.ref s.heap.objs.size, _, I.laid (a := s.heap.objs.size) (o := newG t s.heap.objs.size) (t' := s.toks) (fun _ _ q => Heap.get?_push_of_some _ q) (Nat.le_refl _) (newG_ok s.heap I.big), rfl, h _ (I.hok.fresh (Nat.le_refl _))⟩⟩
theorem esem_gnew (t : Bool) : ESem K R (tGNew t) (eGNew t) := fun L E ρ σ F H rs x rs' Q r hf kk => by
  obtain ⟨e1, q1⟩ := ret_some hf
  subst e1 q1
  intro p hp
  obtain ⟨s1, hF, hR⟩ := Step.new_g (t := t) r.refl hp
  exact kk _ F _ s1 ⟨p, _, rfl, upd_same, hp, hF, hR, newG_R⟩
theorem de_gnew (t : Bool) : DE X R (.Dict [] [] pos) (tGNew t) (eGNew t) := ⟨pe_gnew t, esem_gnew t⟩
/-! ### d[k] -/
def dcOf : RV → Option DC
  | .gb c => some c
  | .gn c => some c
  | _ => none
def asKey : RV → Option D
  | .d d => some d
  | _ => none
theorem VR.dict {F H0 H : Hp} {v : V} {x : RV} {c : DC} (hv : VR K R F H0 H v x) (e : dcOf x = some c) : ∃ a u, v = .ref a ∧ H a = some u ∧ some a ≠ R ∧ DictR K F a u c := by
  cases x with
  | gb d =>
    cases e
    exact hv
  | gn d =>
    cases e
    obtain ⟨a, u, e1, h1, _, _, h2, h3⟩ := hv
    exact ⟨a, u, e1, h1, h2, h3⟩
  | d _ => cases e
  | b _ => cases e
  | n _ => cases e
  | row => cases e
theorem VR.key {F H0 H : Hp} {v : V} {x : RV} {d : D} (hv : VR K R F H0 H v x) (e : asKey x = some d) : Dp K F v d := by
  cases x with
  | d y => cases e; exact hv
  | b _ => cases e
  | n _ => cases e
  | gb _ => cases e
  | gn _ => cases e
  | row => cases e
/-- the dict at a, asked for kd -/
def GAsk (K : PySem.W.Frag) (H : Hp) (a : Addr) (y : V) (F : Hp) (c : DC) (kd : D) : Prop := ∃ u, H a = some u ∧ (∀ a o, F a = some o → H a = some o) ∧ DictR K F a u c ∧ Dp K H y kd ∧ keyOk c.t kd = true
def tGGet (K : PySem.W.Frag) (td ty : TE) : TE := fun σ H Q => td σ H fun x H1 => ty σ H1 fun y H2 => ∃ (a : Addr) (F : Hp) (c : DC) (kd vd : D), x = .ref a ∧ GAsk K H2 a y F c kd ∧ lookK c.kv (nk kd) = some vd ∧ ∀ v, Dp K F v vd → Q v H2
theorem pe_gget (hu : X.A.units + 9 < cLine) (ho : PE X o td) (hi : PE X i ty) (hs : NoSl i) : PE X (.Subscript o i pos) (tGGet X.K td ty) := by
  refine ⟨fun pins s σ H Q I h => ?_⟩
  refine subD_of PySem.F.slot_dict_getitem.lookup hs (thn (ho.run pins s σ H _ I h) fun u s1 ⟨x, H1, I1, rx, q1⟩ => thn (hi.run pins s1 σ H1 _ I1 q1) fun iv s2 ⟨y, H2, I2, ry, a, F, c, kd, vd, ex, ⟨w, g1, g2, g3, g4, g5⟩, l, q2⟩ => ?_)
  subst ex
  obtain rfl : u = Value.ref a := rx
  exact ⟨(g_typeIs I2 (.inl g1) g2 g3).1, g_getItem hu I2 (.inl g1) g2 g3 g4 g5 ry l fun v w' s3 I3 rw' hv => ⟨v, H2, I3, rw', q2 v hv⟩⟩
def eGGet (f h : Env → M RV) : Env → M RV := fun ρ => bnd (f ρ) fun x => bnd (lft (dcOf x)) fun c => bnd (h ρ) fun y => bnd (lft (asKey y)) fun kd => if keyOk c.t kd = true then bnd (lft (lookK c.kv (nk kd))) fun vd => ret (.d vd) else fail
theorem esem_gget (hd : ESem K R td f) (hy : ESem K R ty h) : ESem K R (tGGet K td ty) (eGGet f h) := fun L E ρ σ F H rs x0 rs' Q r hf kk => by
  obtain ⟨x, rs1, e1, g1⟩ := bnd_some hf
  obtain ⟨c, rs2, e2, g2⟩ := bnd_some g1
  obtain ⟨e3, q3⟩ := lft_some e2
  subst q3
  obtain ⟨y, rs4, e4, g4⟩ := bnd_some g2
  obtain ⟨kd, rs5, e5, g5⟩ := bnd_some g4
  obtain ⟨e6, q6⟩ := lft_some e5
  subst q6
  by_cases hk : keyOk c.t kd = true
  · rw [if_pos hk] at g5
    obtain ⟨vd, rs7, e7, g7⟩ := bnd_some g5
    obtain ⟨e8, q8⟩ := lft_some e7
    obtain ⟨e9, q9⟩ := ret_some g7
    subst e9 q9 q8
    refine hd L E ρ σ F H rs x _ _ r e1 fun v1 F1 H1 s1 h1 => ?_
    have r1 := r.step s1
    refine hy L E ρ σ F1 H1 _ y _ _ r1 e4 fun v2 F2 H2 s2 h2 => ?_
    have r2 := r1.step s2
    obtain ⟨a, u, rfl, z1, z2, z3⟩ := (h1.step s2).dict e3
    exact ⟨a, F2, c, kd, vd, rfl, ⟨u, z1, r2.fr, z3, Dp.mono r2.fr _ _ (h2.key e6), hk⟩, e8, fun v hv => kk v F2 H2 (s1.trans r.row s2) hv⟩
  · rw [if_neg hk] at g5
    cases g5
theorem de_gget (hu : X.A.units + 9 < cLine) (ho : DE X R o td f) (hi : DE X R i ty h) (hs : NoSl i := by exact fun _ _ => rfl) : DE X R (.Subscript o i pos) (tGGet X.K td ty) (eGGet f h) := ⟨pe_gget hu ho.pe hi.pe hs, esem_gget ho.sem hi.sem⟩
/-! ### k in d -/
def rGIn (K : PySem.W.Frag) (neg : Bool) : R2 := fun y x H Q => ∃ (a : Addr) (F : Hp) (c : DC) (kd : D), x = .ref a ∧ GAsk K H a y F c kd ∧ Q (.bl (if neg then !(lookK c.kv (nk kd)).isSome else (lookK c.kv (nk kd)).isSome)) H
theorem op_gIn (hu : X.A.units + 9 < cLine) : OpR X (compareOp .In) (rGIn X.K false) := by
  intro pins s σ H x y v u Q I rx ry h
  obtain ⟨a, F, c, kd, ex, ⟨w, g1, g2, g3, g4, g5⟩, q⟩ := h
  subst ex
  obtain rfl : u = Value.ref a := ry
  exact g_in hu I (.inl g1) g2 g3 g4 g5 rx fun s' I' => ⟨.bl _, H, I', rfl, q⟩
theorem op_gNotIn (hu : X.A.units + 9 < cLine) : OpR X (compareOp .NotIn) (rGIn X.K true) := by
  intro pins s σ H x y v u Q I rx ry h
  obtain ⟨a, F, c, kd, ex, ⟨w, g1, g2, g3, g4, g5⟩, q⟩ := h
  subst ex
  obtain rfl : u = Value.ref a := ry
  exact g_notIn hu I (.inl g1) g2 g3 g4 g5 rx fun s' I' => ⟨.bl _, H, I', rfl, q⟩
def gGIn (neg : Bool) : RV → RV → Option RV := fun y x => match asKey y, dcOf x with
  | some kd, some c => if keyOk c.t kd = true then some (.d (.bool (if neg then !(lookK c.kv (nk kd)).isSome else (lookK c.kv (nk kd)).isSome))) else none
  | _, _ => none
theorem rsem_gIn (neg : Bool) : RSem K R (rGIn K neg) (gGIn neg) := fun F H0 H rs y x p q z Q s hy hx e k => by
  unfold gGIn at e
  cases e1 : asKey p with
  | none => rw [e1] at e; cases e
  | some kd =>
    cases e2 : dcOf q with
    | none => rw [e1, e2] at e; cases e
    | some c =>
      rw [e1, e2] at e
      by_cases hk : keyOk c.t kd = true
      · simp only [hk, if_true] at e
        cases e
        obtain ⟨a, u, rfl, z1, z2, z3⟩ := hx.dict e2
        exact ⟨a, F, c, kd, rfl, ⟨u, z1, s.fin, z3, Dp.mono s.fin _ _ (hy.key e1), hk⟩, k _ F H s (.bl _)⟩
      · simp only [hk] at e
        cases e
/-! ### d.get(k, x) -/
def tGGet2 (K : PySem.W.Frag) (td ty tx : TE) : TE := fun σ H Q => td σ H fun x H1 => ∃ a u F c, x = .ref a ∧ H1 a = some u ∧ (∀ a o, F a = some o → H1 a = some o) ∧ DictR K F a u c ∧ ty σ H1 fun y H2 => tx σ H2 fun z H3 => ∃ (F : Hp) (c : DC) (kd : D), GAsk K H3 a y F c kd ∧
  (∀ vd v, lookK c.kv (nk kd) = some vd → Dp K F v vd → Q v H3) ∧ (lookK c.kv (nk kd) = none → Q z H3)
theorem pe_gget2 (hu : X.A.units + 9 < cLine) (ho : PE X o td) (he : PE X e ty) (hf : PE X e2 tx) (m : M2 X o "get" apos e e2 cpos) : PE X (.Call (.Attribute o "get" apos) [e, e2] [] cpos) (tGGet2 X.K td ty tx) := by
  refine ⟨fun pins s σ H Q I h => ?_⟩
  refine wpAny_Call_method m.base m.few m.line PySem.F.plainAttrs_dict PySem.F.slot_dict_get PySem.F.type_dict_get (thn (ho.run pins s σ H _ I h) fun u s1 ⟨x, H1, I1, rx, a, u1, F1, c1, ex, d1, d2, d3, q1⟩ => ?_)
  subst ex
  obtain rfl : u = Value.ref a := rx
  obtain ⟨t1, t2, _⟩ := g_typeIs I1 (.inl d1) d2 d3
  refine ⟨t1, t2, ?_⟩
  rw [m.trees]
  refine Calls.callWith_builtin rfl (Calls.evalArgs_plain (Calls.spliced_cons (thn (he.run pins s1 σ H1 _ I1 q1) fun iv s2 ⟨y, H2, I2, ry, q2⟩ =>
    Calls.spliced_cons (thn (hf.run pins s2 σ H2 _ I2 q2) fun fv s3 ⟨z, H3, I3, rz, F, c, kd, ⟨w, g1, g2, g3, g4, g5⟩, q3, q4⟩ => Calls.spliced_nil ?_))))
  exact g_get2 hu I3 (.inl g1) g2 g3 g4 g5 ry (fun vd v w' s4 l I4 rw' hv => ⟨v, H3, I4, rw', q3 vd v l hv⟩) fun s4 l I4 => ⟨z, H3, I4, rz, q4 l⟩
def eGGet2 (f h k : Env → M RV) : Env → M RV := fun ρ => bnd (f ρ) fun x => bnd (lft (dcOf x)) fun c => bnd (h ρ) fun y => bnd (lft (asKey y)) fun kd => bnd (k ρ) fun z => if keyOk c.t kd = true then match lookK c.kv (nk kd) with
  | some vd => ret (.d vd)
  | none => ret z
  else fail
theorem esem_gget2 (hd : ESem K R td f) (hy : ESem K R ty h) (hx : ESem K R tx k) : ESem K R (tGGet2 K td ty tx) (eGGet2 f h k) := fun L E ρ σ F H rs x0 rs' Q r hf kk => by
  obtain ⟨x, rs1, e1, g1⟩ := bnd_some hf
  obtain ⟨c, rs2, e2, g2⟩ := bnd_some g1
  obtain ⟨e3, q3⟩ := lft_some e2
  subst q3
  obtain ⟨y, rs4, e4, g4⟩ := bnd_some g2
  obtain ⟨kd, rs5, e5, g5⟩ := bnd_some g4
  obtain ⟨e6, q6⟩ := lft_some e5
  subst q6
  obtain ⟨z, rs7, e7, g7⟩ := bnd_some g5
  by_cases hk : keyOk c.t kd = true
  · rw [if_pos hk] at g7
    refine hd L E ρ σ F H rs x _ _ r e1 fun v1 F1 H1 s1 h1 => ?_
    have r1 := r.step s1
    obtain ⟨a, u, rfl, z1, z2, z3⟩ := h1.dict e3
    refine ⟨a, u, F1, c, rfl, z1, r1.fr, z3, ?_⟩
    refine hy L E ρ σ F1 H1 _ y _ _ r1 e4 fun v2 F2 H2 s2 h2 => ?_
    have r2 := r1.step s2
    refine hx L E ρ σ F2 H2 _ z _ _ r2 e7 fun v3 F3 H3 s3 h3 => ?_
    have r3 := r2.step s3
    have s12 := s1.trans r.row s2
    have s13 := s12.trans r.row s3
    obtain ⟨a', u', ea, w1, w2, w3⟩ := ((h1.step s2).step s3).dict e3
    cases ea
    refine ⟨F3, c, kd, ⟨u', w1, r3.fr, w3, Dp.mono r3.fr _ _ (h2.step s3 |>.key e6), hk⟩, fun vd v l hv => ?_, fun l => ?_⟩
    · rw [l] at g7
      obtain ⟨e9, q9⟩ := ret_some g7
      subst e9 q9
      exact kk v F3 H3 s13 hv
    · rw [l] at g7
      obtain ⟨e9, q9⟩ := ret_some g7
      subst e9 q9
      exact kk v3 F3 H3 s13 (h3.older fun a q => s12.back r.row q)
  · rw [if_neg hk] at g7
    cases g7
theorem de_gget2 (hu : X.A.units + 9 < cLine) (ho : DE X R o td f) (hi : DE X R e ty h) (hx : DE X R e2 tx k) (m : M2 X o "get" apos e e2 cpos := by exact ⟨rfl, rfl, rfl, rfl⟩) : DE X R (.Call (.Attribute o "get" apos) [e, e2] [] cpos) (tGGet2 X.K td ty tx) (eGGet2 f h k) :=
  ⟨pe_gget2 hu ho.pe hi.pe hx.pe m, esem_gget2 ho.sem hi.sem hx.sem⟩
/-! ### d[k] = v -/
def own_g (ρ : Env) (i : Nat) : Option DC := match ρ[i]? with
  | some (some (.g c)) => some c
  | _ => none
theorem ownG_some {ρ : Env} {i : Nat} {c : DC} (h : own_g ρ i = some c) : ρ[i]? = some (some (SV.g c)) := by
  unfold own_g at h
  cases e : ρ[i]? with
  | none => rw [e] at h; cases h
  | some o =>
    cases o with
    | none => rw [e] at h; cases h
    | some sv =>
      rw [e] at h
      cases sv with
      | g es => cases h; rfl
      | d _ => cases h
      | k _ => cases h
      | o _ => cases h
      | un => cases h
      | ex _ _ => cases h
      | fn _ => cases h
      | row => cases h
def sGPutT (K : PySem.W.Frag) (td ty tv : TE)   : TS := fun Dn σ H => tv σ H fun v H1 => td σ H1 fun x H2 => ty σ H2 fun y H3 => ∃ (a : Addr) (u : HO) (F : Hp) (c : DC) (kd vd : D), x = .ref a ∧ H3 a = some u ∧ (∀ a o, F a = some o → H3 a = some o) ∧ DictR K F a u c ∧ Dp K F y kd ∧ keyOk c.t kd = true ∧ Dp K F v vd ∧ c.kv.length ≤ 100000 ∧
  ∀ u', DictR K F a u' ⟨c.t, putD c.kv kd vd⟩ → Dn.nx σ (upd H3 a u')
theorem ps_gput {value : Expr} {pos' : Pos} (hu : X.A.units + 9 < cLine) (ho : PE X o td) (hi : PE X i ty) (hv : PE X value tv) (hs : swapsWith value (some (.Subscript o i pos')) pos.line X.env = pure false) :
    PS X (.Assign [.Subscript o i pos'] value pos) (sGPutT X.K td ty tv) := by
  refine ⟨fun pins s σ H D I h => ?_⟩
  refine wpAny_Assign_Subscript (thn (hv.run pins s σ H _ I h) fun r s1 ⟨v, H1, I1, rv, q1⟩ => thn (ho.run pins s1 σ H1 _ I1 q1) fun u s2 ⟨x, H2, I2, rx, q2⟩ => thn (hi.run pins s2 σ H2 _ I2 q2) fun iv s3 ⟨y, H3, I3, ry, a, u1, F, c, kd, vd, ex, g1, g2, g3, g4, g5, g6, g7, q3⟩ => ?_) hs
  subst ex
  obtain rfl : u = Value.ref a := rx
  exact g_setItem hu I3 g1 g2 g3 g4 g5 ry g6 rv g7 fun u' s4 R4 I4 => ⟨σ, _, I4, q3 u' R4⟩
def sGPut (i : Nat) (f g : Env → M RV) : Env → M Out := fun ρ => bnd (f ρ) fun x => bnd (lft (toD x)) fun vd => bnd (g ρ) fun y => bnd (lft (asKey y)) fun kd => bnd (lft (own_g ρ i)) fun c =>
  if keyOk c.t kd = true ∧ c.kv.length ≤ 100000 then ret (.nx (ρ.set i (some (.g ⟨c.t, putD c.kv kd vd⟩)))) else fail
theorem ds_gput {i : Nat} {x : Str} {ei value : Expr} {p1 pos' : Pos} {g : Env → M RV} (hu : X.A.units + 9 < cLine) (he : DE X R value tv f) (hi : DE X R ei ty g) (hN : X.N[i]? = some x := by rfl) (hv : Vis X.env.scope x := by first | exact Or.inl rfl | exact Or.inr (Or.inl rfl) | exact Or.inr (Or.inr rfl)) (hd : (x == ("__debug__" : Str)) = false := by decide)
    (hcd : (x == ("__classdict__" : Str)) = false := by decide) (hs : swapsWith value (some (.Subscript (.Name x p1) ei pos')) spos.line X.env = pure false := by rfl) :
    DS X R (.Assign [.Subscript (.Name x p1) ei pos'] value spos) (sGPutT X.K (tVar i) ty tv) (sGPut i f g) := ⟨ps_gput hu (pe_var hN hv hd hcd) hi.pe he.pe hs, fun L E F ρ σ rs H o rs' D r hf k => by
  obtain ⟨x, rs1, e1, g1⟩ := bnd_some hf
  obtain ⟨vd, rs2, e2, g2⟩ := bnd_some g1
  obtain ⟨e3, q3⟩ := lft_some e2
  subst q3
  obtain ⟨y, rs4, e4, g4⟩ := bnd_some g2
  obtain ⟨kd, rs5, e5, g5⟩ := bnd_some g4
  obtain ⟨e6, q6⟩ := lft_some e5
  subst q6
  obtain ⟨c, rs7, e7, g7⟩ := bnd_some g5
  obtain ⟨e8, q8⟩ := lft_some e7
  subst q8
  by_cases hk : keyOk c.t kd = true ∧ c.kv.length ≤ 100000
  · rw [if_pos hk] at g7
    obtain ⟨e9, q9⟩ := ret_some g7
    subst e9 q9
    have eo := ownG_some e8
    refine he.sem L E ρ σ F H rs x _ _ r e1 fun w F1 H1 s1 hw => ?_
    obtain ⟨F2, s2, hd2⟩ := frozen1 r s1 hw e3
    have r2 := r.step s2
    obtain ⟨v, ev, a, u, rfl, _⟩ := r2.sl i _ eo
    refine ⟨_, ev, ?_⟩
    refine hi.sem L E ρ σ F2 H1 _ y _ _ r2 e4 fun w2 F3 H3 s3 hw2 => ?_
    have r3 := r2.step s3
    obtain ⟨v', ev', a', u', ea, k1, k2, k3, k4, k5⟩ := r3.sl i _ eo
    rw [ev] at ev'
    cases ev'
    cases ea
    refine ⟨a, u', F3, c, kd, vd, rfl, k1, r3.fr, k5, hw2.key e6, hk.1, Dp.mono s3.sub _ _ hd2, hk.2, fun u2 R2 => ?_⟩
    exact k σ F3 _ (FStep.ofStep r (s2.trans r.row s3)) (r3.changeG eo ev R2)
  · rw [if_neg hk] at g7
    cases g7⟩
end
end DV

/-! DV: walks over dicts: keys, values, items -/
namespace DV
open PySem L2 PyProof.Rows LamX
/-- the pairs of a dict's object -/
def PsOf (d : Addr) (u : HO) (ps : List (V × V)) : Prop := (∃ ks : List (Key × V), u = .dK ks ∧ ps = ks.map fun p => (kV p.1, p.2)) ∨ ∃ xs : List (NestedKey × Addr × V), u = dcO d xs ∧ ps = xs.map fun x => (.ref x.2.1, x.2.2)
abbrev GP (K : PySem.W.Frag) (F : Hp) : V × V → D × D → Prop := fun p q => Dp K F p.1 q.1 ∧ Dp K F p.2 q.2
theorem DictR.ps {K : PySem.W.Frag} {F : Hp} {a : Addr} {u : HO} {c : DC} (R : DictR K F a u c) : ∃ ps, PsOf a u ps ∧ Paired (GP K F) ps c.kv := by
  unfold DictR at R
  cases e : c.t with
  | false =>
    rw [e] at R
    obtain ⟨ks, rfl, _, hp⟩ := R
    refine ⟨_, .inl ⟨_, rfl, rfl⟩, ?_⟩
    rw [List.map_map]
    have := Paired.map2 (g := GP K F) (m := fun p : Int × V => (V.int p.1, p.2)) (n := id) hp fun x q h => ⟨by rw [show (id q).1 = q.1 from rfl, h.1]; exact Dp.int _, h.2⟩
    rw [List.map_id] at this
    exact this
  | true =>
    rw [e] at R
    obtain ⟨xs, rfl, hp⟩ := R
    refine ⟨_, .inr ⟨_, rfl, rfl⟩, ?_⟩
    have := Paired.map2 (g := GP K F) (m := fun x : NestedKey × Addr × V => (V.ref x.2.1, x.2.2)) (n := id) hp fun x q h => ⟨h.2.2.1, h.2.2.2⟩
    rw [List.map_id] at this
    exact this
/-- what a walk hands out -/
inductive WK where | keys | vals | items
def ItG (k : WK) (d : Addr) (o : Obj) (u : HO) (ps : List (V × V)) : It :=
  ⟨fun i H => H d = some (.frz o u) ∧ i < ps.length, fun i H x H' => match k with
    | .keys => H' = H ∧ ∃ p, ps[i]? = some p ∧ x = p.1
    | .vals => H' = H ∧ ∃ p, ps[i]? = some p ∧ x = p.2
    | .items => ∃ T p, ps[i]? = some p ∧ x = .ref T ∧ H T = none ∧ H' = upd H T (.tup [p.1, p.2]), fun i H => H d = some (.frz o u) ∧ ps.length ≤ i⟩
section
variable {X : Cx} {pins : List (Addr × Obj)} {σ : L2.St} {H : Hp} {s : Shared} {d : Addr} {o : Obj} {u : HO} {ps : List (V × V)}
theorem frzG (I : Inv X pins σ H s) (h : H d = some (.frz o u)) (hp : PsOf d u ps) : (d == sysModules) = false ∧ s.heap.get? d = some o ∧ o.ExactDict ∧ ∃ (es : Array DictEntry) (ep : Nat), o.data = .dict es ep ∧ es.size = ps.length ∧ ps.length ≤ sizeLine ∧
    ∀ (i : Nat) (hi : i < es.size), ∃ p, ps[i]? = some p ∧ L2.RelV p.1 es[i].key ∧ L2.RelV p.2 es[i].val := by
  rcases hp with ⟨ks, rfl, rfl⟩ | ⟨xs, rfl, rfl⟩
  · obtain ⟨hs, hgd, hx, es, ep, vs, hdt, hsz, kv, hm⟩ := I.frzK h
    have hz : ks.length ≤ sizeLine := by
      obtain ⟨_, z, _⟩ := I.hok d _ h
      exact z
    refine ⟨hs, hgd, hx, es, ep, hdt, by rw [List.length_map]; exact hsz, by rw [List.length_map]; exact hz, fun i hi => ?_⟩
    obtain ⟨es2, ep2, ⟨o2, g1, _, g2⟩, hs2, he⟩ := hm.dictOf.raw
    rw [hgd] at g1
    cases g1
    rw [hdt] at g2
    cases g2
    have hik : i < ks.length := by rw [← hsz]; exact hi
    obtain ⟨⟨k, v⟩, hkv⟩ : ∃ p, ks[i]? = some p := ⟨ks[i], List.getElem?_eq_getElem hik⟩
    have go : ∀ {ks : List (Key × V)} {vs : List (Key × Value)} {i : Nat} {k : Key} {v : V}, KV ks vs → ks[i]? = some (k, v) → ∃ w, vs[i]? = some (k, w) ∧ L2.RelV v w := fun {ks} => by
      induction ks with
      | nil => intro vs i k v _ h; simp at h
      | cons p ks ih =>
        intro vs i k v q h
        cases q with
        | cons q1 q2 =>
          cases i with
          | zero =>
            simp at h
            subst h
            rename_i y ys
            refine ⟨y.2, ?_, q1.2⟩
            have := q1.1
            simp only at this
            simp [this]
          | succ i =>
            simp at h
            obtain ⟨w, e1, e2⟩ := ih q2 h
            exact ⟨w, by simpa using e1, e2⟩
    obtain ⟨w, hw, rw'⟩ := go kv hkv
    obtain ⟨e1, e2⟩ := he i hi k w hw
    refine ⟨(kV k, v), by rw [List.getElem?_map, hkv]; rfl, relV_key e1, ?_⟩
    rw [e2]
    exact rw'
  · obtain ⟨hg, ⟨h1, h2, h3, o2, es, ep, ys, h4, h5, h6, h7, h8⟩, _⟩ := I.hok d _ h
    rw [hg] at h4
    cases h4
    have hl : xs.length = ys.length := Paired.len h7
    have hsz : es.size = ys.length := by
      have := congrArg List.length (h8 X.w)
      rw [List.length_map, Array.length_toList] at this
      exact this
    refine ⟨h1, hg, h5, es, ep, h6, by rw [List.length_map, hsz, hl], by rw [List.length_map]; exact h2, fun i hi => ?_⟩
    have go : ∀ {xs : List (NestedKey × Addr × V)} {ys : List (NestedKey × Addr × Value)} {i : Nat} {y}, Paired EntV xs ys → ys[i]? = some y → ∃ x, xs[i]? = some x ∧ EntV x y := fun {xs} => by
      induction xs with
      | nil => intro ys i y q h; cases q; simp at h
      | cons p xs ih =>
        intro ys i y q h
        cases q with
        | cons q1 q2 =>
          cases i with
          | zero =>
            simp at h
            subst h
            exact ⟨p, rfl, q1⟩
          | succ i =>
            simp at h
            obtain ⟨x, e1, e2⟩ := ih q2 h
            exact ⟨x, by simpa using e1, e2⟩
    have hiy : i < ys.length := by omega
    obtain ⟨x, hx, ex⟩ := go h7 (List.getElem?_eq_getElem hiy)
    have e1 : es.toList[i]? = some (⟨ys[i].1.hash X.w, .ref ys[i].2.1, ys[i].2.2⟩ : DictEntry) := by
      rw [h8 X.w, List.getElem?_map, List.getElem?_eq_getElem hiy]
      rfl
    rw [Array.getElem?_toList, Array.getElem?_eq_getElem hi] at e1
    have e2 := Option.some.inj e1
    refine ⟨(.ref x.2.1, x.2.2), by rw [List.getElem?_map, hx]; rfl, ?_, ?_⟩
    · rw [e2]
      show Value.ref ys[i].2.1 = Value.ref x.2.1
      rw [ex.2.1]
    · rw [e2]
      exact ex.2.2
end
/-- how the iterator stands -/
def stG (k : WK) (h : Heap) (it d : Addr) (i n ep : Nat) : Prop := match k with
  | .keys => h.IsKeyIter it d i n ep
  | .vals => h.IsValIter it d i n ep
  | .items => ∃ ok ov, IsItemIter h it d i n ep ok ov
def tgOk (k : WK) (tg : Expr) : Prop := match k with
  | .items => ∃ elts kk tpos, tg = .Tuple elts kk tpos
  | _ => True
theorem turn_G {P : Program} {w : World} {K : PySem.W.Frag} {tg : Expr} {d : Addr} {o : Obj} {u : HO} {ps : List (V × V)} {es : Array DictEntry} {ep : Nat} (k : WK) (it : Addr) (htg : tgOk k tg) (hod : o.data = .dict es ep) (hp : PsOf d u ps) : Turn P w K tg (ItG k d o u ps) [it] it (fun i h => stG k h it d i ps.length ep) where
  mem := by simp
  obj := fun i h st b hb => by
    have e : b = it := by simpa using hb
    subst e
    cases k with
    | keys =>
      obtain ⟨oi, e, c, dd⟩ := (show h.IsKeyIter b d i ps.length ep from st)
      exact ⟨oi, e, fun v z => by rw [dd] at z; cases z⟩
    | vals =>
      obtain ⟨oi, e, c, dd⟩ := (show h.IsValIter b d i ps.length ep from st)
      exact ⟨oi, e, fun v z => by rw [dd] at z; cases z⟩
    | items =>
      obtain ⟨ok, ov, e⟩ := st
      exact ⟨_, e, fun v z => nomatch z⟩
  keep := fun i h h' st q => by
    cases k with
    | keys => exact (show h.IsKeyIter it d i ps.length ep from st).at fun oi e => q it (by simp) oi e
    | vals => exact (show h.IsValIter it d i ps.length ep from st).at fun oi e => q it (by simp) oi e
    | items =>
      obtain ⟨ok, ov, e⟩ := st
      exact ⟨ok, ov, q it (by simp) _ e⟩
  item := by
    intro X hP hw hK hc i pins s σ H E I hf st hg
    subst hP hw hK
    obtain ⟨hd, hi⟩ := hg
    obtain ⟨f0, f1, f2, f3, f4, f5⟩ := hf it (by simp)
    obtain ⟨hs, hgd, hx, es', ep', hdt, hsz, hzl, ent⟩ := frzG I hd hp
    obtain ⟨rfl, rfl⟩ := dict_ep hod hdt
    have hm : s.heap.DictRaw d es' ep' := ⟨o, hgd, hx, hdt⟩
    have hi2 : i < es'.size := by rw [hsz]; exact hi
    obtain ⟨p, hp1, r1, r2⟩ := ent i hi2
    have st1 := st
    rw [← hsz] at st1
    cases k with
    | keys =>
      refine wpAny_pyNext_keys_item_raw (show s.heap.IsKeyIter it d i es'.size ep' from st1) hm hi2 fun h' st' sb => ?_
      have I1 : Inv X pins σ H { s with heap := h' } := I.turned (t' := s.toks) (fun b ob hb e => (sb.2 b hb).trans e) f0 f1 f3 f4 f5
      obtain ⟨oi, e, c, dd⟩ := id st'
      refine ⟨es'[i].key, rfl, go_of (s := { s with heap := h' }) e c dd (by decide) ⟨p.1, H, I1, r1, ⟨rfl, p, hp1, rfl⟩, ?_, fun b hb => (hf b hb).1⟩⟩
      show h'.IsKeyIter it d (i + 1) ps.length _
      rw [← hsz]
      exact st'
    | vals =>
      refine wpAny_pyNext_values_item_raw (show s.heap.IsValIter it d i es'.size ep' from st1) hm hi2 fun h' st' sb => ?_
      have I1 : Inv X pins σ H { s with heap := h' } := I.turned (t' := s.toks) (fun b ob hb e => (sb.2 b hb).trans e) f0 f1 f3 f4 f5
      obtain ⟨oi, e, c, dd⟩ := id st'
      refine ⟨es'[i].val, rfl, go_of (s := { s with heap := h' }) e c dd (by decide) ⟨p.2, H, I1, r2, ⟨rfl, p, hp1, rfl⟩, ?_, fun b hb => (hf b hb).1⟩⟩
      show h'.IsValIter it d (i + 1) ps.length _
      rw [← hsz]
      exact st'
    | items =>
      obtain ⟨elts, kk, tpos, rfl⟩ := (show ∃ elts kk tpos, tg = .Tuple elts kk tpos from htg)
      obtain ⟨ok, ov, he⟩ := st1
      have hlt : it < s.heap.objs.size := Heap.lt_size he
      refine wpAny_pyNext_items_item_raw he hm hi2 fun h' ho hT hz hk => ?_
      refine ⟨_, rfl, wpAny_letOwnedTupleGo_items (s := { s with heap := h' }) ho fun h'' he' sb => ?_⟩
      have hT2 : h''.get? s.heap.objs.size = some { cls := .type "tuple", data := .seq #[es'[i].key, es'[i].val] } := (sb.2 _ (Nat.ne_of_gt hlt)).trans hT
      have new : ObjOk X.prog X.w (upd H s.heap.objs.size (.tup [p.1, p.2])) h'' s.heap.objs.size (.tup [p.1, p.2]) :=
        ⟨by show 2 ≤ sizeLine; decide, [es'[i].key, es'[i].val], .cons r1 (.cons r2 .nil), ⟨_, hT2, rfl, _, rfl⟩⟩
      have I1 : Inv X pins σ (upd H s.heap.objs.size (.tup [p.1, p.2])) { s with heap := h'' } :=
        I.turnedNew (t' := s.toks) (ch := [it]) (fun b ob hb e => (sb.2 b (by simpa using hb)).trans (hk b ob (by simpa using hb) e)) hf (Nat.le_refl _) new
      refine ⟨.ref s.heap.objs.size, _, I1, rfl, ⟨_, p, hp1, rfl, I.hok.fresh (Nat.le_refl _), rfl⟩, ⟨es'[i].key, es'[i].val, ?_⟩, fun b hb => ?_⟩
      · rw [← hsz]; exact he'
      · have e : b = it := by simpa using hb
        rw [e, upd_ne (Nat.ne_of_lt hlt)]
        exact (hf it (by simp)).1
  done := by
    intro X hP hw hK hc i pins s σ H E I hf st hg
    subst hP hw hK
    obtain ⟨hd, hi⟩ := hg
    obtain ⟨f0, f1, f2, f3, f4, f5⟩ := hf it (by simp)
    obtain ⟨hs, hgd, hx, es', ep', hdt, hsz, hzl, ent⟩ := frzG I hd hp
    obtain ⟨rfl, rfl⟩ := dict_ep hod hdt
    have hm : s.heap.DictRaw d es' ep' := ⟨o, hgd, hx, hdt⟩
    have st1 := st
    rw [← hsz] at st1 hi
    cases k with
    | keys => exact wpAny_pyNext_keys_end_raw (I.ok.hd hc) (show s.heap.IsKeyIter it d i es'.size ep' from st1) hm hi fun h' eb => ⟨rfl, I.turned (t' := s.toks) (fun b ob hb e => eb b ob hb e) f0 f1 f3 f4 f5⟩
    | vals => exact wpAny_pyNext_values_end_raw (I.ok.hd hc) (show s.heap.IsValIter it d i es'.size ep' from st1) hm hi fun h' eb => ⟨rfl, I.turned (t' := s.toks) (fun b ob hb e => eb b ob hb e) f0 f1 f3 f4 f5⟩
    | items =>
      obtain ⟨ok, ov, he⟩ := st1
      exact wpAny_pyNext_items_end_raw (I.ok.hd hc) he hm hi fun h' eb => ⟨rfl, I.turned (t' := s.toks) (fun b ob hb e => eb b ob hb e) f0 f1 f3 f4 f5⟩
  self := fun A i s Q E st h => by
    cases k with
    | keys => exact wpAny_pyIter_keyiter (show s.heap.IsKeyIter it d i ps.length ep from st) h
    | vals => exact wpAny_pyIter_valiter (show s.heap.IsValIter it d i ps.length ep from st) h
    | items =>
      obtain ⟨ok, ov, he⟩ := st
      exact wpAny_pyIter_itemiter he h
/-- the dict is locked by the caller -/
def iG (k : WK) (td : TE) : TI := fun σ H R => td σ H fun x H1 => ∃ d o u ps, x = .ref d ∧ H1 d = some (.frz o u) ∧ PsOf d u ps ∧ R (ItG k d o u ps) H1
section
variable {X : Cx} {tg e : Expr} {td : TE} {apos cpos : Pos}
theorem pi_keysG (he : PE X e td) : PI X tg e (iG .keys td) := by
  refine ⟨fun pins s σ H R I h => ?_⟩
  refine thn (he.run pins s σ H _ I h) fun u s1 ⟨x, H1, I1, rx, d, o, w, ps, ex, hd, hp, q⟩ => ?_
  subst ex
  obtain rfl : u = Value.ref d := rx
  obtain ⟨hs, hgd, hx, es, ep, hdt, hsz, _, ent⟩ := frzG I1 hd hp
  refine wpAny_pyIter_dict_raw hs ⟨o, hgd, hx, hdt⟩ (pi_one (tk := s1.toks) I1 _ (turn_G .keys _ trivial hdt hp) ⟨_, Heap.get?_push_size _ rfl, rfl, ?_⟩ q)
  rw [hsz] <;> rfl
theorem pi_valsG (he : PE X e td) (hbase : attributeBase e "values" X.env (eval e X.env) = eval e X.env := by rfl) (hline : (apos.endLine == cpos.line) = true := by rfl) : PI X tg (.Call (.Attribute e "values" apos) [] [] cpos) (iG .vals td) := by
  refine ⟨fun pins s σ H R I h => ?_⟩
  refine wpAny_Call_method (T := "dict") (id := "dict.values") hbase rfl hline F.plainAttrs_dict F.slot_dict_values F.type_dict_values (thn (he.run pins s σ H _ I h) fun u s1 ⟨x, H1, I1, rx, d, o, w, ps, ex, hd, hp, q⟩ => ?_)
  subst ex
  obtain rfl : u = Value.ref d := rx
  obtain ⟨hs, hgd, hx, es, ep, hdt, hsz, _, ent⟩ := frzG I1 hd hp
  have hm : s1.heap.DictRaw d es ep := ⟨o, hgd, hx, hdt⟩
  refine ⟨hm.typeIs, fun b eb => by cases eb; exact ⟨o, hgd, hx.2.1⟩, ?_⟩
  have I2 : Inv X pins σ H1 { s1 with heap := s1.heap.push { cls := .type "dict_values", data := .fields #[.ref d] } } := I1.kept (t' := s1.toks) fun b ob q => Heap.get?_push_of_some _ q
  have fin : wpAny (model X.prog X.w) X.A (pyIter (.ref s1.heap.objs.size)) (PIE X pins σ tg R) X.xe { s1 with heap := s1.heap.push { cls := .type "dict_values", data := .fields #[.ref d] } } := by
    refine wpAny_pyIter_values_raw (d := d) (es := es) (ep := ep) ⟨_, Heap.get?_push_size _ rfl, rfl, rfl⟩ (hm.at fun o' e' => Heap.get?_push_of_some _ e') (pi_one (tk := s1.toks) I2 _ (turn_G .vals _ trivial hdt hp) ⟨_, Heap.get?_push_size _ rfl, rfl, ?_⟩ q)
    rw [hsz] <;> rfl
  show wpAny _ _ (callWith cpos (.builtin "dict.values") [.ref d] [] []) _ X.xe s1
  exact method_meetsIn F.slot_dict_values F.entry_dict_values rfl (PySem.evalArgs_none ⟨rfl, hm.typeIs, F.args_dict_values_1 _, _, meets_dict_values_raw d hs, ⟨⟨_, _, hm⟩, fin⟩⟩)
theorem pi_itemsG {elts : List Expr} {kk : Nat} {tpos : Pos} (he : PE X e td) (hbase : attributeBase e "items" X.env (eval e X.env) = eval e X.env := by rfl) (hline : (apos.endLine == cpos.line) = true := by rfl) :
    PI X (.Tuple elts kk tpos) (.Call (.Attribute e "items" apos) [] [] cpos) (iG .items td) := by
  refine ⟨fun pins s σ H R I h => ?_⟩
  refine wpAny_Call_method (T := "dict") (id := "dict.items") hbase rfl hline F.plainAttrs_dict F.slot_dict_items F.type_dict_items (thn (he.run pins s σ H _ I h) fun u s1 ⟨x, H1, I1, rx, d, o, w, ps, ex, hd, hp, q⟩ => ?_)
  subst ex
  obtain rfl : u = Value.ref d := rx
  obtain ⟨hs, hgd, hx, es, ep, hdt, hsz, _, ent⟩ := frzG I1 hd hp
  have hm : s1.heap.DictRaw d es ep := ⟨o, hgd, hx, hdt⟩
  refine ⟨hm.typeIs, fun b eb => by cases eb; exact ⟨o, hgd, hx.2.1⟩, ?_⟩
  have I2 : Inv X pins σ H1 { s1 with heap := s1.heap.push { cls := .type "dict_items", data := .fields #[.ref d] } } := I1.kept (t' := s1.toks) fun b ob q => Heap.get?_push_of_some _ q
  have fin : wpAny (model X.prog X.w) X.A (pyIter (.ref s1.heap.objs.size)) (PIE X pins σ (.Tuple elts kk tpos) R) X.xe { s1 with heap := s1.heap.push { cls := .type "dict_items", data := .fields #[.ref d] } } := by
    refine wpAny_pyIter_items_raw (d := d) (es := es) (ep := ep) ⟨_, Heap.get?_push_size _ rfl, rfl, rfl⟩ (hm.at fun o' e' => Heap.get?_push_of_some _ e') (pi_one (tk := s1.toks) I2 _ (turn_G .items _ ⟨elts, kk, tpos, rfl⟩ hdt hp) ⟨.none, .none, ?_⟩ q)
    rw [← hsz]
    exact Heap.get?_push_size _ rfl
  show wpAny _ _ (callWith cpos (.builtin "dict.items") [.ref d] [] []) _ X.xe s1
  exact method_meetsIn F.slot_dict_items F.entry_dict_items rfl (PySem.evalArgs_none ⟨rfl, hm.typeIs, F.args_dict_items_1 _, _, meets_dict_items_raw d hs, ⟨⟨_, _, hm⟩, fin⟩⟩)
end
/-- what is walked, as data -/
def wkD : WK → D × D → D
  | .keys, q => q.1
  | .vals, q => q.2
  | .items, q => .tuple [q.1, q.2]
def wkY (k : WK) (ps : List (V × V)) : Nat → Hp → V → Hp → Prop := fun i H x H' => match k with
  | .keys => H' = H ∧ ∃ p, ps[i]? = some p ∧ x = p.1
  | .vals => H' = H ∧ ∃ p, ps[i]? = some p ∧ x = p.2
  | .items => ∃ T p, ps[i]? = some p ∧ x = .ref T ∧ H T = none ∧ H' = upd H T (.tup [p.1, p.2])
theorem walk_G {k : WK} {d : Addr} {o : Obj} {u : HO} {ps : List (V × V)} : Walk (ItG k d o u ps) ps.length (fun H => H d = some (.frz o u)) (wkY k ps) :=
  ⟨fun _ _ hi q => ⟨q, hi⟩, fun _ q => ⟨q, Nat.le_refl _⟩, fun _ _ _ _ _ _ y => y⟩
theorem wk_ok {K : PySem.W.Frag} {F' : Hp} {k : WK} : ∀ {ps : List (V × V)} {kv : List (D × D)}, Paired (GP K F') ps kv → YOk K F' (kv.map (wkD k)) (wkY k ps) := fun {ps kv} hp i H1 v H2 F1 hi h1 h2 y => by
  have get : ∀ {ps : List (V × V)} {kv : List (D × D)} {i : Nat} {p : V × V}, Paired (GP K F') ps kv → ps[i]? = some p → ∃ q, kv[i]? = some q ∧ GP K F' p q := fun {ps} => by
    induction ps with
    | nil => intro kv i p q h; simp at h
    | cons x ps ih =>
      intro kv i p q h
      cases q with
      | cons q1 q2 =>
        cases i with
        | zero =>
          simp at h
          subst h
          exact ⟨_, rfl, q1⟩
        | succ i =>
          simp at h
          obtain ⟨z, e1, e2⟩ := ih q2 h
          exact ⟨z, by simpa using e1, e2⟩
  cases k with
  | keys =>
    obtain ⟨rfl, p, hp1, rfl⟩ := (show H2 = H1 ∧ ∃ p, ps[i]? = some p ∧ v = p.1 from y)
    obtain ⟨q, hq, g1, g2⟩ := get hp hp1
    exact ⟨q.1, by rw [List.getElem?_map, hq]; rfl, .inl ⟨rfl, Dp.mono h1 _ _ g1⟩⟩
  | vals =>
    obtain ⟨rfl, p, hp1, rfl⟩ := (show H2 = H1 ∧ ∃ p, ps[i]? = some p ∧ v = p.2 from y)
    obtain ⟨q, hq, g1, g2⟩ := get hp hp1
    exact ⟨q.2, by rw [List.getElem?_map, hq]; rfl, .inl ⟨rfl, Dp.mono h1 _ _ g2⟩⟩
  | items =>
    obtain ⟨T, p, hp1, rfl, hT, rfl⟩ := (show ∃ T p, ps[i]? = some p ∧ v = .ref T ∧ H1 T = none ∧ H2 = upd H1 T (.tup [p.1, p.2]) from y)
    obtain ⟨q, hq, g1, g2⟩ := get hp hp1
    exact ⟨.tuple [q.1, q.2], by rw [List.getElem?_map, hq]; rfl, .inr ⟨T, _, _, rfl, hT, rfl, rfl, .cons (Dp.mono h1 _ _ g1) (.cons (Dp.mono h1 _ _ g2) .nil)⟩⟩
end DV

/-! DV: dicts in loops and comprehensions (locked while they are walked) -/
namespace DV
open PySem L2 PyProof.Rows LamX
theorem DictR.mut {K : PySem.W.Frag} {F : Hp} {a : Addr} {u : HO} {c : DC} (R : DictR K F a u c) : L2.Mut (some u) := by
  unfold DictR at R
  cases e : c.t with
  | false =>
    rw [e] at R
    obtain ⟨ks, rfl, _⟩ := R
    exact trivial
  | true =>
    rw [e] at R
    obtain ⟨xs, rfl, _⟩ := R
    exact trivial
section
variable {X : Cx} {K : PySem.W.Frag} {R : Option Addr} {L : Nat → Option (Addr × List V)} {E F F' H H' : Hp} {ρ ρ' : Env} {σ σ' : L2.St} {rs rs' : RS}
theorem Rel.lockG (r : Rel K R L E F ρ σ rs H) {i : Nat} {c : DC} {a : Addr} {u : HO} (od : Obj) (e : ρ[i]? = some (some (SV.g c))) (ea : σ[i]? = some (some (V.ref a))) (hu : H a = some u) :
    Rel K R L (upd E a (.frz od u)) F (ρ.set i none) σ rs (upd H a (.frz od u)) ∧ DictR K F a u c ∧ E a = none ∧ F a = none ∧ some a ≠ R := by
  obtain ⟨v, e1, b, u2, q1, q2, q3, q4, q5, q6⟩ := r.sl i _ e
  rw [ea] at e1
  cases e1
  cases q1
  rw [hu] at q2
  cases q2
  have hl : i < ρ.length := (List.getElem?_eq_some_iff.mp e).1
  have r1 := r.forget i
  refine ⟨⟨r1.len, fun b o q => ?_, fun b o q => ?_, fun b o q => ?_, ⟨fun q eq => ?_, tabs_updG r.row.tab hu (fun ps => q6.noTbl) (fun q => q6.noCode), r.row.fnt⟩, fun q eq => ⟨?_, (r.rE q eq).2⟩, fun j b ws eb => ?_, fun j sw ej => ?_, r1.own⟩, q6, q3, q4, q5⟩
  · by_cases hb : b = a
    · subst hb; rw [upd_same] at q ⊢; exact q
    · rw [upd_ne hb] at q ⊢; exact r.ex b o q
  · by_cases hb : b = a
    · subst hb; rw [upd_same] at q; cases q; exact .inl fun _ z => nomatch z
    · rw [upd_ne hb] at q; exact r.ent b o q
  · rw [upd_ne (fun z => by rw [z, q4] at q; cases q)]
    exact r.fr b o q
  · obtain ⟨c, k1, k2, k3⟩ := r.row.at_ q eq
    exact ⟨c, by rw [upd_ne (fun zz => q5 (by rw [← zz, eq]))]; exact k1, k2, k3⟩
  · rw [upd_ne (fun z => q5 (by rw [← z, eq]))]
    exact (r.rE q eq).1
  · have := r.lk j b ws eb
    rw [upd_ne (fun z => by rw [z, q3] at this; cases this)]
    exact this
  · have hj : j ≠ i := by
      rintro rfl
      rw [List.getElem?_set_self hl] at ej
      cases ej
    have ej' := ej
    rw [List.getElem?_set_ne (Ne.symm hj)] at ej'
    obtain ⟨w, k1, k2⟩ := r.sl j sw ej'
    refine ⟨w, k1, ?_⟩
    cases sw with
    | d x => exact k2
    | k ds => exact k2
    | un => exact trivial
    | ex _ _ => exact k2
    | fn _ => exact k2
    | row => exact k2
    | o x =>
      obtain ⟨b, us, rfl, z1, z2, z3, z4, z5⟩ := k2
      have hba : b ≠ a := by
        rintro rfl
        exact hj (r.own j i b _ _ ej' e trivial trivial k1 ea)
      exact ⟨b, us, rfl, by rw [upd_ne hba]; exact z1, by rw [upd_ne hba]; exact z2, z3, z4, z5⟩
    | g x =>
      obtain ⟨b, us, rfl, z1, z2, z3, z4, z5⟩ := k2
      have hba : b ≠ a := by
        rintro rfl
        exact hj (r.own j i b _ _ ej' e trivial trivial k1 ea)
      exact ⟨b, us, rfl, by rw [upd_ne hba]; exact z1, by rw [upd_ne hba]; exact z2, z3, z4, z5⟩
theorem FStep.unlockG {a : Addr} {o : HO} (s : FStep R (upd E a o) F F') (hE : E a = none) (hF : F a = none) : FStep R E F F' ∧ F' a = none := by
  refine ⟨⟨s.sub, fun b u q => ?_⟩, ?_⟩
  · rcases s.new b u q with z | ⟨z1, z2⟩
    · exact .inl z
    · refine .inr ⟨?_, z2⟩
      rw [upd_ne (fun z => by rw [z, upd_same] at z1; cases z1)] at z1
      exact z1
  · cases q : F' a with
    | none => rfl
    | some u =>
      rcases s.new a u q with z | ⟨z1, _⟩
      · rw [hF] at z; cases z
      · rw [upd_same] at z1; cases z1
theorem Rel.unlockG {a : Addr} {u : HO} {od : Obj} {F2 H2 : Hp} {ρ2 : Env} {σ2 : L2.St} {rs2 : RS} (r0 : Rel K R L E F ρ σ rs H) (r2 : Rel K R L (upd E a (.frz od u)) F2 ρ2 σ2 rs2 H2) (hE : E a = none) (hF : F2 a = none) (hR : some a ≠ R) :
    H2 a = some (.frz od u) ∧ Rel K R L E F2 ρ2 σ2 rs2 (upd H2 a u) := by
  have ha : H2 a = some (.frz od u) := r2.ex a _ upd_same
  refine ⟨ha, ⟨r2.len, fun b o q => ?_, r0.ent, fun b o q => ?_, ⟨fun q eq => ?_, tabs_updG r2.row.tab ha (fun ps z => nomatch z) (fun q z => by unfold CodeO at z; cases z), r2.row.fnt⟩, fun q eq => ⟨(r0.rE q eq).1, (r2.rE q eq).2⟩, r0.lk, fun j sw ej => ?_, r2.own⟩⟩
  · have hb : b ≠ a := fun z => by rw [z, hE] at q; cases q
    rw [upd_ne hb]
    exact r2.ex b o (by rw [upd_ne hb]; exact q)
  · rw [upd_ne (fun z => by rw [z, hF] at q; cases q)]
    exact r2.fr b o q
  · obtain ⟨c, k1, k2, k3⟩ := r2.row.at_ q eq
    exact ⟨c, by rw [upd_ne (fun zz => hR (by rw [← zz, eq]))]; exact k1, k2, k3⟩
  · obtain ⟨w, k1, k2⟩ := r2.sl j sw ej
    refine ⟨w, k1, ?_⟩
    cases sw with
    | d x => exact k2
    | k ds => exact k2
    | un => exact trivial
    | ex _ _ => exact k2
    | fn _ => exact k2
    | row => exact k2
    | o x =>
      obtain ⟨b, us, rfl, z1, z2, z3, z4, z5⟩ := k2
      have hba : b ≠ a := fun z => by rw [z, upd_same] at z2; cases z2
      exact ⟨b, us, rfl, by rw [upd_ne hba]; exact z1, by rw [upd_ne hba] at z2; exact z2, z3, z4, z5⟩
    | g x =>
      obtain ⟨b, us, rfl, z1, z2, z3, z4, z5⟩ := k2
      have hba : b ≠ a := fun z => by rw [z, upd_same] at z2; cases z2
      exact ⟨b, us, rfl, by rw [upd_ne hba]; exact z1, by rw [upd_ne hba] at z2; exact z2, z3, z4, z5⟩
theorem Ret.unlockG {a : Addr} {u : HO} {od : Obj} {F2 H2 : Hp} {v : V} {x : RV} (q : Ret K R rs' (upd E a (.frz od u)) F F2 H2 v x) (hE : E a = none) (hF : F a = none) (hR : some a ≠ R) : H2 a = some (.frz od u) ∧ Ret K R rs' E F F2 (upd H2 a u) v x := by
  have ha : H2 a = some (.frz od u) := q.ex a _ upd_same
  obtain ⟨fs, hF2⟩ := q.fs.unlockG hE hF
  refine ⟨ha, ⟨fs, fun b o z => ?_, fun b o z => ?_, ⟨fun r eq => ?_, tabs_updG q.row.tab ha (fun ps z => nomatch z) (fun q z => by unfold CodeO at z; cases z), q.row.fnt⟩, q.rF, ?_⟩⟩
  · have hb : b ≠ a := fun y => by rw [y, hE] at z; cases z
    rw [upd_ne hb]
    exact q.ex b o (by rw [upd_ne hb]; exact z)
  · rw [upd_ne (fun y => by rw [y, hF2] at z; cases z)]
    exact q.fr b o z
  · obtain ⟨c, k1, k2, k3⟩ := q.row.at_ r eq
    exact ⟨c, by rw [upd_ne (fun zz => hR (by rw [← zz, eq]))]; exact k1, k2, k3⟩
  · have hv := q.val
    cases x with
    | d y => exact hv
    | n ds =>
      obtain ⟨b, vs, z1, z2, z3, z4, z5, z6⟩ := hv
      have hba : b ≠ a := fun z => by rw [z, upd_same] at z3; cases z3
      exact ⟨b, vs, z1, by rw [upd_ne hba]; exact z2, by rw [upd_ne hba] at z3; exact z3, z4, z5, z6⟩
    | gn c =>
      obtain ⟨b, vs, z1, z2, z3, z4, z5, z6⟩ := hv
      have hba : b ≠ a := fun z => by rw [z, upd_same] at z3; cases z3
      exact ⟨b, vs, z1, by rw [upd_ne hba]; exact z2, by rw [upd_ne hba] at z3; exact z3, z4, z5, z6⟩
    | b ds => exact hv.elim
    | gb c => exact hv.elim
    | row => exact hv.elim
/-- what the locked dict hands out -/
theorem iG_ok {k : WK} {i : Nat} {a : Addr} {u : HO} {od : Obj} {c : DC} {ρ1 : Env} {E1 H1 : Hp} (r1 : Rel K R L E1 F ρ1 σ rs H1) (ea : σ[i]? = some (some (V.ref a))) (hE : E1 a = some (.frz od u)) (hR : some a ≠ R) (D : DictR K F a u c) (hl : c.kv.length ≤ 100000)
    {Rq : It → Hp → Prop} (kk : ∀ J F' H', Step K R rs F H1 F' H' → IterOk K R E1 ρ1 σ H1 F' H' J (c.kv.map (wkD k)) none → Rq J H') : iG k (tVar i) σ H1 Rq := by
  obtain ⟨ps, hps, hpr⟩ := D.ps
  have h1 := r1.ex a _ hE
  refine ⟨_, ea, a, od, u, ps, rfl, h1, hps, kk _ F H1 r1.refl ⟨fun H => H a = some (.frz od u), wkY k ps, fun b => if b = a then some (.frz od u) else none, ?_, fun b o q => ?_, fun H2 q _ => q a _ (if_pos rfl), wk_ok hpr⟩⟩
  · rw [List.length_map, ← Paired.len hpr]
    exact walk_G
  · by_cases hb : b = a
    · have q' : (if b = a then some (HO.frz od u) else none) = some o := q
      rw [if_pos hb] at q'
      cases q'
      subst hb
      exact ⟨h1, hR, .inl fun _ z => (nomatch z), .inr (.inl hE)⟩
    · have q' : (if b = a then some (HO.frz od u) else none) = some o := q
      rw [if_neg hb] at q'
      cases q'
variable {S S' : List Nat} {tg it elt e c : Expr} {es ifs : List Expr} {g : TG} {hg : D → Env → Option Env} {pos p spos apos cpos : Pos} {st : Stmt} {body : List Stmt} {tb : TS} {tt : TT} {te : TE}
/-! ### for .. in d -/
def sForG (k : WK) (i : Nat) (tg : D → Env → Option Env) (body : Env → M Out) : Env → M Out := fun ρ => match own_g ρ i with
  | some c => if c.kv.length ≤ 100000 then sFor (fun _ => ret (c.kv.map (wkD k), none)) tg body (ρ.set i none) else fail
  | none => fail
theorem ssem_forG {k : WK} {i : Nat} {gb : Env → M Out} (hgs : GSem K R S g hg) (hb : SSem K R tb gb) : SSem K R (tLock (tFor (iG k (tVar i)) g tb)) (sForG k i hg gb) := fun L E F ρ σ rs H o rs' Dn r hf kk => by
  unfold sForG at hf
  cases eo : own_g ρ i with
  | none => rw [eo] at hf; cases hf
  | some c =>
    rw [eo] at hf
    by_cases hl : c.kv.length ≤ 100000
    · simp only [hl, if_true] at hf
      have e := ownG_some eo
      obtain ⟨v, ea, a, u, rfl, hu, _, _, _, hD⟩ := r.sl i _ e
      refine ⟨a, u, hu, hD.mut, fun od => ?_⟩
      obtain ⟨r1, _, hE, hF, hR⟩ := r.lockG od e ea hu
      refine ssem_for_at r1 (fun its lk rs1 Rq ef k1 => ?_) hgs hb hf ?_
      · obtain ⟨q1, q2⟩ := ret_some ef
        cases q1
        subst q2
        exact iG_ok r1 ea upd_same hR hD hl k1
      · cases o with
        | nx ρ' =>
          exact fun σ' F' H' fs r' => by
            obtain ⟨fs', hF'⟩ := fs.unlockG hE hF
            obtain ⟨h1, r2⟩ := Rel.unlockG r r' hE hF' hR
            exact ⟨h1, kk σ' F' _ fs' r2⟩
        | bk ρ' =>
          exact fun σ' F' H' fs r' => by
            obtain ⟨fs', hF'⟩ := fs.unlockG hE hF
            obtain ⟨h1, r2⟩ := Rel.unlockG r r' hE hF' hR
            exact ⟨h1, kk σ' F' _ fs' r2⟩
        | ct ρ' =>
          exact fun σ' F' H' fs r' => by
            obtain ⟨fs', hF'⟩ := fs.unlockG hE hF
            obtain ⟨h1, r2⟩ := Rel.unlockG r r' hE hF' hR
            exact ⟨h1, kk σ' F' _ fs' r2⟩
        | rt x =>
          exact fun v F' H' q => by
            obtain ⟨h1, q2⟩ := q.unlockG hE hF hR
            exact ⟨h1, kk v F' _ q2⟩
    · simp only [hl, if_false] at hf
      cases hf
theorem ds_forG {k : WK} {i : Nat} {gb : Env → M Out} (hp : PassesOwn (model X.prog X.w) X.A X.env X.xe) (hc : X.calm = true) (hi : PI X tg it (iG k (tVar i))) (hg' : DG X R S tg g hg) (hb : DSs X R body tb gb)
    (hs : ∀ x, foldedSetIterable it X.env x = pure x := by intro _; rfl) : DS X R (.For tg it body [] pos) (tLock (tFor (iG k (tVar i)) g tb)) (sForG k i hg gb) := ⟨ps_lock (ps_for hp hc hi hg'.pg hb.ps hs), ssem_forG hg'.sem hb.sem⟩
/-! ### [.. for .. in d] -/
theorem Step.unlockG {a : Addr} {u : HO} {od : Obj} {F2 H2 : Hp} (hu : H a = some u) (hF : F a = none) (hR : some a ≠ R) (s : Step K R rs' F (upd H a (.frz od u)) F2 H2) : H2 a = some (.frz od u) ∧ F2 a = none ∧ Step K R rs' F H F2 (upd H2 a u) := by
  have ha : H2 a = some (.frz od u) := s.keep a _ upd_same hR
  have hF2 : F2 a = none := by
    cases q : F2 a with
    | none => rfl
    | some o =>
      rcases s.new a o q with z | z
      · rw [hF] at z; cases z
      · rw [upd_same] at z; cases z
  refine ⟨ha, hF2, ⟨fun b o q n f => ?_, s.sub, fun b o q => ?_, fun b o q => ?_, ⟨fun r eq => ?_, tabs_updG s.row.tab ha (fun ps z => nomatch z) (fun q z => by unfold CodeO at z; cases z), s.row.fnt⟩, s.rF⟩⟩
  · by_cases hb : b = a
    · subst hb; rw [upd_same, ← hu]; exact q
    · rw [upd_ne hb]
      exact s.keep b o (by rw [upd_ne hb]; exact q) n f
  · rcases s.new b o q with z | z
    · exact .inl z
    · refine .inr ?_
      rw [upd_ne (fun y => by rw [y, upd_same] at z; cases z)] at z
      exact z
  · rw [upd_ne (fun y => by rw [y, hF2] at q; cases q)]
    exact s.fin b o q
  · obtain ⟨c, k1, k2, k3⟩ := s.row.at_ r eq
    exact ⟨c, by rw [upd_ne (fun zz => hR (by rw [← zz, eq]))]; exact k1, k2, k3⟩
theorem VR.unlockN {a : Addr} {u : HO} {od : Obj} {F2 H2 : Hp} {v : V} {ds : List D} (h : VR K R F2 (upd H a (.frz od u)) H2 v (.n ds)) : VR K R F2 H (upd H2 a u) v (.n ds) := by
  obtain ⟨b, vs, z1, z2, z3, z4⟩ := h
  have hba : b ≠ a := fun z => by rw [z, upd_same] at z3; cases z3
  exact ⟨b, vs, z1, by rw [upd_ne hba]; exact z2, by rw [upd_ne hba] at z3; exact z3, z4⟩
theorem eLc_new {fi : Env → M (List D × Option Nat)} {vs : List Nat} {tst : Env → M Bool} {el : Env → M RV} {x : RV} (h : eLc fi vs hg tst el ρ rs = some (x, rs')) : ∃ ds, x = .n ds := by
  obtain ⟨p, rs1, e1, h1⟩ := bnd_some h
  obtain ⟨ds, rs2, e2, h2⟩ := bnd_some h1
  by_cases hl : p.1.length ≤ 10000
  · rw [if_pos hl] at h2
    obtain ⟨e3, _⟩ := ret_some h2
    exact ⟨ds, e3.symm⟩
  · rw [if_neg hl] at h2
    cases h2
theorem eLc2_new {fi fi1 : Env → M (List D × Option Nat)} {vs vs1 : List Nat} {tst tst1 : Env → M Bool} {hg1 : D → Env → Option Env} {el : Env → M RV} {x : RV} (h : eLc2 fi vs hg tst fi1 vs1 hg1 tst1 el ρ rs = some (x, rs')) : ∃ ds, x = .n ds := by
  obtain ⟨p, rs1, e1, h1⟩ := bnd_some h
  obtain ⟨ds, rs2, e2, h2⟩ := bnd_some h1
  by_cases hl : ds.length ≤ 10000
  · rw [if_pos hl] at h2
    obtain ⟨e3, _⟩ := ret_some h2
    exact ⟨ds, e3.symm⟩
  · rw [if_neg hl] at h2
    cases h2
def eLcG (k : WK) (i : Nat) (vs : List Nat) (tg : D → Env → Option Env) (tst : Env → M Bool) (el : Env → M RV) : Env → M RV := fun ρ => match own_g ρ i with
  | some c => if c.kv.length ≤ 100000 then eLc (fun _ => ret (c.kv.map (wkD k), none)) vs tg tst el (ρ.set i none) else fail
  | none => fail
theorem esem_lcG {k : WK} {i : Nat} {vs : List Nat} {tst : Env → M Bool} {el : Env → M RV} (hgs : GSem K R S g hg) (hS : ∀ i ∈ S, i ∈ vs) (ht : TSem K R tt tst) (he : ESem K R te el) : ESem K R (tLockE (tLc (iG k (tVar i)) g tt te vs)) (eLcG k i vs hg tst el) := fun L E ρ σ F H rs x rs' Q r hf kk => by
  unfold eLcG at hf
  cases eo : own_g ρ i with
  | none => rw [eo] at hf; cases hf
  | some c =>
    rw [eo] at hf
    by_cases hl : c.kv.length ≤ 100000
    · simp only [hl, if_true] at hf
      have e := ownG_some eo
      obtain ⟨v, ea, a, u, rfl, hu, _, _, _, hD⟩ := r.sl i _ e
      refine ⟨a, u, hu, hD.mut, fun od => ?_⟩
      obtain ⟨r1, _, hE, hF, hR⟩ := r.lockG od e ea hu
      obtain ⟨ds, rfl⟩ := eLc_new hf
      refine esem_lc_at r1 (fun its lk rs1 Rq ef k1 => ?_) hgs hS ht he hf fun v F' H' s h => ?_
      · obtain ⟨q1, q2⟩ := ret_some ef
        cases q1
        subst q2
        exact iG_ok r1 ea upd_same hR hD hl k1
      · obtain ⟨h1, h2, s'⟩ := s.unlockG hu hF hR
        exact ⟨h1, kk v F' _ s' h.unlockN⟩
    · simp only [hl, if_false] at hf
      cases hf
theorem de_lcG {k : WK} {i : Nat} {scope : Scope} {own : List (Str × Nat)} {tst : Env → M Bool} {el : Env → M RV} (hc : X.calm = true) (hN : X.N.Nodup) (hi : PI X tg it (iG k (tVar i))) (ok : BlkOk X.N X.env.scope scope own) (hS : ∀ i ∈ S, i ∈ own.map (·.2))
    (hg' : ∀ (s : Shared) (H : Hp) (C : Addr) (cl : List (Str × Addr)) (fp : List Addr), DG (X.blk s H scope (compEnvC scope cl C X.env) fp) R S tg g hg) (ht : ∀ (s : Shared) (H : Hp) (C : Addr) (cl : List (Str × Addr)) (fp : List Addr), DTs (X.blk s H scope (compEnvC scope cl C X.env) fp) R ifs tt tst)
    (he : ∀ (s : Shared) (H : Hp) (C : Addr) (cl : List (Str × Addr)) (fp : List Addr), DE (X.blk s H scope (compEnvC scope cl C X.env) fp) R elt te el) (hs : ∀ x, foldedSetIterable it X.env x = pure x := by intro _; rfl) :
    DE X R (.ListComp elt [⟨tg, it, ifs, 0⟩] scope pos) (tLockE (tLc (iG k (tVar i)) g tt te (own.map (·.2)))) (eLcG k i (own.map (·.2)) hg tst el) :=
  ⟨pe_lock (pe_lc hc hN hi ok (fun s H C cl fp => (hg' s H C cl fp).pg) (fun s H C cl fp => (ht s H C cl fp).pt) (fun s H C cl fp => (he s H C cl fp).pe) hs),
    esem_lcG (hg' {} (fun _ => none) 0 [] []).sem hS (ht {} (fun _ => none) 0 [] []).sem (he {} (fun _ => none) 0 [] []).sem⟩
end
section
variable {X : Cx} {K : PySem.W.Frag} {R : Option Addr} {S S1 : List Nat} {tg tg1 it it1 elt : Expr} {ifs ifs1 : List Expr} {g g1 : TG} {hg hg1 : D → Env → Option Env} {pos : Pos} {tt tt1 : TT} {te : TE} {wi1 : TI}
def eLc2G (k : WK) (i : Nat) (vs : List Nat) (tg : D → Env → Option Env) (tst : Env → M Bool) (fi1 : Env → M (List D × Option Nat)) (vs1 : List Nat) (tg1 : D → Env → Option Env) (tst1 : Env → M Bool) (el : Env → M RV) : Env → M RV := fun ρ => match own_g ρ i with
  | some c => if c.kv.length ≤ 100000 then eLc2 (fun _ => ret (c.kv.map (wkD k), none)) vs tg tst fi1 vs1 tg1 tst1 el (ρ.set i none) else fail
  | none => fail
theorem esem_lc2G {k : WK} {i : Nat} {vs vs1 : List Nat} {fi1 : Env → M (List D × Option Nat)} {tst tst1 : Env → M Bool} {el : Env → M RV} (hgs : GSem K R S g hg) (hown : GOwn S hg) (hS : ∀ i ∈ S, i ∈ vs) (ht : TSem K R tt tst) (hi1 : ISem K R wi1 fi1) (hgs1 : GSem K R S1 g1 hg1) (hS1 : ∀ i ∈ S1, i ∈ vs1) (ht1 : TSem K R tt1 tst1) (he : ESem K R te el) :
    ESem K R (tLockE (tLc2 (iG k (tVar i)) g tt wi1 g1 tt1 te vs vs1)) (eLc2G k i vs hg tst fi1 vs1 hg1 tst1 el) := fun L E ρ σ F H rs x rs' Q r hf kk => by
  unfold eLc2G at hf
  cases eo : own_g ρ i with
  | none => rw [eo] at hf; cases hf
  | some c =>
    rw [eo] at hf
    by_cases hl : c.kv.length ≤ 100000
    · simp only [hl, if_true] at hf
      have e := ownG_some eo
      obtain ⟨v, ea, a, u, rfl, hu, _, _, _, hD⟩ := r.sl i _ e
      refine ⟨a, u, hu, hD.mut, fun od => ?_⟩
      obtain ⟨r1, _, hE, hF, hR⟩ := r.lockG od e ea hu
      obtain ⟨ds, rfl⟩ := eLc2_new hf
      refine esem_lc2_at r1 (fun its lk rs1 Rq ef k1 => ?_) hgs hown hS ht hi1 hgs1 hS1 ht1 he hf fun v F' H' s h => ?_
      · obtain ⟨q1, q2⟩ := ret_some ef
        cases q1
        subst q2
        exact iG_ok r1 ea upd_same hR hD hl k1
      · obtain ⟨h1, h2, s'⟩ := s.unlockG hu hF hR
        exact ⟨h1, kk v F' _ s' h.unlockN⟩
    · simp only [hl, if_false] at hf
      cases hf
theorem de_lc2G {k : WK} {i : Nat} {scope : Scope} {own : List (Str × Nat)} {vs1 : List Nat} {fi1 : Env → M (List D × Option Nat)} {tst tst1 : Env → M Bool} {el : Env → M RV} (hc : X.calm = true) (hN : X.N.Nodup) (hi : PI X tg it (iG k (tVar i))) (ok : BlkOk X.N X.env.scope scope own) (hv : ∀ i ∈ vs1, i ∈ own.map (·.2)) (hS : ∀ i ∈ S, i ∈ own.map (·.2)) (hS1 : ∀ i ∈ S1, i ∈ vs1) (hown : GOwn S hg)
    (hg' : ∀ (s : Shared) (H : Hp) (C : Addr) (cl : List (Str × Addr)) (fp : List Addr), DG (X.blk s H scope (compEnvC scope cl C X.env) fp) R S tg g hg) (ht : ∀ (s : Shared) (H : Hp) (C : Addr) (cl : List (Str × Addr)) (fp : List Addr), DTs (X.blk s H scope (compEnvC scope cl C X.env) fp) R ifs tt tst)
    (hi1 : ∀ (s : Shared) (H : Hp) (C : Addr) (cl : List (Str × Addr)) (fp : List Addr), DI (X.blk s H scope (compEnvC scope cl C X.env) fp) R tg1 it1 wi1 fi1)
    (hg1' : ∀ (s : Shared) (H : Hp) (C : Addr) (cl : List (Str × Addr)) (fp : List Addr), DG (X.blk s H scope (compEnvC scope cl C X.env) fp) R S1 tg1 g1 hg1) (ht1 : ∀ (s : Shared) (H : Hp) (C : Addr) (cl : List (Str × Addr)) (fp : List Addr), DTs (X.blk s H scope (compEnvC scope cl C X.env) fp) R ifs1 tt1 tst1)
    (he : ∀ (s : Shared) (H : Hp) (C : Addr) (cl : List (Str × Addr)) (fp : List Addr), DE (X.blk s H scope (compEnvC scope cl C X.env) fp) R elt te el) (hs : ∀ x, foldedSetIterable it X.env x = pure x := by intro _; rfl) (hs1 : ∀ env x, foldedSetIterable it1 env x = pure x := by intro _ _; rfl) :
    DE X R (.ListComp elt [⟨tg, it, ifs, 0⟩, ⟨tg1, it1, ifs1, 0⟩] scope pos) (tLockE (tLc2 (iG k (tVar i)) g tt wi1 g1 tt1 te (own.map (·.2)) vs1)) (eLc2G k i (own.map (·.2)) hg tst fi1 vs1 hg1 tst1 el) :=
  ⟨pe_lock (pe_lc2 hc hN hi ok hv (fun s H C cl fp => (hg' s H C cl fp).pg) (fun s H C cl fp => (ht s H C cl fp).pt) (fun s H C cl fp => (hi1 s H C cl fp).pi) (fun s H C cl fp => (hg1' s H C cl fp).pg) (fun s H C cl fp => (ht1 s H C cl fp).pt) (fun s H C cl fp => (he s H C cl fp).pe) hs hs1),
    esem_lc2G (hg' {} (fun _ => none) 0 [] []).sem hown hS (ht {} (fun _ => none) 0 [] []).sem (hi1 {} (fun _ => none) 0 [] []).sem (hg1' {} (fun _ => none) 0 [] []).sem hS1 (ht1 {} (fun _ => none) 0 [] []).sem (he {} (fun _ => none) 0 [] []).sem⟩
end
end DV

/-! DV: {k: v} -/
namespace DV
open PySem L2 PyProof.Rows LamX
def tG1 (K : PySem.W.Frag) (t : Bool) (tk tv : TE) : TE := fun σ H Q => ∀ p, H p = none → tk σ (upd H p (newG t p)) fun y H1 => tv σ H1 fun v H2 => H2 p = some (newG t p) ∧
  ∃ (F : Hp) (kd vd : D), (∀ a o, F a = some o → H2 a = some o) ∧ Dp K F y kd ∧ keyOk t kd = true ∧ Dp K F v vd ∧ ∀ u', DictR K F p u' ⟨t, [(kd, vd)]⟩ → Q (.ref p) (upd H2 p u')
section
variable {X : Cx} {K : PySem.W.Frag} {R : Option Addr} {k v : Expr} {tk tv : TE} {pos : Pos}
theorem pe_g1T (hu : X.A.units + 9 < cLine) (hk : PE X k tk) (hv : PE X v tv) (hsh : (evalEachOpt [some k] X.env).zip ((evalEach [v] X.env).map fun m => do let x ← m; standAt pos; pure x) = ([(eval k X.env, do let x ← eval v X.env; standAt pos; pure x)] : List (Sem Value × Sem Value)).map fun p => (some p.1, p.2)) :
    PE X (.Dict [some k] [v] pos) (tG1 X.K true tk tv) := by
  refine ⟨fun pins s σ H Q I h => ?_⟩
  have hn := I.hok.fresh (Nat.le_refl s.heap.objs.size)
  have I1 := I.laid (a := s.heap.objs.size) (o := newG true s.heap.objs.size) (h' := s.heap.push { cls := .type "dict", data := .dict #[] }) (t' := s.toks) (fun _ _ q => Heap.get?_push_of_some _ q) (Nat.le_refl _) (newG_ok s.heap I.big)
  rw [arm_eval_Dict, hsh, dictDisplay_pairs _ (by simp) (by simp)]
  refine wpAny_bind (wpAny_standAt (wpAny_bind (wpAny_subDictH (knd := nestedKind X.prog X.w) (show X.A.units + 8 < cLine by omega) (by simp) ?_)))
  show wpAny _ _ (evalPairs [(eval k X.env, _)]) _ _ _
  unfold evalPairs
  refine wpAny_bind (thn (hk.run pins _ σ _ _ I1 (h _ hn)) fun uy s1 ⟨y, H1, I2, ry, q1⟩ => ?_)
  refine wpAny_bind (wpAny_holding (wpAny_bind (thn (hv.run pins s1 σ H1 _ I2 q1) fun r s2 ⟨vv, H2, I3, rv, q2⟩ => wpAny_bind (wpAny_standAt (wpAny_pure ?_)))))
  refine wpAny_bind (wpAny_holding ?_)
  unfold evalPairs
  refine wpAny_pure (wpAny_pure ?_)
  obtain ⟨hp, F, kd, vd, hF, hy, hok, hvd, q⟩ := q2
  obtain ⟨ds, kk, rfl, ek, hd8⟩ := keyOk_tup hok
  obtain ⟨b, k', rfl, rfl, ek', hkey⟩ := key_at I3 (Dp.mono hF _ _ hy) hok ry
  rw [ek] at ek'
  cases ek'
  obtain ⟨h1, hz, ys, hvv, dd⟩ := dc_heap (F := F) (kv := []) I3 (.inl hp) hF .nil
  cases hvv
  refine ⟨[(kk, b, r)], ⟨rfl, rfl, hkey, trivial⟩, dd, fun h' tk2 dd' hs => wpAny_pure ?_⟩
  obtain ⟨n1, n2⟩ := put_tup (F := F) (kd := .tuple ds) (vd := vd) .nil .nil ek hd8 hy hvd rv
  have he : ∃ q, h'.get? s.heap.objs.size = some q := let ⟨q, _, _, hq, _⟩ := dd'; ⟨q, hq⟩
  refine ⟨.ref s.heap.objs.size, _, d_write (t' := tk2) I3 (by rw [hp]; exact True.intro) hs he (dc_ok (X := X) (F := F) h1 ?_ n1 n2 dd'), rfl, q _ ⟨_, rfl, n2⟩⟩
  exact Nat.le_trans putX_len (by rw [sizeLine_eq]; simp)
theorem pe_g1I (hk : PE X k tk) (hv : PE X v tv) : PE X (.Dict [some k] [v] pos) (tG1 X.K false tk tv) := by
  refine ⟨fun pins s σ H Q I h => ?_⟩
  have hn := I.hok.fresh (Nat.le_refl s.heap.objs.size)
  have I1 := I.laid (a := s.heap.objs.size) (o := .dK []) (h' := s.heap.push { cls := .type "dict", data := .dict #[] }) (t' := s.toks) (fun _ _ q => Heap.get?_push_of_some _ q) (Nat.le_refl _) (dk_empty s.heap I.big)
  refine wpAny_Dict_walk (knd := mixKind X.prog X.w) (by simp) rfl (by simp) (by simp) (thn ((pps_cons (pos := pos) hk hv pps_nil).run pins _ σ _ (fun ps H2 => match ps with
    | [(y, v)] => H2 s.heap.objs.size = some (.dK []) ∧ ∃ (F : Hp) (kd vd : D), (∀ a o, F a = some o → H2 a = some o) ∧ Dp X.K F y kd ∧ keyOk false kd = true ∧ Dp X.K F v vd ∧ ∀ u', DictR X.K F s.heap.objs.size u' ⟨false, [(kd, vd)]⟩ → Q (.ref s.heap.objs.size) (upd H2 s.heap.objs.size u')
    | _ => False) I1 (h _ hn)) fun ws s2 ⟨ps, H2, I2, rel, q2⟩ => ?_)
  match ps, q2 with
  | [(y, vv)], q2 =>
    obtain ⟨e, F, kd, vd, hF, hy, hok, hvd, q⟩ := q2
    obtain ⟨i, rfl⟩ := keyOk_int hok
    cases hy
    obtain ⟨rs, c, rk⟩ := carries_of (P := X.prog) (w := X.w) (kvs := [((.inl i : Key), vv)]) rel
    obtain ⟨z, hd, vs0, r0, dd⟩ := dk_of I2.hok e
    cases r0
    refine ⟨rs, c, dd, fun h' dd' hs => ⟨.ref s.heap.objs.size, upd H2 s.heap.objs.size (.dK [((.inl i : Key), vv)]), ?_, rfl, q _ ⟨[(i, vv)], rfl, by simp, .cons ⟨rfl, hvd⟩ .nil⟩⟩⟩
    have he : ∃ q, h'.get? s.heap.objs.size = some q := let ⟨q, _, _, hq, _⟩ := dd'; ⟨q, hq⟩
    exact d_write I2 (by rw [e]; exact True.intro) hs he (dk_new (by rw [sizeLine_eq]; simp) hd (rk.merge .nil) dd')
/-- a new dict is changed -/
theorem Step.upd_new {F F2 H H2 : Hp} {rs' : RS} {p : Addr} {u u' : HO} {c : DC} (s : Step K R rs' F H F2 H2) (hp : H p = none) (hF : F2 p = none) (hR : some p ≠ R) (hu : H2 p = some u) (D : DictR K F2 p u c) : Step K R rs' F H F2 (upd H2 p u') := by
  refine ⟨fun b o q n f => ?_, s.sub, s.new, fun b o q => ?_, ⟨fun r eq => ?_, tabs_updG s.row.tab hu (fun ps => D.noTbl) (fun q => D.noCode), s.row.fnt⟩, s.rF⟩
  · rw [upd_ne (fun z => by rw [z, hp] at q; cases q)]
    exact s.keep b o q n f
  · rw [upd_ne (fun z => by rw [z, hF] at q; cases q)]
    exact s.fin b o q
  · obtain ⟨c, k1, k2, k3⟩ := s.row.at_ r eq
    exact ⟨c, by rw [upd_ne (fun zz => hR (by rw [← zz, eq]))]; exact k1, k2, k3⟩
def eG1 (t : Bool) (f h : Env → M RV) : Env → M RV := fun ρ => bnd (f ρ) fun x => bnd (lft (asKey x)) fun kd => bnd (h ρ) fun y => bnd (lft (toD y)) fun vd => if keyOk t kd = true then ret (.gn ⟨t, [(kd, vd)]⟩) else fail
theorem esem_g1 {t : Bool} {f h : Env → M RV} (hk : ESem K R tk f) (hv : ESem K R tv h) : ESem K R (tG1 K t tk tv) (eG1 t f h) := fun L E ρ σ F H rs x0 rs' Q r hf kk => by
  obtain ⟨x, rs1, e1, g1⟩ := bnd_some hf
  obtain ⟨kd, rs2, e2, g2⟩ := bnd_some g1
  obtain ⟨e3, q3⟩ := lft_some e2
  subst q3
  obtain ⟨y, rs4, e4, g4⟩ := bnd_some g2
  obtain ⟨vd, rs5, e5, g5⟩ := bnd_some g4
  obtain ⟨e6, q6⟩ := lft_some e5
  subst q6
  by_cases hok : keyOk t kd = true
  · rw [if_pos hok] at g5
    obtain ⟨e7, q7⟩ := ret_some g5
    subst e7 q7
    intro p hp
    obtain ⟨s0, hF0, hR⟩ := Step.new_g (t := t) r.refl hp
    have r0 := r.step s0
    refine hk L E ρ σ F _ rs x _ _ r0 e1 fun v1 F1 H1 s1 h1 => ?_
    have r1 := r0.step s1
    have hp1 : H1 p = some (newG t p) := s1.keep p _ upd_same hR (newG_R (K := K) (F := F)).fx
    have f1 : F1 p = none := by
      cases q : F1 p with
      | none => rfl
      | some o =>
        rcases s1.new p o q with z | z
        · rw [hF0] at z; cases z
        · rw [upd_same] at z; cases z
    refine hv L E ρ σ F1 H1 _ y _ _ r1 e4 fun v2 F2 H2 s2 h2 => ?_
    obtain ⟨F3, s3, hd3⟩ := frozen1 r1 s2 h2 e6
    have hp2 : H2 p = some (newG t p) := s3.keep p _ hp1 hR (newG_R (K := K) (F := F)).fx
    have f3 : F3 p = none := by
      cases q : F3 p with
      | none => rfl
      | some o =>
        rcases s3.new p o q with z | z
        · rw [f1] at z; cases z
        · rw [hp1] at z; cases z
    have sAll := (s0.trans r.row s1).trans r.row s3
    have r3 := r1.step s3
    refine ⟨hp2, F3, kd, vd, r3.fr, Dp.mono s3.sub _ _ (h1.key e3), hok, hd3, fun u' D' => ?_⟩
    exact kk _ F3 _ (sAll.upd_new (u' := u') hp f3 hR hp2 (newG_R (K := K) (F := F3))) ⟨p, u', rfl, upd_same, hp, f3, hR, D'⟩
  · rw [if_neg hok] at g5
    cases g5
theorem de_g1T {f h : Env → M RV} (hu : X.A.units + 9 < cLine) (hk : DE X R k tk f) (hv : DE X R v tv h) (hsh : (evalEachOpt [some k] X.env).zip ((evalEach [v] X.env).map fun m => do let x ← m; standAt pos; pure x) = ([(eval k X.env, do let x ← eval v X.env; standAt pos; pure x)] : List (Sem Value × Sem Value)).map fun p => (some p.1, p.2) := by rfl) :
    DE X R (.Dict [some k] [v] pos) (tG1 X.K true tk tv) (eG1 true f h) := ⟨pe_g1T hu hk.pe hv.pe hsh, esem_g1 hk.sem hv.sem⟩
theorem de_g1I {f h : Env → M RV} (hk : DE X R k tk f) (hv : DE X R v tv h) : DE X R (.Dict [some k] [v] pos) (tG1 X.K false tk tv) (eG1 false f h) := ⟨pe_g1I hk.pe hv.pe, esem_g1 hk.sem hv.sem⟩
end
end DV

/-! DV: list(d), list(d.values()) -/
namespace DV
open PySem L2 PyProof.Rows LamX PySem.W
/-- what is listed -/
def wkV : Bool → V × V → V
  | true, p => p.2
  | false, p => p.1
def wkB : Bool → D × D → D
  | true, q => q.2
  | false, q => q.1
section
variable {prog : Program} {w : World} {A : Around} {es : Array DictEntry} {ep : Nat} {d r : Addr}
theorem kdl_rk (lo : (d == sysModules) = false) : KdlSrc prog w "dict" d d es.size (fun i v => ∃ hi : i < es.size, v = es[i].key) (fun h => h.DictRaw d es ep) where
  type := fun _ hm => hm.typeIs
  there := fun _ hm => ⟨let ⟨_, ho, _⟩ := hm; Heap.lt_size ho, let ⟨_, ho, _⟩ := hm; Heap.lt_size ho⟩
  keep := fun _ _ hm hk => hm.at fun o e => hk d (.inl rfl) o e
  notList := by decide
  notTuple := by decide
  hint := fun _ _ _ _ hm hq => kdl_hint_dict hm.typeIs hq
  iter := fun A s hh hm => ⟨_, _, (fun _ _ hq => wpAny_pyIter_dict_raw lo hm hq), Walks.rawKeys hh _ d (let ⟨_, ho, _⟩ := hm; Nat.ne_of_lt (Heap.lt_size ho)) es ep, ⟨⟨_, Heap.get?_push_size _ rfl, rfl, rfl⟩, hm.at fun o e => Heap.get?_push_of_some _ e⟩⟩
theorem kdl_rv (lo : (d == sysModules) = false) : KdlSrc prog w "dict_values" r d es.size (fun i v => ∃ hi : i < es.size, v = es[i].val) (fun h => h.IsValuesView r d ∧ h.DictRaw d es ep) where
  type := fun _ hm => hm.1.typeIs
  there := fun _ hm => ⟨let ⟨_, ho, _⟩ := hm.1; Heap.lt_size ho, let ⟨_, ho, _⟩ := hm.2; Heap.lt_size ho⟩
  keep := fun _ _ hm hk => ⟨let ⟨o, ho, x⟩ := hm.1; ⟨o, hk r (.inl rfl) o ho, x⟩, hm.2.at fun o e => hk d (.inr rfl) o e⟩
  notList := by decide
  notTuple := by decide
  hint := fun _ _ _ _ hm hq => kdl_hint_values hm.1.typeIs hq
  iter := fun A s hh hm => ⟨_, _, (fun _ _ hq => wpAny_pyIter_values_raw hm.1 hm.2 hq), Walks.rawValues hh _ d (let ⟨_, ho, _⟩ := hm.2; Nat.ne_of_lt (Heap.lt_size ho)) es ep, ⟨⟨_, Heap.get?_push_size _ rfl, rfl, rfl⟩, hm.2.at fun o e => Heap.get?_push_of_some _ e⟩⟩
end
theorem PsOf.mut {a : Addr} {u : HO} {ps : List (V × V)} (h : PsOf a u ps) : L2.Mut (some u) := by
  rcases h with ⟨ks, rfl, _⟩ | ⟨xs, rfl, _⟩
  · trivial
  · trivial
theorem rawG {X : Cx} {pins : List (Addr × Obj)} {σ : L2.St} {H : Hp} {s : Shared} {d : Addr} {u : HO} {ps : List (V × V)} (I : Inv X pins σ H s) (h : H d = some u) (hp : PsOf d u ps) : (d == sysModules) = false ∧ ∃ (es : Array DictEntry) (ep : Nat), s.heap.DictRaw d es ep ∧ es.size = ps.length ∧ ps.length ≤ sizeLine ∧
    ∀ (i : Nat) (hi : i < es.size), ∃ p, ps[i]? = some p ∧ L2.RelV p.1 es[i].key ∧ L2.RelV p.2 es[i].val := by
  obtain ⟨od, I1⟩ := I.lock h hp.mut
  obtain ⟨a1, a2, a3, es, ep, a4, a5, a6, a7⟩ := frzG I1 upd_same hp
  exact ⟨a1, es, ep, ⟨od, a2, a3, a4⟩, a5, a6, a7⟩
section
variable {X : Cx} {td : TE} {e : Expr} {apos cpos pos p : Pos}
/-- something to be listed -/
def PGs (X : Cx) (b : Bool) (it : Expr) (td : TE) : Prop :=
  ∀ (pins : List (Addr × Obj)) (s : Shared) (σ : L2.St) (H : Hp) (Q : List (V × V) → Hp → Prop), Inv X pins σ H s → (td σ H fun x H1 => ∃ d u ps, x = .ref d ∧ H1 d = some u ∧ PsOf d u ps ∧ Q ps H1) →
    wpAny (model X.prog X.w) X.A (eval it X.env) (fun x s' => ∃ (r d : Addr) (T : String) (n : Nat) (P : Nat → Value → Prop) (OK : Heap → Prop) (H1 : Hp) (ps : List (V × V)), x = .ref r ∧ Inv X pins σ H1 s' ∧ KdlSrc X.prog X.w T r d n P OK ∧ OK s'.heap ∧ n = ps.length ∧ n ≤ sizeLine ∧ (∀ j w, P j w → ∃ p, ps[j]? = some p ∧ L2.RelV (wkV b p) w) ∧ Q ps H1) X.xe s
theorem pgs_keys (he : PE X e td) : PGs X false e td := by
  intro pins s σ H Q I h
  refine thn (he.run pins s σ H _ I h) fun u s1 ⟨x, H1, I1, rx, d, w, ps, ex, hd, hp, q⟩ => ?_
  subst ex
  obtain rfl : u = Value.ref d := rx
  obtain ⟨hs, es, ep, hm, hsz, hz, ent⟩ := rawG I1 hd hp
  exact ⟨d, d, "dict", es.size, _, _, H1, ps, rfl, I1, kdl_rk hs, hm, hsz, by rw [hsz]; exact hz, fun j w ⟨hi, ew⟩ => by
    obtain ⟨p, h1, h2, _⟩ := ent j hi
    exact ⟨p, h1, by rw [ew]; exact h2⟩, q⟩
theorem pgs_vals (he : PE X e td) (hbase : attributeBase e "values" X.env (eval e X.env) = eval e X.env := by rfl) (hline : (apos.endLine == cpos.line) = true := by rfl) : PGs X true (.Call (.Attribute e "values" apos) [] [] cpos) td := by
  intro pins s σ H Q I h
  refine wpAny_Call_method (T := "dict") (id := "dict.values") hbase rfl hline F.plainAttrs_dict F.slot_dict_values F.type_dict_values (thn (he.run pins s σ H _ I h) fun u s1 ⟨x, H1, I1, rx, d, w, ps, ex, hd, hp, q⟩ => ?_)
  subst ex
  obtain rfl : u = Value.ref d := rx
  obtain ⟨hs, es, ep, hm, hsz, hz, ent⟩ := rawG I1 hd hp
  obtain ⟨o, hgd, hx, hdt⟩ := id hm
  refine ⟨hm.typeIs, fun b eb => by cases eb; exact ⟨o, hgd, hx.2.1⟩, ?_⟩
  have I2 : Inv X pins σ H1 { s1 with heap := s1.heap.push { cls := .type "dict_values", data := .fields #[.ref d] } } := I1.kept (t' := s1.toks) fun b ob q => Heap.get?_push_of_some _ q
  show wpAny _ _ (callWith cpos (.builtin "dict.values") [.ref d] [] []) _ X.xe s1
  refine method_meetsIn F.slot_dict_values F.entry_dict_values rfl (PySem.evalArgs_none ⟨rfl, hm.typeIs, F.args_dict_values_1 _, _, meets_dict_values_raw d hs, ⟨⟨_, _, hm⟩, ?_⟩⟩)
  exact ⟨s1.heap.objs.size, d, "dict_values", es.size, _, _, H1, ps, rfl, I2, kdl_rv (ep := ep) hs, ⟨⟨_, Heap.get?_push_size _ rfl, rfl, rfl⟩, hm.at fun o' e' => Heap.get?_push_of_some _ e'⟩, hsz, by rw [hsz]; exact hz, fun j w ⟨hi, ew⟩ => by
    obtain ⟨p, h1, _, h2⟩ := ent j hi
    exact ⟨p, h1, by rw [ew]; exact h2⟩, q⟩
def tListG (b : Bool) (td : TE) : TE := fun σ H Q => td σ H fun x H1 => ∃ d u ps, x = .ref d ∧ H1 d = some u ∧ PsOf d u ps ∧ ∀ q, H1 q = none → Q (.ref q) (upd H1 q (.lst (ps.map (wkV b))))
theorem pe_listG {b : Bool} {it : Expr} (hc : X.calm = true) (hg : Gl X "list") (hm : X.mg "list" = none) (he : PGs X b it td) (na : starEach [it] X.env = (false, eval it X.env) :: starEach [] X.env := by rfl) : PE X (.Call (.Name "list" p) [it] [] pos) (tListG b td) := by
  refine ⟨fun pins s σ H Q I h => ?_⟩
  refine Call_ (ld_blt I hg hm boot_list (PyProof.Rows.callWith_type1 (args_cons (thn (he pins s σ H (fun ps H1 => ∀ q, H1 q = none → Q (.ref q) (upd H1 q (.lst (ps.map (wkV b))))) I h) fun x s1 ⟨r, d, T, n, P, OK, H1, ps, ex, I1, K, hok, hn, hz, hP, q⟩ => args_nil ?_) na) na))
  subst ex
  refine kdl_call K (I1.ok.hd hc) hok hz fun h' tk acc' c' hkeep hS hacc => ?_
  refine ⟨.ref s1.heap.objs.size, upd H1 s1.heap.objs.size (.lst (ps.map (wkV b))), I1.laid hkeep (Nat.le_refl _) (show ObjOk X.prog X.w _ _ _ (.lst (ps.map (wkV b))) from ⟨?_, acc'.toList, c', ?_, ?_⟩), rfl, q _ (I1.hok.fresh (Nat.le_refl _))⟩
  · rw [List.length_map, ← hn]; exact hz
  · have el : acc'.toList.length = acc'.size := by simp
    refine vals_of_at (by rw [List.length_map, el, hacc.1, hn]) fun j x w h1 h2 => ?_
    obtain ⟨p, hp, hi⟩ := hP j w (hacc.2 j w (by rw [← Array.getElem?_toList]; exact h2))
    rw [List.getElem?_map, hp] at h1
    cases h1
    exact hi
  · rw [Array.toArray_toList]; exact hS
def eListG (b : Bool) (f : Env → M RV) : Env → M RV := fun ρ => bnd (f ρ) fun x => bnd (lft (dcOf x)) fun c => ret (.n (c.kv.map (wkB b)))
theorem wkV_data {K : PySem.W.Frag} {F : Hp} {b : Bool} : ∀ {ps : List (V × V)} {kv : List (D × D)}, Paired (GP K F) ps kv → DpAll K F (ps.map (wkV b)) (kv.map (wkB b))
  | _, _, .nil => .nil
  | _, _, .cons h t => .cons (by cases b <;> first | exact h.1 | exact h.2) (wkV_data t)
theorem esem_listG {K : PySem.W.Frag} {R : Option Addr} {b : Bool} {f : Env → M RV} (he : ESem K R td f) : ESem K R (tListG b td) (eListG b f) := fun L E ρ σ F H rs x0 rs' Q r hf kk => by
  obtain ⟨x, rs1, e1, hf1⟩ := bnd_some hf
  obtain ⟨c, rs2, e2, hf2⟩ := bnd_some hf1
  obtain ⟨e3, q3⟩ := lft_some e2
  obtain ⟨e4, q4⟩ := ret_some hf2
  subst e4 q4 q3
  refine he L E ρ σ F H rs x _ _ r e1 fun v F1 H1 s1 h1 => ?_
  obtain ⟨a, u, ea, hu, hR, hD⟩ := h1.dict e3
  obtain ⟨ps, hp, hpr⟩ := hD.ps
  refine ⟨a, u, ps, ea, hu, hp, fun q hq => ?_⟩
  obtain ⟨s2, hF, hR2⟩ := Step.new_lst (vs := ps.map (wkV b)) (r.step s1).refl hq
  exact kk _ F1 _ (s1.trans r.row s2) ⟨q, _, rfl, upd_same, s1.back r.row hq, hF, hR2, wkV_data hpr⟩
theorem de_listG {R : Option Addr} {b : Bool} {it : Expr} {f : Env → M RV} (hc : X.calm = true) (hg : Gl X "list") (hm : X.mg "list" = none) (hi : PE X e td → PGs X b it td) (he : DE X R e td f) (na : starEach [it] X.env = (false, eval it X.env) :: starEach [] X.env := by rfl) : DE X R (.Call (.Name "list" p) [it] [] pos) (tListG b td) (eListG b f) :=
  ⟨pe_listG hc hg hm (hi he.pe) na, esem_listG he.sem⟩
end
end DV

/-! DV: min, max of d, of d.values() -/
namespace DV
open PySem L2 PyProof.Rows LamX PySem.W
section
variable {X : Cx} {td : TE} {e : Expr} {apos cpos pos p : Pos} {pins : List (Addr × Obj)} {σ : L2.St} {H1 : Hp} {s1 : Shared} {Q : VK} {T : String} {r d : Addr} {n : Nat} {P : Nat → Value → Prop} {OK : Heap → Prop} {ps : List (V × V)} {b : Bool} {z : D} {zs : List D}
theorem depth_le_all : ∀ {xs : List D} {d : D}, d ∈ xs → d.depth ≤ PyData.depthAll xs
  | x :: xs, d, h => by
    rw [PyData.depthAll]
    rcases List.mem_cons.mp h with z | z
    · subst z; omega
    · have := depth_le_all z; omega
theorem src_reads (I1 : Inv X pins σ H1 s1) (hP : ∀ j w, P j w → ∃ p, ps[j]? = some p ∧ L2.RelV (wkV b p) w) (hd : DpAll X.K H1 (ps.map (wkV b)) (z :: zs)) (j : Nat) (w : Value) (h : P j w) :
    ∃ v as, (ps.map (wkV b))[j]? = some v ∧ L2.RelV v w ∧ (z :: zs)[j]? = some ((z :: zs).getD j .none) ∧ (z :: zs).getD j .none ∈ z :: zs ∧ Reads s1.heap w ((z :: zs).getD j .none) as := by
  obtain ⟨p, hp, hr⟩ := hP j w h
  have hl := hd.len
  rw [List.length_map] at hl
  have hj : j < ps.length := (List.getElem?_eq_some_iff.mp hp).1
  have hz : (z :: zs)[j]? = some (z :: zs)[j] := List.getElem?_eq_getElem (by omega)
  have hg : (z :: zs).getD j .none = (z :: zs)[j] := by rw [List.getD_eq_getElem?_getD, hz]; rfl
  obtain ⟨v, e1, e2⟩ := hd.get hz
  have e3 : (ps.map (wkV b))[j]? = some (wkV b p) := by rw [List.getElem?_map, hp]; rfl
  rw [e3] at e1
  cases e1
  obtain ⟨as, ra⟩ := Dp.readsAll I1 _ [wkV b p] [w] (.cons e2 .nil) (.cons hr .nil)
  cases ra with
  | cons r1 _ => exact ⟨_, _, e3, hr, by rw [hg]; exact hz, by rw [hg]; exact List.getElem_mem _, by rw [hg]; exact r1⟩
theorem min_src (hc : X.calm = true) (hu : X.A.units + 65 < cLine) (I1 : Inv X pins σ H1 s1) (K : KdlSrc X.prog X.w T r d n P OK) (hok : OK s1.heap) (hn : n = ps.length) (hP : ∀ j w, P j w → ∃ p, ps[j]? = some p ∧ L2.RelV (wkV b p) w)
    (hd : DpAll X.K H1 (ps.map (wkV b)) (z :: zs)) (hal : alikeB (z :: zs) = true) (q : ∀ (i : Nat) (u : V), (ps.map (wkV b))[i]? = some u → (z :: zs)[i]? = some (minD z zs) → Q u H1) : wpAny (model X.prog X.w) X.A (call (.builtin "min") [.ref r]) (EP X pins σ Q) X.xe s1 := by
  obtain ⟨ha, hdp⟩ := alikeB_of hal
  obtain ⟨oI, St, hit, W, st⟩ := K.iter X.A.in1 s1 (I1.ok.hd hc) hok
  have hl := hd.len
  rw [List.length_map, List.length_cons] at hl
  refine call_min_walkH (hit _ _ ⟨_, _, _, _, n, P, _, s1.heap, fun i j => dataLt ((z :: zs).getD i .none) ((z :: zs).getD j .none), rfl, W.toS, st, fun b hb => ?_, by omega, fun b o e hb => ?_, fun b o e => Heap.get?_push_of_some _ e, fun i j vi vj s' Q E hk hi hj hq => ?_, fun v s' hv m => ?_⟩)
  · show b < (s1.heap.push _).objs.size
    rw [Heap.size_push]
    rcases List.mem_cons.mp hb with rfl | hb
    · exact Nat.lt_succ_self _
    · rw [List.mem_singleton.mp hb]; exact Nat.lt_succ_of_lt (K.there _ hok).2
  · exact absurd (Heap.lt_size e) ((List.mem_singleton.mp hb) ▸ Nat.lt_irrefl _)
  · obtain ⟨_, _, _, _, _, m1, r1⟩ := src_reads I1 hP hd i vi hi
    obtain ⟨_, _, _, _, _, m2, r2⟩ := src_reads I1 hP hd j vj hj
    refine rcLt_alike _ _ X.A.in1 s' vi vj _ _ (reads_keeps hk r1) (reads_keeps hk r2) (ha.1 _ m1 _ m2) (ha.2 _ m1) ?_ X.prog X.w E Q hq
    have h1 := Nat.min_le_left ((z :: zs).getD i .none).depth ((z :: zs).getD j .none).depth
    have h2 := depth_le_all m1
    show X.A.units + 1 + _ < _
    omega
  · obtain ⟨h', tk, rfl, hk'⟩ := moved_old rfl rfl m
    obtain ⟨u, as, e1, r1, e2, _, _⟩ := src_reads I1 hP hd _ v hv
    have e3 := (argBest_fold dataLt PyData.none z zs zs.length (Nat.le_refl _)).2
    rw [List.take_length] at e3
    have e4 : n - 1 = zs.length := by omega
    rw [e4] at e1 e2
    exact ⟨u, H1, I1.kept hk', r1, q _ u e1 (by rw [e2, e3]; rfl)⟩
theorem max_src (hc : X.calm = true) (hu : X.A.units + 65 < cLine) (I1 : Inv X pins σ H1 s1) (K : KdlSrc X.prog X.w T r d n P OK) (hok : OK s1.heap) (hn : n = ps.length) (hP : ∀ j w, P j w → ∃ p, ps[j]? = some p ∧ L2.RelV (wkV b p) w)
    (hd : DpAll X.K H1 (ps.map (wkV b)) (z :: zs)) (hal : alikeB (z :: zs) = true) (q : ∀ (i : Nat) (u : V), (ps.map (wkV b))[i]? = some u → (z :: zs)[i]? = some (maxD z zs) → Q u H1) : wpAny (model X.prog X.w) X.A (call (.builtin "max") [.ref r]) (EP X pins σ Q) X.xe s1 := by
  obtain ⟨ha, hdp⟩ := alikeB_of hal
  obtain ⟨oI, St, hit, W, st⟩ := K.iter X.A.in1 s1 (I1.ok.hd hc) hok
  have hl := hd.len
  rw [List.length_map, List.length_cons] at hl
  refine call_max_walkH (hit _ _ ⟨_, _, _, _, n, P, _, s1.heap, fun i j => dataLt ((z :: zs).getD j .none) ((z :: zs).getD i .none), rfl, W.toS, st, fun b hb => ?_, by omega, fun b o e hb => ?_, fun b o e => Heap.get?_push_of_some _ e, fun i j vi vj s' Q E hk hi hj hq => ?_, fun v s' hv m => ?_⟩)
  · show b < (s1.heap.push _).objs.size
    rw [Heap.size_push]
    rcases List.mem_cons.mp hb with rfl | hb
    · exact Nat.lt_succ_self _
    · rw [List.mem_singleton.mp hb]; exact Nat.lt_succ_of_lt (K.there _ hok).2
  · exact absurd (Heap.lt_size e) ((List.mem_singleton.mp hb) ▸ Nat.lt_irrefl _)
  · obtain ⟨_, _, _, _, _, m1, r1⟩ := src_reads I1 hP hd i vi hi
    obtain ⟨_, _, _, _, _, m2, r2⟩ := src_reads I1 hP hd j vj hj
    refine rcGt_alike _ _ X.A.in1 s' vi vj _ _ (reads_keeps hk r1) (reads_keeps hk r2) (ha.1 _ m1 _ m2) (ha.2 _ m1) ?_ X.prog X.w E Q hq
    have h1 := Nat.min_le_left ((z :: zs).getD i .none).depth ((z :: zs).getD j .none).depth
    have h2 := depth_le_all m1
    show X.A.units + 1 + _ < _
    omega
  · obtain ⟨h', tk, rfl, hk'⟩ := moved_old rfl rfl m
    obtain ⟨u, as, e1, r1, e2, _, _⟩ := src_reads I1 hP hd _ v hv
    have e3 := (argBest_fold (fun x y => dataLt y x) PyData.none z zs zs.length (Nat.le_refl _)).2
    rw [List.take_length] at e3
    have e4 : n - 1 = zs.length := by omega
    rw [e4] at e1 e2
    exact ⟨u, H1, I1.kept hk', r1, q _ u e1 (by rw [e2, e3]; rfl)⟩
def tBestG (K : PySem.W.Frag) (m : D → List D → D) (b : Bool) (td : TE) : TE := fun σ H Q => td σ H fun x H1 => ∃ d u ps, x = .ref d ∧ H1 d = some u ∧ PsOf d u ps ∧ ∃ z zs, DpAll K H1 (ps.map (wkV b)) (z :: zs) ∧ alikeB (z :: zs) = true ∧ ∀ (i : Nat) (u : V), (ps.map (wkV b))[i]? = some u → (z :: zs)[i]? = some (m z zs) → Q u H1
theorem pe_minG {it : Expr} (hc : X.calm = true) (hu : X.A.units + 65 < cLine) (hg : Gl X "min") (hm : X.mg "min" = none) (he : PGs X b it td) (na : starEach [it] X.env = (false, eval it X.env) :: starEach [] X.env := by rfl) : PE X (.Call (.Name "min" p) [it] [] pos) (tBestG X.K minD b td) := by
  refine ⟨fun pins s σ H Q I h => ?_⟩
  refine wpAny_Call_Name_kw (ld_blt I hg hm boot_min (PyProof.Rows.callWith_builtin1 (args_cons (thn (he pins s σ H (fun ps H1 => ∃ z zs, DpAll X.K H1 (ps.map (wkV b)) (z :: zs) ∧ alikeB (z :: zs) = true ∧ ∀ (i : Nat) (u : V), (ps.map (wkV b))[i]? = some u → (z :: zs)[i]? = some (minD z zs) → Q u H1) I h) fun x s1 ⟨r, d, T, n, P, OK, H1, ps, ex, I1, K, hok, hn, hz, hP, z, zs, q1, q2, q3⟩ => args_nil ?_) na) na))
  subst ex
  exact min_src hc hu I1 K hok hn hP q1 q2 q3
theorem pe_maxG {it : Expr} (hc : X.calm = true) (hu : X.A.units + 65 < cLine) (hg : Gl X "max") (hm : X.mg "max" = none) (he : PGs X b it td) (na : starEach [it] X.env = (false, eval it X.env) :: starEach [] X.env := by rfl) : PE X (.Call (.Name "max" p) [it] [] pos) (tBestG X.K maxD b td) := by
  refine ⟨fun pins s σ H Q I h => ?_⟩
  refine wpAny_Call_Name_kw (ld_blt I hg hm boot_max (PyProof.Rows.callWith_builtin1 (args_cons (thn (he pins s σ H (fun ps H1 => ∃ z zs, DpAll X.K H1 (ps.map (wkV b)) (z :: zs) ∧ alikeB (z :: zs) = true ∧ ∀ (i : Nat) (u : V), (ps.map (wkV b))[i]? = some u → (z :: zs)[i]? = some (maxD z zs) → Q u H1) I h) fun x s1 ⟨r, d, T, n, P, OK, H1, ps, ex, I1, K, hok, hn, hz, hP, z, zs, q1, q2, q3⟩ => args_nil ?_) na) na))
  subst ex
  exact max_src hc hu I1 K hok hn hP q1 q2 q3
def eBestG (m : D → List D → D) (b : Bool) (f : Env → M RV) : Env → M RV := fun ρ => bnd (f ρ) fun x => bnd (lft (dcOf x)) fun c => match c.kv.map (wkB b) with
  | [] => fail
  | y :: ys => if alikeB (y :: ys) = true then ret (.d (m y ys)) else fail
theorem esem_bestG {K : PySem.W.Frag} {R : Option Addr} {m : D → List D → D} {f : Env → M RV} (he : ESem K R td f) : ESem K R (tBestG K m b td) (eBestG m b f) := fun L E ρ σ F H rs x0 rs' Q r hf kk => by
  obtain ⟨x, rs1, e1, hf1⟩ := bnd_some hf
  obtain ⟨c, rs2, e2, hf2⟩ := bnd_some hf1
  obtain ⟨e3, q3⟩ := lft_some e2
  subst q3
  cases ek : c.kv.map (wkB b) with
  | nil => rw [ek] at hf2; cases hf2
  | cons y ys =>
    rw [ek] at hf2
    by_cases hal : alikeB (y :: ys) = true
    · simp only [hal, if_true] at hf2
      obtain ⟨e4, q4⟩ := ret_some hf2
      subst e4 q4
      refine he L E ρ σ F H rs x _ _ r e1 fun v F1 H1 s1 h1 => ?_
      obtain ⟨a, u, ea, hu, hR, hD⟩ := h1.dict e3
      obtain ⟨ps, hp, hpr⟩ := hD.ps
      have hda : DpAll K F1 (ps.map (wkV b)) (y :: ys) := by rw [← ek]; exact wkV_data hpr
      refine ⟨a, u, ps, ea, hu, hp, y, ys, Dp.monoA (r.step s1).refl.fin _ _ hda, hal, fun i w hi hj => ?_⟩
      obtain ⟨w', e5, e6⟩ := hda.get hj
      rw [hi] at e5
      cases e5
      exact kk _ F1 H1 s1 e6
    · simp only [hal] at hf2
      cases hf2
theorem de_minG {R : Option Addr} {it : Expr} {f : Env → M RV} (hc : X.calm = true) (hu : X.A.units + 65 < cLine) (hg : Gl X "min") (hm : X.mg "min" = none) (hi : PE X e td → PGs X b it td) (he : DE X R e td f) (na : starEach [it] X.env = (false, eval it X.env) :: starEach [] X.env := by rfl) : DE X R (.Call (.Name "min" p) [it] [] pos) (tBestG X.K minD b td) (eBestG minD b f) :=
  ⟨pe_minG hc hu hg hm (hi he.pe) na, esem_bestG he.sem⟩
theorem de_maxG {R : Option Addr} {it : Expr} {f : Env → M RV} (hc : X.calm = true) (hu : X.A.units + 65 < cLine) (hg : Gl X "max") (hm : X.mg "max" = none) (hi : PE X e td → PGs X b it td) (he : DE X R e td f) (na : starEach [it] X.env = (false, eval it X.env) :: starEach [] X.env := by rfl) : DE X R (.Call (.Name "max" p) [it] [] pos) (tBestG X.K maxD b td) (eBestG maxD b f) :=
  ⟨pe_maxG hc hu hg hm (hi he.pe) na, esem_bestG he.sem⟩
end
end DV


/-! the shared defs of the texts, printed by gen.py lib -/
namespace DVL
open PySem L2 DV
def g__law_alike (self : List RV → M RV) : DV.Env → M Out :=
  (sSeq (sIf (eT (eIsT2 .tuple .list (eVar 1))) (sSeq (sIf (tIfT (tNotF (eT (eIsT2 .tuple .list (eVar 0)))) (tRetB true) (eT (e2 gNe (eIsT .list (eVar 0)) (eIsT .list (eVar 1))))) (sRet (eC (.bool false))) sNil)
  (sSeq (sIf (eT (e2 gNe (eCall gLen (aCons (eVar 0) aNil)) (eCall gLen (aCons (eVar 1) aNil)))) (sRet (eC (.bool false))) sNil)
  (sRet (e2 gEq (eLc (iRng1F (eCall gLen (aCons (eVar 1) aNil))) [2] (gNm 2) (tNotF (eT (eFn (fun xs => if xs.length = 2 then self xs else fail) (aCons (e2 gIx (eVar 0) (eVar 2)) (aCons (e2 gIx (eVar 1) (eVar 2)) aNil))))) (eVar 2)) (eLst aNil))))) sNil)
  (sSeq (sIf (tIfT (eT (e2 gIs (eVar 1) (eC .none))) (tRetB true) (eT (eIsT .str (eVar 1)))) (sRet (eIfB (e2 gEq (eVar 0) (eVar 1)) (e2 gEq (eIsT .str (eVar 0)) (eIsT .str (eVar 1))) (eC (.bool false)))) sNil)
  (sRet (eIfB (eIsT .int (eVar 0)) (eIfB (e2 gEq (eIsT .bool (eVar 0)) (eIsT .bool (eVar 1))) (e2 gEq (eVar 0) (eVar 1)) (eC (.bool false))) (eC (.bool false))))))
def mr__law_alike : Nat → List RV → M RV
  | 0 => fun _ => fail
  | k + 1 => runDef 3 (g__law_alike (mr__law_alike k))
abbrev m__law_alike : List RV → M RV := mr__law_alike 5
def g__law_taken : DV.Env → M Out :=
  (sSeq (sIf (eT (e2 gGt (eRow 0 3) (eC (.int 0)))) (sSeq (sSet 2 (e2 gMod (eCall gInt (aCons (eRow 0 3) aNil)) (eVar 1)))
  (sSeq (sRowPut 0 3 (e2 gFdiv (eRow 0 3) (eVar 1)))
  (sRetV 2))) sNil)
  (sSeq (sRowPut 0 1 (e2 gAddA (eRow 0 1) (eC (.int 1))))
  (sSeq (sIf (eT (e2 gGt (eRow 0 1) (eCall gLen (aCons (eRow 0 0) aNil)))) (sSeq (sRowPut 0 2 (e2 gMod (eCall gInt (aCons (e2 gAddA (e2 gMulA (eRow 0 2) (eC (.int 48271))) (eC (.int 11))) aNil)) (eC (.int 2147483647))))
  (sRet (e2 gMod (eCall gInt (aCons (e2 gFdiv (eRow 0 2) (eC (.int 7))) aNil)) (eVar 1)))) sNil)
  (sSeq (sSet 3 (e2 gIx (eRow 0 0) (e2 gSubI (eRow 0 1) (eC (.int 1)))))
  (sSeq (sRowPut 0 2 (e2 gMod (eCall gInt (aCons (e2 gAddA (e2 gAddA (e2 gMulA (eRow 0 2) (eC (.int 48271))) (eVar 3)) (eC (.int 11))) aNil)) (eC (.int 2147483647))))
  (sSeq (sIf (eT (e2 gGe (eVar 3) (e2 gPow (eC (.int 10)) (eC (.int 18))))) (sRowPut 0 3 (e2 gFdiv (eVar 3) (eVar 1))) sNil)
  (sRet (e2 gMod (eCall gInt (aCons (eVar 3) aNil)) (eVar 1)))))))))
def m__law_taken : List RV → M RV := runDef 4 g__law_taken
def g__law_pick : DV.Env → M Out :=
  (sRet (e2 gIx (eVar 1) (eFn (fun xs => if xs.length = 2 then m__law_taken xs else fail) (aCons (eVar 0) (aCons (eCall gLen (aCons (eVar 1) aNil)) aNil)))))
def m__law_pick : List RV → M RV := runDef 2 g__law_pick
def g__law_jobs : DV.Env → M Out :=
  (sSeq (sPar3 3 4 5 (aCons (e2 gAddA (eC (.int 1)) (eFn (fun xs => if xs.length = 2 then m__law_taken xs else fail) (aCons (eVar 0) (aCons (eVar 1) aNil)))) (aCons (eFn (fun xs => if xs.length = 2 then m__law_pick xs else fail) (aCons (eVar 0) (aCons (eLst (aCons (eC (.int 2)) (aCons (eVar 2) aNil))) aNil))) (aCons (eFn (fun xs => if xs.length = 2 then m__law_pick xs else fail) (aCons (eVar 0) (aCons (eLst (aCons (eC (.int 1)) (aCons (eC (.int 3)) (aCons (eC (.int 9)) aNil)))) aNil))) aNil))))
  (sSeq (sSet 6 (eCall gTuple (aCons (eLc (iRng1F (eVar 3)) [7] (gNm 7) tTrue (e2 gAddA (eC (.int 1)) (eFn (fun xs => if xs.length = 2 then m__law_taken xs else fail) (aCons (eVar 0) (aCons (eVar 4) aNil))))) aNil)))
  (sSeq (sSet 8 (eCall gTuple (aCons (eLc (iRng1F (eVar 3)) [7] (gNm 7) tTrue (eFn (fun xs => if xs.length = 2 then m__law_taken xs else fail) (aCons (eVar 0) (aCons (e2 gAddA (eVar 5) (eC (.int 1))) aNil)))) aNil)))
  (sSeq (sSet 9 (e2 gAddA (eCall gSum (aCons (eVar 6) aNil)) (eC (.int 2))))
  (sSeq (sSet 10 (eCall gTuple (aCons (eLc (iRng1F (eVar 3)) [7] (gNm 7) tTrue (eFn (fun xs => if xs.length = 2 then m__law_taken xs else fail) (aCons (eVar 0) (aCons (eVar 9) aNil)))) aNil)))
  (sRet (eTup (aCons (eVar 6) (aCons (eVar 8) (aCons (eVar 10) aNil))))))))))
def m__law_jobs : List RV → M RV := runDef 11 g__law_jobs
def g__law_order : DV.Env → M Out :=
  (sSeq (sPar 2 3 (aCons (eListRg (rg1F (eVar 1))) (aCons (eLst aNil) aNil)))
  (sSeq (sFor (iRng1F (eVar 1)) (gNm 4) (sPopApp 3 2 (eFn (fun xs => if xs.length = 2 then m__law_taken xs else fail) (aCons (eVar 0) (aCons (eCall gLen (aCons (eVar 2) aNil)) aNil)))))
  (sRet (eCall gTuple (aCons (eVar 3) aNil)))))
def m__law_order : List RV → M RV := runDef 5 g__law_order
def g__law_orders : DV.Env → M Out :=
  (sSeq (sSet 2 (eLst (aCons (eTup aNil) aNil)))
  (sSeq (sFor (iRng1F (eVar 0)) (gNm 3) (sSeq (sSet 4 (eLst aNil))
  (sSeq (sFor (srcV 2) (gNm 5) (sFor (iRng1F (eVar 0)) (gNm 6) (sIf (tIfT (eT (e2 gNotIn (eVar 6) (eVar 5))) (eT (e2 gEq (eLc (srcV 1) [7] (gNm 7) (tIfT (eT (e2 gEq (e2 gIx (eVar 7) (eC (.int 1))) (eVar 6))) (eT (e2 gNotIn (e2 gIx (eVar 7) (eC (.int 0))) (eVar 5))) (tRetB false)) (eVar 7)) (eLst aNil))) (tRetB false)) (sApp 4 (e2 gAddA (eVar 5) (eTup (aCons (eVar 6) aNil)))) sNil)))
  (sMove 2 4))))
  (sRetV 2)))
def m__law_orders : List RV → M RV := runDef 8 g__law_orders
def g_is_integer : DV.Env → M Out :=
  (sRet (eIfB (eIsT .int (eVar 0)) (eNotB (eIsT .bool (eVar 0))) (eC (.bool false))))
def m_is_integer : List RV → M RV := runDef 1 g_is_integer
def g_is_in : DV.Env → M Out :=
  (sRet (eIfB (eFn (fun xs => if xs.length = 1 then m_is_integer xs else fail) (aCons (eVar 0) aNil)) (eCh gLe gLe (eVar 1) (eVar 0) (eVar 2)) (eC (.bool false))))
def m_is_in : List RV → M RV := runDef 3 g_is_in
def g_is_list : DV.Env → M Out :=
  (sRet (eIfB (eIsT .tuple (eVar 0)) (eCh gLe gLe (eVar 1) (eCall gLen (aCons (eVar 0) aNil)) (eVar 2)) (eC (.bool false))))
def m_is_list : List RV → M RV := runDef 3 g_is_list
def g_is_order : DV.Env → M Out :=
  (sRet (eIfB (eFn (fun xs => if xs.length = 3 then m_is_list xs else fail) (aCons (eVar 0) (aCons (eVar 1) (aCons (eVar 1) aNil)))) (eIfB (eCall gAll (aCons (eLc (srcV 0) [2] (gNm 2) tTrue (eFn (fun xs => if xs.length = 3 then m_is_in xs else fail) (aCons (eVar 2) (aCons (eC (.int 0)) (aCons (e2 gSubI (eVar 1) (eC (.int 1))) aNil))))) aNil)) (e2 gEq (eLenSet (eVar 0)) (eVar 1)) (eC (.bool false))) (eC (.bool false))))
def m_is_order : List RV → M RV := runDef 3 g_is_order
def g_need_order : DV.Env → M Out :=
  (sIf (tNotF (eT (eFn (fun xs => if xs.length = 2 then m_is_order xs else fail) (aCons (eVar 0) (aCons (eVar 1) aNil))))) sNever sNil)
def m_need_order : List RV → M RV := runDef 2 g_need_order
def g_first_bad : DV.Env → M Out :=
  (sSeq (sIf (tNotF (eT (eFn (fun xs => if xs.length = 3 then m_is_list xs else fail) (aCons (eVar 0) (aCons (eVar 1) (aCons (eVar 1) aNil)))))) (sRet (eC .none)) sNil)
  (sSeq (sFor (iEnumF (srcV 0)) (gTupF 2 (gMore (gNm 4) (gMore (gNm 5) gNone))) (sIf (tNotF (eT (eFn (fun xs => if xs.length = 3 then m_is_in xs else fail) (aCons (eVar 5) (aCons (eVar 2) (aCons (eVar 3) aNil)))))) (sRetV 4) sNil))
  (sRet (eNeg (eC (.int 1))))))
def m_first_bad : List RV → M RV := runDef 6 g_first_bad
def g_need_times : DV.Env → M Out :=
  (sSeq (sIf (tNotF (eT (eFn (fun xs => if xs.length = 3 then m_is_list xs else fail) (aCons (eVar 0) (aCons (eC (.int 1)) (aCons (eC (.int 10)) aNil)))))) sNever sNil)
  (sSeq (sSet 1 (eFn (fun xs => if xs.length = 4 then m_first_bad xs else fail) (aCons (eVar 0) (aCons (eCall gLen (aCons (eVar 0) aNil)) (aCons (eC (.int 1)) (aCons (eC (.int 60)) aNil))))))
  (sIf (eT (e2 gNe (eVar 1) (eNeg (eC (.int 1))))) sNever sNil)))
def m_need_times : List RV → M RV := runDef 2 g_need_times
def g__law_free_days : DV.Env → M Out :=
  (sRet (eLc (iRng1F (eVar 1)) [2] (gNm 2) (eT (e2 gEq (eLc (srcV 0) [3] (gNm 3) (eT (eCh gLe gLt (e2 gIx (eVar 3) (eC (.int 0))) (eVar 2) (e2 gIx (eVar 3) (eC (.int 1))))) (eVar 3)) (eLst aNil))) (eVar 2)))
def m__law_free_days : List RV → M RV := runDef 4 g__law_free_days
def g__law_stops : DV.Env → M Out :=
  (sSeq (sPar 2 3 (aCons (eLst aNil) (aCons (eC (.int 0)) aNil)))
  (sSeq (sFor (iRng1F (eFn (fun xs => if xs.length = 2 then m__law_taken xs else fail) (aCons (eVar 0) (aCons (e2 gAddA (eVar 1) (eC (.int 1))) aNil)))) (gNm 4) (sSeq (sSet 5 (e2 gAddA (eVar 3) (eFn (fun xs => if xs.length = 2 then m__law_taken xs else fail) (aCons (eVar 0) (aCons (eC (.int 6)) aNil)))))
  (sSeq (sSet 3 (e2 gAddA (e2 gAddA (eVar 5) (eC (.int 1))) (eFn (fun xs => if xs.length = 2 then m__law_taken xs else fail) (aCons (eVar 0) (aCons (eC (.int 4)) aNil)))))
  (sApp 2 (eTup (aCons (eVar 5) (aCons (eVar 3) aNil)))))))
  (sRet (eCall gTuple (aCons (eVar 2) aNil)))))
def m__law_stops : List RV → M RV := runDef 6 g__law_stops
def g_able_jobs : DV.Env → M Out :=
  (sSeq (sSet 3 (eLc (iRng1F (eVar 2)) [4] (gNm 4) (eT (e2 gNotIn (eVar 4) (eVar 1))) (eVar 4)))
  (sRet (eLc (srcV 3) [4] (gNm 4) (tNotF (eT (eCall gAny (aCons (eLc (srcV 0) [5] (gNm 5) tTrue (eIfB (e2 gEq (e2 gIx (eVar 5) (eC (.int 1))) (eVar 4)) (e2 gIn (e2 gIx (eVar 5) (eC (.int 0))) (eVar 3)) (eC (.bool false)))) aNil)))) (eVar 4))))
def m_able_jobs : List RV → M RV := runDef 6 g_able_jobs
def g_all_orders : DV.Env → M Out :=
  (sSeq (sSet 2 (eLst (aCons (eTup aNil) aNil)))
  (sSeq (sFor (iRng1F (eVar 0)) (gNm 3) (sSet 2 (eLc2 (srcV 2) [4, 5] (gNm 4) tTrue (srcE (eFn (fun xs => if xs.length = 3 then m_able_jobs xs else fail) (aCons (eVar 1) (aCons (eVar 4) (aCons (eVar 0) aNil))))) [5] (gNm 5) tTrue (eTup (aStar (eVar 4) (aCons (eVar 5) aNil))))))
  (sRetV 2)))
def m_all_orders : List RV → M RV := runDef 6 g_all_orders
def g_need_stops : DV.Env → M Out :=
  (sSeq (sIf (tNotF (eT (eFn (fun xs => if xs.length = 3 then m_is_list xs else fail) (aCons (eVar 0) (aCons (eC (.int 0)) (aCons (eC (.int 6)) aNil)))))) sNever sNil)
  (sFor (iEnumF (srcV 0)) (gTupF 2 (gMore (gNm 1) (gMore (gNm 2) gNone))) (sSeq (sIf (tIfT (tNotF (eT (eFn (fun xs => if xs.length = 3 then m_is_list xs else fail) (aCons (eVar 2) (aCons (eC (.int 2)) (aCons (eC (.int 2)) aNil)))))) (tRetB true) (tIfT (tNotF (eT (eCall gAll (aCons (eLc (srcV 2) [3] (gNm 3) tTrue (eFn (fun xs => if xs.length = 3 then m_is_in xs else fail) (aCons (eVar 3) (aCons (eC (.int 0)) (aCons (eC (.int 600)) aNil))))) aNil)))) (tRetB true) (eT (e2 gGe (e2 gIx (eVar 2) (eC (.int 0))) (e2 gIx (eVar 2) (eC (.int 1))))))) sNever sNil)
  (sIf (tIfT (eT (e2 gGt (eVar 1) (eC (.int 0)))) (eT (e2 gLt (e2 gIx (eVar 2) (eC (.int 0))) (e2 gIx (e2 gIx (eVar 0) (e2 gSubI (eVar 1) (eC (.int 1)))) (eC (.int 1))))) (tRetB false)) sNever sNil))))
def m_need_stops : List RV → M RV := runDef 4 g_need_stops
def g_fitted : DV.Env → M Out :=
  (sSeq (sMove 3 1)
  (sSeq (sFor (srcV 0) (gTupF 2 (gMore (gNm 4) (gMore (gNm 5) gNone))) (sIf (tIfT (eT (e2 gLt (eVar 4) (e2 gAddA (eVar 3) (eVar 2)))) (eT (e2 gGtA (eVar 5) (eVar 3))) (tRetB false)) (sMove 3 5) sNil))
  (sRetV 3)))
def m_fitted : List RV → M RV := runDef 6 g_fitted
def g_whole_in : DV.Env → M Out :=
  (sSeq (sPar 3 4 (aCons (e2 gMulA (eLst (aCons (eC (.int 0)) aNil)) (eCall gLen (aCons (eVar 0) aNil))) (aCons (eC (.int 0)) aNil)))
  (sSeq (sFor (srcV 2) (gNm 5) (sSeq (sSet 4 (e2 gAddA (eFn (fun xs => if xs.length = 3 then m_fitted xs else fail) (aCons (eVar 1) (aCons (eVar 4) (aCons (e2 gIx (eVar 0) (eVar 5)) aNil)))) (e2 gIx (eVar 0) (eVar 5))))
  (sPut 3 (eVar 4) (eVar 5))))
  (sRet (eCall gTuple (aCons (eVar 3) aNil)))))
def m_whole_in : List RV → M RV := runDef 6 g_whole_in
def g_best_packed : DV.Env → M Out :=
  (sSeq (sDrop (eFn (fun xs => if xs.length = 1 then m_need_times xs else fail) (aCons (eVar 0) aNil)))
  (sSeq (sDrop (eFn (fun xs => if xs.length = 1 then m_need_stops xs else fail) (aCons (eVar 1) aNil)))
  (sSeq (sIf (eT (e2 gGt (eCall gLen (aCons (eVar 0) aNil)) (eC (.int 7)))) sNever sNil)
  (sRet (eCall (gBest PySem.W.minD) (aCons (eLc (srcE (eFn (fun xs => if xs.length = 2 then m_all_orders xs else fail) (aCons (eCall gLen (aCons (eVar 0) aNil)) (aCons (eTup aNil) aNil)))) [2] (gNm 2) tTrue (eTup (aCons (eCall (gBest PySem.W.maxD) (aCons (eFn (fun xs => if xs.length = 3 then m_whole_in xs else fail) (aCons (eVar 0) (aCons (eVar 1) (aCons (eVar 2) aNil)))) aNil)) (aCons (eVar 2) aNil)))) aNil))))))
def m_best_packed : List RV → M RV := runDef 3 g_best_packed
def g_need_weights : DV.Env → M Out :=
  (sSeq (sSet 2 (eFn (fun xs => if xs.length = 4 then m_first_bad xs else fail) (aCons (eVar 0) (aCons (eVar 1) (aCons (eC (.int 0)) (aCons (eC (.int 60)) aNil))))))
  (sIf (eT (e2 gNe (eVar 2) (eNeg (eC (.int 1))))) sNever sNil))
def m_need_weights : List RV → M RV := runDef 3 g_need_weights
def g_best_whole : DV.Env → M Out :=
  (sSeq (sDrop (eFn (fun xs => if xs.length = 1 then m_need_times xs else fail) (aCons (eVar 0) aNil)))
  (sSeq (sDrop (eFn (fun xs => if xs.length = 2 then m_need_weights xs else fail) (aCons (eVar 1) (aCons (eCall gLen (aCons (eVar 0) aNil)) aNil))))
  (sSeq (sDrop (eFn (fun xs => if xs.length = 1 then m_need_stops xs else fail) (aCons (eVar 2) aNil)))
  (sSeq (sIf (eT (e2 gGt (eCall gLen (aCons (eVar 0) aNil)) (eC (.int 7)))) sNever sNil)
  (sSeq (sSet 3 (eC .none))
  (sSeq (sFor (srcE (eFn (fun xs => if xs.length = 2 then m_all_orders xs else fail) (aCons (eCall gLen (aCons (eVar 0) aNil)) (aCons (eTup aNil) aNil)))) (gNm 4) (sSeq (sSet 5 (eTup (aCons (eCall gSum (aCons (eLc (iZipF (srcV 1) (srcE (eFn (fun xs => if xs.length = 3 then m_whole_in xs else fail) (aCons (eVar 0) (aCons (eVar 2) (aCons (eVar 4) aNil)))))) [6, 7] (gTupF 2 (gMore (gNm 6) (gMore (gNm 7) gNone))) tTrue (e2 gMulA (eVar 6) (eVar 7))) aNil)) (aCons (eVar 4) aNil))))
  (sSet 3 (eIf (tIfT (eT (e2 gIs (eVar 3) (eC .none))) (tRetB true) (eT (e2 gLtA (eVar 5) (eVar 3)))) (eVar 5) (eVar 3)))))
  (sRetV 3)))))))
def m_best_whole : List RV → M RV := runDef 8 g_best_whole
def g_whole_ends : DV.Env → M Out :=
  (sSeq (sDrop (eFn (fun xs => if xs.length = 1 then m_need_times xs else fail) (aCons (eVar 0) aNil)))
  (sSeq (sDrop (eFn (fun xs => if xs.length = 1 then m_need_stops xs else fail) (aCons (eVar 1) aNil)))
  (sSeq (sDrop (eFn (fun xs => if xs.length = 2 then m_need_order xs else fail) (aCons (eVar 2) (aCons (eCall gLen (aCons (eVar 0) aNil)) aNil))))
  (sRet (eFn (fun xs => if xs.length = 3 then m_whole_in xs else fail) (aCons (eVar 0) (aCons (eVar 1) (aCons (eVar 2) aNil))))))))
def m_whole_ends : List RV → M RV := runDef 3 g_whole_ends

def g_growth_in : DV.Env → M Out :=
  (sSeq (sSet 3 (eC (.int 0)))
  (sSeq (sFor (srcV 2) (gNm 4) (sAug 3 (fun a b => a + b) (e2 gAddA (e2 gIx (eVar 0) (eVar 4)) (e2 gMulA (e2 gIx (eVar 1) (eVar 4)) (eVar 3)))))
  (sRetV 3)))
def m_growth_in : List RV → M RV := runDef 5 g_growth_in
def g_need_growth : DV.Env → M Out :=
  (sSeq (sIf (tNotF (eT (eFn (fun xs => if xs.length = 3 then m_is_list xs else fail) (aCons (eVar 0) (aCons (eVar 1) (aCons (eVar 1) aNil)))))) sNever sNil)
  (sFor (iEnumF (srcV 0)) (gTupF 2 (gMore (gNm 2) (gMore (gNm 3) gNone))) (sIf (tNotF (eT (eFn (fun xs => if xs.length = 3 then m_is_in xs else fail) (aCons (eVar 3) (aCons (eC (.int 0)) (aCons (eC (.int 60)) aNil)))))) sNever sNil)))
def m_need_growth : List RV → M RV := runDef 4 g_need_growth
def g_growth_length : DV.Env → M Out :=
  (sSeq (sDrop (eFn (fun xs => if xs.length = 1 then m_need_times xs else fail) (aCons (eVar 0) aNil)))
  (sSeq (sDrop (eFn (fun xs => if xs.length = 2 then m_need_growth xs else fail) (aCons (eVar 1) (aCons (eCall gLen (aCons (eVar 0) aNil)) aNil))))
  (sSeq (sDrop (eFn (fun xs => if xs.length = 2 then m_need_order xs else fail) (aCons (eVar 2) (aCons (eCall gLen (aCons (eVar 0) aNil)) aNil))))
  (sRet (eFn (fun xs => if xs.length = 3 then m_growth_in xs else fail) (aCons (eVar 0) (aCons (eVar 1) (aCons (eVar 2) aNil))))))))
def m_growth_length : List RV → M RV := runDef 3 g_growth_length
def g_growth_order : DV.Env → M Out :=
  (sSeq (sDrop (eFn (fun xs => if xs.length = 1 then m_need_times xs else fail) (aCons (eVar 0) aNil)))
  (sSeq (sDrop (eFn (fun xs => if xs.length = 2 then m_need_growth xs else fail) (aCons (eVar 1) (aCons (eCall gLen (aCons (eVar 0) aNil)) aNil))))
  (sSeq (sPar 2 3 (aCons (eListRg (rg1F (eCall gLen (aCons (eVar 0) aNil)))) (aCons (eLst aNil) aNil)))
  (sSeq (wloopF (eT (e2 gNe (eVar 2) (eLst aNil))) (sSeq (sSet 4 (e2 gIx (eVar 2) (eC (.int 0))))
  (sSeq (sFor (srcE (eSlice (eVar 2) (ePart (eC (.int 1))) (fun _ => ret none))) (gNm 5) (sIf (eT (e2 gLt (e2 gMulA (e2 gIx (eVar 0) (eVar 5)) (e2 gIx (eVar 1) (eVar 4))) (e2 gMulA (e2 gIx (eVar 0) (eVar 4)) (e2 gIx (eVar 1) (eVar 5))))) (sMove 4 5) sNil))
  (sSeq (sApp 3 (eVar 4))
  (sSet 2 (eLc (srcV 2) [5] (gNm 5) (eT (e2 gNe (eVar 5) (eVar 4))) (eVar 5)))))) 100000)
  (sRet (eCall gTuple (aCons (eVar 3) aNil)))))))
def m_growth_order : List RV → M RV := runDef 6 g_growth_order

def g_ends_in : DV.Env → M Out :=
  (sSeq (sPar 2 3 (aCons (e2 gMulA (eLst (aCons (eC (.int 0)) aNil)) (eCall gLen (aCons (eVar 0) aNil))) (aCons (eC (.int 0)) aNil)))
  (sSeq (sFor (srcV 1) (gNm 4) (sSeq (sAug 3 (fun a b => a + b) (e2 gIx (eVar 0) (eVar 4)))
  (sPut 2 (eVar 3) (eVar 4))))
  (sRetV 2)))
def m_ends_in : List RV → M RV := runDef 5 g_ends_in
def g_ends : DV.Env → M Out :=
  (sSeq (sDrop (eFn (fun xs => if xs.length = 1 then m_need_times xs else fail) (aCons (eVar 0) aNil)))
  (sSeq (sDrop (eFn (fun xs => if xs.length = 2 then m_need_order xs else fail) (aCons (eVar 1) (aCons (eCall gLen (aCons (eVar 0) aNil)) aNil))))
  (sRet (eCall gTuple (aCons (eFn (fun xs => if xs.length = 2 then m_ends_in xs else fail) (aCons (eVar 0) (aCons (eVar 1) aNil))) aNil)))))
def m_ends : List RV → M RV := runDef 2 g_ends
def g_worked : DV.Env → M Out :=
  (sSeq (sMove 3 1)
  (sSeq (sFor (srcV 0) (gTupF 2 (gMore (gNm 4) (gMore (gNm 5) gNone))) (sSeq (sIf (eT (e2 gLeA (eVar 5) (eVar 3))) sCont sNil)
  (sIf (eT (e2 gLeA (eVar 4) (eVar 3))) (sMove 3 5) (sIf (eT (e2 gGe (e2 gSubI (eVar 4) (eVar 3)) (eVar 2))) (sRet (e2 gAddA (eVar 3) (eVar 2))) (sPar 2 3 (aCons (e2 gSubI (eVar 2) (e2 gSubI (eVar 4) (eVar 3))) (aCons (eVar 5) aNil)))))))
  (sRet (e2 gAddA (eVar 3) (eVar 2)))))
def m_worked : List RV → M RV := runDef 6 g_worked
def g_paused_in : DV.Env → M Out :=
  (sSeq (sPar 3 4 (aCons (e2 gMulA (eLst (aCons (eC (.int 0)) aNil)) (eCall gLen (aCons (eVar 0) aNil))) (aCons (eC (.int 0)) aNil)))
  (sSeq (sFor (srcV 2) (gNm 5) (sSeq (sSet 4 (eFn (fun xs => if xs.length = 3 then m_worked xs else fail) (aCons (eVar 1) (aCons (eVar 4) (aCons (e2 gIx (eVar 0) (eVar 5)) aNil)))))
  (sPut 3 (eVar 4) (eVar 5))))
  (sRet (eCall gTuple (aCons (eVar 3) aNil)))))
def m_paused_in : List RV → M RV := runDef 6 g_paused_in
def g_paused_ends : DV.Env → M Out :=
  (sSeq (sDrop (eFn (fun xs => if xs.length = 1 then m_need_times xs else fail) (aCons (eVar 0) aNil)))
  (sSeq (sDrop (eFn (fun xs => if xs.length = 1 then m_need_stops xs else fail) (aCons (eVar 1) aNil)))
  (sSeq (sDrop (eFn (fun xs => if xs.length = 2 then m_need_order xs else fail) (aCons (eVar 2) (aCons (eCall gLen (aCons (eVar 0) aNil)) aNil))))
  (sRet (eFn (fun xs => if xs.length = 3 then m_paused_in xs else fail) (aCons (eVar 0) (aCons (eVar 1) (aCons (eVar 2) aNil))))))))
def m_paused_ends : List RV → M RV := runDef 3 g_paused_ends
def g_need_weighed : DV.Env → M Out :=
  (sSeq (sDrop (eFn (fun xs => if xs.length = 1 then m_need_times xs else fail) (aCons (eVar 0) aNil)))
  (sDrop (eFn (fun xs => if xs.length = 2 then m_need_weights xs else fail) (aCons (eVar 1) (aCons (eCall gLen (aCons (eVar 0) aNil)) aNil)))))
def m_need_weighed : List RV → M RV := runDef 2 g_need_weighed
def g_ratio_order : DV.Env → M Out :=
  (sSeq (sPar 2 3 (aCons (eListRg (rg1F (eCall gLen (aCons (eVar 0) aNil)))) (aCons (eLst aNil) aNil)))
  (sSeq (wloopF (eT (e2 gNe (eVar 2) (eLst aNil))) (sSeq (sSet 4 (e2 gIx (eVar 2) (eC (.int 0))))
  (sSeq (sFor (srcE (eSlice (eVar 2) (ePart (eC (.int 1))) (fun _ => ret none))) (gNm 5) (sIf (eT (e2 gLt (e2 gMulA (e2 gIx (eVar 0) (eVar 5)) (e2 gIx (eVar 1) (eVar 4))) (e2 gMulA (e2 gIx (eVar 0) (eVar 4)) (e2 gIx (eVar 1) (eVar 5))))) (sMove 4 5) sNil))
  (sSeq (sApp 3 (eVar 4))
  (sSet 2 (eLc (srcV 2) [5] (gNm 5) (eT (e2 gNe (eVar 5) (eVar 4))) (eVar 5)))))) 100000)
  (sRet (eCall gTuple (aCons (eVar 3) aNil)))))
def m_ratio_order : List RV → M RV := runDef 6 g_ratio_order
def g_smith_order : DV.Env → M Out :=
  (sSeq (sDrop (eFn (fun xs => if xs.length = 2 then m_need_weighed xs else fail) (aCons (eVar 0) (aCons (eVar 1) aNil))))
  (sRet (eFn (fun xs => if xs.length = 2 then m_ratio_order xs else fail) (aCons (eVar 0) (aCons (eVar 1) aNil)))))
def m_smith_order : List RV → M RV := runDef 2 g_smith_order
def g_sum_in : DV.Env → M Out :=
  (sRet (eCall gSum (aCons (eLc (iZipF (srcV 1) (srcE (eFn (fun xs => if xs.length = 2 then m_ends_in xs else fail) (aCons (eVar 0) (aCons (eVar 2) aNil))))) [3, 4] (gTupF 2 (gMore (gNm 3) (gMore (gNm 4) gNone))) tTrue (e2 gMulA (eVar 3) (eVar 4))) aNil)))
def m_sum_in : List RV → M RV := runDef 5 g_sum_in
def g_weighted_sum : DV.Env → M Out :=
  (sSeq (sDrop (eFn (fun xs => if xs.length = 2 then m_need_weighed xs else fail) (aCons (eVar 0) (aCons (eVar 1) aNil))))
  (sSeq (sDrop (eFn (fun xs => if xs.length = 2 then m_need_order xs else fail) (aCons (eVar 2) (aCons (eCall gLen (aCons (eVar 0) aNil)) aNil))))
  (sRet (eFn (fun xs => if xs.length = 3 then m_sum_in xs else fail) (aCons (eVar 0) (aCons (eVar 1) (aCons (eVar 2) aNil)))))))
def m_weighted_sum : List RV → M RV := runDef 3 g_weighted_sum

def g__law_ends : DV.Env → M Out :=
  (sSeq (sPar 2 3 (aCons (e2 gMulA (eLst (aCons (eC (.int 0)) aNil)) (eCall gLen (aCons (eVar 0) aNil))) (aCons (eC (.int 0)) aNil)))
  (sSeq (sFor (srcV 1) (gNm 4) (sSeq (sSet 3 (e2 gAddA (eVar 3) (e2 gIx (eVar 0) (eVar 4))))
  (sPut 2 (eVar 3) (eVar 4))))
  (sRetV 2)))
def m__law_ends : List RV → M RV := runDef 5 g__law_ends
def g_short_order : DV.Env → M Out :=
  (sSeq (sDrop (eFn (fun xs => if xs.length = 1 then m_need_times xs else fail) (aCons (eVar 0) aNil)))
  (sSeq (sDrop (eFn (fun xs => if xs.length = 1 then m_need_stops xs else fail) (aCons (eVar 1) aNil)))
  (sRet (eCall gTuple (aCons (eSortK (colR (rg1F (eCall gLen (aCons (eVar 0) aNil)))) (eTup (aCons (e2 gIx (eVar 0) (eVar 2)) (aCons (eVar 2) aNil))) 2) aNil)))))
def m_short_order : List RV → M RV := runDef 3 g_short_order
def g__law_table : DV.Env → M Out :=
  (sSeq (sSet 4 (eFn (fun xs => if xs.length = 2 then m__law_pick xs else fail) (aCons (eVar 0) (aCons (eLst (aCons (eC (.int 3)) (aCons (eC (.int 12)) aNil))) aNil))))
  (sSeq (sSet 5 (eLst aNil))
  (sSeq (sFor (iRng1F (e2 gAddA (eC (.int 1)) (eFn (fun xs => if xs.length = 2 then m__law_taken xs else fail) (aCons (eVar 0) (aCons (eVar 1) aNil))))) (gNm 6) (sApp 5 (eCall gTuple (aCons (eLc (iRng1F (eVar 2)) [7] (gNm 7) tTrue (e2 gAddA (eVar 3) (eFn (fun xs => if xs.length = 2 then m__law_taken xs else fail) (aCons (eVar 0) (aCons (eVar 4) aNil))))) aNil))))
  (sRet (eCall gTuple (aCons (eVar 5) aNil))))))
def m__law_table : List RV → M RV := runDef 8 g__law_table
def g_need_table : DV.Env → M Out :=
  (sSeq (sIf (tNotF (eT (eFn (fun xs => if xs.length = 3 then m_is_list xs else fail) (aCons (eVar 0) (aCons (eC (.int 1)) (aCons (eC (.int 8)) aNil)))))) sNever sNil)
  (sFor (iEnumF (srcV 0)) (gTupF 2 (gMore (gNm 1) (gMore (gNm 2) gNone))) (sSeq (sIf (tIfT (tNotF (eT (eFn (fun xs => if xs.length = 3 then m_is_list xs else fail) (aCons (eVar 2) (aCons (eC (.int 1)) (aCons (eC (.int 5)) aNil)))))) (tRetB true) (eT (e2 gNe (eCall gLen (aCons (eVar 2) aNil)) (eCall gLen (aCons (e2 gIx (eVar 0) (eC (.int 0))) aNil))))) sNever sNil)
  (sIf (tNotF (eT (eCall gAll (aCons (eLc (srcV 2) [3] (gNm 3) tTrue (eFn (fun xs => if xs.length = 3 then m_is_in xs else fail) (aCons (eVar 3) (aCons (eC (.int 0)) (aCons (eC (.int 60)) aNil))))) aNil)))) sNever sNil))))
def m_need_table : List RV → M RV := runDef 4 g_need_table
def g_need_two : DV.Env → M Out :=
  (sSeq (sDrop (eFn (fun xs => if xs.length = 1 then m_need_table xs else fail) (aCons (eVar 0) aNil)))
  (sIf (eT (e2 gNe (eCall gLen (aCons (e2 gIx (eVar 0) (eC (.int 0))) aNil)) (eC (.int 2)))) sNever sNil))
def m_need_two : List RV → M RV := runDef 1 g_need_two
def g_johnson_order : DV.Env → M Out :=
  (sSeq (sDrop (eFn (fun xs => if xs.length = 1 then m_need_two xs else fail) (aCons (eVar 0) aNil)))
  (sSeq (sSet 1 (eSortK (colS (eLc (iEnumF (srcV 0)) [2, 3] (gTupF 2 (gMore (gNm 2) (gMore (gNm 3) gNone))) (eT (e2 gLe (e2 gIx (eVar 3) (eC (.int 0))) (e2 gIx (eVar 3) (eC (.int 1))))) (eVar 2))) (eTup (aCons (e2 gIx (e2 gIx (eVar 0) (eVar 2)) (eC (.int 0))) (aCons (eVar 2) aNil))) 2))
  (sSeq (sSet 4 (eSortK (colS (eLc (iEnumF (srcV 0)) [2, 3] (gTupF 2 (gMore (gNm 2) (gMore (gNm 3) gNone))) (eT (e2 gGt (e2 gIx (eVar 3) (eC (.int 0))) (e2 gIx (eVar 3) (eC (.int 1))))) (eVar 2))) (eTup (aCons (eNeg (e2 gIx (e2 gIx (eVar 0) (eVar 2)) (eC (.int 1)))) (aCons (eVar 2) aNil))) 2))
  (sRet (eTup (aStar (eVar 1) (aStar (eVar 4) aNil)))))))
def m_johnson_order : List RV → M RV := runDef 5 g_johnson_order
def g_lag_ends : DV.Env → M Out :=
  (sSeq (sPar3 3 4 5 (aCons (eC (.int 0)) (aCons (eC (.int 0)) (aCons (e2 gMulA (eLst (aCons (eC (.int 0)) aNil)) (eCall gLen (aCons (eVar 0) aNil))) aNil))))
  (sSeq (sFor (srcV 2) (gNm 6) (sSeq (sAug 3 (fun a b => a + b) (e2 gIx (e2 gIx (eVar 0) (eVar 6)) (eC (.int 0))))
  (sSeq (sSet 4 (e2 gAddA (eCall gMax2 (aCons (eVar 4) (aCons (e2 gAddA (eVar 3) (e2 gIx (eVar 1) (eVar 6))) aNil))) (e2 gIx (e2 gIx (eVar 0) (eVar 6)) (eC (.int 1)))))
  (sPut 5 (eVar 4) (eVar 6)))))
  (sRetV 5)))
def m_lag_ends : List RV → M RV := runDef 7 g_lag_ends
def g_need_lags : DV.Env → M Out :=
  (sIf (tIfT (tNotF (eT (eFn (fun xs => if xs.length = 3 then m_is_list xs else fail) (aCons (eVar 0) (aCons (eVar 1) (aCons (eVar 1) aNil)))))) (tRetB true) (tNotF (eT (eCall gAll (aCons (eLc (srcV 0) [2] (gNm 2) tTrue (eFn (fun xs => if xs.length = 3 then m_is_in xs else fail) (aCons (eVar 2) (aCons (eC (.int 0)) (aCons (eC (.int 60)) aNil))))) aNil))))) sNever sNil)
def m_need_lags : List RV → M RV := runDef 3 g_need_lags
def g_lag_length : DV.Env → M Out :=
  (sSeq (sDrop (eFn (fun xs => if xs.length = 1 then m_need_two xs else fail) (aCons (eVar 0) aNil)))
  (sSeq (sDrop (eFn (fun xs => if xs.length = 2 then m_need_lags xs else fail) (aCons (eVar 1) (aCons (eCall gLen (aCons (eVar 0) aNil)) aNil))))
  (sSeq (sDrop (eFn (fun xs => if xs.length = 2 then m_need_order xs else fail) (aCons (eVar 2) (aCons (eCall gLen (aCons (eVar 0) aNil)) aNil))))
  (sRet (eCall (gBest PySem.W.maxD) (aCons (eFn (fun xs => if xs.length = 3 then m_lag_ends xs else fail) (aCons (eVar 0) (aCons (eVar 1) (aCons (eVar 2) aNil)))) aNil))))))
def m_lag_length : List RV → M RV := runDef 3 g_lag_length
def g_lag_order : DV.Env → M Out :=
  (sSeq (sDrop (eFn (fun xs => if xs.length = 1 then m_need_two xs else fail) (aCons (eVar 0) aNil)))
  (sSeq (sDrop (eFn (fun xs => if xs.length = 2 then m_need_lags xs else fail) (aCons (eVar 1) (aCons (eCall gLen (aCons (eVar 0) aNil)) aNil))))
  (sSeq (sSet 2 (eCall gTuple (aCons (eLc (iZipF (srcV 0) (srcV 1)) [3, 4] (gTupF 2 (gMore (gNm 3) (gMore (gNm 4) gNone))) tTrue (eTup (aCons (e2 gAddA (e2 gIx (eVar 3) (eC (.int 0))) (eVar 4)) (aCons (e2 gAddA (e2 gIx (eVar 3) (eC (.int 1))) (eVar 4)) aNil)))) aNil)))
  (sSeq (sSet 5 (eSortK (colS (eLc (iEnumF (srcV 2)) [6, 3] (gTupF 2 (gMore (gNm 6) (gMore (gNm 3) gNone))) (eT (e2 gLe (e2 gIx (eVar 3) (eC (.int 0))) (e2 gIx (eVar 3) (eC (.int 1))))) (eVar 6))) (eTup (aCons (e2 gIx (e2 gIx (eVar 2) (eVar 6)) (eC (.int 0))) (aCons (eVar 6) aNil))) 6))
  (sSeq (sSet 7 (eSortK (colS (eLc (iEnumF (srcV 2)) [6, 3] (gTupF 2 (gMore (gNm 6) (gMore (gNm 3) gNone))) (eT (e2 gGt (e2 gIx (eVar 3) (eC (.int 0))) (e2 gIx (eVar 3) (eC (.int 1))))) (eVar 6))) (eTup (aCons (eNeg (e2 gIx (e2 gIx (eVar 2) (eVar 6)) (eC (.int 1)))) (aCons (eVar 6) aNil))) 6))
  (sRet (eTup (aStar (eVar 5) (aStar (eVar 7) aNil)))))))))
def m_lag_order : List RV → M RV := runDef 8 g_lag_order
def g__law_meet : DV.Env → M Out :=
  (sRet (eIfB (e2 gLt (e2 gIx (eVar 0) (eC (.int 0))) (e2 gIx (eVar 1) (eC (.int 1)))) (e2 gLt (e2 gIx (eVar 1) (eC (.int 0))) (e2 gIx (eVar 0) (eC (.int 1)))) (eC (.bool false))))
def m__law_meet : List RV → M RV := runDef 2 g__law_meet
def g__law_spans : DV.Env → M Out :=
  (sSeq (sPar 2 3 (aCons (eLst aNil) (aCons (eFn (fun xs => if xs.length = 2 then m__law_pick xs else fail) (aCons (eVar 0) (aCons (eLst (aCons (eC (.int 6)) (aCons (eC (.int 12)) (aCons (eC (.int 40)) aNil)))) aNil))) aNil)))
  (sSeq (sFor (iRng1F (e2 gAddA (eC (.int 1)) (eFn (fun xs => if xs.length = 2 then m__law_taken xs else fail) (aCons (eVar 0) (aCons (eVar 1) aNil))))) (gNm 4) (sSeq (sSet 5 (eFn (fun xs => if xs.length = 2 then m__law_taken xs else fail) (aCons (eVar 0) (aCons (eVar 3) aNil))))
  (sApp 2 (eTup (aCons (eVar 5) (aCons (e2 gAddA (e2 gAddA (eVar 5) (eC (.int 1))) (eFn (fun xs => if xs.length = 2 then m__law_taken xs else fail) (aCons (eVar 0) (aCons (eFn (fun xs => if xs.length = 2 then m__law_pick xs else fail) (aCons (eVar 0) (aCons (eLst (aCons (eC (.int 2)) (aCons (eC (.int 6)) (aCons (eC (.int 20)) aNil)))) aNil))) aNil)))) aNil))))))
  (sRet (eCall gTuple (aCons (eVar 2) aNil)))))
def m__law_spans : List RV → M RV := runDef 6 g__law_spans
def g_need_spans : DV.Env → M Out :=
  (sSeq (sIf (tNotF (eT (eFn (fun xs => if xs.length = 3 then m_is_list xs else fail) (aCons (eVar 0) (aCons (eC (.int 1)) (aCons (eC (.int 14)) aNil)))))) sNever sNil)
  (sFor (iEnumF (srcV 0)) (gTupF 2 (gMore (gNm 1) (gMore (gNm 2) gNone))) (sIf (tIfT (tNotF (eT (eFn (fun xs => if xs.length = 3 then m_is_list xs else fail) (aCons (eVar 2) (aCons (eC (.int 2)) (aCons (eC (.int 2)) aNil)))))) (tRetB true) (tIfT (tNotF (eT (eCall gAll (aCons (eLc (srcV 2) [3] (gNm 3) tTrue (eFn (fun xs => if xs.length = 3 then m_is_in xs else fail) (aCons (eVar 3) (aCons (eC (.int 0)) (aCons (eC (.int 600)) aNil))))) aNil)))) (tRetB true) (eT (e2 gGe (e2 gIx (eVar 2) (eC (.int 0))) (e2 gIx (eVar 2) (eC (.int 1))))))) sNever sNil)))
def m_need_spans : List RV → M RV := runDef 4 g_need_spans
def g_crowd : DV.Env → M Out :=
  (sSeq (sDrop (eFn (fun xs => if xs.length = 1 then m_need_spans xs else fail) (aCons (eVar 0) aNil)))
  (sSeq (sSet 1 (eLst aNil))
  (sSeq (sFor (srcV 0) (gTupF 2 (gMore (gNm 2) (gMore (gNm 3) gNone))) (sApp 1 (eTup (aCons (eCall gLen (aCons (eLc (srcV 0) [4] (gNm 4) (eT (eCh gLe gLt (e2 gIx (eVar 4) (eC (.int 0))) (eVar 2) (e2 gIx (eVar 4) (eC (.int 1))))) (eVar 4)) aNil)) (aCons (eNeg (eVar 2)) aNil)))))
  (sSeq (sTup (eCall (gBest PySem.W.maxD) (aCons (eVar 1) aNil)) (gTupF 2 (gMore (gNm 5) (gMore (gNm 6) gNone))))
  (sRet (eTup (aCons (eVar 5) (aCons (eNeg (eVar 6)) aNil))))))))
def m_crowd : List RV → M RV := runDef 7 g_crowd
def g_fewest_machines : DV.Env → M Out :=
  (sSeq (sDrop (eFn (fun xs => if xs.length = 1 then m_need_spans xs else fail) (aCons (eVar 0) aNil)))
  (sSeq (sPar 1 2 (aCons (e2 gMulA (eLst (aCons (eC (.int 0)) aNil)) (eCall gLen (aCons (eVar 0) aNil))) (aCons (eLst aNil) aNil)))
  (sSeq (sFor (srcE (eSortK (colR (rg1F (eCall gLen (aCons (eVar 0) aNil)))) (eTup (aCons (e2 gIx (eVar 0) (eVar 4)) (aCons (eVar 4) aNil))) 4)) (gNm 3) (sSeq (sTup (e2 gIx (eVar 0) (eVar 3)) (gTupF 2 (gMore (gNm 5) (gMore (gNm 6) gNone))))
  (sSeq (sSet 7 (eLc (iEnumF (srcV 2)) [8, 9] (gTupF 2 (gMore (gNm 8) (gMore (gNm 9) gNone))) (eT (e2 gLeA (eVar 9) (eVar 5))) (eVar 8)))
  (sSeq (sIf (eT (e2 gEq (eVar 7) (eLst aNil))) (sSeq (sSet 7 (eLst (aCons (eCall gLen (aCons (eVar 2) aNil)) aNil)))
  (sApp 2 (eC (.int 0)))) sNil)
  (sSeq (sPut 1 (e2 gIx (eVar 7) (eC (.int 0))) (eVar 3))
  (sPut 2 (eVar 6) (e2 gIx (eVar 7) (eC (.int 0)))))))))
  (sRet (eCall gTuple (aCons (eVar 1) aNil))))))
def m_fewest_machines : List RV → M RV := runDef 10 g_fewest_machines
def g_do_meet : DV.Env → M Out :=
  (sRet (eIfB (e2 gLt (e2 gIx (eVar 0) (eC (.int 0))) (e2 gIx (eVar 1) (eC (.int 1)))) (e2 gLt (e2 gIx (eVar 1) (eC (.int 0))) (e2 gIx (eVar 0) (eC (.int 1)))) (eC (.bool false))))
def m_do_meet : List RV → M RV := runDef 2 g_do_meet
def g_are_apart : DV.Env → M Out :=
  (sRet (eNotB (eCall gAny (aCons (eLc2 (iEnumF (srcV 1)) [2, 3, 4] (gTupF 2 (gMore (gNm 2) (gMore (gNm 3) gNone))) tTrue (srcE (eSlice (eVar 1) (fun _ => ret none) (ePart (eVar 2)))) [4] (gNm 4) tTrue (eFn (fun xs => if xs.length = 2 then m_do_meet xs else fail) (aCons (e2 gIx (eVar 0) (eVar 3)) (aCons (e2 gIx (eVar 0) (eVar 4)) aNil)))) aNil))))
def m_are_apart : List RV → M RV := runDef 5 g_are_apart
def g_is_spread : DV.Env → M Out :=
  (sSeq (sDrop (eFn (fun xs => if xs.length = 1 then m_need_spans xs else fail) (aCons (eVar 0) aNil)))
  (sSeq (sIf (tIfT (tNotF (eT (eFn (fun xs => if xs.length = 3 then m_is_list xs else fail) (aCons (eVar 1) (aCons (eCall gLen (aCons (eVar 0) aNil)) (aCons (eCall gLen (aCons (eVar 0) aNil)) aNil)))))) (tRetB true) (tNotF (eT (eCall gAll (aCons (eLc (srcV 1) [2] (gNm 2) tTrue (eFn (fun xs => if xs.length = 3 then m_is_in xs else fail) (aCons (eVar 2) (aCons (eC (.int 0)) (aCons (eC (.int 14)) aNil))))) aNil))))) (sRet (eC (.bool false))) sNil)
  (sRet (eCall gAll (aCons (eLc (srcV 1) [4] (gNm 4) tTrue (eFn (fun xs => if xs.length = 2 then m_are_apart xs else fail) (aCons (eVar 0) (aCons (eLc (iEnumF (srcV 1)) [3, 2] (gTupF 2 (gMore (gNm 3) (gMore (gNm 2) gNone))) (eT (e2 gEq (eVar 2) (eVar 4))) (eVar 3)) aNil)))) aNil)))))
def m_is_spread : List RV → M RV := runDef 5 g_is_spread
def g_most_apart : DV.Env → M Out :=
  (sSeq (sDrop (eFn (fun xs => if xs.length = 1 then m_need_spans xs else fail) (aCons (eVar 0) aNil)))
  (sSeq (sPar 1 2 (aCons (eLst aNil) (aCons (eC (.int 0)) aNil)))
  (sSeq (sFor (srcE (eSortK (colR (rg1F (eCall gLen (aCons (eVar 0) aNil)))) (eTup (aCons (e2 gIx (e2 gIx (eVar 0) (eVar 4)) (eC (.int 1))) (aCons (eVar 4) aNil))) 4)) (gNm 3) (sIf (eT (e2 gGe (e2 gIx (e2 gIx (eVar 0) (eVar 3)) (eC (.int 0))) (eVar 2))) (sSeq (sApp 1 (eVar 3))
  (sSet 2 (e2 gIx (e2 gIx (eVar 0) (eVar 3)) (eC (.int 1))))) sNil))
  (sRet (eCall gTuple (aCons (eCall gSort (aCons (eVar 1) aNil)) aNil))))))
def m_most_apart : List RV → M RV := runDef 5 g_most_apart
def g_piercing : DV.Env → M Out :=
  (sSeq (sDrop (eFn (fun xs => if xs.length = 1 then m_need_spans xs else fail) (aCons (eVar 0) aNil)))
  (sSeq (sSet 1 (eLst aNil))
  (sSeq (sFor (srcE (eSortK (colS (eVar 0)) (e2 gIx (eVar 4) (eC (.int 1))) 4)) (gTupF 2 (gMore (gNm 2) (gMore (gNm 3) gNone))) (sIf (tIfT (eT (e2 gEq (eVar 1) (eLst aNil))) (tRetB true) (eT (e2 gGt (e2 gMulA (eC (.int 2)) (eVar 2)) (e2 gIx (eVar 1) (eNeg (eC (.int 1))))))) (sApp 1 (e2 gSubI (e2 gMulA (eC (.int 2)) (eVar 3)) (eC (.int 1)))) sNil))
  (sRet (eCall gTuple (aCons (eVar 1) aNil))))))
def m_piercing : List RV → M RV := runDef 5 g_piercing
def g_gaps : DV.Env → M Out :=
  (sSeq (sDrop (eFn (fun xs => if xs.length = 1 then m_need_spans xs else fail) (aCons (eVar 0) aNil)))
  (sSeq (sPar 1 2 (aCons (eLst aNil) (aCons (eCall (gBest PySem.W.minD) (aCons (eLc (srcV 0) [3] (gNm 3) tTrue (e2 gIx (eVar 3) (eC (.int 0)))) aNil)) aNil)))
  (sSeq (sFor (srcE (eCall gSort (aCons (eVar 0) aNil))) (gTupF 2 (gMore (gNm 4) (gMore (gNm 5) gNone))) (sSeq (sIf (eT (e2 gGtA (eVar 4) (eVar 2))) (sApp 1 (eTup (aCons (eVar 2) (aCons (eVar 4) aNil)))) sNil)
  (sSet 2 (eCall gMax2 (aCons (eVar 2) (aCons (eVar 5) aNil))))))
  (sRet (eCall gTuple (aCons (eVar 1) aNil))))))
def m_gaps : List RV → M RV := runDef 6 g_gaps
def g_held : DV.Env → M Out :=
  (sSeq (sDrop (eFn (fun xs => if xs.length = 1 then m_need_spans xs else fail) (aCons (eVar 0) aNil)))
  (sSeq (sPar 1 2 (aCons (eC (.int 0)) (aCons (eC (.int 0)) aNil)))
  (sSeq (sFor (srcE (eCall gSort (aCons (eVar 0) aNil))) (gTupF 2 (gMore (gNm 3) (gMore (gNm 4) gNone))) (sSeq (sAug 1 (fun a b => a + b) (eCall gMax2 (aCons (eC (.int 0)) (aCons (e2 gSubI (eVar 4) (eCall gMax2 (aCons (eVar 3) (aCons (eVar 2) aNil)))) aNil))))
  (sSet 2 (eCall gMax2 (aCons (eVar 2) (aCons (eVar 4) aNil))))))
  (sRetV 1))))
def m_held : List RV → M RV := runDef 5 g_held
def g_due_order_in : DV.Env → M Out :=
  (sRet (eCall gTuple (aCons (eSortK (colS (eVar 1)) (eTup (aCons (e2 gIx (eVar 0) (eVar 2)) (aCons (eVar 2) aNil))) 2) aNil)))
def m_due_order_in : List RV → M RV := runDef 3 g_due_order_in
def g_need_dues : DV.Env → M Out :=
  (sSeq (sSet 2 (eFn (fun xs => if xs.length = 4 then m_first_bad xs else fail) (aCons (eVar 0) (aCons (eVar 1) (aCons (eC (.int 0)) (aCons (eC (.int 600)) aNil))))))
  (sIf (eT (e2 gNe (eVar 2) (eNeg (eC (.int 1))))) sNever sNil))
def m_need_dues : List RV → M RV := runDef 3 g_need_dues
def g_need_due : DV.Env → M Out :=
  (sSeq (sDrop (eFn (fun xs => if xs.length = 1 then m_need_times xs else fail) (aCons (eVar 0) aNil)))
  (sDrop (eFn (fun xs => if xs.length = 2 then m_need_dues xs else fail) (aCons (eVar 1) (aCons (eCall gLen (aCons (eVar 0) aNil)) aNil)))))
def m_need_due : List RV → M RV := runDef 2 g_need_due
def g_due_order : DV.Env → M Out :=
  (sSeq (sDrop (eFn (fun xs => if xs.length = 2 then m_need_due xs else fail) (aCons (eVar 0) (aCons (eVar 1) aNil))))
  (sRet (eFn (fun xs => if xs.length = 2 then m_due_order_in xs else fail) (aCons (eVar 1) (aCons (eListRg (rg1F (eCall gLen (aCons (eVar 0) aNil)))) aNil)))))
def m_due_order : List RV → M RV := runDef 2 g_due_order
def g_lateness_in : DV.Env → M Out :=
  (sRet (eCall (gBest PySem.W.maxD) (aCons (eLc (iZipF (srcE (eFn (fun xs => if xs.length = 2 then m_ends_in xs else fail) (aCons (eVar 0) (aCons (eVar 2) aNil)))) (srcV 1)) [3, 4] (gTupF 2 (gMore (gNm 3) (gMore (gNm 4) gNone))) tTrue (e2 gSubI (eVar 3) (eVar 4))) aNil)))
def m_lateness_in : List RV → M RV := runDef 5 g_lateness_in
def g_lateness : DV.Env → M Out :=
  (sSeq (sDrop (eFn (fun xs => if xs.length = 2 then m_need_due xs else fail) (aCons (eVar 0) (aCons (eVar 1) aNil))))
  (sSeq (sDrop (eFn (fun xs => if xs.length = 2 then m_need_order xs else fail) (aCons (eVar 2) (aCons (eCall gLen (aCons (eVar 0) aNil)) aNil))))
  (sRet (eFn (fun xs => if xs.length = 3 then m_lateness_in xs else fail) (aCons (eVar 0) (aCons (eVar 1) (aCons (eVar 2) aNil)))))))
def m_lateness : List RV → M RV := runDef 3 g_lateness
def g__law_gaps : DV.Env → M Out :=
  (sSeq (sSet 4 (eFn (fun xs => if xs.length = 2 then m__law_ends xs else fail) (aCons (eVar 0) (aCons (eVar 1) aNil))))
  (sRet (eCall gSum (aCons (eLc (srcV 4) [5] (gNm 5) tTrue (eCall gAbs (aCons (e2 gSubI (e2 gAddA (eVar 2) (eVar 5)) (eVar 3)) aNil))) aNil))))
def m__law_gaps : List RV → M RV := runDef 6 g__law_gaps
def g_free_gaps : DV.Env → M Out :=
  (sSeq (sDrop (eFn (fun xs => if xs.length = 1 then m_need_times xs else fail) (aCons (eVar 0) aNil)))
  (sSeq (sPar3 1 2 3 (aCons (eLst aNil) (aCons (eLst aNil) (aCons (eC (.int 0)) aNil))))
  (sSeq (sFor (iEnumF (srcE (eSortK (colR (rg1F (eCall gLen (aCons (eVar 0) aNil)))) (eTup (aCons (eNeg (e2 gIx (eVar 0) (eVar 6))) (aCons (eVar 6) aNil))) 6))) (gTupF 2 (gMore (gNm 4) (gMore (gNm 5) gNone))) (sSeq (sAug 3 (fun a b => a + b) (e2 gMulA (e2 gIx (eVar 0) (eVar 5)) (e2 gFdiv (e2 gAddA (eVar 4) (eC (.int 1))) (eC (.int 2)))))
  (sIf (eT (e2 gEq (e2 gMod (eVar 4) (eC (.int 2))) (eC (.int 0)))) (sApp 1 (eVar 5)) (sApp 2 (eVar 5)))))
  (sRet (eTup (aCons (eVar 3) (aCons (eTup (aStar (eVar 1) (aStarRev (eVar 2) aNil))) (aCons (eCall gSum (aCons (eLc (srcV 1) [5] (gNm 5) tTrue (e2 gIx (eVar 0) (eVar 5))) aNil)) aNil))))))))
def m_free_gaps : List RV → M RV := runDef 7 g_free_gaps
def g_gaps_in : DV.Env → M Out :=
  (sSeq (sPar 4 5 (aCons (eC (.int 0)) (aCons (eVar 2) aNil)))
  (sSeq (sFor (srcV 1) (gNm 6) (sSeq (sAug 5 (fun a b => a + b) (e2 gIx (eVar 0) (eVar 6)))
  (sAug 4 (fun a b => a + b) (eCall gAbs (aCons (e2 gSubI (eVar 5) (eVar 3)) aNil)))))
  (sRetV 4)))
def m_gaps_in : List RV → M RV := runDef 7 g_gaps_in
def g_need_day : DV.Env → M Out :=
  (sIf (tNotF (eT (eFn (fun xs => if xs.length = 3 then m_is_in xs else fail) (aCons (eVar 0) (aCons (eC (.int 0)) (aCons (eC (.int 600)) aNil)))))) sNever sNil)
def m_need_day : List RV → M RV := runDef 1 g_need_day
def g_gap_sum : DV.Env → M Out :=
  (sSeq (sDrop (eFn (fun xs => if xs.length = 1 then m_need_times xs else fail) (aCons (eVar 0) aNil)))
  (sSeq (sDrop (eFn (fun xs => if xs.length = 2 then m_need_order xs else fail) (aCons (eVar 1) (aCons (eCall gLen (aCons (eVar 0) aNil)) aNil))))
  (sSeq (sDrop (eFn (fun xs => if xs.length = 1 then m_need_day xs else fail) (aCons (eVar 2) aNil)))
  (sSeq (sDrop (eFn (fun xs => if xs.length = 1 then m_need_day xs else fail) (aCons (eVar 3) aNil)))
  (sRet (eFn (fun xs => if xs.length = 4 then m_gaps_in xs else fail) (aCons (eVar 0) (aCons (eVar 1) (aCons (eVar 2) (aCons (eVar 3) aNil))))))))))
def m_gap_sum : List RV → M RV := runDef 4 g_gap_sum
def g__law_sum : DV.Env → M Out :=
  (sSeq (sSet 3 (eFn (fun xs => if xs.length = 2 then m__law_ends xs else fail) (aCons (eVar 0) (aCons (eVar 2) aNil))))
  (sRet (eCall gSum (aCons (eLc (iRng1F (eCall gLen (aCons (eVar 0) aNil))) [4] (gNm 4) tTrue (e2 gMulA (e2 gIx (eVar 1) (eVar 4)) (e2 gIx (eVar 3) (eVar 4)))) aNil))))
def m__law_sum : List RV → M RV := runDef 5 g__law_sum
def g_are_alike : DV.Env → M Out :=
  (sRet (e2 gEq (e2 gMulA (e2 gIx (eVar 0) (eVar 2)) (e2 gIx (eVar 1) (eVar 3))) (e2 gMulA (e2 gIx (eVar 0) (eVar 3)) (e2 gIx (eVar 1) (eVar 2)))))
def m_are_alike : List RV → M RV := runDef 4 g_are_alike
def g_count_best : DV.Env → M Out :=
  (sSeq (sDrop (eFn (fun xs => if xs.length = 2 then m_need_weighed xs else fail) (aCons (eVar 0) (aCons (eVar 1) aNil))))
  (sSeq (sIf (eT (e2 gGt (eCall gLen (aCons (eVar 0) aNil)) (eC (.int 8)))) sNever sNil)
  (sSeq (sPar3 2 3 4 (aCons (eFn (fun xs => if xs.length = 2 then m_ratio_order xs else fail) (aCons (eVar 0) (aCons (eVar 1) aNil))) (aCons (eC (.int 1)) (aCons (eC (.int 0)) aNil))))
  (sSeq (wloopF (eT (e2 gLt (eVar 4) (eCall gLen (aCons (eVar 2) aNil)))) (sSeq (sMove 5 4)
  (sSeq (wloopF (tIfT (eT (e2 gLt (eVar 5) (eCall gLen (aCons (eVar 2) aNil)))) (eT (eFn (fun xs => if xs.length = 4 then m_are_alike xs else fail) (aCons (eVar 0) (aCons (eVar 1) (aCons (e2 gIx (eVar 2) (eVar 4)) (aCons (e2 gIx (eVar 2) (eVar 5)) aNil)))))) (tRetB false)) (sSeq (sAug 5 (fun a b => a + b) (eC (.int 1)))
  (sSet 3 (e2 gMulA (eVar 3) (e2 gSubI (eVar 5) (eVar 4))))) 100000)
  (sMove 4 5))) 100000)
  (sRetV 3)))))
def m_count_best : List RV → M RV := runDef 6 g_count_best
def g_need_benches : DV.Env → M Out :=
  (sIf (tNotF (eT (eFn (fun xs => if xs.length = 3 then m_is_in xs else fail) (aCons (eVar 0) (aCons (eC (.int 1)) (aCons (eC (.int 6)) aNil)))))) sNever sNil)
def m_need_benches : List RV → M RV := runDef 1 g_need_benches
def g_most_on : DV.Env → M Out :=
  (sSeq (sDrop (eFn (fun xs => if xs.length = 1 then m_need_spans xs else fail) (aCons (eVar 0) aNil)))
  (sSeq (sDrop (eFn (fun xs => if xs.length = 1 then m_need_benches xs else fail) (aCons (eVar 1) aNil)))
  (sSeq (sSet 2 (eLst aNil))
  (sSeq (sFor (srcE (eSortK (colR (rg1F (eCall gLen (aCons (eVar 0) aNil)))) (eTup (aCons (e2 gIx (eVar 0) (eVar 4)) (aCons (eVar 4) aNil))) 4)) (gNm 3) (sSeq (sApp 2 (eVar 3))
  (sSeq (sSet 5 (e2 gIx (e2 gIx (eVar 0) (eVar 3)) (eC (.int 0))))
  (sSeq (sSet 6 (eLc (srcV 2) [4] (gNm 4) (eT (e2 gGt (e2 gIx (e2 gIx (eVar 0) (eVar 4)) (eC (.int 1))) (eVar 5))) (eVar 4)))
  (sIf (eT (e2 gGt (eCall gLen (aCons (eVar 6) aNil)) (eVar 1))) (sSeq (sSet 7 (eBestK gtB (eVar 6) (eTup (aCons (e2 gIx (e2 gIx (eVar 0) (eVar 4)) (eC (.int 1))) (aCons (eVar 4) aNil))) 4))
  (sSet 2 (eLc (srcV 2) [4] (gNm 4) (eT (e2 gNe (eVar 4) (eVar 7))) (eVar 4)))) sNil)))))
  (sRet (eCall gTuple (aCons (eCall gSort (aCons (eVar 2) aNil)) aNil)))))))
def m_most_on : List RV → M RV := runDef 8 g_most_on
end DVL

/-! DV: an own error whose __init__ says super().__init__(x); self.x = x -/
namespace PySem
namespace ExX
open PySem.W PySem.Calls PyProof.Rows PySem.HandSPX
def iA (fld : Str) (p1 p2 : Pos) : Arguments := { posonlyargs := [], args := [{ arg := "self", annotation := none, pos := p1 }, { arg := fld, annotation := none, pos := p2 }], vararg := none, kwonlyargs := [], kw_defaults := [], kwarg := none, defaults := [] }
def iB (fld : Str) (q1 q2 q3 q4 q5 q6 q7 q8 q9 q10 : Pos) : List Stmt :=
  [.Expr (.Call (.Attribute (.Call (.Name "super" q1) [] [] q2) "__init__" q3) [.Name fld q4] [] q5) q6, .Assign [.Attribute (.Name "self" q7) fld q8] (.Name fld q9) q10]
def iS (fld : Str) : Scope := { kind := .function, names := [("self", .local), (fld, .local), ("__class__", .free), ("super", .globalImplicit)], isGenerator := false, isCoroutine := false, more := [] }
/-- a field's name -/
structure FldOk (fld : Str) : Prop where
  bind : ∀ (q : Str) (body : List Stmt) (sc : Scope) (doc pm : Value) (an : Option Addr) (cdv ct : Value) (cc : Addr) (p1 p2 : Pos) (a b : Value), bindArgs (ksFn "__init__" q (iA fld p1 p2) body sc .none .none doc pm an cdv ct cc) ⟨[a, b], []⟩ = pure [(("self" : Str), a), (fld, b)]
  loc : (iS fld).names.lookup fld = some .local
  ne : (fld == ("self" : Str)) = false
  dbg : (fld == ("__debug__" : Str)) = false
  n1 : (iS fld).names.lookup ("__class__" : Str) = some .free
  n2 : (iS fld).names.lookup ("super" : Str) = some .globalImplicit
theorem fld_index : FldOk "index" := ⟨fun _ _ _ _ _ _ _ _ _ _ _ _ _ => by first | rfl | with_unfolding_all rfl, by decide +kernel, by decide +kernel, by decide +kernel, by decide +kernel, by decide +kernel⟩
theorem fld_most : FldOk "most" := ⟨fun _ _ _ _ _ _ _ _ _ _ _ _ _ => by first | rfl | with_unfolding_all rfl, by decide +kernel, by decide +kernel, by decide +kernel, by decide +kernel, by decide +kernel⟩
/-- the call's places stand on one line -/
def CallAt (fld : Str) (q1 q2 q3 q4 q5 : Pos) : Prop := ∀ env : Env, ∃ pl : Sem Bool, eval (.Call (.Attribute (.Call (.Name "super" q1) [] [] q2) "__init__" q3) [.Name fld q4] [] q5) env = (do
      let ov ← attributeBase (.Call (.Name "super" q1) [] [] q2) "__init__" env (eval (.Call (.Name "super" q1) [] [] q2) env)
      standAt q3.atName
      let (f, first) ← holding [ov] (getMethod ov "__init__" pl)
      callWith q5 f first (backTo q5 (starEach [.Name fld q4] env)) [])
/-- what the written part says of an own error of the name cn, its class at C, its __init__ at fI -/
structure ExTxt (prog : Program) (K : Frag) (mg : Str → Option Value) (cn fld : Str) (C fI : Addr) : Prop where
  gC : mg cn = some (.ref C)
  cls : ∃ nm q N bs bm sn sub ab col dd k0 k1 k2 k3 k5, K.lookup C = some (excClassObj nm q C N bs bm true sn sub ab col dd k0 k1 k2 k3 k5 "ValueError.__new__") ∧ refsVE bm = true
  sa : findIn K (.ref C) "__setattr__" = some (some (.builtin "object.__setattr__"))
  noN : findIn K (.ref C) fld = some none
  iC : findIn K (.ref C) "__init__" = some (some (.ref fI))
  tC : typeIn K (.ref fI) = some (.type "function")
  kC : keepIn K (.ref C) = true
  exC : subIn K (.ref C) (.type "BaseException") = some true
  tyC : typeIn K (.ref C) = some (.type "type")
  veC : subIn K (.ref C) (.type "ValueError") = some true
  mro : mroIn K C (.ref C) = some true
  sup : ks_superIn K C C "__init__" = some (some (.builtin "ValueError.__init__"))
  opq : nsIn K cStatics "thirdparty.any" = some none
  msup : mg "super" = none
  htop : (prog.main.scope.names.lookup ("super" : Str)).isSome = false
  fn : ∃ (oc : Value) (od : Option Addr) (doc pm : Value) (an : Option Addr) (ct : Value) (osl : Array (Option Value)) (cda cc : Addr) (ccl : Value) (cdd : Option Addr) (vs : Array Value) (ccs : Array (Option Value)) (file : Str) (tf : Tok) (cl : Value) (cld : Option Addr) (csl : Array (Option Value)) (p1 p2 q1 q2 q3 q4 q5 q6 q7 q8 q9 q10 : Pos),
    K.lookup fI = some ⟨oc, od, .func (ksFn "__init__" (cn ++ ".__init__") (iA fld p1 p2) (iB fld q1 q2 q3 q4 q5 q6 q7 q8 q9 q10) (iS fld) .none .none doc pm an (.ref cda) ct cc), osl⟩ ∧ codeIn K (.ref cda) (cn ++ ".__init__") = true ∧
    K.lookup cda = some ⟨ccl, cdd, .fields vs, ccs⟩ ∧ vs[2]? = some (.str file tf) ∧ ((prog.main.file : Str) == file) = true ∧ K.lookup cc = some ⟨cl, cld, .cell (some (.ref C)), csl⟩ ∧ CallAt fld q1 q2 q3 q4 q5
  fo : FldOk fld
theorem one_size (v : Value) : [v].length ≤ sizeLine := by
  rw [sizeLine_eq]
  exact (by decide : 1 ≤ 16777216)
/-- what __init__ leaves of a fresh exception at x -/
structure InitEnd (h h' : Heap) (x C dx t1 : Addr) (fld : Str) (v : Value) : Prop where
  keep : ∀ b o, b ≠ x → h.get? b = some o → h'.get? b = some o
  obj : h'.get? x = some { cls := .ref C, dict := some dx, data := .fields #[.ref t1, .none, .none, .none, .bool false, .none] }
  dbig : h.objs.size ≤ dx
  dne : dx ≠ x
  ns : h'.Ns1 dx (fun y => if y = fld then some v else none)
/-- a made one -/
structure OwnMade (h h' : Heap) (e C d : Addr) (fld : Str) (v : Value) : Prop where
  keep : ∀ b o, h.get? b = some o → h'.get? b = some o
  new : h.objs.size ≤ e
  obj : ∃ oe vs, h'.get? e = some oe ∧ oe.cls = .ref C ∧ oe.dict = some d ∧ oe.data = .fields vs ∧ vs[1]? = some .none
  dbig : h.objs.size ≤ d
  dne : d ≠ e
  ns : h'.Ns1 d (fun y => if y = fld then some v else none)
/-- the written part and the names of the module stand -/
structure GlobAt (mg : Str → Option Value) (h : Heap) : Prop where
  g : h.Ns mainGlobals mg
  b : ∃ mb, h.Ns builtinsNs mb ∧ mb "super" = some (.type "super")
  lim : h.NoLimit
theorem GlobAt.keeps {mg : Str → Option Value} {h h' : Heap} (G : GlobAt mg h) (k : ∀ b o, h.get? b = some o → h'.get? b = some o) : GlobAt mg h' := by
  obtain ⟨mb, h1, h2⟩ := G.b
  exact ⟨G.g.keeps k, ⟨mb, h1.keeps k, h2⟩, G.lim.keeps k⟩
section
variable {prog : Program} {w : World} {A : Around} {E : Value → Shared → Prop} {R : Result → Shared → Prop} {s : Shared} {K : Frag} {mg : Str → Option Value} {C fI : Addr} {cn fld : Str}
/-- ValueError.__init__, bound to x, called -/
theorem call_mw {x t0 u : Addr} {rest : List Value} {h : Heap} {g : Array GenState} {d : Drawn} {t : Nat} {os : OsState} {Q : Value → Shared → Prop} (T : ExTxt prog K mg cn fld C fI) (X : K.In h) (hu : h.get? u = some (kxs_mw "ValueError.__init__" x)) (he : h.get? x = some (excO C t0)) (hz : rest.length ≤ sizeLine)
    (hq : ∀ h' t1, (∀ b o, b ≠ x → h.get? b = some o → h'.get? b = some o) → h'.get? x = some (excO C t1) → Q .none ⟨h', g, d, t, os⟩) : wpAny (model prog w) A (call (.ref u) rest) Q E ⟨h, g, d, t, os⟩ := by
  obtain ⟨nm, q, N, bs, bm, sn, sub, ab, col, dd, k0, k1, k2, k3, k5, hC, hbm⟩ := T.cls
  refine wpAny_call (codeAny_of_tree ?_)
  show wpAny _ A.in1 (callAny (.ref u) ⟨rest, []⟩) _ _ _
  simp only [callAny]
  refine wpAny_bind (wpAny_load hu ?_)
  simp only [kxs_mw, show (Value.type "method-wrapper" == Value.type "method" || Value.type "method-wrapper" == Value.type "builtin_function_or_method" || Value.type "method-wrapper" == Value.type "method-wrapper") = true by decide, if_true]
  refine KFB.if_so (by decide) ?_
  refine wpAny_bind (check_bound_init PySem.F.excBase_ValueError.toExcCallFacts (X _ _ hC) he rfl ?_)
  refine wpAny_bind (wpAny_pure (wpAny_pure ?_))
  refine ⟨plainId_quiet PySem.F.excBase_ValueError.init.plain _, codeAny_builtin PySem.F.excBase_ValueError.initEntry ?_⟩
  rw [Around.under_plainId PySem.F.excBase_ValueError.init.plain _]
  exact exc_init_tree (cls := .ref C) (t0 := t0) (dv := none) (c2 := .none) (c3 := .none) (b4 := .bool false) he hz fun h' k e' _ => hq h' _ k e'
theorem ldE {M : Model} {s : Shared} {name : Str} {scope : Scope} {L a cc : Addr} {cd : Value} {m : Str → Option Value} {x : Str} {pos : Pos} {v : Value} {Q : Value → Shared → Prop} {A : Around} {E : Value → Shared → Prop} (hn : s.heap.Ns L m) (hv : m x = some v) (h : Q v s)
    (hk : scope.kind = .function) (hl : (ksEnv name scope L a cd cc).kindOf x = some .local) (hd : (x == ("__debug__" : Str)) = false) :
    wpAny M A (eval (.Name x pos) (ksEnv name scope L a cd cc)) Q E s := wpAny_Name (wpAny_loadName_local hk hl hn hv h) hd
theorem ex_init (T : ExTxt prog K mg cn fld C fI) {x t0 : Addr} {v : Value} (X : K.In s.heap) (G : GlobAt mg s.heap) (hx : s.heap.get? x = some (excO C t0)) (hnx : K.lookup x = none) (hroom : A.depth < recursionLimit)
    (hq : ∀ h' tk dx t1, InitEnd s.heap h' x C dx t1 fld v → R (.ok (.ret .none)) { s with heap := h', toks := tk }) :
    codeAny (model prog w) A (.call (.ref fI) ⟨[.ref x, v], []⟩) R s := by
  obtain ⟨oc, od, doc, pm, an, ct, osl, cda, cc, ccl, cdd, vs, ccs, file, tf, cl, cld, csl, p1, p2, q1, q2, q3, q4, q5, q6, q7, q8, q9, q10, ho, hcd, hcode, hvs, hfile, hcell, hcall⟩ := T.fn
  obtain ⟨nm, q, N, bs, bm, sn, sub, ab, col, dd, k0, k1, k2, k3, k5, hC, hbm⟩ := T.cls
  have hcl : clsIn K C = some { name := nm, bases := bs, mro := .ref C :: bm, ns := N, qualname := q, hasDict := true, slotNames := sn, subclasses := sub, abstract := ab, collection := col, hasDel := false } := by unfold clsIn; rw [hC] <;> rfl
  have fo := T.fo
  have kindS : (iS fld).names.lookup ("self" : Str) = some .local := by
    unfold iS
    simp [List.lookup]
  refine ks_codeAny_call_defAt (fd := ksFn "__init__" (cn ++ ".__init__") (iA fld p1 p2) (iB fld q1 q2 q3 q4 q5 q6 q7 q8 q9 q10) (iS fld) .none .none doc pm an (.ref cda) ct cc) (body := iB fld q1 q2 q3 q4 q5 q6 q7 q8 q9 q10) (binds := [(("self" : Str), .ref x), (fld, v)]) hroom (X _ _ ho) rfl G.lim (codeRec_of X hcd) rfl
    (BindsTo.of_eq (fo.bind _ _ _ _ _ _ _ _ _ _ _ _ _)) ?hc ?hl (fun h₁ hns kp => ?_)
  case hc =>
    intro y hy
    simp only [iS, List.mem_cons, List.not_mem_nil, or_false] at hy
    rcases hy with rfl | rfl | rfl | rfl <;> exact fun z => nomatch z
  case hl =>
    intro y hy
    simp only [List.mem_cons, List.not_mem_nil, or_false] at hy
    rcases hy with rfl | rfl
    · exact kindS
    · exact fo.loc
  have hv0 : (List.reverse [(("self" : Str), Value.ref x), ((fld : Str), v)]).lookup fld = some v := by simp [List.lookup]
  have hs0 : (List.reverse [(("self" : Str), Value.ref x), ((fld : Str), v)]).lookup ("self" : Str) = some (Value.ref x) := by
    have : (("self" : Str) == fld) = false := by
      have := fo.ne
      rw [beq_eq_false_iff_ne] at this ⊢
      exact Ne.symm this
    simp [List.lookup, this]
  have hxL : s.heap.objs.size ≠ x := Nat.ne_of_gt (Heap.lt_size hx)
  have X₁ : K.In h₁ := X.keeps kp
  have G₁ := G.keeps kp
  have hx₁ := kp _ _ hx
  show wpAt _ _ _ (execs _ (ksEnv (cn ++ ".__init__") (iS fld) s.heap.objs.size fI (.ref cda) cc)) _ _ _
  obtain ⟨pl, hpl⟩ := hcall (ksEnv (cn ++ ".__init__") (iS fld) s.heap.objs.size fI (.ref cda) cc)
  refine ks_wpAt_execs_cons (ks_wpAt_Expr_any (ks_wpAt_MethodCall (pl := pl) ?_ hpl))
  obtain ⟨oD, hD1, hD2⟩ : ∃ oD, h₁.get? C = some oD ∧ oD.data = .cls { name := nm, bases := bs, mro := .ref C :: bm, ns := N, qualname := q, hasDict := true, slotNames := sn, subclasses := sub, abstract := ab, collection := col, hasDel := false } := ⟨_, X₁ _ _ hC, rfl⟩
  have hkc : (iS fld).names.lookup ("__class__" : Str) = some .free := fo.n1
  have hks : (iS fld).names.lookup ("super" : Str) = some .globalImplicit := fo.n2
  refine ks_wpAt_super_base (env := ksEnv (cn ++ ".__init__") (iS fld) s.heap.objs.size fI (.ref cda) cc) hks hkc (by decide +kernel) rfl (X₁ _ _ ho) rfl rfl rfl (X₁ _ _ hcode) rfl hvs hfile T.htop ?_
  obtain ⟨mb, hb1, hb2⟩ := G₁.b
  refine ks_loadName_global rfl hks (loadGlobal_builtin G₁.g T.msup hb1 hb2 ⟨rfl, ?_⟩)
  refine wpAny_loadName_free rfl hkc rfl ⟨_, X₁ _ _ hcell, rfl⟩ ?_
  refine wpAny_loadName_local rfl kindS hns hs0 ?_
  refine ks_wpAny_isType_cls hD1 hD2 ⟨rfl, ?_⟩
  refine ks_wpAny_call_super hD1 hD2 hx₁ rfl (fun c e => nomatch e) (looks_mroIn X₁ T.mro) (fun h₂ hso kp₂ => ?_)
  have X₂ : K.In h₂ := X₁.keeps kp₂
  have hx₂ := kp₂ _ _ hx₁
  have hm := T.sup
  unfold ks_superIn at hm
  rw [hcl] at hm
  have I₂ : InstAt h₂ x (excO C t0) C none := ⟨hx₂, rfl, rfl, trivial⟩
  refine kxs_getMethod kxs_ValueError hso (looks_opaque X₂ T.opq) (l₀ := .ref C :: bm) ?_ rfl X₂ hm (I₂.type.andThen (looks_subIn X₂ T.veC)) (ks_ne X₂ I₂ hcl) (by decide +kernel) ?_
  · exact fun A Q E s k q => wpAny_bind ((looks_clsIn X₂ hcl) A _ E s k (wpAny_pure q))
  have kp₃ : ∀ b o, h₁.get? b = some o → (h₂.push (kxs_mw "ValueError.__init__" x)).get? b = some o := fun b o e => Heap.get?_push_of_some _ (kp₂ b o e)
  have hu : (h₂.push (kxs_mw "ValueError.__init__" x)).get? h₂.objs.size = some (kxs_mw "ValueError.__init__" x) := Heap.get?_push_size _ rfl
  refine kxs_callWith (i := "ValueError.__init__") (x := x) rfl (evalArgs_plain (spliced_cons ?_))
  refine ldE (hns.keeps kp₃) hv0 (spliced_nil ⟨hu, ?_⟩) rfl fo.loc fo.dbg
  refine call_mw T (X₁.keeps kp₃) hu (kp₃ _ _ hx₁) (one_size v) fun h₃ t1 k₃ hx₃ => ?_
  have X₃ : K.In h₃ := fun a o e => k₃ a o (fun z => by rw [z, hnx] at e; cases e) (X₁.keeps kp₃ a o e)
  have hnsL : h₃.Ns s.heap.objs.size (fun x_1 => (List.reverse [(("self" : Str), Value.ref x), ((fld : Str), v)]).lookup x_1) := (hns.keeps kp₃).at fun o e => k₃ _ o hxL e
  show wpAt _ _ _ (execs _ _) _ _ _
  refine wpAt_of_wpAny (wpAny_execs_cons (plainObj_wpAny_Assign_Attribute ?_))
  refine ldE hnsL hv0 (ldE hnsL hs0 ?_ rfl kindS (by decide +kernel)) rfl fo.loc fo.dbg
  refine set_plain X₃ (ox := excO C t1) (od := none) ⟨hx₃, rfl, rfl, trivial⟩ T.sa ?_
  refine exc_osa X₃ hx₃ hcl (show refsVE (.ref C :: bm) = true from hbm) rfl T.noN (fun h₄ tk₄ dx k₄ dn dne hx₄ hn₄ => ?_)
  have old : ∀ b o, b ≠ x → s.heap.get? b = some o → h₃.get? b = some o := fun b o hb e => k₃ b o hb (kp₃ b o (kp b o e))
  show wpAny _ _ (execs _ _) _ _ _
  refine wpAny_execs_nil (hq h₄ tk₄ dx t1 ⟨fun b o hb e => k₄ b o hb (old b o hb e), hx₄, ?_, dne, hn₄⟩)
  exact Nat.le_of_lt (Nat.lt_of_lt_of_le hnsL.lt dn)
theorem ex_made (T : ExTxt prog K mg cn fld C fI) {v : Value} (X : K.In s.heap) (G : GlobAt mg s.heap) (hroom : A.depth + 1 < recursionLimit)
    (hq : ∀ h' tk e d, OwnMade s.heap h' e C d fld v → R (.ok (.ret (.ref e))) { s with heap := h', toks := tk }) :
    codeAny (model prog w) A (.call (.ref C) ⟨[v], []⟩) R s := by
  obtain ⟨nm, q, N, bs, bm, sn, sub, ab, col, dd, k0, k1, k2, k3, k5, hC, hbm⟩ := T.cls
  obtain ⟨hp, g, dr, tk, os⟩ := s
  have k : ∀ b o, hp.get? b = some o → ((hp.push (kdv_tup [v])).push (excO C hp.objs.size)).get? b = some o := fun b o e => Heap.get?_push_of_some _ (Heap.get?_push_of_some _ e)
  have hget : ((hp.push (kdv_tup [v])).push (excO C hp.objs.size)).get? (hp.objs.size + 1) = some (excO C hp.objs.size) := by heap_get
  have hnx : K.lookup (hp.objs.size + 1) = none := by
    cases e : K.lookup (hp.objs.size + 1) with
    | none => rfl
    | some o =>
      have z : hp.get? (hp.objs.size + 1) = some o := X _ _ e
      exact absurd (Nat.lt_of_succ_lt (Heap.lt_size z)) (Nat.lt_irrefl _)
  refine call_own PySem.F.excBase_ValueError (fun X => refsVE_contains X bm hbm) (X _ _ hC) (looks_findIn X T.iC) (fun self => bind_fn X self T.tC) (one_size v) ?_
  refine ex_init (s := ⟨(hp.push (kdv_tup [v])).push (excO C hp.objs.size), g, dr, tk, os⟩) T (X.keeps k) (G.keeps k) hget hnx ?_ fun h' tk' dx t1 ⟨k', hx, dn, dne, hns⟩ => ?_
  · show A.depth + 1 < recursionLimit
    exact hroom
  · have old : ∀ b o, hp.get? b = some o → h'.get? b = some o := fun b o e => k' b o (Nat.ne_of_lt (Nat.lt_succ_of_lt (Heap.lt_size e))) (k b o e)
    have z : hp.objs.size + 1 + 1 ≤ dx := by
      first
        | (simpa only [Heap.size_push] using dn)
        | exact dn
        | (have q := dn; rw [Heap.size_push, Heap.size_push] at q; exact q)
    exact ⟨rfl, hq h' tk' (hp.objs.size + 1) dx ⟨old, Nat.le_succ _, ⟨_, _, hx, rfl, rfl, rfl, rfl⟩, Nat.le_trans (Nat.le_trans (Nat.le_succ _) (Nat.le_succ _)) z, dne, hns⟩⟩
end
end ExX
end PySem

/-! DV: own errors made, their fields read, isinstance of them -/
namespace L2
open PySem PySem.Spec PyProof.Rows
theorem relO_fld {fld : Str} {v : V} {v' : Value} (r : RelV v v') (f : Str) : RelO (List.lookup f [(fld, v)]) (if f = fld then some v' else none) := by
  by_cases hw : f = fld
  · subst hw
    rw [if_pos rfl]
    have q : List.lookup f [(f, v)] = some v := by simp [List.lookup]
    rw [q]
    exact r
  · rw [if_neg hw]
    have qw : (f == fld) = false := by simpa using hw
    have q2 : List.lookup f [(fld, v)] = none := by simp [List.lookup, qw]
    rw [q2]
    trivial
section
variable {X : Cx} {C fI : Addr} {cn fld : Str}
theorem globAt {pins : List (Addr × Obj)} {σ : St} {H : Hp} {s : Shared} (I : Inv X pins σ H s) : PySem.ExX.GlobAt X.mg s.heap := by
  obtain ⟨mb, h1, h2⟩ := I.mod.blt
  exact ⟨I.mod.glob.keeps I.bk, ⟨mb, h1.keeps I.bk, (h2 _ (by decide +kernel)).trans (by first | exact PyProof.Rows.Boot.«super» | kernel_rfl | decide +kernel)⟩, I.nolimit⟩
/-- C(e) -/
def tMkEx (C : Addr) (fld : Str) (ta : TA) : St → Hp → XK → Prop := fun σ H Q => ta σ H fun vs H1 => ∃ v, vs = [v] ∧ ∀ d, H1 d = none → Q (.ref C) (some d) (upd H1 d (.xd [(fld, v)]))
theorem pmk_ex {a : Expr} {ta : TA} {p pos : Pos} {k : Nat} (T : PySem.ExX.ExTxt X.prog X.K X.mg cn fld C fI) (hr : Room k X.A) (ha : PA X [a] ta) (hg : Gl X cn) (hdb : (cn == ("__debug__" : Str)) = false)
    (he : starEach (a :: []) X.env = (false, eval a X.env) :: starEach [] X.env := by rfl) (hpl : (backTo pos (starEach [] X.env)).any (·.1) = false := by rfl) :
    PMk X (.Call (.Name cn p) [a] [] pos) (tMkEx C fld ta) := by
  intro pins s σ H Q I h
  refine wpAny_Call_Name_kw (ld_glob I hg T.gC ?_ hdb)
  refine PySem.W.callWith_K (h₀ := X.base) I.ok.mod.kin T.kC (thn (ha.run pos pins s σ H _ I h) fun us s1 hh => ?_) he hpl
  obtain ⟨vs, H1, I1, r1, v, ev, q1⟩ := hh
  subst ev
  refine ⟨I1.kIn, ?_⟩
  cases r1 with
  | cons rv rn =>
    rename_i v' us'
    cases rn
    show wpAny _ _ (call (.ref C) [v']) _ _ _
    have hgl := globAt I1
    obtain ⟨hp, g, dr, tk, os⟩ := s1
    refine wpAny_call (PySem.ExX.ex_made T I1.kIn hgl (by have := hr.dp; omega) fun h' tk' e d M => ?_)
    show MkP X pins σ Q (.ref e) ⟨h', g, dr, tk', os⟩
    obtain ⟨oe, fv, hoe, hc, hd, hdat, h1⟩ := M.obj
    have hns := M.ns
    obtain ⟨G', g1, g2⟩ := restrict h' fun b => decide (b ≠ e)
    have gk : ∀ b, b ≠ e → G'.get? b = h'.get? b := fun b hb => g1 b (decide_eq_true hb)
    have ge : G'.get? e = none := g2 e (by simp)
    have old : ∀ b o, hp.get? b = some o → G'.get? b = some o := fun b o q => (gk b (Nat.ne_of_lt (Nat.lt_of_lt_of_le (Heap.lt_size q) M.new))).trans (M.keep b o q)
    have ob : ObjOk X.prog X.w (upd H1 d (.xd [(fld, v)])) G' d (.xd [(fld, v)]) :=
      ⟨_, hns.at (fun o q => (gk d M.dne).trans q), fun f => relO_fld rv f⟩
    have J : Inv X pins σ (upd H1 d (.xd [(fld, v)])) ⟨G', g, dr, tk', os⟩ := I1.laid (t' := tk') old M.dbig ob
    refine ⟨e, oe, fv, ⟨G', g, dr, tk', os⟩, _, .ref C, some d, rfl, J, fun b o q => ?_, ge, hoe, ⟨hc, hd⟩, hdat, h1, ?_, rfl, I1.bare, raises_own T.exC T.tyC, q1 d (I1.hok.fresh M.dbig)⟩
    · by_cases hb : b = e
      · have q' : G'.get? b = some o := q
        rw [hb, ge] at q'; cases q'
      · exact (gk b hb).symm.trans q
    · rw [upd_ne (Ne.symm M.dne)]
      exact I1.hok.fresh M.new
/-- C(), C without an __init__ of its own -/
theorem pmk_own0 {bmB : List Value} {B newId initId : String} {x : Str} {p pos : Pos} (F : ExcBaseFacts B newId initId bmB) (q : PySem.W.excIn X.K C bmB newId = true) (gC : X.mg x = some (.ref C)) (kC : PySem.W.keepIn X.K (.ref C) = true) (r : Raises X (.ref C)) (hg : Gl X x)
    (hdb : (x == ("__debug__" : Str)) = false) : PMk X (.Call (.Name x p) [] [] pos) (fun _ H Q => Q (.ref C) none H) := by
  intro pins s σ H Q I h
  refine wpAny_Call_Name_kw (ld_glob I hg gC ?_ hdb)
  refine PySem.W.callWith_K0 I.kIn kC ?_
  obtain ⟨bm, N, nm, qn, bs, hdct, sn, sub, ab, col, dd, k0, k1, k2, k3, k5, mN, hC, hN, hni, T⟩ := exc_obj I.kIn q
  refine wpAny_call_exc_subT F T hC hN hni (fun h' e hm => ?_) (by show 0 ≤ sizeLine; exact Nat.zero_le _)
  exact mk_of I hm r h (I.hok.gone hm.new)
end
/-! ### in an except suite: what the class of the caught error must say -/
/-- the class D, for isinstance and for fields -/
structure EcC (K : PySem.W.Frag) (D : Addr) : Prop where
  ga : PySem.W.findIn K (.ref D) "__getattribute__" = some (some (.builtin "BaseException.__getattribute__"))
  gg : PySem.W.findIn K (.ref D) "__getattr__" = some none
  exC : PySem.W.subIn K (.ref D) (.type "BaseException") = some true
  hdC : PySem.W.hasDictIn K D = true
  cl : PySem.W.findIn K (.ref D) "__class__" = some (some (.builtin "object.__class__"))
  gt : PySem.W.specialIn K (.builtin "object.__class__") "__get__" = some (some (.builtin "getset_descriptor.__get__"))
  tk : PySem.W.takesIn K (.builtin "object.__class__") = some true
  ob : PySem.W.mroIn K D (.type "object") = some true
/-- isinstance(e, c), e the error that the suite holds at a (its class cls, its dict d) -/
def rIsX (K : PySem.W.Frag) (a : Addr) (cls : Value) (d : Option Addr) : List V → Hp → VK → Prop := fun xs H Q => ∃ (D : Addr) (c : V) (cv : Value) (b : Bool), cls = .ref D ∧ EcC K D ∧ xs = [.ref a, c] ∧ (∀ u, RelV c u → u = cv) ∧ PySem.W.kitOne K (.ref D) cv = some b ∧
  (∀ dd, d = some dd → ∃ fs, H dd = some (.xd fs)) ∧ Q (.bl b) H
theorem call_isX {X : Cx} {a : Addr} {oe : Obj} {cls : Value} {d : Option Addr} {pn : List (Addr × Obj)} (hz : Zc cls d oe) (hf : ∃ vs, oe.data = .fields vs) : CallR (X.suite a ((a, oe) :: pn)) (.builtin "isinstance") (rIsX X.K a cls d) := by
  intro pins s σ H xs us Q I r h
  obtain ⟨D, c, cv, b, rfl, C, rfl, hcv, e, hdd, q⟩ := h
  cases r with
  | cons rx rr =>
    cases rr with
    | cons rt rr =>
      cases rr
      cases rx
      have ec := hcv _ rt
      subst ec
      obtain ⟨hget, _⟩ := I.pin (a, oe) (List.mem_append.mpr (.inl List.mem_cons_self))
      obtain ⟨vs, hv⟩ := hf
      have J : ∃ od, PySem.W.InstAt s.heap a oe D od := by
        have nc : PySem.W.notCls oe = true := by unfold PySem.W.notCls; rw [hv] <;> rfl
        cases d with
        | none => exact ⟨none, hget, hz.1, nc, by rw [hz.2]; trivial⟩
        | some dd =>
          obtain ⟨fs, hx⟩ := hdd dd rfl
          have hx' : ObjOk X.prog X.w H s.heap dd (.xd fs) := I.hok dd _ hx
          obtain ⟨mA, hns, hr⟩ := hx'
          obtain ⟨od, ho, hl⟩ := lookIn_ns hns
          exact ⟨some od, hget, hz.1, nc, by rw [hz.2]; exact ho⟩
      obtain ⟨od, J⟩ := J
      have hcl : (PySem.W.clsIn X.K D).isSome = true := by
        obtain ⟨cd, hc, _⟩ := PySem.W.any_some C.hdC
        rw [hc]; rfl
      exact PySem.W.kia_one (PySem.W.kitx_exc (ox := oe) (od := od) hcl C.ga C.gg C.exC C.cl C.gt C.tk C.ob) I.kIn J e (fun z => nomatch z) fun tk => ⟨.bl b, H, I.kept (t' := tk) fun _ _ z => z, rfl, q⟩
/-- e.f, e the error that the suite holds -/
def tXfX (K : PySem.W.Frag) (a : Addr) (cls : Value) (d : Option Addr) (f : Str) (te : TE) : TE := fun σ H Q => te σ H fun x H1 => x = .ref a ∧ ∃ (D dd : Addr) (fs : List (Str × V)) (v : V), cls = .ref D ∧ EcC K D ∧ PySem.W.findIn K (.ref D) f = some none ∧ d = some dd ∧ H1 dd = some (.xd fs) ∧ fs.lookup f = some v ∧ Q v H1
theorem pe_xfX {X : Cx} {a : Addr} {oe : Obj} {cls : Value} {d : Option Addr} {pn : List (Addr × Obj)} {e : Expr} {te : TE} {pos : Pos} {n : Str} (hz : Zc cls d oe) (hf : ∃ vs, oe.data = .fields vs) (he : PE (X.suite a ((a, oe) :: pn)) e te) (hb : attributeBase e n X.env (eval e X.env) = eval e X.env := by rfl) :
    PE (X.suite a ((a, oe) :: pn)) (.Attribute e n pos) (tXfX X.K a cls d n te) := by
  refine ⟨fun pins s σ H Q I h => ?_⟩
  refine attr_of hb (thn (he.run pins s σ H _ I h) fun u s1 hh => ?_)
  obtain ⟨x, H1, I1, rx, ex, D, dd, fs, v, ec, C, hno, ed, ea, l, q⟩ := hh
  subst ex
  obtain rfl : u = Value.ref a := rx
  subst ec
  subst ed
  obtain ⟨ha, _⟩ := I1.pin (a, oe) (List.mem_append_left _ List.mem_cons_self)
  obtain ⟨vs, hd⟩ := hf
  have hx : ObjOk X.prog X.w H1 s1.heap dd (.xd fs) := I1.hok dd _ ea
  obtain ⟨mA, hns, hr⟩ := hx
  obtain ⟨od, ho, hl⟩ := lookIn_ns hns
  obtain ⟨u, hu, ru⟩ := RelO.some_of (v := v) (o := mA n) (by rw [← l]; exact hr n)
  have J : PySem.W.InstAt s1.heap a oe D (some od) := ⟨ha, hz.1, by unfold PySem.W.notCls; rw [hd] <;> rfl, by rw [hz.2]; exact ho⟩
  exact HandSPX.exc_get I1.kIn J C.ga C.gg C.exC (PySem.W.findObj_own C.hdC hno rfl (by rw [hl, hu])) (handed_of ru) ⟨v, H1, I1.tok _, ru, q⟩
end L2

/-! DV: defs that raise -/
namespace DV
open PySem L2 PyProof.Rows
section
variable {X : Cx} {K : PySem.W.Frag} {R : Option Addr} {L : Nat → Option (Addr × List V)} {E F F' H H' : Hp} {ρ ρ' : Env} {σ σ' : L2.St} {rs rs' : RS} {W : WX}
/-- an expression that may raise -/
def XESem (K : PySem.W.Frag) (R : Option Addr) (W : WX) (t : TE) (f : Env → M (Except Ex RV)) : Prop :=
  ∀ (L : Nat → Option (Addr × List V)) (E : Hp) (ρ : Env) (σ : L2.St) (F H : Hp) (rs : RS) (x : Except Ex RV) (rs' : RS) (Q : VK), Rel K R L E F ρ σ rs H → f ρ rs = some (x, rs') →
    (∀ y, x = .ok y → ∀ v F' H', Step K R rs' F H F' H' → VR K R F' H H' v y → Q v H') → (∀ e, x = .error e → ∀ cls d F' H', Step K R rs' F H F' H' → XF K F' cls d e → W cls d σ H') → t σ H Q
structure DXE (X : Cx) (R : Option Addr) (W : WX) (e : Expr) (t : TE) (f : Env → M (Except Ex RV)) : Prop where
  pe : PE X e t
  sem : XESem X.K R W t f
/-- the heap behind a raise -/
structure Sv (K : PySem.W.Frag) (R : Option Addr) (rs' : RS) (E F F' H' : Hp) : Prop where
  fs : FStep R E F F'
  ex : ∀ a o, E a = some o → H' a = some o
  fr : ∀ a o, F' a = some o → H' a = some o
  row : RowOk K R rs' F' H'
  rF : ∀ r, R = some r → F' r = none
theorem Sv.of (r : Rel K R L E F ρ σ rs H) {F1 H1 : Hp} (s : Step K R rs' F H F1 H1) : Sv K R rs' E F F1 H1 := by
  have r1 := r.step s
  exact ⟨FStep.ofStep r s, r1.ex, r1.fr, r1.row, s.rF⟩
theorem Sv.after {F1 : Hp} (s : FStep R E F F1) (v : Sv K R rs' E F1 F' H') : Sv K R rs' E F F' H' := ⟨s.trans v.fs, v.ex, v.fr, v.row, v.rF⟩
def XSSem (K : PySem.W.Frag) (R : Option Addr) (W : WX) (t : TS) (g : Env → M (Except Ex Out)) : Prop :=
  ∀ (L : Nat → Option (Addr × List V)) (E F : Hp) (ρ : Env) (σ : L2.St) (rs : RS) (H : Hp) (x : Except Ex Out) (rs' : RS) (D : Ends), Rel K R L E F ρ σ rs H → g ρ rs = some (x, rs') →
    (∀ o, x = .ok o → Post K R L E F D rs' o) → (∀ e, x = .error e → ∀ cls d σ' F' H', Sv K R rs' E F F' H' → XF K F' cls d e → W cls d σ' H') → t D σ H
structure DXS (X : Cx) (R : Option Addr) (W : WX) (st : Stmt) (t : TS) (g : Env → M (Except Ex Out)) : Prop where
  ps : PS X st t
  sem : XSSem X.K R W t g
structure DXSs (X : Cx) (R : Option Addr) (W : WX) (st : List Stmt) (t : TS) (g : Env → M (Except Ex Out)) : Prop where
  ps : PSs X st t
  sem : XSSem X.K R W t g
theorem PS.nox {st : Stmt} {t : TS} (h : PS X.nox st t) : PS X st t := ⟨fun pins s σ H D I hw =>
  wpAny_mono (h.run pins s σ H D (I.wish _) hw) (fun _ _ q => q.unwish) fun _ _ z => False.elim z⟩
def xOk {α : Type} (g : Env → M α) : Env → M (Except Ex α) := fun ρ => bnd (g ρ) fun o => ret (.ok o)
variable {st : Stmt} {rest sa sb : List Stmt} {t u : TS} {e c : Expr} {te : TE} {tt : TT} {pos : Pos} {f : Env → M RV} {x : Env → M Bool} {g h : Env → M Out} {gx hx : Env → M (Except Ex Out)}
theorem xssem_ok (h : SSem K R t g) : XSSem K R W t (xOk g) := fun L E F ρ σ rs H y rs' D r hf k ke => by
  obtain ⟨o, rs1, e1, hf1⟩ := bnd_some hf
  obtain ⟨e2, q2⟩ := ret_some hf1
  subst e2 q2
  exact h L E F ρ σ rs H o _ D r e1 (k o rfl)
theorem dxs_nox (h : DS X.nox R st t g) : DXS X R W st t (xOk g) := ⟨PS.nox h.ps, xssem_ok h.sem⟩
theorem dxs_ok (h : DS X R st t g) : DXS X R W st t (xOk g) := ⟨h.ps, xssem_ok h.sem⟩
theorem dxss_nox (h : DSs X.nox R rest t g) : DXSs X R W rest t (xOk g) := ⟨h.ps.nox, xssem_ok h.sem⟩
def xSeq (g h : Env → M (Except Ex Out)) : Env → M (Except Ex Out) := fun ρ => bnd (g ρ) fun o => match o with
  | .ok (.nx ρ') => h ρ'
  | o => ret o
theorem xssem_seq (h1 : XSSem K R W t gx) (h2 : XSSem K R W u hx) : XSSem K R W (tSeq t u) (xSeq gx hx) := fun L E F ρ σ rs H y rs' D r hf k ke => by
  obtain ⟨o1, rs1, e1, hf1⟩ := bnd_some hf
  refine h1 L E F ρ σ rs H o1 rs1 { D with nx := u D } r e1 (fun o eo => ?_) (fun e eo cls d σ' F' H' sv xf => ?_)
  · subst eo
    cases o with
    | nx ρ1 => exact fun σ1 F1 H1 s1 r1 => h2 L E F1 ρ1 σ1 rs1 H1 y rs' D r1 hf1 (fun o eo => (k o eo).after s1) fun e ee cls d σ' F' H' sv xf => ke e ee cls d σ' F' H' (sv.after s1) xf
    | rt z =>
      obtain ⟨e2, q2⟩ := ret_some hf1
      subst q2
      exact k _ e2.symm
    | bk ρ1 =>
      obtain ⟨e2, q2⟩ := ret_some hf1
      subst q2
      exact k _ e2.symm
    | ct ρ1 =>
      obtain ⟨e2, q2⟩ := ret_some hf1
      subst q2
      exact k _ e2.symm
  · subst eo
    obtain ⟨e2, q2⟩ := ret_some hf1
    subst q2
    exact ke e e2.symm cls d σ' F' H' sv xf
theorem dxss_one (h1 : DXS X R W st t gx) : DXSs X R W [st] t gx := ⟨pss_one h1.ps, h1.sem⟩
theorem dxss_cons (h1 : DXS X R W st t gx) (h2 : DXSs X R W rest u hx) : DXSs X R W (st :: rest) (tSeq t u) (xSeq gx hx) := ⟨pss_cons h1.ps h2.ps, xssem_seq h1.sem h2.sem⟩
def xNever : Env → M (Except Ex Out) := fun _ => fail
theorem dxss_never {sts : List Stmt} : DXSs X R W sts tNever xNever := ⟨pss_never, fun L E F ρ σ rs H o rs' D r hf k => nomatch hf⟩
theorem dxss_nil : DXSs X R W [] tNext (xOk sNil) := ⟨pss_nil, xssem_ok ssem_nil⟩
def xIf (x : Env → M Bool) (g h : Env → M (Except Ex Out)) : Env → M (Except Ex Out) := fun ρ => bnd (x ρ) fun b => if b = true then g ρ else h ρ
theorem dxs_if (hc : DT X R c tt x) (ha : DXSs X R W sa t gx) (hb : DXSs X R W sb u hx) : DXS X R W (.If c sa sb pos) (tIfS tt t u) (xIf x gx hx) := ⟨ps_if hc.pt ha.ps hb.ps, fun L E F ρ σ rs H o rs' D r hf k ke => by
  obtain ⟨b, rs1, e1, hf1⟩ := bnd_some hf
  refine hc.sem L E ρ σ F H rs b rs1 _ r e1 fun F1 H1 s1 => ?_
  have fs := FStep.ofStep r s1
  cases b with
  | true =>
    rw [if_pos rfl] at hf1 ⊢
    exact ha.sem L E F1 ρ σ rs1 H1 o rs' D (r.step s1) hf1 (fun o eo => (k o eo).after fs) fun e ee cls d σ' F' H' sv xf => ke e ee cls d σ' F' H' (sv.after fs) xf
  | false =>
    rw [if_neg Bool.false_ne_true] at hf1 ⊢
    exact hb.sem L E F1 ρ σ rs1 H1 o rs' D (r.step s1) hf1 (fun o eo => (k o eo).after fs) fun e ee cls d σ' F' H' sv xf => ke e ee cls d σ' F' H' (sv.after fs) xf⟩
/-! ### raise -/
theorem Step.new_xd {p : Addr} {fs : List (Str × V)} (s : Step K R rs F H F H) (hp : H p = none) : Step K R rs F H (upd F p (.xd fs)) (upd H p (.xd fs)) := by
  have hr : some p ≠ R := fun q => by
    obtain ⟨a, e, _⟩ := s.row.at_ p q.symm
    rw [hp] at e; cases e
  have hF : F p = none := by
    cases q : F p with
    | none => rfl
    | some o => rw [s.fin p o q] at hp; cases hp
  refine ⟨fun a o h _ _ => by rw [upd_ne (ne_of_none h hp)]; exact h, fun a o h => by rw [upd_ne (ne_of_none h hF)]; exact h, fun a o h => ?_, fun a o h => ?_, ⟨fun r e => ?_, tabs_upd s.row.tab (.inl hp), fun a o h => ?_⟩, fun r e => ?_⟩
  · by_cases eb : a = p
    · subst eb; exact .inr hp
    · rw [upd_ne eb] at h; exact .inl h
  · by_cases eb : a = p
    · subst eb; rw [upd_same] at h ⊢; exact h
    · rw [upd_ne eb] at h ⊢; exact s.fin a o h
  · obtain ⟨a, e1, h1, h3⟩ := s.row.at_ r e
    exact ⟨a, by rw [upd_ne (ne_of_none e1 hp)]; exact e1, ex_l (fun o q => by rw [upd_ne (ne_of_none q hF)]; exact q) h1, h3⟩
  · by_cases eb : a = p
    · subst eb; rw [upd_same] at h; cases h; exact .inl fun _ z => nomatch z
    · rw [upd_ne eb] at h; exact s.row.fnt a o h
  · rw [upd_ne (fun z => hr (by rw [e, z]))]; exact s.rF r e
def xRaise1 (cn fld : Str) (f : Env → M RV) : Env → M (Except Ex Out) := fun ρ => bnd (f ρ) fun y => match y with
  | .d z => ret (.error ⟨cn, some (fld, z)⟩)
  | _ => fail
theorem dxs_raise1 {C fI : Addr} {cn fld : Str} {p cpos : Pos} {k : Nat} (hc : X.calm = true) (T : PySem.ExX.ExTxt X.prog X.K X.mg cn fld C fI) (hn : PySem.W.nsIn X.K mainGlobals cn = some (some (.ref C))) (tk : Takes X W) (hr : Room k X.A) (he : DE X R e te f) (hg : Gl X cn)
    (hdb : (cn == ("__debug__" : Str)) = false) (hs : starEach (e :: []) X.env = (false, eval e X.env) :: starEach [] X.env := by rfl) (hpl : (backTo cpos (starEach [] X.env)).any (·.1) = false := by rfl) :
    DXS X R W (.Raise (some (.Call (.Name cn p) [e] [] cpos)) none pos) (fun _ σ H => tMkEx C fld (tCons te tNil) σ H fun cls d H' => W cls d σ H') (xRaise1 cn fld f) :=
  ⟨ps_raise hc tk (pmk_ex T hr (pa_cons he.pe pa_nil hs) hg hdb hs hpl), fun L E F ρ σ rs H o rs' D r hf k ke => by
    obtain ⟨y, rs1, e1, hf1⟩ := bnd_some hf
    cases y with
    | d z =>
      obtain ⟨e2, q2⟩ := ret_some hf1
      subst q2
      refine he.sem L E ρ σ F H rs _ _ _ r e1 fun v F1 H1 s1 h1 => ?_
      refine ⟨v, rfl, fun d hd => ?_⟩
      have r1 := r.step s1
      have s2 := Step.new_xd (fs := [(fld, v)]) r1.refl hd
      refine ke _ e2.symm _ _ σ _ _ (Sv.of r (s1.trans r.row s2)) ⟨hn, d, v, rfl, upd_same, ?_⟩
      exact Dp.mono s2.sub _ _ h1
    | b _ => cases hf1
    | n _ => cases hf1
    | gb _ => cases hf1
    | gn _ => cases hf1
    | row => cases hf1⟩
def xRaise0 (cn : Str) : Env → M (Except Ex Out) := fun _ => ret (.error ⟨cn, none⟩)
/-- what the written part says of an own error without an __init__ -/
structure Ex0Txt (K : PySem.W.Frag) (mg : Str → Option Value) (cn : Str) (C : Addr) : Prop where
  gC : mg cn = some (.ref C)
  nC : PySem.W.nsIn K mainGlobals cn = some (some (.ref C))
  xC : PySem.W.excIn K C [.type "ValueError", .type "Exception", .type "BaseException", .type "object"] "ValueError.__new__" = true
  kC : PySem.W.keepIn K (.ref C) = true
  bC : PySem.W.subIn K (.ref C) (.type "BaseException") = some true
  tC : PySem.W.typeIn K (.ref C) = some (.type "type")
theorem dxs_raise0 {C : Addr} {cn : Str} {p cpos : Pos} (hc : X.calm = true) (T : Ex0Txt X.K X.mg cn C) (tk : Takes X W) (hg : Gl X cn) (hdb : (cn == ("__debug__" : Str)) = false) :
    DXS X R W (.Raise (some (.Call (.Name cn p) [] [] cpos)) none pos) (fun _ σ H => W (.ref C) none σ H) (xRaise0 cn) :=
  ⟨ps_raise hc tk (pmk_own0 PySem.F.excBase_ValueError T.xC T.gC T.kC (raises_own T.bC T.tC) hg hdb), fun L E F ρ σ rs H o rs' D r hf k ke => by
    obtain ⟨e2, q2⟩ := ret_some hf
    subst q2
    exact ke _ e2.symm _ _ σ F H (Sv.of r r.refl) ⟨T.nC, rfl⟩⟩
/-! ### statements with a call that may raise -/
variable {fx : Env → M (Except Ex RV)}
def xDrop (fx : Env → M (Except Ex RV)) : Env → M (Except Ex Out) := fun ρ => bnd (fx ρ) fun y => match y with
  | .ok _ => ret (.ok (.nx ρ))
  | .error e => ret (.error e)
theorem dxs_expr (he : DXE X R W e te fx) (hs : swapsWith e none pos.line X.env = pure false := by rfl) : DXS X R W (.Expr e pos) (tDrop te) (xDrop fx) := ⟨ps_expr he.pe hs, fun L E F ρ σ rs H o rs' D r hf k ke => by
  obtain ⟨y, rs1, e1, hf1⟩ := bnd_some hf
  refine he.sem L E ρ σ F H rs y rs1 _ r e1 (fun z ez v F1 H1 s1 h1 => ?_) fun z ez cls d F1 H1 s1 xf => ?_
  · subst ez
    obtain ⟨e2, q2⟩ := ret_some hf1
    subst q2
    exact k _ e2.symm σ F1 H1 (FStep.ofStep r s1) (r.step s1)
  · subst ez
    obtain ⟨e2, q2⟩ := ret_some hf1
    subst q2
    exact ke _ e2.symm cls d σ F1 H1 (Sv.of r s1) xf⟩
def xRet (fx : Env → M (Except Ex RV)) : Env → M (Except Ex Out) := fun ρ => bnd (fx ρ) fun y => match y with
  | .ok z => bnd (lft (toRet z)) fun w => ret (.ok (.rt w))
  | .error e => ret (.error e)
theorem dxs_ret (he : DXE X R W e te fx) : DXS X R W (.Return (some e) pos) (tRet te) (xRet fx) := ⟨ps_ret he.pe, fun L E F ρ σ rs H o rs' D r hf k ke => by
  obtain ⟨y, rs1, e1, hf1⟩ := bnd_some hf
  refine he.sem L E ρ σ F H rs y rs1 _ r e1 (fun z ez v F1 H1 s1 h1 => ?_) fun z ez cls d F1 H1 s1 xf => ?_
  · subst ez
    obtain ⟨w, rs2, e2, hf2⟩ := bnd_some hf1
    obtain ⟨e3, q3⟩ := lft_some e2
    obtain ⟨e4, q4⟩ := ret_some hf2
    subst q4 q3
    exact k _ e4.symm v F1 H1 (Ret.of r s1 h1 e3)
  · subst ez
    obtain ⟨e2, q2⟩ := ret_some hf1
    subst q2
    exact ke _ e2.symm cls d σ F1 H1 (Sv.of r s1) xf⟩
def xSet (i : Nat) (fx : Env → M (Except Ex RV)) : Env → M (Except Ex Out) := fun ρ => bnd (fx ρ) fun y => match y with
  | .ok z => bnd (lft (toS z)) fun sv => ret (.ok (.nx (ρ.set i (some sv))))
  | .error e => ret (.error e)
theorem dxs_set {i : Nat} {y : Str} {pos' : Pos} (hN : X.N.Nodup) (hi : X.N[i]? = some y) (hl : Loc X.env.scope y) (he : DXE X R W e te fx) (hs : swapsWith e (some (.Name y pos')) pos.line X.env = pure false := by rfl)
    (hf : X.fn y = true ∨ X.env.scope.names.lookup y = some .local := by first | exact .inl rfl | exact .inr rfl | assumption) : DXS X R W (.Assign [.Name y pos'] e pos) (tAsg te (gName i)) (xSet i fx) := ⟨ps_set hN hi hl he.pe hs hf, fun L E F ρ σ rs H o rs' D r hf k ke => by
  obtain ⟨y, rs1, e1, hf1⟩ := bnd_some hf
  refine he.sem L E ρ σ F H rs y rs1 _ r e1 (fun z ez v F1 H1 s1 h1 => ?_) fun z ez cls d F1 H1 s1 xf => ?_
  · subst ez
    obtain ⟨w, rs2, e2, hf2⟩ := bnd_some hf1
    obtain ⟨e3, q3⟩ := lft_some e2
    obtain ⟨e4, q4⟩ := ret_some hf2
    subst q4 q3
    exact k _ e4.symm _ F1 H1 (FStep.ofStep r s1) (Rel.store r s1 h1 e3 i)
  · subst ez
    obtain ⟨e2, q2⟩ := ret_some hf1
    subst q2
    exact ke _ e2.symm cls d σ F1 H1 (Sv.of r s1) xf⟩
/-! ### defs -/
def runDefX (n : Nat) (g : Env → M (Except Ex Out)) (xs : List RV) : M (Except Ex RV) := bnd (g (startE n xs)) fun o => match o with
  | .ok (.nx _) => ret (.ok (.d .none))
  | .ok (.rt x) => ret (.ok x)
  | .error e => ret (.error e)
  | _ => fail
def spFnX (K : PySem.W.Frag) (np : Nat) (m : List RV → M (Except Ex RV)) : Sp := fun vs H Q E => ∃ (R : Option Addr) (F : Hp) (rs : RS) (xs : List RV) (x : Except Ex RV) (rs' : RS), Step K R rs F H F H ∧ VRs K R F H H vs xs ∧ xs.length = np ∧ m xs rs = some (x, rs') ∧
  (∀ y, x = .ok y → ∀ v F' H', Step K R rs' F H F' H' → VR K R F' H H' v y → Q v H') ∧ ∀ e, x = .error e → ∀ cls d F' H', Step K R rs' F H F' H' → XF K F' cls d e → E cls d H'
/-- behind a def's body: the heap as the caller sees it -/
theorem Sv.step {rs1 : RS} {F1 H1 : Hp} (hs : Step K R rs F H F H) (q : Sv K R rs1 (entE K R H) F F1 H1) : Step K R rs1 F H F1 H1 := by
  have free : ∀ a, entE K R H a = none → some a ≠ R → ¬ tbAt K a → H a = none := fun a e q t => by rwa [entE_at q t] at e
  refine ⟨fun a o e hR n => ?_, q.fs.sub, fun a o e => ?_, q.fr, q.row, q.rF⟩
  · by_cases t : tbAt K a
    · obtain ⟨m, t⟩ := t
      obtain ⟨ps, et⟩ := tabs_at hs.row.tab t
      rw [e] at et
      cases et
      rcases n with n | n
      · exact absurd rfl (n ps)
      · exact absurd t (n m)
    · exact q.ex a o (by rw [entE_at hR t]; exact e)
  · rcases q.fs.new a o e with z | ⟨z1, z2⟩
    · exact .inl z
    · by_cases t : tbAt K a
      · obtain ⟨m, t⟩ := t
        obtain ⟨ps, et⟩ := tabs_at q.row.tab t
        rw [q.fr a o e] at et
        cases et
        rcases q.row.fnt a _ e with n | n
        · exact absurd rfl (n ps)
        · exact absurd t (n m)
      · exact .inr (free a z1 z2 t)
theorem Ret.step {rs1 : RS} {F1 H1 : Hp} {v : V} {z : RV} (hs : Step K R rs F H F H) (q : Ret K R rs1 (entE K R H) F F1 H1 v z) : Step K R rs1 F H F1 H1 := Sv.step hs ⟨q.fs, q.ex, q.fr, q.row, q.rF⟩
theorem Ret.vr {rs1 : RS} {F1 H1 : Hp} {v : V} {z : RV} (hs : Step K R rs F H F H) (q : Ret K R rs1 (entE K R H) F F1 H1 v z) : VR K R F1 H H1 v z := by
  have s := Ret.step hs q
  have hv := q.val
  have fresh : ∀ a o, entE K R H a = none → F1 a = none → some a ≠ R → H1 a = some o → Fx K a o → H a = none := fun a o e h2 h3 h4 n => by
    by_cases t : tbAt K a
    · obtain ⟨m, t⟩ := t
      obtain ⟨ps, et⟩ := tabs_at q.row.tab t
      rw [h4] at et
      cases et
      rcases n with n | n
      · exact absurd rfl (n ps)
      · exact absurd t (n m)
    · rwa [entE_at h3 t] at e
  cases z with
  | d y => exact hv
  | n ds =>
    obtain ⟨a, vs, e1, h1, h2, h3, h4, h5⟩ := hv
    exact ⟨a, vs, e1, h1, fresh a _ h2 h3 h4 h1 (.inl fun _ z => nomatch z), h3, h4, h5⟩
  | gn c =>
    obtain ⟨a, vs, e1, h1, h2, h3, h4, h5⟩ := hv
    exact ⟨a, vs, e1, h1, fresh a _ h2 h3 h4 h1 h5.fx, h3, h4, h5⟩
  | gb _ => exact hv.elim
  | b _ => exact hv.elim
  | row => exact hv.elim
/-- THE RULE for a def that may raise -/
theorem fn_okX {P : Program} {w : World} {mg : Str → Option Value} {base : Heap} {x qual : Str} {st : Stmt} {f : Addr} {fd : FuncData} {N ps : List Str} {k : Nat} {g : Env → M (Except Ex Out)} (Fn : Fun K x qual st f fd) (S : FnScope N ps (defScope st))
    (hbody : ∀ (R : Option Addr) (cdv : Value) (A : Around) (outer : List PySem.Env) (s : Shared) (H : Hp) (E : XK), Room k (A.deeper (envOfC qual (defScope st) s.heap.objs.size f cdv)) →
      ∃ t, DXSs (cxOf (L2.CX P w) P w K mg base N qual (defScope st) f cdv A outer s H E) R (fun cls d _ H => E cls d H) (defBody st) t g) : FnOk P w K mg base (L2.CX P w) (k + 1) f fd ps (spFnX K ps.length (runDefX N.length g)) := by
  refine Fun.okX Fn S (fun vs H Q E h => ?_) (fun cdv A outer s H vs Q E hr h => ?_)
  · obtain ⟨R, F, rs, xs, x, rs', _, h2, h3, _⟩ := h
    rw [h2.len, h3]
  · obtain ⟨R, F, rs, xs, y, rs', hs, hv, hl, hm, kk, ke⟩ := h
    obtain ⟨t, hb⟩ := hbody R cdv A outer s H E hr
    obtain ⟨L, r⟩ := Rel.start (N := N) hs hv
    refine ⟨t, hb.ps, ?_⟩
    obtain ⟨o, rs1, e1, hf1⟩ := bnd_some hm
    refine hb.sem L _ F _ _ rs H o rs1 _ r e1 (fun o' eo => ?_) fun e eo cls d σ' F' H' sv xf => ?_
    · subst eo
      cases o' with
      | nx ρ1 =>
        obtain ⟨e2, q2⟩ := ret_some hf1
        subst q2
        exact fun σ1 F1 H1 s1 r1 => by
          have q : Ret K R _ (entE K R H) F F1 H1 .non (.d .none) := ⟨s1, r1.ex, r1.fr, r1.row, fun a e => (r1.rE a e).2, .non⟩
          exact kk _ e2.symm _ F1 H1 (Ret.step hs q) (Ret.vr hs q)
      | rt z =>
        obtain ⟨e2, q2⟩ := ret_some hf1
        subst q2
        exact fun v F1 H1 q => kk _ e2.symm v F1 H1 (Ret.step hs q) (Ret.vr hs q)
      | bk _ => cases hf1
      | ct _ => cases hf1
    · subst eo
      obtain ⟨e2, q2⟩ := ret_some hf1
      subst q2
      exact ke e e2.symm cls d F' H' (Sv.step hs sv) xf
/-- a def that may be called, and may raise -/
def CalX (P : Program) (w : World) (K : PySem.W.Frag) (mg : Str → Option Value) (base : Heap) (x : Str) (k : Nat) (ps : List Str) (np : Nat) (m : List RV → M (Except Ex RV)) : Prop :=
  ∃ (f : Addr) (fd : FuncData), FnOk P w K mg base (L2.CX P w) k f fd ps (spFnX K np m) ∧ mg x = some (.ref f) ∧ PySem.W.keepIn K (.ref f) = true ∧ Binds K fd ps []
def xFn (m : List RV → M (Except Ex RV)) (fa : Env → M (List RV)) : Env → M (Except Ex RV) := fun ρ => bnd (fa ρ) fun xs => m (xs.map readable)
theorem dx_call {k : Nat} {ps : List Str} {np : Nat} {m : List RV → M (Except Ex RV)} {x : Str} {p : Pos} {es : List Expr} {ta : TA} {fa : Env → M (List RV)} {k' : Nat} (C : CalX X.prog X.w X.K X.mg X.base x k ps np m) (tk : Takes X W) (hr : Room k' X.A) (hk' : k ≤ k') (hgl : Gl X x) (ha : DA X R (e :: es) ta fa)
    (hdb : (x == ("__debug__" : Str)) = false := by decide) (he : starEach (e :: es) X.env = (false, eval e X.env) :: starEach es X.env := by rfl) (hpl : (backTo pos (starEach es X.env)).any (·.1) = false := by rfl) :
    DXE X R W (.Call (.Name x p) (e :: es) [] pos) (tCallS (spFnX X.K np m) (WE W) ta) (xFn (fun xs => if xs.length = np then m xs else fail) fa) := by
  obtain ⟨f, fd, Fn, hm, hk, hb⟩ := C
  refine ⟨pe_callS Fn (hr.mono hk') hgl hm hk hb (fun σ => passAt tk σ) ha.pa hdb he hpl, fun L E ρ σ F H rs y rs' Q r hf kk ke => ?_⟩
  obtain ⟨xs, rs1, e1, hf1⟩ := bnd_some hf
  refine ha.sem L E ρ σ F H rs xs rs1 _ r e1 fun vs F1 H1 s1 h1 => ?_
  have hf1 : (if (xs.map readable).length = np then m (xs.map readable) else fail) rs1 = some (y, rs') := hf1
  have hl : (xs.map readable).length = np := by
    by_cases hl : (xs.map readable).length = np
    · exact hl
    · rw [if_neg hl] at hf1; cases hf1
  rw [if_pos hl] at hf1
  exact ⟨R, F1, rs1, _, y, rs', (r.step s1).refl, h1.readable, hl, hf1, fun z ez v F2 H2 s2 h2 => kk z ez v F2 H2 (s1.trans r.row s2) (h2.older fun a q => s1.back r.row q), fun z ez cls d F2 H2 s2 xf => ke z ez cls d F2 H2 (s1.trans r.row s2) xf⟩
end
end DV

/-! DV: lambda: f(..), handed to a def that calls it within a try -/
namespace DV
open PySem L2 LamX PyProof.Rows PySem.Spec
section
variable {X : Cx} {pins : List (Addr × Obj)} {σ : L2.St} {H HZ : Hp} {s s1 : Shared}
/-- x(), in the def that got the lambda: Z is that def's context, entered at s; what is raised is wished for at Z's slots -/
theorem pe_actS {CXg : CXT} {Eg : XK} {Ng : List Str} {qg : Str} {sg : Scope} {g f c' : Addr} {cdg pm ctv : Value} {params : Arguments} {body : Expr} {scope : Scope} {k i : Nat} {a : Str} {pn : List (Addr × Obj)} {xe : Value → Shared → Prop} {W : WX} {tb : XK → TE} {p1 p2 : Pos}
    (I : Inv X pins σ H s) (L : LamS X.env.scope scope) (hf : s.heap.get? f = some (PySem.W.kla_obj "<lambda>" (X.env.qual ++ "<lambda>") params body scope (cloFrom X.env.cells scope.names []) pm c' ctv)) (hfn : H f = none) (hfr : f ∉ frs X.stack)
    (hbind : bindArgs (PySem.W.kla_fn "<lambda>" (X.env.qual ++ "<lambda>") params body scope (cloFrom X.env.cells scope.names []) pm (.ref c') ctv) ⟨[], []⟩ = pure [])
    (tk : Takes ((cxOf CXg X.prog X.w X.K X.mg X.base Ng qg sg g cdg X.A X.stack s H Eg).tr pn xe) W) (hr : Room (k + 1) (X.A.deeper (envOfC qg sg s.heap.objs.size g cdg)))
    (hbody : ∀ (E : XK) (A : Around) (outer : List PySem.Env) (s : Shared) (H : Hp), Room k (A.deeper (lamEnv X scope s.heap.objs.size f c')) → PE (lamCx X A outer s H E scope f c') body (tb E))
    (hN : Ng[i]? = some a) (hv : Vis sg a) (hd : (a == ("__debug__" : Str)) = false := by decide) (hcd : (a == ("__classdict__" : Str)) = false := by decide) :
    PE ((cxOf CXg X.prog X.w X.K X.mg X.base Ng qg sg g cdg X.A X.stack s H Eg).tr pn xe) (.Call (.Name a p1) [] [] p2)
      (fun σZ HZ Q => σZ[i]? = some (some (.ref f)) ∧ HZ c' = some (CodeO c' (X.env.qual ++ "<lambda>")) ∧ tb (WE W σZ) σ HZ Q) := by
  refine ⟨fun pinsZ sZ σZ HZ Q IZ h => ?_⟩
  obtain ⟨hs, hc, ht⟩ := h
  refine wpAny_Call_Name_kw (thn ((pe_var (pos := p1) (i := i) hN hv hd hcd).run pinsZ sZ σZ HZ (fun v H1 => v = .ref f ∧ H1 = HZ) IZ ⟨.ref f, hs, rfl, rfl⟩) fun u s1 ⟨v, H1, I1, r1, q1⟩ => ?_)
  obtain ⟨ev, eH⟩ := q1
  subst ev
  rw [eH] at I1
  obtain rfl : u = Value.ref f := r1
  have of1 : s1.heap.get? f = some (PySem.W.kla_obj "<lambda>" (X.env.qual ++ "<lambda>") params body scope (cloFrom X.env.cells scope.names []) pm c' ctv) := I1.base.keep f _ hf hfn hfr (fun z => nomatch (show f ∈ ([] : List Addr) from z))
  refine PySem.W.callWith_F0 ⟨_, _, _, _, of1⟩ ?_
  have un : Un (frs X.stack) [] H HZ s.heap s1.heap := I1.base
  obtain ⟨⟨oc, vs, t, hoc, hdc, hvc⟩, _, _⟩ := I1.hok c' _ hc
  have rc : codeAny (model X.prog X.w) (X.A.deeper (envOfC qg sg s.heap.objs.size g cdg)) (.call (.ref f) ⟨[], []⟩) (CR (L2.CX X.prog X.w) (envOfC qg sg s.heap.objs.size g cdg :: X.stack) X.prog X.w HZ s1 Q (WE W σZ)) s1 := by
    refine PySem.W.kla_callFunE hr.depth of1 rfl L.co L.gen rfl ⟨c', oc, vs, t, rfl, hoc, hdc, hvc⟩ ?_
    rw [hbind]
    refine wpAny_pure (wpAny_newFunctionEnv (fun y hy => (L.own y hy).2) (fun y hy => absurd hy (by simp)) (fun h₁ hns hsb => ⟨I1.nolimit.fresh _ hsb, ?_⟩) L.kind)
    show codeAny _ _ (.expr body (lamEnv X scope s1.heap.objs.size f c')) _ _
    have kp : ∀ b o, s1.heap.get? b = some o → h₁.get? b = some o := fun b o e => hsb.extBut b o (Nat.ne_of_lt (Heap.lt_size e)) (Heap.get?_push_of_some _ e)
    have J : Inv (lamCx X (X.A.deeper (envOfC qg sg s.heap.objs.size g cdg)) (envOfC qg sg s.heap.objs.size g cdg :: X.stack) s1 HZ (WE W σZ) scope f c') [] σ HZ { s1 with heap := h₁, toks := s1.toks + ([] : List (Str × Value)).length } :=
      lam_start2 I L I1.env0 hr.hd un hns kp
    refine PySem.W.kla_codeExpr (wpAny_mono ((hbody _ _ _ s1 HZ (hr.deeper _)).run [] _ _ HZ Q J ht) (fun v s' hq => ?_) fun e s' hq => hq)
    obtain ⟨w', H', J', rv, q⟩ := hq
    exact ⟨w', H', J'.os, J'.bare, J'.base, J'.hok, rv, q⟩
  refine wpAny_call (codeAny_mono rc fun r s' hq => ?_)
  cases r with
  | error e => exact passAt tk σZ pinsZ HZ s1 e s' I1 hq
  | ok fl =>
    cases fl with
    | ret u => exact I1.after hq
    | next => exact False.elim hq
    | brk => exact False.elim hq
    | cont => exact False.elim hq
end
/-- the def that calls what it got: TT is what it makes of the lambda's reading -/
def GivesToS (X : Cx) (Ng : List Str) (x : Str) (sg : Scope) (g : Addr) (cdg : Value) (bg : List Stmt) (a : Str) (q : Str) (TT : (XK → Hp → VK → Prop) → Hp → VK → Prop) : Prop :=
  ∀ (f c' : Addr) (s : Shared) (H : Hp) (Q : VK) (tl : XK → Hp → VK → Prop), Room 0 (X.A.deeper (envOfC x sg s.heap.objs.size g cdg)) →
    (∀ (W : WX) (pn : List (Addr × Obj)) (xe : Value → Shared → Prop) (p1 p2 : Pos), Takes ((cxOf C8.CX0 X.prog X.w X.K X.mg X.base Ng x sg g cdg X.A X.stack s H C8.E0).tr pn xe) W →
      PE ((cxOf C8.CX0 X.prog X.w X.K X.mg X.base Ng x sg g cdg X.A X.stack s H C8.E0).tr pn xe) (.Call (.Name a p1) [] [] p2) (fun σZ HZ Q => σZ[0]? = some (some (.ref f)) ∧ HZ c' = some (CodeO c' q) ∧ tl (WE W σZ) HZ Q)) →
    H c' = some (CodeO c' q) → TT tl H Q →
    ∃ t, PSs (cxOf C8.CX0 X.prog X.w X.K X.mg X.base Ng x sg g cdg X.A X.stack s H C8.E0).nox bg t ∧ t { nx := fun _ H' => Q .non H', rt := Q } (L2.start Ng [.ref f]) H
def tLamG (T : List (Addr × Str)) (P : Addr) (TT : (XK → Hp → VK → Prop) → Hp → VK → Prop) (t : XK → TE) : TE := fun σ H Q => Tabs T H ∧ ∀ H1, Grown T P H H1 → TT (fun E H' Q' => t E σ H' Q') H1 Q
section
variable {X : Cx}
/-- x(lambda: body) -/
theorem pe_lamS {T : List (Addr × Str)} {TT : (XK → Hp → VK → Prop) → Hp → VK → Prop} {x a : Str} {g c P : Addr} {k : Nat} {pg : Arguments} {bg : List Stmt} {sg : Scope} {dV kV doc pm cdv ct oc : Value} {an od : Option Addr} {osl : Array (Option Value)} {Ng : List Str}
    {params : Arguments} {body : Expr} {scope : Scope} {t : XK → TE} {p lpos pos : Pos} (hg : Gl X x) (hm : X.mg x = some (.ref g)) (hk : PySem.W.keepIn X.K (.ref g) = true)
    (lk : X.K.lookup g = some ⟨oc, od, .func (PySem.W.fnOf x x pg bg sg dV kV doc pm an cdv ct), osl⟩) (hcg : PySem.W.codeIn X.K cdv x = true) (hb : L2.Binds X.K (PySem.W.fnOf x x pg bg sg dV kV doc pm an cdv ct) [a] []) (Sg : FnScope Ng [a] sg) (hNg : Ng[0]? = some a) (hva : Vis sg a)
    (hG : GivesToS X Ng x sg g cdv bg a (X.env.qual ++ "<lambda>") TT)
    (TB : TabB X.base X.mg c P) (hcode : X.env.code = .ref c) (hmT : (P, X.env.qual ++ "<lambda>") ∈ T) (hu : ∀ p ∈ T, p.1 = P → p.2 = X.env.qual ++ "<lambda>") (hr : Room (k + 2) X.A) (L : LamS X.env.scope scope) (hdef : defaultsOf params X.env = ([], []))
    (hbind : ∀ (q : Str) (cl : List (Str × Addr)) (pm cv ctv : Value), bindArgs (PySem.W.kla_fn "<lambda>" q params body scope cl pm cv ctv) ⟨[], []⟩ = pure [])
    (hbody : ∀ (E : XK) (A : Around) (outer : List PySem.Env) (s : Shared) (H : Hp) (f c' : Addr), Room k (A.deeper (lamEnv X scope s.heap.objs.size f c')) → PE (lamCx X A outer s H E scope f c') body (t E))
    (hdb : (x == ("__debug__" : Str)) = false := by decide) (hd : (a == ("__debug__" : Str)) = false := by decide) (hcd : (a == ("__classdict__" : Str)) = false := by decide) :
    PE X (.Call (.Name x p) [.Lambda params body scope lpos] [] pos) (tLamG T P TT t) := by
  refine ⟨fun pins s σ H Q I h => ?_⟩
  obtain ⟨hT, h⟩ := h
  refine wpAny_Call_Name_kw (ld_glob I hg hm ?_ hdb)
  refine PySem.W.callWith_K (h₀ := X.base) I.ok.mod.kin hk ?_ (by rfl) (by rfl)
  show wpAny _ _ (spliced ((false, eval (.Lambda params body scope lpos) X.env) :: backTo pos (starEach [] X.env))) _ _ s
  refine Calls.spliced_cons (lam_mk I TB hcode hmT hu hT hdef (L.has I.ok) fun f c' pm' ctv H1 s' I1 G hf hfn hsz hkp hco => ?_)
  have hfr : f ∉ frs X.stack := fun z => by
    rcases List.mem_cons.mp (I.stkSub _ z) with e | e
    · have h1 := I.lt
      rw [← e] at h1
      exact Nat.lt_irrefl _ (Nat.lt_of_lt_of_le h1 hsz)
    · exact I.nofs hsz e
  refine Calls.spliced_nil ⟨I1.kIn, ?_⟩
  have rc : codeAny (model X.prog X.w) X.A (.call (.ref g) ⟨[.ref f], []⟩) (CR C8.CX0 X.stack X.prog X.w H1 s' Q C8.E0) s' := by
    refine run_ofS (N := Ng) (ps := [a]) (us := [.ref f]) (vs := [.ref f]) lk hcg Sg hr I1.env0 (hb s' [.ref f] I1.kIn rfl) (.cons rfl .nil) rfl fun hr' => ?_
    obtain ⟨t', ht', hq'⟩ := hG f c' s' H1 Q (fun E H' Q' => t E σ H' Q') (hr'.mono (Nat.zero_le _)) (fun W pn xe p1 p2 tk => pe_actS (i := 0) I1 L hf hfn hfr (hbind _ _ _ _ _) tk hr' (fun E A outer s H hr2 => hbody E A outer s H f c' hr2) hNg hva hd hcd) hco (h H1 G)
    exact ⟨t', ht'.nox, hq'⟩
  refine wpAny_call (codeAny_mono rc fun r s2 hq => ?_)
  cases r with
  | error e => exact (show False from hq).elim
  | ok fl =>
    cases fl with
    | ret u => exact I1.after hq
    | next => exact False.elim hq
    | brk => exact False.elim hq
    | cont => exact False.elim hq
end
/-! ### the error's own classes -/
/-- what the written part says of the classes named; S is the one that the clause names -/
structure ClsTab (K : PySem.W.Frag) (names : List Str) (S : Str) : Prop where
  each : ∀ c ∈ names, ∃ D, PySem.W.nsIn K mainGlobals c = some (some (.ref D)) ∧ EcC K D ∧ PySem.W.kitOne K (.ref D) (.type "ValueError") = some true ∧ PySem.W.findIn K (.ref D) "index" = some none ∧ PySem.W.findIn K (.ref D) "most" = some none
  two : ∀ c ∈ names, ∀ c2 ∈ names, ∀ D D2, PySem.W.nsIn K mainGlobals c = some (some (.ref D)) → PySem.W.nsIn K mainGlobals c2 = some (some (.ref D2)) → PySem.W.kitOne K (.ref D) (.ref D2) = some (decide (c = c2))
  exm : ∀ c ∈ names, ∀ D S', PySem.W.nsIn K mainGlobals c = some (some (.ref D)) → PySem.W.nsIn K mainGlobals S = some (some (.ref S')) → PySem.W.exmOne K (.ref D) (.ref S') = some true
def ecB (K : PySem.W.Frag) (D : Addr) : Bool :=
  decide (PySem.W.findIn K (.ref D) "__getattribute__" = some (some (.builtin "BaseException.__getattribute__"))) && decide (PySem.W.findIn K (.ref D) "__getattr__" = some none) && decide (PySem.W.subIn K (.ref D) (.type "BaseException") = some true) && PySem.W.hasDictIn K D &&
  decide (PySem.W.findIn K (.ref D) "__class__" = some (some (.builtin "object.__class__"))) && decide (PySem.W.specialIn K (.builtin "object.__class__") "__get__" = some (some (.builtin "getset_descriptor.__get__"))) && decide (PySem.W.takesIn K (.builtin "object.__class__") = some true) && decide (PySem.W.mroIn K D (.type "object") = some true)
theorem ecB_ok {K : PySem.W.Frag} {D : Addr} (h : ecB K D = true) : EcC K D := by
  unfold ecB at h
  simp only [Bool.and_eq_true, decide_eq_true_eq] at h
  obtain ⟨⟨⟨⟨⟨⟨⟨h1, h2⟩, h3⟩, h4⟩, h5⟩, h6⟩, h7⟩, h8⟩ := h
  exact ⟨h1, h2, h3, h4, h5, h6, h7, h8⟩
def clsAt (K : PySem.W.Frag) (c : Str) : Option Addr := match PySem.W.nsIn K mainGlobals c with
  | some (some (.ref D)) => some D
  | _ => none
theorem clsAt_of {K : PySem.W.Frag} {c : Str} {D : Addr} (h : PySem.W.nsIn K mainGlobals c = some (some (.ref D))) : clsAt K c = some D := by unfold clsAt; rw [h]
def clsTabB (K : PySem.W.Frag) (names : List Str) (S : Str) : Bool := names.all fun c => match clsAt K c with
  | none => false
  | some D => ecB K D && decide (PySem.W.kitOne K (.ref D) (.type "ValueError") = some true) && decide (PySem.W.findIn K (.ref D) "index" = some none) && decide (PySem.W.findIn K (.ref D) "most" = some none) &&
    (names.all fun c2 => match clsAt K c2 with
      | none => false
      | some D2 => decide (PySem.W.kitOne K (.ref D) (.ref D2) = some (decide (c = c2)))) &&
    match clsAt K S with
      | none => false
      | some S' => decide (PySem.W.exmOne K (.ref D) (.ref S') = some true)
theorem clsTab_of {K : PySem.W.Frag} {names : List Str} {S : Str} (h : clsTabB K names S = true) : ClsTab K names S := by
  unfold clsTabB at h
  rw [List.all_eq_true] at h
  have at_ : ∀ c ∈ names, ∃ D, PySem.W.nsIn K mainGlobals c = some (some (.ref D)) := fun c hc => by
    have := h c hc
    unfold clsAt at this
    split at this
    · cases this
    · rename_i D e
      split at e
      · rename_i D' e'
        exact ⟨D', e'⟩
      · cases e
  refine ⟨fun c hc => ?_, fun c hc c2 hc2 D D2 e e2 => ?_, fun c hc D S' e e2 => ?_⟩
  · obtain ⟨D, e⟩ := at_ c hc
    have q := h c hc
    rw [clsAt_of e] at q
    simp only [Bool.and_eq_true, decide_eq_true_eq] at q
    obtain ⟨⟨⟨⟨⟨q1, q2⟩, q3⟩, q4⟩, _⟩, _⟩ := q
    exact ⟨D, e, ecB_ok q1, q2, q3, q4⟩
  · have q := h c hc
    rw [clsAt_of e] at q
    simp only [Bool.and_eq_true, decide_eq_true_eq] at q
    obtain ⟨⟨_, q5⟩, _⟩ := q
    have q6 := List.all_eq_true.mp q5 c2 hc2
    rw [clsAt_of e2] at q6
    simpa using q6
  · have q := h c hc
    rw [clsAt_of e] at q
    simp only [Bool.and_eq_true] at q
    obtain ⟨_, q6⟩ := q
    rw [clsAt_of e2] at q6
    simpa using q6
section
open Classical
variable {X : Cx} {K : PySem.W.Frag} {R : Option Addr} {names : List Str} {S : Str}
/-- isinstance(e, c2), of the error in slot i -/
noncomputable def eIsX (names : List Str) (q : Q3) (i : Nat) (b : Str → Bool) : Env → M RV := fun ρ => match ρ[i]? with
  | some (some (.ex q' e)) => if q' = q ∧ e.c ∈ names then ret (.d (.bool (b e.c))) else fail
  | _ => fail
noncomputable def eXf (names : List Str) (q : Q3) (i : Nat) (f : Str) : Env → M RV := fun ρ => match ρ[i]? with
  | some (some (.ex q' e)) => if q' = q ∧ e.c ∈ names then (match e.f with
    | some (f', x) => if f' = f then ret (.d x) else fail
    | none => fail) else fail
  | _ => fail
theorem ex_slot {ρ : Env} {i : Nat} {z : RV} {q : Q3} {rs rs' : RS} {k : Ex → M RV} (h : (match ρ[i]? with
  | some (some (.ex q' e)) => if q' = q ∧ e.c ∈ names then k e else fail
  | _ => fail) rs = some (z, rs')) : ∃ e, ρ[i]? = some (some (.ex q e)) ∧ e.c ∈ names ∧ k e rs = some (z, rs') := by
  cases h1 : ρ[i]? with
  | none => rw [h1] at h; cases h
  | some o =>
    cases o with
    | none => rw [h1] at h; cases h
    | some sv =>
      rw [h1] at h
      cases sv with
      | ex q' e =>
        by_cases hc : q' = q ∧ e.c ∈ names
        · have h2 : (if q' = q ∧ e.c ∈ names then k e else fail) rs = some (z, rs') := h
          rw [if_pos hc] at h2
          obtain ⟨rfl, hc⟩ := hc
          exact ⟨e, rfl, hc, h2⟩
        · have h2 : (if q' = q ∧ e.c ∈ names then k e else fail) rs = some (z, rs') := h
          rw [if_neg hc] at h2
          cases h2
      | d _ => cases h
      | o _ => cases h
      | k _ => cases h
      | g _ => cases h
      | un => cases h
      | row => cases h
      | fn _ => cases h
theorem esem_isX (T : ClsTab K names S) {q : Q3} {i : Nat} {tc : TE} {c : V} {cv : Value} {b : Str → Bool} (hc : ∀ σ H Q, Q c H → tc σ H Q) (hcv : ∀ u, RelV c u → u = cv) (hk : ∀ c1 ∈ names, ∀ D, PySem.W.nsIn K mainGlobals c1 = some (some (.ref D)) → PySem.W.kitOne K (.ref D) cv = some (b c1)) :
    ESem K R (tCB (rIsX K q.a q.cls q.d) (tCons (tVar i) (tCons tc tNil))) (eIsX names q i b) := fun L E ρ σ F H rs z rs' Q r hf k => by
  obtain ⟨e, he, hn, hf1⟩ := ex_slot (k := fun e => ret (.d (.bool (b e.c)))) hf
  obtain ⟨e2, q2⟩ := ret_some hf1
  subst e2 q2
  obtain ⟨v, ev, rfl, hx⟩ := r.sl i _ he
  obtain ⟨D, hD, eD, _⟩ := T.each _ hn
  have ecls : q.cls = .ref D := by
    have := hx.1
    rw [hD] at this
    exact (Option.some.inj (Option.some.inj this)).symm
  refine ⟨_, ev, hc _ _ _ ⟨D, c, cv, b e.c, ecls, eD, rfl, hcv, hk _ hn D hD, fun dd hd => ?_, k _ F H r.refl (.bl _)⟩⟩
  have h2 := hx.2
  cases ef : e.f with
  | none => rw [ef] at h2; rw [hd] at h2; cases h2
  | some p =>
    rw [ef] at h2
    obtain ⟨dd', w, h3, h4, _⟩ := h2
    rw [hd] at h3
    cases h3
    exact ⟨_, r.fr _ _ h4⟩
theorem esem_xf (T : ClsTab K names S) {q : Q3} {i : Nat} {f : Str} (hfl : f = "index" ∨ f = "most") : ESem K R (tXfX K q.a q.cls q.d f (tVar i)) (eXf names q i f) := fun L E ρ σ F H rs z rs' Q r hf k => by
  obtain ⟨e, he, hn, hf1⟩ := ex_slot (k := fun e => match e.f with
    | some (f', x) => if f' = f then ret (.d x) else fail
    | none => fail) hf
  obtain ⟨v, ev, rfl, hx⟩ := r.sl i _ he
  obtain ⟨D, hD, eD, _, n1, n2⟩ := T.each _ hn
  have ecls : q.cls = .ref D := by
    have := hx.1
    rw [hD] at this
    exact (Option.some.inj (Option.some.inj this)).symm
  have h2 := hx.2
  cases ef : e.f with
  | none => simp only [ef] at hf1; cases hf1
  | some p =>
    obtain ⟨f', x⟩ := p
    simp only [ef] at hf1 h2
    by_cases hff : f' = f
    · rw [if_pos hff] at hf1
      subst hff
      obtain ⟨e2, q2⟩ := ret_some hf1
      subst e2 q2
      obtain ⟨dd, w, h3, h4, h5⟩ := h2
      refine ⟨_, ev, rfl, D, dd, _, w, ecls, eD, ?_, h3, r.fr _ _ h4, by simp [List.lookup], k _ F H r.refl h5⟩
      rcases hfl with rfl | rfl
      · exact n1
      · exact n2
    · rw [if_neg hff] at hf1
      cases hf1
end
section
variable {Y : Cx} {R : Option Addr} {names : List Str} {S : Str} {q : Q3} {oe : Obj} {pn : List (Addr × Obj)} {i : Nat} {p p1 p2 pos : Pos} {en c2 : Str}
/-- isinstance(e, c2), c2 a class of the module -/
theorem de_isX (T : ClsTab Y.K names S) (hz : Zc q.cls q.d oe) (hf : ∃ vs, oe.data = .fields vs) (hc2 : c2 ∈ names) {C2 : Addr} (hm : Y.mg c2 = some (.ref C2)) (hn : PySem.W.nsIn Y.K mainGlobals c2 = some (some (.ref C2))) (hg2 : Gl Y c2) (hd2 : (c2 == ("__debug__" : Str)) = false)
    (hg : Gl Y "isinstance") (hmi : Y.mg "isinstance" = none) (hN : Y.N[i]? = some en) (hv : Vis Y.env.scope en) (hd : (en == ("__debug__" : Str)) = false) (hcd : (en == ("__classdict__" : Str)) = false) :
    DE (Y.suite q.a ((q.a, oe) :: pn)) R (.Call (.Name "isinstance" p) [.Name en p1, .Name c2 p2] [] pos) (tCB (rIsX Y.K q.a q.cls q.d) (tCons (tVar i) (tCons (tC (.ref C2)) tNil))) (eIsX names q i fun c => decide (c = c2)) :=
  ⟨pe_callB (call_isX hz hf) hg hmi PyProof.Rows.boot_isinstance (pa_cons (pe_var hN hv hd hcd) (pa_cons (pe_glob hg2 hm rfl hd2) pa_nil)), esem_isX (K := Y.K) T (fun _ _ _ h => h) (fun u h => h) fun c1 h1 D hD => T.two c1 h1 c2 hc2 D C2 hD hn⟩
/-- isinstance(e, ValueError) -/
theorem de_isVE (T : ClsTab Y.K names S) (hz : Zc q.cls q.d oe) (hf : ∃ vs, oe.data = .fields vs) (hm : Y.mg "ValueError" = none) (hg2 : Gl Y "ValueError")
    (hg : Gl Y "isinstance") (hmi : Y.mg "isinstance" = none) (hN : Y.N[i]? = some en) (hv : Vis Y.env.scope en) (hd : (en == ("__debug__" : Str)) = false) (hcd : (en == ("__classdict__" : Str)) = false) :
    DE (Y.suite q.a ((q.a, oe) :: pn)) R (.Call (.Name "isinstance" p) [.Name en p1, .Name "ValueError" p2] [] pos) (tCB (rIsX Y.K q.a q.cls q.d) (tCons (tVar i) (tCons (tC (.ty "ValueError")) tNil))) (eIsX names q i fun _ => true) :=
  ⟨pe_callB (call_isX hz hf) hg hmi PyProof.Rows.boot_isinstance (pa_cons (pe_var hN hv hd hcd) (pa_cons (pe_bltn hg2 hm PyProof.Rows.Boot.«ValueError» rfl) pa_nil)), esem_isX (K := Y.K) T (fun _ _ _ h => h) (fun u h => h) fun c1 h1 D hD => by
    obtain ⟨D', h2, _, h3, _⟩ := T.each c1 h1
    rw [hD] at h2
    cases h2
    exact h3⟩
/-- e.f -/
theorem de_xf (T : ClsTab Y.K names S) (hz : Zc q.cls q.d oe) (hf : ∃ vs, oe.data = .fields vs) {f : Str} (hfl : f = "index" ∨ f = "most") (hN : Y.N[i]? = some en) (hv : Vis Y.env.scope en) (hd : (en == ("__debug__" : Str)) = false) (hcd : (en == ("__classdict__" : Str)) = false)
    (hb : attributeBase (.Name en p1) f Y.env (eval (.Name en p1) Y.env) = eval (.Name en p1) Y.env := by rfl) :
    DE (Y.suite q.a ((q.a, oe) :: pn)) R (.Attribute (.Name en p1) f pos) (tXfX Y.K q.a q.cls q.d f (tVar i)) (eXf names q i f) :=
  ⟨pe_xfX hz hf (pe_var hN hv hd hcd) hb, esem_xf (K := Y.K) T hfl⟩
end
end DV

/-! DV: the word of the error that a call raises -/
namespace DV
open PySem L2 LamX PyProof.Rows PySem.Spec
section
variable {X : Cx} {K : PySem.W.Frag} {R : Option Addr} {names : List Str} {S : Str}
/-- nothing is known of the names -/
theorem Rel.bare {F H : Hp} {rs : RS} (s : Step K R rs F H F H) (σ : L2.St) : Rel K R (fun _ => none) (entE K R H) F (List.replicate σ.length none) σ rs H := by
  have no : ∀ (i : Nat) (sv : SV), (List.replicate σ.length (none : Option SV))[i]? ≠ some (some sv) := fun i sv e => by
    have := List.mem_of_getElem? e
    rw [List.mem_replicate] at this
    cases this.2
  exact ⟨List.length_replicate, fun a o e => (entE_of e).2.2, fun a o e => .inr fun n z => (entE_of e).2.1 ⟨n, z⟩, s.fin, s.row, fun q e => ⟨entE_row e, s.rF q e⟩, fun i a vs e => (nomatch e), fun i sv e => absurd e (no i sv), fun i j a x y e1 _ _ _ _ _ => absurd e1 (no i x)⟩
/-- the names of the def that catches: the error in slot 1 -/
def errE (n : Nat) (q : Q3) (e : Ex) : Env := (List.replicate n none).set 1 (some (.ex q e))
/-- what the def makes of the lambda: "" or what sv says of the error -/
def TTe (K : PySem.W.Frag) (names : List Str) (sv : Ex → Option D) : (XK → Hp → VK → Prop) → Hp → VK → Prop := fun tl H Q =>
  ∀ E' : XK, (∀ cls d H', (∃ R e F' rs' y, Step K R rs' F' H' F' H' ∧ XF K F' cls d e ∧ e.c ∈ names ∧ sv e = some y ∧ ∀ v F'' H'', Step K R rs' F' H' F'' H'' → Dp K F'' v y → Q v H'') → E' cls d H') → tl E' H fun _ H' => Q (.str "") H'
theorem err_gives {Ng : List Str} {x a en eS : Str} {sg : Scope} {g : Addr} {cdg : Value} {qn : Str} {CS : Addr} {sv : Ex → Option D} {ts : Q3 → TS} {gs : Q3 → Env → M Out} {b₀ : Stmt} {suite : List Stmt} {j : Nat} {p1 p2 p3 p4 p5 p6 p7 p8 : Pos}
    (hge : sg.names.lookup eS = some .globalImplicit) (hme : X.mg eS = some (.ref CS)) (hde : (eS == ("__debug__" : Str)) = false) (T : ClsTab X.K names eS) (hnS : PySem.W.nsIn X.K mainGlobals eS = some (some (.ref CS)))
    (hnd : Ng.Nodup) (hi : Ng[1]? = some en) (hln : sg.names.lookup en = some .local)
    (hsu : ∀ (R : Option Addr) (s : Shared) (H : Hp) (q' : Q3) (oe : Obj) (pn : List (Addr × Obj)), Room 0 (X.A.deeper (envOfC x sg s.heap.objs.size g cdg)) → Zc q'.cls q'.d oe → (∃ vs, oe.data = .fields vs) → DSs ((cxOf C8.CX0 X.prog X.w X.K X.mg X.base Ng x sg g cdg X.A X.stack s H C8.E0).nox.suite q'.a ((q'.a, oe) :: pn)) R (b₀ :: suite) (ts q') (gs q'))
    (hsv : ∀ (q' : Q3) (e : Ex) (d : D) (rs : RS), e.c ∈ names → sv e = some d → gs q' (errE Ng.length q' e) rs = some (.rt (.d d), rs)) :
    GivesToS X Ng x sg g cdg [.Try [.Expr (.Call (.Name a p1) [] [] p2) p3] [.ExceptHandler (some (.Name eS p4)) (some en) (b₀ :: suite) p5] [] [] p6, .Return (some (.Constant (.str "") j p7)) p8] a qn (TTe X.K names sv) := by
  intro f c' s H Q tl room act hc h
  have hgl : Gl (cxOf C8.CX0 X.prog X.w X.K X.mg X.base Ng x sg g cdg X.A X.stack s H C8.E0).nox eS := hge
  have h2 : 1 < Ng.length := (List.getElem?_eq_some_iff.mp hi).1
  have hlen : (L2.start Ng [V.ref f]).length = Ng.length := by
    unfold L2.start
    rw [List.length_append, List.length_map, List.length_replicate]
    show 1 + (Ng.length - 1) = Ng.length
    omega
  refine ⟨_, pss_cons (ps_try_as (X := (cxOf C8.CX0 X.prog X.w X.K X.mg X.base Ng x sg g cdg X.A X.stack s H C8.E0).nox) (c := .ref CS) (i := 1) (ts := fun a cls d => ts ⟨a, cls, d⟩) (Wout := fun _ _ _ _ => False)
      (tb := fun W D σ H => σ[0]? = some (some (.ref f)) ∧ H c' = some (CodeO c' qn) ∧ tl (WE W σ) H fun _ H' => D.nx σ H')
      rfl rfl hnd hi hln ⟨hgl, hde, .inl hme⟩ L2.takes0 (fun W pn xe tk _ => ?_) (fun a oe cls d pn hz hf => (hsu none s H ⟨a, cls, d⟩ oe pn room hz hf).ps)) (pss_one (ps_ret pe_str)), ?_⟩
  · exact ⟨fun pins s' σ H' D I h' => (pss_one (ps_expr (pos := p3) (act W pn xe p1 p2 tk))).run pins s' σ H' D I h'⟩
  · refine ⟨rfl, hc, h _ fun cls d H' ⟨R, e, F', rs', y, hs, hx, hn, hy, k⟩ => ?_⟩
    obtain ⟨D, hD, _⟩ := T.each _ hn
    have ecls : cls = .ref D := by
      have := hx.1
      rw [hD] at this
      exact (Option.some.inj (Option.some.inj this)).symm
    refine ⟨true, by rw [ecls]; exact T.exm _ hn D CS hD hnS, fun _ a ha => ?_, fun z => nomatch z⟩
    have r0 := Rel.bare hs (L2.start Ng [V.ref f])
    rw [hlen] at r0
    have r1 := r0.put 1 (.ex ⟨a, cls, d⟩ e) (.ref a) ⟨rfl, hx⟩ (fun b z => (z : False).elim)
    refine (hsu R s H ⟨a, cls, d⟩ { cls := cls, dict := d, data := .fields #[] } [] room ⟨rfl, rfl⟩ ⟨_, rfl⟩).sem _ _ F' _ _ rs' H' _ _ _ r1 (hsv ⟨a, cls, d⟩ e y rs' hn hy) ?_
    exact fun v F'' H'' q => k v F'' H'' (Ret.step hs q) q.val
theorem err_gives2 {P : Program} {w : World} {mg : Str → Option Value} {base : Heap} {Ng : List Str} {x a en eS : Str} {sg : Scope} {g : Addr} {cdg : Value} {qn : Str} {CS : Addr} {sv : Ex → Option D} {ts : Q3 → TS} {gs : Q3 → Env → M Out} {b₀ : Stmt} {suite : List Stmt} {j : Nat} {p1 p2 p3 p4 p5 p6 p7 p8 : Pos}
    (h1 : X.prog = P) (h2 : X.w = w) (h3 : X.K = K) (h4 : X.mg = mg) (h5 : X.base = base)
    (hge : sg.names.lookup eS = some .globalImplicit) (hme : mg eS = some (.ref CS)) (hde : (eS == ("__debug__" : Str)) = false) (T : ClsTab K names eS) (hnS : PySem.W.nsIn K mainGlobals eS = some (some (.ref CS)))
    (hnd : Ng.Nodup) (hi : Ng[1]? = some en) (hln : sg.names.lookup en = some .local)
    (hsu : ∀ (A : Around) (stk : List PySem.Env) (R : Option Addr) (s : Shared) (H : Hp) (q' : Q3) (oe : Obj) (pn : List (Addr × Obj)), Room 0 (A.deeper (envOfC x sg s.heap.objs.size g cdg)) → Zc q'.cls q'.d oe → (∃ vs, oe.data = .fields vs) → DSs ((cxOf C8.CX0 P w K mg base Ng x sg g cdg A stk s H C8.E0).nox.suite q'.a ((q'.a, oe) :: pn)) R (b₀ :: suite) (ts q') (gs q'))
    (hsv : ∀ (q' : Q3) (e : Ex) (d : D) (rs : RS), e.c ∈ names → sv e = some d → gs q' (errE Ng.length q' e) rs = some (.rt (.d d), rs)) :
    GivesToS X Ng x sg g cdg [.Try [.Expr (.Call (.Name a p1) [] [] p2) p3] [.ExceptHandler (some (.Name eS p4)) (some en) (b₀ :: suite) p5] [] [] p6, .Return (some (.Constant (.str "") j p7)) p8] a qn (TTe K names sv) := by
  subst h1 h2 h3 h4 h5
  exact err_gives hge hme hde T hnS hnd hi hln (fun R s H q' oe pn hr hz hf => hsu X.A X.stack R s H q' oe pn hr hz hf) hsv
/-- x(lambda: body) as data -/
def eErr (sv : Ex → Option D) (fx : Env → M (Except Ex RV)) : Env → M RV := fun ρ => bnd (fx ρ) fun r => match r with
  | .ok _ => ret (.d (.str ""))
  | .error e => bnd (lft (sv e)) fun d => ret (.d d)
theorem de_errOf {P : Addr} {q : Str} {sv : Ex → Option D} {t : XK → TE} {fx : Env → M (Except Ex RV)} {e : Expr} (pe : PE X e (tLamG (tabsOf X.K) P (TTe X.K names sv) t)) (hP : (P, q) ∈ tabsOf X.K) (hsn : ∀ e d, sv e = some d → e.c ∈ names)
    (hb : ∀ E : XK, XESem X.K R (fun cls d _ H => E cls d H) (t E) fx) : DE X R e (tLamG (tabsOf X.K) P (TTe X.K names sv) t) (eErr sv fx) := ⟨pe, fun L E ρ σ F H rs z rs' Q r hf k => by
  obtain ⟨y, rs1, e1, hf1⟩ := bnd_some hf
  refine ⟨r.row.tab, fun H1 G E' hE => ?_⟩
  have s1 := Step.grown r.refl hP G
  refine hb E' L E ρ σ F H1 rs y rs1 _ (r.step s1) e1 (fun w ew v F2 H2 s2 hv => ?_) fun er ee cls d F2 H2 s2 hx => ?_
  · subst ew
    obtain ⟨e2, q2⟩ := ret_some hf1
    subst e2 q2
    exact k _ F2 H2 (s1.trans r.row s2) (.str _)
  · subst ee
    obtain ⟨dd, rs2, e2, hf2⟩ := bnd_some hf1
    obtain ⟨e3, q3⟩ := lft_some e2
    obtain ⟨e4, q4⟩ := ret_some hf2
    subst e4 q4 q3
    have s12 := s1.trans r.row s2
    exact hE cls d H2 ⟨R, er, F2, _, dd, (r.step s12).refl, hx, hsn _ _ e3, e3, fun v F3 H3 s3 dp => k v F3 H3 (s12.trans r.row s3) dp⟩⟩
/-- the def that catches, as it stands in the text -/
def ErrAt (P : Program) (w : World) (K : PySem.W.Frag) (mg : Str → Option Value) (base : Heap) (x a : Str) (names : List Str) (sv : Ex → Option D) : Prop :=
  ∃ (g : Addr) (pg : Arguments) (bg : List Stmt) (sg : Scope) (kV doc pm cdv ct oc : Value) (an od : Option Addr) (osl : Array (Option Value)) (Ng : List Str), mg x = some (.ref g) ∧ PySem.W.keepIn K (.ref g) = true ∧
    K.lookup g = some ⟨oc, od, .func (PySem.W.fnOf x x pg bg sg .none kV doc pm an cdv ct), osl⟩ ∧ PySem.W.codeIn K cdv x = true ∧ L2.Binds K (PySem.W.fnOf x x pg bg sg .none kV doc pm an cdv ct) [a] [] ∧ FnScope Ng [a] sg ∧ Ng[0]? = some a ∧ Vis sg a ∧
    (∀ e d, sv e = some d → e.c ∈ names) ∧ ∀ (X : Cx) (q : Str), X.prog = P → X.w = w → X.K = K → X.mg = mg → X.base = base → GivesToS X Ng x sg g cdv bg a q (TTe K names sv)
/-- the lambda -/
structure LamE (X : Cx) (P : Addr) (q : Str) (params : Arguments) (body : Expr) (scope : Scope) : Prop where
  tab : ∃ c, TabB X.base X.mg c P ∧ X.env.code = .ref c
  mem : (P, q) ∈ tabsOf X.K
  uni : ∀ p ∈ tabsOf X.K, p.1 = P → p.2 = q
  name : X.env.qual ++ "<lambda>" = q
  par : LamS X.env.scope scope
  noDef : defaultsOf params X.env = ([], [])
  bind : ∀ (qn : Str) (cl : List (Str × Addr)) (pm cv ct : Value), bindArgs (PySem.W.kla_fn "<lambda>" qn params body scope cl pm cv ct) ⟨[], []⟩ = pure []
theorem LamFn.atE {X : Cx} {fd : FuncData} {q : Str} {P : Addr} {params : Arguments} {body : Expr} {scope : Scope} (G : LamFn X.K X.mg X.base fd q P) (hcd : fd.code = X.env.code) (hq : X.env.qual ++ "<lambda>" = q) (par : lamSB X.env.scope scope = true)
    (noDef : defaultsOf params X.env = ([], [])) (bind : ∀ (qn : Str) (cl : List (Str × Addr)) (pm cd ct : Value), bindArgs (PySem.W.kla_fn "<lambda>" qn params body scope cl pm cd ct) ⟨[], []⟩ = pure []) : LamE X P q params body scope :=
  ⟨by obtain ⟨c, h1, h2⟩ := G.cod; exact ⟨c, h1, hcd.symm.trans h2⟩, G.mem, G.uni, hq, lamS_by par, noDef, bind⟩
theorem de_err {x a : Str} {sv : Ex → Option D} {P : Addr} {q : Str} {params : Arguments} {body : Expr} {scope : Scope} {t : XK → TE} {fx : Env → M (Except Ex RV)} {k k' : Nat} {p lpos pos : Pos} (C : ErrAt X.prog X.w X.K X.mg X.base x a names sv) (Lm : LamE X P q params body scope) (hr : Room k' X.A) (hk : k + 2 ≤ k') (hg : Gl X x)
    (hbody : ∀ (E : XK) (A : Around) (outer : List PySem.Env) (s : Shared) (H : Hp) (f c' : Addr), Room k (A.deeper (lamEnv X scope s.heap.objs.size f c')) → DXE (lamCx X A outer s H E scope f c') R (fun cls d _ H => E cls d H) body (t E) fx)
    (hdb : (x == ("__debug__" : Str)) = false := by decide) (hd : (a == ("__debug__" : Str)) = false := by decide) (hcd : (a == ("__classdict__" : Str)) = false := by decide) :
    DE X R (.Call (.Name x p) [.Lambda params body scope lpos] [] pos) (tLamG (tabsOf X.K) P (TTe X.K names sv) t) (eErr sv fx) := by
  obtain ⟨g, pg, bg, sg, kV, doc, pm, cdv, ct, oc, an, od, osl, Ng, h1, h2, h3, h4, h5, h6, h7, h8, h9, h10⟩ := C
  obtain ⟨c, tb, ec⟩ := Lm.tab
  have hq := Lm.name
  subst hq
  exact de_errOf (pe_lamS hg h1 h2 h3 h4 h5 h6 h7 h8 (h10 X _ rfl rfl rfl rfl rfl) tb ec Lm.mem Lm.uni (hr.mono hk) Lm.par Lm.noDef Lm.bind (fun E A outer s H f c' hr => (hbody E A outer s H f c' hr).pe) hdb hd hcd) Lm.mem h9 (fun E => (hbody E X.A [] {} (fun _ => none) 0 0 ((hr.mono (by omega : k + 1 ≤ k')).deeper _)).sem)
end
section
variable {K : PySem.W.Frag}
theorem law_okL {P : Program} {w : World} {mg : Str → Option Value} {base : Heap} {x qual : Str} {st : Stmt} {f : Addr} {fd : FuncData} {N : List Str} {k : Nat} {g : Env → M Out} {y : Str} {seed : Int} {s0 : Stmt} {rest : List Stmt} (Fn : Fun K x qual st f fd) (S : FnScope N [y] (defScope st)) (hN : 2 ≤ N.length)
    (hbd : defBody st = s0 :: rest)
    (hbody : ∀ (cdv : Value) (A : Around) (outer : List PySem.Env) (s : Shared) (H : Hp) (E : XK), fd.code = cdv → Room k (A.deeper (envOfC qual (defScope st) s.heap.objs.size f cdv)) →
      PS (cxOf CX0 P w K mg base N qual (defScope st) f cdv A outer s H E).nox s0 (tAsg (tLst (tCons (tVar 0) (tCons (tC (.int 0)) (tCons (tC (.int seed)) (tCons (tC (.int 0)) tNil))))) (gName 1)) ∧
      ∃ t, ∀ R, DSs (cxOf CX0 P w K mg base N qual (defScope st) f cdv A outer s H E).nox R rest t g)
    (hlaw : ∀ ns : List Int, ns.length ≤ 63 → ∃ rs', g (lawE N.length) ⟨ns, 0, seed, 0⟩ = some (.rt (.d (.bool true)), rs')) : FnOk P w K mg base CX0 (k + 1) f fd [y] (spLaw K) := by
  refine fun_code Fn S (fun vs H Q E h => ?_) (fun cdv A outer s H vs Q E hcd hr h => ?_)
  · obtain ⟨a, ns, rfl, _⟩ := h
    rfl
  · obtain ⟨a, ns, rfl, hT, hS0, hlen, q⟩ := h
    obtain ⟨h0, t, ht⟩ := hbody cdv A outer s H E hcd hr
    rw [hbd]
    refine ⟨_, pss_cons h0 (ht none).ps, ?_⟩
    obtain ⟨rs', hl⟩ := hlaw ns hlen
    have hst : L2.start N [V.ref a] = some (V.ref a) :: List.replicate (N.length - 1) none := rfl
    rw [hst]
    refine ⟨V.ref a, rfl, ?_⟩
    refine ⟨by show 4 ≤ sizeLine; exact sz_of (by decide), fun r hr0 => ?_⟩
    have hNl : N.length - 1 = (N.length - 2) + 1 := by omega
    have hF : ∀ b o, entE K none H b = some o → (upd H r (.lst [V.ref a, .int 0, .int seed, .int 0])) b = some o := fun b o e => by
      have e := (entE_of e).2.2
      rw [upd_ne (ne_of_none e hr0)]
      exact e
    have hX : ∀ b o, entE K none H b = some o → Fx K b o := fun b o e => .inr fun n z => (entE_of e).2.1 ⟨n, z⟩
    have hN0 : entE K none H r = none := by
      cases e : entE K none H r with
      | none => rfl
      | some o =>
        have e2 := (entE_of e).2.2
        rw [hr0] at e2
        cases e2
    have hS : SqL K (entE K none H) a (ns.map V.int) := by
      by_cases t : tbAt K a
      · obtain ⟨n, t⟩ := t
        obtain ⟨ps, et⟩ := tabs_at hT t
        rcases hS0 with (z | ⟨o, z⟩) | z
        · rw [et] at z; cases z
        · rw [et] at z; cases z
        · exact .inr z
      · exact ex_l (fun o e => (entE_at (R := none) (fun z => by cases z) t).trans e) hS0
    have rel : Rel K (some r) (fun _ => none) (entE K none H) (entE K none H) (lawE N.length) ((some (V.ref a) :: List.replicate (N.length - 1) none).set 1 (some (V.ref r))) ⟨ns, 0, seed, 0⟩ (upd H r (.lst [V.ref a, .int 0, .int seed, .int 0])) := by
      rw [hNl, List.replicate_succ]
      refine ⟨?_, hF, hX, hF, ⟨fun r1 e1 => ?_, tabs_upd hT (.inl hr0), hX⟩, fun r1 e1 => ?_, fun i b vs e1 => ?_, fun i sv e1 => ?_, fun i j b sv sw e1 e2 ox oy e3 e4 => ?_⟩
      · show (List.replicate (N.length - 2) (none : Option SV)).length + 1 + 1 = (List.replicate (N.length - 2) (none : Option V)).length + 1 + 1
        rw [List.length_replicate, List.length_replicate]
      · cases e1
        exact ⟨a, upd_same, hS, hlen⟩
      · cases e1
        exact ⟨hN0, hN0⟩
      · cases e1
      · match i, e1 with
        | 0, e1 => cases e1
        | 1, e1 =>
          cases e1
          exact ⟨_, rfl, r, rfl, rfl⟩
        | i + 2, e1 =>
          have e2 : (List.replicate (N.length - 2) (none : Option SV))[i]? = some (some sv) := e1
          have e3 := List.mem_of_getElem? e2
          rw [List.mem_replicate] at e3
          cases e3.2
      · match i, e1 with
        | 0, e1 => cases e1
        | 1, e1 => cases e1; cases ox
        | i + 2, e1 =>
          have e5 : (List.replicate (N.length - 2) (none : Option SV))[i]? = some (some sv) := e1
          have e6 := List.mem_of_getElem? e5
          rw [List.mem_replicate] at e6
          cases e6.2
    refine (ht (some r)).sem (fun _ => none) (entE K none H) (entE K none H) (lawE N.length) _ _ _ _ rs' _ rel hl ?_
    intro v F' H' hret
    have hv : Dp K F' v (.bool true) := hret.val
    cases hv
    exact q H'
end
end DV

/-! DV: count of any data; for whose body may raise -/
namespace L2
open PySem PySem.Spec PyProof.Rows
section
variable {X : Cx}
def rCountD (K : PySem.W.Frag) : V → List V → Hp → VK → Prop := fun x xs H Q => ∃ (a : Addr) (y : V) (d : PyData) (ds : List PyData), x = V.ref a ∧ xs = [y] ∧ Dp K H (V.ref a) (.list ds) ∧ Dp K H y d ∧
  SeqAt.shaped (.list ds) = true ∧ SeqAt.shaped d = true ∧ Q (.int (ds.countP (fun z => PyData.eqv z d) : Nat)) H
theorem mt_countD (hu : X.A.units + 65 < cLine) : MtR X "list.count" (rCountD X.K) := by
  intro pins s σ H x xs v us Q I rx rxs h
  obtain ⟨a, y, d, ds, rfl, rfl, hl, hy, sl, sd, q⟩ := h
  cases rx
  cases rxs with
  | cons ry rt =>
    rename_i uy ut
    cases rt
    obtain ⟨bs, r1⟩ := Dp.reads I d y uy hy ry
    have hxs : PyData.canLayAll0 ds = true := SeqAt.canLay_of_shaped sl
    have hroom : X.A.units + 1 + min (PyData.depthAll ds) d.depth < cLine := room_in_shaped sd hu
    cases hl with
    | lst hs ha =>
      obtain ⟨its, rv, ⟨⟨cls, dd, data, sls⟩, n, ho, hc, hdn, hdt⟩, hlen⟩ := I.list hs
      simp only at hc hdt
      subst hc hdt
      obtain ⟨as, h4⟩ := Dp.readsAll I ds _ its ha rv
      have hmap : its.map (SeqAt.readOf s.heap) = ds := SeqAt.readsAll_map ds its as hxs h4
      refine call_meets PySem.F.slot_list_count ⟨_, ho, rfl⟩ PySem.F.entry_list_count (PySem.F.args_list_count_2 _ _)
        (SeqAt.list_countAt a its.toArray n dd sls uy (fun u => PyData.eqv (SeqAt.readOf s.heap u) d)) ⟨ho, SeqAt.items_eqAt (vs := its.toArray) (show ReadsAll s.heap its.toArray.toList ds as from h4) r1 hxs (SeqAt.canLay_of_shaped sd) hroom, ?_⟩
      refine ⟨.int (ds.countP (fun z => PyData.eqv z d) : Nat), H, I.tok _, ⟨s.toks, ?_⟩, q⟩
      have e : its.toArray.toList.countP (fun u => PyData.eqv (SeqAt.readOf s.heap u) d) = ds.countP (fun z => PyData.eqv z d) := by
        rw [← hmap, List.countP_map]
        rfl
      show Value.int ((its.toArray.toList.countP (fun u => PyData.eqv (SeqAt.readOf s.heap u) d) : Nat) : Int) s.toks = _
      rw [e]
end
end L2
namespace DV
open PySem L2 PyProof.Rows
section
variable {X : Cx} {K : PySem.W.Frag} {R : Option Addr} {L : Nat → Option (Addr × List V)} {E F F' H H' : Hp} {ρ ρ' : Env} {σ σ' : L2.St} {rs rs' : RS} {W : WX}
variable {S S' : List Nat} {tg it o e c : Expr} {hg : D → Env → Option Env} {g : TG} {pos p spos apos cpos : Pos} {te to : TE} {f h : Env → M RV} {wi : TI} {tb : TS} {body : List Stmt}
def gCountD : RV → RV → Option RV := fun x y => match itemsL x, y with
  | some ds, .d d => if SeqAt.shaped (.list ds) = true ∧ SeqAt.shaped d = true then some (.d (.int (ds.countP (fun z => PyData.eqv z d) : Nat))) else none
  | _, _ => none
theorem msem_countD : MSem K R (rCountD K) gCountD := fun F H0 H rs x y p q z Q s hx hy e k => by
  unfold gCountD at e
  cases e1 : itemsL p with
  | none => rw [e1] at e; cases e
  | some ds =>
    rw [e1] at e
    cases q with
    | d d =>
      by_cases hc : SeqAt.shaped (.list ds) = true ∧ SeqAt.shaped d = true
      · simp only [hc, and_self, if_true] at e
        cases e
        obtain ⟨a, vs, rfl, g1, g2⟩ := VR.isLL s hx e1
        exact ⟨a, y, d, ds, rfl, rfl, .lst g1 (Dp.monoA s.fin _ _ g2), Dp.mono s.fin _ _ hy, hc.1, hc.2, k _ F H s (Dp.int _)⟩
      · simp only [hc, if_false] at e
        cases e
    | b _ => cases e
    | n _ => cases e
    | gb _ => cases e
    | gn _ => cases e
    | row => cases e
theorem de_countD (hu : X.A.units + 65 < cLine) (ho : DE X R o to f) (he : DE X R e te h) (pe : PE X o to → PE X e te → PE X (.Call (.Attribute o "count" apos) [e] [] cpos) (tBM X.K "list" (rCountD X.K) to (tCons te tNil))) :
    DE X R (.Call (.Attribute o "count" apos) [e] [] cpos) (tBM X.K "list" (rCountD X.K) to (tCons te tNil)) (eMet gCountD f h) := ⟨pe ho.pe he.pe, esem_met msem_countD ho.sem he.sem⟩
/-! ### for -/
def loopX (tg : D → Env → Option Env) (body : Env → M (Except Ex Out)) : List D → Env → M (Except Ex Out)
  | [], ρ => ret (.ok (.nx ρ))
  | x :: xs, ρ => bnd (lft (tg x ρ)) fun ρ1 => bnd (body ρ1) fun o => match o with
    | .ok (.nx ρ2) => loopX tg body xs ρ2
    | .ok (.ct ρ2) => loopX tg body xs ρ2
    | .ok (.bk ρ2) => ret (.ok (.nx ρ2))
    | .ok (.rt r) => ret (.ok (.rt r))
    | .error e => ret (.error e)
def unlockX (ρ : Env) (lk : Option Nat) : Except Ex Out → Except Ex Out
  | .ok o => .ok (unlockO ρ lk o)
  | e => e
def xFor (fi : Env → M (List D × Option Nat)) (tg : D → Env → Option Env) (body : Env → M (Except Ex Out)) : Env → M (Except Ex Out) := fun ρ =>
  bnd (fi ρ) fun p => bnd (loopX tg body p.1 (lockE ρ p.2)) fun o => ret (unlockX ρ p.2 o)
theorem xssem_for {fi : Env → M (List D × Option Nat)} {gb : Env → M (Except Ex Out)} (hi0 : ISem K R wi fi) (hgs : GSem K R S g hg) (hb : XSSem K R W tb gb) : XSSem K R W (tFor wi g tb) (xFor fi hg gb) := fun L E F ρ σ rs H o rs' Dn r hf k ke => by
  have hi : ∀ (its : List DV.D) (lk : Option Nat) (rs1 : RS) (Rq : It → Hp → Prop), fi ρ rs = some ((its, lk), rs1) → (∀ J F' H', Step K R rs1 F H F' H' → IterOk K R E ρ σ H F' H' J its lk → Rq J H') → wi σ H Rq := fun its lk rs1 Rq e1 kk => hi0 L E ρ σ F H rs its lk rs1 Rq r e1 kk
  obtain ⟨⟨its, lk⟩, rs1, e1, hf1⟩ := bnd_some hf
  obtain ⟨o1, rs2, e2, hf2⟩ := bnd_some hf1
  obtain ⟨e3, q3⟩ := ret_some hf2
  subst q3
  refine hi its lk rs1 _ e1 fun J F1 H1 s1 ⟨G, Y, P, wk, pn, hG, hY⟩ => ?_
  obtain ⟨L2, E2, pd⟩ := pinned r s1 pn
  have fs1 := FStep.ofStep r s1
  have fin : ∀ ρ2 σ2 F2 H2, o1 = .ok (.nx ρ2) → FStep R E2 F1 F2 → Rel K R L2 E2 F2 ρ2 σ2 rs' H2 → Dn.nx σ2 H2 := fun ρ2 σ2 F2 H2 eo fs r2 => by
    subst eo
    exact k _ e3.symm σ2 F2 H2 (fs1.trans (fs.less pd.less)) (pd.back F2 ρ2 σ2 _ H2 fs r2)
  have finR : ∀ x v F2 F3 H3, o1 = .ok (.rt x) → FStep R E2 F1 F2 → Ret K R rs' E2 F2 F3 H3 v x → Dn.rt v H3 := fun x v F2 F3 H3 eo fs q => by
    subst eo
    refine k _ e3.symm v F3 H3 ⟨fs1.trans ((fs.trans q.fs).less pd.less), fun a o e => q.ex a o (pd.sub a o e), q.fr, q.row, q.rF, ?_⟩
    have hv := q.val
    cases x with
    | d y => exact hv
    | n ds =>
      obtain ⟨a, vs, z1, z2, z3, z4⟩ := hv
      exact ⟨a, vs, z1, z2, pd.less a z3, z4⟩
    | gb _ => exact hv.elim
    | gn _ =>
      obtain ⟨a, vs, z1, z2, z3, z4⟩ := hv
      exact ⟨a, vs, z1, z2, pd.less a z3, z4⟩
    | b ds => exact hv.elim
    | row => exact hv.elim
  have finE : ∀ er cls d σ3 F2 F3 H3, o1 = .error er → FStep R E2 F1 F2 → Sv K R rs' E2 F2 F3 H3 → XF K F3 cls d er → W cls d σ3 H3 := fun er cls d σ3 F2 F3 H3 eo fs q hx => by
    subst eo
    exact ke er e3.symm cls d σ3 F3 H3 ⟨fs1.trans ((fs.trans q.fs).less pd.less), fun a o e => q.ex a o (pd.sub a o e), q.fr, q.row, q.rF⟩ hx
  refine for_it wk (fun i σ' H' => ∃ F2 ρ2 rs3, FStep R E2 F1 F2 ∧ Rel K R L2 E2 F2 ρ2 σ' rs3 H' ∧ loopX hg gb (its.drop i) ρ2 rs3 = some (o1, rs')) ⟨F1, _, rs1, FStep.refl, pd.rel, e2⟩
    (fun i σ' H' hi ⟨F2, ρ2, rs3, fs, r2, _⟩ => hG H' (fun a o q => r2.ex a o (pd.pin a o q)) fun a o q => r2.fr a o (fs.sub a o q)) ?_ ?_
  · rintro i v σ' H2 H3 hi' ⟨F2, ρ2, rs3, fs, r2, el⟩ hy
    obtain ⟨x, F3, ex, s3, hd⟩ := hY.step hi' fs.sub r2.refl hy
    have er : its.drop i = x :: its.drop (i + 1) := by
      have hx : its[i] = x := by
        rw [List.getElem?_eq_getElem hi'] at ex
        exact Option.some.inj ex
      rw [← hx]
      exact List.drop_eq_getElem_cons hi'
    rw [er] at el
    obtain ⟨ρ3, rs4, e4, el1⟩ := bnd_some el
    obtain ⟨e5, q5⟩ := lft_some e4
    subst q5
    obtain ⟨o2, rs5, e6, el2⟩ := bnd_some el1
    have r3 := r2.step s3
    have fs3 := fs.trans (FStep.ofStep r2 s3)
    refine hgs L2 E2 F3 ρ2 σ' _ H3 v x ρ3 _ r3 hd e5 fun σ4 r4 _ => ?_
    refine hb L2 E2 F3 ρ3 σ4 _ H3 o2 rs5 _ r4 e6 (fun o3 eo => ?_) fun er2 eo cls d σ5 F5 H5 sv hx => ?_
    · subst eo
      cases o3 with
      | nx ρ5 => exact fun σ5 F5 H5 f5 r5 => ⟨F5, ρ5, rs5, fs3.trans f5, r5, el2⟩
      | ct ρ5 => exact fun σ5 F5 H5 f5 r5 => ⟨F5, ρ5, rs5, fs3.trans f5, r5, el2⟩
      | bk ρ5 =>
        obtain ⟨e7, q7⟩ := ret_some el2
        subst q7
        exact fun σ5 F5 H5 f5 r5 => fin ρ5 σ5 F5 H5 e7.symm (fs3.trans f5) r5
      | rt x =>
        obtain ⟨e7, q7⟩ := ret_some el2
        subst q7
        exact fun v5 F5 H5 q => finR x v5 F3 F5 H5 e7.symm fs3 q
    · subst eo
      obtain ⟨e7, q7⟩ := ret_some el2
      subst q7
      exact finE er2 cls d σ5 F3 F5 H5 e7.symm fs3 sv hx
  · rintro σ' H' ⟨F2, ρ2, rs3, fs, r2, el⟩
    rw [List.drop_length] at el
    obtain ⟨e7, q7⟩ := ret_some el
    subst q7
    exact fin ρ2 σ' F2 H' e7.symm fs r2
theorem dxs_for {fi : Env → M (List D × Option Nat)} {gb : Env → M (Except Ex Out)} (hp : PassesOwn (model X.prog X.w) X.A X.env X.xe) (hc : X.calm = true) (hi : DI X R tg it wi fi) (hg' : DG X R S tg g hg) (hb : DXSs X R W body tb gb)
    (hs : ∀ x, foldedSetIterable it X.env x = pure x := by intro _; rfl) : DXS X R W (.For tg it body [] pos) (tFor wi g tb) (xFor fi hg gb) := ⟨ps_for hp hc hi.pi hg'.pg hb.ps hs, xssem_for hi.sem hg'.sem hb.sem⟩
end
end DV

/-! DV: the written part's classes -/
namespace DV
open PySem L2 PyProof.Rows
section
variable {prog : Program} {K : PySem.W.Frag} {mg : Str → Option Value} {cn fld : Str}
def NmC (K : PySem.W.Frag) (mg : Str → Option Value) (cn : Str) : Prop := ∃ C, mg cn = some (.ref C) ∧ PySem.W.nsIn K mainGlobals cn = some (some (.ref C))
def ExOk (prog : Program) (K : PySem.W.Frag) (mg : Str → Option Value) (cn fld : Str) : Prop := ∃ C fI, PySem.ExX.ExTxt prog K mg cn fld C fI ∧ PySem.W.nsIn K mainGlobals cn = some (some (.ref C))
def Ex0Ok (K : PySem.W.Frag) (mg : Str → Option Value) (cn : Str) : Prop := ∃ C, Ex0Txt K mg cn C
def exB (K : PySem.W.Frag) (C fI : Addr) (fld : Str) : Bool :=
  decide (PySem.W.findIn K (.ref C) "__setattr__" = some (some (.builtin "object.__setattr__"))) && decide (PySem.W.findIn K (.ref C) fld = some none) && decide (PySem.W.typeIn K (.ref fI) = some (.type "function")) && PySem.W.keepIn K (.ref C) && decide (PySem.W.subIn K (.ref C) (.type "BaseException") = some true) &&
  decide (PySem.W.typeIn K (.ref C) = some (.type "type")) && decide (PySem.W.subIn K (.ref C) (.type "ValueError") = some true) && decide (PySem.W.mroIn K C (.ref C) = some true) && decide (PySem.W.ks_superIn K C C "__init__" = some (some (.builtin "ValueError.__init__"))) && decide (PySem.W.nsIn K PySem.cStatics "thirdparty.any" = some none)
theorem exOk_mk {C fI N Ca Cc : Addr} {nm q : Str} {bs bm sb : List Value} {sn : List Str} {ab : Bool} {co : Option Bool} {dd io ia kd ld : Option Addr} {k0 k1 k2 k3 k5 : Option Value} {ic id ip it kc lc : Value} {is ks ls : Array (Option Value)} {kv : Array Value} {fi : Str} {tf : Tok} {p1 p2 q1 q2 q3 q4 q5 q6 q7 q8 q9 q10 : Pos}
    (gC : mg cn = some (.ref C)) (nC : PySem.W.nsIn K mainGlobals cn = some (some (.ref C))) (L : K.lookup C = some (excClassObj nm q C N bs bm true sn sb ab co dd k0 k1 k2 k3 k5 "ValueError.__new__")) (R : PySem.HandSPX.refsVE bm = true) (J : PySem.W.findIn K (.ref C) "__init__" = some (some (.ref fI)))
    (B : exB K C fI fld = true) (ms : mg "super" = none) (zp : (prog.main.scope.names.lookup ("super" : Str)).isSome = false)
    (F : K.lookup fI = some ⟨ic, io, .func (PySem.W.ksFn "__init__" (cn ++ ".__init__") (PySem.ExX.iA fld p1 p2) (PySem.ExX.iB fld q1 q2 q3 q4 q5 q6 q7 q8 q9 q10) (PySem.ExX.iS fld) .none .none id ip ia (.ref Ca) it Cc), is⟩) (Q : PySem.W.codeIn K (.ref Ca) (cn ++ ".__init__") = true)
    (Kc : K.lookup Ca = some ⟨kc, kd, .fields kv, ks⟩) (V : kv[2]? = some (.str fi tf)) (W : ((prog.main.file : Str) == fi) = true) (Z : K.lookup Cc = some ⟨lc, ld, .cell (some (.ref C)), ls⟩) (ca : PySem.ExX.CallAt fld q1 q2 q3 q4 q5) (fo : PySem.ExX.FldOk fld) : ExOk prog K mg cn fld := by
  unfold exB at B
  simp only [Bool.and_eq_true, decide_eq_true_eq] at B
  obtain ⟨⟨⟨⟨⟨⟨⟨⟨⟨b1, b2⟩, b3⟩, b4⟩, b5⟩, b6⟩, b7⟩, b8⟩, b9⟩, b10⟩ := B
  exact ⟨C, fI, ⟨gC, ⟨_, _, _, _, _, _, _, _, _, _, _, _, _, _, _, L, R⟩, b1, b2, J, b3, b4, b5, b6, b7, b8, b9, b10, ms, zp, ⟨_, _, _, _, _, _, _, _, _, _, _, _, _, _, _, _, _, _, _, _, _, _, _, _, _, _, _, _, _, _, F, Q, Kc, V, W, Z, ca⟩, fo⟩, nC⟩
def ex0B (K : PySem.W.Frag) (C : Addr) : Bool :=
  PySem.W.excIn K C [.type "ValueError", .type "Exception", .type "BaseException", .type "object"] "ValueError.__new__" && PySem.W.keepIn K (.ref C) && decide (PySem.W.subIn K (.ref C) (.type "BaseException") = some true) && decide (PySem.W.typeIn K (.ref C) = some (.type "type"))
theorem ex0Ok_mk {C : Addr} (gC : mg cn = some (.ref C)) (nC : PySem.W.nsIn K mainGlobals cn = some (some (.ref C))) (B : ex0B K C = true) : Ex0Ok K mg cn := by
  unfold ex0B at B
  simp only [Bool.and_eq_true, decide_eq_true_eq] at B
  obtain ⟨⟨⟨b1, b2⟩, b3⟩, b4⟩ := B
  exact ⟨C, gC, nC, b1, b2, b3, b4⟩
end
/-! ### the suite's values -/
section
open Classical
theorem eIsX_at {names : List Str} {q : Q3} {e : Ex} {i : Nat} {b : Str → Bool} {ρ : Env} (h : ρ[i]? = some (some (.ex q e))) (hn : e.c ∈ names) : eIsX names q i b ρ = ret (.d (.bool (b e.c))) := by
  unfold eIsX
  rw [h]
  exact if_pos ⟨rfl, hn⟩
theorem eXf_at {names : List Str} {q : Q3} {c : Str} {f : Str} {x : D} {i : Nat} {ρ : Env} (h : ρ[i]? = some (some (.ex q ⟨c, some (f, x)⟩))) (hn : c ∈ names) : eXf names q i f ρ = ret (.d x) := by
  unfold eXf
  rw [h]
  show (if q = q ∧ c ∈ names then (if f = f then ret (RV.d x) else fail) else fail) = _
  rw [if_pos ⟨rfl, hn⟩, if_pos rfl]
end
end DV

/-! DV: defs by name: for f in [g, h]; f(..) -/
namespace DV
open PySem L2 PyProof.Rows
section
variable {X : Cx} {K : PySem.W.Frag} {R : Option Addr} {W : WX}
/-! ### the call -/
abbrev MT := List (Str × (List RV → M (Except Ex RV)))
def tCallV (K : PySem.W.Frag) (mg : Str → Option Value) (i np : Nat) (tb : MT) (E : L2.St → XK) (ta : TA) : TE := fun σ H Q =>
  ∃ (x : Str) (m : List RV → M (Except Ex RV)) (f : Addr), tb.lookup x = some m ∧ mg x = some (.ref f) ∧ σ[i]? = some (some (.ref f)) ∧ tCallS (spFnX K np m) E ta σ H Q
def xFnV (i np : Nat) (tb : MT) (fa : Env → M (List RV)) : Env → M (Except Ex RV) := fun ρ => match ρ[i]? with
  | some (some (.fn x)) => match tb.lookup x with
    | some m => xFn (fun xs => if xs.length = np then m xs else fail) fa ρ
    | none => fail
  | _ => fail
/-- each def of the table stands in the text -/
def TabOk (P : Program) (w : World) (K : PySem.W.Frag) (mg : Str → Option Value) (base : Heap) (k np : Nat) (tb : MT) : Prop := ∀ x m, tb.lookup x = some m → NmC K mg x ∧ ∃ k' ps, k' ≤ k ∧ CalX P w K mg base x k' ps np m
theorem tabOk_nil {P : Program} {w : World} {mg : Str → Option Value} {base : Heap} {k np : Nat} : TabOk P w K mg base k np [] := fun x m h => nomatch h
theorem tabOk_cons {P : Program} {w : World} {mg : Str → Option Value} {base : Heap} {k k' np : Nat} {x : Str} {ps : List Str} {m : List RV → M (Except Ex RV)} {tb : MT} (n : NmC K mg x) (hk : k' ≤ k) (c : CalX P w K mg base x k' ps np m) (t : TabOk P w K mg base k np tb) : TabOk P w K mg base k np ((x, m) :: tb) := fun y m2 h => by
  rw [List.lookup_cons] at h
  by_cases e : (y == x) = true
  · rw [e] at h
    cases h
    have := eq_of_beq e
    subst this
    exact ⟨n, k', ps, hk, c⟩
  · have e : (y == x) = false := by simpa using e
    rw [e] at h
    exact t y m2 h
theorem fn_slot {ρ : Env} {i : Nat} {tb : MT} {y : Except Ex RV} {rs rs' : RS} {k : (List RV → M (Except Ex RV)) → M (Except Ex RV)} (h : (match ρ[i]? with
  | some (some (.fn x)) => match tb.lookup x with
    | some m => k m
    | none => fail
  | _ => fail) rs = some (y, rs')) : ∃ x m, ρ[i]? = some (some (.fn x)) ∧ tb.lookup x = some m ∧ k m rs = some (y, rs') := by
  cases h1 : ρ[i]? with
  | none => rw [h1] at h; cases h
  | some o =>
    cases o with
    | none => rw [h1] at h; cases h
    | some sv =>
      rw [h1] at h
      cases sv with
      | fn x =>
        cases h2 : tb.lookup x with
        | none => simp only [h2] at h; cases h
        | some m => simp only [h2] at h; exact ⟨x, m, rfl, h2, h⟩
      | d _ => cases h
      | o _ => cases h
      | k _ => cases h
      | g _ => cases h
      | un => cases h
      | row => cases h
      | ex _ _ => cases h
theorem dx_callV {k k' np i : Nat} {tb : MT} {a : Str} {p pos : Pos} {e : Expr} {es : List Expr} {ta : TA} {fa : Env → M (List RV)} (T : TabOk X.prog X.w X.K X.mg X.base k np tb) (tk : Takes X W) (hr : Room k' X.A) (hk' : k ≤ k') (hN : X.N[i]? = some a) (hv : Vis X.env.scope a) (ha : DA X R (e :: es) ta fa)
    (hd : (a == ("__debug__" : Str)) = false := by decide) (hcd : (a == ("__classdict__" : Str)) = false := by decide) (he : starEach (e :: es) X.env = (false, eval e X.env) :: starEach es X.env := by rfl) (hpl : (backTo pos (starEach es X.env)).any (·.1) = false := by rfl) :
    DXE X R W (.Call (.Name a p) (e :: es) [] pos) (tCallV X.K X.mg i np tb (WE W) ta) (xFnV i np tb fa) := by
  refine ⟨⟨fun pins s σ H Q I h => ?_⟩, fun L E ρ σ F H rs y rs' Q r hf kk ke => ?_⟩
  · obtain ⟨x, m, f, hm, hg, hs, h⟩ := h
    obtain ⟨⟨_, _, _⟩, k1, ps, hk1, f1, fd, Fn, hg1, hkp, hb⟩ := T x m hm
    rw [hg] at hg1
    cases hg1
    refine wpAny_Call_Name_kw (thn ((pe_var (pos := p) (i := i) hN hv hd hcd).run pins s σ H (fun v H1 => v = .ref f ∧ H1 = H) I ⟨.ref f, hs, rfl, rfl⟩) fun u s1 ⟨v, H1, I1, r1, q1⟩ => ?_)
    obtain ⟨ev, eH⟩ := q1
    subst ev
    rw [eH] at I1
    obtain rfl : u = Value.ref f := r1
    refine PySem.W.callWith_K (h₀ := X.base) I1.ok.mod.kin hkp (thn (ha.pa.run pos pins s1 σ H _ I1 h) fun us s2 ⟨vs, H2, I2, r2, q2⟩ => ⟨I2.kIn, ?_⟩) he hpl
    exact run_fnS Fn (hr.mono (Nat.le_trans hk1 hk')) hb (passAt tk σ) I2 r2 q2
  · obtain ⟨x, m, hx, hm, hf⟩ := fn_slot (k := fun m => xFn (fun xs => if xs.length = np then m xs else fail) fa ρ) hf
    obtain ⟨v, ev, f, hn, rfl⟩ := r.sl i _ hx
    obtain ⟨⟨C, hg, hn2⟩, k1, ps, hk1, f1, fd, Fn, hg1, hkp, hb⟩ := T x m hm
    rw [hn] at hn2
    cases hn2
    obtain ⟨xs, rs1, e1, hf1⟩ := bnd_some hf
    refine ⟨x, m, f, hm, hg, ev, ha.sem L E ρ σ F H rs xs rs1 _ r e1 fun vs F1 H1 s1 h1 => ?_⟩
    have hf1 : (if (xs.map readable).length = np then m (xs.map readable) else fail) rs1 = some (y, rs') := hf1
    have hl : (xs.map readable).length = np := by
      by_cases hl : (xs.map readable).length = np
      · exact hl
      · rw [if_neg hl] at hf1; cases hf1
    rw [if_pos hl] at hf1
    exact ⟨R, F1, rs1, _, y, rs', (r.step s1).refl, h1.readable, hl, hf1, fun z ez v F2 H2 s2 h2 => kk z ez v F2 H2 (s1.trans r.row s2) (h2.older fun a q => s1.back r.row q), fun z ez cls d F2 H2 s2 xf => ke z ez cls d F2 H2 (s1.trans r.row s2) xf⟩
/-! ### the loop -/
def sForFn (i : Nat) (body : Env → M Out) : List Str → Env → M Out
  | [], ρ => ret (.nx ρ)
  | x :: xs, ρ => bnd (body (ρ.set i (some (.fn x)))) fun o => match o with
    | .nx ρ2 => sForFn i body xs ρ2
    | .ct ρ2 => sForFn i body xs ρ2
    | .bk ρ2 => ret (.nx ρ2)
    | .rt r => ret (.rt r)
def FnsAt (K : PySem.W.Frag) : List Addr → List Str → Prop
  | [], [] => True
  | f :: fs, x :: xs => PySem.W.nsIn K mainGlobals x = some (some (.ref f)) ∧ FnsAt K fs xs
  | _, _ => False
theorem FnsAt.len : ∀ {fs : List Addr} {xs : List Str}, FnsAt K fs xs → fs.length = xs.length
  | [], [], _ => rfl
  | f :: fs, x :: xs, h => congrArg (· + 1) (FnsAt.len h.2)
  | [], _ :: _, h => h.elim
  | _ :: _, [], h => h.elim
theorem FnsAt.get : ∀ {fs : List Addr} {xs : List Str}, FnsAt K fs xs → ∀ (i : Nat) (f : Addr), fs[i]? = some f → ∃ x, xs[i]? = some x ∧ PySem.W.nsIn K mainGlobals x = some (some (.ref f))
  | [], [], _, i, f, h => nomatch h
  | f :: fs, x :: xs, h, 0, g, e => by cases e; exact ⟨x, rfl, h.1⟩
  | f :: fs, x :: xs, h, i + 1, g, e => FnsAt.get h.2 i g e
  | [], _ :: _, h, _, _, _ => h.elim
  | _ :: _, [], h, _, _, _ => h.elim
theorem ssem_forFn {i : Nat} {fs : List Addr} {xs : List Str} {ta : TA} {tb : TS} {gb : Env → M Out} (hta : ∀ σ H Q, Q (fs.map V.ref) H → ta σ H Q) (hx : FnsAt K fs xs) (hl : fs.length ≤ sizeLine) (hb : SSem K R tb gb) : SSem K R (tFor (iSeqK K (tLst ta)) (gName i) tb) (sForFn i gb xs) := fun L E F ρ σ rs H o rs' D r hf k => by
  refine hta σ H _ ⟨by rw [List.length_map]; exact hl, fun p hp => ?_⟩
  generalize hvs : fs.map V.ref = vs
  have hpF : F p = none := by
    cases e : F p with
    | none => rfl
    | some u => have := r.fr p u e; rw [hp] at this; cases this
  have hpR : some p ≠ R := fun z => by
    obtain ⟨a, e, _⟩ := r.row.at_ p z.symm
    rw [hp] at e; cases e
  have s1 : Step K R rs F H F (upd H p (.lst vs)) := Step.new_o r.refl hp
  have pn : PinOk K R E F H (upd H p (.lst vs)) ρ σ none fun b => if b = p then some (.lst vs) else none := fun b o e => by
    by_cases hb : b = p
    · subst hb
      have e' : (if b = b then some (HO.lst vs) else none) = some o := e
      rw [if_pos rfl] at e'
      cases e'
      exact ⟨upd_same, hpR, .lst, .inl ⟨hp, hpF⟩⟩
    · have e' : (if b = p then some (HO.lst vs) else none) = some o := e
      rw [if_neg hb] at e'
      cases e'
  refine ⟨.l, p, vs, rfl, .inl (.inl upd_same), ?_⟩
  obtain ⟨L2, E2, pd⟩ := pinned r s1 pn
  have fs1 := FStep.ofStep r s1
  have fin : ∀ ρ2 σ2 F2 H2, o = .nx ρ2 → FStep R E2 F F2 → Rel K R L2 E2 F2 ρ2 σ2 rs' H2 → D.nx σ2 H2 := fun ρ2 σ2 F2 H2 eo f2 r2 => by
    subst eo
    exact k σ2 F2 H2 (fs1.trans (f2.less pd.less)) (pd.back F2 ρ2 σ2 _ H2 f2 r2)
  have finR : ∀ x v F2 F3 H3, o = .rt x → FStep R E2 F F2 → Ret K R rs' E2 F2 F3 H3 v x → D.rt v H3 := fun x v F2 F3 H3 eo f2 q => by
    subst eo
    refine k v F3 H3 ⟨fs1.trans ((f2.trans q.fs).less pd.less), fun a o e => q.ex a o (pd.sub a o e), q.fr, q.row, q.rF, ?_⟩
    have hv := q.val
    cases x with
    | d y => exact hv
    | n ds =>
      obtain ⟨a, vs, z1, z2, z3, z4⟩ := hv
      exact ⟨a, vs, z1, z2, pd.less a z3, z4⟩
    | gb _ => exact hv.elim
    | gn c =>
      obtain ⟨a, vs, z1, z2, z3, z4⟩ := hv
      exact ⟨a, vs, z1, z2, pd.less a z3, z4⟩
    | b ds => exact hv.elim
    | row => exact hv.elim
  have hln : xs.length = vs.length := by rw [← hvs, List.length_map, hx.len]
  refine for_it (walk_seqK .l (K := K) (a := p) (xs := vs)) (fun j σ' H' => ∃ F2 ρ2 rs3, FStep R E2 F F2 ∧ Rel K R L2 E2 F2 ρ2 σ' rs3 H' ∧ sForFn i gb (xs.drop j) ρ2 rs3 = some (o, rs')) ⟨F, _, rs, FStep.refl, pd.rel, hf⟩
    (fun j σ' H' hj ⟨F2, ρ2, rs3, f2, r2, _⟩ => .inl (.inl (r2.ex p _ (pd.pin p _ (if_pos rfl))))) ?_ ?_
  · rintro j v σ' H2 H3 hj ⟨F2, ρ2, rs3, f2, r2, el⟩ ⟨rfl, hy⟩
    have hj2 : j < fs.length := by rw [← hvs, List.length_map] at hj; exact hj
    obtain ⟨x, ex, hn⟩ := hx.get j _ (List.getElem?_eq_getElem hj2)
    have hv : v = V.ref fs[j] := by
      rw [← hvs, List.getElem?_map, List.getElem?_eq_getElem hj2] at hy
      exact (Option.some.inj hy).symm
    subst hv
    have hjx : j < xs.length := by omega
    have er : xs.drop j = x :: xs.drop (j + 1) := by
      rw [List.getElem?_eq_getElem hjx] at ex
      rw [← Option.some.inj ex]
      exact List.drop_eq_getElem_cons hjx
    rw [er] at el
    obtain ⟨o2, rs5, e6, el2⟩ := bnd_some el
    have r4 := r2.put i (.fn x) (.ref fs[j]) ⟨_, hn, rfl⟩ (fun b z => (z : False).elim)
    refine hb L2 E2 F2 _ _ rs3 _ o2 rs5 _ r4 e6 ?_
    cases o2 with
    | nx ρ5 => exact fun σ5 F5 H5 f5 r5 => ⟨F5, ρ5, rs5, f2.trans f5, r5, el2⟩
    | ct ρ5 => exact fun σ5 F5 H5 f5 r5 => ⟨F5, ρ5, rs5, f2.trans f5, r5, el2⟩
    | bk ρ5 =>
      obtain ⟨e7, q7⟩ := ret_some el2
      subst q7
      exact fun σ5 F5 H5 f5 r5 => fin ρ5 σ5 F5 H5 e7.symm (f2.trans f5) r5
    | rt x =>
      obtain ⟨e7, q7⟩ := ret_some el2
      subst q7
      exact fun v5 F5 H5 q => finR x v5 F2 F5 H5 e7.symm f2 q
  · rintro σ' H' ⟨F2, ρ2, rs3, f2, r2, el⟩
    rw [← hln, List.drop_length] at el
    obtain ⟨e7, q7⟩ := ret_some el
    subst q7
    exact fin ρ2 σ' F2 H' e7.symm f2 r2
theorem ds_forFn {i : Nat} {a : Str} {p1 p2 pos : Pos} {es : List Expr} {body : List Stmt} {fs : List Addr} {xs : List Str} {ta : TA} {tb : TS} {gb : Env → M Out} (hp : PassesOwn (model X.prog X.w) X.A X.env X.xe) (hc : X.calm = true) (hpa : PA X es ta) (hta : ∀ σ H Q, Q (fs.map V.ref) H → ta σ H Q) (hx : FnsAt X.K fs xs) (hl : fs.length ≤ 50) (hg : PG X (.Name a p1) (gName i)) (hb : DSs X R body tb gb)
    (hs : ∀ x, foldedSetIterable (.List es p2) X.env x = pure x := by intro _; rfl) : DS X R (.For (.Name a p1) (.List es p2) body [] pos) (tFor (iSeqK X.K (tLst ta)) (gName i) tb) (sForFn i gb xs) :=
  ⟨ps_for hp hc (pi_seqK (pe_lst hpa)) hg hb.ps hs, ssem_forFn hta hx (Nat.le_trans hl (sz_of (by decide))) hb.sem⟩
end
end DV

/-! DV: try: f(..) / except x as e: return .. -/
namespace DV
open PySem L2 PyProof.Rows PySem.Spec
section
variable {X : Cx} {K : PySem.W.Frag} {R : Option Addr} {names : List Str}
/-- the call ends: on; it raises: what sv says of the error is given back -/
def sTryRet (n : Nat) (fx : Env → M (Except Ex RV)) (sv : Ex → Option D) : Env → M Out := fun ρ => if ρ.length = n then bnd (fx ρ) fun r => match r with
  | .ok _ => ret (.nx ρ)
  | .error e => bnd (lft (sv e)) fun d => ret (.rt (.d d))
  else fail
def tTryRet (K : PySem.W.Frag) (CS : Addr) (i : Nat) (ts : Q3 → TS) (te : WX → TE) : TS := fun D σ H =>
  te (wAs K (.ref CS) i (fun a cls d => ts ⟨a, cls, d⟩) (fun _ _ _ _ => False) D) σ H fun _ H' => D.nx σ H'
theorem ds_tryRet {i n : Nat} {eS en : Str} {CS : Addr} {e : Expr} {te : WX → TE} {fx : Env → M (Except Ex RV)} {ts : Q3 → TS} {gs : Q3 → Env → M Out} {sv : Ex → Option D} {b₀ : Stmt} {suite : List Stmt} {p3 p4 p5 p6 : Pos}
    (hs : X.stack = X.env :: X.outer) (hf : X.env.frame = some X.env.locals) (hN : X.N.Nodup) (hi : X.N[i]? = some en) (hln : X.env.kindOf en = some .local)
    (hge : Gl X eS) (hme : X.mg eS = some (.ref CS)) (hde : (eS == ("__debug__" : Str)) = false) (T : ClsTab X.K names eS) (hnS : PySem.W.nsIn X.K mainGlobals eS = some (some (.ref CS)))
    (hb : ∀ (W : WX) (pn : List (Addr × Obj)) (xe : Value → Shared → Prop), Takes (X.tr pn xe) W → DXE (X.tr pn xe) R W e (te W) fx)
    (hsu : ∀ (q' : Q3) (oe : Obj) (pn : List (Addr × Obj)), Zc q'.cls q'.d oe → (∃ vs, oe.data = .fields vs) → DSs (X.suite q'.a ((q'.a, oe) :: pn)) R (b₀ :: suite) (ts q') (gs q'))
    (hsn : ∀ e d, sv e = some d → e.c ∈ names) (hsv : ∀ (q' : Q3) (e : Ex) (d : D) (rs : RS), sv e = some d → gs q' ((List.replicate n none).set i (some (.ex q' e))) rs = some (.rt (.d d), rs))
    (hsw : ∀ pn xe, swapsWith e none p3.line (X.tr pn xe).env = pure false := by intro _ _; rfl) :
    DS X R (.Try [.Expr e p3] [.ExceptHandler (some (.Name eS p4)) (some en) (b₀ :: suite) p5] [] [] p6) (tTryRet X.K CS i ts te) (sTryRet n fx sv) := by
  refine ⟨ps_try_as (c := .ref CS) (i := i) (ts := fun a cls d => ts ⟨a, cls, d⟩) (Wout := fun _ _ _ _ => False) (tb := fun W D σ H => te W σ H fun _ H' => D.nx σ H') hs hf hN hi hln ⟨hge, hde, .inl hme⟩ L2.takes0
    (fun W pn xe tk _ => ⟨fun pins s σ H D I h => (pss_one (ps_expr (pos := p3) (hb W pn xe tk).pe (hsw pn xe))).run pins s σ H D I h⟩) (fun a oe cls d pn hz hf => (hsu ⟨a, cls, d⟩ oe pn hz hf).ps), fun L E F ρ σ rs H o rs' D r hf k => ?_⟩
  have hf : (if ρ.length = n then bnd (fx ρ) (fun r => match r with
    | .ok _ => ret (.nx ρ)
    | .error e => bnd (lft (sv e)) fun d => ret (.rt (.d d))) else fail) rs = some (o, rs') := hf
  by_cases hl : ρ.length = n
  · rw [if_pos hl] at hf
    obtain ⟨y, rs1, e1, hf1⟩ := bnd_some hf
    refine (hb (wAs X.K (.ref CS) i (fun a cls d => ts ⟨a, cls, d⟩) (fun _ _ _ _ => False) D) [] (fun _ _ => True) (fun _ _ _ => trivial)).sem L E ρ σ F H rs y rs1 _ r e1 (fun z ez v F1 H1 s1 hv => ?_) fun er ee cls d F1 H1 s1 hx => ?_
    · subst ez
      obtain ⟨e2, q2⟩ := ret_some hf1
      subst e2 q2
      exact k σ F1 H1 (FStep.ofStep r s1) (r.step s1)
    · subst ee
      obtain ⟨dd, rs2, e2, hf2⟩ := bnd_some hf1
      obtain ⟨e3, q3⟩ := lft_some e2
      obtain ⟨e4, q4⟩ := ret_some hf2
      subst e4 q4 q3
      have hn := hsn _ _ e3
      obtain ⟨D', hD, _⟩ := T.each _ hn
      have ecls : cls = .ref D' := by
        have := hx.1
        rw [hD] at this
        exact (Option.some.inj (Option.some.inj this)).symm
      refine ⟨true, by rw [ecls]; exact T.exm _ hn D' CS hD hnS, fun _ a ha => ?_, fun z => nomatch z⟩
      have r0 := Rel.bare (r.step s1).refl σ
      have hsl : σ.length = n := r.len.symm.trans hl
      rw [hsl] at r0
      have r1 := r0.put i (.ex ⟨a, cls, d⟩ er) (.ref a) ⟨rfl, hx⟩ (fun b z => (z : False).elim)
      refine (hsu ⟨a, cls, d⟩ { cls := cls, dict := d, data := .fields #[] } [] ⟨rfl, rfl⟩ ⟨_, rfl⟩).sem _ _ F1 _ _ _ H1 _ _ _ r1 (hsv ⟨a, cls, d⟩ er dd _ e3) ?_
      intro v F2 H2 q
      have s3 := Ret.step (r.step s1).refl q
      exact k v F2 H2 (Ret.of (x := .d dd) r (s1.trans r.row s3) q.val rfl)
  · rw [if_neg hl] at hf
    cases hf
end
end DV

/-! DV: a def without parameters called -/
namespace DV
open PySem L2 PyProof.Rows
section
variable {X : Cx} {R : Option Addr}
theorem de_call0 {k : Nat} {ps : List Str} {np : Nat} {m : List RV → M RV} {x : Str} {k' : Nat} {p pos : Pos} (C : Cal X.prog X.w X.K X.mg X.base x k ps np m) (hr : Room k' X.A) (hk' : k ≤ k') (hgl : Gl X x) (hdb : (x == ("__debug__" : Str)) = false := by decide) :
    DE X R (.Call (.Name x p) [] [] pos) (tCall (spFn X.K np m) [] E0 tNil) (eFn (fun xs => if xs.length = np then m xs else fail) aNil) := by
  obtain ⟨f, fd, Fn, hm, hk, hb⟩ := C
  refine ⟨pe_call0 Fn (hr.mono hk') hgl hm hk hb .nil pass0 hdb, fun L E ρ σ F H rs y rs' Q r hf kk => ?_⟩
  obtain ⟨xs, rs1, e1, hf1⟩ := bnd_some hf
  refine da_nil.sem (X := X) L E ρ σ F H rs xs rs1 _ r e1 fun vs F1 H1 s1 h1 => ?_
  have hf1 : (if (xs.map readable).length = np then m (xs.map readable) else fail) rs1 = some (y, rs') := hf1
  have hl : (xs.map readable).length = np := by
    by_cases hl : (xs.map readable).length = np
    · exact hl
    · rw [if_neg hl] at hf1; cases hf1
  rw [if_pos hl] at hf1
  rw [List.append_nil]
  exact ⟨R, F1, rs1, _, y, rs', (r.step s1).refl, h1.readable, hl, hf1, fun v F2 H2 s2 h2 => kk v F2 H2 (s1.trans r.row s2) (h2.older fun a q => s1.back r.row q)⟩
end
end DV

/-! the defs that raise, shared by many laws (printed by genx.py) -/
namespace DVL
open PySem L2 DV
def gx_need_order : DV.Env → M (Except Ex Out) :=
  (xIf (tNotF (eT (eFn (fun xs => if xs.length = 2 then m_is_order xs else fail) (aCons (eVar 0) (aCons (eVar 1) aNil))))) (xRaise0 "BadOrder") (xOk sNil))
def mx_need_order : List RV → M (Except Ex RV) := runDefX 2 gx_need_order
def gx_need_times : DV.Env → M (Except Ex Out) :=
  (xSeq (xIf (tNotF (eT (eFn (fun xs => if xs.length = 3 then m_is_list xs else fail) (aCons (eVar 0) (aCons (eC (.int 1)) (aCons (eC (.int 10)) aNil)))))) (xRaise1 "BadTimes" "index" (eC .none)) (xOk sNil))
  (xSeq (xOk (sSet 1 (eFn (fun xs => if xs.length = 4 then m_first_bad xs else fail) (aCons (eVar 0) (aCons (eCall gLen (aCons (eVar 0) aNil)) (aCons (eC (.int 1)) (aCons (eC (.int 60)) aNil)))))))
  (xIf (eT (e2 gNe (eVar 1) (eNeg (eC (.int 1))))) (xRaise1 "BadTimes" "index" (eVar 1)) (xOk sNil))))
def mx_need_times : List RV → M (Except Ex RV) := runDefX 2 gx_need_times
def gx_need_weights : DV.Env → M (Except Ex Out) :=
  (xSeq (xOk (sSet 2 (eFn (fun xs => if xs.length = 4 then m_first_bad xs else fail) (aCons (eVar 0) (aCons (eVar 1) (aCons (eC (.int 0)) (aCons (eC (.int 60)) aNil)))))))
  (xIf (eT (e2 gNe (eVar 2) (eNeg (eC (.int 1))))) (xRaise1 "BadWeights" "index" (eVar 2)) (xOk sNil)))
def mx_need_weights : List RV → M (Except Ex RV) := runDefX 3 gx_need_weights
def gx_need_weighed : DV.Env → M (Except Ex Out) :=
  (xSeq (xDrop (xFn (fun xs => if xs.length = 1 then mx_need_times xs else fail) (aCons (eVar 0) aNil)))
  (xDrop (xFn (fun xs => if xs.length = 2 then mx_need_weights xs else fail) (aCons (eVar 1) (aCons (eCall gLen (aCons (eVar 0) aNil)) aNil)))))
def mx_need_weighed : List RV → M (Except Ex RV) := runDefX 2 gx_need_weighed
def gx_need_dues : DV.Env → M (Except Ex Out) :=
  (xSeq (xOk (sSet 2 (eFn (fun xs => if xs.length = 4 then m_first_bad xs else fail) (aCons (eVar 0) (aCons (eVar 1) (aCons (eC (.int 0)) (aCons (eC (.int 600)) aNil)))))))
  (xIf (eT (e2 gNe (eVar 2) (eNeg (eC (.int 1))))) (xRaise1 "BadDues" "index" (eVar 2)) (xOk sNil)))
def mx_need_dues : List RV → M (Except Ex RV) := runDefX 3 gx_need_dues
def gx_need_due : DV.Env → M (Except Ex Out) :=
  (xSeq (xDrop (xFn (fun xs => if xs.length = 1 then mx_need_times xs else fail) (aCons (eVar 0) aNil)))
  (xDrop (xFn (fun xs => if xs.length = 2 then mx_need_dues xs else fail) (aCons (eVar 1) (aCons (eCall gLen (aCons (eVar 0) aNil)) aNil)))))
def mx_need_due : List RV → M (Except Ex RV) := runDefX 2 gx_need_due
def gx_need_starts : DV.Env → M (Except Ex Out) :=
  (xSeq (xOk (sSet 2 (eFn (fun xs => if xs.length = 4 then m_first_bad xs else fail) (aCons (eVar 0) (aCons (eVar 1) (aCons (eC (.int 0)) (aCons (eC (.int 600)) aNil)))))))
  (xIf (eT (e2 gNe (eVar 2) (eNeg (eC (.int 1))))) (xRaise1 "BadStarts" "index" (eVar 2)) (xOk sNil)))
def mx_need_starts : List RV → M (Except Ex RV) := runDefX 3 gx_need_starts
end DVL

namespace Lk40
open PySem L2 DV
def top (i : Nat) : Stmt := PySem.Challenge.pw_shoporders_k40_whole_unit_jobs_in_any_or.main.body.getD i (.Pass ⟨0, 0, 0, 0⟩)
abbrev s__law_taken : Stmt := top 14
abbrev s_is_integer : Stmt := top 1
abbrev s_is_in : Stmt := top 2
abbrev s_unit_open : Stmt := top 12
abbrev s_bound_in : Stmt := top 11
abbrev s_is_list : Stmt := top 3
abbrev s_need_table : Stmt := top 9
abbrev s_open_bound : Stmt := top 10
abbrev s__law_pick : Stmt := top 15
abbrev s__law_refused : Stmt := top 16
abbrev s_law : Stmt := top 17
structure Txt (mg : Str → Option Value) : Prop where
  b_all : mg "all" = none
  b_bool : mg "bool" = none
  b_enumerate : mg "enumerate" = none
  b_int : mg "int" = none
  b_isinstance : mg "isinstance" = none
  b_len : mg "len" = none
  b_list : mg "list" = none
  b_max : mg "max" = none
  b_range : mg "range" = none
  b_set : mg "set" = none
  b_sorted : mg "sorted" = none
  b_sum : mg "sum" = none
  b_tuple : mg "tuple" = none
  c_MOST_TIME : ∃ tk, mg "MOST_TIME" = some (.int 60 tk)
section
variable {P : Program} {w : World} {K : PySem.W.Frag} {mg : Str → Option Value} {base : Heap}
/-! ### _law_taken -/
abbrev nm__law_taken : List Str := ["_law_row", "_law_many", "_law_found", "_law_cell"]
theorem sc__law_taken : FnScope nm__law_taken ["_law_row", "_law_many"] (defScope s__law_taken) := ⟨rfl, rfl, rfl, by decide +kernel, rfl, by decide +kernel, by decide +kernel⟩
abbrev g__law_taken : DV.Env → M Out := DVL.g__law_taken
abbrev m__law_taken : List RV → M RV := DVL.m__law_taken
theorem ok__law_taken {f : Addr} {fd : FuncData} (F : Fun K "_law_taken" "_law_taken" s__law_taken f fd) (T : Txt mg)  : FnOk P w K mg base CX0 1 f fd ["_law_row", "_law_many"] (spFn K 2 m__law_taken) := by
  have sc := sc__law_taken
  have e : spFn K 2 m__law_taken = spFn K (["_law_row", "_law_many"] : List Str).length (runDef nm__law_taken.length g__law_taken) := rfl
  rw [e]
  refine fn_ok (P := P) (w := w) (mg := mg) (base := base) (k := 0) (g := g__law_taken) F sc ?_
  intro R cdv A outer s H E hcd hr
  exact ⟨_, (dss_cons (ds_if (dt_cmp (r := (rI0 fun i j => .bl (decide (j < i)))) op_gt rs_gt (de_row 0 3 (de_var 0)) de_int (nomark _)) (dss_cons (ds_set (i := 2) sc.nd (by rfl) (by first | exact Or.inl rfl | exact Or.inr rfl) (de_op (r := (rI (fun _ j => 0 < j) fun i j => .int (i % j))) op_mod rs_mod (de_callTy (r := (fun xs H Q => (∃ i, xs = [.int i] ∧ Q (.int i) H) ∨ ∃ k, xs = [.bl k] ∧ Q (.int (if k then 1 else 0)) H)) call_int1 csem_int (by rfl) T.b_int PyProof.Rows.boot_int (da_cons (de_row 0 3 (de_var 0)) da_nil)) (de_var 1)))
    (dss_cons (ds_rowPut 0 3 (de_op (r := (rI CDiv fun i j => .int (i / j))) op_fdiv rs_fdiv (de_row 0 3 (de_var 0)) (de_var 1)) (de_var 0) (pg_sub (pv 0) pe_int set_list))
    (dss_one (ds_retV 2)))) dss_nil)
    (dss_cons (ds_rowPut 0 1 (de_op (r := (rAddA K)) op_addA rsem_add (de_row 0 1 (de_var 0)) de_int) (de_var 0) (pg_sub (pv 0) pe_int set_list))
    (dss_cons (ds_if (dt_cmp (r := (rI0 fun i j => .bl (decide (j < i)))) op_gt rs_gt (de_row 0 1 (de_var 0)) (de_callB (r := (DV.rLen K)) call_len_seq csem_len (by rfl) T.b_len PySem.boot_len (da_cons (de_row 0 0 (de_var 0)) da_nil)) (nomark _)) (dss_cons (ds_rowPut 0 2 (de_op (r := (rI (fun _ j => 0 < j) fun i j => .int (i % j))) op_mod rs_mod (de_callTy (r := (fun xs H Q => (∃ i, xs = [.int i] ∧ Q (.int i) H) ∨ ∃ k, xs = [.bl k] ∧ Q (.int (if k then 1 else 0)) H)) call_int1 csem_int (by rfl) T.b_int PyProof.Rows.boot_int (da_cons (de_op (r := (rAddA K)) op_addA rsem_add (de_op (r := (rMulA K)) op_mulA rsem_mul (de_row 0 2 (de_var 0)) de_int) de_int) da_nil)) de_int) (de_var 0) (pg_sub (pv 0) pe_int set_list))
    (dss_one (ds_ret (de_op (r := (rI (fun _ j => 0 < j) fun i j => .int (i % j))) op_mod rs_mod (de_callTy (r := (fun xs H Q => (∃ i, xs = [.int i] ∧ Q (.int i) H) ∨ ∃ k, xs = [.bl k] ∧ Q (.int (if k then 1 else 0)) H)) call_int1 csem_int (by rfl) T.b_int PyProof.Rows.boot_int (da_cons (de_op (r := (rI CDiv fun i j => .int (i / j))) op_fdiv rs_fdiv (de_row 0 2 (de_var 0)) de_int) da_nil)) (de_var 1))))) dss_nil)
    (dss_cons (ds_set (i := 3) sc.nd (by rfl) (by first | exact Or.inl rfl | exact Or.inr rfl) (de_ix (de_row 0 0 (de_var 0)) (de_op (r := (rI0 fun i j => .int (i - j))) op_sub rs_sub (de_row 0 1 (de_var 0)) de_int)))
    (dss_cons (ds_rowPut 0 2 (de_op (r := (rI (fun _ j => 0 < j) fun i j => .int (i % j))) op_mod rs_mod (de_callTy (r := (fun xs H Q => (∃ i, xs = [.int i] ∧ Q (.int i) H) ∨ ∃ k, xs = [.bl k] ∧ Q (.int (if k then 1 else 0)) H)) call_int1 csem_int (by rfl) T.b_int PyProof.Rows.boot_int (da_cons (de_op (r := (rAddA K)) op_addA rsem_add (de_op (r := (rAddA K)) op_addA rsem_add (de_op (r := (rMulA K)) op_mulA rsem_mul (de_row 0 2 (de_var 0)) de_int) (de_var 3)) de_int) da_nil)) de_int) (de_var 0) (pg_sub (pv 0) pe_int set_list))
    (dss_cons (ds_if (dt_cmp (r := (rI0 fun i j => .bl (decide (j ≤ i)))) op_ge rs_ge (de_var 3) (de_op (r := (rI CPow fun i j => .int (i ^ j.toNat))) op_pow rs_pow de_int de_int) (nomark _)) (dss_one (ds_rowPut 0 3 (de_op (r := (rI CDiv fun i j => .int (i / j))) op_fdiv rs_fdiv (de_var 3) (de_var 1)) (de_var 0) (pg_sub (pv 0) pe_int set_list))) dss_nil)
    (dss_one (ds_ret (de_op (r := (rI (fun _ j => 0 < j) fun i j => .int (i % j))) op_mod rs_mod (de_callTy (r := (fun xs H Q => (∃ i, xs = [.int i] ∧ Q (.int i) H) ∨ ∃ k, xs = [.bl k] ∧ Q (.int (if k then 1 else 0)) H)) call_int1 csem_int (by rfl) T.b_int PyProof.Rows.boot_int (da_cons (de_var 3) da_nil)) (de_var 1))))))))))⟩
/-! ### is_integer -/
abbrev nm_is_integer : List Str := ["value"]
theorem sc_is_integer : FnScope nm_is_integer ["value"] (defScope s_is_integer) := ⟨rfl, rfl, rfl, by decide +kernel, rfl, by decide +kernel, by decide +kernel⟩
abbrev g_is_integer : DV.Env → M Out := DVL.g_is_integer
abbrev m_is_integer : List RV → M RV := DVL.m_is_integer
theorem ok_is_integer {f : Addr} {fd : FuncData} (F : Fun K "is_integer" "is_integer" s_is_integer f fd) (T : Txt mg)  : FnOk P w K mg base CX0 1 f fd ["value"] (spFn K 1 m_is_integer) := by
  have sc := sc_is_integer
  have e : spFn K 1 m_is_integer = spFn K (["value"] : List Str).length (runDef nm_is_integer.length g_is_integer) := rfl
  rw [e]
  refine fn_ok (P := P) (w := w) (mg := mg) (base := base) (k := 0) (g := g_is_integer) F sc ?_
  intro R cdv A outer s H E hcd hr
  exact ⟨_, (dss_one (ds_ret (de_and (de_isT .int (by rfl) T.b_isinstance (by rfl) T.b_int (by decide +kernel) (de_var 0)) (de_one (de_not (de_isT .bool (by rfl) T.b_isinstance (by rfl) T.b_bool (by decide +kernel) (de_var 0)))))))⟩
/-! ### is_in -/
abbrev nm_is_in : List Str := ["value", "least", "most"]
theorem sc_is_in : FnScope nm_is_in ["value", "least", "most"] (defScope s_is_in) := ⟨rfl, rfl, rfl, by decide +kernel, rfl, by decide +kernel, by decide +kernel⟩
abbrev g_is_in : DV.Env → M Out := DVL.g_is_in
abbrev m_is_in : List RV → M RV := DVL.m_is_in
theorem ok_is_in {f : Addr} {fd : FuncData} (F : Fun K "is_in" "is_in" s_is_in f fd) (T : Txt mg) (C_is_integer : Cal P w K mg base "is_integer" 1 ["value"] 1 m_is_integer) : FnOk P w K mg base CX0 2 f fd ["value", "least", "most"] (spFn K 3 m_is_in) := by
  have sc := sc_is_in
  have e : spFn K 3 m_is_in = spFn K (["value", "least", "most"] : List Str).length (runDef nm_is_in.length g_is_in) := rfl
  rw [e]
  refine fn_ok (P := P) (w := w) (mg := mg) (base := base) (k := 1) (g := g_is_in) F sc ?_
  intro R cdv A outer s H E hcd hr
  exact ⟨_, (dss_one (ds_ret (de_and (de_call C_is_integer hr (by decide) (by rfl) (da_cons (de_var 0) da_nil)) (de_one (de_chain (r := (rI0 fun i j => .bl (decide (i ≤ j)))) (r' := (rI0 fun i j => .bl (decide (i ≤ j)))) op_le op_le rs_le rs_le (de_var 1) (de_var 0) (de_var 2))))))⟩
/-! ### unit_open -/
abbrev nm_unit_open : List Str := ["jobs", "machines", "days", "found", "day", "row", "machine", "job"]
theorem sc_unit_open : FnScope nm_unit_open ["jobs", "machines"] (defScope s_unit_open) := ⟨rfl, rfl, rfl, by decide +kernel, rfl, by decide +kernel, by decide +kernel⟩
def g_unit_open : DV.Env → M Out :=
  (sSeq (sIf (tIfT (tNotF (eT (eFn (fun xs => if xs.length = 3 then m_is_in xs else fail) (aCons (eVar 0) (aCons (eC (.int 1)) (aCons (eC (.int 12)) aNil)))))) (tRetB true) (tNotF (eT (eFn (fun xs => if xs.length = 3 then m_is_in xs else fail) (aCons (eVar 1) (aCons (eC (.int 1)) (aCons (eC (.int 12)) aNil))))))) sNever sNil)
  (sSeq (sPar 2 3 (aCons (eCall gMax2 (aCons (eVar 0) (aCons (eVar 1) aNil))) (aCons (eLst aNil) aNil)))
  (sSeq (sFor (iRng1F (eVar 2)) (gNm 4) (sSeq (sSet 5 (eLc (iRng1F (eVar 1)) [6] (gNm 6) tTrue (e2 gMod (e2 gAddA (eVar 4) (eVar 6)) (eVar 2))))
  (sApp 3 (eCall gTuple (aCons (eLc (srcV 5) [7] (gNm 7) tTrue (eIf (eT (e2 gLtA (eVar 7) (eVar 0))) (eVar 7) (eNeg (eC (.int 1))))) aNil)))))
  (sRetV 3))))
def m_unit_open : List RV → M RV := runDef 8 g_unit_open
theorem ok_unit_open {f : Addr} {fd : FuncData} (F : Fun K "unit_open" "unit_open" s_unit_open f fd) (T : Txt mg) (C_is_in : Cal P w K mg base "is_in" 2 ["value", "least", "most"] 3 m_is_in) : FnOk P w K mg base CX0 3 f fd ["jobs", "machines"] (spFn K 2 m_unit_open) := by
  have sc := sc_unit_open
  have e : spFn K 2 m_unit_open = spFn K (["jobs", "machines"] : List Str).length (runDef nm_unit_open.length g_unit_open) := rfl
  rw [e]
  refine fn_ok (P := P) (w := w) (mg := mg) (base := base) (k := 2) (g := g_unit_open) F sc ?_
  intro R cdv A outer s H E hcd hr
  exact ⟨_, (dss_cons (ds_if (DW.dt (dw_or (dt_not (dt_val (de_call C_is_in hr (by decide) (by rfl) (da_cons (de_var 0) (da_cons de_int (da_cons de_int da_nil)))))) (dw_or1 (dt_not (dt_val (de_call C_is_in hr (by decide) (by rfl) (da_cons (de_var 1) (da_cons de_int (da_cons de_int da_nil))))))))) dss_never dss_nil)
    (dss_cons (ds_tup2L (i := 2) (j := 3) (by rfl) sc.nd (by rfl) (by rfl) (by first | exact Or.inl rfl | exact Or.inr rfl) (by first | exact Or.inl rfl | exact Or.inr rfl) (de_callB (r := (fun xs H Q => ∃ i j, xs = [.int i, .int j] ∧ Q (.int (if j > i then j else i)) H)) (call_max2 (by rfl)) csem_max2 (by rfl) T.b_max PyProof.Rows.boot_max (da_cons (de_var 0) (da_cons (de_var 1) da_nil))) (de_lst da_nil) (by rfl))
    (dss_cons (ds_for PassesOwn.never (by rfl) (di_range1 (by rfl) T.b_range (de_var 2)) (dg_name (i := 4) sc.nd (by rfl) (by first | exact Or.inl rfl | exact Or.inr rfl)) (dss_cons (ds_setLc (i := 5) (own := [("machine", 6)]) (g := (gName 6)) (tt := tYes) (te := (tOp (rI (fun _ j => 0 < j) fun i j => .int (i % j)) (tOp (rAddA K) (tVar 4) (tVar 6)) (tVar 2))) (by rfl) sc.nd (by rfl) (by rfl) (sw_true (by rfl) (by rfl) (by rfl) (by decide +kernel)) (di_range1 (by rfl) T.b_range (de_var 1)) (blkOk_by (N := nm_unit_open) (sc := defScope s_unit_open) (by decide +kernel)) (by decide) (fun _ _ _ _ _ => (dg_name (i := 6) sc.nd (by rfl) (by first | exact Or.inl rfl | exact Or.inr rfl))) (fun _ _ _ _ _ => dts_nil) (fun _ _ _ _ _ => (de_op (r := (rI (fun _ j => 0 < j) fun i j => .int (i % j))) op_mod rs_mod (de_op (r := (rAddA K)) op_addA rsem_add (de_var 4) (de_var 6)) (de_var 2))))
    (dss_one (ds_appendF (i := 3) (de_callTy (r := (DV.rTuple K)) call_tuple_of csem_tuple (by rfl) T.b_tuple PyProof.Rows.boot_tuple (da_cons (de_lc (own := [("job", 7)]) (g := (gName 7)) (tt := tYes) (te := (tIf (tTest (tOp (rCmpA K (fun i j => decide (i < j)) PySem.W.dataLt) (tVar 7) (tVar 0))) (tVar 7) (tUn (rU fun i => .int (-i)) (tC (.int 1))))) (by rfl) sc.nd (di_seq (src_v 5)) (blkOk_by (N := nm_unit_open) (sc := defScope s_unit_open) (by decide +kernel)) (by decide) (fun _ _ _ _ _ => (dg_name (i := 7) sc.nd (by rfl) (by first | exact Or.inl rfl | exact Or.inr rfl))) (fun _ _ _ _ _ => dts_nil) (fun _ _ _ _ _ => (de_if (dt_cmp (r := (rCmpA K (fun i j => decide (i < j)) PySem.W.dataLt)) (op_ltA (rm64 hr)) (rsem_cmpA _ _) (de_var 7) (de_var 0) (nomark _)) (de_var 7) (de_neg de_int)))) da_nil)) fun h => (pe_bm PySem.F.plainAttrs_list PySem.F.slot_list_append PySem.F.type_list_append mt_append (pv 3) (pa_cons h pa_nil))))))
    (dss_one (ds_retV 3)))))⟩
/-! ### bound_in -/
abbrev nm_bound_in : List Str := ["table", "machines", "row", "machine"]
theorem sc_bound_in : FnScope nm_bound_in ["table"] (defScope s_bound_in) := ⟨rfl, rfl, rfl, by decide +kernel, rfl, by decide +kernel, by decide +kernel⟩
def g_bound_in : DV.Env → M Out :=
  (sSeq (sSet 1 (eLc (iRng1F (eCall gLen (aCons (e2 gIx (eVar 0) (eC (.int 0))) aNil))) [3] (gNm 3) tTrue (eCall gSum (aCons (eLc (srcV 0) [2] (gNm 2) tTrue (e2 gIx (eVar 2) (eVar 3))) aNil))))
  (sRet (eCall (gBest PySem.W.maxD) (aCons (e2 gAddA (eVar 1) (eLc (srcV 0) [2] (gNm 2) tTrue (eCall gSum (aCons (eVar 2) aNil)))) aNil))))
def m_bound_in : List RV → M RV := runDef 4 g_bound_in
theorem ok_bound_in {f : Addr} {fd : FuncData} (F : Fun K "bound_in" "bound_in" s_bound_in f fd) (T : Txt mg)  : FnOk P w K mg base CX0 1 f fd ["table"] (spFn K 1 m_bound_in) := by
  have sc := sc_bound_in
  have e : spFn K 1 m_bound_in = spFn K (["table"] : List Str).length (runDef nm_bound_in.length g_bound_in) := rfl
  rw [e]
  refine fn_ok (P := P) (w := w) (mg := mg) (base := base) (k := 0) (g := g_bound_in) F sc ?_
  intro R cdv A outer s H E hcd hr
  exact ⟨_, (dss_cons (ds_setLc (i := 1) (own := [("machine", 3)]) (g := (gName 3)) (tt := tYes) (te := (tCB (DV.rSumA K) (tCons (tLc (iSeqK K (tVar 0)) (gName 2) tYes (tOp (rIx K) (tVar 2) (tVar 3)) [2]) tNil))) (by rfl) sc.nd (by rfl) (by rfl) (sw_true (by rfl) (by rfl) (by rfl) (by decide +kernel)) (di_range1 (by rfl) T.b_range (de_callB (r := (DV.rLen K)) call_len_seq csem_len (by rfl) T.b_len PySem.boot_len (da_cons (de_ix (de_var 0) de_int) da_nil))) (blkOk_by (N := nm_bound_in) (sc := defScope s_bound_in) (by decide +kernel)) (by decide) (fun _ _ _ _ _ => (dg_name (i := 3) sc.nd (by rfl) (by first | exact Or.inl rfl | exact Or.inr rfl))) (fun _ _ _ _ _ => dts_nil) (fun _ _ _ _ _ => (de_callB (r := (DV.rSumA K)) (cr_sumA (by rfl)) csem_sum (by rfl) T.b_sum PyProof.Rows.boot_sum (da_cons (de_lc (own := [("row", 2)]) (g := (gName 2)) (tt := tYes) (te := (tOp (rIx K) (tVar 2) (tVar 3))) (by rfl) sc.nd (di_seq (src_v 0)) (blkOk_by (N := nm_bound_in) (by rfl)) (by decide) (fun _ _ _ _ _ => (dg_name (i := 2) sc.nd (by rfl) (by first | exact Or.inl rfl | exact Or.inr rfl))) (fun _ _ _ _ _ => dts_nil) (fun _ _ _ _ _ => (de_ix (de_var 2) (de_var 3)))) da_nil))))
    (dss_one (ds_ret (de_callB (r := (DV.rBest K PySem.W.maxD)) (cr_maxA (by rfl) (rm65 hr)) csem_best (by rfl) T.b_max PyProof.Rows.boot_max (da_cons (de_op (r := (rAddA K)) op_addA rsem_add (de_var 1) (de_lc (own := [("row", 2)]) (g := (gName 2)) (tt := tYes) (te := (tCB (DV.rSumA K) (tCons (tVar 2) tNil))) (by rfl) sc.nd (di_seq (src_v 0)) (blkOk_by (N := nm_bound_in) (sc := defScope s_bound_in) (by decide +kernel)) (by decide) (fun _ _ _ _ _ => (dg_name (i := 2) sc.nd (by rfl) (by first | exact Or.inl rfl | exact Or.inr rfl))) (fun _ _ _ _ _ => dts_nil) (fun _ _ _ _ _ => (de_callB (r := (DV.rSumA K)) (cr_sumA (by rfl)) csem_sum (by rfl) T.b_sum PyProof.Rows.boot_sum (da_cons (de_var 2) da_nil))))) da_nil)))))⟩
/-! ### is_list -/
abbrev nm_is_list : List Str := ["value", "least", "most"]
theorem sc_is_list : FnScope nm_is_list ["value", "least", "most"] (defScope s_is_list) := ⟨rfl, rfl, rfl, by decide +kernel, rfl, by decide +kernel, by decide +kernel⟩
abbrev g_is_list : DV.Env → M Out := DVL.g_is_list
abbrev m_is_list : List RV → M RV := DVL.m_is_list
theorem ok_is_list {f : Addr} {fd : FuncData} (F : Fun K "is_list" "is_list" s_is_list f fd) (T : Txt mg)  : FnOk P w K mg base CX0 1 f fd ["value", "least", "most"] (spFn K 3 m_is_list) := by
  have sc := sc_is_list
  have e : spFn K 3 m_is_list = spFn K (["value", "least", "most"] : List Str).length (runDef nm_is_list.length g_is_list) := rfl
  rw [e]
  refine fn_ok (P := P) (w := w) (mg := mg) (base := base) (k := 0) (g := g_is_list) F sc ?_
  intro R cdv A outer s H E hcd hr
  exact ⟨_, (dss_one (ds_ret (de_and (de_isT .tuple (by rfl) T.b_isinstance (by rfl) T.b_tuple (by decide +kernel) (de_var 0)) (de_one (de_chain (r := (rI0 fun i j => .bl (decide (i ≤ j)))) (r' := (rI0 fun i j => .bl (decide (i ≤ j)))) op_le op_le rs_le rs_le (de_var 1) (de_callB (r := (DV.rLen K)) call_len_seq csem_len (by rfl) T.b_len PySem.boot_len (da_cons (de_var 0) da_nil)) (de_var 2))))))⟩
/-! ### need_table -/
abbrev nm_need_table : List Str := ["table", "index", "row", "time"]
theorem sc_need_table : FnScope nm_need_table ["table"] (defScope s_need_table) := ⟨rfl, rfl, rfl, by decide +kernel, rfl, by decide +kernel, by decide +kernel⟩
def g_need_table : DV.Env → M Out :=
  (sSeq (sIf (tNotF (eT (eFn (fun xs => if xs.length = 3 then m_is_list xs else fail) (aCons (eVar 0) (aCons (eC (.int 1)) (aCons (eC (.int 6)) aNil)))))) sNever sNil)
  (sFor (iEnumF (srcV 0)) (gTupF 2 (gMore (gNm 1) (gMore (gNm 2) gNone))) (sSeq (sIf (tIfT (tNotF (eT (eFn (fun xs => if xs.length = 3 then m_is_list xs else fail) (aCons (eVar 2) (aCons (eC (.int 1)) (aCons (eC (.int 4)) aNil)))))) (tRetB true) (eT (e2 gNe (eCall gLen (aCons (eVar 2) aNil)) (eCall gLen (aCons (e2 gIx (eVar 0) (eC (.int 0))) aNil))))) sNever sNil)
  (sIf (tNotF (eT (eCall gAll (aCons (eLc (srcV 2) [3] (gNm 3) tTrue (eFn (fun xs => if xs.length = 3 then m_is_in xs else fail) (aCons (eVar 3) (aCons (eC (.int 0)) (aCons (eC (.int 60)) aNil))))) aNil)))) sNever sNil))))
def m_need_table : List RV → M RV := runDef 4 g_need_table
theorem ok_need_table {f : Addr} {fd : FuncData} (F : Fun K "need_table" "need_table" s_need_table f fd) (T : Txt mg) (C_is_list : Cal P w K mg base "is_list" 1 ["value", "least", "most"] 3 m_is_list) (C_is_in : Cal P w K mg base "is_in" 2 ["value", "least", "most"] 3 m_is_in) : FnOk P w K mg base CX0 3 f fd ["table"] (spFn K 1 m_need_table) := by
  have sc := sc_need_table
  have e : spFn K 1 m_need_table = spFn K (["table"] : List Str).length (runDef nm_need_table.length g_need_table) := rfl
  rw [e]
  refine fn_ok (P := P) (w := w) (mg := mg) (base := base) (k := 2) (g := g_need_table) F sc ?_
  intro R cdv A outer s H E hcd hr
  exact ⟨_, (dss_cons (ds_if (dt_not (dt_val (de_call C_is_list hr (by decide) (by rfl) (da_cons (de_var 0) (da_cons de_int (da_cons de_int da_nil)))))) dss_never dss_nil)
    (dss_one (ds_for PassesOwn.never (by rfl) (di_enum (by rfl) T.b_enumerate (src_v 0)) (dg_tup (by rfl) (dgs_cons (dg_name (i := 1) sc.nd (by rfl) (by first | exact Or.inl rfl | exact Or.inr rfl)) (dgs_cons (dg_name (i := 2) sc.nd (by rfl) (by first | exact Or.inl rfl | exact Or.inr rfl)) dgs_nil))) (dss_cons (ds_if (DW.dt (dw_or (dt_not (dt_val (de_call C_is_list hr (by decide) (by rfl) (da_cons (de_var 2) (da_cons de_int (da_cons de_int da_nil)))))) (dw_or1 (dt_cmp (r := (rNeD K)) (op_neD (rm64 hr)) rsem_ne (de_callB (r := (DV.rLen K)) call_len_seq csem_len (by rfl) T.b_len PySem.boot_len (da_cons (de_var 2) da_nil)) (de_callB (r := (DV.rLen K)) call_len_seq csem_len (by rfl) T.b_len PySem.boot_len (da_cons (de_ix (de_var 0) de_int) da_nil)) (nomark _))))) dss_never dss_nil)
    (dss_one (ds_if (dt_not (dt_val (de_callB (r := (rAll K)) (cr_all (by rfl)) (csem_bools _) (by rfl) T.b_all PyProof.Rows.boot_all (da_cons (de_lc (own := [("time", 3)]) (g := (gName 3)) (tt := tYes) (te := (tCall (spFn K 3 m_is_in) [] E0 (tCons (tVar 3) (tCons (tC (.int 0)) (tCons (tC (.int 60)) tNil))))) (by rfl) sc.nd (di_seq (src_v 2)) (blkOk_by (N := nm_need_table) (sc := defScope s_need_table) (by decide +kernel)) (by decide) (fun _ _ _ _ _ => (dg_name (i := 3) sc.nd (by rfl) (by first | exact Or.inl rfl | exact Or.inr rfl))) (fun _ _ _ _ _ => dts_nil) (fun _ _ _ _ _ => (de_call C_is_in hr (by decide) (by rfl) (da_cons (de_var 3) (da_cons de_int (da_cons (de_gI (by rfl) T.c_MOST_TIME) da_nil)))))) da_nil)))) dss_never dss_nil))))))⟩
/-! ### open_bound -/
abbrev nm_open_bound : List Str := ["table"]
theorem sc_open_bound : FnScope nm_open_bound ["table"] (defScope s_open_bound) := ⟨rfl, rfl, rfl, by decide +kernel, rfl, by decide +kernel, by decide +kernel⟩
def g_open_bound : DV.Env → M Out :=
  (sSeq (sDrop (eFn (fun xs => if xs.length = 1 then m_need_table xs else fail) (aCons (eVar 0) aNil)))
  (sRet (eFn (fun xs => if xs.length = 1 then m_bound_in xs else fail) (aCons (eVar 0) aNil))))
def m_open_bound : List RV → M RV := runDef 1 g_open_bound
theorem ok_open_bound {f : Addr} {fd : FuncData} (F : Fun K "open_bound" "open_bound" s_open_bound f fd) (T : Txt mg) (C_need_table : Cal P w K mg base "need_table" 3 ["table"] 1 m_need_table) (C_bound_in : Cal P w K mg base "bound_in" 1 ["table"] 1 m_bound_in) : FnOk P w K mg base CX0 4 f fd ["table"] (spFn K 1 m_open_bound) := by
  have sc := sc_open_bound
  have e : spFn K 1 m_open_bound = spFn K (["table"] : List Str).length (runDef nm_open_bound.length g_open_bound) := rfl
  rw [e]
  refine fn_ok (P := P) (w := w) (mg := mg) (base := base) (k := 3) (g := g_open_bound) F sc ?_
  intro R cdv A outer s H E hcd hr
  exact ⟨_, (dss_cons (ds_expr (de_call C_need_table hr (by decide) (by rfl) (da_cons (de_var 0) da_nil)))
    (dss_one (ds_ret (de_call C_bound_in hr (by decide) (by rfl) (da_cons (de_var 0) da_nil)))))⟩
/-! ### _law_pick -/
abbrev nm__law_pick : List Str := ["_law_row", "_law_things"]
theorem sc__law_pick : FnScope nm__law_pick ["_law_row", "_law_things"] (defScope s__law_pick) := ⟨rfl, rfl, rfl, by decide +kernel, rfl, by decide +kernel, by decide +kernel⟩
abbrev g__law_pick : DV.Env → M Out := DVL.g__law_pick
abbrev m__law_pick : List RV → M RV := DVL.m__law_pick
theorem ok__law_pick {f : Addr} {fd : FuncData} (F : Fun K "_law_pick" "_law_pick" s__law_pick f fd) (T : Txt mg) (C__law_taken : Cal P w K mg base "_law_taken" 1 ["_law_row", "_law_many"] 2 m__law_taken) : FnOk P w K mg base CX0 2 f fd ["_law_row", "_law_things"] (spFn K 2 m__law_pick) := by
  have sc := sc__law_pick
  have e : spFn K 2 m__law_pick = spFn K (["_law_row", "_law_things"] : List Str).length (runDef nm__law_pick.length g__law_pick) := rfl
  rw [e]
  refine fn_ok (P := P) (w := w) (mg := mg) (base := base) (k := 1) (g := g__law_pick) F sc ?_
  intro R cdv A outer s H E hcd hr
  exact ⟨_, (dss_one (ds_ret (de_ix (de_var 1) (de_call C__law_taken hr (by decide) (by rfl) (da_cons (de_var 0) (da_cons (de_callB (r := (DV.rLen K)) call_len_seq csem_len (by rfl) T.b_len PySem.boot_len (da_cons (de_var 1) da_nil)) da_nil))))))⟩
/-! ### unit_open, raising -/
def gx_unit_open : DV.Env → M (Except Ex Out) :=
  (xSeq (xIf (tIfT (tNotF (eT (eFn (fun xs => if xs.length = 3 then m_is_in xs else fail) (aCons (eVar 0) (aCons (eC (.int 1)) (aCons (eC (.int 12)) aNil)))))) (tRetB true) (tNotF (eT (eFn (fun xs => if xs.length = 3 then m_is_in xs else fail) (aCons (eVar 1) (aCons (eC (.int 1)) (aCons (eC (.int 12)) aNil))))))) (xRaise1 "BadTable" "index" (eC .none)) (xOk sNil))
  xNever)
def mx_unit_open : List RV → M (Except Ex RV) := runDefX 8 gx_unit_open
theorem okx_unit_open {f : Addr} {fd : FuncData} (F : Fun K "unit_open" "unit_open" s_unit_open f fd) (T : Txt mg) (C_is_in : Cal P w K mg base "is_in" 2 ["value", "least", "most"] 3 m_is_in)  (E_BadTable : ExOk P K mg "BadTable" "index") : FnOk P w K mg base (L2.CX P w) 3 f fd ["jobs", "machines"] (spFnX K 2 mx_unit_open) := by
  have sc := sc_unit_open
  have e : spFnX K 2 mx_unit_open = spFnX K (["jobs", "machines"] : List Str).length (runDefX nm_unit_open.length gx_unit_open) := rfl
  rw [e]
  obtain ⟨C_BadTable, I_BadTable, X_BadTable, n_BadTable⟩ := E_BadTable
  refine fn_okX (P := P) (w := w) (mg := mg) (base := base) (k := 2) (g := gx_unit_open) F sc ?_
  intro R cdv A outer s H E hr
  exact ⟨_, (dxss_cons (dxs_if (DW.dt (dw_or (dt_not (dt_val (de_call C_is_in hr (by decide) (by rfl) (da_cons (de_var 0) (da_cons de_int (da_cons de_int da_nil)))))) (dw_or1 (dt_not (dt_val (de_call C_is_in hr (by decide) (by rfl) (da_cons (de_var 1) (da_cons de_int (da_cons de_int da_nil))))))))) (dxss_one (dxs_raise1 (by rfl) X_BadTable n_BadTable (takes_of rfl rfl rfl rfl) hr de_non (by rfl) (by decide))) dxss_nil)
    dxss_never)⟩
/-! ### _law_refused -/
abbrev nm__law_refused : List Str := ["_law_jobs", "_law_machines", "e"]
theorem sc__law_refused : FnScope nm__law_refused ["_law_jobs", "_law_machines"] (defScope s__law_refused) := ⟨rfl, rfl, rfl, by decide +kernel, rfl, by decide +kernel, by decide +kernel⟩
def err_names : List Str := ["BadTable"]
def err_sv (e : Ex) : Option D := match e with
  | ⟨c, some (f, .none)⟩ => if c = "BadTable" ∧ f = "index" then some (.bool true) else none
  | _ => none
noncomputable def err_gs (q' : Q3) : DV.Env → M Out :=
  (sRet (eIfB (eIsX err_names q' 2 fun c => decide (c = "BadTable")) (e2 gIs (eXf err_names q' 2 "index") (eC .none)) (eC (.bool false))))
def ErrHolds : Prop := ∀ (q' : Q3) (e : Ex) (d : D) (rs : RS), err_sv e = some d → err_gs q' ((List.replicate 3 none).set 2 (some (.ex q' e))) rs = some (.rt (.d d), rs)
theorem err_in : ∀ (e : Ex) (d : D), err_sv e = some d → e.c ∈ err_names := fun e d h => by
  unfold err_sv at h
  split at h
  · split at h
    · rename_i h1
      have hd : ("BadTable" : Str) ∈ err_names := by decide
      rw [← h1.1] at hd
      exact hd
    · cases h
  · cases h
def g__law_refused : DV.Env → M Out :=
  (sSeq (sTryRet 3 (xFn (fun xs => if xs.length = 2 then mx_unit_open xs else fail) (aCons (eVar 0) (aCons (eVar 1) aNil))) err_sv)
  (sRet (eC (.bool false))))
def m__law_refused : List RV → M RV := runDef 3 g__law_refused
theorem ok__law_refused {f : Addr} {fd : FuncData} (F : Fun K "_law_refused" "_law_refused" s__law_refused f fd) (T : Txt mg) (CX_unit_open : CalX P w K mg base "unit_open" 3 ["jobs", "machines"] 2 mx_unit_open) (herr : ErrHolds) (TB : ClsTab K err_names "ShopError") (N_ShopError : NmC K mg "ShopError") (N_BadTable : NmC K mg "BadTable")  : FnOk P w K mg base CX0 4 f fd ["_law_jobs", "_law_machines"] (spFn K 2 m__law_refused) := by
  have sc := sc__law_refused
  obtain ⟨D_ShopError, m_ShopError, n_ShopError⟩ := N_ShopError
  obtain ⟨D_BadTable, m_BadTable, n_BadTable⟩ := N_BadTable
  have e : spFn K 2 m__law_refused = spFn K (["_law_jobs", "_law_machines"] : List Str).length (runDef nm__law_refused.length g__law_refused) := rfl
  rw [e]
  refine fn_ok (P := P) (w := w) (mg := mg) (base := base) (k := 3) (g := g__law_refused) F sc ?_
  intro R cdv A outer s H E hcd hr
  exact ⟨_, (dss_cons (ds_tryRet (i := 2) (n := 3) (names := err_names) (te := fun W => (tCallS (spFnX K 2 mx_unit_open) (WE W) (tCons (tVar 0) (tCons (tVar 1) tNil)))) (ts := fun q' => (tRet (tAndV (tCB (rIsX K q'.a q'.cls q'.d) (tCons (tVar 2) (tCons (tC (.ref D_BadTable)) tNil))) (tOp (fun x y H Q => y = .non ∧ Q (.bl (decide (x = .non))) H) (tXfX K q'.a q'.cls q'.d "index" (tVar 2)) (tC .non))))) (gs := err_gs) (sv := err_sv) rfl rfl sc.nd (by rfl) (by rfl) (by rfl) m_ShopError (by decide) TB n_ShopError (fun W pn xe tk => (dx_call CX_unit_open tk hr (by decide) (by rfl) (da_cons (de_var 0) (da_cons (de_var 1) da_nil)))) (fun q' oe pn hz hf => (dss_one (ds_ret (de_and (de_isX TB hz hf (by decide) m_BadTable n_BadTable (by rfl) (by decide) (by rfl) T.b_isinstance (by rfl) (by first | exact Or.inl rfl | exact Or.inr (Or.inl rfl) | exact Or.inr (Or.inr rfl)) (by decide) (by decide)) (de_one (de_cmp (r := (fun x y H Q => y = .non ∧ Q (.bl (decide (x = .non))) H)) op_isN rsem_isN (de_xf TB hz hf (.inl rfl) (by rfl) (by first | exact Or.inl rfl | exact Or.inr (Or.inl rfl) | exact Or.inr (Or.inr rfl)) (by decide) (by decide)) de_non (nomark _))))))) err_in herr)
    (dss_one (ds_ret de_bl)))⟩
/-! ### law -/
abbrev nm_law : List Str := ["_law_script", "_law_row", "_law_turn", "_law_jobs", "_law_machines", "_law_days", "_law_day", "_law_busy", "_law_job", "_law_at", "_law_bad"]
theorem sc_law : FnScope nm_law ["_law_script"] (defScope s_law) := ⟨rfl, rfl, rfl, by decide +kernel, rfl, by decide +kernel, by decide +kernel⟩
def g_law : DV.Env → M Out :=
  (sSeq (sFor (iRng1F (eC (.int 3))) (gNm 2) (sSeq (sPar 3 4 (aCons (e2 gAddA (eC (.int 1)) (eFn (fun xs => if xs.length = 2 then m__law_taken xs else fail) (aCons (eVar 1) (aCons (eC (.int 12)) aNil)))) (aCons (e2 gAddA (eC (.int 1)) (eFn (fun xs => if xs.length = 2 then m__law_taken xs else fail) (aCons (eVar 1) (aCons (eC (.int 12)) aNil)))) aNil)))
  (sSeq (sSet 5 (eFn (fun xs => if xs.length = 2 then m_unit_open xs else fail) (aCons (eVar 3) (aCons (eVar 4) aNil))))
  (sSeq (sIf (tIfT (tNotF (eT (eIsT .list (eVar 5)))) (tRetB true) (eT (e2 gNe (eCall gLen (aCons (eVar 5) aNil)) (eCall gMax2 (aCons (eVar 3) (aCons (eVar 4) aNil)))))) (sRet (eC (.bool false))) sNil)
  (sSeq (sFor (srcV 5) (gNm 6) (sSeq (sSet 7 (eLc (srcV 6) [8] (gNm 8) (eT (e2 gNe (eVar 8) (eNeg (eC (.int 1))))) (eVar 8)))
  (sIf (tIfT (tNotF (eT (eIsT .tuple (eVar 6)))) (tRetB true) (tIfT (eT (e2 gNe (eCall gLen (aCons (eVar 6) aNil)) (eVar 4))) (tRetB true) (tIfT (eT (e2 gNe (eLenSet (eVar 7)) (eCall gLen (aCons (eVar 7) aNil)))) (tRetB true) (eT (e2 gNe (eLc (srcV 7) [8] (gNm 8) (tNotF (eT (eCh gLe gLt (eC (.int 0)) (eVar 8) (eVar 3)))) (eVar 8)) (eLst aNil)))))) (sRet (eC (.bool false))) sNil)))
  (sSeq (sFor (iRng1F (eVar 4)) (gNm 9) (sIf (eT (e2 gNe (eCall gSort (aCons (eLc (srcV 5) [6] (gNm 6) (eT (e2 gNe (e2 gIx (eVar 6) (eVar 9)) (eNeg (eC (.int 1))))) (e2 gIx (eVar 6) (eVar 9))) aNil)) (eListRg (rg1F (eVar 3))))) (sRet (eC (.bool false))) sNil))
  (sIf (tIfT (eT (e2 gLt (eVar 3) (eC (.int 7)))) (tIfT (eT (e2 gLt (eVar 4) (eC (.int 5)))) (eT (e2 gNe (eFn (fun xs => if xs.length = 1 then m_open_bound xs else fail) (aCons (e2 gMulA (eTup (aCons (e2 gMulA (eTup (aCons (eC (.int 1)) aNil)) (eVar 4)) aNil)) (eVar 3)) aNil)) (eCall gLen (aCons (eVar 5) aNil)))) (tRetB false)) (tRetB false)) (sRet (eC (.bool false))) sNil)))))))
  (sSeq (sSet 10 (eFn (fun xs => if xs.length = 2 then m__law_pick xs else fail) (aCons (eVar 1) (aCons (eLst (aCons (eC (.int 0)) (aCons (eC (.int 13)) (aCons (eC .none) (aCons (eC (.bool true)) (aCons (eC (.str "2")) aNil)))))) aNil))))
  (sRet (eIfB (eFn (fun xs => if xs.length = 2 then m__law_refused xs else fail) (aCons (eVar 10) (aCons (eC (.int 3)) aNil))) (eFn (fun xs => if xs.length = 2 then m__law_refused xs else fail) (aCons (eC (.int 3)) (aCons (eVar 10) aNil))) (eC (.bool false))))))
def LawHolds : Prop := ∀ ns : List Int, ns.length ≤ 63 → ∃ rs', g_law (lawE 11) ⟨ns, 0, 3940, 0⟩ = some (.rt (.d (.bool true)), rs')
theorem ok_law {f : Addr} {fd : FuncData} (hlaw : LawHolds) (F : Fun K "law" "law" s_law f fd) (T : Txt mg) (C__law_taken : Cal P w K mg base "_law_taken" 1 ["_law_row", "_law_many"] 2 m__law_taken) (C_unit_open : Cal P w K mg base "unit_open" 3 ["jobs", "machines"] 2 m_unit_open) (C_open_bound : Cal P w K mg base "open_bound" 4 ["table"] 1 m_open_bound) (C__law_pick : Cal P w K mg base "_law_pick" 2 ["_law_row", "_law_things"] 2 m__law_pick) (C__law_refused : Cal P w K mg base "_law_refused" 4 ["_law_jobs", "_law_machines"] 2 m__law_refused) : FnOk P w K mg base CX0 5 f fd ["_law_script"] (spLaw K) :=
  have sc := sc_law
  law_ok (k := 4) (g := g_law) (seed := 3940) F sc (by decide) rfl (fun cdv A outer s H E hr => ⟨ps_set (i := 1) sc.nd rfl (by first | exact Or.inl rfl | exact Or.inr rfl) (pe_lst (pa_cons (pv 0) (pa_cons pe_int (pa_cons pe_int (pa_cons pe_int pa_nil))))), _, fun R => (dss_cons (ds_for PassesOwn.never (by rfl) (di_range1 (by rfl) T.b_range de_int) (dg_name (i := 2) sc.nd (by rfl) (by first | exact Or.inl rfl | exact Or.inr rfl)) (dss_cons (ds_tup2L (i := 3) (j := 4) (by rfl) sc.nd (by rfl) (by rfl) (by first | exact Or.inl rfl | exact Or.inr rfl) (by first | exact Or.inl rfl | exact Or.inr rfl) (de_op (r := (rAddA K)) op_addA rsem_add de_int (de_call C__law_taken hr (by decide) (by rfl) (da_cons (de_var 1) (da_cons de_int da_nil)))) (de_op (r := (rAddA K)) op_addA rsem_add de_int (de_call C__law_taken hr (by decide) (by rfl) (da_cons (de_var 1) (da_cons de_int da_nil)))) (by rfl))
    (dss_cons (ds_set (i := 5) sc.nd (by rfl) (by first | exact Or.inl rfl | exact Or.inr rfl) (de_call C_unit_open hr (by decide) (by rfl) (da_cons (de_var 3) (da_cons (de_var 4) da_nil))))
    (dss_cons (ds_if (DW.dt (dw_or (dt_not (dt_val (de_isT .list (by rfl) T.b_isinstance (by rfl) T.b_list (by decide +kernel) (de_var 5)))) (dw_or1 (dt_cmp (r := (rNeD K)) (op_neD (rm64 hr)) rsem_ne (de_callB (r := (DV.rLen K)) call_len_seq csem_len (by rfl) T.b_len PySem.boot_len (da_cons (de_var 5) da_nil)) (de_callB (r := (fun xs H Q => ∃ i j, xs = [.int i, .int j] ∧ Q (.int (if j > i then j else i)) H)) (call_max2 (by rfl)) csem_max2 (by rfl) T.b_max PyProof.Rows.boot_max (da_cons (de_var 3) (da_cons (de_var 4) da_nil))) (nomark _))))) (dss_one (ds_ret de_bl)) dss_nil)
    (dss_cons (ds_for PassesOwn.never (by rfl) (di_seq (src_v 5)) (dg_name (i := 6) sc.nd (by rfl) (by first | exact Or.inl rfl | exact Or.inr rfl)) (dss_cons (ds_setLc (i := 7) (own := [("_law_job", 8)]) (g := (gName 8)) (tt := (tTest (tOp (rNeD K) (tVar 8) (tUn (rU fun i => .int (-i)) (tC (.int 1)))))) (te := (tVar 8)) (by rfl) sc.nd (by rfl) (by rfl) (sw_true (by rfl) (by rfl) (by rfl) (by decide +kernel)) (di_seq (src_v 6)) (blkOk_by (N := nm_law) (sc := defScope s_law) (by decide +kernel)) (by decide) (fun _ _ _ _ _ => (dg_name (i := 8) sc.nd (by rfl) (by first | exact Or.inl rfl | exact Or.inr rfl))) (fun _ _ _ _ _ => (dts_one (dt_cmp (r := (rNeD K)) (op_neD (rm64 hr)) rsem_ne (de_var 8) (de_neg de_int) (nomark _)))) (fun _ _ _ _ _ => (de_var 8)))
    (dss_one (ds_if (DW.dt (dw_or (dt_not (dt_val (de_isT .tuple (by rfl) T.b_isinstance (by rfl) T.b_tuple (by decide +kernel) (de_var 6)))) (dw_or (dt_cmp (r := (rNeD K)) (op_neD (rm64 hr)) rsem_ne (de_callB (r := (DV.rLen K)) call_len_seq csem_len (by rfl) T.b_len PySem.boot_len (da_cons (de_var 6) da_nil)) (de_var 4) (nomark _)) (dw_or (dt_cmp (r := (rNeD K)) (op_neD (rm64 hr)) rsem_ne (de_lenSet (by rfl) (by rfl) T.b_len (by rfl) T.b_set (de_var 7)) (de_callB (r := (DV.rLen K)) call_len_seq csem_len (by rfl) T.b_len PySem.boot_len (da_cons (de_var 7) da_nil)) (nomark _)) (dw_or1 (dt_cmp (r := (rNeD K)) (op_neD (rm64 hr)) rsem_ne (de_lc (own := [("_law_job", 8)]) (g := (gName 8)) (tt := (tNot (tTest (tChain (rI0 fun i j => .bl (decide (i ≤ j))) (rI0 fun i j => .bl (decide (i < j))) (tC (.int 0)) (tVar 8) (tVar 3))))) (te := (tVar 8)) (by rfl) sc.nd (di_seq (src_v 7)) (blkOk_by (N := nm_law) (sc := defScope s_law) (by decide +kernel)) (by decide) (fun _ _ _ _ _ => (dg_name (i := 8) sc.nd (by rfl) (by first | exact Or.inl rfl | exact Or.inr rfl))) (fun _ _ _ _ _ => (dts_one (dt_not (dt_chain (r := (rI0 fun i j => .bl (decide (i ≤ j)))) (r' := (rI0 fun i j => .bl (decide (i < j)))) op_le op_lt rs_le rs_lt de_int (de_var 8) (de_var 3))))) (fun _ _ _ _ _ => (de_var 8))) (de_lst da_nil) (nomark _))))))) (dss_one (ds_ret de_bl)) dss_nil))))
    (dss_cons (ds_for PassesOwn.never (by rfl) (di_range1 (by rfl) T.b_range (de_var 4)) (dg_name (i := 9) sc.nd (by rfl) (by first | exact Or.inl rfl | exact Or.inr rfl)) (dss_one (ds_if (dt_cmp (r := (rNeD K)) (op_neD (rm64 hr)) rsem_ne (de_callB (r := (DV.rSortA K)) (cr_sortA (rm65 hr)) csem_sort (by rfl) T.b_sorted PyProof.Rows.boot_sorted (da_cons (de_lc (own := [("_law_day", 6)]) (g := (gName 6)) (tt := (tTest (tOp (rNeD K) (tOp (rIx K) (tVar 6) (tVar 9)) (tUn (rU fun i => .int (-i)) (tC (.int 1)))))) (te := (tOp (rIx K) (tVar 6) (tVar 9))) (by rfl) sc.nd (di_seq (src_v 5)) (blkOk_by (N := nm_law) (sc := defScope s_law) (by decide +kernel)) (by decide) (fun _ _ _ _ _ => (dg_name (i := 6) sc.nd (by rfl) (by first | exact Or.inl rfl | exact Or.inr rfl))) (fun _ _ _ _ _ => (dts_one (dt_cmp (r := (rNeD K)) (op_neD (rm64 hr)) rsem_ne (de_ix (de_var 6) (de_var 9)) (de_neg de_int) (nomark _)))) (fun _ _ _ _ _ => (de_ix (de_var 6) (de_var 9)))) da_nil)) (de_listRg (by rfl) (by rfl) T.b_list (drg_1 (by rfl) T.b_range (de_var 3))) (nomark _)) (dss_one (ds_ret de_bl)) dss_nil)))
    (dss_one (ds_if (DW.dt (dw_and (dt_cmp (r := (rI0 fun i j => .bl (decide (i < j)))) op_lt rs_lt (de_var 3) de_int (nomark _)) (dw_and (dt_cmp (r := (rI0 fun i j => .bl (decide (i < j)))) op_lt rs_lt (de_var 4) de_int (nomark _)) (dw_and1 (dt_cmp (r := (rNeD K)) (op_neD (rm64 hr)) rsem_ne (de_call C_open_bound hr (by decide) (by rfl) (da_cons (de_op (r := (rMulA K)) op_mulA rsem_mul (de_tup (da_cons (de_op (r := (rMulA K)) op_mulA rsem_mul (de_tup (da_cons de_int da_nil)) (de_var 4)) da_nil)) (de_var 3)) da_nil)) (de_callB (r := (DV.rLen K)) call_len_seq csem_len (by rfl) T.b_len PySem.boot_len (da_cons (de_var 5) da_nil)) (nomark _)))))) (dss_one (ds_ret de_bl)) dss_nil))))))))
    (dss_cons (ds_set (i := 10) sc.nd (by rfl) (by first | exact Or.inl rfl | exact Or.inr rfl) (de_call C__law_pick hr (by decide) (by rfl) (da_cons (de_var 1) (da_cons (de_lst (da_cons de_int (da_cons de_int (da_cons de_non (da_cons de_bl (da_cons de_str da_nil)))))) da_nil))))
    (dss_one (ds_ret (de_and (de_call C__law_refused hr (by decide) (by rfl) (da_cons (de_var 10) (da_cons de_int da_nil))) (de_one (de_call C__law_refused hr (by decide) (by rfl) (da_cons de_int (da_cons (de_var 10) da_nil)))))))))⟩) hlaw
end
theorem all_mk {l : PySem.W.OpenLaw} {w : World} {K : PySem.W.Frag} {h : Heap} {mg : Str → Option Value} {fa f1 f2 f3 f4 f5 f6 f7 f8 f9 f10 f11 : Addr} (hlaw : LawHolds) (herr : ErrHolds) (X : K.In h) (G : h.Ns mainGlobals mg) (hfa : mg "law" = some (.ref fa))
    {od1 an1 od2 an2 od3 an3 od4 an4 od5 an5 od6 an6 od7 an7 od8 an8 od9 an9 od10 an10 od11 an11 : Option Addr} {sl1 sl2 sl3 sl4 sl5 sl6 sl7 sl8 sl9 sl10 sl11 : Array (Option Value)} {oc1 kV1 dc1 pm1 cd1 ct1 oc2 kV2 dc2 pm2 cd2 ct2 oc3 kV3 dc3 pm3 cd3 ct3 oc4 kV4 dc4 pm4 cd4 ct4 oc5 kV5 dc5 pm5 cd5 ct5 oc6 kV6 dc6 pm6 cd6 ct6 oc7 kV7 dc7 pm7 cd7 ct7 oc8 kV8 dc8 pm8 cd8 ct8 oc9 kV9 dc9 pm9 cd9 ct9 oc10 kV10 dc10 pm10 cd10 ct10 oc11 kV11 dc11 pm11 cd11 ct11 : Value}
    {C_ShopError C_BadTable : Addr}
    {I_BadTable N_BadTable Ca_BadTable Cc_BadTable : Addr} {nn_BadTable nq_BadTable : Str} {bs_BadTable bm_BadTable sb_BadTable : List Value} {sn_BadTable : List Str} {ab_BadTable : Bool} {co_BadTable : Option Bool} {dd_BadTable io_BadTable ia_BadTable kd_BadTable ld_BadTable : Option Addr} {k0_BadTable k1_BadTable k2_BadTable k3_BadTable k5_BadTable : Option Value} {ic_BadTable id_BadTable ip_BadTable it_BadTable kc_BadTable lc_BadTable : Value} {is_BadTable ks_BadTable ls_BadTable : Array (Option Value)} {kv_BadTable : Array Value} {fi_BadTable : Str} {tf_BadTable : Tok}
    (a1 : PySem.W.nsIn K mainGlobals "_law_taken" = some (some (.ref f1))) (l1 : K.lookup f1 = some ⟨oc1, od1, .func (PySem.W.fnOf "_law_taken" "_law_taken" (defArgs s__law_taken) (defBody s__law_taken) (defScope s__law_taken) .none kV1 dc1 pm1 an1 cd1 ct1), sl1⟩) (c1 : PySem.W.codeIn K cd1 "_law_taken" = true) (k1 : PySem.W.keepIn K (.ref f1) = true)
    (a2 : PySem.W.nsIn K mainGlobals "is_integer" = some (some (.ref f2))) (l2 : K.lookup f2 = some ⟨oc2, od2, .func (PySem.W.fnOf "is_integer" "is_integer" (defArgs s_is_integer) (defBody s_is_integer) (defScope s_is_integer) .none kV2 dc2 pm2 an2 cd2 ct2), sl2⟩) (c2 : PySem.W.codeIn K cd2 "is_integer" = true) (k2 : PySem.W.keepIn K (.ref f2) = true)
    (a3 : PySem.W.nsIn K mainGlobals "is_in" = some (some (.ref f3))) (l3 : K.lookup f3 = some ⟨oc3, od3, .func (PySem.W.fnOf "is_in" "is_in" (defArgs s_is_in) (defBody s_is_in) (defScope s_is_in) .none kV3 dc3 pm3 an3 cd3 ct3), sl3⟩) (c3 : PySem.W.codeIn K cd3 "is_in" = true) (k3 : PySem.W.keepIn K (.ref f3) = true)
    (a4 : PySem.W.nsIn K mainGlobals "unit_open" = some (some (.ref f4))) (l4 : K.lookup f4 = some ⟨oc4, od4, .func (PySem.W.fnOf "unit_open" "unit_open" (defArgs s_unit_open) (defBody s_unit_open) (defScope s_unit_open) .none kV4 dc4 pm4 an4 cd4 ct4), sl4⟩) (c4 : PySem.W.codeIn K cd4 "unit_open" = true) (k4 : PySem.W.keepIn K (.ref f4) = true)
    (a5 : PySem.W.nsIn K mainGlobals "bound_in" = some (some (.ref f5))) (l5 : K.lookup f5 = some ⟨oc5, od5, .func (PySem.W.fnOf "bound_in" "bound_in" (defArgs s_bound_in) (defBody s_bound_in) (defScope s_bound_in) .none kV5 dc5 pm5 an5 cd5 ct5), sl5⟩) (c5 : PySem.W.codeIn K cd5 "bound_in" = true) (k5 : PySem.W.keepIn K (.ref f5) = true)
    (a6 : PySem.W.nsIn K mainGlobals "is_list" = some (some (.ref f6))) (l6 : K.lookup f6 = some ⟨oc6, od6, .func (PySem.W.fnOf "is_list" "is_list" (defArgs s_is_list) (defBody s_is_list) (defScope s_is_list) .none kV6 dc6 pm6 an6 cd6 ct6), sl6⟩) (c6 : PySem.W.codeIn K cd6 "is_list" = true) (k6 : PySem.W.keepIn K (.ref f6) = true)
    (a7 : PySem.W.nsIn K mainGlobals "need_table" = some (some (.ref f7))) (l7 : K.lookup f7 = some ⟨oc7, od7, .func (PySem.W.fnOf "need_table" "need_table" (defArgs s_need_table) (defBody s_need_table) (defScope s_need_table) .none kV7 dc7 pm7 an7 cd7 ct7), sl7⟩) (c7 : PySem.W.codeIn K cd7 "need_table" = true) (k7 : PySem.W.keepIn K (.ref f7) = true)
    (a8 : PySem.W.nsIn K mainGlobals "open_bound" = some (some (.ref f8))) (l8 : K.lookup f8 = some ⟨oc8, od8, .func (PySem.W.fnOf "open_bound" "open_bound" (defArgs s_open_bound) (defBody s_open_bound) (defScope s_open_bound) .none kV8 dc8 pm8 an8 cd8 ct8), sl8⟩) (c8 : PySem.W.codeIn K cd8 "open_bound" = true) (k8 : PySem.W.keepIn K (.ref f8) = true)
    (a9 : PySem.W.nsIn K mainGlobals "_law_pick" = some (some (.ref f9))) (l9 : K.lookup f9 = some ⟨oc9, od9, .func (PySem.W.fnOf "_law_pick" "_law_pick" (defArgs s__law_pick) (defBody s__law_pick) (defScope s__law_pick) .none kV9 dc9 pm9 an9 cd9 ct9), sl9⟩) (c9 : PySem.W.codeIn K cd9 "_law_pick" = true) (k9 : PySem.W.keepIn K (.ref f9) = true)
    (a10 : PySem.W.nsIn K mainGlobals "_law_refused" = some (some (.ref f10))) (l10 : K.lookup f10 = some ⟨oc10, od10, .func (PySem.W.fnOf "_law_refused" "_law_refused" (defArgs s__law_refused) (defBody s__law_refused) (defScope s__law_refused) .none kV10 dc10 pm10 an10 cd10 ct10), sl10⟩) (c10 : PySem.W.codeIn K cd10 "_law_refused" = true) (k10 : PySem.W.keepIn K (.ref f10) = true)
    (a11 : PySem.W.nsIn K mainGlobals "law" = some (some (.ref f11))) (l11 : K.lookup f11 = some ⟨oc11, od11, .func (PySem.W.fnOf "law" "law" (defArgs s_law) (defBody s_law) (defScope s_law) .none kV11 dc11 pm11 an11 cd11 ct11), sl11⟩) (c11 : PySem.W.codeIn K cd11 "law" = true) (k11 : PySem.W.keepIn K (.ref f11) = true)
    (A_ShopError : PySem.W.nsIn K mainGlobals "ShopError" = some (some (.ref C_ShopError)))
    (A_BadTable : PySem.W.nsIn K mainGlobals "BadTable" = some (some (.ref C_BadTable)))
    (L_BadTable : K.lookup C_BadTable = some (excClassObj nn_BadTable nq_BadTable C_BadTable N_BadTable bs_BadTable bm_BadTable true sn_BadTable sb_BadTable ab_BadTable co_BadTable dd_BadTable k0_BadTable k1_BadTable k2_BadTable k3_BadTable k5_BadTable "ValueError.__new__")) (R_BadTable : PySem.HandSPX.refsVE bm_BadTable = true) (J_BadTable : PySem.W.findIn K (.ref C_BadTable) "__init__" = some (some (.ref I_BadTable)))
    (F_BadTable : K.lookup I_BadTable = some ⟨ic_BadTable, io_BadTable, .func (PySem.W.ksFn "__init__" ("BadTable" ++ ".__init__") (PySem.ExX.iA "index" ⟨13, 17, 13, 21⟩ ⟨13, 23, 13, 28⟩) (PySem.ExX.iB "index" ⟨14, 8, 14, 13⟩ ⟨14, 8, 14, 15⟩ ⟨14, 8, 14, 24⟩ ⟨14, 25, 14, 30⟩ ⟨14, 8, 14, 31⟩ ⟨14, 8, 14, 31⟩ ⟨15, 8, 15, 12⟩ ⟨15, 8, 15, 18⟩ ⟨15, 21, 15, 26⟩ ⟨15, 8, 15, 26⟩) (PySem.ExX.iS "index") .none .none id_BadTable ip_BadTable ia_BadTable (.ref Ca_BadTable) it_BadTable Cc_BadTable), is_BadTable⟩) (Q_BadTable : PySem.W.codeIn K (.ref Ca_BadTable) ("BadTable" ++ ".__init__") = true)
    (K_BadTable : K.lookup Ca_BadTable = some ⟨kc_BadTable, kd_BadTable, .fields kv_BadTable, ks_BadTable⟩) (V_BadTable : kv_BadTable[2]? = some (.str fi_BadTable tf_BadTable)) (W_BadTable : ((l.prog.main.file : Str) == fi_BadTable) = true) (Z_BadTable : K.lookup Cc_BadTable = some ⟨lc_BadTable, ld_BadTable, .cell (some (.ref C_BadTable)), ls_BadTable⟩) (B_BadTable : exB K C_BadTable I_BadTable "index" = true)
    (zs : PySem.W.nsIn K mainGlobals "super" = some none) (zp : (l.prog.main.scope.names.lookup ("super" : Str)).isSome = false) (tb : clsTabB K err_names "ShopError" = true)
    (tt : (tabsOf K).all (fun p => ([] : List Mk3).any fun m => m.P == p.1) = true) (own : ∀ y ∈ ([] : List Str), ∀ a, mg y = some (.ref a) → LamX.OwnTab K a h)
    (z0 : PySem.W.nsIn K mainGlobals "all" = some none) (z1 : PySem.W.nsIn K mainGlobals "bool" = some none) (z2 : PySem.W.nsIn K mainGlobals "enumerate" = some none) (z3 : PySem.W.nsIn K mainGlobals "int" = some none) (z4 : PySem.W.nsIn K mainGlobals "isinstance" = some none) (z5 : PySem.W.nsIn K mainGlobals "len" = some none) (z6 : PySem.W.nsIn K mainGlobals "list" = some none) (z7 : PySem.W.nsIn K mainGlobals "max" = some none) (z8 : PySem.W.nsIn K mainGlobals "range" = some none) (z9 : PySem.W.nsIn K mainGlobals "set" = some none) (z10 : PySem.W.nsIn K mainGlobals "sorted" = some none) (z11 : PySem.W.nsIn K mainGlobals "sum" = some none) (z12 : PySem.W.nsIn K mainGlobals "tuple" = some none)
    {tk0 : Tok} (y0 : PySem.W.nsIn K mainGlobals "MOST_TIME" = some (some (.int 60 tk0)))
    : LamX.LawAtS l w K CX0 5 63 "_law_script" mg fa h := by
  have e := hfa.symm.trans (PySem.W.mg_of X G a11)
  cases e
  have T : Txt mg := ⟨PySem.W.mg_none_of X G z0, PySem.W.mg_none_of X G z1, PySem.W.mg_none_of X G z2, PySem.W.mg_none_of X G z3, PySem.W.mg_none_of X G z4, PySem.W.mg_none_of X G z5, PySem.W.mg_none_of X G z6, PySem.W.mg_none_of X G z7, PySem.W.mg_none_of X G z8, PySem.W.mg_none_of X G z9, PySem.W.mg_none_of X G z10, PySem.W.mg_none_of X G z11, PySem.W.mg_none_of X G z12, ⟨_, PySem.W.mg_of X G y0⟩⟩
  have TB := clsTab_of tb
  have N_ShopError : NmC K mg "ShopError" := ⟨_, PySem.W.mg_of X G A_ShopError, A_ShopError⟩
  have N_BadTable : NmC K mg "BadTable" := ⟨_, PySem.W.mg_of X G A_BadTable, A_BadTable⟩
  have E_BadTable : ExOk l.prog K mg "BadTable" "index" := exOk_mk (PySem.W.mg_of X G A_BadTable) A_BadTable L_BadTable R_BadTable J_BadTable B_BadTable (PySem.W.mg_none_of X G zs) zp F_BadTable Q_BadTable K_BadTable V_BadTable W_BadTable Z_BadTable (fun env => ⟨_, by rfl⟩) PySem.ExX.fld_index
  have F1 := fun_mk (st := s__law_taken) l1 c1 k1
  have b1 := F1.binds (ps := ["_law_row", "_law_many"]) fun _ _ _ _ _ _ us hl => match us, hl with | [_, _], _ => rfl
  have F2 := fun_mk (st := s_is_integer) l2 c2 k2
  have b2 := F2.binds (ps := ["value"]) fun _ _ _ _ _ _ us hl => match us, hl with | [_], _ => rfl
  have F3 := fun_mk (st := s_is_in) l3 c3 k3
  have b3 := F3.binds (ps := ["value", "least", "most"]) fun _ _ _ _ _ _ us hl => match us, hl with | [_, _, _], _ => rfl
  have F4 := fun_mk (st := s_unit_open) l4 c4 k4
  have b4 := F4.binds (ps := ["jobs", "machines"]) fun _ _ _ _ _ _ us hl => match us, hl with | [_, _], _ => rfl
  have F5 := fun_mk (st := s_bound_in) l5 c5 k5
  have b5 := F5.binds (ps := ["table"]) fun _ _ _ _ _ _ us hl => match us, hl with | [_], _ => rfl
  have F6 := fun_mk (st := s_is_list) l6 c6 k6
  have b6 := F6.binds (ps := ["value", "least", "most"]) fun _ _ _ _ _ _ us hl => match us, hl with | [_, _, _], _ => rfl
  have F7 := fun_mk (st := s_need_table) l7 c7 k7
  have b7 := F7.binds (ps := ["table"]) fun _ _ _ _ _ _ us hl => match us, hl with | [_], _ => rfl
  have F8 := fun_mk (st := s_open_bound) l8 c8 k8
  have b8 := F8.binds (ps := ["table"]) fun _ _ _ _ _ _ us hl => match us, hl with | [_], _ => rfl
  have F9 := fun_mk (st := s__law_pick) l9 c9 k9
  have b9 := F9.binds (ps := ["_law_row", "_law_things"]) fun _ _ _ _ _ _ us hl => match us, hl with | [_, _], _ => rfl
  have F10 := fun_mk (st := s__law_refused) l10 c10 k10
  have b10 := F10.binds (ps := ["_law_jobs", "_law_machines"]) fun _ _ _ _ _ _ us hl => match us, hl with | [_, _], _ => rfl
  have F11 := fun_mk (st := s_law) l11 c11 k11
  have each : ∀ {R : Addr × Addr → Prop}, ∀ p ∈ ([] : List (Addr × Addr)), R p := fun {R} p hp => nomatch hp
  refine ⟨PySem.W.fnOf "law" "law" (defArgs s_law) (defBody s_law) (defScope s_law) .none kV11 dc11 pm11 an11 cd11 ct11, [], spLaw K, each , each , each , fun s v => .of_eq rfl, fun H a ns hl _ hT hS => ⟨a, ns, rfl, tabs_of tt (fun m hm => ?_), hS, hl, fun _ => rfl⟩, fun base _ _ hB => ?_⟩
  · cases hm
  have C__law_taken : Cal l.prog w K mg base "_law_taken" 1 ["_law_row", "_law_many"] 2 m__law_taken := ⟨_, _, ok__law_taken F1 T , PySem.W.mg_of X G a1, k1, b1⟩
  have C_is_integer : Cal l.prog w K mg base "is_integer" 1 ["value"] 1 m_is_integer := ⟨_, _, ok_is_integer F2 T , PySem.W.mg_of X G a2, k2, b2⟩
  have C_is_in : Cal l.prog w K mg base "is_in" 2 ["value", "least", "most"] 3 m_is_in := ⟨_, _, ok_is_in F3 T C_is_integer, PySem.W.mg_of X G a3, k3, b3⟩
  have C_unit_open : Cal l.prog w K mg base "unit_open" 3 ["jobs", "machines"] 2 m_unit_open := ⟨_, _, ok_unit_open F4 T C_is_in, PySem.W.mg_of X G a4, k4, b4⟩
  have C_bound_in : Cal l.prog w K mg base "bound_in" 1 ["table"] 1 m_bound_in := ⟨_, _, ok_bound_in F5 T , PySem.W.mg_of X G a5, k5, b5⟩
  have C_is_list : Cal l.prog w K mg base "is_list" 1 ["value", "least", "most"] 3 m_is_list := ⟨_, _, ok_is_list F6 T , PySem.W.mg_of X G a6, k6, b6⟩
  have C_need_table : Cal l.prog w K mg base "need_table" 3 ["table"] 1 m_need_table := ⟨_, _, ok_need_table F7 T C_is_list C_is_in, PySem.W.mg_of X G a7, k7, b7⟩
  have C_open_bound : Cal l.prog w K mg base "open_bound" 4 ["table"] 1 m_open_bound := ⟨_, _, ok_open_bound F8 T C_need_table C_bound_in, PySem.W.mg_of X G a8, k8, b8⟩
  have C__law_pick : Cal l.prog w K mg base "_law_pick" 2 ["_law_row", "_law_things"] 2 m__law_pick := ⟨_, _, ok__law_pick F9 T C__law_taken, PySem.W.mg_of X G a9, k9, b9⟩
  have CX_unit_open : CalX l.prog w K mg base "unit_open" 3 ["jobs", "machines"] 2 mx_unit_open := ⟨_, _, okx_unit_open F4 T C_is_in  E_BadTable, PySem.W.mg_of X G a4, k4, b4⟩
  have C__law_refused : Cal l.prog w K mg base "_law_refused" 4 ["_law_jobs", "_law_machines"] 2 m__law_refused := ⟨_, _, ok__law_refused F10 T CX_unit_open herr TB N_ShopError N_BadTable , PySem.W.mg_of X G a10, k10, b10⟩
  exact ok_law hlaw F11 T C__law_taken C_unit_open C_open_bound C__law_pick C__law_refused
end Lk40

/-! DV: plain laws about the functions: what they give -/
namespace DV
open PySem L2
def Gives {α : Type} (m : M α) (P : α → Prop) : Prop := ∀ rs, ∃ a rs', m rs = some (a, rs') ∧ P a
section
variable {α β : Type} {m : M α} {f : α → M β} {P Q : α → Prop} {P' : β → Prop} {a : α}
theorem Gives.ret (h : P a) : Gives (ret a) P := fun rs => ⟨a, rs, rfl, h⟩
theorem Gives.bnd (h : Gives m P) (k : ∀ a, P a → Gives (f a) P') : Gives (bnd m f) P' := fun rs => by
  obtain ⟨a, rs1, e, h1⟩ := h rs
  obtain ⟨b, rs2, e2, h2⟩ := k a h1 rs1
  exact ⟨b, rs2, by unfold DV.bnd; rw [e]; exact e2, h2⟩
theorem Gives.mono (h : Gives m P) (k : ∀ a, P a → Q a) : Gives m Q := fun rs => by
  obtain ⟨a, rs1, e, h1⟩ := h rs
  exact ⟨a, rs1, e, k a h1⟩
theorem Gives.eq {m' : M α} (e : m = m') (h : Gives m' P) : Gives m P := by rw [e]; exact h
theorem bnd_ret (a : α) (f : α → M β) : bnd (ret a) f = f a := rfl
theorem bnd_fail (f : α → M β) : bnd (fail : M α) f = fail := rfl
theorem lft_s (a : α) : lft (some a) = ret a := rfl
theorem lft_n : lft (none : Option α) = fail := rfl
theorem bnd_bnd {γ : Type} (m : M α) (f : α → M β) (g : β → M γ) : bnd (bnd m f) g = bnd m fun a => bnd (f a) g := by
  funext rs
  unfold bnd
  cases m rs with
  | none => rfl
  | some p => rfl
inductive All2 (P : α → β → Prop) : List α → List β → Prop
  | nil : All2 P [] []
  | cons {x : α} {y : β} {xs : List α} {ys : List β} : P x y → All2 P xs ys → All2 P (x :: xs) (y :: ys)
theorem All2.len {P : α → β → Prop} : ∀ {xs : List α} {ys : List β}, All2 P xs ys → xs.length = ys.length
  | _, _, .nil => rfl
  | _, _, .cons _ t => congrArg (· + 1) (All2.len t)
/-! loops -/
theorem Gives.loop {tg : D → Env → Option Env} {body : Env → M Out} {Q : Out → Prop} : ∀ (its : List D) (I : List D → Env → Prop) (ρ : Env), I its ρ →
    (∀ x xs ρ, I (x :: xs) ρ → ∃ ρ1, tg x ρ = some ρ1 ∧ Gives (body ρ1) fun o => match o with
      | .nx ρ2 => I xs ρ2
      | .ct ρ2 => I xs ρ2
      | .bk ρ2 => Q (.nx ρ2)
      | .rt r => Q (.rt r)) → (∀ ρ, I [] ρ → Q (.nx ρ)) → Gives (loopF tg body its ρ) Q
  | [], I, ρ, h, _, hd => Gives.ret (hd ρ h)
  | x :: xs, I, ρ, h, hs, hd => by
    obtain ⟨ρ1, e1, g1⟩ := hs x xs ρ h
    unfold loopF
    rw [e1, lft_s, bnd_ret]
    refine Gives.bnd g1 fun o ho => ?_
    cases o with
    | nx ρ2 => exact Gives.loop xs I ρ2 ho hs hd
    | ct ρ2 => exact Gives.loop xs I ρ2 ho hs hd
    | bk ρ2 => exact Gives.ret ho
    | rt r => exact Gives.ret ho
theorem Gives.while {t : Env → M Bool} {body : Env → M Out} {Q : Out → Prop} (I : Nat → Env → Prop)
    (hs : ∀ k ρ, I k ρ → ∃ b : Bool, t ρ = DV.ret b ∧ (b = false → Q (.nx ρ)) ∧ (b = true → ∃ j, k = j + 1 ∧ Gives (body ρ) fun o => match o with
      | .nx ρ2 => I j ρ2
      | .ct ρ2 => I j ρ2
      | .bk ρ2 => Q (.nx ρ2)
      | .rt r => Q (.rt r))) : ∀ (k n : Nat) (ρ : Env), k < n → I k ρ → Gives (wloopF t body n ρ) Q
  | k, 0, _, hn, _ => absurd hn (Nat.not_lt_zero _)
  | k, n + 1, ρ, hn, h => by
    obtain ⟨b, e, h1, h2⟩ := hs k ρ h
    unfold wloopF
    rw [e, bnd_ret]
    cases b with
    | false => exact Gives.ret (h1 rfl)
    | true =>
      obtain ⟨j, rfl, g⟩ := h2 rfl
      rw [if_pos rfl]
      refine Gives.bnd g fun o ho => ?_
      cases o with
      | nx ρ2 => exact Gives.while I hs j n ρ2 (by omega) ho
      | ct ρ2 => exact Gives.while I hs j n ρ2 (by omega) ho
      | bk ρ2 => exact Gives.ret ho
      | rt r => exact Gives.ret ho
/-- a comprehension without a test: each item gives one -/
theorem Gives.lc {tg : D → Env → Option Env} {el : Env → M RV} {ρ : Env} {P : D → D → Prop} : ∀ (its : List D), (∀ x ∈ its, ∃ ρ1, tg x ρ = some ρ1 ∧ Gives (el ρ1) fun r => ∃ d, toD r = some d ∧ P x d) →
    Gives (lcF tg tTrue el ρ its) fun ds => All2 P its ds
  | [], _ => Gives.ret .nil
  | x :: xs, h => by
    obtain ⟨ρ1, e1, g1⟩ := h x List.mem_cons_self
    unfold lcF
    rw [e1, lft_s, bnd_ret]
    show Gives (DV.bnd (el ρ1) _) _
    refine Gives.bnd g1 fun r ⟨d, hd, hp⟩ => ?_
    rw [hd, lft_s, bnd_ret]
    refine Gives.bnd (Gives.lc xs fun y hy => h y (List.mem_cons_of_mem _ hy)) fun ds hds => Gives.ret (.cons hp hds)
/-- a comprehension of plain functions -/
theorem lc_eq {tg : D → Env → Option Env} {t : Env → M Bool} {el : Env → M RV} {ρ : Env} (p : D → Bool) (f : D → D) : ∀ (its : List D), (∀ x ∈ its, ∃ ρ1, tg x ρ = some ρ1 ∧ t ρ1 = DV.ret (p x) ∧ (p x = true → ∃ r, el ρ1 = DV.ret r ∧ toD r = some (f x))) →
    lcF tg t el ρ its = DV.ret ((its.filter p).map f)
  | [], _ => rfl
  | x :: xs, h => by
    obtain ⟨ρ1, e1, e2, e3⟩ := h x List.mem_cons_self
    unfold lcF
    rw [e1, lft_s, bnd_ret, e2, bnd_ret, lc_eq p f xs fun y hy => h y (List.mem_cons_of_mem _ hy)]
    cases hp : p x with
    | false =>
      rw [if_neg (by decide), List.filter_cons_of_neg (by rw [hp]; decide)]
    | true =>
      obtain ⟨r, er, ed⟩ := e3 hp
      rw [if_pos rfl, List.filter_cons_of_pos hp, er, bnd_ret, ed, lft_s, bnd_ret, bnd_ret]
      rfl
end
section
variable {ρ ρ' : Env} {rs rs' rs1 rs2 : RS} {x y z : RV} {f h : Env → M RV} {g k : Env → M Out}
theorem e2_at {gg : RV → RV → Option RV} (h1 : f ρ rs = some (x, rs1)) (h2 : h ρ rs1 = some (y, rs2)) (h3 : gg x y = some z) : e2 gg f h ρ rs = some (z, rs2) := by
  unfold e2 bnd
  simp only [h1, h2, h3]
  rfl
theorem sSeq_at (h1 : g ρ rs = some (.nx ρ', rs')) : sSeq g k ρ rs = k ρ' rs' := by
  unfold sSeq bnd
  simp only [h1]
theorem sSeq_rt (h1 : g ρ rs = some (.rt x, rs')) : sSeq g k ρ rs = some (.rt x, rs') := by
  unfold sSeq bnd
  simp only [h1]
  rfl
theorem sIf_at {t : Env → M Bool} {b : Bool} (h1 : t ρ rs = some (b, rs')) : sIf t g k ρ rs = if b = true then g ρ rs' else k ρ rs' := by
  unfold sIf bnd
  simp only [h1]
  split <;> rfl
theorem sSet_at {i : Nat} {sv : SV} (h1 : f ρ rs = some (x, rs')) (h2 : toS x = some sv) : sSet i f ρ rs = some (.nx (ρ.set i (some sv)), rs') := by
  unfold sSet bnd
  simp only [h1, h2]
  rfl
theorem sRet_at (h1 : f ρ rs = some (x, rs')) (h2 : toRet x = some y) : sRet f ρ rs = some (.rt y, rs') := by
  unfold sRet bnd
  simp only [h1, h2]
  rfl
theorem sRowPut_at {i j : Nat} {v : Int} (h1 : f ρ rs = some (.d (.int v), rs1)) (h2 : vget ρ i = some .row) (h3 : rowPut j v rs1 = some rs2) : sRowPut i j f ρ rs = some (.nx ρ, rs2) := by
  unfold sRowPut bnd
  simp only [h1, h2]
  show (match rowPut j v rs1 with | some rs' => some (Out.nx ρ, rs') | none => none) = _
  rw [h3]
theorem gMod_eq {i j : Int} (h : 0 < j) : gMod (.d (.int i)) (.d (.int j)) = some (.d (.int (i % j))) := by
  show (if cPos i j = true then some (RV.d (.int (i % j))) else none) = _
  rw [if_pos (show cPos i j = true from decide_eq_true h)]
theorem gFdiv_eq {i j : Int} (h : 0 < j) (h1 : j < 1073741824) : gFdiv (.d (.int i)) (.d (.int j)) = some (.d (.int (i / j))) := by
  show (if cDiv i j = true then some (RV.d (.int (i / j))) else none) = _
  rw [if_pos (by simp [cDiv, h, h1])]
theorem gMulI_eq {i j : Int} (h : cMul i j = true) : gMulA (.d (.int i)) (.d (.int j)) = some (.d (.int (i * j))) := by
  show (if cMul i j = true then some (RV.d (.int (i * j))) else none) = _
  rw [if_pos h]
theorem cMul_r {i j : Int} (h1 : -18446744073709551616 < j) (h2 : j < 18446744073709551616) : cMul i j = true := by
  unfold cMul
  simp [h1, h2]
theorem cMul_l {i j : Int} (h1 : -18446744073709551616 < i) (h2 : i < 18446744073709551616) : cMul i j = true := by
  unfold cMul
  simp [h1, h2]
end
end DV
namespace DVL
open PySem L2 DV
theorem taken_at (many : Int) (h0 : 0 < many) (h1 : many < 1073741824) (rs : RS) : ∃ rs' x, g__law_taken [some .row, some (.d (.int many)), none, none] rs = some (.rt (.d (.int (x % many))), rs') := by
  obtain ⟨ns, i, s, c⟩ := rs
  unfold g__law_taken
  by_cases hc : 0 < c
  · refine ⟨⟨ns, i, s, c / many⟩, c, ?_⟩
    refine sSeq_rt ?_
    rw [sIf_at (b := decide (0 < c)) (rs' := ⟨ns, i, s, c⟩) rfl, if_pos (decide_eq_true hc)]
    rw [sSeq_at (sSet_at (e2_at (gg := gMod) (x := .d (.int c)) (y := .d (.int many)) rfl rfl (gMod_eq h0)) rfl)]
    rw [sSeq_at (sRowPut_at (rs2 := ⟨ns, i, s, c / many⟩) (e2_at (gg := gFdiv) (x := .d (.int c)) (y := .d (.int many)) rfl rfl (gFdiv_eq h0 h1)) rfl rfl)]
    rfl
  · have p7 : (0 : Int) < 2147483647 := by decide
    have hn : sIf (eT (e2 gGt (eRow 0 3) (eC (.int 0)))) (sSeq (sSet 2 (e2 gMod (eCall gInt (aCons (eRow 0 3) aNil)) (eVar 1))) (sSeq (sRowPut 0 3 (e2 gFdiv (eRow 0 3) (eVar 1))) (sRetV 2))) sNil [some .row, some (.d (.int many)), none, none] ⟨ns, i, s, c⟩ = some (.nx [some .row, some (.d (.int many)), none, none], ⟨ns, i, s, c⟩) := by
      rw [sIf_at (b := decide (0 < c)) (rs' := ⟨ns, i, s, c⟩) rfl, if_neg (by simpa using hc)]
      rfl
    rw [sSeq_at hn]
    have hi : rowPut 1 ((i : Int) + 1) ⟨ns, i, s, c⟩ = some ⟨ns, i + 1, s, c⟩ := by
      show (if 0 ≤ (i : Int) + 1 then some (⟨ns, ((i : Int) + 1).toNat, s, c⟩ : RS) else none) = _
      rw [if_pos (by omega)]
      have : ((i : Int) + 1).toNat = i + 1 := by omega
      rw [this]
    rw [sSeq_at (sRowPut_at (rs2 := ⟨ns, i + 1, s, c⟩) (v := (i : Int) + 1) rfl rfl hi)]
    have hlen : (ns.map PyData.int).length = ns.length := List.length_map ..
    by_cases hl : (((ns.map PyData.int).length : Nat) : Int) < ((i + 1 : Nat) : Int)
    · refine ⟨⟨ns, i + 1, (s * 48271 + 11) % 2147483647, c⟩, (s * 48271 + 11) % 2147483647 / 7, ?_⟩
      refine sSeq_rt ?_
      rw [sIf_at (b := decide ((((ns.map PyData.int).length : Nat) : Int) < ((i + 1 : Nat) : Int))) (rs' := ⟨ns, i + 1, s, c⟩) rfl, if_pos (decide_eq_true hl)]
      rw [sSeq_at (sRowPut_at (rs2 := ⟨ns, i + 1, (s * 48271 + 11) % 2147483647, c⟩) (v := (s * 48271 + 11) % 2147483647) (e2_at (gg := gMod) (x := .d (.int (s * 48271 + 11))) (y := .d (.int 2147483647)) (by
        show DV.bnd (DV.bnd (e2 gAddA (e2 gMulA (eRow 0 2) (eC (.int 48271))) (eC (.int 11)) _) _) _ _ = _
        unfold DV.bnd
        rw [e2_at (gg := gAddA) (x := .d (.int (s * 48271))) (y := .d (.int 11)) (z := .d (.int (s * 48271 + 11))) (e2_at (gg := gMulA) (x := .d (.int s)) (y := .d (.int 48271)) rfl rfl (gMulI_eq (cMul_r (by decide) (by decide)))) rfl rfl]
        rfl) rfl (gMod_eq p7)) rfl rfl)]
      refine sRet_at (e2_at (gg := gMod) (x := .d (.int ((s * 48271 + 11) % 2147483647 / 7))) (y := .d (.int many)) (by
        show DV.bnd (DV.bnd (e2 gFdiv (eRow 0 2) (eC (.int 7)) _) _) _ _ = _
        unfold DV.bnd
        rw [e2_at (gg := gFdiv) (x := .d (.int ((s * 48271 + 11) % 2147483647))) (y := .d (.int 7)) rfl rfl (gFdiv_eq (by decide) (by decide))]
        rfl) rfl (gMod_eq h0)) rfl
    · have hlt : i < ns.length := by omega
      have hg : (ns.map PyData.int)[i]? = some (.int ns[i]) := by
        rw [List.getElem?_map, List.getElem?_eq_getElem hlt]
        rfl
      have hnn : sIf (eT (e2 gGt (eRow 0 1) (eCall gLen (aCons (eRow 0 0) aNil)))) (sSeq (sRowPut 0 2 (e2 gMod (eCall gInt (aCons (e2 gAddA (e2 gMulA (eRow 0 2) (eC (.int 48271))) (eC (.int 11))) aNil)) (eC (.int 2147483647)))) (sRet (e2 gMod (eCall gInt (aCons (e2 gFdiv (eRow 0 2) (eC (.int 7))) aNil)) (eVar 1)))) sNil [some .row, some (.d (.int many)), none, none] ⟨ns, i + 1, s, c⟩ = some (.nx [some .row, some (.d (.int many)), none, none], ⟨ns, i + 1, s, c⟩) := by
        rw [sIf_at (b := decide ((((ns.map PyData.int).length : Nat) : Int) < ((i + 1 : Nat) : Int))) (rs' := ⟨ns, i + 1, s, c⟩) rfl, if_neg (by simpa using hl)]
        rfl
      rw [sSeq_at hnn]
      have hix : gIx (.d (.list (ns.map PyData.int))) (.d (.int (((i + 1 : Nat) : Int) - 1))) = some (.d (.int ns[i])) := by
        show (atI (ns.map PyData.int) (((i + 1 : Nat) : Int) - 1)).map RV.d = _
        have e1 : (((i + 1 : Nat) : Int) - 1) = (i : Int) := by omega
        rw [e1, atI_nat hg]
        rfl
      rw [sSeq_at (sSet_at (sv := .d (.int ns[i])) (e2_at (gg := gIx) (x := .d (.list (ns.map PyData.int))) (y := .d (.int (((i + 1 : Nat) : Int) - 1))) rfl rfl hix) rfl)]
      rw [sSeq_at (sRowPut_at (rs2 := ⟨ns, i + 1, (s * 48271 + ns[i] + 11) % 2147483647, c⟩) (v := (s * 48271 + ns[i] + 11) % 2147483647) (e2_at (gg := gMod) (x := .d (.int (s * 48271 + ns[i] + 11))) (y := .d (.int 2147483647)) (by
        show DV.bnd (DV.bnd (e2 gAddA (e2 gAddA (e2 gMulA (eRow 0 2) (eC (.int 48271))) (eVar 3)) (eC (.int 11)) _) _) _ _ = _
        unfold DV.bnd
        rw [e2_at (gg := gAddA) (x := .d (.int (s * 48271 + ns[i]))) (y := .d (.int 11)) (z := .d (.int (s * 48271 + ns[i] + 11))) (e2_at (gg := gAddA) (x := .d (.int (s * 48271))) (y := .d (.int ns[i])) (e2_at (gg := gMulA) (x := .d (.int s)) (y := .d (.int 48271)) rfl rfl (gMulI_eq (cMul_r (by decide) (by decide)))) rfl rfl) rfl rfl]
        rfl) rfl (gMod_eq p7)) rfl rfl)]
      have hp : e2 gPow (eC (.int 10)) (eC (.int 18)) [some .row, some (.d (.int many)), none, some (SV.d (.int ns[i]))] ⟨ns, i + 1, (s * 48271 + ns[i] + 11) % 2147483647, c⟩ = some (.d (.int (1000000000000000000 : Int)), ⟨ns, i + 1, (s * 48271 + ns[i] + 11) % 2147483647, c⟩) := by
        refine e2_at rfl rfl ?_
        show (if cPow 10 18 = true then some (RV.d (.int ((10 : Int) ^ (18 : Int).toNat))) else none) = _
        rw [if_pos (by decide +kernel)]
        rfl
      have fin : ∀ c', sRet (e2 gMod (eCall gInt (aCons (eVar 3) aNil)) (eVar 1)) [some .row, some (.d (.int many)), none, some (SV.d (.int ns[i]))] ⟨ns, i + 1, (s * 48271 + ns[i] + 11) % 2147483647, c'⟩ = some (.rt (.d (.int (ns[i] % many))), ⟨ns, i + 1, (s * 48271 + ns[i] + 11) % 2147483647, c'⟩) := fun c' =>
        sRet_at (e2_at (gg := gMod) (x := .d (.int ns[i])) (y := .d (.int many)) rfl rfl (gMod_eq h0)) rfl
      have hge : (eT (e2 gGe (eVar 3) (e2 gPow (eC (.int 10)) (eC (.int 18))))) [some .row, some (.d (.int many)), none, some (SV.d (.int ns[i]))] ⟨ns, i + 1, (s * 48271 + ns[i] + 11) % 2147483647, c⟩ = some (decide ((1000000000000000000 : Int) ≤ ns[i]), ⟨ns, i + 1, (s * 48271 + ns[i] + 11) % 2147483647, c⟩) := by
        unfold eT
        unfold DV.bnd
        rw [e2_at (gg := gGe) (x := .d (.int ns[i])) rfl hp rfl]
        rfl
      by_cases hb : (1000000000000000000 : Int) ≤ ns[i]
      · refine ⟨⟨ns, i + 1, (s * 48271 + ns[i] + 11) % 2147483647, ns[i] / many⟩, ns[i], ?_⟩
        rw [sSeq_at (rs' := ⟨ns, i + 1, (s * 48271 + ns[i] + 11) % 2147483647, ns[i] / many⟩) (by
          show sIf _ _ _ [some .row, some (.d (.int many)), none, some (SV.d (.int ns[i]))] _ = _
          rw [sIf_at hge, if_pos (decide_eq_true hb)]
          exact sRowPut_at (e2_at (gg := gFdiv) (x := .d (.int ns[i])) (y := .d (.int many)) rfl rfl (gFdiv_eq h0 h1)) rfl rfl)]
        exact fin _
      · refine ⟨⟨ns, i + 1, (s * 48271 + ns[i] + 11) % 2147483647, c⟩, ns[i], ?_⟩
        rw [sSeq_at (rs' := ⟨ns, i + 1, (s * 48271 + ns[i] + 11) % 2147483647, c⟩) (by
          show sIf _ _ _ [some .row, some (.d (.int many)), none, some (SV.d (.int ns[i]))] _ = _
          rw [sIf_at hge, if_neg (by simpa using hb)]
          rfl)]
        exact fin _
theorem taken_eq (many : Int) (h0 : 0 < many) (h1 : many < 1073741824) : Gives (m__law_taken [.row, .d (.int many)]) fun r => ∃ i : Int, r = .d (.int i) ∧ 0 ≤ i ∧ i < many := by
  intro rs
  obtain ⟨rs', x, e⟩ := taken_at many h0 h1 rs
  refine ⟨_, rs', ?_, _, rfl, Int.emod_nonneg x (by omega), Int.emod_lt_of_pos x h0⟩
  show DV.bnd (g__law_taken [some .row, some (.d (.int many)), none, none]) _ rs = _
  unfold DV.bnd
  rw [e]
  rfl
end DVL
namespace DV
open PySem L2
section
variable {α : Type} {ρ : Env} {P : RV → Prop} {Q : Out → Prop} {PA : List RV → Prop} {PB : Bool → Prop} {f h k : Env → M RV} {fa : Env → M (List RV)} {g g2 : Env → M Out} {t t2 : Env → M Bool} {x : RV}
theorem gv_eq {m : M α} {P : α → Prop} {a : α} (e : m = ret a) (p : P a) : Gives m P := by rw [e]; exact Gives.ret p
theorem gv_var {i : Nat} (e : vget ρ i = some x) (p : P x) : Gives (eVar i ρ) P := gv_eq (by unfold eVar; rw [e]; rfl) p
theorem gv_c {d : D} (p : P (.d d)) : Gives (eC d ρ) P := Gives.ret p
theorem gv_e2 {gg : RV → RV → Option RV} (p : Gives (f ρ) fun x => Gives (h ρ) fun y => ∃ z, gg x y = some z ∧ P z) : Gives (e2 gg f h ρ) P :=
  Gives.bnd p fun x q => Gives.bnd q fun y ⟨z, e, pz⟩ => by rw [e, lft_s]; exact Gives.ret pz
theorem gv_nil (p : PA []) : Gives (aNil ρ) PA := Gives.ret p
theorem gv_cons (p : Gives (f ρ) fun x => Gives (fa ρ) fun xs => PA (x :: xs)) : Gives (aCons f fa ρ) PA := Gives.bnd p fun x q => Gives.bnd q fun xs r => Gives.ret r
theorem gv_star (p : Gives (f ρ) fun x => ∃ ds, items x = some ds ∧ Gives (fa ρ) fun xs => PA (ds.map RV.d ++ xs)) : Gives (aStar f fa ρ) PA :=
  Gives.bnd p fun x ⟨ds, e, q⟩ => by rw [e, lft_s, bnd_ret]; exact Gives.bnd q fun xs r => Gives.ret r
theorem gv_call {gg : List RV → Option RV} (p : Gives (fa ρ) fun xs => ∃ z, gg xs = some z ∧ P z) : Gives (eCall gg fa ρ) P := Gives.bnd p fun xs ⟨z, e, pz⟩ => by rw [e, lft_s]; exact Gives.ret pz
theorem gv_fn {m : List RV → M RV} {n : Nat} (p : Gives (fa ρ) fun xs => xs.length = n ∧ Gives (m (xs.map readable)) P) : Gives (eFn (fun xs => if xs.length = n then m xs else fail) fa ρ) P :=
  Gives.bnd p fun xs ⟨e, q⟩ => by
    show Gives (if (xs.map readable).length = n then m (xs.map readable) else fail) P
    rw [if_pos (by rw [List.length_map]; exact e)]
    exact q
theorem gv_tup (p : Gives (fa ρ) fun xs => ∃ ds, toDs xs = some ds ∧ ds.length ≤ 10000 ∧ P (.d (.tuple ds))) : Gives (eTup fa ρ) P :=
  Gives.bnd p fun xs ⟨ds, e, hl, q⟩ => by rw [e, lft_s, bnd_ret, if_pos hl]; exact Gives.ret q
theorem gv_lst (p : Gives (fa ρ) fun xs => ∃ ds, toDs xs = some ds ∧ ds.length ≤ 10000 ∧ P (.n ds)) : Gives (eLst fa ρ) P :=
  Gives.bnd p fun xs ⟨ds, e, hl, q⟩ => by rw [e, lft_s, bnd_ret, if_pos hl]; exact Gives.ret q
theorem gv_neg (p : Gives (f ρ) fun x => ∃ i, asInt x = some i ∧ P (.d (.int (-i)))) : Gives (eNeg f ρ) P := Gives.bnd p fun x ⟨i, e, q⟩ => by rw [e, lft_s, bnd_ret]; exact Gives.ret q
theorem gv_ifB (p : Gives (f ρ) fun x => ∃ b, asBool x = some b ∧ (b = true → Gives (h ρ) P) ∧ (b = false → Gives (k ρ) P)) : Gives (eIfB f h k ρ) P :=
  Gives.bnd p fun x ⟨b, e, q1, q2⟩ => by
    rw [e, lft_s, bnd_ret]
    cases b with
    | true => rw [if_pos rfl]; exact q1 rfl
    | false => rw [if_neg (by decide)]; exact q2 rfl
theorem gv_ifE (p : Gives (t ρ) fun b => (b = true → Gives (h ρ) P) ∧ (b = false → Gives (k ρ) P)) : Gives (eIf t h k ρ) P :=
  Gives.bnd p fun b ⟨q1, q2⟩ => by
    cases b with
    | true => rw [if_pos rfl]; exact q1 rfl
    | false => rw [if_neg (by decide)]; exact q2 rfl
theorem gv_notB (p : Gives (f ρ) fun x => ∃ b, asBool x = some b ∧ P (.d (.bool (!b)))) : Gives (eNotB f ρ) P := Gives.bnd p fun x ⟨b, e, q⟩ => by rw [e, lft_s, bnd_ret]; exact Gives.ret q
theorem gv_ch {gg g' : RV → RV → Option RV} (p : Gives (f ρ) fun x => Gives (h ρ) fun y => ∃ b, gg x y = some (.d (.bool b)) ∧ (b = true → Gives (k ρ) fun w => ∃ z, g' y w = some z ∧ P z) ∧ (b = false → P (.d (.bool false)))) : Gives (eCh gg g' f h k ρ) P :=
  Gives.bnd p fun x q => Gives.bnd q fun y ⟨b, e, q1, q2⟩ => by
    rw [e, lft_s, bnd_ret]
    show Gives (bnd (lft (some b)) _) P
    rw [lft_s, bnd_ret]
    cases b with
    | true => rw [if_pos rfl]; exact Gives.bnd (q1 rfl) fun w ⟨z, e, pz⟩ => by rw [e, lft_s]; exact Gives.ret pz
    | false => rw [if_neg (by decide)]; exact Gives.ret (q2 rfl)
theorem gv_T (p : Gives (f ρ) fun x => ∃ b, asBool x = some b ∧ PB b) : Gives (eT f ρ) PB := Gives.bnd p fun x ⟨b, e, q⟩ => by rw [e, lft_s]; exact Gives.ret q
theorem gv_not (p : Gives (t ρ) fun b => PB (!b)) : Gives (tNotF t ρ) PB := Gives.bnd p fun b q => Gives.ret q
theorem gv_and (p : Gives (t ρ) fun b => (b = true → Gives (t2 ρ) PB) ∧ (b = false → PB false)) : Gives (tIfT t t2 (tRetB false) ρ) PB := Gives.bnd p fun b ⟨q1, q2⟩ => by
  cases b with
  | true => rw [if_pos rfl]; exact q1 rfl
  | false => rw [if_neg (by decide)]; exact Gives.ret (q2 rfl)
theorem gv_or (p : Gives (t ρ) fun b => (b = true → PB true) ∧ (b = false → Gives (t2 ρ) PB)) : Gives (tIfT t (tRetB true) t2 ρ) PB := Gives.bnd p fun b ⟨q1, q2⟩ => by
  cases b with
  | true => rw [if_pos rfl]; exact Gives.ret (q1 rfl)
  | false => rw [if_neg (by decide)]; exact q2 rfl
/-! statements -/
theorem gv_seq (p : Gives (g ρ) fun o => match o with | .nx ρ' => Gives (g2 ρ') Q | o => Q o) : Gives (sSeq g g2 ρ) Q := Gives.bnd p fun o q => by
  cases o with
  | nx ρ' => exact q
  | rt r => exact Gives.ret q
  | bk r => exact Gives.ret q
  | ct r => exact Gives.ret q
theorem gv_nop (p : Q (.nx ρ)) : Gives (sNil ρ) Q := Gives.ret p
theorem gv_set {i : Nat} (p : Gives (f ρ) fun x => ∃ sv, toS x = some sv ∧ Q (.nx (ρ.set i (some sv)))) : Gives (sSet i f ρ) Q := Gives.bnd p fun x ⟨sv, e, q⟩ => by rw [e, lft_s, bnd_ret]; exact Gives.ret q
theorem gv_rt (p : Gives (f ρ) fun x => ∃ y, toRet x = some y ∧ Q (.rt y)) : Gives (sRet f ρ) Q := Gives.bnd p fun x ⟨y, e, q⟩ => by rw [e, lft_s, bnd_ret]; exact Gives.ret q
theorem gv_rtV {i : Nat} {y : RV} (e : vown ρ i = some y) (q : Q (.rt y)) : Gives (sRetV i ρ) Q := gv_eq (by unfold sRetV; rw [e]; rfl) q
theorem gv_if (p : Gives (t ρ) fun b => (b = true → Gives (g ρ) Q) ∧ (b = false → Gives (g2 ρ) Q)) : Gives (sIf t g g2 ρ) Q := Gives.bnd p fun b ⟨q1, q2⟩ => by
  cases b with
  | true => rw [if_pos rfl]; exact q1 rfl
  | false => rw [if_neg (by decide)]; exact q2 rfl
theorem gv_drop (p : Gives (f ρ) fun _ => Q (.nx ρ)) : Gives (sDrop f ρ) Q := Gives.bnd p fun _ q => Gives.ret q
theorem gv_par {i j : Nat} (p : Gives (fa ρ) fun xs => ∃ x y sx sy, xs = [x, y] ∧ toS x = some sx ∧ toS y = some sy ∧ Q (.nx ((ρ.set i (some sx)).set j (some sy)))) : Gives (sPar i j fa ρ) Q := Gives.bnd p fun xs ⟨x, y, sx, sy, e, e1, e2, q⟩ => by
  subst e
  show Gives (bnd (lft (toS x)) _) Q
  rw [e1, lft_s, bnd_ret, e2, lft_s, bnd_ret]
  exact Gives.ret q
theorem gv_par3 {i j l : Nat} (p : Gives (fa ρ) fun xs => ∃ x y z sx sy sz, xs = [x, y, z] ∧ toS x = some sx ∧ toS y = some sy ∧ toS z = some sz ∧ Q (.nx (((ρ.set i (some sx)).set j (some sy)).set l (some sz)))) : Gives (sPar3 i j l fa ρ) Q := Gives.bnd p fun xs ⟨x, y, z, sx, sy, sz, e, e1, e2, e3, q⟩ => by
  subst e
  show Gives (bnd (lft (toS x)) _) Q
  rw [e1, lft_s, bnd_ret, e2, lft_s, bnd_ret, e3, lft_s, bnd_ret]
  exact Gives.ret q
theorem gv_stup {hh : D → Env → Option Env} (p : Gives (f ρ) fun x => ∃ d ρ', x = .d d ∧ hh d ρ = some ρ' ∧ Q (.nx ρ')) : Gives (sTup f hh ρ) Q := Gives.bnd p fun x ⟨d, ρ', e, e1, q⟩ => by
  subst e
  show Gives (bnd (lft (hh d ρ)) _) Q
  rw [e1, lft_s, bnd_ret]
  exact Gives.ret q
theorem gv_aug {i : Nat} {kf : Int → Int → Int} {y : RV} {a : Int} (e1 : vget ρ i = some y) (e2 : asInt y = some a) (p : Gives (f ρ) fun x => ∃ b, asInt x = some b ∧ Q (.nx (ρ.set i (some (.d (.int (kf a b))))))) : Gives (sAug i kf f ρ) Q := by
  unfold sAug
  rw [e1, lft_s, bnd_ret, e2, lft_s, bnd_ret]
  exact Gives.bnd p fun x ⟨b, e, q⟩ => by rw [e, lft_s, bnd_ret]; exact Gives.ret q
theorem gv_app {i : Nat} {ds : List D} (e1 : sApp.own? ρ i = some ds) (hl : ds.length < 10000) (p : Gives (f ρ) fun x => ∃ d, toD x = some d ∧ Q (.nx (ρ.set i (some (.o (ds ++ [d])))))) : Gives (sApp i f ρ) Q := by
  unfold sApp
  rw [e1, lft_s, bnd_ret]
  exact Gives.bnd p fun x ⟨d, e, q⟩ => by rw [e, lft_s, bnd_ret, if_pos hl]; exact Gives.ret q
theorem gv_popApp {i j : Nat} {ds es : List D} (e1 : sApp.own? ρ i = some ds) (e2 : sApp.own? ρ j = some es) (hl : ds.length < 10000 ∧ i ≠ j)
    (p : Gives (f ρ) fun x => ∃ n kk y, asInt x = some n ∧ popIx es n = some (kk, y) ∧ Q (.nx ((ρ.set j (some (.o (es.eraseIdx kk)))).set i (some (.o (ds ++ [y])))))) : Gives (sPopApp i j f ρ) Q := by
  unfold sPopApp
  rw [e1, lft_s, bnd_ret, e2, lft_s, bnd_ret]
  exact Gives.bnd p fun x ⟨n, kk, y, e, e3, q⟩ => by rw [e, lft_s, bnd_ret, e3, lft_s, bnd_ret, if_pos hl]; exact Gives.ret q
theorem gv_for {fi : Env → M (List D × Option Nat)} {tg : D → Env → Option Env} {its : List D} {lk : Option Nat} (e : fi ρ = ret (its, lk)) (p : Gives (loopF tg g its (lockE ρ lk)) fun o => Q (unlockO ρ lk o)) : Gives (sFor fi tg g ρ) Q := by
  unfold sFor
  rw [e, bnd_ret]
  exact Gives.bnd p fun o q => Gives.ret q
theorem gv_lc {fi : Env → M (List D × Option Nat)} {vs : List Nat} {tg : D → Env → Option Env} {its : List D} {lk : Option Nat} (e : fi ρ = ret (its, lk)) (hl : its.length ≤ 10000) (p : Gives (lcF tg t h (wipeE ρ vs) its) fun ds => P (.n ds)) : Gives (eLc fi vs tg t h ρ) P := by
  unfold eLc
  rw [e, bnd_ret]
  refine Gives.bnd p fun ds q => ?_
  show Gives (if its.length ≤ 10000 then ret (.n ds) else fail) P
  rw [if_pos hl]
  exact Gives.ret q
theorem gv_run {n : Nat} {xs : List RV} (p : Gives (g (startE n xs)) fun o => match o with | .nx _ => P (.d .none) | .rt r => P r | _ => False) : Gives (runDef n g xs) P := Gives.bnd p fun o q => by
  cases o with
  | nx ρ' => exact Gives.ret q
  | rt r => exact Gives.ret q
  | bk r => exact q.elim
  | ct r => exact q.elim
end
theorem gv_isT {T : TyT} {ρ : Env} {f : Env → M RV} {P : RV → Prop} (p : Gives (f ρ) fun x => ∃ d, viewD x = some d ∧ P (.d (.bool (isT T d)))) : Gives (eIsT T f ρ) P := Gives.bnd p fun x ⟨d, e, q⟩ => by rw [e, lft_s, bnd_ret]; exact Gives.ret q
theorem gv_isT2 {T T2 : TyT} {ρ : Env} {f : Env → M RV} {P : RV → Prop} (p : Gives (f ρ) fun x => ∃ d, viewD x = some d ∧ P (.d (.bool (isT T d || isT T2 d)))) : Gives (eIsT2 T T2 f ρ) P := Gives.bnd p fun x ⟨d, e, q⟩ => by rw [e, lft_s, bnd_ret]; exact Gives.ret q
theorem Gives.wh {t : Env → M Bool} {body : Env → M Out} {Q : Out → Prop} (I : Nat → Env → Prop)
    (hs : ∀ k ρ, I k ρ → Gives (t ρ) fun b => (b = false → Q (.nx ρ)) ∧ (b = true → ∃ j, k = j + 1 ∧ Gives (body ρ) fun o => match o with
      | .nx ρ2 => I j ρ2
      | .ct ρ2 => I j ρ2
      | .bk ρ2 => Q (.nx ρ2)
      | .rt r => Q (.rt r))) : ∀ (k n : Nat) (ρ : Env), k < n → I k ρ → Gives (wloopF t body n ρ) Q
  | k, 0, _, hn, _ => absurd hn (Nat.not_lt_zero _)
  | k, n + 1, ρ, hn, h => by
    unfold wloopF
    refine Gives.bnd (hs k ρ h) fun b ⟨h1, h2⟩ => ?_
    cases b with
    | false => exact Gives.ret (h1 rfl)
    | true =>
      obtain ⟨j, rfl, g⟩ := h2 rfl
      rw [if_pos rfl]
      refine Gives.bnd g fun o ho => ?_
      cases o with
      | nx ρ2 => exact Gives.wh I hs j n ρ2 (by omega) ho
      | ct ρ2 => exact Gives.wh I hs j n ρ2 (by omega) ho
      | bk ρ2 => exact Gives.ret ho
      | rt r => exact Gives.ret ho
/-- a tuple of ints -/
abbrev ti (ns : List Int) : D := .tuple (ns.map PyData.int)
end DV
namespace DVL
open PySem L2 DV
theorem pick_gives (ds : List D) (h0 : 0 < ds.length) (h1 : ds.length ≤ 1000) : Gives (m__law_pick [.row, .b ds]) fun r => ∃ d, d ∈ ds ∧ r = .d d := by
  refine gv_run (gv_rt (gv_e2 (gv_var rfl (gv_fn (gv_cons (gv_var rfl (gv_cons (gv_call (gv_cons (gv_var rfl (gv_nil ⟨_, rfl, gv_nil ⟨rfl, ?_⟩⟩)))))))))))
  refine (taken_eq (ds.length : Nat) (by omega) (by omega)).mono fun r ⟨i, e, h2, h3⟩ => ?_
  subst e
  have hi : i.toNat < ds.length := by omega
  have e1 : atI ds i = some ds[i.toNat] := by
    have := atI_nat (xs := ds) (j := i.toNat) (List.getElem?_eq_getElem hi)
    rwa [Int.toNat_of_nonneg h2] at this
  refine ⟨.d ds[i.toNat], ?_, _, rfl, _, List.getElem_mem hi, rfl⟩
  show (atI ds i).map RV.d = _
  rw [e1]
  rfl
end DVL

/-! plain laws of the shared defs -/
namespace DVL
open PySem L2 DV
def rngI (lo : Int) : Nat → List Int
  | 0 => []
  | n + 1 => lo :: rngI (lo + 1) n
theorem rngI_len : ∀ (lo : Int) (n : Nat), (rngI lo n).length = n
  | _, 0 => rfl
  | lo, n + 1 => congrArg (· + 1) (rngI_len (lo + 1) n)
theorem rngD_eq : ∀ (lo : Int) (n : Nat), rngD lo n = (rngI lo n).map PyData.int
  | _, 0 => rfl
  | lo, n + 1 => by
    show PyData.int lo :: rngD (lo + 1) n = PyData.int lo :: (rngI (lo + 1) n).map PyData.int
    rw [rngD_eq]
theorem mem_rngI (k : Int) : ∀ (lo : Int) (n : Nat), k ∈ rngI lo n ↔ lo ≤ k ∧ k < lo + n
  | lo, 0 => by
    simp [rngI]
    try omega
  | lo, n + 1 => by
    rw [rngI, List.mem_cons, mem_rngI k (lo + 1) n]
    omega
theorem rngI_nodup : ∀ (lo : Int) (n : Nat), (rngI lo n).Nodup
  | _, 0 => .nil
  | lo, n + 1 => List.nodup_cons.mpr ⟨fun h => by
      have := ((mem_rngI lo (lo + 1) n).mp h).1
      omega, rngI_nodup (lo + 1) n⟩
theorem rng1_eq {f : DV.Env → M RV} {ρ : DV.Env} {n : Int} (e : f ρ = ret (.d (.int n))) (h1 : n ≤ 100000) (h2 : -100000 ≤ n) : iRng1F f ρ = ret ((rngI 0 n.toNat).map PyData.int, none) := by
  unfold iRng1F
  rw [e, bnd_ret]
  show bnd (lft (some n)) _ = _
  rw [lft_s, bnd_ret, if_pos ⟨h1, h2⟩, rngD_eq]
theorem var_eq {ρ : DV.Env} {i : Nat} {x : RV} (e : vget ρ i = some x) : eVar i ρ = ret x := by unfold eVar; rw [e]; rfl
theorem eqv_int (a b : Int) : PyData.eqv (.int a) (.int b) = decide (a = b) := by
  simp [PyData.eqv]
  by_cases h : a = b <;> simp [h]
/-! ### draws into tuples -/
theorem all2_ints {α : Type} {p : Int → Prop} : ∀ {xs : List α} {ds : List D}, All2 (fun _ d => ∃ i, d = PyData.int i ∧ p i) xs ds → ∃ js : List Int, ds = js.map PyData.int ∧ js.length = xs.length ∧ ∀ j ∈ js, p j
  | _, _, .nil => ⟨[], rfl, rfl, fun _ h => nomatch h⟩
  | _, _, .cons ⟨i, e, h⟩ t => by
    obtain ⟨js, e2, e3, h2⟩ := all2_ints t
    subst e e2
    refine ⟨i :: js, rfl, congrArg (· + 1) e3, fun j hj => ?_⟩
    rcases List.mem_cons.mp hj with q | q
    · subst q; exact h
    · exact h2 j q
theorem intsOf_map (js : List Int) : intsOf (js.map PyData.int) = some js := ints_map js
/-- [e for _ in range(n)] where e gives an int -/
theorem draws {n i : Nat} {vs : List Nat} {el : DV.Env → M RV} {ρ : DV.Env} {f : DV.Env → M RV} {P : RV → Prop} {p : Int → Prop} (e : f ρ = ret (.d (.int (n : Int)))) (hn : n ≤ 1000)
    (h : ∀ x, DV.Gives (el ((wipeE ρ vs).set i (some (.d x)))) fun r => ∃ j, r = .d (.int j) ∧ p j)
    (k : ∀ js : List Int, js.length = n → (∀ j ∈ js, p j) → P (.d (ti js))) : DV.Gives (eCall gTuple (aCons (eLc (iRng1F f) vs (gNm i) tTrue el) aNil) ρ) P := by
  refine gv_call (gv_cons (gv_lc (rng1_eq e (by omega) (by omega)) (by rw [List.length_map, rngI_len]; omega) ?_))
  refine (DV.Gives.lc (P := fun _ d => ∃ j, d = PyData.int j ∧ p j) _ fun x _ => ⟨(wipeE ρ vs).set i (some (.d x)), rfl, (h x).mono fun r ⟨j, er, pj⟩ => ?_⟩).mono fun ds hd => ?_
  · subst er
    exact ⟨_, rfl, j, rfl, pj⟩
  · obtain ⟨js, rfl, hl, hp⟩ := all2_ints hd
    rw [List.length_map, rngI_len] at hl
    refine gv_nil ⟨_, rfl, k js (by omega) hp⟩
theorem gAddI_eq (i j : Int) : gAddA (.d (.int i)) (.d (.int j)) = some (.d (.int (i + j))) := rfl
theorem gSum_eq (js : List Int) : gSum [.d (ti js)] = some (.d (.int js.sum)) := by
  show (intsOf (js.map PyData.int)).map _ = _
  rw [intsOf_map]
  rfl
structure Jobs (most time : Int) (ts ws dd : List Int) : Prop where
  pos : 1 ≤ ts.length
  len : (ts.length : Int) ≤ most
  lw : ws.length = ts.length
  ld : dd.length = ts.length
  tim : ∀ t ∈ ts, 1 ≤ t ∧ (t ≤ 2 ∨ t ≤ time)
  wei : ∀ t ∈ ws, 0 ≤ t ∧ t ≤ 9
  due : ∀ t ∈ dd, 0 ≤ t ∧ t < ts.sum + 2
theorem sum_le (b : Int) : ∀ ts : List Int, (∀ t ∈ ts, t ≤ b) → ts.sum ≤ b * ts.length
  | [], _ => by simp
  | t :: ts, h => by
    have h1 := h t List.mem_cons_self
    have h2 := sum_le b ts fun x hx => h x (List.mem_cons_of_mem _ hx)
    rw [List.sum_cons, List.length_cons]
    have : b * ((ts.length + 1 : Nat) : Int) = b * ts.length + b := by
      rw [Int.natCast_add, Int.mul_add]; simp
    omega
theorem sum_nn : ∀ ts : List Int, (∀ t ∈ ts, 0 ≤ t) → 0 ≤ ts.sum
  | [], _ => by simp
  | t :: ts, h => by
    have h1 := h t List.mem_cons_self
    have h2 := sum_nn ts fun x hx => h x (List.mem_cons_of_mem _ hx)
    rw [List.sum_cons]
    omega
theorem jobs_gives (most time : Int) (h1 : 1 ≤ most) (h2 : most ≤ 100) (h3 : 1 ≤ time) (h4 : time ≤ 1000) :
    DV.Gives (m__law_jobs [.row, .d (.int most), .d (.int time)]) fun r => ∃ ts ws dd, r = .d (.tuple [ti ts, ti ws, ti dd]) ∧ Jobs most time ts ws dd := by
  refine gv_run (gv_seq (gv_par3 (gv_cons (gv_e2 (gv_c (gv_fn (gv_cons (gv_var rfl (gv_cons (gv_var rfl (gv_nil ⟨rfl, ?_⟩)))))))))))
  refine (taken_eq most (by omega) (by omega)).mono fun r ⟨m, e, m0, m1⟩ => ?_
  subst e
  refine ⟨_, rfl, gv_cons (gv_fn (gv_cons (gv_var rfl (gv_cons (gv_lst (gv_cons (gv_c (gv_cons (gv_var rfl (gv_nil ⟨_, rfl, (by show (_ : Nat) ≤ _; simp), gv_nil ⟨rfl, ?_⟩⟩)))))))))) ⟩
  refine (pick_gives [.int 2, .int time] (by simp) (by simp)).mono fun r ⟨d, hd, e⟩ => ?_
  subst e
  have htop : ∃ top : Int, d = .int top ∧ 1 ≤ top ∧ (top ≤ 2 ∨ top ≤ time) := by
    rcases List.mem_cons.mp hd with q | q
    · exact ⟨2, q, by omega, .inl (by omega)⟩
    · rcases List.mem_cons.mp q with q | q
      · exact ⟨time, q, h3, .inr (by omega)⟩
      · cases q
  obtain ⟨top, rfl, t1, t2⟩ := htop
  refine gv_cons (gv_fn (gv_cons (gv_var rfl (gv_cons (gv_lst (gv_cons (gv_c (gv_cons (gv_c (gv_cons (gv_c (gv_nil ⟨_, rfl, (by show (_ : Nat) ≤ _; simp), gv_nil ⟨rfl, ?_⟩⟩)))))))))) )) 
  refine (pick_gives [.int 1, .int 3, .int 9] (by simp) (by simp)).mono fun r ⟨d, hd, e⟩ => ?_
  subst e
  have hw : ∃ wd : Int, d = .int wd ∧ 1 ≤ wd ∧ wd ≤ 9 := by
    rcases List.mem_cons.mp hd with q | q
    · exact ⟨1, q, by omega, by omega⟩
    · rcases List.mem_cons.mp q with q | q
      · exact ⟨3, q, by omega, by omega⟩
      · rcases List.mem_cons.mp q with q | q
        · exact ⟨9, q, by omega, by omega⟩
        · cases q
  obtain ⟨wd, rfl, w1, w2⟩ := hw
  refine gv_nil ⟨_, _, _, _, _, _, rfl, rfl, rfl, rfl, ?_⟩
  -- the times
  obtain ⟨n, en⟩ : ∃ n : Nat, 1 + m = (n : Int) := ⟨(1 + m).toNat, by omega⟩
  have hn : n ≤ 1000 := by omega
  refine gv_seq (gv_set (draws (n := n) (p := fun t => 1 ≤ t ∧ (t ≤ 2 ∨ t ≤ time)) (by rw [← en]; exact var_eq rfl) hn (fun x => ?_) fun ts htl hts => ?_))
  · refine gv_e2 (gv_c (gv_fn (gv_cons (gv_var rfl (gv_cons (gv_var rfl (gv_nil ⟨rfl, ?_⟩)))))))
    refine (taken_eq top (by omega) (by omega)).mono fun r ⟨i, e, i0, i1⟩ => ?_
    subst e
    exact ⟨_, rfl, _, rfl, by omega, by omega⟩
  refine ⟨_, rfl, ?_⟩
  -- the weights
  refine gv_seq (gv_set (draws (n := n) (p := fun t => 0 ≤ t ∧ t ≤ 9) (by rw [← en]; exact var_eq rfl) hn (fun x => ?_) fun ws hwl hws => ?_))
  · refine gv_fn (gv_cons (gv_var rfl (gv_cons (gv_e2 (gv_var rfl (gv_c ⟨_, rfl, gv_nil ⟨rfl, ?_⟩⟩))))))
    refine (taken_eq (wd + 1) (by omega) (by omega)).mono fun r ⟨i, e, i0, i1⟩ => ?_
    exact ⟨i, e, by omega, by omega⟩
  refine ⟨_, rfl, ?_⟩
  refine gv_seq (gv_set (gv_e2 (gv_call (gv_cons (gv_var rfl (gv_nil ⟨_, gSum_eq ts, gv_c ⟨_, rfl, _, rfl, ?_⟩⟩))))))
  have hb : ts.sum ≤ 1000 * (ts.length : Int) := sum_le 1000 ts fun t ht => by have := hts t ht; omega
  have hb0 : 0 ≤ ts.sum := sum_nn ts fun t ht => by have := hts t ht; omega
  refine gv_seq (gv_set (draws (n := n) (p := fun t => 0 ≤ t ∧ t < ts.sum + 2) (by rw [← en]; exact var_eq rfl) hn (fun x => ?_) fun dd hdl hdd => ?_))
  · refine gv_fn (gv_cons (gv_var rfl (gv_cons (gv_var rfl (gv_nil ⟨rfl, ?_⟩)))))
    refine (taken_eq (ts.sum + 2) (by omega) (by omega)).mono fun r ⟨i, e, i0, i1⟩ => ?_
    exact ⟨i, e, i0, i1⟩
  refine ⟨_, rfl, ?_⟩
  refine gv_rt (gv_tup (gv_cons (gv_var rfl (gv_cons (gv_var rfl (gv_cons (gv_var rfl (gv_nil ⟨_, rfl, (by simp), _, rfl, ts, ws, dd, rfl, ?_⟩))))))))
  exact ⟨by omega, by omega, by omega, by omega, hts, hws, hdd⟩
end DVL

/-! plain laws of the shared defs: orders, checks -/
namespace DVL
open PySem L2 DV
theorem map_eraseIdx {α β : Type} (f : α → β) : ∀ (l : List α) (k : Nat), (l.map f).eraseIdx k = (l.eraseIdx k).map f
  | [], k => by simp
  | x :: l, 0 => rfl
  | x :: l, k + 1 => congrArg (f x :: ·) (map_eraseIdx f l k)
theorem eraseIdx_perm {α : Type} : ∀ (l : List α) (k : Nat) (h : k < l.length), (l[k] :: l.eraseIdx k).Perm l
  | x :: l, 0, _ => .refl _
  | x :: l, k + 1, h => (List.Perm.swap x (l[k]'(by simpa using h)) (l.eraseIdx k)).trans ((eraseIdx_perm l k (by simpa using h)).cons x)
theorem popIx_eq {L : List Int} {i : Int} (h0 : 0 ≤ i) (h1 : i < L.length) (hl : L.length ≤ 1000) : popIx (L.map PyData.int) i = some (i.toNat, .int (L[i.toNat]'(by omega))) := by
  unfold popIx
  rw [if_pos ⟨by omega, by omega⟩]
  have e : seqIndex? i (L.map PyData.int).length = some i.toNat := by
    unfold seqIndex?
    rw [List.length_map]
    have h2 : ¬ i < 0 := by omega
    simp [h2, h0, h1]
  rw [e]
  show ((L.map PyData.int)[i.toNat]?).map _ = _
  rw [List.getElem?_map, List.getElem?_eq_getElem (by omega)]
  rfl
theorem order_gives (n : Nat) (hn : n ≤ 1000) : DV.Gives (m__law_order [.row, .d (.int (n : Int))]) fun r => ∃ p : List Int, r = .d (ti p) ∧ p.Perm (rngI 0 n) := by
  refine gv_run (gv_seq (gv_par (gv_cons (f := eListRg (rg1F (eVar 1))) ?_)))
  have e0 : eListRg (rg1F (eVar 1)) (startE 5 [RV.row, RV.d (.int (n : Int))]) = DV.ret (RV.n ((rngI 0 n).map PyData.int)) := by
    show bnd (bnd (DV.ret (RV.d (.int (n : Int)))) _) _ = _
    rw [bnd_ret]
    show bnd (bnd (lft (some (n : Int))) _) _ = _
    rw [lft_s, bnd_ret, bnd_ret, if_pos (by unfold okRg; simp; omega)]
    have e1 : ((n : Int) - 0).toNat = n := by omega
    show DV.ret (RV.n (rngD 0 ((n : Int) - 0).toNat)) = _
    rw [e1, rngD_eq]
  refine gv_eq e0 (gv_cons (gv_lst (gv_nil ⟨[], rfl, by simp, gv_nil ⟨_, _, _, _, rfl, rfl, rfl, ?_⟩⟩)))
  refine gv_seq (gv_for (its := (rngI 0 n).map PyData.int) (lk := none) (by
    have := rng1_eq (f := eVar 1) (ρ := ((startE 5 [RV.row, RV.d (.int (n : Int))]).set 2 (some (.o ((rngI 0 n).map PyData.int)))).set 3 (some (.o []))) (n := (n : Int)) (var_eq rfl) (by omega) (by omega)
    rwa [Int.toNat_natCast] at this) ?_)
  refine DV.Gives.loop _ (fun xs ρ => ∃ (L Fd : List Int) (y : Option SV), ρ = [some .row, some (.d (.int (n : Int))), some (.o (L.map PyData.int)), some (.o (Fd.map PyData.int)), y] ∧ (Fd ++ L).Perm (rngI 0 n) ∧ xs.length = L.length) _ ⟨rngI 0 n, [], none, rfl, .refl _, by rw [List.length_map]⟩ ?_ ?_
  · rintro x xs ρ ⟨L, Fd, y, rfl, hp, hl⟩
    refine ⟨_, rfl, ?_⟩
    have hlen := hp.length_eq
    rw [List.length_append, rngI_len] at hlen
    rw [List.length_cons] at hl
    refine gv_popApp (ds := Fd.map PyData.int) (es := L.map PyData.int) rfl rfl ⟨by rw [List.length_map]; omega, by decide⟩ ?_
    refine gv_fn (gv_cons (gv_var rfl (gv_cons (gv_call (gv_cons (gv_var rfl (gv_nil ⟨_, rfl, gv_nil ⟨rfl, ?_⟩⟩)))))))
    refine (taken_eq ((L.map PyData.int).length : Nat) (by rw [List.length_map]; omega) (by rw [List.length_map]; omega)).mono fun r ⟨i, e, i0, i1⟩ => ?_
    subst e
    rw [List.length_map] at i1
    refine ⟨i, i.toNat, _, rfl, popIx_eq i0 i1 (by omega), ?_⟩
    refine ⟨L.eraseIdx i.toNat, Fd ++ [L[i.toNat]'(by omega)], some (.d x), ?_, ?_, ?_⟩
    · rw [← map_eraseIdx, List.map_append]
      rfl
    · rw [List.append_assoc]
      exact (List.Perm.append_left Fd (eraseIdx_perm L i.toNat (by omega))).trans hp
    · rw [List.length_eraseIdx_of_lt (by omega)]
      omega
  · rintro ρ ⟨L, Fd, y, rfl, hp, hl⟩
    have hL : L = [] := List.eq_nil_of_length_eq_zero hl.symm
    subst hL
    rw [List.append_nil] at hp
    refine gv_rt (gv_call (gv_cons (gv_var rfl (gv_nil ⟨_, rfl, _, rfl, Fd, rfl, hp⟩))))
/-! checks of right values -/
theorem is_integer_i (i : Int) : m_is_integer [.d (.int i)] = ret (.d (.bool true)) := rfl
theorem is_in_ok {i a b : Int} (h1 : a ≤ i) (h2 : i ≤ b) : m_is_in [.d (.int i), .d (.int a), .d (.int b)] = ret (.d (.bool true)) := by
  simp [m_is_in, runDef, g_is_in, sRet, eIfB, eFn, aCons, aNil, eVar, bnd_bnd, bnd_ret, lft_s, startE, toK, vget, readable, is_integer_i, asBool, eCh, gLe, gI, asInt, h1, h2, toRet]
theorem is_list_ok {ds : List D} {a b : Int} (h1 : a ≤ ds.length) (h2 : (ds.length : Int) ≤ b) : m_is_list [.d (.tuple ds), .d (.int a), .d (.int b)] = ret (.d (.bool true)) := by
  simp [m_is_list, runDef, g_is_list, sRet, eIfB, eCall, aCons, aNil, eVar, eIsT, viewD, isT, bnd_bnd, bnd_ret, lft_s, startE, toK, vget, readable, asBool, eCh, gLe, gI, asInt, gLen, DV.c1, items, h1, h2, toRet]
theorem enumD_cons (k : Nat) (x : D) (xs : List D) : enumD k (x :: xs) = .tuple [.int (k : Nat), x] :: enumD (k + 1) xs := rfl
theorem first_bad_ok (ns : List Int) (lo hi : Int) (hn : ns.length ≤ 1000) (h : ∀ t ∈ ns, lo ≤ t ∧ t ≤ hi) : DV.Gives (m_first_bad [.d (ti ns), .d (.int (ns.length : Nat)), .d (.int lo), .d (.int hi)]) fun r => r = .d (.int (-1)) := by
  refine gv_run (gv_seq (gv_if (gv_not (gv_T (gv_fn (gv_cons (gv_var rfl (gv_cons (gv_var rfl (gv_cons (gv_var rfl (gv_nil ⟨rfl, ?_⟩))))))))))))
  refine gv_eq (is_list_ok (by rw [List.length_map]; omega) (by rw [List.length_map]; omega)) ⟨true, rfl, (fun q => nomatch q), fun _ => gv_nop ?_⟩
  refine gv_seq (gv_for (its := enumD 0 (ns.map PyData.int)) (lk := none) rfl ?_)
  refine DV.Gives.loop _ (fun xs ρ => ∃ (k : Nat) (ms : List Int) (y z : Option SV), xs = enumD k (ms.map PyData.int) ∧ (∀ t ∈ ms, lo ≤ t ∧ t ≤ hi) ∧ ρ = [some (.d (ti ns)), some (.d (.int (ns.length : Nat))), some (.d (.int lo)), some (.d (.int hi)), y, z]) _ ⟨0, ns, none, none, rfl, h, rfl⟩ ?_ ?_
  · rintro x xs ρ ⟨k, ms, y, z, e, hm, rfl⟩
    cases ms with
    | nil => cases e
    | cons t ms =>
      cases e
      refine ⟨_, rfl, gv_if (gv_not (gv_T (gv_fn (gv_cons (gv_var rfl (gv_cons (gv_var rfl (gv_cons (gv_var rfl (gv_nil ⟨rfl, ?_⟩))))))))))⟩
      have ht := hm t List.mem_cons_self
      refine gv_eq (is_in_ok ht.1 ht.2) ⟨true, rfl, (fun q => nomatch q), fun _ => gv_nop ?_⟩
      exact ⟨k + 1, ms, _, _, rfl, fun u hu => hm u (List.mem_cons_of_mem _ hu), rfl⟩
  · rintro ρ ⟨k, ms, y, z, e, hm, rfl⟩
    exact gv_rt (gv_neg (gv_c ⟨1, rfl, _, rfl, rfl⟩))
theorem need_times_ok (ns : List Int) (h1 : 1 ≤ ns.length) (h2 : ns.length ≤ 10) (h : ∀ t ∈ ns, 1 ≤ t ∧ t ≤ 60) : DV.Gives (m_need_times [.d (ti ns)]) fun r => r = .d .none := by
  refine gv_run (gv_seq (gv_if (gv_not (gv_T (gv_fn (gv_cons (gv_var rfl (gv_cons (gv_c (gv_cons (gv_c (gv_nil ⟨rfl, ?_⟩))))))))))))
  refine gv_eq (is_list_ok (by rw [List.length_map]; omega) (by rw [List.length_map]; omega)) ⟨true, rfl, (fun q => nomatch q), fun _ => gv_nop ?_⟩
  refine gv_seq (gv_set (gv_fn (gv_cons (gv_var rfl (gv_cons (gv_call (gv_cons (gv_var rfl (gv_nil ⟨_, rfl, ?_⟩)))))))))
  refine gv_cons (gv_c (gv_cons (gv_c (gv_nil ⟨rfl, ?_⟩))))
  have fb := first_bad_ok ns 1 60 (by omega) h
  have hl : (ns.map PyData.int).length = ns.length := List.length_map ..
  rw [← hl] at fb
  refine fb.mono fun r e => ?_
  subst e
  refine ⟨_, rfl, gv_if (gv_T (gv_e2 (gv_var rfl (gv_neg (gv_c ⟨1, rfl, _, rfl, false, rfl, (fun q => nomatch q), fun _ => gv_nop rfl⟩)))))⟩
theorem all_true : ∀ n : Nat, (List.replicate n true).all id = true
  | 0 => rfl
  | n + 1 => all_true n
theorem bools_true {α : Type} : ∀ xs : List α, boolsOf (xs.map fun _ => PyData.bool true) = some (List.replicate xs.length true)
  | [] => rfl
  | x :: xs => by
    show (match boolsOf (xs.map fun _ => PyData.bool true) with | some js => some (true :: js) | none => none) = _
    rw [bools_true xs]
    rfl
theorem order_len {p : List Int} {n : Nat} (h : p.Perm (rngI 0 n)) : p.length = n := by rw [h.length_eq, rngI_len]
theorem order_mem {p : List Int} {n : Nat} (h : p.Perm (rngI 0 n)) {k : Int} (hk : k ∈ p) : 0 ≤ k ∧ k < n := by
  have := (mem_rngI k 0 n).mp (h.mem_iff.mp hk)
  omega
theorem order_nodup {p : List Int} {n : Nat} (h : p.Perm (rngI 0 n)) : p.Nodup := h.nodup_iff.mpr (rngI_nodup 0 n)
theorem is_order_ok (p : List Int) (n : Nat) (hn : n ≤ 1000) (h : p.Perm (rngI 0 n)) : DV.Gives (m_is_order [.d (ti p), .d (.int (n : Nat))]) fun r => r = .d (.bool true) := by
  have hl := order_len h
  refine gv_run (gv_rt (gv_ifB (gv_fn (gv_cons (gv_var rfl (gv_cons (gv_var rfl (gv_cons (gv_var rfl (gv_nil ⟨rfl, ?_⟩))))))))))
  refine gv_eq (is_list_ok (by rw [List.length_map]; omega) (by rw [List.length_map]; omega)) ⟨true, rfl, fun _ => ?_, (fun q => nomatch q)⟩
  refine gv_ifB (gv_call (gv_cons (gv_lc (its := p.map PyData.int) (lk := none) rfl (by rw [List.length_map]; omega) ?_)))
  rw [lc_eq (fun _ => true) (fun _ => .bool true)]
  · refine DV.Gives.ret (gv_nil ⟨.d (.bool true), ?_, true, rfl, fun _ => ?_, (fun q => nomatch q)⟩)
    · rw [List.filter_eq_self.mpr (fun _ _ => rfl), List.map_map]
      show (boolsOf (p.map fun _ => PyData.bool true)).map _ = _
      rw [bools_true]
      show some (RV.d (.bool ((List.replicate p.length true).all id))) = _
      rw [all_true]
    · refine gv_e2 (f := eLenSet (eVar 0)) (gv_eq (a := .d (.int (n : Nat))) ?_ (gv_var rfl ⟨_, rfl, _, rfl, ?_⟩))
      · show bnd (lft (lenSetOf (.d (ti p)))) _ = _
        have : lenSetOf (.d (ti p)) = some (.int (n : Nat)) := by
          show (match intsOf (p.map PyData.int) with | some js => if js.length ≤ 1000 then some (PyData.int ((ddI js).length : Nat)) else none | none => none) = _
          rw [intsOf_map]
          show (if p.length ≤ 1000 then _ else _) = _
          rw [if_pos (by omega), ddI_of_nodup p (order_nodup h), hl]
        rw [this]
        rfl
      · show RV.d (.bool (PyData.eqv (.int (n : Int)) (.int (n : Int)))) = _
        rw [eqv_int]
        simp
  · intro x hx
    obtain ⟨k, hk, rfl⟩ := List.mem_map.mp hx
    have := order_mem h hk
    refine ⟨_, rfl, rfl, fun _ => ⟨.d (.bool true), ?_, rfl⟩⟩
    show m_is_in [.d (.int k), .d (.int 0), .d (.int ((n : Int) - 1))] = _
    exact is_in_ok (by omega) (by omega)
theorem need_order_ok (p : List Int) (n : Nat) (hn : n ≤ 1000) (h : p.Perm (rngI 0 n)) : DV.Gives (m_need_order [.d (ti p), .d (.int (n : Nat))]) fun r => r = .d .none := by
  refine gv_run (gv_if (gv_not (gv_T (gv_fn (gv_cons (gv_var rfl (gv_cons (gv_var rfl (gv_nil ⟨rfl, ?_⟩)))))))))
  refine (is_order_ok p n hn h).mono fun r e => ?_
  subst e
  exact ⟨true, rfl, (fun q => nomatch q), fun _ => gv_nop rfl⟩
end DVL

/-! plain laws of the shared defs: all orders -/
namespace DVL
open PySem L2 DV
def ext (n : Nat) (ps : List (List Int)) : List (List Int) := ps.flatMap fun p => ((rngI 0 n).filter fun j => !p.elem j).map fun j => p ++ [j]
def ordersI (n : Nat) : Nat → List (List Int)
  | 0 => [[]]
  | k + 1 => ext n (ordersI n k)
theorem mem_ordersI (n : Nat) : ∀ (k : Nat) (p : List Int), p ∈ ordersI n k ↔ p.Nodup ∧ p.length = k ∧ ∀ x ∈ p, 0 ≤ x ∧ x < (n : Int)
  | 0, p => by
    unfold ordersI
    rw [List.mem_singleton]
    constructor
    · rintro rfl
      exact ⟨.nil, rfl, fun _ h => nomatch h⟩
    · rintro ⟨_, h, _⟩
      exact List.eq_nil_of_length_eq_zero h
  | k + 1, p => by
    unfold ordersI ext
    rw [List.mem_flatMap]
    constructor
    · rintro ⟨q, hq, hp⟩
      obtain ⟨j, hj, rfl⟩ := List.mem_map.mp hp
      obtain ⟨h1, h2⟩ := List.mem_filter.mp hj
      obtain ⟨n1, l1, m1⟩ := (mem_ordersI n k q).mp hq
      have hjq : j ∉ q := by simpa using h2
      have hj2 := (mem_rngI j 0 n).mp h1
      refine ⟨?_, by rw [List.length_append, l1]; rfl, fun x hx => ?_⟩
      · rw [List.nodup_append]
        refine ⟨n1, by simp, fun a ha b hb => ?_⟩
        rw [List.mem_singleton] at hb
        subst hb
        exact fun e => hjq (e ▸ ha)
      · rcases List.mem_append.mp hx with z | z
        · exact m1 x z
        · rw [List.mem_singleton] at z
          subst z
          omega
    · rintro ⟨nd, hl, hm⟩
      obtain ⟨q, j, rfl⟩ : ∃ q j, p = q ++ [j] := by
        have hne : p ≠ [] := fun e => by subst e; cases hl
        exact ⟨p.dropLast, p.getLast hne, (List.dropLast_concat_getLast hne).symm⟩
      rw [List.nodup_append] at nd
      rw [List.length_append] at hl
      refine ⟨q, (mem_ordersI n k q).mpr ⟨nd.1, by simpa using hl, fun x hx => hm x (List.mem_append_left _ hx)⟩, List.mem_map.mpr ⟨j, List.mem_filter.mpr ⟨?_, ?_⟩, rfl⟩⟩
      · have := hm j (List.mem_append_right _ (List.mem_singleton.mpr rfl))
        exact (mem_rngI j 0 n).mpr (by omega)
      · have : j ∉ q := fun z => nd.2.2 j z j (List.mem_singleton.mpr rfl) rfl
        cases e : q.elem j with
        | false => rfl
        | true => exact absurd (List.elem_iff.mp e) this
theorem nodup_perm : ∀ {p q : List Int}, p.Nodup → (∀ x ∈ p, x ∈ q) → q.length ≤ p.length → p.Perm q
  | [], q, _, _, hl => by
    have : q = [] := List.eq_nil_of_length_eq_zero (Nat.le_zero.mp hl)
    rw [this]
  | x :: p, q, nd, hs, hl => by
    obtain ⟨h1, h2⟩ := List.nodup_cons.mp nd
    have hx := hs x List.mem_cons_self
    have e := List.perm_cons_erase hx
    refine ((nodup_perm h2 (fun y hy => ?_) ?_).cons x).trans e.symm
    · have hy2 := hs y (List.mem_cons_of_mem _ hy)
      rcases List.mem_cons.mp (e.mem_iff.mp hy2) with z | z
      · exact absurd (z ▸ hy) h1
      · exact z
    · have := e.length_eq
      rw [List.length_cons] at this hl
      omega
theorem perm_of_mem {n : Nat} {p : List Int} (h : p ∈ ordersI n n) : p.Perm (rngI 0 n) := by
  obtain ⟨nd, hl, hm⟩ := (mem_ordersI n n p).mp h
  exact nodup_perm nd (fun x hx => (mem_rngI x 0 n).mpr (by have := hm x hx; omega)) (by rw [rngI_len]; omega)
theorem mem_of_perm {n : Nat} {p : List Int} (h : p.Perm (rngI 0 n)) : p ∈ ordersI n n :=
  (mem_ordersI n n p).mpr ⟨order_nodup h, order_len h, fun x hx => order_mem h hx⟩
theorem canLay_ints : ∀ js : List Int, PyData.canLayAll0 (js.map PyData.int) = true
  | [] => by simp [PyData.canLayAll0]
  | j :: js => by
    rw [List.map_cons, PyData.canLayAll0, canLay_ints js]
    simp [PyData.canLay0]
theorem depth_ints : ∀ js : List Int, PyData.depthAll (js.map PyData.int) = 0
  | [] => by simp [PyData.depthAll]
  | j :: js => by
    rw [List.map_cons, PyData.depthAll, depth_ints js]
    simp [PyData.depth]
theorem shaped_ints (js : List Int) : SeqAt.shaped (.list (js.map PyData.int)) = true := by
  unfold SeqAt.shaped
  rw [PyData.canLay0, canLay_ints, PyData.depth, depth_ints]
  rfl
theorem shaped_intsT (js : List Int) : SeqAt.shaped (ti js) = true := by
  unfold SeqAt.shaped ti
  rw [PyData.canLay0, canLay_ints, PyData.depth, depth_ints]
  rfl
theorem shaped_int (j : Int) : SeqAt.shaped (.int j) = true := by
  unfold SeqAt.shaped
  rw [PyData.canLay0, PyData.depth]
  rfl
theorem any_eqv (j : Int) : ∀ p : List Int, ((p.map PyData.int).any fun z => PyData.eqv z (.int j)) = p.elem j
  | [] => rfl
  | x :: p => by
    rw [List.map_cons, List.any_cons, any_eqv j p, eqv_int]
    by_cases h : x = j
    · subst h; simp
    · have h2 : ¬ j = x := fun e => h e.symm
      simp [h, h2]
theorem notIn_eq (j : Int) (p : List Int) : gNotIn (.d (.int j)) (.d (ti p)) = some (.d (.bool (!p.elem j))) := by
  show (if SeqAt.shaped (.int j) = true then if SeqAt.shaped (.list (p.map PyData.int)) = true then some (RV.d (.bool (!((p.map PyData.int).any fun z => PyData.eqv z (.int j))))) else none else none) = _
  rw [if_pos (shaped_int j), if_pos (shaped_ints p), any_eqv]
theorem eqv_intsA : ∀ xs ys : List Int, PyData.eqvAll (xs.map PyData.int) (ys.map PyData.int) = decide (xs = ys)
  | [], [] => by simp [PyData.eqvAll]
  | [], y :: ys => by simp [PyData.eqvAll]
  | x :: xs, [] => by simp [PyData.eqvAll]
  | x :: xs, y :: ys => by
    rw [List.map_cons, List.map_cons, PyData.eqvAll, eqv_intsA xs ys, eqv_int]
    by_cases h : x = y <;> by_cases h2 : xs = ys <;> simp [h, h2]
theorem eq_lists (neg : Bool) (xs ys : List Int) : gEqB neg (.n (xs.map PyData.int)) (.n (ys.map PyData.int)) = some (.d (.bool (if neg then !decide (xs = ys) else decide (xs = ys)))) := by
  show (if SeqAt.shaped (.list (xs.map PyData.int)) = true then if SeqAt.shaped (.list (ys.map PyData.int)) = true then some (RV.d (.bool (if neg then !PyData.eqv (.list (xs.map PyData.int)) (.list (ys.map PyData.int)) else PyData.eqv (.list (xs.map PyData.int)) (.list (ys.map PyData.int))))) else none else none) = _
  rw [if_pos (shaped_ints _), if_pos (shaped_ints _), PyData.eqv, eqv_intsA]
theorem eq_ints (neg : Bool) (x y : Int) : gEqB neg (.d (.int x)) (.d (.int y)) = some (.d (.bool (if neg then !decide (x = y) else decide (x = y)))) := by
  show (if SeqAt.shaped (.int x) = true then if SeqAt.shaped (.int y) = true then some (RV.d (.bool (if neg then !PyData.eqv (.int x) (.int y) else PyData.eqv (.int x) (.int y)))) else none else none) = _
  rw [if_pos (shaped_int _), if_pos (shaped_int _), eqv_int]
/-! how many -/
def fall (n : Nat) : Nat → Nat
  | 0 => 1
  | k + 1 => fall n k * (n - k)
theorem free_len {n k : Nat} {p : List Int} (h : p ∈ ordersI n k) : ((rngI 0 n).filter fun j => !p.elem j).length = n - k := by
  obtain ⟨nd, hl, hm⟩ := (mem_ordersI n k p).mp h
  have e : (p ++ (rngI 0 n).filter fun j => !p.elem j).Perm (rngI 0 n) := by
    refine (List.perm_ext_iff_of_nodup ?_ (rngI_nodup 0 n)).mpr fun x => ?_
    · rw [List.nodup_append]
      refine ⟨nd, (rngI_nodup 0 n).filter _, fun a ha b hb e => ?_⟩
      subst e
      have := (List.mem_filter.mp hb).2
      simp [ha] at this
    · rw [List.mem_append, List.mem_filter, mem_rngI]
      constructor
      · rintro (z | z)
        · have := hm x z; omega
        · exact z.1
      · intro z
        by_cases q : x ∈ p
        · exact .inl q
        · exact .inr ⟨z, by simp [q]⟩
  have := e.length_eq
  rw [List.length_append, rngI_len] at this
  omega
theorem flat_len {α β : Type} (f : α → List β) (c : Nat) : ∀ l : List α, (∀ x ∈ l, (f x).length = c) → (l.flatMap f).length = l.length * c
  | [], _ => by simp
  | x :: l, h => by
    rw [List.flatMap_cons, List.length_append, h x List.mem_cons_self, flat_len f c l fun y hy => h y (List.mem_cons_of_mem _ hy), List.length_cons, Nat.add_mul]
    omega
theorem orders_len (n : Nat) : ∀ k, (ordersI n k).length = fall n k
  | 0 => rfl
  | k + 1 => by
    unfold ordersI ext fall
    rw [flat_len _ (n - k) _ fun p hp => by rw [List.length_map]; exact free_len hp, orders_len n k]
theorem fall_le : ∀ n : Fin 8, ∀ k : Fin 9, fall n.val k.val ≤ 5040 := by decide +kernel
theorem orders_few {n k : Nat} (hn : n ≤ 7) (hk : k ≤ 8) : (ordersI n k).length ≤ 5040 := by
  rw [orders_len]
  exact fall_le ⟨n, by omega⟩ ⟨k, by omega⟩
/-! the def -/
def tis (ps : List (List Int)) : List D := ps.map ti
theorem orders_gives (n : Nat) (hn : n ≤ 7) : DV.Gives (m__law_orders [.d (.int (n : Nat)), .d (.tuple [])]) fun r => r = .n (tis (ordersI n n)) := by
  refine gv_run (gv_seq (gv_set (gv_lst (gv_cons (gv_tup (gv_nil ⟨[], rfl, by simp, gv_nil ⟨[.tuple []], rfl, by simp, _, rfl, ?_⟩⟩))))))
  refine gv_seq (gv_for (its := (rngI 0 n).map PyData.int) (lk := none) (by
    have := rng1_eq (f := eVar 0) (ρ := (startE 8 [RV.d (.int (n : Int)), RV.d (.tuple [])]).set 2 (some (.o [.tuple []]))) (n := (n : Int)) (var_eq rfl) (by omega) (by omega)
    rwa [Int.toNat_natCast] at this) ?_)
  refine DV.Gives.loop _ (fun xs ρ => ∃ (k : Nat) (y3 y4 y5 y6 y7 : Option SV), ρ = [some (.d (.int (n : Nat))), some (.d (.tuple [])), some (.o (tis (ordersI n k))), y3, y4, y5, y6, y7] ∧ xs.length + k = n) _ ⟨0, none, none, none, none, none, rfl, by rw [List.length_map, rngI_len]; rfl⟩ ?_ ?_
  · rintro x xs ρ ⟨k, y3, y4, y5, y6, y7, rfl, hk⟩
    rw [List.length_cons] at hk
    have hfew : (ordersI n (k + 1)).length ≤ 5040 := orders_few hn (by omega)
    have hfew0 : (ordersI n k).length ≤ 5040 := orders_few hn (by omega)
    refine ⟨_, rfl, gv_seq (gv_set (gv_lst (gv_nil ⟨[], rfl, by simp, _, rfl, ?_⟩)))⟩
    refine gv_seq (gv_for (its := tis (ordersI n k)) (lk := some 2) rfl ?_)
    -- over the parts
    refine DV.Gives.loop _ (fun zs ρ => ∃ (acc qs : List (List Int)) (z5 z6 z7 : Option SV), ρ = [some (.d (.int (n : Nat))), some (.d (.tuple [])), some (.k (tis (ordersI n k))), some (.d x), some (.o (tis acc)), z5, z6, z7] ∧ zs = tis qs ∧ acc ++ ext n qs = ordersI n (k + 1) ∧ ∀ q ∈ qs, q.length ≤ 100) _ ⟨[], ordersI n k, y5, y6, y7, rfl, rfl, rfl, fun q hq => by have := ((mem_ordersI n k q).mp hq).2.1; omega⟩ ?_ ?_
    · rintro z zs ρ ⟨acc, qs, z5, z6, z7, rfl, ez, hacc, hq100⟩
      cases qs with
      | nil => cases ez
      | cons q qs =>
        cases ez
        have hq := hq100 q List.mem_cons_self
        refine ⟨_, rfl, ?_⟩
        refine gv_for (its := (rngI 0 n).map PyData.int) (lk := none) (by
          have := rng1_eq (f := eVar 0) (ρ := [some (.d (.int (n : Nat))), some (.d (.tuple [])), some (.k (tis (ordersI n k))), some (.d x), some (.o (tis acc)), some (.d (ti q)), z6, z7]) (n := (n : Int)) (var_eq rfl) (by omega) (by omega)
          rwa [Int.toNat_natCast] at this) ?_
        -- over the jobs
        refine DV.Gives.loop _ (fun ws ρ => ∃ (acc2 : List (List Int)) (js : List Int) (z6 z7 : Option SV), ρ = [some (.d (.int (n : Nat))), some (.d (.tuple [])), some (.k (tis (ordersI n k))), some (.d x), some (.o (tis acc2)), some (.d (ti q)), z6, z7] ∧ ws = js.map PyData.int ∧ acc2 ++ ((js.filter fun j => !q.elem j).map fun j => q ++ [j]) ++ ext n qs = ordersI n (k + 1)) _ ⟨acc, rngI 0 n, z6, z7, rfl, rfl, by rw [List.append_assoc]; exact hacc⟩ ?_ ?_
        · rintro w ws ρ ⟨acc2, js, z6, z7, rfl, ew, h2⟩
          cases js with
          | nil => cases ew
          | cons j js =>
            cases ew
            refine ⟨_, rfl, ?_⟩
            refine gv_if (gv_and (gv_T (gv_e2 (gv_var rfl (gv_var rfl ⟨_, notIn_eq j q, _, rfl, fun hb => ?_, fun hb => ?_⟩)))))
            · refine gv_T (gv_e2 (f := eLc _ _ _ _ _) (gv_lc (its := []) (lk := none) rfl (by simp) (gv_eq (a := []) rfl ?_)))
              refine gv_lst (gv_nil ⟨[], rfl, by simp, _, eq_lists false [] [], true, rfl, fun _ => ?_, fun q => nomatch q⟩)
              have hlen : acc2.length < 10000 := by
                have := congrArg List.length h2
                rw [List.length_append, List.length_append] at this
                omega
              refine gv_app (ds := tis acc2) rfl (by unfold tis; rw [List.length_map]; exact hlen) (gv_e2 (gv_var rfl (gv_tup (gv_cons (gv_var rfl (gv_nil ⟨[.int j], rfl, by simp, .d (ti (q ++ [j])), ?_, _, rfl, ?_⟩))))))
              · show (if (q.map PyData.int).length + 1 ≤ 10000 then some (RV.d (.tuple (q.map PyData.int ++ [.int j]))) else none) = _
                rw [if_pos (by rw [List.length_map]; omega)]
                unfold ti
                rw [List.map_append]
                rfl
              · refine ⟨acc2 ++ [q ++ [j]], js, some (SV.d (.int j)), z7, ?_, rfl, ?_⟩
                · show _ = [some (SV.d (.int (n : Nat))), some (SV.d (.tuple [])), some (SV.k (tis (ordersI n k))), some (SV.d x), some (SV.o (tis (acc2 ++ [q ++ [j]]))), some (SV.d (ti q)), some (SV.d (.int j)), z7]
                  unfold tis
                  rw [List.map_append]
                  rfl
                · rw [List.filter_cons_of_pos (p := fun j => !q.elem j) hb] at h2
                  rw [← h2]
                  simp
            · refine ⟨(fun q => nomatch q), fun _ => gv_nop ⟨acc2, js, _, z7, rfl, rfl, ?_⟩⟩
              rw [List.filter_cons_of_neg (p := fun j => !q.elem j) (by show ¬ (!q.elem j) = true; rw [hb]; decide)] at h2
              exact h2
        · rintro ρ ⟨acc2, js, z6, z7, rfl, ew, h2⟩
          cases js with
          | nil => exact ⟨acc2, qs, _, z6, z7, rfl, rfl, by simpa using h2, fun r hr => hq100 r (List.mem_cons_of_mem _ hr)⟩
          | cons j js => cases ew
    · rintro ρ ⟨acc, qs, z5, z6, z7, rfl, ez, hacc, _⟩
      cases qs with
      | cons q qs => cases ez
      | nil =>
        have hacc2 : acc = ordersI n (k + 1) := by simpa [ext] using hacc
        subst hacc2
        refine gv_eq (a := Out.nx [some (.d (.int (n : Nat))), some (.d (.tuple [])), some (.o (tis (ordersI n (k + 1)))), some (.d x), none, z5, z6, z7]) rfl ?_
        exact ⟨k + 1, _, _, _, _, _, rfl, by omega⟩
  · rintro ρ ⟨k, y3, y4, y5, y6, y7, rfl, hk⟩
    have hk2 : k = n := by simpa using hk
    subst hk2
    exact gv_rtV rfl rfl
end DVL

/-! plain laws: reading, least of a list, alike -/
namespace DVL
open PySem L2 DV
def val (ts : List Int) (j : Int) : Int := ts.getD j.toNat 0
theorem ix_map {ts : List Int} {j : Int} (h0 : 0 ≤ j) (h1 : j < ts.length) : atI (ts.map PyData.int) j = some (.int (val ts j)) := by
  have hl : j.toNat < ts.length := by omega
  have e : (ts.map PyData.int)[j.toNat]? = some (.int (val ts j)) := by
    rw [List.getElem?_map, List.getElem?_eq_getElem hl]
    unfold val
    rw [List.getD_eq_getElem?_getD, List.getElem?_eq_getElem hl]
    rfl
  have := atI_nat e
  rwa [Int.toNat_of_nonneg h0] at this
theorem gIx_ti {ts : List Int} {j : Int} (h0 : 0 ≤ j) (h1 : j < ts.length) : gIx (.d (ti ts)) (.d (.int j)) = some (.d (.int (val ts j))) := by
  show (atI (ts.map PyData.int) j).map RV.d = _
  rw [ix_map h0 h1]
  rfl
theorem gIx_b {ts : List Int} {j : Int} (h0 : 0 ≤ j) (h1 : j < ts.length) : gIx (.b (ts.map PyData.int)) (.d (.int j)) = some (.d (.int (val ts j))) := by
  show (atI (ts.map PyData.int) j).map RV.d = _
  rw [ix_map h0 h1]
  rfl
theorem val_mem {ts : List Int} {j : Int} (h0 : 0 ≤ j) (h1 : j < ts.length) : val ts j ∈ ts := by
  have hl : j.toNat < ts.length := by omega
  unfold val
  rw [List.getD_eq_getElem?_getD, List.getElem?_eq_getElem hl]
  exact List.getElem_mem hl
theorem cutD_1 (x : D) (xs : List D) : cutD (x :: xs) (some 1) none = xs := by
  unfold cutD
  rw [show HT.sIx (x :: xs).length 0 (some 1) = min 1 (x :: xs).length from HT.sIx_nat (x :: xs).length 0 1, HT.sIx_none]
  rw [show min 1 (x :: xs).length = 1 by
    rw [List.length_cons]
    omega]
  show (List.take ((x :: xs).length - 1) xs) = xs
  rw [List.length_cons, Nat.add_sub_cancel]
  exact List.take_length
/-! the least -/
theorem alike_intsB (js : List Int) : alikeB (js.map PyData.int) = true := by
  unfold alikeB
  rw [depth_ints]
  have h1 : ((js.map PyData.int).all fun x => (js.map PyData.int).all (PySem.W.alike x)) = true := by
    rw [List.all_eq_true]
    intro x hx
    rw [List.all_eq_true]
    intro y hy
    obtain ⟨a, _, rfl⟩ := List.mem_map.mp hx
    obtain ⟨b, _, rfl⟩ := List.mem_map.mp hy
    simp [PySem.W.alike]
  have h2 : ((js.map PyData.int).all fun x => !isNoneD x) = true := by
    rw [List.all_eq_true]
    intro x hx
    obtain ⟨a, _, rfl⟩ := List.mem_map.mp hx
    rfl
  rw [h1, h2]
  rfl
theorem foldl_min (js : List Int) : ∀ a : Int, js.foldl min a ∈ a :: js ∧ js.foldl min a ≤ a ∧ ∀ x ∈ js, js.foldl min a ≤ x := by
  induction js with
  | nil => exact fun a => ⟨List.mem_cons_self, Int.le_refl _, fun _ h => nomatch h⟩
  | cons j js ih =>
    intro a
    obtain ⟨h1, h2, h3⟩ := ih (min a j)
    rw [List.foldl_cons]
    refine ⟨?_, by omega, fun x hx => ?_⟩
    · rcases List.mem_cons.mp h1 with q | q
      · rw [q]
        by_cases h : a ≤ j
        · rw [Int.min_eq_left h]; exact List.mem_cons_self
        · rw [Int.min_eq_right (by omega)]; exact List.mem_cons_of_mem _ List.mem_cons_self
      · exact List.mem_cons_of_mem _ (List.mem_cons_of_mem _ q)
    · rcases List.mem_cons.mp hx with q | q
      · subst q; omega
      · exact h3 x q
theorem gMin_ints (js : List Int) (hne : js ≠ []) : ∃ m, gBest PySem.W.minD [.n (js.map PyData.int)] = some (.d (.int m)) ∧ m ∈ js ∧ ∀ x ∈ js, m ≤ x := by
  cases js with
  | nil => exact absurd rfl hne
  | cons j js =>
    obtain ⟨h1, h2, h3⟩ := foldl_min js j
    refine ⟨js.foldl min j, ?_, h1, fun x hx => ?_⟩
    · show (if alikeB ((j :: js).map PyData.int) = true then some (RV.d (PySem.W.minD (.int j) (js.map PyData.int))) else none) = _
      rw [if_pos (alike_intsB _), PySem.W.minD_ints]
    · rcases List.mem_cons.mp hx with q | q
      · subst q; exact h2
      · exact h3 x q
theorem alike_int (x : Int) : DV.Gives (m__law_alike [.d (.int x), .d (.int x)]) fun r => r = .d (.bool true) := by
  refine gv_run (gv_seq (gv_if (gv_T (gv_isT2 (gv_var rfl ⟨_, rfl, false, rfl, (fun q => nomatch q), fun _ => gv_nop ?_⟩)))))
  refine gv_seq (gv_if (gv_or (gv_T (gv_e2 (gv_var rfl (gv_c ⟨.d (.bool false), rfl, false, rfl, (fun q => nomatch q), fun _ => ?_⟩))))))
  refine gv_T (gv_isT (gv_var rfl ⟨_, rfl, false, rfl, (fun q => nomatch q), fun _ => gv_nop ?_⟩))
  refine gv_rt (gv_ifB (gv_isT (gv_var rfl ⟨_, rfl, true, rfl, (fun _ => ?_), (fun q => nomatch q)⟩)))
  refine gv_ifB (gv_e2 (gv_isT (gv_var rfl ⟨_, rfl, gv_isT (gv_var rfl ⟨_, rfl, .d (.bool true), ?_, true, rfl, (fun _ => ?_), (fun q => nomatch q)⟩)⟩)))
  · simp [gEqB, viewD, isT, SeqAt.shaped, PyData.canLay0, PyData.depth, PyData.eqv]
  · refine gv_e2 (gv_var rfl (gv_var rfl ⟨_, eq_ints false x x, _, rfl, ?_⟩))
    simp
end DVL

/-! plain laws of the defs that raise -/
namespace DVL
open PySem L2 DV
section
variable {ρ : DV.Env} {Q : Except Ex Out → Prop} {PX : Except Ex RV → Prop} {P : RV → Prop} {g h : DV.Env → M (Except Ex Out)} {g0 : DV.Env → M Out} {t : DV.Env → M Bool} {f : DV.Env → M RV} {fx : DV.Env → M (Except Ex RV)} {fa : DV.Env → M (List RV)}
theorem gx_ok (p : DV.Gives (g0 ρ) fun o => Q (.ok o)) : DV.Gives (xOk g0 ρ) Q := Gives.bnd p fun o q => Gives.ret q
theorem gx_seq (p : DV.Gives (g ρ) fun o => match o with | .ok (.nx ρ') => DV.Gives (h ρ') Q | o => Q o) : DV.Gives (xSeq g h ρ) Q := Gives.bnd p fun o q => by
  cases o with
  | error e => exact Gives.ret q
  | ok o =>
    cases o with
    | nx ρ' => exact q
    | rt r => exact Gives.ret q
    | bk r => exact Gives.ret q
    | ct r => exact Gives.ret q
theorem gx_if (p : DV.Gives (t ρ) fun b => (b = true → DV.Gives (g ρ) Q) ∧ (b = false → DV.Gives (h ρ) Q)) : DV.Gives (xIf t g h ρ) Q := Gives.bnd p fun b ⟨q1, q2⟩ => by
  cases b with
  | true => exact q1 rfl
  | false => exact q2 rfl
theorem gx_raise1 {c fl : Str} (p : DV.Gives (f ρ) fun y => ∃ z, y = .d z ∧ Q (.error ⟨c, some (fl, z)⟩)) : DV.Gives (xRaise1 c fl f ρ) Q := Gives.bnd p fun y ⟨z, e, q⟩ => by
  subst e
  exact Gives.ret q
theorem gx_raise0 {c : Str} (q : Q (.error ⟨c, none⟩)) : DV.Gives (xRaise0 c ρ) Q := Gives.ret q
theorem gx_drop (p : DV.Gives (fx ρ) fun y => match y with | .ok _ => Q (.ok (.nx ρ)) | .error e => Q (.error e)) : DV.Gives (xDrop fx ρ) Q := Gives.bnd p fun y q => by
  cases y with
  | ok _ => exact Gives.ret q
  | error e => exact Gives.ret q
theorem gx_ret (p : DV.Gives (fx ρ) fun y => match y with | .ok z => ∃ w, toRet z = some w ∧ Q (.ok (.rt w)) | .error e => Q (.error e)) : DV.Gives (xRet fx ρ) Q := Gives.bnd p fun y q => by
  cases y with
  | ok z =>
    obtain ⟨w, e, q⟩ := q
    show DV.Gives (bnd (lft (toRet z)) _) _
    rw [e, lft_s, bnd_ret]
    exact Gives.ret q
  | error e => exact Gives.ret q
theorem gx_set {i : Nat} (p : DV.Gives (fx ρ) fun y => match y with | .ok z => ∃ sv, toS z = some sv ∧ Q (.ok (.nx (ρ.set i (some sv)))) | .error e => Q (.error e)) : DV.Gives (xSet i fx ρ) Q := Gives.bnd p fun y q => by
  cases y with
  | ok z =>
    obtain ⟨w, e, q⟩ := q
    show DV.Gives (bnd (lft (toS z)) _) _
    rw [e, lft_s, bnd_ret]
    exact Gives.ret q
  | error e => exact Gives.ret q
theorem gx_run {n : Nat} {xs : List RV} (p : DV.Gives (g (startE n xs)) fun o => match o with | .ok (.nx _) => PX (.ok (.d .none)) | .ok (.rt r) => PX (.ok r) | .error e => PX (.error e) | _ => False) : DV.Gives (runDefX n g xs) PX := Gives.bnd p fun o q => by
  cases o with
  | error e => exact Gives.ret q
  | ok o =>
    cases o with
    | nx ρ' => exact Gives.ret q
    | rt r => exact Gives.ret q
    | bk r => exact q.elim
    | ct r => exact q.elim
theorem gx_fn {m : List RV → M (Except Ex RV)} {n : Nat} (p : DV.Gives (fa ρ) fun xs => xs.length = n ∧ DV.Gives (m (xs.map readable)) PX) : DV.Gives (xFn (fun xs => if xs.length = n then m xs else fail) fa ρ) PX :=
  Gives.bnd p fun xs ⟨e, q⟩ => by
    show DV.Gives (if (xs.map readable).length = n then m (xs.map readable) else fail) PX
    rw [List.length_map, if_pos e]
    exact q
theorem gv_err {sv : Ex → Option D} (p : DV.Gives (fx ρ) fun y => match y with | .ok _ => P (.d (.str "")) | .error e => ∃ d, sv e = some d ∧ P (.d d)) : DV.Gives (eErr sv fx ρ) P := Gives.bnd p fun y q => by
  cases y with
  | ok _ => exact Gives.ret q
  | error e =>
    obtain ⟨d, e1, q⟩ := q
    show DV.Gives (bnd (lft (sv e)) _) _
    rw [e1, lft_s, bnd_ret]
    exact Gives.ret q
theorem Gives.loopX {tg : D → DV.Env → Option DV.Env} {body : DV.Env → M (Except Ex Out)} : ∀ (its : List D) (I : List D → DV.Env → Prop) (ρ : DV.Env), I its ρ →
    (∀ x xs ρ, I (x :: xs) ρ → ∃ ρ1, tg x ρ = some ρ1 ∧ DV.Gives (body ρ1) fun o => match o with | .ok (.nx ρ2) => I xs ρ2 | .ok (.ct ρ2) => I xs ρ2 | .ok (.bk ρ2) => Q (.ok (.nx ρ2)) | .ok (.rt r) => Q (.ok (.rt r)) | .error e => Q (.error e)) → (∀ ρ, I [] ρ → Q (.ok (.nx ρ))) → DV.Gives (loopX tg body its ρ) Q
  | [], I, ρ, h, _, k => Gives.ret (k ρ h)
  | x :: xs, I, ρ, h, s, k => by
    obtain ⟨ρ1, e, p⟩ := s x xs ρ h
    show DV.Gives (bnd (lft (tg x ρ)) _) Q
    rw [e, lft_s, bnd_ret]
    refine Gives.bnd p fun o q => ?_
    cases o with
    | error e => exact Gives.ret q
    | ok o =>
      cases o with
      | nx ρ2 => exact Gives.loopX xs I ρ2 q s k
      | ct ρ2 => exact Gives.loopX xs I ρ2 q s k
      | bk ρ2 => exact Gives.ret q
      | rt r => exact Gives.ret q
theorem gx_for {fi : DV.Env → M (List D × Option Nat)} {tg : D → DV.Env → Option DV.Env} {its : List D} {lk : Option Nat} (e : fi ρ = ret (its, lk)) (p : DV.Gives (DV.loopX tg g its (lockE ρ lk)) fun o => Q (unlockX ρ lk o)) : DV.Gives (xFor fi tg g ρ) Q := by
  unfold xFor
  rw [e, bnd_ret]
  exact Gives.bnd p fun o q => Gives.ret q
end
/-! ### values in a range -/
def isIn (lo hi : Int) : D → Bool
  | .int i => decide (lo ≤ i) && decide (i ≤ hi)
  | _ => false
def isInt : D → Bool
  | .int _ => true
  | _ => false
theorem is_integer_d (d : D) : m_is_integer [.d d] = ret (.d (.bool (isInt d))) := by cases d <;> rfl
theorem is_in_d (d : D) (lo hi : Int) : m_is_in [.d d, .d (.int lo), .d (.int hi)] = ret (.d (.bool (isIn lo hi d))) := by
  cases d with
  | int i =>
    simp [m_is_in, runDef, g_is_in, sRet, eIfB, eFn, aCons, aNil, eVar, bnd_bnd, bnd_ret, lft_s, startE, toK, vget, readable, is_integer_d, isInt, asBool, eCh, gLe, gI, asInt, toRet, isIn]
    by_cases h1 : lo ≤ i
    · simp [h1, lft_s, bnd_ret]
    · simp [h1, lft_s, bnd_ret]
  | none => rfl
  | bool _ => rfl
  | str _ => rfl
  | list _ => rfl
  | tuple _ => rfl
  | dict _ => rfl
def isList (lo hi : Int) : D → Bool
  | .tuple ds => decide (lo ≤ ds.length) && decide ((ds.length : Int) ≤ hi)
  | _ => false
theorem is_list_d (d : D) (lo hi : Int) : m_is_list [.d d, .d (.int lo), .d (.int hi)] = ret (.d (.bool (isList lo hi d))) := by
  cases d with
  | tuple ds =>
    simp [m_is_list, runDef, g_is_list, sRet, eIfB, eCall, aCons, aNil, eVar, eIsT, viewD, isT, bnd_bnd, bnd_ret, lft_s, startE, toK, vget, readable, asBool, eCh, gLe, gI, asInt, gLen, DV.c1, items, toRet, isList]
    by_cases h1 : lo ≤ (ds.length : Int)
    · simp [h1, lft_s, bnd_ret]
    · simp [h1, lft_s, bnd_ret]
  | none => rfl
  | bool _ => rfl
  | int _ => rfl
  | str _ => rfl
  | list _ => rfl
  | dict _ => rfl
/-! ### the first bad item -/
theorem first_bad_no {v : D} {many : Int} (lo hi : Int) (h : isList many many v = false) : DV.Gives (m_first_bad [.d v, .d (.int many), .d (.int lo), .d (.int hi)]) fun r => r = .d .none := by
  refine gv_run (gv_seq (gv_if (gv_not (gv_T (gv_fn (gv_cons (gv_var rfl (gv_cons (gv_var rfl (gv_cons (gv_var rfl (gv_nil ⟨rfl, ?_⟩))))))))))))
  refine gv_eq (is_list_d _ _ _) ⟨_, rfl, fun _ => gv_rt (gv_c ⟨_, rfl, rfl⟩), fun q => ?_⟩
  rw [h] at q; cases q
theorem first_bad_at {ds : List D} {many : Int} (lo hi : Int) (h : (ds.length : Int) = many) (o : Option Nat) (ho : ds.findIdx? (fun d => !isIn lo hi d) = o) : DV.Gives (m_first_bad [.d (.tuple ds), .d (.int many), .d (.int lo), .d (.int hi)]) fun r => r = .d (.int (match o with | some k => (k : Int) | none => -1)) := by
  refine gv_run (gv_seq (gv_if (gv_not (gv_T (gv_fn (gv_cons (gv_var rfl (gv_cons (gv_var rfl (gv_cons (gv_var rfl (gv_nil ⟨rfl, ?_⟩))))))))))))
  have hl : isList many many (.tuple ds) = true := by simp [isList, h]
  refine gv_eq (is_list_d _ _ _) ⟨_, rfl, fun q => ?_, fun _ => gv_nop ?_⟩
  · rw [hl] at q; cases q
  refine gv_seq (gv_for (its := enumD 0 ds) (lk := none) rfl ?_)
  refine DV.Gives.loop _ (fun xs ρ => ∃ (k : Nat) (ms : List D) (y z : Option SV), xs = enumD k ms ∧ (match ms.findIdx? (fun d => !isIn lo hi d) with | some j => o = some (k + j) | none => o = none) ∧ ρ = [some (.d (.tuple ds)), some (.d (.int many)), some (.d (.int lo)), some (.d (.int hi)), y, z]) _ ⟨0, ds, none, none, rfl, ?_, rfl⟩ ?_ ?_
  · rw [ho]
    cases o with
    | none => rfl
    | some k => simp
  · rintro x xs ρ ⟨k, ms, y, z, e, hm, rfl⟩
    cases ms with
    | nil => cases e
    | cons t ms =>
      cases e
      refine ⟨_, rfl, gv_if (gv_not (gv_T (gv_fn (gv_cons (gv_var rfl (gv_cons (gv_var rfl (gv_cons (gv_var rfl (gv_nil ⟨rfl, ?_⟩))))))))))⟩
      refine gv_eq (is_in_d _ _ _) ⟨_, rfl, fun q => ?_, fun q => gv_nop ?_⟩
      · refine gv_rtV rfl ?_
        rw [List.findIdx?_cons] at hm
        have q' : isIn lo hi t = false := by simpa using q
        simp only [q', Bool.not_false, if_true] at hm
        obtain rfl := hm
        rfl
      · have q' : isIn lo hi t = true := by simpa using q
        refine ⟨k + 1, ms, _, _, rfl, ?_, rfl⟩
        rw [List.findIdx?_cons] at hm
        simp only [q', Bool.not_true, Bool.false_eq_true, if_false] at hm
        cases e1 : ms.findIdx? (fun d => !isIn lo hi d) with
        | none => rw [e1] at hm; exact hm
        | some j =>
          rw [e1] at hm
          simp only [Option.map_some] at hm
          rw [hm]
          congr 1
          omega
  · rintro ρ ⟨k, ms, y, z, e, hm, rfl⟩
    cases ms with
    | cons t ms => cases e
    | nil =>
      have hm : o = none := hm
      subst hm
      exact gv_rt (gv_neg (gv_c ⟨1, rfl, _, rfl, rfl⟩))
/-! ### needs -/
theorem ne_int (a b : Int) : gNe (.d (.int a)) (.d (.int b)) = some (.d (.bool (!decide (a = b)))) := by
  have := eq_ints true a b
  simpa using this
theorem ne_none (b : Int) : gNe (.d .none) (.d (.int b)) = some (.d (.bool true)) := rfl
/-- a value that is no list of so many in a range, and what is told of it -/
def Bad (many : Int) (lo hi : Int) (v r : D) : Prop := (isList many many v = false ∧ r = .none) ∨ ∃ (ds : List D) (k : Nat), v = .tuple ds ∧ (ds.length : Int) = many ∧ ds.findIdx? (fun d => !isIn lo hi d) = some k ∧ r = .int k
def Good (many : Int) (lo hi : Int) (v : D) : Prop := ∃ ds : List D, v = .tuple ds ∧ (ds.length : Int) = many ∧ ∀ d ∈ ds, isIn lo hi d = true
theorem good_find {ds : List D} {lo hi : Int} (h : ∀ d ∈ ds, isIn lo hi d = true) : ds.findIdx? (fun d => !isIn lo hi d) = none := by
  rw [List.findIdx?_eq_none_iff]
  intro d hd
  rw [h d hd]; rfl
theorem fb_bad {many lo hi : Int} {v r : D} (h : Bad many lo hi v r) : DV.Gives (m_first_bad [.d v, .d (.int many), .d (.int lo), .d (.int hi)]) fun z => z = .d r := by
  rcases h with ⟨h, rfl⟩ | ⟨ds, k, rfl, h1, h2, rfl⟩
  · exact first_bad_no lo hi h
  · exact first_bad_at lo hi h1 _ h2
theorem fb_good {many lo hi : Int} {v : D} (h : Good many lo hi v) : DV.Gives (m_first_bad [.d v, .d (.int many), .d (.int lo), .d (.int hi)]) fun z => z = .d (.int (-1)) := by
  obtain ⟨ds, rfl, h1, h2⟩ := h
  exact first_bad_at lo hi h1 none (good_find h2)
theorem bad_ne {many lo hi : Int} {v r : D} (h : Bad many lo hi v r) : gNe (.d r) (.d (.int (-1))) = some (.d (.bool true)) := by
  rcases h with ⟨_, rfl⟩ | ⟨_, k, _, _, _, rfl⟩
  · rfl
  · rw [ne_int]
    have : ¬ ((k : Int) = -1) := by omega
    simp [this]
theorem need_weights_bad {many : Int} {v r : D} (h : Bad many 0 60 v r) : DV.Gives (mx_need_weights [.d v, .d (.int many)]) fun z => z = .error ⟨"BadWeights", some ("index", r)⟩ := by
  refine gx_run (gx_seq (gx_ok (gv_set (gv_fn (gv_cons (gv_var rfl (gv_cons (gv_var rfl (gv_cons (gv_c (gv_cons (gv_c (gv_nil ⟨rfl, ?_⟩)))))))))))))
  refine (fb_bad h).mono fun z e => ?_
  subst e
  exact ⟨_, rfl, gx_if (gv_T (gv_e2 (gv_var rfl (gv_neg (gv_c ⟨1, rfl, _, bad_ne h, true, rfl, fun _ => gx_raise1 (gv_var rfl ⟨_, rfl, rfl⟩), fun q => nomatch q⟩)))))⟩
theorem need_weights_good {many : Int} {v : D} (h : Good many 0 60 v) : DV.Gives (mx_need_weights [.d v, .d (.int many)]) fun z => z = .ok (.d .none) := by
  refine gx_run (gx_seq (gx_ok (gv_set (gv_fn (gv_cons (gv_var rfl (gv_cons (gv_var rfl (gv_cons (gv_c (gv_cons (gv_c (gv_nil ⟨rfl, ?_⟩)))))))))))))
  refine (fb_good h).mono fun z e => ?_
  subst e
  exact ⟨_, rfl, gx_if (gv_T (gv_e2 (gv_var rfl (gv_neg (gv_c ⟨1, rfl, _, ne_int _ _, false, rfl, (fun q => nomatch q), fun _ => gx_ok (gv_nop rfl)⟩)))))⟩
theorem need_dues_bad {many : Int} {v r : D} (h : Bad many 0 600 v r) : DV.Gives (mx_need_dues [.d v, .d (.int many)]) fun z => z = .error ⟨"BadDues", some ("index", r)⟩ := by
  refine gx_run (gx_seq (gx_ok (gv_set (gv_fn (gv_cons (gv_var rfl (gv_cons (gv_var rfl (gv_cons (gv_c (gv_cons (gv_c (gv_nil ⟨rfl, ?_⟩)))))))))))))
  refine (fb_bad h).mono fun z e => ?_
  subst e
  exact ⟨_, rfl, gx_if (gv_T (gv_e2 (gv_var rfl (gv_neg (gv_c ⟨1, rfl, _, bad_ne h, true, rfl, fun _ => gx_raise1 (gv_var rfl ⟨_, rfl, rfl⟩), fun q => nomatch q⟩)))))⟩
theorem need_dues_good {many : Int} {v : D} (h : Good many 0 600 v) : DV.Gives (mx_need_dues [.d v, .d (.int many)]) fun z => z = .ok (.d .none) := by
  refine gx_run (gx_seq (gx_ok (gv_set (gv_fn (gv_cons (gv_var rfl (gv_cons (gv_var rfl (gv_cons (gv_c (gv_cons (gv_c (gv_nil ⟨rfl, ?_⟩)))))))))))))
  refine (fb_good h).mono fun z e => ?_
  subst e
  exact ⟨_, rfl, gx_if (gv_T (gv_e2 (gv_var rfl (gv_neg (gv_c ⟨1, rfl, _, ne_int _ _, false, rfl, (fun q => nomatch q), fun _ => gx_ok (gv_nop rfl)⟩)))))⟩
theorem need_starts_bad {many : Int} {v r : D} (h : Bad many 0 600 v r) : DV.Gives (mx_need_starts [.d v, .d (.int many)]) fun z => z = .error ⟨"BadStarts", some ("index", r)⟩ := by
  refine gx_run (gx_seq (gx_ok (gv_set (gv_fn (gv_cons (gv_var rfl (gv_cons (gv_var rfl (gv_cons (gv_c (gv_cons (gv_c (gv_nil ⟨rfl, ?_⟩)))))))))))))
  refine (fb_bad h).mono fun z e => ?_
  subst e
  exact ⟨_, rfl, gx_if (gv_T (gv_e2 (gv_var rfl (gv_neg (gv_c ⟨1, rfl, _, bad_ne h, true, rfl, fun _ => gx_raise1 (gv_var rfl ⟨_, rfl, rfl⟩), fun q => nomatch q⟩)))))⟩
theorem need_starts_good {many : Int} {v : D} (h : Good many 0 600 v) : DV.Gives (mx_need_starts [.d v, .d (.int many)]) fun z => z = .ok (.d .none) := by
  refine gx_run (gx_seq (gx_ok (gv_set (gv_fn (gv_cons (gv_var rfl (gv_cons (gv_var rfl (gv_cons (gv_c (gv_cons (gv_c (gv_nil ⟨rfl, ?_⟩)))))))))))))
  refine (fb_good h).mono fun z e => ?_
  subst e
  exact ⟨_, rfl, gx_if (gv_T (gv_e2 (gv_var rfl (gv_neg (gv_c ⟨1, rfl, _, ne_int _ _, false, rfl, (fun q => nomatch q), fun _ => gx_ok (gv_nop rfl)⟩)))))⟩
/-- times: no tuple of 1 to 10, or a bad item -/
def BadT (v r : D) : Prop := (isList 1 10 v = false ∧ r = .none) ∨ ∃ (ds : List D) (k : Nat), v = .tuple ds ∧ 1 ≤ ds.length ∧ ds.length ≤ 10 ∧ ds.findIdx? (fun d => !isIn 1 60 d) = some k ∧ r = .int k
def GoodT (ds : List D) : Prop := 1 ≤ ds.length ∧ ds.length ≤ 10 ∧ ∀ d ∈ ds, isIn 1 60 d = true
theorem need_times_bad {v r : D} (h : BadT v r) : DV.Gives (mx_need_times [.d v]) fun z => z = .error ⟨"BadTimes", some ("index", r)⟩ := by
  refine gx_run (gx_seq (gx_if (gv_not (gv_T (gv_fn (gv_cons (gv_var rfl (gv_cons (gv_c (gv_cons (gv_c (gv_nil ⟨rfl, ?_⟩))))))))))))
  rcases h with ⟨h, rfl⟩ | ⟨ds, k, rfl, h1, h2, h3, rfl⟩
  · refine gv_eq (is_list_d _ _ _) ⟨_, rfl, fun _ => gx_raise1 (gv_c ⟨_, rfl, rfl⟩), fun q => ?_⟩
    rw [h] at q; cases q
  · have hl : isList 1 10 (.tuple ds) = true := by
      simp only [isList, Bool.and_eq_true, decide_eq_true_eq]
      omega
    refine gv_eq (is_list_d _ _ _) ⟨_, rfl, fun q => ?_, fun _ => gx_ok (gv_nop ?_)⟩
    · rw [hl] at q; cases q
    refine gx_seq (gx_ok (gv_set (gv_fn (gv_cons (gv_var rfl (gv_cons (gv_call (gv_cons (gv_var rfl (gv_nil ⟨_, rfl, gv_cons (gv_c (gv_cons (gv_c (gv_nil ⟨rfl, ?_⟩))))⟩))))))))))
    refine (first_bad_at 1 60 rfl _ h3).mono fun z e => ?_
    subst e
    have hne : gNe (.d (.int (k : Int))) (.d (.int (-1))) = some (.d (.bool true)) := by
      rw [ne_int]
      have : ¬ ((k : Int) = -1) := by omega
      simp [this]
    exact ⟨_, rfl, gx_if (gv_T (gv_e2 (gv_var rfl (gv_neg (gv_c ⟨1, rfl, _, hne, true, rfl, fun _ => gx_raise1 (gv_var rfl ⟨_, rfl, rfl⟩), fun q => nomatch q⟩)))))⟩
theorem need_times_good {ds : List D} (h : GoodT ds) : DV.Gives (mx_need_times [.d (.tuple ds)]) fun z => z = .ok (.d .none) := by
  obtain ⟨h1, h2, h3⟩ := h
  refine gx_run (gx_seq (gx_if (gv_not (gv_T (gv_fn (gv_cons (gv_var rfl (gv_cons (gv_c (gv_cons (gv_c (gv_nil ⟨rfl, ?_⟩))))))))))))
  have hl : isList 1 10 (.tuple ds) = true := by
    simp only [isList, Bool.and_eq_true, decide_eq_true_eq]
    omega
  refine gv_eq (is_list_d _ _ _) ⟨_, rfl, fun q => ?_, fun _ => gx_ok (gv_nop ?_)⟩
  · rw [hl] at q; cases q
  refine gx_seq (gx_ok (gv_set (gv_fn (gv_cons (gv_var rfl (gv_cons (gv_call (gv_cons (gv_var rfl (gv_nil ⟨_, rfl, gv_cons (gv_c (gv_cons (gv_c (gv_nil ⟨rfl, ?_⟩))))⟩))))))))))
  refine (first_bad_at 1 60 rfl _ (good_find h3)).mono fun z e => ?_
  subst e
  exact ⟨_, rfl, gx_if (gv_T (gv_e2 (gv_var rfl (gv_neg (gv_c ⟨1, rfl, _, ne_int _ _, false, rfl, (fun q => nomatch q), fun _ => gx_ok (gv_nop rfl)⟩)))))⟩
/-- no order of many -/
def BadO (many : Int) (v : D) : Prop := isList many many v = false ∨ ∃ (ds : List D), v = .tuple ds ∧ ds.length ≤ 1000 ∧ ∃ d ∈ ds, isIn 0 (many - 1) d = false
theorem boolsOf_all (p : D → Bool) : ∀ ds : List D, boolsOf (ds.map fun d => PyData.bool (p d)) = some (ds.map p)
  | [] => rfl
  | d :: ds => by
    have := boolsOf_all p ds
    simp only [List.map_cons]
    unfold boolsOf
    rw [this]
theorem is_order_bad {many : Int} {v : D} (h : BadO many v) : DV.Gives (m_is_order [.d v, .d (.int many)]) fun r => r = .d (.bool false) := by
  refine gv_run (gv_rt (gv_ifB (gv_fn (gv_cons (gv_var rfl (gv_cons (gv_var rfl (gv_cons (gv_var rfl (gv_nil ⟨rfl, ?_⟩))))))))))
  by_cases hl : isList many many v = false
  · exact gv_eq (is_list_d _ _ _) ⟨_, rfl, fun q => (by rw [hl] at q; cases q), fun _ => gv_c ⟨_, rfl, rfl⟩⟩
  · rcases h with h | ⟨ds, rfl, h1, d, hd, hb⟩
    · exact absurd h hl
    refine gv_eq (is_list_d _ _ _) ⟨_, rfl, fun _ => ?_, fun q => absurd q hl⟩
    refine gv_ifB (gv_call (gv_cons (gv_lc (its := ds) (lk := none) rfl (by omega) ?_)))
    refine gv_eq (lc_eq (fun _ => true) (fun d => .bool (isIn 0 (many - 1) d)) ds fun x hx => ⟨_, rfl, rfl, fun _ => ⟨.d (.bool (isIn 0 (many - 1) x)), ?_, rfl⟩⟩) ?_
    · simp [eFn, aCons, aNil, eVar, eC, e2, gSubI, gI, asInt, bnd_bnd, bnd_ret, lft_s, wipeE, startE, toK, vget, readable, is_in_d]
    · have e : (List.filter (fun _ => true) ds) = ds := by simp
      refine gv_nil ⟨.d (.bool ((ds.map fun d => isIn 0 (many - 1) d).all id)), ?_, ?_⟩
      · rw [e]
        show (boolsOf (ds.map fun d => PyData.bool (isIn 0 (many - 1) d))).map _ = _
        rw [boolsOf_all]
        rfl
      · have ha : (ds.map fun d => isIn 0 (many - 1) d).all id = false := by
          rw [List.all_eq_false]
          exact ⟨_, List.mem_map_of_mem hd, by simpa using hb⟩
        rw [ha]
        exact ⟨_, rfl, (fun q => nomatch q), fun _ => gv_c ⟨_, rfl, rfl⟩⟩
theorem need_order_bad {many : Int} {v : D} (h : BadO many v) : DV.Gives (mx_need_order [.d v, .d (.int many)]) fun z => z = .error ⟨"BadOrder", none⟩ := by
  refine gx_run (gx_if (gv_not (gv_T (gv_fn (gv_cons (gv_var rfl (gv_cons (gv_var rfl (gv_nil ⟨rfl, ?_⟩)))))))))
  refine (is_order_bad h).mono fun z e => ?_
  subst e
  exact ⟨_, rfl, fun _ => gx_raise0 rfl, fun q => nomatch q⟩
theorem need_order_good (p : List Int) (n : Nat) (hn : n ≤ 1000) (h : p.Perm (rngI 0 n)) : DV.Gives (mx_need_order [.d (ti p), .d (.int (n : Nat))]) fun z => z = .ok (.d .none) := by
  refine gx_run (gx_if (gv_not (gv_T (gv_fn (gv_cons (gv_var rfl (gv_cons (gv_var rfl (gv_nil ⟨rfl, ?_⟩)))))))))
  refine (is_order_ok p n hn h).mono fun z e => ?_
  subst e
  exact ⟨_, rfl, (fun q => nomatch q), fun _ => gx_ok (gv_nop rfl)⟩
end DVL

/-! plain laws: picks, an item replaced, the words of errors one by one -/
namespace DVL
open PySem L2 DV
section
variable {ρ : DV.Env} {Q : Out → Prop} {P : RV → Prop} {f : DV.Env → M RV} {fl fa : DV.Env → M (List RV)} {ds : List D}
theorem gv_pick (e : vget ρ 1 = some .row) (p : DV.Gives (fl ρ) fun xs => ∃ ds, toDs xs = some ds ∧ 0 < ds.length ∧ ds.length ≤ 1000 ∧ ∀ d ∈ ds, P (.d d)) : DV.Gives (eFn (fun xs => if xs.length = 2 then m__law_pick xs else fail) (aCons (eVar 1) (aCons (eLst fl) aNil)) ρ) P := by
  refine gv_fn (gv_cons (gv_var e (gv_cons (gv_lst (p.mono fun xs ⟨ds, e1, h1, h2, h3⟩ => ⟨ds, e1, by omega, gv_nil ⟨rfl, ?_⟩⟩)))))
  exact (pick_gives ds h1 h2).mono fun r ⟨d, hd, e2⟩ => by
    subst e2
    exact h3 d hd
theorem cutD_to (ds : List D) (k : Int) (h0 : 0 ≤ k) (h1 : k ≤ ds.length) : cutD ds none (some k) = ds.take k.toNat := by
  unfold cutD HT.sIx
  simp only [List.drop_zero, Nat.sub_zero]
  congr 1
  split <;> omega
theorem cutD_from (ds : List D) (k : Int) (h0 : 0 ≤ k) (h1 : k ≤ ds.length) : cutD ds (some k) none = ds.drop k.toNat := by
  unfold cutD HT.sIx
  have e : (if k < 0 then (max 0 (k + ds.length)).toNat else min k.toNat ds.length) = k.toNat := by
    rw [if_neg (by omega)]
    omega
  first
    | (rw [e]; rw [List.take_of_length_le]; rw [List.length_drop]; omega)
    | (simp only []; rw [List.take_of_length_le]; · congr 1; (split <;> omega)
       rw [List.length_drop]; (split <;> omega))
theorem gv_repl {i j : Nat} {k : Int} (e1 : vget ρ i = some (.d (.tuple ds))) (e2' : vget ρ j = some (.d (.int k))) (h0 : 0 ≤ k) (h1 : k < ds.length) (hl : ds.length ≤ 1000) (p : DV.Gives (f ρ) fun x => ∃ d, x = .d d ∧ P (.d (.tuple (ds.set k.toNat d)))) :
    DV.Gives (e2 gAddA (e2 gAddA (eSlice (eVar i) (fun _ => DV.ret none) (ePart (eVar j))) (eTup (aCons f aNil))) (eSlice (eVar i) (ePart (e2 gAddA (eVar j) (eC (.int 1)))) (fun _ => DV.ret none)) ρ) P := by
  have s1 : eSlice (eVar i) (fun _ => DV.ret none) (ePart (eVar j)) ρ = DV.ret (.d (.tuple (ds.take k.toNat))) := by
    unfold eSlice ePart
    rw [var_eq e1, var_eq e2']
    simp only [bnd_ret, asInt, lft_s]
    rw [cutD_to ds k h0 (by omega)]
  have s2 : eSlice (eVar i) (ePart (e2 gAddA (eVar j) (eC (.int 1)))) (fun _ => DV.ret none) ρ = DV.ret (.d (.tuple (ds.drop (k + 1).toNat))) := by
    unfold eSlice ePart e2 eC
    rw [var_eq e1, var_eq e2']
    simp only [bnd_ret, gAddI_eq, asInt, lft_s]
    rw [cutD_from ds (k + 1) (by omega) (by omega)]
  refine gv_e2 (gv_e2 (gv_eq s1 (gv_tup (gv_cons (p.mono fun x ⟨d, e, q⟩ => gv_nil ⟨[d], by rw [e]; rfl, Nat.le_of_ble_eq_true rfl, ?_⟩)))))
  have hk : (k + 1).toNat = k.toNat + 1 := by omega
  refine ⟨.d (.tuple (ds.take k.toNat ++ [d])), ?_, gv_eq s2 ⟨.d (.tuple (ds.set k.toNat d)), ?_, q⟩⟩
  · show (if (ds.take k.toNat).length + 1 ≤ 10000 then some (RV.d (.tuple (ds.take k.toNat ++ [d]))) else none) = _
    rw [if_pos (by rw [List.length_take]; omega)]
  · show (if (ds.take k.toNat ++ [d]).length + (ds.drop (k + 1).toNat).length ≤ 10000 then some (RV.d (.tuple ((ds.take k.toNat ++ [d]) ++ ds.drop (k + 1).toNat))) else none) = _
    rw [if_pos (by rw [List.length_append, List.length_take, List.length_drop, List.length_singleton]; omega), hk]
    congr 3
    rw [List.set_eq_take_append_cons_drop, if_pos (by omega), List.append_assoc]
    rfl
theorem gv_found {i n : Nat} {sv : Ex → Option D} {m : List RV → M (Except Ex RV)} {e : Ex} {d : D} (e1 : vget ρ i = some (.b ds)) (hl : ds.length ≤ 100) (p : DV.Gives (fa ρ) fun xs => xs.length = n ∧ DV.Gives (m (xs.map readable)) fun r => r = .error e) (hd : sv e = some d) (q : Q (.nx (ρ.set i (some (.o (ds ++ [d])))))) :
    DV.Gives (sSet i (e2 gAddA (eVar i) (eLst (aCons (eErr sv (xFn (fun xs => if xs.length = n then m xs else fail) fa)) aNil))) ρ) Q := by
  refine gv_set (gv_e2 (gv_var e1 (gv_lst (gv_cons (gv_err (gx_fn (p.mono fun xs ⟨h1, h2⟩ => ⟨h1, h2.mono fun r er => ?_⟩)))))))
  subst er
  refine ⟨d, hd, gv_nil ⟨[d], rfl, Nat.le_of_ble_eq_true rfl, .n (ds ++ [d]), ?_, _, rfl, q⟩⟩
  show (if ds.length + 1 ≤ 10000 then some (RV.n (ds ++ [d])) else none) = _
  rw [if_pos (by omega)]
theorem gv_found0 {i n : Nat} {sv : Ex → Option D} {m : List RV → M (Except Ex RV)} {e : Ex} {d : D} (p : DV.Gives (fa ρ) fun xs => xs.length = n ∧ DV.Gives (m (xs.map readable)) fun r => r = .error e) (hd : sv e = some d) (q : Q (.nx (ρ.set i (some (.o [d]))))) :
    DV.Gives (sSet i (eLst (aCons (eErr sv (xFn (fun xs => if xs.length = n then m xs else fail) fa)) aNil)) ρ) Q := by
  refine gv_set (gv_lst (gv_cons (gv_err (gx_fn (p.mono fun xs ⟨h1, h2⟩ => ⟨h1, h2.mono fun r er => ?_⟩)))))
  subst er
  exact ⟨d, hd, gv_nil ⟨[d], rfl, Nat.le_of_ble_eq_true rfl, _, rfl, q⟩⟩
theorem gv_foundA {i n : Nat} {sv : Ex → Option D} {m : List RV → M (Except Ex RV)} {e : Ex} {d : D} (e1 : sApp.own? ρ i = some ds) (hl : ds.length ≤ 100) (p : DV.Gives (fa ρ) fun xs => xs.length = n ∧ DV.Gives (m (xs.map readable)) fun r => r = .error e) (hd : sv e = some d) (q : Q (.nx (ρ.set i (some (.o (ds ++ [d])))))) :
    DV.Gives (sApp i (eErr sv (xFn (fun xs => if xs.length = n then m xs else fail) fa)) ρ) Q := by
  refine gv_app e1 (by omega) (gv_err (gx_fn (p.mono fun xs ⟨h1, h2⟩ => ⟨h1, h2.mono fun r er => ?_⟩)))
  subst er
  exact ⟨d, hd, d, rfl, q⟩
end
theorem isIn_int {lo hi i : Int} (h1 : lo ≤ i) (h2 : i ≤ hi) : isIn lo hi (.int i) = true := by
  simp [isIn, h1, h2]
theorem find_repl {p : D → Bool} {xs : List D} {k : Nat} {d : D} (hk : k < xs.length) (hx : ∀ x ∈ xs, p x = false) (hd : p d = true) : (xs.set k d).findIdx? p = some k := by
  rw [List.findIdx?_eq_some_iff_getElem]
  refine ⟨by rw [List.length_set]; exact hk, ?_, fun j hj => ?_⟩
  · rw [List.getElem_set_self]; exact hd
  · rw [List.getElem_set_ne (by omega)]
    have := hx xs[j] (List.getElem_mem _)
    rw [this]
    exact Bool.false_ne_true
theorem bad_repl {ts : List Int} {many lo hi k : Int} {d : D} (hm : (ts.length : Int) = many) (h0 : 0 ≤ k) (h1 : k < many) (ht : ∀ t ∈ ts, lo ≤ t ∧ t ≤ hi) (hd : isIn lo hi d = false) : Bad many lo hi (.tuple ((ts.map PyData.int).set k.toNat d)) (.int k) := by
  refine .inr ⟨_, k.toNat, rfl, by rw [List.length_set, List.length_map]; exact hm, find_repl (by rw [List.length_map]; omega) (fun x hx => ?_) (by rw [hd]; rfl), ?_⟩
  · obtain ⟨t, h, rfl⟩ := List.mem_map.mp hx
    rw [isIn_int (ht t h).1 (ht t h).2]
    rfl
  · congr 1
    omega
theorem badT_repl {ts : List Int} {k : Int} {d : D} (hl1 : 1 ≤ ts.length) (hl2 : ts.length ≤ 10) (h0 : 0 ≤ k) (h1 : k < ts.length) (ht : ∀ t ∈ ts, 1 ≤ t ∧ t ≤ 60) (hd : isIn 1 60 d = false) : BadT (.tuple ((ts.map PyData.int).set k.toNat d)) (.int k) := by
  refine .inr ⟨_, k.toNat, rfl, by rw [List.length_set, List.length_map]; exact hl1, by rw [List.length_set, List.length_map]; exact hl2, find_repl (by rw [List.length_map]; omega) (fun x hx => ?_) (by rw [hd]; rfl), ?_⟩
  · obtain ⟨t, h, rfl⟩ := List.mem_map.mp hx
    rw [isIn_int (ht t h).1 (ht t h).2]
    rfl
  · congr 1
    omega
theorem good_ints {ts : List Int} {many lo hi : Int} (hm : (ts.length : Int) = many) (ht : ∀ t ∈ ts, lo ≤ t ∧ t ≤ hi) : Good many lo hi (ti ts) := by
  refine ⟨_, rfl, by rw [List.length_map]; exact hm, fun x hx => ?_⟩
  obtain ⟨t, h, rfl⟩ := List.mem_map.mp hx
  exact isIn_int (ht t h).1 (ht t h).2
theorem goodT_ints {ts : List Int} (hl1 : 1 ≤ ts.length) (hl2 : ts.length ≤ 10) (ht : ∀ t ∈ ts, 1 ≤ t ∧ t ≤ 60) : GoodT (ts.map PyData.int) := by
  refine ⟨by rw [List.length_map]; exact hl1, by rw [List.length_map]; exact hl2, fun x hx => ?_⟩
  obtain ⟨t, h, rfl⟩ := List.mem_map.mp hx
  exact isIn_int (ht t h).1 (ht t h).2
theorem ne_same {ds : List D} (h : SeqAt.shaped (.list ds) = true) : gNe (.b ds) (.n ds) = some (.d (.bool false)) := by
  show (if SeqAt.shaped (.list ds) = true then if SeqAt.shaped (.list ds) = true then some (RV.d (.bool (if true then !PyData.eqv (.list ds) (.list ds) else PyData.eqv (.list ds) (.list ds)))) else none else none) = _
  rw [if_pos h, if_pos h, PySem.SeqAt.eqv_refl _ (SeqAt.canLay_of_shaped h)]
  rfl
end DVL

/-! plain laws: defs by their first errors -/
namespace DVL
open PySem L2 DV
section
variable {ρ : DV.Env} {m : List RV → M (Except Ex RV)} {n k : Nat} {fa : DV.Env → M (List RV)} {rest g : DV.Env → M (Except Ex Out)} {e : Ex} {xs : List RV}
theorem run_err (h : DV.Gives (g (startE n xs)) fun o => o = .error e) : DV.Gives (runDefX n g xs) fun r => r = .error e := gx_run (h.mono fun o eo => by subst eo; rfl)
/-- the first call raises -/
theorem x_bad (h : DV.Gives (fa ρ) fun ys => ys.length = k ∧ DV.Gives (m (ys.map readable)) fun r => r = .error e) : DV.Gives (xSeq (xDrop (xFn (fun xs => if xs.length = k then m xs else fail) fa)) rest ρ) fun o => o = .error e :=
  gx_seq (gx_drop (gx_fn (h.mono fun ys ⟨h1, h2⟩ => ⟨h1, h2.mono fun r er => by subst er; rfl⟩)))
theorem x_bad1 (h : DV.Gives (fa ρ) fun ys => ys.length = k ∧ DV.Gives (m (ys.map readable)) fun r => r = .error e) : DV.Gives (xDrop (xFn (fun xs => if xs.length = k then m xs else fail) fa) ρ) fun o => o = .error e :=
  gx_drop (gx_fn (h.mono fun ys ⟨h1, h2⟩ => ⟨h1, h2.mono fun r er => by subst er; rfl⟩))
/-- the first call ends -/
theorem x_good {Q : Except Ex Out → Prop} (h : DV.Gives (fa ρ) fun ys => ys.length = k ∧ DV.Gives (m (ys.map readable)) fun r => r = .ok (.d .none)) (h2 : DV.Gives (rest ρ) Q) : DV.Gives (xSeq (xDrop (xFn (fun xs => if xs.length = k then m xs else fail) fa)) rest ρ) Q :=
  gx_seq (gx_drop (gx_fn (h.mono fun ys ⟨h1, h3⟩ => ⟨h1, h3.mono fun r er => by subst er; exact h2⟩)))
theorem x_good1 {Q : Except Ex Out → Prop} (h : DV.Gives (fa ρ) fun ys => ys.length = k ∧ DV.Gives (m (ys.map readable)) fun r => r = .ok (.d .none)) (q : Q (.ok (.nx ρ))) : DV.Gives (xDrop (xFn (fun xs => if xs.length = k then m xs else fail) fa) ρ) Q :=
  gx_drop (gx_fn (h.mono fun ys ⟨h1, h3⟩ => ⟨h1, h3.mono fun r er => by subst er; exact q⟩))
end
theorem notList {ds : List D} {n : Int} (h : (ds.length : Int) ≠ n) : isList n n (.tuple ds) = false := by
  show (decide (n ≤ (ds.length : Int)) && decide ((ds.length : Int) ≤ n)) = false
  by_cases h1 : n ≤ (ds.length : Int)
  · rw [decide_eq_false (by omega : ¬ ((ds.length : Int) ≤ n)), Bool.and_false]
  · rw [decide_eq_false h1, Bool.false_and]
theorem rep_one (d : D) (n : Nat) : (List.replicate n [d]).flatten = List.replicate n d := by
  induction n with
  | zero => rfl
  | succ n ih => rw [List.replicate_succ, List.flatten_cons, ih, List.replicate_succ]; rfl
theorem mul_rep {d : D} {n : Int} (h1 : 1 ≤ n) (h2 : n ≤ 1000) : gMulA (.d (.tuple [d])) (.d (.int n)) = some (.d (.tuple (List.replicate n.toNat d))) := by
  show (if 1 ≤ n ∧ n ≤ 1000 ∧ ([d] : List D).length ≤ 1000 ∧ [d] ≠ [] then some (RV.d (.tuple (List.replicate n.toNat [d]).flatten)) else none) = _
  rw [if_pos ⟨h1, h2, by simp, by simp⟩, rep_one]
theorem listRg_e {f : DV.Env → M RV} {ρ : DV.Env} {n : Nat} (e : f ρ = DV.ret (RV.d (.int (n : Int)))) (hn : n ≤ 1000) : eListRg (rg1F f) ρ = DV.ret (RV.n ((rngI 0 n).map PyData.int)) := by
  unfold eListRg rg1F
  rw [e]
  simp only [bnd_ret, asInt, lft_s]
  have h : okRg 0 (n : Int) = true := by simp [okRg]; omega
  rw [if_pos h, rngD_eq]
  congr 3
theorem tupRg_e {f : DV.Env → M RV} {ρ : DV.Env} {n : Nat} (e : f ρ = DV.ret (RV.d (.int (n : Int)))) (hn : n ≤ 1000) : eTupRg (rg1F f) ρ = DV.ret (RV.d (ti (rngI 0 n))) := by
  unfold eTupRg rg1F
  rw [e]
  simp only [bnd_ret, asInt, lft_s]
  have h : okRg 0 (n : Int) = true := by simp [okRg]; omega
  rw [if_pos h, rngD_eq]
  congr 3
theorem tupRg2_e {f g : DV.Env → M RV} {ρ : DV.Env} {a b : Int} (e : f ρ = DV.ret (RV.d (.int a))) (e2 : g ρ = DV.ret (RV.d (.int b))) (ha : 0 ≤ a ∧ a ≤ 1000) (hb : 0 ≤ b ∧ b ≤ 1000) : eTupRg (rg2F f g) ρ = DV.ret (RV.d (ti (rngI a (b - a).toNat))) := by
  unfold eTupRg rg2F
  rw [e]
  simp only [bnd_ret, asInt, lft_s]
  rw [e2]
  simp only [bnd_ret, asInt, lft_s]
  have h : okRg a b = true := by simp [okRg]; omega
  rw [if_pos h, rngD_eq]
theorem tupRg1_e {g : DV.Env → M RV} {ρ : DV.Env} {n : Nat} (e2 : g ρ = DV.ret (RV.d (.int ((n : Int) + 1)))) (hn : n ≤ 999) : eTupRg (rg2F (eC (.int 1)) g) ρ = DV.ret (RV.d (ti (rngI 1 n))) := by
  have e := tupRg2_e (f := eC (.int 1)) (g := g) (ρ := ρ) (a := 1) (b := (n : Int) + 1) rfl e2 (by decide) (by omega)
  have e3 : ((n : Int) + 1 - 1).toNat = n := by omega
  rw [e3] at e
  exact e
theorem tup_add {ds es : List D} (h : ds.length + es.length ≤ 10000) : gAddA (.d (.tuple ds)) (.d (.tuple es)) = some (.d (.tuple (ds ++ es))) := by
  show (if _ then _ else _) = _
  rw [if_pos h]
/-- a list's items one by one -/
theorem li_c {ρ : DV.Env} {d : D} {fa : DV.Env → M (List RV)} {xs : List RV} (h : fa ρ = DV.ret xs) : aCons (eC d) fa ρ = DV.ret (.d d :: xs) := by
  unfold aCons eC
  rw [bnd_ret, h]; rfl
theorem li {ρ : DV.Env} {f : DV.Env → M RV} {x : RV} {fa : DV.Env → M (List RV)} {xs : List RV} (e : f ρ = DV.ret x) (h : fa ρ = DV.ret xs) : aCons f fa ρ = DV.ret (x :: xs) := by
  unfold aCons
  rw [e, bnd_ret, h]; rfl
theorem li_nil {ρ : DV.Env} : aNil ρ = DV.ret [] := rfl
theorem e2_e {gg : RV → RV → Option RV} {f h : DV.Env → M RV} {ρ : DV.Env} {x y z : RV} (h1 : f ρ = DV.ret x) (h2 : h ρ = DV.ret y) (h3 : gg x y = some z) : e2 gg f h ρ = DV.ret z := by
  unfold e2; rw [h1, bnd_ret, h2, bnd_ret, h3]; rfl
theorem tup1_e {f : DV.Env → M RV} {ρ : DV.Env} {d : D} (h1 : f ρ = DV.ret (.d d)) : eTup (aCons f aNil) ρ = DV.ret (.d (.tuple [d])) := by
  unfold eTup aCons aNil
  rw [h1]; rfl
theorem mul_e {f : DV.Env → M RV} {g : DV.Env → M RV} {ρ : DV.Env} {d : D} {n : Nat} (h1 : f ρ = DV.ret (.d d)) (h2 : g ρ = DV.ret (.d (.int (n : Nat)))) (h3 : 1 ≤ n) (h4 : n ≤ 1000) : e2 gMulA (eTup (aCons f aNil)) g ρ = DV.ret (.d (.tuple (List.replicate n d))) :=
  e2_e (tup1_e h1) h2 (by rw [mul_rep (by omega) (by omega), Int.toNat_natCast])
theorem add1_e {i : Nat} {ρ : DV.Env} {ds : List D} {f : DV.Env → M RV} {d : D} (h1 : vget ρ i = some (.d (.tuple ds))) (h2 : f ρ = DV.ret (.d d)) (hl : ds.length ≤ 9999) : e2 gAddA (eVar i) (eTup (aCons f aNil)) ρ = DV.ret (.d (.tuple (ds ++ [d]))) :=
  e2_e (var_eq h1) (tup1_e h2) (tup_add (by rw [List.length_singleton]; omega))
theorem lst_e {fa : DV.Env → M (List RV)} {ρ : DV.Env} {xs : List RV} {ds : List D} (h : fa ρ = DV.ret xs) (hd : toDs xs = some ds) (hl : ds.length ≤ 10000) : eLst fa ρ = DV.ret (.n ds) := by
  unfold eLst
  rw [h, bnd_ret, hd, lft_s, bnd_ret, if_pos hl]
theorem tup_e {fa : DV.Env → M (List RV)} {ρ : DV.Env} {xs : List RV} {ds : List D} (h : fa ρ = DV.ret xs) (hd : toDs xs = some ds) (hl : ds.length ≤ 10000) : eTup fa ρ = DV.ret (.d (.tuple ds)) := by
  unfold eTup
  rw [h, bnd_ret, hd, lft_s, bnd_ret, if_pos hl]
/-- ("word", x) -/
theorem wx_e {ρ : DV.Env} {w : Str} {i : Nat} {x : D} (h : vget ρ i = some (.d x)) : eTup (aCons (eC (.str w)) (aCons (eVar i) aNil)) ρ = DV.ret (.d (.tuple [.str w, x])) :=
  tup_e (li_c (li (var_eq h) li_nil)) rfl (Nat.le_of_ble_eq_true rfl)
theorem wc_e {ρ : DV.Env} {w : Str} {x : D} : eTup (aCons (eC (.str w)) (aCons (eC x) aNil)) ρ = DV.ret (.d (.tuple [.str w, x])) :=
  tup_e (li_c (li_c li_nil)) rfl (Nat.le_of_ble_eq_true rfl)
theorem cat_e {ρ : DV.Env} {i : Nat} {f : DV.Env → M RV} {ds es : List D} (h : vget ρ i = some (.b ds)) (h2 : f ρ = DV.ret (.n es)) (hl : ds.length + es.length ≤ 10000) : e2 gAddA (eVar i) f ρ = DV.ret (.n (ds ++ es)) :=
  e2_e (var_eq h) h2 (by show (if _ then _ else _) = _; rw [if_pos hl])
/-- what was found is what is due -/
theorem gv_cmp {ρ : DV.Env} {Q : Out → Prop} {i : Nat} {f : DV.Env → M RV} {ds es : List D} (e1 : vget ρ i = some (.b ds)) (h : f ρ = DV.ret (.n es)) (heq : ds = es) (sh : SeqAt.shaped (.list es) = true) (q : Q (.nx ρ)) : DV.Gives (sIf (DV.eT (e2 gNe (eVar i) f)) (sRet (eC (.bool false))) sNil ρ) Q := by
  subst heq
  exact gv_if (gv_T (gv_e2 (gv_var e1 (gv_eq h ⟨_, ne_same sh, false, rfl, (fun q => nomatch q), fun _ => gv_nop q⟩))))
/-- as gv_found, where the slot was set just before: the env does not grow -/
theorem gv_foundS {ρ : DV.Env} {Q : Out → Prop} {i n : Nat} {ds : List D} {fa : DV.Env → M (List RV)} {sv : Ex → Option D} {m : List RV → M (Except Ex RV)} {e : Ex} {d : D} (hi : i < ρ.length) (hl : ds.length ≤ 100) (p : DV.Gives (fa (ρ.set i (some (.o ds)))) fun xs => xs.length = n ∧ DV.Gives (m (xs.map readable)) fun r => r = .error e) (hd : sv e = some d) (q : Q (.nx (ρ.set i (some (.o (ds ++ [d])))))) :
    DV.Gives (sSet i (e2 gAddA (eVar i) (eLst (aCons (eErr sv (xFn (fun xs => if xs.length = n then m xs else fail) fa)) aNil))) (ρ.set i (some (.o ds)))) Q := by
  have hv : vget (ρ.set i (some (.o ds))) i = some (.b ds) := by
    unfold vget
    rw [List.getElem?_set_self hi]
  refine gv_found hv hl p hd ?_
  rw [List.set_set]
  exact q
theorem gv_foundSA {ρ : DV.Env} {Q : Out → Prop} {i n : Nat} {ds : List D} {fa : DV.Env → M (List RV)} {sv : Ex → Option D} {m : List RV → M (Except Ex RV)} {e : Ex} {d : D} (hi : sApp.own? (ρ.set i (some (.o ds))) i = some ds) (hl : ds.length ≤ 100) (p : DV.Gives (fa (ρ.set i (some (.o ds)))) fun xs => xs.length = n ∧ DV.Gives (m (xs.map readable)) fun r => r = .error e) (hd : sv e = some d) (q : Q (.nx (ρ.set i (some (.o (ds ++ [d])))))) :
    DV.Gives (sApp i (eErr sv (xFn (fun xs => if xs.length = n then m xs else fail) fa)) (ρ.set i (some (.o ds)))) Q := by
  refine gv_foundA hi hl p hd ?_
  rw [List.set_set]
  exact q
abbrev eT (r : D) : Ex := ⟨"BadTimes", some ("index", r)⟩
abbrev eW (r : D) : Ex := ⟨"BadWeights", some ("index", r)⟩
abbrev eD (r : D) : Ex := ⟨"BadDues", some ("index", r)⟩
abbrev eSt (r : D) : Ex := ⟨"BadStarts", some ("index", r)⟩
abbrev eO : Ex := ⟨"BadOrder", none⟩
/-- one argument of the def's own -/
theorem a1 {ρ : DV.Env} {i : Nat} {x : RV} {P : List RV → Prop} (e : vget ρ i = some x) (h : P [x]) : DV.Gives (aCons (eVar i) aNil ρ) P := gv_cons (gv_var e (gv_nil h))
theorem a2 {ρ : DV.Env} {i j : Nat} {x y : RV} {P : List RV → Prop} (e : vget ρ i = some x) (e2 : vget ρ j = some y) (h : P [x, y]) : DV.Gives (aCons (eVar i) (aCons (eVar j) aNil) ρ) P := gv_cons (gv_var e (gv_cons (gv_var e2 (gv_nil h))))
theorem a3 {ρ : DV.Env} {i j l : Nat} {x y z : RV} {P : List RV → Prop} (e : vget ρ i = some x) (e2 : vget ρ j = some y) (e3 : vget ρ l = some z) (h : P [x, y, z]) : DV.Gives (aCons (eVar i) (aCons (eVar j) (aCons (eVar l) aNil)) ρ) P := gv_cons (gv_var e (gv_cons (gv_var e2 (gv_cons (gv_var e3 (gv_nil h))))))
theorem a4 {ρ : DV.Env} {i j l o : Nat} {x y z w : RV} {P : List RV → Prop} (e : vget ρ i = some x) (e2 : vget ρ j = some y) (e3 : vget ρ l = some z) (e4 : vget ρ o = some w) (h : P [x, y, z, w]) : DV.Gives (aCons (eVar i) (aCons (eVar j) (aCons (eVar l) (aCons (eVar o) aNil))) ρ) P := gv_cons (gv_var e (gv_cons (gv_var e2 (gv_cons (gv_var e3 (gv_cons (gv_var e4 (gv_nil h))))))))
/-- an argument, and the length of a tuple -/
theorem aL {ρ : DV.Env} {i j : Nat} {x : RV} {ds : List D} {P : List RV → Prop} (e : vget ρ i = some x) (e2 : vget ρ j = some (.d (.tuple ds))) (h : P [x, .d (.int (ds.length : Nat))]) : DV.Gives (aCons (eVar i) (aCons (eCall gLen (aCons (eVar j) aNil)) aNil) ρ) P :=
  gv_cons (gv_var e (gv_cons (gv_call (gv_cons (gv_var e2 (gv_nil ⟨_, rfl, gv_nil h⟩))))))
theorem need_weighed_t {a b r : D} (h : BadT a r) : DV.Gives (mx_need_weighed [.d a, .d b]) fun z => z = .error (eT r) := run_err (x_bad (a1 rfl ⟨rfl, need_times_bad h⟩))
theorem need_weighed_w {ds : List D} {b r : D} (h : GoodT ds) (hb : Bad ds.length 0 60 b r) : DV.Gives (mx_need_weighed [.d (.tuple ds), .d b]) fun z => z = .error (eW r) := run_err (x_good (a1 rfl ⟨rfl, need_times_good h⟩) (x_bad1 (aL rfl rfl ⟨rfl, need_weights_bad hb⟩)))
theorem need_weighed_good {ds : List D} {b : D} (h : GoodT ds) (hb : Good ds.length 0 60 b) : DV.Gives (mx_need_weighed [.d (.tuple ds), .d b]) fun z => z = .ok (.d .none) := gx_run (x_good (a1 rfl ⟨rfl, need_times_good h⟩) (x_good1 (aL rfl rfl ⟨rfl, need_weights_good hb⟩) rfl))
theorem need_due_t {a b r : D} (h : BadT a r) : DV.Gives (mx_need_due [.d a, .d b]) fun z => z = .error (eT r) := run_err (x_bad (a1 rfl ⟨rfl, need_times_bad h⟩))
theorem need_due_d {ds : List D} {b r : D} (h : GoodT ds) (hb : Bad ds.length 0 600 b r) : DV.Gives (mx_need_due [.d (.tuple ds), .d b]) fun z => z = .error (eD r) := run_err (x_good (a1 rfl ⟨rfl, need_times_good h⟩) (x_bad1 (aL rfl rfl ⟨rfl, need_dues_bad hb⟩)))
theorem need_due_good {ds : List D} {b : D} (h : GoodT ds) (hb : Good ds.length 0 600 b) : DV.Gives (mx_need_due [.d (.tuple ds), .d b]) fun z => z = .ok (.d .none) := gx_run (x_good (a1 rfl ⟨rfl, need_times_good h⟩) (x_good1 (aL rfl rfl ⟨rfl, need_dues_good hb⟩) rfl))
end DVL

/-! plain laws: stops, the first day that fits, ends by the job -/
namespace DVL
open PySem L2 DV
/-! ### stops -/
inductive Sd : Int → List (Int × Int) → Prop
  | nil {lo : Int} : Sd lo []
  | cons {lo b e : Int} {r : List (Int × Int)} : lo ≤ b → b < e → Sd e r → Sd lo ((b, e) :: r)
def Stp (ss : List (Int × Int)) (x : Int) : Prop := ∃ p ∈ ss, p.1 ≤ x ∧ x < p.2
def fitI : List (Int × Int) → Int → Int → Int
  | [], d, _ => d
  | (b, e) :: r, d, t => if b < d + t ∧ d < e then fitI r e t else fitI r d t
theorem Sd.mem : ∀ {lo : Int} {ss : List (Int × Int)}, Sd lo ss → ∀ p ∈ ss, lo ≤ p.1 ∧ p.1 < p.2
  | _, _, .nil, _, h => nomatch h
  | _, _, .cons h1 h2 h3, p, h => by
    rcases List.mem_cons.mp h with z | z
    · subst z; exact ⟨h1, h2⟩
    · have := Sd.mem h3 p z
      omega
theorem fit_late : ∀ (ss : List (Int × Int)) (d t : Int), (∀ p ∈ ss, d + t ≤ p.1) → fitI ss d t = d
  | [], _, _, _ => rfl
  | (b, e) :: r, d, t, h => by
    have h1 := h (b, e) List.mem_cons_self
    unfold fitI
    rw [if_neg (by simp only at h1; omega)]
    exact fit_late r d t fun p hp => h p (List.mem_cons_of_mem _ hp)
theorem fit_spec : ∀ {lo : Int} {ss : List (Int × Int)}, Sd lo ss → ∀ (d t : Int), 1 ≤ t →
    d ≤ fitI ss d t ∧ (∀ x, fitI ss d t ≤ x → x < fitI ss d t + t → ¬ Stp ss x) ∧ ∀ d', d ≤ d' → d' < fitI ss d t → ∃ x, d' ≤ x ∧ x < d' + t ∧ Stp ss x
  | _, [], _, d, t, _ => ⟨Int.le_refl _, fun x _ _ ⟨p, hp, _⟩ => (nomatch hp), fun d' h1 h2 => by
      unfold fitI at h2
      omega⟩
  | _, (b, e) :: r, .cons h1 h2 h3, d, t, ht => by
    unfold fitI
    by_cases hb : b < d + t ∧ d < e
    · rw [if_pos hb]
      obtain ⟨i1, i2, i3⟩ := fit_spec h3 e t ht
      refine ⟨by omega, fun x hx1 hx2 ⟨p, hp, hp1, hp2⟩ => ?_, fun d' q1 q2 => ?_⟩
      · rcases List.mem_cons.mp hp with z | z
        · subst z
          simp only at hp2
          omega
        · exact i2 x hx1 hx2 ⟨p, z, hp1, hp2⟩
      · by_cases hd : d' < e
        · by_cases hdb : d' < b
          · exact ⟨b, by omega, by omega, (b, e), List.mem_cons_self, by simp, by simpa using h2⟩
          · exact ⟨d', by omega, by omega, (b, e), List.mem_cons_self, by simp only; omega, by simpa using hd⟩
        · obtain ⟨x, x1, x2, p, hp, hp1⟩ := i3 d' (by omega) q2
          exact ⟨x, x1, x2, p, List.mem_cons_of_mem _ hp, hp1⟩
    · rw [if_neg hb]
      obtain ⟨i1, i2, i3⟩ := fit_spec h3 d t ht
      refine ⟨i1, fun x hx1 hx2 ⟨p, hp, hp1, hp2⟩ => ?_, fun d' q1 q2 => ?_⟩
      · rcases List.mem_cons.mp hp with z | z
        · subst z
          simp only at hp1 hp2
          by_cases he : e ≤ d
          · omega
          · have hbd : d + t ≤ b := by omega
            have hl := fit_late r d t fun p hp => by
              have := Sd.mem h3 p hp
              omega
            omega
        · exact i2 x hx1 hx2 ⟨p, z, hp1, hp2⟩
      · obtain ⟨x, x1, x2, p, hp, hp1⟩ := i3 d' q1 q2
        exact ⟨x, x1, x2, p, List.mem_cons_of_mem _ hp, hp1⟩
theorem fit_le (M : Int) : ∀ (ss : List (Int × Int)) (d t : Int), (∀ p ∈ ss, p.2 ≤ M) → fitI ss d t ≤ max d M
  | [], d, t, _ => by unfold fitI; omega
  | (b, e) :: r, d, t, h => by
    have h1 := h (b, e) List.mem_cons_self
    simp only at h1
    unfold fitI
    split
    · have := fit_le M r e t fun p hp => h p (List.mem_cons_of_mem _ hp)
      omega
    · exact fit_le M r d t fun p hp => h p (List.mem_cons_of_mem _ hp)
/-! ### ends by the job -/
def dot : List Int → List Int → Int
  | w :: ws, x :: xs => w * x + dot ws xs
  | _, _ => 0
theorem dot_set : ∀ (ws xs : List Int) (k : Nat) (v : Int), k < xs.length → ws.length = xs.length → dot ws (xs.set k v) = dot ws xs + ws.getD k 0 * (v - xs.getD k 0)
  | w :: ws, x :: xs, 0, v, _, _ => by
    show w * v + dot ws xs = w * x + dot ws xs + w * (v - x)
    rw [Int.mul_sub]
    omega
  | w :: ws, x :: xs, k + 1, v, h, hl => by
    have ih := dot_set ws xs k v (by simpa using h) (by simpa using hl)
    show w * x + dot ws (xs.set k v) = w * x + dot ws xs + ws.getD k 0 * (v - xs.getD k 0)
    rw [ih]
    omega
  | [], x :: xs, _, _, _, hl => by simp at hl
  | _, [], _, _, h, _ => by simp at h
theorem dot_zero : ∀ (ws : List Int) (n : Nat), dot ws (List.replicate n 0) = 0
  | [], n => by cases n <;> rfl
  | w :: ws, 0 => rfl
  | w :: ws, n + 1 => by
    show w * 0 + dot ws (List.replicate n 0) = 0
    rw [dot_zero ws n]
    simp
/-- the day behind the order, the sum of ends times weights -/
def fin (ss : List (Int × Int)) (ts : List Int) (d : Int) (p : List Int) : Int := p.foldl (fun d j => fitI ss d (val ts j) + val ts j) d
def tot (ss : List (Int × Int)) (ts ws : List Int) : Int → List Int → Int
  | _, [] => 0
  | d, j :: p => val ws j * (fitI ss d (val ts j) + val ts j) + tot ss ts ws (fitI ss d (val ts j) + val ts j) p
/-- the list of ends as it is filled -/
def fill (ss : List (Int × Int)) (ts : List Int) : Int → List Int → List Int → List Int
  | _, fd, [] => fd
  | d, fd, j :: p => fill ss ts (fitI ss d (val ts j) + val ts j) (fd.set j.toNat (fitI ss d (val ts j) + val ts j)) p
theorem fill_len (ss : List (Int × Int)) (ts : List Int) : ∀ (p : List Int) (d : Int) (fd : List Int), (fill ss ts d fd p).length = fd.length
  | [], _, _ => rfl
  | j :: p, d, fd => by
    unfold fill
    rw [fill_len ss ts p, List.length_set]
theorem fill_dot (ss : List (Int × Int)) (ts ws : List Int) : ∀ (p : List Int) (d : Int) (fd : List Int), ws.length = fd.length → p.Nodup → (∀ j ∈ p, 0 ≤ j ∧ j < fd.length ∧ fd.getD j.toNat 0 = 0) → dot ws (fill ss ts d fd p) = dot ws fd + tot ss ts ws d p
  | [], _, _, _, _, _ => by simp [fill, tot]
  | j :: p, d, fd, hl, nd, h => by
    obtain ⟨n1, n2⟩ := List.nodup_cons.mp nd
    obtain ⟨j0, j1, j2⟩ := h j List.mem_cons_self
    unfold fill tot
    rw [fill_dot ss ts ws p _ _ (by rw [List.length_set]; exact hl) n2 fun k hk => ?_, dot_set ws fd j.toNat _ (by omega) hl, j2]
    · show _ + ws.getD j.toNat 0 * (_ - 0) + _ = _
      rw [Int.sub_zero]
      unfold val
      omega
    · obtain ⟨k0, k1, k2⟩ := h k (List.mem_cons_of_mem _ hk)
      refine ⟨k0, by rw [List.length_set]; exact k1, ?_⟩
      have hne : k.toNat ≠ j.toNat := fun e => by
        have : k = j := by omega
        exact n1 (this ▸ hk)
      rw [List.getD_eq_getElem?_getD, List.getElem?_set_ne (Ne.symm hne), ← List.getD_eq_getElem?_getD]
      exact k2
end DVL

/-! plain laws: the defs over stops -/
namespace DVL
open PySem L2 DV
abbrev pr (p : Int × Int) : D := .tuple [.int p.1, .int p.2]
abbrev sts (ss : List (Int × Int)) : D := .tuple (ss.map pr)
theorem Sd.snoc : ∀ {lo : Int} {ss : List (Int × Int)} {b e : Int}, Sd lo ss → (∀ p ∈ ss, p.2 ≤ b) → lo ≤ b → b < e → Sd lo (ss ++ [(b, e)])
  | _, _, b, e, .nil, _, h1, h2 => .cons h1 h2 .nil
  | _, _, b, e, .cons (e := e0) a1 a2 a3, h, h1, h2 => .cons a1 a2 (Sd.snoc a3 (fun p hp => h p (List.mem_cons_of_mem _ hp)) (h _ List.mem_cons_self) h2)
structure Stops (ss : List (Int × Int)) : Prop where
  sd : Sd 0 ss
  len : ss.length ≤ 6
  end_ : ∀ p ∈ ss, p.2 ≤ 90
theorem stops_gives (most : Int) (h0 : 0 ≤ most) (h6 : most ≤ 6) : DV.Gives (m__law_stops [.row, .d (.int most)]) fun r => ∃ ss, r = .d (sts ss) ∧ Stops ss := by
  refine gv_run (gv_seq (gv_par (gv_cons (gv_lst (gv_nil ⟨[], rfl, by simp, gv_cons (gv_c (gv_nil ⟨_, _, _, _, rfl, rfl, rfl, ?_⟩))⟩)))))
  refine gv_seq ?_
  unfold sFor
  refine DV.Gives.bnd (P := fun q => ∃ n : Nat, n ≤ 6 ∧ q = ((rngI 0 n).map PyData.int, none)) ?_ fun q ⟨n, hn, eq⟩ => ?_
  · unfold iRng1F
    refine DV.Gives.bnd (P := fun r => ∃ i : Int, r = .d (.int i) ∧ 0 ≤ i ∧ i ≤ most) ?_ fun r ⟨i, e, i0, i1⟩ => ?_
    · refine gv_fn (gv_cons (gv_var rfl (gv_cons (gv_e2 (gv_var rfl (gv_c ⟨_, rfl, gv_nil ⟨rfl, ?_⟩⟩))))))
      refine (taken_eq (most + 1) (by omega) (by omega)).mono fun r ⟨i, e, i0, i1⟩ => ⟨i, e, i0, by omega⟩
    · subst e
      show DV.Gives (bnd (lft (some i)) _) _
      rw [lft_s, bnd_ret, if_pos ⟨by omega, by omega⟩, rngD_eq]
      exact DV.Gives.ret ⟨i.toNat, by omega, rfl⟩
  subst eq
  refine DV.Gives.bnd (P := fun o => ∃ (ss : List (Int × Int)) (y3 y4 y5 : Option SV), o = .nx [some .row, some (.d (.int most)), some (.o (ss.map pr)), y3, y4, y5] ∧ Stops ss) ?_ fun o ⟨ss, y3, y4, y5, e, hS⟩ => ?_
  · refine DV.Gives.loop _ (fun xs ρ => ∃ (ss : List (Int × Int)) (d : Int) (y4 y5 : Option SV), ρ = [some .row, some (.d (.int most)), some (.o (ss.map pr)), some (.d (.int d)), y4, y5] ∧ Sd 0 ss ∧ (∀ p ∈ ss, p.2 ≤ d) ∧ 0 ≤ d ∧ xs.length + ss.length = n ∧ d ≤ 15 * ss.length) _ ⟨[], 0, none, none, rfl, .nil, (fun p hp => nomatch hp), Int.le_refl _, by rw [List.length_map, rngI_len]; rfl, by simp⟩ ?_ ?_
    · rintro x xs ρ ⟨ss, d, y4, y5, rfl, hsd, hle, hd0, hlen, hd15⟩
      rw [List.length_cons] at hlen
      refine ⟨_, rfl, gv_seq (gv_set (gv_e2 (gv_var rfl (gv_fn (gv_cons (gv_var rfl (gv_cons (gv_c (gv_nil ⟨rfl, ?_⟩)))))))))⟩
      refine (taken_eq 6 (by omega) (by omega)).mono fun r ⟨i, e, i0, i1⟩ => ?_
      subst e
      refine ⟨_, rfl, _, rfl, gv_seq (gv_set (gv_e2 (gv_e2 (gv_var rfl (gv_c ⟨_, rfl, gv_fn (gv_cons (gv_var rfl (gv_cons (gv_c (gv_nil ⟨rfl, ?_⟩)))))⟩)))))⟩
      refine (taken_eq 4 (by omega) (by omega)).mono fun r ⟨j, e, j0, j1⟩ => ?_
      subst e
      refine ⟨_, rfl, _, rfl, gv_app (ds := ss.map pr) rfl (by rw [List.length_map]; omega) (gv_tup (gv_cons (gv_var rfl (gv_cons (gv_var rfl (gv_nil ⟨[.int (d + i), .int (d + i + 1 + j)], rfl, by simp, _, rfl, ?_⟩))))))⟩
      refine ⟨ss ++ [(d + i, d + i + 1 + j)], d + i + 1 + j, some (.d x), some (.d (.int (d + i))), ?_, hsd.snoc (fun p hp => by have := hle p hp; omega) (by omega) (by omega), fun p hp => ?_, by omega, by rw [List.length_append]; simp; omega, ?_⟩
      · rw [List.map_append]
        rfl
      · rcases List.mem_append.mp hp with z | z
        · have := hle p z; omega
        · rw [List.mem_singleton] at z
          subst z
          exact Int.le_refl _
      · rw [List.length_append, List.length_singleton]
        omega
    · rintro ρ ⟨ss, d, y4, y5, rfl, hsd, hle, hd0, hlen, hd15⟩
      have hl : ss.length = n := by simpa using hlen
      exact ⟨ss, _, _, _, rfl, hsd, by omega, fun p hp => by have := hle p hp; omega⟩
  · subst e
    refine DV.Gives.ret ?_
    exact gv_rt (gv_call (gv_cons (gv_var rfl (gv_nil ⟨_, rfl, _, rfl, ss, rfl, hS⟩))))
theorem gLt_eq (i j : Int) : gLt (.d (.int i)) (.d (.int j)) = some (.d (.bool (decide (i < j)))) := rfl
theorem fitted_gives (ss : List (Int × Int)) (d t : Int) : DV.Gives (m_fitted [.d (sts ss), .d (.int d), .d (.int t)]) fun r => r = .d (.int (fitI ss d t)) := by
  refine gv_run (gv_seq (gv_eq (a := Out.nx [some (.d (sts ss)), some (.d (.int d)), some (.d (.int t)), some (.d (.int d)), none, none]) rfl ?_))
  refine gv_seq (gv_for (its := ss.map pr) (lk := none) rfl ?_)
  refine DV.Gives.loop _ (fun xs ρ => ∃ (r : List (Int × Int)) (c : Int) (y4 y5 : Option SV), ρ = [some (.d (sts ss)), some (.d (.int d)), some (.d (.int t)), some (.d (.int c)), y4, y5] ∧ xs = r.map pr ∧ fitI r c t = fitI ss d t) _ ⟨ss, d, none, none, rfl, rfl, rfl⟩ ?_ ?_
  · rintro x xs ρ ⟨r, c, y4, y5, rfl, e, hf⟩
    cases r with
    | nil => cases e
    | cons p r =>
      cases e
      obtain ⟨b, e⟩ := p
      refine ⟨_, rfl, gv_if (gv_and (gv_T (gv_e2 (gv_var rfl (gv_e2 (gv_var rfl (gv_var rfl ⟨_, rfl, _, rfl, _, rfl, fun h1 => ?_, fun h1 => ?_⟩)))))))⟩
      · have h1 := of_decide_eq_true h1
        refine gv_T (gv_e2 (gv_var rfl (gv_var rfl ⟨_, rfl, _, rfl, fun h2 => ?_, fun h2 => ?_⟩)))
        · have h2 := of_decide_eq_true h2
          refine gv_eq (a := Out.nx [some (.d (sts ss)), some (.d (.int d)), some (.d (.int t)), some (.d (.int e)), some (SV.d (.int b)), some (SV.d (.int e))]) rfl ?_
          refine ⟨r, e, _, _, rfl, rfl, ?_⟩
          rw [← hf]
          show _ = (if b < c + t ∧ c < e then fitI r e t else fitI r c t)
          rw [if_pos ⟨h1, h2⟩]
        · have h2 := of_decide_eq_false h2
          refine gv_nop ⟨r, c, _, _, rfl, rfl, ?_⟩
          rw [← hf]
          show _ = (if b < c + t ∧ c < e then fitI r e t else fitI r c t)
          rw [if_neg (fun z => h2 z.2)]
      · have h1 := of_decide_eq_false h1
        refine ⟨(fun q => nomatch q), fun _ => gv_nop ⟨r, c, _, _, rfl, rfl, ?_⟩⟩
        rw [← hf]
        show _ = (if b < c + t ∧ c < e then fitI r e t else fitI r c t)
        rw [if_neg (fun z => h1 z.1)]
  · rintro ρ ⟨r, c, y4, y5, rfl, e, hf⟩
    cases r with
    | nil =>
      refine gv_rtV rfl ?_
      show RV.d (.int c) = _
      rw [← hf]
      rfl
    | cons p r => cases e
end DVL

/-! plain laws: all items in a range, an item put in between -/
namespace DVL
open PySem L2 DV
theorem all_in {i v : Nat} {lo hi : Int} {ρ : DV.Env} {ds : List D} {lk : Option Nat} (e : srcV i ρ = DV.ret (ds, lk)) (hl : ds.length ≤ 10000) (hx : ∀ x : D, ∃ ρ1, gNm v x (wipeE ρ [v]) = some ρ1 ∧ vget ρ1 v = some (.d x)) :
    DV.Gives (eCall gAll (aCons (eLc (srcV i) [v] (gNm v) tTrue (eFn (fun xs => if xs.length = 3 then m_is_in xs else fail) (aCons (eVar v) (aCons (eC (.int lo)) (aCons (eC (.int hi)) aNil))))) aNil) ρ) fun r => r = .d (.bool (ds.all (isIn lo hi))) := by
  refine gv_call (gv_cons (gv_lc e hl ?_))
  refine gv_eq (lc_eq (fun _ => true) (fun d => .bool (isIn lo hi d)) ds fun x _ => ?_) ?_
  · obtain ⟨ρ1, e1, e2⟩ := hx x
    refine ⟨ρ1, e1, rfl, fun _ => ⟨.d (.bool (isIn lo hi x)), ?_, rfl⟩⟩
    unfold eFn
    rw [li (var_eq e2) (li_c (li_c li_nil)), bnd_ret]
    exact is_in_d x lo hi
  · have e : (List.filter (fun _ => true) ds) = ds := by simp
    refine gv_nil ⟨.d (.bool ((ds.map fun d => isIn lo hi d).all id)), ?_, ?_⟩
    · rw [e]
      show (boolsOf (ds.map fun d => PyData.bool (isIn lo hi d))).map _ = _
      rw [boolsOf_all]
      rfl
    · rw [List.all_map]; rfl
section
variable {ρ : DV.Env} {P : RV → Prop} {f : DV.Env → M RV} {ds : List D}
/-- an item put in at a place -/
theorem gv_ins {i j : Nat} {k : Int} (e1 : vget ρ i = some (.d (.tuple ds))) (e2' : vget ρ j = some (.d (.int k))) (h0 : 0 ≤ k) (h1 : k ≤ ds.length) (hl : ds.length ≤ 1000) (p : DV.Gives (f ρ) fun x => ∃ d, x = .d d ∧ P (.d (.tuple (ds.take k.toNat ++ d :: ds.drop k.toNat)))) :
    DV.Gives (e2 gAddA (e2 gAddA (eSlice (eVar i) (fun _ => DV.ret none) (ePart (eVar j))) (eTup (aCons f aNil))) (eSlice (eVar i) (ePart (eVar j)) (fun _ => DV.ret none)) ρ) P := by
  have s1 : eSlice (eVar i) (fun _ => DV.ret none) (ePart (eVar j)) ρ = DV.ret (.d (.tuple (ds.take k.toNat))) := by
    unfold eSlice ePart
    rw [var_eq e1, var_eq e2']
    simp only [bnd_ret, asInt, lft_s]
    rw [cutD_to ds k h0 (by omega)]
  have s2 : eSlice (eVar i) (ePart (eVar j)) (fun _ => DV.ret none) ρ = DV.ret (.d (.tuple (ds.drop k.toNat))) := by
    unfold eSlice ePart
    rw [var_eq e1, var_eq e2']
    simp only [bnd_ret, asInt, lft_s]
    rw [cutD_from ds k (by omega) (by omega)]
  refine gv_e2 (gv_e2 (gv_eq s1 (gv_tup (gv_cons (p.mono fun x ⟨d, e, q⟩ => gv_nil ⟨[d], by rw [e]; rfl, Nat.le_of_ble_eq_true rfl, ?_⟩)))))
  refine ⟨.d (.tuple (ds.take k.toNat ++ [d])), tup_add (by rw [List.length_take, List.length_singleton]; omega), gv_eq s2 ⟨_, tup_add (by rw [List.length_append, List.length_take, List.length_drop, List.length_singleton]; omega), ?_⟩⟩
  rw [List.append_assoc]
  exact q
end
theorem gIx_d {ds : List D} {j : Int} {d : D} (h0 : 0 ≤ j) (h : ds[j.toNat]? = some d) : gIx (.d (.tuple ds)) (.d (.int j)) = some (.d d) := by
  show (atI ds j).map RV.d = _
  have := atI_nat h
  rw [Int.toNat_of_nonneg h0] at this
  rw [this]
  rfl
theorem notList2 {ds : List D} {lo hi : Int} (h : (ds.length : Int) < lo ∨ hi < ds.length) : isList lo hi (.tuple ds) = false := by
  show (decide (lo ≤ (ds.length : Int)) && decide ((ds.length : Int) ≤ hi)) = false
  rw [Bool.and_eq_false_iff]
  rcases h with h | h
  · exact .inl (decide_eq_false (by omega))
  · exact .inr (decide_eq_false (by omega))
end DVL

/-! plain laws: defs by name; tests over lists; tables and spans drawn -/
namespace DVE
open PySem L2 DV DVL
section
variable {ρ : DV.Env} {Q : Out → Prop} {PX : Except Ex RV → Prop} {fa : DV.Env → M (List RV)}
theorem gx_fnV {i np : Nat} {tb : MT} {x : Str} {m : List RV → M (Except Ex RV)} (e : ρ[i]? = some (some (.fn x))) (hm : tb.lookup x = some m) (p : DV.Gives (xFn (fun xs => if xs.length = np then m xs else fail) fa ρ) PX) : DV.Gives (xFnV i np tb fa ρ) PX := by
  unfold xFnV
  rw [e]
  show DV.Gives ((match tb.lookup x with | some m => xFn (fun xs => if xs.length = np then m xs else fail) fa ρ | none => fail) : M (Except Ex RV)) PX
  rw [hm]
  exact p
theorem gv_forFn {i : Nat} {body : DV.Env → M Out} (names : List Str) (I : DV.Env → Prop) : ∀ (xs : List Str), (∀ x ∈ xs, x ∈ names) → ∀ ρ, I ρ → (∀ x ∈ names, ∀ ρ, I ρ → DV.Gives (body (ρ.set i (some (.fn x)))) fun o => match o with | .nx ρ2 => I ρ2 | .ct ρ2 => I ρ2 | .bk ρ2 => Q (.nx ρ2) | .rt r => Q (.rt r)) → (∀ ρ, I ρ → Q (.nx ρ)) → DV.Gives (sForFn i body xs ρ) Q
  | [], _, ρ, h, _, k => DV.Gives.ret (k ρ h)
  | x :: xs, hn, ρ, h, s, k => by
    show DV.Gives (bnd (body (ρ.set i (some (.fn x)))) _) Q
    refine DV.Gives.bnd (s x (hn x List.mem_cons_self) ρ h) fun o q => ?_
    cases o with
    | nx ρ2 => exact gv_forFn names I xs (fun y hy => hn y (List.mem_cons_of_mem _ hy)) ρ2 q s k
    | ct ρ2 => exact gv_forFn names I xs (fun y hy => hn y (List.mem_cons_of_mem _ hy)) ρ2 q s k
    | bk ρ2 => exact DV.Gives.ret q
    | rt r => exact DV.Gives.ret q
theorem gv_foundV0 {i j np : Nat} {sv : Ex → Option D} {tb : MT} {x : Str} {m : List RV → M (Except Ex RV)} {e : Ex} {d : D} (e1 : ρ[j]? = some (some (.fn x))) (hm : tb.lookup x = some m) (p : DV.Gives (fa ρ) fun xs => xs.length = np ∧ DV.Gives (m (xs.map readable)) fun r => r = .error e) (hd : sv e = some d) (q : Q (.nx (ρ.set i (some (.o [d]))))) :
    DV.Gives (sSet i (eLst (aCons (eErr sv (xFnV j np tb fa)) aNil)) ρ) Q := by
  refine gv_set (gv_lst (gv_cons (gv_err (gx_fnV e1 hm (gx_fn (p.mono fun xs ⟨h1, h2⟩ => ⟨h1, h2.mono fun r er => ?_⟩))))))
  subst er
  exact ⟨d, hd, gv_nil ⟨[d], rfl, Nat.le_of_ble_eq_true rfl, _, rfl, q⟩⟩
theorem gv_foundVA {i j np : Nat} {sv : Ex → Option D} {tb : MT} {x : Str} {m : List RV → M (Except Ex RV)} {ds : List D} {e : Ex} {d : D} (hi : sApp.own? (ρ.set i (some (.o ds))) i = some ds) (hl : ds.length ≤ 100) (e1 : (ρ.set i (some (.o ds)))[j]? = some (some (.fn x))) (hm : tb.lookup x = some m) (p : DV.Gives (fa (ρ.set i (some (.o ds)))) fun xs => xs.length = np ∧ DV.Gives (m (xs.map readable)) fun r => r = .error e) (hd : sv e = some d) (q : Q (.nx (ρ.set i (some (.o (ds ++ [d])))))) :
    DV.Gives (sApp i (eErr sv (xFnV j np tb fa)) (ρ.set i (some (.o ds)))) Q := by
  refine gv_app hi (by omega) (gv_err (gx_fnV e1 hm (gx_fn (p.mono fun xs ⟨h1, h2⟩ => ⟨h1, h2.mono fun r er => ?_⟩))))
  subst er
  refine ⟨d, hd, d, rfl, ?_⟩
  rw [List.set_set]
  exact q
theorem gv_foundVS {i j np : Nat} {sv : Ex → Option D} {tb : MT} {x : Str} {m : List RV → M (Except Ex RV)} {ds : List D} {e : Ex} {d : D} (hi : i < ρ.length) (hl : ds.length ≤ 100) (e1 : (ρ.set i (some (.o ds)))[j]? = some (some (.fn x))) (hm : tb.lookup x = some m) (p : DV.Gives (fa (ρ.set i (some (.o ds)))) fun xs => xs.length = np ∧ DV.Gives (m (xs.map readable)) fun r => r = .error e) (hd : sv e = some d) (q : Q (.nx (ρ.set i (some (.o (ds ++ [d])))))) :
    DV.Gives (sSet i (e2 gAddA (eVar i) (eLst (aCons (eErr sv (xFnV j np tb fa)) aNil))) (ρ.set i (some (.o ds)))) Q := by
  have hv : vget (ρ.set i (some (.o ds))) i = some (.b ds) := by
    unfold vget
    rw [List.getElem?_set_self hi]
  refine gv_set (gv_e2 (gv_var hv (gv_lst (gv_cons (gv_err (gx_fnV e1 hm (gx_fn (p.mono fun xs ⟨h1, h2⟩ => ⟨h1, h2.mono fun r er => ?_⟩))))))))
  subst er
  refine ⟨d, hd, gv_nil ⟨[d], rfl, Nat.le_of_ble_eq_true rfl, .n (ds ++ [d]), ?_, _, rfl, ?_⟩⟩
  · show (if ds.length + 1 ≤ 10000 then some (RV.n (ds ++ [d])) else none) = _
    rw [if_pos (by omega)]
  · rw [List.set_set]
    exact q
end
theorem all_inG {fi : DV.Env → M (List D × Option Nat)} {v : Nat} {lo hi : Int} {ρ : DV.Env} {ds : List D} {lk : Option Nat} {fh : DV.Env → M RV} (e : fi ρ = DV.ret (ds, lk)) (hl : ds.length ≤ 10000) (hx : ∀ x : D, ∃ ρ1, gNm v x (wipeE ρ [v]) = some ρ1 ∧ vget ρ1 v = some (.d x) ∧ fh ρ1 = DV.ret (.d (.int hi))) :
    DV.Gives (eCall gAll (aCons (eLc fi [v] (gNm v) tTrue (eFn (fun xs => if xs.length = 3 then m_is_in xs else fail) (aCons (eVar v) (aCons (eC (.int lo)) (aCons fh aNil))))) aNil) ρ) fun r => r = .d (.bool (ds.all (isIn lo hi))) := by
  refine gv_call (gv_cons (gv_lc e hl ?_))
  refine gv_eq (lc_eq (fun _ => true) (fun d => .bool (isIn lo hi d)) ds fun x _ => ?_) ?_
  · obtain ⟨ρ1, e1, e2, e3⟩ := hx x
    refine ⟨ρ1, e1, rfl, fun _ => ⟨.d (.bool (isIn lo hi x)), ?_, rfl⟩⟩
    unfold eFn
    rw [li (var_eq e2) (li_c (li e3 li_nil)), bnd_ret]
    exact is_in_d x lo hi
  · have e : (List.filter (fun _ => true) ds) = ds := by simp
    refine gv_nil ⟨.d (.bool ((ds.map fun d => isIn lo hi d).all id)), ?_, ?_⟩
    · rw [e]
      show (boolsOf (ds.map fun d => PyData.bool (isIn lo hi d))).map _ = _
      rw [boolsOf_all]
      rfl
    · rw [List.all_map]; rfl
theorem isList_n {ds : List D} {n : Int} (h : (ds.length : Int) = n) : isList n n (.tuple ds) = true := by simp [isList, h]
theorem isList_r {ds : List D} {lo hi : Int} (h : lo ≤ (ds.length : Int)) (h2 : (ds.length : Int) ≤ hi) : isList lo hi (.tuple ds) = true := by simp [isList, h, h2]
def BadA (many lo hi : Int) (v : D) : Prop := isList many many v = false ∨ ∃ ds, v = .tuple ds ∧ ds.length ≤ 10000 ∧ ds.all (isIn lo hi) = false
section
variable {i v : Nat} {lo hi many : Int} {ρ : DV.Env} {a : D} {ds : List D} {fh fj : DV.Env → M RV}
theorem la_bad (e0 : vget ρ i = some (.d a)) (e1 : fj ρ = DV.ret (.d (.int many))) (hs : ∀ ds, a = .tuple ds → srcV i ρ = DV.ret (ds, none)) (hx : ∀ x : D, ∃ ρ1, gNm v x (wipeE ρ [v]) = some ρ1 ∧ vget ρ1 v = some (.d x) ∧ fh ρ1 = DV.ret (.d (.int hi))) (h : BadA many lo hi a) :
    DV.Gives (tIfT (tNotF (DV.eT (eFn (fun xs => if xs.length = 3 then m_is_list xs else fail) (aCons (eVar i) (aCons fj (aCons fj aNil)))))) (tRetB true) (tNotF (DV.eT (eCall gAll (aCons (eLc (srcV i) [v] (gNm v) tTrue (eFn (fun xs => if xs.length = 3 then m_is_in xs else fail) (aCons (eVar v) (aCons (eC (.int lo)) (aCons fh aNil))))) aNil)))) ρ) fun b => b = true := by
  refine gv_or (gv_not (gv_T (gv_fn (gv_cons (gv_var e0 (gv_cons (gv_eq e1 (gv_cons (gv_eq e1 (gv_nil ⟨rfl, ?_⟩))))))))))
  by_cases hl : isList many many a = true
  · rcases h with h | ⟨ds, rfl, h1, h2⟩
    · rw [h] at hl; cases hl
    refine gv_eq (is_list_d _ _ _) ⟨_, rfl, fun q => (by simp [hl] at q), fun _ => ?_⟩
    refine gv_not (gv_T ((all_inG (hs ds rfl) h1 hx).mono fun r e => ?_))
    subst e
    rw [h2]
    exact ⟨_, rfl, rfl⟩
  · have hl : isList many many a = false := by simpa using hl
    exact gv_eq (is_list_d _ _ _) ⟨_, rfl, fun _ => rfl, fun q => by rw [hl] at q; cases q⟩
theorem la_good (e0 : vget ρ i = some (.d (.tuple ds))) (e1 : fj ρ = DV.ret (.d (.int many))) (hs : srcV i ρ = DV.ret (ds, none)) (hx : ∀ x : D, ∃ ρ1, gNm v x (wipeE ρ [v]) = some ρ1 ∧ vget ρ1 v = some (.d x) ∧ fh ρ1 = DV.ret (.d (.int hi))) (hl : isList many many (.tuple ds) = true) (h1 : ds.length ≤ 10000) (h2 : ds.all (isIn lo hi) = true) :
    DV.Gives (tIfT (tNotF (DV.eT (eFn (fun xs => if xs.length = 3 then m_is_list xs else fail) (aCons (eVar i) (aCons fj (aCons fj aNil)))))) (tRetB true) (tNotF (DV.eT (eCall gAll (aCons (eLc (srcV i) [v] (gNm v) tTrue (eFn (fun xs => if xs.length = 3 then m_is_in xs else fail) (aCons (eVar v) (aCons (eC (.int lo)) (aCons fh aNil))))) aNil)))) ρ) fun b => b = false := by
  refine gv_or (gv_not (gv_T (gv_fn (gv_cons (gv_var e0 (gv_cons (gv_eq e1 (gv_cons (gv_eq e1 (gv_nil ⟨rfl, ?_⟩))))))))))
  refine gv_eq (is_list_d _ _ _) ⟨_, rfl, fun q => (by rw [hl] at q; cases q), fun _ => ?_⟩
  refine gv_not (gv_T ((all_inG hs h1 hx).mono fun r e => ?_))
  subst e
  rw [h2]
  exact ⟨_, rfl, rfl⟩
end
/-! ### drawn -/
theorem mulL_e {f : DV.Env → M RV} {g : DV.Env → M RV} {ρ : DV.Env} {d : D} {n : Nat} (h1 : f ρ = DV.ret (.n [d])) (h2 : g ρ = DV.ret (.d (.int (n : Nat)))) (h3 : 1 ≤ n) (h4 : n ≤ 1000) : e2 gMulA f g ρ = DV.ret (.n (List.replicate n d)) := by
  refine e2_e h1 h2 ?_
  show (if _ then some (RV.n (List.replicate (n : Int).toNat [d]).flatten) else none) = _
  rw [if_pos ⟨by omega, by omega, by simp⟩, rep_one, Int.toNat_natCast]
theorem drawsG {fi : DV.Env → M (List D × Option Nat)} {its : List D} {lk : Option Nat} {i : Nat} {vs : List Nat} {el : DV.Env → M RV} {ρ : DV.Env} {P : RV → Prop} {p : Int → Prop} (e : fi ρ = DV.ret (its, lk)) (hl : its.length ≤ 1000)
    (h : ∀ x ∈ its, DV.Gives (el ((wipeE ρ vs).set i (some (.d x)))) fun r => ∃ j, r = .d (.int j) ∧ p j)
    (k : ∀ js : List Int, js.length = its.length → (∀ j ∈ js, p j) → P (.d (ti js))) : DV.Gives (eCall gTuple (aCons (eLc fi vs (gNm i) tTrue el) aNil) ρ) P := by
  refine gv_call (gv_cons (gv_lc e (by omega) ?_))
  refine (DV.Gives.lc (P := fun _ d => ∃ j, d = PyData.int j ∧ p j) _ fun x hx => ⟨(wipeE ρ vs).set i (some (.d x)), rfl, (h x hx).mono fun r ⟨j, er, pj⟩ => ?_⟩).mono fun ds hd => ?_
  · subst er
    exact ⟨_, rfl, j, rfl, pj⟩
  · obtain ⟨js, rfl, hl2, hp⟩ := all2_ints hd
    exact gv_nil ⟨_, rfl, k js hl2 hp⟩
theorem gv_forG {fi : DV.Env → M (List D × Option Nat)} {tg : D → DV.Env → Option DV.Env} {g : DV.Env → M Out} {ρ : DV.Env} {Q : Out → Prop} (p : DV.Gives (fi ρ) fun q => DV.Gives (loopF tg g q.1 (lockE ρ q.2)) fun o => Q (unlockO ρ q.2 o)) : DV.Gives (sFor fi tg g ρ) Q := by
  unfold sFor
  exact DV.Gives.bnd p fun q h => DV.Gives.bnd h fun o r => DV.Gives.ret r
theorem iRng1_gives {f : DV.Env → M RV} {ρ : DV.Env} {P : List D × Option Nat → Prop} (h : DV.Gives (f ρ) fun r => ∃ i : Int, r = .d (.int i) ∧ 0 ≤ i ∧ i ≤ 1000 ∧ P ((rngI 0 i.toNat).map PyData.int, none)) : DV.Gives (iRng1F f ρ) P := by
  unfold iRng1F
  refine DV.Gives.bnd h fun r ⟨i, e, i0, i1, p⟩ => ?_
  subst e
  show DV.Gives (bnd (lft (some i)) _) _
  rw [lft_s, bnd_ret, if_pos ⟨by omega, by omega⟩, rngD_eq]
  exact DV.Gives.ret p
theorem table_two (most : Int) (h1 : 1 ≤ most) (h2 : most ≤ 8) : DV.Gives (m__law_table [.row, .d (.int most), .d (.int 2), .d (.int 0)]) fun r => ∃ tb, r = .d (sts tb) ∧ 1 ≤ tb.length ∧ (tb.length : Int) ≤ most ∧ ∀ p ∈ tb, (0 ≤ p.1 ∧ p.1 < 12) ∧ 0 ≤ p.2 ∧ p.2 < 12 := by
  refine gv_run (gv_seq (gv_set (gv_fn (gv_cons (gv_var rfl (gv_cons (gv_lst (gv_cons (gv_c (gv_cons (gv_c (gv_nil ⟨_, rfl, (by show (_ : Nat) ≤ _; simp), gv_nil ⟨rfl, ?_⟩⟩))))))))))))
  refine (pick_gives [.int 3, .int 12] (by simp) (by simp)).mono fun r ⟨d, hd, e⟩ => ?_
  subst e
  have htop : ∃ top : Int, d = .int top ∧ 1 ≤ top ∧ top ≤ 12 := by
    rcases List.mem_cons.mp hd with q | q
    · exact ⟨3, q, by omega, by omega⟩
    · rcases List.mem_cons.mp q with q | q
      · exact ⟨12, q, by omega, by omega⟩
      · cases q
  obtain ⟨top, rfl, t1, t2⟩ := htop
  refine ⟨_, rfl, ?_⟩
  refine gv_seq (gv_set (gv_lst (gv_nil ⟨[], rfl, by simp, _, rfl, ?_⟩)))
  refine gv_seq (gv_forG (iRng1_gives (gv_e2 (gv_c (gv_fn (gv_cons (gv_var rfl (gv_cons (gv_var rfl (gv_nil ⟨rfl, ?_⟩))))))))))
  refine (taken_eq most (by omega) (by omega)).mono fun r ⟨m, e, m0, m1⟩ => ?_
  subst e
  refine ⟨_, rfl, 1 + m, rfl, by omega, by omega, ?_⟩
  refine DV.Gives.loop _ (fun xs ρ => ∃ (tb : List (Int × Int)) (y6 y7 : Option SV), ρ = [some .row, some (.d (.int most)), some (.d (.int 2)), some (.d (.int 0)), some (.d (.int top)), some (.o (tb.map pr)), y6, y7] ∧ xs.length + tb.length = (1 + m).toNat ∧ ∀ p ∈ tb, (0 ≤ p.1 ∧ p.1 < 12) ∧ 0 ≤ p.2 ∧ p.2 < 12) _ ⟨[], none, none, rfl, by rw [List.length_map, rngI_len]; rfl, fun _ h => nomatch h⟩ ?_ ?_
  · rintro x xs ρ ⟨tb, y6, y7, rfl, hl, hr⟩
    rw [List.length_cons] at hl
    refine ⟨_, rfl, gv_app (ds := tb.map pr) rfl (by rw [List.length_map]; omega) (draws (n := 2) (p := fun t => 0 ≤ t ∧ t < 12) (var_eq rfl) (by omega) (fun z => ?_) fun js hjl hjs => ?_)⟩
    · refine gv_e2 (gv_var rfl (gv_fn (gv_cons (gv_var rfl (gv_cons (gv_var rfl (gv_nil ⟨rfl, ?_⟩)))))))
      refine (taken_eq top (by omega) (by omega)).mono fun r ⟨i, e, i0, i1⟩ => ?_
      subst e
      exact ⟨_, rfl, _, rfl, by omega, by omega⟩
    · match js, hjl with
      | [a, b], _ =>
        have ha := hjs a (by simp)
        have hb := hjs b (by simp)
        refine ⟨_, rfl, tb ++ [(a, b)], some (.d x), y7, ?_, by rw [List.length_append, List.length_singleton]; omega, fun p hp => ?_⟩
        · rw [List.map_append]
          rfl
        · rcases List.mem_append.mp hp with z | z
          · exact hr p z
          · rw [List.mem_singleton] at z
            subst z
            exact ⟨ha, hb⟩
  · rintro ρ ⟨tb, y6, y7, rfl, hl, hr⟩
    have hl2 : tb.length = (1 + m).toNat := by simpa using hl
    exact gv_rt (gv_call (gv_cons (gv_var rfl (gv_nil ⟨_, rfl, _, rfl, tb, rfl, by omega, by omega, hr⟩))))
theorem spans_two (most : Int) (h1 : 1 ≤ most) (h2 : most ≤ 14) : DV.Gives (m__law_spans [.row, .d (.int most)]) fun r => ∃ ss, r = .d (sts ss) ∧ 1 ≤ ss.length ∧ (ss.length : Int) ≤ most ∧ ∀ p ∈ ss, 0 ≤ p.1 ∧ p.1 < p.2 ∧ p.2 ≤ 60 := by
  refine gv_run (gv_seq (gv_par (gv_cons (gv_lst (gv_nil ⟨[], rfl, by simp, ?_⟩)))))
  refine gv_cons (gv_fn (gv_cons (gv_var rfl (gv_cons (gv_lst (gv_cons (gv_c (gv_cons (gv_c (gv_cons (gv_c (gv_nil ⟨_, rfl, (by show (_ : Nat) ≤ _; simp), gv_nil ⟨rfl, ?_⟩⟩))))))))))))
  refine (pick_gives [.int 6, .int 12, .int 40] (by simp) (by simp)).mono fun r ⟨d, hd, e⟩ => ?_
  subst e
  obtain ⟨top, rfl, t1, t2⟩ : ∃ top : Int, d = .int top ∧ 1 ≤ top ∧ top ≤ 40 := by
    rcases List.mem_cons.mp hd with q | q
    · exact ⟨6, q, by omega, by omega⟩
    · rcases List.mem_cons.mp q with q | q
      · exact ⟨12, q, by omega, by omega⟩
      · rcases List.mem_cons.mp q with q | q
        · exact ⟨40, q, by omega, by omega⟩
        · cases q
  refine gv_nil ⟨_, _, _, _, rfl, rfl, rfl, ?_⟩
  refine gv_seq (gv_forG (iRng1_gives (gv_e2 (gv_c (gv_fn (gv_cons (gv_var rfl (gv_cons (gv_var rfl (gv_nil ⟨rfl, ?_⟩))))))))))
  refine (taken_eq most (by omega) (by omega)).mono fun r ⟨k, e, k0, k1⟩ => ?_
  subst e
  refine ⟨_, rfl, 1 + k, rfl, by omega, by omega, ?_⟩
  refine DV.Gives.loop _ (fun xs ρ => ∃ (ss : List (Int × Int)) (y4 y5 : Option SV), ρ = [some .row, some (.d (.int most)), some (.o (ss.map pr)), some (.d (.int top)), y4, y5] ∧ xs.length + ss.length = (1 + k).toNat ∧ ∀ p ∈ ss, 0 ≤ p.1 ∧ p.1 < p.2 ∧ p.2 ≤ 60) _ ⟨[], none, none, rfl, by rw [List.length_map, rngI_len]; rfl, fun _ h => nomatch h⟩ ?_ ?_
  · rintro x xs ρ ⟨ss, y4, y5, rfl, hl, hr⟩
    rw [List.length_cons] at hl
    refine ⟨_, rfl, gv_seq (gv_set (gv_fn (gv_cons (gv_var rfl (gv_cons (gv_var rfl (gv_nil ⟨rfl, ?_⟩)))))))⟩
    refine (taken_eq top (by omega) (by omega)).mono fun r ⟨b, e, b0, b1⟩ => ?_
    subst e
    refine ⟨_, rfl, ?_⟩
    refine gv_app (ds := ss.map pr) rfl (by rw [List.length_map]; omega) (gv_tup (gv_cons (gv_var rfl (gv_cons (gv_e2 (gv_e2 (gv_var rfl (gv_c ⟨_, rfl, ?_⟩))))))))
    refine gv_fn (gv_cons (gv_var rfl (gv_cons (gv_fn (gv_cons (gv_var rfl (gv_cons (gv_lst (gv_cons (gv_c (gv_cons (gv_c (gv_cons (gv_c (gv_nil ⟨_, rfl, (by show (_ : Nat) ≤ _; simp), gv_nil ⟨rfl, ?_⟩⟩)))))))))))))))
    refine (pick_gives [.int 2, .int 6, .int 20] (by simp) (by simp)).mono fun r ⟨d, hd, e⟩ => ?_
    subst e
    obtain ⟨w, rfl, w1, w2⟩ : ∃ w : Int, d = .int w ∧ 1 ≤ w ∧ w ≤ 20 := by
      rcases List.mem_cons.mp hd with q | q
      · exact ⟨2, q, by omega, by omega⟩
      · rcases List.mem_cons.mp q with q | q
        · exact ⟨6, q, by omega, by omega⟩
        · rcases List.mem_cons.mp q with q | q
          · exact ⟨20, q, by omega, by omega⟩
          · cases q
    refine gv_nil ⟨rfl, ?_⟩
    refine (taken_eq w (by omega) (by omega)).mono fun r ⟨i, e, i0, i1⟩ => ?_
    subst e
    refine ⟨_, rfl, gv_nil ⟨[.int b, .int (b + 1 + i)], rfl, by simp, _, rfl, ?_⟩⟩
    refine ⟨ss ++ [(b, b + 1 + i)], _, _, by rw [List.map_append]; rfl, by rw [List.length_append, List.length_singleton]; omega, fun p hp => ?_⟩
    rcases List.mem_append.mp hp with z | z
    · exact hr p z
    · rw [List.mem_singleton] at z
      subst z
      simp only
      omega
  · rintro ρ ⟨ss, y4, y5, rfl, hl, hr⟩
    have hl2 : ss.length = (1 + k).toNat := by simpa using hl
    refine gv_rt (gv_call (gv_cons (gv_var rfl (gv_nil ⟨.d (sts ss), rfl, _, rfl, ss, rfl, by omega, by omega, hr⟩))))
end DVE

/-! k40: the law -/
namespace Lk40
open PySem L2 DV DVL DVE
theorem err_one (q' : Q3) (rs : RS) : err_gs q' ((List.replicate 3 none).set 2 (some (.ex q' ⟨"BadTable", some ("index", .none)⟩))) rs = some (.rt (.d (.bool true)), rs) := by
  have e0 : eIsX err_names q' 2 (fun c => decide (c = "BadTable")) [none, none, some (.ex q' ⟨"BadTable", some ("index", .none)⟩)] = DV.ret (.d (.bool true)) := eIsX_at (e := ⟨"BadTable", some ("index", .none)⟩) rfl (by decide)
  have e1 : eXf err_names q' 2 "index" [none, none, some (.ex q' ⟨"BadTable", some ("index", .none)⟩)] = DV.ret (.d .none) := eXf_at rfl (by decide)
  unfold err_gs
  show sRet _ [none, none, some (.ex q' ⟨"BadTable", some ("index", .none)⟩)] rs = _
  refine sRet_at (x := .d (.bool true)) (rs' := rs) ?_ rfl
  show eIfB _ _ _ [none, none, some (.ex q' ⟨"BadTable", some ("index", .none)⟩)] rs = _
  unfold eIfB e2
  rw [e0, e1]
  rfl
theorem err_holds : ErrHolds := by
  intro q' e d rs h
  unfold err_sv at h
  split at h
  · split at h
    · rename_i h1
      obtain ⟨h1, h2⟩ := h1
      subst h1 h2
      cases h
      exact err_one q' rs
    · cases h
  · cases h
abbrev body : DV.Env → M Out := (sSeq (sSet 5 (eFn (fun xs => if xs.length = 2 then m_unit_open xs else fail) (aCons (eVar 3) (aCons (eVar 4) aNil))))
  (sSeq (sIf (tIfT (tNotF (DV.eT (eIsT .list (eVar 5)))) (tRetB true) (DV.eT (e2 gNe (eCall gLen (aCons (eVar 5) aNil)) (eCall gMax2 (aCons (eVar 3) (aCons (eVar 4) aNil)))))) (sRet (eC (.bool false))) sNil)
  (sSeq (sFor (srcV 5) (gNm 6) (sSeq (sSet 7 (eLc (srcV 6) [8] (gNm 8) (DV.eT (e2 gNe (eVar 8) (eNeg (eC (.int 1))))) (eVar 8)))
  (sIf (tIfT (tNotF (DV.eT (eIsT .tuple (eVar 6)))) (tRetB true) (tIfT (DV.eT (e2 gNe (eCall gLen (aCons (eVar 6) aNil)) (eVar 4))) (tRetB true) (tIfT (DV.eT (e2 gNe (eLenSet (eVar 7)) (eCall gLen (aCons (eVar 7) aNil)))) (tRetB true) (DV.eT (e2 gNe (eLc (srcV 7) [8] (gNm 8) (tNotF (DV.eT (eCh gLe gLt (eC (.int 0)) (eVar 8) (eVar 3)))) (eVar 8)) (eLst aNil)))))) (sRet (eC (.bool false))) sNil)))
  (sSeq (sFor (iRng1F (eVar 4)) (gNm 9) (sIf (DV.eT (e2 gNe (eCall gSort (aCons (eLc (srcV 5) [6] (gNm 6) (DV.eT (e2 gNe (e2 gIx (eVar 6) (eVar 9)) (eNeg (eC (.int 1))))) (e2 gIx (eVar 6) (eVar 9))) aNil)) (eListRg (rg1F (eVar 3))))) (sRet (eC (.bool false))) sNil))
  (sIf (tIfT (DV.eT (e2 gLt (eVar 3) (eC (.int 7)))) (tIfT (DV.eT (e2 gLt (eVar 4) (eC (.int 5)))) (DV.eT (e2 gNe (eFn (fun xs => if xs.length = 1 then m_open_bound xs else fail) (aCons (e2 gMulA (eTup (aCons (e2 gMulA (eTup (aCons (eC (.int 1)) aNil)) (eVar 4)) aNil)) (eVar 3)) aNil)) (eCall gLen (aCons (eVar 5) aNil)))) (tRetB false)) (tRetB false)) (sRet (eC (.bool false))) sNil)))))
def shp : DV.Env → Bool
  | [none, some .row, _, _, _, _, _, _, _, _, _] => true
  | _ => false
theorem shp_of : ∀ {ρ : DV.Env}, shp ρ = true → ∃ y2 y3 y4 y5 y6 y7 y8 y9 y10 : Option SV, ρ = [none, some .row, y2, y3, y4, y5, y6, y7, y8, y9, y10] := by
  intro ρ h
  unfold shp at h
  split at h
  · exact ⟨_, _, _, _, _, _, _, _, _, rfl⟩
  · cases h
def chk : Option (Out × RS) → Bool
  | some (.nx ρ, _) => shp ρ
  | _ => false
abbrev env (x : D) (j m : Int) (y5 y6 y7 y8 y9 y10 : Option SV) : DV.Env := [none, some .row, some (.d x), some (.d (.int j)), some (.d (.int m)), y5, y6, y7, y8, y9, y10]
theorem ok_1 (x : D) (y5 y6 y7 y8 y9 y10 : Option SV) (rs : RS) : ((List.range 12).all fun m => chk (body (env x 1 ((m : Int) + 1) y5 y6 y7 y8 y9 y10) rs)) = true := by kernel_rfl
theorem ok_2 (x : D) (y5 y6 y7 y8 y9 y10 : Option SV) (rs : RS) : ((List.range 12).all fun m => chk (body (env x 2 ((m : Int) + 1) y5 y6 y7 y8 y9 y10) rs)) = true := by kernel_rfl
theorem ok_3 (x : D) (y5 y6 y7 y8 y9 y10 : Option SV) (rs : RS) : ((List.range 12).all fun m => chk (body (env x 3 ((m : Int) + 1) y5 y6 y7 y8 y9 y10) rs)) = true := by kernel_rfl
theorem ok_4 (x : D) (y5 y6 y7 y8 y9 y10 : Option SV) (rs : RS) : ((List.range 12).all fun m => chk (body (env x 4 ((m : Int) + 1) y5 y6 y7 y8 y9 y10) rs)) = true := by kernel_rfl
theorem ok_5 (x : D) (y5 y6 y7 y8 y9 y10 : Option SV) (rs : RS) : ((List.range 12).all fun m => chk (body (env x 5 ((m : Int) + 1) y5 y6 y7 y8 y9 y10) rs)) = true := by kernel_rfl
theorem ok_6 (x : D) (y5 y6 y7 y8 y9 y10 : Option SV) (rs : RS) : ((List.range 12).all fun m => chk (body (env x 6 ((m : Int) + 1) y5 y6 y7 y8 y9 y10) rs)) = true := by kernel_rfl
theorem ok_7 (x : D) (y5 y6 y7 y8 y9 y10 : Option SV) (rs : RS) : ((List.range 12).all fun m => chk (body (env x 7 ((m : Int) + 1) y5 y6 y7 y8 y9 y10) rs)) = true := by kernel_rfl
theorem ok_8 (x : D) (y5 y6 y7 y8 y9 y10 : Option SV) (rs : RS) : ((List.range 12).all fun m => chk (body (env x 8 ((m : Int) + 1) y5 y6 y7 y8 y9 y10) rs)) = true := by kernel_rfl
theorem ok_9 (x : D) (y5 y6 y7 y8 y9 y10 : Option SV) (rs : RS) : ((List.range 12).all fun m => chk (body (env x 9 ((m : Int) + 1) y5 y6 y7 y8 y9 y10) rs)) = true := by kernel_rfl
theorem ok_10 (x : D) (y5 y6 y7 y8 y9 y10 : Option SV) (rs : RS) : ((List.range 12).all fun m => chk (body (env x 10 ((m : Int) + 1) y5 y6 y7 y8 y9 y10) rs)) = true := by kernel_rfl
theorem ok_11 (x : D) (y5 y6 y7 y8 y9 y10 : Option SV) (rs : RS) : ((List.range 12).all fun m => chk (body (env x 11 ((m : Int) + 1) y5 y6 y7 y8 y9 y10) rs)) = true := by kernel_rfl
theorem ok_12 (x : D) (y5 y6 y7 y8 y9 y10 : Option SV) (rs : RS) : ((List.range 12).all fun m => chk (body (env x 12 ((m : Int) + 1) y5 y6 y7 y8 y9 y10) rs)) = true := by kernel_rfl
theorem all_ok (x : D) (j m : Int) (y5 y6 y7 y8 y9 y10 : Option SV) (j1 : 0 ≤ j) (j2 : j < 12) (m1 : 0 ≤ m) (m2 : m < 12) (rs : RS) : chk (body (env x (1 + j) (1 + m) y5 y6 y7 y8 y9 y10) rs) = true := by
  have key : ∀ k : Int, ((List.range 12).all fun m => chk (body (env x k ((m : Int) + 1) y5 y6 y7 y8 y9 y10) rs)) = true → chk (body (env x k (1 + m) y5 y6 y7 y8 y9 y10) rs) = true := fun k h => by
    rw [List.all_eq_true] at h
    have h := h m.toNat (List.mem_range.mpr (by omega))
    rw [Int.toNat_of_nonneg m1, Int.add_comm m 1] at h
    exact h
  have hj : j = 0 ∨ j = 1 ∨ j = 2 ∨ j = 3 ∨ j = 4 ∨ j = 5 ∨ j = 6 ∨ j = 7 ∨ j = 8 ∨ j = 9 ∨ j = 10 ∨ j = 11 := by omega
  rcases hj with rfl | rfl | rfl | rfl | rfl | rfl | rfl | rfl | rfl | rfl | rfl | rfl
  · exact key 1 (ok_1 x y5 y6 y7 y8 y9 y10 rs)
  · exact key 2 (ok_2 x y5 y6 y7 y8 y9 y10 rs)
  · exact key 3 (ok_3 x y5 y6 y7 y8 y9 y10 rs)
  · exact key 4 (ok_4 x y5 y6 y7 y8 y9 y10 rs)
  · exact key 5 (ok_5 x y5 y6 y7 y8 y9 y10 rs)
  · exact key 6 (ok_6 x y5 y6 y7 y8 y9 y10 rs)
  · exact key 7 (ok_7 x y5 y6 y7 y8 y9 y10 rs)
  · exact key 8 (ok_8 x y5 y6 y7 y8 y9 y10 rs)
  · exact key 9 (ok_9 x y5 y6 y7 y8 y9 y10 rs)
  · exact key 10 (ok_10 x y5 y6 y7 y8 y9 y10 rs)
  · exact key 11 (ok_11 x y5 y6 y7 y8 y9 y10 rs)
  · exact key 12 (ok_12 x y5 y6 y7 y8 y9 y10 rs)
theorem body_gives (x : D) (j m : Int) (y5 y6 y7 y8 y9 y10 : Option SV) (j1 : 0 ≤ j) (j2 : j < 12) (m1 : 0 ≤ m) (m2 : m < 12) : DV.Gives (body (env x (1 + j) (1 + m) y5 y6 y7 y8 y9 y10)) fun o => ∃ y2 y3 y4 y5 y6 y7 y8 y9 y10 : Option SV, o = .nx [none, some .row, y2, y3, y4, y5, y6, y7, y8, y9, y10] := fun rs => by
  have h := all_ok x j m y5 y6 y7 y8 y9 y10 j1 j2 m1 m2 rs
  cases e : body (env x (1 + j) (1 + m) y5 y6 y7 y8 y9 y10) rs with
  | none => rw [e] at h; cases h
  | some p =>
    obtain ⟨o, rs'⟩ := p
    rw [e] at h
    cases o with
    | nx ρ =>
      obtain ⟨y2, y3, y4, y5, y6, y7, y8, y9, y10, q⟩ := shp_of h
      exact ⟨_, rs', rfl, y2, y3, y4, y5, y6, y7, y8, y9, y10, by rw [q]⟩
    | rt _ => cases h
    | bk _ => cases h
    | ct _ => cases h
abbrev bads : List D := [.int 0, .int 13, .none, .bool true, .str "2"]
theorem ref_a : ∀ d ∈ bads, DV.Gives (m__law_refused [.d d, .d (.int 3)]) fun r => r = .d (.bool true) := fun d hd => by
  simp only [bads, List.mem_cons, List.not_mem_nil, or_false] at hd
  rcases hd with rfl | rfl | rfl | rfl | rfl <;> exact fun rs => ⟨.d (.bool true), rs, by kernel_rfl, rfl⟩
theorem ref_b : ∀ d ∈ bads, DV.Gives (m__law_refused [.d (.int 3), .d d]) fun r => r = .d (.bool true) := fun d hd => by
  simp only [bads, List.mem_cons, List.not_mem_nil, or_false] at hd
  rcases hd with rfl | rfl | rfl | rfl | rfl <;> exact fun rs => ⟨.d (.bool true), rs, by kernel_rfl, rfl⟩
theorem law_gives : DV.Gives (g_law (lawE 11)) fun o => o = .rt (.d (.bool true)) := by
  refine gv_seq (gv_for (rng1_eq rfl (by decide) (by decide)) ?_)
  refine DV.Gives.loop _ (fun xs ρ => ∃ y2 y3 y4 y5 y6 y7 y8 y9 y10 : Option SV, ρ = [none, some .row, y2, y3, y4, y5, y6, y7, y8, y9, y10]) _ ⟨_, _, _, _, _, _, _, _, _, rfl⟩ ?_ ?_
  · rintro x xs ρ ⟨y2, y3, y4, y5, y6, y7, y8, y9, y10, rfl⟩
    refine ⟨_, rfl, gv_seq (gv_par (gv_cons (gv_e2 (gv_c (gv_fn (gv_cons (gv_var rfl (gv_cons (gv_c (gv_nil ⟨rfl, ?_⟩))))))))))⟩
    refine (taken_eq 12 (by decide) (by decide)).mono fun r ⟨j, e, j0, j1⟩ => ?_
    subst e
    refine ⟨.d (.int (1 + j)), rfl, ?_⟩
    refine gv_cons (gv_e2 (gv_c (gv_fn (gv_cons (gv_var rfl (gv_cons (gv_c (gv_nil ⟨rfl, ?_⟩))))))))
    refine (taken_eq 12 (by decide) (by decide)).mono fun r ⟨m, e, m0, m1⟩ => ?_
    subst e
    refine ⟨.d (.int (1 + m)), rfl, gv_nil ⟨_, _, _, _, rfl, rfl, rfl, ?_⟩⟩
    refine DV.Gives.mono (body_gives x j m y5 y6 y7 y8 y9 y10 j0 j1 m0 m1) fun o ⟨z2, z3, z4, z5, z6, z7, z8, z9, z10, e⟩ => ?_
    subst e
    exact ⟨_, _, _, _, _, _, _, _, _, rfl⟩
  · rintro ρ ⟨y2, y3, y4, y5, y6, y7, y8, y9, y10, rfl⟩
    refine gv_seq (gv_set (gv_pick rfl (gv_eq (a := [.d (.int 0), .d (.int 13), .d .none, .d (.bool true), .d (.str "2")]) rfl ⟨bads, rfl, by decide, by decide, fun d hd => ⟨_, rfl, ?_⟩⟩)))
    refine gv_rt (gv_ifB (gv_fn (gv_cons (gv_var rfl (gv_cons (gv_c (gv_nil ⟨rfl, ?_⟩)))))))
    refine (ref_a d hd).mono fun r e => ?_
    subst e
    refine ⟨true, rfl, fun _ => gv_fn (gv_cons (gv_c (gv_cons (gv_var rfl (gv_nil ⟨rfl, ?_⟩))))), fun q => nomatch q⟩
    refine (ref_b d hd).mono fun r e => ?_
    subst e
    exact ⟨_, rfl, rfl⟩
theorem law_holds : LawHolds := fun ns _ => by
  obtain ⟨o, rs', e, rfl⟩ := law_gives ⟨ns, 0, 3940, 0⟩
  exact ⟨rs', e⟩
end Lk40

open PySem PySem.W PyProof.Rows
set_option maxHeartbeats 0 in
theorem PySem.Challenge.cw_shoporders_k40_whole_unit_jobs_in_any_or_holds : PySem.Challenge.rw_shoporders_k40_whole_unit_jobs_in_any_or.Holds := by
  w_on; o_law; k_head; (case hw => w_witness2)
  k_fill
  refine DV.walk_lam (l := PySem.Challenge.rw_shoporders_k40_whole_unit_jobs_in_any_or) (n := 63) (k := 5) (x := "_law_script") [] rfl (by decide) rfl ⟨rfl, by decide, by decide⟩ (by kernel_rfl) (fun w h Y => PySem.W.kIn_of Y) ?F
  case F =>
    intro w mg fa h KX G hmg own
    refine' Lk40.all_mk Lk40.law_holds Lk40.err_holds KX G hmg ?a1 ?l1 ?c1 ?k1 ?a2 ?l2 ?c2 ?k2 ?a3 ?l3 ?c3 ?k3 ?a4 ?l4 ?c4 ?k4 ?a5 ?l5 ?c5 ?k5 ?a6 ?l6 ?c6 ?k6 ?a7 ?l7 ?c7 ?k7 ?a8 ?l8 ?c8 ?k8 ?a9 ?l9 ?c9 ?k9 ?a10 ?l10 ?c10 ?k10 ?a11 ?l11 ?c11 ?k11 ?A_ShopError ?A_BadTable ?L_BadTable ?R_BadTable ?J_BadTable ?F_BadTable ?Q_BadTable ?K_BadTable ?V_BadTable ?W_BadTable ?Z_BadTable ?B_BadTable ?zs ?zp ?tb ?tt own ?z0 ?z1 ?z2 ?z3 ?z4 ?z5 ?z6 ?z7 ?z8 ?z9 ?z10 ?z11 ?z12 ?y0
    (case a1 => k_is); (case l1 => k_is); (case c1 => k_is); (case k1 => k_is); (case a2 => k_is); (case l2 => k_is); (case c2 => k_is); (case k2 => k_is); (case a3 => k_is); (case l3 => k_is); (case c3 => k_is); (case k3 => k_is); (case a4 => k_is); (case l4 => k_is); (case c4 => k_is); (case k4 => k_is); (case a5 => k_is); (case l5 => k_is); (case c5 => k_is); (case k5 => k_is); (case a6 => k_is); (case l6 => k_is); (case c6 => k_is); (case k6 => k_is); (case a7 => k_is); (case l7 => k_is); (case c7 => k_is); (case k7 => k_is); (case a8 => k_is); (case l8 => k_is); (case c8 => k_is); (case k8 => k_is); (case a9 => k_is); (case l9 => k_is); (case c9 => k_is); (case k9 => k_is); (case a10 => k_is); (case l10 => k_is); (case c10 => k_is); (case k10 => k_is); (case a11 => k_is); (case l11 => k_is); (case c11 => k_is); (case k11 => k_is)
    
    (case A_ShopError => k_is); (case A_BadTable => k_is); (case L_BadTable => k_is); (case R_BadTable => kernel_rfl); (case J_BadTable => k_is); (case F_BadTable => k_is); (case Q_BadTable => k_is); (case K_BadTable => k_is); (case V_BadTable => rfl); (case W_BadTable => kernel_rfl); (case Z_BadTable => k_is); (case B_BadTable => kernel_rfl); (case zs => k_is); (case zp => kernel_rfl); (case tb => kernel_rfl)
    (case tt => kernel_rfl); (case z0 => k_is); (case z1 => k_is); (case z2 => k_is); (case z3 => k_is); (case z4 => k_is); (case z5 => k_is); (case z6 => k_is); (case z7 => k_is); (case z8 => k_is); (case z9 => k_is); (case z10 => k_is); (case z11 => k_is); (case z12 => k_is); (case y0 => k_is)

