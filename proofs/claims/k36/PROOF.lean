import PyProof.Rows.All
import Wide.All
import OpenK.AllK
import Wide.FinOn
import HandS.ForMost
import HandS.Flow
import HandS.Wide
import HandS.WideBits
import HandS.More
import HandS.Codes
import HandS.Defaults
import KE.DataFind
import KE.Datum
import KE.DatumMore
import KE.DatumOrd
import KE.DatumMoreOrd
import KE.DatumIndex
import KE.SortData
import HandS.Walk
import HandS.IsInst
import KE.KDictKeyed
import HandS.TupAny
import HandS.Conv
import PyProof.Rows.SetFrom
import HandS.Set
import HandS.Strs
import HandS.TupSets
import HandS.Style
import HandS.Iter
import HandS.Zip
import HandS.RevTup
import PyProof.ListStr
import KE.KDictZip
import KE.KItemsList
import KE.KRevSl
import PyProof.TupleOfSeq
import HandS.Ends
import HandS.Star
import KE.KDictSum
import KE.KDictCopyH
import PySem.Challenge.RW_lookdepths_k36_whole_fillings
section
set_option Elab.async false
set_option linter.all false
set_option maxRecDepth 100000
set_option maxHeartbeats 2000000
set_option autoImplicit false
/-! DlA: data by value over the layer L2: D, Den, what stays, the state predicates. -/
namespace DL
open PySem PySem.Spec PyProof.Rows L2

/-- data by value -/
inductive D where
  | py (p : PyData) | lst (xs : List D) | tup (xs : List D) | dct (kvs : List (Key × D)) | ob (a : Addr) | pu | scr (ns : List Int)
  | memo (t : List (Str × V)) | dtp (kvs : List (List Key × D)) | ins (C : Addr) (fs : List (Str × D))

theorem ex_LIM : ∃ n : Nat, n = 2 ^ 1000000 := ⟨_, rfl⟩
/-- the most draws -/
noncomputable def LIM : Nat := ex_LIM.choose
theorem LIM_eq : LIM = 2 ^ 1000000 := ex_LIM.choose_spec
theorem ex_B0 : ∃ n : Int, n = (10 ^ 60) ^ 8 := ⟨_, rfl⟩
noncomputable def B0 : Int := ex_B0.choose
theorem B0_eq : B0 = (10 ^ 60) ^ 8 := ex_B0.choose_spec
/-- a purse of the laws: four ints, the third at most m -/
def PurseAt (a : Addr) (m : Nat) (h : Heap) : Prop :=
  ∃ (i0 i1 i2 i3 : Int) (t0 t1 t2 t3 : Tok) (n : Nat), h.get? a = some { cls := .type "list", data := .seq #[.int i0 t0, .int i1 t1, .int i2 t2, .int i3 t3] n } ∧
    0 ≤ i0 ∧ i0 < B0 ∧ 0 ≤ i1 ∧ i1 < 2147483629 ∧ 0 ≤ i2 ∧ i2 ≤ m ∧ 0 ≤ i3 ∧ i3 ≤ 64
def purseO (a : Addr) (m : Nat) : HO := .ext (PurseAt a m)

/-- what is known beside: the world, the written part, what may stand in a table of answers -/
class Wd where
  w : World
  K : PySem.W.Frag
  good : List (Str × V) → NestedKey → PyData → Prop
  cap : ∀ (t : List (Str × V)) (ks : List NestedKey), ks.Nodup → (∀ k ∈ ks, ∃ p, good t k p) → ks.length < sizeLine
  shal : ∀ (t : List (Str × V)) (k : NestedKey) (p : PyData), good t k p → k.depth ≤ 8
variable [Wd]
/-- a table of answers: its keys, where they stand, the answers -/
abbrev Mem := List (NestedKey × Addr × V)
def MemAt (a : Addr) (kvs : Mem) (h : Heap) : Prop := kvs.length ≤ sizeLine ∧ (a == sysModules) = false ∧ (kvs.map (·.1)).Nodup ∧
  ∃ (vs : List (NestedKey × Addr × Value)) (o : Obj) (es : Array DictEntry) (ep : Nat), Paired (fun (p : NestedKey × Addr × V) (q : NestedKey × Addr × Value) => p.1 = q.1 ∧ p.2.1 = q.2.1 ∧ RelV p.2.2 q.2.2) kvs vs ∧
    h.get? a = some o ∧ o.ExactDict ∧ o.data = .dict es ep ∧ es.toList = vs.map fun x => ⟨x.1.hash Wd.w, .ref x.2.1, x.2.2⟩
def memO (a : Addr) (kvs : Mem) : HO := .ext (MemAt a kvs)
theorem purse_ne_mem {a : Addr} {m : Nat} {kvs : Mem} : purseO a m ≠ memO a kvs := by
  intro e
  have e' : PurseAt a m = MemAt a kvs := HO.ext.inj e
  have B0p : (0 : Int) < B0 := by rw [B0_eq]; decide
  let o : Obj := { cls := .type "list", data := .seq #[.int 0 0, .int 0 0, .int 0 0, .int 0 0] 0 }
  have g : ({ objs := Array.replicate (a + 1) o } : Heap).get? a = some o := by
    unfold Heap.get?
    rw [show (Array.replicate (a + 1) o)[a]? = some o from by simp]
  have h1 : PurseAt a m { objs := Array.replicate (a + 1) o } := ⟨0, 0, 0, 0, 0, 0, 0, 0, 0, g, by omega, B0p, by omega, by omega, by omega, by omega, by omega, by omega⟩
  rw [e'] at h1
  obtain ⟨_, _, _, _, o', _, _, _, h2, h3, _⟩ := h1
  rw [g] at h2; cases h2
  exact absurd (Value.type.inj h3.1) (by decide)

/-- what the object at a may become while it counts as the same -/
inductive Le (a : Addr) : HO → HO → Prop where
  | refl (o : HO) : Le a o o
  | purse (m m' : Nat) : Le a (purseO a m) (purseO a m')
  | memo (k k' : Mem) : Le a (memO a k) (memO a k')
section
variable {a : Addr}
theorem Le.lst {xs : List V} {o : HO} (h : Le a (.lst xs) o) : o = .lst xs := by cases h; rfl
theorem Le.tup {xs : List V} {o : HO} (h : Le a (.tup xs) o) : o = .tup xs := by cases h; rfl
theorem Le.dK {xs : List (Key × V)} {o : HO} (h : Le a (.dK xs) o) : o = .dK xs := by cases h; rfl
theorem Le.dT {xs : List (List Key × V)} {o : HO} (h : Le a (.dT xs) o) : o = .dT xs := by cases h; rfl
theorem Le.ins {C d : Addr} {xs : List (Str × V)} {o : HO} (h : Le a (.ins C d xs) o) : o = .ins C d xs := by cases h; rfl
theorem Le.xd {xs : List (Str × V)} {o : HO} (h : Le a (.xd xs) o) : o = .xd xs := by cases h; rfl
theorem Le.frz {q : Obj} {u o : HO} (h : Le a (.frz q u) o) : o = .frz q u := by cases h; rfl
theorem Le.pu {m : Nat} {o : HO} (h : Le a (purseO a m) o) : ∃ m', o = purseO a m' := by
  generalize e : purseO a m = y at h
  cases h with
  | refl => exact ⟨m, e.symm⟩
  | purse n n' => exact ⟨n', rfl⟩
  | memo k k' => exact absurd e purse_ne_mem
theorem Le.mem {k : Mem} {o : HO} (h : Le a (memO a k) o) : ∃ k', o = memO a k' := by
  generalize e : memO a k = y at h
  cases h with
  | refl => exact ⟨k, e.symm⟩
  | purse n n' => exact absurd e.symm purse_ne_mem
  | memo k1 k2 => exact ⟨k2, rfl⟩
theorem Le.trans {o u z : HO} (h : Le a o u) (k : Le a u z) : Le a o z := by
  cases h with
  | refl => exact k
  | purse m m' => obtain ⟨n, rfl⟩ := k.pu; exact .purse _ _
  | memo m m' => obtain ⟨n, rfl⟩ := k.mem; exact .memo _ _
end
/-- as Le; a dict may be locked besides, a tag stands for its table -/
inductive LLe (a : Addr) : HO → HO → Prop where
  | refl (o : HO) : LLe a o o
  | purse (m m' : Nat) : LLe a (purseO a m) (purseO a m')
  | memo (k k' : Mem) : LLe a (memO a k) (memO a k')
  | lock (kvs : List (Key × V)) (q : Obj) : LLe a (.dK kvs) (.frz q (.dK kvs))
  | lockT (kvs : List (List Key × V)) (q : Obj) : LLe a (.dT kvs) (.frz q (.dT kvs))
  | tag (t : List (Str × V)) (k : Mem) : LLe a (.xd t) (memO a k)
theorem Le.up {a : Addr} {o u : HO} (h : Le a o u) : LLe a o u := by cases h with | refl => exact .refl _ | purse m m' => exact .purse m m' | memo m m' => exact .memo m m'
/-- as LLe; a dict may be unlocked besides -/
inductive ULe (a : Addr) : HO → HO → Prop where
  | lo {o u : HO} : LLe a o u → ULe a o u
  | unl (kvs : List (Key × V)) (q : Obj) : ULe a (.frz q (.dK kvs)) (.dK kvs)
  | unlT (kvs : List (List Key × V)) (q : Obj) : ULe a (.frz q (.dT kvs)) (.dT kvs)
section
variable {a : Addr}
theorem LLe.frz {q : Obj} {u o : HO} (h : LLe a (.frz q u) o) : o = .frz q u := by cases h; rfl
theorem ULe.lst {xs : List V} {o : HO} (h : ULe a (.lst xs) o) : o = .lst xs := by cases h with | lo h => cases h; rfl
theorem ULe.tup {xs : List V} {o : HO} (h : ULe a (.tup xs) o) : o = .tup xs := by cases h with | lo h => cases h; rfl
theorem ULe.ins {C d : Addr} {xs : List (Str × V)} {o : HO} (h : ULe a (.ins C d xs) o) : o = .ins C d xs := by cases h with | lo h => cases h; rfl
theorem ULe.flst {q : Obj} {xs : List V} {o : HO} (h : ULe a (.frz q (.lst xs)) o) : o = .frz q (.lst xs) := by cases h with | lo h => cases h; rfl
theorem ULe.ftup {q : Obj} {xs : List V} {o : HO} (h : ULe a (.frz q (.tup xs)) o) : o = .frz q (.tup xs) := by cases h with | lo h => cases h; rfl
theorem ULe.fdK {q : Obj} {xs : List (Key × V)} {o : HO} (h : ULe a (.frz q (.dK xs)) o) : o = .dK xs ∨ ∃ q, o = .frz q (.dK xs) := by
  cases h with
  | lo h => cases h; exact .inr ⟨q, rfl⟩
  | unl _ _ => exact .inl rfl
theorem ULe.dK {xs : List (Key × V)} {o : HO} (h : ULe a (.dK xs) o) : o = .dK xs ∨ ∃ q, o = .frz q (.dK xs) := by
  cases h with
  | lo h =>
    cases h with
    | refl => exact .inl rfl
    | lock _ q => exact .inr ⟨q, rfl⟩
theorem ULe.fdT {q : Obj} {xs : List (List Key × V)} {o : HO} (h : ULe a (.frz q (.dT xs)) o) : o = .dT xs ∨ ∃ q, o = .frz q (.dT xs) := by
  cases h with
  | lo h => cases h; exact .inr ⟨q, rfl⟩
  | unlT _ _ => exact .inl rfl
theorem ULe.dT {xs : List (List Key × V)} {o : HO} (h : ULe a (.dT xs) o) : o = .dT xs ∨ ∃ q, o = .frz q (.dT xs) := by
  cases h with
  | lo h =>
    cases h with
    | refl => exact .inl rfl
    | lockT _ q => exact .inr ⟨q, rfl⟩
theorem LLe.pu {m : Nat} {o : HO} (h : LLe a (purseO a m) o) : ∃ m', o = purseO a m' := by
  generalize e : purseO a m = y at h
  cases h with
  | refl => exact ⟨m, e.symm⟩
  | purse n n' => exact ⟨n', rfl⟩
  | memo n n' => exact absurd e purse_ne_mem
  | lock _ q => cases e
  | lockT _ q => cases e
  | tag _ q => cases e
theorem LLe.mem {k : Mem} {o : HO} (h : LLe a (memO a k) o) : ∃ k', o = memO a k' := by
  generalize e : memO a k = y at h
  cases h with
  | refl => exact ⟨k, e.symm⟩
  | purse n n' => exact absurd e.symm purse_ne_mem
  | memo n n' => exact ⟨n', rfl⟩
  | lock _ q => cases e
  | lockT _ q => cases e
  | tag _ q => cases e
theorem ULe.pu {m : Nat} {o : HO} (h : ULe a (purseO a m) o) : ∃ m', o = purseO a m' := by
  generalize e : purseO a m = y at h
  cases h with
  | lo h => rw [← e] at h; exact h.pu
  | unl _ _ => cases e
  | unlT _ _ => cases e
theorem ULe.mem {k : Mem} {o : HO} (h : ULe a (memO a k) o) : ∃ k', o = memO a k' := by
  generalize e : memO a k = y at h
  cases h with
  | lo h => rw [← e] at h; exact h.mem
  | unl _ _ => cases e
  | unlT _ _ => cases e
theorem Le.preL {o u z : HO} (h : Le a o u) (k : LLe a u z) : LLe a o z := by
  cases h with
  | refl => exact k
  | purse m m' =>
    obtain ⟨n, rfl⟩ := k.pu
    exact .purse _ _
  | memo m m' =>
    obtain ⟨n, rfl⟩ := k.mem
    exact .memo _ _
theorem Le.preU {o u z : HO} (h : Le a o u) (k : ULe a u z) : ULe a o z := by
  cases h with
  | refl => exact k
  | purse m m' =>
    obtain ⟨n, rfl⟩ := k.pu
    exact .lo (.purse _ _)
  | memo m m' =>
    obtain ⟨n, rfl⟩ := k.mem
    exact .lo (.memo _ _)
theorem LLe.post {o u z : HO} (h : LLe a o u) (k : Le a u z) : LLe a o z := by
  cases h with
  | refl => exact k.up
  | purse m m' => exact Le.preL (.purse _ _) k.up
  | memo m m' => exact Le.preL (.memo _ _) k.up
  | lock kvs q => cases k.frz; exact .lock kvs q
  | lockT kvs q => cases k.frz; exact .lockT kvs q
  | tag t k1 => obtain ⟨n, rfl⟩ := k.mem; exact .tag _ _
end
class LeR (R : Addr → HO → HO → Prop) : Prop where
  up : ∀ {a : Addr} {o u : HO}, R a o u → ULe a o u
  pre : ∀ {a : Addr} {o u z : HO}, Le a o u → R a u z → R a o z
instance : LeR Le := ⟨fun h => .lo h.up, Le.trans⟩
instance : LeR LLe := ⟨.lo, Le.preL⟩
instance : LeR ULe := ⟨id, Le.preU⟩
/-- all of G stands in H -/
def SubX (R : Addr → HO → HO → Prop) (G H : Hp) : Prop := ∀ a o, G a = some o → ∃ o', H a = some o' ∧ R a o o'
abbrev Sub (G H : Hp) : Prop := SubX Le G H
abbrev LSub (G H : Hp) : Prop := SubX LLe G H
theorem Sub.refl (G : Hp) : Sub G G := fun a o e => ⟨o, e, .refl o⟩
theorem Sub.trans {R : Addr → HO → HO → Prop} [LeR R] {G H J : Hp} (x : Sub G H) (y : SubX R H J) : SubX R G J := fun a o e => by
  obtain ⟨o1, e1, l1⟩ := x a o e
  obtain ⟨o2, e2, l2⟩ := y a o1 e1
  exact ⟨o2, e2, LeR.pre l1 l2⟩
theorem LSub.trans {G H J : Hp} (x : LSub G H) (y : Sub H J) : LSub G J := fun a o e => by
  obtain ⟨o1, e1, l1⟩ := x a o e
  obtain ⟨o2, e2, l2⟩ := y a o1 e1
  exact ⟨o2, e2, l1.post l2⟩
section
variable {R : Addr → HO → HO → Prop} {G H : Hp}
theorem SubX.out (x : SubX R G H) {a : Addr} (h : H a = none) : G a = none := by
  cases e : G a with
  | none => rfl
  | some o => obtain ⟨o', e', _⟩ := x a o e; rw [h] at e'; cases e'
theorem SubX.inn (x : SubX R G H) {a : Addr} (h : G a ≠ none) : H a ≠ none := by
  intro z; exact h (x.out z)
variable [LeR R]
theorem SubX.lo (x : SubX R G H) : SubX ULe G H := fun a o e => by
  obtain ⟨o', e', l⟩ := x a o e
  exact ⟨o', e', LeR.up l⟩
theorem SubX.rd_lst (x : SubX R G H) {a : Addr} {xs : List V} (h : Rd G a (.lst xs)) : Rd H a (.lst xs) := by
  rcases h with h | ⟨q, h⟩
  · obtain ⟨o, e, l⟩ := x.lo a _ h; cases l.lst; exact .inl e
  · obtain ⟨o, e, l⟩ := x.lo a _ h; cases l.flst; exact .inr ⟨q, e⟩
theorem SubX.rd_tup (x : SubX R G H) {a : Addr} {xs : List V} (h : Rd G a (.tup xs)) : Rd H a (.tup xs) := by
  rcases h with h | ⟨q, h⟩
  · obtain ⟨o, e, l⟩ := x.lo a _ h; cases l.tup; exact .inl e
  · obtain ⟨o, e, l⟩ := x.lo a _ h; cases l.ftup; exact .inr ⟨q, e⟩
theorem SubX.rd_dK (x : SubX R G H) {a : Addr} {xs : List (Key × V)} (h : Rd G a (.dK xs)) : Rd H a (.dK xs) := by
  have fin : ∀ o, H a = some o → (o = .dK xs ∨ ∃ q, o = .frz q (.dK xs)) → Rd H a (.dK xs) := fun o e z => by
    rcases z with z | ⟨q, z⟩
    · subst z; exact .inl e
    · subst z; exact .inr ⟨q, e⟩
  rcases h with h | ⟨q, h⟩
  · obtain ⟨o, e, l⟩ := x.lo a _ h; exact fin o e l.dK
  · obtain ⟨o, e, l⟩ := x.lo a _ h; exact fin o e l.fdK
theorem SubX.rd_dT (x : SubX R G H) {a : Addr} {xs : List (List Key × V)} (h : Rd G a (.dT xs)) : Rd H a (.dT xs) := by
  have fin : ∀ o, H a = some o → (o = .dT xs ∨ ∃ q, o = .frz q (.dT xs)) → Rd H a (.dT xs) := fun o e z => by
    rcases z with z | ⟨q, z⟩
    · subst z; exact .inl e
    · subst z; exact .inr ⟨q, e⟩
  rcases h with h | ⟨q, h⟩
  · obtain ⟨o, e, l⟩ := x.lo a _ h; exact fin o e l.dT
  · obtain ⟨o, e, l⟩ := x.lo a _ h; exact fin o e l.fdT
theorem SubX.sqL {K : PySem.W.Frag} (x : SubX R G H) {a : Addr} {xs : List V} (h : SqL K G a xs) : SqL K H a xs := h.imp x.rd_lst id
theorem SubX.sqT {K : PySem.W.Frag} (x : SubX R G H) {a : Addr} {xs : List V} (h : SqT K G a xs) : SqT K H a xs := h.imp x.rd_tup id
theorem SubX.lst (x : SubX R G H) {a : Addr} {xs : List V} (h : G a = some (.lst xs)) : H a = some (.lst xs) := by
  obtain ⟨o, e, l⟩ := x.lo a _ h
  cases l.lst; exact e
end

mutual
/-- plain data: as L2's Dp, a list tracked as such -/
inductive Dq (K : PySem.W.Frag) (H : Hp) : V → PyData → Prop
  | non : Dq K H .non .none
  | bl (b : Bool) : Dq K H (.bl b) (.bool b)
  | int (i : Int) : Dq K H (.int i) (.int i)
  | str (x : Str) : Dq K H (.str x) (.str x)
  | lst {a : Addr} {xs : List V} {ds : List PyData} : H a = some (.lst xs) → DqAll K H xs ds → Dq K H (.ref a) (.list ds)
  | tup {a : Addr} {xs : List V} {ds : List PyData} : SqT K H a xs → DqAll K H xs ds → Dq K H (.ref a) (.tuple ds)
inductive DqAll (K : PySem.W.Frag) (H : Hp) : List V → List PyData → Prop
  | nil : DqAll K H [] []
  | cons {v : V} {vs : List V} {d : PyData} {ds : List PyData} : Dq K H v d → DqAll K H vs ds → DqAll K H (v :: vs) (d :: ds)
end
mutual
theorem Dq.dp {K : PySem.W.Frag} {G : Hp} : ∀ {v : V} {d : PyData}, Dq K G v d → Dp K G v d
  | _, _, .non => .non
  | _, _, .bl b => .bl b
  | _, _, .int i => .int i
  | _, _, .str s => .str s
  | _, _, .lst h t => .lst (.of h) (DqAll.dp t)
  | _, _, .tup h t => .tup h (DqAll.dp t)
theorem DqAll.dp {K : PySem.W.Frag} {G : Hp} : ∀ {vs : List V} {ds : List PyData}, DqAll K G vs ds → DpAll K G vs ds
  | _, _, .nil => .nil
  | _, _, .cons h t => .cons (Dq.dp h) (DqAll.dp t)
end
mutual
theorem dp_sub {K : PySem.W.Frag} {R : Addr → HO → HO → Prop} [LeR R] {G H : Hp} (x : SubX R G H) : ∀ {v : V} {d : PyData}, Dq K G v d → Dq K H v d
  | _, _, .non => .non
  | _, _, .bl b => .bl b
  | _, _, .int i => .int i
  | _, _, .str s => .str s
  | _, _, .lst h t => .lst (x.lst h) (dpAll_sub x t)
  | _, _, .tup h t => .tup (x.sqT h) (dpAll_sub x t)
theorem dpAll_sub {K : PySem.W.Frag} {R : Addr → HO → HO → Prop} [LeR R] {G H : Hp} (x : SubX R G H) : ∀ {vs : List V} {ds : List PyData}, DqAll K G vs ds → DqAll K H vs ds
  | _, _, .nil => .nil
  | _, _, .cons h t => .cons (dp_sub x h) (dpAll_sub x t)
end
mutual
/-- the value v holds the data d in the heap G -/
inductive Den (K : PySem.W.Frag) (G : Hp) : V → D → Prop
  | py {v : V} {p : PyData} : Dq K G v p → Den K G v (.py p)
  | tup {a : Addr} {vs : List V} {ds : List D} : SqT K G a vs → DenAll K G vs ds → Den K G (.ref a) (.tup ds)
  | lst {a : Addr} {vs : List V} {ds : List D} : G a = some (.lst vs) → DenAll K G vs ds → Den K G (.ref a) (.lst ds)
  | dct {a : Addr} {kvs : List (Key × V)} {ds : List (Key × D)} : Rd G a (.dK kvs) → DenKey K G kvs ds → Den K G (.ref a) (.dct ds)
  | ob (a : Addr) : Den K G (.ref a) (.ob a)
  | pu {a : Addr} {m : Nat} : G a = some (purseO a m) → Den K G (.ref a) .pu
  | scr {a : Addr} {ns : List Int} : SqL K G a (ns.map V.int) → Den K G (.ref a) (.scr ns)
  | memo {a : Addr} {t : List (Str × V)} : G a = some (.xd t) → Den K G (.ref a) (.memo t)
  | dtp {a : Addr} {kvs : List (List Key × V)} {ds : List (List Key × D)} : Rd G a (.dT kvs) → DenKey K G kvs ds → Den K G (.ref a) (.dtp ds)
  | ins {a C dx : Addr} {fs : List (Str × V)} {ds : List (Str × D)} : G a = some (.ins C dx fs) → DenKey K G fs ds → Den K G (.ref a) (.ins C ds)
inductive DenAll (K : PySem.W.Frag) (G : Hp) : List V → List D → Prop
  | nil : DenAll K G [] []
  | cons {v : V} {vs : List V} {d : D} {ds : List D} : Den K G v d → DenAll K G vs ds → DenAll K G (v :: vs) (d :: ds)
inductive DenKey (K : PySem.W.Frag) (G : Hp) : {κ : Type} → List (κ × V) → List (κ × D) → Prop
  | nil {κ : Type} : DenKey K G (κ := κ) [] []
  | cons {κ : Type} {k : κ} {v : V} {vs : List (κ × V)} {d : D} {ds : List (κ × D)} : Den K G v d → DenKey K G vs ds → DenKey K G ((k, v) :: vs) ((k, d) :: ds)
end
/-- the tags stay -/
def Tg (G H : Hp) : Prop := ∀ a t, G a = some (.xd t) → H a = some (.xd t)
theorem Sub.tg {G H : Hp} (x : Sub G H) : Tg G H := fun a t h => by
  obtain ⟨o, e, l⟩ := x a _ h
  cases l.xd; exact e
mutual
theorem Den.subU {K : PySem.W.Frag} {R : Addr → HO → HO → Prop} [LeR R] {G H : Hp} (x : SubX R G H) (nx : Tg G H) : ∀ {v : V} {d : D}, Den K G v d → Den K H v d
  | _, _, .py h => .py (dp_sub x h)
  | _, _, .tup h t => .tup (x.sqT h) (DenAll.subU x nx t)
  | _, _, .lst h t => .lst (x.lst h) (DenAll.subU x nx t)
  | _, _, .dct h t => .dct (x.rd_dK h) (DenKey.subU x nx t)
  | _, _, .ob a => .ob a
  | _, _, .pu (a := a) (m := m) h => by
    obtain ⟨o, e, l⟩ := x.lo a _ h
    obtain ⟨m', rfl⟩ := l.pu
    exact .pu e
  | _, _, .scr h => .scr (x.sqL h)
  | _, _, .memo h => .memo (nx _ _ h)
  | _, _, .dtp h t => .dtp (x.rd_dT h) (DenKey.subU x nx t)
  | _, _, .ins (a := a) h t => by
    obtain ⟨o, e, l⟩ := x.lo a _ h
    cases l.ins
    exact .ins e (DenKey.subU x nx t)
theorem DenAll.subU {K : PySem.W.Frag} {R : Addr → HO → HO → Prop} [LeR R] {G H : Hp} (x : SubX R G H) (nx : Tg G H) : ∀ {vs : List V} {ds : List D}, DenAll K G vs ds → DenAll K H vs ds
  | _, _, .nil => .nil
  | _, _, .cons h t => .cons (Den.subU x nx h) (DenAll.subU x nx t)
theorem DenKey.subU {K : PySem.W.Frag} {R : Addr → HO → HO → Prop} [LeR R] {G H : Hp} (x : SubX R G H) (nx : Tg G H) : ∀ {κ : Type} {vs : List (κ × V)} {ds : List (κ × D)}, DenKey K G vs ds → DenKey K H vs ds
  | _, _, _, .nil => .nil
  | _, _, _, .cons h t => .cons (Den.subU x nx h) (DenKey.subU x nx t)
end
theorem Den.sub {K : PySem.W.Frag} {G H : Hp} (x : Sub G H) {v : V} {d : D} (h : Den K G v d) : Den K H v d := h.subU x x.tg
theorem DenAll.sub {K : PySem.W.Frag} {G H : Hp} (x : Sub G H) {vs : List V} {ds : List D} (h : DenAll K G vs ds) : DenAll K H vs ds := h.subU x x.tg
theorem DenKey.sub {K : PySem.W.Frag} {G H : Hp} (x : Sub G H) {κ : Type} {vs : List (κ × V)} {ds : List (κ × D)} (h : DenKey K G vs ds) : DenKey K H vs ds := h.subU x x.tg
theorem dpAll_den {K : PySem.W.Frag} {G : Hp} : ∀ {vs : List V} {ds : List PyData}, DqAll K G vs ds → DenAll K G vs (ds.map .py)
  | _, _, .nil => .nil
  | _, _, .cons h t => .cons (.py h) (dpAll_den t)
theorem den_dpAll {K : PySem.W.Frag} {G : Hp} : ∀ {vs : List V} {ds : List PyData}, DenAll K G vs (ds.map .py) → DqAll K G vs ds
  | _, [], .nil => .nil
  | _, _ :: _, .cons (.py h) t => .cons h (den_dpAll t)

/-! ### ghosts: what is shared (G), how often purses were drawn from (n) -/
/-- the tuples of a heap -/
def Tp (H : Hp) : Hp := fun a => match H a with
  | some (.tup xs) => some (.tup xs)
  | some (.frz q (.tup xs)) => some (.frz q (.tup xs))
  | _ => none
theorem Tp_get {H : Hp} {a : Addr} {o : HO} (h : Tp H a = some o) : H a = some o ∧ ((∃ xs, o = .tup xs) ∨ ∃ q xs, o = .frz q (.tup xs)) := by
  unfold Tp at h
  split at h
  · rename_i xs e; cases h; exact ⟨e, .inl ⟨xs, rfl⟩⟩
  · rename_i q xs e; cases h; exact ⟨e, .inr ⟨q, xs, rfl⟩⟩
  · cases h
theorem Tp_sub {H H' : Hp} (x : Sub H H') : Sub (Tp H) (Tp H') := fun a o h => by
  obtain ⟨h1, h2⟩ := Tp_get h
  obtain ⟨o', h3, h4⟩ := x a o h1
  rcases h2 with ⟨xs, rfl⟩ | ⟨q, xs, rfl⟩
  · cases h4.tup; exact ⟨_, by unfold Tp; rw [h3], .refl _⟩
  · cases h4.frz; exact ⟨_, by unfold Tp; rw [h3], .refl _⟩
theorem Tp_in {H : Hp} : Sub (Tp H) H := fun a o h => ⟨o, (Tp_get h).1, .refl o⟩
/-- a tuple (which nobody can change) -/
def IsTp : HO → Prop
  | .tup _ => True
  | .frz _ (.tup _) => True
  | _ => False
theorem IsTp.le {a : Addr} {o o' : HO} (h : ¬ IsTp o) (l : Le a o o') : ¬ IsTp o' := by
  cases l with
  | refl => exact h
  | purse => exact id
  | memo => exact id
/-- what stands in a table is right -/
def GoodAt (H : Hp) (t : List (Str × V)) (k : Mem) : Prop := (k.map (·.1)).Nodup ∧ ∀ e ∈ k, Dq Wd.K (Tp H) (.ref e.2.1) e.1.data ∧ ∃ p, Dq Wd.K (Tp H) e.2.2 p ∧ Wd.good t e.1 p
theorem GoodAt.sub {H H' : Hp} {t : List (Str × V)} {k : Mem} (g : GoodAt H t k) (x : Sub (Tp H) (Tp H')) : GoodAt H' t k := ⟨g.1, fun e he => by
  obtain ⟨h1, p, h2, h3⟩ := g.2 e he
  exact ⟨dp_sub x h1, p, dp_sub x h2, h3⟩⟩
structure Val (n : Nat) (G H : Hp) : Prop where
  sub : LSub G H
  pb : ∀ a m, H a = some (purseO a m) → m ≤ n
  mm : ∀ a t, G a = some (.xd t) → ∃ k, H a = some (memO a k) ∧ GoodAt H t k
/-- a step: all stays, what is not shared by G does not become shared -/
structure Ste (G H G' H' : Hp) : Prop where
  g : Sub G G'
  h : Sub H H'
  f : ∀ a o, G a = none → H a = some o → ¬ IsTp o → G' a = none
theorem Ste.refl (G H : Hp) : Ste G H G H := ⟨.refl G, .refl H, fun _ _ h _ _ => h⟩
theorem Ste.trans {G H G1 H1 G2 H2 : Hp} (x : Ste G H G1 H1) (y : Ste G1 H1 G2 H2) : Ste G H G2 H2 :=
  ⟨x.g.trans y.g, x.h.trans y.h, fun a o h1 h2 h3 => by
    obtain ⟨o', h4, h5⟩ := x.h a o h2
    exact y.f a o' (x.f a o h1 h2 h3) h4 (IsTp.le h3 h5)⟩
/-- a slot: nothing known, shared data, an object of the frame's own (a list, a dict) that nobody else holds -/
inductive Ent where
  | no | sh (d : D) | ow (d : D)
inductive OwAt (K : PySem.W.Frag) (G : Hp) : HO → D → Prop where
  | lst {vs : List V} {ds : List D} : DenAll K G vs ds → OwAt K G (.lst vs) (.lst ds)
  | py {vs : List V} {ds : List PyData} : DqAll K G vs ds → OwAt K G (.lst vs) (.py (.list ds))
  | dct {vs : List (Key × V)} {ds : List (Key × D)} : DenKey K G vs ds → OwAt K G (.dK vs) (.dct ds)
  | dtp {vs : List (List Key × V)} {ds : List (List Key × D)} : DenKey K G vs ds → OwAt K G (.dT vs) (.dtp ds)
  | ins {C dx : Addr} {vs : List (Str × V)} {ds : List (Str × D)} : DenKey K G vs ds → OwAt K G (.ins C dx vs) (.ins C ds)
theorem OwAt.nt {K : PySem.W.Frag} {G : Hp} {o : HO} {d : D} (h : OwAt K G o d) : ¬ IsTp o := by cases h <;> exact id
theorem OwAt.subU {K : PySem.W.Frag} {R : Addr → HO → HO → Prop} [LeR R] {G G' : Hp} {o : HO} {d : D} (h : OwAt K G o d) (x : SubX R G G') (nx : Tg G G') : OwAt K G' o d := by
  cases h with
  | lst h => exact .lst (h.subU x nx)
  | py h => exact .py (dpAll_sub x h)
  | dct h => exact .dct (h.subU x nx)
  | dtp h => exact .dtp (h.subU x nx)
  | ins h => exact .ins (h.subU x nx)
theorem OwAt.sub {K : PySem.W.Frag} {G G' : Hp} {o : HO} {d : D} (h : OwAt K G o d) (x : Sub G G') : OwAt K G' o d := h.subU x x.tg
theorem OwAt.le {K : PySem.W.Frag} {G : Hp} {o o' : HO} {d : D} {a : Addr} (h : OwAt K G o d) (l : Le a o o') : o' = o := by
  cases h with
  | lst h => exact l.lst
  | py h => exact l.lst
  | dct h => exact l.dK
  | dtp h => exact l.dT
  | ins h => exact l.ins
/-- the base of a frame: what was shared and what stood at its entry -/
structure Bs where
  G : Hp
  H : Hp
structure Ok (K : PySem.W.Frag) (H0 : Hp) (Γ : List Ent) (G : Hp) (σ : L2.St) (H : Hp) : Prop where
  sh : ∀ (i : Nat) (d : D), Γ[i]? = some (Ent.sh d) → ∃ v, σ[i]? = some (some v) ∧ Den K G v d
  ow : ∀ (i : Nat) (d : D), Γ[i]? = some (Ent.ow d) → ∃ a o, σ[i]? = some (some (V.ref a)) ∧ H0 a = none ∧ G a = none ∧ H a = some o ∧ OwAt K G o d
  dj : ∀ (i j : Nat) (d e : D), Γ[i]? = some (Ent.ow d) → Γ[j]? = some (Ent.ow e) → i ≠ j → σ[i]? ≠ σ[j]?
  ln : Γ.length = σ.length
theorem Ok.step {K : PySem.W.Frag} {H0 : Hp} {Γ : List Ent} {G H G' H' : Hp} {σ : L2.St} (k : Ok K H0 Γ G σ H) (x : Ste G H G' H') : Ok K H0 Γ G' σ H' := by
  refine ⟨fun i d e => ?_, fun i d e => ?_, k.dj, k.ln⟩
  · obtain ⟨v, h1, h2⟩ := k.sh i d e
    exact ⟨v, h1, h2.sub x.g⟩
  · obtain ⟨a, o, h1, h2, h3, h4, h5⟩ := k.ow i d e
    obtain ⟨o', h6, h7⟩ := x.h a o h4
    cases h5.le h7
    exact ⟨a, o, h1, h2, x.f a o h3 h4 h5.nt, h6, h5.sub x.g⟩
/-- where a frame stands -/
structure Pre (K : PySem.W.Frag) (B : Bs) (Γ : List Ent) (c : Nat) (σ : L2.St) (H : Hp) (n : Nat) (G : Hp) : Prop where
  ok : Ok K B.H Γ G σ H
  val : Val n G H
  ste : Ste B.G B.H G H
  lim : n + c ≤ LIM
theorem Pre.step {K : PySem.W.Frag} {B : Bs} {Γ : List Ent} {c c' : Nat} {σ : L2.St} {H H' : Hp} {n n' : Nat} {G G' : Hp} (p : Pre K B Γ c σ H n G) (s : Ste G H G' H') (v : Val n' G' H') (l : n' + c' ≤ LIM) : Pre K B Γ c' σ H' n' G' :=
  ⟨p.ok.step s, v, p.ste.trans s, l⟩
/-- what a value is that an expression gives: shared data, or a new object -/
inductive Res (K : PySem.W.Frag) (H G' H' : Hp) : V → Ent → Prop where
  | sh {v : V} {d : D} : Den K G' v d → Res K H G' H' v (.sh d)
  | ow {a : Addr} {o : HO} {d : D} : H a = none → G' a = none → H' a = some o → OwAt K G' o d → Res K H G' H' (.ref a) (.ow d)
theorem Res.base {K : PySem.W.Frag} {H0 H G' H' : Hp} {v : V} {r : Ent} (h : Res K H G' H' v r) (s : Sub H0 H) : Res K H0 G' H' v r := by
  cases h with
  | sh d => exact .sh d
  | ow h1 h2 h3 h4 => exact .ow (s.out h1) h2 h3 h4
theorem Res.step {K : PySem.W.Frag} {H G1 H1 G2 H2 : Hp} {v : V} {r : Ent} (h : Res K H G1 H1 v r) (s : Ste G1 H1 G2 H2) : Res K H G2 H2 v r := by
  cases h with
  | sh d => exact .sh (d.sub s.g)
  | @ow a o d h1 h2 h3 h4 =>
    obtain ⟨o', h6, h7⟩ := s.h a o h3
    cases h4.le h7
    exact .ow h1 (s.f a o h2 h3 h4.nt) h6 (h4.sub s.g)

/-! ### the readings -/
/-- an expression: at most c draws, an answer of S -/
def tEv (K : PySem.W.Frag) (B : Bs) (Γ : List Ent) (c : Nat) (S : Ent → Prop) : TE := fun σ H Q => ∃ n G, Pre K B Γ c σ H n G ∧
  ∀ v H' G' n' r, n' ≤ n + c → Ste G H G' H' → Val n' G' H' → S r → Res K H G' H' v r → Q v H'
abbrev Sd (d : D) : Ent → Prop := fun r => r = .sh d
abbrev So (d : D) : Ent → Prop := fun r => r = .ow d
/-- THE JUDGEMENT of an expression -/
abbrev Ev (X : Cx) (B : Bs) (Γ : List Ent) (c : Nat) (e : Expr) (S : Ent → Prop) : Prop := PE X e (tEv X.K B Γ c S)
theorem pe_mono {X : Cx} {e : Expr} {t t' : TE} (h : PE X e t) (m : ∀ σ H Q, t' σ H Q → t σ H Q) : PE X e t' := ⟨fun pins s σ H Q I q => h.run pins s σ H Q I (m σ H Q q)⟩
theorem pt_mono {X : Cx} {e : Expr} {t t' : TT} (h : PT X e t) (m : ∀ σ H Q, t' σ H Q → t σ H Q) : PT X e t' := ⟨fun pins s σ H Q I q => h.run pins s σ H Q I (m σ H Q q)⟩
theorem pa_mono {X : Cx} {e : List Expr} {t t' : TA} (h : PA X e t) (m : ∀ σ H Q, t' σ H Q → t σ H Q) : PA X e t' := ⟨fun pos pins s σ H Q I q => h.run pos pins s σ H Q I (m σ H Q q)⟩
theorem pss_mono {X : Cx} {e : List Stmt} {t t' : TS} (h : PSs X e t) (m : ∀ D σ H, t' D σ H → t D σ H) : PSs X e t' := ⟨fun pins s σ H D I q => h.run pins s σ H D I (m D σ H q)⟩
theorem ps_mono {X : Cx} {e : Stmt} {t t' : TS} (h : PS X e t) (m : ∀ D σ H, t' D σ H → t D σ H) : PS X e t' := ⟨fun pins s σ H D I q => h.run pins s σ H D I (m D σ H q)⟩
/-- a test -/
def tTv (K : PySem.W.Frag) (B : Bs) (Γ : List Ent) (c : Nat) (S : Bool → Prop) : TT := fun σ H Q => ∃ n G, Pre K B Γ c σ H n G ∧
  ∀ b H' G' n', n' ≤ n + c → Ste G H G' H' → Val n' G' H' → S b → Q b H'
abbrev Tv (X : Cx) (B : Bs) (Γ : List Ent) (c : Nat) (e : Expr) (S : Bool → Prop) : Prop := PT X e (tTv X.K B Γ c S)
/-- arguments -/
def tAv (K : PySem.W.Frag) (B : Bs) (Γ : List Ent) (c : Nat) (S : List D → Prop) : TA := fun σ H Q => ∃ n G, Pre K B Γ c σ H n G ∧
  ∀ vs H' G' n' ds, n' ≤ n + c → Ste G H G' H' → Val n' G' H' → S ds → DenAll K G' vs ds → Q vs H'
abbrev Av (X : Cx) (B : Bs) (Γ : List Ent) (c : Nat) (es : List Expr) (S : List D → Prop) : Prop := PA X es (tAv X.K B Γ c S)
/-- what statements may come to -/
structure Out where
  nx : List Ent → Prop := fun _ => False
  rt : Ent → Prop := fun _ => False
  bk : List Ent → Prop := fun _ => False
  ct : List Ent → Prop := fun _ => False
structure Goes (K : PySem.W.Frag) (B : Bs) (G0 : Hp) (m : Nat) (P : List Ent → Prop) (Q : L2.St → Hp → Prop) : Prop where
  go : ∀ Γ' σ' H' G' n', P Γ' → n' ≤ m → Ok K B.H Γ' G' σ' H' → Val n' G' H' → Ste B.G B.H G' H' → Sub G0 G' → Q σ' H'
def tSt (K : PySem.W.Frag) (B : Bs) (Γ : List Ent) (c : Nat) (O : Out) : TS := fun D σ H => ∃ n G, Pre K B Γ c σ H n G ∧
  Goes K B G (n + c) O.nx D.nx ∧ Goes K B G (n + c) O.bk D.bk ∧ Goes K B G (n + c) O.ct D.ct ∧
  ∀ v H' G' n' r, n' ≤ n + c → Ste B.G B.H G' H' → Val n' G' H' → O.rt r → Res K B.H G' H' v r → D.rt v H'
abbrev Sv (X : Cx) (B : Bs) (Γ : List Ent) (c : Nat) (st : List Stmt) (O : Out) : Prop := PSs X st (tSt X.K B Γ c O)
abbrev S1 (X : Cx) (B : Bs) (Γ : List Ent) (c : Nat) (st : Stmt) (O : Out) : Prop := PS X st (tSt X.K B Γ c O)
end DL
end

section
set_option Elab.async false
set_option linter.all false
set_option maxRecDepth 100000
set_option maxHeartbeats 2000000
set_option autoImplicit false
/-! DlB: the rules of expressions. -/
namespace DL
open PySem PySem.Spec PyProof.Rows L2
variable [Wd]
/-- plain data of a Lean type -/
abbrev dt {α : Type} [DecidableEq α] [PySem.W.Datum α] (x : α) : D := .py (PySem.W.Datum.toD x)
/-- shared data with a property -/
def Sp (P : D → Prop) : Ent → Prop := fun r => ∃ d, P d ∧ r = .sh d
theorem Sp.of_d {d : D} {r : Ent} (h : Sd d r) : Sp (fun e => e = d) r := ⟨d, rfl, h⟩
section
variable {X : Cx} {B : Bs} {Γ : List Ent} {c c1 c2 c3 : Nat} {e a b : Expr} {es : List Expr} {S S' S2 : Ent → Prop} {d d1 d2 : D} {P P1 P2 : D → Prop} {pos : Pos}

theorem ev_weak (h : Ev X B Γ c e S) (hs : ∀ r, S r → S' r) (hc : c ≤ c1 := by omega) : Ev X B Γ c1 e S' := pe_mono h fun σ H Q q => by
  obtain ⟨n, G, p, k⟩ := q
  exact ⟨n, G, ⟨p.ok, p.val, p.ste, Nat.le_trans (Nat.add_le_add_left hc n) p.lim⟩, fun v H' G' n' r hn st vl hS hr => k v H' G' n' r (Nat.le_trans hn (Nat.add_le_add_left hc n)) st vl (hs r hS) hr⟩
theorem ev_sp (h : Ev X B Γ c e (Sd d)) : Ev X B Γ c e (Sp fun x => x = d) := ev_weak h (fun r q => Sp.of_d q) (Nat.le_refl _)
theorem ev_sd (h : Ev X B Γ c e (Sp fun x => x = d)) : Ev X B Γ c e (Sd d) := ev_weak h (fun r ⟨x, q, z⟩ => by subst q; exact z) (Nat.le_refl _)
/-- a new object becomes shared -/
theorem Res.share {K : PySem.W.Frag} {G H G' H' : Hp} {v : V} {d : D} {n : Nat} (h : Res K H G' H' v (.ow d)) (s : Ste G H G' H') (vl : Val n G' H') : ∃ G'', Ste G H G'' H' ∧ Val n G'' H' ∧ Den K G'' v d ∧ Ste G' H G'' H' := by
  generalize er : Ent.ow d = r at h
  cases h with
  | sh h => cases er
  | @ow a o d' h1 h2 h3 h4 =>
    injection er with er
    subst er
    have sub1 : Sub G' (upd G' a o) := fun b u e => ⟨u, by rw [upd_ne (ne_of_none e h2)]; exact e, .refl u⟩
    have sub2 : LSub (upd G' a o) H' := fun b u e => by
      by_cases hb : b = a
      · subst hb; rw [upd_same] at e; cases e; exact ⟨o, h3, .refl o⟩
      · rw [upd_ne hb] at e; exact vl.sub b u e
    have den : Den K (upd G' a o) (.ref a) d := by
      have q := h4.sub sub1
      cases q with
      | lst q => exact .lst upd_same q
      | py q => exact .py (.lst upd_same q)
      | dct q => exact .dct (.inl upd_same) q
      | dtp q => exact .dtp (.inl upd_same) q
      | ins q => exact .ins upd_same q
    have nx : ∀ b t, upd G' a o b = some (.xd t) → G' b = some (.xd t) := fun b t e => by
      by_cases hb : b = a
      · subst hb; rw [upd_same] at e; cases e; cases h4
      · rw [upd_ne hb] at e; exact e
    refine ⟨upd G' a o, ⟨s.g.trans sub1, s.h, fun b u hb hb2 hb3 => ?_⟩, ⟨sub2, vl.pb, fun b t e => vl.mm b t (nx b t e)⟩, den, ⟨sub1, s.h, fun b u hb hb2 hb3 => ?_⟩⟩
    · have : b ≠ a := fun z => by subst z; rw [h1] at hb2; cases hb2
      rw [upd_ne this]; exact s.f b u hb hb2 hb3
    · have : b ≠ a := fun z => by subst z; rw [h1] at hb2; cases hb2
      rw [upd_ne this]; exact hb
theorem ev_sh (h : Ev X B Γ c e (So d)) : Ev X B Γ c e (Sd d) := pe_mono h fun σ H Q q => by
  obtain ⟨n, G, p, k⟩ := q
  refine ⟨n, G, p, fun v H' G' n' r hn st vl hS hr => ?_⟩
  cases hS
  obtain ⟨G'', s2, v2, den, _⟩ := hr.share st vl
  exact k v H' G'' n' _ hn s2 v2 rfl (.sh den)

/-! ### names, constants -/
theorem ev_var (i : Nat) {x : Str} (hΓ : Γ[i]? = some (Ent.sh d)) (hN : X.N[i]? = some x := by rfl) (hv : Vis X.env.scope x := by first | exact Or.inl rfl | exact Or.inr (Or.inl rfl) | exact Or.inr (Or.inr rfl)) (hd : (x == ("__debug__" : Str)) = false := by decide)
    (hcd : (x == ("__classdict__" : Str)) = false := by decide) : Ev X B Γ 0 (.Name x pos) (Sd d) := pe_mono (pe_var hN hv hd hcd) fun σ H Q q => by
  obtain ⟨n, G, p, k⟩ := q
  obtain ⟨v, h1, h2⟩ := p.ok.sh i d hΓ
  exact ⟨v, h1, k v H G n _ (Nat.le_refl _) (.refl G H) p.val rfl (.sh h2)⟩
theorem ev_con {v : V} (h : PE X e (tC v)) (hd : ∀ G, Den X.K G v d) : Ev X B Γ 0 e (Sd d) := pe_mono h fun σ H Q q => by
  obtain ⟨n, G, p, k⟩ := q
  exact k v H G n _ (Nat.le_refl _) (.refl G H) p.val rfl (.sh (hd G))
theorem ev_int {i : Int} {j : Nat} : Ev X B Γ 0 (.Constant (.int i) j pos) (Sd (dt i)) := ev_con pe_int fun _ => .py (.int i)
theorem ev_bl {i : Bool} {j : Nat} : Ev X B Γ 0 (.Constant (.bool i) j pos) (Sd (dt i)) := ev_con pe_bl fun _ => .py (.bl i)
theorem ev_str {i : Str} {j : Nat} : Ev X B Γ 0 (.Constant (.str i) j pos) (Sd (dt i)) := ev_con pe_str fun _ => .py (.str i)
theorem ev_non {j : Nat} : Ev X B Γ 0 (.Constant .none j pos) (Sd (dt ())) := ev_con pe_non fun _ => .py .non

/-! ### two operands -/
/-- what a two-place rule r gives of two data -/
def R2ok (K : PySem.W.Frag) (r : R2) (d1 d2 : D) (S : Ent → Prop) : Prop := ∀ (n : Nat) (G H : Hp) (x y : V) (Q : VK), Val n G H → Den K G x d1 → Den K G y d2 →
  (∀ v H' G' r', Ste G H G' H' → Val n G' H' → S r' → Res K H G' H' v r' → Q v H') → r x y H Q
theorem seq2 {K : PySem.W.Frag} {ta tb : TE} {r : R2} (hr : ∀ d1 d2, P1 d1 → P2 d2 → R2ok K r d1 d2 S) {σ : L2.St} {H : Hp} {Q : VK} (q : tEv K B Γ (c1 + c2) S σ H Q)
    (ma : ∀ σ H Q, tEv K B Γ c1 (Sp P1) σ H Q → ta σ H Q) (mb : ∀ σ H Q, tEv K B Γ c2 (Sp P2) σ H Q → tb σ H Q) : ta σ H fun x H1 => tb σ H1 fun y H2 => r x y H2 Q := by
  obtain ⟨n, G, p, k⟩ := q
  refine ma σ H _ ⟨n, G, ⟨p.ok, p.val, p.ste, by have := p.lim; omega⟩, fun x H1 G1 n1 r1 hn1 st1 vl1 hS1 hr1 => ?_⟩
  obtain ⟨d1, hp1, rfl⟩ := hS1
  cases hr1 with
  | sh den1 =>
  refine mb σ H1 _ ⟨n1, G1, p.step st1 vl1 (by have := p.lim; omega), fun y H2 G2 n2 r2 hn2 st2 vl2 hS2 hr2 => ?_⟩
  obtain ⟨d2, hp2, rfl⟩ := hS2
  cases hr2 with
  | sh den2 =>
  refine hr d1 d2 hp1 hp2 n2 G2 H2 x y Q vl2 (den1.sub st2.g) den2 fun v H' G' r' st vl hS hr => ?_
  exact k v H' G' n2 r' (by omega) (st1.trans (st2.trans st)) vl hS (hr.base (st1.h.trans st2.h))
theorem ev_op2N {op : Operator} {r : R2} (ho : OpR X (binaryOp op) r) (ha : Ev X B Γ c1 a (Sp P1)) (hb : Ev X B Γ c2 b (Sp P2)) (hr : ∀ d1 d2, P1 d1 → P2 d2 → R2ok X.K r d1 d2 S) : Ev X B Γ (c1 + c2) (.BinOp a op b pos) S :=
  pe_mono (pe_op ho ha hb) fun σ H Q q => seq2 hr q (fun _ _ _ z => z) fun _ _ _ z => z
theorem ev_op2 {op : Operator} {r : R2} (ho : OpR X (binaryOp op) r) (ha : Ev X B Γ c1 a (Sd d1)) (hb : Ev X B Γ c2 b (Sd d2)) (hr : R2ok X.K r d1 d2 S) : Ev X B Γ (c1 + c2) (.BinOp a op b pos) S :=
  ev_op2N ho (ev_sp ha) (ev_sp hb) fun x y e1 e2 => by subst e1; subst e2; exact hr
theorem ev_cmpN {op : CmpOp} {r : R2} (ho : OpR X (compareOp op) r) (hm : behindInMarks op b = false) (ha : Ev X B Γ c1 a (Sp P1)) (hb : Ev X B Γ c2 b (Sp P2)) (hr : ∀ d1 d2, P1 d1 → P2 d2 → R2ok X.K r d1 d2 S) : Ev X B Γ (c1 + c2) (.Compare a [op] [b] pos) S :=
  pe_mono (pe_cmpR ho ha hb hm) fun σ H Q q => seq2 hr q (fun _ _ _ z => z) fun _ _ _ z => z
theorem ev_cmp {op : CmpOp} {r : R2} (ho : OpR X (compareOp op) r) (hm : behindInMarks op b = false) (ha : Ev X B Γ c1 a (Sd d1)) (hb : Ev X B Γ c2 b (Sd d2)) (hr : R2ok X.K r d1 d2 S) : Ev X B Γ (c1 + c2) (.Compare a [op] [b] pos) S :=
  ev_cmpN ho hm (ev_sp ha) (ev_sp hb) fun x y e1 e2 => by subst e1; subst e2; exact hr

/-! ### tests -/
theorem tv_of (h : Ev X B Γ c e (Sp P)) {S : Bool → Prop} (hp : ∀ d, P d → ∃ b : Bool, d = dt b ∧ S b) (he : ∀ whole, isTrue e X.env whole = (do let v ← whole; standAt e.pos; holding [v] (truthy v)) := by intro _; rfl) : Tv X B Γ c e S :=
  pt_mono (pt_val h he) fun σ H Q q => by
    obtain ⟨n, G, p, k⟩ := q
    refine ⟨n, G, p, fun v H' G' n' r hn st vl hS hr => ?_⟩
    obtain ⟨d, hd, rfl⟩ := hS
    obtain ⟨b, rfl, hb⟩ := hp d hd
    cases hr with
    | sh den => cases den with | py den => cases den; exact ⟨b, rfl, k b H' G' n' hn st vl hb⟩
theorem tv_d {b : Bool} (h : Ev X B Γ c e (Sd (dt b))) (he : ∀ whole, isTrue e X.env whole = (do let v ← whole; standAt e.pos; holding [v] (truthy v)) := by intro _; rfl) : Tv X B Γ c e (fun x => x = b) :=
  tv_of (ev_sp h) (fun d e => ⟨b, e, rfl⟩) he
end
end DL
end

section
set_option Elab.async false
set_option linter.all false
set_option maxRecDepth 100000
set_option maxHeartbeats 2000000
set_option autoImplicit false
/-! DlC: operators on plain data of Lean types; new objects. -/
namespace DL
open PySem PySem.Spec PyProof.Rows L2 PySem.W PySem.SeqAt
variable [Wd]
/-! ### new objects -/
def notPu : HO → Prop
  | .lst _ | .tup _ | .dK _ | .dT _ | .ins _ _ _ | .own _ => True
  | _ => False
theorem pu_of_notPu {o : HO} {a : Addr} {m : Nat} (h : notPu o) : o ≠ purseO a m := by intro e; subst e; exact h
theorem xd_of_notPu {o : HO} {t : List (Str × V)} (h : notPu o) : o ≠ .xd t := by intro e; subst e; exact h
theorem Val.mm_sub {n : Nat} {G G' H H' : Hp} (v : Val n G H) (hg : ∀ a t, G' a = some (.xd t) → G a = some (.xd t)) (s : Sub (Tp H) (Tp H')) (hm : ∀ a k, H a = some (memO a k) → H' a = some (memO a k)) :
    ∀ a t, G' a = some (.xd t) → ∃ k, H' a = some (memO a k) ∧ GoodAt H' t k := fun a t e => by
  obtain ⟨k, h1, h2⟩ := v.mm a t (hg a t e)
  exact ⟨k, hm a k h1, h2.sub s⟩
theorem tp_write {H : Hp} {a : Addr} {o o' : HO} (h : H a = some o) (ho : ¬ IsTp o) : Sub (Tp H) (Tp (upd H a o')) := fun b u e => by
  obtain ⟨h1, h2⟩ := Tp_get e
  have hb : b ≠ a := fun z => by
    subst z; rw [h] at h1; cases h1
    rcases h2 with ⟨xs, rfl⟩ | ⟨q, xs, rfl⟩
    · exact ho trivial
    · exact ho trivial
  refine ⟨u, ?_, .refl u⟩
  unfold Tp at e ⊢
  rw [upd_ne hb]; exact e
/-- an object that is no tuple and no table is changed -/
theorem mm_write {n : Nat} {G H : Hp} {a : Addr} {o o' : HO} (h : H a = some o) (ho : ¬ IsTp o) (hm : ∀ k, o ≠ memO a k) (v : Val n G H) : ∀ b t, G b = some (.xd t) → ∃ k, upd H a o' b = some (memO b k) ∧ GoodAt (upd H a o') t k :=
  v.mm_sub (fun _ _ e => e) (tp_write h ho) fun b k e => by
    have hb : b ≠ a := fun z => by subst z; rw [h] at e; cases e; exact hm k rfl
    rw [upd_ne hb]; exact e
theorem xd_back {K : PySem.W.Frag} {G G0 : Hp} {a b : Addr} {o : HO} {d : D} {t : List (Str × V)} (h : OwAt K G0 o d) (e : upd G a o b = some (.xd t)) : G b = some (.xd t) := by
  by_cases hb : b = a
  · subst hb; rw [upd_same] at e; cases e; cases h
  · rw [upd_ne hb] at e; exact e
theorem own_den {K : PySem.W.Frag} {G : Hp} {a : Addr} {o : HO} {d : D} (h : OwAt K (upd G a o) o d) : Den K (upd G a o) (.ref a) d := by
  cases h with
  | lst q => exact .lst upd_same q
  | py q => exact .py (.lst upd_same q)
  | dct q => exact .dct (.inl upd_same) q
  | dtp q => exact .dtp (.inl upd_same) q
  | ins q => exact .ins upd_same q
theorem Ste.new {n : Nat} {G H : Hp} {p : Addr} {o : HO} (v : Val n G H) (h : H p = none) (ho : notPu o) : Ste G H G (upd H p o) ∧ Val n G (upd H p o) := by
  have s : Sub H (upd H p o) := fun b u e => ⟨u, by rw [upd_ne (ne_of_none e h)]; exact e, .refl u⟩
  refine ⟨⟨.refl G, s, fun b u hb _ _ => hb⟩, ⟨v.sub.trans s, fun a m e => ?_, v.mm_sub (fun _ _ e => e) (Tp_sub s) fun a k e => by rw [upd_ne (ne_of_none e h)]; exact e⟩⟩
  by_cases hb : a = p
  · subst hb; rw [upd_same] at e; exact absurd (Option.some.inj e) (pu_of_notPu ho)
  · rw [upd_ne hb] at e; exact v.pb a m e
theorem Ste.newS {n : Nat} {G H : Hp} {p : Addr} {o : HO} (v : Val n G H) (h : H p = none) (ho : notPu o) : Ste G H (upd G p o) (upd H p o) ∧ Val n (upd G p o) (upd H p o) := by
  have s : Sub H (upd H p o) := fun b u e => ⟨u, by rw [upd_ne (ne_of_none e h)]; exact e, .refl u⟩
  have g0 : G p = none := v.sub.out h
  have sg : Sub G (upd G p o) := fun b u e => ⟨u, by rw [upd_ne (ne_of_none e g0)]; exact e, .refl u⟩
  refine ⟨⟨sg, s, fun b u hb hb2 _ => ?_⟩, ⟨fun b u e => ?_, fun a m e => ?_, v.mm_sub (fun b t e => ?_) (Tp_sub s) fun a k e => by rw [upd_ne (ne_of_none e h)]; exact e⟩⟩
  · have : b ≠ p := fun z => by subst z; rw [h] at hb2; cases hb2
    rw [upd_ne this]; exact hb
  · by_cases hb : b = p
    · subst hb; rw [upd_same] at e ⊢; exact ⟨u, e, .refl u⟩
    · rw [upd_ne hb] at e
      obtain ⟨o', e', l⟩ := v.sub b u e
      exact ⟨o', by rw [upd_ne hb]; exact e', l⟩
  · by_cases hb : a = p
    · subst hb; rw [upd_same] at e; exact absurd (Option.some.inj e) (pu_of_notPu ho)
    · rw [upd_ne hb] at e; exact v.pb a m e
  · by_cases hb : b = p
    · subst hb; rw [upd_same] at e; exact absurd (Option.some.inj e) (xd_of_notPu ho)
    · rw [upd_ne hb] at e; exact e
theorem Res.newL {K : PySem.W.Frag} {G H : Hp} {p : Addr} {vs : List V} {d : D} {n : Nat} (v : Val n G H) (h : H p = none) (x : OwAt K G (.lst vs) d) : Res K H G (upd H p (.lst vs)) (.ref p) (.ow d) := .ow h (v.sub.out h) upd_same x
theorem Res.newT {K : PySem.W.Frag} {G H : Hp} {p : Addr} {vs : List V} {ds : List PyData} {n : Nat} (v : Val n G H) (h : H p = none) (x : DqAll K G vs ds) : Res K H (upd G p (.tup vs)) (upd H p (.tup vs)) (.ref p) (.sh (.py (.tuple ds))) :=
  (.sh (.py (.tup (.of upd_same) (dpAll_sub (R := Le) (fun b u e => ⟨u, by rw [upd_ne (ne_of_none e (v.sub.out h))]; exact e, .refl u⟩) x))))

/-! ### plain data -/
section
variable {K : PySem.W.Frag} {G : Hp} {α β γ : Type} [DecidableEq α] [Datum α] [DecidableEq β] [Datum β] [DecidableEq γ] [Datum γ]
theorem Den.dp {v : V} {x : α} (h : Den K G v (dt x)) : Dq K G v (Datum.toD x) := by cases h; assumption
theorem dp_list {v : V} {xs : List α} (h : Dq K G v (Datum.toD xs)) : ∃ a vs, v = .ref a ∧ G a = some (.lst vs) ∧ DqAll K G vs (xs.map Datum.toD) := by
  have h' : Dq K G v (.list (xs.map Datum.toD)) := h
  cases h' with | lst h1 t => exact ⟨_, _, rfl, h1, t⟩
theorem dp_tup {v : V} {xs : Tup α} (h : Dq K G v (Datum.toD xs)) : ∃ a vs, v = .ref a ∧ SqT K G a vs ∧ DqAll K G vs (xs.items.map Datum.toD) := by
  have h' : Dq K G v (.tuple (xs.items.map Datum.toD)) := h
  cases h' with | tup h1 t => exact ⟨_, _, rfl, h1, t⟩
theorem dp_pair {v : V} {x : α × β} (h : Dq K G v (Datum.toD x)) : ∃ a v1 v2, v = .ref a ∧ SqT K G a [v1, v2] ∧ Dq K G v1 (Datum.toD x.1) ∧ Dq K G v2 (Datum.toD x.2) := by
  have h' : Dq K G v (.tuple [Datum.toD x.1, Datum.toD x.2]) := h
  cases h' with | tup h t => cases t with | cons t1 t => cases t with | cons t2 t => cases t with | nil => exact ⟨_, _, _, rfl, h, t1, t2⟩
theorem dp_int {v : V} {i : Int} (h : Dq K G v (Datum.toD i)) : v = .int i := by
  have h' : Dq K G v (.int i) := h
  cases h'; rfl
theorem dp_bool {v : V} {i : Bool} (h : Dq K G v (Datum.toD i)) : v = .bl i := by
  have h' : Dq K G v (.bool i) := h
  cases h'; rfl
theorem dp_str {v : V} {i : Str} (h : Dq K G v (Datum.toD i)) : v = .str i := by
  have h' : Dq K G v (.str i) := h
  cases h'; rfl
theorem dpAll_len : ∀ {vs : List V} {ds : List PyData}, DqAll K G vs ds → vs.length = ds.length
  | _, _, .nil => rfl
  | _, _, .cons _ t => by rw [List.length_cons, List.length_cons, dpAll_len t]
theorem dpAll_get : ∀ {vs : List V} {ds : List PyData} {i : Nat} {v : V}, DqAll K G vs ds → vs[i]? = some v → ∃ d, ds[i]? = some d ∧ Dq K G v d
  | _, _, _, _, .nil, e => by simp at e
  | _, _, 0, _, .cons h t, e => by simp at e; subst e; exact ⟨_, rfl, h⟩
  | _, _, i + 1, _, .cons h t, e => by
    obtain ⟨d, h1, h2⟩ := dpAll_get (i := i) t (by simpa using e)
    exact ⟨d, by simpa using h1, h2⟩
theorem dpAll_get' {vs : List V} {ds : List PyData} {i : Nat} {d : PyData} (h : DqAll K G vs ds) (e : ds[i]? = some d) : ∃ v, vs[i]? = some v ∧ Dq K G v d := by
  have hl := dpAll_len h
  obtain ⟨h1, h2⟩ := List.getElem?_eq_some_iff.mp e
  obtain ⟨d', e1, h3⟩ := dpAll_get (i := i) (v := vs[i]'(by omega)) h (by simp [hl, h1])
  rw [e] at e1; cases e1
  exact ⟨_, by simp [hl, h1], h3⟩
theorem dpAll_app : ∀ {vs ws : List V} {ds es : List PyData}, DqAll K G vs ds → DqAll K G ws es → DqAll K G (vs ++ ws) (ds ++ es)
  | _, _, _, _, .nil, h => h
  | _, _, _, _, .cons h t, g => .cons h (dpAll_app t g)
theorem dpAll_take : ∀ {vs : List V} {ds : List PyData} (n : Nat), DqAll K G vs ds → DqAll K G (vs.take n) (ds.take n)
  | _, _, 0, _ => by simp; exact .nil
  | _, _, _ + 1, .nil => .nil
  | _, _, n + 1, .cons h t => .cons h (dpAll_take n t)
theorem dpAll_drop : ∀ {vs : List V} {ds : List PyData} (n : Nat), DqAll K G vs ds → DqAll K G (vs.drop n) (ds.drop n)
  | _, _, 0, h => h
  | _, _, _ + 1, .nil => .nil
  | _, _, n + 1, .cons h t => dpAll_drop n t
theorem dpAll_rev : ∀ {vs : List V} {ds : List PyData}, DqAll K G vs ds → DqAll K G vs.reverse ds.reverse
  | _, _, .nil => .nil
  | _, _, .cons h t => by rw [List.reverse_cons, List.reverse_cons]; exact dpAll_app (dpAll_rev t) (.cons h .nil)
theorem dpAll_perm {vs ws : List V} {ds : List PyData} (h : DqAll K G vs ds) (p : ws.Perm vs) : ∃ es, es.Perm ds ∧ DqAll K G ws es := by
  induction p generalizing ds with
  | nil => cases h; exact ⟨[], .refl _, .nil⟩
  | cons x p ih =>
    cases h with
    | cons h t =>
    obtain ⟨es, q, r⟩ := ih t
    exact ⟨_ :: es, q.cons _, .cons h r⟩
  | swap x y l =>
    cases h with
    | cons h t => cases t with | cons h2 t => exact ⟨_ :: _ :: _, .swap _ _ _, .cons h2 (.cons h t)⟩
  | trans p q ih1 ih2 =>
    obtain ⟨es, a, b⟩ := ih2 h
    obtain ⟨fs, c, d⟩ := ih1 b
    exact ⟨fs, c.trans a, d⟩
end
/-- room for the depth of data -/
abbrev Hu (X : Cx) : Prop := X.A.units + 64 < cLine
section
variable {X : Cx} {B : Bs} {Γ : List Ent} {c c1 c2 c3 : Nat} {e a b : Expr} {es : List Expr} {pos : Pos} {α β γ : Type} [DecidableEq α] [Datum α] [DecidableEq β] [Datum β] [DecidableEq γ] [Datum γ]
theorem Inv.holds {pins : List (Addr × Obj)} {σ : L2.St} {H : Hp} {s : Shared} {x : α} {v : V} {u : Value} (I : Inv X pins σ H s) (h : Dq X.K H v (Datum.toD x)) (r : RelV v u) : Holds s.heap u x := Dp.reads I _ v u h.dp r

/-! ### comparisons that give True or False -/
def rB (K : PySem.W.Frag) (g : α → β → Bool) : R2 := fun x y H Q => ∃ a b, Dq K H x (Datum.toD a) ∧ Dq K H y (Datum.toD b) ∧ Q (.bl (g a b)) H
theorem opr_B {f : Value → Value → Sem Value} {g : α → β → Bool} (rule : ∀ (s : Shared) (v u : Value) (a : α) (b : β) (Q E : Value → Shared → Prop), Holds s.heap v a → Holds s.heap u b → Q (.bool (g a b)) s → wpAny (model X.prog X.w) X.A (f v u) Q E s) : OpR X f (rB X.K g) := by
  intro pins s σ H x y v u Q I rx ry h
  obtain ⟨a, b, h1, h2, q⟩ := h
  exact rule s v u a b _ _ (Inv.holds I h1 rx) (Inv.holds I h2 ry) ⟨.bl (g a b), H, I, rfl, q⟩
theorem ok_B {K : PySem.W.Frag} {g : α → β → Bool} {x : α} {y : β} : R2ok K (rB K g) (dt x) (dt y) (Sd (dt (g x y))) := by
  intro n G H u v Q vl h1 h2 k
  exact ⟨x, y, dp_sub vl.sub h1.dp, dp_sub vl.sub h2.dp, k _ H G _ (.refl G H) vl rfl (.sh (.py (.bl _)))⟩
theorem ev_B {op : CmpOp} {g : α → β → Bool} {x : α} {y : β} (rule : ∀ (s : Shared) (v u : Value) (a : α) (b : β) (Q E : Value → Shared → Prop), Holds s.heap v a → Holds s.heap u b → Q (.bool (g a b)) s → wpAny (model X.prog X.w) X.A (compareOp op v u) Q E s)
    (hm : behindInMarks op b = false) (ha : Ev X B Γ c1 a (Sd (dt x))) (hb : Ev X B Γ c2 b (Sd (dt y))) : Ev X B Γ (c1 + c2) (.Compare a [op] [b] pos) (Sd (dt (g x y))) := ev_cmp (opr_B rule) hm ha hb ok_B
theorem ev_eq {x y : α} (hu : Hu X) (ha : Ev X B Γ c1 a (Sd (dt x))) (hb : Ev X B Γ c2 b (Sd (dt y))) (hd : Datum.depth α ≤ 64 := by decide) : Ev X B Γ (c1 + c2) (.Compare a [.Eq] [b] pos) (Sd (dt (decide (x = y)))) :=
  ev_B (g := fun (x : α) (y : α) => decide (x = y)) (fun s v u a b Q E h1 h2 q => eq_datum h1 h2 (by omega) q) (nobehind _ (by decide) (by decide)) ha hb
theorem ev_ne {x y : α} (hu : Hu X) (ha : Ev X B Γ c1 a (Sd (dt x))) (hb : Ev X B Γ c2 b (Sd (dt y))) (hd : Datum.depth α ≤ 64 := by decide) : Ev X B Γ (c1 + c2) (.Compare a [.NotEq] [b] pos) (Sd (dt (decide (x ≠ y)))) :=
  ev_B (g := fun (x : α) (y : α) => decide (x ≠ y)) (fun s v u a b Q E h1 h2 q => ne_datum h1 h2 (by omega) q) (nobehind _ (by decide) (by decide)) ha hb
theorem holds_list_inv {s : Shared} {u : Value} {xs : List α} (h : Holds s.heap u xs) : ∃ as, Reads s.heap u (.list (xs.map Datum.toD)) as := h
theorem ev_inL {x : α} {xs : List α} (hu : Hu X) (ha : Ev X B Γ c1 a (Sd (dt x))) (hb : Ev X B Γ c2 b (Sd (dt xs))) (hm : behindInMarks .In b = false := by rfl) (hd : Datum.depth α < 64 := by decide) : Ev X B Γ (c1 + c2) (.Compare a [.In] [b] pos) (Sd (dt (decide (x ∈ xs)))) :=
  ev_B (g := fun (x : α) (y : List α) => decide (x ∈ y)) (fun s v u a b Q E h1 h2 q => by
    obtain ⟨as, r1⟩ := h1
    obtain ⟨bs, r2⟩ := holds_list_inv h2
    exact in_list_data r2 r1 (plainAll_map b) (Datum.plain a) (room_items (depthAll_map b) (by omega)) (by rw [any_datum]; exact q)) hm ha hb
theorem ev_ninL {x : α} {xs : List α} (hu : Hu X) (ha : Ev X B Γ c1 a (Sd (dt x))) (hb : Ev X B Γ c2 b (Sd (dt xs))) (hm : behindInMarks .NotIn b = false := by rfl) (hd : Datum.depth α < 64 := by decide) : Ev X B Γ (c1 + c2) (.Compare a [.NotIn] [b] pos) (Sd (dt (decide (x ∉ xs)))) :=
  ev_B (g := fun (x : α) (y : List α) => decide (x ∉ y)) (fun s v u a b Q E h1 h2 q => by
    obtain ⟨as, r1⟩ := h1
    obtain ⟨bs, r2⟩ := holds_list_inv h2
    exact notIn_list_data r2 r1 (plainAll_map b) (Datum.plain a) (room_items (depthAll_map b) (by omega)) (by rw [any_datum, ← decide_not]; exact q)) hm ha hb
theorem ev_inT {x : α} {xs : Tup α} (hu : Hu X) (ha : Ev X B Γ c1 a (Sd (dt x))) (hb : Ev X B Γ c2 b (Sd (dt xs))) (hm : behindInMarks .In b = false := by rfl) (hd : Datum.depth α < 64 := by decide) : Ev X B Γ (c1 + c2) (.Compare a [.In] [b] pos) (Sd (dt (decide (x ∈ xs.items)))) :=
  ev_B (g := fun (x : α) (y : Tup α) => decide (x ∈ y.items)) (fun s v u a b Q E h1 h2 q => by
    obtain ⟨as, r1⟩ := h1
    obtain ⟨bs, r2⟩ := h2
    exact in_tuple_data r2 r1 (plainAll_map b.items) (Datum.plain a) (room_items (depthAll_map b.items) (by omega)) (by rw [any_datum]; exact q)) hm ha hb
theorem ev_ninT {x : α} {xs : Tup α} (hu : Hu X) (ha : Ev X B Γ c1 a (Sd (dt x))) (hb : Ev X B Γ c2 b (Sd (dt xs))) (hm : behindInMarks .NotIn b = false := by rfl) (hd : Datum.depth α < 64 := by decide) : Ev X B Γ (c1 + c2) (.Compare a [.NotIn] [b] pos) (Sd (dt (decide (x ∉ xs.items)))) :=
  ev_B (g := fun (x : α) (y : Tup α) => decide (x ∉ y.items)) (fun s v u a b Q E h1 h2 q => by
    obtain ⟨as, r1⟩ := h1
    obtain ⟨bs, r2⟩ := h2
    exact notIn_tuple_data r2 r1 (plainAll_map b.items) (Datum.plain a) (room_items (depthAll_map b.items) (by omega)) (by rw [any_datum, ← decide_not]; exact q)) hm ha hb
end
section
variable {X : Cx} {B : Bs} {Γ : List Ent} {c c1 c2 c3 : Nat} {e a b : Expr} {es : List Expr} {pos : Pos} {α : Type} [DecidableEq α] [DatumOrd α]
theorem ev_lt {x y : α} (hu : Hu X) (ha : Ev X B Γ c1 a (Sd (dt x))) (hb : Ev X B Γ c2 b (Sd (dt y))) (hd : Datum.depth α ≤ 64 := by decide) : Ev X B Γ (c1 + c2) (.Compare a [.Lt] [b] pos) (Sd (dt (DatumOrd.lt x y))) :=
  ev_B (g := fun (x : α) (y : α) => DatumOrd.lt x y) (fun s v u a b Q E h1 h2 q => lt_datum h1 h2 (by omega) q) (nobehind _ (by decide) (by decide)) ha hb
theorem ev_gt {x y : α} (hu : Hu X) (ha : Ev X B Γ c1 a (Sd (dt x))) (hb : Ev X B Γ c2 b (Sd (dt y))) (hd : Datum.depth α ≤ 64 := by decide) : Ev X B Γ (c1 + c2) (.Compare a [.Gt] [b] pos) (Sd (dt (DatumOrd.lt y x))) :=
  ev_B (g := fun (x : α) (y : α) => DatumOrd.lt y x) (fun s v u a b Q E h1 h2 q => gt_datum h1 h2 (by omega) q) (nobehind _ (by decide) (by decide)) ha hb
theorem ev_le {x y : α} (hu : Hu X) (ha : Ev X B Γ c1 a (Sd (dt x))) (hb : Ev X B Γ c2 b (Sd (dt y))) (hd : Datum.depth α ≤ 64 := by decide) : Ev X B Γ (c1 + c2) (.Compare a [.LtE] [b] pos) (Sd (dt (!DatumOrd.lt y x))) :=
  ev_B (g := fun (x : α) (y : α) => !DatumOrd.lt y x) (fun s v u a b Q E h1 h2 q => le_datum h1 h2 (by omega) q) (nobehind _ (by decide) (by decide)) ha hb
theorem ev_ge {x y : α} (hu : Hu X) (ha : Ev X B Γ c1 a (Sd (dt x))) (hb : Ev X B Γ c2 b (Sd (dt y))) (hd : Datum.depth α ≤ 64 := by decide) : Ev X B Γ (c1 + c2) (.Compare a [.GtE] [b] pos) (Sd (dt (!DatumOrd.lt x y))) :=
  ev_B (g := fun (x : α) (y : α) => !DatumOrd.lt x y) (fun s v u a b Q E h1 h2 q => ge_datum h1 h2 (by omega) q) (nobehind _ (by decide) (by decide)) ha hb
end
end DL
end

section
set_option Elab.async false
set_option linter.all false
set_option maxRecDepth 100000
set_option maxHeartbeats 2000000
set_option autoImplicit false
/-! DlD: numbers, texts, sequences, displays, calls. -/
namespace DL
open PySem PySem.Spec PyProof.Rows L2 PySem.W PySem.SeqAt
variable [Wd]
section
variable {X : Cx} {B : Bs} {Γ : List Ent} {c c0 c1 c2 c3 : Nat} {e a b t : Expr} {es : List Expr} {pos : Pos} {S S' : Ent → Prop} {P P1 P2 : D → Prop} {d d1 d2 : D}
/-! ### whole numbers -/
theorem ok_I {K : PySem.W.Frag} {C : Int → Int → Prop} {g : Int → Int → Int} {i j : Int} (h : C i j) : R2ok K (rI C fun i j => .int (g i j)) (dt i) (dt j) (Sd (dt (g i j))) := by
  intro n G H x y Q vl h1 h2 k
  exact ⟨i, j, dp_int h1.dp, dp_int h2.dp, h, k _ H G _ (.refl G H) vl rfl (.sh (.py (.int _)))⟩
theorem ok_I0 {K : PySem.W.Frag} {g : Int → Int → Int} {i j : Int} : R2ok K (rI0 fun i j => .int (g i j)) (dt i) (dt j) (Sd (dt (g i j))) := by
  intro n G H x y Q vl h1 h2 k
  exact ⟨i, j, dp_int h1.dp, dp_int h2.dp, k _ H G _ (.refl G H) vl rfl (.sh (.py (.int _)))⟩
theorem ev_add {i j : Int} (ha : Ev X B Γ c1 a (Sd (dt i))) (hb : Ev X B Γ c2 b (Sd (dt j))) : Ev X B Γ (c1 + c2) (.BinOp a .Add b pos) (Sd (dt (i + j))) := ev_op2 op_add ha hb ok_I0
theorem ev_sub {i j : Int} (ha : Ev X B Γ c1 a (Sd (dt i))) (hb : Ev X B Γ c2 b (Sd (dt j))) : Ev X B Γ (c1 + c2) (.BinOp a .Sub b pos) (Sd (dt (i - j))) := ev_op2 op_sub ha hb ok_I0
theorem ev_mul {i j : Int} (ha : Ev X B Γ c1 a (Sd (dt i))) (hb : Ev X B Γ c2 b (Sd (dt j))) (h : CMul i j) : Ev X B Γ (c1 + c2) (.BinOp a .Mult b pos) (Sd (dt (i * j))) := ev_op2 op_mul ha hb (ok_I h)
theorem ev_fdiv {i j : Int} (ha : Ev X B Γ c1 a (Sd (dt i))) (hb : Ev X B Γ c2 b (Sd (dt j))) (h : CDiv i j) : Ev X B Γ (c1 + c2) (.BinOp a .FloorDiv b pos) (Sd (dt (i / j))) := ev_op2 op_fdiv ha hb (ok_I h)
theorem ev_mod {i j : Int} (ha : Ev X B Γ c1 a (Sd (dt i))) (hb : Ev X B Γ c2 b (Sd (dt j))) (h : 0 < j) : Ev X B Γ (c1 + c2) (.BinOp a .Mod b pos) (Sd (dt (i % j))) := ev_op2 op_mod ha hb (ok_I (C := fun _ j => 0 < j) h)
/-! ### tests, and, or, not, if else -/
theorem tv_weak {S S' : Bool → Prop} (h : Tv X B Γ c e S) (hs : ∀ r, S r → S' r) (hc : c ≤ c1 := by omega) : Tv X B Γ c1 e S' := pt_mono h fun σ H Q q => by
  obtain ⟨n, G, p, k⟩ := q
  exact ⟨n, G, ⟨p.ok, p.val, p.ste, Nat.le_trans (Nat.add_le_add_left hc n) p.lim⟩, fun v H' G' n' hn st vl hS => k v H' G' n' (Nat.le_trans hn (Nat.add_le_add_left hc n)) st vl (hs v hS)⟩
theorem tv_not {S : Bool → Prop} (h : Tv X B Γ c e S) : Tv X B Γ c (.UnaryOp .Not e pos) (fun b => S (!b)) := pt_mono (pt_not h) fun σ H Q q => by
  obtain ⟨n, G, p, k⟩ := q
  exact ⟨n, G, p, fun v H' G' n' hn st vl hS => k (!v) H' G' n' hn st vl (by simpa using hS)⟩
theorem tv_notd {p : Bool} (h : Tv X B Γ c e (fun b => b = p)) : Tv X B Γ c (.UnaryOp .Not e pos) (fun b => b = !p) := tv_weak (tv_not h) (fun b q => by simp at q; subst q; simp) (Nat.le_refl _)
/-- and, or as tests: W is a test within a chain -/
abbrev Wv (X : Cx) (B : Bs) (Γ : List Ent) (c : Nat) (e : Expr) (S : Bool → Prop) : Prop := PW X e (tTv X.K B Γ c S)
theorem pw_mono {e : Expr} {t t' : TT} (h : PW X e t) (m : ∀ σ H Q, t' σ H Q → t σ H Q) : PW X e t' := ⟨fun w pins s σ H Q I q => h.run w pins s σ H Q I (m σ H Q q)⟩
theorem wv_and1 {S : Bool → Prop} (h : Tv X B Γ c a S) : Wv X B Γ c (.BoolOp .And [a] pos) S := pw_and1 h
theorem wv_or1 {S : Bool → Prop} (h : Tv X B Γ c a S) : Wv X B Γ c (.BoolOp .Or [a] pos) S := pw_or1 h
theorem wv_and {rest : List Expr} {S1 S2 : Bool → Prop} (ha : Tv X B Γ c1 a S1) (hb : S1 true → Wv X B Γ c2 (.BoolOp .And (b :: rest) pos) S2) : Wv X B Γ (c1 + c2) (.BoolOp .And (a :: b :: rest) pos) (fun r => (r = true ∧ S1 true ∧ S2 true) ∨ (r = false ∧ (S1 false ∨ S2 false))) := by
  by_cases h1 : S1 true
  · refine pw_mono (pw_and ha (hb h1)) fun σ H Q q => ?_
    obtain ⟨n, G, p, k⟩ := q
    refine ⟨n, G, ⟨p.ok, p.val, p.ste, by have := p.lim; omega⟩, fun v H1 G1 n1 hn st vl hS => ?_⟩
    cases v with
    | false => rw [if_neg (by decide)]; exact k false H1 G1 n1 (by omega) st vl (.inr ⟨rfl, .inl hS⟩)
    | true =>
      rw [if_pos rfl]
      refine ⟨n1, G1, p.step st vl (by have := p.lim; omega), fun v2 H2 G2 n2 hn2 st2 vl2 hS2 => ?_⟩
      refine k v2 H2 G2 n2 (by omega) (st.trans st2) vl2 ?_
      cases v2 with
      | true => exact .inl ⟨rfl, hS, hS2⟩
      | false => exact .inr ⟨rfl, .inr hS2⟩
  · have z : PW X (.BoolOp .And (b :: rest) pos) (fun _ _ _ => False) := ⟨fun _ _ _ _ _ _ _ q => q.elim⟩
    refine pw_mono (pw_and ha z) fun σ H Q q => ?_
    obtain ⟨n, G, p, k⟩ := q
    refine ⟨n, G, ⟨p.ok, p.val, p.ste, by have := p.lim; omega⟩, fun v H1 G1 n1 hn st vl hS => ?_⟩
    cases v with
    | false => rw [if_neg (by decide)]; exact k false H1 G1 n1 (by omega) st vl (.inr ⟨rfl, .inl hS⟩)
    | true => exact absurd hS h1
theorem wv_or {rest : List Expr} {S1 S2 : Bool → Prop} (ha : Tv X B Γ c1 a S1) (hb : S1 false → Wv X B Γ c2 (.BoolOp .Or (b :: rest) pos) S2) : Wv X B Γ (c1 + c2) (.BoolOp .Or (a :: b :: rest) pos) (fun r => (r = false ∧ S1 false ∧ S2 false) ∨ (r = true ∧ (S1 true ∨ S2 true))) := by
  by_cases h1 : S1 false
  · refine pw_mono (pw_or ha (hb h1)) fun σ H Q q => ?_
    obtain ⟨n, G, p, k⟩ := q
    refine ⟨n, G, ⟨p.ok, p.val, p.ste, by have := p.lim; omega⟩, fun v H1 G1 n1 hn st vl hS => ?_⟩
    cases v with
    | true => rw [if_pos rfl]; exact k true H1 G1 n1 (by omega) st vl (.inr ⟨rfl, .inl hS⟩)
    | false =>
      rw [if_neg (by decide)]
      refine ⟨n1, G1, p.step st vl (by have := p.lim; omega), fun v2 H2 G2 n2 hn2 st2 vl2 hS2 => ?_⟩
      refine k v2 H2 G2 n2 (by omega) (st.trans st2) vl2 ?_
      cases v2 with
      | false => exact .inl ⟨rfl, hS, hS2⟩
      | true => exact .inr ⟨rfl, .inr hS2⟩
  · have z : PW X (.BoolOp .Or (b :: rest) pos) (fun _ _ _ => False) := ⟨fun _ _ _ _ _ _ _ q => q.elim⟩
    refine pw_mono (pw_or ha z) fun σ H Q q => ?_
    obtain ⟨n, G, p, k⟩ := q
    refine ⟨n, G, ⟨p.ok, p.val, p.ste, by have := p.lim; omega⟩, fun v H1 G1 n1 hn st vl hS => ?_⟩
    cases v with
    | true => rw [if_pos rfl]; exact k true H1 G1 n1 (by omega) st vl (.inr ⟨rfl, .inl hS⟩)
    | false => exact absurd hS h1
/-- the same, known answers -/
theorem wv_andd {rest : List Expr} {p q : Bool} (ha : Tv X B Γ c1 a (fun r => r = p)) (hb : p = true → Wv X B Γ c2 (.BoolOp .And (b :: rest) pos) (fun r => r = q)) : Wv X B Γ (c1 + c2) (.BoolOp .And (a :: b :: rest) pos) (fun r => r = (p && q)) :=
  pw_mono (wv_and ha fun h => hb h.symm) fun σ H Q z => by
    obtain ⟨n, G, pp, k⟩ := z
    refine ⟨n, G, pp, fun v H' G' n' hn st vl hS => k v H' G' n' hn st vl ?_⟩
    rcases hS with ⟨rfl, h1, h2⟩ | ⟨rfl, h1 | h1⟩ <;> simp_all
theorem wv_ord {rest : List Expr} {p q : Bool} (ha : Tv X B Γ c1 a (fun r => r = p)) (hb : p = false → Wv X B Γ c2 (.BoolOp .Or (b :: rest) pos) (fun r => r = q)) : Wv X B Γ (c1 + c2) (.BoolOp .Or (a :: b :: rest) pos) (fun r => r = (p || q)) :=
  pw_mono (wv_or ha fun h => hb h.symm) fun σ H Q z => by
    obtain ⟨n, G, pp, k⟩ := z
    refine ⟨n, G, pp, fun v H' G' n' hn st vl hS => k v H' G' n' hn st vl ?_⟩
    rcases hS with ⟨rfl, h1, h2⟩ | ⟨rfl, h1 | h1⟩ <;> simp_all
/-- and, or, not as values -/
theorem ev_one {op : BoolOp} (h : Ev X B Γ c a S) : Ev X B Γ c (.BoolOp op [a] pos) S := pe_one h
theorem ev_and {rest : List Expr} {p q : Bool} (ha : Ev X B Γ c1 a (Sd (dt p))) (hb : p = true → Ev X B Γ c2 (.BoolOp .And (b :: rest) pos) (Sd (dt q))) : Ev X B Γ (c1 + c2) (.BoolOp .And (a :: b :: rest) pos) (Sd (dt (p && q))) := by
  cases p with
  | true =>
    refine pe_mono (pe_and ha (hb rfl)) fun σ H Q z => ?_
    obtain ⟨n, G, p, k⟩ := z
    refine ⟨n, G, ⟨p.ok, p.val, p.ste, by have := p.lim; omega⟩, fun v H1 G1 n1 r hn st vl hS hr => ?_⟩
    cases hS
    cases hr with | sh hr => rw [dp_bool hr.dp]; exact ⟨true, rfl, by
      rw [if_pos rfl]
      exact ⟨n1, G1, p.step st vl (by have := p.lim; omega), fun v2 H2 G2 n2 r2 hn2 st2 vl2 hS2 hr2 => k v2 H2 G2 n2 r2 (by omega) (st.trans st2) vl2 (by simpa using hS2) (hr2.base st.h)⟩⟩
  | false =>
    have z : PE X (.BoolOp .And (b :: rest) pos) (fun _ _ _ => False) := ⟨fun _ _ _ _ _ _ q => q.elim⟩
    refine pe_mono (pe_and ha z) fun σ H Q z => ?_
    obtain ⟨n, G, p, k⟩ := z
    refine ⟨n, G, ⟨p.ok, p.val, p.ste, by have := p.lim; omega⟩, fun v H1 G1 n1 r hn st vl hS hr => ?_⟩
    cases hS
    cases hr with | sh hr => rw [dp_bool hr.dp]; exact ⟨false, rfl, by
      rw [if_neg (by decide)]
      exact k _ H1 G1 n1 _ (by omega) st vl rfl (.sh (.py (.bl _)))⟩
theorem ev_or {rest : List Expr} {p q : Bool} (ha : Ev X B Γ c1 a (Sd (dt p))) (hb : p = false → Ev X B Γ c2 (.BoolOp .Or (b :: rest) pos) (Sd (dt q))) : Ev X B Γ (c1 + c2) (.BoolOp .Or (a :: b :: rest) pos) (Sd (dt (p || q))) := by
  cases p with
  | false =>
    refine pe_mono (pe_or ha (hb rfl)) fun σ H Q z => ?_
    obtain ⟨n, G, p, k⟩ := z
    refine ⟨n, G, ⟨p.ok, p.val, p.ste, by have := p.lim; omega⟩, fun v H1 G1 n1 r hn st vl hS hr => ?_⟩
    cases hS
    cases hr with | sh hr => rw [dp_bool hr.dp]; exact ⟨false, rfl, by
      rw [if_neg (by decide)]
      exact ⟨n1, G1, p.step st vl (by have := p.lim; omega), fun v2 H2 G2 n2 r2 hn2 st2 vl2 hS2 hr2 => k v2 H2 G2 n2 r2 (by omega) (st.trans st2) vl2 (by simpa using hS2) (hr2.base st.h)⟩⟩
  | true =>
    have z : PE X (.BoolOp .Or (b :: rest) pos) (fun _ _ _ => False) := ⟨fun _ _ _ _ _ _ q => q.elim⟩
    refine pe_mono (pe_or ha z) fun σ H Q z => ?_
    obtain ⟨n, G, p, k⟩ := z
    refine ⟨n, G, ⟨p.ok, p.val, p.ste, by have := p.lim; omega⟩, fun v H1 G1 n1 r hn st vl hS hr => ?_⟩
    cases hS
    cases hr with | sh hr => rw [dp_bool hr.dp]; exact ⟨true, rfl, by
      rw [if_pos rfl]
      exact k _ H1 G1 n1 _ (by omega) st vl rfl (.sh (.py (.bl _)))⟩
theorem ev_not {p : Bool} (h : Ev X B Γ c e (Sd (dt p))) : Ev X B Γ c (.UnaryOp .Not e pos) (Sd (dt (!p))) := pe_mono (pe_not h) fun σ H Q z => by
  obtain ⟨n, G, pp, k⟩ := z
  refine ⟨n, G, pp, fun v H1 G1 n1 r hn st vl hS hr => ?_⟩
  cases hS
  cases hr with | sh hr => rw [dp_bool hr.dp]; exact ⟨p, rfl, k _ H1 G1 n1 _ hn st vl rfl (.sh (.py (.bl _)))⟩
theorem ev_iteS {Sb : Bool → Prop} (ht : Tv X B Γ c0 t Sb) (ha : Sb true → Ev X B Γ c1 a S) (hb : Sb false → Ev X B Γ c2 b S) : Ev X B Γ (c0 + max c1 c2) (.IfExp t a b pos) S := by
  have z : ∀ e, PE X e (fun _ _ _ => False) := fun e => ⟨fun _ _ _ _ _ _ q => q.elim⟩
  have pa : PE X a (fun σ H Q => Sb true ∧ tEv X.K B Γ c1 S σ H Q) := ⟨fun pins s σ H Q I q => (ha q.1).run pins s σ H Q I q.2⟩
  have pb : PE X b (fun σ H Q => Sb false ∧ tEv X.K B Γ c2 S σ H Q) := ⟨fun pins s σ H Q I q => (hb q.1).run pins s σ H Q I q.2⟩
  refine pe_mono (pe_ifExp ht pa pb) fun σ H Q q => ?_
  obtain ⟨n, G, p, k⟩ := q
  refine ⟨n, G, ⟨p.ok, p.val, p.ste, by have := p.lim; omega⟩, fun v H1 G1 n1 hn st vl hS => ?_⟩
  cases v with
  | true => rw [if_pos rfl]; exact ⟨hS, n1, G1, p.step st vl (by have := p.lim; omega), fun v2 H2 G2 n2 r2 hn2 st2 vl2 hS2 hr2 => k v2 H2 G2 n2 r2 (by omega) (st.trans st2) vl2 hS2 (hr2.base st.h)⟩
  | false => rw [if_neg (by decide)]; exact ⟨hS, n1, G1, p.step st vl (by have := p.lim; omega), fun v2 H2 G2 n2 r2 hn2 st2 vl2 hS2 hr2 => k v2 H2 G2 n2 r2 (by omega) (st.trans st2) vl2 hS2 (hr2.base st.h)⟩
theorem ev_ite {α : Type} [DecidableEq α] [Datum α] {p : Bool} {x y : α} (ht : Tv X B Γ c0 t (fun r => r = p)) (ha : p = true → Ev X B Γ c1 a (Sd (dt x))) (hb : p = false → Ev X B Γ c2 b (Sd (dt y))) : Ev X B Γ (c0 + max c1 c2) (.IfExp t a b pos) (Sd (dt (bif p then x else y))) :=
  ev_iteS ht (fun h => by subst h; exact ha rfl) (fun h => by subst h; exact hb rfl)
end
end DL
end

section
set_option Elab.async false
set_option linter.all false
set_option maxRecDepth 100000
set_option maxHeartbeats 2000000
set_option autoImplicit false
/-! DlE: texts, sequences, displays, arguments, calls. -/
namespace DL
open PySem PySem.Spec PyProof.Rows L2 PySem.W PySem.SeqAt
variable [Wd]
section
variable {X : Cx} {B : Bs} {Γ : List Ent} {c c0 c1 c2 c3 : Nat} {e a b t : Expr} {es : List Expr} {pos p2 : Pos} {S S' : Ent → Prop} {P P1 P2 : D → Prop} {d d1 d2 : D} {α β γ : Type} [DecidableEq α] [Datum α] [DecidableEq β] [Datum β] [DecidableEq γ] [Datum γ]
/-! ### texts -/
theorem ev_addS {x y : Str} (ha : Ev X B Γ c1 a (Sd (dt x))) (hb : Ev X B Γ c2 b (Sd (dt y))) (h : x.length + y.length ≤ sizeLine) : Ev X B Γ (c1 + c2) (.BinOp a .Add b pos) (Sd (dt (x ++ y))) := ev_op2 op_add_str ha hb fun n G H u v Q vl h1 h2 k =>
  ⟨x, y, dp_str h1.dp, dp_str h2.dp, h, k _ H G _ (.refl G H) vl rfl (.sh (.py (.str _)))⟩
theorem ev_ixN {r : R2} (hr : IxR X r) (ha : Ev X B Γ c1 a (Sp P1)) (hb : Ev X B Γ c2 b (Sp P2)) (hs : PlainIx b) (hk : ∀ d1 d2, P1 d1 → P2 d2 → R2ok X.K r d1 d2 S) : Ev X B Γ (c1 + c2) (.Subscript a b pos) S :=
  pe_mono (pe_ix hr ha hb hs) fun σ H Q q => seq2 hk q (fun _ _ _ z => z) fun _ _ _ z => z
theorem ev_ix {r : R2} (hr : IxR X r) (ha : Ev X B Γ c1 a (Sd d1)) (hb : Ev X B Γ c2 b (Sd d2)) (hs : PlainIx b) (hk : R2ok X.K r d1 d2 S) : Ev X B Γ (c1 + c2) (.Subscript a b pos) S :=
  ev_ixN hr (ev_sp ha) (ev_sp hb) hs fun x y e1 e2 => by subst e1; subst e2; exact hk
theorem ok_ixS {K : PySem.W.Frag} {x : Str} {i : Int} {k : Nat} (hz : x.length ≤ sizeLine) (h : atI x.cps.toList i = some k) : R2ok K rIxS (dt x) (dt i) (Sd (dt (⟨#[k]⟩ : Str))) := fun n G H u v Q vl h1 h2 q =>
  ⟨x, i, k, dp_str h1.dp, dp_int h2.dp, hz, h, q _ H G _ (.refl G H) vl rfl (.sh (.py (.str _)))⟩
theorem ev_ixS {x : Str} {i : Int} {k : Nat} (ha : Ev X B Γ c1 a (Sd (dt x))) (hb : Ev X B Γ c2 b (Sd (dt i))) (hz : x.length ≤ sizeLine) (h : atI x.cps.toList i = some k) (hs : PlainIx b := by exact fun _ _ => rfl) : Ev X B Γ (c1 + c2) (.Subscript a b pos) (Sd (dt (⟨#[k]⟩ : Str))) :=
  ev_ix ix_str ha hb hs (ok_ixS hz h)
theorem map_get {xs : List α} {j : Nat} {x : α} (h : xs[j]? = some x) : (xs.map Datum.toD)[j]? = some (Datum.toD x) := by rw [List.getElem?_map, h]; rfl
theorem dq_at {K : PySem.W.Frag} {G : Hp} {vs : List V} {xs : List α} {i : Int} {x : α} (h : DqAll K G vs (xs.map Datum.toD)) (e : atI xs i = some x) : ∃ v, atI vs i = some v ∧ Dq K G v (Datum.toD x) := by
  have hl := dpAll_len h
  rw [List.length_map] at hl
  unfold atI at e ⊢
  rw [hl]
  cases q : ixN xs.length i with
  | none => rw [q] at e; cases e
  | some j =>
    rw [q] at e
    obtain ⟨v, h1, h2⟩ := dpAll_get' h (map_get (show xs[j]? = some x from e))
    exact ⟨v, h1, h2⟩
theorem ok_ixL {K : PySem.W.Frag} {xs : List α} {i : Int} {x : α} (h : atI xs i = some x) : R2ok K (rIxL K) (dt xs) (dt i) (Sd (dt x)) := fun n G H u v Q vl h1 h2 k => by
  obtain ⟨l, vs, rfl, hl, hv⟩ := dp_list h1.dp
  obtain ⟨w, e, dw⟩ := dq_at hv h
  exact ⟨l, vs, i, w, rfl, dp_int h2.dp, .of (vl.sub.lst hl), e, k _ H G _ (.refl G H) vl rfl (.sh (.py dw))⟩
theorem ev_ixL {xs : List α} {i : Int} {x : α} (ha : Ev X B Γ c1 a (Sd (dt xs))) (hb : Ev X B Γ c2 b (Sd (dt i))) (h : atI xs i = some x) (hs : PlainIx b := by exact fun _ _ => rfl) : Ev X B Γ (c1 + c2) (.Subscript a b pos) (Sd (dt x)) := ev_ix ix_list ha hb hs (ok_ixL h)
theorem ok_ixT {K : PySem.W.Frag} {xs : Tup α} {i : Int} {x : α} (h : atI xs.items i = some x) : R2ok K (rIxT K) (dt xs) (dt i) (Sd (dt x)) := fun n G H u v Q vl h1 h2 k => by
  obtain ⟨l, vs, rfl, hl, hv⟩ := dp_tup h1.dp
  obtain ⟨w, e, dw⟩ := dq_at hv h
  exact ⟨l, vs, i, w, rfl, dp_int h2.dp, vl.sub.sqT hl, e, k _ H G _ (.refl G H) vl rfl (.sh (.py dw))⟩
theorem ev_ixT {xs : Tup α} {i : Int} {x : α} (ha : Ev X B Γ c1 a (Sd (dt xs))) (hb : Ev X B Γ c2 b (Sd (dt i))) (h : atI xs.items i = some x) (hs : PlainIx b := by exact fun _ _ => rfl) : Ev X B Γ (c1 + c2) (.Subscript a b pos) (Sd (dt x)) := ev_ix ix_tup ha hb hs (ok_ixT h)
/-- slices -/
def tPo (K : PySem.W.Frag) (B : Bs) (Γ : List Ent) (c : Nat) (o : Option Int) : TO := fun σ H Q => ∃ n G, Pre K B Γ c σ H n G ∧ ∀ H' G' n', n' ≤ n + c → Ste G H G' H' → Val n' G' H' → Q o H'
abbrev Pv (X : Cx) (B : Bs) (Γ : List Ent) (c : Nat) (e : Option Expr) (o : Option Int) : Prop := PO X e (tPo X.K B Γ c o)
theorem po_mono {X : Cx} {e : Option Expr} {t t' : TO} (h : PO X e t) (m : ∀ σ H Q, t' σ H Q → t σ H Q) : PO X e t' := ⟨fun pins s σ H Q I q => h.run pins s σ H Q I (m σ H Q q)⟩
theorem pv_no : Pv X B Γ 0 none none := po_mono po_none fun σ H Q ⟨n, G, p, k⟩ => k H G n (Nat.le_refl _) (.refl G H) p.val
theorem pv_so {i : Int} (h : Ev X B Γ c e (Sd (dt i))) : Pv X B Γ c (some e) (some i) := po_mono (po_some h) fun σ H Q ⟨n, G, p, k⟩ => ⟨n, G, p, fun v H' G' n' r hn st vl hS hr => by
  cases hS
  cases hr with | sh hr => exact ⟨i, dp_int hr.dp, k H' G' n' hn st vl⟩⟩
def Slok (K : PySem.W.Frag) (r : V → Option Int → Option Int → Hp → VK → Prop) (d : D) (lo hi : Option Int) (S : Ent → Prop) : Prop := ∀ (n : Nat) (G H : Hp) (x : V) (Q : VK), Val n G H → Den K G x d →
  (∀ v H' G' r', Ste G H G' H' → Val n G' H' → S r' → Res K H G' H' v r' → Q v H') → r x lo hi H Q
theorem ev_sl {r : V → Option Int → Option Int → Hp → VK → Prop} {lo hi : Option Expr} {l u : Option Int} (hr : SlR X r) (ha : Ev X B Γ c1 a (Sd d)) (hl : Pv X B Γ c2 lo l) (hu : Pv X B Γ c3 hi u) (hk : Slok X.K r d l u S) : Ev X B Γ (c1 + (c2 + c3)) (.Subscript a (.Slice lo hi none p2) pos) S :=
  pe_mono (pe_slice hr ha hl hu) fun σ H Q ⟨n, G, p, k⟩ => ⟨n, G, ⟨p.ok, p.val, p.ste, by have := p.lim; omega⟩, fun v H1 G1 n1 r hn st vl hS hr => by
    cases hS
    cases hr with | sh den => exact ⟨n1, G1, p.step st vl (by have := p.lim; omega), fun H2 G2 n2 hn2 st2 vl2 => ⟨n2, G2, (p.step (c' := c3) st vl (by have := p.lim; omega)).step st2 vl2 (by have := p.lim; omega), fun H3 G3 n3 hn3 st3 vl3 =>
      hk n3 G3 H3 v Q vl3 (den.sub (st2.g.trans st3.g)) fun w H4 G4 r4 st4 vl4 hS4 hr4 => k w H4 G4 n3 r4 (by omega) (st.trans (st2.trans (st3.trans st4))) vl4 hS4 (hr4.base (st.h.trans (st2.h.trans st3.h)))⟩⟩⟩
theorem ev_slS {x : Str} {lo hi : Option Expr} {l u : Option Int} (ha : Ev X B Γ c1 a (Sd (dt x))) (hl : Pv X B Γ c2 lo l) (hu : Pv X B Γ c3 hi u) (hz : x.length ≤ sizeLine) : Ev X B Γ (c1 + (c2 + c3)) (.Subscript a (.Slice lo hi none p2) pos) (Sd (dt (cutS x l u))) :=
  ev_sl sl_str ha hl hu fun n G H v Q vl h k => ⟨x, dp_str h.dp, hz, k _ H G _ (.refl G H) vl rfl (.sh (.py (.str _)))⟩
/-- a part of a list -/
def cut {α : Type} (xs : List α) (lo hi : Option Int) : List α := (xs.drop (HT.sIx xs.length 0 lo)).take (HT.sIx xs.length xs.length hi - HT.sIx xs.length 0 lo)
theorem dq_cut {K : PySem.W.Frag} {G : Hp} {vs : List V} {xs : List α} {lo hi : Option Int} (h : DqAll K G vs (xs.map Datum.toD)) : DqAll K G (cutV vs lo hi) ((cut xs lo hi).map Datum.toD) := by
  have hl := dpAll_len h
  rw [List.length_map] at hl
  unfold cutV cut
  rw [hl, List.map_take, List.map_drop]
  exact dpAll_take _ (dpAll_drop _ h)
theorem ev_slL {xs : List α} {lo hi : Option Expr} {l u : Option Int} (ha : Ev X B Γ c1 a (Sd (dt xs))) (hl : Pv X B Γ c2 lo l) (hu : Pv X B Γ c3 hi u) : Ev X B Γ (c1 + (c2 + c3)) (.Subscript a (.Slice lo hi none p2) pos) (So (dt (cut xs l u))) :=
  ev_sl sl_list ha hl hu fun n G H v Q vl h k => by
    obtain ⟨p, vs, rfl, hp, hv⟩ := dp_list h.dp
    refine ⟨p, vs, rfl, .of (vl.sub.lst hp), fun q hq => ?_⟩
    obtain ⟨s1, v1⟩ := Ste.new (o := .lst (cutV vs l u)) vl hq trivial
    exact k _ _ _ _ s1 v1 rfl (Res.newL vl hq (.py (dq_cut hv)))
theorem ev_slT {xs : Tup α} {lo hi : Option Expr} {l u : Option Int} (ha : Ev X B Γ c1 a (Sd (dt xs))) (hl : Pv X B Γ c2 lo l) (hu : Pv X B Γ c3 hi u) : Ev X B Γ (c1 + (c2 + c3)) (.Subscript a (.Slice lo hi none p2) pos) (Sd (dt (⟨cut xs.items l u⟩ : Tup α))) :=
  ev_sl sl_tupA ha hl hu fun n G H v Q vl h k => by
    obtain ⟨p, vs, rfl, hp, hv⟩ := dp_tup h.dp
    have hl := dpAll_len hv
    rw [List.length_map] at hl
    refine ⟨p, vs, rfl, vl.sub.sqT hp, fun hw => ?_, fun _ q hq => ?_⟩
    · refine k _ H G _ (.refl G H) vl rfl (.sh (.py ?_))
      have e : cut xs.items l u = xs.items := by
        unfold cut
        rw [← hl, hw.1, hw.2, hl, Nat.sub_zero, List.drop_zero, List.take_length]
      show Dq _ _ _ (.tuple ((cut xs.items l u).map Datum.toD))
      rw [e]
      exact .tup hp hv
    · obtain ⟨s1, v1⟩ := Ste.newS (o := .tup (cutV vs l u)) vl hq trivial
      exact k _ _ _ _ s1 v1 rfl (Res.newT vl hq (dq_cut hv))

/-! ### sequences put together -/
theorem ev_cat {xs ys : List α} (ha : Ev X B Γ c1 a (Sd (dt xs))) (hb : Ev X B Γ c2 b (Sd (dt ys))) (h : xs.length + ys.length ≤ sizeLine) : Ev X B Γ (c1 + c2) (.BinOp a .Add b pos) (So (dt (xs ++ ys))) := ev_op2 op_cat ha hb fun n G H u v Q vl h1 h2 k => by
  obtain ⟨p, vs, rfl, hp, hv⟩ := dp_list h1.dp
  obtain ⟨q, ws, rfl, hq, hw⟩ := dp_list h2.dp
  have l1 := dpAll_len hv
  have l2 := dpAll_len hw
  rw [List.length_map] at l1 l2
  refine ⟨p, q, vs, ws, rfl, rfl, vl.sub.lst hp, vl.sub.lst hq, by omega, fun r hr => ?_⟩
  obtain ⟨s1, v1⟩ := Ste.new (o := .lst (vs ++ ws)) vl hr trivial
  exact k _ _ _ _ s1 v1 rfl (Res.newL vl hr (.py (by rw [List.map_append]; exact dpAll_app hv hw)))
theorem ev_catT {xs ys : Tup α} (ha : Ev X B Γ c1 a (Sd (dt xs))) (hb : Ev X B Γ c2 b (Sd (dt ys))) (h : xs.items.length + ys.items.length ≤ sizeLine) : Ev X B Γ (c1 + c2) (.BinOp a .Add b pos) (Sd (dt (⟨xs.items ++ ys.items⟩ : Tup α))) := ev_op2 op_catA ha hb fun n G H u v Q vl h1 h2 k => by
  obtain ⟨p, vs, rfl, hp, hv⟩ := dp_tup h1.dp
  obtain ⟨q, ws, rfl, hq, hw⟩ := dp_tup h2.dp
  have l1 := dpAll_len hv
  have l2 := dpAll_len hw
  rw [List.length_map] at l1 l2
  have all : DqAll X.K G (vs ++ ws) ((xs.items ++ ys.items).map Datum.toD) := by rw [List.map_append]; exact dpAll_app hv hw
  refine ⟨p, q, vs, ws, rfl, rfl, vl.sub.sqT hp, vl.sub.sqT hq, by omega, fun e => ?_, fun _ e => ?_, fun _ _ r hr => ?_⟩
  · subst e
    exact k _ H G _ (.refl G H) vl rfl (.sh (.py (.tup hq all)))
  · subst e
    rw [List.append_nil] at all
    exact k _ H G _ (.refl G H) vl rfl (.sh (.py (.tup hp all)))
  · obtain ⟨s1, v1⟩ := Ste.newS (o := .tup (vs ++ ws)) vl hr trivial
    exact k _ _ _ _ s1 v1 rfl (Res.newT vl hr all)

/-! ### arguments -/
theorem av_nil : Av X B Γ 0 [] (fun l => l = []) := pa_mono pa_nil fun σ H Q ⟨n, G, p, k⟩ => k [] H G n [] (Nat.le_refl _) (.refl G H) p.val rfl .nil
theorem av_consN {S2 : List D → Prop} (ha : Ev X B Γ c1 e (Sp P)) (hr : Av X B Γ c2 es S2) (hs : starEach (e :: es) X.env = (false, eval e X.env) :: starEach es X.env := by rfl) : Av X B Γ (c1 + c2) (e :: es) (fun l => ∃ d r, l = d :: r ∧ P d ∧ S2 r) :=
  pa_mono (pa_cons ha hr hs) fun σ H Q ⟨n, G, p, k⟩ => ⟨n, G, ⟨p.ok, p.val, p.ste, by have := p.lim; omega⟩, fun v H1 G1 n1 r hn st vl hS hr => by
    obtain ⟨d, hd, rfl⟩ := hS
    cases hr with | sh den => exact ⟨n1, G1, p.step st vl (by have := p.lim; omega), fun vs H2 G2 n2 ds hn2 st2 vl2 hS2 dn => k (v :: vs) H2 G2 n2 (d :: ds) (by omega) (st.trans st2) vl2 ⟨d, ds, rfl, hd, hS2⟩ (.cons (den.sub st2.g) dn)⟩⟩
theorem av_cons {ds : List D} (ha : Ev X B Γ c1 e (Sd d)) (hr : Av X B Γ c2 es (fun l => l = ds)) (hs : starEach (e :: es) X.env = (false, eval e X.env) :: starEach es X.env := by rfl) : Av X B Γ (c1 + c2) (e :: es) (fun l => l = d :: ds) :=
  pa_mono (av_consN (ev_sp ha) hr hs) fun σ H Q ⟨n, G, p, k⟩ => ⟨n, G, p, fun vs H2 G2 n2 l hn st vl hS dn => by
    obtain ⟨x, r, rfl, rfl, rfl⟩ := hS
    exact k vs H2 G2 n2 _ hn st vl rfl dn⟩
/-! ### displays -/
theorem denAll_dq {K : PySem.W.Frag} {G : Hp} : ∀ {vs : List V} {xs : List α}, DenAll K G vs (xs.map dt) → DqAll K G vs (xs.map Datum.toD)
  | _, [], .nil => .nil
  | _, _ :: _, .cons h t => .cons h.dp (denAll_dq t)
theorem denAll_len {K : PySem.W.Frag} {G : Hp} : ∀ {vs : List V} {ds : List D}, DenAll K G vs ds → vs.length = ds.length
  | _, _, .nil => rfl
  | _, _, .cons _ t => by rw [List.length_cons, List.length_cons, denAll_len t]
/-- [e1, .., en], plain data of one type -/
theorem ev_lst {ds : List D} {xs : List α} (h : Av X B Γ c es (fun l => l = ds)) (hd : ds = xs.map dt := by rfl) (hl : xs.length ≤ sizeLine := by (simp only [List.length_cons, List.length_nil]; decide)) : Ev X B Γ c (.List es pos) (So (dt xs)) := pe_mono (pe_lst h) fun σ H Q ⟨n, G, p, k⟩ => ⟨n, G, p, fun vs H1 G1 n1 l hn st vl hS dn => by
  subst hS; subst hd
  have ln := denAll_len dn
  rw [List.length_map] at ln
  refine ⟨by omega, fun q hq => ?_⟩
  obtain ⟨s1, v1⟩ := Ste.new (o := .lst vs) vl hq trivial
  exact k _ _ _ _ _ hn (st.trans s1) v1 rfl ((Res.newL vl hq (.py (denAll_dq dn))).base st.h)⟩
/-- .. of any data -/
theorem ev_lstD {ds : List D} (h : Av X B Γ c es (fun l => l = ds)) (hl : ds.length ≤ sizeLine := by (simp only [List.length_cons, List.length_nil]; decide)) : Ev X B Γ c (.List es pos) (So (.lst ds)) := pe_mono (pe_lst h) fun σ H Q ⟨n, G, p, k⟩ => ⟨n, G, p, fun vs H1 G1 n1 l hn st vl hS dn => by
  subst hS
  have ln := denAll_len dn
  refine ⟨by omega, fun q hq => ?_⟩
  obtain ⟨s1, v1⟩ := Ste.new (o := .lst vs) vl hq trivial
  exact k _ _ _ _ _ hn (st.trans s1) v1 rfl ((Res.newL vl hq (.lst dn)).base st.h)⟩
/-- (e1, .., en): plain data -/
theorem denAll_py {K : PySem.W.Frag} {G : Hp} {vs : List V} {ps : List PyData} (h : DenAll K G vs (ps.map .py)) : DqAll K G vs ps := den_dpAll h
theorem ev_tupP {ds : List D} {ps : List PyData} (h : Av X B Γ c es (fun l => l = ds)) (hd : ds = ps.map .py) (hl : ps.length ≤ sizeLine) {k1 : Nat} : Ev X B Γ c (.Tuple es k1 pos) (Sd (.py (.tuple ps))) := pe_mono (pe_tup h) fun σ H Q ⟨n, G, p, k⟩ => ⟨n, G, p, fun vs H1 G1 n1 l hn st vl hS dn => by
  subst hS; subst hd
  have ln := denAll_len dn
  rw [List.length_map] at ln
  refine ⟨by omega, fun q hq => ?_⟩
  obtain ⟨s1, v1⟩ := Ste.newS (o := .tup vs) vl hq trivial
  exact k _ _ _ _ _ hn (st.trans s1) v1 rfl ((Res.newT vl hq (denAll_py dn)).base st.h)⟩
theorem ev_tup {ds : List D} {xs : List α} {k1 : Nat} (h : Av X B Γ c es (fun l => l = ds)) (hd : ds = xs.map dt := by rfl) (hl : xs.length ≤ sizeLine := by (simp only [List.length_cons, List.length_nil]; decide)) : Ev X B Γ c (.Tuple es k1 pos) (Sd (dt (⟨xs⟩ : Tup α))) :=
  ev_tupP (ps := xs.map Datum.toD) h (by rw [hd, List.map_map]; rfl) (by rw [List.length_map]; exact hl)
theorem ev_pair {x : α} {y : β} {k1 : Nat} (h : Av X B Γ c es (fun l => l = [dt x, dt y])) : Ev X B Γ c (.Tuple es k1 pos) (Sd (dt ((x, y) : α × β))) :=
  ev_tupP (ps := [Datum.toD x, Datum.toD y]) h rfl (by show 2 ≤ sizeLine; decide)

/-! ### calls of what is built in -/
def CRok (K : PySem.W.Frag) (r : List V → Hp → VK → Prop) (ds : List D) (S : Ent → Prop) : Prop := ∀ (n : Nat) (G H : Hp) (vs : List V) (Q : VK), Val n G H → DenAll K G vs ds →
  (∀ v H' G' r', Ste G H G' H' → Val n G' H' → S r' → Res K H G' H' v r' → Q v H') → r vs H Q
theorem cr_seq {K : PySem.W.Frag} {r : List V → Hp → VK → Prop} {ta : TA} {S2 : List D → Prop} (hr : ∀ ds, S2 ds → CRok K r ds S) (m : ∀ σ H Q, tAv K B Γ c S2 σ H Q → ta σ H Q) {σ : L2.St} {H : Hp} {Q : VK} (q : tEv K B Γ c S σ H Q) : tCB r ta σ H Q := by
  obtain ⟨n, G, p, k⟩ := q
  exact m _ _ _ ⟨n, G, p, fun vs H1 G1 n1 ds hn st vl hS dn => hr ds hS n1 G1 H1 vs Q vl dn fun v H' G' r' st' vl' hS' hr' => k v H' G' n1 r' hn (st.trans st') vl' hS' (hr'.base st.h)⟩
theorem ev_callBN {x : Str} {p : Pos} {id : String} {r : List V → Hp → VK → Prop} {S2 : List D → Prop} (hc : CallR X (.builtin id) r) (hm : X.mg x = none) (ha : Av X B Γ c (e :: es) S2) (hk : ∀ ds, S2 ds → CRok X.K r ds S) (hg : Gl X x := by rfl) (hv : bootBuiltins x = some (.builtin id) := by decide +kernel) (hn : x ≠ "__name__" := by decide) (hdb : (x == ("__debug__" : Str)) = false := by decide)
    (he : starEach (e :: es) X.env = (false, eval e X.env) :: starEach es X.env := by rfl) (hpl : (backTo pos (starEach es X.env)).any (·.1) = false := by rfl) : Ev X B Γ c (.Call (.Name x p) (e :: es) [] pos) S :=
  pe_mono (pe_callB hc hg hm hv ha hn hdb he hpl) fun σ H Q q => cr_seq hk (fun _ _ _ z => z) q
theorem ev_callB {x : Str} {p : Pos} {id : String} {r : List V → Hp → VK → Prop} {ds : List D} (hc : CallR X (.builtin id) r) (hm : X.mg x = none) (ha : Av X B Γ c (e :: es) (fun l => l = ds)) (hk : CRok X.K r ds S) (hg : Gl X x := by rfl) (hv : bootBuiltins x = some (.builtin id) := by decide +kernel) (hn : x ≠ "__name__" := by decide) (hdb : (x == ("__debug__" : Str)) = false := by decide)
    (he : starEach (e :: es) X.env = (false, eval e X.env) :: starEach es X.env := by rfl) (hpl : (backTo pos (starEach es X.env)).any (·.1) = false := by rfl) : Ev X B Γ c (.Call (.Name x p) (e :: es) [] pos) S :=
  ev_callBN hc hm ha (fun _ z => by subst z; exact hk) hg hv hn hdb he hpl
theorem ev_callTyN {x : Str} {p : Pos} {T : String} {r : List V → Hp → VK → Prop} {S2 : List D → Prop} (hc : CallR X (.type T) r) (hm : X.mg x = none) (ha : Av X B Γ c (e :: es) S2) (hk : ∀ ds, S2 ds → CRok X.K r ds S) (hg : Gl X x := by rfl) (hv : bootBuiltins x = some (.type T) := by decide +kernel) (hn : x ≠ "__name__" := by decide) (hdb : (x == ("__debug__" : Str)) = false := by decide)
    (he : starEach (e :: es) X.env = (false, eval e X.env) :: starEach es X.env := by rfl) (hpl : (backTo pos (starEach es X.env)).any (·.1) = false := by rfl) : Ev X B Γ c (.Call (.Name x p) (e :: es) [] pos) S :=
  pe_mono (pe_callTy hc hg hm hv ha hn hdb he hpl) fun σ H Q q => cr_seq hk (fun _ _ _ z => z) q
theorem ev_callTy {x : Str} {p : Pos} {T : String} {r : List V → Hp → VK → Prop} {ds : List D} (hc : CallR X (.type T) r) (hm : X.mg x = none) (ha : Av X B Γ c (e :: es) (fun l => l = ds)) (hk : CRok X.K r ds S) (hg : Gl X x := by rfl) (hv : bootBuiltins x = some (.type T) := by decide +kernel) (hn : x ≠ "__name__" := by decide) (hdb : (x == ("__debug__" : Str)) = false := by decide)
    (he : starEach (e :: es) X.env = (false, eval e X.env) :: starEach es X.env := by rfl) (hpl : (backTo pos (starEach es X.env)).any (·.1) = false := by rfl) : Ev X B Γ c (.Call (.Name x p) (e :: es) [] pos) S :=
  ev_callTyN hc hm ha (fun _ z => by subst z; exact hk) hg hv hn hdb he hpl
theorem denAll1 {K : PySem.W.Frag} {G : Hp} {vs : List V} {d : D} (h : DenAll K G vs [d]) : ∃ v, vs = [v] ∧ Den K G v d := by
  cases h with | cons h t => cases t; exact ⟨_, rfl, h⟩
theorem denAll2 {K : PySem.W.Frag} {G : Hp} {vs : List V} {d d' : D} (h : DenAll K G vs [d, d']) : ∃ v v', vs = [v, v'] ∧ Den K G v d ∧ Den K G v' d' := by
  cases h with | cons h t => cases t with | cons h2 t => cases t; exact ⟨_, _, rfl, h, h2⟩
theorem ok_lenS {K : PySem.W.Frag} {x : Str} (h : x.length ≤ sizeLine) : CRok K (fun xs H Q => ∃ z, xs = [.str z] ∧ z.length ≤ sizeLine ∧ Q (.int z.length) H) [dt x] (Sd (dt ((x.length : Nat) : Int))) := fun n G H vs Q vl hd k => by
  obtain ⟨v, rfl, h1⟩ := denAll1 hd
  rw [dp_str h1.dp]
  exact ⟨x, rfl, h, k _ H G _ (.refl G H) vl rfl (.sh (.py (.int _)))⟩
theorem ok_lenL {K : PySem.W.Frag} {xs : List α} : CRok K (fun xs H Q => ∃ p ys, xs = [.ref p] ∧ (SqL K H p ys ∨ SqT K H p ys) ∧ Q (.int ys.length) H) [dt xs] (Sd (dt ((xs.length : Nat) : Int))) := fun n G H vs Q vl hd k => by
  obtain ⟨v, rfl, h1⟩ := denAll1 hd
  obtain ⟨p, ws, rfl, hp, hw⟩ := dp_list h1.dp
  have l1 := dpAll_len hw
  rw [List.length_map] at l1
  exact ⟨p, ws, rfl, .inl (.of (vl.sub.lst hp)), by rw [l1]; exact k _ H G _ (.refl G H) vl rfl (.sh (.py (.int _)))⟩
theorem ok_lenT {K : PySem.W.Frag} {xs : Tup α} : CRok K (fun xs H Q => ∃ p ys, xs = [.ref p] ∧ (SqL K H p ys ∨ SqT K H p ys) ∧ Q (.int ys.length) H) [dt xs] (Sd (dt ((xs.items.length : Nat) : Int))) := fun n G H vs Q vl hd k => by
  obtain ⟨v, rfl, h1⟩ := denAll1 hd
  obtain ⟨p, ws, rfl, hp, hw⟩ := dp_tup h1.dp
  have l1 := dpAll_len hw
  rw [List.length_map] at l1
  exact ⟨p, ws, rfl, .inr (vl.sub.sqT hp), by rw [l1]; exact k _ H G _ (.refl G H) vl rfl (.sh (.py (.int _)))⟩
theorem ok_tupL {K : PySem.W.Frag} {xs : List α} : CRok K (fun xs H Q => ∃ p ys, xs = [.ref p] ∧ ((SqL K H p ys ∧ ∀ l, H l = none → Q (.ref l) (upd H l (.tup ys))) ∨ (SqT K H p ys ∧ Q (.ref p) H))) [dt xs] (Sd (dt (⟨xs⟩ : Tup α))) := fun n G H vs Q vl hd k => by
  obtain ⟨v, rfl, h1⟩ := denAll1 hd
  obtain ⟨p, ws, rfl, hp, hw⟩ := dp_list h1.dp
  refine ⟨p, ws, rfl, .inl ⟨.of (vl.sub.lst hp), fun l hl => ?_⟩⟩
  obtain ⟨s1, v1⟩ := Ste.newS (o := .tup ws) vl hl trivial
  exact k _ _ _ _ s1 v1 rfl (Res.newT vl hl hw)
theorem ok_lstL {K : PySem.W.Frag} {xs : List α} : CRok K (fun xs H Q => ∃ p ys, xs = [.ref p] ∧ (SqL K H p ys ∨ SqT K H p ys) ∧ ∀ l, H l = none → Q (.ref l) (upd H l (.lst ys))) [dt xs] (So (dt xs)) := fun n G H vs Q vl hd k => by
  obtain ⟨v, rfl, h1⟩ := denAll1 hd
  obtain ⟨p, ws, rfl, hp, hw⟩ := dp_list h1.dp
  refine ⟨p, ws, rfl, .inl (.of (vl.sub.lst hp)), fun l hl => ?_⟩
  obtain ⟨s1, v1⟩ := Ste.new (o := .lst ws) vl hl trivial
  exact k _ _ _ _ s1 v1 rfl (Res.newL vl hl (.py hw))
theorem ok_lstT {K : PySem.W.Frag} {xs : Tup α} : CRok K (fun xs H Q => ∃ p ys, xs = [.ref p] ∧ (SqL K H p ys ∨ SqT K H p ys) ∧ ∀ l, H l = none → Q (.ref l) (upd H l (.lst ys))) [dt xs] (So (dt xs.items)) := fun n G H vs Q vl hd k => by
  obtain ⟨v, rfl, h1⟩ := denAll1 hd
  obtain ⟨p, ws, rfl, hp, hw⟩ := dp_tup h1.dp
  refine ⟨p, ws, rfl, .inr (vl.sub.sqT hp), fun l hl => ?_⟩
  obtain ⟨s1, v1⟩ := Ste.new (o := .lst ws) vl hl trivial
  exact k _ _ _ _ s1 v1 rfl (Res.newL vl hl (.py hw))
theorem dq_bools {K : PySem.W.Frag} {G : Hp} : ∀ {vs : List V} {bs : List Bool}, DqAll K G vs (bs.map Datum.toD) → vs = bs.map V.bl
  | _, [], .nil => rfl
  | _, _ :: _, .cons h t => by rw [List.map_cons, dp_bool h, dq_bools t]
theorem dq_ints {K : PySem.W.Frag} {G : Hp} : ∀ {vs : List V} {bs : List Int}, DqAll K G vs (bs.map Datum.toD) → vs = bs.map V.int
  | _, [], .nil => rfl
  | _, _ :: _, .cons h t => by rw [List.map_cons, dp_int h, dq_ints t]
theorem dq_strs {K : PySem.W.Frag} {G : Hp} : ∀ {vs : List V} {bs : List Str}, DqAll K G vs (bs.map Datum.toD) → vs = bs.map V.str
  | _, [], .nil => rfl
  | _, _ :: _, .cons h t => by rw [List.map_cons, dp_str h, dq_strs t]
theorem ok_all {K : PySem.W.Frag} {bs : List Bool} : CRok K (rAll K) [dt bs] (Sd (dt (bs.all id))) := fun n G H vs Q vl hd k => by
  obtain ⟨v, rfl, h1⟩ := denAll1 hd
  obtain ⟨p, ws, rfl, hp, hw⟩ := dp_list h1.dp
  exact ⟨p, bs, rfl, .of (by rw [← dq_bools hw]; exact vl.sub.lst hp), k _ H G _ (.refl G H) vl rfl (.sh (.py (.bl _)))⟩
theorem ok_any {K : PySem.W.Frag} {bs : List Bool} : CRok K (rAny K) [dt bs] (Sd (dt (bs.any id))) := fun n G H vs Q vl hd k => by
  obtain ⟨v, rfl, h1⟩ := denAll1 hd
  obtain ⟨p, ws, rfl, hp, hw⟩ := dp_list h1.dp
  exact ⟨p, bs, rfl, .of (by rw [← dq_bools hw]; exact vl.sub.lst hp), k _ H G _ (.refl G H) vl rfl (.sh (.py (.bl _)))⟩
theorem ok_sum {K : PySem.W.Frag} {bs : List Int} : CRok K (rSum K) [dt bs] (Sd (dt bs.sum)) := fun n G H vs Q vl hd k => by
  obtain ⟨v, rfl, h1⟩ := denAll1 hd
  obtain ⟨p, ws, rfl, hp, hw⟩ := dp_list h1.dp
  exact ⟨p, bs, rfl, .of (by rw [← dq_ints hw]; exact vl.sub.lst hp), k _ H G _ (.refl G H) vl rfl (.sh (.py (.int _)))⟩
end
end DL
end

section
set_option Elab.async false
set_option linter.all false
set_option maxRecDepth 100000
set_option maxHeartbeats 4000000
set_option autoImplicit false
/-! DlF: walks, targets, comprehensions. -/
namespace DL
open PySem PySem.Spec PyProof.Rows L2 PySem.W PySem.SeqAt
variable [Wd]
/-! ### walks -/
/-- J walks the data xs, which G holds -/
def IsWalk (K : PySem.W.Frag) (J : It) (xs : List D) (G : Hp) : Prop :=
  Walk J xs.length (fun H => LSub G H) (fun i H v H' => ∀ n G', Sub G G' → Val n G' H → ∃ d, xs[i]? = some d ∧ ∃ G1, Ste G' H G1 H' ∧ Val n G1 H' ∧ Den K G1 v d)
def tIt (K : PySem.W.Frag) (B : Bs) (Γ : List Ent) (c : Nat) (S : List D → Prop) : TI := fun σ H R => ∃ n G, Pre K B Γ c σ H n G ∧
  ∀ J H' G' n' xs, n' ≤ n + c → Ste G H G' H' → Val n' G' H' → S xs → IsWalk K J xs G' → xs.length ≤ sizeLine → R J H'
abbrev Iv (X : Cx) (B : Bs) (Γ : List Ent) (c : Nat) (tg iter : Expr) (S : List D → Prop) : Prop := PI X tg iter (tIt X.K B Γ c S)
theorem pi_mono {X : Cx} {tg e : Expr} {t t' : TI} (h : PI X tg e t) (m : ∀ σ H R, t' σ H R → t σ H R) : PI X tg e t' := ⟨fun pins s σ H R I q => h.run pins s σ H R I (m σ H R q)⟩
/-- a target's store -/
def TgOk (K : PySem.W.Frag) (g : TG) (vs : List Nat) (Γ : List Ent) (d : D) (Γ' : List Ent) : Prop := ∀ (H0 G : Hp) (σ : L2.St) (H : Hp) (x : V) (Q : L2.St → Hp → Prop), Ok K H0 Γ G σ H → LSub G H → Den K G x d →
  (∀ σ', Ok K H0 Γ' G σ' H → wipe σ' vs = wipe σ vs → Q σ' H) → g x σ H Q
section
variable {K : PySem.W.Frag} {G H : Hp} {Γ : List Ent} {σ : L2.St} {H0 : Hp}
theorem wipe_set {i : Nat} {v : Option V} : ∀ {vs : List Nat} {σ : L2.St}, i ∈ vs → wipe (σ.set i v) vs = wipe σ vs
  | j :: vs, σ, h => by
    show (wipe (σ.set i v) vs).set j none = (wipe σ vs).set j none
    by_cases e : i ∈ vs
    · rw [wipe_set e]
    · have ij : i = j := by
        rcases List.mem_cons.mp h with h | h
        · exact h
        · exact absurd h e
      subst ij
      have : ∀ (ws : List Nat) (τ : L2.St), i ∉ ws → wipe (τ.set i v) ws = (wipe τ ws).set i v := by
        intro ws
        induction ws with
        | nil => intro τ _; rfl
        | cons k ws ih =>
          intro τ hk
          show (wipe (τ.set i v) ws).set k none = ((wipe τ ws).set k none).set i v
          rw [ih τ (fun z => hk (List.mem_cons_of_mem _ z))]
          exact List.set_comm _ _ (fun z => hk (by rw [z]; exact List.mem_cons_self))
      rw [this vs σ e, List.set_set]
theorem wipe_wipe : ∀ (vs : List Nat) (σ : L2.St), wipe (wipe σ vs) vs = wipe σ vs := by
  have key : ∀ (ws vs : List Nat) (σ : L2.St), (∀ i ∈ ws, i ∈ vs) → wipe (wipe σ ws) vs = wipe σ vs := by
    intro ws
    induction ws with
    | nil => intro vs σ _; rfl
    | cons k ws ih =>
      intro vs σ h
      show wipe ((wipe σ ws).set k none) vs = _
      rw [wipe_set (h k List.mem_cons_self), ih vs σ fun i hi => h i (List.mem_cons_of_mem _ hi)]
  exact fun vs σ => key vs vs σ fun _ h => h
/-- the slots of a comprehension's own names forgotten -/
def wipeE (Γ : List Ent) : List Nat → List Ent
  | [] => Γ
  | v :: vs => (wipeE Γ vs).set v .no
theorem Ok.drop {i : Nat} (k : Ok K H0 Γ G σ H) {v : Option V} : Ok K H0 (Γ.set i .no) G (σ.set i v) H := by
  have ne : ∀ (j : Nat) (r : Ent), (Γ.set i .no)[j]? = some r → r ≠ .no → j ≠ i ∧ Γ[j]? = some r := fun j r e hr => by
    by_cases h : i = j
    · subst h
      by_cases hl : i < Γ.length
      · rw [List.getElem?_set_self hl] at e; cases e; exact absurd rfl hr
      · rw [List.getElem?_eq_none (by rw [List.length_set]; omega)] at e; cases e
    · rw [List.getElem?_set_ne h] at e
      exact ⟨fun z => h z.symm, e⟩
  refine ⟨fun j d e => ?_, fun j d e => ?_, fun j l d d' e e' hne => ?_, by rw [List.length_set, List.length_set]; exact k.ln⟩
  · obtain ⟨h1, h2⟩ := ne j _ e (by intro z; cases z)
    obtain ⟨v', h3, h4⟩ := k.sh j d h2
    exact ⟨v', by rw [List.getElem?_set_ne (Ne.symm h1)]; exact h3, h4⟩
  · obtain ⟨h1, h2⟩ := ne j _ e (by intro z; cases z)
    obtain ⟨a, o, h3, h4⟩ := k.ow j d h2
    exact ⟨a, o, by rw [List.getElem?_set_ne (Ne.symm h1)]; exact h3, h4⟩
  · obtain ⟨h1, h2⟩ := ne j _ e (by intro z; cases z)
    obtain ⟨h3, h4⟩ := ne l _ e' (by intro z; cases z)
    rw [List.getElem?_set_ne (Ne.symm h1), List.getElem?_set_ne (Ne.symm h3)]
    exact k.dj j l d d' h2 h4 hne
theorem Ok.wipe (k : Ok K H0 Γ G σ H) : ∀ vs : List Nat, Ok K H0 (wipeE Γ vs) G (L2.wipe σ vs) H
  | [] => k
  | v :: vs => (Ok.wipe k vs).drop
/-- shared data is stored -/
theorem Ok.put {i : Nat} {x : V} {d : D} (k : Ok K H0 Γ G σ H) (den : Den K G x d) : Ok K H0 (Γ.set i (.sh d)) G (σ.set i (some x)) H := by
  have kk := k.drop (i := i) (v := some x)
  have ne : ∀ (j : Nat) (r : Ent), (Γ.set i (.sh d))[j]? = some r → r ≠ .sh d ∨ j ≠ i → (Γ.set i .no)[j]? = some r := fun j r e hr => by
    by_cases h : i = j
    · subst h
      by_cases hl : i < Γ.length
      · rw [List.getElem?_set_self hl] at e; cases e
        rcases hr with z | z
        · exact absurd rfl z
        · exact absurd rfl z
      · rw [List.getElem?_eq_none (by rw [List.length_set]; omega)] at e; cases e
    · rw [List.getElem?_set_ne h] at e ⊢
      exact e
  refine ⟨fun j e' h => ?_, fun j e' h => kk.ow j e' (ne j _ h (.inl (by intro z; cases z))), fun j l d1 d2 h h' hne => kk.dj j l d1 d2 (ne j _ h (.inl (by intro z; cases z))) (ne l _ h' (.inl (by intro z; cases z))) hne, by rw [List.length_set, List.length_set]; exact k.ln⟩
  by_cases hj : j = i
  · subst hj
    by_cases hl : j < Γ.length
    · rw [List.getElem?_set_self hl] at h; cases h
      exact ⟨x, by rw [List.getElem?_set_self (by rw [← k.ln]; exact hl)], den⟩
    · rw [List.getElem?_eq_none (by rw [List.length_set]; omega)] at h; cases h
  · exact kk.sh j e' (ne j _ h (.inr hj))
theorem tg_name {i : Nat} {vs : List Nat} {d : D} (hi : i ∈ vs) : TgOk K (gName i) vs Γ d (Γ.set i (.sh d)) := fun H0 G σ H x Q k sb den q => q _ (k.put den) (wipe_set hi)
theorem tg_pair {i j : Nat} {vs : List Nat} {α β : Type} [DecidableEq α] [Datum α] [DecidableEq β] [Datum β] {p : α × β} (hi : i ∈ vs) (hj : j ∈ vs) : TgOk K (gTup K 2 (gCons (gName i) (gCons (gName j) gNil))) vs Γ (dt p) ((Γ.set i (.sh (dt p.1))).set j (.sh (dt p.2))) := fun H0 G σ H x Q k sb den q => by
  obtain ⟨a, v1, v2, rfl, ht, h1, h2⟩ := dp_pair den.dp
  exact ⟨a, _, rfl, sb.sqT ht, rfl, v1, _, rfl, v2, _, rfl, rfl, q _ ((k.put (.py h1)).put (.py h2)) (by rw [wipe_set hj, wipe_set hi])⟩
end
/-- what a comprehension makes: T the test, S the element -/
inductive LcRel {ι : Type} (T : ι → Bool → Prop) (S : ι → D → Prop) : List ι → List D → Prop
  | nil : LcRel T S [] []
  | keep {d : ι} {y : D} {ds : List ι} {ys : List D} : T d true → S d y → LcRel T S ds ys → LcRel T S (d :: ds) (y :: ys)
  | skip {d : ι} {ds : List ι} {ys : List D} : T d false → LcRel T S ds ys → LcRel T S (d :: ds) ys
theorem LcRel.snoc_keep {ι : Type} {T : ι → Bool → Prop} {S : ι → D → Prop} {d : ι} {y : D} (t : T d true) (s : S d y) : ∀ {ds : List ι} {ys : List D}, LcRel T S ds ys → LcRel T S (ds ++ [d]) (ys ++ [y])
  | _, _, .nil => .keep t s .nil
  | _, _, .keep t' s' r => .keep t' s' (r.snoc_keep t s)
  | _, _, .skip t' r => .skip t' (r.snoc_keep t s)
theorem LcRel.snoc_skip {ι : Type} {T : ι → Bool → Prop} {S : ι → D → Prop} {d : ι} (t : T d false) : ∀ {ds : List ι} {ys : List D}, LcRel T S ds ys → LcRel T S (ds ++ [d]) ys
  | _, _, .nil => .skip t .nil
  | _, _, .keep t' s' r => .keep t' s' (r.snoc_skip t)
  | _, _, .skip t' r => .skip t' (r.snoc_skip t)
theorem denAll_app {K : PySem.W.Frag} {G : Hp} : ∀ {vs ws : List V} {ds es : List D}, DenAll K G vs ds → DenAll K G ws es → DenAll K G (vs ++ ws) (ds ++ es)
  | _, _, _, _, .nil, h => h
  | _, _, _, _, .cons h t, g => .cons h (denAll_app t g)
theorem take_next {ι : Type} {xs : List ι} {i : Nat} {d : ι} (h : xs[i]? = some d) : xs.take (i + 1) = xs.take i ++ [d] := by
  obtain ⟨h1, h2⟩ := List.getElem?_eq_some_iff.mp h
  rw [List.take_succ, h]; rfl
section
variable {X : Cx} {B : Bs} {Γ : List Ent} {c0 c1 c2 : Nat} {elt tg iter : Expr} {ifs : List Expr} {scope : Scope} {own : List (Str × Nat)} {pos : Pos} {g : TG} {ι : Type} {enc : ι → D} {T : ι → Bool → Prop} {S : ι → D → Prop} {S0 : List ι → Prop} {Γ' : ι → List Ent}
/-- what is done with an iterator -/
theorem lc_core {K : PySem.W.Frag} {tt : TT} {te : TE} {vs : List Nat} {σ : L2.St} {H1 G1 : Hp} {n1 : Nat} {Q : VK} {J : It} {xs : List ι} (htg : ∀ d, TgOk K g vs (wipeE Γ vs) (enc d) (Γ' d))
    (ht : ∀ d ∈ xs, ∀ σ H Q, tTv K B (Γ' d) c1 (T d) σ H Q → tt σ H Q) (he : ∀ d ∈ xs, T d true → ∀ σ H Q, tEv K B (Γ' d) c2 (Sp (S d)) σ H Q → te σ H Q)
    (p : Pre K B Γ (sizeLine * (c1 + c2)) σ H1 n1 G1) (W : IsWalk K J (xs.map enc) G1) (hxs : xs.length ≤ sizeLine)
    (k : ∀ v H' G' n' r, n' ≤ n1 + sizeLine * (c1 + c2) → Ste G1 H1 G' H' → Val n' G' H' → (∃ ys, LcRel T S xs ys ∧ r = .ow (.lst ys)) → Res K H1 G' H' v r → Q v H') : tLc (fun σ H R => R J H) g tt te vs σ H1 Q := by
  intro D hD
  unfold IsWalk at W
  rw [List.length_map] at W
  have vl1 := p.val
  have g1D : G1 D = none := vl1.sub.out hD
  have l0 := p.lim
  refine lc_it W (Pv := fun i H2 => ∃ n2 G2 acc ys, Ste G1 H1 G2 H2 ∧ Val n2 G2 H2 ∧ n2 ≤ n1 + i * (c1 + c2) ∧ H2 D = some (.lst acc) ∧ G2 D = none ∧ DenAll K G2 acc ys ∧ LcRel T S (xs.take i) ys ∧ acc.length ≤ i) ?_ ?_ ?_ ?_
  · obtain ⟨s1, v1⟩ := Ste.new (o := .lst []) vl1 hD trivial
    exact ⟨n1, G1, [], [], s1, v1, by omega, upd_same, g1D, .nil, by rw [List.take_zero]; exact .nil, Nat.le_refl _⟩
  · rintro i H2 _ ⟨n2, G2, acc, ys, s2, v2, _⟩
    exact s2.g.trans v2.sub
  · rintro i x H2 H3 hi ⟨n2, G2, acc, ys, s2, v2, hn2, hD2, hG2, dn, rel, hl⟩ hy
    obtain ⟨d0, hd0, G3, s3, v3, den⟩ := hy n2 G2 s2.g v2
    obtain ⟨d, hd, rfl⟩ : ∃ d, xs[i]? = some d ∧ enc d = d0 := by
      rw [List.getElem?_map] at hd0
      cases e : xs[i]? with
      | none => rw [e] at hd0; cases hd0
      | some z => rw [e] at hd0; exact ⟨z, rfl, Option.some.inj hd0⟩
    have hmem : d ∈ xs := List.mem_of_getElem? hd
    have hD3 : H3 D = some (.lst acc) := by
      obtain ⟨o', e, l⟩ := s3.h D _ hD2
      cases l.lst; exact e
    have hG3 : G3 D = none := s3.f D _ hG2 hD2 id
    have mulle : i * (c1 + c2) + (c1 + c2) ≤ sizeLine * (c1 + c2) := by
      rw [← Nat.succ_mul]
      exact Nat.mul_le_mul_right _ (by omega)
    have ok3 : Ok K B.H (wipeE Γ vs) G3 (wipe σ vs) H3 := (p.ok.wipe vs).step (s2.trans s3)
    refine htg d B.H G3 _ H3 x _ ok3 v3.sub den fun σ' ok4 hw => ⟨by rw [hw, wipe_wipe], ?_⟩
    refine ht d hmem σ' H3 _ ⟨n2, G3, ⟨ok4, v3, p.ste.trans (s2.trans s3), by omega⟩, fun b H4 G4 n4 hn4 s4 v4 hb => ?_⟩
    have hD4 : H4 D = some (.lst acc) := by
      obtain ⟨o', e, l⟩ := s4.h D _ hD3
      cases l.lst; exact e
    have hG4 : G4 D = none := s4.f D _ hG3 hD3 id
    cases b with
    | false =>
      refine iteF ?_
      exact ⟨n4, G4, acc, ys, s2.trans (s3.trans s4), v4, by rw [Nat.succ_mul]; omega, hD4, hG4, dn.sub (s3.g.trans s4.g), by rw [take_next hd]; exact rel.snoc_skip hb, by omega⟩
    | true =>
      refine iteT ?_
      refine he d hmem hb σ' H4 _ ⟨n4, G4, ⟨ok4.step s4, v4, p.ste.trans (s2.trans (s3.trans s4)), by omega⟩, fun y H5 G5 n5 r hn5 s5 v5 hS hr => ?_⟩
      obtain ⟨yd, hyd, rfl⟩ := hS
      cases hr with | sh hr =>
      have hD5 : H5 D = some (.lst acc) := by
        obtain ⟨o', e, l⟩ := s5.h D _ hD4
        cases l.lst; exact e
      have hG5 : G5 D = none := s5.f D _ hG4 hD4 id
      refine ⟨acc, hD5, by omega, n5, G5, acc ++ [y], ys ++ [yd], ?_, ?_, by rw [Nat.succ_mul]; omega, upd_same, hG5, denAll_app (dn.sub (s3.g.trans (s4.g.trans s5.g))) (.cons hr .nil), by rw [take_next hd]; exact rel.snoc_keep hb hyd, by rw [List.length_append]; simp; omega⟩
      · refine ⟨s2.g.trans (s3.g.trans (s4.g.trans s5.g)), fun a o e => ?_, fun a o h1 h2 h3 => ?_⟩
        · have : a ≠ D := fun z => by subst z; rw [hD] at e; cases e
          rw [upd_ne this]
          exact (s2.h.trans (s3.h.trans (s4.h.trans s5.h))) a o e
        · exact (s2.trans (s3.trans (s4.trans s5))).f a o h1 h2 h3
      · refine ⟨fun a o e => ?_, fun a m e => ?_, mm_write hD5 (id : ¬ IsTp (.lst acc)) (fun k e => by cases e) v5⟩
        · have : a ≠ D := fun z => by subst z; rw [hG5] at e; cases e
          rw [upd_ne this]; exact v5.sub a o e
        · by_cases ha : a = D
          · subst ha; rw [upd_same] at e; exact absurd (Option.some.inj e) (pu_of_notPu trivial)
          · rw [upd_ne ha] at e; exact v5.pb a m e
  · rintro H2 ⟨n2, G2, acc, ys, s2, v2, hn2, hD2, hG2, dn, rel, hl⟩
    rw [List.take_length] at rel
    refine k _ H2 G2 n2 _ ?_ s2 v2 ⟨ys, rel, rfl⟩ (.ow hD hG2 hD2 (.lst dn))
    have : xs.length * (c1 + c2) ≤ sizeLine * (c1 + c2) := Nat.mul_le_mul_right _ hxs
    omega
/-- one 'for': the reading -/
theorem lc_read {K : PySem.W.Frag} {tt : TT} {te : TE} {vs : List Nat} {σ : L2.St} {H : Hp} {Q : VK} (htg : ∀ d, TgOk K g vs (wipeE Γ vs) (enc d) (Γ' d))
    (ht : ∀ xs, S0 xs → ∀ d ∈ xs, ∀ σ H Q, tTv K B (Γ' d) c1 (T d) σ H Q → tt σ H Q) (he : ∀ xs, S0 xs → ∀ d ∈ xs, T d true → ∀ σ H Q, tEv K B (Γ' d) c2 (Sp (S d)) σ H Q → te σ H Q)
    (q : tEv K B Γ (c0 + sizeLine * (c1 + c2)) (fun r => ∃ xs ys, S0 xs ∧ LcRel T S xs ys ∧ r = .ow (.lst ys)) σ H Q) : tLc (tIt K B Γ c0 fun l => ∃ xs, S0 xs ∧ l = xs.map enc) g tt te vs σ H Q := by
  obtain ⟨n, G, p, k⟩ := q
  refine ⟨n, G, ⟨p.ok, p.val, p.ste, by have := p.lim; omega⟩, fun J H1 G1 n1 l hn1 st1 vl1 hS0 W hxs => ?_⟩
  obtain ⟨xs, hS0, rfl⟩ := hS0
  rw [List.length_map] at hxs
  have l0 := p.lim
  exact lc_core (J := J) (xs := xs) htg (ht xs hS0) (he xs hS0) (p.step st1 vl1 (by omega)) W hxs fun v H' G' n' r h1 h2 h3 ⟨ys, h4, h5⟩ h6 => k v H' G' n' r (by omega) (st1.trans h2) h3 ⟨xs, ys, hS0, h4, h5⟩ (h6.base st1.h)
theorem ev_lc (hc : X.calm = true) (hN : X.N.Nodup) (hi : Iv X B Γ c0 tg iter fun l => ∃ xs, S0 xs ∧ l = xs.map enc) (ok : BlkOk X.N X.env.scope scope own) (htg : ∀ d, TgOk X.K g (own.map (·.2)) (wipeE Γ (own.map (·.2))) (enc d) (Γ' d))
    (hg : ∀ (s : Shared) (H : Hp) (C : Addr) (cl : List (Str × Addr)) (fp : List Addr), PG (X.blk s H scope (compEnvC scope cl C X.env) fp) tg g)
    (ht : ∀ xs, S0 xs → ∀ d ∈ xs, ∀ (s : Shared) (H : Hp) (C : Addr) (cl : List (Str × Addr)) (fp : List Addr), PTs (X.blk s H scope (compEnvC scope cl C X.env) fp) ifs (tTv X.K B (Γ' d) c1 (T d)))
    (he : ∀ xs, S0 xs → ∀ d ∈ xs, T d true → ∀ (s : Shared) (H : Hp) (C : Addr) (cl : List (Str × Addr)) (fp : List Addr), PE (X.blk s H scope (compEnvC scope cl C X.env) fp) elt (tEv X.K B (Γ' d) c2 (Sp (S d))))
    (hs : ∀ x, foldedSetIterable iter X.env x = pure x := by intro _; rfl) :
    Ev X B Γ (c0 + sizeLine * (c1 + c2)) (.ListComp elt [⟨tg, iter, ifs, 0⟩] scope pos) (fun r => ∃ xs ys, S0 xs ∧ LcRel T S xs ys ∧ r = .ow (.lst ys)) := by
  have ht' : ∀ (s : Shared) (H : Hp) (C : Addr) (cl : List (Str × Addr)) (fp : List Addr), PTs (X.blk s H scope (compEnvC scope cl C X.env) fp) ifs (fun σ H Q => ∃ xs d, S0 xs ∧ d ∈ xs ∧ tTv X.K B (Γ' d) c1 (T d) σ H Q) := fun s H C cl fp =>
    ⟨fun pins s' σ H' Q I ⟨xs, d, h0, h1, h2⟩ => (ht xs h0 d h1 s H C cl fp).run pins s' σ H' Q I h2⟩
  have he' : ∀ (s : Shared) (H : Hp) (C : Addr) (cl : List (Str × Addr)) (fp : List Addr), PE (X.blk s H scope (compEnvC scope cl C X.env) fp) elt (fun σ H Q => ∃ xs d, S0 xs ∧ d ∈ xs ∧ T d true ∧ tEv X.K B (Γ' d) c2 (Sp (S d)) σ H Q) := fun s H C cl fp =>
    ⟨fun pins s' σ H' Q I ⟨xs, d, h0, h1, h2, h3⟩ => (he xs h0 d h1 h2 s H C cl fp).run pins s' σ H' Q I h3⟩
  exact pe_mono (pe_lc hc hN hi ok hg ht' he' hs) fun σ H Q q => lc_read htg (fun xs h0 d h1 σ H Q z => ⟨xs, d, h0, h1, z⟩) (fun xs h0 d h1 h2 σ H Q z => ⟨xs, d, h0, h1, h2, z⟩) q
end
end DL
end

section
set_option Elab.async false
set_option linter.all false
set_option maxRecDepth 100000
set_option maxHeartbeats 4000000
set_option autoImplicit false
/-! DlG: comprehensions of typed data, what is walked. -/
namespace DL
open PySem PySem.Spec PyProof.Rows L2 PySem.W PySem.SeqAt
variable [Wd]
section
variable {X : Cx} {B : Bs} {Γ : List Ent} {c c0 c1 c2 : Nat} {elt tg iter e : Expr} {es ifs : List Expr} {scope : Scope} {own : List (Str × Nat)} {pos p2 : Pos} {S : Ent → Prop} {α β γ : Type} [DecidableEq α] [Datum α] [DecidableEq β] [Datum β] [DecidableEq γ] [Datum γ]
/-! ### what is walked -/
theorem denAll_get {K : PySem.W.Frag} {G : Hp} : ∀ {vs : List V} {ds : List D} {i : Nat} {v : V}, DenAll K G vs ds → vs[i]? = some v → ∃ d, ds[i]? = some d ∧ Den K G v d
  | _, _, _, _, .nil, e => by simp at e
  | _, _, 0, _, .cons h t, e => by simp at e; subst e; exact ⟨_, rfl, h⟩
  | _, _, i + 1, _, .cons h t, e => by
    obtain ⟨d, h1, h2⟩ := denAll_get (i := i) t (by simpa using e)
    exact ⟨d, by simpa using h1, h2⟩
/-- sequences are not too long -/
theorem pe_size {t : TE} (h : PE X e t) : PE X e (fun σ H Q => t σ H fun v H1 => ((∀ a xs, v = .ref a → SqL X.K H1 a xs → xs.length ≤ sizeLine) ∧ (∀ a xs, v = .ref a → SqT X.K H1 a xs → xs.length ≤ sizeLine)) → Q v H1) := ⟨fun pins s σ H Q I q =>
  thn (h.run pins s σ H _ I q) fun u s1 ⟨v, H1, I1, r1, q1⟩ => ⟨v, H1, I1, r1, q1 ⟨fun a xs _ hs => (I1.list hs).choose_spec.2.2, fun a xs _ hs => (I1.tuple hs).choose_spec.2.2⟩⟩⟩
theorem isWalk_of {K : PySem.W.Frag} {J : It} {n : Nat} {G : Hp} {ds : List D} {vs : List V} {Gp : Hp → Prop} (w : Walk J n Gp (YAt vs)) (hn : n = ds.length) (hG : ∀ H, LSub G H → Gp H) (hd : DenAll K G vs ds) : IsWalk K J ds G := by
  subst hn
  refine w.mono hG fun i H x H' hi sb y n G' s v => ?_
  obtain ⟨rfl, hx⟩ := y
  obtain ⟨d, h1, h2⟩ := denAll_get hd hx
  exact ⟨d, h1, G', .refl _ _, v, h2.sub s⟩
theorem dq_denAll {K : PySem.W.Frag} {G : Hp} : ∀ {vs : List V} {xs : List α}, DqAll K G vs (xs.map Datum.toD) → DenAll K G vs (xs.map dt)
  | _, [], .nil => .nil
  | _, _ :: _, .cons h t => .cons (.py h) (dq_denAll t)
theorem ev_size (h : Ev X B Γ c e S) : PE X e (fun σ H Q => ∃ n G, Pre X.K B Γ c σ H n G ∧ ∀ v H' G' n' r, n' ≤ n + c → Ste G H G' H' → Val n' G' H' → S r → Res X.K H G' H' v r → (∀ a xs, v = .ref a → SqL X.K H' a xs → xs.length ≤ sizeLine) → (∀ a xs, v = .ref a → SqT X.K H' a xs → xs.length ≤ sizeLine) → Q v H') :=
  pe_mono (pe_size h) fun σ H Q ⟨n, G, p, k⟩ => ⟨n, G, p, fun v H' G' n' r h1 h2 h3 h4 h5 h6 => k v H' G' n' r h1 h2 h3 h4 h5 h6.1 h6.2⟩
theorem iv_listN {P : List α → Prop} (h : Ev X B Γ c e (Sp fun d => ∃ xs, P xs ∧ d = dt xs)) : Iv X B Γ c tg e (fun l => ∃ xs, P xs ∧ l = xs.map dt) := pi_mono (pi_list (ev_size h)) fun σ H R ⟨n, G, p, k⟩ => ⟨n, G, p, fun v H1 G1 n1 r hn st vl hS hr z1 z2 => by
  obtain ⟨d, ⟨xs, hP, rfl⟩, rfl⟩ := hS
  cases hr with | sh den =>
  obtain ⟨a, vs, rfl, ha, hv⟩ := dp_list den.dp
  have hl := dpAll_len hv
  rw [List.length_map] at hl
  have hm : ∀ H, LSub G1 H → SqL X.K H a vs := fun H s => .of (s.lst ha)
  have hz := z1 a vs rfl (hm H1 vl.sub)
  refine ⟨a, rfl, ⟨vs, hm H1 vl.sub⟩, ?_⟩
  exact k _ H1 G1 n1 _ hn st vl ⟨xs, hP, rfl⟩ (isWalk_of (walk_list (K := X.K) (a := a) (xs := vs)) (by rw [List.length_map]; exact hl) hm (dq_denAll hv)) (by rw [List.length_map, ← hl]; exact hz)⟩
theorem iv_list {xs : List α} (h : Ev X B Γ c e (Sd (dt xs))) : Iv X B Γ c tg e (fun l => ∃ ys, ys = xs ∧ l = ys.map dt) := iv_listN (P := fun ys => ys = xs) (ev_weak h (fun r q => ⟨dt xs, ⟨xs, rfl, rfl⟩, q⟩) (Nat.le_refl _))
theorem iv_tupN {P : List α → Prop} (h : Ev X B Γ c e (Sp fun d => ∃ xs, P xs ∧ d = dt (⟨xs⟩ : Tup α))) : Iv X B Γ c tg e (fun l => ∃ xs, P xs ∧ l = xs.map dt) := pi_mono (pi_tup (ev_size h)) fun σ H R ⟨n, G, p, k⟩ => ⟨n, G, p, fun v H1 G1 n1 r hn st vl hS hr z1 z2 => by
  obtain ⟨d, ⟨xs, hP, rfl⟩, rfl⟩ := hS
  cases hr with | sh den =>
  obtain ⟨a, vs, rfl, ha, hv⟩ := dp_tup den.dp
  have hl := dpAll_len hv
  rw [List.length_map] at hl
  have hm : ∀ H, LSub G1 H → SqT X.K H a vs := fun H s => s.sqT ha
  have hz := z2 a vs rfl (hm H1 vl.sub)
  refine ⟨a, rfl, ⟨vs, hm H1 vl.sub⟩, ?_⟩
  exact k _ H1 G1 n1 _ hn st vl ⟨xs, hP, rfl⟩ (isWalk_of (walk_tup (K := X.K) (a := a) (xs := vs)) (by rw [List.length_map]; exact hl) hm (dq_denAll hv)) (by rw [List.length_map, ← hl]; exact hz)⟩
theorem iv_tup {xs : Tup α} (h : Ev X B Γ c e (Sd (dt xs))) : Iv X B Γ c tg e (fun l => ∃ ys, ys = xs.items ∧ l = ys.map dt) := iv_tupN (P := fun ys => ys = xs.items) (ev_weak h (fun r q => ⟨dt xs, ⟨xs.items, rfl, by cases xs; rfl⟩, q⟩) (Nat.le_refl _))
/-- a list of any data -/
theorem iv_D {ds : List D} (h : Ev X B Γ c e (Sd (.lst ds))) : Iv X B Γ c tg e (fun l => ∃ ys, ys = ds ∧ l = ys.map id) := pi_mono (pi_list (ev_size h)) fun σ H R ⟨n, G, p, k⟩ => ⟨n, G, p, fun v H1 G1 n1 r hn st vl hS hr z1 z2 => by
  cases hS
  cases hr with | sh den =>
  cases den with | @lst a vs _ ha hv =>
  have hl := denAll_len hv
  have hm : ∀ H, LSub G1 H → SqL X.K H a vs := fun H s => .of (s.lst ha)
  have hz := z1 a vs rfl (hm H1 vl.sub)
  refine ⟨a, rfl, ⟨vs, hm H1 vl.sub⟩, ?_⟩
  exact k _ H1 G1 n1 _ hn st vl ⟨ds, rfl, (List.map_id ds).symm⟩ (isWalk_of (walk_list (K := X.K) (a := a) (xs := vs)) hl hm hv) (by omega)⟩
/-- the signs of a text -/
def signs (x : Str) : List Str := x.cps.toList.map fun k => ⟨#[k]⟩
theorem iv_str {x : Str} (h : Ev X B Γ c e (Sd (dt x))) (hz : x.length ≤ sizeLine) : Iv X B Γ c tg e (fun l => ∃ ys, ys = signs x ∧ l = ys.map dt) := pi_mono (pi_str h) fun σ H R ⟨n, G, p, k⟩ => ⟨n, G, p, fun v H1 G1 n1 r hn st vl hS hr => by
  cases hS
  cases hr with | sh den =>
  refine ⟨x, dp_str den.dp, k _ H1 G1 n1 _ hn st vl ⟨signs x, rfl, rfl⟩ ?_ (by rw [List.length_map]; unfold signs; rw [List.length_map]; exact hz)⟩
  have hlen : ((signs x).map (dt (α := Str))).length = x.cps.size := by unfold signs; rw [List.length_map, List.length_map, Array.length_toList]
  unfold IsWalk
  rw [hlen]
  refine (walk_str (z := x)).mono (fun _ _ => trivial) fun i H v H' hi sb y n G' s vl' => ?_
  obtain ⟨rfl, q, hq, rfl⟩ := y
  refine ⟨dt (⟨#[q]⟩ : Str), ?_, G', .refl _ _, vl', .py (.str _)⟩
  unfold signs
  rw [List.getElem?_map, List.getElem?_map, Array.getElem?_toList, hq]
  rfl⟩
/-- lo, lo + 1, .. (n of them) -/
def upFrom (lo : Int) (n : Nat) : List Int := (List.range n).map fun i => lo + (i : Nat)
theorem walk_up {K : PySem.W.Frag} {lo : Int} {n : Nat} {G : Hp} : IsWalk K (Itr lo n) ((upFrom lo n).map dt) G := by
  have hlen : ((upFrom lo n).map (dt (α := Int))).length = n := by unfold upFrom; rw [List.length_map, List.length_map, List.length_range]
  unfold IsWalk
  rw [hlen]
  refine (walk_range (lo := lo) (n := n)).mono (fun _ _ => trivial) fun i H v H' hi sb y m G' s vl' => ?_
  obtain ⟨rfl, rfl⟩ := y
  refine ⟨dt (lo + (i : Nat)), ?_, G', .refl _ _, vl', .py (.int _)⟩
  unfold upFrom
  rw [List.getElem?_map, List.getElem?_map, List.getElem?_range hi]
  rfl
theorem len_up {lo : Int} {n : Nat} : (upFrom lo n).length = n := by unfold upFrom; rw [List.length_map, List.length_range]
theorem iv_range1 {a : Expr} {p : Pos} {j : Int} (hm : X.mg "range" = none) (ha : Av X B Γ c [a] (fun l => l = [dt j])) (hj : 0 ≤ j ∧ j ≤ 16777216) (hg : Gl X "range" := by rfl) (hs : starEach [a] X.env = [(false, eval a X.env)] := by rfl) :
    Iv X B Γ c tg (.Call (.Name "range" p) [a] [] pos) (fun l => ∃ ys, ys = upFrom 0 j.toNat ∧ l = ys.map dt) := pi_mono (pi_range1 hg hm ha hs) fun σ H R ⟨n, G, p, k⟩ => ⟨n, G, p, fun vs H1 G1 n1 ds hn st vl hS dn => by
  subst hS
  obtain ⟨v, rfl, h1⟩ := denAll1 dn
  rw [dp_int h1.dp]
  exact ⟨j, rfl, by omega, by omega, k _ H1 G1 n1 _ hn st vl ⟨_, rfl, rfl⟩ walk_up (by rw [List.length_map, len_up, sizeLine_eq]; omega)⟩⟩
theorem iv_range2 {a b : Expr} {p : Pos} {i j : Int} (hm : X.mg "range" = none) (ha : Av X B Γ c [a, b] (fun l => l = [dt i, dt j])) (hj : -1000000 ≤ i ∧ i ≤ 10000000 ∧ -1000000 ≤ j ∧ j ≤ 10000000) (hg : Gl X "range" := by rfl) (hs : starEach [a, b] X.env = [(false, eval a X.env), (false, eval b X.env)] := by rfl) (hs2 : starEach [b] X.env = [(false, eval b X.env)] := by rfl) :
    Iv X B Γ c tg (.Call (.Name "range" p) [a, b] [] pos) (fun l => ∃ ys, ys = upFrom i (j - i).toNat ∧ l = ys.map dt) := pi_mono (pi_range2 hg hm ha hs hs2) fun σ H R ⟨n, G, p, k⟩ => ⟨n, G, p, fun vs H1 G1 n1 ds hn st vl hS dn => by
  subst hS
  obtain ⟨v, v', rfl, h1, h2⟩ := denAll2 dn
  rw [dp_int h1.dp, dp_int h2.dp]
  exact ⟨i, j, rfl, ⟨by omega, by omega, by omega, by omega⟩, k _ H1 G1 n1 _ hn st vl ⟨_, rfl, rfl⟩ walk_up (by rw [List.length_map, len_up, sizeLine_eq]; omega)⟩⟩
/-! ### typed comprehensions -/
theorem lcRel_d {ι : Type} {p : ι → Bool} {f : ι → D} : ∀ {xs : List ι} {ys : List D}, LcRel (fun x b => b = p x) (fun x y => y = f x) xs ys → ys = (xs.filter p).map f
  | _, _, .nil => rfl
  | x :: xs, _, .keep t s r => by rw [List.filter_cons, if_pos t.symm, List.map_cons, s, lcRel_d r]
  | x :: xs, _, .skip t r => by rw [List.filter_cons, if_neg (by rw [← t]; decide), lcRel_d r]
theorem Res.py {K : PySem.W.Frag} {H G H' : Hp} {v : V} {ys : List β} (h : Res K H G H' v (.ow (.lst (ys.map dt)))) : Res K H G H' v (.ow (dt ys)) := by
  generalize e : Ent.ow (.lst (ys.map dt)) = r at h
  cases h with
  | sh h => cases e
  | ow h1 h2 h3 h4 =>
    injection e with e
    subst e
    generalize e2 : D.lst (ys.map dt) = z at h4
    cases h4 with
    | lst h4 => injection e2 with e2; subst e2; exact .ow h1 h2 h3 (.py (denAll_dq h4))
    | py h4 => cases e2
    | dct h4 => cases e2
    | dtp h4 => cases e2
    | ins h4 => cases e2
theorem ev_owPy {ys : List β} (h : Ev X B Γ c e (So (.lst (ys.map dt)))) : Ev X B Γ c e (So (dt ys)) := pe_mono h fun σ H Q ⟨n, G, p, k⟩ => ⟨n, G, p, fun v H' G' n' r h1 h2 h3 h4 h5 => by
  cases h4; exact k v H' G' n' _ h1 h2 h3 rfl h5.py⟩
theorem tts_nil : PTs X [] (tTv X.K B Γ 0 fun b => b = true) := ⟨fun pins s σ H Q I ⟨n, G, p, k⟩ => pts_nil.run pins s σ H Q I (k true H G n (Nat.le_refl _) (.refl G H) p.val rfl)⟩
theorem tts_one {S : Bool → Prop} (h : Tv X B Γ c e S) : PTs X [e] (tTv X.K B Γ c S) := pts_one h
section
variable {ι : Type} {enc : ι → D} {g : TG} {Γ' : ι → List Ent} {xs : List ι}
/-- with a test -/
theorem ev_lcT {p : ι → Bool} {f : ι → β} (hc : X.calm = true) (hN : X.N.Nodup) (hi : Iv X B Γ c0 tg iter fun l => ∃ ys, ys = xs ∧ l = ys.map enc) (ok : BlkOk X.N X.env.scope scope own) (htg : ∀ d, TgOk X.K g (own.map (·.2)) (wipeE Γ (own.map (·.2))) (enc d) (Γ' d))
    (hg : ∀ (s : Shared) (H : Hp) (C : Addr) (cl : List (Str × Addr)) (fp : List Addr), PG (X.blk s H scope (compEnvC scope cl C X.env) fp) tg g)
    (ht : ∀ d ∈ xs, ∀ (s : Shared) (H : Hp) (C : Addr) (cl : List (Str × Addr)) (fp : List Addr), PTs (X.blk s H scope (compEnvC scope cl C X.env) fp) ifs (tTv X.K B (Γ' d) c1 fun b => b = p d))
    (he : ∀ d ∈ xs, p d = true → ∀ (s : Shared) (H : Hp) (C : Addr) (cl : List (Str × Addr)) (fp : List Addr), PE (X.blk s H scope (compEnvC scope cl C X.env) fp) elt (tEv X.K B (Γ' d) c2 (Sd (dt (f d)))))
    (hs : ∀ x, foldedSetIterable iter X.env x = pure x := by intro _; rfl) :
    Ev X B Γ (c0 + sizeLine * (c1 + c2)) (.ListComp elt [⟨tg, iter, ifs, 0⟩] scope pos) (So (dt ((xs.filter p).map f))) :=
  ev_owPy (ev_weak (ev_lc (T := fun x b => b = p x) (S := fun x y => y = dt (f x)) hc hN hi ok htg hg (fun ys e d hd => by subst e; exact ht d hd) (fun ys e d hd hp s H C cl fp => by subst e; exact ev_sp (he d hd hp.symm s H C cl fp)) hs)
    (fun r ⟨ys, zs, e, rel, q⟩ => by subst e; rw [lcRel_d rel, ← Function.comp_def, ← List.map_map] at q; exact q) (Nat.le_refl _))
/-- without -/
theorem ev_lc0 {f : ι → β} (hc : X.calm = true) (hN : X.N.Nodup) (hi : Iv X B Γ c0 tg iter fun l => ∃ ys, ys = xs ∧ l = ys.map enc) (ok : BlkOk X.N X.env.scope scope own) (htg : ∀ d, TgOk X.K g (own.map (·.2)) (wipeE Γ (own.map (·.2))) (enc d) (Γ' d))
    (hg : ∀ (s : Shared) (H : Hp) (C : Addr) (cl : List (Str × Addr)) (fp : List Addr), PG (X.blk s H scope (compEnvC scope cl C X.env) fp) tg g)
    (he : ∀ d ∈ xs, ∀ (s : Shared) (H : Hp) (C : Addr) (cl : List (Str × Addr)) (fp : List Addr), PE (X.blk s H scope (compEnvC scope cl C X.env) fp) elt (tEv X.K B (Γ' d) c2 (Sd (dt (f d)))))
    (hs : ∀ x, foldedSetIterable iter X.env x = pure x := by intro _; rfl) :
    Ev X B Γ (c0 + sizeLine * (0 + c2)) (.ListComp elt [⟨tg, iter, [], 0⟩] scope pos) (So (dt (xs.map f))) :=
  ev_weak (ev_lcT (p := fun _ => true) (f := f) hc hN hi ok htg hg (fun d _ s H C cl fp => tts_nil) (fun d hd _ => he d hd) hs) (fun r q => by rw [List.filter_eq_self.mpr (fun _ _ => rfl)] at q; exact q) (Nat.le_refl _)
end
end
end DL
end

section
set_option Elab.async false
set_option linter.all false
set_option maxRecDepth 100000
set_option maxHeartbeats 4000000
set_option autoImplicit false
/-! DlH: statements, functions. -/
namespace DL
open PySem PySem.Spec PyProof.Rows L2 PySem.W PySem.SeqAt
variable [Wd]
section
variable {X : Cx} {B : Bs} {Γ Γ' : List Ent} {c c0 c1 c2 : Nat} {tg iter e : Expr} {es : List Expr} {pos : Pos} {S : Ent → Prop} {O : Out} {st : Stmt} {rest body : List Stmt} {α β γ : Type} [DecidableEq α] [Datum α] [DecidableEq β] [Datum β] [DecidableEq γ] [Datum γ]
theorem Goes.less {K : PySem.W.Frag} {G G1 : Hp} {m m' : Nat} {P P' : List Ent → Prop} {Q : L2.St → Hp → Prop} (h : Goes K B G m P Q) (hm : m' ≤ m) (hp : ∀ Γ, P' Γ → P Γ) (hg : Sub G G1 := by first | assumption | exact Sub.refl _) : Goes K B G1 m' P' Q := ⟨fun Γ' σ' H' G' n' h1 h2 a b c d => h.go Γ' σ' H' G' n' (hp _ h1) (Nat.le_trans h2 hm) a b c (hg.trans d)⟩
theorem st_weak {K : PySem.W.Frag} {O' : Out} {D : Ends} {σ : L2.St} {H : Hp} (q : tSt K B Γ c O D σ H) (hc : c1 ≤ c) (h1 : ∀ r, O'.nx r → O.nx r) (h2 : ∀ r, O'.rt r → O.rt r) (h3 : ∀ r, O'.bk r → O.bk r) (h4 : ∀ r, O'.ct r → O.ct r) : tSt K B Γ c1 O' D σ H := by
  obtain ⟨n, G, p, k1, k2, k3, k4⟩ := q
  exact ⟨n, G, ⟨p.ok, p.val, p.ste, by have := p.lim; omega⟩, k1.less (by omega) h1, k2.less (by omega) h3, k3.less (by omega) h4, fun v H' G' n' r hn a b hr d => k4 v H' G' n' r (by omega) a b (h2 r hr) d⟩
theorem sv_weak {O' : Out} (h : Sv X B Γ c1 body O') (hc : c1 ≤ c := by omega) (h1 : ∀ r, O'.nx r → O.nx r := by exact fun _ h => h) (h2 : ∀ r, O'.rt r → O.rt r := by exact fun _ h => h) (h3 : ∀ r, O'.bk r → O.bk r := by exact fun _ h => h) (h4 : ∀ r, O'.ct r → O.ct r := by exact fun _ h => h) : Sv X B Γ c body O :=
  pss_mono h fun D σ H q => st_weak q hc h1 h2 h3 h4
/-- one statement, then the rest -/
theorem sv_cons {N : List Ent → Prop} (h1 : S1 X B Γ c1 st { O with nx := N }) (h2 : ∀ Γ', N Γ' → Sv X B Γ' c2 rest O) : Sv X B Γ (c1 + c2) (st :: rest) O := by
  have h2' : PSs X rest (fun D σ H => ∃ Γ', N Γ' ∧ tSt X.K B Γ' c2 O D σ H) := ⟨fun pins s σ H D I ⟨Γ', hN, q⟩ => (h2 Γ' hN).run pins s σ H D I q⟩
  refine pss_mono (pss_cons h1 h2') fun D σ H ⟨n, G, p, k1, k2, k3, k4⟩ => ?_
  refine ⟨n, G, ⟨p.ok, p.val, p.ste, by have := p.lim; omega⟩, ⟨fun Γ' σ' H' G' n' hN hn ok vl ste sg => ?_⟩, k2.less (by omega) (fun _ h => h), k3.less (by omega) (fun _ h => h), fun v H' G' n' r hn a b hr d => k4 v H' G' n' r (by omega) a b hr d⟩
  exact ⟨Γ', hN, n', G', ⟨ok, vl, ste, by have := p.lim; omega⟩, k1.less (by omega) (fun _ h => h), k2.less (by omega) (fun _ h => h), k3.less (by omega) (fun _ h => h), fun v H2 G2 n2 r hn2 a b hr d => k4 v H2 G2 n2 r (by omega) a b hr d⟩
theorem sv_nil (h : O.nx Γ) : Sv X B Γ 0 [] O := pss_mono pss_nil fun D σ H ⟨n, G, p, k1, k2, k3, k4⟩ => k1.go Γ σ H G n h (Nat.le_refl _) p.ok p.val p.ste (.refl G)
theorem sv_one (h : S1 X B Γ c st O) : Sv X B Γ c [st] O := pss_one h
/-- return e -/
theorem s_ret (h : Ev X B Γ c e S) (hS : ∀ r, S r → O.rt r) : S1 X B Γ c (.Return (some e) pos) O := ps_mono (ps_ret h) fun D σ H ⟨n, G, p, k1, k2, k3, k4⟩ =>
  ⟨n, G, p, fun v H' G' n' r hn st vl hS' hr => k4 v H' G' n' r hn (p.ste.trans st) vl (hS r hS') (hr.base p.ste.h)⟩
theorem s_retN (hS : O.rt (.sh (dt ()))) : S1 X B Γ 0 (.Return none pos) O := ps_mono ps_retN fun D σ H ⟨n, G, p, k1, k2, k3, k4⟩ => k4 .non H G n _ (Nat.le_refl _) p.ste p.val hS (.sh (.py .non))
/-- return the frame's own object -/
theorem s_retO (i : Nat) {x : Str} {p2 : Pos} {d : D} (hΓ : Γ[i]? = some (Ent.ow d)) (hS : O.rt (.ow d)) (hN : X.N[i]? = some x := by rfl) (hv : Vis X.env.scope x := by first | exact Or.inl rfl | exact Or.inr (Or.inl rfl) | exact Or.inr (Or.inr rfl)) (hd : (x == ("__debug__" : Str)) = false := by decide)
    (hcd : (x == ("__classdict__" : Str)) = false := by decide) : S1 X B Γ 0 (.Return (some (.Name x p2)) pos) O := ps_mono (ps_ret (pe_var hN hv hd hcd)) fun D σ H ⟨n, G, p, k1, k2, k3, k4⟩ => by
  obtain ⟨a, o, h1, h2, h3, h4, h5⟩ := p.ok.ow i d hΓ
  exact ⟨_, h1, k4 _ H G n _ (Nat.le_refl _) p.ste p.val hS (.ow h2 h3 h4 h5)⟩
/-- an own object becomes shared -/
theorem Ok.share {K : PySem.W.Frag} {G H H0 : Hp} {σ : L2.St} {i : Nat} {d : D} {n : Nat} (k : Ok K H0 Γ G σ H) (vl : Val n G H) (hΓ : Γ[i]? = some (Ent.ow d)) : ∃ G', Sub G G' ∧ Val n G' H ∧ Ok K H0 (Γ.set i (.sh d)) G' σ H ∧ ∀ a, H0 a ≠ none → G a = none → G' a = none := by
  obtain ⟨a, o, h1, h2, h3, h4, h5⟩ := k.ow i d hΓ
  have sub1 : Sub G (upd G a o) := fun b u e => ⟨u, by rw [upd_ne (ne_of_none e h3)]; exact e, .refl u⟩
  have sub2 : LSub (upd G a o) H := fun b u e => by
    by_cases hb : b = a
    · subst hb; rw [upd_same] at e; cases e; exact ⟨o, h4, .refl o⟩
    · rw [upd_ne hb] at e; exact vl.sub b u e
  have den : Den K (upd G a o) (.ref a) d := own_den (h5.sub sub1)
  have hi : i < Γ.length := (List.getElem?_eq_some_iff.mp hΓ).1
  have other : ∀ (j : Nat) (r : Ent), (Γ.set i (.sh d))[j]? = some r → (j = i ∧ r = .sh d) ∨ (j ≠ i ∧ Γ[j]? = some r) := fun j r e => by
    by_cases h : i = j
    · subst h; rw [List.getElem?_set_self hi] at e; cases e; exact .inl ⟨rfl, rfl⟩
    · rw [List.getElem?_set_ne h] at e; exact .inr ⟨fun z => h z.symm, e⟩
  refine ⟨upd G a o, sub1, ⟨sub2, vl.pb, fun b t e => vl.mm b t (xd_back h5 e)⟩, ⟨fun j e h => ?_, fun j e h => ?_, fun j l e f h h' hne => ?_, by rw [List.length_set]; exact k.ln⟩, fun b hb hb2 => ?_⟩
  · rcases other j _ h with ⟨rfl, q⟩ | ⟨hj, q⟩
    · cases q; exact ⟨_, h1, den⟩
    · obtain ⟨v, e1, e2⟩ := k.sh j e q
      exact ⟨v, e1, e2.sub sub1⟩
  · rcases other j _ h with ⟨rfl, q⟩ | ⟨hj, q⟩
    · cases q
    · obtain ⟨b, u, e1, e2, e3, e4, e5⟩ := k.ow j e q
      have : b ≠ a := fun z => k.dj j i e d q hΓ hj (by rw [e1, h1, z])
      exact ⟨b, u, e1, e2, by rw [upd_ne this]; exact e3, e4, e5.sub sub1⟩
  · rcases other j _ h with ⟨rfl, q⟩ | ⟨hj, q⟩
    · cases q
    · rcases other l _ h' with ⟨rfl, q'⟩ | ⟨hl, q'⟩
      · cases q'
      · exact k.dj j l e f q q' hne
  · have : b ≠ a := fun z => by subst z; exact hb h2
    rw [upd_ne this]; exact hb2
/-- from here on the own object in slot i is shared -/
theorem sv_share (i : Nat) {d : D} (hΓ : Γ[i]? = some (Ent.ow d)) (h : Sv X B (Γ.set i (.sh d)) c body O) : Sv X B Γ c body O := pss_mono h fun D σ H ⟨n, G, p, k1, k2, k3, k4⟩ => by
  obtain ⟨G', s1, v1, ok1, f1⟩ := p.ok.share p.val hΓ
  exact ⟨n, G', ⟨ok1, v1, ⟨p.ste.g.trans s1, p.ste.h, fun a u h1 h2 h3 => f1 a (by rw [h2]; intro z; cases z) (p.ste.f a u h1 h2 h3)⟩, p.lim⟩, k1.less (Nat.le_refl _) (fun _ h => h) s1, k2.less (Nat.le_refl _) (fun _ h => h) s1, k3.less (Nat.le_refl _) (fun _ h => h) s1, k4⟩
/-- what a value leaves in a slot -/
theorem Ok.res {K : PySem.W.Frag} {G H G' H' H0 : Hp} {σ : L2.St} {i : Nat} {v : V} {r : Ent} (k : Ok K H0 Γ G σ H) (s : Ste G H G' H') (h : Res K H G' H' v r) (s0 : Sub H0 H) : Ok K H0 (Γ.set i r) G' (σ.set i (some v)) H' := by
  cases h with
  | sh den => exact (k.step s).put den
  | @ow a o d h1 h2 h3 h4 =>
    have kk := k.step s
    have kd := kk.drop (i := i) (v := some (.ref a))
    have other : ∀ (j : Nat) (r : Ent), (Γ.set i (.ow d))[j]? = some r → (j = i ∧ r = .ow d ∧ i < Γ.length) ∨ (j ≠ i ∧ Γ[j]? = some r ∧ (Γ.set i .no)[j]? = some r) := fun j r e => by
      by_cases h : i = j
      · subst h
        by_cases hl : i < Γ.length
        · rw [List.getElem?_set_self hl] at e; cases e; exact .inl ⟨rfl, rfl, hl⟩
        · rw [List.getElem?_eq_none (by rw [List.length_set]; omega)] at e; cases e
      · rw [List.getElem?_set_ne h] at e ⊢; exact .inr ⟨fun z => h z.symm, e, e⟩
    have old : ∀ (j : Nat) (e : D), Γ[j]? = some (.ow e) → σ[j]? ≠ some (some (.ref a)) := fun j e q z => by
      obtain ⟨b, u, e1, _, _, e4, _⟩ := k.ow j e q
      rw [e1] at z; cases z; rw [h1] at e4; cases e4
    have at_i : ∀ (_ : i < Γ.length), (σ.set i (some (V.ref a)))[i]? = some (some (.ref a)) := fun hl => List.getElem?_set_self (by rw [← k.ln]; exact hl)
    refine ⟨fun j e h => ?_, fun j e h => ?_, fun j l e f h h' hne => ?_, by rw [List.length_set, List.length_set]; exact k.ln⟩
    · rcases other j _ h with ⟨_, q, _⟩ | ⟨hj, _, q⟩
      · cases q
      · exact kd.sh j e q
    · rcases other j _ h with ⟨rfl, q, hl⟩ | ⟨hj, _, q⟩
      · cases q; exact ⟨a, o, at_i hl, s0.out h1, h2, h3, h4⟩
      · exact kd.ow j e q
    · rcases other j _ h with ⟨rfl, q, hl⟩ | ⟨hj, qo, q⟩
      · rcases other l _ h' with ⟨rfl, _⟩ | ⟨hl2, qo', q'⟩
        · exact absurd rfl hne
        · rw [at_i hl, List.getElem?_set_ne (Ne.symm hl2)]
          exact fun z => old l f qo' z.symm
      · rcases other l _ h' with ⟨rfl, q', hl⟩ | ⟨hl2, qo', q'⟩
        · rw [at_i hl, List.getElem?_set_ne (Ne.symm hj)]
          exact old j e qo
        · exact kd.dj j l e f q q' hne
/-- x = e -/
theorem s_set (i : Nat) {x : Str} {p2 : Pos} (h : Ev X B Γ c e S) (hO : ∀ r, S r → O.nx (Γ.set i r)) (nd : X.N.Nodup) (hi : X.N[i]? = some x := by rfl) (hx : Loc X.env.scope x := by first | exact Or.inl rfl | exact Or.inr rfl) (hs : swapsWithSole [.Name x p2] e pos.line X.env = pure false := by rfl) (hw : swappedStores [.Name x p2] e X.env = pure none := by rfl)
    (h1 : (assignEach [.Name x p2] X.env).map (·.2) = [assign (.Name x p2) X.env] := by rfl) (hf : X.fn x = true ∨ X.env.scope.names.lookup x = some .local := by first | exact .inl rfl | exact .inr rfl) : S1 X B Γ c (.Assign [.Name x p2] e pos) O :=
  ps_mono (ps_asg h (pg_name (i := i) nd hi hx hf) hs hw h1) fun D σ H ⟨n, G, p, k1, k2, k3, k4⟩ => ⟨n, G, p, fun v H' G' n' r hn st vl hS hr =>
    k1.go _ _ H' G' n' (hO r hS) hn (p.ok.res st hr p.ste.h) vl (p.ste.trans st) st.g⟩
/-- if -/
theorem s_if {Sb : Bool → Prop} {t : Expr} {a b : List Stmt} (ht : Tv X B Γ c0 t Sb) (ha : Sb true → Sv X B Γ c1 a O) (hb : Sb false → Sv X B Γ c2 b O) : S1 X B Γ (c0 + max c1 c2) (.If t a b pos) O := by
  have pa : PSs X a (fun D σ H => Sb true ∧ tSt X.K B Γ c1 O D σ H) := ⟨fun pins s σ H D I q => (ha q.1).run pins s σ H D I q.2⟩
  have pb : PSs X b (fun D σ H => Sb false ∧ tSt X.K B Γ c2 O D σ H) := ⟨fun pins s σ H D I q => (hb q.1).run pins s σ H D I q.2⟩
  refine ps_mono (ps_if ht pa pb) fun D σ H ⟨n, G, p, k1, k2, k3, k4⟩ => ?_
  refine ⟨n, G, ⟨p.ok, p.val, p.ste, by have := p.lim; omega⟩, fun v H1 G1 n1 hn st vl hS => ?_⟩
  have more : ∀ cc, cc ≤ max c1 c2 → tSt X.K B Γ cc O D σ H1 := fun cc hcc => ⟨n1, G1, p.step st vl (by have := p.lim; omega), k1.less (by omega) (fun _ h => h) st.g, k2.less (by omega) (fun _ h => h) st.g, k3.less (by omega) (fun _ h => h) st.g, fun v H2 G2 n2 r hn2 a b hr d => k4 v H2 G2 n2 r (by omega) a b hr d⟩
  cases v with
  | true => exact iteT ⟨hS, more c1 (by omega)⟩
  | false => exact iteF ⟨hS, more c2 (by omega)⟩
end
/-! ### functions -/
/-- what a function keeps: at most c draws; of the arguments ds an answer of S, where C ds S -/
def spD (K : PySem.W.Frag) (c : Nat) (C : List D → (Ent → Prop) → Prop) : L2.Sp := fun vs H Q _ => ∃ n G ds S, Val n G H ∧ n + c ≤ LIM ∧ DenAll K G vs ds ∧ C ds S ∧
  ∀ v H' G' n' r, n' ≤ n + c → Ste G H G' H' → Val n' G' H' → S r → Res K H G' H' v r → Q v H'
/-- the names of the parameters -/
def prm (fd : FuncData) : List Str := fd.params.args.map (·.arg)
/-- THE CONTRACT of a def of the text -/
structure Fn (P : Program) (w : World) (K : PySem.W.Frag) (mg : Str → Option Value) (base : Heap) (k : Nat) (x : Str) (c : Nat) (C : List D → (Ent → Prop) → Prop) : Prop where
  ex : ∃ f fd, mg x = some (.ref f) ∧ PySem.W.keepIn K (.ref f) = true ∧ Binds K fd (prm fd) [] ∧ FnOk P w K mg base CX0 k f fd (prm fd) (spD K c C) ∧ ∃ oc od osl, K.lookup f = some ⟨oc, od, .func fd, osl⟩
theorem Fn.imp {P : Program} {w : World} {K : PySem.W.Frag} {mg : Str → Option Value} {base : Heap} {k : Nat} {x : Str} {c : Nat} {C C' : List D → (Ent → Prop) → Prop} (F : Fn P w K mg base k x c C) (h : ∀ ds S, C' ds S → ∃ S', C ds S' ∧ ∀ r, S' r → S r) : Fn P w K mg base k x c C' := by
  obtain ⟨f, fd, h1, h2, h3, h4, h5⟩ := F.ex
  refine ⟨f, fd, h1, h2, h3, h4.imp fun vs H Q E ⟨n, G, ds, S, v, l, dn, hC, k⟩ => ?_, h5⟩
  obtain ⟨S', h5, h6⟩ := h ds S hC
  exact ⟨n, G, ds, S', v, l, dn, h5, fun v H' G' n' r a b c d e => k v H' G' n' r a b c (h6 r d) e⟩
theorem Fn.mono {P : Program} {w : World} {K : PySem.W.Frag} {mg : Str → Option Value} {base : Heap} {j k : Nat} {x : Str} {c : Nat} {C : List D → (Ent → Prop) → Prop} (F : Fn P w K mg base j x c C) (h : j ≤ k) : Fn P w K mg base k x c C := by
  obtain ⟨f, fd, h1, h2, h3, h4, h5⟩ := F.ex
  exact ⟨f, fd, h1, h2, h3, h4.mono h, h5⟩
section
variable {X : Cx} {B : Bs} {Γ : List Ent} {c c1 k : Nat} {e : Expr} {es : List Expr} {p pos : Pos} {S : Ent → Prop} {C : List D → (Ent → Prop) → Prop} {x : Str}
/-- f(..) -/
theorem ev_callN {S2 : List D → Prop} (F : Fn X.prog X.w X.K X.mg X.base k x c C) (hr : Room k X.A) (ha : Av X B Γ c1 (e :: es) S2) (hC : ∀ ds, S2 ds → C ds S) (hg : Gl X x := by rfl) (hdb : (x == ("__debug__" : Str)) = false := by decide) (he : starEach (e :: es) X.env = (false, eval e X.env) :: starEach es X.env := by rfl) (hpl : (backTo pos (starEach es X.env)).any (·.1) = false := by rfl) :
    Ev X B Γ (c1 + c) (.Call (.Name x p) (e :: es) [] pos) S := by
  obtain ⟨f, fd, h1, h2, h3, h4, _⟩ := F.ex
  refine pe_mono (pe_call h4 hr hg h1 h2 h3 .nil pass0 ha hdb he hpl) fun σ H Q ⟨n, G, p, k⟩ => ⟨n, G, ⟨p.ok, p.val, p.ste, by have := p.lim; omega⟩, fun vs H1 G1 n1 ds hn st vl hS dn => ?_⟩
  refine ⟨n1, G1, ds, S, vl, by have := p.lim; omega, by rw [List.append_nil]; exact dn, hC ds hS, fun v H' G' n' r hn' st' vl' hS' hr' => k v H' G' n' r (by omega) (st.trans st') vl' hS' (hr'.base st.h)⟩
theorem ev_call {ds : List D} (F : Fn X.prog X.w X.K X.mg X.base k x c C) (hr : Room k X.A) (ha : Av X B Γ c1 (e :: es) (fun l => l = ds)) (hC : C ds S) (hg : Gl X x := by rfl) (hdb : (x == ("__debug__" : Str)) = false := by decide) (he : starEach (e :: es) X.env = (false, eval e X.env) :: starEach es X.env := by rfl) (hpl : (backTo pos (starEach es X.env)).any (·.1) = false := by rfl) :
    Ev X B Γ (c1 + c) (.Call (.Name x p) (e :: es) [] pos) S := ev_callN F hr ha (fun _ z => by subst z; exact hC) hg hdb he hpl
theorem ev_call0 (F : Fn X.prog X.w X.K X.mg X.base k x c C) (hr : Room k X.A) (hC : C [] S) (hg : Gl X x := by rfl) (hdb : (x == ("__debug__" : Str)) = false := by decide) : Ev X B Γ c (.Call (.Name x p) [] [] pos) S := by
  obtain ⟨f, fd, h1, h2, h3, h4, _⟩ := F.ex
  refine pe_mono (pe_call0 h4 hr hg h1 h2 h3 .nil pass0 hdb) fun σ H Q ⟨n, G, p, k⟩ => ⟨n, G, [], S, p.val, p.lim, .nil, hC, fun v H' G' n' r hn' st' vl' hS' hr' => k v H' G' n' r hn' st' vl' hS' hr'⟩
end
/-- the slots at the entry -/
def start (N : List Str) (ds : List D) : List Ent := ds.map .sh ++ List.replicate (N.length - ds.length) .no
theorem denAll_get' {K : PySem.W.Frag} {G : Hp} : ∀ {vs : List V} {ds : List D} {i : Nat} {d : D}, DenAll K G vs ds → ds[i]? = some d → ∃ v, vs[i]? = some v ∧ Den K G v d
  | _, _, _, _, .nil, e => by simp at e
  | _, _, 0, _, .cons h t, e => by simp at e; subst e; exact ⟨_, rfl, h⟩
  | _, _, i + 1, _, .cons h t, e => by
    obtain ⟨d, h1, h2⟩ := denAll_get' (i := i) t (by simpa using e)
    exact ⟨d, by simpa using h1, h2⟩
theorem Ok.start {K : PySem.W.Frag} {G H : Hp} {N : List Str} {vs : List V} {ds : List D} (h : DenAll K G vs ds) : Ok K H (start N ds) G (L2.start N vs) H := by
  have ln := denAll_len h
  have get : ∀ (i : Nat) (r : Ent), (DL.start N ds)[i]? = some r → r ≠ .no → ∃ d, ds[i]? = some d ∧ r = .sh d := fun i r e hr => by
    unfold DL.start at e
    by_cases hi : i < ds.length
    · rw [List.getElem?_append_left (by simpa using hi), List.getElem?_map] at e
      cases q : ds[i]? with
      | none => rw [q] at e; cases e
      | some d => rw [q] at e; cases e; exact ⟨d, rfl, rfl⟩
    · rw [List.getElem?_append_right (by simpa using hi), List.getElem?_replicate] at e
      split at e
      · cases e; exact absurd rfl hr
      · cases e
  refine ⟨fun i d e => ?_, fun i d e => ?_, fun i j d d' e e' _ => ?_, ?_⟩
  · obtain ⟨d', h1, h2⟩ := get i _ e (by intro z; cases z)
    cases h2
    obtain ⟨v, h3, h4⟩ := denAll_get' h h1
    refine ⟨v, ?_, h4⟩
    unfold L2.start
    have hi : i < vs.length := by rw [ln]; exact (List.getElem?_eq_some_iff.mp h1).1
    rw [List.getElem?_append_left (by simpa using hi), List.getElem?_map, h3]
    rfl
  · obtain ⟨d', h1, h2⟩ := get i _ e (by intro z; cases z)
    cases h2
  · obtain ⟨d', h1, h2⟩ := get i _ e (by intro z; cases z)
    cases h2
  · unfold DL.start L2.start
    simp [ln]
end DL
end

section
set_option Elab.async false
set_option linter.all false
set_option maxRecDepth 100000
set_option maxHeartbeats 4000000
set_option autoImplicit false
/-! DlI: isinstance; functions by their bodies. -/
namespace DL
open PySem PySem.Spec PyProof.Rows L2 PySem.W PySem.SeqAt
variable [Wd]
/-- the class of data -/
def tyP : PyData → String
  | .none => "NoneType" | .bool _ => "bool" | .int _ => "int" | .str _ => "str" | .list _ => "list" | .tuple _ => "tuple" | .dict _ => "dict"
def tyD : D → Option String
  | .py p => some (tyP p) | .lst _ => some "list" | .tup _ => some "tuple" | .dct _ => some "dict" | _ => none
def isaP (U : String) (p : PyData) : Bool := (kitB (tyP p) U).getD false
def isaD (U : String) (d : D) : Bool := ((tyD d).bind fun T => kitB T U).getD false
theorem ty_of {K : PySem.W.Frag} {G H : Hp} (sb : LSub G H) {v : V} {d : D} {T : String} (h : Den K G v d) (e : tyD d = some T) : TyX K H v (.type T) := by
  have tup : ∀ {a : Addr} {vs : List V}, SqT K G a vs → TyX K H (.ref a) (.type "tuple") := fun {a vs} ht => by
    rcases sb.sqT ht with (z | ⟨o, z⟩) | ⟨o, its, n, h1, h2, _⟩
    · exact .base (.tup z)
    · exact .fTuple z
    · exact .kTuple h1 h2
  cases h with
  | py h =>
    cases e
    cases h with
    | non => exact .base .non
    | bl b => exact .base (.bl b)
    | int i => exact .base (.int i)
    | str x => exact .base (.str x)
    | lst h _ => exact .base (.lst (sb.lst h))
    | tup h _ => exact tup h
  | tup h _ => cases e; exact tup h
  | lst h _ => cases e; exact .base (.lst (sb.lst h))
  | dct h _ =>
    cases e
    rcases sb.rd_dK h with z | ⟨o, z⟩
    · exact .base (.dK z)
    · exact .fDict z
  | dtp h _ => cases e
  | ob a => cases e
  | pu h => cases e
  | scr h => cases e
  | memo h => cases e
  | ins h _ => cases e
def allT : List String := ["NoneType", "bool", "int", "str", "list", "tuple", "dict"]
theorem tyP_all (p : PyData) : tyP p ∈ allT := by cases p <;> simp [tyP, allT]
theorem tyD_all {d : D} {T : String} (h : tyD d = some T) : T ∈ allT := by
  cases d with
  | py p => cases h; exact tyP_all p
  | lst _ => cases h; simp [allT]
  | tup _ => cases h; simp [allT]
  | dct _ => cases h; simp [allT]
  | dtp _ => cases h
  | memo _ => cases h
  | ins _ _ => cases h
  | ob _ => cases h
  | pu => cases h
  | scr _ => cases h
section
variable {X : Cx} {B : Bs} {Γ : List Ent} {c : Nat} {e : Expr} {p p2 pos : Pos} {d : D} {U : Str} {n : String}
theorem ev_isi (hm : X.mg "isinstance" = none) (hmU : X.mg U = none) (h : Ev X B Γ c e (Sd d)) (hd : (tyD d).isSome = true := by rfl) (hU : bootBuiltins U = some (.type n) := by decide +kernel) (hall : (allT.all fun T => (kitB T n).isSome) = true := by decide +kernel) (hg : Gl X "isinstance" := by rfl) (hgU : Gl X U := by rfl) (hnU : U ≠ "__name__" := by decide) (hdU : (U == ("__debug__" : Str)) = false := by decide)
    (he : starEach [e, .Name U p2] X.env = (false, eval e X.env) :: starEach [.Name U p2] X.env := by rfl) (he2 : starEach [.Name U p2] X.env = (false, eval (.Name U p2) X.env) :: starEach [] X.env := by rfl) (hpl : (backTo pos (starEach [.Name U p2] X.env)).any (·.1) = false := by rfl) :
    Ev X B Γ c (.Call (.Name "isinstance" p) [e, .Name U p2] [] pos) (Sd (dt (isaD n d))) :=
  pe_mono (pe_callB call_isi hg hm (by decide +kernel) (pa_cons h (pa_cons (pe_bltn (v := .ty n) hgU hmU hU rfl hnU hdU) pa_nil he2) he) (by decide) (by decide) he hpl) fun σ H Q ⟨m, G, pp, k⟩ => ⟨m, G, pp, fun v H1 G1 n1 r hn st vl hS hr => by
    cases hS
    cases hr with | sh den =>
    cases q : tyD d with
    | none => rw [q] at hd; cases hd
    | some T =>
    have hT := tyD_all q
    have hs := List.all_eq_true.mp hall T hT
    cases q2 : kitB T n with
    | none => rw [q2] at hs; cases hs
    | some b =>
    have eb : isaD n d = b := by unfold isaD; rw [q]; show (kitB T n).getD false = b; rw [q2]; rfl
    exact ⟨v, .ty n, .type T, .type n, b, rfl, .ty n, ty_of vl.sub den q, kit_ty q2, k _ H1 G1 n1 _ hn st vl rfl (.sh (.py (by rw [eb]; exact .bl b)))⟩⟩
end
/-- the context of a def's body -/
abbrev bodyX (P : Program) (w : World) (K : PySem.W.Frag) (mg : Str → Option Value) (base : Heap) (N : List Str) (qual : Str) (st : Stmt) (f : Addr) (cdv : Value) (A : Around) (outer : List Env) (s : Shared) (H : Hp) (E : XK) : Cx := (cxOf CX0 P w K mg base N qual (defScope st) f cdv A outer s H E).nox
theorem fn_by {P : Program} {w : World} {K : PySem.W.Frag} {mg : Str → Option Value} {base : Heap} {x qual : Str} {st : Stmt} {f : Addr} {fd : FuncData} {N ps : List Str} {k c : Nat} {C : List D → (Ent → Prop) → Prop}
    (F : Fun K x qual st f fd) (hm : mg x = some (.ref f)) (hb : Binds K fd ps []) (hps : (defArgs st).args.map (·.arg) = ps) (Sc : FnScope N ps (defScope st)) (len : ∀ ds S, C ds S → ds.length = ps.length)
    (body : ∀ (cdv : Value) (A : Around) (outer : List Env) (s : Shared) (H : Hp) (E : XK) (B : Bs) (ds : List D) (S : Ent → Prop), Room k (A.deeper (envOfC qual (defScope st) s.heap.objs.size f cdv)) → C ds S →
      ∃ c', c' ≤ c ∧ Sv (bodyX P w K mg base N qual st f cdv A outer s H E) B (DL.start N ds) c' (defBody st) { nx := fun _ => S (.sh (dt ())), rt := S }) : Fn P w K mg base (k + 1) x c C := by
  have key : FnOk P w K mg base CX0 (k + 1) f fd ps (spD K c C) := F.ok Sc (fun vs H Q E ⟨n, G, ds, S, _, _, dn, hC, _⟩ => by rw [denAll_len dn]; exact len ds S hC) fun cdv A outer s H vs Q E hr ⟨n, G, ds, S, v, l, dn, hC, k⟩ => by
    obtain ⟨c', hc, h⟩ := body cdv A outer s H E ⟨G, H⟩ ds S hr hC
    refine ⟨_, h, n, G, ⟨.start dn, v, .refl G H, by omega⟩, ⟨fun Γ' σ' H' G' n' hS hn ok vl ste _ => k .non H' G' n' _ (by omega) ste vl hS (.sh (.py .non))⟩, ⟨fun _ _ _ _ _ z => z.elim⟩, ⟨fun _ _ _ _ _ z => z.elim⟩, fun v H' G' n' r hn ste vl hS hr => k v H' G' n' r (by omega) ste vl hS hr⟩
  obtain ⟨oc, od, kV, doc, pm, an, cdv, ct, osl, e, lk, _⟩ := F.ex
  have ep : prm fd = ps := by rw [e]; exact hps
  exact ⟨f, fd, hm, F.kp, by rw [ep]; exact hb, by rw [ep]; exact key, oc, od, osl, lk⟩
/-- a def as the top has made it: its place, its name, how it binds -/
structure Df (K : PySem.W.Frag) (mg : Str → Option Value) (x : Str) (st : Stmt) (ps : List Str) : Prop where
  ex : ∃ f fd, Fun K x x st f fd ∧ mg x = some (.ref f) ∧ Binds K fd ps []
theorem fn_df {P : Program} {w : World} {K : PySem.W.Frag} {mg : Str → Option Value} {base : Heap} {x : Str} {st : Stmt} {N ps : List Str} {k c : Nat} {C : List D → (Ent → Prop) → Prop}
    (F : Df K mg x st ps) (Sc : FnScope N ps (defScope st)) (len : ∀ ds S, C ds S → ds.length = ps.length)
    (body : ∀ (f : Addr) (cdv : Value) (A : Around) (outer : List Env) (s : Shared) (H : Hp) (E : XK) (B : Bs) (ds : List D) (S : Ent → Prop), Room k (A.deeper (envOfC x (defScope st) s.heap.objs.size f cdv)) → C ds S →
      ∃ c', c' ≤ c ∧ Sv (bodyX P w K mg base N x st f cdv A outer s H E) B (DL.start N ds) c' (defBody st) { nx := fun _ => S (.sh (dt ())), rt := S }) (hps : (defArgs st).args.map (·.arg) = ps := by rfl) : Fn P w K mg base (k + 1) x c C := by
  obtain ⟨f, fd, h1, h2, h3⟩ := F.ex
  exact fn_by h1 h2 h3 hps Sc len (body f)
/-! ### calls by keywords -/
/-- the values ws in the order of perm, where there are as many -/
def kwG {β : Type} (perm : List Nat) (us ws : List β) : List β := match us with
  | [] => if ws.length = perm.length then perm.filterMap (ws[·]?) else []
  | _ => []
theorem filterMap_vals {vs : List V} {us : List Value} (r : Vals vs us) : ∀ perm : List Nat, Vals (perm.filterMap (vs[·]?)) (perm.filterMap (us[·]?))
  | [] => .nil
  | j :: perm => by
    rw [List.filterMap_cons, List.filterMap_cons]
    cases q : vs[j]? with
    | none =>
      have : us[j]? = none := by rw [List.getElem?_eq_none_iff] at q ⊢; rw [← r.length]; exact q
      rw [this]; exact filterMap_vals r perm
    | some v =>
      obtain ⟨u, hu, rv⟩ := r.get q
      rw [hu]; exact .cons rv (filterMap_vals r perm)
theorem kwG_vals {perm : List Nat} {vs : List V} {us : List Value} {zs : List V} {ws : List Value} (r : Vals vs us) (rz : Vals zs ws) : Vals (kwG perm vs zs) (kwG perm us ws) := by
  cases r with
  | nil =>
    unfold kwG
    by_cases h : ws.length = perm.length
    · rw [if_pos h, if_pos (rz.length.trans h)]; exact filterMap_vals rz perm
    · rw [if_neg h, if_neg (fun z => h (rz.length.symm.trans z))]; exact .nil
  | cons _ _ => exact .nil
theorem denAll_perm {K : PySem.W.Frag} {G : Hp} {vs : List V} {ds : List D} (h : DenAll K G vs ds) : ∀ perm : List Nat, DenAll K G (perm.filterMap (vs[·]?)) (perm.filterMap (ds[·]?))
  | [] => .nil
  | j :: perm => by
    rw [List.filterMap_cons, List.filterMap_cons]
    cases q : ds[j]? with
    | none =>
      have : vs[j]? = none := by rw [List.getElem?_eq_none_iff] at q ⊢; rw [denAll_len h]; exact q
      rw [this]; exact denAll_perm h perm
    | some v =>
      obtain ⟨u, hu, rv⟩ := denAll_get' h q
      rw [hu]; exact .cons rv (denAll_perm h perm)
/-- the values of keywords -/
abbrev Kv (X : Cx) (B : Bs) (Γ : List Ent) (c : Nat) (kws : List Keyword) (S : List D → Prop) : Prop := PK X kws (tAv X.K B Γ c S)
section
variable {X : Cx} {B : Bs} {Γ : List Ent} {c c1 c2 k : Nat} {e : Expr} {kws : List Keyword} {p pos kpos : Pos} {S : Ent → Prop} {C : List D → (Ent → Prop) → Prop} {x : Str} {nm : Option Str} {st : Stmt} {ps ks : List Str}
theorem kv_nil : Kv X B Γ 0 [] (fun l => l = []) := ⟨fun pos pins s σ H Q I ⟨n, G, p, k⟩ => pk_nil.run pos pins s σ H Q I (k [] H G n [] (Nat.le_refl _) (.refl G H) p.val rfl .nil)⟩
theorem kv_cons {d : D} {ds : List D} (ha : Ev X B Γ c1 e (Sd d)) (hr : Kv X B Γ c2 kws (fun l => l = ds)) : Kv X B Γ (c1 + c2) (⟨nm, e, kpos⟩ :: kws) (fun l => l = d :: ds) :=
  ⟨fun pos pins s σ H Q I ⟨n, G, p, k⟩ => (pk_cons ha hr).run pos pins s σ H Q I ⟨n, G, ⟨p.ok, p.val, p.ste, by have := p.lim; omega⟩, fun v H1 G1 n1 r hn st vl hS hr => by
    cases hS
    cases hr with | sh den => exact ⟨n1, G1, p.step st vl (by have := p.lim; omega), fun vs H2 G2 n2 l hn2 st2 vl2 hS2 dn => k (v :: vs) H2 G2 n2 (d :: l) (by omega) (st.trans st2) vl2 (by rw [hS2]) (.cons (den.sub st2.g) dn)⟩⟩⟩
/-- f(k = e, ..) -/
theorem ev_callK {ds : List D} (perm : List Nat) (F : Fn X.prog X.w X.K X.mg X.base k x c C) (hr : Room k X.A) (D : Df X.K X.mg x st ps) (hk : Kv X B Γ c1 kws (fun l => l = ds)) (hC : C (perm.filterMap (ds[·]?)) S)
    (hb : ∀ (kV doc pm : Value) (an : Option Addr) (cdv ct : Value) (ws : List Value), ws.length = perm.length → bindArgs (PySem.W.fnOf x x (defArgs st) (defBody st) (defScope st) .none kV doc pm an cdv ct) ⟨[], ks.zip ws⟩ = pure (((defArgs st).args.map (·.arg)).zip (kwG perm [] ws)))
    (hlen : ds.length = perm.length := by rfl) (hne : (defArgs st).args.length ≠ 0 := by decide +kernel) (hg : Gl X x := by rfl) (hall : (backToKw pos (keywordEach kws X.env)).all (·.1.isSome) = true := by rfl) (hks : (backToKw pos (keywordEach kws X.env)).filterMap (·.1) = ks := by rfl) (hdb : (x == ("__debug__" : Str)) = false := by decide)
    (hpl : ((backTo pos (starEach [] X.env)).any (·.1) || (backToKw pos (keywordEach kws X.env)).any (·.1.isNone)) = false := by rfl) :
    Ev X B Γ (c1 + c) (.Call (.Name x p) [] kws pos) S := by
  obtain ⟨f, fd, h1, h2, h3, h4, oc, od, osl, lk⟩ := F.ex
  obtain ⟨f', fd', hF, hm, _⟩ := D.ex
  rw [h1] at hm; cases hm
  obtain ⟨oc', od', kV, doc, pm, an, cdv, ct, osl', e, lk', _⟩ := hF.ex
  rw [lk] at lk'
  have efd : fd = fd' := by
    have := Option.some.inj lk'
    injection this with _ _ h _
    injection h
  rw [e] at efd
  have epr : prm fd = (defArgs st).args.map (·.arg) := by rw [efd]; rfl
  have KB : KBinds X.K fd (prm fd) ks (kwG perm) (kwG perm) := ⟨fun s us ws _ hl => by
    cases us with
    | cons u us =>
      refine absurd hl ?_
      rw [epr, List.length_map]
      exact fun z => hne z.symm
    | nil =>
      by_cases hw : ws.length = perm.length
      · rw [epr, efd]; exact .of_eq (hb kV doc pm an cdv ct ws hw)
      · refine absurd hl ?_
        unfold kwG
        rw [if_neg hw, epr, List.length_map]
        exact fun z => hne z.symm, fun r rz => kwG_vals r rz⟩
  refine ⟨fun pins s σ H Q I ⟨n, G, pr, kk⟩ => ?_⟩
  refine wpAny_Call_Name_kw (ld_glob I hg h1 ?_ hdb)
  refine PySem.W.callWith_KW0 (h₀ := X.base) I.ok.mod.kin h2 hall ?_ hpl
  refine thn (hk.run pos pins s σ H _ I ⟨n, G, ⟨pr.ok, pr.val, pr.ste, by have := pr.lim; omega⟩, fun vs H1 G1 n1 ds1 hn st1 vl hS dn => (⟨G1, n1, hn, st1, vl, by rw [← hS]; exact dn⟩ : ∃ G1 n1, n1 ≤ n + c1 ∧ Ste G H G1 H1 ∧ Val n1 G1 H1 ∧ DenAll X.K G1 vs ds)⟩) fun ws s2 ⟨zs, H2, I2, rz, G1, n1, hn, st1, vl, dn⟩ => ⟨I2.kIn, ?_⟩
  rw [hks]
  refine run_fnk (us := []) (vs := []) h4 hr KB pass0 I2 .nil rz ?_
  have ez : kwG perm [] zs = perm.filterMap (zs[·]?) := by
    unfold kwG
    rw [if_pos (by rw [denAll_len dn]; exact hlen)]
  rw [ez]
  exact ⟨n1, G1, perm.filterMap (ds[·]?), S, vl, by have := pr.lim; omega, denAll_perm dn perm, hC, fun v H' G' n' r hn' st' vl' hS' hr' => kk v H' G' n' r (by omega) (st1.trans st') vl' hS' (hr'.base st1.h)⟩
end
end DL
end

section
set_option Elab.async false
set_option linter.all false
set_option maxRecDepth 100000
set_option maxHeartbeats 4000000
set_option autoImplicit false
/-! DlJ: one rule a construct, whatever the Lean types: classes that pick the rule. -/
namespace DL
open PySem PySem.Spec PyProof.Rows L2 PySem.W PySem.SeqAt
variable [Wd]
/-- a in b -/
class PyIn (α β : Type) [DecidableEq α] [Datum α] [DecidableEq β] [Datum β] where
  mem : α → β → Bool
  rule : ∀ {X : Cx} (_ : Hu X) (s : Shared) (v u : Value) (a : α) (b : β) (Q E : Value → Shared → Prop), Holds s.heap v a → Holds s.heap u b → Q (.bool (mem a b)) s → wpAny (model X.prog X.w) X.A (compareOp .In v u) Q E s
  ruleN : ∀ {X : Cx} (_ : Hu X) (s : Shared) (v u : Value) (a : α) (b : β) (Q E : Value → Shared → Prop), Holds s.heap v a → Holds s.heap u b → Q (.bool (!mem a b)) s → wpAny (model X.prog X.w) X.A (compareOp .NotIn v u) Q E s
class Shallow (α : Type) [DecidableEq α] [Datum α] : Prop where
  depth : Datum.depth α < 60
instance {α : Type} [DecidableEq α] [Datum α] [h : Shallow α] : PyIn α (List α) where
  mem x xs := decide (x ∈ xs)
  rule := fun {X} hu s v u a b Q E h1 h2 q => by
    obtain ⟨as, r1⟩ := h1
    obtain ⟨bs, r2⟩ := holds_list_inv h2
    have hd := h.depth
    have hu' : X.A.units + 64 < cLine := hu
    exact in_list_data r2 r1 (plainAll_map b) (Datum.plain a) (room_items (depthAll_map b) (by omega)) (by rw [any_datum]; exact q)
  ruleN := fun {X} hu s v u a b Q E h1 h2 q => by
    obtain ⟨as, r1⟩ := h1
    obtain ⟨bs, r2⟩ := holds_list_inv h2
    have hd := h.depth
    have hu' : X.A.units + 64 < cLine := hu
    exact notIn_list_data r2 r1 (plainAll_map b) (Datum.plain a) (room_items (depthAll_map b) (by omega)) (by rw [any_datum]; exact q)
instance {α : Type} [DecidableEq α] [Datum α] [h : Shallow α] : PyIn α (Tup α) where
  mem x xs := decide (x ∈ xs.items)
  rule := fun {X} hu s v u a b Q E h1 h2 q => by
    obtain ⟨as, r1⟩ := h1
    obtain ⟨bs, r2⟩ := h2
    have hd := h.depth
    have hu' : X.A.units + 64 < cLine := hu
    exact in_tuple_data r2 r1 (plainAll_map b.items) (Datum.plain a) (room_items (depthAll_map b.items) (by omega)) (by rw [any_datum]; exact q)
  ruleN := fun {X} hu s v u a b Q E h1 h2 q => by
    obtain ⟨as, r1⟩ := h1
    obtain ⟨bs, r2⟩ := h2
    have hd := h.depth
    have hu' : X.A.units + 64 < cLine := hu
    exact notIn_tuple_data r2 r1 (plainAll_map b.items) (Datum.plain a) (room_items (depthAll_map b.items) (by omega)) (by rw [any_datum]; exact q)
instance : Shallow Int := ⟨by decide⟩
instance : Shallow Bool := ⟨by decide⟩
instance : Shallow Str := ⟨by decide⟩
/-- a + b -/
class PyAdd (α : Type) [DecidableEq α] [Datum α] where
  add : α → α → α
  ok : α → α → Prop
  rule : ∀ {X : Cx} {B : Bs} {Γ : List Ent} {c1 c2 : Nat} {a b : Expr} {pos : Pos} {x y : α}, ok x y → Ev X B Γ c1 a (Sd (dt x)) → Ev X B Γ c2 b (Sd (dt y)) → Ev X B Γ (c1 + c2) (.BinOp a .Add b pos) (Sd (dt (add x y)))
instance : PyAdd Int := ⟨(· + ·), fun _ _ => True, fun _ ha hb => ev_add ha hb⟩
instance : PyAdd Str := ⟨(· ++ ·), fun x y => x.length + y.length ≤ sizeLine, fun h ha hb => ev_addS ha hb h⟩
instance {α : Type} [DecidableEq α] [Datum α] : PyAdd (List α) := ⟨(· ++ ·), fun x y => x.length + y.length ≤ sizeLine, fun h ha hb => ev_sh (ev_cat ha hb h)⟩
instance {α : Type} [DecidableEq α] [Datum α] : PyAdd (Tup α) := ⟨fun x y => ⟨x.items ++ y.items⟩, fun x y => x.items.length + y.items.length ≤ sizeLine, fun h ha hb => ev_catT ha hb h⟩
/-- a[i] -/
class PyIx (α : Type) [DecidableEq α] [Datum α] (β : outParam Type) [DecidableEq β] [Datum β] where
  get : α → Int → Option β
  ok : α → Prop
  rule : ∀ {X : Cx} {B : Bs} {Γ : List Ent} {c1 c2 : Nat} {a b : Expr} {pos : Pos} {x : α} {i : Int} {y : β}, ok x → get x i = some y → Ev X B Γ c1 a (Sd (dt x)) → Ev X B Γ c2 b (Sd (dt i)) → PlainIx b → Ev X B Γ (c1 + c2) (.Subscript a b pos) (Sd (dt y))
instance : PyIx Str Str := ⟨fun x i => (atI x.cps.toList i).map fun k => ⟨#[k]⟩, fun x => x.length ≤ sizeLine, fun {X B Γ c1 c2 a b pos x i y} hz h ha hb hs => by
  cases q : atI x.cps.toList i with
  | none => rw [q] at h; cases h
  | some k => rw [q] at h; cases h; exact ev_ixS ha hb hz q hs⟩
instance {α : Type} [DecidableEq α] [Datum α] : PyIx (List α) α := ⟨atI, fun _ => True, fun _ h ha hb hs => ev_ixL ha hb h hs⟩
instance {α : Type} [DecidableEq α] [Datum α] : PyIx (Tup α) α := ⟨fun x i => atI x.items i, fun _ => True, fun _ h ha hb hs => ev_ixT ha hb h hs⟩
/-- a[lo:hi] -/
class PySl (α : Type) [DecidableEq α] [Datum α] where
  sl : α → Option Int → Option Int → α
  ok : α → Prop
  rule : ∀ {X : Cx} {B : Bs} {Γ : List Ent} {c1 c2 c3 : Nat} {a : Expr} {lo hi : Option Expr} {pos p2 : Pos} {x : α} {l u : Option Int}, ok x → Ev X B Γ c1 a (Sd (dt x)) → Pv X B Γ c2 lo l → Pv X B Γ c3 hi u → Ev X B Γ (c1 + (c2 + c3)) (.Subscript a (.Slice lo hi none p2) pos) (Sd (dt (sl x l u)))
instance : PySl Str := ⟨cutS, fun x => x.length ≤ sizeLine, fun hz ha hl hu => ev_slS ha hl hu hz⟩
instance {α : Type} [DecidableEq α] [Datum α] : PySl (List α) := ⟨cut, fun _ => True, fun _ ha hl hu => ev_sh (ev_slL ha hl hu)⟩
instance {α : Type} [DecidableEq α] [Datum α] : PySl (Tup α) := ⟨fun x l u => ⟨cut x.items l u⟩, fun _ => True, fun _ ha hl hu => ev_slT ha hl hu⟩
/-- len(a) -/
class PyLen (α : Type) [DecidableEq α] [Datum α] where
  len : α → Nat
  ok : α → Prop
  rule : ∀ {X : Cx} {B : Bs} {Γ : List Ent} {c : Nat} {e : Expr} {p pos : Pos} {x : α}, X.mg "len" = none → ok x → Ev X B Γ c e (Sd (dt x)) → Gl X "len" → starEach [e] X.env = (false, eval e X.env) :: starEach [] X.env → (backTo pos (starEach [] X.env)).any (·.1) = false → Ev X B Γ (c + 0) (.Call (.Name "len" p) [e] [] pos) (Sd (dt ((len x : Nat) : Int)))
instance : PyLen Str := ⟨Str.length, fun x => x.length ≤ sizeLine, fun hm hz ha hg h1 h2 => ev_callB call_len_str hm (av_cons ha av_nil h1) (ok_lenS hz) hg PySem.boot_len (by decide) (by decide) h1 h2⟩
instance {α : Type} [DecidableEq α] [Datum α] : PyLen (List α) := ⟨List.length, fun _ => True, fun hm _ ha hg h1 h2 => ev_callB call_len_seq hm (av_cons ha av_nil h1) ok_lenL hg PySem.boot_len (by decide) (by decide) h1 h2⟩
instance {α : Type} [DecidableEq α] [Datum α] : PyLen (Tup α) := ⟨fun x => x.items.length, fun _ => True, fun hm _ ha hg h1 h2 => ev_callB call_len_seq hm (av_cons ha av_nil h1) ok_lenT hg PySem.boot_len (by decide) (by decide) h1 h2⟩
/-- what is walked -/
class PyIt (α : Type) [DecidableEq α] [Datum α] (β : outParam Type) [DecidableEq β] [Datum β] where
  its : α → List β
  ok : α → Prop
  rule : ∀ {X : Cx} {B : Bs} {Γ : List Ent} {c : Nat} {tg e : Expr} {x : α}, ok x → Ev X B Γ c e (Sd (dt x)) → Iv X B Γ c tg e (fun l => ∃ ys, ys = its x ∧ l = ys.map dt)
instance : PyIt Str Str := ⟨signs, fun x => x.length ≤ sizeLine, fun hz h => iv_str h hz⟩
instance {α : Type} [DecidableEq α] [Datum α] : PyIt (List α) α := ⟨fun xs => xs, fun _ => True, fun _ h => iv_list h⟩
instance {α : Type} [DecidableEq α] [Datum α] : PyIt (Tup α) α := ⟨fun xs => xs.items, fun _ => True, fun _ h => iv_tup h⟩
section
variable {X : Cx} {B : Bs} {Γ : List Ent} {c c1 c2 c3 : Nat} {a b e tg : Expr} {es : List Expr} {p pos p2 : Pos} {α β : Type} [DecidableEq α] [Datum α] [DecidableEq β] [Datum β]
theorem py_in [i : PyIn α β] {x : α} {y : β} (hu : Hu X) (ha : Ev X B Γ c1 a (Sd (dt x))) (hb : Ev X B Γ c2 b (Sd (dt y))) (hm : behindInMarks .In b = false := by rfl) : Ev X B Γ (c1 + c2) (.Compare a [.In] [b] pos) (Sd (dt (PyIn.mem x y))) := ev_B (i.rule hu) hm ha hb
theorem py_nin [i : PyIn α β] {x : α} {y : β} (hu : Hu X) (ha : Ev X B Γ c1 a (Sd (dt x))) (hb : Ev X B Γ c2 b (Sd (dt y))) (hm : behindInMarks .NotIn b = false := by rfl) : Ev X B Γ (c1 + c2) (.Compare a [.NotIn] [b] pos) (Sd (dt (!PyIn.mem x y))) := ev_B (g := fun x y => !PyIn.mem x y) (i.ruleN hu) hm ha hb
theorem py_add [i : PyAdd α] {x y : α} (ha : Ev X B Γ c1 a (Sd (dt x))) (hb : Ev X B Γ c2 b (Sd (dt y))) (h : PyAdd.ok x y) : Ev X B Γ (c1 + c2) (.BinOp a .Add b pos) (Sd (dt (PyAdd.add x y))) := i.rule h ha hb
theorem py_ix [i : PyIx α β] {x : α} {k : Int} {y : β} (ha : Ev X B Γ c1 a (Sd (dt x))) (hb : Ev X B Γ c2 b (Sd (dt k))) (h : PyIx.get x k = some y) (ho : i.ok x) (hs : PlainIx b := by exact fun _ _ => rfl) : Ev X B Γ (c1 + c2) (.Subscript a b pos) (Sd (dt y)) := i.rule ho h ha hb hs
theorem py_sl [i : PySl α] {x : α} {lo hi : Option Expr} {l u : Option Int} (ha : Ev X B Γ c1 a (Sd (dt x))) (hl : Pv X B Γ c2 lo l) (hu : Pv X B Γ c3 hi u) (h : PySl.ok x) : Ev X B Γ (c1 + (c2 + c3)) (.Subscript a (.Slice lo hi none p2) pos) (Sd (dt (PySl.sl x l u))) := i.rule h ha hl hu
theorem py_len [i : PyLen α] {x : α} (hm : X.mg "len" = none) (h : Ev X B Γ c e (Sd (dt x))) (ho : PyLen.ok x) (hg : Gl X "len" := by rfl) (h1 : starEach [e] X.env = (false, eval e X.env) :: starEach [] X.env := by rfl) (h2 : (backTo pos (starEach [] X.env)).any (·.1) = false := by rfl) : Ev X B Γ (c + 0) (.Call (.Name "len" p) [e] [] pos) (Sd (dt ((PyLen.len x : Nat) : Int))) := i.rule hm ho h hg h1 h2
theorem py_it [i : PyIt α β] {x : α} (h : Ev X B Γ c e (Sd (dt x))) (ho : i.ok x) : Iv X B Γ c tg e (fun l => ∃ ys, ys = i.its x ∧ l = ys.map dt) := i.rule ho h
theorem py_all {bs : List Bool} (hc : X.calm = true) (hm : X.mg "all" = none) (h : Ev X B Γ c e (Sd (dt bs))) (hg : Gl X "all" := by rfl) (h1 : starEach [e] X.env = (false, eval e X.env) :: starEach [] X.env := by rfl) (h2 : (backTo pos (starEach [] X.env)).any (·.1) = false := by rfl) : Ev X B Γ (c + 0) (.Call (.Name "all" p) [e] [] pos) (Sd (dt (bs.all id))) := ev_callB (cr_all hc) hm (av_cons h av_nil h1) ok_all hg (by decide +kernel) (by decide) (by decide) h1 h2
theorem py_any {bs : List Bool} (hc : X.calm = true) (hm : X.mg "any" = none) (h : Ev X B Γ c e (Sd (dt bs))) (hg : Gl X "any" := by rfl) (h1 : starEach [e] X.env = (false, eval e X.env) :: starEach [] X.env := by rfl) (h2 : (backTo pos (starEach [] X.env)).any (·.1) = false := by rfl) : Ev X B Γ (c + 0) (.Call (.Name "any" p) [e] [] pos) (Sd (dt (bs.any id))) := ev_callB (cr_any hc) hm (av_cons h av_nil h1) ok_any hg (by decide +kernel) (by decide) (by decide) h1 h2
theorem py_sum {bs : List Int} (hc : X.calm = true) (hm : X.mg "sum" = none) (h : Ev X B Γ c e (Sd (dt bs))) (hg : Gl X "sum" := by rfl) (h1 : starEach [e] X.env = (false, eval e X.env) :: starEach [] X.env := by rfl) (h2 : (backTo pos (starEach [] X.env)).any (·.1) = false := by rfl) : Ev X B Γ (c + 0) (.Call (.Name "sum" p) [e] [] pos) (Sd (dt bs.sum)) := ev_callB (cr_sum hc) hm (av_cons h av_nil h1) ok_sum hg (by decide +kernel) (by decide) (by decide) h1 h2
end
/-! ### contracts -/
section
variable {α β γ δ : Type} [DecidableEq α] [Datum α] [DecidableEq β] [Datum β] [DecidableEq γ] [Datum γ] [DecidableEq δ] [Datum δ]
abbrev Ct := List D → (Ent → Prop) → Prop
def C1 (pre : α → Prop) (f : α → β) : Ct := fun ds S => ∃ x, ds = [dt x] ∧ pre x ∧ S = Sd (dt (f x))
def C2 (pre : α → β → Prop) (f : α → β → γ) : Ct := fun ds S => ∃ x y, ds = [dt x, dt y] ∧ pre x y ∧ S = Sd (dt (f x y))
def C3 (pre : α → β → γ → Prop) (f : α → β → γ → δ) : Ct := fun ds S => ∃ x y z, ds = [dt x, dt y, dt z] ∧ pre x y z ∧ S = Sd (dt (f x y z))
def O1 (pre : α → Prop) (f : α → β) : Ct := fun ds S => ∃ x, ds = [dt x] ∧ pre x ∧ S = So (dt (f x))
def O2 (pre : α → β → Prop) (f : α → β → γ) : Ct := fun ds S => ∃ x y, ds = [dt x, dt y] ∧ pre x y ∧ S = So (dt (f x y))
/-- of any data -/
def CD1 (pre : D → Prop) (f : D → α) : Ct := fun ds S => ∃ x, ds = [x] ∧ pre x ∧ S = Sd (dt (f x))
def CD2 (pre : D → D → Prop) (f : D → D → α) : Ct := fun ds S => ∃ x y, ds = [x, y] ∧ pre x y ∧ S = Sd (dt (f x y))
end
end DL
end

section
set_option Elab.async false
set_option linter.all false
set_option maxRecDepth 100000
set_option maxHeartbeats 4000000
set_option autoImplicit false
/-! DlK: comparisons as tests. -/
namespace DL
open PySem PySem.Spec PyProof.Rows L2 PySem.W PySem.SeqAt
variable [Wd]
section
variable {X : Cx} {B : Bs} {Γ : List Ent} {c c1 c2 c3 : Nat} {a b e tg : Expr} {es : List Expr} {p pos p2 : Pos} {α β : Type} [DecidableEq α] [Datum α] [DecidableEq β] [Datum β] {P1 P2 : D → Prop}
theorem tv_cmpN {op : CmpOp} {r : R2} {S : Bool → Prop} (ho : OpR X (compareOp op) r) (hm : behindInMarks op b = false) (ha : Ev X B Γ c1 a (Sp P1)) (hb : Ev X B Γ c2 b (Sp P2)) (hr : ∀ d1 d2, P1 d1 → P2 d2 → R2ok X.K r d1 d2 (Sp fun d => ∃ b : Bool, d = dt b ∧ S b)) : Tv X B Γ (c1 + c2) (.Compare a [op] [b] pos) S :=
  pt_mono (pt_cmpR ho ha hb hm) fun σ H Q ⟨n, G, p, k⟩ => by
    refine seq2 (S := Sp fun d => ∃ b : Bool, d = dt b ∧ S b) hr ⟨n, G, p, fun v H' G' n' r hn st vl hS hr => ?_⟩ (fun _ _ _ z => z) (fun _ _ _ z => z)
    obtain ⟨d, ⟨x, rfl, hx⟩, rfl⟩ := hS
    cases hr with | sh den => rw [dp_bool den.dp]; exact ⟨x, rfl, k x H' G' n' hn st vl hx⟩
theorem tv_B {op : CmpOp} {g : α → β → Bool} {x : α} {y : β} (rule : ∀ (s : Shared) (v u : Value) (a : α) (b : β) (Q E : Value → Shared → Prop), Holds s.heap v a → Holds s.heap u b → Q (.bool (g a b)) s → wpAny (model X.prog X.w) X.A (compareOp op v u) Q E s)
    (hm : behindInMarks op b = false) (ha : Ev X B Γ c1 a (Sd (dt x))) (hb : Ev X B Γ c2 b (Sd (dt y))) : Tv X B Γ (c1 + c2) (.Compare a [op] [b] pos) (fun r => r = g x y) :=
  tv_cmpN (opr_B rule) hm (ev_sp ha) (ev_sp hb) fun d1 d2 e1 e2 => by
    subst e1; subst e2
    exact fun n G H u v Q vl h1 h2 k => ok_B n G H u v Q vl h1 h2 fun v' H' G' r' st v2 hS hr => k v' H' G' r' st v2 ⟨_, ⟨_, rfl, rfl⟩, hS⟩ hr
theorem tv_eq {x y : α} (hu : Hu X) (ha : Ev X B Γ c1 a (Sd (dt x))) (hb : Ev X B Γ c2 b (Sd (dt y))) (hd : Datum.depth α ≤ 64 := by decide) : Tv X B Γ (c1 + c2) (.Compare a [.Eq] [b] pos) (fun r => r = decide (x = y)) :=
  tv_B (g := fun (x : α) (y : α) => decide (x = y)) (fun s v u a b Q E h1 h2 q => eq_datum h1 h2 (by omega) q) (nobehind _ (by decide) (by decide)) ha hb
theorem tv_ne {x y : α} (hu : Hu X) (ha : Ev X B Γ c1 a (Sd (dt x))) (hb : Ev X B Γ c2 b (Sd (dt y))) (hd : Datum.depth α ≤ 64 := by decide) : Tv X B Γ (c1 + c2) (.Compare a [.NotEq] [b] pos) (fun r => r = decide (x ≠ y)) :=
  tv_B (g := fun (x : α) (y : α) => decide (x ≠ y)) (fun s v u a b Q E h1 h2 q => ne_datum h1 h2 (by omega) q) (nobehind _ (by decide) (by decide)) ha hb
theorem tv_in [i : PyIn α β] {x : α} {y : β} (hu : Hu X) (ha : Ev X B Γ c1 a (Sd (dt x))) (hb : Ev X B Γ c2 b (Sd (dt y))) (hm : behindInMarks .In b = false := by rfl) : Tv X B Γ (c1 + c2) (.Compare a [.In] [b] pos) (fun r => r = PyIn.mem x y) := tv_B (i.rule hu) hm ha hb
theorem tv_nin [i : PyIn α β] {x : α} {y : β} (hu : Hu X) (ha : Ev X B Γ c1 a (Sd (dt x))) (hb : Ev X B Γ c2 b (Sd (dt y))) (hm : behindInMarks .NotIn b = false := by rfl) : Tv X B Γ (c1 + c2) (.Compare a [.NotIn] [b] pos) (fun r => r = !PyIn.mem x y) := tv_B (g := fun x y => !PyIn.mem x y) (i.ruleN hu) hm ha hb
end
section
variable {X : Cx} {B : Bs} {Γ : List Ent} {c c1 c2 c3 : Nat} {a b e tg : Expr} {es : List Expr} {p pos p2 : Pos} {α : Type} [DecidableEq α] [DatumOrd α]
theorem tv_lt {x y : α} (hu : Hu X) (ha : Ev X B Γ c1 a (Sd (dt x))) (hb : Ev X B Γ c2 b (Sd (dt y))) (hd : Datum.depth α ≤ 64 := by decide) : Tv X B Γ (c1 + c2) (.Compare a [.Lt] [b] pos) (fun r => r = DatumOrd.lt x y) :=
  tv_B (g := fun (x : α) (y : α) => DatumOrd.lt x y) (fun s v u a b Q E h1 h2 q => lt_datum h1 h2 (by omega) q) (nobehind _ (by decide) (by decide)) ha hb
theorem tv_gt {x y : α} (hu : Hu X) (ha : Ev X B Γ c1 a (Sd (dt x))) (hb : Ev X B Γ c2 b (Sd (dt y))) (hd : Datum.depth α ≤ 64 := by decide) : Tv X B Γ (c1 + c2) (.Compare a [.Gt] [b] pos) (fun r => r = DatumOrd.lt y x) :=
  tv_B (g := fun (x : α) (y : α) => DatumOrd.lt y x) (fun s v u a b Q E h1 h2 q => gt_datum h1 h2 (by omega) q) (nobehind _ (by decide) (by decide)) ha hb
theorem tv_le {x y : α} (hu : Hu X) (ha : Ev X B Γ c1 a (Sd (dt x))) (hb : Ev X B Γ c2 b (Sd (dt y))) (hd : Datum.depth α ≤ 64 := by decide) : Tv X B Γ (c1 + c2) (.Compare a [.LtE] [b] pos) (fun r => r = !DatumOrd.lt y x) :=
  tv_B (g := fun (x : α) (y : α) => !DatumOrd.lt y x) (fun s v u a b Q E h1 h2 q => le_datum h1 h2 (by omega) q) (nobehind _ (by decide) (by decide)) ha hb
theorem tv_ge {x y : α} (hu : Hu X) (ha : Ev X B Γ c1 a (Sd (dt x))) (hb : Ev X B Γ c2 b (Sd (dt y))) (hd : Datum.depth α ≤ 64 := by decide) : Tv X B Γ (c1 + c2) (.Compare a [.GtE] [b] pos) (fun r => r = !DatumOrd.lt x y) :=
  tv_B (g := fun (x : α) (y : α) => !DatumOrd.lt x y) (fun s v u a b Q E h1 h2 q => ge_datum h1 h2 (by omega) q) (nobehind _ (by decide) (by decide)) ha hb
end
end DL
end

section
set_option Elab.async false
set_option linter.all false
set_option maxRecDepth 100000
set_option maxHeartbeats 4000000
set_option autoImplicit false
/-! DlL: what the top has made. -/
namespace DL
open PySem PySem.Spec PyProof.Rows L2 PySem.W PySem.SeqAt
theorem df_of {K : PySem.W.Frag} {mg : Str → Option Value} {h : Heap} {x : Str} {st : Stmt} {ps : List Str} (X : K.In h) (G : h.Ns mainGlobals mg) {f : Addr} {oc : Value} {od an : Option Addr} {osl : Array (Option Value)} {kV doc pm cdv ct : Value}
    (hb : ∀ (kV doc pm : Value) (an : Option Addr) (cdv ct : Value) (us : List Value), us.length = ps.length → bindArgs (PySem.W.fnOf x x (defArgs st) (defBody st) (defScope st) .none kV doc pm an cdv ct) ⟨us, []⟩ = pure (ps.zip us))
    (a : PySem.W.nsIn K mainGlobals x = some (some (.ref f))) (l : K.lookup f = some ⟨oc, od, .func (PySem.W.fnOf x x (defArgs st) (defBody st) (defScope st) .none kV doc pm an cdv ct), osl⟩) (c : PySem.W.codeIn K cdv x = true) (k : PySem.W.keepIn K (.ref f) = true) : Df K mg x st ps :=
  ⟨f, _, fun_mk l c k, PySem.W.mg_of X G a, (fun_mk l c k).binds hb⟩
/-- a method as the top has made it -/
structure DfM (K : PySem.W.Frag) (C : Addr) (m qual : Str) (st : Stmt) (ps : List Str) : Prop where
  ex : ∃ f fd, Fun K m qual st f fd ∧ Meth K C m f ∧ Binds K fd ps []
/-- a class of books -/
structure BookF (K : PySem.W.Frag) (mg : Str → Option Value) (sI sC sV : Stmt) (C : Addr) : Prop where
  cl : L2.Cls K C
  mgC : mg "Book" = some (.ref C)
  mks : PySem.W.makesIn K C = true
  kp : PySem.W.keepIn K (.ref C) = true
  isi : C8.InsC K C
  nR : NoAttr K C "rows"
  nN : NoAttr K C "names"
  nK : NoAttr K C "known"
  mI : DfM K C "__init__" "Book.__init__" sI ["self", "clauses"]
  mC : DfM K C "clauses" "Book.clauses" sC ["self"]
  mV : DfM K C "variables" "Book.variables" sV ["self"]
theorem kit_self {K : PySem.W.Frag} {C : Addr} : PySem.W.kitOne K (.ref C) (.ref C) = some true := by
  unfold PySem.W.kitOne
  exact if_pos (by first | exact beq_self_eq_true _ | simp | rfl)
theorem book_of {K : PySem.W.Frag} {mg : Str → Option Value} {h : Heap} {sI sC sV : Stmt} (X : K.In h) (G : h.Ns mainGlobals mg) {C f1 f2 f3 : Addr}
    {od1 an1 od2 an2 od3 an3 : Option Addr} {sl1 sl2 sl3 : Array (Option Value)} {oc1 kV1 dc1 pm1 cd1 ct1 oc2 kV2 dc2 pm2 cd2 ct2 oc3 kV3 dc3 pm3 cd3 ct3 : Value}
    (b1 : ∀ (kV doc pm : Value) (an : Option Addr) (cdv ct : Value) (us : List Value), us.length = 2 → bindArgs (PySem.W.fnOf "__init__" "Book.__init__" (defArgs sI) (defBody sI) (defScope sI) .none kV doc pm an cdv ct) ⟨us, []⟩ = pure ((["self", "clauses"] : List Str).zip us))
    (b2 : ∀ (kV doc pm : Value) (an : Option Addr) (cdv ct : Value) (us : List Value), us.length = 1 → bindArgs (PySem.W.fnOf "clauses" "Book.clauses" (defArgs sC) (defBody sC) (defScope sC) .none kV doc pm an cdv ct) ⟨us, []⟩ = pure ((["self"] : List Str).zip us))
    (b3 : ∀ (kV doc pm : Value) (an : Option Addr) (cdv ct : Value) (us : List Value), us.length = 1 → bindArgs (PySem.W.fnOf "variables" "Book.variables" (defArgs sV) (defBody sV) (defScope sV) .none kV doc pm an cdv ct) ⟨us, []⟩ = pure ((["self"] : List Str).zip us))
    (aC : PySem.W.nsIn K mainGlobals "Book" = some (some (.ref C)))
    (a1 : PySem.W.findIn K (.ref C) "__init__" = some (some (.ref f1))) (i1 : PySem.W.isFn K (.ref f1) = true) (l1 : K.lookup f1 = some ⟨oc1, od1, .func (PySem.W.fnOf "__init__" "Book.__init__" (defArgs sI) (defBody sI) (defScope sI) .none kV1 dc1 pm1 an1 cd1 ct1), sl1⟩) (c1 : PySem.W.codeIn K cd1 "Book.__init__" = true) (k1 : PySem.W.keepIn K (.ref f1) = true)
    (a2 : PySem.W.findIn K (.ref C) "clauses" = some (some (.ref f2))) (i2 : PySem.W.isFn K (.ref f2) = true) (l2 : K.lookup f2 = some ⟨oc2, od2, .func (PySem.W.fnOf "clauses" "Book.clauses" (defArgs sC) (defBody sC) (defScope sC) .none kV2 dc2 pm2 an2 cd2 ct2), sl2⟩) (c2 : PySem.W.codeIn K cd2 "Book.clauses" = true) (k2 : PySem.W.keepIn K (.ref f2) = true)
    (a3 : PySem.W.findIn K (.ref C) "variables" = some (some (.ref f3))) (i3 : PySem.W.isFn K (.ref f3) = true) (l3 : K.lookup f3 = some ⟨oc3, od3, .func (PySem.W.fnOf "variables" "Book.variables" (defArgs sV) (defBody sV) (defScope sV) .none kV3 dc3 pm3 an3 cd3 ct3), sl3⟩) (c3 : PySem.W.codeIn K cd3 "Book.variables" = true) (k3 : PySem.W.keepIn K (.ref f3) = true)
    (pg : PySem.W.plainGet K C Str.empty = true) (hd : PySem.W.hasDictIn K C = true) (po : PySem.W.plainOver K C = true) (sa : PySem.W.findIn K (.ref C) "__setattr__" = some (some (.builtin "object.__setattr__"))) (mk : PySem.W.makesIn K C = true) (kc : PySem.W.keepIn K (.ref C) = true)
    (nR : PySem.W.findIn K (.ref C) "rows" = some none) (nN : PySem.W.findIn K (.ref C) "names" = some none) (nK : PySem.W.findIn K (.ref C) "known" = some none)
    (ha : PySem.W.findIn K (.ref C) "__class__" = some (some (.builtin "object.__class__"))) (hn : PySem.W.specialIn K (.builtin "object.__class__") "__get__" = some (some (.builtin "getset_descriptor.__get__"))) (htk : PySem.W.takesIn K (.builtin "object.__class__") = some true)
    (hm : PySem.W.mroIn K C (.type "object") = some true) : ∃ C, BookF K mg sI sC sV C :=
  ⟨C, ⟨pg, hd, po, sa⟩, PySem.W.mg_of X G aC, mk, kc, ⟨⟨pg, hd, po, sa⟩, ha, hn, htk, hm, kit_self⟩, nR, nN, nK,
    ⟨f1, _, fun_mk l1 c1 k1, ⟨a1, i1, k1⟩, (fun_mk l1 c1 k1).binds b1⟩, ⟨f2, _, fun_mk l2 c2 k2, ⟨a2, i2, k2⟩, (fun_mk l2 c2 k2).binds b2⟩, ⟨f3, _, fun_mk l3 c3 k3, ⟨a3, i3, k3⟩, (fun_mk l3 c3 k3).binds b3⟩⟩
end DL
end

section
set_option Elab.async false
set_option linter.all false
set_option maxRecDepth 100000
open PySem PySem.W PyProof.Rows
namespace Lk36
set_option maxHeartbeats 0 in
open_top hd for PySem.Challenge.rw_lookdepths_k36_whole_fillings
open PySem.Spec L2 PySem.SeqAt DL
/-! the text by places -/
def top (i : Nat) : Stmt := PySem.Challenge.pw_lookdepths_k36_whole_fillings.main.body.getD i (.Pass ⟨0,0,0,0⟩)
abbrev s_is_word : Stmt := top 6
abbrev s_is_rising : Stmt := top 7
abbrev s_is_literal : Stmt := top 9
abbrev s_turned_one : Stmt := top 10
abbrev s_bare : Stmt := top 11
abbrev s_are_unlike : Stmt := top 12
abbrev s_is_clause : Stmt := top 13
abbrev s_in_order : Stmt := top 14
abbrev s_are_clauses : Stmt := top 17
abbrev s_names_in : Stmt := top 18
abbrev s_check_book : Stmt := top 19
abbrev s_breaks : Stmt := top 20
abbrev s_both_of : Stmt := top 22
abbrev s_all_fillings : Stmt := top 24
abbrev s_fillings_of : Stmt := top 25
abbrev s_many_fillings : Stmt := top 26
abbrev s_any_filling : Stmt := top 27
abbrev s_sure_literals : Stmt := top 28
abbrev s__law_purse : Stmt := top 30
abbrev s__law_mixed : Stmt := top 31
abbrev s__law_draw : Stmt := top 32
abbrev s__law_purses : Stmt := top 33
abbrev s__law_one_of : Stmt := top 34
abbrev s__law_shuffled : Stmt := top 35
abbrev s__law_exact : Stmt := top 36
abbrev s__law_word : Stmt := top 37
abbrev s__law_words : Stmt := top 38
abbrev s__law_contrary : Stmt := top 39
abbrev s__law_bare : Stmt := top 40
abbrev s__law_clause : Stmt := top 41
abbrev s__law_rows : Stmt := top 42
abbrev s__law_names : Stmt := top 43
abbrev s__law_breaks : Stmt := top 44
abbrev s__law_broken : Stmt := top 45
abbrev s__law_parts : Stmt := top 46
abbrev s__law_fillings : Stmt := top 47
abbrev s__law_drawn_clause : Stmt := top 48
abbrev s__law_drawn : Stmt := top 49
abbrev s__law_unfilled : Stmt := top 50
abbrev s__law_signs : Stmt := top 51
abbrev s__law_ring : Stmt := top 52
abbrev s__law_turned : Stmt := top 53
abbrev s__law_hard : Stmt := top 54
abbrev s__law_book : Stmt := top 55
abbrev s__law_made : Stmt := top 56
abbrev s__law_open_book : Stmt := top 57
abbrev s__law_book_right : Stmt := top 58
abbrev s_law : Stmt := top 59
abbrev s_Book_init : Stmt := inClass (top 16) 0
abbrev s_Book_clauses : Stmt := inClass (top 16) 1
abbrev s_Book_variables : Stmt := inClass (top 16) 2
abbrev s_Book_eq : Stmt := inClass (top 16) 3
/-- what the top has made -/
structure Facts (K : PySem.W.Frag) (mg : Str → Option Value) : Prop where
  F_is_word : Df K mg "is_word" s_is_word ["value"]
  F_is_rising : Df K mg "is_rising" s_is_rising ["things"]
  F_is_literal : Df K mg "is_literal" s_is_literal ["value"]
  F_turned_one : Df K mg "turned_one" s_turned_one ["literal"]
  F_bare : Df K mg "bare" s_bare ["literal"]
  F_are_unlike : Df K mg "are_unlike" s_are_unlike ["literals"]
  F_is_clause : Df K mg "is_clause" s_is_clause ["value"]
  F_in_order : Df K mg "in_order" s_in_order ["literals"]
  F_are_clauses : Df K mg "are_clauses" s_are_clauses ["value"]
  F_names_in : Df K mg "names_in" s_names_in ["rows"]
  F_check_book : Df K mg "check_book" s_check_book ["value"]
  F_breaks : Df K mg "breaks" s_breaks ["part", "clause"]
  F_both_of : Df K mg "both_of" s_both_of ["names"]
  F_all_fillings : Df K mg "all_fillings" s_all_fillings ["book"]
  F_fillings_of : Df K mg "fillings_of" s_fillings_of ["book"]
  F_many_fillings : Df K mg "many_fillings" s_many_fillings ["book"]
  F_any_filling : Df K mg "any_filling" s_any_filling ["book"]
  F_sure_literals : Df K mg "sure_literals" s_sure_literals ["book"]
  F__law_purse : Df K mg "_law_purse" s__law_purse ["_law_script", "_law_at"]
  F__law_mixed : Df K mg "_law_mixed" s__law_mixed ["_law_seed", "_law_spin", "_law_at"]
  F__law_draw : Df K mg "_law_draw" s__law_draw ["_law_purse_here", "_law_many"]
  F__law_purses : Df K mg "_law_purses" s__law_purses ["_law_script", "_law_few"]
  F__law_one_of : Df K mg "_law_one_of" s__law_one_of ["_law_purse_here", "_law_some"]
  F__law_shuffled : Df K mg "_law_shuffled" s__law_shuffled ["_law_purse_here", "_law_some"]
  F__law_exact : Df K mg "_law_exact" s__law_exact ["_law_mine", "_law_theirs"]
  F__law_word : Df K mg "_law_word" s__law_word ["_law_purse_here"]
  F__law_words : Df K mg "_law_words" s__law_words ["_law_purse_here", "_law_many"]
  F__law_contrary : Df K mg "_law_contrary" s__law_contrary ["_law_literal"]
  F__law_bare : Df K mg "_law_bare" s__law_bare ["_law_literal"]
  F__law_clause : Df K mg "_law_clause" s__law_clause ["_law_literals"]
  F__law_rows : Df K mg "_law_rows" s__law_rows ["_law_clauses"]
  F__law_names : Df K mg "_law_names" s__law_names ["_law_rows_here"]
  F__law_breaks : Df K mg "_law_breaks" s__law_breaks ["_law_part", "_law_clause_here"]
  F__law_broken : Df K mg "_law_broken" s__law_broken ["_law_rows_here", "_law_part"]
  F__law_parts : Df K mg "_law_parts" s__law_parts ["_law_names_here"]
  F__law_fillings : Df K mg "_law_fillings" s__law_fillings ["_law_rows_here", "_law_names_here"]
  F__law_drawn_clause : Df K mg "_law_drawn_clause" s__law_drawn_clause ["_law_purse_here", "_law_names_here", "_law_most"]
  F__law_drawn : Df K mg "_law_drawn" s__law_drawn ["_law_purse_here", "_law_names_here", "_law_many"]
  F__law_unfilled : Df K mg "_law_unfilled" s__law_unfilled ["_law_purse_here", "_law_names_here", "_law_many"]
  F__law_signs : Df K mg "_law_signs" s__law_signs ["_law_names_here"]
  F__law_ring : Df K mg "_law_ring" s__law_ring ["_law_names_here"]
  F__law_turned : Df K mg "_law_turned" s__law_turned ["_law_rows_here", "_law_names_here"]
  F__law_hard : Df K mg "_law_hard" s__law_hard ["_law_purse_here", "_law_many"]
  F__law_book : Df K mg "_law_book" s__law_book ["_law_purse_here", "_law_many"]
  F__law_made : Df K mg "_law_made" s__law_made ["_law_rows_here"]
  F__law_open_book : Df K mg "_law_open_book" s__law_open_book ["_law_purse_here"]
  F__law_book_right : Df K mg "_law_book_right" s__law_book_right ["_law_rows_here"]
  F_law : Df K mg "law" s_law ["_law_script"]
  m_ValueError : mg "ValueError" = none
  m_all : mg "all" = none
  m_any : mg "any" = none
  m_bool : mg "bool" = none
  m_dict : mg "dict" = none
  m_int : mg "int" = none
  m_isinstance : mg "isinstance" = none
  m_len : mg "len" = none
  m_list : mg "list" = none
  m_max : mg "max" = none
  m_min : mg "min" = none
  m_range : mg "range" = none
  m_set : mg "set" = none
  m_sorted : mg "sorted" = none
  m_str : mg "str" = none
  m_sum : mg "sum" = none
  m_super : mg "super" = none
  m_tuple : mg "tuple" = none
  m_zip : mg "zip" = none
  book : ∃ C, BookF K mg s_Book_init s_Book_clauses s_Book_variables C
set_option maxHeartbeats 0 in
theorem facts (w : World) (mg : Str → Option Value) (h : Heap) (KX : (hd.heap_39 w.params).In h) (G : h.Ns mainGlobals mg) : Facts (hd.heap_39 w.params) mg := by
  have F_is_word : Df (hd.heap_39 w.params) mg "is_word" s_is_word ["value"] := by
    refine' df_of KX G (fun _ _ _ _ _ _ us hl => match us, hl with | [_], _ => rfl) ?a ?l ?c ?k
    (case a => k_is); (case l => k_is); (case c => k_is); (case k => k_is)
  have F_is_rising : Df (hd.heap_39 w.params) mg "is_rising" s_is_rising ["things"] := by
    refine' df_of KX G (fun _ _ _ _ _ _ us hl => match us, hl with | [_], _ => rfl) ?a ?l ?c ?k
    (case a => k_is); (case l => k_is); (case c => k_is); (case k => k_is)
  have F_is_literal : Df (hd.heap_39 w.params) mg "is_literal" s_is_literal ["value"] := by
    refine' df_of KX G (fun _ _ _ _ _ _ us hl => match us, hl with | [_], _ => rfl) ?a ?l ?c ?k
    (case a => k_is); (case l => k_is); (case c => k_is); (case k => k_is)
  have F_turned_one : Df (hd.heap_39 w.params) mg "turned_one" s_turned_one ["literal"] := by
    refine' df_of KX G (fun _ _ _ _ _ _ us hl => match us, hl with | [_], _ => rfl) ?a ?l ?c ?k
    (case a => k_is); (case l => k_is); (case c => k_is); (case k => k_is)
  have F_bare : Df (hd.heap_39 w.params) mg "bare" s_bare ["literal"] := by
    refine' df_of KX G (fun _ _ _ _ _ _ us hl => match us, hl with | [_], _ => rfl) ?a ?l ?c ?k
    (case a => k_is); (case l => k_is); (case c => k_is); (case k => k_is)
  have F_are_unlike : Df (hd.heap_39 w.params) mg "are_unlike" s_are_unlike ["literals"] := by
    refine' df_of KX G (fun _ _ _ _ _ _ us hl => match us, hl with | [_], _ => rfl) ?a ?l ?c ?k
    (case a => k_is); (case l => k_is); (case c => k_is); (case k => k_is)
  have F_is_clause : Df (hd.heap_39 w.params) mg "is_clause" s_is_clause ["value"] := by
    refine' df_of KX G (fun _ _ _ _ _ _ us hl => match us, hl with | [_], _ => rfl) ?a ?l ?c ?k
    (case a => k_is); (case l => k_is); (case c => k_is); (case k => k_is)
  have F_in_order : Df (hd.heap_39 w.params) mg "in_order" s_in_order ["literals"] := by
    refine' df_of KX G (fun _ _ _ _ _ _ us hl => match us, hl with | [_], _ => rfl) ?a ?l ?c ?k
    (case a => k_is); (case l => k_is); (case c => k_is); (case k => k_is)
  have F_are_clauses : Df (hd.heap_39 w.params) mg "are_clauses" s_are_clauses ["value"] := by
    refine' df_of KX G (fun _ _ _ _ _ _ us hl => match us, hl with | [_], _ => rfl) ?a ?l ?c ?k
    (case a => k_is); (case l => k_is); (case c => k_is); (case k => k_is)
  have F_names_in : Df (hd.heap_39 w.params) mg "names_in" s_names_in ["rows"] := by
    refine' df_of KX G (fun _ _ _ _ _ _ us hl => match us, hl with | [_], _ => rfl) ?a ?l ?c ?k
    (case a => k_is); (case l => k_is); (case c => k_is); (case k => k_is)
  have F_check_book : Df (hd.heap_39 w.params) mg "check_book" s_check_book ["value"] := by
    refine' df_of KX G (fun _ _ _ _ _ _ us hl => match us, hl with | [_], _ => rfl) ?a ?l ?c ?k
    (case a => k_is); (case l => k_is); (case c => k_is); (case k => k_is)
  have F_breaks : Df (hd.heap_39 w.params) mg "breaks" s_breaks ["part", "clause"] := by
    refine' df_of KX G (fun _ _ _ _ _ _ us hl => match us, hl with | [_, _], _ => rfl) ?a ?l ?c ?k
    (case a => k_is); (case l => k_is); (case c => k_is); (case k => k_is)
  have F_both_of : Df (hd.heap_39 w.params) mg "both_of" s_both_of ["names"] := by
    refine' df_of KX G (fun _ _ _ _ _ _ us hl => match us, hl with | [_], _ => rfl) ?a ?l ?c ?k
    (case a => k_is); (case l => k_is); (case c => k_is); (case k => k_is)
  have F_all_fillings : Df (hd.heap_39 w.params) mg "all_fillings" s_all_fillings ["book"] := by
    refine' df_of KX G (fun _ _ _ _ _ _ us hl => match us, hl with | [_], _ => rfl) ?a ?l ?c ?k
    (case a => k_is); (case l => k_is); (case c => k_is); (case k => k_is)
  have F_fillings_of : Df (hd.heap_39 w.params) mg "fillings_of" s_fillings_of ["book"] := by
    refine' df_of KX G (fun _ _ _ _ _ _ us hl => match us, hl with | [_], _ => rfl) ?a ?l ?c ?k
    (case a => k_is); (case l => k_is); (case c => k_is); (case k => k_is)
  have F_many_fillings : Df (hd.heap_39 w.params) mg "many_fillings" s_many_fillings ["book"] := by
    refine' df_of KX G (fun _ _ _ _ _ _ us hl => match us, hl with | [_], _ => rfl) ?a ?l ?c ?k
    (case a => k_is); (case l => k_is); (case c => k_is); (case k => k_is)
  have F_any_filling : Df (hd.heap_39 w.params) mg "any_filling" s_any_filling ["book"] := by
    refine' df_of KX G (fun _ _ _ _ _ _ us hl => match us, hl with | [_], _ => rfl) ?a ?l ?c ?k
    (case a => k_is); (case l => k_is); (case c => k_is); (case k => k_is)
  have F_sure_literals : Df (hd.heap_39 w.params) mg "sure_literals" s_sure_literals ["book"] := by
    refine' df_of KX G (fun _ _ _ _ _ _ us hl => match us, hl with | [_], _ => rfl) ?a ?l ?c ?k
    (case a => k_is); (case l => k_is); (case c => k_is); (case k => k_is)
  have F__law_purse : Df (hd.heap_39 w.params) mg "_law_purse" s__law_purse ["_law_script", "_law_at"] := by
    refine' df_of KX G (fun _ _ _ _ _ _ us hl => match us, hl with | [_, _], _ => rfl) ?a ?l ?c ?k
    (case a => k_is); (case l => k_is); (case c => k_is); (case k => k_is)
  have F__law_mixed : Df (hd.heap_39 w.params) mg "_law_mixed" s__law_mixed ["_law_seed", "_law_spin", "_law_at"] := by
    refine' df_of KX G (fun _ _ _ _ _ _ us hl => match us, hl with | [_, _, _], _ => rfl) ?a ?l ?c ?k
    (case a => k_is); (case l => k_is); (case c => k_is); (case k => k_is)
  have F__law_draw : Df (hd.heap_39 w.params) mg "_law_draw" s__law_draw ["_law_purse_here", "_law_many"] := by
    refine' df_of KX G (fun _ _ _ _ _ _ us hl => match us, hl with | [_, _], _ => rfl) ?a ?l ?c ?k
    (case a => k_is); (case l => k_is); (case c => k_is); (case k => k_is)
  have F__law_purses : Df (hd.heap_39 w.params) mg "_law_purses" s__law_purses ["_law_script", "_law_few"] := by
    refine' df_of KX G (fun _ _ _ _ _ _ us hl => match us, hl with | [_, _], _ => rfl) ?a ?l ?c ?k
    (case a => k_is); (case l => k_is); (case c => k_is); (case k => k_is)
  have F__law_one_of : Df (hd.heap_39 w.params) mg "_law_one_of" s__law_one_of ["_law_purse_here", "_law_some"] := by
    refine' df_of KX G (fun _ _ _ _ _ _ us hl => match us, hl with | [_, _], _ => rfl) ?a ?l ?c ?k
    (case a => k_is); (case l => k_is); (case c => k_is); (case k => k_is)
  have F__law_shuffled : Df (hd.heap_39 w.params) mg "_law_shuffled" s__law_shuffled ["_law_purse_here", "_law_some"] := by
    refine' df_of KX G (fun _ _ _ _ _ _ us hl => match us, hl with | [_, _], _ => rfl) ?a ?l ?c ?k
    (case a => k_is); (case l => k_is); (case c => k_is); (case k => k_is)
  have F__law_exact : Df (hd.heap_39 w.params) mg "_law_exact" s__law_exact ["_law_mine", "_law_theirs"] := by
    refine' df_of KX G (fun _ _ _ _ _ _ us hl => match us, hl with | [_, _], _ => rfl) ?a ?l ?c ?k
    (case a => k_is); (case l => k_is); (case c => k_is); (case k => k_is)
  have F__law_word : Df (hd.heap_39 w.params) mg "_law_word" s__law_word ["_law_purse_here"] := by
    refine' df_of KX G (fun _ _ _ _ _ _ us hl => match us, hl with | [_], _ => rfl) ?a ?l ?c ?k
    (case a => k_is); (case l => k_is); (case c => k_is); (case k => k_is)
  have F__law_words : Df (hd.heap_39 w.params) mg "_law_words" s__law_words ["_law_purse_here", "_law_many"] := by
    refine' df_of KX G (fun _ _ _ _ _ _ us hl => match us, hl with | [_, _], _ => rfl) ?a ?l ?c ?k
    (case a => k_is); (case l => k_is); (case c => k_is); (case k => k_is)
  have F__law_contrary : Df (hd.heap_39 w.params) mg "_law_contrary" s__law_contrary ["_law_literal"] := by
    refine' df_of KX G (fun _ _ _ _ _ _ us hl => match us, hl with | [_], _ => rfl) ?a ?l ?c ?k
    (case a => k_is); (case l => k_is); (case c => k_is); (case k => k_is)
  have F__law_bare : Df (hd.heap_39 w.params) mg "_law_bare" s__law_bare ["_law_literal"] := by
    refine' df_of KX G (fun _ _ _ _ _ _ us hl => match us, hl with | [_], _ => rfl) ?a ?l ?c ?k
    (case a => k_is); (case l => k_is); (case c => k_is); (case k => k_is)
  have F__law_clause : Df (hd.heap_39 w.params) mg "_law_clause" s__law_clause ["_law_literals"] := by
    refine' df_of KX G (fun _ _ _ _ _ _ us hl => match us, hl with | [_], _ => rfl) ?a ?l ?c ?k
    (case a => k_is); (case l => k_is); (case c => k_is); (case k => k_is)
  have F__law_rows : Df (hd.heap_39 w.params) mg "_law_rows" s__law_rows ["_law_clauses"] := by
    refine' df_of KX G (fun _ _ _ _ _ _ us hl => match us, hl with | [_], _ => rfl) ?a ?l ?c ?k
    (case a => k_is); (case l => k_is); (case c => k_is); (case k => k_is)
  have F__law_names : Df (hd.heap_39 w.params) mg "_law_names" s__law_names ["_law_rows_here"] := by
    refine' df_of KX G (fun _ _ _ _ _ _ us hl => match us, hl with | [_], _ => rfl) ?a ?l ?c ?k
    (case a => k_is); (case l => k_is); (case c => k_is); (case k => k_is)
  have F__law_breaks : Df (hd.heap_39 w.params) mg "_law_breaks" s__law_breaks ["_law_part", "_law_clause_here"] := by
    refine' df_of KX G (fun _ _ _ _ _ _ us hl => match us, hl with | [_, _], _ => rfl) ?a ?l ?c ?k
    (case a => k_is); (case l => k_is); (case c => k_is); (case k => k_is)
  have F__law_broken : Df (hd.heap_39 w.params) mg "_law_broken" s__law_broken ["_law_rows_here", "_law_part"] := by
    refine' df_of KX G (fun _ _ _ _ _ _ us hl => match us, hl with | [_, _], _ => rfl) ?a ?l ?c ?k
    (case a => k_is); (case l => k_is); (case c => k_is); (case k => k_is)
  have F__law_parts : Df (hd.heap_39 w.params) mg "_law_parts" s__law_parts ["_law_names_here"] := by
    refine' df_of KX G (fun _ _ _ _ _ _ us hl => match us, hl with | [_], _ => rfl) ?a ?l ?c ?k
    (case a => k_is); (case l => k_is); (case c => k_is); (case k => k_is)
  have F__law_fillings : Df (hd.heap_39 w.params) mg "_law_fillings" s__law_fillings ["_law_rows_here", "_law_names_here"] := by
    refine' df_of KX G (fun _ _ _ _ _ _ us hl => match us, hl with | [_, _], _ => rfl) ?a ?l ?c ?k
    (case a => k_is); (case l => k_is); (case c => k_is); (case k => k_is)
  have F__law_drawn_clause : Df (hd.heap_39 w.params) mg "_law_drawn_clause" s__law_drawn_clause ["_law_purse_here", "_law_names_here", "_law_most"] := by
    refine' df_of KX G (fun _ _ _ _ _ _ us hl => match us, hl with | [_, _, _], _ => rfl) ?a ?l ?c ?k
    (case a => k_is); (case l => k_is); (case c => k_is); (case k => k_is)
  have F__law_drawn : Df (hd.heap_39 w.params) mg "_law_drawn" s__law_drawn ["_law_purse_here", "_law_names_here", "_law_many"] := by
    refine' df_of KX G (fun _ _ _ _ _ _ us hl => match us, hl with | [_, _, _], _ => rfl) ?a ?l ?c ?k
    (case a => k_is); (case l => k_is); (case c => k_is); (case k => k_is)
  have F__law_unfilled : Df (hd.heap_39 w.params) mg "_law_unfilled" s__law_unfilled ["_law_purse_here", "_law_names_here", "_law_many"] := by
    refine' df_of KX G (fun _ _ _ _ _ _ us hl => match us, hl with | [_, _, _], _ => rfl) ?a ?l ?c ?k
    (case a => k_is); (case l => k_is); (case c => k_is); (case k => k_is)
  have F__law_signs : Df (hd.heap_39 w.params) mg "_law_signs" s__law_signs ["_law_names_here"] := by
    refine' df_of KX G (fun _ _ _ _ _ _ us hl => match us, hl with | [_], _ => rfl) ?a ?l ?c ?k
    (case a => k_is); (case l => k_is); (case c => k_is); (case k => k_is)
  have F__law_ring : Df (hd.heap_39 w.params) mg "_law_ring" s__law_ring ["_law_names_here"] := by
    refine' df_of KX G (fun _ _ _ _ _ _ us hl => match us, hl with | [_], _ => rfl) ?a ?l ?c ?k
    (case a => k_is); (case l => k_is); (case c => k_is); (case k => k_is)
  have F__law_turned : Df (hd.heap_39 w.params) mg "_law_turned" s__law_turned ["_law_rows_here", "_law_names_here"] := by
    refine' df_of KX G (fun _ _ _ _ _ _ us hl => match us, hl with | [_, _], _ => rfl) ?a ?l ?c ?k
    (case a => k_is); (case l => k_is); (case c => k_is); (case k => k_is)
  have F__law_hard : Df (hd.heap_39 w.params) mg "_law_hard" s__law_hard ["_law_purse_here", "_law_many"] := by
    refine' df_of KX G (fun _ _ _ _ _ _ us hl => match us, hl with | [_, _], _ => rfl) ?a ?l ?c ?k
    (case a => k_is); (case l => k_is); (case c => k_is); (case k => k_is)
  have F__law_book : Df (hd.heap_39 w.params) mg "_law_book" s__law_book ["_law_purse_here", "_law_many"] := by
    refine' df_of KX G (fun _ _ _ _ _ _ us hl => match us, hl with | [_, _], _ => rfl) ?a ?l ?c ?k
    (case a => k_is); (case l => k_is); (case c => k_is); (case k => k_is)
  have F__law_made : Df (hd.heap_39 w.params) mg "_law_made" s__law_made ["_law_rows_here"] := by
    refine' df_of KX G (fun _ _ _ _ _ _ us hl => match us, hl with | [_], _ => rfl) ?a ?l ?c ?k
    (case a => k_is); (case l => k_is); (case c => k_is); (case k => k_is)
  have F__law_open_book : Df (hd.heap_39 w.params) mg "_law_open_book" s__law_open_book ["_law_purse_here"] := by
    refine' df_of KX G (fun _ _ _ _ _ _ us hl => match us, hl with | [_], _ => rfl) ?a ?l ?c ?k
    (case a => k_is); (case l => k_is); (case c => k_is); (case k => k_is)
  have F__law_book_right : Df (hd.heap_39 w.params) mg "_law_book_right" s__law_book_right ["_law_rows_here"] := by
    refine' df_of KX G (fun _ _ _ _ _ _ us hl => match us, hl with | [_], _ => rfl) ?a ?l ?c ?k
    (case a => k_is); (case l => k_is); (case c => k_is); (case k => k_is)
  have F_law : Df (hd.heap_39 w.params) mg "law" s_law ["_law_script"] := by
    refine' df_of KX G (fun _ _ _ _ _ _ us hl => match us, hl with | [_], _ => rfl) ?a ?l ?c ?k
    (case a => k_is); (case l => k_is); (case c => k_is); (case k => k_is)
  have m_ValueError : mg "ValueError" = none := PySem.W.mg_none_of KX G (by k_is)
  have m_all : mg "all" = none := PySem.W.mg_none_of KX G (by k_is)
  have m_any : mg "any" = none := PySem.W.mg_none_of KX G (by k_is)
  have m_bool : mg "bool" = none := PySem.W.mg_none_of KX G (by k_is)
  have m_dict : mg "dict" = none := PySem.W.mg_none_of KX G (by k_is)
  have m_int : mg "int" = none := PySem.W.mg_none_of KX G (by k_is)
  have m_isinstance : mg "isinstance" = none := PySem.W.mg_none_of KX G (by k_is)
  have m_len : mg "len" = none := PySem.W.mg_none_of KX G (by k_is)
  have m_list : mg "list" = none := PySem.W.mg_none_of KX G (by k_is)
  have m_max : mg "max" = none := PySem.W.mg_none_of KX G (by k_is)
  have m_min : mg "min" = none := PySem.W.mg_none_of KX G (by k_is)
  have m_range : mg "range" = none := PySem.W.mg_none_of KX G (by k_is)
  have m_set : mg "set" = none := PySem.W.mg_none_of KX G (by k_is)
  have m_sorted : mg "sorted" = none := PySem.W.mg_none_of KX G (by k_is)
  have m_str : mg "str" = none := PySem.W.mg_none_of KX G (by k_is)
  have m_sum : mg "sum" = none := PySem.W.mg_none_of KX G (by k_is)
  have m_super : mg "super" = none := PySem.W.mg_none_of KX G (by k_is)
  have m_tuple : mg "tuple" = none := PySem.W.mg_none_of KX G (by k_is)
  have m_zip : mg "zip" = none := PySem.W.mg_none_of KX G (by k_is)
  have book : ∃ C, BookF (hd.heap_39 w.params) mg s_Book_init s_Book_clauses s_Book_variables C := by
    refine' book_of KX G (fun _ _ _ _ _ _ us hl => match us, hl with | [_, _], _ => rfl) (fun _ _ _ _ _ _ us hl => match us, hl with | [_], _ => rfl) (fun _ _ _ _ _ _ us hl => match us, hl with | [_], _ => rfl) ?aC ?a1 ?i1 ?l1 ?c1 ?k1 ?a2 ?i2 ?l2 ?c2 ?k2 ?a3 ?i3 ?l3 ?c3 ?k3 ?pg ?hd ?po ?sa ?mk ?kc ?nR ?nN ?nK ?ha ?hn ?htk ?hm
    (case aC => k_is)
    (case a1 => k_is)
    (case i1 => k_is)
    (case l1 => k_is)
    (case c1 => k_is)
    (case k1 => k_is)
    (case a2 => k_is)
    (case i2 => k_is)
    (case l2 => k_is)
    (case c2 => k_is)
    (case k2 => k_is)
    (case a3 => k_is)
    (case i3 => k_is)
    (case l3 => k_is)
    (case c3 => k_is)
    (case k3 => k_is)
    (case pg => k_is)
    (case hd => k_is)
    (case po => k_is)
    (case sa => k_is)
    (case mk => k_is)
    (case kc => k_is)
    (case nR => k_is)
    (case nN => k_is)
    (case nK => k_is)
    (case ha => k_is)
    (case hn => k_is)
    (case htk => k_is)
    (case hm => k_is)
  exact ⟨F_is_word, F_is_rising, F_is_literal, F_turned_one, F_bare, F_are_unlike, F_is_clause, F_in_order, F_are_clauses, F_names_in, F_check_book, F_breaks, F_both_of, F_all_fillings, F_fillings_of, F_many_fillings, F_any_filling, F_sure_literals, F__law_purse, F__law_mixed, F__law_draw, F__law_purses, F__law_one_of, F__law_shuffled, F__law_exact, F__law_word, F__law_words, F__law_contrary, F__law_bare, F__law_clause, F__law_rows, F__law_names, F__law_breaks, F__law_broken, F__law_parts, F__law_fillings, F__law_drawn_clause, F__law_drawn, F__law_unfilled, F__law_signs, F__law_ring, F__law_turned, F__law_hard, F__law_book, F__law_made, F__law_open_book, F__law_book_right, F_law, m_ValueError, m_all, m_any, m_bool, m_dict, m_int, m_isinstance, m_len, m_list, m_max, m_min, m_range, m_set, m_sorted, m_str, m_sum, m_super, m_tuple, m_zip, book⟩
end Lk36
end

section
set_option Elab.async false
set_option linter.all false
set_option maxRecDepth 100000
set_option maxHeartbeats 4000000
set_option autoImplicit false
/-! DlM: sets of texts made of lists; sorted of them; sorted of lists. -/
namespace DL
open PySem PySem.Spec PyProof.Rows L2 PySem.W PySem.SeqAt
variable [Wd]
/-- a set's table that can be walked -/
def Tab (w : World) (m : Nat) (t : SetTable) : Prop := t.fits m = true ∧ Ris t.place.toList ∧ (w.params.followText "set-order" = true ∨ t.led = true)
/-- the object of a set whose entries are good -/
def SetW (w : World) (Good : List (Int × Value) → SetTable → Prop) (m : Nat) (o : Obj) : Prop :=
  o.ExactSet ∧ ∃ es ep t, o.data = .set es ep t ∧ Good es.toList t ∧ es.size = m ∧ m < scanBound ∧ Tab w m t
def SetAtW (w : World) (Good : List (Int × Value) → SetTable → Prop) (m : Nat) (h : Heap) (a : Addr) : Prop := ∃ o, h.get? a = some o ∧ SetW w Good m o
section
variable {P : Program} {w : World} {A : Around} {E : Value → Shared → Prop} {s : Shared} {a : Addr} {m : Nat} {Good : List (Int × Value) → SetTable → Prop}
theorem SetAtW.keep {h h' : Heap} (x : SetAtW w Good m h a) (k : ∀ o, h.get? a = some o → h'.get? a = some o) : SetAtW w Good m h' a := x.imp fun o y => ⟨k o y.1, y.2⟩
/-- behind an add: the entries are stored, the table may be laid anew -/
theorem set_tail {kk : Bool → Sem Unit} (hk : ∀ (b : Bool) (s1 : Shared) (Q1 : Unit → Shared → Prop), Q1 () s1 → wpAny (model P w) A (kk b) Q1 E s1)
    (perm : ∀ (l l' : List (Int × Value)) (t t' : SetTable), l'.Perm l → Good l t → Good l' t') {o : Obj} {es : Array (Int × Value)} {ep : Nat} {t : SetTable} (ho : s.heap.get? a = some o) (hex : o.ExactSet) (hd : o.data = .set es ep t)
    {es1 : Array (Int × Value)} {t2 : SetTable} (g1 : Good es1.toList t2) (hm : es1.size = m) (hb : m < scanBound) (tb : Tab w m t2) {wd : Bool} {R : Option Bool → Shared → Prop}
    (hR : ∀ h', Heap.SameBut a s.heap h' → SetAtW w Good m h' a → R (some true) { s with heap := h' }) :
    wpAny (model P w) A (do
        storeSet a es1 t2
        if (!wd && t2.tooFull) = true then do
            kk (relayAll t2 es1 (SetTable.grown es1.size)).2.2
            storeSet a (relayAll t2 es1 (SetTable.grown es1.size)).1 (relayAll t2 es1 (SetTable.grown es1.size)).2.1
            pure (some true)
          else pure (some true)) R E s := by
  subst hm
  have st1 := store_at (es' := es1) (t' := t2) ho hd
  have sb1 := Heap.SameBut.update s.heap a (Obj.putSet es1 t2)
  refine wpAny_bind (wpAny_storeSet_of ho hd ?_ (fits_of_scanBound hb))
  split
  · have q1 := relayAll_perm t2 es1 (SetTable.grown es1.size)
    have q2 := relayAll_fits t2 es1 (SetTable.grown es1.size)
    have q3 := relayAll_ris t2 es1 (SetTable.grown es1.size)
    have q4 := relayAll_led t2 es1 (SetTable.grown es1.size)
    generalize relayAll t2 es1 (SetTable.grown es1.size) = Y at q1 q2 q3 q4 ⊢
    obtain ⟨es2, t3, gg⟩ := Y
    dsimp only at q1 q2 q3 q4 ⊢
    have same : es2.size = es1.size := by rw [← Array.length_toList, q1.length_eq, Array.length_toList]
    refine wpAny_bind (hk _ _ _ (wpAny_bind (wpAny_storeSet_of st1 rfl ?_ (fits_of_scanBound (by rw [same]; exact hb)))))
    have st2 := store_at (es' := es2) (t' := t3) st1 rfl
    exact wpAny_pure (hR _ (sb1.trans (Heap.SameBut.update _ a _)) ⟨_, st2, hex, es2, _, t3, rfl, perm _ _ _ _ q1 g1, same, hb, by rw [← same]; exact q2, q3, tb.2.2.imp id fun z => by rw [q4]; exact z⟩)
  · exact wpAny_pure (hR _ sb1 ⟨_, st1, hex, es1, _, t2, rfl, g1, rfl, hb, tb⟩)
/-! ### texts -/
def txtOf (v : Value) : Str := match v with | .str x _ => x | _ => ⟨#[]⟩
def TxE (w : World) (e : Int × Value) : Prop := (∃ tk, e.2 = .str (txtOf e.2) tk) ∧ e.1 = hashStr w (txtOf e.2)
/-- the entries hold the texts l -/
def TxG (w : World) (l : List Str) (es : List (Int × Value)) : Prop := (∀ e ∈ es, TxE w e) ∧ (es.map fun e => txtOf e.2).Perm l ∧ l.Nodup
abbrev TxT (w : World) (l : List Str) : List (Int × Value) → SetTable → Prop := fun es _ => TxG w l es
theorem TxG.perm {l : List Str} (x y : List (Int × Value)) (p : y.Perm x) (g : TxG w l x) : TxG w l y := ⟨fun e he => g.1 e (p.mem_iff.mp he), (p.map _).trans g.2.1, g.2.2⟩
theorem TxG.elems {l : List Str} {es : List (Int × Value)} (g : TxG w l es) : ElemsOf (PySem.strKind P w) es := fun e he => by
  obtain ⟨⟨tk, h1⟩, h2⟩ := g.1 e he
  exact ⟨⟨txtOf e.2, by rw [h1]; exact strKind_is P w _ tk, h2⟩, by rw [h1]; rfl⟩
theorem tx_is {e : Int × Value} (g : TxE w e) (k : Str) : (PySem.strKind P w).is k e.2 = true ↔ txtOf e.2 = k := by
  obtain ⟨⟨tk, h1⟩, _⟩ := g
  rw [h1]
  show Value.isStrOf k (.str (txtOf e.2) tk) = true ↔ txtOf e.2 = k
  generalize txtOf e.2 = y
  constructor
  · intro h
    simp [Value.isStrOf] at h
    first | exact h | exact h.symm
  · intro h
    subst h
    simp [Value.isStrOf]
/-- a list's items, each at its first place -/
def addK {κ : Type} [DecidableEq κ] (l : List κ) (k : κ) : List κ := if k ∈ l then l else l ++ [k]
def once {κ : Type} [DecidableEq κ] (xs : List κ) : List κ := xs.foldl addK []
theorem addK_nodup {κ : Type} [DecidableEq κ] {l : List κ} {k : κ} (h : l.Nodup) : (addK l k).Nodup := by
  unfold addK
  split
  · exact h
  · rename_i q
    exact List.nodup_append.mpr ⟨h, List.pairwise_singleton _ _, fun x hx y hy => by rw [List.mem_singleton.mp hy]; intro z; exact q (z ▸ hx)⟩
theorem addK_len {κ : Type} [DecidableEq κ] {l : List κ} {k : κ} : (addK l k).length ≤ l.length + 1 := by
  unfold addK
  split
  · exact Nat.le_succ _
  · simp
theorem tx_add {l : List Str} {k : Str} {tk : Tok} {Q : Bool → Shared → Prop} (R : SetAtW w (TxT w l) l.length s.heap a) (room : l.length + 1 < scanBound)
    (hQ : ∀ b h', Heap.SameBut a s.heap h' → SetAtW w (TxT w (addK l k)) (addK l k).length h' a → Q b { s with heap := h' }) :
    wpAny (model P w) A (setAddHashed a (.str k tk) (hashStr w k)) Q E s := by
  obtain ⟨o, ho, hex, es, ep, t, hd, g, hn, hb, tb⟩ := R
  have hkey : (PySem.strKind P w).is k (.str k tk) = true := strKind_is P w k tk
  have hsc : (Value.str k tk).scannable = true := rfl
  have hf : t.fits es.size = true := by rw [hn]; exact tb.1
  unfold setAddHashed setAddHashedIn
  refine wpAny_holding (wpAny_bind (wpAny_setState_of ho hd hf ?_))
  dsimp only
  rw [byScan_of hsc (by rw [hn]; exact hb) (g.elems (P := P)), if_pos rfl]
  unfold setAddByScan
  refine wpAny_bind (wpAny_bind (wpAny_rule (wpAny_bind (wpAny_setScan_of hkey ho hd hf g.elems ?_))))
  cases fi : List.findIdx? (fun e => (PySem.strKind P w).is k e.2) es.toList with
  | some j =>
    dsimp only
    obtain ⟨hj, pj, _⟩ := List.findIdx?_eq_some_iff_getElem.mp fi
    have hin : k ∈ l := g.2.1.mem_iff.mp (List.mem_map.mpr ⟨_, List.getElem_mem hj, (tx_is (g.1 _ (List.getElem_mem hj)) k).1 pj⟩)
    have e1 : addK l k = l := if_pos hin
    exact wpAny_pure (wpAny_pure (hQ _ s.heap (Heap.SameBut.refl a s.heap) (by rw [e1]; exact ⟨o, ho, hex, es, ep, t, hd, g, hn, hb, tb⟩)))
  | none =>
    dsimp only
    have out : k ∉ l := fun z => by
      obtain ⟨e, he, q⟩ := List.mem_map.mp (g.2.1.mem_iff.mpr z)
      have c := List.findIdx?_eq_none_iff.mp fi e he
      rw [(tx_is (g.1 e he) k).2 q] at c
      cases c
    have e1 : addK l k = l ++ [k] := if_neg out
    have gave : ∀ (b : Bool) {s1 : Shared} {Q1 : Unit → Shared → Prop}, Q1 () s1 → wpAny (model P w) A (match b with | true => rule "set.scan.the-table-gave-way" | false => pure ()) Q1 E s1 :=
      fun b _ _ q => by cases b <;> first | exact wpAny_pure q | exact wpAny_rule q
    have q1 := layNew_perm t es (hashStr w k) (.str k tk)
    have q2 := layNew_fits t es (hashStr w k) (.str k tk)
    have q3 := layNew_ris t es (hashStr w k) (.str k tk) tb.2.1
    have q4 := layNew_led t es (hashStr w k) (.str k tk)
    have ehash : (PySem.strKind P w).hash k = hashStr w k := rfl
    try rw [ehash]
    generalize layNew t es (hashStr w k) (.str k tk) = Y at q1 q2 q3 q4 ⊢
    obtain ⟨es1, t1, wd, gg⟩ := Y
    dsimp only at q1 q2 q3 q4 ⊢
    rw [Array.toList_push] at q1
    have g1 : TxG w (addK l k) es1.toList := by
      rw [e1]
      refine TxG.perm (es.toList ++ [(hashStr w k, Value.str k tk)]) _ q1 ⟨fun e he => ?_, ?_, ?_⟩
      · rcases List.mem_append.mp he with z | z
        · exact g.1 e z
        · rw [List.mem_singleton.mp z]; exact ⟨⟨tk, rfl⟩, rfl⟩
      · rw [List.map_append]; exact g.2.1.append (.refl _)
      · have q := addK_nodup (k := k) g.2.2
        rw [e1] at q; exact q
    have hz : es1.size = (addK l k).length := by rw [← Array.length_toList, q1.length_eq, List.length_append, Array.length_toList, hn, e1, List.length_append] <;> rfl
    have hz2 : (addK l k).length < scanBound := by rw [e1, List.length_append]; exact room
    have fin : ∀ h', Heap.SameBut a s.heap h' → SetAtW w (TxT w (addK l k)) (addK l k).length h' a → Q true { s with heap := h' } := fun h' sb r => hQ _ h' sb r
    have tab : Tab w (addK l k).length t1 := ⟨by rw [← hz]; exact q2, q3, tb.2.2.imp id fun z => by rw [q4]; exact z⟩
    refine wpAny_bind (gave _ ?_)
    split
    · refine wpAny_bind ?_
      rw [hashByValue_scannable 8 hsc]
      refine wpAny_pure (set_tail (Good := TxT w (addK l k)) ?_ (fun x y _ _ p g => TxG.perm x y p g) ho hex hd g1 hz hz2 ?_ ?_)
      · intro b s1 Q1 q; cases b <;> first | exact wpAny_pure q | exact wpAny_rule q
      · first | (split <;> first | exact tab | exact ⟨SetTable.fits_plain_off tab.1, tab.2⟩) | exact tab
      · intro h' sb r; dsimp only; exact wpAny_pure (fin h' sb r)
    · refine wpAny_bind (wpAny_pure ?_)
      simp only [↓reduceIte]
      refine set_tail (Good := TxT w (addK l k)) ?_ (fun x y _ _ p g => TxG.perm x y p g) ho hex hd g1 hz hz2 tab ?_
      · intro b s1 Q1 q; cases b <;> first | exact wpAny_pure q | exact wpAny_rule q
      · intro h' sb r; dsimp only; exact wpAny_pure (fin h' sb r)

/-! ### set(xs), xs a list -/
abbrev freshSet (w : World) : Obj := { cls := .type "set", dict := none, data := .set #[] 0 (.fresh 0 0 (!w.params.followText "set-order")) }
section
variable {κ : Type} [DecidableEq κ] {G : List κ → List (Int × Value) → SetTable → Prop}
theorem once_snoc (xs : List κ) (i : Nat) (k : κ) (h : xs[i]? = some k) : once (xs.take (i + 1)) = addK (once (xs.take i)) k := by
  unfold once
  rw [List.take_succ, h, List.foldl_append]
  rfl
theorem once_len (xs : List κ) : (once xs).length ≤ xs.length := by
  have : ∀ (ys acc : List κ), (ys.foldl addK acc).length ≤ acc.length + ys.length := by
    intro ys
    induction ys with
    | nil => intro acc; exact Nat.le_refl _
    | cons y ys ih =>
      intro acc
      have h1 := ih (addK acc y)
      have h2 := addK_len (l := acc) (k := y)
      show (ys.foldl addK (addK acc y)).length ≤ acc.length + (ys.length + 1)
      omega
  have q := this xs []
  rw [List.length_nil, Nat.zero_add] at q
  exact q
theorem loop_set {I : Addr} {fp wr : List Addr} {GG : Array GenState → Array GenState → Prop} {n : Nat} {Pv : Nat → Value → Prop} {St : Nat → Shared → Prop} {R : Result → Shared → Prop} (W : WalksS P w A.in1 I fp wr GG n Pv St) (S : Addr) (hSf : S ∉ fp) (ks : List κ) (h0 : Heap) (hn : ks.length = n) (hS0 : h0.get? S = none) (hw0 : ∀ b ∈ wr, h0.get? b = none)
    (hadd : ∀ (s1 : Shared) (j : Nat) (v : Value) (k : κ) (l : List κ) (Q : Bool → Shared → Prop) (E' : Value → Shared → Prop), Pv j v → ks[j]? = some k → l.length ≤ j → (∀ b o, h0.get? b = some o → s1.heap.get? b = some o) → SetAtW w (G l) l.length s1.heap S →
      (∀ b h' tk, s1.toks ≤ tk → Heap.SameBut S s1.heap h' → SetAtW w (G (addK l k)) (addK l k).length h' S → Q b { s1 with heap := h', toks := tk }) → wpAny (model P w) A.in1 (setAdd S v) Q E' s1) :
    ∀ (k i : Nat) (s : Shared), n - i = k → i ≤ n → St i s → (∀ b o, h0.get? b = some o → s.heap.get? b = some o) → SetAtW w (G (once (ks.take i))) (once (ks.take i)).length s.heap S →
      (∀ s', Moved (S :: wr) GG s s' → (∀ b o, h0.get? b = some o → s'.heap.get? b = some o) → SetAtW w (G (once ks)) (once ks).length s'.heap S → R (.ok (.ret .none)) s') →
      codeAny (model P w) A (.builtin "set.update.loop" ⟨[.ref S, .ref I], []⟩) R s := by
  have hSw : S ∉ wr := fun h => hSf (W.sub _ h)
  have up : ∀ b ∈ wr, b ∈ S :: wr := fun b hb => List.mem_cons_of_mem _ hb
  have kept : ∀ (s s' : Shared) (hm : Moved wr GG s s'), (∀ b o, h0.get? b = some o → s.heap.get? b = some o) → ∀ b o, h0.get? b = some o → s'.heap.get? b = some o := fun s s' hm h b o e =>
    hm.heap b o (fun z => by rw [hw0 b z] at e; cases e) (h b o e)
  intro k
  induction k with
  | zero =>
    intro i s hk hi st h0s hS hR
    obtain rfl : i = n := by omega
    refine codeAny_builtin PyProof.Rows.F.entry_set_update_loop ?_
    rw [Around.under_plainId PyProof.Rows.F.plain_set_update_loop _]
    show wpAny _ A.in1 (pyNext (.ref I) >>= _) _ _ s
    refine wpAny_bind (W.done s _ _ st fun s' hm => ?_)
    show wpAny _ A.in1 (ret Value.none) _ _ s'
    rw [← hn, List.take_length] at hS
    exact wpAny_pure (hR s' (hm.mono up) (kept s s' hm h0s) (hS.keep fun o e => hm.heap S o hSw e))
  | succ k ih =>
    intro i s hk hi st h0s hS hR
    have lt : i < n := by omega
    refine codeAny_builtin PyProof.Rows.F.entry_set_update_loop ?_
    rw [Around.under_plainId PyProof.Rows.F.plain_set_update_loop _]
    show wpAny _ A.in1 (pyNext (.ref I) >>= _) _ _ s
    refine wpAny_bind (W.item i s _ _ lt st fun v s1 hP st1 hm => ?_)
    have hS1 := hS.keep fun o e => hm.heap S o hSw e
    obtain ⟨kk, hkk⟩ : ∃ kk, ks[i]? = some kk := ⟨ks[i]'(by omega), List.getElem?_eq_getElem _⟩
    show wpAny _ A.in1 (holding [v] (setAdd S v) >>= _) _ _ s1
    refine wpAny_bind (wpAny_holding ?_)
    refine hadd s1 i v kk (once (ks.take i)) _ _ hP hkk (Nat.le_trans (once_len _) (by rw [List.length_take]; omega)) (kept s s1 hm h0s) hS1 fun b h' tk htk sb hS2 => ?_
    rw [← once_snoc ks i kk hkk] at hS2
    have far : ∀ b ∈ fp, ∀ o, s1.heap.get? b = some o → h'.get? b = some o := fun b hb o e => by
      rw [sb.2 b (fun z : b = S => hSf (by rw [← z]; exact hb))]; exact e
    have h0t : ∀ b o, h0.get? b = some o → h'.get? b = some o := fun b o e => by
      rw [sb.2 b (fun z => by subst z; rw [hS0] at e; cases e)]; exact kept s s1 hm h0s b o e
    refine wpAny_pure ⟨plainId_quiet PyProof.Rows.F.plain_set_update_loop _, ih (i + 1) _ (by omega) lt (W.frame _ s1 _ _ st1 htk far) h0t hS2 fun s2 hm2 h02 hS3 => ?_⟩
    refine hR s2 (Moved.trans W.gtrans ((hm.mono up).then_heap htk fun b o hb e => ?_) hm2) h02 hS3
    rw [sb.2 b (fun z => hb (by rw [z]; exact List.mem_cons_self))]; exact e
theorem call_set_of {l : Addr} {items : Array Value} {ks : List κ} {Q : Value → Shared → Prop} (hh : A.handled = none) (hl : s.heap.IsList l items) (hks : items.size = ks.length) (g0 : G [] [] (.fresh 0 0 (!w.params.followText "set-order")))
    (hadd : ∀ (A' : Around) (s1 : Shared) (j : Nat) (v : Value) (k : κ) (l : List κ) (Q : Bool → Shared → Prop) (E' : Value → Shared → Prop), A'.handled = none → A'.units ≤ A.units + 8 → items[j]? = some v → ks[j]? = some k → l.length ≤ j → (∀ b o, s.heap.get? b = some o → s1.heap.get? b = some o) →
      SetAtW w (G l) l.length s1.heap s.heap.objs.size → (∀ b h' tk, s1.toks ≤ tk → Heap.SameBut s.heap.objs.size s1.heap h' → SetAtW w (G (addK l k)) (addK l k).length h' s.heap.objs.size → Q b { s1 with heap := h', toks := tk }) → wpAny (model P w) A' (setAdd s.heap.objs.size v) Q E' s1)
    (h : ∀ (h' : Heap) (tk : Nat), SetAtW w (G (once ks)) (once ks).length h' s.heap.objs.size → (∀ b o, s.heap.get? b = some o → h'.get? b = some o) → Q (.ref s.heap.objs.size) { s with heap := h', toks := tk }) :
    wpAny (model P w) A (call (.type "set") [.ref l]) Q E s := by
  obtain ⟨c, tl, hmro⟩ := PySem.F.called_set.mro
  have hmade := PySem.F.called_set.made
  have hsub := PySem.F.called_set.sub
  refine wpAny_call (codeAny_of_tree ?_)
  show wpAny _ _ (callAny (.type "set") _) _ _ _
  refine wpAny_pure ⟨Code.quiet_builtin _ (by decide +kernel), codeAny_builtin PySem.F.entry_type_call ?_⟩
  rw [Around.under_plain (weight_type_call_type "set" [.ref l] []) rfl]
  have h1 := PySem.F.called_set.notType
  have h2 := PySem.F.called_set.canCreate
  have hct := PySem.F.typeCall_set_1 (.ref l)
  repeat (any_goals (first | assumption | wp_step))
  refine codeAny_mono (code_set_led1 (.ref l) (E := E) (Q₁ := fun obj s₁ => obj = .ref s.heap.objs.size ∧ s₁ = { s with heap := s.heap.push { cls := .type "set", dict := none, data := .set #[] 0 (.fresh 0 0 (!w.params.followText "set-order")) } }) ⟨rfl, rfl⟩) fun r s₁ hr => ?_
  cases r with
  | error e => exact hr
  | ok fl =>
    cases fl with
    | ret obj =>
      obtain ⟨rfl, rfl⟩ := hr
      have hS : (s.heap.push (freshSet w)).get? s.heap.objs.size = some (freshSet w) := Heap.get?_push_size _ rfl
      have hT : Shared.TypeIs { s with heap := s.heap.push (freshSet w) } (.ref s.heap.objs.size) "set" := ⟨_, hS, rfl⟩
      have hli := PySem.F.called_set.init.lookup
      have hbi := PySem.F.called_set.init.bind (.ref s.heap.objs.size)
      repeat (any_goals (first | assumption | wp_step))
      refine codeAny_mono (codeAny_call_builtin (R := wants (fun r s₂ => r = .none ∧ ∃ h' tk, s₂ = { s with heap := h', toks := tk } ∧ SetAtW w (G (once ks)) (once ks).length h' s.heap.objs.size ∧ (∀ b o, s.heap.get? b = some o → h'.get? b = some o)) E)
        PySem.F.called_set.init.plain PySem.F.entry_set_init (check_set_init_1 hT ?_)) fun r₂ s₂ hr₂ => ?_
      · obtain ⟨ol, hol, hcl, nl, hdl⟩ := hl
        obtain ⟨ocls, odict, odata, oslots⟩ := ol
        simp only at hcl hdl
        subst hcl; subst hdl
        have hol' : (s.heap.push (freshSet w)).get? l = some { cls := .type "list", dict := odict, data := .seq items nl, slots := oslots } := Heap.get?_push_of_some _ hol
        have hsls := PySem.F.sub_list_set
        have hslf := PySem.F.sub_list_frozenset
        have hne : (Value.type "list" == Value.type "dict") = false := by decide
        have hl1 : (s.heap.push (freshSet w)).IsList l items := ⟨_, hol', rfl, nl, rfl⟩
        unfold Builtin.«set.__init__» noKeywords Builtin.Frozenset.updateFrom
        generalize hPI : pyIter = PI
        wp_walk
        subst hPI
        refine wpAny_pyIter_list hl1 ?_
        refine wpAny_bind (wpAny_runValue ?_)
        have hlS : l < s.heap.objs.size := Heap.lt_size hol
        have hh3 : A.in1.in1.in1.handled = none := by simp [hh]
        have sz1 : (s.heap.push (freshSet w)).objs.size = s.heap.objs.size + 1 := size_push' _ _
        have far : ∀ b, s.heap.objs.size ≤ b → s.heap.get? b = none := fun b hb => by
          cases q : s.heap.get? b with
          | none => rfl
          | some o => exact absurd (Nat.lt_of_lt_of_le (Heap.lt_size q) hb) (Nat.lt_irrefl _)
        refine loop_set (G := G) (ks := ks) (Walks.list hh3 _ l (by rw [sz1]; exact Nat.ne_of_lt (Nat.lt_succ_of_lt hlS)) items).toS s.heap.objs.size (by rw [sz1]; simp only [List.mem_cons, List.not_mem_nil, or_false, not_or]; exact ⟨Nat.ne_of_lt (Nat.lt_succ_self _), Nat.ne_of_gt hlS⟩) s.heap hks.symm (far _ (Nat.le_refl _)) (fun b hb => far b (by rw [List.mem_singleton.mp hb, sz1]; exact Nat.le_succ _))
          (fun s1 j v k ll Q' E' hP hk hj hk0 hS1 hQ => hadd _ s1 j v k ll Q' E' (by simp [hh]) (by show A.units + 1 + 1 + 1 ≤ A.units + 8; omega) hP hk hj hk0 hS1 hQ) (items.size - 0) 0 _ (by omega) (Nat.zero_le _)
          ⟨⟨_, Heap.get?_push_size _ rfl, rfl, rfl⟩, (hl1.push _)⟩ (fun b o e => Heap.get?_push_of_some _ (Heap.get?_push_of_some _ e)) ?hS0 ?hR
        case hS0 =>
          refine ⟨(freshSet w), Heap.get?_push_of_some _ hS, ?_⟩
          refine ⟨⟨rfl, rfl, rfl⟩, #[], 0, _, rfl, g0, rfl, by show (0 : Nat) < scanBound; decide, rfl, List.Pairwise.nil, ?_⟩
          show _ ∨ (!w.params.followText "set-order") = true
          cases w.params.followText "set-order"
          · exact .inr rfl
          · exact .inl rfl
        case hR =>
          intro s' hm hk0 hS'
          obtain ⟨h', g', d', tk', os'⟩ := s'
          have eg : g' = s.gens := hm.gens
          have ed : d' = s.drawn := hm.drawn
          have eo : os' = s.os := hm.os
          subst eg; subst ed; subst eo
          show wpAny _ _ _ _ _ _
          refine wpAny_pure ?_
          show wpAny _ _ (ret Value.none) _ _ _
          exact wpAny_pure ⟨rfl, h', tk', rfl, hS', hk0⟩
      · cases r₂ with
        | error e => exact hr₂
        | ok fl₂ =>
          cases fl₂ with
          | ret r =>
            obtain ⟨rfl, h', tk, rfl, hS', hk'⟩ := hr₂
            repeat (any_goals (first | assumption | wp_step))
            exact h _ _ hS' hk'
          | _ => exact hr₂.elim
    | _ => exact hr.elim
theorem call_set_ofT {l : Addr} {items : Array Value} {ks : List κ} {Q : Value → Shared → Prop} (hh : A.handled = none) (hl : s.heap.IsTuple l items) (hks : items.size = ks.length) (g0 : G [] [] (.fresh 0 0 (!w.params.followText "set-order")))
    (hadd : ∀ (A' : Around) (s1 : Shared) (j : Nat) (v : Value) (k : κ) (l : List κ) (Q : Bool → Shared → Prop) (E' : Value → Shared → Prop), A'.handled = none → A'.units ≤ A.units + 8 → items[j]? = some v → ks[j]? = some k → l.length ≤ j → (∀ b o, s.heap.get? b = some o → s1.heap.get? b = some o) →
      SetAtW w (G l) l.length s1.heap s.heap.objs.size → (∀ b h' tk, s1.toks ≤ tk → Heap.SameBut s.heap.objs.size s1.heap h' → SetAtW w (G (addK l k)) (addK l k).length h' s.heap.objs.size → Q b { s1 with heap := h', toks := tk }) → wpAny (model P w) A' (setAdd s.heap.objs.size v) Q E' s1)
    (h : ∀ (h' : Heap) (tk : Nat), SetAtW w (G (once ks)) (once ks).length h' s.heap.objs.size → (∀ b o, s.heap.get? b = some o → h'.get? b = some o) → Q (.ref s.heap.objs.size) { s with heap := h', toks := tk }) :
    wpAny (model P w) A (call (.type "set") [.ref l]) Q E s := by
  obtain ⟨c, tl, hmro⟩ := PySem.F.called_set.mro
  have hmade := PySem.F.called_set.made
  have hsub := PySem.F.called_set.sub
  refine wpAny_call (codeAny_of_tree ?_)
  show wpAny _ _ (callAny (.type "set") _) _ _ _
  refine wpAny_pure ⟨Code.quiet_builtin _ (by decide +kernel), codeAny_builtin PySem.F.entry_type_call ?_⟩
  rw [Around.under_plain (weight_type_call_type "set" [.ref l] []) rfl]
  have h1 := PySem.F.called_set.notType
  have h2 := PySem.F.called_set.canCreate
  have hct := PySem.F.typeCall_set_1 (.ref l)
  repeat (any_goals (first | assumption | wp_step))
  refine codeAny_mono (code_set_led1 (.ref l) (E := E) (Q₁ := fun obj s₁ => obj = .ref s.heap.objs.size ∧ s₁ = { s with heap := s.heap.push { cls := .type "set", dict := none, data := .set #[] 0 (.fresh 0 0 (!w.params.followText "set-order")) } }) ⟨rfl, rfl⟩) fun r s₁ hr => ?_
  cases r with
  | error e => exact hr
  | ok fl =>
    cases fl with
    | ret obj =>
      obtain ⟨rfl, rfl⟩ := hr
      have hS : (s.heap.push (freshSet w)).get? s.heap.objs.size = some (freshSet w) := Heap.get?_push_size _ rfl
      have hT : Shared.TypeIs { s with heap := s.heap.push (freshSet w) } (.ref s.heap.objs.size) "set" := ⟨_, hS, rfl⟩
      have hli := PySem.F.called_set.init.lookup
      have hbi := PySem.F.called_set.init.bind (.ref s.heap.objs.size)
      repeat (any_goals (first | assumption | wp_step))
      refine codeAny_mono (codeAny_call_builtin (R := wants (fun r s₂ => r = .none ∧ ∃ h' tk, s₂ = { s with heap := h', toks := tk } ∧ SetAtW w (G (once ks)) (once ks).length h' s.heap.objs.size ∧ (∀ b o, s.heap.get? b = some o → h'.get? b = some o)) E)
        PySem.F.called_set.init.plain PySem.F.entry_set_init (check_set_init_1 hT ?_)) fun r₂ s₂ hr₂ => ?_
      · obtain ⟨ol, hol, hcl, nl, hdl⟩ := hl
        obtain ⟨ocls, odict, odata, oslots⟩ := ol
        simp only at hcl hdl
        subst hcl; subst hdl
        have hol' : (s.heap.push (freshSet w)).get? l = some { cls := .type "tuple", dict := odict, data := .seq items nl, slots := oslots } := Heap.get?_push_of_some _ hol
        have hsls := PySem.F.sub_tuple_set
        have hslf := PySem.F.sub_tuple_frozenset
        have hne : (Value.type "tuple" == Value.type "dict") = false := by decide
        have hl1 : (s.heap.push (freshSet w)).IsTuple l items := ⟨_, hol', rfl, nl, rfl⟩
        unfold Builtin.«set.__init__» noKeywords Builtin.Frozenset.updateFrom
        generalize hPI : pyIter = PI
        wp_walk
        subst hPI
        refine wpAny_pyIter_tuple hl1 ?_
        refine wpAny_bind (wpAny_runValue ?_)
        have hlS : l < s.heap.objs.size := Heap.lt_size hol
        have hh3 : A.in1.in1.in1.handled = none := by simp [hh]
        have sz1 : (s.heap.push (freshSet w)).objs.size = s.heap.objs.size + 1 := size_push' _ _
        have far : ∀ b, s.heap.objs.size ≤ b → s.heap.get? b = none := fun b hb => by
          cases q : s.heap.get? b with
          | none => rfl
          | some o => exact absurd (Nat.lt_of_lt_of_le (Heap.lt_size q) hb) (Nat.lt_irrefl _)
        refine loop_set (G := G) (ks := ks) (Walks.tuple hh3 _ l (by rw [sz1]; exact Nat.ne_of_lt (Nat.lt_succ_of_lt hlS)) items).toS s.heap.objs.size (by rw [sz1]; simp only [List.mem_cons, List.not_mem_nil, or_false, not_or]; exact ⟨Nat.ne_of_lt (Nat.lt_succ_self _), Nat.ne_of_gt hlS⟩) s.heap hks.symm (far _ (Nat.le_refl _)) (fun b hb => far b (by rw [List.mem_singleton.mp hb, sz1]; exact Nat.le_succ _))
          (fun s1 j v k ll Q' E' hP hk hj hk0 hS1 hQ => hadd _ s1 j v k ll Q' E' (by simp [hh]) (by show A.units + 1 + 1 + 1 ≤ A.units + 8; omega) hP hk hj hk0 hS1 hQ) (items.size - 0) 0 _ (by omega) (Nat.zero_le _)
          ⟨⟨_, Heap.get?_push_size _ rfl, rfl, rfl⟩, (hl1.push _)⟩ (fun b o e => Heap.get?_push_of_some _ (Heap.get?_push_of_some _ e)) ?hS0 ?hR
        case hS0 =>
          refine ⟨(freshSet w), Heap.get?_push_of_some _ hS, ?_⟩
          refine ⟨⟨rfl, rfl, rfl⟩, #[], 0, _, rfl, g0, rfl, by show (0 : Nat) < scanBound; decide, rfl, List.Pairwise.nil, ?_⟩
          show _ ∨ (!w.params.followText "set-order") = true
          cases w.params.followText "set-order"
          · exact .inr rfl
          · exact .inl rfl
        case hR =>
          intro s' hm hk0 hS'
          obtain ⟨h', g', d', tk', os'⟩ := s'
          have eg : g' = s.gens := hm.gens
          have ed : d' = s.drawn := hm.drawn
          have eo : os' = s.os := hm.os
          subst eg; subst ed; subst eo
          show wpAny _ _ _ _ _ _
          refine wpAny_pure ?_
          show wpAny _ _ (ret Value.none) _ _ _
          exact wpAny_pure ⟨rfl, h', tk', rfl, hS', hk0⟩
      · cases r₂ with
        | error e => exact hr₂
        | ok fl₂ =>
          cases fl₂ with
          | ret r =>
            obtain ⟨rfl, h', tk, rfl, hS', hk'⟩ := hr₂
            repeat (any_goals (first | assumption | wp_step))
            exact h _ _ hS' hk'
          | _ => exact hr₂.elim
    | _ => exact hr.elim
end
end
end DL
end

section
set_option Elab.async false
set_option linter.all false
set_option maxRecDepth 100000
set_option maxHeartbeats 4000000
set_option autoImplicit false
/-! DlN: the order of data; sorted. -/
namespace DL
open PySem PySem.Spec PyProof.Rows L2 PySem.W PySem.SeqAt
variable [Wd]
section
variable {α : Type} [DecidableEq α] [DatumOrd α]
theorem ord_irr (a : α) : DatumOrd.lt a a = false := by rw [← DatumOrd.lt_eq]; exact dataLt_self _
theorem ord_tra {a b c : α} (h : DatumOrd.lt a b = true) (k : DatumOrd.lt b c = true) : DatumOrd.lt a c = true := by
  rw [← DatumOrd.lt_eq] at *
  exact lex_trans (O := itemOrd) _ _ _ h k
theorem ord_tot {a b : α} (h : DatumOrd.lt a b = false) (k : DatumOrd.lt b a = false) : a = b := by
  rw [← DatumOrd.lt_eq] at *
  have e : keyToks (Datum.toD a) = keyToks (Datum.toD b) := lex_total (O := itemOrd) _ _ h k
  cases q : PyData.eqv (Datum.toD a) (Datum.toD b) with
  | true => rw [Datum.eqv] at q; exact of_decide_eq_true q
  | false =>
    have z := (toks_eqv _ _ (DatumOrd.alike a b)).2 q
    have z1 := z [] [.inl 0]
    have z2 := z [] []
    rw [← z2, e] at z1
    rw [lex_pre, lex_pre] at z1
    cases z1
theorem ord_asy {a b : α} (h : DatumOrd.lt a b = true) : DatumOrd.lt b a = false := by
  cases q : DatumOrd.lt b a with
  | false => rfl
  | true => have z := ord_tra h q; rw [ord_irr] at z; cases z
theorem ord_neg {a b c : α} (h : DatumOrd.lt b a = false) (k : DatumOrd.lt c b = false) : DatumOrd.lt c a = false := by
  rw [← DatumOrd.lt_eq] at *
  cases q : dataLt (Datum.toD c) (Datum.toD a) with
  | false => rfl
  | true =>
    rcases lex_negTrans (O := itemOrd) (keyToks (Datum.toD c)) (keyToks (Datum.toD b)) (keyToks (Datum.toD a)) q with z | z
    · exact absurd (k.symm.trans z) (by decide)
    · exact absurd (h.symm.trans z) (by decide)
/-- sorted -/
def leO (a b : α) : Bool := !DatumOrd.lt b a
def srt (xs : List α) : List α := xs.mergeSort leO
theorem dataLe_leO : dataLe false (Datum.toD (α := α)) = leO := by
  rw [dataLe_eq]
  funext a b
  show (!dataLt (Datum.toD b) (Datum.toD a)) = _
  rw [DatumOrd.lt_eq]; rfl
def Srt (xs : List α) : Prop := xs.Pairwise fun a b => DatumOrd.lt b a = false
def Rise (xs : List α) : Prop := xs.Pairwise fun a b => DatumOrd.lt a b = true
theorem srt_perm (xs : List α) : (srt xs).Perm xs := List.mergeSort_perm xs _
theorem srt_srt (xs : List α) : Srt (srt xs) := by
  have h := List.pairwise_mergeSort (le := leO (α := α)) (fun a b c h1 h2 => by
    unfold leO at *
    rw [Bool.not_eq_true'] at *
    exact ord_neg h1 h2) (fun a b => by
    unfold leO
    cases q : DatumOrd.lt b a with
    | false => rfl
    | true => rw [ord_asy q]; rfl) xs
  exact h.imp fun h => by unfold leO at h; simpa using h
theorem Srt.one : ∀ {xs ys : List α}, xs.Perm ys → Srt xs → Srt ys → xs = ys
  | [], ys, p, _, _ => (List.nil_perm.mp p).symm
  | x :: xs, [], p, _, _ => absurd p.length_eq (by simp)
  | x :: xs, y :: ys, p, h, k => by
    obtain ⟨h1, h2⟩ := List.pairwise_cons.mp h
    obtain ⟨k1, k2⟩ := List.pairwise_cons.mp k
    have e : x = y := by
      have hx : x ∈ y :: ys := p.mem_iff.mp List.mem_cons_self
      have hy : y ∈ x :: xs := p.mem_iff.mpr List.mem_cons_self
      rcases List.mem_cons.mp hx with z | z
      · exact z
      · rcases List.mem_cons.mp hy with z2 | z2
        · exact z2.symm
        · exact ord_tot (k1 x z |> fun q => by
            have := h1 y z2
            exact q |> fun _ => (by
              cases r : DatumOrd.lt x y with
              | false => rfl
              | true => have := k1 x z; rw [r] at this; cases this)) (h1 y z2)
    subst e
    rw [Srt.one (List.perm_cons _ |>.mp p) h2 k2]
theorem srt_one {xs ys : List α} (p : xs.Perm ys) : srt xs = srt ys := Srt.one ((srt_perm xs).trans (p.trans (srt_perm ys).symm)) (srt_srt xs) (srt_srt ys)
theorem srt_id {xs : List α} (h : Srt xs) : srt xs = xs := Srt.one (srt_perm xs) (srt_srt xs) h
theorem Rise.srt {xs : List α} (h : Rise xs) : Srt xs := List.Pairwise.imp (fun q => ord_asy q) h
theorem Rise.nodup {xs : List α} (h : Rise xs) : xs.Nodup := List.Pairwise.imp (fun {a b} q z => by subst z; rw [ord_irr] at q; cases q) h
theorem Srt.rise {xs : List α} (h : Srt xs) (n : xs.Nodup) : Rise xs := List.Pairwise.imp₂ (fun a b q r => by
  cases z : DatumOrd.lt a b with
  | true => rfl
  | false => exact absurd (ord_tot z q) r) h n
/-- the members, each once, in order -/
def sset (xs : List α) : List α := srt (once xs)
theorem mem_addK {κ : Type} [DecidableEq κ] {l : List κ} {k x : κ} : x ∈ addK l k ↔ x ∈ l ∨ x = k := by
  unfold addK
  split
  · rename_i q
    exact ⟨.inl, fun h => h.elim id fun e => e ▸ q⟩
  · rw [List.mem_append, List.mem_singleton]
theorem mem_fold {κ : Type} [DecidableEq κ] {x : κ} : ∀ {ys acc : List κ}, x ∈ ys.foldl addK acc ↔ x ∈ acc ∨ x ∈ ys
  | [], acc => by simp
  | y :: ys, acc => by
    show x ∈ ys.foldl addK (addK acc y) ↔ _
    rw [mem_fold, mem_addK, List.mem_cons, or_assoc]
theorem mem_once {κ : Type} [DecidableEq κ] {x : κ} {xs : List κ} : x ∈ once xs ↔ x ∈ xs := by
  unfold once; rw [mem_fold]; simp
theorem nodup_fold {κ : Type} [DecidableEq κ] : ∀ {ys acc : List κ}, acc.Nodup → (ys.foldl addK acc).Nodup
  | [], _, h => h
  | y :: ys, _, h => nodup_fold (ys := ys) (addK_nodup h)
theorem once_nodup {κ : Type} [DecidableEq κ] (xs : List κ) : (once xs).Nodup := nodup_fold (by simp)
theorem once_id {κ : Type} [DecidableEq κ] : ∀ {xs : List κ}, xs.Nodup → (once xs).Perm xs := fun {xs} h => (List.perm_ext_iff_of_nodup (once_nodup xs) h).mpr fun a => mem_once
theorem mem_sset {x : α} {xs : List α} : x ∈ sset xs ↔ x ∈ xs := by unfold sset; rw [(srt_perm _).mem_iff, mem_once]
theorem sset_rise (xs : List α) : Rise (sset xs) := (srt_srt _).rise ((srt_perm _).nodup_iff.mpr (once_nodup _))
theorem Rise.ext {xs ys : List α} (h : Rise xs) (k : Rise ys) (m : ∀ a, a ∈ xs ↔ a ∈ ys) : xs = ys := Srt.one ((List.perm_ext_iff_of_nodup h.nodup k.nodup).mpr m) h.srt k.srt
theorem sset_eq {xs ys : List α} (k : Rise ys) (m : ∀ a, a ∈ xs ↔ a ∈ ys) : sset xs = ys := (sset_rise xs).ext k fun a => mem_sset.trans (m a)
end
end DL
end

section
set_option Elab.async false
set_option linter.all false
set_option maxRecDepth 100000
set_option maxHeartbeats 4000000
set_option autoImplicit false
/-! DlO: what sorts: any data of one shape, the empty tuple among tuples. -/
namespace DL
open PySem PySem.Spec PyProof.Rows L2 PySem.W PySem.SeqAt
variable [Wd]
section
variable {P : Program} {w : World} {A : Around} {E : Value → Shared → Prop} {s : Shared}
theorem oneLt_tups {xs ys : List PyData} {a b : Value} {as bs : List Addr} {Q : Bool → Shared → Prop} (ra : Reads s.heap a (.tuple xs) as) (rb : Reads s.heap b (.tuple ys) bs) (hal : alikeAll xs ys = true)
    (hu : A.units + min (PyData.tuple xs).depth (PyData.tuple ys).depth < cLine) (hq : Q (dataLt (.tuple xs) (.tuple ys)) s) : wpAny (model P w) A (oneLt' true a b) Q E s := by
  cases ra with
  | @tuple l o vs n _ as₁ h1 h2 h3 h4 =>
    cases rb with
    | @tuple l' o' vs' n' _ bs₁ k1 k2 k3 k4 =>
      have n1 : vs.size = xs.length := by simpa using SeqAt.ReadsAll.length _ _ _ h4
      have n2 : vs'.size = ys.length := by simpa using SeqAt.ReadsAll.length _ _ _ k4
      rw [dataLt_tuple, ← firstLt_toks xs ys hal, ← n1, ← n2] at hq
      rw [oneLt'_eq, if_pos rfl]
      refine wpAny_bind (wpAny_cRoomFor (room_here hu) (wpAny_bind (wpAny_callSpecialIfBound?_slot (T := "tuple") ⟨_, h1, h2⟩ PySem.F.slot_tuple_lt ?_)))
      obtain ⟨cls, dd, data, sl⟩ := o
      obtain ⟨cls2, dd2, data2, sl2⟩ := o'
      simp only at h2 h3 k2 k3
      subst h2 h3 k2 k3
      refine call_meets PySem.F.slot_tuple_lt ⟨_, h1, rfl⟩ PySem.F.entry_tuple_lt (PySem.F.args_tuple_lt_2 _ _) (PySem.SeqAt.tuple_ltAt l l' vs vs' n n' dd dd2 sl sl2 (pairEq xs ys) (fun j => dataLt (xs.getD j .none) (ys.getD j .none)))
        ⟨h1, k1, fun j j1 j2 => ?_, fun j j1 j2 hj => ?_, wpAny_truthy_bool hq⟩
      · have z := eqAt_alikeAll xs ys A.in1 s vs.toList vs'.toList _ _ h4 k4 hal (room_in hu) j (by simpa using j1) (by simpa using j2)
        simpa using z
      · have z := rcLt_alikeAll xs ys A.in1 s vs.toList vs'.toList _ _ h4 k4 hal (room_in hu) j (by simpa using j1) (by simpa using j2) hj
        simpa using z
/-- the first items, where there are any -/
theorem firsts_tups : ∀ {vs : List Value} {ds : List PyData} {Q : List (Option Value) → Shared → Prop}, EachIs (fun v d => ∃ as, Reads s.heap v d as) vs ds → (∀ d ∈ ds, ∃ xs, d = .tuple xs) →
    (∀ fs : List (Option Value), EachIs (fun (f : Option Value) d => f.isSome = true ↔ d ≠ .tuple []) fs ds → Q fs s) → wpAny (model P w) A (vs.mapM firstOfTuple') Q E s
  | [], _, _, .nil, _, h => by rw [List.mapM_nil]; exact wpAny_pure (h [] .nil)
  | v :: vs, d :: ds, Q, .cons ⟨as, r⟩ t, ht, h => by
    obtain ⟨xs, rfl⟩ := ht d List.mem_cons_self
    cases r with
    | @tuple a o its n _ _ ho hc hd hr =>
      rw [List.mapM_cons]
      refine wpAny_bind ?_
      rw [kas_first_eq]
      refine wpAny_bind (Looks.here (show Looks (model P w) s.heap (typeOf (.ref a)) o.cls from (Looks.ld ho).andThen .now) ?_)
      rw [hc, if_neg (by first | decide | simp)]
      refine wpAny_bind (listItems_at ho hd (wpAny_pure ?_))
      refine wpAny_bind (firsts_tups t (fun d hd => ht d (List.mem_cons_of_mem _ hd)) fun fs hf => wpAny_pure (h (its[0]? :: fs) (.cons ?_ hf)))
      have hz := SeqAt.ReadsAll.length _ _ _ hr
      rw [Array.length_toList] at hz
      cases xs with
      | nil =>
        have e : its[0]? = none := Array.getElem?_eq_none (by rw [hz]; exact Nat.le_refl _)
        rw [e]; simp
      | cons x xs =>
        have e : its[0]?.isSome = true := by
          rw [Array.getElem?_eq_getElem (show 0 < its.size by rw [hz]; exact Nat.succ_pos _)]; rfl
        rw [e]; simp
theorem SortsAt.tups {vs : List Value} {ds : List PyData} (e : EachIs (fun v d => ∃ as, Reads s.heap v d as) vs ds) (hal : AllAlike ds) (ht : ∀ d ∈ ds, ∃ xs, d = .tuple xs) (hu : ∀ d, d ∈ ds → A.units + d.depth < cLine) : SortsAt P w A s (dataKind s.heap ds) vs := by
  by_cases hall : ∀ d ∈ ds, d ≠ .tuple []
  · exact SortsAt.data e hal (.inl fun d hd => by
      obtain ⟨xs, rfl⟩ := ht d hd
      cases xs with
      | nil => exact absurd rfl (hall _ hd)
      | cons x r => exact ⟨x, r, rfl⟩) hu
  have room : ∀ {d d' : PyData}, d ∈ ds → A.units + min d.depth d'.depth < cLine := fun {d d'} hd => Nat.lt_of_le_of_lt (Nat.add_le_add_left (Nat.min_le_left _ _) _) (hu d hd)
  refine ⟨fun v hv => ?_, ?_⟩
  · obtain ⟨d, hd, as, r⟩ := e.left v hv
    exact ⟨_, dataKind_some hal hd r⟩
  have gen : H.LtAt P w A s (dataKind s.heap ds) general' := fun E x y a b Q ha hb hq => by
    obtain ⟨d, as, hd, ra, rfl⟩ := dataKind_inv ha
    obtain ⟨d', as', hd', rb, rfl⟩ := dataKind_inv hb
    show wpAny _ _ (oneLt' false x y) _ _ _
    exact oneLt_alike (fun z => by cases z) ra rb (hal d hd d' hd') (by obtain ⟨xs, rfl⟩ := ht d hd; intro z; cases z) (room hd) hq
  have one : H.LtAt P w A s (dataKind s.heap ds) oneType' := fun E x y a b Q ha hb hq => by
    obtain ⟨d, as, hd, ra, rfl⟩ := dataKind_inv ha
    obtain ⟨d', as', hd', rb, rfl⟩ := dataKind_inv hb
    rw [keyLt'_oneType]
    have h1 := hal d hd d' hd'
    have h2 := room (d' := d') hd
    obtain ⟨xs, rfl⟩ := ht d hd
    obtain ⟨ys, rfl⟩ := ht d' hd'
    exact oneLt_tups ra rb (by simpa [alike] using h1) h2 hq
  cases e with
  | nil => exact absurd (fun d hd => by simp at hd) hall
  | @cons v0 d0 vs0 ds0 r0 t0 =>
  have e : EachIs (fun v d => ∃ as, Reads s.heap v d as) (v0 :: vs0) (d0 :: ds0) := .cons r0 t0
  have start : ∀ (E : Value → Shared → Prop) (Q : SortKind → Shared → Prop), (∀ fs : List (Option Value), EachIs (fun (f : Option Value) d => f.isSome = true ↔ d ≠ .tuple []) fs (d0 :: ds0) →
      wpAny (model P w) A (do
        if fs.toArray.all (·.isSome) then
          rule "list.sort.keys-are-tuples"
          return tuples' ((← oneTypeOnly' (fs.toArray.filterMap id)).any (· != .type "tuple"))
        if (fs.toArray[0]?.bind id).isSome then return general'
        return if (← oneTypeOnly' (v0 :: vs0).toArray).isSome then oneType' else general') Q E s) → wpAny (model P w) A (keyKind' (v0 :: vs0).toArray) Q E s := fun E Q h => by
    rw [keyKind'_eq, List.mapM_toArray, map_eq_pure_bind]
    exact wpAny_bind (wpAny_bind (firsts_tups e ht fun fs hf => wpAny_pure (h fs hf)))
  have no : ∀ fs : List (Option Value), EachIs (fun (f : Option Value) d => f.isSome = true ↔ d ≠ .tuple []) fs (d0 :: ds0) → (fs.toArray.all (·.isSome)) = false := fun fs hf => by
    cases q : fs.toArray.all (·.isSome) with
    | false => rfl
    | true =>
      rw [List.all_toArray, List.all_eq_true] at q
      refine absurd (fun d hd => ?_) hall
      have : ∀ {fs : List (Option Value)} {es : List PyData}, EachIs (fun (f : Option Value) d => f.isSome = true ↔ d ≠ .tuple []) fs es → (∀ f ∈ fs, f.isSome = true) → ∀ d ∈ es, d ≠ .tuple [] := by
        intro fs es hf
        induction hf with
        | nil => intro _ d hd; simp at hd
        | cons h _ ih =>
          intro q d hd
          rcases List.mem_cons.mp hd with rfl | hd
          · exact h.mp (q _ List.mem_cons_self)
          · exact ih (fun f hf => q f (List.mem_cons_of_mem _ hf)) d hd
      exact this hf q d hd
  by_cases h0 : d0 = .tuple []
  · refine ⟨oneType', one, fun h2 E Q hq => start E Q fun fs hf => ?_⟩
    rw [no fs hf]
    cases hf with
    | @cons f _ fs _ hf0 hft =>
    have f0 : f = none := by
      cases f with
      | none => rfl
      | some z => exact absurd h0 (hf0.mp rfl)
    subst f0
    rw [if_neg (by simp), if_neg (by simp)]
    rw [oneTypeOnly'_eq, List.mapM_toArray, map_eq_pure_bind]
    have hT : ∀ v ∈ v0 :: vs0, Looks (model P w) s.heap (typeOf v) (.type "tuple") := fun v hv => by
      obtain ⟨d, hd, as, r⟩ := e.left v hv
      obtain ⟨xs, rfl⟩ := ht d hd
      exact looks_reads r
    refine wpAny_bind (wpAny_bind (wpAny_bind (kas_mapM (r := Value.type "tuple") _ (fun v hv Q' hq => (hT v hv).here hq) (wpAny_pure ?_))))
    have all2 : ((List.map (fun _ => Value.type "tuple") (v0 :: vs0)).toArray.all fun x => x == Value.type "tuple") = true := by
      simp only [List.all_toArray, List.all_map, List.all_eq_true]
      intro _ _
      rfl
    have z0 : (List.map (fun _ => Value.type "tuple") (v0 :: vs0)).toArray[0]? = some (Value.type "tuple") := by simp
    rw [z0]
    simp only [all2, if_true]
    exact wpAny_pure (wpAny_pure hq)
  · refine ⟨general', gen, fun h2 E Q hq => start E Q fun fs hf => ?_⟩
    rw [no fs hf]
    cases hf with
    | @cons f _ fs _ hf0 hft =>
    have f0 := hf0.mpr h0
    rw [if_neg (by simp)]
    have z0 : (((f :: fs).toArray[0]?.bind id).isSome) = true := by simpa using f0
    rw [if_pos z0]
    exact wpAny_pure hq
/-- data of one ordered Lean type sort -/
theorem SortsAt.ord {α : Type} [DecidableEq α] [DatumOrd α] {vs : List Value} {bs : List α} (e : EachIs (fun v b => ∃ as, Reads s.heap v (Datum.toD b) as) vs bs) (hu : A.units + Datum.depth α < cLine) : SortsAt P w A s (dataKind s.heap (bs.map Datum.toD)) vs := by
  have hal : AllAlike (bs.map Datum.toD) := AllAlike.of (enc := Datum.toD) (bs := bs) fun b b' => DatumOrd.alike b b'
  have e' : EachIs (fun v d => ∃ as, Reads s.heap v d as) vs (bs.map Datum.toD) := each_map (R := fun v d => ∃ as, Reads s.heap v d as) Datum.toD e
  have hu' : ∀ d, d ∈ bs.map Datum.toD → A.units + d.depth < cLine := fun d hd => by
    obtain ⟨b, _, rfl⟩ := List.mem_map.mp hd
    have := Datum.depth_le b
    omega
  by_cases ht : ∀ d ∈ bs.map Datum.toD, ∃ xs, d = .tuple xs
  · exact SortsAt.tups e' hal ht hu'
  · refine SortsAt.data e' hal (.inr fun d hd => ⟨?_, fun xs q => ht fun d' hd' => ?_⟩) hu'
    · obtain ⟨b, _, rfl⟩ := List.mem_map.mp hd
      exact DatumOrd.notNone b
    · subst q
      have z := hal _ hd _ hd'
      cases d' with
      | tuple ys => exact ⟨ys, rfl⟩
      | _ => exact absurd z (by simp [alike])
end
end DL
end

section
set_option Elab.async false
set_option linter.all false
set_option maxRecDepth 100000
set_option maxHeartbeats 4000000
set_option autoImplicit false
/-! DlP: sorted(xs), sorted(set(xs)), len(set(xs)). -/
namespace DL
open PySem PySem.Spec PyProof.Rows L2 PySem.W PySem.SeqAt
variable [Wd]
section
variable {P : Program} {w : World} {A : Around} {E : Value → Shared → Prop} {s : Shared} {α : Type} [DecidableEq α] [DatumOrd α] {R : Value → α → Prop}
theorem sorted_ord {l : Addr} {vs : List Value} {bs : List α} {Q : Value → Shared → Prop} (hl : s.heap.IsList l vs.toArray) (e : EachIs R vs bs) (er : EachIs (fun v b => ∃ as, Reads s.heap v (Datum.toD b) as) vs bs) (hL : bs.length ≤ sizeLine) (hu : A.units + 2 + Datum.depth α < cLine)
    (h : ∀ out, out.length = bs.length → EachIs R out (srt bs) → Q (.ref (s.heap.objs.size + 1)) { s with heap := sortedAll s.heap vs (List.toArray out) }) : wpAny (model P w) A (call (.builtin "sorted") [.ref l]) Q E s := by
  have er2 : EachIs (fun v b => ∃ as, Reads (sortingHeap (copyHeap s.heap vs) (s.heap.objs.size + 1) vs) v (Datum.toD b) as) vs bs := er.mono fun _ _ ⟨as, r⟩ => ⟨as, PyProof.Rows.Reads.keeps (fun _ _ => sorting_copy_old) r⟩
  have out := sortVals_data (enc := Datum.toD) false e er2 (AllAlike.of (enc := Datum.toD) (bs := bs) fun b b' => DatumOrd.alike b b')
  rw [dataLe_leO] at out
  exact sorted_vals hl (SortsAt.ord (s := { s with heap := sortingHeap (copyHeap s.heap vs) (s.heap.objs.size + 1) vs }) er2 hu) (by rw [e.length]; exact hL) (h _ (by rw [sortVals_length false rfl]; exact e.length) out)
theorem sort_ord {a : Addr} {n : Nat} {vs : List Value} {bs : List α} {Q : Value → Shared → Prop} (ho : s.heap.get? a = some (seqObj "list" vs.toArray n)) (e : EachIs R vs bs) (er : EachIs (fun v b => ∃ as, Reads (sortingHeap s.heap a vs) v (Datum.toD b) as) vs bs) (hL : bs.length ≤ sizeLine) (hu : A.units + 1 + Datum.depth α < cLine)
    (h : ∀ out, out.length = bs.length → EachIs R out (srt bs) → Q .none { s with heap := sortedHeap s.heap a vs (List.toArray out) }) : wpAny (model P w) A (call (.builtin "list.sort") [.ref a]) Q E s := by
  have out := sortVals_data (enc := Datum.toD) false e er (AllAlike.of (enc := Datum.toD) (bs := bs) fun b b' => DatumOrd.alike b b')
  rw [dataLe_leO] at out
  exact wpAny_call_entry slot_list_sort ⟨_, ho, rfl⟩ entry_list_sort (list_sort_vals (κ := dataKind (sortingHeap s.heap a vs) (bs.map Datum.toD)) ho (SortsAt.ord (s := { s with heap := sortingHeap s.heap a vs }) er hu) (by rw [e.length]; exact hL)
    ⟨.none, rfl, h _ (by rw [sortVals_length false rfl]; exact e.length) out⟩) (args_list_sort _)
theorem each_perm {β γ : Type} {R : β → γ → Prop} {xs ys : List β} (p : ys.Perm xs) : ∀ {bs : List γ}, EachIs R xs bs → ∃ cs, cs.Perm bs ∧ EachIs R ys cs := by
  induction p with
  | nil => intro bs h; cases h; exact ⟨[], .refl _, .nil⟩
  | cons x p ih =>
    intro bs h
    cases h with
    | cons h t =>
    obtain ⟨es, q, r⟩ := ih t
    exact ⟨_ :: es, q.cons _, .cons h r⟩
  | swap x y l =>
    intro bs h
    cases h with
    | cons h t => cases t with | cons h2 t => exact ⟨_ :: _ :: _, .swap _ _ _, .cons h2 (.cons h t)⟩
  | trans p q ih1 ih2 =>
    intro bs h
    obtain ⟨es, a, b⟩ := ih2 h
    obtain ⟨fs, c, d⟩ := ih1 b
    exact ⟨fs, c.trans a, d⟩
/-- sorted(a set) -/
theorem sorted_setW {a : Addr} {m : Nat} {Good : List (Int × Value) → SetTable → Prop} {l : List α} {Q : Value → Shared → Prop} (S : SetAtW w Good m s.heap a) (hh : A.handled = none) (hu : A.units + 4 + Datum.depth α < cLine)
    (he : ∀ es t, Good es t → ∃ bs, bs.Perm l ∧ EachIs R (es.map (·.2)) bs)
    (hr : ∀ (h' : Heap) (v : Value) (b : α), (∀ b o, s.heap.get? b = some o → h'.get? b = some o) → R v b → ∃ as, Reads h' v (Datum.toD b) as)
    (hQ : ∀ s' p (out : List Value) (c : Nat), (∀ b o, s.heap.get? b = some o → s'.heap.get? b = some o) → s'.gens = s.gens → s'.os = s.os → s.heap.objs.size ≤ p → s'.heap.get? p = some (seqObj "list" out.toArray c) → EachIs R out (srt l) → Q (.ref p) s') :
    wpAny (model P w) A (call (.builtin "sorted") [.ref a]) Q E s := by
  obtain ⟨o, ho, hex, es, ep, t, hd, g, hn, hb, tb⟩ := S
  obtain ⟨bs, hp, eb⟩ := he _ _ g
  refine Calls.call_function_entry kind_sorted plain_sorted entry_sorted (args_sorted1 _) ?_
  unfold Builtin.«sorted»
  refine wpAny_bind (m := checkCount "sorted" 1 1 _) (wpAny_pure ?_)
  refine wpAny_bind (collect_set (A := A.in1) hh ⟨o, ho, hex.1, hd⟩ (by rw [hn]; exact tb.1) (by rw [hn]; exact hb) tb.2.1 tb.2.2 fun s1 vs k1 hz g1 o1 pm => ?_)
  obtain ⟨cs, pc, ec⟩ := each_perm pm eb
  have hlen : vs.length ≤ sizeLine := by rw [pm.length_eq, List.length_map, Array.length_toList, hn]; exact fits_of_scanBound hb
  refine wpAny_bind (wpAny_newList ?_ hlen)
  have hL : (s1.heap.push (seqObj "list" vs.toArray 0)).get? s1.heap.objs.size = some (seqObj "list" vs.toArray 0) := Heap.get?_push_size _ rfl
  have old : ∀ b u, s.heap.get? b = some u → (s1.heap.push (seqObj "list" vs.toArray 0)).get? b = some u := fun b u e => Heap.get?_push_of_some _ (k1 b u e)
  have below : ∀ b u, s.heap.get? b = some u → b ≠ s1.heap.objs.size := fun b u e => Nat.ne_of_lt (Nat.lt_of_lt_of_le (Heap.lt_size e) hz)
  refine wpAny_bind (wpAny_holding (sort_ord hL ec (ec.mono fun v b q => hr _ v b (fun b u e => sortingHeap_old (below b u e) (old b u e)) q) (by rw [← ec.length]; exact hlen) (by show A.units + 1 + 1 + Datum.depth α < cLine; omega) fun out ol eo => ?_))
  obtain ⟨c, hc⟩ := sortedHeap_at (vs := vs) (out := out.toArray) hL
  rw [srt_one (pc.trans hp)] at eo
  exact wpAny_pure ⟨_, rfl, hQ _ s1.heap.objs.size out c (fun b u e => (sortedHeap_old (below b u e) (Heap.lt_size (old b u e))).trans (old b u e)) g1 o1 hz hc eo⟩
end
section
variable {X : Cx} {B : Bs} {Γ : List Ent} {c : Nat} {e : Expr} {p p2 pos q : Pos} {α : Type} [DecidableEq α] [DatumOrd α]
/-- what the values of a list are -/
def RdV (D : V → α → Prop) (v : Value) (b : α) : Prop := ∃ x, RelV x v ∧ D x b
theorem each_rdv {D : V → α → Prop} : ∀ {xs : List V} {us : List Value} {bs : List α}, Vals xs us → EachIs D xs bs → EachIs (RdV D) us bs
  | _, _, _, .nil, .nil => .nil
  | _, _, _, .cons r t, .cons d ds => .cons ⟨_, r, d⟩ (each_rdv t ds)
theorem rdv_each {D : V → α → Prop} : ∀ {us : List Value} {bs : List α}, EachIs (RdV D) us bs → ∃ xs, Vals xs us ∧ EachIs D xs bs
  | _, _, .nil => ⟨[], .nil, .nil⟩
  | _, _, .cons ⟨x, r, d⟩ t => by
    obtain ⟨xs, h1, h2⟩ := rdv_each t
    exact ⟨x :: xs, .cons r h1, .cons d h2⟩
theorem rdv_reads {D : V → α → Prop} {pins : List (Addr × Obj)} {σ : L2.St} {H : Hp} {s : Shared} (I : Inv X pins σ H s) (hD : ∀ x b, D x b → Dq X.K H x (Datum.toD b)) {v : Value} {b : α} (h : RdV D v b) : ∃ as, Reads s.heap v (Datum.toD b) as := by
  obtain ⟨x, r, d⟩ := h
  exact Dp.reads I _ x v (hD _ _ d).dp r
theorem dq_each {K : PySem.W.Frag} {G : Hp} : ∀ {xs : List V} {bs : List α}, DqAll K G xs (bs.map Datum.toD) → EachIs (fun x b => Dq K G x (Datum.toD b)) xs bs
  | _, [], .nil => .nil
  | _, _ :: _, .cons d ds => .cons d (dq_each ds)
theorem each_dq {K : PySem.W.Frag} {G : Hp} : ∀ {xs : List V} {bs : List α}, EachIs (fun x b => Dq K G x (Datum.toD b)) xs bs → DqAll K G xs (bs.map Datum.toD)
  | _, _, .nil => .nil
  | _, _, .cons d ds => .cons d (each_dq ds)
def rSortO (K : PySem.W.Frag) (α : Type) [DecidableEq α] [DatumOrd α] : List V → Hp → VK → Prop := fun vs H Q => ∃ (a : Addr) (xs : List V) (bs : List α) (D : V → α → Prop), vs = [.ref a] ∧ SqL K H a xs ∧ EachIs D xs bs ∧ (∀ x b, D x b → Dq K H x (Datum.toD b)) ∧
  ∀ p ys, H p = none → EachIs D ys (srt bs) → Q (.ref p) (upd H p (.lst ys))
theorem cr_sortO (hu : X.A.units + 2 + Datum.depth α < cLine) : CallR X (.builtin "sorted") (rSortO X.K α) := by
  intro pins s σ H vs us Q I r h
  obtain ⟨a, xs, bs, D, rfl, hs, hx, hD, q⟩ := h
  obtain ⟨its, rv, hl, hz⟩ := I.list hs
  rw [Vals.ref1 r]
  have ed := each_rdv rv hx
  have hlen : its.length ≤ sizeLine := by rw [← rv.length]; exact hz
  refine sorted_ord hl.isList ed (ed.mono fun v b q => rdv_reads I hD q) (by rw [← ed.length]; exact hlen) hu fun out ol eo => ?_
  obtain ⟨ys, h1, h2⟩ := rdv_each eo
  obtain ⟨ep, at'⟩ := PyProof.Rows.sortedAll_at s.heap its out.toArray
  have hl2 : ys.length ≤ sizeLine := by rw [h1.length, ol, ← ed.length]; exact hlen
  exact ⟨.ref _, upd H (s.heap.objs.size + 1) (.lst ys), I.laid (t' := s.toks) (fun _ _ => PyProof.Rows.sortedAll_old) (Nat.le_succ _) ⟨hl2, out, ep, h1, at'⟩, rfl, q _ ys (I.hok.fresh (Nat.le_succ _)) h2⟩
theorem ok_sortO {K : PySem.W.Frag} {bs : List α} : CRok K (rSortO K α) [dt bs] (So (dt (srt bs))) := fun n G H vs Q vl hd k => by
  obtain ⟨v, rfl, h1⟩ := denAll1 hd
  obtain ⟨p, ws, rfl, hp, hw⟩ := dp_list h1.dp
  refine ⟨p, ws, bs, _, rfl, .of (vl.sub.lst hp), dq_each hw, fun x b d => dp_sub vl.sub d, fun l ys hl hy => ?_⟩
  obtain ⟨s1, v1⟩ := Ste.new (o := .lst ys) vl hl trivial
  exact k _ _ _ _ s1 v1 rfl (Res.newL vl hl (.py (each_dq hy)))
/-- sorted(xs) -/
theorem py_sorted {bs : List α} (hu : Hu X) (hm : X.mg "sorted" = none) (h : Ev X B Γ c e (Sd (dt bs))) (hd : Datum.depth α < 60 := by decide) (hg : Gl X "sorted" := by rfl) (h1 : starEach [e] X.env = (false, eval e X.env) :: starEach [] X.env := by rfl) (h2 : (backTo pos (starEach [] X.env)).any (·.1) = false := by rfl) :
    Ev X B Γ (c + 0) (.Call (.Name "sorted" p) [e] [] pos) (So (dt (srt bs))) := ev_callB (cr_sortO (by have : X.A.units + 64 < cLine := hu; omega)) hm (av_cons h av_nil h1) ok_sortO hg (by decide +kernel) (by decide) (by decide) h1 h2
/-! ### sets of texts, at once used -/
/-- what a set of texts is made of: a list or a tuple -/
class PySet1 (γ : Type) [DecidableEq γ] [Datum γ] where
  its : γ → List Str
  inv : ∀ {K : PySem.W.Frag} {G : Hp} {v : V} {x : γ}, Dq K G v (Datum.toD x) → ∃ a, v = .ref a ∧ (G a = some (.lst ((its x).map V.str)) ∨ SqT K G a ((its x).map V.str))
instance : PySet1 (List Str) := ⟨fun xs => xs, fun h => by
  obtain ⟨a, vs, rfl, ha, hv⟩ := dp_list h
  rw [dq_strs hv] at ha
  exact ⟨a, rfl, .inl ha⟩⟩
instance : PySet1 (Tup Str) := ⟨fun xs => xs.items, fun h => by
  obtain ⟨a, vs, rfl, ha, hv⟩ := dp_tup h
  rw [dq_strs hv] at ha
  exact ⟨a, rfl, .inr ha⟩⟩
theorem list_inv {γ : Type} [DecidableEq γ] [Datum γ] [PySet1 γ] {pins : List (Addr × Obj)} {σ : L2.St} {H : Hp} {s : Shared} {n : Nat} {G : Hp} (I : Inv X pins σ H s) (vl : Val n G H) {v : V} {xs : γ} (h : Den X.K G v (dt xs)) : ∃ a its, v = .ref a ∧ (s.heap.IsList a its ∨ s.heap.IsTuple a its) ∧ Vals ((PySet1.its xs).map V.str) its.toList := by
  obtain ⟨a, rfl, ha⟩ := PySet1.inv h.dp
  rcases ha with ha | ha
  · obtain ⟨its, rv, hl, _⟩ := I.list (SqL.of (vl.sub.lst ha))
    exact ⟨a, its.toArray, rfl, .inl hl.isList, by simpa using rv⟩
  · obtain ⟨its, rv, hl, _⟩ := I.tuple (vl.sub.sqT ha)
    exact ⟨a, its.toArray, rfl, .inr hl, by simpa using rv⟩
theorem vals_str {xs : List Str} {us : List Value} (h : Vals (xs.map V.str) us) {j : Nat} {v : Value} {k : Str} (hv : us[j]? = some v) (hk : xs[j]? = some k) : ∃ tk, v = .str k tk := by
  have e : (xs.map V.str)[j]? = some (.str k) := by rw [List.getElem?_map, hk]; rfl
  obtain ⟨w, hw, r⟩ := h.get e
  rw [hw] at hv; cases hv
  exact r
/-- set(xs), xs a list of texts -/
theorem set_txt {A : Around} {E : Value → Shared → Prop} {P : Program} {w : World} {s : Shared} {l : Addr} {items : Array Value} {xs : List Str} {Q : Value → Shared → Prop} (hh : A.handled = none) (hl : s.heap.IsList l items ∨ s.heap.IsTuple l items) (hv : Vals (xs.map V.str) items.toList) (hz : xs.length + 1 < scanBound)
    (h : ∀ (h' : Heap) (tk : Nat), SetAtW w (TxT w (once xs)) (once xs).length h' s.heap.objs.size → (∀ b o, s.heap.get? b = some o → h'.get? b = some o) → Q (.ref s.heap.objs.size) { s with heap := h', toks := tk }) :
    wpAny (model P w) A (call (.type "set") [.ref l]) Q E s := by
  have hn : items.size = xs.length := by rw [← Array.length_toList, ← hv.length, List.length_map]
  have g0 : TxG w [] [] := ⟨fun e he => by simp at he, .refl _, List.Pairwise.nil⟩
  have hadd : ∀ (A' : Around) (s1 : Shared) (j : Nat) (v : Value) (k : Str) (l : List Str) (Q : Bool → Shared → Prop) (E' : Value → Shared → Prop), A'.handled = none → A'.units ≤ A.units + 8 → items[j]? = some v → xs[j]? = some k → l.length ≤ j → (∀ b o, s.heap.get? b = some o → s1.heap.get? b = some o) →
      SetAtW w (TxT w l) l.length s1.heap s.heap.objs.size → (∀ b h' tk, s1.toks ≤ tk → Heap.SameBut s.heap.objs.size s1.heap h' → SetAtW w (TxT w (addK l k)) (addK l k).length h' s.heap.objs.size → Q b { s1 with heap := h', toks := tk }) → wpAny (model P w) A' (setAdd s.heap.objs.size v) Q E' s1 := fun A' s1 j v k l Q E' hh' _ hj hk hlj _ S q => by
    obtain ⟨tk, rfl⟩ := vals_str hv (by rw [Array.getElem?_toList]; exact hj) hk
    have hjl : j < xs.length := (List.getElem?_eq_some_iff.mp hk).1
    unfold setAdd
    refine wpAny_holding (wpAny_bind ((PySem.strKind P w).pyHash (k := k) (strKind_is _ _ _ _) ?_))
    exact tx_add (s := { s1 with toks := s1.toks + 1 }) S (by omega) fun b h' sb S2 => q b h' _ (Nat.le_succ _) sb S2
  rcases hl with hl | hl
  · exact call_set_of (G := TxT w) hh hl hn g0 hadd h
  · exact call_set_ofT (G := TxT w) hh hl hn g0 hadd h
/-- what a set's members are -/
theorem tx_each {w : World} {l : List Str} {es : List (Int × Value)} (g : TxG w l es) : ∃ bs, bs.Perm l ∧ EachIs (fun v b => ∃ tk, v = Value.str b tk) (es.map (·.2)) bs := by
  refine ⟨es.map fun e => txtOf e.2, g.2.1, ?_⟩
  have := g.1
  clear g
  induction es with
  | nil => exact .nil
  | cons e es ih => exact .cons (this e List.mem_cons_self).1 (ih fun e he => this e (List.mem_cons_of_mem _ he))
section
variable {γ : Type} [DecidableEq γ] [Datum γ] [PySet1 γ] {zs : γ}
theorem ev_sortedSet (hu : Hu X) (hc : X.calm = true) (hm : X.mg "sorted" = none) (hm2 : X.mg "set" = none) (h : Ev X B Γ c e (Sd (dt zs))) (hz : (PySet1.its zs).length + 1 < 4096) (hg : Gl X "sorted" := by rfl) (hg2 : Gl X "set" := by rfl)
    (na : starEach [e] X.env = (false, eval e X.env) :: starEach [] X.env := by rfl) : Ev X B Γ c (.Call (.Name "sorted" p) [.Call (.Name "set" p2) [e] [] q] [] pos) (So (dt (sset (PySet1.its zs)))) := by
  refine ⟨fun pins s σ H Q I ⟨n, G, pr, k⟩ => ?_⟩
  refine Call_ (ld_blt I hg hm boot_sorted (PyProof.Rows.callWith_builtin1 (PyProof.Rows.args_cons ?_ rfl) rfl rfl))
  refine Call_ (ld_blt I hg2 hm2 boot_set ?_)
  refine PyProof.Rows.callWith_type1 (PyProof.Rows.args_cons (thn (h.run pins s σ H _ I ⟨n, G, pr, fun v H1 G1 n1 r hn st vl hS hr => (⟨G1, n1, hn, st, vl, by cases hS; cases hr; assumption⟩ : ∃ G1 n1, n1 ≤ n + c ∧ Ste G H G1 H1 ∧ Val n1 G1 H1 ∧ Den X.K G1 v (dt zs))⟩) fun v s1 ⟨x, H1, I1, r1, G1, n1, hn, st, vl, den⟩ => PyProof.Rows.args_nil ?_) na) na rfl
  obtain ⟨a, its, rfl, hl, rv⟩ := list_inv I1 vl den
  obtain rfl : v = Value.ref a := r1
  have hu' : X.A.units + 64 < cLine := hu
  refine set_txt (I1.ok.hd hc) hl rv hz fun h' tk S kp => PyProof.Rows.args_nil ?_
  refine sorted_setW (s := { s1 with heap := h', toks := tk }) S (I1.ok.hd hc) (by show X.A.units + 4 + 0 < cLine; omega) (fun es _ g => tx_each g) (fun h2 v b _ ⟨tk, e⟩ => ⟨[], by rw [e]; exact .str _ _⟩) fun s2 p out c2 k2 g2 o2 hp hL eo => ?_
  have hlt : ∀ b o, s1.heap.get? b = some o → s2.heap.get? b = some o := fun b o e => k2 b o (kp b o e)
  have hp1 : s1.heap.objs.size ≤ p := by
    have z := Heap.lt_size hL
    rcases Nat.lt_or_ge p s1.heap.objs.size with y | y
    · have : s1.heap.objs.size ≤ h'.objs.size := by
        obtain ⟨o, ho, _⟩ := S
        exact Nat.le_of_lt (Heap.lt_size ho)
      exact absurd (Nat.lt_of_lt_of_le y this) (Nat.not_lt_of_le hp)
    · exact y
  have hn1 : H1 p = none := I1.hok.fresh hp1
  have hv : Vals ((sset (PySet1.its zs)).map V.str) out := by
    have : ∀ {us : List Value} {bs : List Str}, EachIs (fun v b => ∃ tk, v = Value.str b tk) us bs → Vals (bs.map V.str) us := by
      intro us bs h
      induction h with
      | nil => exact .nil
      | cons h _ ih => exact .cons h ih
    exact this eo
  have hln : ((sset (PySet1.its zs)).map V.str).length ≤ sizeLine := by
    rw [List.length_map]
    show (srt (once (PySet1.its zs))).length ≤ _
    rw [(srt_perm _).length_eq]
    have := once_len (PySet1.its zs)
    rw [sizeLine_eq]; omega
  have J : Inv X pins σ (upd H1 p (.lst ((sset (PySet1.its zs)).map V.str))) { s1 with heap := s2.heap, gens := s2.gens, drawn := s2.drawn, toks := s2.toks } :=
    I1.call (ch := []) (Un.laid hlt hp1 hn1) (I1.hok.laid hlt hp1 ⟨hln, out, c2, hv, hL⟩) (by rw [g2]; exact I1.bare) (fun _ z => nomatch z)
  have e : s2 = { s1 with heap := s2.heap, gens := s2.gens, drawn := s2.drawn, toks := s2.toks } := by
    cases s2
    cases s1
    cases o2
    rfl
  rw [e]
  obtain ⟨s3, v3⟩ := Ste.new (o := .lst ((sset (PySet1.its zs)).map V.str)) vl hn1 trivial
  refine ⟨.ref p, _, J, rfl, k _ _ G1 n1 _ hn (st.trans s3) v3 rfl ((Res.newL vl hn1 (.py ?_)).base st.h)⟩
  have : ∀ ys : List Str, DqAll X.K G1 (ys.map V.str) (ys.map Datum.toD) := by
    intro ys
    induction ys with
    | nil => exact .nil
    | cons y ys ih => exact .cons (.str y) ih
  exact this _
theorem ev_lenSet (hc : X.calm = true) (hm : X.mg "len" = none) (hm2 : X.mg "set" = none) (h : Ev X B Γ c e (Sd (dt zs))) (hz : (PySet1.its zs).length + 1 < 4096) (hg : Gl X "len" := by rfl) (hg2 : Gl X "set" := by rfl)
    (na : starEach [e] X.env = (false, eval e X.env) :: starEach [] X.env := by rfl) : Ev X B Γ c (.Call (.Name "len" p) [.Call (.Name "set" p2) [e] [] q] [] pos) (Sd (dt (((once (PySet1.its zs)).length : Nat) : Int))) := by
  refine ⟨fun pins s σ H Q I ⟨n, G, pr, k⟩ => ?_⟩
  refine Call_ (ld_blt I hg hm PySem.boot_len (PyProof.Rows.callWith_builtin1 (PyProof.Rows.args_cons ?_ rfl) rfl rfl))
  refine Call_ (ld_blt I hg2 hm2 boot_set ?_)
  refine PyProof.Rows.callWith_type1 (PyProof.Rows.args_cons (thn (h.run pins s σ H _ I ⟨n, G, pr, fun v H1 G1 n1 r hn st vl hS hr => (⟨G1, n1, hn, st, vl, by cases hS; cases hr; assumption⟩ : ∃ G1 n1, n1 ≤ n + c ∧ Ste G H G1 H1 ∧ Val n1 G1 H1 ∧ Den X.K G1 v (dt zs))⟩) fun v s1 ⟨x, H1, I1, r1, G1, n1, hn, st, vl, den⟩ => PyProof.Rows.args_nil ?_) na) na rfl
  obtain ⟨a, its, rfl, hl, rv⟩ := list_inv I1 vl den
  obtain rfl : v = Value.ref a := r1
  refine set_txt (I1.ok.hd hc) hl rv hz fun h' tk S kp => PyProof.Rows.args_nil ?_
  have I2 : Inv X pins σ H1 { s1 with heap := h', toks := tk } := I1.kept kp
  obtain ⟨o, ho, hex, es, ep, t, hd, g, hn', hb, tb⟩ := S
  have hb' : (once (PySet1.its zs)).length < 4096 := hb
  refine call_len_set ho hex hd (by rw [hn']; exact tb.1) (by rw [hn']; omega) ⟨.int (once (PySet1.its zs)).length, H1, I2.tok _, ⟨_, by rw [hn']⟩, k _ H1 G1 n1 _ hn st vl rfl (.sh (.py (.int _)))⟩
end
end
end DL
end

section
set_option Elab.async false
set_option linter.all false
set_option maxRecDepth 100000
set_option maxHeartbeats 4000000
set_option autoImplicit false
/-! DnE: sets of keys that are tuples (of texts, numbers, tuples): the table's search, adding. -/
namespace DL
open PySem PySem.Spec PyProof.Rows L2 PySem.W PySem.SeqAt
section
variable {P : Program} {w : World} {A : Around} {E : Value → Shared → Prop} {s : Shared}
/-! ### what is asked of a key -/
mutual
/-- whether the hash is that of values alone -/
def hbv : NestedKey → Bool
  | .none => true
  | .num _ => true
  | .text _ => false
  | .tup ks => hbvs ks
def hbvs : List NestedKey → Bool
  | [] => true
  | k :: ks => hbv k && hbvs ks
end
mutual
theorem hashBy_nk : ∀ (k : NestedKey) (v : Value) (n : Nat) (A : Around) (Q : Bool → Shared → Prop), NestedIs s.heap k v → k.depth ≤ n → Q (hbv k) s → wpAny (model P w) A (hashByValue n v) Q E s
  | .none, v, n, A, Q, x, _, q => by cases x; cases n <;> exact wpAny_pure q
  | .num i, v, n, A, Q, x, _, q => by cases x <;> (cases n <;> exact wpAny_pure q)
  | .text y, v, n, A, Q, x, _, q => by cases x; cases n <;> exact wpAny_pure q
  | .tup ks, v, n, A, Q, x, hd, q => by
    cases x with
    | @tup b o us m _ ho hc hdat hall =>
      simp only [NestedKey.depth] at hd
      cases n with
      | zero => omega
      | succ n =>
        have ty : s.TypeIs (.ref b) "tuple" := ⟨o, ho, hc⟩
        unfold hashByValue
        refine wpAny_bind (wpAny_specialOf ty F.slot_tuple_hash.lookup ?_)
        show wpAny _ _ (seqItems? (.ref b) >>= _) _ _ s
        refine wpAny_bind (wpAny_seqItems ho hdat ?_)
        refine wpAny_bind ?_
        show wpAny _ _ (forIn us _ _) _ _ s
        rw [← Array.forIn_toList]
        refine hashBy_nks ks us.toList n A _ hall (by omega) (fun e => ?_) fun e => ?_
        · exact wpAny_pure (by rw [show hbv (.tup ks) = true from e] at q; exact q)
        · exact wpAny_pure (by rw [show hbv (.tup ks) = false from e] at q; exact q)
theorem hashBy_nks : ∀ (ks : List NestedKey) (us : List Value) (n : Nat) (A : Around) (Q : Option Bool × Unit → Shared → Prop), NestedAll s.heap ks us → NestedKey.depthAll ks ≤ n → (hbvs ks = true → Q (none, ()) s) → (hbvs ks = false → Q (some false, ()) s) →
    wpAny (model P w) A (forIn us ((none, ()) : Option Bool × Unit) fun x r => do
      let b ← hashByValue n x
      if (!b) = true then pure (ForInStep.done (some false, ())) else do
        pure PUnit.unit
        pure (ForInStep.yield (none, ()))) Q E s
  | [], us, n, A, Q, x, _, q1, _ => by cases x; exact wpAny_pure (q1 rfl)
  | k :: ks, us, n, A, Q, x, hd, q1, q2 => by
    cases x with
    | cons x1 x2 =>
      simp only [NestedKey.depthAll] at hd
      rw [List.forIn_cons]
      refine wpAny_bind (wpAny_bind (hashBy_nk k _ n A _ x1 (by omega) ?_))
      cases e : hbv k with
      | true =>
        refine wp_if_neg (by decide) ?_
        refine wpAny_bind (wpAny_pure (wpAny_pure ?_))
        exact hashBy_nks ks _ n A Q x2 (by omega) (fun h => q1 (by rw [hbvs, e, h]; rfl)) fun h => q2 (by rw [hbvs, e, h]; rfl)
      | false =>
        refine wp_if_pos (by decide) ?_
        exact wpAny_pure (wpAny_pure (q2 (by rw [hbvs, e]; rfl)))
end
mutual
theorem ofA_nk : ∀ (k : NestedKey) (v : Value) (n : Nat) (A : Around) (Q : Bool → Shared → Prop), NestedIs s.heap k v → k.depth ≤ n → Q false s → wpAny (model P w) A (ofAClassStatement n v) Q E s
  | .none, v, n, A, Q, x, _, q => by cases x; cases n <;> exact wpAny_pure q
  | .num i, v, n, A, Q, x, _, q => by cases x <;> (cases n <;> exact wpAny_pure q)
  | .text y, v, n, A, Q, x, _, q => by cases x; cases n <;> exact wpAny_pure q
  | .tup ks, v, n, A, Q, x, hd, q => by
    cases x with
    | @tup b o us m _ ho hc hdat hall =>
      simp only [NestedKey.depth] at hd
      cases n with
      | zero => omega
      | succ n =>
        have ty : s.TypeIs (.ref b) "tuple" := ⟨o, ho, hc⟩
        unfold ofAClassStatement
        refine wpAny_bind (wpAny_typeOf ty ?_)
        dsimp only
        have et : (("tuple" : String) == "tuple") = true := by decide
        rw [if_pos et]
        refine wpAny_bind (wpAny_pure ?_)
        refine wp_if_neg ?_ ?_
        · decide
        refine wpAny_bind (wpAny_seqItems ho hdat ?_)
        dsimp only
        refine wpAny_bind ?_
        rw [← Array.forIn_toList]
        refine ofA_nks ks us.toList n A _ hall (by omega) ?_
        exact wpAny_pure q
theorem ofA_nks : ∀ (ks : List NestedKey) (us : List Value) (n : Nat) (A : Around) (Q : Option Bool × Unit → Shared → Prop), NestedAll s.heap ks us → NestedKey.depthAll ks ≤ n → Q (none, ()) s →
    wpAny (model P w) A (forIn us ((none, ()) : Option Bool × Unit) fun x r => do
      let b ← ofAClassStatement n x
      if b = true then pure (ForInStep.done (some true, ())) else do
        pure PUnit.unit
        pure (ForInStep.yield (none, ()))) Q E s
  | [], us, n, A, Q, x, _, q1 => by cases x; exact wpAny_pure q1
  | k :: ks, us, n, A, Q, x, hd, q1 => by
    cases x with
    | cons x1 x2 =>
      simp only [NestedKey.depthAll] at hd
      rw [List.forIn_cons]
      refine wpAny_bind (wpAny_bind (ofA_nk k _ n A _ x1 (by omega) ?_))
      refine wp_if_neg (by decide) ?_
      refine wpAny_bind (wpAny_pure (wpAny_pure ?_))
      exact ofA_nks ks _ n A Q x2 (by omega) q1
end
abbrev AtK (P : Program) (w : World) (h : Heap) (k : NestedKey) (a : Addr) : Prop := (nestedKind P w).is h k a
theorem seen_nk {k : NestedKey} {b : Addr} {Q : Bool → Shared → Prop} (hk : AtK P w s.heap k b) {ys : List Value} (hy : ∀ y ∈ ys, ∃ k' c, y = Value.ref c ∧ AtK P w s.heap k' c) (q : Q false s) : wpAny (model P w) A (searchCouldBeSeen (.ref b) ys) Q E s := by
  unfold searchCouldBeSeen
  refine wpAny_bind (wpAny_forIn_list _ (fun left r s1 => (r.1 = none ∧ s1 = s) ∧ ∀ y ∈ left, ∃ k' c, y = Value.ref c ∧ AtK P w s.heap k' c) _ ?_ ?_ _ _ ⟨⟨rfl, rfl⟩, hy⟩)
  · rintro v left r s1 ⟨⟨hr, e1⟩, all⟩
    subst e1
    obtain ⟨k', c, rfl, hc⟩ := all v List.mem_cons_self
    have on : ∀ y ∈ left, ∃ k' c, y = Value.ref c ∧ AtK P w s1.heap k' c := fun u hu => all u (List.mem_cons_of_mem _ hu)
    dsimp only
    by_cases same : (b == c || (carriedByValue (.ref b) && carriedByValue (.ref c))) = true
    · exact wp_if_pos same (wpAny_pure ⟨⟨rfl, rfl⟩, on⟩)
    · refine wp_if_neg same (wpAny_bind ((nestedKind P w).quiet hk ?_))
      refine wp_if_neg (by decide) (wpAny_bind ((nestedKind P w).quiet hc ?_))
      refine wp_if_neg (by decide) (wpAny_bind (ofA_nk k _ 8 A _ hk.1 hk.2 ?_))
      refine wp_if_neg (by decide) (wpAny_bind (ofA_nk k' _ 8 A _ hc.1 hc.2 ?_))
      exact wp_if_neg (by decide) (wpAny_pure ⟨⟨rfl, rfl⟩, on⟩)
  · rintro ⟨r1, r2⟩ s1 ⟨⟨hr, e1⟩, _⟩
    subst e1
    have hr' : r1 = none := hr
    subst hr'
    exact wpAny_pure q
/-! ### the table of keys -/
abbrev KL := List (Addr × NestedKey)
def keyHs (w : World) (L : KL) : List Int := L.map fun q => q.2.hash w
def keyEs (w : World) (L : KL) : List (Int × Value) := L.map fun q => (q.2.hash w, Value.ref q.1)
structure NTab (w : World) (L : KL) (es : List (Int × Value)) (t : SetTable) : Prop where
  rows : es = keyEs w L
  tab : L2.TabOk t (keyHs w L)
  nd : (L.map (·.2)).Nodup
  room : L.length * 5 < t.mask * 3
  few : L.length < 64
theorem keyEs_at {L : KL} {i : Nat} {q : Addr × NestedKey} (h : L[i]? = some q) : (keyEs w L)[i]? = some (q.2.hash w, Value.ref q.1) := by
  unfold keyEs; rw [List.getElem?_map, h]; rfl
theorem keyHs_at {L : KL} {i : Nat} {q : Addr × NestedKey} (h : L[i]? = some q) : (keyHs w L)[i]? = some (q.2.hash w) := by
  unfold keyHs; rw [List.getElem?_map, h]; rfl
/-- where the search for a hash begins, where it stands behind n steps -/
abbrev beg (t : SetTable) (h : Int) : SetTable.Probe := L2.runAt t.mask (SetTable.bits h % (t.mask + 1)) (SetTable.bits h)
theorem nth_dummy (m : Nat) : ∀ (n : Nat) (q : SetTable.Probe), q.dummy = none → (L2.nth m q n).dummy = none
  | 0, _, h => h
  | n + 1, q, h => nth_dummy m n _ (by unfold L2.adv; split <;> exact h)
theorem srch_nk {a x : Addr} {k : NestedKey} {o : Obj} {es : Array (Int × Value)} {ep : Nat} {t : SetTable} {L : KL} (T : NTab w L es.toList t) (ho : s.heap.get? a = some o) (hd : o.data = .set es ep t) (hf : t.fits es.size = true)
    (gw : ¬ t.gaveWay = true) (hL : ∀ q ∈ L, AtK P w s.heap q.2 q.1) (hx : AtK P w s.heap k x) (hu : A.units + 8 < cLine) {N : Nat} (hN : N < 10 * SetTable.turns t.mask) (far : L2.way t.mask (k.hash w) N ∉ t.place.toList) (near : ∀ c, c < N → L2.way t.mask (k.hash w) c ∈ t.place.toList)
    {Q : SetFound → Shared → Prop} (q1 : k ∈ L.map (·.2) → Q (.there none) s) (q2 : k ∉ L.map (·.2) → Q (.free (L2.way t.mask (k.hash w) N) false) s) :
    ∀ (f c : Nat) (from_ : Option SetTable.Probe), from_.getD (t.probeStart (k.hash w)) = L2.nth t.mask (beg t (k.hash w)) c → c ≤ N → N - c < f →
      (∀ (i : Nat) q, L[i]? = some q → q.2 = k → ∃ c', c ≤ c' ∧ c' < N ∧ t.place.toList[i]? = some (L2.way t.mask (k.hash w) c')) → wpAny (model P w) A (setSearchFrom a (.ref x) (k.hash w) true f from_) Q E s := by
  intro f
  induction f with
  | zero => intro c from_ _ _ h _; exact absurd h (Nat.not_lt_zero _)
  | succ f ih =>
    intro c from_ hst hc hfu late
    have es_at : ∀ {i : Nat} {q : Addr × NestedKey}, L[i]? = some q → es[i]? = some (q.2.hash w, Value.ref q.1) := fun {i q} h => by rw [← Array.getElem?_toList, T.rows]; exact keyEs_at h
    have shift : ∀ n, L2.nth t.mask (L2.nth t.mask (beg t (k.hash w)) c) n = L2.nth t.mask (beg t (k.hash w)) (c + n) := fun n => (L2.nth_add t.mask c _ n).symm
    have shiftW : ∀ n, (L2.nth t.mask (L2.nth t.mask (beg t (k.hash w)) c) n).j = L2.way t.mask (k.hash w) (c + n) := fun n => congrArg SetTable.Probe.j (shift n)
    have whatHash : ∀ {i : Nat} {q : Addr × NestedKey}, L[i]? = some q → (fun i => (es[i]?.map (·.1)).getD 0) i = q.2.hash w := fun {i q} h => by
      show (es[i]?.map (·.1)).getD 0 = _
      rw [es_at h]; rfl
    rw [L2.setSearchFrom_succ]
    refine wpAny_bind (wpAny_setState_of ho hd hf ?_)
    dsimp only
    refine wp_if_neg gw ?_
    have met := L2.go_spec t T.tab.ris T.tab.dm (fun i => (es[i]?.map (·.1)).getD 0) (k.hash w) (10 * SetTable.turns t.mask) (N - c) _ (nth_dummy _ c (beg t (k.hash w)) rfl) (by omega)
      (fun n hn => by rw [shiftW]; exact near _ (by omega)) (by rw [shiftW, show c + (N - c) = N by omega]; exact far)
    have probe_eq : t.probe (fun i => (es[i]?.map (·.1)).getD 0) (k.hash w) (from_.getD (t.probeStart (k.hash w))) = SetTable.probe.go t (fun i => (es[i]?.map (·.1)).getD 0) (k.hash w) (10 * SetTable.turns t.mask) (L2.nth t.mask (beg t (k.hash w)) c) := by
      rw [hst]; rfl
    rw [probe_eq]
    rcases met with ⟨n, i, hn, hi, hh, before, e⟩ | ⟨none_, e⟩
    · rw [e]
      dsimp only
      rw [shiftW] at hi
      have il : i < L.length := by
        have h1 := (List.getElem?_eq_some_iff.mp hi).1
        have h2 := T.tab.sz
        unfold keyHs at h2
        rw [List.length_map] at h2
        rw [Array.length_toList] at h1
        omega
      obtain ⟨q, hq⟩ : ∃ q, L[i]? = some q := ⟨_, List.getElem?_eq_getElem il⟩
      have qL : q ∈ L := List.mem_of_getElem? hq
      have here : t.slot (L2.way t.mask (k.hash w) (c + n)) = .live i := L2.slot_live T.tab.ris hi
      rw [shiftW, shift]
      have go : wpAny (model P w) A (L2.searchRest a (.ref x) (k.hash w) true f es t (L2.way t.mask (k.hash w) (c + n)) i (L2.nth t.mask (beg t (k.hash w)) (c + (n + 1)))) Q E s := by
        unfold L2.searchRest
        rw [es_at hq]
        dsimp only
        refine wpAny_bind (wpAny_holding ((nestedKind P w).eqBool hu (hL q qL) hx (wpAny_bind (wpAny_setState_of ho hd hf ?_))))
        dsimp only
        by_cases same : q.2 = k
        · refine wp_if_pos (by simp [same]) ?_
          exact wpAny_pure (q1 (List.mem_map.mpr ⟨q, qL, same⟩))
        · refine wp_if_neg (by simp [same]) ?_
          rw [L2.sameMem]
          dsimp only
          simp only [if_true, here, es_at hq]
          refine wpAny_bind (wpAny_isSame_ref_self (wpAny_bind (wpAny_pure ?_)))
          simp only [if_true]
          refine wp_if_neg (by simp [same]) ?_
          refine ih (c + (n + 1)) _ rfl (by omega) (by omega) fun i0 q0 h0 k0 => ?_
          obtain ⟨c', l1, l2, l3⟩ := late i0 q0 h0 k0
          refine ⟨c', ?_, l2, l3⟩
          rcases Nat.lt_trichotomy c' (c + n) with z | z | z
          · exact absurd ((whatHash h0).trans (by rw [k0])) (before (c' - c) i0 (by omega) (by rw [shiftW, show c + (c' - c) = c' by omega]; exact l3))
          · exfalso
            rw [z] at l3
            have two_ := L2.slot_live T.tab.ris l3
            rw [here] at two_
            injection two_ with two_
            rw [← two_, hq] at h0
            cases h0
            exact same k0
          · omega
      by_cases led : t.led = true
      · refine wp_if_neg (by simp [led]) ?_
        exact go
      · refine wp_if_pos (by simp [led]) (wpAny_bind (seen_nk hx (fun y hy => ?_) ?_))
        · obtain ⟨e0, he0, ee⟩ := List.mem_map.mp hy
          have m1 : e0 ∈ es.toList := by
            have : e0 ∈ es ∧ e0.1 = k.hash w := by simpa using he0
            simpa using this.1
          rw [T.rows] at m1
          obtain ⟨q0, hq0, e1⟩ := List.mem_map.mp m1
          exact ⟨q0.2, q0.1, by rw [← ee, ← e1], hL q0 hq0⟩
        · refine wp_if_neg (by decide) ?_
          exact go
    · rw [e]
      dsimp only
      rw [shiftW, show c + (N - c) = N by omega]
      refine wpAny_pure (q2 fun hm => ?_)
      obtain ⟨q, hq, ek⟩ := List.mem_map.mp hm
      obtain ⟨i, hi⟩ := List.mem_iff_getElem?.mp hq
      obtain ⟨c', l1, l2, l3⟩ := late i q hi ek
      refine none_ (c' - c) i (by omega) (by rw [shiftW, show c + (c' - c) = c' by omega]; exact l3) ?_
      exact (whatHash hi).trans (by rw [ek])
theorem fits_nk {t : SetTable} {hs : List Int} (T : L2.TabOk t hs) {n : Nat} (e : hs.length = n) (h : n ≤ t.mask) : t.fits n = true := by
  have sz := T.sz
  unfold SetTable.fits SetTable.fill
  rw [T.dm, Bool.and_eq_true, beq_iff_eq, decide_eq_true_eq]
  exact ⟨sz.trans e, by show t.place.size + 0 ≤ t.mask; omega⟩
theorem odd_nk {t : SetTable} {hs : List Int} (T : L2.TabOk t hs) : ¬ t.gaveWay = true := by
  unfold SetTable.gaveWay
  rw [L2.mask_odd T.mok]
  decide
theorem find_nk {a x : Addr} {k : NestedKey} {o : Obj} {es : Array (Int × Value)} {ep : Nat} {t : SetTable} {L : KL} (T : NTab w L es.toList t) (ho : s.heap.get? a = some o) (hd : o.data = .set es ep t) (hf : t.fits es.size = true)
    (hL : ∀ q ∈ L, AtK P w s.heap q.2 q.1) (hx : AtK P w s.heap k x) (hu : A.units + 8 < cLine) {Q : SetFound → Shared → Prop} (q1 : k ∈ L.map (·.2) → Q (.there none) s)
    (q2 : ∀ N, k ∉ L.map (·.2) → L2.way t.mask (k.hash w) N ∉ t.place.toList → (∀ c, c < N → L2.way t.mask (k.hash w) c ∈ t.place.toList) → Q (.free (L2.way t.mask (k.hash w) N) false) s) : wpAny (model P w) A (setSearch a (.ref x) (k.hash w) true) Q E s := by
  have r := T.room
  obtain ⟨N, hN, far, near⟩ := T.tab.first (by unfold keyHs; rw [List.length_map]; omega) (k.hash w)
  have small : 10 * SetTable.turns t.mask ≤ 1420 := by
    unfold SetTable.turns
    rcases T.tab.mok with e | e | e <;> omega
  unfold setSearch
  refine srch_nk T ho hd hf (odd_nk T.tab) hL hx hu hN far near q1 (fun h => q2 N h far near) 100000 0 none rfl (Nat.zero_le _) (by omega) fun i q hq hk => ?_
  have il : i < t.place.toList.length := by
    have h1 := (List.getElem?_eq_some_iff.mp hq).1
    have h2 := T.tab.sz
    unfold keyHs at h2
    rw [List.length_map] at h2
    rw [Array.length_toList]
    omega
  have hi := List.getElem?_eq_getElem il
  obtain ⟨c, hc, e⟩ := T.tab.before far (by rw [keyHs_at hq, hk]) hi
  exact ⟨c, Nat.zero_le _, hc, by rw [hi, e]⟩
/-- the rows in another order -/
theorem order_nk {L : KL} {order : List Nat} (hp : order.Perm (List.range L.length)) : ∃ L' : KL, L'.Perm L ∧ order.filterMap (fun i => (keyEs w L)[i]?) = keyEs w L' ∧ keyHs w L' = order.map fun i => (keyHs w L).getD i 0 := by
  refine ⟨order.filterMap fun i => L[i]?, ?_, ?_, ?_⟩
  · have e : (List.range L.length).filterMap (fun i => L[i]?) = L := by
      have : ∀ n, n ≤ L.length → (List.range n).filterMap (fun i => L[i]?) = L.take n := by
        intro n
        induction n with
        | zero => intro _; rfl
        | succ n ih =>
          intro hn
          rw [List.range_succ, List.filterMap_append, ih (by omega), List.take_succ]
          rw [List.getElem?_eq_getElem (show n < L.length by omega)]
          simp [List.getElem?_eq_getElem (show n < L.length by omega)]
      rw [this _ (Nat.le_refl _), List.take_length]
    have := hp.filterMap (fun i => L[i]?)
    rw [e] at this
    exact this
  · unfold keyEs
    rw [List.map_filterMap]
    exact congrArg (fun g => order.filterMap g) (funext fun i => by rw [List.getElem?_map])
  · have all : ∀ i ∈ order, i < L.length := fun i hi => List.mem_range.mp (hp.mem_iff.mp hi)
    clear hp
    induction order with
    | nil => rfl
    | cons i order ih =>
      have h1 := all i List.mem_cons_self
      rw [List.filterMap_cons_some (List.getElem?_eq_getElem h1), List.map_cons]
      unfold keyHs at ih ⊢
      rw [List.map_cons, ih fun j hj => all j (List.mem_cons_of_mem _ hj)]
      congr 1
      simp [List.getD_eq_getElem?_getD, h1]
/-- what a set of keys holds: rows out of U -/
def NkG (w : World) (U : KL) (l : List NestedKey) : List (Int × Value) → SetTable → Prop := fun es t => ∃ L : KL, NTab w L es t ∧ (L.map (·.2)).Perm l ∧ (∀ q ∈ L, q ∈ U) ∧ l.Nodup
theorem keyEs_len {L : KL} {es : Array (Int × Value)} (h : es.toList = keyEs w L) : es.size = L.length := by
  have := congrArg List.length h
  unfold keyEs at this
  rwa [Array.length_toList, List.length_map] at this
theorem relay_nk {a : Addr} {o : Obj} {es : Array (Int × Value)} {ep : Nat} {t : SetTable} {L : KL} (ho : s.heap.get? a = some o) (hd : o.data = .set es ep t) (rows : es.toList = keyEs w L) (tab : L2.TabOk t (keyHs w L)) (fl : L.length ≤ t.mask)
    (nd : (L.map (·.2)).Nodup) (few : L.length < 64) {wanted M : Nat} (hw : SetTable.sizeAbove wanted - 1 = M) (hM : L2.MaskOk M) (h128 : SetTable.sizeAbove wanted ≤ 128) (room : L.length * 5 < M * 3) {Q : Unit → Shared → Prop}
    (hQ : ∀ (es' : Array (Int × Value)) (t' : SetTable) (L' : KL), NTab w L' es'.toList t' → L'.Perm L → t'.led = t.led → Q () { s with heap := s.heap.update a (Obj.putSet es' t') }) : wpAny (model P w) A (setRelay a wanted) Q E s := by
  have sz := keyEs_len rows
  have hsz : (es.map (·.1)).toList = keyHs w L := by
    rw [Array.toList_map, rows]
    unfold keyEs keyHs
    rw [List.map_map]; rfl
  have hl : (es.map (·.1)).size = L.length := by rw [Array.size_map, sz]
  obtain ⟨t', order, e, pm, T, em, el, _, _⟩ := L2.relaid_ok t (hs := es.map (·.1)) (wanted := wanted) hw hM (by rw [hl]; omega)
  rw [hl] at pm
  obtain ⟨L', p1, p2, p3⟩ := order_nk (w := w) pm
  have e1 : (order.filterMap (es[·]?)).toList = keyEs w L' := by
    rw [Array.toList_filterMap, ← p2]
    exact congrArg (fun g => order.toList.filterMap g) (funext fun i => by rw [← Array.getElem?_toList, rows])
  have e2 : (order.toList.map fun i => (es.map (·.1)).getD i 0) = keyHs w L' := by
    rw [p3]
    exact List.map_congr_left fun i _ => by rw [Array.getD_eq_getD_getElem?, ← Array.getElem?_toList, hsz, List.getD_eq_getElem?_getD]
  rw [e2] at T
  have e3 : (order.filterMap (es[·]?)).size = es.size := by rw [keyEs_len e1, p1.length_eq, sz]
  have line : (sizeLine : Nat) = 16777216 := by decide
  rw [L2.setRelay_eq]
  refine wpAny_bind (wpAny_setState_of ho hd (fits_nk tab (by unfold keyHs; rw [List.length_map, sz]) (by omega)) ?_)
  dsimp only
  refine wp_if_neg (by omega) ?_
  rw [e]
  dsimp only
  refine wpAny_bind (wp_if_neg (by rw [e3]; simp) (wpAny_pure ?_))
  dsimp only
  refine wpAny_storeSet_of ho hd ?_ (by rw [e3, sz]; omega)
  exact hQ _ t' L' ⟨e1, T, (p1.map (·.2)).nodup_iff.mpr nd, by rw [p1.length_eq, em]; exact room, by rw [p1.length_eq]; exact few⟩ p1 el
theorem tab_plain {t : SetTable} {hs : List Int} (T : L2.TabOk t hs) (b : Bool) : L2.TabOk (if b = true then t else { t with plain := false }) hs ∧ (if b = true then t else { t with plain := false }).mask = t.mask ∧ (if b = true then t else { t with plain := false }).led = t.led ∧
    (if b = true then t else { t with plain := false }).fill = t.fill := by
  cases b with
  | true => exact ⟨T, rfl, rfl, rfl⟩
  | false => exact ⟨⟨T.ris, T.dm, T.sz, T.mok, T.bd, T.reach⟩, rfl, rfl, rfl⟩
theorem add_nk {a x : Addr} {k : NestedKey} {U : KL} {l : List NestedKey} (S : SetAtW w (NkG w U l) l.length s.heap a) (hU : ∀ q ∈ U, AtK P w s.heap q.2 q.1) (hx : (x, k) ∈ U) (few : l.length + 1 < 64) (hu : A.units + 8 < cLine) {Q : Bool → Shared → Prop}
    (hQ : ∀ b h', Heap.SameBut a s.heap h' → SetAtW w (NkG w U (addK l k)) (addK l k).length h' a → Q b { s with heap := h' }) : wpAny (model P w) A (setAddHashed a (.ref x) (k.hash w)) Q E s := by
  obtain ⟨o, ho, hex, es, ep, t, hd, ⟨L, T, pl, sub, ndl⟩, hm, hb, tab⟩ := S
  have line : (sizeLine : Nat) = 16777216 := by decide
  have sz := keyEs_len T.rows
  have ll : L.length = l.length := by rw [← pl.length_eq, List.length_map]
  have hL : ∀ q ∈ L, AtK P w s.heap q.2 q.1 := fun q hq => hU q (sub q hq)
  have fit : t.fits es.size = true := fits_nk T.tab (by unfold keyHs; rw [List.length_map, sz]) (by have := T.room; omega)
  have memk : k ∈ L.map (·.2) ↔ k ∈ l := pl.mem_iff
  unfold setAddHashed
  refine wpAny_holding ?_
  rw [show (100000 : Nat) = 99999 + 1 from rfl, L2.setAddHashedIn_succ]
  refine wpAny_bind (wpAny_setState_of ho hd fit ?_)
  dsimp only
  refine wp_if_neg (by simp [byScan, Value.scannable]) ?_
  refine wpAny_bind (find_nk T ho hd fit hL (hU _ hx) hu (fun hm => ?_) fun N hm far near => ?_)
  · dsimp only
    have e : addK l k = l := if_pos (memk.mp hm)
    exact wpAny_pure (hQ false s.heap (Heap.SameBut.refl a s.heap) (by rw [e]; exact ⟨o, ho, hex, es, ep, t, hd, ⟨L, T, pl, sub, ndl⟩, by assumption, hb, tab⟩))
  · dsimp only
    have e : addK l k = l ++ [k] := if_neg fun z => hm (memk.mpr z)
    refine wpAny_bind (wpAny_setState_of ho hd fit ?_)
    dsimp only
    obtain ⟨r1, r2, r3, r4, r5, r6, _, _, r9⟩ := T.tab.put far near
    generalize hpt : t.put (L2.way t.mask (k.hash w) N) = pt at r1 r3 r4 r5 r6 r9 ⊢
    obtain ⟨t1, j⟩ := pt
    dsimp only at r1 r3 r4 r5 r6 r9 ⊢
    generalize hbelow : SetTable.below t.place (L2.way t.mask (k.hash w) N) = jj at r1 r2 r3
    subst r1
    -- the rows with one more
    have hin : (SetTable.insertAt es j (k.hash w, Value.ref x)).toList = keyEs w (L.take j ++ (x, k) :: L.drop j) := by
      rw [SetTable.toList_insertAt, T.rows]
      unfold keyEs
      rw [List.map_append, List.map_cons, List.map_take, List.map_drop]
    have pm : (L.take j ++ (x, k) :: L.drop j).Perm ((x, k) :: L) := by
      have h := List.perm_middle (a := (x, k)) (l₁ := L.take j) (l₂ := L.drop j)
      rwa [List.take_append_drop] at h
    have hhs : keyHs w (L.take j ++ (x, k) :: L.drop j) = (keyHs w L).take j ++ k.hash w :: (keyHs w L).drop j := by
      unfold keyHs
      rw [List.map_append, List.map_cons, List.map_take, List.map_drop]
    rw [← hhs] at r3
    have len1 : (L.take j ++ (x, k) :: L.drop j).length = L.length + 1 := pm.length_eq
    have nd1 : ((L.take j ++ (x, k) :: L.drop j).map (·.2)).Nodup := by
      refine (pm.map (·.2)).nodup_iff.mpr ?_
      rw [List.map_cons]
      exact List.nodup_cons.mpr ⟨hm, T.nd⟩
    have pl1 : ((L.take j ++ (x, k) :: L.drop j).map (·.2)).Perm (l ++ [k]) := by
      refine (pm.map (·.2)).trans ?_
      rw [List.map_cons]
      exact ((pl.cons k).trans (List.perm_append_singleton k l).symm)
    have sub1 : ∀ q ∈ L.take j ++ (x, k) :: L.drop j, q ∈ U := fun q hq => by
      rcases List.mem_cons.mp (pm.mem_iff.mp hq) with z | z
      · rw [z]; exact hx
      · exact sub q z
    have sz1 := keyEs_len hin
    have fill0 : (keyHs w L).length = L.length := by unfold keyHs; rw [List.length_map]
    generalize SetTable.insertAt es j (k.hash w, Value.ref x) = es1 at hin sz1 ⊢
    generalize L.take j ++ (x, k) :: L.drop j = L1 at pm len1 r3 nd1 hin pl1 sub1 sz1
    have ndl1 : (l ++ [k]).Nodup := pl1.nodup_iff.mp nd1
    -- what is done behind the store
    have rest : ∀ b : Bool, wpAny (model P w) A (do
        storeSet a es1 (if b = true then t1 else { t1 with plain := false })
        if (!false && (if b = true then t1 else { t1 with plain := false }).tooFull) = true then do
            setRelay a (SetTable.grown (es.size + 1))
            pure true
          else pure true) Q E s := fun b => by
      obtain ⟨T2, m2, l2, f2⟩ := tab_plain r3 b
      generalize (if b = true then t1 else { t1 with plain := false }) = t2 at T2 m2 l2 f2 ⊢
      refine wpAny_bind (wpAny_storeSet_of ho hd ?_ (by rw [sz1, len1]; omega))
      have ho1 := store_at (es' := es1) (t' := t2) ho hd
      have sb := Heap.SameBut.update s.heap a (Obj.putSet es1 t2)
      have led2 : w.params.followText "set-order" = true ∨ t2.led = true := by rw [l2, r5]; exact tab.2.2
      have fin : ∀ (es' : Array (Int × Value)) (t' : SetTable) (L' : KL) (h' : Heap) (o' : Obj) (ep' : Nat), NTab w L' es'.toList t' → L'.Perm L1 → t'.led = t2.led → h'.get? a = some o' → o'.ExactSet → o'.data = .set es' ep' t' → Heap.SameBut a s.heap h' → Q true { s with heap := h' } := fun es' t' L' h' o' ep' N' p' e' g' x' d' sb' => by
        have z := keyEs_len N'.rows
        have sb64 : (64 : Nat) < scanBound := by decide
        refine hQ true h' sb' ?_
        rw [e]
        refine ⟨o', g', x', es', ep', t', d', ⟨L', N', (p'.map (·.2)).trans pl1, fun q hq => sub1 q (p'.mem_iff.mp hq), ndl1⟩, ?_, ?_, ?_⟩
        · rw [z, p'.length_eq, len1, ll, List.length_append]; rfl
        · rw [List.length_append]; show l.length + 1 < scanBound; omega
        · refine ⟨fits_nk N'.tab (by unfold keyHs; rw [List.length_map, p'.length_eq, len1, ll, List.length_append]; rfl) ?_, N'.tab.ris, by rw [e']; exact led2⟩
          have := N'.room
          rw [p'.length_eq, len1, ll] at this
          rw [List.length_append]
          show l.length + 1 ≤ t'.mask
          omega
      have fillE : t2.fill = L.length + 1 := by rw [f2, r9, fill0]
      have room0 := T.room
      by_cases full : t2.tooFull = true
      · refine wp_if_pos (by simp [full]) ?_
        have much : (L.length + 1) * 5 ≥ t2.mask * 3 := by
          have h := full
          unfold SetTable.tooFull at h
          rw [decide_eq_true_eq, fillE] at h
          exact h
        rw [m2, r4] at much
        have two_ : (t.mask = 7 ∧ L.length = 4) ∨ (t.mask = 31 ∧ L.length = 18) := by
          rcases T.tab.mok with z | z | z
          · left; rw [z] at much room0; exact ⟨z, by omega⟩
          · right; rw [z] at much room0; exact ⟨z, by omega⟩
          · exfalso; rw [z] at much; omega
        have go : ∀ M, SetTable.sizeAbove (SetTable.grown (es.size + 1)) - 1 = M → L2.MaskOk M → SetTable.sizeAbove (SetTable.grown (es.size + 1)) ≤ 128 → (L.length + 1) * 5 < M * 3 →
            wpAny (model P w) A (do
              setRelay a (SetTable.grown (es.size + 1))
              pure true) Q E { s with heap := s.heap.update a (Obj.putSet es1 t2) } := fun M g1 g2 g3 g4 => by
          refine wpAny_bind (relay_nk (s := { s with heap := s.heap.update a (Obj.putSet es1 t2) }) ho1 rfl hin T2 (by rw [len1, m2, r4]; rcases two_ with ⟨z, y⟩ | ⟨z, y⟩ <;> omega) nd1 (by rw [len1]; omega) g1 g2 g3 (by rw [len1]; exact g4) fun es' t' L' N' p' e' => wpAny_pure ?_)
          exact fin es' t' L' _ _ _ N' p' e' (store_at ho1 rfl) hex rfl (sb.trans (Heap.SameBut.update _ a _))
        rcases two_ with ⟨_, y⟩ | ⟨_, y⟩
        · exact go 31 (by rw [sz, y, L2.size_20]) (.inr (.inl rfl)) (by rw [sz, y, L2.size_20]; decide) (by omega)
        · exact go 127 (by rw [sz, y, L2.size_76]) (.inr (.inr rfl)) (by rw [sz, y, L2.size_76]; decide) (by omega)
      · refine wp_if_neg (by simp [full]) (wpAny_pure ?_)
        have less : (L.length + 1) * 5 < t2.mask * 3 := by
          have h := full
          unfold SetTable.tooFull at h
          rw [decide_eq_true_eq, fillE] at h
          omega
        exact fin es1 t2 L1 _ _ _ ⟨hin, T2, nd1, by rw [len1]; exact less, by rw [len1]; omega⟩ (.refl _) rfl ho1 hex rfl sb
    cases hp : t1.plain with
    | true =>
      refine wp_if_pos rfl (wpAny_bind (hashBy_nk k _ 8 A _ (hU _ hx).1 (hU _ hx).2 ?_))
      exact rest (hbv k)
    | false =>
      refine wp_if_neg (by decide) (wpAny_bind (wpAny_pure ?_))
      exact rest true
end
end DL
end

section
set_option Elab.async false
set_option linter.all false
set_option maxRecDepth 100000
set_option maxHeartbeats 4000000
set_option autoImplicit false
/-! DlQ: statements: sets, guards, loops, changes of own lists. -/
namespace DL
open PySem PySem.Spec PyProof.Rows L2 PySem.W PySem.SeqAt
variable [Wd]
section
variable {X : Cx} {B : Bs} {Γ Γ' : List Ent} {c c0 c1 c2 : Nat} {tg iter e t : Expr} {es : List Expr} {p p2 p3 pos : Pos} {S : Ent → Prop} {O : Out} {st : Stmt} {a b rest body : List Stmt} {α β γ : Type} [DecidableEq α] [Datum α] [DecidableEq β] [Datum β]
/-! ### one statement and the rest -/
theorem sv_set (i : Nat) {x : Str} (nd : X.N.Nodup) (h : Ev X B Γ c1 e S) (k : ∀ r, S r → Sv X B (Γ.set i r) c2 rest O) (hi : X.N[i]? = some x := by rfl) (hx : Loc X.env.scope x := by first | exact Or.inl rfl | exact Or.inr rfl) (hs : swapsWithSole [.Name x p2] e pos.line X.env = pure false := by rfl) (hw : swappedStores [.Name x p2] e X.env = pure none := by rfl)
    (h1 : (assignEach [.Name x p2] X.env).map (·.2) = [assign (.Name x p2) X.env] := by rfl) (hf : X.fn x = true ∨ X.env.scope.names.lookup x = some .local := by first | exact .inl rfl | exact .inr rfl) : Sv X B Γ (c1 + c2) (.Assign [.Name x p2] e pos :: rest) O :=
  sv_cons (N := fun Γ' => ∃ r, S r ∧ Γ' = Γ.set i r) (s_set i h (fun r hr => ⟨r, hr, rfl⟩) nd hi hx hs hw h1 hf) fun Γ' ⟨r, hr, q⟩ => by subst q; exact k r hr
theorem sv_setd (i : Nat) {x : Str} {d : D} (nd : X.N.Nodup) (h : Ev X B Γ c1 e (Sd d)) (k : Sv X B (Γ.set i (.sh d)) c2 rest O) (hi : X.N[i]? = some x := by rfl) (hx : Loc X.env.scope x := by first | exact Or.inl rfl | exact Or.inr rfl) (hs : swapsWithSole [.Name x p2] e pos.line X.env = pure false := by rfl) (hw : swappedStores [.Name x p2] e X.env = pure none := by rfl)
    (h1 : (assignEach [.Name x p2] X.env).map (·.2) = [assign (.Name x p2) X.env] := by rfl) (hf : X.fn x = true ∨ X.env.scope.names.lookup x = some .local := by first | exact .inl rfl | exact .inr rfl) : Sv X B Γ (c1 + c2) (.Assign [.Name x p2] e pos :: rest) O :=
  sv_set i nd h (fun r q => by rw [show r = .sh d from q]; exact k) hi hx hs hw h1 hf
theorem sv_seto (i : Nat) {x : Str} {d : D} (nd : X.N.Nodup) (h : Ev X B Γ c1 e (So d)) (k : Sv X B (Γ.set i (.ow d)) c2 rest O) (hi : X.N[i]? = some x := by rfl) (hx : Loc X.env.scope x := by first | exact Or.inl rfl | exact Or.inr rfl) (hs : swapsWithSole [.Name x p2] e pos.line X.env = pure false := by rfl) (hw : swappedStores [.Name x p2] e X.env = pure none := by rfl)
    (h1 : (assignEach [.Name x p2] X.env).map (·.2) = [assign (.Name x p2) X.env] := by rfl) (hf : X.fn x = true ∨ X.env.scope.names.lookup x = some .local := by first | exact .inl rfl | exact .inr rfl) : Sv X B Γ (c1 + c2) (.Assign [.Name x p2] e pos :: rest) O :=
  sv_set i nd h (fun r q => by rw [show r = .ow d from q]; exact k) hi hx hs hw h1 hf
/-- if t: (what does not come back); rest -/
theorem sv_guardS {Sb : Bool → Prop} (ht : Tv X B Γ c0 t Sb) (ha : Sb true → Sv X B Γ c1 a { O with nx := fun _ => False }) (k : Sb false → Sv X B Γ c2 rest O) : Sv X B Γ (c0 + c1 + c2) (.If t a [] pos :: rest) O := by
  by_cases hf : Sb false
  · refine sv_weak (c1 := (c0 + max c1 0) + c2) (sv_cons (N := fun Γ' => Γ' = Γ) (s_if ht (fun h => sv_weak (ha h) (Nat.le_refl _) (fun _ z => z.elim) (fun _ h => h) (fun _ h => h) (fun _ h => h)) (fun _ => sv_nil rfl)) fun Γ' q => by subst q; exact k hf) (by omega)
  · refine sv_weak (c1 := (c0 + max c1 0) + 0) (sv_cons (N := fun _ => False) (rest := rest) (c2 := 0) (s_if ht (fun h => sv_weak (ha h) (Nat.le_refl _) (fun _ z => z.elim) (fun _ h => h) (fun _ h => h) (fun _ h => h)) (fun h => absurd h hf)) fun Γ' q => q.elim) (by omega)
theorem sv_guard {q : Bool} (ht : Tv X B Γ c0 t (fun r => r = q)) (ha : q = true → Sv X B Γ c1 a { O with nx := fun _ => False }) (k : q = false → Sv X B Γ c2 rest O) : Sv X B Γ (c0 + c1 + c2) (.If t a [] pos :: rest) O :=
  sv_guardS ht (fun h => ha h.symm) fun h => k h.symm
/-- .. which is never the case -/
theorem sv_pass (ht : Tv X B Γ c0 t (fun r => r = false)) (k : Sv X B Γ c2 rest O) : Sv X B Γ (c0 + c2) (.If t a [] pos :: rest) O :=
  sv_weak (c1 := (c0 + 0) + c2) (sv_guard (c1 := 0) ht (fun h => by cases h) fun _ => k) (by omega)
theorem sv_if {Sb : Bool → Prop} {N : List Ent → Prop} (ht : Tv X B Γ c0 t Sb) (ha : Sb true → Sv X B Γ c1 a { O with nx := N }) (hb : Sb false → Sv X B Γ c1 b { O with nx := N }) (k : ∀ Γ', N Γ' → Sv X B Γ' c2 rest O) : Sv X B Γ (c0 + c1 + c2) (.If t a b pos :: rest) O :=
  sv_weak (c1 := (c0 + max c1 c1) + c2) (sv_cons (s_if ht ha hb) k) (by rw [Nat.max_self]; exact Nat.le_refl _)
/-- an expression alone -/
theorem sv_expr (h : Ev X B Γ c1 e S) (k : Sv X B Γ c2 rest O) (hs : swapsWith e none pos.line X.env = pure false := by rfl) : Sv X B Γ (c1 + c2) (.Expr e pos :: rest) O :=
  sv_cons (N := fun Γ' => Γ' = Γ) (ps_mono (ps_expr h hs) fun D σ H ⟨n, G, p, k1, k2, k3, k4⟩ => ⟨n, G, p, fun v H' G' n' r hn st vl hS hr => k1.go _ _ H' G' n' rfl hn (p.ok.step st) vl (p.ste.trans st) st.g⟩) fun Γ' q => by subst q; exact k
/-! ### for -/
theorem for_core {ι : Type} {enc : ι → D} {K : PySem.W.Frag} {g : TG} {J : It} {xs : List ι} {D : Ends} {σ : L2.St} {H1 G1 : Hp} {n1 : Nat} (I : Nat → List Ent → Prop) (hK : K = X.K) (h0 : I 0 Γ)
    (ht : ∀ i d, xs[i]? = some d → ∀ Γi, I i Γi → ∃ Γ1 vs, TgOk X.K g vs Γi (enc d) Γ1 ∧ Sv X B Γ1 c1 body { O with nx := I (i + 1), ct := I (i + 1), bk := O.nx })
    (hd : ∀ Γi, I xs.length Γi → O.nx Γi) (p : Pre X.K B Γ (sizeLine * c1) σ H1 n1 G1) (W : IsWalk X.K J (xs.map enc) G1) (hz : xs.length ≤ sizeLine)
    (k1 : Goes X.K B G1 (n1 + sizeLine * c1) O.nx D.nx) (k4 : ∀ v H' G' n' r, n' ≤ n1 + sizeLine * c1 → Ste B.G B.H G' H' → Val n' G' H' → O.rt r → Res X.K B.H G' H' v r → D.rt v H') :
    tFor (fun σ H R => R J H) g (fun D σ H => ∃ Γ1 O', Sv X B Γ1 c1 body O' ∧ tSt X.K B Γ1 c1 O' D σ H) D σ H1 := by
  unfold IsWalk at W
  rw [List.length_map] at W
  have l0 := p.lim
  refine for_it W (g := g) (tb := fun D σ H => ∃ Γ1 O', Sv X B Γ1 c1 body O' ∧ tSt X.K B Γ1 c1 O' D σ H) (D := D) (σ := σ) (H := H1) (Pv := fun i σ2 H2 => ∃ n2 G2 Γi, n2 ≤ n1 + i * c1 ∧ I i Γi ∧ Ok X.K B.H Γi G2 σ2 H2 ∧ Val n2 G2 H2 ∧ Ste B.G B.H G2 H2 ∧ Sub G1 G2) ?_ ?_ ?_ ?_
  · exact ⟨n1, G1, Γ, by omega, h0, p.ok, p.val, p.ste, .refl _⟩
  · rintro i σ2 H2 _ ⟨n2, G2, Γi, _, _, _, v2, _, s2⟩
    exact s2.trans v2.sub
  · rintro i x σ2 H2 H3 hi ⟨n2, G2, Γi, hn2, hI, ok2, v2, st2, s2⟩ hy
    obtain ⟨d0, hd0, G3, s3, v3, den⟩ := hy n2 G2 s2 v2
    obtain ⟨d, hd, rfl⟩ : ∃ d, xs[i]? = some d ∧ enc d = d0 := by
      rw [List.getElem?_map] at hd0
      cases e : xs[i]? with
      | none => rw [e] at hd0; cases hd0
      | some z => rw [e] at hd0; exact ⟨z, rfl, Option.some.inj hd0⟩
    obtain ⟨Γ1, vs, tok, sv⟩ := ht i d hd Γi hI
    have mulle : i * c1 + c1 ≤ sizeLine * c1 := by
      rw [← Nat.succ_mul]
      exact Nat.mul_le_mul_right _ (by omega)
    refine tok B.H G3 σ2 H3 x _ (ok2.step s3) v3.sub den fun σ' ok4 _ => ⟨Γ1, _, sv, n2, G3, ⟨ok4, v3, st2.trans s3, by omega⟩, ⟨fun Γ' σ4 H4 G4 n4 hI4 hn4 ok5 v5 st5 s5 => ?_⟩, ⟨fun Γ' σ4 H4 G4 n4 hI4 hn4 ok5 v5 st5 s5 => ?_⟩, ⟨fun Γ' σ4 H4 G4 n4 hI4 hn4 ok5 v5 st5 s5 => ?_⟩, fun v H4 G4 n4 r hn4 st5 v5 hr d => ?_⟩
    · exact ⟨n4, G4, Γ', by rw [Nat.succ_mul]; omega, hI4, ok5, v5, st5, s2.trans (s3.g.trans s5)⟩
    · exact k1.go Γ' σ4 H4 G4 n4 hI4 (by omega) ok5 v5 st5 (s2.trans (s3.g.trans s5))
    · exact ⟨n4, G4, Γ', by rw [Nat.succ_mul]; omega, hI4, ok5, v5, st5, s2.trans (s3.g.trans s5)⟩
    · exact k4 v H4 G4 n4 r (by omega) st5 v5 hr d
  · rintro σ2 H2 ⟨n2, G2, Γi, hn2, hI, ok2, v2, st2, s2⟩
    refine k1.go Γi σ2 H2 G2 n2 (hd Γi hI) ?_ ok2 v2 st2 s2
    have : xs.length * c1 ≤ sizeLine * c1 := Nat.mul_le_mul_right _ hz
    omega
theorem s_for {ι : Type} {enc : ι → D} {S0 : List ι → Prop} {g : TG} (hc : X.calm = true) (hp : PassesOwn (model X.prog X.w) X.A X.env X.xe) (hi : Iv X B Γ c0 tg iter fun l => ∃ xs, S0 xs ∧ l = xs.map enc) (hg : PG X tg g) (I : List ι → Nat → List Ent → Prop) (h0 : ∀ xs, S0 xs → I xs 0 Γ)
    (ht : ∀ xs, S0 xs → ∀ i d, xs[i]? = some d → ∀ Γi, I xs i Γi → ∃ Γ1 vs, TgOk X.K g vs Γi (enc d) Γ1 ∧ Sv X B Γ1 c1 body { O with nx := I xs (i + 1), ct := I xs (i + 1), bk := O.nx })
    (hd : ∀ xs, S0 xs → ∀ Γi, I xs xs.length Γi → O.nx Γi) (hs : ∀ x, foldedSetIterable iter X.env x = pure x := by intro _; rfl) : S1 X B Γ (c0 + sizeLine * c1) (.For tg iter body [] pos) O := by
  have hb : PSs X body (fun D σ H => ∃ Γ1 O', Sv X B Γ1 c1 body O' ∧ tSt X.K B Γ1 c1 O' D σ H) := ⟨fun pins s σ H D I ⟨Γ1, O', h, q⟩ => h.run pins s σ H D I q⟩
  refine ps_mono (ps_for hp hc hi hg hb hs) fun D σ H ⟨n, G, p, k1, k2, k3, k4⟩ => ⟨n, G, ⟨p.ok, p.val, p.ste, by have := p.lim; omega⟩, fun J H1 G1 n1 l hn1 st1 vl1 hl W hz => ?_⟩
  obtain ⟨xs, hS0, rfl⟩ := hl
  rw [List.length_map] at hz
  have l0 := p.lim
  exact for_core (J := J) (xs := xs) (K := X.K) (I xs) rfl (h0 xs hS0) (ht xs hS0) (hd xs hS0) (p.step st1 vl1 (by omega)) W hz (k1.less (by omega) (fun _ h => h) st1.g) fun v H' G' n' r h1 h2 h3 h4 h5 => k4 v H' G' n' r (by omega) h2 h3 h4 h5
/-! ### changes of own objects -/
theorem Ok.write {K : PySem.W.Frag} {H0 G H : Hp} {σ : L2.St} {i : Nat} {d d' : D} {ad : Addr} {o' : HO} (k : Ok K H0 Γ G σ H) (hΓ : Γ[i]? = some (Ent.ow d)) (ha : σ[i]? = some (some (V.ref ad))) (x : OwAt K G o' d') : Ok K H0 (Γ.set i (.ow d')) G σ (upd H ad o') := by
  have hi : i < Γ.length := (List.getElem?_eq_some_iff.mp hΓ).1
  have other : ∀ (j : Nat) (r : Ent), (Γ.set i (.ow d'))[j]? = some r → (j = i ∧ r = .ow d') ∨ (j ≠ i ∧ Γ[j]? = some r) := fun j r e => by
    by_cases h : i = j
    · subst h; rw [List.getElem?_set_self hi] at e; cases e; exact .inl ⟨rfl, rfl⟩
    · rw [List.getElem?_set_ne h] at e; exact .inr ⟨fun z => h z.symm, e⟩
  obtain ⟨a0, o0, e1, e2, e3, e4, e5⟩ := k.ow i d hΓ
  rw [ha] at e1; cases e1
  refine ⟨fun j e h => ?_, fun j e h => ?_, fun j l e f h h' hne => ?_, by rw [List.length_set]; exact k.ln⟩
  · rcases other j _ h with ⟨_, q⟩ | ⟨_, q⟩
    · cases q
    · exact k.sh j e q
  · rcases other j _ h with ⟨rfl, q⟩ | ⟨hj, q⟩
    · cases q; exact ⟨_, o', ha, e2, e3, upd_same, x⟩
    · obtain ⟨b, u, f1, f2, f3, f4, f5⟩ := k.ow j e q
      have : b ≠ ad := fun z => k.dj j i e d q hΓ hj (by rw [f1, ha, z])
      exact ⟨b, u, f1, f2, f3, by rw [upd_ne this]; exact f4, f5⟩
  · rcases other j _ h with ⟨rfl, q⟩ | ⟨hj, q⟩
    · rcases other l _ h' with ⟨rfl, q'⟩ | ⟨hl, q'⟩
      · exact absurd rfl hne
      · exact k.dj _ l d f hΓ q' hne
    · rcases other l _ h' with ⟨rfl, q'⟩ | ⟨hl, q'⟩
      · exact k.dj j _ e d q hΓ hne
      · exact k.dj j l e f q q' hne
theorem own_nm {K : PySem.W.Frag} {G : Hp} {o : HO} {d : D} {a : Addr} (h : OwAt K G o d) : ∀ k, o ≠ memO a k := fun k e => by subst e; generalize q : memO a k = z at h; cases h <;> cases q
theorem Val.write {n : Nat} {G H : Hp} {ad : Addr} {o o' : HO} (v : Val n G H) (h : G ad = none) (ho : notPu o') (hh : H ad = some o) (nt : ¬ IsTp o) (nm : ∀ k, o ≠ memO ad k) : Val n G (upd H ad o') :=
  ⟨fun b u e => by rw [upd_ne (ne_of_none e h)]; exact v.sub b u e, fun b m e => by
    by_cases hb : b = ad
    · subst hb; rw [upd_same] at e; exact absurd (Option.some.inj e) (pu_of_notPu ho)
    · rw [upd_ne hb] at e; exact v.pb b m e, mm_write hh nt nm v⟩
theorem Ste.write {G0 H0 G H : Hp} {ad : Addr} {o' : HO} (s : Ste G0 H0 G H) (h : H0 ad = none) : Ste G0 H0 G (upd H ad o') :=
  ⟨s.g, fun b u e => by rw [upd_ne (ne_of_none e h)]; exact s.h b u e, s.f⟩
/-- what a method does with an own object -/
def MutOk (K : PySem.W.Frag) (r : V → List V → Hp → VK → Prop) (d : D) (ds : List D) (N : D → Prop) : Prop := ∀ (n : Nat) (G H : Hp) (ad : Addr) (o : HO) (vs : List V) (Q : VK), Val n G H → H ad = some o → OwAt K G o d → DenAll K G vs ds →
  (∀ v o' d', notPu o' → OwAt K G o' d' → N d' → Q v (upd H ad o')) → r (.ref ad) vs H Q
theorem s_mut (i : Nat) {x name : Str} {T id : String} {d : D} {r : V → List V → Hp → VK → Prop} {S2 : List D → Prop} {N : D → Prop} (hΓ : Γ[i]? = some (Ent.ow d)) (pa : PlainAttrs T) (slot : Slot T name id) (hty : typeOf (.builtin id) = pure (.type "method_descriptor")) (hm : MtR X id r) (ha : Av X B Γ c (e :: es) S2) (hr : ∀ ds, S2 ds → MutOk X.K r d ds N)
    (hT : ∀ (G H : Hp) (ad : Addr) (o : HO), H ad = some o → OwAt X.K G o d → tyV X.K T (.ref ad) H)
    (hO : ∀ d', N d' → O.nx (Γ.set i (.ow d')))
    (hN : X.N[i]? = some x := by rfl) (hv : Vis X.env.scope x := by first | exact Or.inl rfl | exact Or.inr (Or.inl rfl) | exact Or.inr (Or.inr rfl)) (hd : (x == ("__debug__" : Str)) = false := by decide) (hcd : (x == ("__classdict__" : Str)) = false := by decide)
    (hbase : attributeBase (.Name x p) name X.env (eval (.Name x p) X.env) = eval (.Name x p) X.env := by rfl)
    (hfew : ((backTo p3 (starEach (e :: es) X.env)).all (fun x => !x.1) && (backToKw p3 (keywordEach [] X.env)).all (fun x => x.1.isSome)
      && decide ((e :: es).length + ([] : List Keyword).length + (if ([] : List Keyword).isEmpty then 0 else 1) < 30)) = true := by rfl)
    (hline : (p2.endLine == p3.line) = true := by rfl) (hs : starEach (e :: es) X.env = (false, eval e X.env) :: starEach es X.env := by rfl) (hplain : (backTo p3 (starEach es X.env)).any (·.1) = false := by rfl)
    (hsw : swapsWith (.Call (.Attribute (.Name x p) name p2) (e :: es) [] p3) none pos.line X.env = pure false := by rfl) : S1 X B Γ c (.Expr (.Call (.Attribute (.Name x p) name p2) (e :: es) [] p3) pos) O :=
  ps_mono (ps_expr (pe_bm pa slot hty hm (pe_var hN hv hd hcd) ha hbase hfew hline hs hplain) hsw) fun D σ H ⟨n, G, pr, k1, k2, k3, k4⟩ => by
    obtain ⟨ad, o, e1, e2, e3, e4, e5⟩ := pr.ok.ow i d hΓ
    refine ⟨_, e1, hT G H ad o e4 e5, n, G, pr, fun vs H1 G1 n1 ds hn st vl hS dn => ?_⟩
    obtain ⟨o', h6, h7⟩ := st.h ad o e4
    cases e5.le h7
    have g1 : G1 ad = none := st.f ad o e3 e4 e5.nt
    refine hr ds hS n1 G1 H1 ad o vs _ vl h6 (e5.sub st.g) dn fun v o' d' np ow' hN' => ?_
    exact k1.go _ σ _ G1 n1 (hO d' hN') hn ((pr.ok.step st).write hΓ e1 ow') (vl.write g1 np h6 e5.nt (own_nm e5)) ((pr.ste.trans st).write e2) st.g
theorem own_list {K : PySem.W.Frag} {G : Hp} {o : HO} {xs : List α} (h : OwAt K G o (dt xs)) : ∃ vs, o = .lst vs ∧ DqAll K G vs (xs.map Datum.toD) := by
  generalize e : dt xs = d at h
  cases h with
  | py h =>
    have e' : PyData.list (xs.map Datum.toD) = PyData.list _ := D.py.inj e
    injection e' with e'
    rw [e']
    exact ⟨_, rfl, h⟩
  | lst h => cases e
  | dct h => cases e
  | dtp h => cases e
  | ins h => cases e
theorem ok_append {K : PySem.W.Frag} {xs : List α} {y : α} (h : xs.length < sizeLine) : MutOk K rAppend (dt xs) [dt y] (fun d => d = dt (xs ++ [y])) := fun n G H ad o vs Q vl hH ow dn k => by
  obtain ⟨us, rfl, hd⟩ := own_list ow
  obtain ⟨v, rfl, h1⟩ := denAll1 dn
  have hl := dpAll_len hd
  rw [List.length_map] at hl
  exact ⟨ad, us, v, rfl, rfl, hH, by omega, k _ _ _ trivial (.py (by rw [List.map_append]; exact dpAll_app hd (.cons h1.dp .nil))) rfl⟩
theorem tyv_list {K : PySem.W.Frag} {d : D} (hd : ∀ (G : Hp) (o : HO), OwAt K G o d → ∃ vs, o = .lst vs) : ∀ (G H : Hp) (ad : Addr) (o : HO), H ad = some o → OwAt K G o d → tyV K "list" (.ref ad) H := fun G H ad o hH ow => by
  obtain ⟨vs, rfl⟩ := hd G o ow
  exact .inl ⟨rfl, _, SqL.of hH⟩
/-- xs.append(y), xs an own list -/
theorem sv_append (i : Nat) {x : Str} {xs : List α} {P : α → Prop} (hΓ : Γ[i]? = some (Ent.ow (dt xs))) (he : Ev X B Γ c1 e (Sp fun d => ∃ y, P y ∧ d = dt y)) (hz : xs.length < sizeLine) (k : ∀ y, P y → Sv X B (Γ.set i (.ow (dt (xs ++ [y])))) c2 rest O)
    (hN : X.N[i]? = some x := by rfl) (hv : Vis X.env.scope x := by first | exact Or.inl rfl | exact Or.inr (Or.inl rfl) | exact Or.inr (Or.inr rfl)) (hd : (x == ("__debug__" : Str)) = false := by decide) (hcd : (x == ("__classdict__" : Str)) = false := by decide)
    (hbase : attributeBase (.Name x p) "append" X.env (eval (.Name x p) X.env) = eval (.Name x p) X.env := by rfl)
    (hfew : ((backTo p3 (starEach [e] X.env)).all (fun x => !x.1) && (backToKw p3 (keywordEach [] X.env)).all (fun x => x.1.isSome)
      && decide (([e] : List Expr).length + ([] : List Keyword).length + (if ([] : List Keyword).isEmpty then 0 else 1) < 30)) = true := by rfl)
    (hline : (p2.endLine == p3.line) = true := by rfl) (hs : starEach [e] X.env = (false, eval e X.env) :: starEach [] X.env := by rfl) (hplain : (backTo p3 (starEach [] X.env)).any (·.1) = false := by rfl)
    (hsw : swapsWith (.Call (.Attribute (.Name x p) "append" p2) [e] [] p3) none pos.line X.env = pure false := by rfl) : Sv X B Γ (c1 + 0 + c2) (.Expr (.Call (.Attribute (.Name x p) "append" p2) [e] [] p3) pos :: rest) O :=
  sv_cons (N := fun Γ' => ∃ y, P y ∧ Γ' = Γ.set i (.ow (dt (xs ++ [y])))) (s_mut i hΓ PySem.F.plainAttrs_list PySem.F.slot_list_append PySem.F.type_list_append mt_append (av_consN he av_nil hs) (N := fun d => ∃ y, P y ∧ d = dt (xs ++ [y]))
    (fun ds ⟨d, r, e1, ⟨y, hy, e2⟩, e3⟩ => by
      subst e1; subst e2; subst e3
      exact fun n G H ad o vs Q vl hH ow dn kk => ok_append hz n G H ad o vs Q vl hH ow dn fun v o' d' np ow' hN' => kk v o' d' np ow' ⟨y, hy, hN'⟩)
    (tyv_list fun G o ow => (own_list ow).imp fun vs h => h.1) (fun d' ⟨y, hy, q⟩ => ⟨y, hy, by rw [q]⟩) hN hv hd hcd hbase hfew hline hs hplain hsw) fun Γ' ⟨y, hy, q⟩ => by subst q; exact k y hy
theorem ok_insert {K : PySem.W.Frag} {xs : List α} {y : α} {j : Int} (h : xs.length < sizeLine) (h0 : 0 ≤ j) (h1 : j < 2 ^ 63) : MutOk K (fun x vs H Q => ∃ (l : Addr) (xs : List V) (i : Int) (y : V), x = .ref l ∧ vs = [.int i, y] ∧ H l = some (.lst xs) ∧ xs.length < sizeLine ∧ 0 ≤ i ∧ i < 2 ^ 63 ∧
    Q .non (upd H l (.lst (xs.take i.toNat ++ [y] ++ xs.drop i.toNat)))) (dt xs) [dt j, dt y] (fun d => d = dt (xs.take j.toNat ++ [y] ++ xs.drop j.toNat)) := fun n G H ad o vs Q vl hH ow dn k => by
  obtain ⟨us, rfl, hd⟩ := own_list ow
  obtain ⟨v, v', rfl, g1, g2⟩ := denAll2 dn
  have hl := dpAll_len hd
  rw [List.length_map] at hl
  rw [dp_int g1.dp]
  refine ⟨ad, us, j, v', rfl, rfl, hH, by omega, h0, h1, k _ _ _ trivial (.py ?_) rfl⟩
  rw [List.map_append, List.map_append, List.map_take, List.map_drop]
  exact dpAll_app (dpAll_app (dpAll_take _ hd) (.cons g2.dp .nil)) (dpAll_drop _ hd)
end
end DL
end

section
set_option Elab.async false
set_option linter.all false
set_option maxRecDepth 100000
set_option maxHeartbeats 4000000
set_option autoImplicit false
/-! DlR: chains, None, places with a default, min, max, int, texts. -/
namespace DL
open PySem PySem.Spec PyProof.Rows L2 PySem.W PySem.SeqAt
variable [Wd]
section
variable {X : Cx} {B : Bs} {Γ : List Ent} {c c1 c2 c3 : Nat} {a b d e tg : Expr} {es : List Expr} {p p2 p3 pos : Pos} {α β γ : Type} [DecidableEq α] [Datum α] [DecidableEq β] [Datum β] [DecidableEq γ] [Datum γ]
/-! ### chains -/
theorem chain_seq {K : PySem.W.Frag} {g1 : α → β → Bool} {g2 : β → γ → Bool} {x : α} {y : β} {z : γ} {ta tb tc : TE} {σ : L2.St} {H : Hp} {Q : VK}
    (ma : ∀ σ H Q, tEv K B Γ c1 (Sd (dt x)) σ H Q → ta σ H Q) (mb : ∀ σ H Q, tEv K B Γ c2 (Sd (dt y)) σ H Q → tb σ H Q) (mc : ∀ σ H Q, tEv K B Γ c3 (Sd (dt z)) σ H Q → tc σ H Q)
    (q : tEv K B Γ (c1 + c2 + c3) (Sd (dt (g1 x y && g2 y z))) σ H Q) : tChain (rB K g1) (rB K g2) ta tb tc σ H Q := by
  obtain ⟨n, G, p, k⟩ := q
  refine ma σ H _ ⟨n, G, ⟨p.ok, p.val, p.ste, by have := p.lim; omega⟩, fun v1 H1 G1 n1 r1 hn1 st1 vl1 hS1 hr1 => ?_⟩
  cases hS1
  cases hr1 with | sh d1 =>
  refine mb σ H1 _ ⟨n1, G1, p.step st1 vl1 (by have := p.lim; omega), fun v2 H2 G2 n2 r2 hn2 st2 vl2 hS2 hr2 => ?_⟩
  cases hS2
  cases hr2 with | sh d2 =>
  refine ⟨x, y, dp_sub vl2.sub (d1.sub st2.g).dp, dp_sub vl2.sub d2.dp, g1 x y, rfl, ?_⟩
  cases e : g1 x y with
  | false =>
    refine iteF ?_
    exact k _ H2 G2 n2 _ (by omega) (st1.trans st2) vl2 (by rw [e]; rfl) (.sh (.py (.bl _)))
  | true =>
    refine iteT (mc σ H2 _ ⟨n2, G2, p.step (st1.trans st2) vl2 (by have := p.lim; omega), fun v3 H3 G3 n3 r3 hn3 st3 vl3 hS3 hr3 => ?_⟩)
    cases hS3
    cases hr3 with | sh d3 =>
    exact ⟨y, z, dp_sub vl3.sub (d2.sub st3.g).dp, dp_sub vl3.sub d3.dp, k _ H3 G3 n3 _ (by omega) (st1.trans (st2.trans st3)) vl3 (by rw [e]; rfl) (.sh (.py (.bl _)))⟩
theorem ev_chain {op1 op2 : CmpOp} {g1 : α → β → Bool} {g2 : β → γ → Bool} {x : α} {y : β} {z : γ} (r1 : OpR X (compareOp op1) (rB X.K g1)) (r2 : OpR X (compareOp op2) (rB X.K g2)) (ha : Ev X B Γ c1 a (Sd (dt x))) (hb : Ev X B Γ c2 b (Sd (dt y))) (hd : Ev X B Γ c3 d (Sd (dt z)))
    (hm : lastMarks [op1, op2] [b, d] = false := by with_unfolding_all rfl) : Ev X B Γ (c1 + c2 + c3) (.Compare a [op1, op2] [b, d] pos) (Sd (dt (g1 x y && g2 y z))) :=
  pe_mono (pe_chain r1 r2 ha hb hd hm) fun σ H Q q => chain_seq (fun _ _ _ h => h) (fun _ _ _ h => h) (fun _ _ _ h => h) q
theorem tv_chain {op1 op2 : CmpOp} {g1 : α → β → Bool} {g2 : β → γ → Bool} {x : α} {y : β} {z : γ} (r1 : OpR X (compareOp op1) (rB X.K g1)) (r2 : OpR X (compareOp op2) (rB X.K g2)) (ha : Ev X B Γ c1 a (Sd (dt x))) (hb : Ev X B Γ c2 b (Sd (dt y))) (hd : Ev X B Γ c3 d (Sd (dt z)))
    (hm : lastMarks [op1, op2] [b, d] = false := by with_unfolding_all rfl) : Tv X B Γ (c1 + c2 + c3) (.Compare a [op1, op2] [b, d] pos) (fun r => r = (g1 x y && g2 y z)) :=
  pt_mono (pt_chain r1 r2 ha hb hd hm) fun σ H Q ⟨n, G, p, k⟩ => chain_seq (c1 := c1) (c2 := c2) (c3 := c3) (Γ := Γ) (B := B) (x := x) (y := y) (z := z) (fun _ _ _ h => h) (fun _ _ _ h => h) (fun _ _ _ h => h) ⟨n, G, p, fun v H' G' n' r hn st vl hS hr => by
    cases hS
    cases hr with | sh den => exact ⟨_, dp_bool den.dp, k _ H' G' n' hn st vl rfl⟩⟩
section
variable [DatumOrd γ]
end
end
section
variable {X : Cx} {α : Type} [DecidableEq α] [DatumOrd α]
theorem ro_lt (hu : Hu X) (hd : Datum.depth α ≤ 64 := by decide) : OpR X (compareOp .Lt) (rB X.K fun (x y : α) => DatumOrd.lt x y) := opr_B fun s v u a b Q E h1 h2 q => lt_datum h1 h2 (by have : X.A.units + 64 < cLine := hu; omega) q
theorem ro_gt (hu : Hu X) (hd : Datum.depth α ≤ 64 := by decide) : OpR X (compareOp .Gt) (rB X.K fun (x y : α) => DatumOrd.lt y x) := opr_B fun s v u a b Q E h1 h2 q => gt_datum h1 h2 (by have : X.A.units + 64 < cLine := hu; omega) q
theorem ro_le (hu : Hu X) (hd : Datum.depth α ≤ 64 := by decide) : OpR X (compareOp .LtE) (rB X.K fun (x y : α) => !DatumOrd.lt y x) := opr_B fun s v u a b Q E h1 h2 q => le_datum h1 h2 (by have : X.A.units + 64 < cLine := hu; omega) q
theorem ro_ge (hu : Hu X) (hd : Datum.depth α ≤ 64 := by decide) : OpR X (compareOp .GtE) (rB X.K fun (x y : α) => !DatumOrd.lt x y) := opr_B fun s v u a b Q E h1 h2 q => ge_datum h1 h2 (by have : X.A.units + 64 < cLine := hu; omega) q
end
section
variable {X : Cx} {B : Bs} {Γ : List Ent} {c c1 c2 c3 : Nat} {a b d e tg : Expr} {es : List Expr} {p p2 p3 pos : Pos} {α β γ : Type} [DecidableEq α] [Datum α] [DecidableEq β] [Datum β] [DecidableEq γ] [Datum γ] {S : Ent → Prop}
/-! ### None -/
def isNonD : D → Bool | .py .none => true | _ => false
theorem den_non {K : PySem.W.Frag} {G : Hp} {v : V} {x : D} (h : Den K G v x) : decide (v = .non) = isNonD x := by
  cases h with
  | py h => cases h <;> rfl
  | _ => rfl
theorem tv_isNone {x : D} {j : Nat} (ha : Ev X B Γ c a (Sd x)) : Tv X B Γ c (.Compare a [.Is] [.Constant .none j p] pos) (fun r => r = isNonD x) :=
  pt_mono (pt_cmpR op_isN ha (pe_non (pos := p) (j := j)) (by rfl)) fun σ H Q ⟨n, G, pr, k⟩ => ⟨n, G, pr, fun v H' G' n' r hn st vl hS hr => by
    cases hS
    cases hr with | sh den => exact ⟨rfl, _, rfl, by rw [den_non den]; exact k _ H' G' n' hn st vl rfl⟩⟩
theorem tv_notNone {x : D} {j : Nat} (ha : Ev X B Γ c a (Sd x)) : Tv X B Γ c (.Compare a [.IsNot] [.Constant .none j p] pos) (fun r => r = !isNonD x) :=
  pt_mono (pt_cmpR op_notN ha (pe_non (pos := p) (j := j)) (by rfl)) fun σ H Q ⟨n, G, pr, k⟩ => ⟨n, G, pr, fun v H' G' n' r hn st vl hS hr => by
    cases hS
    cases hr with | sh den => exact ⟨rfl, _, rfl, by rw [den_non den]; exact k _ H' G' n' hn st vl rfl⟩⟩
theorem ev_isNone {x : D} {j : Nat} (ha : Ev X B Γ c a (Sd x)) : Ev X B Γ c (.Compare a [.Is] [.Constant .none j p] pos) (Sd (dt (isNonD x))) :=
  pe_mono (pe_cmpR op_isN ha (pe_non (pos := p) (j := j)) (by rfl)) fun σ H Q ⟨n, G, pr, k⟩ => ⟨n, G, pr, fun v H' G' n' r hn st vl hS hr => by
    cases hS
    cases hr with | sh den => exact ⟨rfl, by rw [den_non den]; exact k _ H' G' n' _ hn st vl rfl (.sh (.py (.bl _)))⟩⟩
theorem ev_notNone {x : D} {j : Nat} (ha : Ev X B Γ c a (Sd x)) : Ev X B Γ c (.Compare a [.IsNot] [.Constant .none j p] pos) (Sd (dt (!isNonD x))) :=
  pe_mono (pe_cmpR op_notN ha (pe_non (pos := p) (j := j)) (by rfl)) fun σ H Q ⟨n, G, pr, k⟩ => ⟨n, G, pr, fun v H' G' n' r hn st vl hS hr => by
    cases hS
    cases hr with | sh den => exact ⟨rfl, by rw [den_non den]; exact k _ H' G' n' _ hn st vl rfl (.sh (.py (.bl _)))⟩⟩
/-! ### a place, with a default for the proof's sake -/
instance : Inhabited Str := ⟨⟨#[]⟩⟩
instance {α : Type} : Inhabited (Tup α) := ⟨⟨[]⟩⟩
def ixD [i : PyIx α β] [Inhabited β] (x : α) (k : Int) : β := (PyIx.get x k).getD default
theorem py_ixD [i : PyIx α β] [Inhabited β] {x : α} {k : Int} (ha : Ev X B Γ c1 a (Sd (dt x))) (hb : Ev X B Γ c2 b (Sd (dt k))) (h : (PyIx.get x k).isSome = true) (ho : i.ok x) (hs : PlainIx b := by exact fun _ _ => rfl) : Ev X B Γ (c1 + c2) (.Subscript a b pos) (Sd (dt (ixD x k))) :=
  py_ix ha hb (by unfold ixD; cases q : PyIx.get x k with | none => rw [q] at h; cases h | some y => rfl) ho hs
/-! ### calls of what is built in -/
theorem ok_max2 {K : PySem.W.Frag} {i j : Int} : CRok K (fun xs H Q => ∃ i j, xs = [.int i, .int j] ∧ Q (.int (if j > i then j else i)) H) [dt i, dt j] (Sd (dt (max i j))) := fun n G H vs Q vl hd k => by
  obtain ⟨v, v', rfl, h1, h2⟩ := denAll2 hd
  rw [dp_int h1.dp, dp_int h2.dp]
  refine ⟨i, j, rfl, ?_⟩
  have e : (if j > i then j else i) = max i j := by split <;> omega
  rw [e]
  exact k _ H G _ (.refl G H) vl rfl (.sh (.py (.int _)))
theorem ok_min2 {K : PySem.W.Frag} {i j : Int} : CRok K (fun xs H Q => ∃ i j, xs = [.int i, .int j] ∧ Q (.int (if j < i then j else i)) H) [dt i, dt j] (Sd (dt (min i j))) := fun n G H vs Q vl hd k => by
  obtain ⟨v, v', rfl, h1, h2⟩ := denAll2 hd
  rw [dp_int h1.dp, dp_int h2.dp]
  refine ⟨i, j, rfl, ?_⟩
  have e : (if j < i then j else i) = min i j := by split <;> omega
  rw [e]
  exact k _ H G _ (.refl G H) vl rfl (.sh (.py (.int _)))
theorem ev_max2 {i j : Int} (hc : X.calm = true) (hm : X.mg "max" = none) (ha : Ev X B Γ c1 a (Sd (dt i))) (hb : Ev X B Γ c2 b (Sd (dt j))) (hg : Gl X "max" := by rfl) (h1 : starEach [a, b] X.env = (false, eval a X.env) :: starEach [b] X.env := by rfl) (h2 : starEach [b] X.env = (false, eval b X.env) :: starEach [] X.env := by rfl) (h3 : (backTo pos (starEach [b] X.env)).any (·.1) = false := by rfl) :
    Ev X B Γ (c1 + (c2 + 0)) (.Call (.Name "max" p) [a, b] [] pos) (Sd (dt (max i j))) := ev_callB (call_max2 hc) hm (av_cons ha (av_cons hb av_nil h2) h1) ok_max2 hg (by decide +kernel) (by decide) (by decide) h1 h3
theorem ev_min2 {i j : Int} (hc : X.calm = true) (hm : X.mg "min" = none) (ha : Ev X B Γ c1 a (Sd (dt i))) (hb : Ev X B Γ c2 b (Sd (dt j))) (hg : Gl X "min" := by rfl) (h1 : starEach [a, b] X.env = (false, eval a X.env) :: starEach [b] X.env := by rfl) (h2 : starEach [b] X.env = (false, eval b X.env) :: starEach [] X.env := by rfl) (h3 : (backTo pos (starEach [b] X.env)).any (·.1) = false := by rfl) :
    Ev X B Γ (c1 + (c2 + 0)) (.Call (.Name "min" p) [a, b] [] pos) (Sd (dt (min i j))) := ev_callB (call_min2 hc) hm (av_cons ha (av_cons hb av_nil h2) h1) ok_min2 hg (by decide +kernel) (by decide) (by decide) h1 h3
theorem ok_int1 {K : PySem.W.Frag} {i : Int} : CRok K (fun xs H Q => (∃ i, xs = [.int i] ∧ Q (.int i) H) ∨ ∃ k, xs = [.bl k] ∧ Q (.int (if k then 1 else 0)) H) [dt i] (Sd (dt i)) := fun n G H vs Q vl hd k => by
  obtain ⟨v, rfl, h1⟩ := denAll1 hd
  rw [dp_int h1.dp]
  exact .inl ⟨i, rfl, k _ H G _ (.refl G H) vl rfl (.sh (.py (.int _)))⟩
theorem ev_int1 {i : Int} (hm : X.mg "int" = none) (ha : Ev X B Γ c1 a (Sd (dt i))) (hg : Gl X "int" := by rfl) (h1 : starEach [a] X.env = (false, eval a X.env) :: starEach [] X.env := by rfl) (h3 : (backTo pos (starEach [] X.env)).any (·.1) = false := by rfl) :
    Ev X B Γ (c1 + 0) (.Call (.Name "int" p) [a] [] pos) (Sd (dt i)) := ev_callTy call_int1 hm (av_cons ha av_nil h1) ok_int1 hg (by decide +kernel) (by decide) (by decide) h1 h3
/-- tuple(xs), xs a list; list(xs), xs a list or a tuple -/
theorem ev_tupleOf {xs : List α} (hm : X.mg "tuple" = none) (ha : Ev X B Γ c1 a (Sd (dt xs))) (hg : Gl X "tuple" := by rfl) (h1 : starEach [a] X.env = (false, eval a X.env) :: starEach [] X.env := by rfl) (h3 : (backTo pos (starEach [] X.env)).any (·.1) = false := by rfl) :
    Ev X B Γ (c1 + 0) (.Call (.Name "tuple" p) [a] [] pos) (Sd (dt (⟨xs⟩ : Tup α))) := ev_callTy call_tuple_of hm (av_cons ha av_nil h1) ok_tupL hg (by decide +kernel) (by decide) (by decide) h1 h3
theorem ev_listOf {xs : List α} (hm : X.mg "list" = none) (ha : Ev X B Γ c1 a (Sd (dt xs))) (hg : Gl X "list" := by rfl) (h1 : starEach [a] X.env = (false, eval a X.env) :: starEach [] X.env := by rfl) (h3 : (backTo pos (starEach [] X.env)).any (·.1) = false := by rfl) :
    Ev X B Γ (c1 + 0) (.Call (.Name "list" p) [a] [] pos) (So (dt xs)) := ev_callTy call_list_of hm (av_cons ha av_nil h1) ok_lstL hg (by decide +kernel) (by decide) (by decide) h1 h3
theorem ev_listOfT {xs : Tup α} (hm : X.mg "list" = none) (ha : Ev X B Γ c1 a (Sd (dt xs))) (hg : Gl X "list" := by rfl) (h1 : starEach [a] X.env = (false, eval a X.env) :: starEach [] X.env := by rfl) (h3 : (backTo pos (starEach [] X.env)).any (·.1) = false := by rfl) :
    Ev X B Γ (c1 + 0) (.Call (.Name "list" p) [a] [] pos) (So (dt xs.items)) := ev_callTy call_list_of hm (av_cons ha av_nil h1) ok_lstT hg (by decide +kernel) (by decide) (by decide) h1 h3
/-! ### texts -/
theorem rep_size {z : Array Nat} : ∀ (k : Nat) {acc : Array Nat}, True → (List.foldl (· ++ ·) acc (List.replicate k z)).size = acc.size + k * z.size
  | 0, acc, _ => by simp
  | k + 1, acc, _ => by
    rw [List.replicate_succ, List.foldl_cons, rep_size k trivial, Array.size_append, Nat.succ_mul]
    omega
def rMulS : R2 := fun x y H Q => ∃ (z : Str) (k : Int), x = .str z ∧ y = .int k ∧ 2 ≤ k ∧ k ≤ 64 ∧ 1 ≤ z.length ∧ z.length ≤ 64 ∧ Q (.str ⟨(List.replicate k.toNat z.cps).foldl (· ++ ·) #[]⟩) H
theorem op_mulS : OpR X (binaryOp .Mult) rMulS := by
  intro pins s σ H x y v u Q I rx ry h
  obtain ⟨z, k, rfl, rfl, h1, h2, h3, h4, q⟩ := h
  obtain ⟨t, rfl⟩ := rx
  obtain ⟨t', rfl⟩ := ry
  refine PySem.P.mul_str (by simp; omega) (fun _ _ => ?_) (fun _ _ => ?_) ?_
  · have : (2 ^ 63 - 1 : Int) / k ≥ 64 := by
      have := Int.le_ediv_of_mul_le (a := 64) (b := 2 ^ 63 - 1) (c := k) (by omega) (by omega)
      exact this
    omega
  · have h5 : z.length * k.toNat ≤ 64 * 64 := Nat.mul_le_mul h4 (by omega)
    show decide (z.length * k.toNat > sizeLine) = false
    rw [sizeLine_eq]
    exact decide_eq_false (by omega)
  · rw [if_neg (by omega), if_neg (by simp; omega)]
    refine ⟨?_, ⟨.str _, H, I.tok _, ⟨_, rfl⟩, q⟩⟩
    have h5 : k.toNat * z.length ≤ 64 * 64 := Nat.mul_le_mul (by omega) h4
    show (List.foldl (· ++ ·) #[] (List.replicate k.toNat z.cps)).size ≤ sizeLine
    rw [rep_size _ trivial, sizeLine_eq]
    show 0 + k.toNat * z.length ≤ _
    omega
theorem ev_mulS {z : Str} {k : Int} (ha : Ev X B Γ c1 a (Sd (dt z))) (hb : Ev X B Γ c2 b (Sd (dt k))) (h1 : 2 ≤ k ∧ k ≤ 64) (h2 : 1 ≤ z.length ∧ z.length ≤ 64) : Ev X B Γ (c1 + c2) (.BinOp a .Mult b pos) (Sd (dt (⟨(List.replicate k.toNat z.cps).foldl (· ++ ·) #[]⟩ : Str))) := ev_op2 op_mulS ha hb fun n G H u v Q vl d1 d2 kk =>
  ⟨z, k, dp_str d1.dp, dp_int d2.dp, h1.1, h1.2, h2.1, h2.2, kk _ H G _ (.refl G H) vl rfl (.sh (.py (.str _)))⟩
end
end DL
end

section
set_option Elab.async false
set_option linter.all false
set_option maxRecDepth 100000
set_option maxHeartbeats 4000000
set_option autoImplicit false
/-! DlS: dicts whose keys are texts. -/
namespace DL
open PySem PySem.Spec PyProof.Rows L2 PySem.W PySem.SeqAt
variable [Wd]
section
variable {α β : Type} [DecidableEq α] [Datum α] [DecidableEq β] [Datum β]
/-- a dict by value -/
def mpS (kvs : List (Str × α)) : D := .dct (kvs.map fun kv => (Sum.inr kv.1, dt kv.2))
def lookS (kvs : List (Str × α)) (k : Str) : Option α := (kvs.find? fun kv => decide (kv.1 = k)).map (·.2)
def putS (kvs : List (Str × α)) (k : Str) (v : α) : List (Str × α) := if (kvs.any fun kv => decide (kv.1 = k)) = true then kvs.map (fun kv => if kv.1 = k then (kv.1, v) else kv) else kvs ++ [(k, v)]
def mergeS (kvs more : List (Str × α)) : List (Str × α) := more.foldl (fun acc kv => putS acc kv.1 kv.2) kvs
/-- the dict's entries -/
inductive DqK (K : PySem.W.Frag) (G : Hp) : List (Key × V) → List (Str × α) → Prop
  | nil : DqK K G [] []
  | cons {k : Str} {v : V} {x : α} {r : List (Key × V)} {t : List (Str × α)} : Dq K G v (Datum.toD x) → DqK K G r t → DqK K G ((Sum.inr k, v) :: r) ((k, x) :: t)
variable {K : PySem.W.Frag} {G : Hp}
theorem DqK.den : ∀ {r : List (Key × V)} {t : List (Str × α)}, DqK K G r t → DenKey K G r (t.map fun kv => (Sum.inr kv.1, dt kv.2))
  | _, _, .nil => .nil
  | _, _, .cons h t => .cons (.py h) t.den
theorem den_dqK : ∀ {r : List (Key × V)} {t : List (Str × α)}, DenKey K G r (t.map fun kv => (Sum.inr kv.1, dt kv.2)) → DqK K G r t
  | _, [], .nil => .nil
  | _, _ :: _, .cons h t => .cons h.dp (den_dqK t)
theorem DqK.len : ∀ {r : List (Key × V)} {t : List (Str × α)}, DqK K G r t → r.length = t.length
  | _, _, .nil => rfl
  | _, _, .cons _ t => by rw [List.length_cons, List.length_cons, t.len]
theorem dct_inv {v : V} {kvs : List (Str × α)} (h : Den K G v (mpS kvs)) : ∃ a r, v = .ref a ∧ Rd G a (.dK r) ∧ DqK K G r kvs := by
  unfold mpS at h
  cases h with | dct h1 h2 => exact ⟨_, _, rfl, h1, den_dqK h2⟩
theorem own_dct {o : HO} {kvs : List (Str × α)} (h : OwAt K G o (mpS kvs)) : ∃ r, o = .dK r ∧ DqK K G r kvs := by
  unfold mpS at h
  cases h with | dct h1 => exact ⟨_, rfl, den_dqK h1⟩
theorem DqK.look {k : Str} : ∀ {r : List (Key × V)} {t : List (Str × α)}, DqK K G r t → (∀ x, lookS t k = some x → ∃ v, valV r (Sum.inr k) = some v ∧ Dq K G v (Datum.toD x)) ∧ (valV r (Sum.inr k)).isSome = decide (k ∈ t.map (·.1))
  | _, _, .nil => ⟨fun x h => (by cases h), (by simp [valV])⟩
  | _, _, .cons (k := k') (v := v) (x := x) (r := r) (t := t) h ht => by
    obtain ⟨i1, i2⟩ := DqK.look (k := k) ht
    by_cases e : k' = k
    · subst e
      rw [valV_pos (k := (Sum.inr k' : Key)) rfl]
      refine ⟨fun y hy => ?_, by simp⟩
      simp [lookS] at hy
      subst hy
      exact ⟨v, rfl, h⟩
    · have ne : ¬ (Sum.inr k' : Key) = Sum.inr k := fun z => e (Sum.inr.inj z)
      rw [valV_neg (p := ((Sum.inr k' : Key), v)) ne]
      refine ⟨fun y hy => i1 y ?_, ?_⟩
      · simpa [lookS, List.find?_cons, e] using hy
      · rw [i2]
        have : ¬ k = k' := fun z => e z.symm
        simp [this]
theorem DqK.put {k : Str} {v : V} {x : α} (hv : Dq K G v (Datum.toD x)) {r : List (Key × V)} {t : List (Str × α)} (h : DqK K G r t) : DqK K G (putK r (Sum.inr k) v) (putS t k x) := by
  have ha : ∀ {r : List (Key × V)} {t : List (Str × α)}, DqK K G r t → (r.any fun kv => decide (kv.1 = (Sum.inr k : Key))) = t.any fun kv => decide (kv.1 = k) := by
    intro r t h
    induction h with
    | nil => rfl
    | @cons k' v' x' r t _ _ ih =>
      rw [List.any_cons, List.any_cons, ih]
      congr 1
      simp
  have hm : ∀ {r : List (Key × V)} {t : List (Str × α)}, DqK K G r t → DqK K G (r.map fun kv => if kv.1 = (Sum.inr k : Key) then (kv.1, v) else kv) (t.map fun kv => if kv.1 = k then (kv.1, x) else kv) := by
    intro r t h
    induction h with
    | nil => exact .nil
    | @cons k' v' x' r t h1 _ ih =>
      rw [List.map_cons, List.map_cons]
      by_cases e : k' = k
      · subst e
        rw [if_pos rfl, if_pos rfl]
        exact .cons hv ih
      · rw [if_neg (show ¬ (Sum.inr k' : Key) = Sum.inr k from fun z => e (Sum.inr.inj z)), if_neg e]
        exact .cons h1 ih
  have hs : ∀ {r : List (Key × V)} {t : List (Str × α)}, DqK K G r t → DqK K G (r ++ [((Sum.inr k : Key), v)]) (t ++ [(k, x)]) := by
    intro r t h
    induction h with
    | nil => exact .cons hv .nil
    | cons h1 _ ih => exact .cons h1 ih
  unfold putK putS
  rw [ha h]
  split
  · exact hm h
  · exact hs h
theorem DqK.merge : ∀ {m : List (Key × V)} {n : List (Str × α)}, DqK K G m n → ∀ {r : List (Key × V)} {t : List (Str × α)}, DqK K G r t → DqK K G (mergeK r m) (mergeS t n)
  | _, _, .nil, _, _, h => h
  | _, _, .cons hv hm, _, _, h => DqK.merge hm (h.put hv)
theorem putS_keys {t : List (Str × α)} {k : Str} {x : α} : (putS t k x).map (·.1) = addK (t.map (·.1)) k := by
  unfold putS addK
  by_cases h : (t.any fun kv => decide (kv.1 = k)) = true
  · rw [if_pos h, if_pos (by
      obtain ⟨kv, h1, h2⟩ := List.any_eq_true.mp h
      exact List.mem_map.mpr ⟨kv, h1, of_decide_eq_true h2⟩), List.map_map]
    apply List.map_congr_left
    intro kv _
    show (if kv.1 = k then (kv.1, x) else kv).1 = kv.1
    split <;> rfl
  · rw [if_neg h, if_neg (fun z => h (by
      obtain ⟨kv, h1, h2⟩ := List.mem_map.mp z
      exact List.any_eq_true.mpr ⟨kv, h1, decide_eq_true h2⟩)), List.map_append]
    rfl
theorem mergeS_keys : ∀ {n t : List (Str × α)}, (mergeS t n).map (·.1) = (n.map (·.1)).foldl addK (t.map (·.1))
  | [], _ => rfl
  | kv :: n, t => by
    show (mergeS (putS t kv.1 kv.2) n).map (·.1) = _
    rw [mergeS_keys, putS_keys]; rfl
/-- distinct keys: the dict is the list -/
theorem mergeS_nodup {n : List (Str × α)} : ∀ {t : List (Str × α)}, ((t ++ n).map (·.1)).Nodup → mergeS t n = t ++ n := by
  induction n with
  | nil => intro t _; rw [List.append_nil]; rfl
  | cons kv n ih =>
    intro t h
    have e : putS t kv.1 kv.2 = t ++ [kv] := by
      unfold putS
      rw [if_neg]
      intro z
      obtain ⟨kv', h1, h2⟩ := List.any_eq_true.mp z
      have q := of_decide_eq_true h2
      rw [List.map_append, List.nodup_append] at h
      exact h.2.2 kv'.1 (List.mem_map.mpr ⟨kv', h1, rfl⟩) kv.1 (by simp) q
    show mergeS (putS t kv.1 kv.2) n = _
    rw [e, ih (by simpa using h)]
    simp
end
section
variable {X : Cx} {B : Bs} {Γ : List Ent} {c c1 c2 c3 : Nat} {a b d e tg : Expr} {es : List Expr} {p p2 p3 pos : Pos} {α β : Type} [DecidableEq α] [Datum α] [DecidableEq β] [Datum β] {kvs : List (Str × α)} {k : Str}
/-- d[k] -/
theorem ev_dget {y : α} (hu : Hu X) (ho : Ev X B Γ c1 a (Sd (mpS kvs))) (hi : Ev X B Γ c2 b (Sd (dt k))) (h : lookS kvs k = some y) (hs : NoSl b := by exact fun _ _ => rfl) : Ev X B Γ (c1 + c2) (.Subscript a b pos) (Sd (dt y)) :=
  pe_mono (pe_dget (by have : X.A.units + 64 < cLine := hu; omega) ho hi hs) fun σ H Q ⟨n, G, pr, kk⟩ => ⟨n, G, ⟨pr.ok, pr.val, pr.ste, by have := pr.lim; omega⟩, fun v1 H1 G1 n1 r1 hn1 st1 vl1 hS1 hr1 => by
    cases hS1
    cases hr1 with | sh d1 =>
    refine ⟨n1, G1, pr.step st1 vl1 (by have := pr.lim; omega), fun v2 H2 G2 n2 r2 hn2 st2 vl2 hS2 hr2 => ?_⟩
    cases hS2
    cases hr2 with | sh d2 =>
    obtain ⟨ad, r, rfl, h1, h2⟩ := dct_inv (d1.sub st2.g)
    obtain ⟨v, h3, h4⟩ := (h2.look (k := k)).1 y h
    rw [dp_str d2.dp]
    refine ⟨ad, v, rfl, .inl ⟨r, Sum.inr k, vl2.sub.rd_dK h1, rfl, h3.symm⟩, kk v H2 G2 n2 _ (by omega) (st1.trans st2) vl2 rfl (.sh (.py h4))⟩⟩
theorem din_seq {K : PySem.W.Frag} {f : Bool → Bool} {ty td : TE} {σ : L2.St} {H : Hp} {Q : VK} (my : ∀ σ H Q, tEv K B Γ c1 (Sd (dt k)) σ H Q → ty σ H Q) (md : ∀ σ H Q, tEv K B Γ c2 (Sd (mpS kvs)) σ H Q → td σ H Q)
    (q : tEv K B Γ (c1 + c2) (Sd (dt (f (decide (k ∈ kvs.map (·.1)))))) σ H Q) : ty σ H fun y H1 => td σ H1 fun x H2 => ∃ a o, x = .ref a ∧ DGet H2 a y o ∧ Q (.bl (f o.isSome)) H2 := by
  obtain ⟨n, G, p, kk⟩ := q
  refine my σ H _ ⟨n, G, ⟨p.ok, p.val, p.ste, by have := p.lim; omega⟩, fun v1 H1 G1 n1 r1 hn1 st1 vl1 hS1 hr1 => ?_⟩
  cases hS1
  cases hr1 with | sh d1 =>
  refine md σ H1 _ ⟨n1, G1, p.step st1 vl1 (by have := p.lim; omega), fun v2 H2 G2 n2 r2 hn2 st2 vl2 hS2 hr2 => ?_⟩
  cases hS2
  cases hr2 with | sh d2 =>
  obtain ⟨ad, r, rfl, h1, h2⟩ := dct_inv d2
  have z := (h2.look (k := k)).2
  rw [dp_str d1.dp]
  exact ⟨ad, valV r (Sum.inr k), rfl, .inl ⟨r, Sum.inr k, vl2.sub.rd_dK h1, rfl, rfl⟩, by rw [z]; exact kk _ H2 G2 n2 _ (by omega) (st1.trans st2) vl2 rfl (.sh (.py (.bl _)))⟩
theorem ev_din (hu : Hu X) (hi : Ev X B Γ c1 a (Sd (dt k))) (ho : Ev X B Γ c2 b (Sd (mpS kvs))) (hm : behindInMarks .In b = false := by rfl) : Ev X B Γ (c1 + c2) (.Compare a [.In] [b] pos) (Sd (dt (decide (k ∈ kvs.map (·.1))))) :=
  pe_mono (pe_cmp (pc_din (by have : X.A.units + 64 < cLine := hu; omega) hi ho) hm) fun σ H Q q => din_seq (f := fun b => b) (fun _ _ _ h => h) (fun _ _ _ h => h) q
theorem ev_dnin (hu : Hu X) (hi : Ev X B Γ c1 a (Sd (dt k))) (ho : Ev X B Γ c2 b (Sd (mpS kvs))) (hm : behindInMarks .NotIn b = false := by rfl) : Ev X B Γ (c1 + c2) (.Compare a [.NotIn] [b] pos) (Sd (dt (!decide (k ∈ kvs.map (·.1))))) :=
  pe_mono (pe_cmp (pc_dnotin (by have : X.A.units + 64 < cLine := hu; omega) hi ho) hm) fun σ H Q q => din_seq (f := fun b => !b) (fun _ _ _ h => h) (fun _ _ _ h => h) q
/-! ### new dicts -/
theorem Res.newD {K : PySem.W.Frag} {G H : Hp} {ad : Addr} {r : List (Key × V)} {kvs : List (Str × α)} {n : Nat} (v : Val n G H) (h : H ad = none) (x : DqK K G r kvs) : Res K H G (upd H ad (.dK r)) (.ref ad) (.ow (mpS kvs)) := .ow h (v.sub.out h) upd_same (.dct x.den)
theorem dq_pairs {K : PySem.W.Frag} {G : Hp} : ∀ {vs : List V} {xs : List (Str × α)}, DqAll K G vs (xs.map Datum.toD) → ∃ (ps : List Addr) (r : List (Key × V)), vs = ps.map V.ref ∧ Paired (fun p (kv : Key × V) => SqT K G p [kV kv.1, kv.2]) ps r ∧ DqK K G r xs
  | _, [], .nil => ⟨[], [], rfl, .nil, .nil⟩
  | _, (k, x) :: xs, .cons h t => by
    obtain ⟨a, v1, v2, rfl, h1, h2, h3⟩ := dp_pair (x := (k, x)) h
    obtain ⟨ps, r, rfl, h5, h6⟩ := dq_pairs t
    have e : v1 = .str k := dp_str h2
    subst e
    exact ⟨a :: ps, (Sum.inr k, v2) :: r, rfl, .cons h1 h5, .cons h3 h6⟩
theorem paired_sub {K : PySem.W.Frag} {R : Addr → HO → HO → Prop} [LeR R] {G H : Hp} (s : SubX R G H) : ∀ {ps : List Addr} {r : List (Key × V)}, Paired (fun p (kv : Key × V) => SqT K G p [kV kv.1, kv.2]) ps r → Paired (fun p (kv : Key × V) => SqT K H p [kV kv.1, kv.2]) ps r
  | _, _, .nil => .nil
  | _, _, .cons h t => .cons (s.sqT h) (paired_sub s t)
/-- dict(pairs) -/
theorem ev_dictP {xs : List (Str × α)} (hc : X.calm = true) (hm : X.mg "dict" = none) (ha : Ev X B Γ c1 a (Sd (dt xs))) (hg : Gl X "dict" := by rfl) (h1 : starEach [a] X.env = (false, eval a X.env) :: starEach [] X.env := by rfl) (h3 : (backTo pos (starEach [] X.env)).any (·.1) = false := by rfl) :
    Ev X B Γ (c1 + 0) (.Call (.Name "dict" p) [a] [] pos) (So (mpS (mergeS [] xs))) := ev_callTy (call_dictP hc) hm (av_cons ha av_nil h1) (fun n G H vs Q vl hd k => by
    obtain ⟨v, rfl, g1⟩ := denAll1 hd
    obtain ⟨ad, ws, rfl, hp, hw⟩ := dp_list g1.dp
    obtain ⟨ps, r, rfl, h5, h6⟩ := dq_pairs hw
    refine ⟨ad, ps, r, rfl, .of (vl.sub.lst hp), paired_sub vl.sub h5, fun l hl => ?_⟩
    obtain ⟨s1, v1⟩ := Ste.new (o := .dK (mergeK [] r)) vl hl trivial
    exact k _ _ _ _ s1 v1 rfl (Res.newD vl hl (h6.merge .nil))) hg (by decide +kernel) (by decide) (by decide) h1 h3
/-- dict(d) -/
theorem ev_dictD (hm : X.mg "dict" = none) (ha : Ev X B Γ c1 a (Sd (mpS kvs))) (hg : Gl X "dict" := by rfl) (h1 : starEach [a] X.env = (false, eval a X.env) :: starEach [] X.env := by rfl) (h3 : (backTo pos (starEach [] X.env)).any (·.1) = false := by rfl) :
    Ev X B Γ (c1 + 0) (.Call (.Name "dict" p) [a] [] pos) (So (mpS kvs)) := ev_callTy call_dictD hm (av_cons ha av_nil h1) (fun n G H vs Q vl hd k => by
    obtain ⟨v, rfl, g1⟩ := denAll1 hd
    obtain ⟨ad, r, rfl, hp, hw⟩ := dct_inv g1
    refine ⟨ad, r, rfl, vl.sub.rd_dK hp, fun l hl => ?_⟩
    obtain ⟨s1, v1⟩ := Ste.new (o := .dK r) vl hl trivial
    exact k _ _ _ _ s1 v1 rfl (Res.newD vl hl hw)) hg (by decide +kernel) (by decide) (by decide) h1 h3
theorem dq_keys {K : PySem.W.Frag} {G : Hp} : ∀ {r : List (Key × V)} {t : List (Str × α)}, DqK K G r t → (r.map fun kv => kV kv.1) = (t.map (·.1)).map V.str ∧ r.map (·.1) = (t.map (·.1)).map Sum.inr
  | _, _, .nil => ⟨rfl, rfl⟩
  | _, _, .cons _ t => by
    obtain ⟨h1, h2⟩ := dq_keys t
    exact ⟨by rw [List.map_cons, h1]; rfl, by rw [List.map_cons, h2]; rfl⟩
theorem strs_dq {K : PySem.W.Frag} {G : Hp} : ∀ ys : List Str, DqAll K G (ys.map V.str) (ys.map Datum.toD)
  | [] => .nil
  | y :: ys => .cons (.str y) (strs_dq ys)
/-- list(d) -/
theorem ev_listD (hc : X.calm = true) (hm : X.mg "list" = none) (ha : Ev X B Γ c1 a (Sd (mpS kvs))) (hg : Gl X "list" := by rfl) (h1 : starEach [a] X.env = (false, eval a X.env) :: starEach [] X.env := by rfl) (h3 : (backTo pos (starEach [] X.env)).any (·.1) = false := by rfl) :
    Ev X B Γ (c1 + 0) (.Call (.Name "list" p) [a] [] pos) (So (dt (kvs.map (·.1)))) := ev_callTy (call_listD hc) hm (av_cons ha av_nil h1) (fun n G H vs Q vl hd k => by
    obtain ⟨v, rfl, g1⟩ := denAll1 hd
    obtain ⟨ad, r, rfl, hp, hw⟩ := dct_inv g1
    refine ⟨ad, r, rfl, vl.sub.rd_dK hp, fun l hl => ?_⟩
    rw [(dq_keys hw).1]
    obtain ⟨s1, v1⟩ := Ste.new (o := .lst ((kvs.map (·.1)).map V.str)) vl hl trivial
    exact k _ _ _ _ s1 v1 rfl (Res.newL vl hl (.py (strs_dq _)))) hg (by decide +kernel) (by decide) (by decide) h1 h3
theorem sorted_srt {ys : List Str} (h : sortedS ys = true) : Srt ys := by
  have key : ∀ (ys : List Str) (x : Str), risingS x ys = true → (x :: ys).Pairwise fun a b => DatumOrd.lt b a = false := by
    intro ys
    induction ys with
    | nil => intro x _; exact List.pairwise_singleton _ _
    | cons y ys ih =>
      intro x h
      simp only [risingS, Bool.and_eq_true] at h
      have h2 := ih y h.2
      have h1 : DatumOrd.lt y x = false := by
        have z := h.1
        rw [PyProof.Rows.ltCps_eq] at z
        show decide (y.cps.toList < x.cps.toList) = false
        cases q : decide (y.cps.toList < x.cps.toList) with
        | false => rfl
        | true => rw [q] at z; cases z
      refine List.pairwise_cons.mpr ⟨fun z hz => ?_, h2⟩
      rcases List.mem_cons.mp hz with e | e
      · rw [e]; exact h1
      · exact ord_neg h1 ((List.pairwise_cons.mp h2).1 z e)
  cases ys with
  | nil => exact List.Pairwise.nil
  | cons x ys => exact key ys x h
/-- sorted(d) -/
theorem ev_sortedD (hc : X.calm = true) (hm : X.mg "sorted" = none) (ha : Ev X B Γ c1 a (Sd (mpS kvs))) (hz : kvs.length < 64) (hg : Gl X "sorted" := by rfl) (h1 : starEach [a] X.env = (false, eval a X.env) :: starEach [] X.env := by rfl) (h3 : (backTo pos (starEach [] X.env)).any (·.1) = false := by rfl) :
    Ev X B Γ (c1 + 0) (.Call (.Name "sorted" p) [a] [] pos) (So (dt (srt (kvs.map (·.1))))) := ev_callB (call_sortedD hc) hm (av_cons ha av_nil h1) (fun n G H vs Q vl hd k => by
    obtain ⟨v, rfl, g1⟩ := denAll1 hd
    obtain ⟨ad, r, rfl, hp, hw⟩ := dct_inv g1
    refine ⟨ad, r, kvs.map (·.1), rfl, vl.sub.rd_dK hp, (dq_keys hw).2, by rw [List.length_map]; exact hz, fun ys l hperm hs hl => ?_⟩
    obtain ⟨s1, v1⟩ := Ste.new (o := .lst (ys.map V.str)) vl hl trivial
    have e : ys = srt (kvs.map (·.1)) := Srt.one (hperm.trans (srt_perm _).symm) (sorted_srt hs) (srt_srt _)
    subst e
    exact k _ _ _ _ s1 v1 rfl (Res.newL vl hl (.py (strs_dq _)))) hg (by decide +kernel) (by decide) (by decide) h1 h3
end
end DL
end

section
set_option Elab.async false
set_option linter.all false
set_option maxRecDepth 100000
set_option maxHeartbeats 4000000
set_option autoImplicit false
/-! DlT: walks over dicts, which are locked meanwhile. -/
namespace DL
open PySem PySem.Spec PyProof.Rows L2 PySem.W PySem.SeqAt
variable [Wd]
def lkM (d : Addr) (fz : HO) (M : Hp) : Hp := fun b => if b = d ∧ M d ≠ none then some fz else M b
section
variable {K : PySem.W.Frag} {B : Bs} {Γ : List Ent} {c n : Nat} {σ : L2.St} {H G : Hp} {d : Addr} {r : List (Key × V)} {od : Obj}
theorem lkM_ne {fz : HO} {M : Hp} {b : Addr} (h : b ≠ d) : lkM d fz M b = M b := if_neg fun z => h z.1
theorem lkM_eq {fz : HO} {M : Hp} (h : M d ≠ none) : lkM d fz M d = some fz := if_pos ⟨rfl, h⟩
theorem lkM_none {fz : HO} {M : Hp} {b : Addr} : lkM d fz M b = none ↔ M b = none := by
  by_cases e : b = d
  · subst e
    by_cases h : M b = none
    · unfold lkM; rw [if_neg (fun z => z.2 h)]
    · rw [lkM_eq h]; exact ⟨fun z => (by cases z), fun z => absurd z h⟩
  · rw [lkM_ne e]
theorem sub_lock {R : Addr → HO → HO → Prop} {G H : Hp} {fz : HO} (s : SubX R G H) (hR : ∀ o, R d o o → True) (hd : H d ≠ none) (hr : R d fz fz) : SubX R (lkM d fz G) (upd H d fz) := fun b o e => by
  by_cases h : b = d
  · subst h
    by_cases z : G b = none
    · rw [lkM_none.mpr z] at e; cases e
    · rw [lkM_eq z] at e; cases e; exact ⟨fz, upd_same, hr⟩
  · rw [lkM_ne h] at e
    obtain ⟨o', e', l⟩ := s b o e
    exact ⟨o', by rw [upd_ne h]; exact e', l⟩
theorem lkM_upd {fz : HO} {M : Hp} (h : M d ≠ none) : lkM d fz M = upd M d fz := by
  funext b
  by_cases e : b = d
  · subst e; rw [lkM_eq h, upd_same]
  · rw [lkM_ne e, upd_ne e]
/-- what is known before and within -/
def Frz (r : List (Key × V)) (o : HO) : Prop := o = .dK r ∨ ∃ q, o = .frz q (.dK r)
theorem lock_data (r : List (Key × V)) {G : Hp} {g0 : HO} (hg : G d = some g0) (h0 : g0 = .dK r ∨ g0 = .frz od (.dK r)) : SubX ULe G (upd G d (.frz od (.dK r))) := fun b o e => by
  by_cases h : b = d
  · subst h
    rw [hg] at e; cases e
    rcases h0 with z | z
    · subst z; exact ⟨_, upd_same, .lo (.lock r od)⟩
    · subst z; exact ⟨_, upd_same, .lo (.refl _)⟩
  · exact ⟨o, by rw [upd_ne h]; exact e, .lo (.refl _)⟩
theorem unlock_data (r : List (Key × V)) {G : Hp} {g0 : HO} (hg : G d = some (.frz od (.dK r))) (h0 : g0 = .dK r ∨ g0 = .frz od (.dK r)) : SubX ULe G (upd G d g0) := fun b o e => by
  by_cases h : b = d
  · subst h
    rw [hg] at e; cases e
    rcases h0 with z | z
    · subst z; exact ⟨_, upd_same, .unl r od⟩
    · subst z; exact ⟨_, upd_same, .lo (.refl _)⟩
  · exact ⟨o, by rw [upd_ne h]; exact e, .lo (.refl _)⟩
theorem lock_tg {G : Hp} {g0 : HO} (hg : G d = some g0) (h0 : g0 = .dK r ∨ g0 = .frz od (.dK r)) {o : HO} : Tg G (upd G d o) := fun b t e => by
  have : b ≠ d := fun z => by
    subst z; rw [hg] at e; cases e
    rcases h0 with z | z <;> cases z
  rw [upd_ne this]; exact e
theorem unlock_tg {G : Hp} (hg : G d = some (.frz od (.dK r))) {o : HO} : Tg G (upd G d o) := lock_tg hg (.inr rfl)
abbrev lkB (d : Addr) (fz : HO) (B : Bs) : Bs := ⟨lkM d fz B.G, lkM d fz B.H⟩
theorem lock_in {g0 : HO} (p : Pre K B Γ c σ H n G) (hg : G d = some g0) (h0 : g0 = .dK r ∨ g0 = .frz od (.dK r)) : Pre K (lkB d (.frz od (.dK r)) B) Γ c σ (upd H d (.frz od (.dK r))) n (upd G d (.frz od (.dK r))) := by
  have gd : G d ≠ none := by rw [hg]; intro z; cases z
  have hd : H d ≠ none := fun z => gd (p.val.sub.out z)
  have tg : Tg G (upd G d (.frz od (.dK r))) := lock_tg hg h0
  obtain ⟨hu, hH, lH⟩ := p.val.sub d _ hg
  have hH' : hu = .dK r ∨ ∃ q, hu = .frz q (.dK r) := by rcases h0 with z | z <;> (subst z; cases lH <;> first | exact .inl rfl | exact .inr ⟨_, rfl⟩)
  refine ⟨⟨fun i e h => ?_, fun i e h => ?_, p.ok.dj, p.ok.ln⟩, ⟨?_, fun a m e => ?_, ?_⟩, ⟨?_, ?_, fun a u h1 h2 h3 => ?_⟩, p.lim⟩
  · obtain ⟨v, e1, e2⟩ := p.ok.sh i e h
    exact ⟨v, e1, e2.subU (lock_data r hg h0) tg⟩
  · obtain ⟨a, o, e1, e2, e3, e4, e5⟩ := p.ok.ow i e h
    have ne : a ≠ d := fun z => by subst z; exact gd e3
    exact ⟨a, o, e1, lkM_none.mpr e2, by rw [upd_ne ne]; exact e3, by rw [upd_ne ne]; exact e4, e5.subU (lock_data r hg h0) tg⟩
  · rw [← lkM_upd gd]; exact sub_lock p.val.sub (fun _ _ => trivial) hd (.refl _)
  · by_cases h : a = d
    · subst h; rw [upd_same] at e; cases e
    · rw [upd_ne h] at e; exact p.val.pb a m e
  · refine p.val.mm_sub (fun b t e => ?_) (tp_write hH (by rcases hH' with z | ⟨q, z⟩ <;> (subst z; exact id))) fun b k e => ?_
    · by_cases h : b = d
      · subst h; rw [upd_same] at e; cases e
      · rw [upd_ne h] at e; exact e
    · have h : b ≠ d := fun z => by
        subst z; rw [hH] at e; cases e
        rcases hH' with z | ⟨q, z⟩ <;> cases z
      rw [upd_ne h]; exact e
  · exact sub_lock p.ste.g (fun _ _ => trivial) gd (.refl _)
  · exact sub_lock p.ste.h (fun _ _ => trivial) hd (.refl _)
  · have h1' := lkM_none.mp h1
    have h2 : lkM d (.frz od (.dK r)) B.H a = some u := h2
    by_cases ne : a = d
    · subst ne
      have h2' : B.H a ≠ none := fun z => by rw [lkM_none.mpr z] at h2; cases h2
      cases q : B.H a with
      | none => exact absurd q h2'
      | some u' =>
        obtain ⟨o1, o2, o3⟩ := p.ste.h a u' q
        rw [hH] at o2; cases o2
        have : ¬ IsTp u' := by
          rcases hH' with z | ⟨q, z⟩
          · subst z; generalize e : HO.dK r = w at o3; cases o3 <;> first | (subst e; exact id) | exact id
          · subst z; generalize e : HO.frz q (HO.dK r) = w at o3; cases o3 <;> first | (subst e; exact id) | exact id
        exact absurd (p.ste.f a u' h1' q this) gd
    · rw [lkM_ne ne] at h2
      rw [upd_ne ne]; exact p.ste.f a u h1' h2 h3
/-- a step within, seen from without -/
theorem lock_ste {g0 u : HO} {G2 H2 : Hp} (hg : G d = some g0) (hh : H d = some u) (s : Ste (upd G d (.frz od (.dK r))) (upd H d (.frz od (.dK r))) G2 H2) : Ste G H (upd G2 d g0) (upd H2 d u) ∧ G2 d = some (.frz od (.dK r)) ∧ H2 d = some (.frz od (.dK r)) := by
  have g2 : G2 d = some (.frz od (.dK r)) := by
    obtain ⟨o', e, l⟩ := s.g d _ upd_same
    cases l; exact e
  have h2 : H2 d = some (.frz od (.dK r)) := by
    obtain ⟨o', e, l⟩ := s.h d _ upd_same
    cases l; exact e
  refine ⟨⟨fun b o e => ?_, fun b o e => ?_, fun b u h1 h2 h3 => ?_⟩, g2, h2⟩
  · by_cases h : b = d
    · subst h; rw [hg] at e; cases e; exact ⟨_, upd_same, .refl _⟩
    · obtain ⟨o', e', l⟩ := s.g b o (by rw [upd_ne h]; exact e)
      exact ⟨o', by rw [upd_ne h]; exact e', l⟩
  · by_cases h : b = d
    · subst h; rw [hh] at e; cases e; exact ⟨_, upd_same, .refl _⟩
    · obtain ⟨o', e', l⟩ := s.h b o (by rw [upd_ne h]; exact e)
      exact ⟨o', by rw [upd_ne h]; exact e', l⟩
  · have h : b ≠ d := fun z => by subst z; rw [hg] at h1; cases h1
    rw [upd_ne h]
    exact s.f b u (by rw [upd_ne h]; exact h1) (by rw [upd_ne h]; exact h2) h3
theorem lock_val {g0 u : HO} {G2 H2 : Hp} {n2 : Nat} (v : Val n2 G2 H2) (g2 : G2 d = some (.frz od (.dK r))) (l : LLe d g0 u) (hu : u = .dK r ∨ u = .frz od (.dK r)) (h2 : H2 d = some (.frz od (.dK r))) (h0 : g0 = .dK r ∨ g0 = .frz od (.dK r)) : Val n2 (upd G2 d g0) (upd H2 d u) := by
  refine ⟨fun b o e => ?_, fun a m e => ?_, v.mm_sub (fun b t e => ?_) (tp_write h2 id) fun b k e => ?_⟩
  · by_cases h : b = d
    · subst h; rw [upd_same] at e; cases e; exact ⟨u, upd_same, l⟩
    · rw [upd_ne h] at e
      obtain ⟨o', e', l'⟩ := v.sub b o e
      exact ⟨o', by rw [upd_ne h]; exact e', l'⟩
  · by_cases h : a = d
    · subst h
      rw [upd_same] at e
      rcases hu with z | z <;> (subst z; cases e)
    · rw [upd_ne h] at e; exact v.pb a m e
  · by_cases h : b = d
    · subst h; rw [upd_same] at e
      rcases h0 with z | z <;> (subst z; cases e)
    · rw [upd_ne h] at e; exact e
  · have h : b ≠ d := fun z => by subst z; rw [h2] at e; cases e
    rw [upd_ne h]; exact e
theorem lock_res {g0 u : HO} {G2 H2 : Hp} {v : V} {x : Ent} (hH : H d = some u) (g2 : G2 d = some (.frz od (.dK r))) (h0 : g0 = .dK r ∨ g0 = .frz od (.dK r)) (q : Res K (upd H d (.frz od (.dK r))) G2 H2 v x) : Res K H (upd G2 d g0) (upd H2 d u) v x := by
  cases q with
  | sh den => exact .sh (den.subU (unlock_data r g2 h0) (unlock_tg g2))
  | @ow a o e h1 h2 h3 h4 =>
    have ne : a ≠ d := fun z => by subst z; rw [g2] at h2; cases h2
    rw [upd_ne ne] at h1
    exact .ow h1 (by rw [upd_ne ne]; exact h2) (by rw [upd_ne ne]; exact h3) (h4.subU (unlock_data r g2 h0) (unlock_tg g2))
end
section
variable {X : Cx} {B : Bs} {Γ : List Ent} {c : Nat} {e : Expr} {S : Ent → Prop} {α : Type} [DecidableEq α] [Datum α]
/-- an expression within which the dict in slot i is locked -/
def tEvL (K : PySem.W.Frag) (B : Bs) (Γ : List Ent) (i : Nat) (kvs : List (Str × α)) (c : Nat) (S : Ent → Prop) : TE := fun σ H Q => ∃ n G d od r, σ[i]? = some (some (V.ref d)) ∧ G d = some (.frz od (.dK r)) ∧ DqK K G r kvs ∧ Pre K B Γ c σ H n G ∧
  ∀ v H' G' n' x, n' ≤ n + c → Ste G H G' H' → Val n' G' H' → S x → Res K H G' H' v x → Q v H'
theorem dqK_sub {K : PySem.W.Frag} {R : Addr → HO → HO → Prop} [LeR R] {G H : Hp} (x : SubX R G H) : ∀ {r : List (Key × V)} {t : List (Str × α)}, DqK K G r t → DqK K H r t
  | _, _, .nil => .nil
  | _, _, .cons h t => .cons (dp_sub x h) (dqK_sub x t)
theorem ev_lockD (i : Nat) {kvs : List (Str × α)} (hΓ : Γ[i]? = some (Ent.sh (mpS kvs))) (h : ∀ B, PE X e (tEvL X.K B Γ i kvs c S)) : Ev X B Γ c e S := by
  refine ⟨fun pins s σ H Q I ⟨n, G, p, k⟩ => ?_⟩
  obtain ⟨v, e1, e2⟩ := p.ok.sh i _ hΓ
  obtain ⟨d, r, rfl, hr, hq⟩ := dct_inv e2
  -- what stands at d
  have go : ∀ (od : Obj) (g0 u : HO), G d = some g0 → H d = some u → (g0 = .dK r ∨ g0 = .frz od (.dK r)) → (u = .dK r ∨ u = .frz od (.dK r)) → LLe d g0 u →
      tEvL X.K (lkB d (.frz od (.dK r)) B) Γ i kvs c S σ (upd H d (.frz od (.dK r))) (fun v H2 => H2 d = some (.frz od (.dK r)) ∧ Q v (upd H2 d u)) := fun od g0 u hg hh h0 hu l => by
    refine ⟨n, _, d, od, r, e1, upd_same, dqK_sub (lock_data r hg h0) hq, lock_in p hg h0, fun v H2 G2 n2 x hn st vl hS hres => ?_⟩
    obtain ⟨s3, g2, h2⟩ := lock_ste hg hh st
    exact ⟨h2, k v _ _ n2 x hn s3 (lock_val vl g2 l hu h2 h0) hS (lock_res hh g2 h0 hres)⟩
  have all : PE X e (fun σ H Q => ∃ B, tEvL X.K B Γ i kvs c S σ H Q) := ⟨fun pins s σ H Q I ⟨B, q⟩ => (h B).run pins s σ H Q I q⟩
  have same : ∀ {M : Hp} {o : HO}, M d = some o → upd M d o = M := fun {M o} z => by
    funext b
    by_cases e : b = d
    · subst e; rw [upd_same, z]
    · rw [upd_ne e]
  have stay : ∀ (od : Obj), H d = some (.frz od (.dK r)) → tEvL X.K (lkB d (.frz od (.dK r)) B) Γ i kvs c S σ (upd H d (.frz od (.dK r))) (fun v H2 => H2 d = some (.frz od (.dK r)) ∧ Q v (upd H2 d (.frz od (.dK r)))) → ∃ B, tEvL X.K B Γ i kvs c S σ H Q := fun od hh q => by
    rw [same hh] at q
    obtain ⟨n, G, d', od', r', a1, a2, a3, a4, a5⟩ := q
    exact ⟨_, n, G, d', od', r', a1, a2, a3, a4, fun v H' G' n' x b1 b2 b3 b4 b5 => by
      obtain ⟨z1, z2⟩ := a5 v H' G' n' x b1 b2 b3 b4 b5
      rw [same z1] at z2; exact z2⟩
  rcases hr with hg | ⟨q, hg⟩
  · obtain ⟨o', hh, l⟩ := p.val.sub d _ hg
    cases l with
    | refl => exact (pe_lock all).run pins s σ H Q I ⟨d, .dK r, hh, trivial, fun od => ⟨_, go od _ _ hg hh (.inl rfl) (.inl rfl) (.refl _)⟩⟩
    | lock _ q => exact all.run pins s σ H Q I (stay q hh (go q _ _ hg hh (.inl rfl) (.inr rfl) (.lock r q)))
  · obtain ⟨o', hh, l⟩ := p.val.sub d _ hg
    cases l.frz
    exact all.run pins s σ H Q I (stay q hh (go q _ _ hg hh (.inr rfl) (.inr rfl) (.refl _)))
/-! ### a comprehension over a dict -/
theorem walk_kD {K : PySem.W.Frag} {G : Hp} {d : Addr} {od : Obj} {r : List (Key × V)} {kvs : List (Str × α)} (hg : G d = some (.frz od (.dK r))) (hq : DqK K G r kvs) : IsWalk K (Itk d od r) ((kvs.map (·.1)).map dt) G := by
  unfold IsWalk
  rw [List.length_map, List.length_map, ← hq.len]
  refine (walk_keys (d := d) (o := od) (kvs := r)).mono (fun H s => ?_) fun j H x H' hj sb y n G' sg v => ?_
  · obtain ⟨o', e, l⟩ := s d _ hg
    cases l.frz; exact e
  · obtain ⟨rfl, k, w, h1, rfl⟩ := y
    have e := (dq_keys hq).1
    have h2 : (r.map fun kv => kV kv.1)[j]? = some (kV k) := by rw [List.getElem?_map, h1]; rfl
    rw [e, List.getElem?_map] at h2
    cases q : (kvs.map (·.1))[j]? with
    | none => rw [q] at h2; cases h2
    | some z =>
      rw [q] at h2
      have h3 : V.str z = kV k := Option.some.inj h2
      refine ⟨dt z, by rw [List.getElem?_map, q]; rfl, G', .refl _ _, v, ?_⟩
      rw [← h3]; exact .py (.str z)
end
section
variable {X : Cx} {B : Bs} {Γ : List Ent} {c0 c1 c2 : Nat} {elt tg : Expr} {ifs : List Expr} {scope : Scope} {own : List (Str × Nat)} {pos p : Pos} {g : TG} {α β : Type} [DecidableEq α] [Datum α] [DecidableEq β] [Datum β] {kvs : List (Str × α)} {Γ' : Str → List Ent}
theorem ev_lcD (i : Nat) {x : Str} {T : Str → Bool → Prop} {S : Str → D → Prop} (hΓ : Γ[i]? = some (Ent.sh (mpS kvs))) (hz : kvs.length ≤ sizeLine) (hc : X.calm = true) (hN : X.N.Nodup) (ok : BlkOk X.N X.env.scope scope own) (htg : ∀ d, TgOk X.K g (own.map (·.2)) (wipeE Γ (own.map (·.2))) (dt d) (Γ' d))
    (hg : ∀ (s : Shared) (H : Hp) (C : Addr) (cl : List (Str × Addr)) (fp : List Addr), PG (X.blk s H scope (compEnvC scope cl C X.env) fp) tg g)
    (ht : ∀ d ∈ kvs.map (·.1), ∀ (B : Bs) (s : Shared) (H : Hp) (C : Addr) (cl : List (Str × Addr)) (fp : List Addr), PTs (X.blk s H scope (compEnvC scope cl C X.env) fp) ifs (tTv X.K B (Γ' d) c1 (T d)))
    (he : ∀ d ∈ kvs.map (·.1), T d true → ∀ (B : Bs) (s : Shared) (H : Hp) (C : Addr) (cl : List (Str × Addr)) (fp : List Addr), PE (X.blk s H scope (compEnvC scope cl C X.env) fp) elt (tEv X.K B (Γ' d) c2 (Sp (S d))))
    (hi : X.N[i]? = some x := by rfl) (hv : Vis X.env.scope x := by first | exact Or.inl rfl | exact Or.inr (Or.inl rfl) | exact Or.inr (Or.inr rfl)) (hd : (x == ("__debug__" : Str)) = false := by decide) (hcd : (x == ("__classdict__" : Str)) = false := by decide)
    (hs : ∀ y, foldedSetIterable (.Name x p) X.env y = pure y := by intro _; rfl) :
    Ev X B Γ (sizeLine * (c1 + c2)) (.ListComp elt [⟨tg, .Name x p, ifs, 0⟩] scope pos) (fun r => ∃ ys, LcRel T S (kvs.map (·.1)) ys ∧ r = .ow (.lst ys)) := by
  refine ev_lockD i hΓ fun B => ?_
  have ht' : ∀ (s : Shared) (H : Hp) (C : Addr) (cl : List (Str × Addr)) (fp : List Addr), PTs (X.blk s H scope (compEnvC scope cl C X.env) fp) ifs (fun σ H Q => ∃ d, d ∈ kvs.map (·.1) ∧ tTv X.K B (Γ' d) c1 (T d) σ H Q) := fun s H C cl fp =>
    ⟨fun pins s' σ H' Q I ⟨d, h1, h2⟩ => (ht d h1 B s H C cl fp).run pins s' σ H' Q I h2⟩
  have he' : ∀ (s : Shared) (H : Hp) (C : Addr) (cl : List (Str × Addr)) (fp : List Addr), PE (X.blk s H scope (compEnvC scope cl C X.env) fp) elt (fun σ H Q => ∃ d, d ∈ kvs.map (·.1) ∧ T d true ∧ tEv X.K B (Γ' d) c2 (Sp (S d)) σ H Q) := fun s H C cl fp =>
    ⟨fun pins s' σ H' Q I ⟨d, h1, h2, h3⟩ => (he d h1 h2 B s H C cl fp).run pins s' σ H' Q I h3⟩
  refine pe_mono (pe_lc hc hN (pi_keys (pe_var (pos := p) hi hv hd hcd)) ok hg ht' he' hs) fun σ H Q ⟨n, G, d, od, r, e1, e2, e3, pr, k⟩ => ?_
  have e4 : H d = some (.frz od (.dK r)) := by
    obtain ⟨o', e, l⟩ := pr.val.sub d _ e2
    cases l.frz; exact e
  refine ⟨.ref d, e1, d, od, rfl, .inl ⟨r, e4, ?_⟩⟩
  exact lc_core (tt := fun σ H Q => ∃ d, d ∈ kvs.map (·.1) ∧ tTv X.K B (Γ' d) c1 (T d) σ H Q) (te := fun σ H Q => ∃ d, d ∈ kvs.map (·.1) ∧ T d true ∧ tEv X.K B (Γ' d) c2 (Sp (S d)) σ H Q) (J := Itk d od r) (xs := kvs.map (·.1)) (enc := dt) htg (fun d hd σ H Q z => ⟨d, hd, z⟩) (fun d hd hT σ H Q z => ⟨d, hd, hT, z⟩) pr (walk_kD e2 e3) (by rw [List.length_map]; exact hz) fun v H' G' n' r h1 h2 h3 ⟨ys, h4, h5⟩ h6 => k v H' G' n' r h1 h2 h3 ⟨ys, h4, h5⟩ h6
/-- typed, without a test -/
theorem ev_lcD0 (i : Nat) {x : Str} {f : Str → β} (hΓ : Γ[i]? = some (Ent.sh (mpS kvs))) (hz : kvs.length ≤ sizeLine) (hc : X.calm = true) (hN : X.N.Nodup) (ok : BlkOk X.N X.env.scope scope own) (htg : ∀ d, TgOk X.K g (own.map (·.2)) (wipeE Γ (own.map (·.2))) (dt d) (Γ' d))
    (hg : ∀ (s : Shared) (H : Hp) (C : Addr) (cl : List (Str × Addr)) (fp : List Addr), PG (X.blk s H scope (compEnvC scope cl C X.env) fp) tg g)
    (he : ∀ d ∈ kvs.map (·.1), ∀ (B : Bs) (s : Shared) (H : Hp) (C : Addr) (cl : List (Str × Addr)) (fp : List Addr), PE (X.blk s H scope (compEnvC scope cl C X.env) fp) elt (tEv X.K B (Γ' d) c2 (Sd (dt (f d)))))
    (hi : X.N[i]? = some x := by rfl) (hv : Vis X.env.scope x := by first | exact Or.inl rfl | exact Or.inr (Or.inl rfl) | exact Or.inr (Or.inr rfl)) (hd : (x == ("__debug__" : Str)) = false := by decide) (hcd : (x == ("__classdict__" : Str)) = false := by decide)
    (hs : ∀ y, foldedSetIterable (.Name x p) X.env y = pure y := by intro _; rfl) :
    Ev X B Γ (sizeLine * (0 + c2)) (.ListComp elt [⟨tg, .Name x p, [], 0⟩] scope pos) (So (dt ((kvs.map (·.1)).map f))) :=
  ev_owPy (ev_weak (ev_lcD i (T := fun _ b => b = true) (S := fun x y => y = dt (f x)) hΓ hz hc hN ok htg hg (fun d _ B s H C cl fp => tts_nil) (fun d hd _ B s H C cl fp => ev_sp (he d hd B s H C cl fp)) hi hv hd hcd hs) (fun r ⟨zs, rel, q⟩ => by
    have z := lcRel_d (p := fun _ => true) (f := fun d => dt (f d)) rel
    rw [List.filter_eq_self.mpr (fun _ _ => rfl)] at z
    rw [q, z, List.map_map]; rfl) (Nat.le_refl _))
end
end DL
end

section
set_option Elab.async false
set_option linter.all false
set_option maxRecDepth 100000
set_option maxHeartbeats 4000000
set_option autoImplicit false
/-! DlU: comprehensions as expressions and as y = [..]; short forms. -/
namespace DL
open PySem PySem.Spec PyProof.Rows L2 PySem.W PySem.SeqAt
variable [Wd]
/-- a comprehension of one 'for' and what it makes -/
structure Lc (X : Cx) (B : Bs) (Γ : List Ent) (c : Nat) (elt tg iter : Expr) (ifs : List Expr) (scope : Scope) (S : Ent → Prop) : Prop where
  ex : ∃ (own : List (Str × Nat)) (wi : TI) (g : TG) (tt : TT) (te : TE), PI X tg iter wi ∧ BlkOk X.N X.env.scope scope own ∧
    (∀ (s : Shared) (H : Hp) (C : Addr) (cl : List (Str × Addr)) (fp : List Addr), PG (X.blk s H scope (compEnvC scope cl C X.env) fp) tg g) ∧
    (∀ (s : Shared) (H : Hp) (C : Addr) (cl : List (Str × Addr)) (fp : List Addr), PTs (X.blk s H scope (compEnvC scope cl C X.env) fp) ifs tt) ∧
    (∀ (s : Shared) (H : Hp) (C : Addr) (cl : List (Str × Addr)) (fp : List Addr), PE (X.blk s H scope (compEnvC scope cl C X.env) fp) elt te) ∧
    (∀ x, foldedSetIterable iter X.env x = pure x) ∧ ∀ σ H Q, tEv X.K B Γ c S σ H Q → tLc wi g tt te (own.map (·.2)) σ H Q
section
variable {X : Cx} {B : Bs} {Γ : List Ent} {c c0 c1 c2 : Nat} {elt tg iter : Expr} {ifs : List Expr} {scope : Scope} {own : List (Str × Nat)} {p2 pos spos : Pos} {g : TG} {ι : Type} {enc : ι → D} {T : ι → Bool → Prop} {S : ι → D → Prop} {S0 : List ι → Prop} {Γ' : ι → List Ent} {SS SS' : Ent → Prop} {O : Out} {rest : List Stmt}
  {α β γ : Type} [DecidableEq α] [Datum α] [DecidableEq β] [Datum β]
theorem Lc.weak (h : Lc X B Γ c elt tg iter ifs scope SS) (m : ∀ σ H Q, tEv X.K B Γ c1 SS' σ H Q → tEv X.K B Γ c SS σ H Q) : Lc X B Γ c1 elt tg iter ifs scope SS' := by
  obtain ⟨own, wi, g, tt, te, h1, h2, h3, h4, h5, h6, h7⟩ := h.ex
  exact ⟨own, wi, g, tt, te, h1, h2, h3, h4, h5, h6, fun σ H Q q => h7 σ H Q (m σ H Q q)⟩
theorem Lc.ev (h : Lc X B Γ c elt tg iter ifs scope SS) (hc : X.calm = true) (hN : X.N.Nodup) : Ev X B Γ c (.ListComp elt [⟨tg, iter, ifs, 0⟩] scope pos) SS := by
  obtain ⟨own, wi, g, tt, te, h1, h2, h3, h4, h5, h6, h7⟩ := h.ex
  exact pe_mono (pe_lc hc hN h1 h2 h3 h4 h5 h6) h7
theorem lc_mk (hi : Iv X B Γ c0 tg iter fun l => ∃ xs, S0 xs ∧ l = xs.map enc) (ok : BlkOk X.N X.env.scope scope own) (htg : ∀ d, TgOk X.K g (own.map (·.2)) (wipeE Γ (own.map (·.2))) (enc d) (Γ' d))
    (hg : ∀ (s : Shared) (H : Hp) (C : Addr) (cl : List (Str × Addr)) (fp : List Addr), PG (X.blk s H scope (compEnvC scope cl C X.env) fp) tg g)
    (ht : ∀ xs, S0 xs → ∀ d ∈ xs, ∀ (s : Shared) (H : Hp) (C : Addr) (cl : List (Str × Addr)) (fp : List Addr), PTs (X.blk s H scope (compEnvC scope cl C X.env) fp) ifs (tTv X.K B (Γ' d) c1 (T d)))
    (he : ∀ xs, S0 xs → ∀ d ∈ xs, T d true → ∀ (s : Shared) (H : Hp) (C : Addr) (cl : List (Str × Addr)) (fp : List Addr), PE (X.blk s H scope (compEnvC scope cl C X.env) fp) elt (tEv X.K B (Γ' d) c2 (Sp (S d))))
    (hs : ∀ x, foldedSetIterable iter X.env x = pure x := by intro _; rfl) : Lc X B Γ (c0 + sizeLine * (c1 + c2)) elt tg iter ifs scope (fun r => ∃ xs ys, S0 xs ∧ LcRel T S xs ys ∧ r = .ow (.lst ys)) := by
  refine ⟨own, _, g, fun σ H Q => ∃ xs d, S0 xs ∧ d ∈ xs ∧ tTv X.K B (Γ' d) c1 (T d) σ H Q, fun σ H Q => ∃ xs d, S0 xs ∧ d ∈ xs ∧ T d true ∧ tEv X.K B (Γ' d) c2 (Sp (S d)) σ H Q, hi, ok, hg, fun s H C cl fp => ⟨fun pins s' σ H' Q I ⟨xs, d, h0, h1, h2⟩ => (ht xs h0 d h1 s H C cl fp).run pins s' σ H' Q I h2⟩,
    fun s H C cl fp => ⟨fun pins s' σ H' Q I ⟨xs, d, h0, h1, h2, h3⟩ => (he xs h0 d h1 h2 s H C cl fp).run pins s' σ H' Q I h3⟩, hs, fun σ H Q q => lc_read htg (fun xs h0 d h1 σ H Q z => ⟨xs, d, h0, h1, z⟩) (fun xs h0 d h1 h2 σ H Q z => ⟨xs, d, h0, h1, h2, z⟩) q⟩
theorem tev_owPy {K : PySem.W.Frag} {ys : List β} {σ : L2.St} {H : Hp} {Q : VK} (q : tEv K B Γ c (So (dt ys)) σ H Q) : tEv K B Γ c (So (.lst (ys.map dt))) σ H Q := by
  obtain ⟨n, G, p, k⟩ := q
  exact ⟨n, G, p, fun v H' G' n' r h1 h2 h3 h4 h5 => by cases h4; exact k v H' G' n' _ h1 h2 h3 rfl h5.py⟩
theorem tev_imp {K : PySem.W.Frag} {σ : L2.St} {H : Hp} {Q : VK} (hs : ∀ r, SS r → SS' r) (q : tEv K B Γ c SS' σ H Q) : tEv K B Γ c SS σ H Q := by
  obtain ⟨n, G, p, k⟩ := q
  exact ⟨n, G, p, fun v H' G' n' r h1 h2 h3 h4 h5 => k v H' G' n' r h1 h2 h3 (hs r h4) h5⟩
/-- with a test -/
theorem lc_T {xs : List ι} {t : ι → Bool} {f : ι → β} (hi : Iv X B Γ c0 tg iter fun l => ∃ ys, ys = xs ∧ l = ys.map enc) (ok : BlkOk X.N X.env.scope scope own) (htg : ∀ d, TgOk X.K g (own.map (·.2)) (wipeE Γ (own.map (·.2))) (enc d) (Γ' d))
    (hg : ∀ (s : Shared) (H : Hp) (C : Addr) (cl : List (Str × Addr)) (fp : List Addr), PG (X.blk s H scope (compEnvC scope cl C X.env) fp) tg g)
    (ht : ∀ d ∈ xs, ∀ (s : Shared) (H : Hp) (C : Addr) (cl : List (Str × Addr)) (fp : List Addr), PTs (X.blk s H scope (compEnvC scope cl C X.env) fp) ifs (tTv X.K B (Γ' d) c1 fun b => b = t d))
    (he : ∀ d ∈ xs, t d = true → ∀ (s : Shared) (H : Hp) (C : Addr) (cl : List (Str × Addr)) (fp : List Addr), PE (X.blk s H scope (compEnvC scope cl C X.env) fp) elt (tEv X.K B (Γ' d) c2 (Sd (dt (f d)))))
    (hs : ∀ x, foldedSetIterable iter X.env x = pure x := by intro _; rfl) : Lc X B Γ (c0 + sizeLine * (c1 + c2)) elt tg iter ifs scope (So (dt ((xs.filter t).map f))) :=
  (lc_mk (T := fun x b => b = t x) (S := fun x y => y = dt (f x)) hi ok htg hg (fun ys e d hd => by subst e; exact ht d hd) (fun ys e d hd hp s H C cl fp => by subst e; exact ev_sp (he d hd hp.symm s H C cl fp)) hs).weak fun σ H Q q =>
    tev_imp (fun r ⟨ys, zs, e, rel, z⟩ => by subst e; rw [lcRel_d rel, ← Function.comp_def, ← List.map_map] at z; exact z) (tev_owPy q)
/-- without -/
theorem lc_0 {xs : List ι} {f : ι → β} (hi : Iv X B Γ c0 tg iter fun l => ∃ ys, ys = xs ∧ l = ys.map enc) (ok : BlkOk X.N X.env.scope scope own) (htg : ∀ d, TgOk X.K g (own.map (·.2)) (wipeE Γ (own.map (·.2))) (enc d) (Γ' d))
    (hg : ∀ (s : Shared) (H : Hp) (C : Addr) (cl : List (Str × Addr)) (fp : List Addr), PG (X.blk s H scope (compEnvC scope cl C X.env) fp) tg g)
    (he : ∀ d ∈ xs, ∀ (s : Shared) (H : Hp) (C : Addr) (cl : List (Str × Addr)) (fp : List Addr), PE (X.blk s H scope (compEnvC scope cl C X.env) fp) elt (tEv X.K B (Γ' d) c2 (Sd (dt (f d)))))
    (hs : ∀ x, foldedSetIterable iter X.env x = pure x := by intro _; rfl) : Lc X B Γ (c0 + sizeLine * (0 + c2)) elt tg iter [] scope (So (dt (xs.map f))) :=
  (lc_T (t := fun _ => true) (f := f) hi ok htg hg (fun d _ s H C cl fp => tts_nil) (fun d hd _ => he d hd) hs).weak fun σ H Q q => tev_imp (fun r z => by rw [List.filter_eq_self.mpr (fun _ _ => rfl)] at z; exact z) q
/-- y = [..] -/
theorem sv_setLc (i : Nat) {y : Str} (h : Lc X B Γ c1 elt tg iter ifs scope SS) (hc : X.calm = true) (hN : X.N.Nodup) (k : ∀ r, SS r → Sv X B (Γ.set i r) c2 rest O) (hy : X.N[i]? = some y := by rfl) (hyl : X.env.scope.names.lookup y = some .local := by rfl)
    (hsw : swapsWith (.ListComp elt [⟨tg, iter, ifs, 0⟩] scope pos) (some (.Name y p2)) spos.line X.env = pure true := by rfl) : Sv X B Γ (c1 + c2) (.Assign [.Name y p2] (.ListComp elt [⟨tg, iter, ifs, 0⟩] scope pos) spos :: rest) O := by
  obtain ⟨own, wi, g, tt, te, h1, h2, h3, h4, h5, h6, h7⟩ := h.ex
  refine sv_cons (N := fun Γ' => ∃ r, SS r ∧ Γ' = Γ.set i r) (ps_mono (ps_setLc hc hN hy hyl hsw h1 h2 h3 h4 h5 h6) fun D σ H ⟨n, G, p, k1, k2, k3, k4⟩ => ?_) fun Γ' ⟨r, hr, q⟩ => by subst q; exact k r hr
  exact h7 σ H _ ⟨n, G, p, fun v H' G' n' r hn st vl hS hr => k1.go _ _ H' G' n' ⟨r, hS, rfl⟩ hn (p.ok.res st hr p.ste.h) vl (p.ste.trans st) st.g⟩
theorem sv_setLco (i : Nat) {y : Str} {d : D} (h : Lc X B Γ c1 elt tg iter ifs scope (So d)) (hc : X.calm = true) (hN : X.N.Nodup) (k : Sv X B (Γ.set i (.ow d)) c2 rest O) (hy : X.N[i]? = some y := by rfl) (hyl : X.env.scope.names.lookup y = some .local := by rfl)
    (hsw : swapsWith (.ListComp elt [⟨tg, iter, ifs, 0⟩] scope pos) (some (.Name y p2)) spos.line X.env = pure true := by rfl) : Sv X B Γ (c1 + c2) (.Assign [.Name y p2] (.ListComp elt [⟨tg, iter, ifs, 0⟩] scope pos) spos :: rest) O :=
  sv_setLc i h hc hN (fun r q => by rw [show r = .ow d from q]; exact k) hy hyl hsw
/-- .. shared at once -/
theorem sv_setLcd (i : Nat) {y : Str} {d : D} (h : Lc X B Γ c1 elt tg iter ifs scope (So d)) (hc : X.calm = true) (hN : X.N.Nodup) (k : Sv X B (Γ.set i (.sh d)) c2 rest O) (hy : X.N[i]? = some y := by rfl) (hyl : X.env.scope.names.lookup y = some .local := by rfl)
    (hsw : swapsWith (.ListComp elt [⟨tg, iter, ifs, 0⟩] scope pos) (some (.Name y p2)) spos.line X.env = pure true := by rfl) : Sv X B Γ (c1 + c2) (.Assign [.Name y p2] (.ListComp elt [⟨tg, iter, ifs, 0⟩] scope pos) spos :: rest) O :=
  sv_setLc (SS := Sd d) i (h.weak fun σ H Q ⟨n, G, p, kk⟩ => ⟨n, G, p, fun v H' G' n' r hn st vl hS hr => by
    cases hS
    obtain ⟨G'', s2, v2, den, _⟩ := hr.share st vl
    exact kk v H' G'' n' _ hn s2 v2 rfl (.sh den)⟩) hc hN (fun r q => by rw [show r = .sh d from q]; exact k) hy hyl hsw
/-! ### short forms -/
theorem ret_of {x y : α} (h : x = y) : ∀ r, Sd (dt x) r → Sd (dt y) r := fun r q => by rw [← h]; exact q
theorem ret_ow {x y : α} (h : x = y) : ∀ r, So (dt x) r → So (dt y) r := fun r q => by rw [← h]; exact q
theorem sv_passq {t : Expr} {a : List Stmt} {q : Bool} (ht : Tv X B Γ c0 t (fun r => r = q)) (hq : q = false) (k : Sv X B Γ c2 rest O) : Sv X B Γ (c0 + c2) (.If t a [] pos :: rest) O := sv_pass (by rw [← hq]; exact ht) k
theorem sv_end (h : O.nx Γ) : Sv X B Γ 0 [] O := sv_nil h
end
end DL
end

section
set_option Elab.async false
set_option linter.all false
set_option maxRecDepth 100000
set_option maxHeartbeats 4000000
set_option autoImplicit false
/-! DlV: the laws' purses. -/
namespace DL
open PySem PySem.Spec PyProof.Rows L2 PySem.W PySem.SeqAt
variable [Wd]
section
variable {X : Cx} {pins : List (Addr × Obj)} {σ : L2.St} {H : Hp} {s : Shared} {a : Addr} {m : Nat}
theorem purse_open (I : Inv X pins σ H s) (h : H a = some (purseO a m)) : ∃ i0 i1 i2 i3 : Int, (0 ≤ i0 ∧ i0 < B0) ∧ (0 ≤ i1 ∧ i1 < 2147483629) ∧ (0 ≤ i2 ∧ i2 ≤ m) ∧ (0 ≤ i3 ∧ i3 ≤ 64) ∧ Inv X pins σ (upd H a (.lst [.int i0, .int i1, .int i2, .int i3])) s := by
  obtain ⟨i0, i1, i2, i3, t0, t1, t2, t3, n, ho, b⟩ := (I.hok a _ h).1
  refine ⟨i0, i1, i2, i3, ⟨b.1, b.2.1⟩, ⟨b.2.2.1, b.2.2.2.1⟩, ⟨b.2.2.2.2.1, b.2.2.2.2.2.1⟩, ⟨b.2.2.2.2.2.2.1, b.2.2.2.2.2.2.2⟩, ?_⟩
  exact I.write (h' := s.heap) (t' := s.toks) (by rw [h]; trivial) (.inl rfl) (fun _ _ _ e => e) ⟨_, ho⟩ ⟨by show 4 ≤ sizeLine; decide, [.int i0 t0, .int i1 t1, .int i2 t2, .int i3 t3], n, .cons ⟨_, rfl⟩ (.cons ⟨_, rfl⟩ (.cons ⟨_, rfl⟩ (.cons ⟨_, rfl⟩ .nil))), ho⟩
theorem purse_close {i0 i1 i2 i3 : Int} (I : Inv X pins σ H s) (h : H a = some (.lst [.int i0, .int i1, .int i2, .int i3])) (b0 : 0 ≤ i0 ∧ i0 < B0) (b1 : 0 ≤ i1 ∧ i1 < 2147483629) (b2 : 0 ≤ i2 ∧ i2 ≤ m) (b3 : 0 ≤ i3 ∧ i3 ≤ 64) : Inv X pins σ (upd H a (purseO a m)) s := by
  obtain ⟨_, its, n, rv, ho⟩ := I.hok a _ h
  cases rv with | cons r0 rv =>
  cases rv with | cons r1 rv =>
  cases rv with | cons r2 rv =>
  cases rv with | cons r3 rv =>
  cases rv
  obtain ⟨t0, rfl⟩ := r0
  obtain ⟨t1, rfl⟩ := r1
  obtain ⟨t2, rfl⟩ := r2
  obtain ⟨t3, rfl⟩ := r3
  have P : PurseAt a m s.heap := ⟨i0, i1, i2, i3, t0, t1, t2, t3, n, ho, b0.1, b0.2, b1.1, b1.2, b2.1, b2.2, b3.1, b3.2⟩
  refine I.write (h' := s.heap) (t' := s.toks) (by rw [h]; trivial) (.inl rfl) (fun _ _ _ e => e) ⟨_, ho⟩ ⟨P, ⟨_, ho⟩, fun h1 h2 p k => ?_⟩
  obtain ⟨j0, j1, j2, j3, u0, u1, u2, u3, n', ho', b⟩ := p
  exact ⟨j0, j1, j2, j3, u0, u1, u2, u3, n', k _ ho', b⟩
theorem upd_upd {o u : HO} : upd (upd H a o) a u = upd H a u := by
  funext b
  by_cases e : b = a
  · subst e; rw [upd_same, upd_same]
  · rw [upd_ne e, upd_ne e, upd_ne e]
theorem upd_id {o : HO} (h : H a = some o) : upd H a o = H := by
  funext b
  by_cases e : b = a
  · subst e; rw [upd_same, h]
  · rw [upd_ne e]
def PB (k : Nat) (m : Nat) (z : Int) : Prop := match k with
  | 0 => 0 ≤ z ∧ z < B0
  | 1 => 0 ≤ z ∧ z < 2147483629
  | 2 => 0 ≤ z ∧ z ≤ m
  | _ => 0 ≤ z ∧ z ≤ 64
/-- purse[k] -/
def rPu (k : Nat) : R2 := fun x y H Q => ∃ a m, x = .ref a ∧ y = .int (k : Int) ∧ H a = some (purseO a m) ∧ ∀ z, PB k m z → Q (.int z) H
theorem ix_pu {k : Nat} (hk : k < 4) : IxR X (rPu k) := by
  intro value slice pins s σ H x y v u Q I rx ry h hs
  obtain ⟨a, m, rfl, rfl, ha, q⟩ := h
  obtain ⟨i0, i1, i2, i3, b0, b1, b2, b3, I'⟩ := purse_open I ha
  have back : ∀ s', Inv X pins σ (upd H a (.lst [.int i0, .int i1, .int i2, .int i3])) s' → Inv X pins σ H s' := fun s' J => by
    have z := purse_close (m := m) J upd_same b0 b1 b2 b3
    rw [upd_upd, upd_id ha] at z
    exact z
  obtain ⟨z, hz, hb⟩ : ∃ z, atI [V.int i0, .int i1, .int i2, .int i3] (k : Int) = some (.int z) ∧ PB k m z := by
    rcases (show k = 0 ∨ k = 1 ∨ k = 2 ∨ k = 3 by omega) with e | e | e | e
    · subst e; exact ⟨i0, rfl, b0⟩
    · subst e; exact ⟨i1, rfl, b1⟩
    · subst e; exact ⟨i2, rfl, b2⟩
    · subst e; exact ⟨i3, rfl, b3⟩
  refine thn (ix_list value slice pins s σ _ (.ref a) (.int (k : Int)) v u (fun w H2 => w = .int z ∧ H2 = upd H a (.lst [.int i0, .int i1, .int i2, .int i3])) I' rx ry ⟨a, _, k, .int z, rfl, rfl, .of upd_same, hz, rfl, rfl⟩ hs) fun w s' ⟨w', H2, J, rw', e1, e2⟩ => ?_
  subst e1; subst e2
  exact ⟨.int z, H, back s' J, rw', q z hb⟩
/-- purse[k] = z -/
def tPu (k : Nat) : TSet := fun o i v H Q => ∃ a m m' z, o = .ref a ∧ i = .int (k : Int) ∧ v = .int z ∧ H a = some (purseO a m) ∧ m ≤ m' ∧ PB k m' z ∧ Q (upd H a (purseO a m'))
theorem set_pu {k : Nat} (hk : k < 4) : PSet X (tPu k) := by
  intro pins s σ H o i v ov iv u Q I ro ri rv h
  obtain ⟨a, m, m', z, rfl, rfl, rfl, ha, hm, hb, q⟩ := h
  obtain ⟨i0, i1, i2, i3, b0, b1, b2, b3, I'⟩ := purse_open I ha
  have b2' : 0 ≤ i2 ∧ i2 ≤ m' := by omega
  refine thn (set_list pins s σ _ (.ref a) (.int (k : Int)) (.int z) ov iv u (fun H2 => H2 = upd (upd H a (.lst [.int i0, .int i1, .int i2, .int i3])) a (.lst ([V.int i0, .int i1, .int i2, .int i3].set k (.int z)))) I' ro ri rv ⟨a, [V.int i0, .int i1, .int i2, .int i3], k, k, rfl, rfl, upd_same, ?_, rfl⟩) fun _ s' ⟨H2, J, e2⟩ => ?_
  · rcases (show k = 0 ∨ k = 1 ∨ k = 2 ∨ k = 3 by omega) with e | e | e | e
    all_goals (subst e; rfl)
  · subst e2
    refine ⟨_, ?_, q⟩
    rw [upd_upd] at J
    have fin : ∀ j0 j1 j2 j3 : Int, [V.int i0, .int i1, .int i2, .int i3].set k (.int z) = [V.int j0, .int j1, .int j2, .int j3] → (0 ≤ j0 ∧ j0 < B0) → (0 ≤ j1 ∧ j1 < 2147483629) → (0 ≤ j2 ∧ j2 ≤ m') → (0 ≤ j3 ∧ j3 ≤ 64) → Inv X pins σ (upd H a (purseO a m')) s' := fun j0 j1 j2 j3 e c0 c1 c2 c3 => by
      rw [e] at J
      have z := purse_close (m := m') J upd_same c0 c1 c2 c3
      rw [upd_upd] at z
      exact z
    rcases (show k = 0 ∨ k = 1 ∨ k = 2 ∨ k = 3 by omega) with e | e | e | e
    · subst e; exact fin z i1 i2 i3 rfl hb b1 b2' b3
    · subst e; exact fin i0 z i2 i3 rfl b0 hb b2' b3
    · subst e; exact fin i0 i1 z i3 rfl b0 b1 hb b3
    · subst e; exact fin i0 i1 i2 z rfl b0 b1 b2' hb
end
section
variable {X : Cx} {B : Bs} {Γ : List Ent} {c c1 c2 : Nat} {e : Expr} {p p2 pos : Pos} {O : Out} {rest : List Stmt} {P : Int → Prop}
theorem purse_inj {a : Addr} {m q : Nat} (h : purseO a m = purseO a q) : q ≤ m := by
  have e : PurseAt a m = PurseAt a q := by unfold purseO at h; exact HO.ext.inj h
  let o : Obj := { cls := .type "list", data := .seq #[.int 0 0, .int 0 0, .int (q : Int) 0, .int 0 0] 0 }
  have hb : (0 : Int) < B0 := by rw [B0_eq]; decide
  have P : PurseAt a q { objs := Array.replicate (a + 1) o } := ⟨0, 0, q, 0, 0, 0, 0, 0, 0, by
    apply Heap.get?_some_iff.mpr
    exact ⟨by simp [o], rfl⟩, Int.le_refl _, hb, Int.le_refl _, by decide, by omega, Int.le_refl _, Int.le_refl _, by decide⟩
  rw [← e] at P
  obtain ⟨i0, i1, i2, i3, t0, t1, t2, t3, n, ho, b⟩ := P
  have g : (Array.replicate (a + 1) o)[a]? = some o := by simp [o]
  have g2 := (Heap.get?_some_iff.mp ho).1
  rw [g] at g2
  have g3 := Option.some.inj g2
  simp only [o, Obj.mk.injEq, Data.seq.injEq] at g3
  simp at g3
  omega
theorem den_pu {K : PySem.W.Frag} {n : Nat} {G H : Hp} {v : V} (vl : Val n G H) (h : Den K G v .pu) : ∃ a m0 m, v = .ref a ∧ G a = some (purseO a m0) ∧ H a = some (purseO a m) ∧ m ≤ n := by
  cases h with
  | @pu a m h =>
    obtain ⟨o', e, l⟩ := vl.sub a _ h
    obtain ⟨m', rfl⟩ := l.pu
    exact ⟨a, m, m', rfl, h, e, vl.pb a m' e⟩
/-- purse[k], read -/
theorem ev_pu (i k : Nat) {x : Str} {j : Nat} (hΓ : Γ[i]? = some (.sh .pu)) (hk : k < 4) (hN : X.N[i]? = some x := by rfl) (hv : Vis X.env.scope x := by first | exact Or.inl rfl | exact Or.inr (Or.inl rfl) | exact Or.inr (Or.inr rfl)) (hd : (x == ("__debug__" : Str)) = false := by decide) (hcd : (x == ("__classdict__" : Str)) = false := by decide) :
    Ev X B Γ 0 (.Subscript (.Name x p) (.Constant (.int (k : Int)) j p2) pos) (Sp fun d => ∃ z, PB k LIM z ∧ d = dt z) :=
  pe_mono (pe_ix (ix_pu hk) (pe_var hN hv hd hcd) pe_int (fun _ _ => rfl)) fun σ H Q ⟨n, G, pr, kk⟩ => by
    obtain ⟨v, h1, h2⟩ := pr.ok.sh i _ hΓ
    obtain ⟨a, m0, m, rfl, g, hh, hm⟩ := den_pu pr.val h2
    have hn : n ≤ LIM := by have := pr.lim; omega
    refine ⟨_, h1, a, m, rfl, rfl, hh, fun z hz => kk _ H G n _ (Nat.le_refl _) (.refl G H) pr.val ⟨dt z, ⟨z, ?_, rfl⟩, rfl⟩ (.sh (.py (.int z)))⟩
    rcases (show k = 0 ∨ k = 1 ∨ k = 2 ∨ k = 3 by omega) with e | e | e | e
    · subst e; exact hz
    · subst e; exact hz
    · subst e; exact ⟨hz.1, Int.le_trans hz.2 (by exact_mod_cast Nat.le_trans hm hn)⟩
    · subst e; exact hz
theorem pu_step {n m m' : Nat} {G H : Hp} {a : Addr} {m0 : Nat} (v : Val n G H) (g : G a = some (purseO a m0)) (h : H a = some (purseO a m)) (hm : m' ≤ n + c) : Ste G H G (upd H a (purseO a m')) ∧ Val (n + c) G (upd H a (purseO a m')) := by
  refine ⟨⟨.refl G, fun b o e => ?_, fun b _ hb _ _ => hb⟩, ⟨fun b o e => ?_, fun b q e => ?_, mm_write h (id : ¬ IsTp (purseO a m)) (fun k => purse_ne_mem) v⟩⟩
  · by_cases z : b = a
    · subst z; rw [h] at e; cases e; exact ⟨_, upd_same, .purse _ _⟩
    · exact ⟨o, by rw [upd_ne z]; exact e, .refl o⟩
  · by_cases z : b = a
    · subst z; rw [g] at e; cases e; exact ⟨_, upd_same, .purse _ _⟩
    · obtain ⟨o', e', l⟩ := v.sub b o e
      exact ⟨o', by rw [upd_ne z]; exact e', l⟩
  · by_cases z : b = a
    · subst z; rw [upd_same] at e
      have := purse_inj (Option.some.inj e)
      omega
    · rw [upd_ne z] at e; exact Nat.le_trans (v.pb b q e) (Nat.le_add_right _ _)
end
end DL
end

section
set_option Elab.async false
set_option linter.all false
set_option maxRecDepth 100000
set_option maxHeartbeats 4000000
set_option autoImplicit false
/-! DlW: statements on purses; numbers that are known by a property. -/
namespace DL
open PySem PySem.Spec PyProof.Rows L2 PySem.W PySem.SeqAt
variable [Wd]
/-- a whole number with P; data of a type with P -/
def Rt {α : Type} [DecidableEq α] [Datum α] (P : α → Prop) : Ent → Prop := Sp fun d => ∃ z : α, P z ∧ d = dt z
section
variable {X : Cx} {B : Bs} {Γ : List Ent} {c c0 c1 c2 c3 : Nat} {a b e t : Expr} {p p2 p3 pos : Pos} {O : Out} {rest body : List Stmt} {P P1 P2 : Int → Prop} {α β : Type} [DecidableEq α] [Datum α] [DecidableEq β] [Datum β]
theorem rt_of {z : α} (h : Ev X B Γ c e (Sd (dt z))) : Ev X B Γ c e (Rt fun x => x = z) := ev_weak h (fun r q => ⟨dt z, ⟨z, rfl, rfl⟩, q⟩) (Nat.le_refl _)
theorem rt_imp {P P' : α → Prop} (h : Ev X B Γ c e (Rt P)) (k : ∀ z, P z → P' z) : Ev X B Γ c e (Rt P') := ev_weak h (fun r ⟨d, ⟨z, h1, h2⟩, q⟩ => ⟨d, ⟨z, k z h1, h2⟩, q⟩) (Nat.le_refl _)
theorem ev_opR {op : Operator} {C : Int → Int → Prop} {g : Int → Int → Int} (ho : OpR X (binaryOp op) (rI C fun i j => .int (g i j))) (ha : Ev X B Γ c1 a (Rt P1)) (hb : Ev X B Γ c2 b (Rt P2)) (hc : ∀ i j, P1 i → P2 j → C i j ∧ P (g i j)) : Ev X B Γ (c1 + c2) (.BinOp a op b pos) (Rt P) :=
  ev_op2N ho ha hb fun d1 d2 ⟨i, hi, e1⟩ ⟨j, hj, e2⟩ => by
    subst e1; subst e2
    intro n G H x y Q vl h1 h2 k
    exact ⟨i, j, dp_int h1.dp, dp_int h2.dp, (hc i j hi hj).1, k _ H G _ (.refl G H) vl ⟨_, ⟨_, (hc i j hi hj).2, rfl⟩, rfl⟩ (.sh (.py (.int _)))⟩
theorem ev_opR0 {op : Operator} {g : Int → Int → Int} (ho : OpR X (binaryOp op) (rI0 fun i j => .int (g i j))) (ha : Ev X B Γ c1 a (Rt P1)) (hb : Ev X B Γ c2 b (Rt P2)) (hc : ∀ i j, P1 i → P2 j → P (g i j)) : Ev X B Γ (c1 + c2) (.BinOp a op b pos) (Rt P) :=
  ev_op2N ho ha hb fun d1 d2 ⟨i, hi, e1⟩ ⟨j, hj, e2⟩ => by
    subst e1; subst e2
    intro n G H x y Q vl h1 h2 k
    exact ⟨i, j, dp_int h1.dp, dp_int h2.dp, k _ H G _ (.refl G H) vl ⟨_, ⟨_, hc i j hi hj, rfl⟩, rfl⟩ (.sh (.py (.int _)))⟩
theorem ev_int1R (hm : X.mg "int" = none) (ha : Ev X B Γ c1 a (Rt P)) (hg : Gl X "int" := by rfl) (h1 : starEach [a] X.env = (false, eval a X.env) :: starEach [] X.env := by rfl) (h3 : (backTo pos (starEach [] X.env)).any (·.1) = false := by rfl) :
    Ev X B Γ (c1 + 0) (.Call (.Name "int" p) [a] [] pos) (Rt P) := ev_callTyN call_int1 hm (av_consN ha av_nil h1) (fun ds ⟨d, r, e1, ⟨z, hz, e2⟩, e3⟩ => by
    subst e1; subst e2; subst e3
    intro n G H vs Q vl hd k
    obtain ⟨v, rfl, g1⟩ := denAll1 hd
    rw [dp_int g1.dp]
    exact .inl ⟨z, rfl, k _ H G _ (.refl G H) vl ⟨_, ⟨z, hz, rfl⟩, rfl⟩ (.sh (.py (.int _)))⟩) hg (by decide +kernel) (by decide) (by decide) h1 h3
theorem tv_gtR (hu : Hu X) (ha : Ev X B Γ c1 a (Rt P1)) (hb : Ev X B Γ c2 b (Rt P2)) : Tv X B Γ (c1 + c2) (.Compare a [.Gt] [b] pos) (fun _ => True) :=
  tv_cmpN (ro_gt (α := Int) hu) (nobehind _ (by decide) (by decide)) ha hb fun d1 d2 ⟨i, hi, e1⟩ ⟨j, hj, e2⟩ => by
    subst e1; subst e2
    exact fun n G H u v Q vl h1 h2 k => ok_B n G H u v Q vl h1 h2 fun v' H' G' r' st v2 hS hr => k v' H' G' r' st v2 ⟨_, ⟨_, rfl, trivial⟩, hS⟩ hr
theorem tv_eqR {P1 P2 : α → Prop} (hu : Hu X) (ha : Ev X B Γ c1 a (Rt P1)) (hb : Ev X B Γ c2 b (Rt P2)) (hd : Datum.depth α ≤ 64 := by decide) : Tv X B Γ (c1 + c2) (.Compare a [.Eq] [b] pos) (fun _ => True) :=
  tv_cmpN (opr_B (g := fun (x : α) (y : α) => decide (x = y)) fun s v u a b Q E h1 h2 q => eq_datum h1 h2 (by have : X.A.units + 64 < cLine := hu; omega) q) (nobehind _ (by decide) (by decide)) ha hb fun d1 d2 ⟨i, hi, e1⟩ ⟨j, hj, e2⟩ => by
    subst e1; subst e2
    exact fun n G H u v Q vl h1 h2 k => ok_B n G H u v Q vl h1 h2 fun v' H' G' r' st v2 hS hr => k v' H' G' r' st v2 ⟨_, ⟨_, rfl, trivial⟩, hS⟩ hr
/-- x = e, e known by a property -/
theorem sv_setR (i : Nat) {x : Str} {P : α → Prop} (nd : X.N.Nodup) (h : Ev X B Γ c1 e (Rt P)) (k : ∀ z, P z → Sv X B (Γ.set i (.sh (dt z))) c2 rest O) (hi : X.N[i]? = some x := by rfl) (hx : Loc X.env.scope x := by first | exact Or.inl rfl | exact Or.inr rfl) (hs : swapsWithSole [.Name x p2] e pos.line X.env = pure false := by rfl) (hw : swappedStores [.Name x p2] e X.env = pure none := by rfl)
    (h1 : (assignEach [.Name x p2] X.env).map (·.2) = [assign (.Name x p2) X.env] := by rfl) (hf : X.fn x = true ∨ X.env.scope.names.lookup x = some .local := by first | exact .inl rfl | exact .inr rfl) : Sv X B Γ (c1 + c2) (.Assign [.Name x p2] e pos :: rest) O :=
  sv_set i nd h (fun r ⟨d, ⟨z, hz, e1⟩, e2⟩ => by rw [e2, e1]; exact k z hz) hi hx hs hw h1 hf
/-- purse[0] = e -/
theorem sv_pu0 (i : Nat) {x : Str} {j : Nat} (hΓ : Γ[i]? = some (.sh .pu)) (h : Ev X B Γ c1 e (Rt fun z => 0 ≤ z ∧ z < B0)) (k : Sv X B Γ c2 rest O) (hN : X.N[i]? = some x := by rfl) (hv : Vis X.env.scope x := by first | exact Or.inl rfl | exact Or.inr (Or.inl rfl) | exact Or.inr (Or.inr rfl)) (hd : (x == ("__debug__" : Str)) = false := by decide) (hcd : (x == ("__classdict__" : Str)) = false := by decide)
    (hs : swapsWithSole [.Subscript (.Name x p) (.Constant (.int 0) j p2) p3] e pos.line X.env = pure false := by rfl) (hw : swappedStores [.Subscript (.Name x p) (.Constant (.int 0) j p2) p3] e X.env = pure none := by rfl)
    (h1 : (assignEach [.Subscript (.Name x p) (.Constant (.int 0) j p2) p3] X.env).map (·.2) = [assign (.Subscript (.Name x p) (.Constant (.int 0) j p2) p3) X.env] := by rfl)
    (ha : ∀ v, assign (.Subscript (.Name x p) (.Constant (.int 0) j p2) p3) X.env v = (do
      let ov ← holding [v] (eval (.Name x p) X.env)
      let iv ← holding [v, ov] (eval (.Constant (.int 0) j p2) X.env)
      standAt p3
      holding [v, ov, iv] (setItem ov iv v)
      release [v, ov, iv] []) := by intro _; rfl) : Sv X B Γ (c1 + c2) (.Assign [.Subscript (.Name x p) (.Constant (.int 0) j p2) p3] e pos :: rest) O :=
  sv_cons (N := fun Γ' => Γ' = Γ) (ps_mono (ps_asg h (pg_sub (pe_var hN hv hd hcd) pe_int (set_pu (k := 0) (by decide)) ha) hs hw h1) fun D σ H ⟨n, G, pr, k1, k2, k3, k4⟩ => ⟨n, G, pr, fun v H1 G1 n1 r hn st vl hS hr => by
    obtain ⟨d, ⟨z, hz, rfl⟩, rfl⟩ := hS
    cases hr with | sh den =>
    have p1 := pr.ok.step st
    obtain ⟨v0, e1, e2⟩ := p1.sh i _ hΓ
    obtain ⟨ad, m0, m, rfl, g, hh, hm⟩ := den_pu vl e2
    obtain ⟨s2, v2⟩ := pu_step (c := 0) (m' := m) vl g hh (by omega)
    rw [dp_int den.dp]
    exact ⟨_, e1, ad, m, m, z, rfl, rfl, rfl, hh, Nat.le_refl _, hz, k1.go Γ σ _ G1 n1 rfl hn (p1.step s2) v2 ((pr.ste.trans st).trans s2) st.g⟩⟩) fun Γ' q => by subst q; exact k
/-- purse[2] = purse[2] + 1 -/
theorem sv_puInc (i : Nat) {x : Str} {j j2 j3 : Nat} {q1 q2 q3 q4 q5 : Pos} (hΓ : Γ[i]? = some (.sh .pu)) (k : Sv X B Γ c2 rest O) (hN : X.N[i]? = some x := by rfl) (hv : Vis X.env.scope x := by first | exact Or.inl rfl | exact Or.inr (Or.inl rfl) | exact Or.inr (Or.inr rfl)) (hd : (x == ("__debug__" : Str)) = false := by decide) (hcd : (x == ("__classdict__" : Str)) = false := by decide)
    (hs : swapsWithSole [.Subscript (.Name x p) (.Constant (.int 2) j p2) p3] (.BinOp (.Subscript (.Name x q1) (.Constant (.int 2) j2 q2) q3) .Add (.Constant (.int 1) j3 q4) q5) pos.line X.env = pure false := by rfl) (hw : swappedStores [.Subscript (.Name x p) (.Constant (.int 2) j p2) p3] (.BinOp (.Subscript (.Name x q1) (.Constant (.int 2) j2 q2) q3) .Add (.Constant (.int 1) j3 q4) q5) X.env = pure none := by rfl)
    (h1 : (assignEach [.Subscript (.Name x p) (.Constant (.int 2) j p2) p3] X.env).map (·.2) = [assign (.Subscript (.Name x p) (.Constant (.int 2) j p2) p3) X.env] := by rfl)
    (ha : ∀ v, assign (.Subscript (.Name x p) (.Constant (.int 2) j p2) p3) X.env v = (do
      let ov ← holding [v] (eval (.Name x p) X.env)
      let iv ← holding [v, ov] (eval (.Constant (.int 2) j p2) X.env)
      standAt p3
      holding [v, ov, iv] (setItem ov iv v)
      release [v, ov, iv] []) := by intro _; rfl) : Sv X B Γ (1 + c2) (.Assign [.Subscript (.Name x p) (.Constant (.int 2) j p2) p3] (.BinOp (.Subscript (.Name x q1) (.Constant (.int 2) j2 q2) q3) .Add (.Constant (.int 1) j3 q4) q5) pos :: rest) O :=
  sv_cons (N := fun Γ' => Γ' = Γ) (ps_mono (ps_asg (pe_op op_add (pe_ix (ix_pu (k := 2) (by decide)) (pe_var hN hv hd hcd) pe_int (fun _ _ => rfl)) pe_int) (pg_sub (pe_var hN hv hd hcd) pe_int (set_pu (k := 2) (by decide)) ha) hs hw h1) fun D σ H ⟨n, G, pr, k1, k2, k3, k4⟩ => by
    obtain ⟨v0, e1, e2⟩ := pr.ok.sh i _ hΓ
    obtain ⟨ad, m0, m, rfl, g, hh, hm⟩ := den_pu pr.val e2
    refine ⟨_, e1, ad, m, rfl, rfl, hh, fun z hz => ⟨z, 1, rfl, rfl, _, e1, ad, m, m + 1, z + 1, rfl, rfl, rfl, hh, Nat.le_succ _, ⟨?_, ?_⟩, ?_⟩⟩
    · have := hz.1; omega
    · have := hz.2; omega
    · obtain ⟨s2, v2⟩ := pu_step (c := 1) (m' := m + 1) pr.val g hh (by omega)
      exact k1.go Γ σ _ G (n + 1) rfl (Nat.le_refl _) (pr.ok.step s2) v2 (pr.ste.trans s2) (.refl G)) fun Γ' q => by subst q; exact k
/-- a new list of four becomes a purse -/
theorem ev_newPu {i0 i1 i2 i3 : Int} (h : Ev X B Γ c e (So (dt [i0, i1, i2, i3]))) (b0 : 0 ≤ i0 ∧ i0 < B0) (b1 : 0 ≤ i1 ∧ i1 < 2147483629) (b2 : i2 = 0) (b3 : 0 ≤ i3 ∧ i3 ≤ 64) : Ev X B Γ c e (Sd .pu) := by
  refine ⟨fun pins s σ H Q I ⟨n, G, pr, k⟩ => ?_⟩
  refine thn (h.run pins s σ H (fun v H1 => ∃ G1 n1 a, n1 ≤ n + c ∧ Ste G H G1 H1 ∧ Val n1 G1 H1 ∧ v = .ref a ∧ H a = none ∧ G1 a = none ∧ H1 a = some (.lst [.int i0, .int i1, .int i2, .int i3])) I ⟨n, G, pr, fun v H1 G1 n1 r hn st vl hS hr => ?_⟩) fun v s1 ⟨x, H1, I1, r1, G1, n1, ad, hn, st, vl, e1, n0, g0, h1⟩ => ?_
  · cases hS
    generalize er : Ent.ow (dt [i0, i1, i2, i3]) = r at hr
    cases hr with
    | sh _ => cases er
    | @ow a o d h1 h2 h3 h4 =>
      injection er with er
      subst er
      obtain ⟨vs, rfl, hd⟩ := own_list h4
      refine ⟨G1, n1, a, hn, st, vl, rfl, h1, h2, ?_⟩
      rw [dq_ints hd] at h3
      exact h3
  · subst e1; subst b2
    have J := purse_close (m := 0) I1 h1 b0 b1 ⟨Int.le_refl _, Int.le_refl _⟩ b3
    refine ⟨.ref ad, _, J, r1, k _ (upd H1 ad (purseO ad 0)) (upd G1 ad (purseO ad 0)) n1 _ hn ?_ ?_ rfl (.sh (.pu upd_same))⟩
    · refine ⟨fun b o e => ?_, fun b o e => ?_, fun b u q1 q2 q3 => ?_⟩
      · obtain ⟨o', e', l⟩ := st.g b o e
        exact ⟨o', by rw [upd_ne (ne_of_none e' g0)]; exact e', l⟩
      · obtain ⟨o', e', l⟩ := st.h b o e
        exact ⟨o', by rw [upd_ne (ne_of_none e n0)]; exact e', l⟩
      · have : b ≠ ad := fun z => by subst z; rw [n0] at q2; cases q2
        rw [upd_ne this]; exact st.f b u q1 q2 q3
    · refine ⟨fun b o e => ?_, fun b m e => ?_, fun b t e => mm_write h1 (id : ¬ IsTp (.lst [.int _, .int _, .int _, .int _])) (fun k => by intro z; cases z) vl b t (by
        have : b ≠ ad := fun z => by subst z; rw [upd_same] at e; cases e
        rw [upd_ne this] at e; exact e)⟩
      · by_cases z : b = ad
        · subst z; rw [upd_same] at e; cases e; exact ⟨_, upd_same, .refl _⟩
        · rw [upd_ne z] at e
          obtain ⟨o', e', l⟩ := vl.sub b o e
          exact ⟨o', by rw [upd_ne z]; exact e', l⟩
      · by_cases z : b = ad
        · subst z; rw [upd_same] at e
          exact Nat.le_trans (purse_inj (Option.some.inj e)) (Nat.zero_le _)
        · rw [upd_ne z] at e; exact vl.pb b m e
end
end DL
end

section
set_option Elab.async false
set_option linter.all false
set_option maxRecDepth 100000
set_option maxHeartbeats 4000000
set_option autoImplicit false
/-! ClA: words, literals, clauses by value. -/
namespace DL
open PySem PySem.Spec PyProof.Rows L2 PySem.W PySem.SeqAt
variable [Wd]
/-- list(x) -/
class PyListOf (α : Type) [DecidableEq α] [Datum α] (β : outParam Type) [DecidableEq β] [Datum β] where
  its : α → List β
  ok : α → Prop
  rule : ∀ {X : Cx} {B : Bs} {Γ : List Ent} {c : Nat} {e : Expr} {p pos : Pos} {x : α}, X.mg "list" = none → ok x → Ev X B Γ c e (Sd (dt x)) → Gl X "list" → starEach [e] X.env = (false, eval e X.env) :: starEach [] X.env → (backTo pos (starEach [] X.env)).any (·.1) = false → Ev X B Γ (c + 0) (.Call (.Name "list" p) [e] [] pos) (So (dt (its x)))
instance {α : Type} [DecidableEq α] [Datum α] : PyListOf (List α) α := ⟨fun xs => xs, fun _ => True, fun hm _ ha hg h1 h2 => ev_listOf hm ha hg h1 h2⟩
instance {α : Type} [DecidableEq α] [Datum α] : PyListOf (Tup α) α := ⟨fun xs => xs.items, fun _ => True, fun hm _ ha hg h1 h2 => ev_listOfT hm ha hg h1 h2⟩
theorem py_listOf {X : Cx} {B : Bs} {Γ : List Ent} {c : Nat} {e : Expr} {p pos : Pos} {α β : Type} [DecidableEq α] [Datum α] [DecidableEq β] [Datum β] [i : PyListOf α β] {x : α} (hc : X.calm = true) (hm : X.mg "list" = none) (h : Ev X B Γ c e (Sd (dt x))) (ho : i.ok x) (hg : Gl X "list" := by rfl) (h1 : starEach [e] X.env = (false, eval e X.env) :: starEach [] X.env := by rfl) (h2 : (backTo pos (starEach [] X.env)).any (·.1) = false := by rfl) :
    Ev X B Γ (c + 0) (.Call (.Name "list" p) [e] [] pos) (So (dt (i.its x))) := i.rule hm ho h hg h1 h2
/-! ### sizes, places -/
theorem sz_of {n : Nat} (h : n ≤ 16777216) : n ≤ sizeLine := by rw [sizeLine_eq]; exact h
theorem mem_up {x lo : Int} {n : Nat} : x ∈ upFrom lo n ↔ lo ≤ x ∧ x < lo + n := by
  unfold upFrom
  rw [List.mem_map]
  constructor
  · rintro ⟨i, hi, rfl⟩
    have := List.mem_range.mp hi
    omega
  · rintro ⟨h1, h2⟩
    exact ⟨(x - lo).toNat, List.mem_range.mpr (by omega), by omega⟩
theorem atI_nat {α : Type} {xs : List α} {i : Nat} : atI xs (i : Int) = xs[i]? := by
  unfold atI ixN
  rw [if_pos (by omega)]
  by_cases h : (i : Int) < xs.length
  · rw [if_pos h]; rfl
  · rw [if_neg h, List.getElem?_eq_none (by omega)]; rfl
theorem atI_of {α : Type} {xs : List α} {k : Int} (h : 0 ≤ k) : atI xs k = xs[k.toNat]? := by
  obtain ⟨n, rfl⟩ := Int.eq_ofNat_of_zero_le h
  rw [atI_nat]; rfl
section
variable {α : Type} [DecidableEq α] [Datum α]
theorem get_L {xs : List α} {k : Int} : PyIx.get xs k = atI xs k := rfl
theorem get_T {xs : Tup α} {k : Int} : PyIx.get xs k = atI xs.items k := rfl
theorem some_L {xs : List α} {k : Int} (h : 0 ≤ k ∧ k < xs.length) : (PyIx.get xs k).isSome = true := by
  rw [get_L, atI_of h.1, List.getElem?_eq_getElem (by omega)]; rfl
theorem some_T {xs : Tup α} {k : Int} (h : 0 ≤ k ∧ k < xs.items.length) : (PyIx.get xs k).isSome = true := some_L (xs := xs.items) h
theorem ixD_L [Inhabited α] {xs : List α} {i : Nat} {x : α} (h : xs[i]? = some x) : ixD xs (i : Int) = x := by
  unfold ixD
  rw [get_L, atI_nat, h]; rfl
theorem ixD_T [Inhabited α] {xs : Tup α} {k : Int} : ixD xs k = ixD xs.items k := rfl
end
/-- as the program asks whether things rise -/
def riseB {α : Type} [DecidableEq α] [DatumOrd α] (xs : List α) : Bool := (List.range (xs.length - 1)).all fun i => match xs[i]?, xs[i + 1]? with
  | some x, some y => DatumOrd.lt x y
  | _, _ => false
theorem rise_up {α : Type} [DecidableEq α] [DatumOrd α] [Inhabited α] (xs : List α) : (List.map (fun k => DatumOrd.lt (ixD xs (k - 1)) (ixD xs k)) (upFrom 1 (((xs.length : Nat) : Int) - 1).toNat)).all id = riseB xs := by
  unfold riseB upFrom
  rw [List.map_map, List.all_map]
  have e : (((xs.length : Nat) : Int) - 1).toNat = xs.length - 1 := by omega
  rw [e, Bool.eq_iff_iff, List.all_eq_true, List.all_eq_true]
  refine forall_congr' fun i => ⟨fun h hi => ?_, fun h hi => ?_⟩
  all_goals
    have hl := List.mem_range.mp hi
    have h1 : xs[i]? = some xs[i] := List.getElem?_eq_getElem (by omega)
    have h2 : xs[i + 1]? = some xs[i + 1] := List.getElem?_eq_getElem (by omega)
    have q := h hi
    have e1 : ixD xs ((1 : Int) + (i : Nat) - 1) = xs[i] := by rw [show (1 : Int) + (i : Nat) - 1 = ((i : Nat) : Int) by omega]; exact ixD_L h1
    have e2 : ixD xs ((1 : Int) + (i : Nat)) = xs[i + 1] := by rw [show (1 : Int) + (i : Nat) = ((i + 1 : Nat) : Int) by omega]; exact ixD_L h2
    simp only [Function.comp, id, e1, e2, h1, h2] at q ⊢
    exact q
theorem riseB_iff {α : Type} [DecidableEq α] [DatumOrd α] : ∀ (xs : List α), riseB xs = true ↔ Rise xs := by
  intro xs
  have key : riseB xs = true ↔ ∀ i (h : i + 1 < xs.length), DatumOrd.lt xs[i] xs[i + 1] = true := by
    unfold riseB
    rw [List.all_eq_true]
    constructor
    · intro h i hi
      have q := h i (List.mem_range.mpr (by omega))
      rw [List.getElem?_eq_getElem (show i < xs.length by omega), List.getElem?_eq_getElem hi] at q
      exact q
    · intro h i hi
      have hl := List.mem_range.mp hi
      rw [List.getElem?_eq_getElem (show i < xs.length by omega), List.getElem?_eq_getElem (show i + 1 < xs.length by omega)]
      exact h i (by omega)
  rw [key]
  clear key
  induction xs with
  | nil => exact ⟨fun _ => List.Pairwise.nil, fun _ i h => absurd h (by simp)⟩
  | cons x xs ih =>
    constructor
    · intro h
      have ht := ih.mp fun i hi => h (i + 1) (by simpa using hi)
      refine List.pairwise_cons.mpr ⟨fun y hy => ?_, ht⟩
      cases xs with
      | nil => simp at hy
      | cons z zs =>
        have h0 := h 0 (by simp)
        rcases List.mem_cons.mp hy with e | e
        · rw [e]; exact h0
        · exact ord_tra h0 ((List.pairwise_cons.mp ht).1 y e)
    · intro h i hi
      obtain ⟨h1, h2⟩ := List.pairwise_cons.mp h
      cases i with
      | zero => exact h1 _ (List.getElem_mem _)
      | succ i => exact (ih.mpr h2) i (by simpa using hi)
/-! ### tests -/
theorem isa_str (x : Str) : isaD "str" (dt x) = true := by show (kitB "str" "str").getD false = true; decide +kernel
theorem isa_list {α : Type} [DecidableEq α] [Datum α] (x : List α) : isaD "list" (dt x) = true := by show (kitB "list" "list").getD false = true; decide +kernel
theorem isa_tup {α : Type} [DecidableEq α] [Datum α] (x : Tup α) : isaD "tuple" (dt x) = true := by show (kitB "tuple" "tuple").getD false = true; decide +kernel
theorem isa_dict {α : Type} [DecidableEq α] [Datum α] (x : List (Str × α)) : isaD "dict" (mpS x) = true := by show (kitB "dict" "dict").getD false = true; decide +kernel
theorem all_id {α : Type} {xs : List α} {f : α → Bool} : (xs.map f).all id = xs.all f := by rw [List.all_map]; rfl
theorem or_no {t a b : Bool} (ht : t = true) (h : (!t || !a) = true) : false = (a && b) := by subst ht; cases a <;> simp_all
theorem or_yes {t a b c : Bool} (ht : t = true) (h : (!t || !a) = false) (e : c = b) : c = (a && b) := by subst ht; cases a <;> simp_all
theorem and_t {t a b : Bool} (ht : t = true) (e : a = b) : (t && a) = b := by subst ht; exact e
theorem or_pass {t a : Bool} (ht : t = true) (ha : a = true) : (!t || !a) = false := by subst ht; subst ha; rfl
theorem not_pass {a : Bool} (ha : a = true) : (!a) = false := by subst ha; rfl
theorem all_lit {α : Type} {xs : List α} {f : α → Bool} (h : ∀ x ∈ xs, f x = true) : (xs.map f).all id = true := by rw [all_id, List.all_eq_true]; exact h
/-! ### texts -/
abbrev minus : Str := "-"
def letter (l : Str) : Bool := !DatumOrd.lt l ("a" : Str) && !DatumOrd.lt ("z" : Str) l
def isWord (x : Str) : Bool := (decide ((0 : Int) < (x.length : Int)) && decide ((x.length : Int) < 9)) && (signs x).all letter
def isLit (x : Str) : Bool := isWord (bif decide (cutS x none (some 1) = minus) then cutS x (some 1) none else x)
def bareS (x : Str) : Str := bif decide (ixD x 0 = minus) then cutS x (some 1) none else x
def turnS (x : Str) : Str := bif decide (ixD x 0 = minus) then cutS x (some 1) none else minus ++ x
def unlikeB (xs : List Str) : Bool := decide ((once (xs.map bareS)).length = xs.length)
def isCl (xs : List Str) : Bool := xs.all isLit && (riseB xs && unlikeB xs)
def clash (one other : List Str) : List Str := srt ((one.filter fun l => decide (turnS l ∈ other)).map bareS)
def GoodL (x : Str) : Prop := isLit x = true ∧ x.length ≤ 9
structure GoodC (c : Tup Str) : Prop where
  lit : ∀ l ∈ c.items, GoodL l
  rise : Rise c.items
  unl : (c.items.map bareS).Nodup
  few : c.items.length ≤ 100
def meet (one other : List Str) : Option Str := bif decide ((clash one other).length = 1) then (clash one other)[0]? else none
theorem len_str (x : Str) : x.length = x.cps.toList.length := by show x.cps.size = _; rw [Array.length_toList]
theorem str_ext {x y : Str} (h : x.cps.toList = y.cps.toList) : x = y := str_of_cps h
theorem cut_tail (x : Str) : (cutS x (some 1) none).cps.toList = x.cps.toList.drop 1 := by
  unfold cutS
  rw [List.toList_toArray, len_str, HT.sIx_none, show (some (1 : Int)) = some ((1 : Nat) : Int) from rfl, HT.sIx_nat]
  by_cases h : 1 ≤ x.cps.toList.length
  · rw [Nat.min_eq_left h, List.take_of_length_le (by rw [List.length_drop]; exact Nat.le_refl _)]
  · have : x.cps.toList.length = 0 := by omega
    rw [List.eq_nil_of_length_eq_zero this]; rfl
theorem cut_head (x : Str) : (cutS x none (some 1)).cps.toList = x.cps.toList.take 1 := by
  unfold cutS
  rw [List.toList_toArray, len_str, HT.sIx_none, show (some (1 : Int)) = some ((1 : Nat) : Int) from rfl, HT.sIx_nat, List.drop_zero, Nat.sub_zero]
  by_cases h : 1 ≤ x.cps.toList.length
  · rw [Nat.min_eq_left h]
  · have : x.cps.toList.length = 0 := by omega
    rw [List.eq_nil_of_length_eq_zero this]; rfl
theorem get_S {x : Str} {k : Int} : PyIx.get x k = (atI x.cps.toList k).map fun k => (⟨#[k]⟩ : Str) := rfl
theorem some_S {x : Str} {k : Int} (h : 0 ≤ k ∧ k < x.length) : (PyIx.get x k).isSome = true := by
  rw [get_S, atI_of h.1, List.getElem?_eq_getElem (by rw [← len_str]; omega)]; rfl
theorem head_S {x : Str} (h : 0 < x.length) : ixD x 0 = cutS x none (some 1) := by
  apply str_ext
  rw [cut_head]
  unfold ixD
  rw [get_S, show (0 : Int) = ((0 : Nat) : Int) from rfl, atI_nat]
  have hl : 0 < x.cps.toList.length := by rw [← len_str]; exact h
  obtain ⟨a, r, q⟩ : ∃ a r, x.cps.toList = a :: r := by
    cases q : x.cps.toList with
    | nil => rw [q] at hl; exact absurd hl (by simp)
    | cons a r => exact ⟨a, r, rfl⟩
  rw [q]
  rfl
theorem cut_len (x : Str) : (cutS x (some 1) none).length = x.length - 1 := by rw [len_str, cut_tail, List.length_drop, ← len_str]
theorem word_len {x : Str} (h : isWord x = true) : 0 < x.length ∧ x.length < 9 := by
  unfold isWord at h
  simp only [Bool.and_eq_true, decide_eq_true_eq] at h
  omega
theorem lit_len {x : Str} (h : isLit x = true) : 0 < x.length := by
  unfold isLit at h
  have := word_len h
  cases q : decide (cutS x none (some 1) = minus) with
  | true =>
    rw [q] at this
    have h2 := cut_len x
    simp only [cond_true] at this
    omega
  | false => rw [q] at this; exact this.1
theorem GoodL.len {x : Str} (h : GoodL x) : 0 < x.length ∧ x.length ≤ 1000 := ⟨lit_len h.1, by have := h.2; omega⟩
theorem once_full : ∀ {xs : List Str}, xs.Nodup → (once xs).length = xs.length := fun h => (once_id h).length_eq
theorem GoodC.cl {c : Tup Str} (h : GoodC c) : isCl c.items = true := by
  unfold isCl unlikeB
  have h1 : c.items.all isLit = true := List.all_eq_true.mpr fun l hl => (h.lit l hl).1
  have h2 := (riseB_iff c.items).mpr h.rise
  have h3 : (once (c.items.map bareS)).length = c.items.length := by rw [once_full h.unl, List.length_map]
  rw [h1, h2, h3]; simp
theorem GoodC.len {c : Tup Str} (h : GoodC c) : ∀ l ∈ c.items, 0 < l.length ∧ l.length ≤ 1000 := fun l hl => (h.lit l hl).len
theorem unl_eq (xs : List Str) : decide ((((once (xs.map bareS)).length : Nat) : Int) = ((xs.length : Nat) : Int)) = unlikeB xs := by
  unfold unlikeB
  rw [Bool.eq_iff_iff]
  simp only [decide_eq_true_eq]
  exact Int.ofNat_inj
theorem all_or {t a b : Bool} (ht : t = true) (h : (!t || !a) = false) : a = true := by subst ht; cases a <;> simp_all
theorem map_keep {α : Type} {xs : List α} {f : α → Bool} : (List.map (fun x => x) (xs.filter f)) = xs.filter f := List.map_id _
theorem GoodC.n {c : Tup Str} (h : GoodC c) : c.items.length ≤ 1000 := by have := h.few; omega
theorem GoodC.z {c : Tup Str} (h : GoodC c) : ∀ l ∈ c.items, l.length ≤ 1000 := fun l hl => (h.len l hl).2
theorem sset_len (xs : List Str) : (sset xs).length ≤ xs.length := by unfold sset; rw [(srt_perm _).length_eq]; exact once_len xs
theorem clash_nil {a : List Str} (h : a = []) : (decide (a ≠ [])) = false := by rw [h]; rfl
theorem ev_iteO {X : Cx} {B : Bs} {Γ : List Ent} {c0 c1 : Nat} {t a : Expr} {j : Nat} {p2 pos : Pos} {α : Type} [DecidableEq α] [Datum α] [SomeDatum α] {p : Bool} {x : α} (ht : Tv X B Γ c0 t (fun r => r = p)) (ha : p = true → Ev X B Γ c1 a (Sd (dt x))) : Ev X B Γ (c0 + max c1 0) (.IfExp t a (.Constant .none j p2) pos) (Sd (dt (bif p then some x else none))) :=
  ev_ite (α := Option α) (x := some x) (y := none) ht ha (fun _ => ev_non)
theorem meet_eq (xs : List Str) : (bif decide (((xs.length : Nat) : Int) = 1) then some (ixD xs (0 : Int)) else none) = bif decide (xs.length = 1) then xs[0]? else none := by
  cases xs with
  | nil => rfl
  | cons x r =>
    cases r with
    | nil => rfl
    | cons y r =>
      have e1 : decide ((((x :: y :: r).length : Nat) : Int) = 1) = false := decide_eq_false (by simp only [List.length_cons]; omega)
      have e2 : decide ((x :: y :: r).length = 1) = false := decide_eq_false (by simp only [List.length_cons]; omega)
      rw [e1, e2]; rfl
theorem ev_cast {X : Cx} {B : Bs} {Γ : List Ent} {c : Nat} {e : Expr} {d' d : D} (h : d = d') (q : Ev X B Γ c e (Sd d)) : Ev X B Γ c e (Sd d') := by rw [← h]; exact q
theorem ev_nilL {X : Cx} {B : Bs} {Γ : List Ent} {pos : Pos} {α : Type} [DecidableEq α] [Datum α] : Ev X B Γ 0 (.List [] pos) (So (dt ([] : List α))) := ev_lst av_nil rfl (Nat.zero_le _)
theorem ev_nilT {X : Cx} {B : Bs} {Γ : List Ent} {pos : Pos} {k : Nat} {α : Type} [DecidableEq α] [Datum α] : Ev X B Γ 0 (.Tuple [] k pos) (Sd (dt (⟨[]⟩ : Tup α))) := ev_tup av_nil rfl (Nat.zero_le _)
theorem lit_pre {x : Str} (h : x.length ≤ 1000) : (bif decide (cutS x none (some 1) = minus) then cutS x (some 1) none else x).length ≤ 1000 := by
  cases decide (cutS x none (some 1) = minus) with
  | true => show (cutS x (some 1) none).length ≤ 1000; rw [cut_len]; omega
  | false => exact h
/-! ### dicts of words -/
theorem ev_lenD {X : Cx} {B : Bs} {Γ : List Ent} {c : Nat} {e : Expr} {p pos : Pos} {α : Type} [DecidableEq α] [Datum α] {kvs : List (Str × α)} (hm : X.mg "len" = none) (h : Ev X B Γ c e (Sd (mpS kvs))) (hg : Gl X "len" := by rfl) (h1 : starEach [e] X.env = (false, eval e X.env) :: starEach [] X.env := by rfl) (h2 : (backTo pos (starEach [] X.env)).any (·.1) = false := by rfl) :
    Ev X B Γ (c + 0) (.Call (.Name "len" p) [e] [] pos) (Sd (dt ((kvs.length : Nat) : Int))) := ev_callB (r := fun xs H Q => ∃ a kvs, xs = [V.ref a] ∧ Rd H a (.dK kvs) ∧ Q (.int kvs.length) H) (by
    intro pins s σ H xs us Q I r h
    obtain ⟨a, kvs, rfl, ha, q⟩ := h
    obtain ⟨u, rfl, ru⟩ := vals1 r
    cases ru
    exact d_len I ha fun t s' I' => ⟨.int kvs.length, H, I', ⟨t, rfl⟩, q⟩) hm (av_cons h av_nil h1) (fun n G H vs Q vl hd k => by
    obtain ⟨v, rfl, g1⟩ := denAll1 hd
    obtain ⟨ad, r, rfl, hp, hw⟩ := dct_inv g1
    exact ⟨ad, r, rfl, vl.sub.rd_dK hp, by rw [hw.len]; exact k _ H G _ (.refl G H) vl rfl (.sh (.py (.int _)))⟩) hg PySem.boot_len (by decide) (by decide) h1 h2
def getS {α : Type} [DecidableEq α] [Datum α] [Inhabited α] (kvs : List (Str × α)) (k : Str) : α := (lookS kvs k).getD default
theorem ev_dgetD {X : Cx} {B : Bs} {Γ : List Ent} {c1 c2 : Nat} {a b : Expr} {pos : Pos} {α : Type} [DecidableEq α] [Datum α] [Inhabited α] {kvs : List (Str × α)} {k : Str} (hu : Hu X) (ho : Ev X B Γ c1 a (Sd (mpS kvs))) (hi : Ev X B Γ c2 b (Sd (dt k))) (h : k ∈ kvs.map (·.1)) (hs : NoSl b := by exact fun _ _ => rfl) : Ev X B Γ (c1 + c2) (.Subscript a b pos) (Sd (dt (getS kvs k))) :=
  ev_dget hu ho hi (by
    unfold getS
    cases q : lookS kvs k with
    | some y => rfl
    | none =>
      exfalso
      obtain ⟨kv, h1, h2⟩ := List.mem_map.mp h
      unfold lookS at q
      rw [Option.map_eq_none_iff, List.find?_eq_none] at q
      exact q kv h1 (by simp [h2])) hs
def sendsB (kvs : List (Str × Str)) (ws : List Str) : Bool := (kvs.map (·.1)).all (fun k => isWord k && isWord (getS kvs k)) && (ws.all (fun w => decide (w ∈ kvs.map (·.1))) && decide (((once ((kvs.map (·.1)).map (getS kvs))).length : Int) = (kvs.length : Int)))
def sendL (kvs : List (Str × Str)) (l : Str) : Str := (bif decide (ixD l 0 = minus) then minus else ("" : Str)) ++ getS kvs (bareS l)
theorem sends_in {kvs : List (Str × Str)} {ws : List Str} (h : sendsB kvs ws = true) {k : Str} (hk : k ∈ ws) : k ∈ kvs.map (·.1) := by
  unfold sendsB at h
  simp only [Bool.and_eq_true] at h
  exact of_decide_eq_true (List.all_eq_true.mp h.2.1 k hk)
theorem sendL_sz {p : Bool} {y : Str} (h : y.length ≤ 1000) : (bif p then minus else ("" : Str)).length + y.length ≤ 16777216 := by
  have h1 : minus.length = 1 := rfl
  have h2 : ("" : Str).length = 0 := rfl
  cases p with
  | true => show minus.length + _ ≤ _; omega
  | false => show ("" : Str).length + _ ≤ _; omega
end DL
end

section
set_option Elab.async false
set_option linter.all false
set_option maxRecDepth 100000
set_option maxHeartbeats 4000000
set_option autoImplicit false
/-! DlX: wide products; what the laws' common functions ask. -/
namespace DL
open PySem PySem.Spec PyProof.Rows L2 PySem.W PySem.SeqAt
variable [Wd]
def CMulE (i j : Int) : Prop := CMul i j ∨ CMulX i j
section
variable {X : Cx} {B : Bs} {Γ : List Ent} {c c0 c1 c2 c3 : Nat} {a b e t : Expr} {p p2 p3 pos : Pos} {α β : Type} [DecidableEq α] [Datum α] [DecidableEq β] [Datum β]
theorem ev_mulE {i j : Int} (ha : Ev X B Γ c1 a (Sd (dt i))) (hb : Ev X B Γ c2 b (Sd (dt j))) (h : CMulE i j) : Ev X B Γ (c1 + c2) (.BinOp a .Mult b pos) (Sd (dt (i * j))) := by
  rcases h with h | h
  · exact ev_mul ha hb h
  · exact ev_op2 op_mulX ha hb (ok_I h)
def CPowE (i j : Int) : Prop := 0 ≤ j ∧ (Builtin.Int.intBits i : Int) * j ≤ 2 ^ 27
theorem op_powE : OpR X (binaryOp .Pow) (rI CPowE fun i j => .int (i ^ j.toNat)) := opI fun _ _ _ _ _ _ _ hc q => pow_int hc.1 hc.2 q
theorem ev_pow {i j : Int} (ha : Ev X B Γ c1 a (Sd (dt i))) (hb : Ev X B Γ c2 b (Sd (dt j))) (h : CPowE i j) : Ev X B Γ (c1 + c2) (.BinOp a .Pow b pos) (Sd (dt (i ^ j.toNat))) := ev_op2 op_powE ha hb (ok_I h)
end
theorem bits_lt {x : Int} {k : Nat} (h0 : 0 ≤ x) (h : x < 2 ^ k) : (Builtin.Int.intBits x : Int) ≤ k := by
  obtain ⟨n, rfl⟩ := Int.eq_ofNat_of_zero_le h0
  have h' : n < 2 ^ k := by exact_mod_cast h
  unfold Builtin.Int.intBits
  split
  · omega
  · rename_i hne
    have : n ≠ 0 := by intro z; subst z; simp at hne
    have := (Nat.log2_lt this).mpr h'
    simp only [Int.natAbs_natCast]
    omega
theorem mixed_big {spin : Int} (h0 : 0 ≤ spin) (h : spin ≤ (LIM : Int)) : CMulE (104729 * spin) spin := by
  have e : (LIM : Int) = 2 ^ 1000000 := by rw [LIM_eq]; exact Int.natCast_pow 2 1000000
  generalize hk : (1000000 : Nat) = k at e
  rw [e] at h
  have p : (0 : Int) < 2 ^ k := Int.pow_pos (by decide)
  have e1 : (2 : Int) ^ (k + 17) = 2 ^ k * 131072 := by rw [Int.pow_add]; rfl
  have e2 : (2 : Int) ^ (k + 1) = 2 ^ k * 2 := by rw [Int.pow_succ]
  have b1 := bits_lt (k := k + 17) (x := 104729 * spin) (by omega) (by rw [e1]; omega)
  have b2 := bits_lt (k := k + 1) (x := spin) h0 (by rw [e2]; omega)
  refine .inr ?_
  show (Builtin.Int.intBits (104729 * spin) : Int) + (Builtin.Int.intBits spin : Int) ≤ 134217728
  omega
section
variable {X : Cx} {B : Bs} {Γ : List Ent} {c c0 c1 c2 c3 : Nat} {a b e t : Expr} {p p2 p3 pos apos : Pos} {α β : Type} [DecidableEq α] [Datum α] [DecidableEq β] [Datum β]
theorem ret_rt {P : α → Prop} {z : α} (h : P z) : ∀ r, Sd (dt z) r → Rt P r := fun r q => ⟨dt z, ⟨z, h, rfl⟩, q⟩
/-- i.bit_length() -/
theorem ev_bits {i : Int} (ho : Ev X B Γ c e (Sd (dt i))) (hbase : attributeBase e "bit_length" X.env (eval e X.env) = eval e X.env := by rfl) (hline : (apos.endLine == pos.line) = true := by rfl) : Ev X B Γ c (.Call (.Attribute e "bit_length" apos) [] [] pos) (Sd (dt ((Builtin.Int.intBits i : Nat) : Int))) :=
  pe_mono (pe_bits ho hbase hline) fun σ H Q ⟨n, G, pr, k⟩ => ⟨n, G, pr, fun v H' G' n' r h1 h2 h3 h4 h5 => by
    cases h4
    cases h5 with | sh den => exact ⟨i, dp_int den.dp, k _ H' G' n' _ h1 h2 h3 rfl (.sh (.py (.int _)))⟩⟩
theorem bits_small {i : Int} (h0 : 0 ≤ i) (h : i < 134217728) : ((Builtin.Int.intBits i : Nat) : Int) / 28 = 0 := by
  have := bits_lt (k := 27) h0 (by omega)
  omega
end
theorem sv_le {X : Cx} {B : Bs} {Γ : List Ent} {c c1 : Nat} {body : List Stmt} {O : Out} (h : Sv X B Γ c1 body O) (hc : c1 ≤ c := by decide) : Sv X B Γ c body O := sv_weak h hc
/-! ### the script -/
section
variable {X : Cx} {B : Bs} {Γ : List Ent} {c c0 c1 c2 c3 : Nat} {a b e t : Expr} {p p2 p3 pos apos : Pos} {ns : List Int}
theorem ints_dq {K : PySem.W.Frag} {G : Hp} : ∀ xs : List Int, DqAll K G (xs.map V.int) (xs.map Datum.toD)
  | [] => .nil
  | x :: xs => .cons (.int x) (ints_dq xs)
theorem ev_slScr {lo hi : Option Expr} {l u : Option Int} (ha : Ev X B Γ c1 a (Sd (.scr ns))) (hl : Pv X B Γ c2 lo l) (hu : Pv X B Γ c3 hi u) : Ev X B Γ (c1 + (c2 + c3)) (.Subscript a (.Slice lo hi none p2) pos) (So (dt (cut ns l u))) :=
  ev_sl sl_list ha hl hu fun n G H v Q vl h k => by
    cases h with | @scr ad _ h =>
    refine ⟨ad, _, rfl, vl.sub.sqL h, fun q hq => ?_⟩
    have e : cutV (ns.map V.int) l u = (cut ns l u).map V.int := by
      unfold cutV cut
      rw [List.length_map, List.map_take, List.map_drop]
    rw [e]
    obtain ⟨s1, v1⟩ := Ste.new (o := .lst ((cut ns l u).map V.int)) vl hq trivial
    exact k _ _ _ _ s1 v1 rfl (Res.newL vl hq (.py (ints_dq _)))
theorem ev_lenScr (hm : X.mg "len" = none) (h : Ev X B Γ c e (Sd (.scr ns))) (hg : Gl X "len" := by rfl) (h1 : starEach [e] X.env = (false, eval e X.env) :: starEach [] X.env := by rfl) (h2 : (backTo pos (starEach [] X.env)).any (·.1) = false := by rfl) : Ev X B Γ (c + 0) (.Call (.Name "len" p) [e] [] pos) (Sd (dt ((ns.length : Nat) : Int))) :=
  ev_callB call_len_seq hm (av_cons h av_nil h1) (fun n G H vs Q vl hd k => by
    obtain ⟨v, rfl, g1⟩ := denAll1 hd
    cases g1 with | @scr ad _ g1 =>
    exact ⟨ad, _, rfl, .inl (vl.sub.sqL g1), by rw [List.length_map]; exact k _ H G _ (.refl G H) vl rfl (.sh (.py (.int _)))⟩) hg PySem.boot_len (by decide) (by decide) h1 h2
end
theorem lcRel_all {ι : Type} {d : D} : ∀ {xs : List ι} {ys : List D}, LcRel (fun _ b => b = true) (fun _ y => y = d) xs ys → ys = List.replicate xs.length d
  | _, _, .nil => rfl
  | x :: xs, _, .keep t s r => by rw [s, lcRel_all r]; rfl
  | x :: xs, _, .skip t r => by cases t
/-! ### own lists, read and changed -/
section
variable {X : Cx} {B : Bs} {Γ : List Ent} {c c0 c1 c2 c3 : Nat} {a b e e2 t : Expr} {p p2 p3 pos apos : Pos} {O : Out} {rest : List Stmt} {α : Type} [DecidableEq α] [Datum α]
/-- len(xs), xs an own list -/
theorem ev_lenOw (i : Nat) {x : Str} {xs : List α} (hΓ : Γ[i]? = some (Ent.ow (dt xs))) (hm : X.mg "len" = none) (hN : X.N[i]? = some x := by rfl) (hv : Vis X.env.scope x := by first | exact Or.inl rfl | exact Or.inr (Or.inl rfl) | exact Or.inr (Or.inr rfl)) (hd : (x == ("__debug__" : Str)) = false := by decide) (hcd : (x == ("__classdict__" : Str)) = false := by decide)
    (hg : Gl X "len" := by rfl) (h1 : starEach [.Name x p2] X.env = (false, eval (.Name x p2) X.env) :: starEach [] X.env := by rfl) (h2 : (backTo pos (starEach [] X.env)).any (·.1) = false := by rfl) : Ev X B Γ 0 (.Call (.Name "len" p) [.Name x p2] [] pos) (Sd (dt ((xs.length : Nat) : Int))) :=
  pe_mono (pe_callB call_len_seq hg hm PySem.boot_len (pa_cons (pe_var hN hv hd hcd) pa_nil h1) (by decide) (by decide) h1 h2) fun σ H Q ⟨n, G, pr, k⟩ => by
    obtain ⟨ad, o, e1, e2, e3, e4, e5⟩ := pr.ok.ow i _ hΓ
    obtain ⟨vs, rfl, hq⟩ := own_list e5
    have hl := dpAll_len hq
    rw [List.length_map] at hl
    exact ⟨_, e1, ad, vs, rfl, .inl (.of e4), by rw [hl]; exact k _ H G n _ (Nat.le_refl _) (.refl G H) pr.val rfl (.sh (.py (.int _)))⟩
/-- xs.insert(j, y), xs an own list -/
theorem sv_insert (i : Nat) {x : Str} {xs : List α} {PJ : Int → Prop} {P : α → Prop} (hΓ : Γ[i]? = some (Ent.ow (dt xs))) (hj : Ev X B Γ c0 e2 (Rt PJ)) (he : Ev X B Γ c1 e (Rt P)) (hz : xs.length < sizeLine) (hJ : ∀ j, PJ j → 0 ≤ j ∧ j < 2 ^ 63) (k : ∀ j y, PJ j → P y → Sv X B (Γ.set i (.ow (dt (xs.take j.toNat ++ [y] ++ xs.drop j.toNat)))) c2 rest O)
    (hN : X.N[i]? = some x := by rfl) (hv : Vis X.env.scope x := by first | exact Or.inl rfl | exact Or.inr (Or.inl rfl) | exact Or.inr (Or.inr rfl)) (hd : (x == ("__debug__" : Str)) = false := by decide) (hcd : (x == ("__classdict__" : Str)) = false := by decide)
    (hbase : attributeBase (.Name x p) "insert" X.env (eval (.Name x p) X.env) = eval (.Name x p) X.env := by rfl)
    (hfew : ((backTo p3 (starEach [e2, e] X.env)).all (fun x => !x.1) && (backToKw p3 (keywordEach [] X.env)).all (fun x => x.1.isSome)
      && decide (([e2, e] : List Expr).length + ([] : List Keyword).length + (if ([] : List Keyword).isEmpty then 0 else 1) < 30)) = true := by rfl)
    (hline : (p2.endLine == p3.line) = true := by rfl) (hs : starEach [e2, e] X.env = (false, eval e2 X.env) :: starEach [e] X.env := by rfl) (hs2 : starEach [e] X.env = (false, eval e X.env) :: starEach [] X.env := by rfl) (hplain : (backTo p3 (starEach [e] X.env)).any (·.1) = false := by rfl)
    (hsw : swapsWith (.Call (.Attribute (.Name x p) "insert" p2) [e2, e] [] p3) none pos.line X.env = pure false := by rfl) : Sv X B Γ (c0 + (c1 + 0) + c2) (.Expr (.Call (.Attribute (.Name x p) "insert" p2) [e2, e] [] p3) pos :: rest) O :=
  sv_cons (N := fun Γ' => ∃ j y, PJ j ∧ P y ∧ Γ' = Γ.set i (.ow (dt (xs.take j.toNat ++ [y] ++ xs.drop j.toNat)))) (s_mut i hΓ PySem.F.plainAttrs_list PySem.F.slot_list_insert PySem.F.type_list_insert mt_insert (av_consN hj (av_consN he av_nil hs2) hs) (N := fun d => ∃ j y, PJ j ∧ P y ∧ d = dt (xs.take j.toNat ++ [y] ++ xs.drop j.toNat))
    (fun ds ⟨d, r, e1, ⟨j, hj, e2⟩, d', r', e3, ⟨y, hy, e4⟩, e5⟩ => by
      subst e1; subst e2; subst e3; subst e4; subst e5
      exact fun n G H ad o vs Q vl hH ow dn kk => ok_insert hz (hJ j hj).1 (hJ j hj).2 n G H ad o vs Q vl hH ow dn fun v o' d' np ow' hN' => kk v o' d' np ow' ⟨j, y, hj, hy, hN'⟩)
    (tyv_list fun G o ow => (own_list ow).imp fun vs h => h.1) (fun d' ⟨j, y, hj, hy, q⟩ => ⟨j, y, hj, hy, by rw [q]⟩) hN hv hd hcd hbase hfew hline hs hplain hsw) fun Γ' ⟨j, y, hj, hy, q⟩ => by subst q; exact k j y hj hy
theorem insert_perm {β : Type} (xs : List β) (y : β) (j : Nat) : (xs.take j ++ [y] ++ xs.drop j).Perm (y :: xs) := by
  have h1 : (xs.take j ++ [y] ++ xs.drop j).Perm ([y] ++ xs.take j ++ xs.drop j) := (List.perm_append_comm (l₁ := xs.take j) (l₂ := [y])).append_right _
  have e : [y] ++ xs.take j ++ xs.drop j = y :: xs := by rw [List.append_assoc, List.take_append_drop]; rfl
  rw [e] at h1
  exact h1
end
end DL
end

section
set_option Elab.async false
set_option linter.all false
set_option maxRecDepth 100000
set_option maxHeartbeats 4000000
set_option autoImplicit false
/-! DlY: sequences of any data: isinstance of two classes, len, zip. -/
namespace DL
open PySem PySem.Spec PyProof.Rows L2 PySem.W PySem.SeqAt RZ
variable [Wd]
section
variable {X : Cx} {B : Bs} {Γ : List Ent} {c c1 c2 : Nat} {e : Expr} {p p1 p2 p3 pos tpos : Pos} {d : D} {U1 U2 : Str} {n1 n2 : String} {k : Nat}
/-- isinstance(x, (T1, T2)) -/
theorem ev_isi2 (hm : X.mg "isinstance" = none) (hm1 : X.mg U1 = none) (hm2 : X.mg U2 = none) (h : Ev X B Γ c e (Sd d)) (hd : (tyD d).isSome = true) (hU1 : bootBuiltins U1 = some (.type n1) := by decide +kernel) (hU2 : bootBuiltins U2 = some (.type n2) := by decide +kernel)
    (hall : (allT.all fun T => (kitB T n1).isSome && (kitB T n2).isSome) = true := by decide +kernel) (hg : Gl X "isinstance" := by rfl) (hg1 : Gl X U1 := by rfl) (hg2 : Gl X U2 := by rfl) (hn1 : U1 ≠ "__name__" := by decide) (hn2 : U2 ≠ "__name__" := by decide) (hd1 : (U1 == ("__debug__" : Str)) = false := by decide) (hd2 : (U2 == ("__debug__" : Str)) = false := by decide)
    (he : starEach [e, .Tuple [.Name U1 p1, .Name U2 p2] k tpos] X.env = (false, eval e X.env) :: starEach [.Tuple [.Name U1 p1, .Name U2 p2] k tpos] X.env := by rfl) (he2 : starEach [.Tuple [.Name U1 p1, .Name U2 p2] k tpos] X.env = (false, eval (.Tuple [.Name U1 p1, .Name U2 p2] k tpos) X.env) :: starEach [] X.env := by rfl)
    (he3 : starEach [.Name U1 p1, .Name U2 p2] X.env = (false, eval (.Name U1 p1) X.env) :: starEach [.Name U2 p2] X.env := by rfl) (he4 : starEach [.Name U2 p2] X.env = (false, eval (.Name U2 p2) X.env) :: starEach [] X.env := by rfl)
    (hpl : (backTo pos (starEach [.Tuple [.Name U1 p1, .Name U2 p2] k tpos] X.env)).any (·.1) = false := by rfl) :
    Ev X B Γ c (.Call (.Name "isinstance" p) [e, .Tuple [.Name U1 p1, .Name U2 p2] k tpos] [] pos) (Sd (dt (isaD n1 d || isaD n2 d))) :=
  pe_mono (pe_callB call_isiT hg hm (by decide +kernel) (pa_cons h (pa_cons (pe_tup (pa_cons (pe_bltn (v := .ty n1) hg1 hm1 hU1 rfl hn1 hd1) (pa_cons (pe_bltn (v := .ty n2) hg2 hm2 hU2 rfl hn2 hd2) pa_nil he4) he3)) pa_nil he2) he) (by decide) (by decide) he hpl) fun σ H Q ⟨m, G, pp, kk⟩ => ⟨m, G, pp, fun v H1 G1 m1 r hn st vl hS hr => by
    cases hS
    cases hr with | sh den =>
    cases q : tyD d with
    | none => rw [q] at hd; cases hd
    | some T =>
    have hT := tyD_all q
    have hs := List.all_eq_true.mp hall T hT
    rw [Bool.and_eq_true] at hs
    cases q1 : kitB T n1 with
    | none => rw [q1] at hs; cases hs.1
    | some b1 =>
    cases q2 : kitB T n2 with
    | none => rw [q2] at hs; cases hs.2
    | some b2 =>
    have eb : (isaD n1 d || isaD n2 d) = (b1 || b2) := by
      unfold isaD; rw [q]; show ((kitB T n1).getD false || (kitB T n2).getD false) = _; rw [q1, q2]; rfl
    refine ⟨by show 2 ≤ sizeLine; decide, fun tp htp => ?_⟩
    obtain ⟨s1, v1⟩ := Ste.new (o := .tup [.ty n1, .ty n2]) vl htp trivial
    refine ⟨v, tp, [.ty n1, .ty n2], .type T, [.type n1, .type n2], b1 || b2, rfl, upd_same, .cons (.ty n1) (.cons (.ty n2) .nil), ty_of (vl.sub.trans s1.h) den q, ?_, ?_⟩
    · exact kitAny_cons (kit_ty q1) (fun h => kitAny_cons (kit_ty q2) (fun h2 => by rw [h, h2]; rfl) fun h2 => by rw [h2]; cases b1 <;> rfl) fun h => by rw [h]; rfl
    · exact kk _ _ G1 m1 _ hn (st.trans s1) v1 rfl (.sh (.py (by rw [eb]; exact .bl _)))⟩
/-! ### sequences -/
def seqL : D → Option (List D)
  | .lst ds => some ds
  | .py (.list ps) => some (ps.map .py)
  | _ => none
def seqT : D → Option (List D)
  | .tup ds => some ds
  | .py (.tuple ps) => some (ps.map .py)
  | _ => none
theorem den_seqL {K : PySem.W.Frag} {G : Hp} {v : V} {d : D} {ds : List D} (h : Den K G v d) (e : seqL d = some ds) : ∃ a vs, v = .ref a ∧ G a = some (.lst vs) ∧ DenAll K G vs ds := by
  cases h with
  | py h =>
    cases h with
    | lst h1 h2 => cases e; exact ⟨_, _, rfl, h1, dpAll_den h2⟩
    | _ => cases e
  | lst h1 h2 => cases e; exact ⟨_, _, rfl, h1, h2⟩
  | _ => cases e
theorem den_seqT {K : PySem.W.Frag} {G : Hp} {v : V} {d : D} {ds : List D} (h : Den K G v d) (e : seqT d = some ds) : ∃ a vs, v = .ref a ∧ SqT K G a vs ∧ DenAll K G vs ds := by
  cases h with
  | py h =>
    cases h with
    | tup h1 h2 => cases e; exact ⟨_, _, rfl, h1, dpAll_den h2⟩
    | _ => cases e
  | tup h1 h2 => cases e; exact ⟨_, _, rfl, h1, h2⟩
  | _ => cases e
theorem ev_lenSeq {ds : List D} (hq : seqL d = some ds ∨ seqT d = some ds) (hm : X.mg "len" = none) (h : Ev X B Γ c e (Sd d)) (hg : Gl X "len" := by rfl) (h1 : starEach [e] X.env = (false, eval e X.env) :: starEach [] X.env := by rfl) (h2 : (backTo pos (starEach [] X.env)).any (·.1) = false := by rfl) : Ev X B Γ (c + 0) (.Call (.Name "len" p) [e] [] pos) (Sd (dt ((ds.length : Nat) : Int))) :=
  ev_callB call_len_seq hm (av_cons h av_nil h1) (fun n G H vs Q vl hd k => by
    obtain ⟨v, rfl, g1⟩ := denAll1 hd
    rcases hq with hq | hq
    · obtain ⟨a, ws, rfl, ha, hw⟩ := den_seqL g1 hq
      exact ⟨a, ws, rfl, .inl (.of (vl.sub.lst ha)), by rw [denAll_len hw]; exact k _ H G _ (.refl G H) vl rfl (.sh (.py (.int _)))⟩
    · obtain ⟨a, ws, rfl, ha, hw⟩ := den_seqT g1 hq
      exact ⟨a, ws, rfl, .inr (vl.sub.sqT ha), by rw [denAll_len hw]; exact k _ H G _ (.refl G H) vl rfl (.sh (.py (.int _)))⟩) hg PySem.boot_len (by decide) (by decide) h1 h2
/-! ### zip -/
theorem denAll_at {K : PySem.W.Frag} {G : Hp} {vs : List V} {ds : List D} {i : Nat} {v : V} (h : DenAll K G vs ds) (e : vs[i]? = some v) : ∃ d, ds[i]? = some d ∧ Den K G v d := denAll_get h e
theorem walk_zipT {K : PySem.W.Frag} {a b : Addr} {xs ys : List V} {n : Nat} (hn : n = min xs.length ys.length) : Walk (ItzT K a b) n (fun H => SqT K H a xs ∧ SqT K H b ys) (YPair (fun i => xs[i]?) (fun i => ys[i]?)) := by
  subst hn
  refine ⟨fun i _ hi q => ?_, fun _ q => ⟨xs, ys, q.1, q.2, by omega⟩, fun i H v H' _ q y => ?_⟩
  · have h1 : i < xs.length := by omega
    have h2 : i < ys.length := by omega
    exact ⟨xs, ys, xs[i], ys[i], q.1, q.2, by simp [h1], by simp [h2]⟩
  · obtain ⟨T, x, z, h1, h2, h3, h4, h5⟩ := y
    exact ⟨T, x, z, h1, h2, h3, h4 xs q.1, h5 ys q.2⟩
/-- pairs of data -/
def prD (p : D × D) : D := .tup [p.1, p.2]
theorem zip_walk {K : PySem.W.Frag} {J : It} {G : Hp} {vs ws : List V} {ds es : List D} {Gp : Hp → Prop} (w : Walk J (min vs.length ws.length) Gp (YPair (fun i => vs[i]?) (fun i => ws[i]?))) (hG : ∀ H, LSub G H → Gp H) (h1 : DenAll K G vs ds) (h2 : DenAll K G ws es) : IsWalk K J ((ds.zip es).map prD) G := by
  unfold IsWalk
  have hl : ((ds.zip es).map prD).length = min vs.length ws.length := by rw [List.length_map, List.length_zip, denAll_len h1, denAll_len h2]
  rw [hl]
  refine w.mono hG fun i H v H' hi sb y n G' s vl => ?_
  obtain ⟨T, x, z, rfl, hT, rfl, hx, hz⟩ := y
  obtain ⟨d1, e1, g1⟩ := denAll_get h1 hx
  obtain ⟨d2, e2, g2⟩ := denAll_get h2 hz
  obtain ⟨s1, v1⟩ := Ste.newS (o := .tup [x, z]) vl hT trivial
  refine ⟨prD (d1, d2), ?_, _, s1, v1, .tup (.of upd_same) (.cons ((g1.sub s).sub s1.g) (.cons ((g2.sub s).sub s1.g) .nil))⟩
  have ez : (ds.zip es)[i]? = some (d1, d2) := List.getElem?_zip_eq_some.mpr ⟨e1, e2⟩
  rw [List.getElem?_map, ez]; rfl
theorem iv_zipD {a b : Expr} {d1 d2 : D} {ds es : List D} {elts : List Expr} {kk : Nat} (hq : (seqL d1 = some ds ∧ seqL d2 = some es) ∨ (seqT d1 = some ds ∧ seqT d2 = some es)) (hm : X.mg "zip" = none) (ha : Ev X B Γ c1 a (Sd d1)) (hb : Ev X B Γ c2 b (Sd d2)) (hg : Gl X "zip" := by rfl)
    (hs : starEach [a, b] X.env = (false, eval a X.env) :: starEach [b] X.env := by rfl) (hs2 : starEach [b] X.env = (false, eval b X.env) :: starEach [] X.env := by rfl) (hpl : (backTo pos (starEach [b] X.env)).any (·.1) = false := by rfl) :
    Iv X B Γ (c1 + (c2 + 0)) (.Tuple elts kk tpos) (.Call (.Name "zip" p) [a, b] [] pos) (fun l => ∃ zs, zs = ds.zip es ∧ l = zs.map prD) :=
  pi_mono (pi_zipA hg hm (pa_cons (ev_size ha) (pa_cons hb pa_nil hs2) hs) hs hpl) fun σ H R ⟨n, G, pr, k⟩ => ⟨n, G, ⟨pr.ok, pr.val, pr.ste, by have := pr.lim; omega⟩, fun v H0 G0 n0 r hn0 st0 vl0 hS hr z1 z2 => ⟨n0, G0, pr.step st0 vl0 (by have := pr.lim; omega), fun v' H1 G1 n1 r2 hn st vl hS2 hr2 => by
    cases hS; cases hS2
    cases hr with | sh g1 =>
    cases hr2 with | sh g2 =>
    rcases hq with ⟨q1, q2⟩ | ⟨q1, q2⟩
    · obtain ⟨x, xs, rfl, hx, hxs⟩ := den_seqL g1 q1
      obtain ⟨y, ys, rfl, hy, hys⟩ := den_seqL g2 q2
      have l1 := z1 x xs rfl (.of (vl0.sub.lst hx))
      have l2 := denAll_len hxs
      have len : ((ds.zip es).map prD).length ≤ sizeLine := by rw [List.length_map, List.length_zip]; omega
      have hx' := st.g.lst hx
      exact ⟨x, y, xs, ys, rfl, .inl ⟨.of (vl.sub.lst hx'), .of (vl.sub.lst hy), k _ H1 G1 n1 _ (by omega) (st0.trans st) vl ⟨_, rfl, rfl⟩ (zip_walk (walk_zip rfl) (fun H s => ⟨.of (s.lst hx'), .of (s.lst hy)⟩) (hxs.sub st.g) hys) len⟩⟩
    · obtain ⟨x, xs, rfl, hx, hxs⟩ := den_seqT g1 q1
      obtain ⟨y, ys, rfl, hy, hys⟩ := den_seqT g2 q2
      have l1 := z2 x xs rfl (vl0.sub.sqT hx)
      have l2 := denAll_len hxs
      have len : ((ds.zip es).map prD).length ≤ sizeLine := by rw [List.length_map, List.length_zip]; omega
      have hx' := st.g.sqT hx
      exact ⟨x, y, xs, ys, rfl, .inr ⟨vl.sub.sqT hx', vl.sub.sqT hy, k _ H1 G1 n1 _ (by omega) (st0.trans st) vl ⟨_, rfl, rfl⟩ (zip_walk (walk_zipT rfl) (fun H s => ⟨s.sqT hx', s.sqT hy⟩) (hxs.sub st.g) hys) len⟩⟩⟩⟩
end
section
variable {K : PySem.W.Frag} {Γ : List Ent}
theorem tg_pairD {i j : Nat} {vs : List Nat} {q : D × D} (hi : i ∈ vs) (hj : j ∈ vs) : TgOk K (gTup K 2 (gCons (gName i) (gCons (gName j) gNil))) vs Γ (prD q) ((Γ.set i (.sh q.1)).set j (.sh q.2)) := fun H0 G σ H x Q k sb den qq => by
  unfold prD at den
  cases den with
  | @tup a ws _ ht hd =>
    cases hd with | cons h1 t =>
    cases t with | cons h2 t =>
    cases t
    exact ⟨a, _, rfl, sb.sqT ht, rfl, _, _, rfl, _, _, rfl, rfl, qq _ ((k.put h1).put h2) (by rw [wipe_set hj, wipe_set hi])⟩
end
/-! ### what _law_exact is asked of -/
inductive ExD : Nat → D → Prop where
  | non (n : Nat) : ExD n (.py .none)
  | bl (n : Nat) (b : Bool) : ExD n (.py (.bool b))
  | int (n : Nat) (i : Int) : ExD n (.py (.int i))
  | str (n : Nat) (x : Str) : ExD n (.py (.str x))
  | lst {n : Nat} {d : D} {ds : List D} : seqL d = some ds → (∀ x ∈ ds, ExD n x) → ExD (n + 1) d
  | tup {n : Nat} {d : D} {ds : List D} : seqT d = some ds → (∀ x ∈ ds, ExD n x) → ExD (n + 1) d
  | dct {n : Nat} {α : Type} [DecidableEq α] [Datum α] [Inhabited α] (kvs : List (Str × α)) : kvs.length ≤ sizeLine → (∀ k ∈ kvs.map (·.1), ExD (n + 1) (dt (getS kvs k))) → ExD (n + 2) (mpS kvs)
theorem ExD.up {n m : Nat} {d : D} (h : ExD n d) : n ≤ m → ExD m d := by
  intro hm
  induction h generalizing m with
  | non => exact .non m
  | bl _ b => exact .bl m b
  | int _ i => exact .int m i
  | str _ x => exact .str m x
  | lst h1 _ ih =>
    obtain ⟨m, rfl⟩ : ∃ k, m = k + 1 := ⟨m - 1, by omega⟩
    exact .lst h1 fun x hx => ih x hx (by omega)
  | tup h1 _ ih =>
    obtain ⟨m, rfl⟩ : ∃ k, m = k + 1 := ⟨m - 1, by omega⟩
    exact .tup h1 fun x hx => ih x hx (by omega)
  | dct kvs h1 _ ih =>
    obtain ⟨m, rfl⟩ : ∃ k, m = k + 2 := ⟨m - 2, by omega⟩
    exact .dct kvs h1 fun k hk => ih k hk (by omega)
def ct_exact (n : Nat) : Ct := fun ds S => ∃ d, ds = [d, d] ∧ ExD n d ∧ S = Sd (dt true)
theorem seqL_ty {d : D} {ds : List D} (h : seqL d = some ds) : tyD d = some "list" := by
  cases d with
  | py p => cases p <;> first | rfl | cases h
  | lst _ => rfl
  | _ => cases h
theorem seqT_ty {d : D} {ds : List D} (h : seqT d = some ds) : tyD d = some "tuple" := by
  cases d with
  | py p => cases p <;> first | rfl | cases h
  | tup _ => rfl
  | _ => cases h
theorem isa_of {d : D} {T U : String} {b : Bool} (h : tyD d = some T) (e : kitB T U = some b) : isaD U d = b := by unfold isaD; rw [h]; show (kitB T U).getD false = b; rw [e]; rfl
theorem zip_self {α : Type} {xs : List α} {q : α × α} (h : q ∈ xs.zip xs) : q.1 = q.2 ∧ q.1 ∈ xs := by
  obtain ⟨i, hi, e⟩ := List.mem_iff_getElem.mp h
  rw [List.getElem_zip] at e
  rw [← e]
  exact ⟨rfl, List.getElem_mem _⟩
theorem all_true {α : Type} (xs : List α) : (xs.map fun _ => true).all id = true := all_lit fun _ _ => rfl
theorem seq_ret {a b c d : Bool} (h1 : a = true) (h2 : b = true) (h3 : c = true) (h4 : d = true) : ((a && b) && (c && d)) = true := by subst h1; subst h2; subst h3; subst h4; rfl
theorem dec_self {α : Type} [DecidableEq α] (x : α) : decide (x = x) = true := decide_eq_true rfl
theorem atm_ret {a b c : Bool} (h1 : a = true) (h2 : b = true) (h3 : c = true) : (a && (b && c)) = true := by subst h1; subst h2; subst h3; rfl
theorem dct_ret {a b : Bool} (h1 : a = true) (h2 : b = true) : ((a && true) && b) = true := by subst h1; subst h2; rfl
theorem any_id {α : Type} {xs : List α} {f : α → Bool} : (xs.map f).any id = xs.any f := by rw [List.any_map]; rfl
theorem clause_eq (xs : List Str) : srt ((mergeS [] (xs.map fun x => (x, true))).map (·.1)) = sset xs := by
  rw [mergeS_keys, List.map_map]
  have e : xs.map (Prod.fst ∘ fun x => (x, true)) = xs := List.map_id xs
  rw [e]
  rfl
theorem clause_len (xs : List Str) : (mergeS [] (xs.map fun x => (x, true))).length ≤ xs.length := by
  have e : (mergeS [] (xs.map fun x => (x, true))).length = ((mergeS [] (xs.map fun x => (x, true))).map (·.1)).length := by rw [List.length_map]
  rw [e, mergeS_keys, List.map_map]
  have e2 : xs.map (Prod.fst ∘ fun x => (x, true)) = xs := List.map_id xs
  rw [e2]
  exact once_len xs
end DL
end

section
set_option Elab.async false
set_option linter.all false
set_option maxRecDepth 100000
set_option maxHeartbeats 4000000
set_option autoImplicit false
/-! DlZ: what is known by a property: calls, comprehensions, joins. -/
namespace DL
open PySem PySem.Spec PyProof.Rows L2 PySem.W PySem.SeqAt
variable [Wd]
section
variable {X : Cx} {B : Bs} {Γ : List Ent} {c c0 c1 c2 k : Nat} {elt tg iter e a b t : Expr} {es ifs : List Expr} {scope : Scope} {own : List (Str × Nat)} {p p2 p3 pos apos : Pos} {g : TG} {ι : Type} {enc : ι → D} {Γ' : ι → List Ent} {S : Ent → Prop} {C : List D → (Ent → Prop) → Prop} {x : Str} {α β : Type} [DecidableEq α] [Datum α] [DecidableEq β] [Datum β]
/-- f(..), the answer weakened -/
theorem ev_callW {S2 : List D → Prop} (F : Fn X.prog X.w X.K X.mg X.base k x c C) (hr : Room k X.A) (ha : Av X B Γ c1 (e :: es) S2) (hC : ∀ ds, S2 ds → ∃ S', C ds S' ∧ ∀ r, S' r → S r) (hg : Gl X x := by rfl) (hdb : (x == ("__debug__" : Str)) = false := by decide) (he : starEach (e :: es) X.env = (false, eval e X.env) :: starEach es X.env := by rfl) (hpl : (backTo pos (starEach es X.env)).any (·.1) = false := by rfl) :
    Ev X B Γ (c1 + c) (.Call (.Name x p) (e :: es) [] pos) S :=
  ev_callN (C := fun ds S => ∃ S', C ds S' ∧ ∀ r, S' r → S r) (F.imp fun ds S h => h) hr ha hC hg hdb he hpl
/-- if else, both with a property -/
theorem ev_iteR {P : α → Prop} {Sb : Bool → Prop} (ht : Tv X B Γ c0 t Sb) (ha : Ev X B Γ c1 a (Rt P)) (hb : Ev X B Γ c2 b (Rt P)) : Ev X B Γ (c0 + max c1 c2) (.IfExp t a b pos) (Rt P) := ev_iteS ht (fun _ => ha) (fun _ => hb)
theorem lcRel_R {P : β → Prop} : ∀ {xs : List ι} {ys : List D}, LcRel (fun _ b => b = true) (fun _ y => ∃ z : β, P z ∧ y = dt z) xs ys → ∃ zs : List β, ys = zs.map dt ∧ zs.length = xs.length ∧ ∀ z ∈ zs, P z
  | _, _, .nil => ⟨[], rfl, rfl, fun z h => by simp at h⟩
  | _, _, .keep _ ⟨z, hz, e⟩ r => by
    obtain ⟨zs, h1, h2, h3⟩ := lcRel_R r
    exact ⟨z :: zs, by rw [h1, e]; rfl, by rw [List.length_cons, List.length_cons, h2], fun w hw => by
      rcases List.mem_cons.mp hw with q | q
      · rw [q]; exact hz
      · exact h3 w q⟩
  | _, _, .skip t _ => by cases t
/-- [e for ..], each with P -/
theorem lc_R {P : β → Prop} {Q : List ι → Prop} (hi : Iv X B Γ c0 tg iter fun l => ∃ ys, Q ys ∧ l = ys.map enc) (ok : BlkOk X.N X.env.scope scope own) (htg : ∀ d, TgOk X.K g (own.map (·.2)) (wipeE Γ (own.map (·.2))) (enc d) (Γ' d))
    (hg : ∀ (s : Shared) (H : Hp) (C : Addr) (cl : List (Str × Addr)) (fp : List Addr), PG (X.blk s H scope (compEnvC scope cl C X.env) fp) tg g)
    (he : ∀ xs, Q xs → ∀ d ∈ xs, ∀ (s : Shared) (H : Hp) (C : Addr) (cl : List (Str × Addr)) (fp : List Addr), PE (X.blk s H scope (compEnvC scope cl C X.env) fp) elt (tEv X.K B (Γ' d) c2 (Rt P)))
    (hs : ∀ x, foldedSetIterable iter X.env x = pure x := by intro _; rfl) : Lc X B Γ (c0 + sizeLine * (0 + c2)) elt tg iter [] scope (fun r => ∃ zs : List β, (∃ xs, Q xs ∧ zs.length = xs.length) ∧ (∀ z ∈ zs, P z) ∧ r = .ow (dt zs)) :=
  (lc_mk (T := fun _ b => b = true) (S := fun _ y => ∃ z : β, P z ∧ y = dt z) hi ok htg hg (fun _ _ _ _ _ _ _ _ _ => tts_nil) (fun xs h0 d hd _ s H C cl fp => he xs h0 d hd s H C cl fp) hs).weak fun σ H Q' ⟨n, G, pr, kk⟩ => ⟨n, G, pr, fun v H' G' n' r h1 h2 h3 ⟨xs, ys, q0, rel, e⟩ hr => by
    obtain ⟨zs, rfl, hl, hP⟩ := lcRel_R rel
    subst e
    exact kk v H' G' n' _ h1 h2 h3 ⟨zs, ⟨xs, q0, hl⟩, hP, rfl⟩ hr.py⟩
theorem ev_shR {P : α → Prop} (h : Ev X B Γ c e (fun r => ∃ z, P z ∧ r = .ow (dt z))) : Ev X B Γ c e (Rt P) := pe_mono h fun σ H Q ⟨n, G, p, k⟩ => ⟨n, G, p, fun v H' G' n' r hn st vl ⟨z, hz, e⟩ hr => by
  subst e
  obtain ⟨G'', s2, v2, den, _⟩ := hr.share st vl
  exact k v H' G'' n' _ hn s2 v2 ⟨dt z, ⟨z, hz, rfl⟩, rfl⟩ (.sh den)⟩
/-- a text's sign at a place known by a property -/
theorem ev_ixSR {z : Str} {PI : Int → Prop} {P : Str → Prop} (ha : Ev X B Γ c1 a (Sd (dt z))) (hb : Ev X B Γ c2 b (Rt PI)) (hz : z.length ≤ sizeLine) (h : ∀ i, PI i → ∃ k, atI z.cps.toList i = some k ∧ P ⟨#[k]⟩) (hs : PlainIx b := by exact fun _ _ => rfl) : Ev X B Γ (c1 + c2) (.Subscript a b pos) (Rt P) :=
  ev_ixN ix_str (ev_sp ha) hb hs fun d1 d2 e1 ⟨i, hi, e2⟩ => by
    subst e1; subst e2
    obtain ⟨k, h1, h2⟩ := h i hi
    exact fun n G H u v Q vl g1 g2 q => ok_ixS hz h1 n G H u v Q vl g1 g2 fun v' H' G' r' st v2 hS hr => q v' H' G' r' st v2 (by rw [show r' = _ from hS]; exact ⟨_, ⟨_, h2, rfl⟩, rfl⟩) hr
/-- sep.join(xs) -/
theorem ev_joinR {z : Str} {P : List Str → Prop} {P' : Str → Prop} (ho : Ev X B Γ c1 a (Sd (dt z))) (he : Ev X B Γ c2 e (Rt P)) (h : ∀ ys, P ys → (ys.map (·.length)).sum + ys.length * z.length ≤ 16777216 ∧ P' (Txt.join z ys)) (hs : starEach [e] X.env = [(false, eval e X.env)] := by rfl) (hbase : attributeBase a "join" X.env (eval a X.env) = eval a X.env := by rfl) (hline : (apos.endLine == pos.line) = true := by rfl) :
    Ev X B Γ (c1 + c2) (.Call (.Attribute a "join" apos) [e] [] pos) (Rt P') :=
  pe_mono (pe_join ho he hs hbase hline) fun σ H Q ⟨n, G, pr, kk⟩ => ⟨n, G, ⟨pr.ok, pr.val, pr.ste, by have := pr.lim; omega⟩, fun v1 H1 G1 n1 r1 hn1 st1 vl1 hS1 hr1 => by
    cases hS1
    cases hr1 with | sh d1 =>
    have e1 := dp_str d1.dp
    refine ⟨⟨z, e1⟩, n1, G1, pr.step st1 vl1 (by have := pr.lim; omega), fun v2 H2 G2 n2 r2 hn2 st2 vl2 ⟨d, ⟨ys, hy, e2⟩, e3⟩ hr2 => ?_⟩
    subst e2; subst e3
    cases hr2 with | sh d2 =>
    obtain ⟨ad, vs, rfl, ha, hv⟩ := dp_list d2.dp
    rw [dq_strs hv] at ha
    exact ⟨z, ad, ys, e1, rfl, .inl (.of (vl2.sub.lst ha)), (h ys hy).1, kk _ H2 G2 n2 _ (by omega) (st1.trans st2) vl2 ⟨_, ⟨_, (h ys hy).2, rfl⟩, rfl⟩ (.sh (.py (.str _)))⟩⟩
end
end DL
end

section
set_option Elab.async false
set_option linter.all false
set_option maxRecDepth 100000
set_option maxHeartbeats 4000000
set_option autoImplicit false
/-! ClB: drawn words. -/
namespace DL
open PySem PySem.Spec PyProof.Rows L2 PySem.W PySem.SeqAt
variable [Wd]
theorem signs_app (x y : Str) : signs (x ++ y) = signs x ++ signs y := by
  unfold signs
  rw [show (x ++ y).cps.toList = x.cps.toList ++ y.cps.toList from Array.toList_append, List.map_append]
theorem signs_one {x : Str} (h : x.length = 1) : signs x = [x] := by
  rw [len_str] at h
  obtain ⟨k, hk⟩ := List.length_eq_one_iff.mp h
  unfold signs
  rw [hk]
  have : x = ⟨#[k]⟩ := str_ext (by rw [hk])
  rw [this]; rfl
theorem signs_join : ∀ {ys : List Str}, (∀ y ∈ ys, y.length = 1) → signs (Str.join "" ys) = ys
  | [], _ => rfl
  | [x], h => signs_one (h x List.mem_cons_self)
  | x :: z :: r, h => by
    show signs (x ++ ("" : Str) ++ Str.join "" (z :: r)) = _
    rw [signs_app, signs_app, signs_one (h x List.mem_cons_self), signs_join fun y hy => h y (List.mem_cons_of_mem _ hy)]
    rfl
theorem signs_len (x : Str) : (signs x).length = x.length := by unfold signs; rw [List.length_map, len_str]
theorem join_word {ys : List Str} (h1 : ∀ y ∈ ys, y.length = 1 ∧ letter y = true) (h2 : 1 ≤ ys.length) (h3 : ys.length ≤ 8) : isWord (Txt.join "" ys) = true := by
  rw [TL.join_eq]
  have e := signs_join fun y hy => (h1 y hy).1
  have l : (Str.join "" ys).length = ys.length := by rw [← signs_len, e]
  unfold isWord
  rw [e, l]
  simp only [Bool.and_eq_true, decide_eq_true_eq, List.all_eq_true]
  exact ⟨⟨by omega, by omega⟩, fun y hy => (h1 y hy).2⟩
theorem sum_ones : ∀ {ys : List Str}, (∀ y ∈ ys, y.length = 1) → (ys.map (·.length)).sum = ys.length
  | [], _ => rfl
  | x :: r, h => by
    rw [List.map_cons, List.sum_cons, h x List.mem_cons_self, sum_ones fun y hy => h y (List.mem_cons_of_mem _ hy), List.length_cons]
    omega
abbrev abc : Str := "abcdefghijklmnopqrstuvwxyz"
theorem abc_at (i : Int) (h : 0 ≤ i ∧ i < 26) : ∃ k, atI abc.cps.toList i = some k ∧ ((⟨#[k]⟩ : Str).length = 1 ∧ letter ⟨#[k]⟩ = true) := by
  obtain ⟨n, rfl⟩ := Int.eq_ofNat_of_zero_le h.1
  have hn : n < 26 := by omega
  have key : ∀ n < 26, (match abc.cps.toList[n]? with
      | some k => letter ⟨#[k]⟩
      | none => false) = true := by decide +kernel
  have q := key n hn
  rw [show ((n : Nat) : Int) = Int.ofNat n from rfl, show Int.ofNat n = (n : Int) from rfl, atI_nat]
  cases e : abc.cps.toList[n]? with
  | none => rw [e] at q; cases q
  | some k => rw [e] at q; exact ⟨k, rfl, rfl, q⟩
end DL
end

section
set_option Elab.async false
set_option linter.all false
set_option maxRecDepth 100000
set_option maxHeartbeats 4000000
set_option autoImplicit false
/-! DmA: a, b = e1, e2; own lists asked. -/
namespace DL
open PySem PySem.Spec PyProof.Rows L2 PySem.W PySem.SeqAt
variable [Wd]
section
variable {X : Cx} {B : Bs} {Γ : List Ent} {c c0 c1 c2 c3 k : Nat} {e a b t : Expr} {px py pt pt2 p p2 pos : Pos} {O : Out} {rest : List Stmt} {S1 S2 : Ent → Prop} {α β : Type} [DecidableEq α] [Datum α] [DecidableEq β] [Datum β]
theorem sv_par (i j : Nat) {x y : Str} {kt k2 : Nat} (hc : X.calm = true) (nd : X.N.Nodup) (h1 : Ev X B Γ c1 a S1) (h2 : Ev X B Γ c2 b S2) (hk : ∀ r1 r2, S1 r1 → S2 r2 → Sv X B ((Γ.set i r1).set j r2) c3 rest O) (hij : i ≠ j := by decide) (hi : X.N[i]? = some x := by rfl) (hj : X.N[j]? = some y := by rfl) (hx : X.env.scope.names.lookup x = some .local := by rfl) (hy : X.env.scope.names.lookup y = some .local := by rfl)
    (hw : swappedStores [.Tuple [.Name x px, .Name y py] kt pt] (.Tuple [a, b] k2 pt2) X.env = pure (some [x, y]) := by rfl) (hs : swapsWithSole [.Tuple [.Name x px, .Name y py] kt pt] (.Tuple [a, b] k2 pt2) pos.line X.env = pure false := by rfl)
    (q1 : starEach [a, b] X.env = (false, eval a X.env) :: starEach [b] X.env := by rfl) (q2 : starEach [b] X.env = (false, eval b X.env) :: starEach [] X.env := by rfl) : Sv X B Γ (c1 + c2 + c3) (.Assign [.Tuple [.Name x px, .Name y py] kt pt] (.Tuple [a, b] k2 pt2) pos :: rest) O :=
  sv_cons (N := fun Γ' => ∃ r1 r2, S1 r1 ∧ S2 r2 ∧ Γ' = (Γ.set i r1).set j r2) (ps_mono (ps_par hc nd hi hj hij hx hy (pa_cons h1 (pa_cons h2 pa_nil q2) q1) hw hs) fun D σ H ⟨n, G, pr, k1, k2, k3, k4⟩ => ⟨n, G, ⟨pr.ok, pr.val, pr.ste, by have := pr.lim; omega⟩, fun v1 H1 G1 n1 r1 hn1 st1 vl1 hS1 hr1 => by
    refine ⟨n1, G1, pr.step st1 vl1 (by have := pr.lim; omega), fun v2 H2 G2 n2 r2 hn2 st2 vl2 hS2 hr2 => ?_⟩
    refine ⟨v1, v2, rfl, k1.go _ _ H2 G2 n2 ⟨r1, r2, hS1, hS2, rfl⟩ (by omega) ?_ vl2 (pr.ste.trans (st1.trans st2)) (st1.g.trans st2.g)⟩
    exact (pr.ok.res st1 hr1 pr.ste.h).res st2 hr2 (pr.ste.trans st1).h⟩) fun Γ' ⟨r1, r2, a1, a2, q⟩ => by subst q; exact hk r1 r2 a1 a2
/-- x in xs, xs an own list -/
theorem ow_in (i : Nat) {x : Str} {z : α} {xs : List α} [Shallow α] {f : Bool → Bool} {op : CmpOp} (hu : Hu X) (hop : (op = .In ∧ f = fun b => b) ∨ (op = .NotIn ∧ f = fun b => !b)) (hΓ : Γ[i]? = some (Ent.ow (dt xs))) (ha : Ev X B Γ c1 a (Sd (dt z))) {S : Bool → Prop} (hN : X.N[i]? = some x := by rfl) (hv : Vis X.env.scope x := by first | exact Or.inl rfl | exact Or.inr (Or.inl rfl) | exact Or.inr (Or.inr rfl)) (hd : (x == ("__debug__" : Str)) = false := by decide) (hcd : (x == ("__classdict__" : Str)) = false := by decide) (hm : behindInMarks op (.Name x p2) = false := by rfl) :
    Tv X B Γ c1 (.Compare a [op] [.Name x p2] pos) (fun r => r = f (decide (z ∈ xs))) := by
  have ro : OpR X (compareOp op) (rB X.K fun (x : α) (y : List α) => f (decide (x ∈ y))) := by
    rcases hop with ⟨rfl, rfl⟩ | ⟨rfl, rfl⟩
    · exact opr_B (g := fun (x : α) (y : List α) => decide (x ∈ y)) (PyIn.rule (α := α) (β := List α) hu)
    · exact opr_B (g := fun (x : α) (y : List α) => !decide (x ∈ y)) (PyIn.ruleN (α := α) (β := List α) hu)
  refine pt_mono (pt_cmpR ro ha (pe_var (pos := p2) hN hv hd hcd) hm) fun σ H Q ⟨n, G, pr, kk⟩ => ⟨n, G, pr, fun v H1 G1 n1 r hn st vl hS hr => ?_⟩
  cases hS
  cases hr with | sh den =>
  obtain ⟨ad, o, e1, e2, e3, e4, e5⟩ := (pr.ok.step st).ow i _ hΓ
  obtain ⟨vs, rfl, hq⟩ := own_list e5
  exact ⟨_, e1, z, xs, dp_sub vl.sub den.dp, .lst e4 (dpAll_sub vl.sub hq), _, rfl, kk _ H1 G1 n1 hn st vl rfl⟩
end
end DL
end

section
set_option Elab.async false
set_option linter.all false
set_option maxRecDepth 100000
set_option maxHeartbeats 4000000
set_option autoImplicit false
/-! DmB: list(text), list(zip(a, b)), tuples back to front. -/
namespace DL
open PySem PySem.Spec PyProof.Rows L2 PySem.W PySem.SeqAt
variable [Wd]
section
variable {X : Cx} {B : Bs} {Γ : List Ent} {c c1 c2 : Nat} {e a b : Expr} {p pos : Pos}
/-- list(text) -/
theorem call_list_text (hc : X.calm = true) : CallR X (.type "list") (fun xs H Q => ∃ z : Str, xs = [.str z] ∧ z.length ≤ sizeLine ∧ ∀ q, H q = none → Q (.ref q) (upd H q (.lst ((signs z).map V.str)))) := by
  intro pins s σ H xs us Q I r h
  obtain ⟨z, rfl, hz, q⟩ := h
  obtain ⟨u, rfl, rx⟩ := vals1 r
  obtain ⟨t, rfl⟩ := rx
  have lz : z.cps.toList.length = z.cps.size := Array.length_toList
  refine call_list_str (hn := hz) (I.ok.hd hc) z t fun h' tk acc n hk e hi => ?_
  have hl : ((signs z).map V.str).length = acc.toList.length := by
    unfold signs
    rw [List.length_map, List.length_map, lz, Array.length_toList]
    exact hi.1.symm
  refine ⟨.ref s.heap.objs.size, upd H s.heap.objs.size (.lst ((signs z).map V.str)), I.laid hk (Nat.le_refl _) ⟨?_, acc.toList, n, ?_, by rw [Array.toArray_toList]; exact e⟩, rfl, q _ (I.hok.fresh (Nat.le_refl _))⟩
  · rw [hl, Array.length_toList, hi.1]; exact hz
  · refine vals_of_idx _ _ hl.symm fun j u hj => ?_
    obtain ⟨k, t', hk, rfl⟩ := hi.2 j u (by rw [← Array.getElem?_toList]; exact hj)
    have hk' : z.cps.toList[j]? = some k := by rw [Array.getElem?_toList]; exact hk
    exact ⟨.str ⟨#[k]⟩, by unfold signs; rw [List.getElem?_map, List.getElem?_map, hk']; rfl, ⟨_, rfl⟩⟩
theorem dq_texts {K : PySem.W.Frag} {G : Hp} : ∀ ys : List Str, DqAll K G (ys.map V.str) (ys.map Datum.toD)
  | [] => .nil
  | y :: ys => .cons (.str y) (dq_texts ys)
theorem ev_listS {z : Str} (hc : X.calm = true) (hm : X.mg "list" = none) (ha : Ev X B Γ c1 a (Sd (dt z))) (hz : z.length ≤ sizeLine) (hg : Gl X "list" := by rfl) (h1 : starEach [a] X.env = (false, eval a X.env) :: starEach [] X.env := by rfl) (h3 : (backTo pos (starEach [] X.env)).any (·.1) = false := by rfl) :
    Ev X B Γ (c1 + 0) (.Call (.Name "list" p) [a] [] pos) (So (dt (signs z))) := ev_callTy (call_list_text hc) hm (av_cons ha av_nil h1) (fun n G H vs Q vl hd k => by
    obtain ⟨v, rfl, g1⟩ := denAll1 hd
    rw [dp_str g1.dp]
    refine ⟨z, rfl, hz, fun l hl => ?_⟩
    obtain ⟨s1, v1⟩ := Ste.new (o := .lst ((signs z).map V.str)) vl hl trivial
    exact k _ _ _ _ s1 v1 rfl (Res.newL vl hl (.py (dq_texts _)))) hg (by decide +kernel) (by decide) (by decide) h1 h3
end
end DL
end

section
set_option Elab.async false
set_option linter.all false
set_option maxRecDepth 100000
set_option maxHeartbeats 4000000
set_option autoImplicit false
/-! DmC: tuples back to front. -/
namespace DL
open PySem PySem.Spec PyProof.Rows L2 PySem.W PySem.SeqAt
variable [Wd]
section
variable {prog : Program} {w : World} {A : Around} {E : Value → Shared → Prop} {s : Shared}
theorem back_ends (n : Nat) : Builtin.Slice.sliceAdjust none none (-1) (n : Int) = ((n : Int) - 1, -1) := rfl
theorem back_many (n : Nat) : Builtin.Slice.slicePlaces ((n : Int) - 1) (-1) (-1) = n := by
  unfold Builtin.Slice.slicePlaces
  rw [if_neg (by decide)]
  by_cases h : (n : Int) - 1 > -1
  · rw [if_pos h, show (- -1 : Int) = 1 by decide, Int.ediv_one]; omega
  · rw [if_neg h]; omega
theorem back_applied {sl : Addr} {vs : Value} {n : Nat} {Q : Int × Int × Nat → Shared → Prop} (hs : s.heap.IsSliceOf sl .none .none vs) (pq : IsPart vs (some (-1)))
    (h : Q ((n : Int) - 1, -1, n) s) : wpAny (model prog w) A (Builtin.Slice.sliceApplied (.ref sl) (pure (n : Int))) Q E s := by
  obtain ⟨ob, hob, hcb, hdb⟩ := id hs
  unfold Builtin.Slice.sliceApplied Builtin.Slice.sliceFields
  refine wpAny_bind (wpAny_bind (wpAny_field hob hdb (x := .none) rfl (wpAny_bind (wpAny_field hob hdb (x := .none) rfl (wpAny_bind (wpAny_field hob hdb (x := vs) rfl (wpAny_pure ?_)))))))
  refine wpAny_bind (HT.slicePart_ pq ?_)
  show wpAny _ _ (if ((-1 : Int) == 0) = true then _ else _) _ _ s
  rw [if_neg (by decide)]
  refine wpAny_bind (HT.slicePart_ .none (wpAny_bind (HT.slicePart_ .none (wpAny_bind (wpAny_pure ?_)))))
  show wpAny _ _ (pure ((n : Int) - 1, (-1 : Int), Builtin.Slice.slicePlaces ((n : Int) - 1) (-1) (-1))) _ _ s
  rw [back_many]
  exact wpAny_pure h
theorem fm_map {α β : Type} {f : α → Option β} {g : α → β} : ∀ {xs : List α}, (∀ x ∈ xs, f x = some (g x)) → xs.filterMap f = xs.map g
  | [], _ => rfl
  | x :: xs, h => by rw [List.filterMap_cons, h x List.mem_cons_self, List.map_cons, fm_map fun y hy => h y (List.mem_cons_of_mem _ hy)]
theorem back_pick (xs : Array Value) : ((List.range xs.size).filterMap fun (m : Nat) => xs[((xs.size : Int) - 1 + (m : Int) * (-1)).toNat]?).toArray = xs.toList.reverse.toArray := by
  have e : (fun (m : Nat) => xs[((xs.size : Int) - 1 + (m : Int) * (-1)).toNat]?) = fun (m : Nat) => xs[((xs.size : Int) - 1 - (m : Int)).toNat]? := by
    funext m
    rw [show (xs.size : Int) - 1 + (m : Int) * (-1) = (xs.size : Int) - 1 - (m : Int) by omega]
  rw [e]
  congr 1
  apply List.ext_getElem?
  intro i
  have e2 : (List.range xs.size).filterMap (fun (m : Nat) => xs[((xs.size : Int) - 1 - (m : Int)).toNat]?) = (List.range xs.size).map (fun (m : Nat) => xs.getD ((xs.size : Int) - 1 - (m : Int)).toNat .none) := by
    refine fm_map fun m hm => ?_
    have := List.mem_range.mp hm
    have hl : ((xs.size : Int) - 1 - (m : Int)).toNat < xs.size := by omega
    have hl2 : xs.size - 1 - m < xs.size := by omega
    simp [Array.getD, hl2]
  rw [e2, List.getElem?_map]
  by_cases hi : i < xs.size
  · rw [List.getElem?_range hi, List.getElem?_reverse (by simpa using hi)]
    have h1 : ((xs.size : Int) - 1 - (i : Int)).toNat = xs.size - 1 - i := by omega
    have hl : xs.size - 1 - i < xs.size := by omega
    simp [h1, Array.getD, hl]
  · rw [List.getElem?_eq_none (by simpa using hi), List.getElem?_eq_none (by simpa using hi)]; rfl
end
end DL
end

section
set_option Elab.async false
set_option linter.all false
set_option maxRecDepth 100000
set_option maxHeartbeats 4000000
set_option autoImplicit false
/-! DmD: list(zip(a, b)) of two lists. -/
namespace DL
open PySem PySem.Spec PyProof.Rows L2 PySem.W PySem.SeqAt
variable [Wd]
theorem zip_len_none : typeLookup (.type "zip") "__len__" = pure none := am_miss_of_fast (by decide +kernel)
theorem zip_hint_none : typeLookup (.type "zip") "__length_hint__" = pure none := am_miss_of_fast (by decide +kernel)
section
variable {prog : Program} {w : World} {A : Around} {E : Value → Shared → Prop} {s : Shared}
/-- a zip from which i pairs were drawn, each of which is kept -/
structure ZSt (xs ys : Array Value) (z TI TO i1 i2 l1 l2 S : Addr) (i : Nat) (h : Heap) : Prop where
  z : (IsZip h z TI TO .none ∧ ∃ a b, IsPair h TO a b) ∨ (∃ T f oT, IsZipHeld h z TI TO T f ∧ h.get? T = some oT ∧ T ≠ z ∧ T ≠ i1 ∧ T ≠ i2 ∧ T ≠ S)
  ti : IsPair h TI (.ref i1) (.ref i2)
  h1 : h.IsListIter i1 l1 i
  h2 : h.IsListIter i2 l2 i
  hl1 : h.IsList l1 xs
  hl2 : h.IsList l2 ys
/-- all is apart from the list that is made -/
structure ZAp (z TI TO i1 i2 l1 l2 S : Addr) : Prop where
  D : ZipApart z TI TO i1 i2 l1 l2
  out : S ∉ [z, TI, TO, i1, i2, l1, l2]
variable {xs ys : Array Value} {z TI TO i1 i2 l1 l2 S : Addr} {i : Nat} {h h' : Heap}
theorem ZSt.keep (x : ZSt xs ys z TI TO i1 i2 l1 l2 S i h) (ap : ZAp z TI TO i1 i2 l1 l2 S) (k : ∀ b o, b ≠ S → h.get? b = some o → h'.get? b = some o) : ZSt xs ys z TI TO i1 i2 l1 l2 S i h' := by
  have n : ∀ c, c ∈ [z, TI, TO, i1, i2, l1, l2] → c ≠ S := fun c hc e => ap.out (e ▸ hc)
  refine ⟨?_, k _ _ (n _ (by simp)) x.ti, x.h1.at fun o e => k _ o (n _ (by simp)) e, x.h2.at fun o e => k _ o (n _ (by simp)) e, x.hl1.at fun o e => k _ o (n _ (by simp)) e, x.hl2.at fun o e => k _ o (n _ (by simp)) e⟩
  rcases x.z with ⟨q1, a, b, q2⟩ | ⟨T, f, oT, q1, q2, t1, t2, t3, t4⟩
  · exact .inl ⟨k _ _ (n _ (by simp)) q1, a, b, k _ _ (n _ (by simp)) q2⟩
  · exact .inr ⟨T, f, oT, k _ _ (n _ (by simp)) q1, k _ _ t4 q2, t1, t2, t3, t4⟩
theorem zst_item {x y : Value} {Q : Option Value → Shared → Prop} (st : ZSt xs ys z TI TO i1 i2 l1 l2 S i s.heap) (ap : ZAp z TI TO i1 i2 l1 l2 S) (hS : S < s.heap.objs.size) (hx : xs[i]? = some x) (hy : ys[i]? = some y)
    (hQ : ∀ h', ZSt xs ys z TI TO i1 i2 l1 l2 S (i + 1) h' → IsPair h' s.heap.objs.size x y → h'.objs.size = s.heap.objs.size + 1 → (∀ c o, c ≠ z → c ≠ TO → c ≠ i1 → c ≠ i2 → s.heap.get? c = some o → h'.get? c = some o) → Q (some (.ref s.heap.objs.size)) { s with heap := h' }) :
    wpAny (model prog w) A (pyNext (.ref z)) Q E s := by
  have D := ap.D
  have lt : ∀ {c o}, s.heap.get? c = some o → s.heap.objs.size ≠ c := fun e => Nat.ne_of_gt (Heap.lt_size e)
  have n1 : s.heap.objs.size ≠ i1 := by obtain ⟨_, e, _⟩ := st.h1; exact lt e
  have n2 : s.heap.objs.size ≠ i2 := by obtain ⟨_, e, _⟩ := st.h2; exact lt e
  have nS : s.heap.objs.size ≠ S := Nat.ne_of_gt hS
  rcases st.z with ⟨q1, a, b, q2⟩ | ⟨T, f, oT, q1, q2, t1, t2, t3, t4⟩
  · refine wpAny_pyNext_zip_item D q1 st.ti q2 st.h1 st.h2 st.hl1 st.hl2 hx hy fun h' a1 a2 a3 a4 a5 a6 hk => ?_
    exact hQ h' ⟨.inr ⟨_, false, _, a1, a5, lt q1, n1, n2, nS⟩, hk _ _ D.TIz D.TITO D.TIi1 D.TIi2 st.ti, a3, a4, st.hl1.at fun o e => hk _ o D.l1z D.l1TO D.l1i1 D.l1i2 e, st.hl2.at fun o e => hk _ o D.l2z D.l2TO D.l2i1 D.l2i2 e⟩ a5 a6 hk
  · refine wpAny_pyNext_zip_item_held D q1 q2 st.ti st.h1 st.h2 st.hl1 st.hl2 hx hy fun h' a1 a3 a4 a5 a6 hk => ?_
    exact hQ h' ⟨.inr ⟨T, true, oT, a1, hk _ _ t1 t2 t3 q2, t1, t2, t3, t4⟩, hk _ _ D.TIz D.TIi1 D.TIi2 st.ti, a3, a4, st.hl1.at fun o e => hk _ o D.l1z D.l1i1 D.l1i2 e, st.hl2.at fun o e => hk _ o D.l2z D.l2i1 D.l2i2 e⟩ a5 a6 fun c o c1 c2 c3 c4 e => hk c o c1 c3 c4 e
theorem zst_done {Q : Option Value → Shared → Prop} (hh : A.handled = none) (st : ZSt xs ys z TI TO i1 i2 l1 l2 S i s.heap) (ap : ZAp z TI TO i1 i2 l1 l2 S) (hend : xs[i]? = none ∨ ys[i]? = none)
    (hQ : ∀ h', (∀ c o, c ≠ z → c ≠ TO → c ≠ i1 → c ≠ i2 → s.heap.get? c = some o → h'.get? c = some o) → Q none { s with heap := h' }) : wpAny (model prog w) A (pyNext (.ref z)) Q E s := by
  rcases st.z with ⟨q1, a, b, q2⟩ | ⟨T, f, oT, q1, q2, _⟩
  · exact wpAny_pyNext_zip_end hh ap.D q1 st.ti q2 st.h1 st.h2 st.hl1 st.hl2 hend hQ
  · exact wpAny_pyNext_zip_end_held hh ap.D q1 q2 st.ti st.h1 st.h2 st.hl1 st.hl2 hend fun h' hk => hQ h' fun c o c1 _ c3 c4 e => hk c o c1 c3 c4 e
/-- the pairs made so far -/
structure ZG (xs ys : Array Value) (lo : Addr) (h : Heap) (as : List Addr) : Prop where
  rise : as.Pairwise (· < ·)
  above : ∀ a ∈ as, lo ≤ a
  pairs : ∀ (j : Nat) (a : Addr), as[j]? = some a → ∃ x y, xs[j]? = some x ∧ ys[j]? = some y ∧ IsPair h a x y
theorem ZG.there {lo : Addr} {as : List Addr} (g : ZG xs ys lo h as) {a : Addr} (ha : a ∈ as) : a < h.objs.size := by
  obtain ⟨j, hj⟩ := List.mem_iff_getElem?.mp ha
  obtain ⟨_, _, _, _, e⟩ := g.pairs j a hj
  exact Heap.lt_size e
theorem zip_loop {R : Result → Shared → Prop} {lo : Addr} {h₁ : Heap} (hh : A.handled = none) (ap : ZAp z TI TO i1 i2 l1 l2 S) (hlo : ∀ c ∈ [S, z, TO, i1, i2], c < lo) (hn : min xs.size ys.size ≤ sizeLine) (res : Value)
    (hR : ∀ h' tk acc c as, (∀ b o, b ≠ S → b ≠ z → b ≠ TO → b ≠ i1 → b ≠ i2 → h₁.get? b = some o → h'.get? b = some o) → h'.get? S = some { cls := .type "list", dict := none, data := .seq acc c, slots := #[] } → as.length = min xs.size ys.size → ZG xs ys lo h' as →
      acc.toList = as.map Value.ref → R (.ok (.ret res)) { s with heap := h', toks := tk }) :
    ∀ (k i : Nat) (h : Heap) (tk c : Nat) (acc : Array Value) (as : List Addr), min xs.size ys.size - i = k → i ≤ min xs.size ys.size → ZSt xs ys z TI TO i1 i2 l1 l2 S i h → (∀ b o, b ≠ S → b ≠ z → b ≠ TO → b ≠ i1 → b ≠ i2 → h₁.get? b = some o → h.get? b = some o) →
      h.get? S = some { cls := .type "list", dict := none, data := .seq acc c, slots := #[] } → acc.toList = as.map Value.ref → as.length = i → ZG xs ys lo h as → lo ≤ h.objs.size →
      codeAny (model prog w) A (.builtin "list.extend.loop" ⟨[.ref S, .ref z, res], []⟩) R { s with heap := h, toks := tk } := by
  have n : ∀ c, c ∈ [z, TI, TO, i1, i2, l1, l2] → S ≠ c := fun c hc e => ap.out (e ▸ hc)
  intro k
  induction k with
  | zero =>
    intro i h tk c acc as hk hi hst hkeep hS hacc hal hG hIs
    have hin : i = min xs.size ys.size := by omega
    refine codeAny_builtin PySem.F.entry_extend_loop ?_
    rw [Around.under_plainId PySem.F.plain_extend_loop _]
    show wpAny _ A.in1 (pyNext (.ref z) >>= _) _ _ _
    have hend : xs[i]? = none ∨ ys[i]? = none := by
      rcases Nat.le_total xs.size ys.size with q | q
      · exact .inl (Array.getElem?_eq_none (by omega))
      · exact .inr (Array.getElem?_eq_none (by omega))
    refine wpAny_bind (zst_done (s := { s with heap := h, toks := tk }) (A := A.in1) hh hst ap hend fun h' he => ?_)
    refine wpAny_pure (hR h' tk acc c as (fun b o b0 b1 b2 b3 b4 e => he b o b1 b2 b3 b4 (hkeep b o b0 b1 b2 b3 b4 e)) (he S _ (n _ (by simp)) (n _ (by simp)) (n _ (by simp)) (n _ (by simp)) hS) (by omega) ⟨hG.rise, hG.above, fun j a hj => ?_⟩ hacc)
    obtain ⟨x, y, e1, e2, e3⟩ := hG.pairs j a hj
    have hb := hG.above a (List.mem_of_getElem? hj)
    exact ⟨x, y, e1, e2, he a _ (Nat.ne_of_gt (Nat.lt_of_lt_of_le (hlo _ (by simp)) hb)) (Nat.ne_of_gt (Nat.lt_of_lt_of_le (hlo _ (by simp)) hb)) (Nat.ne_of_gt (Nat.lt_of_lt_of_le (hlo _ (by simp)) hb)) (Nat.ne_of_gt (Nat.lt_of_lt_of_le (hlo _ (by simp)) hb)) e3⟩
  | succ k ih =>
    intro i h tk c acc as hk hi hst hkeep hS hacc hal hG hIs
    have hlt : i < min xs.size ys.size := by omega
    obtain ⟨x, hx⟩ : ∃ p, xs[i]? = some p := ⟨xs[i], Array.getElem?_eq_getElem (by omega)⟩
    obtain ⟨y, hy⟩ : ∃ p, ys[i]? = some p := ⟨ys[i], Array.getElem?_eq_getElem (by omega)⟩
    have hsz : acc.size = i := by rw [← Array.length_toList, hacc, List.length_map, hal]
    refine codeAny_builtin PySem.F.entry_extend_loop ?_
    rw [Around.under_plainId PySem.F.plain_extend_loop _]
    show wpAny _ A.in1 (pyNext (.ref z) >>= _) _ _ _
    refine wpAny_bind (zst_item (s := { s with heap := h, toks := tk }) hst ap (Heap.lt_size hS) hx hy fun h' hst' ht hz hkp => ?_)
    dsimp only at ht hz hkp ⊢
    have hS' := hkp S _ (n _ (by simp)) (n _ (by simp)) (n _ (by simp)) (n _ (by simp)) hS
    have up : ∀ b o, b ≠ S → h'.get? b = some o → (h'.update S (Obj.mapSeq (·.push (Value.ref h.objs.size)))).get? b = some o := fun b o hb e => (Heap.get?_update_other _ _ (Ne.symm hb)).trans e
    have hSl : S < h.objs.size := Heap.lt_size hS
    show wpAny _ A.in1 (updateSeq S (·.push (Value.ref h.objs.size)) >>= _) _ _ _
    refine wpAny_bind ?_
    refine wpAny_updateSeq hS' rfl (wpAny_pure ⟨plainId_quiet PySem.F.plain_extend_loop _, ih (i + 1) _ tk _ (acc.push (Value.ref h.objs.size)) (as ++ [h.objs.size]) (by omega) hlt (hst'.keep ap up)
      (fun b o b0 b1 b2 b3 b4 e => up b o b0 (hkp b o b1 b2 b3 b4 (hkeep b o b0 b1 b2 b3 b4 e))) (Heap.get?_update_self _ hS' rfl) (by rw [Array.toList_push, hacc, List.map_append]; rfl) (by rw [List.length_append, hal]; rfl) ⟨?_, ?_, ?_⟩ ?_⟩) (by rw [hsz]; omega) (by show (acc.push (Value.ref h.objs.size)).size ≤ sizeLine + 1; rw [Array.size_push, hsz]; omega)
    · refine List.pairwise_append.mpr ⟨hG.rise, List.pairwise_singleton _ _, fun a ha b hb => ?_⟩
      rw [List.mem_singleton.mp hb]
      exact hG.there ha
    · intro a ha
      rcases List.mem_append.mp ha with ha | ha
      · exact hG.above a ha
      · rw [List.mem_singleton.mp ha]; exact hIs
    · intro j b hj
      rcases Nat.lt_trichotomy j as.length with q1 | q1 | q1
      · rw [List.getElem?_append_left q1] at hj
        obtain ⟨x', y', e1, e2, e3⟩ := hG.pairs j b hj
        have hb := hG.above b (List.mem_of_getElem? hj)
        exact ⟨x', y', e1, e2, up b _ (Nat.ne_of_gt (Nat.lt_of_lt_of_le (hlo _ (by simp)) hb)) (hkp b _ (Nat.ne_of_gt (Nat.lt_of_lt_of_le (hlo _ (by simp)) hb)) (Nat.ne_of_gt (Nat.lt_of_lt_of_le (hlo _ (by simp)) hb)) (Nat.ne_of_gt (Nat.lt_of_lt_of_le (hlo _ (by simp)) hb)) (Nat.ne_of_gt (Nat.lt_of_lt_of_le (hlo _ (by simp)) hb)) e3)⟩
      · subst q1
        have hb : h.objs.size = b := by simpa using hj
        subst hb
        exact ⟨x, y, by rw [hal]; exact hx, by rw [hal]; exact hy, up _ _ (Nat.ne_of_gt hSl) ht⟩
      · have hnone : (as ++ [h.objs.size])[j]? = none := List.getElem?_eq_none (by rw [List.length_append, List.length_singleton]; omega)
        rw [hnone] at hj; cases hj
    · have e : (h'.update S (Obj.mapSeq (·.push (Value.ref h.objs.size)))).get? h.objs.size = _ := up _ _ (Nat.ne_of_gt hSl) ht
      exact Nat.le_of_lt (Nat.lt_of_le_of_lt hIs (Heap.lt_size e))
theorem zip_hint (hT : s.TypeIs (.ref z) "zip") {Q : Bool → Shared → Prop} (h : Q true s) : wpAny (model prog w) A (Builtin.List.listLengthHint (.ref z)) Q E s := by
  unfold Builtin.List.listLengthHint
  refine wpAny_bind (wpAny_specialOf hT zip_len_none ?_)
  refine wpAny_ite_split (fun hab => absurd hab (by decide)) (fun _ => ?_)
  refine wpAny_ite_split (fun hab => absurd hab (by decide)) (fun _ => ?_)
  exact wpAny_bind (wpAny_specialOf hT zip_hint_none (wpAny_pure h))
theorem zip_extend {R : Result → Shared → Prop} (hh : A.handled = none) (st : ZSt xs ys z TI TO i1 i2 l1 l2 S 0 s.heap) (ap : ZAp z TI TO i1 i2 l1 l2 S) (res : Value) (c₀ : Nat) (hS : s.heap.get? S = some { cls := .type "list", data := .seq #[] c₀ }) (hn : min xs.size ys.size ≤ sizeLine)
    (hz : IsZip s.heap z TI TO .none) (hTO : ∃ a b, IsPair s.heap TO a b)
    (hR : ∀ h' tk acc c as, (∀ b o, b ≠ S → b ≠ z → b ≠ TO → b ≠ i1 → b ≠ i2 → s.heap.get? b = some o → h'.get? b = some o) → h'.get? S = some { cls := .type "list", dict := none, data := .seq acc c, slots := #[] } → as.length = min xs.size ys.size → ZG xs ys s.heap.objs.size h' as →
      acc.toList = as.map Value.ref → R (.ok (.ret res)) { s with heap := h', toks := tk }) :
    wpAny (model prog w) A.in1 (Builtin.List.listExtendWith (.ref S) (.ref z) res)
      (fun fin s' => match fin with | .done f => R (.ok f) s' | .again c' => c'.quiet = true ∧ codeAny (model prog w) A c' R s') (fun e s' => R (.error e) s') s := by
  have hT : s.TypeIs (.ref z) "zip" := ⟨_, hz, rfl⟩
  have hlo : ∀ c ∈ [S, z, TO, i1, i2], c < s.heap.objs.size := fun c hc => by
    have e' : c = S ∨ c = z ∨ c = TO ∨ c = i1 ∨ c = i2 := by simpa using hc
    rcases e' with q | q | q | q | q
    · rw [q]; exact Heap.lt_size hS
    · rw [q]; exact Heap.lt_size hz
    · rw [q]; obtain ⟨_, _, e⟩ := hTO; exact Heap.lt_size e
    · rw [q]; obtain ⟨_, e, _⟩ := st.h1; exact Heap.lt_size e
    · rw [q]; obtain ⟨_, e, _⟩ := st.h2; exact Heap.lt_size e
  have hSz : S ≠ z := fun e => ap.out (by rw [e]; simp)
  have key : ∀ (h : Heap) (c₁ tk : Nat), (∀ b o, b ≠ S → s.heap.get? b = some o → h.get? b = some o) → s.heap.objs.size ≤ h.objs.size →
      h.get? S = some { cls := .type "list", data := .seq #[] c₁ } → codeAny (model prog w) A (.builtin "list.extend.loop" ⟨[.ref S, .ref z, res], []⟩) R { s with heap := h, toks := tk } := by
    intro h c₁ tk hk hsz hS₁
    refine zip_loop (s := s) (h₁ := s.heap) hh ap hlo hn res hR
      (min xs.size ys.size) 0 h tk c₁ #[] [] (Nat.sub_zero _) (Nat.zero_le _) (st.keep ap hk) (fun b o hb _ _ _ _ e => hk b o hb e) hS₁ rfl rfl
      ⟨List.Pairwise.nil, (fun _ ha => nomatch ha), (fun j a hj => by simp at hj)⟩ hsz
  unfold Builtin.List.listExtendWith
  refine wpAny_bind (wpAny_typeOf (T := "zip") hT ?_)
  have h1 : Builtin.List.listSameRef (.ref S) (.ref z) = false := by simp [Builtin.List.listSameRef, hSz]
  have h2 : (Value.type "zip" == Value.type "list") = false := by decide
  have h3 : (Value.type "zip" == Value.type "tuple") = false := by decide
  simp only [h1, h2, h3, Bool.or_false, Bool.false_eq_true, if_false]
  refine wpAny_bind (wpAny_pyIter_zip hz ?_)
  refine wpAny_bind (wpAny_holding (zip_hint hT ?_))
  refine wpAny_ite_split (fun _ => ?_) (fun _ => wpAny_pure ⟨plainId_quiet PySem.F.plain_extend_loop _, key _ c₀ _ (fun b o _ e => e) (Nat.le_refl _) hS⟩)
  refine wpAny_bind (wpAny_rule ?_)
  refine wpAny_bind ?_
  show wpAny _ _ (updateSeq S (·.push .none) >>= fun _ => updateSeq S (·.pop)) _ _ _
  refine wpAny_bind (wpAny_updateSeq hS rfl ?_)
  have hS₂ := Heap.get?_update_self (Obj.mapSeq (·.push Value.none)) hS rfl
  refine wpAny_updateSeq (hz := by seq_fits) hS₂ rfl ?_
  have hS₃ := Heap.get?_update_self (Obj.mapSeq (·.pop)) hS₂ rfl
  refine wpAny_pure ⟨plainId_quiet PySem.F.plain_extend_loop _, key _ _ _ (fun b o hb e => ?_) ?_ hS₃⟩
  · exact (Heap.get?_update_other _ _ (Ne.symm hb)).trans ((Heap.get?_update_other _ _ (Ne.symm hb)).trans e)
  · rw [Heap.size_update, Heap.size_update]; exact Nat.le_refl _
theorem zip_init {R : Result → Shared → Prop} (hh : A.handled = none) (st : ZSt xs ys z TI TO i1 i2 l1 l2 S 0 s.heap) (ap : ZAp z TI TO i1 i2 l1 l2 S) (hS : s.heap.get? S = some { cls := .type "list", data := .seq #[] }) (hn : min xs.size ys.size ≤ sizeLine)
    (hz : IsZip s.heap z TI TO .none) (hTO : ∃ a b, IsPair s.heap TO a b)
    (hR : ∀ h' tk acc c as, (∀ b o, b ≠ S → b ≠ z → b ≠ TO → b ≠ i1 → b ≠ i2 → s.heap.get? b = some o → h'.get? b = some o) → h'.get? S = some { cls := .type "list", dict := none, data := .seq acc c, slots := #[] } → as.length = min xs.size ys.size → ZG xs ys s.heap.objs.size h' as →
      acc.toList = as.map Value.ref → R (.ok (.ret .none)) { s with heap := h', toks := tk }) :
    wpAny (model prog w) A.in1 (Builtin.«list.__init__» ⟨[.ref S, .ref z], []⟩)
      (fun fin s' => match fin with | .done f => R (.ok f) s' | .again c' => c'.quiet = true ∧ codeAny (model prog w) A c' R s') (fun e s' => R (.error e) s') s := by
  show wpAny _ _ (do let old ← Builtin.List.listItems (.ref S); Builtin.List.listUpdate (.ref S) (fun _ => #[]); letGo old.toList.reverse; Builtin.List.listExtendWith (.ref S) (.ref z) .none) _ _ s
  refine wpAny_bind ?_
  unfold Builtin.List.listItems
  refine wpAny_bind (wpAny_seqItems hS rfl (wpAny_pure ?_))
  show wpAny _ _ (updateSeq S (fun _ => #[]) >>= fun _ => letGo (#[] : Array Value).toList.reverse >>= fun _ => Builtin.List.listExtendWith (.ref S) (.ref z) .none) _ _ s
  refine wpAny_bind (wpAny_updateSeq hS rfl ?_)
  have hS₂ := Heap.get?_update_self (Obj.mapSeq (fun _ => (#[] : Array Value))) hS rfl
  have oth : ∀ b o, b ≠ S → s.heap.get? b = some o → (s.heap.update S (Obj.mapSeq (fun _ => (#[] : Array Value)))).get? b = some o :=
    fun b o hb e => (Heap.get?_update_other _ _ (Ne.symm hb)).trans e
  have n : ∀ c, c ∈ [z, TI, TO, i1, i2, l1, l2] → c ≠ S := fun c hc e => ap.out (e ▸ hc)
  refine wpAny_bind (wpAny_letGo ?_)
  have szu : (s.heap.update S (Obj.mapSeq (fun _ => (#[] : Array Value)))).objs.size = s.heap.objs.size := Heap.size_update ..
  refine zip_extend hh (st.keep ap oth) ap .none _ hS₂ hn (oth _ _ (n _ (by simp)) hz) (by obtain ⟨a, b, e⟩ := hTO; exact ⟨a, b, oth _ _ (n _ (by simp)) e⟩) fun h' tk acc c as hk hS' hl hG hacc => ?_
  refine hR h' tk acc c as (fun b o b0 b1 b2 b3 b4 e => hk b o b0 b1 b2 b3 b4 (oth b o b0 e)) hS' hl ?_ hacc
  dsimp only at hG
  rw [szu] at hG
  exact hG
theorem call_list_zip {Q : Value → Shared → Prop} (hh : A.handled = none) (D : ZipApart z TI TO i1 i2 l1 l2) (hz : IsZip s.heap z TI TO .none) (hTI : IsPair s.heap TI (.ref i1) (.ref i2)) (hTO : ∃ a b, IsPair s.heap TO a b)
    (h1 : s.heap.IsListIter i1 l1 0) (h2 : s.heap.IsListIter i2 l2 0) (hl1 : s.heap.IsList l1 xs) (hl2 : s.heap.IsList l2 ys) (hn : min xs.size ys.size ≤ sizeLine)
    (hQ : ∀ h' tk acc c as, (∀ b o, b ≠ z → b ≠ TO → b ≠ i1 → b ≠ i2 → s.heap.get? b = some o → h'.get? b = some o) → h'.get? s.heap.objs.size = some { cls := .type "list", dict := none, data := .seq acc c, slots := #[] } → as.length = min xs.size ys.size → ZG xs ys (s.heap.objs.size + 1) h' as →
      acc.toList = as.map Value.ref → Q (.ref s.heap.objs.size) { s with heap := h', toks := tk }) :
    wpAny (model prog w) A (call (.type "list") [.ref z]) Q E s := by
  refine callType_codes (Q₁ := fun obj s₁ => obj = .ref s.heap.objs.size ∧ s₁ = { s with heap := s.heap.push { cls := .type "list", data := .seq #[] } }) PySem.F.called_list (PySem.F.typeCall_list_1 _) PySem.F.entry_list_init
    (code_list_new _ ⟨rfl, rfl⟩) fun obj s₁ h₁ => ?_
  obtain ⟨rfl, rfl⟩ := h₁
  have hS : (s.heap.push { cls := .type "list", data := .seq #[] }).get? s.heap.objs.size = some { cls := .type "list", data := .seq #[] } := Heap.get?_push_size _ rfl
  have up : ∀ b o, s.heap.get? b = some o → (s.heap.push { cls := .type "list", data := .seq #[] }).get? b = some o := fun b o e => Heap.get?_push_of_some _ e
  have lt : ∀ c o, s.heap.get? c = some o → s.heap.objs.size ≠ c := fun c o e => Nat.ne_of_gt (Heap.lt_size e)
  have ap : ZAp z TI TO i1 i2 l1 l2 s.heap.objs.size := ⟨D, fun hc => by
    have e' : s.heap.objs.size = z ∨ s.heap.objs.size = TI ∨ s.heap.objs.size = TO ∨ s.heap.objs.size = i1 ∨ s.heap.objs.size = i2 ∨ s.heap.objs.size = l1 ∨ s.heap.objs.size = l2 := by simpa using hc
    rcases e' with q | q | q | q | q | q | q
    · exact lt _ _ hz q
    · exact lt _ _ hTI q
    · obtain ⟨_, _, e⟩ := hTO; exact lt _ _ e q
    · obtain ⟨_, e, _⟩ := h1; exact lt _ _ e q
    · obtain ⟨_, e, _⟩ := h2; exact lt _ _ e q
    · obtain ⟨_, e, _⟩ := hl1; exact lt _ _ e q
    · obtain ⟨_, e, _⟩ := hl2; exact lt _ _ e q⟩
  obtain ⟨a, b, hab⟩ := hTO
  refine ⟨⟨_, hS, rfl⟩, PySem.F.args_list_init_2 _ _, zip_init (A := A.in1) hh ⟨.inl ⟨up _ _ hz, a, b, up _ _ hab⟩, up _ _ hTI, h1.at fun o e => up _ o e, h2.at fun o e => up _ o e, hl1.at fun o e => up _ o e, hl2.at fun o e => up _ o e⟩ ap hS hn (up _ _ hz) ⟨a, b, up _ _ hab⟩ fun h' tk acc c as hk hS' hl hG hacc => ?_⟩
  refine ⟨rfl, hQ h' tk acc c as (fun b o b1 b2 b3 b4 e => hk b o (lt b o e).symm b1 b2 b3 b4 (up b o e)) hS' hl ?_ hacc⟩
  dsimp only at hG
  rw [Heap.size_push] at hG
  exact hG
end
end DL
end

section
set_option Elab.async false
set_option linter.all false
set_option maxRecDepth 100000
set_option maxHeartbeats 4000000
set_option autoImplicit false
/-! DmE: list(zip(a, b)) as an expression. -/
namespace DL
open PySem PySem.Spec PyProof.Rows L2 PySem.W PySem.SeqAt
variable [Wd]
/-- several new objects are laid at once -/
theorem laidMany {X : Cx} {pins : List (Addr × Obj)} {σ : L2.St} {H H' : Hp} {s : Shared} {h' : Heap} {t' : Nat} (I : Inv X pins σ H s) (k : ∀ b o, s.heap.get? b = some o → h'.get? b = some o) (old : ∀ b, H b ≠ none → H' b = H b)
    (new : ∀ b, H b = none → H' b ≠ none → s.heap.objs.size ≤ b) (ok : ∀ b o, H b = none → H' b = some o → ObjOk X.prog X.w H' h' b o) : Inv X pins σ H' { s with heap := h', toks := t' } := by
  have oldS : ∀ b o, H b = some o → H' b = some o := fun b o e => by rw [old b (by rw [e]; intro z; cases z)]; exact e
  have low : ∀ b o, s.heap.get? b = some o → H b = none → H' b = none := fun b o e n => by
    cases q : H' b with
    | none => rfl
    | some u => exact absurd (Nat.lt_of_le_of_lt (new b n (by rw [q]; intro z; cases z)) (Heap.lt_size e)) (Nat.lt_irrefl _)
  refine I.un (h' := h') (t' := t') ⟨fun b o q _ _ _ => k b o q, fun b o q _ _ _ => ⟨o.slots, k b o q⟩, fun b o q n _ => low b o q n, fun b o q _ => ⟨o, k b o q⟩, fun b xs q => oldS b _ q, fun b o u q => oldS b _ q, fun b ps q => ⟨#[], by rw [oldS b _ q]; simp⟩⟩ fun b o e => ?_
  cases q : H b with
  | none => exact ok b o q e
  | some u =>
    have e2 := oldS b u q
    rw [e] at e2
    cases e2
    exact (I.hok b _ q).stay (fun c v _ r => k c v r) (fun c r => oldS c _ r) fun c xs r => oldS c _ r
theorem vals_at {xs : List V} {us : List Value} {i : Nat} {x : V} {u : Value} (r : Vals xs us) (hx : xs[i]? = some x) (hu : us[i]? = some u) : RelV x u := by
  obtain ⟨v, hv, q⟩ := r.get hx
  rw [hu] at hv
  cases hv
  exact q
/-- what is read of two lists walked together, as a list of pairs -/
def ZNew (H1 : Hp) (xs ys : List V) (S : Addr) (as : List Addr) (H2 : Hp) : Prop :=
  as.length = min xs.length ys.length ∧ S ∉ as ∧ H1 S = none ∧ H2 S = some (.lst (as.map V.ref)) ∧ (∀ (j : Nat) (a : Addr), as[j]? = some a → H1 a = none ∧ ∃ x y, xs[j]? = some x ∧ ys[j]? = some y ∧ H2 a = some (.tup [x, y])) ∧ ∀ b, b ≠ S → b ∉ as → H2 b = H1 b
section
variable {X : Cx} {B : Bs} {Γ : List Ent} {c c1 c2 : Nat} {a b : Expr} {p p2 pos pos2 : Pos}
def tListZip (K : PySem.W.Frag) (ta : TA) : TE := fun σ H Q => ta σ H fun vs H1 => ∃ a b xs ys, vs = [.ref a, .ref b] ∧ SqL K H1 a xs ∧ SqL K H1 b ys ∧ ∀ S as H2, ZNew H1 xs ys S as H2 → Q (.ref S) H2
theorem pe_listZip {ta : TA} (hc : X.calm = true) (hg : Gl X "list") (hm : X.mg "list" = none) (hg2 : Gl X "zip") (hm2 : X.mg "zip" = none) (ha : PA X [a, b] ta)
    (hs : starEach [a, b] X.env = (false, eval a X.env) :: starEach [b] X.env := by rfl) (hpl : (backTo pos2 (starEach [b] X.env)).any (·.1) = false := by rfl)
    (na : starEach [.Call (.Name "zip" p2) [a, b] [] pos2] X.env = (false, eval (.Call (.Name "zip" p2) [a, b] [] pos2) X.env) :: starEach [] X.env := by rfl) : PE X (.Call (.Name "list" p) [.Call (.Name "zip" p2) [a, b] [] pos2] [] pos) (tListZip X.K ta) := by
  refine ⟨fun pins s σ H Q I h => ?_⟩
  refine Call_ (ld_blt I hg hm (show bootBuiltins "list" = some (.type "list") by decide +kernel) ?_)
  refine PyProof.Rows.callWith_type1 (PyProof.Rows.args_cons ?_ rfl) na rfl
  refine Call_ (ld_blt I hg2 hm2 PyProof.Rows.boot_zip (PyProof.Rows.callWith_type1 (thn (ha.run pos2 pins s σ H _ I h) fun us s1 ⟨vs, H1, I1, r1, q1⟩ => ?_) hs hpl))
  obtain ⟨la, lb, xs, ys, ex, hqx, hqy, q⟩ := q1
  subst ex
  cases r1 with
  | cons r rr =>
    cases rr with
    | cons r' rr =>
      cases rr
      cases r
      cases r'
      obtain ⟨its, rv, p1, z1⟩ := I1.list hqx
      obtain ⟨its2, rv2, p2, z2⟩ := I1.list hqy
      refine call_zip_2 p1.isList p2.isList fun h' hz hTI hTO h1 h2 hsz hk => ?_
      have up : ∀ {l : Addr} {v : Array Value}, s1.heap.IsList l v → h'.IsList l v := fun q => q.at fun o e => hk _ o e
      refine PyProof.Rows.args_nil ?_
      have hl : min its.toArray.size its2.toArray.size = min xs.length ys.length := by simp [rv.length, rv2.length]
      refine call_list_zip (s := { s1 with heap := h' }) (I1.ok.hd hc) (PySem.W.ktu_apart s1.heap.objs.size la lb p1.lt p2.lt) hz hTI ⟨_, _, hTO⟩ h1 h2 (up p1.isList) (up p2.isList) (by rw [hl]; exact Nat.le_trans (Nat.min_le_left _ _) z1) fun h2' tk acc cc as hk2 hS hal hG hacc => ?_
      dsimp only at hS hG
      rw [hsz] at hS
      have hG' : ZG its.toArray its2.toArray (s1.heap.objs.size + 6) h2' as := by rw [hsz] at hG; exact hG
      have all : ∀ c o, s1.heap.get? c = some o → h2'.get? c = some o := fun c o e => by
        have l := Heap.lt_size e
        exact hk2 c o (Nat.ne_of_lt (Nat.lt_of_lt_of_le l (Nat.le_add_right _ _))) (Nat.ne_of_lt (Nat.lt_of_lt_of_le l (Nat.le_add_right _ _))) (Nat.ne_of_lt l) (Nat.ne_of_lt (Nat.lt_of_lt_of_le l (Nat.le_add_right _ _))) (hk c o e)
      have out : s1.heap.objs.size + 5 ∉ as := fun hm => Nat.not_succ_le_self _ (hG'.above _ hm)
      have free : ∀ c, s1.heap.objs.size ≤ c → H1 c = none := fun c hc => I1.hok.fresh hc
      let H2 : Hp := fun d => if d = s1.heap.objs.size + 5 then some (.lst (as.map V.ref)) else match as.findIdx? (fun e => decide (e = d)) with
        | some j => some (.tup [xs.getD j .non, ys.getD j .non])
        | none => H1 d
      have nd : as.Nodup := hG'.rise.imp fun h => Nat.ne_of_lt h
      have eS : H2 (s1.heap.objs.size + 5) = some (.lst (as.map V.ref)) := by show (if _ then _ else _) = _; rw [if_pos rfl]
      have eo : ∀ d, d ≠ s1.heap.objs.size + 5 → d ∉ as → H2 d = H1 d := fun d h1 h2 => by
        show (if _ then _ else _) = _
        rw [if_neg h1]
        have : as.findIdx? (fun e => decide (e = d)) = none := List.findIdx?_eq_none_iff.mpr fun x hx => decide_eq_false fun (z : x = d) => h2 (z ▸ hx)
        rw [this]
      have ea : ∀ (j : Nat) (d : Addr), as[j]? = some d → H2 d = some (.tup [xs.getD j .non, ys.getD j .non]) := fun j d hj => by
        show (if _ then _ else _) = _
        have hm := List.mem_of_getElem? hj
        rw [if_neg (fun (z : d = s1.heap.objs.size + 5) => out (z ▸ hm))]
        have : as.findIdx? (fun e => decide (e = d)) = some j := by
          obtain ⟨hlt, he⟩ := List.getElem?_eq_some_iff.mp hj
          refine List.findIdx?_eq_some_iff_getElem.mpr ⟨hlt, decide_eq_true he, fun i hi => ?_⟩
          intro z
          have z' := of_decide_eq_true z
          exact absurd ((List.getElem?_inj (by omega) nd).mp ((List.getElem?_eq_getElem (by omega)).trans ((congrArg some z').trans hj.symm))) (by omega)
        rw [this]
      have xs_at : ∀ (j : Nat) (d : Addr), as[j]? = some d → ∃ x y, xs[j]? = some x ∧ ys[j]? = some y ∧ H2 d = some (.tup [x, y]) := fun j d hj => by
        have hlt : j < as.length := (List.getElem?_eq_some_iff.mp hj).1
        have lx : j < xs.length := by omega
        have ly : j < ys.length := by omega
        refine ⟨xs[j], ys[j], List.getElem?_eq_getElem lx, List.getElem?_eq_getElem ly, ?_⟩
        rw [ea j d hj]
        simp [List.getD, lx, ly]
      refine ⟨.ref (s1.heap.objs.size + 5), H2, ?_, ?_, ?_⟩
      · refine DL.laidMany (s := s1) I1 (h' := h2') (t' := tk) all (fun d hd => ?_) (fun d hd hd2 => ?_) fun d o hd e => ?_
        · exact eo d (fun z => hd (free d (by rw [z]; exact Nat.le_add_right _ _))) fun z => hd (free d (Nat.le_trans (Nat.le_add_right _ 6) (hG'.above d z)))
        · by_cases q1 : d = s1.heap.objs.size + 5
          · rw [q1]; exact Nat.le_add_right _ _
          · by_cases q2 : d ∈ as
            · exact Nat.le_trans (Nat.le_add_right _ 6) (hG'.above d q2)
            · exact absurd ((eo d q1 q2).trans hd) hd2
        · by_cases q1 : d = s1.heap.objs.size + 5
          · subst q1
            rw [eS] at e
            cases e
            refine ⟨?_, acc.toList, cc, ?_, ?_⟩
            · rw [List.length_map]; omega
            · rw [hacc]; exact vals_refs as
            · rw [Array.toArray_toList]; exact hS
          · by_cases q2 : d ∈ as
            · obtain ⟨j, hj⟩ := List.mem_iff_getElem?.mp q2
              obtain ⟨x, y, ex, ey, e3⟩ := xs_at j d hj
              rw [e3] at e
              cases e
              obtain ⟨u, v, eu, ev, ep⟩ := hG'.pairs j d hj
              refine ⟨by show 2 ≤ sizeLine; decide, [u, v], ?_, ⟨_, ep, rfl, 0, rfl⟩⟩
              exact .cons (vals_at rv ex (by simpa using eu)) (.cons (vals_at rv2 ey (by simpa using ev)) .nil)
            · rw [eo d q1 q2, hd] at e; cases e
      · show RelV _ _
        rw [hsz]; rfl
      · refine q _ as H2 ⟨by omega, out, free _ (by omega), eS, fun j d hj => ⟨free d (Nat.le_trans (Nat.le_add_right _ 6) (hG'.above d (List.mem_of_getElem? hj))), xs_at j d hj⟩, eo⟩
variable {α β : Type} [DecidableEq α] [Datum α] [DecidableEq β] [Datum β]
theorem dqAll_mk {K : PySem.W.Frag} {G : Hp} : ∀ {vs : List V} {ds : List PyData}, vs.length = ds.length → (∀ (j : Nat) v d, vs[j]? = some v → ds[j]? = some d → Dq K G v d) → DqAll K G vs ds
  | [], [], _, _ => .nil
  | [], _ :: _, h, _ => by simp at h
  | _ :: _, [], h, _ => by simp at h
  | v :: vs, d :: ds, h, k => .cons (k 0 v d rfl rfl) (dqAll_mk (by simpa using h) fun j v d h1 h2 => k (j + 1) v d (by simpa using h1) (by simpa using h2))
theorem ev_listZip {xs : List α} {ys : List β} (hc : X.calm = true) (hm : X.mg "list" = none) (hm2 : X.mg "zip" = none) (h1 : Ev X B Γ c1 a (Sd (dt xs))) (h2 : Ev X B Γ c2 b (Sd (dt ys))) (hg : Gl X "list" := by rfl) (hg2 : Gl X "zip" := by rfl)
    (hs : starEach [a, b] X.env = (false, eval a X.env) :: starEach [b] X.env := by rfl) (hs2 : starEach [b] X.env = (false, eval b X.env) :: starEach [] X.env := by rfl) (hpl : (backTo pos2 (starEach [b] X.env)).any (·.1) = false := by rfl)
    (na : starEach [.Call (.Name "zip" p2) [a, b] [] pos2] X.env = (false, eval (.Call (.Name "zip" p2) [a, b] [] pos2) X.env) :: starEach [] X.env := by rfl) : Ev X B Γ (c1 + (c2 + 0)) (.Call (.Name "list" p) [.Call (.Name "zip" p2) [a, b] [] pos2] [] pos) (So (dt (xs.zip ys))) :=
  pe_mono (pe_listZip hc hg hm hg2 hm2 (av_cons h1 (av_cons h2 av_nil hs2) hs) hs hpl na) fun σ H Q ⟨n, G, pr, k⟩ => ⟨n, G, pr, fun vs H1 G1 n1 ds hn st vl e hd => by
    subst e
    obtain ⟨v, w, rfl, g1, g2⟩ := denAll2 hd
    obtain ⟨l1, vs1, rfl, e1, d1⟩ := dp_list g1.dp
    obtain ⟨l2, vs2, rfl, e2, d2⟩ := dp_list g2.dp
    have up : ∀ {l : Addr} {vs : List V}, G1 l = some (.lst vs) → SqL X.K H1 l vs := fun q => by
      obtain ⟨o, e, lle⟩ := vl.sub _ _ q
      cases lle; exact .of e
    refine ⟨l1, l2, vs1, vs2, rfl, up e1, up e2, fun S as H2 ⟨hl, out, n0, eS, ep, eo⟩ => ?_⟩
    have gn : ∀ d, H1 d = none → G1 d = none := fun d h => vl.sub.out h
    let G2 : Hp := fun d => if d ∈ as then H2 d else G1 d
    have g_as : ∀ d, d ∈ as → G2 d = H2 d := fun d h => if_pos h
    have g_no : ∀ d, d ∉ as → G2 d = G1 d := fun d h => if_neg h
    have h_as : ∀ d, d ∈ as → H1 d = none := fun d h => by
      obtain ⟨j, hj⟩ := List.mem_iff_getElem?.mp h
      exact (ep j d hj).1
    have sg : Sub G1 G2 := fun d o e => by
      have : d ∉ as := fun z => by rw [gn d (h_as d z)] at e; cases e
      exact ⟨o, by rw [g_no d this]; exact e, .refl o⟩
    have sh : Sub H1 H2 := fun d o e => by
      have q1 : d ∉ as := fun z => by rw [h_as d z] at e; cases e
      have q2 : d ≠ S := fun z => by rw [z, n0] at e; cases e
      exact ⟨o, by rw [eo d q2 q1]; exact e, .refl o⟩
    have ste : Ste G1 H1 G2 H2 := ⟨sg, sh, fun d u h1 h2 _ => by
      have : d ∉ as := fun z => by rw [h_as d z] at h2; cases h2
      rw [g_no d this]; exact h1⟩
    have val : Val n1 G2 H2 := by
      refine ⟨fun d o e => ?_, fun d m e => ?_, vl.mm_sub (fun d t e => ?_) (Tp_sub sh) fun d k e => ?_⟩
      rotate_left 2
      · by_cases q : d ∈ as
        · rw [g_as d q] at e
          obtain ⟨j, hj⟩ := List.mem_iff_getElem?.mp q
          obtain ⟨_, x, y, _, _, e3⟩ := ep j d hj
          rw [e3] at e; cases e
        · rw [g_no d q] at e; exact e
      · have q1 : d ∉ as := fun z => by rw [h_as d z] at e; cases e
        have q2 : d ≠ S := fun z => by rw [z, n0] at e; cases e
        rw [eo d q2 q1]; exact e
      · by_cases q : d ∈ as
        · rw [g_as d q] at e; exact ⟨o, e, .refl o⟩
        · rw [g_no d q] at e
          obtain ⟨o', e', l⟩ := vl.sub d o e
          have q2 : d ≠ S := fun z => by rw [z, n0] at e'; cases e'
          exact ⟨o', by rw [eo d q2 q]; exact e', l⟩
      · by_cases q2 : d = S
        · rw [q2, eS] at e; cases e
        · by_cases q : d ∈ as
          · obtain ⟨j, hj⟩ := List.mem_iff_getElem?.mp q
            obtain ⟨_, x, y, _, _, e3⟩ := ep j d hj
            rw [e3] at e; cases e
          · rw [eo d q2 q] at e; exact vl.pb d m e
    refine k (.ref S) H2 G2 n1 (.ow (dt (xs.zip ys))) (by omega) (st.trans ste) val rfl (Res.base (H := H1) (.ow n0 (by rw [g_no S out]; exact gn S n0) eS (.py ?_)) st.h)
    have l1 := dpAll_len d1
    have l2 := dpAll_len d2
    rw [List.length_map] at l1 l2
    refine dqAll_mk (by simp; omega) fun j v d hv hd => ?_
    rw [List.getElem?_map] at hv hd
    cases q : as[j]? with
    | none => rw [q] at hv; cases hv
    | some ad =>
      rw [q] at hv; cases hv
      obtain ⟨_, x, y, ex, ey, e3⟩ := ep j ad q
      obtain ⟨dx, hdx, qx⟩ := dpAll_get d1 ex
      obtain ⟨dy, hdy, qy⟩ := dpAll_get d2 ey
      rw [List.getElem?_map] at hdx hdy
      cases z1 : xs[j]? with
      | none => rw [z1] at hdx; cases hdx
      | some u =>
        cases z2 : ys[j]? with
        | none => rw [z2] at hdy; cases hdy
        | some w =>
          rw [z1] at hdx; rw [z2] at hdy
          cases hdx; cases hdy
          have ez : (xs.zip ys)[j]? = some (u, w) := by rw [List.getElem?_zip_eq_some]; exact ⟨z1, z2⟩
          rw [ez] at hd
          cases hd
          exact .tup (.of (by rw [g_as ad (List.mem_of_getElem? q)]; exact e3)) (.cons (dp_sub sg qx) (.cons (dp_sub sg qy) .nil))⟩
end
end DL
end

section
set_option Elab.async false
set_option linter.all false
set_option maxRecDepth 100000
set_option maxHeartbeats 4000000
set_option autoImplicit false
/-! DmF: a[::-1] of lists and tuples. -/
namespace DL
open PySem PySem.Spec PyProof.Rows L2 PySem.W PySem.SeqAt
variable [Wd]
section
variable {prog : Program} {w : World} {A : Around} {E : Value → Shared → Prop} {s : Shared}
theorem getItem_tuple_back {t sl : Addr} {items : Array Value} {vl vu vs : Value} {Q : Value → Shared → Prop} (ht : IsTup s.heap t items) (hs : s.heap.IsSliceOf sl .none .none vs) (pq : IsPart vs (some (-1)))
    (h : Q (.ref s.heap.objs.size) { s with heap := s.heap.push { cls := .type "tuple", data := .seq items.toList.reverse.toArray } }) (hsz : items.size ≤ sizeLine) : wpAny (model prog w) A (getItem (.ref t) (.ref sl)) Q E s := by
  have htake : sizeOk (.seq items.toList.reverse.toArray) := by
    show items.toList.reverse.toArray.size ≤ sizeLine
    rw [List.size_toArray, List.length_reverse, Array.length_toList]
    exact hsz
  obtain ⟨os, hos, hcs, hds⟩ := id hs
  have hTs : s.TypeIs (.ref sl) "slice" := ⟨os, hos, hcs⟩
  unfold getItem
  try with_reducible refine wpAny_holding ?_
  first | refine wpAny_bind (wpAny_pure ?_) | skip
  refine wpAny_bind (wpAny_sequenceKey ht.typeIs (by decide) ?_)
  refine wpAny_bind (wpAny_callSpecial?_slot (name := Str.ofString "__getitem__") ht.typeIs PyProof.Rows.slot_tuple_getitem
    (wpAny_call_entry PyProof.Rows.slot_tuple_getitem ht.typeIs entry_tuple_getitem ?_ (args_tuple_getitem _ _)))
  show wpAny _ _ (Builtin.Tuple.tupleItemsOf (.ref t) >>= _) _ _ s
  refine wpAny_bind (tupleItemsOf_ ht ?_)
  refine wpAny_bind (wpAny_typeOf hTs ?_)
  rw [if_pos (by decide)]
  refine wpAny_bind (back_applied (n := items.size) hs pq ?_)
  have hno : ¬ ((((items.size : Int) - 1 == 0) && ((-1 : Int) == 1) && (items.size == items.size)) = true) := by
    simp
  show wpAny _ _ (if ((((items.size : Int) - 1 == 0) && ((-1 : Int) == 1) && (items.size == items.size)) = true) then _ else _) _ _ s
  rw [if_neg hno, back_pick]
  first
    | exact wpAny_bind (m := Builtin.Tuple.tupleExact _) (wpAny_newObj_type (wpAny_pure ⟨_, rfl, wpAny_pure h⟩) htake)
    | exact wpAny_bind (m := Builtin.Tuple.tupleExact _) (wpAny_newObj_type (wpAny_bind (wpAny_pure (wpAny_pure ⟨_, rfl, wpAny_pure h⟩))) htake)
    | exact wpAny_bind (wpAny_bind (m := Builtin.Tuple.tupleExact _) (wpAny_newObj_type (wpAny_pure (wpAny_pure ⟨_, rfl, wpAny_pure h⟩)) htake))
    | exact wpAny_bind (wpAny_bind (m := Builtin.Tuple.tupleExact _) (wpAny_newObj_type (wpAny_pure ⟨_, rfl, wpAny_pure h⟩) htake))
end
section
variable {X : Cx} {B : Bs} {Γ : List Ent} {c c1 c2 : Nat} {e a b : Expr} {k : Nat} {p p1 p2 p3 pos : Pos}
def tRevT (K : PySem.W.Frag) (te : TE) : TE := fun σ H Q => te σ H fun x H1 => ∃ a xs, x = .ref a ∧ SqT K H1 a xs ∧ ∀ p, H1 p = none → Q (.ref p) (upd H1 p (.tup xs.reverse))
theorem pe_revT {te : TE} (he : PE X e te) : PE X (.Subscript e (.Slice none none (some (.UnaryOp .USub (.Constant (.int 1) k p1) p2)) p3) pos) (tRevT X.K te) := by
  refine ⟨fun pins s σ H Q I h => ?_⟩
  refine Subscript_ (thn (he.run pins s σ H _ I h) fun v s1 ⟨x, H1, I1, r1, q1⟩ => ?_)
  obtain ⟨a, xs, ex, hx, q⟩ := q1
  subst ex
  cases r1
  have hst : PO X (some (.UnaryOp .USub (.Constant (.int 1) k p1) p2)) (tPart (tUn (rU fun i => .int (-i)) (tC (.int 1)))) := po_some (pe_un un_neg pe_int)
  refine wpAny_Slice ?_
  rw [evalPart_none]
  refine wpAny_pure ?_
  refine wpAny_pure ?_
  refine thn (hst.run pins s1 σ H1 (fun o H4 => o = some (-1) ∧ H4 = H1) I1 ⟨1, rfl, -1, rfl, rfl, rfl⟩) fun vs s4 ⟨o, H4, I4, ps, eo, e4⟩ => ?_
  subst eo e4
  have I5 : Inv X pins σ H4 { s4 with heap := s4.heap.push { cls := .type "slice", data := .fields #[.none, .none, vs] } } := I4.kept (t' := s4.toks) fun b ob q => Heap.get?_push_of_some _ q
  obtain ⟨its, r, ht, hz⟩ := I5.tuple hx
  have hlen := r.length
  show wpAny (model X.prog X.w) X.A (subscriptTail e (.Slice none none (some (.UnaryOp .USub (.Constant (.int 1) k p1) p2)) p3) (.ref a) (.ref s4.heap.objs.size)) (EP X pins σ Q) X.xe { s4 with heap := s4.heap.push { cls := .type "slice", data := .fields #[.none, .none, vs] } }
  refine tail_any (ops := [.ref a, .ref s4.heap.objs.size]) (T := "tuple") (by exact ht.typeIs) (PyProof.Rows.slot_tuple_getitem.lookup) ?_ (by with_unfolding_all rfl)
  refine getItem_tuple_back (vl := .none) (vu := .none) ht (Heap.IsSliceOf.new _ .none .none vs) ps ?_ (by rw [List.size_toArray]; omega)
  refine ⟨.ref _, _, I5.laid (t' := s4.toks) (o := .tup xs.reverse) (fun b ob q => Heap.get?_push_of_some _ q) (Nat.le_refl _) ?_, rfl, q _ (I5.hok.fresh (Nat.le_refl _))⟩
  exact ⟨by rw [List.length_reverse]; exact hz, _, r.reverse, IsTup.new _ _⟩
variable {α : Type} [DecidableEq α] [Datum α]
theorem ev_revT {x : Tup α} (ha : Ev X B Γ c e (Sd (dt x))) : Ev X B Γ c (.Subscript e (.Slice none none (some (.UnaryOp .USub (.Constant (.int 1) k p1) p2)) p3) pos) (Sd (dt (⟨x.items.reverse⟩ : Tup α))) :=
  pe_mono (pe_revT ha) fun σ H Q ⟨n, G, pr, kk⟩ => ⟨n, G, pr, fun v H1 G1 n1 r hn st vl hS hr => by
    cases hS
    cases hr with | sh den =>
    obtain ⟨a, vs, rfl, h1, h2⟩ := dp_tup den.dp
    refine ⟨a, vs, rfl, vl.sub.sqT h1, fun p hp => ?_⟩
    obtain ⟨s1, v1⟩ := Ste.newS (o := .tup vs.reverse) vl hp trivial
    have q := dpAll_rev h2
    rw [← List.map_reverse] at q
    exact kk _ _ _ n1 _ hn (st.trans s1) v1 rfl ((Res.newT vl hp q).base st.h)⟩
theorem ev_revL {x : List α} (ha : Ev X B Γ c e (Sd (dt x))) : Ev X B Γ c (.Subscript e (.Slice none none (some (.UnaryOp .USub (.Constant (.int 1) k p1) p2)) p3) pos) (So (dt x.reverse)) :=
  pe_mono (pe_revL ha) fun σ H Q ⟨n, G, pr, kk⟩ => ⟨n, G, pr, fun v H1 G1 n1 r hn st vl hS hr => by
    cases hS
    cases hr with | sh den =>
    obtain ⟨a, vs, rfl, h1, h2⟩ := dp_list den.dp
    refine ⟨a, vs, rfl, .of (vl.sub.lst h1), fun p hp => ?_⟩
    obtain ⟨s1, v1⟩ := Ste.new (o := .lst vs.reverse) vl hp trivial
    have q := dpAll_rev h2
    rw [← List.map_reverse] at q
    exact kk _ _ _ n1 _ hn (st.trans s1) v1 rfl ((Res.newL vl hp (.py q)).base st.h)⟩
end
end DL
end

section
set_option Elab.async false
set_option linter.all false
set_option maxRecDepth 100000
set_option maxHeartbeats 4000000
set_option autoImplicit false
/-! DmG: rules for what is known by a property, strongest. -/
namespace DL
open PySem PySem.Spec PyProof.Rows L2 PySem.W PySem.SeqAt
variable [Wd]
theorem R2ok.imp {K : PySem.W.Frag} {r : R2} {d1 d2 : D} {S S' : Ent → Prop} (h : R2ok K r d1 d2 S) (m : ∀ x, S x → S' x) : R2ok K r d1 d2 S' := fun n G H x y Q vl h1 h2 k => h n G H x y Q vl h1 h2 fun v H' G' r' st v2 hS hr => k v H' G' r' st v2 (m r' hS) hr
section
variable {X : Cx} {B : Bs} {Γ : List Ent} {c c0 c1 c2 c3 k : Nat} {elt tg iter e a b t : Expr} {es ifs : List Expr} {scope : Scope} {own : List (Str × Nat)} {p p2 p3 pos apos : Pos} {g : TG} {ι : Type} {enc : ι → D} {Γ' : ι → List Ent} {S : Ent → Prop} {x : Str} {α β γ : Type} [DecidableEq α] [Datum α] [DecidableEq β] [Datum β] [DecidableEq γ] [Datum γ]
/-! ### a + b -/
class PyAdd2 (α : Type) [DecidableEq α] [Datum α] extends PyAdd α where
  r : PySem.W.Frag → R2
  op : ∀ X : Cx, OpR X (binaryOp .Add) (r X.K)
  ok2 : ∀ (K : PySem.W.Frag) (x y : α), ok x y → R2ok K (r K) (dt x) (dt y) (fun e => e = .sh (dt (add x y)) ∨ e = .ow (dt (add x y)))
instance : PyAdd2 Int := ⟨_, fun X => op_add, fun K x y _ => R2ok.imp ok_I0 fun e h => .inl h⟩
instance : PyAdd2 Str := ⟨fun _ => fun x y H Q => ∃ i j, x = V.str i ∧ y = V.str j ∧ i.length + j.length ≤ sizeLine ∧ Q (V.str (i ++ j)) H, fun X => op_add_str, fun K x y h n G H u v Q vl h1 h2 k => ⟨x, y, dp_str h1.dp, dp_str h2.dp, h, k _ H G _ (.refl G H) vl (.inl rfl) (.sh (.py (.str _)))⟩⟩
instance {α : Type} [DecidableEq α] [Datum α] : PyAdd2 (List α) := ⟨fun _ => rCat, fun X => op_cat, fun K xs ys h n G H u v Q vl h1 h2 k => by
  obtain ⟨p, vs, rfl, hp, hv⟩ := dp_list h1.dp
  obtain ⟨q, ws, rfl, hq, hw⟩ := dp_list h2.dp
  have l1 := dpAll_len hv
  have l2 := dpAll_len hw
  rw [List.length_map] at l1 l2
  have h' : xs.length + ys.length ≤ sizeLine := h
  refine ⟨p, q, vs, ws, rfl, rfl, vl.sub.lst hp, vl.sub.lst hq, by omega, fun r hr => ?_⟩
  obtain ⟨s1, v1⟩ := Ste.new (o := .lst (vs ++ ws)) vl hr trivial
  exact k _ _ _ _ s1 v1 (.inr rfl) (Res.newL vl hr (.py (by show DqAll K G (vs ++ ws) (List.map Datum.toD (xs ++ ys)); rw [List.map_append]; exact dpAll_app hv hw)))⟩
instance {α : Type} [DecidableEq α] [Datum α] : PyAdd2 (Tup α) := ⟨_, fun X => op_catA, fun K xs ys h n G H u v Q vl h1 h2 k => by
  obtain ⟨p, vs, rfl, hp, hv⟩ := dp_tup h1.dp
  obtain ⟨q, ws, rfl, hq, hw⟩ := dp_tup h2.dp
  have l1 := dpAll_len hv
  have l2 := dpAll_len hw
  rw [List.length_map] at l1 l2
  have h' : xs.items.length + ys.items.length ≤ sizeLine := h
  have all : DqAll K G (vs ++ ws) ((xs.items ++ ys.items).map Datum.toD) := by rw [List.map_append]; exact dpAll_app hv hw
  refine ⟨p, q, vs, ws, rfl, rfl, vl.sub.sqT hp, vl.sub.sqT hq, by omega, fun e => ?_, fun _ e => ?_, fun _ _ r hr => ?_⟩
  · subst e
    exact k _ H G _ (.refl G H) vl (.inl rfl) (.sh (.py (.tup hq all)))
  · subst e
    rw [List.append_nil] at all
    exact k _ H G _ (.refl G H) vl (.inl rfl) (.sh (.py (.tup hp all)))
  · obtain ⟨s1, v1⟩ := Ste.newS (o := .tup (vs ++ ws)) vl hr trivial
    exact k _ _ _ _ s1 v1 (.inl rfl) (Res.newT vl hr all)⟩
/-- what is shared or new becomes shared -/
theorem ev_shB {P : α → Prop} (h : Ev X B Γ c e (fun r => ∃ z, P z ∧ (r = .sh (dt z) ∨ r = .ow (dt z)))) : Ev X B Γ c e (Rt P) := pe_mono h fun σ H Q ⟨n, G, p, k⟩ => ⟨n, G, p, fun v H' G' n' r hn st vl ⟨z, hz, e⟩ hr => by
  rcases e with e | e
  · subst e
    exact k v H' G' n' _ hn st vl ⟨dt z, ⟨z, hz, rfl⟩, rfl⟩ hr
  · subst e
    obtain ⟨G'', s2, v2, den, _⟩ := hr.share st vl
    exact k v H' G'' n' _ hn s2 v2 ⟨dt z, ⟨z, hz, rfl⟩, rfl⟩ (.sh den)⟩
theorem py_addR [i : PyAdd2 α] {P1 P2 : α → Prop} (ha : Ev X B Γ c1 a (Rt P1)) (hb : Ev X B Γ c2 b (Rt P2)) (h : ∀ x y, P1 x → P2 y → PyAdd.ok x y) : Ev X B Γ (c1 + c2) (.BinOp a .Add b pos) (Rt fun z => ∃ x y, P1 x ∧ P2 y ∧ z = PyAdd.add x y) :=
  ev_shB (ev_op2N (i.op X) ha hb fun d1 d2 ⟨x, hx, e1⟩ ⟨y, hy, e2⟩ => by
    subst e1; subst e2
    exact (i.ok2 X.K x y (h x y hx hy)).imp fun e q => ⟨_, ⟨x, y, hx, hy, rfl⟩, q⟩)
/-! ### slices -/
def tPoR (K : PySem.W.Frag) (B : Bs) (Γ : List Ent) (c : Nat) (P : Option Int → Prop) : TO := fun σ H Q => ∃ n G, Pre K B Γ c σ H n G ∧ ∀ H' G' n' o, n' ≤ n + c → Ste G H G' H' → Val n' G' H' → P o → Q o H'
abbrev PvR (X : Cx) (B : Bs) (Γ : List Ent) (c : Nat) (e : Option Expr) (P : Option Int → Prop) : Prop := PO X e (tPoR X.K B Γ c P)
theorem pvr_no : PvR X B Γ 0 none (fun o => o = none) := po_mono po_none fun σ H Q ⟨n, G, p, k⟩ => k H G n none (Nat.le_refl _) (.refl G H) p.val rfl
theorem pvr_so {P : Int → Prop} (h : Ev X B Γ c e (Rt P)) : PvR X B Γ c (some e) (fun o => ∃ i, P i ∧ o = some i) := po_mono (po_some h) fun σ H Q ⟨n, G, p, k⟩ => ⟨n, G, p, fun v H' G' n' r hn st vl hS hr => by
  obtain ⟨d, ⟨i, hi, rfl⟩, rfl⟩ := hS
  cases hr with | sh hr => exact ⟨i, dp_int hr.dp, k H' G' n' _ hn st vl ⟨i, hi, rfl⟩⟩⟩
theorem ev_slN {r : V → Option Int → Option Int → Hp → VK → Prop} {P : D → Prop} {lo hi : Option Expr} {L U : Option Int → Prop} (hr : SlR X r) (ha : Ev X B Γ c1 a (Sp P)) (hl : PvR X B Γ c2 lo L) (hu : PvR X B Γ c3 hi U) (hk : ∀ d l u, P d → L l → U u → Slok X.K r d l u S) : Ev X B Γ (c1 + (c2 + c3)) (.Subscript a (.Slice lo hi none p2) pos) S :=
  pe_mono (pe_slice hr ha hl hu) fun σ H Q ⟨n, G, p, k⟩ => ⟨n, G, ⟨p.ok, p.val, p.ste, by have := p.lim; omega⟩, fun v H1 G1 n1 r hn st vl hS hr => by
    obtain ⟨d, hd, rfl⟩ := hS
    cases hr with | sh den => exact ⟨n1, G1, p.step st vl (by have := p.lim; omega), fun H2 G2 n2 l hn2 st2 vl2 hL => ⟨n2, G2, (p.step (c' := c3) st vl (by have := p.lim; omega)).step st2 vl2 (by have := p.lim; omega), fun H3 G3 n3 u hn3 st3 vl3 hU =>
      hk d l u hd hL hU n3 G3 H3 v Q vl3 (den.sub (st2.g.trans st3.g)) fun w H4 G4 r4 st4 vl4 hS4 hr4 => k w H4 G4 n3 r4 (by omega) (st.trans (st2.trans (st3.trans st4))) vl4 hS4 (hr4.base (st.h.trans (st2.h.trans st3.h)))⟩⟩⟩
theorem ev_slLR {P : List α → Prop} {lo hi : Option Expr} {L U : Option Int → Prop} (ha : Ev X B Γ c1 a (Rt P)) (hl : PvR X B Γ c2 lo L) (hu : PvR X B Γ c3 hi U) : Ev X B Γ (c1 + (c2 + c3)) (.Subscript a (.Slice lo hi none p2) pos) (Rt fun z => ∃ xs l u, P xs ∧ L l ∧ U u ∧ z = cut xs l u) :=
  ev_shB (ev_slN sl_list ha hl hu fun d l u ⟨xs, hx, e⟩ hL hU => by
    subst e
    intro n G H v Q vl h k
    obtain ⟨p, vs, rfl, hp, hv⟩ := dp_list h.dp
    refine ⟨p, vs, rfl, .of (vl.sub.lst hp), fun q hq => ?_⟩
    obtain ⟨s1, v1⟩ := Ste.new (o := .lst (cutV vs l u)) vl hq trivial
    exact k _ _ _ _ s1 v1 ⟨_, ⟨xs, l, u, hx, hL, hU, rfl⟩, .inr rfl⟩ (Res.newL vl hq (.py (dq_cut hv))))
theorem ev_slSR {P : Str → Prop} {lo hi : Option Expr} {L U : Option Int → Prop} (ha : Ev X B Γ c1 a (Rt P)) (hl : PvR X B Γ c2 lo L) (hu : PvR X B Γ c3 hi U) (hz : ∀ x, P x → x.length ≤ sizeLine) : Ev X B Γ (c1 + (c2 + c3)) (.Subscript a (.Slice lo hi none p2) pos) (Rt fun z => ∃ xs l u, P xs ∧ L l ∧ U u ∧ z = cutS xs l u) :=
  ev_slN sl_str ha hl hu fun d l u ⟨xs, hx, e⟩ hL hU => by
    subst e
    intro n G H v Q vl h k
    exact ⟨xs, dp_str h.dp, hz xs hx, k _ H G _ (.refl G H) vl ⟨_, ⟨_, ⟨xs, l, u, hx, hL, hU, rfl⟩, rfl⟩, rfl⟩ (.sh (.py (.str _)))⟩
/-! ### if else -/
theorem ev_iteR2 {P1 P2 : α → Prop} {Sb : Bool → Prop} (ht : Tv X B Γ c0 t Sb) (ha : Sb true → Ev X B Γ c1 a (Rt P1)) (hb : Sb false → Ev X B Γ c2 b (Rt P2)) : Ev X B Γ (c0 + max c1 c2) (.IfExp t a b pos) (Rt fun z => (Sb true ∧ P1 z) ∨ (Sb false ∧ P2 z)) :=
  ev_iteS ht (fun h => rt_imp (ha h) fun z q => .inl ⟨h, q⟩) (fun h => rt_imp (hb h) fun z q => .inr ⟨h, q⟩)
/-! ### places -/
class PyIx2 (α : Type) [DecidableEq α] [Datum α] (β : outParam Type) [DecidableEq β] [Datum β] extends PyIx α β where
  r : PySem.W.Frag → R2
  op : ∀ X : Cx, IxR X (r X.K)
  ok2 : ∀ (K : PySem.W.Frag) (x : α) (i : Int) (y : β), ok x → get x i = some y → R2ok K (r K) (dt x) (dt i) (Sd (dt y))
instance {α : Type} [DecidableEq α] [Datum α] : PyIx2 (List α) α := ⟨_, fun X => ix_list, fun K x i y _ h => ok_ixL h⟩
instance {α : Type} [DecidableEq α] [Datum α] : PyIx2 (Tup α) α := ⟨_, fun X => ix_tup, fun K x i y _ h => ok_ixT h⟩
instance : PyIx2 Str Str := ⟨fun _ => rIxS, fun X => ix_str, fun K x i y hz h => by
  cases q : atI x.cps.toList i with
  | none =>
    have h' : ((atI x.cps.toList i).map fun k => (⟨#[k]⟩ : Str)) = some y := h
    rw [q] at h'; cases h'
  | some k =>
    have h' : ((atI x.cps.toList i).map fun k => (⟨#[k]⟩ : Str)) = some y := h
    rw [q] at h'
    cases h'
    exact ok_ixS hz q⟩
theorem py_ixR [i : PyIx2 α β] {P1 : α → Prop} {P2 : Int → Prop} (ha : Ev X B Γ c1 a (Rt P1)) (hb : Ev X B Γ c2 b (Rt P2)) (h : ∀ x k, P1 x → P2 k → i.ok x ∧ (PyIx.get x k).isSome = true) (hs : PlainIx b := by exact fun _ _ => rfl) : Ev X B Γ (c1 + c2) (.Subscript a b pos) (Rt fun z => ∃ x k, P1 x ∧ P2 k ∧ PyIx.get x k = some z) :=
  ev_ixN (i.op X) ha hb hs fun d1 d2 ⟨x, hx, e1⟩ ⟨y, hy, e2⟩ => by
    subst e1; subst e2
    obtain ⟨h1, h2⟩ := h x y hx hy
    cases q : PyIx.get x y with
    | none => rw [q] at h2; cases h2
    | some z => exact (i.ok2 X.K x y z h1 q).imp fun e he => ⟨_, ⟨z, ⟨x, y, hx, hy, q⟩, rfl⟩, he⟩
/-! ### comprehensions -/
/-- each of ys belongs to its one of xs -/
inductive F2 {ι β : Type} (P : ι → β → Prop) : List ι → List β → Prop
  | nil : F2 P [] []
  | cons {x : ι} {y : β} {xs : List ι} {ys : List β} : P x y → F2 P xs ys → F2 P (x :: xs) (y :: ys)
theorem F2.len {ι β : Type} {P : ι → β → Prop} : ∀ {xs : List ι} {ys : List β}, F2 P xs ys → ys.length = xs.length
  | _, _, .nil => rfl
  | _, _, .cons _ t => by rw [List.length_cons, List.length_cons, t.len]
theorem F2.mem {ι β : Type} {P : ι → β → Prop} : ∀ {xs : List ι} {ys : List β}, F2 P xs ys → ∀ y ∈ ys, ∃ x ∈ xs, P x y
  | _, _, .nil => fun _ h => nomatch h
  | _, _, .cons h t => fun y hy => by
    rcases List.mem_cons.mp hy with q | q
    · subst q; exact ⟨_, List.mem_cons_self, h⟩
    · obtain ⟨x, hx, p⟩ := t.mem y q
      exact ⟨x, List.mem_cons_of_mem _ hx, p⟩
theorem F2.map {ι β : Type} {P : ι → β → Prop} {f : β → γ} {g : ι → γ} (h : ∀ x y, P x y → f y = g x) : ∀ {xs : List ι} {ys : List β}, F2 P xs ys → ys.map f = xs.map g
  | _, _, .nil => rfl
  | _, _, .cons q t => by rw [List.map_cons, List.map_cons, h _ _ q, t.map h]
theorem lcRel_F2 {P : ι → β → Prop} : ∀ {xs : List ι} {ys : List D}, LcRel (fun _ b => b = true) (fun x y => ∃ z : β, P x z ∧ y = dt z) xs ys → ∃ zs : List β, ys = zs.map dt ∧ F2 P xs zs
  | _, _, .nil => ⟨[], rfl, .nil⟩
  | _, _, .keep _ ⟨z, hz, e⟩ r => by
    obtain ⟨zs, h1, h2⟩ := lcRel_F2 r
    exact ⟨z :: zs, by rw [h1, e]; rfl, .cons hz h2⟩
  | _, _, .skip t _ => by cases t
theorem lc_F2 {P : ι → β → Prop} {Q : List ι → Prop} (hi : Iv X B Γ c0 tg iter fun l => ∃ ys, Q ys ∧ l = ys.map enc) (ok : BlkOk X.N X.env.scope scope own) (htg : ∀ d, TgOk X.K g (own.map (·.2)) (wipeE Γ (own.map (·.2))) (enc d) (Γ' d))
    (hg : ∀ (s : Shared) (H : Hp) (C : Addr) (cl : List (Str × Addr)) (fp : List Addr), PG (X.blk s H scope (compEnvC scope cl C X.env) fp) tg g)
    (he : ∀ xs, Q xs → ∀ d ∈ xs, ∀ (s : Shared) (H : Hp) (C : Addr) (cl : List (Str × Addr)) (fp : List Addr), PE (X.blk s H scope (compEnvC scope cl C X.env) fp) elt (tEv X.K B (Γ' d) c2 (Rt (P d))))
    (hs : ∀ x, foldedSetIterable iter X.env x = pure x := by intro _; rfl) : Lc X B Γ (c0 + sizeLine * (0 + c2)) elt tg iter [] scope (fun r => ∃ zs : List β, (∃ xs, Q xs ∧ F2 P xs zs) ∧ r = .ow (dt zs)) :=
  (lc_mk (T := fun _ b => b = true) (S := fun x y => ∃ z : β, P x z ∧ y = dt z) hi ok htg hg (fun _ _ _ _ _ _ _ _ _ => tts_nil) (fun xs h0 d hd _ s H C cl fp => he xs h0 d hd s H C cl fp) hs).weak fun σ H Q' ⟨n, G, pr, kk⟩ => ⟨n, G, pr, fun v H' G' n' r h1 h2 h3 ⟨xs, ys, q0, rel, e⟩ hr => by
    obtain ⟨zs, rfl, hP⟩ := lcRel_F2 rel
    subst e
    exact kk v H' G' n' _ h1 h2 h3 ⟨zs, ⟨xs, q0, hP⟩, rfl⟩ hr.py⟩
/-- some of xs, mapped -/
theorem lcRel_sub {f : ι → β} : ∀ {xs : List ι} {ys : List D}, LcRel (fun _ _ => True) (fun x y => y = dt (f x)) xs ys → ∃ zs : List ι, ys = (zs.map f).map dt ∧ zs.Sublist xs
  | _, _, .nil => ⟨[], rfl, .slnil⟩
  | _, _, .keep (d := d) _ e r => by
    obtain ⟨zs, h1, h2⟩ := lcRel_sub r
    exact ⟨d :: zs, by rw [h1, e]; rfl, h2.cons₂ d⟩
  | _, _, .skip (d := d) t r => by
    obtain ⟨zs, h1, h2⟩ := lcRel_sub r
    exact ⟨zs, h1, h2.cons d⟩
theorem lc_Sub {f : ι → β} {Q : List ι → Prop} (hi : Iv X B Γ c0 tg iter fun l => ∃ ys, Q ys ∧ l = ys.map enc) (ok : BlkOk X.N X.env.scope scope own) (htg : ∀ d, TgOk X.K g (own.map (·.2)) (wipeE Γ (own.map (·.2))) (enc d) (Γ' d))
    (hg : ∀ (s : Shared) (H : Hp) (C : Addr) (cl : List (Str × Addr)) (fp : List Addr), PG (X.blk s H scope (compEnvC scope cl C X.env) fp) tg g)
    (ht : ∀ xs, Q xs → ∀ d ∈ xs, ∀ (s : Shared) (H : Hp) (C : Addr) (cl : List (Str × Addr)) (fp : List Addr), PTs (X.blk s H scope (compEnvC scope cl C X.env) fp) ifs (tTv X.K B (Γ' d) c1 fun _ => True))
    (he : ∀ xs, Q xs → ∀ d ∈ xs, ∀ (s : Shared) (H : Hp) (C : Addr) (cl : List (Str × Addr)) (fp : List Addr), PE (X.blk s H scope (compEnvC scope cl C X.env) fp) elt (tEv X.K B (Γ' d) c2 (Sd (dt (f d)))))
    (hs : ∀ x, foldedSetIterable iter X.env x = pure x := by intro _; rfl) : Lc X B Γ (c0 + sizeLine * (c1 + c2)) elt tg iter ifs scope (fun r => ∃ zs : List β, (∃ (xs ws : List ι), Q xs ∧ ws.Sublist xs ∧ zs = ws.map f) ∧ r = .ow (dt zs)) :=
  (lc_mk (T := fun _ _ => True) (S := fun x y => y = dt (f x)) hi ok htg hg (fun xs h0 d hd s H C cl fp => ht xs h0 d hd s H C cl fp) (fun xs h0 d hd _ s H C cl fp => ev_sp (he xs h0 d hd s H C cl fp)) hs).weak fun σ H Q' ⟨n, G, pr, kk⟩ => ⟨n, G, pr, fun v H' G' n' r h1 h2 h3 ⟨xs, ys, q0, rel, e⟩ hr => by
    obtain ⟨zs, rfl, hP⟩ := lcRel_sub rel
    subst e
    exact kk v H' G' n' _ h1 h2 h3 ⟨zs.map f, ⟨xs, zs, q0, hP, rfl⟩, rfl⟩ hr.py⟩
/-- what is walked, known by a property -/
theorem iv_listR {P : List α → Prop} (h : Ev X B Γ c e (Rt P)) : Iv X B Γ c tg e (fun l => ∃ xs, P xs ∧ l = xs.map dt) := iv_listN h
/-- a part of a list known by a property is less -/
theorem ev_len_R {P : List α → Prop} (hm : X.mg "len" = none) (h : Ev X B Γ c e (Rt P)) (hg : Gl X "len" := by rfl) (h1 : starEach [e] X.env = (false, eval e X.env) :: starEach [] X.env := by rfl) (h2 : (backTo pos (starEach [] X.env)).any (·.1) = false := by rfl) :
    Ev X B Γ (c + 0) (.Call (.Name "len" p) [e] [] pos) (Rt fun z => ∃ xs, P xs ∧ z = ((xs.length : Nat) : Int)) :=
  ev_callBN call_len_seq hm (av_consN h av_nil h1) (fun ds ⟨d, r, e1, ⟨xs, hx, e2⟩, e3⟩ => by
    subst e1; subst e2; subst e3
    intro n G H vs Q vl hd k
    exact ok_lenL n G H vs Q vl hd fun v H' G' r' st v2 hS hr => k v H' G' r' st v2 ⟨_, ⟨_, ⟨xs, hx, rfl⟩, rfl⟩, hS⟩ hr) hg PySem.boot_len (by decide) (by decide) h1 h2
end
end DL
end

section
set_option Elab.async false
set_option linter.all false
set_option maxRecDepth 100000
set_option maxHeartbeats 4000000
set_option autoImplicit false
/-! DmH: own objects lent: within an expression an own object counts as shared, where what comes out does not hold it. -/
namespace DL
open PySem PySem.Spec PyProof.Rows L2 PySem.W PySem.SeqAt
variable [Wd]
/-- data without addresses -/
class Flat (α : Type) [DecidableEq α] [Datum α] : Prop where
  den : ∀ {K : PySem.W.Frag} {G G' : Hp} {v : V} {x : α}, Dq K G v (Datum.toD x) → Dq K G' v (Datum.toD x)
instance : Flat Int := ⟨fun h => by rw [dp_int h]; exact .int _⟩
instance : Flat Bool := ⟨fun h => by rw [dp_bool h]; exact .bl _⟩
instance : Flat Str := ⟨fun h => by rw [dp_str h]; exact .str _⟩
instance : Flat Unit := ⟨fun {K G G' v x} h => by
  have h' : Dq K G v .none := h
  cases h'; exact .non⟩
theorem dqAll_flat {α : Type} [DecidableEq α] [Datum α] [Flat α] {K : PySem.W.Frag} {G G' : Hp} : ∀ {vs : List V} {xs : List α}, DqAll K G vs (xs.map Datum.toD) → DqAll K G' vs (xs.map Datum.toD)
  | [], [], _ => .nil
  | v :: vs, x :: xs, .cons h t => .cons (Flat.den h) (dqAll_flat t)
  | [], _ :: _, h => nomatch h
  | _ :: _, [], h => nomatch h
section
variable {X : Cx} {B : Bs} {Γ : List Ent} {c : Nat} {e : Expr} {S : Ent → Prop} {α : Type} [DecidableEq α] [Datum α]
/-- the own object in slot i lent -/
theorem lend {K : PySem.W.Frag} {i : Nat} {d : D} {n c : Nat} {σ : L2.St} {H G : Hp} (p : Pre K B Γ c σ H n G) (hΓ : Γ[i]? = some (Ent.ow d)) : ∃ G1, Pre K B (Γ.set i (.sh d)) c σ H n G1 ∧ Sub G G1 := by
  obtain ⟨a, o, h1, h2, h3, h4, h5⟩ := p.ok.ow i d hΓ
  have sub1 : Sub G (upd G a o) := fun b u e => ⟨u, by rw [upd_ne (ne_of_none e h3)]; exact e, .refl u⟩
  have den : Den K (upd G a o) (.ref a) d := own_den (h5.sub sub1)
  have hi : i < Γ.length := by
    rcases Nat.lt_or_ge i Γ.length with h | h
    · exact h
    · rw [List.getElem?_eq_none h] at hΓ; cases hΓ
  refine ⟨upd G a o, ⟨⟨fun j e hj => ?_, fun j e hj => ?_, fun j k e f hj hk hne => ?_, by rw [List.length_set]; exact p.ok.ln⟩, ⟨fun b u e => ?_, p.val.pb, fun b t e => p.val.mm b t (xd_back h5 e)⟩, ⟨p.ste.g.trans sub1, p.ste.h, fun b u hb hb2 hb3 => ?_⟩, p.lim⟩, sub1⟩
  · by_cases hji : j = i
    · subst hji
      rw [List.getElem?_set_self hi] at hj
      cases hj
      exact ⟨_, h1, den⟩
    · rw [List.getElem?_set_ne (Ne.symm hji)] at hj
      obtain ⟨v, q1, q2⟩ := p.ok.sh j e hj
      exact ⟨v, q1, q2.sub sub1⟩
  · by_cases hji : j = i
    · subst hji
      rw [List.getElem?_set_self hi] at hj
      cases hj
    · rw [List.getElem?_set_ne (Ne.symm hji)] at hj
      obtain ⟨b, u, q1, q2, q3, q4, q5⟩ := p.ok.ow j e hj
      have : b ≠ a := fun z => by
        subst z
        exact p.ok.dj i j d e hΓ hj (Ne.symm hji) (by rw [h1, q1])
      exact ⟨b, u, q1, q2, by rw [upd_ne this]; exact q3, q4, q5.sub sub1⟩
  · by_cases hji : j = i
    · subst hji; rw [List.getElem?_set_self hi] at hj; cases hj
    · by_cases hki : k = i
      · subst hki; rw [List.getElem?_set_self hi] at hk; cases hk
      · rw [List.getElem?_set_ne (Ne.symm hji)] at hj
        rw [List.getElem?_set_ne (Ne.symm hki)] at hk
        exact p.ok.dj j k e f hj hk hne
  · by_cases hb : b = a
    · subst hb; rw [upd_same] at e; cases e; exact ⟨o, h4, .refl o⟩
    · rw [upd_ne hb] at e; exact p.val.sub b u e
  · have : b ≠ a := fun z => by subst z; rw [h2] at hb2; cases hb2
    rw [upd_ne this]; exact p.ste.f b u hb hb2 hb3
/-- .. and taken back -/
theorem unlend {G G1 H G2 H2 : Hp} {n2 : Nat} (s : Sub G G1) (st : Ste G1 H G2 H2) (vl : Val n2 G2 H2) : Ste G H G H2 ∧ Val n2 G H2 :=
  ⟨⟨.refl G, st.h, fun b _ h1 _ _ => h1⟩, ⟨Sub.trans (R := LLe) (Sub.trans (R := Le) s st.g) vl.sub, vl.pb, fun a t e => vl.mm a t (Sub.tg (Sub.trans (R := Le) s st.g) a t e)⟩⟩
theorem ev_lend (i : Nat) {d : D} [Flat α] {P : α → Prop} (hΓ : Γ[i]? = some (Ent.ow d)) (h : Ev X B (Γ.set i (.sh d)) c e (Rt P)) : Ev X B Γ c e (Rt P) := pe_mono h fun σ H Q ⟨n, G, p, k⟩ => by
  obtain ⟨G1, p1, s1⟩ := lend p hΓ
  refine ⟨n, G1, p1, fun v H' G' n' r hn st vl hS hr => ?_⟩
  obtain ⟨st2, vl2⟩ := unlend s1 st vl
  obtain ⟨d', ⟨z, hz, rfl⟩, rfl⟩ := hS
  cases hr with | sh den =>
  exact k v H' G n' _ hn st2 vl2 ⟨_, ⟨z, hz, rfl⟩, rfl⟩ (.sh (.py (Flat.den den.dp)))
theorem ev_lendD (i : Nat) {d : D} [Flat α] {z : α} (hΓ : Γ[i]? = some (Ent.ow d)) (h : Ev X B (Γ.set i (.sh d)) c e (Sd (dt z))) : Ev X B Γ c e (Sd (dt z)) :=
  ev_weak (ev_lend i hΓ (rt_of h)) (fun r ⟨x, ⟨y, h1, h2⟩, q⟩ => by subst h1; subst h2; exact q) (Nat.le_refl _)
theorem ev_lendL (i : Nat) {d : D} [Flat α] {P : List α → Prop} (hΓ : Γ[i]? = some (Ent.ow d)) (h : Ev X B (Γ.set i (.sh d)) c e (fun r => ∃ zs, P zs ∧ r = .ow (dt zs))) : Ev X B Γ c e (fun r => ∃ zs, P zs ∧ r = .ow (dt zs)) := pe_mono h fun σ H Q ⟨n, G, p, k⟩ => by
  obtain ⟨G1, p1, s1⟩ := lend p hΓ
  refine ⟨n, G1, p1, fun v H' G' n' r hn st vl ⟨zs, hz, e⟩ hr => ?_⟩
  obtain ⟨st2, vl2⟩ := unlend s1 st vl
  subst e
  generalize er : Ent.ow (dt zs) = r at hr
  cases hr with
  | sh _ => cases er
  | @ow a o d' h1 h2 h3 h4 =>
    injection er with er
    subst er
    obtain ⟨vs, rfl, hd⟩ := own_list h4
    exact k _ H' G n' _ hn st2 vl2 ⟨zs, hz, rfl⟩ (.ow h1 (SubX.out (Sub.trans (R := Le) s1 st.g) h2) h3 (.py (dqAll_flat hd)))
theorem ev_lendO (i : Nat) {d : D} [Flat α] {zs : List α} (hΓ : Γ[i]? = some (Ent.ow d)) (h : Ev X B (Γ.set i (.sh d)) c e (So (dt zs))) : Ev X B Γ c e (So (dt zs)) :=
  ev_weak (ev_lendL (P := fun x => x = zs) i hΓ (ev_weak h (fun r q => ⟨zs, rfl, q⟩) (Nat.le_refl _))) (fun r ⟨x, h1, q⟩ => by subst h1; exact q) (Nat.le_refl _)
theorem tv_lend (i : Nat) {d : D} {S : Bool → Prop} (hΓ : Γ[i]? = some (Ent.ow d)) (h : Tv X B (Γ.set i (.sh d)) c e S) : Tv X B Γ c e S := pt_mono h fun σ H Q ⟨n, G, p, k⟩ => by
  obtain ⟨G1, p1, s1⟩ := lend p hΓ
  refine ⟨n, G1, p1, fun b H' G' n' hn st vl hS => ?_⟩
  obtain ⟨st2, vl2⟩ := unlend s1 st vl
  exact k b H' G n' hn st2 vl2 hS
end
end DL
end

section
set_option Elab.async false
set_option linter.all false
set_option maxRecDepth 100000
set_option maxHeartbeats 4000000
set_option autoImplicit false
/-! ClC: words that differ. -/
namespace DL
open PySem PySem.Spec PyProof.Rows L2 PySem.W PySem.SeqAt
variable [Wd]
section
variable {X : Cx} {B : Bs} {Γ : List Ent} {c c0 c1 c2 c3 : Nat} {a b e t : Expr} {p p2 p3 pos : Pos} {α β : Type} [DecidableEq α] [Datum α] [DecidableEq β] [Datum β]
theorem ev_eqR {P1 P2 : α → Prop} (hu : Hu X) (ha : Ev X B Γ c1 a (Rt P1)) (hb : Ev X B Γ c2 b (Rt P2)) (hd : Datum.depth α ≤ 64 := by decide) : Ev X B Γ (c1 + c2) (.Compare a [.Eq] [b] pos) (Rt fun z : Bool => ∃ x y, P1 x ∧ P2 y ∧ z = decide (x = y)) :=
  ev_cmpN (opr_B (g := fun (x : α) (y : α) => decide (x = y)) fun s v u a b Q E h1 h2 q => eq_datum h1 h2 (by have : X.A.units + 64 < cLine := hu; omega) q) (nobehind _ (by decide) (by decide)) ha hb fun d1 d2 ⟨i, hi, e1⟩ ⟨j, hj, e2⟩ => by
    subst e1; subst e2
    exact fun n G H u v Q vl h1 h2 k => ok_B n G H u v Q vl h1 h2 fun v' H' G' r' st v2 hS hr => k v' H' G' r' st v2 ⟨_, ⟨_, ⟨i, j, hi, hj, rfl⟩, rfl⟩, hS⟩ hr
end
/-- so many unlike words -/
structure Ws (n : Nat) (ws : List Str) : Prop where
  len : ws.length = n
  word : ∀ w ∈ ws, isWord w = true
  nd : ws.Nodup
theorem isWord_iff {x : Str} : isWord x = true ↔ 0 < x.length ∧ x.length < 9 ∧ ∀ l ∈ signs x, letter l = true := by
  unfold isWord
  rw [Bool.and_eq_true, Bool.and_eq_true, List.all_eq_true, decide_eq_true_eq, decide_eq_true_eq]
  constructor
  · rintro ⟨⟨h1, h2⟩, h3⟩; exact ⟨by omega, by omega, h3⟩
  · rintro ⟨h1, h2, h3⟩; exact ⟨⟨by omega, by omega⟩, h3⟩
theorem str_len_app (x y : Str) : (x ++ y).length = x.length + y.length := by
  have h := signs_app x y
  have := congrArg List.length h
  rw [List.length_append, signs_len, signs_len, signs_len] at this
  exact this
theorem sIx_lo {n : Nat} {i : Int} (h0 : 0 ≤ i) (h : i ≤ n) : HT.sIx n 0 (some i) = i.toNat := by
  unfold HT.sIx
  simp only []
  first
    | omega
    | (split <;> omega)
theorem sIx_hi {n : Nat} {i : Int} (h0 : 0 ≤ i) (h : i ≤ n) : HT.sIx n n (some i) = i.toNat := by
  unfold HT.sIx
  simp only []
  first
    | omega
    | (split <;> omega)
theorem signs_cut (x : Str) (l u : Option Int) : signs (cutS x l u) = cut (signs x) l u := by
  unfold signs cutS cut
  rw [List.length_map, len_str x, List.map_take, List.map_drop]
theorem cut_hi {α : Type} {xs : List α} {i : Int} (h0 : 0 ≤ i) (h : i ≤ xs.length) : cut xs none (some i) = xs.take i.toNat := by
  unfold cut
  rw [sIx_hi h0 h, HT.sIx_none, List.drop_zero, Nat.sub_zero]
theorem cut_lo {α : Type} {xs : List α} {i : Int} (h0 : 0 ≤ i) (h : i ≤ xs.length) : cut xs (some i) none = xs.drop i.toNat := by
  unfold cut
  rw [sIx_lo h0 h, HT.sIx_none]
  exact List.take_of_length_le (by rw [List.length_drop]; exact Nat.le_refl _)
theorem cutS_len (x : Str) (l u : Option Int) : (cutS x l u).length ≤ x.length := by
  rw [← signs_len, signs_cut, ← signs_len x]
  unfold cut
  rw [List.length_take, List.length_drop]
  omega
theorem splice_word {x l : Str} {i : Int} (hx : isWord x = true) (hl : l.length = 1 ∧ letter l = true) (h : 0 ≤ i ∧ i < x.length) : isWord ((cutS x none (some i) ++ l) ++ cutS x (some (i + 1)) none) = true := by
  obtain ⟨h1, h2, h3⟩ := isWord_iff.mp hx
  have e : signs ((cutS x none (some i) ++ l) ++ cutS x (some (i + 1)) none) = ((signs x).take i.toNat ++ [l]) ++ (signs x).drop (i + 1).toNat := by
    rw [signs_app, signs_app, signs_cut, signs_cut, signs_one hl.1, cut_hi h.1 (by rw [signs_len]; omega), cut_lo (by omega) (by rw [signs_len]; omega)]
  have hn : ((cutS x none (some i) ++ l) ++ cutS x (some (i + 1)) none).length = x.length := by
    rw [← signs_len, e, List.length_append, List.length_append, List.length_take, List.length_drop, signs_len]
    show min i.toNat x.length + 1 + _ = _
    omega
  refine isWord_iff.mpr ⟨by omega, by omega, fun s hs => ?_⟩
  rw [e] at hs
  rcases List.mem_append.mp hs with q | q
  · rcases List.mem_append.mp q with q | q
    · exact h3 s (List.mem_of_mem_take q)
    · rw [List.mem_singleton.mp q]; exact hl.2
  · exact h3 s (List.mem_of_mem_drop q)
theorem abc_letters : ∀ l ∈ signs abc, l.length = 1 ∧ letter l = true := by decide +kernel
theorem abc_nd : (signs abc).Nodup := by decide +kernel
theorem abc_n : (signs abc).length = 26 := by decide +kernel
theorem one_word {l : Str} (h : l.length = 1 ∧ letter l = true) : isWord l = true :=
  isWord_iff.mpr ⟨by omega, by omega, fun s hs => by rw [signs_one h.1] at hs; rw [List.mem_singleton.mp hs]; exact h.2⟩
/-- a list without doubles that lies within another one is not longer -/
theorem nodup_sub_len {α : Type} [DecidableEq α] : ∀ {xs ys : List α}, xs.Nodup → (∀ x ∈ xs, x ∈ ys) → xs.length ≤ ys.length
  | [], _, _, _ => Nat.zero_le _
  | x :: xs, ys, h, k => by
    have hx := k x List.mem_cons_self
    have := nodup_sub_len (xs := xs) (ys := ys.erase x) (List.nodup_cons.mp h).2 fun y hy => by
      have : y ≠ x := fun z => (List.nodup_cons.mp h).1 (z ▸ hy)
      exact (List.mem_erase_of_ne this).mpr (k y (List.mem_cons_of_mem _ hy))
    rw [List.length_erase_of_mem hx] at this
    have : 0 < ys.length := List.length_pos_of_mem hx
    rw [List.length_cons]
    omega
theorem abc_free {ws : List Str} (h : ws.length < 26) : (signs abc).filter (fun l => !decide (l ∈ ws)) ≠ [] := fun e => by
  have := nodup_sub_len (ys := ws) abc_nd fun l hl => by
    have q := List.filter_eq_nil_iff.mp e l hl
    simpa using q
  rw [abc_n] at this
  omega
theorem ixD_mem {α : Type} [DecidableEq α] [Datum α] [Inhabited α] {xs : List α} (h : xs ≠ []) : ixD xs (0 : Int) ∈ xs := by
  cases xs with
  | nil => exact absurd rfl h
  | cons x xs =>
    have : ixD (x :: xs) ((0 : Nat) : Int) = x := ixD_L (i := 0) rfl
    rw [show ((0 : Nat) : Int) = 0 from rfl] at this
    rw [this]; exact List.mem_cons_self
theorem abc_first {ws : List Str} (h : ws.length < 26) : isWord (ixD ((signs abc).filter (fun l => !decide (l ∈ ws))) (0 : Int)) = true ∧ ixD ((signs abc).filter (fun l => !decide (l ∈ ws))) (0 : Int) ∉ ws := by
  have q := List.mem_filter.mp (ixD_mem (abc_free h))
  exact ⟨one_word (abc_letters _ q.1), by simpa using q.2⟩
theorem Ws.snoc {n : Nat} {ws : List Str} {w : Str} (h : Ws n ws) (hw : isWord w = true) (hn : w ∉ ws) : Ws (n + 1) (ws ++ [w]) :=
  ⟨by rw [List.length_append, h.len]; rfl, fun x hx => by
    rcases List.mem_append.mp hx with q | q
    · exact h.word x q
    · rw [List.mem_singleton.mp q]; exact hw, List.nodup_append.mpr ⟨h.nd, List.pairwise_singleton _ _, fun x hx y hy => by rw [List.mem_singleton.mp hy]; intro z; exact hn (z ▸ hx)⟩⟩
theorem Ws.nil : Ws 0 [] := ⟨rfl, fun _ h => (by simp at h), List.nodup_nil⟩
theorem wlen {w : Str} (h : isWord w = true) : 1 ≤ w.length ∧ w.length ≤ 8 := by have := word_len h; omega
end DL
end

section
set_option Elab.async false
set_option linter.all false
set_option maxRecDepth 100000
set_option maxHeartbeats 4000000
set_option autoImplicit false
/-! DmI: a, b = e1, e2 by a pair. -/
namespace DL
open PySem PySem.Spec PyProof.Rows L2 PySem.W PySem.SeqAt
variable [Wd]
section
variable {X : Cx} {B : Bs} {Γ : List Ent} {c c0 c1 c2 c3 k : Nat} {e a b t : Expr} {px py pt pt2 p p2 pos : Pos} {O : Out} {rest : List Stmt} {S1 S2 : Ent → Prop}
theorem sv_parT (i j : Nat) {x y : Str} {kt k2 : Nat} (hc : X.calm = true) (nd : X.N.Nodup) (h1 : Ev X B Γ c1 a S1) (h2 : Ev X B Γ c2 b S2) (hk : ∀ r1 r2, S1 r1 → S2 r2 → Sv X B ((Γ.set i r1).set j r2) c3 rest O) (hi : X.N[i]? = some x := by rfl) (hj : X.N[j]? = some y := by rfl) (hx : Loc X.env.scope x := by first | exact Or.inl rfl | exact Or.inr rfl) (hy : Loc X.env.scope y := by first | exact Or.inl rfl | exact Or.inr rfl)
    (hfx : X.fn x = true ∨ X.env.scope.names.lookup x = some .local := by first | exact .inl rfl | exact .inr rfl) (hfy : X.fn y = true ∨ X.env.scope.names.lookup y = some .local := by first | exact .inl rfl | exact .inr rfl)
    (hw : swappedStores [.Tuple [.Name x px, .Name y py] kt pt] (.Tuple [a, b] k2 pt2) X.env = pure none := by rfl) (hs : swapsWithSole [.Tuple [.Name x px, .Name y py] kt pt] (.Tuple [a, b] k2 pt2) pos.line X.env = pure false := by rfl)
    (h1a : (assignEach [.Tuple [.Name x px, .Name y py] kt pt] X.env).map (·.2) = [assign (.Tuple [.Name x px, .Name y py] kt pt) X.env] := by rfl)
    (hn : (assignEach [.Name x px, .Name y py] X.env).length = 2 := by rfl) (hst : (assignEach [.Name x px, .Name y py] X.env).findIdx? (·.1) = none := by rfl)
    (hs1 : (assignEach [.Name x px, .Name y py] X.env).map (·.2) = assign (.Name x px) X.env :: (assignEach [.Name y py] X.env).map (·.2) := by rfl) (hs2 : (assignEach [.Name y py] X.env).map (·.2) = assign (.Name y py) X.env :: (assignEach [] X.env).map (·.2) := by rfl)
    (q1 : starEach [a, b] X.env = (false, eval a X.env) :: starEach [b] X.env := by rfl) (q2 : starEach [b] X.env = (false, eval b X.env) :: starEach [] X.env := by rfl) : Sv X B Γ (c1 + c2 + c3) (.Assign [.Tuple [.Name x px, .Name y py] kt pt] (.Tuple [a, b] k2 pt2) pos :: rest) O :=
  sv_cons (N := fun Γ' => ∃ r1 r2, S1 r1 ∧ S2 r2 ∧ Γ' = (Γ.set i r1).set j r2) (ps_mono (ps_asg (pe_tup (pa_cons h1 (pa_cons h2 pa_nil q2) q1)) (pg_tup hc (pgs_cons (pg_name nd hi hx hfx) (pgs_cons (pg_name nd hj hy hfy) pgs_nil hs2) hs1) hn hst) hs hw h1a) fun D σ H ⟨n, G, pr, k1, k2, k3, k4⟩ => ⟨n, G, ⟨pr.ok, pr.val, pr.ste, by have := pr.lim; omega⟩, fun v1 H1 G1 n1 r1 hn1 st1 vl1 hS1 hr1 => by
    refine ⟨n1, G1, pr.step st1 vl1 (by have := pr.lim; omega), fun v2 H2 G2 n2 r2 hn2 st2 vl2 hS2 hr2 => ?_⟩
    refine ⟨by show 2 ≤ sizeLine; decide, fun q hq => ?_⟩
    obtain ⟨s3, v3⟩ := Ste.new (o := .tup [v1, v2]) vl2 hq trivial
    refine ⟨q, [v1, v2], rfl, .of upd_same, rfl, v1, [v2], rfl, v2, [], rfl, rfl, ?_⟩
    refine k1.go _ _ (upd H2 q (.tup [v1, v2])) G2 n2 ⟨r1, r2, hS1, hS2, rfl⟩ (by omega) ?_ v3 ((pr.ste.trans (st1.trans st2)).trans s3) (st1.g.trans st2.g)
    exact ((pr.ok.res st1 hr1 pr.ste.h).res st2 hr2 (pr.ste.trans st1).h).step s3⟩) fun Γ' ⟨r1, r2, a1, a2, q⟩ => by subst q; exact hk r1 r2 a1 a2
end
end DL
end

section
set_option Elab.async false
set_option linter.all false
set_option maxRecDepth 100000
set_option maxHeartbeats 4000000
set_option autoImplicit false
/-! ClD: literals, part-fillings by value. -/
namespace DL
open PySem PySem.Spec PyProof.Rows L2 PySem.W PySem.SeqAt
variable [Wd]
theorem cps_app (x y : Str) : (x ++ y).cps.toList = x.cps.toList ++ y.cps.toList := by
  show (x.cps ++ y.cps).toList = _
  rw [Array.toList_append]
theorem minus_cps : minus.cps.toList = [45] := by decide +kernel
theorem letter_cps {k : Nat} (h : letter ⟨#[k]⟩ = true) : k ≠ 45 := by
  intro e; subst e
  exact absurd h (by decide +kernel)
theorem word_head {w : Str} (h : isWord w = true) : ∃ k r, w.cps.toList = k :: r ∧ k ≠ 45 := by
  obtain ⟨h1, _, h3⟩ := isWord_iff.mp h
  rw [len_str] at h1
  cases e : w.cps.toList with
  | nil => rw [e] at h1; exact absurd h1 (by decide)
  | cons k r =>
    refine ⟨k, r, rfl, letter_cps (h3 _ ?_)⟩
    unfold signs
    rw [e]
    exact List.mem_cons_self
theorem head_word {w : Str} (h : isWord w = true) : decide (ixD w (0 : Int) = minus) = false := by
  obtain ⟨k, r, e, hk⟩ := word_head h
  refine decide_eq_false fun q => ?_
  rw [head_S (by rw [len_str, e]; exact Nat.succ_pos _)] at q
  have := congrArg (fun z : Str => z.cps.toList) q
  simp only [cut_head, e, minus_cps] at this
  simp at this
  exact hk this
theorem neg_len (w : Str) : (minus ++ w).length = w.length + 1 := by rw [str_len_app]; show 1 + _ = _; omega
theorem head_neg (w : Str) : decide (ixD (minus ++ w) (0 : Int) = minus) = true := by
  refine decide_eq_true ?_
  rw [head_S (by rw [neg_len]; omega)]
  apply str_ext
  rw [cut_head, cps_app, minus_cps]
  rfl
theorem tail_neg (w : Str) : cutS (minus ++ w) (some 1) none = w := by
  apply str_ext
  rw [cut_tail, cps_app, minus_cps]
  rfl
theorem bare_word {w : Str} (h : isWord w = true) : bareS w = w := by unfold bareS; rw [head_word h]; rfl
theorem bare_neg (w : Str) : bareS (minus ++ w) = w := by unfold bareS; rw [head_neg, tail_neg]; rfl
theorem turn_word {w : Str} (h : isWord w = true) : turnS w = minus ++ w := by unfold turnS; rw [head_word h]; rfl
theorem turn_neg (w : Str) : turnS (minus ++ w) = w := by unfold turnS; rw [head_neg, tail_neg]; rfl
theorem neg_ne {w : Str} : minus ++ w ≠ w := fun e => by have := congrArg Str.length e; rw [neg_len] at this; omega
theorem neg_inj {v w : Str} (h : minus ++ v = minus ++ w) : v = w := by rw [← tail_neg v, h, tail_neg]
theorem not_word_neg (w : Str) : isWord (minus ++ w) = false := by
  cases e : isWord (minus ++ w) with
  | false => rfl
  | true => have := head_word e; rw [head_neg] at this; cases this
/-- literals -/
def Lit (l : Str) : Prop := ∃ w, isWord w = true ∧ (l = w ∨ l = minus ++ w)
theorem Lit.pos {w : Str} (h : isWord w = true) : Lit w := ⟨w, h, .inl rfl⟩
theorem Lit.neg {w : Str} (h : isWord w = true) : Lit (minus ++ w) := ⟨w, h, .inr rfl⟩
theorem isLit_iff {l : Str} : isLit l = true ↔ Lit l := by
  unfold isLit
  constructor
  · intro h
    cases e : decide (cutS l none (some 1) = minus) with
    | true =>
      rw [e] at h
      refine ⟨_, h, .inr ?_⟩
      apply str_ext
      have q := congrArg (fun z : Str => z.cps.toList) (of_decide_eq_true e)
      simp only [cut_head, minus_cps] at q
      show l.cps.toList = (minus ++ cutS l (some 1) none).cps.toList
      rw [cps_app, cut_tail, minus_cps, ← q, List.take_append_drop]
    | false => rw [e] at h; exact ⟨l, h, .inl rfl⟩
  · rintro ⟨w, hw, rfl | rfl⟩
    · have e := head_word hw
      rw [head_S (wlen hw).1] at e
      rw [e]; exact hw
    · have e := head_neg w
      rw [head_S (by rw [neg_len]; omega)] at e
      rw [e, tail_neg]; exact hw
theorem Lit.len {l : Str} (h : Lit l) : 1 ≤ l.length ∧ l.length ≤ 9 := by
  obtain ⟨w, hw, rfl | rfl⟩ := h
  · have := wlen hw; omega
  · have := wlen hw; rw [neg_len]; omega
theorem Lit.good {l : Str} (h : Lit l) : GoodL l := ⟨isLit_iff.mpr h, h.len.2⟩
theorem GoodL.lit {l : Str} (h : GoodL l) : Lit l := isLit_iff.mp h.1
theorem Lit.bare {l : Str} (h : Lit l) : isWord (bareS l) = true := by
  obtain ⟨w, hw, rfl | rfl⟩ := h
  · rw [bare_word hw]; exact hw
  · rw [bare_neg]; exact hw
theorem Lit.turn {l : Str} (h : Lit l) : Lit (turnS l) := by
  obtain ⟨w, hw, rfl | rfl⟩ := h
  · rw [turn_word hw]; exact .neg hw
  · rw [turn_neg]; exact .pos hw
theorem Lit.turn_turn {l : Str} (h : Lit l) : turnS (turnS l) = l := by
  obtain ⟨w, hw, rfl | rfl⟩ := h
  · rw [turn_word hw, turn_neg]
  · rw [turn_neg, turn_word hw]
theorem Lit.bare_turn {l : Str} (h : Lit l) : bareS (turnS l) = bareS l := by
  obtain ⟨w, hw, rfl | rfl⟩ := h
  · rw [turn_word hw, bare_neg, bare_word hw]
  · rw [turn_neg, bare_neg, bare_word hw]
theorem Lit.two {l : Str} (h : Lit l) : l = bareS l ∨ l = minus ++ bareS l := by
  obtain ⟨w, hw, rfl | rfl⟩ := h
  · left; rw [bare_word hw]
  · right; rw [bare_neg]
theorem Lit.turn_ne {l : Str} (h : Lit l) : turnS l ≠ l := by
  obtain ⟨w, hw, rfl | rfl⟩ := h
  · rw [turn_word hw]; exact neg_ne
  · rw [turn_neg]; exact fun e => neg_ne e.symm
/-- of one variable: the same or the contrary -/
theorem Lit.same {l k : Str} (h : Lit l) (h' : Lit k) (e : bareS l = bareS k) : l = k ∨ l = turnS k := by
  obtain ⟨v, hv, rfl | rfl⟩ := h <;> obtain ⟨w, hw, rfl | rfl⟩ := h'
  · rw [bare_word hv, bare_word hw] at e; exact .inl e
  · rw [bare_word hv, bare_neg] at e; right; rw [turn_neg]; exact e
  · rw [bare_neg, bare_word hw] at e; right; rw [turn_word hw, e]
  · rw [bare_neg, bare_neg] at e; left; rw [e]
theorem nodup_of_map {α β : Type} (f : α → β) : ∀ {xs : List α}, (xs.map f).Nodup → xs.Nodup
  | [], _ => List.nodup_nil
  | x :: xs, h => by
    rw [List.map_cons, List.nodup_cons] at h
    exact List.nodup_cons.mpr ⟨fun z => h.1 (List.mem_map.mpr ⟨x, z, rfl⟩), nodup_of_map f h.2⟩
theorem inj_of_map {α β : Type} {f : α → β} : ∀ {xs : List α}, (xs.map f).Nodup → ∀ {x y : α}, x ∈ xs → y ∈ xs → f x = f y → x = y
  | [], _, _, _, h, _, _ => by simp at h
  | z :: xs, h, x, y, hx, hy, e => by
    rw [List.map_cons, List.nodup_cons] at h
    rcases List.mem_cons.mp hx with q | q <;> rcases List.mem_cons.mp hy with r | r
    · rw [q, r]
    · subst q; exact absurd (List.mem_map.mpr ⟨y, r, e.symm⟩) h.1
    · subst r; exact absurd (List.mem_map.mpr ⟨x, q, e⟩) h.1
    · exact inj_of_map h.2 q r e
/-! ### part-fillings -/
/-- literals of unlike variables among names -/
structure Pt (names : List Str) (ls : List Str) : Prop where
  lit : ∀ l ∈ ls, Lit l
  own : ∀ l ∈ ls, bareS l ∈ names
  unl : (ls.map bareS).Nodup
theorem Pt.nil {names : List Str} : Pt names [] := ⟨fun _ h => (by simp at h), fun _ h => (by simp at h), List.nodup_nil⟩
theorem Pt.perm {names ls ks : List Str} (h : Pt names ls) (p : ks.Perm ls) : Pt names ks := ⟨fun l hl => h.lit l (p.mem_iff.mp hl), fun l hl => h.own l (p.mem_iff.mp hl), (p.map bareS).nodup_iff.mpr h.unl⟩
theorem Pt.len {names ls : List Str} (h : Pt names ls) : ls.length ≤ names.length := by
  have := nodup_sub_len h.unl fun x hx => by
    obtain ⟨l, hl, e⟩ := List.mem_map.mp hx
    exact e ▸ h.own l hl
  rwa [List.length_map] at this
theorem Pt.nd {names ls : List Str} (h : Pt names ls) : ls.Nodup := nodup_of_map bareS h.unl
/-- no literal beside its contrary -/
theorem Pt.no {names ls : List Str} (h : Pt names ls) {l : Str} (h1 : l ∈ ls) (h2 : turnS l ∈ ls) : False := by
  have hl := h.lit l h1
  have := inj_of_map h.unl h1 h2 hl.bare_turn.symm
  exact hl.turn_ne this.symm
def partStep (found : List (Tup Str)) (name : Str) : List (Tup Str) := found ++ found.map (fun p => (⟨p.items ++ [name]⟩ : Tup Str)) ++ found.map (fun p => (⟨p.items ++ [minus ++ name]⟩ : Tup Str))
def partsRaw (names : List Str) : List (Tup Str) := names.foldl partStep [⟨[]⟩]
def partsL (names : List Str) : List (Tup Str) := srt ((partsRaw names).map fun p => (⟨srt p.items⟩ : Tup Str))
theorem partStep_len (found : List (Tup Str)) (name : Str) : (partStep found name).length = 3 * found.length := by
  unfold partStep
  rw [List.length_append, List.length_append, List.length_map, List.length_map]; omega
theorem foldl_len : ∀ (names : List Str) (found : List (Tup Str)), (names.foldl partStep found).length = 3 ^ names.length * found.length
  | [], found => by simp
  | n :: ns, found => by rw [List.foldl_cons, foldl_len ns, partStep_len, List.length_cons, Nat.pow_succ, Nat.mul_assoc]
theorem partsRaw_len (names : List Str) : (partsRaw names).length = 3 ^ names.length := by unfold partsRaw; rw [foldl_len]; simp
theorem pt_snoc {names ls : List Str} {n l : Str} (h : Pt names ls) (hn : n ∉ names) (hl : Lit l) (e : bareS l = n) : Pt (names ++ [n]) (ls ++ [l]) :=
  ⟨fun x hx => by
    rcases List.mem_append.mp hx with q | q
    · exact h.lit x q
    · rw [List.mem_singleton.mp q]; exact hl, fun x hx => by
    rcases List.mem_append.mp hx with q | q
    · exact List.mem_append_left _ (h.own x q)
    · rw [List.mem_singleton.mp q, e]; exact List.mem_append_right _ List.mem_cons_self, by
    rw [List.map_append]
    refine List.nodup_append.mpr ⟨h.unl, List.pairwise_singleton _ _, fun x hx y hy => ?_⟩
    obtain ⟨k, hk, rfl⟩ := List.mem_map.mp hx
    rw [List.map_cons, List.map_nil, List.mem_singleton, e] at hy
    subst hy
    intro z
    exact hn (z ▸ h.own k hk)⟩
theorem Pt.more {names ms ls : List Str} (h : Pt names ls) (s : ∀ n ∈ names, n ∈ ms) : Pt ms ls := ⟨h.lit, fun l hl => s _ (h.own l hl), h.unl⟩
/-- what stands in the table behind the names -/
theorem fold_pt : ∀ (ns names : List Str) (found : List (Tup Str)), (∀ n ∈ ns, isWord n = true) → (names ++ ns).Nodup → (∀ p ∈ found, Pt names p.items) → ∀ p ∈ ns.foldl partStep found, Pt (names ++ ns) p.items
  | [], names, found, _, _, h => fun p hp => by rw [List.append_nil]; exact h p hp
  | n :: ns, names, found, hw, nd, h => fun p hp => by
    have e : names ++ n :: ns = (names ++ [n]) ++ ns := by rw [List.append_assoc]; rfl
    rw [e] at nd ⊢
    have hn : n ∉ names := fun z => by
      have := (List.nodup_append.mp (List.nodup_append.mp nd).1).2.2 n z n List.mem_cons_self
      exact this rfl
    refine fold_pt ns (names ++ [n]) (partStep found n) (fun m hm => hw m (List.mem_cons_of_mem _ hm)) nd (fun q hq => ?_) p hp
    have wn := hw n List.mem_cons_self
    rcases List.mem_append.mp hq with q1 | q1
    · rcases List.mem_append.mp q1 with q2 | q2
      · exact (h q q2).more fun m hm => List.mem_append_left _ hm
      · obtain ⟨r, hr, rfl⟩ := List.mem_map.mp q2
        exact pt_snoc (h r hr) hn (.pos wn) (bare_word wn)
    · obtain ⟨r, hr, rfl⟩ := List.mem_map.mp q1
      exact pt_snoc (h r hr) hn (.neg wn) (bare_neg n)
theorem partsRaw_pt {names : List Str} (hw : ∀ n ∈ names, isWord n = true) (nd : names.Nodup) : ∀ p ∈ partsRaw names, Pt names p.items := fun p hp => by
  have := fold_pt names [] [⟨[]⟩] hw (by simpa using nd) (fun p hp => by rw [List.mem_singleton.mp hp]; exact Pt.nil) p hp
  simpa using this
theorem partsL_pt {names : List Str} (hw : ∀ n ∈ names, isWord n = true) (nd : names.Nodup) : ∀ p ∈ partsL names, Pt names p.items := fun p hp => by
  obtain ⟨q, hq, rfl⟩ := List.mem_map.mp ((srt_perm _).mem_iff.mp hp)
  exact (partsRaw_pt hw nd q hq).perm (srt_perm _)
theorem partsL_len (names : List Str) : (partsL names).length = 3 ^ names.length := by unfold partsL; rw [(srt_perm _).length_eq, List.length_map, partsRaw_len]
theorem fold_sz : ∀ (ns : List Str) (found : List (Tup Str)) (k : Nat), (∀ p ∈ found, p.items.length ≤ k) → ∀ p ∈ ns.foldl partStep found, p.items.length ≤ k + ns.length
  | [], found, k, h => h
  | n :: ns, found, k, h => fun p hp => by
    have := fold_sz ns (partStep found n) (k + 1) (fun q hq => by
      rcases List.mem_append.mp hq with q1 | q1
      · rcases List.mem_append.mp q1 with q2 | q2
        · have := h q q2; omega
        · obtain ⟨r, hr, rfl⟩ := List.mem_map.mp q2
          have := h r hr
          rw [List.length_append, List.length_singleton]; omega
      · obtain ⟨r, hr, rfl⟩ := List.mem_map.mp q1
        have := h r hr
        rw [List.length_append, List.length_singleton]; omega) p hp
    rw [List.length_cons]; omega
theorem parts_sz {m : Nat} (names : List Str) (i : Nat) (h : names.length ≤ m) : ∀ p ∈ (names.take i).foldl partStep [⟨[]⟩], p.items.length ≤ m := fun p hp => by
  have := fold_sz (names.take i) [⟨[]⟩] 0 (fun p hp => by rw [List.mem_singleton.mp hp]; exact Nat.zero_le _) p hp
  rw [List.length_take] at this
  omega
end DL
end

section
set_option Elab.async false
set_option linter.all false
set_option maxRecDepth 100000
set_option maxHeartbeats 4000000
set_option autoImplicit false
/-! DmJ: typed displays. -/
namespace DL
open PySem PySem.Spec PyProof.Rows L2 PySem.W PySem.SeqAt
variable [Wd]
section
variable {X : Cx} {B : Bs} {Γ : List Ent} {c c1 c2 : Nat} {e : Expr} {es : List Expr} {pos : Pos} {α : Type} [DecidableEq α] [Datum α]
abbrev Avt (X : Cx) (B : Bs) (Γ : List Ent) (c : Nat) (es : List Expr) {α : Type} [DecidableEq α] [Datum α] (xs : List α) : Prop := Av X B Γ c es (fun l => l = xs.map dt)
theorem avt_nil : Avt X B Γ 0 [] ([] : List α) := av_nil
theorem avt_cons {x : α} {xs : List α} (ha : Ev X B Γ c1 e (Sd (dt x))) (hr : Avt X B Γ c2 es xs) (hs : starEach (e :: es) X.env = (false, eval e X.env) :: starEach es X.env := by rfl) : Avt X B Γ (c1 + c2) (e :: es) (x :: xs) := av_cons ha hr hs
theorem ev_lstT {xs : List α} (h : Avt X B Γ c es xs) (hl : xs.length ≤ sizeLine := by (simp only [List.length_cons, List.length_nil]; decide)) : Ev X B Γ c (.List es pos) (So (dt xs)) := ev_lst h rfl hl
theorem ev_tupT {xs : List α} {k1 : Nat} (h : Avt X B Γ c es xs) (hl : xs.length ≤ sizeLine := by (simp only [List.length_cons, List.length_nil]; decide)) : Ev X B Γ c (.Tuple es k1 pos) (Sd (dt (⟨xs⟩ : Tup α))) := ev_tup h rfl hl
end
end DL
end

section
set_option Elab.async false
set_option linter.all false
set_option maxRecDepth 100000
set_option maxHeartbeats 4000000
set_option autoImplicit false
/-! DmK: sorted of a tuple. -/
namespace DL
open PySem PySem.Spec PyProof.Rows L2 PySem.W PySem.SeqAt
variable [Wd]
section
variable {P : Program} {w : World} {A : Around} {E : Value → Shared → Prop} {s : Shared} {α : Type} [DecidableEq α] [DatumOrd α] {R : Value → α → Prop}
theorem sorted_tupW {a : Addr} {items : Array Value} {bs : List α} {Q : Value → Shared → Prop} (ht : IsTup s.heap a items) (hu : A.units + 4 + Datum.depth α < cLine) (hz : items.size ≤ sizeLine)
    (he : EachIs R items.toList bs)
    (hr : ∀ (h' : Heap) (v : Value) (b : α), (∀ b o, s.heap.get? b = some o → h'.get? b = some o) → R v b → ∃ as, Reads h' v (Datum.toD b) as)
    (hQ : ∀ (h1 h' : Heap) (out : List Value) (c : Nat), (∀ b o, s.heap.get? b = some o → h1.get? b = some o) → (∀ b o, h1.get? b = some o → h'.get? b = some o) → h'.get? h1.objs.size = some (seqObj "list" out.toArray c) → EachIs R out (srt bs) → Q (.ref h1.objs.size) { s with heap := h' }) :
    wpAny (model P w) A (call (.builtin "sorted") [.ref a]) Q E s := by
  obtain ⟨o, ho, hc, n, hd⟩ := id ht
  refine Calls.call_function_entry kind_sorted plain_sorted entry_sorted (args_sorted1 _) ?_
  unfold Builtin.«sorted»
  refine wpAny_bind (m := checkCount "sorted" 1 1 _) (wpAny_pure ?_)
  refine wpAny_bind (PySem.wpAny_collect_seq (A := A.in1) a (.inr rfl) ho hc hd (fun h1 k1 => ?_) hz)
  have hlen : items.toList.length ≤ sizeLine := by rw [Array.length_toList]; exact hz
  refine wpAny_bind (wpAny_newList ?_ hlen)
  have hL : (h1.push (seqObj "list" items.toList.toArray 0)).get? h1.objs.size = some (seqObj "list" items.toList.toArray 0) := Heap.get?_push_size _ rfl
  have old : ∀ b u, s.heap.get? b = some u → (h1.push (seqObj "list" items.toList.toArray 0)).get? b = some u := fun b u e => Heap.get?_push_of_some _ (k1 b u e)
  have below : ∀ b u, s.heap.get? b = some u → b ≠ h1.objs.size := fun b u e => Nat.ne_of_lt (Heap.lt_size (k1 b u e))
  refine wpAny_bind (wpAny_holding (sort_ord (s := { s with heap := h1.push (seqObj "list" items.toList.toArray 0) }) hL he (he.mono fun v b q => hr _ v b (fun b u e => sortingHeap_old (below b u e) (old b u e)) q) (by rw [← he.length]; exact hlen) (by show A.units + 1 + 1 + Datum.depth α < cLine; omega) fun out ol eo => ?_))
  obtain ⟨c, hc⟩ := sortedHeap_at (vs := items.toList) (out := out.toArray) hL
  exact wpAny_pure ⟨_, rfl, hQ h1 _ out c k1 (fun b u e => (sortedHeap_old (Nat.ne_of_lt (Heap.lt_size e)) (Nat.lt_of_lt_of_le (Heap.lt_size e) (by show h1.objs.size ≤ (h1.push _).objs.size; rw [Heap.size_push]; exact Nat.le_succ _))).trans (Heap.get?_push_of_some _ e)) hc eo⟩
end
/-- a new object is laid over a heap that has been kept since -/
theorem laidOne {X : Cx} {pins : List (Addr × Obj)} {σ : L2.St} {H : Hp} {s : Shared} {h1 h' : Heap} {o : HO} (I : Inv X pins σ H { s with heap := h1 }) (k : ∀ b u, h1.get? b = some u → h'.get? b = some u) (new : ObjOk X.prog X.w (upd H h1.objs.size o) h' h1.objs.size o) : Inv X pins σ (upd H h1.objs.size o) { s with heap := h' } :=
  I.laid (t' := s.toks) k (Nat.le_refl _) new
section
variable {X : Cx} {B : Bs} {Γ : List Ent} {c : Nat} {e : Expr} {p p2 pos q : Pos} {α : Type} [DecidableEq α] [DatumOrd α]
def rSortT (K : PySem.W.Frag) (α : Type) [DecidableEq α] [DatumOrd α] : List V → Hp → VK → Prop := fun vs H Q => ∃ (a : Addr) (xs : List V) (bs : List α) (D : V → α → Prop), vs = [.ref a] ∧ SqT K H a xs ∧ EachIs D xs bs ∧ (∀ x b, D x b → Dq K H x (Datum.toD b)) ∧
  ∀ p ys, H p = none → EachIs D ys (srt bs) → Q (.ref p) (upd H p (.lst ys))
theorem cr_sortT (hu : X.A.units + 4 + Datum.depth α < cLine) : CallR X (.builtin "sorted") (rSortT X.K α) := by
  intro pins s σ H vs us Q I r h
  obtain ⟨a, xs, bs, D, rfl, hs, hx, hD, q⟩ := h
  obtain ⟨its, rv, ht, hz⟩ := I.tuple hs
  rw [Vals.ref1 r]
  have ed := each_rdv rv hx
  have hlen : its.length ≤ sizeLine := by rw [← rv.length]; exact hz
  refine sorted_tupW (R := RdV D) ht hu (by rw [List.size_toArray]; exact hlen) (by simpa using ed) (fun h' v b k d => ?_) fun h1 h' out c k1 k2 e3 eo => ?_
  · have I1 : Inv X pins σ H { s with heap := h' } := I.kept (t' := s.toks) k
    exact rdv_reads I1 hD d
  · obtain ⟨ys, g1, g2⟩ := rdv_each eo
    have I1 : Inv X pins σ H { s with heap := h1 } := I.kept (t' := s.toks) k1
    have hl2 : ys.length ≤ sizeLine := by rw [g2.length, (srt_perm _).length_eq, ← hx.length]; exact hz
    exact ⟨.ref h1.objs.size, upd H h1.objs.size (.lst ys), DL.laidOne I1 k2 ⟨hl2, out, c, g1, e3⟩, rfl, q _ ys (I1.hok.fresh (Nat.le_refl _)) g2⟩
theorem ok_sortT {K : PySem.W.Frag} {bs : Tup α} : CRok K (rSortT K α) [dt bs] (So (dt (srt bs.items))) := fun n G H vs Q vl hd k => by
  obtain ⟨v, rfl, h1⟩ := denAll1 hd
  obtain ⟨p, ws, rfl, hp, hw⟩ := dp_tup h1.dp
  refine ⟨p, ws, bs.items, _, rfl, vl.sub.sqT hp, dq_each hw, fun x b d => dp_sub vl.sub d, fun l ys hl hy => ?_⟩
  obtain ⟨s1, v1⟩ := Ste.new (o := .lst ys) vl hl trivial
  exact k _ _ _ _ s1 v1 rfl (Res.newL vl hl (.py (each_dq hy)))
/-- sorted(xs), xs a list or a tuple -/
class PySort (γ : Type) [DecidableEq γ] [Datum γ] (α : outParam Type) [DecidableEq α] [DatumOrd α] where
  its : γ → List α
  rule : ∀ {X : Cx} {B : Bs} {Γ : List Ent} {c : Nat} {e : Expr} {p pos : Pos} {x : γ}, Hu X → X.mg "sorted" = none → Ev X B Γ c e (Sd (dt x)) → Datum.depth α < 58 → Gl X "sorted" → starEach [e] X.env = (false, eval e X.env) :: starEach [] X.env → (backTo pos (starEach [] X.env)).any (·.1) = false → Ev X B Γ (c + 0) (.Call (.Name "sorted" p) [e] [] pos) (So (dt (srt (its x))))
instance : PySort (List α) α := ⟨fun xs => xs, fun hu hm h hd hg h1 h2 => py_sorted hu hm h (by omega) hg h1 h2⟩
instance : PySort (Tup α) α := ⟨fun xs => xs.items, fun {X B Γ c e p pos x} hu hm h hd hg h1 h2 => ev_callB (cr_sortT (by have : X.A.units + 64 < cLine := hu; omega)) hm (av_cons h av_nil h1) ok_sortT hg (by decide +kernel) (by decide) (by decide) h1 h2⟩
theorem py_srt {γ : Type} [DecidableEq γ] [Datum γ] [i : PySort γ α] {x : γ} (hu : Hu X) (hm : X.mg "sorted" = none) (h : Ev X B Γ c e (Sd (dt x))) (hd : Datum.depth α < 58 := by decide) (hg : Gl X "sorted" := by rfl) (h1 : starEach [e] X.env = (false, eval e X.env) :: starEach [] X.env := by rfl) (h2 : (backTo pos (starEach [] X.env)).any (·.1) = false := by rfl) :
    Ev X B Γ (c + 0) (.Call (.Name "sorted" p) [e] [] pos) (So (dt (srt (PySort.its x)))) := i.rule hu hm h hd hg h1 h2
end
end DL
end

section
set_option Elab.async false
set_option linter.all false
set_option maxRecDepth 100000
set_option maxHeartbeats 4000000
set_option autoImplicit false
/-! ClE: drawn clauses. -/
namespace DL
open PySem PySem.Spec PyProof.Rows L2 PySem.W PySem.SeqAt
variable [Wd]
/-- a clause over names -/
structure Cls (names : List Str) (c : Tup Str) : Prop where
  rise : Rise c.items
  pt : Pt names c.items
theorem Cls.good {names : List Str} {c : Tup Str} (h : Cls names c) (hn : names.length ≤ 100) : GoodC c :=
  ⟨fun l hl => (h.pt.lit l hl).good, h.rise, h.pt.unl, Nat.le_trans h.pt.len hn⟩
theorem Pt.sub {names ls ks : List Str} (h : Pt names ls) (s : ks.Sublist ls) : Pt names ks :=
  ⟨fun l hl => h.lit l (s.subset hl), fun l hl => h.own l (s.subset hl), (s.map bareS).nodup h.unl⟩
/-- the clause of literals of unlike variables -/
theorem Pt.clause {names ls : List Str} (h : Pt names ls) : Cls names ⟨sset ls⟩ :=
  ⟨sset_rise ls, h.perm ((srt_perm (once ls)).trans (once_id h.nd))⟩
/-- signs put to words -/
theorem signed_pt {names xs ls : List Str} (hw : ∀ x ∈ xs, isWord x = true) (hn : ∀ x ∈ xs, x ∈ names) (nd : xs.Nodup) (h : F2 (fun x l => l = x ∨ l = minus ++ x) xs ls) : Pt names ls := by
  have hb : ls.map bareS = xs := by
    revert hw
    clear hn nd
    induction h with
    | nil => intro _; rfl
    | @cons x y xs ys p t ih =>
      intro hw
      rw [List.map_cons, ih fun z hz => hw z (List.mem_cons_of_mem _ hz)]
      rcases p with rfl | rfl
      · rw [bare_word (hw _ List.mem_cons_self)]
      · rw [bare_neg]
  refine ⟨fun l hl => ?_, fun l hl => ?_, by rw [hb]; exact nd⟩
  · obtain ⟨x, hx, rfl | rfl⟩ := h.mem l hl
    · exact .pos (hw _ hx)
    · exact .neg (hw _ hx)
  · have : bareS l ∈ ls.map bareS := List.mem_map.mpr ⟨l, hl, rfl⟩
    rw [hb] at this
    exact hn _ this
theorem sub_cut {α : Type} (xs : List α) (l u : Option Int) : (cut xs l u).Sublist xs := (List.take_sublist _ _).trans (List.drop_sublist _ _)
def times8 (l : Str) : Str := ⟨(List.replicate (8 : Int).toNat l.cps).foldl (· ++ ·) #[]⟩
def spareL (names : List Str) : List Str := ((signs abc).filter fun l => !PyIn.mem (times8 l) names).map times8
end DL
end

section
set_option Elab.async false
set_option linter.all false
set_option maxRecDepth 100000
set_option maxHeartbeats 4000000
set_option autoImplicit false
/-! DmL: loops that keep all but some slots; what is exact. -/
namespace DL
open PySem PySem.Spec PyProof.Rows L2 PySem.W PySem.SeqAt
variable [Wd]
/-- the slots, written out -/
theorem sv_at {X : Cx} {B : Bs} {Γ Γ1 : List Ent} {c : Nat} {b : List Stmt} {O : Out} (h : Γ = Γ1) (k : Sv X B Γ1 c b O) : Sv X B Γ c b O := h ▸ k
/-- the slots vs as f says -/
def setAll (Γ : List Ent) (vs : List Nat) (f : Nat → Ent) : List Ent := vs.foldl (fun g j => g.set j (f j)) Γ
section
variable {X : Cx} {B : Bs} {Γ Γ0 : List Ent} {c c0 c1 c2 k n : Nat} {tg iter e a b : Expr} {es : List Expr} {p pos : Pos} {O : Out} {body rest : List Stmt} {ι : Type} {enc : ι → D} {g : TG} {d d' : D} {xs : List ι} {Γ' : ι → (Nat → Ent) → List Ent}
/-- for x in xs: what keeps all slots but vs -/
theorem sv_forF (vs : List Nat) (hc : X.calm = true) (hi : Iv X B Γ c0 tg iter fun l => ∃ ys, ys = xs ∧ l = ys.map enc) (hg : PG X tg g) (ws : List Nat)
    (htg : ∀ d f, TgOk X.K g ws (setAll Γ vs f) (enc d) (Γ' d f)) (h0 : Γ = setAll Γ vs (fun j => Γ.getD j .no))
    (ht : ∀ d ∈ xs, ∀ f, Sv X B (Γ' d f) c1 body { O with nx := fun G => ∃ f, G = setAll Γ vs f, ct := fun G => ∃ f, G = setAll Γ vs f, bk := fun G => ∃ f, G = setAll Γ vs f })
    (k : ∀ f, Sv X B (setAll Γ vs f) c2 rest O) (hp : PassesOwn (model X.prog X.w) X.A X.env X.xe := by exact PassesOwn.never) (hs : ∀ x, foldedSetIterable iter X.env x = pure x := by intro _; rfl) : Sv X B Γ (c0 + sizeLine * c1 + c2) (.For tg iter body [] pos :: rest) O :=
  sv_cons (N := fun G => ∃ f, G = setAll Γ vs f) (s_for (O := { O with nx := fun G => ∃ f, G = setAll Γ vs f }) hc hp hi hg (fun _ _ G => ∃ f, G = setAll Γ vs f) (fun ys _ => ⟨_, h0⟩)
    (fun ys hy i d hd Γi ⟨f, hf⟩ => ⟨Γ' d f, ws, hf ▸ htg d f, ht d (by subst hy; exact List.mem_of_getElem? hd) f⟩) (fun ys _ Γi h => h) hs) fun G ⟨f, hf⟩ => by subst hf; exact k f
/-- the end of such a turn -/
theorem sv_endF {vs : List Nat} {R : Ent → Prop} {b c : List Ent → Prop} (h : Γ = setAll Γ0 vs (fun j => Γ.getD j .no)) : Sv X B Γ 0 [] { nx := fun G => ∃ f, G = setAll Γ0 vs f, rt := R, bk := b, ct := c } := sv_end ⟨_, h⟩
/-- _law_exact of the same -/
theorem ev_exact (F : Fn X.prog X.w X.K X.mg X.base k "_law_exact" 0 (ct_exact n)) (hr : Room k X.A) (ha : Ev X B Γ c1 a (Sd d)) (hb : Ev X B Γ c2 b (Sd d')) (he : d' = d) (hx : ExD n d) (hg : Gl X "_law_exact" := by rfl) (hs : starEach [a, b] X.env = (false, eval a X.env) :: starEach [b] X.env := by rfl) (hs2 : starEach [b] X.env = (false, eval b X.env) :: starEach [] X.env := by rfl) (hpl : (backTo pos (starEach [b] X.env)).any (·.1) = false := by rfl) :
    Ev X B Γ (c1 + (c2 + 0) + 0) (.Call (.Name "_law_exact" p) [a, b] [] pos) (Sd (dt true)) :=
  ev_call F hr (av_cons ha (av_cons hb av_nil hs2) hs) (by subst he; exact ⟨_, rfl, hx, rfl⟩) hg (by decide) hs hpl
/-! ### what is exact, by its type -/
class ExTy (α : Type) [DecidableEq α] [Datum α] where
  dep : Nat
  ex : ∀ x : α, ExD dep (dt x)
instance : ExTy Int := ⟨0, fun x => .int 0 x⟩
instance : ExTy Bool := ⟨0, fun x => .bl 0 x⟩
instance : ExTy Str := ⟨0, fun x => .str 0 x⟩
instance : ExTy Unit := ⟨0, fun _ => .non 0⟩
instance {α : Type} [DecidableEq α] [Datum α] [SomeDatum α] [i : ExTy α] : ExTy (Option α) := ⟨i.dep, fun x => match x with | none => .up (.non 0) (Nat.zero_le _) | some y => i.ex y⟩
instance {α : Type} [DecidableEq α] [Datum α] [i : ExTy α] : ExTy (List α) := ⟨i.dep + 1, fun xs => .lst (ds := (xs.map Datum.toD).map .py) rfl fun x hx => by
  rw [List.map_map] at hx
  obtain ⟨y, _, rfl⟩ := List.mem_map.mp hx
  exact i.ex y⟩
instance {α : Type} [DecidableEq α] [Datum α] [i : ExTy α] : ExTy (Tup α) := ⟨i.dep + 1, fun xs => .tup (ds := (xs.items.map Datum.toD).map .py) rfl fun x hx => by
  rw [List.map_map] at hx
  obtain ⟨y, _, rfl⟩ := List.mem_map.mp hx
  exact i.ex y⟩
instance {α β : Type} [DecidableEq α] [Datum α] [DecidableEq β] [Datum β] [i : ExTy α] [j : ExTy β] : ExTy (α × β) := ⟨max i.dep j.dep + 1, fun p => .tup (ds := [dt p.1, dt p.2]) rfl fun x hx => by
  rcases List.mem_cons.mp hx with h | h
  · subst h; exact (i.ex p.1).up (Nat.le_max_left _ _)
  · rw [List.mem_singleton.mp h]; exact (j.ex p.2).up (Nat.le_max_right _ _)⟩
theorem exTy {α : Type} [DecidableEq α] [Datum α] [i : ExTy α] {x : α} {n : Nat} (h : i.dep ≤ n) : ExD n (dt x) := (i.ex x).up h
inductive ExA (n : Nat) : List D → Prop
  | nil : ExA n []
  | cons {d : D} {ds : List D} : ExD n d → ExA n ds → ExA n (d :: ds)
theorem ExA.all {n : Nat} : ∀ {ds : List D}, ExA n ds → ∀ x ∈ ds, ExD n x
  | _, .nil => fun x h => by simp at h
  | _, .cons h t => fun x hx => by
    rcases List.mem_cons.mp hx with q | q
    · rw [q]; exact h
    · exact t.all x q
theorem exA {n : Nat} {ds : List D} (h : ExA n ds) : ExD (n + 1) (.lst ds) := .lst rfl h.all
theorem lst_eq {ds es : List D} (h : ds = es) : D.lst ds = D.lst es := congrArg _ h
theorem cons_eq {d e : D} {ds es : List D} (h : d = e) (t : ds = es) : d :: ds = e :: es := by rw [h, t]
theorem nil_eq : ([] : List D) = [] := rfl
theorem dt_eq {α : Type} [DecidableEq α] [Datum α] {x y : α} (h : x = y) : dt x = dt y := congrArg _ h
/-- [e] * k -/
theorem ev_rep {i : Int} {d : D} (ha : Ev X B Γ c1 a (So (.lst [d]))) (hb : Ev X B Γ c2 b (Sd (dt i))) (h : 0 ≤ i ∧ i ≤ 1000) : Ev X B Γ (c1 + c2) (.BinOp a .Mult b pos) (So (.lst (List.replicate i.toNat d))) :=
  ev_op2 op_rep (ev_sh ha) hb fun n G H x y Q vl h1 h2 k => by
    have ei := dp_int h2.dp
    subst ei
    cases h1 with
    | @lst ad vs ds hl hd =>
      cases hd with | @cons v vs' d ds' hv ht =>
      cases ht
      refine ⟨ad, i, [v], rfl, rfl, ?_, by omega, by omega, ?_, fun p hp => ?_⟩
      · obtain ⟨o, e, l⟩ := vl.sub ad _ hl
        cases l; exact e
      · show 1 * i.toNat ≤ sizeLine
        exact sz_of (by omega)
      · obtain ⟨s1, v1⟩ := Ste.new (o := .lst (List.replicate i.toNat [v]).flatten) vl hp trivial
        have fl : ∀ m : Nat, (List.replicate m [v]).flatten = List.replicate m v := fun m => by
          induction m with
          | zero => rfl
          | succ m ih => rw [List.replicate_succ, List.flatten_cons, ih, List.replicate_succ]; rfl
        have all : ∀ m : Nat, DenAll X.K G (List.replicate m v) (List.replicate m d) := fun m => by
          induction m with
          | zero => exact .nil
          | succ m ih => exact .cons hv ih
        rw [fl] at s1 v1 ⊢
        exact k _ _ _ _ s1 v1 rfl (Res.newL vl hp (.lst (all _)))
/-! ### a, b = e1, e2 with known answers; xs.append(y) with a known y -/
section
variable {r1 r2 : Ent} {c3 : Nat} {px py pt pt2 p2 p3 : Pos} {α : Type} [DecidableEq α] [Datum α]
theorem sv_pare (i j : Nat) {x y : Str} {kt k2 : Nat} (nd : X.N.Nodup) (h1 : Ev X B Γ c1 a (fun r => r = r1)) (h2 : Ev X B Γ c2 b (fun r => r = r2)) (hk : Sv X B ((Γ.set i r1).set j r2) c3 rest O) (hc : X.calm = true := by rfl) (hij : i ≠ j := by decide) (hi : X.N[i]? = some x := by rfl) (hj : X.N[j]? = some y := by rfl) (hx : X.env.scope.names.lookup x = some .local := by rfl) (hy : X.env.scope.names.lookup y = some .local := by rfl)
    (hw : swappedStores [.Tuple [.Name x px, .Name y py] kt pt] (.Tuple [a, b] k2 pt2) X.env = pure (some [x, y]) := by rfl) (hs : swapsWithSole [.Tuple [.Name x px, .Name y py] kt pt] (.Tuple [a, b] k2 pt2) pos.line X.env = pure false := by rfl)
    (q1 : starEach [a, b] X.env = (false, eval a X.env) :: starEach [b] X.env := by rfl) (q2 : starEach [b] X.env = (false, eval b X.env) :: starEach [] X.env := by rfl) : Sv X B Γ (c1 + c2 + c3) (.Assign [.Tuple [.Name x px, .Name y py] kt pt] (.Tuple [a, b] k2 pt2) pos :: rest) O :=
  sv_par i j hc nd h1 h2 (fun _ _ e1 e2 => by subst e1; subst e2; exact hk) hij hi hj hx hy hw hs q1 q2
theorem sv_pareT (i j : Nat) {x y : Str} {kt k2 : Nat} (nd : X.N.Nodup) (h1 : Ev X B Γ c1 a (fun r => r = r1)) (h2 : Ev X B Γ c2 b (fun r => r = r2)) (hk : Sv X B ((Γ.set i r1).set j r2) c3 rest O) (hc : X.calm = true := by rfl) (hi : X.N[i]? = some x := by rfl) (hj : X.N[j]? = some y := by rfl) (hx : Loc X.env.scope x := by first | exact Or.inl rfl | exact Or.inr rfl) (hy : Loc X.env.scope y := by first | exact Or.inl rfl | exact Or.inr rfl)
    (hfx : X.fn x = true ∨ X.env.scope.names.lookup x = some .local := by first | exact .inl rfl | exact .inr rfl) (hfy : X.fn y = true ∨ X.env.scope.names.lookup y = some .local := by first | exact .inl rfl | exact .inr rfl)
    (hw : swappedStores [.Tuple [.Name x px, .Name y py] kt pt] (.Tuple [a, b] k2 pt2) X.env = pure none := by rfl) (hs : swapsWithSole [.Tuple [.Name x px, .Name y py] kt pt] (.Tuple [a, b] k2 pt2) pos.line X.env = pure false := by rfl)
    (h1a : (assignEach [.Tuple [.Name x px, .Name y py] kt pt] X.env).map (·.2) = [assign (.Tuple [.Name x px, .Name y py] kt pt) X.env] := by rfl)
    (hn : (assignEach [.Name x px, .Name y py] X.env).length = 2 := by rfl) (hst : (assignEach [.Name x px, .Name y py] X.env).findIdx? (·.1) = none := by rfl)
    (hs1 : (assignEach [.Name x px, .Name y py] X.env).map (·.2) = assign (.Name x px) X.env :: (assignEach [.Name y py] X.env).map (·.2) := by rfl) (hs2 : (assignEach [.Name y py] X.env).map (·.2) = assign (.Name y py) X.env :: (assignEach [] X.env).map (·.2) := by rfl)
    (q1 : starEach [a, b] X.env = (false, eval a X.env) :: starEach [b] X.env := by rfl) (q2 : starEach [b] X.env = (false, eval b X.env) :: starEach [] X.env := by rfl) : Sv X B Γ (c1 + c2 + c3) (.Assign [.Tuple [.Name x px, .Name y py] kt pt] (.Tuple [a, b] k2 pt2) pos :: rest) O :=
  sv_parT i j hc nd h1 h2 (fun _ _ e1 e2 => by subst e1; subst e2; exact hk) hi hj hx hy hfx hfy hw hs h1a hn hst hs1 hs2 q1 q2
theorem sv_appendd (i : Nat) {x : Str} {xs : List α} {y : α} (hΓ : Γ[i]? = some (Ent.ow (dt xs))) (he : Ev X B Γ c1 e (Sd (dt y))) (hz : xs.length < sizeLine) (k : Sv X B (Γ.set i (.ow (dt (xs ++ [y])))) c2 rest O)
    (hN : X.N[i]? = some x := by rfl) (hv : Vis X.env.scope x := by first | exact Or.inl rfl | exact Or.inr (Or.inl rfl) | exact Or.inr (Or.inr rfl)) (hd : (x == ("__debug__" : Str)) = false := by decide) (hcd : (x == ("__classdict__" : Str)) = false := by decide)
    (hbase : attributeBase (.Name x p) "append" X.env (eval (.Name x p) X.env) = eval (.Name x p) X.env := by rfl)
    (hfew : ((backTo p3 (starEach [e] X.env)).all (fun x => !x.1) && (backToKw p3 (keywordEach [] X.env)).all (fun x => x.1.isSome)
      && decide (([e] : List Expr).length + ([] : List Keyword).length + (if ([] : List Keyword).isEmpty then 0 else 1) < 30)) = true := by rfl)
    (hline : (p2.endLine == p3.line) = true := by rfl) (hs : starEach [e] X.env = (false, eval e X.env) :: starEach [] X.env := by rfl) (hplain : (backTo p3 (starEach [] X.env)).any (·.1) = false := by rfl)
    (hsw : swapsWith (.Call (.Attribute (.Name x p) "append" p2) [e] [] p3) none pos.line X.env = pure false := by rfl) : Sv X B Γ (c1 + 0 + c2) (.Expr (.Call (.Attribute (.Name x p) "append" p2) [e] [] p3) pos :: rest) O :=
  sv_append (P := fun z => z = y) i hΓ (rt_of he) hz (fun z hz => by subst hz; exact k) hN hv hd hcd hbase hfew hline hs hplain hsw
end
end
end DL
end

section
set_option Elab.async false
set_option linter.all false
set_option maxRecDepth 100000
set_option maxHeartbeats 4000000
set_option autoImplicit false
/-! ClF: two clauses. -/
namespace DL
open PySem PySem.Spec PyProof.Rows L2 PySem.W PySem.SeqAt
variable [Wd]
theorem ev_some {X : Cx} {B : Bs} {Γ : List Ent} {c : Nat} {e : Expr} {α : Type} [DecidableEq α] [Datum α] [SomeDatum α] {x : α} (h : Ev X B Γ c e (Sd (dt x))) : Ev X B Γ c e (Sd (dt (some x))) := h
def xOf (one other : List Str) : Str := (meet one other).getD default
theorem meet_x {one other : List Str} (h : isNonD (dt (meet one other)) = false) : meet one other = some (xOf one other) := by
  unfold xOf
  cases e : meet one other with
  | none => rw [e] at h; exact absurd h (by decide)
  | some x => rfl
theorem clash_of_meet {one other : List Str} {x : Str} (h : meet one other = some x) : clash one other = [x] := by
  unfold meet at h
  cases e : decide ((clash one other).length = 1) with
  | false => rw [e] at h; cases h
  | true =>
    rw [e] at h
    have h' : (clash one other)[0]? = some x := h
    have q := of_decide_eq_true e
    generalize clash one other = cs at h' q
    match cs, q with
    | [y], _ => simp at h'; rw [h']
theorem mem_clash {one other : List Str} {x : Str} : x ∈ clash one other ↔ ∃ l ∈ one, turnS l ∈ other ∧ bareS l = x := by
  unfold clash
  rw [(srt_perm _).mem_iff, List.mem_map]
  constructor
  · rintro ⟨l, hl, e⟩
    obtain ⟨h1, h2⟩ := List.mem_filter.mp hl
    exact ⟨l, h1, of_decide_eq_true h2, e⟩
  · rintro ⟨l, h1, h2, e⟩
    exact ⟨l, List.mem_filter.mpr ⟨h1, decide_eq_true h2⟩, e⟩
/-- what is put together is kept by whatever keeps both -/
theorem joined_kept {one other part : List Str} {names : List Str} {x : Str} (g1 : GoodC ⟨one⟩) (g2 : GoodC ⟨other⟩) (hm : meet one other = some x) (hp : Pt names part) (k1 : (one.any fun l => decide (l ∈ part)) = true) (k2 : (other.any fun l => decide (l ∈ part)) = true) :
    ((sset ((one ++ other).filter fun l => decide (bareS l ≠ x))).any fun l => decide (l ∈ part)) = true := by
  obtain ⟨l1, h1, p1⟩ := List.any_eq_true.mp k1
  obtain ⟨l2, h2, p2⟩ := List.any_eq_true.mp k2
  have p1 := of_decide_eq_true p1
  have p2 := of_decide_eq_true p2
  have fin : ∀ l, l ∈ one ++ other → l ∈ part → bareS l ≠ x → ((sset ((one ++ other).filter fun l => decide (bareS l ≠ x))).any fun l => decide (l ∈ part)) = true := fun l hl hp hx =>
    List.any_eq_true.mpr ⟨l, mem_sset.mpr (List.mem_filter.mpr ⟨hl, decide_eq_true hx⟩), decide_eq_true hp⟩
  by_cases b1 : bareS l1 = x
  · by_cases b2 : bareS l2 = x
    · exfalso
      have hc := clash_of_meet hm
      have hx : x ∈ clash one other := by rw [hc]; exact List.mem_cons_self
      obtain ⟨l, hl, ht, hb⟩ := mem_clash.mp hx
      have e1 : l = l1 := inj_of_map g1.unl hl h1 (by rw [hb, b1])
      have ll := (g1.lit l hl).lit
      have e2 : turnS l = l2 := inj_of_map g2.unl ht h2 (by rw [ll.bare_turn, hb, b2])
      subst e1; subst e2
      exact hp.no p1 p2
    · exact fin l2 (List.mem_append_right _ h2) p2 b2
  · exact fin l1 (List.mem_append_left _ h1) p1 b1
theorem rise_filter {xs : List Str} {p : Str → Bool} (h : Rise xs) : Rise (xs.filter p) := List.Pairwise.sublist List.filter_sublist h
theorem sset_filter {xs : List Str} {p : Str → Bool} (h : Rise xs) : sset (xs.filter p) = xs.filter p := sset_eq (rise_filter h) fun _ => Iff.rfl
theorem sset_id {xs : List Str} (h : Rise xs) : sset xs = xs := sset_eq h fun _ => Iff.rfl
theorem clash_len (one other : List Str) : (clash one other).length ≤ one.length := by
  unfold clash
  rw [(srt_perm _).length_eq, List.length_map]
  exact List.length_filter_le _ _
theorem clash_rise {one other : List Str} (g : GoodC ⟨one⟩) : Rise (clash one other) := (srt_srt _).rise ((srt_perm _).nodup_iff.mpr ((List.filter_sublist.map bareS).nodup g.unl))
theorem clash_comm {one other : List Str} (g1 : GoodC ⟨one⟩) (g2 : GoodC ⟨other⟩) : clash one other = clash other one := (clash_rise g1).ext (clash_rise g2) fun x => by
  rw [mem_clash, mem_clash]
  constructor
  · rintro ⟨l, h1, h2, e⟩
    have ll := (g1.lit l h1).lit
    exact ⟨turnS l, h2, by rw [ll.turn_turn]; exact h1, by rw [ll.bare_turn]; exact e⟩
  · rintro ⟨l, h1, h2, e⟩
    have ll := (g2.lit l h1).lit
    exact ⟨turnS l, h2, by rw [ll.turn_turn]; exact h1, by rw [ll.bare_turn]; exact e⟩
theorem meet_comm {one other : List Str} (g1 : GoodC ⟨one⟩) (g2 : GoodC ⟨other⟩) : meet one other = meet other one := by unfold meet; rw [clash_comm g1 g2]
theorem sset_comm (xs ys : List Str) : sset (xs ++ ys) = sset (ys ++ xs) := sset_eq (sset_rise _) fun a => by
  rw [mem_sset, List.mem_append, List.mem_append]; exact Or.comm
theorem sset_comm_f (xs ys : List Str) (p : Str → Bool) : sset ((xs ++ ys).filter p) = sset ((ys ++ xs).filter p) := by
  rw [List.filter_append, List.filter_append]; exact sset_comm _ _
theorem made_eq {one other : List Str} {xs : List Str} (h : meet one other = some (xOf one other)) : sset ((xs.filter fun x => decide (some (bareS x) ≠ meet one other)).map fun x => x) = sset (xs.filter fun l => decide (bareS l ≠ xOf one other)) := by
  rw [map_keep, h]
  congr 1
  apply List.filter_congr
  intro x _
  simp
theorem three_no {a b c : Bool} (h : a = true → b = true → c = true) : (a && (b && !c)) = false := by
  cases a <;> cases b <;> cases c <;> simp_all
theorem GoodC.two {c : Tup Str} (h : GoodC c) : ∀ l ∈ c.items, 0 < l.length ∧ l.length ≤ 1000 := h.len
end DL
end

section
set_option Elab.async false
set_option linter.all false
set_option maxRecDepth 100000
set_option maxHeartbeats 4000000
set_option autoImplicit false
/-! ClG: names sent to others; signs turned. -/
namespace DL
open PySem PySem.Spec PyProof.Rows L2 PySem.W PySem.SeqAt
variable [Wd]
/-- a table from words to unlike words -/
structure Snd (kvs : List (Str × Str)) : Prop where
  kw : ∀ kv ∈ kvs, isWord kv.1 = true
  vw : ∀ kv ∈ kvs, isWord kv.2 = true
  kn : (kvs.map (·.1)).Nodup
  vn : (kvs.map (·.2)).Nodup
theorem look_mem {kvs : List (Str × Str)} (h : (kvs.map (·.1)).Nodup) {k v : Str} (m : (k, v) ∈ kvs) : lookS kvs k = some v := by
  induction kvs with
  | nil => simp at m
  | cons x kvs ih =>
    rw [List.map_cons, List.nodup_cons] at h
    unfold lookS
    rcases List.mem_cons.mp m with q | q
    · subst q; simp
    · have : x.1 ≠ k := fun e => h.1 (e ▸ List.mem_map.mpr ⟨(k, v), q, rfl⟩)
      rw [List.find?_cons_of_neg (by simpa using this)]
      exact ih h.2 q
theorem get_mem {kvs : List (Str × Str)} (h : (kvs.map (·.1)).Nodup) {k v : Str} (m : (k, v) ∈ kvs) : getS kvs k = v := by unfold getS; rw [look_mem h m]; rfl
theorem Snd.at {kvs : List (Str × Str)} (h : Snd kvs) {k : Str} (hk : k ∈ kvs.map (·.1)) : ∃ v, (k, v) ∈ kvs ∧ getS kvs k = v := by
  obtain ⟨⟨k', v⟩, m, e⟩ := List.mem_map.mp hk
  cases e
  exact ⟨v, m, get_mem h.kn m⟩
theorem Snd.vals {kvs : List (Str × Str)} (h : Snd kvs) : (kvs.map (·.1)).map (getS kvs) = kvs.map (·.2) := by
  rw [List.map_map]
  apply List.map_congr_left
  rintro ⟨k, v⟩ m
  exact get_mem h.kn m
theorem Snd.word {kvs : List (Str × Str)} (h : Snd kvs) {k : Str} (hk : k ∈ kvs.map (·.1)) : isWord k = true ∧ isWord (getS kvs k) = true := by
  obtain ⟨v, m, e⟩ := h.at hk
  exact ⟨h.kw _ m, by rw [e]; exact h.vw _ m⟩
theorem Snd.sz {kvs : List (Str × Str)} (h : Snd kvs) : ∀ k ∈ kvs.map (·.1), k.length ≤ 1000 ∧ (getS kvs k).length ≤ 1000 := fun k hk => by
  have := h.word hk
  have h1 := wlen this.1
  have h2 := wlen this.2
  omega
theorem Snd.sends {kvs : List (Str × Str)} (h : Snd kvs) {ws : List Str} (hw : ∀ w ∈ ws, w ∈ kvs.map (·.1)) : sendsB kvs ws = true := by
  unfold sendsB
  rw [Bool.and_eq_true, Bool.and_eq_true, List.all_eq_true, List.all_eq_true]
  refine ⟨fun k hk => ?_, fun w hm => decide_eq_true (hw w hm), ?_⟩
  · obtain ⟨h1, h2⟩ := h.word hk
    rw [h1, h2]; rfl
  · rw [h.vals, once_full h.vn, List.length_map]; exact decide_eq_true rfl
/-- there and back -/
def backL (kvs : List (Str × Str)) : List (Str × Str) := kvs.map fun kv => (kv.2, kv.1)
theorem Snd.back {kvs : List (Str × Str)} (h : Snd kvs) : Snd (backL kvs) := by
  have e1 : (backL kvs).map (·.1) = kvs.map (·.2) := by unfold backL; rw [List.map_map]; rfl
  have e2 : (backL kvs).map (·.2) = kvs.map (·.1) := by unfold backL; rw [List.map_map]; rfl
  refine ⟨fun kv m => ?_, fun kv m => ?_, by rw [e1]; exact h.vn, by rw [e2]; exact h.kn⟩
  · obtain ⟨x, hx, rfl⟩ := List.mem_map.mp m
    exact h.vw x hx
  · obtain ⟨x, hx, rfl⟩ := List.mem_map.mp m
    exact h.kw x hx
theorem merge_self {kvs : List (Str × Str)} (h : (kvs.map (·.1)).Nodup) : mergeS [] kvs = kvs := by
  rw [mergeS_nodup (t := []) (by simpa using h)]; rfl
/-- the program's back is this -/
theorem back_eq {kvs : List (Str × Str)} (h : Snd kvs) : mergeS [] ((kvs.map (·.1)).map fun k => (getS kvs k, k)) = backL kvs := by
  have e : ((kvs.map (·.1)).map fun k => (getS kvs k, k)) = backL kvs := by
    rw [List.map_map]
    unfold backL
    apply List.map_congr_left
    rintro ⟨k, v⟩ m
    show (getS kvs k, k) = (v, k)
    rw [get_mem h.kn m]
  rw [e, merge_self h.back.kn]
theorem send_word {kvs : List (Str × Str)} {w : Str} (hw : isWord w = true) : sendL kvs w = ("" : Str) ++ getS kvs w := by
  unfold sendL; rw [head_word hw, bare_word hw]; rfl
theorem empty_app (x : Str) : ("" : Str) ++ x = x := by apply str_ext; rw [cps_app]; rfl
theorem send_pos {kvs : List (Str × Str)} {w : Str} (hw : isWord w = true) : sendL kvs w = getS kvs w := by rw [send_word hw, empty_app]
theorem send_neg {kvs : List (Str × Str)} (w : Str) : sendL kvs (minus ++ w) = minus ++ getS kvs w := by
  unfold sendL; rw [head_neg, bare_neg]; rfl
theorem Snd.lit {kvs : List (Str × Str)} (h : Snd kvs) {l : Str} (hl : Lit l) (hk : bareS l ∈ kvs.map (·.1)) : Lit (sendL kvs l) ∧ bareS (sendL kvs l) = getS kvs (bareS l) ∧ sendL (backL kvs) (sendL kvs l) = l := by
  obtain ⟨v, m, e⟩ := h.at hk
  have hv : isWord v = true := h.vw _ m
  have hb : getS (backL kvs) v = bareS l := get_mem h.back.kn (List.mem_map.mpr ⟨_, m, rfl⟩)
  obtain ⟨w, hw, rfl | rfl⟩ := hl
  · rw [bare_word hw] at e hb
    rw [send_pos hw, bare_word hw, e]
    exact ⟨.pos hv, bare_word hv, by rw [send_pos hv, hb]⟩
  · rw [bare_neg] at e hb
    have e' : sendL kvs (minus ++ w) = minus ++ v := by rw [send_neg, e]
    rw [e']
    exact ⟨.neg hv, by rw [bare_neg, bare_neg]; exact e.symm, by rw [send_neg, hb]⟩
theorem sset_map_sset {f : Str → Str} (xs : List Str) : sset ((sset xs).map f) = sset (xs.map f) := sset_eq (sset_rise _) fun a => by
  rw [mem_sset, List.mem_map, List.mem_map]
  constructor
  · rintro ⟨x, h, e⟩; exact ⟨x, mem_sset.mp h, e⟩
  · rintro ⟨x, h, e⟩; exact ⟨x, mem_sset.mpr h, e⟩
/-- the clause, its names sent -/
def sentC (kvs : List (Str × Str)) (c : Tup Str) : Tup Str := ⟨sset (c.items.map (sendL kvs))⟩
theorem sent_good {kvs : List (Str × Str)} {c : Tup Str} (h : Snd kvs) (g : GoodC c) (hk : ∀ l ∈ c.items, bareS l ∈ kvs.map (·.1)) : GoodC (sentC kvs c) ∧ (∀ l ∈ (sentC kvs c).items, bareS l ∈ (backL kvs).map (·.1)) ∧ sset ((sentC kvs c).items.map (sendL (backL kvs))) = c.items := by
  have ll : ∀ l ∈ c.items, Lit l := fun l hl => (g.lit l hl).lit
  have hb : (c.items.map (sendL kvs)).map bareS = (c.items.map bareS).map (getS kvs) := by
    rw [List.map_map, List.map_map]
    apply List.map_congr_left
    intro l hl
    exact (h.lit (ll l hl) (hk l hl)).2.1
  have inj : ((c.items.map bareS).map (getS kvs)).Nodup := by
    refine List.Pairwise.map _ (fun a b hab => hab) ?_
    refine List.Pairwise.imp_of_mem (R := fun a b => a ≠ b) (fun {a b} ha hb' hab => ?_) g.unl
    obtain ⟨l, hl, rfl⟩ := List.mem_map.mp ha
    obtain ⟨k, hk', rfl⟩ := List.mem_map.mp hb'
    obtain ⟨v, m, e⟩ := h.at (hk l hl)
    obtain ⟨v2, m2, e2⟩ := h.at (hk k hk')
    rw [e, e2]
    intro z
    subst z
    have := inj_of_map (f := fun kv : Str × Str => kv.2) h.vn m m2 rfl
    exact hab (congrArg Prod.fst this)
  have unl : ((c.items.map (sendL kvs)).map bareS).Nodup := by rw [hb]; exact inj
  have nd : (c.items.map (sendL kvs)).Nodup := nodup_of_map bareS unl
  have pm : (sset (c.items.map (sendL kvs))).Perm (c.items.map (sendL kvs)) := (srt_perm _).trans (once_id nd)
  refine ⟨⟨fun l hl => ?_, sset_rise _, (pm.map bareS).nodup_iff.mpr unl, by rw [show (sentC kvs c).items = sset (c.items.map (sendL kvs)) from rfl, pm.length_eq, List.length_map]; exact g.few⟩, fun l hl => ?_, ?_⟩
  · obtain ⟨k, hk', rfl⟩ := List.mem_map.mp (mem_sset.mp hl)
    exact (h.lit (ll k hk') (hk k hk')).1.good
  · obtain ⟨k, hk', rfl⟩ := List.mem_map.mp (mem_sset.mp hl)
    rw [(h.lit (ll k hk') (hk k hk')).2.1]
    obtain ⟨v, m, e⟩ := h.at (hk k hk')
    rw [e]
    exact List.mem_map.mpr ⟨(v, bareS k), List.mem_map.mpr ⟨_, m, rfl⟩, rfl⟩
  · rw [show (sentC kvs c).items = sset (c.items.map (sendL kvs)) from rfl, sset_map_sset, List.map_map]
    have e : c.items.map (sendL (backL kvs) ∘ sendL kvs) = c.items := by
      have : c.items.map (sendL (backL kvs) ∘ sendL kvs) = c.items.map id := List.map_congr_left fun l hl => (h.lit (ll l hl) (hk l hl)).2.2
      rw [this, List.map_id]
    rw [e]
    exact sset_id g.rise
/-- the table cut to a clause's names -/
theorem few_eq {kvs : List (Str × Str)} {c : Tup Str} (h : Snd kvs) (g : GoodC c) (hk : ∀ l ∈ c.items, bareS l ∈ kvs.map (·.1)) : ∃ few, mergeS [] ((c.items.map bareS).map fun k => (k, getS kvs k)) = few ∧ Snd few ∧ few.map (·.1) = c.items.map bareS ∧ c.items.map (sendL few) = c.items.map (sendL kvs) := by
  have k1 : ((c.items.map bareS).map fun k => (k, getS kvs k)).map (·.1) = c.items.map bareS := by rw [List.map_map, List.map_map]; rfl
  have hin : ∀ kv ∈ (c.items.map bareS).map (fun k => (k, getS kvs k)), kv ∈ kvs := fun kv m => by
    obtain ⟨k, hk1, rfl⟩ := List.mem_map.mp m
    obtain ⟨l, hl, rfl⟩ := List.mem_map.mp hk1
    obtain ⟨v, m, e⟩ := h.at (hk l hl)
    rw [e]; exact m
  have s : Snd ((c.items.map bareS).map fun k => (k, getS kvs k)) := by
    refine ⟨fun kv m => h.kw _ (hin kv m), fun kv m => h.vw _ (hin kv m), by rw [k1]; exact g.unl, ?_⟩
    have nd : ((c.items.map bareS).map fun k => (k, getS kvs k)).Nodup := nodup_of_map (fun kv : Str × Str => kv.1) (by rw [k1]; exact g.unl)
    refine List.Pairwise.map _ (fun a b hab => hab) ?_
    refine List.Pairwise.imp_of_mem (R := fun a b => a ≠ b) (fun {a b} ha hb hab z => ?_) nd
    exact hab (inj_of_map (f := fun kv : Str × Str => kv.2) h.vn (hin a ha) (hin b hb) z)
  refine ⟨_, rfl, ?_, ?_, ?_⟩
  · rw [merge_self s.kn]; exact s
  · rw [merge_self s.kn]; exact k1
  · rw [merge_self s.kn]
    apply List.map_congr_left
    intro l hl
    have hm : bareS l ∈ c.items.map bareS := List.mem_map.mpr ⟨l, hl, rfl⟩
    unfold sendL
    rw [get_mem s.kn (List.mem_map.mpr ⟨bareS l, hm, rfl⟩)]
/-! ### signs turned -/
def turnL (ws : List Str) (l : Str) : Str := bif decide (bareS l ∈ ws) then turnS l else l
theorem turnL_lit {ws : List Str} {l : Str} (h : Lit l) : Lit (turnL ws l) ∧ bareS (turnL ws l) = bareS l ∧ turnL ws (turnL ws l) = l := by
  unfold turnL
  by_cases q : bareS l ∈ ws
  · rw [decide_eq_true q]
    refine ⟨h.turn, h.bare_turn, ?_⟩
    show (bif decide (bareS (turnS l) ∈ ws) then turnS (turnS l) else turnS l) = l
    rw [h.bare_turn, decide_eq_true q]
    exact h.turn_turn
  · rw [decide_eq_false q]
    refine ⟨h, rfl, ?_⟩
    show (bif decide (bareS l ∈ ws) then turnS l else l) = l
    rw [decide_eq_false q]; rfl
def turnC (ws : List Str) (c : Tup Str) : Tup Str := ⟨sset (c.items.map (turnL ws))⟩
theorem turn_good {ws : List Str} {c : Tup Str} (g : GoodC c) : GoodC (turnC ws c) ∧ turnC ws (turnC ws c) = c := by
  have ll : ∀ l ∈ c.items, Lit l := fun l hl => (g.lit l hl).lit
  have hb : (c.items.map (turnL ws)).map bareS = c.items.map bareS := by
    rw [List.map_map]
    apply List.map_congr_left
    intro l hl
    exact (turnL_lit (ll l hl)).2.1
  have unl : ((c.items.map (turnL ws)).map bareS).Nodup := by rw [hb]; exact g.unl
  have pm : (sset (c.items.map (turnL ws))).Perm (c.items.map (turnL ws)) := (srt_perm _).trans (once_id (nodup_of_map bareS unl))
  refine ⟨⟨fun l hl => ?_, sset_rise _, (pm.map bareS).nodup_iff.mpr unl, by rw [show (turnC ws c).items = sset (c.items.map (turnL ws)) from rfl, pm.length_eq, List.length_map]; exact g.few⟩, ?_⟩
  · obtain ⟨k, hk, rfl⟩ := List.mem_map.mp (mem_sset.mp hl)
    exact (turnL_lit (ll k hk)).1.good
  · show (⟨sset ((sset (c.items.map (turnL ws))).map (turnL ws))⟩ : Tup Str) = c
    rw [sset_map_sset, List.map_map]
    have e : c.items.map (turnL ws ∘ turnL ws) = c.items := by
      have : c.items.map (turnL ws ∘ turnL ws) = c.items.map id := List.map_congr_left fun l hl => (turnL_lit (ll l hl)).2.2
      rw [this, List.map_id]
    rw [e, sset_id g.rise]
theorem turnC_none (c : Tup Str) (g : GoodC c) : turnC [] c = c := by
  unfold turnC
  have : c.items.map (turnL []) = c.items.map id := List.map_congr_left fun l _ => by unfold turnL; rfl
  rw [this, List.map_id, sset_id g.rise]
/-! ### words that are free -/
theorem times8_signs {l : Str} (h : l.length = 1) : signs (times8 l) = List.replicate 8 l := by
  have hl : l.cps.toList.length = 1 := by rw [← len_str]; exact h
  obtain ⟨k, hk⟩ : ∃ k, l.cps.toList = [k] := by
    match l.cps.toList, hl with
    | [k], _ => exact ⟨k, rfl⟩
  have e : l = ⟨#[k]⟩ := by apply str_ext; rw [hk]
  subst e
  unfold signs times8
  rfl
theorem times8_word {l : Str} (h : l.length = 1 ∧ letter l = true) : isWord (times8 l) = true := by
  have e := times8_signs h.1
  have hn : (times8 l).length = 8 := by rw [← signs_len, e, List.length_replicate]
  exact isWord_iff.mpr ⟨by omega, by omega, fun s hs => by rw [e] at hs; rw [List.eq_of_mem_replicate hs]; exact h.2⟩
theorem times8_inj {l k : Str} (h : l.length = 1) (h' : k.length = 1) (e : times8 l = times8 k) : l = k := by
  have := congrArg signs e
  rw [times8_signs h, times8_signs h'] at this
  exact (List.cons.inj this).1
theorem spare_ok (names : List Str) : (spareL names).Nodup ∧ (∀ w ∈ spareL names, isWord w = true) ∧ ∀ w ∈ spareL names, w ∉ names := by
  refine ⟨?_, fun w hw => ?_, fun w hw => ?_⟩
  · unfold spareL
    refine List.Pairwise.map _ (fun a b hab => hab) ?_
    refine List.Pairwise.imp_of_mem (R := fun a b => a ≠ b) (fun {a b} ha hb hab z => hab ?_) (abc_nd.filter _)
    exact times8_inj (abc_letters a (List.mem_filter.mp ha).1).1 (abc_letters b (List.mem_filter.mp hb).1).1 z
  · obtain ⟨l, hl, rfl⟩ := List.mem_map.mp hw
    exact times8_word (abc_letters l (List.mem_filter.mp hl).1)
  · obtain ⟨l, hl, rfl⟩ := List.mem_map.mp hw
    have := (List.mem_filter.mp hl).2
    have h2 : (!decide (times8 l ∈ names)) = true := this
    simpa using h2
theorem zip_snd {α β : Type} : ∀ (xs : List α) (ys : List β), (xs.zip ys).map (·.2) = ys.take xs.length
  | [], ys => by simp
  | x :: xs, [] => by simp
  | x :: xs, y :: ys => by rw [List.zip_cons_cons, List.map_cons, zip_snd xs ys]; rfl
theorem cut_two {α : Type} (xs : List α) : (cut xs none (some 2)).length ≤ 2 := by
  unfold cut
  rw [List.length_take, HT.sIx_none, show (some (2 : Int)) = some ((2 : Nat) : Int) from rfl, HT.sIx_nat]
  omega
/-- words dealt to names -/
theorem dealt {names ws : List Str} {ps qs : List (Str × Str)} (hn : ∀ n ∈ names, isWord n = true) (nn : names.Nodup) (hw : ∀ w ∈ ws, isWord w = true) (nw : ws.Nodup) (hl : names.length ≤ ws.length) (hp : ps.Perm (names.zip ws)) (he : qs = mergeS [] (ps.map fun q => (q.1, q.2))) : Snd qs ∧ (∀ n ∈ names, n ∈ qs.map (·.1)) ∧ qs.length = names.length := by
  have e0 : (ps.map fun q : Str × Str => (q.1, q.2)) = ps := by rw [show (fun q : Str × Str => (q.1, q.2)) = id from rfl, List.map_id]
  have k1 : (names.zip ws).map (·.1) = names := List.map_fst_zip hl
  have v1 : (names.zip ws).map (·.2) = ws.take names.length := zip_snd names ws
  have kn : (ps.map (·.1)).Nodup := (hp.map (·.1)).nodup_iff.mpr (by rw [k1]; exact nn)
  rw [e0, merge_self kn] at he
  subst he
  refine ⟨⟨fun kv m => ?_, fun kv m => ?_, kn, (hp.map (·.2)).nodup_iff.mpr (by rw [v1]; exact (List.take_sublist _ _).nodup nw)⟩, fun n hm => ?_, ?_⟩
  · exact hn _ (k1 ▸ List.mem_map.mpr ⟨kv, hp.mem_iff.mp m, rfl⟩)
  · have : kv.2 ∈ ws.take names.length := v1 ▸ List.mem_map.mpr ⟨kv, hp.mem_iff.mp m, rfl⟩
    exact hw _ (List.mem_of_mem_take this)
  · exact (hp.map (·.1)).mem_iff.mpr (by rw [k1]; exact hm)
  · rw [hp.length_eq, List.length_zip]; omega
end DL
end

section
set_option Elab.async false
set_option linter.all false
set_option maxRecDepth 100000
set_option maxHeartbeats 4000000
set_option autoImplicit false
/-! DmM: comprehensions and dicts known by a property; stored. -/
namespace DL
open PySem PySem.Spec PyProof.Rows L2 PySem.W PySem.SeqAt
variable [Wd]
section
variable {X : Cx} {B : Bs} {Γ : List Ent} {c c0 c1 c2 k : Nat} {elt tg iter e a b t : Expr} {es ifs : List Expr} {scope : Scope} {own : List (Str × Nat)} {p p2 p3 pos spos apos : Pos} {g : TG} {ι : Type} {enc : ι → D} {Γ' : ι → List Ent} {S : Ent → Prop} {O : Out} {rest : List Stmt} {α β γ : Type} [DecidableEq α] [Datum α] [DecidableEq β] [Datum β] [DecidableEq γ] [Datum γ]
theorem lcRel_map {f : ι → β} : ∀ {xs : List ι} {ys : List D}, LcRel (fun _ b => b = true) (fun x y => y = dt (f x)) xs ys → ys = (xs.map f).map dt
  | _, _, .nil => rfl
  | _, _, .keep _ e r => by rw [e, lcRel_map r]; rfl
  | _, _, .skip t _ => by cases t
/-- [f(x) for x in xs], xs known by a property -/
theorem lc_M {f : ι → β} {Q : List ι → Prop} (hi : Iv X B Γ c0 tg iter fun l => ∃ ys, Q ys ∧ l = ys.map enc) (ok : BlkOk X.N X.env.scope scope own) (htg : ∀ d, TgOk X.K g (own.map (·.2)) (wipeE Γ (own.map (·.2))) (enc d) (Γ' d))
    (hg : ∀ (s : Shared) (H : Hp) (C : Addr) (cl : List (Str × Addr)) (fp : List Addr), PG (X.blk s H scope (compEnvC scope cl C X.env) fp) tg g)
    (he : ∀ xs, Q xs → ∀ d ∈ xs, ∀ (s : Shared) (H : Hp) (C : Addr) (cl : List (Str × Addr)) (fp : List Addr), PE (X.blk s H scope (compEnvC scope cl C X.env) fp) elt (tEv X.K B (Γ' d) c2 (Sd (dt (f d)))))
    (hs : ∀ x, foldedSetIterable iter X.env x = pure x := by intro _; rfl) : Lc X B Γ (c0 + sizeLine * (0 + c2)) elt tg iter [] scope (fun r => ∃ zs : List β, (∃ xs, Q xs ∧ zs = xs.map f) ∧ r = .ow (dt zs)) :=
  (lc_mk (T := fun _ b => b = true) (S := fun x y => y = dt (f x)) hi ok htg hg (fun _ _ _ _ _ _ _ _ _ => tts_nil) (fun xs h0 d hd _ s H C cl fp => ev_sp (he xs h0 d hd s H C cl fp)) hs).weak fun σ H Q' ⟨n, G, pr, kk⟩ => ⟨n, G, pr, fun v H' G' n' r h1 h2 h3 ⟨xs, ys, q0, rel, e⟩ hr => by
    rw [lcRel_map rel] at e
    subst e
    exact kk v H' G' n' _ h1 h2 h3 ⟨_, ⟨xs, q0, rfl⟩, rfl⟩ hr.py⟩
/-- y = [..], shared at once, known by a property -/
theorem sv_setLcR (i : Nat) {y : Str} {P : List β → Prop} (h : Lc X B Γ c1 elt tg iter ifs scope (fun r => ∃ zs : List β, P zs ∧ r = .ow (dt zs))) (hc : X.calm = true) (hN : X.N.Nodup) (k : ∀ zs, P zs → Sv X B (Γ.set i (.sh (dt zs))) c2 rest O) (hy : X.N[i]? = some y := by rfl) (hyl : X.env.scope.names.lookup y = some .local := by rfl)
    (hsw : swapsWith (.ListComp elt [⟨tg, iter, ifs, 0⟩] scope pos) (some (.Name y p2)) spos.line X.env = pure true := by rfl) : Sv X B Γ (c1 + c2) (.Assign [.Name y p2] (.ListComp elt [⟨tg, iter, ifs, 0⟩] scope pos) spos :: rest) O :=
  sv_setLc (SS := fun r => ∃ zs : List β, P zs ∧ r = .sh (dt zs)) i (h.weak fun σ H Q ⟨n, G, p, kk⟩ => ⟨n, G, p, fun v H' G' n' r hn st vl ⟨zs, hz, e⟩ hr => by
    subst e
    obtain ⟨G'', s2, v2, den, _⟩ := hr.share st vl
    exact kk v H' G'' n' _ hn s2 v2 ⟨zs, hz, rfl⟩ (.sh den)⟩) hc hN (fun r ⟨zs, hz, q⟩ => by subst q; exact k zs hz) hy hyl hsw
/-- y = [..] in a cell: as an expression -/
theorem sv_setRL (i : Nat) {x : Str} {P : List β → Prop} (nd : X.N.Nodup) (h : Ev X B Γ c1 e (fun r => ∃ zs : List β, P zs ∧ r = .ow (dt zs))) (k : ∀ z, P z → Sv X B (Γ.set i (.sh (dt z))) c2 rest O) (hi : X.N[i]? = some x := by rfl) (hx : Loc X.env.scope x := by first | exact Or.inl rfl | exact Or.inr rfl) (hs : swapsWithSole [.Name x p2] e pos.line X.env = pure false := by rfl) (hw : swappedStores [.Name x p2] e X.env = pure none := by rfl)
    (h1 : (assignEach [.Name x p2] X.env).map (·.2) = [assign (.Name x p2) X.env] := by rfl) (hf : X.fn x = true ∨ X.env.scope.names.lookup x = some .local := by first | exact .inl rfl | exact .inr rfl) : Sv X B Γ (c1 + c2) (.Assign [.Name x p2] e pos :: rest) O :=
  sv_setR i nd (ev_shR h) k hi hx hs hw h1 hf
/-- dict(pairs), pairs known by a property -/
theorem ev_dictPR {P : List (Str × α) → Prop} (hc : X.calm = true) (hm : X.mg "dict" = none) (ha : Ev X B Γ c1 a (Rt P)) (hg : Gl X "dict" := by rfl) (h1 : starEach [a] X.env = (false, eval a X.env) :: starEach [] X.env := by rfl) (h3 : (backTo pos (starEach [] X.env)).any (·.1) = false := by rfl) :
    Ev X B Γ (c1 + 0) (.Call (.Name "dict" p) [a] [] pos) (fun r => ∃ xs, P xs ∧ r = .ow (mpS (mergeS [] xs))) := ev_callTyN (call_dictP hc) hm (av_consN ha av_nil h1) (fun ds ⟨d, r, e1, ⟨xs, hx, e2⟩, e3⟩ => by
    subst e1; subst e2; subst e3
    intro n G H vs Q vl hd k
    obtain ⟨v, rfl, g1⟩ := denAll1 hd
    obtain ⟨ad, ws, rfl, hp, hw⟩ := dp_list g1.dp
    obtain ⟨ps, r, rfl, h5, h6⟩ := dq_pairs hw
    refine ⟨ad, ps, r, rfl, .of (vl.sub.lst hp), paired_sub vl.sub h5, fun l hl => ?_⟩
    obtain ⟨s1, v1⟩ := Ste.new (o := .dK (mergeK [] r)) vl hl trivial
    exact k _ _ _ _ s1 v1 ⟨xs, hx, rfl⟩ (Res.newD vl hl (h6.merge .nil))) hg (by decide +kernel) (by decide) (by decide) h1 h3
/-- x = a dict known by a property, shared at once -/
theorem sv_setM (i : Nat) {x : Str} {P : List (Str × α) → Prop} (nd : X.N.Nodup) (h : Ev X B Γ c1 e (fun r => ∃ kvs, P kvs ∧ r = .ow (mpS kvs))) (k : ∀ kvs, P kvs → Sv X B (Γ.set i (.sh (mpS kvs))) c2 rest O) (hi : X.N[i]? = some x := by rfl) (hx : Loc X.env.scope x := by first | exact Or.inl rfl | exact Or.inr rfl) (hs : swapsWithSole [.Name x p2] e pos.line X.env = pure false := by rfl) (hw : swappedStores [.Name x p2] e X.env = pure none := by rfl)
    (h1 : (assignEach [.Name x p2] X.env).map (·.2) = [assign (.Name x p2) X.env] := by rfl) (hf : X.fn x = true ∨ X.env.scope.names.lookup x = some .local := by first | exact .inl rfl | exact .inr rfl) : Sv X B Γ (c1 + c2) (.Assign [.Name x p2] e pos :: rest) O :=
  sv_set (S := fun r => ∃ kvs, P kvs ∧ r = .sh (mpS kvs)) i nd (pe_mono h fun σ H Q ⟨n, G, p, k⟩ => ⟨n, G, p, fun v H' G' n' r hn st vl ⟨z, hz, e⟩ hr => by
    subst e
    obtain ⟨G'', s2, v2, den, _⟩ := hr.share st vl
    exact k v H' G'' n' _ hn s2 v2 ⟨z, hz, rfl⟩ (.sh den)⟩) (fun r ⟨kvs, hz, q⟩ => by subst q; exact k kvs hz) hi hx hs hw h1 hf
/-- a[::-1] -/
class PyRev (α : Type) [DecidableEq α] [Datum α] where
  rev : α → α
  rule : ∀ {X : Cx} {B : Bs} {Γ : List Ent} {c : Nat} {e : Expr} {k : Nat} {p1 p2 p3 pos : Pos} {x : α}, Ev X B Γ c e (Sd (dt x)) → Ev X B Γ c (.Subscript e (.Slice none none (some (.UnaryOp .USub (.Constant (.int 1) k p1) p2)) p3) pos) (Sd (dt (rev x)))
instance {α : Type} [DecidableEq α] [Datum α] : PyRev (List α) := ⟨fun xs => xs.reverse, fun h => ev_sh (ev_revL h)⟩
instance {α : Type} [DecidableEq α] [Datum α] : PyRev (Tup α) := ⟨fun xs => ⟨xs.items.reverse⟩, fun h => ev_revT h⟩
theorem py_rev [i : PyRev α] {x : α} {j : Nat} {q1 q2 q3 : Pos} (h : Ev X B Γ c e (Sd (dt x))) : Ev X B Γ c (.Subscript e (.Slice none none (some (.UnaryOp .USub (.Constant (.int 1) j q1) q2)) q3) pos) (Sd (dt (i.rev x))) := i.rule h
end
end DL
end

section
set_option Elab.async false
set_option linter.all false
set_option maxRecDepth 100000
set_option maxHeartbeats 4000000
set_option autoImplicit false
/-! ClH: clauses back to front; lists of literals. -/
namespace DL
open PySem PySem.Spec PyProof.Rows L2 PySem.W PySem.SeqAt
variable [Wd]
theorem unlike_of {xs : List Str} (h : (xs.map bareS).Nodup) : unlikeB xs = true := by
  unfold unlikeB
  rw [decide_eq_true_eq, once_full h, List.length_map]
theorem rise_rev {xs : List Str} (h : Rise xs) (h' : Rise xs.reverse) : xs.length < 2 := by
  match xs, h, h' with
  | [], _, _ => exact Nat.zero_lt_two
  | [x], _, _ => exact Nat.one_lt_two
  | x :: y :: r, h, h' =>
    exfalso
    have a : DatumOrd.lt x y = true := (List.pairwise_cons.mp h).1 y List.mem_cons_self
    have b := List.pairwise_reverse.mp h'
    have b' : DatumOrd.lt y x = true := (List.pairwise_cons.mp b).1 y List.mem_cons_self
    have := ord_asy a
    rw [b'] at this; cases this
theorem rev_cl {c : Tup Str} (g : GoodC c) : isCl c.items.reverse = decide (c.items.length < 2) := by
  have hl : c.items.reverse.all isLit = true := List.all_eq_true.mpr fun l hl => (g.lit l (List.mem_reverse.mp hl)).1
  have hu : unlikeB c.items.reverse = true := unlike_of (by rw [List.map_reverse]; exact (List.reverse_perm _).nodup_iff.mpr g.unl)
  unfold isCl
  rw [hl, hu, Bool.and_true, Bool.true_and]
  by_cases q : c.items.length < 2
  · rw [decide_eq_true q]
    refine (riseB_iff _).mpr ?_
    generalize c.items = xs at q
    match xs, q with
    | [], _ => exact List.Pairwise.nil
    | [x], _ => exact List.pairwise_singleton _ _
  · rw [decide_eq_false q]
    cases e : riseB c.items.reverse with
    | false => rfl
    | true => exact absurd (rise_rev g.rise ((riseB_iff _).mp e)) q
theorem sset_same {xs ys : List Str} (h : ∀ a, a ∈ xs ↔ a ∈ ys) : sset xs = sset ys := sset_eq (sset_rise _) fun a => by rw [h, mem_sset]
theorem mem_cut {α : Type} {xs : List α} {l u : Option Int} {x : α} (h : x ∈ cut xs l u) : x ∈ xs := (sub_cut xs l u).subset h
theorem lt_two (xs : List Str) : DatumOrd.lt (((xs.length : Nat) : Int)) (2 : Int) = decide (xs.length < 2) := by
  show decide (((xs.length : Nat) : Int) < 2) = _
  by_cases h : xs.length < 2
  · rw [decide_eq_true h]; exact decide_eq_true (by omega)
  · rw [decide_eq_false h]; exact decide_eq_false (by omega)
end DL
end

section
set_option Elab.async false
set_option linter.all false
set_option maxRecDepth 100000
set_option maxHeartbeats 4000000
set_option autoImplicit false
/-! DmN: sorted and walks of what is known by a property; loops over it. -/
namespace DL
open PySem PySem.Spec PyProof.Rows L2 PySem.W PySem.SeqAt
variable [Wd]
section
variable {X : Cx} {B : Bs} {Γ Γ0 : List Ent} {c c0 c1 c2 k n : Nat} {tg iter e a b : Expr} {es : List Expr} {p pos : Pos} {O : Out} {body rest : List Stmt} {ι : Type} {enc : ι → D} {g : TG} {S0 : List ι → Prop} {Γ' : ι → (Nat → Ent) → List Ent} {α : Type} [DecidableEq α] [Datum α]
/-- for x in xs, xs known by a property: what keeps all slots but vs -/
theorem sv_forRF (vs : List Nat) (hc : X.calm = true) (hi : Iv X B Γ c0 tg iter fun l => ∃ ys, S0 ys ∧ l = ys.map enc) (hg : PG X tg g) (ws : List Nat)
    (htg : ∀ d f, TgOk X.K g ws (setAll Γ vs f) (enc d) (Γ' d f)) (h0 : Γ = setAll Γ vs (fun j => Γ.getD j .no))
    (ht : ∀ xs, S0 xs → ∀ d ∈ xs, ∀ f, Sv X B (Γ' d f) c1 body { O with nx := fun G => ∃ f, G = setAll Γ vs f, ct := fun G => ∃ f, G = setAll Γ vs f, bk := fun G => ∃ f, G = setAll Γ vs f })
    (k : ∀ f, Sv X B (setAll Γ vs f) c2 rest O) (hp : PassesOwn (model X.prog X.w) X.A X.env X.xe := by exact PassesOwn.never) (hs : ∀ x, foldedSetIterable iter X.env x = pure x := by intro _; rfl) : Sv X B Γ (c0 + sizeLine * c1 + c2) (.For tg iter body [] pos :: rest) O :=
  sv_cons (N := fun G => ∃ f, G = setAll Γ vs f) (s_for (O := { O with nx := fun G => ∃ f, G = setAll Γ vs f }) hc hp hi hg (fun _ _ G => ∃ f, G = setAll Γ vs f) (fun ys _ => ⟨_, h0⟩)
    (fun ys hy i d hd Γi ⟨f, hf⟩ => ⟨Γ' d f, ws, hf ▸ htg d f, ht ys hy d (List.mem_of_getElem? hd) f⟩) (fun ys _ Γi h => h) hs) fun G ⟨f, hf⟩ => by subst hf; exact k f
/-- a list of any data, known by a property -/
theorem iv_DR {P : List D → Prop} (h : Ev X B Γ c e (fun r => ∃ ds, P ds ∧ r = .ow (.lst ds))) : Iv X B Γ c tg e (fun l => ∃ ys, P ys ∧ l = ys.map id) :=
  have h2 : Ev X B Γ c e (fun r => ∃ ds, P ds ∧ r = .sh (.lst ds)) := pe_mono h fun σ H Q ⟨n, G, p, k⟩ => ⟨n, G, p, fun v H' G' n' r hn st vl ⟨zs, hz, e⟩ hr => by
    subst e
    obtain ⟨G'', s2, v2, den, _⟩ := hr.share st vl
    exact k v H' G'' n' _ hn s2 v2 ⟨zs, hz, rfl⟩ (.sh den)⟩
  pi_mono (pi_list (ev_size h2)) fun σ H R ⟨n, G, p, k⟩ => ⟨n, G, p, fun v H1 G1 n1 r hn st vl ⟨ds, hP, e⟩ hr z1 z2 => by
    subst e
    cases hr with | sh den =>
    obtain ⟨a, vs, rfl, ha, hv⟩ := den_seqL den (show seqL (.lst ds) = some ds from rfl)
    have hl := denAll_len hv
    have hm : ∀ H, LSub G1 H → SqL X.K H a vs := fun H s => .of (s.lst ha)
    have hz := z1 a vs rfl (hm H1 vl.sub)
    refine ⟨a, rfl, ⟨vs, hm H1 vl.sub⟩, ?_⟩
    exact k _ H1 G1 n1 _ hn st vl ⟨ds, hP, rfl⟩ (isWalk_of (walk_list (K := X.K) (a := a) (xs := vs)) (by rw [List.length_map]; exact hl) hm (by rw [List.map_id]; exact hv)) (by rw [List.length_map, ← hl]; exact hz)⟩
end
section
variable {X : Cx} {B : Bs} {Γ : List Ent} {c : Nat} {e : Expr} {p pos : Pos} {α : Type} [DecidableEq α] [DatumOrd α]
/-- sorted(xs), xs a list known by a property -/
theorem py_srtR {P : List α → Prop} (hu : Hu X) (hm : X.mg "sorted" = none) (h : Ev X B Γ c e (Rt P)) (hd : Datum.depth α < 58 := by decide) (hg : Gl X "sorted" := by rfl) (h1 : starEach [e] X.env = (false, eval e X.env) :: starEach [] X.env := by rfl) (h2 : (backTo pos (starEach [] X.env)).any (·.1) = false := by rfl) :
    Ev X B Γ (c + 0) (.Call (.Name "sorted" p) [e] [] pos) (fun r => ∃ z : List α, (∃ xs, P xs ∧ z = srt xs) ∧ r = .ow (dt z)) := ev_callBN (cr_sortO (α := α) (by have : X.A.units + 64 < cLine := hu; omega)) hm (av_consN h av_nil h1) (fun ds ⟨d, r, e1, ⟨xs, hx, e2⟩, e3⟩ => by
    subst e1; subst e2; subst e3
    intro n G H vs Q vl hd k
    exact ok_sortO n G H vs Q vl hd fun v H' G' r' st v2 hS hr => k v H' G' r' st v2 ⟨_, ⟨xs, hx, rfl⟩, hS⟩ hr) hg (by decide +kernel) (by decide) (by decide) h1 h2
end
theorem Cls.nil {names : List Str} : Cls names ⟨[]⟩ := ⟨List.Pairwise.nil, Pt.nil⟩
theorem Cls.cut {names : List Str} {c : Tup Str} (h : Cls names c) (l u : Option Int) : Cls names (PySl.sl c l u) := ⟨List.Pairwise.sublist (sub_cut c.items l u) h.rise, h.pt.sub (sub_cut c.items l u)⟩
/-- some literals turned -/
theorem Pt.turn {names ls : List Str} {f : Str → Str} (h : Pt names ls) (hf : ∀ l ∈ ls, f l = l ∨ f l = turnS l) : Pt names (ls.map f) := by
  have hb : (ls.map f).map bareS = ls.map bareS := by
    rw [List.map_map]
    apply List.map_congr_left
    intro l hl
    show bareS (f l) = bareS l
    rcases hf l hl with q | q
    · rw [q]
    · rw [q, (h.lit l hl).bare_turn]
  refine ⟨fun x hx => ?_, fun x hx => ?_, by rw [hb]; exact h.unl⟩
  · obtain ⟨l, hl, rfl⟩ := List.mem_map.mp hx
    rcases hf l hl with q | q
    · rw [q]; exact h.lit l hl
    · rw [q]; exact (h.lit l hl).turn
  · have : bareS x ∈ (ls.map f).map bareS := List.mem_map.mpr ⟨x, hx, rfl⟩
    rw [hb] at this
    obtain ⟨l, hl, e⟩ := List.mem_map.mp this
    exact e ▸ h.own l hl
theorem turned_cls {names : List Str} {c : Tup Str} (h : Cls names c) : Cls names ⟨sset ((PyIt.its c).map turnS)⟩ := (h.pt.turn fun _ _ => .inr rfl).clause
theorem cut_one {α : Type} (xs : List α) : cut xs none (some 1) = xs.take 1 := by
  unfold cut
  rw [HT.sIx_none, List.drop_zero, Nat.sub_zero, show (some (1 : Int)) = some ((1 : Nat) : Int) from rfl, HT.sIx_nat]
  rcases Nat.le_total 1 xs.length with q | q
  · rw [Nat.min_eq_left q]
  · rw [Nat.min_eq_right q, List.take_of_length_le (Nat.le_refl _), List.take_of_length_le q]
theorem cut_rest {α : Type} (xs : List α) : cut xs (some 1) none = xs.drop 1 := by
  unfold cut
  rw [HT.sIx_none, show (some (1 : Int)) = some ((1 : Nat) : Int) from rfl, HT.sIx_nat]
  rcases Nat.le_total 1 xs.length with q | q
  · rw [Nat.min_eq_left q]
    exact List.take_of_length_le (by rw [List.length_drop]; exact Nat.le_refl _)
  · rw [Nat.min_eq_right q, Nat.sub_self, List.take_zero, List.drop_of_length_le q]
theorem bent_pt {names : List Str} {c : Tup Str} (h : Cls names c) : Pt names ((cut c.items none (some 1)).map turnS ++ cut c.items (some 1) none) := by
  rw [cut_one, cut_rest]
  have hp := h.pt
  generalize c.items = ls at hp
  match ls, hp with
  | [], _ => exact Pt.nil
  | l :: r, hp =>
    show Pt names (turnS l :: r)
    have ht := (hp.lit l List.mem_cons_self)
    refine ⟨fun x hx => ?_, fun x hx => ?_, ?_⟩
    · rcases List.mem_cons.mp hx with q | q
      · rw [q]; exact ht.turn
      · exact hp.lit x (List.mem_cons_of_mem _ q)
    · rcases List.mem_cons.mp hx with q | q
      · rw [q, ht.bare_turn]; exact hp.own l List.mem_cons_self
      · exact hp.own x (List.mem_cons_of_mem _ q)
    · have := hp.unl
      rw [List.map_cons] at this ⊢
      rw [ht.bare_turn]; exact this
theorem bent_cls {names : List Str} {c : Tup Str} (h : Cls names c) : Cls names ⟨sset (PyAdd.add ((PyIt.its (PySl.sl c none (some 1))).map turnS) (PyListOf.its (PySl.sl c (some 1) none)))⟩ := (bent_pt h).clause
theorem tg_nameD {K : PySem.W.Frag} {Γ : List Ent} {i : Nat} {vs : List Nat} {d : D} (hi : i ∈ vs) : TgOk K (gName i) vs Γ (id d) (Γ.set i (.sh d)) := fun H0 G σ H x Q k sb den q => q _ (k.put den) (wipe_set hi)
end DL
end

section
set_option Elab.async false
set_option linter.all false
set_option maxRecDepth 100000
set_option maxHeartbeats 4000000
set_option autoImplicit false
/-! DmO: the end of a law. -/
namespace DL
open PySem PySem.Spec PyProof.Rows L2 PySem.W PySem.SeqAt
variable [Wd]
theorem law_fn {P : Program} {w : World} {K : PySem.W.Frag} {mg : Str → Option Value} {x y : Str} {st : Stmt} {k c : Nat} {C : Ct} (D : Df K mg x st [y]) (hps : (defArgs st).args.map (·.arg) = [y])
    (hb : ∀ (kV doc pm : Value) (an : Option Addr) (cdv ct : Value) (us : List Value), us.length = 1 → bindArgs (PySem.W.fnOf x x (defArgs st) (defBody st) (defScope st) .none kV doc pm an cdv ct) ⟨us, []⟩ = pure ([y].zip us))
    (F : ∀ base, Fn P w K mg base k x c C) {fa : Addr} (hmg : mg x = some (.ref fa)) :
    ∃ fd : FuncData, (∀ (s : Shared) (u : Value), BindsTo s fd ⟨[u], []⟩ [(y, u)]) ∧ ∀ base : Heap, K.In base → base.Ns mainGlobals mg → FnOk P w K mg base CX0 k fa fd [y] (spD K c C) := by
  obtain ⟨f, fd, hf, hm, _⟩ := D.ex
  rw [hmg] at hm
  cases hm
  obtain ⟨oc, od, kV, doc, pm, an, cdv, ct, osl, rfl, lk, _⟩ := hf.ex
  refine ⟨_, fun s u => .of_eq (hb kV doc pm an cdv ct [u] rfl), fun base _ _ => ?_⟩
  obtain ⟨f2, fd2, hm2, _, _, ok, oc2, od2, osl2, lk2⟩ := (F base).ex
  rw [hmg] at hm2
  cases hm2
  rw [lk] at lk2
  cases lk2
  have e : prm (PySem.W.fnOf x x (defArgs st) (defBody st) (defScope st) .none kV doc pm an cdv ct) = [y] := hps
  rw [e] at ok
  exact ok
theorem law_sp {K : PySem.W.Frag} {c : Nat} {C : Ct} {H : Hp} {a : Addr} {ns : List Int} (hc : c ≤ LIM) (hO : Only H) (hS : SqL K H a (ns.map V.int)) (hC : C [.scr ns] (Sd (dt true))) : spD K c C [.ref a] H (fun v _ => v = .bl true) fun _ _ _ => False := by
  refine ⟨0, H, [.scr ns], Sd (dt true), ⟨fun b o e => ⟨o, e, .refl o⟩, fun b m e => ?_, fun b t e => ?_⟩, by rw [Nat.zero_add]; exact hc, .cons (.scr hS) .nil, hC, fun v H' G' n' r _ _ _ hS hr => ?_⟩
  · rcases hO b with q | ⟨o, xs, q⟩
    · rw [q] at e; cases e
    · rw [q] at e; cases e
  · rcases hO b with q | ⟨o, xs, q⟩
    · rw [q] at e; cases e
    · rw [q] at e; cases e
  · cases hS
    cases hr with | sh den => exact dp_bool den.dp
theorem lim_of {c k : Nat} (h : c ≤ 2 ^ k) (hk : k ≤ 1000000) : c ≤ LIM := by
  rw [LIM_eq]
  exact Nat.le_trans h (Nat.pow_le_pow_right (by decide) hk)
end DL
end

section
set_option Elab.async false
set_option linter.all false
set_option maxRecDepth 100000
set_option maxHeartbeats 4000000
set_option autoImplicit false
/-! DnA: tables of answers: {}, in, read, store. -/
namespace DL
open PySem PySem.Spec PyProof.Rows L2 PySem.W PySem.SeqAt
variable [Wd]
/-! ### keys -/
/-- data that may be in a key -/
class NK (α : Type) [DecidableEq α] [Datum α] where
  key : α → NestedKey
  data : ∀ x, (key x).data = Datum.toD x
  dp : Nat
  dep : ∀ x, (key x).depth ≤ dp
theorem nk_datas {α : Type} [DecidableEq α] [Datum α] [NK α] : ∀ xs : List α, NestedKey.datas (xs.map NK.key) = xs.map Datum.toD
  | [] => rfl
  | x :: xs => by rw [List.map_cons, List.map_cons, NestedKey.datas, NK.data, nk_datas xs]
theorem nk_depAll {α : Type} [DecidableEq α] [Datum α] [NK α] : ∀ xs : List α, NestedKey.depthAll (xs.map NK.key) ≤ NK.dp α
  | [] => Nat.zero_le _
  | x :: xs => by
    rw [List.map_cons, NestedKey.depthAll]
    exact Nat.max_le.mpr ⟨NK.dep x, nk_depAll xs⟩
instance : NK Int := ⟨.num, fun _ => rfl, 0, fun _ => Nat.le_refl _⟩
instance : NK Str := ⟨.text, fun _ => rfl, 0, fun _ => Nat.le_refl _⟩
instance {α : Type} [DecidableEq α] [Datum α] [NK α] : NK (Tup α) := ⟨fun t => .tup (t.items.map NK.key), fun t => by
  show PyData.tuple (NestedKey.datas (t.items.map NK.key)) = PyData.tuple (t.items.map Datum.toD)
  rw [nk_datas], NK.dp α + 1, fun t => Nat.succ_le_succ (nk_depAll t.items)⟩
instance {α β : Type} [DecidableEq α] [Datum α] [NK α] [DecidableEq β] [Datum β] [NK β] : NK (α × β) := ⟨fun t => .tup [NK.key t.1, NK.key t.2], fun t => by
  show PyData.tuple [(NK.key t.1).data, (NK.key t.2).data] = PyData.tuple [Datum.toD t.1, Datum.toD t.2]
  rw [NK.data, NK.data], max (NK.dp α) (NK.dp β) + 1, fun t => Nat.succ_le_succ (by
  have h1 := NK.dep t.1
  have h2 := NK.dep t.2
  simp only [NestedKey.depthAll]
  omega)⟩
mutual
theorem data_inj : ∀ a b : NestedKey, a.data = b.data → a = b
  | .none, b, h => by cases b <;> first | rfl | (exact absurd h (by simp [NestedKey.data]))
  | .num i, b, h => by cases b <;> first | (simp [NestedKey.data] at h; rw [h]) | (exact absurd h (by simp [NestedKey.data]))
  | .text i, b, h => by cases b <;> first | (simp [NestedKey.data] at h; rw [h]) | (exact absurd h (by simp [NestedKey.data]))
  | .tup xs, b, h => by
    cases b with
    | tup ys => simp only [NestedKey.data, PyData.tuple.injEq] at h; rw [datas_inj xs ys h]
    | none => exact absurd h (by simp [NestedKey.data])
    | num i => exact absurd h (by simp [NestedKey.data])
    | text i => exact absurd h (by simp [NestedKey.data])
theorem datas_inj : ∀ a b : List NestedKey, NestedKey.datas a = NestedKey.datas b → a = b
  | [], [], _ => rfl
  | [], _ :: _, h => by simp [NestedKey.datas] at h
  | _ :: _, [], h => by simp [NestedKey.datas] at h
  | a :: as, b :: bs, h => by
    simp only [NestedKey.datas, List.cons.injEq] at h
    rw [data_inj a b h.1, datas_inj as bs h.2]
end
section
variable {X : Cx} {pins : List (Addr × Obj)} {σ : L2.St} {H : Hp} {s : Shared} {a : Addr}
mutual
theorem nk_is (I : Inv X pins σ H s) : ∀ (k : NestedKey) (v : V) (u : Value), Dq X.K H v k.data → RelV v u → NestedIs s.heap k u
  | .none, v, u, h, r => by
    have h' : Dq X.K H v .none := h
    cases h'; cases r; exact .none
  | .num i, v, u, h, r => by
    have h' : Dq X.K H v (.int i) := h
    cases h'; obtain ⟨t, rfl⟩ := r; exact .int i t
  | .text i, v, u, h, r => by
    have h' : Dq X.K H v (.str i) := h
    cases h'; obtain ⟨t, rfl⟩ := r; exact .text i t
  | .tup ks, v, u, h, r => by
    have h' : Dq X.K H v (.tuple (NestedKey.datas ks)) := h
    cases h' with
    | tup hs ha =>
      cases r
      obtain ⟨its, rv, ⟨o, e, hc, n, hd⟩, _⟩ := I.tuple hs
      exact .tup e hc hd (by simpa using nk_all I ks _ _ ha rv)
theorem nk_all (I : Inv X pins σ H s) : ∀ (ks : List NestedKey) (vs : List V) (us : List Value), DqAll X.K H vs (NestedKey.datas ks) → Vals vs us → NestedAll s.heap ks us
  | [], vs, us, h, r => by
    have h' : DqAll X.K H vs [] := h
    cases h'; cases r; exact .nil
  | k :: ks, vs, us, h, r => by
    have h' : DqAll X.K H vs (k.data :: NestedKey.datas ks) := h
    cases h' with
    | cons h1 h2 => cases r with | cons r1 r2 => exact .cons (nk_is I k _ _ h1 r1) (nk_all I ks _ _ h2 r2)
end
/-! ### the table, opened -/
def getM (kvs : Mem) (k : NestedKey) : Option V := (kvs.find? fun x => decide (x.1 = k)).map (·.2.2)
def putM (kvs : Mem) (k : NestedKey) (a : Addr) (v : V) : Mem := if (getM kvs k).isSome then kvs.map (fun x => if x.1 = k then (x.1, x.2.1, v) else x) else kvs ++ [(k, a, v)]
abbrev RelM (p : NestedKey × Addr × V) (q : NestedKey × Addr × Value) : Prop := p.1 = q.1 ∧ p.2.1 = q.2.1 ∧ RelV p.2.2 q.2.2
theorem relM_keys : ∀ {kvs : Mem} {vs : List (NestedKey × Addr × Value)}, Paired RelM kvs vs → kvs.map (·.1) = vs.map (·.1)
  | _, _, .nil => rfl
  | _, _, .cons r t => by rw [List.map_cons, List.map_cons, r.1, relM_keys t]
theorem relM_get {k : NestedKey} : ∀ {kvs : Mem} {vs : List (NestedKey × Addr × Value)}, Paired RelM kvs vs → RelO (getM kvs k) ((atKey vs k).map (·.2))
  | _, _, .nil => trivial
  | p :: kvs, q :: vs, .cons r t => by
    unfold getM atKey
    rw [List.find?_cons, List.find?_cons, ← r.1]
    by_cases h : p.1 = k
    · rw [decide_eq_true h]; exact r.2.2
    · rw [decide_eq_false h]; exact relM_get t
theorem getM_mem {k : NestedKey} {v : V} : ∀ {kvs : Mem}, getM kvs k = some v → ∃ b, (k, b, v) ∈ kvs
  | [], h => by cases h
  | p :: kvs, h => by
    unfold getM at h
    rw [List.find?_cons] at h
    by_cases e : p.1 = k
    · rw [decide_eq_true e] at h
      obtain ⟨p1, p2, p3⟩ := p
      cases h; cases e
      exact ⟨p2, List.mem_cons_self⟩
    · rw [decide_eq_false e] at h
      obtain ⟨b, hb⟩ := getM_mem (kvs := kvs) h
      exact ⟨b, List.mem_cons_of_mem _ hb⟩
theorem getM_none {k : NestedKey} : ∀ {kvs : Mem}, getM kvs k = none → k ∉ kvs.map (·.1)
  | [], h => by simp
  | p :: kvs, h => by
    unfold getM at h
    rw [List.find?_cons] at h
    by_cases e : p.1 = k
    · rw [decide_eq_true e] at h; cases h
    · rw [decide_eq_false e] at h
      rw [List.map_cons, List.mem_cons]
      rintro (z | z)
      · exact e z.symm
      · exact getM_none (kvs := kvs) h z
theorem relM_put {k : NestedKey} {a : Addr} {v : V} {u : Value} (r : RelV v u) {kvs : Mem} {vs : List (NestedKey × Addr × Value)} (h : Paired RelM kvs vs) : Paired RelM (putM kvs k a v) (storedH vs k a u) := by
  have e : (getM kvs k).isSome = (atKey vs k).isSome := by
    have z := relM_get (k := k) h
    cases q1 : getM kvs k <;> cases q2 : atKey vs k <;> rw [q1, q2] at z
    · rfl
    · exact z.elim
    · exact z.elim
    · rfl
  unfold putM storedH
  rw [e]
  cases (atKey vs k).isSome with
  | true =>
    rw [if_pos rfl, if_pos rfl]
    clear e
    induction h with
    | nil => exact .nil
    | cons r1 t ih =>
      rw [List.map_cons, List.map_cons]
      refine .cons ?_ ih
      unfold putAt
      rename_i p q _ _
      by_cases z : p.1 = k
      · rw [if_pos z, if_pos (r1.1 ▸ z)]; exact ⟨r1.1, r1.2.1, r⟩
      · rw [if_neg z, if_neg (r1.1 ▸ z)]; exact r1
  | false =>
    rw [if_neg (by decide), if_neg (by decide)]
    clear e
    induction h with
    | nil => exact .cons ⟨rfl, rfl, r⟩ .nil
    | cons r1 t ih => exact .cons r1 ih
theorem putM_keys {kvs : Mem} {k : NestedKey} {a : Addr} {v : V} (h : (kvs.map (·.1)).Nodup) : ((putM kvs k a v).map (·.1)).Nodup ∧ k ∈ (putM kvs k a v).map (·.1) ∧ ∀ x ∈ (putM kvs k a v), (x ∈ kvs ∧ x.1 ≠ k) ∨ (x.1 = k ∧ x.2.2 = v ∧ (x.2.1 = a ∨ ∃ w, (k, x.2.1, w) ∈ kvs)) := by
  unfold putM
  cases q : getM kvs k with
  | some w =>
    rw [if_pos (show (some w).isSome = true from rfl)]
    have e : (kvs.map fun x => if x.1 = k then (x.1, x.2.1, v) else x).map (·.1) = kvs.map (·.1) := by
      rw [List.map_map]
      exact List.map_congr_left fun x _ => by show (if x.1 = k then (x.1, x.2.1, v) else x).1 = x.1; split <;> rfl
    obtain ⟨b, hb⟩ := getM_mem q
    refine ⟨by rw [e]; exact h, by rw [e]; exact List.mem_map.mpr ⟨_, hb, rfl⟩, fun x hx => ?_⟩
    obtain ⟨y, hy, rfl⟩ := List.mem_map.mp hx
    by_cases z : y.1 = k
    · rw [if_pos z]
      exact .inr ⟨z, rfl, .inr ⟨y.2.2, by rw [← z]; exact hy⟩⟩
    · rw [if_neg z]; exact .inl ⟨hy, z⟩
  | none =>
    have nk := getM_none q
    rw [if_neg (by decide)]
    refine ⟨?_, by simp, fun x hx => ?_⟩
    · rw [List.map_append, List.nodup_append]
      refine ⟨h, by simp, fun a ha b hb z => ?_⟩
      simp at hb
      subst hb; subst z; exact nk ha
    · rcases List.mem_append.mp hx with hx | hx
      · exact .inl ⟨hx, fun z => nk (by rw [← z]; exact List.mem_map.mpr ⟨x, hx, rfl⟩)⟩
      · simp at hx; subst hx; exact .inr ⟨rfl, rfl, .inl rfl⟩
/-- every key of a table is one -/
def KeysOk (K : PySem.W.Frag) (H : Hp) (kvs : Mem) : Prop := ∀ e ∈ kvs, Dq K H (.ref e.2.1) e.1.data ∧ e.1.depth ≤ 8
theorem mem_open (I : Inv X pins σ H s) (hw : X.w = Wd.w) {kvs : Mem} (h : H a = some (memO a kvs)) (hk : KeysOk X.K H kvs) : ∃ vs, Paired RelM kvs vs ∧ s.heap.DictOfH (nestedKind X.prog X.w) a vs ∧ (a == sysModules) = false := by
  obtain ⟨_, hs, nd, vs, o, es, ep, pr, ho, hx, hd, he⟩ := (I.hok a _ h).1
  refine ⟨vs, pr, ⟨o, es, ep, ho, hx, hd, ?_, fun x hx => ?_, by rw [← relM_keys pr]; exact nd⟩, hs⟩
  · rw [he]
    exact List.map_congr_left fun x _ => by show _ = entryOfKey (nestedKind X.prog X.w) x; unfold entryOfKey nestedKind; rw [hw]
  · have : ∀ {kvs : Mem} {vs : List (NestedKey × Addr × Value)}, Paired RelM kvs vs → x ∈ vs → ∃ e ∈ kvs, RelM e x := fun {kvs vs} p => by
      induction p with
      | nil => intro z; cases z
      | cons r t ih =>
        intro z
        rcases List.mem_cons.mp z with e | z
        · subst e; exact ⟨_, List.mem_cons_self, r⟩
        · obtain ⟨e, h1, h2⟩ := ih z
          exact ⟨e, List.mem_cons_of_mem _ h1, h2⟩
    obtain ⟨e, h1, h2, h3, _⟩ := this pr hx
    obtain ⟨h4, h5⟩ := hk e h1
    rw [h2] at h4 h5
    rw [h3] at h4
    exact ⟨nk_is I _ _ _ h4 rfl, h5⟩
theorem mem_room (hu : Hu X) : (nestedKind X.prog X.w).room X.A.in1 := by
  show X.A.in1.units + 8 < cLine
  rw [Around.in1_units]
  have : X.A.units + 64 < cLine := hu
  omega
/-- key in table, key not in table -/
def rMemIn (K : PySem.W.Frag) (neg : Bool) : R2 := fun x y H Q => ∃ (a b : Addr) (kvs : Mem) (k : NestedKey), x = .ref b ∧ y = .ref a ∧ H a = some (memO a kvs) ∧ KeysOk K H kvs ∧ Dq K H (.ref b) k.data ∧ k.depth ≤ 8 ∧
  Q (.bl (if neg then !(getM kvs k).isSome else (getM kvs k).isSome)) H
theorem relO_some {o : Option V} {p : Option Value} (h : RelO o p) : o.isSome = p.isSome := by
  cases o <;> cases p <;> first | rfl | exact h.elim
theorem or_memIn (hw : X.w = Wd.w) (hu : Hu X) : OpR X (compareOp .In) (rMemIn X.K false) := by
  intro pins s σ H x y v u Q I rx ry h
  obtain ⟨a, b, kvs, k, rfl, rfl, ha, hk, hd, h8, q⟩ := h
  cases rx; cases ry
  obtain ⟨vs, pr, hm, hs⟩ := mem_open I hw ha hk
  refine wpAny_in_heap (knd := nestedKind X.prog X.w) (mem_room hu) ⟨nk_is I _ _ _ hd rfl, h8⟩ hs hm ⟨.bl _, H, I.tok _, rfl, ?_⟩
  have e := relO_some (relM_get (k := k) pr)
  rw [Option.isSome_map] at e
  rw [← e]; exact q
theorem or_memNin (hw : X.w = Wd.w) (hu : Hu X) : OpR X (compareOp .NotIn) (rMemIn X.K true) := by
  intro pins s σ H x y v u Q I rx ry h
  obtain ⟨a, b, kvs, k, rfl, rfl, ha, hk, hd, h8, q⟩ := h
  cases rx; cases ry
  obtain ⟨vs, pr, hm, hs⟩ := mem_open I hw ha hk
  refine notIn_keyed (knd := nestedKind X.prog X.w) (k := k) (mem_room hu) ⟨nk_is I _ _ _ hd rfl, h8⟩ hs ⟨vs, hm, rfl⟩ ⟨.bl _, H, I.tok _, rfl, ?_⟩
  have e := relO_some (relM_get (k := k) pr)
  rw [valueAt_pairsH, ← e]; exact q
/-- table[key], the key there -/
def rMemGet (K : PySem.W.Frag) : R2 := fun x y H Q => ∃ (a b : Addr) (kvs : Mem) (k : NestedKey) (v : V), x = .ref a ∧ y = .ref b ∧ H a = some (memO a kvs) ∧ KeysOk K H kvs ∧ Dq K H (.ref b) k.data ∧ k.depth ≤ 8 ∧ getM kvs k = some v ∧ Q v H
theorem ix_mem (hw : X.w = Wd.w) (hu : Hu X) : IxR X (rMemGet X.K) := by
  intro value slice pins s σ H x y v u Q I rx ry h hs
  obtain ⟨a, b, kvs, k, z, rfl, rfl, ha, hk, hd, h8, hg, q⟩ := h
  cases rx; cases ry
  obtain ⟨vs, pr, hm, _⟩ := mem_open I hw ha hk
  have e := relM_get (k := k) pr
  rw [hg] at e
  cases q2 : atKey vs k with
  | none => rw [q2] at e; exact e.elim
  | some p =>
    rw [q2] at e
    exact subscriptTail_builtinR (x := p.2) hm.typeIs PySem.F.slot_dict_getitem.lookup (wpAny_getItem_heap (knd := nestedKind X.prog X.w) (Q := fun r s' => r = p.2 ∧ EP X pins σ Q r s') (mem_room hu) ⟨nk_is I _ _ _ hd rfl, h8⟩ hm q2 ⟨rfl, z, H, I.tok _, e, q⟩) hs
/-- table[key] = value -/
def tMemPut (K : PySem.W.Frag) : TSet := fun o i v H Q => ∃ (a b : Addr) (kvs : Mem) (k : NestedKey), o = .ref a ∧ i = .ref b ∧ H a = some (memO a kvs) ∧ KeysOk K H kvs ∧ Dq K H (.ref b) k.data ∧ k.depth ≤ 8 ∧ (putM kvs k b v).length ≤ sizeLine ∧ Q (upd H a (memO a (putM kvs k b v)))
theorem set_mem (hw : X.w = Wd.w) (hu : Hu X) : PSet X (tMemPut X.K) := by
  intro pins s σ H o i v ov iv u Q I ro ri rv h
  obtain ⟨a, b, kvs, k, rfl, rfl, ha, hk, hd, h8, hz, q⟩ := h
  cases ro; cases ri
  obtain ⟨vs, pr, hm, hs⟩ := mem_open I hw ha hk
  obtain ⟨hl, _, nd, _⟩ := (I.hok a _ ha).1
  refine wpAny_setItem_heap (knd := nestedKind X.prog X.w) (mem_room hu) ⟨nk_is I _ _ _ hd rfl, h8⟩ hm (fun h' hm' sb => ⟨_, ?_, q⟩) (by rw [← pr.length]; exact hl)
  obtain ⟨o', es, ep, ho, hx, hd', he, _, _⟩ := hm'
  have P : MemAt a (putM kvs k b v) h' := ⟨hz, hs, (putM_keys nd).1, _, o', es, ep, relM_put rv pr, ho, hx, hd', by
    rw [he]
    exact List.map_congr_left fun x _ => by unfold entryOfKey nestedKind; rw [hw]⟩
  refine I.write (x := a) (e := a) (h' := h') (by rw [ha]; trivial) (.inl rfl) (fun b u hb hu => by rw [sb.2 b hb]; exact hu) ⟨o', ho⟩ ⟨P, ⟨o', ho⟩, fun h1 h2 p kk => ?_⟩
  obtain ⟨p1, p2, p3, vs', o1, es1, ep1, p4, p5, p6⟩ := p
  exact ⟨p1, p2, p3, vs', o1, es1, ep1, p4, kk _ p5, p6⟩
/-- {}, a table -/
theorem pe_dnewM {pos : Pos} : PE X (.Dict [] [] pos) (fun _ H Q => ∀ p, H p = none → Q (.ref p) (upd H p (memO p []))) := ⟨fun pins s σ H Q I h =>
  wpAny_Dict_empty ⟨.ref s.heap.objs.size, _, I.laid (a := s.heap.objs.size) (o := memO s.heap.objs.size []) (t' := s.toks) (fun _ _ q => Heap.get?_push_of_some _ q) (Nat.le_refl _)
    (by
      have P : MemAt s.heap.objs.size [] (s.heap.push { cls := .type "dict", data := .dict #[] }) := ⟨Nat.zero_le _, beq_eq_false_iff_ne.mpr (Ne.symm (Nat.ne_of_lt I.big)), List.nodup_nil, [], _, #[], 0, .nil, Heap.get?_push_size _ rfl, ⟨rfl, rfl, rfl⟩, rfl, rfl⟩
      exact ⟨P, ⟨_, Heap.get?_push_size _ rfl⟩, fun h1 h2 p kk => by
        obtain ⟨p1, p2, p3, vs', o1, es1, ep1, p4, p5, p6⟩ := p
        exact ⟨p1, p2, p3, vs', o1, es1, ep1, p4, kk _ p5, p6⟩⟩), rfl, h _ (I.hok.fresh (Nat.le_refl _))⟩⟩
end
end DL
end

section
set_option Elab.async false
set_option linter.all false
set_option maxRecDepth 100000
set_option maxHeartbeats 4000000
set_option autoImplicit false
/-! DnB: tables of answers as shared data. -/
namespace DL
open PySem PySem.Spec PyProof.Rows L2 PySem.W PySem.SeqAt
variable [Wd]
theorem wp_execs_app {M : Model} {Γ : PySem.Ctx} {env : Env} {l2 : List Stmt} {Q : Flow → Pos → Shared → Prop} {E : Value → Pos → Shared → Prop} : ∀ (l1 : List Stmt) (p : Pos) (s : Shared),
    PySem.Sem.wp M Γ (execs l1 env) (fun f p' s' => match f with | .next => PySem.Sem.wp M Γ (execs l2 env) Q E p' s' | f => Q f p' s') E p s → PySem.Sem.wp M Γ (execs (l1 ++ l2) env) Q E p s
  | [], p, s, h => h
  | st :: rest, p, s, h => by
    rw [List.cons_append, execs_cons, PySem.Sem.wp_bind']
    rw [execs_cons, PySem.Sem.wp_bind'] at h
    refine PySem.Sem.wp_mono M Γ _ (fun f p' s' h' => ?_) (fun _ _ _ h' => h') _ _ h
    cases f with
    | next => exact wp_execs_app rest p' s' h'
    | ret v => exact h'
    | brk => exact h'
    | cont => exact h'
theorem pss_app {X : Cx} {l1 l2 : List Stmt} {t u : TS} (h1 : PSs X l1 t) (h2 : PSs X l2 u) : PSs X (l1 ++ l2) (fun D σ H => t { D with nx := u D } σ H) := by
  refine ⟨fun pins s σ H D I h => ?_⟩
  have k := h1.run pins s σ H { D with nx := u D } I h
  intro Γ p hΓ
  refine wp_execs_app l1 p s (PySem.Sem.wp_mono _ Γ _ (fun f p' s' h' => ?_) (fun _ _ _ h' => h') _ _ (k Γ p hΓ))
  cases f with
  | next =>
    obtain ⟨σ', H', I', q⟩ := h'
    exact h2.run pins s' σ' H' D I' q Γ p' hΓ
  | ret v => exact h'
  | brk => exact h'
  | cont => exact h'
section
variable {K : PySem.W.Frag} {n : Nat} {G H : Hp} {a : Addr} {t : List (Str × V)}
/-- where a table stands -/
theorem den_memo {v : V} (vl : Val n G H) (h : Den K G v (.memo t)) : ∃ a kvs, v = .ref a ∧ G a = some (.xd t) ∧ H a = some (memO a kvs) ∧ GoodAt H t kvs := by
  cases h with
  | memo h =>
    obtain ⟨k, h1, h2⟩ := vl.mm _ _ h
    exact ⟨_, k, rfl, h, h1, h2⟩
/-- tuples count as shared -/
def unTp (G H : Hp) : Hp := fun a => match G a with | some o => some o | none => Tp H a
theorem unTp_ste (vl : Val n G H) : Ste G H (unTp G H) H ∧ Val n (unTp G H) H ∧ Sub (Tp H) (unTp G H) := by
  have sg : Sub G (unTp G H) := fun b o e => ⟨o, by unfold unTp; rw [e], .refl o⟩
  have st : Sub (Tp H) (unTp G H) := fun b o e => by
    cases q : G b with
    | none => exact ⟨o, by unfold unTp; rw [q]; exact e, .refl o⟩
    | some u =>
      obtain ⟨o', e1, l⟩ := vl.sub b u q
      obtain ⟨e2, e3⟩ := Tp_get e
      rw [e1] at e2; cases e2
      have : u = o := by
        rcases e3 with ⟨xs, rfl⟩ | ⟨q, xs, rfl⟩
        · generalize z : HO.tup xs = w at l
          cases l <;> first | rfl | (cases z)
        · generalize z : HO.frz q (.tup xs) = w at l
          cases l <;> first | rfl | (cases z)
      exact ⟨o, by unfold unTp; rw [q, this], .refl _⟩
  refine ⟨⟨sg, .refl H, fun b o h1 h2 h3 => ?_⟩, ⟨fun b o e => ?_, vl.pb, fun b t e => ?_⟩, st⟩
  · unfold unTp
    rw [h1]
    show Tp H b = none
    cases q : Tp H b with
    | none => rfl
    | some u =>
      obtain ⟨e2, e3⟩ := Tp_get q
      rw [h2] at e2; cases e2
      rcases e3 with ⟨xs, rfl⟩ | ⟨q, xs, rfl⟩
      · exact absurd trivial h3
      · exact absurd trivial h3
  · unfold unTp at e
    cases q : G b with
    | some u => rw [q] at e; cases e; exact vl.sub b _ q
    | none => rw [q] at e; exact ⟨o, (Tp_get e).1, .refl o⟩
  · unfold unTp at e
    cases q : G b with
    | some u => rw [q] at e; cases e; exact vl.mm b _ q
    | none =>
      rw [q] at e
      obtain ⟨_, e3⟩ := Tp_get e
      rcases e3 with ⟨xs, z⟩ | ⟨q, xs, z⟩ <;> cases z
/-- data of tuples and of what needs no place stands in the tuples of the heap -/
def tupled : PyData → Bool
  | .list _ => false
  | .dict _ => false
  | .tuple xs => tupledAll xs
  | _ => true
where tupledAll : List PyData → Bool
  | [] => true
  | x :: xs => tupled x && tupledAll xs
theorem sqT_tp {xs : List V} (vl : LSub G H) (h : SqT K G a xs) : SqT K (Tp H) a xs := by
  rcases h with (h | ⟨q, h⟩) | h
  · obtain ⟨o, e, l⟩ := vl a _ h
    cases l
    exact .inl (.inl (by unfold Tp; rw [e]))
  · obtain ⟨o, e, l⟩ := vl a _ h
    cases l
    exact .inl (.inr ⟨q, by unfold Tp; rw [e]⟩)
  · exact .inr h
mutual
theorem dq_tp (vl : LSub G H) : ∀ {v : V} {d : PyData}, Dq K G v d → tupled d = true → Dq K (Tp H) v d
  | _, _, .non, _ => .non
  | _, _, .bl b, _ => .bl b
  | _, _, .int i, _ => .int i
  | _, _, .str x, _ => .str x
  | _, _, .lst _ _, h => by simp [tupled] at h
  | _, _, .tup h t, z => .tup (sqT_tp vl h) (dqAll_tp vl t (by simpa [tupled] using z))
theorem dqAll_tp (vl : LSub G H) : ∀ {vs : List V} {ds : List PyData}, DqAll K G vs ds → tupled.tupledAll ds = true → DqAll K (Tp H) vs ds
  | _, _, .nil, _ => .nil
  | _, _, .cons h t, z => by
    simp only [tupled.tupledAll, Bool.and_eq_true] at z
    exact .cons (dq_tp vl h z.1) (dqAll_tp vl t z.2)
end
mutual
theorem tupled_key : ∀ k : NestedKey, tupled k.data = true
  | .none => by simp [NestedKey.data, tupled]
  | .num _ => by simp [NestedKey.data, tupled]
  | .text _ => by simp [NestedKey.data, tupled]
  | .tup ks => by simp only [NestedKey.data, tupled]; exact tupled_keys ks
theorem tupled_keys : ∀ ks : List NestedKey, tupled.tupledAll (NestedKey.datas ks) = true
  | [] => rfl
  | k :: ks => by simp only [NestedKey.datas, tupled.tupledAll, tupled_key k, tupled_keys ks, Bool.and_self]
end
theorem good_len {kvs : Mem} (h : GoodAt H t kvs) : kvs.length < sizeLine := by
  have := Wd.cap t (kvs.map (·.1)) h.1 fun k hk => by
    obtain ⟨e, he, rfl⟩ := List.mem_map.mp hk
    obtain ⟨_, p, _, g⟩ := h.2 e he
    exact ⟨p, g⟩
  rwa [List.length_map] at this
/-- an answer more in a table -/
theorem put_step {kvs : Mem} {k : NestedKey} {b : Addr} {v : V} {p : PyData} (vl : Val n G H) (g : G a = some (.xd t)) (h : H a = some (memO a kvs)) (hg : GoodAt H t kvs) (hk : Dq Wd.K (Tp H) (.ref b) k.data) (hv : Dq Wd.K (Tp H) v p) (gd : Wd.good t k p) :
    Ste G H G (upd H a (memO a (putM kvs k b v))) ∧ Val n G (upd H a (memO a (putM kvs k b v))) ∧ (putM kvs k b v).length ≤ sizeLine ∧ GoodAt (upd H a (memO a (putM kvs k b v))) t (putM kvs k b v) := by
  have tp : ∀ {o}, Sub (Tp H) (Tp (upd H a o)) := fun {o} => tp_write h (id : ¬ IsTp (memO a kvs))
  obtain ⟨k1, k2, k3⟩ := putM_keys (k := k) (a := b) (v := v) hg.1
  have good : GoodAt H t (putM kvs k b v) := ⟨k1, fun e he => by
    rcases k3 e he with ⟨h1, _⟩ | ⟨h1, h2, h3⟩
    · exact hg.2 e h1
    · rw [h1, h2]
      refine ⟨?_, p, hv, gd⟩
      rcases h3 with h3 | ⟨w, h3⟩
      · rw [h3]; exact hk
      · exact (hg.2 _ h3).1⟩
  refine ⟨⟨.refl G, fun c o e => ?_, fun c o hc _ _ => hc⟩, ⟨fun c o e => ?_, fun c m e => ?_, fun c t' e => ?_⟩, Nat.le_of_lt (good_len good), good.sub tp⟩
  · by_cases z : c = a
    · subst z; rw [h] at e; cases e; exact ⟨_, upd_same, .memo _ _⟩
    · exact ⟨o, by rw [upd_ne z]; exact e, .refl o⟩
  · by_cases z : c = a
    · subst z; rw [g] at e; cases e; exact ⟨_, upd_same, .tag _ _⟩
    · obtain ⟨o', e', l⟩ := vl.sub c o e
      exact ⟨o', by rw [upd_ne z]; exact e', l⟩
  · by_cases z : c = a
    · subst z; rw [upd_same] at e; exact absurd (Option.some.inj e).symm purse_ne_mem
    · rw [upd_ne z] at e; exact vl.pb c m e
  · by_cases z : c = a
    · subst z; rw [g] at e; cases e; exact ⟨_, upd_same, good.sub tp⟩
    · obtain ⟨k', e1, e2⟩ := vl.mm c t' e
      exact ⟨k', by rw [upd_ne z]; exact e1, e2.sub tp⟩
end
theorem getM_put {kvs : Mem} {k : NestedKey} {a : Addr} {v : V} : getM (putM kvs k a v) k = some v := by
  unfold putM
  cases q : getM kvs k with
  | some w =>
    rw [if_pos (show (some w).isSome = true from rfl)]
    induction kvs with
    | nil => cases q
    | cons p kvs ih =>
      unfold getM at q ⊢
      rw [List.map_cons, List.find?_cons]
      rw [List.find?_cons] at q
      by_cases e : p.1 = k
      · rw [if_pos e, decide_eq_true e]; rfl
      · rw [if_neg e, decide_eq_false e]
        rw [decide_eq_false e] at q
        exact ih q
  | none =>
    rw [if_neg (by decide)]
    induction kvs with
    | nil => unfold getM; simp
    | cons p kvs ih =>
      unfold getM at q ⊢
      rw [List.cons_append, List.find?_cons]
      rw [List.find?_cons] at q
      by_cases e : p.1 = k
      · rw [decide_eq_true e] at q; cases q
      · rw [decide_eq_false e]
        rw [decide_eq_false e] at q
        exact ih q
theorem good_keys {K : PySem.W.Frag} (hK : K = Wd.K) {H : Hp} {t : List (Str × V)} {kvs : Mem} (h : GoodAt H t kvs) : KeysOk K H kvs := fun e he => ⟨hK ▸ dp_sub Tp_in (h.2 e he).1, by
  obtain ⟨_, p, _, g⟩ := h.2 e he
  exact Wd.shal t _ p g⟩
section
variable {X : Cx} {B : Bs} {Γ : List Ent} {c c1 c2 : Nat} {e : Expr} {p p2 p3 q1 q2 q3 q4 q5 q6 q7 q8 q9 pos : Pos} {O : Out} {pre : List Stmt} {N : List Ent → Prop} {α β : Type} [DecidableEq α] [Datum α] [NK α] [DecidableEq β] [Datum β] {P : β → Prop} {t : List (Str × V)}
/-- {}, a table -/
theorem ev_memo0 : Ev X B Γ 0 (.Dict [] [] pos) (Sd (.memo t)) := pe_mono pe_dnewM fun σ H Q ⟨n, G, pr, k⟩ a ha => by
  have vl := pr.val
  have g0 : G a = none := vl.sub.out ha
  have sh : Sub H (upd H a (memO a [])) := fun b u e => ⟨u, by rw [upd_ne (ne_of_none e ha)]; exact e, .refl u⟩
  have sg : Sub G (upd G a (.xd t)) := fun b u e => ⟨u, by rw [upd_ne (ne_of_none e g0)]; exact e, .refl u⟩
  refine k (.ref a) _ (upd G a (.xd t)) n _ (Nat.le_refl _) ⟨sg, sh, fun b o h1 h2 _ => ?_⟩ ⟨fun b o e => ?_, fun b m e => ?_, fun b t' e => ?_⟩ rfl (.sh (.memo upd_same))
  · have : b ≠ a := fun z => by subst z; rw [ha] at h2; cases h2
    rw [upd_ne this]; exact h1
  · by_cases z : b = a
    · subst z; rw [upd_same] at e ⊢; cases e; exact ⟨_, rfl, .tag _ _⟩
    · rw [upd_ne z] at e
      obtain ⟨o', e', l⟩ := vl.sub b o e
      exact ⟨o', by rw [upd_ne z]; exact e', l⟩
  · by_cases z : b = a
    · subst z; rw [upd_same] at e; exact absurd (Option.some.inj e).symm purse_ne_mem
    · rw [upd_ne z] at e; exact vl.pb b m e
  · by_cases z : b = a
    · subst z; rw [upd_same] at e; cases e; exact ⟨[], upd_same, List.nodup_nil, fun e he => by cases he⟩
    · rw [upd_ne z] at e
      obtain ⟨k', e1, e2⟩ := vl.mm b t' e
      exact ⟨k', by rw [upd_ne z]; exact e1, e2.sub (Tp_sub sh)⟩
/-- if key not in table: .. table[key] = E; return table[key] -/
theorem sv_memo (i j : Nat) {x y : Str} {k : α} {E : Expr} (hw : X.w = Wd.w) (hK : X.K = Wd.K) (hu : Hu X) (hΓi : Γ[i]? = some (.sh (.memo t))) (hΓj : Γ[j]? = some (.sh (dt k))) (hpre : Sv X B Γ c1 pre { O with nx := N })
    (hN : ∀ Γ', N Γ' → Γ'[i]? = some (.sh (.memo t)) ∧ Γ'[j]? = some (.sh (dt k)) ∧ Ev X B Γ' c2 E (Rt P)) (hP : ∀ z, P z → tupled (Datum.toD z) = true ∧ Wd.good t (NK.key k) (Datum.toD z))
    (hret : ∀ z : PyData, Wd.good t (NK.key k) z → O.rt (.sh (.py z))) (htup : ∃ ds, Datum.toD k = .tuple ds := by exact ⟨_, rfl⟩) (hdp : NK.dp α ≤ 8 := by first | decide | exact Nat.le_of_ble_eq_true rfl)
    (hi : X.N[i]? = some x := by rfl) (hj : X.N[j]? = some y := by rfl) (hvx : Vis X.env.scope x := by first | exact Or.inl rfl | exact Or.inr (Or.inl rfl) | exact Or.inr (Or.inr rfl)) (hvy : Vis X.env.scope y := by first | exact Or.inl rfl | exact Or.inr (Or.inl rfl) | exact Or.inr (Or.inr rfl))
    (hdx : (x == ("__debug__" : Str)) = false := by decide) (hdy : (y == ("__debug__" : Str)) = false := by decide) (hcx : (x == ("__classdict__" : Str)) = false := by decide) (hcy : (y == ("__classdict__" : Str)) = false := by decide)
    (hs : swapsWithSole [.Subscript (.Name x p) (.Name y p2) p3] E pos.line X.env = pure false := by rfl) (hws : swappedStores [.Subscript (.Name x p) (.Name y p2) p3] E X.env = pure none := by rfl)
    (h1 : (assignEach [.Subscript (.Name x p) (.Name y p2) p3] X.env).map (·.2) = [assign (.Subscript (.Name x p) (.Name y p2) p3) X.env] := by rfl)
    (ha : ∀ v, assign (.Subscript (.Name x p) (.Name y p2) p3) X.env v = (do
      let ov ← holding [v] (eval (.Name x p) X.env)
      let iv ← holding [v, ov] (eval (.Name y p2) X.env)
      standAt p3
      holding [v, ov, iv] (setItem ov iv v)
      release [v, ov, iv] []) := by intro _; rfl) :
    Sv X B Γ (c1 + c2) (.If (.Compare (.Name y q1) [.NotIn] [.Name x q2] q3) (pre ++ [.Assign [.Subscript (.Name x p) (.Name y p2) p3] E pos]) [] q4 :: [.Return (some (.Subscript (.Name x q5) (.Name y q6) q7)) q8]) O := by
  have hE : PE X E (fun σ H Q => ∃ Γ', N Γ' ∧ tEv X.K B Γ' c2 (Rt P) σ H Q) := ⟨fun pins s σ H Q I ⟨Γ', h0, q⟩ => (hN Γ' h0).2.2.run pins s σ H Q I q⟩
  have pasg := ps_asg hE (pg_sub (pe_var (pos := p) hi hvx hdx hcx) (pe_var (pos := p2) hj hvy hdy hcy) (set_mem hw hu) ha) hs hws h1
  have pif := ps_if (pos := q4) (pt_cmpR (pos := q3) (or_memNin hw hu) (pe_var (pos := q1) hj hvy hdy hcy) (pe_var (pos := q2) hi hvx hdx hcx) rfl) (pss_app hpre (pss_one pasg)) pss_nil
  have pret := ps_ret (pos := q8) (pe_ix (pos := q7) (ix_mem hw hu) (pe_var (pos := q5) hi hvx hdx hcx) (pe_var (pos := q6) hj hvy hdy hcy) (fun _ _ => rfl))
  have h8 : (NK.key k).depth ≤ 8 := Nat.le_trans (NK.dep k) hdp
  have keyAt : ∀ {G : Hp} {v : V}, Dq X.K G v (Datum.toD k) → ∃ b, v = .ref b := fun {G v} h => by
    obtain ⟨ds, e⟩ := htup
    rw [e] at h
    cases h; exact ⟨_, rfl⟩
  refine pss_mono (pss_cons pif (pss_one pret)) fun D σ H ⟨n, G, pr, k1, k2, k3, k4⟩ => ?_
  have l0 := pr.lim
  -- what is told back
  have back : ∀ (σ' : L2.St) (H' G' : Hp) (n' : Nat) (a b : Addr) (kvs : Mem) (v : V) (z : PyData), n' ≤ n + (c1 + c2) → Ste B.G B.H G' H' → Val n' G' H' → σ'[i]? = some (some (.ref a)) → σ'[j]? = some (some (.ref b)) → H' a = some (memO a kvs) → KeysOk X.K H' kvs → Dq X.K H' (.ref b) (NK.key k).data →
      getM kvs (NK.key k) = some v → Dq X.K (Tp H') v z → Wd.good t (NK.key k) z → tRet (tOp (rMemGet X.K) (tVar i) (tVar j)) D σ' H' := fun σ' H' G' n' a b kvs v z hn st vl e1 e2 e3 e4 e5 e6 e7 e8 => by
    obtain ⟨s2, v2, s3⟩ := unTp_ste vl
    exact ⟨_, e1, _, e2, a, b, kvs, NK.key k, v, rfl, rfl, e3, e4, e5, h8, e6, k4 v H' _ n' _ hn (st.trans s2) v2 (hret z e8) (.sh (.py (dp_sub s3 e7)))⟩
  obtain ⟨v0, e1, e2⟩ := pr.ok.sh i _ hΓi
  obtain ⟨a, kvs, rfl, g, hh, hg⟩ := den_memo pr.val e2
  obtain ⟨v1, f1, f2⟩ := pr.ok.sh j _ hΓj
  obtain ⟨b, rfl⟩ := keyAt f2.dp
  have hkd : Dq X.K G (.ref b) (NK.key k).data := by rw [NK.data]; exact f2.dp
  refine ⟨_, f1, _, e1, a, b, kvs, NK.key k, rfl, rfl, hh, good_keys hK hg, dp_sub pr.val.sub hkd, h8, ?_⟩
  cases q : getM kvs (NK.key k) with
  | some v =>
    obtain ⟨b2, hb⟩ := getM_mem q
    obtain ⟨_, z, hz, hgd⟩ := hg.2 _ hb
    refine ⟨false, rfl, ?_⟩
    refine iteF ?_
    exact back σ H G n a b kvs v z (by omega) pr.ste pr.val e1 f1 hh (good_keys hK hg) (dp_sub pr.val.sub hkd) q (hK ▸ hz) hgd
  | none =>
    refine ⟨true, rfl, ?_⟩
    refine iteT ?_
    refine ⟨n, G, ⟨pr.ok, pr.val, pr.ste, by omega⟩, ⟨fun Γ' σ' H' G' n' hΓ' hn ok vl st sg => ?_⟩, k2.less (by omega) (fun _ h => h), k3.less (by omega) (fun _ h => h), fun v H' G' n' r hn st vl hr d => k4 v H' G' n' r (by omega) st vl hr d⟩
    obtain ⟨m1, m2, _⟩ := hN Γ' hΓ'
    refine ⟨Γ', hΓ', n', G', ⟨ok, vl, st, by omega⟩, fun v H1 G1 n1 r hn1 st1 vl1 hS hr => ?_⟩
    obtain ⟨d, ⟨z, hz, rfl⟩, rfl⟩ := hS
    cases hr with | sh den =>
    have ok1 := ok.step st1
    obtain ⟨v0, e1, e2⟩ := ok1.sh i _ m1
    obtain ⟨a, kvs, rfl, g, hh, hg⟩ := den_memo vl1 e2
    obtain ⟨v1, f1, f2⟩ := ok1.sh j _ m2
    obtain ⟨b, rfl⟩ := keyAt f2.dp
    have hkd : Dq X.K G1 (.ref b) (NK.key k).data := by rw [NK.data]; exact f2.dp
    obtain ⟨t1, t2⟩ := hP z hz
    have dv := dq_tp vl1.sub den.dp t1
    have dk := dq_tp vl1.sub hkd (tupled_key _)
    obtain ⟨s3, v3, hl, hg3⟩ := put_step vl1 g hh hg (hK ▸ dk) (hK ▸ dv) t2
    refine ⟨_, e1, _, f1, a, b, kvs, NK.key k, rfl, rfl, hh, good_keys hK hg, dp_sub vl1.sub hkd, h8, hl, ?_⟩
    have tp := tp_write (o' := memO a (putM kvs (NK.key k) b v)) hh (id : ¬ IsTp (memO a kvs))
    exact back σ' _ G1 n1 a b _ v _ (by omega) (st.trans (st1.trans s3)) v3 e1 f1 upd_same (good_keys hK hg3) (dp_sub Tp_in (dp_sub tp dk)) getM_put (dp_sub tp dv) t2
end
end DL
end

section
set_option Elab.async false
set_option linter.all false
set_option maxRecDepth 100000
set_option maxHeartbeats 4000000
set_option autoImplicit false
/-! DnC: own instances: fields, methods, making. -/
namespace DL
open PySem PySem.Spec PyProof.Rows L2 PySem.W PySem.SeqAt
variable [Wd]
theorem denKey_get {K : PySem.W.Frag} {G : Hp} {f : Str} : ∀ {fs : List (Str × V)} {ds : List (Str × D)}, DenKey K G fs ds → (∀ d, ds.lookup f = some d → ∃ v, fs.lookup f = some v ∧ Den K G v d) ∧ (ds.lookup f = none → fs.lookup f = none)
  | [], [], .nil => ⟨fun d h => (nomatch h), fun _ => rfl⟩
  | (g, v) :: fs, (_, d) :: ds, .cons h t => by
    obtain ⟨h1, h2⟩ := denKey_get (f := f) t
    rw [List.lookup_cons, List.lookup_cons]
    by_cases e : (f == g) = true
    · rw [e]; exact ⟨fun d' z => by cases z; exact ⟨v, rfl, h⟩, fun z => by cases z⟩
    · rw [Bool.eq_false_iff.mpr e]; exact ⟨h1, h2⟩
def putD (f : Str) (d : D) : List (Str × D) → List (Str × D)
  | [] => [(f, d)]
  | (g, x) :: r => if g = f then (g, d) :: r else (g, x) :: putD f d r
theorem denKey_put {K : PySem.W.Frag} {G : Hp} {f : Str} {v : V} {d : D} (h : Den K G v d) : ∀ {fs : List (Str × V)} {ds : List (Str × D)}, DenKey K G fs ds → DenKey K G (putF f v fs) (putD f d ds)
  | [], [], .nil => .cons h .nil
  | (g, w) :: fs, (_, e) :: ds, .cons h1 t => by
    unfold putF putD
    by_cases z : g = f
    · rw [if_pos z, if_pos z]; exact .cons h t
    · rw [if_neg z, if_neg z]; exact .cons h1 (denKey_put h t)
theorem denKey_len {K : PySem.W.Frag} {G : Hp} {κ : Type} : ∀ {fs : List (κ × V)} {ds : List (κ × D)}, DenKey K G fs ds → fs.length = ds.length
  | _, _, .nil => rfl
  | _, _, .cons _ t => by rw [List.length_cons, List.length_cons, denKey_len t]
/-- the contract of a method -/
structure MtF (P : Program) (w : World) (K : PySem.W.Frag) (mg : Str → Option Value) (base : Heap) (k : Nat) (C : Addr) (m : Str) (c : Nat) (Cn : List D → (Ent → Prop) → Prop) : Prop where
  ex : ∃ f fd ps, Meth K C m f ∧ Binds K fd ps [] ∧ FnOk P w K mg base CX0 k f fd ps (spD K c Cn)
theorem fn_dfM {P : Program} {w : World} {K : PySem.W.Frag} {mg : Str → Option Value} {base : Heap} {x qual : Str} {st : Stmt} {N ps : List Str} {k c : Nat} {C : List D → (Ent → Prop) → Prop} {cl : Addr}
    (F : DfM K cl x qual st ps) (Sc : FnScope N ps (defScope st)) (len : ∀ ds S, C ds S → ds.length = ps.length)
    (body : ∀ (f : Addr) (cdv : Value) (A : Around) (outer : List Env) (s : Shared) (H : Hp) (E : XK) (B : Bs) (ds : List D) (S : Ent → Prop), Room k (A.deeper (envOfC qual (defScope st) s.heap.objs.size f cdv)) → C ds S →
      ∃ c', c' ≤ c ∧ Sv (bodyX P w K mg base N qual st f cdv A outer s H E) B (DL.start N ds) c' (defBody st) { nx := fun _ => S (.sh (dt ())), rt := S }) : MtF P w K mg base (k + 1) cl x c C := by
  obtain ⟨f, fd, h1, h2, h3⟩ := F.ex
  have key : FnOk P w K mg base CX0 (k + 1) f fd ps (spD K c C) := h1.ok Sc (fun vs H Q E ⟨n, G, ds, S, _, _, dn, hC, _⟩ => by rw [denAll_len dn]; exact len ds S hC) fun cdv A outer s H vs Q E hr ⟨n, G, ds, S, v, l, dn, hC, k⟩ => by
    obtain ⟨c', hc, h⟩ := body f cdv A outer s H E ⟨G, H⟩ ds S hr hC
    refine ⟨_, h, n, G, ⟨.start dn, v, .refl G H, by omega⟩, ⟨fun Γ' σ' H' G' n' hS hn ok vl ste _ => k .non H' G' n' _ (by omega) ste vl hS (.sh (.py .non))⟩, ⟨fun _ _ _ _ _ z => z.elim⟩, ⟨fun _ _ _ _ _ z => z.elim⟩, fun v H' G' n' r hn ste vl hS hr => k v H' G' n' r (by omega) ste vl hS hr⟩
  exact ⟨f, fd, ps, h2, h3, key⟩
section
variable {X : Cx} {B : Bs} {Γ : List Ent} {c c1 c2 k : Nat} {e t : Expr} {es : List Expr} {p p2 pos apos : Pos} {S : Ent → Prop} {C : Addr} {fs : List (Str × D)} {f x : Str} {d : D} {body rest : List Stmt} {N : List Ent → Prop}
theorem ins_at {K : PySem.W.Frag} {n : Nat} {G H : Hp} {v : V} (vl : Val n G H) (h : Den K G v (.ins C fs)) : ∃ a dx vs, v = .ref a ∧ G a = some (.ins C dx vs) ∧ H a = some (.ins C dx vs) ∧ DenKey K G vs fs := by
  cases h with
  | ins h t =>
    obtain ⟨o, e, l⟩ := vl.sub _ _ h
    cases l
    exact ⟨_, _, _, rfl, h, e, t⟩
/-- e.f -/
theorem ev_fld (hcl : L2.Cls X.K C) (hna : NoAttr X.K C f) (h : Ev X B Γ c e (Sd (.ins C fs))) (hf : fs.lookup f = some d) (hb : attributeBase e f X.env (eval e X.env) = eval e X.env := by rfl) : Ev X B Γ c (.Attribute e f pos) (Sd d) :=
  pe_mono (pe_fld h hb) fun σ H Q ⟨n, G, pr, k⟩ => ⟨n, G, pr, fun v H1 G1 n1 r hn st vl hS hr => by
    cases hS
    cases hr with | sh den =>
    obtain ⟨a, dx, vs, rfl, _, h2, h3⟩ := ins_at vl den
    obtain ⟨w, h4, h5⟩ := (denKey_get h3).1 d hf
    exact ⟨a, C, dx, vs, w, rfl, h2, hcl, hna, h4, k w H1 G1 n1 _ hn st vl rfl (.sh h5)⟩⟩
/-- x.f, x an own instance -/
theorem ev_fldO (i : Nat) (hcl : L2.Cls X.K C) (hna : NoAttr X.K C f) (hΓ : Γ[i]? = some (.ow (.ins C fs))) (hf : fs.lookup f = some d) (hN : X.N[i]? = some x := by rfl) (hv : Vis X.env.scope x := by first | exact Or.inl rfl | exact Or.inr (Or.inl rfl) | exact Or.inr (Or.inr rfl)) (hd : (x == ("__debug__" : Str)) = false := by decide) (hcd : (x == ("__classdict__" : Str)) = false := by decide)
    (hb : attributeBase (.Name x p) f X.env (eval (.Name x p) X.env) = eval (.Name x p) X.env := by rfl) : Ev X B Γ 0 (.Attribute (.Name x p) f pos) (Sd d) :=
  pe_mono (pe_fld (pe_var hN hv hd hcd) hb) fun σ H Q ⟨n, G, pr, k⟩ => by
    obtain ⟨a, o, e1, e2, e3, e4, e5⟩ := pr.ok.ow i _ hΓ
    generalize ed : DL.D.ins C fs = dd at e5
    cases e5 with
    | ins h3 =>
      cases ed
      obtain ⟨w, h4, h5⟩ := (denKey_get h3).1 d hf
      exact ⟨_, e1, a, C, _, _, w, rfl, e4, hcl, hna, h4, k w H G n _ (Nat.le_refl _) (.refl G H) pr.val rfl (.sh h5)⟩
    | lst _ => cases ed
    | py _ => cases ed
    | dct _ => cases ed
    | dtp _ => cases ed
/-- e.m() -/
theorem ev_meth0 {m : Str} {Cn : List D → (Ent → Prop) → Prop} {pl : Sem Bool} (hcl : L2.Cls X.K C) (F : MtF X.prog X.w X.K X.mg X.base k C m c Cn) (hr : Room k X.A) (h : Ev X B Γ c1 e (Sd (.ins C fs))) (hm : fs.lookup m = none) (hC : Cn [.ins C fs] S)
    (ht : eval (.Call (.Attribute e m apos) [] [] pos) X.env = (do
      let ov ← eval e X.env
      standAt apos.atName
      let (f, first) ← holding [ov] (getMethod ov m pl)
      callWith pos f first (backTo pos (starEach [] X.env)) (backToKw pos (keywordEach [] X.env))) := by rfl) : Ev X B Γ (c1 + c) (.Call (.Attribute e m apos) [] [] pos) S := by
  obtain ⟨f, fd, ps, h1, h2, h3⟩ := F.ex
  refine pe_mono (pe_meth0 h hcl h1 h3 hr h2 .nil pass0 ht) fun σ H Q ⟨n, G, pr, k⟩ => ⟨n, G, ⟨pr.ok, pr.val, pr.ste, by have := pr.lim; omega⟩, fun v H1 G1 n1 r hn st vl hS hr => ?_⟩
  cases hS
  cases hr with | sh den =>
  obtain ⟨a, dx, vs, rfl, _, h5, h6⟩ := ins_at vl den
  refine ⟨a, dx, vs, rfl, h5, (denKey_get h6).2 hm, ?_⟩
  exact ⟨n1, G1, [.ins C fs], S, vl, by have := pr.lim; omega, .cons den .nil, hC, fun v H' G' n' r hn' st' vl' hS' hr' => k v H' G' n' r (by omega) (st.trans st') vl' hS' (hr'.base st.h)⟩
/-! ### __init__ -/
/-- statements that set no name: the slots stay -/
def tFx (K : PySem.W.Frag) (B : Bs) (Γ : List Ent) (c : Nat) (N : List Ent → Prop) : TS := fun D σ H => ∃ n G, Pre K B Γ c σ H n G ∧ ∀ Γ' H' G' n', N Γ' → n' ≤ n + c → Ok K B.H Γ' G' σ H' → Val n' G' H' → Ste B.G B.H G' H' → Sub G G' → D.nx σ H'
abbrev Fx (X : Cx) (B : Bs) (Γ : List Ent) (c : Nat) (st : List Stmt) (N : List Ent → Prop) : Prop := PSs X st (tFx X.K B Γ c N)
theorem fx_nil (h : N Γ) : Fx X B Γ 0 [] N := pss_mono pss_nil fun D σ H ⟨n, G, p, k⟩ => k Γ H G n h (Nat.le_refl _) p.ok p.val p.ste (.refl G)
/-- if t: (never) -/
theorem fx_skip (ht : Tv X B Γ c1 t (fun b => b = false)) (h : Fx X B Γ c2 rest N) : Fx X B Γ (c1 + c2) (.If t body [] pos :: rest) N :=
  pss_mono (pss_cons (ps_if ht (pss_never (sts := body)) pss_nil) h) fun D σ H ⟨n, G, p, k⟩ => ⟨n, G, ⟨p.ok, p.val, p.ste, by have := p.lim; omega⟩, fun b H1 G1 n1 hn st vl hS => by
    subst hS
    refine iteF ?_
    exact ⟨n1, G1, p.step st vl (by have := p.lim; omega), fun Γ' H' G' n' h1 h2 h3 h4 h5 h6 => k Γ' H' G' n' h1 (by omega) h3 h4 h5 (st.g.trans h6)⟩⟩
/-- self.f = e -/
theorem fx_fld (i : Nat) (hcl : L2.Cls X.K C) (hna : NoAttr X.K C f) (hΓ : Γ[i]? = some (.ow (.ins C fs))) (hl : fs.length < 1000) (he : Ev X B Γ c1 e (Sd d)) (h : Fx X B (Γ.set i (.ow (.ins C (putD f d fs)))) c2 rest N)
    (hN : X.N[i]? = some x := by rfl) (hv : Vis X.env.scope x := by first | exact Or.inl rfl | exact Or.inr (Or.inl rfl) | exact Or.inr (Or.inr rfl)) (hd : (x == ("__debug__" : Str)) = false := by decide) (hcd : (x == ("__classdict__" : Str)) = false := by decide)
    (hs : swapsWith e (some (.Attribute (.Name x p) f p2)) pos.line X.env = pure false := by rfl) : Fx X B Γ (c1 + c2) (.Assign [.Attribute (.Name x p) f p2] e pos :: rest) N :=
  pss_mono (pss_cons (ps_fld (pe_var hN hv hd hcd) he hs) h) fun D σ H ⟨n, G, pr, k⟩ => ⟨n, G, ⟨pr.ok, pr.val, pr.ste, by have := pr.lim; omega⟩, fun v H1 G1 n1 r hn st vl hS hr => by
    cases hS
    cases hr with | sh den =>
    have p1 := pr.step st vl (c' := c2) (by have := pr.lim; omega)
    obtain ⟨a, o, e1, e2, e3, e4, e5⟩ := p1.ok.ow i _ hΓ
    have nt := e5.nt
    have nm : ∀ k, o ≠ memO a k := own_nm e5
    generalize ed : DL.D.ins C fs = dd at e5
    cases e5 with
    | @ins C' dx vs _ h3 =>
      cases ed
      refine ⟨_, e1, a, C, dx, vs, rfl, e4, hcl, hna, by rw [denKey_len h3]; exact hl, ?_⟩
      have ow' : OwAt X.K G1 (HO.ins C dx (putF f v vs)) (DL.D.ins C (putD f d fs)) := OwAt.ins (denKey_put den h3)
      exact ⟨n1, G1, ⟨p1.ok.write hΓ e1 ow', vl.write e3 trivial e4 nt nm, p1.ste.write e2, p1.lim⟩, fun Γ' H' G' n' h1 h2 h3 h4 h5 h6 => k Γ' H' G' n' h1 (by omega) h3 h4 h5 (st.g.trans h6)⟩
    | lst _ => cases ed
    | py _ => cases ed
    | dct _ => cases ed
    | dtp _ => cases ed⟩
/-- what an __init__ keeps -/
def spI (K : PySem.W.Frag) (C : Addr) (c : Nat) (Cn : List D → List (Str × D) → Prop) : L2.Sp := fun vs H Q _ => ∃ n G H0 a dx us ds fs, vs = .ref a :: us ∧ Val n G H ∧ n + c ≤ LIM ∧ Sub H0 H ∧ H0 a = none ∧ G a = none ∧ H a = some (.ins C dx []) ∧ DenAll K G us ds ∧ Cn ds fs ∧ (∀ b, H0 b = none → H b ≠ none → G b = none) ∧
  ∀ H' G' n' vs', n' ≤ n + c → Ste G H0 G' H' → Val n' G' H' → H' a = some (.ins C dx vs') → G' a = none → DenKey K G' vs' fs → Q .non H'
end
end DL
end

section
set_option Elab.async false
set_option linter.all false
set_option maxRecDepth 100000
set_option maxHeartbeats 4000000
set_option autoImplicit false
/-! DnD: making own instances; isinstance of own classes. -/
namespace DL
open PySem PySem.Spec PyProof.Rows L2 PySem.W PySem.SeqAt
variable [Wd]
/-- what an __init__ keeps -/
def spN (K : PySem.W.Frag) (C : Addr) (c : Nat) (Cn : List D → List (Str × D) → Prop) : L2.Sp := fun vs H Q _ => ∃ n G H0 a dx us ds fs, vs = .ref a :: us ∧ Val n G H ∧ n + c ≤ LIM ∧ Sub H0 H ∧ H0 a = none ∧ G a = none ∧ H a = some (.ins C dx []) ∧ DenAll K G us ds ∧ Cn ds fs ∧
  ∀ H' G' n' dx' vs', n' ≤ n + c → Ste G H0 G' H' → Val n' G' H' → H' a = some (.ins C dx' vs') → G' a = none → DenKey K G' vs' fs → Q .non H'
/-- the slots at the entry of an __init__ -/
def startI (N : List Str) (C : Addr) (ds : List D) : List Ent := .ow (.ins C []) :: (ds.map .sh ++ List.replicate (N.length - (ds.length + 1)) .no)
theorem Ok.startI {K : PySem.W.Frag} {G H H0 : Hp} {N : List Str} {a C dx : Addr} {vs : List V} {ds : List D} (h : DenAll K G vs ds) (h0 : H0 a = none) (g0 : G a = none) (ha : H a = some (.ins C dx [])) : Ok K H0 (startI N C ds) G (L2.start N (.ref a :: vs)) H := by
  have ln := denAll_len h
  have get : ∀ (i : Nat) (r : Ent), (DL.startI N C ds)[i + 1]? = some r → r ≠ .no → ∃ d, ds[i]? = some d ∧ r = .sh d := fun i r e hr => by
    unfold DL.startI at e
    rw [List.getElem?_cons_succ] at e
    by_cases hi : i < ds.length
    · rw [List.getElem?_append_left (by simpa using hi), List.getElem?_map] at e
      cases q : ds[i]? with
      | none => rw [q] at e; cases e
      | some d => rw [q] at e; cases e; exact ⟨d, rfl, rfl⟩
    · rw [List.getElem?_append_right (by simpa using hi), List.getElem?_replicate] at e
      split at e
      · cases e; exact absurd rfl hr
      · cases e
  refine ⟨fun i d e => ?_, fun i d e => ?_, fun i j d d' e e' hne => ?_, ?_⟩
  · cases i with
    | zero => cases e
    | succ i =>
      obtain ⟨d', h1, h2⟩ := get i _ e (by intro z; cases z)
      cases h2
      obtain ⟨v, h3, h4⟩ := denAll_get' h h1
      refine ⟨v, ?_, h4⟩
      unfold L2.start
      have hi : i < vs.length := by rw [ln]; exact (List.getElem?_eq_some_iff.mp h1).1
      rw [List.getElem?_append_left (by simpa using hi), List.getElem?_map, List.getElem?_cons_succ, h3]
      rfl
  · cases i with
    | zero =>
      have e' : some (Ent.ow (.ins C [])) = some (Ent.ow d) := e
      cases e'
      exact ⟨a, _, rfl, h0, g0, ha, .ins .nil⟩
    | succ i =>
      obtain ⟨d', h1, h2⟩ := get i _ e (by intro z; cases z)
      cases h2
  · cases i with
    | zero =>
      cases j with
      | zero => exact absurd rfl hne
      | succ j =>
        obtain ⟨d'', h1, h2⟩ := get j _ e' (by intro z; cases z)
        cases h2
    | succ i =>
      obtain ⟨d'', h1, h2⟩ := get i _ e (by intro z; cases z)
      cases h2
  · unfold DL.startI L2.start
    simp [ln]
/-- the contract of a class's making -/
structure Ini (P : Program) (w : World) (K : PySem.W.Frag) (mg : Str → Option Value) (base : Heap) (k : Nat) (C : Addr) (c : Nat) (Cn : List D → List (Str × D) → Prop) : Prop where
  ex : ∃ f fd ps, Mk K C f ∧ Binds K fd ps [] ∧ FnOk P w K mg base CX0 k f fd ps (spN K C c Cn)
theorem fn_init {P : Program} {w : World} {K : PySem.W.Frag} {mg : Str → Option Value} {base : Heap} {qual : Str} {st : Stmt} {N ps : List Str} {k c : Nat} {Cn : List D → List (Str × D) → Prop} {C : Addr}
    (F : DfM K C "__init__" qual st ps) (mks : PySem.W.makesIn K C = true) (kp : PySem.W.keepIn K (.ref C) = true) (Sc : FnScope N ps (defScope st)) (len : ∀ ds fs, Cn ds fs → ds.length + 1 = ps.length)
    (body : ∀ (f : Addr) (cdv : Value) (A : Around) (outer : List Env) (s : Shared) (H : Hp) (E : XK) (B : Bs) (ds : List D) (fs : List (Str × D)), Room k (A.deeper (envOfC qual (defScope st) s.heap.objs.size f cdv)) → Cn ds fs →
      ∃ c', c' ≤ c ∧ Fx (bodyX P w K mg base N qual st f cdv A outer s H E) B (startI N C ds) c' (defBody st) (fun Γ' => Γ'[0]? = some (.ow (.ins C fs)))) : Ini P w K mg base (k + 1) C c Cn := by
  obtain ⟨f, fd, h1, h2, h3⟩ := F.ex
  have key : FnOk P w K mg base CX0 (k + 1) f fd ps (spN K C c Cn) := h1.ok Sc (fun vs H Q E ⟨n, G, H0, a, dx, us, ds, fs, e, _, _, _, _, _, _, dn, hC, _⟩ => by rw [e, List.length_cons, denAll_len dn]; exact len ds fs hC) fun cdv A outer s H vs Q E hr ⟨n, G, H0, a, dx, us, ds, fs, e, vl, l, sb, a0, g0, ha, dn, hC, k⟩ => by
    subst e
    obtain ⟨c', hc, h⟩ := body f cdv A outer s H E ⟨G, H0⟩ ds fs hr hC
    refine ⟨_, h, n, G, ⟨.startI dn a0 g0 ha, vl, ⟨.refl G, sb, fun _ _ z _ _ => z⟩, by omega⟩, fun Γ' H' G' n' hΓ hn ok vl' st' _ => ?_⟩
    obtain ⟨a', o, e1, e2, e3, e4, e5⟩ := ok.ow 0 _ hΓ
    have : a' = a := by
      have z : (L2.start N (V.ref a :: us))[0]? = some (some (.ref a)) := rfl
      rw [z] at e1; cases e1; rfl
    subst this
    generalize ed : DL.D.ins C fs = dd at e5
    cases e5 with
    | @ins C' dx' vs' fs' h5 => cases ed; exact k H' G' n' dx' vs' (by omega) st' vl' e4 e3 h5
    | lst _ => cases ed
    | py _ => cases ed
    | dct _ => cases ed
    | dtp _ => cases ed
  exact ⟨f, fd, ps, ⟨mks, h2.at_, h2.fn, kp⟩, h3, key⟩
section
variable {X : Cx} {B : Bs} {Γ : List Ent} {c c1 k : Nat} {e : Expr} {es : List Expr} {p p2 pos : Pos} {C : Addr} {fs : List (Str × D)} {x : Str} {ds : List D} {Cn : List D → List (Str × D) → Prop}
/-- Class(e, ..) -/
theorem ev_make (M : Ini X.prog X.w X.K X.mg X.base k C c Cn) (hr : Room (k + 1) X.A) (hm : X.mg x = some (.ref C)) (ha : Av X B Γ c1 (e :: es) (fun l => l = ds)) (hC : Cn ds fs) (hg : Gl X x := by rfl) (hdb : (x == ("__debug__" : Str)) = false := by decide)
    (he : starEach (e :: es) X.env = (false, eval e X.env) :: starEach es X.env := by rfl) (hpl : (backTo pos (starEach es X.env)).any (·.1) = false := by rfl) : Ev X B Γ (c1 + c) (.Call (.Name x p) (e :: es) [] pos) (So (.ins C fs)) := by
  obtain ⟨f, fd, ps, h1, h2, h3⟩ := M.ex
  refine pe_mono (pe_make h1 h3 hr hg hm h2 .nil pass0 ha hdb he hpl) fun σ H Q ⟨n, G, pr, kk⟩ => ⟨n, G, ⟨pr.ok, pr.val, pr.ste, by have := pr.lim; omega⟩, fun vs H1 G1 n1 l hn st vl hS dn => ?_⟩
  subst hS
  intro a dx a0 d0 ne
  have g0 : G1 a = none := vl.sub.out a0
  obtain ⟨s1, v1⟩ := Ste.new (o := .own a) vl d0 trivial
  have a1 : upd H1 dx (.own a) a = none := by rw [upd_ne ne.symm]; exact a0
  obtain ⟨s2, v2⟩ := Ste.new (o := .ins C dx []) v1 a1 trivial
  refine ⟨n1, G1, H1, a, dx, vs ++ [], l, fs, rfl, v2, by have := pr.lim; omega, s1.h.trans s2.h, a0, g0, upd_same, by rw [List.append_nil]; exact dn, hC, fun H' G' n' dx' vs' hn' st' vl' h5 h6 h7 => ⟨rfl, ?_⟩⟩
  exact kk (.ref a) H' G' n' _ (by omega) (st.trans st') vl' rfl (.ow (st.h.out a0) h6 h5 (.ins h7))
/-- isinstance(e, Class), of an instance of the class -/
theorem ev_isC (isi : C8.InsC X.K C) (hmI : X.mg "isinstance" = none) (hm : X.mg x = some (.ref C)) (h : Ev X B Γ c e (Sd (.ins C fs))) (hg : Gl X "isinstance" := by rfl) (hgx : Gl X x := by rfl) (hnx : x ≠ "__name__" := by decide) (hdx : (x == ("__debug__" : Str)) = false := by decide)
    (he : starEach [e, .Name x p2] X.env = (false, eval e X.env) :: starEach [.Name x p2] X.env := by rfl) (he2 : starEach [.Name x p2] X.env = (false, eval (.Name x p2) X.env) :: starEach [] X.env := by rfl) (hpl : (backTo pos (starEach [.Name x p2] X.env)).any (·.1) = false := by rfl) :
    Ev X B Γ c (.Call (.Name "isinstance" p) [e, .Name x p2] [] pos) (Sd (dt true)) :=
  pe_mono (pe_callB (C8.call_isC isi) hg hmI (by decide +kernel) (pa_cons h (pa_cons (pe_glob (v := .ref C) hgx hm rfl hdx) pa_nil he2) he) (by decide) (by decide) he hpl) fun σ H Q ⟨m, G, pp, k⟩ => ⟨m, G, pp, fun v H1 G1 n1 r hn st vl hS hr => by
    cases hS
    cases hr with | sh den =>
    obtain ⟨a, dx, vs, rfl, _, h2, _⟩ := ins_at vl den
    exact ⟨a, dx, vs, rfl, h2, k _ H1 G1 n1 _ hn st vl rfl (.sh (.py (.bl _)))⟩⟩
end
end DL
end

section
set_option Elab.async false
set_option linter.all false
set_option maxRecDepth 100000
set_option maxHeartbeats 4000000
set_option autoImplicit false
/-! DnF: comprehensions of two fors. -/
namespace DL
open PySem PySem.Spec PyProof.Rows L2 PySem.W PySem.SeqAt
variable [Wd]
/-- the walk of a turn, as a measure -/
theorem walk_it {J : It} {n : Nat} {Gd : Hp → Prop} {Y : Nat → Hp → V → Hp → Prop} (w : Walk J n Gd Y) (Pv : Nat → Hp → Prop) {R : Nat → (Hp → Prop) → V → Hp → Prop} {Z : Hp → Prop} {H0 : Hp} (h0 : Pv 0 H0) (hG : ∀ i H, i ≤ n → Pv i H → Gd H)
    (hs : ∀ i x H H', i < n → Pv i H → Y i H x H' → R i (Pv (i + 1)) x H') (hd : ∀ H, Pv n H → Z H) :
    ∃ W : Nat → Nat → Hp → Prop, (∃ m, W 0 m H0) ∧ ∀ i m H, W i m H → (J.stop i H ∧ Z H) ∨ (J.go i H ∧ ∃ Nx : Hp → Prop, (∀ H', Nx H' → ∃ m', m' < m ∧ W (i + 1) m' H') ∧ ∀ x H', J.yld i H x H' → R i Nx x H') := by
  refine ⟨fun i m H => m = n - i ∧ i ≤ n ∧ Pv i H, ⟨n, by simp, Nat.zero_le _, h0⟩, ?_⟩
  rintro i m H ⟨rfl, hi, p⟩
  have q := hG i H hi p
  by_cases hlt : i < n
  · exact .inr ⟨w.goes i H hlt q, Pv (i + 1), fun H' p' => ⟨n - (i + 1), by omega, rfl, hlt, p'⟩, fun x H' y => hs i x H H' hlt p (w.yields i H x H' hlt q y)⟩
  · have e : i = n := by omega
    subst e
    exact .inl ⟨w.stops H q, hd H p⟩
theorem yesI {σ : L2.St} {H : Hp} {A Z : Hp → Prop} (h : A H) : tYes σ H (fun b H3 => if b = true then A H3 else Z H3) := by
  show (if true = true then A H else Z H)
  rw [if_pos rfl]
  exact h
/-- the heap without what stands at D -/
def dp (D : Addr) (H : Hp) : Hp := fun b => if b = D then none else H b
theorem dp_ne {D b : Addr} {H : Hp} (h : b ≠ D) : dp D H b = H b := if_neg h
theorem dp_eq {D : Addr} {H : Hp} : dp D H D = none := if_pos rfl
theorem dp_some {D b : Addr} {H : Hp} {o : HO} (h : dp D H b = some o) : b ≠ D ∧ H b = some o := by
  by_cases e : b = D
  · subst e; rw [dp_eq] at h; cases h
  · rw [dp_ne e] at h; exact ⟨e, h⟩
section
variable {K : PySem.W.Frag} {H0 G G1 G4 G5 H H1 H4 H5 : Hp} {Γ : List Ent} {σ : L2.St} {D : Addr} {u : HO}
theorem Ok.apart (k : Ok K H0 Γ G σ H) (h : H D = none) : Ok K (upd H0 D u) Γ G σ H := ⟨k.sh, fun i d e => by
  obtain ⟨a, o, h1, h2, h3, h4, h5⟩ := k.ow i d e
  exact ⟨a, o, h1, by rw [upd_ne (ne_of_none h4 h)]; exact h2, h3, h4, h5⟩, k.dj, k.ln⟩
theorem Ok.less (k : Ok K (upd H0 D u) Γ G σ H) : Ok K H0 Γ G σ H ∧ Ok K (upd H0 D u) Γ G σ (dp D H) := by
  have ne : ∀ {a : Addr}, upd H0 D u a = none → a ≠ D := fun {a} h z => by subst z; rw [upd_same] at h; cases h
  refine ⟨⟨k.sh, fun i d e => ?_, k.dj, k.ln⟩, ⟨k.sh, fun i d e => ?_, k.dj, k.ln⟩⟩
  · obtain ⟨a, o, h1, h2, h3, h4, h5⟩ := k.ow i d e
    exact ⟨a, o, h1, by rw [upd_ne (ne h2)] at h2; exact h2, h3, h4, h5⟩
  · obtain ⟨a, o, h1, h2, h3, h4, h5⟩ := k.ow i d e
    exact ⟨a, o, h1, h2, h3, by rw [dp_ne (ne h2)]; exact h4, h5⟩
theorem ste_dp (s : Ste G1 H1 G4 H4) (h : H1 D = none) (x : Ste G4 (dp D H4) G5 H5) : Ste G1 H1 G5 H5 := by
  refine ⟨s.g.trans x.g, fun b o e => ?_, fun b o e1 e2 e3 => ?_⟩
  · obtain ⟨o', e', l⟩ := s.h b o e
    obtain ⟨o2, e3, l2⟩ := x.h b o' (by rw [dp_ne (ne_of_none e h)]; exact e')
    exact ⟨o2, e3, l.trans l2⟩
  · obtain ⟨o', e', l⟩ := s.h b o e2
    exact x.f b o' (s.f b o e1 e2 e3) (by rw [dp_ne (ne_of_none e2 h)]; exact e') (IsTp.le e3 l)
theorem ste_dp0 : Ste G4 (dp D H4) G4 H4 := ⟨.refl _, fun b o e => ⟨o, (dp_some e).2, .refl o⟩, fun _ _ h _ _ => h⟩
theorem ste_dpw (x : Ste G4 (dp D H4) G5 H5) : Ste G4 (dp D H4) G5 (upd H5 D u) := ⟨x.g, fun b o e => by
  rw [upd_ne (dp_some e).1]; exact x.h b o e, x.f⟩
end
section
variable {X : Cx} {B : Bs} {Γ : List Ent} {c0 c1 c2 c3 : Nat} {elt tg iter tg1 iter1 : Expr} {ifs1 : List Expr} {scope : Scope} {own : List (Str × Nat)} {vs1 : List Nat} {pos : Pos} {g g1 : TG} {ι κ : Type} {enc : ι → D} {enc1 : κ → D} {xs : List ι} {zs : ι → List κ} {p : ι → κ → Bool} {f : ι → κ → D}
  {Γ' : ι → List Ent} {Γ'' : ι → κ → List Ent}
def two (zs : ι → List κ) (p : ι → κ → Bool) (f : ι → κ → D) (xs : List ι) : List D := xs.flatMap fun d => ((zs d).filter (p d)).map (f d)
theorem two_len (l : List ι) : (two zs p f l).length ≤ (l.flatMap zs).length := by
  unfold two
  induction l with
  | nil => exact Nat.le_refl _
  | cons d l ih =>
    rw [List.flatMap_cons, List.flatMap_cons, List.length_append, List.length_append, List.length_map]
    exact Nat.add_le_add (List.length_filter_le _ _) ih
/-- a comprehension of two 'for's and what it makes -/
structure Lc2 (X : Cx) (B : Bs) (Γ : List Ent) (c : Nat) (elt tg iter tg1 iter1 : Expr) (ifs1 : List Expr) (scope : Scope) (S : Ent → Prop) : Prop where
  ex : ∃ (own : List (Str × Nat)) (vs1 : List Nat) (wi : TI) (g : TG) (wi1 : TI) (g1 : TG) (tt1 : TT) (te : TE), PI X tg iter wi ∧ BlkOk X.N X.env.scope scope own ∧ (∀ i ∈ vs1, i ∈ own.map (·.2)) ∧
    (∀ (s : Shared) (H : Hp) (C : Addr) (cl : List (Str × Addr)) (fp : List Addr), PG (X.blk s H scope (compEnvC scope cl C X.env) fp) tg g) ∧
    (∀ (s : Shared) (H : Hp) (C : Addr) (cl : List (Str × Addr)) (fp : List Addr), PI (X.blk s H scope (compEnvC scope cl C X.env) fp) tg1 iter1 wi1) ∧
    (∀ (s : Shared) (H : Hp) (C : Addr) (cl : List (Str × Addr)) (fp : List Addr), PG (X.blk s H scope (compEnvC scope cl C X.env) fp) tg1 g1) ∧
    (∀ (s : Shared) (H : Hp) (C : Addr) (cl : List (Str × Addr)) (fp : List Addr), PTs (X.blk s H scope (compEnvC scope cl C X.env) fp) ifs1 tt1) ∧
    (∀ (s : Shared) (H : Hp) (C : Addr) (cl : List (Str × Addr)) (fp : List Addr), PE (X.blk s H scope (compEnvC scope cl C X.env) fp) elt te) ∧
    (∀ x, foldedSetIterable iter X.env x = pure x) ∧ (∀ env x, foldedSetIterable iter1 env x = pure x) ∧ ∀ σ H Q, tEv X.K B Γ c S σ H Q → tLc2 wi g tYes wi1 g1 tt1 te (own.map (·.2)) vs1 σ H Q
theorem lc2_mk (hi : Iv X B Γ c0 tg iter fun l => l = xs.map enc) (ok : BlkOk X.N X.env.scope scope own) (hv : ∀ i ∈ vs1, i ∈ own.map (·.2)) (htg : ∀ d, TgOk X.K g (own.map (·.2)) (wipeE Γ (own.map (·.2))) (enc d) (Γ' d))
    (htg1 : ∀ d z, TgOk X.K g1 vs1 (wipeE (Γ' d) vs1) (enc1 z) (Γ'' d z)) (hz : (xs.flatMap zs).length ≤ sizeLine)
    (hg : ∀ (s : Shared) (H : Hp) (C : Addr) (cl : List (Str × Addr)) (fp : List Addr), PG (X.blk s H scope (compEnvC scope cl C X.env) fp) tg g)
    (hi1 : ∀ d ∈ xs, ∀ (s : Shared) (H : Hp) (C : Addr) (cl : List (Str × Addr)) (fp : List Addr), PI (X.blk s H scope (compEnvC scope cl C X.env) fp) tg1 iter1 (tIt X.K B (Γ' d) c1 fun l => l = (zs d).map enc1))
    (hg1 : ∀ (s : Shared) (H : Hp) (C : Addr) (cl : List (Str × Addr)) (fp : List Addr), PG (X.blk s H scope (compEnvC scope cl C X.env) fp) tg1 g1)
    (ht1 : ∀ d ∈ xs, ∀ z ∈ zs d, ∀ (s : Shared) (H : Hp) (C : Addr) (cl : List (Str × Addr)) (fp : List Addr), PTs (X.blk s H scope (compEnvC scope cl C X.env) fp) ifs1 (tTv X.K B (Γ'' d z) c2 fun b => b = p d z))
    (he : ∀ d ∈ xs, ∀ z ∈ zs d, p d z = true → ∀ (s : Shared) (H : Hp) (C : Addr) (cl : List (Str × Addr)) (fp : List Addr), PE (X.blk s H scope (compEnvC scope cl C X.env) fp) elt (tEv X.K B (Γ'' d z) c3 (Sd (f d z))))
    (hs : ∀ x, foldedSetIterable iter X.env x = pure x := by intro _; rfl) (hs1 : ∀ env x, foldedSetIterable iter1 env x = pure x := by intro _ _; rfl) :
    Lc2 X B Γ (c0 + sizeLine * (c1 + sizeLine * (c2 + c3))) elt tg iter tg1 iter1 ifs1 scope (So (.lst (two zs p f xs))) := by
  have hi1' : ∀ (s : Shared) (H : Hp) (C : Addr) (cl : List (Str × Addr)) (fp : List Addr), PI (X.blk s H scope (compEnvC scope cl C X.env) fp) tg1 iter1 (fun σ H R => ∃ d, d ∈ xs ∧ tIt X.K B (Γ' d) c1 (fun l => l = (zs d).map enc1) σ H R) := fun s H C cl fp =>
    ⟨fun pins s' σ H' R I ⟨d, h1, h2⟩ => (hi1 d h1 s H C cl fp).run pins s' σ H' R I h2⟩
  have ht1' : ∀ (s : Shared) (H : Hp) (C : Addr) (cl : List (Str × Addr)) (fp : List Addr), PTs (X.blk s H scope (compEnvC scope cl C X.env) fp) ifs1 (fun σ H Q => ∃ d z, d ∈ xs ∧ z ∈ zs d ∧ tTv X.K B (Γ'' d z) c2 (fun b => b = p d z) σ H Q) := fun s H C cl fp =>
    ⟨fun pins s' σ H' R I ⟨d, z, h1, h2, h3⟩ => (ht1 d h1 z h2 s H C cl fp).run pins s' σ H' R I h3⟩
  have he' : ∀ (s : Shared) (H : Hp) (C : Addr) (cl : List (Str × Addr)) (fp : List Addr), PE (X.blk s H scope (compEnvC scope cl C X.env) fp) elt (fun σ H Q => ∃ d z, d ∈ xs ∧ z ∈ zs d ∧ p d z = true ∧ tEv X.K B (Γ'' d z) c3 (Sd (f d z)) σ H Q) := fun s H C cl fp =>
    ⟨fun pins s' σ H' R I ⟨d, z, h1, h2, h3, h4⟩ => (he d h1 z h2 h3 s H C cl fp).run pins s' σ H' R I h4⟩
  refine ⟨own, vs1, _, g, _, g1, _, _, hi, ok, hv, hg, hi1', hg1, ht1', he', hs, hs1, fun σ H Q ⟨n, G, pr, k⟩ => ?_⟩
  have l0 := pr.lim
  refine ⟨n, G, ⟨pr.ok, pr.val, pr.ste, by omega⟩, fun J H1 G1 n1 l hn1 st1 vl1 hl W hxs => ?_⟩
  subst hl
  rw [List.length_map] at hxs
  intro D hD
  have g1D : G1 D = none := vl1.sub.out hD
  unfold IsWalk at W
  rw [List.length_map] at W
  generalize hcc : c1 + sizeLine * (c2 + c3) = cc at *
  refine walk_it W (fun i H2 => ∃ n2 G2 acc, Ste G1 H1 G2 H2 ∧ Val n2 G2 H2 ∧ n2 ≤ n1 + i * cc ∧ H2 D = some (.lst acc) ∧ G2 D = none ∧ DenAll X.K G2 acc (two zs p f (xs.take i)))
    ?_ (fun i H2 _ ⟨n2, G2, acc, s2, v2, _⟩ => s2.g.trans v2.sub) ?_ ?_
  · obtain ⟨s1, v1⟩ := Ste.new (o := .lst []) vl1 hD trivial
    exact ⟨n1, G1, [], s1, v1, by omega, upd_same, g1D, .nil⟩
  · rintro i x H2 H3 hi ⟨n2, G2, acc, s2, v2, hn2, hD2, hG2, dn⟩ hy
    obtain ⟨d0, hd0, G3, s3, v3, den⟩ := hy n2 G2 s2.g v2
    obtain ⟨d, hd, rfl⟩ : ∃ d, xs[i]? = some d ∧ enc d = d0 := by
      rw [List.getElem?_map] at hd0
      cases e : xs[i]? with
      | none => rw [e] at hd0; cases hd0
      | some z => rw [e] at hd0; exact ⟨z, rfl, Option.some.inj hd0⟩
    have hmem : d ∈ xs := List.mem_of_getElem? hd
    have hD3 : H3 D = some (.lst acc) := by
      obtain ⟨o', e, l⟩ := s3.h D _ hD2
      cases l.lst; exact e
    have hG3 : G3 D = none := s3.f D _ hG2 hD2 id
    have mulle : i * cc + cc ≤ sizeLine * cc := by
      rw [← Nat.succ_mul]
      exact Nat.mul_le_mul_right _ (by omega)
    have ok3 : Ok X.K (upd B.H D (.lst [])) (wipeE Γ (own.map (·.2))) G3 (wipe σ (own.map (·.2))) H3 := (((pr.step st1 vl1 (c' := 0) (by omega)).ok.apart hD).wipe _).step (s2.trans s3)
    refine htg d _ G3 _ H3 x _ ok3 v3.sub den fun σ' ok4 hw => ⟨by rw [hw, wipe_wipe], ?_⟩
    refine yesI ?_
    refine ⟨d, hmem, n2, G3, ⟨ok4.less.1, v3, (pr.ste.trans st1).trans (s2.trans s3), by omega⟩, fun J1 H4 G4 n4 l1 hn4 st4 vl4 hl1 W1 hxs1 => ?_⟩
    subst hl1
    rw [List.length_map] at hxs1
    unfold IsWalk at W1
    rw [List.length_map] at W1
    have hD4 : H4 D = some (.lst acc) := by
      obtain ⟨o', e, l⟩ := st4.h D _ hD3
      cases l.lst; exact e
    have hG4 : G4 D = none := st4.f D _ hG3 hD3 id
    have ok5 : Ok X.K (upd B.H D (.lst [])) (wipeE (Γ' d) vs1) G4 (wipe σ' vs1) (dp D H4) := ((ok4.step st4).wipe vs1).less.2
    have s14 : Ste G1 H1 G4 H4 := s2.trans (s3.trans st4)
    have tk : xs.take (i + 1) = xs.take i ++ [d] := DL.take_next hd
    have big : ((xs.take i).flatMap zs).length + (zs d).length ≤ sizeLine := by
      refine Nat.le_trans ?_ hz
      have e : (xs.flatMap zs) = (xs.take (i + 1)).flatMap zs ++ (xs.drop (i + 1)).flatMap zs := by rw [← List.flatMap_append, List.take_append_drop]
      rw [e, tk, List.length_append, List.flatMap_append, List.length_append, List.flatMap_cons, List.flatMap_nil, List.append_nil]
      omega
    have small : acc.length ≤ ((xs.take i).flatMap zs).length := by
      rw [denAll_len dn]
      exact two_len _
    have cle : c1 + (zs d).length * (c2 + c3) ≤ cc := by
      rw [← hcc]
      exact Nat.add_le_add_left (Nat.mul_le_mul_right _ hxs1) _
    refine walk_it W1 (fun j H5 => ∃ n5 G5 acc5, Ste G4 (dp D H4) G5 H5 ∧ Val n5 G5 H5 ∧ n5 ≤ n4 + j * (c2 + c3) ∧ H5 D = some (.lst acc5) ∧ G5 D = none ∧ DenAll X.K G5 acc5 (two zs p f (xs.take i) ++ (((zs d).take j).filter (p d)).map (f d)) ∧ acc5.length ≤ acc.length + j)
      ⟨n4, G4, acc, ste_dp0, vl4, by omega, hD4, hG4, by simpa using dn.sub (s3.g.trans st4.g), by omega⟩ (fun j H5 _ ⟨n5, G5, acc5, s5, v5, _⟩ => s5.g.trans v5.sub) ?_ ?_
    · rintro j x5 H5 H6 hj ⟨n5, G5, acc5, s5, v5, hn5, hD5, hG5, dn5, hl5⟩ hy5
      obtain ⟨d1, hd1, G6, s6, v6, den6⟩ := hy5 n5 G5 s5.g v5
      obtain ⟨z, hzj, rfl⟩ : ∃ z, (zs d)[j]? = some z ∧ enc1 z = d1 := by
        rw [List.getElem?_map] at hd1
        cases e : (zs d)[j]? with
        | none => rw [e] at hd1; cases hd1
        | some z => rw [e] at hd1; exact ⟨z, rfl, Option.some.inj hd1⟩
      have hmz : z ∈ zs d := List.mem_of_getElem? hzj
      have hD6 : H6 D = some (.lst acc5) := by
        obtain ⟨o', e, l⟩ := s6.h D _ hD5
        cases l.lst; exact e
      have hG6 : G6 D = none := s6.f D _ hG5 hD5 id
      have mul2 : j * (c2 + c3) + (c2 + c3) ≤ (zs d).length * (c2 + c3) := by
        rw [← Nat.succ_mul]
        exact Nat.mul_le_mul_right _ (by omega)
      refine htg1 d z _ G6 _ H6 x5 _ (ok5.step (s5.trans s6)) v6.sub den6 fun σ3 ok7 hw3 => ⟨by rw [hw3, wipe_wipe], ?_⟩
      have ste7 : Ste B.G B.H G6 H6 := (pr.ste.trans st1).trans (ste_dp s14 hD (s5.trans s6))
      refine ⟨d, z, hmem, hmz, n5, G6, ⟨ok7.less.1, v6, ste7, by omega⟩, fun b H7 G7 n7 hn7 s7 v7 hb => ?_⟩
      subst hb
      have hD7 : H7 D = some (.lst acc5) := by
        obtain ⟨o', e, l⟩ := s7.h D _ hD6
        cases l.lst; exact e
      have hG7 : G7 D = none := s7.f D _ hG6 hD6 id
      have tz : (zs d).take (j + 1) = (zs d).take j ++ [z] := DL.take_next hzj
      cases hp : p d z with
      | false =>
        refine iteF ?_
        exact ⟨n7, G7, acc5, s5.trans (s6.trans s7), v7, by rw [Nat.succ_mul]; omega, hD7, hG7, by rw [tz, List.filter_append, List.filter_cons_of_neg (by rw [hp]; decide)]; simpa using dn5.sub (s6.g.trans s7.g), by omega⟩
      | true =>
        refine iteT ?_
        refine ⟨d, z, hmem, hmz, hp, n7, G7, ⟨ok7.less.1.step s7, v7, ste7.trans s7, by omega⟩, fun y H8 G8 n8 r hn8 s8 v8 hS hr => ?_⟩
        cases hS
        cases hr with | sh hr =>
        have hD8 : H8 D = some (.lst acc5) := by
          obtain ⟨o', e, l⟩ := s8.h D _ hD7
          cases l.lst; exact e
        have hG8 : G8 D = none := s8.f D _ hG7 hD7 id
        have dn8 : DenAll X.K G8 (acc5 ++ [y]) (two zs p f (xs.take i) ++ (((zs d).take (j + 1)).filter (p d)).map (f d)) := by
          rw [tz, List.filter_append, List.filter_cons_of_pos (by rw [hp])]
          have := denAll_app (dn5.sub (s6.g.trans (s7.g.trans s8.g))) (.cons hr .nil)
          simpa using this
        refine ⟨acc5, hD8, by omega, n8, G8, acc5 ++ [y], ?_, ?_, by rw [Nat.succ_mul]; omega, upd_same, hG8, dn8, by rw [List.length_append]; simp; omega⟩
        · exact ste_dpw (s5.trans (s6.trans (s7.trans s8)))
        · exact v8.write hG8 trivial hD8 id (fun k => by intro z; cases z)
    · rintro H5 ⟨n5, G5, acc5, s5, v5, hn5, hD5, hG5, dn5, hl5⟩
      rw [List.take_length] at dn5
      refine ⟨n5, G5, acc5, ste_dp s14 hD s5, v5, by rw [Nat.succ_mul]; omega, hD5, hG5, ?_⟩
      rw [tk]
      unfold two at dn5 ⊢
      rw [List.flatMap_append]
      simpa using dn5
  · rintro H2 ⟨n2, G2, acc, s2, v2, hn2, hD2, hG2, dn⟩
    rw [List.take_length] at dn
    refine k _ H2 G2 n2 _ ?_ (st1.trans s2) v2 rfl (.ow (st1.h.out hD) hG2 hD2 (.lst dn))
    have : xs.length * cc ≤ sizeLine * cc := Nat.mul_le_mul_right _ hxs
    omega
theorem Lc2.ev {c : Nat} {S : Ent → Prop} (h : Lc2 X B Γ c elt tg iter tg1 iter1 ifs1 scope S) (hc : X.calm = true) (hN : X.N.Nodup) : Ev X B Γ c (.ListComp elt [⟨tg, iter, [], 0⟩, ⟨tg1, iter1, ifs1, 0⟩] scope pos) S := by
  obtain ⟨own, vs1, wi, g, wi1, g1, tt1, te, h1, h2, h3, h4, h5, h6, h7, h8, h9, h10, h11⟩ := h.ex
  exact pe_mono (pe_lc2 (ifs := []) (tt := tYes) hc hN h1 h2 h3 h4 (fun _ _ _ _ _ => pts_nil) h5 h6 h7 h8 h9 h10) h11
theorem ev_lc2 (hc : X.calm = true) (hN : X.N.Nodup) (hi : Iv X B Γ c0 tg iter fun l => l = xs.map enc) (ok : BlkOk X.N X.env.scope scope own) (hv : ∀ i ∈ vs1, i ∈ own.map (·.2)) (htg : ∀ d, TgOk X.K g (own.map (·.2)) (wipeE Γ (own.map (·.2))) (enc d) (Γ' d))
    (htg1 : ∀ d z, TgOk X.K g1 vs1 (wipeE (Γ' d) vs1) (enc1 z) (Γ'' d z)) (hz : (xs.flatMap zs).length ≤ sizeLine)
    (hg : ∀ (s : Shared) (H : Hp) (C : Addr) (cl : List (Str × Addr)) (fp : List Addr), PG (X.blk s H scope (compEnvC scope cl C X.env) fp) tg g)
    (hi1 : ∀ d ∈ xs, ∀ (s : Shared) (H : Hp) (C : Addr) (cl : List (Str × Addr)) (fp : List Addr), PI (X.blk s H scope (compEnvC scope cl C X.env) fp) tg1 iter1 (tIt X.K B (Γ' d) c1 fun l => l = (zs d).map enc1))
    (hg1 : ∀ (s : Shared) (H : Hp) (C : Addr) (cl : List (Str × Addr)) (fp : List Addr), PG (X.blk s H scope (compEnvC scope cl C X.env) fp) tg1 g1)
    (ht1 : ∀ d ∈ xs, ∀ z ∈ zs d, ∀ (s : Shared) (H : Hp) (C : Addr) (cl : List (Str × Addr)) (fp : List Addr), PTs (X.blk s H scope (compEnvC scope cl C X.env) fp) ifs1 (tTv X.K B (Γ'' d z) c2 fun b => b = p d z))
    (he : ∀ d ∈ xs, ∀ z ∈ zs d, p d z = true → ∀ (s : Shared) (H : Hp) (C : Addr) (cl : List (Str × Addr)) (fp : List Addr), PE (X.blk s H scope (compEnvC scope cl C X.env) fp) elt (tEv X.K B (Γ'' d z) c3 (Sd (f d z))))
    (hs : ∀ x, foldedSetIterable iter X.env x = pure x := by intro _; rfl) (hs1 : ∀ env x, foldedSetIterable iter1 env x = pure x := by intro _ _; rfl) :
    Ev X B Γ (c0 + sizeLine * (c1 + sizeLine * (c2 + c3))) (.ListComp elt [⟨tg, iter, [], 0⟩, ⟨tg1, iter1, ifs1, 0⟩] scope pos) (So (.lst (two zs p f xs))) :=
  Lc2.ev (lc2_mk hi ok hv htg htg1 hz hg hi1 hg1 ht1 he hs hs1) hc hN
/-- y = [..] of two fors -/
theorem sv_setLc2 (i : Nat) {y : Str} {c c2 : Nat} {S : Ent → Prop} {O : Out} {rest : List Stmt} {p2 spos : Pos} (h : Lc2 X B Γ c elt tg iter tg1 iter1 ifs1 scope S) (hc : X.calm = true) (hN : X.N.Nodup) (k : ∀ r, S r → Sv X B (Γ.set i r) c2 rest O) (hy : X.N[i]? = some y := by rfl) (hyl : X.env.scope.names.lookup y = some .local := by rfl)
    (hsw : swapsWith (.ListComp elt [⟨tg, iter, [], 0⟩, ⟨tg1, iter1, ifs1, 0⟩] scope pos) (some (.Name y p2)) spos.line X.env = pure true := by rfl) : Sv X B Γ (c + c2) (.Assign [.Name y p2] (.ListComp elt [⟨tg, iter, [], 0⟩, ⟨tg1, iter1, ifs1, 0⟩] scope pos) spos :: rest) O := by
  obtain ⟨own, vs1, wi, g, wi1, g1, tt1, te, h1, h2, h3, h4, h5, h6, h7, h8, h9, h10, h11⟩ := h.ex
  refine sv_cons (N := fun Γ' => ∃ r, S r ∧ Γ' = Γ.set i r) (ps_mono (ps_setLc2 (ifs := []) (tt := tYes) hc hN hy hyl hsw h1 h2 h3 h4 (fun _ _ _ _ _ => pts_nil) h5 h6 h7 h8 h9 h10) fun D σ H ⟨n, G, p, k1, k2, k3, k4⟩ => ?_) fun Γ' ⟨r, hr, q⟩ => by subst q; exact k r hr
  exact h11 σ H _ ⟨n, G, p, fun v H' G' n' r hn st vl hS hr => k1.go _ _ H' G' n' ⟨r, hS, rfl⟩ hn (p.ok.res st hr p.ste.h) vl (p.ste.trans st) st.g⟩

end
end DL
end

section
set_option Elab.async false
set_option linter.all false
set_option maxRecDepth 100000
set_option maxHeartbeats 4000000
set_option autoImplicit false
/-! DnG: star displays; while. -/
namespace DL
open PySem PySem.Spec PyProof.Rows L2 PySem.W PySem.SeqAt
variable [Wd]
theorem denAll_of {K : PySem.W.Frag} {G : Hp} {α β : Type} [DecidableEq α] [Datum α] [DecidableEq β] [Datum β] {vs : List V} {xs : List α} {ys : List β} (h : DqAll K G vs (xs.map Datum.toD)) (e : xs.map Datum.toD = ys.map Datum.toD) : DenAll K G vs (ys.map dt) := by
  rw [e] at h
  have := dpAll_den h
  rw [List.map_map] at this
  exact this
section
variable {X : Cx} {B : Bs} {Γ : List Ent} {c c0 c1 c2 : Nat} {e t : Expr} {es : List Expr} {p pos : Pos} {O : Out} {body rest : List Stmt} {α β : Type} [DecidableEq α] [Datum α] [DecidableEq β] [Datum β]
/-- *t, .. -/
theorem avt_starT {a : Tup α} {zs ys : List β} (ha : Ev X B Γ c1 e (Sd (dt a))) (hr : Avt X B Γ c2 es ys) (hz : a.items.map Datum.toD = zs.map Datum.toD := by rfl) (hs : starEach (.Starred e p :: es) X.env = (true, eval e X.env) :: starEach es X.env := by rfl) : Avt X B Γ (c1 + c2) (.Starred e p :: es) (zs ++ ys) :=
  pa_mono (StX.pa_star ha hr hs) fun σ H Q ⟨n, G, pr, k⟩ => ⟨n, G, ⟨pr.ok, pr.val, pr.ste, by have := pr.lim; omega⟩, fun v H1 G1 n1 r hn st vl hS hd => by
    cases hS
    cases hd with | sh den =>
    obtain ⟨q, vs, rfl, h1, h2⟩ := dp_tup den.dp
    refine ⟨q, vs, rfl, .inl (vl.sub.sqT h1), n1, G1, pr.step st vl (by have := pr.lim; omega), fun us H2 G2 n2 l hn2 st2 vl2 hl dn => ?_⟩
    subst hl
    exact k _ H2 G2 n2 _ (by omega) (st.trans st2) vl2 rfl (by rw [List.map_append]; exact denAll_app ((denAll_of h2 hz).sub st2.g) dn)⟩
theorem avt_starL {a : List α} {zs ys : List β} (ha : Ev X B Γ c1 e (Sd (dt a))) (hr : Avt X B Γ c2 es ys) (hz : a.map Datum.toD = zs.map Datum.toD := by rfl) (hs : starEach (.Starred e p :: es) X.env = (true, eval e X.env) :: starEach es X.env := by rfl) : Avt X B Γ (c1 + c2) (.Starred e p :: es) (zs ++ ys) :=
  pa_mono (StX.pa_star ha hr hs) fun σ H Q ⟨n, G, pr, k⟩ => ⟨n, G, ⟨pr.ok, pr.val, pr.ste, by have := pr.lim; omega⟩, fun v H1 G1 n1 r hn st vl hS hd => by
    cases hS
    cases hd with | sh den =>
    obtain ⟨q, vs, rfl, h1, h2⟩ := dp_list den.dp
    have h1' : H1 q = some (.lst vs) := by
      obtain ⟨o, e, l⟩ := vl.sub _ _ h1
      cases l; exact e
    refine ⟨q, vs, rfl, .inr (SqL.of h1'), n1, G1, pr.step st vl (by have := pr.lim; omega), fun us H2 G2 n2 l hn2 st2 vl2 hl dn => ?_⟩
    subst hl
    exact k _ H2 G2 n2 _ (by omega) (st.trans st2) vl2 rfl (by rw [List.map_append]; exact denAll_app ((denAll_of h2 hz).sub st2.g) dn)⟩
/-- while t: body -/
theorem s_while (m0 : Nat) (I : Nat → List Ent → Prop) (Sb : Nat → List Ent → Bool → Prop) (h0 : I m0 Γ) (ht : ∀ m Γ', I m Γ' → Tv X B Γ' c0 t (Sb m Γ'))
    (hb : ∀ m Γ', I m Γ' → Sb m Γ' true → Sv X B Γ' c1 body { O with nx := fun Γ2 => ∃ m', m' < m ∧ I m' Γ2, ct := fun Γ2 => ∃ m', m' < m ∧ I m' Γ2, bk := O.nx }) (hx : ∀ m Γ', I m Γ' → Sb m Γ' false → O.nx Γ')
    (hp : PassesOwn (model X.prog X.w) X.A X.env X.xe := by exact PassesOwn.never) : S1 X B Γ ((m0 + 1) * (c0 + c1)) (.While t body [] pos) O := by
  have pt : PT X t (fun σ H Q => ∃ m Γ', I m Γ' ∧ tTv X.K B Γ' c0 (Sb m Γ') σ H Q) := ⟨fun pins s σ H Q J ⟨m, Γ', h1, h2⟩ => (ht m Γ' h1).run pins s σ H Q J h2⟩
  have pb : PSs X body (fun D σ H => ∃ m Γ', I m Γ' ∧ Sb m Γ' true ∧ tSt X.K B Γ' c1 { O with nx := fun Γ2 => ∃ m', m' < m ∧ I m' Γ2, ct := fun Γ2 => ∃ m', m' < m ∧ I m' Γ2, bk := O.nx } D σ H) :=
    ⟨fun pins s σ H D J ⟨m, Γ', h1, h2, h3⟩ => (hb m Γ' h1 h2).run pins s σ H D J h3⟩
  refine ps_mono (ps_while hp pt pb) fun D σ H ⟨n, G, pr, k1, k2, k3, k4⟩ => ?_
  have l0 := pr.lim
  refine ⟨fun m σ1 H1 => ∃ Γ1 n1 G1, I m Γ1 ∧ n1 + (m + 1) * (c0 + c1) ≤ n + (m0 + 1) * (c0 + c1) ∧ Ok X.K B.H Γ1 G1 σ1 H1 ∧ Val n1 G1 H1 ∧ Ste B.G B.H G1 H1 ∧ Sub G G1, ⟨m0, Γ, n, G, h0, Nat.le_refl _, pr.ok, pr.val, pr.ste, .refl _⟩, ?_⟩
  rintro m σ1 H1 ⟨Γ1, n1, G1, hI, hn1, ok1, v1, st1, sg1⟩
  have one : (m + 1) * (c0 + c1) = m * (c0 + c1) + (c0 + c1) := Nat.succ_mul _ _
  refine ⟨m, Γ1, hI, n1, G1, ⟨ok1, v1, st1, by omega⟩, fun b H2 G2 n2 hn2 st2 v2 hS => ?_⟩
  cases b with
  | false =>
    refine iteF ?_
    exact k1.go Γ1 σ1 H2 G2 n2 (hx m Γ1 hI hS) (by omega) (ok1.step st2) v2 (st1.trans st2) (sg1.trans st2.g)
  | true =>
    refine iteT ?_
    have next : ∀ m' Γ3 σ3 H3 G3 n3, m' < m → I m' Γ3 → n3 ≤ n2 + c1 → Ok X.K B.H Γ3 G3 σ3 H3 → Val n3 G3 H3 → Ste B.G B.H G3 H3 → Sub G2 G3 → ∃ m', m' < m ∧ ∃ Γ1 n1 G1, I m' Γ1 ∧ n1 + (m' + 1) * (c0 + c1) ≤ n + (m0 + 1) * (c0 + c1) ∧ Ok X.K B.H Γ1 G1 σ3 H3 ∧ Val n1 G1 H3 ∧ Ste B.G B.H G1 H3 ∧ Sub G G1 := fun m' Γ3 σ3 H3 G3 n3 hm h1 h2 h3 h4 h5 h6 => by
      refine ⟨m', hm, Γ3, n3, G3, h1, ?_, h3, h4, h5, sg1.trans (st2.g.trans h6)⟩
      have : (m' + 1) * (c0 + c1) ≤ m * (c0 + c1) := Nat.mul_le_mul_right _ hm
      omega
    refine ⟨fun σ3 H3 => ∃ m', m' < m ∧ ∃ Γ1 n1 G1, I m' Γ1 ∧ n1 + (m' + 1) * (c0 + c1) ≤ n + (m0 + 1) * (c0 + c1) ∧ Ok X.K B.H Γ1 G1 σ3 H3 ∧ Val n1 G1 H3 ∧ Ste B.G B.H G1 H3 ∧ Sub G G1, fun σ3 H3 h => h, m, Γ1, hI, hS, n2, G2, ⟨ok1.step st2, v2, st1.trans st2, by omega⟩, ?_, ?_, ?_, ?_⟩
    · exact ⟨fun Γ3 σ3 H3 G3 n3 ⟨m', hm, h1⟩ h2 h3 h4 h5 h6 => next m' Γ3 σ3 H3 G3 n3 hm h1 h2 h3 h4 h5 h6⟩
    · exact ⟨fun Γ3 σ3 H3 G3 n3 h1 h2 h3 h4 h5 h6 => k1.go Γ3 σ3 H3 G3 n3 h1 (by omega) h3 h4 h5 (sg1.trans (st2.g.trans h6))⟩
    · exact ⟨fun Γ3 σ3 H3 G3 n3 ⟨m', hm, h1⟩ h2 h3 h4 h5 h6 => next m' Γ3 σ3 H3 G3 n3 hm h1 h2 h3 h4 h5 h6⟩
    · exact fun v H3 G3 n3 r hn st vl hr d => k4 v H3 G3 n3 r (by omega) st vl hr d
end
end DL
end

section
set_option Elab.async false
set_option linter.all false
set_option maxRecDepth 100000
set_option maxHeartbeats 4000000
set_option autoImplicit false
/-! DnH: sorted(set(xs)), xs a list of tuples. -/
namespace DL
open PySem PySem.Spec PyProof.Rows L2 PySem.W PySem.SeqAt
variable [Wd]
theorem key_inj {α : Type} [DecidableEq α] [Datum α] [NK α] {x y : α} (h : NK.key x = NK.key y) : x = y := by
  have e : Datum.toD x = Datum.toD y := by rw [← NK.data x, ← NK.data y, h]
  have z := Datum.eqv x y
  rw [e, Datum.eqv y y] at z
  simpa using z
theorem once_map {α β : Type} [DecidableEq α] [DecidableEq β] {f : α → β} (hf : ∀ x y, f x = f y → x = y) (xs : List α) : once (xs.map f) = (once xs).map f := by
  have : ∀ (ys acc : List α), (ys.map f).foldl addK (acc.map f) = (ys.foldl addK acc).map f := by
    intro ys
    induction ys with
    | nil => intro acc; rfl
    | cons y ys ih =>
      intro acc
      have e : addK (acc.map f) (f y) = (addK acc y).map f := by
        unfold addK
        by_cases h : y ∈ acc
        · rw [if_pos h, if_pos (List.mem_map.mpr ⟨y, h, rfl⟩)]
        · rw [if_neg h, if_neg (fun z => by
            obtain ⟨x, h1, h2⟩ := List.mem_map.mp z
            exact h (hf x y h2 ▸ h1)), List.map_append]
          rfl
      show (ys.map f).foldl addK (addK (acc.map f) (f y)) = _
      rw [e]
      exact ih (addK acc y)
  exact this xs []
section
variable {X : Cx} {B : Bs} {Γ : List Ent} {c : Nat} {e : Expr} {p p2 q pos : Pos} {α : Type} [DecidableEq α] [DatumOrd α] [NK α] {xs : List α}
/-- the rows that a list of keys gives -/
theorem rows_of {K : PySem.W.Frag} {G : Hp} (htup : ∀ x : α, ∃ ds, Datum.toD x = .tuple ds) : ∀ {vs : List V} {xs : List α}, DqAll K G vs (xs.map Datum.toD) → ∃ U : KL, vs = U.map (fun q => V.ref q.1) ∧ U.map (·.2) = xs.map NK.key ∧ ∀ q ∈ U, Dq K G (.ref q.1) q.2.data
  | _, [], .nil => ⟨[], rfl, rfl, fun _ h => by cases h⟩
  | _, x :: xs, .cons h t => by
    obtain ⟨U, h1, h2, h3⟩ := rows_of htup t
    obtain ⟨ds, e⟩ := htup x
    rw [e] at h
    cases h with
    | @tup a _ _ hs ha =>
      refine ⟨(a, NK.key x) :: U, by rw [h1]; rfl, by rw [List.map_cons, List.map_cons, h2], fun q hq => ?_⟩
      rcases List.mem_cons.mp hq with z | z
      · rw [z]
        show Dq K G (.ref a) (NK.key x).data
        rw [NK.data, e]
        exact .tup hs ha
      · exact h3 q z
theorem refs_are : ∀ {U : KL} {us : List Value}, Vals (U.map fun q => V.ref q.1) us → us = U.map fun q => Value.ref q.1
  | [], _, .nil => rfl
  | q :: U, _, .cons r t => by
    have e : _ = Value.ref q.1 := r
    rw [List.map_cons, refs_are (U := U) t, e]
/-- what a member of the set is -/
def RdK (K : PySem.W.Frag) (G : Hp) (v : Value) (b : α) : Prop := ∃ ad, v = .ref ad ∧ Dq K G (.ref ad) (Datum.toD b)
theorem rdk_all {K : PySem.W.Frag} {G : Hp} : ∀ {us : List Value} {bs : List α}, EachIs (RdK K G) us bs → ∃ ys, Vals ys us ∧ DqAll K G ys (bs.map Datum.toD)
  | _, _, .nil => ⟨[], .nil, .nil⟩
  | _, _, .cons ⟨ad, e, d⟩ t => by
    obtain ⟨ys, h1, h2⟩ := rdk_all t
    exact ⟨V.ref ad :: ys, .cons e h1, .cons d h2⟩
theorem each_key : ∀ bs : List α, EachIs (fun (kk : NestedKey) (b : α) => kk = NK.key b) (bs.map NK.key) bs
  | [] => .nil
  | b :: bs => .cons rfl (each_key bs)
theorem key_rows {K : PySem.W.Frag} {G : Hp} : ∀ {L : KL} {cs : List α}, (∀ q ∈ L, Dq K G (.ref q.1) q.2.data) → EachIs (fun (kk : NestedKey) (b : α) => kk = NK.key b) (L.map (·.2)) cs → EachIs (RdK K G) (L.map fun q => Value.ref q.1) cs
  | [], [], _, .nil => .nil
  | q :: L, b :: cs, h, .cons e t => .cons ⟨q.1, rfl, by
      have := h q List.mem_cons_self
      rw [show q.2 = NK.key b from e, NK.data] at this
      exact this⟩ (key_rows (fun r hr => h r (List.mem_cons_of_mem _ hr)) t)
theorem ev_sortedSetN (hu : Hu X) (hc : X.calm = true) (hm : X.mg "sorted" = none) (hm2 : X.mg "set" = none) (h : Ev X B Γ c e (Sd (dt xs))) (hz : xs.length < 63) (htup : ∀ x : α, ∃ ds, Datum.toD x = .tuple ds := by exact fun _ => ⟨_, rfl⟩) (hdp : NK.dp α ≤ 8 := by first | decide | exact Nat.le_of_ble_eq_true rfl) (hdd : Datum.depth α ≤ 8 := by first | decide | exact Nat.le_of_ble_eq_true rfl)
    (hg : Gl X "sorted" := by rfl) (hg2 : Gl X "set" := by rfl) (na : starEach [e] X.env = (false, eval e X.env) :: starEach [] X.env := by rfl) :
    Ev X B Γ c (.Call (.Name "sorted" p) [.Call (.Name "set" p2) [e] [] q] [] pos) (So (dt (sset xs))) := by
  refine ⟨fun pins s σ H Q I ⟨n, G, pr, k⟩ => ?_⟩
  have hu' : X.A.units + 64 < cLine := hu
  refine Call_ (ld_blt I hg hm boot_sorted (PyProof.Rows.callWith_builtin1 (PyProof.Rows.args_cons ?_ rfl) rfl rfl))
  refine Call_ (ld_blt I hg2 hm2 boot_set ?_)
  refine PyProof.Rows.callWith_type1 (PyProof.Rows.args_cons (thn (h.run pins s σ H _ I ⟨n, G, pr, fun v H1 G1 n1 r hn st vl hS hr => (⟨G1, n1, hn, st, vl, by cases hS; cases hr; assumption⟩ : ∃ G1 n1, n1 ≤ n + c ∧ Ste G H G1 H1 ∧ Val n1 G1 H1 ∧ Den X.K G1 v (dt xs))⟩) fun v s1 ⟨x, H1, I1, r1, G1, n1, hn, st, vl, den⟩ => PyProof.Rows.args_nil ?_) na) na rfl
  obtain ⟨a, vs, rfl, ha, hv⟩ := dp_list den.dp
  obtain rfl : v = Value.ref a := r1
  obtain ⟨its, rv, hl, _⟩ := I1.list (SqL.of (vl.sub.lst ha))
  obtain ⟨U, u1, u2, u3⟩ := rows_of htup hv
  subst u1
  have e1 := refs_are rv
  subst e1
  have ulen : U.length = xs.length := by rw [← List.length_map (f := fun q : Addr × NestedKey => q.2), u2, List.length_map]
  have hU : ∀ r ∈ U, AtK X.prog X.w s1.heap r.2 r.1 := fun r hr => ⟨nk_is I1 _ _ _ (dp_sub vl.sub (u3 r hr)) rfl, by
    have : r.2 ∈ xs.map NK.key := by rw [← u2]; exact List.mem_map.mpr ⟨r, hr, rfl⟩
    obtain ⟨y, _, e⟩ := List.mem_map.mp this
    rw [← e]
    exact Nat.le_trans (NK.dep y) hdp⟩
  refine call_set_of (G := NkG X.w U) (ks := xs.map NK.key) (I1.ok.hd hc) hl.isList (by simp [ulen]) ?_ ?_ ?_
  · exact ⟨[], ⟨rfl, ⟨List.Pairwise.nil, rfl, rfl, .inl rfl, fun x hx => (by cases hx), fun i h j hi => (by simp [keyHs] at hi)⟩, List.nodup_nil, by show 0 * 5 < 7 * 3; decide, by show 0 < 64; decide⟩, .refl _, fun _ h => (by cases h), List.nodup_nil⟩
  · intro A' s2 j v k0 l0 Q' E' _ hA hj hk hlj kp S qq
    have hj' : (U.map fun r => Value.ref r.1)[j]? = some v := by
      have : (U.map fun r => Value.ref r.1).toArray[j]? = some v := hj
      rwa [List.getElem?_toArray] at this
    rw [List.getElem?_map] at hj'
    rw [← u2, List.getElem?_map] at hk
    cases e : U[j]? with
    | none => rw [e] at hj'; cases hj'
    | some r =>
      rw [e] at hj' hk
      cases hj'; cases hk
      have jl : j < U.length := (List.getElem?_eq_some_iff.mp e).1
      have hU2 : ∀ r ∈ U, AtK X.prog X.w s2.heap r.2 r.1 := fun r hr => nestedKind_stays.stays (fun b o vs n h1 _ => kp b o h1) (hU r hr)
      unfold setAdd
      refine wpAny_holding (wpAny_bind ((nestedKind X.prog X.w).pyHash (show A'.units + 8 < cLine by omega) (hU2 r (List.mem_of_getElem? e)) ?_))
      exact add_nk (s := { s2 with toks := s2.toks + (nestedKind X.prog X.w).draws r.2 }) S hU2 (List.mem_of_getElem? e) (by omega) (by omega) fun b h' sb S2 => qq b h' _ (Nat.le_add_right _ _) sb S2
  · intro h' tk S kp
    refine PyProof.Rows.args_nil ?_
    have rd : ∀ (h2 : Heap) (v : Value) (b : α), (∀ b o, h'.get? b = some o → h2.get? b = some o) → RdK X.K G1 v b → ∃ as, Reads h2 v (Datum.toD b) as := fun h2 v b kk ⟨ad, e, dq⟩ => by
      subst e
      obtain ⟨as, r⟩ := Dp.reads I1 _ (.ref ad) (Value.ref ad) (dp_sub vl.sub dq).dp rfl
      exact ⟨as, PyProof.Rows.Reads.keeps (fun b o z => kk b o (kp b o z)) r⟩
    refine sorted_setW (s := { s1 with heap := h', toks := tk }) (l := once xs) S (I1.ok.hd hc) (by show X.A.units + 4 + Datum.depth α < cLine; omega) (R := RdK X.K G1) (fun es t ⟨L, T, pl, sub, _⟩ => ?_) rd fun s2 p out c2 k2 g2 o2 hp hL eo => ?_
    · rw [once_map fun _ _ => key_inj] at pl
      obtain ⟨cs, pc, ec⟩ := each_perm pl (each_key (once xs))
      refine ⟨cs, pc, ?_⟩
      rw [T.rows]
      have := key_rows (fun r hr => u3 r (sub r hr)) ec
      unfold keyEs
      rw [List.map_map]
      exact this
    · have hlt : ∀ b o, s1.heap.get? b = some o → s2.heap.get? b = some o := fun b o e => k2 b o (kp b o e)
      have hp1 : s1.heap.objs.size ≤ p := by
        have z := Heap.lt_size hL
        rcases Nat.lt_or_ge p s1.heap.objs.size with y | y
        · have : s1.heap.objs.size ≤ h'.objs.size := by
            obtain ⟨o, ho, _⟩ := S
            exact Nat.le_of_lt (Heap.lt_size ho)
          exact absurd (Nat.lt_of_lt_of_le y this) (Nat.not_lt_of_le hp)
        · exact y
      have hn1 : H1 p = none := I1.hok.fresh hp1
      obtain ⟨ys, v1, v2⟩ := rdk_all eo
      have hln : ys.length ≤ sizeLine := by
        have e1 := dpAll_len v2
        rw [List.length_map, (srt_perm _).length_eq] at e1
        have := once_len xs
        rw [sizeLine_eq]; omega
      have J : Inv X pins σ (upd H1 p (.lst ys)) { s1 with heap := s2.heap, gens := s2.gens, drawn := s2.drawn, toks := s2.toks } :=
        I1.call (ch := []) (Un.laid hlt hp1 hn1) (I1.hok.laid hlt hp1 ⟨hln, out, c2, v1, hL⟩) (by rw [g2]; exact I1.bare) (fun _ z => nomatch z)
      have e : s2 = { s1 with heap := s2.heap, gens := s2.gens, drawn := s2.drawn, toks := s2.toks } := by
        cases s2
        cases s1
        cases o2
        rfl
      rw [e]
      obtain ⟨s3, v3⟩ := Ste.new (o := .lst ys) vl hn1 trivial
      exact ⟨.ref p, _, J, rfl, k _ _ G1 n1 _ hn (st.trans s3) v3 rfl ((Res.newL vl hn1 (.py v2)).base st.h)⟩
end
end DL
end

section
set_option Elab.async false
set_option linter.all false
set_option maxRecDepth 100000
set_option maxHeartbeats 4000000
set_option autoImplicit false
/-! DnI: sorted(dict(xs)), xs a list of pairs whose keys are tuples. -/
namespace DL
open PySem PySem.Spec PyProof.Rows L2 PySem.W PySem.SeqAt
variable [Wd]
/-- the pairs of a list: where each stands, its key, where that stands, its value -/
structure Pr where
  t : Addr
  b : Addr
  k : NestedKey
  u : Value
section
variable {α β : Type} [DecidableEq α] [Datum α] [NK α] [DecidableEq β] [Datum β]
theorem pairs_of {X : Cx} {pins : List (Addr × Obj)} {σ : L2.St} {G H : Hp} {s : Shared} (I : Inv X pins σ H s) (sb : LSub G H) (htup : ∀ x : α, ∃ ds, Datum.toD x = .tuple ds) :
    ∀ {vs : List V} {us : List Value} {xs : List (α × β)}, DqAll X.K G vs (xs.map Datum.toD) → Vals vs us → ∃ R : List Pr, us = R.map (fun r => Value.ref r.t) ∧ R.map (·.k) = xs.map (fun x => NK.key x.1) ∧ ∀ r ∈ R, s.heap.IsTuple r.t #[.ref r.b, r.u] ∧ Dq X.K G (.ref r.b) r.k.data
  | _, _, [], .nil, .nil => ⟨[], rfl, rfl, fun _ h => by cases h⟩
  | _, _, x :: xs, .cons h t, .cons r rs => by
    obtain ⟨R, h1, h2, h3⟩ := pairs_of I sb htup t rs
    obtain ⟨a, v1, v2, rfl, hs, d1, d2⟩ := dp_pair h
    obtain ⟨ds, e⟩ := htup x.1
    have d1' := d1
    rw [e] at d1'
    cases d1' with
    | @tup b _ _ hb _ =>
      obtain ⟨its, rv, ⟨o, ho, hc, n, hd⟩, _⟩ := I.tuple (sb.sqT hs)
      cases rv with | cons q1 rv =>
      cases rv with | cons q2 rv =>
      cases rv
      have e1 : _ = Value.ref b := q1
      subst e1
      rename_i u2
      have e2 : _ = Value.ref a := r
      refine ⟨⟨a, b, NK.key x.1, u2⟩ :: R, by rw [List.map_cons, ← h1, e2], by rw [List.map_cons, List.map_cons, h2], fun r hr => ?_⟩
      rcases List.mem_cons.mp hr with z | z
      · subst z
        refine ⟨⟨o, ho, hc, n, hd⟩, ?_⟩
        show Dq X.K G (.ref b) (NK.key x.1).data
        rw [NK.data]; exact d1
      · exact h3 r z
end
/-- the keys of what is stored one by one -/
theorem stored_keys : ∀ (ps acc : List (NestedKey × Addr × Value)), (acc.map (·.1)).Nodup → (storedAllH acc ps).map (·.1) = (ps.map (·.1)).foldl addK (acc.map (·.1)) ∧ ∀ y ∈ storedAllH acc ps, (∃ z ∈ acc, y.1 = z.1 ∧ y.2.1 = z.2.1) ∨ ∃ z ∈ ps, y.1 = z.1 ∧ y.2.1 = z.2.1
  | [], acc, _ => ⟨rfl, fun y hy => .inl ⟨y, hy, rfl, rfl⟩⟩
  | p :: ps, acc, nd => by
    have key : (storedH acc p.1 p.2.1 p.2.2).map (·.1) = addK (acc.map (·.1)) p.1 := by
      unfold addK
      cases q : atKey acc p.1 with
      | none =>
        rw [storedH_new q]
        have : p.1 ∉ acc.map (·.1) := fun z => by
          obtain ⟨y, hy, e⟩ := List.mem_map.mp z
          obtain ⟨i, hi⟩ := List.mem_iff_getElem?.mp hy
          have := atKey_of_get nd (k := p.1) (p := y.2) (by rw [hi, ← e])
          rw [q] at this; cases this
        rw [if_neg this, List.map_append]; rfl
      | some v =>
        rw [storedH_old q, keys_map_putAt]
        have : p.1 ∈ acc.map (·.1) := by
          unfold atKey at q
          cases f : acc.find? (fun x => decide (x.1 = p.1)) with
          | none => rw [f] at q; cases q
          | some y => exact List.mem_map.mpr ⟨y, List.mem_of_find?_eq_some f, by have := List.find?_some f; simpa using this⟩
        rw [if_pos this]
    obtain ⟨h1, h2⟩ := stored_keys ps (storedH acc p.1 p.2.1 p.2.2) (by rw [key]; exact addK_nodup nd)
    refine ⟨?_, fun y hy => ?_⟩
    · show (storedAllH (storedH acc p.1 p.2.1 p.2.2) ps).map (·.1) = (ps.map (·.1)).foldl addK (addK (acc.map (·.1)) p.1)
      rw [← key]; exact h1
    · rcases h2 y hy with ⟨z, hz, e1, e2⟩ | ⟨z, hz, e1, e2⟩
      · cases q : atKey acc p.1 with
        | none =>
          rw [storedH_new q] at hz
          rcases List.mem_append.mp hz with w | w
          · exact .inl ⟨z, w, e1, e2⟩
          · rw [List.mem_singleton.mp w] at e1 e2
            exact .inr ⟨p, List.mem_cons_self, e1, e2⟩
        | some v =>
          rw [storedH_old q] at hz
          obtain ⟨z', w, e⟩ := List.mem_map.mp hz
          refine .inl ⟨z', w, ?_, ?_⟩
          · rw [e1, ← e]; unfold putAt; split <;> rfl
          · rw [e2, ← e]; unfold putAt; split <;> rfl
      · exact .inr ⟨z, List.mem_cons_of_mem _ hz, e1, e2⟩
section
variable {X : Cx} {B : Bs} {Γ : List Ent} {c : Nat} {e : Expr} {p p2 q pos : Pos} {α β : Type} [DecidableEq α] [DatumOrd α] [NK α] [DecidableEq β] [Datum β] {xs : List (α × β)}
theorem ev_sortedDictN (hu : Hu X) (hc : X.calm = true) (hm : X.mg "sorted" = none) (hm2 : X.mg "dict" = none) (h : Ev X B Γ c e (Sd (dt xs))) (hz : xs.length ≤ sizeLine) (htup : ∀ x : α, ∃ ds, Datum.toD x = .tuple ds := by exact fun _ => ⟨_, rfl⟩) (hdp : NK.dp α ≤ 8 := by first | decide | exact Nat.le_of_ble_eq_true rfl) (hdd : Datum.depth α ≤ 8 := by first | decide | exact Nat.le_of_ble_eq_true rfl)
    (hg : Gl X "sorted" := by rfl) (hg2 : Gl X "dict" := by rfl) (na : starEach [e] X.env = (false, eval e X.env) :: starEach [] X.env := by rfl) :
    Ev X B Γ c (.Call (.Name "sorted" p) [.Call (.Name "dict" p2) [e] [] q] [] pos) (So (dt (sset (xs.map (·.1))))) := by
  refine ⟨fun pins s σ H Q I ⟨n, G, pr, k⟩ => ?_⟩
  have hu' : X.A.units + 64 < cLine := hu
  refine Call_ (ld_blt I hg hm boot_sorted (PyProof.Rows.callWith_builtin1 (PyProof.Rows.args_cons ?_ rfl) rfl rfl))
  refine Call_ (ld_blt I hg2 hm2 boot_dict ?_)
  refine PyProof.Rows.callWith_type1 (PyProof.Rows.args_cons (thn (h.run pins s σ H _ I ⟨n, G, pr, fun v H1 G1 n1 r hn st vl hS hr => (⟨G1, n1, hn, st, vl, by cases hS; cases hr; assumption⟩ : ∃ G1 n1, n1 ≤ n + c ∧ Ste G H G1 H1 ∧ Val n1 G1 H1 ∧ Den X.K G1 v (dt xs))⟩) fun v s1 ⟨x, H1, I1, r1, G1, n1, hn, st, vl, den⟩ => PyProof.Rows.args_nil ?_) na) na rfl
  obtain ⟨a, vs, rfl, ha, hv⟩ := dp_list den.dp
  obtain rfl : v = Value.ref a := r1
  obtain ⟨its, rv, hl, _⟩ := I1.list (SqL.of (vl.sub.lst ha))
  obtain ⟨R, r1, r2, r3⟩ := pairs_of I1 vl.sub htup hv rv
  subst r1
  have rlen : R.length = xs.length := by rw [← List.length_map (f := fun r : Pr => r.k), r2, List.length_map]
  have hR : ∀ r ∈ R, AtK X.prog X.w s1.heap r.k r.b := fun r hr => ⟨nk_is I1 _ _ _ (dp_sub vl.sub (r3 r hr).2) rfl, by
    have : r.k ∈ xs.map (fun x => NK.key x.1) := by rw [← r2]; exact List.mem_map.mpr ⟨r, hr, rfl⟩
    obtain ⟨y, _, e⟩ := List.mem_map.mp this
    rw [← e]
    exact Nat.le_trans (NK.dep y.1) hdp⟩
  let ps : List (Value × Value) := R.map fun r => (Value.ref r.b, r.u)
  let psH : List (NestedKey × Addr × Value) := R.map fun r => (r.k, r.b, r.u)
  let us : Array Value := (R.map fun r => Value.ref r.t).toArray
  have hl' : PlainSeq "list" s1.heap a us := hl
  let Ts : Nat → Addr := fun j => (R[j]?.map (·.t)).getD 0
  have psl : ps.length = R.length := List.length_map ..
  have good : PairItems s1.heap us Ts ps := by
    refine ⟨by simp [ps, us], fun j kk v hj => ?_⟩
    have hj' : (R[j]?).map (fun r => (Value.ref r.b, r.u)) = some (kk, v) := by rw [← List.getElem?_map]; exact hj
    cases e : R[j]? with
    | none => rw [e] at hj'; cases hj'
    | some r =>
      rw [e] at hj'
      cases hj'
      have eT : Ts j = r.t := by show (R[j]?.map (·.t)).getD 0 = r.t; rw [e]; rfl
      rw [eT]
      refine ⟨by show (R.map fun r => Value.ref r.t).toArray[j]? = _; rw [List.getElem?_toArray, List.getElem?_map, e]; rfl, .inl (r3 r (List.mem_of_getElem? e)).1⟩
  refine call_dict_pairsH (knd := nestedKind X.prog X.w) (ps := psH) (PairArg.list (prog := X.prog) (w := X.w) a us Ts ps) (I1.ok.hd hc) (by show X.A.units + 1 + 1 + 8 < cLine; omega) ⟨hl', good⟩ ⟨by simp [psH, ps], fun i key v hi => ?_⟩ (fun h' hk x hx => ?_) (by rw [psl, rlen]; exact hz) fun h' tk hd kp => ?_
  · have hi' : (R[i]?).map (fun r => (Value.ref r.b, r.u)) = some (key, v) := by rw [← List.getElem?_map]; exact hi
    cases e : R[i]? with
    | none => rw [e] at hi'; cases hi'
    | some r =>
      rw [e] at hi'
      cases hi'
      exact ⟨r.k, r.b, by show (R.map fun r => (r.k, r.b, r.u))[i]? = _; rw [List.getElem?_map, e]; rfl, rfl⟩
  · obtain ⟨r, hr, e⟩ := List.mem_map.mp hx
    subst e
    exact nestedKind_stays.stays (fun b o vs n h1 _ => hk b o (Nat.ne_of_lt (Heap.lt_size h1)) (by simp) h1) (hR r hr)
  · refine PyProof.Rows.args_nil ?_
    obtain ⟨od, es, ep, ho, hx, hdat, he, _, _⟩ := hd
    obtain ⟨sk1, sk2⟩ := stored_keys psH [] List.nodup_nil
    generalize storedAllH [] psH = ST at he sk1 sk2
    have keys : ST.map (·.1) = (once (xs.map (·.1))).map NK.key := by
      rw [sk1, ← once_map (f := (NK.key : α → NestedKey)) fun _ _ => key_inj]
      show once (psH.map (·.1)) = _
      have : psH.map (·.1) = (xs.map (·.1)).map NK.key := by
        show (R.map fun r => (r.k, r.b, r.u)).map (·.1) = _
        rw [List.map_map, List.map_map]
        exact r2
      rw [this]
    have stl : ST.length ≤ xs.length := by
      rw [← List.length_map (f := fun y : NestedKey × Addr × Value => y.1), keys, List.length_map]
      have := once_len (xs.map (·.1))
      rwa [List.length_map] at this
    have esl : es.size = ST.length := by rw [← Array.length_toList, he, List.length_map]
    have lo : (s1.heap.objs.size == sysModules) = false := beq_eq_false_iff_ne.mpr (Ne.symm (Nat.ne_of_lt I1.big))
    refine Calls.call_function_entry kind_sorted plain_sorted entry_sorted (args_sorted1 _) ?_
    unfold Builtin.«sorted»
    refine wpAny_bind (m := checkCount "sorted" 1 1 _) (wpAny_pure ?_)
    refine wpAny_bind (kdu_collect (A := X.A.in1) (KdlSrc.rawDict (es := es) (ep := ep) lo) (I1.ok.hd hc) ⟨od, ho, hx, hdat⟩ (by omega) fun h2 tk2 acc k2 hacc => ?_)
    have accE : acc.toList = (ST.map fun y => (y.2.1, y.1)).map fun r => Value.ref r.1 := by
      apply List.ext_getElem?
      intro j
      have al : acc.size = ST.length := hacc.1.trans esl
      rw [List.getElem?_map, List.getElem?_map]
      by_cases hj : j < ST.length
      · have e1 : acc.toList[j]? = some (acc[j]'(by omega)) := by rw [Array.getElem?_toList]; exact Array.getElem?_eq_getElem (by omega)
        obtain ⟨hi, e2⟩ := hacc.2 j _ (Array.getElem?_eq_getElem (by omega))
        have e3 : es.toList[j]? = some es[j] := by rw [Array.getElem?_toList]; exact Array.getElem?_eq_getElem hi
        rw [he, List.getElem?_map, List.getElem?_eq_getElem hj] at e3
        have e4 := Option.some.inj e3
        rw [e1, e2, ← e4, List.getElem?_eq_getElem hj]
        rfl
      · rw [List.getElem?_eq_none (by rw [Array.length_toList]; omega), List.getElem?_eq_none (by omega)]
        rfl
    have rows : ∀ r ∈ ST.map fun y => (y.2.1, y.1), Dq X.K G1 (.ref r.1) r.2.data := fun r hr => by
      obtain ⟨y, hy, e⟩ := List.mem_map.mp hr
      subst e
      rcases sk2 y hy with ⟨z, hz, _⟩ | ⟨z, hz, e1, e2⟩
      · cases hz
      · obtain ⟨r0, h0, e0⟩ := List.mem_map.mp hz
        subst e0
        show Dq X.K G1 (.ref y.2.1) y.1.data
        rw [e1, e2]
        exact (r3 r0 h0).2
    have each := key_rows (α := α) (cs := once (xs.map (·.1))) rows (by
      rw [List.map_map]
      show EachIs _ (ST.map (·.1)) _
      rw [keys]
      exact each_key _)
    rw [← accE] at each
    have vlen : acc.toList.length ≤ sizeLine := by rw [accE, List.length_map, List.length_map]; omega
    generalize acc.toList = ws at each vlen
    have old2 : ∀ b u, s1.heap.get? b = some u → h2.get? b = some u := fun b u e => k2 b u (kp b u (by simp) e)
    refine wpAny_bind (wpAny_newList ?_ vlen)
    have hL : (h2.push (seqObj "list" ws.toArray 0)).get? h2.objs.size = some (seqObj "list" ws.toArray 0) := Heap.get?_push_size _ rfl
    have old : ∀ b u, s1.heap.get? b = some u → (h2.push (seqObj "list" ws.toArray 0)).get? b = some u := fun b u e => Heap.get?_push_of_some _ (old2 b u e)
    have below : ∀ b u, s1.heap.get? b = some u → b ≠ h2.objs.size := fun b u e => Nat.ne_of_lt (Heap.lt_size (old2 b u e))
    have rd : ∀ (h3 : Heap) (v : Value) (b : α), (∀ b o, s1.heap.get? b = some o → h3.get? b = some o) → RdK X.K G1 v b → ∃ as, Reads h3 v (Datum.toD b) as := fun h3 v b kk ⟨ad, e, dq⟩ => by
      subst e
      obtain ⟨as, r⟩ := Dp.reads I1 _ (.ref ad) (Value.ref ad) (dp_sub vl.sub dq).dp rfl
      exact ⟨as, PyProof.Rows.Reads.keeps (fun b o z => kk b o z) r⟩
    refine wpAny_bind (wpAny_holding (sort_ord (s := { s1 with heap := h2.push (seqObj "list" ws.toArray 0), toks := tk2 }) hL each (each.mono fun v b q => rd _ v b (fun b u e => sortingHeap_old (below b u e) (old b u e)) q) (by rw [← each.length]; exact vlen) (by show X.A.units + 1 + 1 + Datum.depth α < cLine; omega) fun out ol eo => ?_))
    obtain ⟨c2, hc2⟩ := sortedHeap_at (vs := ws) (out := out.toArray) hL
    obtain ⟨ys, v1, v2⟩ := rdk_all eo
    have hp1 : s1.heap.objs.size ≤ h2.objs.size := Nat.le_of_lt (Heap.lt_size (k2 _ _ ho))
    have hn1 : H1 h2.objs.size = none := I1.hok.fresh hp1
    have hln : ys.length ≤ sizeLine := by
      have e1 := dpAll_len v2
      rw [List.length_map, (srt_perm _).length_eq] at e1
      have := once_len (xs.map (·.1))
      rw [List.length_map] at this
      omega
    have hlt : ∀ b o, s1.heap.get? b = some o → (sortedHeap (h2.push (seqObj "list" ws.toArray 0)) h2.objs.size ws out.toArray).get? b = some o := fun b u e => (sortedHeap_old (below b u e) (Heap.lt_size (old b u e))).trans (old b u e)
    have J := I1.laid (o := .lst ys) (t' := tk2) hlt hp1 ⟨hln, out, c2, v1, hc2⟩
    obtain ⟨s3, v3⟩ := Ste.new (o := .lst ys) vl hn1 trivial
    exact wpAny_pure ⟨_, rfl, .ref h2.objs.size, _, J, rfl, k _ _ G1 n1 _ hn (st.trans s3) v3 rfl ((Res.newL vl hn1 (.py v2)).base st.h)⟩
end
end DL
end

section
set_option Elab.async false
set_option linter.all false
set_option maxRecDepth 100000
set_option maxHeartbeats 4000000
set_option autoImplicit false
/-! DnJ: own dicts with text keys: {}, d[k] = v. -/
namespace DL
open PySem PySem.Spec PyProof.Rows L2 PySem.W PySem.SeqAt
variable [Wd]
section
variable {X : Cx} {B : Bs} {Γ : List Ent} {c c1 c2 c3 : Nat} {e b : Expr} {p p3 pos : Pos} {O : Out} {rest : List Stmt} {α : Type} [DecidableEq α] [Datum α] {kvs : List (Str × α)} {key : Str} {y : α}
/-- {}, an own dict -/
theorem ev_dict0 : Ev X B Γ 0 (.Dict [] [] pos) (So (mpS ([] : List (Str × α)))) := pe_mono pe_dnewK fun σ H Q ⟨n, G, pr, k⟩ a ha => by
  obtain ⟨s1, v1⟩ := Ste.new (o := .dK []) pr.val ha trivial
  exact k (.ref a) _ G n _ (Nat.le_refl _) s1 v1 rfl (.ow ha (pr.val.sub.out ha) upd_same (.dct .nil))
/-- d[key] = value, d an own dict -/
theorem sv_putD (i : Nat) {x : Str} (hu : Hu X) (hΓ : Γ[i]? = some (.ow (mpS kvs))) (hk : Ev X B Γ c2 b (Sd (dt key))) (hv : Ev X B Γ c1 e (Sd (dt y))) (hz : kvs.length < sizeLine) (k : Sv X B (Γ.set i (.ow (mpS (putS kvs key y)))) c3 rest O)
    (hN : X.N[i]? = some x := by rfl) (hvis : Vis X.env.scope x := by first | exact Or.inl rfl | exact Or.inr (Or.inl rfl) | exact Or.inr (Or.inr rfl)) (hd : (x == ("__debug__" : Str)) = false := by decide) (hcd : (x == ("__classdict__" : Str)) = false := by decide)
    (hs : swapsWith e (some (.Subscript (.Name x p) b p3)) pos.line X.env = pure false := by rfl) : Sv X B Γ (c1 + c2 + c3) (.Assign [.Subscript (.Name x p) b p3] e pos :: rest) O :=
  sv_cons (N := fun Γ' => Γ' = Γ.set i (.ow (mpS (putS kvs key y)))) (ps_mono (ps_dput (by have : X.A.units + 64 < cLine := hu; omega) (pe_var hN hvis hd hcd) hk hv hs) fun D σ H ⟨n, G, pr, k1, k2, k3, k4⟩ => by
    have l0 := pr.lim
    refine ⟨n, G, ⟨pr.ok, pr.val, pr.ste, by omega⟩, fun v H1 G1 n1 r hn st vl hS hr => ?_⟩
    cases hS
    cases hr with | sh den =>
    have p1 := pr.step st vl (c' := c2) (by omega)
    obtain ⟨a, o, e1, _, _, _, _⟩ := p1.ok.ow i _ hΓ
    refine ⟨_, e1, n1, G1, p1, fun w H2 G2 n2 r2 hn2 st2 vl2 hS2 hr2 => ?_⟩
    cases hS2
    cases hr2 with | sh den2 =>
    have ok2 := p1.ok.step st2
    obtain ⟨a', o', f1, f2, f3, f4, f5⟩ := ok2.ow i _ hΓ
    rw [e1] at f1; cases f1
    obtain ⟨r0, rfl, dq⟩ := own_dct f5
    have ew := dp_str den2.dp
    subst ew
    refine ⟨a, _, rfl, DPut.k (k := Sum.inr key) f4 (by rw [dq.len]; exact hz), ?_⟩
    have dq2 : DqK X.K G2 (putK r0 (Sum.inr key) v) (putS kvs key y) := dq.put (den.sub st2.g).dp
    have ow' : OwAt X.K G2 (.dK (putK r0 (Sum.inr key) v)) (mpS (putS kvs key y)) := .dct dq2.den
    exact k1.go _ σ _ G2 n2 rfl (by omega) (ok2.write hΓ e1 ow') (vl2.write f3 trivial f4 id (fun k => by intro z; cases z)) ((p1.ste.trans st2).write f2) (st.g.trans st2.g)) fun Γ' q => by subst q; exact k
end
end DL
end

section
set_option Elab.async false
set_option linter.all false
set_option maxRecDepth 100000
set_option maxHeartbeats 4000000
set_option autoImplicit false
/-! DnK: told lists that are spoilt: x = [f(..), ..]; if not (as they should be): return False; x[0].append(None). -/
namespace DL
open PySem PySem.Spec PyProof.Rows L2 PySem.W PySem.SeqAt
variable [Wd]
section
variable {X : Cx} {B : Bs} {Γ : List Ent} {c1 c2 c3 c4 : Nat} {e1 t : Expr} {es : List Expr} {p p2 p3 p4 p5 p6 p7 p8 pos : Pos} {O : Out} {body rest : List Stmt} {β : Type} [DecidableEq β] [Datum β] {ys : List β} {ds : List D}
theorem sv_told (i : Nat) {x : Str} {j0 j1 : Nat} (nd : X.N.Nodup) (hil : i < Γ.length) (h1 : Ev X B Γ c1 e1 (So (dt ys))) (h2 : Av X B Γ c2 es (fun l => l = ds)) (hlen : (e1 :: es).length = ds.length + 1) (hz : ds.length < 60) (hy : ys.length < sizeLine)
    (ht : Tv X B (Γ.set i (.sh (.lst (dt ys :: ds)))) c3 t (fun b => b = false)) (hk : Sv X B (Γ.set i .no) c4 rest O)
    (hi : X.N[i]? = some x := by rfl) (hx : Loc X.env.scope x := by first | exact Or.inl rfl | exact Or.inr rfl) (hvis : Vis X.env.scope x := by first | exact Or.inl rfl | exact Or.inr (Or.inl rfl) | exact Or.inr (Or.inr rfl)) (hd : (x == ("__debug__" : Str)) = false := by decide) (hcd : (x == ("__classdict__" : Str)) = false := by decide)
    (hs : swapsWithSole [.Name x p2] (.List (e1 :: es) p3) pos.line X.env = pure false := by rfl) (hw : swappedStores [.Name x p2] (.List (e1 :: es) p3) X.env = pure none := by rfl)
    (ha1 : (assignEach [.Name x p2] X.env).map (·.2) = [assign (.Name x p2) X.env] := by rfl) (hf : X.fn x = true ∨ X.env.scope.names.lookup x = some .local := by first | exact .inl rfl | exact .inr rfl)
    (hst : starEach (e1 :: es) X.env = (false, eval e1 X.env) :: starEach es X.env := by rfl)
    (hbase : attributeBase (.Subscript (.Name x p4) (.Constant (.int 0) j0 p5) p6) "append" X.env (eval (.Subscript (.Name x p4) (.Constant (.int 0) j0 p5) p6) X.env) = eval (.Subscript (.Name x p4) (.Constant (.int 0) j0 p5) p6) X.env := by rfl)
    (hfew : ((backTo p8 (starEach [.Constant .none j1 p] X.env)).all (fun x => !x.1) && (backToKw p8 (keywordEach [] X.env)).all (fun x => x.1.isSome)
      && decide (([.Constant .none j1 p] : List Expr).length + ([] : List Keyword).length + (if ([] : List Keyword).isEmpty then 0 else 1) < 30)) = true := by rfl)
    (hline : (p7.endLine == p8.line) = true := by rfl) (hs2 : starEach [.Constant .none j1 p] X.env = (false, eval (.Constant .none j1 p) X.env) :: starEach [] X.env := by rfl) (hplain : (backTo p8 (starEach [] X.env)).any (·.1) = false := by rfl)
    {posI posE : Pos}
    (hsw : swapsWith (.Call (.Attribute (.Subscript (.Name x p4) (.Constant (.int 0) j0 p5) p6) "append" p7) [.Constant .none j1 p] [] p8) none posE.line X.env = pure false := by rfl) :
    Sv X B Γ (c1 + c2 + c3 + c4) (.Assign [.Name x p2] (.List (e1 :: es) p3) pos :: .If t body [] posI :: .Expr (.Call (.Attribute (.Subscript (.Name x p4) (.Constant (.int 0) j0 p5) p6) "append" p7) [.Constant .none j1 p] [] p8) posE :: rest) O := by
  have pA := ps_asg (pe_lst (pos := p3) (pa_cons h1 h2 hst)) (pg_name (i := i) (pos := p2) nd hi hx hf) hs hw ha1
  have pI := ps_if (pos := posI) ht (pss_never (sts := body)) pss_nil
  have pE := ps_expr (pe_bm (cpos := p8) PySem.F.plainAttrs_list PySem.F.slot_list_append PySem.F.type_list_append mt_append (pe_ix (pos := p6) ix_list (pe_var (pos := p4) hi hvis hd hcd) (pe_int (i := 0) (pos := p5)) (fun _ _ => rfl)) (pa_cons (pe_non (pos := p)) pa_nil hs2) hbase hfew hline hs2 hplain) hsw
  refine pss_mono (pss_cons pA (pss_cons pI (pss_cons pE hk))) fun D σ H ⟨n, G, pr, k1, k2, k3, k4⟩ => ?_
  have l0 := pr.lim
  refine ⟨n, G, ⟨pr.ok, pr.val, pr.ste, by omega⟩, fun v H1 G1 n1 r hn1 st1 vl1 hS hr => ?_⟩
  cases hS
  generalize er : Ent.ow (dt ys) = r at hr
  cases hr with
  | sh _ => cases er
  | @ow b o d hb0 gb hb ob =>
  injection er with er
  subst er
  obtain ⟨ws, rfl, dw⟩ := own_list ob
  refine ⟨n1, G1, pr.step st1 vl1 (by omega), fun us H2 G2 n2 l hn2 st2 vl2 hl dn => ?_⟩
  subst hl
  have hb2 : H2 b = some (.lst ws) := by
    obtain ⟨o', e, l⟩ := st2.h b _ hb
    cases l.lst; exact e
  have gb2 : G2 b = none := st2.f b _ gb hb id
  have ul := denAll_len dn
  refine ⟨by rw [List.length_cons, ul, sizeLine_eq]; omega, fun a ha => ?_⟩
  -- both lists count as shared for the test
  have ne : a ≠ b := fun z => by subst z; rw [hb2] at ha; cases ha
  have st12 := st1.trans st2
  obtain ⟨s3, v3⟩ := Ste.new (o := .lst (V.ref b :: us)) vl2 ha trivial
  have ga2 : G2 a = none := vl2.sub.out ha
  have Ha : H a = none := st12.h.out ha
  let Gs : Hp := upd (upd G2 b (.lst ws)) a (.lst (V.ref b :: us))
  have gsb : Gs b = some (.lst ws) := by show upd _ a _ b = _; rw [upd_ne ne.symm, upd_same]
  have gsa : Gs a = some (.lst (V.ref b :: us)) := upd_same
  have gso : ∀ {c : Addr}, c ≠ a → c ≠ b → Gs c = G2 c := fun {c} h1 h2 => by show upd _ a _ c = _; rw [upd_ne h1, upd_ne h2]
  have sgs : Sub G2 Gs := fun c o e => ⟨o, by rw [gso (ne_of_none e ga2) (ne_of_none e gb2)]; exact e, .refl o⟩
  have steS : Ste G H Gs (upd H2 a (.lst (V.ref b :: us))) := ⟨st12.g.trans sgs, st12.h.trans s3.h, fun c o e1 e2 e3 => by
    rw [gso (ne_of_none e2 Ha) (ne_of_none e2 hb0)]
    exact st12.f c o e1 e2 e3⟩
  have valS : Val n2 Gs (upd H2 a (.lst (V.ref b :: us))) := ⟨fun c o e => by
    by_cases z : c = a
    · subst z; rw [gsa] at e; cases e; exact ⟨_, upd_same, .refl _⟩
    · by_cases z2 : c = b
      · subst z2; rw [gsb] at e; cases e; exact ⟨_, by rw [upd_ne z]; exact hb2, .refl _⟩
      · rw [gso z z2] at e; exact v3.sub c o e, v3.pb, fun c t' e => by
    have z : c ≠ a := fun z => by subst z; rw [gsa] at e; cases e
    have z2 : c ≠ b := fun z => by subst z; rw [gsb] at e; cases e
    rw [gso z z2] at e; exact v3.mm c t' e⟩
  have den : Den X.K Gs (.ref a) (.lst (dt ys :: l)) := .lst gsa (.cons (.py (.lst gsb (dpAll_sub (st2.g.trans sgs) dw))) (dn.sub sgs))
  refine ⟨n2, Gs, ⟨(pr.ok.step steS).put den, valS, pr.ste.trans steS, by omega⟩, fun bb H4 G4 n4 hn4 st4 vl4 hS4 => ?_⟩
  subst hS4
  refine iteF ?_
  have at4 : ∀ {c : Addr} {xs : List V}, Gs c = some (.lst xs) → H4 c = some (.lst xs) := fun {c xs} e => vl4.sub.lst (st4.g.lst e)
  have hl : i < σ.length := by rw [← pr.ok.ln]; exact hil
  refine ⟨.ref a, List.getElem?_set_self hl, a, V.ref b :: us, 0, V.ref b, rfl, rfl, SqL.of (at4 gsa), (by rw [show (0 : Int) = ((0 : Nat) : Int) from rfl, atI_nat]; rfl), .inl ⟨rfl, _, SqL.of (at4 gsb)⟩, ?_⟩
  refine ⟨b, ws, .non, rfl, rfl, at4 gsb, ?_, ?_⟩
  · have := dpAll_len dw
    rw [List.length_map] at this
    omega
  · obtain ⟨_, v42⟩ := unlend sgs st4 vl4
    have steE : Ste G H G2 (upd H4 b (.lst (ws ++ [.non]))) := ⟨st12.g, fun c o e => by
      obtain ⟨o', e', l⟩ := (steS.h.trans st4.h) c o e
      exact ⟨o', by rw [upd_ne (ne_of_none e hb0)]; exact e', l⟩, st12.f⟩
    exact ⟨n4, G2, ⟨(pr.ok.step steE).drop, v42.write gb2 trivial (at4 gsb) id (fun k => by intro z; cases z), pr.ste.trans steE, by omega⟩, k1.less (by omega) (fun _ h => h) st12.g, k2.less (by omega) (fun _ h => h) st12.g, k3.less (by omega) (fun _ h => h) st12.g, fun v H' G' n' r hn st vl hr d => k4 v H' G' n' r (by omega) st vl hr d⟩
end
end DL
end

section
set_option Elab.async false
set_option linter.all false
set_option maxRecDepth 100000
set_option maxHeartbeats 4000000
set_option autoImplicit false
/-! DnL: typed comprehensions of two fors. -/
namespace DL
open PySem PySem.Spec PyProof.Rows L2 PySem.W PySem.SeqAt
variable [Wd]
section
variable {X : Cx} {B : Bs} {Γ : List Ent} {c0 c1 c2 c3 : Nat} {elt tg iter tg1 iter1 : Expr} {scope : Scope} {own : List (Str × Nat)} {vs1 : List Nat} {pos : Pos} {g g1 : TG} {ι κ : Type} {enc : ι → D} {enc1 : κ → D} {xs : List ι} {zs : ι → List κ} {β : Type} [DecidableEq β] [Datum β] {f : ι → κ → β}
  {Γ' : ι → List Ent} {Γ'' : ι → κ → List Ent}
theorem iv_plain (h : Iv X B Γ c0 tg iter fun l => ∃ ys, ys = xs ∧ l = ys.map enc) : Iv X B Γ c0 tg iter fun l => l = xs.map enc := pi_mono h fun σ H R ⟨n, G, p, k⟩ => ⟨n, G, p, fun J H' G' n' l h1 h2 h3 ⟨ys, e1, e2⟩ => k J H' G' n' l h1 h2 h3 (by subst e1; exact e2)⟩
theorem Lc2.owPy {ys : List β} {c : Nat} {ifs1 : List Expr} (h : Lc2 X B Γ c elt tg iter tg1 iter1 ifs1 scope (So (.lst (ys.map dt)))) : Lc2 X B Γ c elt tg iter tg1 iter1 ifs1 scope (So (dt ys)) := by
  obtain ⟨own, vs1, wi, g, wi1, g1, tt1, te, h1, h2, h3, h4, h5, h6, h7, h8, h9, h10, h11⟩ := h.ex
  exact ⟨own, vs1, wi, g, wi1, g1, tt1, te, h1, h2, h3, h4, h5, h6, h7, h8, h9, h10, fun σ H Q q => h11 σ H Q (tev_owPy q)⟩
theorem Lc2.share {d : D} {c : Nat} {ifs1 : List Expr} (h : Lc2 X B Γ c elt tg iter tg1 iter1 ifs1 scope (So d)) : Lc2 X B Γ c elt tg iter tg1 iter1 ifs1 scope (Sd d) := by
  obtain ⟨own, vs1, wi, g, wi1, g1, tt1, te, h1, h2, h3, h4, h5, h6, h7, h8, h9, h10, h11⟩ := h.ex
  exact ⟨own, vs1, wi, g, wi1, g1, tt1, te, h1, h2, h3, h4, h5, h6, h7, h8, h9, h10, fun σ H Q ⟨n, G, p, kk⟩ => h11 σ H Q ⟨n, G, p, fun v H' G' n' r hn st vl hS hr => by
    cases hS
    obtain ⟨G'', s2, v2, den, _⟩ := hr.share st vl
    exact kk v H' G'' n' _ hn s2 v2 rfl (.sh den)⟩⟩
theorem iv_up {P : List D → Prop} {c : Nat} (h : Iv X B Γ c tg iter P) (hc : c ≤ c1 := by omega) : Iv X B Γ c1 tg iter P := pi_mono h fun σ H R ⟨n, G, p, k⟩ => ⟨n, G, ⟨p.ok, p.val, p.ste, by have := p.lim; omega⟩, fun J H' G' n' l h1 h2 h3 h4 => k J H' G' n' l (by omega) h2 h3 h4⟩
/-- typed, a test on the inner one -/
theorem lc2_TT {ifs1 : List Expr} {t : ι → κ → Bool} (hi : Iv X B Γ c0 tg iter fun l => ∃ ys, ys = xs ∧ l = ys.map enc) (ok : BlkOk X.N X.env.scope scope own) (hv : ∀ i ∈ vs1, i ∈ own.map (·.2)) (htg : ∀ d, TgOk X.K g (own.map (·.2)) (wipeE Γ (own.map (·.2))) (enc d) (Γ' d))
    (htg1 : ∀ d z, TgOk X.K g1 vs1 (wipeE (Γ' d) vs1) (enc1 z) (Γ'' d z)) (hz : (xs.flatMap zs).length ≤ sizeLine)
    (hg : ∀ (s : Shared) (H : Hp) (C : Addr) (cl : List (Str × Addr)) (fp : List Addr), PG (X.blk s H scope (compEnvC scope cl C X.env) fp) tg g)
    (hi1 : ∀ d ∈ xs, ∀ (s : Shared) (H : Hp) (C : Addr) (cl : List (Str × Addr)) (fp : List Addr), Iv (X.blk s H scope (compEnvC scope cl C X.env) fp) B (Γ' d) c1 tg1 iter1 fun l => ∃ ys, ys = zs d ∧ l = ys.map enc1)
    (hg1 : ∀ (s : Shared) (H : Hp) (C : Addr) (cl : List (Str × Addr)) (fp : List Addr), PG (X.blk s H scope (compEnvC scope cl C X.env) fp) tg1 g1)
    (ht : ∀ d ∈ xs, ∀ z ∈ zs d, ∀ (s : Shared) (H : Hp) (C : Addr) (cl : List (Str × Addr)) (fp : List Addr), PTs (X.blk s H scope (compEnvC scope cl C X.env) fp) ifs1 (tTv X.K B (Γ'' d z) c2 fun b => b = t d z))
    (he : ∀ d ∈ xs, ∀ z ∈ zs d, t d z = true → ∀ (s : Shared) (H : Hp) (C : Addr) (cl : List (Str × Addr)) (fp : List Addr), Ev (X.blk s H scope (compEnvC scope cl C X.env) fp) B (Γ'' d z) c3 elt (Sd (dt (f d z))))
    (hs : ∀ x, foldedSetIterable iter X.env x = pure x := by intro _; rfl) (hs1 : ∀ env x, foldedSetIterable iter1 env x = pure x := by intro _ _; rfl) :
    Lc2 X B Γ (c0 + sizeLine * (c1 + sizeLine * (c2 + c3))) elt tg iter tg1 iter1 ifs1 scope (So (dt (xs.flatMap fun d => ((zs d).filter (t d)).map (f d)))) :=
  Lc2.owPy (by
    have h := lc2_mk (X := X) (B := B) (Γ := Γ) (c2 := c2) (ifs1 := ifs1) (p := t) (f := fun d z => dt (f d z)) (iv_plain hi) ok hv htg htg1 hz hg (fun d hd s H C cl fp => iv_plain (hi1 d hd s H C cl fp)) hg1 ht he hs hs1
    have e : two zs t (fun d z => dt (f d z)) xs = (xs.flatMap fun d => ((zs d).filter (t d)).map (f d)).map dt := by
      unfold two
      rw [List.map_flatMap]
      exact congrArg (fun g => xs.flatMap g) (funext fun d => by rw [List.map_map]; rfl)
    rw [e] at h
    exact h)
theorem lc2_T (hi : Iv X B Γ c0 tg iter fun l => ∃ ys, ys = xs ∧ l = ys.map enc) (ok : BlkOk X.N X.env.scope scope own) (hv : ∀ i ∈ vs1, i ∈ own.map (·.2)) (htg : ∀ d, TgOk X.K g (own.map (·.2)) (wipeE Γ (own.map (·.2))) (enc d) (Γ' d))
    (htg1 : ∀ d z, TgOk X.K g1 vs1 (wipeE (Γ' d) vs1) (enc1 z) (Γ'' d z)) (hz : (xs.flatMap zs).length ≤ sizeLine)
    (hg : ∀ (s : Shared) (H : Hp) (C : Addr) (cl : List (Str × Addr)) (fp : List Addr), PG (X.blk s H scope (compEnvC scope cl C X.env) fp) tg g)
    (hi1 : ∀ d ∈ xs, ∀ (s : Shared) (H : Hp) (C : Addr) (cl : List (Str × Addr)) (fp : List Addr), Iv (X.blk s H scope (compEnvC scope cl C X.env) fp) B (Γ' d) c1 tg1 iter1 fun l => ∃ ys, ys = zs d ∧ l = ys.map enc1)
    (hg1 : ∀ (s : Shared) (H : Hp) (C : Addr) (cl : List (Str × Addr)) (fp : List Addr), PG (X.blk s H scope (compEnvC scope cl C X.env) fp) tg1 g1)
    (he : ∀ d ∈ xs, ∀ z ∈ zs d, ∀ (s : Shared) (H : Hp) (C : Addr) (cl : List (Str × Addr)) (fp : List Addr), Ev (X.blk s H scope (compEnvC scope cl C X.env) fp) B (Γ'' d z) c3 elt (Sd (dt (f d z))))
    (hs : ∀ x, foldedSetIterable iter X.env x = pure x := by intro _; rfl) (hs1 : ∀ env x, foldedSetIterable iter1 env x = pure x := by intro _ _; rfl) :
    Lc2 X B Γ (c0 + sizeLine * (c1 + sizeLine * (0 + c3))) elt tg iter tg1 iter1 [] scope (So (dt (xs.flatMap fun d => (zs d).map (f d)))) := by
  have h := lc2_TT (X := X) (B := B) (Γ := Γ) (c2 := 0) (ifs1 := []) (t := fun _ _ => true) (f := f) hi ok hv htg htg1 hz hg hi1 hg1 (fun d hd z hz s H C cl fp => tts_nil) (fun d hd z hz _ => he d hd z hz) hs hs1
  have e : (xs.flatMap fun d => ((zs d).filter (fun _ => true)).map (f d)) = xs.flatMap fun d => (zs d).map (f d) := congrArg (fun g => xs.flatMap g) (funext fun d => by rw [List.filter_eq_self.mpr (fun _ _ => rfl)])
  rw [← e]
  exact h
theorem ev_lc2T (hc : X.calm = true) (hN : X.N.Nodup) (hi : Iv X B Γ c0 tg iter fun l => ∃ ys, ys = xs ∧ l = ys.map enc) (ok : BlkOk X.N X.env.scope scope own) (hv : ∀ i ∈ vs1, i ∈ own.map (·.2)) (htg : ∀ d, TgOk X.K g (own.map (·.2)) (wipeE Γ (own.map (·.2))) (enc d) (Γ' d))
    (htg1 : ∀ d z, TgOk X.K g1 vs1 (wipeE (Γ' d) vs1) (enc1 z) (Γ'' d z)) (hz : (xs.flatMap zs).length ≤ sizeLine)
    (hg : ∀ (s : Shared) (H : Hp) (C : Addr) (cl : List (Str × Addr)) (fp : List Addr), PG (X.blk s H scope (compEnvC scope cl C X.env) fp) tg g)
    (hi1 : ∀ d ∈ xs, ∀ (s : Shared) (H : Hp) (C : Addr) (cl : List (Str × Addr)) (fp : List Addr), Iv (X.blk s H scope (compEnvC scope cl C X.env) fp) B (Γ' d) c1 tg1 iter1 fun l => ∃ ys, ys = zs d ∧ l = ys.map enc1)
    (hg1 : ∀ (s : Shared) (H : Hp) (C : Addr) (cl : List (Str × Addr)) (fp : List Addr), PG (X.blk s H scope (compEnvC scope cl C X.env) fp) tg1 g1)
    (he : ∀ d ∈ xs, ∀ z ∈ zs d, ∀ (s : Shared) (H : Hp) (C : Addr) (cl : List (Str × Addr)) (fp : List Addr), Ev (X.blk s H scope (compEnvC scope cl C X.env) fp) B (Γ'' d z) c3 elt (Sd (dt (f d z))))
    (hs : ∀ x, foldedSetIterable iter X.env x = pure x := by intro _; rfl) (hs1 : ∀ env x, foldedSetIterable iter1 env x = pure x := by intro _ _; rfl) :
    Ev X B Γ (c0 + sizeLine * (c1 + sizeLine * (0 + c3))) (.ListComp elt [⟨tg, iter, [], 0⟩, ⟨tg1, iter1, [], 0⟩] scope pos) (So (dt (xs.flatMap fun d => (zs d).map (f d)))) :=
  Lc2.ev (lc2_T hi ok hv htg htg1 hz hg hi1 hg1 he hs hs1) hc hN
theorem sv_set2o (i : Nat) {y : Str} {c c2 : Nat} {d : D} {ifs1 : List Expr} {O : Out} {rest : List Stmt} {p2 spos : Pos} (h : Lc2 X B Γ c elt tg iter tg1 iter1 ifs1 scope (So d)) (hc : X.calm = true) (hN : X.N.Nodup) (k : Sv X B (Γ.set i (.ow d)) c2 rest O) (hy : X.N[i]? = some y := by rfl) (hyl : X.env.scope.names.lookup y = some .local := by rfl)
    (hsw : swapsWith (.ListComp elt [⟨tg, iter, [], 0⟩, ⟨tg1, iter1, ifs1, 0⟩] scope pos) (some (.Name y p2)) spos.line X.env = pure true := by rfl) : Sv X B Γ (c + c2) (.Assign [.Name y p2] (.ListComp elt [⟨tg, iter, [], 0⟩, ⟨tg1, iter1, ifs1, 0⟩] scope pos) spos :: rest) O :=
  sv_setLc2 i h hc hN (fun r hr => by rw [show r = .ow d from hr]; exact k) hy hyl hsw
theorem sv_set2d (i : Nat) {y : Str} {c c2 : Nat} {d : D} {ifs1 : List Expr} {O : Out} {rest : List Stmt} {p2 spos : Pos} (h : Lc2 X B Γ c elt tg iter tg1 iter1 ifs1 scope (So d)) (hc : X.calm = true) (hN : X.N.Nodup) (k : Sv X B (Γ.set i (.sh d)) c2 rest O) (hy : X.N[i]? = some y := by rfl) (hyl : X.env.scope.names.lookup y = some .local := by rfl)
    (hsw : swapsWith (.ListComp elt [⟨tg, iter, [], 0⟩, ⟨tg1, iter1, ifs1, 0⟩] scope pos) (some (.Name y p2)) spos.line X.env = pure true := by rfl) : Sv X B Γ (c + c2) (.Assign [.Name y p2] (.ListComp elt [⟨tg, iter, [], 0⟩, ⟨tg1, iter1, ifs1, 0⟩] scope pos) spos :: rest) O :=
  sv_setLc2 i h.share hc hN (fun r hr => by rw [show r = .sh d from hr]; exact k) hy hyl hsw
end
end DL
end

section
set_option Elab.async false
set_option linter.all false
set_option maxRecDepth 100000
set_option maxHeartbeats 4000000
set_option autoImplicit false
/-! DnM: loops by a family of contexts; short forms of what is known by a property. -/
namespace DL
open PySem PySem.Spec PyProof.Rows L2 PySem.W PySem.SeqAt
variable [Wd]
section
variable {X : Cx} {B : Bs} {Γ : List Ent} {c c0 c1 c2 : Nat} {tg iter e a b t : Expr} {es : List Expr} {p p2 pos spos : Pos} {O : Out} {body rest : List Stmt} {ι : Type} {enc : ι → D} {g : TG} {xs : List ι} {α β γ : Type} [DecidableEq α] [Datum α] [DecidableEq β] [Datum β] [DecidableEq γ] [Datum γ]
theorem ev_up {S : Ent → Prop} (h : Ev X B Γ c e S) (hc : c ≤ c1 := by omega) : Ev X B Γ c1 e S := ev_weak h (fun _ h => h) hc
/-- for x in xs: at the i-th turn the slots are G i f -/
theorem sv_forG (G : Nat → (Nat → Ent) → List Ent) (f0 : Nat → Ent) {Γ' : Nat → ι → (Nat → Ent) → List Ent} (hc : X.calm = true) (hi : Iv X B Γ c0 tg iter fun l => ∃ ys, ys = xs ∧ l = ys.map enc) (hg : PG X tg g) (ws : List Nat)
    (htg : ∀ i d f, TgOk X.K g ws (G i f) (enc d) (Γ' i d f)) (h0 : Γ = G 0 f0)
    (ht : ∀ i d, xs[i]? = some d → ∀ f, Sv X B (Γ' i d f) c1 body { O with nx := fun Γ2 => ∃ f, Γ2 = G (i + 1) f, ct := fun Γ2 => ∃ f, Γ2 = G (i + 1) f, bk := fun _ => False })
    (k : ∀ f, Sv X B (G xs.length f) c2 rest O) (hp : PassesOwn (model X.prog X.w) X.A X.env X.xe := by exact PassesOwn.never) (hs : ∀ x, foldedSetIterable iter X.env x = pure x := by intro _; rfl) : Sv X B Γ (c0 + sizeLine * c1 + c2) (.For tg iter body [] pos :: rest) O :=
  sv_cons (N := fun Γ2 => ∃ f, Γ2 = G xs.length f) (s_for (O := { O with nx := fun Γ2 => ∃ f, Γ2 = G xs.length f }) hc hp hi hg (fun _ i Γ2 => ∃ f, Γ2 = G i f) (fun ys _ => ⟨f0, h0⟩)
    (fun ys hy i d hd Γi ⟨f, hf⟩ => ⟨Γ' i d f, ws, hf ▸ htg i d f, sv_weak (ht i d (by subst hy; exact hd) f) (Nat.le_refl _) (fun _ h => h) (fun _ h => h) (fun _ h => h.elim) (fun _ h => h)⟩) (fun ys hy Γi h => by subst hy; exact h) hs) fun Γ2 ⟨f, hf⟩ => by subst hf; exact k f
theorem sv_endG {i : Nat} {G : Nat → (Nat → Ent) → List Ent} {R : Ent → Prop} {b c : List Ent → Prop} (f : Nat → Ent) (h : Γ = G i f) : Sv X B Γ 0 [] { nx := fun Γ2 => ∃ f, Γ2 = G i f, rt := R, bk := b, ct := c } := sv_end ⟨f, h⟩
/-- for x in xs, xs known by a property, what is known at the i-th turn -/
theorem sv_forI {κ : Type} {S0 : List ι → Prop} (Q : List ι → Nat → κ → Prop) (G : List ι → κ → List Ent) {Γ' : ι → List ι → κ → List Ent} (hc : X.calm = true) (hi : Iv X B Γ c0 tg iter fun l => ∃ ys, S0 ys ∧ l = ys.map enc) (hg : PG X tg g) (ws : List Nat)
    (htg : ∀ d xs j, TgOk X.K g ws (G xs j) (enc d) (Γ' d xs j)) (h0 : ∀ xs, S0 xs → ∃ j, Q xs 0 j ∧ Γ = G xs j)
    (ht : ∀ xs, S0 xs → ∀ i d, xs[i]? = some d → ∀ j, Q xs i j → Sv X B (Γ' d xs j) c1 body { O with nx := fun Γ2 => ∃ j, Q xs (i + 1) j ∧ Γ2 = G xs j, ct := fun Γ2 => ∃ j, Q xs (i + 1) j ∧ Γ2 = G xs j, bk := fun _ => False })
    (k : ∀ xs, S0 xs → ∀ j, Q xs xs.length j → Sv X B (G xs j) c2 rest O) (hp : PassesOwn (model X.prog X.w) X.A X.env X.xe := by exact PassesOwn.never) (hs : ∀ x, foldedSetIterable iter X.env x = pure x := by intro _; rfl) : Sv X B Γ (c0 + sizeLine * c1 + c2) (.For tg iter body [] pos :: rest) O :=
  sv_cons (N := fun Γ2 => ∃ xs, S0 xs ∧ ∃ j, Q xs xs.length j ∧ Γ2 = G xs j) (s_for (O := { O with nx := fun Γ2 => ∃ xs, S0 xs ∧ ∃ j, Q xs xs.length j ∧ Γ2 = G xs j }) hc hp hi hg (fun xs i Γ2 => ∃ j, Q xs i j ∧ Γ2 = G xs j) h0
    (fun ys hy i d hd Γi ⟨j, hj, e⟩ => ⟨Γ' d ys j, ws, e ▸ htg d ys j, sv_weak (ht ys hy i d hd j hj) (Nat.le_refl _) (fun _ h => h) (fun _ h => h) (fun _ h => h.elim) (fun _ h => h)⟩) (fun ys hy Γi h => ⟨ys, hy, h⟩) hs) fun Γ2 ⟨ys, hy, j, hj, e⟩ => by subst e; exact k ys hy j hj
/-- the end of a turn, of a way -/
theorem sv_endN {κ : Type} {Q : κ → Prop} {G : κ → List Ent} {R : Ent → Prop} {b c : List Ent → Prop} (h : ∃ j, Q j ∧ Γ = G j) : Sv X B Γ 0 [] { nx := fun Γ2 => ∃ j, Q j ∧ Γ2 = G j, rt := R, bk := b, ct := c } := sv_end h
/-! ### answers known by a property -/
/-- a new object known by a property -/
abbrev Ro {α : Type} [DecidableEq α] [Datum α] (P : α → Prop) : Ent → Prop := fun r => ∃ z : α, P z ∧ r = .ow (dt z)
theorem rt_ret {P P' : α → Prop} (h : ∀ z, P z → P' z) : ∀ r, Rt P r → Rt P' r := fun _ ⟨d, ⟨z, hz, e⟩, q⟩ => ⟨d, ⟨z, h z hz, e⟩, q⟩
theorem ro_ret {P P' : α → Prop} (h : ∀ z, P z → P' z) : ∀ r, Ro P r → Ro P' r := fun _ ⟨z, hz, e⟩ => ⟨z, h z hz, e⟩
theorem ro_of {z : α} (h : Ev X B Γ c e (So (dt z))) : Ev X B Γ c e (Ro fun x => x = z) := ev_weak h (fun r h => ⟨z, rfl, h⟩) (Nat.le_refl _)
theorem ro_imp {P P' : α → Prop} (h : Ev X B Γ c e (Ro P)) (k : ∀ z, P z → P' z) : Ev X B Γ c e (Ro P') := ev_weak h (ro_ret k) (Nat.le_refl _)
theorem ret_ro {P : α → Prop} {z : α} (h : P z) : ∀ r, So (dt z) r → Ro P r := fun _ e => ⟨z, h, e⟩
/-- x = e, an own object known by a property -/
theorem sv_setRo (i : Nat) {x : Str} {P : α → Prop} (nd : X.N.Nodup) (h : Ev X B Γ c1 e (Ro P)) (k : ∀ z, P z → Sv X B (Γ.set i (.ow (dt z))) c2 rest O) (hi : X.N[i]? = some x := by rfl) (hx : Loc X.env.scope x := by first | exact Or.inl rfl | exact Or.inr rfl) (hs : swapsWithSole [.Name x p2] e pos.line X.env = pure false := by rfl) (hw : swappedStores [.Name x p2] e X.env = pure none := by rfl)
    (h1 : (assignEach [.Name x p2] X.env).map (·.2) = [assign (.Name x p2) X.env] := by rfl) (hf : X.fn x = true ∨ X.env.scope.names.lookup x = some .local := by first | exact .inl rfl | exact .inr rfl) : Sv X B Γ (c1 + c2) (.Assign [.Name x p2] e pos :: rest) O :=
  sv_cons (N := fun G => ∃ z, P z ∧ G = Γ.set i (.ow (dt z))) (s_set i h (fun r ⟨z, hz, e⟩ => ⟨z, hz, by rw [e]⟩) nd hi hx hs hw h1 hf) fun G ⟨z, hz, e⟩ => by subst e; exact k z hz
/-- list(xs), xs known by a property -/
theorem ev_listR {P : List α → Prop} (hm : X.mg "list" = none) (h : Ev X B Γ c e (Rt P)) (hg : Gl X "list" := by rfl) (h1 : starEach [e] X.env = (false, eval e X.env) :: starEach [] X.env := by rfl) (h3 : (backTo pos (starEach [] X.env)).any (·.1) = false := by rfl) :
    Ev X B Γ (c + 0) (.Call (.Name "list" p) [e] [] pos) (Ro P) := ev_callTyN call_list_of hm (av_consN h av_nil h1) (fun ds ⟨d, r, e1, ⟨xs, hx, e2⟩, e3⟩ => by
    subst e1; subst e2; subst e3
    intro n G H vs Q vl hd k
    exact ok_lstL n G H vs Q vl hd fun v H' G' r' st v2 hS hr => k v H' G' r' st v2 ⟨xs, hx, hS⟩ hr) hg (by decide +kernel) (by decide) (by decide) h1 h3
theorem ev_listRT {P : Tup α → Prop} (hm : X.mg "list" = none) (h : Ev X B Γ c e (Rt P)) (hg : Gl X "list" := by rfl) (h1 : starEach [e] X.env = (false, eval e X.env) :: starEach [] X.env := by rfl) (h3 : (backTo pos (starEach [] X.env)).any (·.1) = false := by rfl) :
    Ev X B Γ (c + 0) (.Call (.Name "list" p) [e] [] pos) (Ro fun zs : List α => P ⟨zs⟩) := ev_callTyN call_list_of hm (av_consN h av_nil h1) (fun ds ⟨d, r, e1, ⟨xs, hx, e2⟩, e3⟩ => by
    subst e1; subst e2; subst e3
    intro n G H vs Q vl hd k
    exact ok_lstT n G H vs Q vl hd fun v H' G' r' st v2 hS hr => k v H' G' r' st v2 ⟨xs.items, hx, hS⟩ hr) hg (by decide +kernel) (by decide) (by decide) h1 h3
end
section
variable {X : Cx} {B : Bs} {Γ : List Ent} {c c0 c1 c2 c3 k : Nat} {e a b t : Expr} {px py pt pt2 p p2 pos : Pos} {O : Out} {rest : List Stmt} {S1 S2 : Ent → Prop} {α β : Type} [DecidableEq α] [Datum α] [DecidableEq β] [Datum β] {P1 : α → Prop} {P2 : β → Prop}
/-- a, b = e1, e2: what is known of both -/
theorem sv_par2 (i j : Nat) {x y : Str} {kt k2 : Nat} (hc : X.calm = true) (nd : X.N.Nodup) {κ μ : Type} {f1 : κ → Ent} {f2 : μ → Ent} {Q1 : κ → Prop} {Q2 : μ → Prop} (h1 : Ev X B Γ c1 a (fun r => ∃ z, Q1 z ∧ r = f1 z)) (h2 : Ev X B Γ c2 b (fun r => ∃ z, Q2 z ∧ r = f2 z)) (hk : ∀ z1, Q1 z1 → ∀ z2, Q2 z2 → Sv X B ((Γ.set i (f1 z1)).set j (f2 z2)) c3 rest O) (hij : i ≠ j := by decide) (hi : X.N[i]? = some x := by rfl) (hj : X.N[j]? = some y := by rfl) (hx : X.env.scope.names.lookup x = some .local := by rfl) (hy : X.env.scope.names.lookup y = some .local := by rfl)
    (hw : swappedStores [.Tuple [.Name x px, .Name y py] kt pt] (.Tuple [a, b] k2 pt2) X.env = pure (some [x, y]) := by rfl) (hs : swapsWithSole [.Tuple [.Name x px, .Name y py] kt pt] (.Tuple [a, b] k2 pt2) pos.line X.env = pure false := by rfl)
    (q1 : starEach [a, b] X.env = (false, eval a X.env) :: starEach [b] X.env := by rfl) (q2 : starEach [b] X.env = (false, eval b X.env) :: starEach [] X.env := by rfl) : Sv X B Γ (c1 + c2 + c3) (.Assign [.Tuple [.Name x px, .Name y py] kt pt] (.Tuple [a, b] k2 pt2) pos :: rest) O :=
  sv_par i j hc nd h1 h2 (fun r1 r2 ⟨z1, hz1, e1⟩ ⟨z2, hz2, e2⟩ => by subst e1; subst e2; exact hk z1 hz1 z2 hz2) hij hi hj hx hy hw hs q1 q2
theorem sv_par2T (i j : Nat) {x y : Str} {kt k2 : Nat} (hc : X.calm = true) (nd : X.N.Nodup) {κ μ : Type} {f1 : κ → Ent} {f2 : μ → Ent} {Q1 : κ → Prop} {Q2 : μ → Prop} (h1 : Ev X B Γ c1 a (fun r => ∃ z, Q1 z ∧ r = f1 z)) (h2 : Ev X B Γ c2 b (fun r => ∃ z, Q2 z ∧ r = f2 z)) (hk : ∀ z1, Q1 z1 → ∀ z2, Q2 z2 → Sv X B ((Γ.set i (f1 z1)).set j (f2 z2)) c3 rest O) (hi : X.N[i]? = some x := by rfl) (hj : X.N[j]? = some y := by rfl) (hx : Loc X.env.scope x := by first | exact Or.inl rfl | exact Or.inr rfl) (hy : Loc X.env.scope y := by first | exact Or.inl rfl | exact Or.inr rfl)
    (hfx : X.fn x = true ∨ X.env.scope.names.lookup x = some .local := by first | exact .inl rfl | exact .inr rfl) (hfy : X.fn y = true ∨ X.env.scope.names.lookup y = some .local := by first | exact .inl rfl | exact .inr rfl)
    (hw : swappedStores [.Tuple [.Name x px, .Name y py] kt pt] (.Tuple [a, b] k2 pt2) X.env = pure none := by rfl) (hs : swapsWithSole [.Tuple [.Name x px, .Name y py] kt pt] (.Tuple [a, b] k2 pt2) pos.line X.env = pure false := by rfl)
    (h1a : (assignEach [.Tuple [.Name x px, .Name y py] kt pt] X.env).map (·.2) = [assign (.Tuple [.Name x px, .Name y py] kt pt) X.env] := by rfl)
    (hn : (assignEach [.Name x px, .Name y py] X.env).length = 2 := by rfl) (hst : (assignEach [.Name x px, .Name y py] X.env).findIdx? (·.1) = none := by rfl)
    (hs1 : (assignEach [.Name x px, .Name y py] X.env).map (·.2) = assign (.Name x px) X.env :: (assignEach [.Name y py] X.env).map (·.2) := by rfl) (hs2 : (assignEach [.Name y py] X.env).map (·.2) = assign (.Name y py) X.env :: (assignEach [] X.env).map (·.2) := by rfl)
    (q1 : starEach [a, b] X.env = (false, eval a X.env) :: starEach [b] X.env := by rfl) (q2 : starEach [b] X.env = (false, eval b X.env) :: starEach [] X.env := by rfl) : Sv X B Γ (c1 + c2 + c3) (.Assign [.Tuple [.Name x px, .Name y py] kt pt] (.Tuple [a, b] k2 pt2) pos :: rest) O :=
  sv_parT i j hc nd h1 h2 (fun r1 r2 ⟨z1, hz1, e1⟩ ⟨z2, hz2, e2⟩ => by subst e1; subst e2; exact hk z1 hz1 z2 hz2) hi hj hx hy hfx hfy hw hs h1a hn hst hs1 hs2 q1 q2
/-- the readings of an answer for sv_par2 -/
theorem pr_d {d : D} (h : Ev X B Γ c e (Sd d)) : Ev X B Γ c e (fun r => ∃ z : Unit, True ∧ r = (fun _ => Ent.sh d) z) := ev_weak h (fun r h => ⟨(), trivial, h⟩) (Nat.le_refl _)
theorem pr_o {d : D} (h : Ev X B Γ c e (So d)) : Ev X B Γ c e (fun r => ∃ z : Unit, True ∧ r = (fun _ => Ent.ow d) z) := ev_weak h (fun r h => ⟨(), trivial, h⟩) (Nat.le_refl _)
theorem pr_R (h : Ev X B Γ c e (Rt P1)) : Ev X B Γ c e (fun r => ∃ z : α, P1 z ∧ r = (fun z => Ent.sh (dt z)) z) := ev_weak h (fun r ⟨d, ⟨z, hz, e⟩, q⟩ => ⟨z, hz, by rw [q, e]⟩) (Nat.le_refl _)
theorem pr_Ro (h : Ev X B Γ c e (Ro P1)) : Ev X B Γ c e (fun r => ∃ z : α, P1 z ∧ r = (fun z => Ent.ow (dt z)) z) := h
/-- if t: ..; return e  else: .., both ways -/
theorem sv_if2 {a b : List Stmt} {q : Bool} (ht : Tv X B Γ c0 t (fun r => r = q)) (ha : q = true → Sv X B Γ c1 a O) (hb : q = false → Sv X B Γ c2 b O) (hr : rest = []) : Sv X B Γ (c0 + max c1 c2) (.If t a b pos :: rest) O := by
  subst hr
  exact sv_one (s_if ht (fun h => ha h.symm) (fun h => hb h.symm))
end
/-! ### star displays -/
class PySt (γ : Type) [DecidableEq γ] [Datum γ] (α : outParam Type) [DecidableEq α] [Datum α] where
  its : γ → List α
  rule : ∀ {X : Cx} {B : Bs} {Γ : List Ent} {c1 c2 : Nat} {e : Expr} {es : List Expr} {p : Pos} {a : γ} {ys : List α}, Ev X B Γ c1 e (Sd (dt a)) → Avt X B Γ c2 es ys → starEach (.Starred e p :: es) X.env = (true, eval e X.env) :: starEach es X.env → Avt X B Γ (c1 + c2) (.Starred e p :: es) (its a ++ ys)
instance {α : Type} [DecidableEq α] [Datum α] : PySt (List α) α := ⟨fun xs => xs, fun ha hr hs => avt_starL ha hr rfl hs⟩
instance {α : Type} [DecidableEq α] [Datum α] : PySt (Tup α) α := ⟨fun xs => xs.items, fun ha hr hs => avt_starT ha hr rfl hs⟩
theorem py_star {X : Cx} {B : Bs} {Γ : List Ent} {c1 c2 : Nat} {e : Expr} {es : List Expr} {p : Pos} {γ α : Type} [DecidableEq γ] [Datum γ] [DecidableEq α] [Datum α] [i : PySt γ α] {a : γ} {ys : List α} (ha : Ev X B Γ c1 e (Sd (dt a))) (hr : Avt X B Γ c2 es ys) (hs : starEach (.Starred e p :: es) X.env = (true, eval e X.env) :: starEach es X.env := by rfl) :
    Avt X B Γ (c1 + c2) (.Starred e p :: es) (i.its a ++ ys) := i.rule ha hr hs
section
variable {X : Cx} {B : Bs} {Γ : List Ent} {c c0 c1 c2 : Nat} {tg e a b : Expr} {p pos tpos : Pos} {α β : Type} [DecidableEq α] [Datum α] [DecidableEq β] [Datum β]
theorem tv_ltR {P1 P2 : Int → Prop} (hu : Hu X) (ha : Ev X B Γ c1 a (Rt P1)) (hb : Ev X B Γ c2 b (Rt P2)) : Tv X B Γ (c1 + c2) (.Compare a [.Lt] [b] pos) (fun _ => True) :=
  tv_cmpN (ro_lt (α := Int) hu) (nobehind _ (by decide) (by decide)) ha hb fun d1 d2 ⟨i, hi, e1⟩ ⟨j, hj, e2⟩ => by
    subst e1; subst e2
    exact fun n G H u v Q vl h1 h2 k => ok_B n G H u v Q vl h1 h2 fun v' H' G' r' st v2 hS hr => k v' H' G' r' st v2 ⟨_, ⟨_, rfl, trivial⟩, hS⟩ hr
theorem tv_R {P : Bool → Prop} (h : Ev X B Γ c e (Rt P)) (he : ∀ whole, isTrue e X.env whole = (do let v ← whole; standAt e.pos; holding [v] (truthy v)) := by intro _; rfl) : Tv X B Γ c e P := tv_of h (fun d ⟨z, hz, e⟩ => ⟨z, e, hz⟩) he
theorem iv_range1R {P : Int → Prop} (hm : X.mg "range" = none) (ha : Ev X B Γ c a (Rt P)) (hj : ∀ j, P j → 0 ≤ j ∧ j ≤ 16777216) (hg : Gl X "range" := by rfl) (hs : starEach [a] X.env = [(false, eval a X.env)] := by rfl) :
    Iv X B Γ (c + 0) tg (.Call (.Name "range" p) [a] [] pos) (fun l => ∃ ys, (∃ j : Int, P j ∧ ys = upFrom 0 j.toNat) ∧ l = ys.map dt) := pi_mono (pi_range1 hg hm (av_consN ha av_nil hs) hs) fun σ H R ⟨n, G, p, k⟩ => ⟨n, G, p, fun vs H1 G1 n1 ds hn st vl hS dn => by
  obtain ⟨d, r, rfl, ⟨j, hP, rfl⟩, rfl⟩ := hS
  obtain ⟨v, rfl, h1⟩ := denAll1 dn
  have := hj j hP
  rw [dp_int h1.dp]
  exact ⟨j, rfl, by omega, by omega, k _ H1 G1 n1 _ hn st vl ⟨_, ⟨j, hP, rfl⟩, rfl⟩ walk_up (by rw [List.length_map, len_up, sizeLine_eq]; omega)⟩⟩
/-- two typed lists, walked together -/
def prT (q : α × β) : D := prD (dt q.1, dt q.2)
theorem iv_zipL {xs : List α} {ys : List β} {elts : List Expr} {kk : Nat} (hm : X.mg "zip" = none) (ha : Ev X B Γ c1 a (Sd (dt xs))) (hb : Ev X B Γ c2 b (Sd (dt ys))) (hg : Gl X "zip" := by rfl)
    (hs : starEach [a, b] X.env = (false, eval a X.env) :: starEach [b] X.env := by rfl) (hs2 : starEach [b] X.env = (false, eval b X.env) :: starEach [] X.env := by rfl) (hpl : (backTo pos (starEach [b] X.env)).any (·.1) = false := by rfl) :
    Iv X B Γ (c1 + (c2 + 0)) (.Tuple elts kk tpos) (.Call (.Name "zip" p) [a, b] [] pos) (fun l => ∃ zs, zs = xs.zip ys ∧ l = zs.map prT) := by
  have e1 : seqL (dt xs) = some (xs.map dt) := by show some ((xs.map Datum.toD).map D.py) = _; rw [List.map_map]; rfl
  have e2 : seqL (dt ys) = some (ys.map dt) := by show some ((ys.map Datum.toD).map D.py) = _; rw [List.map_map]; rfl
  refine pi_mono (iv_zipD (.inl ⟨e1, e2⟩) hm ha hb hg hs hs2 hpl) fun σ H R ⟨n, G, pr, k⟩ => ⟨n, G, pr, fun J H' G' n' l h1 h2 h3 ⟨zs, h4, h5⟩ => k J H' G' n' l h1 h2 h3 ⟨xs.zip ys, rfl, ?_⟩⟩
  subst h4; subst h5
  rw [List.zip_map, List.map_map]; rfl
theorem iv_zipT {xs : Tup α} {ys : Tup β} {elts : List Expr} {kk : Nat} (hm : X.mg "zip" = none) (ha : Ev X B Γ c1 a (Sd (dt xs))) (hb : Ev X B Γ c2 b (Sd (dt ys))) (hg : Gl X "zip" := by rfl)
    (hs : starEach [a, b] X.env = (false, eval a X.env) :: starEach [b] X.env := by rfl) (hs2 : starEach [b] X.env = (false, eval b X.env) :: starEach [] X.env := by rfl) (hpl : (backTo pos (starEach [b] X.env)).any (·.1) = false := by rfl) :
    Iv X B Γ (c1 + (c2 + 0)) (.Tuple elts kk tpos) (.Call (.Name "zip" p) [a, b] [] pos) (fun l => ∃ zs, zs = xs.items.zip ys.items ∧ l = zs.map prT) := by
  have e1 : seqT (dt xs) = some (xs.items.map dt) := by show some ((xs.items.map Datum.toD).map D.py) = _; rw [List.map_map]; rfl
  have e2 : seqT (dt ys) = some (ys.items.map dt) := by show some ((ys.items.map Datum.toD).map D.py) = _; rw [List.map_map]; rfl
  refine pi_mono (iv_zipD (.inr ⟨e1, e2⟩) hm ha hb hg hs hs2 hpl) fun σ H R ⟨n, G, pr, k⟩ => ⟨n, G, pr, fun J H' G' n' l h1 h2 h3 ⟨zs, h4, h5⟩ => k J H' G' n' l h1 h2 h3 ⟨xs.items.zip ys.items, rfl, ?_⟩⟩
  subst h4; subst h5
  rw [List.zip_map, List.map_map]; rfl
theorem tg_pairT {K : PySem.W.Frag} {Γ : List Ent} {i j : Nat} {vs : List Nat} {q : α × β} (hi : i ∈ vs) (hj : j ∈ vs) : TgOk K (gTup K 2 (gCons (gName i) (gCons (gName j) gNil))) vs Γ (prT q) ((Γ.set i (.sh (dt q.1))).set j (.sh (dt q.2))) := tg_pairD hi hj
end
theorem fx_skipq {X : Cx} {B : Bs} {Γ : List Ent} {c1 c2 : Nat} {t : Expr} {pos : Pos} {body rest : List Stmt} {N : List Ent → Prop} {q : Bool} (ht : Tv X B Γ c1 t (fun b => b = q)) (hq : q = false) (h : Fx X B Γ c2 rest N) : Fx X B Γ (c1 + c2) (.If t body [] pos :: rest) N := fx_skip (by rw [← hq]; exact ht) h
theorem ev_neg {X : Cx} {B : Bs} {Γ : List Ent} {c : Nat} {e : Expr} {pos : Pos} {i : Int} (h : Ev X B Γ c e (Sd (dt i))) : Ev X B Γ c (.UnaryOp .USub e pos) (Sd (dt (-i))) :=
  pe_mono (pe_un un_neg h) fun σ H Q ⟨n, G, p, k⟩ => ⟨n, G, p, fun v H' G' n' r hn st vl hS hr => by
    cases hS
    cases hr with | sh den =>
    exact ⟨i, dp_int den.dp, k _ H' G' n' _ hn st vl rfl (.sh (.py (.int _)))⟩⟩
theorem sv_if2S {X : Cx} {B : Bs} {Γ : List Ent} {c0 c1 c2 : Nat} {t : Expr} {pos : Pos} {a b rest : List Stmt} {O : Out} {Sb : Bool → Prop} (ht : Tv X B Γ c0 t Sb) (ha : Sb true → Sv X B Γ c1 a O) (hb : Sb false → Sv X B Γ c2 b O) (hr : rest = []) : Sv X B Γ (c0 + max c1 c2) (.If t a b pos :: rest) O := by
  subst hr
  exact sv_one (s_if ht ha hb)
/-- if t: .. else: .., then the rest -/
theorem sv_ifN {X : Cx} {B : Bs} {Γ : List Ent} {c0 c1 c2 c3 : Nat} {t : Expr} {pos : Pos} {a b rest : List Stmt} {O : Out} {Sb : Bool → Prop} {κ : Type} (Q : κ → Prop) (G : κ → List Ent) (ht : Tv X B Γ c0 t Sb) (ha : Sb true → Sv X B Γ c1 a { O with nx := fun Γ' => ∃ j, Q j ∧ Γ' = G j }) (hb : Sb false → Sv X B Γ c2 b { O with nx := fun Γ' => ∃ j, Q j ∧ Γ' = G j }) (k : ∀ j, Q j → Sv X B (G j) c3 rest O) : Sv X B Γ (c0 + max c1 c2 + c3) (.If t a b pos :: rest) O :=
  sv_cons (s_if ht ha hb) fun Γ' ⟨j, hj, e⟩ => by subst e; exact k j hj
instance : Shallow (Tup Str) := ⟨by first | decide | exact Nat.le_of_ble_eq_true rfl⟩
instance : Shallow (List Str) := ⟨by first | decide | exact Nat.le_of_ble_eq_true rfl⟩
instance : Shallow (Str × Str) := ⟨by first | decide | exact Nat.le_of_ble_eq_true rfl⟩
/-- the names of a block within a block -/
def okK (o : Option NameKind) : Bool := match o with | some .cell => true | some .free => true | _ => false
theorem look_re {x : Str} {g : Str × NameKind → Str × NameKind} (hg : ∀ p, g p = p ∨ g p = (p.1, .cell)) : ∀ {names : List (Str × NameKind)}, okK (names.lookup x) = true → okK ((names.map g).lookup x) = true
  | [], h => by cases h
  | (n, k) :: r, h => by
    rw [List.map_cons]
    cases hx : x == n with
    | true =>
      rcases hg (n, k) with e | e
      · rw [e]; simp only [List.lookup_cons, hx] at h ⊢; exact h
      · rw [e]; simp only [List.lookup_cons, hx]; rfl
    | false =>
      simp only [List.lookup_cons, hx] at h
      have ih := look_re hg h
      rcases hg (n, k) with e | e
      · rw [e]; simp only [List.lookup_cons, hx]; exact ih
      · rw [e]; simp only [List.lookup_cons, hx]; exact ih
theorem blk_re {N : List Str} {outer scope : Scope} {env : Env} {own : List (Str × Nat)} (h : blkC N outer scope own = true) : blkC N (relabel outer env) scope own = true := by
  unfold blkC at h ⊢
  rw [Bool.and_eq_true] at h ⊢
  refine ⟨h.1, List.all_eq_true.mpr fun y hy => ?_⟩
  have q := List.all_eq_true.mp h.2 y hy
  cases e : y.2 with
  | free =>
    rw [e] at q
    exact look_re (g := fun (n, k) => if (k == NameKind.free && env.scope.kind == .function && env.kindOf n == some .cell) then (n, NameKind.cell) else (n, k)) (fun p => by
      by_cases hc : (p.2 == NameKind.free && env.scope.kind == .function && env.kindOf p.1 == some .cell) = true
      · exact .inr (if_pos hc)
      · exact .inl (if_neg hc)) q
  | _ => first | exact q | (rw [e] at q; exact q) | (rw [e] at q)
end DL
end

section
set_option Elab.async false
set_option linter.all false
set_option maxRecDepth 100000
set_option maxHeartbeats 4000000
set_option autoImplicit false
/-! ClI: books by value: rows, names, fillings. -/
namespace DL
open PySem PySem.Spec PyProof.Rows L2 PySem.W PySem.SeqAt
variable [Wd]
abbrev Rows := List (Tup Str)
def namesL (rows : Rows) : List Str := sset (rows.flatMap fun c => c.items.map bareS)
def breaksB (part c : Tup Str) : Bool := c.items.all fun l => decide (turnS l ∈ part.items)
def brokenL (rows : Rows) (part : Tup Str) : Rows := rows.filter (breaksB part)
def fillsL (rows : Rows) (names : List Str) : Rows := ((partsL names).filter fun p => decide (p.items.length = names.length)).filter fun p => decide (brokenL rows p = [])
def bothL (names : List Str) : List Str := names.flatMap fun n => [n, minus ++ n]
def fillMore (found : Rows) (name : Str) : Rows := found.flatMap fun p => [name, minus ++ name].map fun l => (⟨p.items ++ [l]⟩ : Tup Str)
def fillStep (rows : Rows) (found : Rows) (name : Str) : Rows := (fillMore found name).filter fun p => !(rows.map (breaksB p)).any id
def fillRaw (rows : Rows) (names : List Str) : Rows := names.foldl (fillStep rows) [⟨[]⟩]
def allFills (rows : Rows) (names : List Str) : Rows := srt (((fillRaw rows names).filter fun _ => !decide ((⟨[]⟩ : Tup Str) ∈ rows)).map fun p => (⟨sset p.items⟩ : Tup Str))
/-- a book's rows -/
structure Bk (rows : Rows) : Prop where
  rise : Rise rows
  good : ∀ c ∈ rows, GoodC c
  few : rows.length < 63
  nm : (namesL rows).length ≤ 6
/-- the tag of a book's table -/
def tagOf (rows : Rows) : List (Str × V) := rows.flatMap fun c => (("" : Str), V.bl true) :: c.items.map fun l => (l, V.bl false)
def bkF (rows : Rows) : List (Str × D) := [("rows", dt rows), ("names", dt (namesL rows)), ("known", .memo (tagOf rows))]
abbrev bkD (C : Addr) (rows : Rows) : D := .ins C (bkF rows)
theorem mem_namesL {rows : Rows} {n : Str} : n ∈ namesL rows ↔ ∃ c ∈ rows, ∃ l ∈ c.items, bareS l = n := by
  unfold namesL
  rw [mem_sset, List.mem_flatMap]
  constructor
  · rintro ⟨c, hc, h⟩
    obtain ⟨l, hl, e⟩ := List.mem_map.mp h
    exact ⟨c, hc, l, hl, e⟩
  · rintro ⟨c, hc, l, hl, e⟩
    exact ⟨c, hc, List.mem_map.mpr ⟨l, hl, e⟩⟩
theorem names_rise (rows : Rows) : Rise (namesL rows) := sset_rise _
theorem Bk.word {rows : Rows} (h : Bk rows) : ∀ n ∈ namesL rows, isWord n = true := fun n hn => by
  obtain ⟨c, hc, l, hl, rfl⟩ := mem_namesL.mp hn
  exact ((h.good c hc).lit l hl).lit.bare
theorem Bk.sz {rows : Rows} (h : Bk rows) : ∀ n ∈ namesL rows, 0 < n.length ∧ n.length ≤ 1000 := fun n hn => by
  have := wlen (h.word n hn)
  omega
theorem GoodC.cls {c : Tup Str} {names : List Str} (h : GoodC c) (hn : ∀ l ∈ c.items, bareS l ∈ names) : Cls names c := ⟨h.rise, ⟨fun l hl => (h.lit l hl).lit, hn, h.unl⟩⟩
theorem Bk.cls {rows : Rows} (h : Bk rows) : ∀ c ∈ rows, Cls (namesL rows) c := fun c hc => (h.good c hc).cls fun l hl => mem_namesL.mpr ⟨c, hc, l, hl, rfl⟩
theorem Bk.clen {rows : Rows} (h : Bk rows) : ∀ c ∈ rows, c.items.length ≤ 6 := fun c hc => Nat.le_trans (h.cls c hc).pt.len h.nm
theorem fillMore_len (found : Rows) (name : Str) : (fillMore found name).length = 2 * found.length := by
  unfold fillMore
  induction found with
  | nil => rfl
  | cons p r ih => rw [List.flatMap_cons, List.length_append, ih]; simp only [List.map_cons, List.map_nil, List.length_cons, List.length_nil]; omega
theorem fillStep_len (rows found : Rows) (name : Str) : (fillStep rows found name).length ≤ 2 * found.length := by
  unfold fillStep
  rw [← fillMore_len found name]
  exact List.length_filter_le _ _
theorem fill_len (rows : Rows) : ∀ (names : List Str) (found : Rows), (names.foldl (fillStep rows) found).length ≤ 2 ^ names.length * found.length
  | [], found => by simp
  | n :: ns, found => by
    refine Nat.le_trans (fill_len rows ns _) ?_
    rw [List.length_cons, Nat.pow_succ, Nat.mul_assoc]
    exact Nat.mul_le_mul_left _ (fillStep_len rows found n)
theorem fill_take (rows : Rows) (names : List Str) (i : Nat) (h : names.length ≤ 6) : ((names.take i).foldl (fillStep rows) [⟨[]⟩]).length ≤ 64 := by
  refine Nat.le_trans (fill_len rows _ _) ?_
  rw [List.length_singleton, Nat.mul_one]
  exact Nat.le_trans (Nat.pow_le_pow_right (by decide) (show (names.take i).length ≤ 6 by rw [List.length_take]; omega)) (by decide)
theorem fillMore_items {found : Rows} {name : Str} {p : Tup Str} (h : p ∈ fillMore found name) : ∃ q ∈ found, p = ⟨q.items ++ [name]⟩ ∨ p = ⟨q.items ++ [minus ++ name]⟩ := by
  unfold fillMore at h
  obtain ⟨q, hq, h⟩ := List.mem_flatMap.mp h
  simp only [List.map_cons, List.map_nil, List.mem_cons, List.not_mem_nil, or_false] at h
  exact ⟨q, hq, h⟩
theorem fill_sz (rows : Rows) : ∀ (names : List Str) (found : Rows) (k : Nat), (∀ p ∈ found, p.items.length ≤ k) → ∀ p ∈ names.foldl (fillStep rows) found, p.items.length ≤ k + names.length
  | [], found, k, h => by simpa using h
  | n :: ns, found, k, h => fun p hp => by
    have := fill_sz rows ns (fillStep rows found n) (k + 1) (fun q hq => by
      obtain ⟨q', hq', e⟩ := fillMore_items (List.mem_filter.mp hq).1
      have := h q' hq'
      rcases e with rfl | rfl <;> simp <;> omega) p hp
    rw [List.length_cons]; omega
theorem fill_sz6 (rows : Rows) (names : List Str) (i : Nat) (h : names.length ≤ 6) : ∀ p ∈ (names.take i).foldl (fillStep rows) [⟨[]⟩], p.items.length ≤ 6 := fun p hp => by
  have := fill_sz rows (names.take i) [⟨[]⟩] 0 (fun q hq => by rw [List.mem_singleton.mp hq]; exact Nat.le_refl _) p hp
  rw [List.length_take] at this; omega
theorem foldl_next {α β : Type} {f : β → α → β} {b : β} {xs : List α} {i : Nat} {x : α} (h : xs[i]? = some x) : (xs.take (i + 1)).foldl f b = f ((xs.take i).foldl f b) x := by
  rw [DL.take_next h, List.foldl_append]; rfl
end DL
namespace DL
open PySem PySem.Spec PyProof.Rows L2 PySem.W PySem.SeqAt
variable [Wd]
theorem both_len (names : List Str) : (names.flatMap fun n => [n, minus ++ n]).length = 2 * names.length := by
  induction names with
  | nil => rfl
  | cons n r ih => rw [List.flatMap_cons, List.length_append, ih]; simp only [List.length_cons, List.length_nil]; omega
theorem names_sset (rows : Rows) : namesL (sset rows) = namesL rows := by
  refine Rise.ext (names_rise _) (names_rise _) fun n => ?_
  rw [mem_namesL, mem_namesL]
  constructor
  · rintro ⟨c, hc, h⟩; exact ⟨c, mem_sset.mp hc, h⟩
  · rintro ⟨c, hc, h⟩; exact ⟨c, mem_sset.mpr hc, h⟩
theorem sset_lenA {α : Type} [DecidableEq α] [DatumOrd α] (xs : List α) : (sset xs).length ≤ xs.length := by unfold sset; rw [(srt_perm _).length_eq]; exact once_len xs
theorem bk_sset {rows : Rows} (h1 : rows.length < 63) (h2 : ∀ c ∈ rows, GoodC c) (h3 : (namesL rows).length ≤ 6) : Bk (sset rows) :=
  ⟨sset_rise _, fun c hc => h2 c (mem_sset.mp hc), Nat.lt_of_le_of_lt (sset_lenA _) h1, by rw [names_sset]; exact h3⟩
theorem flat_len {rows : Rows} {k : Nat} (h : ∀ c ∈ rows, c.items.length ≤ k) : (rows.flatMap (·.items)).length ≤ rows.length * k := by
  induction rows with
  | nil => exact Nat.zero_le _
  | cons c r ih =>
    rw [List.flatMap_cons, List.length_append, List.length_cons, Nat.succ_mul]
    have := ih fun d hd => h d (List.mem_cons_of_mem _ hd)
    have := h c List.mem_cons_self
    omega
theorem Bk.flat {rows : Rows} (h : Bk rows) : (rows.flatMap (·.items)).length ≤ 4000 := by
  have h1 := flat_len h.clen
  have h2 := h.few
  omega
theorem Bk.sset {rows : Rows} (h : Bk rows) : DL.sset rows = rows := sset_eq h.rise fun _ => Iff.rfl
end DL
namespace DL
open PySem PySem.Spec PyProof.Rows L2 PySem.W PySem.SeqAt
variable [Wd]
theorem two_flat {α : Type} (xs : List α) (a b : Str) : (List.flatMap (fun _ => [a, b]) xs).length = 2 * xs.length := by
  induction xs with
  | nil => rfl
  | cons n r ih => rw [List.flatMap_cons, List.length_append, ih]; simp only [List.length_cons, List.length_nil]; omega
theorem ne_nil {α : Type} [DecidableEq α] {xs : List α} (h : xs ≠ []) : decide (xs = []) = false := decide_eq_false h
theorem fillStep_eq (rows found : Rows) (name : Str) : fillStep rows found name = List.map (fun x => x) ((found.flatMap fun p => [name, minus ++ name].map fun l => (⟨p.items ++ [l]⟩ : Tup Str)).filter fun p => !(rows.map (breaksB p)).any id) := (List.map_id' _).symm
end DL
namespace DL
open PySem PySem.Spec PyProof.Rows L2 PySem.W PySem.SeqAt
variable [Wd]
theorem first_some (xs : Rows) : ixD (xs.map some ++ [none]) (0 : Int) = xs[0]? := by
  cases xs with
  | nil => exact ixD_L (i := 0) rfl
  | cons x r => exact ixD_L (i := 0) rfl
theorem allFills_len (rows : Rows) (h : (namesL rows).length ≤ 6) : (allFills rows (namesL rows)).length ≤ 64 := by
  unfold allFills
  rw [(srt_perm _).length_eq, List.length_map]
  refine Nat.le_trans (List.length_filter_le _ _) ?_
  have := fill_take rows (namesL rows) (namesL rows).length h
  rw [List.take_length] at this
  exact this
end DL
namespace DL
open PySem PySem.Spec PyProof.Rows L2 PySem.W PySem.SeqAt
variable [Wd]
theorem ret_bk {C : Addr} {rows : Rows} (h : Bk rows) : ∀ r, So (D.ins C (bkF (sset rows))) r → So (bkD C rows) r := fun r e => by rw [Bk.sset h] at e; exact e
end DL
namespace DL
open PySem PySem.Spec PyProof.Rows L2 PySem.W PySem.SeqAt
variable [Wd]
/-- so many unlike words -/
structure Nm (k : Nat) (names : List Str) : Prop where
  word : ∀ n ∈ names, isWord n = true
  nd : names.Nodup
  few : names.length ≤ k
theorem Nm.sz {k : Nat} {names : List Str} (h : Nm k names) : ∀ n ∈ names, 0 < n.length ∧ n.length ≤ 1000 := fun n hn => by
  have := wlen (h.word n hn); omega
theorem Nm.up {k m : Nat} {names : List Str} (h : Nm k names) (hm : k ≤ m) : Nm m names := ⟨h.word, h.nd, Nat.le_trans h.few hm⟩
theorem Nm.perm {k : Nat} {xs ys : List Str} (h : Nm k xs) (p : ys.Perm xs) : Nm k ys := ⟨fun n hn => h.word n (p.mem_iff.mp hn), p.nodup_iff.mpr h.nd, by rw [p.length_eq]; exact h.few⟩
theorem Nm.srt {k : Nat} {xs : List Str} (h : Nm k xs) : Nm k (DL.srt xs) := h.perm (srt_perm _)
theorem Nm.sub {k : Nat} {xs ys : List Str} (h : Nm k xs) (s : ys.Sublist xs) : Nm k ys := ⟨fun n hn => h.word n (s.subset hn), s.nodup h.nd, Nat.le_trans s.length_le h.few⟩
/-- rows over names -/
structure Rw (names : List Str) (rows : Rows) : Prop where
  rise : Rise rows
  cls : ∀ c ∈ rows, Cls names c
theorem Rw.bk {names : List Str} {rows : Rows} {k : Nat} (h : Rw names rows) (hn : Nm k names) (hk : k ≤ 6) (hr : rows.length < 63) : Bk rows where
  rise := h.rise
  good := fun c hc => (h.cls c hc).good (by have := hn.few; omega)
  few := hr
  nm := by
    have := nodup_sub_len (xs := namesL rows) (ys := names) (names_rise rows).nodup fun n hm => by
      obtain ⟨c, hc, l, hl, rfl⟩ := mem_namesL.mp hm
      exact (h.cls c hc).pt.own l hl
    have := hn.few
    omega
theorem Cls.lens {names : List Str} {c : Tup Str} (h : Cls names c) : ∀ l ∈ c.items, 0 < l.length ∧ l.length ≤ 1000 := fun l hl => by
  have := (h.pt.lit l hl).len; omega
/-! ### the laws' names, signs, rings -/
def nmStep (kvs : List (Str × Bool)) (c : Tup Str) : List (Str × Bool) := c.items.foldl (fun k l => putS k (bareS l) true) kvs
def signStep (found : Rows) (name : Str) : Rows := found.map (fun p => (⟨p.items ++ [name]⟩ : Tup Str)) ++ found.map (fun p => (⟨p.items ++ [minus ++ name]⟩ : Tup Str))
def signsL (names : List Str) : Rows := sset ((names.foldl signStep [⟨[]⟩]).map fun p => (⟨srt p.items⟩ : Tup Str))
def ringStep (found : Rows) (q : Str × Str) : Rows := found ++ [⟨sset [q.1, minus ++ q.2]⟩, ⟨sset [minus ++ q.1, q.2]⟩]
def ringL (names : List Str) : Rows := sset ((names.zip (cut names (some 1) none)).foldl ringStep [⟨sset [ixD names (0 : Int), ixD names (-1 : Int)]⟩, ⟨sset [minus ++ ixD names (0 : Int), minus ++ ixD names (-1 : Int)]⟩])
theorem nm_keys (kvs : List (Str × Bool)) (ls : List Str) : ((ls.foldl (fun k l => putS k (bareS l) true) kvs).map (·.1)) = (ls.map bareS).foldl addK (kvs.map (·.1)) := by
  induction ls generalizing kvs with
  | nil => rfl
  | cons l r ih => rw [List.foldl_cons, ih, putS_keys]; rfl
theorem nm_rows (rows : Rows) (kvs : List (Str × Bool)) : ((rows.foldl nmStep kvs).map (·.1)) = (rows.flatMap fun c => c.items.map bareS).foldl addK (kvs.map (·.1)) := by
  induction rows generalizing kvs with
  | nil => rfl
  | cons c r ih => rw [List.foldl_cons, ih, List.flatMap_cons, List.foldl_append]; unfold nmStep; rw [nm_keys]
theorem nm_eq (rows : Rows) : srt ((rows.foldl nmStep []).map (·.1)) = namesL rows := by rw [nm_rows]; rfl
theorem foldl_addK_len {κ : Type} [DecidableEq κ] (xs acc : List κ) : (xs.foldl addK acc).length ≤ acc.length + xs.length := by
  induction xs generalizing acc with
  | nil => simp
  | cons x r ih => rw [List.foldl_cons, List.length_cons]; have h1 := ih (addK acc x); have h2 := addK_len (l := acc) (k := x); omega
theorem signStep_len (found : Rows) (name : Str) : (signStep found name).length = 2 * found.length := by unfold signStep; rw [List.length_append, List.length_map, List.length_map]; omega
theorem sign_len (names : List Str) (found : Rows) : (names.foldl signStep found).length = 2 ^ names.length * found.length := by
  induction names generalizing found with
  | nil => simp
  | cons n r ih => rw [List.foldl_cons, ih, signStep_len, List.length_cons, Nat.pow_succ, Nat.mul_assoc]
theorem sign_take (names : List Str) (i : Nat) (h : names.length ≤ 6) : ((names.take i).foldl signStep [⟨[]⟩]).length ≤ 64 := by
  rw [sign_len, List.length_singleton, Nat.mul_one]
  exact Nat.le_trans (Nat.pow_le_pow_right (by decide) (show (names.take i).length ≤ 6 by rw [List.length_take]; omega)) (by decide)
theorem sign_sz : ∀ (names : List Str) (found : Rows) (k : Nat), (∀ p ∈ found, p.items.length ≤ k) → ∀ p ∈ names.foldl signStep found, p.items.length ≤ k + names.length
  | [], found, k, h => by simpa using h
  | n :: ns, found, k, h => fun p hp => by
    have := sign_sz ns (signStep found n) (k + 1) (fun q hq => by
      unfold signStep at hq
      rcases List.mem_append.mp hq with hq | hq
      all_goals
        obtain ⟨q', hq', rfl⟩ := List.mem_map.mp hq
        have := h q' hq'
        simp; omega) p hp
    rw [List.length_cons]; omega
theorem sign_sz6 (names : List Str) (i : Nat) (h : names.length ≤ 6) : ∀ p ∈ (names.take i).foldl signStep [⟨[]⟩], p.items.length ≤ 6 := fun p hp => by
  have := sign_sz (names.take i) [⟨[]⟩] 0 (fun q hq => by rw [List.mem_singleton.mp hq]; exact Nat.le_refl _) p hp
  rw [List.length_take] at this; omega
theorem ring_take (zs : List (Str × Str)) (found : Rows) : (zs.foldl ringStep found).length = found.length + 2 * zs.length := by
  induction zs generalizing found with
  | nil => rfl
  | cons z r ih => rw [List.foldl_cons, ih]; unfold ringStep; rw [List.length_append, List.length_cons]; simp only [List.length_cons, List.length_nil]; omega
theorem parts_take (names : List Str) (i : Nat) (h : names.length ≤ 6) : ((names.take i).foldl partStep [⟨[]⟩]).length ≤ 729 := by
  rw [foldl_len, List.length_take, List.length_singleton, Nat.mul_one]
  exact Nat.le_trans (Nat.pow_le_pow_right (by decide) (show min i names.length ≤ 6 by omega)) (by decide)
end DL
namespace DL
open PySem PySem.Spec PyProof.Rows L2 PySem.W PySem.SeqAt
variable [Wd]
theorem nm_sz {rows : Rows} {c : Tup Str} {i j : Nat} (h : (rows.flatMap (·.items)).length ≤ 4000) (hc : rows[i]? = some c) : ((c.items.take j).foldl (fun k l => putS k (bareS l) true) ((rows.take i).foldl nmStep [])).length < sizeLine := by
  have e : ((c.items.take j).foldl (fun k l => putS k (bareS l) true) ((rows.take i).foldl nmStep [])).length = (((c.items.take j).foldl (fun k l => putS k (bareS l) true) ((rows.take i).foldl nmStep [])).map (·.1)).length := (List.length_map ..).symm
  rw [e, nm_keys, nm_rows]
  have h1 := foldl_addK_len ((c.items.take j).map bareS) (((rows.take i).flatMap fun c => c.items.map bareS).foldl addK ((([] : List (Str × Bool))).map (·.1)))
  have h2 := foldl_addK_len ((rows.take i).flatMap fun c => c.items.map bareS) ((([] : List (Str × Bool))).map (·.1))
  have h3 : ((rows.take i).flatMap fun c => c.items.map bareS).length ≤ 4000 := by
    rw [show ((rows.take i).flatMap fun c => c.items.map bareS) = ((rows.take i).flatMap (·.items)).map bareS from by rw [List.map_flatMap], List.length_map]
    refine Nat.le_trans ?_ h
    conv => rhs; rw [← List.take_append_drop i rows, List.flatMap_append, List.length_append]
    exact Nat.le_add_right _ _
  have h4 : ((c.items.take j).map bareS).length ≤ 4000 := by
    rw [List.length_map, List.length_take]
    refine Nat.le_trans (Nat.min_le_right _ _) (Nat.le_trans ?_ h)
    have hm : c ∈ rows := List.mem_of_getElem? hc
    obtain ⟨s, t, rfl⟩ := List.append_of_mem hm
    rw [List.flatMap_append, List.flatMap_cons, List.length_append, List.length_append]
    omega
  have h5 : ((([] : List (Str × Bool))).map (·.1)).length = 0 := rfl
  rw [h5] at h2
  exact Nat.lt_of_le_of_lt (by omega : _ ≤ 8000) (by decide)
theorem nm_few {rows : Rows} (h : (namesL rows).length < 60) : (rows.foldl nmStep []).length < 64 := by
  have e : (rows.foldl nmStep []).length = ((rows.foldl nmStep []).map (·.1)).length := (List.length_map ..).symm
  have q := nm_eq rows
  have := congrArg List.length q
  rw [(srt_perm _).length_eq] at this
  omega
theorem fills_eq (rows : Rows) (names : List Str) : List.map (fun x => x) ((List.map (fun x => x) ((partsL names).filter fun p => decide (((p.items.length : Nat) : Int) = ((names.length : Nat) : Int)))).filter fun p => decide (brokenL rows p = [])) = fillsL rows names := by
  rw [List.map_id', List.map_id']
  unfold fillsL
  exact congrArg (List.filter _) (congrArg (fun f => List.filter f _) (funext fun p => by rw [Bool.eq_iff_iff]; simp only [decide_eq_true_eq]; exact Int.ofNat_inj))
theorem ring_sz (names : List Str) (h : names.length ≤ 6) (i : Nat) {a b : Tup Str} : (((names.zip (cut names (some 1) none)).take i).foldl ringStep [a, b]).length ≤ 20 := by
  rw [ring_take, List.length_take, List.length_zip]
  simp only [List.length_cons, List.length_nil]
  omega
theorem ixD_in0 {names : List Str} (h : 1 ≤ names.length) : ixD names (0 : Int) ∈ names := ixD_mem (by intro e; rw [e] at h; simp at h)
theorem atI_last {α : Type} {xs : List α} (h : 1 ≤ xs.length) : atI xs (-1) = xs[xs.length - 1]? := by
  unfold atI ixN
  rw [if_neg (by omega), if_pos (by omega)]
  show xs[((xs.length : Int) + -1).toNat]? = _
  rw [show ((xs.length : Int) + -1).toNat = xs.length - 1 by omega]
theorem ixD_last {names : List Str} (h : 1 ≤ names.length) : ∃ x, names[names.length - 1]? = some x ∧ ixD names (-1 : Int) = x := by
  refine ⟨names[names.length - 1]'(by omega), List.getElem?_eq_getElem (by omega), ?_⟩
  unfold ixD
  rw [get_L, atI_last h, List.getElem?_eq_getElem (by omega)]; rfl
theorem ixD_in1 {names : List Str} (h : 1 ≤ names.length) : ixD names (-1 : Int) ∈ names := by
  obtain ⟨x, h1, h2⟩ := ixD_last h
  rw [h2]; exact List.mem_of_getElem? h1
theorem some_last {α : Type} [DecidableEq α] [Datum α] {xs : List α} (h : 1 ≤ xs.length) : (PyIx.get xs (-1)).isSome = true := by
  rw [get_L, atI_last h, List.getElem?_eq_getElem (by omega)]; rfl
theorem zip_in {names : List Str} {i : Nat} {q : Str × Str} (h : (names.zip (cut names (some 1) none))[i]? = some q) : q.1 ∈ names ∧ q.2 ∈ names := by
  have := List.mem_of_getElem? h
  obtain ⟨a, b⟩ := q
  exact ⟨(List.of_mem_zip this).1, mem_cut (List.of_mem_zip this).2⟩
end DL
end

section
set_option Elab.async false
set_option linter.all false
set_option maxRecDepth 100000
set_option maxHeartbeats 4000000
set_option autoImplicit false
namespace Lk36
open PySem PySem.Spec PyProof.Rows L2 PySem.W PySem.SeqAt DL
variable [Wd]
section
variable {P : Program} {w : World} {K : PySem.W.Frag} {mg : Str → Option Value} {base : Heap}
abbrev N_is_word : List Str := ["value", "letter"]
theorem sc_is_word : FnScope N_is_word ["value"] (defScope s_is_word) := ⟨rfl, rfl, rfl, by decide +kernel, rfl, by decide +kernel, by decide +kernel⟩
abbrev ct_is_word : Ct := fun ds S => ∃ (x : Str), ds = [dt x] ∧ (x.length ≤ 1000) ∧ S = Sd (dt (isWord x))
theorem ok_is_word (F : Facts K mg) : Fn P w K mg base 1 "is_word" 0 ct_is_word := by
  refine fn_df F.F_is_word sc_is_word (fun ds S ⟨x, h, _⟩ => by rw [h]; rfl) fun f cdv A outer s H E B ds S hr hC => ?_
  obtain ⟨x, rfl, hp, rfl⟩ := hC
  have hu := hr.units
  have nd := sc_is_word.nd
  refine ⟨_, ?hc, (sv_at (Γ1 := [_, _]) rfl (sv_guard (wv_ord (tv_notd (tv_d (ev_isi (n := "str") F.m_isinstance F.m_str (ev_var 0 rfl)))) (fun h1 => (wv_or1 (tv_notd (tv_chain (ro_lt hu) (ro_lt hu) ev_int (py_len F.m_len (ev_var 0 rfl) ?o1) ev_int))))).pt (fun gt1 => (sv_one (s_ret ev_bl ?o2))) (fun gf1 => (sv_one (s_ret (py_all rfl F.m_all (ev_sh ((lc_0 (own := [("letter", 1)]) (Γ' := fun d => (wipeE _ [1]).set 1 (.sh (dt d))) (py_it (ev_var 0 rfl) ?o3) (blkOk_by (N := N_is_word) (sc := defScope s_is_word) (by decide +kernel)) (fun d => tg_name (by decide)) (fun _ _ _ _ _ => pg_name (i := 1) nd rfl (Or.inl rfl)) (fun x1 hx1 _ _ _ _ _ => (ev_chain (ro_le hu) (ro_le hu) ev_str (ev_var 1 rfl) ev_str))).ev rfl nd))) ?o4)))))⟩
  case hc => decide
  case o1 => first | trivial | exact sz_of (by omega)
  case o2 => exact ret_of (or_no (isa_str x) gt1)
  case o3 => first | trivial | exact sz_of (by omega)
  case o4 => exact ret_of (or_yes (isa_str x) gf1 all_id)

abbrev N_is_rising__T : List Str := ["things", "at"]
theorem sc_is_rising__T : FnScope N_is_rising__T ["things"] (defScope s_is_rising) := ⟨rfl, rfl, rfl, by decide +kernel, rfl, by decide +kernel, by decide +kernel⟩
abbrev ct_is_rising__T : Ct := fun ds S => ∃ (xs : Tup Str), ds = [dt xs] ∧ (xs.items.length ≤ 1000) ∧ S = Sd (dt (riseB xs.items))
theorem ok_is_rising__T (F : Facts K mg) : Fn P w K mg base 1 "is_rising" 0 ct_is_rising__T := by
  refine fn_df F.F_is_rising sc_is_rising__T (fun ds S ⟨xs, h, _⟩ => by rw [h]; rfl) fun f cdv A outer s H E B ds S hr hC => ?_
  obtain ⟨xs, rfl, hp, rfl⟩ := hC
  have hu := hr.units
  have nd := sc_is_rising__T.nd
  refine ⟨_, ?hc, (sv_one (s_ret (py_all rfl F.m_all (ev_sh ((lc_0 (own := [("at", 1)]) (Γ' := fun d => (wipeE _ [1]).set 1 (.sh (dt d))) (iv_range2 F.m_range (av_cons ev_int (av_cons (py_len F.m_len (ev_var 0 rfl) ?o1) av_nil)) ?o2) (blkOk_by (N := N_is_rising__T) (sc := defScope s_is_rising) (by decide +kernel)) (fun d => tg_name (by decide)) (fun _ _ _ _ _ => pg_name (i := 1) nd rfl (Or.inl rfl)) (fun x1 hx1 _ _ _ _ _ => (ev_lt hu (py_ixD (ev_var 0 rfl) (ev_sub (ev_var 1 rfl) ev_int) ?o3 ?o4) (py_ixD (ev_var 0 rfl) (ev_var 1 rfl) ?o5 ?o6)))).ev rfl nd))) ?o7))⟩
  case hc => decide
  case o1 => first | trivial | exact sz_of (by omega)
  case o2 => have e : PyLen.len xs = xs.items.length := rfl; rw [e]; omega
  case o3 => have q := mem_up.mp hx1; have e : PyLen.len xs = xs.items.length := rfl; rw [e] at q; exact some_T (by omega)
  case o4 => first | trivial | exact sz_of (by omega)
  case o5 => have q := mem_up.mp hx1; have e : PyLen.len xs = xs.items.length := rfl; rw [e] at q; exact some_T (by omega)
  case o6 => first | trivial | exact sz_of (by omega)
  case o7 => exact ret_of (rise_up xs.items)

abbrev N_turned_one : List Str := ["literal"]
theorem sc_turned_one : FnScope N_turned_one ["literal"] (defScope s_turned_one) := ⟨rfl, rfl, rfl, by decide +kernel, rfl, by decide +kernel, by decide +kernel⟩
abbrev ct_turned_one : Ct := fun ds S => ∃ (x : Str), ds = [dt x] ∧ (0 < x.length ∧ x.length ≤ 1000) ∧ S = Sd (dt (turnS x))
theorem ok_turned_one (F : Facts K mg) : Fn P w K mg base 1 "turned_one" 0 ct_turned_one := by
  refine fn_df F.F_turned_one sc_turned_one (fun ds S ⟨x, h, _⟩ => by rw [h]; rfl) fun f cdv A outer s H E B ds S hr hC => ?_
  obtain ⟨x, rfl, hp, rfl⟩ := hC
  have hu := hr.units
  have nd := sc_turned_one.nd
  refine ⟨_, ?hc, (sv_one (s_ret (ev_ite (tv_eq hu (py_ixD (ev_var 0 rfl) ev_int ?o1 ?o2) ev_str) (fun it1 => (py_sl (ev_var 0 rfl) (pv_so ev_int) pv_no ?o3)) (fun ie1 => (py_add ev_str (ev_var 0 rfl) ?o4))) ?o5))⟩
  case hc => decide
  case o1 => exact some_S (by omega)
  case o2 => first | trivial | exact sz_of (by omega)
  case o3 => first | trivial | exact sz_of (by omega)
  case o4 => exact sz_of (by show minus.length + x.length ≤ _; have : minus.length = 1 := rfl; omega)
  case o5 => exact ret_of rfl

abbrev N_bare : List Str := ["literal"]
theorem sc_bare : FnScope N_bare ["literal"] (defScope s_bare) := ⟨rfl, rfl, rfl, by decide +kernel, rfl, by decide +kernel, by decide +kernel⟩
abbrev ct_bare : Ct := fun ds S => ∃ (x : Str), ds = [dt x] ∧ (0 < x.length ∧ x.length ≤ 1000) ∧ S = Sd (dt (bareS x))
theorem ok_bare (F : Facts K mg) : Fn P w K mg base 1 "bare" 0 ct_bare := by
  refine fn_df F.F_bare sc_bare (fun ds S ⟨x, h, _⟩ => by rw [h]; rfl) fun f cdv A outer s H E B ds S hr hC => ?_
  obtain ⟨x, rfl, hp, rfl⟩ := hC
  have hu := hr.units
  have nd := sc_bare.nd
  refine ⟨_, ?hc, (sv_one (s_ret (ev_ite (tv_eq hu (py_ixD (ev_var 0 rfl) ev_int ?o1 ?o2) ev_str) (fun it1 => (py_sl (ev_var 0 rfl) (pv_so ev_int) pv_no ?o3)) (fun ie1 => (ev_var 0 rfl))) ?o4))⟩
  case hc => decide
  case o1 => exact some_S (by omega)
  case o2 => first | trivial | exact sz_of (by omega)
  case o3 => first | trivial | exact sz_of (by omega)
  case o4 => exact ret_of rfl

abbrev N_are_unlike : List Str := ["literals", "literal"]
theorem sc_are_unlike : FnScope N_are_unlike ["literals"] (defScope s_are_unlike) := ⟨rfl, rfl, rfl, by decide +kernel, rfl, by decide +kernel, by decide +kernel⟩
abbrev ct_are_unlike : Ct := fun ds S => ∃ (xs : Tup Str), ds = [dt xs] ∧ (xs.items.length ≤ 1000 ∧ ∀ l ∈ xs.items, 0 < l.length ∧ l.length ≤ 1000) ∧ S = Sd (dt (unlikeB xs.items))
theorem ok_are_unlike (F : Facts K mg) : Fn P w K mg base 2 "are_unlike" 0 ct_are_unlike := by
  refine fn_df F.F_are_unlike sc_are_unlike (fun ds S ⟨xs, h, _⟩ => by rw [h]; rfl) fun f cdv A outer s H E B ds S hr hC => ?_
  obtain ⟨xs, rfl, hp, rfl⟩ := hC
  have hu := hr.units
  have nd := sc_are_unlike.nd
  refine ⟨_, ?hc, (sv_one (s_ret (ev_eq hu (ev_lenSet rfl F.m_len F.m_set (ev_sh ((lc_0 (own := [("literal", 1)]) (Γ' := fun d => (wipeE _ [1]).set 1 (.sh (dt d))) (py_it (ev_var 0 rfl) ?o1) (blkOk_by (N := N_are_unlike) (sc := defScope s_are_unlike) (by decide +kernel)) (fun d => tg_name (by decide)) (fun _ _ _ _ _ => pg_name (i := 1) nd rfl (Or.inl rfl)) (fun x1 hx1 _ _ _ _ _ => (ev_call ((ok_bare F).mono (by decide)) hr (av_cons (ev_var 1 rfl) av_nil) ⟨_, rfl, ?o2, rfl⟩))).ev rfl nd)) ?o3) (py_len F.m_len (ev_var 0 rfl) ?o4)) ?o5))⟩
  case hc => decide
  case o1 => first | trivial | exact sz_of (by omega)
  case o2 => exact hp.2 _ hx1
  case o3 => show (List.map bareS xs.items).length + 1 < 4096; rw [List.length_map]; omega
  case o4 => first | trivial | exact sz_of (by omega)
  case o5 => exact ret_of (unl_eq xs.items)

abbrev N_is_literal : List Str := ["value"]
theorem sc_is_literal : FnScope N_is_literal ["value"] (defScope s_is_literal) := ⟨rfl, rfl, rfl, by decide +kernel, rfl, by decide +kernel, by decide +kernel⟩
abbrev ct_is_literal : Ct := fun ds S => ∃ (x : Str), ds = [dt x] ∧ (x.length ≤ 1000) ∧ S = Sd (dt (isLit x))
theorem ok_is_literal (F : Facts K mg) : Fn P w K mg base 2 "is_literal" 0 ct_is_literal := by
  refine fn_df F.F_is_literal sc_is_literal (fun ds S ⟨x, h, _⟩ => by rw [h]; rfl) fun f cdv A outer s H E B ds S hr hC => ?_
  obtain ⟨x, rfl, hp, rfl⟩ := hC
  have hu := hr.units
  have nd := sc_is_literal.nd
  refine ⟨_, ?hc, (sv_one (s_ret (ev_and (ev_isi (n := "str") F.m_isinstance F.m_str (ev_var 0 rfl)) (fun h1 => (ev_one (ev_call ((ok_is_word F).mono (by decide)) hr (av_cons (ev_ite (tv_eq hu (py_sl (ev_var 0 rfl) pv_no (pv_so ev_int) ?o2) ev_str) (fun it1 => (py_sl (ev_var 0 rfl) (pv_so ev_int) pv_no ?o3)) (fun ie1 => (ev_var 0 rfl))) av_nil) ⟨_, rfl, ?o1, rfl⟩)))) ?o4))⟩
  case hc => decide
  case o1 => exact lit_pre hp
  case o2 => first | trivial | exact sz_of (by omega)
  case o3 => first | trivial | exact sz_of (by omega)
  case o4 => exact ret_of (and_t (isa_str x) rfl)

abbrev N_is_clause : List Str := ["value", "literal"]
theorem sc_is_clause : FnScope N_is_clause ["value"] (defScope s_is_clause) := ⟨rfl, rfl, rfl, by decide +kernel, rfl, by decide +kernel, by decide +kernel⟩
abbrev ct_is_clause : Ct := fun ds S => ∃ (xs : Tup Str), ds = [dt xs] ∧ (xs.items.length ≤ 1000 ∧ ∀ l ∈ xs.items, l.length ≤ 1000) ∧ S = Sd (dt (isCl xs.items))
theorem ok_is_clause (F : Facts K mg) : Fn P w K mg base 3 "is_clause" 0 ct_is_clause := by
  refine fn_df F.F_is_clause sc_is_clause (fun ds S ⟨xs, h, _⟩ => by rw [h]; rfl) fun f cdv A outer s H E B ds S hr hC => ?_
  obtain ⟨xs, rfl, hp, rfl⟩ := hC
  have hu := hr.units
  have nd := sc_is_clause.nd
  refine ⟨_, ?hc, (sv_at (Γ1 := [_, _]) rfl (sv_guard (wv_ord (tv_notd (tv_d (ev_isi (n := "tuple") F.m_isinstance F.m_tuple (ev_var 0 rfl)))) (fun h1 => (wv_or1 (tv_notd (tv_d (py_all rfl F.m_all (ev_sh ((lc_0 (own := [("literal", 1)]) (Γ' := fun d => (wipeE _ [1]).set 1 (.sh (dt d))) (py_it (ev_var 0 rfl) ?o1) (blkOk_by (N := N_is_clause) (sc := defScope s_is_clause) (by decide +kernel)) (fun d => tg_name (by decide)) (fun _ _ _ _ _ => pg_name (i := 1) nd rfl (Or.inl rfl)) (fun x1 hx1 _ _ _ _ _ => (ev_call ((ok_is_literal F).mono (by decide)) hr (av_cons (ev_var 1 rfl) av_nil) ⟨_, rfl, ?o2, rfl⟩))).ev rfl nd)))))))).pt (fun gt1 => (sv_one (s_ret ev_bl ?o3))) (fun gf1 => (sv_one (s_ret (ev_and (ev_call ((ok_is_rising__T F).mono (by decide)) hr (av_cons (ev_var 0 rfl) av_nil) ⟨_, rfl, ?o4, rfl⟩) (fun h2 => (ev_one (ev_call ((ok_are_unlike F).mono (by decide)) hr (av_cons (ev_var 0 rfl) av_nil) ⟨_, rfl, ?o5, rfl⟩)))) ?o6)))))⟩
  case hc => decide
  case o1 => first | trivial | exact sz_of (by omega)
  case o2 => exact hp.2 _ hx1
  case o3 => exact ret_of (or_no (isa_tup xs) (by rw [← all_id]; exact gt1))
  case o4 => exact hp.1
  case o5 => exact ⟨hp.1, fun l hl => ⟨lit_len (List.all_eq_true.mp (all_or (b := true) (isa_tup xs) (by rw [← all_id]; exact gf1)) l hl), hp.2 l hl⟩⟩
  case o6 => exact ret_of (or_yes (isa_tup xs) (by rw [← all_id]; exact gf1) rfl)

abbrev N_in_order__T : List Str := ["literals"]
theorem sc_in_order__T : FnScope N_in_order__T ["literals"] (defScope s_in_order) := ⟨rfl, rfl, rfl, by decide +kernel, rfl, by decide +kernel, by decide +kernel⟩
abbrev ct_in_order__T : Ct := fun ds S => ∃ (xs : Tup Str), ds = [dt xs] ∧ (xs.items.length ≤ 1000) ∧ S = Sd (dt (⟨sset xs.items⟩ : Tup Str))
theorem ok_in_order__T (F : Facts K mg) : Fn P w K mg base 1 "in_order" 0 ct_in_order__T := by
  refine fn_df F.F_in_order sc_in_order__T (fun ds S ⟨xs, h, _⟩ => by rw [h]; rfl) fun f cdv A outer s H E B ds S hr hC => ?_
  obtain ⟨xs, rfl, hp, rfl⟩ := hC
  have hu := hr.units
  have nd := sc_in_order__T.nd
  refine ⟨_, ?hc, (sv_one (s_ret (ev_tupleOf F.m_tuple (ev_sh (ev_sortedSet hu rfl F.m_sorted F.m_set (ev_var 0 rfl) ?o1))) ?o2))⟩
  case hc => decide
  case o1 => show xs.items.length + 1 < 4096; omega
  case o2 => exact ret_of rfl

abbrev N_in_order__L : List Str := ["literals"]
theorem sc_in_order__L : FnScope N_in_order__L ["literals"] (defScope s_in_order) := ⟨rfl, rfl, rfl, by decide +kernel, rfl, by decide +kernel, by decide +kernel⟩
abbrev ct_in_order__L : Ct := fun ds S => ∃ (xs : List Str), ds = [dt xs] ∧ (xs.length ≤ 1000) ∧ S = Sd (dt (⟨sset xs⟩ : Tup Str))
theorem ok_in_order__L (F : Facts K mg) : Fn P w K mg base 1 "in_order" 0 ct_in_order__L := by
  refine fn_df F.F_in_order sc_in_order__L (fun ds S ⟨xs, h, _⟩ => by rw [h]; rfl) fun f cdv A outer s H E B ds S hr hC => ?_
  obtain ⟨xs, rfl, hp, rfl⟩ := hC
  have hu := hr.units
  have nd := sc_in_order__L.nd
  refine ⟨_, ?hc, (sv_one (s_ret (ev_tupleOf F.m_tuple (ev_sh (ev_sortedSet hu rfl F.m_sorted F.m_set (ev_var 0 rfl) ?o1))) ?o2))⟩
  case hc => decide
  case o1 => show xs.length + 1 < 4096; omega
  case o2 => exact ret_of rfl

end
end Lk36
end

section
set_option Elab.async false
set_option linter.all false
set_option maxRecDepth 100000
set_option maxHeartbeats 4000000
set_option autoImplicit false
namespace Lk36
open PySem PySem.Spec PyProof.Rows L2 PySem.W PySem.SeqAt DL
variable [Wd]
section
variable {P : Program} {w : World} {K : PySem.W.Frag} {mg : Str → Option Value} {base : Heap}
abbrev N_names_in : List Str := ["rows", "literal", "clause"]
theorem sc_names_in : FnScope N_names_in ["rows"] (defScope s_names_in) := ⟨rfl, rfl, rfl, by decide +kernel, rfl, by decide +kernel, by decide +kernel⟩
abbrev ct_names_in : Ct := fun ds S => ∃ (rows : Rows), ds = [dt rows] ∧ ((∀ c ∈ rows, ∀ l ∈ c.items, 0 < l.length ∧ l.length ≤ 1000) ∧ (rows.flatMap (·.items)).length ≤ 4000) ∧ S = So (dt (namesL rows))
theorem ok_names_in (F : Facts K mg) : Fn P w K mg base 2 "names_in" 0 ct_names_in := by
  refine fn_df F.F_names_in sc_names_in (fun ds S ⟨xs, h, _⟩ => by rw [h]; rfl) fun f cdv A outer s H E B ds S hr hC => ?_
  obtain ⟨rows, rfl, hp, rfl⟩ := hC
  have hu := hr.units
  have nd := sc_names_in.nd
  refine ⟨_, ?hc, (sv_one (s_ret (ev_sortedSet hu rfl F.m_sorted F.m_set (ev_sh (ev_lc2T (c1 := 0) (c3 := 0 + 0 + 0) (own := [("literal", 1), ("clause", 2)]) (vs1 := [1]) (zs := fun c : Tup Str => c.items) (Γ' := fun d => (wipeE _ [1, 2]).set 2 (.sh (dt d))) (Γ'' := fun d z => (wipeE ((wipeE _ [1, 2]).set 2 (.sh (dt d))) [1]).set 1 (.sh (dt z))) rfl nd
    (py_it (ev_var 0 rfl) ?o1) (blkOk_by (N := N_names_in) (sc := defScope s_names_in) (by decide +kernel)) (by decide) (fun d => tg_name (by decide)) (fun d z => tg_name (by decide)) ?o2 (fun _ _ _ _ _ => pg_name (i := 2) nd rfl (Or.inl rfl))
    (fun d hd _ _ _ _ _ => by
      refine iv_tup (xs := d) ?_
      exact ev_var 2 rfl) (fun _ _ _ _ _ => pg_name (i := 1) nd rfl (Or.inl rfl)) (fun d hd z hz _ _ _ _ _ => by exact ev_call ((ok_bare F).mono (by decide)) hr (av_cons (ev_var 1 rfl) av_nil) ⟨_, rfl, hp.1 d hd z hz, rfl⟩))) ?o5) ?o6))⟩
  case hc => decide
  case o1 => trivial
  case o2 => show (rows.flatMap (·.items)).length ≤ sizeLine; have := hp.2; rw [sizeLine_eq]; omega
  case o5 =>
    show (rows.flatMap fun d => d.items.map bareS).length + 1 < 4096
    have e : (rows.flatMap fun d => d.items.map bareS) = (rows.flatMap (·.items)).map bareS := by rw [List.map_flatMap]
    rw [e, List.length_map]
    have := hp.2
    omega
  case o6 => exact ret_ow rfl

abbrev N_check_book : List Str := ["value"]
theorem sc_check_book : FnScope N_check_book ["value"] (defScope s_check_book) := ⟨rfl, rfl, rfl, by decide +kernel, rfl, by decide +kernel, by decide +kernel⟩
abbrev ct_check_book (C : Addr) : Ct := fun ds S => ∃ (rows : Rows), ds = [bkD C rows] ∧ (True) ∧ S = Sd (dt ())
theorem ok_check_book (F : Facts K mg) {C : Addr} (Bk : BookF K mg s_Book_init s_Book_clauses s_Book_variables C) : Fn P w K mg base 1 "check_book" 0 (ct_check_book C) := by
  refine fn_df F.F_check_book sc_check_book (fun ds S ⟨rows, h, _⟩ => by rw [h]; rfl) fun f cdv A outer s H E B ds S hr hC => ?_
  obtain ⟨rows, rfl, hp, rfl⟩ := hC
  have hu := hr.units
  have nd := sc_check_book.nd
  refine ⟨_, ?hc, (sv_at (Γ1 := [_]) rfl (sv_passq (tv_notd (tv_d (ev_isC Bk.isi F.m_isinstance Bk.mgC (ev_var 0 rfl)))) ?o1 (sv_end ?o2)))⟩
  case hc => decide
  case o1 => rfl
  case o2 => rfl

abbrev N_clauses : List Str := ["self"]
theorem sc_clauses : FnScope N_clauses ["self"] (defScope s_Book_clauses) := ⟨rfl, rfl, rfl, by decide +kernel, rfl, by decide +kernel, by decide +kernel⟩
abbrev ct_clauses (C : Addr) : Ct := fun ds S => ∃ (fs : List (Str × D)) (rows : List (Tup Str)), ds = [.ins C fs] ∧ fs.lookup ("rows" : Str) = some (dt rows) ∧ S = So (dt rows)
theorem ok_clauses (F : Facts K mg) {C : Addr} (Bk : BookF K mg s_Book_init s_Book_clauses s_Book_variables C) : MtF P w K mg base 1 C "clauses" 0 (ct_clauses C) := by
  refine fn_dfM Bk.mC sc_clauses (fun ds S ⟨xs, _, h, _⟩ => by rw [h]; rfl) fun f cdv A outer s H E B ds S hr hC => ?_
  obtain ⟨fs, rows, rfl, hl, rfl⟩ := hC
  have hu := hr.units
  have nd := sc_clauses.nd
  refine ⟨_, ?hc, sv_one (s_ret (ev_listOf F.m_list (ev_fld Bk.cl Bk.nR (ev_var 0 rfl) hl) rfl rfl rfl) (ret_ow rfl))⟩
  case hc => decide

abbrev N_are_clauses : List Str := ["value", "clause"]
theorem sc_are_clauses : FnScope N_are_clauses ["value"] (defScope s_are_clauses) := ⟨rfl, rfl, rfl, by decide +kernel, rfl, by decide +kernel, by decide +kernel⟩
abbrev ct_are_clauses : Ct := fun ds S => ∃ (rows : List (Tup Str)), ds = [dt rows] ∧ (rows.length ≤ 1000 ∧ ∀ c ∈ rows, GoodC c) ∧ S = Sd (dt true)
theorem ok_are_clauses (F : Facts K mg) : Fn P w K mg base 4 "are_clauses" 0 ct_are_clauses := by
  refine fn_df F.F_are_clauses sc_are_clauses (fun ds S ⟨rows, h, _⟩ => by rw [h]; rfl) fun f cdv A outer s H E B ds S hr hC => ?_
  obtain ⟨rows, rfl, hp, rfl⟩ := hC
  have hu := hr.units
  have nd := sc_are_clauses.nd
  refine ⟨_, ?hc, (sv_one (s_ret (ev_and (ev_isi (n := "list") F.m_isinstance F.m_list (ev_var 0 rfl)) (fun h1 => (ev_one (py_all rfl F.m_all (ev_sh ((lc_0 (own := [("clause", 1)]) (Γ' := fun d => (wipeE _ [1]).set 1 (.sh (dt d))) (py_it (ev_var 0 rfl) ?o1) (blkOk_by (N := N_are_clauses) (sc := defScope s_are_clauses) (by decide +kernel)) (fun d => tg_name (by decide)) (fun _ _ _ _ _ => pg_name (i := 1) nd rfl (Or.inl rfl)) (fun x1 hx1 _ _ _ _ _ => (ev_call ((ok_is_clause F).mono (by decide)) hr (av_cons (ev_var 1 rfl) av_nil) ⟨_, rfl, ?o2, rfl⟩))).ev rfl nd)))))) ?o3))⟩
  case hc => decide
  case o1 => first | trivial | exact sz_of (by omega)
  case o2 => exact ⟨(hp.2 _ hx1).n, (hp.2 _ hx1).z⟩
  case o3 => exact ret_of (and_t (isa_list rows) (by rw [all_id]; exact List.all_eq_true.mpr fun c hc => (hp.2 c hc).cl))

abbrev N_Book_init : List Str := ["self", "clauses"]
theorem sc_Book_init : FnScope N_Book_init ["self", "clauses"] (defScope s_Book_init) := ⟨rfl, rfl, rfl, by decide +kernel, rfl, by decide +kernel, by decide +kernel⟩
abbrev ct_init : List D → List (Str × D) → Prop := fun ds fs => ∃ rows : Rows, ds = [dt rows] ∧ (rows.length < 63 ∧ (∀ c ∈ rows, GoodC c) ∧ (namesL rows).length ≤ 6) ∧ fs = bkF (sset rows)
theorem ok_init (F : Facts K mg) {C : Addr} (Bk : BookF K mg s_Book_init s_Book_clauses s_Book_variables C) : Ini P w K mg base 5 C 0 ct_init := by
  refine fn_init Bk.mI Bk.mks Bk.kp sc_Book_init (fun ds S ⟨xs, h, _⟩ => by rw [h]; rfl) fun f cdv A outer s H E B ds fs hr hC => ?_
  obtain ⟨rows, rfl, hp, rfl⟩ := hC
  have hu := hr.units
  have nd := sc_Book_init.nd
  have gd : DL.Bk (sset rows) := bk_sset hp.1 hp.2.1 hp.2.2
  refine ⟨_, ?hc, fx_skipq (tv_notd (tv_d (ev_call ((ok_are_clauses F).mono (by decide)) hr (av_cons (ev_var 1 rfl) av_nil) ⟨_, rfl, ⟨by omega, hp.2.1⟩, rfl⟩))) rfl
    (fx_fld 0 Bk.cl Bk.nR rfl (Nat.le_of_ble_eq_true rfl) (ev_sh (ev_sortedSetN hu rfl F.m_sorted F.m_set (ev_var 1 rfl) hp.1))
    (fx_fld 0 Bk.cl Bk.nN rfl (Nat.le_of_ble_eq_true rfl) (ev_sh (ev_call ((ok_names_in F).mono (by decide)) hr (av_cons (ev_fldO 0 Bk.cl Bk.nR rfl rfl) av_nil) ⟨_, rfl, ?q1, rfl⟩))
    (fx_fld 0 Bk.cl Bk.nK rfl (Nat.le_of_ble_eq_true rfl) (ev_memo0 (t := tagOf (sset rows))) (fx_nil rfl))))⟩
  case hc => decide
  case q1 => exact ⟨fun c hc l hl => (gd.good c hc).len l hl, gd.flat⟩

abbrev N_breaks : List Str := ["part", "clause", "literal"]
theorem sc_breaks : FnScope N_breaks ["part", "clause"] (defScope s_breaks) := ⟨rfl, rfl, rfl, by decide +kernel, rfl, by decide +kernel, by decide +kernel⟩
abbrev ct_breaks : Ct := fun ds S => ∃ (part : Tup Str) (c : Tup Str), ds = [dt part, dt c] ∧ (∀ l ∈ c.items, 0 < l.length ∧ l.length ≤ 1000) ∧ S = Sd (dt (breaksB part c))
theorem ok_breaks (F : Facts K mg) : Fn P w K mg base 2 "breaks" 0 ct_breaks := by
  refine fn_df F.F_breaks sc_breaks (fun ds S ⟨part, c, h, _⟩ => by rw [h]; rfl) fun f cdv A outer s H E B ds S hr hC => ?_
  obtain ⟨part, c, rfl, hp, rfl⟩ := hC
  have hu := hr.units
  have nd := sc_breaks.nd
  refine ⟨_, ?hc, (sv_one (s_ret (py_all rfl F.m_all (ev_sh ((lc_0 (own := [("literal", 2)]) (Γ' := fun d => (wipeE _ [2]).set 2 (.sh (dt d))) (py_it (ev_var 1 rfl) ?o1) (blkOk_by (N := N_breaks) (sc := defScope s_breaks) (by decide +kernel)) (fun d => tg_name (by decide)) (fun _ _ _ _ _ => pg_name (i := 2) nd rfl (Or.inl rfl)) (fun x1 hx1 _ _ _ _ _ => (py_in hu (ev_call ((ok_turned_one F).mono (by decide)) hr (av_cons (ev_var 2 rfl) av_nil) ⟨_, rfl, ?o2, rfl⟩) (ev_var 0 rfl)))).ev rfl nd))) ?o3))⟩
  case hc => decide
  case o1 => first | trivial | exact sz_of (by omega)
  case o2 => exact hp _ hx1
  case o3 => exact ret_of (by rw [all_id]; rfl)

abbrev N_both_of : List Str := ["names", "name", "literal"]
theorem sc_both_of : FnScope N_both_of ["names"] (defScope s_both_of) := ⟨rfl, rfl, rfl, by decide +kernel, rfl, by decide +kernel, by decide +kernel⟩
abbrev ct_both_of : Ct := fun ds S => ∃ (names : List Str), ds = [dt names] ∧ (names.length ≤ 1000 ∧ ∀ n ∈ names, n.length ≤ 1000) ∧ S = So (dt (bothL names))
theorem ok_both_of (F : Facts K mg) : Fn P w K mg base 1 "both_of" 0 ct_both_of := by
  refine fn_df F.F_both_of sc_both_of (fun ds S ⟨names, h, _⟩ => by rw [h]; rfl) fun f cdv A outer s H E B ds S hr hC => ?_
  obtain ⟨names, rfl, hp, rfl⟩ := hC
  have hu := hr.units
  have nd := sc_both_of.nd
  refine ⟨_, ?hc, (sv_one (s_ret (((lc2_T (c1 := 0) (c3 := 0) (own := [("literal", 2), ("name", 1)]) (vs1 := [2]) (zs := fun n => [n, minus ++ n]) (f := fun _ z => z) (Γ' := fun d : Str => (wipeE _ [2, 1]).set 1 (.sh (dt d))) (Γ'' := fun (d : Str) (z : Str) => (wipeE ((wipeE _ [2, 1]).set 1 (.sh (dt d))) [2]).set 2 (.sh (dt z))) (py_it (ev_var 0 rfl) ?o1) (blkOk_by (N := N_both_of) (sc := defScope s_both_of) (by decide +kernel)) (by decide) (fun d => tg_name (by decide)) (fun d z => tg_name (by decide)) ?o4 (fun _ _ _ _ _ => pg_name (i := 1) nd rfl (Or.inl rfl)) (fun x1 hx1 _ _ _ _ _ => iv_up ((py_it (ev_tupT (avt_cons (ev_var 1 rfl) (avt_cons (py_add ev_str (ev_var 1 rfl) ?o2) avt_nil))) ?o3))) (fun _ _ _ _ _ => pg_name (i := 2) nd rfl (Or.inl rfl)) (fun x1 hx1 z1 hz1 _ _ _ _ _ => ev_up ((ev_var 2 rfl))))).ev rfl nd) ?o5))⟩
  case hc => decide
  case o1 => trivial
  case o2 => exact sz_of (by have := hp.2 _ hx1; show minus.length + x1.length ≤ _; have : minus.length = 1 := rfl; omega)
  case o3 => trivial
  case o4 => exact sz_of (by show (names.flatMap fun n => [n, minus ++ n]).length ≤ _; rw [both_len]; have := hp.1; omega)
  case o5 => exact ret_ow (by unfold bothL; exact congrArg (fun g => List.flatMap g names) (funext fun n => List.map_id' _))

end
end Lk36
end

section
set_option Elab.async false
set_option linter.all false
set_option maxRecDepth 100000
set_option maxHeartbeats 4000000
set_option autoImplicit false
namespace Lk36
open PySem PySem.Spec PyProof.Rows L2 PySem.W PySem.SeqAt DL
variable [Wd]
section
variable {P : Program} {w : World} {K : PySem.W.Frag} {mg : Str → Option Value} {base : Heap}
abbrev N_all_fillings : List Str := ["book", "found", "name", "whole", "part", "literal", "clause"]
theorem sc_all_fillings : FnScope N_all_fillings ["book"] (defScope s_all_fillings) := ⟨rfl, rfl, rfl, by decide +kernel, rfl, by decide +kernel, by decide +kernel⟩
abbrev ct_all_fillings (C : Addr) : Ct := fun ds S => ∃ (rows : Rows), ds = [bkD C rows] ∧ (Bk rows) ∧ S = So (dt (allFills rows (namesL rows)))
theorem ok_all_fillings (F : Facts K mg) {C : Addr} (Bk : BookF K mg s_Book_init s_Book_clauses s_Book_variables C) : Fn P w K mg base 3 "all_fillings" 0 (ct_all_fillings C) := by
  refine fn_df F.F_all_fillings sc_all_fillings (fun ds S ⟨rows, h, _⟩ => by rw [h]; rfl) fun f cdv A outer s H E B ds S hr hC => ?_
  obtain ⟨rows, rfl, hp, rfl⟩ := hC
  have hu := hr.units
  have nd := sc_all_fillings.nd
  refine ⟨_, ?hc, (sv_at (Γ1 := [_, _, _, _, _, _, _]) rfl (sv_setd 1 nd (ev_sh (ev_lstT (avt_cons (ev_nilT (α := Str)) avt_nil))) (sv_at (Γ1 := [_, _, _, _, _, _, _]) rfl (sv_forG (fun i f => [.sh (bkD C rows), .sh (dt (((namesL rows).take i).foldl (fillStep rows) [⟨[]⟩])), f 2, f 3, f 4, f 5, f 6]) (fun _ => .no) (Γ' := fun i d f => ((fun i f => [.sh (bkD C rows), .sh (dt (((namesL rows).take i).foldl (fillStep rows) [⟨[]⟩])), f 2, f 3, f 4, f 5, f 6]) i f).set 2 (.sh (dt d))) rfl (py_it (ev_fld Bk.cl Bk.nN (ev_var 0 rfl) rfl) ?o1) (pg_name (i := 2) nd rfl (by first | exact Or.inl rfl | exact Or.inr rfl)) [2] (fun i d f => tg_name (by decide)) rfl (fun i1 y1 hy1 g1 => (sv_at (Γ1 := [_, _, _, _, _, _, _]) rfl (sv_set2d 1 (lc2_T (c1 := 0) (c3 := 0) (own := [("literal", 5), ("part", 4)]) (vs1 := [5]) (zs := fun _ => [y1, minus ++ y1]) (f := _) (Γ' := fun d : Tup Str => (wipeE _ [5, 4]).set 4 (.sh (dt d))) (Γ'' := fun (d : Tup Str) (z : Str) => (wipeE ((wipeE _ [5, 4]).set 4 (.sh (dt d))) [5]).set 5 (.sh (dt z))) (py_it (ev_var 1 rfl) ?o2) (blkOk_by (N := N_all_fillings) (sc := defScope s_all_fillings) (by decide +kernel)) (by decide) (fun d => tg_name (by decide)) (fun d z => tg_name (by decide)) ?o6 (fun _ _ _ _ _ => pg_name (i := 4) nd rfl (by first | exact Or.inl rfl | exact Or.inr rfl)) (fun x1 hx1 _ _ _ _ _ => iv_up ((py_it (ev_tupT (avt_cons (ev_var 2 rfl) (avt_cons (py_add ev_str (ev_var 2 rfl) ?o3) avt_nil))) ?o4))) (fun _ _ _ _ _ => pg_name (i := 5) nd rfl (by first | exact Or.inl rfl | exact Or.inr rfl)) (fun x1 hx1 z1 hz1 _ _ _ _ _ => ev_up ((ev_tupT (py_star (ev_var 4 rfl) (avt_cons (ev_var 5 rfl) avt_nil)) ?o5)))) rfl nd (sv_at (Γ1 := [_, _, _, _, _, _, _]) rfl (sv_setLcd 1 (lc_T (own := [("part", 4)]) (Γ' := fun d => (wipeE _ [4]).set 4 (.sh (dt d))) (py_it (ev_var 1 rfl) ?o7) (blkOk_by (N := N_all_fillings) (sc := defScope s_all_fillings) (by decide +kernel)) (fun d => tg_name (by decide)) (fun _ _ _ _ _ => pg_name (i := 4) nd rfl (by first | exact Or.inl rfl | exact Or.inr rfl)) (fun x2 hx2 _ _ _ _ _ => tts_one (tv_notd (tv_d (py_any rfl F.m_any (ev_sh ((lc_0 (own := [("clause", 6)]) (Γ' := fun d => (wipeE _ [6]).set 6 (.sh (dt d))) (py_it (ev_fld Bk.cl Bk.nR (ev_var 0 rfl) rfl) ?o8) (blkOk_by (N := N_all_fillings) (by exact blk_re (by decide +kernel))) (fun d => tg_name (by decide)) (fun _ _ _ _ _ => pg_name (i := 6) nd rfl (by first | exact Or.inl rfl | exact Or.inr rfl)) (fun x3 hx3 _ _ _ _ _ => (ev_call ((ok_breaks F).mono (by decide)) hr (av_cons (ev_var 4 rfl) (av_cons (ev_var 6 rfl) av_nil)) ⟨_, _, rfl, ?o9, rfl⟩))).ev rfl nd)))))) (fun x2 hx2 ht2 _ _ _ _ _ => (ev_var 4 rfl))) rfl nd (sv_endG (G := fun i f => [.sh (bkD C rows), .sh (dt (((namesL rows).take i).foldl (fillStep rows) [⟨[]⟩])), f 2, f 3, f 4, f 5, f 6]) (i := i1 + 1) (fun j => List.getD [.no, .no, .sh (dt y1), g1 3, g1 4, g1 5, g1 6] j .no) ?o10)))))) (fun e1 => (sv_at (Γ1 := [_, _, _, _, _, _, _]) rfl (sv_setLcd 3 (lc_T (own := [("part", 4)]) (Γ' := fun d => (wipeE _ [4]).set 4 (.sh (dt d))) (py_it (ev_var 1 rfl) ?o11) (blkOk_by (N := N_all_fillings) (sc := defScope s_all_fillings) (by decide +kernel)) (fun d => tg_name (by decide)) (fun _ _ _ _ _ => pg_name (i := 4) nd rfl (by first | exact Or.inl rfl | exact Or.inr rfl)) (fun x4 hx4 _ _ _ _ _ => tts_one (tv_nin hu (ev_nilT (α := Str)) (ev_fld Bk.cl Bk.nR (ev_var 0 rfl) rfl))) (fun x4 hx4 ht4 _ _ _ _ _ => (ev_call ((ok_in_order__T F).mono (by decide)) hr (av_cons (ev_var 4 rfl) av_nil) ⟨_, rfl, ?o12, rfl⟩))) rfl nd (sv_one (s_ret (py_srt hu F.m_sorted (ev_var 3 rfl)) ?o13)))))))))⟩
  case hc => decide
  case o1 => trivial
  case o2 => trivial
  case o3 => have := hp.sz y1 (List.mem_of_getElem? hy1); exact sz_of (by show minus.length + y1.length ≤ _; have : minus.length = 1 := rfl; omega)
  case o4 => trivial
  case o5 => have := fill_sz6 rows _ _ hp.nm _ hx1; exact sz_of (by show (x1.items ++ [z1]).length ≤ _; rw [List.length_append, List.length_singleton]; omega)
  case o6 => exact sz_of (by have := fill_take rows _ i1 hp.nm; show (List.flatMap (fun _ => [y1, minus ++ y1]) (((namesL rows).take i1).foldl (fillStep rows) [⟨[]⟩])).length ≤ _; rw [two_flat]; omega)
  case o7 => trivial
  case o8 => trivial
  case o9 => exact (hp.good _ hx3).len
  case o10 => have e : ((namesL rows).take (i1 + 1)).foldl (fillStep rows) [⟨[]⟩] = _ := foldl_next hy1; rw [e, fillStep_eq]; rfl
  case o11 => trivial
  case o12 => have := fill_sz6 rows _ (namesL rows).length hp.nm _ hx4; show x4.items.length ≤ 1000; omega
  case o13 => exact ret_ow (by have e : (namesL rows).take (PyIt.its (namesL rows)).length = namesL rows := List.take_length; rw [e]; rfl)

abbrev N_fillings_of : List Str := ["book"]
theorem sc_fillings_of : FnScope N_fillings_of ["book"] (defScope s_fillings_of) := ⟨rfl, rfl, rfl, by decide +kernel, rfl, by decide +kernel, by decide +kernel⟩
abbrev ct_fillings_of (C : Addr) : Ct := fun ds S => ∃ (rows : Rows), ds = [bkD C rows] ∧ (Bk rows) ∧ S = So (dt (allFills rows (namesL rows)))
theorem ok_fillings_of (F : Facts K mg) {C : Addr} (Bk : BookF K mg s_Book_init s_Book_clauses s_Book_variables C) : Fn P w K mg base 4 "fillings_of" 0 (ct_fillings_of C) := by
  refine fn_df F.F_fillings_of sc_fillings_of (fun ds S ⟨rows, h, _⟩ => by rw [h]; rfl) fun f cdv A outer s H E B ds S hr hC => ?_
  obtain ⟨rows, rfl, hp, rfl⟩ := hC
  have hu := hr.units
  have nd := sc_fillings_of.nd
  refine ⟨_, ?hc, (sv_at (Γ1 := [_]) rfl (sv_expr (ev_call ((ok_check_book F Bk).mono (by decide)) hr (av_cons (ev_var 0 rfl) av_nil) ⟨_, rfl, ?o1, rfl⟩) (sv_one (s_ret (ev_call ((ok_all_fillings F Bk).mono (by decide)) hr (av_cons (ev_var 0 rfl) av_nil) ⟨_, rfl, ?o2, rfl⟩) ?o3))))⟩
  case hc => decide
  case o1 => trivial
  case o2 => exact hp
  case o3 => exact ret_ow rfl

abbrev N_many_fillings : List Str := ["book"]
theorem sc_many_fillings : FnScope N_many_fillings ["book"] (defScope s_many_fillings) := ⟨rfl, rfl, rfl, by decide +kernel, rfl, by decide +kernel, by decide +kernel⟩
abbrev ct_many_fillings (C : Addr) : Ct := fun ds S => ∃ (rows : Rows), ds = [bkD C rows] ∧ (Bk rows) ∧ S = Sd (dt (((allFills rows (namesL rows)).length : Nat) : Int))
theorem ok_many_fillings (F : Facts K mg) {C : Addr} (Bk : BookF K mg s_Book_init s_Book_clauses s_Book_variables C) : Fn P w K mg base 4 "many_fillings" 0 (ct_many_fillings C) := by
  refine fn_df F.F_many_fillings sc_many_fillings (fun ds S ⟨rows, h, _⟩ => by rw [h]; rfl) fun f cdv A outer s H E B ds S hr hC => ?_
  obtain ⟨rows, rfl, hp, rfl⟩ := hC
  have hu := hr.units
  have nd := sc_many_fillings.nd
  refine ⟨_, ?hc, (sv_at (Γ1 := [_]) rfl (sv_expr (ev_call ((ok_check_book F Bk).mono (by decide)) hr (av_cons (ev_var 0 rfl) av_nil) ⟨_, rfl, ?o1, rfl⟩) (sv_one (s_ret (py_len F.m_len (ev_sh (ev_call ((ok_all_fillings F Bk).mono (by decide)) hr (av_cons (ev_var 0 rfl) av_nil) ⟨_, rfl, ?o2, rfl⟩)) ?o3) ?o4))))⟩
  case hc => decide
  case o1 => trivial
  case o2 => exact hp
  case o3 => first | trivial | exact sz_of (by omega)
  case o4 => exact ret_of rfl

abbrev N_sure_literals : List Str := ["book", "found", "literal", "part"]
theorem sc_sure_literals : FnScope N_sure_literals ["book"] (defScope s_sure_literals) := ⟨rfl, rfl, rfl, by decide +kernel, rfl, by decide +kernel, by decide +kernel⟩
abbrev ct_sure_literals (C : Addr) : Ct := fun ds S => ∃ (rows : Rows), ds = [bkD C rows] ∧ (Bk rows ∧ allFills rows (namesL rows) ≠ []) ∧ S = So (dt ((srt (bothL (namesL rows))).filter fun l => (allFills rows (namesL rows)).all fun p => decide (l ∈ p.items)))
theorem ok_sure_literals (F : Facts K mg) {C : Addr} (Bk : BookF K mg s_Book_init s_Book_clauses s_Book_variables C) : Fn P w K mg base 4 "sure_literals" 0 (ct_sure_literals C) := by
  refine fn_df F.F_sure_literals sc_sure_literals (fun ds S ⟨rows, h, _⟩ => by rw [h]; rfl) fun f cdv A outer s H E B ds S hr hC => ?_
  obtain ⟨rows, rfl, hp, rfl⟩ := hC
  have hu := hr.units
  have nd := sc_sure_literals.nd
  refine ⟨_, ?hc, (sv_at (Γ1 := [_, _, _, _]) rfl (sv_expr (ev_call ((ok_check_book F Bk).mono (by decide)) hr (av_cons (ev_var 0 rfl) av_nil) ⟨_, rfl, ?o1, rfl⟩) (sv_at (Γ1 := [_, _, _, _]) rfl (sv_setd 1 nd (ev_sh (ev_call ((ok_all_fillings F Bk).mono (by decide)) hr (av_cons (ev_var 0 rfl) av_nil) ⟨_, rfl, ?o2, rfl⟩)) (sv_at (Γ1 := [_, _, _, _]) rfl (sv_passq (tv_eq hu (ev_var 1 rfl) (ev_sh ev_nilL)) ?o3 (sv_one (s_ret ((lc_T (own := [("literal", 2)]) (Γ' := fun d => (wipeE _ [2]).set 2 (.sh (dt d))) (py_it (ev_sh (py_srt hu F.m_sorted (ev_sh (ev_call ((ok_both_of F).mono (by decide)) hr (av_cons (ev_fld Bk.cl Bk.nN (ev_var 0 rfl) rfl) av_nil) ⟨_, rfl, ?o4, rfl⟩)))) ?o5) (blkOk_by (N := N_sure_literals) (sc := defScope s_sure_literals) (by decide +kernel)) (fun d => tg_name (by decide)) (fun _ _ _ _ _ => pg_name (i := 2) nd rfl (by first | exact Or.inl rfl | exact Or.inr rfl)) (fun x1 hx1 _ _ _ _ _ => tts_one (tv_d (py_all rfl F.m_all (ev_sh ((lc_0 (own := [("part", 3)]) (Γ' := fun d => (wipeE _ [3]).set 3 (.sh (dt d))) (py_it (ev_var 1 rfl) ?o6) (blkOk_by (N := N_sure_literals) (by exact blk_re (by decide +kernel))) (fun d => tg_name (by decide)) (fun _ _ _ _ _ => pg_name (i := 3) nd rfl (by first | exact Or.inl rfl | exact Or.inr rfl)) (fun x2 hx2 _ _ _ _ _ => (py_in hu (ev_var 2 rfl) (ev_var 3 rfl)))).ev rfl nd))))) (fun x1 hx1 ht1 _ _ _ _ _ => (ev_var 2 rfl))).ev rfl nd) ?o7))))))))⟩
  case hc => decide
  case o1 => trivial
  case o2 => exact hp.1
  case o3 => exact ne_nil hp.2
  case o4 => exact ⟨by have := hp.1.nm; omega, fun n hn => (hp.1.sz n hn).2⟩
  case o5 => first | trivial | exact sz_of (by omega)
  case o6 => first | trivial | exact sz_of (by omega)
  case o7 => exact ret_ow (by rw [map_keep]; exact congrArg (fun f => List.filter f _) (funext fun l => all_id))

abbrev N_any_filling : List Str := ["book"]
theorem sc_any_filling : FnScope N_any_filling ["book"] (defScope s_any_filling) := ⟨rfl, rfl, rfl, by decide +kernel, rfl, by decide +kernel, by decide +kernel⟩
abbrev ct_any_filling (C : Addr) : Ct := fun ds S => ∃ (rows : Rows), ds = [bkD C rows] ∧ (Bk rows) ∧ S = Sd (dt ((allFills rows (namesL rows))[0]?))
theorem ok_any_filling (F : Facts K mg) {C : Addr} (Bk : BookF K mg s_Book_init s_Book_clauses s_Book_variables C) : Fn P w K mg base 4 "any_filling" 0 (ct_any_filling C) := by
  refine fn_df F.F_any_filling sc_any_filling (fun ds S ⟨rows, h, _⟩ => by rw [h]; rfl) fun f cdv A outer s H E B ds S hr hC => ?_
  obtain ⟨rows, rfl, hp, rfl⟩ := hC
  have hu := hr.units
  have nd := sc_any_filling.nd
  refine ⟨_, ?hc, (sv_at (Γ1 := [_]) rfl (sv_expr (ev_call ((ok_check_book F Bk).mono (by decide)) hr (av_cons (ev_var 0 rfl) av_nil) ⟨_, rfl, trivial, rfl⟩) (sv_one (s_ret (py_ixD (x := (allFills rows (namesL rows)).map some ++ [none]) (k := 0) (ev_sh (ev_lstT (avt_starL (zs := (allFills rows (namesL rows)).map some) (ev_sh (ev_call ((ok_all_fillings F Bk).mono (by decide)) hr (av_cons (ev_var 0 rfl) av_nil) ⟨_, rfl, hp, rfl⟩)) (avt_cons (x := (none : Option (Tup Str))) ev_non avt_nil) (by rw [List.map_map]; rfl)) ?z)) ev_int ?o3 trivial) ?o5))))⟩
  case hc => decide
  case z => exact sz_of (by rw [List.length_append, List.length_map]; have := allFills_len rows hp.nm; simp only [List.length_singleton]; omega)
  case o3 => exact some_L (by rw [List.length_append, List.length_singleton]; omega)
  case o5 => exact ret_of (first_some _)

end
end Lk36
end

section
set_option Elab.async false
set_option linter.all false
set_option maxRecDepth 100000
set_option maxHeartbeats 4000000
set_option autoImplicit false
namespace Lk36
open PySem PySem.Spec PyProof.Rows L2 PySem.W PySem.SeqAt DL
variable [Wd]
section
variable {P : Program} {w : World} {K : PySem.W.Frag} {mg : Str → Option Value} {base : Heap}
abbrev N__law_purse : List Str := ["_law_script", "_law_at", "_law_seed"]
theorem sc__law_purse : FnScope N__law_purse ["_law_script", "_law_at"] (defScope s__law_purse) := ⟨rfl, rfl, rfl, by decide +kernel, rfl, by decide +kernel, by decide +kernel⟩
abbrev ct__law_purse : Ct := fun ds S => ∃ (ns : List Int) (at_ : Int), ds = [.scr ns, dt at_] ∧ (ns.length ≤ 64 ∧ 0 ≤ at_ ∧ at_ ≤ 64) ∧ S = Sd .pu
theorem ok__law_purse (F : Facts K mg) : Fn P w K mg base 1 "_law_purse" 0 ct__law_purse := by
  refine fn_df F.F__law_purse sc__law_purse (fun ds S ⟨ns, at_, h, _⟩ => by rw [h]; rfl) fun f cdv A outer s H E B ds S hr hC => ?_
  obtain ⟨ns, at_, rfl, hp, rfl⟩ := hC
  have hu := hr.units
  have nd := sc__law_purse.nd
  refine ⟨_, ?hc, (sv_at (Γ1 := [_, _, _]) rfl (sv_setd 2 nd (py_sum rfl F.m_sum (ev_sh (ev_slScr (ev_var 0 rfl) (pv_so (ev_var 1 rfl)) (pv_so (py_add (ev_var 1 rfl) ev_int ?o1))))) (sv_one (s_ret (ev_newPu (ev_lstT (avt_cons (ev_mod (ev_int1 F.m_int (ev_max2 rfl F.m_max (ev_sub (ev_var 2 rfl) (ev_pow ev_int ev_int ?o3)) ev_int)) (ev_pow (ev_pow ev_int ev_int ?o4) ev_int ?o5) ?o6) (avt_cons (ev_mod (ev_int1 F.m_int (ev_var 2 rfl)) ev_int ?o2) (avt_cons ev_int (avt_cons (ev_var 1 rfl) avt_nil))))) ?o7 ?o8 ?o9 ?o10) (fun r h => h)))))⟩
  case hc => decide
  case o1 => first | trivial | exact sz_of (by omega)
  case o2 => decide
  case o3 => exact ⟨by decide, by decide⟩
  case o4 => exact ⟨by decide, by decide⟩
  case o5 => exact ⟨by decide, by decide⟩
  case o6 => decide
  case o7 => rw [B0_eq]; exact ⟨Int.emod_nonneg _ (by decide), Int.emod_lt_of_pos _ (by decide)⟩
  case o8 => exact ⟨Int.emod_nonneg _ (by decide), Int.emod_lt_of_pos _ (by decide)⟩
  case o9 => rfl
  case o10 => omega

abbrev N__law_purses : List Str := ["_law_script", "_law_few", "_law_at"]
theorem sc__law_purses : FnScope N__law_purses ["_law_script", "_law_few"] (defScope s__law_purses) := ⟨rfl, rfl, rfl, by decide +kernel, rfl, by decide +kernel, by decide +kernel⟩
abbrev ct__law_purses : Ct := fun ds S => ∃ (ns : List Int) (few : Int), ds = [.scr ns, dt few] ∧ (ns.length ≤ 64 ∧ 0 ≤ few ∧ few ≤ 64) ∧ S = fun r => ∃ k : Nat, k ≤ 64 ∧ r = .ow (.lst (List.replicate k .pu))
theorem ok__law_purses (F : Facts K mg) : Fn P w K mg base 2 "_law_purses" 0 ct__law_purses := by
  refine fn_df F.F__law_purses sc__law_purses (fun ds S ⟨ns, few, h, _⟩ => by rw [h]; rfl) fun f cdv A outer s H E B ds S hr hC => ?_
  obtain ⟨ns, few, rfl, hp, rfl⟩ := hC
  have hu := hr.units
  have nd := sc__law_purses.nd
  refine ⟨_, ?hc, sv_one (s_ret (ev_weak (c1 := 0 + sizeLine * (0 + 0)) ((lc_mk (own := [("_law_at", 2)]) (Γ' := fun d => (wipeE _ [2]).set 2 (.sh (dt d))) (T := fun _ b => b = true) (S := fun _ y => y = .pu) (iv_range1 F.m_range (av_cons (ev_max2 rfl F.m_max ev_int (ev_min2 rfl F.m_min (ev_var 1 rfl) (ev_lenScr F.m_len (ev_var 0 rfl)))) av_nil) ?rg) (blkOk_by (N := N__law_purses) (sc := defScope s__law_purses) (by decide +kernel)) (fun d => tg_name (by decide)) (fun _ _ _ _ _ => pg_name (i := 2) nd rfl (Or.inl rfl)) (fun _ _ _ _ _ _ _ _ _ => tts_nil) (fun xs hxs d hd _ _ _ _ _ _ => ev_sp (ev_call ((ok__law_purse F).mono (by decide)) hr (av_cons (ev_var 0 rfl) (av_cons (ev_var 2 rfl) av_nil)) ⟨_, _, rfl, ?pre, rfl⟩))).ev rfl nd) (S' := fun r => ∃ k : Nat, k ≤ 64 ∧ r = .ow (.lst (List.replicate k .pu))) ?sh ?le) (fun r h => h))⟩
  case hc => decide
  case rg => omega
  case pre => have q := mem_up.mp (hxs ▸ hd); omega
  case sh =>
    rintro r ⟨xs, ys, hxs, rel, rfl⟩
    refine ⟨xs.length, ?_, ?_⟩
    · rw [hxs, len_up]; omega
    · rw [lcRel_all rel]
  case le => decide

abbrev N__law_mixed : List Str := ["_law_seed", "_law_spin", "_law_at", "_law_mixed_here"]
theorem sc__law_mixed : FnScope N__law_mixed ["_law_seed", "_law_spin", "_law_at"] (defScope s__law_mixed) := ⟨rfl, rfl, rfl, by decide +kernel, rfl, by decide +kernel, by decide +kernel⟩
abbrev ct__law_mixed : Ct := fun ds S => ∃ (seed : Int) (spin : Int) (at_ : Int), ds = [dt seed, dt spin, dt at_] ∧ ((0 ≤ seed ∧ seed < 2147483629) ∧ (0 ≤ spin ∧ spin ≤ (LIM : Int)) ∧ (0 ≤ at_ ∧ at_ ≤ 64)) ∧ S = Rt fun z : Int => 0 ≤ z ∧ z < 2147483587
theorem ok__law_mixed (F : Facts K mg) : Fn P w K mg base 1 "_law_mixed" 0 ct__law_mixed := by
  refine fn_df F.F__law_mixed sc__law_mixed (fun ds S ⟨seed, spin, at_, h, _⟩ => by rw [h]; rfl) fun f cdv A outer s H E B ds S hr hC => ?_
  obtain ⟨seed, spin, at_, rfl, hp, rfl⟩ := hC
  have hu := hr.units
  have nd := sc__law_mixed.nd
  refine ⟨_, ?hc, (sv_at (Γ1 := [_, _, _, _]) rfl (sv_setd 3 nd (py_add (ev_mulE (ev_var 0 rfl) ev_int ?o1) (ev_mulE (ev_mulE ev_int (ev_var 1 rfl) ?o2) (ev_var 1 rfl) ?o3) ?o4) (sv_at (Γ1 := [_, _, _, _]) rfl (sv_setd 3 nd (ev_mod (ev_int1 F.m_int (py_add (py_add (ev_var 3 rfl) (ev_mulE ev_int (ev_var 2 rfl) ?o5) ?o6) (ev_var 1 rfl) ?o7)) ev_int ?o8) (sv_at (Γ1 := [_, _, _, _]) rfl (sv_setd 3 nd (ev_mod (ev_int1 F.m_int (py_add (ev_mulE (ev_var 3 rfl) (ev_var 3 rfl) ?o9) ev_int ?o10)) ev_int ?o11) (sv_one (s_ret (ev_mod (ev_int1 F.m_int (ev_mulE (ev_var 3 rfl) ev_int ?o12)) ev_int ?o13) ?o14))))))))⟩
  case hc => decide
  case o1 => exact .inl (.inr (by decide))
  case o2 => exact .inl (.inl (by decide))
  case o3 => exact mixed_big hp.2.1.1 hp.2.1.2
  case o4 => first | trivial | exact sz_of (by omega)
  case o5 => exact .inl (.inl (by decide))
  case o6 => first | trivial | exact sz_of (by omega)
  case o7 => first | trivial | exact sz_of (by omega)
  case o8 => decide
  case o9 => exact .inl (.inl ⟨by omega, by omega⟩)
  case o10 => first | trivial | exact sz_of (by omega)
  case o11 => decide
  case o12 => exact .inl (.inr (by decide))
  case o13 => decide
  case o14 => exact ret_rt ⟨Int.emod_nonneg _ (by decide), Int.emod_lt_of_pos _ (by decide)⟩

abbrev N__law_draw : List Str := ["_law_purse_here", "_law_many", "_law_drawn_here", "_law_found", "_law_piece"]
theorem sc__law_draw : FnScope N__law_draw ["_law_purse_here", "_law_many"] (defScope s__law_draw) := ⟨rfl, rfl, rfl, by decide +kernel, rfl, by decide +kernel, by decide +kernel⟩
abbrev ct__law_draw : Ct := fun ds S => ∃ (many : Int), ds = [.pu, dt many] ∧ (1 ≤ many ∧ many ≤ 1000000) ∧ S = Rt fun z : Int => 0 ≤ z ∧ z < many
theorem ok__law_draw (F : Facts K mg) : Fn P w K mg base 2 "_law_draw" (sizeLine * 4) ct__law_draw := by
  refine fn_df F.F__law_draw sc__law_draw (fun ds S ⟨many, h, _⟩ => by rw [h]; rfl) fun f cdv A outer s H E B ds S hr hC => ?_
  obtain ⟨many, rfl, hp, rfl⟩ := hC
  have hu := hr.units
  have nd := sc__law_draw.nd
  refine ⟨_, ?hc, (sv_guardS (tv_gtR hu (ev_pu 0 0 rfl (by decide)) (rt_of ev_int)) (fun _ => (sv_setR 2 (P := fun z : Int => 0 ≤ z ∧ z < many) nd (ev_opR op_mod (ev_int1R F.m_int (ev_pu 0 0 rfl (by decide))) (rt_of (ev_var 1 rfl)) ?m1) fun z hz => (sv_pu0 0 rfl (ev_opR op_fdiv (ev_pu 0 0 rfl (by decide)) (rt_of (ev_var 1 rfl)) ?m2) (sv_one (s_ret (ev_var 2 rfl) (ret_rt hz))))))
      (fun _ => (sv_setd 3 nd ev_int (sv_cons (N := fun Γ' => ∃ (z : Int) (e : Ent), Γ' = [.sh .pu, .sh (dt many), .no, .sh (dt z), e])
        (s_for (O := { nx := fun Γ' => ∃ (z : Int) (e : Ent), Γ' = [.sh .pu, .sh (dt many), .no, .sh (dt z), e], rt := Rt fun z : Int => 0 ≤ z ∧ z < many }) (c1 := 2) rfl PassesOwn.never (iv_range1 F.m_range (av_cons (ev_add ev_int (ev_fdiv (ev_bits (ev_var 1 rfl)) ev_int ?d1)) av_nil) ?rg) (pg_name (i := 4) nd rfl (Or.inl rfl))
          (fun _ _ Γ' => ∃ (z : Int) (e : Ent), Γ' = [.sh .pu, .sh (dt many), .no, .sh (dt z), e]) ?i0 ?it ?ie)
        (c2 := 0) (fun Γ' hΓ => by
          obtain ⟨z, e, rfl⟩ := hΓ
          exact sv_le (sv_one (s_ret (ev_opR op_mod (P := fun z : Int => 0 ≤ z ∧ z < many) (ev_int1R F.m_int (rt_of (ev_var 3 rfl))) (rt_of (ev_var 1 rfl)) (fun i j _ hj => by subst hj; exact ⟨by omega, Int.emod_nonneg _ (by omega), Int.emod_lt_of_pos _ (by omega)⟩)) (fun r h => h))))))))⟩
  case d1 => exact ⟨by decide, by decide⟩
  case rg => rw [bits_small (by omega) (by omega)]; exact ⟨by decide, by decide⟩
  case i0 => exact fun xs _ => ⟨0, .no, rfl⟩
  case it =>
    rintro xs _ i d hd Γi ⟨z, e, rfl⟩
    refine ⟨_, [4], tg_name (by decide), sv_le (sv_puInc 0 rfl (sv_setR 3 (P := fun _ : Int => True) nd (ev_opR0 op_add (P := fun _ : Int => True) (P2 := fun z : Int => 0 ≤ z ∧ z < 2147483587) (ev_opR op_mul (P := fun _ : Int => True) (rt_of (ev_var 3 rfl)) (rt_of ev_int) ?q1) (ev_callN ((ok__law_mixed F).mono (by decide)) hr (av_consN (ev_pu 0 1 rfl (by decide)) (av_consN (ev_pu 0 2 rfl (by decide)) (av_consN (ev_pu 0 3 rfl (by decide)) av_nil))) ?q2) ?q3) fun z2 _ => sv_end ⟨z2, _, rfl⟩))⟩
    case q1 => exact fun i j _ hj => by subst hj; exact ⟨.inr (by decide), trivial⟩
    case q2 =>
      rintro ds ⟨d1, r1, rfl, ⟨z1, b1, rfl⟩, d2, r2, rfl, ⟨z2, b2, rfl⟩, d3, r3, rfl, ⟨z3, b3, rfl⟩, rfl⟩
      exact ⟨z1, z2, z3, rfl, ⟨b1, b2, b3⟩, rfl⟩
    case q3 => exact fun _ _ _ _ => trivial
  case ie => exact fun xs _ Γi h => h
  case hc => decide
  case m1 => exact fun i j hi hj => by subst hj; exact ⟨by omega, Int.emod_nonneg _ (by omega), Int.emod_lt_of_pos _ (by omega)⟩
  case m2 => exact fun i j hi hj => by subst hj; exact ⟨⟨by omega, by omega⟩, Int.ediv_nonneg hi.1 (by omega), Int.lt_of_le_of_lt (Int.ediv_le_self _ hi.1) hi.2⟩
  

abbrev N__law_contrary : List Str := ["_law_literal"]
theorem sc__law_contrary : FnScope N__law_contrary ["_law_literal"] (defScope s__law_contrary) := ⟨rfl, rfl, rfl, by decide +kernel, rfl, by decide +kernel, by decide +kernel⟩
abbrev ct__law_contrary : Ct := fun ds S => ∃ (x : Str), ds = [dt x] ∧ (0 < x.length ∧ x.length ≤ 1000) ∧ S = Sd (dt (turnS x))
theorem ok__law_contrary (F : Facts K mg) : Fn P w K mg base 1 "_law_contrary" 0 ct__law_contrary := by
  refine fn_df F.F__law_contrary sc__law_contrary (fun ds S ⟨x, h, _⟩ => by rw [h]; rfl) fun f cdv A outer s H E B ds S hr hC => ?_
  obtain ⟨x, rfl, hp, rfl⟩ := hC
  have hu := hr.units
  have nd := sc__law_contrary.nd
  refine ⟨_, ?hc, (sv_one (s_ret (ev_ite (tv_eq hu (py_ixD (ev_var 0 rfl) ev_int ?o1 ?o2) ev_str) (fun it1 => (py_sl (ev_var 0 rfl) (pv_so ev_int) pv_no ?o3)) (fun ie1 => (py_add ev_str (ev_var 0 rfl) ?o4))) ?o5))⟩
  case hc => decide
  case o1 => exact some_S (by omega)
  case o2 => first | trivial | exact sz_of (by omega)
  case o3 => first | trivial | exact sz_of (by omega)
  case o4 => exact sz_of (by show minus.length + x.length ≤ _; have : minus.length = 1 := rfl; omega)
  case o5 => exact ret_of rfl

abbrev N__law_bare : List Str := ["_law_literal"]
theorem sc__law_bare : FnScope N__law_bare ["_law_literal"] (defScope s__law_bare) := ⟨rfl, rfl, rfl, by decide +kernel, rfl, by decide +kernel, by decide +kernel⟩
abbrev ct__law_bare : Ct := fun ds S => ∃ (x : Str), ds = [dt x] ∧ (0 < x.length ∧ x.length ≤ 1000) ∧ S = Sd (dt (bareS x))
theorem ok__law_bare (F : Facts K mg) : Fn P w K mg base 1 "_law_bare" 0 ct__law_bare := by
  refine fn_df F.F__law_bare sc__law_bare (fun ds S ⟨x, h, _⟩ => by rw [h]; rfl) fun f cdv A outer s H E B ds S hr hC => ?_
  obtain ⟨x, rfl, hp, rfl⟩ := hC
  have hu := hr.units
  have nd := sc__law_bare.nd
  refine ⟨_, ?hc, (sv_one (s_ret (ev_ite (tv_eq hu (py_ixD (ev_var 0 rfl) ev_int ?o1 ?o2) ev_str) (fun it1 => (py_sl (ev_var 0 rfl) (pv_so ev_int) pv_no ?o3)) (fun ie1 => (ev_var 0 rfl))) ?o4))⟩
  case hc => decide
  case o1 => exact some_S (by omega)
  case o2 => first | trivial | exact sz_of (by omega)
  case o3 => first | trivial | exact sz_of (by omega)
  case o4 => exact ret_of rfl

abbrev N__law_word : List Str := ["_law_purse_here", "_law_size", "_law_spin"]
theorem sc__law_word : FnScope N__law_word ["_law_purse_here"] (defScope s__law_word) := ⟨rfl, rfl, rfl, by decide +kernel, rfl, by decide +kernel, by decide +kernel⟩
abbrev ct__law_word : Ct := fun ds S => ds = [.pu] ∧ (True) ∧ S = Rt fun w : Str => isWord w = true
theorem ok__law_word (F : Facts K mg) : Fn P w K mg base 3 "_law_word" (sizeLine * (sizeLine * 8)) ct__law_word := by
  refine fn_df F.F__law_word sc__law_word (fun ds S ⟨h, _⟩ => by rw [h]; rfl) fun f cdv A outer s H E B ds S hr hC => ?_
  obtain ⟨rfl, hp, rfl⟩ := hC
  have hu := hr.units
  have nd := sc__law_word.nd
  refine ⟨_, ?hc, (sv_setR 1 (P := fun z : Int => 1 ≤ z ∧ z ≤ 8) nd (ev_opR0 op_add (P := fun z : Int => 1 ≤ z ∧ z ≤ 8) (P1 := fun z : Int => z = 1) (P2 := fun z : Int => 0 ≤ z ∧ z < 8) (rt_of ev_int) (ev_callW ((ok__law_draw F).mono (by decide)) hr (av_consN (ev_sp (ev_var 0 rfl)) (av_consN (ev_iteR (P := fun z : Int => z = 8 ∨ z = 3) (tv_eqR hu (ev_call ((ok__law_draw F).mono (by decide)) hr (av_cons (ev_var 0 rfl) (av_cons ev_int av_nil)) ⟨_, rfl, ⟨by decide, by decide⟩, rfl⟩) (rt_of ev_int)) (rt_imp (rt_of ev_int) fun z h => .inl h) (rt_imp (rt_of ev_int) fun z h => .inr h)) av_nil)) ?hC) ?add)
    fun z hz => (sv_one (s_ret (ev_joinR (z := "") (P := fun ys : List Str => (∃ xs : List Int, xs = upFrom 0 z.toNat ∧ ys.length = xs.length) ∧ ∀ y ∈ ys, y.length = 1 ∧ letter y = true) (P' := fun w : Str => isWord w = true) ev_str (ev_shR (ev_weak ((lc_R (P := fun y : Str => y.length = 1 ∧ letter y = true) (own := [("_law_spin", 2)]) (Γ' := fun d => (wipeE _ [2]).set 2 (.sh (dt d))) (iv_range1 F.m_range (av_cons (ev_var 1 rfl) av_nil) ?rg) (blkOk_by (N := N__law_word) (sc := defScope s__law_word) (by decide +kernel)) (fun d => tg_name (by decide)) (fun _ _ _ _ _ => pg_name (i := 2) nd rfl (Or.inl rfl))
       (fun xs hxs d hd _ _ _ _ _ => ev_ixSR (PI := fun i : Int => 0 ≤ i ∧ i < 26) ev_str (ev_call ((ok__law_draw F).mono (by decide)) hr (av_cons (ev_var 0 rfl) (av_cons ev_int av_nil)) ⟨_, rfl, ⟨by decide, by decide⟩, rfl⟩) (sz_of (by decide)) abc_at)).ev rfl nd) (fun r ⟨zs, h1, h2, h3⟩ => ⟨zs, ⟨h1, h2⟩, h3⟩) (Nat.le_refl _))) ?j) (fun r h => h))))⟩
  case hc => decide
  case hC =>
    rintro ds ⟨d1, r1, rfl, rfl, d2, r2, rfl, ⟨z, hz, rfl⟩, rfl⟩
    exact ⟨_, ⟨z, rfl, by omega, rfl⟩, fun r ⟨d, ⟨y, hy, e⟩, q⟩ => ⟨d, ⟨y, by omega, e⟩, q⟩⟩
  case add => exact fun i j hi hj => by subst hi; omega
  case rg => omega
  case j =>
    rintro ys ⟨⟨xs, rfl, hl⟩, hy⟩
    rw [len_up] at hl
    exact ⟨by rw [sum_ones fun y h => (hy y h).1]; show ys.length + ys.length * 0 ≤ _; omega, join_word hy (by omega) (by omega)⟩

end
end Lk36
end

section
set_option Elab.async false
set_option linter.all false
set_option maxRecDepth 100000
set_option maxHeartbeats 4000000
set_option autoImplicit false
namespace Lk36
open PySem PySem.Spec PyProof.Rows L2 PySem.W PySem.SeqAt DL
variable [Wd]
section
variable {P : Program} {w : World} {K : PySem.W.Frag} {mg : Str → Option Value} {base : Heap}
abbrev N__law_clause__L : List Str := ["_law_literals", "_law_literal"]
theorem sc__law_clause__L : FnScope N__law_clause__L ["_law_literals"] (defScope s__law_clause) := ⟨rfl, rfl, rfl, by decide +kernel, rfl, by decide +kernel, by decide +kernel⟩
abbrev ct__law_clause__L : Ct := fun ds S => ∃ (xs : List Str), ds = [dt xs] ∧ (xs.length ≤ 60) ∧ S = Sd (dt (⟨sset xs⟩ : Tup Str))
theorem ok__law_clause__L (F : Facts K mg) : Fn P w K mg base 1 "_law_clause" 0 ct__law_clause__L := by
  refine fn_df F.F__law_clause sc__law_clause__L (fun ds S ⟨xs, h, _⟩ => by rw [h]; rfl) fun f cdv A outer s H E B ds S hr hC => ?_
  obtain ⟨xs, rfl, hp, rfl⟩ := hC
  have hu := hr.units
  have nd := sc__law_clause__L.nd
  refine ⟨_, ?hc, (sv_one (s_ret (ev_tupleOf F.m_tuple (ev_sh (ev_sortedD rfl F.m_sorted (ev_sh (ev_dictP rfl F.m_dict (ev_sh ((lc_0 (own := [("_law_literal", 1)]) (Γ' := fun d => (wipeE _ [1]).set 1 (.sh (dt d))) (py_it (ev_var 0 rfl) ?o1) (blkOk_by (N := N__law_clause__L) (sc := defScope s__law_clause) (by decide +kernel)) (fun d => tg_name (by decide)) (fun _ _ _ _ _ => pg_name (i := 1) nd rfl (by first | exact Or.inl rfl | exact Or.inr rfl)) (fun x1 hx1 _ _ _ _ _ => (ev_pair (av_cons (ev_var 1 rfl) (av_cons ev_bl av_nil))))).ev rfl nd)))) ?o2))) ?o3))⟩
  case hc => decide
  case o1 => trivial
  case o2 => exact Nat.lt_of_le_of_lt (clause_len xs) (by omega)
  case o3 => exact ret_of (congrArg Tup.mk (clause_eq xs))

abbrev N__law_rows : List Str := ["_law_clauses", "_law_clause_here"]
theorem sc__law_rows : FnScope N__law_rows ["_law_clauses"] (defScope s__law_rows) := ⟨rfl, rfl, rfl, by decide +kernel, rfl, by decide +kernel, by decide +kernel⟩
abbrev ct__law_rows : Ct := fun ds S => ∃ (rows : Rows), ds = [dt rows] ∧ (rows.length ≤ 10000) ∧ S = So (dt (sset rows))
theorem ok__law_rows (F : Facts K mg) : Fn P w K mg base 1 "_law_rows" 0 ct__law_rows := by
  refine fn_df F.F__law_rows sc__law_rows (fun ds S ⟨rows, h, _⟩ => by rw [h]; rfl) fun f cdv A outer s H E B ds S hr hC => ?_
  obtain ⟨rows, rfl, hp, rfl⟩ := hC
  have hu := hr.units
  have nd := sc__law_rows.nd
  refine ⟨_, ?hc, (sv_one (s_ret (ev_sortedDictN hu rfl F.m_sorted F.m_dict (ev_sh ((lc_0 (own := [("_law_clause_here", 1)]) (Γ' := fun d => (wipeE _ [1]).set 1 (.sh (dt d))) (py_it (ev_var 0 rfl) ?o1) (blkOk_by (N := N__law_rows) (sc := defScope s__law_rows) (by decide +kernel)) (fun d => tg_name (by decide)) (fun _ _ _ _ _ => pg_name (i := 1) nd rfl (by first | exact Or.inl rfl | exact Or.inr rfl)) (fun x1 hx1 _ _ _ _ _ => (ev_pair (av_cons (ev_var 1 rfl) (av_cons ev_bl av_nil))))).ev rfl nd)) ?o2) ?o3))⟩
  case hc => decide
  case o1 => trivial
  case o2 => exact sz_of (by rw [List.length_map]; show rows.length ≤ _; omega)
  case o3 => exact ret_ow (by rw [List.map_map]; exact congrArg sset (List.map_id rows))

abbrev N__law_breaks : List Str := ["_law_part", "_law_clause_here", "_law_literal"]
theorem sc__law_breaks : FnScope N__law_breaks ["_law_part", "_law_clause_here"] (defScope s__law_breaks) := ⟨rfl, rfl, rfl, by decide +kernel, rfl, by decide +kernel, by decide +kernel⟩
abbrev ct__law_breaks : Ct := fun ds S => ∃ (part : Tup Str) (c : Tup Str), ds = [dt part, dt c] ∧ (∀ l ∈ c.items, 0 < l.length ∧ l.length ≤ 1000) ∧ S = Sd (dt (breaksB part c))
theorem ok__law_breaks (F : Facts K mg) : Fn P w K mg base 2 "_law_breaks" 0 ct__law_breaks := by
  refine fn_df F.F__law_breaks sc__law_breaks (fun ds S ⟨part, c, h, _⟩ => by rw [h]; rfl) fun f cdv A outer s H E B ds S hr hC => ?_
  obtain ⟨part, c, rfl, hp, rfl⟩ := hC
  have hu := hr.units
  have nd := sc__law_breaks.nd
  refine ⟨_, ?hc, (sv_one (s_ret (py_all rfl F.m_all (ev_sh ((lc_0 (own := [("_law_literal", 2)]) (Γ' := fun d => (wipeE _ [2]).set 2 (.sh (dt d))) (py_it (ev_var 1 rfl) ?o1) (blkOk_by (N := N__law_breaks) (sc := defScope s__law_breaks) (by decide +kernel)) (fun d => tg_name (by decide)) (fun _ _ _ _ _ => pg_name (i := 2) nd rfl (by first | exact Or.inl rfl | exact Or.inr rfl)) (fun x1 hx1 _ _ _ _ _ => (py_in hu (ev_call ((ok__law_contrary F).mono (by decide)) hr (av_cons (ev_var 2 rfl) av_nil) ⟨_, rfl, ?o2, rfl⟩) (ev_var 0 rfl)))).ev rfl nd))) ?o3))⟩
  case hc => decide
  case o1 => first | trivial | exact sz_of (by omega)
  case o2 => exact hp _ hx1
  case o3 => exact ret_of (by rw [all_id]; rfl)

abbrev N__law_broken : List Str := ["_law_rows_here", "_law_part", "_law_clause_here"]
theorem sc__law_broken : FnScope N__law_broken ["_law_rows_here", "_law_part"] (defScope s__law_broken) := ⟨rfl, rfl, rfl, by decide +kernel, rfl, by decide +kernel, by decide +kernel⟩
abbrev ct__law_broken : Ct := fun ds S => ∃ (rows : Rows) (part : Tup Str), ds = [dt rows, dt part] ∧ (∀ c ∈ rows, ∀ l ∈ c.items, 0 < l.length ∧ l.length ≤ 1000) ∧ S = So (dt (brokenL rows part))
theorem ok__law_broken (F : Facts K mg) : Fn P w K mg base 3 "_law_broken" 0 ct__law_broken := by
  refine fn_df F.F__law_broken sc__law_broken (fun ds S ⟨rows, part, h, _⟩ => by rw [h]; rfl) fun f cdv A outer s H E B ds S hr hC => ?_
  obtain ⟨rows, part, rfl, hp, rfl⟩ := hC
  have hu := hr.units
  have nd := sc__law_broken.nd
  refine ⟨_, ?hc, (sv_one (s_ret ((lc_T (own := [("_law_clause_here", 2)]) (Γ' := fun d => (wipeE _ [2]).set 2 (.sh (dt d))) (py_it (ev_var 0 rfl) ?o1) (blkOk_by (N := N__law_broken) (sc := defScope s__law_broken) (by decide +kernel)) (fun d => tg_name (by decide)) (fun _ _ _ _ _ => pg_name (i := 2) nd rfl (by first | exact Or.inl rfl | exact Or.inr rfl)) (fun x1 hx1 _ _ _ _ _ => tts_one (tv_d (ev_call ((ok__law_breaks F).mono (by decide)) hr (av_cons (ev_var 1 rfl) (av_cons (ev_var 2 rfl) av_nil)) ⟨_, _, rfl, ?o2, rfl⟩))) (fun x1 hx1 ht1 _ _ _ _ _ => (ev_var 2 rfl))).ev rfl nd) ?o3))⟩
  case hc => decide
  case o1 => first | trivial | exact sz_of (by omega)
  case o2 => exact hp _ hx1
  case o3 => exact ret_ow map_keep

abbrev N__law_made : List Str := ["_law_rows_here"]
theorem sc__law_made : FnScope N__law_made ["_law_rows_here"] (defScope s__law_made) := ⟨rfl, rfl, rfl, by decide +kernel, rfl, by decide +kernel, by decide +kernel⟩
abbrev ct__law_made (C : Addr) : Ct := fun ds S => ∃ (rows : Rows), ds = [dt rows] ∧ (Bk rows) ∧ S = So (bkD C rows)
theorem ok__law_made (F : Facts K mg) {C : Addr} (Bk : BookF K mg s_Book_init s_Book_clauses s_Book_variables C) : Fn P w K mg base 7 "_law_made" 0 (ct__law_made C) := by
  refine fn_df F.F__law_made sc__law_made (fun ds S ⟨rows, h, _⟩ => by rw [h]; rfl) fun f cdv A outer s H E B ds S hr hC => ?_
  obtain ⟨rows, rfl, hp, rfl⟩ := hC
  have hu := hr.units
  have nd := sc__law_made.nd
  refine ⟨_, ?hc, (sv_one (s_ret (ev_make (ok_init F Bk) (hr.mono (by decide)) Bk.mgC (av_cons (ev_sh (py_listOf rfl F.m_list (ev_var 0 rfl) ?o1)) av_nil) ⟨_, rfl, ?o2, rfl⟩) ?o3))⟩
  case hc => decide
  case o1 => first | trivial | exact sz_of (by omega)
  case o2 => exact ⟨hp.few, hp.good, hp.nm⟩
  case o3 => exact ret_bk hp

abbrev N__law_turned : List Str := ["_law_rows_here", "_law_names_here", "_law_clause_here", "_law_literal"]
theorem sc__law_turned : FnScope N__law_turned ["_law_rows_here", "_law_names_here"] (defScope s__law_turned) := ⟨rfl, rfl, rfl, by decide +kernel, rfl, by decide +kernel, by decide +kernel⟩
abbrev ct__law_turned : Ct := fun ds S => ∃ (rows : Rows) (ns : List Str), ds = [dt rows, dt ns] ∧ ((∀ c ∈ rows, GoodC c) ∧ rows.length ≤ 10000 ∧ ∀ c ∈ rows, c.items.length ≤ 60) ∧ S = So (dt (sset (rows.map (turnC ns))))
theorem ok__law_turned (F : Facts K mg) : Fn P w K mg base 2 "_law_turned" 0 ct__law_turned := by
  refine fn_df F.F__law_turned sc__law_turned (fun ds S ⟨rows, ns, h, _⟩ => by rw [h]; rfl) fun f cdv A outer s H E B ds S hr hC => ?_
  obtain ⟨rows, ns, rfl, hp, rfl⟩ := hC
  have hu := hr.units
  have nd := sc__law_turned.nd
  refine ⟨_, ?hc, (sv_one (s_ret (ev_call ((ok__law_rows F).mono (by decide)) hr (av_cons (ev_sh ((lc_0 (own := [("_law_clause_here", 2)]) (Γ' := fun d => (wipeE _ [2]).set 2 (.sh (dt d))) (py_it (ev_var 0 rfl) ?o1) (blkOk_by (N := N__law_turned) (sc := defScope s__law_turned) (by decide +kernel)) (fun d => tg_name (by decide)) (fun _ _ _ _ _ => pg_name (i := 2) nd rfl (by first | exact Or.inl rfl | exact Or.inr rfl)) (fun x1 hx1 _ _ _ _ _ => (ev_call ((ok__law_clause__L F).mono (by decide)) hr (av_cons (ev_sh ((lc_0 (own := [("_law_literal", 3)]) (Γ' := fun d => (wipeE _ [3]).set 3 (.sh (dt d))) (py_it (ev_var 2 rfl) ?o2) (blkOk_by (N := N__law_turned) (by exact blk_re (by decide +kernel))) (fun d => tg_name (by decide)) (fun _ _ _ _ _ => pg_name (i := 3) nd rfl (by first | exact Or.inl rfl | exact Or.inr rfl)) (fun x2 hx2 _ _ _ _ _ => (ev_ite (tv_in hu (ev_call ((ok__law_bare F).mono (by decide)) hr (av_cons (ev_var 3 rfl) av_nil) ⟨_, rfl, ?o3, rfl⟩) (ev_var 1 rfl)) (fun it1 => (ev_call ((ok__law_contrary F).mono (by decide)) hr (av_cons (ev_var 3 rfl) av_nil) ⟨_, rfl, ?o4, rfl⟩)) (fun ie1 => (ev_var 3 rfl))))).ev rfl nd)) av_nil) ⟨_, rfl, ?o5, rfl⟩))).ev rfl nd)) av_nil) ⟨_, rfl, ?o6, rfl⟩) ?o7))⟩
  case hc => decide
  case o1 => trivial
  case o2 => trivial
  case o3 => exact (hp.1 _ hx1).len _ hx2
  case o4 => exact (hp.1 _ hx1).len _ hx2
  case o5 => show (List.map _ (x1.items)).length ≤ 60; rw [List.length_map]; exact hp.2.2 x1 hx1
  case o6 => show (List.map _ rows).length ≤ 10000; rw [List.length_map]; exact hp.2.1
  case o7 => exact ret_ow rfl

end
end Lk36
end

section
set_option Elab.async false
set_option linter.all false
set_option maxRecDepth 100000
set_option maxHeartbeats 4000000
set_option autoImplicit false
namespace Lk36
open PySem PySem.Spec PyProof.Rows L2 PySem.W PySem.SeqAt DL
variable [Wd]
section
variable {P : Program} {w : World} {K : PySem.W.Frag} {mg : Str → Option Value} {base : Heap}
abbrev N__law_names : List Str := ["_law_rows_here", "_law_found", "_law_clause_here", "_law_literal"]
theorem sc__law_names : FnScope N__law_names ["_law_rows_here"] (defScope s__law_names) := ⟨rfl, rfl, rfl, by decide +kernel, rfl, by decide +kernel, by decide +kernel⟩
abbrev ct__law_names : Ct := fun ds S => ∃ (rows : Rows), ds = [dt rows] ∧ ((∀ c ∈ rows, ∀ l ∈ c.items, 0 < l.length ∧ l.length ≤ 1000) ∧ (rows.flatMap (·.items)).length ≤ 4000 ∧ (namesL rows).length < 60) ∧ S = So (dt (namesL rows))
theorem ok__law_names (F : Facts K mg) : Fn P w K mg base 2 "_law_names" 0 ct__law_names := by
  refine fn_df F.F__law_names sc__law_names (fun ds S ⟨rows, h, _⟩ => by rw [h]; rfl) fun f cdv A outer s H E B ds S hr hC => ?_
  obtain ⟨rows, rfl, hp, rfl⟩ := hC
  have hu := hr.units
  have nd := sc__law_names.nd
  refine ⟨_, ?hc, (sv_at (Γ1 := [_, _, _, _]) rfl (sv_seto 1 nd (ev_dict0 (α := Bool)) (sv_at (Γ1 := [_, _, _, _]) rfl (sv_forG (fun i f => [.sh (dt rows), .ow (mpS ((rows.take i).foldl nmStep [])), f 2, f 3]) (fun _ => .no) (Γ' := fun i d f => ((fun i f => [.sh (dt rows), .ow (mpS ((rows.take i).foldl nmStep [])), f 2, f 3]) i f).set 2 (.sh (dt d))) rfl (py_it (ev_var 0 rfl) ?o1) (pg_name (i := 2) nd rfl (by first | exact Or.inl rfl | exact Or.inr rfl)) [2] (fun i d f => tg_name (by decide)) rfl (fun i1 y1 hy1 g1 => (sv_at (Γ1 := [_, _, _, _]) rfl (sv_forG (fun i f => [.sh (dt rows), .ow (mpS ((y1.items.take i).foldl (fun k l => putS k (bareS l) true) ((rows.take i1).foldl nmStep []))), .sh (dt y1), f 3]) g1 (Γ' := fun i d f => ((fun i f => [.sh (dt rows), .ow (mpS ((y1.items.take i).foldl (fun k l => putS k (bareS l) true) ((rows.take i1).foldl nmStep []))), .sh (dt y1), f 3]) i f).set 3 (.sh (dt d))) rfl (py_it (ev_var 2 rfl) ?o2) (pg_name (i := 3) nd rfl (by first | exact Or.inl rfl | exact Or.inr rfl)) [3] (fun i d f => tg_name (by decide)) rfl (fun i2 y2 hy2 g2 => (sv_at (Γ1 := [_, _, _, _]) rfl (sv_putD 1 hu rfl (ev_call ((ok__law_bare F).mono (by decide)) hr (av_cons (ev_var 3 rfl) av_nil) ⟨_, rfl, ?o3, rfl⟩) ev_bl ?o4 (sv_endG (G := fun i f => [.sh (dt rows), .ow (mpS ((y1.items.take i).foldl (fun k l => putS k (bareS l) true) ((rows.take i1).foldl nmStep []))), .sh (dt y1), f 3]) (i := i2 + 1) (fun j => List.getD [.no, .no, .no, .sh (dt y2)] j .no) ?o5)))) (fun e2 => (sv_endG (G := fun i f => [.sh (dt rows), .ow (mpS ((rows.take i).foldl nmStep [])), f 2, f 3]) (i := i1 + 1) (fun j => List.getD [.no, .no, .sh (dt y1), e2 3] j .no) ?o6))))) (fun e1 => (sv_one (s_ret (ev_lendO 1 rfl (ev_sortedD rfl F.m_sorted (ev_var 1 rfl) ?o7)) ?o8)))))))⟩
  case hc => decide
  case o1 => trivial
  case o2 => trivial
  case o3 => exact hp.1 _ (List.mem_of_getElem? hy1) _ (List.mem_of_getElem? hy2)
  case o4 => exact nm_sz hp.2.1 hy1
  case o5 => have e : y1.items.take (i2 + 1) = y1.items.take i2 ++ [y2] := DL.take_next hy2; rw [e, List.foldl_append]; rfl
  case o6 => have e : (rows.take (i1 + 1)).foldl nmStep [] = _ := foldl_next hy1; have e2 : y1.items.take (PyIt.its y1).length = y1.items := List.take_length; rw [e, e2]; rfl
  case o7 => have e : rows.take (PyIt.its rows).length = rows := List.take_length; rw [e]; exact nm_few hp.2.2
  case o8 => have e : rows.take (PyIt.its rows).length = rows := List.take_length; rw [e]; exact ret_ow (nm_eq rows)

abbrev N__law_parts : List Str := ["_law_names_here", "_law_found", "_law_name", "_law_part"]
theorem sc__law_parts : FnScope N__law_parts ["_law_names_here"] (defScope s__law_parts) := ⟨rfl, rfl, rfl, by decide +kernel, rfl, by decide +kernel, by decide +kernel⟩
abbrev ct__law_parts : Ct := fun ds S => ∃ (names : List Str), ds = [dt names] ∧ (names.length ≤ 6 ∧ ∀ n ∈ names, n.length ≤ 1000) ∧ S = So (dt (partsL names))
theorem ok__law_parts (F : Facts K mg) : Fn P w K mg base 1 "_law_parts" 0 ct__law_parts := by
  refine fn_df F.F__law_parts sc__law_parts (fun ds S ⟨names, h, _⟩ => by rw [h]; rfl) fun f cdv A outer s H E B ds S hr hC => ?_
  obtain ⟨names, rfl, hp, rfl⟩ := hC
  have hu := hr.units
  have nd := sc__law_parts.nd
  refine ⟨_, ?hc, (sv_at (Γ1 := [_, _, _, _]) rfl (sv_setd 1 nd (ev_sh (ev_lstT (avt_cons (ev_nilT (α := Str)) avt_nil))) (sv_at (Γ1 := [_, _, _, _]) rfl (sv_forG (fun i f => [.sh (dt names), .sh (dt ((names.take i).foldl partStep [⟨[]⟩])), f 2, f 3]) (fun _ => .no) (Γ' := fun i d f => ((fun i f => [.sh (dt names), .sh (dt ((names.take i).foldl partStep [⟨[]⟩])), f 2, f 3]) i f).set 2 (.sh (dt d))) rfl (py_it (ev_var 0 rfl) ?o1) (pg_name (i := 2) nd rfl (by first | exact Or.inl rfl | exact Or.inr rfl)) [2] (fun i d f => tg_name (by decide)) rfl (fun i1 y1 hy1 g1 => (have hz := parts_take names i1 hp.1; (have hs := parts_sz names i1 hp.1; (have hn := hp.2 y1 (List.mem_of_getElem? hy1); (sv_at (Γ1 := [_, _, _, _]) rfl (sv_setd 1 nd (py_add (py_add (ev_var 1 rfl) (ev_sh ((lc_0 (own := [("_law_part", 3)]) (Γ' := fun d => (wipeE _ [3]).set 3 (.sh (dt d))) (py_it (ev_var 1 rfl) ?o2) (blkOk_by (N := N__law_parts) (sc := defScope s__law_parts) (by decide +kernel)) (fun d => tg_name (by decide)) (fun _ _ _ _ _ => pg_name (i := 3) nd rfl (by first | exact Or.inl rfl | exact Or.inr rfl)) (fun x1 hx1 _ _ _ _ _ => (py_add (ev_var 3 rfl) (ev_tupT (avt_cons (ev_var 2 rfl) avt_nil)) ?o3))).ev rfl nd)) ?o4) (ev_sh ((lc_0 (own := [("_law_part", 3)]) (Γ' := fun d => (wipeE _ [3]).set 3 (.sh (dt d))) (py_it (ev_var 1 rfl) ?o5) (blkOk_by (N := N__law_parts) (sc := defScope s__law_parts) (by decide +kernel)) (fun d => tg_name (by decide)) (fun _ _ _ _ _ => pg_name (i := 3) nd rfl (by first | exact Or.inl rfl | exact Or.inr rfl)) (fun x2 hx2 _ _ _ _ _ => (py_add (ev_var 3 rfl) (ev_tupT (avt_cons (py_add ev_str (ev_var 2 rfl) ?o6) avt_nil)) ?o7))).ev rfl nd)) ?o8) (sv_endG (G := fun i f => [.sh (dt names), .sh (dt ((names.take i).foldl partStep [⟨[]⟩])), f 2, f 3]) (i := i1 + 1) (fun j => List.getD [.no, .no, .sh (dt y1), g1 3] j .no) ?o9))))))) (fun e1 => (sv_one (s_ret (py_srt hu F.m_sorted (ev_sh ((lc_0 (ι := Tup Str) (β := Tup Str) (own := [("_law_part", 3)]) (Γ' := fun d => (wipeE _ [3]).set 3 (.sh (dt d))) (py_it (ev_var 1 rfl) ?o10) (blkOk_by (N := N__law_parts) (sc := defScope s__law_parts) (by decide +kernel)) (fun d => tg_name (by decide)) (fun _ _ _ _ _ => pg_name (i := 3) nd rfl (by first | exact Or.inl rfl | exact Or.inr rfl)) (fun x3 hx3 _ _ _ _ _ => (ev_tupleOf F.m_tuple (ev_sh (py_srt hu F.m_sorted (ev_var 3 rfl)))))).ev rfl nd))) ?o11)))))))⟩
  case hc => decide
  case o1 => trivial
  case o2 => trivial
  case o3 => exact sz_of (by have := hs x1 hx1; show x1.items.length + 1 ≤ _; omega)
  case o4 => exact sz_of (by show _ + (List.map _ _).length ≤ _; rw [List.length_map]; show _ + List.length _ ≤ _; exact Nat.le_trans (Nat.add_le_add hz hz) (by decide))
  case o5 => trivial
  case o6 => exact sz_of (by show minus.length + y1.length ≤ _; have : minus.length = 1 := rfl; omega)
  case o7 => exact sz_of (by have := hs x2 hx2; show x2.items.length + 1 ≤ _; omega)
  case o8 => exact sz_of (by show List.length (α := Tup Str) (_ ++ _) + (List.map _ _).length ≤ _; rw [List.length_append, List.length_map, List.length_map]; exact Nat.le_trans (Nat.add_le_add (Nat.add_le_add hz hz) hz) (by decide))
  case o9 => have e : (names.take (i1 + 1)).foldl partStep [⟨[]⟩] = _ := foldl_next hy1; rw [e]; rfl
  case o10 => trivial
  case o11 => have e : names.take (PyIt.its names).length = names := List.take_length; rw [e]; exact ret_ow rfl

abbrev N__law_signs : List Str := ["_law_names_here", "_law_found", "_law_name", "_law_clause_here"]
theorem sc__law_signs : FnScope N__law_signs ["_law_names_here"] (defScope s__law_signs) := ⟨rfl, rfl, rfl, by decide +kernel, rfl, by decide +kernel, by decide +kernel⟩
abbrev ct__law_signs : Ct := fun ds S => ∃ (names : List Str), ds = [dt names] ∧ (names.length ≤ 6 ∧ ∀ n ∈ names, n.length ≤ 1000) ∧ S = So (dt (signsL names))
theorem ok__law_signs (F : Facts K mg) : Fn P w K mg base 2 "_law_signs" 0 ct__law_signs := by
  refine fn_df F.F__law_signs sc__law_signs (fun ds S ⟨names, h, _⟩ => by rw [h]; rfl) fun f cdv A outer s H E B ds S hr hC => ?_
  obtain ⟨names, rfl, hp, rfl⟩ := hC
  have hu := hr.units
  have nd := sc__law_signs.nd
  refine ⟨_, ?hc, (sv_at (Γ1 := [_, _, _, _]) rfl (sv_setd 1 nd (ev_sh (ev_lstT (avt_cons (ev_nilT (α := Str)) avt_nil))) (sv_at (Γ1 := [_, _, _, _]) rfl (sv_forG (fun i f => [.sh (dt names), .sh (dt ((names.take i).foldl signStep [⟨[]⟩])), f 2, f 3]) (fun _ => .no) (Γ' := fun i d f => ((fun i f => [.sh (dt names), .sh (dt ((names.take i).foldl signStep [⟨[]⟩])), f 2, f 3]) i f).set 2 (.sh (dt d))) rfl (py_it (ev_var 0 rfl) ?o1) (pg_name (i := 2) nd rfl (by first | exact Or.inl rfl | exact Or.inr rfl)) [2] (fun i d f => tg_name (by decide)) rfl (fun i1 y1 hy1 g1 => (have hz := sign_take names i1 hp.1; (have hs := sign_sz6 names i1 hp.1; (have hn := hp.2 y1 (List.mem_of_getElem? hy1); (sv_at (Γ1 := [_, _, _, _]) rfl (sv_setd 1 nd (py_add (ev_sh ((lc_0 (own := [("_law_clause_here", 3)]) (Γ' := fun d => (wipeE _ [3]).set 3 (.sh (dt d))) (py_it (ev_var 1 rfl) ?o2) (blkOk_by (N := N__law_signs) (sc := defScope s__law_signs) (by decide +kernel)) (fun d => tg_name (by decide)) (fun _ _ _ _ _ => pg_name (i := 3) nd rfl (by first | exact Or.inl rfl | exact Or.inr rfl)) (fun x1 hx1 _ _ _ _ _ => (py_add (ev_var 3 rfl) (ev_tupT (avt_cons (ev_var 2 rfl) avt_nil)) ?o3))).ev rfl nd)) (ev_sh ((lc_0 (own := [("_law_clause_here", 3)]) (Γ' := fun d => (wipeE _ [3]).set 3 (.sh (dt d))) (py_it (ev_var 1 rfl) ?o4) (blkOk_by (N := N__law_signs) (sc := defScope s__law_signs) (by decide +kernel)) (fun d => tg_name (by decide)) (fun _ _ _ _ _ => pg_name (i := 3) nd rfl (by first | exact Or.inl rfl | exact Or.inr rfl)) (fun x2 hx2 _ _ _ _ _ => (py_add (ev_var 3 rfl) (ev_tupT (avt_cons (py_add ev_str (ev_var 2 rfl) ?o5) avt_nil)) ?o6))).ev rfl nd)) ?o7) (sv_endG (G := fun i f => [.sh (dt names), .sh (dt ((names.take i).foldl signStep [⟨[]⟩])), f 2, f 3]) (i := i1 + 1) (fun j => List.getD [.no, .no, .sh (dt y1), g1 3] j .no) ?o8))))))) (fun e1 => (sv_one (s_ret (ev_call ((ok__law_rows F).mono (by decide)) hr (av_cons (ev_sh ((lc_0 (ι := Tup Str) (β := Tup Str) (own := [("_law_clause_here", 3)]) (Γ' := fun d => (wipeE _ [3]).set 3 (.sh (dt d))) (py_it (ev_var 1 rfl) ?o9) (blkOk_by (N := N__law_signs) (sc := defScope s__law_signs) (by decide +kernel)) (fun d => tg_name (by decide)) (fun _ _ _ _ _ => pg_name (i := 3) nd rfl (by first | exact Or.inl rfl | exact Or.inr rfl)) (fun x3 hx3 _ _ _ _ _ => (ev_tupleOf F.m_tuple (ev_sh (py_srt hu F.m_sorted (ev_var 3 rfl)))))).ev rfl nd)) av_nil) ⟨_, rfl, ?o10, rfl⟩) ?o11)))))))⟩
  case hc => decide
  case o1 => trivial
  case o2 => trivial
  case o3 => exact sz_of (by have := hs x1 hx1; show x1.items.length + 1 ≤ _; omega)
  case o4 => trivial
  case o5 => exact sz_of (by show minus.length + y1.length ≤ _; have : minus.length = 1 := rfl; omega)
  case o6 => exact sz_of (by have := hs x2 hx2; show x2.items.length + 1 ≤ _; omega)
  case o7 => exact sz_of (by show (List.map _ _).length + (List.map _ _).length ≤ _; rw [List.length_map, List.length_map]; exact Nat.le_trans (Nat.add_le_add hz hz) (by decide))
  case o8 => have e : (names.take (i1 + 1)).foldl signStep [⟨[]⟩] = _ := foldl_next hy1; rw [e]; rfl
  case o9 => trivial
  case o10 => show (List.map _ _).length ≤ 10000; rw [List.length_map]; exact Nat.le_trans (sign_take names (PyIt.its names).length hp.1) (by decide)
  case o11 => have e : names.take (PyIt.its names).length = names := List.take_length; rw [e]; exact ret_ow rfl

abbrev N__law_ring : List Str := ["_law_names_here", "_law_found", "_law_one", "_law_other"]
theorem sc__law_ring : FnScope N__law_ring ["_law_names_here"] (defScope s__law_ring) := ⟨rfl, rfl, rfl, by decide +kernel, rfl, by decide +kernel, by decide +kernel⟩
abbrev ct__law_ring : Ct := fun ds S => ∃ (names : List Str), ds = [dt names] ∧ ((1 ≤ names.length ∧ names.length ≤ 6) ∧ ∀ n ∈ names, n.length ≤ 1000) ∧ S = So (dt (ringL names))
theorem ok__law_ring (F : Facts K mg) : Fn P w K mg base 2 "_law_ring" 0 ct__law_ring := by
  refine fn_df F.F__law_ring sc__law_ring (fun ds S ⟨names, h, _⟩ => by rw [h]; rfl) fun f cdv A outer s H E B ds S hr hC => ?_
  obtain ⟨names, rfl, hp, rfl⟩ := hC
  have hu := hr.units
  have nd := sc__law_ring.nd
  have hz : ∀ i : Nat, (((names.zip (cut names (some 1) none)).take i).foldl ringStep [⟨sset [ixD names (0 : Int), ixD names (-1 : Int)]⟩, ⟨sset [minus ++ ixD names (0 : Int), minus ++ ixD names (-1 : Int)]⟩]).length ≤ 20 := fun i => ring_sz names hp.1.2 i
  have m0 := ixD_in0 hp.1.1
  have m1 := ixD_in1 hp.1.1
  refine ⟨_, ?hc, (sv_at (Γ1 := [_, _, _, _]) rfl (sv_setd 1 nd (ev_sh (ev_lstT (avt_cons (ev_call ((ok__law_clause__L F).mono (by decide)) hr (av_cons (ev_sh (ev_lstT (avt_cons (py_ixD (ev_var 0 rfl) ev_int ?o1 ?o2) (avt_cons (py_ixD (k := -1) (ev_var 0 rfl) (ev_neg ev_int) ?o3 ?o4) avt_nil)))) av_nil) ⟨_, rfl, ?o5, rfl⟩) (avt_cons (ev_call ((ok__law_clause__L F).mono (by decide)) hr (av_cons (ev_sh (ev_lstT (avt_cons (py_add ev_str (py_ixD (ev_var 0 rfl) ev_int ?o6 ?o7) ?o8) (avt_cons (py_add ev_str (py_ixD (k := -1) (ev_var 0 rfl) (ev_neg ev_int) ?o9 ?o10) ?o11) avt_nil)))) av_nil) ⟨_, rfl, ?o12, rfl⟩) avt_nil)))) (sv_at (Γ1 := [_, _, _, _]) rfl (sv_forG (fun i f => [.sh (dt names), .sh (dt (((names.zip (cut names (some 1) none)).take i).foldl ringStep [⟨sset [ixD names (0 : Int), ixD names (-1 : Int)]⟩, ⟨sset [minus ++ ixD names (0 : Int), minus ++ ixD names (-1 : Int)]⟩])), f 2, f 3]) (fun _ => .no) (Γ' := fun i d f => (((fun i f => [.sh (dt names), .sh (dt (((names.zip (cut names (some 1) none)).take i).foldl ringStep [⟨sset [ixD names (0 : Int), ixD names (-1 : Int)]⟩, ⟨sset [minus ++ ixD names (0 : Int), minus ++ ixD names (-1 : Int)]⟩])), f 2, f 3]) i f).set 2 (.sh (dt d.1))).set 3 (.sh (dt d.2))) rfl (iv_zipL F.m_zip (ev_var 0 rfl) (py_sl (ev_var 0 rfl) (pv_so ev_int) pv_no ?o13)) (pg_tup (by rfl) (pgs_cons (pg_name (i := 2) nd rfl (by first | exact Or.inl rfl | exact Or.inr rfl)) (pgs_cons (pg_name (i := 3) nd rfl (by first | exact Or.inl rfl | exact Or.inr rfl)) pgs_nil))) [2, 3] (fun i d f => tg_pairT (by decide) (by decide)) rfl (fun i1 y1 hy1 g1 => (have hn1 := hp.2 y1.1 (zip_in hy1).1; (have hn2 := hp.2 y1.2 (zip_in hy1).2; (sv_at (Γ1 := [_, _, _, _]) rfl (sv_setd 1 nd (py_add (ev_var 1 rfl) (ev_sh (ev_lstT (avt_cons (ev_call ((ok__law_clause__L F).mono (by decide)) hr (av_cons (ev_sh (ev_lstT (avt_cons (ev_var 2 rfl) (avt_cons (py_add ev_str (ev_var 3 rfl) ?o14) avt_nil)))) av_nil) ⟨_, rfl, ?o15, rfl⟩) (avt_cons (ev_call ((ok__law_clause__L F).mono (by decide)) hr (av_cons (ev_sh (ev_lstT (avt_cons (py_add ev_str (ev_var 2 rfl) ?o16) (avt_cons (ev_var 3 rfl) avt_nil)))) av_nil) ⟨_, rfl, ?o17, rfl⟩) avt_nil)))) ?o18) (sv_endG (G := fun i f => [.sh (dt names), .sh (dt (((names.zip (cut names (some 1) none)).take i).foldl ringStep [⟨sset [ixD names (0 : Int), ixD names (-1 : Int)]⟩, ⟨sset [minus ++ ixD names (0 : Int), minus ++ ixD names (-1 : Int)]⟩])), f 2, f 3]) (i := i1 + 1) (fun j => List.getD [.no, .no, .sh (dt y1.1), .sh (dt y1.2)] j .no) ?o19)))))) (fun e1 => (sv_one (s_ret (ev_call ((ok__law_rows F).mono (by decide)) hr (av_cons (ev_var 1 rfl) av_nil) ⟨_, rfl, ?o20, rfl⟩) ?o21)))))))⟩
  case hc => decide
  case o1 => exact some_L (by omega)
  case o2 => trivial
  case o3 => exact some_last hp.1.1
  case o4 => trivial
  case o5 => show (2 : Nat) ≤ 60; decide
  case o6 => exact some_L (by omega)
  case o7 => trivial
  case o8 => have := hp.2 _ m0; exact sz_of (by show minus.length + (ixD names (0 : Int)).length ≤ _; have : minus.length = 1 := rfl; omega)
  case o9 => exact some_last hp.1.1
  case o10 => trivial
  case o11 => have := hp.2 _ m1; exact sz_of (by show minus.length + (ixD names (-1 : Int)).length ≤ _; have : minus.length = 1 := rfl; omega)
  case o12 => show (2 : Nat) ≤ 60; decide
  case o13 => trivial
  case o14 => exact sz_of (by show minus.length + y1.2.length ≤ _; have : minus.length = 1 := rfl; omega)
  case o15 => show (2 : Nat) ≤ 60; decide
  case o16 => exact sz_of (by show minus.length + y1.1.length ≤ _; have : minus.length = 1 := rfl; omega)
  case o17 => show (2 : Nat) ≤ 60; decide
  case o18 => exact sz_of (by have := hz i1; show _ + 2 ≤ _; exact Nat.le_trans (Nat.add_le_add_right this 2) (by decide))
  case o19 => have e : (names.zip (cut names (some 1) none)).take (i1 + 1) = (names.zip (cut names (some 1) none)).take i1 ++ [y1] := DL.take_next hy1; rw [e, List.foldl_append]; rfl
  case o20 => exact Nat.le_trans (hz _) (by decide)
  case o21 => have e : (names.zip (cut names (some 1) none)).take (names.zip (PySl.sl names (some 1) none)).length = names.zip (cut names (some 1) none) := List.take_length; rw [e]; exact ret_ow rfl

abbrev N__law_fillings : List Str := ["_law_rows_here", "_law_names_here", "_law_found", "_law_part"]
theorem sc__law_fillings : FnScope N__law_fillings ["_law_rows_here", "_law_names_here"] (defScope s__law_fillings) := ⟨rfl, rfl, rfl, by decide +kernel, rfl, by decide +kernel, by decide +kernel⟩
abbrev ct__law_fillings : Ct := fun ds S => ∃ (rows : Rows) (names : List Str), ds = [dt rows, dt names] ∧ ((names.length ≤ 6 ∧ ∀ n ∈ names, n.length ≤ 1000) ∧ ∀ c ∈ rows, ∀ l ∈ c.items, 0 < l.length ∧ l.length ≤ 1000) ∧ S = So (dt (fillsL rows names))
theorem ok__law_fillings (F : Facts K mg) : Fn P w K mg base 4 "_law_fillings" 0 ct__law_fillings := by
  refine fn_df F.F__law_fillings sc__law_fillings (fun ds S ⟨rows, names, h, _⟩ => by rw [h]; rfl) fun f cdv A outer s H E B ds S hr hC => ?_
  obtain ⟨rows, names, rfl, hp, rfl⟩ := hC
  have hu := hr.units
  have nd := sc__law_fillings.nd
  refine ⟨_, ?hc, (sv_at (Γ1 := [_, _, _, _]) rfl (sv_setLcd 2 (lc_T (own := [("_law_part", 3)]) (Γ' := fun d => (wipeE _ [3]).set 3 (.sh (dt d))) (py_it (ev_sh (ev_call ((ok__law_parts F).mono (by decide)) hr (av_cons (ev_var 1 rfl) av_nil) ⟨_, rfl, ?o1, rfl⟩)) ?o2) (blkOk_by (N := N__law_fillings) (sc := defScope s__law_fillings) (by decide +kernel)) (fun d => tg_name (by decide)) (fun _ _ _ _ _ => pg_name (i := 3) nd rfl (by first | exact Or.inl rfl | exact Or.inr rfl)) (fun x1 hx1 _ _ _ _ _ => tts_one (tv_eq hu (py_len F.m_len (ev_var 3 rfl) ?o3) (py_len F.m_len (ev_var 1 rfl) ?o4))) (fun x1 hx1 ht1 _ _ _ _ _ => (ev_var 3 rfl))) rfl nd (sv_one (s_ret ((lc_T (own := [("_law_part", 3)]) (Γ' := fun d => (wipeE _ [3]).set 3 (.sh (dt d))) (py_it (ev_var 2 rfl) ?o5) (blkOk_by (N := N__law_fillings) (sc := defScope s__law_fillings) (by decide +kernel)) (fun d => tg_name (by decide)) (fun _ _ _ _ _ => pg_name (i := 3) nd rfl (by first | exact Or.inl rfl | exact Or.inr rfl)) (fun x2 hx2 _ _ _ _ _ => tts_one (tv_eq hu (ev_sh (ev_call ((ok__law_broken F).mono (by decide)) hr (av_cons (ev_var 0 rfl) (av_cons (ev_var 3 rfl) av_nil)) ⟨_, _, rfl, ?o6, rfl⟩)) (ev_sh ev_nilL))) (fun x2 hx2 ht2 _ _ _ _ _ => (ev_var 3 rfl))).ev rfl nd) ?o7))))⟩
  case hc => decide
  case o1 => exact hp.1
  case o2 => trivial
  case o3 => first | trivial | exact sz_of (by omega)
  case o4 => first | trivial | exact sz_of (by omega)
  case o5 => trivial
  case o6 => exact hp.2
  case o7 => exact ret_ow (fills_eq rows names)

end
end Lk36
end

section
set_option Elab.async false
set_option linter.all false
set_option maxRecDepth 100000
set_option maxHeartbeats 4000000
set_option autoImplicit false
namespace Lk36
open PySem PySem.Spec PyProof.Rows L2 PySem.W PySem.SeqAt DL
variable [Wd]
section
variable {P : Program} {w : World} {K : PySem.W.Frag} {mg : Str → Option Value} {base : Heap}
abbrev N__law_shuffled__G : List Str := ["_law_purse_here", "_law_some", "_law_found", "_law_item"]
theorem sc__law_shuffled__G : FnScope N__law_shuffled__G ["_law_purse_here", "_law_some"] (defScope s__law_shuffled) := ⟨rfl, rfl, rfl, by decide +kernel, rfl, by decide +kernel, by decide +kernel⟩
abbrev ct__law_shuffled__G (α : Type) [DecidableEq α] [Datum α] : Ct := fun ds S => ∃ (xs : List α), ds = [.pu, dt xs] ∧ (xs.length ≤ 1000) ∧ S = fun r => ∃ ys : List α, ys.Perm xs ∧ r = .ow (dt ys)
theorem ok__law_shuffled__G {α : Type} [DecidableEq α] [Datum α] (F : Facts K mg) : Fn P w K mg base 3 "_law_shuffled" (sizeLine * (sizeLine * 4)) (ct__law_shuffled__G α) := by
  refine fn_df F.F__law_shuffled sc__law_shuffled__G (fun ds S ⟨xs, h, _⟩ => by rw [h]; rfl) fun f cdv A outer s H E B ds S hr hC => ?_
  obtain ⟨xs, rfl, hp, rfl⟩ := hC
  have hu := hr.units
  have nd := sc__law_shuffled__G.nd
  refine ⟨_, ?hc, (sv_seto 2 nd (ev_nilL (α := α)) (sv_cons (N := fun Γ' => ∃ ys : List α, ys.Perm xs ∧ ∃ e, Γ' = [.sh .pu, .sh (dt xs), .ow (dt ys), e])
    (s_for (O := { nx := fun Γ' => ∃ ys : List α, ys.Perm xs ∧ ∃ e, Γ' = [.sh .pu, .sh (dt xs), .ow (dt ys), e], rt := fun r => ∃ ys : List α, ys.Perm xs ∧ r = .ow (dt ys) }) (c1 := sizeLine * 4) rfl PassesOwn.never (py_it (ev_var 1 rfl) trivial) (pg_name (i := 3) nd rfl (Or.inl rfl))
      (fun zs i Γ' => ∃ ys : List α, ys.Perm (xs.take i) ∧ ∃ e, Γ' = [.sh .pu, .sh (dt xs), .ow (dt ys), e]) ?i0 ?it ?ie)
    (c2 := 0) (fun Γ' hΓ => by
      obtain ⟨ys, hy, e, rfl⟩ := hΓ
      exact sv_one (s_retO 2 rfl ⟨ys, hy, rfl⟩))))⟩
  case hc => decide
  case i0 => exact fun zs _ => ⟨[], by rw [List.take_zero], .no, rfl⟩
  case it =>
    rintro zs rfl i d hd Γi ⟨ys, hy, e, rfl⟩
    have hd' : zs[i]? = some d := hd
    have hl : ys.length ≤ 1000 := by rw [hy.length_eq, List.length_take]; omega
    refine ⟨_, [3], tg_name (by decide), sv_le (sv_insert 2 (PJ := fun j : Int => 0 ≤ j ∧ j < (ys.length : Int) + 1) (P := fun y : α => y = d) rfl (ev_call ((ok__law_draw F).mono (by decide)) hr (av_cons (ev_var 0 rfl) (av_cons (ev_add (ev_lenOw 2 rfl F.m_len) ev_int) av_nil)) ⟨_, rfl, ?q1, rfl⟩) (rt_of (ev_var 3 rfl)) (Nat.lt_of_le_of_lt hl (by decide)) ?q2 fun j y hj hY => sv_end ?q3)⟩
    case q1 => omega
    case q2 => exact fun j hj => ⟨hj.1, by omega⟩
    case q3 =>
      subst hY
      refine ⟨_, (insert_perm ys y j.toNat).trans ?_, _, rfl⟩
      rw [DL.take_next hd']
      exact (List.Perm.cons y hy).trans (List.perm_append_singleton _ _).symm
  case ie =>
    rintro zs rfl Γi ⟨ys, hy, e, rfl⟩
    rw [List.take_length] at hy
    exact ⟨ys, hy, e, rfl⟩

abbrev ct__law_shuffled__S : Ct := ct__law_shuffled__G Str
theorem ok__law_shuffled__S (F : Facts K mg) : Fn P w K mg base 3 "_law_shuffled" (sizeLine * (sizeLine * 4)) ct__law_shuffled__S := ok__law_shuffled__G F
abbrev N__law_words : List Str := ["_law_purse_here", "_law_many", "_law_base", "_law_near", "_law_spot", "_law_found", "_law_spin", "_law_word_here", "_law_letter"]
theorem sc__law_words : FnScope N__law_words ["_law_purse_here", "_law_many"] (defScope s__law_words) := ⟨rfl, rfl, rfl, by decide +kernel, rfl, by decide +kernel, by decide +kernel⟩
abbrev ct__law_words : Ct := fun ds S => ∃ many : Int, ds = [.pu, dt many] ∧ (0 ≤ many ∧ many ≤ 20) ∧ S = fun r => ∃ ws : List Str, Ws many.toNat ws ∧ r = .ow (dt ws)
/-- the slots within the loop -/
abbrev wsΓ (many : Int) (base : Str) (near : Bool) (spot : Int) (ws : List Str) (e6 e7 e8 : Ent) : List Ent := [.sh .pu, .sh (dt many), .sh (dt base), .sh (dt near), .sh (dt spot), .ow (dt ws), e6, e7, e8]
theorem ok__law_words (F : Facts K mg) : Fn P w K mg base 4 "_law_words" (sizeLine * (sizeLine * (sizeLine * 20))) ct__law_words := by
  refine fn_df F.F__law_words sc__law_words (fun ds S ⟨many, h, _⟩ => by rw [h]; rfl) fun f cdv A outer s H E B ds S hr hC => ?_
  obtain ⟨many, rfl, hp, rfl⟩ := hC
  have hu := hr.units
  have nd := sc__law_words.nd
  refine ⟨_, ?hc, sv_par 2 3 rfl nd (ev_call ((ok__law_word F).mono (by decide)) hr (av_cons (ev_var 0 rfl) av_nil) ⟨rfl, trivial, rfl⟩) (ev_eqR hu (ev_call ((ok__law_draw F).mono (by decide)) hr (av_cons (ev_var 0 rfl) (av_cons ev_int av_nil)) ⟨_, rfl, ⟨by decide, by decide⟩, rfl⟩) (rt_of ev_int))
    (c3 := sizeLine * (sizeLine * (sizeLine * 19))) fun r1 r2 ⟨d1, ⟨wb, hb, e1⟩, q1⟩ ⟨d2, ⟨near, _, e2⟩, q2⟩ => ?st⟩
  case hc => decide
  subst e1; subst e2; subst q1; subst q2
  have hl := wlen hb
  have z1 : PyLen.ok wb := sz_of (by show wb.length ≤ _; omega)
  refine sv_le (sv_parT (c3 := sizeLine * (sizeLine * (sizeLine * 18))) 4 5 rfl nd (ev_call ((ok__law_draw F).mono (by decide)) hr (av_cons (ev_var 0 rfl) (av_cons (py_len F.m_len (ev_var 2 rfl) z1) av_nil)) ⟨_, rfl, ?q1, rfl⟩) (ev_nilL (α := Str)) fun r1 r2 ⟨d1, ⟨spot, hs, e1⟩, q1⟩ q2 => ?st2)
  case q1 =>
    show 1 ≤ ((wb.length : Nat) : Int) ∧ ((wb.length : Nat) : Int) ≤ 1000000
    omega
  subst e1; subst q1; subst q2
  refine sv_le (sv_cons (c2 := 0) (N := fun Γ' => ∃ ws e6 e7 e8, Ws many.toNat ws ∧ Γ' = wsΓ many wb near spot ws e6 e7 e8) (s_for (c0 := 0) (c1 := sizeLine * (sizeLine * 17)) (O := { nx := fun Γ' => ∃ ws e6 e7 e8, Ws many.toNat ws ∧ Γ' = wsΓ many wb near spot ws e6 e7 e8, rt := fun r => ∃ ws : List Str, Ws many.toNat ws ∧ r = .ow (dt ws) }) rfl PassesOwn.never (iv_range1 F.m_range (av_cons (ev_var 1 rfl) av_nil) ?rg) (pg_name (i := 6) nd rfl (Or.inl rfl))
    (fun _ i Γ' => ∃ ws e6 e7 e8, Ws i ws ∧ Γ' = wsΓ many wb near spot ws e6 e7 e8) ?i0 ?it ?ie) ?fin)
  case rg => omega
  case i0 => exact fun xs _ => ⟨[], _, _, _, Ws.nil, rfl⟩
  case ie =>
    rintro xs rfl Γi ⟨ws, e6, e7, e8, h, rfl⟩
    rw [len_up] at h
    exact ⟨ws, e6, e7, e8, by rw [show many.toNat = (many : Int).toNat from rfl]; exact h, rfl⟩
  case fin =>
    rintro Γ' ⟨ws, e6, e7, e8, h, rfl⟩
    exact sv_one (s_retO 5 rfl ⟨ws, h, rfl⟩)
  case it =>
    rintro xs rfl i d hd Γi ⟨ws, e6, e7, e8, h, rfl⟩
    have hi : i < many.toNat := by
      have := (List.getElem?_eq_some_iff.mp hd).1
      rw [len_up] at this; exact this
    have hn : ws.length < 26 := by rw [h.len]; omega
    have hlen : ((PyLen.len wb : Nat) : Int) = (wb.length : Int) := rfl
    rw [hlen] at hs
    refine ⟨_, [6], tg_name (by decide), sv_le (sv_setR (c2 := sizeLine * (sizeLine * 16)) (P := fun z : Str => isWord z = true) 7 nd (rt_imp (py_addR (py_addR (rt_of (py_sl (ev_var 2 rfl) pv_no (pv_so (ev_var 4 rfl)) ?z1)) (ev_ixSR (PI := fun i : Int => 0 ≤ i ∧ i < 26) (P := fun y : Str => y.length = 1 ∧ letter y = true) ev_str (ev_call ((ok__law_draw F).mono (by decide)) hr (av_cons (ev_var 0 rfl) (av_cons ev_int av_nil)) ⟨_, rfl, ⟨by decide, by decide⟩, rfl⟩) (sz_of (by decide)) abc_at) ?z2) (rt_of (py_sl (ev_var 2 rfl) (pv_so (ev_add (ev_var 4 rfl) ev_int)) pv_no ?z4)) ?z3) ?sp)
      fun z hz => ?r1)⟩
    case z1 => exact sz_of (by omega)
    case z4 => exact sz_of (by omega)
    case z2 =>
      rintro x y rfl ⟨hy, _⟩
      have := cutS_len wb none (some spot)
      exact sz_of (by show (cutS wb none (some spot)).length + y.length ≤ _; omega)
    case z3 =>
      rintro x y ⟨u, v, rfl, ⟨hv, _⟩, rfl⟩ rfl
      have h1 := cutS_len wb none (some spot)
      have h2 := cutS_len wb (some (spot + 1)) none
      exact sz_of (by show (cutS wb none (some spot) ++ v).length + (cutS wb (some (spot + 1)) none).length ≤ _; rw [str_len_app]; omega)
    case sp =>
      rintro z ⟨x, y, ⟨u, v, rfl, hv, rfl⟩, rfl, rfl⟩
      exact splice_word hb hv hs
    refine sv_le (sv_if (Sb := fun _ => True) (c2 := sizeLine * (sizeLine * 1)) (N := fun Γ' => ∃ z, isWord z = true ∧ Γ' = wsΓ many wb near spot ws (.sh (dt d)) (.sh (dt z)) e8) (tv_weak (c := 0) (c1 := 0) (tv_notd (tv_d (ev_var 3 rfl))) (fun _ _ => trivial)) (fun _ => sv_one (s_set 7 (ev_call ((ok__law_word F).mono (by decide)) hr (av_cons (ev_var 0 rfl) av_nil) ⟨rfl, trivial, rfl⟩) (fun r ⟨d1, ⟨y, hy, e1⟩, q1⟩ => by subst e1; subst q1; exact ⟨y, hy, rfl⟩) nd)) (fun _ => sv_le (c1 := 0) (sv_end ⟨z, hz, rfl⟩)) ?r2)
    rintro Γ' ⟨z, hz, rfl⟩
    refine sv_le (sv_if (c2 := 0) (N := fun Γ' => ∃ z, (isWord z = true ∧ z ∉ ws) ∧ ∃ e, Γ' = wsΓ many wb near spot ws (.sh (dt d)) (.sh (dt z)) e) (ow_in 5 hu (.inl ⟨rfl, rfl⟩) rfl (ev_var 7 rfl) (S := fun _ => True)) (fun _ => sv_one (s_set 7 (py_ixD (ev_sh ((lc_T (own := [("_law_letter", 8)]) (Γ' := fun d => (wipeE _ [8]).set 8 (.sh (dt d))) (py_it (ev_sh (ev_listS (z := abc) rfl F.m_list ev_str ?z5)) trivial) (blkOk_by (N := N__law_words) (sc := defScope s__law_words) (by decide +kernel)) (fun d => tg_name (by decide)) (fun _ _ _ _ _ => pg_name (i := 8) nd rfl (Or.inl rfl)) (fun x hx _ _ _ _ _ => tts_one (ow_in 5 hu (.inr ⟨rfl, rfl⟩) rfl (ev_var 8 rfl) (S := fun _ => True))) (fun x hx ht _ _ _ _ _ => (ev_var 8 rfl))).ev rfl nd)) ev_int ?z6 trivial) (fun r q => ?r3) nd)) (fun hno => sv_le (c1 := 0) (sv_end ⟨z, ⟨hz, ?r4⟩, e8, rfl⟩)) ?r5)
    case z5 => exact sz_of (by decide)
    case z6 =>
      rw [List.map_id']
      exact some_L ⟨Int.le_refl _, Int.ofNat_lt.mpr (List.length_pos_iff.mpr (abc_free hn))⟩
    case r3 =>
      subst q
      rw [List.map_id']
      exact ⟨_, abc_first hn, _, rfl⟩
    case r4 => simpa using hno
    rintro Γ' ⟨z, ⟨hz, hno⟩, e, rfl⟩
    refine sv_le (sv_append (P := fun y => y = z) 5 rfl (rt_of (ev_var 7 rfl)) ?z7 fun y hy => by subst hy; exact sv_end ⟨_, _, _, _, h.snoc hz hno, rfl⟩)
    exact Nat.lt_of_lt_of_le hn (by decide)
end
end Lk36
end

section
set_option Elab.async false
set_option linter.all false
set_option maxRecDepth 100000
set_option maxHeartbeats 4000000
set_option autoImplicit false
/-! ClJ: fillings: the law's and the program's are the same; how many; clauses put in. -/
namespace DL
open PySem PySem.Spec PyProof.Rows L2 PySem.W PySem.SeqAt
variable [Wd]
def lenB (k : Nat) (p : Tup Str) : Bool := decide (p.items.length = k)
theorem fillMore_perm {xs ys : Rows} (h : xs.Perm ys) (n : Str) : (fillMore xs n).Perm (fillMore ys n) := h.flatMap_right _
theorem fold_perm : ∀ (ns : List Str) {xs ys : Rows}, xs.Perm ys → (ns.foldl fillMore xs).Perm (ns.foldl fillMore ys)
  | [], _, _, h => h
  | n :: ns, _, _, h => fold_perm ns (fillMore_perm h n)
theorem two_maps (F : Rows) (n : Str) : (F.map (fun p => (⟨p.items ++ [n]⟩ : Tup Str)) ++ F.map (fun p => (⟨p.items ++ [minus ++ n]⟩ : Tup Str))).Perm (fillMore F n) := by
  induction F with
  | nil => exact .nil
  | cons p r ih =>
    show (_ :: (_ ++ _ :: _)).Perm (_ :: _ :: _)
    refine List.Perm.cons _ ?_
    refine List.perm_middle.trans (List.Perm.cons _ ih)
theorem step_full {found : Rows} {k : Nat} (h : ∀ p ∈ found, p.items.length ≤ k) (n : Str) : ((partStep found n).filter (lenB (k + 1))).Perm (fillMore (found.filter (lenB k)) n) := by
  have e1 : found.filter (lenB (k + 1)) = [] := List.filter_eq_nil_iff.mpr fun p hp => by have := h p hp; unfold lenB; simp; omega
  have e2 : ∀ l : Str, (found.map (fun p => (⟨p.items ++ [l]⟩ : Tup Str))).filter (lenB (k + 1)) = (found.filter (lenB k)).map (fun p => (⟨p.items ++ [l]⟩ : Tup Str)) := fun l => by
    rw [List.filter_map]
    refine congrArg (List.map _) (congrArg (fun f => List.filter f found) (funext fun p => ?_))
    show lenB (k + 1) ⟨p.items ++ [l]⟩ = lenB k p
    unfold lenB
    rw [Bool.eq_iff_iff]; simp
  unfold partStep
  rw [List.filter_append, List.filter_append, e1, List.nil_append, e2, e2]
  exact two_maps _ n
theorem full_perm : ∀ (ns : List Str) (found : Rows) (k : Nat), (∀ p ∈ found, p.items.length ≤ k) → ((ns.foldl partStep found).filter (lenB (k + ns.length))).Perm (ns.foldl fillMore (found.filter (lenB k)))
  | [], found, k, _ => List.Perm.refl _
  | n :: ns, found, k, h => by
    have h' : ∀ p ∈ partStep found n, p.items.length ≤ k + 1 := fun p hp => by
      unfold partStep at hp
      rcases List.mem_append.mp hp with hp | hp
      · rcases List.mem_append.mp hp with hp | hp
        · have := h p hp; omega
        · obtain ⟨q, hq, rfl⟩ := List.mem_map.mp hp; have := h q hq; simp; omega
      · obtain ⟨q, hq, rfl⟩ := List.mem_map.mp hp; have := h q hq; simp; omega
    have ih := full_perm ns (partStep found n) (k + 1) h'
    rw [show k + (n :: ns).length = k + 1 + ns.length by rw [List.length_cons]; omega]
    exact ih.trans (fold_perm ns (step_full h n))
def fullRaw (names : List Str) : Rows := names.foldl fillMore [⟨[]⟩]
theorem raw_full (names : List Str) : ((partsRaw names).filter (lenB names.length)).Perm (fullRaw names) := by
  have := full_perm names [⟨[]⟩] 0 (fun p hp => by rw [List.mem_singleton.mp hp]; exact Nat.le_refl _)
  rw [Nat.zero_add] at this
  exact this
theorem fold_len2 : ∀ (ns : List Str) (xs : Rows), (ns.foldl fillMore xs).length = 2 ^ ns.length * xs.length
  | [], xs => by simp
  | n :: ns, xs => by rw [List.foldl_cons, fold_len2 ns, fillMore_len, List.length_cons, Nat.pow_succ, Nat.mul_assoc]
/-- the order within a part-filling does not matter -/
theorem breaks_perm {p q c : Tup Str} (h : ∀ l, l ∈ p.items ↔ l ∈ q.items) : breaksB p c = breaksB q c := by
  unfold breaksB
  refine congrArg (fun f => List.all c.items f) (funext fun l => ?_)
  rw [Bool.eq_iff_iff, decide_eq_true_eq, decide_eq_true_eq]; exact h _
def keptB (rows : Rows) (p : Tup Str) : Bool := decide (brokenL rows p = [])
theorem keptB_iff {rows : Rows} {p : Tup Str} : keptB rows p = true ↔ ∀ c ∈ rows, breaksB p c = false := by
  unfold keptB brokenL
  rw [decide_eq_true_eq, List.filter_eq_nil_iff]
  exact forall_congr' fun c => forall_congr' fun _ => by cases breaksB p c <;> simp
theorem kept_perm {rows : Rows} {p q : Tup Str} (h : ∀ l, l ∈ p.items ↔ l ∈ q.items) : keptB rows p = keptB rows q := by
  rw [Bool.eq_iff_iff, keptB_iff, keptB_iff]
  exact forall_congr' fun c => forall_congr' fun _ => by rw [breaks_perm h]
def srtP (p : Tup Str) : Tup Str := ⟨srt p.items⟩
theorem srtP_mem (p : Tup Str) : ∀ l, l ∈ p.items ↔ l ∈ (srtP p).items := fun l => (srt_perm p.items).mem_iff.symm
/-- the law's fillings -/
theorem fills_form (rows : Rows) (names : List Str) : fillsL rows names = srt (((fullRaw names).filter (keptB rows)).map srtP) := by
  have h1 : fillsL rows names = (partsL names).filter fun p => lenB names.length p && keptB rows p := by
    unfold fillsL
    rw [List.filter_filter]
    exact congrArg (fun f => List.filter f _) (funext fun p => Bool.and_comm _ _)
  rw [h1]
  have hs : Srt ((partsL names).filter fun p => lenB names.length p && keptB rows p) := List.Pairwise.filter _ (srt_srt _)
  refine Srt.one ?_ hs (srt_srt _)
  refine List.Perm.trans ?_ (srt_perm _).symm
  refine ((srt_perm _).filter _).trans ?_
  rw [List.filter_map]
  refine List.Perm.map _ ?_
  have e : (List.filter ((fun p => lenB names.length p && keptB rows p) ∘ fun p => (⟨srt p.items⟩ : Tup Str)) (partsRaw names)) = ((partsRaw names).filter (lenB names.length)).filter (keptB rows) := by
    rw [List.filter_filter]
    refine congrArg (fun f => List.filter f _) (funext fun p => ?_)
    show (lenB names.length (srtP p) && keptB rows (srtP p)) = _
    rw [← kept_perm (rows := rows) (srtP_mem p)]
    have : lenB names.length (srtP p) = lenB names.length p := by unfold lenB srtP; rw [(srt_perm p.items).length_eq]
    rw [this, Bool.and_comm]
  rw [e]
  exact (raw_full names).filter _
theorem fills_len (rows : Rows) (names : List Str) : (fillsL rows names).length ≤ 2 ^ names.length := by
  rw [fills_form, (srt_perm _).length_eq, List.length_map]
  refine Nat.le_trans (List.length_filter_le _ _) ?_
  unfold fullRaw
  rw [fold_len2, List.length_singleton, Nat.mul_one]; exact Nat.le_refl _
/-! ### the program's fillings -/
theorem brk_mono {p q c : Tup Str} (h : ∀ l ∈ p.items, l ∈ q.items) (hb : breaksB p c = true) : breaksB q c = true := by
  unfold breaksB at hb ⊢
  rw [List.all_eq_true] at hb ⊢
  exact fun l hl => decide_eq_true (h _ (of_decide_eq_true (hb l hl)))
theorem not_any {rows : Rows} {p : Tup Str} : (!(rows.map (breaksB p)).any id) = keptB rows p := by
  rw [Bool.eq_iff_iff, keptB_iff]
  rw [Bool.not_eq_true', List.any_eq_false]
  constructor
  · intro h c hc
    have := h _ (List.mem_map.mpr ⟨c, hc, rfl⟩)
    simpa using this
  · rintro h b hb
    obtain ⟨c, hc, rfl⟩ := List.mem_map.mp hb
    simpa using h c hc
def name2 (p : Tup Str) (l : Str) : Tup Str := ⟨p.items ++ [l]⟩
theorem step_kept (rows xs : Rows) (n : Str) : fillStep rows (xs.filter (keptB rows)) n = (fillMore xs n).filter (keptB rows) := by
  unfold fillStep
  have e : (fun p => !(rows.map (breaksB p)).any id) = keptB rows := funext fun p => not_any
  rw [e]
  induction xs with
  | nil => rfl
  | cons p r ih =>
    have hm : ∀ l : Str, keptB rows p = false → keptB rows (⟨p.items ++ [l]⟩ : Tup Str) = false := fun l h => by
      cases q : keptB rows (⟨p.items ++ [l]⟩ : Tup Str) with
      | false => rfl
      | true =>
        have : keptB rows p = true := keptB_iff.mpr fun c hc => by
          cases hb : breaksB p c with
          | false => rfl
          | true => rw [← keptB_iff.mp q c hc, brk_mono (q := ⟨p.items ++ [l]⟩) (fun l hl => List.mem_append_left _ hl) hb]
        rw [h] at this; cases this
    have e1 : fillMore (p :: r) n = [name2 p n, name2 p (minus ++ n)] ++ fillMore r n := by unfold fillMore; rw [List.flatMap_cons]; rfl
    rw [e1, List.filter_append, ← ih]
    cases hk : keptB rows p with
    | true =>
      rw [List.filter_cons_of_pos hk]
      have e2 : fillMore (p :: r.filter (keptB rows)) n = [name2 p n, name2 p (minus ++ n)] ++ fillMore (r.filter (keptB rows)) n := by unfold fillMore; rw [List.flatMap_cons]; rfl
      rw [e2, List.filter_append]
    | false =>
      rw [List.filter_cons_of_neg (by rw [hk]; decide)]
      have e3 : List.filter (keptB rows) [name2 p n, name2 p (minus ++ n)] = [] := List.filter_eq_nil_iff.mpr fun q hq => by
        simp only [List.mem_cons, List.not_mem_nil, or_false] at hq
        rcases hq with rfl | rfl
        · rw [show name2 p n = ⟨p.items ++ [n]⟩ from rfl, hm n hk]; decide
        · rw [show name2 p (minus ++ n) = ⟨p.items ++ [minus ++ n]⟩ from rfl, hm _ hk]; decide
      rw [e3, List.nil_append]
theorem fold_kept (rows : Rows) : ∀ (ns : List Str) (xs : Rows), ns.foldl (fillStep rows) (xs.filter (keptB rows)) = (ns.foldl fillMore xs).filter (keptB rows)
  | [], xs => rfl
  | n :: ns, xs => by rw [List.foldl_cons, List.foldl_cons, step_kept, fold_kept rows ns]
theorem full_pt {names : List Str} (hw : ∀ n ∈ names, isWord n = true) (nd : names.Nodup) : ∀ p ∈ fullRaw names, Pt names p.items := fun p hp =>
  partsRaw_pt hw nd p (List.mem_filter.mp ((raw_full names).mem_iff.mpr hp)).1
theorem fills_same {rows : Rows} {names : List Str} (hw : ∀ n ∈ names, isWord n = true) (nd : names.Nodup) : allFills rows names = fillsL rows names := by
  rw [fills_form]
  unfold allFills fillRaw
  cases he : decide ((⟨[]⟩ : Tup Str) ∈ rows) with
  | true =>
    have e0 : ((fullRaw names).filter (keptB rows)) = [] := List.filter_eq_nil_iff.mpr fun p _ h => by
      have := keptB_iff.mp h _ (of_decide_eq_true he)
      exact absurd this (by show ¬ (breaksB p ⟨[]⟩ = false); exact fun z => by cases z)
    rw [e0]
    rw [List.filter_eq_nil_iff.mpr (fun _ _ => by decide)]
    rfl
  | false =>
    have e1 : ([⟨[]⟩] : Rows).filter (keptB rows) = [⟨[]⟩] := List.filter_eq_self.mpr fun p hp => by
      rw [List.mem_singleton.mp hp]
      refine keptB_iff.mpr fun c hc => ?_
      cases hb : breaksB ⟨[]⟩ c with
      | false => rfl
      | true =>
        exfalso
        unfold breaksB at hb
        rw [List.all_eq_true] at hb
        have : c.items = [] := by
          cases hc2 : c.items with
          | nil => rfl
          | cons l r => have := hb l (by rw [hc2]; exact List.mem_cons_self); simp at this
        have : c = ⟨[]⟩ := by cases c; simp at this; rw [this]
        rw [this] at hc
        exact absurd hc (of_decide_eq_false he)
    have e2 := fold_kept rows names [⟨[]⟩]
    rw [e1] at e2
    rw [e2, List.filter_eq_self.mpr (fun _ _ => by decide)]
    refine congrArg srt (List.map_congr_left fun p hp => ?_)
    have pt := full_pt hw nd p (List.mem_filter.mp hp).1
    show (⟨sset p.items⟩ : Tup Str) = ⟨srt p.items⟩
    unfold sset
    rw [srt_one (once_id pt.nd)]
/-! ### a clause more -/
theorem fills_more {rows rows' : Rows} {c : Tup Str} {names : List Str} {f : Tup Str} (hr : ∀ d, d ∈ rows' ↔ d ∈ rows ∨ d = c) (hf : f ∈ fillsL rows names) (hb : breaksB f c = true) : (fillsL rows' names).length < (fillsL rows names).length := by
  unfold fillsL at hf ⊢
  have e : (fun p => decide (brokenL rows' p = [])) = fun p => decide (brokenL rows p = []) && !breaksB p c := funext fun p => by
    show keptB rows' p = (keptB rows p && !breaksB p c)
    rw [Bool.eq_iff_iff, keptB_iff, Bool.and_eq_true, keptB_iff, Bool.not_eq_true']
    constructor
    · exact fun h => ⟨fun d hd => h d ((hr d).mpr (.inl hd)), h c ((hr c).mpr (.inr rfl))⟩
    · rintro ⟨h1, h2⟩ d hd
      rcases (hr d).mp hd with q | q
      · exact h1 d q
      · rw [q]; exact h2
  rw [e]
  have e2 : (List.filter (fun p => decide (brokenL rows p = []) && !breaksB p c) ((partsL names).filter fun p => decide (p.items.length = names.length))) = (((partsL names).filter fun p => decide (p.items.length = names.length)).filter fun p => decide (brokenL rows p = [])).filter fun p => !breaksB p c := by
    conv => rhs; rw [List.filter_filter]
    exact congrArg (fun f => List.filter f _) (funext fun p => Bool.and_comm _ _)
  rw [e2]
  refine List.length_filter_lt_length_iff_exists.mpr ⟨f, hf, by rw [hb]; decide⟩
end DL
namespace DL
open PySem PySem.Spec PyProof.Rows L2 PySem.W PySem.SeqAt
variable [Wd]
theorem rw_sset {names : List Str} {rows : Rows} (h : ∀ c ∈ rows, Cls names c) : Rw names (sset rows) := ⟨sset_rise _, fun c hc => h c (mem_sset.mp hc)⟩
theorem drawn_ds {names : List Str} {many : Int} (hm : 0 ≤ many ∧ many ≤ 1000) (ds : List D) :
    (∃ d r, ds = d :: r ∧ (∃ z : Rows, (∃ xs : List Int, xs = upFrom 0 many.toNat ∧ F2 (fun _ (c : Tup Str) => Cls names c) xs z) ∧ d = dt z) ∧ r = []) →
    ∃ S', (∃ rows : Rows, ds = [dt rows] ∧ (rows.length ≤ 10000) ∧ S' = So (dt (sset rows))) ∧ ∀ r, S' r → Ro (fun rows : Rows => Rw names rows ∧ rows.length ≤ many.toNat) r := by
  rintro ⟨d, r, rfl, ⟨z, ⟨xs, rfl, hF⟩, rfl⟩, rfl⟩
  have hl := hF.len
  rw [len_up] at hl
  refine ⟨_, ⟨z, rfl, by omega, rfl⟩, ret_ro ⟨rw_sset fun c hc => ?_, ?_⟩⟩
  · obtain ⟨x, _, h⟩ := hF.mem c hc; exact h
  · have := sset_lenA z; omega
end DL
namespace DL
open PySem PySem.Spec PyProof.Rows L2 PySem.W PySem.SeqAt
variable [Wd]
theorem _root_.List.Nodup.map_on' {α β : Type} {f : α → β} : ∀ {xs : List α}, xs.Nodup → (∀ a ∈ xs, ∀ b ∈ xs, f a = f b → a = b) → (xs.map f).Nodup
  | [], _, _ => List.Pairwise.nil
  | x :: r, nd, h => by
    obtain ⟨h1, h2⟩ := List.pairwise_cons.mp nd
    refine List.pairwise_cons.mpr ⟨fun y hy => ?_, List.Nodup.map_on' h2 fun a ha b hb => h a (List.mem_cons_of_mem _ ha) b (List.mem_cons_of_mem _ hb)⟩
    obtain ⟨z, hz, rfl⟩ := List.mem_map.mp hy
    exact fun e => h1 z hz (h x List.mem_cons_self z (List.mem_cons_of_mem _ hz) e)
theorem fills_pt {names : List Str} {rows : Rows} (hw : ∀ n ∈ names, isWord n = true) (nd : names.Nodup) : ∀ p ∈ fillsL rows names, Pt names p.items := fun p hp =>
  partsL_pt hw nd p (List.mem_filter.mp (List.mem_filter.mp hp).1).1
/-- the clause that a part of a filling does not keep -/
theorem pt_turned {names ls : List Str} {f : Tup Str} (h : Pt names f.items) (hs : ∀ x ∈ ls, x ∈ f.items) : Cls names ⟨sset (ls.map turnS)⟩ where
  rise := sset_rise _
  pt := by
    refine ⟨fun l hl => ?_, fun l hl => ?_, ?_⟩
    · obtain ⟨x, hx, rfl⟩ := List.mem_map.mp (mem_sset.mp hl)
      exact (h.lit x (hs x hx)).turn
    · obtain ⟨x, hx, rfl⟩ := List.mem_map.mp (mem_sset.mp hl)
      rw [(h.lit x (hs x hx)).bare_turn]
      exact h.own x (hs x hx)
    · have inj : ∀ a ∈ sset (ls.map turnS), ∀ b ∈ sset (ls.map turnS), bareS a = bareS b → a = b := fun a ha b hb e => by
        obtain ⟨x, hx, rfl⟩ := List.mem_map.mp (mem_sset.mp ha)
        obtain ⟨y, hy, rfl⟩ := List.mem_map.mp (mem_sset.mp hb)
        rw [(h.lit x (hs x hx)).bare_turn, (h.lit y (hs y hy)).bare_turn] at e
        rw [inj_of_map h.unl (hs x hx) (hs y hy) e]
      have nd : (sset (ls.map turnS)).Nodup := (sset_rise _).nodup
      exact List.Nodup.map_on' nd inj
theorem rw_more {names : List Str} {rows : Rows} {c : Tup Str} (h : Rw names rows) (hc : Cls names c) : Rw names (sset (rows ++ [c])) := rw_sset fun d hd => by
  rcases List.mem_append.mp hd with q | q
  · exact h.cls d q
  · rw [List.mem_singleton.mp q]; exact hc
theorem brk_turned {ls : List Str} {f : Tup Str} (h : ∀ x ∈ ls, Lit x) (hs : ∀ x ∈ ls, x ∈ f.items) : breaksB f ⟨sset (ls.map turnS)⟩ = true := by
  unfold breaksB
  rw [List.all_eq_true]
  intro l hl
  obtain ⟨x, hx, rfl⟩ := List.mem_map.mp (mem_sset.mp hl)
  rw [(h x hx).turn_turn]
  exact decide_eq_true (hs x hx)
end DL
namespace DL
open PySem PySem.Spec PyProof.Rows L2 PySem.W PySem.SeqAt
variable [Wd]
/-- a book's rows, over at most n words -/
def BkR (n : Nat) (rows : Rows) : Prop := ∃ names, Nm n names ∧ Rw names rows ∧ rows.length ≤ 45
theorem BkR.bk {n : Nat} {rows : Rows} (h : BkR n rows) (hn : n ≤ 6) : Bk rows := by
  obtain ⟨names, h1, h2, h3⟩ := h
  exact h2.bk h1 hn (by omega)
theorem BkR.up {n m : Nat} {rows : Rows} (h : BkR n rows) (hm : n ≤ m) : BkR m rows := by
  obtain ⟨names, h1, h2, h3⟩ := h
  exact ⟨names, h1.up hm, h2, h3⟩
theorem words_nm {n : Nat} (z : List Str) : (∃ xs, Ws n xs ∧ z = srt xs) → Nm n z ∧ z.length = n := by
  rintro ⟨xs, h, rfl⟩
  have hl : (srt xs).length = n := by rw [(srt_perm xs).length_eq, h.len]
  exact ⟨⟨fun w hw => h.word w ((srt_perm xs).mem_iff.mp hw), (srt_perm xs).nodup_iff.mpr h.nd, by omega⟩, hl⟩
theorem nodup_ix {α : Type} {xs : List α} (h : xs.Nodup) {i j : Nat} {x : α} (hi : xs[i]? = some x) (hj : xs[j]? = some x) : i = j := by
  obtain ⟨l1, g1⟩ := List.getElem?_eq_some_iff.mp hi
  obtain ⟨l2, g2⟩ := List.getElem?_eq_some_iff.mp hj
  have p := List.pairwise_iff_getElem.mp h
  rcases Nat.lt_trichotomy i j with q | q | q
  · exact absurd (g1.trans g2.symm) (p i j l1 l2 q)
  · exact q
  · exact absurd (g2.trans g1.symm) (p j i l2 l1 q)
theorem pt_pair {names : List Str} {a b la lb : Str} (hw : ∀ n ∈ names, isWord n = true) (ha : a ∈ names) (hb : b ∈ names) (hab : a ≠ b) (h1 : la = a ∨ la = minus ++ a) (h2 : lb = b ∨ lb = minus ++ b) : Pt names [la, lb] := by
  have b1 : bareS la = a := h1.elim (fun e => by rw [e]; exact bare_word (hw _ ha)) (fun e => by rw [e]; exact bare_neg _)
  have b2 : bareS lb = b := h2.elim (fun e => by rw [e]; exact bare_word (hw _ hb)) (fun e => by rw [e]; exact bare_neg _)
  refine ⟨fun l hl => ?_, fun l hl => ?_, ?_⟩
  · simp only [List.mem_cons, List.not_mem_nil, or_false] at hl
    rcases hl with rfl | rfl
    · exact h1.elim (fun e => e ▸ .pos (hw _ ha)) (fun e => e ▸ .neg (hw _ ha))
    · exact h2.elim (fun e => e ▸ .pos (hw _ hb)) (fun e => e ▸ .neg (hw _ hb))
  · simp only [List.mem_cons, List.not_mem_nil, or_false] at hl
    rcases hl with rfl | rfl
    · rw [b1]; exact ha
    · rw [b2]; exact hb
  · show [bareS la, bareS lb].Nodup
    rw [b1, b2]
    exact List.nodup_cons.mpr ⟨by simp [hab], by simp⟩
/-- all signs -/
theorem sign_pt : ∀ (ns names : List Str) (found : Rows), (∀ n ∈ ns, isWord n = true) → (names ++ ns).Nodup → (∀ p ∈ found, Pt names p.items) → ∀ p ∈ ns.foldl signStep found, Pt (names ++ ns) p.items
  | [], names, found, _, _, h => by simpa using h
  | n :: ns, names, found, hw, nd, h => fun p hp => by
    have e : names ++ n :: ns = (names ++ [n]) ++ ns := by rw [List.append_assoc]; rfl
    rw [e] at nd ⊢
    have hn : n ∉ names := by
      have := (List.nodup_append.mp nd).1
      exact fun hm => (List.nodup_append.mp this).2.2 n hm n (List.mem_singleton.mpr rfl) rfl
    refine sign_pt ns (names ++ [n]) (signStep found n) (fun m hm => hw m (List.mem_cons_of_mem _ hm)) nd (fun q hq => ?_) p hp
    have hwn := hw n List.mem_cons_self
    unfold signStep at hq
    rcases List.mem_append.mp hq with hq | hq
    · obtain ⟨q', hq', rfl⟩ := List.mem_map.mp hq
      exact pt_snoc (h q' hq') hn (.pos hwn) (bare_word hwn)
    · obtain ⟨q', hq', rfl⟩ := List.mem_map.mp hq
      exact pt_snoc (h q' hq') hn (.neg hwn) (bare_neg _)
theorem Cls.more {names ms : List Str} {c : Tup Str} (h : Cls names c) (s : ∀ n ∈ names, n ∈ ms) : Cls ms c := ⟨h.rise, h.pt.more s⟩
theorem sign_cls {k : Nat} {names : List Str} (h : Nm k names) : Rw names (signsL names) ∧ (signsL names).length ≤ 2 ^ names.length := by
  constructor
  · refine rw_sset fun c hc => ?_
    obtain ⟨p, hp, rfl⟩ := List.mem_map.mp hc
    have pt := sign_pt names [] [⟨[]⟩] h.word (by simpa using h.nd) (fun q hq => by rw [List.mem_singleton.mp hq]; exact Pt.nil) p hp
    rw [List.nil_append] at pt
    refine ⟨(srt_srt _).rise ((srt_perm _).nodup_iff.mpr pt.nd), pt.perm (srt_perm _)⟩
  · refine Nat.le_trans (sset_lenA _) ?_
    rw [List.length_map, sign_len, List.length_singleton, Nat.mul_one]; exact Nat.le_refl _
theorem ring_cls {k : Nat} {names : List Str} (h : Nm k names) (h2 : 2 ≤ names.length) : Rw names (ringL names) ∧ (ringL names).length ≤ 2 * names.length + 2 := by
  have m0 := ixD_in0 (names := names) (by omega)
  have m1 := ixD_in1 (names := names) (by omega)
  have ne : ixD names (0 : Int) ≠ ixD names (-1 : Int) := by
    obtain ⟨x, hx, e⟩ := ixD_last (names := names) (by omega)
    have h0 : ixD names (0 : Int) = names[0]'(by omega) := ixD_L (i := 0) (List.getElem?_eq_getElem (by omega))
    rw [e, h0]
    rw [List.getElem?_eq_getElem (by omega)] at hx
    have hx' := Option.some.inj hx
    rw [← hx']
    intro z
    have := nodup_ix h.nd (i := 0) (j := names.length - 1) (List.getElem?_eq_getElem (by omega)) (by rw [List.getElem?_eq_getElem (by omega), z])
    omega
  constructor
  · refine rw_sset ?_
    have base : ∀ c ∈ ([⟨sset [ixD names (0 : Int), ixD names (-1 : Int)]⟩, ⟨sset [minus ++ ixD names (0 : Int), minus ++ ixD names (-1 : Int)]⟩] : Rows), Cls names c := fun c hc => by
      simp only [List.mem_cons, List.not_mem_nil, or_false] at hc
      rcases hc with rfl | rfl
      · exact (pt_pair h.word m0 m1 ne (.inl rfl) (.inl rfl)).clause
      · exact (pt_pair h.word m0 m1 ne (.inr rfl) (.inr rfl)).clause
    have main : ∀ (zs : List (Str × Str)) (found : Rows), (∀ q ∈ zs, q.1 ∈ names ∧ q.2 ∈ names ∧ q.1 ≠ q.2) → (∀ c ∈ found, Cls names c) → ∀ c ∈ zs.foldl ringStep found, Cls names c := by
      intro zs
      induction zs with
      | nil => exact fun found _ h => h
      | cons q r ih =>
        intro found hz hf
        refine ih _ (fun x hx => hz x (List.mem_cons_of_mem _ hx)) fun c hc => ?_
        unfold ringStep at hc
        obtain ⟨a1, a2, a3⟩ := hz q List.mem_cons_self
        rcases List.mem_append.mp hc with hc | hc
        · exact hf c hc
        · simp only [List.mem_cons, List.not_mem_nil, or_false] at hc
          rcases hc with rfl | rfl
          · exact (pt_pair h.word a1 a2 a3 (.inl rfl) (.inr rfl)).clause
          · exact (pt_pair h.word a1 a2 a3 (.inr rfl) (.inl rfl)).clause
    refine main _ _ (fun q hq => ?_) base
    obtain ⟨i, hi⟩ := List.getElem?_of_mem hq
    obtain ⟨b1, b2⟩ := zip_in hi
    refine ⟨b1, b2, ?_⟩
    rw [List.getElem?_zip_eq_some] at hi
    obtain ⟨e1, e2⟩ := hi
    rw [show cut names (some 1) none = names.drop 1 from cut_rest names, List.getElem?_drop] at e2
    intro z
    rw [z] at e1
    have := nodup_ix h.nd e1 e2
    omega
  · refine Nat.le_trans (sset_lenA _) ?_
    rw [ring_take, List.length_zip, cut_rest, List.length_drop]
    simp only [List.length_cons, List.length_nil]
    omega
theorem turnC_cls {names ws : List Str} {c : Tup Str} (h : Cls names c) : Cls names (turnC ws c) := by
  have := h.pt.turn (f := turnL ws) fun l hl => by
    unfold turnL
    cases decide (bareS l ∈ ws)
    · exact .inl rfl
    · exact .inr rfl
  exact this.clause
theorem turned_bk {k : Nat} {names ns : List Str} {rows : Rows} (hN : Nm k names) (h : (∀ c ∈ rows, Cls names c) ∧ rows.length ≤ 45) : BkR k (sset (rows.map (turnC ns))) := by
  refine ⟨names, hN, rw_sset fun c hc => ?_, ?_⟩
  · obtain ⟨d, hd, rfl⟩ := List.mem_map.mp hc
    exact turnC_cls (h.1 d hd)
  · refine Nat.le_trans (sset_lenA _) ?_
    rw [List.length_map]; exact h.2
theorem app_rows {names : List Str} {k m : Nat} {x y : Rows} (h1 : Rw names x ∧ x.length ≤ k) (h2 : (∀ c ∈ y, Cls names c) ∧ y.length ≤ m) (hk : k + m ≤ 45) : (∀ c ∈ x ++ y, Cls names c) ∧ (x ++ y).length ≤ 45 := by
  refine ⟨fun c hc => ?_, by rw [List.length_append]; omega⟩
  rcases List.mem_append.mp hc with q | q
  · exact h1.1.cls c q
  · exact h2.1 c q
theorem f2_rows {names : List Str} {xs : List Int} {y : Rows} {m : Nat} (h : F2 (fun _ (c : Tup Str) => Cls names c) xs y) (hm : xs.length ≤ m) : (∀ c ∈ y, Cls names c) ∧ y.length ≤ m :=
  ⟨fun c hc => by obtain ⟨x, _, q⟩ := h.mem c hc; exact q, by rw [h.len]; exact hm⟩
end DL
namespace DL
open PySem PySem.Spec PyProof.Rows L2 PySem.W PySem.SeqAt
variable [Wd]
theorem sgn_rows {k : Nat} {names : List Str} {l u : Option Int} (h : Nm k names) (hk : k ≤ 5) : Rw names (signsL (cut names l u)) ∧ (signsL (cut names l u)).length ≤ 32 := by
  have sb := sub_cut names l u
  have := sign_cls (h.sub sb)
  refine ⟨⟨this.1.rise, fun c hc => (this.1.cls c hc).more fun n hn => sb.subset hn⟩, Nat.le_trans this.2 ?_⟩
  have := sb.length_le
  have := h.few
  exact Nat.le_trans (Nat.pow_le_pow_right (by decide) (show (cut names l u).length ≤ 5 by omega)) (by decide)
theorem sgn_len {k : Nat} {names ns : List Str} {y : Rows} (h : Nm k names) (hs : ∃ l u, ns = cut names l u) (hk : k ≤ 5) (hy : y.length ≤ 5) : (signsL ns).length + y.length ≤ 16777216 := by
  obtain ⟨l, u, rfl⟩ := hs
  have := (sgn_rows (l := l) (u := u) h hk).2
  omega
theorem rng_rows {k : Nat} {names ns : List Str} (h : Nm k names) (hp : ns.Perm names) (h2 : 2 ≤ names.length) (hk : k ≤ 5) : Rw names (ringL ns) ∧ (ringL ns).length ≤ 12 := by
  have := ring_cls (h.perm hp) (by rw [hp.length_eq]; exact h2)
  have := h.few
  have := hp.length_eq
  refine ⟨⟨(ring_cls (h.perm hp) (by omega)).1.rise, fun c hc => ((ring_cls (h.perm hp) (by omega)).1.cls c hc).more fun n hn => hp.mem_iff.mp hn⟩, by omega⟩
theorem rng_len {k : Nat} {names ns : List Str} {y : Rows} (h : Nm k names) (hp : ns.Perm names) (h2 : 1 ≤ names.length) (hk : k ≤ 5) (hy : y.length ≤ 5) : (ringL ns).length + y.length ≤ 16777216 := by
  have e : (ringL ns).length ≤ 2 * ns.length + 2 := by
    refine Nat.le_trans (sset_lenA _) ?_
    rw [ring_take, List.length_zip, cut_rest, List.length_drop]
    simp only [List.length_cons, List.length_nil]
    have := hp.length_eq
    omega
  have := hp.length_eq
  have := h.few
  omega
end DL
namespace DL
open PySem PySem.Spec PyProof.Rows L2 PySem.W PySem.SeqAt
variable [Wd]
theorem F2.imp {ι β : Type} {P P' : ι → β → Prop} (h : ∀ x y, P x y → P' x y) : ∀ {xs : List ι} {ys : List β}, F2 P xs ys → F2 P' xs ys
  | _, _, .nil => .nil
  | _, _, .cons a b => .cons (h _ _ a) (F2.imp h b)
theorem kept_pt {k : Nat} {names z : List Str} (hN : Nm k names) (h : ∃ xs, xs = names ∧ F2 (fun (x z : Str) => (True ∧ z = x) ∨ (True ∧ z = PyAdd.add minus x)) xs z) : Pt names z ∧ z.length = names.length := by
  obtain ⟨xs, rfl, hF⟩ := h
  exact ⟨signed_pt hN.word (fun _ h => h) hN.nd (hF.imp fun x y q => q.elim (fun q => .inl q.2) (fun q => .inr q.2)), hF.len⟩
theorem one_cls {names : List Str} {l : Str} {ls : List Str} (h : Pt names ls) (hl : l ∈ ls) : Cls names ⟨[l]⟩ :=
  ⟨List.pairwise_singleton _ _, h.sub (List.singleton_sublist.mpr hl)⟩
theorem open_bk {names : List Str} {rows : Rows} {c : Tup Str} (hN : Nm 5 names) (h : ∀ d ∈ rows, Cls names d) (hc : Cls names c) (hl : rows.length ≤ 40) : BkR 5 (sset (rows ++ [c])) := by
  refine ⟨names, hN, rw_sset fun d hd => ?_, ?_⟩
  · rcases List.mem_append.mp hd with q | q
    · exact h d q
    · rw [List.mem_singleton.mp q]; exact hc
  · have := sset_lenA (rows ++ [c])
    rw [List.length_append, List.length_singleton] at this
    omega
end DL
namespace DL
open PySem PySem.Spec PyProof.Rows L2 PySem.W PySem.SeqAt
variable [Wd]
theorem turns_all {names : List Str} {xs : List Int} (h : ∃ j : Int, (∃ x y : Int, x = 1 ∧ (0 ≤ y ∧ y < 2 * ((PyLen.len names : Nat) : Int)) ∧ j = PyAdd.add x y) ∧ xs = upFrom 0 j.toNat) (hn : names.length ≤ 5) : xs.length ≤ 11 := by
  obtain ⟨j, ⟨x, y, rfl, hy, rfl⟩, rfl⟩ := h
  rw [len_up]
  have e : PyAdd.add (1 : Int) y = 1 + y := rfl
  have e2 : ((PyLen.len names : Nat) : Int) = ((names.length : Nat) : Int) := rfl
  omega
theorem turns {names : List Str} {xs : List Int} {i : Nat} {y : Int} (h : ∃ j : Int, (∃ x y : Int, x = 1 ∧ (0 ≤ y ∧ y < 2 * ((PyLen.len names : Nat) : Int)) ∧ j = PyAdd.add x y) ∧ xs = upFrom 0 j.toNat) (hi : xs[i]? = some y) (hn : names.length ≤ 5) : i < 11 := by
  have := turns_all h hn
  have := (List.getElem?_eq_some_iff.mp hi).1
  omega
end DL
namespace DL
open PySem PySem.Spec PyProof.Rows L2 PySem.W PySem.SeqAt
variable [Wd]
theorem zip_dec : ∀ (xs ys : List Str), xs.length = ys.length → ((xs.zip ys).map fun q => decide (q.1 = q.2)).all id = decide (xs = ys)
  | [], [], _ => rfl
  | x :: xs, y :: ys, h => by
    have ih := zip_dec xs ys (by simpa using h)
    rw [List.zip_cons_cons, List.map_cons, List.all_cons, ih, Bool.eq_iff_iff]
    simp
  | [], y :: ys, h => by simp at h
  | x :: xs, [], h => by simp at h
theorem exact_tup (x y : Tup Str) : ((true && true) && (decide (((PyLen.len x : Nat) : Int) = ((PyLen.len y : Nat) : Int)) && ((x.items.zip y.items).map fun q => decide (q.1 = q.2)).all id)) = decide (x = y) := by
  have e1 : ((PyLen.len x : Nat) : Int) = ((x.items.length : Nat) : Int) := rfl
  have e2 : ((PyLen.len y : Nat) : Int) = ((y.items.length : Nat) : Int) := rfl
  rw [e1, e2]
  by_cases h : x.items.length = y.items.length
  · rw [zip_dec _ _ h, h, decide_eq_true rfl, Bool.eq_iff_iff]
    simp only [Bool.true_and, decide_eq_true_eq]
    constructor
    · intro e; cases x; cases y; simp at e; rw [e]
    · intro e; rw [e]
  · rw [decide_eq_false (by omega : ¬ ((x.items.length : Int) = (y.items.length : Int)))]
    simp only [Bool.false_and, Bool.and_false]
    exact (decide_eq_false fun e => h (by rw [e])).symm
end DL
namespace DL
open PySem PySem.Spec PyProof.Rows L2 PySem.W PySem.SeqAt
variable [Wd]
theorem endJ {Γ : List Ent} {G : (Nat → Ent) → List Ent} (h : Γ = G (fun n => Γ.getD n .no)) : ∃ j : Nat → Ent, True ∧ Γ = G j := ⟨_, trivial, h⟩
theorem some_cast {o : Option (Tup Str)} (h : (!isNonD (dt o)) = true) : dt o = dt (o.getD default) := by
  cases o with
  | none => exact absurd h (by show ¬ ((!true) = true); decide)
  | some x => rfl
theorem some_ok (xs : Rows) : (decide (isNonD (dt xs[0]?) ≠ decide (xs = [])) || (!isNonD (dt xs[0]?) && !((xs.map fun p => decide (xs[0]?.getD default = p)).any id))) = false := by
  cases xs with
  | nil => rfl
  | cons x r =>
    have e1 : isNonD (dt (x :: r)[0]?) = false := rfl
    have e2 : decide (x :: r = []) = false := decide_eq_false (by simp)
    have e3 : (((x :: r).map fun p => decide ((x :: r)[0]?.getD default = p)).any id) = true := List.any_eq_true.mpr ⟨true, List.mem_map.mpr ⟨x, List.mem_cons_self, decide_eq_true rfl⟩, rfl⟩
    rw [e1, e2, e3]; rfl
theorem Bk.nm5 {rows : Rows} (h : Bk rows) : (namesL rows).length ≤ 6 ∧ ∀ n ∈ namesL rows, n.length ≤ 1000 := ⟨h.nm, fun n hn => (h.sz n hn).2⟩
theorem Bk.ln {rows : Rows} (h : Bk rows) : ∀ c ∈ rows, ∀ l ∈ c.items, 0 < l.length ∧ l.length ≤ 1000 := fun c hc => (h.good c hc).len
theorem Bk.same {rows : Rows} (h : Bk rows) : allFills rows (namesL rows) = fillsL rows (namesL rows) := fills_same h.word (names_rise rows).nodup
/-- the literals of names, in order -/
theorem both_perm (names : List Str) : (names ++ names.map fun n => minus ++ n).Perm (bothL names) := by
  induction names with
  | nil => exact .nil
  | cons n r ih =>
    show (n :: (r ++ ((minus ++ n) :: r.map fun n => minus ++ n))).Perm (n :: (minus ++ n) :: bothL r)
    exact List.Perm.cons _ (List.perm_middle.trans (List.Perm.cons _ ih))
def names_both (names : List Str) : List Str := names ++ names.map fun n => minus ++ n
theorem sure_eq {rows : Rows} (h : Bk rows) : ((srt (names_both (namesL rows))).filter fun l => ((fillsL rows (namesL rows)).map fun p => decide (l ∈ p.items)).all id) = (srt (bothL (namesL rows))).filter fun l => (allFills rows (namesL rows)).all fun p => decide (l ∈ p.items) := by
  unfold names_both
  rw [srt_one (both_perm _), h.same]
  exact congrArg (fun f => List.filter f _) (funext fun l => all_id)

end DL
namespace DL
open PySem PySem.Spec PyProof.Rows L2 PySem.W PySem.SeqAt
variable [Wd]
theorem srt_nil {α : Type} [DecidableEq α] [DatumOrd α] : srt ([] : List α) = [] := List.Perm.eq_nil (srt_perm _)
theorem srt_sing {α : Type} [DecidableEq α] [DatumOrd α] (x : α) : srt [x] = [x] := List.perm_singleton.mp (srt_perm _)
theorem sset_nil {α : Type} [DecidableEq α] [DatumOrd α] : sset ([] : List α) = [] := srt_nil
theorem names_nil : namesL [] = [] := sset_nil
theorem names_one : namesL [⟨[]⟩] = [] := sset_nil
theorem fills_nil : allFills [] (namesL []) = [⟨[]⟩] := by
  rw [names_nil]
  unfold allFills fillRaw
  show srt [(⟨sset []⟩ : Tup Str)] = _
  rw [sset_nil, srt_sing]
theorem fills_empty {rows : Rows} {names : List Str} (h : (⟨[]⟩ : Tup Str) ∈ rows) : allFills rows names = [] := by
  unfold allFills
  rw [List.filter_eq_nil_iff.mpr (fun _ _ => by rw [decide_eq_true h]; decide)]
  exact srt_nil
theorem bk_nil : Bk [] := ⟨List.Pairwise.nil, fun c hc => (List.not_mem_nil hc).elim, by decide, by rw [names_nil]; decide⟩
theorem sure_nil : ((srt (bothL (namesL []))).filter fun l => (allFills [] (namesL [])).all fun p => decide (l ∈ p.items)) = [] := by
  rw [names_nil]
  show (srt ([] : List Str)).filter _ = []
  rw [srt_nil]; rfl
theorem cls_nil : GoodC ⟨[]⟩ := ⟨fun l hl => (List.not_mem_nil hl).elim, List.Pairwise.nil, List.Pairwise.nil, by decide⟩
theorem word_a : isWord ("a" : Str) = true := by
  refine isWord_iff.mpr ⟨by decide, by decide, fun l hl => ?_⟩
  have : l ∈ signs abc := by
    have e : signs ("a" : Str) = [("a" : Str)] := signs_one rfl
    rw [e] at hl
    rw [List.mem_singleton.mp hl]
    show ("a" : Str) ∈ abc.cps.toList.map fun k => (⟨#[k]⟩ : Str)
    exact List.mem_map.mpr ⟨97, by decide, rfl⟩
  exact (abc_letters l this).2
theorem cls_word {w : Str} (h : isWord w = true) : GoodC ⟨[w]⟩ := (one_cls (names := [w]) (ls := [w]) ⟨fun l hl => by rw [List.mem_singleton.mp hl]; exact .pos h, fun l hl => by rw [List.mem_singleton.mp hl, bare_word h]; exact List.mem_singleton.mpr rfl, by show [bareS w].Nodup; exact List.pairwise_singleton _ _⟩ (List.mem_singleton.mpr rfl)).good (by show (1 : Nat) ≤ 100; decide)
theorem two_pre {w : Str} (h : isWord w = true) : ([⟨[]⟩, ⟨[w]⟩] : Rows).length < 63 ∧ (∀ c ∈ ([⟨[]⟩, ⟨[w]⟩] : Rows), GoodC c) ∧ (namesL [⟨[]⟩, ⟨[w]⟩]).length ≤ 6 := by
  refine ⟨by show (2 : Nat) < 63; decide, fun c hc => ?_, ?_⟩
  · simp only [List.mem_cons, List.not_mem_nil, or_false] at hc
    rcases hc with rfl | rfl
    · exact cls_nil
    · exact cls_word h
  · refine Nat.le_trans (sset_lenA _) ?_
    show (1 : Nat) ≤ 6; decide
end DL
namespace DL
open PySem PySem.Spec PyProof.Rows L2 PySem.W PySem.SeqAt
variable [Wd]
theorem nil_pre : ([] : Rows).length < 63 ∧ (∀ c ∈ ([] : Rows), GoodC c) ∧ (namesL []).length ≤ 6 := ⟨by show (0 : Nat) < 63; decide, fun c hc => (List.not_mem_nil hc).elim, by rw [names_nil]; decide⟩
theorem one_pre : ([⟨[]⟩] : Rows).length < 63 ∧ (∀ c ∈ ([⟨[]⟩] : Rows), GoodC c) ∧ (namesL [⟨[]⟩]).length ≤ 6 := ⟨by show (1 : Nat) < 63; decide, fun c hc => by rw [List.mem_singleton.mp hc]; exact cls_nil, by rw [names_one]; decide⟩
theorem bk_pre {rows : Rows} (h : rows.length < 63 ∧ (∀ c ∈ rows, GoodC c) ∧ (namesL rows).length ≤ 6) : Bk (sset rows) := bk_sset h.1 h.2.1 h.2.2
theorem mem_again {α : Type} {xs : List α} {l u : Option Int} {x : α} (h : x ∈ xs ++ cut xs l u) : x ∈ xs := (List.mem_append.mp h).elim id mem_cut
end DL
end

section
set_option Elab.async false
set_option linter.all false
set_option maxRecDepth 100000
set_option maxHeartbeats 4000000
set_option autoImplicit false
namespace Lk36
open PySem PySem.Spec PyProof.Rows L2 PySem.W PySem.SeqAt DL
variable [Wd]
section
variable {P : Program} {w : World} {K : PySem.W.Frag} {mg : Str → Option Value} {base : Heap}
abbrev N__law_one_of : List Str := ["_law_purse_here", "_law_some"]
theorem sc__law_one_of : FnScope N__law_one_of ["_law_purse_here", "_law_some"] (defScope s__law_one_of) := ⟨rfl, rfl, rfl, by decide +kernel, rfl, by decide +kernel, by decide +kernel⟩
abbrev ct__law_one_of (α : Type) [DecidableEq α] [Datum α] : Ct := fun ds S => ∃ (xs : List α), ds = [.pu, dt xs] ∧ (xs ≠ [] ∧ xs.length ≤ 100000) ∧ S = Rt fun z : α => z ∈ xs
theorem ok__law_one_of {α : Type} [DecidableEq α] [Datum α] (F : Facts K mg) : Fn P w K mg base 3 "_law_one_of" (sizeLine * 4) (ct__law_one_of α) := by
  refine fn_df F.F__law_one_of sc__law_one_of (fun ds S ⟨xs, h, _⟩ => by rw [h]; rfl) fun f cdv A outer s H E B ds S hr hC => ?_
  obtain ⟨xs, rfl, hp, rfl⟩ := hC
  have hu := hr.units
  have nd := sc__law_one_of.nd
  have hl : 1 ≤ xs.length := List.length_pos_iff.mpr hp.1
  refine ⟨_, ?hc, sv_one (s_ret (py_ixR (rt_of (ev_var 1 rfl)) (ev_call ((ok__law_draw F).mono (by decide)) hr (av_cons (ev_var 0 rfl) (av_cons (py_len F.m_len (ev_var 1 rfl) trivial) av_nil)) ⟨_, rfl, ?q1, rfl⟩) ?q2) (rt_ret ?q3))⟩
  case hc => decide
  case q1 => show 1 ≤ ((xs.length : Nat) : Int) ∧ ((xs.length : Nat) : Int) ≤ 1000000; omega
  case q2 =>
    rintro x k rfl ⟨h0, h1⟩
    exact ⟨trivial, some_L ⟨h0, h1⟩⟩
  case q3 =>
    rintro z ⟨x, k, rfl, ⟨h0, h1⟩, hz⟩
    rw [get_L, atI_of h0] at hz
    exact List.mem_of_getElem? hz

abbrev N__law_drawn_clause : List Str := ["_law_purse_here", "_law_names_here", "_law_most", "_law_some", "_law_name"]
theorem sc__law_drawn_clause : FnScope N__law_drawn_clause ["_law_purse_here", "_law_names_here", "_law_most"] (defScope s__law_drawn_clause) := ⟨rfl, rfl, rfl, by decide +kernel, rfl, by decide +kernel, by decide +kernel⟩
abbrev ct__law_drawn_clause : Ct := fun ds S => ∃ (names : List Str) (most : Int), ds = [.pu, dt names, dt most] ∧ ((1 ≤ names.length ∧ names.length ≤ 50 ∧ (∀ n ∈ names, isWord n = true) ∧ names.Nodup) ∧ 1 ≤ most) ∧ S = Rt fun c : Tup Str => Cls names c
theorem ok__law_drawn_clause (F : Facts K mg) : Fn P w K mg base 5 "_law_drawn_clause" (sizeLine * (sizeLine * 9)) ct__law_drawn_clause := by
  refine fn_df F.F__law_drawn_clause sc__law_drawn_clause (fun ds S ⟨names, most, h, _⟩ => by rw [h]; rfl) fun f cdv A outer s H E B ds S hr hC => ?_
  obtain ⟨names, most, rfl, ⟨⟨hn1, hn2, hw, hnd⟩, hm⟩, rfl⟩ := hC
  have hu := hr.units
  have nd := sc__law_drawn_clause.nd
  refine ⟨sizeLine * (sizeLine * 9), Nat.le_refl _, sv_le (sv_setR (c2 := sizeLine * (sizeLine * 4)) (P := fun zs : List Str => zs.Nodup ∧ zs.length ≤ 50 ∧ ∀ z ∈ zs, z ∈ names) 3 nd (rt_imp (ev_slLR (ev_shR (ev_call ((ok__law_shuffled__S F).mono (by decide)) hr (av_cons (ev_var 0 rfl) (av_cons (ev_var 1 rfl) av_nil)) ⟨_, rfl, ?q1, rfl⟩)) pvr_no (pvr_so (py_addR (rt_of ev_int) (ev_call ((ok__law_draw F).mono (by decide)) hr (av_cons (ev_var 0 rfl) (av_cons (ev_min2 rfl F.m_min (ev_var 2 rfl) (py_len F.m_len (ev_var 1 rfl) trivial)) av_nil)) ⟨_, rfl, ?q2, rfl⟩) ?q3))) ?q4) fun zs hz => ?st)⟩
  case q1 => omega
  case q2 =>
    show 1 ≤ min most ((names.length : Nat) : Int) ∧ min most ((names.length : Nat) : Int) ≤ 1000000
    omega
  case q3 => exact fun _ _ _ _ => trivial
  case q4 =>
    rintro z ⟨xs, l, u, hp, _, _, rfl⟩
    have sb := sub_cut xs l u
    refine ⟨sb.nodup (hp.nodup_iff.mpr hnd), ?_, fun y hy => hp.mem_iff.mp (sb.subset hy)⟩
    have := sb.length_le
    rw [hp.length_eq] at this
    omega
  obtain ⟨h1, h2, h3⟩ := hz
  refine sv_le (sv_one (s_ret (ev_callW ((ok__law_clause__L F).mono (by decide)) hr (av_consN (ev_shR (ev_weak ((lc_F2 (P := fun (x l : Str) => l = x ∨ l = minus ++ x) (own := [("_law_name", 4)]) (Γ' := fun d => (wipeE _ [4]).set 4 (.sh (dt d))) (py_it (ev_var 3 rfl) trivial) (blkOk_by (N := N__law_drawn_clause) (sc := defScope s__law_drawn_clause) (by decide +kernel)) (fun d => tg_name (by decide)) (fun _ _ _ _ _ => pg_name (i := 4) nd rfl (Or.inl rfl))
    (fun xs hxs d hd _ _ _ _ _ => rt_imp (ev_iteR2 (tv_eqR hu (ev_call ((ok__law_draw F).mono (by decide)) hr (av_cons (ev_var 0 rfl) (av_cons ev_int av_nil)) ⟨_, rfl, ⟨by decide, by decide⟩, rfl⟩) (rt_of ev_int)) (fun _ => rt_of (ev_var 4 rfl)) (fun _ => rt_of (py_add ev_str (ev_var 4 rfl) ?q5))) ?q6)).ev rfl nd) (fun r h => h) (Nat.le_refl _))) av_nil) ?q7) (fun r h => h)))
  case q5 =>
    have := hxs ▸ hd
    have := wlen (hw d (h3 d this))
    exact sz_of (by show minus.length + d.length ≤ _; have : minus.length = 1 := rfl; omega)
  case q6 =>
    rintro z (⟨_, rfl⟩ | ⟨_, rfl⟩)
    · exact .inl rfl
    · exact .inr rfl
  case q7 =>
    rintro ds ⟨d, r, rfl, ⟨zs', ⟨xs, rfl, hF⟩, rfl⟩, rfl⟩
    have pt := signed_pt (fun x hx => hw x (h3 x hx)) h3 h1 hF
    exact ⟨_, ⟨zs', rfl, by rw [hF.len]; exact Nat.le_trans h2 (by decide), rfl⟩, fun r h => ⟨_, ⟨_, pt.clause, rfl⟩, h⟩⟩

abbrev N__law_drawn : List Str := ["_law_purse_here", "_law_names_here", "_law_many", "_law_turn"]
theorem sc__law_drawn : FnScope N__law_drawn ["_law_purse_here", "_law_names_here", "_law_many"] (defScope s__law_drawn) := ⟨rfl, rfl, rfl, by decide +kernel, rfl, by decide +kernel, by decide +kernel⟩
abbrev ct__law_drawn : Ct := fun ds S => ∃ (k : Nat) (names : List Str) (many : Int), ds = [.pu, dt names, dt many] ∧ ((1 ≤ names.length ∧ Nm k names ∧ k ≤ 50) ∧ 0 ≤ many ∧ many ≤ 1000) ∧ S = Ro fun rows : Rows => Rw names rows ∧ rows.length ≤ many.toNat
theorem ok__law_drawn (F : Facts K mg) : Fn P w K mg base 6 "_law_drawn" (sizeLine * (sizeLine * (sizeLine * 12))) ct__law_drawn := by
  refine fn_df F.F__law_drawn sc__law_drawn (fun ds S ⟨k, names, many, h, _⟩ => by rw [h]; rfl) fun f cdv A outer s H E B ds S hr hC => ?_
  obtain ⟨k, names, many, rfl, hp, rfl⟩ := hC
  have hu := hr.units
  have nd := sc__law_drawn.nd
  refine ⟨_, ?hc, (sv_one (s_ret (ev_callW (S := Ro fun rows : Rows => Rw names rows ∧ rows.length ≤ many.toNat) ((ok__law_rows F).mono (by decide)) hr (av_consN (ev_shR ((lc_F2 (own := [("_law_turn", 3)]) (Γ' := fun d => (wipeE _ [3]).set 3 (.sh (dt d))) (iv_range1 F.m_range (av_cons (ev_var 2 rfl) av_nil) ?o1) (blkOk_by (N := N__law_drawn) (sc := defScope s__law_drawn) (by decide +kernel)) (fun d => tg_name (by decide)) (fun _ _ _ _ _ => pg_name (i := 3) nd rfl (by first | exact Or.inl rfl | exact Or.inr rfl)) (fun xs1 hxs1 x1 hx1 _ _ _ _ _ => (ev_call ((ok__law_drawn_clause F).mono (by decide)) hr (av_cons (ev_var 0 rfl) (av_cons (ev_var 1 rfl) (av_cons ev_int av_nil))) ⟨_, _, rfl, ?o2, rfl⟩))).ev rfl nd)) av_nil) ?o3) ?o4))⟩
  case hc => decide
  case o1 => omega
  case o2 => exact ⟨⟨hp.1.1, by have := hp.1.2.1.few; omega, hp.1.2.1.word, hp.1.2.1.nd⟩, by decide⟩
  case o3 => exact drawn_ds hp.2
  case o4 => exact fun r h => h

end
end Lk36
end

section
set_option Elab.async false
set_option linter.all false
set_option maxRecDepth 100000
set_option maxHeartbeats 4000000
set_option autoImplicit false
namespace Lk36
open PySem PySem.Spec PyProof.Rows L2 PySem.W PySem.SeqAt DL
variable [Wd]
section
variable {P : Program} {w : World} {K : PySem.W.Frag} {mg : Str → Option Value} {base : Heap}
abbrev N__law_unfilled : List Str := ["_law_purse_here", "_law_names_here", "_law_many", "_law_rows_here", "_law_left", "_law_some", "_law_literal"]
theorem sc__law_unfilled : FnScope N__law_unfilled ["_law_purse_here", "_law_names_here", "_law_many"] (defScope s__law_unfilled) := ⟨rfl, rfl, rfl, by decide +kernel, rfl, by decide +kernel, by decide +kernel⟩
abbrev ct__law_unfilled : Ct := fun ds S => ∃ (names : List Str) (many : Int), ds = [.pu, dt names, dt many] ∧ ((1 ≤ names.length ∧ Nm 5 names) ∧ 0 ≤ many ∧ many ≤ 10) ∧ S = Rt fun rows : Rows => Rw names rows ∧ rows.length ≤ 45 ∧ fillsL rows names = []
abbrev unΓ (names : List Str) (many : Int) (rows : Rows) (e5 e6 : Ent) : List Ent := [.sh .pu, .sh (dt names), .sh (dt many), .sh (dt rows), .sh (dt (fillsL rows names)), e5, e6]
theorem ok__law_unfilled (F : Facts K mg) : Fn P w K mg base 7 "_law_unfilled" (sizeLine * (sizeLine * (sizeLine * (sizeLine * 2)))) ct__law_unfilled := by
  refine fn_df F.F__law_unfilled sc__law_unfilled (fun ds S ⟨names, many, h, _⟩ => by rw [h]; rfl) fun f cdv A outer s H E B ds S hr hC => ?_
  obtain ⟨names, many, rfl, ⟨⟨hn1, hn⟩, hm0, hm1⟩, rfl⟩ := hC
  have hu := hr.units
  have nd := sc__law_unfilled.nd
  have hn6 : names.length ≤ 6 ∧ ∀ n ∈ names, n.length ≤ 1000 := ⟨by have := hn.few; omega, fun n h => (hn.sz n h).2⟩
  have lens : ∀ {rows : Rows}, Rw names rows → ∀ c ∈ rows, ∀ l ∈ c.items, 0 < l.length ∧ l.length ≤ 1000 := fun h c hc => (h.cls c hc).lens
  refine ⟨_, ?hc, (sv_at (Γ1 := [_, _, _, _, _, _, _]) rfl (sv_setR 3 nd (ev_shR (ev_call ((ok__law_drawn F).mono (by decide)) hr (av_cons (ev_var 0 rfl) (av_cons (ev_var 1 rfl) (av_cons (ev_var 2 rfl) av_nil))) ⟨5, _, _, rfl, ?o1, rfl⟩)) fun rows0 hr0 => (sv_at (Γ1 := [_, _, _, _, _, _, _]) rfl (sv_setd 4 nd (ev_sh (ev_call ((ok__law_fillings F).mono (by decide)) hr (av_cons (ev_var 3 rfl) (av_cons (ev_var 1 rfl) av_nil)) ⟨_, _, rfl, ⟨hn6, lens hr0.1⟩, rfl⟩))
    (sv_cons (N := fun Γ' => ∃ rows e5 e6, (Rw names rows ∧ rows.length ≤ 45 ∧ fillsL rows names = []) ∧ Γ' = unΓ names many rows e5 e6)
      (s_while (O := { nx := fun Γ' => ∃ rows e5 e6, (Rw names rows ∧ rows.length ≤ 45 ∧ fillsL rows names = []) ∧ Γ' = unΓ names many rows e5 e6, rt := Rt fun rows : Rows => Rw names rows ∧ rows.length ≤ 45 ∧ fillsL rows names = [] }) (c0 := 0) (c1 := sizeLine * (sizeLine * (sizeLine * 12))) 64
        (fun m Γ' => ∃ rows e5 e6, (Rw names rows ∧ rows.length + (fillsL rows names).length ≤ 45 ∧ (fillsL rows names).length ≤ m) ∧ Γ' = unΓ names many rows e5 e6)
        (fun m Γ' b => ∃ rows e5 e6, (Rw names rows ∧ rows.length + (fillsL rows names).length ≤ 45 ∧ (fillsL rows names).length ≤ m) ∧ Γ' = unΓ names many rows e5 e6 ∧ b = decide (fillsL rows names ≠ [])) ?w0 ?wt ?wb ?wx)
      (c2 := 0) (fun Γ' ⟨rows, e5, e6, h, e⟩ => by subst e; exact sv_one (s_ret (ev_var 3 rfl) (ret_rt h))))))))⟩
  case hc => decide
  case o1 => exact ⟨⟨hn1, hn, by decide⟩, hm0, by omega⟩
  case w0 =>
    have h32 : (fillsL rows0 names).length ≤ 32 := Nat.le_trans (fills_len rows0 names) (Nat.le_trans (Nat.pow_le_pow_right (by decide) hn.few) (by decide))
    have : many.toNat ≤ 10 := by omega
    have := hr0.2
    exact ⟨rows0, _, _, ⟨hr0.1, by omega, by omega⟩, rfl⟩
  case wt =>
    rintro m Γ' ⟨rows, e5, e6, h, rfl⟩
    exact tv_weak (c1 := 0) (tv_ne hu (ev_var 4 rfl) (ev_sh ev_nilL)) (fun r q => ⟨rows, e5, e6, h, rfl, q⟩) (by decide)
  case wx =>
    rintro m Γ' _ ⟨rows, e5, e6, h, rfl, hb⟩
    exact ⟨rows, e5, e6, ⟨h.1, by omega, by simpa using hb⟩, rfl⟩
  case wb =>
    rintro m Γ' _ ⟨rows, e5, e6, h, rfl, hb⟩
    have hne : fillsL rows names ≠ [] := by simpa using hb
    have hlen : (fillsL rows names).length ≤ 45 := by omega
    refine sv_le (c1 := sizeLine * (sizeLine * (sizeLine * 11))) (sv_at (Γ1 := [_, _, _, _, _, _, _]) rfl (sv_le (sv_setR (P := fun some : List Str => ∃ f ∈ fillsL rows names, some.Sublist f.items ∨ (some.length ≤ 5 ∧ ∀ x ∈ some, x ∈ f.items)) (c2 := sizeLine) 5 nd (rt_imp (ev_slLR (ev_shR (ev_callW (S := Ro fun ys : List Str => ∃ f ∈ fillsL rows names, ys.Perm f.items) ((ok__law_shuffled__S F).mono (by decide)) hr (av_consN (ev_sp (ev_var 0 rfl)) (av_consN (ev_shR (ev_listRT F.m_list (ev_call ((ok__law_one_of (α := Tup Str) F).mono (by decide)) hr (av_cons (ev_var 0 rfl) (av_cons (ev_var 4 rfl) av_nil)) ⟨_, rfl, ⟨hne, by omega⟩, rfl⟩))) av_nil)) ?o4)) pvr_no (pvr_so (ev_iteR2 (tv_lt hu (py_len F.m_len (ev_var 3 rfl) trivial) ev_int) (fun it1 => (py_addR (rt_of ev_int) (ev_call ((ok__law_draw F).mono (by decide)) hr (av_cons (ev_var 0 rfl) (av_cons ev_int av_nil)) ⟨_, rfl, ⟨by decide, by decide⟩, rfl⟩) (fun _ _ _ _ => trivial))) (fun ie1 => (rt_of ev_int))))) ?imp) fun ls hls => ?st)))
    case o4 =>
      rintro ds ⟨d1, r1, rfl, rfl, d2, r2, rfl, ⟨z, hz, rfl⟩, rfl⟩
      refine ⟨_, ⟨z, rfl, ?_, rfl⟩, ro_ret fun ys hy => ⟨_, hz, hy⟩⟩
      have := (fills_pt hn.word hn.nd _ hz).len
      have := hn.few
      show z.length ≤ 1000
      have e : z.length = (⟨z⟩ : Tup Str).items.length := rfl
      omega
    case imp =>
      rintro z ⟨xs, l, u, ⟨f, hf, hp⟩, _, _, rfl⟩
      have sb := sub_cut xs l u
      refine ⟨f, hf, .inr ⟨?_, fun x hx => hp.mem_iff.mp (sb.subset hx)⟩⟩
      have := sb.length_le
      have := hp.length_eq
      have := (fills_pt hn.word hn.nd _ hf).len
      have := hn.few
      omega
    obtain ⟨f, hf, hls⟩ := hls
    have pf := fills_pt hn.word hn.nd _ hf
    have hl5 : ls.length ≤ 5 := by
      rcases hls with q | q
      · have := q.length_le; have := pf.len; have := hn.few; omega
      · exact q.1
    have hlm : ∀ x ∈ ls, x ∈ f.items := by
      rcases hls with q | q
      · exact fun x hx => q.subset hx
      · exact q.2
    have lit : ∀ x ∈ ls, Lit x := fun x hx => pf.lit x (hlm x hx)
    refine sv_le (sv_at (Γ1 := [_, _, _, _, _, _, _]) rfl (sv_setd 3 nd (ev_sh (ev_call ((ok__law_rows F).mono (by decide)) hr (av_cons (py_add (ev_var 3 rfl) (ev_sh (ev_lstT (avt_cons (ev_call ((ok__law_clause__L F).mono (by decide)) hr (av_cons (ev_sh ((lc_0 (own := [("_law_literal", 6)]) (Γ' := fun d => (wipeE _ [6]).set 6 (.sh (dt d))) (py_it (ev_var 5 rfl) trivial) (blkOk_by (N := N__law_unfilled) (sc := defScope s__law_unfilled) (by decide +kernel)) (fun d => tg_name (by decide)) (fun _ _ _ _ _ => pg_name (i := 6) nd rfl (by first | exact Or.inl rfl | exact Or.inr rfl)) (fun x1 hx1 _ _ _ _ _ => (ev_call ((ok__law_contrary F).mono (by decide)) hr (av_cons (ev_var 6 rfl) av_nil) ⟨_, rfl, ?o9, rfl⟩))).ev rfl nd)) av_nil) ⟨_, rfl, ?o10, rfl⟩) avt_nil))) ?o11) av_nil) ⟨_, rfl, ?o12, rfl⟩))
      (sv_at (Γ1 := [_, _, _, _, _, _, _]) rfl (sv_setd 4 nd (ev_sh (ev_call ((ok__law_fillings F).mono (by decide)) hr (av_cons (ev_var 3 rfl) (av_cons (ev_var 1 rfl) av_nil)) ⟨_, _, rfl, ⟨hn6, ?o13⟩, rfl⟩)) (sv_end ?fin)))))
    case o9 => have := (lit x1 hx1).len; omega
    case o10 => show (List.map _ ls).length ≤ 60; rw [List.length_map]; omega
    case o11 => exact sz_of (by show rows.length + 1 ≤ _; omega)
    case o12 => show (rows ++ [_]).length ≤ 10000; rw [List.length_append, List.length_singleton]; omega
    case o13 => exact lens (rw_more h.1 (pt_turned pf hlm))
    case fin =>
      have hlt := fills_more (rows' := sset (rows ++ [⟨sset (ls.map turnS)⟩])) (c := ⟨sset (ls.map turnS)⟩) (names := names) (fun d => by rw [mem_sset, List.mem_append, List.mem_singleton]) hf (brk_turned lit hlm)
      have hl2 := sset_lenA (rows ++ [(⟨sset (ls.map turnS)⟩ : Tup Str)])
      rw [List.length_append, List.length_singleton] at hl2
      exact ⟨m - 1, by omega, _, _, _, ⟨rw_more h.1 (pt_turned pf hlm), by omega, by omega⟩, rfl⟩

end
end Lk36
end

section
set_option Elab.async false
set_option linter.all false
set_option maxRecDepth 100000
set_option maxHeartbeats 4000000
set_option autoImplicit false
namespace Lk36
open PySem PySem.Spec PyProof.Rows L2 PySem.W PySem.SeqAt DL
variable [Wd]
section
variable {P : Program} {w : World} {K : PySem.W.Frag} {mg : Str → Option Value} {base : Heap}
abbrev N__law_hard : List Str := ["_law_purse_here", "_law_many", "_law_names_here", "_law_way", "_law_rows_here", "_law_name", "_law_turn"]
theorem sc__law_hard : FnScope N__law_hard ["_law_purse_here", "_law_many"] (defScope s__law_hard) := ⟨rfl, rfl, rfl, by decide +kernel, rfl, by decide +kernel, by decide +kernel⟩
abbrev ct__law_hard : Ct := fun ds S => ∃ (many : Int), ds = [.pu, dt many] ∧ (1 ≤ many ∧ many ≤ 5) ∧ S = Ro fun rows : Rows => BkR many.toNat rows
theorem ok__law_hard (F : Facts K mg) : Fn P w K mg base 8 "_law_hard" (sizeLine * (sizeLine * (sizeLine * (sizeLine * 3)))) ct__law_hard := by
  refine fn_df F.F__law_hard sc__law_hard (fun ds S ⟨many, h, _⟩ => by rw [h]; rfl) fun f cdv A outer s H E B ds S hr hC => ?_
  obtain ⟨many, rfl, hp, rfl⟩ := hC
  have hu := hr.units
  have nd := sc__law_hard.nd
  refine ⟨_, ?hc, (sv_at (Γ1 := [_, _, _, _, _, _, _]) rfl (sv_par2T 2 3 rfl nd (pr_R (rt_imp (P' := fun ns : List Str => Nm many.toNat ns ∧ ns.length = many.toNat) (ev_shR (py_srtR hu F.m_sorted (ev_shR (ev_call ((ok__law_words F).mono (by decide)) hr (av_cons (ev_var 0 rfl) (av_cons (ev_var 1 rfl) av_nil)) ⟨_, rfl, ?o1, rfl⟩)))) ?o2)) (pr_R (ev_call ((ok__law_draw F).mono (by decide)) hr (av_cons (ev_var 0 rfl) (av_cons ev_int av_nil)) ⟨_, rfl, ?o3, rfl⟩)) (fun z_names_here h_names_here z_way h_way => (have hN := h_names_here.1; (have hl := h_names_here.2; (sv_at (Γ1 := [_, _, _, _, _, _, _]) rfl (sv_ifN (fun j : Rows × Ent × Ent => (∀ c ∈ j.1, Cls z_names_here c) ∧ j.1.length ≤ 45) (fun j : Rows × Ent × Ent => [.sh .pu, .sh (dt many), .sh (dt z_names_here), .sh (dt z_way), .sh (dt j.1), j.2.1, j.2.2]) (wv_ord (tv_lt hu (ev_var 3 rfl) ev_int) (fun h1 => (wv_or1 (tv_lt hu (ev_var 1 rfl) ev_int)))).pt (fun gt1 => (sv_at (Γ1 := [_, _, _, _, _, _, _]) rfl (sv_setR 4 nd (ev_callW (S := Rt fun rows : Rows => Rw z_names_here rows ∧ rows.length ≤ 45 ∧ fillsL rows z_names_here = []) ((ok__law_unfilled F).mono (by decide)) hr (av_consN (ev_sp (ev_var 0 rfl)) (av_consN (ev_sp (ev_var 2 rfl)) (av_consN (py_addR (rt_of ev_int) (ev_call ((ok__law_draw F).mono (by decide)) hr (av_cons (ev_var 0 rfl) (av_cons ev_int av_nil)) ⟨_, rfl, ?o4, rfl⟩) ?o5) av_nil))) ?o6) (fun z_rows_here h_rows_here => (sv_endN ?o7))))) (fun gf1 => (sv_at (Γ1 := [_, _, _, _, _, _, _]) rfl (sv_ifN (fun j : Rows × Ent × Ent => (∀ c ∈ j.1, Cls z_names_here c) ∧ j.1.length ≤ 45) (fun j : Rows × Ent × Ent => [.sh .pu, .sh (dt many), .sh (dt z_names_here), .sh (dt z_way), .sh (dt j.1), j.2.1, j.2.2]) (tv_lt hu (ev_var 3 rfl) ev_int) (fun gt2 => (sv_at (Γ1 := [_, _, _, _, _, _, _]) rfl (sv_setR 4 nd (py_addR (ev_shR (ev_callW (S := Ro fun rows : Rows => ∃ ns : List Str, (∃ l u, ns = cut z_names_here l u) ∧ rows = signsL ns) ((ok__law_signs F).mono (by decide)) hr (av_consN (ev_slLR (rt_of (ev_var 2 rfl)) pvr_no (pvr_so (py_addR (rt_of ev_int) (ev_call ((ok__law_draw F).mono (by decide)) hr (av_cons (ev_var 0 rfl) (av_cons ev_int av_nil)) ⟨_, rfl, ?o8, rfl⟩) ?o9))) av_nil) ?o10)) (ev_shR ((lc_F2 (own := [("_law_turn", 6)]) (Γ' := fun d => (wipeE _ [6]).set 6 (.sh (dt d))) (iv_range1R F.m_range (ev_call ((ok__law_draw F).mono (by decide)) hr (av_cons (ev_var 0 rfl) (av_cons ev_int av_nil)) ⟨_, rfl, ?o11, rfl⟩) ?o12) (blkOk_by (N := N__law_hard) (sc := defScope s__law_hard) (by decide +kernel)) (fun d => tg_name (by decide)) (fun _ _ _ _ _ => pg_name (i := 6) nd rfl (by first | exact Or.inl rfl | exact Or.inr rfl)) (fun xs1 hxs1 x1 hx1 _ _ _ _ _ => (ev_call ((ok__law_drawn_clause F).mono (by decide)) hr (av_cons (ev_var 0 rfl) (av_cons (ev_var 2 rfl) (av_cons ev_int av_nil))) ⟨_, _, rfl, ?o13, rfl⟩))).ev rfl nd)) ?o14) (fun z_rows_here h_rows_here => (sv_endN ?o15))))) (fun gf2 => (sv_at (Γ1 := [_, _, _, _, _, _, _]) rfl (sv_setR 4 nd (py_addR (ev_shR (ev_callW (S := Ro fun rows : Rows => ∃ ns : List Str, ns.Perm z_names_here ∧ rows = ringL ns) ((ok__law_ring F).mono (by decide)) hr (av_consN (ev_shR (ev_call ((ok__law_shuffled__S F).mono (by decide)) hr (av_cons (ev_var 0 rfl) (av_cons (ev_var 2 rfl) av_nil)) ⟨_, rfl, ?o16, rfl⟩)) av_nil) ?o17)) (ev_shR ((lc_F2 (own := [("_law_turn", 6)]) (Γ' := fun d => (wipeE _ [6]).set 6 (.sh (dt d))) (iv_range1R F.m_range (ev_call ((ok__law_draw F).mono (by decide)) hr (av_cons (ev_var 0 rfl) (av_cons ev_int av_nil)) ⟨_, rfl, ?o18, rfl⟩) ?o19) (blkOk_by (N := N__law_hard) (sc := defScope s__law_hard) (by decide +kernel)) (fun d => tg_name (by decide)) (fun _ _ _ _ _ => pg_name (i := 6) nd rfl (by first | exact Or.inl rfl | exact Or.inr rfl)) (fun xs2 hxs2 x2 hx2 _ _ _ _ _ => (ev_call ((ok__law_drawn_clause F).mono (by decide)) hr (av_cons (ev_var 0 rfl) (av_cons (ev_var 2 rfl) (av_cons ev_int av_nil))) ⟨_, _, rfl, ?o20, rfl⟩))).ev rfl nd)) ?o21) (fun z_rows_here h_rows_here => (sv_endN ?o22))))) (fun j2 hj2 => (sv_endN ?o23))))) (fun j1 hj1 => (sv_one (s_ret (ev_callW (S := Ro fun zs : Rows => BkR many.toNat zs) ((ok__law_turned F).mono (by decide)) hr (av_consN (ev_sp (ev_var 4 rfl)) (av_consN (ev_shR ((lc_Sub (own := [("_law_name", 5)]) (Γ' := fun d => (wipeE _ [5]).set 5 (.sh (dt d))) (py_it (ev_var 2 rfl) ?o24) (blkOk_by (N := N__law_hard) (sc := defScope s__law_hard) (by decide +kernel)) (fun d => tg_name (by decide)) (fun _ _ _ _ _ => pg_name (i := 5) nd rfl (by first | exact Or.inl rfl | exact Or.inr rfl)) (fun xs3 hxs3 x3 hx3 _ _ _ _ _ => tts_one (tv_eqR hu (ev_call ((ok__law_draw F).mono (by decide)) hr (av_cons (ev_var 0 rfl) (av_cons ev_int av_nil)) ⟨_, rfl, ?o25, rfl⟩) (rt_of ev_int))) (fun xs3 hxs3 x3 hx3 _ _ _ _ _ => (ev_var 5 rfl))).ev rfl nd)) av_nil)) ?o26) ?o27))))))))))⟩
  case hc => decide
  case o1 => omega
  case o2 => exact words_nm
  case o3 => exact ⟨by decide, by decide⟩
  case o4 => exact ⟨by decide, by decide⟩
  case o5 => exact fun _ _ _ _ => trivial
  case o6 => (rintro _ ⟨_, _, rfl, rfl, _, _, rfl, rfl, _, _, rfl, ⟨z, ⟨x, y, rfl, hy, rfl⟩, rfl⟩, rfl⟩; exact ⟨_, ⟨_, _, rfl, ⟨⟨by omega, hN.up (by omega)⟩, by show (0 : Int) ≤ 2 + y; omega, by show 2 + y ≤ (10 : Int); omega⟩, rfl⟩, fun r h => h⟩)
  case o7 => exact ⟨⟨_, _, _⟩, ⟨h_rows_here.1.cls, h_rows_here.2.1⟩, rfl⟩
  case o8 => exact ⟨by decide, by decide⟩
  case o9 => exact fun _ _ _ _ => trivial
  case o10 => (rintro _ ⟨_, _, rfl, ⟨z, ⟨xs, l, u, rfl, _, _, rfl⟩, rfl⟩, rfl⟩; have sb := sub_cut xs l u; exact ⟨_, ⟨_, rfl, ⟨by have := sb.length_le; omega, fun n hn => (hN.sz n (sb.subset hn)).2⟩, rfl⟩, ret_ro ⟨_, ⟨l, u, rfl⟩, rfl⟩⟩)
  case o11 => exact ⟨by decide, by decide⟩
  case o12 => exact fun j hj => ⟨hj.1, by omega⟩
  case o13 => exact ⟨⟨by omega, by omega, hN.word, hN.nd⟩, by decide⟩
  case o14 => (rintro x y ⟨ns, hns, rfl⟩ ⟨xs, ⟨j, hj, rfl⟩, hF⟩; exact sz_of (sgn_len hN hns (by omega) (by rw [hF.len, len_up]; omega)))
  case o15 => (obtain ⟨x, y, ⟨ns, ⟨l, u, rfl⟩, rfl⟩, ⟨xs, ⟨j, hj, rfl⟩, hF⟩, rfl⟩ := h_rows_here; exact ⟨⟨_, _, _⟩, app_rows (k := 32) (m := 3) (sgn_rows hN (by omega)) (f2_rows hF (by rw [len_up]; omega)) (by decide), rfl⟩)
  case o16 => omega
  case o17 => (rintro _ ⟨_, _, rfl, ⟨z, hz, rfl⟩, rfl⟩; exact ⟨_, ⟨_, rfl, ⟨by have := hz.length_eq; omega, fun n hn => (hN.sz n (hz.mem_iff.mp hn)).2⟩, rfl⟩, ret_ro ⟨_, hz, rfl⟩⟩)
  case o18 => exact ⟨by decide, by decide⟩
  case o19 => exact fun j hj => ⟨hj.1, by omega⟩
  case o20 => exact ⟨⟨by omega, by omega, hN.word, hN.nd⟩, by decide⟩
  case o21 => (rintro x y ⟨ns, hns, rfl⟩ ⟨xs, ⟨j, hj, rfl⟩, hF⟩; exact sz_of (rng_len hN hns (by omega) (by omega) (by rw [hF.len, len_up]; omega)))
  case o22 => (obtain ⟨x, y, ⟨ns, hns, rfl⟩, ⟨xs, ⟨j, hj, rfl⟩, hF⟩, rfl⟩ := h_rows_here; exact ⟨⟨_, _, _⟩, app_rows (k := 12) (m := 3) (rng_rows hN hns (by have q := gf1.symm; rw [Bool.or_eq_false_iff] at q; have q2 : ¬ (many < 3) := of_decide_eq_false (show decide (many < 3) = false from q.2); omega) (by omega)) (f2_rows hF (by rw [len_up]; omega)) (by decide), rfl⟩)
  case o23 => exact ⟨_, hj2, rfl⟩
  case o24 => trivial
  case o25 => exact ⟨by decide, by decide⟩
  case o26 => (rintro _ ⟨_, _, rfl, rfl, _, _, rfl, ⟨z, _, rfl⟩, rfl⟩; exact ⟨_, ⟨_, _, rfl, ⟨fun c hc => (hj1.1 c hc).good (by omega), by omega, fun c hc => by have := (hj1.1 c hc).pt.len; omega⟩, rfl⟩, ret_ro (turned_bk hN hj1)⟩)
  case o27 => exact fun r h => h

abbrev N__law_book : List Str := ["_law_purse_here", "_law_many", "_law_names_here"]
theorem sc__law_book : FnScope N__law_book ["_law_purse_here", "_law_many"] (defScope s__law_book) := ⟨rfl, rfl, rfl, by decide +kernel, rfl, by decide +kernel, by decide +kernel⟩
abbrev ct__law_book : Ct := fun ds S => ∃ (many : Int), ds = [.pu, dt many] ∧ (1 ≤ many ∧ many ≤ 5) ∧ S = Ro fun rows : Rows => BkR many.toNat rows
theorem ok__law_book (F : Facts K mg) : Fn P w K mg base 9 "_law_book" (sizeLine * (sizeLine * (sizeLine * (sizeLine * 5)))) ct__law_book := by
  refine fn_df F.F__law_book sc__law_book (fun ds S ⟨many, h, _⟩ => by rw [h]; rfl) fun f cdv A outer s H E B ds S hr hC => ?_
  obtain ⟨many, rfl, hp, rfl⟩ := hC
  have hu := hr.units
  have nd := sc__law_book.nd
  refine ⟨_, ?hc, (sv_at (Γ1 := [_, _, _]) rfl (sv_setR 2 nd (rt_imp (P' := fun ns : List Str => Nm many.toNat ns ∧ ns.length = many.toNat) (ev_shR (py_srtR hu F.m_sorted (ev_shR (ev_call ((ok__law_words F).mono (by decide)) hr (av_cons (ev_var 0 rfl) (av_cons (ev_var 1 rfl) av_nil)) ⟨_, rfl, ?o1, rfl⟩)))) ?o2) (fun z_names_here h_names_here => (have hN := h_names_here.1; (have hl := h_names_here.2; (sv_at (Γ1 := [_, _, _]) rfl (sv_guardS (tv_gtR hu (ev_call ((ok__law_draw F).mono (by decide)) hr (av_cons (ev_var 0 rfl) (av_cons ev_int av_nil)) ⟨_, rfl, ?o3, rfl⟩) (rt_of ev_int)) (fun gt1 => (sv_one (s_ret (ev_call ((ok__law_hard F).mono (by decide)) hr (av_cons (ev_var 0 rfl) (av_cons (ev_var 1 rfl) av_nil)) ⟨_, rfl, ?o4, rfl⟩) ?o5))) (fun gf1 => (sv_one (s_ret (ev_callW (S := Ro fun rows : Rows => BkR many.toNat rows) ((ok__law_drawn F).mono (by decide)) hr (av_consN (ev_sp (ev_var 0 rfl)) (av_consN (ev_sp (ev_var 2 rfl)) (av_consN (py_addR (rt_of ev_int) (ev_call ((ok__law_draw F).mono (by decide)) hr (av_cons (ev_var 0 rfl) (av_cons ev_int av_nil)) ⟨_, rfl, ?o6, rfl⟩) ?o7) av_nil))) ?o8) ?o9))))))))))⟩
  case hc => decide
  case o1 => omega
  case o2 => exact words_nm
  case o3 => exact ⟨by decide, by decide⟩
  case o4 => exact hp
  case o5 => exact fun r h => h
  case o6 => exact ⟨by decide, by decide⟩
  case o7 => exact fun _ _ _ _ => trivial
  case o8 => (rintro _ ⟨_, _, rfl, rfl, _, _, rfl, rfl, _, _, rfl, ⟨z, ⟨x, y, rfl, hy, rfl⟩, rfl⟩, rfl⟩; have e : PyAdd.add (2 : Int) y = 2 + y := rfl; exact ⟨_, ⟨5, _, _, rfl, ⟨⟨by omega, hN.up (by omega), by decide⟩, by omega, by omega⟩, rfl⟩, ro_ret fun zs hz => ⟨_, hN, hz.1, by have := hz.2; omega⟩⟩)
  case o9 => exact fun r h => h

end
end Lk36
end

section
set_option Elab.async false
set_option linter.all false
set_option maxRecDepth 100000
set_option maxHeartbeats 4000000
set_option autoImplicit false
namespace Lk36
open PySem PySem.Spec PyProof.Rows L2 PySem.W PySem.SeqAt DL
variable [Wd]
section
variable {P : Program} {w : World} {K : PySem.W.Frag} {mg : Str → Option Value} {base : Heap}
abbrev N__law_open_book : List Str := ["_law_purse_here", "_law_names_here", "_law_kept", "_law_found", "_law_turn", "_law_clause_here", "_law_name", "_law_literal"]
theorem sc__law_open_book : FnScope N__law_open_book ["_law_purse_here"] (defScope s__law_open_book) := ⟨rfl, rfl, rfl, by decide +kernel, rfl, by decide +kernel, by decide +kernel⟩
abbrev ct__law_open_book : Ct := fun ds S => ds = [.pu] ∧ (True) ∧ S = Ro fun rows : Rows => BkR 5 rows
theorem ok__law_open_book (F : Facts K mg) : Fn P w K mg base 10 "_law_open_book" (sizeLine * (sizeLine * (sizeLine * (sizeLine * 8)))) ct__law_open_book := by
  refine fn_df F.F__law_open_book sc__law_open_book (fun ds S ⟨h, _⟩ => by rw [h]; rfl) fun f cdv A outer s H E B ds S hr hC => ?_
  obtain ⟨rfl, hp, rfl⟩ := hC
  have hu := hr.units
  have nd := sc__law_open_book.nd
  refine ⟨_, ?hc, (sv_at (Γ1 := [_, _, _, _, _, _, _, _]) rfl (sv_setR 1 nd (rt_imp (P' := fun ns : List Str => Nm 5 ns ∧ 2 ≤ ns.length) (ev_shR (py_srtR hu F.m_sorted (ev_shR (ev_callW (S := Ro fun ws : List Str => ∃ n : Nat, (2 ≤ n ∧ n ≤ 5) ∧ Ws n ws) ((ok__law_words F).mono (by decide)) hr (av_consN (ev_sp (ev_var 0 rfl)) (av_consN (py_addR (rt_of ev_int) (ev_call ((ok__law_draw F).mono (by decide)) hr (av_cons (ev_var 0 rfl) (av_cons ev_int av_nil)) ⟨_, rfl, ?o1, rfl⟩) ?o2) av_nil)) ?o3)))) ?o4) (fun z_names_here h_names_here => (have hN := h_names_here.1; (have hl := h_names_here.2; (have hf := hN.few; (sv_at (Γ1 := [_, _, _, _, _, _, _, _]) rfl (sv_guardS (tv_eqR hu (ev_call ((ok__law_draw F).mono (by decide)) hr (av_cons (ev_var 0 rfl) (av_cons ev_int av_nil)) ⟨_, rfl, ?o5, rfl⟩) (rt_of ev_int)) (fun gt1 => (sv_one (s_ret (ev_call ((ok__law_book F).mono (by decide)) hr (av_cons (ev_var 0 rfl) (av_cons (py_len F.m_len (ev_var 1 rfl) ?o6) av_nil)) ⟨_, rfl, ?o7, rfl⟩) ?o8))) (fun gf1 => (sv_at (Γ1 := [_, _, _, _, _, _, _, _]) rfl (sv_setRL 2 nd ((lc_F2 (own := [("_law_name", 6)]) (Γ' := fun d => (wipeE _ [6]).set 6 (.sh (dt d))) (py_it (ev_var 1 rfl) ?o9) (blkOk_by (N := N__law_open_book) (sc := defScope s__law_open_book) (by decide +kernel)) (fun d => tg_name (by decide)) (fun _ _ _ _ _ => pg_name (i := 6) nd rfl (by first | exact Or.inl rfl | exact Or.inr rfl)) (fun xs1 hxs1 x1 hx1 _ _ _ _ _ => (ev_iteR2 (tv_eqR hu (ev_call ((ok__law_draw F).mono (by decide)) hr (av_cons (ev_var 0 rfl) (av_cons ev_int av_nil)) ⟨_, rfl, ?o10, rfl⟩) (rt_of ev_int)) (fun it1 => (rt_of (ev_var 6 rfl))) (fun ie1 => (rt_of (py_add ev_str (ev_var 6 rfl) ?o11)))))).ev rfl nd) (fun z_kept h_kept => (have hK := kept_pt hN h_kept; (sv_at (Γ1 := [_, _, _, _, _, _, _, _]) rfl (sv_seto 3 nd (ev_nilL (α := Tup Str)) (sv_at (Γ1 := [_, _, _, _, _, _, _, _]) rfl (sv_forI (fun xs i (j : Rows × (Nat → Ent)) => (∀ c ∈ j.1, Cls z_names_here c) ∧ j.1.length ≤ i) (fun xs (j : Rows × (Nat → Ent)) => [.sh .pu, .sh (dt z_names_here), .sh (dt z_kept), .ow (dt j.1), j.2 4, j.2 5, j.2 6, j.2 7]) (Γ' := fun d xs j => ((fun xs (j : Rows × (Nat → Ent)) => [.sh .pu, .sh (dt z_names_here), .sh (dt z_kept), .ow (dt j.1), j.2 4, j.2 5, j.2 6, j.2 7]) xs j).set 4 (.sh (dt d))) rfl (iv_range1R F.m_range (py_addR (rt_of ev_int) (ev_call ((ok__law_draw F).mono (by decide)) hr (av_cons (ev_var 0 rfl) (av_cons (ev_mulE ev_int (py_len F.m_len (ev_var 1 rfl) ?o12) ?o13) av_nil)) ⟨_, rfl, ?o14, rfl⟩) ?o15) ?o16) (pg_name (i := 4) nd rfl (by first | exact Or.inl rfl | exact Or.inr rfl)) [4] (fun d xs j => tg_name (by decide)) ?o28 (fun ys1 hys1 i1 y1 hy1 k1 hk1 => (sv_at (Γ1 := [_, _, _, _, _, _, _, _]) rfl (sv_setR 5 nd (ev_call ((ok__law_drawn_clause F).mono (by decide)) hr (av_cons (ev_var 0 rfl) (av_cons (ev_var 1 rfl) (av_cons ev_int av_nil))) ⟨_, _, rfl, ?o17, rfl⟩) (fun z_clause_here h_clause_here => (sv_at (Γ1 := [_, _, _, _, _, _, _, _]) rfl (sv_if2S (wv_or (tv_d (py_any rfl F.m_any (ev_sh ((lc_0 (own := [("_law_literal", 7)]) (Γ' := fun d => (wipeE _ [7]).set 7 (.sh (dt d))) (py_it (ev_var 5 rfl) ?o18) (blkOk_by (N := N__law_open_book) (sc := defScope s__law_open_book) (by decide +kernel)) (fun d => tg_name (by decide)) (fun _ _ _ _ _ => pg_name (i := 7) nd rfl (by first | exact Or.inl rfl | exact Or.inr rfl)) (fun x2 hx2 _ _ _ _ _ => (py_in hu (ev_var 7 rfl) (ev_var 2 rfl)))).ev rfl nd)))) (fun h1 => (wv_or1 (tv_eqR hu (ev_call ((ok__law_draw F).mono (by decide)) hr (av_cons (ev_var 0 rfl) (av_cons ev_int av_nil)) ⟨_, rfl, ?o19, rfl⟩) (rt_of ev_int))))).pt (fun gt2 => (sv_at (Γ1 := [_, _, _, _, _, _, _, _]) rfl (sv_appendd 3 rfl (ev_var 5 rfl) ?o20 (sv_endN ?o21)))) (fun gf2 => (sv_endN ?o22)) rfl)))))) (fun ws1 hws1 l1 hl1 => (sv_share 3 rfl (sv_at (Γ1 := [_, _, _, _, _, _, _, _]) rfl (sv_one (s_ret (ev_call ((ok__law_rows F).mono (by decide)) hr (av_cons (py_add (ev_var 3 rfl) (ev_sh (ev_lstT (avt_cons (ev_tupT (avt_cons (py_ixD (ev_var 2 rfl) ev_int ?o23 ?o24) avt_nil)) avt_nil))) ?o25) av_nil) ⟨_, rfl, ?o26, rfl⟩) ?o27))))))))))))))))))))))⟩
  case hc => decide
  case o1 => exact ⟨by decide, by decide⟩
  case o2 => exact fun _ _ _ _ => trivial
  case o3 => (rintro _ ⟨_, _, rfl, rfl, _, _, rfl, ⟨z, ⟨x, y, rfl, hy, rfl⟩, rfl⟩, rfl⟩; have e : PyAdd.add (2 : Int) y = 2 + y := rfl; exact ⟨_, ⟨_, rfl, ⟨by omega, by omega⟩, rfl⟩, ro_ret fun zs hz => ⟨_, ⟨by omega, by omega⟩, hz⟩⟩)
  case o4 => (rintro z ⟨xs, ⟨n, hn, hw⟩, rfl⟩; have q := words_nm (srt xs) ⟨xs, hw, rfl⟩; exact ⟨q.1.up hn.2, by omega⟩)
  case o5 => exact ⟨by decide, by decide⟩
  case o6 => first | trivial | exact sz_of (by omega)
  case o7 => (show 1 ≤ ((z_names_here.length : Nat) : Int) ∧ ((z_names_here.length : Nat) : Int) ≤ 5; omega)
  case o8 => exact ro_ret fun z hz => hz.up (by show ((z_names_here.length : Nat) : Int).toNat ≤ 5; omega)
  case o9 => trivial
  case o10 => exact ⟨by decide, by decide⟩
  case o11 => (have hm : x1 ∈ z_names_here := by rw [hxs1] at hx1; exact hx1); (have := hN.sz x1 hm; exact sz_of (by show minus.length + x1.length ≤ _; have : minus.length = 1 := rfl; omega))
  case o12 => first | trivial | exact sz_of (by omega)
  case o13 => exact .inl (.inl ⟨by decide, by decide⟩)
  case o14 => (show 1 ≤ (2 : Int) * ((z_names_here.length : Nat) : Int) ∧ (2 : Int) * ((z_names_here.length : Nat) : Int) ≤ 1000000; omega)
  case o15 => exact fun _ _ _ _ => trivial
  case o16 => (rintro j ⟨x, y, rfl, hy, rfl⟩; have e : PyAdd.add (1 : Int) y = 1 + y := rfl; have e2 : ((PyLen.len z_names_here : Nat) : Int) = ((z_names_here.length : Nat) : Int) := rfl; omega)
  case o17 => exact ⟨⟨by omega, by omega, hN.word, hN.nd⟩, by decide⟩
  case o18 => trivial
  case o19 => exact ⟨by decide, by decide⟩
  case o20 => exact Nat.lt_of_le_of_lt (by have := hk1.2; have := turns hys1 hy1 (by omega); omega : _ ≤ 40) (by decide)
  case o21 => exact ⟨⟨_, fun n => List.getD [.no, .no, .no, .no, .sh (dt y1), .sh (dt z_clause_here), k1.2 6, k1.2 7] n .no⟩, ⟨fun c hc => (List.mem_append.mp hc).elim (hk1.1 c) fun q => by rw [List.mem_singleton.mp q]; exact h_clause_here, by rw [List.length_append, List.length_singleton]; have := hk1.2; omega⟩, rfl⟩
  case o22 => exact ⟨⟨k1.1, fun n => List.getD [.no, .no, .no, .no, .sh (dt y1), .sh (dt z_clause_here), k1.2 6, k1.2 7] n .no⟩, ⟨hk1.1, Nat.le_succ_of_le hk1.2⟩, rfl⟩
  case o23 => exact some_L (by have := hK.2; omega)
  case o24 => first | trivial | exact sz_of (by omega)
  case o25 => exact sz_of (by have := hl1.2; have := turns_all hws1 (by omega : z_names_here.length ≤ 5); show l1.1.length + 1 ≤ _; omega)
  case o26 => (have := hl1.2; have := turns_all hws1 (by omega : z_names_here.length ≤ 5); show (l1.1 ++ [_]).length ≤ 10000; rw [List.length_append, List.length_singleton]; omega)
  case o27 => exact ret_ro (open_bk hN hl1.1 (one_cls hK.1 (ixD_mem (by intro e; have := hK.2; rw [e] at this; simp at this; omega))) (by have := hl1.2; have := turns_all hws1 (by omega : z_names_here.length ≤ 5); omega))
  case o28 => exact fun xs _ => ⟨⟨[], fun _ => .no⟩, ⟨fun c hc => (List.not_mem_nil hc).elim, Nat.le_refl 0⟩, rfl⟩

end
end Lk36
end

section
set_option Elab.async false
set_option linter.all false
set_option maxRecDepth 100000
set_option maxHeartbeats 4000000
set_option autoImplicit false
namespace Lk36
open PySem PySem.Spec PyProof.Rows L2 PySem.W PySem.SeqAt DL
variable [Wd]
section
variable {P : Program} {w : World} {K : PySem.W.Frag} {mg : Str → Option Value} {base : Heap}
abbrev N__law_exact : List Str := ["_law_mine", "_law_theirs", "_law_alike", "_law_a", "_law_b", "_law_key"]
theorem sc__law_exact : FnScope N__law_exact ["_law_mine", "_law_theirs"] (defScope s__law_exact) := ⟨rfl, rfl, rfl, by decide +kernel, rfl, by decide +kernel, by decide +kernel⟩
theorem exact_step (F : Facts K mg) (n : Nat) (IH : ∀ m, n = m + 1 → Fn P w K mg base n "_law_exact" 0 (ct_exact m)) : Fn P w K mg base (n + 1) "_law_exact" 0 (ct_exact n) := by
  refine fn_df F.F__law_exact sc__law_exact (fun ds S ⟨d, h, _⟩ => by rw [h]; rfl) fun f cdv A outer s H E B ds S hr hC => ?_
  obtain ⟨d, rfl, hp, rfl⟩ := hC
  have hu := hr.units
  have nd := sc__law_exact.nd
  have hty : (tyD d).isSome = true := by
    cases hp with
    | lst h _ => rw [seqL_ty h]; rfl
    | tup h _ => rw [seqT_ty h]; rfl
    | _ => rfl
  refine ⟨0, Nat.le_refl _, sv_le (sv_guard (c1 := 0) (c2 := 0) (tv_d (ev_isi2 (n1 := "list") (n2 := "tuple") F.m_isinstance F.m_list F.m_tuple (ev_var 0 rfl) hty)) (fun gt1 => ?seq) (fun gf1 => sv_le (sv_guard (c1 := 0) (c2 := 0) (tv_d (ev_isi (n := "dict") F.m_isinstance F.m_dict (ev_var 0 rfl) hty)) (fun gt2 => ?dc) (fun gf2 => ?atm))))⟩
  case seq =>
    have hs : ∃ m ds, n = m + 1 ∧ ((seqL d = some ds ∧ seqL d = some ds) ∨ (seqT d = some ds ∧ seqT d = some ds)) ∧ ∀ x ∈ ds, ExD m x := by
      cases hp with
      | lst h1 h3 => exact ⟨_, _, rfl, .inl ⟨h1, h1⟩, h3⟩
      | tup h1 h3 => exact ⟨_, _, rfl, .inr ⟨h1, h1⟩, h3⟩
      | non => exact absurd gt1 (by show ¬ ((kitB "NoneType" "list").getD false || (kitB "NoneType" "tuple").getD false) = true; decide +kernel)
      | bl => exact absurd gt1 (by show ¬ ((kitB "bool" "list").getD false || (kitB "bool" "tuple").getD false) = true; decide +kernel)
      | int => exact absurd gt1 (by show ¬ ((kitB "int" "list").getD false || (kitB "int" "tuple").getD false) = true; decide +kernel)
      | str => exact absurd gt1 (by show ¬ ((kitB "str" "list").getD false || (kitB "str" "tuple").getD false) = true; decide +kernel)
      | dct kvs _ _ => exact absurd gt1 (by show ¬ ((kitB "dict" "list").getD false || (kitB "dict" "tuple").getD false) = true; decide +kernel)
    obtain ⟨m, ds, rfl, hq, hx⟩ := hs
    have hq1 : seqL d = some ds ∨ seqT d = some ds := hq.imp (·.1) (·.1)
    exact sv_le (sv_setd 2 nd (ev_and (ev_eq hu (ev_isi (n := "list") F.m_isinstance F.m_list (ev_var 1 rfl) hty) (ev_isi (n := "list") F.m_isinstance F.m_list (ev_var 0 rfl) hty)) (fun _ => ev_one (ev_eq hu (ev_isi (n := "tuple") F.m_isinstance F.m_tuple (ev_var 1 rfl) hty) (ev_isi (n := "tuple") F.m_isinstance F.m_tuple (ev_var 0 rfl) hty))))
      (sv_one (s_ret (ev_and (ev_var 2 rfl) (fun _ => ev_and (ev_eq hu (ev_lenSeq hq1 F.m_len (ev_var 0 rfl)) (ev_lenSeq hq1 F.m_len (ev_var 1 rfl))) (fun _ => ev_one (py_all rfl F.m_all (ev_sh ((lc_0 (enc := prD) (f := fun _ => true) (own := [("_law_a", 3), ("_law_b", 4)]) (Γ' := fun q => ((wipeE _ [3, 4]).set 3 (.sh q.1)).set 4 (.sh q.2))
        (iv_zipD hq F.m_zip (ev_var 0 rfl) (ev_var 1 rfl)) (blkOk_by (N := N__law_exact) (sc := defScope s__law_exact) (by decide +kernel)) (fun q => tg_pairD (by decide) (by decide)) (fun _ _ _ _ _ => pg_tup rfl (pgs_cons (pg_name (i := 3) nd rfl (Or.inl rfl)) (pgs_cons (pg_name (i := 4) nd rfl (Or.inl rfl)) pgs_nil)))
        (fun q hqz _ _ _ _ _ => ev_call (IH m rfl) hr (av_cons (ev_var 3 rfl) (av_cons (ev_var 4 rfl) av_nil)) ⟨q.1, by rw [← (zip_self hqz).1], hx _ (zip_self hqz).2, rfl⟩)).ev rfl nd)))))) (ret_of (seq_ret (dec_self _) (dec_self _) (dec_self _) (all_true _))))))
  case dc =>
    have hs : ∃ (m : Nat) (α : Type) (_ : DecidableEq α) (_ : Datum α) (_ : Inhabited α) (kvs : List (Str × α)), n = m + 2 ∧ d = mpS kvs ∧ kvs.length ≤ sizeLine ∧ ∀ k ∈ kvs.map (·.1), ExD (m + 1) (dt (getS kvs k)) := by
      cases hp with
      | dct kvs h1 h2 => exact ⟨_, _, _, _, _, kvs, rfl, rfl, h1, h2⟩
      | lst h _ => rw [isa_of (b := false) (seqL_ty h) (by decide +kernel)] at gt2; cases gt2
      | tup h _ => rw [isa_of (b := false) (seqT_ty h) (by decide +kernel)] at gt2; cases gt2
      | non => exact absurd gt2 (by show ¬ ((kitB "NoneType" "dict").getD false) = true; decide +kernel)
      | bl => exact absurd gt2 (by show ¬ ((kitB "bool" "dict").getD false) = true; decide +kernel)
      | int => exact absurd gt2 (by show ¬ ((kitB "int" "dict").getD false) = true; decide +kernel)
      | str => exact absurd gt2 (by show ¬ ((kitB "str" "dict").getD false) = true; decide +kernel)
    obtain ⟨m, α, _, _, _, kvs, rfl, rfl, hz, hx⟩ := hs
    have hk : ExD (m + 1) (dt (kvs.map (·.1))) := .lst (ds := ((kvs.map (·.1)).map Datum.toD).map .py) rfl fun x hx => by
      obtain ⟨p, hp, rfl⟩ := List.mem_map.mp hx
      obtain ⟨y, _, rfl⟩ := List.mem_map.mp hp
      exact .str m y
    exact sv_le (sv_setd 2 nd (ev_and (ev_isi (n := "dict") F.m_isinstance F.m_dict (ev_var 1 rfl)) (fun _ => ev_one (ev_call (IH (m + 1) rfl) hr (av_cons (ev_sh (ev_listD rfl F.m_list (ev_var 0 rfl))) (av_cons (ev_sh (ev_listD rfl F.m_list (ev_var 1 rfl))) av_nil)) ⟨_, rfl, hk, rfl⟩)))
      (sv_one (s_ret (ev_and (ev_var 2 rfl) (fun _ => ev_one (py_all rfl F.m_all (ev_sh (ev_lcD0 0 (own := [("_law_key", 5)]) (f := fun _ => true) (Γ' := fun q => (wipeE _ [5]).set 5 (.sh (dt q))) rfl hz rfl nd (blkOk_by (N := N__law_exact) (sc := defScope s__law_exact) (by decide +kernel)) (fun q => tg_name (by decide)) (fun _ _ _ _ _ => pg_name (i := 5) nd rfl (Or.inl rfl))
        (fun k hk _ _ _ _ _ _ => ev_call (IH (m + 1) rfl) hr (av_cons (ev_dgetD hu (ev_var 0 rfl) (ev_var 5 rfl) hk) (av_cons (ev_dgetD hu (ev_var 1 rfl) (ev_var 5 rfl) hk) av_nil)) ⟨_, rfl, hx k hk, rfl⟩)))))) (ret_of (dct_ret (isa_dict kvs) (all_true _))))))
  case atm =>
    have hs : d = dt () ∨ (∃ x : Bool, d = dt x) ∨ (∃ x : Int, d = dt x) ∨ ∃ x : Str, d = dt x := by
      cases hp with
      | non => exact .inl rfl
      | bl _ b => exact .inr (.inl ⟨b, rfl⟩)
      | int _ i => exact .inr (.inr (.inl ⟨i, rfl⟩))
      | str _ x => exact .inr (.inr (.inr ⟨x, rfl⟩))
      | lst h _ => rw [isa_of (b := true) (seqL_ty h) (by decide +kernel)] at gf1; cases gf1
      | tup h _ => rw [isa_of (U := "tuple") (b := true) (seqT_ty h) (by decide +kernel), Bool.or_true] at gf1; cases gf1
      | dct kvs _ _ => rw [isa_dict kvs] at gf2; cases gf2
    rcases hs with rfl | ⟨x, rfl⟩ | ⟨x, rfl⟩ | ⟨x, rfl⟩
    · exact sv_le (sv_setd 2 nd (ev_eq hu (ev_isi (n := "int") F.m_isinstance F.m_int (ev_var 0 rfl)) (ev_isi (n := "int") F.m_isinstance F.m_int (ev_var 1 rfl))) (sv_one (s_ret (ev_and (ev_var 2 rfl) (fun _ => ev_and (ev_eq hu (ev_isi (n := "bool") F.m_isinstance F.m_bool (ev_var 0 rfl)) (ev_isi (n := "bool") F.m_isinstance F.m_bool (ev_var 1 rfl))) (fun _ => ev_one (ev_eq (α := Unit) hu (ev_var 0 rfl) (ev_var 1 rfl))))) (ret_of (atm_ret (dec_self _) (dec_self _) (dec_self _))))))
    · exact sv_le (sv_setd 2 nd (ev_eq hu (ev_isi (n := "int") F.m_isinstance F.m_int (ev_var 0 rfl)) (ev_isi (n := "int") F.m_isinstance F.m_int (ev_var 1 rfl))) (sv_one (s_ret (ev_and (ev_var 2 rfl) (fun _ => ev_and (ev_eq hu (ev_isi (n := "bool") F.m_isinstance F.m_bool (ev_var 0 rfl)) (ev_isi (n := "bool") F.m_isinstance F.m_bool (ev_var 1 rfl))) (fun _ => ev_one (ev_eq (α := Bool) hu (ev_var 0 rfl) (ev_var 1 rfl))))) (ret_of (atm_ret (dec_self _) (dec_self _) (dec_self _))))))
    · exact sv_le (sv_setd 2 nd (ev_eq hu (ev_isi (n := "int") F.m_isinstance F.m_int (ev_var 0 rfl)) (ev_isi (n := "int") F.m_isinstance F.m_int (ev_var 1 rfl))) (sv_one (s_ret (ev_and (ev_var 2 rfl) (fun _ => ev_and (ev_eq hu (ev_isi (n := "bool") F.m_isinstance F.m_bool (ev_var 0 rfl)) (ev_isi (n := "bool") F.m_isinstance F.m_bool (ev_var 1 rfl))) (fun _ => ev_one (ev_eq (α := Int) hu (ev_var 0 rfl) (ev_var 1 rfl))))) (ret_of (atm_ret (dec_self _) (dec_self _) (dec_self _))))))
    · exact sv_le (sv_setd 2 nd (ev_eq hu (ev_isi (n := "int") F.m_isinstance F.m_int (ev_var 0 rfl)) (ev_isi (n := "int") F.m_isinstance F.m_int (ev_var 1 rfl))) (sv_one (s_ret (ev_and (ev_var 2 rfl) (fun _ => ev_and (ev_eq hu (ev_isi (n := "bool") F.m_isinstance F.m_bool (ev_var 0 rfl)) (ev_isi (n := "bool") F.m_isinstance F.m_bool (ev_var 1 rfl))) (fun _ => ev_one (ev_eq (α := Str) hu (ev_var 0 rfl) (ev_var 1 rfl))))) (ret_of (atm_ret (dec_self _) (dec_self _) (dec_self _))))))
theorem ok__law_exact (F : Facts K mg) : ∀ n, Fn P w K mg base (n + 1) "_law_exact" 0 (ct_exact n)
  | 0 => exact_step F 0 fun m h => by cases h
  | n + 1 => exact_step F (n + 1) fun m h => by
    obtain rfl : n = m := Nat.succ.inj h
    exact ok__law_exact F n
theorem ok__law_exact__S (F : Facts K mg) : Fn P w K mg base 1 "_law_exact" 0 (fun ds S => ∃ x y : Str, ds = [dt x, dt y] ∧ True ∧ S = Sd (dt (decide (x = y)))) := by
  refine fn_df F.F__law_exact sc__law_exact (fun ds S ⟨x, y, h, _⟩ => by rw [h]; rfl) fun f cdv A outer s H E B ds S hr hC => ?_
  obtain ⟨x, y, rfl, hp, rfl⟩ := hC
  have hu := hr.units
  have nd := sc__law_exact.nd
  refine ⟨0, Nat.le_refl _, sv_le (sv_passq (tv_d (ev_isi2 (n1 := "list") (n2 := "tuple") F.m_isinstance F.m_list F.m_tuple (ev_var 0 rfl) rfl)) (by show ((kitB "str" "list").getD false || (kitB "str" "tuple").getD false) = false; decide +kernel) (sv_passq (tv_d (ev_isi (n := "dict") F.m_isinstance F.m_dict (ev_var 0 rfl))) (by show (kitB "str" "dict").getD false = false; decide +kernel)
    (sv_setd 2 nd (ev_eq hu (ev_isi (n := "int") F.m_isinstance F.m_int (ev_var 0 rfl)) (ev_isi (n := "int") F.m_isinstance F.m_int (ev_var 1 rfl))) (sv_one (s_ret (ev_and (ev_var 2 rfl) (fun _ => ev_and (ev_eq hu (ev_isi (n := "bool") F.m_isinstance F.m_bool (ev_var 0 rfl)) (ev_isi (n := "bool") F.m_isinstance F.m_bool (ev_var 1 rfl))) (fun _ => ev_one (ev_eq (α := Str) hu (ev_var 0 rfl) (ev_var 1 rfl))))) (ret_of ?r))))))⟩
  have e1 : isaD "int" (dt x) = isaD "int" (dt y) := rfl
  have e2 : isaD "bool" (dt x) = isaD "bool" (dt y) := rfl
  rw [e1, e2, dec_self, dec_self]; rfl
theorem ok__law_exact__T (F : Facts K mg) : Fn P w K mg base 2 "_law_exact" 0 (fun ds S => ∃ x y : Tup Str, ds = [dt x, dt y] ∧ True ∧ S = Sd (dt (decide (x = y)))) := by
  refine fn_df F.F__law_exact sc__law_exact (fun ds S ⟨x, y, h, _⟩ => by rw [h]; rfl) fun f cdv A outer s H E B ds S hr hC => ?_
  obtain ⟨x, y, rfl, hp, rfl⟩ := hC
  have hu := hr.units
  have nd := sc__law_exact.nd
  refine ⟨0, Nat.le_refl _, sv_le (sv_guard (c1 := 0) (c2 := 0) (tv_d (ev_isi2 (n1 := "list") (n2 := "tuple") F.m_isinstance F.m_list F.m_tuple (ev_var 0 rfl) rfl)) (fun gt1 => ?seq) (fun gf1 => absurd gf1 (by show ¬ (((kitB "tuple" "list").getD false || (kitB "tuple" "tuple").getD false) = false); decide +kernel)))⟩
  refine sv_le (sv_setd 2 nd (ev_and (ev_eq hu (ev_isi (n := "list") F.m_isinstance F.m_list (ev_var 1 rfl)) (ev_isi (n := "list") F.m_isinstance F.m_list (ev_var 0 rfl))) (fun _ => ev_one (ev_eq hu (ev_isi (n := "tuple") F.m_isinstance F.m_tuple (ev_var 1 rfl)) (ev_isi (n := "tuple") F.m_isinstance F.m_tuple (ev_var 0 rfl)))))
      (sv_one (s_ret (ev_and (ev_var 2 rfl) (fun _ => ev_and (ev_eq hu (py_len F.m_len (ev_var 0 rfl) trivial) (py_len F.m_len (ev_var 1 rfl) trivial)) (fun _ => ev_one (py_all rfl F.m_all (ev_sh ((lc_0 (enc := prT) (f := fun q : Str × Str => decide (q.1 = q.2)) (own := [("_law_a", 3), ("_law_b", 4)]) (Γ' := fun q => ((wipeE _ [3, 4]).set 3 (.sh (dt q.1))).set 4 (.sh (dt q.2)))
        (iv_zipT F.m_zip (ev_var 0 rfl) (ev_var 1 rfl)) (blkOk_by (N := N__law_exact) (sc := defScope s__law_exact) (by decide +kernel)) (fun q => tg_pairT (by decide) (by decide)) (fun _ _ _ _ _ => pg_tup rfl (pgs_cons (pg_name (i := 3) nd rfl (Or.inl rfl)) (pgs_cons (pg_name (i := 4) nd rfl (Or.inl rfl)) pgs_nil)))
        (fun q hqz _ _ _ _ _ => ev_call ((ok__law_exact__S F).mono (by decide)) hr (av_cons (ev_var 3 rfl) (av_cons (ev_var 4 rfl) av_nil)) ⟨q.1, q.2, rfl, trivial, rfl⟩)).ev rfl nd)))))) (ret_of ?r))))
  have e1 : isaD "list" (dt x) = isaD "list" (dt y) := rfl
  have e2 : isaD "tuple" (dt x) = isaD "tuple" (dt y) := rfl
  rw [e1, e2, dec_self, dec_self]
  exact exact_tup x y
end
end Lk36
end

section
set_option Elab.async false
set_option linter.all false
set_option maxRecDepth 100000
set_option maxHeartbeats 4000000
set_option autoImplicit false
namespace Lk36
open PySem PySem.Spec PyProof.Rows L2 PySem.W PySem.SeqAt DL
variable [Wd]
section
variable {P : Program} {w : World} {K : PySem.W.Frag} {mg : Str → Option Value} {base : Heap}
abbrev N__law_book_right : List Str := ["_law_rows_here", "_law_names_here", "_law_made_here", "_law_due", "_law_told", "_law_some", "_law_both", "_law_sure", "_law_literal", "_law_name", "_law_part"]
theorem sc__law_book_right : FnScope N__law_book_right ["_law_rows_here"] (defScope s__law_book_right) := ⟨rfl, rfl, rfl, by decide +kernel, rfl, by decide +kernel, by decide +kernel⟩
abbrev ct__law_book_right (C : Addr) : Ct := fun ds S => ∃ (rows : Rows), ds = [dt rows] ∧ (Bk rows) ∧ S = Sd (dt true)
theorem ok__law_book_right (F : Facts K mg) {C : Addr} (Bk : BookF K mg s_Book_init s_Book_clauses s_Book_variables C) : Fn P w K mg base 8 "_law_book_right" 0 (ct__law_book_right C) := by
  refine fn_df F.F__law_book_right sc__law_book_right (fun ds S ⟨rows, h, _⟩ => by rw [h]; rfl) fun f cdv A outer s H E B ds S hr hC => ?_
  obtain ⟨rows, rfl, hp, rfl⟩ := hC
  have hu := hr.units
  have nd := sc__law_book_right.nd
  have hs := hp.same
  refine ⟨_, ?hc, (sv_at (Γ1 := [_, _, _, _, _, _, _, _, _, _, _]) rfl (sv_pare 1 2 nd (ev_sh (ev_call ((ok__law_names F).mono (by decide)) hr (av_cons (ev_var 0 rfl) av_nil) ⟨_, rfl, ?o1, rfl⟩)) (ev_sh (ev_call ((ok__law_made F Bk).mono (by decide)) hr (av_cons (ev_var 0 rfl) av_nil) ⟨_, rfl, ?o2, rfl⟩)) (sv_at (Γ1 := [_, _, _, _, _, _, _, _, _, _, _]) rfl (sv_setd 3 nd (ev_sh (ev_call ((ok__law_fillings F).mono (by decide)) hr (av_cons (ev_var 0 rfl) (av_cons (ev_var 1 rfl) av_nil)) ⟨_, _, rfl, ?o3, rfl⟩)) (sv_at (Γ1 := [_, _, _, _, _, _, _, _, _, _, _]) rfl (sv_told 4 nd (Nat.le_of_ble_eq_true rfl) (ev_call ((ok_fillings_of F Bk).mono (by decide)) hr (av_cons (ev_var 2 rfl) av_nil) ⟨_, rfl, ?o4, rfl⟩) (av_cons (ev_sh (ev_call ((ok_fillings_of F Bk).mono (by decide)) hr (av_cons (ev_sh (ev_call ((ok__law_made F Bk).mono (by decide)) hr (av_cons (ev_var 0 rfl) av_nil) ⟨_, rfl, ?o8, rfl⟩)) av_nil) ⟨_, rfl, ?o9, rfl⟩)) (av_cons (ev_call ((ok_many_fillings F Bk).mono (by decide)) hr (av_cons (ev_var 2 rfl) av_nil) ⟨_, rfl, ?o7, rfl⟩) (av_cons (ev_call ((ok_many_fillings F Bk).mono (by decide)) hr (av_cons (ev_sh (ev_call ((ok__law_made F Bk).mono (by decide)) hr (av_cons (ev_var 0 rfl) av_nil) ⟨_, rfl, ?o5, rfl⟩)) av_nil) ⟨_, rfl, ?o6, rfl⟩) av_nil))) rfl (by simp only [List.length_cons, List.length_nil]; decide) ?o20 (tv_notd (tv_d (ev_exact ((ok__law_exact F 3).mono (by decide)) hr (ev_var 4 rfl) (ev_sh (ev_lstD (av_cons (ev_var 3 rfl) (av_cons (ev_var 3 rfl) (av_cons (py_len F.m_len (ev_var 3 rfl) ?o11) (av_cons (py_len F.m_len (ev_var 3 rfl) ?o10) av_nil)))))) (lst_eq (cons_eq ?o15 (cons_eq ?o14 (cons_eq ?o13 (cons_eq ?o12 nil_eq))))) (exA (.cons ?o19 (.cons ?o18 (.cons ?o17 (.cons ?o16 .nil)))))))) (sv_at (Γ1 := [_, _, _, _, _, _, _, _, _, _, _]) rfl (sv_setd 5 nd (ev_call ((ok_any_filling F Bk).mono (by decide)) hr (av_cons (ev_var 2 rfl) av_nil) ⟨_, rfl, ?o21, rfl⟩) (sv_at (Γ1 := [_, _, _, _, _, _, _, _, _, _, _]) rfl (sv_passq (wv_ord (tv_ne hu (ev_isNone (ev_var 5 rfl)) (ev_eq hu (ev_var 3 rfl) (ev_sh ev_nilL))) (fun h2 => (wv_or1 (wv_andd (tv_notNone (ev_var 5 rfl)) (fun h1 => (wv_and1 (tv_notd (tv_d (py_any rfl F.m_any (ev_sh ((lc_0 (own := [("_law_part", 10)]) (Γ' := fun d => (wipeE _ [10]).set 10 (.sh (dt d))) (py_it (ev_var 3 rfl) ?o22) (blkOk_by (N := N__law_book_right) (sc := defScope s__law_book_right) (by decide +kernel)) (fun d => tg_name (by decide)) (fun _ _ _ _ _ => pg_name (i := 10) nd rfl (by first | exact Or.inl rfl | exact Or.inr rfl)) (fun x1 hx1 _ _ _ _ _ => (ev_call ((ok__law_exact__T F).mono (by decide)) hr (av_cons (ev_cast (d' := dt (((allFills rows (namesL rows))[0]?).getD default)) (some_cast h1) (ev_var 5 rfl)) (av_cons (ev_var 10 rfl) av_nil)) ⟨_, _, rfl, trivial, rfl⟩))).ev rfl nd)))))))).pt))).pt ?o23 (sv_at (Γ1 := [_, _, _, _, _, _, _, _, _, _, _]) rfl (sv_ifN (fun _ : Nat → Ent => True) (fun j => [.sh (dt rows), .sh (dt (namesL rows)), .sh (bkD C rows), .sh (dt (fillsL rows (namesL rows))), j 4, j 5, j 6, j 7, j 8, j 9, j 10]) (tv_ne hu (ev_var 3 rfl) (ev_sh ev_nilL)) (fun gt1 => (sv_at (Γ1 := [_, _, _, _, _, _, _, _, _, _, _]) rfl (sv_setd 6 nd (ev_sh (py_srt hu F.m_sorted (py_add (ev_var 1 rfl) (ev_sh ((lc_0 (own := [("_law_name", 9)]) (Γ' := fun d => (wipeE _ [9]).set 9 (.sh (dt d))) (py_it (ev_var 1 rfl) ?o24) (blkOk_by (N := N__law_book_right) (sc := defScope s__law_book_right) (by decide +kernel)) (fun d => tg_name (by decide)) (fun _ _ _ _ _ => pg_name (i := 9) nd rfl (by first | exact Or.inl rfl | exact Or.inr rfl)) (fun x2 hx2 _ _ _ _ _ => (py_add ev_str (ev_var 9 rfl) ?o25))).ev rfl nd)) ?o26))) (sv_at (Γ1 := [_, _, _, _, _, _, _, _, _, _, _]) rfl (sv_setLcd 7 (lc_T (own := [("_law_literal", 8)]) (Γ' := fun d => (wipeE _ [8]).set 8 (.sh (dt d))) (py_it (ev_var 6 rfl) ?o27) (blkOk_by (N := N__law_book_right) (sc := defScope s__law_book_right) (by decide +kernel)) (fun d => tg_name (by decide)) (fun _ _ _ _ _ => pg_name (i := 8) nd rfl (by first | exact Or.inl rfl | exact Or.inr rfl)) (fun x3 hx3 _ _ _ _ _ => tts_one (tv_d (py_all rfl F.m_all (ev_sh ((lc_0 (own := [("_law_part", 10)]) (Γ' := fun d => (wipeE _ [10]).set 10 (.sh (dt d))) (py_it (ev_var 3 rfl) ?o28) (blkOk_by (N := N__law_book_right) (by exact blk_re (by decide +kernel))) (fun d => tg_name (by decide)) (fun _ _ _ _ _ => pg_name (i := 10) nd rfl (by first | exact Or.inl rfl | exact Or.inr rfl)) (fun x4 hx4 _ _ _ _ _ => (py_in hu (ev_var 8 rfl) (ev_var 10 rfl)))).ev rfl nd))))) (fun x3 hx3 ht3 _ _ _ _ _ => (ev_var 8 rfl))) rfl nd (sv_at (Γ1 := [_, _, _, _, _, _, _, _, _, _, _]) rfl (sv_told 4 nd (Nat.le_of_ble_eq_true rfl) (ev_call ((ok_sure_literals F Bk).mono (by decide)) hr (av_cons (ev_var 2 rfl) av_nil) ⟨_, rfl, ?o29, rfl⟩) (av_cons (ev_sh (ev_call ((ok_sure_literals F Bk).mono (by decide)) hr (av_cons (ev_sh (ev_call ((ok__law_made F Bk).mono (by decide)) hr (av_cons (ev_var 0 rfl) av_nil) ⟨_, rfl, ?o30, rfl⟩)) av_nil) ⟨_, rfl, ?o31, rfl⟩)) av_nil) rfl (by simp only [List.length_cons, List.length_nil]; decide) ?o36 (tv_notd (tv_d (ev_exact ((ok__law_exact F 3).mono (by decide)) hr (ev_var 4 rfl) (ev_sh (ev_lstD (av_cons (ev_var 7 rfl) (av_cons (ev_var 7 rfl) av_nil)))) (lst_eq (cons_eq ?o33 (cons_eq ?o32 nil_eq))) (exA (.cons ?o35 (.cons ?o34 .nil)))))) (sv_at (Γ1 := [_, _, _, _, _, _, _, _, _, _, _]) rfl (sv_passq (tv_notd (tv_d (ev_exact ((ok__law_exact F 3).mono (by decide)) hr (ev_sh (ev_call ((ok_sure_literals F Bk).mono (by decide)) hr (av_cons (ev_var 2 rfl) av_nil) ⟨_, rfl, ?o37, rfl⟩)) (ev_var 7 rfl) ?o38 ?o39))) ?o40 (sv_endN ?o41)))))))))) (fun gf1 => (sv_endN ?o42)) (fun j1 hj1 => (sv_one (s_ret (ev_exact ((ok__law_exact F 3).mono (by decide)) hr (ev_sh (ev_lstD (av_cons (ev_sh (ev_call ((ok_fillings_of F Bk).mono (by decide)) hr (av_cons (ev_var 2 rfl) av_nil) ⟨_, rfl, ?o43, rfl⟩)) (av_cons (ev_sh (ev_meth0 Bk.cl ((ok_clauses F Bk)) (hr.mono (by decide)) (ev_var 2 rfl) rfl ⟨_, _, rfl, rfl, rfl⟩)) av_nil)))) (ev_sh (ev_lstD (av_cons (ev_var 3 rfl) (av_cons (ev_var 0 rfl) av_nil)))) (lst_eq (cons_eq ?o45 (cons_eq ?o44 nil_eq))) (exA (.cons ?o47 (.cons ?o46 .nil)))) ?o48)))))))))))))))⟩
  case hc => decide
  case o1 => exact ⟨hp.ln, hp.flat, by have := hp.nm; omega⟩
  case o2 => exact hp
  case o3 => exact ⟨hp.nm5, hp.ln⟩
  case o4 => exact hp
  case o5 => exact hp
  case o6 => exact hp
  case o7 => exact hp
  case o8 => exact hp
  case o9 => exact hp
  case o10 => trivial
  case o11 => trivial
  case o12 => exact dt_eq (by rw [hs]; rfl)
  case o13 => exact dt_eq (by rw [hs]; rfl)
  case o14 => exact dt_eq hs.symm
  case o15 => exact dt_eq hs.symm
  case o16 => exact exTy (by first | decide | exact Nat.le_of_ble_eq_true rfl)
  case o17 => exact exTy (by first | decide | exact Nat.le_of_ble_eq_true rfl)
  case o18 => exact exTy (by first | decide | exact Nat.le_of_ble_eq_true rfl)
  case o19 => exact exTy (by first | decide | exact Nat.le_of_ble_eq_true rfl)
  case o20 => exact Nat.lt_of_le_of_lt (allFills_len rows hp.nm) (by decide)
  case o21 => exact hp
  case o22 => trivial
  case o23 => (rw [hs]; exact some_ok _)
  case o24 => trivial
  case o25 => (have := hp.nm5.2 x2 hx2; exact sz_of (by show minus.length + x2.length ≤ _; have : minus.length = 1 := rfl; omega))
  case o26 => exact sz_of (by show (namesL rows).length + (List.map _ (namesL rows)).length ≤ _; rw [List.length_map]; have := hp.nm; omega)
  case o27 => trivial
  case o28 => trivial
  case o29 => exact ⟨hp, by rw [hs]; simpa using gt1⟩
  case o30 => exact hp
  case o31 => exact ⟨hp, by rw [hs]; simpa using gt1⟩
  case o32 => exact dt_eq (by rw [map_keep]; exact sure_eq hp)
  case o33 => exact dt_eq (by rw [map_keep]; exact sure_eq hp)
  case o34 => exact exTy (by first | decide | exact Nat.le_of_ble_eq_true rfl)
  case o35 => exact exTy (by first | decide | exact Nat.le_of_ble_eq_true rfl)
  case o36 => exact Nat.lt_of_le_of_lt (Nat.le_trans (List.length_filter_le _ _) (by rw [(srt_perm _).length_eq]; unfold bothL; rw [both_len]; have := hp.nm; omega : _ ≤ 12)) (by decide)
  case o37 => exact ⟨hp, by rw [hs]; simpa using gt1⟩
  case o38 => exact dt_eq (by rw [map_keep]; exact sure_eq hp)
  case o39 => exact exTy (by first | decide | exact Nat.le_of_ble_eq_true rfl)
  case o40 => rfl
  case o41 => exact endJ rfl
  case o42 => exact endJ rfl
  case o43 => exact hp
  case o44 => rfl
  case o45 => exact dt_eq hs.symm
  case o46 => exact exTy (by first | decide | exact Nat.le_of_ble_eq_true rfl)
  case o47 => exact exTy (by first | decide | exact Nat.le_of_ble_eq_true rfl)
  case o48 => exact ret_of rfl

end
end Lk36
end

section
set_option Elab.async false
set_option linter.all false
set_option maxRecDepth 100000
set_option maxHeartbeats 4000000
set_option autoImplicit false
/-! DnN: lists of what is known by a property; lists of any data put together; loops over purses. -/
namespace DL
open PySem PySem.Spec PyProof.Rows L2 PySem.W PySem.SeqAt
variable [Wd]
section
variable {X : Cx} {B : Bs} {Γ : List Ent} {c c0 c1 c2 : Nat} {a b e : Expr} {es : List Expr} {pos : Pos} {α : Type} [DecidableEq α] [Datum α] {P : α → Prop} {n : Nat}
abbrev AvR (X : Cx) (B : Bs) (Γ : List Ent) (c : Nat) (es : List Expr) {α : Type} [DecidableEq α] [Datum α] (P : α → Prop) (n : Nat) : Prop := Av X B Γ c es (fun l => ∃ zs : List α, (zs.length = n ∧ ∀ z ∈ zs, P z) ∧ l = zs.map dt)
theorem avr_nil : AvR X B Γ 0 [] P 0 := pa_mono av_nil fun σ H Q ⟨n, G, p, k⟩ => ⟨n, G, p, fun vs H2 G2 n2 l hn st vl hS dn => k vs H2 G2 n2 l hn st vl (by subst hS; exact ⟨[], ⟨rfl, fun z hz => (List.not_mem_nil hz).elim⟩, rfl⟩) dn⟩
theorem avr_cons (ha : Ev X B Γ c1 e (Rt P)) (hr : AvR X B Γ c2 es P n) (hs : starEach (e :: es) X.env = (false, eval e X.env) :: starEach es X.env := by rfl) : AvR X B Γ (c1 + c2) (e :: es) P (n + 1) :=
  pa_mono (av_consN ha hr hs) fun σ H Q ⟨n, G, p, k⟩ => ⟨n, G, p, fun vs H2 G2 n2 l hn st vl hS dn => k vs H2 G2 n2 l hn st vl (by
    obtain ⟨x, r, rfl, ⟨z, hz, rfl⟩, zs, ⟨h1, h2⟩, rfl⟩ := hS
    exact ⟨z :: zs, ⟨by rw [List.length_cons, h1], fun y hy => (List.mem_cons.mp hy).elim (fun q => q ▸ hz) (h2 y)⟩, rfl⟩) dn⟩
/-- [e1, .., en], each with P -/
theorem ev_lstR (h : AvR X B Γ c es P n) (hl : n ≤ sizeLine := by decide) : Ev X B Γ c (.List es pos) (Ro fun zs : List α => zs.length = n ∧ ∀ z ∈ zs, P z) := pe_mono (pe_lst h) fun σ H Q ⟨m, G, p, k⟩ => ⟨m, G, p, fun vs H1 G1 n1 l hn st vl hS dn => by
  obtain ⟨zs, hz, rfl⟩ := hS
  have ln := denAll_len dn
  rw [List.length_map] at ln
  refine ⟨by have := hz.1; omega, fun q hq => ?_⟩
  obtain ⟨s1, v1⟩ := Ste.new (o := .lst vs) vl hq trivial
  exact k _ _ _ _ _ hn (st.trans s1) v1 ⟨zs, hz, rfl⟩ ((Res.newL vl hq (.py (denAll_dq dn))).base st.h)⟩
/-- lists of any data put together -/
theorem ev_catD {ds ed : List D} (ha : Ev X B Γ c1 a (Sd (.lst ds))) (hb : Ev X B Γ c2 b (Sd (.lst ed))) (h : ds.length + ed.length ≤ sizeLine) : Ev X B Γ (c1 + c2) (.BinOp a .Add b pos) (So (.lst (ds ++ ed))) := ev_op2 op_cat ha hb fun n G H u v Q vl h1 h2 k => by
  cases h1 with
  | lst hp hv =>
    cases h2 with
    | lst hq hw =>
      have l1 := denAll_len hv
      have l2 := denAll_len hw
      refine ⟨_, _, _, _, rfl, rfl, vl.sub.lst hp, vl.sub.lst hq, by omega, fun r hr => ?_⟩
      obtain ⟨s1, v1⟩ := Ste.new (o := .lst _) vl hr trivial
      exact k _ _ _ _ s1 v1 rfl (Res.newL vl hr (.lst (denAll_app hv hw)))
end
section
variable {X : Cx} {B : Bs} {Γ : List Ent} {c0 c1 c2 : Nat} {iter : Expr} {p pos : Pos} {O : Out} {body rest : List Stmt}
/-- for purse in purses -/
theorem sv_forPu (i : Nat) (vs : List Nat) (hc : X.calm = true) {x : Str} (h : Ev X B Γ c0 iter (fun r => ∃ k : Nat, k ≤ 64 ∧ r = .ow (.lst (List.replicate k .pu)))) (hg : PG X (.Name x p) (gName i)) (h0 : Γ = setAll Γ vs (fun j => Γ.getD j .no))
    (ht : ∀ f, Sv X B ((setAll Γ vs f).set i (.sh .pu)) c1 body { O with nx := fun G => ∃ f, G = setAll Γ vs f, ct := fun G => ∃ f, G = setAll Γ vs f, bk := fun G => ∃ f, G = setAll Γ vs f })
    (k : ∀ f, Sv X B (setAll Γ vs f) c2 rest O) (hp : PassesOwn (model X.prog X.w) X.A X.env X.xe := by exact PassesOwn.never) (hs : ∀ x, foldedSetIterable iter X.env x = pure x := by intro _; rfl) : Sv X B Γ (c0 + sizeLine * c1 + c2) (.For (.Name x p) iter body [] pos :: rest) O :=
  sv_forRF (S0 := fun ds => ∃ k : Nat, k ≤ 64 ∧ ds = List.replicate k .pu) (enc := id) (Γ' := fun d f => (setAll Γ vs f).set i (.sh d)) vs hc (iv_DR (ev_weak h (fun r ⟨k, h1, h2⟩ => ⟨_, ⟨k, h1, rfl⟩, h2⟩) (Nat.le_refl _))) hg [i] (fun d f => tg_nameD List.mem_cons_self) h0
    (fun ps ⟨k, _, e⟩ d hd f => by
      subst e
      obtain rfl := List.eq_of_mem_replicate hd
      exact ht f) k hp hs
end
end DL
end

section
set_option Elab.async false
set_option linter.all false
set_option maxRecDepth 100000
set_option maxHeartbeats 4000000
set_option autoImplicit false
namespace Lk36
open PySem PySem.Spec PyProof.Rows L2 PySem.W PySem.SeqAt DL
variable [Wd]
section
variable {P : Program} {w : World} {K : PySem.W.Frag} {mg : Str → Option Value} {base : Heap}
abbrev N_law : List Str := ["_law_script", "_law_purse_here", "_law_books", "_law_rows_here", "_law_some"]
theorem sc_law : FnScope N_law ["_law_script"] (defScope s_law) := ⟨rfl, rfl, rfl, by decide +kernel, rfl, by decide +kernel, by decide +kernel⟩
abbrev ct_law (C : Addr) : Ct := fun ds S => ∃ (ns : List Int), ds = [.scr ns] ∧ (ns.length ≤ 64) ∧ S = Sd (dt true)
theorem ok_law (F : Facts K mg) {C : Addr} (Bk : BookF K mg s_Book_init s_Book_clauses s_Book_variables C) : Fn P w K mg base 11 "law" (sizeLine * (sizeLine * (sizeLine * (sizeLine * (sizeLine * 100))))) (ct_law C) := by
  refine fn_df F.F_law sc_law (fun ds S ⟨ns, h, _⟩ => by rw [h]; rfl) fun f cdv A outer s H E B ds S hr hC => ?_
  obtain ⟨ns, rfl, hp, rfl⟩ := hC
  have hu := hr.units
  have nd := sc_law.nd
  refine ⟨_, ?hc, (sv_at (Γ1 := [_, _, _, _, _]) rfl (sv_forPu 1 [1, 2, 3] rfl (ev_call ((ok__law_purses F).mono (by decide)) hr (av_cons (ev_var 0 rfl) (av_cons ev_int av_nil)) ⟨_, _, rfl, ?o1, rfl⟩) (pg_name (i := 1) nd rfl (by first | exact Or.inl rfl | exact Or.inr rfl)) rfl (fun f1 => (sv_at (Γ1 := [_, _, _, _, _]) rfl (sv_setR 2 nd (rt_imp (P' := fun zs : List Rows => zs.length = 3 ∧ ∀ z ∈ zs, BkR 5 z) (ev_shR (ev_lstR (avr_cons (ev_shR (ev_call ((ok__law_open_book F).mono (by decide)) hr (av_cons (ev_var 1 rfl) av_nil) ⟨rfl, ?o2, rfl⟩)) (avr_cons (ev_shR (ev_call ((ok__law_open_book F).mono (by decide)) hr (av_cons (ev_var 1 rfl) av_nil) ⟨rfl, ?o3, rfl⟩)) (avr_cons (ev_shR (ro_imp (P' := fun rows : Rows => BkR 5 rows) (ev_call ((ok__law_book F).mono (by decide)) hr (av_cons (ev_var 1 rfl) (av_cons ev_int av_nil)) ⟨_, rfl, (by decide), rfl⟩) (fun z h => h.up (by decide)))) avr_nil))))) ?o4) (fun z_books h_books => (sv_at (Γ1 := [_, _, _, _, _]) rfl (sv_forF [3] rfl (py_it (py_add (ev_var 2 rfl) (py_sl (ev_var 2 rfl) pv_no (pv_so ev_int) ?o5) ?o6) ?o7) (pg_name (i := 3) nd rfl (by first | exact Or.inl rfl | exact Or.inr rfl)) [3] (Γ' := fun d f => (setAll _ [3] f).set 3 (.sh (dt d))) (fun d f => tg_name (by decide)) rfl (fun x2 hx2 f2 => (sv_at (Γ1 := [_, _, _, _, _]) rfl (sv_passq (tv_notd (tv_d (ev_call ((ok__law_book_right F Bk).mono (by decide)) hr (av_cons (ev_var 3 rfl) av_nil) ⟨_, rfl, ?o8, rfl⟩))) ?o9 (sv_endF rfl)))) (fun f2 => (sv_endF rfl)))))))) (fun f1 => (sv_at (Γ1 := [_, _, _, _, _]) rfl (sv_setd 4 nd (ev_sh (ev_lstD (av_cons (ev_sh (ev_call ((ok_fillings_of F Bk).mono (by decide)) hr (av_cons (ev_sh (ev_make (ok_init F Bk) (hr.mono (by decide)) Bk.mgC (av_cons (ev_sh ev_nilL) av_nil) ⟨_, rfl, ?o18, rfl⟩)) av_nil) ⟨_, rfl, ?o19, rfl⟩)) (av_cons (ev_call ((ok_many_fillings F Bk).mono (by decide)) hr (av_cons (ev_sh (ev_make (ok_init F Bk) (hr.mono (by decide)) Bk.mgC (av_cons (ev_sh ev_nilL) av_nil) ⟨_, rfl, ?o16, rfl⟩)) av_nil) ⟨_, rfl, ?o17, rfl⟩) (av_cons (ev_call ((ok_any_filling F Bk).mono (by decide)) hr (av_cons (ev_sh (ev_make (ok_init F Bk) (hr.mono (by decide)) Bk.mgC (av_cons (ev_sh (ev_lstT (avt_cons (ev_nilT (α := Str)) avt_nil))) av_nil) ⟨_, rfl, ?o14, rfl⟩)) av_nil) ⟨_, rfl, ?o15, rfl⟩) (av_cons (ev_sh (ev_call ((ok_sure_literals F Bk).mono (by decide)) hr (av_cons (ev_sh (ev_make (ok_init F Bk) (hr.mono (by decide)) Bk.mgC (av_cons (ev_sh ev_nilL) av_nil) ⟨_, rfl, ?o12, rfl⟩)) av_nil) ⟨_, rfl, ?o13, rfl⟩)) (av_cons (ev_call ((ok_many_fillings F Bk).mono (by decide)) hr (av_cons (ev_sh (ev_make (ok_init F Bk) (hr.mono (by decide)) Bk.mgC (av_cons (ev_sh (ev_lstT (avt_cons (ev_nilT (α := Str)) (avt_cons (ev_tupT (avt_cons ev_str avt_nil)) avt_nil)))) av_nil) ⟨_, rfl, ?o10, rfl⟩)) av_nil) ⟨_, rfl, ?o11, rfl⟩) av_nil))))))) (sv_one (s_ret (ev_exact ((ok__law_exact F 3).mono (by decide)) hr (ev_sh (ev_catD (ev_var 4 rfl) (ev_sh (ev_lstD (av_cons (ev_call ((ok_any_filling F Bk).mono (by decide)) hr (av_cons (ev_sh (ev_make (ok_init F Bk) (hr.mono (by decide)) Bk.mgC (av_cons (ev_sh ev_nilL) av_nil) ⟨_, rfl, ?o20, rfl⟩)) av_nil) ⟨_, rfl, ?o21, rfl⟩) av_nil))) ?o22)) (ev_sh (ev_lstD (av_cons (ev_sh (ev_lstT (avt_cons (ev_nilT (α := Str)) avt_nil))) (av_cons ev_int (av_cons ev_non (av_cons (ev_sh (ev_nilL (α := Str))) (av_cons ev_int (av_cons (ev_nilT (α := Str)) av_nil)))))))) (lst_eq (cons_eq ?o28 (cons_eq ?o27 (cons_eq ?o26 (cons_eq ?o25 (cons_eq ?o24 (cons_eq ?o23 nil_eq))))))) (exA (.cons ?o34 (.cons ?o33 (.cons ?o32 (.cons ?o31 (.cons ?o30 (.cons ?o29 .nil)))))))) ?o35)))))))⟩
  case hc => decide
  case o1 => exact ⟨hp, by decide, by decide⟩
  case o2 => trivial
  case o3 => trivial
  case o4 => exact fun z h => h
  case o5 => trivial
  case o6 => exact sz_of (by show z_books.length + (cut z_books none (some 1)).length ≤ _; have := (sub_cut z_books none (some 1)).length_le; have := h_books.1; omega)
  case o7 => trivial
  case o8 => exact (h_books.2 _ (mem_again hx2)).bk (by decide)
  case o9 => rfl
  case o10 => first | exact nil_pre | exact one_pre | exact two_pre word_a
  case o11 => first | exact bk_pre nil_pre | exact bk_pre (two_pre word_a)
  case o12 => first | exact nil_pre | exact one_pre | exact two_pre word_a
  case o13 => exact ⟨bk_pre nil_pre, by rw [sset_nil, fills_nil]; simp⟩
  case o14 => first | exact nil_pre | exact one_pre | exact two_pre word_a
  case o15 => first | exact bk_pre nil_pre | exact bk_pre one_pre
  case o16 => first | exact nil_pre | exact one_pre | exact two_pre word_a
  case o17 => first | exact bk_pre nil_pre | exact bk_pre (two_pre word_a)
  case o18 => first | exact nil_pre | exact one_pre | exact two_pre word_a
  case o19 => exact bk_pre nil_pre
  case o20 => first | exact nil_pre | exact one_pre | exact two_pre word_a
  case o21 => first | exact bk_pre nil_pre | exact bk_pre one_pre
  case o22 => exact sz_of (by show (6 : Nat) ≤ _; decide)
  case o23 => (rw [sset_nil, fills_nil]; rfl)
  case o24 => exact dt_eq (by rw [fills_empty (mem_sset.mpr List.mem_cons_self)]; rfl)
  case o25 => exact dt_eq (by rw [sset_nil, sure_nil])
  case o26 => (rw [fills_empty (mem_sset.mpr List.mem_cons_self)]; rfl)
  case o27 => exact dt_eq (by rw [sset_nil, fills_nil]; rfl)
  case o28 => exact dt_eq (by rw [sset_nil, fills_nil])
  case o29 => exact exTy (by first | decide | exact Nat.le_of_ble_eq_true rfl)
  case o30 => exact exTy (by first | decide | exact Nat.le_of_ble_eq_true rfl)
  case o31 => exact exTy (by first | decide | exact Nat.le_of_ble_eq_true rfl)
  case o32 => exact exTy (by first | decide | exact Nat.le_of_ble_eq_true rfl)
  case o33 => exact exTy (by first | decide | exact Nat.le_of_ble_eq_true rfl)
  case o34 => exact exTy (by first | decide | exact Nat.le_of_ble_eq_true rfl)
  case o35 => exact ret_of rfl

end
end Lk36
end

section
set_option Elab.async false
set_option linter.all false
set_option maxRecDepth 100000
open PySem PySem.Spec PyProof.Rows L2 PySem.W PySem.SeqAt DL
/-- no table is asked -/
noncomputable def Lk36.wd (w : World) : Wd where
  w := w
  K := Lk36.hd.heap_39 w.params
  good := fun _ _ _ => False
  cap := fun t ks _ h => by
    cases ks with
    | nil => exact Nat.lt_of_lt_of_le (by decide : 0 < 1) (by decide)
    | cons k r => obtain ⟨p, hp⟩ := h k List.mem_cons_self; exact hp.elim
  shal := fun _ _ _ h => h.elim
set_option maxRecDepth 100000 in
set_option maxHeartbeats 0 in
theorem PySem.Challenge.cw_lookdepths_k36_whole_fillings_holds : PySem.Challenge.rw_lookdepths_k36_whole_fillings.Holds := by
  refine Lk36.hd (L2.walk_of (l := PySem.Challenge.rw_lookdepths_k36_whole_fillings) (n := 63) (k := 11) (x := "_law_script") (CX := fun _ => CX0) (sp := fun w => @spD (Lk36.wd w) (Lk36.hd.heap_39 w.params) (sizeLine * (sizeLine * (sizeLine * (sizeLine * (sizeLine * 100))))) (Lk36.ct_law 0)) rfl (by decide) rfl ⟨rfl, by decide, by decide⟩ (fun w h Y => PySem.W.kIn_of Y) ?F ?S (fun _ _ _ _ _ h => h))
  case F =>
    intro w mg fa h KX G hmg
    have F := Lk36.facts w mg h KX G
    obtain ⟨C, Bk⟩ := F.book
    letI : Wd := Lk36.wd w
    exact law_fn F.F_law rfl (fun _ _ _ _ _ _ us hl => match us, hl with | [_], _ => rfl) (fun base => Lk36.ok_law F Bk) hmg
  case S =>
    intro w H a ns hl hO hS
    letI : Wd := Lk36.wd w
    exact law_sp (lim_of (k := 200) (by decide) (by decide)) hO hS ⟨ns, rfl, by omega, rfl⟩
end
