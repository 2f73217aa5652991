import PyProof.Rows.All
import Wide.All
import OpenK.AllK
import Wide.FinOn
import HandS.ForMost
import HandS.Zip
import HandS.FStr
import HandS.IsInst
import HandS.TupAny
import HandS.Defaults
import HandS.MakeKwOnly
import HandS.Property
import HandS.Sort
import HandS.DictTup
import HandS.DictComp
import HandS.OwnEq
import HandS.Flow
import HandS.Star
import HandS.Walk
import HandS.Exc
import HandS.ClsMeth
import KE.GoesMore
import KE.GoesEnum
import HandS.Style
import HandS.Wide
import KE.SortUse
import KE.DataEq
import KE.DataCmp
import HandS.Deep
import HandS.RaiseMore
import HandS.TupLen
import KE.KDictPairs
import HandS.Small
import HandS.HeadHook2
import HandS.Ends
import HandS.HeadHook3
import HandS.Head0
import HandS.Head1
import HandS.Head2
import HandS.HeadEnd
import PySem.Challenge.RW_ordersopen_k13_steps_listed
set_option Elab.async false
set_option linter.all false
set_option maxRecDepth 100000
set_option maxHeartbeats 4000000
namespace PL
open PySem L2

/-! ### heaps that keep all but what is owned -/
def Kp (O : Addr → Prop) (H H' : Hp) : Prop :=
  (∀ a o, H a = some o → (Mut (some o) → ¬ O a) → H' a = some o) ∧ ∀ a o, H a = some o → ∃ o', H' a = some o'
section
variable {O O' : Addr → Prop} {H H1 H2 H' : Hp} {a p : Addr} {o o' : HO}
theorem Kp.refl (O : Addr → Prop) (H : Hp) : Kp O H H := ⟨fun _ _ h _ => h, fun _ o h => ⟨o, h⟩⟩
theorem Kp.of_same (e : Same H H') : Kp O H H' := ⟨fun b u h _ => e b u h, fun b u h => ⟨u, e b u h⟩⟩
theorem same_new (h : H p = none) : Same H (upd H p o) := fun b u q => by rw [upd_ne (ne_of_none q h)]; exact q
theorem Kp.put (h : H a = some o) (m : Mut (some o)) (oa : O a) : Kp O H (upd H a o') := by
  refine ⟨fun b u q n => ?_, fun b u q => ?_⟩
  · by_cases e : b = a
    · subst e
      rw [h] at q
      cases q
      exact absurd oa (n m)
    · rw [upd_ne e]; exact q
  · by_cases e : b = a
    · subst e; exact ⟨_, upd_same⟩
    · exact ⟨u, by rw [upd_ne e]; exact q⟩
theorem Kp.free (k : Kp O H H') (h : H' p = none) : H p = none := by
  cases q : H p with
  | none => rfl
  | some u =>
    obtain ⟨u', e⟩ := k.2 p u q
    rw [h] at e; cases e
end

/-! ### data -/
inductive Dat where
  | none
  | bool (b : Bool)
  | int (i : Int)
  | str (s : Str)
  | list (xs : List Dat)
  | tuple (xs : List Dat)
  | ins (C : Str) (fs : List (Str × Dat))
  | dict (kvs : List (Dat × Dat))
  | kd (kvs : List (Dat × Dat))
  | kt (xs : List Dat)
  | own (k : Nat)
inductive Cell where
  | lst (xs : List Dat)
  | ins (C : Str) (fs : List (Str × Dat))
  | dict (kvs : List (Dat × Dat))
abbrev Sto := List Cell
abbrev Ro := List (Option Dat)
mutual
def deq : Dat → Dat → Bool
  | .none, .none => true
  | .bool a, .bool b => a == b
  | .int i, .int j => i == j
  | .str x, .str y => decide (x = y)
  | .list xs, .list ys => deqs xs ys
  | .tuple xs, .tuple ys => deqs xs ys
  | .ins C fs, .ins D gs => decide (C = D) && deqf fs gs
  | .dict xs, .dict ys => deqk xs ys
  | .kd xs, .kd ys => deqk xs ys
  | .kt xs, .kt ys => deqs xs ys
  | .own i, .own j => i == j
  | _, _ => false
def deqs : List Dat → List Dat → Bool
  | [], [] => true
  | x :: xs, y :: ys => deq x y && deqs xs ys
  | _, _ => false
def deqf : List (Str × Dat) → List (Str × Dat) → Bool
  | [], [] => true
  | (n, x) :: xs, (m, y) :: ys => decide (n = m) && deq x y && deqf xs ys
  | _, _ => false
def deqk : List (Dat × Dat) → List (Dat × Dat) → Bool
  | [], [] => true
  | (n, x) :: xs, (m, y) :: ys => deq n m && deq x y && deqk xs ys
  | _, _ => false
end
mutual
theorem deq_refl : ∀ a : Dat, deq a a = true
  | .none => by simp [deq]
  | .bool a => by simp [deq]
  | .int i => by simp [deq]
  | .str x => by simp [deq]
  | .list xs => by rw [deq]; exact deqs_refl xs
  | .tuple xs => by rw [deq]; exact deqs_refl xs
  | .ins C fs => by rw [deq]; simp [deqf_refl fs]
  | .dict kvs => by rw [deq]; exact deqk_refl kvs
  | .kd kvs => by rw [deq]; exact deqk_refl kvs
  | .kt xs => by rw [deq]; exact deqs_refl xs
  | .own k => by simp [deq]
theorem deqs_refl : ∀ a : List Dat, deqs a a = true
  | [] => by simp [deqs]
  | x :: xs => by simp [deqs, deq_refl x, deqs_refl xs]
theorem deqf_refl : ∀ a : List (Str × Dat), deqf a a = true
  | [] => by simp [deqf]
  | (n, x) :: xs => by simp [deqf, deq_refl x, deqf_refl xs]
theorem deqk_refl : ∀ a : List (Dat × Dat), deqk a a = true
  | [] => by simp [deqk]
  | (n, x) :: xs => by simp [deqk, deq_refl n, deq_refl x, deqk_refl xs]
end
mutual
theorem deq_eq : ∀ (a b : Dat), deq a b = true → a = b
  | .none, b, h => by cases b <;> simp [deq] at h; rfl
  | .bool x, b, h => by cases b <;> simp [deq] at h; rw [h]
  | .int x, b, h => by cases b <;> simp [deq] at h; rw [h]
  | .str x, b, h => by cases b <;> simp [deq] at h; rw [h]
  | .list xs, b, h => by cases b <;> simp only [deq, Bool.false_eq_true] at h; rw [deqs_eq _ _ h]
  | .tuple xs, b, h => by cases b <;> simp only [deq, Bool.false_eq_true] at h; rw [deqs_eq _ _ h]
  | .ins C fs, b, h => by
    cases b <;> simp only [deq, Bool.false_eq_true, Bool.and_eq_true, decide_eq_true_eq] at h
    rw [h.1, deqf_eq _ _ h.2]
  | .dict kvs, b, h => by cases b <;> simp only [deq, Bool.false_eq_true] at h; rw [deqk_eq _ _ h]
  | .kd kvs, b, h => by cases b <;> simp only [deq, Bool.false_eq_true] at h; rw [deqk_eq _ _ h]
  | .kt xs, b, h => by cases b <;> simp only [deq, Bool.false_eq_true] at h; rw [deqs_eq _ _ h]
  | .own k, b, h => by cases b <;> simp [deq] at h; rw [h]
theorem deqs_eq : ∀ (a b : List Dat), deqs a b = true → a = b
  | [], b, h => by cases b <;> simp [deqs] at h; rfl
  | x :: xs, b, h => by
    cases b <;> simp only [deqs, Bool.false_eq_true, Bool.and_eq_true] at h
    rw [deq_eq _ _ h.1, deqs_eq _ _ h.2]
theorem deqf_eq : ∀ (a b : List (Str × Dat)), deqf a b = true → a = b
  | [], b, h => by cases b <;> simp [deqf] at h; rfl
  | (n, x) :: xs, b, h => by
    cases b with
    | nil => simp [deqf] at h
    | cons q ys =>
      obtain ⟨m, y⟩ := q
      simp only [deqf, Bool.and_eq_true, decide_eq_true_eq] at h
      rw [h.1.1, deq_eq _ _ h.1.2, deqf_eq _ _ h.2]
theorem deqk_eq : ∀ (a b : List (Dat × Dat)), deqk a b = true → a = b
  | [], b, h => by cases b <;> simp [deqk] at h; rfl
  | (n, x) :: xs, b, h => by
    cases b with
    | nil => simp [deqk] at h
    | cons q ys =>
      obtain ⟨m, y⟩ := q
      simp only [deqk, Bool.and_eq_true] at h
      rw [deq_eq _ _ h.1.1, deq_eq _ _ h.1.2, deqk_eq _ _ h.2]
end
instance : DecidableEq Dat := fun a b => if h : deq a b = true then .isTrue (deq_eq a b h) else .isFalse fun e => h (by rw [e]; exact deq_refl b)
def flatD : Dat → Bool
  | .none => true
  | .bool _ => true
  | .int _ => true
  | .str _ => true
  | _ => false
/-! dicts -/
def dget (kvs : List (Dat × Dat)) (k : Dat) : Option Dat := match kvs with
  | [] => Option.none
  | (a, b) :: r => if a = k then some b else dget r k
def dput (kvs : List (Dat × Dat)) (k v : Dat) : List (Dat × Dat) :=
  if (kvs.any fun kv => decide (kv.1 = k)) = true then kvs.map (fun kv => if kv.1 = k then (kv.1, v) else kv) else kvs ++ [(k, v)]
/-- an exception -/
structure Exn where
  C : Str
  fs : List (Str × Dat)
/-- a class of the module whose instances are followed -/
structure ClsF (K : PySem.W.Frag) (A : Addr) : Prop where
  cl : Cls K A
  ha : PySem.W.findIn K (.ref A) "__class__" = some (some (.builtin "object.__class__"))
  hn : PySem.W.specialIn K (.builtin "object.__class__") "__get__" = some (some (.builtin "getset_descriptor.__get__"))
  htk : PySem.W.takesIn K (.builtin "object.__class__") = some true
  hm : PySem.W.mroIn K A (.type "object") = some true
/-- what is fixed -/
structure Gx where
  P : Program
  K : PySem.W.Frag
  w : World
  mg : Str → Option Value
/-- what is owned: O, and among it the cells -/
structure Cw where
  O : Addr → Prop
  as : List Addr
  sub : ∀ a ∈ as, O a
/-- an instance's class and the names of its attributes -/
def InsK (g : Gx) (C : Str) (A : Addr) (fs : List (Str × V)) : Prop := g.mg C = some (.ref A) ∧ ClsF g.K A ∧ ∀ p ∈ fs, NoAttr g.K A p.1
def kD : Key → Dat
  | .inl i => .int i
  | .inr x => .str x
def BaseR : V → Dat → Prop
  | .int i, .int j => i = j
  | .str x, .str y => x = y
  | _, _ => False
/-- a dict of the module, its keys texts, its values ints and texts -/
def KdOk (g : Gx) (a : Addr) (kvs : List (Dat × Dat)) : Prop := ∃ es n, KDict g.K g.w a es n ∧ (∀ p ∈ kvs, ∃ z, p.1 = .str z) ∧ ∀ z : Str,
  (dget kvs (.str z) = Option.none → PySem.W.nsIn g.K a z = some Option.none) ∧ ∀ d, dget kvs (.str z) = some d → ∃ u v, PySem.W.nsIn g.K a z = some (some u) ∧ RelV v u ∧ BaseR v d
/-- a list as data -/
def SqM (g : Gx) (c : Cw) (H : Hp) (a : Addr) (xs : List V) : Prop := (H a = some (.lst xs) ∧ ¬ c.O a) ∨ (∃ o, H a = some (.frz o (.lst xs))) ∨
  ∃ (o : Obj) (its : Array Value) (n : Nat), g.K.lookup a = some o ∧ o.cls = .type "list" ∧ o.dict = none ∧ o.data = .seq its n ∧ its.size ≤ sizeLine ∧ Vals xs its.toList
def SqD (c : Cw) (H : Hp) (a : Addr) (o : HO) : Prop := (H a = some o ∧ ¬ c.O a) ∨ ∃ ob, H a = some (.frz ob o)
/-- a tuple of the module -/
def KTp (K : PySem.W.Frag) (a : Addr) (xs : List V) : Prop :=
  ∃ (o : Obj) (its : Array Value) (n : Nat), K.lookup a = some o ∧ o.cls = .type "tuple" ∧ o.data = .seq its n ∧ its.size ≤ sizeLine ∧ Vals xs its.toList
mutual
inductive Rp (g : Gx) (c : Cw) (H : Hp) : V → Dat → Prop
  | non : Rp g c H .non .none
  | bl (b : Bool) : Rp g c H (.bl b) (.bool b)
  | int (i : Int) : Rp g c H (.int i) (.int i)
  | str (x : Str) : Rp g c H (.str x) (.str x)
  | lst {a : Addr} {xs : List V} {ds : List Dat} : SqM g c H a xs → RpAll g c H xs ds → Rp g c H (.ref a) (.list ds)
  | tup {a : Addr} {xs : List V} {ds : List Dat} : H a = some (.tup xs) → RpAll g c H xs ds → Rp g c H (.ref a) (.tuple ds)
  | kt {a : Addr} {xs : List V} {ds : List Dat} : KTp g.K a xs → ds.all flatD = true → RpAll g c H xs ds → Rp g c H (.ref a) (.kt ds)
  | ins {a A dx : Addr} {C : Str} {fs : List (Str × V)} {gs : List (Str × Dat)} : H a = some (.ins A dx fs) → ¬ c.O a → InsK g C A fs → RpF g c H fs gs → Rp g c H (.ref a) (.ins C gs)
  | dK {a : Addr} {fs : List (Key × V)} {gs : List (Dat × Dat)} : SqD c H a (.dK fs) → RpK g c H fs gs → Rp g c H (.ref a) (.dict gs)
  | dT {a : Addr} {fs : List (List Key × V)} {gs : List (Dat × Dat)} : SqD c H a (.dT fs) → RpT g c H fs gs → Rp g c H (.ref a) (.dict gs)
  | kd {a : Addr} {gs : List (Dat × Dat)} : KdOk g a gs → Rp g c H (.ref a) (.kd gs)
  | own {a : Addr} {k : Nat} : c.as[k]? = some a → Rp g c H (.ref a) (.own k)
inductive RpAll (g : Gx) (c : Cw) (H : Hp) : List V → List Dat → Prop
  | nil : RpAll g c H [] []
  | cons {v : V} {vs : List V} {d : Dat} {ds : List Dat} : Rp g c H v d → RpAll g c H vs ds → RpAll g c H (v :: vs) (d :: ds)
inductive RpF (g : Gx) (c : Cw) (H : Hp) : List (Str × V) → List (Str × Dat) → Prop
  | nil : RpF g c H [] []
  | cons {n : Str} {v : V} {d : Dat} {fs : List (Str × V)} {gs : List (Str × Dat)} : Rp g c H v d → RpF g c H fs gs → RpF g c H ((n, v) :: fs) ((n, d) :: gs)
inductive RpK (g : Gx) (c : Cw) (H : Hp) : List (Key × V) → List (Dat × Dat) → Prop
  | nil : RpK g c H [] []
  | cons {n : Key} {v : V} {d : Dat} {fs : List (Key × V)} {gs : List (Dat × Dat)} : Rp g c H v d → RpK g c H fs gs → RpK g c H ((n, v) :: fs) ((kD n, d) :: gs)
inductive RpT (g : Gx) (c : Cw) (H : Hp) : List (List Key × V) → List (Dat × Dat) → Prop
  | one {n : List Key} {v : V} {d : Dat} : Rp g c H v d → RpT g c H [(n, v)] [(.tuple (n.map kD), d)]
  | cons {n : List Key} {v : V} {d : Dat} {fs : List (List Key × V)} {gs : List (Dat × Dat)} : Rp g c H v d → RpT g c H fs gs → RpT g c H ((n, v) :: fs) ((.tuple (n.map kD), d) :: gs)
end
/-- what carries data over -/
structure Tr (g : Gx) (c : Cw) (H : Hp) (c' : Cw) (H' : Hp) : Prop where
  l : ∀ a xs, SqM g c H a xs → SqM g c' H' a xs
  t : ∀ a xs, H a = some (.tup xs) → H' a = some (.tup xs)
  i : ∀ a A dx fs, H a = some (.ins A dx fs) → ¬ c.O a → H' a = some (.ins A dx fs) ∧ ¬ c'.O a
  d : ∀ a o, SqD c H a o → Mut (some o) → SqD c' H' a o
  w : ∀ (k : Nat) a, c.as[k]? = some a → c'.as[k]? = some a
section
variable {g : Gx} {c c' : Cw} {H H' : Hp}
mutual
theorem Rp.tr (x : Tr g c H c' H') : ∀ {v : V} {d : Dat}, Rp g c H v d → Rp g c' H' v d
  | _, _, .non => .non
  | _, _, .bl b => .bl b
  | _, _, .int i => .int i
  | _, _, .str x => .str x
  | _, _, .lst s r => .lst (x.l _ _ s) (RpAll.tr x r)
  | _, _, .tup s r => .tup (x.t _ _ s) (RpAll.tr x r)
  | _, _, .kt s f r => .kt s f (RpAll.tr x r)
  | _, _, .ins h n m r => .ins (x.i _ _ _ _ h n).1 (x.i _ _ _ _ h n).2 m (RpF.tr x r)
  | _, _, .dK s r => .dK (x.d _ _ s trivial) (RpK.tr x r)
  | _, _, .dT s r => .dT (x.d _ _ s trivial) (RpT.tr x r)
  | _, _, .kd h => .kd h
  | _, _, .own h => .own (x.w _ _ h)
theorem RpAll.tr (x : Tr g c H c' H') : ∀ {vs : List V} {ds : List Dat}, RpAll g c H vs ds → RpAll g c' H' vs ds
  | _, _, .nil => .nil
  | _, _, .cons r t => .cons (Rp.tr x r) (RpAll.tr x t)
theorem RpF.tr (x : Tr g c H c' H') : ∀ {vs : List (Str × V)} {ds : List (Str × Dat)}, RpF g c H vs ds → RpF g c' H' vs ds
  | _, _, .nil => .nil
  | _, _, .cons r t => .cons (Rp.tr x r) (RpF.tr x t)
theorem RpK.tr (x : Tr g c H c' H') : ∀ {vs : List (Key × V)} {ds : List (Dat × Dat)}, RpK g c H vs ds → RpK g c' H' vs ds
  | _, _, .nil => .nil
  | _, _, .cons r t => .cons (Rp.tr x r) (RpK.tr x t)
theorem RpT.tr (x : Tr g c H c' H') : ∀ {vs : List (List Key × V)} {ds : List (Dat × Dat)}, RpT g c H vs ds → RpT g c' H' vs ds
  | _, _, .one r => .one (Rp.tr x r)
  | _, _, .cons r t => .cons (Rp.tr x r) (RpT.tr x t)
end
end
/-- what may be locked for ever, if it is data -/
def Lk : HO → Prop
  | .lst _ => True
  | .dK _ => True
  | .dT _ => True
  | _ => False
/-- the cells may change, more may be owned that is new; data may be locked -/
structure Gr (c : Cw) (H : Hp) (c' : Cw) (H' : Hp) : Prop where
  ex : ∃ new, c'.as = c.as ++ new ∧ ∀ a ∈ new, H a = none
  up : ∀ b, c.O b → c'.O b
  dn : ∀ b, c'.O b → c.O b ∨ H b = none
  kp : ∀ a o, H a = some o → (Mut (some o) → a ∉ c.as) → H' a = some o ∨ (Lk o ∧ ¬ c.O a ∧ ∃ od, H' a = some (.frz od o))
  ki : ∀ a o, H a = some o → ∃ o', H' a = some o'
section
variable {g : Gx} {c c' c1 c2 : Cw} {H H' H1 H2 : Hp}
theorem Gr.of_same (k : Same H H') : Gr c H c H' := ⟨⟨[], (List.append_nil _).symm, fun _ h => nomatch h⟩, fun _ h => h, fun _ h => .inl h, fun a o h _ => .inl (k a o h), fun a o h => ⟨o, k a o h⟩⟩
theorem Gr.refl : Gr c H c H := .of_same (Same.refl H)
theorem Gr.put {a : Addr} {o o' : HO} (h : H a = some o) (m : Mut (some o)) (ha : a ∈ c.as) : Gr c H c (upd H a o') :=
  ⟨⟨[], (List.append_nil _).symm, fun _ h => nomatch h⟩, fun _ h => h, fun _ h => .inl h, fun b u q n => .inl ((Kp.put (O := fun b => b ∈ c.as) h m ha).1 b u q n), fun b u q => (Kp.put (O := fun b => b ∈ c.as) h m ha).2 b u q⟩
theorem Gr.keep (x : Gr c H c' H') {a : Addr} {o : HO} (h : H a = some o) (m : Mut (some o) → ¬ c.O a) (n : ¬ Lk o) : H' a = some o := by
  rcases x.kp a o h fun q z => m q (c.sub a z) with q | ⟨q, _⟩
  · exact q
  · exact absurd q n
theorem Gr.keepL (x : Gr c H c' H') {a : Addr} {o : HO} (h : H a = some o) (m : ¬ c.O a) : Rd H' a o := by
  rcases x.kp a o h fun _ z => m (c.sub a z) with q | ⟨_, _, q⟩
  · exact .inl q
  · exact .inr q
theorem Gr.keepA (x : Gr c H c' H') {a : Addr} {o : HO} (h : H a = some o) (m : a ∉ c.as) (n : c.O a) : H' a = some o := by
  rcases x.kp a o h fun _ => m with q | ⟨_, q, _⟩
  · exact q
  · exact absurd n q
theorem Gr.notA (x : Gr c H c' H') {a : Addr} {o : HO} (h : H a = some o) (m : a ∉ c.as) : a ∉ c'.as := fun z => by
  obtain ⟨new, e, f⟩ := x.ex
  rw [e] at z
  rcases List.mem_append.mp z with z | z
  · exact m z
  · rw [f a z] at h; cases h
theorem Gr.not (x : Gr c H c' H') {a : Addr} {o : HO} (h : H a = some o) (n : ¬ c.O a) : ¬ c'.O a := fun z => by
  rcases x.dn a z with z | z
  · exact n z
  · rw [z] at h; cases h
theorem Gr.free (x : Gr c H c' H') {p : Addr} (h : H' p = none) : H p = none := by
  cases q : H p with
  | none => rfl
  | some u =>
    obtain ⟨u', e⟩ := x.ki p u q
    rw [h] at e; cases e
theorem Gr.trans (x : Gr c H c1 H1) (y : Gr c1 H1 c2 H2) : Gr c H c2 H2 := by
  obtain ⟨n1, e1, f1⟩ := x.ex
  obtain ⟨n2, e2, f2⟩ := y.ex
  refine ⟨⟨n1 ++ n2, by rw [e2, e1, List.append_assoc], fun a ha => ?_⟩, fun b h => y.up b (x.up b h), fun b h => ?_, fun a o h m => ?_, fun a o h => ?_⟩
  · rcases List.mem_append.mp ha with h | h
    · exact f1 a h
    · exact x.free (f2 a h)
  · rcases y.dn b h with h | h
    · exact x.dn b h
    · exact .inr (x.free h)
  · rcases x.kp a o h m with q | ⟨l, no, od, q⟩
    · have nm : Mut (some o) → a ∉ c1.as := fun w z => by
        rw [e1] at z
        rcases List.mem_append.mp z with z | z
        · exact m w z
        · rw [f1 a z] at h; cases h
      rcases y.kp a o q nm with q2 | ⟨l, no, q2⟩
      · exact .inl q2
      · exact .inr ⟨l, fun z => no (x.up a z), q2⟩
    · exact .inr ⟨l, no, od, y.keep q (fun w => w.elim) fun w => w⟩
  · obtain ⟨o1', h1⟩ := x.ki a o h
    exact y.ki a o1' h1
theorem Gr.s (x : Gr c H c1 H1) (k : Same H1 H2) : Gr c H c1 H2 := x.trans (.of_same k)
theorem SqM.gr {a : Addr} {xs : List V} (x : Gr c H c' H') (h : SqM g c H a xs) : SqM g c' H' a xs := by
  rcases h with ⟨h, n⟩ | ⟨o, h⟩ | h
  · rcases x.keepL h n with q | q
    · exact .inl ⟨q, x.not h n⟩
    · exact .inr (.inl q)
  · exact .inr (.inl ⟨o, x.keep h (fun m => m.elim) fun w => w⟩)
  · exact .inr (.inr h)
theorem sqT_gr {K : PySem.W.Frag} {a : Addr} {xs : List V} (x : Gr c H c' H') (h : SqT K H a xs) : SqT K H' a xs := by
  rcases h with (h | ⟨o, h⟩) | h
  · exact .inl (.inl (x.keep h (fun m => m.elim) fun w => w))
  · exact .inl (.inr ⟨o, x.keep h (fun m => m.elim) fun w => w⟩)
  · exact .inr h
theorem Gr.at (x : Gr c H c' H') {k : Nat} {a : Addr} (h : c.as[k]? = some a) : c'.as[k]? = some a := by
  obtain ⟨new, e, _⟩ := x.ex
  rw [e, List.getElem?_append_left (List.getElem?_eq_some_iff.mp h).1]
  exact h
theorem Gr.tr (x : Gr c H c' H') : Tr g c H c' H' := by
  refine ⟨fun a xs h => h.gr x, fun a xs h => x.keep h (fun m => m.elim) fun w => w, fun a A dx fs h n => ⟨x.keep h (fun _ => n) fun w => w, x.not h n⟩, fun a o h _ => ?_, fun k a h => x.at h⟩
  rcases h with ⟨h, n⟩ | ⟨ob, h⟩
  · rcases x.keepL h n with q | q
    · exact .inl ⟨q, x.not h n⟩
    · exact .inr q
  · exact .inr ⟨ob, x.keep h (fun m => m.elim) fun w => w⟩
/-- data is locked for ever -/
theorem Gr.lock {a : Addr} {o : HO} {od : Obj} (h : H a = some o) (l : Lk o) (n : ¬ c.O a) : Gr c H c (upd H a (.frz od o)) := by
  refine ⟨⟨[], (List.append_nil _).symm, fun _ h => nomatch h⟩, fun _ h => h, fun _ h => .inl h, fun b u q m => ?_, fun b u q => ?_⟩
  · by_cases e : b = a
    · subst e
      rw [h] at q
      cases q
      exact .inr ⟨l, n, od, upd_same⟩
    · rw [upd_ne e]; exact .inl q
  · by_cases e : b = a
    · subst e; exact ⟨_, upd_same⟩
    · exact ⟨u, by rw [upd_ne e]; exact q⟩
/-- what is owned changes -/
theorem Tr.kp (k : Kp c.O H H') : Tr g c H c H' := by
  refine ⟨fun a xs h => ?_, fun a xs h => k.1 a _ h fun m => m.elim, fun a A dx fs h n => ⟨k.1 a _ h fun _ => n, n⟩, fun a o h _ => ?_, fun _ _ h => h⟩
  · rcases h with ⟨h, n⟩ | ⟨o, h⟩ | h
    · exact .inl ⟨k.1 a _ h fun _ => n, n⟩
    · exact .inr (.inl ⟨o, k.1 a _ h fun m => m.elim⟩)
    · exact .inr (.inr h)
  · rcases h with ⟨h, n⟩ | ⟨ob, h⟩
    · exact .inl ⟨k.1 a _ h fun _ => n, n⟩
    · exact .inr ⟨ob, k.1 a _ h fun m => m.elim⟩
/-- less is owned -/
theorem Tr.less (i : ∀ b, c'.O b → c.O b) (e : c'.as = c.as) : Tr g c H c' H := by
  refine ⟨fun a xs h => ?_, fun a xs h => h, fun a A dx fs h n => ⟨h, fun z => n (i a z)⟩, fun a o h _ => ?_, fun _ _ h => by rw [e]; exact h⟩
  · rcases h with ⟨h, n⟩ | h
    · exact .inl ⟨h, fun z => n (i a z)⟩
    · exact .inr h
  · rcases h with ⟨h, n⟩ | h
    · exact .inl ⟨h, fun z => n (i a z)⟩
    · exact .inr h
theorem Rp.gr (x : Gr c H c' H') {v : V} {d : Dat} (r : Rp g c H v d) : Rp g c' H' v d := r.tr x.tr
theorem RpAll.gr (x : Gr c H c' H') {v : List V} {d : List Dat} (r : RpAll g c H v d) : RpAll g c' H' v d := r.tr x.tr
theorem RpF.gr (x : Gr c H c' H') {v : List (Str × V)} {d : List (Str × Dat)} (r : RpF g c H v d) : RpF g c' H' v d := r.tr x.tr
theorem RpK.gr (x : Gr c H c' H') {v : List (Key × V)} {d : List (Dat × Dat)} (r : RpK g c H v d) : RpK g c' H' v d := r.tr x.tr
theorem RpT.gr (x : Gr c H c' H') {v : List (List Key × V)} {d : List (Dat × Dat)} (r : RpT g c H v d) : RpT g c' H' v d := r.tr x.tr
theorem Rp.same {v : V} {d : Dat} (k : Same H H') (r : Rp g c H v d) : Rp g c H' v d := r.gr (.of_same k)
theorem RpAll.same {vs : List V} {ds : List Dat} (k : Same H H') (r : RpAll g c H vs ds) : RpAll g c H' vs ds := r.gr (.of_same k)
end

/-! ### the store -/
def CellOk (g : Gx) (c : Cw) (H : Hp) (a : Addr) : Cell → Prop
  | .lst xs => ∃ vs, H a = some (.lst vs) ∧ RpAll g c H vs xs
  | .ins C gs => ∃ A dx fs, H a = some (.ins A dx fs) ∧ InsK g C A fs ∧ RpF g c H fs gs
  | .dict gs => (∃ fs, H a = some (.dK fs) ∧ RpK g c H fs gs) ∨ ∃ fs, H a = some (.dT fs) ∧ RpT g c H fs gs
structure StoOk (g : Gx) (c : Cw) (S : Sto) (H : Hp) : Prop where
  len : c.as.length = S.length
  nd : c.as.Nodup
  own : ∀ a, c.O a → ∃ o, H a = some o
  cells : ∀ (k : Nat) a x, c.as[k]? = some a → S[k]? = some x → CellOk g c H a x
def EnvOk (g : Gx) (c : Cw) (ρ : Ro) (σ : L2.St) (H : Hp) : Prop := σ.length = ρ.length ∧ ∀ (i : Nat) d, ρ[i]? = some (some d) → ∃ v, σ[i]? = some (some v) ∧ Rp g c H v d
section
variable {g : Gx} {c c' : Cw} {S : Sto} {ρ : Ro} {σ : L2.St} {H H' : Hp}
theorem EnvOk.gr (x : Gr c H c' H') (h : EnvOk g c ρ σ H) : EnvOk g c' ρ σ H' := ⟨h.1, fun i d q => let ⟨v, e, r⟩ := h.2 i d q; ⟨v, e, r.gr x⟩⟩
theorem CellOk.tr {a : Addr} {x : Cell} (gr : Tr g c H c' H') (k : ∀ o, H a = some o → H' a = some o) (q : CellOk g c H a x) : CellOk g c' H' a x := by
  cases x with
  | lst xs => obtain ⟨vs, e, r⟩ := q; exact ⟨vs, k _ e, r.tr gr⟩
  | ins C gs => obtain ⟨A, dx, fs, e, m, r⟩ := q; exact ⟨A, dx, fs, k _ e, m, r.tr gr⟩
  | dict gs =>
    rcases q with ⟨vs, e, r⟩ | ⟨vs, e, r⟩
    · exact .inl ⟨vs, k _ e, r.tr gr⟩
    · exact .inr ⟨vs, k _ e, r.tr gr⟩
theorem CellOk.gr {a : Addr} {x : Cell} (gr : Gr c H c' H') (k : ∀ o, H a = some o → H' a = some o) (q : CellOk g c H a x) : CellOk g c' H' a x := q.tr gr.tr k
theorem StoOk.same (k : Same H H') (h : StoOk g c S H) : StoOk g c S H' :=
  ⟨h.len, h.nd, fun a o => let ⟨u, e⟩ := h.own a o; ⟨u, k a u e⟩, fun i a x e1 e2 => (h.cells i a x e1 e2).gr (.of_same k) fun o q => k a o q⟩
theorem StoOk.lock {a : Addr} {o : HO} {od : Obj} (h : StoOk g c S H) (ha : H a = some o) (l : Lk o) (n : ¬ c.O a) : StoOk g c S (upd H a (.frz od o)) := by
  refine ⟨h.len, h.nd, fun b ob => ?_, fun i b x e1 e2 => (h.cells i b x e1 e2).gr (.lock ha l n) fun u hu => ?_⟩
  · by_cases e : b = a
    · subst e; exact ⟨_, upd_same⟩
    · rw [upd_ne e]; exact h.own b ob
  · rw [upd_ne fun e : b = a => n (by rw [← e]; exact c.sub b (List.mem_of_getElem? e1))]; exact hu
theorem StoOk.not (h : StoOk g c S H) {p : Addr} (n : H p = none) : ¬ c.O p := fun z => by
  obtain ⟨u, e⟩ := h.own p z
  rw [n] at e; cases e
/-- a cell is written -/
theorem StoOk.put {k : Nat} {a : Addr} {o o' : HO} {x : Cell} (h : StoOk g c S H) (ha : c.as[k]? = some a) (ho : H a = some o) (m : Mut (some o)) (new : CellOk g c (upd H a o') a x) : StoOk g c (S.set k x) (upd H a o') := by
  have gr : Gr c H c (upd H a o') := .put ho m (List.mem_of_getElem? ha)
  refine ⟨by rw [List.length_set]; exact h.len, h.nd, fun b ob => ?_, fun i b y e1 e2 => ?_⟩
  · by_cases e : b = a
    · subst e; exact ⟨_, upd_same⟩
    · rw [upd_ne e]; exact h.own b ob
  · by_cases e : k = i
    · subst e
      rw [ha] at e1; cases e1
      have lt : k < S.length := by rw [← h.len]; exact (List.getElem?_eq_some_iff.mp ha).1
      rw [List.getElem?_set_self lt] at e2
      cases e2
      exact new
    · rw [List.getElem?_set_ne e] at e2
      have ne : b ≠ a := fun z => by
        subst z
        exact e ((List.getElem?_inj (List.getElem?_eq_some_iff.mp ha).1 h.nd).mp (ha.trans e1.symm))
      exact (h.cells i b y e1 e2).gr gr fun u hu => by rw [upd_ne ne]; exact hu
/-- a new cell -/
def Cw.add (c : Cw) (p : Addr) : Cw := ⟨fun b => c.O b ∨ b = p, c.as ++ [p], fun a h => (List.mem_append.mp h).elim (fun z => .inl (c.sub a z)) fun z => .inr (List.mem_singleton.mp z)⟩
theorem Gr.add {p : Addr} {o : HO} (n : H p = none) : Gr c H (c.add p) (upd H p o) :=
  ⟨⟨[p], rfl, fun a h => by rw [List.mem_singleton.mp h]; exact n⟩, fun _ h => .inl h, fun b h => h.elim .inl fun e => .inr (by rw [e]; exact n), fun a o h _ => .inl (same_new n a o h), fun a o h => ⟨o, same_new n a o h⟩⟩
theorem StoOk.add {p : Addr} {o : HO} {x : Cell} (h : StoOk g c S H) (n : H p = none) (new : CellOk g (c.add p) (upd H p o) p x) : StoOk g (c.add p) (S ++ [x]) (upd H p o) := by
  have gr : Gr c H (c.add p) (upd H p o) := .add n
  have np : p ∉ c.as := fun z => h.not n (c.sub p z)
  refine ⟨by show (c.as ++ [p]).length = _; rw [List.length_append, List.length_append, h.len]; rfl, ?_, fun b ob => ?_, fun i b y e1 e2 => ?_⟩
  · show (c.as ++ [p]).Nodup
    rw [List.nodup_append]
    exact ⟨h.nd, List.nodup_cons.mpr ⟨fun z => (List.not_mem_nil z), List.nodup_nil⟩, fun a ha b hb e => by rw [List.mem_singleton] at hb; subst e; subst hb; exact np ha⟩
  · rcases ob with ob | ob
    · obtain ⟨u, e⟩ := h.own b ob
      exact ⟨u, same_new n b u e⟩
    · subst ob; exact ⟨_, upd_same⟩
  · have e1' : (c.as ++ [p])[i]? = some b := e1
    by_cases l : i < c.as.length
    · rw [List.getElem?_append_left l] at e1'
      rw [List.getElem?_append_left (by rw [← h.len]; exact l)] at e2
      exact (h.cells i b y e1' e2).gr gr fun u hu => same_new n b u hu
    · have li : i = c.as.length := by
        have := (List.getElem?_eq_some_iff.mp e1').1
        rw [List.length_append, List.length_singleton] at this
        omega
      rw [li, List.getElem?_append_right (Nat.le_refl _), Nat.sub_self] at e1'
      cases e1'
      rw [li, h.len, List.getElem?_append_right (Nat.le_refl _), Nat.sub_self] at e2
      cases e2
      exact new
theorem as_last {p : Addr} (s : StoOk g c S H) : (c.add p).as[S.length]? = some p := by
  show (c.as ++ [p])[S.length]? = some p
  rw [← s.len, List.getElem?_append_right (Nat.le_refl _), Nat.sub_self]; rfl
theorem EnvOk.set {i : Nat} {v : V} {d : Dat} (h : EnvOk g c ρ σ H) (r : Rp g c H v d) : EnvOk g c (ρ.set i (some d)) (σ.set i (some v)) H := by
  refine ⟨by rw [List.length_set, List.length_set]; exact h.1, fun j e q => ?_⟩
  by_cases ij : i = j
  · subst ij
    have l : i < ρ.length := by
      have := (List.getElem?_eq_some_iff.mp q).1
      rw [List.length_set] at this
      exact this
    rw [List.getElem?_set_self l] at q
    cases q
    exact ⟨v, List.getElem?_set_self (by rw [h.1]; exact l), r⟩
  · rw [List.getElem?_set_ne ij] at q
    obtain ⟨u, e1, e2⟩ := h.2 j e q
    exact ⟨u, by rw [List.getElem?_set_ne ij]; exact e1, e2⟩
end

/-! ### inversions -/
section
variable {g : Gx} {c : Cw} {H : Hp}
theorem Rp.int_inv {v : V} {i : Int} (r : Rp g c H v (.int i)) : v = .int i := by cases r; rfl
theorem Rp.str_inv {v : V} {x : Str} (r : Rp g c H v (.str x)) : v = .str x := by cases r; rfl
theorem Rp.bool_inv {v : V} {b : Bool} (r : Rp g c H v (.bool b)) : v = .bl b := by cases r; rfl
theorem Rp.non_inv {v : V} (r : Rp g c H v .none) : v = .non := by cases r; rfl
theorem Rp.kt_inv {v : V} {ds : List Dat} (r : Rp g c H v (.kt ds)) : ∃ a xs, v = .ref a ∧ KTp g.K a xs ∧ ds.all flatD = true ∧ RpAll g c H xs ds := by
  cases r with
  | kt s f t => exact ⟨_, _, rfl, s, f, t⟩
theorem Rp.tup_inv {v : V} {ds : List Dat} (r : Rp g c H v (.tuple ds)) : ∃ a xs, v = .ref a ∧ H a = some (.tup xs) ∧ RpAll g c H xs ds := by
  cases r with
  | tup s t => exact ⟨_, _, rfl, s, t⟩
theorem Rp.lst_inv {v : V} {ds : List Dat} (r : Rp g c H v (.list ds)) : ∃ a xs, v = .ref a ∧ SqM g c H a xs ∧ RpAll g c H xs ds := by
  cases r with
  | lst s t => exact ⟨_, _, rfl, s, t⟩
theorem Rp.own_inv {v : V} {k : Nat} (r : Rp g c H v (.own k)) : ∃ a, v = .ref a ∧ c.as[k]? = some a := by
  cases r with
  | own h => exact ⟨_, rfl, h⟩
theorem Rp.ins_inv {v : V} {C : Str} {gs : List (Str × Dat)} (r : Rp g c H v (.ins C gs)) : ∃ a A dx fs, v = .ref a ∧ H a = some (.ins A dx fs) ∧ ¬ c.O a ∧ InsK g C A fs ∧ RpF g c H fs gs := by
  cases r with
  | ins h n m t => exact ⟨_, _, _, _, rfl, h, n, m, t⟩
theorem Rp.dict_inv {v : V} {gs : List (Dat × Dat)} (r : Rp g c H v (.dict gs)) : ∃ a, v = .ref a ∧ ((∃ fs, SqD c H a (.dK fs) ∧ RpK g c H fs gs) ∨ (∃ fs, SqD c H a (.dT fs) ∧ RpT g c H fs gs)) := by
  cases r with
  | dK h t => exact ⟨_, rfl, .inl ⟨_, h, t⟩⟩
  | dT h t => exact ⟨_, rfl, .inr ⟨_, h, t⟩⟩
theorem Rp.kd_inv {v : V} {gs : List (Dat × Dat)} (r : Rp g c H v (.kd gs)) : ∃ a, v = .ref a ∧ KdOk g a gs := by
  cases r with
  | kd h => exact ⟨_, rfl, h⟩
theorem RpAll.length : ∀ {vs : List V} {ds : List Dat}, RpAll g c H vs ds → vs.length = ds.length
  | _, _, .nil => rfl
  | _, _, .cons _ t => by rw [List.length_cons, List.length_cons, RpAll.length t]
theorem RpAll.get : ∀ {vs : List V} {ds : List Dat} {i : Nat} {d : Dat}, RpAll g c H vs ds → ds[i]? = some d → ∃ v, vs[i]? = some v ∧ Rp g c H v d
  | _, _, _, _, .nil, e => by simp at e
  | _, _, 0, _, .cons r _, e => by simp at e; subst e; exact ⟨_, rfl, r⟩
  | _, _, i + 1, d, .cons _ t, e => by
    obtain ⟨u, h1, h2⟩ := RpAll.get (i := i) (d := d) t (by simpa using e)
    exact ⟨u, by simpa using h1, h2⟩
theorem RpAll.append : ∀ {xs ys : List V} {ds es : List Dat}, RpAll g c H xs ds → RpAll g c H ys es → RpAll g c H (xs ++ ys) (ds ++ es)
  | _, _, _, _, .nil, s => s
  | _, _, _, _, .cons r t, s => .cons r (RpAll.append t s)
theorem RpAll.take : ∀ {xs : List V} {ds : List Dat} (n : Nat), RpAll g c H xs ds → RpAll g c H (xs.take n) (ds.take n)
  | _, _, 0, _ => .nil
  | _, _, _ + 1, .nil => .nil
  | _, _, n + 1, .cons r t => .cons r (RpAll.take n t)
theorem RpAll.drop : ∀ {xs : List V} {ds : List Dat} (n : Nat), RpAll g c H xs ds → RpAll g c H (xs.drop n) (ds.drop n)
  | _, _, 0, r => r
  | _, _, _ + 1, .nil => .nil
  | _, _, n + 1, .cons _ t => RpAll.drop n t
theorem RpAll.set {v : V} {d : Dat} (h : Rp g c H v d) : ∀ {xs : List V} {ds : List Dat} (n : Nat), RpAll g c H xs ds → RpAll g c H (xs.set n v) (ds.set n d)
  | _, _, _, .nil => .nil
  | _, _, 0, .cons _ t => .cons h t
  | _, _, n + 1, .cons r t => .cons r (RpAll.set h n t)
theorem RpAll.atI {vs : List V} {ds : List Dat} {i : Int} {d : Dat} (r : RpAll g c H vs ds) (e : L2.atI ds i = some d) : ∃ v, L2.atI vs i = some v ∧ Rp g c H v d := by
  unfold L2.atI at e ⊢
  rw [r.length]
  cases q : ixN ds.length i with
  | none => rw [q] at e; cases e
  | some j =>
    rw [q] at e
    exact r.get e
theorem RpF.look : ∀ {fs : List (Str × V)} {gs : List (Str × Dat)} {n : Str} {d : Dat}, RpF g c H fs gs → gs.lookup n = some d → ∃ v, fs.lookup n = some v ∧ Rp g c H v d
  | _, _, _, _, .nil, e => by simp at e
  | _, _, n, d, .cons (n := m) r t, e => by
    rw [List.lookup_cons] at e ⊢
    cases q : (n == m) with
    | true => rw [q] at e; cases e; exact ⟨_, rfl, r⟩
    | false => rw [q] at e; exact RpF.look t e
theorem RpF.none : ∀ {fs : List (Str × V)} {gs : List (Str × Dat)} {n : Str}, RpF g c H fs gs → gs.lookup n = Option.none → fs.lookup n = Option.none
  | _, _, _, .nil, _ => rfl
  | _, _, n, .cons (n := m) r t, e => by
    rw [List.lookup_cons] at e ⊢
    cases q : (n == m) with
    | true => rw [q] at e; cases e
    | false => rw [q] at e; exact RpF.none t e
theorem RpF.length : ∀ {fs : List (Str × V)} {gs : List (Str × Dat)}, RpF g c H fs gs → fs.length = gs.length
  | _, _, .nil => rfl
  | _, _, .cons _ t => by rw [List.length_cons, List.length_cons, RpF.length t]
theorem RpAll.nil_inv {vs : List V} (r : RpAll g c H vs []) : vs = [] := by cases r; rfl
theorem RpAll.one_inv {vs : List V} {d : Dat} (r : RpAll g c H vs [d]) : ∃ v, vs = [v] ∧ Rp g c H v d := by
  cases r with
  | cons h t => cases t; exact ⟨_, rfl, h⟩
theorem RpAll.two_inv {vs : List V} {d e : Dat} (r : RpAll g c H vs [d, e]) : ∃ v u, vs = [v, u] ∧ Rp g c H v d ∧ Rp g c H u e := by
  cases r with
  | cons h t =>
    obtain ⟨u, rfl, hu⟩ := RpAll.one_inv t
    exact ⟨_, _, rfl, h, hu⟩
theorem SqM.rd {a : Addr} {xs : List V} (h : SqM g c H a xs) : SqL g.K H a xs := by
  rcases h with ⟨h, _⟩ | h | h
  · exact .inl (.inl h)
  · exact .inl (.inr h)
  · exact .inr h
theorem SqD.rd {a : Addr} {o : HO} (h : SqD c H a o) : Rd H a o := by
  rcases h with ⟨h, _⟩ | h
  · exact .inl h
  · exact .inr h
end
/-! ### what stands behind a value, one level deep -/
def look (S : Sto) : Dat → Dat
  | .own k => match S[k]? with
    | some (.lst xs) => .list xs
    | some (.ins C fs) => .ins C fs
    | some (.dict kvs) => .dict kvs
    | Option.none => .own k
  | .kt xs => .tuple xs
  | d => d
section
variable {g : Gx} {c : Cw} {S : Sto} {H : Hp} {v : V} {d : Dat}
theorem Rp.cell (s : StoOk g c S H) {k : Nat} {x : Cell} (r : Rp g c H v (.own k)) (e : S[k]? = some x) : ∃ a, v = .ref a ∧ c.as[k]? = some a ∧ CellOk g c H a x := by
  obtain ⟨a, rfl, ha⟩ := r.own_inv
  exact ⟨a, rfl, ha, s.cells k a x ha e⟩
theorem look_list (s : StoOk g c S H) (r : Rp g c H v d) {xs : List Dat} (e : look S d = .list xs) : ∃ a vs, v = .ref a ∧ SqL g.K H a vs ∧ RpAll g c H vs xs := by
  cases d with
  | own k =>
    unfold look at e
    dsimp only at e
    cases q : S[k]? with
    | none => rw [q] at e; cases e
    | some x =>
      rw [q] at e
      cases x with
      | lst ys =>
        cases e
        obtain ⟨a, rfl, _, vs, h1, h2⟩ := r.cell s q
        exact ⟨a, vs, rfl, .inl (.inl h1), h2⟩
      | ins C fs => cases e
      | dict kvs => cases e
  | list ys =>
    cases e
    obtain ⟨a, vs, rfl, h1, h2⟩ := r.lst_inv
    exact ⟨a, vs, rfl, h1.rd, h2⟩
  | _ => cases e
theorem look_tup (r : Rp g c H v d) {xs : List Dat} (e : look S d = .tuple xs) : ∃ a vs, v = .ref a ∧ SqT g.K H a vs ∧ RpAll g c H vs xs := by
  cases d with
  | own k =>
    unfold look at e
    dsimp only at e
    split at e <;> cases e
  | tuple ys =>
    cases e
    obtain ⟨a, vs, e, h, t⟩ := r.tup_inv
    exact ⟨a, vs, e, .of h, t⟩
  | kt ys =>
    cases e
    obtain ⟨a, vs, e, h, _, t⟩ := r.kt_inv
    exact ⟨a, vs, e, .inr h, t⟩
  | _ => cases e
theorem look_str (r : Rp g c H v d) {x : Str} (e : look S d = .str x) : v = .str x := by
  cases d with
  | own k =>
    unfold look at e
    dsimp only at e
    split at e <;> cases e
  | str y => cases e; exact r.str_inv
  | _ => cases e
theorem look_int (r : Rp g c H v d) {x : Int} (e : look S d = .int x) : v = .int x := by
  cases d with
  | own k =>
    unfold look at e
    dsimp only at e
    split at e <;> cases e
  | int y => cases e; exact r.int_inv
  | _ => cases e
theorem look_bool (r : Rp g c H v d) {x : Bool} (e : look S d = .bool x) : v = .bl x := by
  cases d with
  | own k =>
    unfold look at e
    dsimp only at e
    split at e <;> cases e
  | bool y => cases e; exact r.bool_inv
  | _ => cases e
theorem look_ins (s : StoOk g c S H) (r : Rp g c H v d) {C : Str} {fs : List (Str × Dat)} (e : look S d = .ins C fs) : ∃ a A dx gs, v = .ref a ∧ H a = some (.ins A dx gs) ∧ InsK g C A gs ∧ RpF g c H gs fs := by
  cases d with
  | own k =>
    unfold look at e
    dsimp only at e
    cases q : S[k]? with
    | none => rw [q] at e; cases e
    | some x =>
      rw [q] at e
      cases x with
      | ins C' ys =>
        cases e
        obtain ⟨a, rfl, _, A, dx, gs, h1, h2, h3⟩ := r.cell s q
        exact ⟨a, A, dx, gs, rfl, h1, h2, h3⟩
      | lst _ => cases e
      | dict kvs => cases e
  | ins C' ys =>
    cases e
    obtain ⟨a, A, dx, gs, rfl, h1, _, h2, h3⟩ := r.ins_inv
    exact ⟨a, A, dx, gs, rfl, h1, h2, h3⟩
  | _ => cases e
theorem look_dict (s : StoOk g c S H) (r : Rp g c H v d) {gs : List (Dat × Dat)} (e : look S d = .dict gs) : ∃ a, v = .ref a ∧ ((∃ fs, Rd H a (.dK fs) ∧ RpK g c H fs gs) ∨ (∃ fs, Rd H a (.dT fs) ∧ RpT g c H fs gs)) := by
  cases d with
  | own k =>
    unfold look at e
    dsimp only at e
    cases q : S[k]? with
    | none => rw [q] at e; cases e
    | some x =>
      rw [q] at e
      cases x with
      | dict ys =>
        cases e
        obtain ⟨a, rfl, _, h⟩ := r.cell s q
        rcases h with ⟨fs, h1, h2⟩ | ⟨fs, h1, h2⟩
        · exact ⟨a, rfl, .inl ⟨fs, .inl h1, h2⟩⟩
        · exact ⟨a, rfl, .inr ⟨fs, .inl h1, h2⟩⟩
      | lst _ => cases e
      | ins _ _ => cases e
  | dict ys =>
    cases e
    obtain ⟨a, rfl, h⟩ := r.dict_inv
    rcases h with ⟨fs, h1, h2⟩ | ⟨fs, h1, h2⟩
    · exact ⟨a, rfl, .inl ⟨fs, h1.rd, h2⟩⟩
    · exact ⟨a, rfl, .inr ⟨fs, h1.rd, h2⟩⟩
  | _ => cases e
theorem look_kd (r : Rp g c H v d) {gs : List (Dat × Dat)} (e : look S d = .kd gs) : ∃ a, v = .ref a ∧ KdOk g a gs := by
  cases d with
  | own k =>
    unfold look at e
    dsimp only at e
    split at e <;> cases e
  | kd ys => cases e; exact r.kd_inv
  | _ => cases e
end
/-! ### data without cells, as the library has it -/
mutual
def toPD (S : Sto) : Nat → Dat → Option PyData
  | _, .none => some .none
  | _, .bool b => some (.bool b)
  | _, .int i => some (.int i)
  | _, .str x => some (.str x)
  | f, .list xs => (toPDs S f xs).map .list
  | f, .tuple xs => (toPDs S f xs).map .tuple
  | _, .ins _ _ => Option.none
  | _, .dict _ => Option.none
  | _, .kd _ => Option.none
  | f, .kt xs => (toPDs S f xs).map .tuple
  | 0, .own _ => Option.none
  | f + 1, .own k => match S[k]? with
    | some (.lst xs) => (toPDs S f xs).map .list
    | _ => Option.none
  termination_by f d => (f, sizeOf d)
def toPDs (S : Sto) : Nat → List Dat → Option (List PyData)
  | _, [] => some []
  | f, d :: ds => (toPD S f d).bind fun e => (toPDs S f ds).map fun es => e :: es
  termination_by f ds => (f, sizeOf ds)
end
theorem pbind_eq {α β : Type} {o : Option α} {f : α → Option β} {z : β} (h : o.bind f = some z) : ∃ x, o = some x ∧ f x = some z := by
  cases o with
  | none => cases h
  | some x => exact ⟨x, rfl, h⟩
theorem pmap_eq {α β : Type} {o : Option α} {f : α → β} {z : β} (h : o.map f = some z) : ∃ x, o = some x ∧ f x = z := by
  cases o with
  | none => cases h
  | some x => exact ⟨x, rfl, by cases h; rfl⟩
section
variable {g : Gx} {c : Cw} {S : Sto} {H : Hp}
mutual
theorem toPD_dp (s : StoOk g c S H) : ∀ (f : Nat) (d : Dat) (v : V) (p : PyData), Rp g c H v d → toPD S f d = some p → Dp g.K H v p
  | f, .none, v, p, r, e => by rw [toPD] at e; cases e; cases r; exact .non
  | f, .bool b, v, p, r, e => by rw [toPD] at e; cases e; cases r; exact .bl b
  | f, .int i, v, p, r, e => by rw [toPD] at e; cases e; cases r; exact .int i
  | f, .str x, v, p, r, e => by rw [toPD] at e; cases e; cases r; exact .str x
  | f, .list xs, v, p, r, e => by
    rw [toPD] at e
    obtain ⟨q, e1, rfl⟩ := pmap_eq e
    obtain ⟨a, vs, rfl, h1, h2⟩ := r.lst_inv
    exact .lst h1.rd (toPDs_dp s f xs vs q h2 e1)
  | f, .tuple xs, v, p, r, e => by
    rw [toPD] at e
    obtain ⟨q, e1, rfl⟩ := pmap_eq e
    obtain ⟨a, vs, rfl, h1, h2⟩ := r.tup_inv
    exact .tup (.of h1) (toPDs_dp s f xs vs q h2 e1)
  | f, .ins _ _, v, p, r, e => by rw [toPD] at e; cases e
  | f, .dict _, v, p, r, e => by rw [toPD] at e; cases e
  | f, .kd _, v, p, r, e => by rw [toPD] at e; cases e
  | f, .kt xs, v, p, r, e => by
    rw [toPD] at e
    obtain ⟨q, e1, rfl⟩ := pmap_eq e
    obtain ⟨a, vs, rfl, h1, _, h2⟩ := r.kt_inv
    exact .tup (.inr h1) (toPDs_dp s f xs vs q h2 e1)
  | 0, .own _, v, p, r, e => by rw [toPD] at e; cases e
  | f + 1, .own k, v, p, r, e => by
    rw [toPD] at e
    cases q : S[k]? with
    | none => rw [q] at e; cases e
    | some x =>
      rw [q] at e
      cases x with
      | lst xs =>
        obtain ⟨z, e1, rfl⟩ := pmap_eq e
        obtain ⟨a, rfl, _, vs, h1, h2⟩ := r.cell s q
        exact .lst (.inl (.inl h1)) (toPDs_dp s f xs vs z h2 e1)
      | ins _ _ => cases e
      | dict _ => cases e
  termination_by f d => (f, sizeOf d)
theorem toPDs_dp (s : StoOk g c S H) : ∀ (f : Nat) (d : List Dat) (v : List V) (p : List PyData), RpAll g c H v d → toPDs S f d = some p → DpAll g.K H v p
  | f, [], v, p, r, e => by rw [toPDs] at e; cases e; cases r; exact .nil
  | f, d :: ds, v, p, r, e => by
    rw [toPDs] at e
    obtain ⟨x, e1, e⟩ := pbind_eq e
    obtain ⟨xs, e2, rfl⟩ := pmap_eq e
    cases r with
    | cons r1 r2 => exact .cons (toPD_dp s f d _ x r1 e1) (toPDs_dp s f ds _ xs r2 e2)
  termination_by f ds => (f, sizeOf ds)
end
end
end PL

set_option Elab.async false
set_option linter.all false
set_option maxRecDepth 100000
set_option autoImplicit false
set_option maxHeartbeats 4000000
namespace PL
open PySem L2

/-! ### results -/
inductive Res (α : Type) where
  | ok (a : α) (S : Sto)
  | ex (x : Exn) (S : Sto)
  | bad
def Res.bnd {α β : Type} (r : Res α) (k : α → Sto → Res β) : Res β := match r with
  | .ok a S => k a S
  | .ex x S => .ex x S
  | .bad => .bad
@[simp] theorem bnd_ok {α β : Type} (a : α) (S : Sto) (k : α → Sto → Res β) : (Res.ok a S).bnd k = k a S := Eq.trans rfl rfl
@[simp] theorem bnd_ex {α β : Type} (x : Exn) (S : Sto) (k : α → Sto → Res β) : (Res.ex x S : Res α).bnd k = .ex x S := Eq.trans rfl rfl
@[simp] theorem bnd_bad {α β : Type} (k : α → Sto → Res β) : (Res.bad : Res α).bnd k = .bad := Eq.trans rfl rfl
def ofP {α : Type} (o : Option (α × Sto)) : Res α := match o with
  | some (a, S) => .ok a S
  | none => .bad
@[simp] theorem ofP_some {α : Type} (a : α) (S : Sto) : ofP (some (a, S)) = .ok a S := Eq.trans rfl rfl
@[simp] theorem ofP_none {α : Type} : ofP (none : Option (α × Sto)) = .bad := Eq.trans rfl rfl
abbrev ME := Ro → Sto → Res Dat
abbrev MT := Ro → Sto → Res Bool
abbrev MA := Ro → Sto → Res (List Dat)
abbrev Fun := List Dat → Sto → Res Dat
/-- an exception as it flies -/
def XOk (g : Gx) (c : Cw) (H : Hp) (cls : Value) (da : Option Addr) (x : Exn) : Prop :=
  ∃ A, cls = .ref A ∧ g.mg x.C = some (.ref A) ∧ ((da = none ∧ x.fs = []) ∨ ∃ d fs, da = some d ∧ H d = some (.xd fs) ∧ RpF g c H fs x.fs)
def Po {α : Type} (g : Gx) (W : WX) (σ : L2.St) (c : Cw) (H : Hp) (K : Cw → Sto → α → Hp → Prop) : Res α → Prop
  | .ok a S' => ∀ c' H', Gr c H c' H' → StoOk g c' S' H' → K c' S' a H'
  | .ex x S' => ∀ c' H' cls da, Gr c H c' H' → StoOk g c' S' H' → XOk g c' H' cls da x → W cls da σ H'
  | .bad => False
section
variable {α β : Type} {g : Gx} {W : WX} {σ : L2.St} {c c1 : Cw} {H H1 : Hp} {K K' : Cw → Sto → α → Hp → Prop} {r : Res α}
theorem Po.mono (h : Po g W σ c H K r) (i : ∀ c' S' a H', Gr c H c' H' → StoOk g c' S' H' → K c' S' a H' → K' c' S' a H') : Po g W σ c H K' r := by
  cases r with
  | ok a S' => exact fun c' H' g' s' => i c' S' a H' g' s' (h c' H' g' s')
  | ex x S' => exact h
  | bad => exact h
theorem Po.gr (x : Gr c H c1 H1) (h : Po g W σ c H K r) : Po g W σ c1 H1 K r := by
  cases r with
  | ok a S' => exact fun c' H' g' s' => h c' H' (x.trans g') s'
  | ex x' S' => exact fun c' H' cls da g' s' => h c' H' cls da (x.trans g') s'
  | bad => exact h
theorem Po.bnd {L : Cw → Sto → β → Hp → Prop} {k : α → Sto → Res β} (h : Po g W σ c H L (r.bnd k)) : Po g W σ c H (fun c1 S1 a H1 => Po g W σ c1 H1 L (k a S1)) r := by
  cases r with
  | ok a S' => exact fun c' H' g' s' => Po.gr g' h
  | ex x S' => exact h
  | bad => exact h
theorem Po.ok {a : α} {S : Sto} (h : Po g W σ c H K (.ok a S)) (s : StoOk g c S H) : K c S a H := h c H .refl s
theorem Po.ofP {o : Option (α × Sto)} (h : Po g W σ c H K (ofP o)) : ∃ a S, o = some (a, S) ∧ ∀ c' H', Gr c H c' H' → StoOk g c' S H' → K c' S a H' := by
  cases o with
  | none => exact h.elim
  | some p => obtain ⟨a, S⟩ := p; exact ⟨a, S, rfl, h⟩
end
/-! ### readings -/
abbrev gOf (X : Cx) : Gx := ⟨X.prog, X.K, X.w, X.mg⟩
/-- what is wanted of a value -/
def VF (g : Gx) (Q : VK) : Cw → Sto → Dat → Hp → Prop := fun c' _ d H' => ∀ v, Rp g c' H' v d → Q v H'
def RE (g : Gx) (W : WX) (m : ME) : TE := fun σ H Q => ∃ c ρ S, EnvOk g c ρ σ H ∧ StoOk g c S H ∧ Po g W σ c H (VF g Q) (m ρ S)
def RT (g : Gx) (W : WX) (m : MT) : TT := fun σ H Q => ∃ c ρ S, EnvOk g c ρ σ H ∧ StoOk g c S H ∧ Po g W σ c H (fun _ _ b H' => Q b H') (m ρ S)
def RA (g : Gx) (W : WX) (m : MA) : TA := fun σ H Q => ∃ c ρ S, EnvOk g c ρ σ H ∧ StoOk g c S H ∧ Po g W σ c H (fun c' _ ds H' => ∀ vs, RpAll g c' H' vs ds → Q vs H') (m ρ S)
abbrev SE (X : Cx) (W : WX) (e : Expr) (m : ME) : Prop := PE X e (RE (gOf X) W m)
abbrev STt (X : Cx) (W : WX) (e : Expr) (m : MT) : Prop := PT X e (RT (gOf X) W m)
abbrev SW (X : Cx) (W : WX) (e : Expr) (m : MT) : Prop := PW X e (RT (gOf X) W m)
abbrev SA (X : Cx) (W : WX) (es : List Expr) (m : MA) : Prop := PA X es (RA (gOf X) W m)
theorem PE_of {X : Cx} {e : Expr} {t t' : TE} (h : PE X e t) (i : ∀ σ H Q, t' σ H Q → t σ H Q) : PE X e t' := ⟨fun pins s σ H Q I q => h.run pins s σ H Q I (i σ H Q q)⟩
theorem PT_of {X : Cx} {e : Expr} {t t' : TT} (h : PT X e t) (i : ∀ σ H Q, t' σ H Q → t σ H Q) : PT X e t' := ⟨fun pins s σ H Q I q => h.run pins s σ H Q I (i σ H Q q)⟩
theorem PW_of {X : Cx} {e : Expr} {t t' : TT} (h : PW X e t) (i : ∀ σ H Q, t' σ H Q → t σ H Q) : PW X e t' := ⟨fun wh pins s σ H Q I q => h.run wh pins s σ H Q I (i σ H Q q)⟩
theorem PA_of {X : Cx} {e : List Expr} {t t' : TA} (h : PA X e t) (i : ∀ σ H Q, t' σ H Q → t σ H Q) : PA X e t' := ⟨fun p pins s σ H Q I q => h.run p pins s σ H Q I (i σ H Q q)⟩
/-! ### mirrors -/
def mVar (i : Nat) : ME := fun ρ S => match ρ[i]? with
  | some (some d) => .ok d S
  | _ => .bad
def mC (d : Dat) : ME := fun _ S => .ok d S
def m1 (f : Sto → Dat → Option (Dat × Sto)) (a : ME) : ME := fun ρ S => (a ρ S).bnd fun x S1 => ofP (f S1 x)
def m2 (f : Sto → Dat → Dat → Option (Dat × Sto)) (a b : ME) : ME := fun ρ S => (a ρ S).bnd fun x S1 => (b ρ S1).bnd fun y S2 => ofP (f S2 x y)
def mN (f : Sto → List Dat → Option (Dat × Sto)) (a : MA) : ME := fun ρ S => (a ρ S).bnd fun xs S1 => ofP (f S1 xs)
def mNil : MA := fun _ S => .ok [] S
def mCons (a : ME) (r : MA) : MA := fun ρ S => (a ρ S).bnd fun x S1 => (r ρ S1).bnd fun xs S2 => .ok (x :: xs) S2
/-- the items of a list or a tuple -/
def seqOf (S : Sto) (d : Dat) : Option (List Dat) := match look S d with
  | .list xs => some xs
  | .tuple xs => some xs
  | _ => none
def mStar (a : ME) (r : MA) : MA := fun ρ S => (a ρ S).bnd fun x S1 => match seqOf S1 x with
  | some xs => (r ρ S1).bnd fun ys S2 => .ok (xs ++ ys) S2
  | none => .bad
def mCall (F : Fun) (a : MA) : ME := fun ρ S => (a ρ S).bnd fun xs S1 => F xs S1
/-- what a primitive answers: a value, a new list, a new dict; o: it will be changed -/
def newL (o : Bool) (xs : List Dat) (S : Sto) : Option (Dat × Sto) := if xs.length ≤ sizeLine then (if o then some (.own S.length, S ++ [.lst xs]) else some (.list xs, S)) else none
def newT (xs : List Dat) (S : Sto) : Option (Dat × Sto) := if xs.length ≤ sizeLine then some (.tuple xs, S) else none
def val1 (d : Dat) (S : Sto) : Option (Dat × Sto) := some (d, S)
/-- the truth of a value -/
def truth (S : Sto) (d : Dat) : Option Bool := match look S d with
  | .none => some false
  | .bool b => some b
  | .int i => some (i != 0)
  | .str x => if x.length ≤ sizeLine then some (x.length != 0) else none
  | .list xs => some (!xs.isEmpty)
  | .tuple xs => some (!xs.isEmpty)
  | _ => none
def ofB {α : Type} (o : Option α) (S : Sto) : Res α := match o with
  | some a => .ok a S
  | none => .bad
@[simp] theorem ofB_some {α : Type} (a : α) (S : Sto) : ofB (some a) S = .ok a S := Eq.trans rfl rfl
@[simp] theorem ofB_none {α : Type} (S : Sto) : ofB (none : Option α) S = .bad := Eq.trans rfl rfl
def mTru (a : ME) : MT := fun ρ S => (a ρ S).bnd fun x S1 => ofB (truth S1 x) S1
def mAnd (a b : MT) : MT := fun ρ S => (a ρ S).bnd fun x S1 => if x then b ρ S1 else .ok false S1
def mOr (a b : MT) : MT := fun ρ S => (a ρ S).bnd fun x S1 => if x then .ok true S1 else b ρ S1
def mNot (a : MT) : MT := fun ρ S => (a ρ S).bnd fun x S1 => .ok (!x) S1
def mIf (t : MT) (a b : ME) : ME := fun ρ S => (t ρ S).bnd fun x S1 => if x then a ρ S1 else b ρ S1
def mAndV (a b : ME) : ME := fun ρ S => (a ρ S).bnd fun x S1 => (ofB (truth S1 x) S1).bnd fun k S2 => if k then b ρ S2 else .ok x S2
def mOrV (a b : ME) : ME := fun ρ S => (a ρ S).bnd fun x S1 => (ofB (truth S1 x) S1).bnd fun k S2 => if k then .ok x S2 else b ρ S2
def mNotV (a : ME) : ME := fun ρ S => (a ρ S).bnd fun x S1 => (ofB (truth S1 x) S1).bnd fun k S2 => .ok (.bool (!k)) S2
/-! ### the finish of a primitive -/
def Fin (g : Gx) (c : Cw) (H : Hp) (Q : VK) (d : Dat) (S' : Sto) : Prop := ∀ c' v H', Gr c H c' H' → StoOk g c' S' H' → Rp g c' H' v d → Q v H'
def r1Of (g : Gx) (f : Sto → Dat → Option (Dat × Sto)) : V → Hp → VK → Prop := fun x H Q => ∃ c S d z S', StoOk g c S H ∧ Rp g c H x d ∧ f S d = some (z, S') ∧ Fin g c H Q z S'
def r2Of (g : Gx) (f : Sto → Dat → Dat → Option (Dat × Sto)) : R2 := fun x y H Q => ∃ c S d e z S', StoOk g c S H ∧ Rp g c H x d ∧ Rp g c H y e ∧ f S d e = some (z, S') ∧ Fin g c H Q z S'
def rNOf (g : Gx) (f : Sto → List Dat → Option (Dat × Sto)) : List V → Hp → VK → Prop := fun xs H Q => ∃ c S ds z S', StoOk g c S H ∧ RpAll g c H xs ds ∧ f S ds = some (z, S') ∧ Fin g c H Q z S'
section
variable {g : Gx} {c : Cw} {H : Hp} {Q : VK} {S S' : Sto} {d : Dat}
theorem Fin.val {v : V} (f : Fin g c H Q d S) (s : StoOk g c S H) (r : Rp g c H v d) : Q v H := f c v H .refl s r
theorem Fin.newL {o : Bool} {xs : List Dat} {vs : List V} (s : StoOk g c S H) (r : RpAll g c H vs xs) (e : PL.newL o xs S = some (d, S')) (f : Fin g c H Q d S') : vs.length ≤ sizeLine ∧ ∀ p, H p = none → Q (.ref p) (upd H p (.lst vs)) := by
  unfold PL.newL at e
  split at e
  · rename_i l
    refine ⟨by rw [r.length]; exact l, fun p hp => ?_⟩
    cases o with
    | true =>
      rw [if_pos rfl] at e
      cases e
      exact f (c.add p) _ _ (.add hp) (s.add hp ⟨vs, upd_same, r.gr (.add hp)⟩) (.own (as_last s))
    | false =>
      rw [if_neg (by decide)] at e
      cases e
      exact f c _ _ (.of_same (same_new hp)) (s.same (same_new hp)) (.lst (.inl ⟨upd_same, s.not hp⟩) (r.same (same_new hp)))
  · cases e
theorem Fin.newT {xs : List Dat} {vs : List V} (s : StoOk g c S H) (r : RpAll g c H vs xs) (e : PL.newT xs S = some (d, S')) (f : Fin g c H Q d S') : vs.length ≤ sizeLine ∧ ∀ p, H p = none → Q (.ref p) (upd H p (.tup vs)) := by
  unfold PL.newT at e
  split at e
  · rename_i l
    cases e
    exact ⟨by rw [r.length]; exact l, fun p hp => f c _ _ (.of_same (same_new hp)) (s.same (same_new hp)) (.tup upd_same (r.same (same_new hp)))⟩
  · cases e
end
/-! ### expressions -/
section
variable {X : Cx} {W : WX} {a b e : Expr} {es rest : List Expr} {ma mb me : ME} {mt mu : MT} {mA : MA} {pos : Pos}
theorem se_var {i : Nat} {x : Str} (hN : X.N[i]? = some x) (hv : Vis X.env.scope x) (hd : (x == ("__debug__" : Str)) = false) (hcd : (x == ("__classdict__" : Str)) = false) : SE X W (.Name x pos) (mVar i) :=
  PE_of (pe_var hN hv hd hcd) fun σ H Q ⟨c, ρ, S, hE, hS, h⟩ => by
    unfold mVar at h
    split at h
    · rename_i d q
      obtain ⟨v, h1, h2⟩ := hE.2 i d q
      exact ⟨v, h1, Po.ok h hS v h2⟩
    · exact h.elim
theorem se_C {v : V} {d : Dat} (he : PE X e (tC v)) (h : ∀ c H, Rp (gOf X) c H v d) : SE X W e (mC d) :=
  PE_of he fun σ H Q ⟨c, ρ, S, hE, hS, q⟩ => Po.ok q hS v (h c H)
theorem se_int {i : Int} {j : Nat} : SE X W (.Constant (.int i) j pos) (mC (.int i)) := se_C pe_int fun _ _ => .int i
theorem se_str {x : Str} {j : Nat} : SE X W (.Constant (.str x) j pos) (mC (.str x)) := se_C pe_str fun _ _ => .str x
theorem se_bl {x : Bool} {j : Nat} : SE X W (.Constant (.bool x) j pos) (mC (.bool x)) := se_C pe_bl fun _ _ => .bl x
theorem se_non {j : Nat} : SE X W (.Constant .none j pos) (mC .none) := se_C pe_non fun _ _ => .non
/-- one value goes into a rule -/
theorem re_1 {f : Sto → Dat → Option (Dat × Sto)} {r : V → Hp → VK → Prop} (hr : ∀ x H Q, r1Of (gOf X) f x H Q → r x H Q) {σ : L2.St} {H : Hp} {Q : VK} (h : RE (gOf X) W (m1 f ma) σ H Q) : tUn r (RE (gOf X) W ma) σ H Q := by
  obtain ⟨c, ρ, S, hE, hS, h⟩ := h
  refine ⟨c, ρ, S, hE, hS, (Po.bnd h).mono fun c1 S1 x H1 g1 s1 h1 v rv => ?_⟩
  obtain ⟨z, S2, e1, q⟩ := Po.ofP h1
  exact hr _ _ _ ⟨c1, S1, x, z, S2, s1, rv, e1, fun c' v' H' g' s' r' => q c' H' g' s' v' r'⟩
theorem re_2 {f : Sto → Dat → Dat → Option (Dat × Sto)} {r : R2} (hr : ∀ x y H Q, r2Of (gOf X) f x y H Q → r x y H Q) {σ : L2.St} {H : Hp} {Q : VK} (h : RE (gOf X) W (m2 f ma mb) σ H Q) : tOp r (RE (gOf X) W ma) (RE (gOf X) W mb) σ H Q := by
  obtain ⟨c, ρ, S, hE, hS, h⟩ := h
  refine ⟨c, ρ, S, hE, hS, (Po.bnd h).mono fun c1 S1 x H1 g1 s1 h1 v rv => ?_⟩
  refine ⟨c1, ρ, S1, hE.gr g1, s1, (Po.bnd h1).mono fun c2 S2 y H2 g2 s2 h2 u ru => ?_⟩
  obtain ⟨z, S3, e1, q⟩ := Po.ofP h2
  exact hr _ _ _ _ ⟨c2, S2, x, y, z, S3, s2, rv.gr g2, ru, e1, fun c' v' H' g' s' r' => q c' H' g' s' v' r'⟩
theorem re_N {f : Sto → List Dat → Option (Dat × Sto)} {r : List V → Hp → VK → Prop} (hr : ∀ xs H Q, rNOf (gOf X) f xs H Q → r xs H Q) {σ : L2.St} {H : Hp} {Q : VK} (h : RE (gOf X) W (mN f mA) σ H Q) : tCB r (RA (gOf X) W mA) σ H Q := by
  obtain ⟨c, ρ, S, hE, hS, h⟩ := h
  refine ⟨c, ρ, S, hE, hS, (Po.bnd h).mono fun c1 S1 xs H1 g1 s1 h1 vs rv => ?_⟩
  obtain ⟨z, S2, e1, q⟩ := Po.ofP h1
  exact hr _ _ _ ⟨c1, S1, xs, z, S2, s1, rv, e1, fun c' v' H' g' s' r' => q c' H' g' s' v' r'⟩
theorem se_bin {op : Operator} {f : Sto → Dat → Dat → Option (Dat × Sto)} (ho : OpR X (binaryOp op) (r2Of (gOf X) f)) (ha : SE X W a ma) (hb : SE X W b mb) : SE X W (.BinOp a op b pos) (m2 f ma mb) :=
  PE_of (pe_op ho ha hb) fun _ _ _ h => re_2 (fun _ _ _ _ q => q) h
theorem se_un {op : UnaryOp} {f : Sto → Dat → Option (Dat × Sto)} (ho : UnR X (unaryOp op) (r1Of (gOf X) f)) (ha : SE X W a ma) : SE X W (.UnaryOp op a pos) (m1 f ma) :=
  PE_of (pe_un ho ha) fun _ _ _ h => re_1 (fun _ _ _ q => q) h
theorem se_cmp {op : CmpOp} {f : Sto → Dat → Dat → Option (Dat × Sto)} (ho : OpR X (compareOp op) (r2Of (gOf X) f)) (ha : SE X W a ma) (hb : SE X W b mb) (hm : behindInMarks op b = false) : SE X W (.Compare a [op] [b] pos) (m2 f ma mb) :=
  PE_of (pe_cmpR ho ha hb hm) fun _ _ _ h => re_2 (fun _ _ _ _ q => q) h
/-! arguments -/
theorem sa_nil : SA X W [] mNil := PA_of pa_nil fun σ H Q ⟨c, ρ, S, hE, hS, h⟩ => Po.ok h hS [] .nil
theorem sa_cons (ha : SE X W e me) (hr : SA X W es mA) (hs : starEach (e :: es) X.env = (false, eval e X.env) :: starEach es X.env) : SA X W (e :: es) (mCons me mA) :=
  PA_of (pa_cons ha hr hs) fun σ H Q ⟨c, ρ, S, hE, hS, h⟩ => by
    refine ⟨c, ρ, S, hE, hS, (Po.bnd h).mono fun c1 S1 x H1 g1 s1 h1 v rv => ?_⟩
    refine ⟨c1, ρ, S1, hE.gr g1, s1, (Po.bnd h1).mono fun c2 S2 xs H2 g2 s2 h2 vs rs => ?_⟩
    exact Po.ok h2 s2 (v :: vs) (.cons (rv.gr g2) rs)
theorem seqOf_sq {g : Gx} {c : Cw} {S : Sto} {H : Hp} {v : V} {d : Dat} {xs : List Dat} (s : StoOk g c S H) (r : Rp g c H v d) (e : seqOf S d = some xs) : ∃ a vs, v = .ref a ∧ (SqT g.K H a vs ∨ SqL g.K H a vs) ∧ RpAll g c H vs xs := by
  unfold seqOf at e
  split at e
  · rename_i ys q
    cases e
    obtain ⟨a, vs, h1, h2, h3⟩ := look_list s r q
    exact ⟨a, vs, h1, .inr h2, h3⟩
  · rename_i ys q
    cases e
    obtain ⟨a, vs, h1, h2, h3⟩ := look_tup r q
    exact ⟨a, vs, h1, .inl h2, h3⟩
  · cases e
theorem sa_star {p : Pos} (ha : SE X W e me) (hr : SA X W es mA) : SA X W (.Starred e p :: es) (mStar me mA) :=
  PA_of (StX.pa_star ha hr) fun σ H Q ⟨c, ρ, S, hE, hS, h⟩ => by
    refine ⟨c, ρ, S, hE, hS, (Po.bnd h).mono fun c1 S1 x H1 g1 s1 h1 v rv => ?_⟩
    split at h1
    · rename_i xs q
      obtain ⟨p, vs, rfl, h2, h3⟩ := seqOf_sq s1 rv q
      refine ⟨p, vs, rfl, h2, c1, ρ, S1, hE.gr g1, s1, (Po.bnd h1).mono fun c2 S2 ys H2 g2 s2 h4 us rs => ?_⟩
      exact Po.ok h4 s2 (vs ++ us) ((h3.gr g2).append rs)
    · exact h1.elim
theorem se_tup {k : Nat} (h : SA X W es mA) : SE X W (.Tuple es k pos) (mN (fun S xs => newT xs S) mA) :=
  PE_of (pe_tup h) fun σ H Q q => by
    refine re_N (r := fun xs H1 Q => xs.length ≤ sizeLine ∧ ∀ p, H1 p = none → Q (.ref p) (upd H1 p (.tup xs))) (fun xs H Q ⟨c, S, ds, z, S', s, r, e, f⟩ => f.newT s r e) q
theorem se_lst {o : Bool} (h : SA X W es mA) : SE X W (.List es pos) (mN (fun S xs => newL o xs S) mA) :=
  PE_of (pe_lst h) fun σ H Q q => by
    refine re_N (r := fun xs H1 Q => xs.length ≤ sizeLine ∧ ∀ p, H1 p = none → Q (.ref p) (upd H1 p (.lst xs))) (fun xs H Q ⟨c, S, ds, z, S', s, r, e, f⟩ => f.newL s r e) q
/-! truth -/
theorem truth_ok {g : Gx} {c : Cw} {S : Sto} {H : Hp} {v : V} {d : Dat} {k : Bool} (s : StoOk g c S H) (r : Rp g c H v d) (e : truth S d = some k) : TruV g.K v H k := by
  unfold truth at e
  split at e
  · rename_i q
    have : d = .none := by
      cases d <;> first | rfl | (cases q; done) | (unfold look at q; dsimp only at q; split at q <;> cases q)
    subst this
    cases r; cases e; rfl
  · rename_i q; cases e; rw [look_bool r q]; rfl
  · rename_i q; cases e; rw [look_int r q]; rfl
  · rename_i y q
    split at e
    · rename_i l
      cases e
      rw [look_str r q]
      refine ⟨l, ?_⟩
      cases hx : y.length with
      | zero => rfl
      | succ n => simp; omega
    · cases e
  · rename_i xs q
    cases e
    obtain ⟨a, vs, rfl, h1, h2⟩ := look_list s r q
    refine .inl ⟨vs, h1, ?_⟩
    cases h2 <;> rfl
  · rename_i xs q
    cases e
    obtain ⟨a, vs, rfl, h1, h2⟩ := look_tup r q
    refine .inr (.inl ⟨vs, h1, ?_⟩)
    cases h2 <;> rfl
  · cases e
theorem Po.ofB {α : Type} {g : Gx} {σ : L2.St} {c : Cw} {H : Hp} {K : Cw → Sto → α → Hp → Prop} {o : Option α} {S : Sto} (h : Po g W σ c H K (ofB o S)) : ∃ a, o = some a ∧ ∀ c' H', Gr c H c' H' → StoOk g c' S H' → K c' S a H' := by
  cases o with
  | none => exact h.elim
  | some p => exact ⟨p, rfl, h⟩
theorem st_tru (ha : SE X W a ma) (he : ∀ whole, isTrue a X.env whole = (do let v ← whole; standAt a.pos; holding [v] (truthy v))) : STt X W a (mTru ma) :=
  PT_of (pt_truth ha he) fun σ H Q ⟨c, ρ, S, hE, hS, h⟩ => by
    refine ⟨c, ρ, S, hE, hS, (Po.bnd h).mono fun c1 S1 x H1 g1 s1 h1 v rv => ?_⟩
    obtain ⟨k, e, q⟩ := Po.ofB h1
    exact ⟨k, truth_ok s1 rv e, q c1 H1 .refl s1⟩
theorem Po.ite {α : Type} {g : Gx} {σ : L2.St} {c : Cw} {H : Hp} {K : Cw → Sto → α → Hp → Prop} {b : Bool} {r r' : Res α} (h : Po g W σ c H K (if b then r else r')) : (b = true → Po g W σ c H K r) ∧ (b = false → Po g W σ c H K r') := by
  cases b
  · exact ⟨fun z => (by cases z), fun _ => h⟩
  · exact ⟨fun _ => h, fun z => (by cases z)⟩
/-- and, or of tests, from the left -/
theorem rt_and {σ : L2.St} {H : Hp} {Q : Bool → Hp → Prop} (h : RT (gOf X) W (mAnd mt mu) σ H Q) : tAnd (RT (gOf X) W mt) (RT (gOf X) W mu) σ H Q := by
  obtain ⟨c, ρ, S, hE, hS, h⟩ := h
  refine ⟨c, ρ, S, hE, hS, (Po.bnd h).mono fun c1 S1 x H1 g1 s1 h1 => ?_⟩
  obtain ⟨h2, h3⟩ := Po.ite h1
  cases x with
  | true => exact iteT ⟨c1, ρ, S1, hE.gr g1, s1, h2 rfl⟩
  | false => exact iteF (Po.ok (h3 rfl) s1)
theorem rt_or {σ : L2.St} {H : Hp} {Q : Bool → Hp → Prop} (h : RT (gOf X) W (mOr mt mu) σ H Q) : tOr (RT (gOf X) W mt) (RT (gOf X) W mu) σ H Q := by
  obtain ⟨c, ρ, S, hE, hS, h⟩ := h
  refine ⟨c, ρ, S, hE, hS, (Po.bnd h).mono fun c1 S1 x H1 g1 s1 h1 => ?_⟩
  obtain ⟨h2, h3⟩ := Po.ite h1
  cases x with
  | true => exact iteT (Po.ok (h2 rfl) s1)
  | false => exact iteF ⟨c1, ρ, S1, hE.gr g1, s1, h3 rfl⟩
theorem sw_and1 (h : STt X W a mt) : SW X W (.BoolOp .And [a] pos) mt := pw_and1 h
theorem sw_or1 (h : STt X W a mt) : SW X W (.BoolOp .Or [a] pos) mt := pw_or1 h
theorem sw_and (h : STt X W a mt) (hr : SW X W (.BoolOp .And (b :: rest) pos) mu) : SW X W (.BoolOp .And (a :: b :: rest) pos) (mAnd mt mu) := PW_of (pw_and h hr) fun _ _ _ => rt_and
theorem sw_or (h : STt X W a mt) (hr : SW X W (.BoolOp .Or (b :: rest) pos) mu) : SW X W (.BoolOp .Or (a :: b :: rest) pos) (mOr mt mu) := PW_of (pw_or h hr) fun _ _ _ => rt_or
theorem st_not (h : STt X W a mt) : STt X W (.UnaryOp .Not a pos) (mNot mt) := PT_of (pt_not h) fun σ H Q ⟨c, ρ, S, hE, hS, h⟩ =>
  ⟨c, ρ, S, hE, hS, (Po.bnd h).mono fun c1 S1 x H1 g1 s1 h1 => Po.ok h1 s1⟩
theorem se_if {t : Expr} (ht : STt X W t mt) (ha : SE X W a ma) (hb : SE X W b mb) : SE X W (.IfExp t a b pos) (mIf mt ma mb) :=
  PE_of (pe_ifExp ht ha hb) fun σ H Q ⟨c, ρ, S, hE, hS, h⟩ => by
    refine ⟨c, ρ, S, hE, hS, (Po.bnd h).mono fun c1 S1 x H1 g1 s1 h1 => ?_⟩
    obtain ⟨h2, h3⟩ := Po.ite h1
    cases x with
    | true => exact iteT ⟨c1, ρ, S1, hE.gr g1, s1, h2 rfl⟩
    | false => exact iteF ⟨c1, ρ, S1, hE.gr g1, s1, h3 rfl⟩
theorem se_one {op : BoolOp} (h : SE X W a ma) : SE X W (.BoolOp op [a] pos) ma := pe_one h
theorem se_and (h : SE X W a ma) (hr : SE X W (.BoolOp .And (b :: rest) pos) mb) : SE X W (.BoolOp .And (a :: b :: rest) pos) (mAndV ma mb) :=
  PE_of (pe_andT h hr) fun σ H Q ⟨c, ρ, S, hE, hS, h⟩ => by
    refine ⟨c, ρ, S, hE, hS, (Po.bnd h).mono fun c1 S1 x H1 g1 s1 h1 v rv => ?_⟩
    obtain ⟨k, e, q⟩ := Po.ofB (Po.bnd h1)
    obtain ⟨h2, h3⟩ := Po.ite (q c1 H1 .refl s1)
    refine ⟨k, truth_ok s1 rv e, ?_⟩
    cases k with
    | true => exact iteT ⟨c1, ρ, S1, hE.gr g1, s1, h2 rfl⟩
    | false => exact iteF (Po.ok (h3 rfl) s1 v rv)
theorem se_or (h : SE X W a ma) (hr : SE X W (.BoolOp .Or (b :: rest) pos) mb) : SE X W (.BoolOp .Or (a :: b :: rest) pos) (mOrV ma mb) :=
  PE_of (pe_orT h hr) fun σ H Q ⟨c, ρ, S, hE, hS, h⟩ => by
    refine ⟨c, ρ, S, hE, hS, (Po.bnd h).mono fun c1 S1 x H1 g1 s1 h1 v rv => ?_⟩
    obtain ⟨k, e, q⟩ := Po.ofB (Po.bnd h1)
    obtain ⟨h2, h3⟩ := Po.ite (q c1 H1 .refl s1)
    refine ⟨k, truth_ok s1 rv e, ?_⟩
    cases k with
    | true => exact iteT (Po.ok (h2 rfl) s1 v rv)
    | false => exact iteF ⟨c1, ρ, S1, hE.gr g1, s1, h3 rfl⟩
theorem se_not (h : SE X W a ma) : SE X W (.UnaryOp .Not a pos) (mNotV ma) :=
  PE_of (pe_notT h) fun σ H Q ⟨c, ρ, S, hE, hS, h⟩ => by
    refine ⟨c, ρ, S, hE, hS, (Po.bnd h).mono fun c1 S1 x H1 g1 s1 h1 v rv => ?_⟩
    obtain ⟨k, e, q⟩ := Po.ofB (Po.bnd h1)
    exact ⟨k, truth_ok s1 rv e, Po.ok (q c1 H1 .refl s1) s1 _ (.bl _)⟩
end
end PL

set_option Elab.async false
set_option linter.all false
set_option maxRecDepth 100000
set_option autoImplicit false
set_option maxHeartbeats 4000000
namespace PL
open PySem L2

/-! ### statements -/
inductive RSt where
  | nx (ρ : Ro) (S : Sto)
  | rt (d : Dat) (S : Sto)
  | bk (ρ : Ro) (S : Sto)
  | ct (ρ : Ro) (S : Sto)
  | ex (x : Exn) (ρ : Ro) (S : Sto)
  | bad
abbrev MS := Ro → Sto → RSt
def Res.st {α : Type} (r : Res α) (ρ : Ro) (k : α → Sto → RSt) : RSt := match r with
  | .ok a S => k a S
  | .ex x S => .ex x ρ S
  | .bad => .bad
@[simp] theorem st_ok {α : Type} (a : α) (S : Sto) (ρ : Ro) (k : α → Sto → RSt) : (Res.ok a S).st ρ k = k a S := Eq.trans rfl rfl
@[simp] theorem st_ex {α : Type} (x : Exn) (S : Sto) (ρ : Ro) (k : α → Sto → RSt) : (Res.ex x S : Res α).st ρ k = .ex x ρ S := Eq.trans rfl rfl
@[simp] theorem st_bad {α : Type} (ρ : Ro) (k : α → Sto → RSt) : (Res.bad : Res α).st ρ k = .bad := Eq.trans rfl rfl
/-- behind a statement -/
def RSt.sq (r : RSt) (k : Ro → Sto → RSt) : RSt := match r with
  | .nx ρ S => k ρ S
  | r => r
@[simp] theorem sq_nx (ρ : Ro) (S : Sto) (k : Ro → Sto → RSt) : (RSt.nx ρ S).sq k = k ρ S := Eq.trans rfl rfl
@[simp] theorem sq_rt (d : Dat) (S : Sto) (k : Ro → Sto → RSt) : (RSt.rt d S).sq k = .rt d S := Eq.trans rfl rfl
@[simp] theorem sq_bk (ρ : Ro) (S : Sto) (k : Ro → Sto → RSt) : (RSt.bk ρ S).sq k = .bk ρ S := Eq.trans rfl rfl
@[simp] theorem sq_ct (ρ : Ro) (S : Sto) (k : Ro → Sto → RSt) : (RSt.ct ρ S).sq k = .ct ρ S := Eq.trans rfl rfl
@[simp] theorem sq_ex (x : Exn) (ρ : Ro) (S : Sto) (k : Ro → Sto → RSt) : (RSt.ex x ρ S).sq k = .ex x ρ S := Eq.trans rfl rfl
@[simp] theorem sq_bad (k : Ro → Sto → RSt) : (RSt.bad).sq k = .bad := Eq.trans rfl rfl
def Ps (g : Gx) (W : WX) (D : Ends) (c : Cw) (H : Hp) : RSt → Prop
  | .nx ρ S => ∀ c' σ' H', Gr c H c' H' → StoOk g c' S H' → EnvOk g c' ρ σ' H' → D.nx σ' H'
  | .rt d S => ∀ c' v H', Gr c H c' H' → StoOk g c' S H' → Rp g c' H' v d → D.rt v H'
  | .bk ρ S => ∀ c' σ' H', Gr c H c' H' → StoOk g c' S H' → EnvOk g c' ρ σ' H' → D.bk σ' H'
  | .ct ρ S => ∀ c' σ' H', Gr c H c' H' → StoOk g c' S H' → EnvOk g c' ρ σ' H' → D.ct σ' H'
  | .ex x ρ S => ∀ c' σ' H' cls da, Gr c H c' H' → StoOk g c' S H' → EnvOk g c' ρ σ' H' → XOk g c' H' cls da x → W cls da σ' H'
  | .bad => False
def RS (g : Gx) (W : WX) (m : MS) : TS := fun D σ H => ∃ c ρ S, EnvOk g c ρ σ H ∧ StoOk g c S H ∧ Ps g W D c H (m ρ S)
abbrev SS (X : Cx) (W : WX) (st : Stmt) (m : MS) : Prop := PS X st (RS (gOf X) W m)
abbrev SSs (X : Cx) (W : WX) (sts : List Stmt) (m : MS) : Prop := PSs X sts (RS (gOf X) W m)
theorem PS_of {X : Cx} {e : Stmt} {t t' : TS} (h : PS X e t) (i : ∀ D σ H, t' D σ H → t D σ H) : PS X e t' := ⟨fun pins s σ H Q I q => h.run pins s σ H Q I (i Q σ H q)⟩
theorem PSs_of {X : Cx} {e : List Stmt} {t t' : TS} (h : PSs X e t) (i : ∀ D σ H, t' D σ H → t D σ H) : PSs X e t' := ⟨fun pins s σ H Q I q => h.run pins s σ H Q I (i Q σ H q)⟩
section
variable {g : Gx} {W : WX} {D D' : Ends} {c c1 : Cw} {H H1 : Hp} {r : RSt} {σ : L2.St} {ρ : Ro} {S : Sto}
theorem Ps.gr (x : Gr c H c1 H1) (h : Ps g W D c H r) : Ps g W D c1 H1 r := by
  cases r with
  | nx ρ S => exact fun c' σ' H' g' s' e' => h c' σ' H' (x.trans g') s' e'
  | rt d S => exact fun c' v' H' g' s' e' => h c' v' H' (x.trans g') s' e'
  | bk ρ S => exact fun c' σ' H' g' s' e' => h c' σ' H' (x.trans g') s' e'
  | ct ρ S => exact fun c' σ' H' g' s' e' => h c' σ' H' (x.trans g') s' e'
  | ex y ρ S => exact fun c' σ' H' cls da g' s' e' => h c' σ' H' cls da (x.trans g') s' e'
  | bad => exact h
/-- an expression, then more -/
theorem Ps.st {α : Type} {r : Res α} {k : α → Sto → RSt} (hE : EnvOk g c ρ σ H) (h : Ps g W D c H (r.st ρ k)) : Po g W σ c H (fun c' S' a H' => Ps g W D c' H' (k a S')) r := by
  cases r with
  | ok a S' => exact fun c' H' g' s' => Ps.gr g' h
  | ex x S' => exact fun c' H' cls da g' s' x' => h c' σ H' cls da g' s' (hE.gr g') x'
  | bad => exact h
/-- a statement, then more -/
theorem Ps.sq {k : MS} {tu : TS} (h : Ps g W D c H (r.sq k)) (hu : ∀ c' ρ' S' σ' H', EnvOk g c' ρ' σ' H' → StoOk g c' S' H' → Ps g W D c' H' (k ρ' S') → tu D σ' H') : Ps g W { D with nx := tu D } c H r := by
  cases r with
  | nx ρ S => exact fun c' σ' H' g' s' e' => hu c' ρ S σ' H' e' s' (Ps.gr g' h)
  | rt d S => exact h
  | bk ρ S => exact h
  | ct ρ S => exact h
  | ex y ρ S => exact h
  | bad => exact h
end
def mNext : MS := fun ρ S => .nx ρ S
def mSeq (a b : MS) : MS := fun ρ S => (a ρ S).sq b
def mRet (m : ME) : MS := fun ρ S => (m ρ S).st ρ fun d S1 => .rt d S1
def mRetN : MS := fun _ S => .rt .none S
def mBreak : MS := fun ρ S => .bk ρ S
def mCont : MS := fun ρ S => .ct ρ S
def mDrop (m : ME) : MS := fun ρ S => (m ρ S).st ρ fun _ S1 => .nx ρ S1
def mIfS (t : MT) (a b : MS) : MS := fun ρ S => (t ρ S).st ρ fun x S1 => if x then a ρ S1 else b ρ S1
def mSet (i : Nat) (m : ME) : MS := fun ρ S => (m ρ S).st ρ fun d S1 => .nx (ρ.set i (some d)) S1
def mPar2 (i j : Nat) (m : MA) : MS := fun ρ S => (m ρ S).st ρ fun ds S1 => match ds with
  | [x, y] => .nx ((ρ.set i (some x)).set j (some y)) S1
  | _ => .bad
def mPar3 (i j l : Nat) (m : MA) : MS := fun ρ S => (m ρ S).st ρ fun ds S1 => match ds with
  | [x, y, z] => .nx (((ρ.set i (some x)).set j (some y)).set l (some z)) S1
  | _ => .bad
section
variable {X : Cx} {W : WX} {st : Stmt} {rest b1 b2 : List Stmt} {e : Expr} {es : List Expr} {me : ME} {mt : MT} {ms mu : MS} {mA : MA} {pos pos' : Pos}
theorem ss_nil : SSs X W [] mNext := PSs_of pss_nil fun D σ H ⟨c, ρ, S, hE, hS, h⟩ => h c σ H .refl hS hE
theorem ss_cons (h1 : SS X W st ms) (h2 : SSs X W rest mu) : SSs X W (st :: rest) (mSeq ms mu) := PSs_of (pss_cons h1 h2) fun D σ H ⟨c, ρ, S, hE, hS, h⟩ =>
  ⟨c, ρ, S, hE, hS, Ps.sq h fun c' ρ' S' σ' H' e' s' q => ⟨c', ρ', S', e', s', q⟩⟩
theorem ss_one (h1 : SS X W st ms) : SSs X W [st] ms := pss_one h1
theorem ss_ret (h : SE X W e me) : SS X W (.Return (some e) pos) (mRet me) := PS_of (ps_ret h) fun D σ H ⟨c, ρ, S, hE, hS, h⟩ =>
  ⟨c, ρ, S, hE, hS, (Ps.st hE h).mono fun c1 S1 d H1 g1 s1 h1 v rv => h1 c1 v H1 .refl s1 rv⟩
theorem ss_retN : SS X W (.Return none pos) mRetN := PS_of ps_retN fun D σ H ⟨c, ρ, S, hE, hS, h⟩ => h c _ H .refl hS .non
theorem ss_break : SS X W (.Break pos) mBreak := PS_of ps_break fun D σ H ⟨c, ρ, S, hE, hS, h⟩ => h c σ H .refl hS hE
theorem ss_cont : SS X W (.Continue pos) mCont := PS_of ps_continue fun D σ H ⟨c, ρ, S, hE, hS, h⟩ => h c σ H .refl hS hE
theorem ss_pass : SS X W (.Pass pos) mNext := PS_of ps_pass fun D σ H ⟨c, ρ, S, hE, hS, h⟩ => h c σ H .refl hS hE
theorem ss_expr (h : SE X W e me) (hs : swapsWith e none pos.line X.env = pure false) : SS X W (.Expr e pos) (mDrop me) := PS_of (ps_expr h hs) fun D σ H ⟨c, ρ, S, hE, hS, h⟩ =>
  ⟨c, ρ, S, hE, hS, (Ps.st hE h).mono fun c1 S1 d H1 g1 s1 h1 v rv => h1 c1 σ H1 .refl s1 (hE.gr g1)⟩
theorem ss_if {t : Expr} (ht : STt X W t mt) (ha : SSs X W b1 ms) (hb : SSs X W b2 mu) : SS X W (.If t b1 b2 pos) (mIfS mt ms mu) := PS_of (ps_if ht ha hb) fun D σ H ⟨c, ρ, S, hE, hS, h⟩ => by
  refine ⟨c, ρ, S, hE, hS, (Ps.st hE h).mono fun c1 S1 x H1 g1 s1 h1 => ?_⟩
  cases x with
  | true => exact iteT ⟨c1, ρ, S1, hE.gr g1, s1, h1⟩
  | false => exact iteF ⟨c1, ρ, S1, hE.gr g1, s1, h1⟩
theorem ss_set {i : Nat} {x : Str} (hN : X.N.Nodup) (hi : X.N[i]? = some x) (hx : Loc X.env.scope x) (he : SE X W e me) (hs : swapsWith e (some (.Name x pos')) pos.line X.env = pure false)
    (hf : X.fn x = true ∨ X.env.scope.names.lookup x = some .local) : SS X W (.Assign [.Name x pos'] e pos) (mSet i me) := PS_of (ps_set hN hi hx he hs hf) fun D σ H ⟨c, ρ, S, hE, hS, h⟩ =>
  ⟨c, ρ, S, hE, hS, (Ps.st hE h).mono fun c1 S1 d H1 g1 s1 h1 v rv => h1 c1 _ H1 .refl s1 ((hE.gr g1).set rv)⟩
theorem ss_par2 {i j : Nat} {x y : Str} {a b : Expr} {px py pt pt2 : Pos} {kt k2 : Nat} (hc : X.calm = true) (hN : X.N.Nodup) (hi : X.N[i]? = some x) (hj : X.N[j]? = some y) (hij : i ≠ j)
    (hx : X.env.scope.names.lookup x = some .local) (hy : X.env.scope.names.lookup y = some .local) (ha : SA X W [a, b] mA)
    (hw : swappedStores [.Tuple [.Name x px, .Name y py] kt pt] (.Tuple [a, b] k2 pt2) X.env = pure (some [x, y])) : SS X W (.Assign [.Tuple [.Name x px, .Name y py] kt pt] (.Tuple [a, b] k2 pt2) pos) (mPar2 i j mA) :=
  PS_of (ps_par hc hN hi hj hij hx hy ha hw) fun D σ H ⟨c, ρ, S, hE, hS, h⟩ => by
    refine ⟨c, ρ, S, hE, hS, (Ps.st hE h).mono fun c1 S1 ds H1 g1 s1 h1 vs rv => ?_⟩
    match ds, h1 with
    | [d1, d2], h1 =>
      obtain ⟨v, w, rfl, r1, r2⟩ := rv.two_inv
      exact ⟨v, w, rfl, h1 c1 _ H1 .refl s1 (((hE.gr g1).set r1).set r2)⟩
    | [], h1 => exact h1.elim
    | [_], h1 => exact h1.elim
    | _ :: _ :: _ :: _, h1 => exact h1.elim
theorem ss_par3 {i j l : Nat} {x y z : Str} {a b d : Expr} {px py pz pt pt2 : Pos} {kt k2 : Nat} (hc : X.calm = true) (hN : X.N.Nodup) (hi : X.N[i]? = some x) (hj : X.N[j]? = some y) (hl : X.N[l]? = some z) (hij : i ≠ j) (hil : i ≠ l) (hjl : j ≠ l)
    (hx : X.env.scope.names.lookup x = some .local) (hy : X.env.scope.names.lookup y = some .local) (hz : X.env.scope.names.lookup z = some .local) (ha : SA X W [a, b, d] mA)
    (hw : swappedStores [.Tuple [.Name x px, .Name y py, .Name z pz] kt pt] (.Tuple [a, b, d] k2 pt2) X.env = pure (some [x, y, z])) : SS X W (.Assign [.Tuple [.Name x px, .Name y py, .Name z pz] kt pt] (.Tuple [a, b, d] k2 pt2) pos) (mPar3 i j l mA) :=
  PS_of (L2.ps_par3 hc hN hi hj hl hij hil hjl hx hy hz ha hw) fun D σ H ⟨c, ρ, S, hE, hS, h⟩ => by
    refine ⟨c, ρ, S, hE, hS, (Ps.st hE h).mono fun c1 S1 ds H1 g1 s1 h1 vs rv => ?_⟩
    match ds, h1 with
    | [d1, d2, d3], h1 =>
      cases rv with
      | cons r0 rv =>
        obtain ⟨v, w, rfl, r1, r2⟩ := rv.two_inv
        exact ⟨_, v, w, rfl, h1 c1 _ H1 .refl s1 ((((hE.gr g1).set r0).set r1).set r2)⟩
    | [], h1 => exact h1.elim
    | [_], h1 => exact h1.elim
    | [_, _], h1 => exact h1.elim
    | _ :: _ :: _ :: _ :: _, h1 => exact h1.elim
end
/-! ### patterns: names and tuples of them -/
inductive Pat where
  | nm (i : Nat)
  | tp (ps : List Pat)
mutual
def bindP : Pat → Dat → Ro → Option Ro
  | .nm i, d, ρ => some (ρ.set i (some d))
  | .tp ps, d, ρ => match d with
    | .tuple ds => bindPs ps ds ρ
    | _ => none
def bindPs : List Pat → List Dat → Ro → Option Ro
  | [], [], ρ => some ρ
  | p :: ps, d :: ds, ρ => (bindP p d ρ).bind fun ρ1 => bindPs ps ds ρ1
  | _, _, _ => none
end
mutual
def slotsP : Pat → List Nat
  | .nm i => [i]
  | .tp ps => slotsPs ps
def slotsPs : List Pat → List Nat
  | [] => []
  | p :: ps => slotsP p ++ slotsPs ps
end
theorem wipe_at : ∀ (vs : List Nat) (σ : L2.St) (j : Nat), (wipe σ vs)[j]? = if j ∈ vs then σ[j]?.map fun _ => none else σ[j]?
  | [], σ, j => by simp [wipe]
  | v :: vs, σ, j => by
    show ((wipe σ vs).set v none)[j]? = _
    by_cases e : v = j
    · subst e
      rw [List.getElem?_set]
      simp only [if_true, List.mem_cons, true_or]
      rw [wipe_length]
      by_cases l : v < σ.length
      · rw [if_pos l, List.getElem?_eq_getElem l]; rfl
      · rw [if_neg l, List.getElem?_eq_none_iff.mpr (by omega)]; rfl
    · rw [List.getElem?_set_ne e, wipe_at vs σ j]
      have : (j ∈ v :: vs) ↔ j ∈ vs := by simp [List.mem_cons, Ne.symm e, eq_comm, e]
      simp only [this]
theorem wipe_ext {σ τ : L2.St} {vs : List Nat} (hl : σ.length = τ.length) (h : ∀ j : Nat, j ∉ vs → σ[j]? = τ[j]?) : wipe σ vs = wipe τ vs := by
  apply List.ext_getElem?
  intro j
  rw [wipe_at, wipe_at]
  by_cases e : j ∈ vs
  · rw [if_pos e, if_pos e]
    by_cases l : j < σ.length
    · rw [List.getElem?_eq_getElem l, List.getElem?_eq_getElem (by omega)]; rfl
    · rw [List.getElem?_eq_none_iff.mpr (by omega), List.getElem?_eq_none_iff.mpr (by omega)]
  · rw [if_neg e, if_neg e]; exact h j e
theorem wipe_set {σ : L2.St} {vs : List Nat} {i : Nat} {x : Option V} (h : i ∈ vs) : wipe (σ.set i x) vs = wipe σ vs :=
  wipe_ext (by rw [List.length_set]) fun j hj => List.getElem?_set_ne (fun e : i = j => hj (by rw [← e]; exact h))
theorem wipe_wipe {σ : L2.St} {vs : List Nat} : wipe (wipe σ vs) vs = wipe σ vs :=
  wipe_ext (wipe_length σ vs) fun j hj => by rw [wipe_at, if_neg hj]
def wipeE (ρ : Ro) : List Nat → Ro
  | [] => ρ
  | v :: vs => (wipeE ρ vs).set v none
theorem wipeE_length (ρ : Ro) : ∀ vs : List Nat, (wipeE ρ vs).length = ρ.length
  | [] => rfl
  | v :: vs => by unfold wipeE; rw [List.length_set, wipeE_length ρ vs]
theorem wipeE_at : ∀ (vs : List Nat) (ρ : Ro) (j : Nat), (wipeE ρ vs)[j]? = if j ∈ vs then ρ[j]?.map fun _ => none else ρ[j]?
  | [], ρ, j => by simp [wipeE]
  | v :: vs, ρ, j => by
    show ((wipeE ρ vs).set v none)[j]? = _
    by_cases e : v = j
    · subst e
      rw [List.getElem?_set]
      simp only [if_true, List.mem_cons, true_or]
      rw [wipeE_length]
      by_cases l : v < ρ.length
      · rw [if_pos l, List.getElem?_eq_getElem l]; rfl
      · rw [if_neg l, List.getElem?_eq_none_iff.mpr (by omega)]; rfl
    · rw [List.getElem?_set_ne e, wipeE_at vs ρ j]
      have : (j ∈ v :: vs) ↔ j ∈ vs := by simp [List.mem_cons, Ne.symm e, eq_comm, e]
      simp only [this]
theorem EnvOk.wipe {g : Gx} {c : Cw} {ρ : Ro} {σ : L2.St} {H : Hp} (h : EnvOk g c ρ σ H) (vs : List Nat) : EnvOk g c (wipeE ρ vs) (L2.wipe σ vs) H := by
  refine ⟨by rw [wipe_length, wipeE_length]; exact h.1, fun i d q => ?_⟩
  rw [wipeE_at] at q
  by_cases e : i ∈ vs
  · rw [if_pos e] at q
    cases z : ρ[i]? with
    | none => rw [z] at q; cases q
    | some _ => rw [z] at q; cases q
  · rw [if_neg e] at q
    obtain ⟨v, h1, h2⟩ := h.2 i d q
    exact ⟨v, by rw [wipe_at, if_neg e]; exact h1, h2⟩
def EvP (g : Gx) (tg : TG) (p : Pat) : Prop := ∀ (c : Cw) (ρ : Ro) (σ : L2.St) (H : Hp) (v : V) (d : Dat) (ρ' : Ro), EnvOk g c ρ σ H → Rp g c H v d → bindP p d ρ = some ρ' →
  ∀ Q : L2.St → Hp → Prop, (∀ σ', EnvOk g c ρ' σ' H → (∀ vs, (∀ i ∈ slotsP p, i ∈ vs) → wipe σ' vs = wipe σ vs) → Q σ' H) → tg v σ H Q
def EvPs (g : Gx) (tg : TGs) (ps : List Pat) : Prop := ∀ (c : Cw) (ρ : Ro) (σ : L2.St) (H : Hp) (vs : List V) (ds : List Dat) (ρ' : Ro), EnvOk g c ρ σ H → RpAll g c H vs ds → bindPs ps ds ρ = some ρ' →
  ∀ Q : L2.St → Hp → Prop, (∀ σ', EnvOk g c ρ' σ' H → (∀ vs, (∀ i ∈ slotsPs ps, i ∈ vs) → wipe σ' vs = wipe σ vs) → Q σ' H) → tg vs σ H Q
section
variable {g : Gx}
theorem ep_nm {i : Nat} : EvP g (gName i) (.nm i) := fun c ρ σ H v d ρ' hE r hb Q q => by
  rw [bindP] at hb
  cases hb
  exact q _ (hE.set r) fun vs hv => wipe_set (hv i (by rw [slotsP]; exact List.mem_singleton.mpr rfl))
theorem eps_nil : EvPs g gNil [] := fun c ρ σ H vs ds ρ' hE r hb Q q => by
  cases r with
  | nil => rw [bindPs] at hb; cases hb; exact ⟨rfl, q σ hE fun _ _ => rfl⟩
  | cons _ _ => rw [bindPs] at hb <;> first | cases hb | (intros; simp_all)
theorem eps_cons {t : TG} {u : TGs} {p : Pat} {ps : List Pat} (h : EvP g t p) (hs : EvPs g u ps) : EvPs g (gCons t u) (p :: ps) := fun c ρ σ H vs ds ρ' hE r hb Q q => by
  cases r with
  | nil => rw [bindPs] at hb <;> first | cases hb | (intros; simp_all)
  | cons r1 r2 =>
    rw [bindPs] at hb
    obtain ⟨ρ1, e1, hb⟩ := pbind_eq hb
    refine ⟨_, _, rfl, h c ρ σ H _ _ ρ1 hE r1 e1 _ fun σ1 hE1 w1 => hs c ρ1 σ1 H _ _ ρ' hE1 r2 hb Q fun σ2 hE2 w2 => q σ2 hE2 fun vs hv => ?_⟩
    rw [slotsPs] at hv
    exact (w2 vs fun i hi => hv i (List.mem_append.mpr (.inr hi))).trans (w1 vs fun i hi => hv i (List.mem_append.mpr (.inl hi)))
theorem bindPs_len : ∀ {ps : List Pat} {ds : List Dat} {ρ ρ' : Ro}, bindPs ps ds ρ = some ρ' → ds.length = ps.length
  | [], [], _, _, _ => rfl
  | [], _ :: _, _, _, h => by rw [bindPs] at h <;> first | cases h | (intros; simp_all)
  | _ :: _, [], _, _, h => by rw [bindPs] at h <;> first | cases h | (intros; simp_all)
  | p :: ps, d :: ds, _, _, h => by
    rw [bindPs] at h
    obtain ⟨ρ1, _, h⟩ := pbind_eq h
    rw [List.length_cons, List.length_cons, bindPs_len h]
theorem ep_tp {u : TGs} {ps : List Pat} {n : Nat} (hn : ps.length = n) (h : EvPs g u ps) : EvP g (gTup g.K n u) (.tp ps) := fun c ρ σ H v d ρ' hE r hb Q q => by
  cases d with
  | tuple ds =>
    simp only [bindP] at hb
    obtain ⟨a, xs, rfl, sa, ra⟩ := r.tup_inv
    exact ⟨a, xs, rfl, .of sa, by rw [ra.length, bindPs_len hb, hn], h c ρ σ H xs ds ρ' hE ra hb Q fun σ' h1 h2 => q σ' h1 fun vs hv => h2 vs fun i hi => hv i (by rw [slotsP]; exact hi)⟩
  | _ => simp [bindP] at hb
end
mutual
/-- the reading of a pattern -/
def pG (K : PySem.W.Frag) : Pat → TG
  | .nm i => gName i
  | .tp ps => gTup K ps.length (pGs K ps)
def pGs (K : PySem.W.Frag) : List Pat → TGs
  | [] => gNil
  | p :: ps => gCons (pG K p) (pGs K ps)
end
mutual
theorem ep_all {g : Gx} : ∀ p : Pat, EvP g (pG g.K p) p
  | .nm i => by rw [pG]; exact ep_nm
  | .tp ps => by rw [pG]; exact ep_tp rfl (eps_all ps)
theorem eps_all {g : Gx} : ∀ ps : List Pat, EvPs g (pGs g.K ps) ps
  | [] => by rw [pGs]; exact eps_nil
  | p :: ps => by rw [pGs]; exact eps_cons (ep_all p) (eps_all ps)
end
/-- the target of a loop: what it binds -/
abbrev SP_ (X : Cx) (tg : Expr) (p : Pat) : Prop := PG X tg (pG X.K p)
abbrev SPs_ (X : Cx) (tgs : List Expr) (ps : List Pat) : Prop := PGs X tgs (pGs X.K ps)
section
variable {X : Cx} {W : WX} {pos : Pos} {e : Expr} {es : List Expr} {p : Pat} {ps : List Pat} {me : ME}
theorem sp_nm {i : Nat} {x : Str} (hN : X.N.Nodup) (hi : X.N[i]? = some x) (hx : Loc X.env.scope x) (hf : X.fn x = true ∨ X.env.scope.names.lookup x = some .local) : SP_ X (.Name x pos) (.nm i) := by
  unfold SP_; rw [pG]; exact pg_name hN hi hx hf
theorem sps_nil : SPs_ X [] [] := by unfold SPs_; rw [pGs]; exact pgs_nil
theorem sps_cons (h : SP_ X e p) (hr : SPs_ X es ps) (hs : (assignEach (e :: es) X.env).map (·.2) = assign e X.env :: (assignEach es X.env).map (·.2)) : SPs_ X (e :: es) (p :: ps) := by
  unfold SPs_; rw [pGs]; exact pgs_cons h hr hs
theorem sp_tp {k : Nat} (hc : X.calm = true) (h : SPs_ X es ps) (hn : (assignEach es X.env).length = ps.length) (hst : (assignEach es X.env).findIdx? (·.1) = none) : SP_ X (.Tuple es k pos) (.tp ps) := by
  unfold SP_; rw [pG]; exact pg_tup (n := ps.length) hc h hn hst
def mPat (p : Pat) (m : ME) : MS := fun ρ S => (m ρ S).st ρ fun d S1 => match bindP p d ρ with
  | some ρ' => .nx ρ' S1
  | none => .bad
theorem ss_pat {tg : Expr} (hp : SP_ X tg p) (he : SE X W e me) (hs : swapsWithSole [tg] e pos.line X.env = pure false) (hw : swappedStores [tg] e X.env = pure none) (h1 : (assignEach [tg] X.env).map (·.2) = [assign tg X.env]) : SS X W (.Assign [tg] e pos) (mPat p me) := by
  refine PS_of (ps_asg he hp hs hw h1) fun D σ H ⟨c, ρ, S, hE', hS, h⟩ => ?_
  refine ⟨c, ρ, S, hE', hS, (Ps.st hE' h).mono fun c1 S1 d H1 g1 s1 h1 v rv => ?_⟩
  cases q : bindP p d ρ with
  | none => rw [q] at h1; exact h1.elim
  | some ρ' =>
    rw [q] at h1
    exact ep_all (g := gOf X) p c1 ρ σ H1 v d ρ' (hE'.gr g1) rv q _ fun σ' k1 _ => h1 c1 σ' H1 .refl s1 k1
end
end PL

set_option Elab.async false
set_option linter.all false
set_option maxRecDepth 100000
set_option autoImplicit false
set_option maxHeartbeats 4000000
namespace PL
open PySem L2

instance : DecidableEq Cell := fun a b => match a, b with
  | .lst x, .lst y => if h : x = y then .isTrue (by rw [h]) else .isFalse fun e => h (by cases e; rfl)
  | .ins C x, .ins D y => if h : C = D ∧ x = y then .isTrue (by rw [h.1, h.2]) else .isFalse fun e => h (by cases e; exact ⟨rfl, rfl⟩)
  | .dict x, .dict y => if h : x = y then .isTrue (by rw [h]) else .isFalse fun e => h (by cases e; rfl)
  | .lst _, .ins _ _ => .isFalse fun e => nomatch e
  | .lst _, .dict _ => .isFalse fun e => nomatch e
  | .ins _ _, .lst _ => .isFalse fun e => nomatch e
  | .ins _ _, .dict _ => .isFalse fun e => nomatch e
  | .dict _, .lst _ => .isFalse fun e => nomatch e
  | .dict _, .ins _ _ => .isFalse fun e => nomatch e
/-! ### what is walked -/
/-- the items, and the cells that must stay as they are -/
abbrev MI := Ro → Sto → Res (List Dat × List Nat)
def Wat (ks : List Nat) (S0 S : Sto) : Prop := ∀ k ∈ ks, S[k]? = S0[k]?
instance (ks : List Nat) (S0 S : Sto) : Decidable (Wat ks S0 S) := inferInstanceAs (Decidable (∀ k ∈ ks, S[k]? = S0[k]?))
@[simp] theorem wat_nil (S0 S : Sto) : Wat [] S0 S := fun _ h => nomatch h
theorem wat_refl (ks : List Nat) (S : Sto) : Wat ks S S := fun _ _ => rfl
def ItOk (g : Gx) (c : Cw) (H : Hp) (ks : List Nat) (S : Sto) (J : It) (ds : List Dat) : Prop := ∀ c1 H1 S1, Gr c H c1 H1 → StoOk g c1 S1 H1 → Wat ks S S1 → J.stop ds.length H1 ∧
  ∀ (i : Nat) d, ds[i]? = some d → J.go i H1 ∧ ∀ x H2, J.yld i H1 x H2 → Same H1 H2 ∧ Rp g c1 H2 x d
def RI (g : Gx) (W : WX) (m : MI) : TI := fun σ H R => ∃ c ρ S, EnvOk g c ρ σ H ∧ StoOk g c S H ∧ Po g W σ c H (fun c' S' p H' => ∀ J, ItOk g c' H' p.2 S' J p.1 → R J H') (m ρ S)
abbrev SI (X : Cx) (W : WX) (tg iter : Expr) (m : MI) : Prop := PI X tg iter (RI (gOf X) W m)
theorem PI_of {X : Cx} {tg e : Expr} {t t' : TI} (h : PI X tg e t) (i : ∀ σ H R, t' σ H R → t σ H R) : PI X tg e t' := ⟨fun pins s σ H R I q => h.run pins s σ H R I (i σ H R q)⟩
/-! ### for -/
def mLoop (p : Pat) (b els : MS) (ks : List Nat) (S0 : Sto) : List Dat → Ro → Sto → RSt
  | [], ρ, S => if Wat ks S0 S then els ρ S else .bad
  | x :: xs, ρ, S => if Wat ks S0 S then (match bindP p x ρ with
    | some ρ1 => (match b ρ1 S with
      | .nx ρ2 S1 => mLoop p b els ks S0 xs ρ2 S1
      | .ct ρ2 S1 => mLoop p b els ks S0 xs ρ2 S1
      | .bk ρ2 S1 => .nx ρ2 S1
      | r => r)
    | none => .bad) else .bad
def mFor (mi : MI) (p : Pat) (b els : MS) : MS := fun ρ S => (mi ρ S).st ρ fun (ds, ks) S1 => mLoop p b els ks S1 ds ρ S1
section
variable {X : Cx} {W : WX} {tg iter : Expr} {p : Pat} {body orelse : List Stmt} {mi : MI} {mb me : MS} {pos : Pos}
theorem rs_for {g : Gx} {wg : TG} {D : Ends} {σ : L2.St} {H : Hp} (hp : EvP g wg p) (h : RS g W (mFor mi p mb me) D σ H) : tForE (RI g W mi) wg (RS g W mb) (RS g W me) D σ H := by
  obtain ⟨c, ρ, S, hE, hS, h⟩ := h
  refine ⟨c, ρ, S, hE, hS, (Ps.st hE h).mono fun c1 S1 pr H1 g1 s1 h1 J it => ?_⟩
  obtain ⟨ds, ks⟩ := pr
  dsimp only at h1 it
  refine ⟨fun i m σ H => ∃ c' ρ' S2, Gr c1 H1 c' H ∧ EnvOk g c' ρ' σ H ∧ StoOk g c' S2 H ∧ Ps g W D c' H (mLoop p mb me ks S1 (ds.drop i) ρ' S2) ∧ m = ds.length - i ∧ i ≤ ds.length,
    ⟨_, c1, ρ, S1, .refl, hE.gr g1, s1, h1, rfl, Nat.zero_le _⟩, ?_⟩
  rintro i m σ2 H2 ⟨c2, ρ2, S2, g2, k2, s2, hm2, rfl, hi2⟩
  by_cases lt : i < ds.length
  · have ed : ds[i]? = some ds[i] := List.getElem?_eq_getElem lt
    rw [List.drop_eq_getElem_cons lt, mLoop] at hm2
    by_cases wt : Wat ks S1 S2
    · rw [if_pos wt] at hm2
      obtain ⟨stop, step⟩ := it c2 H2 S2 g2 s2 wt
      obtain ⟨go, yl⟩ := step i _ ed
      cases e3 : bindP p ds[i] ρ2 with
      | none => rw [e3] at hm2; exact hm2.elim
      | some ρ3 =>
        rw [e3] at hm2
        dsimp only at hm2
        refine .inr ⟨go, _, fun σ' H' h => h, fun v H3 hy => ?_⟩
        obtain ⟨k3, r3⟩ := yl v H3 hy
        have s3 := s2.same k3
        refine hp c2 ρ2 σ2 H3 v _ ρ3 (k2.gr (.of_same k3)) r3 e3 _ fun σ3 k4 _ => ?_
        refine ⟨c2, ρ3, S2, k4, s3, ?_⟩
        have g3 : Gr c1 H1 c2 H3 := g2.s k3
        have k32 : Gr c2 H2 c2 H3 := .of_same k3
        cases f4 : mb ρ3 S2 with
        | nx ρ5 S4 =>
          rw [f4] at hm2
          exact fun c5 σ5 H5 g5 s5 k5 => ⟨ds.length - (i + 1), by omega, c5, ρ5, S4, g3.trans g5, k5, s5, Ps.gr (k32.trans g5) hm2, rfl, lt⟩
        | ct ρ5 S4 =>
          rw [f4] at hm2
          exact fun c5 σ5 H5 g5 s5 k5 => ⟨ds.length - (i + 1), by omega, c5, ρ5, S4, g3.trans g5, k5, s5, Ps.gr (k32.trans g5) hm2, rfl, lt⟩
        | bk ρ5 S4 =>
          rw [f4] at hm2
          exact fun c5 σ5 H5 g5 s5 k5 => hm2 c5 σ5 H5 (k32.trans g5) s5 k5
        | rt d S4 =>
          rw [f4] at hm2
          exact fun c5 v5 H5 g5 s5 r5 => hm2 c5 v5 H5 (k32.trans g5) s5 r5
        | ex x ρ5 S4 =>
          rw [f4] at hm2
          exact fun c5 σ5 H5 cls da g5 s5 k5 x5 => hm2 c5 σ5 H5 cls da (k32.trans g5) s5 k5 x5
        | bad => rw [f4] at hm2; exact hm2.elim
    · rw [if_neg wt] at hm2; exact hm2.elim
  · have e : i = ds.length := by omega
    subst e
    rw [List.drop_length, mLoop] at hm2
    by_cases wt : Wat ks S1 S2
    · rw [if_pos wt] at hm2
      obtain ⟨stop, step⟩ := it c2 H2 S2 g2 s2 wt
      exact .inl ⟨stop, c2, ρ2, S2, k2, s2, hm2⟩
    · rw [if_neg wt] at hm2; exact hm2.elim
theorem ss_for (hp : PassesOwn (model X.prog X.w) X.A X.env X.xe) (hc : X.calm = true) (hi : SI X W tg iter mi) (hg : SP_ X tg p) (hb : SSs X W body mb) (ho : SSs X W orelse me)
    (hs : ∀ x, foldedSetIterable iter X.env x = pure x) : SS X W (.For tg iter body orelse pos) (mFor mi p mb me) := by
  exact PS_of (ps_forE hp hc hi hg hb ho hs) fun D σ H h => rs_for (ep_all (g := gOf X) p) h
/-! ### while -/
def mWhile (t : MT) (b els : MS) : Nat → MS
  | 0, _, _ => .bad
  | n + 1, ρ, S => (t ρ S).st ρ fun x S1 => if x then (match b ρ S1 with
    | .nx ρ2 S2 => mWhile t b els n ρ2 S2
    | .ct ρ2 S2 => mWhile t b els n ρ2 S2
    | .bk ρ2 S2 => .nx ρ2 S2
    | r => r) else els ρ S1
theorem rs_while {g : Gx} {mt : MT} {D : Ends} {σ : L2.St} {H : Hp} {n : Nat} (h : RS g W (mWhile mt mb me n) D σ H) : tWhileW (wT (RT g W mt)) (RS g W mb) (RS g W me) D σ H := by
  obtain ⟨c, ρ, S, hE, hS, h⟩ := h
  refine ⟨fun m σ H => ∃ c ρ S, EnvOk g c ρ σ H ∧ StoOk g c S H ∧ Ps g W D c H (mWhile mt mb me m ρ S), ⟨n, c, ρ, S, hE, hS, h⟩, ?_⟩
  rintro m σ1 H1 ⟨c1, ρ1, S1, hE1, hS1, h1⟩
  cases m with
  | zero => exact h1.elim
  | succ m =>
    refine ⟨c1, ρ1, S1, hE1, hS1, (Ps.st hE1 h1).mono fun c2 S2 x H2 g2 s2 h2 => ?_⟩
    cases x with
    | false => exact iteF ⟨c2, ρ1, S2, hE1.gr g2, s2, h2⟩
    | true =>
      refine iteT ⟨fun σ' H' => ∃ c ρ S, EnvOk g c ρ σ' H' ∧ StoOk g c S H' ∧ Ps g W D c H' (mWhile mt mb me m ρ S), fun σ' H' q => ⟨m, Nat.lt_succ_self _, q⟩, c2, ρ1, S2, hE1.gr g2, s2, ?_⟩
      rw [if_pos rfl] at h2
      cases f4 : mb ρ1 S2 with
      | nx ρ5 S4 =>
        rw [f4] at h2
        exact fun c5 σ5 H5 g5 s5 k5 => ⟨c5, ρ5, S4, k5, s5, Ps.gr g5 h2⟩
      | ct ρ5 S4 =>
        rw [f4] at h2
        exact fun c5 σ5 H5 g5 s5 k5 => ⟨c5, ρ5, S4, k5, s5, Ps.gr g5 h2⟩
      | bk ρ5 S4 => rw [f4] at h2; exact h2
      | rt d S4 => rw [f4] at h2; exact h2
      | ex x ρ5 S4 => rw [f4] at h2; exact h2
      | bad => rw [f4] at h2; exact h2.elim
theorem ss_while {t : Expr} {mt : MT} {n : Nat} (hp : PassesOwn (model X.prog X.w) X.A X.env X.xe) (ht : STt X W t mt) (hb : SSs X W body mb) (ho : SSs X W orelse me) : SS X W (.While t body orelse pos) (mWhile mt mb me n) :=
  PS_of (ps_whileE hp ht hb ho) fun D σ H h => rs_while h
end
/-! ### list comprehensions -/
def mLcL (p : Pat) (mt : MT) (me : ME) (ks : List Nat) (S0 : Sto) : List Dat → Ro → Sto → List Dat → Res (List Dat)
  | [], _, S, acc => if Wat ks S0 S then .ok acc S else .bad
  | x :: xs, ρ, S, acc => if Wat ks S0 S then (match bindP p x ρ with
    | some ρ1 => (match mt ρ1 S with
      | .ok b S1 => if b then (match me ρ1 S1 with
          | .ok y S2 => if acc.length < sizeLine then mLcL p mt me ks S0 xs ρ S2 (acc ++ [y]) else .bad
          | _ => .bad) else mLcL p mt me ks S0 xs ρ S1 acc
      | _ => .bad)
    | none => .bad) else .bad
/-- vs: the block's own slots; o: what is made will be changed -/
def mLc (mi : MI) (p : Pat) (mt : MT) (me : ME) (vs : List Nat) (o : Bool) : ME := fun ρ S => (mi ρ S).bnd fun (ds, ks) S1 => (mLcL p mt me ks S1 ds (wipeE ρ vs) S1 []).bnd fun ys S2 => ofP (newL o ys S2)
/-- a thing that is owned and no cell -/
def Cw.hide (c : Cw) (D : Addr) : Cw := ⟨fun b => c.O b ∨ b = D, c.as, fun a h => .inl (c.sub a h)⟩
def Cw.bare (c : Cw) (D : Addr) (n : D ∉ c.as) : Cw := ⟨fun b => c.O b ∧ b ≠ D, c.as, fun a h => ⟨c.sub a h, fun e => n (e ▸ h)⟩⟩
/-- it becomes a cell -/
def Cw.show_ (c : Cw) (D : Addr) (o : c.O D) : Cw := ⟨c.O, c.as ++ [D], fun a h => (List.mem_append.mp h).elim (c.sub a) fun z => by rw [List.mem_singleton.mp z]; exact o⟩
theorem StoOk.tr {g : Gx} {c c' : Cw} {S : Sto} {H H' : Hp} (h : StoOk g c S H) (t : Tr g c H c' H') (e : c'.as = c.as) (o : ∀ a, c'.O a → ∃ u, H' a = some u) (k : ∀ a ∈ c.as, ∀ u, H a = some u → H' a = some u) : StoOk g c' S H' :=
  ⟨by rw [e]; exact h.len, by rw [e]; exact h.nd, o, fun i a x e1 e2 => by
    rw [e] at e1
    exact (h.cells i a x e1 e2).tr t fun u hu => k a (List.mem_of_getElem? e1) u hu⟩
theorem lc_end {g : Gx} {c c2 : Cw} {H H2 : Hp} {S2 : Sto} {D : Addr} {va : List V} {ys : List Dat} {o : Bool} {Q : VK} {d : Dat} {S' : Sto} (hD : H D = none) (nO : ¬ c.O D) (g2 : Gr c H c2 H2) (o2 : c2.O D) (n2 : D ∉ c2.as) (s2 : StoOk g c2 S2 H2) (hD2 : H2 D = some (.lst va)) (ra : RpAll g c2 H2 va ys)
    (e : newL o ys S2 = some (d, S')) (f : ∀ c' v H', Gr c H c' H' → StoOk g c' S' H' → Rp g c' H' v d → Q v H') : Q (.ref D) H2 := by
  unfold newL at e
  split at e
  · cases o with
    | false =>
      rw [if_neg (by decide)] at e
      cases e
      have tl : Tr g c2 H2 (c2.bare D n2) H2 := .less (fun b h => h.1) rfl
      refine f (c2.bare D n2) _ H2 ⟨g2.ex, fun b hb => ⟨g2.up b hb, fun e => ?_⟩, fun b hb => g2.dn b hb.1, g2.kp, g2.ki⟩ (s2.tr tl rfl (fun a ha => s2.own a ha.1) fun _ _ _ h => h) (.lst (.inl ⟨hD2, fun z => z.2 rfl⟩) (ra.tr tl))
      subst e
      exact nO hb
    | true =>
      rw [if_pos rfl] at e
      cases e
      have tl : Tr g c2 H2 (c2.show_ D o2) H2 := by
        refine ⟨fun a xs h => h, fun a xs h => h, fun a A dx fs h n => ⟨h, n⟩, fun a o h _ => h, fun k a h => ?_⟩
        show (c2.as ++ [D])[k]? = some a
        rw [List.getElem?_append_left (List.getElem?_eq_some_iff.mp h).1]; exact h
      obtain ⟨new, e1, e2⟩ := g2.ex
      refine f (c2.show_ D o2) _ H2 ⟨⟨new ++ [D], by show c2.as ++ [D] = _; rw [e1, List.append_assoc], fun a ha => ?_⟩, g2.up, g2.dn, g2.kp, g2.ki⟩ ⟨?_, ?_, s2.own, fun i b y q1 q2 => ?_⟩ (.own ?_)
      · rcases List.mem_append.mp ha with z | z
        · exact e2 a z
        · rw [List.mem_singleton.mp z]; exact hD
      · show (c2.as ++ [D]).length = (S2 ++ [_]).length
        rw [List.length_append, List.length_append, s2.len]; rfl
      · show (c2.as ++ [D]).Nodup
        rw [List.nodup_append]
        exact ⟨s2.nd, List.nodup_cons.mpr ⟨fun z => (List.not_mem_nil z), List.nodup_nil⟩, fun a ha b hb e => by rw [List.mem_singleton] at hb; subst e; subst hb; exact n2 ha⟩
      · have q1' : (c2.as ++ [D])[i]? = some b := q1
        by_cases l : i < c2.as.length
        · rw [List.getElem?_append_left l] at q1'
          rw [List.getElem?_append_left (by rw [← s2.len]; exact l)] at q2
          exact (s2.cells i b y q1' q2).tr tl fun u hu => hu
        · have li : i = c2.as.length := by
            have := (List.getElem?_eq_some_iff.mp q1').1
            rw [List.length_append, List.length_singleton] at this
            omega
          rw [li, List.getElem?_append_right (Nat.le_refl _), Nat.sub_self] at q1'
          cases q1'
          rw [li, s2.len, List.getElem?_append_right (Nat.le_refl _), Nat.sub_self] at q2
          cases q2
          exact ⟨va, hD2, ra.tr tl⟩
      · show (c2.as ++ [D])[S2.length]? = some D
        rw [← s2.len, List.getElem?_append_right (Nat.le_refl _), Nat.sub_self]; rfl
  · cases e
abbrev W0 : WX := fun _ _ _ _ => False
/-- outcomes in a block: no exception leaves it -/
theorem re_lc {g : Gx} {W : WX} {wg : TG} {p : Pat} {mi : MI} {mt : MT} {me : ME} {vs : List Nat} {o : Bool} {σ : L2.St} {H : Hp} {Q : VK} (hp : EvP g wg p) (hv : ∀ i ∈ slotsP p, i ∈ vs) (h : RE g W (mLc mi p mt me vs o) σ H Q) :
    tLc (RI g W mi) wg (RT g W0 mt) (RE g W0 me) vs σ H Q := by
  obtain ⟨c, ρ, S, hE, hS, h⟩ := h
  refine ⟨c, ρ, S, hE, hS, (Po.bnd h).mono fun c1 S1 pr H1 g1 s1 h1 J it => fun D hD => ?_⟩
  obtain ⟨ds, ks⟩ := pr
  dsimp only at h1 it
  have nO : ¬ c1.O D := s1.not hD
  have nA : D ∉ c1.as := fun z => nO (c1.sub D z)
  cases e2 : mLcL p mt me ks S1 ds (wipeE ρ vs) S1 [] with
  | bad => rw [e2] at h1; exact h1.elim
  | ex x S' =>
    exfalso
    have no : ∀ (xs : List Dat) (ρ : Ro) (S : Sto) (acc : List Dat) x S', mLcL p mt me ks S1 xs ρ S acc ≠ .ex x S' := by
      intro xs
      induction xs with
      | nil => intro ρ S acc x S' z; rw [mLcL] at z; split at z <;> cases z
      | cons y ys ih =>
        intro ρ S acc x S' z
        rw [mLcL] at z
        split at z
        · split at z
          · split at z
            · split at z
              · split at z
                · split at z
                  · exact ih _ _ _ _ _ z
                  · cases z
                · cases z
              · exact ih _ _ _ _ _ z
            · cases z
          · cases z
        · cases z
    exact no _ _ _ _ _ _ e2
  | ok ys S' =>
    rw [e2] at h1
    obtain ⟨d, S3, e3, fq⟩ := Po.ofP h1
    have fq' : ∀ c' v H', Gr c1 H1 c' H' → StoOk g c' S3 H' → Rp g c' H' v d → Q v H' := fun c' v H' g' s' r' => fq c' H' g' s' v r'
    refine ⟨fun i m H => ∃ c' S2 acc va, Gr c1 H1 c' H ∧ c'.O D ∧ D ∉ c'.as ∧ StoOk g c' S2 H ∧ H D = some (.lst va) ∧ RpAll g c' H va acc ∧ mLcL p mt me ks S1 (ds.drop i) (wipeE ρ vs) S2 acc = .ok ys S' ∧ m = ds.length - i ∧ i ≤ ds.length, ⟨ds.length - 0, ?_⟩, ?_⟩
    · have gh : Gr c1 H1 (c1.hide D) (upd H1 D (.lst [])) := ⟨⟨[], (List.append_nil _).symm, fun _ h => nomatch h⟩, fun _ h => .inl h, fun b h => h.elim .inl fun e => .inr (by rw [e]; exact hD), fun a o h _ => .inl (same_new hD a o h), fun a o h => ⟨o, same_new hD a o h⟩⟩
      refine ⟨c1.hide D, S1, [], [], gh, .inr rfl, nA, s1.tr gh.tr rfl (fun a ha => ?_) (fun a _ u hu => same_new hD a u hu), upd_same, .nil, e2, rfl, Nat.zero_le _⟩
      rcases ha with ha | ha
      · obtain ⟨u, e⟩ := s1.own a ha
        exact ⟨u, same_new hD a u e⟩
      · subst ha; exact ⟨_, upd_same⟩
    · rintro i m H2 ⟨c2, S2, acc, va, g2, o2, n2, s2, hD2, ra, hm2, rfl, hi2⟩
      by_cases lt : i < ds.length
      · have ed : ds[i]? = some ds[i] := List.getElem?_eq_getElem lt
        rw [List.drop_eq_getElem_cons lt, mLcL] at hm2
        by_cases wt : Wat ks S1 S2
        · rw [if_pos wt] at hm2
          obtain ⟨stop, step⟩ := it c2 H2 S2 g2 s2 wt
          obtain ⟨go, yl⟩ := step i _ ed
          cases e3 : bindP p ds[i] (wipeE ρ vs) with
          | none => rw [e3] at hm2; cases hm2
          | some ρ3 =>
            rw [e3] at hm2
            dsimp only at hm2
            refine .inr ⟨go, _, fun H' h => h, fun v H3 hy => ?_⟩
            obtain ⟨k3, r3⟩ := yl v H3 hy
            have hE2 : EnvOk g c2 (wipeE ρ vs) (wipe σ vs) H3 := ((hE.gr g1).gr (g2.s k3)).wipe vs
            refine hp c2 _ _ H3 v _ ρ3 hE2 r3 e3 _ fun σ3 k4 w4 => ⟨(w4 vs hv).trans wipe_wipe, c2, ρ3, S2, k4, s2.same k3, ?_⟩
            cases e4 : mt ρ3 S2 with
            | bad => rw [e4] at hm2; cases hm2
            | ex x S4 => rw [e4] at hm2; cases hm2
            | ok b S4 =>
              rw [e4] at hm2
              dsimp only at hm2
              intro c5 H5 g5 s5
              have hD3 := k3 _ _ hD2
              have hD5 := g5.keepA hD3 n2 o2
              have n5 := g5.notA hD3 n2
              have ra5 : RpAll g c5 H5 va acc := ra.gr (Gr.trans (.of_same k3) g5)
              have g25 : Gr c1 H1 c5 H5 := (g2.s k3).trans g5
              cases b with
              | false =>
                rw [if_neg (by decide)] at hm2
                exact iteF ⟨ds.length - (i + 1), by omega, c5, S4, acc, va, g25, g5.up _ o2, n5, s5, hD5, ra5, hm2, rfl, lt⟩
              | true =>
                rw [if_pos rfl] at hm2
                refine iteT ⟨c5, ρ3, S4, k4.gr g5, s5, ?_⟩
                cases e6 : me ρ3 S4 with
                | bad => rw [e6] at hm2; cases hm2
                | ex x S5 => rw [e6] at hm2; cases hm2
                | ok y S6 =>
                  rw [e6] at hm2
                  dsimp only at hm2
                  intro c6 H6 g6 s6 u r6
                  split at hm2
                  · rename_i la
                    have hD6 := g6.keepA hD5 n5 (g5.up _ o2)
                    have n6 := g6.notA hD5 n5
                    have o6 := g6.up _ (g5.up _ o2)
                    refine ⟨va, hD6, by rw [ra.length]; exact la, ds.length - (i + 1), by omega, c6, S6, acc ++ [y], va ++ [u], ?_, o6, n6, ?_, upd_same, ?_, hm2, rfl, lt⟩
                    · refine ⟨(g25.trans g6).ex, (g25.trans g6).up, (g25.trans g6).dn, fun a o h m => ?_, fun a o h => ?_⟩
                      · rw [upd_ne (ne_of_none h hD)]; exact (g25.trans g6).kp a o h m
                      · rw [upd_ne (ne_of_none h hD)]; exact (g25.trans g6).ki a o h
                    · refine s6.tr (.kp (.put hD6 trivial o6)) rfl (fun a ha => ?_) (fun a ha w hw => ?_)
                      · by_cases e : a = D
                        · subst e; exact ⟨_, upd_same⟩
                        · rw [upd_ne e]; exact s6.own a ha
                      · rw [upd_ne (fun e : a = D => n6 (by rw [← e]; exact ha))]; exact hw
                    · exact ((ra5.gr g6).append (.cons r6 .nil)).tr (.kp (.put hD6 trivial o6))
                  · cases hm2
        · rw [if_neg wt] at hm2; cases hm2
      · have e : i = ds.length := by omega
        subst e
        rw [List.drop_length, mLcL] at hm2
        by_cases wt : Wat ks S1 S2
        · rw [if_pos wt] at hm2
          obtain ⟨stop, step⟩ := it c2 H2 S2 g2 s2 wt
          cases hm2
          exact .inl ⟨stop, lc_end hD nO g2 o2 n2 s2 hD2 ra e3 fq'⟩
        · rw [if_neg wt] at hm2; cases hm2
/-! the tests of a clause -/
def mTrue : MT := fun _ S => .ok true S
structure STs (X : Cx) (W : WX) (ifs : List Expr) (m : MT) : Prop where
  ex : PTs X ifs (RT (gOf X) W m)
theorem PTs_of {X : Cx} {e : List Expr} {t t' : TT} (h : PTs X e t) (i : ∀ σ H Q, t' σ H Q → t σ H Q) : PTs X e t' := ⟨fun pins s σ H Q I q => h.run pins s σ H Q I (i σ H Q q)⟩
theorem sts_nil {X : Cx} {W : WX} : STs X W [] mTrue := ⟨PTs_of pts_nil fun σ H Q ⟨c, ρ, S, hE, hS, h⟩ => Po.ok h hS⟩
theorem sts_one {X : Cx} {W : WX} {e : Expr} {m : MT} (h : STt X W e m) : STs X W [e] m := ⟨pts_one h⟩
section
variable {X : Cx} {W : WX} {elt tg iter : Expr} {ifs : List Expr} {scope : Scope} {own : List (Str × Nat)} {pos spos py : Pos} {mi : MI} {p : Pat} {mt : MT} {me : ME} {o : Bool}
/-- what is asked of the parts of a block -/
abbrev Blk (X : Cx) (scope : Scope) (T : Cx → Prop) : Prop := ∀ (s : Shared) (H : Hp) (C : Addr) (cl : List (Str × Addr)) (fp : List Addr), T (X.blk s H scope (compEnvC scope cl C X.env) fp)
theorem se_lc (hc : X.calm = true) (hN : X.N.Nodup) (hi : SI X W tg iter mi) (ok : BlkOk X.N X.env.scope scope own) (hv : ∀ i ∈ slotsP p, i ∈ own.map (·.2))
    (hg : Blk X scope fun Y => SP_ Y tg p) (ht : Blk X scope fun Y => STs Y W0 ifs mt) (he : Blk X scope fun Y => SE Y W0 elt me)
    (hs : ∀ x, foldedSetIterable iter X.env x = pure x) : SE X W (.ListComp elt [⟨tg, iter, ifs, 0⟩] scope pos) (mLc mi p mt me (own.map (·.2)) o) :=
  PE_of (pe_lc hc hN hi ok (fun s H C cl fp => hg s H C cl fp) (fun s H C cl fp => (ht s H C cl fp).ex) (fun s H C cl fp => he s H C cl fp) hs) fun σ H Q h => re_lc (ep_all (g := gOf X) p) hv h
theorem ss_setLc {i : Nat} {y : Str} (hc : X.calm = true) (hN : X.N.Nodup) (hy : X.N[i]? = some y) (hyl : X.env.scope.names.lookup y = some .local)
    (hsw : swapsWith (.ListComp elt [⟨tg, iter, ifs, 0⟩] scope pos) (some (.Name y py)) spos.line X.env = pure true) (hi : SI X W tg iter mi) (ok : BlkOk X.N X.env.scope scope own) (hv : ∀ i ∈ slotsP p, i ∈ own.map (·.2))
    (hg : Blk X scope fun Y => SP_ Y tg p) (ht : Blk X scope fun Y => STs Y W0 ifs mt) (he : Blk X scope fun Y => SE Y W0 elt me)
    (hs : ∀ x, foldedSetIterable iter X.env x = pure x) : SS X W (.Assign [.Name y py] (.ListComp elt [⟨tg, iter, ifs, 0⟩] scope pos) spos) (mSet i (mLc mi p mt me (own.map (·.2)) o)) :=
  PS_of (ps_setLc hc hN hy hyl hsw hi ok (fun s H C cl fp => hg s H C cl fp) (fun s H C cl fp => (ht s H C cl fp).ex) (fun s H C cl fp => he s H C cl fp) hs) fun D σ H ⟨c, ρ, S, hE, hS, h⟩ => by
    refine re_lc (g := gOf X) (W := W) (o := o) (ep_all (g := gOf X) p) hv ⟨c, ρ, S, hE, hS, (Ps.st hE h).mono fun c1 S1 d H1 g1 s1 h1 v rv => h1 c1 _ H1 .refl s1 ((hE.gr g1).set rv)⟩
end
end PL

set_option Elab.async false
set_option linter.all false
set_option maxRecDepth 100000
set_option autoImplicit false
set_option maxHeartbeats 4000000
namespace PL
open PySem PySem.Spec PyProof.Rows L2
/-! ### enumerate(a tuple) -/
theorem meets_enum1 {v : Value} {o : Obj} {Z : Heap → Prop} (B : Begins v o Z) :
    Meets (Builtin.«enumerate.__new__» ⟨[.type "enumerate", v], []⟩) (fun _ R s => Z s.heap ∧
      R (.ok (.ret (.ref (s.heap.push o).objs.size))) { s with heap := (s.heap.push o).push { cls := .type "enumerate", data := .fields #[.none, .bool false, .ref s.heap.objs.size, rawInt 0, .none, .none] } }) :=
  .of_wp fun prog w A R s pre => by
    obtain ⟨hp, gs, dr, tk, os⟩ := s
    obtain ⟨z, post⟩ := pre
    have isSub := sub_enumerate
    have it : ∀ {A2 : Around} {E : Value → Shared → Prop} {Q : Value → Shared → Prop}, Q (.ref hp.objs.size) ⟨hp.push o, gs, dr, tk, os⟩ → wpAny (model prog w) A2 (pyIter v) Q E ⟨hp, gs, dr, tk, os⟩ :=
      fun q => B.iter prog w _ _ ⟨hp, gs, dr, tk, os⟩ _ z q
    wp_walk using it
    refine wpAny_stack_any fun st => wpAny_pure ?_
    split
    · rename_i c _ _ _ _ _
      cases (c == Value.type "enumerate") <;> (wp_walk using it; exact ⟨_, rfl, post⟩)
    · wp_walk using it; exact ⟨_, rfl, post⟩
section
variable {prog : Program} {w : World} {A : Around} {E : Value → Shared → Prop} {s : Shared}
theorem enum_of {v : Value} {o : Obj} {Z : Heap → Prop} {Q : Value → Shared → Prop} (B : Begins v o Z) (z : Z s.heap)
    (k : ∀ h', IsEnum h' (s.heap.objs.size + 1) s.heap.objs.size 0 .none → h'.get? s.heap.objs.size = some o → (∀ b u, s.heap.get? b = some u → h'.get? b = some u) → Q (.ref (s.heap.objs.size + 1)) { s with heap := h' }) :
    wpAny (model prog w) A (call (.type "enumerate") [v]) Q E s := by
  refine callType_new F.called_enumerate (by decide) (F.typeCall_enumerate_1 _) (F.newCall_enumerate_1 _) (fun obj => F.args_object_init_2 obj _) F.entry_enumerate_new (meets_enum1 B) ⟨z, ?_⟩
  have size1 : (s.heap.push o).objs.size = s.heap.objs.size + 1 := Heap.size_push ..
  have made := Heap.get?_push_size (s.heap.push o) (o := { cls := .type "enumerate", data := .fields #[.none, .bool false, .ref s.heap.objs.size, rawInt 0, .none, .none] }) rfl
  rw [size1] at made
  show _ ∧ _
  rw [size1]
  exact ⟨⟨_, made, rfl⟩, k _ made (Heap.get?_push_of_some _ (Heap.get?_push_size _ B.free)) fun b u e => Heap.get?_push_of_some _ (Heap.get?_push_of_some _ e)⟩
end
/-- the items of the tuple at a with their numbers, in new pairs -/
def ItEnumT (K : PySem.W.Frag) (a : Addr) : It where
  go := fun i H => ∃ (xs : List V) (y : V), SqT K H a xs ∧ xs[i]? = some y
  yld := fun i H v H' => ∃ T y, v = .ref T ∧ H T = none ∧ H' = upd H T (.tup [.int (i : Nat), y]) ∧ ∀ xs, SqT K H a xs → xs[i]? = some y
  stop := fun i H => ∃ xs : List V, SqT K H a xs ∧ xs.length = i
theorem turn_enumT {P : Program} {w : World} {K : PySem.W.Frag} {elts : List Expr} {kk : Nat} {tpos : Pos} (a e it : Addr) :
    Turn P w K (.Tuple elts kk tpos) (ItEnumT K a) [e, it] e (fun i h => (∃ old, IsEnum h e it ((i : Nat) : Int) old) ∧ h.IsTupleIter it a i ∧ e ≠ it) where
  mem := List.mem_cons_self
  obj := by
    rintro i h ⟨⟨old, he⟩, ⟨o, ho, hc, hd⟩, _⟩ b hb
    rcases List.mem_cons.mp hb with z | hb
    · subst z; exact ⟨_, he, fun v q => nomatch q⟩
    · have z := List.mem_singleton.mp hb
      subst z; exact ⟨o, ho, fun v q => by rw [hd] at q; cases q⟩
  keep := by
    rintro i h h' ⟨⟨old, he⟩, hi, hne⟩ k
    exact ⟨⟨old, k e List.mem_cons_self _ he⟩, hi.at fun o q => k it (List.mem_cons_of_mem _ List.mem_cons_self) o q, hne⟩
  item := by
    intro X hP hw hK hc i pins s σ H E I hf st hg
    subst hP hw hK
    obtain ⟨⟨old, he⟩, hit, hne⟩ := st
    obtain ⟨xs, y, sq, hy⟩ := hg
    obtain ⟨its, rv, tup, hz⟩ := I.tuple sq
    obtain ⟨u, hu, ru⟩ := rv.get hy
    have le : e < s.heap.objs.size := Heap.lt_size he
    have li : it < s.heap.objs.size := by obtain ⟨_, q, _⟩ := hit; exact Heap.lt_size q
    have nai : a ≠ it := by
      intro z
      obtain ⟨o1, h1, c1, _⟩ := tup
      obtain ⟨o2, h2, c2, _⟩ := hit
      rw [z, h2] at h1
      cases h1
      rw [c1] at c2
      exact absurd (Value.type.inj c2) (by decide)
    have nea : e ≠ a := by
      intro z
      obtain ⟨o1, h1, c1, _⟩ := tup
      rw [← z] at h1
      have h2 : s.heap.get? e = some _ := he
      rw [h2] at h1
      cases h1
      exact absurd (Value.type.inj c1) (by decide)
    have D : Draws X.prog X.w X.A.in1 it [it, a] its.toArray.size (fun i v => its.toArray[i]? = some v) (fun i h => h.IsTupleIter it a i ∧ h.IsTuple a its.toArray) := Draws.tuple (A := X.A.in1) (show X.A.in1.handled = none from I.ok.hd hc) it a nai its.toArray
    have hlt : i < its.toArray.size := by
      have := (List.getElem?_eq_some_iff.mp hu).1
      simpa using this
    refine wpAny_pyNext_enum_itemD D he ⟨hit, tup⟩ hlt hne (by simp [hne, nea]) fun x h' tk hx out st' made hsz hk => ?_
    have ex : x = u := by
      have q : its.toArray[i]? = some u := by simpa using hu
      rw [q] at hx
      exact (Option.some.inj hx).symm
    subst ex
    refine ⟨_, rfl, wpAny_letOwnedTupleGo_enum (s := { s with heap := h', toks := tk + 1 }) out fun h2 he2 sb => ?_⟩
    have made2 : h2.get? s.heap.objs.size = some { cls := .type "tuple", data := .seq #[.int i tk, x] } := (sb.2 _ (Nat.ne_of_gt le)).trans made
    have new : ObjOk X.prog X.w (upd H s.heap.objs.size (.tup [.int (i : Nat), y])) h2 s.heap.objs.size (.tup [.int (i : Nat), y]) :=
      ⟨by show 2 ≤ sizeLine; decide, [.int i tk, x], .cons ⟨_, rfl⟩ (.cons ru .nil), ⟨_, made2, rfl, _, rfl⟩⟩
    have I1 : Inv X pins σ (upd H s.heap.objs.size (.tup [.int (i : Nat), y])) { s with heap := h2, toks := tk + 1 } :=
      I.turnedNew (ch := [e, it]) (fun b ob hb q => (sb.2 b (fun z => hb (by rw [z]; exact List.mem_cons_self))).trans (hk b ob (fun z => hb (by rw [z]; exact List.mem_cons_self)) (fun z => hb (by rw [z]; exact List.mem_cons_of_mem _ List.mem_cons_self)) q)) hf (Nat.le_refl _) new
    refine ⟨.ref s.heap.objs.size, _, I1, rfl, ⟨_, y, rfl, I.hok.fresh (Nat.le_refl _), rfl, fun ys hys => by rw [I.tuple_inj hys sq]; exact hy⟩, ⟨⟨x, ?_⟩, st'.1.at fun o q => (sb.2 it (Ne.symm hne)).trans q, hne⟩, fun b hb => ?_⟩
    · have e1 : ((i + 1 : Nat) : Int) = (i : Int) + 1 := by omega
      rw [e1]; exact he2
    · have lb : b < s.heap.objs.size := by
        rcases List.mem_cons.mp hb with z | hb
        · rw [z]; exact le
        · rw [List.mem_singleton.mp hb]; exact li
      rw [upd_ne (Nat.ne_of_lt lb)]
      exact (hf b hb).1
  done := by
    intro X hP hw hK hc i pins s σ H E I hf st hg
    subst hP hw hK
    obtain ⟨⟨old, he⟩, hit, hne⟩ := st
    obtain ⟨xs, sq, hx⟩ := hg
    obtain ⟨its, rv, tup, hz⟩ := I.tuple sq
    obtain ⟨f0, f1, f2, f3, f4, f5⟩ := hf it (List.mem_cons_of_mem _ List.mem_cons_self)
    have nai : a ≠ it := by
      intro z
      obtain ⟨o1, h1, c1, _⟩ := tup
      obtain ⟨o2, h2, c2, _⟩ := hit
      rw [z, h2] at h1
      cases h1
      rw [c1] at c2
      exact absurd (Value.type.inj c2) (by decide)
    have ln : its.toArray.size = i := by rw [List.size_toArray, ← rv.length, hx]
    have D := Draws.tuple (prog := X.prog) (w := X.w) (A := X.A.in1) (show X.A.in1.handled = none from I.ok.hd hc) it a nai its.toArray
    rw [ln] at D
    exact wpAny_pyNext_enum_endD D he ⟨hit, tup⟩ fun h' eb => ⟨rfl, I.turned (t' := s.toks) (fun b o hb q => eb b o hb q) f0 f1 f3 f4 f5⟩
  self := fun A i s Q E st h => by
    obtain ⟨⟨_, he⟩, _⟩ := st
    exact wpAny_pyIter_enum he h
def iEnumT (K : PySem.W.Frag) (ta : TA) : TI := fun σ H R => ta σ H fun vs H1 => ∃ a xs, vs = [.ref a] ∧ SqT K H1 a xs ∧ R (ItEnumT K a) H1
theorem pi_enumT {X : Cx} {e : Expr} {ta : TA} {p pos tpos : Pos} {elts : List Expr} {kk : Nat} (hg : Gl X "enumerate") (hm : X.mg "enumerate" = none) (ha : PA X [e] ta) (hs : starEach [e] X.env = [(false, eval e X.env)] := by rfl) :
    PI X (.Tuple elts kk tpos) (.Call (.Name "enumerate" p) [e] [] pos) (iEnumT X.K ta) := by
  refine ⟨fun pins s σ H R I h => Call_ (ld_blt I hg hm boot_enumerate (PyProof.Rows.callWith_type1 (thn (ha.run pos pins s σ H _ I h) fun us s1 hh => ?_) hs rfl))⟩
  obtain ⟨vs, H1, I1, rel, a, xs, ev, sq, q⟩ := hh
  subst ev
  obtain ⟨u, rfl, ru⟩ := vals1 rel
  cases ru
  obtain ⟨its, rv, tup, hz⟩ := I1.tuple sq
  refine enum_of (begins_tuple a its.toArray) tup fun h' he hit hk => wpAny_pyIter_enum he ?_
  have I2 : Inv X pins σ H1 { s1 with heap := h' } := I1.kept (t' := s1.toks) hk
  refine ⟨s1.heap.objs.size + 1, [s1.heap.objs.size + 1, s1.heap.objs.size], _, _, H1, rfl, I2, turn_enumT a (s1.heap.objs.size + 1) s1.heap.objs.size, ⟨⟨.none, he⟩, ⟨_, hit, rfl, rfl⟩, Nat.succ_ne_self _⟩, fun b hb => ?_, q⟩
  have above : s1.heap.objs.size ≤ b := by
    rcases List.mem_cons.mp hb with z | hb
    · rw [z]; exact Nat.le_succ _
    · rw [List.mem_singleton.mp hb]; exact Nat.le_refl _
  exact I1.fpOk above (I1.hok.fresh above)

/-! ### what is walked, by kinds -/
def iAny (K : PySem.W.Frag) (tl : TE) : TI := fun σ H R => iList K tl σ H R ∨ iTup K tl σ H R ∨ iStr tl σ H R
theorem pi_any {X : Cx} {tg l : Expr} {tl : TE} (hl : PE X l tl) : PI X tg l (iAny X.K tl) :=
  ⟨fun pins s σ H R I h => h.elim ((pi_list hl).run pins s σ H R I) fun h => h.elim ((pi_tup hl).run pins s σ H R I) ((pi_str hl).run pins s σ H R I)⟩
def iEn (K : PySem.W.Frag) (ta : TA) : TI := fun σ H R => iEnum K ta σ H R ∨ iEnumT K ta σ H R
theorem pi_en {X : Cx} {e : Expr} {ta : TA} {p pos tpos : Pos} {elts : List Expr} {kk : Nat} (hg : Gl X "enumerate") (hm : X.mg "enumerate" = none) (ha : PA X [e] ta) (hs : starEach [e] X.env = [(false, eval e X.env)] := by rfl) :
    PI X (.Tuple elts kk tpos) (.Call (.Name "enumerate" p) [e] [] pos) (iEn X.K ta) :=
  ⟨fun pins s σ H R I h => h.elim ((pi_enum hg hm ha hs).run pins s σ H R I) ((pi_enumT hg hm ha hs).run pins s σ H R I)⟩
def charD (c : Nat) : Dat := .str ⟨#[c]⟩
/-- the items of a sequence, and what must stay -/
def itemsM (S : Sto) : Dat → Option (List Dat × List Nat)
  | .list xs => some (xs, [])
  | .tuple xs => some (xs, [])
  | .kt xs => some (xs, [])
  | .str x => some (x.cps.toList.map charD, [])
  | .own k => match S[k]? with
    | some (.lst xs) => some (xs, [k])
    | _ => none
  | _ => none
def mSeqI (m : ME) : MI := fun ρ S => (m ρ S).bnd fun d S1 => ofB (itemsM S1 d) S1
def enumD (xs : List Dat) : List Dat := (xs.zipIdx 0).map fun (d, i) => .tuple [.int (i : Nat), d]
def itemsL (S : Sto) : Dat → Option (List Dat × List Nat)
  | .list xs => some (xs, [])
  | .tuple xs => some (xs, [])
  | .kt xs => some (xs, [])
  | .own k => match S[k]? with
    | some (.lst xs) => some (xs, [k])
    | _ => none
  | _ => none
def mEnI (m : MA) : MI := fun ρ S => (m ρ S).bnd fun ds S1 => ofB (match ds with
  | [d] => (itemsL S1 d).map fun (xs, ks) => (enumD xs, ks)
  | _ => none) S1
def rng1D (ds : List Dat) : Option (List Dat × List Nat) := match ds with
  | [.int j] => if -(2 ^ 62) ≤ j ∧ j < 2 ^ 62 then some ((List.range j.toNat).map fun i => .int (i : Nat), []) else none
  | _ => none
def mRng1 (m : MA) : MI := fun ρ S => (m ρ S).bnd fun ds S1 => ofB (rng1D ds) S1
def rng2D (ds : List Dat) : Option (List Dat × List Nat) := match ds with
  | [.int i, .int j] => if -(2 ^ 62) ≤ i ∧ i < 2 ^ 62 ∧ -(2 ^ 62) ≤ j ∧ j < 2 ^ 62 then some ((List.range (j - i).toNat).map fun t => .int (i + (t : Nat)), []) else none
  | _ => none
def mRng2 (m : MA) : MI := fun ρ S => (m ρ S).bnd fun ds S1 => ofB (rng2D ds) S1
def zipD (xs ys : List Dat) : List Dat := (xs.zip ys).map fun (x, y) => .tuple [x, y]
def zip2D (ds : List Dat) : Option (List Dat × List Nat) := match ds with
  | [.list xs, .list ys] => some (zipD xs ys, [])
  | [x, y] => (match look [] x, look [] y with
    | .tuple xs, .tuple ys => some (zipD xs ys, [])
    | _, _ => none)
  | _ => none
def mZipI (m : MA) : MI := fun ρ S => (m ρ S).bnd fun ds S1 => ofB (zip2D ds) S1
section
variable {g : Gx} {c : Cw} {H : Hp} {S : Sto} {ks : List Nat}
/-- a list that is read -/
def LstAt (g : Gx) (c : Cw) (H : Hp) (ks : List Nat) (S : Sto) (a : Addr) (ds : List Dat) : Prop := ∀ c1 H1 S1, Gr c H c1 H1 → StoOk g c1 S1 H1 → Wat ks S S1 → ∃ xs, SqL g.K H1 a xs ∧ RpAll g c1 H1 xs ds
def TupAt (g : Gx) (c : Cw) (H : Hp) (a : Addr) (ds : List Dat) : Prop := ∀ c1 H1, Gr c H c1 H1 → ∃ xs, SqT g.K H1 a xs ∧ RpAll g c1 H1 xs ds
theorem items_lst {v : V} {d : Dat} {ds : List Dat} (r : Rp g c H v d) (e : itemsL S d = some (ds, ks)) : ∃ a, v = .ref a ∧ (LstAt g c H ks S a ds ∨ (ks = [] ∧ TupAt g c H a ds)) := by
  cases r with
  | lst s t => cases e; exact ⟨_, rfl, .inl fun c1 H1 S1 x _ _ => ⟨_, (s.gr x).rd, t.gr x⟩⟩
  | tup s t => cases e; exact ⟨_, rfl, .inr ⟨rfl, fun c1 H1 x => ⟨_, sqT_gr x (.of s), t.gr x⟩⟩⟩
  | kt s _ t => cases e; exact ⟨_, rfl, .inr ⟨rfl, fun c1 H1 x => ⟨_, .inr s, t.gr x⟩⟩⟩
  | own h =>
    rename_i a k
    rw [itemsL] at e
    split at e
    · rename_i xs ec
      cases e
      refine ⟨a, rfl, .inl fun c1 H1 S1 x s1 wt => ?_⟩
      obtain ⟨vs, h1, r1⟩ := s1.cells k a _ (x.at h) ((wt k (List.mem_singleton.mpr rfl)).trans ec)
      exact ⟨vs, .inl (.inl h1), r1⟩
    · cases e
  | _ => cases e
theorem it_lst {a : Addr} {ds : List Dat} (h : LstAt g c H ks S a ds) : ItOk g c H ks S (Itl g.K a) ds := fun c1 H1 S1 x s1 wt => by
  obtain ⟨xs, sq, ra⟩ := h c1 H1 S1 x s1 wt
  refine ⟨⟨xs, sq, by rw [ra.length]; exact Nat.le_refl _⟩, fun i d e => ?_⟩
  obtain ⟨v, h1, h2⟩ := ra.get e
  refine ⟨⟨xs, v, sq, h1⟩, fun y H2 q => ?_⟩
  obtain ⟨rfl, q⟩ := q
  have := q xs sq
  rw [h1] at this; cases this
  exact ⟨Same.refl _, h2⟩
theorem it_tup {a : Addr} {ds : List Dat} (h : TupAt g c H a ds) : ItOk g c H ks S (Itt g.K a) ds := fun c1 H1 S1 x s1 wt => by
  obtain ⟨xs, sq, ra⟩ := h c1 H1 x
  refine ⟨⟨xs, sq, by rw [ra.length]; exact Nat.le_refl _⟩, fun i d e => ?_⟩
  obtain ⟨v, h1, h2⟩ := ra.get e
  refine ⟨⟨xs, v, sq, h1⟩, fun y H2 q => ?_⟩
  obtain ⟨rfl, q⟩ := q
  have := q xs sq
  rw [h1] at this; cases this
  exact ⟨Same.refl _, h2⟩
theorem it_str {x : Str} : ItOk g c H ks S (Its x) (x.cps.toList.map charD) := fun c1 H1 S1 gr s1 wt => by
  have l : (x.cps.toList.map charD).length = x.cps.size := by rw [List.length_map]; rfl
  refine ⟨by rw [l]; exact Nat.le_refl _, fun i d e => ?_⟩
  have li : i < x.cps.size := by rw [← l]; exact (List.getElem?_eq_some_iff.mp e).1
  refine ⟨li, fun y H2 q => ?_⟩
  obtain ⟨rfl, ch, q, rfl⟩ := q
  rw [List.getElem?_map, Array.getElem?_toList, q] at e
  cases e
  exact ⟨Same.refl _, .str _⟩
theorem enumD_at {xs : List Dat} {i : Nat} {e : Dat} (h : (enumD xs)[i]? = some e) : ∃ d, xs[i]? = some d ∧ e = .tuple [.int (i : Nat), d] := by
  unfold enumD at h
  rw [List.getElem?_map, List.getElem?_zipIdx] at h
  cases q : xs[i]? with
  | none => rw [q] at h; cases h
  | some d => rw [q] at h; simp at h; exact ⟨d, rfl, h.symm⟩
theorem enumD_len (xs : List Dat) : (enumD xs).length = xs.length := by unfold enumD; rw [List.length_map, List.length_zipIdx]
theorem it_enL {a : Addr} {ds : List Dat} (h : LstAt g c H ks S a ds) : ItOk g c H ks S (Ite g.K a) (enumD ds) := fun c1 H1 S1 x s1 wt => by
  obtain ⟨xs, sq, ra⟩ := h c1 H1 S1 x s1 wt
  refine ⟨⟨xs, sq, by rw [ra.length, enumD_len]; exact Nat.le_refl _⟩, fun i d e => ?_⟩
  obtain ⟨d', e', rfl⟩ := enumD_at e
  obtain ⟨v, h1, h2⟩ := ra.get e'
  refine ⟨⟨xs, v, sq, h1⟩, fun y H2 q => ?_⟩
  obtain ⟨T, z, rfl, hT, rfl, q⟩ := q
  have := q xs sq
  rw [h1] at this; cases this
  exact ⟨same_new hT, .tup upd_same (.cons (.int _) (.cons (h2.same (same_new hT)) .nil))⟩
theorem it_enT {a : Addr} {ds : List Dat} (h : TupAt g c H a ds) : ItOk g c H ks S (ItEnumT g.K a) (enumD ds) := fun c1 H1 S1 x s1 wt => by
  obtain ⟨xs, sq, ra⟩ := h c1 H1 x
  refine ⟨⟨xs, sq, by rw [ra.length, enumD_len]⟩, fun i d e => ?_⟩
  obtain ⟨d', e', rfl⟩ := enumD_at e
  obtain ⟨v, h1, h2⟩ := ra.get e'
  refine ⟨⟨xs, v, sq, h1⟩, fun y H2 q => ?_⟩
  obtain ⟨T, z, rfl, hT, rfl, q⟩ := q
  have := q xs sq
  rw [h1] at this; cases this
  exact ⟨same_new hT, .tup upd_same (.cons (.int _) (.cons (h2.same (same_new hT)) .nil))⟩
theorem it_rng {lo : Int} {n : Nat} : ItOk g c H ks S (Itr lo n) ((List.range n).map fun i => .int (lo + (i : Nat))) := fun c1 H1 S1 x s1 wt => by
  have l : ((List.range n).map fun i => Dat.int (lo + (i : Nat))).length = n := by rw [List.length_map, List.length_range]
  refine ⟨by rw [l]; exact Nat.le_refl _, fun i d e => ?_⟩
  have li : i < n := by rw [← l]; exact (List.getElem?_eq_some_iff.mp e).1
  refine ⟨li, fun y H2 q => ?_⟩
  obtain ⟨rfl, rfl⟩ := q
  rw [List.getElem?_map, List.getElem?_range li] at e
  cases e
  exact ⟨Same.refl _, .int _⟩
theorem zipD_at {xs ys : List Dat} {i : Nat} {e : Dat} (h : (zipD xs ys)[i]? = some e) : ∃ x y, xs[i]? = some x ∧ ys[i]? = some y ∧ e = .tuple [x, y] := by
  unfold zipD at h
  rw [List.getElem?_map] at h
  cases q : (xs.zip ys)[i]? with
  | none => rw [q] at h; cases h
  | some z =>
    obtain ⟨h1, h2⟩ := List.getElem?_zip_eq_some.mp q
    rw [q] at h; cases h
    exact ⟨z.1, z.2, h1, h2, rfl⟩
theorem zipD_len (xs ys : List Dat) : (zipD xs ys).length = min xs.length ys.length := by unfold zipD; rw [List.length_map, List.length_zip]
theorem it_zipL {a b : Addr} {ds es : List Dat} {xs ys : List V} (s1 : SqM g c H a xs) (r1 : RpAll g c H xs ds) (s2 : SqM g c H b ys) (r2 : RpAll g c H ys es) : ItOk g c H ks S (Itz g.K a b) (zipD ds es) := fun c1 H1 S1 x _ wt => by
  have q1 := (s1.gr x).rd
  have q2 := (s2.gr x).rd
  have l1 := r1.length
  have l2 := r2.length
  refine ⟨⟨xs, ys, q1, q2, by rw [zipD_len]; omega⟩, fun i d e => ?_⟩
  obtain ⟨u, v, e1, e2, rfl⟩ := zipD_at e
  obtain ⟨u', h1, h2⟩ := (r1.gr x).get e1
  obtain ⟨v', h3, h4⟩ := (r2.gr x).get e2
  refine ⟨⟨xs, ys, u', v', q1, q2, h1, h3⟩, fun z H2 q => ?_⟩
  obtain ⟨T, y1, y2, rfl, hT, rfl, p1, p2⟩ := q
  have := p1 xs q1
  rw [h1] at this; cases this
  have := p2 ys q2
  rw [h3] at this; cases this
  exact ⟨same_new hT, .tup upd_same (.cons (h2.same (same_new hT)) (.cons (h4.same (same_new hT)) .nil))⟩
theorem it_zipT {a b : Addr} {ds es : List Dat} {xs ys : List V} (s1 : SqT g.K H a xs) (r1 : RpAll g c H xs ds) (s2 : SqT g.K H b ys) (r2 : RpAll g c H ys es) : ItOk g c H ks S (RZ.ItzT g.K a b) (zipD ds es) := fun c1 H1 S1 x _ wt => by
  have q1 := sqT_gr x s1
  have q2 := sqT_gr x s2
  have l1 := r1.length
  have l2 := r2.length
  refine ⟨⟨xs, ys, q1, q2, by rw [zipD_len]; omega⟩, fun i d e => ?_⟩
  obtain ⟨u, v, e1, e2, rfl⟩ := zipD_at e
  obtain ⟨u', h1, h2⟩ := (r1.gr x).get e1
  obtain ⟨v', h3, h4⟩ := (r2.gr x).get e2
  refine ⟨⟨xs, ys, u', v', q1, q2, h1, h3⟩, fun z H2 q => ?_⟩
  obtain ⟨T, y1, y2, rfl, hT, rfl, p1, p2⟩ := q
  have := p1 xs q1
  rw [h1] at this; cases this
  have := p2 ys q2
  rw [h3] at this; cases this
  exact ⟨same_new hT, .tup upd_same (.cons (h2.same (same_new hT)) (.cons (h4.same (same_new hT)) .nil))⟩
end
section
variable {g : Gx} {W : WX} {σ : L2.St} {H : Hp} {R : It → Hp → Prop} {me : ME} {mA : MA}
theorem ri_seq (h : RI g W (mSeqI me) σ H R) : iAny g.K (RE g W me) σ H R := by
  obtain ⟨c, ρ, S, hE, hS, h⟩ := h
  unfold mSeqI at h
  have h' := Po.bnd h
  cases e : me ρ S with
  | bad => rw [e] at h; exact h.elim
  | ex x S' => rw [e] at h; exact .inl ⟨c, ρ, S, hE, hS, by rw [e]; exact h⟩
  | ok d S1 =>
    rw [e] at h
    obtain ⟨⟨xs, ks⟩, e2, q⟩ := Po.ofB (W := W) h
    cases d with
    | list ys =>
      cases e2
      refine .inl ⟨c, ρ, S, hE, hS, ?_⟩
      rw [e]
      intro c1 H1 g1 s1 v rv
      obtain ⟨a, vs, rfl, sa, ra⟩ := rv.lst_inv
      exact ⟨a, rfl, ⟨vs, sa.rd⟩, q c1 H1 g1 s1 _ (it_lst fun c2 H2 S2 x _ _ => ⟨_, (sa.gr x).rd, ra.gr x⟩)⟩
    | tuple ys =>
      cases e2
      refine .inr (.inl ⟨c, ρ, S, hE, hS, ?_⟩)
      rw [e]
      intro c1 H1 g1 s1 v rv
      obtain ⟨a, vs, rfl, sa, ra⟩ := look_tup (S := []) rv rfl
      exact ⟨a, rfl, ⟨vs, sa⟩, q c1 H1 g1 s1 _ (it_tup fun c2 H2 x => ⟨_, sqT_gr x sa, ra.gr x⟩)⟩
    | kt ys =>
      cases e2
      refine .inr (.inl ⟨c, ρ, S, hE, hS, ?_⟩)
      rw [e]
      intro c1 H1 g1 s1 v rv
      obtain ⟨a, vs, rfl, sa, ra⟩ := look_tup (S := []) rv rfl
      exact ⟨a, rfl, ⟨vs, sa⟩, q c1 H1 g1 s1 _ (it_tup fun c2 H2 x => ⟨_, sqT_gr x sa, ra.gr x⟩)⟩
    | str x =>
      cases e2
      refine .inr (.inr ⟨c, ρ, S, hE, hS, ?_⟩)
      rw [e]
      intro c1 H1 g1 s1 v rv
      exact ⟨x, rv.str_inv, q c1 H1 g1 s1 _ it_str⟩
    | own k =>
      refine .inl ⟨c, ρ, S, hE, hS, ?_⟩
      rw [e]
      intro c1 H1 g1 s1 v rv
      have e3 : itemsL S1 (.own k) = some (xs, ks) := e2
      obtain ⟨a, rfl, h'⟩ := items_lst rv e3
      rw [itemsM] at e2
      split at e2
      · rename_i zs ec
        cases e2
        rcases h' with h' | ⟨h', _⟩
        · obtain ⟨vs, sq, _⟩ := h' c1 H1 S1 .refl s1 (wat_refl _ _)
          exact ⟨a, rfl, ⟨vs, sq⟩, q c1 H1 g1 s1 _ (it_lst h')⟩
        · cases h'
      · cases e2
    | _ => cases e2
theorem ri_en (h : RI g W (mEnI mA) σ H R) : iEn g.K (RA g W mA) σ H R := by
  obtain ⟨c, ρ, S, hE, hS, h⟩ := h
  unfold mEnI at h
  cases e : mA ρ S with
  | bad => rw [e] at h; exact h.elim
  | ex x S' => rw [e] at h; exact .inl ⟨c, ρ, S, hE, hS, by rw [e]; exact h⟩
  | ok ds S1 =>
    rw [e] at h
    obtain ⟨⟨xs, ks⟩, e2, q⟩ := Po.ofB (W := W) h
    dsimp only at e2
    split at e2
    · rename_i d
      obtain ⟨⟨ys, ks1⟩, e3, e4⟩ := pmap_eq e2
      cases e4
      by_cases tp : ∃ ys, look [] d = .tuple ys
      · obtain ⟨zs, tq⟩ := tp
        have e3' : itemsL S1 d = some (zs, []) := by
          cases d <;> simp [look] at tq <;> (subst tq; rfl)
        rw [e3'] at e3
        cases e3
        refine .inr ⟨c, ρ, S, hE, hS, ?_⟩
        rw [e]
        intro c1 H1 g1 s1 vs r1
        obtain ⟨v, rfl, rv⟩ := r1.one_inv
        obtain ⟨a, vs, rfl, sa, ra⟩ := look_tup rv tq
        exact ⟨a, vs, rfl, sa, q c1 H1 g1 s1 _ (it_enT fun c2 H2 x => ⟨_, sqT_gr x sa, ra.gr x⟩)⟩
      · refine .inl ⟨c, ρ, S, hE, hS, ?_⟩
        rw [e]
        intro c1 H1 g1 s1 vs r1
        obtain ⟨v, rfl, rv⟩ := r1.one_inv
        obtain ⟨a, rfl, h'⟩ := items_lst rv e3
        rcases h' with h' | ⟨e5, h'⟩
        · obtain ⟨vs, sq, _⟩ := h' c1 H1 S1 .refl s1 (wat_refl _ _)
          exact ⟨a, vs, rfl, sq, q c1 H1 g1 s1 _ (it_enL h')⟩
        · subst e5
          cases rv with
          | tup _ _ => exact absurd ⟨_, rfl⟩ tp
          | kt _ _ _ => exact absurd ⟨_, rfl⟩ tp
          | lst s t => cases e3; exact ⟨_, _, rfl, s.rd, q c1 H1 g1 s1 _ (it_enL fun c2 H2 S2 x _ _ => ⟨_, (s.gr x).rd, t.gr x⟩)⟩
          | own _ =>
            rw [itemsL] at e3
            split at e3 <;> cases e3
          | _ => cases e3
    · cases e2
theorem ri_rng1 (h : RI g W (mRng1 mA) σ H R) : iRng1 (RA g W mA) σ H R := by
  obtain ⟨c, ρ, S, hE, hS, h⟩ := h
  refine ⟨c, ρ, S, hE, hS, (Po.bnd h).mono fun c1 S1 ds H1 g1 s1 h1 vs r1 => ?_⟩
  obtain ⟨⟨xs, ks⟩, e2, q⟩ := Po.ofB (W := W) h1
  unfold rng1D at e2
  split at e2
  · rename_i j
    split at e2
    · rename_i b
      cases e2
      obtain ⟨v, rfl, rv⟩ := r1.one_inv
      have it : ItOk g c1 H1 [] S1 (Itr 0 j.toNat) ((List.range j.toNat).map fun i => .int (0 + (i : Nat))) := it_rng
      have e : ((List.range j.toNat).map fun i => Dat.int (0 + (i : Nat))) = (List.range j.toNat).map fun i => .int (i : Nat) := by simp only [Int.zero_add]
      rw [e] at it
      exact ⟨j, by rw [rv.int_inv], b.1, b.2, q c1 H1 .refl s1 _ it⟩
    · cases e2
  · cases e2
theorem ri_rng2 (h : RI g W (mRng2 mA) σ H R) : iRng2 (RA g W mA) σ H R := by
  obtain ⟨c, ρ, S, hE, hS, h⟩ := h
  refine ⟨c, ρ, S, hE, hS, (Po.bnd h).mono fun c1 S1 ds H1 g1 s1 h1 vs r1 => ?_⟩
  obtain ⟨⟨xs, ks⟩, e2, q⟩ := Po.ofB (W := W) h1
  unfold rng2D at e2
  split at e2
  · rename_i i j
    split at e2
    · rename_i b
      cases e2
      obtain ⟨v, u, rfl, rv, ru⟩ := r1.two_inv
      exact ⟨i, j, by rw [rv.int_inv, ru.int_inv], b, q c1 H1 .refl s1 _ it_rng⟩
    · cases e2
  · cases e2
theorem ri_zip (h : RI g W (mZipI mA) σ H R) : RZ.iZipA g.K (RA g W mA) σ H R := by
  obtain ⟨c, ρ, S, hE, hS, h⟩ := h
  refine ⟨c, ρ, S, hE, hS, (Po.bnd h).mono fun c1 S1 ds H1 g1 s1 h1 vs r1 => ?_⟩
  obtain ⟨⟨xs, ks⟩, e2, q⟩ := Po.ofB (W := W) h1
  unfold zip2D at e2
  split at e2
  · cases e2
    obtain ⟨v, u, rfl, rv, ru⟩ := r1.two_inv
    obtain ⟨a, xs, rfl, sa, ra⟩ := rv.lst_inv
    obtain ⟨b, ys, rfl, sb, rb⟩ := ru.lst_inv
    exact ⟨a, b, xs, ys, rfl, .inl ⟨sa.rd, sb.rd, q c1 H1 .refl s1 _ (it_zipL sa ra sb rb)⟩⟩
  · split at e2
    · rename_i t1 t2
      cases e2
      obtain ⟨v, u, rfl, rv, ru⟩ := r1.two_inv
      obtain ⟨a, xs, rfl, sa, ra⟩ := look_tup rv t1
      obtain ⟨b, ys, rfl, sb, rb⟩ := look_tup ru t2
      exact ⟨a, b, xs, ys, rfl, .inr ⟨sa, sb, q c1 H1 .refl s1 _ (it_zipT sa ra sb rb)⟩⟩
    · cases e2
  · cases e2
end
section
variable {X : Cx} {W : WX} {tg e a b : Expr} {me : ME} {mA : MA} {p pos tpos : Pos} {elts : List Expr} {kk : Nat}
theorem si_seq (h : SE X W e me) : SI X W tg e (mSeqI me) := PI_of (pi_any h) fun _ _ _ => ri_seq
theorem si_en (hg : Gl X "enumerate") (hm : X.mg "enumerate" = none) (ha : SA X W [e] mA) (hs : starEach [e] X.env = [(false, eval e X.env)]) : SI X W (.Tuple elts kk tpos) (.Call (.Name "enumerate" p) [e] [] pos) (mEnI mA) :=
  PI_of (pi_en hg hm ha hs) fun _ _ _ => ri_en
theorem si_rng1 (hg : Gl X "range") (hm : X.mg "range" = none) (ha : SA X W [a] mA) (hs : starEach [a] X.env = [(false, eval a X.env)]) : SI X W tg (.Call (.Name "range" p) [a] [] pos) (mRng1 mA) :=
  PI_of (pi_range1 hg hm ha hs) fun _ _ _ => ri_rng1
theorem si_rng2 (hg : Gl X "range") (hm : X.mg "range" = none) (ha : SA X W [a, b] mA) (hs : starEach [a, b] X.env = [(false, eval a X.env), (false, eval b X.env)]) (hs2 : starEach [b] X.env = [(false, eval b X.env)]) : SI X W tg (.Call (.Name "range" p) [a, b] [] pos) (mRng2 mA) :=
  PI_of (pi_range2 hg hm ha hs hs2) fun _ _ _ => ri_rng2
theorem si_zip (hg : Gl X "zip") (hm : X.mg "zip" = none) (ha : SA X W [a, b] mA) (hs : starEach [a, b] X.env = (false, eval a X.env) :: starEach [b] X.env) (hpl : (backTo pos (starEach [b] X.env)).any (·.1) = false) : SI X W (.Tuple elts kk tpos) (.Call (.Name "zip" p) [a, b] [] pos) (mZipI mA) :=
  PI_of (RZ.pi_zipA hg hm ha hs hpl) fun _ _ _ => ri_zip
end
end PL

set_option Elab.async false
set_option linter.all false
set_option maxRecDepth 100000
set_option autoImplicit false
set_option maxHeartbeats 4000000
namespace PL
open PySem PySem.Spec PyProof.Rows L2
/-! ### a value may be locked -/
def tLockV (td : TE) : TE := fun σ H Q => td σ H fun x H1 => Q x H1 ∨ ∃ d u, x = .ref d ∧ H1 d = some u ∧ Mut (some u) ∧ ∀ od, Q x (upd H1 d (.frz od u))
theorem pe_lockV {X : Cx} {e : Expr} {td : TE} (he : PE X e td) : PE X e (tLockV td) := by
  refine ⟨fun pins s σ H Q I h => thn (he.run pins s σ H _ I h) fun v s1 ⟨x, H1, I1, rx, q⟩ => ?_⟩
  rcases q with q | ⟨d, u, ex, hd, mu, q⟩
  · exact ⟨x, H1, I1, rx, q⟩
  · obtain ⟨od, I2⟩ := I1.lock hd mu
    exact ⟨x, _, I2, rx, q od⟩
/-! ### keys -/
def dictI (kvs : List (Dat × Dat)) (f : Dat × Dat → Dat) : List Dat × List Nat := (kvs.map f, [])
def mKeysI (m : ME) : MI := fun ρ S => (m ρ S).bnd fun d S1 => ofB (match d with
  | .dict kvs => some (kvs.map (·.1), [])
  | _ => none) S1
def mItemsI (m : ME) : MI := fun ρ S => (m ρ S).bnd fun d S1 => ofB (match d with
  | .dict kvs => some (kvs.map fun p => .tuple [p.1, p.2], [])
  | _ => none) S1
def mValsI (m : ME) : MI := fun ρ S => (m ρ S).bnd fun d S1 => ofB (match d with
  | .dict kvs => some (kvs.map (·.2), [])
  | _ => none) S1
section
variable {g : Gx} {c : Cw} {H : Hp}
theorem RpK.length : ∀ {fs : List (Key × V)} {gs : List (Dat × Dat)}, RpK g c H fs gs → fs.length = gs.length
  | _, _, .nil => rfl
  | _, _, .cons _ t => by rw [List.length_cons, List.length_cons, RpK.length t]
theorem RpT.length : ∀ {fs : List (List Key × V)} {gs : List (Dat × Dat)}, RpT g c H fs gs → fs.length = gs.length
  | _, _, .one _ => rfl
  | _, _, .cons _ t => by rw [List.length_cons, List.length_cons, RpT.length t]
theorem RpK.get : ∀ {fs : List (Key × V)} {gs : List (Dat × Dat)} {i : Nat} {k : Key} {v : V}, RpK g c H fs gs → fs[i]? = some (k, v) → ∃ d, gs[i]? = some (kD k, d) ∧ Rp g c H v d
  | _, _, _, _, _, .nil, e => by simp at e
  | _, _, 0, _, _, .cons r _, e => by simp at e; obtain ⟨rfl, rfl⟩ := e; exact ⟨_, rfl, r⟩
  | _, _, i + 1, k, v, .cons _ t, e => by
    obtain ⟨d, h1, h2⟩ := RpK.get (i := i) (k := k) (v := v) t (by simpa using e)
    exact ⟨d, by simpa using h1, h2⟩
theorem RpT.get : ∀ {fs : List (List Key × V)} {gs : List (Dat × Dat)} {i : Nat} {k : List Key} {v : V}, RpT g c H fs gs → fs[i]? = some (k, v) → ∃ d, gs[i]? = some (.tuple (k.map kD), d) ∧ Rp g c H v d
  | _, _, 0, _, _, .one r, e => by simp at e; obtain ⟨rfl, rfl⟩ := e; exact ⟨_, rfl, r⟩
  | _, _, _ + 1, _, _, .one _, e => by simp at e
  | _, _, 0, _, _, .cons r _, e => by simp at e; obtain ⟨rfl, rfl⟩ := e; exact ⟨_, rfl, r⟩
  | _, _, i + 1, k, v, .cons _ t, e => by
    obtain ⟨d, h1, h2⟩ := RpT.get (i := i) (k := k) (v := v) t (by simpa using e)
    exact ⟨d, by simpa using h1, h2⟩
theorem rp_key (k : Key) : Rp g c H (kV k) (kD k) := by
  cases k with
  | inl i => exact .int i
  | inr x => exact .str x
theorem rp_keys : ∀ ks : List Key, RpAll g c H (ks.map kV) (ks.map kD)
  | [] => .nil
  | k :: ks => .cons (rp_key k) (rp_keys ks)
theorem rp_tkey {q : Addr} {k : List Key} (h : H q = some (.tup (k.map kV))) : Rp g c H (.ref q) (.tuple (k.map kD)) := .tup h (rp_keys k)
/-- what stays of a locked thing -/
theorem frz_gr {c1 : Cw} {H1 : Hp} {a : Addr} {od : Obj} {u : HO} (x : Gr c H c1 H1) (h : H a = some (.frz od u)) : H1 a = some (.frz od u) := x.keep h (fun m => m.elim) fun w => w
theorem it_keys {d : Addr} {o : Obj} {kvs : List (Key × V)} {gs : List (Dat × Dat)} {S : Sto} (h : H d = some (.frz o (.dK kvs))) (r : RpK g c H kvs gs) : ItOk g c H [] S (Itk d o kvs) (gs.map (·.1)) := fun c1 H1 S1 x s1 wt => by
  have l := r.length
  refine ⟨⟨frz_gr x h, by rw [List.length_map]; omega⟩, fun i e q => ?_⟩
  have lt : i < kvs.length := by
    have := (List.getElem?_eq_some_iff.mp q).1
    rw [List.length_map] at this; omega
  refine ⟨⟨frz_gr x h, lt⟩, fun y H2 hy => ?_⟩
  obtain ⟨rfl, k, v, hk, rfl⟩ := hy
  obtain ⟨z, e1, _⟩ := r.get hk
  rw [List.getElem?_map, e1] at q
  cases q
  exact ⟨Same.refl _, rp_key k⟩
theorem it_keysT {d : Addr} {o : Obj} {kvs : List (List Key × V)} {gs : List (Dat × Dat)} {S : Sto} (h : H d = some (.frz o (.dT kvs))) (r : RpT g c H kvs gs) : ItOk g c H [] S (Itkt d o kvs) (gs.map (·.1)) := fun c1 H1 S1 x s1 wt => by
  have l := r.length
  refine ⟨⟨frz_gr x h, by rw [List.length_map]; omega⟩, fun i e q => ?_⟩
  have lt : i < kvs.length := by
    have := (List.getElem?_eq_some_iff.mp q).1
    rw [List.length_map] at this; omega
  refine ⟨⟨frz_gr x h, lt⟩, fun y H2 hy => ?_⟩
  obtain ⟨rfl, k, v, p, hk, rfl, hp⟩ := hy
  obtain ⟨z, e1, _⟩ := r.get hk
  rw [List.getElem?_map, e1] at q
  cases q
  exact ⟨Same.refl _, rp_tkey hp⟩
theorem it_vals {d : Addr} {o : Obj} {kvs : List (Key × V)} {gs : List (Dat × Dat)} {S : Sto} (h : H d = some (.frz o (.dK kvs))) (r : RpK g c H kvs gs) : ItOk g c H [] S (Itd d o kvs) (gs.map (·.2)) := fun c1 H1 S1 x s1 wt => by
  have l := r.length
  refine ⟨⟨frz_gr x h, by rw [List.length_map]; omega⟩, fun i e q => ?_⟩
  have lt : i < kvs.length := by
    have := (List.getElem?_eq_some_iff.mp q).1
    rw [List.length_map] at this; omega
  refine ⟨⟨frz_gr x h, lt⟩, fun y H2 hy => ?_⟩
  obtain ⟨rfl, k, hk⟩ := hy
  obtain ⟨z, e1, e2⟩ := r.get hk
  rw [List.getElem?_map, e1] at q
  cases q
  exact ⟨Same.refl _, e2.gr x⟩
end
/-! ### items of dicts of any keys -/
/-- the pairs of a dict -/
def EntV (H : Hp) (u : HO) (kvs : List (V × V)) : Prop := match u with
  | .dK ks => kvs = ks.map fun p => (kV p.1, p.2)
  | .dT ks => kvs.length = ks.length ∧ ∀ (i : Nat) k v, ks[i]? = some (k, v) → ∃ q, kvs[i]? = some (.ref q, v) ∧ H q = some (.tup (k.map kV))
  | _ => False
def ItiG (d : Addr) (o : Obj) (u : HO) (kvs : List (V × V)) : It :=
  ⟨fun i H => H d = some (.frz o u) ∧ i < kvs.length, fun i H x H' => ∃ T k v, kvs[i]? = some (k, v) ∧ x = .ref T ∧ H T = none ∧ H' = upd H T (.tup [k, v]), fun i H => H d = some (.frz o u) ∧ kvs.length ≤ i⟩
/-- the entries of the object -/
def EntO (o : Obj) (es : Array DictEntry) (ep : Nat) (kvs : List (V × V)) : Prop := o.ExactDict ∧ o.data = .dict es ep ∧ es.size = kvs.length ∧ ∀ (i : Nat) k v, kvs[i]? = some (k, v) → ∃ en, es[i]? = some en ∧ RelV k en.key ∧ RelV v en.val
theorem turn_itemsG {P : Program} {w : World} {K : PySem.W.Frag} {d : Addr} {o : Obj} {u : HO} {es : Array DictEntry} {ep : Nat} {kvs : List (V × V)} {elts : List Expr} {kk : Nat} {tpos : Pos} (it : Addr) (ho : EntO o es ep kvs) :
    Turn P w K (.Tuple elts kk tpos) (ItiG d o u kvs) [it] it (fun i h => ∃ ok ov, IsItemIter h it d i kvs.length ep ok ov) where
  mem := by simp
  obj := fun i h st b hb => by
    have e : b = it := by simpa using hb
    subst e
    obtain ⟨ok, ov, e⟩ := st
    exact ⟨_, e, fun v z => nomatch z⟩
  keep := fun i h h' st k => let ⟨ok, ov, e⟩ := st; ⟨ok, ov, k it (by simp) _ e⟩
  item := by
    intro X hP hw hK hc i pins s σ H E I hf st hg
    subst hP hw hK
    obtain ⟨hd, hi⟩ := hg
    obtain ⟨hx, hdt, hsz, ent⟩ := ho
    have hgd : s.heap.get? d = some o := (I.hok d _ hd).1
    have raw : DT.Raw s.heap d es ep := ⟨o, hgd, hx, hdt⟩
    obtain ⟨⟨k, v⟩, hkv⟩ : ∃ p, kvs[i]? = some p := ⟨kvs[i], List.getElem?_eq_getElem hi⟩
    obtain ⟨en, hen, rk, rv⟩ := ent i k v hkv
    obtain ⟨ok, ov, he⟩ := st
    rw [← hsz] at he
    have hlt : it < s.heap.objs.size := Heap.lt_size he
    have his : i < es.size := by rw [hsz]; exact hi
    have een : es[i] = en := by
      have := Array.getElem?_eq_getElem his
      rw [hen] at this
      exact (Option.some.inj this).symm
    refine DT.nextI he raw his fun h' ho' hT hz hk => ?_
    rw [een] at ho' hT
    refine ⟨_, rfl, wpAny_letOwnedTupleGo_items (s := { s with heap := h' }) ho' fun h'' he' sb => ?_⟩
    have hT2 : h''.get? s.heap.objs.size = some { cls := .type "tuple", data := .seq #[en.key, en.val] } := (sb.2 _ (Nat.ne_of_gt hlt)).trans hT
    have new : ObjOk X.prog X.w (upd H s.heap.objs.size (.tup [k, v])) h'' s.heap.objs.size (.tup [k, v]) :=
      ⟨by show 2 ≤ sizeLine; decide, [en.key, en.val], .cons rk (.cons rv .nil), ⟨_, hT2, rfl, _, rfl⟩⟩
    have I1 : Inv X pins σ (upd H s.heap.objs.size (.tup [k, v])) { s with heap := h'' } :=
      I.turnedNew (t' := s.toks) (ch := [it]) (fun b ob hb e => (sb.2 b (by simpa using hb)).trans (hk b ob (by simpa using hb) e)) hf (Nat.le_refl _) new
    refine ⟨.ref s.heap.objs.size, _, I1, rfl, ⟨_, k, v, hkv, rfl, I.hok.fresh (Nat.le_refl _), rfl⟩, ⟨en.key, en.val, ?_⟩, fun b hb => ?_⟩
    · rw [← hsz]; exact he'
    · have e : b = it := by simpa using hb
      rw [e, upd_ne (Nat.ne_of_lt hlt)]
      exact (hf it (by simp)).1
  done := by
    intro X hP hw hK hc i pins s σ H E I hf st hg
    subst hP hw hK
    obtain ⟨hd, hi⟩ := hg
    obtain ⟨f0, f1, f2, f3, f4, f5⟩ := hf it (by simp)
    obtain ⟨hx, hdt, hsz, ent⟩ := ho
    have hgd : s.heap.get? d = some o := (I.hok d _ hd).1
    obtain ⟨ok, ov, he⟩ := st
    rw [← hsz] at he
    exact DT.endI (I.ok.hd hc) he ⟨o, hgd, hx, hdt⟩ (by omega) fun h' eb => ⟨rfl, I.turned (t' := s.toks) (fun b ob hb e => eb b ob hb e) f0 f1 f3 f4 f5⟩
  self := fun A i s Q E st h => let ⟨_, _, e⟩ := st; PySem.W.kcp_self e h
theorem pairs_get {P : Program} {w : World} : ∀ {es : List DictEntry} {kvs : List (Key × Value)} {j : Nat} {x : Key × Value}, Pairs (mixKind P w) es kvs → kvs[j]? = some x → ∃ y, es[j]? = some y ∧ keyIs x.1 y.key = true ∧ y.val = x.2
  | _, _, _, _, .nil, e => by simp at e
  | _, _, 0, _, .cons h h2 _, e => by simp at e; subst e; exact ⟨_, rfl, h, h2⟩
  | _, _, j + 1, x, .cons _ _ t, e => by
    obtain ⟨y, h1, h2⟩ := pairs_get (j := j) (x := x) t (by simpa using e)
    exact ⟨y, by simpa using h1, h2⟩
/-- the entries of a locked dict -/
theorem ent_of {X : Cx} {pins : List (Addr × Obj)} {σ : L2.St} {H : Hp} {s : Shared} {d : Addr} {o : Obj} {u : HO} (I : Inv X pins σ H s) (h : H d = some (.frz o u)) (hu : (∃ ks, u = .dK ks) ∨ ∃ ks, u = .dT ks) :
    (d == sysModules) = false ∧ s.heap.get? d = some o ∧ ∃ es ep kvs, EntO o es ep kvs ∧ EntV H u kvs := by
  have base := (I.hok d _ h).1
  rcases hu with ⟨ks, rfl⟩ | ⟨ks, rfl⟩
  · obtain ⟨hd, z, hs, vs, kv, o', es, ep, ho, hx, hdt, ko, prs, nd⟩ := I.hok d _ h
    rw [hd] at ho
    cases ho
    have l1 := prs.length
    have l2 : ks.length = vs.length := Paired.length kv
    rw [Array.length_toList] at l1
    refine ⟨hs, base, es, ep, ks.map (fun p : Key × V => (kV p.1, p.2)), ⟨hx, hdt, by rw [List.length_map]; omega, fun i k v e => ?_⟩, rfl⟩
    rw [List.getElem?_map] at e
    cases q : ks[i]? with
    | none => rw [q] at e; cases e
    | some p =>
      rw [q] at e
      obtain ⟨k0, v0⟩ := p
      cases e
      obtain ⟨b, hb, e1, e2⟩ := paired_get kv q
      obtain ⟨en, hen, e3⟩ := pairs_get prs hb
      rw [Array.getElem?_toList] at hen
      refine ⟨en, hen, ?_, ?_⟩
      · have z : k0 = b.1 := e1
        rw [z]
        exact relV_key e3.1
      · rw [e3.2]; exact e2
  · obtain ⟨hd, z, hs, xs, pr, o', es, ep, ho, hx, hdt, he, _⟩ := I.hok d _ h
    rw [hd] at ho
    cases ho
    have l1 : es.size = xs.length := size_of_entries he
    have l2 : ks.length = xs.length := Paired.length pr
    refine ⟨hs, base, es, ep, (List.range ks.length).map fun i => ((.ref ((xs[i]?.map (·.2.1)).getD 0)), ((ks[i]?.map (·.2)).getD .non)), ⟨hx, hdt, by rw [List.length_map, List.length_range]; omega, fun i k v e => ?_⟩, by rw [List.length_map, List.length_range], fun i k v e => ?_⟩
    · rw [List.getElem?_map] at e
      have li : i < ks.length := by
        by_cases li : i < ks.length
        · exact li
        · rw [List.getElem?_eq_none_iff.mpr (by rw [List.length_range]; omega)] at e; cases e
      rw [List.getElem?_range li] at e
      obtain ⟨⟨k0, v0⟩, hk0⟩ : ∃ p, ks[i]? = some p := ⟨ks[i], List.getElem?_eq_getElem li⟩
      obtain ⟨b, hb, e1, e2, e3⟩ := paired_get pr hk0
      have q := entry_at he i
      rw [hb] at q
      simp only [Option.map_some, hb, hk0, Option.getD_some, Option.some.injEq, Prod.mk.injEq] at e
      obtain ⟨rfl, rfl⟩ := e
      exact ⟨_, q, rfl, e3⟩
    · obtain ⟨b, hb, e1, e2, e3⟩ := paired_get pr e
      have li : i < ks.length := (List.getElem?_eq_some_iff.mp e).1
      refine ⟨b.2.1, ?_, e2⟩
      rw [List.getElem?_map, List.getElem?_range li, Option.map_some, hb, e]
      rfl
/-! ### the walks over dicts -/
def iItemsG (td : TE) : TI := fun σ H R => td σ H fun x H1 => ∃ d o u, x = .ref d ∧ H1 d = some (.frz o u) ∧ ((∃ ks, u = .dK ks) ∨ ∃ ks, u = .dT ks) ∧ ∀ kvs, EntV H1 u kvs → R (ItiG d o u kvs) H1
theorem pi_itemsG {X : Cx} {e : Expr} {td : TE} {apos cpos tpos : Pos} {elts : List Expr} {kk : Nat} (he : PE X e td) (hbase : attributeBase e "items" X.env (eval e X.env) = eval e X.env) (hline : (apos.endLine == cpos.line) = true) :
    PI X (.Tuple elts kk tpos) (.Call (.Attribute e "items" apos) [] [] cpos) (iItemsG td) := by
  refine ⟨fun pins s σ H R I h => ?_⟩
  refine wpAny_Call_method (T := "dict") (id := "dict.items") hbase rfl hline F.plainAttrs_dict F.slot_dict_items F.type_dict_items (thn (he.run pins s σ H _ I h) fun v s1 ⟨x, H1, I1, rx, d, o, u, ex, hd, hu, q⟩ => ?_)
  subst ex
  obtain rfl : v = Value.ref d := rx
  obtain ⟨hs, hgd, es, ep, kvs, ho, hv⟩ := ent_of I1 hd hu
  have raw : DT.Raw s1.heap d es ep := ⟨o, hgd, ho.1, ho.2.1⟩
  refine ⟨raw.typeIs, ?_, ?_⟩
  · intro a ea
    cases ea
    exact ⟨o, hgd, ho.1.2.1⟩
  have I2 : Inv X pins σ H1 { s1 with heap := s1.heap.push { cls := .type "dict_items", data := .fields #[.ref d] } } := I1.kept (t' := s1.toks) fun b ob q => Heap.get?_push_of_some _ q
  have fin : wpAny (model X.prog X.w) X.A (pyIter (.ref s1.heap.objs.size)) (PIE X pins σ (.Tuple elts kk tpos) R) X.xe { s1 with heap := s1.heap.push { cls := .type "dict_items", data := .fields #[.ref d] } } := by
    refine DT.iterI (d := d) ⟨_, Heap.get?_push_size _ rfl, rfl, rfl⟩ (raw.push _) (pi_one (tk := s1.toks) I2 _ (turn_itemsG _ ho) ⟨.none, .none, ?_⟩ (q kvs hv))
    rw [← ho.2.2.1]
    exact Heap.get?_push_size _ rfl
  show wpAny _ _ (callWith cpos (.builtin "dict.items") [.ref d] [] []) _ X.xe s1
  exact method_meetsIn F.slot_dict_items F.entry_dict_items rfl (PySem.evalArgs_none ⟨rfl, raw.typeIs, F.args_dict_items_1 _, _, DT.meetsItems (es := es) (ep := ep) hs, raw, fin⟩)
theorem it_itemsG {g : Gx} {c : Cw} {H : Hp} {S : Sto} {d : Addr} {o : Obj} {u : HO} {kvs : List (V × V)} {gs : List (Dat × Dat)} (h : H d = some (.frz o u)) (l : kvs.length = gs.length)
    (r : ∀ (i : Nat) k v, kvs[i]? = some (k, v) → ∃ a b, gs[i]? = some (a, b) ∧ Rp g c H k a ∧ Rp g c H v b) : ItOk g c H [] S (ItiG d o u kvs) (gs.map fun p => .tuple [p.1, p.2]) := fun c1 H1 S1 x s1 wt => by
  refine ⟨⟨frz_gr x h, by rw [List.length_map]; omega⟩, fun i e q => ?_⟩
  have lt : i < kvs.length := by
    have := (List.getElem?_eq_some_iff.mp q).1
    rw [List.length_map] at this; omega
  refine ⟨⟨frz_gr x h, lt⟩, fun y H2 hy => ?_⟩
  obtain ⟨T, k, v, hk, rfl, hT, rfl⟩ := hy
  obtain ⟨a, b, e1, e2, e3⟩ := r i k v hk
  rw [List.getElem?_map, e1] at q
  cases q
  exact ⟨same_new hT, .tup upd_same (.cons ((e2.gr x).same (same_new hT)) (.cons ((e3.gr x).same (same_new hT)) .nil))⟩
theorem entV_rp {g : Gx} {c : Cw} {H : Hp} {u : HO} {kvs : List (V × V)} {gs : List (Dat × Dat)} (hv : EntV H u kvs) (r : (∃ ks, u = .dK ks ∧ RpK g c H ks gs) ∨ ∃ ks, u = .dT ks ∧ RpT g c H ks gs) :
    kvs.length = gs.length ∧ ∀ (i : Nat) k v, kvs[i]? = some (k, v) → ∃ a b, gs[i]? = some (a, b) ∧ Rp g c H k a ∧ Rp g c H v b := by
  rcases r with ⟨ks, rfl, r⟩ | ⟨ks, rfl, r⟩
  · have hv' : kvs = ks.map fun p : Key × V => (kV p.1, p.2) := hv
    subst hv'
    refine ⟨by rw [List.length_map]; exact r.length, fun i k v e => ?_⟩
    rw [List.getElem?_map] at e
    cases q : ks[i]? with
    | none => rw [q] at e; cases e
    | some p =>
      rw [q] at e
      cases e
      obtain ⟨z, e1, e2⟩ := r.get (k := p.1) (v := p.2) q
      exact ⟨_, _, e1, rp_key _, e2⟩
  · obtain ⟨l, hq⟩ := hv
    refine ⟨l.trans r.length, fun i k v e => ?_⟩
    have lt : i < ks.length := by rw [← l]; exact (List.getElem?_eq_some_iff.mp e).1
    obtain ⟨p, hp, e3⟩ := hq i ks[i].1 ks[i].2 (List.getElem?_eq_getElem lt)
    rw [e] at hp
    cases hp
    obtain ⟨z, e1, e2⟩ := r.get (k := ks[i].1) (v := ks[i].2) (List.getElem?_eq_getElem lt)
    exact ⟨_, _, e1, rp_tkey e3, e2⟩
section
variable {g : Gx} {W : WX} {σ : L2.St} {H : Hp} {R : It → Hp → Prop} {me : ME}
/-- a dict as data, locked -/
theorem dict_locked {c1 : Cw} {H1 : Hp} {S1 : Sto} {v : V} {kvs : List (Dat × Dat)} (s1 : StoOk g c1 S1 H1) (rv : Rp g c1 H1 v (.dict kvs)) {T : V → Hp → Prop}
    (q : ∀ d o u H2, v = .ref d → Gr c1 H1 c1 H2 → StoOk g c1 S1 H2 → H2 d = some (.frz o u) → ((∃ ks, u = .dK ks ∧ RpK g c1 H2 ks kvs) ∨ ∃ ks, u = .dT ks ∧ RpT g c1 H2 ks kvs) → T v H2) :
    T v H1 ∨ ∃ d u, v = .ref d ∧ H1 d = some u ∧ Mut (some u) ∧ ∀ od, T v (upd H1 d (.frz od u)) := by
  obtain ⟨a, rfl, h⟩ := rv.dict_inv
  rcases h with ⟨fs, h1, h2⟩ | ⟨fs, h1, h2⟩
  · rcases h1 with ⟨h1, n⟩ | ⟨ob, h1⟩
    · exact .inr ⟨a, _, rfl, h1, trivial, fun od => q a od _ _ rfl (.lock h1 trivial n) (s1.lock h1 trivial n) upd_same (.inl ⟨fs, rfl, h2.gr (.lock h1 trivial n)⟩)⟩
    · exact .inl (q a ob _ _ rfl .refl s1 h1 (.inl ⟨fs, rfl, h2⟩))
  · rcases h1 with ⟨h1, n⟩ | ⟨ob, h1⟩
    · exact .inr ⟨a, _, rfl, h1, trivial, fun od => q a od _ _ rfl (.lock h1 trivial n) (s1.lock h1 trivial n) upd_same (.inr ⟨fs, rfl, h2.gr (.lock h1 trivial n)⟩)⟩
    · exact .inl (q a ob _ _ rfl .refl s1 h1 (.inr ⟨fs, rfl, h2⟩))
theorem ri_keys (h : RI g W (mKeysI me) σ H R) : iKeys (tLockV (RE g W me)) σ H R := by
  obtain ⟨c, ρ, S, hE, hS, h⟩ := h
  refine ⟨c, ρ, S, hE, hS, (Po.bnd h).mono fun c1 S1 d H1 g1 s1 h1 v rv => ?_⟩
  obtain ⟨⟨xs, ks⟩, e2, q⟩ := Po.ofB (W := W) h1
  cases d with
  | dict kvs =>
    cases e2
    refine dict_locked s1 rv (T := fun x H1 => ∃ d o, x = V.ref d ∧ ((∃ kvs, H1 d = some (HO.frz o (HO.dK kvs)) ∧ R (Itk d o kvs) H1) ∨ ∃ kvs, H1 d = some (HO.frz o (HO.dT kvs)) ∧ R (Itkt d o kvs) H1)) fun d o u H2 ev g2 s2 hd hu => ?_
    rcases hu with ⟨ks, rfl, r⟩ | ⟨ks, rfl, r⟩
    · exact ⟨d, o, ev, .inl ⟨ks, hd, q c1 H2 g2 s2 _ (it_keys hd r)⟩⟩
    · exact ⟨d, o, ev, .inr ⟨ks, hd, q c1 H2 g2 s2 _ (it_keysT hd r)⟩⟩
  | _ => cases e2
theorem ri_items (h : RI g W (mItemsI me) σ H R) : iItemsG (tLockV (RE g W me)) σ H R := by
  obtain ⟨c, ρ, S, hE, hS, h⟩ := h
  refine ⟨c, ρ, S, hE, hS, (Po.bnd h).mono fun c1 S1 d H1 g1 s1 h1 v rv => ?_⟩
  obtain ⟨⟨xs, ks⟩, e2, q⟩ := Po.ofB (W := W) h1
  cases d with
  | dict kvs =>
    cases e2
    refine dict_locked s1 rv (T := fun x H1 => ∃ d o u, x = V.ref d ∧ H1 d = some (HO.frz o u) ∧ ((∃ ks, u = HO.dK ks) ∨ ∃ ks, u = HO.dT ks) ∧ ∀ kvs, EntV H1 u kvs → R (ItiG d o u kvs) H1) fun d o u H2 ev g2 s2 hd hu => ?_
    refine ⟨d, o, u, ev, hd, ?_, fun es hv => ?_⟩
    · rcases hu with ⟨ks, rfl, r⟩ | ⟨ks, rfl, r⟩
      · exact .inl ⟨ks, rfl⟩
      · exact .inr ⟨ks, rfl⟩
    · obtain ⟨l, hr⟩ := entV_rp hv hu
      exact q c1 H2 g2 s2 _ (it_itemsG hd l hr)
  | _ => cases e2
end
section
variable {X : Cx} {W : WX} {tg e : Expr} {me : ME} {apos cpos tpos : Pos} {elts : List Expr} {kk : Nat}
theorem si_keys (h : SE X W e me) : SI X W tg e (mKeysI me) := PI_of (pi_keys (pe_lockV h)) fun _ _ _ => ri_keys
theorem si_items (h : SE X W e me) (hbase : attributeBase e "items" X.env (eval e X.env) = eval e X.env) (hline : (apos.endLine == cpos.line) = true) : SI X W (.Tuple elts kk tpos) (.Call (.Attribute e "items" apos) [] [] cpos) (mItemsI me) :=
  PI_of (pi_itemsG (pe_lockV h) hbase hline) fun _ _ _ => ri_items
end
end PL

set_option Elab.async false
set_option linter.all false
set_option maxRecDepth 100000
set_option autoImplicit false
set_option maxHeartbeats 4000000
namespace PL
open PySem L2

/-! ### what the primitives answer -/
/-- a value at any depth -/
def pd (S : Sto) (d : Dat) : Option PyData := toPD S (S.length + 1) d
instance (i j : Int) : Decidable (CMulW i j) := by unfold CMulW; infer_instance
instance (i j : Int) : Decidable (CDivW i j) := by unfold CDivW; infer_instance
instance (i j : Int) : Decidable (CPow i j) := by unfold CPow; infer_instance
def okI (c : Prop) [Decidable c] (i : Int) (S : Sto) : Option (Dat × Sto) := if c then some (.int i, S) else none
def isKt : Dat → Bool
  | .kt _ => true
  | _ => false
def opAdd (o : Bool) (S : Sto) (x y : Dat) : Option (Dat × Sto) := match look S x, look S y with
  | .int i, .int j => some (.int (i + j), S)
  | .str a, .str b => if a.length + b.length ≤ sizeLine then some (.str (a ++ b), S) else none
  | .tuple xs, .tuple ys => if isKt x || isKt y then none else newT (xs ++ ys) S
  | .list xs, .list ys => newL o (xs ++ ys) S
  | _, _ => none
def opSub (S : Sto) (x y : Dat) : Option (Dat × Sto) := match x, y with
  | .int i, .int j => some (.int (i - j), S)
  | _, _ => none
def repS (a : Str) (n : Nat) : Str := ⟨((List.replicate n a.cps.toList).flatten).toArray⟩
def opMul (o : Bool) (S : Sto) (x y : Dat) : Option (Dat × Sto) := match look S x, look S y with
  | .int i, .int j => okI (CMulW i j) (i * j) S
  | _, _ => none
def opDiv (S : Sto) (x y : Dat) : Option (Dat × Sto) := match x, y with
  | .int i, .int j => okI (CDivW i j) (i / j) S
  | _, _ => none
def opMod (S : Sto) (x y : Dat) : Option (Dat × Sto) := match x, y with
  | .int i, .int j => okI (0 < j) (i % j) S
  | _, _ => none
def opPow (S : Sto) (x y : Dat) : Option (Dat × Sto) := match x, y with
  | .int i, .int j => okI (CPow i j) (i ^ j.toNat) S
  | _, _ => none
def opOr (S : Sto) (x y : Dat) : Option (Dat × Sto) := match x, y with
  | .int i, .int j => some (.int (Builtin.bitOr i j), S)
  | _, _ => none
def opAnd (S : Sto) (x y : Dat) : Option (Dat × Sto) := match x, y with
  | .int i, .int j => some (.int (Builtin.bitAnd i j), S)
  | _, _ => none
def opShl (S : Sto) (x y : Dat) : Option (Dat × Sto) := match x, y with
  | .int i, .int j => okI (CPow i j) (i * 2 ^ j.toNat) S
  | _, _ => none
def opShr (S : Sto) (x y : Dat) : Option (Dat × Sto) := match x, y with
  | .int i, .int j => okI (0 ≤ j) (i / 2 ^ j.toNat) S
  | _, _ => none
def binop (o : Bool) : Operator → Sto → Dat → Dat → Option (Dat × Sto)
  | .Add => opAdd o
  | .Sub => opSub
  | .Mult => opMul o
  | .FloorDiv => opDiv
  | .Mod => opMod
  | .Pow => opPow
  | .BitOr => opOr
  | .BitAnd => opAnd
  | .LShift => opShl
  | .RShift => opShr
  | _ => fun _ _ _ => none
def bool1 (b : Bool) (S : Sto) : Option (Dat × Sto) := some (.bool b, S)
def eqF : Dat → Dat → Bool
  | .none, .none => true
  | .bool a, .bool b => a == b
  | .bool a, .int j => (if a then 1 else 0) == j
  | .int i, .bool b => i == (if b then 1 else 0)
  | .int i, .int j => i == j
  | .str x, .str y => x == y
  | _, _ => false
/-- == of data -/
def eqD (S : Sto) (x y : Dat) : Option Bool := if flatD x && flatD y then some (eqF x y) else match look S x, look S y with
  | .list xs, .list [] => some xs.isEmpty
  | _, _ => (pd S x).bind fun p => (pd S y).bind fun q => if min p.depth q.depth ≤ 60 then some (PyData.eqv p q) else none
/-! the order of data -/
def notNone : PyData → Bool
  | .none => false
  | _ => true
def ordD (fi : Int → Int → Bool) (fd : PyData → PyData → Bool) (S : Sto) (x y : Dat) : Option Bool := match x, y with
  | .int i, .int j => some (fi i j)
  | x, y => (pd S x).bind fun p => (pd S y).bind fun q => if PySem.W.alike p q && notNone p && decide (min p.depth q.depth ≤ 60) then some (fd p q) else none
def inStr (x y : Str) : Bool := !(Builtin.Str.occurrences y x 0 y.length 1).isEmpty
/-- a key of a dict -/
def keyOk : Dat → Bool
  | .int _ => true
  | .str _ => true
  | .tuple xs => xs.all fun d => match d with
    | .int _ => true
    | .str _ => true
    | _ => false
  | _ => false
def isTupD : Dat → Bool
  | .tuple _ => true
  | _ => false
/-- a key of this dict's kind -/
def keyFits (kvs : List (Dat × Dat)) (x : Dat) : Bool := keyOk x && (match kvs with
  | [] => !isTupD x
  | (k, _) :: _ => isTupD k == isTupD x)
def inSeq (S : Sto) (x : Dat) (xs : List Dat) : Option Bool := if flatD x && xs.all flatD then some (xs.any fun y => eqF y x) else
  (pd S x).bind fun p => (toPDs S (S.length + 1) xs).bind fun qs => if min (PyData.depthAll qs) p.depth ≤ 60 then some (qs.any fun q => PyData.eqv q p) else none
def inD (S : Sto) (x y : Dat) : Option Bool := match look S y with
  | .str b => (match x with
    | .str a => some (inStr a b)
    | _ => none)
  | .dict kvs => if keyFits kvs x then some (dget kvs x).isSome else none
  | .kd kvs => (match x with
    | .str _ => some (dget kvs x).isSome
    | _ => none)
  | .list xs => inSeq S x xs
  | .tuple xs => inSeq S x xs
  | _ => none
def cmpop : CmpOp → Sto → Dat → Dat → Option (Dat × Sto)
  | .Eq, S, x, y => (eqD S x y).bind fun b => bool1 b S
  | .NotEq, S, x, y => (eqD S x y).bind fun b => bool1 (!b) S
  | .Lt, S, x, y => (ordD (fun i j => decide (i < j)) PySem.W.dataLt S x y).bind fun b => bool1 b S
  | .LtE, S, x, y => (ordD (fun i j => decide (i ≤ j)) (fun p q => !PySem.W.dataLt q p) S x y).bind fun b => bool1 b S
  | .Gt, S, x, y => (ordD (fun i j => decide (j < i)) (fun p q => PySem.W.dataLt q p) S x y).bind fun b => bool1 b S
  | .GtE, S, x, y => (ordD (fun i j => decide (j ≤ i)) (fun p q => !PySem.W.dataLt p q) S x y).bind fun b => bool1 b S
  | .In, S, x, y => (inD S x y).bind fun b => bool1 b S
  | .NotIn, S, x, y => (inD S x y).bind fun b => bool1 (!b) S
  | .Is, S, x, y => match y with
    | .none => bool1 (decide (x = .none)) S
    | _ => none
  | .IsNot, S, x, y => match y with
    | .none => bool1 (!decide (x = .none)) S
    | _ => none
def opNeg (S : Sto) (x : Dat) : Option (Dat × Sto) := match x with
  | .int i => some (.int (-i), S)
  | _ => none
/-! subscripts -/
def atD (S : Sto) (x y : Dat) : Option (Dat × Sto) := match look S x with
  | .list xs => (match y with
    | .int i => (atI xs i).bind fun d => val1 d S
    | _ => none)
  | .tuple xs => (match y with
    | .int i => (atI xs i).bind fun d => val1 d S
    | _ => none)
  | .str z => (match y with
    | .int i => if z.length ≤ sizeLine then (atI z.cps.toList i).bind fun c => val1 (.str ⟨#[c]⟩) S else none
    | _ => none)
  | .dict kvs => if keyFits kvs y then (dget kvs y).bind fun d => val1 d S else none
  | .kd kvs => (match y with
    | .str _ => (dget kvs y).bind fun d => val1 d S
    | _ => none)
  | _ => none
/-- xs[lo:hi] -/
def cutD {α : Type} (xs : List α) (lo hi : Option Int) : List α := (xs.drop (HT.sIx xs.length 0 lo)).take (HT.sIx xs.length xs.length hi - HT.sIx xs.length 0 lo)
def sliceD (o : Bool) (S : Sto) (x : Dat) (lo hi : Option Int) : Option (Dat × Sto) := match look S x with
  | .list xs => newL o (cutD xs lo hi) S
  | .tuple xs => if isKt x && decide (HT.sIx xs.length 0 lo = 0 ∧ HT.sIx xs.length xs.length hi = xs.length) then some (x, S) else newT (cutD xs lo hi) S
  | .str z => if z.length ≤ sizeLine then some (.str (cutS z lo hi), S) else none
  | _ => none
/-! builtin functions -/
def lenD (S : Sto) (x : Dat) : Option (Dat × Sto) := match look S x with
  | .list xs => some (.int xs.length, S)
  | .tuple xs => some (.int xs.length, S)
  | .str z => if z.length ≤ sizeLine then some (.int z.length, S) else none
  | .dict kvs => some (.int kvs.length, S)
  | _ => none
def absD (S : Sto) (x : Dat) : Option (Dat × Sto) := match x with
  | .int i => some (.int (if i < 0 then -i else i), S)
  | _ => none
def boolsOf : List Dat → Option (List Bool)
  | [] => some []
  | .bool b :: r => (boolsOf r).map fun bs => b :: bs
  | _ :: _ => none
def intsOf : List Dat → Option (List Int)
  | [] => some []
  | .int b :: r => (intsOf r).map fun bs => b :: bs
  | _ :: _ => none
def strsOf : List Dat → Option (List Str)
  | [] => some []
  | .str b :: r => (strsOf r).map fun bs => b :: bs
  | _ :: _ => none
def maxI : List Int → Option Int
  | [] => none
  | i :: r => some (r.foldl max i)
def minI : List Int → Option Int
  | [] => none
  | i :: r => some (r.foldl min i)
def lstOf (S : Sto) (x : Dat) : Option (List Dat) := match look S x with
  | .list xs => some xs
  | _ => none
/-- what data is sorted by -/
def keyD (S : Sto) (d : Dat) : PyData := (pd S d).getD .none
def sortD (S : Sto) (xs : List Dat) : List Dat := xs.mergeSort (PySem.W.dataLe false (keyD S))
def sortable (S : Sto) (xs : List Dat) : Bool := xs.all fun x => (pd S x).isSome && notNone (keyD S x) && decide ((keyD S x).depth ≤ 60) && xs.all fun y => PySem.W.alike (keyD S x) (keyD S y)
def keysOf (kvs : List (Dat × Dat)) : List Dat := kvs.map (·.1)
def isStrD : Dat → Bool
  | .str _ => true
  | _ => false
/-- what is sorted: a list, or the keys of a dict of texts -/
def srcS (S : Sto) (d : Dat) : Option (List Dat) := match look S d with
  | .list xs => some xs
  | .dict kvs => if (keysOf kvs).all isStrD && decide (kvs.length < 64) then some (keysOf kvs) else none
  | _ => none
def tupleD (S : Sto) (x : Dat) : Option (Dat × Sto) := match look S x with
  | .list xs => newT xs S
  | .tuple _ => some (x, S)
  | _ => none
/-- the pairs of a list of pairs -/
def pairsD : List Dat → Option (List (Dat × Dat))
  | [] => some []
  | .tuple [k, v] :: r => if keyOk k then (pairsD r).map fun ps => (k, v) :: ps else none
  | _ :: _ => none
/-- the keys are all tuples, or none is -/
def oneKind : List (Dat × Dat) → Bool
  | [] => true
  | (k, _) :: r => r.all fun p => isTupD p.1 == isTupD k
def dputs (kvs : List (Dat × Dat)) : List (Dat × Dat) → List (Dat × Dat)
  | [] => kvs
  | (k, v) :: r => dputs (dput kvs k v) r
def newD (o : Bool) (kvs : List (Dat × Dat)) (S : Sto) : Option (Dat × Sto) := if kvs.length ≤ sizeLine then (if o then some (.own S.length, S ++ [.dict kvs]) else some (.dict kvs, S)) else none
def isSeqP : PyData → Bool
  | .list _ => true
  | .tuple _ => true
  | _ => false
def reprD (S : Sto) (x : Dat) : Option (Dat × Sto) := (pd S x).bind fun p => if isSeqP p && p.canLay0 && p.showable && decide (p.shown.length ≤ sizeLine) && decide (p.depth ≤ 60) then some (.str p.shown, S) else none
inductive Bi where
  | len | abs | max2 | min2 | maxL | minL | sum | int | str | bool | all | any | sorted | tuple | list | dict | repr
  deriving DecidableEq
def int2 (f : Int → Int → Int) (S : Sto) (x y : Dat) : Option (Dat × Sto) := match x, y with
  | .int i, .int j => some (.int (f i j), S)
  | _, _ => none
def intB (S : Sto) (x : Dat) : Option (Dat × Sto) := match x with
  | .int i => some (.int i, S)
  | .bool b => some (.int (if b then 1 else 0), S)
  | _ => none
def strB (S : Sto) (x : Dat) : Option (Dat × Sto) := match x with
  | .int i => if i.natAbs.log2 < 1920 then some (.str (toString i), S) else none
  | .str z => some (.str z, S)
  | _ => none
def boolB (S : Sto) (x : Dat) : Option (Dat × Sto) := match x with
  | .int i => some (.bool (i != 0), S)
  | .bool b => some (.bool b, S)
  | _ => none
def bi1 (b : Bi) (o : Bool) (S : Sto) (x : Dat) : Option (Dat × Sto) := match b with
  | .len => lenD S x
  | .abs => absD S x
  | .maxL => (lstOf S x).bind fun ys => (intsOf ys).bind fun is => (maxI is).bind fun m => some (.int m, S)
  | .minL => (lstOf S x).bind fun ys => (intsOf ys).bind fun is => (minI is).bind fun m => some (.int m, S)
  | .sum => (lstOf S x).bind fun ys => (intsOf ys).bind fun is => some (.int is.sum, S)
  | .int => intB S x
  | .str => strB S x
  | .bool => boolB S x
  | .all => (lstOf S x).bind fun ys => (boolsOf ys).bind fun bs => some (.bool (bs.all id), S)
  | .any => (lstOf S x).bind fun ys => (boolsOf ys).bind fun bs => some (.bool (bs.any id), S)
  | .sorted => (srcS S x).bind fun ys => if sortable S ys then newL o (sortD S ys) S else none
  | .tuple => tupleD S x
  | .list => (seqOf S x).bind fun ys => newL o ys S
  | .dict => (lstOf S x).bind fun ys => (pairsD ys).bind fun ps => if oneKind ps then newD o (dputs [] ps) S else none
  | .repr => reprD S x
  | .max2 => none
  | .min2 => none
def bi2 (b : Bi) (S : Sto) (x y : Dat) : Option (Dat × Sto) := match b with
  | .max2 => int2 (fun i j => if j > i then j else i) S x y
  | .min2 => int2 (fun i j => if j < i then j else i) S x y
  | _ => none
def biD (b : Bi) (o : Bool) (S : Sto) (xs : List Dat) : Option (Dat × Sto) := match xs with
  | [x] => bi1 b o S x
  | [x, y] => bi2 b S x y
  | _ => none
/-! methods of builtin types -/
inductive Bm where
  | join | append | extend | remove | pop | clear | get1 | get2
  deriving DecidableEq
def setC (S : Sto) (k : Nat) (x : Cell) : Sto := S.set k x
def remF (p : Dat → Option Bool) : List Dat → Option (List Dat)
  | [] => none
  | x :: xs => (p x).bind fun b => if b then some xs else (remF p xs).map fun r => x :: r
/-- a list that may be changed -/
def ownL (S : Sto) (x : Dat) : Option (Nat × List Dat) := match x with
  | .own k => (match S[k]? with
    | some (.lst zs) => some (k, zs)
    | _ => none)
  | _ => none
def joinD (S : Sto) (x y : Dat) : Option (Dat × Sto) := match x with
  | .str a => (lstOf S y).bind fun ys => (strsOf ys).bind fun ss => if (ss.map (·.length)).sum + ss.length * a.length ≤ 16777216 then some (.str (Txt.join a ss), S) else none
  | _ => none
def appendD (S : Sto) (x y : Dat) : Option (Dat × Sto) := (ownL S x).bind fun (k, zs) => if zs.length < sizeLine then some (.none, S.set k (.lst (zs ++ [y]))) else none
def extendD (S : Sto) (x y : Dat) : Option (Dat × Sto) := (ownL S x).bind fun (k, zs) => (seqOf S y).bind fun ys => if zs.length + ys.length ≤ sizeLine then some (.none, S.set k (.lst (zs ++ ys))) else none
def removeD (S : Sto) (x y : Dat) : Option (Dat × Sto) := (ownL S x).bind fun (k, zs) => (remF (fun z => eqD S z y) zs).bind fun r => some (.none, S.set k (.lst r))
def popD (S : Sto) (x : Dat) : Option (Dat × Sto) := (ownL S x).bind fun (k, zs) => (zs[zs.length - 1]?).bind fun z => some (z, S.set k (.lst zs.dropLast))
def clearD (S : Sto) (x : Dat) : Option (Dat × Sto) := (ownL S x).bind fun (k, _) => some (.none, S.set k (.lst []))
def getD_ (S : Sto) (x k v : Dat) : Option (Dat × Sto) := match look S x with
  | .dict kvs => if keyFits kvs k then some ((dget kvs k).getD v, S) else none
  | .kd kvs => if isStrD k then some ((dget kvs k).getD v, S) else none
  | _ => none
def bmD (b : Bm) (S : Sto) (x : Dat) (xs : List Dat) : Option (Dat × Sto) := match xs with
  | [] => (match b with
    | .pop => popD S x
    | .clear => clearD S x
    | _ => none)
  | [y] => (match b with
    | .join => joinD S x y
    | .append => appendD S x y
    | .extend => extendD S x y
    | .remove => removeD S x y
    | .get1 => getD_ S x y .none
    | _ => none)
  | [y, v] => (match b with
    | .get2 => getD_ S x y v
    | _ => none)
  | _ => none
/-! stores -/
def setAtD (S : Sto) (x y v : Dat) : Option Sto := match x with
  | .own k => match S[k]? with
    | some (.lst zs) => (match y with
      | .int i => (ixN zs.length i).bind fun j => some (S.set k (.lst (zs.set j v)))
      | _ => none)
    | some (.dict kvs) => if keyFits kvs y ∧ kvs.length < sizeLine then some (S.set k (.dict (dput kvs y v))) else none
    | _ => none
  | _ => none
def putFd (f : Str) (v : Dat) : List (Str × Dat) → List (Str × Dat)
  | [] => [(f, v)]
  | (n, d) :: r => if n = f then (n, v) :: r else (n, d) :: putFd f v r
/-- the classes and the names of their attributes -/
abbrev CT := List (Str × List Str)
def hasC (ct : CT) (C : Str) : Bool := ct.any fun p => decide (p.1 = C)
def hasF (ct : CT) (C f : Str) : Bool := ct.any fun p => decide (p.1 = C) && p.2.any fun n => decide (n = f)
def setFldD (ct : CT) (S : Sto) (x : Dat) (f : Str) (v : Dat) : Option Sto := match x with
  | .own k => match S[k]? with
    | some (.ins C fs) => if fs.length < 1000 ∧ hasF ct C f = true then some (S.set k (.ins C (putFd f v fs))) else none
    | _ => none
  | _ => none
def fldD (S : Sto) (x : Dat) (f : Str) : Option (Dat × Sto) := match look S x with
  | .ins _ fs => (fs.lookup f).bind fun d => some (d, S)
  | _ => none
/-! isinstance -/
inductive Ty where
  | int | bool | str | tuple | list | dict
  | cls (C : Str)
  deriving DecidableEq
def isTy (ct : CT) (S : Sto) (x : Dat) : Ty → Option Bool := fun t => match look S x, t with
  | .own _, _ => none
  | .dict _, _ => none
  | .int _, .int => some true
  | .bool _, .int => some true
  | .bool _, .bool => some true
  | .str _, .str => some true
  | .tuple _, .tuple => some true
  | .list _, .list => some true
  | .kd _, .dict => some true
  | .ins C _, .cls D => if hasC ct C then some (decide (C = D)) else none
  | .ins C _, _ => if hasC ct C then some false else none
  | _, _ => some false
end PL

set_option Elab.async false
set_option linter.all false
set_option maxRecDepth 100000
set_option autoImplicit false
set_option maxHeartbeats 4000000
namespace PL
open PySem L2

/-! ### cells made known -/
mutual
def mapO (h : Nat → Option Dat) : Dat → Option Dat
  | .none => some .none
  | .bool b => some (.bool b)
  | .int i => some (.int i)
  | .str x => some (.str x)
  | .list xs => (mapOs h xs).map .list
  | .tuple xs => (mapOs h xs).map .tuple
  | .ins C fs => (mapOf h fs).map (.ins C)
  | .dict kvs => (mapOk h kvs).map .dict
  | .kd kvs => some (.kd kvs)
  | .kt xs => some (.kt xs)
  | .own k => h k
def mapOs (h : Nat → Option Dat) : List Dat → Option (List Dat)
  | [] => some []
  | d :: ds => (mapO h d).bind fun e => (mapOs h ds).map fun es => e :: es
def mapOf (h : Nat → Option Dat) : List (Str × Dat) → Option (List (Str × Dat))
  | [] => some []
  | (n, d) :: ds => (mapO h d).bind fun e => (mapOf h ds).map fun es => (n, e) :: es
/-- the keys have no cells in them -/
def mapOk (h : Nat → Option Dat) : List (Dat × Dat) → Option (List (Dat × Dat))
  | [] => some []
  | (n, d) :: ds => (mapO h d).bind fun e => (mapOk h ds).map fun es => (n, e) :: es
end
def resO (n : Nat) (S : Sto) : Nat → Nat → Option Dat
  | 0, k => if k < n then some (.own k) else none
  | f + 1, k => if k < n then some (.own k) else match S[k]? with
    | some (.lst xs) => (mapOs (resO n S f) xs).map .list
    | some (.ins C fs) => (mapOf (resO n S f) fs).map (.ins C)
    | some (.dict kvs) => (mapOk (resO n S f) kvs).map .dict
    | none => none
def res (n : Nat) (S : Sto) (d : Dat) : Option Dat := mapO (resO n S S.length) d
/-! own-free data -/
mutual
def free : Dat → Bool
  | .list xs => frees xs
  | .tuple xs => frees xs
  | .ins _ fs => freeF fs
  | .dict kvs => freeK kvs
  | .own _ => false
  | _ => true
def frees : List Dat → Bool
  | [] => true
  | d :: ds => free d && frees ds
def freeF : List (Str × Dat) → Bool
  | [] => true
  | (_, d) :: ds => free d && freeF ds
def freeK : List (Dat × Dat) → Bool
  | [] => true
  | (_, d) :: ds => free d && freeK ds
end
mutual
theorem mapO_free (h : Nat → Option Dat) : ∀ d : Dat, free d = true → mapO h d = some d
  | .none, _ => by simp [mapO]
  | .bool b, _ => by simp [mapO]
  | .int i, _ => by simp [mapO]
  | .str x, _ => by simp [mapO]
  | .list xs, q => by rw [free] at q; simp [mapO, mapOs_free h xs q]
  | .tuple xs, q => by rw [free] at q; simp [mapO, mapOs_free h xs q]
  | .ins C fs, q => by rw [free] at q; simp [mapO, mapOf_free h fs q]
  | .dict kvs, q => by rw [free] at q; simp [mapO, mapOk_free h kvs q]
  | .kd kvs, _ => by simp [mapO]
  | .kt xs, _ => by simp [mapO]
  | .own k, q => by simp [free] at q
theorem mapOs_free (h : Nat → Option Dat) : ∀ ds : List Dat, frees ds = true → mapOs h ds = some ds
  | [], _ => by simp [mapOs]
  | d :: ds, q => by
    rw [frees, Bool.and_eq_true] at q
    simp [mapOs, mapO_free h d q.1, mapOs_free h ds q.2]
theorem mapOf_free (h : Nat → Option Dat) : ∀ ds : List (Str × Dat), freeF ds = true → mapOf h ds = some ds
  | [], _ => by simp [mapOf]
  | (n, d) :: ds, q => by
    rw [freeF, Bool.and_eq_true] at q
    simp [mapOf, mapO_free h d q.1, mapOf_free h ds q.2]
theorem mapOk_free (h : Nat → Option Dat) : ∀ ds : List (Dat × Dat), freeK ds = true → mapOk h ds = some ds
  | [], _ => by simp [mapOk]
  | (n, d) :: ds, q => by
    rw [freeK, Bool.and_eq_true] at q
    simp [mapOk, mapO_free h d q.1, mapOk_free h ds q.2]
end
def freeC : Cell → Bool
  | .lst xs => frees xs
  | .ins _ fs => freeF fs
  | .dict kvs => freeK kvs
/-- the old cells are as they were, or without cells in them -/
def Keep (n : Nat) (S S' : Sto) : Prop := ∀ k, k < n → S'[k]? = S[k]? ∨ ∃ x, S'[k]? = some x ∧ freeC x = true
def keepB (n : Nat) (S S' : Sto) : Bool := (List.range n).all fun k => decide (S'[k]? = S[k]?) || (match S'[k]? with
  | some x => freeC x
  | none => false)
theorem keepB_ok {n : Nat} {S S' : Sto} (h : keepB n S S' = true) : Keep n S S' := fun k hk => by
  have q := List.all_eq_true.mp h k (List.mem_range.mpr hk)
  rw [Bool.or_eq_true] at q
  rcases q with q | q
  · exact .inl (of_decide_eq_true q)
  · cases e : S'[k]? with
    | none => rw [e] at q; cases q
    | some x => rw [e] at q; exact .inr ⟨x, rfl, q⟩
/-- the end of a def: what it made is made known -/
def fin (S S' : Sto) (d : Dat) : Res Dat := match res S.length S' d with
  | some d' => if keepB S.length S S' then .ok d' (S'.take S.length) else .bad
  | none => .bad

/-! ### the language -/
/-- where a parameter's value comes from: a positional argument, a keyword's, a default, what is left over -/
inductive Src where
  | p (i : Nat)
  | k (i : Nat)
  | d (c : Dat)
  | r (i : Nat)
/-- the arguments as they are, or by keywords and sources -/
inductive Ar where
  | all
  | by_ (n : Nat) (v : Bool) (kn : List Str) (l : List Src)
def srcD (xs ys : List Dat) : Src → Option Dat
  | .p i => xs[i]?
  | .k i => ys[i]?
  | .d c => some c
  | .r i => if (xs.drop i).length ≤ sizeLine then some (.tuple (xs.drop i)) else none
def srcs (xs ys : List Dat) : List Src → Option (List Dat)
  | [] => some []
  | s :: r => (srcD xs ys s).bind fun d => (srcs xs ys r).map fun ds => d :: ds
def arD (a : Ar) (xs ys : List Dat) : Option (List Dat) := match a with
  | .all => some xs
  | .by_ n v kn l => if ys.length = kn.length ∧ (if v then n ≤ xs.length else xs.length = n) then srcs xs ys l else none
mutual
inductive E where
  | var (i : Nat)
  | con (d : Dat)
  | glob (x : Str) (d : Dat)
  | ccon (C f : Str) (d : Dat)
  | bin (o : Bool) (op : Operator) (a b : E)
  | neg (a : E)
  | cmp (op : CmpOp) (a b : E)
  | chain (p q : CmpOp) (a b c : E)
  | andE (a b : E)
  | orE (a b : E)
  | notE (a : E)
  | ife (t : T) (a b : E)
  | tup (as : As)
  | lst (o : Bool) (as : As)
  | dic (o : Bool) (ks : List Dat) (vs : As)
  | idx (a i : E)
  | sl (o : Bool) (a : E) (lo hi : Eo)
  | rev (o : Bool) (a : E)
  | fld (a : E) (f : Str)
  | isi (a : E) (ts : List Ty) (t : Bool)
  | bi (b : Bi) (o : Bool) (as : As)
  | bm (b : Bm) (a : E) (as : As)
  | call (f : Str) (as : As) (ks : As) (ar : Ar)
  | make (C f : Str) (as : As) (ks : As) (ar : Ar)
  | meth (C m f : Str) (a : E) (as : As) (ks : As) (ar : Ar)
  | prop (C m f : Str) (a : E)
  | getI (C f : Str) (a b : E)
  | cont (C f : Str) (neg : Bool) (a b : E)
  | lenO (C f : Str) (a : E)
  | strO (C f : Str) (a : E)
  | eqO (C f : Str) (neg : Bool) (a b : E)
  | lc (o : Bool) (it : It_) (p : Pat) (t : T) (e : E) (vs : List Nat)
  | lc2 (o : Bool) (it : It_) (p : Pat) (t : T) (it1 : It_) (p1 : Pat) (t1 : T) (e : E) (vs vs1 : List Nat)
  | dc (o : Bool) (it : It_) (p : Pat) (t : T) (k e : E) (vs : List Nat)
  | fs (as : As)
inductive T where
  | tru (e : E)
  | yes
  | and (a b : T)
  | or (a b : T)
  | not (a : T)
inductive As where
  | nil
  | cons (e : E) (r : As)
  | star (e : E) (r : As)
inductive Eo where
  | no
  | so (e : E)
inductive It_ where
  | seq (e : E)
  | en (e : E)
  | rng1 (e : E)
  | rng2 (a b : E)
  | zip (a b : E)
  | keys (e : E)
  | items (e : E)
  | vals (e : E)
end
/-- targets -/
inductive Tg where
  | nm (i : Nat)
  | fld (a : E) (f : Str)
  | sub (a i : E)
mutual
inductive Sm where
  | ret (e : E)
  | retN
  | expr (e : E)
  | pass
  | brk
  | cont
  | set (i : Nat) (e : E)
  | pat (p : Pat) (e : E)
  | par2 (i j : Nat) (a b : E)
  | par3 (i j l : Nat) (a b c : E)
  | setF (a : E) (f : Str) (e : E)
  | setI (a i : E) (e : E)
  | tgs (ts : List Tg) (e : E)
  | augV (i : Nat) (op : Operator) (e : E)
  | augF (a : E) (f : Str) (op : Operator) (e : E)
  | augI (a i : E) (op : Operator) (e : E)
  | ite (t : T) (b1 b2 : Ss)
  | for_ (it : It_) (p : Pat) (b els : Ss)
  | while_ (t : T) (b els : Ss)
  | never
inductive Ss where
  | nil
  | cons (s : Sm) (r : Ss)
end
/-- the functions, by keys, and how often a while may turn -/
structure Fe where
  call : Str → Fun
  make : Str → Str → Fun
  ct : CT
  wf : Nat
/-! ### what it does -/
def mDic (o : Bool) (ks : List Dat) (b : MA) : ME := fun ρ S => (b ρ S).bnd fun vs S2 => if ks.length = vs.length then ofP (newD o (dputs [] (ks.zip vs)) S2) else .bad
def mCallK (F : Fun) (a b : MA) (ar : Ar) : ME := fun ρ S => (a ρ S).bnd fun xs S1 => (b ρ S1).bnd fun ys S2 => match arD ar xs ys with
  | some ds => F ds S2
  | none => .bad
/-- an instance of the class -/
def isInst (S : Sto) (x : Dat) (C : Str) : Bool := match look S x with
  | .ins D _ => decide (D = C)
  | _ => false
def mMeth (C : Str) (F : Fun) (e : ME) (a b : MA) (ar : Ar) : ME := fun ρ S => (e ρ S).bnd fun x S0 => if isInst S0 x C then (a ρ S0).bnd fun xs S1 => (b ρ S1).bnd fun ys S2 => match arD ar xs ys with
  | some ds => F (x :: ds) S2
  | none => .bad
  else .bad
/-- no exception may come -/
def noEx {α : Type} : Res α → Res α
  | .ok a S => .ok a S
  | _ => .bad
def mProp (C : Str) (F : Fun) (e : ME) : ME := fun ρ S => (e ρ S).bnd fun x S1 => if isInst S1 x C then noEx (F [x] S1) else .bad
def mLenO (C : Str) (F : Fun) (e : ME) : ME := fun ρ S => (e ρ S).bnd fun x S1 => if isInst S1 x C then (F [x] S1).bnd fun d S2 => match d with
  | .int i => if 0 ≤ i ∧ i < 2 ^ 63 then .ok (.int i) S2 else .bad
  | _ => .bad
  else .bad
def mGetI (C : Str) (F : Fun) (a b : ME) : ME := fun ρ S => (a ρ S).bnd fun x S1 => (b ρ S1).bnd fun y S2 => if isInst S2 x C then F [x, y] S2 else .bad
def mBoolF (neg : Bool) (d : Dat) (S : Sto) : Res Dat := match d with
  | .bool b => .ok (.bool (if neg then !b else b)) S
  | _ => .bad
/-- x in o: the container is evaluated second, and is the receiver -/
def mContO (C : Str) (F : Fun) (neg : Bool) (a b : ME) : ME := fun ρ S => (a ρ S).bnd fun x S1 => (b ρ S1).bnd fun y S2 => if isInst S2 y C then (F [y, x] S2).bnd fun d S3 => mBoolF neg d S3 else .bad
def mEqO (C : Str) (F : Fun) (neg : Bool) (a b : ME) : ME := fun ρ S => (a ρ S).bnd fun x S1 => (b ρ S1).bnd fun y S2 => if isInst S2 x C then (F [x, y] S2).bnd fun d S3 => mBoolF neg d S3 else .bad
/-- the receiver is of the method's type -/
def bmT (b : Bm) (S : Sto) (x : Dat) : Bool := match b with
  | .join => isStrD x
  | .get1 | .get2 => (match look S x with
    | .dict _ => true
    | .kd _ => true
    | _ => false)
  | _ => (match look S x with
    | .list _ => true
    | _ => false)
def mBm (b : Bm) (e : ME) (a : MA) : ME := fun ρ S => (e ρ S).bnd fun x S1 => if bmT b S1 x then (a ρ S1).bnd fun xs S2 => ofP (bmD b S2 x xs) else .bad
def mChain (f h : Sto → Dat → Dat → Option (Dat × Sto)) (a b c : ME) : ME := fun ρ S => (a ρ S).bnd fun x S1 => (b ρ S1).bnd fun y S2 => (ofP (f S2 x y)).bnd fun z S3 => match z with
  | .bool true => (c ρ S3).bnd fun u S4 => ofP (h S4 y u)
  | .bool false => .ok (.bool false) S3
  | _ => .bad
def optI : Option Dat → Option (Option Int)
  | none => some none
  | some (.int i) => some (some i)
  | some .none => some none
  | _ => none
abbrev MO := Ro → Sto → Res (Option Int)
def mOn : MO := fun _ S => .ok none S
def mOs (m : ME) : MO := fun ρ S => (m ρ S).bnd fun d S1 => match d with
  | .int i => .ok (some i) S1
  | _ => .bad
def mSl (o : Bool) (a : ME) (lo hi : MO) : ME := fun ρ S => (a ρ S).bnd fun x S1 => (lo ρ S1).bnd fun l S2 => (hi ρ S2).bnd fun h S3 => ofP (sliceD o S3 x l h)
def revD (o : Bool) (S : Sto) (x : Dat) : Option (Dat × Sto) := match look S x with
  | .list xs => newL o xs.reverse S
  | _ => none
def mIsi (ct : CT) (a : ME) (ts : List Ty) : ME := fun ρ S => (a ρ S).bnd fun x S1 => ofB ((ts.mapM (isTy ct S1 x)).map fun bs => .bool (bs.any id)) S1
/-- the parts of an f-string -/
def fmtD (d : Dat) : Option Str := match d with
  | .str x => if x.length ≤ sizeLine then some x else none
  | .int i => if i.natAbs.log2 < 1920 then some (toString i) else none
  | _ => none
def catS : Str → List Str → Str
  | a, [] => a
  | a, x :: xs => catS (a ++ x) xs
def mFs (a : MA) : ME := fun ρ S => (a ρ S).bnd fun ds S1 => ofB ((ds.mapM fmtD).bind fun xs => if (xs.map (·.length)).sum ≤ sizeLine then some (.str (catS Str.empty xs)) else none) S1
/-- two clauses -/
def mLc2L (p : Pat) (mt : MT) (mi1 : MI) (p1 : Pat) (mt1 : MT) (me : ME) (vs1 : List Nat) (ks : List Nat) (S0 : Sto) : List Dat → Ro → Sto → List Dat → Res (List Dat)
  | [], _, S, acc => if Wat ks S0 S then .ok acc S else .bad
  | x :: xs, ρ, S, acc => if Wat ks S0 S then (match bindP p x ρ with
    | some ρ1 => (match mt ρ1 S with
      | .ok b S1 => if b then (match mi1 ρ1 S1 with
          | .ok (ds, ks1) S2 => (match mLcL p1 mt1 me ks1 S2 ds (wipeE ρ1 vs1) S2 acc with
            | .ok acc2 S3 => mLc2L p mt mi1 p1 mt1 me vs1 ks S0 xs ρ S3 acc2
            | _ => .bad)
          | _ => .bad) else mLc2L p mt mi1 p1 mt1 me vs1 ks S0 xs ρ S1 acc
      | _ => .bad)
    | none => .bad) else .bad
def mLc2 (mi : MI) (p : Pat) (mt : MT) (mi1 : MI) (p1 : Pat) (mt1 : MT) (me : ME) (vs vs1 : List Nat) (o : Bool) : ME := fun ρ S => (mi ρ S).bnd fun (ds, ks) S1 => (mLc2L p mt mi1 p1 mt1 me vs1 ks S1 ds (wipeE ρ vs) S1 []).bnd fun ys S2 => ofP (newL o ys S2)
/-- dict comprehensions -/
def mDcL (p : Pat) (mt : MT) (mk me : ME) (ks : List Nat) (S0 : Sto) : List Dat → Ro → Sto → List (Dat × Dat) → Res (List (Dat × Dat))
  | [], _, S, acc => if Wat ks S0 S then .ok acc S else .bad
  | x :: xs, ρ, S, acc => if Wat ks S0 S then (match bindP p x ρ with
    | some ρ1 => (match mt ρ1 S with
      | .ok b S1 => if b then (match mk ρ1 S1 with
          | .ok k S2 => (match me ρ1 S2 with
            | .ok y S3 => if (keyOk k && !isTupD k) = true ∧ acc.length < sizeLine then mDcL p mt mk me ks S0 xs ρ S3 (dput acc k y) else .bad
            | _ => .bad)
          | _ => .bad) else mDcL p mt mk me ks S0 xs ρ S1 acc
      | _ => .bad)
    | none => .bad) else .bad
def mDc (mi : MI) (p : Pat) (mt : MT) (mk me : ME) (vs : List Nat) (o : Bool) : ME := fun ρ S => (mi ρ S).bnd fun (ds, ks) S1 => (mDcL p mt mk me ks S1 ds (wipeE ρ vs) S1 []).bnd fun ys S2 => ofP (newD o ys S2)
mutual
def evE (Φ : Fe) : E → ME
  | .var i => mVar i
  | .con d => mC d
  | .glob _ d => mC d
  | .ccon _ _ d => mC d
  | .bin o op a b => m2 (binop o op) (evE Φ a) (evE Φ b)
  | .neg a => m1 opNeg (evE Φ a)
  | .cmp op a b => m2 (cmpop op) (evE Φ a) (evE Φ b)
  | .chain p q a b c => mChain (cmpop p) (cmpop q) (evE Φ a) (evE Φ b) (evE Φ c)
  | .andE a b => mAndV (evE Φ a) (evE Φ b)
  | .orE a b => mOrV (evE Φ a) (evE Φ b)
  | .notE a => mNotV (evE Φ a)
  | .ife t a b => mIf (evT Φ t) (evE Φ a) (evE Φ b)
  | .tup as => mN (fun S xs => newT xs S) (evA Φ as)
  | .lst o as => mN (fun S xs => newL o xs S) (evA Φ as)
  | .dic o ks vs => mDic o ks (evA Φ vs)
  | .idx a i => m2 atD (evE Φ a) (evE Φ i)
  | .sl o a lo hi => mSl o (evE Φ a) (evO Φ lo) (evO Φ hi)
  | .rev o a => m1 (revD o) (evE Φ a)
  | .fld a f => m1 (fun S x => fldD S x f) (evE Φ a)
  | .isi a ts _ => mIsi Φ.ct (evE Φ a) ts
  | .bi b o as => mN (biD b o) (evA Φ as)
  | .bm b a as => mBm b (evE Φ a) (evA Φ as)
  | .call f as ks ar => mCallK (Φ.call f) (evA Φ as) (evA Φ ks) ar
  | .make C f as ks ar => mCallK (Φ.make C f) (evA Φ as) (evA Φ ks) ar
  | .meth C _ f a as ks ar => mMeth C (Φ.call f) (evE Φ a) (evA Φ as) (evA Φ ks) ar
  | .prop C _ f a => mProp C (Φ.call f) (evE Φ a)
  | .getI C f a b => mGetI C (Φ.call f) (evE Φ a) (evE Φ b)
  | .cont C f n a b => mContO C (Φ.call f) n (evE Φ a) (evE Φ b)
  | .lenO C f a => mLenO C (Φ.call f) (evE Φ a)
  | .strO C f a => mProp C (Φ.call f) (evE Φ a)
  | .eqO C f n a b => mEqO C (Φ.call f) n (evE Φ a) (evE Φ b)
  | .lc o it p t e vs => mLc (evI Φ it) p (evT Φ t) (evE Φ e) vs o
  | .lc2 o it p t it1 p1 t1 e vs vs1 => mLc2 (evI Φ it) p (evT Φ t) (evI Φ it1) p1 (evT Φ t1) (evE Φ e) vs vs1 o
  | .dc o it p t k e vs => mDc (evI Φ it) p (evT Φ t) (evE Φ k) (evE Φ e) vs o
  | .fs as => mFs (evA Φ as)
def evT (Φ : Fe) : T → MT
  | .tru e => mTru (evE Φ e)
  | .yes => mTrue
  | .and a b => mAnd (evT Φ a) (evT Φ b)
  | .or a b => mOr (evT Φ a) (evT Φ b)
  | .not a => mNot (evT Φ a)
def evA (Φ : Fe) : As → MA
  | .nil => mNil
  | .cons e r => mCons (evE Φ e) (evA Φ r)
  | .star e r => mStar (evE Φ e) (evA Φ r)
def evO (Φ : Fe) : Eo → MO
  | .no => mOn
  | .so e => mOs (evE Φ e)
def evI (Φ : Fe) : It_ → MI
  | .seq e => mSeqI (evE Φ e)
  | .en e => mEnI (mCons (evE Φ e) mNil)
  | .rng1 e => mRng1 (mCons (evE Φ e) mNil)
  | .rng2 a b => mRng2 (mCons (evE Φ a) (mCons (evE Φ b) mNil))
  | .zip a b => mZipI (mCons (evE Φ a) (mCons (evE Φ b) mNil))
  | .keys e => mKeysI (evE Φ e)
  | .items e => mItemsI (evE Φ e)
  | .vals e => mValsI (evE Φ e)
end
def ofS (o : Option Sto) (ρ : Ro) : RSt := match o with
  | some S => .nx ρ S
  | none => .bad
def mSetF (ct : CT) (a : ME) (f : Str) (e : ME) : MS := fun ρ S => (e ρ S).st ρ fun v S1 => (a ρ S1).st ρ fun x S2 => ofS (setFldD ct S2 x f v) ρ
def mSetI (a i e : ME) : MS := fun ρ S => (e ρ S).st ρ fun v S1 => (a ρ S1).st ρ fun x S2 => (i ρ S2).st ρ fun y S3 => ofS (setAtD S3 x y v) ρ
def mAugV (i : Nat) (f : Sto → Dat → Dat → Option (Dat × Sto)) (e : ME) : MS := fun ρ S => match ρ[i]? with
  | some (some x) => (e ρ S).st ρ fun y S1 => (ofP (f S1 x y)).st ρ fun z S2 => .nx (ρ.set i (some z)) S2
  | _ => .bad
def mAugF (ct : CT) (a : ME) (n : Str) (f : Sto → Dat → Dat → Option (Dat × Sto)) (e : ME) : MS := fun ρ S => (a ρ S).st ρ fun x S1 => (ofP (fldD S1 x n)).st ρ fun old S2 => (e ρ S2).st ρ fun y S3 => (ofP (f S3 old y)).st ρ fun z S4 => ofS (setFldD ct S4 x n z) ρ
def mAugI (a i : ME) (f : Sto → Dat → Dat → Option (Dat × Sto)) (e : ME) : MS := fun ρ S => (a ρ S).st ρ fun x S0 => (i ρ S0).st ρ fun k S1 => (ofP (atD S1 x k)).st ρ fun old S2 => (e ρ S2).st ρ fun y S3 => (ofP (f S3 old y)).st ρ fun z S4 => ofS (setAtD S4 x k z) ρ
def mTg (Φ : Fe) (t : Tg) (d : Dat) : MS := fun ρ S => match t with
  | .nm i => .nx (ρ.set i (some d)) S
  | .fld a f => (evE Φ a ρ S).st ρ fun x S1 => ofS (setFldD Φ.ct S1 x f d) ρ
  | .sub a i => (evE Φ a ρ S).st ρ fun x S1 => (evE Φ i ρ S1).st ρ fun y S2 => ofS (setAtD S2 x y d) ρ
def mTgs (Φ : Fe) : List Tg → List Dat → MS
  | [], [], ρ, S => .nx ρ S
  | t :: ts, d :: ds, ρ, S => (mTg Φ t d ρ S).sq (mTgs Φ ts ds)
  | _, _, _, _ => .bad
mutual
def evS (Φ : Fe) : Sm → MS
  | .ret e => mRet (evE Φ e)
  | .retN => mRetN
  | .expr e => mDrop (evE Φ e)
  | .pass => mNext
  | .brk => mBreak
  | .cont => mCont
  | .set i e => mSet i (evE Φ e)
  | .pat p e => mPat p (evE Φ e)
  | .par2 i j a b => mPar2 i j (mCons (evE Φ a) (mCons (evE Φ b) mNil))
  | .par3 i j l a b c => mPar3 i j l (mCons (evE Φ a) (mCons (evE Φ b) (mCons (evE Φ c) mNil)))
  | .setF a f e => mSetF Φ.ct (evE Φ a) f (evE Φ e)
  | .setI a i e => mSetI (evE Φ a) (evE Φ i) (evE Φ e)
  | .tgs ts e => fun ρ S => (evE Φ e ρ S).st ρ fun d S1 => match d with
    | .tuple ds => mTgs Φ ts ds ρ S1
    | _ => .bad
  | .augV i op e => mAugV i (binop false op) (evE Φ e)
  | .augF a f op e => mAugF Φ.ct (evE Φ a) f (binop false op) (evE Φ e)
  | .augI a i op e => mAugI (evE Φ a) (evE Φ i) (binop false op) (evE Φ e)
  | .ite t b1 b2 => mIfS (evT Φ t) (evSs Φ b1) (evSs Φ b2)
  | .for_ it p b els => mFor (evI Φ it) p (evSs Φ b) (evSs Φ els)
  | .while_ t b els => mWhile (evT Φ t) (evSs Φ b) (evSs Φ els) Φ.wf
  | .never => fun _ _ => .bad
def evSs (Φ : Fe) : Ss → MS
  | .nil => mNext
  | .cons s .nil => evS Φ s
  | .cons s r => mSeq (evS Φ s) (evSs Φ r)
end
/-! ### defs -/
structure Fd where
  np : Nat
  ns : Nat
  fz : Bool
  body : Ss
def ent (ns : Nat) (ds : List Dat) : Ro := ds.map some ++ List.replicate (ns - ds.length) none
def runF (Φ : Fe) (fd : Fd) : Fun := fun ds S => if ds.length = fd.np then (match evSs Φ fd.body (ent fd.ns ds) S with
  | .rt d S' => if fd.fz then fin S S' d else .ok d S'
  | .nx _ S' => if fd.fz then fin S S' .none else .ok .none S'
  | .ex x _ S' => .ex x S'
  | _ => .bad) else .bad
/-- a new instance: its __init__, then what it made -/
def runMk (F : Fun) (fz : Bool) (C : Str) : Fun := fun ds S => (F (.own S.length :: ds) (S ++ [.ins C []])).bnd fun d S' => match d with
  | .none => if fz then fin S S' (.own S.length) else .ok (.own S.length) S'
  | _ => .bad
end PL

set_option Elab.async false
set_option linter.all false
set_option maxRecDepth 100000
set_option autoImplicit false
set_option maxHeartbeats 4000000
namespace PL
open PySem PySem.Spec PyProof.Rows L2

/-! ### the primitives keep what they say: operators -/
section
variable {X : Cx}
theorem op_catL : OpR X (binaryOp .Add) (fun x y H Q => ∃ a b xs ys, x = .ref a ∧ y = .ref b ∧ SqL X.K H a xs ∧ SqL X.K H b ys ∧ xs.length + ys.length ≤ sizeLine ∧ ∀ p, H p = none → Q (.ref p) (upd H p (.lst (xs ++ ys)))) := by
  intro pins s σ H x y v u Q I rx ry h
  obtain ⟨l, b, xs, ys, rfl, rfl, hl, hb, hz, q⟩ := h
  cases rx
  cases ry
  obtain ⟨its1, v1, p1, _⟩ := I.list hl
  obtain ⟨its2, v2, p2, _⟩ := I.list hb
  have z1 := v1.length
  have z2 := v2.length
  obtain ⟨⟨cls, dd, data, sl⟩, ho, hc, n, hd⟩ := p1.isList
  obtain ⟨⟨cls2, dd2, data2, sl2⟩, ho2, hc2, n2, hd2⟩ := p2.isList
  simp only at hc hd hc2 hd2
  subst hc hd hc2 hd2
  have e : its1.toArray ++ its2.toArray = (its1 ++ its2).toArray := by simp
  refine concat_meets ⟨_, ho, rfl⟩ ⟨_, ho2, rfl⟩ noFill_list_add seq_list_add PySem.F.slot_list_add PySem.F.entry_list_add (PySem.F.args_list_add_2 _ _) (list_addW l b its1.toArray its2.toArray n n2 dd dd2 sl sl2 (by simp; omega)) ⟨ho, ho2, ?_⟩
  rw [e]
  exact ⟨.ref s.heap.objs.size, _, Inv.lnew (t' := s.toks) I (v1.append v2) (by rw [List.length_append]; exact hz), rfl, q _ I.fresh⟩
theorem ok_add {o : Bool} : OpR X (binaryOp .Add) (r2Of (gOf X) (opAdd o)) := by
  intro pins s σ H x y v u Q I rx ry h
  obtain ⟨c, S, d, e, z, S', sS, rd, re, f, q⟩ := h
  unfold opAdd at f
  split at f
  · rename_i i j h1 h2
    cases f
    exact op_add pins s σ H x y v u Q I rx ry ⟨i, j, look_int rd h1, look_int re h2, q.val sS (.int _)⟩
  · rename_i i j h1 h2
    split at f
    · rename_i l
      cases f
      exact op_add_str pins s σ H x y v u Q I rx ry ⟨i, j, look_str rd h1, look_str re h2, l, q.val sS (.str _)⟩
    · cases f
  · rename_i xs ys h1 h2
    split at f
    · cases f
    rename_i hk
    have t1 : d = .tuple xs := by cases d <;> simp_all [look, isKt] <;> (split at h1 <;> cases h1)
    have t2 : e = .tuple ys := by cases e <;> simp_all [look, isKt] <;> (split at h2 <;> cases h2)
    subst t1 t2
    obtain ⟨a, vs, rfl, s1, r1⟩ := rd.tup_inv
    obtain ⟨b, us, rfl, s2, r2⟩ := re.tup_inv
    unfold newT at f
    split at f
    · rename_i l
      cases f
      refine op_catA pins s σ H _ _ v u Q I rx ry ⟨a, b, vs, us, rfl, rfl, .of s1, .of s2, by rw [r1.length, r2.length, ← List.length_append]; exact l, fun e => ?_, fun _ e => ?_, fun _ _ p hp => ?_⟩
      · subst e; cases r1; exact q.val sS (.tup s2 r2)
      · subst e; cases r2; rw [List.append_nil] at q; exact q.val sS (.tup s1 r1)
      · exact q c _ _ (.of_same (same_new hp)) (sS.same (same_new hp)) (.tup upd_same ((r1.append r2).same (same_new hp)))
    · cases f
  · rename_i xs ys h1 h2
    obtain ⟨a, vs, rfl, s1, r1⟩ := look_list sS rd h1
    obtain ⟨b, us, rfl, s2, r2⟩ := look_list sS re h2
    obtain ⟨l, k⟩ := q.newL sS (r1.append r2) f
    exact op_catL pins s σ H _ _ v u Q I rx ry ⟨a, b, vs, us, rfl, rfl, s1, s2, by rw [← List.length_append]; exact l, k⟩
  · cases f
theorem ok_sub : OpR X (binaryOp .Sub) (r2Of (gOf X) opSub) := by
  intro pins s σ H x y v u Q I rx ry ⟨c, S, d, e, z, S', sS, rd, re, f, q⟩
  unfold opSub at f
  split at f
  · cases f
    exact op_sub pins s σ H x y v u Q I rx ry ⟨_, _, rd.int_inv, re.int_inv, q.val sS (.int _)⟩
  · cases f
theorem okI_eq {P : Prop} [Decidable P] {i : Int} {S S' : Sto} {z : Dat} (h : okI P i S = some (z, S')) : P ∧ z = .int i ∧ S' = S := by
  unfold okI at h
  split at h
  · cases h; exact ⟨by assumption, rfl, rfl⟩
  · cases h
theorem ok_mul {o : Bool} : OpR X (binaryOp .Mult) (r2Of (gOf X) (opMul o)) := by
  intro pins s σ H x y v u Q I rx ry ⟨c, S, d, e, z, S', sS, rd, re, f, q⟩
  unfold opMul at f
  split at f
  · rename_i i j h1 h2
    obtain ⟨hc, rfl, rfl⟩ := okI_eq f
    exact op_mulW pins s σ H x y v u Q I rx ry ⟨_, _, look_int rd h1, look_int re h2, hc, q.val sS (.int _)⟩
  · cases f
theorem ok_div : OpR X (binaryOp .FloorDiv) (r2Of (gOf X) opDiv) := by
  intro pins s σ H x y v u Q I rx ry ⟨c, S, d, e, z, S', sS, rd, re, f, q⟩
  unfold opDiv at f
  split at f
  · obtain ⟨hc, rfl, rfl⟩ := okI_eq f
    exact op_fdivW pins s σ H x y v u Q I rx ry ⟨_, _, rd.int_inv, re.int_inv, hc, q.val sS (.int _)⟩
  · cases f
theorem ok_mod : OpR X (binaryOp .Mod) (r2Of (gOf X) opMod) := by
  intro pins s σ H x y v u Q I rx ry ⟨c, S, d, e, z, S', sS, rd, re, f, q⟩
  unfold opMod at f
  split at f
  · obtain ⟨hc, rfl, rfl⟩ := okI_eq f
    exact op_mod pins s σ H x y v u Q I rx ry ⟨_, _, rd.int_inv, re.int_inv, hc, q.val sS (.int _)⟩
  · cases f
theorem ok_pow : OpR X (binaryOp .Pow) (r2Of (gOf X) opPow) := by
  intro pins s σ H x y v u Q I rx ry ⟨c, S, d, e, z, S', sS, rd, re, f, q⟩
  unfold opPow at f
  split at f
  · obtain ⟨hc, rfl, rfl⟩ := okI_eq f
    exact op_pow pins s σ H x y v u Q I rx ry ⟨_, _, rd.int_inv, re.int_inv, hc, q.val sS (.int _)⟩
  · cases f
theorem ok_shl : OpR X (binaryOp .LShift) (r2Of (gOf X) opShl) := by
  intro pins s σ H x y v u Q I rx ry ⟨c, S, d, e, z, S', sS, rd, re, f, q⟩
  unfold opShl at f
  split at f
  · obtain ⟨hc, rfl, rfl⟩ := okI_eq f
    exact op_shl pins s σ H x y v u Q I rx ry ⟨_, _, rd.int_inv, re.int_inv, hc, q.val sS (.int _)⟩
  · cases f
theorem ok_shr : OpR X (binaryOp .RShift) (r2Of (gOf X) opShr) := by
  intro pins s σ H x y v u Q I rx ry ⟨c, S, d, e, z, S', sS, rd, re, f, q⟩
  unfold opShr at f
  split at f
  · obtain ⟨hc, rfl, rfl⟩ := okI_eq f
    exact op_shr pins s σ H x y v u Q I rx ry ⟨_, _, rd.int_inv, re.int_inv, hc, q.val sS (.int _)⟩
  · cases f
theorem ok_or : OpR X (binaryOp .BitOr) (r2Of (gOf X) opOr) := by
  intro pins s σ H x y v u Q I rx ry ⟨c, S, d, e, z, S', sS, rd, re, f, q⟩
  unfold opOr at f
  split at f
  · cases f
    exact op_or pins s σ H x y v u Q I rx ry ⟨_, _, rd.int_inv, re.int_inv, q.val sS (.int _)⟩
  · cases f
theorem ok_and : OpR X (binaryOp .BitAnd) (r2Of (gOf X) opAnd) := by
  intro pins s σ H x y v u Q I rx ry ⟨c, S, d, e, z, S', sS, rd, re, f, q⟩
  unfold opAnd at f
  split at f
  · cases f
    exact op_and pins s σ H x y v u Q I rx ry ⟨_, _, rd.int_inv, re.int_inv, q.val sS (.int _)⟩
  · cases f
theorem ok_neg : UnR X (unaryOp .USub) (r1Of (gOf X) opNeg) := by
  intro pins s σ H x v Q I rx ⟨c, S, d, z, S', sS, rd, f, q⟩
  unfold opNeg at f
  split at f
  · cases f
    exact un_neg pins s σ H x v Q I rx ⟨_, rd.int_inv, q.val sS (.int _)⟩
  · cases f
end
end PL

set_option Elab.async false
set_option linter.all false
set_option maxRecDepth 100000
set_option autoImplicit false
set_option maxHeartbeats 4000000
namespace PL
open PySem PySem.Spec PyProof.Rows L2

/-! ### comparisons -/
mutual
theorem toPD_plain (S : Sto) : ∀ (f : Nat) (d : Dat) (p : PyData), toPD S f d = some p → p.plain = true
  | f, .none, p, e => by rw [toPD] at e; cases e; rfl
  | f, .bool b, p, e => by rw [toPD] at e; cases e; rfl
  | f, .int i, p, e => by rw [toPD] at e; cases e; rfl
  | f, .str x, p, e => by rw [toPD] at e; cases e; rfl
  | f, .list xs, p, e => by
    rw [toPD] at e
    obtain ⟨q, e1, rfl⟩ := pmap_eq e
    exact toPDs_plain S f xs q e1
  | f, .tuple xs, p, e => by
    rw [toPD] at e
    obtain ⟨q, e1, rfl⟩ := pmap_eq e
    exact toPDs_plain S f xs q e1
  | f, .ins _ _, p, e => by rw [toPD] at e; cases e
  | f, .dict _, p, e => by rw [toPD] at e; cases e
  | f, .kd _, p, e => by rw [toPD] at e; cases e
  | f, .kt xs, p, e => by
    rw [toPD] at e
    obtain ⟨q, e1, rfl⟩ := pmap_eq e
    exact toPDs_plain S f xs q e1
  | 0, .own _, p, e => by rw [toPD] at e; cases e
  | f + 1, .own k, p, e => by
    rw [toPD] at e
    cases q : S[k]? with
    | none => rw [q] at e; cases e
    | some x =>
      rw [q] at e
      cases x with
      | lst xs =>
        obtain ⟨z, e1, rfl⟩ := pmap_eq e
        exact toPDs_plain S f xs z e1
      | ins _ _ => cases e
      | dict _ => cases e
  termination_by f d => (f, sizeOf d)
theorem toPDs_plain (S : Sto) : ∀ (f : Nat) (d : List Dat) (p : List PyData), toPDs S f d = some p → PyData.plainAll p = true
  | f, [], p, e => by rw [toPDs] at e; cases e; rfl
  | f, d :: ds, p, e => by
    rw [toPDs] at e
    obtain ⟨x, e1, e⟩ := pbind_eq e
    obtain ⟨xs, e2, rfl⟩ := pmap_eq e
    simp [PyData.plainAll, toPD_plain S f d x e1, toPDs_plain S f ds xs e2]
  termination_by f ds => (f, sizeOf ds)
end
/-- a flat value, as data -/
def fpd : Dat → PyData
  | .bool b => .bool b
  | .int i => .int i
  | .str x => .str x
  | _ => .none
theorem pd_flat {S : Sto} {d : Dat} (h : flatD d = true) : pd S d = some (fpd d) := by
  cases d <;> simp_all [flatD, pd, toPD, fpd]
theorem flat_depth {d : Dat} (h : flatD d = true) : (fpd d).depth = 0 := by
  cases d <;> simp_all [flatD, fpd, PyData.depth]
theorem eqF_eqv {x y : Dat} (hx : flatD x = true) (hy : flatD y = true) : eqF x y = PyData.eqv (fpd x) (fpd y) := by
  cases x <;> simp [flatD] at hx <;> cases y <;> simp [flatD] at hy <;> simp [eqF, fpd, PyData.eqv]
section
variable {X : Cx} {pins : List (Addr × Obj)} {σ : L2.St} {H : Hp} {s : Shared} {c : Cw} {S : Sto} {x y : Dat} {v u : V} {a b : Value} {p q : PyData}
theorem pd_reads (I : Inv X pins σ H s) (sS : StoOk (gOf X) c S H) (r : Rp (gOf X) c H v x) (rv : RelV v a) (e : pd S x = some p) : (∃ as, Reads s.heap a p as) ∧ p.plain = true :=
  ⟨Dp.reads I p v a (toPD_dp sS _ _ _ _ r e) rv, toPD_plain _ _ _ _ e⟩
theorem lists_sizes (I : Inv X pins σ H s) {p q : Addr} {xs : List V} (h : SqL X.K H p xs) : ∃ its : Array Value, s.heap.IsList p its ∧ its.size = xs.length := by
  obtain ⟨its, r, pl, _⟩ := I.list h
  exact ⟨its.toArray, pl.isList, by rw [List.size_toArray]; exact r.length.symm⟩
end
theorem bool1_eq {b : Bool} {S S' : Sto} {z : Dat} (h : bool1 b S = some (z, S')) : z = .bool b ∧ S' = S := by unfold bool1 at h; cases h; exact ⟨rfl, rfl⟩
section
variable {X : Cx} (hu : X.A.units + 64 < cLine)
include hu
theorem ok_eq : OpR X (compareOp .Eq) (r2Of (gOf X) (cmpop .Eq)) := by
  intro pins s σ H x y v u Q I rx ry ⟨c, S, d, e, z, S', sS, rd, re, f, q⟩
  unfold cmpop at f
  obtain ⟨b, f1, f⟩ := pbind_eq f
  obtain ⟨rfl, rfl⟩ := bool1_eq f
  unfold eqD at f1
  have fin : EP X pins σ Q (.bool b) s := ⟨.bl b, H, I, rfl, q.val sS (.bl _)⟩
  split at f1
  · rename_i h
    rw [Bool.and_eq_true] at h
    cases f1
    obtain ⟨⟨as, r1⟩, p1⟩ := pd_reads I sS rd rx (pd_flat h.1)
    obtain ⟨⟨bs, r2⟩, p2⟩ := pd_reads I sS re ry (pd_flat h.2)
    refine SeqAt.eq_plain r1 r2 p1 p2 (by rw [flat_depth h.1]; simp; omega) ?_
    rw [← eqF_eqv h.1 h.2]; exact fin
  · split at f1
    · rename_i xs h1 h2
      cases f1
      obtain ⟨l1, vs, rfl, s1, r1⟩ := look_list sS rd h1
      obtain ⟨l2, us, rfl, s2, r2⟩ := look_list sS re h2
      cases rx; cases ry
      obtain ⟨i1, k1, n1⟩ := lists_sizes (q := l1) I s1
      obtain ⟨i2, k2, n2⟩ := lists_sizes (q := l1) I s2
      cases r2
      rw [List.length_nil] at n2
      cases r1 with
      | nil => exact SeqAt.RcAt.lists (e := fun _ => true) k1 k2 (by rw [n1, n2]; rfl) (by omega) (fun j h1 h2 => by omega) X.prog X.w _ _ (by rw [n1]; exact fin)
      | cons a t => exact SeqAt.RcAt.lists_lengths k1 k2 (by rw [n1, n2]; rfl) (by omega) X.prog X.w _ _ fin
    · obtain ⟨p, e1, f1⟩ := pbind_eq f1
      obtain ⟨p', e2, f1⟩ := pbind_eq f1
      split at f1
      · rename_i l
        cases f1
        obtain ⟨⟨as, r1⟩, p1⟩ := pd_reads I sS rd rx e1
        obtain ⟨⟨bs, r2⟩, p2⟩ := pd_reads I sS re ry e2
        exact SeqAt.eq_plain r1 r2 p1 p2 (by omega) fin
      · cases f1
theorem ok_ne : OpR X (compareOp .NotEq) (r2Of (gOf X) (cmpop .NotEq)) := by
  intro pins s σ H x y v u Q I rx ry ⟨c, S, d, e, z, S', sS, rd, re, f, q⟩
  unfold cmpop at f
  obtain ⟨b, f1, f⟩ := pbind_eq f
  obtain ⟨rfl, rfl⟩ := bool1_eq f
  unfold eqD at f1
  have fin : EP X pins σ Q (.bool (!b)) s := ⟨.bl (!b), H, I, rfl, q.val sS (.bl _)⟩
  split at f1
  · rename_i h
    rw [Bool.and_eq_true] at h
    cases f1
    obtain ⟨⟨as, r1⟩, p1⟩ := pd_reads I sS rd rx (pd_flat h.1)
    obtain ⟨⟨bs, r2⟩, p2⟩ := pd_reads I sS re ry (pd_flat h.2)
    refine SeqAt.ne_plain r1 r2 p1 p2 (by rw [flat_depth h.1]; simp; omega) ?_
    rw [← eqF_eqv h.1 h.2]; exact fin
  · split at f1
    · rename_i xs h1 h2
      cases f1
      obtain ⟨l1, vs, rfl, s1, r1⟩ := look_list sS rd h1
      obtain ⟨l2, us, rfl, s2, r2⟩ := look_list sS re h2
      cases rx; cases ry
      obtain ⟨i1, k1, n1⟩ := lists_sizes (q := l1) I s1
      obtain ⟨i2, k2, n2⟩ := lists_sizes (q := l1) I s2
      cases r2
      rw [List.length_nil] at n2
      cases r1 with
      | nil => exact SeqAt.RcNeAt.lists (e := fun _ => true) k1 k2 (by rw [n1, n2]; rfl) (by omega) (fun j h1 h2 => by omega) X.prog X.w _ _ (by rw [n1]; exact fin)
      | cons a t => exact SeqAt.RcNeAt.lists_lengths k1 k2 (by rw [n1, n2]; rfl) (by omega) X.prog X.w _ _ fin
    · obtain ⟨p, e1, f1⟩ := pbind_eq f1
      obtain ⟨p', e2, f1⟩ := pbind_eq f1
      split at f1
      · rename_i l
        cases f1
        obtain ⟨⟨as, r1⟩, p1⟩ := pd_reads I sS rd rx e1
        obtain ⟨⟨bs, r2⟩, p2⟩ := pd_reads I sS re ry e2
        exact SeqAt.ne_plain r1 r2 p1 p2 (by omega) fin
      · cases f1
theorem ok_ord {op : CmpOp} {fi : Int → Int → Bool} {fd : PyData → PyData → Bool} (h0 : OpR X (compareOp op) (rI0 fun i j => .bl (fi i j)))
    (h1 : ∀ (s : Shared) (a b : Value) (da db : PyData) (as bs : List Addr) (Q : Value → Shared → Prop), Reads s.heap a da as → Reads s.heap b db bs → PySem.W.alike da db = true → da ≠ .none → X.A.units + min da.depth db.depth < cLine → Q (.bool (fd da db)) s →
      wpAny (model X.prog X.w) X.A (compareOp op a b) Q X.xe s) : OpR X (compareOp op) (r2Of (gOf X) fun S x y => (ordD fi fd S x y).bind fun b => bool1 b S) := by
  intro pins s σ H x y v u Q I rx ry ⟨c, S, d, e, z, S', sS, rd, re, f, q⟩
  obtain ⟨b, f1, f⟩ := pbind_eq f
  obtain ⟨rfl, rfl⟩ := bool1_eq f
  unfold ordD at f1
  split at f1
  · cases f1
    exact h0 pins s σ H x y v u Q I rx ry ⟨_, _, rd.int_inv, re.int_inv, q.val sS (.bl _)⟩
  · obtain ⟨p, e1, f1⟩ := pbind_eq f1
    obtain ⟨p', e2, f1⟩ := pbind_eq f1
    split at f1
    · rename_i l
      simp only [Bool.and_eq_true, decide_eq_true_eq] at l
      cases f1
      obtain ⟨⟨as, r1⟩, _⟩ := pd_reads I sS rd rx e1
      obtain ⟨⟨bs, r2⟩, _⟩ := pd_reads I sS re ry e2
      exact h1 s v u p p' as bs _ r1 r2 l.1.1 (fun e => by rw [e] at l; simp [notNone] at l) (by omega) ⟨.bl _, H, I, rfl, q.val sS (.bl _)⟩
    · cases f1
theorem ok_lt : OpR X (compareOp .Lt) (r2Of (gOf X) (cmpop .Lt)) := ok_ord hu op_lt fun s a b da db as bs Q r1 r2 h1 h2 h3 h4 => PySem.W.lt_data r1 r2 h1 h2 h3 h4
theorem ok_le : OpR X (compareOp .LtE) (r2Of (gOf X) (cmpop .LtE)) := ok_ord hu op_le fun s a b da db as bs Q r1 r2 h1 h2 h3 h4 => PySem.W.le_data r1 r2 h1 h2 h3 h4
theorem ok_gt : OpR X (compareOp .Gt) (r2Of (gOf X) (cmpop .Gt)) := ok_ord hu op_gt fun s a b da db as bs Q r1 r2 h1 h2 h3 h4 => PySem.W.gt_data r1 r2 h1 h2 h3 h4
theorem ok_ge : OpR X (compareOp .GtE) (r2Of (gOf X) (cmpop .GtE)) := ok_ord hu op_ge fun s a b da db as bs Q r1 r2 h1 h2 h3 h4 => PySem.W.ge_data r1 r2 h1 h2 h3 h4
end
end PL

set_option Elab.async false
set_option linter.all false
set_option maxRecDepth 100000
set_option autoImplicit false
set_option maxHeartbeats 4000000
namespace PL
open PySem PySem.Spec PyProof.Rows L2

/-! ### dicts at a key -/
theorem kD_inj {j k : Key} (h : kD j = kD k) : j = k := by
  cases j <;> cases k <;> simp_all [kD]
theorem kDs_inj : ∀ {j k : List Key}, j.map kD = k.map kD → j = k
  | [], [], _ => rfl
  | [], _ :: _, h => by simp at h
  | _ :: _, [], h => by simp at h
  | a :: j, b :: k, h => by
    simp only [List.map_cons, List.cons.injEq] at h
    rw [kD_inj h.1, kDs_inj h.2]
theorem kD_ne {k : Key} {ds : List Dat} : kD k ≠ .tuple ds := by cases k <;> simp [kD]
theorem isTup_kD (k : Key) : isTupD (kD k) = false := by cases k <;> rfl
theorem keyOk_cases {x : Dat} (h : keyOk x = true) : (∃ k : Key, x = kD k) ∨ ∃ ks : List Key, x = .tuple (ks.map kD) := by
  cases x with
  | int i => exact .inl ⟨.inl i, rfl⟩
  | str z => exact .inl ⟨.inr z, rfl⟩
  | tuple xs =>
    refine .inr ?_
    unfold keyOk at h
    dsimp only at h
    induction xs with
    | nil => exact ⟨[], rfl⟩
    | cons d ds ih =>
      rw [List.all_cons, Bool.and_eq_true] at h
      obtain ⟨ks, e⟩ := ih h.2
      cases d with
      | int i => exact ⟨.inl i :: ks, by cases e; rfl⟩
      | str z => exact ⟨.inr z :: ks, by cases e; rfl⟩
      | _ => cases h.1
  | _ => cases h
/-- what a dict says at a key, and what its data says -/
def Says (g : Gx) (c : Cw) (H : Hp) (o : Option V) (r : Option Dat) : Prop := match r with
  | none => o = none
  | some d => ∃ v, o = some v ∧ Rp g c H v d
section
variable {g : Gx} {c : Cw} {H : Hp}
theorem RpK.says : ∀ {fs : List (Key × V)} {gs : List (Dat × Dat)} (k : Key), RpK g c H fs gs → Says g c H (valV fs k) (dget gs (kD k))
  | _, _, k, .nil => rfl
  | _, _, k, .cons (n := n) r t => by
    rw [dget]
    by_cases e : n = k
    · subst e
      rw [if_pos rfl]
      exact ⟨_, valV_pos rfl, r⟩
    · rw [if_neg fun q => e (kD_inj q)]
      have := RpK.says k t
      rw [valV_neg e]
      exact this
theorem RpT.says : ∀ {fs : List (List Key × V)} {gs : List (Dat × Dat)} (k : List Key), RpT g c H fs gs → Says g c H (valV fs k) (dget gs (.tuple (k.map kD)))
  | _, _, k, .one (n := n) r => by
    rw [dget]
    by_cases e : n = k
    · subst e
      rw [if_pos rfl]
      exact ⟨_, valV_pos rfl, r⟩
    · rw [if_neg fun q => e (kDs_inj (by injection q)), valV_neg e, dget]
      exact valV_nil
  | _, _, k, .cons (n := n) r t => by
    rw [dget]
    by_cases e : n = k
    · subst e
      rw [if_pos rfl]
      exact ⟨_, valV_pos rfl, r⟩
    · rw [if_neg fun q => e (kDs_inj (by injection q))]
      have := RpT.says k t
      rw [valV_neg e]
      exact this
theorem RpAll.keys : ∀ {vs : List V} {ks : List Key}, RpAll g c H vs (ks.map kD) → vs = ks.map kV
  | _, [], .nil => rfl
  | _, k :: ks, .cons r t => by
    rw [List.map_cons, ← RpAll.keys t]
    cases k <;> cases r <;> rfl
theorem dict_get {S : Sto} {v u : V} {d y : Dat} {gs : List (Dat × Dat)} (s : StoOk g c S H) (r : Rp g c H v d) (e : look S d = .dict gs) (f : keyFits gs y = true) (ry : Rp g c H u y) :
    ∃ a o, v = .ref a ∧ DGet H a u o ∧ Says g c H o (dget gs y) := by
  unfold keyFits at f
  rw [Bool.and_eq_true] at f
  obtain ⟨a, rfl, h⟩ := look_dict s r e
  rcases h with ⟨fs, h1, h2⟩ | ⟨fs, h1, h2⟩
  · rcases keyOk_cases f.1 with ⟨k, rfl⟩ | ⟨ks, rfl⟩
    · refine ⟨a, _, rfl, .inl ⟨fs, k, h1, ?_, rfl⟩, h2.says k⟩
      cases k <;> cases ry <;> rfl
    · exfalso
      cases h2 with
      | nil => simp [isTupD] at f
      | @cons n _ _ _ _ _ _ =>
        have := isTup_kD n
        simp_all [isTupD]
  · rcases keyOk_cases f.1 with ⟨k, rfl⟩ | ⟨ks, rfl⟩
    · exfalso
      have := isTup_kD k
      cases h2 with
      | one _ => simp_all [isTupD]
      | cons _ _ => simp_all [isTupD]
    · obtain ⟨b, xs, rfl, hb, rb⟩ := ry.tup_inv
      rw [RpAll.keys rb] at hb
      exact ⟨a, _, rfl, .inr ⟨fs, ks, b, h1, rfl, hb, rfl⟩, h2.says ks⟩
theorem says_isSome {o : Option V} {r : Option Dat} (h : Says g c H o r) : o.isSome = r.isSome := by
  cases r with
  | none => rw [show o = none from h]; rfl
  | some d => obtain ⟨v, e, _⟩ := h; rw [e]; rfl
/-- a dict of the module at a text -/
theorem kd_get {a : Addr} {gs : List (Dat × Dat)} (h : KdOk g a gs) (z : Str) : ∃ es n r, KDict g.K g.w a es n ∧ PySem.W.nsIn g.K a z = some r ∧ (dget gs (.str z) = none → r = none) ∧ ∀ d, dget gs (.str z) = some d → ∃ u v, r = some u ∧ RelV v u ∧ Rp g c H v d := by
  obtain ⟨es, n, D, _, q⟩ := h
  cases e : dget gs (.str z) with
  | none => exact ⟨es, n, none, D, (q z).1 e, fun _ => rfl, fun d h => by cases h⟩
  | some d =>
    obtain ⟨u, v, h1, h2, h3⟩ := (q z).2 d e
    refine ⟨es, n, some u, D, h1, (fun h => nomatch h), (fun d' h => ?_)⟩
    cases h
    refine ⟨u, v, rfl, h2, ?_⟩
    cases v <;> cases d <;> simp [BaseR] at h3
    · subst h3; exact .int _
    · subst h3; exact .str _
end
/-! ### in -/
section
variable {X : Cx} {pins : List (Addr × Obj)} {σ : L2.St} {H : Hp} {s : Shared} {c : Cw} {S : Sto}
theorem toPDs_flat {f : Nat} : ∀ {xs : List Dat}, xs.all flatD = true → toPDs S f xs = some (xs.map fpd)
  | [], _ => by rw [toPDs]; rfl
  | d :: ds, h => by
    rw [List.all_cons, Bool.and_eq_true] at h
    have e : toPD S f d = some (fpd d) := by
      have := h.1
      cases d <;> simp_all [flatD, toPD, fpd]
    rw [toPDs, e, toPDs_flat h.2]; rfl
theorem any_eqF {x : Dat} (hx : flatD x = true) : ∀ {xs : List Dat}, xs.all flatD = true → (xs.map fpd).any (fun q => PyData.eqv q (fpd x)) = xs.any fun y => eqF y x
  | [], _ => rfl
  | d :: ds, h => by
    rw [List.all_cons, Bool.and_eq_true] at h
    rw [List.map_cons, List.any_cons, List.any_cons, any_eqF hx h.2, eqF_eqv h.1 hx]
theorem depth_flats : ∀ {xs : List Dat}, xs.all flatD = true → PyData.depthAll (xs.map fpd) = 0
  | [], _ => by rfl
  | d :: ds, h => by
    rw [List.all_cons, Bool.and_eq_true] at h
    rw [List.map_cons, PyData.depthAll, flat_depth h.1, depth_flats h.2]; rfl
/-- what is asked of an item among items -/
theorem inSeq_of {x : Dat} {xs : List Dat} {b : Bool} (e : inSeq S x xs = some b) : ∃ p f qs, pd S x = some p ∧ toPDs S f xs = some qs ∧ min (PyData.depthAll qs) p.depth ≤ 60 ∧ b = qs.any fun q => PyData.eqv q p := by
  unfold inSeq at e
  split at e
  · rename_i h
    rw [Bool.and_eq_true] at h
    cases e
    exact ⟨_, 0, _, pd_flat h.1, toPDs_flat h.2, by rw [flat_depth h.1]; simp, (any_eqF h.1 h.2).symm⟩
  · obtain ⟨p, e1, e⟩ := pbind_eq e
    obtain ⟨qs, e2, e⟩ := pbind_eq e
    split at e
    · rename_i l
      cases e
      exact ⟨p, _, qs, e1, e2, l, rfl⟩
    · cases e
end
section
variable {X : Cx} (hu : X.A.units + 64 < cLine)
include hu
theorem ok_in : OpR X (compareOp .In) (r2Of (gOf X) (cmpop .In)) := by
  intro pins s σ H x y v u Q I rx ry ⟨c, S, d, e, z, S', sS, rd, re, f, q⟩
  unfold cmpop at f
  obtain ⟨b, f1, f⟩ := pbind_eq f
  obtain ⟨rfl, rfl⟩ := bool1_eq f
  have fin : EP X pins σ Q (.bool b) s := ⟨.bl b, H, I, rfl, q.val sS (.bl _)⟩
  have fin2 : Q (.bl b) H := q.val sS (.bl _)
  unfold inD at f1
  split at f1
  · rename_i t h1
    split at f1
    · cases f1
      exact op_in_str pins s σ H x y v u Q I rx ry ⟨_, _, rd.str_inv, look_str re h1, fin2⟩
    · cases f1
  · rename_i kvs h1
    split at f1
    · rename_i hf
      cases f1
      obtain ⟨a, o, rfl, g1, g2⟩ := dict_get sS re h1 hf rd
      cases ry
      refine d_in (by omega) I g1 rx fun s' I' => ⟨.bl _, H, I', rfl, ?_⟩
      rw [says_isSome g2]; exact fin2
    · cases f1
  · rename_i kvs h1
    split at f1
    · rename_i t
      cases f1
      obtain ⟨a, rfl, ka⟩ := look_kd re h1
      obtain ⟨es, n, r, D, e1, e2, e3⟩ := kd_get (c := c) (H := H) ka t
      refine op_in_kd D pins s σ H x _ v u Q I rx ry ⟨t, r, rd.str_inv, rfl, e1, ?_⟩
      have : r.isSome = (dget kvs (.str t)).isSome := by
        cases w : dget kvs (.str t) with
        | none => rw [e2 w]; rfl
        | some d => obtain ⟨_, _, w2, _⟩ := e3 d w; rw [w2]; rfl
      rw [this]; exact fin2
    · cases f1
  · rename_i xs h1
    obtain ⟨p, k, qs, e1, e2, l, rfl⟩ := inSeq_of f1
    obtain ⟨a, vs, rfl, sa, ra⟩ := look_list sS re h1
    obtain ⟨⟨as, r1⟩, p1⟩ := pd_reads I sS rd rx e1
    obtain ⟨bs, r2⟩ := Dp.reads I (.list qs) _ u (.lst sa (toPDs_dp sS k xs vs qs ra e2)) ry
    exact SeqAt.in_list_data r2 r1 (toPDs_plain _ _ _ _ e2) p1 (by omega) fin
  · rename_i xs h1
    obtain ⟨p, k, qs, e1, e2, l, rfl⟩ := inSeq_of f1
    obtain ⟨a, vs, rfl, sa, ra⟩ := look_tup re h1
    obtain ⟨⟨as, r1⟩, p1⟩ := pd_reads I sS rd rx e1
    obtain ⟨bs, r2⟩ := Dp.reads I (.tuple qs) _ u (.tup sa (toPDs_dp sS k xs vs qs ra e2)) ry
    exact SeqAt.in_tuple_data r2 r1 (toPDs_plain _ _ _ _ e2) p1 (by omega) fin
  · cases f1
theorem ok_notin : OpR X (compareOp .NotIn) (r2Of (gOf X) (cmpop .NotIn)) := by
  intro pins s σ H x y v u Q I rx ry ⟨c, S, d, e, z, S', sS, rd, re, f, q⟩
  unfold cmpop at f
  obtain ⟨b, f1, f⟩ := pbind_eq f
  obtain ⟨rfl, rfl⟩ := bool1_eq f
  have fin : EP X pins σ Q (.bool (!b)) s := ⟨.bl (!b), H, I, rfl, q.val sS (.bl _)⟩
  have fin2 : Q (.bl (!b)) H := q.val sS (.bl _)
  unfold inD at f1
  split at f1
  · rename_i t h1
    split at f1
    · cases f1
      exact op_notin_str pins s σ H x y v u Q I rx ry ⟨_, _, rd.str_inv, look_str re h1, fin2⟩
    · cases f1
  · rename_i kvs h1
    split at f1
    · rename_i hf
      cases f1
      obtain ⟨a, o, rfl, g1, g2⟩ := dict_get sS re h1 hf rd
      cases ry
      refine d_notIn (by omega) I g1 rx fun s' I' => ⟨.bl _, H, I', rfl, ?_⟩
      rw [says_isSome g2]; exact fin2
    · cases f1
  · rename_i kvs h1
    split at f1
    · rename_i t
      cases f1
      obtain ⟨a, rfl, ka⟩ := look_kd re h1
      obtain ⟨es, n, r, D, e1, e2, e3⟩ := kd_get (c := c) (H := H) ka t
      refine op_notIn_kd D pins s σ H x _ v u Q I rx ry ⟨t, r, rd.str_inv, rfl, e1, ?_⟩
      have : r.isSome = (dget kvs (.str t)).isSome := by
        cases w : dget kvs (.str t) with
        | none => rw [e2 w]; rfl
        | some d => obtain ⟨_, _, w2, _⟩ := e3 d w; rw [w2]; rfl
      rw [this]; exact fin2
    · cases f1
  · rename_i xs h1
    obtain ⟨p, k, qs, e1, e2, l, rfl⟩ := inSeq_of f1
    obtain ⟨a, vs, rfl, sa, ra⟩ := look_list sS re h1
    obtain ⟨⟨as, r1⟩, p1⟩ := pd_reads I sS rd rx e1
    obtain ⟨bs, r2⟩ := Dp.reads I (.list qs) _ u (.lst sa (toPDs_dp sS k xs vs qs ra e2)) ry
    exact SeqAt.notIn_list_data r2 r1 (toPDs_plain _ _ _ _ e2) p1 (by omega) fin
  · rename_i xs h1
    obtain ⟨p, k, qs, e1, e2, l, rfl⟩ := inSeq_of f1
    obtain ⟨a, vs, rfl, sa, ra⟩ := look_tup re h1
    obtain ⟨⟨as, r1⟩, p1⟩ := pd_reads I sS rd rx e1
    obtain ⟨bs, r2⟩ := Dp.reads I (.tuple qs) _ u (.tup sa (toPDs_dp sS k xs vs qs ra e2)) ry
    exact SeqAt.notIn_tuple_data r2 r1 (toPDs_plain _ _ _ _ e2) p1 (by omega) fin
  · cases f1
end
section
variable {X : Cx}
theorem rp_none {g : Gx} {c : Cw} {H : Hp} {v : V} {d : Dat} (r : Rp g c H v d) : decide (v = .non) = decide (d = .none) := by
  cases r <;> simp
theorem ok_is : OpR X (compareOp .Is) (r2Of (gOf X) (cmpop .Is)) := by
  intro pins s σ H x y v u Q I rx ry ⟨c, S, d, e, z, S', sS, rd, re, f, q⟩
  unfold cmpop at f
  dsimp only at f
  split at f
  · obtain ⟨rfl, rfl⟩ := bool1_eq f
    refine op_isN pins s σ H x y v u Q I rx ry ⟨re.non_inv, ?_⟩
    rw [rp_none rd]; exact q.val sS (.bl _)
  · cases f
theorem ok_isnot : OpR X (compareOp .IsNot) (r2Of (gOf X) (cmpop .IsNot)) := by
  intro pins s σ H x y v u Q I rx ry ⟨c, S, d, e, z, S', sS, rd, re, f, q⟩
  unfold cmpop at f
  dsimp only at f
  split at f
  · obtain ⟨rfl, rfl⟩ := bool1_eq f
    refine op_notN pins s σ H x y v u Q I rx ry ⟨re.non_inv, ?_⟩
    rw [rp_none rd]; exact q.val sS (.bl _)
  · cases f
theorem ok_cmp (hu : X.A.units + 64 < cLine) : ∀ op : CmpOp, OpR X (compareOp op) (r2Of (gOf X) (cmpop op))
  | .Eq => ok_eq hu
  | .NotEq => ok_ne hu
  | .Lt => ok_lt hu
  | .LtE => ok_le hu
  | .Gt => ok_gt hu
  | .GtE => ok_ge hu
  | .In => ok_in hu
  | .NotIn => ok_notin hu
  | .Is => ok_is
  | .IsNot => ok_isnot
theorem ok_none {op : Operator} {f : Sto → Dat → Dat → Option (Dat × Sto)} (h : ∀ S x y, f S x y = none) : OpR X (binaryOp op) (r2Of (gOf X) f) := by
  intro pins s σ H x y v u Q I rx ry ⟨c, S, d, e, z, S', sS, rd, re, f, q⟩
  rw [h] at f; cases f
theorem ok_bin (o : Bool) : ∀ op : Operator, OpR X (binaryOp op) (r2Of (gOf X) (binop o op))
  | .Add => ok_add
  | .Sub => ok_sub
  | .Mult => ok_mul (o := o)
  | .FloorDiv => ok_div
  | .Mod => ok_mod
  | .Pow => ok_pow
  | .BitOr => ok_or
  | .BitAnd => ok_and
  | .LShift => ok_shl
  | .RShift => ok_shr
  | .Div => ok_none fun _ _ _ => rfl
  | .MatMult => ok_none fun _ _ _ => rfl
  | .BitXor => ok_none fun _ _ _ => rfl
/-! ### subscripts -/
theorem ok_at (hu : X.A.units + 64 < cLine) : IxR X (r2Of (gOf X) atD) := by
  intro value slice pins s σ H x y v u Q I rx ry ⟨c, S, d, e, z, S', sS, rd, re, f, q⟩ hs
  unfold atD at f
  split at f
  · rename_i xs h1
    split at f
    · obtain ⟨w, e1, e2⟩ := pbind_eq f
      cases e2
      obtain ⟨a, vs, rfl, sa, ra⟩ := look_list sS rd h1
      obtain ⟨t, et, rt⟩ := ra.atI e1
      exact ix_list value slice pins s σ H _ y v u Q I rx ry ⟨a, vs, _, t, rfl, re.int_inv, sa, et, q.val sS rt⟩ hs
    · cases f
  · rename_i xs h1
    split at f
    · obtain ⟨w, e1, e2⟩ := pbind_eq f
      cases e2
      obtain ⟨a, vs, rfl, sa, ra⟩ := look_tup rd h1
      obtain ⟨t, et, rt⟩ := ra.atI e1
      exact ix_tup value slice pins s σ H _ y v u Q I rx ry ⟨a, vs, _, t, rfl, re.int_inv, sa, et, q.val sS rt⟩ hs
    · cases f
  · rename_i t h1
    split at f
    · split at f
      · rename_i l
        obtain ⟨w, e1, e2⟩ := pbind_eq f
        cases e2
        exact ix_str value slice pins s σ H x y v u Q I rx ry ⟨t, _, w, look_str rd h1, re.int_inv, l, e1, q.val sS (.str _)⟩ hs
      · cases f
    · cases f
  · rename_i kvs h1
    split at f
    · rename_i hf
      obtain ⟨w, e1, e2⟩ := pbind_eq f
      cases e2
      obtain ⟨a, o, rfl, g1, g2⟩ := dict_get sS rd h1 hf re
      rw [e1] at g2
      obtain ⟨t, rfl, rt⟩ := g2
      cases rx
      exact tail_any (dict_typeIs I g1) PySem.F.slot_dict_getitem.lookup (d_getItem (by omega) I g1 ry fun w' s' I' rw' => ⟨t, H, I', rw', q.val sS rt⟩) hs
    · cases f
  · rename_i kvs h1
    split at f
    · rename_i t
      obtain ⟨w, e1, e2⟩ := pbind_eq f
      cases e2
      obtain ⟨a, rfl, ka⟩ := look_kd rd h1
      obtain ⟨es, n, r, D, k1, k2, k3⟩ := kd_get (c := c) (H := H) ka t
      obtain ⟨u0, v0, rfl, k4, k5⟩ := k3 _ e1
      cases rx
      exact tail_any (kd_type D I) PySem.F.slot_dict_getitem.lookup (op_item_kd D pins s σ H (.ref a) y _ u Q I rfl ry ⟨t, u0, v0, rfl, re.str_inv, k1, k4, q.val sS k5⟩) hs
    · cases f
  · cases f
/-! slices -/
theorem RpAll.cut {g : Gx} {c : Cw} {H : Hp} {vs : List V} {ds : List Dat} (r : RpAll g c H vs ds) (lo hi : Option Int) : RpAll g c H (cutV vs lo hi) (cutD ds lo hi) := by
  unfold cutV cutD
  rw [r.length]
  exact (r.drop _).take _
def rSlOf (g : Gx) (o : Bool) : V → Option Int → Option Int → Hp → VK → Prop := fun x lo hi H Q => ∃ c S d z S', StoOk g c S H ∧ Rp g c H x d ∧ sliceD o S d lo hi = some (z, S') ∧ Fin g c H Q z S'
theorem ok_sl {o : Bool} : SlR X (rSlOf (gOf X) o) := by
  intro pins s σ H x v vl vu lo hi sl Q I rx hs pl pu ⟨c, S, d, z, S', sS, rd, f, q⟩
  unfold sliceD at f
  split at f
  · rename_i xs h1
    obtain ⟨a, vs, rfl, sa, ra⟩ := look_list sS rd h1
    exact sl_list pins s σ H _ v vl vu lo hi sl Q I rx hs pl pu ⟨a, vs, rfl, sa, (q.newL sS (ra.cut lo hi) f).2⟩
  · rename_i xs h1
    obtain ⟨a, vs, rfl, sa, ra⟩ := look_tup rd h1
    have ln := ra.length
    refine sl_tupA pins s σ H _ v vl vu lo hi sl Q I rx hs pl pu ⟨a, vs, rfl, sa, fun hw => ?_, fun hw => ?_⟩
    · rw [ln] at hw
      split at f
      · cases f; exact q.val sS rd
      · rename_i hk
        have t1 : d = .tuple xs := by cases d <;> simp_all [look, isKt] <;> (split at h1 <;> cases h1)
        subst t1
        unfold newT at f
        split at f
        · cases f
          have : cutD xs lo hi = xs := by
            unfold cutD
            rw [hw.1, hw.2]; simp
          rw [this] at q
          exact q.val sS rd
        · cases f
    · rw [ln] at hw
      split at f
      · rename_i hk
        simp only [Bool.and_eq_true, decide_eq_true_eq] at hk
        exact absurd hk.2 hw
      · exact (q.newT sS (ra.cut lo hi) f).2
  · rename_i t h1
    split at f
    · rename_i l
      cases f
      exact sl_str pins s σ H x v vl vu lo hi sl Q I rx hs pl pu ⟨t, look_str rd h1, l, q.val sS (.str _)⟩
    · cases f
  · cases f
end
end PL

set_option Elab.async false
set_option linter.all false
set_option maxRecDepth 100000
set_option autoImplicit false
set_option maxHeartbeats 4000000
namespace PL
open PySem PySem.Spec PyProof.Rows L2

/-! ### builtin functions -/
section
variable {g : Gx} {c : Cw} {H : Hp}
theorem RpAll.ints : ∀ {vs : List V} {ds : List Dat} {ns : List Int}, RpAll g c H vs ds → intsOf ds = some ns → vs = ns.map V.int
  | _, _, _, .nil, e => by cases e; rfl
  | _, d :: ds, ns, .cons r t, e => by
    cases d with
    | int i =>
      rw [intsOf] at e
      obtain ⟨bs, e1, rfl⟩ := pmap_eq e
      rw [List.map_cons, ← RpAll.ints t e1, r.int_inv]
    | _ => cases e
theorem RpAll.bools : ∀ {vs : List V} {ds : List Dat} {ns : List Bool}, RpAll g c H vs ds → boolsOf ds = some ns → vs = ns.map V.bl
  | _, _, _, .nil, e => by cases e; rfl
  | _, d :: ds, ns, .cons r t, e => by
    cases d with
    | bool i =>
      rw [boolsOf] at e
      obtain ⟨bs, e1, rfl⟩ := pmap_eq e
      rw [List.map_cons, ← RpAll.bools t e1, r.bool_inv]
    | _ => cases e
theorem RpAll.strs : ∀ {vs : List V} {ds : List Dat} {ns : List Str}, RpAll g c H vs ds → strsOf ds = some ns → vs = ns.map V.str
  | _, _, _, .nil, e => by cases e; rfl
  | _, d :: ds, ns, .cons r t, e => by
    cases d with
    | str i =>
      rw [strsOf] at e
      obtain ⟨bs, e1, rfl⟩ := pmap_eq e
      rw [List.map_cons, ← RpAll.strs t e1, r.str_inv]
    | _ => cases e
theorem lstOf_eq {S : Sto} {x : Dat} {ys : List Dat} (h : lstOf S x = some ys) : look S x = .list ys := by
  unfold lstOf at h
  split at h
  · rename_i q; cases h; exact q
  · cases h
end
theorem foldl_max : ∀ (r : List Int) (i : Int), i ≤ r.foldl max i ∧ (∀ y ∈ r, y ≤ r.foldl max i) ∧ (r.foldl max i = i ∨ r.foldl max i ∈ r)
  | [], i => ⟨by simp, (fun y h => nomatch h), .inl rfl⟩
  | a :: r, i => by
    obtain ⟨h1, h2, h3⟩ := foldl_max r (max i a)
    rw [List.foldl_cons]
    refine ⟨by omega, fun y hy => ?_, ?_⟩
    · rcases List.mem_cons.mp hy with rfl | hy
      · omega
      · exact h2 y hy
    · rcases h3 with h3 | h3
      · rw [h3]
        by_cases q : i ≤ a
        · right; rw [Int.max_eq_right q]; exact List.mem_cons_self
        · left; exact Int.max_eq_left (by omega)
      · exact .inr (List.mem_cons_of_mem _ h3)
theorem foldl_min : ∀ (r : List Int) (i : Int), r.foldl min i ≤ i ∧ (∀ y ∈ r, r.foldl min i ≤ y) ∧ (r.foldl min i = i ∨ r.foldl min i ∈ r)
  | [], i => ⟨by simp, (fun y h => nomatch h), .inl rfl⟩
  | a :: r, i => by
    obtain ⟨h1, h2, h3⟩ := foldl_min r (min i a)
    rw [List.foldl_cons]
    refine ⟨by omega, fun y hy => ?_, ?_⟩
    · rcases List.mem_cons.mp hy with rfl | hy
      · omega
      · exact h2 y hy
    · rcases h3 with h3 | h3
      · rw [h3]
        by_cases q : i ≤ a
        · left; exact Int.min_eq_left q
        · right; rw [Int.min_eq_right (by omega)]; exact List.mem_cons_self
      · exact .inr (List.mem_cons_of_mem _ h3)
/-- the callee of a builtin -/
def biV : Bi → Value
  | .len => .builtin "len"
  | .abs => .builtin "abs"
  | .max2 => .builtin "max"
  | .min2 => .builtin "min"
  | .maxL => .builtin "max"
  | .minL => .builtin "min"
  | .sum => .builtin "sum"
  | .int => .type "int"
  | .str => .type "str"
  | .bool => .type "bool"
  | .all => .builtin "all"
  | .any => .builtin "any"
  | .sorted => .builtin "sorted"
  | .tuple => .type "tuple"
  | .list => .type "list"
  | .dict => .type "dict"
  | .repr => .builtin "repr"
section
variable {X : Cx} {o : Bool}
theorem ok_len : CallR X (.builtin "len") (rNOf (gOf X) (biD .len o)) := by
  intro pins s σ H xs us Q I r ⟨c, S, ds, z, S', sS, rd, f, q⟩
  match ds, rd, f with
  | [x], rd, f =>
    obtain ⟨v, rfl, rv⟩ := rd.one_inv
    have f' : lenD S x = some (z, S') := f
    unfold lenD at f'
    split at f'
    · rename_i ys h1
      cases f'
      obtain ⟨a, vs, rfl, sa, ra⟩ := look_list sS rv h1
      exact call_len_seq pins s σ H _ us Q I r ⟨a, vs, rfl, .inl sa, by rw [ra.length]; exact q.val sS (.int _)⟩
    · rename_i ys h1
      cases f'
      obtain ⟨a, vs, rfl, sa, ra⟩ := look_tup rv h1
      exact call_len_seq pins s σ H _ us Q I r ⟨a, vs, rfl, .inr sa, by rw [ra.length]; exact q.val sS (.int _)⟩
    · rename_i t h1
      split at f'
      · rename_i l
        cases f'
        exact call_len_str pins s σ H _ us Q I r ⟨t, by rw [look_str rv h1], l, q.val sS (.int _)⟩
      · cases f'
    · rename_i kvs h1
      cases f'
      obtain ⟨a, rfl, h⟩ := look_dict sS rv h1
      obtain ⟨u, rfl, ru⟩ := vals1 r
      cases ru
      rcases h with ⟨fs, h2, h3⟩ | ⟨fs, h2, h3⟩
      · exact d_len I h2 fun t s' I' => ⟨.int _, H, I', ⟨t, rfl⟩, by rw [h3.length]; exact q.val sS (.int _)⟩
      · obtain ⟨z', hd, ys, rel, dd⟩ := dt_rd I.hok h2
        have hl : fs.length = ys.length := Paired.length rel
        refine call_len_dictH hd dd (by rw [← hl]; rw [sizeLine_eq] at z'; omega) ?_
        rw [← hl, h3.length]
        exact ⟨.int ((kvs.length : Nat) : Int), H, I.tok _, ⟨_, rfl⟩, q.val sS (.int _)⟩
    · cases f'
  | [], _, f => cases f
  | [_, _], _, f => cases f
  | _ :: _ :: _ :: _, _, f => cases f
theorem ok_abs : CallR X (.builtin "abs") (rNOf (gOf X) (biD .abs o)) := by
  intro pins s σ H xs us Q I r ⟨c, S, ds, z, S', sS, rd, f, q⟩
  match ds, rd, f with
  | [x], rd, f =>
    obtain ⟨v, rfl, rv⟩ := rd.one_inv
    have f' : absD S x = some (z, S') := f
    unfold absD at f'
    split at f'
    · cases f'
      exact call_abs pins s σ H _ us Q I r ⟨_, by rw [rv.int_inv], q.val sS (.int _)⟩
    · cases f'
  | [], _, f => cases f
  | [_, _], _, f => cases f
  | _ :: _ :: _ :: _, _, f => cases f
theorem ok_max2 (hc : X.calm = true) : CallR X (.builtin "max") (rNOf (gOf X) (biD .max2 o)) := by
  intro pins s σ H xs us Q I r ⟨c, S, ds, z, S', sS, rd, f, q⟩
  match ds, rd, f with
  | [x, y], rd, f =>
    obtain ⟨v, u, rfl, rv, ru⟩ := rd.two_inv
    have f' : int2 _ S x y = some (z, S') := f
    unfold int2 at f'
    split at f'
    · cases f'
      exact call_max2 hc pins s σ H _ us Q I r ⟨_, _, by rw [rv.int_inv, ru.int_inv], q.val sS (.int _)⟩
    · cases f'
  | [], _, f => cases f
  | [_], _, f => cases f
  | _ :: _ :: _ :: _, _, f => cases f
theorem ok_min2 (hc : X.calm = true) : CallR X (.builtin "min") (rNOf (gOf X) (biD .min2 o)) := by
  intro pins s σ H xs us Q I r ⟨c, S, ds, z, S', sS, rd, f, q⟩
  match ds, rd, f with
  | [x, y], rd, f =>
    obtain ⟨v, u, rfl, rv, ru⟩ := rd.two_inv
    have f' : int2 _ S x y = some (z, S') := f
    unfold int2 at f'
    split at f'
    · cases f'
      exact call_min2 hc pins s σ H _ us Q I r ⟨_, _, by rw [rv.int_inv, ru.int_inv], q.val sS (.int _)⟩
    · cases f'
  | [], _, f => cases f
  | [_], _, f => cases f
  | _ :: _ :: _ :: _, _, f => cases f
theorem ok_maxL (hc : X.calm = true) : CallR X (.builtin "max") (rNOf (gOf X) (biD .maxL o)) := by
  intro pins s σ H xs us Q I r ⟨c, S, ds, z, S', sS, rd, f, q⟩
  match ds, rd, f with
  | [x], rd, f =>
    obtain ⟨v, rfl, rv⟩ := rd.one_inv
    obtain ⟨ys, e1, f⟩ := pbind_eq (show (lstOf S x).bind _ = some (z, S') from f)
    obtain ⟨is, e2, f⟩ := pbind_eq f
    obtain ⟨m, e3, f⟩ := pbind_eq f
    cases f
    obtain ⟨a, vs, rfl, sa, ra⟩ := look_list sS rv (lstOf_eq e1)
    rw [ra.ints e2] at sa
    cases is with
    | nil => cases e3
    | cons i l =>
      cases e3
      obtain ⟨k1, k2, k3⟩ := foldl_max l i
      refine cr_max hc pins s σ H _ us Q I r ⟨a, _, rfl, sa, by simp, fun m hm hb => ?_⟩
      have : m = l.foldl max i := by
        have h1 : m ≤ l.foldl max i := by
          rcases List.mem_cons.mp hm with rfl | hm
          · exact k1
          · exact k2 m hm
        have h2 : l.foldl max i ≤ m := by
          rcases k3 with k3 | k3
          · rw [k3]; exact hb i List.mem_cons_self
          · exact hb _ (List.mem_cons_of_mem _ k3)
        omega
      rw [this]; exact q.val sS (.int _)
  | [], _, f => cases f
  | [_, _], _, f => cases f
  | _ :: _ :: _ :: _, _, f => cases f
theorem ok_minL (hc : X.calm = true) : CallR X (.builtin "min") (rNOf (gOf X) (biD .minL o)) := by
  intro pins s σ H xs us Q I r ⟨c, S, ds, z, S', sS, rd, f, q⟩
  match ds, rd, f with
  | [x], rd, f =>
    obtain ⟨v, rfl, rv⟩ := rd.one_inv
    obtain ⟨ys, e1, f⟩ := pbind_eq (show (lstOf S x).bind _ = some (z, S') from f)
    obtain ⟨is, e2, f⟩ := pbind_eq f
    obtain ⟨m, e3, f⟩ := pbind_eq f
    cases f
    obtain ⟨a, vs, rfl, sa, ra⟩ := look_list sS rv (lstOf_eq e1)
    rw [ra.ints e2] at sa
    cases is with
    | nil => cases e3
    | cons i l =>
      cases e3
      obtain ⟨k1, k2, k3⟩ := foldl_min l i
      refine cr_min hc pins s σ H _ us Q I r ⟨a, _, rfl, sa, by simp, fun m hm hb => ?_⟩
      have : m = l.foldl min i := by
        have h1 : l.foldl min i ≤ m := by
          rcases List.mem_cons.mp hm with rfl | hm
          · exact k1
          · exact k2 m hm
        have h2 : m ≤ l.foldl min i := by
          rcases k3 with k3 | k3
          · rw [k3]; exact hb i List.mem_cons_self
          · exact hb _ (List.mem_cons_of_mem _ k3)
        omega
      rw [this]; exact q.val sS (.int _)
  | [], _, f => cases f
  | [_, _], _, f => cases f
  | _ :: _ :: _ :: _, _, f => cases f
theorem ok_sum (hc : X.calm = true) : CallR X (.builtin "sum") (rNOf (gOf X) (biD .sum o)) := by
  intro pins s σ H xs us Q I r ⟨c, S, ds, z, S', sS, rd, f, q⟩
  match ds, rd, f with
  | [x], rd, f =>
    obtain ⟨v, rfl, rv⟩ := rd.one_inv
    obtain ⟨ys, e1, f⟩ := pbind_eq (show (lstOf S x).bind _ = some (z, S') from f)
    obtain ⟨is, e2, f⟩ := pbind_eq f
    cases f
    obtain ⟨a, vs, rfl, sa, ra⟩ := look_list sS rv (lstOf_eq e1)
    rw [ra.ints e2] at sa
    exact cr_sum hc pins s σ H _ us Q I r ⟨a, _, rfl, sa, q.val sS (.int _)⟩
  | [], _, f => cases f
  | [_, _], _, f => cases f
  | _ :: _ :: _ :: _, _, f => cases f
theorem ok_all (hc : X.calm = true) : CallR X (.builtin "all") (rNOf (gOf X) (biD .all o)) := by
  intro pins s σ H xs us Q I r ⟨c, S, ds, z, S', sS, rd, f, q⟩
  match ds, rd, f with
  | [x], rd, f =>
    obtain ⟨v, rfl, rv⟩ := rd.one_inv
    obtain ⟨ys, e1, f⟩ := pbind_eq (show (lstOf S x).bind _ = some (z, S') from f)
    obtain ⟨is, e2, f⟩ := pbind_eq f
    cases f
    obtain ⟨a, vs, rfl, sa, ra⟩ := look_list sS rv (lstOf_eq e1)
    rw [ra.bools e2] at sa
    exact cr_all hc pins s σ H _ us Q I r ⟨a, _, rfl, sa, q.val sS (.bl _)⟩
  | [], _, f => cases f
  | [_, _], _, f => cases f
  | _ :: _ :: _ :: _, _, f => cases f
theorem ok_any (hc : X.calm = true) : CallR X (.builtin "any") (rNOf (gOf X) (biD .any o)) := by
  intro pins s σ H xs us Q I r ⟨c, S, ds, z, S', sS, rd, f, q⟩
  match ds, rd, f with
  | [x], rd, f =>
    obtain ⟨v, rfl, rv⟩ := rd.one_inv
    obtain ⟨ys, e1, f⟩ := pbind_eq (show (lstOf S x).bind _ = some (z, S') from f)
    obtain ⟨is, e2, f⟩ := pbind_eq f
    cases f
    obtain ⟨a, vs, rfl, sa, ra⟩ := look_list sS rv (lstOf_eq e1)
    rw [ra.bools e2] at sa
    exact cr_any hc pins s σ H _ us Q I r ⟨a, _, rfl, sa, q.val sS (.bl _)⟩
  | [], _, f => cases f
  | [_, _], _, f => cases f
  | _ :: _ :: _ :: _, _, f => cases f
theorem ok_int : CallR X (.type "int") (rNOf (gOf X) (biD .int o)) := by
  intro pins s σ H xs us Q I r ⟨c, S, ds, z, S', sS, rd, f, q⟩
  match ds, rd, f with
  | [x], rd, f =>
    obtain ⟨v, rfl, rv⟩ := rd.one_inv
    have f' : intB S x = some (z, S') := f
    unfold intB at f'
    split at f'
    · cases f'; exact call_int1 pins s σ H _ us Q I r (.inl ⟨_, by rw [rv.int_inv], q.val sS (.int _)⟩)
    · cases f'; exact call_int1 pins s σ H _ us Q I r (.inr ⟨_, by rw [rv.bool_inv], q.val sS (.int _)⟩)
    · cases f'
  | [], _, f => cases f
  | [_, _], _, f => cases f
  | _ :: _ :: _ :: _, _, f => cases f
theorem ok_str : CallR X (.type "str") (rNOf (gOf X) (biD .str o)) := by
  intro pins s σ H xs us Q I r ⟨c, S, ds, z, S', sS, rd, f, q⟩
  match ds, rd, f with
  | [x], rd, f =>
    obtain ⟨v, rfl, rv⟩ := rd.one_inv
    have f' : strB S x = some (z, S') := f
    unfold strB at f'
    split at f'
    · split at f'
      · rename_i l
        cases f'
        exact call_str_int pins s σ H _ us Q I r ⟨_, by rw [rv.int_inv], l, q.val sS (.str _)⟩
      · cases f'
    · cases f'; exact SkE.call_str_str pins s σ H _ us Q I r ⟨_, by rw [rv.str_inv], q.val sS (.str _)⟩
    · cases f'
  | [], _, f => cases f
  | [_, _], _, f => cases f
  | _ :: _ :: _ :: _, _, f => cases f
theorem ok_bool : CallR X (.type "bool") (rNOf (gOf X) (biD .bool o)) := by
  intro pins s σ H xs us Q I r ⟨c, S, ds, z, S', sS, rd, f, q⟩
  match ds, rd, f with
  | [x], rd, f =>
    obtain ⟨v, rfl, rv⟩ := rd.one_inv
    have f' : boolB S x = some (z, S') := f
    unfold boolB at f'
    split at f'
    · cases f'; exact call_bool1 pins s σ H _ us Q I r (.inl ⟨_, by rw [rv.int_inv], q.val sS (.bl _)⟩)
    · cases f'; exact call_bool1 pins s σ H _ us Q I r (.inr ⟨_, by rw [rv.bool_inv], q.val sS (.bl _)⟩)
    · cases f'
  | [], _, f => cases f
  | [_, _], _, f => cases f
  | _ :: _ :: _ :: _, _, f => cases f
theorem ok_list : CallR X (.type "list") (rNOf (gOf X) (biD .list o)) := by
  intro pins s σ H xs us Q I r ⟨c, S, ds, z, S', sS, rd, f, q⟩
  match ds, rd, f with
  | [x], rd, f =>
    obtain ⟨v, rfl, rv⟩ := rd.one_inv
    obtain ⟨ys, e1, f⟩ := pbind_eq (show (seqOf S x).bind _ = some (z, S') from f)
    obtain ⟨a, vs, rfl, sa, ra⟩ := seqOf_sq sS rv e1
    exact call_list_of pins s σ H _ us Q I r ⟨a, vs, rfl, sa.symm, (q.newL sS ra f).2⟩
  | [], _, f => cases f
  | [_, _], _, f => cases f
  | _ :: _ :: _ :: _, _, f => cases f
theorem ok_tuple : CallR X (.type "tuple") (rNOf (gOf X) (biD .tuple o)) := by
  intro pins s σ H xs us Q I r ⟨c, S, ds, z, S', sS, rd, f, q⟩
  match ds, rd, f with
  | [x], rd, f =>
    obtain ⟨v, rfl, rv⟩ := rd.one_inv
    have f' : tupleD S x = some (z, S') := f
    unfold tupleD at f'
    split at f'
    · rename_i ys h1
      obtain ⟨a, vs, rfl, sa, ra⟩ := look_list sS rv h1
      exact call_tuple_of pins s σ H _ us Q I r ⟨a, vs, rfl, .inl ⟨sa, (q.newT sS ra f').2⟩⟩
    · rename_i ys h1
      cases f'
      obtain ⟨a, vs, rfl, sa, ra⟩ := look_tup rv h1
      exact call_tuple_of pins s σ H _ us Q I r ⟨a, vs, rfl, .inr ⟨sa, q.val sS rv⟩⟩
    · cases f'
  | [], _, f => cases f
  | [_, _], _, f => cases f
  | _ :: _ :: _ :: _, _, f => cases f
/-- repr, where no repr runs -/
theorem ok_repr (hg : X.A.guards = some []) (hu : X.A.units + 64 < cLine) : CallR X (.builtin "repr") (rNOf (gOf X) (biD .repr o)) := by
  intro pins s σ H xs us Q I r ⟨c, S, ds, z, S', sS, rd, f, q⟩
  match ds, rd, f with
  | [x], rd, f =>
    obtain ⟨v, rfl, rv⟩ := rd.one_inv
    obtain ⟨p, e1, f⟩ := pbind_eq (show (pd S x).bind _ = some (z, S') from f)
    split at f
    · rename_i l
      simp only [Bool.and_eq_true, decide_eq_true_eq] at l
      cases f
      have dp := toPD_dp sS _ _ _ _ rv e1
      have hv : ∃ a, v = .ref a := by
        cases dp <;> first | exact ⟨_, rfl⟩ | (simp [isSeqP] at l)
      obtain ⟨a, rfl⟩ := hv
      obtain ⟨u, rfl, ru⟩ := vals1 r
      cases ru
      obtain ⟨as, r1⟩ := Dp.reads I p _ _ dp rfl
      exact repr_of_reads' r1 l.1.1.2 (fun z => by rw [PyData.hasDict_of_canLay p l.1.1.1.2] at z; cases z) hg (by omega) (fun _ _ e => e) (fun h' t tk hk => ⟨.str p.shown, H, I.kept hk, ⟨t, rfl⟩, q.val sS (.str _)⟩) l.1.2
    · cases f
  | [], _, f => cases f
  | [_, _], _, f => cases f
  | _ :: _ :: _ :: _, _, f => cases f
end
end PL

set_option Elab.async false
set_option linter.all false
set_option maxRecDepth 100000
set_option autoImplicit false
set_option maxHeartbeats 4000000
/-! ### sorting of tuples among which one may be empty -/
namespace PL
open PySem PySem.SeqAt PySem.Calls PyProof.Rows PySem.W
section
variable {prog : Program} {w : World} {A : Around} {s : Shared} {E : Value → Shared → Prop}
theorem call_tuple_lt {Q : Value → Shared → Prop} {l b : Addr} {items items2 : Array Value} {e r : Nat → Bool} (hl : s.heap.IsTuple l items) (hb : s.heap.IsTuple b items2)
    (he : ∀ j (h1 : j < items.size) (h2 : j < items2.size), EqAt A.in1 s items[j] items2[j] (e j)) (hr : ∀ j (h1 : j < items.size) (h2 : j < items2.size), e j = false → RcLt A.in1 s items[j] items2[j] (r j))
    (h : Q (.bool (firstLt e r (decide (items.size < items2.size)) (List.range (min items.size items2.size)))) s) : wpAny (model prog w) A (call (.builtin "tuple.__lt__") [.ref l, .ref b]) Q E s := by
  obtain ⟨⟨cls, dd, data, sl⟩, ho, hc, n, hd⟩ := id hl
  obtain ⟨⟨cls2, dd2, data2, sl2⟩, ho2, hc2, n2, hd2⟩ := id hb
  simp only at hc hd hc2 hd2
  subst hc hd hc2 hd2
  exact call_meets F.slot_tuple_lt ⟨_, ho, rfl⟩ F.entry_tuple_lt (F.args_tuple_lt_2 _ _) (tuple_ltAt l b items items2 n n2 dd dd2 sl sl2 e r) ⟨ho, ho2, he, hr, h⟩
theorem oneLt_tuple {xs ys : List PyData} {a b : Value} {as bs : List Addr} {Q : Bool → Shared → Prop} (ra : Reads s.heap a (.tuple xs) as) (rb : Reads s.heap b (.tuple ys) bs) (h : alike (.tuple xs) (.tuple ys) = true)
    (hu : A.units + min (PyData.tuple xs).depth (PyData.tuple ys).depth < cLine) (hq : Q (dataLt (.tuple xs) (.tuple ys)) s) : wpAny (model prog w) A (oneLt' true a b) Q E s := by
  have hal : alikeAll xs ys = true := by simpa [alike] using h
  cases ra with
  | @tuple l o vs n _ as₁ h1 h2 h3 h4 =>
    cases rb with
    | @tuple l' o' vs' n' _ bs₁ k1 k2 k3 k4 =>
      have n1 : vs.size = xs.length := by simpa using ReadsAll.length _ _ _ h4
      have n2 : vs'.size = ys.length := by simpa using ReadsAll.length _ _ _ k4
      rw [dataLt_tuple, ← firstLt_toks xs ys hal, ← n1, ← n2] at hq
      rw [oneLt'_eq]
      simp only [if_true]
      refine wpAny_bind (wpAny_cRoomFor (room_here hu) ?_)
      refine wpAny_bind (wpAny_callSpecialIfBound?_slot (T := "tuple") ⟨_, h1, h2⟩ F.slot_tuple_lt (call_tuple_lt (e := pairEq xs ys) (r := fun j => dataLt (xs.getD j .none) (ys.getD j .none)) ⟨_, h1, h2, _, h3⟩ ⟨_, k1, k2, _, k3⟩ (fun j j1 j2 => ?_) (fun j j1 j2 hj => ?_) ?_))
      · have := eqAt_alikeAll xs ys A.in1 s vs.toList vs'.toList _ _ h4 k4 hal (room_in hu) j (by simpa using j1) (by simpa using j2)
        simpa using this
      · have := rcLt_alikeAll xs ys A.in1 s vs.toList vs'.toList _ _ h4 k4 hal (room_in hu) j (by simpa using j1) (by simpa using j2) hj
        simpa using this
      · exact wpAny_truthy_bool hq
/-- the first items of tuples -/
def fstOf (h : Heap) (v : Value) : Option Value := match v with
  | .ref a => match h.get? a with
    | some o => match o.data with
      | .seq its _ => its[0]?
      | _ => none
    | none => none
  | _ => none
theorem fstOf_ref {h : Heap} {a : Addr} {o : Obj} {its : Array Value} {n : Nat} (ho : h.get? a = some o) (hd : o.data = .seq its n) : fstOf h (.ref a) = its[0]? := by
  unfold fstOf
  simp only [ho, hd]
theorem firsts_all {M : Model} : ∀ {vs : List Value} {ds : List PyData}, EachIs (fun v d => ∃ as, Reads s.heap v d as) vs ds → (∀ d, d ∈ ds → ∃ xs, d = .tuple xs) →
    ∀ {Q : List (Option Value) → Shared → Prop}, Q (vs.map (fstOf s.heap)) s → wpAny M A (vs.mapM firstOfTuple') Q E s
  | _, _, .nil, _, _, h => by rw [List.mapM_nil]; exact wpAny_pure h
  | v :: vs, _, .cons (b := d) ⟨as, r⟩ t, ht, Q, hq => by
    have h3 := @firsts_all M vs _ t (fun d hd => ht d (List.mem_cons_of_mem _ hd))
    obtain ⟨xs, rfl⟩ := ht d (List.mem_cons_self ..)
    cases r with
    | @tuple a o its n _ _ ho hc hd hr =>
      rw [List.mapM_cons]
      refine wpAny_bind ?_
      rw [kas_first_eq]
      refine wpAny_bind (Looks.here (show Looks M s.heap (typeOf (.ref a)) o.cls from (Looks.ld ho).andThen .now) ?_)
      rw [hc, if_neg (by first | decide | simp)]
      refine wpAny_bind (listItems_at ho hd (wpAny_pure ?_))
      rw [List.map_cons, fstOf_ref ho hd] at hq
      exact wpAny_bind (h3 (Q := fun bs s' => wpAny M A (pure (its[0]? :: bs)) Q E s') (wpAny_pure hq))
theorem firsts_no : ∀ {vs : List Value} {ds : List PyData}, EachIs (fun v d => ∃ as, Reads s.heap v d as) vs ds → .tuple [] ∈ ds → ((vs.map (fstOf s.heap)).all fun x => x.isSome) = false
  | _, _, .nil, h => by simp at h
  | v :: vs, _, .cons (b := d) ⟨as, r⟩ t, hm => by
    rw [List.map_cons, List.all_cons]
    rcases List.mem_cons.mp hm with e | hm
    · subst e
      cases r with
      | @tuple a o its n _ _ ho hc hd hr =>
        have : its.toList = [] := by
          generalize its.toList = l at hr
          cases hr; rfl
        have e0 : its[0]? = none := by
          have : its = #[] := Array.toList_eq_nil_iff.mp this
          subst this; rfl
        rw [fstOf_ref ho hd, e0]; rfl
    · rw [firsts_no t hm, Bool.and_false]
theorem sorts_tuples {vs : List Value} {ds : List PyData} (e : EachIs (fun v d => ∃ as, Reads s.heap v d as) vs ds) (hal : AllAlike ds) (ht : ∀ d, d ∈ ds → ∃ xs, d = .tuple xs) (h0 : PyData.tuple [] ∈ ds) (hu : ∀ d, d ∈ ds → A.units + d.depth < cLine) : SortsAt prog w A s (dataKind s.heap ds) vs := by
  have room : ∀ {d d' : PyData}, d ∈ ds → A.units + min d.depth d'.depth < cLine := fun {d d'} hd => Nat.lt_of_le_of_lt (Nat.add_le_add_left (Nat.min_le_left _ _) _) (hu d hd)
  have lt : ∀ b : Bool, ∀ (E : Value → Shared → Prop) (x y : Value) (a c : (dataKind s.heap ds).α) (Q : Bool → Shared → Prop), (dataKind s.heap ds).keyOf x = some a → (dataKind s.heap ds).keyOf y = some c → Q ((dataKind s.heap ds).blt a c) s → wpAny (model prog w) A (oneLt' b x y) Q E s := by
    intro b E x y a c Q ha hb hq
    obtain ⟨d, as, hd, ra, rfl⟩ := dataKind_inv ha
    obtain ⟨d', as', hd', rb, rfl⟩ := dataKind_inv hb
    obtain ⟨xs, rfl⟩ := ht d hd
    obtain ⟨ys, rfl⟩ := ht d' hd'
    cases b with
    | true => exact oneLt_tuple ra rb (hal _ hd _ hd') (room hd) hq
    | false => exact oneLt_alike (fun z => nomatch z) ra rb (hal _ hd _ hd') (fun z => nomatch z) (room hd) hq
  refine ⟨fun v hv => ?_, ?_⟩
  · obtain ⟨d, hd, as, r⟩ := e.left v hv
    exact ⟨_, dataKind_some hal hd r⟩
  · have no : ¬ (((vs.map (fstOf s.heap)).toArray.all fun x => x.isSome) = true) := by
      rw [List.all_toArray, firsts_no e h0]; decide
    by_cases q : ((vs.map (fstOf s.heap)).toArray[0]?.bind id).isSome = true
    · refine ⟨general', fun E x y a b Q ha hb hq => lt false E x y a b Q ha hb hq, fun h2 E Q hq => ?_⟩
      rw [kat_kind_eq, List.mapM_toArray, map_eq_pure_bind]
      refine wpAny_bind (wpAny_bind (firsts_all e ht (wpAny_pure ?_)))
      rw [if_neg no, if_pos q]
      exact wpAny_pure hq
    · refine ⟨oneType', fun E x y a b Q ha hb hq => lt true E x y a b Q ha hb hq, fun h2 E Q hq => ?_⟩
      rw [kat_kind_eq, List.mapM_toArray, map_eq_pure_bind]
      refine wpAny_bind (wpAny_bind (firsts_all e ht (wpAny_pure ?_)))
      rw [if_neg no, if_neg q]
      rw [oneTypeOnly'_eq, List.mapM_toArray, map_eq_pure_bind]
      refine wpAny_bind (wpAny_bind (wpAny_bind (kas_mapM (r := Value.type "tuple") _ (fun v hv Q' hq => ?_) (wpAny_pure ?_))))
      · obtain ⟨d, hd, as, r⟩ := e.left v hv
        obtain ⟨xs, rfl⟩ := ht d hd
        exact (looks_reads r).here hq
      · obtain ⟨v₁, v₂, rest, rfl⟩ : ∃ v₁ v₂ rest, vs = v₁ :: v₂ :: rest := by
          match vs, h2 with
          | [], h2 => simp at h2
          | [_], h2 => simp at h2
          | v₁ :: v₂ :: rest, _ => exact ⟨v₁, v₂, rest, rfl⟩
        have hall : ((List.map (fun _ => Value.type "tuple") (v₁ :: v₂ :: rest)).toArray.all fun x => x == Value.type "tuple") = true := by
          simp only [List.all_toArray, List.all_map, List.all_eq_true]
          intro _ _
          exact beq_self_eq_true _
        have hz : (List.map (fun _ => Value.type "tuple") (v₁ :: v₂ :: rest)).toArray[0]? = some (Value.type "tuple") := by simp
        rw [hz]
        simp only [hall, if_true]
        exact wpAny_pure (wpAny_pure hq)
/-- alike data can be sorted -/
theorem sorts_any {vs : List Value} {ds : List PyData} (e : EachIs (fun v d => ∃ as, Reads s.heap v d as) vs ds) (hal : AllAlike ds) (hn : ∀ d, d ∈ ds → d ≠ .none) (hu : ∀ d, d ∈ ds → A.units + d.depth < cLine) : SortsAt prog w A s (dataKind s.heap ds) vs := by
  by_cases tp : ∃ xs, PyData.tuple xs ∈ ds
  · obtain ⟨xs, hx⟩ := tp
    have ht : ∀ d, d ∈ ds → ∃ xs, d = .tuple xs := fun d hd => by
      have := hal _ hx _ hd
      cases d <;> simp [alike] at this
      exact ⟨_, rfl⟩
    by_cases h0 : PyData.tuple [] ∈ ds
    · exact sorts_tuples e hal ht h0 hu
    · refine SortsAt.data e hal (.inl fun d hd => ?_) hu
      obtain ⟨xs, rfl⟩ := ht d hd
      cases xs with
      | nil => exact absurd hd h0
      | cons x r => exact ⟨x, r, rfl⟩
  · exact SortsAt.data e hal (.inr fun d hd => ⟨hn d hd, fun xs e => tp ⟨xs, e ▸ hd⟩⟩) hu
theorem sorted_any {β : Type} {R : Value → β → Prop} {enc : β → PyData} {bs : List β} {vs : List Value} {l : Addr} {Q : Value → Shared → Prop} (hl : s.heap.IsList l vs.toArray) (e : EachIs R vs bs) (er : EachIs (fun v b => ∃ as, Reads s.heap v (enc b) as) vs bs) (hal : AllAlike (bs.map enc)) (hk : ∀ b ∈ bs, enc b ≠ .none) (hL : bs.length ≤ sizeLine)
    (hu : ∀ b, b ∈ bs → A.units + 2 + (enc b).depth < cLine) (h : ∀ out, out.length = bs.length → EachIs R out (bs.mergeSort (dataLe false enc)) → Q (.ref (s.heap.objs.size + 1)) { s with heap := sortedAll s.heap vs (List.toArray out) }) :
    wpAny (model prog w) A (call (.builtin "sorted") [.ref l]) Q E s := by
  have er' : EachIs (fun v b => ∃ as, Reads (sortingHeap (copyHeap s.heap vs) (s.heap.objs.size + 1) vs) v (enc b) as) vs bs := er.mono fun _ _ ⟨as, r⟩ => ⟨as, PyProof.Rows.Reads.keeps (fun _ _ => sorting_copy_old) r⟩
  exact sorted_vals hl (sorts_any (s := { s with heap := sortingHeap (copyHeap s.heap vs) (s.heap.objs.size + 1) vs }) (each_map (R := fun v d => ∃ as, Reads (sortingHeap (copyHeap s.heap vs) (s.heap.objs.size + 1) vs) v d as) enc er') hal
      (fun d hd => by obtain ⟨b, hb, rfl⟩ := List.mem_map.mp hd; exact hk b hb) (bound_map hu)) (by rw [e.length]; exact hL)
    (h _ (by rw [sortVals_length false rfl]; exact e.length) (sortVals_data false e er' hal))
end
end PL
namespace PL
open PySem PySem.Spec PyProof.Rows L2
section
variable {X : Cx} {o : Bool} {pins : List (Addr × Obj)} {σ : L2.St} {H : Hp} {s : Shared} {c : Cw} {S : Sto}
/-- an item that is sorted -/
def SrtI (X : Cx) (c : Cw) (H : Hp) (v : Value) (d : Dat) : Prop := ∃ x : V, RelV x v ∧ Rp (gOf X) c H x d
theorem srt_in : ∀ {vs : List V} {us : List Value} {ds : List Dat}, Vals vs us → RpAll (gOf X) c H vs ds → PySem.W.EachIs (SrtI X c H) us ds
  | _, _, _, .nil, .nil => .nil
  | _, _, _, .cons r t, .cons r' t' => .cons ⟨_, r, r'⟩ (srt_in t t')
theorem srt_out : ∀ {us : List Value} {ds : List Dat}, PySem.W.EachIs (SrtI X c H) us ds → ∃ vs, Vals vs us ∧ RpAll (gOf X) c H vs ds
  | _, _, .nil => ⟨[], .nil, .nil⟩
  | _, _, .cons ⟨x, r, r'⟩ t => by
    obtain ⟨vs, h1, h2⟩ := srt_out t
    exact ⟨x :: vs, .cons r h1, .cons r' h2⟩
theorem srt_rd (I : Inv X pins σ H s) (sS : StoOk (gOf X) c S H) : ∀ {vs : List V} {us : List Value} {ds : List Dat}, Vals vs us → RpAll (gOf X) c H vs ds → (∀ d ∈ ds, (pd S d).isSome = true) → PySem.W.EachIs (fun v b => ∃ as, Reads s.heap v (keyD S b) as) us ds
  | _, _, _, .nil, .nil, _ => .nil
  | _, _, d :: ds, .cons r t, .cons r' t', h => by
    refine .cons ?_ (srt_rd I sS t t' fun d hd => h d (List.mem_cons_of_mem _ hd))
    obtain ⟨p, e⟩ := Option.isSome_iff_exists.mp (h d List.mem_cons_self)
    have ek : keyD S d = p := by unfold keyD; rw [e]; rfl
    rw [ek]
    exact (pd_reads I sS r' r e).1
theorem sortable_of {ds : List Dat} (h : sortable S ds = true) : (∀ d ∈ ds, (pd S d).isSome = true) ∧ (∀ d ∈ ds, keyD S d ≠ .none) ∧ (∀ d ∈ ds, (keyD S d).depth ≤ 60) ∧ PySem.W.AllAlike (ds.map (keyD S)) := by
  unfold sortable at h
  rw [List.all_eq_true] at h
  have k : ∀ d ∈ ds, (pd S d).isSome = true ∧ notNone (keyD S d) = true ∧ (keyD S d).depth ≤ 60 ∧ (∀ e ∈ ds, PySem.W.alike (keyD S d) (keyD S e) = true) := fun d hd => by
    have := h d hd
    simp only [Bool.and_eq_true, decide_eq_true_eq, List.all_eq_true] at this
    exact ⟨this.1.1.1, this.1.1.2, this.1.2, this.2⟩
  refine ⟨fun d hd => (k d hd).1, fun d hd e => ?_, fun d hd => (k d hd).2.2.1, fun d hd d' hd' => ?_⟩
  · have := (k d hd).2.1
    rw [e] at this; cases this
  · obtain ⟨a, ha, rfl⟩ := List.mem_map.mp hd
    obtain ⟨b, hb, rfl⟩ := List.mem_map.mp hd'
    exact (k a ha).2.2.2 b hb
theorem strs_all : ∀ {fs : List (Key × V)} {gs : List (Dat × Dat)}, RpK (gOf X) c H fs gs → (keysOf gs).all isStrD = true → ∃ ks : List Str, fs.map (·.1) = ks.map Sum.inr ∧ keysOf gs = ks.map Dat.str
  | _, _, .nil, _ => ⟨[], rfl, rfl⟩
  | _, _, .cons (n := n) r t, h => by
    unfold keysOf at h
    rw [List.map_cons, List.all_cons, Bool.and_eq_true] at h
    obtain ⟨ks, h1, h2⟩ := strs_all t h.2
    cases n with
    | inl i => cases h.1
    | inr x => exact ⟨x :: ks, by rw [List.map_cons, List.map_cons, h1], by unfold keysOf at h2 ⊢; rw [List.map_cons, List.map_cons, h2]; rfl⟩
theorem rising_pw : ∀ (l : List Str) (p : Str), risingS p l = true → (p :: l).Pairwise fun a b => a.cps.toList ≤ b.cps.toList
  | [], p, _ => List.pairwise_singleton _ _
  | x :: r, p, h => by
    rw [risingS, Bool.and_eq_true] at h
    have ih := rising_pw r x h.2
    have h1 : p.cps.toList ≤ x.cps.toList := by
      have := h.1
      rw [ltCps_eq] at this
      exact List.not_lt.mp (by simpa using this)
    refine List.pairwise_cons.mpr ⟨fun y hy => ?_, ih⟩
    rcases List.mem_cons.mp hy with rfl | hy
    · exact h1
    · exact List.le_trans h1 ((List.pairwise_cons.mp ih).1 y hy)
theorem sortedS_pw {l : List Str} (h : sortedS l = true) : l.Pairwise fun a b => a.cps.toList ≤ b.cps.toList := by
  cases l with
  | nil => exact List.Pairwise.nil
  | cons x r => exact rising_pw r x h
theorem str_le {S : Sto} (a b : Str) : PySem.W.dataLe false (keyD S) (.str a) (.str b) = decide (a.cps.toList ≤ b.cps.toList) := by
  have e : ∀ x : Str, keyD S (.str x) = .str x := fun x => by simp [keyD, pd, toPD]
  show (!PySem.W.dataLt (keyD S (.str b)) (keyD S (.str a))) = _
  rw [e, e, PySem.W.dataLt_str, PySem.W.not_lt_str]
theorem sort_strs {S : Sto} {ks ys : List Str} (hp : ys.Perm ks) (hs : sortedS ys = true) : sortD S (ks.map Dat.str) = ys.map Dat.str := by
  unfold sortD
  refine List.Perm.eq_of_pairwise (le := fun a b => PySem.W.dataLe false (keyD S) a b = true) (fun a b ha hb h1 h2 => ?_) (PySem.W.sort_pairwise ?_ _) ?_ ((List.mergeSort_perm _ _).trans (hp.symm.map _))
  · rw [List.mem_mergeSort] at ha
    obtain ⟨x, _, rfl⟩ := List.mem_map.mp ha
    obtain ⟨y, _, rfl⟩ := List.mem_map.mp hb
    rw [str_le, decide_eq_true_eq] at h1 h2
    congr 1
    exact PySem.W.str_of_cps (List.le_antisymm h1 h2)
  · exact PySem.W.sortLe_total _ _ _
  · refine List.pairwise_map.mpr ((sortedS_pw hs).imp fun {a b} h => ?_)
    rw [str_le]; exact decide_eq_true h
theorem ok_sorted (hc : X.calm = true) (hu : X.A.units + 64 < cLine) : CallR X (.builtin "sorted") (rNOf (gOf X) (biD .sorted o)) := by
  intro pins s σ H xs us Q I r ⟨c, S, ds, z, S', sS, rd, f, q⟩
  match ds, rd, f with
  | [x], rd, f =>
    obtain ⟨v, rfl, rv⟩ := rd.one_inv
    obtain ⟨ys, e1, f⟩ := pbind_eq (show (srcS S x).bind _ = some (z, S') from f)
    split at f
    · rename_i hs
      unfold srcS at e1
      split at e1
      · rename_i zs h1
        cases e1
        obtain ⟨a, vs, rfl, sa, ra⟩ := look_list sS rv h1
        obtain ⟨its, rvs, hl, hz⟩ := I.list sa
        rw [Vals.ref1 r]
        obtain ⟨k1, k2, k3, k4⟩ := sortable_of hs
        have ln := ra.length
        refine sorted_any (R := SrtI X c H) (enc := keyD S) hl.isList (srt_in rvs ra) (srt_rd I sS rvs ra k1) k4 k2 (by rw [← ln]; exact hz) (fun d hd => by have := k3 d hd; omega) fun out hlen eo => ?_
        obtain ⟨ws, h2, h3⟩ := srt_out eo
        obtain ⟨l, k⟩ := q.newL sS h3 f
        obtain ⟨ep, he'⟩ := PyProof.Rows.sortedAll_at s.heap its out.toArray
        exact ⟨.ref _, upd H (s.heap.objs.size + 1) (.lst ws), I.laid (t' := s.toks) (fun _ _ => PyProof.Rows.sortedAll_old) (Nat.le_succ _) ⟨l, out, ep, h2, he'⟩, rfl, k _ (I.hok.fresh (Nat.le_succ _))⟩
      · rename_i kvs h1
        split at e1
        · rename_i hk
          rw [Bool.and_eq_true, decide_eq_true_eq] at hk
          cases e1
          obtain ⟨a, rfl, h⟩ := look_dict sS rv h1
          rcases h with ⟨fs, h2, h3⟩ | ⟨fs, h2, h3⟩
          · obtain ⟨ks, e2, e3⟩ := strs_all h3 hk.1
            have hl : ks.length = kvs.length := by
              have := congrArg List.length e3
              unfold keysOf at this
              simpa using this.symm
            refine call_sortedD hc pins s σ H _ us Q I r ⟨a, fs, ks, rfl, h2, e2, by omega, fun ws p hp hsr hf => ?_⟩
            rw [e3, sort_strs hp hsr] at f
            have rr : RpAll (gOf X) c H (ws.map V.str) (ws.map Dat.str) := by
              clear hp hsr f
              induction ws with
              | nil => exact .nil
              | cons w ws ih => exact .cons (.str w) ih
            exact (q.newL sS rr f).2 p hf
          · exfalso
            cases h3 with
            | one _ => simp [keysOf, isStrD] at hk
            | cons _ _ => simp [keysOf, isStrD] at hk
        · cases e1
      · cases e1
    · cases f
  | [], _, f => cases f
  | [_, _], _, f => cases f
  | _ :: _ :: _ :: _, _, f => cases f
end
end PL

set_option Elab.async false
set_option linter.all false
set_option maxRecDepth 100000
set_option autoImplicit false
set_option maxHeartbeats 4000000
namespace PL
open PySem PySem.Spec PyProof.Rows L2

/-! ### dicts that are filled -/
section
variable {g : Gx} {c : Cw} {H : Hp}
theorem RpK.any : ∀ {fs : List (Key × V)} {gs : List (Dat × Dat)} (k : Key), RpK g c H fs gs → (fs.any fun kv => decide (kv.1 = k)) = gs.any fun kv => decide (kv.1 = kD k)
  | _, _, k, .nil => rfl
  | _, _, k, .cons (n := n) r t => by
    rw [List.any_cons, List.any_cons, RpK.any k t]
    congr 1
    exact decide_eq_decide.mpr ⟨fun e => by rw [show n = k from e], fun e => kD_inj e⟩
theorem RpK.repl {v : V} {d : Dat} (h : Rp g c H v d) : ∀ {fs : List (Key × V)} {gs : List (Dat × Dat)} (k : Key), RpK g c H fs gs → RpK g c H (fs.map fun kv => if kv.1 = k then (kv.1, v) else kv) (gs.map fun kv => if kv.1 = kD k then (kv.1, d) else kv)
  | _, _, k, .nil => .nil
  | _, _, k, .cons (n := n) r t => by
    rw [List.map_cons, List.map_cons]
    by_cases e : n = k
    · subst e
      rw [if_pos rfl, if_pos rfl]
      exact .cons h (RpK.repl h _ t)
    · rw [if_neg e, if_neg fun q => e (kD_inj q)]
      exact .cons r (RpK.repl h _ t)
theorem RpK.snoc {v : V} {d : Dat} (h : Rp g c H v d) : ∀ {fs : List (Key × V)} {gs : List (Dat × Dat)} (k : Key), RpK g c H fs gs → RpK g c H (fs ++ [(k, v)]) (gs ++ [(kD k, d)])
  | _, _, k, .nil => .cons h .nil
  | _, _, k, .cons r t => .cons r (RpK.snoc h k t)
theorem RpK.put {v : V} {d : Dat} (h : Rp g c H v d) {fs : List (Key × V)} {gs : List (Dat × Dat)} (k : Key) (r : RpK g c H fs gs) : RpK g c H (putK fs k v) (dput gs (kD k) d) := by
  unfold putK dput
  rw [r.any k]
  split
  · exact r.repl h k
  · exact r.snoc h k
theorem RpT.any : ∀ {fs : List (List Key × V)} {gs : List (Dat × Dat)} (k : List Key), RpT g c H fs gs → (fs.any fun kv => decide (kv.1 = k)) = gs.any fun kv => decide (kv.1 = .tuple (k.map kD))
  | _, _, k, .one (n := n) r => by
    rw [List.any_cons, List.any_cons]
    congr 1
    exact decide_eq_decide.mpr ⟨fun e => by rw [show n = k from e], fun e => kDs_inj (by injection e)⟩
  | _, _, k, .cons (n := n) r t => by
    rw [List.any_cons, List.any_cons, RpT.any k t]
    congr 1
    exact decide_eq_decide.mpr ⟨fun e => by rw [show n = k from e], fun e => kDs_inj (by injection e)⟩
theorem RpT.repl {v : V} {d : Dat} (h : Rp g c H v d) : ∀ {fs : List (List Key × V)} {gs : List (Dat × Dat)} (k : List Key), RpT g c H fs gs → RpT g c H (fs.map fun kv => if kv.1 = k then (kv.1, v) else kv) (gs.map fun kv => if kv.1 = .tuple (k.map kD) then (kv.1, d) else kv)
  | _, _, k, .one (n := n) r => by
    simp only [List.map_cons, List.map_nil]
    by_cases e : n = k
    · subst e
      rw [if_pos rfl, if_pos rfl]
      exact .one h
    · rw [if_neg e, if_neg fun q => e (kDs_inj (by injection q))]
      exact .one r
  | _, _, k, .cons (n := n) r t => by
    rw [List.map_cons, List.map_cons]
    by_cases e : n = k
    · subst e
      rw [if_pos rfl, if_pos rfl]
      exact .cons h (RpT.repl h _ t)
    · rw [if_neg e, if_neg fun q => e (kDs_inj (by injection q))]
      exact .cons r (RpT.repl h _ t)
theorem RpT.snoc {v : V} {d : Dat} (h : Rp g c H v d) : ∀ {fs : List (List Key × V)} {gs : List (Dat × Dat)} (k : List Key), RpT g c H fs gs → RpT g c H (fs ++ [(k, v)]) (gs ++ [(.tuple (k.map kD), d)])
  | _, _, k, .one r => .cons r (.one h)
  | _, _, k, .cons r t => .cons r (RpT.snoc h k t)
theorem RpT.put {v : V} {d : Dat} (h : Rp g c H v d) {fs : List (List Key × V)} {gs : List (Dat × Dat)} (k : List Key) (r : RpT g c H fs gs) : RpT g c H (putK fs k v) (dput gs (.tuple (k.map kD)) d) := by
  unfold putK dput
  rw [r.any k]
  split
  · exact r.repl h k
  · exact r.snoc h k
end
section
variable {g : Gx} {c : Cw} {H : Hp} {Q : VK} {S S' : Sto} {d : Dat}
theorem Fin.newDK {o : Bool} {gs : List (Dat × Dat)} {fs : List (Key × V)} (s : StoOk g c S H) (r : RpK g c H fs gs) (e : PL.newD o gs S = some (d, S')) (f : Fin g c H Q d S') : ∀ p, H p = none → Q (.ref p) (upd H p (.dK fs)) := by
  unfold PL.newD at e
  split at e
  · intro p hp
    cases o with
    | true =>
      rw [if_pos rfl] at e
      cases e
      exact f (c.add p) _ _ (.add hp) (s.add hp (.inl ⟨fs, upd_same, r.gr (.add hp)⟩)) (.own (as_last s))
    | false =>
      rw [if_neg (by decide)] at e
      cases e
      exact f c _ _ (.of_same (same_new hp)) (s.same (same_new hp)) (.dK (.inl ⟨upd_same, s.not hp⟩) (r.gr (.of_same (same_new hp))))
  · cases e
theorem Fin.newDT {o : Bool} {gs : List (Dat × Dat)} {fs : List (List Key × V)} (s : StoOk g c S H) (r : RpT g c H fs gs) (e : PL.newD o gs S = some (d, S')) (f : Fin g c H Q d S') : ∀ p, H p = none → Q (.ref p) (upd H p (.dT fs)) := by
  unfold PL.newD at e
  split at e
  · intro p hp
    cases o with
    | true =>
      rw [if_pos rfl] at e
      cases e
      exact f (c.add p) _ _ (.add hp) (s.add hp (.inr ⟨fs, upd_same, r.gr (.add hp)⟩)) (.own (as_last s))
    | false =>
      rw [if_neg (by decide)] at e
      cases e
      exact f c _ _ (.of_same (same_new hp)) (s.same (same_new hp)) (.dT (.inl ⟨upd_same, s.not hp⟩) (r.gr (.of_same (same_new hp))))
  · cases e
end
/-! ### dict(pairs) -/
theorem putK_ne {κ : Type} [DecidableEq κ] (kvs : List (κ × V)) (k : κ) (v : V) : putK kvs k v ≠ [] := by
  unfold putK
  split
  · rename_i h
    intro e
    have : kvs = [] := List.map_eq_nil_iff.mp e
    rw [this] at h; cases h
  · simp
/-- the pairs in a list -/
inductive PrsT (X : Cx) (c : Cw) (H : Hp) : List V → List (Dat × Dat) → List Addr → List (List Key × Addr × V) → Prop
  | nil : PrsT X c H [] [] [] []
  | cons {p b : Addr} {k : List Key} {v : V} {d : Dat} {vs : List V} {gs : List (Dat × Dat)} {ps : List Addr} {ts : List (List Key × Addr × V)} : H p = some (.tup [.ref b, v]) → H b = some (.tup (k.map kV)) → Rp (gOf X) c H v d → PrsT X c H vs gs ps ts →
    PrsT X c H (.ref p :: vs) ((.tuple (k.map kD), d) :: gs) (p :: ps) ((k, b, v) :: ts)
inductive PrsK (X : Cx) (c : Cw) (H : Hp) : List V → List (Dat × Dat) → List Addr → List (Key × V) → Prop
  | nil : PrsK X c H [] [] [] []
  | cons {p : Addr} {k : Key} {v : V} {d : Dat} {vs : List V} {gs : List (Dat × Dat)} {ps : List Addr} {ts : List (Key × V)} : H p = some (.tup [kV k, v]) → Rp (gOf X) c H v d → PrsK X c H vs gs ps ts →
    PrsK X c H (.ref p :: vs) ((kD k, d) :: gs) (p :: ps) ((k, v) :: ts)
section
variable {X : Cx} {c : Cw} {H : Hp}
theorem pairsD_cons {d : Dat} {ds : List Dat} {gs : List (Dat × Dat)} (h : pairsD (d :: ds) = some gs) : ∃ k v ps, d = .tuple [k, v] ∧ keyOk k = true ∧ pairsD ds = some ps ∧ gs = (k, v) :: ps := by
  unfold pairsD at h
  split at h
  · rename_i h1; cases h1
  · rename_i k v r h1
    cases h1
    split at h
    · rename_i hk
      obtain ⟨ps, e, rfl⟩ := pmap_eq h
      exact ⟨k, v, ps, rfl, hk, e, rfl⟩
    · cases h
  · cases h
theorem prsT_of : ∀ {vs : List V} {ds : List Dat} {gs : List (Dat × Dat)}, RpAll (gOf X) c H vs ds → pairsD ds = some gs → (∀ p ∈ gs, isTupD p.1 = true) → ∃ ps ts, PrsT X c H vs gs ps ts
  | _, _, gs, .nil, e, _ => by cases e; exact ⟨[], [], .nil⟩
  | _, d :: ds, gs, .cons r t, e, h => by
    obtain ⟨k, v, gs', rfl, hk, e2, rfl⟩ := pairsD_cons e
    obtain ⟨ps, ts, ih⟩ := prsT_of t e2 fun p hp => h p (List.mem_cons_of_mem _ hp)
    obtain ⟨a, xs, rfl, ha, ra⟩ := r.tup_inv
    obtain ⟨x, y, rfl, rx, ry⟩ := ra.two_inv
    have hT := h (k, v) List.mem_cons_self
    rcases keyOk_cases hk with ⟨j, rfl⟩ | ⟨ks, rfl⟩
    · rw [isTup_kD] at hT; cases hT
    · obtain ⟨b, zs, rfl, hb, rb⟩ := rx.tup_inv
      rw [RpAll.keys rb] at hb
      exact ⟨_, _, .cons ha hb ry ih⟩
theorem prsK_of : ∀ {vs : List V} {ds : List Dat} {gs : List (Dat × Dat)}, RpAll (gOf X) c H vs ds → pairsD ds = some gs → (∀ p ∈ gs, isTupD p.1 = false) → ∃ ps ts, PrsK X c H vs gs ps ts
  | _, _, gs, .nil, e, _ => by cases e; exact ⟨[], [], .nil⟩
  | _, d :: ds, gs, .cons r t, e, h => by
    obtain ⟨k, v, gs', rfl, hk, e2, rfl⟩ := pairsD_cons e
    obtain ⟨ps, ts, ih⟩ := prsK_of t e2 fun p hp => h p (List.mem_cons_of_mem _ hp)
    obtain ⟨a, xs, rfl, ha, ra⟩ := r.tup_inv
    obtain ⟨x, y, rfl, rx, ry⟩ := ra.two_inv
    have hT := h (k, v) List.mem_cons_self
    rcases keyOk_cases hk with ⟨j, rfl⟩ | ⟨ks, rfl⟩
    · have : x = kV j := by cases j <;> cases rx <;> rfl
      subst this
      exact ⟨_, _, .cons ha ry ih⟩
    · cases hT
theorem PrsK.refs : ∀ {vs : List V} {gs : List (Dat × Dat)} {ps : List Addr} {ts : List (Key × V)}, PrsK X c H vs gs ps ts → vs = ps.map V.ref ∧ Paired (fun p kv => SqT X.K H p [kV kv.1, kv.2]) ps ts
  | _, _, _, _, .nil => ⟨rfl, .nil⟩
  | _, _, _, _, .cons h _ t => by
    obtain ⟨e1, e2⟩ := t.refs
    exact ⟨by rw [List.map_cons, e1], .cons (.of h) e2⟩
theorem PrsK.merge : ∀ {vs : List V} {gs : List (Dat × Dat)} {ps : List Addr} {ts : List (Key × V)} {fs : List (Key × V)} {hs : List (Dat × Dat)}, PrsK X c H vs gs ps ts → RpK (gOf X) c H fs hs → RpK (gOf X) c H (mergeK fs ts) (dputs hs gs)
  | _, _, _, _, _, _, .nil, r => r
  | _, _, _, _, _, _, .cons _ h t, r => t.merge (r.put h _)
def mergeT (kvs : List (List Key × V)) (more : List (List Key × Addr × V)) : List (List Key × V) := more.foldl (fun acc kv => putK acc kv.1 kv.2.2) kvs
theorem PrsT.mergeAll : ∀ {vs : List V} {gs : List (Dat × Dat)} {ps : List Addr} {ts : List (List Key × Addr × V)} {fs : List (List Key × V)} {hs : List (Dat × Dat)}, PrsT X c H vs gs ps ts → RpT (gOf X) c H fs hs → RpT (gOf X) c H (mergeT fs ts) (dputs hs gs)
  | _, _, _, _, _, _, .nil, r => r
  | _, _, _, _, _, _, .cons _ _ h t, r => t.mergeAll (r.put h _)
theorem PrsT.merge {vs : List V} {gs : List (Dat × Dat)} {ps : List Addr} {ts : List (List Key × Addr × V)} (h : PrsT X c H vs gs ps ts) (hn : gs ≠ []) : RpT (gOf X) c H (mergeT [] ts) (dputs [] gs) := by
  cases h with
  | nil => exact absurd rfl hn
  | cons _ _ h t => exact t.mergeAll (fs := [(_, _)]) (hs := [(_, _)]) (.one h)
theorem length_mergeT : ∀ (more : List (List Key × Addr × V)) (kvs : List (List Key × V)), (mergeT kvs more).length ≤ kvs.length + more.length
  | [], kvs => by show kvs.length ≤ kvs.length + 0; omega
  | p :: r, kvs => by
    have h1 := length_mergeT r (putK kvs p.1 p.2.2)
    have h2 := length_putK kvs p.1 p.2.2
    show (mergeT (putK kvs p.1 p.2.2) r).length ≤ _
    rw [List.length_cons]; omega
end
/-- the values behind the pairs -/
inductive TV (h : Heap) : List Addr → List (List Key × Addr × V) → List (List Key × Addr × Value) → List (Value × Value) → Prop
  | nil : TV h [] [] [] []
  | cons {p b : Addr} {k : List Key} {v : V} {u : Value} {ps : List Addr} {ts : List (List Key × Addr × V)} {xs : List (List Key × Addr × Value)} {zs : List (Value × Value)} : IsTup h p #[.ref b, u] → RelV v u → TV h ps ts xs zs → TV h (p :: ps) ((k, b, v) :: ts) ((k, b, u) :: xs) ((.ref b, u) :: zs)
section
variable {X : Cx} {pins : List (Addr × Obj)} {σ : L2.St} {H : Hp} {s : Shared} {c : Cw} {h : Heap}
theorem tv_of (I : Inv X pins σ H s) : ∀ {vs : List V} {gs : List (Dat × Dat)} {ps : List Addr} {ts : List (List Key × Addr × V)}, PrsT X c H vs gs ps ts → ∃ xs zs, TV s.heap ps ts xs zs
  | _, _, _, _, .nil => ⟨[], [], .nil⟩
  | _, _, _, _, .cons h1 h2 _ t => by
    obtain ⟨xs, zs, ih⟩ := tv_of I t
    obtain ⟨its, rv, ht, _⟩ := I.tuple (SqT.of (K := X.K) h1)
    obtain ⟨u, y, ei, ru, ry⟩ := vals2 rv
    subst ei
    cases ru
    exact ⟨_, _, .cons ht ry ih⟩
theorem TV.len : ∀ {ps : List Addr} {ts : List (List Key × Addr × V)} {xs : List (List Key × Addr × Value)} {zs : List (Value × Value)}, TV h ps ts xs zs → zs.length = ps.length ∧ xs.length = ps.length ∧ ts.length = ps.length
  | _, _, _, _, .nil => ⟨rfl, rfl, rfl⟩
  | _, _, _, _, .cons _ _ t => by obtain ⟨a, b, d⟩ := t.len; simp [a, b, d]
theorem TV.at : ∀ {ps : List Addr} {ts : List (List Key × Addr × V)} {xs : List (List Key × Addr × Value)} {zs : List (Value × Value)} {j : Nat} {k v : Value}, TV h ps ts xs zs → zs[j]? = some (k, v) → ∃ p b kk, ps[j]? = some p ∧ IsTup h p #[k, v] ∧ xs[j]? = some (kk, b, v) ∧ k = .ref b
  | _, _, _, _, _, _, _, .nil, e => by simp at e
  | _, _, _, _, 0, _, _, .cons h1 _ _, e => by simp at e; obtain ⟨rfl, rfl⟩ := e; exact ⟨_, _, _, rfl, h1, rfl, rfl⟩
  | _, _, _, _, j + 1, _, _, .cons _ _ t, e => by
    obtain ⟨p, b, kk, h1, h2, h3, h4⟩ := t.at (j := j) (by simpa using e)
    exact ⟨p, b, kk, by simpa using h1, h2, by simpa using h3, h4⟩
theorem TV.kt : ∀ {vs : List V} {gs : List (Dat × Dat)} {ps : List Addr} {ts : List (List Key × Addr × V)} {xs : List (List Key × Addr × Value)} {zs : List (Value × Value)} {fs : List (List Key × V)} {ys : List (List Key × Addr × Value)}, PrsT X c H vs gs ps ts → TV h ps ts xs zs → KT H fs ys → KT H (mergeT fs ts) (storedAllH ys xs)
  | _, _, _, _, _, _, _, _, .nil, .nil, r => r
  | _, _, _, _, _, _, fs, ys, .cons (ts := ts) (k := k) (b := b) (v := v) _ h2 _ t, .cons (xs := xs) (u := u) _ rv t', r => by
    show KT H (mergeT (putK fs k v) ts) (storedAllH (storedH ys k b u) xs)
    exact TV.kt t t' (r.put _ h2 rv)
theorem PrsT.keys (I : Inv X pins σ H s) : ∀ {vs : List V} {gs : List (Dat × Dat)} {ps : List Addr} {ts : List (List Key × Addr × V)} {xs : List (List Key × Addr × Value)} {zs : List (Value × Value)}, PrsT X c H vs gs ps ts → TV h ps ts xs zs → ∀ x ∈ xs, H x.2.1 = some (.tup (x.1.map kV))
  | _, _, _, _, _, _, .nil, .nil, x, hx => nomatch hx
  | _, _, _, _, _, _, .cons _ h2 _ t, .cons _ _ t', x, hx => by
    rcases List.mem_cons.mp hx with rfl | hx
    · exact h2
    · exact PrsT.keys I t t' x hx
theorem PrsT.refs : ∀ {vs : List V} {gs : List (Dat × Dat)} {ps : List Addr} {ts : List (List Key × Addr × V)}, PrsT X c H vs gs ps ts → vs = ps.map V.ref
  | _, _, _, _, .nil => rfl
  | _, _, _, _, .cons _ _ _ t => by rw [List.map_cons, ← t.refs]
end
section
variable {X : Cx} {o : Bool}
theorem call_dictT (hcalm : X.calm = true) (hu : X.A.units + 64 < cLine) : CallR X (.type "dict") (fun xs H Q => ∃ (a : Addr) (c : Cw) (vs : List V) (gs : List (Dat × Dat)) (ps : List Addr) (ts : List (List Key × Addr × V)), xs = [.ref a] ∧ SqL X.K H a vs ∧ PrsT X c H vs gs ps ts ∧
    ∀ p, H p = none → Q (.ref p) (upd H p (.dT (mergeT [] ts)))) := by
  intro pins s σ H xs us Q I r q
  obtain ⟨a, c, vs, gs, ps, ts, rfl, hq, hp, q⟩ := q
  obtain ⟨u, rfl, rx⟩ := vals1 r
  cases rx
  obtain ⟨its, rv, pl, hz⟩ := I.list hq
  rw [hp.refs] at rv hz
  have ei := refs_at rv
  subst ei
  rw [List.length_map] at hz
  obtain ⟨xs, zs, tv⟩ := tv_of I hp
  obtain ⟨l1, l2, l3⟩ := tv.len
  obtain ⟨ob, n, ho, hc, hd, hdat⟩ := pl
  have P := PairArg.list (prog := X.prog) (w := X.w) a ((ps.map Value.ref).toArray) (fun j => ps.getD j 0) zs
  refine call_dict_pairsH (knd := tupleKind (mixKind X.prog X.w)) (ps := xs) P (I.ok.hd hcalm) (show X.A.units + 1 + 1 < cLine by omega) ⟨⟨ob, n, ho, hc, hd, hdat⟩, ?_⟩ ⟨by omega, ?_⟩ ?_ (by omega) fun h' tk hd' k => ?_
  · refine ⟨by simp [l1], fun j k v e => ?_⟩
    obtain ⟨p, b, kk, e1, e2, _, _⟩ := tv.at e
    refine ⟨?_, .inl ?_⟩
    · simp [List.getD_eq_getElem?_getD, e1]
    · simp only [List.getD_eq_getElem?_getD, e1, Option.getD_some]
      exact e2
  · intro i key v e
    obtain ⟨p, b, kk, e1, e2, e3, e4⟩ := tv.at e
    exact ⟨kk, b, e3, e4⟩
  · intro h' hk x hx
    have hx' := hp.keys I tv x hx
    obtain ⟨_, its, r, o', h1, h2, n', h3⟩ := (show ObjOk X.prog X.w H s.heap x.2.1 (.tup (x.1.map kV)) from I.hok _ _ hx')
    exact ⟨o', its.toArray, n', hk _ _ (Nat.ne_of_lt (Heap.lt_size h1)) List.not_mem_nil h1, h2, h3, by simpa using items_are r⟩
  · have hm : (s.heap.objs.size == sysModules) = false := beq_eq_false_iff_ne.mpr (Nat.ne_of_gt I.big)
    have hlen : (mergeT [] ts).length ≤ sizeLine := by
      refine Nat.le_trans (length_mergeT ts []) ?_
      rw [List.length_nil, Nat.zero_add, l3]; exact hz
    have fr : H s.heap.objs.size = none := I.hok.fresh (Nat.le_refl _)
    obtain ⟨q', es, ep, hq', g2, g3, g4, _, g5⟩ := hd'
    have kt : KT (upd H s.heap.objs.size (.dT (mergeT [] ts))) (mergeT [] ts) (storedAllH [] xs) := (TV.kt hp tv .nil).keeps fun b ys e => by rw [upd_ne (ne_of_none e fr)]; exact e
    exact ⟨.ref s.heap.objs.size, upd H s.heap.objs.size (.dT (mergeT [] ts)), I.laid (t' := tk) (fun b o e => k b o List.not_mem_nil e) (Nat.le_refl _) (show ObjOk X.prog X.w _ _ _ (.dT (mergeT [] ts)) from ⟨hlen, hm, storedAllH [] xs, kt, q', es, ep, hq', g2, g3, g4, g5⟩), rfl, q _ fr⟩
theorem ok_dict (hcalm : X.calm = true) (hu : X.A.units + 64 < cLine) : CallR X (.type "dict") (rNOf (gOf X) (biD .dict o)) := by
  intro pins s σ H xs us Q I r ⟨c, S, ds, z, S', sS, rd, f, q⟩
  match ds, rd, f with
  | [x], rd, f =>
    obtain ⟨v, rfl, rv⟩ := rd.one_inv
    obtain ⟨ys, e1, f⟩ := pbind_eq (show (lstOf S x).bind _ = some (z, S') from f)
    obtain ⟨gs, e2, f⟩ := pbind_eq f
    split at f
    · rename_i hk
      obtain ⟨a, vs, rfl, sa, ra⟩ := look_list sS rv (lstOf_eq e1)
      by_cases tp : ∃ k w r, gs = (k, w) :: r ∧ isTupD k = true
      · obtain ⟨k, w, r', rfl, hT⟩ := tp
        have all : ∀ p ∈ (k, w) :: r', isTupD p.1 = true := fun p hp => by
          rcases List.mem_cons.mp hp with rfl | hp
          · exact hT
          · have := List.all_eq_true.mp hk p hp
            rw [beq_iff_eq] at this
            rw [this]; exact hT
        obtain ⟨ps, ts, hp⟩ := prsT_of ra e2 all
        exact call_dictT hcalm hu pins s σ H _ us Q I r ⟨a, c, vs, _, ps, ts, rfl, sa, hp, q.newDT sS (hp.merge (by simp)) f⟩
      · have all : ∀ p ∈ gs, isTupD p.1 = false := fun p hp => by
          cases gs with
          | nil => cases hp
          | cons p0 r' =>
            obtain ⟨k, w⟩ := p0
            have hF : isTupD k = false := by
              cases h : isTupD k with
              | false => rfl
              | true => exact absurd ⟨k, w, r', rfl, h⟩ tp
            rcases List.mem_cons.mp hp with rfl | hp
            · exact hF
            · have := List.all_eq_true.mp hk p hp
              rw [beq_iff_eq] at this
              rw [this]; exact hF
        obtain ⟨ps, ts, hp⟩ := prsK_of ra e2 all
        obtain ⟨rfl, pp⟩ := hp.refs
        exact call_dictP hcalm pins s σ H _ us Q I r ⟨a, ps, ts, rfl, sa, pp, q.newDK sS (hp.merge .nil) f⟩
    · cases f
  | [], _, f => cases f
  | [_, _], _, f => cases f
  | _ :: _ :: _ :: _, _, f => cases f
theorem ok_bi (hcalm : X.calm = true) (hu : X.A.units + 64 < cLine) (hg : X.A.guards = some []) : ∀ b : Bi, CallR X (biV b) (rNOf (gOf X) (biD b o))
  | .len => ok_len
  | .abs => ok_abs
  | .max2 => ok_max2 hcalm
  | .min2 => ok_min2 hcalm
  | .maxL => ok_maxL hcalm
  | .minL => ok_minL hcalm
  | .sum => ok_sum hcalm
  | .int => ok_int
  | .str => ok_str
  | .bool => ok_bool
  | .all => ok_all hcalm
  | .any => ok_any hcalm
  | .sorted => ok_sorted hcalm hu
  | .tuple => ok_tuple
  | .list => ok_list
  | .dict => ok_dict hcalm hu
  | .repr => ok_repr hg hu
end
end PL

set_option Elab.async false
set_option linter.all false
set_option maxRecDepth 100000
set_option autoImplicit false
set_option maxHeartbeats 4000000
namespace PL
open PySem PySem.Spec PyProof.Rows L2

/-! ### attributes of instances -/
theorem lookup_mem {α : Type} : ∀ {fs : List (Str × α)} {f : Str} {v : α}, fs.lookup f = some v → (f, v) ∈ fs
  | [], _, _, h => by simp at h
  | (n, w) :: r, f, v, h => by
    rw [List.lookup_cons] at h
    by_cases e : f = n
    · subst e
      rw [beq_self_eq_true] at h
      cases h
      exact List.mem_cons_self
    · rw [beq_false_of_ne e] at h
      exact List.mem_cons_of_mem _ (lookup_mem h)
section
variable {X : Cx} {W : WX} {a b e c : Expr} {es : List Expr} {ma mb me : ME} {mA : MA} {f : Str} {p pos pos' apos : Pos}
theorem se_fld (he : SE X W e me) (hb : attributeBase e f X.env (eval e X.env) = eval e X.env) : SE X W (.Attribute e f pos) (m1 (fun S x => fldD S x f) me) :=
  PE_of (pe_fld he hb) fun σ H Q h => re_1 (r := fun x H1 Q => ∃ a C dx fs v, x = .ref a ∧ H1 a = some (.ins C dx fs) ∧ Cls X.K C ∧ NoAttr X.K C f ∧ fs.lookup f = some v ∧ Q v H1)
    (fun x H Q ⟨c, S, d, z, S', sS, rd, f1, q⟩ => by
      unfold fldD at f1
      dsimp only at f1
      split at f1
      · rename_i C gs h1
        obtain ⟨w, e1, e2⟩ := pbind_eq f1
        cases e2
        obtain ⟨a, A, dx, fs, rfl, ha, ik, rf⟩ := look_ins sS rd h1
        obtain ⟨v, ev, rv⟩ := rf.look e1
        exact ⟨a, A, dx, fs, v, rfl, ha, ik.2.1.cl, ik.2.2 _ (lookup_mem ev), ev, q.val sS rv⟩
      · cases f1) h
end
/-! ### the classes of the module -/
def tyNames : List String := ["NoneType", "bool", "int", "str", "list", "tuple", "dict"]
structure CtOk (g : Gx) (ct : CT) : Prop where
  na : ∀ C f A, hasF ct C f = true → g.mg C = some (.ref A) → NoAttr g.K A f
  ob : ∀ C A n, hasC ct C = true → g.mg C = some (.ref A) → n ∈ tyNames → PySem.W.kitOne g.K (.ref A) (.type n) = some false
  bo : ∀ D B n, hasC ct D = true → g.mg D = some (.ref B) → n ∈ tyNames → PySem.W.kitOne g.K (.type n) (.ref B) = some false
  oo : ∀ C D A B, hasC ct C = true → hasC ct D = true → g.mg C = some (.ref A) → g.mg D = some (.ref B) → PySem.W.kitOne g.K (.ref A) (.ref B) = some (decide (C = D))
/-- a type as a value -/
def TyV (g : Gx) (ct : CT) : Ty → Value → Prop
  | .int, u => u = .type "int"
  | .bool, u => u = .type "bool"
  | .str, u => u = .type "str"
  | .tuple, u => u = .type "tuple"
  | .list, u => u = .type "list"
  | .dict, u => u = .type "dict"
  | .cls D, u => hasC ct D = true ∧ ∃ B, g.mg D = some (.ref B) ∧ u = .ref B
theorem kitb {K : PySem.W.Frag} : ∀ a ∈ tyNames, ∀ b ∈ tyNames, PySem.W.kitOne K (.type a) (.type b) = some (decide (a = b) || (decide (a = "bool") && decide (b = "int"))) := by
  have h : ∀ a ∈ tyNames, ∀ b ∈ tyNames, kitB a b = some (decide (a = b) || (decide (a = "bool") && decide (b = "int"))) := by decide +kernel
  exact fun a ha b hb => kit_ty (h a ha b hb)
section
variable {g : Gx} {c : Cw} {S : Sto} {H : Hp} {v : V} {d : Dat}
/-- the name of a datum's type -/
def tyName : Dat → Option String
  | .none => some "NoneType"
  | .bool _ => some "bool"
  | .int _ => some "int"
  | .str _ => some "str"
  | .list _ => some "list"
  | .tuple _ => some "tuple"
  | .kd _ => some "dict"
  | _ => none
theorem tyName_mem {d : Dat} {n : String} (h : tyName d = some n) : n ∈ tyNames := by
  cases d <;> simp [tyName] at h <;> subst h <;> decide
theorem ty_of (s : StoOk g c S H) (r : Rp g c H v d) {n : String} (e : tyName (look S d) = some n) : TyX g.K H v (.type n) := by
  cases q : look S d with
  | none =>
    rw [q] at e; cases e
    have : d = .none := by
      cases d <;> first | rfl | (cases q; done) | (unfold look at q; dsimp only at q; split at q <;> cases q)
    subst this; cases r; exact .base .non
  | bool b => rw [q] at e; cases e; rw [look_bool r q]; exact .base (.bl b)
  | int b => rw [q] at e; cases e; rw [look_int r q]; exact .base (.int b)
  | str b => rw [q] at e; cases e; rw [look_str r q]; exact .base (.str b)
  | list xs =>
    rw [q] at e; cases e
    obtain ⟨a, vs, rfl, h, _⟩ := look_list s r q
    rcases h with (h | ⟨o, h⟩) | ⟨o, its, n, h1, h2, _⟩
    · exact .base (.lst h)
    · exact .base (.frz h)
    · exact .kList h1 h2
  | tuple xs =>
    rw [q] at e; cases e
    obtain ⟨a, vs, rfl, h, _⟩ := look_tup r q
    rcases h with (h | ⟨o, h⟩) | ⟨o, its, n, h1, h2, _⟩
    · exact .base (.tup h)
    · exact .fTuple h
    · exact .kTuple h1 h2
  | kd xs =>
    rw [q] at e; cases e
    obtain ⟨a, rfl, es, n, D, _⟩ := look_kd r q
    exact .kDict D.at_ rfl
  | _ => rw [q] at e; cases e
theorem isTy_ok {ct : CT} (ok : CtOk g ct) (s : StoOk g c S H) (r : Rp g c H v d) {t : Ty} {b : Bool} {u : Value} (e : isTy ct S d t = some b) (hu : TyV g ct t u) : ∃ tv, TyX g.K H v tv ∧ PySem.W.kitOne g.K tv u = some b := by
  cases q : look S d with
  | ins C fs =>
    obtain ⟨a, A, dx, gs, rfl, ha, ik, _⟩ := look_ins s r q
    refine ⟨.ref A, .base (.ins ha ik.2.1.cl ik.2.1.ha ik.2.1.hn ik.2.1.htk ik.2.1.hm), ?_⟩
    unfold isTy at e
    rw [q] at e
    cases t with
    | cls D =>
      obtain ⟨hD, B, hB, rfl⟩ := hu
      dsimp only at e
      split at e
      · rename_i hC
        cases e
        exact ok.oo C D A B hC hD ik.1 hB
      · cases e
    | _ =>
      dsimp only at e
      split at e
      · rename_i hC
        cases e
        cases hu
        exact ok.ob C A _ hC ik.1 (by decide)
      · cases e
  | dict kvs => unfold isTy at e; rw [q] at e; cases e
  | own k => unfold isTy at e; rw [q] at e; cases e
  | kt xs =>
    exfalso
    cases d <;> first | (cases q; done) | (unfold look at q; dsimp only at q; split at q <;> cases q)
  | _ =>
    obtain ⟨n, hn⟩ : ∃ n, tyName (look S d) = some n := by rw [q]; exact ⟨_, rfl⟩
    refine ⟨_, ty_of s r hn, ?_⟩
    have mem := tyName_mem hn
    rw [q] at hn
    cases hn
    unfold isTy at e
    rw [q] at e
    cases t with
    | cls D =>
      obtain ⟨hD, B, hB, rfl⟩ := hu
      cases e
      exact ok.bo D B _ hD hB mem
    | _ =>
      cases hu
      cases e
      exact kitb _ mem _ (by decide)
end
section
variable {X : Cx} {W : WX} {a b e c : Expr} {es : List Expr} {ma mb me : ME} {mA : MA} {f : Str} {p pos pos' apos : Pos}
/-- isinstance(a, c), one class -/
theorem se_isi {ct : CT} {t : Ty} {cv : V} {u : Value} (ok : CtOk (gOf X) ct) (hg : Gl X "isinstance") (hm : X.mg "isinstance" = none) (ha : SE X W a ma) (hc : PE X c (tC cv)) (hcv : ClsV cv u) (hu : TyV (gOf X) ct t u)
    (hs1 : starEach [a, c] X.env = (false, eval a X.env) :: starEach [c] X.env) (hs2 : starEach [c] X.env = (false, eval c X.env) :: starEach [] X.env) (hpl : (backTo pos (starEach [c] X.env)).any (·.1) = false) :
    SE X W (.Call (.Name "isinstance" p) [a, c] [] pos) (mIsi ct ma [t]) :=
  PE_of (pe_callB (id := "isinstance") call_isi hg hm PyProof.Rows.boot_isinstance (pa_cons ha (pa_cons hc pa_nil hs2) hs1) (by decide) (by decide) hs1 hpl) fun σ H Q ⟨c, ρ, S, hE, hS, h⟩ => by
    refine ⟨c, ρ, S, hE, hS, (Po.bnd h).mono fun c1 S1 x H1 g1 s1 h1 v rv => ?_⟩
    obtain ⟨z, e1, q⟩ := Po.ofB (W := W) h1
    obtain ⟨bs, e2, rfl⟩ := pmap_eq e1
    have e3 : ∃ b, isTy ct S1 x t = some b ∧ bs = [b] := by
      cases k : isTy ct S1 x t with
      | none => simp [List.mapM_cons, k] at e2
      | some b => simp [List.mapM_cons, k] at e2; exact ⟨b, rfl, e2.symm⟩
    obtain ⟨b, e4, rfl⟩ := e3
    obtain ⟨tv, k1, k2⟩ := isTy_ok ok s1 rv e4 hu
    exact ⟨v, cv, tv, u, b, rfl, hcv, k1, k2, by simpa using q c1 H1 .refl s1 (.bl b) (by simpa using Rp.bl b)⟩
end
end PL

set_option Elab.async false
set_option linter.all false
set_option maxRecDepth 100000
set_option autoImplicit false
set_option maxHeartbeats 4000000
namespace PL
open PySem PySem.Spec PyProof.Rows L2

/-! ### stores -/
theorem RpF.put {g : Gx} {c : Cw} {H : Hp} {f : Str} {v : V} {d : Dat} (h : Rp g c H v d) : ∀ {fs : List (Str × V)} {gs : List (Str × Dat)}, RpF g c H fs gs → RpF g c H (putF f v fs) (putFd f d gs)
  | _, _, .nil => .cons h .nil
  | _, _, .cons (n := n) r t => by
    rw [putF, putFd]
    by_cases e : n = f
    · rw [if_pos e, if_pos e]; exact .cons h t
    · rw [if_neg e, if_neg e]; exact .cons r (RpF.put h t)
theorem putF_keys {f : Str} {v : V} : ∀ {fs : List (Str × V)} {P : Str → Prop}, P f → (∀ p ∈ fs, P p.1) → ∀ p ∈ putF f v fs, P p.1
  | [], P, hf, _, p, hp => by rw [putF] at hp; rw [List.mem_singleton.mp hp]; exact hf
  | (n, x) :: r, P, hf, h, p, hp => by
    rw [putF] at hp
    by_cases e : n = f
    · rw [if_pos e] at hp
      rcases List.mem_cons.mp hp with rfl | hp
      · rw [show n = f from e]; exact hf
      · exact h p (List.mem_cons_of_mem _ hp)
    · rw [if_neg e] at hp
      rcases List.mem_cons.mp hp with rfl | hp
      · exact h _ List.mem_cons_self
      · exact putF_keys hf (fun p hp => h p (List.mem_cons_of_mem _ hp)) p hp
section
variable {g : Gx} {c : Cw} {S S' : Sto} {H : Hp}
/-- an attribute is stored -/
theorem setFld_ok {ct : CT} (ok : CtOk g ct) (s : StoOk g c S H) {x v : V} {d e : Dat} {f : Str} (rx : Rp g c H x d) (rv : Rp g c H v e) (h : setFldD ct S d f e = some S') :
    ∃ a A dx fs, x = .ref a ∧ H a = some (.ins A dx fs) ∧ Cls g.K A ∧ NoAttr g.K A f ∧ fs.length < 1000 ∧ Gr c H c (upd H a (.ins A dx (putF f v fs))) ∧ StoOk g c S' (upd H a (.ins A dx (putF f v fs))) := by
  unfold setFldD at h
  split at h
  · rename_i k
    split at h
    · rename_i C gs q
      split at h
      · rename_i l
        cases h
        obtain ⟨a, rfl, ha, A, dx, fs, h1, h2, h3⟩ := rx.cell s q
        have na := ok.na C f A l.2 h2.1
        have gr : Gr c H c (upd H a (.ins A dx (putF f v fs))) := .put h1 trivial (List.mem_of_getElem? ha)
        refine ⟨a, A, dx, fs, rfl, h1, h2.2.1.cl, na, by rw [h3.length]; exact l.1, gr, s.put ha h1 trivial ⟨A, dx, _, upd_same, ⟨h2.1, h2.2.1, putF_keys (P := fun n => NoAttr g.K A n) na h2.2.2⟩, (h3.put rv).gr gr⟩⟩
      · cases h
    · cases h
  · cases h
/-- an item is stored -/
theorem setAt_ok (s : StoOk g c S H) {x y v : V} {d k e : Dat} (rx : Rp g c H x d) (ry : Rp g c H y k) (rv : Rp g c H v e) (h : setAtD S d k e = some S') :
    ∃ a, x = .ref a ∧ ((∃ xs i j, y = .int i ∧ H a = some (.lst xs) ∧ ixN xs.length i = some j ∧ Gr c H c (upd H a (.lst (xs.set j v))) ∧ StoOk g c S' (upd H a (.lst (xs.set j v)))) ∨
      ∃ H', DPut H a y v H' ∧ Gr c H c H' ∧ StoOk g c S' H') := by
  unfold setAtD at h
  split at h
  · rename_i n
    split at h
    · rename_i zs q
      split at h
      · rename_i i
        obtain ⟨j, e1, e2⟩ := pbind_eq h
        cases e2
        obtain ⟨a, rfl, ha, vs, h1, h2⟩ := rx.cell s q
        have gr : Gr c H c (upd H a (.lst (vs.set j v))) := .put h1 trivial (List.mem_of_getElem? ha)
        exact ⟨a, rfl, .inl ⟨vs, i, j, ry.int_inv, h1, by rw [h2.length]; exact e1, gr, s.put ha h1 trivial ⟨_, upd_same, (h2.set rv j).gr gr⟩⟩⟩
      · cases h
    · rename_i kvs q
      split at h
      · rename_i l
        cases h
        obtain ⟨a, rfl, ha, hc⟩ := rx.cell s q
        obtain ⟨hf, hl⟩ := l
        unfold keyFits at hf
        rw [Bool.and_eq_true] at hf
        rcases hc with ⟨fs, h1, h2⟩ | ⟨fs, h1, h2⟩
        · rcases keyOk_cases hf.1 with ⟨j, rfl⟩ | ⟨ks, rfl⟩
          · have ey : y = kV j := by cases j <;> cases ry <;> rfl
            subst ey
            have gr : Gr c H c (upd H a (.dK (putK fs j v))) := .put h1 trivial (List.mem_of_getElem? ha)
            exact ⟨a, rfl, .inr ⟨_, DPut.k h1 (by rw [h2.length]; exact hl), gr, s.put ha h1 trivial (.inl ⟨_, upd_same, (h2.put rv j).gr gr⟩)⟩⟩
          · exfalso
            cases h2 with
            | nil => simp [isTupD] at hf
            | @cons n _ _ _ _ _ _ =>
              have := isTup_kD n
              simp_all [isTupD]
        · rcases keyOk_cases hf.1 with ⟨j, rfl⟩ | ⟨ks, rfl⟩
          · exfalso
            have := isTup_kD j
            cases h2 with
            | one _ => simp_all [isTupD]
            | cons _ _ => simp_all [isTupD]
          · obtain ⟨b, xs, rfl, hb, rb⟩ := ry.tup_inv
            rw [RpAll.keys rb] at hb
            have gr : Gr c H c (upd H a (.dT (putK fs ks v))) := .put h1 trivial (List.mem_of_getElem? ha)
            exact ⟨a, rfl, .inr ⟨_, DPut.t h1 hb (by rw [h2.length]; exact hl), gr, s.put ha h1 trivial (.inr ⟨_, upd_same, (h2.put rv ks).gr gr⟩)⟩⟩
      · cases h
    · cases h
  · cases h
end
section
variable {X : Cx} {W : WX} {a i e : Expr} {ma mi me : ME} {f : Str} {pos pos' tpos : Pos} {ct : CT}
theorem Ps.ofS {D : Ends} {c : Cw} {H : Hp} {o : Option Sto} {ρ : Ro} (h : Ps (gOf X) W D c H (ofS o ρ)) : ∃ S', o = some S' ∧ Ps (gOf X) W D c H (.nx ρ S') := by
  cases o with
  | none => exact h.elim
  | some S' => exact ⟨S', rfl, h⟩
theorem ss_setF (ok : CtOk (gOf X) ct) (ha : SE X W a ma) (he : SE X W e me) (hs : swapsWith e (some (.Attribute a f pos')) pos.line X.env = pure false) : SS X W (.Assign [.Attribute a f pos'] e pos) (mSetF ct ma f me) :=
  PS_of (ps_fld ha he hs) fun D σ H ⟨c, ρ, S, hE, hS, h⟩ => by
    refine ⟨c, ρ, S, hE, hS, (Ps.st hE h).mono fun c1 S1 d H1 g1 s1 h1 v rv => ?_⟩
    refine ⟨c1, ρ, S1, hE.gr g1, s1, (Ps.st (hE.gr g1) h1).mono fun c2 S2 x H2 g2 s2 h2 u ru => ?_⟩
    obtain ⟨S3, e1, h3⟩ := Ps.ofS h2
    obtain ⟨a, A, dx, fs, rfl, k1, k2, k3, k4, k5, k6⟩ := setFld_ok ok s2 ru (rv.gr g2) e1
    exact ⟨a, A, dx, fs, rfl, k1, k2, k3, k4, h3 c2 σ _ k5 k6 (((hE.gr g1).gr g2).gr k5)⟩
theorem set_any (hu : X.A.units + 64 < cLine) : PSet X (fun o i v H Q => (rSetL o i v H Q) ∨ rSetD o i v H Q) := by
  intro pins s σ H o i v ov iv u Q I ro ri rv h
  rcases h with h | h
  · exact set_list pins s σ H o i v ov iv u Q I ro ri rv h
  · exact set_dict (by omega) pins s σ H o i v ov iv u Q I ro ri rv h
/-- a[i] = e -/
theorem ss_setI (hu : X.A.units + 64 < cLine) (ha : SE X W a ma) (hi : SE X W i mi) (he : SE X W e me) (hs : swapsWith e (some (.Subscript a i pos')) pos.line X.env = pure false) : SS X W (.Assign [.Subscript a i pos'] e pos) (mSetI ma mi me) := by
  have base : PS X (.Assign [.Subscript a i pos'] e pos) (fun D σ H => RE (gOf X) W me σ H fun v H1 => RE (gOf X) W ma σ H1 fun x H2 => RE (gOf X) W mi σ H2 fun y H3 => (rSetL x y v H3 fun H4 => D.nx σ H4) ∨ rSetD x y v H3 fun H4 => D.nx σ H4) := by
    refine ⟨fun pins s σ H D I h => ?_⟩
    refine wpAny_Assign_Subscript (thn (he.run pins s σ H _ I h) fun r s1 ⟨v, H1, I1, rv, q1⟩ => thn (ha.run pins s1 σ H1 _ I1 q1) fun u s2 ⟨x, H2, I2, rx, q2⟩ => thn (hi.run pins s2 σ H2 _ I2 q2) fun iv s3 ⟨y, H3, I3, ry, q3⟩ => ?_) hs
    exact thn (set_any hu pins s3 σ H3 x y v u iv r _ I3 rx ry rv q3) fun _ s4 ⟨H4, I4, q4⟩ => ⟨σ, H4, I4, q4⟩
  refine PS_of base fun D σ H ⟨c, ρ, S, hE, hS, h⟩ => ?_
  refine ⟨c, ρ, S, hE, hS, (Ps.st hE h).mono fun c1 S1 d H1 g1 s1 h1 v rv => ?_⟩
  refine ⟨c1, ρ, S1, hE.gr g1, s1, (Ps.st (hE.gr g1) h1).mono fun c2 S2 x H2 g2 s2 h2 u ru => ?_⟩
  refine ⟨c2, ρ, S2, (hE.gr g1).gr g2, s2, (Ps.st ((hE.gr g1).gr g2) h2).mono fun c3 S3 k H3 g3 s3 h3 y ry => ?_⟩
  obtain ⟨S4, e1, h4⟩ := Ps.ofS h3
  have hE3 := ((hE.gr g1).gr g2).gr g3
  obtain ⟨p, rfl, hh⟩ := setAt_ok s3 (ru.gr g3) ry ((rv.gr g2).gr g3) e1
  rcases hh with ⟨xs, n, j, rfl, k1, k2, k3, k4⟩ | ⟨H', k1, k2, k3⟩
  · exact .inl ⟨p, xs, n, j, rfl, rfl, k1, k2, h4 c3 σ _ k3 k4 (hE3.gr k3)⟩
  · exact .inr ⟨p, H', rfl, k1, h4 c3 σ H' k2 k3 (hE3.gr k2)⟩
end
end PL

set_option Elab.async false
set_option linter.all false
set_option maxRecDepth 100000
set_option autoImplicit false
set_option maxHeartbeats 4000000
namespace PL.Ext
open PySem PySem.Spec PySem.AutoSeq1
/-! ### xs.extend(ys), ys any list or tuple -/
theorem ext_list (l : Addr) (items : Array Value) (n : Nat) (b : Addr) (items2 : Array Value) (n2 : Nat) (dd2 : Option Addr) (sl2 : Array (Option Value)) (hc0 : ¬(!items.isEmpty && Builtin.List.listTooLong (items.size + items2.size)) = true) (hc1 : items.size ≤ sizeLine) (hs2 : items.size + items2.size ≤ sizeLine + 1) :
    Meets (Builtin.«list.extend» ⟨[.ref l, .ref b], []⟩) (fun _ R s => s.heap.get? l = some { cls := .type "list", dict := none, data := .seq items n, slots := #[] } ∧ s.heap.get? b = some { cls := .type "list", dict := dd2, data := .seq items2 n2, slots := sl2 } ∧ R (.ok (.ret Value.none)) { s with heap := s.heap.update l (Obj.mapSeq fun x => x ++ items2) }) :=
  .of_wp fun prog w A R s h => by
    obtain ⟨hp, g, d, tk, os⟩ := s; obtain ⟨hl, hb, h⟩ := h; have f1 := idx_int; have f2 := sub_tuple_tuple; have f3 := sub_list_list; have f4 := sub_tuple_list; have f5 := sub_list_tuple;
    have hz' : (items ++ items2).size ≤ sizeLine + 1 := by rw [Array.size_append]; exact hs2
    wp_walk using (wpAny_updateSeq hl rfl (hz := hc1) (_hz' := hz')), wpAny_loadPart' hl, wpAny_loadPart' hb; exact ⟨_, rfl, h⟩
theorem ext_tup (l : Addr) (items : Array Value) (n : Nat) (b : Addr) (items2 : Array Value) (n2 : Nat) (dd2 : Option Addr) (sl2 : Array (Option Value)) (hc0 : ¬(!items.isEmpty && Builtin.List.listTooLong (items.size + items2.size)) = true) (hc1 : items.size ≤ sizeLine) (hs2 : items.size + items2.size ≤ sizeLine + 1) :
    Meets (Builtin.«list.extend» ⟨[.ref l, .ref b], []⟩) (fun _ R s => s.heap.get? l = some { cls := .type "list", dict := none, data := .seq items n, slots := #[] } ∧ s.heap.get? b = some { cls := .type "tuple", dict := dd2, data := .seq items2 n2, slots := sl2 } ∧ R (.ok (.ret Value.none)) { s with heap := s.heap.update l (Obj.mapSeq fun x => x ++ items2) }) :=
  .of_wp fun prog w A R s h => by
    obtain ⟨hp, g, d, tk, os⟩ := s; obtain ⟨hl, hb, h⟩ := h; have f1 := idx_int; have f2 := sub_tuple_tuple; have f3 := sub_list_list; have f4 := sub_tuple_list; have f5 := sub_list_tuple;
    have hz' : (items ++ items2).size ≤ sizeLine + 1 := by rw [Array.size_append]; exact hs2
    wp_walk using (wpAny_updateSeq hl rfl (hz := hc1) (_hz' := hz')), wpAny_loadPart' hl, wpAny_loadPart' hb; exact ⟨_, rfl, h⟩
end PL.Ext
namespace PL
open PySem PySem.Spec PyProof.Rows L2
section
variable {X : Cx}
theorem mt_extA : MtM X "list.extend" (fun x vs H Q => ∃ l b xs zs, x = .ref l ∧ vs = [.ref b] ∧ H l = some (.lst xs) ∧ (SqT X.K H b zs ∨ SqL X.K H b zs) ∧ xs.length + zs.length ≤ sizeLine ∧ Q .non (upd H l (.lst (xs ++ zs)))) := by
  intro pins s σ H x vs v us Q I rx rv h
  obtain ⟨l, b, xs, zs, rfl, rfl, hH, hB, hz, q⟩ := h
  cases rx
  obtain ⟨u, rfl, ru⟩ := rv.one
  cases ru
  obtain ⟨z, its, n, r, hl, e⟩ := I.lstM hH
  rcases hB with hB | hB
  · obtain ⟨its2, r2, ⟨⟨oc, od, dt, sl⟩, h1, h2, n2, h3⟩, z2⟩ := I.tuple hB
    simp only at h2 h3
    subst h2 h3
    have hl2 := r2.length
    have hsz : its.toArray.size + its2.toArray.size ≤ sizeLine := by rw [List.size_toArray, List.size_toArray]; omega
    have hlong : ¬ (!its.toArray.isEmpty && Builtin.List.listTooLong (its.toArray.size + its2.toArray.size)) = true := by
      rw [notLongL hsz, Bool.and_false]
      exact Bool.false_ne_true
    refine call_meets PySem.F.slot_list_extend ⟨_, e, rfl⟩ PySem.F.entry_list_extend (PySem.F.args_list_extend_2 _ _)
      (Ext.ext_tup l its.toArray n b its2.toArray n2 od sl hlong (by rw [List.size_toArray]; omega) (by omega)) ⟨e, h1, ?_⟩
    refine ⟨.non, _, I.lset (its' := its ++ its2) hH e (by simp) (r.append r2) ?_, rfl, q⟩
    rw [List.length_append]
    omega
  · obtain ⟨its2, r2, ⟨⟨oc, od, dt, sl⟩, n2, h1, h2, h4, h3⟩, z2⟩ := I.list hB
    simp only at h2 h3
    subst h2 h3
    have hl2 := r2.length
    have hsz : its.toArray.size + its2.toArray.size ≤ sizeLine := by rw [List.size_toArray, List.size_toArray]; omega
    have hlong : ¬ (!its.toArray.isEmpty && Builtin.List.listTooLong (its.toArray.size + its2.toArray.size)) = true := by
      rw [notLongL hsz, Bool.and_false]
      exact Bool.false_ne_true
    refine call_meets PySem.F.slot_list_extend ⟨_, e, rfl⟩ PySem.F.entry_list_extend (PySem.F.args_list_extend_2 _ _)
      (Ext.ext_list l its.toArray n b its2.toArray n2 od sl hlong (by rw [List.size_toArray]; omega) (by omega)) ⟨e, h1, ?_⟩
    refine ⟨.non, _, I.lset (its' := its ++ its2) hH e (by simp) (r.append r2) ?_, rfl, q⟩
    rw [List.length_append]
    omega
/-- a method of a builtin type, by its data -/
def rBm (g : Gx) (b : Bm) : V → List V → Hp → VK → Prop := fun x xs H Q => ∃ c S d ds z S', StoOk g c S H ∧ Rp g c H x d ∧ RpAll g c H xs ds ∧ bmD b S d ds = some (z, S') ∧ Fin g c H Q z S'
theorem RpAll.dropLast {g : Gx} {c : Cw} {H : Hp} {vs : List V} {ds : List Dat} (r : RpAll g c H vs ds) : RpAll g c H vs.dropLast ds.dropLast := by
  rw [List.dropLast_eq_take, List.dropLast_eq_take, r.length]
  exact r.take _
theorem ownL_eq {S : Sto} {x : Dat} {k : Nat} {zs : List Dat} (h : ownL S x = some (k, zs)) : x = .own k ∧ S[k]? = some (.lst zs) := by
  unfold ownL at h
  split at h
  · split at h
    · rename_i q; cases h; exact ⟨rfl, q⟩
    · cases h
  · cases h
theorem bm_append : MtM X "list.append" (rBm (gOf X) .append) := by
  intro pins s σ H x xs v us Q I rx rs ⟨c, S, d, ds, z, S', sS, rd, ra, f, q⟩
  match ds, ra, f with
  | [y], ra, f =>
    have f' : appendD S d y = some (z, S') := f
    clear f
    unfold appendD at f'
    obtain ⟨⟨k, zs⟩, e0, f2⟩ := pbind_eq f'
    obtain ⟨rfl, e1⟩ := ownL_eq e0
    dsimp only at f2
    split at f2
    · rename_i l
      cases f2
      obtain ⟨a, rfl, ha, ws, h1, h2⟩ := rd.cell sS e1
      obtain ⟨w, rfl, rw'⟩ := ra.one_inv
      have gr : Gr c H c (upd H a (.lst (ws ++ [w]))) := .put h1 trivial (List.mem_of_getElem? ha)
      exact mt_append pins s σ H _ _ v us Q I rx rs ⟨a, ws, w, rfl, rfl, h1, by rw [h2.length]; exact l, q c _ _ gr (sS.put ha h1 trivial ⟨_, upd_same, (h2.append (.cons rw' .nil)).gr gr⟩) .non⟩
    · cases f2
  | [], _, f => cases f
  | [_, _], _, f => cases f
  | _ :: _ :: _ :: _, _, f => cases f
theorem bm_extend : MtM X "list.extend" (rBm (gOf X) .extend) := by
  intro pins s σ H x xs v us Q I rx rs ⟨c, S, d, ds, z, S', sS, rd, ra, f, q⟩
  match ds, ra, f with
  | [y], ra, f =>
    have f' : extendD S d y = some (z, S') := f
    clear f
    unfold extendD at f'
    obtain ⟨⟨k, zs⟩, e0, f2⟩ := pbind_eq f'
    obtain ⟨rfl, e1⟩ := ownL_eq e0
    dsimp only at f2
    obtain ⟨ys, e2, f2⟩ := pbind_eq f2
    split at f2
    · rename_i l
      cases f2
      obtain ⟨a, rfl, ha, ws, h1, h2⟩ := rd.cell sS e1
      obtain ⟨w, rfl, rw'⟩ := ra.one_inv
      obtain ⟨b, vs, rfl, h3, h4⟩ := seqOf_sq sS rw' e2
      have gr : Gr c H c (upd H a (.lst (ws ++ vs))) := .put h1 trivial (List.mem_of_getElem? ha)
      exact mt_extA pins s σ H _ _ v us Q I rx rs ⟨a, b, ws, vs, rfl, rfl, h1, h3, by rw [h2.length, h4.length]; exact l, q c _ _ gr (sS.put ha h1 trivial ⟨_, upd_same, (h2.append h4).gr gr⟩) .non⟩
    · cases f2
  | [], _, f => cases f
  | [_, _], _, f => cases f
  | _ :: _ :: _ :: _, _, f => cases f
theorem bm_pop : MtM X "list.pop" (rBm (gOf X) .pop) := by
  intro pins s σ H x xs v us Q I rx rs ⟨c, S, d, ds, z, S', sS, rd, ra, f, q⟩
  match ds, ra, f with
  | [], ra, f =>
    have f' : popD S d = some (z, S') := f
    clear f
    unfold popD at f'
    obtain ⟨⟨k, zs⟩, e0, f2⟩ := pbind_eq f'
    obtain ⟨rfl, e1⟩ := ownL_eq e0
    dsimp only at f2
    obtain ⟨y, e2, f2⟩ := pbind_eq f2
    cases f2
    obtain ⟨a, rfl, ha, ws, h1, h2⟩ := rd.cell sS e1
    cases ra
    obtain ⟨w, e3, rw'⟩ := h2.get e2
    have gr : Gr c H c (upd H a (.lst ws.dropLast)) := .put h1 trivial (List.mem_of_getElem? ha)
    exact mt_pop pins s σ H _ _ v us Q I rx rs ⟨a, ws, w, rfl, rfl, h1, by rw [h2.length]; exact e3, q c _ _ gr (sS.put ha h1 trivial ⟨_, upd_same, h2.dropLast.gr gr⟩) (rw'.gr gr)⟩
  | [_], _, f => cases f
  | [_, _], _, f => cases f
  | _ :: _ :: _ :: _, _, f => cases f
theorem bm_clear : MtM X "list.clear" (rBm (gOf X) .clear) := by
  intro pins s σ H x xs v us Q I rx rs ⟨c, S, d, ds, z, S', sS, rd, ra, f, q⟩
  match ds, ra, f with
  | [], ra, f =>
    have f' : clearD S d = some (z, S') := f
    clear f
    unfold clearD at f'
    obtain ⟨⟨k, zs⟩, e0, f2⟩ := pbind_eq f'
    obtain ⟨rfl, e1⟩ := ownL_eq e0
    dsimp only at f2
    cases f2
    obtain ⟨a, rfl, ha, ws, h1, h2⟩ := rd.cell sS e1
    cases ra
    have gr : Gr c H c (upd H a (.lst [])) := .put h1 trivial (List.mem_of_getElem? ha)
    exact mt_clear pins s σ H _ _ v us Q I rx rs ⟨a, ws, rfl, rfl, h1, q c _ _ gr (sS.put ha h1 trivial ⟨_, upd_same, .nil⟩) .non⟩
  | [_], _, f => cases f
  | [_, _], _, f => cases f
  | _ :: _ :: _ :: _, _, f => cases f
theorem bm_join : MtM X "str.join" (rBm (gOf X) .join) := by
  intro pins s σ H x xs v us Q I rx rs ⟨c, S, d, ds, z, S', sS, rd, ra, f, q⟩
  match ds, ra, f with
  | [y], ra, f =>
    have f' : joinD S d y = some (z, S') := f
    unfold joinD at f'
    split at f'
    · obtain ⟨ys, e1, f'⟩ := pbind_eq f'
      obtain ⟨ss, e2, f'⟩ := pbind_eq f'
      split at f'
      · rename_i l
        cases f'
        obtain ⟨w, rfl, rw'⟩ := ra.one_inv
        obtain ⟨b, vs, rfl, h3, h4⟩ := look_list sS rw' (lstOf_eq e1)
        rw [h4.strs e2] at h3
        exact mt_join pins s σ H _ _ v us Q I rx rs ⟨_, b, ss, by rw [rd.str_inv], rfl, .inl h3, l, q.val sS (.str _)⟩
      · cases f'
    · cases f'
  | [], _, f => cases f
  | [_, _], _, f => cases f
  | _ :: _ :: _ :: _, _, f => cases f
theorem says_getD {g : Gx} {c : Cw} {H : Hp} {o : Option V} {r : Option Dat} {v : V} {d : Dat} (h : Says g c H o r) (hv : Rp g c H v d) : Rp g c H (o.getD v) (r.getD d) := by
  cases r with
  | none => rw [show o = none from h]; exact hv
  | some e => obtain ⟨w, e1, rw'⟩ := h; rw [e1]; exact rw'
theorem get_ok (hu : X.A.units + 64 < cLine) {pins : List (Addr × Obj)} {σ : L2.St} {H : Hp} {s : Shared} {c : Cw} {S S' : Sto} {x y w : V} {v u : Value} {d k e z : Dat} {Q : VK} (I : Inv X pins σ H s) (rx : RelV x v) (ry : RelV y u) (sS : StoOk (gOf X) c S H) (rd : Rp (gOf X) c H x d) (rk : Rp (gOf X) c H y k) (re : Rp (gOf X) c H w e)
    (f : getD_ S d k e = some (z, S')) (q : Fin (gOf X) c H Q z S') : (e = .none → w = .non → wpAny (model X.prog X.w) X.A (call (.builtin "dict.get") [v, u]) (EP X pins σ Q) X.xe s) ∧ ∀ r, RelV w r → wpAny (model X.prog X.w) X.A (call (.builtin "dict.get") [v, u, r]) (EP X pins σ Q) X.xe s := by
  unfold getD_ at f
  split at f
  · rename_i kvs h1
    split at f
    · rename_i hf
      cases f
      obtain ⟨a, o, rfl, g1, g2⟩ := dict_get sS rd h1 hf rk
      cases rx
      refine ⟨fun e1 e2 => ?_, fun r rw' => ?_⟩
      · subst e1 e2
        exact d_get1 (by omega) I g1 ry fun w' s' I' rw' => ⟨_, H, I', rw', q.val sS (says_getD g2 re)⟩
      · exact d_get2 (by omega) I g1 ry rw' fun w' s' I' rw' => ⟨_, H, I', rw', q.val sS (says_getD g2 re)⟩
    · cases f
  · rename_i kvs h1
    split at f
    · rename_i hf
      cases f
      obtain ⟨t, rfl⟩ : ∃ t, k = .str t := by cases k <;> first | exact ⟨_, rfl⟩ | cases hf
      obtain ⟨a, rfl, ka⟩ := look_kd rd h1
      obtain ⟨es, n, r0, D, k1, k2, k3⟩ := kd_get (c := c) (H := H) ka t
      cases rx
      have ey := rk.str_inv
      subst ey
      obtain ⟨tk, rfl⟩ := ry
      have mo := PySem.W.mapOf_K (prog := X.prog) (w := X.w) I.kIn D.at_ D.lit
      have fk := PySem.W.find_K D.at_ k1
      have val : ∀ r : Value, RelV w r → ∃ wv, RelV wv (r0.getD r) ∧ Rp (gOf X) c H wv ((dget kvs (.str t)).getD e) := fun r rr => by
        cases w2 : dget kvs (.str t) with
        | none => rw [k2 w2]; exact ⟨w, rr, re⟩
        | some d' => obtain ⟨u1, v1, e1, e2, e3⟩ := k3 d' w2; rw [e1]; exact ⟨v1, e2, e3⟩
      refine ⟨fun e1 e2 => ?_, fun r rw' => ?_⟩
      · subst e1 e2
        obtain ⟨wv, w3, w4⟩ := val .none rfl
        refine call_meetsIn PySem.F.slot_dict_get (kd_type D I) PySem.F.entry_dict_get (PySem.F.args_dict_get_2 _ _) (meets_dict_get (PySem.strKind X.prog X.w) a (PySem.strKind_is X.prog X.w t tk) D.low) ⟨_, mo, ?_⟩
        rw [fk]
        exact ⟨wv, H, I.tok _, w3, q.val sS w4⟩
      · obtain ⟨wv, w3, w4⟩ := val r rw'
        refine call_meetsIn PySem.F.slot_dict_get (kd_type D I) PySem.F.entry_dict_get (PySem.F.args_dict_get_3 _ _ _) (meets_dict_get_default (PySem.strKind X.prog X.w) a (PySem.strKind_is X.prog X.w t tk) D.low r) ⟨_, mo, ?_⟩
        rw [fk]
        exact ⟨wv, H, I.tok _, w3, q.val sS w4⟩
    · cases f
  · cases f
theorem bm_get1 (hu : X.A.units + 64 < cLine) : MtM X "dict.get" (rBm (gOf X) .get1) := by
  intro pins s σ H x xs v us Q I rx rs ⟨c, S, d, ds, z, S', sS, rd, ra, f, q⟩
  match ds, ra, f with
  | [y], ra, f =>
    obtain ⟨w, rfl, rw'⟩ := ra.one_inv
    obtain ⟨u, rfl, ru⟩ := rs.one
    exact (get_ok hu I rx ru sS rd rw' .non f q).1 rfl rfl
  | [], _, f => cases f
  | [_, _], _, f => cases f
  | _ :: _ :: _ :: _, _, f => cases f
theorem bm_get2 (hu : X.A.units + 64 < cLine) : MtM X "dict.get" (rBm (gOf X) .get2) := by
  intro pins s σ H x xs v us Q I rx rs ⟨c, S, d, ds, z, S', sS, rd, ra, f, q⟩
  match ds, ra, f with
  | [y, y2], ra, f =>
    obtain ⟨w, w2, rfl, rw', rw2⟩ := ra.two_inv
    obtain ⟨u, u2, rfl, ru, ru2⟩ := rs.two
    exact (get_ok hu I rx ru sS rd rw' rw2 f q).2 u2 ru2
  | [], _, f => cases f
  | [_], _, f => cases f
  | _ :: _ :: _ :: _, _, f => cases f
/-- the receiver's type -/
theorem bmT_ok {b : Bm} {pins : List (Addr × Obj)} {σ : L2.St} {H : Hp} {s : Shared} {c : Cw} {S : Sto} {x : V} {v : Value} {d : Dat} (I : Inv X pins σ H s) (sS : StoOk (gOf X) c S H) (rd : Rp (gOf X) c H x d) (rx : RelV x v) (h : bmT b S d = true) :
    s.TypeIs v (match b with | .join => "str" | .get1 => "dict" | .get2 => "dict" | _ => "list") ∧ ∀ a, v = .ref a → ∃ ob, s.heap.get? a = some ob ∧ ob.dict = none := by
  have lst : (match look S d with | .list _ => true | _ => false) = true → s.TypeIs v "list" ∧ ∀ a, v = .ref a → ∃ ob, s.heap.get? a = some ob ∧ ob.dict = none := fun h => by
    split at h
    · rename_i ys h1
      obtain ⟨a, vs, rfl, sa, _⟩ := look_list sS rd h1
      cases rx
      obtain ⟨its, _, ⟨o, n, ho, hc, hd, hdat⟩, _⟩ := I.list sa
      exact ⟨⟨o, ho, hc⟩, fun b e => by cases e; exact ⟨o, ho, hd⟩⟩
    · cases h
  have dct : (match look S d with | .dict _ => true | .kd _ => true | _ => false) = true → s.TypeIs v "dict" ∧ ∀ a, v = .ref a → ∃ ob, s.heap.get? a = some ob ∧ ob.dict = none := fun h => by
    split at h
    · rename_i ys h1
      obtain ⟨a, rfl, hh⟩ := look_dict sS rd h1
      cases rx
      have isd : IsD H a := by
        rcases hh with ⟨fs, h2, _⟩ | ⟨fs, h2, _⟩
        · exact .inl ⟨fs, h2⟩
        · exact .inr ⟨fs, h2⟩
      obtain ⟨t1, t2, _⟩ := isD_at I isd
      exact ⟨t1, t2⟩
    · rename_i ys h1
      obtain ⟨a, rfl, es, n, D, _⟩ := look_kd rd h1
      cases rx
      exact ⟨kd_type D I, fun b e => by cases e; exact ⟨_, I.kIn _ _ D.at_, rfl⟩⟩
    · cases h
  cases b with
  | join =>
    cases d <;> first | (cases h; done) | skip
    rw [rd.str_inv] at rx
    obtain ⟨t, rfl⟩ := rx
    exact ⟨typeIs_str _ _ _, fun _ e => nomatch e⟩
  | get1 => exact dct h
  | get2 => exact dct h
  | append => exact lst h
  | extend => exact lst h
  | remove => exact lst h
  | pop => exact lst h
  | clear => exact lst h
def bmTy : Bm → String
  | .join => "str"
  | .get1 => "dict"
  | .get2 => "dict"
  | _ => "list"
def bmName : Bm → Str
  | .join => "join"
  | .append => "append"
  | .extend => "extend"
  | .remove => "remove"
  | .pop => "pop"
  | .clear => "clear"
  | .get1 => "get"
  | .get2 => "get"
/-- o.name(es), a method of a builtin type -/
theorem pe_bmC {T id : String} {name : Str} {r : V → List V → Hp → VK → Prop} {a e : Expr} {es : List Expr} {to : TE} {ta : TA} {apos pos : Pos} (pa : PlainAttrs T) (slot : Slot T name id) (ty : typeOf (.builtin id) = pure (.type "method_descriptor")) (rule : MtM X id r) (ho : PE X a to) (ha : PA X (e :: es) ta)
    (hbase : attributeBase a name X.env (eval a X.env) = eval a X.env) (hfew : ((backTo pos (starEach (e :: es) X.env)).all (fun x => !x.1) && (backToKw pos (keywordEach [] X.env)).all (fun x => x.1.isSome)
      && decide ((e :: es).length + ([] : List Keyword).length + (if ([] : List Keyword).isEmpty then 0 else 1) < 30)) = true) (hline : (apos.endLine == pos.line) = true)
    (he : starEach (e :: es) X.env = (false, eval e X.env) :: starEach es X.env) (hpl : (backTo pos (starEach es X.env)).any (·.1) = false) :
    PE X (.Call (.Attribute a name apos) (e :: es) [] pos) (fun σ H Q => to σ H fun x H1 => (∀ pins s v, Inv X pins σ H1 s → RelV x v → s.TypeIs v T ∧ ∀ a, v = .ref a → ∃ ob, s.heap.get? a = some ob ∧ ob.dict = none) ∧ ta σ H1 fun vs H2 => r x vs H2 Q) := by
  refine ⟨fun pins s σ H Q I h => ?_⟩
  refine wpAny_Call_method hbase hfew hline pa slot ty (thn (ho.run pins s σ H _ I h) fun u s1 ⟨x, H1, I1, rx, q0, q1⟩ => ?_)
  obtain ⟨t1, t2⟩ := q0 pins s1 u I1 rx
  refine ⟨t1, t2, ?_⟩
  have hh := thn (ha.run pos pins s1 σ H1 _ I1 q1) fun us s2 ⟨vs, H2, I2, rv, q2⟩ => rule pins s2 σ H2 x vs u us Q I2 rx rv q2
  rw [he] at hh ⊢
  exact Calls.callWith_builtin (by show (false || (backTo pos (starEach es X.env)).any (·.1)) = false; rw [hpl]; rfl) (Calls.evalArgs_plain hh)
theorem pe_bmN {T id : String} {name : Str} {r : V → List V → Hp → VK → Prop} {a : Expr} {to : TE} {apos pos : Pos} (pa : PlainAttrs T) (slot : Slot T name id) (ty : typeOf (.builtin id) = pure (.type "method_descriptor")) (rule : MtM X id r) (ho : PE X a to)
    (hbase : attributeBase a name X.env (eval a X.env) = eval a X.env) (hline : (apos.endLine == pos.line) = true) :
    PE X (.Call (.Attribute a name apos) [] [] pos) (fun σ H Q => to σ H fun x H1 => (∀ pins s v, Inv X pins σ H1 s → RelV x v → s.TypeIs v T ∧ ∀ a, v = .ref a → ∃ ob, s.heap.get? a = some ob ∧ ob.dict = none) ∧ r x [] H1 Q) := by
  refine ⟨fun pins s σ H Q I h => ?_⟩
  refine PySem.Call_method0 hbase hline (thn (ho.run pins s σ H _ I h) fun u s1 ⟨x, H1, I1, rx, q0, q1⟩ => ?_)
  obtain ⟨t1, t2⟩ := q0 pins s1 u I1 rx
  exact ⟨T, _, pa, slot, ty, t1, t2, Calls.callWith_builtin rfl (PySem.evalArgs_none (rule pins s1 σ H1 x [] u [] Q I1 rx .nil q1))⟩
theorem re_bm {W : WX} {b : Bm} {ma : ME} {mA : MA} {σ : L2.St} {H : Hp} {Q : VK} (h : RE (gOf X) W (mBm b ma mA) σ H Q) : RE (gOf X) W ma σ H fun x H1 => (∀ pins s v, Inv X pins σ H1 s → RelV x v → s.TypeIs v (bmTy b) ∧ ∀ a, v = .ref a → ∃ ob, s.heap.get? a = some ob ∧ ob.dict = none) ∧ RA (gOf X) W mA σ H1 fun vs H2 => rBm (gOf X) b x vs H2 Q := by
  obtain ⟨c, ρ, S, hE, hS, h⟩ := h
  refine ⟨c, ρ, S, hE, hS, (Po.bnd h).mono fun c1 S1 x H1 g1 s1 h1 v rv => ?_⟩
  split at h1
  · rename_i hT
    refine ⟨fun pins s u I ru => ?_, c1, ρ, S1, hE.gr g1, s1, (Po.bnd h1).mono fun c2 S2 xs H2 g2 s2 h2 vs rs => ?_⟩
    · have := bmT_ok I s1 rv ru hT
      cases b <;> exact this
    · obtain ⟨z, S3, e1, q⟩ := Po.ofP h2
      exact ⟨c2, S2, x, xs, z, S3, s2, rv.gr g2, rs, e1, fun c' v' H' g' s' r' => q c' H' g' s' v' r'⟩
  · exact h1.elim
end
section
variable {X : Cx} {W : WX} {a e e2 : Expr} {es : List Expr} {ma : ME} {mA : MA} {apos pos : Pos}
theorem se_bmC {b : Bm} {id : String} (pa : PlainAttrs (bmTy b)) (slot : Slot (bmTy b) (bmName b) id) (ty : typeOf (.builtin id) = pure (.type "method_descriptor")) (rule : MtM X id (rBm (gOf X) b)) (ho : SE X W a ma) (ha : SA X W (e :: es) mA)
    (hbase : attributeBase a (bmName b) X.env (eval a X.env) = eval a X.env) (hfew : ((backTo pos (starEach (e :: es) X.env)).all (fun x => !x.1) && (backToKw pos (keywordEach [] X.env)).all (fun x => x.1.isSome)
      && decide ((e :: es).length + ([] : List Keyword).length + (if ([] : List Keyword).isEmpty then 0 else 1) < 30)) = true) (hline : (apos.endLine == pos.line) = true)
    (he : starEach (e :: es) X.env = (false, eval e X.env) :: starEach es X.env) (hpl : (backTo pos (starEach es X.env)).any (·.1) = false) : SE X W (.Call (.Attribute a (bmName b) apos) (e :: es) [] pos) (mBm b ma mA) :=
  PE_of (pe_bmC pa slot ty rule ho ha hbase hfew hline he hpl) fun _ _ _ h => re_bm h
theorem se_bmN {b : Bm} {id : String} (pa : PlainAttrs (bmTy b)) (slot : Slot (bmTy b) (bmName b) id) (ty : typeOf (.builtin id) = pure (.type "method_descriptor")) (rule : MtM X id (rBm (gOf X) b)) (ho : SE X W a ma)
    (hbase : attributeBase a (bmName b) X.env (eval a X.env) = eval a X.env) (hline : (apos.endLine == pos.line) = true) : SE X W (.Call (.Attribute a (bmName b) apos) [] [] pos) (mBm b ma mNil) :=
  PE_of (pe_bmN pa slot ty rule ho hbase hline) fun σ H Q h => by
    obtain ⟨c, ρ, S, hE, hS, h⟩ := re_bm h
    refine ⟨c, ρ, S, hE, hS, h.mono fun c1 S1 x H1 g1 s1 h1 v rv => ?_⟩
    obtain ⟨k1, c2, ρ2, S2, hE2, hS2, h2⟩ := h1 v rv
    exact ⟨k1, Po.ok h2 hS2 [] .nil⟩
end
end PL

set_option Elab.async false
set_option linter.all false
set_option maxRecDepth 100000
set_option autoImplicit false
set_option maxHeartbeats 4000000
namespace PL
open PySem PySem.Spec PyProof.Rows L2

/-! ### cells made known -/
theorem rp_flat {g : Gx} {c c' : Cw} {H H' : Hp} : ∀ {vs : List V} {ds : List Dat}, ds.all flatD = true → RpAll g c H vs ds → RpAll g c' H' vs ds
  | _, _, _, .nil => .nil
  | _, d :: ds, f, .cons r t => by
    rw [List.all_cons, Bool.and_eq_true] at f
    refine .cons ?_ (rp_flat f.2 t)
    have := f.1
    cases d <;> first | (cases this; done) | (cases r; constructor)
/-- the first n cells -/
def Cw.cut (c : Cw) (n : Nat) (nd : c.as.Nodup) : Cw := ⟨fun b => c.O b ∧ b ∉ c.as.drop n, c.as.take n, fun a h => ⟨c.sub a (List.mem_of_mem_take h), fun z => by
  have e := List.take_append_drop n c.as
  rw [← e] at nd
  exact (List.nodup_append.mp nd).2.2 a h a z rfl⟩⟩
section
variable {g : Gx} {c : Cw} {n : Nat} {S : Sto} {H : Hp} {nd : c.as.Nodup} {h : Nat → Option Dat}
mutual
theorem Rp.mapO (hh : ∀ (k : Nat) a d', c.as[k]? = some a → h k = some d' → Rp g (c.cut n nd) H (.ref a) d') : ∀ {v : V} {d d' : Dat}, Rp g c H v d → PL.mapO h d = some d' → Rp g (c.cut n nd) H v d'
  | _, _, _, .non, e => by simp [PL.mapO] at e; subst e; exact .non
  | _, _, _, .bl b, e => by simp [PL.mapO] at e; subst e; exact .bl b
  | _, _, _, .int i, e => by simp [PL.mapO] at e; subst e; exact .int i
  | _, _, _, .str x, e => by simp [PL.mapO] at e; subst e; exact .str x
  | _, _, _, .lst s r, e => by
    rw [PL.mapO] at e
    obtain ⟨es, e1, e2⟩ := pmap_eq e
    subst e2
    refine .lst ?_ (RpAll.mapO hh r e1)
    rcases s with ⟨s, q⟩ | s
    · exact .inl ⟨s, fun z => q z.1⟩
    · exact .inr s
  | _, _, _, .kt s f r, e => by
    simp [PL.mapO] at e; subst e
    exact .kt s f (rp_flat f r)
  | _, _, _, .tup s r, e => by
    rw [PL.mapO] at e
    obtain ⟨es, e1, e2⟩ := pmap_eq e
    subst e2
    exact .tup s (RpAll.mapO hh r e1)
  | _, _, _, .ins s q m r, e => by
    rw [PL.mapO] at e
    obtain ⟨es, e1, e2⟩ := pmap_eq e
    subst e2
    exact .ins s (fun z => q z.1) m (RpF.mapO hh r e1)
  | _, _, _, .dK s r, e => by
    rw [PL.mapO] at e
    obtain ⟨es, e1, e2⟩ := pmap_eq e
    subst e2
    refine .dK ?_ (RpK.mapO hh r e1)
    rcases s with ⟨s, q⟩ | s
    · exact .inl ⟨s, fun z => q z.1⟩
    · exact .inr s
  | _, _, _, .dT s r, e => by
    rw [PL.mapO] at e
    obtain ⟨es, e1, e2⟩ := pmap_eq e
    subst e2
    refine .dT ?_ (RpT.mapO hh r e1)
    rcases s with ⟨s, q⟩ | s
    · exact .inl ⟨s, fun z => q z.1⟩
    · exact .inr s
  | _, _, _, .kd q, e => by simp [PL.mapO] at e; subst e; exact .kd q
  | _, _, _, .own q, e => by rw [PL.mapO] at e; exact hh _ _ _ q e
theorem RpAll.mapO (hh : ∀ (k : Nat) a d', c.as[k]? = some a → h k = some d' → Rp g (c.cut n nd) H (.ref a) d') : ∀ {v : List V} {d d' : List Dat}, RpAll g c H v d → mapOs h d = some d' → RpAll g (c.cut n nd) H v d'
  | _, _, _, .nil, e => by simp [mapOs] at e; subst e; exact .nil
  | _, _, _, .cons r t, e => by
    rw [mapOs] at e
    obtain ⟨x, e1, e⟩ := pbind_eq e
    obtain ⟨xs, e2, e⟩ := pmap_eq e
    subst e
    exact .cons (Rp.mapO hh r e1) (RpAll.mapO hh t e2)
theorem RpF.mapO (hh : ∀ (k : Nat) a d', c.as[k]? = some a → h k = some d' → Rp g (c.cut n nd) H (.ref a) d') : ∀ {v : List (Str × V)} {d d' : List (Str × Dat)}, RpF g c H v d → mapOf h d = some d' → RpF g (c.cut n nd) H v d'
  | _, _, _, .nil, e => by simp [mapOf] at e; subst e; exact .nil
  | _, _, _, .cons r t, e => by
    rw [mapOf] at e
    obtain ⟨x, e1, e⟩ := pbind_eq e
    obtain ⟨xs, e2, e⟩ := pmap_eq e
    subst e
    exact .cons (Rp.mapO hh r e1) (RpF.mapO hh t e2)
theorem RpK.mapO (hh : ∀ (k : Nat) a d', c.as[k]? = some a → h k = some d' → Rp g (c.cut n nd) H (.ref a) d') : ∀ {v : List (Key × V)} {d d' : List (Dat × Dat)}, RpK g c H v d → mapOk h d = some d' → RpK g (c.cut n nd) H v d'
  | _, _, _, .nil, e => by simp [mapOk] at e; subst e; exact .nil
  | _, _, _, .cons r t, e => by
    rw [mapOk] at e
    obtain ⟨x, e1, e⟩ := pbind_eq e
    obtain ⟨xs, e2, e⟩ := pmap_eq e
    subst e
    exact .cons (Rp.mapO hh r e1) (RpK.mapO hh t e2)
theorem RpT.mapO (hh : ∀ (k : Nat) a d', c.as[k]? = some a → h k = some d' → Rp g (c.cut n nd) H (.ref a) d') : ∀ {v : List (List Key × V)} {d d' : List (Dat × Dat)}, RpT g c H v d → mapOk h d = some d' → RpT g (c.cut n nd) H v d'
  | _, _, _, .one r, e => by
    rw [mapOk] at e
    obtain ⟨x, e1, e⟩ := pbind_eq e
    obtain ⟨xs, e2, e⟩ := pmap_eq e
    subst e
    rw [mapOk] at e2; cases e2
    exact .one (Rp.mapO hh r e1)
  | _, _, _, .cons r t, e => by
    rw [mapOk] at e
    obtain ⟨x, e1, e⟩ := pbind_eq e
    obtain ⟨xs, e2, e⟩ := pmap_eq e
    subst e
    exact .cons (Rp.mapO hh r e1) (RpT.mapO hh t e2)
end
theorem cut_at {k : Nat} {a : Addr} (hk : k < n) (e : c.as[k]? = some a) : (c.cut n nd).as[k]? = some a := by
  show (c.as.take n)[k]? = some a
  rw [List.getElem?_take_of_lt hk]; exact e
theorem cut_not {k : Nat} {a : Addr} (hk : ¬ k < n) (e : c.as[k]? = some a) : ¬ (c.cut n nd).O a := fun z => z.2 (by
  have : (c.as.drop n)[k - n]? = some a := by
    rw [List.getElem?_drop, show n + (k - n) = k by omega]; exact e
  exact List.mem_of_getElem? this)
theorem resO_ok (s : StoOk g c S H) : ∀ (f k : Nat) (a : Addr) (d' : Dat), c.as[k]? = some a → resO n S f k = some d' → Rp g (c.cut n nd) H (.ref a) d'
  | 0, k, a, d', e, q => by
    rw [resO] at q
    split at q
    · rename_i hk; cases q; exact .own (cut_at hk e)
    · cases q
  | f + 1, k, a, d', e, q => by
    rw [resO] at q
    split at q
    · rename_i hk; cases q; exact .own (cut_at hk e)
    · rename_i hk
      have no : ¬ (c.cut n nd).O a := cut_not hk e
      split at q
      · rename_i xs ec
        obtain ⟨es, e1, e2⟩ := pmap_eq q
        subst e2
        obtain ⟨vs, h1, r1⟩ := s.cells k a _ e ec
        exact .lst (.inl ⟨h1, no⟩) (r1.mapO (fun k a d' => resO_ok s f k a d') e1)
      · rename_i C fs ec
        obtain ⟨es, e1, e2⟩ := pmap_eq q
        subst e2
        obtain ⟨A, dx, vs, h1, m1, r1⟩ := s.cells k a _ e ec
        exact .ins h1 no m1 (r1.mapO (fun k a d' => resO_ok s f k a d') e1)
      · rename_i kvs ec
        obtain ⟨es, e1, e2⟩ := pmap_eq q
        subst e2
        rcases s.cells k a _ e ec with ⟨vs, h1, r1⟩ | ⟨vs, h1, r1⟩
        · exact .dK (.inl ⟨h1, no⟩) (r1.mapO (fun k a d' => resO_ok s f k a d') e1)
        · exact .dT (.inl ⟨h1, no⟩) (r1.mapO (fun k a d' => resO_ok s f k a d') e1)
      · cases q
/-! what is known at the start has only the first cells in it -/
mutual
theorem Rp.mapOld {c0 : Cw} {H0 : Hp} (hh : ∀ k, k < c0.as.length → h k = some (.own k)) : ∀ {v : V} {d : Dat}, Rp g c0 H0 v d → PL.mapO h d = some d
  | _, _, .non => by simp [PL.mapO]
  | _, _, .bl b => by simp [PL.mapO]
  | _, _, .int i => by simp [PL.mapO]
  | _, _, .str x => by simp [PL.mapO]
  | _, _, .lst s r => by simp [PL.mapO, RpAll.mapOld hh r]
  | _, _, .tup s r => by simp [PL.mapO, RpAll.mapOld hh r]
  | _, _, .kt s f r => by simp [PL.mapO]
  | _, _, .ins s q m r => by simp [PL.mapO, RpF.mapOld hh r]
  | _, _, .dK s r => by simp [PL.mapO, RpK.mapOld hh r]
  | _, _, .dT s r => by simp [PL.mapO, RpT.mapOld hh r]
  | _, _, .kd q => by simp [PL.mapO]
  | _, _, .own q => by rw [PL.mapO]; exact hh _ (List.getElem?_eq_some_iff.mp q).1
theorem RpAll.mapOld {c0 : Cw} {H0 : Hp} (hh : ∀ k, k < c0.as.length → h k = some (.own k)) : ∀ {v : List V} {d : List Dat}, RpAll g c0 H0 v d → mapOs h d = some d
  | _, _, .nil => by simp [mapOs]
  | _, _, .cons r t => by simp [mapOs, Rp.mapOld hh r, RpAll.mapOld hh t]
theorem RpF.mapOld {c0 : Cw} {H0 : Hp} (hh : ∀ k, k < c0.as.length → h k = some (.own k)) : ∀ {v : List (Str × V)} {d : List (Str × Dat)}, RpF g c0 H0 v d → mapOf h d = some d
  | _, _, .nil => by simp [mapOf]
  | _, _, .cons r t => by simp [mapOf, Rp.mapOld hh r, RpF.mapOld hh t]
theorem RpK.mapOld {c0 : Cw} {H0 : Hp} (hh : ∀ k, k < c0.as.length → h k = some (.own k)) : ∀ {v : List (Key × V)} {d : List (Dat × Dat)}, RpK g c0 H0 v d → mapOk h d = some d
  | _, _, .nil => by simp [mapOk]
  | _, _, .cons r t => by simp [mapOk, Rp.mapOld hh r, RpK.mapOld hh t]
theorem RpT.mapOld {c0 : Cw} {H0 : Hp} (hh : ∀ k, k < c0.as.length → h k = some (.own k)) : ∀ {v : List (List Key × V)} {d : List (Dat × Dat)}, RpT g c0 H0 v d → mapOk h d = some d
  | _, _, .one r => by simp [mapOk, Rp.mapOld hh r]
  | _, _, .cons r t => by simp [mapOk, Rp.mapOld hh r, RpT.mapOld hh t]
end
theorem resO_low {f k : Nat} (hk : k < n) : resO n S f k = some (.own k) := by
  cases f <;> (rw [resO, if_pos hk])
/-- the end of a def: what it made is made known -/
theorem cut_sto {c0 : Cw} {H0 H : Hp} {S0 S : Sto} (s0 : StoOk g c0 S0 H0) (s : StoOk g c S H) (x : Gr c0 H0 c H) (kp : Keep S0.length S0 S) : StoOk g (c.cut S0.length s.nd) (S.take S0.length) H ∧ Gr c0 H0 (c.cut S0.length s.nd) H := by
  obtain ⟨new, e, f⟩ := x.ex
  have l0 := s0.len
  have eas : c.as.take S0.length = c0.as := by rw [e, ← l0, List.take_append_of_le_length (Nat.le_refl _), List.take_length]
  have edr : c.as.drop S0.length = new := by rw [e, ← l0, List.drop_append_of_le_length (Nat.le_refl _), List.drop_length]; rfl
  refine ⟨⟨?_, ?_, fun a ha => s.own a ha.1, fun k a y e1 e2 => ?_⟩, ⟨[], ?_, fun _ h => nomatch h⟩, fun b hb => ⟨x.up b hb, ?_⟩, fun b hb => x.dn b hb.1, x.kp, x.ki⟩
  · show (c.as.take S0.length).length = _
    rw [List.length_take, List.length_take, s.len]
  · show (c.as.take S0.length).Nodup
    exact s.nd.sublist (List.take_sublist _ _)
  · have e1' : (c.as.take S0.length)[k]? = some a := e1
    have hk : k < S0.length := by
      have := (List.getElem?_eq_some_iff.mp e1').1
      rw [List.length_take] at this
      omega
    rw [List.getElem?_take_of_lt hk] at e1' e2
    have ck := s.cells k a y e1' e2
    have hh : ∀ (j : Nat) b d', c.as[j]? = some b → resO S0.length S S.length j = some d' → Rp g (c.cut S0.length s.nd) H (.ref b) d' := fun j b d' q1 q2 => resO_ok s _ j b d' q1 q2
    have lw : ∀ j, j < c0.as.length → resO S0.length S S.length j = some (.own j) := fun j hj => resO_low (by omega)
    rcases kp k hk with q | ⟨z, q, fz⟩
    · rw [q] at e2
      have e0 : c0.as[k]? = some a := by
        rw [e, List.getElem?_append_left (by omega)] at e1'
        exact e1'
      have ck0 := s0.cells k a y e0 e2
      cases y with
      | lst xs => obtain ⟨vs, h1, r1⟩ := ck; obtain ⟨vs0, _, r0⟩ := ck0; exact ⟨vs, h1, r1.mapO hh (r0.mapOld lw)⟩
      | ins C xs => obtain ⟨A, dx, vs, h1, m1, r1⟩ := ck; obtain ⟨A0, dx0, vs0, _, _, r0⟩ := ck0; exact ⟨A, dx, vs, h1, m1, r1.mapO hh (r0.mapOld lw)⟩
      | dict xs =>
        have old : mapOk (resO S0.length S S.length) xs = some xs := by
          rcases ck0 with ⟨vs0, _, r0⟩ | ⟨vs0, _, r0⟩
          · exact r0.mapOld lw
          · exact r0.mapOld lw
        rcases ck with ⟨vs, h1, r1⟩ | ⟨vs, h1, r1⟩
        · exact .inl ⟨vs, h1, r1.mapO hh old⟩
        · exact .inr ⟨vs, h1, r1.mapO hh old⟩
    · rw [q] at e2; cases e2
      cases y with
      | lst xs => obtain ⟨vs, h1, r1⟩ := ck; exact ⟨vs, h1, r1.mapO hh (mapOs_free _ xs fz)⟩
      | ins C xs => obtain ⟨A, dx, vs, h1, m1, r1⟩ := ck; exact ⟨A, dx, vs, h1, m1, r1.mapO hh (mapOf_free _ xs fz)⟩
      | dict xs =>
        rcases ck with ⟨vs, h1, r1⟩ | ⟨vs, h1, r1⟩
        · exact .inl ⟨vs, h1, r1.mapO hh (mapOk_free _ xs fz)⟩
        · exact .inr ⟨vs, h1, r1.mapO hh (mapOk_free _ xs fz)⟩
  · show c.as.take S0.length = c0.as ++ []
    rw [eas, List.append_nil]
  · rw [edr]
    intro z
    obtain ⟨u, hu⟩ := s0.own b hb
    rw [f b z] at hu; cases hu
end

theorem fin_ok {g : Gx} {c0 c : Cw} {H0 H : Hp} {S0 S S' : Sto} {v : V} {d d' : Dat} (s0 : StoOk g c0 S0 H0) (s : StoOk g c S H) (x : Gr c0 H0 c H) (r : Rp g c H v d) (e : fin S0 S d = .ok d' S') : ∃ c', Gr c0 H0 c' H ∧ StoOk g c' S' H ∧ Rp g c' H v d' := by
  unfold fin at e
  split at e
  · rename_i d1 e1
    split at e
    · rename_i kp
      cases e
      obtain ⟨h1, h2⟩ := cut_sto s0 s x (keepB_ok kp)
      exact ⟨_, h2, h1, r.mapO (fun k a d' q1 q2 => resO_ok s _ k a d' q1 q2) e1⟩
    · cases e
  · cases e
/-! ### defs -/
theorem env_start {g : Gx} {c : Cw} {H : Hp} {N : List Str} {vs : List V} {ds : List Dat} (r : RpAll g c H vs ds) : EnvOk g c (ent N.length ds) (start N vs) H := by
  have l := r.length
  refine ⟨by unfold L2.start ent; simp only [List.length_append, List.length_map, List.length_replicate]; omega, fun i d q => ?_⟩
  unfold ent at q
  by_cases hi : i < ds.length
  · rw [List.getElem?_append_left (by rw [List.length_map]; exact hi), List.getElem?_map] at q
    have e : ds[i]? = some d := by
      rw [List.getElem?_eq_getElem hi] at q ⊢
      simp only [Option.map_some] at q
      cases q; rfl
    obtain ⟨v, h1, h2⟩ := r.get e
    refine ⟨v, ?_, h2⟩
    unfold L2.start
    rw [List.getElem?_append_left (by rw [List.length_map]; omega), List.getElem?_map, h1]; rfl
  · rw [List.getElem?_append_right (by rw [List.length_map]; omega), List.getElem?_replicate] at q
    split at q <;> cases q
end PL

set_option Elab.async false
set_option linter.all false
set_option maxRecDepth 100000
set_option autoImplicit false
set_option maxHeartbeats 4000000
namespace PL
open PySem PySem.Spec PyProof.Rows L2

/-! ### argument lists, by their text -/
def noStar : Expr → Bool
  | .Starred _ _ => false
  | _ => true
theorem star_cons {e : Expr} {es : List Expr} {env : PySem.Env} (h : noStar e = true) : starEach (e :: es) env = (false, eval e env) :: starEach es env := by
  cases e <;> first | rfl | cases h
theorem back_plain {pos : Pos} {env : PySem.Env} : ∀ {es : List Expr}, es.all noStar = true → (backTo pos (starEach es env)).any (·.1) = false
  | [], _ => rfl
  | e :: es, h => by
    rw [List.all_cons, Bool.and_eq_true] at h
    rw [star_cons h.1]
    show (false || (backTo pos (starEach es env)).any (·.1)) = false
    rw [back_plain h.2]; rfl
theorem back_few {pos : Pos} {env : PySem.Env} : ∀ {es : List Expr}, es.all noStar = true → (backTo pos (starEach es env)).all (fun x => !x.1) = true
  | [], _ => rfl
  | e :: es, h => by
    rw [List.all_cons, Bool.and_eq_true] at h
    rw [star_cons h.1]
    show (true && (backTo pos (starEach es env)).all (fun x => !x.1)) = true
    rw [back_few h.2]; rfl
theorem kw_facts {pos : Pos} {env : PySem.Env} : ∀ {kws : List Keyword} {kn : List Str}, kws.map (·.arg) = kn.map some → (backToKw pos (keywordEach kws env)).all (·.1.isSome) = true ∧ (backToKw pos (keywordEach kws env)).any (·.1.isNone) = false ∧ (backToKw pos (keywordEach kws env)).filterMap (·.1) = kn
  | [], [], _ => ⟨rfl, rfl, rfl⟩
  | [], _ :: _, h => by simp at h
  | _ :: _, [], h => by simp at h
  | ⟨nm, v, p⟩ :: kws, k :: kn, h => by
    simp only [List.map_cons, List.cons.injEq] at h
    obtain ⟨h1, h2, h3⟩ := kw_facts (pos := pos) (env := env) h.2
    cases h.1
    refine ⟨?_, ?_, ?_⟩
    · show (true && (backToKw pos (keywordEach kws env)).all (·.1.isSome)) = true
      rw [h1]; rfl
    · show (false || (backToKw pos (keywordEach kws env)).any (·.1.isNone)) = false
      rw [h2]; rfl
    · show k :: (backToKw pos (keywordEach kws env)).filterMap (·.1) = _
      rw [h3]
abbrev SK (X : Cx) (W : WX) (kws : List Keyword) (m : MA) : Prop := PK X kws (RA (gOf X) W m)
theorem sk_nil {X : Cx} {W : WX} : SK X W [] mNil := ⟨fun pos pins s σ H Q I ⟨c, ρ, S, hE, hS, h⟩ => pk_nil.run pos pins s σ H Q I (Po.ok h hS [] .nil)⟩
theorem sk_cons {X : Cx} {W : WX} {e : Expr} {me : ME} {kws : List Keyword} {mA : MA} {nm : Option Str} {kpos : Pos} (ha : SE X W e me) (hr : SK X W kws mA) : SK X W (⟨nm, e, kpos⟩ :: kws) (mCons me mA) :=
  ⟨fun pos pins s σ H Q I ⟨c, ρ, S, hE, hS, h⟩ => (pk_cons ha hr).run pos pins s σ H Q I (by
    refine ⟨c, ρ, S, hE, hS, (Po.bnd h).mono fun c1 S1 x H1 g1 s1 h1 v rv => ?_⟩
    refine ⟨c1, ρ, S1, hE.gr g1, s1, (Po.bnd h1).mono fun c2 S2 xs H2 g2 s2 h2 vs rs => ?_⟩
    exact Po.ok h2 s2 (v :: vs) (.cons (rv.gr g2) rs))⟩
section
variable {X : Cx} {pins : List (Addr × Obj)} {σ : L2.St} {H : Hp} {s : Shared}
/-- the arguments of a call, then the call -/
theorem call_with {f : Value} {first : List Value} {es : List Expr} {kws : List Keyword} {kn : List Str} {t tk : TA} {pos : Pos} {Q : Value → Shared → Prop} (hk : PySem.W.keepIn X.K f = true) (hst : es.all noStar = true) (hkn : kws.map (·.arg) = kn.map some) (ha : PA X es t) (hkw : PK X kws tk) (hn1 : es = [] → ∀ σ H Q, t σ H Q → Q [] H) (hn2 : kws = [] → ∀ σ H Q, tk σ H Q → Q [] H) (I : Inv X pins σ H s)
    (h : t σ H fun vs H1 => tk σ H1 fun zs H2 => ∀ s2 us ws, Inv X pins σ H2 s2 → Vals vs us → Vals zs ws → wpAny (model X.prog X.w) X.A (call f (first ++ us) (kn.zip ws)) Q X.xe s2) :
    wpAny (model X.prog X.w) X.A (callWith pos f first (backTo pos (starEach es X.env)) (backToKw pos (keywordEach kws X.env))) Q X.xe s := by
  obtain ⟨k1, k2, k3⟩ := kw_facts (pos := pos) (env := X.env) hkn
  cases kws with
  | nil =>
    have e0 : kn = [] := by cases kn <;> simp at hkn; rfl
    subst e0
    cases es with
    | nil =>
      refine PySem.W.callWith_K0 I.kIn hk ?_
      exact hn2 rfl _ _ _ (hn1 rfl _ _ _ h) s [] [] I .nil .nil
    | cons e es =>
      have hs1 : noStar e = true := (Bool.and_eq_true _ _ ▸ List.all_cons ▸ hst : noStar e = true ∧ es.all noStar = true).1
      have hs2 : es.all noStar = true := (Bool.and_eq_true _ _ ▸ List.all_cons ▸ hst : noStar e = true ∧ es.all noStar = true).2
      refine PySem.W.callWith_K (h₀ := X.base) I.ok.mod.kin hk (thn (ha.run pos pins s σ H _ I h) fun us s1 ⟨vs, H1, I1, r, q⟩ => ⟨I1.kIn, ?_⟩) (star_cons hs1) (back_plain hs2)
      exact hn2 rfl _ _ _ q s1 us [] I1 r .nil
  | cons kw kws =>
    cases es with
    | nil =>
      refine PySem.W.callWith_KW0 (h₀ := X.base) I.ok.mod.kin hk k1 ?_ (by rw [back_plain (by rfl), k2]; rfl)
      refine thn (hkw.run pos pins s σ H _ I (hn1 rfl _ _ _ h)) fun ws s2 ⟨zs, H2, I2, rz, q2⟩ => ⟨I2.kIn, ?_⟩
      rw [k3]
      exact q2 s2 [] ws I2 .nil rz
    | cons e es =>
      have hs1 : noStar e = true := (Bool.and_eq_true _ _ ▸ List.all_cons ▸ hst : noStar e = true ∧ es.all noStar = true).1
      refine PySem.W.callWith_KW (h₀ := X.base) I.ok.mod.kin hk k1 (thn (ha.run pos pins s σ H _ I h) fun us s1 ⟨vs, H1, I1, r, q⟩ => ?_) (by rw [back_plain hst, k2]; rfl) (star_cons hs1)
      refine thn (hkw.run pos pins s1 σ H1 _ I1 q) fun ws s2 ⟨zs, H2, I2, rz, q2⟩ => ⟨I2.kIn, ?_⟩
      rw [k3]
      exact q2 s2 us ws I2 r rz
end
/-! ### promises -/
abbrev CXg (g : Gx) : CXT := L2.CX g.P g.w
/-- what is wanted of a def's answer -/
def PoV (g : Gx) (c : Cw) (H : Hp) (Q : VK) (E : XK) : Res Dat → Prop
  | .ok d S' => ∀ c' H' v, Gr c H c' H' → StoOk g c' S' H' → Rp g c' H' v d → Q v H'
  | .ex x S' => ∀ c' H' cls da, Gr c H c' H' → StoOk g c' S' H' → XOk g c' H' cls da x → E cls da H'
  | .bad => False
theorem PoV.gr {g : Gx} {c c1 : Cw} {H H1 : Hp} {Q : VK} {E : XK} {r : Res Dat} (x : Gr c H c1 H1) (h : PoV g c H Q E r) : PoV g c1 H1 Q E r := by
  cases r with
  | ok a S' => exact fun c' H' v g' s' => h c' H' v (x.trans g') s'
  | ex x' S' => exact fun c' H' cls da g' s' => h c' H' cls da (x.trans g') s'
  | bad => exact h
/-- the def f answers as F, where no repr runs -/
structure FnP (g : Gx) (base : Heap) (n : Nat) (f : Addr) (fd : FuncData) (ps : List Str) (F : Fun) : Prop where
  run : ∀ (A : Around) (outer : List PySem.Env) (s : Shared) (H : Hp) (args : Args) (Q : VK) (E : XK) (G : List V → Hp → Prop), A.guards = some [] → Room n A → Env0 g.P g.w g.K g.mg base A outer s H → StX.Bnd (CXg g) g.P g.w g.K g.mg base fd args ps A outer s H E G →
    (∀ vs H2, G vs H2 → ∃ c S ds, StoOk g c S H2 ∧ RpAll g c H2 vs ds ∧ PoV g c H2 Q E (F ds S)) → codeAny (model g.P g.w) A (.call (.ref f) args) (CR (CXg g) outer g.P g.w H s Q E) s
theorem FnP.mono {g : Gx} {base : Heap} {n m : Nat} {f : Addr} {fd : FuncData} {ps : List Str} {F : Fun} (p : FnP g base n f fd ps F) (h : n ≤ m) : FnP g base m f fd ps F :=
  ⟨fun A outer s H args Q E G gA hr => p.run A outer s H args Q E G gA (hr.mono h)⟩
/-- the names of the keywords -/
def Ar.kn : Ar → List Str
  | .all => []
  | .by_ _ _ kn _ => kn
/-- what a call binds -/
def BOk (g : Gx) (base : Heap) (fd : FuncData) (ps : List Str) (k : Nat) (ar : Ar) : Prop :=
  ∀ (A : Around) (outer : List PySem.Env) (s : Shared) (H : Hp) (E : XK) (fu us ws : List Value) (fv vs zs : List V) (c : Cw) (S : Sto) (fx xs ys ds : List Dat), Env0 g.P g.w g.K g.mg base A outer s H → fx.length = k → Vals fv fu → Vals vs us → Vals zs ws → StoOk g c S H → RpAll g c H fv fx → RpAll g c H vs xs → RpAll g c H zs ys → arD ar xs ys = some ds → (fx ++ ds).length = ps.length →
    StX.Bnd (CXg g) g.P g.w g.K g.mg base fd ⟨fu ++ us, ar.kn.zip ws⟩ ps A outer s H E (fun vs' H2 => Gr c H c H2 ∧ StoOk g c S H2 ∧ RpAll g c H2 vs' (fx ++ ds))
theorem Bnd.of_binds {CX : CXT} {P : Program} {w : World} {K : PySem.W.Frag} {mg : Str → Option Value} {base : Heap} {fd : FuncData} {args : Args} {ps : List Str} {A : Around} {outer : List PySem.Env} {s : Shared} {H : Hp} {E : XK} {G : List V → Hp → Prop} {vs : List V} {us : List Value}
    (e0 : Env0 P w K mg base A outer s H) (hb : BindsTo s fd args (ps.zip us)) (r : Vals vs us) (hl : vs.length = ps.length) (hG : G vs H) : StX.Bnd CX P w K mg base fd args ps A outer s H E G :=
  fun A' Ex Q h => hb _ _ _ _ (h s H vs us e0 Un.refl rfl (fun _ _ z => z) r hl hG)
/-- every parameter is given, by position -/
theorem bok_all {g : Gx} {base : Heap} {fd : FuncData} {ps : List Str} {k : Nat} (hb : Binds g.K fd ps []) : BOk g base fd ps k .all := by
  intro A outer s H E fu us ws fv vs zs c S fx xs ys ds e0 hk rf r rz hS rfx rx ry ha hl
  cases ha
  have kin : g.K.In s.heap := e0.mod.kin.keeps fun b o e => (e0.bs b o e).1
  have lu : (fu ++ us).length = ps.length := by rw [List.length_append, ← r.length, rx.length, ← rf.length, rfx.length, ← List.length_append]; exact hl
  have e1 : Ar.all.kn.zip ws = [] := rfl
  rw [e1]
  refine Bnd.of_binds e0 ?_ (rf.append r) (by rw [(rfx.append rx).length]; exact hl) ⟨.refl, hS, rfx.append rx⟩
  have := hb s (fu ++ us) kin (by rw [List.append_nil]; exact lu)
  rwa [List.append_nil] at this
end PL

set_option Elab.async false
set_option linter.all false
set_option maxRecDepth 100000
set_option autoImplicit false
set_option maxHeartbeats 4000000
namespace PL
open PySem PySem.Spec PyProof.Rows L2

/-! ### a def keeps its promise -/
section
variable {g : Gx} {c : Cw} {S : Sto} {H : Hp} {Q : VK} {E : XK} {Φ : Fe} {fd : Fd} {ds : List Dat} {vs : List V}
theorem PoV.body (hS : StoOk g c S H) (h : PoV g c H Q E (runF Φ fd ds S)) : ds.length = fd.np ∧ Ps g (fun cls d _ H => E cls d H) { nx := fun _ H' => Q .non H', rt := Q } c H (evSs Φ fd.body (ent fd.ns ds) S) := by
  unfold runF at h
  split at h
  · rename_i hl
    refine ⟨hl, ?_⟩
    split at h
    · rename_i d S' e
      rw [e]
      intro c' v H' g' s' rv
      split at h
      · cases q : fin S S' d with
        | bad => rw [q] at h; exact h.elim
        | ex x S2 => exfalso; unfold fin at q; split at q <;> (try split at q) <;> cases q
        | ok d' S2 =>
          rw [q] at h
          obtain ⟨c2, g2, s2, r2⟩ := fin_ok hS s' g' rv q
          exact h c2 H' v g2 s2 r2
      · exact h c' H' v g' s' rv
    · rename_i ρ' S' e
      rw [e]
      intro c' σ' H' g' s' _
      split at h
      · cases q : fin S S' .none with
        | bad => rw [q] at h; exact h.elim
        | ex x S2 => exfalso; unfold fin at q; split at q <;> (try split at q) <;> cases q
        | ok d' S2 =>
          rw [q] at h
          obtain ⟨c2, g2, s2, r2⟩ := fin_ok hS s' g' .non q
          exact h c2 H' .non g2 s2 r2
      · exact h c' H' .non g' s' .non
    · rename_i x ρ' S' e
      rw [e]
      intro c' σ' H' cls da g' s' _ x'
      exact h c' H' cls da g' s' x'
    · exact h.elim
  · exact h.elim
end
theorem fn_ok {g : Gx} {base : Heap} {n : Nat} {Φ : Fe} {fd : Fd} {f : Addr} {name qual : Str} {params : Arguments} {body : List Stmt} {scope : Scope} {dV kV doc pm cdv ct oc : Value} {an od : Option Addr} {osl : Array (Option Value)} {N ps : List Str}
    (lk : g.K.lookup f = some ⟨oc, od, .func (PySem.W.fnOf name qual params body scope dV kV doc pm an cdv ct), osl⟩) (hcd : PySem.W.codeIn g.K cdv qual = true) (Sc : FnScope N ps scope) (hN : N.length = fd.ns)
    (hbody : ∀ (A : Around) (outer : List PySem.Env) (s2 : Shared) (H2 : Hp) (E : XK), A.guards = some [] → Room n (A.deeper (envOfC qual scope s2.heap.objs.size f cdv)) →
      SSs (cxOf (CXg g) g.P g.w g.K g.mg base N qual scope f cdv A outer s2 H2 E) (fun cls d _ H => E cls d H) body (evSs Φ fd.body)) :
    FnP g base (n + 1) f (PySem.W.fnOf name qual params body scope dV kV doc pm an cdv ct) ps (runF Φ fd) := by
  refine ⟨fun A outer s H args Q E G gA hr e0 hb hG => ?_⟩
  refine StX.run_bnd lk hcd Sc hr e0 hb fun s2 H2 vs hg hr' => ⟨_, hbody A outer s2 H2 E gA hr', ?_⟩
  obtain ⟨c, S, ds, hS, rd, hp⟩ := hG vs H2 hg
  obtain ⟨hl, hps⟩ := PoV.body hS hp
  refine ⟨c, ent fd.ns ds, S, ?_, hS, hps⟩
  rw [← hN]
  exact env_start rd
theorem takes_cx {g : Gx} {base : Heap} {N : List Str} {qual : Str} {scope : Scope} {f : Addr} {cdv : Value} {A : Around} {outer : List PySem.Env} {s2 : Shared} {H2 : Hp} {E : XK} :
    Takes (cxOf (CXg g) g.P g.w g.K g.mg base N qual scope f cdv A outer s2 H2 E) (fun cls d _ H => E cls d H) := takes_of rfl rfl rfl rfl
/-! ### calls -/
section
variable {X : Cx} {W : WX} {pins : List (Addr × Obj)} {σ : L2.St} {H : Hp} {s : Shared}
theorem Po.toV {c : Cw} {Q : VK} {r : Res Dat} (h : Po (gOf X) W σ c H (VF (gOf X) Q) r) : PoV (gOf X) c H Q (fun cls d H' => W cls d σ H') r := by
  cases r with
  | ok d S' => exact fun c' H' v g' s' rv => h c' H' g' s' v rv
  | ex x S' => exact h
  | bad => exact h
/-- a def that is called: its answer reaches the caller -/
theorem after_call {f : Value} {args : Args} {Q : VK} {A : Around} (tk : Takes X W) (I : Inv X pins σ H s) (h : codeAny (model X.prog X.w) A (.call f args) (CR (CXg (gOf X)) X.stack X.prog X.w H s Q (fun cls d H' => W cls d σ H')) s) :
    codeAny (model X.prog X.w) A (.call f args) (fun r s' => match r with | .ok (.ret v) => EP X pins σ Q v s' | .ok _ => False | .error e => X.xe e s') s := by
  refine codeAny_mono h fun r s' hq => ?_
  cases r with
  | error e => exact tk e s' (XE.of_call (W := W) I (fun _ _ _ z => z) hq)
  | ok fl =>
    cases fl with
    | ret u => exact I.after hq
    | next => exact False.elim hq
    | brk => exact False.elim hq
    | cont => exact False.elim hq
/-- a def of the module can be called by its name -/
structure CalP (g : Gx) (base : Heap) (n : Nat) (x : Str) (ar : Ar) (F : Fun) : Prop where
  ex : ∃ f fd ps, FnP g base n f fd ps F ∧ g.mg x = some (.ref f) ∧ PySem.W.keepIn g.K (.ref f) = true ∧ BOk g base fd ps 0 ar ∧ ∀ ds S, ds.length ≠ ps.length → F ds S = .bad
theorem se_call {es : List Expr} {kws : List Keyword} {mA mK : MA} {x : Str} {ar : Ar} {F : Fun} {n : Nat} {p pos : Pos} (cp : CalP (gOf X) X.base n x ar F) (gA : X.A.guards = some []) (hr : Room n X.A) (tk : Takes X W) (hg : Gl X x) (hdb : (x == ("__debug__" : Str)) = false) (hst : es.all noStar = true)
    (hkn : kws.map (·.arg) = ar.kn.map some) (ha : SA X W es mA) (hkw : SK X W kws mK) (hn1 : es = [] → mA = mNil) (hn2 : kws = [] → mK = mNil) : SE X W (.Call (.Name x p) es kws pos) (mCallK F mA mK ar) := by
  obtain ⟨f, fd, ps, P, hm, hk, hb, hbad⟩ := cp.ex
  refine ⟨fun pins s σ H Q I h => wpAny_Call_Name_kw (ld_glob I hg hm ?_ hdb)⟩
  refine call_with hk hst hkn ha hkw (fun e σ H Q q => by rw [hn1 e] at q; obtain ⟨c, ρ, S, _, hS, q⟩ := q; exact Po.ok q hS [] .nil) (fun e σ H Q q => by rw [hn2 e] at q; obtain ⟨c, ρ, S, _, hS, q⟩ := q; exact Po.ok q hS [] .nil) I ?_
  obtain ⟨c, ρ, S, hE, hS, h⟩ := h
  refine ⟨c, ρ, S, hE, hS, (Po.bnd h).mono fun c1 S1 xs H1 g1 s1 h1 vs rv => ?_⟩
  refine ⟨c1, ρ, S1, hE.gr g1, s1, (Po.bnd h1).mono fun c2 S2 ys H2 g2 s2 h2 zs rz s3 us ws I3 r3 rz3 => ?_⟩
  split at h2
  · rename_i ds hd
    by_cases hl : ds.length = ps.length
    · refine wpAny_call (after_call tk I3 (P.run X.A X.stack s3 H2 ⟨us, ar.kn.zip ws⟩ Q _ _ gA hr I3.env0 (hb X.A X.stack s3 H2 _ [] us ws [] vs zs c2 S2 [] xs ys ds I3.env0 rfl .nil r3 rz3 s2 .nil (rv.gr g2) rz hd hl) fun vs' H4 ⟨k1, k2, k3⟩ => ⟨c2, S2, ds, k2, k3, (Po.toV h2).gr k1⟩))
    · rw [hbad ds S2 hl] at h2; exact h2.elim
  · exact h2.elim
end
end PL

set_option Elab.async false
set_option linter.all false
set_option maxRecDepth 100000
set_option autoImplicit false
set_option maxHeartbeats 4000000
namespace PL
open PySem PySem.Spec PyProof.Rows L2

/-! ### instances that are made -/
section
variable {X : Cx} {W : WX} {pins : List (Addr × Obj)} {σ : L2.St} {H : Hp} {s : Shared}
structure MkP (g : Gx) (base : Heap) (n : Nat) (C : Str) (ar : Ar) (F : Fun) : Prop where
  ex : ∃ A f fd ps, FnP g base n f fd ps F ∧ g.mg C = some (.ref A) ∧ ClsF g.K A ∧ Mk g.K A f ∧ BOk g base fd ps 1 ar ∧ ∀ ds S, ds.length ≠ ps.length → F ds S = .bad
theorem mk_want {c2 : Cw} {S2 : Sto} {H2 : Hp} {x dx A : Addr} {C : Str} {F : Fun} {fz : Bool} {ds : List Dat} {Q : VK} (s2 : StoOk (gOf X) c2 S2 H2) (hx : H2 x = none) (hdx : H2 dx = none) (ne : x ≠ dx) (hm : X.mg C = some (.ref A)) (cf : ClsF X.K A) (h2 : Po (gOf X) W σ c2 H2 (VF (gOf X) Q) (runMk F fz C ds S2)) :
    Gr c2 H2 (c2.add x) (upd (upd H2 dx (.own x)) x (.ins A dx [])) ∧ StoOk (gOf X) (c2.add x) (S2 ++ [.ins C []]) (upd (upd H2 dx (.own x)) x (.ins A dx [])) ∧ Rp (gOf X) (c2.add x) (upd (upd H2 dx (.own x)) x (.ins A dx [])) (.ref x) (.own S2.length) ∧
    PoV (gOf X) (c2.add x) (upd (upd H2 dx (.own x)) x (.ins A dx [])) (fun v H' => v = .non ∧ Q (.ref x) H') (fun cls d H' => W cls d σ H') (F (.own S2.length :: ds) (S2 ++ [.ins C []])) := by
  have hx' : upd H2 dx (.own x) x = none := by rw [upd_ne ne]; exact hx
  have sD : StoOk (gOf X) c2 S2 (upd H2 dx (.own x)) := s2.same (same_new hdx)
  have gD : Gr c2 H2 c2 (upd H2 dx (.own x)) := .of_same (same_new hdx)
  have gN : Gr c2 H2 (c2.add x) (upd (upd H2 dx (.own x)) x (.ins A dx [])) := gD.trans (.add hx')
  have sN : StoOk (gOf X) (c2.add x) (S2 ++ [.ins C []]) (upd (upd H2 dx (.own x)) x (.ins A dx [])) := sD.add hx' ⟨A, dx, [], upd_same, ⟨hm, cf, fun p hp => nomatch hp⟩, .nil⟩
  have own : Rp (gOf X) (c2.add x) (upd (upd H2 dx (.own x)) x (.ins A dx [])) (.ref x) (.own S2.length) := .own (as_last s2)
  refine ⟨gN, sN, own, ?_⟩
  unfold runMk at h2
  cases q : F (.own S2.length :: ds) (S2 ++ [.ins C []]) with
  | bad => rw [q] at h2; exact h2.elim
  | ex y S4 =>
    rw [q] at h2
    exact fun c4 H4 cls da g4 s4 x4 => h2 c4 H4 cls da (gN.trans g4) s4 x4
  | ok d S4 =>
    rw [q] at h2
    rw [bnd_ok] at h2
    intro c4 H4 v g4 s4 r4
    split at h2
    · refine ⟨r4.non_inv, ?_⟩
      have own4 := own.gr g4
      split at h2
      · cases q2 : fin S2 S4 (.own S2.length) with
        | bad => rw [q2] at h2; exact h2.elim
        | ex x S2 => exfalso; unfold fin at q2; split at q2 <;> (try split at q2) <;> cases q2
        | ok d' S5 =>
          rw [q2] at h2
          obtain ⟨c5, g5, s5, r5⟩ := fin_ok s2 s4 (gN.trans g4) own4 q2
          exact h2 c5 H4 g5 s5 (.ref x) r5
      · exact h2 c4 H4 (gN.trans g4) s4 (.ref x) own4
    · exact h2.elim
theorem se_make {es : List Expr} {kws : List Keyword} {mA mK : MA} {C : Str} {ar : Ar} {F : Fun} {fz : Bool} {n : Nat} {p pos : Pos} (cp : MkP (gOf X) X.base n C ar F) (gA : X.A.guards = some []) (hr : Room (n + 1) X.A) (tk : Takes X W) (hg : Gl X C) (hdb : (C == ("__debug__" : Str)) = false) (hst : es.all noStar = true)
    (hkn : kws.map (·.arg) = ar.kn.map some) (ha : SA X W es mA) (hkw : SK X W kws mK) (hn1 : es = [] → mA = mNil) (hn2 : kws = [] → mK = mNil) : SE X W (.Call (.Name C p) es kws pos) (mCallK (runMk F fz C) mA mK ar) := by
  obtain ⟨A, f, fd, ps, P, hm, cf, M, hb, hbad⟩ := cp.ex
  refine ⟨fun pins s σ H Q I h => wpAny_Call_Name_kw (ld_glob I hg hm ?_ hdb)⟩
  refine call_with M.kp hst hkn ha hkw (fun e σ H Q q => by rw [hn1 e] at q; obtain ⟨c, ρ, S, _, hS, q⟩ := q; exact Po.ok q hS [] .nil) (fun e σ H Q q => by rw [hn2 e] at q; obtain ⟨c, ρ, S, _, hS, q⟩ := q; exact Po.ok q hS [] .nil) I ?_
  obtain ⟨c, ρ, S, hE, hS, h⟩ := h
  refine ⟨c, ρ, S, hE, hS, (Po.bnd h).mono fun c1 S1 xs H1 g1 s1 h1 vs rv => ?_⟩
  refine ⟨c1, ρ, S1, hE.gr g1, s1, (Po.bnd h1).mono fun c2 S2 ys H2 g2 s2 h2 zs rz s3 us ws I3 r3 rz3 => ?_⟩
  split at h2
  · rename_i ds hd
    obtain ⟨gN, sN, own, want⟩ := mk_want s2 (I3.hok.fresh (Nat.le_succ s3.heap.objs.size)) (I3.hok.fresh (Nat.le_refl s3.heap.objs.size)) (Nat.succ_ne_self _) hm cf h2
    have I4 := Inv.made (C := A) I3
    by_cases hl : (Dat.own S2.length :: ds).length = ps.length
    · have rf : Vals [V.ref (s3.heap.objs.size + 1)] [Value.ref (s3.heap.objs.size + 1)] := .cons rfl .nil
      refine wpAny_call (make_map (f := f) I3.kIn M.makes M.init (beq_iff_eq.mp M.fn) (codeAny_mono (P.run _ X.stack _ _ ⟨[Value.ref (s3.heap.objs.size + 1)] ++ us, ar.kn.zip ws⟩ _ (fun cls d H' => W cls d σ H') _ gA (hr.make A us (ar.kn.zip ws))
        (I4.env0.make A us (ar.kn.zip ws)) (hb _ X.stack _ _ _ [Value.ref (s3.heap.objs.size + 1)] us ws [V.ref (s3.heap.objs.size + 1)] vs zs _ _ [.own S2.length] xs ys ds (I4.env0.make A us (ar.kn.zip ws)) rfl rf r3 rz3 sN (.cons own .nil) ((rv.gr g2).gr gN) (rz.gr gN) hd hl) fun vs' H5 ⟨k1, k2, k3⟩ => ⟨_, _, _, k2, k3, want.gr k1⟩) fun r s' hq' => ?_))
      cases r with
      | error e => exact tk e s' (XE.of_call (W := W) I4 (fun _ _ _ z => z) hq')
      | ok fl =>
        cases fl with
        | ret u =>
          obtain ⟨v, H', I5, rv', ev, q3⟩ := I4.after hq'
          subst ev
          exact ⟨rv', ⟨V.ref (s3.heap.objs.size + 1), H', I5, rfl, q3⟩⟩
        | next => exact False.elim hq'
        | brk => exact False.elim hq'
        | cont => exact False.elim hq'
    · rw [hbad _ _ hl] at want; exact want.elim
  · exact h2.elim
end
end PL

set_option Elab.async false
set_option linter.all false
set_option maxRecDepth 100000
set_option autoImplicit false
set_option maxHeartbeats 4000000
namespace PL
open PySem PySem.Spec PyProof.Rows L2

/-! ### methods -/
def plainBase : Expr → Bool
  | .Call _ _ _ _ => false
  | _ => true
theorem base_plain {o : Expr} {m : Str} {env : PySem.Env} (h : plainBase o = true) : attributeBase o m env (eval o env) = eval o env := by
  cases o <;> first | rfl | cases h
section
variable {X : Cx} {W : WX} {pins : List (Addr × Obj)} {σ : L2.St} {H : Hp} {s : Shared}
theorem isInst_eq {S : Sto} {x : Dat} {C : Str} (h : isInst S x C = true) : ∃ fs, look S x = .ins C fs := by
  unfold isInst at h
  split at h
  · rename_i D fs e
    exact ⟨fs, by rw [e, of_decide_eq_true h]⟩
  · cases h
/-- an instance of the class -/
theorem inst_of {c : Cw} {S : Sto} {v : V} {x : Dat} {C : Str} {A : Addr} (s : StoOk (gOf X) c S H) (r : Rp (gOf X) c H v x) (h : isInst S x C = true) (hm : X.mg C = some (.ref A)) : ∃ a dx fs, v = .ref a ∧ H a = some (.ins A dx fs) ∧ ClsF X.K A ∧ ∀ m f, PySem.W.findIn X.K (.ref A) m = some (some f) → fs.lookup m = none := by
  obtain ⟨gs, e⟩ := isInst_eq h
  obtain ⟨a, A', dx, fs, rfl, ha, ik, _⟩ := look_ins s r e
  have e2 := ik.1
  rw [show (gOf X).mg C = some (.ref A) from hm] at e2
  cases e2
  refine ⟨a, dx, fs, rfl, ha, ik.2.1, fun m f hf => ?_⟩
  cases q : fs.lookup m with
  | none => rfl
  | some w =>
    have n : PySem.W.findIn X.K (.ref A) m = some none := ik.2.2 _ (lookup_mem q)
    rw [n] at hf; cases hf
theorem meth_call {o : Expr} {m : Str} {apos pos : Pos} {es : List Expr} {kws : List Keyword} {kn : List Str} {Q : Value → Shared → Prop} (hbase : attributeBase o m X.env (eval o X.env) = eval o X.env) (hst : es.all noStar = true) (hkn : kws.map (·.arg) = kn.map some) (hfew : es.length + kws.length < 29) (hline : (apos.endLine == pos.line) = true)
    (h : wpAny (model X.prog X.w) X.A (eval o X.env) (fun ov s₁ => ∀ pl, wpAny (model X.prog X.w) X.A (getMethod ov m pl) (fun fx s₂ => wpAny (model X.prog X.w) X.A (callWith pos fx.1 fx.2 (backTo pos (starEach es X.env)) (backToKw pos (keywordEach kws X.env))) Q X.xe s₂) X.xe s₁) X.xe s) :
    wpAny (model X.prog X.w) X.A (eval (.Call (.Attribute o m apos) es kws pos) X.env) Q X.xe s := by
  rw [arm_eval_Call, hbase]
  refine wpAny_bind (wpAny_mono h (fun ov s₁ h₁ => ?_) fun _ _ e => e)
  refine wpAny_bind (wpAny_standAt ?_)
  have hform : methodCallForm (es.length + kws.length) (backTo pos (starEach es X.env)) (backToKw pos (keywordEach kws X.env)) = true := by
    unfold methodCallForm
    rw [back_few hst, (kw_facts (pos := pos) (env := X.env) hkn).1]
    simp only [Bool.and_self, Bool.true_and, decide_eq_true_eq]
    split <;> omega
  have hpos : methodCallPos true o X.env apos pos = pure pos := by unfold methodCallPos; simp [hline]
  unfold methodCall
  rw [hform]
  refine wpAny_bind (wpAny_holding (wpAny_mono (h₁ _) (fun fx s₂ h₂ => ?_) fun _ _ e => e))
  exact wpAny_bind (wpAny_of_eq hpos h₂)
structure MetP (g : Gx) (base : Heap) (n : Nat) (C m : Str) (ar : Ar) (F : Fun) : Prop where
  ex : ∃ A f fd ps, FnP g base n f fd ps F ∧ g.mg C = some (.ref A) ∧ Meth g.K A m f ∧ BOk g base fd ps 1 ar ∧ ∀ ds S, ds.length ≠ ps.length → F ds S = .bad
theorem se_meth {o : Expr} {es : List Expr} {kws : List Keyword} {mo : ME} {mA mK : MA} {C m : Str} {ar : Ar} {F : Fun} {n : Nat} {apos pos : Pos} (cp : MetP (gOf X) X.base n C m ar F) (gA : X.A.guards = some []) (hr : Room n X.A) (tk : Takes X W) (hbase : attributeBase o m X.env (eval o X.env) = eval o X.env) (hst : es.all noStar = true)
    (hkn : kws.map (·.arg) = ar.kn.map some) (hfew : es.length + kws.length < 29) (hline : (apos.endLine == pos.line) = true) (ho : SE X W o mo) (ha : SA X W es mA) (hkw : SK X W kws mK) (hn1 : es = [] → mA = mNil) (hn2 : kws = [] → mK = mNil) : SE X W (.Call (.Attribute o m apos) es kws pos) (mMeth C F mo mA mK ar) := by
  obtain ⟨A, f, fd, ps, P, hm, hM, hb, hbad⟩ := cp.ex
  refine ⟨fun pins s σ H Q I ⟨c, ρ, S, hE, hS, h⟩ => meth_call hbase hst hkn hfew hline ?_⟩
  refine thn (ho.run pins s σ H (fun x H1 => ∃ a dx fs, x = .ref a ∧ H1 a = some (.ins A dx fs) ∧ ClsF X.K A ∧ fs.lookup m = none ∧ RA (gOf X) W mA σ H1 fun vs H2 => RA (gOf X) W mK σ H2 fun zs H3 => ∀ s2 us ws, Inv X pins σ H3 s2 → Vals vs us → Vals zs ws → wpAny (model X.prog X.w) X.A (call (.ref f) ([.ref a] ++ us) (ar.kn.zip ws)) (EP X pins σ Q) X.xe s2) I ?_) fun u s1 ⟨x, H1, I1, rx, a, dx, fs, ex, ea, cf, hl, q⟩ pl => ?_
  · refine ⟨c, ρ, S, hE, hS, (Po.bnd h).mono fun c1 S1 x H1 g1 s1 h1 v rv => ?_⟩
    split at h1
    · rename_i hi
      obtain ⟨a, dx, fs, rfl, ea, cf, hno⟩ := inst_of s1 rv hi hm
      refine ⟨a, dx, fs, rfl, ea, cf, hno m _ hM.at_, c1, ρ, S1, hE.gr g1, s1, (Po.bnd h1).mono fun c2 S2 xs H2 g2 s2 h2 vs rvs => ?_⟩
      refine ⟨c2, ρ, S2, (hE.gr g1).gr g2, s2, (Po.bnd h2).mono fun c3 S3 ys H3 g3 s3 h3 zs rz s4 us ws I4 r4 rz4 => ?_⟩
      split at h3
      · rename_i ds hd
        by_cases hl : (x :: ds).length = ps.length
        · refine wpAny_call (after_call tk I4 (P.run X.A X.stack s4 H3 ⟨[.ref a] ++ us, ar.kn.zip ws⟩ Q _ _ gA hr I4.env0 (hb X.A X.stack s4 H3 _ [.ref a] us ws [.ref a] vs zs c3 S3 [x] xs ys ds I4.env0 rfl (.cons rfl .nil) r4 rz4 s3 (.cons ((rv.gr g2).gr g3) .nil) (rvs.gr g3) rz hd hl) fun vs' H5 ⟨k1, k2, k3⟩ => ⟨c3, S3, _, k2, k3, (Po.toV h3).gr k1⟩))
        · rw [hbad _ _ hl] at h3; exact h3.elim
      · exact h3.elim
    · exact h1.elim
  · subst ex
    obtain rfl : u = Value.ref a := rx
    refine getmeth_ok I1 ea cf.cl hM hl ?_
    exact call_with hM.kp hst hkn ha hkw (fun e σ H Q q => by rw [hn1 e] at q; obtain ⟨c, ρ, S, _, hS, q⟩ := q; exact Po.ok q hS [] .nil) (fun e σ H Q q => by rw [hn2 e] at q; obtain ⟨c, ρ, S, _, hS, q⟩ := q; exact Po.ok q hS [] .nil) I1 q
end
end PL

set_option Elab.async false
set_option linter.all false
set_option maxRecDepth 100000
set_option autoImplicit false
set_option maxHeartbeats 4000000
namespace PL
open PySem PySem.Spec PyProof.Rows L2

/-! ### own special methods -/
section
variable {X : Cx} {W : WX} {pins : List (Addr × Obj)} {σ : L2.St} {H : Hp} {s : Shared}
/-- the method of an instance, called by the machine -/
theorem spec_call {A : Around} {n : Nat} {f a : Addr} {fd : FuncData} {ps : List Str} {F : Fun} {us : List Value} {vs : List V} {x : Dat} {xs : List Dat} {c : Cw} {S : Sto} {Q : VK} (gA : A.guards = some []) (hr : Room n A) (e0 : Env0 X.prog X.w X.K X.mg X.base A X.stack s H) (P : FnP (gOf X) X.base n f fd ps F) (hb : BOk (gOf X) X.base fd ps 1 .all)
    (hbad : ∀ ds S, ds.length ≠ ps.length → F ds S = .bad) (tk : Takes X W) (I : Inv X pins σ H s) (hS : StoOk (gOf X) c S H) (rx : Rp (gOf X) c H (.ref a) x) (rv : RpAll (gOf X) c H vs xs) (r : Vals vs us) (h : PoV (gOf X) c H Q (fun cls d H' => W cls d σ H') (F (x :: xs) S)) :
    wpAny (model X.prog X.w) A (call (.ref f) (.ref a :: us)) (EP X pins σ Q) X.xe s := by
  by_cases hl : (x :: xs).length = ps.length
  · exact wpAny_call (after_call tk I (P.run A X.stack s H ⟨[.ref a] ++ us, []⟩ Q _ _ gA hr e0 (hb A X.stack s H _ [.ref a] us [] [.ref a] vs [] c S [x] xs [] xs e0 rfl (.cons rfl .nil) r .nil hS (.cons rx .nil) rv .nil rfl hl) fun vs' H5 ⟨k1, k2, k3⟩ => ⟨c, S, _, k2, k3, h.gr k1⟩))
  · rw [hbad _ _ hl] at h; exact h.elim
def plainIx : Expr → Bool
  | .Slice _ _ _ _ => false
  | _ => true
theorem ix_plain {i : Expr} (h : plainIx i = true) : PlainIx i := by
  intro o v
  cases i <;> first | rfl | cases h
theorem ix_own {i : Expr} (h : plainIx i = true) (o v : Value) : subscripted i true o v = runValue (.builtin "lifetime.subscript" ⟨[o, v], []⟩) := by
  cases i <;> first | rfl | cases h
/-- o[i], an own __getitem__ -/
theorem se_getI {a b : Expr} {ma mb : ME} {C : Str} {F : Fun} {n : Nat} {pos : Pos} (cp : MetP (gOf X) X.base n C "__getitem__" .all F) (hfn : ∀ A f, X.mg C = some (.ref A) → PySem.W.findIn X.K (.ref A) "__getitem__" = some (some (.ref f)) → PySem.W.fnIn X.K f = true) (gA : X.A.guards = some []) (hr : Room (n + 1) X.A) (tk : Takes X W)
    (hi : plainIx b = true) (ha : SE X W a ma) (hb : SE X W b mb) : SE X W (.Subscript a b pos) (mGetI C F ma mb) := by
  obtain ⟨A, f, fd, ps, P, hm, hM, hbk, hbad⟩ := cp.ex
  refine ⟨fun pins s σ H Q I ⟨c, ρ, S, hE, hS, h⟩ => Subscript_ (binT ha hb (R := fun x y H2 => ∃ c2 S2 d e, StoOk (gOf X) c2 S2 H2 ∧ Rp (gOf X) c2 H2 x d ∧ Rp (gOf X) c2 H2 y e ∧ isInst S2 d C = true ∧ Po (gOf X) W σ c2 H2 (VF (gOf X) Q) (F [d, e] S2)) I ?_ fun v u s2 x y H2 I2 rx ry ⟨c2, S2, d, e, hS2, rd, re, hi2, h2⟩ => ?_)⟩
  · refine ⟨c, ρ, S, hE, hS, (Po.bnd h).mono fun c1 S1 x H1 g1 s1 h1 v rv => ?_⟩
    refine ⟨c1, ρ, S1, hE.gr g1, s1, (Po.bnd h1).mono fun c2 S2 y H2 g2 s2 h2 u ru => ?_⟩
    split at h2
    · rename_i hi; exact ⟨c2, S2, x, y, s2, rv.gr g2, ru, hi, h2⟩
    · exact h2.elim
  · obtain ⟨p, dx, fs, rfl, ea, cf, hno⟩ := inst_of hS2 rd hi2 hm
    cases rx
    obtain ⟨mA, O, _⟩ := ins_get I2.hok ea
    obtain ⟨od, J, _⟩ := O.look
    obtain ⟨mm, hF⟩ := I2.fr
    refine PySem.W.sub_K hF I2.ok.mod.kin J hM.at_ (hfn A f hm hM.at_) hM.fn ?_ (ix_own hi _ _)
    exact spec_call (xs := [e]) (vs := [y]) (us := [u]) gA hr.in1 I2.env0.in1 P hbk hbad tk I2 hS2 rd (.cons re .nil) (.cons ry .nil) (Po.toV h2)
/-- x in o, an own __contains__ -/
theorem pc_cont {a b : Expr} {ma mb : ME} {C : Str} {F : Fun} {neg : Bool} {n : Nat} (cp : MetP (gOf X) X.base n C "__contains__" .all F) (gA : X.A.guards = some []) (hr : Room n X.A) (tk : Takes X W) (ha : SE X W a ma) (hb : SE X W b mb) : PC X (if neg then .NotIn else .In) a b (RE (gOf X) W (mContO C F neg ma mb)) := by
  obtain ⟨A, f, fd, ps, P, hm, hM, hbk, hbad⟩ := cp.ex
  refine ⟨fun pins s σ H Q I ⟨c, ρ, S, hE, hS, h⟩ => binT ha hb (R := fun x y H2 => ∃ c2 S2 d e, StoOk (gOf X) c2 S2 H2 ∧ Rp (gOf X) c2 H2 x d ∧ Rp (gOf X) c2 H2 y e ∧ isInst S2 e C = true ∧ Po (gOf X) W σ c2 H2 (VF (gOf X) Q) ((F [e, d] S2).bnd fun z S3 => mBoolF neg z S3)) I ?_ fun v u s2 x y H2 I2 rx ry ⟨c2, S2, d, e, hS2, rd, re, hi2, h2⟩ => ?_⟩
  · refine ⟨c, ρ, S, hE, hS, (Po.bnd h).mono fun c1 S1 x H1 g1 s1 h1 v rv => ?_⟩
    refine ⟨c1, ρ, S1, hE.gr g1, s1, (Po.bnd h1).mono fun c2 S2 y H2 g2 s2 h2 u ru => ?_⟩
    split at h2
    · rename_i hi; exact ⟨c2, S2, x, y, s2, rv.gr g2, ru, hi, h2⟩
    · exact h2.elim
  · obtain ⟨p, dx, fs, rfl, ea, cf, hno⟩ := inst_of hS2 re hi2 hm
    cases ry
    obtain ⟨mA, O, _⟩ := ins_get I2.hok ea
    obtain ⟨od, J, _⟩ := O.look
    obtain ⟨mm, hF⟩ := I2.fr
    have h3 : Po (gOf X) W σ c2 H2 (VF (gOf X) fun w H' => ∃ k, w = .bl k ∧ Q (.bl (if neg then !k else k)) H') (F [e, d] S2) := (Po.bnd h2).mono fun c3 S3 z H3 g3 s3 h3 w rw' => by
      unfold mBoolF at h3
      split at h3
      · exact ⟨_, rw'.bool_inv, Po.ok h3 s3 _ (.bl _)⟩
      · exact h3.elim
    have run := spec_call (xs := [d]) (vs := [x]) (us := [v]) gA hr I2.env0 P hbk hbad tk I2 hS2 re (.cons rd .nil) (.cons rx .nil) (Po.toV h3)
    have fin : ∀ (r : Value) (s' : Shared), EP X pins σ (fun w H' => ∃ k, w = .bl k ∧ Q (.bl (if neg then !k else k)) H') r s' → ∃ k, r = .bool k ∧ EP X pins σ Q (.bool (if neg then !k else k)) s' := fun r s' ⟨w, H', I', rw', k, ek, q⟩ => by
      subst ek
      cases rw'
      exact ⟨k, rfl, .bl _, H', I', rfl, q⟩
    cases neg with
    | true =>
      refine PySem.W.notIn_K hF I2.ok.mod.kin J hM.at_ hM.fn (thn run fun r s' hq => ?_)
      obtain ⟨k, rfl, q⟩ := fin r s' hq
      exact wpAny_truthy_bool q
    | false =>
      refine PySem.W.in_K hF I2.ok.mod.kin J hM.at_ hM.fn (thn run fun r s' hq => ?_)
      obtain ⟨k, rfl, q⟩ := fin r s' hq
      exact wpAny_truthy_bool q
end
end PL

set_option Elab.async false
set_option linter.all false
set_option maxRecDepth 100000
set_option autoImplicit false
set_option maxHeartbeats 4000000
namespace PL
open PySem PySem.Spec PyProof.Rows L2
section
variable {X : Cx} {W : WX} {pins : List (Addr × Obj)} {σ : L2.St} {H : Hp} {s : Shared}
/-- len(o), an own __len__ -/
theorem se_lenO {a : Expr} {ma : ME} {C : Str} {F : Fun} {n : Nat} {p pos : Pos} (cp : MetP (gOf X) X.base n C "__len__" .all F) (gA : X.A.guards = some []) (hr : Room (n + 1) X.A) (tk : Takes X W) (hg : Gl X "len") (hm0 : X.mg "len" = none) (hst : noStar a = true) (ha : SE X W a ma) : SE X W (.Call (.Name "len" p) [a] [] pos) (mLenO C F ma) := by
  obtain ⟨A, f, fd, ps, P, hm, hM, hbk, hbad⟩ := cp.ex
  refine ⟨fun pins s σ H Q I ⟨c, ρ, S, hE, hS, h⟩ => ?_⟩
  refine wpAny_Call_Name_kw (ld_blt I hg hm0 (u := .builtin "len") (by decide +kernel) ?_ (by decide) (by decide))
  have hpa : PA X [a] (tCons (RE (gOf X) W ma) tNil) := pa_cons ha pa_nil (star_cons hst)
  refine PyProof.Rows.callWith_builtin1 (thn (hpa.run pos pins s σ H (fun vs H1 => ∃ x c1 S1 d, vs = [x] ∧ StoOk (gOf X) c1 S1 H1 ∧ Rp (gOf X) c1 H1 x d ∧ isInst S1 d C = true ∧ Po (gOf X) W σ c1 H1 (VF (gOf X) fun w H' => ∃ i : Int, w = .int i ∧ 0 ≤ i ∧ i < 2 ^ 63 ∧ Q (.int i) H') (F [d] S1)) I ?_) fun us s1 ⟨vs, H1, I1, r1, x, c1, S1, d, ev, hS1, rd, hi, h1⟩ => ?_) (star_cons hst) rfl
  · refine ⟨c, ρ, S, hE, hS, (Po.bnd h).mono fun c1 S1 x H1 g1 s1 h1 v rv => ?_⟩
    split at h1
    · rename_i hi
      refine ⟨v, c1, S1, x, rfl, s1, rv, hi, (Po.bnd h1).mono fun c3 S3 z H3 g3 s3 h3 w rw' => ?_⟩
      split at h3
      · split at h3
        · rename_i l; exact ⟨_, rw'.int_inv, l.1, l.2, Po.ok h3 s3 _ (.int _)⟩
        · exact h3.elim
      · exact h3.elim
    · exact h1.elim
  · subst ev
    obtain ⟨u, rfl, ru⟩ := vals1 r1
    obtain ⟨q, dx, fs, rfl, ea, cf, hno⟩ := inst_of hS1 rd hi hm
    cases ru
    obtain ⟨mA, O, _⟩ := ins_get I1.hok ea
    obtain ⟨od, J, _⟩ := O.look
    obtain ⟨mm, hF⟩ := I1.fr
    refine PySem.W.len_K hF I1.ok.mod.kin J hM.at_ hM.fn ?_
    refine thn (spec_call (xs := []) (vs := []) (us := []) gA hr.in1 I1.env0.in1 P hbk hbad tk I1 hS1 rd .nil .nil (Po.toV h1)) fun r s' ⟨w, H', I', rw', i, ew, h0, h63, q'⟩ => ?_
    subst ew
    obtain ⟨t, rfl⟩ := rw'
    exact ⟨⟨h0, h63⟩, .int i, H', I'.tok _, ⟨_, rfl⟩, q'⟩
structure PrpP (g : Gx) (base : Heap) (n : Nat) (C m : Str) (F : Fun) : Prop where
  ex : ∃ A q f fd ps, FnP g base n f fd ps F ∧ g.mg C = some (.ref A) ∧ PropOf g.K A m q f ∧ BOk g base fd ps 1 .all ∧ ∀ ds S, ds.length ≠ ps.length → F ds S = .bad
/-- o.m, a property -/
theorem se_prop {a : Expr} {ma : ME} {C m : Str} {F : Fun} {n : Nat} {pos : Pos} (cp : PrpP (gOf X) X.base n C m F) (gA : X.A.guards = some []) (hr : Room (n + 1) X.A) (tk : Takes X W) (hbase : attributeBase a m X.env (eval a X.env) = eval a X.env) (ha : SE X W a ma) : SE X W (.Attribute a m pos) (mProp C F ma) := by
  obtain ⟨A, pq, f, fd, ps, P, hm, hp, hbk, hbad⟩ := cp.ex
  refine ⟨fun pins s σ H Q I ⟨c, ρ, S, hE, hS, h⟩ => attr_of hbase ?_⟩
  refine thn (ha.run pins s σ H (fun x H1 => ∃ c1 S1 d, StoOk (gOf X) c1 S1 H1 ∧ Rp (gOf X) c1 H1 x d ∧ isInst S1 d C = true ∧ PoV (gOf X) c1 H1 Q (fun _ _ _ => False) (F [d] S1)) I ?_) fun u s1 ⟨x, H1, I1, rx, c1, S1, d, hS1, rd, hi, h1⟩ => ?_
  · refine ⟨c, ρ, S, hE, hS, (Po.bnd h).mono fun c1 S1 x H1 g1 s1 h1 v rv => ?_⟩
    split at h1
    · rename_i hi
      refine ⟨c1, S1, x, s1, rv, hi, ?_⟩
      cases q : F [x] S1 with
      | ok d S2 => rw [q] at h1; exact fun c' H' v g' s' rv => h1 c' H' g' s' v rv
      | ex _ _ => rw [q] at h1; exact h1.elim
      | bad => rw [q] at h1; exact h1.elim
    · exact h1.elim
  · obtain ⟨q, dx, fs, rfl, ea, cf, hno⟩ := inst_of hS1 rd hi hm
    cases rx
    obtain ⟨mA, O, _⟩ := ins_get I1.hok ea
    obtain ⟨od, J, _⟩ := O.look
    obtain ⟨rest, hrec⟩ := hp.rec_
    have I2 := I1.tok (s1.toks + 1)
    have hc : (PySem.W.clsIn X.K A).isSome = true := by
      obtain ⟨cd, hc, _⟩ := PySem.W.any_some cf.cl.hd
      rw [hc]; rfl
    refine PySem.W.get_bind I1.kIn J (PySem.W.plainGet_of (cf.cl.get m)).1 (PySem.W.findObj_data hc hp.at_ hp.get hp.tak) (PySem.W.plainGet_of (cf.cl.get m)).2 (wpAny_call (PySem.W.prop_get (s := { s1 with toks := s1.toks + 1 }) I1.kIn hrec ?_))
    by_cases hl : [d].length = ps.length
    · refine codeAny_mono (P.run X.A.in1 X.stack { s1 with toks := s1.toks + 1 } H1 ⟨[.ref q] ++ [], []⟩ Q (fun _ _ _ => False) _ gA hr.in1 I2.env0.in1 (hbk X.A.in1 X.stack _ H1 _ [.ref q] [] [] [.ref q] [] [] c1 S1 [d] [] [] [] I2.env0.in1 rfl (.cons rfl .nil) .nil .nil hS1 (.cons rd .nil) .nil .nil rfl hl) fun vs' H5 ⟨k1, k2, k3⟩ => ⟨c1, S1, _, k2, k3, h1.gr k1⟩) fun r s' hq => ?_
      cases r with
      | error er =>
        obtain ⟨_, _, _, _, _, _, _, _, _, _, _, _, no⟩ := hq
        exact no.elim
      | ok fl =>
        cases fl with
        | ret u =>
          obtain ⟨v, H', I3, rv, q3⟩ := I2.after hq
          show wpAny _ _ (handedOut u) _ _ _
          rw [PySem.W.handedOut_of (handed_of rv)]
          exact wpAny_pure ⟨v, H', I3, rv, q3⟩
        | next => exact False.elim hq
        | brk => exact False.elim hq
        | cont => exact False.elim hq
    · rw [hbad _ _ hl] at h1; exact h1.elim
end
end PL

set_option Elab.async false
set_option linter.all false
set_option maxRecDepth 100000
set_option autoImplicit false
set_option maxHeartbeats 4000000
namespace PL
open PySem PySem.Spec PyProof.Rows L2
section
variable {X : Cx} {W : WX} {a b c e : Expr} {ma mb mc me : ME} {pos p2 : Pos} {lo hi : Option Expr} {ml mh : MO} {o : Bool}
theorem re_chain {p q : CmpOp} {σ : L2.St} {H : Hp} {Q : VK} (h : RE (gOf X) W (mChain (cmpop p) (cmpop q) ma mb mc) σ H Q) : tChain (r2Of (gOf X) (cmpop p)) (r2Of (gOf X) (cmpop q)) (RE (gOf X) W ma) (RE (gOf X) W mb) (RE (gOf X) W mc) σ H Q := by
  obtain ⟨c0, ρ, S, hE, hS, h⟩ := h
  refine ⟨c0, ρ, S, hE, hS, (Po.bnd h).mono fun c1 S1 x H1 g1 s1 h1 v rv => ?_⟩
  refine ⟨c1, ρ, S1, hE.gr g1, s1, (Po.bnd h1).mono fun c2 S2 y H2 g2 s2 h2 u ru => ?_⟩
  obtain ⟨z, S3, e1, q1⟩ := Po.ofP (Po.bnd h2)
  refine ⟨c2, S2, x, y, z, S3, s2, rv.gr g2, ru, e1, fun c3 w H3 g3 s3 rw' => ?_⟩
  have h3 := q1 c3 H3 g3 s3
  split at h3
  · refine ⟨true, rw'.bool_inv, ?_⟩
    rw [if_pos rfl]
    refine ⟨c3, ρ, S3, ((hE.gr g1).gr g2).gr g3, s3, (Po.bnd h3).mono fun c4 S4 t H4 g4 s4 h4 w4 rw4 => ?_⟩
    obtain ⟨z2, S5, e2, q2⟩ := Po.ofP h4
    exact ⟨c4, S4, y, t, z2, S5, s4, (ru.gr g3).gr g4, rw4, e2, fun c' v' H' g' s' r' => q2 c' H' g' s' v' r'⟩
  · refine ⟨false, rw'.bool_inv, ?_⟩
    rw [if_neg (by decide)]
    exact Po.ok h3 s3 _ (.bl _)
  · exact h3.elim
/-- a < b < c -/
theorem se_chain {p q : CmpOp} (hu : X.A.units + 64 < cLine) (ha : SE X W a ma) (hb : SE X W b mb) (hc : SE X W c mc) (hm : lastMarks [p, q] [b, c] = false) : SE X W (.Compare a [p, q] [b, c] pos) (mChain (cmpop p) (cmpop q) ma mb mc) :=
  PE_of (pe_chain (ok_cmp hu p) (ok_cmp hu q) ha hb hc hm) fun σ H Q h => re_chain h
/-! slices -/
def RO (g : Gx) (W : WX) (m : MO) : TO := fun σ H Q => ∃ c ρ S, EnvOk g c ρ σ H ∧ StoOk g c S H ∧ Po g W σ c H (fun _ _ i H' => Q i H') (m ρ S)
abbrev SO (X : Cx) (W : WX) (e : Option Expr) (m : MO) : Prop := PO X e (RO (gOf X) W m)
theorem PO_of {e : Option Expr} {t t' : TO} (h : PO X e t) (i : ∀ σ H Q, t' σ H Q → t σ H Q) : PO X e t' := ⟨fun pins s σ H Q I q => h.run pins s σ H Q I (i σ H Q q)⟩
theorem so_none : SO X W none mOn := PO_of po_none fun σ H Q ⟨c, ρ, S, hE, hS, h⟩ => Po.ok h hS
theorem so_some (h : SE X W e me) : SO X W (some e) (mOs me) := PO_of (po_some h) fun σ H Q ⟨c, ρ, S, hE, hS, h⟩ => by
  refine ⟨c, ρ, S, hE, hS, (Po.bnd h).mono fun c1 S1 x H1 g1 s1 h1 v rv => ?_⟩
  split at h1
  · exact ⟨_, rv.int_inv, Po.ok h1 s1⟩
  · exact h1.elim
theorem se_sl (ha : SE X W a ma) (hl : SO X W lo ml) (hh : SO X W hi mh) : SE X W (.Subscript a (.Slice lo hi none p2) pos) (mSl o ma ml mh) :=
  PE_of (pe_slice (ok_sl (o := o)) ha hl hh) fun σ H Q ⟨c, ρ, S, hE, hS, h⟩ => by
    refine ⟨c, ρ, S, hE, hS, (Po.bnd h).mono fun c1 S1 x H1 g1 s1 h1 v rv => ?_⟩
    refine ⟨c1, ρ, S1, hE.gr g1, s1, (Po.bnd h1).mono fun c2 S2 l H2 g2 s2 h2 => ?_⟩
    refine ⟨c2, ρ, S2, (hE.gr g1).gr g2, s2, (Po.bnd h2).mono fun c3 S3 u H3 g3 s3 h3 => ?_⟩
    obtain ⟨z, S4, e1, q⟩ := Po.ofP h3
    exact ⟨c3, S3, x, z, S4, s3, (rv.gr g2).gr g3, e1, fun c' v' H' g' s' r' => q c' H' g' s' v' r'⟩
theorem se_ix (hu : X.A.units + 64 < cLine) (ha : SE X W a ma) (hb : SE X W b mb) (hs : plainIx b = true) : SE X W (.Subscript a b pos) (m2 atD ma mb) :=
  PE_of (pe_ix (ok_at hu) ha hb (ix_plain hs)) fun _ _ _ h => re_2 (fun _ _ _ _ q => q) h
end
end PL

set_option Elab.async false
set_option linter.all false
set_option maxRecDepth 100000
set_option autoImplicit false
set_option maxHeartbeats 4000000
namespace PL
open PySem PySem.Spec PyProof.Rows L2
/-! ### dict comprehensions -/
theorem dc_end {g : Gx} {c c2 : Cw} {H H2 : Hp} {S2 : Sto} {D : Addr} {va : List (Key × V)} {ys : List (Dat × Dat)} {o : Bool} {Q : VK} {d : Dat} {S' : Sto} (hD : H D = none) (nO : ¬ c.O D) (g2 : Gr c H c2 H2) (o2 : c2.O D) (n2 : D ∉ c2.as) (s2 : StoOk g c2 S2 H2) (hD2 : H2 D = some (.dK va)) (ra : RpK g c2 H2 va ys)
    (e : newD o ys S2 = some (d, S')) (f : ∀ c' v H', Gr c H c' H' → StoOk g c' S' H' → Rp g c' H' v d → Q v H') : Q (.ref D) H2 := by
  unfold newD at e
  split at e
  · cases o with
    | false =>
      rw [if_neg (by decide)] at e
      cases e
      have tl : Tr g c2 H2 (c2.bare D n2) H2 := .less (fun b h => h.1) rfl
      refine f (c2.bare D n2) _ H2 ⟨g2.ex, fun b hb => ⟨g2.up b hb, fun e => ?_⟩, fun b hb => g2.dn b hb.1, g2.kp, g2.ki⟩ (s2.tr tl rfl (fun a ha => s2.own a ha.1) fun _ _ _ h => h) (.dK (.inl ⟨hD2, fun z => z.2 rfl⟩) (ra.tr tl))
      subst e
      exact nO hb
    | true =>
      rw [if_pos rfl] at e
      cases e
      have tl : Tr g c2 H2 (c2.show_ D o2) H2 := by
        refine ⟨fun a xs h => h, fun a xs h => h, fun a A dx fs h n => ⟨h, n⟩, fun a o h _ => h, fun k a h => ?_⟩
        show (c2.as ++ [D])[k]? = some a
        rw [List.getElem?_append_left (List.getElem?_eq_some_iff.mp h).1]; exact h
      obtain ⟨new, e1, e2⟩ := g2.ex
      refine f (c2.show_ D o2) _ H2 ⟨⟨new ++ [D], by show c2.as ++ [D] = _; rw [e1, List.append_assoc], fun a ha => ?_⟩, g2.up, g2.dn, g2.kp, g2.ki⟩ ⟨?_, ?_, s2.own, fun i b y q1 q2 => ?_⟩ (.own ?_)
      · rcases List.mem_append.mp ha with z | z
        · exact e2 a z
        · rw [List.mem_singleton.mp z]; exact hD
      · show (c2.as ++ [D]).length = (S2 ++ [_]).length
        rw [List.length_append, List.length_append, s2.len]; rfl
      · show (c2.as ++ [D]).Nodup
        rw [List.nodup_append]
        exact ⟨s2.nd, List.nodup_cons.mpr ⟨fun z => (List.not_mem_nil z), List.nodup_nil⟩, fun a ha b hb e => by rw [List.mem_singleton] at hb; subst e; subst hb; exact n2 ha⟩
      · have q1' : (c2.as ++ [D])[i]? = some b := q1
        by_cases l : i < c2.as.length
        · rw [List.getElem?_append_left l] at q1'
          rw [List.getElem?_append_left (by rw [← s2.len]; exact l)] at q2
          exact (s2.cells i b y q1' q2).tr tl fun u hu => hu
        · have li : i = c2.as.length := by
            have := (List.getElem?_eq_some_iff.mp q1').1
            rw [List.length_append, List.length_singleton] at this
            omega
          rw [li, List.getElem?_append_right (Nat.le_refl _), Nat.sub_self] at q1'
          cases q1'
          rw [li, s2.len, List.getElem?_append_right (Nat.le_refl _), Nat.sub_self] at q2
          cases q2
          exact .inl ⟨va, hD2, ra.tr tl⟩
      · show (c2.as ++ [D])[S2.length]? = some D
        rw [← s2.len, List.getElem?_append_right (Nat.le_refl _), Nat.sub_self]; rfl
  · cases e
theorem re_dc {g : Gx} {W : WX} {wg : TG} {p : Pat} {mi : MI} {mt : MT} {mk me : ME} {vs : List Nat} {o : Bool} {σ : L2.St} {H : Hp} {Q : VK} (hp : EvP g wg p) (hv : ∀ i ∈ slotsP p, i ∈ vs) (h : RE g W (mDc mi p mt mk me vs o) σ H Q) :
    tDc (RI g W mi) wg (RT g W0 mt) (RE g W0 mk) (RE g W0 me) vs σ H Q := by
  obtain ⟨c, ρ, S, hE, hS, h⟩ := h
  refine ⟨c, ρ, S, hE, hS, (Po.bnd h).mono fun c1 S1 pr H1 g1 s1 h1 J it => fun D hD => ?_⟩
  obtain ⟨ds, ks⟩ := pr
  dsimp only at h1 it
  have nO : ¬ c1.O D := s1.not hD
  have nA : D ∉ c1.as := fun z => nO (c1.sub D z)
  cases e2 : mDcL p mt mk me ks S1 ds (wipeE ρ vs) S1 [] with
  | bad => rw [e2] at h1; exact h1.elim
  | ex x S' =>
    exfalso
    have no : ∀ (xs : List Dat) (ρ : Ro) (S : Sto) (acc : List (Dat × Dat)) x S', mDcL p mt mk me ks S1 xs ρ S acc ≠ .ex x S' := by
      intro xs
      induction xs with
      | nil => intro ρ S acc x S' z; rw [mDcL] at z; split at z <;> cases z
      | cons y ys ih =>
        intro ρ S acc x S' z
        rw [mDcL] at z
        split at z
        · split at z
          · split at z
            · split at z
              · split at z
                · split at z
                  · split at z
                    · exact ih _ _ _ _ _ z
                    · cases z
                  · cases z
                · cases z
              · exact ih _ _ _ _ _ z
            · cases z
          · cases z
        · cases z
    exact no _ _ _ _ _ _ e2
  | ok ys S' =>
    rw [e2] at h1
    obtain ⟨d, S3, e3, fq⟩ := Po.ofP h1
    have fq' : ∀ c' v H', Gr c1 H1 c' H' → StoOk g c' S3 H' → Rp g c' H' v d → Q v H' := fun c' v H' g' s' r' => fq c' H' g' s' v r'
    refine ⟨fun i m H => ∃ c' S2 acc va, Gr c1 H1 c' H ∧ c'.O D ∧ D ∉ c'.as ∧ StoOk g c' S2 H ∧ H D = some (.dK va) ∧ RpK g c' H va acc ∧ mDcL p mt mk me ks S1 (ds.drop i) (wipeE ρ vs) S2 acc = .ok ys S' ∧ m = ds.length - i ∧ i ≤ ds.length, ⟨ds.length - 0, ?_⟩, ?_⟩
    · have gh : Gr c1 H1 (c1.hide D) (upd H1 D (.dK [])) := ⟨⟨[], (List.append_nil _).symm, fun _ h => nomatch h⟩, fun _ h => .inl h, fun b h => h.elim .inl fun e => .inr (by rw [e]; exact hD), fun a o h _ => .inl (same_new hD a o h), fun a o h => ⟨o, same_new hD a o h⟩⟩
      refine ⟨c1.hide D, S1, [], [], gh, .inr rfl, nA, s1.tr gh.tr rfl (fun a ha => ?_) (fun a _ u hu => same_new hD a u hu), upd_same, .nil, e2, rfl, Nat.zero_le _⟩
      rcases ha with ha | ha
      · obtain ⟨u, e⟩ := s1.own a ha
        exact ⟨u, same_new hD a u e⟩
      · subst ha; exact ⟨_, upd_same⟩
    · rintro i m H2 ⟨c2, S2, acc, va, g2, o2, n2, s2, hD2, ra, hm2, rfl, hi2⟩
      by_cases lt : i < ds.length
      · have ed : ds[i]? = some ds[i] := List.getElem?_eq_getElem lt
        rw [List.drop_eq_getElem_cons lt, mDcL] at hm2
        by_cases wt : Wat ks S1 S2
        · rw [if_pos wt] at hm2
          obtain ⟨stop, step⟩ := it c2 H2 S2 g2 s2 wt
          obtain ⟨go, yl⟩ := step i _ ed
          cases e3 : bindP p ds[i] (wipeE ρ vs) with
          | none => rw [e3] at hm2; cases hm2
          | some ρ3 =>
            rw [e3] at hm2
            dsimp only at hm2
            refine .inr ⟨go, _, fun H' h => h, fun v H3 hy => ?_⟩
            obtain ⟨k3, r3⟩ := yl v H3 hy
            have hE2 : EnvOk g c2 (wipeE ρ vs) (wipe σ vs) H3 := ((hE.gr g1).gr (g2.s k3)).wipe vs
            refine hp c2 _ _ H3 v _ ρ3 hE2 r3 e3 _ fun σ3 k4 w4 => ⟨(w4 vs hv).trans wipe_wipe, c2, ρ3, S2, k4, s2.same k3, ?_⟩
            cases e4 : mt ρ3 S2 with
            | bad => rw [e4] at hm2; cases hm2
            | ex x S4 => rw [e4] at hm2; cases hm2
            | ok b S4 =>
              rw [e4] at hm2
              dsimp only at hm2
              intro c5 H5 g5 s5
              have hD3 := k3 _ _ hD2
              have hD5 := g5.keepA hD3 n2 o2
              have n5 := g5.notA hD3 n2
              have ra5 : RpK g c5 H5 va acc := ra.gr (Gr.trans (.of_same k3) g5)
              have g25 : Gr c1 H1 c5 H5 := (g2.s k3).trans g5
              cases b with
              | false =>
                rw [if_neg (by decide)] at hm2
                exact iteF ⟨ds.length - (i + 1), by omega, c5, S4, acc, va, g25, g5.up _ o2, n5, s5, hD5, ra5, hm2, rfl, lt⟩
              | true =>
                rw [if_pos rfl] at hm2
                refine iteT ⟨c5, ρ3, S4, k4.gr g5, s5, ?_⟩
                cases e6 : mk ρ3 S4 with
                | bad => rw [e6] at hm2; cases hm2
                | ex x S5 => rw [e6] at hm2; cases hm2
                | ok ky S5 =>
                  rw [e6] at hm2
                  dsimp only at hm2
                  intro c6 H6 g6 s6 u r6
                  refine ⟨c6, ρ3, S5, (k4.gr g5).gr g6, s6, ?_⟩
                  cases e7 : me ρ3 S5 with
                  | bad => rw [e7] at hm2; cases hm2
                  | ex x S5 => rw [e7] at hm2; cases hm2
                  | ok y S6 =>
                    rw [e7] at hm2
                    dsimp only at hm2
                    intro c7 H7 g7 s7 w r7
                    split at hm2
                    · rename_i la
                      obtain ⟨lk, la⟩ := la
                      rw [Bool.and_eq_true] at lk
                      rcases keyOk_cases lk.1 with ⟨kk, rfl⟩ | ⟨ks', rfl⟩
                      · have hD6 := g6.keepA hD5 n5 (g5.up _ o2)
                        have n6 := g6.notA hD5 n5
                        have o6 := g6.up _ (g5.up _ o2)
                        have hD7 := g7.keepA hD6 n6 o6
                        have n7 := g7.notA hD6 n6
                        have o7 := g7.up _ o6
                        have eu : u = kV kk := by cases kk <;> cases r6 <;> rfl
                        have g67 : Gr c1 H1 c7 H7 := (g25.trans g6).trans g7
                        refine ⟨va, kk, eu, hD7, by rw [ra.length]; exact la, ds.length - (i + 1), by omega, c7, S6, dput acc (kD kk) y, putK va kk w, ?_, o7, n7, ?_, upd_same, ?_, hm2, rfl, lt⟩
                        · refine ⟨g67.ex, g67.up, g67.dn, fun a o h m => ?_, fun a o h => ?_⟩
                          · rw [upd_ne (ne_of_none h hD)]; exact g67.kp a o h m
                          · rw [upd_ne (ne_of_none h hD)]; exact g67.ki a o h
                        · refine s7.tr (.kp (.put hD7 trivial o7)) rfl (fun a ha => ?_) (fun a ha w hw => ?_)
                          · by_cases e : a = D
                            · subst e; exact ⟨_, upd_same⟩
                            · rw [upd_ne e]; exact s7.own a ha
                          · rw [upd_ne (fun e : a = D => n7 (by rw [← e]; exact ha))]; exact hw
                        · exact (((ra5.gr g6).gr g7).put r7 kk).tr (.kp (.put hD7 trivial o7))
                      · simp [isTupD] at lk
                    · cases hm2
        · rw [if_neg wt] at hm2; cases hm2
      · have e : i = ds.length := by omega
        subst e
        rw [List.drop_length, mDcL] at hm2
        by_cases wt : Wat ks S1 S2
        · rw [if_pos wt] at hm2
          obtain ⟨stop, step⟩ := it c2 H2 S2 g2 s2 wt
          cases hm2
          exact .inl ⟨stop, dc_end hD nO g2 o2 n2 s2 hD2 ra e3 fq'⟩
        · rw [if_neg wt] at hm2; cases hm2
section
variable {X : Cx} {W : WX} {kx vx tg iter : Expr} {ifs : List Expr} {scope : Scope} {own : List (Str × Nat)} {pos : Pos} {mi : MI} {p : Pat} {mt : MT} {mk me : ME} {o : Bool}
theorem se_dc (hc : X.calm = true) (hN : X.N.Nodup) (hi : SI X W tg iter mi) (ok : BlkOk X.N X.env.scope scope own) (hv : ∀ i ∈ slotsP p, i ∈ own.map (·.2))
    (hg : Blk X scope fun Y => SP_ Y tg p) (ht : Blk X scope fun Y => STs Y W0 ifs mt) (hk : Blk X scope fun Y => SE Y W0 kx mk) (he : Blk X scope fun Y => SE Y W0 vx me)
    (hs : ∀ x, foldedSetIterable iter X.env x = pure x) : SE X W (.DictComp kx vx [⟨tg, iter, ifs, 0⟩] scope pos) (mDc mi p mt mk me (own.map (·.2)) o) :=
  PE_of (pe_dc hc hN hi ok (fun s H C cl fp => hg s H C cl fp) (fun s H C cl fp => (ht s H C cl fp).ex) (fun s H C cl fp => hk s H C cl fp) (fun s H C cl fp => he s H C cl fp) hs) fun σ H Q h => re_dc (ep_all (g := gOf X) p) hv h
end
end PL

set_option Elab.async false
set_option linter.all false
set_option maxRecDepth 100000
set_option autoImplicit false
set_option maxHeartbeats 4000000
namespace PL
open PySem PySem.Spec PyProof.Rows L2
/-! ### dict displays -/
def kvPair (kv : Key × V) : V × V := (kV kv.1, kv.2)
def SD (X : Cx) (W : WX) (pos : Pos) (keys : List (Option Expr)) (values : List Expr) (ks : List Dat) (mA : MA) : Prop :=
  ∃ trs, PPs X pos keys values trs ∧ ∀ σ H (Q : List (V × V) → Hp → Prop), RA (gOf X) W mA σ H (fun vs H' => ∀ kvs : List (Key × V), kvs.map (fun p => kD p.1) = ks → kvs.map (·.2) = vs → Q (kvs.map kvPair) H') → tPairs trs σ H Q
section
variable {X : Cx} {W : WX} {pos : Pos} {keys : List (Option Expr)} {values : List Expr} {ks : List Dat} {mA : MA} {k v : Expr} {kk : Key} {mv : ME} {o : Bool}
theorem sd_nil : SD X W pos [] [] [] mNil := ⟨[], pps_nil, fun σ H Q ⟨c, ρ, S, hE, hS, h⟩ => Po.ok h hS [] .nil [] rfl rfl⟩
theorem sd_cons (hk : PE X k (tC (kV kk))) (hv : SE X W v mv) (hr : SD X W pos keys values ks mA) : SD X W pos (some k :: keys) (v :: values) (kD kk :: ks) (mCons mv mA) := by
  obtain ⟨trs, h1, h2⟩ := hr
  refine ⟨_, pps_cons hk hv h1, fun σ H Q ⟨c, ρ, S, hE, hS, h⟩ => ?_⟩
  show RE (gOf X) W mv σ H fun y H2 => tPairs trs σ H2 fun ps H3 => Q ((kV kk, y) :: ps) H3
  refine ⟨c, ρ, S, hE, hS, (Po.bnd h).mono fun c1 S1 x H1 g1 s1 q1 y ry => h2 σ H1 _ ?_⟩
  refine ⟨c1, ρ, S1, hE.gr g1, s1, (Po.bnd q1).mono fun c2 S2 xs H2 g2 s2 q2 vs rs kvs e1 e2 => ?_⟩
  exact Po.ok q2 s2 (y :: vs) (.cons (ry.gr g2) rs) ((kk, y) :: kvs) (by rw [List.map_cons, e1]) (by rw [List.map_cons, e2])
theorem zip_keys {g : Gx} {c : Cw} {H : Hp} : ∀ {kvs : List (Key × V)} {ks vs : List Dat} {fs : List (Key × V)} {hs : List (Dat × Dat)}, kvs.map (fun p => kD p.1) = ks → RpAll g c H (kvs.map (·.2)) vs → RpK g c H fs hs → RpK g c H (mergeK fs kvs) (dputs hs (ks.zip vs))
  | [], _, _, _, _, e, r, q => by cases e; exact q
  | (k, v) :: kvs, _, d :: ds, fs, hs, e, .cons r t, q => by
    cases e
    have h := zip_keys (kvs := kvs) (ks := kvs.map fun p => kD p.1) rfl t (q.put r k)
    exact h
theorem ks_keys : ∀ {ks : List Dat} {vs : List V}, (ks.all fun k => keyOk k && !isTupD k) = true → ks.length = vs.length → ∃ kvs : List (Key × V), kvs.map (fun p => kD p.1) = ks ∧ kvs.map (·.2) = vs
  | [], [], _, _ => ⟨[], rfl, rfl⟩
  | [], _ :: _, _, h => by simp at h
  | _ :: _, [], _, h => by simp at h
  | k :: ks, v :: vs, h, l => by
    rw [List.all_cons, Bool.and_eq_true, Bool.and_eq_true] at h
    obtain ⟨kvs, e1, e2⟩ := ks_keys (ks := ks) (vs := vs) h.2 (by simpa using l)
    rcases keyOk_cases h.1.1 with ⟨kk, rfl⟩ | ⟨k', rfl⟩
    · exact ⟨(kk, v) :: kvs, by rw [List.map_cons, e1], by rw [List.map_cons, e2]⟩
    · simp [isTupD] at h
theorem se_dic (hd : SD X W pos keys values ks mA) (hall : keys.all (·.isSome) = true) (hl : keys.length = values.length) (h0 : keys ≠ []) (h15 : keys.length ≤ 15) (hkl : ks.length = keys.length) (hks : (ks.all fun k => keyOk k && !isTupD k) = true) : SE X W (.Dict keys values pos) (mDic o ks mA) := by
  obtain ⟨trs, h1, h2⟩ := hd
  refine PE_of (pe_disp h1 hall hl h0 h15) fun σ H Q ⟨c, ρ, S, hE, hS, h⟩ D hD => h2 σ _ _ ?_
  have nO : ¬ c.O D := hS.not hD
  have nA : D ∉ c.as := fun z => nO (c.sub D z)
  have gh : Gr c H (c.hide D) (upd H D (.dK [])) := ⟨⟨[], (List.append_nil _).symm, fun _ h => nomatch h⟩, fun _ h => .inl h, fun b h => h.elim .inl fun e => .inr (by rw [e]; exact hD), fun a o h _ => .inl (same_new hD a o h), fun a o h => ⟨o, same_new hD a o h⟩⟩
  have sh : StoOk (gOf X) (c.hide D) S (upd H D (.dK [])) := by
    refine hS.tr gh.tr rfl (fun a ha => ?_) (fun a _ u hu => same_new hD a u hu)
    rcases ha with ha | ha
    · obtain ⟨u, e⟩ := hS.own a ha
      exact ⟨u, same_new hD a u e⟩
    · subst ha; exact ⟨_, upd_same⟩
  refine ⟨c.hide D, ρ, S, hE.gr gh, sh, ?_⟩
  unfold mDic at h
  cases em : mA ρ S with
  | bad => rw [em] at h; exact h.elim
  | ex x S1 =>
    rw [em] at h
    exact fun c' H' cls da g' s' x' => h c' H' cls da (gh.trans g') s' x'
  | ok vs S2 =>
  rw [em, bnd_ok] at h
  intro c2 H2 g2 s2 us rs kvs e1 e2
  have hD2 : H2 D = some (.dK []) := g2.keepA upd_same nA (.inr rfl)
  have n2 : D ∉ c2.as := g2.notA upd_same nA
  have o2 : c2.O D := g2.up D (.inr rfl)
  split at h
  · rename_i lz
    obtain ⟨d, S', e3, fq⟩ := Po.ofP h
    have lk : kvs.length ≤ 15 := by
      have := congrArg List.length e1
      rw [List.length_map] at this
      omega
    refine ⟨hD2, kvs, rfl, lk, ?_⟩
    have g0 : Gr c H c2 H2 := gh.trans g2
    have tp : Tr (gOf X) c2 H2 c2 (upd H2 D (.dK (mergeK [] kvs))) := .kp (.put hD2 trivial o2)
    have r2 : RpK (gOf X) c2 H2 (mergeK [] kvs) (dputs [] (ks.zip vs)) := zip_keys e1 (by rw [e2]; exact rs) .nil
    refine dc_end (g := gOf X) (H := H) (c := c) (c2 := c2) (S2 := S2) (va := mergeK [] kvs) (ys := dputs [] (ks.zip vs)) hD nO ⟨g0.ex, g0.up, g0.dn, fun a o h m => ?_, fun a o h => ?_⟩ o2 n2 (s2.tr tp rfl (fun a ha => ?_) (fun a ha w hw => ?_)) upd_same (r2.tr tp) e3 fun c' v' H' g' s' r' => ?_
    · rw [upd_ne (ne_of_none h hD)]; exact g0.kp a o h m
    · rw [upd_ne (ne_of_none h hD)]; exact g0.ki a o h
    · by_cases e : a = D
      · subst e; exact ⟨_, upd_same⟩
      · rw [upd_ne e]; exact s2.own a ha
    · rw [upd_ne (fun e : a = D => n2 (by rw [← e]; exact ha))]; exact hw
    · exact fq c' H' g' s' v' r'
  · exact h.elim
/-- {} -/
theorem se_dic0 : SE X W (.Dict [] [] pos) (mDic o [] mNil) := PE_of pe_dnewK fun σ H Q ⟨c, ρ, S, hE, hS, h⟩ => by
  unfold mDic at h
  have h' := Po.bnd h
  have h3 : Po (gOf X) W σ c H (VF (gOf X) Q) (ofP (newD o (dputs [] ([].zip [])) S)) := h' c H .refl hS
  obtain ⟨d, S', e, q⟩ := Po.ofP h3
  exact Fin.newDK hS .nil e fun c' v' H' g' s' r' => q c' H' g' s' v' r'
end
end PL

set_option Elab.async false
set_option linter.all false
set_option maxRecDepth 100000
set_option autoImplicit false
set_option maxHeartbeats 4000000
namespace PL
open PySem PySem.Spec PyProof.Rows L2
/-! ### two clauses, the inner one over a range -/
def RIr (g : Gx) (W : WX) (m : MI) : TI := fun σ H R => ∃ c ρ S, EnvOk g c ρ σ H ∧ StoOk g c S H ∧ Po g W σ c H (fun c' S' p H' => ∀ J, (∀ c H ks S, ItOk g c H ks S J p.1) → R J H') (m ρ S)
abbrev SIr (X : Cx) (W : WX) (tg iter : Expr) (m : MI) : Prop := PI X tg iter (RIr (gOf X) W m)
theorem sir_rng1 {X : Cx} {W : WX} {tg a : Expr} {mA : MA} {p pos : Pos} (hg : Gl X "range") (hm : X.mg "range" = none) (ha : SA X W [a] mA) (hs : starEach [a] X.env = [(false, eval a X.env)]) : SIr X W tg (.Call (.Name "range" p) [a] [] pos) (mRng1 mA) :=
  PI_of (pi_range1 hg hm ha hs) fun σ H R ⟨c, ρ, S, hE, hS, h⟩ => by
    refine ⟨c, ρ, S, hE, hS, (Po.bnd h).mono fun c1 S1 ds H1 g1 s1 h1 vs r1 => ?_⟩
    obtain ⟨⟨xs, ks⟩, e2, q⟩ := Po.ofB (W := W) h1
    unfold rng1D at e2
    split at e2
    · rename_i j
      split at e2
      · rename_i b
        cases e2
        obtain ⟨v, rfl, rv⟩ := r1.one_inv
        refine ⟨j, by rw [rv.int_inv], b.1, b.2, q c1 H1 .refl s1 _ fun c H ks S => ?_⟩
        have it : ItOk (gOf X) c H ks S (Itr 0 j.toNat) ((List.range j.toNat).map fun i => .int (0 + (i : Nat))) := it_rng
        have e : ((List.range j.toNat).map fun i => Dat.int (0 + (i : Nat))) = (List.range j.toNat).map fun i => .int (i : Nat) := by simp only [Int.zero_add]
        rw [e] at it
        exact it
      · cases e2
    · cases e2
theorem EnvOk.tr {g : Gx} {c c' : Cw} {ρ : Ro} {σ : L2.St} {H H' : Hp} (x : Tr g c H c' H') (h : EnvOk g c ρ σ H) : EnvOk g c' ρ σ H' := ⟨h.1, fun i d q => let ⟨v, e, r⟩ := h.2 i d q; ⟨v, e, r.tr x⟩⟩
/-- the inner clause, over a range -/
theorem lc_in {g : Gx} {wg : TG} {p : Pat} {mt : MT} {me : ME} {vs : List Nat} (hp : EvP g wg p) (hv : ∀ i ∈ slotsP p, i ∈ vs) {cB c6 : Cw} {HB H6 : Hp} {D : Addr} {S6 S7 : Sto} {acc acc2 : List Dat} {va : List V} {ρ : Ro} {σ : L2.St} {J : It} {ds : List Dat} {ks : List Nat} {Nx : Hp → Prop}
    (hD : HB D = none) (gB : Gr cB HB c6 H6) (o6 : c6.O D) (n6 : D ∉ c6.as) (s6 : StoOk g c6 S6 H6) (hD6 : H6 D = some (.lst va)) (ra6 : RpAll g c6 H6 va acc) (hE : EnvOk g c6 ρ σ H6) (it : ∀ c H ks S, ItOk g c H ks S J ds) (e : mLcL p mt me ks S6 ds (wipeE ρ vs) S6 acc = .ok acc2 S7)
    (hN : ∀ c7 H7 va2, Gr cB HB c7 H7 → c7.O D → D ∉ c7.as → StoOk g c7 S7 H7 → H7 D = some (.lst va2) → RpAll g c7 H7 va2 acc2 → Nx H7) :
    ∃ W1 : Nat → Nat → Hp → Prop, (∃ m, W1 0 m H6) ∧ ∀ j k H, W1 j k H → (J.stop j H ∧ Nx H) ∨ (J.go j H ∧ ∃ Nx1 : Hp → Prop, (∀ H', Nx1 H' → ∃ k', k' < k ∧ W1 (j + 1) k' H') ∧ ∀ x H', J.yld j H x H' → wg x (wipe σ vs) H' fun σ4 H5 => wipe σ4 vs = wipe σ vs ∧ RT g W0 mt σ4 H5 fun b H6 =>
      if b = true then RE g W0 me σ4 H6 fun y H7 => ∃ acc, H7 D = some (.lst acc) ∧ acc.length < sizeLine ∧ Nx1 (upd H7 D (.lst (acc ++ [y]))) else Nx1 H6) := by
  refine ⟨fun i m H => ∃ c' S2 acc' va', Gr cB HB c' H ∧ c'.O D ∧ D ∉ c'.as ∧ StoOk g c' S2 H ∧ H D = some (.lst va') ∧ RpAll g c' H va' acc' ∧ EnvOk g c' ρ σ H ∧ mLcL p mt me ks S6 (ds.drop i) (wipeE ρ vs) S2 acc' = .ok acc2 S7 ∧ m = ds.length - i ∧ i ≤ ds.length, ⟨ds.length - 0, c6, S6, acc, va, gB, o6, n6, s6, hD6, ra6, hE, e, rfl, Nat.zero_le _⟩, ?_⟩
  rintro i m H2 ⟨c2, S2, acc, va, g2, o2, n2, s2, hD2, ra, hE2', hm2, rfl, hi2⟩
  by_cases lt : i < ds.length
  · have ed : ds[i]? = some ds[i] := List.getElem?_eq_getElem lt
    rw [List.drop_eq_getElem_cons lt, mLcL] at hm2
    by_cases wt : Wat ks S6 S2
    · rw [if_pos wt] at hm2
      obtain ⟨stop, step⟩ := it c2 H2 ks S2 c2 H2 S2 .refl s2 (wat_refl _ _)
      obtain ⟨go, yl⟩ := step i _ ed
      cases e3 : bindP p ds[i] (wipeE ρ vs) with
      | none => rw [e3] at hm2; cases hm2
      | some ρ3 =>
        rw [e3] at hm2
        dsimp only at hm2
        refine .inr ⟨go, _, fun H' h => h, fun v H3 hy => ?_⟩
        obtain ⟨k3, r3⟩ := yl v H3 hy
        have hE3 : EnvOk g c2 ρ σ H3 := hE2'.gr (.of_same k3)
        have hE2 : EnvOk g c2 (wipeE ρ vs) (wipe σ vs) H3 := hE3.wipe vs
        refine hp c2 _ _ H3 v _ ρ3 hE2 r3 e3 _ fun σ3 k4 w4 => ⟨(w4 vs hv).trans wipe_wipe, c2, ρ3, S2, k4, s2.same k3, ?_⟩
        cases e4 : mt ρ3 S2 with
        | bad => rw [e4] at hm2; cases hm2
        | ex x S4 => rw [e4] at hm2; cases hm2
        | ok b S4 =>
          rw [e4] at hm2
          dsimp only at hm2
          intro c5 H5 g5 s5
          have hD3 := k3 _ _ hD2
          have hD5 := g5.keepA hD3 n2 o2
          have n5 := g5.notA hD3 n2
          have ra5 : RpAll g c5 H5 va acc := ra.gr (Gr.trans (.of_same k3) g5)
          have g25 : Gr cB HB c5 H5 := (g2.s k3).trans g5
          cases b with
          | false =>
            rw [if_neg (by decide)] at hm2
            exact iteF ⟨ds.length - (i + 1), by omega, c5, S4, acc, va, g25, g5.up _ o2, n5, s5, hD5, ra5, hE3.gr g5, hm2, rfl, lt⟩
          | true =>
            rw [if_pos rfl] at hm2
            refine iteT ⟨c5, ρ3, S4, k4.gr g5, s5, ?_⟩
            cases e6 : me ρ3 S4 with
            | bad => rw [e6] at hm2; cases hm2
            | ex x S5 => rw [e6] at hm2; cases hm2
            | ok y S6' =>
              rw [e6] at hm2
              dsimp only at hm2
              intro c6 H6 g6 s6 u r6
              split at hm2
              · rename_i la
                have hD6 := g6.keepA hD5 n5 (g5.up _ o2)
                have n6 := g6.notA hD5 n5
                have o6 := g6.up _ (g5.up _ o2)
                refine ⟨va, hD6, by rw [ra.length]; exact la, ds.length - (i + 1), by omega, c6, S6', acc ++ [y], va ++ [u], ?_, o6, n6, ?_, upd_same, ?_, ((hE3.gr g5).gr g6).tr (.kp (.put hD6 trivial o6)), hm2, rfl, lt⟩
                · refine ⟨(g25.trans g6).ex, (g25.trans g6).up, (g25.trans g6).dn, fun a o h m => ?_, fun a o h => ?_⟩
                  · rw [upd_ne (ne_of_none h hD)]; exact (g25.trans g6).kp a o h m
                  · rw [upd_ne (ne_of_none h hD)]; exact (g25.trans g6).ki a o h
                · refine s6.tr (.kp (.put hD6 trivial o6)) rfl (fun a ha => ?_) (fun a ha w hw => ?_)
                  · by_cases e : a = D
                    · subst e; exact ⟨_, upd_same⟩
                    · rw [upd_ne e]; exact s6.own a ha
                  · rw [upd_ne (fun e : a = D => n6 (by rw [← e]; exact ha))]; exact hw
                · exact ((ra5.gr g6).append (.cons r6 .nil)).tr (.kp (.put hD6 trivial o6))
              · cases hm2
    · rw [if_neg wt] at hm2; cases hm2
  · have e : i = ds.length := by omega
    subst e
    rw [List.drop_length, mLcL] at hm2
    by_cases wt : Wat ks S6 S2
    · rw [if_pos wt] at hm2
      obtain ⟨stop, step⟩ := it c2 H2 ks S2 c2 H2 S2 .refl s2 (wat_refl _ _)
      cases hm2
      exact .inl ⟨stop, hN c2 H2 va g2 o2 n2 s2 hD2 ra⟩
    · rw [if_neg wt] at hm2; cases hm2
theorem re_lc2 {g : Gx} {W : WX} {wg : TG} {wg1 : TG} {p p1 : Pat} {mi mi1 : MI} {mt mt1 : MT} {me : ME} {vs vs1 : List Nat} {o : Bool} {σ : L2.St} {H : Hp} {Q : VK} (hp : EvP g wg p) (hv : ∀ i ∈ slotsP p, i ∈ vs) (hp1 : EvP g wg1 p1) (hv1 : ∀ i ∈ slotsP p1, i ∈ vs1) (h : RE g W (mLc2 mi p mt mi1 p1 mt1 me vs vs1 o) σ H Q) :
    tLc2 (RI g W mi) wg (RT g W0 mt) (RIr g W0 mi1) wg1 (RT g W0 mt1) (RE g W0 me) vs vs1 σ H Q := by
  obtain ⟨c, ρ, S, hE, hS, h⟩ := h
  refine ⟨c, ρ, S, hE, hS, (Po.bnd h).mono fun c1 S1 pr H1 g1 s1 h1 J it => fun D hD => ?_⟩
  obtain ⟨ds, ks⟩ := pr
  dsimp only at h1 it
  have nO : ¬ c1.O D := s1.not hD
  have nA : D ∉ c1.as := fun z => nO (c1.sub D z)
  cases e2 : mLc2L p mt mi1 p1 mt1 me vs1 ks S1 ds (wipeE ρ vs) S1 [] with
  | bad => rw [e2] at h1; exact h1.elim
  | ex x S' =>
    exfalso
    have no : ∀ (xs : List Dat) (ρ : Ro) (S : Sto) (acc : List Dat) x S', mLc2L p mt mi1 p1 mt1 me vs1 ks S1 xs ρ S acc ≠ .ex x S' := by
      intro xs
      induction xs with
      | nil => intro ρ S acc x S' z; rw [mLc2L] at z; split at z <;> cases z
      | cons y ys ih =>
        intro ρ S acc x S' z
        rw [mLc2L] at z
        split at z
        · split at z
          · split at z
            · split at z
              · split at z
                · split at z
                  · exact ih _ _ _ _ _ z
                  · cases z
                · cases z
              · exact ih _ _ _ _ _ z
            · cases z
          · cases z
        · cases z
    exact no _ _ _ _ _ _ e2
  | ok ys S' =>
    rw [e2] at h1
    obtain ⟨d, S3, e3, fq⟩ := Po.ofP h1
    have fq' : ∀ c' v H', Gr c1 H1 c' H' → StoOk g c' S3 H' → Rp g c' H' v d → Q v H' := fun c' v H' g' s' r' => fq c' H' g' s' v r'
    refine ⟨fun i m H => ∃ c' S2 acc va, Gr c1 H1 c' H ∧ c'.O D ∧ D ∉ c'.as ∧ StoOk g c' S2 H ∧ H D = some (.lst va) ∧ RpAll g c' H va acc ∧ mLc2L p mt mi1 p1 mt1 me vs1 ks S1 (ds.drop i) (wipeE ρ vs) S2 acc = .ok ys S' ∧ m = ds.length - i ∧ i ≤ ds.length, ⟨ds.length - 0, ?_⟩, ?_⟩
    · have gh : Gr c1 H1 (c1.hide D) (upd H1 D (.lst [])) := ⟨⟨[], (List.append_nil _).symm, fun _ h => nomatch h⟩, fun _ h => .inl h, fun b h => h.elim .inl fun e => .inr (by rw [e]; exact hD), fun a o h _ => .inl (same_new hD a o h), fun a o h => ⟨o, same_new hD a o h⟩⟩
      refine ⟨c1.hide D, S1, [], [], gh, .inr rfl, nA, s1.tr gh.tr rfl (fun a ha => ?_) (fun a _ u hu => same_new hD a u hu), upd_same, .nil, e2, rfl, Nat.zero_le _⟩
      rcases ha with ha | ha
      · obtain ⟨u, e⟩ := s1.own a ha
        exact ⟨u, same_new hD a u e⟩
      · subst ha; exact ⟨_, upd_same⟩
    · rintro i m H2 ⟨c2, S2, acc, va, g2, o2, n2, s2, hD2, ra, hm2, rfl, hi2⟩
      by_cases lt : i < ds.length
      · have ed : ds[i]? = some ds[i] := List.getElem?_eq_getElem lt
        rw [List.drop_eq_getElem_cons lt, mLc2L] at hm2
        by_cases wt : Wat ks S1 S2
        · rw [if_pos wt] at hm2
          obtain ⟨stop, step⟩ := it c2 H2 S2 g2 s2 wt
          obtain ⟨go, yl⟩ := step i _ ed
          cases e3 : bindP p ds[i] (wipeE ρ vs) with
          | none => rw [e3] at hm2; cases hm2
          | some ρ3 =>
            rw [e3] at hm2
            dsimp only at hm2
            refine .inr ⟨go, _, fun H' h => h, fun v H3 hy => ?_⟩
            obtain ⟨k3, r3⟩ := yl v H3 hy
            have hE2 : EnvOk g c2 (wipeE ρ vs) (wipe σ vs) H3 := ((hE.gr g1).gr (g2.s k3)).wipe vs
            refine hp c2 _ _ H3 v _ ρ3 hE2 r3 e3 _ fun σ3 k4 w4 => ⟨(w4 vs hv).trans wipe_wipe, c2, ρ3, S2, k4, s2.same k3, ?_⟩
            cases e4 : mt ρ3 S2 with
            | bad => rw [e4] at hm2; cases hm2
            | ex x S4 => rw [e4] at hm2; cases hm2
            | ok b S4 =>
              rw [e4] at hm2
              dsimp only at hm2
              intro c5 H5 g5 s5
              have hD3 := k3 _ _ hD2
              have hD5 := g5.keepA hD3 n2 o2
              have n5 := g5.notA hD3 n2
              have ra5 : RpAll g c5 H5 va acc := ra.gr (Gr.trans (.of_same k3) g5)
              have g25 : Gr c1 H1 c5 H5 := (g2.s k3).trans g5
              cases b with
              | false =>
                rw [if_neg (by decide)] at hm2
                exact iteF ⟨ds.length - (i + 1), by omega, c5, S4, acc, va, g25, g5.up _ o2, n5, s5, hD5, ra5, hm2, rfl, lt⟩
              | true =>
                rw [if_pos rfl] at hm2
                refine iteT ⟨c5, ρ3, S4, k4.gr g5, s5, ?_⟩
                cases e6 : mi1 ρ3 S4 with
                | bad => rw [e6] at hm2; cases hm2
                | ex x S5 => rw [e6] at hm2; cases hm2
                | ok pr S6 =>
                  obtain ⟨ds1, ks1⟩ := pr
                  rw [e6] at hm2
                  dsimp only at hm2
                  intro c6 H6 g6 s6 J1 it1
                  cases e7 : mLcL p1 mt1 me ks1 S6 ds1 (wipeE ρ3 vs1) S6 acc with
                  | bad => rw [e7] at hm2; cases hm2
                  | ex x S5 => rw [e7] at hm2; cases hm2
                  | ok acc2 S7 =>
                    rw [e7] at hm2
                    dsimp only at hm2
                    refine lc_in hp1 hv1 hD (g25.trans g6) (g6.up _ (g5.up _ o2)) (g6.notA hD5 n5) s6 (g6.keepA hD5 n5 (g5.up _ o2)) (ra5.gr g6) ((k4.gr g5).gr g6) it1 e7 fun c7 H7 va2 q1 q2 q3 q4 q5 q6 => ?_
                    exact ⟨ds.length - (i + 1), by omega, c7, S7, acc2, va2, q1, q2, q3, q4, q5, q6, hm2, rfl, lt⟩
        · rw [if_neg wt] at hm2; cases hm2
      · have e : i = ds.length := by omega
        subst e
        rw [List.drop_length, mLc2L] at hm2
        by_cases wt : Wat ks S1 S2
        · rw [if_pos wt] at hm2
          obtain ⟨stop, step⟩ := it c2 H2 S2 g2 s2 wt
          cases hm2
          exact .inl ⟨stop, lc_end hD nO g2 o2 n2 s2 hD2 ra e3 fq'⟩
        · rw [if_neg wt] at hm2; cases hm2
section
variable {X : Cx} {W : WX} {elt tg iter tg1 iter1 : Expr} {ifs ifs1 : List Expr} {scope : Scope} {own : List (Str × Nat)} {vs1 : List Nat} {pos : Pos} {mi mi1 : MI} {p p1 : Pat} {mt mt1 : MT} {me : ME} {o : Bool}
theorem se_lc2 (hc : X.calm = true) (hN : X.N.Nodup) (hi : SI X W tg iter mi) (ok : BlkOk X.N X.env.scope scope own) (hv : ∀ i ∈ slotsP p, i ∈ own.map (·.2)) (hv1 : ∀ i ∈ slotsP p1, i ∈ vs1) (hv2 : ∀ i ∈ vs1, i ∈ own.map (·.2))
    (hg : Blk X scope fun Y => SP_ Y tg p) (ht : Blk X scope fun Y => STs Y W0 ifs mt) (hi1 : Blk X scope fun Y => SIr Y W0 tg1 iter1 mi1) (hg1 : Blk X scope fun Y => SP_ Y tg1 p1) (ht1 : Blk X scope fun Y => STs Y W0 ifs1 mt1) (he : Blk X scope fun Y => SE Y W0 elt me)
    (hs : ∀ x, foldedSetIterable iter X.env x = pure x) (hs1 : ∀ env x, foldedSetIterable iter1 env x = pure x) : SE X W (.ListComp elt [⟨tg, iter, ifs, 0⟩, ⟨tg1, iter1, ifs1, 0⟩] scope pos) (mLc2 mi p mt mi1 p1 mt1 me (own.map (·.2)) vs1 o) :=
  PE_of (pe_lc2 hc hN hi ok hv2 (fun s H C cl fp => hg s H C cl fp) (fun s H C cl fp => (ht s H C cl fp).ex) (fun s H C cl fp => hi1 s H C cl fp) (fun s H C cl fp => hg1 s H C cl fp) (fun s H C cl fp => (ht1 s H C cl fp).ex) (fun s H C cl fp => he s H C cl fp) hs hs1) fun σ H Q h => re_lc2 (ep_all (g := gOf X) p) hv (ep_all (g := gOf X) p1) hv1 h
end
end PL

set_option Elab.async false
set_option linter.all false
set_option maxRecDepth 100000
set_option autoImplicit false
set_option maxHeartbeats 4000000
namespace PL
open PySem PySem.Spec PyProof.Rows L2
/-! ### comparisons as tests -/
/-- it answers with a bool -/
def BoolM (m : ME) : Prop := ∀ ρ S d S', m ρ S = .ok d S' → ∃ b, d = .bool b
theorem rt_val {g : Gx} {W : WX} {m : ME} (hb : BoolM m) {σ : L2.St} {H : Hp} {Q : Bool → Hp → Prop} (h : RT g W (mTru m) σ H Q) : RE g W m σ H fun x H' => ∃ k, x = .bl k ∧ Q k H' := by
  obtain ⟨c, ρ, S, hE, hS, h⟩ := h
  refine ⟨c, ρ, S, hE, hS, ?_⟩
  have h' := Po.bnd h
  cases e : m ρ S with
  | bad => rw [e] at h'; exact h'
  | ex x S' => rw [e] at h'; exact h'
  | ok d S' =>
    rw [e] at h'
    obtain ⟨b, rfl⟩ := hb ρ S d S' e
    intro c1 H1 g1 s1 v rv
    have h2 := h' c1 H1 g1 s1
    obtain ⟨k, e2, q⟩ := Po.ofB (W := W) h2
    cases e2
    exact ⟨b, rv.bool_inv, q c1 H1 .refl s1⟩
theorem bind1_bool {o : Option Bool} {S S' : Sto} {z : Dat} {f : Bool → Bool} (h : (o.bind fun b => bool1 (f b) S) = some (z, S')) : ∃ b, z = .bool b := by
  obtain ⟨b, _, h⟩ := pbind_eq h
  exact ⟨_, (bool1_eq h).1⟩
theorem cmpop_bool {op : CmpOp} {S S' : Sto} {x y z : Dat} (h : cmpop op S x y = some (z, S')) : ∃ b, z = .bool b := by
  cases op <;> unfold cmpop at h
  case Is => dsimp only at h; split at h; exact ⟨_, (bool1_eq h).1⟩; cases h
  case IsNot => dsimp only at h; split at h; exact ⟨_, (bool1_eq h).1⟩; cases h
  all_goals
    obtain ⟨b, _, h⟩ := pbind_eq h
    exact ⟨_, (bool1_eq h).1⟩
theorem bnd_ok_inv {α β : Type} {r : Res α} {k : α → Sto → Res β} {b : β} {S' : Sto} (h : r.bnd k = .ok b S') : ∃ a S, r = .ok a S ∧ k a S = .ok b S' := by
  cases r with
  | ok a S => exact ⟨a, S, rfl, h⟩
  | ex _ _ => cases h
  | bad => cases h
theorem ofP_inv {α : Type} {o : Option (α × Sto)} {a : α} {S : Sto} (h : ofP o = .ok a S) : o = some (a, S) := by
  cases o with
  | none => cases h
  | some p => obtain ⟨b, T⟩ := p; cases h; rfl
theorem cmp_boolM {op : CmpOp} {ma mb : ME} : BoolM (m2 (cmpop op) ma mb) := fun ρ S d S' h => by
  obtain ⟨x, S1, _, h⟩ := bnd_ok_inv h
  obtain ⟨y, S2, _, h⟩ := bnd_ok_inv h
  exact cmpop_bool (ofP_inv h)
theorem chain_boolM {p q : CmpOp} {ma mb mc : ME} : BoolM (mChain (cmpop p) (cmpop q) ma mb mc) := fun ρ S d S' h => by
  obtain ⟨x, S1, _, h⟩ := bnd_ok_inv h
  obtain ⟨y, S2, _, h⟩ := bnd_ok_inv h
  obtain ⟨z, S3, _, h⟩ := bnd_ok_inv h
  split at h
  · obtain ⟨w, S4, _, h⟩ := bnd_ok_inv h
    exact cmpop_bool (ofP_inv h)
  · cases h; exact ⟨_, rfl⟩
  · cases h
theorem cont_boolM {C : Str} {F : Fun} {neg : Bool} {ma mb : ME} : BoolM (mContO C F neg ma mb) := fun ρ S d S' h => by
  obtain ⟨x, S1, _, h⟩ := bnd_ok_inv h
  obtain ⟨y, S2, _, h⟩ := bnd_ok_inv h
  split at h
  · obtain ⟨z, S3, _, h⟩ := bnd_ok_inv h
    unfold mBoolF at h
    split at h
    · cases h; exact ⟨_, rfl⟩
    · cases h
  · cases h
section
variable {X : Cx} {W : WX} {a b c : Expr} {m ma mb mc : ME} {pos : Pos}
theorem pc_cmp {op : CmpOp} (hu : X.A.units + 64 < cLine) (ha : SE X W a ma) (hb : SE X W b mb) : PC X op a b (RE (gOf X) W (m2 (cmpop op) ma mb)) :=
  ⟨fun pins s σ H Q I h => binT ha hb I (re_2 (fun _ _ _ _ q => q) h) fun v u s2 x y H2 I2 rx ry q => ok_cmp hu op pins s2 σ H2 x y v u Q I2 rx ry q⟩
theorem se_pc {op : CmpOp} (h : PC X op a b (RE (gOf X) W m)) (hm : behindInMarks op b = false) : SE X W (.Compare a [op] [b] pos) m := pe_cmp h hm
theorem st_pc {op : CmpOp} (h : PC X op a b (RE (gOf X) W m)) (hm : behindInMarks op b = false) (hb : BoolM m) : STt X W (.Compare a [op] [b] pos) (mTru m) := PT_of (pt_cmp h hm) fun σ H Q q => rt_val hb q
theorem st_chain {p q : CmpOp} (hu : X.A.units + 64 < cLine) (ha : SE X W a ma) (hb : SE X W b mb) (hc : SE X W c mc) (hm : lastMarks [p, q] [b, c] = false) : STt X W (.Compare a [p, q] [b, c] pos) (mTru (mChain (cmpop p) (cmpop q) ma mb mc)) :=
  PT_of (pt_chain (ok_cmp hu p) (ok_cmp hu q) ha hb hc hm) fun σ H Q h => re_chain (rt_val chain_boolM h)
end
end PL

set_option Elab.async false
set_option linter.all false
set_option maxRecDepth 100000
set_option autoImplicit false
set_option maxHeartbeats 4000000
namespace PL
open PySem PySem.Spec PyProof.Rows L2

/-! ### the checker: a tree and a term -/
/-- what a text may use: its slots, the module's constants, what may be called -/
structure Ctx where
  N : List Str
  /-- constants of the module -/
  gl : List (Str × Dat)
  /-- constants of classes -/
  cc : List ((Str × Str) × Dat)
  /-- defs: key, name, arrangement -/
  fn : List (Str × Str × Ar)
  /-- classes: class, key of its __init__, arrangement -/
  mks : List (Str × Str × Ar)
  /-- methods: class, name, key, arrangement -/
  mt : List (Str × Str × Str × Ar)
  /-- properties -/
  pr : List (Str × Str × Str)
  ct : CT
  /-- builtin names that are not shadowed -/
  bn : List Str
def strB? (x y : Str) : Bool := decide (x = y)
def srcEq : Src → Src → Bool
  | .p i, .p j => i == j
  | .k i, .k j => i == j
  | .d a, .d b => decide (a = b)
  | .r i, .r j => i == j
  | _, _ => false
def srcsEq : List Src → List Src → Bool
  | [], [] => true
  | a :: r, b :: s => srcEq a b && srcsEq r s
  | _, _ => false
def arEq : Ar → Ar → Bool
  | .all, .all => true
  | .by_ n v k l, .by_ n' v' k' l' => n == n' && v == v' && decide (k = k') && srcsEq l l'
  | _, _ => false
theorem srcEq_ok {a b : Src} (h : srcEq a b = true) : a = b := by
  cases a <;> cases b <;> simp [srcEq] at h <;> rw [h]
theorem srcsEq_ok : ∀ {a b : List Src}, srcsEq a b = true → a = b
  | [], [], _ => rfl
  | [], _ :: _, h => by simp [srcsEq] at h
  | _ :: _, [], h => by simp [srcsEq] at h
  | a :: r, b :: s, h => by
    rw [srcsEq, Bool.and_eq_true] at h
    rw [srcEq_ok h.1, srcsEq_ok h.2]
theorem arEq_ok {a b : Ar} (h : arEq a b = true) : a = b := by
  cases a <;> cases b <;> simp [arEq] at h
  · rfl
  · obtain ⟨⟨⟨rfl, rfl⟩, rfl⟩, e⟩ := h
    rw [srcsEq_ok e]
/-- names, by the scope -/
def isGl (sc : Scope) (x : Str) : Bool := decide (sc.names.lookup x = some .globalImplicit) && !(x == ("__debug__" : Str))
def isVis (sc : Scope) (x : Str) : Bool := (decide (sc.names.lookup x = some .local) || decide (sc.names.lookup x = some .cell) || decide (sc.names.lookup x = some .free)) && !(x == ("__debug__" : Str)) && !(x == ("__classdict__" : Str))
def isLoc (sc : Scope) (x : Str) : Bool := decide (sc.names.lookup x = some .local) || decide (sc.names.lookup x = some .cell)
/-- the scope of a block -/
def relab (scope sc : Scope) : Scope := { scope with names := scope.names.map fun (n, k) => if (k == .free && sc.kind == .function && sc.names.lookup n == some .cell) then (n, .cell) else (n, k) }
theorem relab_eq (scope : Scope) (env : PySem.Env) : relabel scope env = relab scope env.scope := rfl
end PL

set_option Elab.async false
set_option linter.all false
set_option maxRecDepth 100000
set_option autoImplicit false
set_option maxHeartbeats 4000000
namespace PL
open PySem PySem.Spec PyProof.Rows L2

def conOk : Const → Dat → Bool
  | .int i, .int j => i == j
  | .str x, .str y => decide (x = y)
  | .bool x, .bool y => x == y
  | .none, .none => true
  | _, _ => false
def biName : Bi → Str
  | .len => "len"
  | .abs => "abs"
  | .max2 => "max"
  | .min2 => "min"
  | .maxL => "max"
  | .minL => "min"
  | .sum => "sum"
  | .int => "int"
  | .str => "str"
  | .bool => "bool"
  | .all => "all"
  | .any => "any"
  | .sorted => "sorted"
  | .tuple => "tuple"
  | .list => "list"
  | .dict => "dict"
  | .repr => "repr"
def tyOk (Γ : Ctx) (sc : Scope) : Ty → Expr → Bool
  | .int, .Name n _ => decide (n = "int") && isGl sc n && Γ.bn.contains n
  | .bool, .Name n _ => decide (n = "bool") && isGl sc n && Γ.bn.contains n
  | .str, .Name n _ => decide (n = "str") && isGl sc n && Γ.bn.contains n
  | .tuple, .Name n _ => decide (n = "tuple") && isGl sc n && Γ.bn.contains n
  | .list, .Name n _ => decide (n = "list") && isGl sc n && Γ.bn.contains n
  | .dict, .Name n _ => decide (n = "dict") && isGl sc n && Γ.bn.contains n
  | .cls C, .Name n _ => decide (n = C) && isGl sc n && hasC Γ.ct C
  | _, _ => false
mutual
/-- a target -/
def chkP (N : List Str) (sc : Scope) (fn : Str → Bool) : Pat → Expr → Bool
  | .nm i, e => match e with
    | .Name x _ => decide (N[i]? = some x) && isLoc sc x && (fn x || decide (sc.names.lookup x = some .local))
    | _ => false
  | .tp ps, e => match e with
    | .Tuple es _ _ => chkPs N sc fn ps es
    | _ => false
def chkPs (N : List Str) (sc : Scope) (fn : Str → Bool) : List Pat → List Expr → Bool
  | [], es => es.isEmpty
  | p :: ps, es => match es with
    | e :: es => noStar e && chkP N sc fn p e && chkPs N sc fn ps es
    | [] => false
end
/-- a call of a def, in the table -/
def fnIn_ (Γ : Ctx) (f n : Str) (ar : Ar) : Bool := Γ.fn.any fun q => decide (q.1 = f) && decide (q.2.1 = n) && arEq q.2.2 ar
def mkIn_ (Γ : Ctx) (C f : Str) (ar : Ar) : Bool := Γ.mks.any fun q => decide (q.1 = C) && decide (q.2.1 = f) && arEq q.2.2 ar
def mtIn_ (Γ : Ctx) (C m f : Str) (ar : Ar) : Bool := Γ.mt.any fun q => decide (q.1 = C) && decide (q.2.1 = m) && decide (q.2.2.1 = f) && arEq q.2.2.2 ar
def prIn_ (Γ : Ctx) (C m f : Str) : Bool := Γ.pr.any fun q => decide (q.1 = C) && decide (q.2.1 = m) && decide (q.2.2 = f)
def glIn_ (Γ : Ctx) (x : Str) (d : Dat) : Bool := Γ.gl.any fun q => decide (q.1 = x) && decide (q.2 = d)
def ccIn_ (Γ : Ctx) (C f : Str) (d : Dat) : Bool := Γ.cc.any fun q => decide (q.1.1 = C) && decide (q.1.2 = f) && decide (q.2 = d)
def kwOk (kws : List Keyword) (kn : List Str) : Bool := decide (kws.map (·.arg) = kn.map some)
def ownOf (N : List Str) (vs : List Nat) : List (Str × Nat) := vs.map fun i => ((N[i]?).getD "", i)
def isTupE : Expr → Bool
  | .Tuple _ _ _ => true
  | _ => false
def plainCall : Expr → Bool
  | .Call (.Name _ _) _ _ _ => true
  | .Call _ _ _ _ => false
  | _ => true
def plainSet : Expr → Bool
  | .Set _ _ _ => false
  | _ => true
def isYes : T → Bool
  | .yes => true
  | _ => false
mutual
def chkE (Γ : Ctx) (sc : Scope) : E → Expr → Bool
  | .var i, e => match e with
    | .Name x _ => decide (Γ.N[i]? = some x) && isVis sc x
    | _ => false
  | .con d, e => match e with
    | .Constant c _ _ => conOk c d
    | _ => false
  | .glob x d, e => match e with
    | .Name y _ => decide (y = x) && isGl sc x && glIn_ Γ x d
    | _ => false
  | .ccon C f d, e => match e with
    | .Attribute (.Name y _) g _ => decide (y = C) && decide (g = f) && isGl sc C && ccIn_ Γ C f d
    | _ => false
  | .bin _ op a b, e => match e with
    | .BinOp x op' y _ => decide (op' = op) && chkE Γ sc a x && chkE Γ sc b y
    | _ => false
  | .neg a, e => match e with
    | .UnaryOp .USub x _ => chkE Γ sc a x
    | _ => false
  | .cmp op a b, e => match e with
    | .Compare x [op'] [y] _ => decide (op' = op) && !behindInMarks op y && chkE Γ sc a x && chkE Γ sc b y
    | _ => false
  | .chain p q a b c, e => match e with
    | .Compare x [p', q'] [y, z] _ => decide (p' = p) && decide (q' = q) && !lastMarks [p, q] [y, z] && chkE Γ sc a x && chkE Γ sc b y && chkE Γ sc c z
    | _ => false
  | .andE a b, e => match e with
    | .BoolOp .And [x, y] _ => chkE Γ sc a x && chkE Γ sc b y
    | .BoolOp .And (x :: y :: z :: r) pos => chkE Γ sc a x && chkE Γ sc b (.BoolOp .And (y :: z :: r) pos)
    | _ => false
  | .orE a b, e => match e with
    | .BoolOp .Or [x, y] _ => chkE Γ sc a x && chkE Γ sc b y
    | .BoolOp .Or (x :: y :: z :: r) pos => chkE Γ sc a x && chkE Γ sc b (.BoolOp .Or (y :: z :: r) pos)
    | _ => false
  | .notE a, e => match e with
    | .UnaryOp .Not x _ => chkE Γ sc a x
    | _ => false
  | .ife t a b, e => match e with
    | .IfExp t' x y _ => chkT Γ sc t t' && chkE Γ sc a x && chkE Γ sc b y
    | _ => false
  | .tup as, e => match e with
    | .Tuple es _ _ => chkA Γ sc as es
    | _ => false
  | .lst _ as, e => match e with
    | .List es _ => chkA Γ sc as es
    | _ => false
  | .dic _ ks vs, e => match e with
    | .Dict keys values _ => (ks.isEmpty && keys.isEmpty && values.isEmpty && (match vs with | .nil => true | _ => false)) || (!keys.isEmpty && decide (keys.length ≤ 15) && decide (ks.length = keys.length) && (ks.all fun k => keyOk k && !isTupD k) && chkD Γ sc vs ks keys values)
    | _ => false
  | .idx a i, e => match e with
    | .Subscript x y _ => plainIx y && chkE Γ sc a x && chkE Γ sc i y
    | _ => false
  | .sl _ a lo hi, e => match e with
    | .Subscript x (.Slice l h none _) _ => chkE Γ sc a x && chkO Γ sc lo l && chkO Γ sc hi h
    | _ => false
  | .fld a f, e => match e with
    | .Attribute x g _ => decide (g = f) && plainBase x && chkE Γ sc a x
    | _ => false
  | .isi a ts _, e => match e with
    | .Call (.Name n _) [x, c] [] _ => decide (n = "isinstance") && isGl sc n && Γ.bn.contains n && noStar x && noStar c && chkE Γ sc a x && (match ts with | [t] => tyOk Γ sc t c | _ => false)
    | _ => false
  | .bi b _ as, e => match e with
    | .Call (.Name n _) (x :: es) [] _ => decide (n = biName b) && isGl sc n && Γ.bn.contains n && (x :: es).all noStar && chkA Γ sc as (x :: es)
    | _ => false
  | .bm b a as, e => match e with
    | .Call (.Attribute x m apos) es [] pos => decide (m = bmName b) && decide (b ≠ .remove) && plainBase x && es.all noStar && decide (es.length < 29) && (apos.endLine == pos.line) && chkE Γ sc a x && chkA Γ sc as es
    | _ => false
  | .call f as ks ar, e => match e with
    | .Call (.Name n _) es kws _ => fnIn_ Γ f n ar && isGl sc n && es.all noStar && kwOk kws ar.kn && chkA Γ sc as es && chkK Γ sc ks kws
    | _ => false
  | .make C f as ks ar, e => match e with
    | .Call (.Name n _) es kws _ => decide (n = C) && mkIn_ Γ C f ar && isGl sc n && es.all noStar && kwOk kws ar.kn && chkA Γ sc as es && chkK Γ sc ks kws
    | _ => false
  | .meth C m f a as ks ar, e => match e with
    | .Call (.Attribute x m' apos) es kws pos => decide (m' = m) && mtIn_ Γ C m f ar && plainBase x && es.all noStar && kwOk kws ar.kn && decide (es.length + kws.length < 29) && (apos.endLine == pos.line) && chkE Γ sc a x && chkA Γ sc as es && chkK Γ sc ks kws
    | _ => false
  | .prop C m f a, e => match e with
    | .Attribute x g _ => decide (g = m) && prIn_ Γ C m f && plainBase x && chkE Γ sc a x
    | _ => false
  | .getI C f a b, e => match e with
    | .Subscript x y _ => plainIx y && mtIn_ Γ C "__getitem__" f .all && chkE Γ sc a x && chkE Γ sc b y
    | _ => false
  | .cont C f n a b, e => match e with
    | .Compare x [op] [y] _ => decide (op = if n then .NotIn else .In) && !behindInMarks op y && mtIn_ Γ C "__contains__" f .all && chkE Γ sc a x && chkE Γ sc b y
    | _ => false
  | .lenO C f a, e => match e with
    | .Call (.Name n _) [x] [] _ => decide (n = "len") && isGl sc n && Γ.bn.contains n && noStar x && mtIn_ Γ C "__len__" f .all && chkE Γ sc a x
    | _ => false
  | .lc _ it p t el vs, e => match e with
    | .ListComp x [⟨tg, iter, ifs, 0⟩] scope _ => plainSet iter && blkC Γ.N sc scope (ownOf Γ.N vs) && (slotsP p).all (fun i => vs.contains i) && chkI Γ sc it tg iter && chkP Γ.N (relab scope sc) (fun x => scope.names.lookup x == some .cell) p tg && (match ifs with | [] => isYes t | [y] => chkT Γ (relab scope sc) t y | _ => false) && chkE Γ (relab scope sc) el x
    | _ => false
  | .lc2 _ it p t it1 p1 t1 el vs vs1, e => match e with
    | .ListComp x [⟨tg, iter, ifs, 0⟩, ⟨tg1, iter1, ifs1, 0⟩] scope _ => plainSet iter && plainSet iter1 && blkC Γ.N sc scope (ownOf Γ.N vs) && (slotsP p).all (fun i => vs.contains i) && (slotsP p1).all (fun i => vs1.contains i) && vs1.all (fun i => vs.contains i) && chkI Γ sc it tg iter && chkP Γ.N (relab scope sc) (fun x => scope.names.lookup x == some .cell) p tg && (match ifs with | [] => isYes t | [y] => chkT Γ (relab scope sc) t y | _ => false) &&
      chkR Γ (relab scope sc) it1 iter1 && chkP Γ.N (relab scope sc) (fun x => scope.names.lookup x == some .cell) p1 tg1 && (match ifs1 with | [] => isYes t1 | [y] => chkT Γ (relab scope sc) t1 y | _ => false) && chkE Γ (relab scope sc) el x
    | _ => false
  | .dc _ it p t k el vs, e => match e with
    | .DictComp kx x [⟨tg, iter, ifs, 0⟩] scope _ => plainSet iter && blkC Γ.N sc scope (ownOf Γ.N vs) && (slotsP p).all (fun i => vs.contains i) && chkI Γ sc it tg iter && chkP Γ.N (relab scope sc) (fun x => scope.names.lookup x == some .cell) p tg && (match ifs with | [] => isYes t | [y] => chkT Γ (relab scope sc) t y | _ => false) && chkE Γ (relab scope sc) k kx && chkE Γ (relab scope sc) el x
    | _ => false
  | _, _ => false
/-- a test -/
def chkT (Γ : Ctx) (sc : Scope) : T → Expr → Bool
  | .tru e, x => (match x with
    | .UnaryOp .Not _ _ => false
    | .BoolOp _ _ _ => false
    | .IfExp _ _ _ _ => false
    | .Compare _ _ _ _ => (match e with | .cmp _ _ _ => true | .chain _ _ _ _ _ => true | .cont _ _ _ _ _ => true | _ => false)
    | _ => true) && chkE Γ sc e x
  | .yes, _ => false
  | .and a b, x => match x with
    | .BoolOp .And [y, z] _ => chkT Γ sc a y && chkT Γ sc b z
    | .BoolOp .And (y :: z :: w :: r) pos => chkT Γ sc a y && chkT Γ sc b (.BoolOp .And (z :: w :: r) pos)
    | _ => false
  | .or a b, x => match x with
    | .BoolOp .Or [y, z] _ => chkT Γ sc a y && chkT Γ sc b z
    | .BoolOp .Or (y :: z :: w :: r) pos => chkT Γ sc a y && chkT Γ sc b (.BoolOp .Or (z :: w :: r) pos)
    | _ => false
  | .not a, x => match x with
    | .UnaryOp .Not y _ => chkT Γ sc a y
    | _ => false
def chkA (Γ : Ctx) (sc : Scope) : As → List Expr → Bool
  | .nil, es => es.isEmpty
  | .cons e r, es => match es with
    | x :: xs => noStar x && chkE Γ sc e x && chkA Γ sc r xs
    | [] => false
  | .star e r, es => match es with
    | .Starred x _ :: xs => chkE Γ sc e x && chkA Γ sc r xs
    | _ => false
def chkK (Γ : Ctx) (sc : Scope) : As → List Keyword → Bool
  | .nil, ks => ks.isEmpty
  | .cons e r, ks => match ks with
    | ⟨_, x, _⟩ :: xs => chkE Γ sc e x && chkK Γ sc r xs
    | [] => false
  | .star _ _, _ => false
def chkD (Γ : Ctx) (sc : Scope) : As → List Dat → List (Option Expr) → List Expr → Bool
  | .nil, ks, keys, vs => ks.isEmpty && keys.isEmpty && vs.isEmpty
  | .cons e r, ks, keys, vs => match ks, keys, vs with
    | k :: ks, some (.Constant c _ _) :: keys, v :: vs => conOk c k && chkE Γ sc e v && chkD Γ sc r ks keys vs
    | _, _, _ => false
  | .star _ _, _, _, _ => false
def chkO (Γ : Ctx) (sc : Scope) : Eo → Option Expr → Bool
  | .no, x => x.isNone
  | .so e, x => match x with
    | some y => chkE Γ sc e y
    | none => false
def chkI (Γ : Ctx) (sc : Scope) : It_ → Expr → Expr → Bool
  | .seq e, _, x => chkE Γ sc e x
  | .en e, tg, x => match x with
    | .Call (.Name n _) [y] [] _ => decide (n = "enumerate") && isGl sc n && Γ.bn.contains n && noStar y && isTupE tg && chkE Γ sc e y
    | _ => false
  | .rng1 e, _, x => match x with
    | .Call (.Name n _) [y] [] _ => decide (n = "range") && isGl sc n && Γ.bn.contains n && noStar y && chkE Γ sc e y
    | _ => false
  | .rng2 a b, _, x => match x with
    | .Call (.Name n _) [y, z] [] _ => decide (n = "range") && isGl sc n && Γ.bn.contains n && noStar y && noStar z && chkE Γ sc a y && chkE Γ sc b z
    | _ => false
  | .zip a b, tg, x => match x with
    | .Call (.Name n _) [y, z] [] _ => decide (n = "zip") && isGl sc n && Γ.bn.contains n && noStar y && noStar z && isTupE tg && chkE Γ sc a y && chkE Γ sc b z
    | _ => false
  | .keys e, _, x => chkE Γ sc e x
  | .items e, tg, x => match x with
    | .Call (.Attribute y m apos) [] [] pos => decide (m = "items") && plainBase y && (apos.endLine == pos.line) && isTupE tg && chkE Γ sc e y
    | _ => false
  | .vals _, _, _ => false
/-- an inner clause: over a range -/
def chkR (Γ : Ctx) (sc : Scope) : It_ → Expr → Bool
  | .rng1 e, x => match x with
    | .Call (.Name n _) [y] [] _ => decide (n = "range") && isGl sc n && Γ.bn.contains n && noStar y && chkE Γ sc e y
    | _ => false
  | _, _ => false
end
end PL

set_option Elab.async false
set_option linter.all false
set_option maxRecDepth 100000
set_option autoImplicit false
set_option maxHeartbeats 4000000
namespace PL
open PySem PySem.Spec PyProof.Rows L2 ClX

/-! ### what is checked is so -/
structure ModOk (Γ : Ctx) (Φ : Fe) (lv : Nat) (g : Gx) (base : Heap) : Prop where
  gl : ∀ x d, glIn_ Γ x d = true → ∃ v u, g.mg x = some u ∧ RelV v u ∧ ∀ c H, Rp g c H v d
  cc : ∀ C f d, ccIn_ Γ C f d = true → ∃ A mc v u, g.mg C = some (.ref A) ∧ CRead g.K A mc ∧ CVal g.K A mc f v u ∧ ∀ c H, Rp g c H v d
  fn : ∀ f n ar, fnIn_ Γ f n ar = true → CalP g base lv n ar (Φ.call f)
  mks : ∀ C f ar, mkIn_ Γ C f ar = true → ∃ F fz, Φ.make C f = runMk F fz C ∧ MkP g base lv C ar F
  mt : ∀ C m f ar, mtIn_ Γ C m f ar = true → MetP g base lv C m ar (Φ.call f)
  gi : ∀ C f, mtIn_ Γ C "__getitem__" f .all = true → ∀ A q, g.mg C = some (.ref A) → PySem.W.findIn g.K (.ref A) "__getitem__" = some (some (.ref q)) → PySem.W.fnIn g.K q = true
  pr : ∀ C m f, prIn_ Γ C m f = true → PrpP g base lv C m (Φ.call f)
  ct : CtOk g Γ.ct
  cf : Φ.ct = Γ.ct
  cl : ∀ C, hasC Γ.ct C = true → ∃ B, g.mg C = some (.ref B)
  bn : ∀ n, Γ.bn.contains n = true → g.mg n = none
structure OkX (Γ : Ctx) (Φ : Fe) (lv : Nat) (sc : Scope) (X : Cx) (W : WX) : Prop where
  sc : X.env.scope = sc
  N : X.N = Γ.N
  nd : X.N.Nodup
  hu : X.A.units + 64 < cLine
  gA : X.A.guards = some []
  calm : X.calm = true
  room : Room (lv + 1) X.A
  tk : Takes X W
  md : ModOk Γ Φ lv (gOf X) X.base
section
variable {Γ : Ctx} {Φ : Fe} {lv : Nat} {sc : Scope} {X : Cx} {W : WX}
theorem OkX.gl (ok : OkX Γ Φ lv sc X W) {x : Str} (h : isGl sc x = true) : Gl X x ∧ (x == ("__debug__" : Str)) = false := by
  unfold isGl at h
  rw [Bool.and_eq_true, decide_eq_true_eq] at h
  refine ⟨?_, by simpa using h.2⟩
  show X.env.scope.names.lookup x = _
  rw [ok.sc]; exact h.1
theorem OkX.blk (ok : OkX Γ Φ lv sc X W) (scope : Scope) (s : Shared) (H : Hp) (C : Addr) (cl : List (Str × Addr)) (fp : List Addr) : OkX Γ Φ lv (relab scope sc) (X.blk s H scope (compEnvC scope cl C X.env) fp) W0 :=
  ⟨by show relabel scope X.env = _; rw [relab_eq, ok.sc], ok.N, ok.nd, ok.hu, ok.gA, ok.calm, ok.room, fun u s' ⟨_, _, _, _, _, _, _, _, _, _, _, _, _, _, _, _, w⟩ => w.elim, ok.md⟩
end
section
variable {Γ : Ctx} {sc : Scope} {X : Cx} {fn : Str → Bool}
mutual
theorem chkP_ok (hs : X.env.scope = sc) (hN : X.N = Γ.N) (nd : X.N.Nodup) (hc : X.calm = true) (hf : X.fn = fn) : ∀ (p : Pat) (e : Expr), chkP Γ.N sc fn p e = true → SP_ X e p
  | .nm i, e, h => by
    unfold chkP at h
    try dsimp only at h
    split at h
    · simp only [Bool.and_eq_true, Bool.or_eq_true, decide_eq_true_eq] at h
      refine sp_nm nd (by rw [hN]; exact h.1.1) ?_ ?_
      · rw [hs]
        have := h.1.2
        unfold isLoc at this
        rw [Bool.or_eq_true, decide_eq_true_eq, decide_eq_true_eq] at this
        exact this
      · rw [hs, hf]; exact h.2
    · cases h
  | .tp ps, e, h => by
    unfold chkP at h
    try dsimp only at h
    split at h
    · obtain ⟨k1, k2, k3⟩ := chkPs_ok hs hN nd hc hf ps _ h
      exact sp_tp hc k1 k2 k3
    · cases h
theorem chkPs_ok (hs : X.env.scope = sc) (hN : X.N = Γ.N) (nd : X.N.Nodup) (hc : X.calm = true) (hf : X.fn = fn) : ∀ (ps : List Pat) (es : List Expr), chkPs Γ.N sc fn ps es = true → SPs_ X es ps ∧ (assignEach es X.env).length = ps.length ∧ (assignEach es X.env).findIdx? (·.1) = none
  | [], es, h => by
    unfold chkPs at h
    try dsimp only at h
    cases es with
    | nil => exact ⟨sps_nil, rfl, rfl⟩
    | cons _ _ => cases h
  | p :: ps, es, h => by
    unfold chkPs at h
    try dsimp only at h
    split at h
    · rename_i e es
      simp only [Bool.and_eq_true] at h
      obtain ⟨k1, k2, k3⟩ := chkPs_ok hs hN nd hc hf ps es h.2
      have ea : assignEach (e :: es) X.env = (false, assign e X.env) :: assignEach es X.env := by
        have := h.1.1
        cases e <;> first | rfl | cases this
      refine ⟨sps_cons (chkP_ok hs hN nd hc hf p e h.1.2) k1 (by rw [ea]; rfl), by rw [ea]; simp [k2], ?_⟩
      rw [ea, List.findIdx?_cons]
      simp [k3]
    · cases h
end
end
end PL

set_option Elab.async false
set_option linter.all false
set_option maxRecDepth 100000
set_option autoImplicit false
set_option maxHeartbeats 4000000
namespace PL
open PySem PySem.Spec PyProof.Rows L2
theorem conOk_se {X : Cx} {W : WX} {c : Const} {d : Dat} {k : Nat} {pos : Pos} (h : conOk c d = true) : SE X W (.Constant c k pos) (mC d) := by
  unfold conOk at h
  split at h
  · rw [beq_iff_eq] at h; subst h; exact se_int
  · rw [decide_eq_true_eq] at h; subst h; exact se_str
  · rw [beq_iff_eq] at h; subst h; exact se_bl
  · exact se_non
  · cases h
theorem conOk_key {X : Cx} {c : Const} {d : Dat} {k : Nat} {pos : Pos} (h : conOk c d = true) (hk : (keyOk d && !isTupD d) = true) : ∃ kk : Key, d = kD kk ∧ PE X (.Constant c k pos) (tC (kV kk)) := by
  unfold conOk at h
  split at h
  · rw [beq_iff_eq] at h; subst h; exact ⟨.inl _, rfl, pe_int⟩
  · rw [decide_eq_true_eq] at h; subst h; exact ⟨.inr _, rfl, pe_str⟩
  · simp [keyOk] at hk
  · simp [keyOk] at hk
  · cases h
theorem isTrue_plain {x : Expr} {env : PySem.Env} (h : (match x with
    | .UnaryOp .Not _ _ => false
    | .BoolOp _ _ _ => false
    | .IfExp _ _ _ _ => false
    | .Compare _ _ _ _ => false
    | _ => true) = true) : ∀ whole, isTrue x env whole = (do let v ← whole; standAt x.pos; holding [v] (truthy v)) := by
  intro whole
  cases x <;> first | rfl | (cases h; done) | skip
  rename_i op a p
  cases op <;> first | rfl | cases h
/-- a builtin by its name -/
theorem bi_callee (b : Bi) : (∃ id, biV b = .builtin id ∧ bootBuiltins (biName b) = some (.builtin id)) ∨ ∃ T, biV b = .type T ∧ bootBuiltins (biName b) = some (.type T) := by
  cases b <;> first
    | exact .inl ⟨_, rfl, by decide +kernel⟩
    | exact .inr ⟨_, rfl, by decide +kernel⟩
theorem biName_ne (b : Bi) : biName b ≠ "__name__" := by cases b <;> decide
section
variable {Γ : Ctx} {Φ : Fe} {lv : Nat} {sc : Scope} {X : Cx} {W : WX}
theorem se_bi {b : Bi} {o : Bool} {n : Str} {x : Expr} {es : List Expr} {mA : MA} {p pos : Pos} (ok : OkX Γ Φ lv sc X W) (hn : n = biName b) (hg : isGl sc n = true) (hb : Γ.bn.contains n = true) (hst : (x :: es).all noStar = true) (ha : SA X W (x :: es) mA) : SE X W (.Call (.Name n p) (x :: es) [] pos) (mN (biD b o) mA) := by
  subst hn
  obtain ⟨g1, g2⟩ := ok.gl hg
  have hm := ok.md.bn _ hb
  rw [List.all_cons, Bool.and_eq_true] at hst
  have rule := ok_bi (X := X) (o := o) ok.calm ok.hu ok.gA b
  rcases bi_callee b with ⟨id, e1, e2⟩ | ⟨T, e1, e2⟩
  · rw [e1] at rule
    exact PE_of (pe_callB rule g1 hm e2 ha (biName_ne b) g2 (star_cons hst.1) (back_plain hst.2)) fun _ _ _ h => re_N (fun _ _ _ q => q) h
  · rw [e1] at rule
    exact PE_of (pe_callTy rule g1 hm e2 ha (biName_ne b) g2 (star_cons hst.1) (back_plain hst.2)) fun _ _ _ h => re_N (fun _ _ _ q => q) h
theorem ty_se {t : Ty} {c : Expr} (ok : OkX Γ Φ lv sc X W) (h : tyOk Γ sc t c = true) : ∃ cv u, PE X c (tC cv) ∧ ClsV cv u ∧ TyV (gOf X) Γ.ct t u := by
  unfold tyOk at h
  split at h
  case h_7 =>
    simp only [Bool.and_eq_true, decide_eq_true_eq] at h
    obtain ⟨⟨rfl, h1⟩, h2⟩ := h
    obtain ⟨g1, g2⟩ := ok.gl h1
    obtain ⟨B, hB⟩ := ok.md.cl _ h2
    exact ⟨.ref B, .ref B, pe_glob g1 hB rfl g2, .own B, h2, B, hB, rfl⟩
  case h_8 => cases h
  all_goals
    simp only [Bool.and_eq_true, decide_eq_true_eq] at h
    obtain ⟨⟨rfl, h1⟩, h2⟩ := h
    obtain ⟨g1, g2⟩ := ok.gl h1
    exact ⟨.ty _, .type _, pe_bltn g1 (ok.md.bn _ h2) (by decide +kernel) rfl (by decide) g2, .ty _, rfl⟩
end
end PL

set_option Elab.async false
set_option linter.all false
set_option maxRecDepth 100000
set_option autoImplicit false
set_option maxHeartbeats 8000000
namespace PL
open PySem PySem.Spec PyProof.Rows L2 ClX
theorem ownOf_snd (N : List Str) : ∀ vs : List Nat, (ownOf N vs).map (·.2) = vs
  | [] => rfl
  | v :: vs => by unfold ownOf at *; rw [List.map_cons, List.map_cons]; congr 1; exact ownOf_snd N vs
theorem all_mem {xs vs : List Nat} (h : (xs.all fun i => vs.contains i) = true) : ∀ i ∈ xs, i ∈ vs := fun i hi => by
  have := List.all_eq_true.mp h i hi
  simpa using this
theorem folded_plain {i : Expr} (h : plainSet i = true) (env : PySem.Env) (x : Value) : foldedSetIterable i env x = pure x := by
  cases i <;> first | rfl | cases h
/-- a test that is judged both ways -/
def TT2 (X : Cx) (W : WX) (e : Expr) (m : MT) : Prop := STt X W e m ∧ ∀ op vs pos, e = .BoolOp op vs pos → SW X W e m
theorem se_bm {X : Cx} {W : WX} {b : Bm} {a : Expr} {es : List Expr} {ma : ME} {mA : MA} {apos pos : Pos} (hu : X.A.units + 64 < cLine) (hb : b ≠ .remove) (ho : SE X W a ma) (ha : SA X W es mA) (hn : es = [] → mA = mNil) (hbase : attributeBase a (bmName b) X.env (eval a X.env) = eval a X.env) (hst : es.all noStar = true) (hl : es.length < 29) (hline : (apos.endLine == pos.line) = true) :
    SE X W (.Call (.Attribute a (bmName b) apos) es [] pos) (mBm b ma mA) := by
  have key : ∃ id, Slot (bmTy b) (bmName b) id ∧ typeOf (.builtin id) = pure (.type "method_descriptor") ∧ MtM X id (rBm (gOf X) b) ∧ PlainAttrs (bmTy b) := by
    cases b with
    | join => exact ⟨_, PySem.F.slot_str_join, PySem.F.type_str_join, bm_join, PySem.F.plainAttrs_str⟩
    | append => exact ⟨_, PySem.F.slot_list_append, PySem.F.type_list_append, bm_append, PySem.F.plainAttrs_list⟩
    | extend => exact ⟨_, PySem.F.slot_list_extend, PySem.F.type_list_extend, bm_extend, PySem.F.plainAttrs_list⟩
    | remove => exact absurd rfl hb
    | pop => exact ⟨_, PySem.F.slot_list_pop, PySem.F.type_list_pop, bm_pop, PySem.F.plainAttrs_list⟩
    | clear => exact ⟨_, PySem.F.slot_list_clear, PySem.F.type_list_clear, bm_clear, PySem.F.plainAttrs_list⟩
    | get1 => exact ⟨_, PySem.F.slot_dict_get, PySem.F.type_dict_get, bm_get1 hu, PySem.F.plainAttrs_dict⟩
    | get2 => exact ⟨_, PySem.F.slot_dict_get, PySem.F.type_dict_get, bm_get2 hu, PySem.F.plainAttrs_dict⟩
  obtain ⟨id, k1, k2, k3, k4⟩ := key
  cases es with
  | nil => rw [hn rfl]; exact se_bmN k4 k1 k2 k3 ho hbase hline
  | cons e es =>
    have hst' := hst
    rw [List.all_cons, Bool.and_eq_true] at hst'
    refine se_bmC k4 k1 k2 k3 ho ha hbase ?_ hline (star_cons hst'.1) (back_plain hst'.2)
    rw [back_few hst]
    have : decide ((e :: es).length + ([] : List Keyword).length + (if ([] : List Keyword).isEmpty then 0 else 1) < 30) = true := by
      rw [decide_eq_true_eq]
      have : (e :: es).length < 29 := hl
      simp at this ⊢
      omega
    rw [this]; rfl
theorem chkTs_ok {Γ : Ctx} {Φ : Fe} {sc : Scope} {X : Cx} {t : T} {ifs : List Expr} (h1 : ∀ y, chkT Γ sc t y = true → STt X W0 y (evT Φ t)) (h : (match ifs with | [] => isYes t | [y] => chkT Γ sc t y | _ => false) = true) : STs X W0 ifs (evT Φ t) := by
  split at h
  · cases t <;> first | (cases h; done) | skip
    rw [evT]; exact sts_nil
  · exact sts_one (h1 _ h)
  · cases h
section
variable {Γ : Ctx} {Φ : Fe} {lv : Nat}
mutual
theorem chkE_ok : ∀ (t : E) (e : Expr) (sc : Scope) (X : Cx) (W : WX), OkX Γ Φ lv sc X W → chkE Γ sc t e = true → SE X W e (evE Φ t)
  | .var i, e, sc, X, W, ok, h => by
    unfold chkE at h; rw [evE]
    split at h
    · simp only [Bool.and_eq_true, decide_eq_true_eq, isVis, Bool.or_eq_true] at h
      refine se_var (by rw [ok.N]; exact h.1) ?_ (by simpa using h.2.1.2) (by simpa using h.2.2)
      unfold Vis
      rw [ok.sc]
      rcases h.2.1.1 with (q | q) | q
      · exact .inl q
      · exact .inr (.inl q)
      · exact .inr (.inr q)
    · cases h
  | .con d, e, sc, X, W, ok, h => by
    unfold chkE at h; rw [evE]
    split at h
    · exact conOk_se h
    · cases h
  | .glob x d, e, sc, X, W, ok, h => by
    unfold chkE at h; rw [evE]
    split at h
    · simp only [Bool.and_eq_true, decide_eq_true_eq] at h
      obtain ⟨⟨rfl, h1⟩, h2⟩ := h
      obtain ⟨g1, g2⟩ := ok.gl h1
      obtain ⟨v, u, hm, rv, hr⟩ := ok.md.gl _ _ h2
      exact se_C (pe_glob g1 hm rv g2) hr
    · cases h
  | .bin o op a b, e, sc, X, W, ok, h => by
    unfold chkE at h; rw [evE]
    split at h
    · simp only [Bool.and_eq_true, decide_eq_true_eq] at h
      obtain ⟨⟨rfl, h1⟩, h2⟩ := h
      exact se_bin (ok_bin o _) (chkE_ok a _ sc X W ok h1) (chkE_ok b _ sc X W ok h2)
    · cases h
  | .neg a, e, sc, X, W, ok, h => by
    unfold chkE at h; rw [evE]
    split at h
    · exact se_un ok_neg (chkE_ok a _ sc X W ok h)
    · cases h
  | .cmp op a b, e, sc, X, W, ok, h => by
    unfold chkE at h; rw [evE]
    split at h
    · simp only [Bool.and_eq_true, decide_eq_true_eq, Bool.not_eq_true'] at h
      obtain ⟨⟨⟨rfl, h0⟩, h1⟩, h2⟩ := h
      exact se_cmp (ok_cmp ok.hu _) (chkE_ok a _ sc X W ok h1) (chkE_ok b _ sc X W ok h2) h0
    · cases h
  | .chain p q a b c, e, sc, X, W, ok, h => by
    unfold chkE at h; rw [evE]
    split at h
    · simp only [Bool.and_eq_true, decide_eq_true_eq, Bool.not_eq_true'] at h
      obtain ⟨⟨⟨⟨⟨rfl, rfl⟩, h0⟩, h1⟩, h2⟩, h3⟩ := h
      exact se_chain ok.hu (chkE_ok a _ sc X W ok h1) (chkE_ok b _ sc X W ok h2) (chkE_ok c _ sc X W ok h3) h0
    · cases h
  | .andE a b, e, sc, X, W, ok, h => by
    unfold chkE at h; rw [evE]
    split at h
    · rw [Bool.and_eq_true] at h
      exact se_and (chkE_ok a _ sc X W ok h.1) (se_one (chkE_ok b _ sc X W ok h.2))
    · rw [Bool.and_eq_true] at h
      exact se_and (chkE_ok a _ sc X W ok h.1) (chkE_ok b _ sc X W ok h.2)
    · cases h
  | .orE a b, e, sc, X, W, ok, h => by
    unfold chkE at h; rw [evE]
    split at h
    · rw [Bool.and_eq_true] at h
      exact se_or (chkE_ok a _ sc X W ok h.1) (se_one (chkE_ok b _ sc X W ok h.2))
    · rw [Bool.and_eq_true] at h
      exact se_or (chkE_ok a _ sc X W ok h.1) (chkE_ok b _ sc X W ok h.2)
    · cases h
  | .notE a, e, sc, X, W, ok, h => by
    unfold chkE at h; rw [evE]
    split at h
    · exact se_not (chkE_ok a _ sc X W ok h)
    · cases h
  | .ife t a b, e, sc, X, W, ok, h => by
    unfold chkE at h; rw [evE]
    split at h
    · simp only [Bool.and_eq_true] at h
      exact se_if (chkT_ok t _ sc X W ok h.1.1).1 (chkE_ok a _ sc X W ok h.1.2) (chkE_ok b _ sc X W ok h.2)
    · cases h
  | .tup as, e, sc, X, W, ok, h => by
    unfold chkE at h; rw [evE]
    split at h
    · exact se_tup (chkA_ok as _ sc X W ok h).1
    · cases h
  | .lst o as, e, sc, X, W, ok, h => by
    unfold chkE at h; rw [evE]
    split at h
    · exact se_lst (chkA_ok as _ sc X W ok h).1
    · cases h
  | .dic o ks vs, e, sc, X, W, ok, h => by
    unfold chkE at h; rw [evE]
    split at h
    · rename_i keys values pos
      rw [Bool.or_eq_true] at h
      rcases h with h | h
      · simp only [Bool.and_eq_true, List.isEmpty_iff] at h
        obtain ⟨⟨⟨rfl, rfl⟩, rfl⟩, h4⟩ := h
        cases vs with
        | nil => rw [evA]; exact se_dic0
        | cons _ _ => cases h4
        | star _ _ => cases h4
      · simp only [Bool.and_eq_true, decide_eq_true_eq, Bool.not_eq_true'] at h
        obtain ⟨⟨⟨⟨h1, h2⟩, h3⟩, h4⟩, h5⟩ := h
        obtain ⟨k1, k2, k3⟩ := chkD_ok vs ks keys values sc X W pos ok h4 h5
        exact se_dic k1 k2 k3 (fun e => by rw [e] at h1; cases h1) h2 h3 h4
    · cases h
  | .idx a i, e, sc, X, W, ok, h => by
    unfold chkE at h; rw [evE]
    split at h
    · simp only [Bool.and_eq_true] at h
      exact se_ix ok.hu (chkE_ok a _ sc X W ok h.1.2) (chkE_ok i _ sc X W ok h.2) h.1.1
    · cases h
  | .sl o a lo hi, e, sc, X, W, ok, h => by
    unfold chkE at h; rw [evE]
    split at h
    · simp only [Bool.and_eq_true] at h
      exact se_sl (chkE_ok a _ sc X W ok h.1.1) (chkO_ok lo _ sc X W ok h.1.2) (chkO_ok hi _ sc X W ok h.2)
    · cases h
  | .fld a f, e, sc, X, W, ok, h => by
    unfold chkE at h; rw [evE]
    split at h
    · simp only [Bool.and_eq_true, decide_eq_true_eq] at h
      obtain ⟨⟨rfl, h1⟩, h2⟩ := h
      exact se_fld (chkE_ok a _ sc X W ok h2) (base_plain h1)
    · cases h
  | .isi a ts tt, e, sc, X, W, ok, h => by
    unfold chkE at h; rw [evE]
    split at h
    · simp only [Bool.and_eq_true, decide_eq_true_eq] at h
      obtain ⟨⟨⟨⟨⟨⟨rfl, h1⟩, h2⟩, h3⟩, h4⟩, h5⟩, h6⟩ := h
      split at h6
      · obtain ⟨cv, u, k1, k2, k3⟩ := ty_se ok h6
        obtain ⟨g1, g2⟩ := ok.gl h1
        rw [ok.md.cf]
        exact se_isi ok.md.ct g1 (ok.md.bn _ h2) (chkE_ok a _ sc X W ok h5) k1 k2 k3 (star_cons h3) (star_cons h4) (back_plain (by simp [h4]))
      · cases h6
    · cases h
  | .bi b o as, e, sc, X, W, ok, h => by
    unfold chkE at h; rw [evE]
    split at h
    · simp only [Bool.and_eq_true, decide_eq_true_eq] at h
      obtain ⟨⟨⟨⟨h0, h1⟩, h2⟩, h3⟩, h4⟩ := h
      exact se_bi ok h0 h1 h2 (by simpa using h3) (chkA_ok as _ sc X W ok h4).1
    · cases h
  | .bm b a as, e, sc, X, W, ok, h => by
    unfold chkE at h; rw [evE]
    split at h
    · simp only [Bool.and_eq_true, decide_eq_true_eq] at h
      obtain ⟨⟨⟨⟨⟨⟨⟨rfl, h1⟩, h2⟩, h3⟩, h4⟩, h5⟩, h6⟩, h7⟩ := h
      obtain ⟨k1, k2⟩ := chkA_ok as _ sc X W ok h7
      exact se_bm ok.hu h1 (chkE_ok a _ sc X W ok h6) k1 k2 (base_plain h2) h3 h4 h5
    · cases h
  | .call f as ks ar, e, sc, X, W, ok, h => by
    unfold chkE at h; rw [evE]
    split at h
    · simp only [Bool.and_eq_true] at h
      obtain ⟨⟨⟨⟨⟨h0, h1⟩, h2⟩, h3⟩, h4⟩, h5⟩ := h
      obtain ⟨g1, g2⟩ := ok.gl h1
      obtain ⟨k1, k2⟩ := chkA_ok as _ sc X W ok h4
      obtain ⟨k3, k4⟩ := chkK_ok ks _ sc X W ok h5
      exact se_call (ok.md.fn _ _ _ h0) ok.gA (ok.room.mono (Nat.le_succ _)) ok.tk g1 g2 h2 (of_decide_eq_true h3) k1 k3 k2 k4
    · cases h
  | .make C f as ks ar, e, sc, X, W, ok, h => by
    unfold chkE at h; rw [evE]
    split at h
    · simp only [Bool.and_eq_true, decide_eq_true_eq] at h
      obtain ⟨⟨⟨⟨⟨⟨rfl, h0⟩, h1⟩, h2⟩, h3⟩, h4⟩, h5⟩ := h
      obtain ⟨g1, g2⟩ := ok.gl h1
      obtain ⟨k1, k2⟩ := chkA_ok as _ sc X W ok h4
      obtain ⟨k3, k4⟩ := chkK_ok ks _ sc X W ok h5
      obtain ⟨F, fz, e1, e2⟩ := ok.md.mks _ _ _ h0
      rw [e1]
      exact se_make e2 ok.gA ok.room ok.tk g1 g2 h2 (of_decide_eq_true h3) k1 k3 k2 k4
    · cases h
  | .meth C m f a as ks ar, e, sc, X, W, ok, h => by
    unfold chkE at h; rw [evE]
    split at h
    · simp only [Bool.and_eq_true, decide_eq_true_eq] at h
      obtain ⟨⟨⟨⟨⟨⟨⟨⟨⟨rfl, h0⟩, h1⟩, h2⟩, h3⟩, h4⟩, h5⟩, h6⟩, h7⟩, h8⟩ := h
      obtain ⟨k1, k2⟩ := chkA_ok as _ sc X W ok h7
      obtain ⟨k3, k4⟩ := chkK_ok ks _ sc X W ok h8
      exact se_meth (ok.md.mt _ _ _ _ h0) ok.gA (ok.room.mono (Nat.le_succ _)) ok.tk (base_plain h1) h2 (of_decide_eq_true h3) h4 h5 (chkE_ok a _ sc X W ok h6) k1 k3 k2 k4
    · cases h
  | .prop C m f a, e, sc, X, W, ok, h => by
    unfold chkE at h; rw [evE]
    split at h
    · simp only [Bool.and_eq_true, decide_eq_true_eq] at h
      obtain ⟨⟨⟨rfl, h0⟩, h1⟩, h2⟩ := h
      exact se_prop (ok.md.pr _ _ _ h0) ok.gA ok.room ok.tk (base_plain h1) (chkE_ok a _ sc X W ok h2)
    · cases h
  | .getI C f a b, e, sc, X, W, ok, h => by
    unfold chkE at h; rw [evE]
    split at h
    · simp only [Bool.and_eq_true] at h
      obtain ⟨⟨⟨h0, h1⟩, h2⟩, h3⟩ := h
      exact se_getI (ok.md.mt _ _ _ _ h1) (ok.md.gi _ _ h1) ok.gA ok.room ok.tk h0 (chkE_ok a _ sc X W ok h2) (chkE_ok b _ sc X W ok h3)
    · cases h
  | .cont C f n a b, e, sc, X, W, ok, h => by
    unfold chkE at h; rw [evE]
    split at h
    · simp only [Bool.and_eq_true, decide_eq_true_eq, Bool.not_eq_true'] at h
      obtain ⟨⟨⟨⟨rfl, h0⟩, h1⟩, h2⟩, h3⟩ := h
      exact se_pc (pc_cont (ok.md.mt _ _ _ _ h1) ok.gA (ok.room.mono (Nat.le_succ _)) ok.tk (chkE_ok a _ sc X W ok h2) (chkE_ok b _ sc X W ok h3)) h0
    · cases h
  | .lenO C f a, e, sc, X, W, ok, h => by
    unfold chkE at h; rw [evE]
    split at h
    · simp only [Bool.and_eq_true, decide_eq_true_eq] at h
      obtain ⟨⟨⟨⟨⟨rfl, h0⟩, h1⟩, h2⟩, h3⟩, h4⟩ := h
      exact se_lenO (ok.md.mt _ _ _ _ h3) ok.gA ok.room ok.tk (ok.gl h0).1 (ok.md.bn _ h1) h2 (chkE_ok a _ sc X W ok h4)
    · cases h
  | .ccon C f d, e, sc, X, W, ok, h => by
    unfold chkE at h; rw [evE]
    split at h
    · simp only [Bool.and_eq_true, decide_eq_true_eq] at h
      obtain ⟨⟨⟨rfl, rfl⟩, h1⟩, h2⟩ := h
      obtain ⟨g1, g2⟩ := ok.gl h1
      obtain ⟨A, mc, v, u, hm, k1, k2, k3⟩ := ok.md.cc _ _ _ h2
      refine PE_of (pe_cval (pe_glob (v := .ref A) g1 hm rfl g2)) fun σ H Q ⟨c, ρ, S, hE, hS, q⟩ => ⟨A, mc, v, u, rfl, k1, k2, Po.ok q hS v (k3 c H)⟩
    · cases h
  | .lc o it p t el vs, e, sc, X, W, ok, h => by
    unfold chkE at h; rw [evE]
    split at h
    · rename_i x tg iter ifs scope pos
      simp only [Bool.and_eq_true] at h
      obtain ⟨⟨⟨⟨⟨⟨h0, h1⟩, h2⟩, h3⟩, h4⟩, h5⟩, h6⟩ := h
      have e1 := ownOf_snd Γ.N vs
      have r := se_lc (X := X) (W := W) (own := ownOf Γ.N vs) (pos := pos) (o := o) ok.calm ok.nd (chkI_ok it tg iter sc X W ok h3) (by rw [ok.N, ok.sc]; exact blkOk_by h1) (by rw [e1]; exact all_mem h2)
        (fun s H C cl fp => chkP_ok (Γ := Γ) (ok.blk scope s H C cl fp).sc ok.N ok.nd ok.calm rfl p tg h4)
        (fun s H C cl fp => chkTs_ok (fun y hy => (chkT_ok t y _ _ _ (ok.blk scope s H C cl fp) hy).1) h5)
        (fun s H C cl fp => chkE_ok el x _ _ _ (ok.blk scope s H C cl fp) h6) (folded_plain h0 _)
      rw [e1] at r
      exact r
    · cases h
  | .lc2 o it p t it1 p1 t1 el vs vs1, e, sc, X, W, ok, h => by
    unfold chkE at h; rw [evE]
    split at h
    · rename_i x tg iter ifs tg1 iter1 ifs1 scope pos
      simp only [Bool.and_eq_true] at h
      obtain ⟨⟨⟨⟨⟨⟨⟨⟨⟨⟨⟨⟨h0, h00⟩, h1⟩, h2⟩, h21⟩, h22⟩, h3⟩, h4⟩, h5⟩, h7⟩, h8⟩, h9⟩, h6⟩ := h
      have e1 := ownOf_snd Γ.N vs
      have r := se_lc2 (X := X) (W := W) (own := ownOf Γ.N vs) (vs1 := vs1) (pos := pos) (o := o) ok.calm ok.nd (chkI_ok it tg iter sc X W ok h3) (by rw [ok.N, ok.sc]; exact blkOk_by h1) (by rw [e1]; exact all_mem h2) (all_mem h21) (by rw [e1]; exact all_mem h22)
        (fun s H C cl fp => chkP_ok (Γ := Γ) (ok.blk scope s H C cl fp).sc ok.N ok.nd ok.calm rfl p tg h4)
        (fun s H C cl fp => chkTs_ok (fun y hy => (chkT_ok t y _ _ _ (ok.blk scope s H C cl fp) hy).1) h5)
        (fun s H C cl fp => chkR_ok it1 tg1 iter1 _ _ _ (ok.blk scope s H C cl fp) h7)
        (fun s H C cl fp => chkP_ok (Γ := Γ) (ok.blk scope s H C cl fp).sc ok.N ok.nd ok.calm rfl p1 tg1 h8)
        (fun s H C cl fp => chkTs_ok (fun y hy => (chkT_ok t1 y _ _ _ (ok.blk scope s H C cl fp) hy).1) h9)
        (fun s H C cl fp => chkE_ok el x _ _ _ (ok.blk scope s H C cl fp) h6) (folded_plain h0 _) (fun env x => folded_plain h00 env x)
      rw [e1] at r
      exact r
    · cases h
  | .dc o it p t k el vs, e, sc, X, W, ok, h => by
    unfold chkE at h; rw [evE]
    split at h
    · rename_i kx x tg iter ifs scope pos
      simp only [Bool.and_eq_true] at h
      obtain ⟨⟨⟨⟨⟨⟨⟨h0, h1⟩, h2⟩, h3⟩, h4⟩, h5⟩, h7⟩, h6⟩ := h
      have e1 := ownOf_snd Γ.N vs
      have r := se_dc (X := X) (W := W) (own := ownOf Γ.N vs) (pos := pos) (o := o) ok.calm ok.nd (chkI_ok it tg iter sc X W ok h3) (by rw [ok.N, ok.sc]; exact blkOk_by h1) (by rw [e1]; exact all_mem h2)
        (fun s H C cl fp => chkP_ok (Γ := Γ) (ok.blk scope s H C cl fp).sc ok.N ok.nd ok.calm rfl p tg h4)
        (fun s H C cl fp => chkTs_ok (fun y hy => (chkT_ok t y _ _ _ (ok.blk scope s H C cl fp) hy).1) h5)
        (fun s H C cl fp => chkE_ok k kx _ _ _ (ok.blk scope s H C cl fp) h7)
        (fun s H C cl fp => chkE_ok el x _ _ _ (ok.blk scope s H C cl fp) h6) (folded_plain h0 _)
      rw [e1] at r
      exact r
    · cases h
  | .rev _ _, e, sc, X, W, ok, h => by unfold chkE at h; cases h
  | .strO _ _ _, e, sc, X, W, ok, h => by unfold chkE at h; cases h
  | .eqO _ _ _ _ _, e, sc, X, W, ok, h => by unfold chkE at h; cases h
  | .fs _, e, sc, X, W, ok, h => by unfold chkE at h; cases h
theorem chkT_ok : ∀ (t : T) (e : Expr) (sc : Scope) (X : Cx) (W : WX), OkX Γ Φ lv sc X W → chkT Γ sc t e = true → TT2 X W e (evT Φ t)
  | .tru t, x, sc, X, W, ok, h => by
    unfold chkT at h; rw [evT]
    rw [Bool.and_eq_true] at h
    obtain ⟨h1, h2⟩ := h
    refine ⟨?_, fun op vs pos e => by subst e; cases h1⟩
    by_cases hc : ∃ a ops bs pos, x = .Compare a ops bs pos
    · obtain ⟨a, ops, bs, pos, rfl⟩ := hc
      cases t with
      | cmp op a' b' =>
        unfold chkE at h2
        rw [evE]
        split at h2
        · simp only [Bool.and_eq_true, decide_eq_true_eq, Bool.not_eq_true'] at h2
          obtain ⟨⟨⟨rfl, h0⟩, h3⟩, h4⟩ := h2
          rename_i he
          cases he
          exact st_pc (pc_cmp ok.hu (chkE_ok a' _ sc X W ok h3) (chkE_ok b' _ sc X W ok h4)) h0 cmp_boolM
        · cases h2
      | chain p q a' b' c' =>
        unfold chkE at h2
        rw [evE]
        split at h2
        · simp only [Bool.and_eq_true, decide_eq_true_eq, Bool.not_eq_true'] at h2
          obtain ⟨⟨⟨⟨⟨rfl, rfl⟩, h0⟩, h3⟩, h4⟩, h5⟩ := h2
          rename_i he
          cases he
          exact st_chain ok.hu (chkE_ok a' _ sc X W ok h3) (chkE_ok b' _ sc X W ok h4) (chkE_ok c' _ sc X W ok h5) h0
        · cases h2
      | cont C f n a' b' =>
        unfold chkE at h2
        rw [evE]
        split at h2
        · simp only [Bool.and_eq_true, decide_eq_true_eq, Bool.not_eq_true'] at h2
          obtain ⟨⟨⟨⟨rfl, h0⟩, h3⟩, h4⟩, h5⟩ := h2
          rename_i he
          cases he
          exact st_pc (pc_cont (ok.md.mt _ _ _ _ h3) ok.gA (ok.room.mono (Nat.le_succ _)) ok.tk (chkE_ok a' _ sc X W ok h4) (chkE_ok b' _ sc X W ok h5)) h0 cont_boolM
        · cases h2
      | _ => cases h1
    · refine st_tru (chkE_ok t x sc X W ok h2) (isTrue_plain ?_)
      cases x <;> first | rfl | exact h1 | exact absurd ⟨_, _, _, _, rfl⟩ hc | (rename_i op _ _; cases op <;> first | rfl | exact h1)
  | .yes, x, sc, X, W, ok, h => by unfold chkT at h; cases h
  | .and a b, x, sc, X, W, ok, h => by
    unfold chkT at h; rw [evT]
    split at h
    · rename_i y z p
      rw [Bool.and_eq_true] at h
      have r := sw_and (pos := p) (chkT_ok a _ sc X W ok h.1).1 (sw_and1 (chkT_ok b _ sc X W ok h.2).1)
      exact ⟨r.pt, fun _ _ _ _ => r⟩
    · rename_i y z w r p
      rw [Bool.and_eq_true] at h
      have r := sw_and (pos := p) (chkT_ok a _ sc X W ok h.1).1 ((chkT_ok b _ sc X W ok h.2).2 _ _ _ rfl)
      exact ⟨r.pt, fun _ _ _ _ => r⟩
    · cases h
  | .or a b, x, sc, X, W, ok, h => by
    unfold chkT at h; rw [evT]
    split at h
    · rename_i y z p
      rw [Bool.and_eq_true] at h
      have r := sw_or (pos := p) (chkT_ok a _ sc X W ok h.1).1 (sw_or1 (chkT_ok b _ sc X W ok h.2).1)
      exact ⟨r.pt, fun _ _ _ _ => r⟩
    · rename_i y z w r p
      rw [Bool.and_eq_true] at h
      have r := sw_or (pos := p) (chkT_ok a _ sc X W ok h.1).1 ((chkT_ok b _ sc X W ok h.2).2 _ _ _ rfl)
      exact ⟨r.pt, fun _ _ _ _ => r⟩
    · cases h
  | .not a, x, sc, X, W, ok, h => by
    unfold chkT at h; rw [evT]
    split at h
    · exact ⟨st_not (chkT_ok a _ sc X W ok h).1, fun _ _ _ e => nomatch e⟩
    · cases h
theorem chkI_ok : ∀ (t : It_) (tg x : Expr) (sc : Scope) (X : Cx) (W : WX), OkX Γ Φ lv sc X W → chkI Γ sc t tg x = true → SI X W tg x (evI Φ t)
  | .seq e, tg, x, sc, X, W, ok, h => by
    unfold chkI at h; rw [evI]
    exact si_seq (chkE_ok e x sc X W ok h)
  | .en e, tg, x, sc, X, W, ok, h => by
    unfold chkI at h; rw [evI]
    split at h
    · simp only [Bool.and_eq_true, decide_eq_true_eq] at h
      obtain ⟨⟨⟨⟨⟨rfl, h1⟩, h2⟩, h3⟩, h4⟩, h5⟩ := h
      cases tg <;> first | (cases h4; done) | skip
      exact si_en (ok.gl h1).1 (ok.md.bn _ h2) (sa_cons (chkE_ok e _ sc X W ok h5) sa_nil (star_cons h3)) (star_cons h3)
    · cases h
  | .rng1 e, tg, x, sc, X, W, ok, h => by
    unfold chkI at h; rw [evI]
    split at h
    · simp only [Bool.and_eq_true, decide_eq_true_eq] at h
      obtain ⟨⟨⟨⟨rfl, h1⟩, h2⟩, h3⟩, h5⟩ := h
      exact si_rng1 (ok.gl h1).1 (ok.md.bn _ h2) (sa_cons (chkE_ok e _ sc X W ok h5) sa_nil (star_cons h3)) (star_cons h3)
    · cases h
  | .rng2 a b, tg, x, sc, X, W, ok, h => by
    unfold chkI at h; rw [evI]
    split at h
    · simp only [Bool.and_eq_true, decide_eq_true_eq] at h
      obtain ⟨⟨⟨⟨⟨⟨rfl, h1⟩, h2⟩, h3⟩, h4⟩, h5⟩, h6⟩ := h
      exact si_rng2 (ok.gl h1).1 (ok.md.bn _ h2) (sa_cons (chkE_ok a _ sc X W ok h5) (sa_cons (chkE_ok b _ sc X W ok h6) sa_nil (star_cons h4)) (star_cons h3)) (by rw [star_cons h3, star_cons h4]; rfl) (star_cons h4)
    · cases h
  | .zip a b, tg, x, sc, X, W, ok, h => by
    unfold chkI at h; rw [evI]
    split at h
    · simp only [Bool.and_eq_true, decide_eq_true_eq] at h
      obtain ⟨⟨⟨⟨⟨⟨⟨rfl, h1⟩, h2⟩, h3⟩, h4⟩, h7⟩, h5⟩, h6⟩ := h
      cases tg <;> first | (cases h7; done) | skip
      exact si_zip (ok.gl h1).1 (ok.md.bn _ h2) (sa_cons (chkE_ok a _ sc X W ok h5) (sa_cons (chkE_ok b _ sc X W ok h6) sa_nil (star_cons h4)) (star_cons h3)) (star_cons h3) (back_plain (by simp [h4]))
    · cases h
  | .keys e, tg, x, sc, X, W, ok, h => by
    unfold chkI at h; rw [evI]
    exact si_keys (chkE_ok e x sc X W ok h)
  | .items e, tg, x, sc, X, W, ok, h => by
    unfold chkI at h; rw [evI]
    split at h
    · simp only [Bool.and_eq_true, decide_eq_true_eq] at h
      obtain ⟨⟨⟨⟨rfl, h1⟩, h2⟩, h3⟩, h4⟩ := h
      cases tg <;> first | (cases h3; done) | skip
      exact si_items (chkE_ok e _ sc X W ok h4) (base_plain h1) h2
    · cases h
  | .vals e, tg, x, sc, X, W, ok, h => by unfold chkI at h; cases h
theorem chkR_ok : ∀ (t : It_) (tg x : Expr) (sc : Scope) (X : Cx) (W : WX), OkX Γ Φ lv sc X W → chkR Γ sc t x = true → SIr X W tg x (evI Φ t)
  | .rng1 e, tg, x, sc, X, W, ok, h => by
    unfold chkR at h; rw [evI]
    split at h
    · simp only [Bool.and_eq_true, decide_eq_true_eq] at h
      obtain ⟨⟨⟨⟨rfl, h1⟩, h2⟩, h3⟩, h5⟩ := h
      exact sir_rng1 (ok.gl h1).1 (ok.md.bn _ h2) (sa_cons (chkE_ok e _ sc X W ok h5) sa_nil (star_cons h3)) (star_cons h3)
    · cases h
  | .seq _, tg, x, sc, X, W, ok, h => by unfold chkR at h; cases h
  | .en _, tg, x, sc, X, W, ok, h => by unfold chkR at h; cases h
  | .rng2 _ _, tg, x, sc, X, W, ok, h => by unfold chkR at h; cases h
  | .zip _ _, tg, x, sc, X, W, ok, h => by unfold chkR at h; cases h
  | .keys _, tg, x, sc, X, W, ok, h => by unfold chkR at h; cases h
  | .items _, tg, x, sc, X, W, ok, h => by unfold chkR at h; cases h
  | .vals _, tg, x, sc, X, W, ok, h => by unfold chkR at h; cases h
theorem chkK_ok : ∀ (as : As) (es : List Keyword) (sc : Scope) (X : Cx) (W : WX), OkX Γ Φ lv sc X W → chkK Γ sc as es = true → SK X W es (evA Φ as) ∧ (es = [] → evA Φ as = mNil)
  | .nil, es, sc, X, W, ok, h => by
    unfold chkK at h
    rw [evA]
    cases es with
    | nil => exact ⟨sk_nil, fun _ => rfl⟩
    | cons _ _ => cases h
  | .cons e r, es, sc, X, W, ok, h => by
    unfold chkK at h
    rw [evA]
    split at h
    · simp only [Bool.and_eq_true] at h
      exact ⟨sk_cons (chkE_ok e _ sc X W ok h.1) (chkK_ok r _ sc X W ok h.2).1, fun z => nomatch z⟩
    · cases h
  | .star e r, es, sc, X, W, ok, h => by
    unfold chkK at h
    cases h
theorem chkD_ok : ∀ (as : As) (ks : List Dat) (keys : List (Option Expr)) (values : List Expr) (sc : Scope) (X : Cx) (W : WX) (pos : Pos), OkX Γ Φ lv sc X W → (ks.all fun k => keyOk k && !isTupD k) = true → chkD Γ sc as ks keys values = true →
    SD X W pos keys values ks (evA Φ as) ∧ keys.all (·.isSome) = true ∧ keys.length = values.length
  | .nil, ks, keys, values, sc, X, W, pos, ok, hk, h => by
    unfold chkD at h
    simp only [Bool.and_eq_true, List.isEmpty_iff] at h
    obtain ⟨⟨rfl, rfl⟩, rfl⟩ := h
    rw [evA]
    exact ⟨sd_nil, rfl, rfl⟩
  | .cons e r, ks, keys, values, sc, X, W, pos, ok, hk, h => by
    unfold chkD at h
    rw [evA]
    split at h
    · simp only [Bool.and_eq_true] at h
      rw [List.all_cons, Bool.and_eq_true] at hk
      obtain ⟨k1, k2, k3⟩ := chkD_ok r _ _ _ sc X W pos ok hk.2 h.2
      obtain ⟨kk, rfl, hp⟩ := conOk_key (X := X) h.1.1 hk.1
      exact ⟨sd_cons hp (chkE_ok e _ sc X W ok h.1.2) k1, by rw [List.all_cons, k2]; rfl, by rw [List.length_cons, List.length_cons, k3]⟩
    · cases h
  | .star e r, ks, keys, values, sc, X, W, pos, ok, hk, h => by
    unfold chkD at h
    cases h
theorem chkO_ok : ∀ (t : Eo) (e : Option Expr) (sc : Scope) (X : Cx) (W : WX), OkX Γ Φ lv sc X W → chkO Γ sc t e = true → SO X W e (evO Φ t)
  | .no, e, sc, X, W, ok, h => by
    unfold chkO at h
    rw [evO]
    cases e with
    | none => exact so_none
    | some _ => cases h
  | .so t, e, sc, X, W, ok, h => by
    unfold chkO at h
    rw [evO]
    split at h
    · exact so_some (chkE_ok t _ sc X W ok h)
    · cases h
theorem chkA_ok : ∀ (as : As) (es : List Expr) (sc : Scope) (X : Cx) (W : WX), OkX Γ Φ lv sc X W → chkA Γ sc as es = true → SA X W es (evA Φ as) ∧ (es = [] → evA Φ as = mNil)
  | .nil, es, sc, X, W, ok, h => by
    unfold chkA at h
    rw [evA]
    cases es with
    | nil => exact ⟨sa_nil, fun _ => rfl⟩
    | cons _ _ => cases h
  | .cons e r, es, sc, X, W, ok, h => by
    unfold chkA at h
    rw [evA]
    split at h
    · simp only [Bool.and_eq_true] at h
      exact ⟨sa_cons (chkE_ok e _ sc X W ok h.1.2) (chkA_ok r _ sc X W ok h.2).1 (star_cons h.1.1), fun z => nomatch z⟩
    · cases h
  | .star e r, es, sc, X, W, ok, h => by
    unfold chkA at h
    rw [evA]
    split at h
    · simp only [Bool.and_eq_true] at h
      exact ⟨sa_star (chkE_ok e _ sc X W ok h.1) (chkA_ok r _ sc X W ok h.2).1, fun z => nomatch z⟩
    · cases h
end
end
end PL

set_option Elab.async false
set_option linter.all false
set_option maxRecDepth 100000
set_option autoImplicit false
set_option maxHeartbeats 8000000
namespace PL
open PySem PySem.Spec PyProof.Rows L2 ClX

/-! ### statements, checked -/
def bkOf (sc : Scope) : ScopeKind := if sc.kind.isAnnotationScope then .function else sc.kind
def starIn (vs : List Expr) : Bool := vs.any fun | .Starred .. => true | _ => false
def swNames (ts : List Expr) (sc : Scope) : List Str := ts.filterMap fun
    | .Name id pos => if sc.names.lookup id == some .local && pos.line == (ts.head?.map (·.pos.line)).getD 0 then some id else none
    | _ => none
/-- how the stores of a tuple go -/
def swSt (ts vs : List Expr) (sc : Scope) : Option (Option (List Str)) :=
  if (!(ts.length == 2 || ts.length == 3) || vs.length != ts.length || bkOf sc != .function) = true then some none
  else if starIn vs = true then some none
  else if ((swNames ts sc).length != ts.length || (swNames ts sc).eraseDups.length != (swNames ts sc).length) = true then some none
  else if vs.all (foldedForSure 8) = true then some none
  else if vs.all (constantsAlone 8) = true then none
  else some (some (swNames ts sc))
theorem swSt_ok {ts vs : List Expr} {env : PySem.Env} {k k2 : Nat} {pt pt2 : Pos} {r : Option (List Str)} (h : swSt ts vs env.scope = some r) : swappedStores [.Tuple ts k pt] (.Tuple vs k2 pt2) env = pure r := by
  unfold swSt at h
  have e : swappedStores [.Tuple ts k pt] (.Tuple vs k2 pt2) env = (if (!(ts.length == 2 || ts.length == 3) || vs.length != ts.length || bkOf env.scope != .function) = true then pure none
    else if starIn vs = true then pure none
    else if ((swNames ts env.scope).length != ts.length || (swNames ts env.scope).eraseDups.length != (swNames ts env.scope).length) = true then pure none
    else if vs.all (foldedForSure 8) = true then pure none
    else if vs.all (constantsAlone 8) = true then (do
      unsupported "assign.tuple-of-constant-expressions:order-of-the-stores"
      return some (swNames ts env.scope))
    else pure (some (swNames ts env.scope))) := rfl
  rw [e]
  split at h
  · rename_i c; cases h; rw [if_pos c]
  · rename_i c
    rw [if_neg c]
    split at h
    · rename_i c; cases h; rw [if_pos c]
    · rename_i c
      rw [if_neg c]
      split at h
      · rename_i c; cases h; rw [if_pos c]
      · rename_i c
        rw [if_neg c]
        split at h
        · rename_i c; cases h; rw [if_pos c]
        · rename_i c
          rw [if_neg c]
          split at h
          · cases h
          · rename_i c
            rw [if_neg c]
            cases h
            rfl
theorem swSt_sole {e : Expr} {ts : List Expr} {env : PySem.Env} {k : Nat} {pt : Pos} (h : isTupE e = false) : swappedStores [.Tuple ts k pt] e env = pure none := by
  unfold swappedStores
  cases e <;> first | rfl | cases h
def compScope : Expr → Option Scope
  | .ListComp _ _ s _ | .SetComp _ _ s _ | .DictComp _ _ _ s _ => some s
  | _ => none
/-- a comprehension whose value is stored at once in a name -/
def swapN (value : Expr) (t : Str) (pos : Pos) (sc : Scope) : Bool := match compScope value with
  | some scope => bkOf sc == .function && sc.names.lookup t == some .local && pos.line == value.pos.line && !(scope.names.any fun (n, k) => n == t && (k == .local || k == .cell))
  | none => false
theorem swapN_ok {value : Expr} {t : Str} {pos : Pos} {env : PySem.Env} {line : Nat} : swapsWith value (some (.Name t pos)) line env = pure (swapN value t pos env.scope) := by
  unfold swapsWith swapN
  have e0 : env.blockKind = bkOf env.scope := rfl
  cases value <;> first | rfl | (simp only [compScope, e0]; rfl)
theorem swap_none {value : Expr} {tg : Option Expr} {env : PySem.Env} {line : Nat} (h : (compScope value).isNone = true) : swapsWith value tg line env = pure false := by
  unfold swapsWith
  cases value <;> first | rfl | cases h
def notName : Expr → Bool
  | .Name _ _ => false
  | _ => true
theorem swap_other {value tg : Expr} {env : PySem.Env} {line : Nat} (h : notName tg = true) : swapsWith value (some tg) line env = pure false := by
  unfold swapsWith
  cases value <;> first | rfl | (cases tg <;> first | rfl | cases h)
structure OkS (Γ : Ctx) (Φ : Fe) (lv : Nat) (sc : Scope) (X : Cx) (W : WX) : Prop where
  ok : OkX Γ Φ lv sc X W
  po : PassesOwn (model X.prog X.w) X.A X.env X.xe
  fn : ∀ x, X.fn x = true
/-- a comprehension is stored in a name, at once -/
def isLc : E → Bool
  | .lc _ _ _ _ _ _ => true
  | _ => false
mutual
def chkS (Γ : Ctx) (sc : Scope) : Sm → Stmt → Bool
  | .never, _ => true
  | .ret e, s => match s with
    | .Return (some x) _ => chkE Γ sc e x
    | _ => false
  | .retN, s => match s with
    | .Return none _ => true
    | _ => false
  | .expr e, s => match s with
    | .Expr x _ => (compScope x).isNone && chkE Γ sc e x
    | _ => false
  | .pass, s => match s with
    | .Pass _ => true
    | _ => false
  | .brk, s => match s with
    | .Break _ => true
    | _ => false
  | .cont, s => match s with
    | .Continue _ => true
    | _ => false
  | .set i e, s => match s with
    | .Assign [.Name x px] v _ => decide (Γ.N[i]? = some x) && isLoc sc x && (!swapN v x px sc || isLc e && decide (sc.names.lookup x = some .local)) && chkE Γ sc e v
    | _ => false
  | .pat p e, s => match s with
    | .Assign [.Tuple ts k pt] v _ => (compScope v).isNone && (match v with | .Tuple vs _ _ => decide (swSt ts vs sc = some none) | _ => true) && chkP Γ.N sc (fun _ => true) p (.Tuple ts k pt) && chkE Γ sc e v
    | _ => false
  | .par2 i j a b, s => match s with
    | .Assign [.Tuple [.Name x px, .Name y py] k pt] (.Tuple [v, w] k2 pt2) _ => decide (Γ.N[i]? = some x) && decide (Γ.N[j]? = some y) && decide (i ≠ j) && decide (sc.names.lookup x = some .local) && decide (sc.names.lookup y = some .local) && decide (swSt [.Name x px, .Name y py] [v, w] sc = some (some [x, y])) && noStar v && noStar w && chkE Γ sc a v && chkE Γ sc b w
    | _ => false
  | .par3 i j l a b c, s => match s with
    | .Assign [.Tuple [.Name x px, .Name y py, .Name z pz] k pt] (.Tuple [v, w, u] k2 pt2) _ => decide (Γ.N[i]? = some x) && decide (Γ.N[j]? = some y) && decide (Γ.N[l]? = some z) && decide (i ≠ j) && decide (i ≠ l) && decide (j ≠ l) && decide (sc.names.lookup x = some .local) && decide (sc.names.lookup y = some .local) && decide (sc.names.lookup z = some .local) && decide (swSt [.Name x px, .Name y py, .Name z pz] [v, w, u] sc = some (some [x, y, z])) && noStar v && noStar w && noStar u && chkE Γ sc a v && chkE Γ sc b w && chkE Γ sc c u
    | _ => false
  | .setF a f e, s => match s with
    | .Assign [.Attribute x g _] v _ => decide (g = f) && chkE Γ sc a x && chkE Γ sc e v
    | _ => false
  | .setI a i e, s => match s with
    | .Assign [.Subscript x y _] v _ => chkE Γ sc a x && chkE Γ sc i y && chkE Γ sc e v
    | _ => false
  | .ite t b1 b2, s => match s with
    | .If x c1 c2 _ => chkT Γ sc t x && chkSs Γ sc b1 c1 && chkSs Γ sc b2 c2
    | _ => false
  | .for_ it p b els, s => match s with
    | .For tg iter body orelse _ => plainSet iter && chkI Γ sc it tg iter && chkP Γ.N sc (fun _ => true) p tg && chkSs Γ sc b body && chkSs Γ sc els orelse
    | _ => false
  | .while_ t b els, s => match s with
    | .While x body orelse _ => chkT Γ sc t x && chkSs Γ sc b body && chkSs Γ sc els orelse
    | _ => false
  | _, _ => false
def chkSs (Γ : Ctx) (sc : Scope) : Ss → List Stmt → Bool
  | .nil, ss => ss.isEmpty
  | .cons s r, ss => match ss with
    | x :: xs => chkS Γ sc s x && chkSs Γ sc r xs
    | [] => false
end
theorem ss_never {X : Cx} {W : WX} {st : Stmt} : SS X W st (fun _ _ => .bad) := ⟨fun pins s σ H D I ⟨c, ρ, S, _, _, h⟩ => h.elim⟩
section
variable {Γ : Ctx} {Φ : Fe} {lv : Nat} {sc : Scope} {X : Cx} {W : WX}
theorem fn_eq (h : ∀ x, X.fn x = true) : X.fn = fun _ => true := funext h
theorem loc_of (hs : X.env.scope = sc) {x : Str} (h : isLoc sc x = true) : Loc X.env.scope x := by
  unfold isLoc at h
  rw [Bool.or_eq_true, decide_eq_true_eq, decide_eq_true_eq] at h
  rw [hs]; exact h
mutual
theorem chkS_ok : ∀ (s : Sm) (st : Stmt), OkS Γ Φ lv sc X W → chkS Γ sc s st = true → SS X W st (evS Φ s)
  | .never, st, ok, h => by rw [evS]; exact ss_never
  | .ret e, st, ok, h => by
    unfold chkS at h; rw [evS]
    split at h
    · exact ss_ret (chkE_ok e _ sc X W ok.ok h)
    · cases h
  | .retN, st, ok, h => by
    unfold chkS at h; rw [evS]
    split at h
    · exact ss_retN
    · cases h
  | .expr e, st, ok, h => by
    unfold chkS at h; rw [evS]
    split at h
    · rw [Bool.and_eq_true] at h
      exact ss_expr (chkE_ok e _ sc X W ok.ok h.2) (swap_none h.1)
    · cases h
  | .pass, st, ok, h => by
    unfold chkS at h; rw [evS]
    split at h
    · exact ss_pass
    · cases h
  | .brk, st, ok, h => by
    unfold chkS at h; rw [evS]
    split at h
    · exact ss_break
    · cases h
  | .cont, st, ok, h => by
    unfold chkS at h; rw [evS]
    split at h
    · exact ss_cont
    · cases h
  | .set i e, st, ok, h => by
    unfold chkS at h; rw [evS]
    split at h
    · rename_i x px v pos
      simp only [Bool.and_eq_true, decide_eq_true_eq, Bool.or_eq_true, Bool.not_eq_true'] at h
      obtain ⟨⟨⟨h1, h2⟩, h3⟩, h4⟩ := h
      rcases h3 with h3 | ⟨h3, h5⟩
      · exact ss_set ok.ok.nd (by rw [ok.ok.N]; exact h1) (loc_of ok.ok.sc h2) (chkE_ok e _ sc X W ok.ok h4) (by rw [swapN_ok, ok.ok.sc, h3]) (.inl (ok.fn x))
      · cases e <;> first | (simp [isLc] at h3; done) | skip
        rename_i o it p t el vs
        by_cases hsw : swapN v x px sc = true
        · unfold chkE at h4; rw [evE]
          split at h4
          · rename_i y tg iter ifs scope cpos
            simp only [Bool.and_eq_true] at h4
            obtain ⟨⟨⟨⟨⟨⟨h0, h11⟩, h12⟩, h13⟩, h14⟩, h15⟩, h16⟩ := h4
            have e1 := ownOf_snd Γ.N vs
            have r := ss_setLc (X := X) (W := W) (own := ownOf Γ.N vs) (pos := cpos) (spos := pos) (py := px) (o := o) ok.ok.calm ok.ok.nd (by rw [ok.ok.N]; exact h1) (by rw [ok.ok.sc]; exact h5) (by rw [swapN_ok, ok.ok.sc, hsw]) (chkI_ok it tg iter sc X W ok.ok h13) (by rw [ok.ok.N, ok.ok.sc]; exact blkOk_by h11) (by rw [e1]; exact all_mem h12)
              (fun s H C cl fp => chkP_ok (Γ := Γ) (ok.ok.blk scope s H C cl fp).sc ok.ok.N ok.ok.nd ok.ok.calm rfl p tg h14)
              (fun s H C cl fp => chkTs_ok (fun y hy => (chkT_ok t y _ _ _ (ok.ok.blk scope s H C cl fp) hy).1) h15)
              (fun s H C cl fp => chkE_ok el _ _ _ _ (ok.ok.blk scope s H C cl fp) h16) (folded_plain h0 _)
            rw [e1] at r
            exact r
          · cases h4
        · exact ss_set ok.ok.nd (by rw [ok.ok.N]; exact h1) (loc_of ok.ok.sc h2) (chkE_ok _ _ sc X W ok.ok h4) (by rw [swapN_ok, ok.ok.sc]; simp only [Bool.not_eq_true] at hsw; rw [hsw]) (.inl (ok.fn x))
    · cases h
  | .pat p e, st, ok, h => by
    unfold chkS at h; rw [evS]
    split at h
    · rename_i ts k pt v pos
      simp only [Bool.and_eq_true] at h
      obtain ⟨⟨⟨h1, h2⟩, h3⟩, h4⟩ := h
      refine ss_pat (chkP_ok (Γ := Γ) ok.ok.sc ok.ok.N ok.ok.nd ok.ok.calm (fn_eq ok.fn) p _ h3) (chkE_ok e _ sc X W ok.ok h4) (show swapsWith v (some (.Tuple ts k pt)) pos.line X.env = pure false from swap_none h1) ?_ rfl
      by_cases ht : isTupE v = true
      · cases v <;> first | (cases ht; done) | skip
        simp only [decide_eq_true_eq] at h2
        exact swSt_ok (by rw [ok.ok.sc]; exact h2)
      · exact swSt_sole (by simpa using ht)
    · cases h
  | .par2 i j a b, st, ok, h => by
    unfold chkS at h; rw [evS]
    split at h
    · simp only [Bool.and_eq_true, decide_eq_true_eq] at h
      obtain ⟨⟨⟨⟨⟨⟨⟨⟨⟨h1, h2⟩, h3⟩, h4⟩, h5⟩, h6⟩, h7⟩, h8⟩, h9⟩, h10⟩ := h
      exact ss_par2 ok.ok.calm ok.ok.nd (by rw [ok.ok.N]; exact h1) (by rw [ok.ok.N]; exact h2) h3 (by rw [ok.ok.sc]; exact h4) (by rw [ok.ok.sc]; exact h5) (sa_cons (chkE_ok a _ sc X W ok.ok h9) (sa_cons (chkE_ok b _ sc X W ok.ok h10) sa_nil (star_cons h8)) (star_cons h7)) (swSt_ok (by rw [ok.ok.sc]; exact h6))
    · cases h
  | .par3 i j l a b c, st, ok, h => by
    unfold chkS at h; rw [evS]
    split at h
    · simp only [Bool.and_eq_true, decide_eq_true_eq] at h
      obtain ⟨⟨⟨⟨⟨⟨⟨⟨⟨⟨⟨⟨⟨⟨⟨h1, h2⟩, h3⟩, h4⟩, h5⟩, h6⟩, h7⟩, h8⟩, h9⟩, h10⟩, h11⟩, h12⟩, h13⟩, h14⟩, h15⟩, h16⟩ := h
      exact ss_par3 ok.ok.calm ok.ok.nd (by rw [ok.ok.N]; exact h1) (by rw [ok.ok.N]; exact h2) (by rw [ok.ok.N]; exact h3) h4 h5 h6 (by rw [ok.ok.sc]; exact h7) (by rw [ok.ok.sc]; exact h8) (by rw [ok.ok.sc]; exact h9) (sa_cons (chkE_ok a _ sc X W ok.ok h14) (sa_cons (chkE_ok b _ sc X W ok.ok h15) (sa_cons (chkE_ok c _ sc X W ok.ok h16) sa_nil (star_cons h13)) (star_cons h12)) (star_cons h11)) (swSt_ok (by rw [ok.ok.sc]; exact h10))
    · cases h
  | .setF a f e, st, ok, h => by
    unfold chkS at h; rw [evS]
    split at h
    · simp only [Bool.and_eq_true, decide_eq_true_eq] at h
      obtain ⟨⟨rfl, h1⟩, h2⟩ := h
      rw [ok.ok.md.cf]
      exact ss_setF ok.ok.md.ct (chkE_ok a _ sc X W ok.ok h1) (chkE_ok e _ sc X W ok.ok h2) (swap_other rfl)
    · cases h
  | .setI a i e, st, ok, h => by
    unfold chkS at h; rw [evS]
    split at h
    · simp only [Bool.and_eq_true] at h
      exact ss_setI ok.ok.hu (chkE_ok a _ sc X W ok.ok h.1.1) (chkE_ok i _ sc X W ok.ok h.1.2) (chkE_ok e _ sc X W ok.ok h.2) (swap_other rfl)
    · cases h
  | .ite t b1 b2, st, ok, h => by
    unfold chkS at h; rw [evS]
    split at h
    · simp only [Bool.and_eq_true] at h
      exact ss_if (chkT_ok t _ sc X W ok.ok h.1.1).1 (chkSs_ok b1 _ ok h.1.2) (chkSs_ok b2 _ ok h.2)
    · cases h
  | .for_ it p b els, st, ok, h => by
    unfold chkS at h; rw [evS]
    split at h
    · simp only [Bool.and_eq_true] at h
      obtain ⟨⟨⟨⟨h1, h2⟩, h3⟩, h4⟩, h5⟩ := h
      exact ss_for ok.po ok.ok.calm (chkI_ok it _ _ sc X W ok.ok h2) (chkP_ok (Γ := Γ) ok.ok.sc ok.ok.N ok.ok.nd ok.ok.calm (fn_eq ok.fn) p _ h3) (chkSs_ok b _ ok h4) (chkSs_ok els _ ok h5) (folded_plain h1 _)
    · cases h
  | .while_ t b els, st, ok, h => by
    unfold chkS at h; rw [evS]
    split at h
    · simp only [Bool.and_eq_true] at h
      exact ss_while ok.po (chkT_ok t _ sc X W ok.ok h.1.1).1 (chkSs_ok b _ ok h.1.2) (chkSs_ok els _ ok h.2)
    · cases h
  | .tgs _ _, st, ok, h => by unfold chkS at h; cases h
  | .augV _ _ _, st, ok, h => by unfold chkS at h; cases h
  | .augF _ _ _ _, st, ok, h => by unfold chkS at h; cases h
  | .augI _ _ _ _, st, ok, h => by unfold chkS at h; cases h
theorem chkSs_ok : ∀ (s : Ss) (st : List Stmt), OkS Γ Φ lv sc X W → chkSs Γ sc s st = true → SSs X W st (evSs Φ s)
  | .nil, st, ok, h => by
    unfold chkSs at h; rw [evSs]
    cases st with
    | nil => exact ss_nil
    | cons _ _ => cases h
  | .cons s .nil, st, ok, h => by
    unfold chkSs at h; rw [evSs]
    split at h
    · rw [Bool.and_eq_true] at h
      unfold chkSs at h
      rename_i x xs
      cases xs with
      | nil => exact ss_one (chkS_ok s x ok h.1)
      | cons _ _ => cases h.2
    · cases h
  | .cons s (.cons s2 r), st, ok, h => by
    unfold chkSs at h; rw [evSs]
    · split at h
      · rw [Bool.and_eq_true] at h
        exact ss_cons (chkS_ok s _ ok h.1) (chkSs_ok (.cons s2 r) _ ok h.2)
      · cases h
    · intro q; cases q
end
end
end PL

set_option Elab.async false
set_option linter.all false
set_option maxRecDepth 100000
set_option autoImplicit false
set_option maxHeartbeats 4000000
namespace PL
open PySem PySem.Spec PyProof.Rows L2 ClX

/-! ### what a call binds -/
theorem lookup_zip {ps : List Str} : ∀ {us : List Value}, us.length = ps.length → ∀ x ∈ ps, ((ps.zip us).lookup x).isSome = true := by
  induction ps with
  | nil => intro us _ x hx; cases hx
  | cons p ps ih =>
    intro us hl x hx
    cases us with
    | nil => cases hl
    | cons u us =>
      rw [List.zip_cons_cons, List.lookup_cons]
      split
      · rfl
      · rename_i e
        rcases List.mem_cons.mp hx with rfl | hx
        · simp at e
        · exact ih (Nat.succ.inj hl) x hx
theorem fm_congr {α β : Type} {f g : α → Option β} : ∀ {l : List α}, (∀ x ∈ l, f x = g x) → l.filterMap f = l.filterMap g
  | [], _ => rfl
  | a :: l, h => by
    rw [List.filterMap_cons, List.filterMap_cons, h a (List.mem_cons_self ..), fm_congr fun x hx => h x (List.mem_cons_of_mem _ hx)]
theorem filterMap_zip {ps : List Str} : ∀ {us : List Value}, us.length = ps.length → ps.Nodup → ps.filterMap (fun n => ((ps.zip us).lookup n).map (n, ·)) = ps.zip us := by
  induction ps with
  | nil => intro us _ _; rfl
  | cons p ps ih =>
    intro us hl nd
    cases us with
    | nil => cases hl
    | cons u us =>
      obtain ⟨n1, n2⟩ := List.nodup_cons.mp nd
      rw [List.zip_cons_cons, List.filterMap_cons]
      simp only [List.lookup_cons, beq_self_eq_true, Option.map_some]
      congr 1
      rw [← ih (Nat.succ.inj hl) n2]
      refine fm_congr fun x hx => ?_
      have : (x == p) = false := by
        rw [beq_eq_false_iff_ne]
        exact fun e => n1 (e ▸ hx)
      rw [this, ih (Nat.succ.inj hl) n2]
theorem bind_plain {fd : FuncData} {us : List Value} (hp : fd.params.posonlyargs = []) (hk : fd.params.kwonlyargs = []) (hv : fd.params.vararg = none) (hw : fd.params.kwarg = none) (hd : fd.defaults = .none)
    (nd : (fd.params.args.map (·.arg)).Nodup) (hl : us.length = (fd.params.args.map (·.arg)).length) : bindArgs fd ⟨us, []⟩ = pure ((fd.params.args.map (·.arg)).zip us) := by
  have e0 : seqItems? Value.none = pure none := rfl
  have hm : ((fd.params.args.map (·.arg)).take (fd.params.args.map (·.arg)).length).filter (fun n => (((fd.params.args.map (·.arg)).zip us).lookup n).isNone) = [] := by
    rw [List.filter_eq_nil_iff]
    intro x hx
    have := lookup_zip hl x (List.mem_of_mem_take hx)
    intro e
    rw [Option.isNone_iff_eq_none] at e
    rw [e] at this; cases this
  unfold bindArgs
  simp only [hp, hk, hv, hw, hd, e0, List.map_nil, List.nil_append, List.append_nil, pure_bind, Option.getD_none, List.forIn_nil, hl, gt_iff_lt, Nat.lt_irrefl, decide_false, Bool.false_and, Bool.false_eq_true, if_false, List.drop_nil, List.length_nil, Nat.sub_zero, Nat.zero_sub]
  simp only [hm, List.isEmpty_nil, Bool.not_true, Bool.false_eq_true, if_false, List.drop_length, List.zip_nil_left, List.forIn_nil, pure_bind, filterMap_zip hl nd]
  first | rfl | skip

def plainB (p : Arguments) (ps : List Str) : Bool := p.posonlyargs.isEmpty && p.kwonlyargs.isEmpty && p.vararg.isNone && p.kwarg.isNone && decide (p.args.map (·.arg) = ps) && decide ps.Nodup
section
variable {g : Gx} {base : Heap} {x qual : Str} {params : Arguments} {body : List Stmt} {scope : Scope} {dvs : List V} {kws : List (Str × V)} {f : Addr} {fd : FuncData} {ps : List Str} {k : Nat}
theorem bok_plain (F : FunD g.K x qual params body scope [] kws f fd) (h : plainB params ps = true) : BOk g base fd ps k .all := by
  unfold plainB at h
  simp only [Bool.and_eq_true, List.isEmpty_iff, Option.isNone_iff_eq_none, decide_eq_true_eq] at h
  obtain ⟨⟨⟨⟨⟨h1, h2⟩, h3⟩, h4⟩, rfl⟩, h6⟩ := h
  refine bok_all (F.bindsN fun kV doc pm an cdv ct us hl => ?_)
  exact bind_plain (fd := PySem.W.fnOf x qual params body scope .none kV doc pm an cdv ct) h1 h2 h3 h4 rfl h6 hl
/-- where a parameter's value comes from -/
inductive Sx where
  | p (i : Nat)
  | k (i : Nat)
  | dp (i : Nat)
  | dk (i : Nat)
def sxV {α : Type} (us ws its mv : List α) : Sx → Option α
  | .p i => us[i]?
  | .k i => ws[i]?
  | .dp i => its[i]?
  | .dk i => mv[i]?
def sxs {α : Type} (us ws its mv : List α) : List Sx → Option (List α)
  | [] => some []
  | s :: r => (sxV us ws its mv s).bind fun a => (sxs us ws its mv r).map fun l => a :: l
/-- the values behind the sources -/
inductive SxR (g : Gx) (dvs mz : List V) (k : Nat) : List Src → List Sx → Prop
  | nil : SxR g dvs mz k [] []
  | p {i : Nat} {l : List Src} {s : List Sx} : SxR g dvs mz k l s → SxR g dvs mz k (.p i :: l) (.p (k + i) :: s)
  | k {i : Nat} {l : List Src} {s : List Sx} : SxR g dvs mz k l s → SxR g dvs mz k (.k i :: l) (.k i :: s)
  | dp {i : Nat} {v : V} {d : Dat} {l : List Src} {s : List Sx} : dvs[i]? = some v → (∀ c H, Rp g c H v d) → SxR g dvs mz k l s → SxR g dvs mz k (.d d :: l) (.dp i :: s)
  | dk {i : Nat} {v : V} {d : Dat} {l : List Src} {s : List Sx} : mz[i]? = some v → (∀ c H, Rp g c H v d) → SxR g dvs mz k l s → SxR g dvs mz k (.d d :: l) (.dk i :: s)
theorem vals_at {vs : List V} {us : List Value} (r : Vals vs us) {i : Nat} {v : V} (h : vs[i]? = some v) : ∃ u, us[i]? = some u ∧ RelV v u := by
  induction r generalizing i with
  | nil => cases h
  | cons a _ ih =>
    cases i with
    | zero => cases h; exact ⟨_, rfl, a⟩
    | succ i => exact ih h
theorem sxR_vals {g : Gx} {c : Cw} {H : Hp} {dvs mz fv vs zs : List V} {fx xs ys : List Dat} {k : Nat} (rf : RpAll g c H fv fx) (rv : RpAll g c H vs xs) (rz : RpAll g c H zs ys) (hk : fx.length = k) : ∀ {l : List Src} {s : List Sx}, SxR g dvs mz k l s → ∀ {ds : List Dat}, srcs xs ys l = some ds → ∃ vs', sxs (fv ++ vs) zs dvs mz s = some vs' ∧ RpAll g c H vs' ds := by
  intro l s h
  induction h with
  | nil => intro ds e; rw [srcs] at e; cases e; exact ⟨[], rfl, .nil⟩
  | @p i l s _ ih =>
    intro ds e
    rw [srcs] at e
    obtain ⟨d, e1, e⟩ := pbind_eq e
    obtain ⟨ds', e2, rfl⟩ := pmap_eq e
    obtain ⟨vs', k1, k2⟩ := ih e2
    rw [srcD] at e1
    obtain ⟨v, k3, k4⟩ := rv.get e1
    refine ⟨v :: vs', ?_, .cons k4 k2⟩
    rw [sxs, k1, sxV, List.getElem?_append_right (by rw [rf.length, hk]; omega), rf.length, hk, Nat.add_sub_cancel_left, k3]; rfl
  | @k i l s _ ih =>
    intro ds e
    rw [srcs] at e
    obtain ⟨d, e1, e⟩ := pbind_eq e
    obtain ⟨ds', e2, rfl⟩ := pmap_eq e
    obtain ⟨vs', k1, k2⟩ := ih e2
    rw [srcD] at e1
    obtain ⟨v, k3, k4⟩ := rz.get e1
    exact ⟨v :: vs', by rw [sxs, k1, sxV, k3]; rfl, .cons k4 k2⟩
  | dp hv hr _ ih =>
    intro ds e
    rw [srcs] at e
    obtain ⟨d, e1, e⟩ := pbind_eq e
    obtain ⟨ds', e2, rfl⟩ := pmap_eq e
    obtain ⟨vs', k1, k2⟩ := ih e2
    rw [srcD] at e1
    cases e1
    exact ⟨_ :: vs', by rw [sxs, k1, sxV, hv]; rfl, .cons (hr c H) k2⟩
  | dk hv hr _ ih =>
    intro ds e
    rw [srcs] at e
    obtain ⟨d, e1, e⟩ := pbind_eq e
    obtain ⟨ds', e2, rfl⟩ := pmap_eq e
    obtain ⟨vs', k1, k2⟩ := ih e2
    rw [srcD] at e1
    cases e1
    exact ⟨_ :: vs', by rw [sxs, k1, sxV, hv]; rfl, .cons (hr c H) k2⟩
theorem sxs_vals {us0 ws0 its mv : List Value} {vs0 zs dvs mz : List V} (r1 : Vals vs0 us0) (r2 : Vals zs ws0) (r3 : Vals dvs its) (r4 : Vals mz mv) : ∀ {s : List Sx} {vs' : List V}, sxs vs0 zs dvs mz s = some vs' → ∃ us', sxs us0 ws0 its mv s = some us' ∧ Vals vs' us'
  | [], vs', e => by rw [sxs] at e; cases e; exact ⟨[], rfl, .nil⟩
  | a :: s, vs', e => by
    rw [sxs] at e
    obtain ⟨v, e1, e⟩ := pbind_eq e
    obtain ⟨vs2, e2, rfl⟩ := pmap_eq e
    obtain ⟨us', k1, k2⟩ := sxs_vals r1 r2 r3 r4 e2
    have : ∃ u, sxV us0 ws0 its mv a = some u ∧ RelV v u := by
      cases a with
      | p i => exact vals_at r1 e1
      | k i => exact vals_at r2 e1
      | dp i => exact vals_at r3 e1
      | dk i => exact vals_at r4 e1
    obtain ⟨u, k3, k4⟩ := this
    exact ⟨u :: us', by rw [sxs, k1, k3]; rfl, .cons k4 k2⟩
theorem take_app {α : Type} {a b : List α} {k : Nat} (h : a.length = k) : (a ++ b).take k = a := by subst h; simp
theorem bok_of {n : Nat} {kn : List Str} {l : List Src} {s : List Sx} {its mv : List Value} {mz : List V} (r3 : Vals dvs its) (r4 : Vals mz mv) (hs : SxR g dvs mz k l s)
    (hb : ∀ (sh : Shared) (us ws r : List Value), g.K.In sh.heap → us.length = k + n → ws.length = kn.length → sxs us ws its mv s = some r → BindsTo sh fd ⟨us, kn.zip ws⟩ (ps.zip (us.take k ++ r))) : BOk g base fd ps k (.by_ n false kn l) := by
  intro A outer sh H E fu us ws fv vs zs c S fx xs ys ds e0 hk rf r rz hS rfx rx ry ha hl
  have kin : g.K.In sh.heap := e0.mod.kin.keeps fun b o e => (e0.bs b o e).1
  have ha : (if ys.length = kn.length ∧ xs.length = n then srcs xs ys l else none) = some ds := ha
  split at ha
  · rename_i hc
    obtain ⟨hc1, hc2⟩ := hc
    obtain ⟨vs', k1, k2⟩ := sxR_vals rfx rx ry hk hs ha
    obtain ⟨us', k3, k4⟩ := sxs_vals (rf.append r) rz r3 r4 k1
    have lf : fu.length = k := by rw [← rf.length, rfx.length, hk]
    have lu : us.length = n := by rw [← r.length, rx.length]; exact hc2
    have lw : ws.length = kn.length := by rw [← rz.length, ry.length]; exact hc1
    have q := hb sh (fu ++ us) ws us' kin (by rw [List.length_append, lf, lu]) lw k3
    rw [take_app lf] at q
    exact Bnd.of_binds e0 q (rf.append k4) (by rw [(rfx.append k2).length]; exact hl) ⟨.refl, hS, rfx.append k2⟩
  · cases ha
theorem bind_star {fd : FuncData} {a : Arg} {us rest : List Value} (hp : fd.params.posonlyargs = []) (hk : fd.params.kwonlyargs = []) (hv : fd.params.vararg = some a) (hw : fd.params.kwarg = none) (hd : fd.defaults = .none)
    (nd : (fd.params.args.map (·.arg)).Nodup) (hl : us.length = (fd.params.args.map (·.arg)).length) : bindArgs fd ⟨us ++ rest, []⟩ = (newTuple rest >>= fun t => pure ((fd.params.args.map (·.arg)).zip us ++ [(a.arg, t)])) := by
  have e0 : seqItems? Value.none = pure none := rfl
  have ez : (fd.params.args.map (·.arg)).zip (us ++ rest) = (fd.params.args.map (·.arg)).zip us := by
    have := List.zip_append (l₁ := fd.params.args.map (·.arg)) (r₁ := []) (l₂ := us) (r₂ := rest) hl.symm
    rw [List.append_nil, List.zip_nil_left, List.append_nil] at this
    exact this
  have hm : ((fd.params.args.map (·.arg)).take (fd.params.args.map (·.arg)).length).filter (fun n => (((fd.params.args.map (·.arg)).zip us).lookup n).isNone) = [] := by
    rw [List.filter_eq_nil_iff]
    intro x hx
    have := lookup_zip hl x (List.mem_of_mem_take hx)
    intro e
    rw [Option.isNone_iff_eq_none] at e
    rw [e] at this; cases this
  have hdr : (us ++ rest).drop (fd.params.args.map (·.arg)).length = rest := by rw [← hl, List.drop_left]
  unfold bindArgs
  simp only [hp, hk, hv, hw, hd, e0, ez, List.map_nil, List.nil_append, List.append_nil, pure_bind, Option.getD_none, List.forIn_nil, Option.isNone_some, Bool.and_false, Bool.false_eq_true, if_false, List.drop_nil, List.length_nil, Nat.sub_zero, Nat.zero_sub]
  simp only [hm, List.isEmpty_nil, Bool.not_true, Bool.false_eq_true, if_false, List.drop_length, List.zip_nil_left, List.forIn_nil, pure_bind, filterMap_zip hl nd, hdr]
  first | rfl | skip
def starB (p : Arguments) (ps : List Str) (k : Nat) : Bool := p.posonlyargs.isEmpty && p.kwonlyargs.isEmpty && p.kwarg.isNone && (match p.vararg with | some a => decide (p.args.map (·.arg) ++ [a.arg] = ps) | none => false) && decide (p.args.map (·.arg)).Nodup && decide (p.args.length = k)
theorem bok_star (F : FunD g.K x qual params body scope [] kws f fd) (h : starB params ps k = true) : BOk g base fd ps k (.by_ 0 true [] [.r 0]) := by
  unfold starB at h
  simp only [Bool.and_eq_true, List.isEmpty_iff, Option.isNone_iff_eq_none, decide_eq_true_eq] at h
  obtain ⟨⟨⟨⟨⟨h1, h2⟩, h3⟩, h4⟩, h5⟩, h6⟩ := h
  split at h4
  · rename_i a ea
    rw [decide_eq_true_eq] at h4
    subst h4
    obtain ⟨oc, od, dV, kV, doc, pm, an, cdv, ct, osl, rfl, lk, hcd, hD, hK⟩ := F.ex
    rcases hD with ⟨_, rfl⟩ | ⟨e, _⟩
    · intro A outer s H E fu us ws fv vs zs c S fx xs ys ds e0 hk rf r rz hS rfx rx ry ha hl
      have ha : (if ys.length = 0 ∧ 0 ≤ xs.length then srcs xs ys [.r 0] else none) = some ds := ha
      split at ha
      · rw [srcs, srcs, srcD, List.drop_zero] at ha
        obtain ⟨d, e1, e⟩ := pbind_eq ha
        split at e1
        · rename_i hz
          cases e1
          cases e
          have lf : fu.length = (params.args.map (·.arg)).length := by rw [← rf.length, rfx.length, hk, List.length_map, h6]
          have hn : H s.heap.objs.size = Option.none := e0.hok.fresh (Nat.le_refl _)
          have hz1 : vs.length ≤ sizeLine := by rw [rx.length]; exact hz
          have hz2 : us.length ≤ sizeLine := by rw [← r.length]; exact hz1
          have ek : Ar.kn (.by_ 0 true [] [.r 0]) = [] := rfl
          rw [ek, List.zip_nil_left]
          intro A' Ex Q' hq
          rw [bind_star (fd := PySem.W.fnOf x qual params body scope .none kV doc pm an cdv ct) (a := a) h1 h2 ea h3 rfl h5 lf]
          refine wpAny_bind (wpAny_newTuple (wpAny_pure ?_) hz2)
          have new : ObjOk g.P g.w (upd H s.heap.objs.size (.tup vs)) (s.heap.push ({ cls := .type "tuple", data := .seq us.toArray } : Obj)) s.heap.objs.size (.tup vs) := ⟨hz1, us, r, ⟨_, Heap.get?_push_size _ rfl, rfl, _, rfl⟩⟩
          have un := StX.un_laid (fs := frs outer) (s := s) (o := ({ cls := .type "tuple", data := .seq us.toArray } : Obj)) (u := .tup vs) hn
          have z := hq _ _ (fv ++ [V.ref s.heap.objs.size]) (fu ++ [Value.ref s.heap.objs.size]) (StX.env0_laid e0 new) un rfl (fun e s' => StX.cxUp outer s H _ _ E e s' un (fun b o q => Heap.get?_push_of_some _ q) rfl) (rf.append (.cons rfl .nil))
            (by rw [List.length_append, List.length_append, rf.length, lf] <;> rfl) ⟨.of_same (same_new hn), hS.same (same_new hn), (rfx.same (same_new hn)).append (.cons (.tup upd_same (rx.same (same_new hn))) .nil)⟩
          rw [List.zip_append lf.symm] at z
          exact z
        · cases e1
      · cases ha
    · exact absurd rfl e
  · cases h4
/-- no positional defaults; ms: the keyword-only parameters that lack -/
theorem bok_0 {n : Nat} {kn : List Str} {l : List Src} {s : List Sx} (F : FunD g.K x qual params body scope [] kws f fd) (ms : List (Str × V)) (hms : ∀ q ∈ ms, q ∈ kws) (hs : SxR g [] (ms.map (·.2)) k l s)
    (h : ∀ (D : Addr) (kV doc pm : Value) (an : Option Addr) (cdv ct : Value) (us ws mv r : List Value), (ms = [] ∨ kV = .ref D) → us.length = k + n → ws.length = kn.length → mv.length = ms.length → sxs us ws [] mv s = some r →
      KwChain D ((ms.map (·.1)).zip mv) (bindArgs (PySem.W.fnOf x qual params body scope .none kV doc pm an cdv ct) ⟨us, kn.zip ws⟩) (ps.zip (us.take k ++ r))) : BOk g base fd ps k (.by_ n false kn l) := by
  obtain ⟨oc, od, dV, kV, doc, pm, an, cdv, ct, osl, rfl, lk, hcd, hD, hK⟩ := F.ex
  rcases hD with ⟨_, rfl⟩ | ⟨e, _⟩
  · cases ms with
    | nil => exact bok_of (.nil) (.nil) hs fun sh us ws r kin l1 l2 e => BindsTo.of_looks fun M => KwChain.looks (D := 0) kin (l := []) (fun q hq => nomatch hq) (h 0 kV doc pm an cdv ct us ws [] r (.inl rfl) l1 l2 rfl e)
    | cons m ms =>
      rcases hK with e | ⟨D, rfl, hq⟩
      · have := hms m (List.mem_cons_self ..)
        rw [e] at this; cases this
      · obtain ⟨mv, hl, rk, hks⟩ := kwd_vals (ms := m :: ms) fun q hm => hq q (hms q hm)
        exact bok_of (.nil) rk hs fun sh us ws r kin l1 l2 e => BindsTo.of_looks fun M => KwChain.looks kin hks (h D (.ref D) doc pm an cdv ct us ws mv r (.inr rfl) l1 l2 hl e)
  · exact absurd rfl e
/-- with positional defaults -/
theorem bok_1 {n : Nat} {kn : List Str} {l : List Src} {s : List Sx} (F : FunD g.K x qual params body scope dvs kws f fd) (hd : dvs ≠ []) (ms : List (Str × V)) (hms : ∀ q ∈ ms, q ∈ kws) (hs : SxR g dvs (ms.map (·.2)) k l s)
    (h : ∀ (T D : Addr) (kV doc pm : Value) (an : Option Addr) (cdv ct : Value) (us ws its mv r : List Value), (ms = [] ∨ kV = .ref D) → us.length = k + n → ws.length = kn.length → its.length = dvs.length → mv.length = ms.length → sxs us ws its mv s = some r →
      ∃ kk, bindArgs (PySem.W.fnOf x qual params body scope (.ref T) kV doc pm an cdv ct) ⟨us, kn.zip ws⟩ = seqItems? (.ref T) >>= kk ∧ KwChain D ((ms.map (·.1)).zip mv) (kk (some its.toArray)) (ps.zip (us.take k ++ r))) : BOk g base fd ps k (.by_ n false kn l) := by
  obtain ⟨oc, od, dV, kV, doc, pm, an, cdv, ct, osl, rfl, lk, hcd, hD, hK⟩ := F.ex
  rcases hD with ⟨e, _⟩ | ⟨_, T, o, its, m, rfl, lT, oT, rT⟩
  · exact absurd e hd
  · cases ms with
    | nil =>
      refine bok_of rT (.nil) hs fun sh us ws r kin l1 l2 e => BindsTo.of_looks fun M => ?_
      obtain ⟨kk, e1, e2⟩ := h T 0 kV doc pm an cdv ct us ws its [] r (.inl rfl) l1 l2 rT.length.symm rfl e
      rw [e1]
      exact looks_items kin lT oT (KwChain.looks (D := 0) kin (l := []) (fun q hq => nomatch hq) e2)
    | cons m ms =>
      rcases hK with e | ⟨D, rfl, hq⟩
      · have := hms m (List.mem_cons_self ..)
        rw [e] at this; cases this
      · obtain ⟨mv, hl, rk, hks⟩ := kwd_vals (ms := m :: ms) fun q hm => hq q (hms q hm)
        refine bok_of rT rk hs fun sh us ws r kin l1 l2 e => BindsTo.of_looks fun M => ?_
        obtain ⟨kk, e1, e2⟩ := h T D (.ref D) doc pm an cdv ct us ws its mv r (.inr rfl) l1 l2 rT.length.symm hl e
        rw [e1]
        exact looks_items kin lT oT (KwChain.looks kin hks e2)
end
end PL

set_option Elab.async false
set_option linter.all false
set_option maxRecDepth 100000
set_option autoImplicit false
set_option maxHeartbeats 4000000
namespace PL
open PySem PySem.Spec PyProof.Rows L2 ClX

/-! ### a program: its defs by keys -/
structure Ent where
  key : Str
  d : He.DefD
  N : List Str
  ps : List Str
  fd : Fd
structure Prog where
  ents : List Ent
  G : Ctx
  mz : Str → Bool
  wf : Nat
def Prog.ent (P : Prog) (k : Str) : Option Ent := P.ents.find? fun e => decide (e.key = k)
def Prog.ctx (P : Prog) (e : Ent) : Ctx := { P.G with N := e.N }
def phiOf (P : Prog) (F : Str → Fun) : Fe := ⟨F, fun C f => runMk (F f) (P.mz C) C, P.G.ct, P.wf⟩
def Prog.tab (P : Prog) : Nat → Str → Fun
  | 0, _ => fun _ _ => .bad
  | n + 1, k => match P.ent k with
    | some e => runF (phiOf P (P.tab n)) e.fd
    | none => fun _ _ => .bad
def Prog.phi (P : Prog) (n : Nat) : Fe := phiOf P (P.tab n)
def scB (N ps : List Str) (sc : Scope) : Bool := decide (sc.kind = .function) && !sc.isCoroutine && !sc.isGenerator && decide N.Nodup && decide (N.take ps.length = ps) && ps.all (fun x => isLoc sc x) && sc.names.all fun y => decide (y.2 ≠ .free)
theorem scB_ok {N ps : List Str} {sc : Scope} (h : scB N ps sc = true) : FnScope N ps sc := by
  unfold scB at h
  simp only [Bool.and_eq_true, decide_eq_true_eq, Bool.not_eq_true', List.all_eq_true] at h
  obtain ⟨⟨⟨⟨⟨⟨h1, h2⟩, h3⟩, h4⟩, h5⟩, h6⟩, h7⟩ := h
  refine ⟨h1, h2, h3, h4, h5, fun x hx => ?_, fun y hy => h7 y hy⟩
  have := h6 x hx
  unfold isLoc at this
  rw [Bool.or_eq_true, decide_eq_true_eq, decide_eq_true_eq] at this
  exact this
def Prog.chk (P : Prog) (e : Ent) : Bool := scB e.N e.ps e.d.scope && decide (e.N.length = e.fd.ns) && decide (e.ps.length = e.fd.np) && chkSs (P.ctx e) e.d.scope e.fd.body e.d.body
/-- the def of an entry stands in K -/
abbrev Ent.Is (e : Ent) (K : PySem.W.Frag) (fd : FuncData) : Prop := FunD K e.d.name e.d.qual e.d.params e.d.body e.d.scope (e.d.dvs K) (e.d.kws K) (He.fAd K e.d.at_) fd
structure HeadOk (P : Prog) (g : Gx) : Prop where
  is : ∀ e ∈ P.ents, ∃ fd, e.Is g.K fd
  fn : ∀ f n ar, fnIn_ P.G f n ar = true → ∃ e, P.ent f = some e ∧ g.mg n = some (.ref (He.fAd g.K e.d.at_)) ∧ ∀ base fd, e.Is g.K fd → BOk g base fd e.ps 0 ar
  mks : ∀ C f ar, mkIn_ P.G C f ar = true → ∃ e A, P.ent f = some e ∧ g.mg C = some (.ref A) ∧ ClsF g.K A ∧ Mk g.K A (He.fAd g.K e.d.at_) ∧ ∀ base fd, e.Is g.K fd → BOk g base fd e.ps 1 ar
  mt : ∀ C m f ar, mtIn_ P.G C m f ar = true → ∃ e A, P.ent f = some e ∧ g.mg C = some (.ref A) ∧ Meth g.K A m (He.fAd g.K e.d.at_) ∧ ∀ base fd, e.Is g.K fd → BOk g base fd e.ps 1 ar
  gi : ∀ C f, mtIn_ P.G C "__getitem__" f .all = true → ∀ A q, g.mg C = some (.ref A) → PySem.W.findIn g.K (.ref A) "__getitem__" = some (some (.ref q)) → PySem.W.fnIn g.K q = true
  pr : ∀ C m f, prIn_ P.G C m f = true → ∃ e A q, P.ent f = some e ∧ g.mg C = some (.ref A) ∧ PropOf g.K A m q (He.fAd g.K e.d.at_) ∧ ∀ base fd, e.Is g.K fd → BOk g base fd e.ps 1 .all
  gl : ∀ x d, glIn_ P.G x d = true → ∃ v u, g.mg x = some u ∧ RelV v u ∧ ∀ c H, Rp g c H v d
  cc : ∀ C f d, ccIn_ P.G C f d = true → ∃ A mc v u, g.mg C = some (.ref A) ∧ CRead g.K A mc ∧ CVal g.K A mc f v u ∧ ∀ c H, Rp g c H v d
  ct : CtOk g P.G.ct
  cl : ∀ C, hasC P.G.ct C = true → ∃ B, g.mg C = some (.ref B)
  bn : ∀ n, P.G.bn.contains n = true → g.mg n = none
section
variable {P : Prog} {g : Gx} {base : Heap}
theorem ent_mem {k : Str} {e : Ent} (h : P.ent k = some e) : e ∈ P.ents ∧ e.key = k := by
  unfold Prog.ent at h
  exact ⟨List.mem_of_find?_eq_some h, by have := List.find?_some h; simpa using this⟩
theorem tab_arity {e : Ent} {k : Str} (he : P.ent k = some e) (hc : P.chk e = true) (n : Nat) (ds : List Dat) (S : Sto) (hl : ds.length ≠ e.ps.length) : P.tab n k ds S = .bad := by
  cases n with
  | zero => rfl
  | succ n =>
    unfold Prog.chk at hc
    simp only [Bool.and_eq_true, decide_eq_true_eq] at hc
    unfold Prog.tab
    rw [he]
    unfold runF
    dsimp only
    rw [if_neg (by rw [← hc.1.2]; exact hl)]
/-- what stands at level n -/
def Lev (P : Prog) (g : Gx) (base : Heap) (n : Nat) : Prop := ∀ k e fd, P.ent k = some e → e.Is g.K fd → FnP g base (2 * n + 1) (He.fAd g.K e.d.at_) fd e.ps (P.tab n k)
theorem mod_ok (hs : ∀ e ∈ P.ents, P.chk e = true) (hh : HeadOk P g) {n : Nat} (hl : Lev P g base n) (e : Ent) : ModOk (P.ctx e) (P.phi n) (2 * n + 1) g base := by
  refine ⟨hh.gl, hh.cc, fun f nm ar h => ?_, fun C f ar h => ?_, fun C m f ar h => ?_, hh.gi, fun C m f h => ?_, hh.ct, rfl, hh.cl, hh.bn⟩
  · obtain ⟨q, e1, e2, e3⟩ := hh.fn f nm ar h
    obtain ⟨m1, m2⟩ := ent_mem e1
    obtain ⟨fd, k1⟩ := hh.is q m1
    exact ⟨_, fd, q.ps, hl f q fd e1 k1, e2, k1.kp, e3 base fd k1, fun ds S z => tab_arity e1 (hs q m1) n ds S z⟩
  · obtain ⟨q, A, e1, e2, e3, e4, e5⟩ := hh.mks C f ar h
    obtain ⟨m1, m2⟩ := ent_mem e1
    obtain ⟨fd, k1⟩ := hh.is q m1
    exact ⟨P.tab n f, P.mz C, rfl, A, _, fd, q.ps, hl f q fd e1 k1, e2, e3, e4, e5 base fd k1, fun ds S z => tab_arity e1 (hs q m1) n ds S z⟩
  · obtain ⟨q, A, e1, e2, e3, e4⟩ := hh.mt C m f ar h
    obtain ⟨m1, m2⟩ := ent_mem e1
    obtain ⟨fd, k1⟩ := hh.is q m1
    exact ⟨A, _, fd, q.ps, hl f q fd e1 k1, e2, e3, e4 base fd k1, fun ds S z => tab_arity e1 (hs q m1) n ds S z⟩
  · obtain ⟨q, A, pq, e1, e2, e3, e4⟩ := hh.pr C m f h
    obtain ⟨m1, m2⟩ := ent_mem e1
    obtain ⟨fd, k1⟩ := hh.is q m1
    exact ⟨A, pq, _, fd, q.ps, hl f q fd e1 k1, e2, e3, e4 base fd k1, fun ds S z => tab_arity e1 (hs q m1) n ds S z⟩
theorem FnP.bad {n : Nat} {f : Addr} {fd : FuncData} {ps : List Str} {F F' : Fun} (h : FnP g base n f fd ps F) (hb : ∀ ds S, F' ds S = .bad) : FnP g base n f fd ps F' :=
  ⟨fun A outer s H args Q E G gA hr e0 hbd hG => h.run A outer s H args Q E G gA hr e0 hbd fun vs H2 hg => by
    obtain ⟨c, S, ds, _, _, z⟩ := hG vs H2 hg
    rw [hb] at z
    exact z.elim⟩
theorem levels (hs : ∀ e ∈ P.ents, P.chk e = true) (hh : HeadOk P g) (n : Nat) : Lev P g base n := by
  induction n with
  | zero =>
    intro k e fd he hi
    obtain ⟨m1, m2⟩ := ent_mem he
    have hc := hs e m1
    unfold Prog.chk at hc
    simp only [Bool.and_eq_true, decide_eq_true_eq] at hc
    obtain ⟨oc, od, dV, kV, doc, pm, an, cdv, ct, osl, rfl, lk, hcd, _, _⟩ := hi.ex
    refine FnP.bad (F := runF (P.phi 0) ⟨e.ps.length, e.N.length, true, .cons .never .nil⟩) ?_ fun _ _ => rfl
    refine fn_ok lk hcd (scB_ok hc.1.1.1) rfl fun A outer s2 H2 E gA hr => ?_
    rw [evSs, evS]
    exact ⟨fun pins s σ H D I ⟨c, ρ, S, _, _, h⟩ => h.elim⟩
  | succ n ih =>
    intro k e fd he hi
    obtain ⟨m1, m2⟩ := ent_mem he
    have hc := hs e m1
    unfold Prog.chk at hc
    simp only [Bool.and_eq_true, decide_eq_true_eq] at hc
    obtain ⟨oc, od, dV, kV, doc, pm, an, cdv, ct, osl, rfl, lk, hcd, _, _⟩ := hi.ex
    have et : P.tab (n + 1) k = runF (P.phi n) e.fd := by unfold Prog.tab; rw [he]; rfl
    rw [et]
    refine fn_ok (n := 2 * n + 2) lk hcd (scB_ok hc.1.1.1) hc.1.1.2 fun A outer s2 H2 E gA hr => ?_
    refine chkSs_ok (Γ := P.ctx e) (Φ := P.phi n) (lv := 2 * n + 1) (sc := e.d.scope) _ _ ⟨⟨rfl, rfl, (scB_ok hc.1.1.1).nd, ?_, gA, rfl, hr, takes_cx, mod_ok hs hh ih e⟩, PassesOwn.leaving, fun _ => rfl⟩ hc.2
    have := hr.un
    show (A.deeper _).units + 64 < cLine
    omega
end
end PL

set_option Elab.async false
set_option linter.all false
set_option maxRecDepth 100000
set_option autoImplicit false
set_option maxHeartbeats 4000000
namespace PL
open PySem PySem.Spec PyProof.Rows L2 ClX
/-! ### the end of a law -/
section
variable {g : Gx} {mb : Str → Option Value} {n : Nat} {fa a : Addr} {fd : FuncData} {x : Str} {F : Fun} {s1 : Shared} {vs : List Value} {ns : List Int}
def noCw : Cw := ⟨fun _ => False, [], fun _ h => nomatch h⟩
theorem stoOk_nil {H : Hp} : StoOk g noCw [] H := by
  constructor <;> first | rfl | (intro i; intros; first | contradiction | simp_all [noCw]) | simp [noCw]
/-- the law's answer and what it leaves -/
abbrev LawEnd (s1 : Shared) (r : Result) (s' : Shared) : Prop := r = .ok (.ret (.bool true)) ∧ OldK s1.heap s'.heap ∧ s'.os = s1.os ∧ AllBare s'.gens
theorem scr_all {H : Hp} : ∀ ns : List Int, RpAll g noCw H (ns.map V.int) (ns.map Dat.int)
  | [] => .nil
  | n :: ns => .cons (.int n) (scr_all ns)
theorem law_core (kin : g.K.In s1.heap) (gl : s1.heap.Ns mainGlobals g.mg) (bl : s1.heap.Ns builtinsNs mb) (bb : ∀ y : Str, y ≠ "__name__" → mb y = bootBuiltins y) (nl : s1.heap.NoLimit) (hg : s1.gens = #[])
    (scr : s1.heap.get? a = some { cls := .type "list", data := .seq vs.toArray }) (room : Room n callerA)
    (P : ∀ base : Heap, FnP g base n fa fd [x] F) (bnd : ∀ (s : Shared) (u : Value), BindsTo s fd ⟨[u], []⟩ [(x, u)])
    (hF : ∃ S', F [.list (ns.map .int)] [] = .ok (.bool true) S')
    (H : Hp) (only : Only H) (hok : HOk g.P g.w H s1.heap) (atA : ∀ b, H b ≠ none → b = a) (noK : H a ≠ none → g.K.lookup a = none) (hsq : SqM g noCw H a (ns.map V.int)) :
    codeAny (model g.P g.w) callerA (.call (.ref fa) ⟨[.ref a], []⟩) (LawEnd s1) s1 := by
  have untracked : ∀ {b : Addr} {o : Obj}, s1.heap.get? b = some o → (b = a → False) → (hidT s1.heap H).get? b = some o := fun {b o} e nb => by
    refine hidT_get e ?_
    cases q : H b with
    | none => rfl
    | some u => exact (nb (atA b (by rw [q]; exact fun z => nomatch z))).elim
  have dicts : ∀ {b : Addr} {m : Str → Option Value}, s1.heap.Ns b m → (hidT s1.heap H).Ns b m := by
    rintro b m ⟨o, es, ep, e, d, rest⟩
    refine ⟨o, es, ep, untracked e fun z => ?_, d, rest⟩
    rw [z, scr] at e
    cases e
    cases d
  have kinB : g.K.In (hidT s1.heap H) := fun b o e => by
    by_cases q : H b = none
    · exact hidT_get (kin b o e) q
    · have z := atA b q
      subst z
      rw [noK q] at e
      cases e
  have md : Mod g.K g.mg (hidT s1.heap H) := by
    refine ⟨kinB, dicts gl, ⟨mb, dicts bl, bb⟩, ?_⟩
    obtain ⟨mc, c1, c2⟩ := nl
    exact ⟨mc, dicts c1, c2⟩
  have env : Env0 g.P g.w g.K g.mg (hidT s1.heap H) callerA [] s1 H :=
    { frames := rfl, mod := md, bs := fun b o e => of_hidT e, bsz := Nat.le_of_eq (hidT_size _ _), funs := trivial, frf := fun b hb => absurd hb List.not_mem_nil, hok := hok, bare := .of_eq hg }
  obtain ⟨S', hF⟩ := hF
  refine codeAny_mono ((P (hidT s1.heap H)).run callerA [] s1 H ⟨[.ref a], []⟩ (fun v _ => v = .bl true) (fun _ _ _ => False) (fun vs' H2 => vs' = [.ref a] ∧ H2 = H) rfl room env (Bnd.of_binds (vs := [.ref a]) (us := [.ref a]) env (bnd s1 (.ref a)) (.cons rfl .nil) rfl ⟨rfl, rfl⟩) fun vs' H2 ⟨e1, e2⟩ => ?_) fun r s' post => ?_
  · subst e1 e2
    refine ⟨noCw, [], [.list (ns.map .int)], stoOk_nil, .cons (.lst hsq (scr_all ns)) .nil, ?_⟩
    rw [hF]
    exact fun c' H' v _ _ rv => rv.bool_inv
  cases r with
  | error z =>
    obtain ⟨_, _, _, _, _, _, _, _, _, _, _, _, e⟩ := post
    exact e.elim
  | ok fl =>
    cases fl with
    | next => exact False.elim post
    | brk => exact False.elim post
    | cont => exact False.elim post
    | ret u =>
      obtain ⟨v, H', os, bare, un, hok', rel, ev⟩ := post
      have ev' : v = V.bl true := ev
      subst ev'
      have eu : u = Value.bool true := rel
      refine ⟨by rw [eu], OldK.of_keep fun b o e => ?_, os, bare⟩
      rcases only b with z | ⟨ob, xs, z⟩
      · exact un.keep b o e z List.not_mem_nil List.not_mem_nil
      · have before := (hok b _ z).1
        have after := (hok' b _ (un.frzs b ob _ z)).1
        rw [e] at before
        cases before
        exact after
theorem law_run (kin : g.K.In s1.heap) (gl : s1.heap.Ns mainGlobals g.mg) (bl : s1.heap.Ns builtinsNs mb) (bb : ∀ y : Str, y ≠ "__name__" → mb y = bootBuiltins y) (nl : s1.heap.NoLimit) (hg : s1.gens = #[])
    (scr : s1.heap.get? a = some { cls := .type "list", data := .seq vs.toArray }) (isI : IntsAre vs ns) (few : ns.length ≤ sizeLine) (room : Room n callerA)
    (P : ∀ base : Heap, FnP g base n fa fd [x] F) (bnd : ∀ (s : Shared) (u : Value), BindsTo s fd ⟨[u], []⟩ [(x, u)])
    (hF : ∃ S', F [.list (ns.map .int)] [] = .ok (.bool true) S') : codeAny (model g.P g.w) callerA (.call (.ref fa) ⟨[.ref a], []⟩) (LawEnd s1) s1 := by
  have vals := vals_ints isI
  have sizes := isI.length
  cases hk : g.K.lookup a with
  | some o =>
    have e := kin a o hk
    rw [scr] at e
    cases e
    refine law_core kin gl bl bb nl hg scr room P bnd hF (fun _ => none) (fun _ => .inl rfl) (fun _ _ z => nomatch z) (fun _ z => absurd rfl z) (fun z => absurd rfl z) (.inr (.inr ⟨_, vs.toArray, _, hk, rfl, rfl, rfl, ?_, ?_⟩))
    · rw [List.size_toArray, sizes]; exact few
    · simpa using vals
  | none =>
    have at1 : (L2.upd (fun _ => none) a (.frz { cls := .type "list", data := .seq vs.toArray } (.lst (ns.map V.int))) : Hp) a = some (.frz { cls := .type "list", data := .seq vs.toArray } (.lst (ns.map V.int))) := upd_same
    have off : ∀ b, b ≠ a → (L2.upd (fun _ => none) a (.frz { cls := .type "list", data := .seq vs.toArray } (.lst (ns.map V.int))) : Hp) b = none := fun b nb => by rw [upd_ne nb]
    refine law_core kin gl bl bb nl hg scr room P bnd hF (L2.upd (fun _ => none) a (.frz { cls := .type "list", data := .seq vs.toArray } (.lst (ns.map V.int)))) (fun b => ?_) (fun b u z => ?_) (fun b z => ?_) (fun _ => hk) (.inr (.inl ⟨_, at1⟩))
    · by_cases e : b = a
      · rw [e]; exact .inr ⟨_, _, at1⟩
      · exact .inl (off b e)
    · by_cases e : b = a
      · subst e
        rw [at1] at z
        cases z
        exact ⟨scr, by rw [List.length_map]; exact few, vs, _, vals, scr⟩
      · rw [off b e] at z; cases z
    · exact Decidable.byContradiction fun e => z (off b e)
end
/-- the law: a program, its head, its answer -/
theorem walk_law {l : PySem.W.OpenLaw} {q : Program} {loose : List Str} {XP : (Str → Option Value) → Heap → Prop} {YP : World → Heap → Prop} {d : DefRec} {P : Prog} {n : Nat} {e : Ent} (hn : l.most = some 63) (hdf : d.params.defaults = []) (room : Room (2 * n + 1) callerA)
    (hs : ∀ e ∈ P.ents, P.chk e = true) (hl : P.ent "law" = some e) (hpl : plainB e.d.params e.ps = true) (h1 : ∃ x, e.ps = [x]) (hdd : e.d.dfl = [])
    (hY : ∀ (w : World) (h : Heap) (mg : Str → Option Value), YP w h → h.Ns mainGlobals mg → ∃ K : PySem.W.Frag, K.In h ∧ HeadOk P ⟨l.prog, K, w, mg⟩ ∧ mg d.name = some (.ref (He.fAd K e.d.at_)))
    (hF : ∀ ns : List Int, ns.length ≤ 63 → ∃ S', P.tab n "law" [.list (ns.map .int)] [] = .ok (.bool true) S') :
    PySem.W.WalkO q loose XP YP l.row.toRowW d [] (fun f vs => PySem.call f vs) := by
  refine Att.attach_call hn hdf ?_
  intro w s0 s1 mg mb fa o pm cd doc a vs ns G Y ho hd hcd hmg hobj hints hlen hg
  obtain ⟨K, kin, hh, hnm⟩ := hY w _ mg Y G.T.g
  obtain ⟨x, hx⟩ := h1
  obtain ⟨m1, m2⟩ := ent_mem hl
  obtain ⟨fd, hi⟩ := hh.is e m1
  have hfa : fa = He.fAd K e.d.at_ := by
    rw [hmg] at hnm
    cases hnm
    rfl
  have hi2 := hi
  have ed : e.d.dvs K = [] := by unfold He.DefD.dvs; rw [hdd]; rfl
  have hi3 : FunD K e.d.name e.d.qual e.d.params e.d.body e.d.scope [] (e.d.kws K) (He.fAd K e.d.at_) fd := by rw [← ed]; exact hi
  unfold plainB at hpl
  simp only [Bool.and_eq_true, List.isEmpty_iff, Option.isNone_iff_eq_none, decide_eq_true_eq] at hpl
  obtain ⟨⟨⟨⟨⟨h1, h2⟩, h3⟩, h4⟩, h5⟩, h6⟩ := hpl
  have hb : ∀ (s : Shared) (u : Value), BindsTo s fd ⟨[u], []⟩ [(x, u)] := fun s u => by
    have := hi3.bindsA (ps := [x]) (fun kV doc pm an cdv ct us hl => by
      have := bind_plain (fd := PySem.W.fnOf e.d.name e.d.qual e.d.params e.d.body e.d.scope .none kV doc pm an cdv ct) (us := us) h1 h2 h3 h4 rfl (by show (e.d.params.args.map (·.arg)).Nodup; rw [h5]; exact h6) (by show us.length = (e.d.params.args.map (·.arg)).length; rw [h5, hx]; exact hl)
      rw [this]
      show pure ((e.d.params.args.map (·.arg)).zip us) = _
      rw [h5, hx]) s [u] rfl
    exact this
  rw [hfa]
  refine law_run (g := ⟨l.prog, K, w, mg⟩) kin G.T.g G.T.b G.T.builtins G.T.nolimit hg hobj hints (Nat.le_trans hlen (by decide)) room (fun base => ?_) hb (hF ns hlen)
  have := levels (g := ⟨l.prog, K, w, mg⟩) (base := base) hs hh n _ e fd hl hi
  rw [hx] at this
  exact this
end PL

set_option Elab.async false
set_option linter.all false
set_option maxRecDepth 100000
set_option autoImplicit false
set_option maxHeartbeats 4000000
namespace PL
open PySem PySem.Spec PyProof.Rows L2 ClX He

/-! ### the head, by a Boolean -/
/-- what a def binds is known by its parameters alone -/
def barB (e : Ent) (k : Nat) (ar : Ar) : Bool := e.d.dfl.isEmpty && match ar with
  | .all => plainB e.d.params e.ps
  | .by_ 0 true [] [.r 0] => starB e.d.params e.ps k
  | _ => false
structure Man where
  key : Str
  k : Nat
  ar : Ar
def ManOk (P : Prog) (X : PySem.W.Frag → Bool) (m : Man) : Prop := ∀ e, P.ent m.key = some e → ∀ (g : Gx) (base : Heap) (fd : FuncData), X g.K = true → e.Is g.K fd → BOk g base fd e.ps m.k m.ar
def useB (P : Prog) (M : List Man) (f : Str) (k : Nat) (ar : Ar) : Bool := match P.ent f with
  | some e => barB e k ar || M.any fun m => decide (m.key = f) && decide (m.k = k) && arEq m.ar ar
  | none => false
def Prog.uses (P : Prog) (M : List Man) : Bool := (P.G.fn.all fun q => useB P M q.1 0 q.2.2) && (P.G.mks.all fun q => useB P M q.2.1 1 q.2.2) && P.G.mt.all fun q => useB P M q.2.2.1 1 q.2.2.2
theorem bar_ok {e : Ent} {k : Nat} {ar : Ar} (h : barB e k ar = true) {g : Gx} {base : Heap} {fd : FuncData} (hi : e.Is g.K fd) : BOk g base fd e.ps k ar := by
  unfold barB at h
  rw [Bool.and_eq_true, List.isEmpty_iff] at h
  obtain ⟨hd, h⟩ := h
  have ed : e.d.dvs g.K = [] := by unfold DefD.dvs; rw [hd]; rfl
  have hi3 : FunD g.K e.d.name e.d.qual e.d.params e.d.body e.d.scope [] (e.d.kws g.K) (fAd g.K e.d.at_) fd := by rw [← ed]; exact hi
  split at h
  · exact bok_plain hi3 h
  · exact bok_star hi3 h
  · cases h
theorem use_ok {P : Prog} {M : List Man} {X : PySem.W.Frag → Bool} (hM : ∀ m ∈ M, ManOk P X m) {f : Str} {k : Nat} {ar : Ar} (h : useB P M f k ar = true) : ∃ e, P.ent f = some e ∧ ∀ (g : Gx) (base : Heap) (fd : FuncData), X g.K = true → e.Is g.K fd → BOk g base fd e.ps k ar := by
  unfold useB at h
  split at h
  · rename_i e he
    refine ⟨e, he, fun g base fd hx hi => ?_⟩
    rw [Bool.or_eq_true] at h
    rcases h with h | h
    · exact bar_ok h hi
    · obtain ⟨m, m1, m2⟩ := List.any_eq_true.mp h
      simp only [Bool.and_eq_true, decide_eq_true_eq] at m2
      obtain ⟨⟨e1, e2⟩, e3⟩ := m2
      have := arEq_ok e3
      have q := hM m m1 e (by rw [e1]; exact he) g base fd hx hi
      rw [e2, this] at q
      exact q
  · cases h
/-- a keyword default, if it is an object -/
def kwdAt (f : Str × Option Str) (x : Str) (K : PySem.W.Frag) : Addr := match K.lookup (fAd K f) with
  | some ⟨_, _, .func fd, _⟩ => (match fd.kwdefaults with
    | .ref D => (match PySem.W.nsIn K D x with
      | some (some (.ref a)) => a
      | _ => 0)
    | _ => 0)
  | _ => 0
def ktB (K : PySem.W.Frag) (a : Addr) (vs : List V) : Bool := match K.lookup a with
  | some ⟨.type c, _, .seq its _, _⟩ => decide (c = "tuple") && (decide (its.size ≤ sizeLine) && relAll vs its.toList)
  | _ => false
theorem ktB_ok {K : PySem.W.Frag} {a : Addr} {vs : List V} (h : ktB K a vs = true) : KTp K a vs := by
  unfold ktB at h
  split at h
  · rename_i c od its n sl e
    obtain ⟨h1, h2⟩ := ba h
    obtain ⟨h3, h4⟩ := ba h2
    exact ⟨_, its, n, e, congrArg Value.type (of_decide_eq_true h1), rfl, of_decide_eq_true h3, relAll_ok h4⟩
  · cases h
def flatV : Dat → V
  | .none => .non
  | .bool b => .bl b
  | .int i => .int i
  | .str x => .str x
  | _ => .non
theorem flat_all {g : Gx} {c : Cw} {H : Hp} : ∀ {ds : List Dat}, ds.all flatD = true → RpAll g c H (ds.map flatV) ds
  | [], _ => .nil
  | d :: ds, h => by
    rw [List.all_cons, Bool.and_eq_true] at h
    refine .cons ?_ (flat_all h.2)
    cases d <;> first | exact .non | exact .bl _ | exact .int _ | exact .str _ | (have := h.1; simp [flatD] at this)
/-- a dict of the module: its keys, its values -/
def kvB : List DictEntry → List (Dat × Dat) → Bool
  | [], [] => true
  | e :: es, (.str z, d) :: kvs => (match e.key with
    | .str y _ => decide (y = z)
    | _ => false) && (match d with
    | .int _ => true
    | .str _ => true
    | _ => false) && relB (flatV d) e.val && kvB es kvs
  | _, _ => false
theorem kvB_keys : ∀ {es : List DictEntry} {kvs : List (Dat × Dat)}, kvB es kvs = true → ∀ p ∈ kvs, ∃ z, p.1 = .str z
  | [], [], _, p, hp => nomatch hp
  | e :: es, (.str z, d) :: kvs, h, p, hp => by
    rcases List.mem_cons.mp hp with rfl | hp
    · exact ⟨z, rfl⟩
    · unfold kvB at h
      rw [Bool.and_eq_true] at h
      exact kvB_keys h.2 p hp
  | [], _ :: _, h, _, _ => by simp [kvB] at h
  | e :: es, [], h, _, _ => by simp [kvB] at h
  | e :: es, (.none, d) :: kvs, h, _, _ => by simp [kvB] at h
  | e :: es, (.bool _, d) :: kvs, h, _, _ => by simp [kvB] at h
  | e :: es, (.int _, d) :: kvs, h, _, _ => by simp [kvB] at h
  | e :: es, (.list _, d) :: kvs, h, _, _ => by simp [kvB] at h
  | e :: es, (.tuple _, d) :: kvs, h, _, _ => by simp [kvB] at h
  | e :: es, (.ins _ _, d) :: kvs, h, _, _ => by simp [kvB] at h
  | e :: es, (.dict _, d) :: kvs, h, _, _ => by simp [kvB] at h
  | e :: es, (.kd _, d) :: kvs, h, _, _ => by simp [kvB] at h
  | e :: es, (.kt _, d) :: kvs, h, _, _ => by simp [kvB] at h
  | e :: es, (.own _, d) :: kvs, h, _, _ => by simp [kvB] at h
theorem kvB_find {z : Str} : ∀ {es : List DictEntry} {kvs : List (Dat × Dat)}, kvB es kvs = true → (es.any (·.refKey) = false) ∧ (dget kvs (.str z) = none → es.find? (·.key.isStr z) = none) ∧ ∀ d, dget kvs (.str z) = some d → ∃ e, es.find? (·.key.isStr z) = some e ∧ RelV (flatV d) e.val ∧ BaseR (flatV d) d := by
  intro es
  induction es with
  | nil =>
    intro kvs h
    cases kvs with
    | nil => exact ⟨rfl, fun _ => rfl, fun d q => by simp [dget] at q⟩
    | cons _ _ => simp [kvB] at h
  | cons e es ih =>
    intro kvs h
    cases kvs with
    | nil => simp [kvB] at h
    | cons p kvs =>
      obtain ⟨pk, d⟩ := p
      obtain ⟨zz, e1⟩ := kvB_keys h _ (List.mem_cons_self ..)
      subst e1
      unfold kvB at h
      simp only [Bool.and_eq_true] at h
      obtain ⟨⟨⟨h1, h2⟩, h3⟩, h4⟩ := h
      obtain ⟨i1, i2, i3⟩ := ih h4
      split at h1
      · rename_i y t ek
        rw [decide_eq_true_eq] at h1
        subst h1
        have ei : e.key.isStr z = decide (y = z) := by
          rw [ek]
          by_cases q : y = z
          · subst q; simp [Value.isStr]
          · simp [Value.isStr, q]
        have er : e.refKey = false := by
          unfold DictEntry.refKey
          rw [ek]
        refine ⟨by rw [List.any_cons, er, i1]; rfl, fun q => ?_, fun d' q => ?_⟩
        · unfold dget at q
          split at q
          · cases q
          · rename_i ne
            rw [List.find?_cons, ei]
            have : decide (y = z) = false := by
              rw [decide_eq_false_iff_not]
              exact fun k => ne (by rw [k])
            rw [this]
            exact i2 q
        · unfold dget at q
          split at q
          · rename_i eq
            cases q
            cases eq
            refine ⟨e, ?_, relB_ok h3, ?_⟩
            · rw [List.find?_cons, ei]; simp
            · cases d <;> first | (cases h2; done) | rfl
          · rename_i ne
            obtain ⟨e', k1, k2⟩ := i3 d' q
            refine ⟨e', ?_, k2⟩
            rw [List.find?_cons, ei]
            have : decide (y = z) = false := by
              rw [decide_eq_false_iff_not]
              exact fun k => ne (by rw [k])
            rw [this]
            exact k1
      · cases h1
def kdB (K : PySem.W.Frag) (a : Addr) (kvs : List (Dat × Dat)) : Bool := match K.lookup a with
  | some ⟨_, _, .dict es _, _⟩ => kvB es.toList kvs
  | _ => false
theorem kdB_ok {g : Gx} {a : Addr} {kvs : List (Dat × Dat)} (h : kdB g.K a kvs = true) (hd : ∃ es n, KDict g.K g.w a es n) : KdOk g a kvs := by
  obtain ⟨es, n, D⟩ := hd
  unfold kdB at h
  rw [D.at_] at h
  dsimp only at h
  refine ⟨es, n, D, kvB_keys h, fun z => ?_⟩
  obtain ⟨i1, i2, i3⟩ := kvB_find (z := z) h
  refine ⟨fun q => ?_, fun d q => ?_⟩
  · unfold PySem.W.nsIn
    rw [D.at_]
    dsimp only
    rw [i2 q, i1]
    rfl
  · obtain ⟨e, k1, k2, k3⟩ := i3 d q
    refine ⟨e.val, flatV d, ?_, k2, k3⟩
    unfold PySem.W.nsIn
    rw [D.at_]
    dsimp only
    rw [k1]
def glB (K : PySem.W.Frag) (x : Str) : Dat → Bool
  | .int i => (Fa.int x i).ok K
  | .str z => (Fa.str x z).ok K
  | .kt ds => (Fa.glo x).ok K && ds.all flatD && ktB K (ga K x) (ds.map flatV)
  | .kd kvs => (Fa.glo x).ok K && kdB K (ga K x) kvs
  | _ => false
def kdKeys : Dat → Option (List Str)
  | .kd kvs => some (kvs.map fun p => match p.1 with | .str z => z | _ => "")
  | _ => none
def clsFB (K : PySem.W.Frag) (C : Str) : Bool := (Fa.cls C).ok K && eqO (PySem.W.findIn K (.ref (ga K C)) "__class__") (some (some (.builtin "object.__class__"))) && eqO (PySem.W.specialIn K (.builtin "object.__class__") "__get__") (some (some (.builtin "getset_descriptor.__get__"))) &&
  decide (PySem.W.takesIn K (.builtin "object.__class__") = some true) && decide (PySem.W.mroIn K (ga K C) (.type "object") = some true)
theorem clsFB_ok {K : PySem.W.Frag} {C : Str} (h : clsFB K C = true) : ClsF K (ga K C) := by
  unfold clsFB at h
  simp only [Bool.and_eq_true, decide_eq_true_eq] at h
  exact ⟨cls_ok h.1.1.1.1, eqO_ok h.1.1.1.2, eqO_ok h.1.1.2, h.1.2, h.2⟩
def ccB (K : PySem.W.Frag) (C f : Str) (d : Dat) : Bool := (Fa.glo C).ok K && PySem.W.readsIn K (ga K C) (.type "type") && eqO (PySem.W.specialIn K (.ref (ga K C)) "__getattribute__") (some (some (.builtin "type.__getattribute__"))) && flatD d && (match PySem.W.findCls K (.ref (ga K C)) (.type "type") f with
  | some (.val u) => relB (flatV d) u
  | _ => false)
def ctB (K : PySem.W.Frag) (ct : CT) : Bool := ct.all fun p => (Fa.glo p.1).ok K && (p.2.all fun f => (Fa.noat p.1 f).ok K) && (tyNames.all fun n => decide (PySem.W.kitOne K (.ref (ga K p.1)) (.type n) = some false) && decide (PySem.W.kitOne K (.type n) (.ref (ga K p.1)) = some false)) &&
  ct.all fun q => decide (PySem.W.kitOne K (.ref (ga K p.1)) (.ref (ga K q.1)) = some (decide (p.1 = q.1)))
def headB (P : Prog) (X : PySem.W.Frag → Bool) (K : PySem.W.Frag) : Bool := (P.ents.all fun e => e.d.ok K) &&
  (P.G.fn.all fun q => (Fa.glo q.2.1).ok K && match P.ent q.1 with | some e => decide (e.d.at_ = (q.2.1, none)) | none => false) &&
  (P.G.mks.all fun q => (Fa.glo q.1).ok K && clsFB K q.1 && (Fa.mkr q.1).ok K && match P.ent q.2.1 with | some e => decide (e.d.at_ = (q.1, some ("__init__" : Str))) | none => false) &&
  (P.G.mt.all fun q => (Fa.glo q.1).ok K && (Fa.meth q.1 q.2.1).ok K && (!decide (q.2.1 = "__getitem__") || PySem.W.fnIn K (ma K (ga K q.1) q.2.1)) && match P.ent q.2.2.1 with | some e => decide (e.d.at_ = (q.1, some q.2.1)) | none => false) &&
  P.G.pr.isEmpty && (P.G.gl.all fun q => glB K q.1 q.2) && (P.G.cc.all fun q => ccB K q.1.1 q.1.2 q.2) && ctB K P.G.ct && (P.G.bn.all fun n => (Fa.free n).ok K) && X K
abbrev AlP : Type := Bool × List FnW × List (Option (List (Option (Str × Int))))
def kdTabs (P : Prog) : List (Str × List Str) := P.G.gl.filterMap fun q => (kdKeys q.2).map fun ks => (q.1, ks)
def obsP (P : Prog) (X : PySem.W.Frag → Bool) (K : PySem.W.Frag) : AlP := (headB P X K, P.ents.map (fun e => fnW K e.d.at_), (kdTabs P).map fun t => dicW K (ga K t.1))
def valP (P : Prog) (w : World) : AlP := (true, P.ents.map (fun e => e.d.val), (kdTabs P).map fun t => some (keysIn w.params t.2))
def obsPG (n : Nat) (P : Prog) (X : PySem.W.Frag → Bool) (g : Addr → Option Obj) : AlP := obsP P X (frG g (asD g n ++ [cStatics]))
def hookP (n : Nat) (P : Prog) (X : PySem.W.Frag → Bool) : PySem.W.Hook where
  α := AlP
  obs := fun s => obsPG n P X s.heap.get?
  val := fun w => valP P w
  says := fun w h => ∃ K : PySem.W.Frag, K.In h ∧ obsP P X K = valP P w
  of := fun _ _ e => ⟨_, frG_in, e⟩
  keeps := fun _ _ _ ⟨K, hK, c⟩ k => ⟨K, PySem.W.Frag.In.keeps hK k, c⟩
theorem obsPG_eq {n : Nat} {P : Prog} {X : PySem.W.Frag → Bool} {g : Addr → Option Obj} {s : Shared} (h : ∀ a, g a = s.heap.get? a) : obsPG n P X g = (hookP n P X).obs s := by
  have e : g = s.heap.get? := funext h
  rw [e] <;> rfl
theorem mem_of_any {α : Type} {l : List α} {p : α → Bool} (h : l.any p = true) : ∃ a ∈ l, p a = true := List.any_eq_true.mp h
theorem headOk_of {P : Prog} {X : PySem.W.Frag → Bool} {M : List Man} {g : Gx} {h : Heap} (kin : g.K.In h) (G : h.Ns mainGlobals g.mg) (hs : obsP P X g.K = valP P g.w) (hM : ∀ m ∈ M, ManOk P X m) (hu : P.uses M = true) : HeadOk P g := by
  have e1 : headB P X g.K = true := congrArg (fun z : AlP => z.1) hs
  have e2 : P.ents.map (fun e => fnW g.K e.d.at_) = P.ents.map (fun e => e.d.val) := congrArg (fun z : AlP => z.2.1) hs
  have e3 : (kdTabs P).map (fun t => dicW g.K (ga g.K t.1)) = (kdTabs P).map fun t => some (keysIn g.w.params t.2) := congrArg (fun z : AlP => z.2.2) hs
  unfold headB at e1
  simp only [Bool.and_eq_true, List.all_eq_true] at e1
  obtain ⟨⟨⟨⟨⟨⟨⟨⟨⟨b1, b2⟩, b3⟩, b4⟩, b5⟩, b6⟩, b7⟩, b8⟩, b9⟩, b10⟩ := e1
  unfold Prog.uses at hu
  simp only [Bool.and_eq_true, List.all_eq_true] at hu
  obtain ⟨⟨u1, u2⟩, u3⟩ := hu
  have hglo : ∀ {x : Str}, (Fa.glo x).ok g.K = true → g.mg x = some (.ref (ga g.K x)) := fun c => glo_ok kin G c
  unfold ctB at b8
  simp only [Bool.and_eq_true, List.all_eq_true, decide_eq_true_eq] at b8
  refine ⟨fun e he => ?_, fun f n ar q => ?_, fun C f ar q => ?_, fun C m f ar q => ?_, fun C f q A p hA hf => ?_, fun C m f q => ?_, fun x d q => ?_, fun C f d q => ?_, ?_, fun C q => ?_, fun n q => ?_⟩
  · obtain ⟨i, hi⟩ := List.mem_iff_getElem?.mp he
    have z : (P.ents.map (fun e => fnW g.K e.d.at_))[i]? = (P.ents.map (fun e => e.d.val))[i]? := by rw [e2]
    rw [List.getElem?_map, List.getElem?_map, hi] at z
    exact DefD.funD (Option.some.inj z) (b1 e he)
  · obtain ⟨r, r1, r2⟩ := mem_of_any q
    simp only [Bool.and_eq_true, decide_eq_true_eq] at r2
    obtain ⟨⟨rfl, rfl⟩, r3⟩ := r2
    have := arEq_ok r3
    subst this
    obtain ⟨e, he, hb⟩ := use_ok (X := X) hM (u1 r r1)
    obtain ⟨c1, c2⟩ := b2 r r1
    rw [he, decide_eq_true_eq] at c2
    exact ⟨e, he, by rw [c2]; exact hglo c1, fun base fd hi => hb g base fd b10 hi⟩
  · obtain ⟨r, r1, r2⟩ := mem_of_any q
    simp only [Bool.and_eq_true, decide_eq_true_eq] at r2
    obtain ⟨⟨rfl, rfl⟩, r3⟩ := r2
    have := arEq_ok r3
    subst this
    obtain ⟨e, he, hb⟩ := use_ok (X := X) hM (u2 r r1)
    obtain ⟨⟨⟨c1, c2⟩, c3⟩, c4⟩ := b3 r r1
    rw [he, decide_eq_true_eq] at c4
    exact ⟨e, _, he, hglo c1, clsFB_ok c2, by rw [c4]; exact mkr_ok c3, fun base fd hi => hb g base fd b10 hi⟩
  · obtain ⟨r, r1, r2⟩ := mem_of_any q
    simp only [Bool.and_eq_true, decide_eq_true_eq] at r2
    obtain ⟨⟨⟨rfl, rfl⟩, rfl⟩, r3⟩ := r2
    have := arEq_ok r3
    subst this
    obtain ⟨e, he, hb⟩ := use_ok (X := X) hM (u3 r r1)
    obtain ⟨⟨⟨c1, c2⟩, c3⟩, c4⟩ := b4 r r1
    rw [he, decide_eq_true_eq] at c4
    exact ⟨e, _, he, hglo c1, by rw [c4]; exact meth_ok c2, fun base fd hi => hb g base fd b10 hi⟩
  · obtain ⟨r, r1, r2⟩ := mem_of_any q
    simp only [Bool.and_eq_true, decide_eq_true_eq] at r2
    obtain ⟨⟨⟨rfl, rm⟩, rfl⟩, r3⟩ := r2
    obtain ⟨⟨⟨c1, c2⟩, c3⟩, c4⟩ := b4 r r1
    rw [hglo c1] at hA
    cases hA
    have k := (meth_ok c2).at_
    rw [rm] at k
    rw [hf] at k
    rw [rm] at c3
    simp only [decide_true, Bool.not_true, Bool.false_or] at c3
    cases k
    exact c3
  · rw [List.isEmpty_iff] at b5
    unfold prIn_ at q
    rw [b5] at q
    cases q
  · obtain ⟨r, r1, r2⟩ := mem_of_any q
    simp only [Bool.and_eq_true, decide_eq_true_eq] at r2
    obtain ⟨rfl, rfl⟩ := r2
    have c := b6 r r1
    cases er : r.2 <;> rw [er] at c <;> first | (cases c; done) | skip
    · rename_i i
      obtain ⟨t, ht⟩ := int_ok kin G c
      exact ⟨.int i, _, ht, ⟨t, rfl⟩, fun c H => .int i⟩
    · rename_i z
      obtain ⟨t, ht⟩ := str_ok kin G c
      exact ⟨.str z, _, ht, ⟨t, rfl⟩, fun c H => .str z⟩
    · rename_i kvs
      obtain ⟨c1, c2⟩ := ba c
      refine ⟨.ref (ga g.K r.1), _, hglo c1, rfl, fun c H => .kd (kdB_ok c2 ?_)⟩
      have hm : (r.1, kvs.map fun p => match p.1 with | .str z => z | _ => "") ∈ kdTabs P := by
        unfold kdTabs
        rw [List.mem_filterMap]
        exact ⟨r, r1, by rw [er]; rfl⟩
      obtain ⟨i, hi⟩ := List.mem_iff_getElem?.mp hm
      have z : ((kdTabs P).map (fun t => dicW g.K (ga g.K t.1)))[i]? = ((kdTabs P).map fun t => some (keysIn g.w.params t.2))[i]? := by rw [e3]
      rw [List.getElem?_map, List.getElem?_map, hi] at z
      exact dicW_ok (Option.some.inj z)
    · rename_i ds
      unfold glB at c
      simp only [Bool.and_eq_true] at c
      exact ⟨.ref (ga g.K r.1), _, hglo c.1.1, rfl, fun cw H => .kt (ktB_ok c.2) c.1.2 (flat_all c.1.2)⟩
  · obtain ⟨r, r1, r2⟩ := mem_of_any q
    simp only [Bool.and_eq_true, decide_eq_true_eq] at r2
    obtain ⟨⟨rfl, rfl⟩, rfl⟩ := r2
    have c := b7 r r1
    unfold ccB at c
    simp only [Bool.and_eq_true] at c
    obtain ⟨⟨⟨⟨c1, c2⟩, c3⟩, c4⟩, c5⟩ := c
    split at c5
    · rename_i u hu
      refine ⟨_, _, flatV r.2, u, hglo c1, ⟨c2, eqO_ok c3⟩, ⟨hu, relB_ok c5⟩, fun cw H => ?_⟩
      cases er : r.2 <;> rw [er] at c4 <;> first | exact .non | exact .bl _ | exact .int _ | exact .str _ | cases c4
    · cases c5
  · refine ⟨fun C f A q hA => ?_, fun C A n q hA hn => ?_, fun C A n q hA hn => ?_, fun C D A B q1 q2 hA hB => ?_⟩
    · obtain ⟨r, r1, r2⟩ := mem_of_any q
      simp only [Bool.and_eq_true, decide_eq_true_eq] at r2
      obtain ⟨rfl, r3⟩ := r2
      obtain ⟨f', f1, f2⟩ := mem_of_any r3
      rw [decide_eq_true_eq] at f2
      subst f2
      obtain ⟨⟨⟨c1, c2⟩, c3⟩, c4⟩ := b8 r r1
      rw [hglo c1] at hA
      cases hA
      exact noat_ok (c2 f' f1)
    · obtain ⟨r, r1, r2⟩ := mem_of_any q
      rw [decide_eq_true_eq] at r2
      subst r2
      obtain ⟨⟨⟨c1, c2⟩, c3⟩, c4⟩ := b8 r r1
      rw [hglo c1] at hA
      cases hA
      exact (c3 n hn).1
    · obtain ⟨r, r1, r2⟩ := mem_of_any q
      rw [decide_eq_true_eq] at r2
      subst r2
      obtain ⟨⟨⟨c1, c2⟩, c3⟩, c4⟩ := b8 r r1
      rw [hglo c1] at hA
      cases hA
      exact (c3 n hn).2
    · obtain ⟨r, r1, r2⟩ := mem_of_any q1
      rw [decide_eq_true_eq] at r2
      subst r2
      obtain ⟨r', r1', r2'⟩ := mem_of_any q2
      rw [decide_eq_true_eq] at r2'
      subst r2'
      obtain ⟨⟨⟨c1, c2⟩, c3⟩, c4⟩ := b8 r r1
      obtain ⟨⟨⟨c1', _⟩, _⟩, _⟩ := b8 r' r1'
      rw [hglo c1] at hA
      rw [hglo c1'] at hB
      cases hA
      cases hB
      exact c4 r' r1'
  · obtain ⟨r, r1, r2⟩ := mem_of_any q
    rw [decide_eq_true_eq] at r2
    subst r2
    obtain ⟨⟨⟨c1, c2⟩, c3⟩, c4⟩ := b8 r r1
    exact ⟨_, hglo c1⟩
  · have : n ∈ P.G.bn := by simpa using q
    exact free_ok kin G (b9 n this)
end PL

set_option Elab.async false
set_option linter.all false
set_option maxRecDepth 100000
set_option autoImplicit false
set_option maxHeartbeats 4000000
namespace PL
open PySem L2
/-! ### evaluation, step by step: equations for rewriting -/
section
variable {α β : Type}
@[simp] theorem st_ok' (a : α) (S : Sto) (ρ : Ro) (k : α → Sto → RSt) : (Res.ok a S).st ρ k = k a S := by rw [Res.st]
@[simp] theorem st_ex' (x : Exn) (S : Sto) (ρ : Ro) (k : α → Sto → RSt) : (Res.ex x S : Res α).st ρ k = .ex x ρ S := by rw [Res.st]
@[simp] theorem sq_nx' (ρ : Ro) (S : Sto) (k : Ro → Sto → RSt) : (RSt.nx ρ S).sq k = k ρ S := by rw [RSt.sq]
@[simp] theorem sq_rt' (d : Dat) (S : Sto) (k : Ro → Sto → RSt) : (RSt.rt d S).sq k = .rt d S := by rw [RSt.sq] <;> simp
@[simp] theorem sq_bk' (ρ : Ro) (S : Sto) (k : Ro → Sto → RSt) : (RSt.bk ρ S).sq k = .bk ρ S := by rw [RSt.sq] <;> simp
@[simp] theorem sq_ct' (ρ : Ro) (S : Sto) (k : Ro → Sto → RSt) : (RSt.ct ρ S).sq k = .ct ρ S := by rw [RSt.sq] <;> simp
@[simp] theorem sq_ex' (x : Exn) (ρ : Ro) (S : Sto) (k : Ro → Sto → RSt) : (RSt.ex x ρ S).sq k = .ex x ρ S := by rw [RSt.sq] <;> simp
theorem bnd_ext {r : Res α} {k k' : α → Sto → Res β} (h : ∀ a S, k a S = k' a S) : r.bnd k = r.bnd k' := by
  cases r <;> simp [Res.bnd, h]
theorem st_ext {r : Res α} {ρ : Ro} {k k' : α → Sto → RSt} (h : ∀ a S, k a S = k' a S) : r.st ρ k = r.st ρ k' := by
  cases r <;> simp [Res.st, h]
def rv (o : Option (Option Dat)) (S : Sto) : Res Dat := match o with
  | some (some d) => .ok d S
  | _ => .bad
@[simp] theorem rv_some (d : Dat) (S : Sto) : rv (some (some d)) S = .ok d S := by rw [rv]
def chn (Φ : Fe) (q : CmpOp) (c : E) (ρ : Ro) (y z : Dat) (S : Sto) : Res Dat := match z with
  | .bool true => (evE Φ c ρ S).bnd fun u S4 => ofP (cmpop q S4 y u)
  | .bool false => .ok (.bool false) S
  | _ => .bad
def kchn (q : CmpOp) (y u : Dat) (S : Sto) : Res Dat := ofP (cmpop q S y u)
@[simp] theorem kchn_ap (q : CmpOp) (y u : Dat) (S : Sto) : kchn q y u S = ofP (cmpop q S y u) := by rw [kchn]
@[simp] theorem chn_true (Φ : Fe) (q : CmpOp) (c : E) (ρ : Ro) (y : Dat) (S : Sto) : chn Φ q c ρ y (.bool true) S = (evE Φ c ρ S).bnd (kchn q y) := by rw [chn] <;> rfl
@[simp] theorem chn_false (Φ : Fe) (q : CmpOp) (c : E) (ρ : Ro) (y : Dat) (S : Sto) : chn Φ q c ρ y (.bool false) S = .ok (.bool false) S := by rw [chn]
theorem chn_bool (Φ : Fe) (q : CmpOp) (c : E) (ρ : Ro) (y : Dat) (b : Bool) (S : Sto) : chn Φ q c ρ y (.bool b) S = if b = true then (evE Φ c ρ S).bnd (kchn q y) else .ok (.bool false) S := by cases b <;> simp
def apD (o : Option (List Dat)) (k : Fun) (S : Sto) : Res Dat := match o with
  | some ds => k ds S
  | none => .bad
@[simp] theorem apD_some (ds : List Dat) (k : Fun) (S : Sto) : apD (some ds) k S = k ds S := by rw [apD]
def apX (x : Dat) (o : Option (List Dat)) (k : Fun) (S : Sto) : Res Dat := match o with
  | some ds => k (x :: ds) S
  | none => .bad
@[simp] theorem apX_some (x : Dat) (ds : List Dat) (k : Fun) (S : Sto) : apX x (some ds) k S = k (x :: ds) S := by rw [apX]
def insG {α : Type} (x : Dat) (C : Str) (S : Sto) (r : Res α) : Res α := if isInst S x C then r else .bad
theorem insG_ok {α : Type} {x : Dat} {C : Str} {S : Sto} {r : Res α} (h : isInst S x C = true) : insG x C S r = r := by rw [insG, h]; rfl
def bmG {α : Type} (b : Bm) (x : Dat) (S : Sto) (r : Res α) : Res α := if bmT b S x then r else .bad
def isiR (Φ : Fe) (ts : List Ty) (x : Dat) (S : Sto) : Res Dat := ofB ((ts.mapM (isTy Φ.ct S x)).map fun bs => .bool (bs.any id)) S
def fsR (ds : List Dat) (S : Sto) : Res Dat := ofB ((ds.mapM fmtD).bind fun xs => if (xs.map (·.length)).sum ≤ sizeLine then some (.str (catS Str.empty xs)) else none) S
def enQ (q : List Dat × List Nat) : List Dat × List Nat := (enumD q.1, q.2)
@[simp] theorem enQ_ap (xs : List Dat) (ks : List Nat) : enQ (xs, ks) = (enumD xs, ks) := by rw [enQ]
def keysQ (kvs : List (Dat × Dat)) : List Dat × List Nat := (kvs.map (·.1), [])
def itemsQ (kvs : List (Dat × Dat)) : List Dat × List Nat := (kvs.map fun p => .tuple [p.1, p.2], [])
def valsQ (kvs : List (Dat × Dat)) : List Dat × List Nat := (kvs.map (·.2), [])
@[simp] theorem keysQ_ap (kvs : List (Dat × Dat)) : keysQ kvs = (kvs.map (·.1), []) := by rw [keysQ]
@[simp] theorem itemsQ_ap (kvs : List (Dat × Dat)) : itemsQ kvs = (kvs.map fun p => .tuple [p.1, p.2], []) := by rw [itemsQ]
@[simp] theorem valsQ_ap (kvs : List (Dat × Dat)) : valsQ kvs = (kvs.map (·.2), []) := by rw [valsQ]
def lenR (d : Dat) (S : Sto) : Res Dat := match d with
  | .int i => if 0 ≤ i ∧ i < 2 ^ 63 then .ok (.int i) S else .bad
  | _ => .bad
@[simp] theorem lenR_int (i : Int) (S : Sto) : lenR (.int i) S = if 0 ≤ i ∧ i < 2 ^ 63 then .ok (.int i) S else .bad := by rw [lenR]
def intR (d : Dat) (S : Sto) : Res (Option Int) := match d with
  | .int i => .ok (some i) S
  | _ => .bad
@[simp] theorem intR_int (i : Int) (S : Sto) : intR (.int i) S = .ok (some i) S := by rw [intR]
def dictOf : Dat → Option (List (Dat × Dat))
  | .dict kvs => some kvs
  | _ => none
@[simp] theorem dictOf_dict (kvs : List (Dat × Dat)) : dictOf (.dict kvs) = some kvs := by rw [dictOf]
def nxR (o : Option Ro) (S : Sto) : RSt := match o with
  | some ρ => .nx ρ S
  | none => .bad
@[simp] theorem nxR_some (ρ : Ro) (S : Sto) : nxR (some ρ) S = .nx ρ S := by rw [nxR]
def par2R (i j : Nat) (ds : List Dat) (ρ : Ro) (S : Sto) : RSt := match ds with
  | [x, y] => .nx ((ρ.set i (some x)).set j (some y)) S
  | _ => .bad
@[simp] theorem par2R_two (i j : Nat) (x y : Dat) (ρ : Ro) (S : Sto) : par2R i j [x, y] ρ S = .nx ((ρ.set i (some x)).set j (some y)) S := by rw [par2R]
def par3R (i j l : Nat) (ds : List Dat) (ρ : Ro) (S : Sto) : RSt := match ds with
  | [x, y, z] => .nx (((ρ.set i (some x)).set j (some y)).set l (some z)) S
  | _ => .bad
@[simp] theorem par3R_three (i j l : Nat) (x y z : Dat) (ρ : Ro) (S : Sto) : par3R i j l [x, y, z] ρ S = .nx (((ρ.set i (some x)).set j (some y)).set l (some z)) S := by rw [par3R]
@[simp] theorem ofB_some' (a : α) (S : Sto) : ofB (some a) S = .ok a S := by rw [ofB]
@[simp] theorem ofB_none' (S : Sto) : ofB (none : Option α) S = .bad := by rw [ofB]
@[simp] theorem ofS_some' (S : Sto) (ρ : Ro) : ofS (some S) ρ = .nx ρ S := by rw [ofS]
end
def kee_bin1 (o : Bool) (op : Operator) (x : Dat) (y : Dat) (S : Sto) : Res Dat := ofP (binop o op S x y)
def kee_bin0 (Φ : Fe) (b : E) (ρ : Ro) (o : Bool) (op : Operator) (x : Dat) (S : Sto) : Res Dat := (evE Φ b ρ S).bnd (kee_bin1 o op x)
def kee_neg0  (x : Dat) (S : Sto) : Res Dat := ofP (opNeg S x)
def kee_cmp1 (cop : CmpOp) (x : Dat) (y : Dat) (S : Sto) : Res Dat := ofP (cmpop cop S x y)
def kee_cmp0 (Φ : Fe) (b : E) (ρ : Ro) (cop : CmpOp) (x : Dat) (S : Sto) : Res Dat := (evE Φ b ρ S).bnd (kee_cmp1 cop x)
def kee_chain2 (Φ : Fe) (q : CmpOp) (c : E) (ρ : Ro) (y : Dat) (z : Dat) (S : Sto) : Res Dat := chn Φ q c ρ y z S
def kee_chain1 (p : CmpOp) (x : Dat) (Φ : Fe) (q : CmpOp) (c : E) (ρ : Ro) (y : Dat) (S : Sto) : Res Dat := (ofP (cmpop p S x y)).bnd (kee_chain2 Φ q c ρ y)
def kee_chain0 (Φ : Fe) (b : E) (ρ : Ro) (p : CmpOp) (q : CmpOp) (c : E) (x : Dat) (S : Sto) : Res Dat := (evE Φ b ρ S).bnd (kee_chain1 p x Φ q c ρ)
def kee_and1 (Φ : Fe) (b : E) (ρ : Ro) (x : Dat) (bb : Bool) (S : Sto) : Res Dat := if bb then evE Φ b ρ S else .ok x S
def kee_and0 (Φ : Fe) (b : E) (ρ : Ro) (x : Dat) (S : Sto) : Res Dat := (ofB (truth S x) S).bnd (kee_and1 Φ b ρ x)
def kee_or1 (x : Dat) (Φ : Fe) (b : E) (ρ : Ro) (bb : Bool) (S : Sto) : Res Dat := if bb then .ok x S else evE Φ b ρ S
def kee_or0 (Φ : Fe) (b : E) (ρ : Ro) (x : Dat) (S : Sto) : Res Dat := (ofB (truth S x) S).bnd (kee_or1 x Φ b ρ)
def kee_not1  (bb : Bool) (S : Sto) : Res Dat := .ok (.bool (!bb)) S
def kee_not0  (x : Dat) (S : Sto) : Res Dat := (ofB (truth S x) S).bnd kee_not1
def kee_ife0 (Φ : Fe) (a : E) (ρ : Ro) (b : E) (bb : Bool) (S : Sto) : Res Dat := if bb then evE Φ a ρ S else evE Φ b ρ S
def kee_tup0  (xs : List Dat) (S : Sto) : Res Dat := ofP (newT xs S)
def kee_lst0 (o : Bool) (xs : List Dat) (S : Sto) : Res Dat := ofP (newL o xs S)
def kee_dic0 (kd : List Dat) (o : Bool) (xs : List Dat) (S : Sto) : Res Dat := if kd.length = xs.length then ofP (newD o (dputs [] (kd.zip xs)) S) else .bad
def kee_idx1 (x : Dat) (y : Dat) (S : Sto) : Res Dat := ofP (atD S x y)
def kee_idx0 (Φ : Fe) (b : E) (ρ : Ro) (x : Dat) (S : Sto) : Res Dat := (evE Φ b ρ S).bnd (kee_idx1 x)
def kee_sl2 (o : Bool) (x : Dat) (lw : Option Int) (hw : Option Int) (S : Sto) : Res Dat := ofP (sliceD o S x lw hw)
def kee_sl1 (Φ : Fe) (hi : Eo) (ρ : Ro) (o : Bool) (x : Dat) (lw : Option Int) (S : Sto) : Res Dat := (evO Φ hi ρ S).bnd (kee_sl2 o x lw)
def kee_sl0 (Φ : Fe) (lo : Eo) (ρ : Ro) (hi : Eo) (o : Bool) (x : Dat) (S : Sto) : Res Dat := (evO Φ lo ρ S).bnd (kee_sl1 Φ hi ρ o x)
def kee_rev0 (o : Bool) (x : Dat) (S : Sto) : Res Dat := ofP (revD o S x)
def kee_fld0 (f : Str) (x : Dat) (S : Sto) : Res Dat := ofP (fldD S x f)
def kee_isi0 (Φ : Fe) (ts : List Ty) (x : Dat) (S : Sto) : Res Dat := isiR Φ ts x S
def kee_bi0 (bi : Bi) (o : Bool) (xs : List Dat) (S : Sto) : Res Dat := ofP (biD bi o S xs)
def kee_bm1 (bm : Bm) (x : Dat) (xs : List Dat) (S : Sto) : Res Dat := ofP (bmD bm S x xs)
def kee_bm0 (bm : Bm) (Φ : Fe) (as : As) (ρ : Ro) (x : Dat) (S : Sto) : Res Dat := (bmG bm x S (evA Φ as ρ S)).bnd (kee_bm1 bm x)
def kee_call1 (ar : Ar) (xs : List Dat) (Φ : Fe) (f : Str) (ys : List Dat) (S : Sto) : Res Dat := apD (arD ar xs ys) (Φ.call f) S
def kee_call0 (Φ : Fe) (ks : As) (ρ : Ro) (ar : Ar) (f : Str) (xs : List Dat) (S : Sto) : Res Dat := (evA Φ ks ρ S).bnd (kee_call1 ar xs Φ f)
def kee_make1 (ar : Ar) (xs : List Dat) (Φ : Fe) (C : Str) (f : Str) (ys : List Dat) (S : Sto) : Res Dat := apD (arD ar xs ys) (Φ.make C f) S
def kee_make0 (Φ : Fe) (ks : As) (ρ : Ro) (ar : Ar) (C : Str) (f : Str) (xs : List Dat) (S : Sto) : Res Dat := (evA Φ ks ρ S).bnd (kee_make1 ar xs Φ C f)
def kee_meth2 (x : Dat) (ar : Ar) (xs : List Dat) (Φ : Fe) (f : Str) (ys : List Dat) (S : Sto) : Res Dat := apX x (arD ar xs ys) (Φ.call f) S
def kee_meth1 (Φ : Fe) (ks : As) (ρ : Ro) (x : Dat) (ar : Ar) (f : Str) (xs : List Dat) (S : Sto) : Res Dat := (evA Φ ks ρ S).bnd (kee_meth2 x ar xs Φ f)
def kee_meth0 (C : Str) (Φ : Fe) (as : As) (ρ : Ro) (ks : As) (ar : Ar) (f : Str) (x : Dat) (S : Sto) : Res Dat := (insG x C S (evA Φ as ρ S)).bnd (kee_meth1 Φ ks ρ x ar f)
def kee_prop0 (C : Str) (Φ : Fe) (f : Str) (x : Dat) (S : Sto) : Res Dat := if isInst S x C then noEx (Φ.call f [x] S) else .bad
def kee_getI1 (x : Dat) (C : Str) (Φ : Fe) (f : Str) (y : Dat) (S : Sto) : Res Dat := if isInst S x C then Φ.call f [x, y] S else .bad
def kee_getI0 (Φ : Fe) (b : E) (ρ : Ro) (C : Str) (f : Str) (x : Dat) (S : Sto) : Res Dat := (evE Φ b ρ S).bnd (kee_getI1 x C Φ f)
def kee_cont2 (n : Bool) (d : Dat) (S : Sto) : Res Dat := mBoolF n d S
def kee_cont1 (C : Str) (Φ : Fe) (f : Str) (x : Dat) (n : Bool) (y : Dat) (S : Sto) : Res Dat := (insG y C S (Φ.call f [y, x] S)).bnd (kee_cont2 n)
def kee_cont0 (Φ : Fe) (b : E) (ρ : Ro) (C : Str) (f : Str) (n : Bool) (x : Dat) (S : Sto) : Res Dat := (evE Φ b ρ S).bnd (kee_cont1 C Φ f x n)
def kee_lenO1  (d : Dat) (S : Sto) : Res Dat := lenR d S
def kee_lenO0 (C : Str) (Φ : Fe) (f : Str) (x : Dat) (S : Sto) : Res Dat := (insG x C S (Φ.call f [x] S)).bnd kee_lenO1
def kee_strO0 (C : Str) (Φ : Fe) (f : Str) (x : Dat) (S : Sto) : Res Dat := if isInst S x C then noEx (Φ.call f [x] S) else .bad
def kee_eqO2 (n : Bool) (d : Dat) (S : Sto) : Res Dat := mBoolF n d S
def kee_eqO1 (x : Dat) (C : Str) (Φ : Fe) (f : Str) (n : Bool) (y : Dat) (S : Sto) : Res Dat := (insG x C S (Φ.call f [x, y] S)).bnd (kee_eqO2 n)
def kee_eqO0 (Φ : Fe) (b : E) (ρ : Ro) (C : Str) (f : Str) (n : Bool) (x : Dat) (S : Sto) : Res Dat := (evE Φ b ρ S).bnd (kee_eqO1 x C Φ f n)
def kee_lc1 (o : Bool) (ys : List Dat) (S : Sto) : Res Dat := ofP (newL o ys S)
def kee_lc0 (pt : Pat) (Φ : Fe) (t : T) (e : E) (ρ : Ro) (vs : List Nat) (o : Bool) (It : List Dat × List Nat) (S : Sto) : Res Dat := (mLcL pt (evT Φ t) (evE Φ e) It.2 S It.1 (wipeE ρ vs) S []).bnd (kee_lc1 o)
def kee_lc21 (o : Bool) (ys : List Dat) (S : Sto) : Res Dat := ofP (newL o ys S)
def kee_lc20 (pt : Pat) (Φ : Fe) (t : T) (it1 : It_) (pt1 : Pat) (t1 : T) (e : E) (vs1 : List Nat) (ρ : Ro) (vs : List Nat) (o : Bool) (It : List Dat × List Nat) (S : Sto) : Res Dat := (mLc2L pt (evT Φ t) (evI Φ it1) pt1 (evT Φ t1) (evE Φ e) vs1 It.2 S It.1 (wipeE ρ vs) S []).bnd (kee_lc21 o)
def kee_dc1 (o : Bool) (kvs : List (Dat × Dat)) (S : Sto) : Res Dat := ofP (newD o kvs S)
def kee_dc0 (pt : Pat) (Φ : Fe) (t : T) (kk : E) (e : E) (ρ : Ro) (vs : List Nat) (o : Bool) (It : List Dat × List Nat) (S : Sto) : Res Dat := (mDcL pt (evT Φ t) (evE Φ kk) (evE Φ e) It.2 S It.1 (wipeE ρ vs) S []).bnd (kee_dc1 o)
def kee_fs0  (xs : List Dat) (S : Sto) : Res Dat := fsR xs S
def ket_tru0  (x : Dat) (S : Sto) : Res Bool := ofB (truth S x) S
def ket_and0 (Φ : Fe) (tc : T) (ρ : Ro) (bb : Bool) (S : Sto) : Res Bool := if bb then evT Φ tc ρ S else .ok false S
def ket_or0 (Φ : Fe) (tc : T) (ρ : Ro) (bb : Bool) (S : Sto) : Res Bool := if bb then .ok true S else evT Φ tc ρ S
def ket_not0  (bb : Bool) (S : Sto) : Res Bool := .ok (!bb) S
def kea_cons1 (x : Dat) (xs : List Dat) (S : Sto) : Res (List Dat) := .ok (x :: xs) S
def kea_cons0 (Φ : Fe) (r : As) (ρ : Ro) (x : Dat) (S : Sto) : Res (List Dat) := (evA Φ r ρ S).bnd (kea_cons1 x)
def kea_star2 (ys : List Dat) (xs : List Dat) (S : Sto) : Res (List Dat) := .ok (ys ++ xs) S
def kea_star1 (Φ : Fe) (r : As) (ρ : Ro) (ys : List Dat) (S : Sto) : Res (List Dat) := (evA Φ r ρ S).bnd (kea_star2 ys)
def kea_star0 (Φ : Fe) (r : As) (ρ : Ro) (x : Dat) (S : Sto) : Res (List Dat) := (ofB (seqOf S x) S).bnd (kea_star1 Φ r ρ)
def keo_so0  (d : Dat) (S : Sto) : Res (Option Int) := intR d S
def kei_seq0  (d : Dat) (S : Sto) : Res (List Dat × List Nat) := ofB (itemsM S d) S
def kei_en0  (d : Dat) (S : Sto) : Res (List Dat × List Nat) := ofB ((itemsL S d).map enQ) S
def kei_rng10  (d : Dat) (S : Sto) : Res (List Dat × List Nat) := ofB (rng1D [d]) S
def kei_rng21 (x : Dat) (y : Dat) (S : Sto) : Res (List Dat × List Nat) := ofB (rng2D [x, y]) S
def kei_rng20 (Φ : Fe) (b : E) (ρ : Ro) (x : Dat) (S : Sto) : Res (List Dat × List Nat) := (evE Φ b ρ S).bnd (kei_rng21 x)
def kei_zip1 (x : Dat) (y : Dat) (S : Sto) : Res (List Dat × List Nat) := ofB (zip2D [x, y]) S
def kei_zip0 (Φ : Fe) (b : E) (ρ : Ro) (x : Dat) (S : Sto) : Res (List Dat × List Nat) := (evE Φ b ρ S).bnd (kei_zip1 x)
def kei_keys0  (d : Dat) (S : Sto) : Res (List Dat × List Nat) := ofB ((dictOf d).map keysQ) S
def kei_items0  (d : Dat) (S : Sto) : Res (List Dat × List Nat) := ofB ((dictOf d).map itemsQ) S
def kei_vals0  (d : Dat) (S : Sto) : Res (List Dat × List Nat) := ofB ((dictOf d).map valsQ) S
def kes_ret0  (d : Dat) (S : Sto) : RSt := .rt d S
def kes_expr0 (ρ : Ro) (d : Dat) (S : Sto) : RSt := .nx ρ S
def kes_set0 (ρ : Ro) (i : Nat) (d : Dat) (S : Sto) : RSt := .nx (ρ.set i (some d)) S
def kes_pat0 (pt : Pat) (ρ : Ro) (d : Dat) (S : Sto) : RSt := nxR (bindP pt d ρ) S
def kes_par20 (i : Nat) (j : Nat) (ρ : Ro) (xs : List Dat) (S : Sto) : RSt := par2R i j xs ρ S
def kes_par30 (i : Nat) (j : Nat) (l : Nat) (ρ : Ro) (xs : List Dat) (S : Sto) : RSt := par3R i j l xs ρ S
def kes_setF1 (Φ : Fe) (f : Str) (v : Dat) (ρ : Ro) (x : Dat) (S : Sto) : RSt := ofS (setFldD Φ.ct S x f v) ρ
def kes_setF0 (Φ : Fe) (a : E) (ρ : Ro) (f : Str) (v : Dat) (S : Sto) : RSt := (evE Φ a ρ S).st ρ (kes_setF1 Φ f v ρ)
def kes_setI2 (x : Dat) (v : Dat) (ρ : Ro) (y : Dat) (S : Sto) : RSt := ofS (setAtD S x y v) ρ
def kes_setI1 (Φ : Fe) (b : E) (ρ : Ro) (v : Dat) (x : Dat) (S : Sto) : RSt := (evE Φ b ρ S).st ρ (kes_setI2 x v ρ)
def kes_setI0 (Φ : Fe) (a : E) (ρ : Ro) (b : E) (v : Dat) (S : Sto) : RSt := (evE Φ a ρ S).st ρ (kes_setI1 Φ b ρ v)
def kes_ite0 (Φ : Fe) (b1 : Ss) (ρ : Ro) (b2 : Ss) (bb : Bool) (S : Sto) : RSt := if bb then evSs Φ b1 ρ S else evSs Φ b2 ρ S
def kes_for0 (pt : Pat) (Φ : Fe) (b1 : Ss) (b2 : Ss) (ρ : Ro) (It : List Dat × List Nat) (S : Sto) : RSt := mLoop pt (evSs Φ b1) (evSs Φ b2) It.2 S It.1 ρ S
def kes_augV2 (ρ : Ro) (i : Nat) (z : Dat) (S : Sto) : RSt := .nx (ρ.set i (some z)) S
def kes_augV1 (op : Operator) (x : Dat) (ρ : Ro) (i : Nat) (y : Dat) (S : Sto) : RSt := (ofP (binop false op S x y)).st ρ (kes_augV2 ρ i)
def kes_augV0 (Φ : Fe) (e : E) (ρ : Ro) (op : Operator) (i : Nat) (x : Dat) (S : Sto) : RSt := (evE Φ e ρ S).st ρ (kes_augV1 op x ρ i)
@[simp] theorem ee_var (Φ : Fe) (i : Nat) (ρ : Ro) (S : Sto) : evE Φ (.var i) ρ S = rv ρ[i]? S := by rw [evE] <;> rfl
@[simp] theorem ee_con (Φ : Fe) (d : Dat) (ρ : Ro) (S : Sto) : evE Φ (.con d) ρ S = .ok d S := by rw [evE] <;> rfl
@[simp] theorem ee_glob (Φ : Fe) (f : Str) (d : Dat) (ρ : Ro) (S : Sto) : evE Φ (.glob f d) ρ S = .ok d S := by rw [evE] <;> rfl
@[simp] theorem ee_ccon (Φ : Fe) (C : Str) (f : Str) (d : Dat) (ρ : Ro) (S : Sto) : evE Φ (.ccon C f d) ρ S = .ok d S := by rw [evE] <;> rfl
@[simp] theorem kee_bin1_ap (o : Bool) (op : Operator) (x : Dat) (y : Dat) (S : Sto) : kee_bin1 o op x y S = ofP (binop o op S x y) := by rw [kee_bin1]
@[simp] theorem kee_bin0_ap (Φ : Fe) (b : E) (ρ : Ro) (o : Bool) (op : Operator) (x : Dat) (S : Sto) : kee_bin0 Φ b ρ o op x S = (evE Φ b ρ S).bnd (kee_bin1 o op x) := by rw [kee_bin0]
@[simp] theorem ee_bin (Φ : Fe) (o : Bool) (op : Operator) (a : E) (b : E) (ρ : Ro) (S : Sto) : evE Φ (.bin o op a b) ρ S = (evE Φ a ρ S).bnd (kee_bin0 Φ b ρ o op) := by rw [evE] <;> rfl
@[simp] theorem kee_neg0_ap  (x : Dat) (S : Sto) : kee_neg0 x S = ofP (opNeg S x) := by rw [kee_neg0]
@[simp] theorem ee_neg (Φ : Fe) (a : E) (ρ : Ro) (S : Sto) : evE Φ (.neg a) ρ S = (evE Φ a ρ S).bnd kee_neg0 := by rw [evE] <;> rfl
@[simp] theorem kee_cmp1_ap (cop : CmpOp) (x : Dat) (y : Dat) (S : Sto) : kee_cmp1 cop x y S = ofP (cmpop cop S x y) := by rw [kee_cmp1]
@[simp] theorem kee_cmp0_ap (Φ : Fe) (b : E) (ρ : Ro) (cop : CmpOp) (x : Dat) (S : Sto) : kee_cmp0 Φ b ρ cop x S = (evE Φ b ρ S).bnd (kee_cmp1 cop x) := by rw [kee_cmp0]
@[simp] theorem ee_cmp (Φ : Fe) (cop : CmpOp) (a : E) (b : E) (ρ : Ro) (S : Sto) : evE Φ (.cmp cop a b) ρ S = (evE Φ a ρ S).bnd (kee_cmp0 Φ b ρ cop) := by rw [evE] <;> rfl
@[simp] theorem kee_chain2_ap (Φ : Fe) (q : CmpOp) (c : E) (ρ : Ro) (y : Dat) (z : Dat) (S : Sto) : kee_chain2 Φ q c ρ y z S = chn Φ q c ρ y z S := by rw [kee_chain2]
@[simp] theorem kee_chain1_ap (p : CmpOp) (x : Dat) (Φ : Fe) (q : CmpOp) (c : E) (ρ : Ro) (y : Dat) (S : Sto) : kee_chain1 p x Φ q c ρ y S = (ofP (cmpop p S x y)).bnd (kee_chain2 Φ q c ρ y) := by rw [kee_chain1]
@[simp] theorem kee_chain0_ap (Φ : Fe) (b : E) (ρ : Ro) (p : CmpOp) (q : CmpOp) (c : E) (x : Dat) (S : Sto) : kee_chain0 Φ b ρ p q c x S = (evE Φ b ρ S).bnd (kee_chain1 p x Φ q c ρ) := by rw [kee_chain0]
@[simp] theorem ee_chain (Φ : Fe) (p : CmpOp) (q : CmpOp) (a : E) (b : E) (c : E) (ρ : Ro) (S : Sto) : evE Φ (.chain p q a b c) ρ S = (evE Φ a ρ S).bnd (kee_chain0 Φ b ρ p q c) := by rw [evE] <;> rfl
@[simp] theorem kee_and1_ap (Φ : Fe) (b : E) (ρ : Ro) (x : Dat) (bb : Bool) (S : Sto) : kee_and1 Φ b ρ x bb S = if bb then evE Φ b ρ S else .ok x S := by rw [kee_and1]
@[simp] theorem kee_and0_ap (Φ : Fe) (b : E) (ρ : Ro) (x : Dat) (S : Sto) : kee_and0 Φ b ρ x S = (ofB (truth S x) S).bnd (kee_and1 Φ b ρ x) := by rw [kee_and0]
@[simp] theorem ee_and (Φ : Fe) (a : E) (b : E) (ρ : Ro) (S : Sto) : evE Φ (.andE a b) ρ S = (evE Φ a ρ S).bnd (kee_and0 Φ b ρ) := by rw [evE] <;> rfl
@[simp] theorem kee_or1_ap (x : Dat) (Φ : Fe) (b : E) (ρ : Ro) (bb : Bool) (S : Sto) : kee_or1 x Φ b ρ bb S = if bb then .ok x S else evE Φ b ρ S := by rw [kee_or1]
@[simp] theorem kee_or0_ap (Φ : Fe) (b : E) (ρ : Ro) (x : Dat) (S : Sto) : kee_or0 Φ b ρ x S = (ofB (truth S x) S).bnd (kee_or1 x Φ b ρ) := by rw [kee_or0]
@[simp] theorem ee_or (Φ : Fe) (a : E) (b : E) (ρ : Ro) (S : Sto) : evE Φ (.orE a b) ρ S = (evE Φ a ρ S).bnd (kee_or0 Φ b ρ) := by rw [evE] <;> rfl
@[simp] theorem kee_not1_ap  (bb : Bool) (S : Sto) : kee_not1 bb S = .ok (.bool (!bb)) S := by rw [kee_not1]
@[simp] theorem kee_not0_ap  (x : Dat) (S : Sto) : kee_not0 x S = (ofB (truth S x) S).bnd kee_not1 := by rw [kee_not0]
@[simp] theorem ee_not (Φ : Fe) (a : E) (ρ : Ro) (S : Sto) : evE Φ (.notE a) ρ S = (evE Φ a ρ S).bnd kee_not0 := by rw [evE] <;> rfl
@[simp] theorem kee_ife0_ap (Φ : Fe) (a : E) (ρ : Ro) (b : E) (bb : Bool) (S : Sto) : kee_ife0 Φ a ρ b bb S = if bb then evE Φ a ρ S else evE Φ b ρ S := by rw [kee_ife0]
@[simp] theorem ee_ife (Φ : Fe) (t : T) (a : E) (b : E) (ρ : Ro) (S : Sto) : evE Φ (.ife t a b) ρ S = (evT Φ t ρ S).bnd (kee_ife0 Φ a ρ b) := by rw [evE] <;> rfl
@[simp] theorem kee_tup0_ap  (xs : List Dat) (S : Sto) : kee_tup0 xs S = ofP (newT xs S) := by rw [kee_tup0]
@[simp] theorem ee_tup (Φ : Fe) (as : As) (ρ : Ro) (S : Sto) : evE Φ (.tup as) ρ S = (evA Φ as ρ S).bnd kee_tup0 := by rw [evE] <;> rfl
@[simp] theorem kee_lst0_ap (o : Bool) (xs : List Dat) (S : Sto) : kee_lst0 o xs S = ofP (newL o xs S) := by rw [kee_lst0]
@[simp] theorem ee_lst (Φ : Fe) (o : Bool) (as : As) (ρ : Ro) (S : Sto) : evE Φ (.lst o as) ρ S = (evA Φ as ρ S).bnd (kee_lst0 o) := by rw [evE] <;> rfl
@[simp] theorem kee_dic0_ap (kd : List Dat) (o : Bool) (xs : List Dat) (S : Sto) : kee_dic0 kd o xs S = if kd.length = xs.length then ofP (newD o (dputs [] (kd.zip xs)) S) else .bad := by rw [kee_dic0]
@[simp] theorem ee_dic (Φ : Fe) (o : Bool) (kd : List Dat) (as : As) (ρ : Ro) (S : Sto) : evE Φ (.dic o kd as) ρ S = (evA Φ as ρ S).bnd (kee_dic0 kd o) := by rw [evE] <;> rfl
@[simp] theorem kee_idx1_ap (x : Dat) (y : Dat) (S : Sto) : kee_idx1 x y S = ofP (atD S x y) := by rw [kee_idx1]
@[simp] theorem kee_idx0_ap (Φ : Fe) (b : E) (ρ : Ro) (x : Dat) (S : Sto) : kee_idx0 Φ b ρ x S = (evE Φ b ρ S).bnd (kee_idx1 x) := by rw [kee_idx0]
@[simp] theorem ee_idx (Φ : Fe) (a : E) (b : E) (ρ : Ro) (S : Sto) : evE Φ (.idx a b) ρ S = (evE Φ a ρ S).bnd (kee_idx0 Φ b ρ) := by rw [evE] <;> rfl
@[simp] theorem kee_sl2_ap (o : Bool) (x : Dat) (lw : Option Int) (hw : Option Int) (S : Sto) : kee_sl2 o x lw hw S = ofP (sliceD o S x lw hw) := by rw [kee_sl2]
@[simp] theorem kee_sl1_ap (Φ : Fe) (hi : Eo) (ρ : Ro) (o : Bool) (x : Dat) (lw : Option Int) (S : Sto) : kee_sl1 Φ hi ρ o x lw S = (evO Φ hi ρ S).bnd (kee_sl2 o x lw) := by rw [kee_sl1]
@[simp] theorem kee_sl0_ap (Φ : Fe) (lo : Eo) (ρ : Ro) (hi : Eo) (o : Bool) (x : Dat) (S : Sto) : kee_sl0 Φ lo ρ hi o x S = (evO Φ lo ρ S).bnd (kee_sl1 Φ hi ρ o x) := by rw [kee_sl0]
@[simp] theorem ee_sl (Φ : Fe) (o : Bool) (a : E) (lo : Eo) (hi : Eo) (ρ : Ro) (S : Sto) : evE Φ (.sl o a lo hi) ρ S = (evE Φ a ρ S).bnd (kee_sl0 Φ lo ρ hi o) := by rw [evE] <;> rfl
@[simp] theorem kee_rev0_ap (o : Bool) (x : Dat) (S : Sto) : kee_rev0 o x S = ofP (revD o S x) := by rw [kee_rev0]
@[simp] theorem ee_rev (Φ : Fe) (o : Bool) (a : E) (ρ : Ro) (S : Sto) : evE Φ (.rev o a) ρ S = (evE Φ a ρ S).bnd (kee_rev0 o) := by rw [evE] <;> rfl
@[simp] theorem kee_fld0_ap (f : Str) (x : Dat) (S : Sto) : kee_fld0 f x S = ofP (fldD S x f) := by rw [kee_fld0]
@[simp] theorem ee_fld (Φ : Fe) (a : E) (f : Str) (ρ : Ro) (S : Sto) : evE Φ (.fld a f) ρ S = (evE Φ a ρ S).bnd (kee_fld0 f) := by rw [evE] <;> rfl
@[simp] theorem kee_isi0_ap (Φ : Fe) (ts : List Ty) (x : Dat) (S : Sto) : kee_isi0 Φ ts x S = isiR Φ ts x S := by rw [kee_isi0]
@[simp] theorem ee_isi (Φ : Fe) (a : E) (ts : List Ty) (tb : Bool) (ρ : Ro) (S : Sto) : evE Φ (.isi a ts tb) ρ S = (evE Φ a ρ S).bnd (kee_isi0 Φ ts) := by rw [evE] <;> rfl
@[simp] theorem kee_bi0_ap (bi : Bi) (o : Bool) (xs : List Dat) (S : Sto) : kee_bi0 bi o xs S = ofP (biD bi o S xs) := by rw [kee_bi0]
@[simp] theorem ee_bi (Φ : Fe) (bi : Bi) (o : Bool) (as : As) (ρ : Ro) (S : Sto) : evE Φ (.bi bi o as) ρ S = (evA Φ as ρ S).bnd (kee_bi0 bi o) := by rw [evE] <;> rfl
@[simp] theorem kee_bm1_ap (bm : Bm) (x : Dat) (xs : List Dat) (S : Sto) : kee_bm1 bm x xs S = ofP (bmD bm S x xs) := by rw [kee_bm1]
@[simp] theorem kee_bm0_ap (bm : Bm) (Φ : Fe) (as : As) (ρ : Ro) (x : Dat) (S : Sto) : kee_bm0 bm Φ as ρ x S = (bmG bm x S (evA Φ as ρ S)).bnd (kee_bm1 bm x) := by rw [kee_bm0]
@[simp] theorem ee_bm (Φ : Fe) (bm : Bm) (a : E) (as : As) (ρ : Ro) (S : Sto) : evE Φ (.bm bm a as) ρ S = (evE Φ a ρ S).bnd (kee_bm0 bm Φ as ρ) := by rw [evE]; unfold mBm; refine bnd_ext fun x S1 => ?_; rw [kee_bm0]; by_cases h : bmT bm S1 x = true <;> simp [bmG, h] <;> rfl
@[simp] theorem kee_call1_ap (ar : Ar) (xs : List Dat) (Φ : Fe) (f : Str) (ys : List Dat) (S : Sto) : kee_call1 ar xs Φ f ys S = apD (arD ar xs ys) (Φ.call f) S := by rw [kee_call1]
@[simp] theorem kee_call0_ap (Φ : Fe) (ks : As) (ρ : Ro) (ar : Ar) (f : Str) (xs : List Dat) (S : Sto) : kee_call0 Φ ks ρ ar f xs S = (evA Φ ks ρ S).bnd (kee_call1 ar xs Φ f) := by rw [kee_call0]
@[simp] theorem ee_call (Φ : Fe) (f : Str) (as : As) (ks : As) (ar : Ar) (ρ : Ro) (S : Sto) : evE Φ (.call f as ks ar) ρ S = (evA Φ as ρ S).bnd (kee_call0 Φ ks ρ ar f) := by rw [evE] <;> rfl
@[simp] theorem kee_make1_ap (ar : Ar) (xs : List Dat) (Φ : Fe) (C : Str) (f : Str) (ys : List Dat) (S : Sto) : kee_make1 ar xs Φ C f ys S = apD (arD ar xs ys) (Φ.make C f) S := by rw [kee_make1]
@[simp] theorem kee_make0_ap (Φ : Fe) (ks : As) (ρ : Ro) (ar : Ar) (C : Str) (f : Str) (xs : List Dat) (S : Sto) : kee_make0 Φ ks ρ ar C f xs S = (evA Φ ks ρ S).bnd (kee_make1 ar xs Φ C f) := by rw [kee_make0]
@[simp] theorem ee_make (Φ : Fe) (C : Str) (f : Str) (as : As) (ks : As) (ar : Ar) (ρ : Ro) (S : Sto) : evE Φ (.make C f as ks ar) ρ S = (evA Φ as ρ S).bnd (kee_make0 Φ ks ρ ar C f) := by rw [evE] <;> rfl
@[simp] theorem kee_meth2_ap (x : Dat) (ar : Ar) (xs : List Dat) (Φ : Fe) (f : Str) (ys : List Dat) (S : Sto) : kee_meth2 x ar xs Φ f ys S = apX x (arD ar xs ys) (Φ.call f) S := by rw [kee_meth2]
@[simp] theorem kee_meth1_ap (Φ : Fe) (ks : As) (ρ : Ro) (x : Dat) (ar : Ar) (f : Str) (xs : List Dat) (S : Sto) : kee_meth1 Φ ks ρ x ar f xs S = (evA Φ ks ρ S).bnd (kee_meth2 x ar xs Φ f) := by rw [kee_meth1]
@[simp] theorem kee_meth0_ap (C : Str) (Φ : Fe) (as : As) (ρ : Ro) (ks : As) (ar : Ar) (f : Str) (x : Dat) (S : Sto) : kee_meth0 C Φ as ρ ks ar f x S = (insG x C S (evA Φ as ρ S)).bnd (kee_meth1 Φ ks ρ x ar f) := by rw [kee_meth0]
@[simp] theorem ee_meth (Φ : Fe) (C : Str) (m : Str) (f : Str) (a : E) (as : As) (ks : As) (ar : Ar) (ρ : Ro) (S : Sto) : evE Φ (.meth C m f a as ks ar) ρ S = (evE Φ a ρ S).bnd (kee_meth0 C Φ as ρ ks ar f) := by rw [evE]; unfold mMeth; refine bnd_ext fun x S1 => ?_; rw [kee_meth0]; by_cases h : isInst S1 x C = true <;> simp [insG, h] <;> rfl
@[simp] theorem kee_prop0_ap (C : Str) (Φ : Fe) (f : Str) (x : Dat) (S : Sto) : kee_prop0 C Φ f x S = if isInst S x C then noEx (Φ.call f [x] S) else .bad := by rw [kee_prop0]
@[simp] theorem ee_prop (Φ : Fe) (C : Str) (m : Str) (f : Str) (a : E) (ρ : Ro) (S : Sto) : evE Φ (.prop C m f a) ρ S = (evE Φ a ρ S).bnd (kee_prop0 C Φ f) := by rw [evE] <;> rfl
@[simp] theorem kee_getI1_ap (x : Dat) (C : Str) (Φ : Fe) (f : Str) (y : Dat) (S : Sto) : kee_getI1 x C Φ f y S = if isInst S x C then Φ.call f [x, y] S else .bad := by rw [kee_getI1]
@[simp] theorem kee_getI0_ap (Φ : Fe) (b : E) (ρ : Ro) (C : Str) (f : Str) (x : Dat) (S : Sto) : kee_getI0 Φ b ρ C f x S = (evE Φ b ρ S).bnd (kee_getI1 x C Φ f) := by rw [kee_getI0]
@[simp] theorem ee_getI (Φ : Fe) (C : Str) (f : Str) (a : E) (b : E) (ρ : Ro) (S : Sto) : evE Φ (.getI C f a b) ρ S = (evE Φ a ρ S).bnd (kee_getI0 Φ b ρ C f) := by rw [evE] <;> rfl
@[simp] theorem kee_cont2_ap (n : Bool) (d : Dat) (S : Sto) : kee_cont2 n d S = mBoolF n d S := by rw [kee_cont2]
@[simp] theorem kee_cont1_ap (C : Str) (Φ : Fe) (f : Str) (x : Dat) (n : Bool) (y : Dat) (S : Sto) : kee_cont1 C Φ f x n y S = (insG y C S (Φ.call f [y, x] S)).bnd (kee_cont2 n) := by rw [kee_cont1]
@[simp] theorem kee_cont0_ap (Φ : Fe) (b : E) (ρ : Ro) (C : Str) (f : Str) (n : Bool) (x : Dat) (S : Sto) : kee_cont0 Φ b ρ C f n x S = (evE Φ b ρ S).bnd (kee_cont1 C Φ f x n) := by rw [kee_cont0]
@[simp] theorem ee_cont (Φ : Fe) (C : Str) (f : Str) (n : Bool) (a : E) (b : E) (ρ : Ro) (S : Sto) : evE Φ (.cont C f n a b) ρ S = (evE Φ a ρ S).bnd (kee_cont0 Φ b ρ C f n) := by rw [evE]; unfold mContO; refine bnd_ext fun x S1 => ?_; rw [kee_cont0]; refine bnd_ext fun y S2 => ?_; rw [kee_cont1]; by_cases h : isInst S2 y C = true <;> simp [insG, h] <;> rfl
@[simp] theorem kee_lenO1_ap  (d : Dat) (S : Sto) : kee_lenO1 d S = lenR d S := by rw [kee_lenO1]
@[simp] theorem kee_lenO0_ap (C : Str) (Φ : Fe) (f : Str) (x : Dat) (S : Sto) : kee_lenO0 C Φ f x S = (insG x C S (Φ.call f [x] S)).bnd kee_lenO1 := by rw [kee_lenO0]
@[simp] theorem ee_lenO (Φ : Fe) (C : Str) (f : Str) (a : E) (ρ : Ro) (S : Sto) : evE Φ (.lenO C f a) ρ S = (evE Φ a ρ S).bnd (kee_lenO0 C Φ f) := by rw [evE]; unfold mLenO; refine bnd_ext fun x S1 => ?_; rw [kee_lenO0]; by_cases h : isInst S1 x C = true <;> simp [insG, h] <;> rfl
@[simp] theorem kee_strO0_ap (C : Str) (Φ : Fe) (f : Str) (x : Dat) (S : Sto) : kee_strO0 C Φ f x S = if isInst S x C then noEx (Φ.call f [x] S) else .bad := by rw [kee_strO0]
@[simp] theorem ee_strO (Φ : Fe) (C : Str) (f : Str) (a : E) (ρ : Ro) (S : Sto) : evE Φ (.strO C f a) ρ S = (evE Φ a ρ S).bnd (kee_strO0 C Φ f) := by rw [evE] <;> rfl
@[simp] theorem kee_eqO2_ap (n : Bool) (d : Dat) (S : Sto) : kee_eqO2 n d S = mBoolF n d S := by rw [kee_eqO2]
@[simp] theorem kee_eqO1_ap (x : Dat) (C : Str) (Φ : Fe) (f : Str) (n : Bool) (y : Dat) (S : Sto) : kee_eqO1 x C Φ f n y S = (insG x C S (Φ.call f [x, y] S)).bnd (kee_eqO2 n) := by rw [kee_eqO1]
@[simp] theorem kee_eqO0_ap (Φ : Fe) (b : E) (ρ : Ro) (C : Str) (f : Str) (n : Bool) (x : Dat) (S : Sto) : kee_eqO0 Φ b ρ C f n x S = (evE Φ b ρ S).bnd (kee_eqO1 x C Φ f n) := by rw [kee_eqO0]
@[simp] theorem ee_eqO (Φ : Fe) (C : Str) (f : Str) (n : Bool) (a : E) (b : E) (ρ : Ro) (S : Sto) : evE Φ (.eqO C f n a b) ρ S = (evE Φ a ρ S).bnd (kee_eqO0 Φ b ρ C f n) := by rw [evE]; unfold mEqO; refine bnd_ext fun x S1 => ?_; rw [kee_eqO0]; refine bnd_ext fun y S2 => ?_; rw [kee_eqO1]; by_cases h : isInst S2 x C = true <;> simp [insG, h] <;> rfl
@[simp] theorem kee_lc1_ap (o : Bool) (ys : List Dat) (S : Sto) : kee_lc1 o ys S = ofP (newL o ys S) := by rw [kee_lc1]
@[simp] theorem kee_lc0_ap (pt : Pat) (Φ : Fe) (t : T) (e : E) (ρ : Ro) (vs : List Nat) (o : Bool) (It : List Dat × List Nat) (S : Sto) : kee_lc0 pt Φ t e ρ vs o It S = (mLcL pt (evT Φ t) (evE Φ e) It.2 S It.1 (wipeE ρ vs) S []).bnd (kee_lc1 o) := by rw [kee_lc0]
@[simp] theorem ee_lc (Φ : Fe) (o : Bool) (it : It_) (pt : Pat) (t : T) (e : E) (vs : List Nat) (ρ : Ro) (S : Sto) : evE Φ (.lc o it pt t e vs) ρ S = (evI Φ it ρ S).bnd (kee_lc0 pt Φ t e ρ vs o) := by rw [evE] <;> rfl
@[simp] theorem kee_lc21_ap (o : Bool) (ys : List Dat) (S : Sto) : kee_lc21 o ys S = ofP (newL o ys S) := by rw [kee_lc21]
@[simp] theorem kee_lc20_ap (pt : Pat) (Φ : Fe) (t : T) (it1 : It_) (pt1 : Pat) (t1 : T) (e : E) (vs1 : List Nat) (ρ : Ro) (vs : List Nat) (o : Bool) (It : List Dat × List Nat) (S : Sto) : kee_lc20 pt Φ t it1 pt1 t1 e vs1 ρ vs o It S = (mLc2L pt (evT Φ t) (evI Φ it1) pt1 (evT Φ t1) (evE Φ e) vs1 It.2 S It.1 (wipeE ρ vs) S []).bnd (kee_lc21 o) := by rw [kee_lc20]
@[simp] theorem ee_lc2 (Φ : Fe) (o : Bool) (it : It_) (pt : Pat) (t : T) (it1 : It_) (pt1 : Pat) (t1 : T) (e : E) (vs : List Nat) (vs1 : List Nat) (ρ : Ro) (S : Sto) : evE Φ (.lc2 o it pt t it1 pt1 t1 e vs vs1) ρ S = (evI Φ it ρ S).bnd (kee_lc20 pt Φ t it1 pt1 t1 e vs1 ρ vs o) := by rw [evE] <;> rfl
@[simp] theorem kee_dc1_ap (o : Bool) (kvs : List (Dat × Dat)) (S : Sto) : kee_dc1 o kvs S = ofP (newD o kvs S) := by rw [kee_dc1]
@[simp] theorem kee_dc0_ap (pt : Pat) (Φ : Fe) (t : T) (kk : E) (e : E) (ρ : Ro) (vs : List Nat) (o : Bool) (It : List Dat × List Nat) (S : Sto) : kee_dc0 pt Φ t kk e ρ vs o It S = (mDcL pt (evT Φ t) (evE Φ kk) (evE Φ e) It.2 S It.1 (wipeE ρ vs) S []).bnd (kee_dc1 o) := by rw [kee_dc0]
@[simp] theorem ee_dc (Φ : Fe) (o : Bool) (it : It_) (pt : Pat) (t : T) (kk : E) (e : E) (vs : List Nat) (ρ : Ro) (S : Sto) : evE Φ (.dc o it pt t kk e vs) ρ S = (evI Φ it ρ S).bnd (kee_dc0 pt Φ t kk e ρ vs o) := by rw [evE] <;> rfl
@[simp] theorem kee_fs0_ap  (xs : List Dat) (S : Sto) : kee_fs0 xs S = fsR xs S := by rw [kee_fs0]
@[simp] theorem ee_fs (Φ : Fe) (as : As) (ρ : Ro) (S : Sto) : evE Φ (.fs as) ρ S = (evA Φ as ρ S).bnd kee_fs0 := by rw [evE] <;> rfl
@[simp] theorem ket_tru0_ap  (x : Dat) (S : Sto) : ket_tru0 x S = ofB (truth S x) S := by rw [ket_tru0]
@[simp] theorem et_tru (Φ : Fe) (e : E) (ρ : Ro) (S : Sto) : evT Φ (.tru e) ρ S = (evE Φ e ρ S).bnd ket_tru0 := by rw [evT] <;> rfl
@[simp] theorem et_yes (Φ : Fe)  (ρ : Ro) (S : Sto) : evT Φ (.yes) ρ S = .ok true S := by rw [evT] <;> rfl
@[simp] theorem ket_and0_ap (Φ : Fe) (tc : T) (ρ : Ro) (bb : Bool) (S : Sto) : ket_and0 Φ tc ρ bb S = if bb then evT Φ tc ρ S else .ok false S := by rw [ket_and0]
@[simp] theorem et_and (Φ : Fe) (ta : T) (tc : T) (ρ : Ro) (S : Sto) : evT Φ (.and ta tc) ρ S = (evT Φ ta ρ S).bnd (ket_and0 Φ tc ρ) := by rw [evT] <;> rfl
@[simp] theorem ket_or0_ap (Φ : Fe) (tc : T) (ρ : Ro) (bb : Bool) (S : Sto) : ket_or0 Φ tc ρ bb S = if bb then .ok true S else evT Φ tc ρ S := by rw [ket_or0]
@[simp] theorem et_or (Φ : Fe) (ta : T) (tc : T) (ρ : Ro) (S : Sto) : evT Φ (.or ta tc) ρ S = (evT Φ ta ρ S).bnd (ket_or0 Φ tc ρ) := by rw [evT] <;> rfl
@[simp] theorem ket_not0_ap  (bb : Bool) (S : Sto) : ket_not0 bb S = .ok (!bb) S := by rw [ket_not0]
@[simp] theorem et_not (Φ : Fe) (ta : T) (ρ : Ro) (S : Sto) : evT Φ (.not ta) ρ S = (evT Φ ta ρ S).bnd ket_not0 := by rw [evT] <;> rfl
@[simp] theorem ea_nil (Φ : Fe)  (ρ : Ro) (S : Sto) : evA Φ (.nil) ρ S = .ok [] S := by rw [evA] <;> rfl
@[simp] theorem kea_cons1_ap (x : Dat) (xs : List Dat) (S : Sto) : kea_cons1 x xs S = .ok (x :: xs) S := by rw [kea_cons1]
@[simp] theorem kea_cons0_ap (Φ : Fe) (r : As) (ρ : Ro) (x : Dat) (S : Sto) : kea_cons0 Φ r ρ x S = (evA Φ r ρ S).bnd (kea_cons1 x) := by rw [kea_cons0]
@[simp] theorem ea_cons (Φ : Fe) (e : E) (r : As) (ρ : Ro) (S : Sto) : evA Φ (.cons e r) ρ S = (evE Φ e ρ S).bnd (kea_cons0 Φ r ρ) := by rw [evA] <;> rfl
@[simp] theorem kea_star2_ap (ys : List Dat) (xs : List Dat) (S : Sto) : kea_star2 ys xs S = .ok (ys ++ xs) S := by rw [kea_star2]
@[simp] theorem kea_star1_ap (Φ : Fe) (r : As) (ρ : Ro) (ys : List Dat) (S : Sto) : kea_star1 Φ r ρ ys S = (evA Φ r ρ S).bnd (kea_star2 ys) := by rw [kea_star1]
@[simp] theorem kea_star0_ap (Φ : Fe) (r : As) (ρ : Ro) (x : Dat) (S : Sto) : kea_star0 Φ r ρ x S = (ofB (seqOf S x) S).bnd (kea_star1 Φ r ρ) := by rw [kea_star0]
@[simp] theorem ea_star (Φ : Fe) (e : E) (r : As) (ρ : Ro) (S : Sto) : evA Φ (.star e r) ρ S = (evE Φ e ρ S).bnd (kea_star0 Φ r ρ) := by rw [evA]; unfold mStar; refine bnd_ext fun x S1 => ?_; rw [kea_star0]; cases h : seqOf S1 x <;> simp <;> rfl
@[simp] theorem eo_no (Φ : Fe)  (ρ : Ro) (S : Sto) : evO Φ (.no) ρ S = .ok none S := by rw [evO] <;> rfl
@[simp] theorem keo_so0_ap  (d : Dat) (S : Sto) : keo_so0 d S = intR d S := by rw [keo_so0]
@[simp] theorem eo_so (Φ : Fe) (e : E) (ρ : Ro) (S : Sto) : evO Φ (.so e) ρ S = (evE Φ e ρ S).bnd keo_so0 := by rw [evO] <;> rfl
@[simp] theorem kei_seq0_ap  (d : Dat) (S : Sto) : kei_seq0 d S = ofB (itemsM S d) S := by rw [kei_seq0]
@[simp] theorem ei_seq (Φ : Fe) (e : E) (ρ : Ro) (S : Sto) : evI Φ (.seq e) ρ S = (evE Φ e ρ S).bnd kei_seq0 := by rw [evI] <;> rfl
@[simp] theorem kei_en0_ap  (d : Dat) (S : Sto) : kei_en0 d S = ofB ((itemsL S d).map enQ) S := by rw [kei_en0]
@[simp] theorem ei_en (Φ : Fe) (e : E) (ρ : Ro) (S : Sto) : evI Φ (.en e) ρ S = (evE Φ e ρ S).bnd kei_en0 := by rw [evI]; unfold mEnI mCons mNil; cases evE Φ e ρ S <;> simp <;> rfl
@[simp] theorem kei_rng10_ap  (d : Dat) (S : Sto) : kei_rng10 d S = ofB (rng1D [d]) S := by rw [kei_rng10]
@[simp] theorem ei_rng1 (Φ : Fe) (e : E) (ρ : Ro) (S : Sto) : evI Φ (.rng1 e) ρ S = (evE Φ e ρ S).bnd kei_rng10 := by rw [evI]; unfold mRng1 mCons mNil; cases evE Φ e ρ S <;> simp <;> rfl
@[simp] theorem kei_rng21_ap (x : Dat) (y : Dat) (S : Sto) : kei_rng21 x y S = ofB (rng2D [x, y]) S := by rw [kei_rng21]
@[simp] theorem kei_rng20_ap (Φ : Fe) (b : E) (ρ : Ro) (x : Dat) (S : Sto) : kei_rng20 Φ b ρ x S = (evE Φ b ρ S).bnd (kei_rng21 x) := by rw [kei_rng20]
@[simp] theorem ei_rng2 (Φ : Fe) (a : E) (b : E) (ρ : Ro) (S : Sto) : evI Φ (.rng2 a b) ρ S = (evE Φ a ρ S).bnd (kei_rng20 Φ b ρ) := by rw [evI]; unfold mRng2 mCons mNil; cases evE Φ a ρ S <;> simp; rename_i x S1; cases evE Φ b ρ S1 <;> simp <;> rfl
@[simp] theorem kei_zip1_ap (x : Dat) (y : Dat) (S : Sto) : kei_zip1 x y S = ofB (zip2D [x, y]) S := by rw [kei_zip1]
@[simp] theorem kei_zip0_ap (Φ : Fe) (b : E) (ρ : Ro) (x : Dat) (S : Sto) : kei_zip0 Φ b ρ x S = (evE Φ b ρ S).bnd (kei_zip1 x) := by rw [kei_zip0]
@[simp] theorem ei_zip (Φ : Fe) (a : E) (b : E) (ρ : Ro) (S : Sto) : evI Φ (.zip a b) ρ S = (evE Φ a ρ S).bnd (kei_zip0 Φ b ρ) := by rw [evI]; unfold mZipI mCons mNil; cases evE Φ a ρ S <;> simp; rename_i x S1; cases evE Φ b ρ S1 <;> simp <;> rfl
@[simp] theorem kei_keys0_ap  (d : Dat) (S : Sto) : kei_keys0 d S = ofB ((dictOf d).map keysQ) S := by rw [kei_keys0]
@[simp] theorem ei_keys (Φ : Fe) (e : E) (ρ : Ro) (S : Sto) : evI Φ (.keys e) ρ S = (evE Φ e ρ S).bnd kei_keys0 := by rw [evI]; unfold mKeysI; refine bnd_ext fun d S1 => ?_; rw [kei_keys0]; cases d <;> rfl
@[simp] theorem kei_items0_ap  (d : Dat) (S : Sto) : kei_items0 d S = ofB ((dictOf d).map itemsQ) S := by rw [kei_items0]
@[simp] theorem ei_items (Φ : Fe) (e : E) (ρ : Ro) (S : Sto) : evI Φ (.items e) ρ S = (evE Φ e ρ S).bnd kei_items0 := by rw [evI]; unfold mItemsI; refine bnd_ext fun d S1 => ?_; rw [kei_items0]; cases d <;> rfl
@[simp] theorem kei_vals0_ap  (d : Dat) (S : Sto) : kei_vals0 d S = ofB ((dictOf d).map valsQ) S := by rw [kei_vals0]
@[simp] theorem ei_vals (Φ : Fe) (e : E) (ρ : Ro) (S : Sto) : evI Φ (.vals e) ρ S = (evE Φ e ρ S).bnd kei_vals0 := by rw [evI]; unfold mValsI; refine bnd_ext fun d S1 => ?_; rw [kei_vals0]; cases d <;> rfl
@[simp] theorem kes_ret0_ap  (d : Dat) (S : Sto) : kes_ret0 d S = .rt d S := by rw [kes_ret0]
@[simp] theorem es_ret (Φ : Fe) (e : E) (ρ : Ro) (S : Sto) : evS Φ (.ret e) ρ S = (evE Φ e ρ S).st ρ kes_ret0 := by rw [evS] <;> rfl
@[simp] theorem es_retN (Φ : Fe)  (ρ : Ro) (S : Sto) : evS Φ (.retN) ρ S = .rt .none S := by rw [evS] <;> rfl
@[simp] theorem kes_expr0_ap (ρ : Ro) (d : Dat) (S : Sto) : kes_expr0 ρ d S = .nx ρ S := by rw [kes_expr0]
@[simp] theorem es_expr (Φ : Fe) (e : E) (ρ : Ro) (S : Sto) : evS Φ (.expr e) ρ S = (evE Φ e ρ S).st ρ (kes_expr0 ρ) := by rw [evS] <;> rfl
@[simp] theorem es_pass (Φ : Fe)  (ρ : Ro) (S : Sto) : evS Φ (.pass) ρ S = .nx ρ S := by rw [evS] <;> rfl
@[simp] theorem es_brk (Φ : Fe)  (ρ : Ro) (S : Sto) : evS Φ (.brk) ρ S = .bk ρ S := by rw [evS] <;> rfl
@[simp] theorem es_cont (Φ : Fe)  (ρ : Ro) (S : Sto) : evS Φ (.cont) ρ S = .ct ρ S := by rw [evS] <;> rfl
@[simp] theorem es_never (Φ : Fe)  (ρ : Ro) (S : Sto) : evS Φ (.never) ρ S = .bad := by rw [evS] <;> rfl
@[simp] theorem kes_set0_ap (ρ : Ro) (i : Nat) (d : Dat) (S : Sto) : kes_set0 ρ i d S = .nx (ρ.set i (some d)) S := by rw [kes_set0]
@[simp] theorem es_set (Φ : Fe) (i : Nat) (e : E) (ρ : Ro) (S : Sto) : evS Φ (.set i e) ρ S = (evE Φ e ρ S).st ρ (kes_set0 ρ i) := by rw [evS] <;> rfl
@[simp] theorem kes_pat0_ap (pt : Pat) (ρ : Ro) (d : Dat) (S : Sto) : kes_pat0 pt ρ d S = nxR (bindP pt d ρ) S := by rw [kes_pat0]
@[simp] theorem es_pat (Φ : Fe) (pt : Pat) (e : E) (ρ : Ro) (S : Sto) : evS Φ (.pat pt e) ρ S = (evE Φ e ρ S).st ρ (kes_pat0 pt ρ) := by rw [evS] <;> rfl
@[simp] theorem kes_par20_ap (i : Nat) (j : Nat) (ρ : Ro) (xs : List Dat) (S : Sto) : kes_par20 i j ρ xs S = par2R i j xs ρ S := by rw [kes_par20]
@[simp] theorem es_par2 (Φ : Fe) (i : Nat) (j : Nat) (a : E) (b : E) (ρ : Ro) (S : Sto) : evS Φ (.par2 i j a b) ρ S = (evA Φ (.cons a (.cons b .nil)) ρ S).st ρ (kes_par20 i j ρ) := by rw [evS, evA, evA, evA] <;> rfl
@[simp] theorem kes_par30_ap (i : Nat) (j : Nat) (l : Nat) (ρ : Ro) (xs : List Dat) (S : Sto) : kes_par30 i j l ρ xs S = par3R i j l xs ρ S := by rw [kes_par30]
@[simp] theorem es_par3 (Φ : Fe) (i : Nat) (j : Nat) (l : Nat) (a : E) (b : E) (c : E) (ρ : Ro) (S : Sto) : evS Φ (.par3 i j l a b c) ρ S = (evA Φ (.cons a (.cons b (.cons c .nil))) ρ S).st ρ (kes_par30 i j l ρ) := by rw [evS, evA, evA, evA, evA] <;> rfl
@[simp] theorem kes_setF1_ap (Φ : Fe) (f : Str) (v : Dat) (ρ : Ro) (x : Dat) (S : Sto) : kes_setF1 Φ f v ρ x S = ofS (setFldD Φ.ct S x f v) ρ := by rw [kes_setF1]
@[simp] theorem kes_setF0_ap (Φ : Fe) (a : E) (ρ : Ro) (f : Str) (v : Dat) (S : Sto) : kes_setF0 Φ a ρ f v S = (evE Φ a ρ S).st ρ (kes_setF1 Φ f v ρ) := by rw [kes_setF0]
@[simp] theorem es_setF (Φ : Fe) (a : E) (f : Str) (e : E) (ρ : Ro) (S : Sto) : evS Φ (.setF a f e) ρ S = (evE Φ e ρ S).st ρ (kes_setF0 Φ a ρ f) := by rw [evS] <;> rfl
@[simp] theorem kes_setI2_ap (x : Dat) (v : Dat) (ρ : Ro) (y : Dat) (S : Sto) : kes_setI2 x v ρ y S = ofS (setAtD S x y v) ρ := by rw [kes_setI2]
@[simp] theorem kes_setI1_ap (Φ : Fe) (b : E) (ρ : Ro) (v : Dat) (x : Dat) (S : Sto) : kes_setI1 Φ b ρ v x S = (evE Φ b ρ S).st ρ (kes_setI2 x v ρ) := by rw [kes_setI1]
@[simp] theorem kes_setI0_ap (Φ : Fe) (a : E) (ρ : Ro) (b : E) (v : Dat) (S : Sto) : kes_setI0 Φ a ρ b v S = (evE Φ a ρ S).st ρ (kes_setI1 Φ b ρ v) := by rw [kes_setI0]
@[simp] theorem es_setI (Φ : Fe) (a : E) (b : E) (e : E) (ρ : Ro) (S : Sto) : evS Φ (.setI a b e) ρ S = (evE Φ e ρ S).st ρ (kes_setI0 Φ a ρ b) := by rw [evS] <;> rfl
@[simp] theorem kes_ite0_ap (Φ : Fe) (b1 : Ss) (ρ : Ro) (b2 : Ss) (bb : Bool) (S : Sto) : kes_ite0 Φ b1 ρ b2 bb S = if bb then evSs Φ b1 ρ S else evSs Φ b2 ρ S := by rw [kes_ite0]
@[simp] theorem es_ite (Φ : Fe) (t : T) (b1 : Ss) (b2 : Ss) (ρ : Ro) (S : Sto) : evS Φ (.ite t b1 b2) ρ S = (evT Φ t ρ S).st ρ (kes_ite0 Φ b1 ρ b2) := by rw [evS] <;> rfl
@[simp] theorem kes_for0_ap (pt : Pat) (Φ : Fe) (b1 : Ss) (b2 : Ss) (ρ : Ro) (It : List Dat × List Nat) (S : Sto) : kes_for0 pt Φ b1 b2 ρ It S = mLoop pt (evSs Φ b1) (evSs Φ b2) It.2 S It.1 ρ S := by rw [kes_for0]
@[simp] theorem es_for (Φ : Fe) (it : It_) (pt : Pat) (b1 : Ss) (b2 : Ss) (ρ : Ro) (S : Sto) : evS Φ (.for_ it pt b1 b2) ρ S = (evI Φ it ρ S).st ρ (kes_for0 pt Φ b1 b2 ρ) := by rw [evS] <;> rfl
@[simp] theorem es_while (Φ : Fe) (t : T) (b1 : Ss) (b2 : Ss) (ρ : Ro) (S : Sto) : evS Φ (.while_ t b1 b2) ρ S = mWhile (evT Φ t) (evSs Φ b1) (evSs Φ b2) Φ.wf ρ S := by rw [evS] <;> rfl
@[simp] theorem kes_augV2_ap (ρ : Ro) (i : Nat) (z : Dat) (S : Sto) : kes_augV2 ρ i z S = .nx (ρ.set i (some z)) S := by rw [kes_augV2]
@[simp] theorem kes_augV1_ap (op : Operator) (x : Dat) (ρ : Ro) (i : Nat) (y : Dat) (S : Sto) : kes_augV1 op x ρ i y S = (ofP (binop false op S x y)).st ρ (kes_augV2 ρ i) := by rw [kes_augV1]
@[simp] theorem kes_augV0_ap (Φ : Fe) (e : E) (ρ : Ro) (op : Operator) (i : Nat) (x : Dat) (S : Sto) : kes_augV0 Φ e ρ op i x S = (evE Φ e ρ S).st ρ (kes_augV1 op x ρ i) := by rw [kes_augV0]
@[simp] theorem es_augV (Φ : Fe) (i : Nat) (op : Operator) (e : E) (ρ : Ro) (S : Sto) : evS Φ (.augV i op e) ρ S = (rv ρ[i]? S).st ρ (kes_augV0 Φ e ρ op i) := by rw [evS, mAugV]; (cases h : ρ[i]? with | none => simp [rv, Res.st] | some o => cases o <;> simp [rv, Res.st] <;> rfl)
@[simp] theorem ess_nil (Φ : Fe) (ρ : Ro) (S : Sto) : evSs Φ .nil ρ S = .nx ρ S := by rw [evSs] <;> rfl
@[simp] theorem ess_cons (Φ : Fe) (s : Sm) (r : Ss) (ρ : Ro) (S : Sto) : evSs Φ (.cons s r) ρ S = (evS Φ s ρ S).sq (evSs Φ r) := by
  cases r with
  | nil =>
    have e : evSs Φ (.cons s .nil) = evS Φ s := by rw [evSs]
    rw [e]
    cases evS Φ s ρ S <;> simp [RSt.sq]
  | cons t u =>
    have e : evSs Φ (.cons s (.cons t u)) = mSeq (evS Φ s) (evSs Φ (.cons t u)) := by rw [evSs] <;> simp
    rw [e]; rfl
end PL

set_option Elab.async false
set_option linter.all false
set_option maxRecDepth 100000
set_option autoImplicit false
set_option maxHeartbeats 4000000
namespace PL
open PySem L2
/-! ### names -/
theorem ofString_eq (s : String) : Str.ofString s = ⟨(s.toList.map Char.toNat).toArray⟩ := by
  unfold Str.ofString
  rw [cpsOfBytes_string]
theorem charNat_inj {a b : Char} (h : a.toNat = b.toNat) : a = b := Char.ext (UInt32.toNat.inj h)
theorem mapNat_inj : ∀ {a b : List Char}, a.map Char.toNat = b.map Char.toNat → a = b
  | [], [], _ => rfl
  | [], _ :: _, h => by simp at h
  | _ :: _, [], h => by simp at h
  | x :: a, y :: b, h => by
    simp only [List.map_cons, List.cons.injEq] at h
    rw [charNat_inj h.1, mapNat_inj h.2]
@[simp] theorem ofString_inj (a b : String) : (Str.ofString a = Str.ofString b) = (a = b) := by
  rw [ofString_eq, ofString_eq]
  apply propext
  constructor
  · intro h
    have h1 : a.toList.map Char.toNat = b.toList.map Char.toNat := by
      have := congrArg Str.cps h
      simpa using this
    exact String.toList_inj.mp (mapNat_inj h1)
  · rintro rfl; rfl
@[simp] theorem ofString_beq (a b : String) : (Str.ofString a == Str.ofString b) = decide (a = b) := by
  by_cases h : a = b
  · subst h; simp
  · simp [h]
/-! ### cells -/
def cellD : Cell → Dat
  | .lst xs => .list xs
  | .ins C fs => .ins C fs
  | .dict kvs => .dict kvs
/-- the old cells are as they were, but those of ks, which are free -/
structure Grw (ks : List Nat) (S S' : Sto) : Prop where
  le : S.length ≤ S'.length
  at_ : ∀ j, j < S.length → S'[j]? = S[j]? ∨ (j ∈ ks ∧ ∃ x, S'[j]? = some x ∧ freeC x = true)
section
variable {ks ks' : List Nat} {S S1 S2 S' T : Sto} {d d' : Dat} {k : Nat} {x y : Cell}
theorem Grw.refl : Grw ks S S := ⟨Nat.le_refl _, fun _ _ => .inl rfl⟩
theorem Grw.trans (a : Grw ks S S1) (b : Grw ks S1 S2) : Grw ks S S2 := ⟨Nat.le_trans a.le b.le, fun j h => by
  rcases b.at_ j (Nat.lt_of_lt_of_le h a.le) with e | e
  · rw [e]; exact a.at_ j h
  · exact .inr e⟩
theorem Grw.mono (a : Grw ks S S1) (h : ∀ k ∈ ks, k ∈ ks') : Grw ks' S S1 := ⟨a.le, fun j l => (a.at_ j l).imp id fun ⟨m, r⟩ => ⟨h j m, r⟩⟩
theorem Grw.get (a : Grw ks S S1) (h : S[k]? = some x) (n : k ∉ ks) : S1[k]? = some x := by
  rcases a.at_ k (List.getElem?_eq_some_iff.mp h).1 with e | e
  · rw [e, h]
  · exact absurd e.1 n
theorem Grw.app : Grw ks S (S ++ T) := ⟨by simp, fun j h => .inl (List.getElem?_append_left h)⟩
theorem Grw.set (h : freeC x = true) (m : k ∈ ks) : Grw ks S (S.set k x) := ⟨by simp, fun j l => by
  by_cases e : k = j
  · subst e
    exact .inr ⟨m, x, List.getElem?_set_self l, h⟩
  · exact .inl (List.getElem?_set_ne e)⟩
theorem Grw.setNew (a : Grw ks S S1) (h : S.length ≤ k) : Grw ks S (S1.set k x) := ⟨by simp [a.le], fun j l => by
  rw [List.getElem?_set_ne (by omega)]; exact a.at_ j l⟩
/-- the keys of the new are free from the old -/
theorem Grw.ofApp (a : Grw ks (S ++ T) S') (h : ∀ k ∈ ks, k ∈ ks' ∨ S.length ≤ k) : Grw ks' S S' := ⟨Nat.le_trans (by simp) a.le, fun j l => by
  rcases a.at_ j (by simp; omega) with e | ⟨m, e⟩
  · rw [e]; exact .inl (List.getElem?_append_left l)
  · exact .inr ⟨(h j m).resolve_right (by omega), e⟩⟩
theorem Grw.keep (a : Grw ks S S') : keepB S.length S S' = true := by
  unfold keepB
  rw [List.all_eq_true]
  intro j hj
  rw [List.mem_range] at hj
  rcases a.at_ j hj with e | ⟨_, x, e, f⟩
  · simp [e]
  · simp [e, f]
theorem Grw.take (a : Grw ks S S') : Grw ks S (S'.take S.length) := ⟨by simp [a.le], fun j l => by
  rw [List.getElem?_take_of_lt l]; exact a.at_ j l⟩
theorem take_get (h : k < S.length) : (S'.take S.length)[k]? = S'[k]? := List.getElem?_take_of_lt h
theorem take_len (a : Grw ks S S') : (S'.take S.length).length = S.length := by simp [a.le]
theorem fin_res (hr : res S.length S' d = some d') (a : Grw ks S S') : fin S S' d = .ok d' (S'.take S.length) := by
  unfold fin
  rw [hr]
  simp only [a.keep, if_true]
theorem fin_free (h : free d = true) (a : Grw ks S S') : fin S S' d = .ok d (S'.take S.length) := fin_res (by unfold res; exact mapO_free _ d h) a
theorem fin_self (h : free d = true) : fin S S d = .ok d S := by
  rw [fin_free (ks := []) h Grw.refl, List.take_length]
theorem fin_app (h : free d = true) : fin S (S ++ T) d = .ok d S := by
  rw [fin_free (ks := []) h Grw.app, List.take_left]
theorem fin_set (h : free d = true) (hx : freeC x = true) : fin S (S.set k x) d = .ok d (S.set k x) := by
  rw [fin_free (ks := [k]) h (Grw.set hx (List.mem_singleton.mpr rfl))]
  congr 1
  have : S.length = (S.set k x).length := by simp
  rw [this, List.take_length]
theorem res_own (h : S'[k]? = some x) (l : S.length ≤ k) (f : freeC x = true) : res S.length S' (.own k) = some (cellD x) := by
  unfold res
  rw [mapO]
  have lt := (List.getElem?_eq_some_iff.mp h).1
  obtain ⟨m, e⟩ : ∃ m, S'.length = m + 1 := ⟨S'.length - 1, by omega⟩
  rw [e, resO, if_neg (by omega), h]
  cases x with
  | lst xs => simp only [freeC] at f; simp [mapOs_free _ xs f, cellD]
  | ins C fs => simp only [freeC] at f; simp [mapOf_free _ fs f, cellD]
  | dict kvs => simp only [freeC] at f; simp [mapOk_free _ kvs f, cellD]
theorem fin_own (a : Grw ks S S') (h : S'[k]? = some x) (l : S.length ≤ k) (f : freeC x = true) : fin S S' (.own k) = .ok (cellD x) (S'.take S.length) := fin_res (res_own h l f) a
theorem fin_app_own (f : freeC x = true) : fin S (S ++ [x]) (.own S.length) = .ok (cellD x) S := by
  rw [fin_own (ks := []) Grw.app (by simp) (Nat.le_refl _) f, List.take_left]
@[simp] theorem free_none' : free .none = true := by rw [free] <;> simp
@[simp] theorem free_bool' (b : Bool) : free (.bool b) = true := by rw [free] <;> simp
@[simp] theorem free_int' (b : Int) : free (.int b) = true := by rw [free] <;> simp
@[simp] theorem free_str' (b : Str) : free (.str b) = true := by rw [free] <;> simp
@[simp] theorem free_kt' (b : List Dat) : free (.kt b) = true := by rw [free] <;> simp
@[simp] theorem free_kd' (b : List (Dat × Dat)) : free (.kd b) = true := by rw [free] <;> simp
@[simp] theorem free_own' (b : Nat) : free (.own b) = false := by rw [free]
@[simp] theorem free_tuple' (b : List Dat) : free (.tuple b) = frees b := by rw [free]
@[simp] theorem free_list' (b : List Dat) : free (.list b) = frees b := by rw [free]
@[simp] theorem free_ins' (C : Str) (b : List (Str × Dat)) : free (.ins C b) = freeF b := by rw [free]
@[simp] theorem free_dict' (b : List (Dat × Dat)) : free (.dict b) = freeK b := by rw [free]
@[simp] theorem frees_nil' : frees [] = true := by rw [frees]
@[simp] theorem frees_cons' (d : Dat) (ds : List Dat) : frees (d :: ds) = (free d && frees ds) := by rw [frees]
@[simp] theorem freeF_nil' : freeF [] = true := by rw [freeF]
@[simp] theorem freeF_cons' (n : Str) (d : Dat) (ds : List (Str × Dat)) : freeF ((n, d) :: ds) = (free d && freeF ds) := by rw [freeF]
@[simp] theorem freeK_nil' : freeK [] = true := by rw [freeK]
@[simp] theorem freeK_cons' (n : Dat) (d : Dat) (ds : List (Dat × Dat)) : freeK ((n, d) :: ds) = (free d && freeK ds) := by rw [freeK]
theorem frees_all : ∀ {ds : List Dat}, frees ds = ds.all free
  | [] => by simp
  | d :: ds => by simp [frees_all (ds := ds)]
theorem freeK_all : ∀ {ds : List (Dat × Dat)}, freeK ds = ds.all fun p => free p.2
  | [] => by simp
  | (n, d) :: ds => by simp [freeK_all (ds := ds)]
@[simp] theorem frees_append' (a b : List Dat) : frees (a ++ b) = (frees a && frees b) := by simp [frees_all]
@[simp] theorem freeC_lst' (xs : List Dat) : freeC (.lst xs) = frees xs := by rw [freeC]
@[simp] theorem freeC_ins' (C : Str) (xs : List (Str × Dat)) : freeC (.ins C xs) = freeF xs := by rw [freeC]
@[simp] theorem freeC_dict' (xs : List (Dat × Dat)) : freeC (.dict xs) = freeK xs := by rw [freeC]
end
end PL

set_option Elab.async false
set_option linter.all false
set_option maxRecDepth 100000
set_option autoImplicit false
set_option maxHeartbeats 4000000
namespace PL
open PySem L2
section
variable (S : Sto) (Φ : Fe)
@[simp] theorem look_none : look S .none = .none := by rw [look] <;> simp
@[simp] theorem look_bool' (b : Bool) : look S (.bool b) = .bool b := by rw [look] <;> simp
@[simp] theorem look_int' (b : Int) : look S (.int b) = .int b := by rw [look] <;> simp
@[simp] theorem look_str' (b : Str) : look S (.str b) = .str b := by rw [look] <;> simp
@[simp] theorem look_list' (b : List Dat) : look S (.list b) = .list b := by rw [look] <;> simp
@[simp] theorem look_tuple' (b : List Dat) : look S (.tuple b) = .tuple b := by rw [look] <;> simp
@[simp] theorem look_ins' (C : Str) (b : List (Str × Dat)) : look S (.ins C b) = .ins C b := by rw [look] <;> simp
@[simp] theorem look_dict' (b : List (Dat × Dat)) : look S (.dict b) = .dict b := by rw [look] <;> simp
@[simp] theorem look_kd' (b : List (Dat × Dat)) : look S (.kd b) = .kd b := by rw [look] <;> simp
@[simp] theorem look_kt' (b : List Dat) : look S (.kt b) = .tuple b := by rw [look]
theorem look_own {S : Sto} {k : Nat} {x : Cell} (h : S[k]? = some x) : look S (.own k) = cellD x := by
  rw [look, h]; cases x <;> rfl
@[simp] theorem cellD_lst (xs : List Dat) : cellD (.lst xs) = .list xs := by rw [cellD]
@[simp] theorem cellD_ins (C : Str) (xs : List (Str × Dat)) : cellD (.ins C xs) = .ins C xs := by rw [cellD]
@[simp] theorem cellD_dict (xs : List (Dat × Dat)) : cellD (.dict xs) = .dict xs := by rw [cellD]
@[simp] theorem flat_none : flatD .none = true := by rw [flatD]
@[simp] theorem flat_bool (b : Bool) : flatD (.bool b) = true := by rw [flatD]
@[simp] theorem flat_int (b : Int) : flatD (.int b) = true := by rw [flatD]
@[simp] theorem flat_str (b : Str) : flatD (.str b) = true := by rw [flatD]
@[simp] theorem flat_list (b : List Dat) : flatD (.list b) = false := by rw [flatD] <;> simp
@[simp] theorem flat_tuple (b : List Dat) : flatD (.tuple b) = false := by rw [flatD] <;> simp
@[simp] theorem flat_kt (b : List Dat) : flatD (.kt b) = false := by rw [flatD] <;> simp
@[simp] theorem flat_own (b : Nat) : flatD (.own b) = false := by rw [flatD] <;> simp
@[simp] theorem eqF_str (a b : Str) : eqF (.str a) (.str b) = decide (a = b) := by
  rw [eqF]; by_cases h : a = b <;> simp [h]
@[simp] theorem eqF_int (a b : Int) : eqF (.int a) (.int b) = decide (a = b) := by
  rw [eqF]; by_cases h : a = b <;> simp [h]
@[simp] theorem eqF_bool (a b : Bool) : eqF (.bool a) (.bool b) = (a == b) := by rw [eqF]
@[simp] theorem eqF_nn : eqF .none .none = true := by rw [eqF]
@[simp] theorem eqF_is (a : Int) (b : Str) : eqF (.int a) (.str b) = false := by rw [eqF] <;> simp
@[simp] theorem eqF_si (a : Int) (b : Str) : eqF (.str b) (.int a) = false := by rw [eqF] <;> simp
@[simp] theorem eqF_ns (b : Str) : eqF .none (.str b) = false := by rw [eqF] <;> simp
@[simp] theorem eqF_sn (b : Str) : eqF (.str b) .none = false := by rw [eqF] <;> simp
@[simp] theorem eqF_ni (b : Int) : eqF .none (.int b) = false := by rw [eqF] <;> simp
@[simp] theorem eqF_in (b : Int) : eqF (.int b) .none = false := by rw [eqF] <;> simp
@[simp] theorem truth_bool (b : Bool) : truth S (.bool b) = some b := by rw [truth, look_bool']
@[simp] theorem arD_all (xs ys : List Dat) : arD .all xs ys = some xs := by rw [arD]
@[simp] theorem newT_ok (xs : List Dat) : newT xs S = if xs.length ≤ sizeLine then some (.tuple xs, S) else none := by rw [newT]
@[simp] theorem newL_ok (xs : List Dat) : newL false xs S = if xs.length ≤ sizeLine then some (.list xs, S) else none := by simp [newL]
@[simp] theorem newL_own (xs : List Dat) : newL true xs S = if xs.length ≤ sizeLine then some (.own S.length, S ++ [.lst xs]) else none := by simp [newL]
@[simp] theorem newD_ok (xs : List (Dat × Dat)) : newD false xs S = if xs.length ≤ sizeLine then some (.dict xs, S) else none := by simp [newD]
@[simp] theorem newD_own (xs : List (Dat × Dat)) : newD true xs S = if xs.length ≤ sizeLine then some (.own S.length, S ++ [.dict xs]) else none := by simp [newD]
@[simp] theorem bind_some' {α β : Type} (a : α) (f : α → Option β) : (some a).bind f = f a := Eq.trans rfl rfl
@[simp] theorem val1_ap (d : Dat) : val1 d S = some (d, S) := by rw [val1]
@[simp] theorem bool1_ap (b : Bool) : bool1 b S = some (.bool b, S) := by rw [bool1]
theorem atD_tuple (xs : List Dat) (i : Int) : atD S (.tuple xs) (.int i) = (atI xs i).bind fun d => val1 d S := by rw [atD, look_tuple']
theorem atD_list (xs : List Dat) (i : Int) : atD S (.list xs) (.int i) = (atI xs i).bind fun d => val1 d S := by rw [atD, look_list']
@[simp] theorem isi_one (t : Ty) (x : Dat) : isiR Φ [t] x S = ofB ((isTy Φ.ct S x t).map .bool) S := by
  rw [isiR]
  cases h : isTy Φ.ct S x t <;> simp [h]
end
end PL

set_option Elab.async false
set_option linter.all false
set_option maxRecDepth 100000
set_option autoImplicit false
set_option maxHeartbeats 4000000
namespace PL
open PySem L2
section
variable {p : Pat} {b els : MS} {ks : List Nat} {S0 S : Sto} {ρ : Ro} {mt : MT} {me mk : ME}
/-- a loop by its invariant -/
theorem loop_inv {xs : List Dat} (Inv : Nat → Ro → Sto → Prop) (hw : ∀ i ρ S, Inv i ρ S → Wat ks S0 S)
    (step : ∀ i x ρ S, xs[i]? = some x → Inv i ρ S → ∃ ρ1 ρ2 S2, bindP p x ρ = some ρ1 ∧ b ρ1 S = .nx ρ2 S2 ∧ Inv (i + 1) ρ2 S2) (h0 : Inv 0 ρ S) :
    ∃ ρ' S', Inv xs.length ρ' S' ∧ mLoop p b els ks S0 xs ρ S = els ρ' S' := by
  induction xs generalizing Inv ρ S with
  | nil => exact ⟨ρ, S, h0, by rw [mLoop, if_pos (hw 0 ρ S h0)]⟩
  | cons x xs ih =>
    obtain ⟨ρ1, ρ2, S2, e1, e2, h1⟩ := step 0 x ρ S rfl h0
    obtain ⟨ρ', S', h2, e3⟩ := ih (fun i => Inv (i + 1)) (fun i ρ S h => hw (i + 1) ρ S h) (fun i y ρ S hy h => step (i + 1) y ρ S hy h) h1
    refine ⟨ρ', S', h2, ?_⟩
    rw [mLoop, if_pos (hw 0 ρ S h0), e1]
    simp only [e2]
    exact e3
theorem loop_inv' {xs : List Dat} {r : RSt} (hL : mLoop p b els ks S0 xs ρ S = r) (Inv : Nat → Ro → Sto → Prop) (hw : ∀ i ρ S, Inv i ρ S → Wat ks S0 S)
    (step : ∀ i x ρ S, xs[i]? = some x → Inv i ρ S → ∃ ρ1 ρ2 S2, bindP p x ρ = some ρ1 ∧ b ρ1 S = .nx ρ2 S2 ∧ Inv (i + 1) ρ2 S2) (h0 : Inv 0 ρ S) :
    ∃ ρ' S', Inv xs.length ρ' S' ∧ r = els ρ' S' := by
  obtain ⟨ρ', S', h1, h2⟩ := loop_inv (els := els) Inv hw step h0
  exact ⟨ρ', S', h1, hL.symm.trans h2⟩
/-- a loop that may end early -/
theorem loop_exit {xs : List Dat} (Inv : Nat → Ro → Sto → Prop) (Out : RSt → Prop) (hw : ∀ i ρ S, Inv i ρ S → Wat ks S0 S)
    (step : ∀ i x ρ S, xs[i]? = some x → Inv i ρ S → ∃ ρ1, bindP p x ρ = some ρ1 ∧ ((∃ ρ2 S2, b ρ1 S = .nx ρ2 S2 ∧ Inv (i + 1) ρ2 S2) ∨ (∃ d S2, b ρ1 S = .rt d S2 ∧ Out (.rt d S2)))) (h0 : Inv 0 ρ S)
    (fin : ∀ ρ' S', Inv xs.length ρ' S' → Out (els ρ' S')) : Out (mLoop p b els ks S0 xs ρ S) := by
  induction xs generalizing Inv ρ S with
  | nil => rw [mLoop, if_pos (hw 0 ρ S h0)]; exact fin ρ S h0
  | cons x xs ih =>
    obtain ⟨ρ1, e1, h1⟩ := step 0 x ρ S rfl h0
    rw [mLoop, if_pos (hw 0 ρ S h0), e1]
    rcases h1 with ⟨ρ2, S2, e2, h1⟩ | ⟨d, S2, e2, h1⟩
    · simp only [e2]
      exact ih (fun i => Inv (i + 1)) (fun i ρ S h => hw (i + 1) ρ S h) (fun i y ρ S hy h => step (i + 1) y ρ S hy h) h1 fin
    · simp only [e2]; exact h1
theorem lc_inv {xs : List Dat} {acc : List Dat} (Inv : Nat → Sto → List Dat → Prop) (hw : ∀ i S acc, Inv i S acc → Wat ks S0 S)
    (step : ∀ i x S acc, xs[i]? = some x → Inv i S acc → ∃ ρ1 t S1, bindP p x ρ = some ρ1 ∧ mt ρ1 S = .ok t S1 ∧ ((t = true ∧ ∃ y S2, me ρ1 S1 = .ok y S2 ∧ acc.length < sizeLine ∧ Inv (i + 1) S2 (acc ++ [y])) ∨ (t = false ∧ Inv (i + 1) S1 acc))) (h0 : Inv 0 S acc) :
    ∃ S' acc', Inv xs.length S' acc' ∧ mLcL p mt me ks S0 xs ρ S acc = .ok acc' S' := by
  induction xs generalizing Inv S acc with
  | nil => exact ⟨S, acc, h0, by rw [mLcL, if_pos (hw 0 S acc h0)]⟩
  | cons x xs ih =>
    obtain ⟨ρ1, t, S1, e1, e2, h1⟩ := step 0 x S acc rfl h0
    rw [mLcL, if_pos (hw 0 S acc h0), e1]
    simp only [e2]
    rcases h1 with ⟨rfl, y, S2, e3, l, h1⟩ | ⟨rfl, h1⟩
    · simp only [e3, if_true, if_pos l]
      exact ih (fun i => Inv (i + 1)) (fun i S acc h => hw (i + 1) S acc h) (fun i y S acc hy h => step (i + 1) y S acc hy h) h1
    · simp only [Bool.false_eq_true, if_false]
      exact ih (fun i => Inv (i + 1)) (fun i S acc h => hw (i + 1) S acc h) (fun i y S acc hy h => step (i + 1) y S acc hy h) h1
theorem lc_inv' {xs : List Dat} {acc : List Dat} {r : Res (List Dat)} (hL : mLcL p mt me ks S0 xs ρ S acc = r) (Inv : Nat → Sto → List Dat → Prop) (hw : ∀ i S acc, Inv i S acc → Wat ks S0 S)
    (step : ∀ i x S acc, xs[i]? = some x → Inv i S acc → ∃ ρ1 t S1, bindP p x ρ = some ρ1 ∧ mt ρ1 S = .ok t S1 ∧ ((t = true ∧ ∃ y S2, me ρ1 S1 = .ok y S2 ∧ acc.length < sizeLine ∧ Inv (i + 1) S2 (acc ++ [y])) ∨ (t = false ∧ Inv (i + 1) S1 acc))) (h0 : Inv 0 S acc) :
    ∃ S' acc', Inv xs.length S' acc' ∧ r = .ok acc' S' := by
  obtain ⟨S', acc', h1, h2⟩ := lc_inv (ρ := ρ) Inv hw step h0
  exact ⟨S', acc', h1, hL.symm.trans h2⟩
/-- a comprehension that leaves the cells alone -/
theorem lc_pure {xs acc : List Dat} {t : Dat → Bool} {f : Dat → Dat} (hl : acc.length + xs.length ≤ sizeLine)
    (step : ∀ x ∈ xs, ∃ ρ1, bindP p x ρ = some ρ1 ∧ mt ρ1 S = .ok (t x) S ∧ (t x = true → me ρ1 S = .ok (f x) S)) (hw : Wat ks S0 S) :
    mLcL p mt me ks S0 xs ρ S acc = .ok (acc ++ (xs.filter t).map f) S := by
  induction xs generalizing acc with
  | nil => rw [mLcL, if_pos hw]; simp
  | cons x xs ih =>
    obtain ⟨ρ1, e1, e2, e3⟩ := step x (List.mem_cons_self ..)
    have st : ∀ x ∈ xs, ∃ ρ1, bindP p x ρ = some ρ1 ∧ mt ρ1 S = .ok (t x) S ∧ (t x = true → me ρ1 S = .ok (f x) S) := fun y hy => step y (List.mem_cons_of_mem _ hy)
    rw [List.length_cons] at hl
    rw [mLcL, if_pos hw, e1]
    simp only [e2]
    by_cases h : t x = true
    · simp only [h, if_true, e3 h]
      rw [if_pos (by omega), ih (by simp; omega) st]
      simp [List.filter_cons, h]
    · rw [Bool.not_eq_true] at h
      simp only [h, Bool.false_eq_true, if_false]
      rw [ih (by omega) st]
      simp [List.filter_cons, h]
theorem lc_map {α : Type} {ys : List α} {g : α → Dat} {acc : List Dat} (f : α → Dat) (t : α → Bool) (hl : acc.length + ys.length ≤ sizeLine)
    (step : ∀ y ∈ ys, ∃ ρ1, bindP p (g y) ρ = some ρ1 ∧ mt ρ1 S = .ok (t y) S ∧ (t y = true → me ρ1 S = .ok (f y) S)) (hw : Wat ks S0 S) :
    mLcL p mt me ks S0 (ys.map g) ρ S acc = .ok (acc ++ (ys.filter t).map f) S := by
  induction ys generalizing acc with
  | nil => rw [List.map_nil, mLcL, if_pos hw]; simp
  | cons x xs ih =>
    obtain ⟨ρ1, e1, e2, e3⟩ := step x (List.mem_cons_self ..)
    have st : ∀ y ∈ xs, ∃ ρ1, bindP p (g y) ρ = some ρ1 ∧ mt ρ1 S = .ok (t y) S ∧ (t y = true → me ρ1 S = .ok (f y) S) := fun y hy => step y (List.mem_cons_of_mem _ hy)
    rw [List.length_cons] at hl
    rw [List.map_cons, mLcL, if_pos hw, e1]
    simp only [e2]
    by_cases h : t x = true
    · simp only [h, if_true, e3 h]
      rw [if_pos (by omega), ih (by simp; omega) st]
      simp [List.filter_cons, h]
    · rw [Bool.not_eq_true] at h
      simp only [h, Bool.false_eq_true, if_false]
      rw [ih (by omega) st]
      simp [List.filter_cons, h]
theorem lc_all {α : Type} {ys : List α} {g : α → Dat} {acc : List Dat} (f : α → Dat) (hl : acc.length + ys.length ≤ sizeLine)
    (step : ∀ y ∈ ys, ∃ ρ1, bindP p (g y) ρ = some ρ1 ∧ mt ρ1 S = .ok true S ∧ me ρ1 S = .ok (f y) S) (hw : Wat ks S0 S) :
    mLcL p mt me ks S0 (ys.map g) ρ S acc = .ok (acc ++ ys.map f) S := by
  rw [lc_map f (fun _ => true) hl (fun y hy => by obtain ⟨ρ1, e1, e2, e3⟩ := step y hy; exact ⟨ρ1, e1, e2, fun _ => e3⟩) hw]
  congr 3
  exact List.filter_eq_self.mpr fun _ _ => rfl
/-- dict comprehensions that leave the cells alone -/
theorem dc_pure {xs : List Dat} {acc : List (Dat × Dat)} {f g : Dat → Dat} (hl : acc.length + xs.length ≤ sizeLine)
    (step : ∀ x ∈ xs, ∃ ρ1, bindP p x ρ = some ρ1 ∧ mt ρ1 S = .ok true S ∧ mk ρ1 S = .ok (f x) S ∧ me ρ1 S = .ok (g x) S ∧ keyOk (f x) = true ∧ isTupD (f x) = false) (hw : Wat ks S0 S) :
    mDcL p mt mk me ks S0 xs ρ S acc = .ok (xs.foldl (fun a x => dput a (f x) (g x)) acc) S := by
  induction xs generalizing acc with
  | nil => rw [mDcL, if_pos hw]; simp
  | cons x xs ih =>
    obtain ⟨ρ1, e1, e2, e3, e4, e5, e6⟩ := step x (List.mem_cons_self ..)
    rw [List.length_cons] at hl
    rw [mDcL, if_pos hw, e1]
    simp only [e2, if_true, e3, e4]
    rw [if_pos ⟨by rw [e5, e6]; rfl, by omega⟩, ih ?_ fun y hy => step y (List.mem_cons_of_mem _ hy)]
    · rfl
    · unfold dput
      split
      · simp; omega
      · simp; omega
end
end PL

set_option Elab.async false
set_option linter.all false
set_option maxRecDepth 100000
set_option autoImplicit false
set_option maxHeartbeats 4000000
namespace PL
open PySem L2
/-! ### expressions -/
inductive Ex where
  | num (n : Int)
  | read (x : Str)
  | store (x : Str) (e : Ex)
  | step (x : Str) (up : Bool) (bef : Bool)
  | op (s : Str) (a b : Ex)
  | call (f : Str) (as : List Ex)
  | then_ (a b : Ex)
  | and_ (a b : Ex)
  | or_ (a b : Ex)
  | choose (a b c : Ex)
abbrev tag (s : String) : Dat := .str (Str.ofString s)
mutual
def enc : Ex → Dat
  | .num n => .int n
  | .read x => .tuple [tag "read", .str x]
  | .store x e => .tuple [tag "store", .str x, enc e]
  | .step x u b => .tuple [tag "step", .str x, .int (if u then 1 else -1), tag (if b then "before" else "after")]
  | .op s a b => .tuple [tag "op", .str s, enc a, enc b]
  | .call f as => .tuple [tag "call", .str f, .tuple (encs as)]
  | .then_ a b => .tuple [tag "then", enc a, enc b]
  | .and_ a b => .tuple [tag "and", enc a, enc b]
  | .or_ a b => .tuple [tag "or", enc a, enc b]
  | .choose a b c => .tuple [tag "choose", enc a, enc b, enc c]
def encs : List Ex → List Dat
  | [] => []
  | e :: es => enc e :: encs es
end
theorem encs_map (es : List Ex) : encs es = es.map enc := by
  induction es with
  | nil => rw [encs]; rfl
  | cons e es ih => rw [encs, ih]; rfl
def ops : Ex → List Ex
  | .num _ => []
  | .read _ => []
  | .store _ e => [e]
  | .step _ _ _ => []
  | .op _ a b => [a, b]
  | .call _ as => as
  | .then_ a b => [a, b]
  | .and_ a b => [a, b]
  | .or_ a b => [a, b]
  | .choose a b c => [a, b, c]
mutual
@[simp] theorem enc_free : ∀ e : Ex, free (enc e) = true
  | .num _ => by simp [enc]
  | .read _ => by simp [enc]
  | .store _ e => by simp [enc, enc_free e]
  | .step _ _ _ => by simp [enc]
  | .op _ a b => by simp [enc, enc_free a, enc_free b]
  | .call _ as => by simp [enc, encs_free as]
  | .then_ a b => by simp [enc, enc_free a, enc_free b]
  | .and_ a b => by simp [enc, enc_free a, enc_free b]
  | .or_ a b => by simp [enc, enc_free a, enc_free b]
  | .choose a b c => by simp [enc, enc_free a, enc_free b, enc_free c]
@[simp] theorem encs_free : ∀ e : List Ex, frees (encs e) = true
  | [] => by simp [encs]
  | e :: es => by simp [encs, enc_free e, encs_free es]
end
/-! the height -/
mutual
def ht : Ex → Nat
  | .num _ => 0
  | .read _ => 0
  | .store _ e => ht e + 1
  | .step _ _ _ => 0
  | .op _ a b => max (ht a) (ht b) + 1
  | .call _ as => hts as + 1
  | .then_ a b => max (ht a) (ht b) + 1
  | .and_ a b => max (ht a) (ht b) + 1
  | .or_ a b => max (ht a) (ht b) + 1
  | .choose a b c => max (ht a) (max (ht b) (ht c)) + 1
def hts : List Ex → Nat
  | [] => 0
  | e :: es => max (ht e) (hts es)
end
theorem ht_mem {as : List Ex} : ∀ {e : Ex}, e ∈ as → ht e ≤ hts as := by
  induction as with
  | nil => intro e h; cases h
  | cons a as ih =>
    intro e h
    rw [hts]
    rcases List.mem_cons.mp h with rfl | h
    · exact Nat.le_max_left _ _
    · exact Nat.le_trans (ih h) (Nat.le_max_right _ _)
theorem ht_ops {e x : Ex} (h : x ∈ ops e) : ht x < ht e := by
  cases e <;> simp only [ops, List.mem_cons, List.not_mem_nil, or_false] at h
  · subst h; rw [ht]; omega
  · rw [ht]; rcases h with rfl | rfl <;> omega
  · rw [ht]; have := ht_mem h; omega
  · rw [ht]; rcases h with rfl | rfl <;> omega
  · rw [ht]; rcases h with rfl | rfl <;> omega
  · rw [ht]; rcases h with rfl | rfl <;> omega
  · rw [ht]; rcases h with rfl | rfl | rfl <;> omega
theorem ht_le {e : Ex} {n : Nat} (h : ∀ x ∈ ops e, ht x ≤ n) : ht e ≤ n + 1 := by
  cases e <;> simp only [ops, List.mem_cons, List.not_mem_nil, or_false, forall_eq_or_imp, forall_eq] at h <;> rw [ht] <;> try omega
  rename_i f as
  have : hts as ≤ n := by
    induction as with
    | nil => rw [hts]; omega
    | cons a as ih =>
      rw [hts]
      have h1 := h a (List.mem_cons_self ..)
      have h2 := ih fun x hx => h x (List.mem_cons_of_mem _ hx)
      omega
  omega
theorem Ex.ind {P : Ex → Prop} (h : ∀ e, (∀ x ∈ ops e, P x) → P e) (e : Ex) : P e := by
  have : ∀ n e, ht e ≤ n → P e := by
    intro n
    induction n with
    | zero => exact fun e he => h e fun x hx => absurd (ht_ops hx) (by omega)
    | succ n ih => exact fun e he => h e fun x hx => ih x (by have := ht_ops hx; omega)
  exact this _ e (Nat.le_refl _)
/-! how many nodes -/
def sz (e : Ex) : Nat := 1 + ((ops e).attach.map fun x => sz x.1).sum
termination_by ht e
decreasing_by exact ht_ops x.2
theorem sz_eq (e : Ex) : sz e = 1 + ((ops e).map sz).sum := by
  rw [sz]
  congr 2
  exact List.attach_map_val
theorem le_sum {α : Type} {f : α → Nat} : ∀ {l : List α} {x : α}, x ∈ l → f x ≤ (l.map f).sum
  | a :: l, x, h => by
    rw [List.map_cons, List.sum_cons]
    rcases List.mem_cons.mp h with rfl | h
    · omega
    · have := le_sum (f := f) h; omega
theorem sz_ops {e x : Ex} (h : x ∈ ops e) : sz x < sz e := by
  rw [sz_eq e]
  have := le_sum (f := sz) h
  omega
theorem sz_pos (e : Ex) : 0 < sz e := by rw [sz_eq]; omega
/-! paths -/
abbrev Path := List Nat
def encP (p : Path) : Dat := .tuple (p.map fun (i : Nat) => .int (i : Int))
theorem frees_ints (p : Path) : frees (p.map fun (i : Nat) => Dat.int (i : Int)) = true := by
  rw [frees_all]; simp
@[simp] theorem encP_free (p : Path) : free (encP p) = true := by rw [encP]; simp only [free_tuple', frees_ints]
/-- all nodes, in preorder -/
def spots (p : Path) (e : Ex) : List (Path × Ex) := (p, e) :: (ops e).zipIdx.attach.flatMap fun q => spots (p ++ [q.1.2]) q.1.1
termination_by ht e
decreasing_by exact ht_ops (List.fst_mem_of_mem_zipIdx q.2)
theorem flatMap_attach' {α β : Type} (l : List α) (f : α → List β) : (l.attach.flatMap fun x => f x.1) = l.flatMap f := by
  rw [List.flatMap_subtype (g := f) (fun x h => rfl), List.unattach_attach]
theorem spots_eq (p : Path) (e : Ex) : spots p e = (p, e) :: (ops e).zipIdx.flatMap fun q => spots (p ++ [q.2]) q.1 := by
  rw [spots]
  congr 1
  exact flatMap_attach' (ops e).zipIdx fun q => spots (p ++ [q.2]) q.1
theorem spots_len (p : Path) (e : Ex) : (spots p e).length = sz e := by
  induction e using Ex.ind generalizing p with
  | h e ih =>
    rw [spots_eq, sz_eq, List.length_cons, List.length_flatMap]
    have : ∀ (l : List Ex) (k : Nat), (∀ x ∈ l, ∀ p, (spots p x).length = sz x) → ((l.zipIdx k).map fun q => (spots (p ++ [q.2]) q.1).length).sum = (l.map sz).sum := by
      intro l
      induction l with
      | nil => intro k _; rfl
      | cons a l ihl =>
        intro k hh
        rw [List.zipIdx_cons, List.map_cons, List.sum_cons, List.map_cons, List.sum_cons, hh a (List.mem_cons_self ..), ihl _ fun x hx => hh x (List.mem_cons_of_mem _ hx)]
    rw [this _ 0 fun x hx p => ih x hx p]
    omega
end PL

set_option Elab.async false
set_option linter.all false
set_option maxRecDepth 100000
set_option autoImplicit false
set_option maxHeartbeats 4000000
namespace PL
open PySem L2
/-! ### the primitives, for rewriting -/
section
variable (S : Sto) (o : Bool)
@[simp] theorem size_eq : sizeLine = 16777216 := by rw [sizeLine_eq]
@[simp] theorem binop_add : binop o .Add = opAdd o := by rw [binop]
@[simp] theorem binop_sub : binop o .Sub = opSub := by rw [binop]
@[simp] theorem binop_mul : binop o .Mult = opMul o := by rw [binop]
@[simp] theorem binop_div : binop o .FloorDiv = opDiv := by rw [binop]
@[simp] theorem binop_mod : binop o .Mod = opMod := by rw [binop]
@[simp] theorem binop_pow : binop o .Pow = opPow := by rw [binop]
@[simp] theorem opAdd_int (i j : Int) : opAdd o S (.int i) (.int j) = some (.int (i + j), S) := by rw [opAdd, look_int', look_int']
@[simp] theorem opAdd_str (a b : Str) : opAdd o S (.str a) (.str b) = if a.length + b.length ≤ sizeLine then some (.str (a ++ b), S) else none := by rw [opAdd, look_str', look_str']
@[simp] theorem opAdd_tup (a b : List Dat) : opAdd o S (.tuple a) (.tuple b) = newT (a ++ b) S := by rw [opAdd, look_tuple', look_tuple']; simp [isKt]
@[simp] theorem opAdd_lst (a b : List Dat) : opAdd o S (.list a) (.list b) = newL o (a ++ b) S := by rw [opAdd, look_list', look_list']
@[simp] theorem opSub_int (i j : Int) : opSub S (.int i) (.int j) = some (.int (i - j), S) := by rw [opSub]
@[simp] theorem opMul_int (i j : Int) : opMul o S (.int i) (.int j) = okI (CMulW i j) (i * j) S := by rw [opMul, look_int', look_int']
@[simp] theorem opDiv_int (i j : Int) : opDiv S (.int i) (.int j) = okI (CDivW i j) (i / j) S := by rw [opDiv]
@[simp] theorem opMod_int (i j : Int) : opMod S (.int i) (.int j) = okI (0 < j) (i % j) S := by rw [opMod]
@[simp] theorem opPow_int (i j : Int) : opPow S (.int i) (.int j) = okI (CPow i j) (i ^ j.toNat) S := by rw [opPow]
theorem okI_pos {c : Prop} [Decidable c] {i : Int} {S : Sto} (h : c) : okI c i S = some (.int i, S) := by rw [okI, if_pos h]
@[simp] theorem cmp_eq (x y : Dat) : cmpop .Eq S x y = (eqD S x y).bind fun b => bool1 b S := by rw [cmpop]
@[simp] theorem cmp_ne (x y : Dat) : cmpop .NotEq S x y = (eqD S x y).bind fun b => bool1 (!b) S := by rw [cmpop]
@[simp] theorem cmp_lt (i j : Int) : cmpop .Lt S (.int i) (.int j) = some (.bool (decide (i < j)), S) := by rw [cmpop, ordD]; rfl
@[simp] theorem cmp_le (i j : Int) : cmpop .LtE S (.int i) (.int j) = some (.bool (decide (i ≤ j)), S) := by rw [cmpop, ordD]; rfl
@[simp] theorem cmp_gt (i j : Int) : cmpop .Gt S (.int i) (.int j) = some (.bool (decide (j < i)), S) := by rw [cmpop, ordD]; rfl
@[simp] theorem cmp_ge (i j : Int) : cmpop .GtE S (.int i) (.int j) = some (.bool (decide (j ≤ i)), S) := by rw [cmpop, ordD]; rfl
@[simp] theorem cmp_in (x y : Dat) : cmpop .In S x y = (inD S x y).bind fun b => bool1 b S := by rw [cmpop]
@[simp] theorem cmp_nin (x y : Dat) : cmpop .NotIn S x y = (inD S x y).bind fun b => bool1 (!b) S := by rw [cmpop]
@[simp] theorem cmp_is (x : Dat) : cmpop .Is S x .none = bool1 (decide (x = .none)) S := by rw [cmpop]
@[simp] theorem cmp_isnot (x : Dat) : cmpop .IsNot S x .none = bool1 (!decide (x = .none)) S := by rw [cmpop]
@[simp] theorem eqD_ss (a b : Str) : eqD S (.str a) (.str b) = some (decide (a = b)) := by simp [eqD]
@[simp] theorem eqD_ii (a b : Int) : eqD S (.int a) (.int b) = some (decide (a = b)) := by simp [eqD]
@[simp] theorem eqD_bb (a b : Bool) : eqD S (.bool a) (.bool b) = some (a == b) := by simp [eqD]
@[simp] theorem eqD_lnil (a : List Dat) : eqD S (.list a) (.list []) = some a.isEmpty := by simp [eqD]
@[simp] theorem inD_tup (x : Dat) (xs : List Dat) : inD S x (.tuple xs) = inSeq S x xs := by rw [inD, look_tuple']
@[simp] theorem inD_kt (x : Dat) (xs : List Dat) : inD S x (.kt xs) = inSeq S x xs := by rw [inD, look_kt']
@[simp] theorem inD_list (x : Dat) (xs : List Dat) : inD S x (.list xs) = inSeq S x xs := by rw [inD, look_list']
@[simp] theorem inD_kd (x : Str) (kvs : List (Dat × Dat)) : inD S (.str x) (.kd kvs) = some (dget kvs (.str x)).isSome := by rw [inD, look_kd']
@[simp] theorem inD_dict (x : Dat) (kvs : List (Dat × Dat)) : inD S x (.dict kvs) = if keyFits kvs x then some (dget kvs x).isSome else none := by rw [inD, look_dict']
@[simp] theorem inD_str (a b : Str) : inD S (.str a) (.str b) = some (inStr a b) := by rw [inD, look_str']
@[simp] theorem atD_tuple' (xs : List Dat) (i : Int) : atD S (.tuple xs) (.int i) = (atI xs i).bind fun d => some (d, S) := by rw [atD, look_tuple']; rfl
@[simp] theorem atD_kt' (xs : List Dat) (i : Int) : atD S (.kt xs) (.int i) = (atI xs i).bind fun d => some (d, S) := by rw [atD, look_kt']; rfl
@[simp] theorem atD_list' (xs : List Dat) (i : Int) : atD S (.list xs) (.int i) = (atI xs i).bind fun d => some (d, S) := by rw [atD, look_list']; rfl
@[simp] theorem atD_dict' (kvs : List (Dat × Dat)) (y : Dat) : atD S (.dict kvs) y = if keyFits kvs y then (dget kvs y).bind fun d => some (d, S) else none := by rw [atD, look_dict']; rfl
@[simp] theorem atD_kd' (kvs : List (Dat × Dat)) (y : Str) : atD S (.kd kvs) (.str y) = (dget kvs (.str y)).bind fun d => some (d, S) := by rw [atD, look_kd']; rfl
@[simp] theorem sl_tuple (xs : List Dat) (lo hi : Option Int) : sliceD o S (.tuple xs) lo hi = newT (cutD xs lo hi) S := by rw [sliceD, look_tuple']; simp [isKt]
@[simp] theorem sl_list (xs : List Dat) (lo hi : Option Int) : sliceD o S (.list xs) lo hi = newL o (cutD xs lo hi) S := by rw [sliceD, look_list']
@[simp] theorem biD_1 (b : Bi) (x : Dat) : biD b o S [x] = bi1 b o S x := by rw [biD]
@[simp] theorem biD_2 (b : Bi) (x y : Dat) : biD b o S [x, y] = bi2 b S x y := by rw [biD]
@[simp] theorem bi_len (x : Dat) : bi1 .len o S x = lenD S x := by rw [bi1]
@[simp] theorem bi_abs (x : Int) : bi1 .abs o S (.int x) = some (.int (if x < 0 then -x else x), S) := by rw [bi1, absD]
@[simp] theorem bi_int (x : Int) : bi1 .int o S (.int x) = some (.int x, S) := by rw [bi1, intB]
@[simp] theorem bi_intb (x : Bool) : bi1 .int o S (.bool x) = some (.int (if x then 1 else 0), S) := by rw [bi1, intB]
@[simp] theorem bi_all (xs : List Dat) : bi1 .all o S (.list xs) = (boolsOf xs).bind fun bs => some (.bool (bs.all id), S) := by rw [bi1, lstOf, look_list']; rfl
@[simp] theorem bi_any (xs : List Dat) : bi1 .any o S (.list xs) = (boolsOf xs).bind fun bs => some (.bool (bs.any id), S) := by rw [bi1, lstOf, look_list']; rfl
@[simp] theorem bi_tuple (xs : List Dat) : bi1 .tuple o S (.list xs) = newT xs S := by rw [bi1, tupleD, look_list']
@[simp] theorem bi_sorted (xs : List Dat) : bi1 .sorted o S (.list xs) = if sortable S xs then newL o (sortD S xs) S else none := by rw [bi1, srcS, look_list']; rfl
@[simp] theorem bi_max2 (i j : Int) : bi2 .max2 S (.int i) (.int j) = some (.int (if j > i then j else i), S) := by rw [bi2, int2]
@[simp] theorem bi_min2 (i j : Int) : bi2 .min2 S (.int i) (.int j) = some (.int (if j < i then j else i), S) := by rw [bi2, int2]
@[simp] theorem bi_repr (x : Dat) : bi1 .repr o S x = reprD S x := by rw [bi1]
@[simp] theorem len_tup (xs : List Dat) : lenD S (.tuple xs) = some (.int xs.length, S) := by rw [lenD, look_tuple']
@[simp] theorem len_kt (xs : List Dat) : lenD S (.kt xs) = some (.int xs.length, S) := by rw [lenD, look_kt']
@[simp] theorem len_lst (xs : List Dat) : lenD S (.list xs) = some (.int xs.length, S) := by rw [lenD, look_list']
@[simp] theorem len_dict (xs : List (Dat × Dat)) : lenD S (.dict xs) = some (.int xs.length, S) := by rw [lenD, look_dict']
@[simp] theorem len_str (z : Str) : lenD S (.str z) = if z.length ≤ sizeLine then some (.int z.length, S) else none := by rw [lenD, look_str']
@[simp] theorem seq_tup (xs : List Dat) : seqOf S (.tuple xs) = some xs := by rw [seqOf, look_tuple']
@[simp] theorem seq_lst (xs : List Dat) : seqOf S (.list xs) = some xs := by rw [seqOf, look_list']
@[simp] theorem seq_kt (xs : List Dat) : seqOf S (.kt xs) = some xs := by rw [seqOf, look_kt']
@[simp] theorem itM_lst (xs : List Dat) : itemsM S (.list xs) = some (xs, []) := by rw [itemsM]
@[simp] theorem itM_tup (xs : List Dat) : itemsM S (.tuple xs) = some (xs, []) := by rw [itemsM]
@[simp] theorem itM_kt (xs : List Dat) : itemsM S (.kt xs) = some (xs, []) := by rw [itemsM]
@[simp] theorem itM_str (x : Str) : itemsM S (.str x) = some (x.cps.toList.map charD, []) := by rw [itemsM]
@[simp] theorem itL_lst (xs : List Dat) : itemsL S (.list xs) = some (xs, []) := by rw [itemsL]
@[simp] theorem itL_tup (xs : List Dat) : itemsL S (.tuple xs) = some (xs, []) := by rw [itemsL]
@[simp] theorem fld_ins (C : Str) (fs : List (Str × Dat)) (f : Str) : fldD S (.ins C fs) f = (fs.lookup f).bind fun d => some (d, S) := by rw [fldD, look_ins']
@[simp] theorem isInst_ins (C D : Str) (fs : List (Str × Dat)) : isInst S (.ins C fs) D = decide (C = D) := by rw [isInst, look_ins']
@[simp] theorem keyOk_int (i : Int) : keyOk (.int i) = true := by rw [keyOk]
@[simp] theorem keyOk_str (i : Str) : keyOk (.str i) = true := by rw [keyOk]
@[simp] theorem isTup_int (i : Int) : isTupD (.int i) = false := by rw [isTupD] <;> simp
@[simp] theorem isTup_str (i : Str) : isTupD (.str i) = false := by rw [isTupD] <;> simp
@[simp] theorem isTup_tup (i : List Dat) : isTupD (.tuple i) = true := by rw [isTupD]
@[simp] theorem mBoolF_b (n b : Bool) : mBoolF n (.bool b) S = .ok (.bool (if n then !b else b)) S := by rw [mBoolF]
@[simp] theorem boolsOf_map {α : Type} (f : α → Bool) : ∀ xs : List α, boolsOf (xs.map fun x => Dat.bool (f x)) = some (xs.map f)
  | [] => by simp [boolsOf]
  | x :: xs => by simp [boolsOf, boolsOf_map f xs]
@[simp] theorem at0 {α : Type} (a : α) (l : List α) : atI (a :: l) 0 = some a := by simp [atI, ixN]
@[simp] theorem at1 {α : Type} (a b : α) (l : List α) : atI (a :: b :: l) 1 = some b := by
  unfold atI ixN
  simp only [List.length_cons]
  rw [if_pos (by omega), if_pos (by omega)]; rfl
@[simp] theorem at2 {α : Type} (a b c : α) (l : List α) : atI (a :: b :: c :: l) 2 = some c := by
  unfold atI ixN
  simp only [List.length_cons]
  rw [if_pos (by omega), if_pos (by omega)]; rfl
@[simp] theorem at3 {α : Type} (a b c d : α) (l : List α) : atI (a :: b :: c :: d :: l) 3 = some d := by
  unfold atI ixN
  simp only [List.length_cons]
  rw [if_pos (by omega), if_pos (by omega)]; rfl
theorem atI_nat {α : Type} {xs : List α} {i : Nat} (h : i < xs.length) : atI xs (i : Int) = some xs[i] := by
  unfold atI ixN
  rw [if_pos (by omega), if_pos (by omega)]
  simp [h]
theorem cut_from {α : Type} (xs : List α) (k : Nat) : cutD xs (some (k : Int)) none = xs.drop k := by
  unfold cutD
  rw [HT.sIx_nat, HT.sIx_none]
  by_cases h : k ≤ xs.length
  · rw [Nat.min_eq_left h, List.take_of_length_le (by simp)]
  · rw [Nat.min_eq_right (by omega), List.drop_eq_nil_of_le (by omega : xs.length ≤ k)]; simp
theorem cut_to {α : Type} (xs : List α) (k : Nat) : cutD xs none (some (k : Int)) = xs.take k := by
  unfold cutD
  rw [HT.sIx_nat, HT.sIx_none]
  by_cases h : k ≤ xs.length
  · rw [Nat.min_eq_left h]; simp
  · rw [Nat.min_eq_right (by omega), List.take_of_length_le (by omega : xs.length ≤ k)]; simp
@[simp] theorem cut_1 {α : Type} (xs : List α) : cutD xs (some 1) none = xs.drop 1 := cut_from xs 1
@[simp] theorem cut_2 {α : Type} (xs : List α) : cutD xs (some 2) none = xs.drop 2 := cut_from xs 2
@[simp] theorem cut_t2 {α : Type} (xs : List α) : cutD xs none (some 2) = xs.take 2 := cut_to xs 2
@[simp] theorem cut_t1 {α : Type} (xs : List α) : cutD xs none (some 1) = xs.take 1 := cut_to xs 1
end
end PL

set_option Elab.async false
set_option linter.all false
set_option maxRecDepth 100000
set_option autoImplicit false
set_option maxHeartbeats 4000000
namespace PL
open PySem L2
@[simp] theorem lookup_cons' (k a : Str) (b : Dat) (es : List (Str × Dat)) : List.lookup k ((a, b) :: es) = if k = a then some b else List.lookup k es := by
  rw [List.lookup_cons]
  by_cases h : k = a
  · subst h; simp
  · rw [if_neg h, (beq_eq_false_iff_ne).mpr h]
@[simp] theorem lookup_nil' (k : Str) : List.lookup k ([] : List (Str × Dat)) = none := Eq.trans rfl rfl
/-! ### data that can be compared -/
mutual
def toP : Dat → PyData
  | .none => .none
  | .bool b => .bool b
  | .int i => .int i
  | .str x => .str x
  | .list xs => .list (toPs xs)
  | .tuple xs => .tuple (toPs xs)
  | .kt xs => .tuple (toPs xs)
  | _ => .none
def toPs : List Dat → List PyData
  | [] => []
  | x :: xs => toP x :: toPs xs
end
mutual
def clean : Dat → Bool
  | .none => true
  | .bool _ => true
  | .int _ => true
  | .str _ => true
  | .list xs => cleans xs
  | .tuple xs => cleans xs
  | .kt xs => cleans xs
  | _ => false
def cleans : List Dat → Bool
  | [] => true
  | x :: xs => clean x && cleans xs
end
mutual
theorem pd_clean' (S : Sto) (f : Nat) : ∀ d : Dat, clean d = true → toPD S f d = some (toP d)
  | .none, _ => by simp [toPD, toP]
  | .bool b, _ => by simp [toPD, toP]
  | .int i, _ => by simp [toPD, toP]
  | .str x, _ => by simp [toPD, toP]
  | .list xs, h => by rw [clean] at h; simp [toPD, toP, pds_clean' S f xs h]
  | .tuple xs, h => by rw [clean] at h; simp [toPD, toP, pds_clean' S f xs h]
  | .kt xs, h => by rw [clean] at h; simp [toPD, toP, pds_clean' S f xs h]
  | .ins _ _, h => by simp [clean] at h
  | .dict _, h => by simp [clean] at h
  | .kd _, h => by simp [clean] at h
  | .own _, h => by simp [clean] at h
theorem pds_clean' (S : Sto) (f : Nat) : ∀ ds : List Dat, cleans ds = true → toPDs S f ds = some (toPs ds)
  | [], _ => by simp [toPDs, toPs]
  | d :: ds, h => by
    rw [cleans, Bool.and_eq_true] at h
    simp [toPDs, toPs, pd_clean' S f d h.1, pds_clean' S f ds h.2]
end
theorem pd_clean {S : Sto} {d : Dat} (h : clean d = true) : pd S d = some (toP d) := pd_clean' S _ d h
@[simp] theorem toP_none : toP .none = .none := by rw [toP]
@[simp] theorem toP_bool (b : Bool) : toP (.bool b) = .bool b := by rw [toP]
@[simp] theorem toP_int (b : Int) : toP (.int b) = .int b := by rw [toP]
@[simp] theorem toP_str (b : Str) : toP (.str b) = .str b := by rw [toP]
@[simp] theorem toP_list (b : List Dat) : toP (.list b) = .list (toPs b) := by rw [toP]
@[simp] theorem toP_tuple (b : List Dat) : toP (.tuple b) = .tuple (toPs b) := by rw [toP]
@[simp] theorem toP_kt (b : List Dat) : toP (.kt b) = .tuple (toPs b) := by rw [toP]
theorem toPs_map (xs : List Dat) : toPs xs = xs.map toP := by
  induction xs with
  | nil => rw [toPs]; rfl
  | cons x xs ih => rw [toPs, ih]; rfl
@[simp] theorem clean_none : clean .none = true := by rw [clean]
@[simp] theorem clean_bool (b : Bool) : clean (.bool b) = true := by rw [clean]
@[simp] theorem clean_int (b : Int) : clean (.int b) = true := by rw [clean]
@[simp] theorem clean_str (b : Str) : clean (.str b) = true := by rw [clean]
@[simp] theorem clean_list (b : List Dat) : clean (.list b) = cleans b := by rw [clean]
@[simp] theorem clean_tuple (b : List Dat) : clean (.tuple b) = cleans b := by rw [clean]
@[simp] theorem clean_kt (b : List Dat) : clean (.kt b) = cleans b := by rw [clean]
@[simp] theorem cleans_nil : cleans [] = true := by rw [cleans]
@[simp] theorem cleans_cons (d : Dat) (ds : List Dat) : cleans (d :: ds) = (clean d && cleans ds) := by rw [cleans]
theorem cleans_all {xs : List Dat} : cleans xs = xs.all clean := by
  induction xs with
  | nil => simp
  | cons x xs ih => simp [ih]
@[simp] theorem cleans_append (a b : List Dat) : cleans (a ++ b) = (cleans a && cleans b) := by simp [cleans_all]
mutual
@[simp] theorem enc_clean : ∀ e : Ex, clean (enc e) = true
  | .num _ => by simp [enc]
  | .read _ => by simp [enc]
  | .store _ e => by simp [enc, enc_clean e]
  | .step _ _ _ => by simp [enc]
  | .op _ a b => by simp [enc, enc_clean a, enc_clean b]
  | .call _ as => by simp [enc, encs_clean as]
  | .then_ a b => by simp [enc, enc_clean a, enc_clean b]
  | .and_ a b => by simp [enc, enc_clean a, enc_clean b]
  | .or_ a b => by simp [enc, enc_clean a, enc_clean b]
  | .choose a b c => by simp [enc, enc_clean a, enc_clean b, enc_clean c]
@[simp] theorem encs_clean : ∀ e : List Ex, cleans (encs e) = true
  | [] => by simp [encs]
  | e :: es => by simp [encs, enc_clean e, encs_clean es]
end
theorem cleans_ints (p : Path) : cleans (p.map fun (i : Nat) => Dat.int (i : Int)) = true := by rw [cleans_all]; simp
@[simp] theorem encP_clean (p : Path) : clean (encP p) = true := by rw [encP]; simp only [clean_tuple, cleans_ints]
theorem eqD_tnil {S : Sto} {xs : List Dat} (h : cleans xs = true) : eqD S (.tuple xs) (.tuple []) = some xs.isEmpty := by
  have e1 : pd S (.tuple xs) = some (toP (.tuple xs)) := pd_clean (by simpa using h)
  have e2 : pd S (.tuple []) = some (toP (.tuple [])) := pd_clean (by simp)
  unfold eqD
  simp only [flat_tuple, Bool.false_and, Bool.false_eq_true, if_false, look_tuple', e1, e2, bind_some', toP_tuple]
  rw [if_pos (by simp [toPs, PyData.depth, PyData.depthAll])]
  cases xs <;> simp [toPs, PyData.eqv, PyData.eqvAll]
/-! ### the order of data -/
open PySem.W PyProof.Rows in
theorem dataLt_total {p q : PyData} (h : dataLt p q = false) (n : keyToks p ≠ keyToks q) : dataLt q p = true := by
  cases e : dataLt q p with
  | true => rfl
  | false => exact absurd (lex_total (O := itemOrd) _ _ h e) n
/-- sorting what is encoded -/
theorem sortD_map {α : Type} {S : Sto} {l : List α} (g : α → Dat) (h : ∀ a ∈ l, clean (g a) = true) : sortD S (l.map g) = (l.mergeSort (PySem.W.dataLe false fun a => toP (g a))).map g := by
  unfold sortD
  refine (List.map_mergeSort fun a ha b hb => ?_).symm
  unfold PySem.W.dataLe PySem.W.sortLe keyD
  simp only [pd_clean (h a ha), pd_clean (h b hb)]
  rfl
open PySem.W PyProof.Rows in
theorem sort_pair {α : Type} (k : α → PyData) (l : List α) : (l.mergeSort (dataLe false k)).Pairwise fun a b => dataLt (k b) (k a) = false := by
  refine (sort_pairwise (sortLe_total (listOrd itemOrd) false fun b => keyToks (k b)) l).imp fun {a b} h => ?_
  unfold sortLe at h
  simp only [cond_false, Bool.not_eq_true'] at h
  exact h
/-! paths -/
def pP (p : Path) : PyData := .tuple (p.map fun (i : Nat) => .int (i : Int))
@[simp] theorem toP_encP (p : Path) : toP (encP p) = pP p := by
  rw [encP, toP_tuple, toPs_map, List.map_map, pP]; simp [Function.comp_def]
open PySem.W in
theorem toks_path (p : Path) : keyToks (pP p) = (p.flatMap fun (i : Nat) => [.inl 1, .inl (i : Int)]) ++ [.inl 0] := by
  rw [pP, keyToks]
  induction p with
  | nil => simp [keyToksAll]
  | cons i p ih => simp [keyToksAll, keyToks, ih]
theorem toks_inj {p q : Path} (h : PySem.W.keyToks (pP p) = PySem.W.keyToks (pP q)) : p = q := by
  rw [toks_path, toks_path] at h
  induction p generalizing q with
  | nil =>
    cases q with
    | nil => rfl
    | cons j q => simp at h
  | cons i p ih =>
    cases q with
    | nil => simp at h
    | cons j q =>
      simp only [List.flatMap_cons, List.cons_append, List.nil_append, List.cons.injEq, true_and, Sum.inl.injEq] at h
      obtain ⟨h1, h2⟩ := h
      have : i = j := by omega
      rw [this, ih h2]
theorem alike_path : ∀ p q : Path, PySem.W.alike (pP p) (pP q) = true := by
  intro p q
  rw [pP, pP, PySem.W.alike]
  induction p generalizing q with
  | nil => simp [PySem.W.alikeAll]
  | cons i p ih =>
    cases q with
    | nil => simp [PySem.W.alikeAll]
    | cons j q => simp [PySem.W.alikeAll, PySem.W.alike, ih]
theorem depth_ints (p : Path) : PyData.depthAll (p.map fun (i : Nat) => PyData.int (i : Int)) = 0 := by
  induction p with
  | nil => simp [PyData.depthAll]
  | cons i p ih => simp [PyData.depthAll, PyData.depth, ih]
theorem depth_path (p : Path) : (pP p).depth = 1 := by rw [pP, PyData.depth, depth_ints]
def ltP (p q : Path) : Bool := PySem.W.dataLt (pP p) (pP q)
theorem cmp_lt_path (S : Sto) (p q : Path) : cmpop .Lt S (encP p) (encP q) = some (.bool (ltP p q), S) := by
  have e1 : pd S (encP p) = some (pP p) := by rw [pd_clean (by simp), toP_encP]
  have e2 : pd S (encP q) = some (pP q) := by rw [pd_clean (by simp), toP_encP]
  rw [cmpop, ordD]
  · simp only [e1, e2, bind_some', alike_path, depth_path, Bool.true_and]
    rw [if_pos (by simp [notNone, pP])]
    rfl
  · intro i j h; simp [encP] at h
def sortP (l : List Path) : List Path := l.mergeSort (PySem.W.dataLe false pP)
theorem sortP_perm (l : List Path) : (sortP l).Perm l := List.mergeSort_perm _ _
theorem sortP_pair (l : List Path) : (sortP l).Pairwise fun a b => ltP b a = false := sort_pair pP l
theorem ltP_of {p q : Path} (h : ltP q p = false) (n : p ≠ q) : ltP p q = true := dataLt_total h fun e => n (toks_inj e).symm
theorem sortP_strict {l : List Path} (h : l.Nodup) : (sortP l).Pairwise fun a b => ltP a b = true := by
  have nd : (sortP l).Nodup := (sortP_perm l).nodup_iff.mpr h
  exact List.Pairwise.imp₂ (fun a b h1 h2 => ltP_of h1 h2) (sortP_pair l) nd
theorem sortD_paths (S : Sto) (l : List Path) : sortD S (l.map encP) = (sortP l).map encP := by
  rw [sortD_map encP (fun a _ => by simp)]
  simp only [toP_encP]; rfl
theorem sortable_paths (S : Sto) (l : List Path) : sortable S (l.map encP) = true := by
  unfold sortable
  rw [List.all_eq_true]
  intro x hx
  obtain ⟨p, _, rfl⟩ := List.mem_map.mp hx
  have e1 : ∀ p, pd S (encP p) = some (pP p) := fun p => by rw [pd_clean (by simp), toP_encP]
  simp only [keyD, e1, Option.getD_some, Option.isSome_some, depth_path, Bool.true_and, Bool.and_eq_true, List.all_eq_true]
  refine ⟨⟨by simp [pP, notNone], by decide⟩, fun y hy => ?_⟩
  obtain ⟨q, _, rfl⟩ := List.mem_map.mp hy
  rw [e1]; exact alike_path p q
end PL

set_option Elab.async false
set_option linter.all false
set_option maxRecDepth 100000
set_option autoImplicit false
set_option maxHeartbeats 4000000
namespace PL
open PySem L2
def f_law : Fd := ⟨1, 13, true, (.cons (.for_ (.rng1 (.bi .max2 false (.cons (.con (.int 2)) (.cons (.bi .min2 false (.cons (.con (.int 5)) (.cons (.bi .len false (.cons (.var 0) .nil)) .nil))) .nil)))) (.nm 1) (.cons (.set 2 (.call (Str.ofString "_law_bag") (.cons (.var 0) (.cons (.var 1) .nil)) .nil .all))
  (.cons (.for_ (.rng1 (.con (.int 4))) (.nm 3) (.cons (.set 4 (.call (Str.ofString "_law_kit") (.cons (.var 2) (.cons (.con (.bool true)) .nil)) .nil .all))
  (.cons (.par2 7 8 (.call (Str.ofString "_law_book") (.cons (.idx (.var 4) (.con (.str (Str.ofString "functions")))) .nil) .nil .all) (.call (Str.ofString "_law_root") (.cons (.var 2) (.cons (.var 4) (.cons (.call (Str.ofString "_law_take") (.cons (.var 2) (.cons (.con (.int 17)) .nil)) .nil .all) .nil))) .nil .all))
  (.cons (.set 5 (.make (Str.ofString "Task") (Str.ofString "Task.__init__") (.cons (.var 7) (.cons (.var 8) .nil)) (.cons (.call (Str.ofString "_law_points") (.cons (.var 2) (.cons (.var 8) .nil)) .nil .all) .nil) (.by_ 2 false [(Str.ofString "points")] [.p 0, .p 1, .k 0])))
  (.cons (.par2 9 10 (.call (Str.ofString "_law_steps") (.cons (.idx (.var 4) (.con (.str (Str.ofString "functions")))) (.cons (.var 8) (.cons (.tup .nil) .nil))) .nil .all) (.call (Str.ofString "steps") (.cons (.var 5) .nil) .nil .all))
  (.cons (.ite (.or (.not (.tru (.isi (.var 10) [.list] false))) (.or (.tru (.cmp .NotEq (.bi .repr false (.cons (.var 10) .nil)) (.bi .repr false (.cons (.var 9) .nil)))) (.tru (.cmp .NotEq (.lenO (Str.ofString "Task") (Str.ofString "Task.__len__") (.var 5)) (.bi .len false (.cons (.var 9) .nil)))))) (.cons (.ret (.con (.bool false)))
  .nil) .nil)
  (.cons (.expr (.bm .append (.var 10) (.cons (.con .none) .nil)))
  (.cons (.par2 11 12 (.bi .repr false (.cons (.var 10) .nil)) (.call (Str.ofString "_law_exchanged") (.cons (.idx (.var 4) (.con (.str (Str.ofString "functions")))) .nil) .nil .all))
  (.cons (.ite (.or (.tru (.cmp .NotEq (.bi .repr false (.cons (.call (Str.ofString "steps") (.cons (.var 5) .nil) .nil .all) .nil)) (.bi .repr false (.cons (.var 9) .nil)))) (.tru (.cmp .NotEq (.bi .repr false (.cons (.call (Str.ofString "steps") (.cons (.make (Str.ofString "Task") (Str.ofString "Task.__init__") (.cons (.var 7) (.cons (.var 8) .nil)) .nil (.by_ 2 false [] [.p 0, .p 1, .d (.kt [])])) .nil) .nil .all) .nil)) (.bi .repr false (.cons (.var 9) .nil))))) (.cons (.ret (.con (.bool false)))
  .nil) .nil)
  (.cons (.set 6 (.call (Str.ofString "_law_steps") (.cons (.var 12) (.cons (.var 8) (.cons (.tup .nil) .nil))) .nil .all))
  (.cons (.ite (.or (.tru (.cmp .NotEq (.bi .repr false (.cons (.call (Str.ofString "steps") (.cons (.make (Str.ofString "Task") (Str.ofString "Task.__init__") (.cons (.call (Str.ofString "_law_book") (.cons (.var 12) .nil) .nil .all) (.cons (.var 8) .nil)) .nil (.by_ 2 false [] [.p 0, .p 1, .d (.kt [])])) .nil) .nil .all) .nil)) (.bi .repr false (.cons (.var 6) .nil)))) (.tru (.cmp .NotEq (.bi .repr false (.cons (.var 10) .nil)) (.var 11)))) (.cons (.ret (.con (.bool false)))
  .nil) .nil)
  .nil)))))))))) .nil)
  .nil)) .nil)
  (.cons (.ret (.con (.bool true)))
  .nil))⟩
def f_Task___init__ : Fd := ⟨4, 8, true, (.cons (.set 4 (.call (Str.ofString "first_wrong") (.cons (.var 1) (.cons (.var 2) (.cons (.tup .nil) .nil))) .nil .all))
  (.cons (.ite (.tru (.cmp .IsNot (.var 4) (.con .none))) (.cons .never
  .nil) .nil)
  (.cons (.setF (.var 0) (Str.ofString "book") (.var 1))
  (.cons (.setF (.var 0) (Str.ofString "expression") (.var 2))
  (.cons (.setF (.var 0) (Str.ofString "table") (.bi .dict false (.cons (.call (Str.ofString "spots_in") (.cons (.var 2) (.cons (.tup .nil) .nil)) .nil .all) .nil)))
  (.cons (.ite (.tru (.cmp .Gt (.bi .len false (.cons (.fld (.var 0) (Str.ofString "table")) .nil)) (.ccon (Str.ofString "Task") (Str.ofString "MOST_NODES") (.int 200)))) (.cons .never
  .nil) .nil)
  (.cons (.ite (.tru (.cmp .GtE (.bi .maxL false (.cons (.lc false (.keys (.fld (.var 0) (Str.ofString "table"))) (.nm 5) .yes (.bi .len false (.cons (.var 5) .nil)) [5]) .nil)) (.ccon (Str.ofString "Task") (Str.ofString "MOST_DEPTH") (.int 30)))) (.cons .never
  .nil) .nil)
  (.cons (.ite (.not (.tru (.meth (Str.ofString "Task") (Str.ofString "are_points") (Str.ofString "Task.are_points") (.var 0) (.cons (.var 3) .nil) .nil .all))) (.cons .never
  .nil) .nil)
  (.cons (.setF (.var 0) (Str.ofString "points") (.var 3))
  (.cons (.setF (.var 0) (Str.ofString "owners") (.lc2 false (.items (.fld (.var 0) (Str.ofString "table"))) (.tp [(.nm 5), (.nm 7)]) .yes (.rng1 (.call (Str.ofString "own_steps_of") (.cons (.var 7) .nil) .nil .all)) (.nm 6) .yes (.var 5) [5, 7, 6] [6]))
  .nil))))))))))⟩
def f_Task___len__ : Fd := ⟨1, 1, true, (.cons (.ret (.bi .len false (.cons (.fld (.var 0) (Str.ofString "owners")) .nil)))
  .nil)⟩
def f__law_bag : Fd := ⟨2, 4, false, (.cons (.set 2 (.ife (.tru (.cmp .Lt (.var 1) (.bi .len false (.cons (.var 0) .nil)))) (.bi .int false (.cons (.idx (.var 0) (.var 1)) .nil)) (.con (.int 0))))
  (.cons (.set 3 (.ife (.tru (.cmp .GtE (.bi .abs false (.cons (.var 2) .nil)) (.bin false .Pow (.con (.int 10)) (.con (.int 18))))) (.bi .abs false (.cons (.var 2) .nil)) (.con (.int 0))))
  (.cons (.ret (.lst true (.cons (.var 3) (.cons (.bin false .Mod (.bin false .Mult (.bi .int false (.cons (.bin false .Add (.bin false .Add (.bin false .Mod (.var 2) (.con (.int 2305843009213693951))) (.bin false .Mult (.con (.int 7919)) (.var 1))) (.con (.int 8070))) .nil)) (.con (.int 16807))) (.con (.int 2305843009213693951))) (.cons (.con (.int 0)) .nil)))))
  .nil)))⟩
def f__law_book : Fd := ⟨1, 3, true, (.cons (.set 1 (.lc false (.seq (.var 0)) (.nm 2) .yes (.make (Str.ofString "Function") (Str.ofString "Function.__init__") (.cons (.idx (.var 2) (.con (.int 0))) (.cons (.idx (.var 2) (.con (.int 1))) .nil)) (.cons (.idx (.var 2) (.con (.int 2))) (.cons (.idx (.var 2) (.con (.int 3))) .nil)) (.by_ 2 false [(Str.ofString "reads"), (Str.ofString "stores")] [.p 0, .p 1, .k 0, .k 1])) [2]))
  (.cons (.ite (.tru (.cmp .Lt (.bi .len false (.cons (.var 1) .nil)) (.con (.int 2)))) (.cons (.ret (.ife (.tru (.cmp .Eq (.var 1) (.lst false .nil))) (.make (Str.ofString "Book") (Str.ofString "Book.__init__") .nil .nil (.by_ 0 true [] [.r 0])) (.make (Str.ofString "Book") (Str.ofString "Book.__init__") (.cons (.idx (.var 1) (.con (.int 0))) .nil) .nil (.by_ 0 true [] [.r 0]))))
  .nil) .nil)
  (.cons (.ret (.ife (.tru (.cmp .Eq (.bi .len false (.cons (.var 1) .nil)) (.con (.int 2)))) (.make (Str.ofString "Book") (Str.ofString "Book.__init__") (.cons (.idx (.var 1) (.con (.int 0))) (.cons (.idx (.var 1) (.con (.int 1))) .nil)) .nil (.by_ 0 true [] [.r 0])) (.make (Str.ofString "Book") (Str.ofString "Book.__init__") (.cons (.idx (.var 1) (.con (.int 0))) (.cons (.idx (.var 1) (.con (.int 1))) (.cons (.idx (.var 1) (.con (.int 2))) .nil))) .nil (.by_ 0 true [] [.r 0]))))
  .nil)))⟩
def f__law_exchanged : Fd := ⟨1, 2, true, (.cons (.ret (.lc false (.seq (.var 0)) (.nm 1) .yes (.bin false .Add (.sl false (.var 1) .no (.so (.con (.int 2)))) (.tup (.cons (.idx (.var 1) (.con (.int 3))) (.cons (.idx (.var 1) (.con (.int 2))) .nil)))) [1]))
  .nil)⟩
def f__law_kit : Fd := ⟨2, 7, true, (.cons (.set 2 (.lst false (.cons (.lst false (.cons (.con (.str (Str.ofString "x"))) (.cons (.con (.str (Str.ofString "y"))) (.cons (.con (.str (Str.ofString "z"))) (.cons (.con (.str (Str.ofString "w"))) .nil))))) (.cons (.lst false (.cons (.con (.str (Str.ofString "a"))) (.cons (.con (.str (Str.ofString "aa"))) (.cons (.con (.str (Str.ofString "aaa"))) (.cons (.con (.str (Str.ofString "aaaaaaaa"))) .nil))))) (.cons (.lst false (.cons (.con (.str (Str.ofString "f"))) (.cons (.con (.str (Str.ofString "g"))) (.cons (.con (.str (Str.ofString "h"))) (.cons (.con (.str (Str.ofString "x"))) .nil))))) (.cons (.lst false (.cons (.con (.str (Str.ofString "zb"))) (.cons (.con (.str (Str.ofString "zc"))) (.cons (.con (.str (Str.ofString "b"))) (.cons (.con (.str (Str.ofString "c"))) .nil))))) .nil))))))
  (.cons (.set 3 (.call (Str.ofString "_law_of") (.cons (.var 0) (.cons (.var 2) .nil)) .nil .all))
  (.cons (.set 4 (.call (Str.ofString "_law_of") (.cons (.var 0) (.cons (.lst false (.cons (.lst false (.cons (.con (.str (Str.ofString "f"))) (.cons (.con (.str (Str.ofString "g"))) (.cons (.con (.str (Str.ofString "h"))) .nil)))) (.cons (.lst false (.cons (.con (.str (Str.ofString "a"))) (.cons (.con (.str (Str.ofString "ab"))) (.cons (.con (.str (Str.ofString "abcdefgh"))) .nil)))) (.cons (.lst false (.cons (.con (.str (Str.ofString "x"))) (.cons (.con (.str (Str.ofString "f"))) (.cons (.con (.str (Str.ofString "zz"))) .nil)))) .nil)))) .nil)) .nil .all))
  (.cons (.set 5 (.lst true .nil))
  (.cons (.for_ (.seq (.sl false (.var 4) .no (.so (.call (Str.ofString "_law_take") (.cons (.var 0) (.cons (.con (.int 4)) .nil)) .nil .all)))) (.nm 6) (.cons (.expr (.bm .append (.var 5) (.cons (.tup (.cons (.var 6) (.cons (.call (Str.ofString "_law_take") (.cons (.var 0) (.cons (.con (.int 4)) .nil)) .nil .all) (.cons (.call (Str.ofString "_law_some") (.cons (.var 0) (.cons (.var 3) .nil)) .nil .all) (.cons (.call (Str.ofString "_law_some") (.cons (.var 0) (.cons (.var 3) .nil)) .nil .all) .nil))))) .nil)))
  .nil) .nil)
  (.cons (.ret (.dic false [(.str (Str.ofString "places")), (.str (Str.ofString "functions")), (.str (Str.ofString "guards"))] (.cons (.var 3) (.cons (.var 5) (.cons (.var 1) .nil)))))
  .nil))))))⟩
def f__law_points : Fd := ⟨2, 4, true, (.cons (.set 2 (.call (Str.ofString "_law_take") (.cons (.var 0) (.cons (.con (.int 6)) .nil)) .nil .all))
  (.cons (.ite (.tru (.cmp .Eq (.var 2) (.con (.int 0)))) (.cons (.ret (.bi .tuple false (.cons (.call (Str.ofString "_law_open") (.cons (.var 1) .nil) .nil .all) .nil)))
  .nil) .nil)
  (.cons (.ret (.bi .tuple false (.cons (.lc false (.seq (.call (Str.ofString "_law_open") (.cons (.var 1) .nil) .nil .all)) (.nm 3) (.and (.tru (.cmp .Lt (.var 2) (.con (.int 4)))) (.tru (.cmp .Eq (.call (Str.ofString "_law_take") (.cons (.var 0) (.cons (.con (.int 3)) .nil)) .nil .all) (.con (.int 0))))) (.var 3) [3]) .nil)))
  .nil)))⟩
def f__law_root : Fd := ⟨3, 6, true, (.cons (.set 3 (.lst true (.cons (.var 2) .nil)))
  (.cons (.ite (.tru (.cmp .Eq (.call (Str.ofString "_law_take") (.cons (.var 0) (.cons (.con (.int 2)) .nil)) .nil .all) (.con (.int 0)))) (.cons (.ret (.call (Str.ofString "_law_expr") (.cons (.var 0) (.cons (.var 1) (.cons (.var 3) (.cons (.con (.int 4)) .nil)))) .nil .all))
  .nil) .nil)
  (.cons (.par2 4 5 (.call (Str.ofString "_law_expr") (.cons (.var 0) (.cons (.var 1) (.cons (.var 3) (.cons (.con (.int 3)) .nil)))) .nil .all) (.call (Str.ofString "_law_expr") (.cons (.var 0) (.cons (.var 1) (.cons (.var 3) (.cons (.con (.int 3)) .nil)))) .nil .all))
  (.cons (.ret (.tup (.cons (.con (.str (Str.ofString "op"))) (.cons (.call (Str.ofString "_law_of") (.cons (.var 0) (.cons (.lst false (.cons (.con (.str (Str.ofString "+"))) (.cons (.con (.str (Str.ofString "-"))) (.cons (.con (.str (Str.ofString "*"))) (.cons (.con (.str (Str.ofString "<"))) .nil))))) .nil)) .nil .all) (.cons (.var 4) (.cons (.var 5) .nil))))))
  .nil))))⟩
def f__law_steps : Fd := ⟨3, 8, true, (.cons (.set 3 (.lst false .nil))
  (.cons (.for_ (.en (.call (Str.ofString "_law_operands") (.cons (.var 1) .nil) .nil .all)) (.tp [(.nm 4), (.nm 5)]) (.cons (.set 3 (.bin false .Add (.var 3) (.call (Str.ofString "_law_steps") (.cons (.var 0) (.cons (.var 5) (.cons (.bin false .Add (.var 2) (.tup (.cons (.var 4) .nil))) .nil))) .nil .all)))
  .nil) .nil)
  (.cons (.set 6 (.ife (.tru (.isi (.var 1) [.int] false)) (.con (.str (Str.ofString "number"))) (.idx (.var 1) (.con (.int 0)))))
  (.cons (.ite (.tru (.cmp .In (.var 6) (.tup (.cons (.con (.str (Str.ofString "read"))) (.cons (.con (.str (Str.ofString "step"))) .nil))))) (.cons (.set 3 (.bin false .Add (.var 3) (.lst false (.cons (.tup (.cons (.con (.str (Str.ofString "read"))) (.cons (.var 2) (.cons (.tup (.cons (.idx (.var 1) (.con (.int 1))) .nil)) (.cons (.tup .nil) .nil))))) .nil))))
  .nil) .nil)
  (.cons (.ite (.tru (.cmp .In (.var 6) (.tup (.cons (.con (.str (Str.ofString "store"))) (.cons (.con (.str (Str.ofString "step"))) .nil))))) (.cons (.set 3 (.bin false .Add (.var 3) (.lst false (.cons (.tup (.cons (.con (.str (Str.ofString "store"))) (.cons (.var 2) (.cons (.tup .nil) (.cons (.tup (.cons (.idx (.var 1) (.con (.int 1))) .nil)) .nil))))) .nil))))
  .nil) .nil)
  (.cons (.ite (.tru (.cmp .Eq (.var 6) (.con (.str (Str.ofString "call"))))) (.cons (.set 3 (.bin false .Add (.var 3) (.lc false (.seq (.var 0)) (.nm 7) (.tru (.cmp .Eq (.idx (.var 7) (.con (.int 0))) (.idx (.var 1) (.con (.int 1))))) (.tup (.cons (.con (.str (Str.ofString "call"))) (.cons (.var 2) (.cons (.idx (.var 7) (.con (.int 2))) (.cons (.idx (.var 7) (.con (.int 3))) .nil))))) [7])))
  .nil) .nil)
  (.cons (.ret (.var 3))
  .nil)))))))⟩
def f__law_take : Fd := ⟨2, 4, true, (.cons (.ite (.tru (.cmp .Gt (.idx (.var 0) (.con (.int 0))) (.con (.int 0)))) (.cons (.set 2 (.bin false .Mod (.bi .int false (.cons (.idx (.var 0) (.con (.int 0))) .nil)) (.var 1)))
  (.cons (.setI (.var 0) (.con (.int 0)) (.bin false .FloorDiv (.idx (.var 0) (.con (.int 0))) (.var 1)))
  (.cons (.ret (.var 2))
  .nil))) .nil)
  (.cons (.setI (.var 0) (.con (.int 2)) (.bin false .Add (.idx (.var 0) (.con (.int 2))) (.con (.int 1))))
  (.cons (.set 3 (.bin false .Mod (.bin false .Pow (.bi .int false (.cons (.bin false .Add (.idx (.var 0) (.con (.int 1))) (.bin false .Mult (.con (.int 2654435761)) (.idx (.var 0) (.con (.int 2))))) .nil)) (.con (.int 3))) (.con (.int 2305843009213693921))))
  (.cons (.set 3 (.bin false .Mod (.bin false .Pow (.bi .int false (.cons (.bin false .Add (.var 3) (.bin false .Mult (.con (.int 40503)) (.idx (.var 0) (.con (.int 2))))) .nil)) (.con (.int 2))) (.con (.int 2305843009213693951))))
  (.cons (.ret (.bin false .Mod (.bin false .FloorDiv (.var 3) (.con (.int 4096))) (.var 1)))
  .nil)))))⟩
def f_steps : Fd := ⟨1, 1, false, (.cons (.ret (.call (Str.ofString "steps_in!") (.cons (.fld (.var 0) (Str.ofString "book")) (.cons (.fld (.var 0) (Str.ofString "expression")) (.cons (.tup .nil) .nil))) .nil .all))
  .nil)⟩
def f_Task_are_points : Fd := ⟨2, 5, true, (.cons (.ite (.or (.not (.tru (.isi (.var 1) [.tuple] false))) (.not (.tru (.bi .all false (.cons (.lc false (.seq (.var 1)) (.nm 2) .yes (.andE (.meth (Str.ofString "Task") (Str.ofString "has") (Str.ofString "Task.has") (.var 0) (.cons (.var 2) .nil) .nil .all) (.call (Str.ofString "is_open") (.cons (.idx (.fld (.var 0) (Str.ofString "table")) (.var 2)) .nil) .nil .all)) [2]) .nil))))) (.cons (.ret (.con (.bool false)))
  .nil) .nil)
  (.cons (.ret (.bi .all false (.cons (.lc false (.zip (.var 1) (.sl false (.var 1) (.so (.con (.int 1))) .no)) (.tp [(.nm 3), (.nm 4)]) .yes (.cmp .Lt (.var 3) (.var 4)) [3, 4]) .nil)))
  .nil))⟩
def f_first_wrong : Fd := ⟨3, 6, true, (.cons (.ite (.not (.tru (.call (Str.ofString "is_formed") (.cons (.var 0) (.cons (.var 1) .nil)) .nil .all))) (.cons (.ret (.var 2))
  .nil) .nil)
  (.cons (.for_ (.en (.call (Str.ofString "operands") (.cons (.var 1) .nil) .nil .all)) (.tp [(.nm 3), (.nm 4)]) (.cons (.set 5 (.call (Str.ofString "first_wrong") (.cons (.var 0) (.cons (.var 4) (.cons (.tup (.star (.var 2) (.cons (.var 3) .nil))) .nil))) .nil .all))
  (.cons (.ite (.tru (.cmp .IsNot (.var 5) (.con .none))) (.cons (.ret (.var 5))
  .nil) .nil)
  .nil)) .nil)
  (.cons (.ret (.con .none))
  .nil)))⟩
def f_own_steps_of : Fd := ⟨1, 1, true, (.cons (.ret (.ife (.tru (.isi (.var 0) [.int] false)) (.con (.int 0)) (.bm .get2 (.glob (Str.ofString "OWN_STEPS") (.kd [((.str (Str.ofString "read")), (.int 1)), ((.str (Str.ofString "store")), (.int 1)), ((.str (Str.ofString "step")), (.int 2)), ((.str (Str.ofString "call")), (.int 1))])) (.cons (.idx (.var 0) (.con (.int 0))) (.cons (.con (.int 0)) .nil)))))
  .nil)⟩
def f_spots_in : Fd := ⟨2, 5, true, (.cons (.set 2 (.lst true (.cons (.tup (.cons (.var 1) (.cons (.var 0) .nil))) .nil)))
  (.cons (.for_ (.en (.call (Str.ofString "operands") (.cons (.var 0) .nil) .nil .all)) (.tp [(.nm 3), (.nm 4)]) (.cons (.expr (.bm .extend (.var 2) (.cons (.call (Str.ofString "spots_in") (.cons (.var 4) (.cons (.tup (.star (.var 1) (.cons (.var 3) .nil))) .nil)) .nil .all) .nil)))
  .nil) .nil)
  (.cons (.ret (.var 2))
  .nil)))⟩
def f_Book___init__ : Fd := ⟨2, 6, true, (.cons (.set 2 (.dic true [] .nil))
  (.cons (.for_ (.en (.var 1)) (.tp [(.nm 3), (.nm 4)]) (.cons (.ite (.or (.not (.tru (.isi (.var 4) [.cls (Str.ofString "Function")] false))) (.tru (.cmp .In (.fld (.var 4) (Str.ofString "name")) (.var 2)))) (.cons .never
  .nil) .nil)
  (.cons (.setI (.var 2) (.fld (.var 4) (Str.ofString "name")) (.var 4))
  .nil)) .nil)
  (.cons (.ite (.tru (.cmp .Gt (.bi .len false (.cons (.var 1) .nil)) (.ccon (Str.ofString "Book") (Str.ofString "MOST") (.int 6)))) (.cons .never
  .nil) .nil)
  (.cons (.setF (.var 0) (Str.ofString "table") (.dc false (.seq (.bi .sorted false (.cons (.var 2) .nil))) (.nm 5) .yes (.var 5) (.idx (.var 2) (.var 5)) [5]))
  .nil))))⟩
def f_Function___init__ : Fd := ⟨5, 5, true, (.cons (.ite (.not (.tru (.call (Str.ofString "is_name") (.cons (.var 1) .nil) .nil .all))) (.cons .never
  .nil) .nil)
  (.cons (.ite (.or (.not (.tru (.call (Str.ofString "is_integer") (.cons (.var 2) .nil) .nil .all))) (.not (.tru (.chain .LtE .LtE (.con (.int 0)) (.var 2) (.glob (Str.ofString "MOST_ARGUMENTS") (.int 3)))))) (.cons .never
  .nil) .nil)
  (.cons (.ite (.not (.tru (.call (Str.ofString "are_places") (.cons (.var 3) .nil) .nil .all))) (.cons .never
  .nil) .nil)
  (.cons (.ite (.not (.tru (.call (Str.ofString "are_places") (.cons (.var 4) .nil) .nil .all))) (.cons .never
  .nil) .nil)
  (.cons (.setF (.var 0) (Str.ofString "name") (.var 1))
  (.cons (.setF (.var 0) (Str.ofString "arguments") (.var 2))
  (.cons (.setF (.var 0) (Str.ofString "reads") (.var 3))
  (.cons (.setF (.var 0) (Str.ofString "stores") (.var 4))
  .nil))))))))⟩
def f__law_of : Fd := ⟨2, 2, true, (.cons (.ret (.idx (.var 1) (.call (Str.ofString "_law_take") (.cons (.var 0) (.cons (.bi .len false (.cons (.var 1) .nil)) .nil)) .nil .all)))
  .nil)⟩
def f__law_some : Fd := ⟨2, 3, true, (.cons (.ret (.bi .tuple false (.cons (.bi .sorted false (.cons (.lc false (.seq (.var 1)) (.nm 2) (.tru (.cmp .Eq (.call (Str.ofString "_law_take") (.cons (.var 0) (.cons (.con (.int 2)) .nil)) .nil .all) (.con (.int 0)))) (.var 2) [2]) .nil)) .nil)))
  .nil)⟩
def f__law_open : Fd := ⟨1, 5, true, (.cons (.set 1 (.lc false (.seq (.call (Str.ofString "_law_nodes") (.cons (.var 0) (.cons (.tup .nil) .nil)) .nil .all)) (.nm 2) (.not (.tru (.isi (.idx (.var 2) (.con (.int 1))) [.int] false))) (.var 2) [2]))
  (.cons (.ret (.bi .sorted false (.cons (.lc false (.seq (.var 1)) (.tp [(.nm 3), (.nm 4)]) (.or (.tru (.cmp .Eq (.idx (.var 4) (.con (.int 0))) (.con (.str (Str.ofString "op"))))) (.and (.tru (.cmp .Eq (.idx (.var 4) (.con (.int 0))) (.con (.str (Str.ofString "call"))))) (.tru (.cmp .Gt (.bi .len false (.cons (.idx (.var 4) (.con (.int 2))) .nil)) (.con (.int 1)))))) (.var 3) [3, 4]) .nil)))
  .nil))⟩
def f__law_expr : Fd := ⟨4, 12, true, (.cons (.set 4 (.call (Str.ofString "_law_take") (.cons (.var 0) (.cons (.con (.int 11)) .nil)) .nil .all))
  (.cons (.ite (.or (.tru (.cmp .Eq (.var 3) (.con (.int 0)))) (.or (.tru (.cmp .Eq (.idx (.var 2) (.con (.int 0))) (.con (.int 0)))) (.tru (.cmp .Eq (.var 4) (.con (.int 0)))))) (.cons (.ret (.call (Str.ofString "_law_leaf") (.cons (.var 0) (.cons (.var 1) (.cons (.var 2) .nil))) .nil .all))
  .nil) .nil)
  (.cons (.ite (.tru (.cmp .Lt (.var 4) (.con (.int 3)))) (.cons (.setI (.var 2) (.con (.int 0)) (.bin false .Sub (.idx (.var 2) (.con (.int 0))) (.con (.int 1))))
  (.cons (.ret (.tup (.cons (.con (.str (Str.ofString "store"))) (.cons (.call (Str.ofString "_law_of") (.cons (.var 0) (.cons (.idx (.var 1) (.con (.str (Str.ofString "places")))) .nil)) .nil .all) (.cons (.call (Str.ofString "_law_expr") (.cons (.var 0) (.cons (.var 1) (.cons (.var 2) (.cons (.bin false .Sub (.var 3) (.con (.int 1))) .nil)))) .nil .all) .nil)))))
  .nil)) .nil)
  (.cons (.ite (.and (.tru (.cmp .Lt (.var 4) (.con (.int 5)))) (.tru (.cmp .Gt (.idx (.var 2) (.con (.int 0))) (.con (.int 1))))) (.cons (.setI (.var 2) (.con (.int 0)) (.bin false .Sub (.idx (.var 2) (.con (.int 0))) (.con (.int 2))))
  (.cons (.par2 5 6 (.call (Str.ofString "_law_of") (.cons (.var 0) (.cons (.lst false (.cons (.con (.int 1)) (.cons (.neg (.con (.int 1))) .nil))) .nil)) .nil .all) (.call (Str.ofString "_law_of") (.cons (.var 0) (.cons (.lst false (.cons (.con (.str (Str.ofString "before"))) (.cons (.con (.str (Str.ofString "after"))) .nil))) .nil)) .nil .all))
  (.cons (.ret (.tup (.cons (.con (.str (Str.ofString "step"))) (.cons (.call (Str.ofString "_law_of") (.cons (.var 0) (.cons (.idx (.var 1) (.con (.str (Str.ofString "places")))) .nil)) .nil .all) (.cons (.var 5) (.cons (.var 6) .nil))))))
  .nil))) .nil)
  (.cons (.ite (.and (.tru (.cmp .Lt (.var 4) (.con (.int 7)))) (.tru (.cmp .NotEq (.idx (.var 1) (.con (.str (Str.ofString "functions")))) (.lst false .nil)))) (.cons (.setI (.var 2) (.con (.int 0)) (.bin false .Sub (.idx (.var 2) (.con (.int 0))) (.con (.int 1))))
  (.cons (.set 7 (.call (Str.ofString "_law_of") (.cons (.var 0) (.cons (.idx (.var 1) (.con (.str (Str.ofString "functions")))) .nil)) .nil .all))
  (.cons (.set 8 (.lc false (.rng1 (.idx (.var 7) (.con (.int 1)))) (.nm 9) .yes (.call (Str.ofString "_law_expr") (.cons (.var 0) (.cons (.var 1) (.cons (.var 2) (.cons (.bin false .Sub (.var 3) (.con (.int 1))) .nil)))) .nil .all) [9]))
  (.cons (.ret (.tup (.cons (.con (.str (Str.ofString "call"))) (.cons (.idx (.var 7) (.con (.int 0))) (.cons (.bi .tuple false (.cons (.var 8) .nil)) .nil)))))
  .nil)))) .nil)
  (.cons (.ite (.and (.tru (.cmp .Eq (.var 4) (.con (.int 8)))) (.tru (.idx (.var 1) (.con (.str (Str.ofString "guards")))))) (.cons (.ret (.call (Str.ofString "_law_guard") (.cons (.var 0) (.cons (.var 1) (.cons (.var 2) (.cons (.var 3) .nil)))) .nil .all))
  .nil) .nil)
  (.cons (.par2 10 11 (.call (Str.ofString "_law_expr") (.cons (.var 0) (.cons (.var 1) (.cons (.var 2) (.cons (.bin false .Sub (.var 3) (.con (.int 1))) .nil)))) .nil .all) (.call (Str.ofString "_law_expr") (.cons (.var 0) (.cons (.var 1) (.cons (.var 2) (.cons (.bin false .Sub (.var 3) (.con (.int 1))) .nil)))) .nil .all))
  (.cons (.ret (.ife (.tru (.cmp .Eq (.var 4) (.con (.int 7)))) (.tup (.cons (.con (.str (Str.ofString "then"))) (.cons (.var 10) (.cons (.var 11) .nil)))) (.tup (.cons (.con (.str (Str.ofString "op"))) (.cons (.call (Str.ofString "_law_of") (.cons (.var 0) (.cons (.lst false (.cons (.con (.str (Str.ofString "+"))) (.cons (.con (.str (Str.ofString "-"))) (.cons (.con (.str (Str.ofString "*"))) (.cons (.con (.str (Str.ofString "<"))) .nil))))) .nil)) .nil .all) (.cons (.var 10) (.cons (.var 11) .nil)))))))
  .nil))))))))⟩
def f__law_operands : Fd := ⟨1, 1, true, (.cons (.ite (.or (.tru (.isi (.var 0) [.int] false)) (.tru (.cmp .In (.idx (.var 0) (.con (.int 0))) (.tup (.cons (.con (.str (Str.ofString "read"))) (.cons (.con (.str (Str.ofString "step"))) .nil)))))) (.cons (.ret (.tup .nil))
  .nil) .nil)
  (.cons (.ite (.tru (.cmp .Eq (.idx (.var 0) (.con (.int 0))) (.con (.str (Str.ofString "call"))))) (.cons (.ret (.idx (.var 0) (.con (.int 2))))
  .nil) .nil)
  (.cons (.ret (.ife (.tru (.cmp .In (.idx (.var 0) (.con (.int 0))) (.tup (.cons (.con (.str (Str.ofString "store"))) (.cons (.con (.str (Str.ofString "op"))) .nil))))) (.sl false (.var 0) (.so (.con (.int 2))) .no) (.sl false (.var 0) (.so (.con (.int 1))) .no)))
  .nil)))⟩
def f_steps_in_R : Fd := ⟨3, 6, false, (.cons (.set 3 (.lst true .nil))
  (.cons (.for_ (.en (.call (Str.ofString "operands") (.cons (.var 1) .nil) .nil .all)) (.tp [(.nm 4), (.nm 5)]) (.cons (.expr (.bm .extend (.var 3) (.cons (.call (Str.ofString "steps_in") (.cons (.var 0) (.cons (.var 5) (.cons (.tup (.star (.var 2) (.cons (.var 4) .nil))) .nil))) .nil .all) .nil)))
  .nil) .nil)
  (.cons (.ret (.bin true .Add (.var 3) (.call (Str.ofString "own_steps") (.cons (.var 0) (.cons (.var 1) (.cons (.var 2) .nil))) .nil .all)))
  .nil)))⟩
def f_Task_has : Fd := ⟨2, 2, true, (.cons (.ret (.andE (.call (Str.ofString "is_path") (.cons (.var 1) .nil) .nil .all) (.cmp .In (.var 1) (.fld (.var 0) (Str.ofString "table")))))
  .nil)⟩
def f_is_open : Fd := ⟨1, 1, true, (.cons (.ret (.andE (.notE (.isi (.var 0) [.int] false)) (.orE (.cmp .Eq (.idx (.var 0) (.con (.int 0))) (.con (.str (Str.ofString "op")))) (.andE (.cmp .Eq (.idx (.var 0) (.con (.int 0))) (.con (.str (Str.ofString "call")))) (.cmp .Gt (.bi .len false (.cons (.idx (.var 0) (.con (.int 2))) .nil)) (.con (.int 1)))))))
  .nil)⟩
def f_is_formed : Fd := ⟨2, 5, true, (.cons (.ite (.tru (.call (Str.ofString "is_integer") (.cons (.var 1) .nil) .nil .all)) (.cons (.ret (.chain .LtE .LtE (.con (.int 0)) (.var 1) (.glob (Str.ofString "MOST_NUMBER") (.int 999999))))
  .nil) .nil)
  (.cons (.ite (.or (.not (.tru (.isi (.var 1) [.tuple] false))) (.or (.tru (.cmp .Eq (.var 1) (.tup .nil))) (.or (.not (.tru (.isi (.idx (.var 1) (.con (.int 0))) [.str] false))) (.tru (.cmp .NotIn (.idx (.var 1) (.con (.int 0))) (.glob (Str.ofString "SIZES") (.kd [((.str (Str.ofString "read")), (.int 1)), ((.str (Str.ofString "store")), (.int 2)), ((.str (Str.ofString "step")), (.int 3)), ((.str (Str.ofString "op")), (.int 3)), ((.str (Str.ofString "call")), (.int 2)), ((.str (Str.ofString "then")), (.int 2)), ((.str (Str.ofString "and")), (.int 2)), ((.str (Str.ofString "or")), (.int 2)), ((.str (Str.ofString "choose")), (.int 3))]))))))) (.cons (.ret (.con (.bool false)))
  .nil) .nil)
  (.cons (.par2 2 3 (.idx (.var 1) (.con (.int 0))) (.sl false (.var 1) (.so (.con (.int 1))) .no))
  (.cons (.ite (.tru (.cmp .NotEq (.bi .len false (.cons (.var 3) .nil)) (.idx (.glob (Str.ofString "SIZES") (.kd [((.str (Str.ofString "read")), (.int 1)), ((.str (Str.ofString "store")), (.int 2)), ((.str (Str.ofString "step")), (.int 3)), ((.str (Str.ofString "op")), (.int 3)), ((.str (Str.ofString "call")), (.int 2)), ((.str (Str.ofString "then")), (.int 2)), ((.str (Str.ofString "and")), (.int 2)), ((.str (Str.ofString "or")), (.int 2)), ((.str (Str.ofString "choose")), (.int 3))])) (.var 2)))) (.cons (.ret (.con (.bool false)))
  .nil) .nil)
  (.cons (.ite (.and (.tru (.cmp .In (.var 2) (.tup (.cons (.con (.str (Str.ofString "read"))) (.cons (.con (.str (Str.ofString "store"))) (.cons (.con (.str (Str.ofString "step"))) .nil)))))) (.not (.tru (.call (Str.ofString "is_name") (.cons (.idx (.var 3) (.con (.int 0))) .nil) .nil .all)))) (.cons (.ret (.con (.bool false)))
  .nil) .nil)
  (.cons (.ite (.tru (.cmp .Eq (.var 2) (.con (.str (Str.ofString "step"))))) (.cons (.set 4 (.andE (.call (Str.ofString "is_integer") (.cons (.idx (.var 3) (.con (.int 1))) .nil) .nil .all) (.cmp .In (.idx (.var 3) (.con (.int 1))) (.tup (.cons (.con (.int 1)) (.cons (.neg (.con (.int 1))) .nil))))))
  (.cons (.ret (.andE (.var 4) (.andE (.isi (.idx (.var 3) (.con (.int 2))) [.str] false) (.cmp .In (.idx (.var 3) (.con (.int 2))) (.glob (Str.ofString "MOMENTS") (.kt [(.str (Str.ofString "before")), (.str (Str.ofString "after"))]))))))
  .nil)) .nil)
  (.cons (.ite (.tru (.cmp .Eq (.var 2) (.con (.str (Str.ofString "op"))))) (.cons (.ret (.andE (.isi (.idx (.var 3) (.con (.int 0))) [.str] false) (.cmp .In (.idx (.var 3) (.con (.int 0))) (.glob (Str.ofString "SIGNS") (.kt [(.str (Str.ofString "+")), (.str (Str.ofString "-")), (.str (Str.ofString "*")), (.str (Str.ofString "<"))])))))
  .nil) .nil)
  (.cons (.ite (.tru (.cmp .Eq (.var 2) (.con (.str (Str.ofString "call"))))) (.cons (.ret (.andE (.cont (Str.ofString "Book") (Str.ofString "Book.__contains__") false (.idx (.var 3) (.con (.int 0))) (.var 0)) (.andE (.isi (.idx (.var 3) (.con (.int 1))) [.tuple] false) (.cmp .Eq (.bi .len false (.cons (.idx (.var 3) (.con (.int 1))) .nil)) (.fld (.getI (Str.ofString "Book") (Str.ofString "Book.__getitem__") (.var 0) (.idx (.var 3) (.con (.int 0)))) (Str.ofString "arguments"))))))
  .nil) .nil)
  (.cons (.ret (.con (.bool true)))
  .nil)))))))))⟩
def f_operands : Fd := ⟨1, 1, true, (.cons (.ite (.or (.tru (.isi (.var 0) [.int] false)) (.tru (.cmp .In (.idx (.var 0) (.con (.int 0))) (.tup (.cons (.con (.str (Str.ofString "read"))) (.cons (.con (.str (Str.ofString "step"))) .nil)))))) (.cons (.ret (.tup .nil))
  .nil) .nil)
  (.cons (.ite (.tru (.cmp .Eq (.idx (.var 0) (.con (.int 0))) (.con (.str (Str.ofString "call"))))) (.cons (.ret (.idx (.var 0) (.con (.int 2))))
  .nil) .nil)
  (.cons (.ret (.ife (.tru (.cmp .In (.idx (.var 0) (.con (.int 0))) (.tup (.cons (.con (.str (Str.ofString "store"))) (.cons (.con (.str (Str.ofString "op"))) .nil))))) (.sl false (.var 0) (.so (.con (.int 2))) .no) (.sl false (.var 0) (.so (.con (.int 1))) .no)))
  .nil)))⟩
def f_are_places : Fd := ⟨1, 4, true, (.cons (.ite (.or (.not (.tru (.isi (.var 0) [.tuple] false))) (.or (.tru (.cmp .Gt (.bi .len false (.cons (.var 0) .nil)) (.glob (Str.ofString "MOST_PLACES") (.int 4)))) (.not (.tru (.bi .all false (.cons (.lc false (.seq (.var 0)) (.nm 1) .yes (.call (Str.ofString "is_name") (.cons (.var 1) .nil) .nil .all) [1]) .nil)))))) (.cons (.ret (.con (.bool false)))
  .nil) .nil)
  (.cons (.ret (.bi .all false (.cons (.lc false (.zip (.var 0) (.sl false (.var 0) (.so (.con (.int 1))) .no)) (.tp [(.nm 2), (.nm 3)]) .yes (.cmp .Lt (.var 2) (.var 3)) [2, 3]) .nil)))
  .nil))⟩
def f_is_integer : Fd := ⟨1, 1, true, (.cons (.ret (.andE (.isi (.var 0) [.int] false) (.notE (.isi (.var 0) [.bool] false))))
  .nil)⟩
def f_is_name : Fd := ⟨1, 2, true, (.cons (.ite (.or (.not (.tru (.isi (.var 0) [.str] false))) (.not (.tru (.chain .LtE .LtE (.con (.int 1)) (.bi .len false (.cons (.var 0) .nil)) (.glob (Str.ofString "MOST_LETTERS") (.int 8)))))) (.cons (.ret (.con (.bool false)))
  .nil) .nil)
  (.cons (.ret (.bi .all false (.cons (.lc false (.seq (.var 0)) (.nm 1) .yes (.cmp .In (.var 1) (.glob (Str.ofString "LETTERS") (.str (Str.ofString "abcdefghijklmnopqrstuvwxyz")))) [1]) .nil)))
  .nil))⟩
def f__law_nodes : Fd := ⟨2, 5, true, (.cons (.set 2 (.lst false (.cons (.tup (.cons (.var 1) (.cons (.var 0) .nil))) .nil)))
  (.cons (.for_ (.en (.call (Str.ofString "_law_operands") (.cons (.var 0) .nil) .nil .all)) (.tp [(.nm 3), (.nm 4)]) (.cons (.set 2 (.bin false .Add (.var 2) (.call (Str.ofString "_law_nodes") (.cons (.var 4) (.cons (.bin false .Add (.var 1) (.tup (.cons (.var 3) .nil))) .nil)) .nil .all)))
  .nil) .nil)
  (.cons (.ret (.var 2))
  .nil)))⟩
def f__law_guard : Fd := ⟨4, 8, true, (.cons (.par2 4 5 (.call (Str.ofString "_law_expr") (.cons (.var 0) (.cons (.var 1) (.cons (.var 2) (.cons (.bin false .Sub (.var 3) (.con (.int 1))) .nil)))) .nil .all) (.call (Str.ofString "_law_expr") (.cons (.var 0) (.cons (.var 1) (.cons (.var 2) (.cons (.bin false .Sub (.var 3) (.con (.int 1))) .nil)))) .nil .all))
  (.cons (.set 6 (.call (Str.ofString "_law_of") (.cons (.var 0) (.cons (.lst false (.cons (.con (.str (Str.ofString "and"))) (.cons (.con (.str (Str.ofString "or"))) (.cons (.con (.str (Str.ofString "choose"))) .nil)))) .nil)) .nil .all))
  (.cons (.set 7 (.tup (.cons (.var 6) (.cons (.var 4) (.cons (.var 5) .nil)))))
  (.cons (.ret (.ife (.tru (.cmp .NotEq (.var 6) (.con (.str (Str.ofString "choose"))))) (.var 7) (.bin false .Add (.var 7) (.tup (.cons (.call (Str.ofString "_law_expr") (.cons (.var 0) (.cons (.var 1) (.cons (.var 2) (.cons (.bin false .Sub (.var 3) (.con (.int 1))) .nil)))) .nil .all) .nil)))))
  .nil))))⟩
def f__law_leaf : Fd := ⟨3, 3, true, (.cons (.ite (.and (.tru (.cmp .Gt (.idx (.var 2) (.con (.int 0))) (.con (.int 0)))) (.tru (.cmp .Gt (.call (Str.ofString "_law_take") (.cons (.var 0) (.cons (.con (.int 3)) .nil)) .nil .all) (.con (.int 0))))) (.cons (.setI (.var 2) (.con (.int 0)) (.bin false .Sub (.idx (.var 2) (.con (.int 0))) (.con (.int 1))))
  (.cons (.ret (.tup (.cons (.con (.str (Str.ofString "read"))) (.cons (.call (Str.ofString "_law_of") (.cons (.var 0) (.cons (.idx (.var 1) (.con (.str (Str.ofString "places")))) .nil)) .nil .all) .nil))))
  .nil)) .nil)
  (.cons (.ret (.call (Str.ofString "_law_of") (.cons (.var 0) (.cons (.lst false (.cons (.con (.int 0)) (.cons (.con (.int 1)) (.cons (.con (.int 2)) (.cons (.con (.int 999999)) (.cons (.call (Str.ofString "_law_take") (.cons (.var 0) (.cons (.con (.int 1000000)) .nil)) .nil .all) .nil)))))) .nil)) .nil .all))
  .nil))⟩
def f_own_steps : Fd := ⟨3, 4, true, (.cons (.set 3 (.ife (.tru (.isi (.var 1) [.int] false)) (.con (.str (Str.ofString ""))) (.idx (.var 1) (.con (.int 0)))))
  (.cons (.ite (.tru (.cmp .Eq (.var 3) (.con (.str (Str.ofString "read"))))) (.cons (.ret (.lst false (.cons (.tup (.cons (.glob (Str.ofString "READ") (.str (Str.ofString "read"))) (.cons (.var 2) (.cons (.tup (.cons (.idx (.var 1) (.con (.int 1))) .nil)) (.cons (.tup .nil) .nil))))) .nil)))
  .nil) .nil)
  (.cons (.ite (.tru (.cmp .Eq (.var 3) (.con (.str (Str.ofString "store"))))) (.cons (.ret (.lst false (.cons (.tup (.cons (.glob (Str.ofString "STORE") (.str (Str.ofString "store"))) (.cons (.var 2) (.cons (.tup .nil) (.cons (.tup (.cons (.idx (.var 1) (.con (.int 1))) .nil)) .nil))))) .nil)))
  .nil) .nil)
  (.cons (.ite (.tru (.cmp .Eq (.var 3) (.con (.str (Str.ofString "step"))))) (.cons (.ret (.lst false (.cons (.tup (.cons (.glob (Str.ofString "READ") (.str (Str.ofString "read"))) (.cons (.var 2) (.cons (.tup (.cons (.idx (.var 1) (.con (.int 1))) .nil)) (.cons (.tup .nil) .nil))))) (.cons (.tup (.cons (.glob (Str.ofString "STORE") (.str (Str.ofString "store"))) (.cons (.var 2) (.cons (.tup .nil) (.cons (.tup (.cons (.idx (.var 1) (.con (.int 1))) .nil)) .nil))))) .nil))))
  .nil) .nil)
  (.cons (.ite (.tru (.cmp .Eq (.var 3) (.con (.str (Str.ofString "call"))))) (.cons (.ret (.lst false (.cons (.tup (.cons (.glob (Str.ofString "CALL") (.str (Str.ofString "call"))) (.cons (.var 2) (.cons (.fld (.getI (Str.ofString "Book") (Str.ofString "Book.__getitem__") (.var 0) (.idx (.var 1) (.con (.int 1)))) (Str.ofString "reads")) (.cons (.fld (.getI (Str.ofString "Book") (Str.ofString "Book.__getitem__") (.var 0) (.idx (.var 1) (.con (.int 1)))) (Str.ofString "stores")) .nil))))) .nil)))
  .nil) .nil)
  (.cons (.ret (.lst false .nil))
  .nil))))))⟩
def f_steps_in : Fd := ⟨3, 6, true, (.cons (.set 3 (.lst true .nil))
  (.cons (.for_ (.en (.call (Str.ofString "operands") (.cons (.var 1) .nil) .nil .all)) (.tp [(.nm 4), (.nm 5)]) (.cons (.expr (.bm .extend (.var 3) (.cons (.call (Str.ofString "steps_in") (.cons (.var 0) (.cons (.var 5) (.cons (.tup (.star (.var 2) (.cons (.var 4) .nil))) .nil))) .nil .all) .nil)))
  .nil) .nil)
  (.cons (.ret (.bin false .Add (.var 3) (.call (Str.ofString "own_steps") (.cons (.var 0) (.cons (.var 1) (.cons (.var 2) .nil))) .nil .all)))
  .nil)))⟩
def f_is_path : Fd := ⟨1, 2, true, (.cons (.ret (.andE (.isi (.var 0) [.tuple] false) (.bi .all false (.cons (.lc false (.seq (.var 0)) (.nm 1) .yes (.call (Str.ofString "is_integer") (.cons (.var 1) .nil) .nil .all) [1]) .nil))))
  .nil)⟩
def f_Book___contains__ : Fd := ⟨2, 2, true, (.cons (.ret (.andE (.isi (.var 1) [.str] false) (.cmp .In (.var 1) (.fld (.var 0) (Str.ofString "table")))))
  .nil)⟩
def f_Book___getitem__ : Fd := ⟨2, 2, true, (.cons (.ite (.tru (.cont (Str.ofString "Book") (Str.ofString "Book.__contains__") true (.var 1) (.var 0))) (.cons .never
  .nil) .nil)
  (.cons (.ret (.idx (.fld (.var 0) (Str.ofString "table")) (.var 1)))
  .nil))⟩
end PL

set_option Elab.async false
set_option linter.all false
set_option maxRecDepth 100000
set_option autoImplicit false
set_option maxHeartbeats 4000000
namespace PL
open PySem L2
/-! ### books -/
structure Fn where
  name : Str
  ar : Nat
  reads : List Str
  stores : List Str
def encN (xs : List Str) : Dat := .tuple (xs.map .str)
theorem frees_strs (xs : List Str) : frees (xs.map Dat.str) = true := by rw [frees_all]; simp
@[simp] theorem encN_free (xs : List Str) : free (encN xs) = true := by rw [encN]; simp only [free_tuple', frees_strs]
def encF (f : Fn) : Dat := .ins (Str.ofString "Function") [(Str.ofString "name", .str f.name), (Str.ofString "arguments", .int f.ar), (Str.ofString "reads", encN f.reads), (Str.ofString "stores", encN f.stores)]
@[simp] theorem encF_free (f : Fn) : free (encF f) = true := by simp [encF]
abbrev Bk := List Fn
def tabB (b : Bk) : List (Dat × Dat) := b.map fun f => (.str f.name, encF f)
def encB (b : Bk) : Dat := .ins (Str.ofString "Book") [(Str.ofString "table", .dict (tabB b))]
theorem tabB_free (b : Bk) : freeK (tabB b) = true := by rw [freeK_all, tabB]; simp
@[simp] theorem encB_free (b : Bk) : free (encB b) = true := by simp [encB, tabB_free]
def getB (b : Bk) (f : Str) : Option Fn := b.find? fun g => decide (g.name = f)
theorem dget_tabB (b : Bk) (f : Str) : dget (tabB b) (.str f) = (getB b f).map encF := by
  induction b with
  | nil => rfl
  | cons g b ih =>
    rw [tabB, List.map_cons, dget, getB, List.find?_cons]
    by_cases h : g.name = f
    · simp [h]
    · rw [if_neg (by simpa using h)]
      simp only [h, decide_false]
      exact ih
theorem keyFits_tabB (b : Bk) (f : Str) : keyFits (tabB b) (.str f) = true := by
  unfold keyFits
  cases b with
  | nil => simp [tabB]
  | cons g b => simp [tabB]
/-! ### names -/
def isNameB (s : Str) : Bool := decide (1 ≤ s.length) && decide (s.length ≤ 8) && s.cps.toList.all fun c => inStr ⟨#[c]⟩ (Str.ofString "abcdefghijklmnopqrstuvwxyz")
section
variable (Φ : Fe) (S : Sto)
theorem run_is_integer (d : Dat) (h : free d = true) (h2 : ∀ x, d ≠ .dict x) (h3 : ∀ C fs, d ≠ .ins C fs) : runF Φ f_is_integer [d] S = .ok (.bool (match d with | .int _ => true | _ => false)) S := by
  cases d <;> first | (simp at h; done) | (simp at h2; done) | (simp at h3; done) | simp [runF, f_is_integer, ent, isTy, fin_self]
theorem run_operands (e : Ex) : runF Φ f_operands [enc e] S = .ok (.tuple (encs (ops e))) S := by
  cases e <;> simp [runF, f_operands, ent, isTy, fin_self, enc, ops, encs, inSeq]
theorem run_law_operands (e : Ex) : runF Φ f__law_operands [enc e] S = .ok (.tuple (encs (ops e))) S := by
  cases e <;> simp [runF, f__law_operands, ent, isTy, fin_self, enc, ops, encs, inSeq]
def isOpenB : Ex → Bool
  | .op _ _ _ => true
  | .call _ as => decide (1 < as.length)
  | _ => false
theorem encs_length (es : List Ex) : (encs es).length = es.length := by rw [encs_map, List.length_map]
theorem run_is_open (e : Ex) : runF Φ f_is_open [enc e] S = .ok (.bool (isOpenB e)) S := by
  cases e <;> simp [runF, f_is_open, ent, isTy, fin_self, enc, isOpenB, encs_length]
  omega
theorem run_is_name (s : Str) (h : s.length ≤ 1000) : runF Φ f_is_name [.str s] S = .ok (.bool (isNameB s)) S := by
  unfold isNameB
  have h5 : s.length ≤ 16777216 := by omega
  by_cases h1 : 1 ≤ s.length
  · have h3 : (1 : Int) ≤ s.length := by omega
    by_cases h2 : s.length ≤ 8
    · have h4 : (s.length : Int) ≤ 8 := by omega
      simp [runF, f_is_name, ent, isTy, h1, h2, h3, h4, h5]
      rw [lc_all (fun c => .bool (inStr ⟨#[c]⟩ (Str.ofString "abcdefghijklmnopqrstuvwxyz"))) (by simp; exact h5) (fun c hc => ⟨_, rfl, by simp, by simp [charD, wipeE]⟩) (wat_nil _ _)]
      have h6 : s.cps.size ≤ 16777216 := h5
      simp [h6, fin_self, List.all_map, Function.comp_def]
    · have h4 : ¬ (s.length : Int) ≤ 8 := by omega
      simp [runF, f_is_name, ent, isTy, h1, h2, h3, h4, h5, fin_self]
  · have h3 : ¬ (1 : Int) ≤ s.length := by omega
    simp [runF, f_is_name, ent, isTy, h1, h3, h5, fin_self]
end
end PL

set_option Elab.async false
set_option linter.all false
set_option maxRecDepth 100000
set_option autoImplicit false
set_option maxHeartbeats 4000000
namespace PL
open PySem L2
/-! ### what the callees answer -/
def isIntD : Dat → Bool
  | .int _ => true
  | _ => false
def plainD : Dat → Bool
  | .dict _ => false
  | .ins _ _ => false
  | d => free d
abbrev SIsInteger (F : Fun) : Prop := ∀ d S, plainD d = true → F [d] S = .ok (.bool (isIntD d)) S
abbrev SIsName (F : Fun) : Prop := ∀ s S, s.length ≤ 1000 → F [.str s] S = .ok (.bool (isNameB s)) S
abbrev SOperands (F : Fun) : Prop := ∀ e S, F [enc e] S = .ok (.tuple (encs (ops e))) S
abbrev SIsOpen (F : Fun) : Prop := ∀ e S, F [enc e] S = .ok (.bool (isOpenB e)) S
section
variable (Φ : Fe) (S : Sto)
theorem ok_is_integer : SIsInteger (runF Φ f_is_integer) := fun d S h => by
  rw [run_is_integer]
  · cases d <;> rfl
  · cases d <;> simp_all [plainD]
  · cases d <;> simp_all [plainD]
  · cases d <;> simp_all [plainD]
theorem ok_is_name : SIsName (runF Φ f_is_name) := fun s S h => run_is_name Φ S s h
theorem ok_operands : SOperands (runF Φ f_operands) := fun e S => run_operands Φ S e
theorem ok_law_operands : SOperands (runF Φ f__law_operands) := fun e S => run_law_operands Φ S e
theorem ok_is_open : SIsOpen (runF Φ f_is_open) := fun e S => run_is_open Φ S e
def isNumB : Ex → Bool
  | .num _ => true
  | _ => false
@[simp] theorem plain_enc (e : Ex) : plainD (enc e) = true := by
  have := enc_free e
  cases e <;> simp_all [enc, plainD]
@[simp] theorem isInt_enc (e : Ex) : isIntD (enc e) = isNumB e := by cases e <;> simp [enc, isIntD, isNumB]
@[simp] theorem plain_int (i : Int) : plainD (.int i) = true := by simp [plainD]
@[simp] theorem plain_str (i : Str) : plainD (.str i) = true := by simp [plainD]
@[simp] theorem isInt_int (i : Int) : isIntD (.int i) = true := by rw [isIntD]
/-! paths -/
theorem run_is_path (hI : SIsInteger (Φ.call (Str.ofString "is_integer"))) (p : Path) (h : p.length ≤ 1000) : runF Φ f_is_path [encP p] S = .ok (.bool true) S := by
  have h1 : p.length ≤ 16777216 := by omega
  simp [runF, f_is_path, ent, isTy, encP]
  rw [lc_all (fun _ => .bool true) (by simp; omega) (fun c hc => ⟨_, rfl, by simp, by simp [wipeE, hI]⟩) (wat_nil _ _)]
  simp [h1, fin_self, boolsOf_map (fun _ => true)]
/-! books -/
theorem run_contains (bk : Bk) (f : Str) : runF Φ f_Book___contains__ [encB bk, .str f] S = .ok (.bool (getB bk f).isSome) S := by
  simp [runF, f_Book___contains__, ent, isTy, encB, fin_self, keyFits_tabB, dget_tabB]
theorem run_getitem (hC : ∀ bk f S, Φ.call (Str.ofString "Book.__contains__") [encB bk, .str f] S = .ok (.bool (getB bk f).isSome) S) (bk : Bk) (f : Str) (r : Fn) (h : getB bk f = some r) : runF Φ f_Book___getitem__ [encB bk, .str f] S = .ok (encF r) S := by
  have hC := hC bk f S
  simp only [encB] at hC
  simp [runF, f_Book___getitem__, ent, isTy, encB, insG, hC, fin_self, keyFits_tabB, dget_tabB, h]
abbrev SContains (F : Fun) : Prop := ∀ bk f S, F [encB bk, .str f] S = .ok (.bool (getB bk f).isSome) S
abbrev SGetitem (F : Fun) : Prop := ∀ bk f r S, getB bk f = some r → F [encB bk, .str f] S = .ok (encF r) S
/-- a node, its operands aside -/
def okN (bk : Bk) : Ex → Prop
  | .num n => 0 ≤ n ∧ n ≤ 999999
  | .read x => isNameB x = true
  | .store x _ => isNameB x = true
  | .step x _ _ => isNameB x = true
  | .op s _ _ => s = Str.ofString "+" ∨ s = Str.ofString "-" ∨ s = Str.ofString "*" ∨ s = Str.ofString "<"
  | .call f as => ∃ r, getB bk f = some r ∧ r.ar = as.length
  | _ => True
theorem name_short {x : Str} (h : isNameB x = true) : x.length ≤ 1000 := by
  unfold isNameB at h
  simp only [Bool.and_eq_true, decide_eq_true_eq] at h
  omega
@[simp] theorem isInst_encB (S : Sto) (bk : Bk) : isInst S (encB bk) (Str.ofString "Book") = true := by simp [encB]
theorem run_is_formed (hI : SIsInteger (Φ.call (Str.ofString "is_integer"))) (hN : SIsName (Φ.call (Str.ofString "is_name"))) (hC : SContains (Φ.call (Str.ofString "Book.__contains__"))) (hG : SGetitem (Φ.call (Str.ofString "Book.__getitem__")))
    (bk : Bk) (e : Ex) (h : okN bk e) : runF Φ f_is_formed [encB bk, enc e] S = .ok (.bool true) S := by
  have e1 := hI (enc e)
  simp only [plain_enc, isInt_enc, forall_const] at e1
  cases e <;> simp only [okN] at h
  · rename_i n
    simp only [enc, isNumB] at e1
    simp [runF, f_is_formed, ent, isTy, enc, e1, h.1, h.2, fin_self]
  · simp only [enc, isNumB] at e1
    simp [runF, f_is_formed, ent, isTy, enc, e1, eqD_tnil, inSeq, dget, hN _ _ (name_short h), h, fin_self]
  · simp only [enc, isNumB] at e1
    simp [runF, f_is_formed, ent, isTy, enc, e1, eqD_tnil, inSeq, dget, hN _ _ (name_short h), h, fin_self]
  · rename_i x u b
    simp only [enc, isNumB] at e1
    cases u <;> cases b <;> simp only [if_true, Bool.false_eq_true, if_false] at e1 <;> simp [runF, f_is_formed, ent, isTy, enc, e1, eqD_tnil, inSeq, dget, hN _ _ (name_short h), hI (.int 1) _ (by simp), hI (.int (-1)) _ (by simp), opNeg, h, fin_self]
  · simp only [enc, isNumB] at e1
    rcases h with rfl | rfl | rfl | rfl <;> simp [runF, f_is_formed, ent, isTy, enc, e1, eqD_tnil, inSeq, dget, fin_self]
  · simp only [enc, isNumB] at e1
    obtain ⟨r, h1, h2⟩ := h
    simp [runF, f_is_formed, ent, isTy, enc, e1, eqD_tnil, inSeq, dget, fin_self, insG, hC _ _ _, hG _ _ _ _ h1, h1, encF, encs_length, h2]
  all_goals
    simp only [enc, isNumB] at e1
    simp [runF, f_is_formed, ent, isTy, enc, e1, eqD_tnil, inSeq, dget, fin_self]
end
end PL

set_option Elab.async false
set_option linter.all false
set_option maxRecDepth 100000
set_option autoImplicit false
set_option maxHeartbeats 4000000
namespace PL
open PySem L2
/-! ### walks over the operands -/
theorem enumD_get {es : List Ex} {i : Nat} {x : Dat} (h : (enumD (encs es))[i]? = some x) : ∃ e, es[i]? = some e ∧ x = .tuple [.int (i : Int), enc e] := by
  rw [enumD, encs_map] at h
  simp only [List.getElem?_map, List.getElem?_zipIdx, Option.map_map] at h
  cases q : es[i]? with
  | none => simp [q] at h
  | some e =>
    simp [q] at h
    exact ⟨e, rfl, h.symm⟩
theorem enumE_len (es : List Ex) : (enumD (encs es)).length = es.length := by simp [enumD, encs_length]
@[simp] theorem bindP_two (i j : Nat) (x y : Dat) (ρ : Ro) : bindP (.tp [.nm i, .nm j]) (.tuple [x, y]) ρ = some ((ρ.set i (some x)).set j (some y)) := by simp [bindP, bindPs]
@[simp] theorem bindP_nm (i : Nat) (x : Dat) (ρ : Ro) : bindP (.nm i) x ρ = some (ρ.set i (some x)) := by simp [bindP]
theorem encP_snoc (p : Path) (i : Nat) : Dat.tuple (p.map (fun (i : Nat) => Dat.int (i : Int)) ++ [Dat.int (i : Int)]) = encP (p ++ [i]) := by simp [encP]
inductive OkE (bk : Bk) : Ex → Prop
  | mk {e : Ex} : okN bk e → (∀ x, x ∈ ops e → OkE bk x) → OkE bk e
theorem OkE.node {bk : Bk} {e : Ex} (h : OkE bk e) : okN bk e := by cases h; assumption
theorem OkE.sub {bk : Bk} {e x : Ex} (h : OkE bk e) (hx : x ∈ ops e) : OkE bk x := by cases h with | mk _ q => exact q x hx
abbrev SFormed (F : Fun) : Prop := ∀ bk e S, okN bk e → F [encB bk, enc e] S = .ok (.bool true) S
abbrev SFirstWrong (n : Nat) (F : Fun) : Prop := ∀ bk e p S, ht e < n → OkE bk e → p.length + ht e ≤ 1000 → F [encB bk, enc e, encP p] S = .ok .none S
def encQ (q : Path × Ex) : Dat := .tuple [encP q.1, enc q.2]
@[simp] theorem seqP (S : Sto) (p : Path) : seqOf S (encP p) = some (p.map fun (i : Nat) => .int (i : Int)) := by rw [encP, seq_tup]
theorem set_last (S : Sto) (x y : Cell) : (S ++ [x]).set S.length y = S ++ [y] := by simp
abbrev SSpots (n : Nat) (F : Fun) : Prop := ∀ e p S, ht e < n → p.length + ht e ≤ 1000 → sz e ≤ 10000 → F [enc e, encP p] S = .ok (.list ((spots p e).map encQ)) S
theorem mem_get {α : Type} {l : List α} {i : Nat} {x : α} (h : l[i]? = some x) : x ∈ l := List.mem_of_getElem? h
theorem flatMap_take_le {α β : Type} (l : List α) (f : α → List β) (i : Nat) : ((l.take i).flatMap f).length ≤ (l.flatMap f).length := by
  have e := congrArg (fun z => (List.flatMap f z).length) (List.take_append_drop i l)
  simp only [List.flatMap_append, List.length_append] at e
  omega
section
variable (Φ : Fe)
theorem ok_formed (hI : SIsInteger (Φ.call (Str.ofString "is_integer"))) (hN : SIsName (Φ.call (Str.ofString "is_name"))) (hC : SContains (Φ.call (Str.ofString "Book.__contains__"))) (hG : SGetitem (Φ.call (Str.ofString "Book.__getitem__"))) : SFormed (runF Φ f_is_formed) :=
  fun bk e S h => run_is_formed Φ S hI hN hC hG bk e h
theorem ok_first_wrong {n : Nat} (hF : SFormed (Φ.call (Str.ofString "is_formed"))) (hO : SOperands (Φ.call (Str.ofString "operands"))) (ih : SFirstWrong n (Φ.call (Str.ofString "first_wrong"))) : SFirstWrong (n + 1) (runF Φ f_first_wrong) := fun bk e p S hn ho hp => by
  simp [runF, f_first_wrong, ent, hF bk e S ho.node, hO e S]
  generalize hL : mLoop _ _ _ _ _ _ _ _ = r
  obtain ⟨ρ', S', ⟨a, b, c, rfl, rfl⟩, rfl⟩ := loop_inv' hL (fun _ ρ S' => ∃ a b c, [some (encB bk), some (enc e), some (encP p), a, b, c] = ρ ∧ S = S') (fun _ _ _ _ => wat_nil _ _) (fun i x ρ S' hx ⟨a, b, c, h1, h2⟩ => by
      subst h1 h2
      obtain ⟨y, hy, rfl⟩ := enumD_get hx
      have hm := mem_get hy
      have hh := ht_ops hm
      have q := ih bk y (p ++ [i]) S (by omega) (ho.sub hm) (by simp; omega)
      have l1 : p.length + 1 ≤ 16777216 := by omega
      exact ⟨_, [some (encB bk), some (enc e), some (encP p), some (.int i), some (enc y), some .none], S, bindP_two .., by simp [seqP, l1, encP_snoc, q], _, _, _, rfl, rfl⟩) ⟨none, none, none, rfl, rfl⟩
  simp [fin_self]
theorem ok_spots {n : Nat} (hO : SOperands (Φ.call (Str.ofString "operands"))) (ih : SSpots n (Φ.call (Str.ofString "spots_in"))) : SSpots (n + 1) (runF Φ f_spots_in) := fun e p S hn hp hz => by
  simp [runF, f_spots_in, ent, hO e]
  generalize hL : mLoop _ _ _ _ _ _ _ _ = r
  obtain ⟨ρ', S', ⟨a, b, acc, rfl, rfl, hacc⟩, rfl⟩ := loop_inv' hL
    (fun i ρ S' => ∃ a b acc, [some (enc e), some (encP p), some (.own S.length), a, b] = ρ ∧ S ++ [.lst acc] = S' ∧ acc = (((p, e) :: ((ops e).zipIdx.take i).flatMap fun q => spots (p ++ [q.2]) q.1).map encQ)) (fun _ _ _ _ => wat_nil _ _) (fun i x ρ S' hx ⟨a, b, acc, h1, h2, hacc⟩ => by
      subst h1 h2
      obtain ⟨y, hy, rfl⟩ := enumD_get hx
      have hm := mem_get hy
      have hh := ht_ops hm
      have hs := sz_ops hm
      have q := fun S => ih y (p ++ [i]) S (by omega) (by simp; omega) (by omega)
      have l1 : p.length + 1 ≤ 16777216 := by omega
      have tk : (ops e).zipIdx.take (i + 1) = (ops e).zipIdx.take i ++ [(y, i)] := by
        rw [List.take_succ, List.getElem?_zipIdx, hy]; simp
      have l2 : (((p, e) :: ((ops e).zipIdx.take (i + 1)).flatMap fun q => spots (p ++ [q.2]) q.1)).length ≤ sz e := by
        rw [← spots_len p e, spots_eq]
        simp only [List.length_cons, Nat.add_le_add_iff_right]
        exact flatMap_take_le _ _ _
      rw [tk] at l2
      have l3 : acc.length + (spots (p ++ [i]) y).length ≤ 16777216 := by
        rw [hacc]; simp at l2 ⊢; omega
      refine ⟨_, [some (enc e), some (encP p), some (.own S.length), some (.int i), some (enc y)], S ++ [.lst (acc ++ (spots (p ++ [i]) y).map encQ)], bindP_two .., ?_, _, _, _, rfl, rfl, ?_⟩
      · simp [seqP, l1, encP_snoc, q, bmG, bmT, look_own, bmD, extendD, ownL, set_last, l3]
      · rw [hacc, tk]; simp) ⟨none, none, _, rfl, rfl, by simp [encQ]⟩
  rw [enumE_len, List.take_of_length_le (by simp), ← spots_eq] at hacc
  subst hacc
  simp
  rw [fin_app_own (by simp [frees_all, encQ])]; rfl
end
end PL

set_option Elab.async false
set_option linter.all false
set_option maxRecDepth 100000
set_option autoImplicit false
set_option maxHeartbeats 4000000
namespace PL
open PySem L2
/-! ### steps -/
structure Stp where
  kind : Str
  path : Path
  reads : List Str
  stores : List Str
def encS (s : Stp) : Dat := .tuple [.str s.kind, encP s.path, encN s.reads, encN s.stores]
@[simp] theorem encS_free (s : Stp) : free (encS s) = true := by simp [encS]
theorem cleans_strs (xs : List Str) : cleans (xs.map Dat.str) = true := by rw [cleans_all]; simp
@[simp] theorem encN_clean (xs : List Str) : clean (encN xs) = true := by rw [encN]; simp only [clean_tuple, cleans_strs]
@[simp] theorem encS_clean (s : Stp) : clean (encS s) = true := by simp [encS]
def ownS (bk : Bk) (p : Path) : Ex → List Stp
  | .read x => [⟨Str.ofString "read", p, [x], []⟩]
  | .store x _ => [⟨Str.ofString "store", p, [], [x]⟩]
  | .step x _ _ => [⟨Str.ofString "read", p, [x], []⟩, ⟨Str.ofString "store", p, [], [x]⟩]
  | .call f _ => match getB bk f with
    | some r => [⟨Str.ofString "call", p, r.reads, r.stores⟩]
    | none => []
  | _ => []
def stepsE (bk : Bk) (p : Path) (e : Ex) : List Stp := ((ops e).zipIdx.attach.flatMap fun q => stepsE bk (p ++ [q.1.2]) q.1.1) ++ ownS bk p e
termination_by ht e
decreasing_by exact ht_ops (List.fst_mem_of_mem_zipIdx q.2)
theorem stepsE_eq (bk : Bk) (p : Path) (e : Ex) : stepsE bk p e = ((ops e).zipIdx.flatMap fun q => stepsE bk (p ++ [q.2]) q.1) ++ ownS bk p e := by
  rw [stepsE]
  congr 1
  exact flatMap_attach' (ops e).zipIdx fun q => stepsE bk (p ++ [q.2]) q.1
theorem ownS_len (bk : Bk) (p : Path) (e : Ex) : (ownS bk p e).length ≤ 2 := by
  cases e <;> simp [ownS]
  split <;> simp
theorem flat_le {l : List Ex} {f : Ex × Nat → List Stp} (h : ∀ q ∈ l.zipIdx, (f q).length ≤ 2 * sz q.1) : (l.zipIdx.flatMap f).length ≤ 2 * (l.map sz).sum := by
  have : ∀ (l : List Ex) (k : Nat), (∀ q ∈ l.zipIdx k, (f q).length ≤ 2 * sz q.1) → ((l.zipIdx k).flatMap f).length ≤ 2 * (l.map sz).sum := by
    intro l
    induction l with
    | nil => intro k _; simp
    | cons a l ih =>
      intro k h
      rw [List.zipIdx_cons] at h ⊢
      rw [List.flatMap_cons, List.length_append, List.map_cons, List.sum_cons]
      have h1 := h (a, k) (List.mem_cons_self ..)
      have h2 := ih (k + 1) fun q hq => h q (List.mem_cons_of_mem _ hq)
      simp only at h1
      omega
  exact this l 0 h
theorem stepsE_len (bk : Bk) (p : Path) (e : Ex) : (stepsE bk p e).length ≤ 2 * sz e := by
  induction e using Ex.ind generalizing p with
  | h e ih =>
    rw [stepsE_eq, List.length_append, sz_eq]
    have h1 := ownS_len bk p e
    have h2 := flat_le (l := ops e) (f := fun q => stepsE bk (p ++ [q.2]) q.1) fun q hq => ih q.1 (List.fst_mem_of_mem_zipIdx hq) _
    omega
abbrev SOwn (F : Fun) : Prop := ∀ bk e p S, okN bk e → F [encB bk, enc e, encP p] S = .ok (.list ((ownS bk p e).map encS)) S
abbrev SSteps (n : Nat) (F : Fun) : Prop := ∀ bk e p S, ht e < n → p.length + ht e ≤ 1000 → sz e ≤ 10000 → OkE bk e → F [encB bk, enc e, encP p] S = .ok (.list ((stepsE bk p e).map encS)) S
theorem encN_one (x : Str) : Dat.tuple [.str x] = encN [x] := by simp [encN]
theorem encN_nil : Dat.tuple [] = encN [] := by simp [encN]
section
variable (Φ : Fe)
theorem ok_own_steps (hG : SGetitem (Φ.call (Str.ofString "Book.__getitem__"))) : SOwn (runF Φ f_own_steps) := fun bk e p S h => by
  cases e
  case call f as =>
    obtain ⟨r, h1, h2⟩ := h
    simp [runF, f_own_steps, ent, isTy, enc, insG, hG _ _ _ _ h1, h1, encF, ownS, encS, fin_self]
  all_goals simp [runF, f_own_steps, ent, isTy, enc, ownS, encS, encN, fin_self]
theorem steps_loop {n : Nat} (hO : SOperands (Φ.call (Str.ofString "operands"))) (hW : SOwn (Φ.call (Str.ofString "own_steps"))) (ih : SSteps n (Φ.call (Str.ofString "steps_in")))
    {bk : Bk} {e : Ex} {p : Path} {S : Sto} {r : RSt} (hn : ht e < n + 1) (hp : p.length + ht e ≤ 1000) (hz : sz e ≤ 10000) (ho : OkE bk e)
    (hL : mLoop (.tp [.nm 4, .nm 5]) (evSs Φ (.cons (.expr (.bm .extend (.var 3) (.cons (.call (Str.ofString "steps_in") (.cons (.var 0) (.cons (.var 5) (.cons (.tup (.star (.var 2) (.cons (.var 4) .nil))) .nil))) .nil .all) .nil))) .nil)) (evSs Φ .nil) [] (S ++ [.lst []]) (enumD (encs (ops e))) [some (encB bk), some (enc e), some (encP p), some (.own S.length), none, none] (S ++ [.lst []]) = r) :
    ∃ a b, r = .nx [some (encB bk), some (enc e), some (encP p), some (.own S.length), a, b] (S ++ [.lst (((ops e).zipIdx.flatMap fun q => stepsE bk (p ++ [q.2]) q.1).map encS)]) := by
  obtain ⟨ρ', S', ⟨a, b, acc, rfl, rfl, hacc⟩, rfl⟩ := loop_inv' hL
    (fun i ρ S' => ∃ a b acc, [some (encB bk), some (enc e), some (encP p), some (.own S.length), a, b] = ρ ∧ S ++ [.lst acc] = S' ∧ acc = (((ops e).zipIdx.take i).flatMap fun q => stepsE bk (p ++ [q.2]) q.1).map encS) (fun _ _ _ _ => wat_nil _ _) (fun i x ρ S' hx ⟨a, b, acc, h1, h2, hacc⟩ => by
      subst h1 h2
      obtain ⟨y, hy, rfl⟩ := enumD_get hx
      have hm := mem_get hy
      have hh := ht_ops hm
      have hs := sz_ops hm
      have q := fun S => ih bk y (p ++ [i]) S (by omega) (by simp; omega) (by omega) (ho.sub hm)
      have l1 : p.length + 1 ≤ 16777216 := by omega
      have tk : (ops e).zipIdx.take (i + 1) = (ops e).zipIdx.take i ++ [(y, i)] := by
        rw [List.take_succ, List.getElem?_zipIdx, hy]; simp
      have l2 : (((ops e).zipIdx.take (i + 1)).flatMap fun q => stepsE bk (p ++ [q.2]) q.1).length ≤ 2 * sz e := by
        refine Nat.le_trans (flatMap_take_le _ _ _) ?_
        have h1 := stepsE_len bk p e
        rw [stepsE_eq, List.length_append] at h1
        omega
      rw [tk] at l2
      have l3 : acc.length + (stepsE bk (p ++ [i]) y).length ≤ 16777216 := by
        rw [hacc]; simp at l2 ⊢; omega
      refine ⟨_, [some (encB bk), some (enc e), some (encP p), some (.own S.length), some (.int i), some (enc y)], S ++ [.lst (acc ++ (stepsE bk (p ++ [i]) y).map encS)], bindP_two .., ?_, _, _, _, rfl, rfl, ?_⟩
      · simp [seqP, l1, encP_snoc, q, bmG, bmT, look_own, bmD, extendD, ownL, set_last, l3]
      · rw [hacc, tk]; simp) ⟨none, none, _, rfl, rfl, by simp⟩
  rw [enumE_len, List.take_of_length_le (by simp)] at hacc
  subst hacc
  exact ⟨a, b, by simp⟩
theorem opAdd_own {S : Sto} {o : Bool} {k : Nat} {xs ys : List Dat} (h : S[k]? = some (.lst xs)) : opAdd o S (.own k) (.list ys) = newL o (xs ++ ys) S := by
  rw [opAdd, look_own h, look_list', cellD_lst]
theorem ok_steps_in {n : Nat} (hO : SOperands (Φ.call (Str.ofString "operands"))) (hW : SOwn (Φ.call (Str.ofString "own_steps"))) (ih : SSteps n (Φ.call (Str.ofString "steps_in"))) : SSteps (n + 1) (runF Φ f_steps_in) := fun bk e p S hn hp hz ho => by
  simp [runF, f_steps_in, ent, hO e]
  generalize hL : mLoop _ _ _ _ _ _ _ _ = r
  obtain ⟨a, b, rfl⟩ := steps_loop Φ hO hW ih hn hp hz ho hL
  have l1 := stepsE_len bk p e
  rw [stepsE_eq] at l1 ⊢
  have l2 : (List.map encS (((ops e).zipIdx.flatMap fun q => stepsE bk (p ++ [q.2]) q.1) ++ ownS bk p e)).length ≤ 16777216 := by rw [List.length_map]; omega
  rw [List.map_append] at l2 ⊢
  generalize hA : List.map encS ((ops e).zipIdx.flatMap fun q => stepsE bk (p ++ [q.2]) q.1) = acc at l2 ⊢
  have hf : frees acc = true := by rw [← hA, frees_all]; simp
  simp [hW bk e p _ ho.node, opAdd_own, l2]
  simp only [List.length_append, List.length_map] at l2
  rw [if_pos (by omega)]
  simp
  rw [fin_app (by rw [free_list', frees_append', hf]; simp [frees_all])]
theorem ok_steps_R {n : Nat} (hO : SOperands (Φ.call (Str.ofString "operands"))) (hW : SOwn (Φ.call (Str.ofString "own_steps"))) (ih : SSteps n (Φ.call (Str.ofString "steps_in"))) (bk : Bk) (e : Ex) (p : Path) (S : Sto) (hn : ht e < n + 1) (hp : p.length + ht e ≤ 1000) (hz : sz e ≤ 10000) (ho : OkE bk e) :
    ∃ c, runF Φ f_steps_in_R [encB bk, enc e, encP p] S = .ok (.own (S.length + 1)) (S ++ [c, .lst ((stepsE bk p e).map encS)]) := by
  simp [runF, f_steps_in_R, ent, hO e]
  generalize hL : mLoop _ _ _ _ _ _ _ _ = r
  obtain ⟨a, b, rfl⟩ := steps_loop Φ hO hW ih hn hp hz ho hL
  have l1 := stepsE_len bk p e
  rw [stepsE_eq] at l1 ⊢
  have l2 : (List.map encS (((ops e).zipIdx.flatMap fun q => stepsE bk (p ++ [q.2]) q.1) ++ ownS bk p e)).length ≤ 16777216 := by rw [List.length_map]; omega
  rw [List.map_append] at l2 ⊢
  generalize hA : List.map encS ((ops e).zipIdx.flatMap fun q => stepsE bk (p ++ [q.2]) q.1) = acc at l2 ⊢
  refine ⟨.lst acc, ?_⟩
  simp [hW bk e p _ ho.node, opAdd_own, l2]
  simp only [List.length_append, List.length_map] at l2
  rw [if_pos (by omega)]
  simp
end
end PL

set_option Elab.async false
set_option linter.all false
set_option maxRecDepth 100000
set_option autoImplicit false
set_option maxHeartbeats 4000000
namespace PL
open PySem L2
@[simp] theorem okI_true (inst : Decidable True) (i : Int) (S : Sto) : @okI True inst i S = some (.int i, S) := by simp [okI]
/-! ### draws -/
/-- a bag after at most so many draws -/
structure BagI where
  P : Nat → Cell → Prop
  free : ∀ {c x}, P c x → freeC x = true
  mono : ∀ {c c' x}, P c x → c ≤ c' → P c' x
def bagA : BagI where
  P := fun c x => ∃ a s k : Int, x = .lst [.int a, .int s, .int k] ∧ 0 ≤ a ∧ 0 ≤ s ∧ s < 2305843009213693951 ∧ 0 ≤ k ∧ k ≤ c
  free := fun ⟨a, s, k, h, _⟩ => by subst h; simp
  mono := fun ⟨a, s, k, h, h1, h2, h3, h4, h5⟩ l => ⟨a, s, k, h, h1, h2, h3, h4, by omega⟩
abbrev STake (B : BagI) (F : Fun) : Prop := ∀ S k x c (m : Int), S[k]? = some x → B.P c x → c < 1000000000 → 0 < m → m ≤ 10000000 → ∃ r x', F [.own k, .int m] S = .ok (.int r) (S.set k x') ∧ 0 ≤ r ∧ r < m ∧ B.P (c + 1) x'
theorem log_small {m : Int} (h : 0 < m) (h2 : m ≤ 10000000) : m.natAbs.log2 < 9000 := by
  have : m.natAbs.log2 < 24 := (Nat.log2_lt (by omega)).mpr (by omega)
  omega
theorem log_lt {m : Int} {n : Nat} (h : m.natAbs < 2 ^ n) (hn : 0 < n) : m.natAbs.log2 < n := by
  by_cases z : m.natAbs = 0
  · rw [z]; simpa using hn
  · exact (Nat.log2_lt z).mpr h
section
variable (Φ : Fe)
theorem ok_takeA : STake bagA (runF Φ f__law_take) := fun S j x c m hS ⟨a, s, k, hx, ha, hs, hs2, hk, hkc⟩ hc hm hm2 => by
  subst hx
  have hj : j < S.length := (List.getElem?_eq_some_iff.mp hS).1
  have l := look_own hS
  rw [cellD_lst] at l
  have at_ : ∀ i : Int, atD S (.own j) (.int i) = (atI [Dat.int a, .int s, .int k] i).bind fun d => some (d, S) := fun i => by rw [atD, l]; rfl
  by_cases h : 0 < a
  · have d : CDivW a m := ⟨hm, log_small hm hm2⟩
    refine ⟨a % m, .lst [.int (a / m), .int s, .int k], ?_, Int.emod_nonneg _ (by omega), Int.emod_lt_of_pos _ hm, a / m, s, k, rfl, Int.ediv_nonneg ha (by omega), hs, hs2, hk, by omega⟩
    simp [runF, f__law_take, ent, at_, h, okI_pos hm, okI_pos d, setAtD, hS, ixN]
    rw [fin_set (by simp) (by simp)]
  · have a0 : a = 0 := by omega
    subst a0
    have hS2 : (S.set j (.lst [.int 0, .int s, .int (k + 1)]))[j]? = some (.lst [.int 0, .int s, .int (k + 1)]) := List.getElem?_set_self hj
    have l2 := look_own hS2
    rw [cellD_lst] at l2
    have at2_ : ∀ i : Int, atD (S.set j (.lst [.int 0, .int s, .int (k + 1)])) (.own j) (.int i) = (atI [Dat.int 0, .int s, .int (k + 1)] i).bind fun d => some (d, (S.set j (.lst [.int 0, .int s, .int (k + 1)]))) := fun i => by rw [atD, l2]; rfl
    have c1 : CMulW 2654435761 (k + 1) := by
      have h1 : (2654435761 : Int).natAbs.log2 < 40 := by decide
      have h2 : (k + 1).natAbs.log2 < 40 := log_lt (by omega) (by omega)
      unfold CMulW; omega
    have c2 : CMulW 40503 (k + 1) := by
      have h1 : (40503 : Int).natAbs.log2 < 40 := by decide
      have h2 : (k + 1).natAbs.log2 < 40 := log_lt (by omega) (by omega)
      unfold CMulW; omega
    have p1 : CPow (s + 2654435761 * (k + 1)) 3 := ⟨by omega, by omega, by omega⟩
    have m1 : 0 ≤ (s + 2654435761 * (k + 1)) ^ 3 % 2305843009213693921 := Int.emod_nonneg _ (by omega)
    have m2 : (s + 2654435761 * (k + 1)) ^ 3 % 2305843009213693921 < 2305843009213693921 := Int.emod_lt_of_pos _ (by omega)
    generalize hM : (s + 2654435761 * (k + 1)) ^ 3 % 2305843009213693921 = M at m1 m2
    have p2 : CPow (M + 40503 * (k + 1)) 2 := ⟨by omega, by omega, by omega⟩
    have d4 : CDivW ((M + 40503 * (k + 1)) ^ 2 % 2305843009213693951) 4096 := ⟨by omega, by decide⟩
    refine ⟨(M + 40503 * (k + 1)) ^ 2 % 2305843009213693951 / 4096 % m, .lst [.int 0, .int s, .int (k + 1)], ?_, Int.emod_nonneg _ (by omega), Int.emod_lt_of_pos _ hm, 0, s, k + 1, rfl, by omega, hs, hs2, by omega, by omega⟩
    simp [runF, f__law_take, ent, at_, setAtD, hS, ixN, at2_, okI_pos c1, okI_pos c2, okI_pos p1]
    simp [hM, okI_pos p2, okI_pos d4, okI_pos hm]
    rw [fin_set (by simp) (by simp)]
end
end PL

set_option Elab.async false
set_option linter.all false
set_option maxRecDepth 100000
set_option autoImplicit false
set_option maxHeartbeats 4000000
namespace PL
open PySem L2
def Bag (B : BagI) (kb c : Nat) (S : Sto) : Prop := ∃ x, S[kb]? = some x ∧ B.P c x
/-- draws, and changes of the cells ks -/
structure Dr (B : BagI) (kb : Nat) (ks : List Nat) (c : Nat) (S S' : Sto) : Prop where
  grw : Grw (kb :: ks) S S'
  len : S'.length = S.length
  bag : Bag B kb c S'
section
variable {B : BagI} {kb c c' : Nat} {ks ks' : List Nat} {S S1 S2 S' : Sto} {d : Dat}
theorem Dr.trans (a : Dr B kb ks c S S1) (b : Dr B kb ks c' S1 S2) : Dr B kb ks c' S S2 := ⟨a.grw.trans b.grw, b.len.trans a.len, b.bag⟩
theorem Dr.mono (a : Dr B kb ks c S S1) (h : ∀ k ∈ ks, k ∈ ks') (l : c ≤ c') : Dr B kb ks' c' S S1 := ⟨a.grw.mono fun k hk => by
    rcases List.mem_cons.mp hk with rfl | hk
    · exact List.mem_cons_self ..
    · exact List.mem_cons_of_mem _ (h k hk), a.len, let ⟨x, h1, h2⟩ := a.bag; ⟨x, h1, B.mono h2 l⟩⟩
theorem Dr.up (a : Dr B kb [] c S S1) (l : c ≤ c') : Dr B kb ks c' S S1 := a.mono (fun _ h => nomatch h) l
theorem Dr.refl (h : Bag B kb c S) : Dr B kb ks c S S := ⟨.refl, rfl, h⟩
theorem Bag.lt (h : Bag B kb c S) : kb < S.length := by
  obtain ⟨x, h, _⟩ := h
  exact (List.getElem?_eq_some_iff.mp h).1
theorem Bag.mono (h : Bag B kb c S) (l : c ≤ c') : Bag B kb c' S := let ⟨x, h1, h2⟩ := h; ⟨x, h1, B.mono h2 l⟩
theorem Dr.get (a : Dr B kb ks c S S1) {k : Nat} {x : Cell} (h : S[k]? = some x) (n : k ≠ kb) (m : k ∉ ks) : S1[k]? = some x := a.grw.get h fun z => by
  rcases List.mem_cons.mp z with e | e
  · exact n e
  · exact m e
theorem Dr.fin (a : Dr B kb ks c S S') (h : free d = true) : fin S S' d = .ok d S' := by
  rw [fin_free h a.grw, ← a.len, List.take_length]
theorem Bag.app (h : Bag B kb c S) {T : Sto} : Bag B kb c (S ++ T) := let ⟨x, h1, h2⟩ := h; ⟨x, by rw [List.getElem?_append_left (List.getElem?_eq_some_iff.mp h1).1]; exact h1, h2⟩
end
abbrev STk (B : BagI) (F : Fun) : Prop := ∀ S kb c (m : Int), Bag B kb c S → c < 1000000000 → 0 < m → m ≤ 10000000 → ∃ r S', F [.own kb, .int m] S = .ok (.int r) S' ∧ 0 ≤ r ∧ r < m ∧ Dr B kb [] (c + 1) S S'
theorem STake.tk {B : BagI} {F : Fun} (h : STake B F) : STk B F := fun S kb c m ⟨x, h1, h2⟩ hc hm hm2 => by
  obtain ⟨r, x', e, r0, r1, q⟩ := h S kb x c m h1 h2 hc hm hm2
  exact ⟨r, _, e, r0, r1, Grw.set (B.free q) (List.mem_cons_self ..), by simp, x', List.getElem?_set_self (List.getElem?_eq_some_iff.mp h1).1, q⟩
abbrev SOf (B : BagI) (F : Fun) : Prop := ∀ S kb c (xs : List Dat), Bag B kb c S → c < 1000000000 → xs ≠ [] → xs.length ≤ 1000 → frees xs = true → ∃ d S', F [.own kb, .list xs] S = .ok d S' ∧ d ∈ xs ∧ Dr B kb [] (c + 1) S S'
theorem frees_mem {xs : List Dat} {d : Dat} (h : frees xs = true) (m : d ∈ xs) : free d = true := by
  rw [frees_all, List.all_eq_true] at h
  exact h d m
section
variable (Φ : Fe) {B : BagI}
theorem ok_of (hT : STk B (Φ.call (Str.ofString "_law_take"))) : SOf B (runF Φ f__law_of) := fun S kb c xs hb hc hn hl hf => by
  have h0 : 0 < xs.length := List.length_pos_iff.mpr hn
  obtain ⟨r, S', e, r0, r1, dr⟩ := hT S kb c xs.length hb hc (by omega) (by omega)
  obtain ⟨i, rfl⟩ : ∃ i : Nat, r = i := ⟨r.toNat, by omega⟩
  have hi : i < xs.length := by omega
  have hm := List.getElem_mem hi
  refine ⟨xs[i], S', ?_, hm, dr⟩
  simp [runF, f__law_of, ent, e, atI_nat hi]
  exact dr.fin (frees_mem hf hm)
/-! texts in order -/
def ltS (a b : Str) : Bool := PySem.W.dataLt (.str a) (.str b)
def sortS (l : List Str) : List Str := l.mergeSort (PySem.W.dataLe false PyData.str)
theorem sortS_perm (l : List Str) : (sortS l).Perm l := List.mergeSort_perm _ _
theorem toksS_inj {p q : Str} (h : PySem.W.keyToks (PyData.str p) = PySem.W.keyToks (PyData.str q)) : p = q := by
  simp only [PySem.W.keyToks, List.cons.injEq, Sum.inr.injEq, and_true] at h
  exact PySem.W.str_of_cps h
theorem ltS_of {p q : Str} (h : ltS q p = false) (n : p ≠ q) : ltS p q = true := dataLt_total h fun e => n (toksS_inj e).symm
theorem sortS_strict {l : List Str} (h : l.Nodup) : (sortS l).Pairwise fun a b => ltS a b = true := by
  have nd : (sortS l).Nodup := (sortS_perm l).nodup_iff.mpr h
  exact List.Pairwise.imp₂ (fun a b h1 h2 => ltS_of h1 h2) (sort_pair PyData.str l) nd
theorem sortD_strs (S : Sto) (l : List Str) : sortD S (l.map Dat.str) = (sortS l).map Dat.str := by
  rw [sortD_map Dat.str (fun a _ => by simp)]
  simp only [toP_str]; rfl
theorem pd_str (S : Sto) (x : Str) : pd S (.str x) = some (.str x) := by rw [pd_clean (by simp), toP_str]
theorem sortable_strs (S : Sto) (l : List Str) : sortable S (l.map Dat.str) = true := by
  unfold sortable
  rw [List.all_eq_true]
  intro x hx
  obtain ⟨p, _, rfl⟩ := List.mem_map.mp hx
  simp only [keyD, pd_str, Option.getD_some, Option.isSome_some, Bool.true_and, Bool.and_eq_true, List.all_eq_true]
  refine ⟨⟨by simp [notNone], by simp [PyData.depth]⟩, fun y hy => ?_⟩
  obtain ⟨q, _, rfl⟩ := List.mem_map.mp hy
  rw [pd_str]; simp [PySem.W.alike]
/-- places in order -/
structure OkPl (pl ys : List Str) : Prop where
  mem : ∀ y ∈ ys, y ∈ pl
  len : ys.length ≤ pl.length
  asc : ys.Pairwise fun a b => ltS a b = true
abbrev SSome (B : BagI) (F : Fun) : Prop := ∀ S kb c (pl : List Str), Bag B kb c S → c + pl.length < 1000000000 → pl.Nodup → pl.length ≤ 1000 → ∃ ys S', F [.own kb, .list (pl.map .str)] S = .ok (encN ys) S' ∧ OkPl pl ys ∧ Dr B kb [] (c + pl.length) S S'
theorem ok_some (hT : STk B (Φ.call (Str.ofString "_law_take"))) : SSome B (runF Φ f__law_some) := fun S kb c pl hb hc hn hl => by
  simp [runF, f__law_some, ent]
  generalize hL : mLcL _ _ _ _ _ _ _ _ _ = r
  obtain ⟨S', acc, ⟨ys, rfl, hs, dr⟩, rfl⟩ := lc_inv' hL (fun i S' acc => ∃ ys, ys.map Dat.str = acc ∧ ys.Sublist (pl.take i) ∧ Dr B kb [] (c + i) S S') (fun _ _ _ _ => wat_nil _ _) (fun i x S1 acc hx ⟨ys, h1, hs, dr⟩ => by
    subst h1
    rw [List.getElem?_map] at hx
    cases hy : pl[i]? with
    | none => rw [hy] at hx; simp at hx
    | some y =>
      rw [hy] at hx
      simp at hx
      subst hx
      have li := (List.getElem?_eq_some_iff.mp hy).1
      obtain ⟨r, S2, e, r0, r1, d2⟩ := hT S1 kb (c + i) 2 dr.bag (by omega) (by omega) (by omega)
      have tk : pl.take (i + 1) = pl.take i ++ [y] := by rw [List.take_succ, hy]; rfl
      have lys := hs.length_le
      rw [List.length_take] at lys
      refine ⟨_, decide (r = 0), S2, bindP_nm .., by simp [wipeE, e], ?_⟩
      by_cases h : r = 0
      · refine .inl ⟨by simp [h], .str y, S2, by simp [wipeE], by simp; omega, ys ++ [y], by simp, ?_, dr.trans d2⟩
        rw [tk]; exact hs.append (List.Sublist.refl _)
      · refine .inr ⟨by simp [h], ys, rfl, ?_, dr.trans d2⟩
        rw [tk]; exact hs.trans (List.sublist_append_left _ _)) ⟨[], rfl, by simp, .refl hb⟩
  rw [List.length_map, List.take_length] at hs
  have lys := hs.length_le
  have hm : ∀ y ∈ ys, y ∈ pl := fun y hy => hs.subset hy
  have l1 : ys.length ≤ 16777216 := by omega
  have l2 : (sortS ys).length = ys.length := (sortS_perm ys).length_eq
  refine ⟨sortS ys, S', ?_, ⟨fun y hy => hm y ((sortS_perm ys).mem_iff.mp hy), by omega, sortS_strict (hs.nodup hn)⟩, by rw [List.length_map] at dr; exact dr⟩
  simp [l1, sortable_strs, sortD_strs, l2]
  rw [dr.fin (by simp [frees_strs])]; rfl
end
end PL

set_option Elab.async false
set_option linter.all false
set_option maxRecDepth 100000
set_option autoImplicit false
set_option maxHeartbeats 4000000
namespace PL
open PySem L2
theorem cmp_lt_str (S : Sto) (a b : Str) : cmpop .Lt S (.str a) (.str b) = some (.bool (ltS a b), S) := by
  rw [cmpop, ordD]
  · simp only [pd_str, bind_some', PySem.W.alike, notNone, PyData.depth, Bool.true_and]
    rfl
  · intro i j h; cases h
theorem zip_tup {α : Type} (g : α → Dat) (xs ys : List α) : zip2D [.tuple (xs.map g), .tuple (ys.map g)] = some ((xs.zip ys).map (fun q => .tuple [g q.1, g q.2]), []) := by
  simp [zip2D, zipD, List.zip_map, Function.comp_def]
theorem pair_zip {α : Type} {R : α → α → Prop} : ∀ {l : List α}, l.Pairwise R → ∀ q ∈ l.zip l.tail, R q.1 q.2
  | [], _, q, h => by simp at h
  | [a], _, q, h => by simp at h
  | a :: b :: l, h, q, hq => by
    rw [List.pairwise_cons] at h
    simp only [List.tail_cons, List.zip_cons_cons, List.mem_cons] at hq
    rcases hq with rfl | hq
    · exact h.1 b (List.mem_cons_self ..)
    · exact pair_zip (l := b :: l) h.2 q (by simpa using hq)
structure OkNs (ys : List Str) : Prop where
  nm : ∀ y ∈ ys, isNameB y = true
  len : ys.length ≤ 4
  asc : ys.Pairwise fun a b => ltS a b = true
abbrev SPlaces (F : Fun) : Prop := ∀ ys S, OkNs ys → F [encN ys] S = .ok (.bool true) S
@[simp] theorem itM_encN (S : Sto) (ys : List Str) : itemsM S (encN ys) = some (ys.map .str, []) := by rw [encN, itM_tup]
theorem map_true {α : Type} {f : α → Bool} {l : List α} (h : ∀ x ∈ l, f x = true) : (l.map f).all id = true := by
  rw [List.all_eq_true]
  intro b hb
  obtain ⟨x, hx, rfl⟩ := List.mem_map.mp hb
  exact h x hx
section
variable (Φ : Fe)
theorem ok_are_places (hN : SIsName (Φ.call (Str.ofString "is_name"))) : SPlaces (runF Φ f_are_places) := fun ys S h => by
  have l0 := h.len
  have l1 : ¬ (4 : Int) < ys.length := by omega
  have l2 : ys.length ≤ 16777216 := by omega
  have l3 : ys.length - 1 ≤ 16777216 := by omega
  simp [runF, f_are_places, ent, isTy, encN, l1]
  rw [lc_all (fun y => .bool true) (by simp; omega) (fun y hy => ⟨_, bindP_nm .., by simp, by simp [wipeE, hN y S (name_short (h.nm y hy)), h.nm y hy]⟩) (wat_nil _ _)]
  simp [l2, l3, boolsOf_map (fun _ => true), ← List.map_tail]
  rw [zip_tup]
  simp
  rw [lc_all (fun q => .bool (ltS q.1 q.2)) (by simp; omega) (fun q hq => ⟨_, bindP_two .., by simp, by simp [wipeE, cmp_lt_str]⟩) (wat_nil _ _)]
  have l4 : (ys.zip ys.tail).length ≤ 16777216 := by simp; omega
  simp [-List.length_zip, l4]
  have e : ((ys.zip ys.tail).all fun x => ltS x.fst x.snd) = true := List.all_eq_true.mpr fun q hq => pair_zip h.asc q hq
  rw [e, fin_self (by simp)]
/-! functions -/
abbrev SMakeF (F : Fun) : Prop := ∀ f S, isNameB f.name = true → f.ar ≤ 3 → OkNs f.reads → OkNs f.stores → F [.str f.name, .int f.ar, encN f.reads, encN f.stores] S = .ok (encF f) S
structure CtF (ct : CT) : Prop where
  n : hasF ct (Str.ofString "Function") (Str.ofString "name") = true
  a : hasF ct (Str.ofString "Function") (Str.ofString "arguments") = true
  r : hasF ct (Str.ofString "Function") (Str.ofString "reads") = true
  s : hasF ct (Str.ofString "Function") (Str.ofString "stores") = true
  c : hasC ct (Str.ofString "Function") = true
  b : hasF ct (Str.ofString "Book") (Str.ofString "table") = true
@[simp] theorem putFd_nil (f : Str) (v : Dat) : putFd f v [] = [(f, v)] := by rw [putFd]
@[simp] theorem putFd_cons (f n : Str) (v d : Dat) (r : List (Str × Dat)) : putFd f v ((n, d) :: r) = if n = f then (n, v) :: r else (n, d) :: putFd f v r := by rw [putFd]
theorem setFld_own {ct : CT} {S : Sto} {k : Nat} {C f : Str} {v : Dat} {fs : List (Str × Dat)} (h : S[k]? = some (.ins C fs)) (l : fs.length < 1000) (hf : hasF ct C f = true) : setFldD ct S (.own k) f v = some (S.set k (.ins C (putFd f v fs))) := by
  rw [setFldD, h]; simp [l, hf]
@[simp] theorem setFld_app (ct : CT) (S : Sto) (C f : Str) (v : Dat) (fs : List (Str × Dat)) : setFldD ct (S ++ [.ins C fs]) (.own S.length) f v = if fs.length < 1000 ∧ hasF ct C f = true then some (S ++ [.ins C (putFd f v fs)]) else none := by
  rw [setFldD, List.getElem?_append_right (Nat.le_refl _)]
  simp
@[simp] theorem getApp (S : Sto) (x : Cell) : (S ++ [x])[S.length]? = some x := by simp
theorem fin_last {S : Sto} {x y : Cell} {d : Dat} (hx : freeC x = true) (h : free d = true) : fin (S ++ [y]) (S ++ [x]) d = .ok d (S ++ [x]) := by
  have := fin_set (S := S ++ [y]) (k := S.length) h hx
  rw [set_last] at this; exact this
theorem mk_function (hct : CtF Φ.ct) (hI : SIsInteger (Φ.call (Str.ofString "is_integer"))) (hN : SIsName (Φ.call (Str.ofString "is_name"))) (hP : SPlaces (Φ.call (Str.ofString "are_places"))) : SMakeF (runMk (runF Φ f_Function___init__) true (Str.ofString "Function")) := fun f S h1 h2 h3 h4 => by
  have a1 : (f.ar : Int) ≤ 3 := by omega
  rw [runMk]
  simp [runF, f_Function___init__, ent, hN _ _ (name_short h1), h1, hI, a1, hP _ _ h3, hP _ _ h4, hct.n, hct.a, hct.r, hct.s]
  rw [fin_last (by simp) (by simp)]
  simp
  rw [fin_app_own (by simp)]; rfl
/-! books -/
def sortB (fs : List Fn) : Bk := fs.mergeSort (PySem.W.dataLe false fun f => PyData.str f.name)
theorem sortB_perm (fs : List Fn) : (sortB fs).Perm fs := List.mergeSort_perm _ _
theorem sortB_names (fs : List Fn) : sortS (fs.map (·.name)) = (sortB fs).map (·.name) := by
  unfold sortS sortB
  exact (List.map_mergeSort (f := fun f : Fn => f.name) fun a _ b _ => rfl).symm
theorem dput_new {kvs : List (Dat × Dat)} {k v : Dat} (h : ∀ p ∈ kvs, p.1 ≠ k) : dput kvs k v = kvs ++ [(k, v)] := by
  unfold dput
  rw [if_neg]
  intro z
  obtain ⟨p, hp, e⟩ := List.any_eq_true.mp z
  exact h p hp (by simpa using e)
theorem dput_fold {α : Type} {f g : α → Dat} : ∀ {l : List α} {acc : List (Dat × Dat)}, (l.map f).Nodup → (∀ p ∈ acc, ∀ x ∈ l, p.1 ≠ f x) → l.foldl (fun a x => dput a (f x) (g x)) acc = acc ++ l.map fun x => (f x, g x)
  | [], acc, _, _ => by simp
  | a :: l, acc, h, hd => by
    rw [List.map_cons, List.nodup_cons] at h
    rw [List.foldl_cons, dput_new fun p hp => hd p hp a (List.mem_cons_self ..), dput_fold h.2]
    · simp
    · intro p hp x hx
      rw [List.mem_append, List.mem_singleton] at hp
      rcases hp with hp | rfl
      · exact hd p hp x (List.mem_cons_of_mem _ hx)
      · exact fun e => h.1 (by simp only at e; rw [e]; exact List.mem_map.mpr ⟨x, hx, rfl⟩)
theorem getB_mem {fs : List Fn} (h : (fs.map (·.name)).Nodup) {f : Fn} (hf : f ∈ fs) : getB fs f.name = some f := by
  induction fs with
  | nil => cases hf
  | cons a fs ih =>
    rw [List.map_cons, List.nodup_cons] at h
    rw [getB, List.find?_cons]
    rcases List.mem_cons.mp hf with rfl | hf
    · simp
    · have : a.name ≠ f.name := fun e => h.1 (by rw [e]; exact List.mem_map.mpr ⟨f, hf, rfl⟩)
      simp only [this, decide_false]
      exact ih h.2 hf
theorem getB_some {fs : List Fn} {n : Str} {f : Fn} (h : getB fs n = some f) : f ∈ fs ∧ f.name = n := ⟨List.mem_of_find?_eq_some h, by have := List.find?_some h; simpa using this⟩
theorem getB_sort {fs : List Fn} (h : (fs.map (·.name)).Nodup) (n : Str) : getB (sortB fs) n = getB fs n := by
  have hp := sortB_perm fs
  have h2 : ((sortB fs).map (·.name)).Nodup := (hp.map _).nodup_iff.mpr h
  cases q : getB fs n with
  | some f =>
    obtain ⟨m, rfl⟩ := getB_some q
    exact getB_mem h2 (hp.mem_iff.mpr m)
  | none =>
    cases q2 : getB (sortB fs) n with
    | none => rfl
    | some f =>
      obtain ⟨m, rfl⟩ := getB_some q2
      rw [getB_mem h (hp.mem_iff.mp m)] at q; cases q
abbrev SMakeB (F : Fun) : Prop := ∀ fs S, (fs.map Fn.name).Nodup → fs.length ≤ 6 → F [.tuple (fs.map encF)] S = .ok (encB (sortB fs)) S
theorem enumF_get {fs : List Fn} {i : Nat} {x : Dat} (h : (enumD (fs.map encF))[i]? = some x) : ∃ f, fs[i]? = some f ∧ x = .tuple [.int (i : Int), encF f] := by
  rw [enumD] at h
  simp only [List.getElem?_map, List.getElem?_zipIdx, Option.map_map] at h
  cases q : fs[i]? with
  | none => simp [q] at h
  | some e =>
    simp [q] at h
    exact ⟨e, rfl, h.symm⟩
theorem keys_tabB (b : Bk) : keysOf (tabB b) = (b.map (·.name)).map Dat.str := by simp [keysOf, tabB, Function.comp_def]
theorem fin_set_app {S T : Sto} {k : Nat} {x : Cell} {d : Dat} (hk : k < S.length) (h : free d = true) (hx : freeC x = true) : fin S ((S ++ T).set k x) d = .ok d (S.set k x) := by
  rw [fin_free (ks := [k]) h, List.set_append_left _ _ hk]
  · congr 1
    rw [List.take_append_of_le_length (by simp)]
    have : S.length = (S.set k x).length := by simp
    rw [this, List.take_length]
  · rw [List.set_append_left _ _ hk]
    exact ⟨by simp, fun j hj => by
      rw [List.getElem?_append_left (by simpa using hj)]
      exact (Grw.set (ks := [k]) hx (List.mem_singleton.mpr rfl)).at_ j hj⟩
@[simp] theorem dputs_nil (kvs : List (Dat × Dat)) : dputs kvs [] = kvs := by rw [dputs]
@[simp] theorem dputs_cons (kvs r : List (Dat × Dat)) (k v : Dat) : dputs kvs ((k, v) :: r) = dputs (dput kvs k v) r := by rw [dputs]
theorem dget_none {b : Bk} {n : Str} (h : n ∉ b.map (·.name)) : dget (tabB b) (.str n) = none := by
  rw [dget_tabB]
  cases q : getB b n with
  | none => rfl
  | some f =>
    obtain ⟨m, rfl⟩ := getB_some q
    exact absurd (List.mem_map.mpr ⟨f, m, rfl⟩) h
theorem inD_own {S : Sto} {k : Nat} {kvs : List (Dat × Dat)} {x : Dat} (h : S[k]? = some (.dict kvs)) : inD S x (.own k) = if keyFits kvs x then some (dget kvs x).isSome else none := by
  rw [inD, look_own h, cellD_dict]
@[simp] theorem inD_app (S : Sto) (kvs : List (Dat × Dat)) (x : Dat) : inD (S ++ [.dict kvs]) x (.own S.length) = if keyFits kvs x then some (dget kvs x).isSome else none := inD_own (by simp)
@[simp] theorem setAt_app (S : Sto) (kvs : List (Dat × Dat)) (x v : Dat) : setAtD (S ++ [.dict kvs]) (.own S.length) x v = if keyFits kvs x ∧ kvs.length < sizeLine then some (S ++ [.dict (dput kvs x v)]) else none := by
  rw [setAtD, List.getElem?_append_right (Nat.le_refl _)]
  simp
@[simp] theorem atD_app (S : Sto) (kvs : List (Dat × Dat)) (x : Dat) : atD (S ++ [.dict kvs]) (.own S.length) x = if keyFits kvs x then (dget kvs x).bind fun d => some (d, S ++ [.dict kvs]) else none := by
  rw [atD, look_own (getApp S _), cellD_dict]; rfl
theorem init_book (hct : CtF Φ.ct) {fs : List Fn} (hn : (fs.map Fn.name).Nodup) (hl : fs.length ≤ 6) {T : Sto} {k : Nat} (hk : T[k]? = some (.ins (Str.ofString "Book") [])) :
    runF Φ f_Book___init__ [.own k, .tuple (fs.map encF)] T = .ok .none (T.set k (.ins (Str.ofString "Book") [(Str.ofString "table", .dict (tabB (sortB fs)))])) := by
  have lk := (List.getElem?_eq_some_iff.mp hk).1
  simp [runF, f_Book___init__, ent]
  generalize hL : mLoop _ _ _ _ _ _ _ _ = r
  obtain ⟨ρ', S', ⟨a, b, rfl, rfl⟩, rfl⟩ := loop_inv' hL (fun i ρ S' => ∃ a b, [some (.own k), some (.tuple (fs.map encF)), some (.own T.length), a, b, none] = ρ ∧ T ++ [.dict (tabB (fs.take i))] = S') (fun _ _ _ _ => wat_nil _ _) (fun i x ρ S1 hx ⟨a, b, h1, h2⟩ => by
    subst h1 h2
    obtain ⟨f, hf, rfl⟩ := enumF_get hx
    have li := (List.getElem?_eq_some_iff.mp hf).1
    have tk : fs.take (i + 1) = fs.take i ++ [f] := by rw [List.take_succ, hf]; rfl
    have nf : f.name ∉ (fs.take i).map (·.name) := by
      have h3 : ((fs.take (i + 1)).map (·.name)).Nodup := ((List.take_sublist _ _).map _).nodup hn
      rw [tk, List.map_append, List.nodup_append] at h3
      exact fun z => h3.2.2 _ z _ (List.mem_singleton.mpr rfl) rfl
    have e1 := dget_none nf
    have e2 : dput (tabB (fs.take i)) (.str f.name) (encF f) = tabB (fs.take (i + 1)) := by
      rw [dput_new, tk]
      · simp [tabB]
      · intro p hp
        obtain ⟨g, hg, rfl⟩ := List.mem_map.mp hp
        simp only [ne_eq, Dat.str.injEq]
        exact fun z => nf (by rw [← z]; exact List.mem_map.mpr ⟨g, hg, rfl⟩)
    have l1 : (tabB (fs.take i)).length < 16777216 := by simp [tabB]; omega
    refine ⟨_, [some (.own k), some (.tuple (fs.map encF)), some (.own T.length), some (.int i), some (encF f), none], T ++ [.dict (tabB (fs.take (i + 1)))], bindP_two .., ?_, _, _, rfl, rfl⟩
    simp only [encF] at e2 ⊢
    simp [isTy, hct.c, keyFits_tabB, e1, l1, e2]) ⟨none, none, rfl, by simp [tabB]⟩
  have l2 : ¬ (6 : Int) < fs.length := by omega
  have tl : fs.take (enumD (fs.map encF)).length = fs := by rw [List.take_of_length_le]; simp [enumD]
  rw [tl]
  have sk : srcS (T ++ [.dict (tabB fs)]) (.own T.length) = some ((fs.map (·.name)).map Dat.str) := by
    rw [srcS, look_own (getApp T _), cellD_dict]
    simp only [keys_tabB]
    rw [if_pos]
    simp [isStrD, tabB]; omega
  have l3 : ((sortB fs).map (·.name)).length ≤ 16777216 := by simp [(sortB_perm fs).length_eq]; omega
  have l4 : (sortB fs).length ≤ 16777216 := by simpa using l3
  have nd2 : ((sortB fs).map (·.name)).Nodup := ((sortB_perm fs).map _).nodup_iff.mpr hn
  simp [l2]
  rw [bi1, sk]
  simp only [bind_some', sortable_strs, if_true, sortD_strs, sortB_names, newL_ok]
  simp [l4]
  rw [dc_pure (f := fun d => d) (g := fun d => (dget (tabB fs) d).getD .none) (by simp; omega) (fun x hx => by
    obtain ⟨f, hf, rfl⟩ := List.mem_map.mp hx
    simp only [Function.comp_apply]
    have e3 : dget (tabB fs) (.str f.name) = some (encF f) := by rw [dget_tabB, getB_mem hn ((sortB_perm fs).mem_iff.mp hf)]; rfl
    exact ⟨_, bindP_nm .., by simp, by simp [wipeE], by simp [wipeE, keyFits_tabB, e3], by simp, by simp⟩) (wat_nil _ _)]
  rw [List.foldl_map]
  simp only [Function.comp_apply]
  rw [dput_fold (f := fun f : Fn => Dat.str f.name) (g := fun f : Fn => (dget (tabB fs) (.str f.name)).getD .none)]
  · have e4 : ((sortB fs).map fun x => (Dat.str x.name, (dget (tabB fs) (.str x.name)).getD .none)) = tabB (sortB fs) := by
      show _ = (sortB fs).map fun f => (Dat.str f.name, encF f)
      refine List.map_congr_left fun f hf => ?_
      rw [dget_tabB, getB_mem hn ((sortB_perm fs).mem_iff.mp hf)]; rfl
    rw [List.nil_append, e4]
    have l5 : (tabB (sortB fs)).length ≤ 16777216 := by simpa [tabB] using l4
    have hk2 : (T ++ [.dict (tabB fs)])[k]? = some (.ins (Str.ofString "Book") []) := by rw [List.getElem?_append_left lk, hk]
    simp [l5, setFld_own hk2 (by simp) hct.b]
    rw [fin_set_app lk (by simp) (by simp [tabB_free])]
  · have : (sortB fs).map (fun f : Fn => Dat.str f.name) = ((sortB fs).map (·.name)).map Dat.str := by simp
    rw [this]
    exact List.pairwise_map.mpr (List.Pairwise.imp (fun {a b} h e => h (by simpa using e)) nd2)
  · intro p hp; cases hp
theorem mk_book (hct : CtF Φ.ct) : SMakeB (runMk (runF Φ f_Book___init__) true (Str.ofString "Book")) := fun fs S hn hl => by
  rw [runMk, init_book Φ hct hn hl (by simp)]
  simp only [bnd_ok, set_last, if_true]
  rw [fin_app_own (by simp [tabB_free])]; rfl
end
end PL

set_option Elab.async false
set_option linter.all false
set_option maxRecDepth 100000
set_option autoImplicit false
set_option maxHeartbeats 4000000
namespace PL
open PySem L2
/-! ### drawn functions -/
def encRow (f : Fn) : Dat := .tuple [.str f.name, .int f.ar, encN f.reads, encN f.stores]
@[simp] theorem encRow_free (f : Fn) : free (encRow f) = true := by simp [encRow]
structure OkFn (f : Fn) : Prop where
  nm : isNameB f.name = true
  ar : f.ar ≤ 3
  rd : OkNs f.reads
  st : OkNs f.stores
abbrev SBook (F : Fun) : Prop := ∀ fs S, (fs.map Fn.name).Nodup → fs.length ≤ 3 → (∀ f ∈ fs, OkFn f) → F [.list (fs.map encRow)] S = .ok (encB (sortB fs)) S
section
variable (Φ : Fe)
theorem ok_book (hF : SMakeF (Φ.make (Str.ofString "Function") (Str.ofString "Function.__init__"))) (hB : SMakeB (Φ.make (Str.ofString "Book") (Str.ofString "Book.__init__"))) : SBook (runF Φ f__law_book) := fun fs S hn hl ho => by
  simp [runF, f__law_book, ent]
  rw [lc_all encF (by simp; omega) (fun f hf => ⟨_, bindP_nm .., by simp, by
    have h := ho f hf
    have e := hF f S h.nm h.ar h.rd h.st
    simp [wipeE, encRow, arD, srcs, srcD, e]⟩) (wat_nil _ _)]
  match fs, hn, hl with
  | [], hn, _ =>
    have e := hB [] S hn (by simp)
    simp [arD, srcs, srcD] at e ⊢
    rw [e]; simp [fin_self]
  | [a], hn, _ =>
    have e := hB [a] S hn (by simp)
    simp [arD, srcs, srcD] at e ⊢
    rw [e]; simp [fin_self]
  | [a, b], hn, _ =>
    have e := hB [a, b] S hn (by simp)
    simp [arD, srcs, srcD] at e ⊢
    rw [e]; simp [fin_self]
  | [a, b, c], hn, _ =>
    have e := hB [a, b, c] S hn (by simp)
    simp [arD, srcs, srcD] at e ⊢
    rw [e]; simp [fin_self]
end
structure Kit where
  pl : List Str
  fs : List Fn
  g : Bool
def encK (k : Kit) : Dat := .dict [(tag "places", .list (k.pl.map .str)), (tag "functions", .list (k.fs.map encRow)), (tag "guards", .bool k.g)]
theorem frees_rows (fs : List Fn) : frees (fs.map encRow) = true := by rw [frees_all]; simp
@[simp] theorem encK_free (k : Kit) : free (encK k) = true := by simp [encK, frees_strs, frees_rows]
structure OkKit (k : Kit) : Prop where
  nd : k.pl.Nodup
  ne : k.pl ≠ []
  len : k.pl.length ≤ 4
  nm : ∀ p ∈ k.pl, isNameB p = true
  fnd : (k.fs.map Fn.name).Nodup
  flen : k.fs.length ≤ 3
  fok : ∀ f ∈ k.fs, OkFn f
abbrev SKit (B : BagI) (F : Fun) : Prop := ∀ S kb c g, Bag B kb c S → c + 40 < 1000000000 → ∃ k S', F [.own kb, .bool g] S = .ok (encK k) S' ∧ OkKit k ∧ k.g = g ∧ Dr B kb [] (c + 40) S S'
theorem OkPl.ns {pl ys : List Str} (h : OkPl pl ys) (hl : pl.length ≤ 4) (hn : ∀ p ∈ pl, isNameB p = true) : OkNs ys := ⟨fun y hy => hn y (h.mem y hy), Nat.le_trans h.len hl, h.asc⟩
def strsL (xs : List String) : List Str := xs.map Str.ofString
structure OkPool (n : Nat) (pl : List Str) : Prop where
  nd : pl.Nodup
  len : pl.length = n
  nm : ∀ p ∈ pl, isNameB p = true
def poolB (n : Nat) (pl : List Str) : Bool := decide pl.Nodup && decide (pl.length = n) && pl.all isNameB
theorem poolB_ok {n : Nat} {pl : List Str} (h : poolB n pl = true) : OkPool n pl := by
  unfold poolB at h
  simp only [Bool.and_eq_true, decide_eq_true_eq, List.all_eq_true] at h
  exact ⟨h.1.1, h.1.2, h.2⟩
theorem pools4 {d : Dat} (h : d ∈ ([["x", "y", "z", "w"], ["a", "aa", "aaa", "aaaaaaaa"], ["f", "g", "h", "x"], ["zb", "zc", "b", "c"]] : List (List String)).map fun l => Dat.list ((strsL l).map .str)) : ∃ pl, d = .list (pl.map .str) ∧ OkPool 4 pl := by
  obtain ⟨l, hl, rfl⟩ := List.mem_map.mp h
  refine ⟨strsL l, rfl, poolB_ok ?_⟩
  have : ([["x", "y", "z", "w"], ["a", "aa", "aaa", "aaaaaaaa"], ["f", "g", "h", "x"], ["zb", "zc", "b", "c"]] : List (List String)).all (fun l => poolB 4 (strsL l)) = true := by decide +kernel
  exact List.all_eq_true.mp this l hl
theorem pools3 {d : Dat} (h : d ∈ ([["f", "g", "h"], ["a", "ab", "abcdefgh"], ["x", "f", "zz"]] : List (List String)).map fun l => Dat.list ((strsL l).map .str)) : ∃ pl, d = .list (pl.map .str) ∧ OkPool 3 pl := by
  obtain ⟨l, hl, rfl⟩ := List.mem_map.mp h
  refine ⟨strsL l, rfl, poolB_ok ?_⟩
  have : ([["f", "g", "h"], ["a", "ab", "abcdefgh"], ["x", "f", "zz"]] : List (List String)).all (fun l => poolB 3 (strsL l)) = true := by decide +kernel
  exact List.all_eq_true.mp this l hl
theorem mapO_own {n : Nat} {S' : Sto} {k : Nat} {x : Cell} (h : S'[k]? = some x) (l : n ≤ k) (f : freeC x = true) : mapO (resO n S' S'.length) (.own k) = some (cellD x) := by
  have := res_own (S := List.replicate n (.lst [])) h (by simpa using l) f
  unfold res at this
  simpa using this
theorem take_map_get {ns : List Str} {m i : Nat} {x : Dat} (h : (List.take m (List.map Dat.str ns))[i]? = some x) : ∃ y, (ns.take m)[i]? = some y ∧ x = .str y := by
  rw [← List.map_take, List.getElem?_map] at h
  cases q : (ns.take m)[i]? with
  | none => rw [q] at h; cases h
  | some y => rw [q] at h; cases h; exact ⟨y, rfl, rfl⟩
section
variable (Φ : Fe) {B : BagI}
theorem ok_kit (hT : STk B (Φ.call (Str.ofString "_law_take"))) (hO : SOf B (Φ.call (Str.ofString "_law_of"))) (hS : SSome B (Φ.call (Str.ofString "_law_some"))) : SKit B (runF Φ f__law_kit) := fun S kb c g hb hc => by
  obtain ⟨d1, S1, e1, m1, r1⟩ := hO S kb c (([["x", "y", "z", "w"], ["a", "aa", "aaa", "aaaaaaaa"], ["f", "g", "h", "x"], ["zb", "zc", "b", "c"]] : List (List String)).map fun l => Dat.list ((strsL l).map .str)) hb (by omega) (by simp) (by simp) (by simp [strsL])
  obtain ⟨pl, rfl, p1⟩ := pools4 m1
  obtain ⟨d2, S2, e2, m2, r2⟩ := hO S1 kb (c + 1) (([["f", "g", "h"], ["a", "ab", "abcdefgh"], ["x", "f", "zz"]] : List (List String)).map fun l => Dat.list ((strsL l).map .str)) r1.bag (by omega) (by simp) (by simp) (by simp [strsL])
  obtain ⟨ns, rfl, p2⟩ := pools3 m2
  obtain ⟨r, S3, e3, r0, r4, r3⟩ := hT (S2 ++ [.lst []]) kb (c + 2) 4 r2.bag.app (by omega) (by omega) (by omega)
  obtain ⟨m, rfl⟩ : ∃ m : Nat, r = m := ⟨r.toNat, by omega⟩
  simp [strsL] at e1 e2
  have l1 : ((ns.map Dat.str).take m).length ≤ 16777216 := by simp [p2.len]; omega
  simp [runF, f__law_kit, ent, e1, e2, e3, cut_to]
  rw [if_pos (by simpa using l1)]
  simp only [ofP_some, bnd_ok, st_ok', sq_nx', kei_seq0_ap, kes_for0_ap, itM_lst, ofB_some']
  generalize hL : mLoop _ _ _ _ _ _ _ _ = r
  have hL0 : S2.length ≠ kb := Nat.ne_of_gt r2.bag.lt
  obtain ⟨ρ', S', ⟨a, fs, rfl, h1, h2, h3, d4⟩, rfl⟩ := loop_inv' hL (fun i ρ S' => ∃ a fs, [some (.own kb), some (.bool g), some (.list (([["x", "y", "z", "w"], ["a", "aa", "aaa", "aaaaaaaa"], ["f", "g", "h", "x"], ["zb", "zc", "b", "c"]] : List (List String)).map fun l => Dat.list ((strsL l).map .str))), some (.list (pl.map .str)), some (.list (ns.map .str)), some (.own S2.length), a] = ρ ∧ S'[S2.length]? = some (.lst (fs.map encRow)) ∧ fs.map Fn.name = (ns.take m).take i ∧ (∀ f ∈ fs, OkFn f) ∧ Dr B kb [S2.length] (c + 3 + 9 * i) (S2 ++ [.lst []]) S') (fun _ _ _ _ => wat_nil _ _) (fun i x ρ S4 hx ⟨a, fs, h1, h2, h3, h4, d4⟩ => by
    subst h1
    obtain ⟨y, hy, rfl⟩ := take_map_get hx
    have li := (List.getElem?_eq_some_iff.mp hy).1
    have li2 : i < 3 := by rw [List.length_take, p2.len] at li; omega
    have ny : isNameB y = true := p2.nm y (List.mem_of_mem_take (mem_get hy))
    obtain ⟨q, T1, f1, q0, q1, t1⟩ := hT S4 kb (c + 3 + 9 * i) 4 d4.bag (by omega) (by omega) (by omega)
    obtain ⟨q, rfl⟩ : ∃ m : Nat, q = m := ⟨q.toNat, by omega⟩
    obtain ⟨u, T2, f2, u1, t2⟩ := hS T1 kb _ pl t1.bag (by rw [p1.len]; omega) p1.nd (by rw [p1.len]; omega)
    obtain ⟨w, T3, f3, w1, t3⟩ := hS T2 kb _ pl t2.bag (by rw [p1.len]; omega) p1.nd (by rw [p1.len]; omega)
    have t := (t1.trans t2).trans t3
    have g1 : T3[S2.length]? = some (.lst (fs.map encRow)) := t.get h2 hL0 (by simp)
    have lf : fs.length < 16777216 := by
      have := congrArg List.length h3
      simp at this; omega
    have lT : S2.length < T3.length := (List.getElem?_eq_some_iff.mp g1).1
    refine ⟨_, [some (.own kb), some (.bool g), some (.list (([["x", "y", "z", "w"], ["a", "aa", "aaa", "aaaaaaaa"], ["f", "g", "h", "x"], ["zb", "zc", "b", "c"]] : List (List String)).map fun l => Dat.list ((strsL l).map .str))), some (.list (pl.map .str)), some (.list (ns.map .str)), some (.own S2.length), some (.str y)], T3.set S2.length (.lst (fs.map encRow ++ [encRow ⟨y, q, u, w⟩])), bindP_nm .., ?_, _, fs ++ [⟨y, q, u, w⟩], rfl, ?_, ?_, ?_, ?_⟩
    · simp [bmG, bmT, look_own h2, f1, f2, f3, bmD, appendD, ownL, g1, lf, encRow]
    · rw [List.getElem?_set_self lT]; simp
    · rw [List.map_append, h3, List.take_succ, hy]; rfl
    · intro f hf
      rw [List.mem_append, List.mem_singleton] at hf
      rcases hf with hf | rfl
      · exact h4 f hf
      · exact ⟨ny, by simp only; omega, u1.ns (by rw [p1.len]; omega) p1.nm, w1.ns (by rw [p1.len]; omega) p1.nm⟩
    · have t' : Dr B kb [S2.length] (c + 3 + 9 * (i + 1)) S4 T3 := t.up (by rw [p1.len]; omega)
      have t5 := d4.trans t'
      refine ⟨t5.grw.trans (Grw.set (by simp [frees_rows]) (by simp)), by rw [List.length_set, t5.len], ?_⟩
      obtain ⟨z, z1, z2⟩ := t5.bag
      exact ⟨z, by rw [List.getElem?_set_ne hL0]; exact z1, z2⟩) ⟨none, [], by simp [strsL], by rw [r3.get (getApp S2 _) hL0 (by simp)]; rfl, by simp, by simp, r3.up (by omega)⟩
  have lm : ((List.take m (List.map Dat.str ns))).length ≤ 3 := by simp; omega
  have gr : Grw [kb] S S' := ((r1.trans r2).grw).trans (d4.grw.ofApp fun k hk => by
    simp only [List.mem_cons, List.not_mem_nil, or_false] at hk
    rcases hk with rfl | rfl
    · simp
    · right; exact Nat.le_refl _)
  have ll : S.length ≤ S2.length := by rw [r2.len, r1.len]; exact Nat.le_refl _
  refine ⟨⟨pl, fs, g⟩, S'.take S.length, ?_, ⟨p1.nd, ?_, by rw [p1.len]; exact Nat.le_refl _, p1.nm, ?_, ?_, h3⟩, rfl, ?_⟩
  · simp [dput]
    rw [fin_res (d' := encK ⟨pl, fs, g⟩) ?_ gr]
    unfold res encK
    rw [mapO, mapOk, mapOk, mapOk, mapOk, mapO_own h1 ll (by simp [frees_rows]), mapO_free _ _ (by simp [frees_strs]), mapO_free _ _ (by simp)]
    rfl
  · intro z
    have := p1.len
    have z' : pl = [] := z
    rw [z'] at this; cases this
  · rw [h2]; exact ((List.take_sublist _ _).trans (List.take_sublist _ _)).nodup p2.nd
  · show fs.length ≤ 3
    have := congrArg List.length h2
    simp only [List.length_map, List.length_take, p2.len] at this
    omega
  · refine ⟨gr.take, take_len gr, ?_⟩
    obtain ⟨z, z1, z2⟩ := d4.bag
    exact ⟨z, by rw [take_get hb.lt]; exact z1, B.mono z2 (by omega)⟩
end
end PL

set_option Elab.async false
set_option linter.all false
set_option maxRecDepth 100000
set_option autoImplicit false
set_option maxHeartbeats 4000000
namespace PL
open PySem L2
/-! ### drawn expressions -/
def LeftAt (kl : Nat) (S : Sto) : Prop := ∃ n : Int, S[kl]? = some (.lst [.int n])
def s3 : Nat → Nat
  | 0 => 1
  | d + 1 => 1 + 3 * s3 d
def cstE : Nat → Nat
  | 0 => 4
  | d + 1 => 10 + 3 * cstE d
/-- what a draw of an expression gives -/
structure Gen (B : BagI) (kb kl c : Nat) (k : Kit) (d : Nat) (S : Sto) (e : Ex) (S' : Sto) : Prop where
  ok : OkE k.fs e
  ht : ht e ≤ d
  sz : sz e ≤ s3 d
  left : LeftAt kl S'
  dr : Dr B kb [kl] c S S'
abbrev SLeaf (B : BagI) (F : Fun) : Prop := ∀ S kb kl c k, Bag B kb c S → LeftAt kl S → kl ≠ kb → c + 3 < 1000000000 → OkKit k → ∃ e S', F [.own kb, encK k, .own kl] S = .ok (enc e) S' ∧ Gen B kb kl (c + 3) k 0 S e S'
abbrev SExpr (B : BagI) (n : Nat) (F : Fun) : Prop := ∀ S kb kl c k (d : Nat), 4 + 2 * d ≤ n → Bag B kb c S → LeftAt kl S → kl ≠ kb → c + cstE d < 1000000000 → OkKit k → ∃ e S', F [.own kb, encK k, .own kl, .int d] S = .ok (enc e) S' ∧ Gen B kb kl (c + cstE d) k d S e S'
abbrev SGuard (B : BagI) (n : Nat) (F : Fun) : Prop := ∀ S kb kl c k (d : Nat), 5 + 2 * d ≤ n → Bag B kb c S → LeftAt kl S → kl ≠ kb → c + 1 + 3 * cstE d < 1000000000 → OkKit k → ∃ e S', F [.own kb, encK k, .own kl, .int ((d + 1 : Nat) : Int)] S = .ok (enc e) S' ∧ Gen B kb kl (c + 1 + 3 * cstE d) k (d + 1) S e S'
theorem sz_leaf {e : Ex} (h : ops e = []) : sz e = 1 := by rw [sz_eq, h]; rfl
theorem ht_leaf {e : Ex} (h : ops e = []) (f : ∀ g as, e ≠ .call g as) : ht e = 0 := by
  cases e <;> simp_all [ops, ht]
theorem okE_leaf {bk : Bk} {e : Ex} (h : okN bk e) (o : ops e = []) : OkE bk e := .mk h fun x hx => by rw [o] at hx; cases hx
theorem LeftAt.dr {B : BagI} {kb kl c : Nat} {S S' : Sto} (h : LeftAt kl S) (r : Dr B kb [] c S S') (n : kl ≠ kb) : LeftAt kl S' := let ⟨m, e⟩ := h; ⟨m, r.get e n (by simp)⟩
section
variable {B : BagI} {kb kl c : Nat} {S : Sto} {n : Int}
theorem at_left (h : S[kl]? = some (.lst [.int n])) : atD S (.own kl) (.int 0) = some (.int n, S) := by
  rw [atD, look_own h, cellD_lst]; simp [val1]
theorem set_left (h : S[kl]? = some (.lst [.int n])) (v : Dat) : setAtD S (.own kl) (.int 0) v = some (S.set kl (.lst [v])) := by
  rw [setAtD, h]; simp [ixN]
theorem dr_left (hb : Bag B kb c S) (h : S[kl]? = some (.lst [.int n])) (hn : kl ≠ kb) (m : Int) : Dr B kb [kl] c S (S.set kl (.lst [.int m])) ∧ LeftAt kl (S.set kl (.lst [.int m])) :=
  ⟨⟨Grw.set (by simp) (by simp), by simp, let ⟨x, h1, h2⟩ := hb; ⟨x, by rw [List.getElem?_set_ne hn]; exact h1, h2⟩⟩, m, List.getElem?_set_self (List.getElem?_eq_some_iff.mp h).1⟩
end
theorem at_places (S : Sto) (k : Kit) : atD S (encK k) (.str (Str.ofString "places")) = some (.list (k.pl.map .str), S) := by simp [encK, keyFits, dget]
theorem at_functions (S : Sto) (k : Kit) : atD S (encK k) (.str (Str.ofString "functions")) = some (.list (k.fs.map encRow), S) := by simp [encK, keyFits, dget]
theorem at_guards (S : Sto) (k : Kit) : atD S (encK k) (.str (Str.ofString "guards")) = some (.bool k.g, S) := by simp [encK, keyFits, dget]
section
variable (Φ : Fe) {B : BagI}
theorem of_place (hO : SOf B (Φ.call (Str.ofString "_law_of"))) {k : Kit} (hk : OkKit k) {S : Sto} {kb c : Nat} (hb : Bag B kb c S) (hc : c < 1000000000) : ∃ x S', Φ.call (Str.ofString "_law_of") [.own kb, .list (k.pl.map .str)] S = .ok (.str x) S' ∧ isNameB x = true ∧ Dr B kb [] (c + 1) S S' := by
  have h1 := hk.len
  obtain ⟨d, S', e, m, r⟩ := hO S kb c (k.pl.map .str) hb hc (by simpa using hk.ne) (by simp; omega) (frees_strs _)
  obtain ⟨x, hx, rfl⟩ := List.mem_map.mp m
  exact ⟨x, S', e, hk.nm x hx, r⟩
theorem of_sign (hO : SOf B (Φ.call (Str.ofString "_law_of"))) {S : Sto} {kb c : Nat} (hb : Bag B kb c S) (hc : c < 1000000000) : ∃ x S', Φ.call (Str.ofString "_law_of") [.own kb, .list [tag "+", tag "-", tag "*", tag "<"]] S = .ok (.str x) S' ∧ (x = Str.ofString "+" ∨ x = Str.ofString "-" ∨ x = Str.ofString "*" ∨ x = Str.ofString "<") ∧ Dr B kb [] (c + 1) S S' := by
  obtain ⟨d, S', e, m, r⟩ := hO S kb c [tag "+", tag "-", tag "*", tag "<"] hb hc (by simp) (by simp) (by simp)
  simp only [List.mem_cons, List.not_mem_nil, or_false] at m
  rcases m with rfl | rfl | rfl | rfl <;> exact ⟨_, S', e, by simp, r⟩
theorem leaf_num (hT : STk B (Φ.call (Str.ofString "_law_take"))) (hO : SOf B (Φ.call (Str.ofString "_law_of"))) {S1 : Sto} {kb c : Nat} (hb : Bag B kb c S1) (hc : c + 2 < 1000000000) :
    ∃ r S2 i S3, Φ.call (Str.ofString "_law_take") [.own kb, .int 1000000] S1 = .ok (.int r) S2 ∧ Φ.call (Str.ofString "_law_of") [.own kb, .list [.int 0, .int 1, .int 2, .int 999999, .int r]] S2 = .ok (.int i) S3 ∧ 0 ≤ i ∧ i ≤ 999999 ∧ Dr B kb [] (c + 2) S1 S3 := by
  obtain ⟨r, S2, e2, r0, r1, d2⟩ := hT S1 kb c 1000000 hb (by omega) (by omega) (by omega)
  obtain ⟨d, S3, e3, m3, d3⟩ := hO S2 kb (c + 1) [.int 0, .int 1, .int 2, .int 999999, .int r] d2.bag (by omega) (by simp) (by simp) (by simp)
  obtain ⟨i, rfl, i0, i1⟩ : ∃ i : Int, d = .int i ∧ 0 ≤ i ∧ i ≤ 999999 := by
    simp only [List.mem_cons, List.not_mem_nil, or_false] at m3
    rcases m3 with rfl | rfl | rfl | rfl | rfl <;> exact ⟨_, rfl, by omega, by omega⟩
  exact ⟨r, S2, i, S3, e2, e3, i0, i1, d2.trans d3⟩
theorem ok_leaf (hT : STk B (Φ.call (Str.ofString "_law_take"))) (hO : SOf B (Φ.call (Str.ofString "_law_of"))) : SLeaf B (runF Φ f__law_leaf) := fun S kb kl c k hb ⟨n, hl⟩ hn hc hk => by
  by_cases h0 : 0 < n
  · obtain ⟨r, S1, e1, r0, r1, d1⟩ := hT S kb c 3 hb (by omega) (by omega) (by omega)
    have hl1 := d1.get hl hn (by simp)
    by_cases h1 : 0 < r
    · obtain ⟨d2, l2⟩ := dr_left d1.bag hl1 hn (n - 1)
      obtain ⟨x, S2, e2, nx, d3⟩ := of_place Φ hO hk d2.bag (by omega)
      have D : Dr B kb [kl] (c + 3) S S2 := (d1.up (Nat.le_refl _)).trans (d2.trans (d3.up (by omega)))
      refine ⟨.read x, S2, ?_, okE_leaf nx rfl, by rw [ht]; omega, by rw [sz_leaf rfl]; exact Nat.le_refl _, l2.dr d3 hn, D⟩
      simp [runF, f__law_leaf, ent, at_left hl, at_left hl1, set_left hl1, h0, e1, h1, at_places, e2, enc]
      exact D.fin (by simp)
    · obtain ⟨r2, S2, i, S3, e2, e3, i0, i1, d2⟩ := leaf_num Φ hT hO d1.bag (by omega)
      have D : Dr B kb [kl] (c + 3) S S3 := (d1.trans d2).up (by omega)
      refine ⟨.num i, S3, ?_, okE_leaf ⟨i0, i1⟩ rfl, by rw [ht]; omega, by rw [sz_leaf rfl]; exact Nat.le_refl _, LeftAt.dr ⟨n, hl⟩ (d1.trans d2) hn, D⟩
      simp [runF, f__law_leaf, ent, at_left hl, h0, e1, h1, e2, e3, enc]
      exact D.fin (by simp)
  · obtain ⟨r2, S2, i, S3, e2, e3, i0, i1, d2⟩ := leaf_num Φ hT hO hb (by omega)
    have D : Dr B kb [kl] (c + 3) S S3 := d2.up (by omega)
    refine ⟨.num i, S3, ?_, okE_leaf ⟨i0, i1⟩ rfl, by rw [ht]; omega, by rw [sz_leaf rfl]; exact Nat.le_refl _, LeftAt.dr ⟨n, hl⟩ d2 hn, D⟩
    simp [runF, f__law_leaf, ent, at_left hl, h0, e2, e3, enc]
    exact D.fin (by simp)
theorem Gen.two {kb kl c c' : Nat} {k : Kit} {d : Nat} {S S1 S2 : Sto} {a b : Ex} (g1 : Gen B kb kl c k d S a S1) (g2 : Gen B kb kl c' k d S1 b S2) {e : Ex} (he : ops e = [a, b]) (hn : okN k.fs e) : OkE k.fs e ∧ PL.ht e ≤ d + 1 ∧ PL.sz e ≤ s3 (d + 1) := by
  refine ⟨.mk hn fun x hx => ?_, ht_le fun x hx => ?_, ?_⟩
  · rw [he] at hx
    simp only [List.mem_cons, List.not_mem_nil, or_false] at hx
    rcases hx with rfl | rfl
    · exact g1.ok
    · exact g2.ok
  · rw [he] at hx
    simp only [List.mem_cons, List.not_mem_nil, or_false] at hx
    rcases hx with rfl | rfl
    · exact g1.ht
    · exact g2.ht
  · rw [sz_eq, he, s3]
    have := g1.sz
    have := g2.sz
    simp; omega
theorem ok_guard {n : Nat} (hO : SOf B (Φ.call (Str.ofString "_law_of"))) (hE : SExpr B n (Φ.call (Str.ofString "_law_expr"))) : SGuard B (n + 1) (runF Φ f__law_guard) := fun S kb kl c k d hd hb hl hn hc hk => by
  obtain ⟨a, S1, e1, g1⟩ := hE S kb kl c k d (by omega) hb hl hn (by omega) hk
  obtain ⟨b, S2, e2, g2⟩ := hE S1 kb kl _ k d (by omega) g1.dr.bag g1.left hn (by omega) hk
  obtain ⟨w, S3, e3, m3, d3⟩ := hO S2 kb _ [tag "and", tag "or", tag "choose"] g2.dr.bag (by omega) (by simp) (by simp) (by simp)
  have l3 := g2.left.dr d3 hn
  have D3 : Dr B kb [kl] (c + 1 + 2 * cstE d) S S3 := g1.dr.trans (g2.dr.trans (d3.up (by omega)))
  simp only [List.mem_cons, List.not_mem_nil, or_false] at m3
  have ed : ((d + 1 : Nat) : Int) - 1 = (d : Int) := by omega
  rcases m3 with rfl | rfl | rfl
  · have D := D3.mono (fun _ h => h) (by omega : c + 1 + 2 * cstE d ≤ c + 1 + 3 * cstE d)
    obtain ⟨o1, o2, o3⟩ := g1.two g2 (e := .and_ a b) rfl trivial
    refine ⟨.and_ a b, S3, ?_, o1, o2, o3, l3, D⟩
    simp only [runF, f__law_guard]
    simp [ent, ed, e1, e2, e3, enc]
    exact D.fin (by simp)
  · have D := D3.mono (fun _ h => h) (by omega : c + 1 + 2 * cstE d ≤ c + 1 + 3 * cstE d)
    obtain ⟨o1, o2, o3⟩ := g1.two g2 (e := .or_ a b) rfl trivial
    refine ⟨.or_ a b, S3, ?_, o1, o2, o3, l3, D⟩
    simp [runF, f__law_guard, ent, ed, e1, e2, e3, enc]
    exact D.fin (by simp)
  · obtain ⟨f, S4, e4, g4⟩ := hE S3 kb kl _ k d (by omega) D3.bag l3 hn (by omega) hk
    have D : Dr B kb [kl] (c + 1 + 3 * cstE d) S S4 := D3.trans (g4.dr.mono (fun _ h => h) (by omega))
    refine ⟨.choose a b f, S4, ?_, .mk trivial fun x hx => ?_, ht_le fun x hx => ?_, ?_, g4.left, D⟩
    · simp [runF, f__law_guard, ent, ed, e1, e2, e3, e4, enc]
      exact D.fin (by simp)
    · simp only [ops, List.mem_cons, List.not_mem_nil, or_false] at hx
      rcases hx with rfl | rfl | rfl
      · exact g1.ok
      · exact g2.ok
      · exact g4.ok
    · simp only [ops, List.mem_cons, List.not_mem_nil, or_false] at hx
      rcases hx with rfl | rfl | rfl
      · exact g1.ht
      · exact g2.ht
      · exact g4.ht
    · rw [sz_eq, s3]
      have := g1.sz
      have := g2.sz
      have := g4.sz
      simp [ops]; omega
end
end PL

set_option Elab.async false
set_option linter.all false
set_option maxRecDepth 100000
set_option autoImplicit false
set_option maxHeartbeats 4000000
namespace PL
open PySem L2
@[simp] theorem ite_and (b x : Bool) (S : Sto) : (if b = true then (Res.ok x S : Res Bool) else .ok false S) = .ok (b && x) S := by cases b <;> simp
@[simp] theorem ite_or (b x : Bool) (S : Sto) : (if b = true then (Res.ok true S : Res Bool) else .ok x S) = .ok (b || x) S := by cases b <;> simp
@[simp] theorem ite_and' (b : Prop) [Decidable b] (x : Bool) (S : Sto) : (if b then (Res.ok x S : Res Bool) else .ok false S) = .ok (decide b && x) S := by by_cases h : b <;> simp [h]
@[simp] theorem ite_or' (b : Prop) [Decidable b] (x : Bool) (S : Sto) : (if b then (Res.ok true S : Res Bool) else .ok x S) = .ok (decide b || x) S := by by_cases h : b <;> simp [h]
theorem s3_pos (d : Nat) : 1 ≤ s3 d := by cases d <;> simp [s3]
theorem cst_ge (d : Nat) : 4 ≤ cstE d := by cases d <;> simp [cstE]; omega
theorem isEmpty_rows (fs : List Fn) : (fs.map encRow).isEmpty = fs.isEmpty := by cases fs <;> rfl
section
variable (Φ : Fe) {B : BagI}
theorem draw_args {n : Nat} (hE : SExpr B n (Φ.call (Str.ofString "_law_expr"))) {S2 : Sto} {kb kl c d : Nat} {k : Kit} {f : Fn} {r : Int} (hd : 4 + 2 * d ≤ n) (ef : f.ar ≤ 3) (hb : Bag B kb (c + 2) S2) (l3 : LeftAt kl S2) (hn : kl ≠ kb) (hc : c + 2 + 3 * cstE d < 1000000000) (hk : OkKit k) :
    ∃ as S3, as.length = f.ar ∧ (∀ a ∈ as, OkE k.fs a ∧ ht a ≤ d ∧ sz a ≤ s3 d) ∧ LeftAt kl S3 ∧ Dr B kb [kl] (c + 2 + f.ar * cstE d) S2 S3 ∧ mLcL (.nm 9) (evT Φ .yes) (evE Φ (.call (Str.ofString "_law_expr") (.cons (.var 0) (.cons (.var 1) (.cons (.var 2) (.cons (.bin false .Sub (.var 3) (.con (.int 1))) .nil)))) .nil .all)) [] S2 ((List.range f.ar).map fun (i : Nat) => .int (i : Int)) (wipeE [some (.own kb), some (encK k), some (.own kl), some (.int ((d : Int) + 1)), some (.int r), none, none, some (encRow f), none, none, none, none] [9]) S2 [] = .ok (encs as) S3 := by
  have ed2 : ((d : Int) + 1) - 1 = (d : Int) := by omega
  generalize hLc : mLcL _ _ _ _ _ _ _ _ _ = rr
  obtain ⟨S3, acc, ⟨as, rfl, la, ha, l4, d4⟩, rfl⟩ := lc_inv' hLc (fun i S' acc => ∃ as, encs as = acc ∧ as.length = i ∧ (∀ a ∈ as, OkE k.fs a ∧ ht a ≤ d ∧ sz a ≤ s3 d) ∧ LeftAt kl S' ∧ Dr B kb [kl] (c + 2 + i * cstE d) S2 S') (fun _ _ _ _ => wat_nil _ _) (fun i x S4 acc hx ⟨as, h1, la, ha, l4, d4⟩ => by
    subst h1
    have li := (List.getElem?_eq_some_iff.mp hx).1
    simp at li
    have le : (i + 1) * cstE d ≤ 3 * cstE d := Nat.mul_le_mul_right _ (by omega)
    rw [Nat.succ_mul] at le
    obtain ⟨a, S5, e5, g5⟩ := hE S4 kb kl _ k d hd d4.bag l4 hn (by omega) hk
    refine ⟨_, true, S4, bindP_nm .., by simp, .inl ⟨rfl, enc a, S5, ?_, by rw [encs_length, size_eq]; omega, as ++ [a], by simp [encs_map], by simp [la], ?_, g5.left, ?_⟩⟩
    · simp [wipeE, ed2, e5]
    · intro y hy
      rw [List.mem_append, List.mem_singleton] at hy
      rcases hy with hy | rfl
      · exact ha y hy
      · exact ⟨g5.ok, g5.ht, g5.sz⟩
    · rw [Nat.succ_mul]; exact d4.trans (g5.dr.mono (fun _ h => h) (by omega))) ⟨[], by rw [encs], rfl, by simp, l3, .refl (hb.mono (by omega))⟩
  have ll : ((List.range f.ar).map fun (i : Nat) => Dat.int (i : Int)).length = f.ar := by simp
  rw [ll] at la d4
  exact ⟨as, S3, la, ha, l4, d4, rfl⟩
theorem ok_expr {n : Nat} (hT : STk B (Φ.call (Str.ofString "_law_take"))) (hO : SOf B (Φ.call (Str.ofString "_law_of"))) (hL : SLeaf B (Φ.call (Str.ofString "_law_leaf"))) (hG : SGuard B n (Φ.call (Str.ofString "_law_guard"))) (hE : SExpr B n (Φ.call (Str.ofString "_law_expr"))) : SExpr B (n + 1) (runF Φ f__law_expr) := fun S kb kl c k d hd hb ⟨m, hl⟩ hn hc hk => by
  obtain ⟨r, S1, e1, r0, r1, d1⟩ := hT S kb c 11 hb (by have := cst_ge d; omega) (by omega) (by omega)
  have hl1 := d1.get hl hn (by simp)
  have cg := cst_ge d
  by_cases hz : d = 0 ∨ m = 0 ∨ r = 0
  · obtain ⟨e, S2, e2, g2⟩ := hL S1 kb kl (c + 1) k d1.bag ⟨m, hl1⟩ hn (by omega) hk
    have D : Dr B kb [kl] (c + cstE d) S S2 := (d1.up (Nat.le_refl _)).trans (g2.dr.mono (fun _ h => h) (by omega))
    have h1 := g2.ht
    have h2 := g2.sz
    refine ⟨e, S2, ?_, g2.ok, by omega, Nat.le_trans h2 (s3_pos d), g2.left, D⟩
    simp [runF, f__law_expr, ent, e1, at_left hl1, hz, e2]
    exact D.fin (by simp)
  · cases d with
    | zero => exact absurd (.inl rfl) hz
    | succ d =>
      rw [cstE] at hc cg
      have ed : ((d + 1 : Nat) : Int) - 1 = (d : Int) := by omega
      have ed2 : ((d : Int) + 1) - 1 = (d : Int) := by omega
      have nd : ¬ (d : Int) + 1 = 0 := by omega
      have nm : ¬ m = 0 := fun z => hz (.inr (.inl z))
      have nr : ¬ r = 0 := fun z => hz (.inr (.inr z))
      by_cases h3 : r < 3
      · obtain ⟨d2, l2⟩ := dr_left d1.bag hl1 hn (m - 1)
        obtain ⟨x, S2, e2, nx, d3⟩ := of_place Φ hO hk d2.bag (by omega)
        obtain ⟨a, S3, e3, g3⟩ := hE S2 kb kl _ k d (by omega) d3.bag (l2.dr d3 hn) hn (by omega) hk
        have D : Dr B kb [kl] (c + cstE (d + 1)) S S3 := (d1.up (Nat.le_refl _)).trans (d2.trans ((d3.up (Nat.le_refl _)).trans (g3.dr.mono (fun _ h => h) (by rw [cstE]; omega))))
        refine ⟨.store x a, S3, ?_, .mk nx fun y hy => ?_, ht_le fun y hy => ?_, ?_, g3.left, D⟩
        · simp [runF, f__law_expr, ent, e1, at_left hl1, set_left hl1, nd, nm, nr, h3, at_places, e2, ed2, e3, enc]
          exact D.fin (by simp)
        · simp only [ops, List.mem_singleton] at hy; subst hy; exact g3.ok
        · simp only [ops, List.mem_singleton] at hy; subst hy; exact g3.ht
        · rw [sz_eq, s3]; have := g3.sz; simp [ops]; omega
      · by_cases h5 : r < 5 ∧ 1 < m
        · obtain ⟨d2, l2⟩ := dr_left d1.bag hl1 hn (m - 2)
          obtain ⟨w1, S2, e2, m2, d3⟩ := hO (S1.set kl (.lst [.int (m - 2)])) kb _ [.int 1, .int (-1)] d2.bag (by omega) (by simp) (by simp) (by simp)
          obtain ⟨w2, S3, e3, m3, d4⟩ := hO S2 kb _ [tag "before", tag "after"] d3.bag (by omega) (by simp) (by simp) (by simp)
          obtain ⟨x, S4, e4, nx, d5⟩ := of_place Φ hO hk d4.bag (by omega)
          have D : Dr B kb [kl] (c + cstE (d + 1)) S S4 := (d1.up (Nat.le_refl _)).trans (d2.trans (((d3.trans d4).trans d5).up (by rw [cstE]; omega)))
          obtain ⟨u, rfl⟩ : ∃ u : Bool, w1 = .int (if u then 1 else -1) := by
            simp only [List.mem_cons, List.not_mem_nil, or_false] at m2
            rcases m2 with rfl | rfl
            · exact ⟨true, rfl⟩
            · exact ⟨false, rfl⟩
          obtain ⟨v, rfl⟩ : ∃ v : Bool, w2 = tag (if v then "before" else "after") := by
            simp only [List.mem_cons, List.not_mem_nil, or_false] at m3
            rcases m3 with rfl | rfl
            · exact ⟨true, rfl⟩
            · exact ⟨false, rfl⟩
          refine ⟨.step x u v, S4, ?_, okE_leaf nx rfl, by rw [ht]; omega, by rw [sz_leaf rfl]; exact s3_pos _, l2.dr ((d3.trans d4).trans d5) hn, D⟩
          simp [runF, f__law_expr, ent, e1, at_left hl1, set_left hl1, nd, nm, nr, h3, h5, opNeg, at_places, e2, e3, e4, enc]
          exact D.fin (by simp)
        · by_cases h7 : r < 7 ∧ k.fs.isEmpty = false
          · obtain ⟨d2, l2⟩ := dr_left d1.bag hl1 hn (m - 1)
            have nf : k.fs ≠ [] := by intro z; rw [z] at h7; simp at h7
            have lf := hk.flen
            obtain ⟨w, S2, e2, m2, d3⟩ := hO (S1.set kl (.lst [.int (m - 1)])) kb _ (k.fs.map encRow) d2.bag (by omega) (by simpa using nf) (by simp; omega) (frees_rows _)
            obtain ⟨f, hf, rfl⟩ := List.mem_map.mp m2
            have ef := (hk.fok f hf).ar
            have gf := getB_mem hk.fnd hf
            have l3 := l2.dr d3 hn
            have nf' : ¬ k.fs = [] := nf
            have rg : rng1D [.int (f.ar : Int)] = some ((List.range f.ar).map fun (i : Nat) => .int (i : Int), []) := by
              rw [rng1D, if_pos (by omega)]; simp
            have er : atD S2 (encRow f) (.int 1) = some (.int f.ar, S2) := by simp [encRow]
            have er0 : ∀ S, atD S (encRow f) (.int 0) = some (.str f.name, S) := fun S => by simp [encRow]
            obtain ⟨as, S3, la, ha, l4, d4, e4⟩ := draw_args Φ hE (S2 := S2) (k := k) (f := f) (r := r) (c := c) (d := d) (by omega) ef d3.bag l3 hn (by omega) hk
            have le : f.ar * cstE d ≤ 3 * cstE d := Nat.mul_le_mul_right _ ef
            have D : Dr B kb [kl] (c + cstE (d + 1)) S S3 := (d1.up (Nat.le_refl _)).trans (d2.trans ((d3.up (Nat.le_refl _)).trans (d4.mono (fun _ h => h) (by rw [cstE]; omega))))
            have la2 : as.length ≤ 16777216 := by omega
            refine ⟨.call f.name as, S3, ?_, .mk ⟨f, gf, la.symm⟩ fun y hy => (ha y hy).1, ht_le fun y hy => (ha y hy).2.1, ?_, l4, D⟩
            · simp [wipeE] at e4
              simp [runF, f__law_expr, ent, e1, at_left hl1, set_left hl1, nd, nm, nr, h3, h5, h7, at_functions, isEmpty_rows, nf', e2, er, rg, e4, encs_length, la2, er0, enc, wipeE]
              exact D.fin (by simp)
            · rw [sz_eq, s3]
              have : ∀ l : List Ex, (∀ a ∈ l, sz a ≤ s3 d) → (l.map sz).sum ≤ l.length * s3 d := by
                intro l
                induction l with
                | nil => simp
                | cons a l ih =>
                  intro h
                  rw [List.map_cons, List.sum_cons, List.length_cons, Nat.succ_mul]
                  have h1 := h a (List.mem_cons_self ..)
                  have h2 := ih fun x hx => h x (List.mem_cons_of_mem _ hx)
                  omega
              have h1 := this as fun a h => (ha a h).2.2
              have h2 : as.length * s3 d ≤ 3 * s3 d := Nat.mul_le_mul_right _ (by omega)
              simp only [ops]; omega
          · by_cases h8 : r = 8 ∧ k.g = true
            · obtain ⟨a, S2, e2, g2⟩ := hG S1 kb kl (c + 1) k d (by omega) d1.bag ⟨m, hl1⟩ hn (by omega) hk
              have D : Dr B kb [kl] (c + cstE (d + 1)) S S2 := (d1.up (Nat.le_refl _)).trans (g2.dr.mono (fun _ h => h) (by rw [cstE]; omega))
              refine ⟨a, S2, ?_, g2.ok, g2.ht, g2.sz, g2.left, D⟩
              obtain ⟨rfl, h82⟩ := h8
              have e2' : Φ.call (Str.ofString "_law_guard") [.own kb, encK k, .own kl, .int ((d : Int) + 1)] S1 = .ok (enc a) S2 := e2
              simp [runF, f__law_expr, ent, e1, at_left hl1, nd, nm, at_guards, h82, e2']
              exact D.fin (by simp)
            · obtain ⟨a, S2, e2, g2⟩ := hE S1 kb kl (c + 1) k d (by omega) d1.bag ⟨m, hl1⟩ hn (by omega) hk
              obtain ⟨b, S3, e3, g3⟩ := hE S2 kb kl _ k d (by omega) g2.dr.bag g2.left hn (by omega) hk
              have h7' : ¬ (r < 7 ∧ ¬ k.fs = []) := by
                intro z
                apply h7
                refine ⟨z.1, ?_⟩
                cases q : k.fs with
                | nil => exact absurd q z.2
                | cons _ _ => rfl
              by_cases h9 : r = 7
              · have D : Dr B kb [kl] (c + cstE (d + 1)) S S3 := (d1.up (Nat.le_refl _)).trans (g2.dr.trans (g3.dr.mono (fun _ h => h) (by rw [cstE]; omega)))
                obtain ⟨o1, o2, o3⟩ := g2.two g3 (e := .then_ a b) rfl trivial
                refine ⟨.then_ a b, S3, ?_, o1, o2, o3, g3.left, D⟩
                subst h9
                simp [runF, f__law_expr, ent, e1, at_left hl1, nd, nm, ed2, e2, e3, enc]
                exact D.fin (by simp)
              · obtain ⟨x, S4, e4, nx, d4⟩ := of_sign Φ hO g3.dr.bag (by omega)
                have D : Dr B kb [kl] (c + cstE (d + 1)) S S4 := (d1.up (Nat.le_refl _)).trans (g2.dr.trans (g3.dr.trans (d4.up (by rw [cstE]; omega))))
                obtain ⟨o1, o2, o3⟩ := g2.two g3 (e := .op x a b) rfl nx
                refine ⟨.op x a b, S4, ?_, o1, o2, o3, g3.left.dr d4 hn, D⟩
                simp [runF, f__law_expr, ent, e1, at_left hl1, nd, nm, nr, h3, h5, h7', h8, h9, at_functions, at_guards, ed2, e2, e3, e4, enc, isEmpty_rows]
                exact D.fin (by simp)
end
end PL

set_option Elab.async false
set_option linter.all false
set_option maxRecDepth 100000
set_option autoImplicit false
set_option maxHeartbeats 4000000
namespace PL
open PySem L2
/-! ### roots, points -/
theorem Dr.cut {B : BagI} {kb c : Nat} {S S2 : Sto} {x : Cell} {d : Dat} (hb : kb < S.length) (r : Dr B kb [S.length] c (S ++ [x]) S2) (h : free d = true) : PL.fin S S2 d = .ok d (S2.take S.length) ∧ Dr B kb [] c S (S2.take S.length) := by
  have gr : Grw [kb] S S2 := r.grw.ofApp fun k hk => by
    simp only [List.mem_cons, List.not_mem_nil, or_false] at hk
    rcases hk with rfl | rfl
    · simp
    · right; exact Nat.le_refl _
  refine ⟨fin_free h gr, gr.take, take_len gr, ?_⟩
  obtain ⟨z, z1, z2⟩ := r.bag
  exact ⟨z, by rw [take_get hb]; exact z1, z2⟩
abbrev SRoot (B : BagI) (F : Fun) : Prop := ∀ S kb c k (m : Int), Bag B kb c S → c + 1000 < 1000000000 → OkKit k → ∃ e S', F [.own kb, encK k, .int m] S = .ok (enc e) S' ∧ OkE k.fs e ∧ ht e ≤ 4 ∧ sz e ≤ 121 ∧ Dr B kb [] (c + 1000) S S'
section
variable (Φ : Fe) {B : BagI}
theorem ok_root {n : Nat} (h12 : 12 ≤ n) (hT : STk B (Φ.call (Str.ofString "_law_take"))) (hO : SOf B (Φ.call (Str.ofString "_law_of"))) (hE : SExpr B n (Φ.call (Str.ofString "_law_expr"))) : SRoot B (runF Φ f__law_root) := fun S kb c k m hb hc hk => by
  obtain ⟨r, S1, e1, r0, r1, d1⟩ := hT (S ++ [.lst [.int m]]) kb c 2 hb.app (by omega) (by omega) (by omega)
  have hn : S.length ≠ kb := Nat.ne_of_gt hb.lt
  have hl : LeftAt S.length S1 := ⟨m, d1.get (getApp S _) hn (by simp)⟩
  have c4 : cstE 4 = 724 := by decide
  have c3 : cstE 3 = 238 := by decide
  by_cases h : r = 0
  · obtain ⟨e, S2, e2, g2⟩ := hE S1 kb S.length _ k 4 (by omega) d1.bag hl hn (by omega) hk
    have D : Dr B kb [S.length] (c + 1000) (S ++ [.lst [.int m]]) S2 := (d1.up (Nat.le_refl _)).trans (g2.dr.mono (fun _ h => h) (by omega))
    obtain ⟨f1, f2⟩ := D.cut (d := enc e) hb.lt (by simp)
    refine ⟨e, _, ?_, g2.ok, g2.ht, g2.sz, f2⟩
    simp [runF, f__law_root, ent, e1, h] at e2 ⊢
    simp [e2, f1]
  · obtain ⟨a, S2, e2, g2⟩ := hE S1 kb S.length _ k 3 (by omega) d1.bag hl hn (by omega) hk
    obtain ⟨b, S3, e3, g3⟩ := hE S2 kb S.length _ k 3 (by omega) g2.dr.bag g2.left hn (by omega) hk
    obtain ⟨x, S4, e4, nx, d4⟩ := of_sign Φ hO g3.dr.bag (by omega)
    have D : Dr B kb [S.length] (c + 1000) (S ++ [.lst [.int m]]) S4 := (d1.up (Nat.le_refl _)).trans (g2.dr.trans (g3.dr.trans (d4.up (by omega))))
    obtain ⟨o1, o2, o3⟩ := g2.two g3 (e := .op x a b) rfl nx
    obtain ⟨f1, f2⟩ := D.cut (d := enc (.op x a b)) hb.lt (by simp)
    refine ⟨.op x a b, _, ?_, o1, o2, o3, f2⟩
    simp [runF, f__law_root, ent, e1, h] at e2 e3 ⊢
    simp [e2, e3, e4]
    rw [enc] at f1 ⊢
    exact f1
/-! nodes by the law -/
theorem add_path (o : Bool) (S : Sto) (p : Path) (i : Nat) (h : p.length ≤ 1000) : opAdd o S (encP p) (.tuple [.int (i : Int)]) = some (encP (p ++ [i]), S) := by
  have : p.length + 1 ≤ 16777216 := by omega
  simp [encP, this]
theorem ok_law_nodes {n : Nat} (hO : SOperands (Φ.call (Str.ofString "_law_operands"))) (ih : SSpots n (Φ.call (Str.ofString "_law_nodes"))) : SSpots (n + 1) (runF Φ f__law_nodes) := fun e p S hn hp hz => by
  simp [runF, f__law_nodes, ent, hO e]
  generalize hL : mLoop _ _ _ _ _ _ _ _ = r
  obtain ⟨ρ', S', ⟨a, b, acc, rfl, rfl, hacc⟩, rfl⟩ := loop_inv' hL
    (fun i ρ S' => ∃ a b acc, [some (enc e), some (encP p), some (.list acc), a, b] = ρ ∧ S = S' ∧ acc = (((p, e) :: ((ops e).zipIdx.take i).flatMap fun q => spots (p ++ [q.2]) q.1).map encQ)) (fun _ _ _ _ => wat_nil _ _) (fun i x ρ S' hx ⟨a, b, acc, h1, h2, hacc⟩ => by
      subst h1 h2
      obtain ⟨y, hy, rfl⟩ := enumD_get hx
      have hm := mem_get hy
      have hh := ht_ops hm
      have hs := sz_ops hm
      have q := fun S => ih y (p ++ [i]) S (by omega) (by simp; omega) (by omega)
      have tk : (ops e).zipIdx.take (i + 1) = (ops e).zipIdx.take i ++ [(y, i)] := by
        rw [List.take_succ, List.getElem?_zipIdx, hy]; simp
      have l2 : (((p, e) :: ((ops e).zipIdx.take (i + 1)).flatMap fun q => spots (p ++ [q.2]) q.1)).length ≤ sz e := by
        rw [← spots_len p e, spots_eq]
        simp only [List.length_cons, Nat.add_le_add_iff_right]
        exact flatMap_take_le _ _ _
      rw [tk] at l2
      have l3 : acc.length + (spots (p ++ [i]) y).length ≤ 16777216 := by
        rw [hacc]; simp at l2 ⊢; omega
      refine ⟨_, [some (enc e), some (encP p), some (.list (acc ++ (spots (p ++ [i]) y).map encQ)), some (.int i), some (enc y)], S, bindP_two .., ?_, _, _, _, rfl, rfl, ?_⟩
      · simp [add_path _ _ p i (by omega), q, l3]
      · rw [hacc, tk]; simp) ⟨none, none, _, rfl, rfl, by simp [encQ]⟩
  rw [enumE_len, List.take_of_length_le (by simp), ← spots_eq] at hacc
  subst hacc
  simp
  rw [fin_self (by simp [frees_all, encQ])]
def openP (e : Ex) : List Path := sortP (((spots [] e).filter fun q => isOpenB q.2).map (·.1))
abbrev SOpenL (n : Nat) (F : Fun) : Prop := ∀ e S, ht e < n → ht e ≤ 1000 → sz e ≤ 10000 → F [enc e] S = .ok (.list ((openP e).map encP)) S
theorem isTy_enc (ct : CT) (S : Sto) (e : Ex) : isTy ct S (enc e) .int = some (isNumB e) := by cases e <;> simp [enc, isTy, isNumB]
theorem encP_nil : Dat.tuple [] = encP [] := by simp [encP]
theorem ok_law_open {n : Nat} (hN : SSpots n (Φ.call (Str.ofString "_law_nodes"))) : SOpenL n (runF Φ f__law_open) := fun e S hn hh hz => by
  have l0 := spots_len [] e
  have q := hN e [] S hn (by simpa using hh) hz
  simp [runF, f__law_open, ent, encP_nil, q]
  rw [lc_map encQ (fun q => !isNumB q.2) (by simp; omega) (fun y hy => ⟨_, bindP_nm .., by simp [wipeE, encQ, isTy_enc], fun _ => by simp [wipeE]⟩) (wat_nil _ _)]
  have l1 : ((spots [] e).filter fun q => !isNumB q.2).length ≤ 10000 := Nat.le_trans (List.length_filter_le _ _) (by omega)
  have l2 : ((spots [] e).filter fun q => !isNumB q.2).length ≤ 16777216 := by omega
  simp [l2]
  rw [lc_map (fun q => encP q.1) (fun q => isOpenB q.2) (by simp; omega) (fun y hy => ?_) (wat_nil _ _)]
  · have e1 : (((spots [] e).filter fun q => !isNumB q.2).filter fun q => isOpenB q.2) = (spots [] e).filter fun q => isOpenB q.2 := by
      rw [List.filter_filter]
      refine List.filter_congr fun q _ => ?_
      cases q.2 <;> simp [isOpenB, isNumB]
    have e2 : ((spots [] e).filter fun q => isOpenB q.2).map (fun q => encP q.1) = (((spots [] e).filter fun q => isOpenB q.2).map (·.1)).map encP := by simp
    rw [e1, List.nil_append, e2]
    have l3 : ((spots [] e).filter fun q => isOpenB q.2).length ≤ 16777216 := Nat.le_trans (List.length_filter_le _ _) (by omega)
    have l4 : (openP e).length ≤ 16777216 := by rw [openP, (sortP_perm _).length_eq, List.length_map]; exact l3
    simp only [bnd_ok, kee_lc1_ap, newL_ok, List.length_map, size_eq, l3, if_true, ofP_some, kea_cons0_ap, ea_nil, kea_cons1_ap, kee_bi0_ap, biD_1, bi_sorted, sortable_paths, sortD_paths]
    have l5 : (sortP (List.map (fun x => x.fst) (List.filter (fun q => isOpenB q.snd) (spots [] e)))).length ≤ 16777216 := l4
    simp [l5]
    rw [fin_self (by simp [frees_all])]; rfl
  · have hy2 := (List.mem_filter.mp hy).2
    have hf : isNumB y.2 = false := by simpa using hy2
    obtain ⟨yp, ye⟩ := y
    simp only at hf
    refine ⟨_, bindP_two .., ?_, fun _ => by simp [wipeE]⟩
    cases ye <;> simp [isNumB] at hf <;> simp [wipeE, enc, isOpenB, encs_length]
    omega
end
end PL

set_option Elab.async false
set_option linter.all false
set_option maxRecDepth 100000
set_option autoImplicit false
set_option maxHeartbeats 4000000
namespace PL
open PySem L2
/-! ### the paths of nodes -/
theorem spots_pre {p : Path} {e : Ex} {q : Path × Ex} (h : q ∈ spots p e) : ∃ r, q.1 = p ++ r ∧ r.length ≤ ht e := by
  induction e using Ex.ind generalizing p q with
  | h e ih =>
    rw [spots_eq, List.mem_cons] at h
    rcases h with rfl | h
    · exact ⟨[], by simp, by simp⟩
    · obtain ⟨⟨x, i⟩, hx, hq⟩ := List.mem_flatMap.mp h
      have hm := List.fst_mem_of_mem_zipIdx hx
      obtain ⟨r, h1, h2⟩ := ih x hm hq
      have : ht x < ht e := ht_ops hm
      exact ⟨i :: r, by rw [h1]; simp, by simp; omega⟩
theorem nodup_flat {α β γ : Type} {l : List α} {f : α → List β} {g : β → γ} (h1 : ∀ a ∈ l, ((f a).map g).Nodup) (h2 : l.Pairwise fun a b => ∀ x ∈ f a, ∀ y ∈ f b, g x ≠ g y) : ((l.flatMap f).map g).Nodup := by
  induction l with
  | nil => simp
  | cons a l ih =>
    rw [List.pairwise_cons] at h2
    rw [List.flatMap_cons, List.map_append, List.nodup_append]
    refine ⟨h1 a (List.mem_cons_self ..), ih (fun b hb => h1 b (List.mem_cons_of_mem _ hb)) h2.2, fun x hx y hy e => ?_⟩
    obtain ⟨u, hu, rfl⟩ := List.mem_map.mp hx
    obtain ⟨v, hv, rfl⟩ := List.mem_map.mp hy
    obtain ⟨b, hb, hv⟩ := List.mem_flatMap.mp hv
    exact h2.1 b hb u hu v hv e
theorem zipIdx_pair {α : Type} (l : List α) (k : Nat) : (l.zipIdx k).Pairwise fun a b => a.2 ≠ b.2 := by
  induction l generalizing k with
  | nil => simp
  | cons a l ih =>
    rw [List.zipIdx_cons, List.pairwise_cons]
    refine ⟨fun b hb => ?_, ih _⟩
    have := List.le_snd_of_mem_zipIdx hb
    simp only; omega
theorem spots_nodup (p : Path) (e : Ex) : ((spots p e).map (·.1)).Nodup := by
  induction e using Ex.ind generalizing p with
  | h e ih =>
    rw [spots_eq, List.map_cons, List.nodup_cons]
    refine ⟨fun h => ?_, nodup_flat (fun q hq => ih q.1 (List.fst_mem_of_mem_zipIdx hq) _) ((zipIdx_pair _ 0).imp fun {a b} n x hx y hy z => ?_)⟩
    · obtain ⟨q, hq, e1⟩ := List.mem_map.mp h
      obtain ⟨⟨x, i⟩, hx, hq⟩ := List.mem_flatMap.mp hq
      obtain ⟨r, h1, _⟩ := spots_pre hq
      simp only at e1
      rw [h1] at e1
      have := congrArg List.length e1
      simp at this
    · obtain ⟨r, h1, _⟩ := spots_pre hx
      obtain ⟨s, h2, _⟩ := spots_pre hy
      rw [h1, h2, List.append_assoc, List.append_assoc] at z
      have := List.append_cancel_left z
      simp at this
      exact n this.1
def nodeAt (e : Ex) (p : Path) : Option Ex := ((spots [] e).find? fun q => decide (q.1 = p)).map (·.2)
def tabT (e : Ex) : List (Dat × Dat) := (spots [] e).map fun q => (encP q.1, enc q.2)
theorem encP_inj {p q : Path} (h : encP p = encP q) : p = q := by
  simp only [encP, Dat.tuple.injEq] at h
  have : ∀ {p q : List Nat}, (p.map fun (i : Nat) => Dat.int (i : Int)) = (q.map fun (i : Nat) => Dat.int (i : Int)) → p = q := by
    intro p
    induction p with
    | nil => intro q h; cases q with | nil => rfl | cons _ _ => simp at h
    | cons i p ih =>
      intro q h
      cases q with
      | nil => simp at h
      | cons j q =>
        simp only [List.map_cons, List.cons.injEq, Dat.int.injEq] at h
        rw [ih h.2]
        have : i = j := by omega
        rw [this]
  exact this h
theorem dget_spots {l : List (Path × Ex)} (p : Path) : dget (l.map fun q => (encP q.1, enc q.2)) (encP p) = (l.find? fun q => decide (q.1 = p)).map fun q => enc q.2 := by
  induction l with
  | nil => rfl
  | cons a l ih =>
    rw [List.map_cons, dget, List.find?_cons]
    by_cases h : a.1 = p
    · simp [h]
    · rw [if_neg fun z => h (encP_inj z)]
      simp only [h, decide_false]
      exact ih
theorem dget_tabT (e : Ex) (p : Path) : dget (tabT e) (encP p) = (nodeAt e p).map enc := by
  rw [tabT, dget_spots, nodeAt, Option.map_map]; rfl
theorem keyOk_encP (p : Path) : keyOk (encP p) = true := by
  rw [encP, keyOk, List.all_eq_true]
  intro d hd
  obtain ⟨i, _, rfl⟩ := List.mem_map.mp hd
  rfl
@[simp] theorem isTup_encP (p : Path) : isTupD (encP p) = true := by rw [encP, isTup_tup]
theorem keyFits_tabT (e : Ex) (p : Path) : keyFits (tabT e) (encP p) = true := by
  unfold keyFits
  rw [keyOk_encP, tabT, spots_eq]
  simp
theorem tabT_free (e : Ex) : freeK (tabT e) = true := by rw [freeK_all, tabT]; simp
theorem find_nodup {l : List (Path × Ex)} (h : (l.map (·.1)).Nodup) {q : Path × Ex} (hq : q ∈ l) : (l.find? fun r => decide (r.1 = q.1)) = some q := by
  induction l with
  | nil => cases hq
  | cons a l ih =>
    rw [List.map_cons, List.nodup_cons] at h
    rw [List.find?_cons]
    rcases List.mem_cons.mp hq with rfl | hq
    · simp
    · have : a.1 ≠ q.1 := fun e => h.1 (by rw [e]; exact List.mem_map.mpr ⟨q, hq, rfl⟩)
      simp only [this, decide_false]
      exact ih h.2 hq
theorem nodeAt_mem {e : Ex} {q : Path × Ex} (h : q ∈ spots [] e) : nodeAt e q.1 = some q.2 := by
  rw [nodeAt, find_nodup (spots_nodup [] e) h]; rfl
theorem openP_mem {e : Ex} {p : Path} (h : p ∈ openP e) : ∃ x, nodeAt e p = some x ∧ isOpenB x = true ∧ p.length ≤ ht e := by
  rw [openP, (sortP_perm _).mem_iff] at h
  obtain ⟨q, hq, rfl⟩ := List.mem_map.mp h
  obtain ⟨h1, h2⟩ := List.mem_filter.mp hq
  obtain ⟨r, h3, h4⟩ := spots_pre h1
  exact ⟨q.2, nodeAt_mem h1, h2, by rw [h3]; simpa using h4⟩
theorem openP_strict (e : Ex) : (openP e).Pairwise fun a b => ltP a b = true := sortP_strict ((List.Sublist.map _ List.filter_sublist).nodup (spots_nodup [] e))
theorem openP_len (e : Ex) : (openP e).length ≤ sz e := by
  rw [openP, (sortP_perm _).length_eq, List.length_map, ← spots_len [] e]
  exact List.length_filter_le _ _
/-- points of a task -/
structure OkPts (e : Ex) (pts : List Path) : Prop where
  sub : pts.Sublist (openP e)
def encPts (pts : List Path) : Dat := .tuple (pts.map encP)
theorem frees_paths (l : List Path) : frees (l.map encP) = true := by rw [frees_all]; simp
@[simp] theorem encPts_free (l : List Path) : free (encPts l) = true := by simp [encPts, frees_paths]
abbrev SPoints (B : BagI) (n : Nat) (F : Fun) : Prop := ∀ S kb c e, ht e < n → ht e ≤ 1000 → sz e ≤ 10000 → Bag B kb c S → c + 1 + sz e < 1000000000 → ∃ pts S', F [.own kb, enc e] S = .ok (encPts pts) S' ∧ OkPts e pts ∧ Dr B kb [] (c + 1 + sz e) S S'
section
variable (Φ : Fe) {B : BagI}
theorem ok_points {n : Nat} (hT : STk B (Φ.call (Str.ofString "_law_take"))) (hO : SOpenL n (Φ.call (Str.ofString "_law_open"))) : SPoints B n (runF Φ f__law_points) := fun S kb c e hn hh hz hb hc => by
  obtain ⟨r, S1, e1, r0, r1, d1⟩ := hT S kb c 6 hb (by omega) (by omega) (by omega)
  have lo := openP_len e
  have l1 : (openP e).length ≤ 16777216 := by omega
  have q := hO e S1 hn hh hz
  by_cases h : r = 0
  · refine ⟨openP e, S1, ?_, ⟨List.Sublist.refl _⟩, d1.up (by omega)⟩
    simp [runF, f__law_points, ent, e1, h, q, l1]
    rw [d1.fin (by simp [frees_paths])]; rfl
  · simp [runF, f__law_points, ent, e1, h, q]
    generalize hL : mLcL _ _ _ _ _ _ _ _ _ = rr
    obtain ⟨S', acc, ⟨ys, rfl, hs, dr⟩, rfl⟩ := lc_inv' hL (fun i S' acc => ∃ ys, ys.map encP = acc ∧ ys.Sublist ((openP e).take i) ∧ Dr B kb [] (c + 1 + i) S S') (fun _ _ _ _ => wat_nil _ _) (fun i x S2 acc hx ⟨ys, h1, hs, dr⟩ => by
      subst h1
      rw [List.getElem?_map] at hx
      cases hy : (openP e)[i]? with
      | none => rw [hy] at hx; simp at hx
      | some y =>
        rw [hy] at hx
        simp at hx
        subst hx
        have li := (List.getElem?_eq_some_iff.mp hy).1
        have tk : (openP e).take (i + 1) = (openP e).take i ++ [y] := by rw [List.take_succ, hy]; rfl
        have lys := hs.length_le
        rw [List.length_take] at lys
        by_cases h4 : r < 4
        · obtain ⟨r2, S3, e3, r20, r21, d3⟩ := hT S2 kb _ 3 dr.bag (by omega) (by omega) (by omega)
          refine ⟨_, decide (r2 = 0), S3, bindP_nm .., by simp [wipeE, h4, e3], ?_⟩
          by_cases h5 : r2 = 0
          · refine .inl ⟨by simp [h5], encP y, S3, by simp [wipeE], by simp; omega, ys ++ [y], by simp, ?_, dr.trans d3⟩
            rw [tk]; exact hs.append (List.Sublist.refl _)
          · refine .inr ⟨by simp [h5], ys, rfl, ?_, dr.trans d3⟩
            rw [tk]; exact hs.trans (List.sublist_append_left _ _)
        · refine ⟨_, false, S2, bindP_nm .., by simp [wipeE, h4], .inr ⟨rfl, ys, rfl, ?_, dr.mono (fun _ h => h) (by omega)⟩⟩
          rw [tk]; exact hs.trans (List.sublist_append_left _ _)) ⟨[], rfl, by simp, d1⟩
    rw [List.length_map, List.take_length] at hs
    have lys := hs.length_le
    have l2 : ys.length ≤ 16777216 := by omega
    rw [List.length_map] at dr
    refine ⟨ys, S', ?_, ⟨hs⟩, dr.mono (fun _ h => h) (by omega)⟩
    simp [l2]
    rw [dr.fin (by simp [frees_paths])]; rfl
/-! has, are_points -/
theorem run_has (hP : ∀ p S, p.length ≤ 1000 → Φ.call (Str.ofString "is_path") [encP p] S = .ok (.bool true) S) (x : Dat) (e : Ex) (S : Sto) (hx : fldD S x (Str.ofString "table") = some (.dict (tabT e), S)) (p : Path) (hp : p.length ≤ 1000) : runF Φ f_Task_has [x, encP p] S = .ok (.bool (nodeAt e p).isSome) S := by
  simp [runF, f_Task_has, ent, hP p S hp, hx, keyFits_tabT, dget_tabT, fin_self]
abbrev SHas (F : Fun) : Prop := ∀ x e S p, fldD S x (Str.ofString "table") = some (.dict (tabT e), S) → p.length ≤ 1000 → F [x, encP p] S = .ok (.bool (nodeAt e p).isSome) S
abbrev SArePts (F : Fun) : Prop := ∀ x e S pts, isInst S x (Str.ofString "Task") = true → fldD S x (Str.ofString "table") = some (.dict (tabT e), S) → ht e ≤ 1000 → sz e ≤ 10000 → OkPts e pts → F [x, encPts pts] S = .ok (.bool true) S
theorem ok_are_points (hH : SHas (Φ.call (Str.ofString "Task.has"))) (hO : SIsOpen (Φ.call (Str.ofString "is_open"))) : SArePts (runF Φ f_Task_are_points) := fun x e S pts hi hx hh hz ho => by
  have l0 := ho.sub.length_le
  have lo := openP_len e
  have l1 : pts.length ≤ 16777216 := by omega
  have l3 : pts.length - 1 ≤ 16777216 := by omega
  simp [runF, f_Task_are_points, ent, encPts, isTy]
  rw [lc_all (fun y => .bool true) (by simp; omega) (fun y hy => by
    obtain ⟨z, h1, h2, h3⟩ := openP_mem (ho.sub.subset hy)
    exact ⟨_, bindP_nm .., by simp, by simp [wipeE, insG, hi, hH x e S y hx (by omega), h1, hx, keyFits_tabT, dget_tabT, hO, h2]⟩) (wat_nil _ _)]
  simp [l1, l3, boolsOf_map (fun _ => true), ← List.map_tail]
  rw [zip_tup]
  simp
  rw [lc_all (fun q => .bool (ltP q.1 q.2)) (by simp; omega) (fun q hq => ⟨_, bindP_two .., by simp, by simp [wipeE, cmp_lt_path]⟩) (wat_nil _ _)]
  have l4 : (pts.zip pts.tail).length ≤ 16777216 := by simp; omega
  have e1 : ((pts.zip pts.tail).all fun x => ltP x.fst x.snd) = true := List.all_eq_true.mpr fun q hq => pair_zip ((openP_strict e).sublist ho.sub) q hq
  simp [-List.length_zip, l4]
  rw [e1, fin_self (by simp)]
theorem run_are_points_kt (x : Dat) (S : Sto) : runF Φ f_Task_are_points [x, .kt []] S = .ok (.bool true) S := by
  simp [runF, f_Task_are_points, ent, isTy, mLcL, boolsOf, sliceD, isKt, HT.sIx, zip2D, zipD, fin_self]
def ownN : Ex → Nat
  | .read _ => 1
  | .store _ _ => 1
  | .step _ _ _ => 2
  | .call _ _ => 1
  | _ => 0
abbrev SOwnN (F : Fun) : Prop := ∀ e S, F [enc e] S = .ok (.int (ownN e)) S
theorem ok_own_steps_of : SOwnN (runF Φ f_own_steps_of) := fun e S => by
  cases e <;> simp [runF, f_own_steps_of, ent, isTy, enc, ownN, bmG, bmT, bmD, getD_, isStrD, dget, fin_self]
end
end PL

set_option Elab.async false
set_option linter.all false
set_option maxRecDepth 100000
set_option autoImplicit false
set_option maxHeartbeats 4000000
namespace PL
open PySem L2
/-! ### tasks -/
theorem lc2_pure {α : Type} {p p1 : Pat} {mt mt1 : MT} {mi1 : MI} {me : ME} {vs1 ks : List Nat} {S0 S : Sto} {ρ : Ro} {g : α → Dat} (f : α → List Dat) : ∀ {ys : List α} {acc : List Dat}, acc.length + (ys.flatMap f).length ≤ 10000 →
    (∀ y ∈ ys, ∃ ρ1 ds, bindP p (g y) ρ = some ρ1 ∧ mt ρ1 S = .ok true S ∧ mi1 ρ1 S = .ok (ds, []) S ∧ ∀ acc : List Dat, acc.length + (f y).length ≤ 10000 → mLcL p1 mt1 me [] S ds (wipeE ρ1 vs1) S acc = .ok (acc ++ f y) S) → Wat ks S0 S →
    mLc2L p mt mi1 p1 mt1 me vs1 ks S0 (ys.map g) ρ S acc = .ok (acc ++ ys.flatMap f) S
  | [], acc, _, _, hw => by rw [List.map_nil, mLc2L, if_pos hw]; simp
  | y :: ys, acc, hl, h, hw => by
    obtain ⟨ρ1, ds, e1, e2, e3, e4⟩ := h y (List.mem_cons_self ..)
    rw [List.flatMap_cons, List.length_append] at hl
    rw [List.map_cons, mLc2L, if_pos hw, e1]
    simp only [e2, if_true, e3]
    rw [e4 acc (by omega)]
    simp only
    rw [lc2_pure f (by rw [List.length_append]; omega) (fun z hz => h z (List.mem_cons_of_mem _ hz)) hw]
    simp
theorem pairs_spots (l : List (Path × Ex)) : pairsD (l.map encQ) = some (l.map fun q => (encP q.1, enc q.2)) := by
  induction l with
  | nil => simp [pairsD]
  | cons q l ih =>
    rw [List.map_cons, encQ, pairsD, if_pos (keyOk_encP _), ih]; rfl
theorem dputs_nodup : ∀ {l acc : List (Dat × Dat)}, (l.map (·.1)).Nodup → (∀ p ∈ acc, ∀ x ∈ l, p.1 ≠ x.1) → dputs acc l = acc ++ l
  | [], acc, _, _ => by rw [dputs]; simp
  | (k, v) :: l, acc, h, hd => by
    rw [List.map_cons, List.nodup_cons] at h
    rw [dputs, dput_new fun p hp => hd p hp (k, v) (List.mem_cons_self ..), dputs_nodup h.2]
    · simp
    · intro p hp x hx
      rw [List.mem_append, List.mem_singleton] at hp
      rcases hp with hp | rfl
      · exact hd p hp x (List.mem_cons_of_mem _ hx)
      · exact fun e => h.1 (by simp only at e; rw [e]; exact List.mem_map.mpr ⟨x, hx, rfl⟩)
theorem dputs_tabT (e : Ex) : dputs [] (tabT e) = tabT e := by
  rw [dputs_nodup, List.nil_append]
  · have : (tabT e).map (·.1) = ((spots [] e).map (·.1)).map encP := by simp [tabT]
    rw [this]
    exact List.pairwise_map.mpr (List.Pairwise.imp (fun {a b} h z => h (encP_inj z)) (spots_nodup [] e))
  · intro p hp; cases hp
theorem oneKind_tabT (e : Ex) : oneKind (tabT e) = true := by
  rw [tabT, spots_eq, List.map_cons, oneKind, List.all_eq_true]
  intro q hq
  obtain ⟨r, _, rfl⟩ := List.mem_map.mp hq
  simp
theorem maxI_le {l : List Int} {b : Int} (hl : l ≠ []) (h : ∀ i ∈ l, i ≤ b) : ∃ m, maxI l = some m ∧ m ≤ b := by
  cases l with
  | nil => exact absurd rfl hl
  | cons i r =>
    refine ⟨_, rfl, ?_⟩
    have h1 := h i (List.mem_cons_self ..)
    have h2 : ∀ x ∈ r, x ≤ b := fun x hx => h x (List.mem_cons_of_mem _ hx)
    clear h hl
    induction r generalizing i with
    | nil => simpa using h1
    | cons a r ih =>
      rw [List.foldl_cons]
      exact ih (max i a) (by have := h2 a (List.mem_cons_self ..); omega) fun x hx => h2 x (List.mem_cons_of_mem _ hx)
theorem intsOf_map {α : Type} (f : α → Int) : ∀ xs : List α, intsOf (xs.map fun x => Dat.int (f x)) = some (xs.map f)
  | [] => by simp [intsOf]
  | x :: xs => by simp [intsOf, intsOf_map f xs]
def owners (e : Ex) : List Dat := (spots [] e).flatMap fun q => List.replicate (ownN q.2) (encP q.1)
theorem owners_free (e : Ex) : frees (owners e) = true := by
  rw [frees_all, List.all_eq_true]
  intro d hd
  obtain ⟨q, _, h⟩ := List.mem_flatMap.mp hd
  rw [(List.mem_replicate.mp h).2]; simp
def encT (bk : Bk) (e : Ex) (pts : Dat) : Dat := .ins (Str.ofString "Task") [(Str.ofString "book", encB bk), (Str.ofString "expression", enc e), (Str.ofString "table", .dict (tabT e)), (Str.ofString "points", pts), (Str.ofString "owners", .list (owners e))]
structure CtT (ct : CT) : Prop where
  b : hasF ct (Str.ofString "Task") (Str.ofString "book") = true
  e : hasF ct (Str.ofString "Task") (Str.ofString "expression") = true
  t : hasF ct (Str.ofString "Task") (Str.ofString "table") = true
  p : hasF ct (Str.ofString "Task") (Str.ofString "points") = true
  o : hasF ct (Str.ofString "Task") (Str.ofString "owners") = true
@[simp] theorem fld_app (S : Sto) (C : Str) (fs : List (Str × Dat)) (f : Str) : fldD (S ++ [.ins C fs]) (.own S.length) f = (fs.lookup f).bind fun d => some (d, S ++ [.ins C fs]) := by
  rw [fldD, look_own (getApp S _), cellD_ins]
@[simp] theorem isInst_app (S : Sto) (C D : Str) (fs : List (Str × Dat)) : isInst (S ++ [.ins C fs]) (.own S.length) D = decide (C = D) := by
  rw [isInst, look_own (getApp S _), cellD_ins]
structure OkT (bk : Bk) (e : Ex) : Prop where
  ok : OkE bk e
  ht : ht e ≤ 20
  sz : sz e ≤ 200
abbrev SMakeT (n : Nat) (F : Fun) : Prop := ∀ bk e pts S, ht e < n → OkT bk e → (pts = .kt [] ∨ ∃ ps, pts = encPts ps ∧ OkPts e ps) → F [encB bk, enc e, pts] S = .ok (encT bk e pts) S
section
variable (Φ : Fe)
theorem mk_task {n : Nat} (hct : CtT Φ.ct) (hF : SFirstWrong n (Φ.call (Str.ofString "first_wrong"))) (hS : SSpots n (Φ.call (Str.ofString "spots_in"))) (hA : SArePts (Φ.call (Str.ofString "Task.are_points"))) (hK : ∀ x S, Φ.call (Str.ofString "Task.are_points") [x, .kt []] S = .ok (.bool true) S) (hW : SOwnN (Φ.call (Str.ofString "own_steps_of"))) : SMakeT n (runMk (runF Φ f_Task___init__) true (Str.ofString "Task")) := fun bk e pts S hn ho hp => by
  have q1 := fun S => hF bk e [] S hn ho.ok (by have := ho.ht; simp; omega)
  have q2 := fun S => hS e [] S hn (by have := ho.ht; simp; omega) (by have := ho.sz; omega)
  have h1 := ho.ht
  have h2 := ho.sz
  have l0 := spots_len [] e
  have lt : (tabT e).length = sz e := by rw [tabT, List.length_map, l0]
  have lt2 : (tabT e).length ≤ 16777216 := by omega
  have lt3 : ¬ (200 : Int) < (tabT e).length := by omega
  have hpf : free pts = true := by
    rcases hp with rfl | ⟨ps, rfl, _⟩ <;> simp
  have ha : ∀ fs, List.lookup (Str.ofString "table") fs = some (.dict (tabT e)) → Φ.call (Str.ofString "Task.are_points") [.own S.length, pts] (S ++ [.ins (Str.ofString "Task") fs]) = .ok (.bool true) (S ++ [.ins (Str.ofString "Task") fs]) := fun fs hl => by
    rcases hp with rfl | ⟨ps, rfl, hps⟩
    · exact hK _ _
    · exact hA _ e _ ps (by simp) (by simp [hl]) (by omega) (by omega) hps
  have lo : (owners e).length ≤ 10000 := by
    have : ∀ l : List (Path × Ex), (l.flatMap fun q => List.replicate (ownN q.2) (encP q.1)).length ≤ 2 * l.length := by
      intro l
      induction l with
      | nil => simp
      | cons a l ih =>
        rw [List.flatMap_cons, List.length_append, List.length_replicate, List.length_cons]
        have : ownN a.2 ≤ 2 := by cases a.2 <;> simp [ownN]
        omega
    have := this (spots [] e)
    rw [owners]; omega
  have lo2 : (owners e).length ≤ 16777216 := by omega
  rw [runMk]
  simp [runF, f_Task___init__, ent, encP_nil, q1, hct.b, hct.e, q2]
  rw [bi1, lstOf, look_list']
  simp only [bind_some', pairs_spots]
  rw [← tabT, if_pos (oneKind_tabT e), dputs_tabT]
  simp [lt2, hct.t, lt3]
  have kk : List.map (fun x => x.fst) (tabT e) = (spots [] e).map fun q => encP q.1 := by simp [tabT]
  rw [kk, lc_all (fun q => .int (q.1.length : Int)) (by simp; omega) (fun q hq => ⟨_, bindP_nm .., by simp, by simp [wipeE, encP]⟩) (wat_nil _ _)]
  have l5 : (spots [] e).length ≤ 16777216 := by omega
  obtain ⟨m, m1, m2⟩ := maxI_le (l := (spots [] e).map fun q => (q.1.length : Int)) (b := 20) (by rw [spots_eq]; simp) (fun i hi => by
    obtain ⟨q, hq, rfl⟩ := List.mem_map.mp hi
    obtain ⟨r, h3, h4⟩ := spots_pre hq
    rw [h3]; simp; omega)
  have m3 : ¬ (30 : Int) ≤ m := by omega
  simp [l5]
  rw [bi1, lstOf, look_list']
  simp only [bind_some', intsOf_map, m1]
  simp [m3, insG, ha, hct.p]
  have kk2 : List.map (fun p => Dat.tuple [p.fst, p.snd]) (tabT e) = (spots [] e).map fun q => .tuple [encP q.1, enc q.2] := by simp [tabT]
  rw [kk2, lc2_pure (fun q => List.replicate (ownN q.2) (encP q.1)) (by rw [List.length_nil, Nat.zero_add, ← owners]; exact lo) (fun q hq => by
    have hr : rng1D [.int (ownN q.2 : Int)] = some ((List.range (ownN q.2)).map fun (i : Nat) => .int (i : Int), []) := by
      have : ownN q.2 ≤ 2 := by cases q.2 <;> simp [ownN]
      rw [rng1D, if_pos (by omega)]; simp
    refine ⟨_, (List.range (ownN q.2)).map fun (i : Nat) => .int (i : Int), bindP_two .., by simp, by simp [wipeE, hW, hr], fun acc ha => ?_⟩
    rw [lc_all (fun _ => encP q.1) (by simp at ha ⊢; omega) (fun i hi => ⟨_, bindP_nm .., by simp, by simp [wipeE]⟩) (wat_nil _ _)]
    rw [List.map_const', List.length_range]) (wat_nil _ _)]
  rw [← owners]
  simp [lo2, hct.o]
  rw [fin_last (by simp [tabT_free, owners_free, hpf]) (by simp)]
  simp
  rw [fin_app_own (by simp [tabT_free, owners_free, hpf])]; rfl
theorem encT_free (bk : Bk) (e : Ex) (pts : Dat) (h : free pts = true) : free (encT bk e pts) = true := by simp [encT, tabT_free, owners_free, h]
theorem run_len (bk : Bk) (e : Ex) (pts : Dat) (S : Sto) : runF Φ f_Task___len__ [encT bk e pts] S = .ok (.int (owners e).length) S := by
  simp [runF, f_Task___len__, ent, encT, fin_self]
end
end PL

set_option Elab.async false
set_option linter.all false
set_option maxRecDepth 100000
set_option autoImplicit false
set_option maxHeartbeats 4000000
namespace PL
open PySem L2
/-! ### texts of data -/
mutual
def nn : Dat → Nat
  | .list xs => nns xs + 1
  | .tuple xs => nns xs + 1
  | .kt xs => nns xs + 1
  | _ => 1
def nns : List Dat → Nat
  | [] => 0
  | x :: xs => nn x + nns xs
end
mutual
def fine : Dat → Bool
  | .none => true
  | .bool _ => true
  | .int i => decide (i.natAbs < 10 ^ 60)
  | .str x => PyData.strOk x && decide (x.length ≤ 100)
  | .list xs => fines xs
  | .tuple xs => fines xs
  | .kt xs => fines xs
  | _ => false
def fines : List Dat → Bool
  | [] => true
  | x :: xs => fine x && fines xs
end
@[simp] theorem nn_int (i : Int) : nn (.int i) = 1 := by rw [nn] <;> simp
@[simp] theorem nn_str (i : Str) : nn (.str i) = 1 := by rw [nn] <;> simp
@[simp] theorem nn_none : nn .none = 1 := by rw [nn] <;> simp
@[simp] theorem nn_bool (b : Bool) : nn (.bool b) = 1 := by rw [nn] <;> simp
@[simp] theorem nn_tup (xs : List Dat) : nn (.tuple xs) = nns xs + 1 := by rw [nn]
@[simp] theorem nn_lst (xs : List Dat) : nn (.list xs) = nns xs + 1 := by rw [nn]
@[simp] theorem nn_kt (xs : List Dat) : nn (.kt xs) = nns xs + 1 := by rw [nn]
@[simp] theorem nns_nil : nns [] = 0 := by rw [nns]
@[simp] theorem nns_cons (x : Dat) (xs : List Dat) : nns (x :: xs) = nn x + nns xs := by rw [nns]
@[simp] theorem fine_none : fine .none = true := by rw [fine]
@[simp] theorem fine_bool (b : Bool) : fine (.bool b) = true := by rw [fine]
@[simp] theorem fine_int (i : Int) : fine (.int i) = decide (i.natAbs < 10 ^ 60) := by rw [fine]
@[simp] theorem fine_str (x : Str) : fine (.str x) = (PyData.strOk x && decide (x.length ≤ 100)) := by rw [fine]
@[simp] theorem fine_lst (xs : List Dat) : fine (.list xs) = fines xs := by rw [fine]
@[simp] theorem fine_tup (xs : List Dat) : fine (.tuple xs) = fines xs := by rw [fine]
@[simp] theorem fine_kt (xs : List Dat) : fine (.kt xs) = fines xs := by rw [fine]
@[simp] theorem fines_nil : fines [] = true := by rw [fines]
@[simp] theorem fines_cons (x : Dat) (xs : List Dat) : fines (x :: xs) = (fine x && fines xs) := by rw [fines]
theorem fines_all {xs : List Dat} : fines xs = xs.all fine := by
  induction xs with
  | nil => simp
  | cons x xs ih => simp [ih]
theorem nns_sum {xs : List Dat} : nns xs = (xs.map nn).sum := by
  induction xs with
  | nil => simp
  | cons x xs ih => simp [ih]
theorem nns_le {xs : List Dat} {b : Nat} (h : ∀ x ∈ xs, nn x ≤ b) : nns xs ≤ b * xs.length := by
  induction xs with
  | nil => simp
  | cons x xs ih =>
    rw [nns_cons, List.length_cons, Nat.mul_succ]
    have h1 := h x (List.mem_cons_self ..)
    have h2 := ih fun y hy => h y (List.mem_cons_of_mem _ hy)
    omega
theorem textFrom_le : ∀ (ts : List Str) (k : Nat) (acc : Str), (textFrom k acc ts).length ≤ acc.length + piled ts
  | [], k, acc => by simp [textFrom, piled]
  | t :: ts, k, acc => by
    rw [textFrom]
    refine Nat.le_trans (textFrom_le ts (k + 1) _) ?_
    have e : (acc ++ (if k > 0 then ", " else "" : String) ++ t).length ≤ acc.length + 2 + t.length := by
      rw [strLen_append, strLen_append]
      have : (((if k > 0 then ", " else "" : String) : Str)).length ≤ 2 := by split <;> decide
      omega
    simp only [piled, List.map_cons, List.sum_cons]
    omega
theorem listText_le (ts : List Str) : (listText ts).length ≤ piled ts + 4 := by
  unfold listText
  rw [strLen_append]
  have h1 := textFrom_le ts 0 "["
  have e1 : ((("[" : String) : Str)).length = 1 := rfl
  have e2 : ((("]" : String) : Str)).length = 1 := rfl
  omega
theorem tupleText_le (ts : List Str) : (tupleText ts).length ≤ piled ts + 4 := by
  unfold tupleText
  rw [strLen_append, strLen_append]
  have e1 : ((("(" : String) : Str)).length = 1 := rfl
  have e3 : (((if ts.length == 1 then ",)" else ")" : String) : Str)).length ≤ 2 := by split <;> decide
  by_cases h : ts = []
  · subst h
    have e4 : (Str.join ", " []).length = 0 := rfl
    have e5 : piled [] = 0 := rfl
    omega
  · have := join_length_add ts h
    omega
theorem strOk_lt {x : Str} (h : PyData.strOk x = true) : ∀ c ∈ x.cps.toList, c < 16 ^ 8 := fun c hc => by
  unfold PyData.strOk at h
  rw [Array.all_eq_true'] at h
  have := h c (Array.mem_toList_iff.mp hc)
  simp at this
  omega
theorem ofString_len (s : String) : (Str.ofString s).length = s.length := by
  rw [ofString_eq]
  show (s.toList.map Char.toNat).toArray.size = _
  rw [List.size_toArray, List.length_map, String.length_toList]
mutual
theorem shown_le : ∀ d : Dat, clean d = true → fine d = true → (toP d).shown.length + 2 ≤ 1100 * nn d ∧ (toP d).canLay0 = true ∧ (toP d).showable = true
  | .none, _, _ => by simp [PyData.shown, PyData.canLay0, PyData.showable]; decide
  | .bool b, _, _ => by cases b <;> simp [PyData.shown, PyData.canLay0, PyData.showable] <;> decide
  | .int i, _, h => by
    rw [fine_int, decide_eq_true_eq] at h
    have h1 := int_text_length_le10 (a := i) (k := 60) (by omega) h
    have h2 : i.natAbs.log2 < 200 := log_lt (Nat.lt_of_lt_of_le h (by decide)) (by omega)
    have h3 := ofString_len (toString i)
    simp [PyData.shown, PyData.canLay0, PyData.showable]
    refine ⟨?_, by omega⟩
    have h4 : (Str.ofString (toString i)).length ≤ 1098 := by omega
    exact h4
  | .str x, _, h => by
    simp at h
    have h1 := StrLaws.reprText_len x (strOk_lt h.1)
    simp [PyData.shown, PyData.canLay0, PyData.showable, h.1]
    omega
  | .list xs, hc, h => by
    simp at hc h
    obtain ⟨h1, h2, h3⟩ := shownAll_le xs hc h
    have h4 := listText_le (PyData.shownAll (toPs xs))
    simp [PyData.shown, PyData.canLay0, PyData.showable, h2, h3]
    omega
  | .tuple xs, hc, h => by
    simp at hc h
    obtain ⟨h1, h2, h3⟩ := shownAll_le xs hc h
    have h4 := tupleText_le (PyData.shownAll (toPs xs))
    simp [PyData.shown, PyData.canLay0, PyData.showable, h2, h3]
    omega
  | .kt xs, hc, h => by
    simp at hc h
    obtain ⟨h1, h2, h3⟩ := shownAll_le xs hc h
    have h4 := tupleText_le (PyData.shownAll (toPs xs))
    simp [PyData.shown, PyData.canLay0, PyData.showable, h2, h3]
    omega
  | .ins _ _, hc, _ => by simp [clean] at hc
  | .dict _, hc, _ => by simp [clean] at hc
  | .kd _, hc, _ => by simp [clean] at hc
  | .own _, hc, _ => by simp [clean] at hc
theorem shownAll_le : ∀ xs : List Dat, cleans xs = true → fines xs = true → piled (PyData.shownAll (toPs xs)) ≤ 1100 * nns xs ∧ PyData.canLayAll0 (toPs xs) = true ∧ PyData.showableAll (toPs xs) = true
  | [], _, _ => by simp [toPs, PyData.shownAll, piled, PyData.canLayAll0, PyData.showableAll]
  | x :: xs, hc, h => by
    simp at hc h
    obtain ⟨h1, h2, h3⟩ := shown_le x hc.1 h.1
    obtain ⟨k1, k2, k3⟩ := shownAll_le xs hc.2 h.2
    simp [toPs, PyData.shownAll, PyData.canLayAll0, PyData.showableAll, h2, h3, k2, k3]
    simp only [piled, List.map_cons, List.sum_cons] at k1 ⊢
    omega
end
theorem depth_le {xs : List PyData} {b : Nat} (h : ∀ x ∈ xs, x.depth ≤ b) : PyData.depthAll xs ≤ b := by
  induction xs with
  | nil => simp [PyData.depthAll]
  | cons x xs ih =>
    rw [PyData.depthAll]
    have h1 := h x (List.mem_cons_self ..)
    have h2 := ih fun y hy => h y (List.mem_cons_of_mem _ hy)
    omega
/-- a list that can be shown -/
structure OkRep (xs : List Dat) : Prop where
  c : cleans xs = true
  f : fines xs = true
  n : nns xs ≤ 15000
  d : ∀ x ∈ xs, (toP x).depth ≤ 50
def shownL (xs : List Dat) : Str := (PyData.list (toPs xs)).shown
theorem rep_if {xs : List Dat} (h : OkRep xs) : (isSeqP (.list (toPs xs)) && (PyData.list (toPs xs)).canLay0 && (PyData.list (toPs xs)).showable && decide ((PyData.list (toPs xs)).shown.length ≤ sizeLine) && decide ((PyData.list (toPs xs)).depth ≤ 60)) = true := by
  obtain ⟨h1, h2, h3⟩ := shown_le (.list xs) (by simpa using h.c) (by simpa using h.f)
  rw [toP_list] at h1 h2 h3
  have hn := h.n
  have hd : (PyData.list (toPs xs)).depth ≤ 60 := by
    rw [PyData.depth]
    have := depth_le (xs := toPs xs) (b := 50) fun x hx => by
      rw [toPs_map] at hx
      obtain ⟨y, hy, rfl⟩ := List.mem_map.mp hx
      exact h.d y hy
    omega
  simp only [nn_lst] at h1
  simp only [h2, h3, isSeqP, Bool.true_and, Bool.and_eq_true, decide_eq_true_eq]
  exact ⟨by rw [size_eq]; omega, hd⟩
theorem repr_list {S : Sto} {xs : List Dat} (h : OkRep xs) : reprD S (.list xs) = some (.str (shownL xs), S) := by
  rw [reprD, pd_clean (by simpa using h.c), toP_list, bind_some', if_pos (rep_if h)]; rfl
theorem repr_own {S : Sto} {k : Nat} {xs : List Dat} (hk : S[k]? = some (.lst xs)) (h : OkRep xs) : reprD S (.own k) = some (.str (shownL xs), S) := by
  have e : pd S (.own k) = some (.list (toPs xs)) := by
    rw [pd, toPD, hk]
    simp only [pds_clean' S _ xs h.c, Option.map_some]
  rw [reprD, e, bind_some', if_pos (rep_if h)]; rfl
end PL

set_option Elab.async false
set_option linter.all false
set_option maxRecDepth 100000
set_option autoImplicit false
set_option maxHeartbeats 4000000
namespace PL
open PySem L2
/-! ### steps by the law, and their texts -/
theorem name_fine {x : Str} (h : isNameB x = true) : fine (.str x) = true := by
  unfold isNameB at h
  simp only [Bool.and_eq_true, decide_eq_true_eq, List.all_eq_true] at h
  have h2 : PyData.strOk x = true := by
    unfold PyData.strOk
    rw [Array.all_eq_true']
    intro c hc
    have := h.2 c (Array.mem_toList_iff.mpr hc)
    rw [inStr, StrLaws.found_one, decide_eq_true_eq, ofString_eq] at this
    have h3 : ∀ c ∈ ("abcdefghijklmnopqrstuvwxyz".toList.map Char.toNat), c < 200 := by decide
    have := h3 c (by simpa using this)
    simp; omega
  rw [fine_str, h2]
  simp; omega
/-- the facts of a step -/
structure OkStp (b l : Nat) (s : Stp) : Prop where
  k : s.kind = Str.ofString "read" ∨ s.kind = Str.ofString "store" ∨ s.kind = Str.ofString "call"
  p : ∀ i ∈ s.path, i < b
  l : s.path.length ≤ l
  r : ∀ x ∈ s.reads, isNameB x = true
  rl : s.reads.length ≤ 4
  st : ∀ x ∈ s.stores, isNameB x = true
  sl : s.stores.length ≤ 4
theorem ops_len_sz (e : Ex) : (ops e).length < sz e := by
  rw [sz_eq]
  have : ∀ l : List Ex, l.length ≤ (l.map sz).sum := by
    intro l
    induction l with
    | nil => simp
    | cons a l ih => simp; have := sz_pos a; omega
  have := this (ops e)
  omega
theorem ownS_ok {bk : Bk} {p : Path} {e : Ex} {b l : Nat} (hp : ∀ i ∈ p, i < b) (hl : p.length ≤ l) (ho : okN bk e) (hb : ∀ f ∈ bk, OkFn f) {s : Stp} (h : s ∈ ownS bk p e) : OkStp b l s := by
  cases e <;> simp only [ownS, List.mem_cons, List.not_mem_nil, or_false] at h
  · subst h; exact ⟨by simp, hp, hl, by simpa [okN] using ho, by simp, by simp, by simp⟩
  · subst h; exact ⟨by simp, hp, hl, by simp, by simp, by simpa [okN] using ho, by simp⟩
  · rcases h with rfl | rfl
    · exact ⟨by simp, hp, hl, by simpa [okN] using ho, by simp, by simp, by simp⟩
    · exact ⟨by simp, hp, hl, by simp, by simp, by simpa [okN] using ho, by simp⟩
  · obtain ⟨r, h1, _⟩ := ho
    rw [h1] at h
    simp only [List.mem_singleton] at h
    subst h
    have hr := hb r (getB_some h1).1
    exact ⟨by simp, hp, hl, hr.rd.nm, hr.rd.len, hr.st.nm, hr.st.len⟩
theorem stepsE_ok {bk : Bk} {e : Ex} (hb : ∀ f ∈ bk, OkFn f) (ho : OkE bk e) : ∀ {p : Path} {b l : Nat}, (∀ i ∈ p, i < b) → sz e ≤ b → p.length + ht e ≤ l → ∀ s ∈ stepsE bk p e, OkStp b l s := by
  induction e using Ex.ind with
  | h e ih =>
    intro p b l hp hz hl s hs
    rw [stepsE_eq, List.mem_append] at hs
    rcases hs with hs | hs
    · obtain ⟨⟨x, i⟩, hx, hs⟩ := List.mem_flatMap.mp hs
      have hm := List.fst_mem_of_mem_zipIdx hx
      have hi := List.snd_lt_of_mem_zipIdx hx
      have h1 : sz x < sz e := sz_ops hm
      have h2 : ht x < ht e := ht_ops hm
      have h3 := ops_len_sz e
      simp only [Nat.zero_add] at hi
      refine ih x hm (ho.sub hm) (p := p ++ [i]) (fun j hj => ?_) (by omega) (by simp; omega) s hs
      rw [List.mem_append, List.mem_singleton] at hj
      rcases hj with hj | rfl
      · exact hp j hj
      · omega
    · exact ownS_ok hp (by omega) ho.node hb hs
theorem fines_path {p : Path} {b : Nat} (h : ∀ i ∈ p, i < b) (hb : b ≤ 1000000) : fine (encP p) = true := by
  rw [encP, fine_tup, fines_all, List.all_eq_true]
  intro d hd
  obtain ⟨i, hi, rfl⟩ := List.mem_map.mp hd
  have := h i hi
  rw [fine_int, decide_eq_true_eq]
  refine Nat.lt_of_lt_of_le (show (i : Int).natAbs < 1000000 by omega) (by decide)
theorem fines_names {xs : List Str} (h : ∀ x ∈ xs, isNameB x = true) : fine (encN xs) = true := by
  rw [encN, fine_tup, fines_all, List.all_eq_true]
  intro d hd
  obtain ⟨i, hi, rfl⟩ := List.mem_map.mp hd
  exact name_fine (h i hi)
theorem sum_ones {α : Type} (l : List α) : (l.map fun _ => 1).sum = l.length := by
  induction l with
  | nil => rfl
  | cons a l ih => simp [ih]; omega
theorem nn_path (p : Path) : nn (encP p) = p.length + 1 := by
  rw [encP, nn_tup, nns_sum, List.map_map]
  simp [Function.comp_def, sum_ones]
theorem nn_names (xs : List Str) : nn (encN xs) = xs.length + 1 := by
  rw [encN, nn_tup, nns_sum, List.map_map]
  simp [Function.comp_def, sum_ones]
theorem depth_names (xs : List Str) : (toP (encN xs)).depth = 1 := by
  rw [encN, toP_tuple, toPs_map, List.map_map, PyData.depth]
  have : ∀ xs : List Str, PyData.depthAll (xs.map (toP ∘ Dat.str)) = 0 := by
    intro xs
    induction xs with
    | nil => simp [PyData.depthAll]
    | cons x xs ih => simp [PyData.depthAll, PyData.depth] at ih ⊢; exact ih
  rw [this]
theorem okS_fine {b l : Nat} {s : Stp} (h : OkStp b l s) (hb : b ≤ 1000000) : fine (encS s) = true := by
  have hk : fine (.str s.kind) = true := by
    rcases h.k with e | e | e <;> rw [e] <;> exact name_fine (by decide +kernel)
  simp only [encS, fine_tup, fines_cons, fines_nil, hk, fines_path h.p hb, fines_names h.r, fines_names h.st, Bool.and_self]
theorem okS_nn {b l : Nat} {s : Stp} (h : OkStp b l s) : nn (encS s) ≤ 13 + l := by
  have h1 := h.l
  have h2 := h.rl
  have h3 := h.sl
  simp only [encS, nn_tup, nns_cons, nns_nil, nn_str, nn_path, nn_names]; omega
theorem okS_depth (s : Stp) : (toP (encS s)).depth ≤ 50 := by
  simp only [encS, toP_tuple, toPs, toP_str, toP_encP, PyData.depth, PyData.depthAll, depth_path, depth_names]; omega
theorem rep_steps {bk : Bk} {e : Ex} (hb : ∀ f ∈ bk, OkFn f) (ho : OkE bk e) (hh : ht e ≤ 20) (hz : sz e ≤ 200) (more : List Dat) (hm : more = [] ∨ more = [.none]) : OkRep ((stepsE bk [] e).map encS ++ more) := by
  have hs := stepsE_ok hb ho (p := []) (b := 200) (l := 20) (by simp) hz (by simpa using hh)
  have hl := stepsE_len bk [] e
  have hc : cleans ((stepsE bk [] e).map encS) = true := by rw [cleans_all]; simp
  have hf : fines ((stepsE bk [] e).map encS) = true := by
    rw [fines_all, List.all_eq_true]
    intro d hd
    obtain ⟨s, h1, rfl⟩ := List.mem_map.mp hd
    exact okS_fine (hs s h1) (by omega)
  have hn : nns ((stepsE bk [] e).map encS) ≤ 33 * (stepsE bk [] e).length := by
    have := nns_le (xs := (stepsE bk [] e).map encS) (b := 33) fun d hd => by
      obtain ⟨s, h1, rfl⟩ := List.mem_map.mp hd
      exact okS_nn (hs s h1)
    simpa using this
  have hd : ∀ x ∈ (stepsE bk [] e).map encS, (toP x).depth ≤ 50 := fun d hd => by
    obtain ⟨s, h1, rfl⟩ := List.mem_map.mp hd
    exact okS_depth s
  rcases hm with rfl | rfl
  · rw [List.append_nil]
    exact ⟨hc, hf, by omega, hd⟩
  · refine ⟨by rw [cleans_append, hc]; simp, by rw [fines_all, List.all_append, ← fines_all, hf]; simp, ?_, fun x hx => ?_⟩
    · rw [nns_sum, List.map_append, List.sum_append, ← nns_sum]; simp; omega
    · rw [List.mem_append, List.mem_singleton] at hx
      rcases hx with hx | rfl
      · exact hd x hx
      · simp [PyData.depth]
/-! as many owners as steps -/
theorem ownS_n {bk : Bk} {p : Path} {e : Ex} (h : okN bk e) : (ownS bk p e).length = ownN e := by
  cases e <;> simp [ownS, ownN]
  obtain ⟨r, h1, _⟩ := h
  rw [h1]; rfl
theorem owners_len {bk : Bk} {e : Ex} (h : OkE bk e) (p : Path) : ((spots p e).flatMap fun q => List.replicate (ownN q.2) (encP q.1)).length = (stepsE bk p e).length := by
  induction e using Ex.ind generalizing p with
  | h e ih =>
    rw [spots_eq, stepsE_eq, List.flatMap_cons, List.length_append, List.length_replicate, List.length_append, ownS_n h.node]
    have : ∀ (l : List Ex) (k : Nat), (∀ x ∈ l, x ∈ ops e) → (((l.zipIdx k).flatMap fun q => spots (p ++ [q.2]) q.1).flatMap fun q => List.replicate (ownN q.2) (encP q.1)).length = ((l.zipIdx k).flatMap fun q => stepsE bk (p ++ [q.2]) q.1).length := by
      intro l
      induction l with
      | nil => intro k _; simp
      | cons a l ihl =>
        intro k hh
        rw [List.zipIdx_cons, List.flatMap_cons, List.flatMap_append, List.length_append, List.flatMap_cons, List.length_append, ihl _ fun x hx => hh x (List.mem_cons_of_mem _ hx)]
        have := ih a (hh a (List.mem_cons_self ..)) (h.sub (hh a (List.mem_cons_self ..))) (p ++ [k])
        simp only at this ⊢
        rw [this]
    rw [this (ops e) 0 fun x hx => hx]
    simp only
    omega
/-! the law's own steps -/
def Fits (fs : List Fn) (bk : Bk) : Prop := ∀ f r, getB bk f = some r → (fs.filter fun g => decide (g.name = f)) = [r]
theorem fits_sort {fs : List Fn} (h : (fs.map Fn.name).Nodup) : Fits fs (sortB fs) := fun f r hr => by
  rw [getB_sort h] at hr
  obtain ⟨m, rfl⟩ := getB_some hr
  clear hr
  induction fs with
  | nil => cases m
  | cons a fs ih =>
    rw [List.map_cons, List.nodup_cons] at h
    rw [List.filter_cons]
    rcases List.mem_cons.mp m with rfl | m
    · simp only [decide_true, if_true]
      congr 1
      rw [List.filter_eq_nil_iff]
      intro g hg
      simp only [decide_eq_true_eq]
      exact fun e => h.1 (by rw [← e]; exact List.mem_map.mpr ⟨g, hg, rfl⟩)
    · have : a.name ≠ r.name := fun e => h.1 (by rw [e]; exact List.mem_map.mpr ⟨r, m, rfl⟩)
      simp only [this, decide_false, Bool.false_eq_true, if_false]
      exact ih h.2 m
abbrev SLawSteps (n : Nat) (F : Fun) : Prop := ∀ fs bk e p S, ht e < n → p.length + ht e ≤ 1000 → sz e ≤ 10000 → fs.length ≤ 1000 → OkE bk e → Fits fs bk → F [.list (fs.map encRow), enc e, encP p] S = .ok (.list ((stepsE bk p e).map encS)) S
section
variable (Φ : Fe)
theorem ok_law_steps {n : Nat} (hO : SOperands (Φ.call (Str.ofString "_law_operands"))) (ih : SLawSteps n (Φ.call (Str.ofString "_law_steps"))) : SLawSteps (n + 1) (runF Φ f__law_steps) := fun fs bk e p S hn hp hz hfl ho hfit => by
  simp [runF, f__law_steps, ent, hO e]
  generalize hL : mLoop _ _ _ _ _ _ _ _ = r
  obtain ⟨ρ', S', ⟨a, b, acc, rfl, rfl, hacc⟩, rfl⟩ := loop_inv' hL
    (fun i ρ S' => ∃ a b acc, [some (.list (fs.map encRow)), some (enc e), some (encP p), some (.list acc), a, b, none, none] = ρ ∧ S = S' ∧ acc = (((ops e).zipIdx.take i).flatMap fun q => stepsE bk (p ++ [q.2]) q.1).map encS) (fun _ _ _ _ => wat_nil _ _) (fun i x ρ S' hx ⟨a, b, acc, h1, h2, hacc⟩ => by
      subst h1 h2
      obtain ⟨y, hy, rfl⟩ := enumD_get hx
      have hm := mem_get hy
      have hh := ht_ops hm
      have hs := sz_ops hm
      have q := fun S => ih fs bk y (p ++ [i]) S (by omega) (by simp; omega) (by omega) hfl (ho.sub hm) hfit
      have tk : (ops e).zipIdx.take (i + 1) = (ops e).zipIdx.take i ++ [(y, i)] := by
        rw [List.take_succ, List.getElem?_zipIdx, hy]; simp
      have l2 : (((ops e).zipIdx.take (i + 1)).flatMap fun q => stepsE bk (p ++ [q.2]) q.1).length ≤ 2 * sz e := by
        refine Nat.le_trans (flatMap_take_le _ _ _) ?_
        have h1 := stepsE_len bk p e
        rw [stepsE_eq, List.length_append] at h1
        omega
      rw [tk] at l2
      have l3 : acc.length + (stepsE bk (p ++ [i]) y).length ≤ 16777216 := by
        rw [hacc]; simp at l2 ⊢; omega
      refine ⟨_, [some (.list (fs.map encRow)), some (enc e), some (encP p), some (.list (acc ++ (stepsE bk (p ++ [i]) y).map encS)), some (.int i), some (enc y), none, none], S, bindP_two .., ?_, _, _, _, rfl, rfl, ?_⟩
      · simp [add_path _ _ p i (by omega), q, l3]
      · rw [hacc, tk]; simp) ⟨none, none, _, rfl, rfl, by simp⟩
  rw [enumE_len, List.take_of_length_le (by simp)] at hacc
  have l1 := stepsE_len bk p e
  rw [stepsE_eq, List.length_append] at l1
  have l2 := ownS_len bk p e
  have la : acc.length ≤ 20000 := by rw [hacc, List.length_map]; omega
  have la1 : acc.length ≤ 16777216 := by omega
  have la2 : acc.length + 1 ≤ 16777216 := by omega
  have la3 : acc.length + 1 + 1 ≤ 16777216 := by omega
  have hf : frees acc = true := by rw [hacc, frees_all]; simp
  rw [stepsE_eq, List.map_append, ← hacc]
  cases e
  case call f as =>
    obtain ⟨r, h1, h2⟩ := ho.node
    have ff := hfit f r h1
    simp [enc, isTy, inSeq]
    rw [lc_map (fun g => encS ⟨Str.ofString "call", p, g.reads, g.stores⟩) (fun g => decide (g.name = f)) (by simp; omega) (fun y hy => ⟨_, bindP_nm .., by simp [wipeE, encRow], fun _ => by simp [wipeE, encRow, encS]⟩) (wat_nil _ _)]
    rw [ff]
    simp [la2, ownS, h1]
    rw [fin_self (by simp [hf])]
  all_goals
    simp [enc, isTy, inSeq, la1, la2, la3, ownS, encS, encN]
    rw [fin_self (by simp [hf])]
def swapF (f : Fn) : Fn := ⟨f.name, f.ar, f.stores, f.reads⟩
theorem ok_exchanged (fs : List Fn) (S : Sto) (h : fs.length ≤ 1000) : runF Φ f__law_exchanged [.list (fs.map encRow)] S = .ok (.list ((fs.map swapF).map encRow)) S := by
  have l1 : fs.length ≤ 16777216 := by omega
  simp [runF, f__law_exchanged, ent]
  rw [lc_all (fun f => encRow (swapF f)) (by simp; omega) (fun y hy => ⟨_, bindP_nm .., by simp, by simp [wipeE, encRow, swapF]⟩) (wat_nil _ _)]
  simp [l1]
  rw [fin_self (by simp [frees_all])]
  simp [Function.comp_def]
end
end PL

set_option Elab.async false
set_option linter.all false
set_option maxRecDepth 100000
set_option autoImplicit false
set_option maxHeartbeats 4000000
namespace PL
open PySem L2
/-! ### k13 -/
abbrev SBag (B : BagI) (F : Fun) : Prop := ∀ (ns : List Int) (i : Nat) S, i ≤ 10 → ∃ x, F [.list (ns.map .int), .int i] S = .ok (.own S.length) (S ++ [x]) ∧ B.P 0 x
theorem ite_int (c : Prop) [Decidable c] (x y : Int) (S : Sto) : (if c then Res.ok (Dat.int x) S else Res.ok (Dat.int y) S) = .ok (.int (if c then x else y)) S := by split <;> rfl
section
variable (Φ : Fe)
theorem ok_bagA : SBag bagA (runF Φ f__law_bag) := fun ns i S hi => by
  have main : ∀ cell : Int, ∃ a s : Int, (if (1000000000000000000 : Int) ≤ (if cell < 0 then -cell else cell) then (if cell < 0 then -cell else cell) else 0) = a ∧ (cell % 2305843009213693951 + 7919 * i + 8070) * 16807 % 2305843009213693951 = s ∧ 0 ≤ a ∧ 0 ≤ s ∧ s < 2305843009213693951 ∧ CMulW (cell % 2305843009213693951 + 7919 * i + 8070) 16807 := by
    intro cell
    refine ⟨_, _, rfl, rfl, ?_, Int.emod_nonneg _ (by omega), Int.emod_lt_of_pos _ (by omega), ?_⟩
    · split <;> (try split) <;> omega
    · have h1 : 0 ≤ cell % 2305843009213693951 := Int.emod_nonneg _ (by omega)
      have h2 : cell % 2305843009213693951 < 2305843009213693951 := Int.emod_lt_of_pos _ (by omega)
      have h3 : (cell % 2305843009213693951 + 7919 * i + 8070).natAbs.log2 < 100 := log_lt (by omega) (by omega)
      have h4 : (16807 : Int).natAbs.log2 < 100 := by decide
      unfold CMulW; omega
  have c1 : CMulW 7919 (i : Int) := by
    have h3 : ((i : Int)).natAbs.log2 < 100 := log_lt (by omega) (by omega)
    have h4 : (7919 : Int).natAbs.log2 < 100 := by decide
    unfold CMulW; omega
  have p1 : CPow 10 18 := ⟨by omega, by omega, by decide⟩
  by_cases h : i < ns.length
  · obtain ⟨a, s, e1, e2, a0, s0, s1, c2⟩ := main ns[i]
    refine ⟨.lst [.int a, .int s, .int 0], ?_, a, s, 0, rfl, a0, s0, s1, by omega, by omega⟩
    have hi' : (i : Int) < ns.length := by omega
    have ha : atI (ns.map Dat.int) (i : Int) = some (.int ns[i]) := by rw [atI_nat (by simpa using h)]; simp
    simp [runF, f__law_bag, ent, hi', ha, okI_pos p1, okI_pos c1, okI_pos c2, e2]
    rw [ite_int, e1]
    simp [okI_pos c1, okI_pos c2, e2]
  · obtain ⟨a, s, e1, e2, a0, s0, s1, c2⟩ := main 0
    refine ⟨.lst [.int a, .int s, .int 0], ?_, a, s, 0, rfl, a0, s0, s1, by omega, by omega⟩
    have hi' : ¬ (i : Int) < ns.length := by omega
    simp at e1 e2 c2
    simp [runF, f__law_bag, ent, hi', okI_pos p1, okI_pos c1, okI_pos c2, e2, ← e1]
theorem ok_steps_fn {n : Nat} (hS : ∀ (bk : Bk) (e : Ex) (p : Path) (S : Sto), ht e < n → p.length + ht e ≤ 1000 → sz e ≤ 10000 → OkE bk e → ∃ c, Φ.call (Str.ofString "steps_in!") [encB bk, enc e, encP p] S = .ok (.own (S.length + 1)) (S ++ [c, .lst ((stepsE bk p e).map encS)])) (bk : Bk) (e : Ex) (pts : Dat) (S : Sto) (hn : ht e < n) (ho : OkT bk e) :
    ∃ c, runF Φ f_steps [encT bk e pts] S = .ok (.own (S.length + 1)) (S ++ [c, .lst ((stepsE bk [] e).map encS)]) := by
  have h1 := ho.ht
  have h2 := ho.sz
  obtain ⟨c, e1⟩ := hS bk e [] S hn (by simp; omega) (by omega) ho.ok
  refine ⟨c, ?_⟩
  simp [runF, f_steps, ent, encT, encP_nil, e1]
end
end PL

set_option Elab.async false
set_option linter.all false
set_option maxRecDepth 100000
set_option autoImplicit false
set_option maxHeartbeats 4000000
namespace PL
open PySem L2
theorem OkE.mono {bk bk' : Bk} (h : ∀ f r, getB bk f = some r → ∃ r', getB bk' f = some r' ∧ r'.ar = r.ar) {e : Ex} (ho : OkE bk e) : OkE bk' e := by
  induction e using Ex.ind with
  | h e ih =>
    refine .mk ?_ fun x hx => ih x hx (ho.sub hx)
    have hn := ho.node
    cases e
    case call f as =>
      obtain ⟨r, h1, h2⟩ := hn
      obtain ⟨r', h3, h4⟩ := h f r h1
      exact ⟨r', h3, by rw [h4, h2]⟩
    all_goals exact hn
theorem getB_map {fs : List Fn} {g : Fn → Fn} (hg : ∀ f, (g f).name = f.name) (n : Str) : getB (fs.map g) n = (getB fs n).map g := by
  induction fs with
  | nil => rfl
  | cons a fs ih =>
    rw [List.map_cons, getB, List.find?_cons, hg, getB, List.find?_cons]
    by_cases h : a.name = n
    · simp [h]
    · simp only [h, decide_false]; exact ih
theorem swap_names (fs : List Fn) : (fs.map swapF).map Fn.name = fs.map Fn.name := by simp [Function.comp_def, swapF]
/-- what k13's functions do -/
structure K13F (B : BagI) (n : Nat) (Φ : Fe) : Prop where
  bag : SBag B (Φ.call (Str.ofString "_law_bag"))
  take : STk B (Φ.call (Str.ofString "_law_take"))
  kit : SKit B (Φ.call (Str.ofString "_law_kit"))
  book : SBook (Φ.call (Str.ofString "_law_book"))
  root : SRoot B (Φ.call (Str.ofString "_law_root"))
  pts : SPoints B n (Φ.call (Str.ofString "_law_points"))
  mkT : SMakeT n (Φ.make (Str.ofString "Task") (Str.ofString "Task.__init__"))
  ls : SLawSteps n (Φ.call (Str.ofString "_law_steps"))
  st : ∀ (bk : Bk) (e : Ex) (pts : Dat) (S : Sto), ht e < n → OkT bk e → ∃ c, Φ.call (Str.ofString "steps") [encT bk e pts] S = .ok (.own (S.length + 1)) (S ++ [c, .lst ((stepsE bk [] e).map encS)])
  len : ∀ (bk : Bk) (e : Ex) (pts : Dat) (S : Sto), Φ.call (Str.ofString "Task.__len__") [encT bk e pts] S = .ok (.int (owners e).length) S
  ex : ∀ (fs : List Fn) (S : Sto), fs.length ≤ 1000 → Φ.call (Str.ofString "_law_exchanged") [.list (fs.map encRow)] S = .ok (.list ((fs.map swapF).map encRow)) S
@[simp] theorem isInst_encT (S : Sto) (bk : Bk) (e : Ex) (pts : Dat) : isInst S (encT bk e pts) (Str.ofString "Task") = true := by simp [encT]
theorem isTy_own_list {ct : CT} {S : Sto} {k : Nat} {xs : List Dat} (h : S[k]? = some (.lst xs)) : isTy ct S (.own k) .list = some true := by
  unfold isTy
  rw [look_own h, cellD_lst]
theorem append_own {S : Sto} {k : Nat} {xs : List Dat} (h : S[k]? = some (.lst xs)) (l : xs.length < 16777216) (y : Dat) : bmT .append S (.own k) = true ∧ bmD .append S (.own k) [y] = some (.none, S.set k (.lst (xs ++ [y]))) := by
  constructor
  · unfold bmT
    rw [look_own h, cellD_lst]
  · simp [bmD, appendD, ownL, h, l]
def k13In : Ss := match f_law.body with
  | .cons (.for_ _ _ (.cons _ (.cons (.for_ _ _ b _) _)) _) _ => b
  | _ => .nil
section
variable (Φ : Fe) {B : BagI}
theorem k13_turn {n : Nat} (h4 : 4 < n) (H : K13F B n Φ) {S : Sto} {kb c : Nat} (hb : Bag B kb c S) (hc : c + 3000 < 1000000000) (sc at_ tn r4 r5 r6 r7 r8 r9 r10 r11 r12 : Option Dat) :
    ∃ S' q4 q5 q6 q7 q8 q9 q10 q11 q12, evSs Φ k13In [sc, at_, some (.own kb), tn, r4, r5, r6, r7, r8, r9, r10, r11, r12] S = .nx [sc, at_, some (.own kb), tn, q4, q5, q6, q7, q8, q9, q10, q11, q12] S' ∧ Bag B kb (c + 3000) S' := by
  obtain ⟨k, S1, e1, hk, hg, d1⟩ := H.kit S kb c true hb (by omega)
  have fl := hk.flen
  have fnd := hk.fnd
  generalize hbk : sortB k.fs = bk
  have e2 : Φ.call (Str.ofString "_law_book") [.list (k.fs.map encRow)] S1 = .ok (encB bk) S1 := by rw [← hbk]; exact H.book k.fs S1 fnd fl hk.fok
  obtain ⟨r, S2, e3, r0, r1, d2⟩ := H.take S1 kb _ 17 d1.bag (by omega) (by omega) (by omega)
  obtain ⟨e, S3, e4, oe, he, hz, d3⟩ := H.root S2 kb _ k r d2.bag (by omega) hk
  obtain ⟨pts, S4, e5, op, d4⟩ := H.pts S3 kb _ e (by omega) (by omega) (by omega) d3.bag (by omega)
  have hbkm : ∀ f ∈ bk, OkFn f := fun f hf => hk.fok f ((sortB_perm k.fs).mem_iff.mp (by rw [hbk]; exact hf))
  have oe1 : OkE bk e := oe.mono fun f q hq => ⟨q, by rw [← hbk, getB_sort fnd]; exact hq, rfl⟩
  have ot : OkT bk e := ⟨oe1, by omega, by omega⟩
  have e6 := H.mkT bk e (encPts pts) S4 (by omega) ot (.inr ⟨pts, rfl, op⟩)
  have e7 := H.ls k.fs bk e [] S4 (by omega) (by simp; omega) (by omega) (by omega) oe1 (by rw [← hbk]; exact fits_sort fnd)
  obtain ⟨c1, e8⟩ := H.st bk e (encPts pts) S4 (by omega) ot
  have ol : (owners e).length = ((stepsE bk [] e).map encS).length := by rw [List.length_map, owners, owners_len oe1 []]
  have sl := stepsE_len bk [] e
  have rp := rep_steps hbkm oe1 (by omega) (by omega) [] (.inl rfl)
  have rp2 := rep_steps hbkm oe1 (by omega) (by omega) [.none] (.inr rfl)
  rw [List.append_nil] at rp
  have ll : ((stepsE bk [] e).map encS).length < 16777216 := by rw [List.length_map]; omega
  -- the swapped book
  generalize hbs : sortB (k.fs.map swapF) = bs
  have fnd2 : ((k.fs.map swapF).map Fn.name).Nodup := by rw [swap_names]; exact fnd
  have fok2 : ∀ f ∈ k.fs.map swapF, OkFn f := fun f hf => by
    obtain ⟨g, hg, rfl⟩ := List.mem_map.mp hf
    have := hk.fok g hg
    exact ⟨this.nm, this.ar, this.st, this.rd⟩
  have hbsm : ∀ f ∈ bs, OkFn f := fun f hf => fok2 f ((sortB_perm _).mem_iff.mp (by rw [hbs]; exact hf))
  have oe2 : OkE bs e := oe.mono fun f q hq => ⟨swapF q, by rw [← hbs, getB_sort fnd2, getB_map (g := swapF) (fun _ => rfl), hq]; rfl, rfl⟩
  have ot2 : OkT bs e := ⟨oe2, by omega, by omega⟩
  have rp3 := rep_steps hbsm oe2 (by omega) (by omega) [] (.inl rfl)
  rw [List.append_nil] at rp3
  have x1 := fun S => H.ls (k.fs.map swapF) bs e [] S (by omega) (by simp; omega) (by omega) (by simp; omega) oe2 (by rw [← hbs]; exact fits_sort fnd2)
  have x2 : ∀ S, Φ.call (Str.ofString "_law_book") [.list ((k.fs.map swapF).map encRow)] S = .ok (encB bs) S := fun S => by rw [← hbs]; exact H.book _ S fnd2 (by simpa using fl) fok2
  have x3 := fun S => H.mkT bs e (.kt []) S (by omega) ot2 (.inl rfl)
  have x4 := fun S => H.mkT bk e (.kt []) S (by omega) ot (.inl rfl)
  have x5 := fun S => H.ex k.fs S (by omega)
  have l1 := H.len bk e (encPts pts)
  -- stores
  have kbl : kb < S4.length := d4.bag.lt
  have b4 : Bag B kb (c + 3000) S4 := d4.bag.mono (by omega)
  generalize hL : (stepsE bk [] e).map encS = L at *
  generalize hL2 : (stepsE bs [] e).map encS = L2 at *
  generalize h5 : S4 ++ [c1, .lst L] = S5 at e8
  have g5 : S5[S4.length + 1]? = some (.lst L) := by rw [← h5]; simp
  have b5 : Bag B kb (c + 3000) S5 := by rw [← h5]; exact b4.app
  generalize hkf : S4.length + 1 = kf at e8 g5
  have nk : kf ≠ kb := by omega
  obtain ⟨a1, a2⟩ := append_own g5 ll .none
  generalize h6 : S5.set kf (.lst (L ++ [.none])) = S6 at a2
  have g6 : S6[kf]? = some (.lst (L ++ [.none])) := by rw [← h6]; exact List.getElem?_set_self (List.getElem?_eq_some_iff.mp g5).1
  have b6 : Bag B kb (c + 3000) S6 := by
    obtain ⟨z, z1, z2⟩ := b5
    exact ⟨z, by rw [← h6, List.getElem?_set_ne nk]; exact z1, z2⟩
  obtain ⟨c2, e9⟩ := H.st bk e (encPts pts) S6 (by omega) ot
  rw [hL] at e9
  generalize h7 : S6 ++ [c2, .lst L] = S7 at e9
  have g7 : S7[S6.length + 1]? = some (.lst L) := by rw [← h7]; simp
  have g7f : S7[kf]? = some (.lst (L ++ [.none])) := by rw [← h7, List.getElem?_append_left (List.getElem?_eq_some_iff.mp g6).1]; exact g6
  have b7 : Bag B kb (c + 3000) S7 := by rw [← h7]; exact b6.app
  obtain ⟨c3, e10⟩ := H.st bk e (.kt []) S7 (by omega) ot
  rw [hL] at e10
  generalize h8 : S7 ++ [c3, .lst L] = S8 at e10
  have g8 : S8[S7.length + 1]? = some (.lst L) := by rw [← h8]; simp
  have g8f : S8[kf]? = some (.lst (L ++ [.none])) := by rw [← h8, List.getElem?_append_left (List.getElem?_eq_some_iff.mp g7f).1]; exact g7f
  have b8 : Bag B kb (c + 3000) S8 := by rw [← h8]; exact b7.app
  obtain ⟨c4, e11⟩ := H.st bs e (.kt []) S8 (by omega) ot2
  rw [hL2] at e11
  generalize h9 : S8 ++ [c4, .lst L2] = S9 at e11
  have g9 : S9[S8.length + 1]? = some (.lst L2) := by rw [← h9]; simp
  have g9f : S9[kf]? = some (.lst (L ++ [.none])) := by rw [← h9, List.getElem?_append_left (List.getElem?_eq_some_iff.mp g8f).1]; exact g8f
  have b9 : Bag B kb (c + 3000) S9 := by rw [← h9]; exact b8.app
  have q1 := isTy_own_list (ct := Φ.ct) g5
  have q2 := repr_own g5 rp
  have q3 := fun S => repr_list (S := S) rp
  have q4 := repr_own g6 rp2
  have q5 := repr_own g7 rp
  have q6 := repr_own g8 rp
  have q7 := repr_own g9 rp3
  have q8 := fun S => repr_list (S := S) rp3
  have q9 := repr_own g9f rp2
  have o1 : ((owners e).length : Int) < 9223372036854775808 := by rw [ol]; omega
  refine ⟨S9, some (encK k), some (encT bk e (encPts pts)), some (.list L2), some (encB bk), some (enc e), some (.list L), some (.own kf), some (.str (shownL (L ++ [.none]))), some (.list ((k.fs.map swapF).map encRow)), ?_, b9⟩
  simp only [k13In, f_law]
  have o2 : (L.length : Int) < 9223372036854775808 := by omega
  simp only [List.map_map] at x1 x2 x5
  simp [e1, at_functions, e2, e3, e4, e5, e6, arD, srcs, srcD, encP_nil, e7, e8, q1, q2, q3, l1, insG, ol, o2, bmG, a1, a2, q4, x5, e9, q5, x4, e10, q6, x1, x2, x3, e11, q7, q8, q9]
end
end PL

set_option Elab.async false
set_option linter.all false
set_option maxRecDepth 100000
set_option autoImplicit false
set_option maxHeartbeats 4000000
namespace PL
open PySem L2
theorem rng1_nat {m : Nat} (h : m ≤ 1000000) : rng1D [.int (m : Int)] = some ((List.range m).map fun (i : Nat) => .int (i : Int), []) := by
  rw [rng1D, if_pos (by omega)]; simp
theorem range_get {m i : Nat} {x : Dat} (h : ((List.range m).map fun (i : Nat) => Dat.int (i : Int))[i]? = some x) : i < m ∧ x = .int (i : Int) := by
  rw [List.getElem?_map] at h
  by_cases q : i < m
  · rw [List.getElem?_range q] at h
    cases h
    exact ⟨q, rfl⟩
  · rw [List.getElem?_eq_none_iff.mpr (by simpa using q)] at h; cases h
theorem five {α : Type} {l : List α} (h : l.length = 12) : ∃ a1 a2 a3 a4 a5 a6 a7 a8 a9 a10 a11 a12, l = [a1, a2, a3, a4, a5, a6, a7, a8, a9, a10, a11, a12] := by
  match l, h with
  | [a1, a2, a3, a4, a5, a6, a7, a8, a9, a10, a11, a12], _ => exact ⟨_, _, _, _, _, _, _, _, _, _, _, _, rfl⟩
section
variable (Φ : Fe) {B : BagI}
def k13Out : Ss := match f_law.body with
  | .cons (.for_ _ _ b _) _ => b
  | _ => .nil
theorem k13_cell {n : Nat} (h4 : 4 < n) (H : K13F B n Φ) {ns : List Int} {i : Nat} {S1 : Sto} (hi : i ≤ 10) (a2 a3 a4 a5 a6 a7 a8 a9 a10 a11 a12 : Option Dat) :
    ∃ ρ2 S2, evSs Φ k13Out [some (.list (ns.map .int)), some (.int (i : Int)), a2, a3, a4, a5, a6, a7, a8, a9, a10, a11, a12] S1 = .nx ρ2 S2 ∧ ∃ l : Ro, some (.list (ns.map .int)) :: l = ρ2 ∧ l.length = 12 := by
  obtain ⟨x, e1, hb⟩ := H.bag ns i S1 hi
  simp only [k13Out, f_law]
  have r4 : rng1D [.int 4] = some ((List.range 4).map fun (i : Nat) => .int (i : Int), []) := rng1_nat (m := 4) (by omega)
  simp only [ess_cons, es_set, ee_call, ea_cons, ea_nil, ee_var, List.getElem?_cons_succ, List.getElem?_cons_zero, rv_some, bnd_ok, kea_cons0_ap, kea_cons1_ap, kee_call0_ap, kee_call1_ap, arD_all, apD_some, e1, st_ok', kes_set0_ap, sq_nx', List.set_cons_succ, List.set_cons_zero, es_for, ei_rng1, ee_con, kei_rng10_ap, r4, ofB_some', kes_for0_ap]
  generalize hL : mLoop _ _ _ _ _ _ _ _ = r
  obtain ⟨ρ', S', ⟨q3, q4, q5, q6, q7, q8, q9, q10, q11, q12, rfl, hb2⟩, rfl⟩ := loop_inv' hL (fun j ρ S' => ∃ q3 q4 q5 q6 q7 q8 q9 q10 q11 q12, [some (.list (ns.map .int)), some (.int (i : Int)), some (.own S1.length), q3, q4, q5, q6, q7, q8, q9, q10, q11, q12] = ρ ∧ Bag B S1.length (3000 * j) S') (fun _ _ _ _ => wat_nil _ _) (fun j x ρ S2 hx ⟨q3, q4, q5, q6, q7, q8, q9, q10, q11, q12, h1, hb2⟩ => by
    subst h1
    obtain ⟨hj, rfl⟩ := range_get hx
    obtain ⟨S3, p4, p5, p6, p7, p8, p9, p10, p11, p12, e2, hb3⟩ := k13_turn Φ h4 H hb2 (by omega) (some (.list (ns.map .int))) (some (.int (i : Int))) (some (.int (j : Int))) q4 q5 q6 q7 q8 q9 q10 q11 q12
    exact ⟨_, _, S3, bindP_nm .., e2, _, _, _, _, _, _, _, _, _, _, rfl, hb3⟩) ⟨a3, a4, a5, a6, a7, a8, a9, a10, a11, a12, rfl, x, by simp, hb⟩
  refine ⟨_, S', by rw [ess_nil, sq_nx', ess_nil], _, rfl, rfl⟩
theorem k13_law {n : Nat} (h4 : 4 < n) (H : K13F B n Φ) (ns : List Int) : ∃ S', runF Φ f_law [.list (ns.map .int)] [] = .ok (.bool true) S' := by
  obtain ⟨m, hm, hv⟩ : ∃ m : Nat, m ≤ 5 ∧ (if (2 : Int) < (if (ns.length : Int) < 5 then (ns.length : Int) else 5) then (if (ns.length : Int) < 5 then (ns.length : Int) else 5) else 2) = (m : Int) := by
    by_cases h1 : (ns.length : Int) < 5
    · by_cases h2 : (2 : Int) < ns.length
      · exact ⟨ns.length, by omega, by simp [h1, h2]⟩
      · exact ⟨2, by omega, by simp [h1, h2]⟩
    · exact ⟨5, by omega, by simp [h1]⟩
  simp [runF, f_law, ent, hv, rng1_nat (show m ≤ 1000000 by omega)]
  generalize hL : mLoop _ _ _ _ _ _ _ _ = r
  obtain ⟨ρ', S', ⟨l, rfl, hl⟩, rfl⟩ := loop_inv' hL (fun i ρ S' => ∃ l : Ro, some (.list (ns.map .int)) :: l = ρ ∧ l.length = 12) (fun _ _ _ _ => wat_nil _ _) (fun i x ρ S1 hx ⟨l, h1, hl⟩ => by
    subst h1
    obtain ⟨hi, rfl⟩ := range_get hx
    obtain ⟨a1, a2, a3, a4, a5, a6, a7, a8, a9, a10, a11, a12, rfl⟩ := five hl
    obtain ⟨ρ2, S2, e2, l2, h2, h3⟩ := k13_cell Φ h4 H (ns := ns) (i := i) (S1 := S1) (by omega) a2 a3 a4 a5 a6 a7 a8 a9 a10 a11 a12
    exact ⟨_, ρ2, S2, bindP_nm .., e2, l2, h2, h3⟩) ⟨List.replicate 12 none, by simp, by simp⟩
  refine ⟨S'.take 0, ?_⟩
  simp
  rw [fin_free (ks := []) (by simp) ⟨by simp, fun j h => by simp at h⟩]; rfl
end
end PL

set_option Elab.async false
set_option linter.all false
set_option maxRecDepth 100000
set_option autoImplicit false
set_option maxHeartbeats 4000000
namespace PL
open PySem L2
/-! ### by levels -/
structure Tb (T : Nat → Str → Fun) (Φ : Nat → Fe) (ct : CT) : Prop where
  call : ∀ n k, (Φ n).call k = T n k
  make : ∀ n C k, (Φ n).make C k = runMk (T n k) true C
  cts : ∀ n, (Φ n).ct = ct
abbrev Is (T : Nat → Str → Fun) (Φ : Nat → Fe) (k : String) (f : Fd) : Prop := ∀ n, T (n + 1) (Str.ofString k) = runF (Φ n) f
/-- the functions of tasks -/
structure TabT (T : Nat → Str → Fun) (Φ : Nat → Fe) (ct : CT) : Prop extends Tb T Φ ct where
  f1 : Is T Φ "is_integer" f_is_integer
  f2 : Is T Φ "is_name" f_is_name
  f3 : Is T Φ "operands" f_operands
  f4 : Is T Φ "is_open" f_is_open
  f5 : Is T Φ "Book.__contains__" f_Book___contains__
  f6 : Is T Φ "Book.__getitem__" f_Book___getitem__
  f7 : Is T Φ "are_places" f_are_places
  f8 : Is T Φ "is_formed" f_is_formed
  f9 : Is T Φ "first_wrong" f_first_wrong
  f10 : Is T Φ "spots_in" f_spots_in
  f11 : Is T Φ "own_steps_of" f_own_steps_of
  f12 : Is T Φ "is_path" f_is_path
  f13 : Is T Φ "Task.has" f_Task_has
  f14 : Is T Φ "Task.are_points" f_Task_are_points
  f15 : Is T Φ "Function.__init__" f_Function___init__
  f16 : Is T Φ "Book.__init__" f_Book___init__
  f17 : Is T Φ "Task.__init__" f_Task___init__
  cF : CtF ct
  cT : CtT ct
section
variable {T : Nat → Str → Fun} {Φ : Nat → Fe} {ct : CT} (H : TabT T Φ ct)
include H
theorem TabT.integer (n : Nat) : SIsInteger (T (n + 1) (Str.ofString "is_integer")) := by rw [H.f1]; exact ok_is_integer _
theorem TabT.name (n : Nat) : SIsName (T (n + 1) (Str.ofString "is_name")) := by rw [H.f2]; exact ok_is_name _
theorem TabT.operands (n : Nat) : SOperands (T (n + 1) (Str.ofString "operands")) := by rw [H.f3]; exact ok_operands _
theorem TabT.isOpen (n : Nat) : SIsOpen (T (n + 1) (Str.ofString "is_open")) := by rw [H.f4]; exact ok_is_open _
theorem TabT.contains (n : Nat) : SContains (T (n + 1) (Str.ofString "Book.__contains__")) := by rw [H.f5]; exact fun bk f S => run_contains _ S bk f
theorem TabT.getitem (n : Nat) : SGetitem (T (n + 2) (Str.ofString "Book.__getitem__")) := by
  rw [H.f6]
  exact fun bk f r S h => run_getitem _ S (by rw [H.call]; exact H.contains n) bk f r h
theorem TabT.places (n : Nat) : SPlaces (T (n + 2) (Str.ofString "are_places")) := by
  rw [H.f7]
  exact ok_are_places _ (by rw [H.call]; exact H.name n)
theorem TabT.formed (n : Nat) : SFormed (T (n + 3) (Str.ofString "is_formed")) := by
  rw [H.f8]
  exact ok_formed _ (by rw [H.call]; exact H.integer _) (by rw [H.call]; exact H.name _) (by rw [H.call]; exact H.contains _) (by rw [H.call]; exact H.getitem _)
theorem TabT.firstWrong : ∀ n : Nat, SFirstWrong n (T (n + 3) (Str.ofString "first_wrong"))
  | 0 => fun bk e p S h => absurd h (Nat.not_lt_zero _)
  | n + 1 => by
    rw [H.f9]
    exact ok_first_wrong _ (by rw [H.call]; exact H.formed _) (by rw [H.call]; exact H.operands _) (by rw [H.call]; exact TabT.firstWrong n)
theorem TabT.spots : ∀ n : Nat, SSpots n (T (n + 1) (Str.ofString "spots_in"))
  | 0 => fun e p S h => absurd h (Nat.not_lt_zero _)
  | n + 1 => by
    rw [H.f10]
    exact ok_spots _ (by rw [H.call]; exact H.operands _) (by rw [H.call]; exact TabT.spots n)
theorem TabT.ownN (n : Nat) : SOwnN (T (n + 1) (Str.ofString "own_steps_of")) := by rw [H.f11]; exact ok_own_steps_of _
theorem TabT.isPath (n : Nat) (p : Path) (S : Sto) (h : p.length ≤ 1000) : T (n + 2) (Str.ofString "is_path") [encP p] S = .ok (.bool true) S := by
  rw [H.f12]
  exact run_is_path _ S (by rw [H.call]; exact H.integer n) p h
theorem TabT.has (n : Nat) : SHas (T (n + 3) (Str.ofString "Task.has")) := by
  rw [H.f13]
  exact fun x e S p hx hp => run_has _ (by rw [H.call]; exact H.isPath n) x e S hx p hp
theorem TabT.arePts (n : Nat) : SArePts (T (n + 4) (Str.ofString "Task.are_points")) := by
  rw [H.f14]
  exact ok_are_points _ (by rw [H.call]; exact H.has n) (by rw [H.call]; exact H.isOpen _)
theorem TabT.mkF (n : Nat) : SMakeF ((Φ (n + 3)).make (Str.ofString "Function") (Str.ofString "Function.__init__")) := by
  rw [H.make, H.f15]
  exact mk_function _ (by rw [H.cts]; exact H.cF) (by rw [H.call]; exact H.integer _) (by rw [H.call]; exact H.name _) (by rw [H.call]; exact H.places _)
theorem TabT.mkB (n : Nat) : SMakeB ((Φ (n + 1)).make (Str.ofString "Book") (Str.ofString "Book.__init__")) := by
  rw [H.make, H.f16]
  exact mk_book _ (by rw [H.cts]; exact H.cF)
theorem TabT.mkT (n : Nat) : SMakeT n ((Φ (n + 5)).make (Str.ofString "Task") (Str.ofString "Task.__init__")) := by
  rw [H.make, H.f17]
  refine mk_task _ (by rw [H.cts]; exact H.cT) (by rw [H.call]; exact fun bk e p S h => TabT.firstWrong H (n + 1) bk e p S (by omega)) (by rw [H.call]; exact fun e p S h => TabT.spots H (n + 3) e p S (by omega)) (by rw [H.call]; exact H.arePts n) (by rw [H.call, H.f14]; exact fun x S => run_are_points_kt _ x S) (by rw [H.call]; exact H.ownN _)
end
/-- the draws, first kind -/
structure TabA (T : Nat → Str → Fun) (Φ : Nat → Fe) (ct : CT) : Prop extends TabT T Φ ct where
  g1 : Is T Φ "_law_take" f__law_take
  g2 : Is T Φ "_law_of" f__law_of
  g3 : Is T Φ "_law_some" f__law_some
  g4 : Is T Φ "_law_kit" f__law_kit
  g5 : Is T Φ "_law_book" f__law_book
  g6 : Is T Φ "_law_leaf" f__law_leaf
  g7 : Is T Φ "_law_guard" f__law_guard
  g8 : Is T Φ "_law_expr" f__law_expr
  g9 : Is T Φ "_law_root" f__law_root
  g10 : Is T Φ "_law_operands" f__law_operands
  g11 : Is T Φ "_law_nodes" f__law_nodes
  g12 : Is T Φ "_law_open" f__law_open
  g13 : Is T Φ "_law_points" f__law_points
section
variable {T : Nat → Str → Fun} {Φ : Nat → Fe} {ct : CT} (H : TabA T Φ ct)
include H
theorem TabA.take (n : Nat) : STk bagA (T (n + 1) (Str.ofString "_law_take")) := by rw [H.g1]; exact (ok_takeA _).tk
theorem TabA.of (n : Nat) : SOf bagA (T (n + 2) (Str.ofString "_law_of")) := by rw [H.g2]; exact ok_of _ (by rw [H.call]; exact H.take n)
theorem TabA.some (n : Nat) : SSome bagA (T (n + 2) (Str.ofString "_law_some")) := by rw [H.g3]; exact ok_some _ (by rw [H.call]; exact H.take n)
theorem TabA.kit (n : Nat) : SKit bagA (T (n + 3) (Str.ofString "_law_kit")) := by
  rw [H.g4]
  exact ok_kit _ (by rw [H.call]; exact H.take _) (by rw [H.call]; exact H.of _) (by rw [H.call]; exact H.some _)
theorem TabA.book (n : Nat) : SBook (T (n + 4) (Str.ofString "_law_book")) := by
  rw [H.g5]
  exact ok_book _ (H.mkF n) (H.mkB (n + 2))
theorem TabA.leaf (n : Nat) : SLeaf bagA (T (n + 3) (Str.ofString "_law_leaf")) := by
  rw [H.g6]
  exact ok_leaf _ (by rw [H.call]; exact H.take _) (by rw [H.call]; exact H.of _)
theorem TabA.exprs : ∀ n : Nat, SExpr bagA n (T n (Str.ofString "_law_expr")) ∧ SGuard bagA n (T n (Str.ofString "_law_guard"))
  | 0 => ⟨fun S kb kl c k d h => absurd h (by omega), fun S kb kl c k d h => absurd h (by omega)⟩
  | n + 1 => by
    have ih := TabA.exprs n
    by_cases h3 : n < 3
    · exact ⟨fun S kb kl c k d h => absurd h (by omega), fun S kb kl c k d h => absurd h (by omega)⟩
    · obtain ⟨m, rfl⟩ : ∃ m, n = m + 3 := ⟨n - 3, by omega⟩
      constructor
      · rw [H.g8]
        exact ok_expr _ (by rw [H.call]; exact H.take _) (by rw [H.call]; exact H.of _) (by rw [H.call]; exact H.leaf _) (by rw [H.call]; exact ih.2) (by rw [H.call]; exact ih.1)
      · rw [H.g7]
        exact ok_guard _ (by rw [H.call]; exact H.of _) (by rw [H.call]; exact ih.1)
theorem TabA.root (n : Nat) : SRoot bagA (T (n + 13) (Str.ofString "_law_root")) := by
  rw [H.g9]
  exact ok_root _ (n := n + 12) (by omega) (by rw [H.call]; exact H.take _) (by rw [H.call]; exact H.of _) (by rw [H.call]; exact (H.exprs _).1)
theorem TabA.lawOps (n : Nat) : SOperands (T (n + 1) (Str.ofString "_law_operands")) := by rw [H.g10]; exact ok_law_operands _
theorem TabA.nodes : ∀ n : Nat, SSpots n (T (n + 1) (Str.ofString "_law_nodes"))
  | 0 => fun e p S h => absurd h (Nat.not_lt_zero _)
  | n + 1 => by
    rw [H.g11]
    exact ok_law_nodes _ (by rw [H.call]; exact H.lawOps _) (by rw [H.call]; exact TabA.nodes n)
theorem TabA.openL (n : Nat) : SOpenL n (T (n + 2) (Str.ofString "_law_open")) := by
  rw [H.g12]
  exact ok_law_open _ (by rw [H.call]; exact H.nodes n)
theorem TabA.points (n : Nat) : SPoints bagA n (T (n + 3) (Str.ofString "_law_points")) := by
  rw [H.g13]
  exact ok_points _ (by rw [H.call]; exact H.take _) (by rw [H.call]; exact H.openL n)
end
/-- the steps -/
structure TabS (T : Nat → Str → Fun) (Φ : Nat → Fe) (ct : CT) : Prop extends TabT T Φ ct where
  s1 : Is T Φ "own_steps" f_own_steps
  s2 : Is T Φ "steps_in" f_steps_in
section
variable {T : Nat → Str → Fun} {Φ : Nat → Fe} {ct : CT} (H : TabS T Φ ct)
include H
theorem TabS.own (n : Nat) : SOwn (T (n + 3) (Str.ofString "own_steps")) := by
  rw [H.s1]
  exact ok_own_steps _ (by rw [H.call]; exact H.getitem _)
theorem TabS.steps : ∀ n : Nat, SSteps n (T (n + 3) (Str.ofString "steps_in"))
  | 0 => fun bk e p S h => absurd h (Nat.not_lt_zero _)
  | n + 1 => by
    rw [H.s2]
    exact ok_steps_in _ (by rw [H.call]; exact H.operands _) (by rw [H.call]; exact H.own _) (by rw [H.call]; exact TabS.steps n)
end
end PL

set_option Elab.async false
set_option linter.all false
set_option maxRecDepth 100000
set_option maxHeartbeats 0
namespace K13
open PySem PySem.Spec PyProof.Rows L2 PL He
def topS (i : Nat) : Stmt := PySem.Challenge.pw_ordersopen_k13_steps_listed.main.body.getD i (.Pass ⟨0, 0, 0, 0⟩)
def clsS (i j : Nat) : Stmt := match topS i with
  | .ClassDef (body := body) .. => body.getD j (.Pass ⟨0, 0, 0, 0⟩)
  | s => s
def e_law : Ent := ⟨(Str.ofString "law"), ⟨((Str.ofString "law"), none), (Str.ofString "law"), (Str.ofString "law"), defArgs (topS 62), defBody (topS 62), defScope (topS 62), [], []⟩, [(Str.ofString "_law_script"), (Str.ofString "_law_at"), (Str.ofString "_law_bag_here"), (Str.ofString "_law_turn"), (Str.ofString "_law_kit_here"), (Str.ofString "_law_task"), (Str.ofString "_law_more"), (Str.ofString "_law_book_here"), (Str.ofString "_law_expr_here"), (Str.ofString "_law_due"), (Str.ofString "_law_found"), (Str.ofString "_law_kept"), (Str.ofString "_law_rows")], [(Str.ofString "_law_script")], f_law⟩
def e_Task___init__ : Ent := ⟨(Str.ofString "Task.__init__"), ⟨((Str.ofString "Task"), some (Str.ofString "__init__")), (Str.ofString "__init__"), (Str.ofString "Task.__init__"), defArgs (clsS 44 2), defBody (clsS 44 2), defScope (clsS 44 2), [], [((Str.ofString "points"), .adr (kwdAt ((Str.ofString "Task"), some (Str.ofString "__init__")) (Str.ofString "points")))]⟩, [(Str.ofString "self"), (Str.ofString "book"), (Str.ofString "expression"), (Str.ofString "points"), (Str.ofString "wrong"), (Str.ofString "path"), (Str.ofString "turn"), (Str.ofString "node")], [(Str.ofString "self"), (Str.ofString "book"), (Str.ofString "expression"), (Str.ofString "points")], f_Task___init__⟩
def e_Task___len__ : Ent := ⟨(Str.ofString "Task.__len__"), ⟨((Str.ofString "Task"), some (Str.ofString "__len__")), (Str.ofString "__len__"), (Str.ofString "Task.__len__"), defArgs (clsS 44 11), defBody (clsS 44 11), defScope (clsS 44 11), [], []⟩, [(Str.ofString "self")], [(Str.ofString "self")], f_Task___len__⟩
def e__law_bag : Ent := ⟨(Str.ofString "_law_bag"), ⟨((Str.ofString "_law_bag"), none), (Str.ofString "_law_bag"), (Str.ofString "_law_bag"), defArgs (topS 46), defBody (topS 46), defScope (topS 46), [], []⟩, [(Str.ofString "_law_script"), (Str.ofString "_law_at"), (Str.ofString "_law_cell"), (Str.ofString "_law_digits")], [(Str.ofString "_law_script"), (Str.ofString "_law_at")], f__law_bag⟩
def e__law_book : Ent := ⟨(Str.ofString "_law_book"), ⟨((Str.ofString "_law_book"), none), (Str.ofString "_law_book"), (Str.ofString "_law_book"), defArgs (topS 51), defBody (topS 51), defScope (topS 51), [], []⟩, [(Str.ofString "_law_functions"), (Str.ofString "_law_made"), (Str.ofString "_law_row")], [(Str.ofString "_law_functions")], f__law_book⟩
def e__law_exchanged : Ent := ⟨(Str.ofString "_law_exchanged"), ⟨((Str.ofString "_law_exchanged"), none), (Str.ofString "_law_exchanged"), (Str.ofString "_law_exchanged"), defArgs (topS 61), defBody (topS 61), defScope (topS 61), [], []⟩, [(Str.ofString "_law_rows"), (Str.ofString "_law_row")], [(Str.ofString "_law_rows")], f__law_exchanged⟩
def e__law_kit : Ent := ⟨(Str.ofString "_law_kit"), ⟨((Str.ofString "_law_kit"), none), (Str.ofString "_law_kit"), (Str.ofString "_law_kit"), defArgs (topS 50), defBody (topS 50), defScope (topS 50), [], []⟩, [(Str.ofString "_law_bag_here"), (Str.ofString "_law_guards"), (Str.ofString "_law_pools"), (Str.ofString "_law_places"), (Str.ofString "_law_names"), (Str.ofString "_law_functions"), (Str.ofString "_law_name")], [(Str.ofString "_law_bag_here"), (Str.ofString "_law_guards")], f__law_kit⟩
def e__law_points : Ent := ⟨(Str.ofString "_law_points"), ⟨((Str.ofString "_law_points"), none), (Str.ofString "_law_points"), (Str.ofString "_law_points"), defArgs (topS 59), defBody (topS 59), defScope (topS 59), [], []⟩, [(Str.ofString "_law_bag_here"), (Str.ofString "_law_expr_here"), (Str.ofString "_law_lot"), (Str.ofString "_law_path")], [(Str.ofString "_law_bag_here"), (Str.ofString "_law_expr_here")], f__law_points⟩
def e__law_root : Ent := ⟨(Str.ofString "_law_root"), ⟨((Str.ofString "_law_root"), none), (Str.ofString "_law_root"), (Str.ofString "_law_root"), defArgs (topS 55), defBody (topS 55), defScope (topS 55), [], []⟩, [(Str.ofString "_law_bag_here"), (Str.ofString "_law_kit_here"), (Str.ofString "_law_most"), (Str.ofString "_law_left"), (Str.ofString "_law_first"), (Str.ofString "_law_second")], [(Str.ofString "_law_bag_here"), (Str.ofString "_law_kit_here"), (Str.ofString "_law_most")], f__law_root⟩
def e__law_steps : Ent := ⟨(Str.ofString "_law_steps"), ⟨((Str.ofString "_law_steps"), none), (Str.ofString "_law_steps"), (Str.ofString "_law_steps"), defArgs (topS 60), defBody (topS 60), defScope (topS 60), [], []⟩, [(Str.ofString "_law_functions"), (Str.ofString "_law_node"), (Str.ofString "_law_path"), (Str.ofString "_law_found"), (Str.ofString "_law_at"), (Str.ofString "_law_one"), (Str.ofString "_law_word"), (Str.ofString "_law_row")], [(Str.ofString "_law_functions"), (Str.ofString "_law_node"), (Str.ofString "_law_path")], f__law_steps⟩
def e__law_take : Ent := ⟨(Str.ofString "_law_take"), ⟨((Str.ofString "_law_take"), none), (Str.ofString "_law_take"), (Str.ofString "_law_take"), defArgs (topS 47), defBody (topS 47), defScope (topS 47), [], []⟩, [(Str.ofString "_law_bag_here"), (Str.ofString "_law_many"), (Str.ofString "_law_digit"), (Str.ofString "_law_mixed")], [(Str.ofString "_law_bag_here"), (Str.ofString "_law_many")], f__law_take⟩
def e_steps : Ent := ⟨(Str.ofString "steps"), ⟨((Str.ofString "steps"), none), (Str.ofString "steps"), (Str.ofString "steps"), defArgs (topS 33), defBody (topS 33), defScope (topS 33), [], []⟩, [(Str.ofString "task")], [(Str.ofString "task")], f_steps⟩
def e_Task_are_points : Ent := ⟨(Str.ofString "Task.are_points"), ⟨((Str.ofString "Task"), some (Str.ofString "are_points")), (Str.ofString "are_points"), (Str.ofString "Task.are_points"), defArgs (clsS 44 3), defBody (clsS 44 3), defScope (clsS 44 3), [], []⟩, [(Str.ofString "self"), (Str.ofString "value"), (Str.ofString "path"), (Str.ofString "one"), (Str.ofString "other")], [(Str.ofString "self"), (Str.ofString "value")], f_Task_are_points⟩
def e_first_wrong : Ent := ⟨(Str.ofString "first_wrong"), ⟨((Str.ofString "first_wrong"), none), (Str.ofString "first_wrong"), (Str.ofString "first_wrong"), defArgs (topS 40), defBody (topS 40), defScope (topS 40), [], []⟩, [(Str.ofString "book"), (Str.ofString "node"), (Str.ofString "path"), (Str.ofString "at"), (Str.ofString "one"), (Str.ofString "found")], [(Str.ofString "book"), (Str.ofString "node"), (Str.ofString "path")], f_first_wrong⟩
def e_own_steps_of : Ent := ⟨(Str.ofString "own_steps_of"), ⟨((Str.ofString "own_steps_of"), none), (Str.ofString "own_steps_of"), (Str.ofString "own_steps_of"), defArgs (topS 42), defBody (topS 42), defScope (topS 42), [], []⟩, [(Str.ofString "node")], [(Str.ofString "node")], f_own_steps_of⟩
def e_spots_in : Ent := ⟨(Str.ofString "spots_in"), ⟨((Str.ofString "spots_in"), none), (Str.ofString "spots_in"), (Str.ofString "spots_in"), defArgs (topS 41), defBody (topS 41), defScope (topS 41), [], []⟩, [(Str.ofString "node"), (Str.ofString "path"), (Str.ofString "found"), (Str.ofString "at"), (Str.ofString "one")], [(Str.ofString "node"), (Str.ofString "path")], f_spots_in⟩
def e_Book___init__ : Ent := ⟨(Str.ofString "Book.__init__"), ⟨((Str.ofString "Book"), some (Str.ofString "__init__")), (Str.ofString "__init__"), (Str.ofString "Book.__init__"), defArgs (clsS 19 1), defBody (clsS 19 1), defScope (clsS 19 1), [], []⟩, [(Str.ofString "self"), (Str.ofString "functions"), (Str.ofString "table"), (Str.ofString "at"), (Str.ofString "one"), (Str.ofString "name")], [(Str.ofString "self"), (Str.ofString "functions")], f_Book___init__⟩
def e_Function___init__ : Ent := ⟨(Str.ofString "Function.__init__"), ⟨((Str.ofString "Function"), some (Str.ofString "__init__")), (Str.ofString "__init__"), (Str.ofString "Function.__init__"), defArgs (clsS 18 0), defBody (clsS 18 0), defScope (clsS 18 0), [.int 0], [((Str.ofString "reads"), .adr (kwdAt ((Str.ofString "Function"), some (Str.ofString "__init__")) (Str.ofString "reads"))), ((Str.ofString "stores"), .adr (kwdAt ((Str.ofString "Function"), some (Str.ofString "__init__")) (Str.ofString "stores")))]⟩, [(Str.ofString "self"), (Str.ofString "name"), (Str.ofString "arguments"), (Str.ofString "reads"), (Str.ofString "stores")], [(Str.ofString "self"), (Str.ofString "name"), (Str.ofString "arguments"), (Str.ofString "reads"), (Str.ofString "stores")], f_Function___init__⟩
def e__law_of : Ent := ⟨(Str.ofString "_law_of"), ⟨((Str.ofString "_law_of"), none), (Str.ofString "_law_of"), (Str.ofString "_law_of"), defArgs (topS 48), defBody (topS 48), defScope (topS 48), [], []⟩, [(Str.ofString "_law_bag_here"), (Str.ofString "_law_items")], [(Str.ofString "_law_bag_here"), (Str.ofString "_law_items")], f__law_of⟩
def e__law_some : Ent := ⟨(Str.ofString "_law_some"), ⟨((Str.ofString "_law_some"), none), (Str.ofString "_law_some"), (Str.ofString "_law_some"), defArgs (topS 49), defBody (topS 49), defScope (topS 49), [], []⟩, [(Str.ofString "_law_bag_here"), (Str.ofString "_law_items"), (Str.ofString "_law_one")], [(Str.ofString "_law_bag_here"), (Str.ofString "_law_items")], f__law_some⟩
def e__law_open : Ent := ⟨(Str.ofString "_law_open"), ⟨((Str.ofString "_law_open"), none), (Str.ofString "_law_open"), (Str.ofString "_law_open"), defArgs (topS 58), defBody (topS 58), defScope (topS 58), [], []⟩, [(Str.ofString "_law_expr_here"), (Str.ofString "_law_some_here"), (Str.ofString "_law_pair"), (Str.ofString "_law_path"), (Str.ofString "_law_node")], [(Str.ofString "_law_expr_here")], f__law_open⟩
def e__law_expr : Ent := ⟨(Str.ofString "_law_expr"), ⟨((Str.ofString "_law_expr"), none), (Str.ofString "_law_expr"), (Str.ofString "_law_expr"), defArgs (topS 54), defBody (topS 54), defScope (topS 54), [], []⟩, [(Str.ofString "_law_bag_here"), (Str.ofString "_law_kit_here"), (Str.ofString "_law_left"), (Str.ofString "_law_depth"), (Str.ofString "_law_way"), (Str.ofString "_law_by"), (Str.ofString "_law_when"), (Str.ofString "_law_one"), (Str.ofString "_law_parts"), (Str.ofString "_law_turn"), (Str.ofString "_law_first"), (Str.ofString "_law_second")], [(Str.ofString "_law_bag_here"), (Str.ofString "_law_kit_here"), (Str.ofString "_law_left"), (Str.ofString "_law_depth")], f__law_expr⟩
def e__law_operands : Ent := ⟨(Str.ofString "_law_operands"), ⟨((Str.ofString "_law_operands"), none), (Str.ofString "_law_operands"), (Str.ofString "_law_operands"), defArgs (topS 56), defBody (topS 56), defScope (topS 56), [], []⟩, [(Str.ofString "_law_node")], [(Str.ofString "_law_node")], f__law_operands⟩
def e_steps_in_R : Ent := ⟨(Str.ofString "steps_in!"), ⟨((Str.ofString "steps_in"), none), (Str.ofString "steps_in"), (Str.ofString "steps_in"), defArgs (topS 32), defBody (topS 32), defScope (topS 32), [], []⟩, [(Str.ofString "book"), (Str.ofString "node"), (Str.ofString "path"), (Str.ofString "found"), (Str.ofString "at"), (Str.ofString "one")], [(Str.ofString "book"), (Str.ofString "node"), (Str.ofString "path")], f_steps_in_R⟩
def e_Task_has : Ent := ⟨(Str.ofString "Task.has"), ⟨((Str.ofString "Task"), some (Str.ofString "has")), (Str.ofString "has"), (Str.ofString "Task.has"), defArgs (clsS 44 4), defBody (clsS 44 4), defScope (clsS 44 4), [], []⟩, [(Str.ofString "self"), (Str.ofString "value")], [(Str.ofString "self"), (Str.ofString "value")], f_Task_has⟩
def e_is_open : Ent := ⟨(Str.ofString "is_open"), ⟨((Str.ofString "is_open"), none), (Str.ofString "is_open"), (Str.ofString "is_open"), defArgs (topS 24), defBody (topS 24), defScope (topS 24), [], []⟩, [(Str.ofString "node")], [(Str.ofString "node")], f_is_open⟩
def e_is_formed : Ent := ⟨(Str.ofString "is_formed"), ⟨((Str.ofString "is_formed"), none), (Str.ofString "is_formed"), (Str.ofString "is_formed"), defArgs (topS 39), defBody (topS 39), defScope (topS 39), [], []⟩, [(Str.ofString "book"), (Str.ofString "node"), (Str.ofString "word"), (Str.ofString "rest"), (Str.ofString "is_by")], [(Str.ofString "book"), (Str.ofString "node")], f_is_formed⟩
def e_operands : Ent := ⟨(Str.ofString "operands"), ⟨((Str.ofString "operands"), none), (Str.ofString "operands"), (Str.ofString "operands"), defArgs (topS 23), defBody (topS 23), defScope (topS 23), [], []⟩, [(Str.ofString "node")], [(Str.ofString "node")], f_operands⟩
def e_are_places : Ent := ⟨(Str.ofString "are_places"), ⟨((Str.ofString "are_places"), none), (Str.ofString "are_places"), (Str.ofString "are_places"), defArgs (topS 17), defBody (topS 17), defScope (topS 17), [], []⟩, [(Str.ofString "value"), (Str.ofString "place"), (Str.ofString "one"), (Str.ofString "other")], [(Str.ofString "value")], f_are_places⟩
def e_is_integer : Ent := ⟨(Str.ofString "is_integer"), ⟨((Str.ofString "is_integer"), none), (Str.ofString "is_integer"), (Str.ofString "is_integer"), defArgs (topS 15), defBody (topS 15), defScope (topS 15), [], []⟩, [(Str.ofString "value")], [(Str.ofString "value")], f_is_integer⟩
def e_is_name : Ent := ⟨(Str.ofString "is_name"), ⟨((Str.ofString "is_name"), none), (Str.ofString "is_name"), (Str.ofString "is_name"), defArgs (topS 16), defBody (topS 16), defScope (topS 16), [], []⟩, [(Str.ofString "value"), (Str.ofString "sign")], [(Str.ofString "value")], f_is_name⟩
def e__law_nodes : Ent := ⟨(Str.ofString "_law_nodes"), ⟨((Str.ofString "_law_nodes"), none), (Str.ofString "_law_nodes"), (Str.ofString "_law_nodes"), defArgs (topS 57), defBody (topS 57), defScope (topS 57), [], []⟩, [(Str.ofString "_law_node"), (Str.ofString "_law_path"), (Str.ofString "_law_found"), (Str.ofString "_law_at"), (Str.ofString "_law_one")], [(Str.ofString "_law_node"), (Str.ofString "_law_path")], f__law_nodes⟩
def e__law_guard : Ent := ⟨(Str.ofString "_law_guard"), ⟨((Str.ofString "_law_guard"), none), (Str.ofString "_law_guard"), (Str.ofString "_law_guard"), defArgs (topS 53), defBody (topS 53), defScope (topS 53), [], []⟩, [(Str.ofString "_law_bag_here"), (Str.ofString "_law_kit_here"), (Str.ofString "_law_left"), (Str.ofString "_law_depth"), (Str.ofString "_law_first"), (Str.ofString "_law_second"), (Str.ofString "_law_word"), (Str.ofString "_law_found")], [(Str.ofString "_law_bag_here"), (Str.ofString "_law_kit_here"), (Str.ofString "_law_left"), (Str.ofString "_law_depth")], f__law_guard⟩
def e__law_leaf : Ent := ⟨(Str.ofString "_law_leaf"), ⟨((Str.ofString "_law_leaf"), none), (Str.ofString "_law_leaf"), (Str.ofString "_law_leaf"), defArgs (topS 52), defBody (topS 52), defScope (topS 52), [], []⟩, [(Str.ofString "_law_bag_here"), (Str.ofString "_law_kit_here"), (Str.ofString "_law_left")], [(Str.ofString "_law_bag_here"), (Str.ofString "_law_kit_here"), (Str.ofString "_law_left")], f__law_leaf⟩
def e_own_steps : Ent := ⟨(Str.ofString "own_steps"), ⟨((Str.ofString "own_steps"), none), (Str.ofString "own_steps"), (Str.ofString "own_steps"), defArgs (topS 31), defBody (topS 31), defScope (topS 31), [], []⟩, [(Str.ofString "book"), (Str.ofString "node"), (Str.ofString "path"), (Str.ofString "word")], [(Str.ofString "book"), (Str.ofString "node"), (Str.ofString "path")], f_own_steps⟩
def e_steps_in : Ent := ⟨(Str.ofString "steps_in"), ⟨((Str.ofString "steps_in"), none), (Str.ofString "steps_in"), (Str.ofString "steps_in"), defArgs (topS 32), defBody (topS 32), defScope (topS 32), [], []⟩, [(Str.ofString "book"), (Str.ofString "node"), (Str.ofString "path"), (Str.ofString "found"), (Str.ofString "at"), (Str.ofString "one")], [(Str.ofString "book"), (Str.ofString "node"), (Str.ofString "path")], f_steps_in⟩
def e_is_path : Ent := ⟨(Str.ofString "is_path"), ⟨((Str.ofString "is_path"), none), (Str.ofString "is_path"), (Str.ofString "is_path"), defArgs (topS 43), defBody (topS 43), defScope (topS 43), [], []⟩, [(Str.ofString "value"), (Str.ofString "one")], [(Str.ofString "value")], f_is_path⟩
def e_Book___contains__ : Ent := ⟨(Str.ofString "Book.__contains__"), ⟨((Str.ofString "Book"), some (Str.ofString "__contains__")), (Str.ofString "__contains__"), (Str.ofString "Book.__contains__"), defArgs (clsS 19 5), defBody (clsS 19 5), defScope (clsS 19 5), [], []⟩, [(Str.ofString "self"), (Str.ofString "name")], [(Str.ofString "self"), (Str.ofString "name")], f_Book___contains__⟩
def e_Book___getitem__ : Ent := ⟨(Str.ofString "Book.__getitem__"), ⟨((Str.ofString "Book"), some (Str.ofString "__getitem__")), (Str.ofString "__getitem__"), (Str.ofString "Book.__getitem__"), defArgs (clsS 19 3), defBody (clsS 19 3), defScope (clsS 19 3), [], []⟩, [(Str.ofString "self"), (Str.ofString "name")], [(Str.ofString "self"), (Str.ofString "name")], f_Book___getitem__⟩
def G : PL.Ctx := ⟨[], [((Str.ofString "OWN_STEPS"), (.kd [((.str (Str.ofString "read")), (.int 1)), ((.str (Str.ofString "store")), (.int 1)), ((.str (Str.ofString "step")), (.int 2)), ((.str (Str.ofString "call")), (.int 1))])), ((Str.ofString "MOST_ARGUMENTS"), (.int 3)), ((Str.ofString "SIGNS"), (.kt [(.str (Str.ofString "+")), (.str (Str.ofString "-")), (.str (Str.ofString "*")), (.str (Str.ofString "<"))])), ((Str.ofString "MOMENTS"), (.kt [(.str (Str.ofString "before")), (.str (Str.ofString "after"))])), ((Str.ofString "SIZES"), (.kd [((.str (Str.ofString "read")), (.int 1)), ((.str (Str.ofString "store")), (.int 2)), ((.str (Str.ofString "step")), (.int 3)), ((.str (Str.ofString "op")), (.int 3)), ((.str (Str.ofString "call")), (.int 2)), ((.str (Str.ofString "then")), (.int 2)), ((.str (Str.ofString "and")), (.int 2)), ((.str (Str.ofString "or")), (.int 2)), ((.str (Str.ofString "choose")), (.int 3))])), ((Str.ofString "MOST_NUMBER"), (.int 999999)), ((Str.ofString "MOST_PLACES"), (.int 4)), ((Str.ofString "LETTERS"), (.str (Str.ofString "abcdefghijklmnopqrstuvwxyz"))), ((Str.ofString "MOST_LETTERS"), (.int 8)), ((Str.ofString "CALL"), (.str (Str.ofString "call"))), ((Str.ofString "STORE"), (.str (Str.ofString "store"))), ((Str.ofString "READ"), (.str (Str.ofString "read")))], [(((Str.ofString "Task"), (Str.ofString "MOST_DEPTH")), (.int 30)), (((Str.ofString "Task"), (Str.ofString "MOST_NODES")), (.int 200)), (((Str.ofString "Book"), (Str.ofString "MOST")), (.int 6))],
  [((Str.ofString "steps"), (Str.ofString "steps"), .all), ((Str.ofString "_law_book"), (Str.ofString "_law_book"), .all), ((Str.ofString "_law_steps"), (Str.ofString "_law_steps"), .all), ((Str.ofString "_law_exchanged"), (Str.ofString "_law_exchanged"), .all), ((Str.ofString "_law_points"), (Str.ofString "_law_points"), .all), ((Str.ofString "_law_root"), (Str.ofString "_law_root"), .all), ((Str.ofString "_law_take"), (Str.ofString "_law_take"), .all), ((Str.ofString "_law_kit"), (Str.ofString "_law_kit"), .all), ((Str.ofString "_law_bag"), (Str.ofString "_law_bag"), .all), ((Str.ofString "own_steps_of"), (Str.ofString "own_steps_of"), .all), ((Str.ofString "spots_in"), (Str.ofString "spots_in"), .all), ((Str.ofString "first_wrong"), (Str.ofString "first_wrong"), .all), ((Str.ofString "_law_some"), (Str.ofString "_law_some"), .all), ((Str.ofString "_law_of"), (Str.ofString "_law_of"), .all), ((Str.ofString "_law_open"), (Str.ofString "_law_open"), .all), ((Str.ofString "_law_expr"), (Str.ofString "_law_expr"), .all), ((Str.ofString "_law_operands"), (Str.ofString "_law_operands"), .all), ((Str.ofString "steps_in!"), (Str.ofString "steps_in"), .all), ((Str.ofString "is_open"), (Str.ofString "is_open"), .all), ((Str.ofString "operands"), (Str.ofString "operands"), .all), ((Str.ofString "is_formed"), (Str.ofString "is_formed"), .all), ((Str.ofString "are_places"), (Str.ofString "are_places"), .all), ((Str.ofString "is_integer"), (Str.ofString "is_integer"), .all), ((Str.ofString "is_name"), (Str.ofString "is_name"), .all), ((Str.ofString "_law_nodes"), (Str.ofString "_law_nodes"), .all), ((Str.ofString "_law_guard"), (Str.ofString "_law_guard"), .all), ((Str.ofString "_law_leaf"), (Str.ofString "_law_leaf"), .all), ((Str.ofString "own_steps"), (Str.ofString "own_steps"), .all), ((Str.ofString "steps_in"), (Str.ofString "steps_in"), .all), ((Str.ofString "is_path"), (Str.ofString "is_path"), .all)],
  [((Str.ofString "Task"), (Str.ofString "Task.__init__"), (.by_ 2 false [] [.p 0, .p 1, .d (.kt [])])), ((Str.ofString "Task"), (Str.ofString "Task.__init__"), (.by_ 2 false [(Str.ofString "points")] [.p 0, .p 1, .k 0])), ((Str.ofString "Book"), (Str.ofString "Book.__init__"), (.by_ 0 true [] [.r 0])), ((Str.ofString "Function"), (Str.ofString "Function.__init__"), (.by_ 2 false [(Str.ofString "reads"), (Str.ofString "stores")] [.p 0, .p 1, .k 0, .k 1]))],
  [((Str.ofString "Task"), (Str.ofString "__len__"), (Str.ofString "Task.__len__"), .all), ((Str.ofString "Task"), (Str.ofString "are_points"), (Str.ofString "Task.are_points"), .all), ((Str.ofString "Task"), (Str.ofString "has"), (Str.ofString "Task.has"), .all), ((Str.ofString "Book"), (Str.ofString "__getitem__"), (Str.ofString "Book.__getitem__"), .all), ((Str.ofString "Book"), (Str.ofString "__contains__"), (Str.ofString "Book.__contains__"), .all)],
  [], [((Str.ofString "Task"), [(Str.ofString "book"), (Str.ofString "expression"), (Str.ofString "table"), (Str.ofString "points"), (Str.ofString "owners")]), ((Str.ofString "Book"), [(Str.ofString "table")]), ((Str.ofString "Function"), [(Str.ofString "name"), (Str.ofString "arguments"), (Str.ofString "reads"), (Str.ofString "stores")])], [(Str.ofString "abs"), (Str.ofString "all"), (Str.ofString "bool"), (Str.ofString "dict"), (Str.ofString "enumerate"), (Str.ofString "int"), (Str.ofString "isinstance"), (Str.ofString "len"), (Str.ofString "list"), (Str.ofString "max"), (Str.ofString "min"), (Str.ofString "range"), (Str.ofString "repr"), (Str.ofString "sorted"), (Str.ofString "str"), (Str.ofString "tuple"), (Str.ofString "zip")]⟩
def P : Prog := ⟨[e_law, e_Task___init__, e_Task___len__, e__law_bag, e__law_book, e__law_exchanged, e__law_kit, e__law_points, e__law_root, e__law_steps, e__law_take, e_steps, e_Task_are_points, e_first_wrong, e_own_steps_of, e_spots_in, e_Book___init__, e_Function___init__, e__law_of, e__law_some, e__law_open, e__law_expr, e__law_operands, e_steps_in_R, e_Task_has, e_is_open, e_is_formed, e_operands, e_are_places, e_is_integer, e_is_name, e__law_nodes, e__law_guard, e__law_leaf, e_own_steps, e_steps_in, e_is_path, e_Book___contains__, e_Book___getitem__], G, fun C => !(([] : List Str).contains C), 1000⟩
theorem chk_ok : ∀ e ∈ P.ents, P.chk e = true := List.all_eq_true.mp (by decide +kernel)
end K13

set_option Elab.async false
set_option linter.all false
set_option maxRecDepth 100000
set_option maxHeartbeats 4000000
namespace K13
open PySem PySem.Spec PyProof.Rows L2 PL He
def arT0 : Ar := .by_ 2 false [] [.p 0, .p 1, .d (.kt [])]
def arT1 : Ar := .by_ 2 false [(Str.ofString "points")] [.p 0, .p 1, .k 0]
def arF : Ar := .by_ 2 false [(Str.ofString "reads"), (Str.ofString "stores")] [.p 0, .p 1, .k 0, .k 1]
def XK (K : PySem.W.Frag) : Bool := (Fa.glo "law").ok K && ktB K (kwdAt (Str.ofString "Task", some (Str.ofString "__init__")) (Str.ofString "points") K) []
def man : List Man := [⟨Str.ofString "Task.__init__", 1, arT0⟩, ⟨Str.ofString "Task.__init__", 1, arT1⟩, ⟨Str.ofString "Function.__init__", 1, arF⟩]
theorem ent_T : P.ent (Str.ofString "Task.__init__") = some e_Task___init__ := by rfl
theorem ent_F : P.ent (Str.ofString "Function.__init__") = some e_Function___init__ := by rfl
theorem man_T0 : ManOk P XK ⟨Str.ofString "Task.__init__", 1, arT0⟩ := by
  intro e he g base fd hx hi
  rw [ent_T] at he
  cases he
  obtain ⟨_, hx⟩ := ba hx
  refine bok_0 (s := [.p 1, .p 2, .dk 0]) hi [(Str.ofString "points", .ref (kwdAt (Str.ofString "Task", some (Str.ofString "__init__")) (Str.ofString "points") g.K))] (fun q hq => hq) (.p (.p (.dk rfl (fun c H => .kt (ktB_ok hx) rfl .nil) .nil))) ?_
  intro D kV doc pm an cdv ct us ws mv r hk l1 l2 l3 hr
  rcases hk with hk | rfl
  · cases hk
  match us, ws, mv, l1, l2, l3, hr with
  | [a, b, c], [], [m], _, _, _, hr =>
    cases hr
    exact ⟨_, _, _, _, _, _, rfl, rfl, rfl⟩
theorem man_T1 : ManOk P XK ⟨Str.ofString "Task.__init__", 1, arT1⟩ := by
  intro e he g base fd hx hi
  rw [ent_T] at he
  cases he
  refine bok_0 (s := [.p 1, .p 2, .k 0]) hi [] (fun q hq => nomatch hq) (.p (.p (.k .nil))) ?_
  intro D kV doc pm an cdv ct us ws mv r hk l1 l2 l3 hr
  match us, ws, mv, l1, l2, l3, hr with
  | [a, b, c], [m], [], _, _, _, hr =>
    cases hr
    exact rfl
theorem man_F : ManOk P XK ⟨Str.ofString "Function.__init__", 1, arF⟩ := by
  intro e he g base fd hx hi
  rw [ent_F] at he
  cases he
  refine bok_1 (s := [.p 1, .p 2, .k 0, .k 1]) hi (by intro z; cases z) [] (fun q hq => nomatch hq) (.p (.p (.k (.k .nil)))) ?_
  intro T D kV doc pm an cdv ct us ws its mv r hk l1 l2 l3 l4 hr
  match us, ws, its, mv, l1, l2, l3, l4, hr with
  | [a, b, c], [m, n], [i], [], _, _, _, _, hr =>
    cases hr
    exact ⟨_, rfl, rfl⟩
theorem man_ok : ∀ m ∈ man, ManOk P XK m := by
  intro m hm
  simp only [man, List.mem_cons, List.not_mem_nil, or_false] at hm
  rcases hm with rfl | rfl | rfl
  · exact man_T0
  · exact man_T1
  · exact man_F
theorem uses_ok : P.uses man = true := by decide +kernel
end K13

set_option Elab.async false
set_option linter.all false
set_option maxRecDepth 100000
set_option maxHeartbeats 0
namespace K13
open PySem PySem.Spec PyProof.Rows L2 PL He
def loose : List Str := (["_wall", "__name__", "NoName", "BadFunction", "NoExpression", "BadBook", "NoPoints", "NoFunction", "NoNode", "TooMany", "LETTERS", "MOST_LETTERS", "MOST_ARGUMENTS", "MOST_PLACES", "is_integer", "is_name", "are_places", "Function", "Book", "SIGNS", "JOINTS", "operands", "is_open", "step_text", "written", "READ", "STORE", "CALL", "own_steps", "steps_in"] : List Str) ++ (["steps", "MOST_NUMBER", "MOMENTS", "SIZES", "OWN_STEPS", "is_formed", "first_wrong", "spots_in", "own_steps_of", "is_path", "Task", "_law_bag", "_law_take", "_law_of", "_law_some", "_law_kit", "_law_book", "_law_leaf", "_law_guard", "_law_expr", "_law_root", "_law_operands", "_law_nodes", "_law_open", "_law_points", "_law_steps", "_law_exchanged"] : List Str)
abbrev R : PySem.W.OpenRow := PySem.W.OpenLaw.row PySem.Challenge.rw_ordersopen_k13_steps_listed
abbrev hk : PySem.W.Hook := hookP 5 P XK
def ob (s : PySem.W.SharedT) : AlP := obsPG 5 P XK (HandSHeadRun.getT s)
theorem ob_eq (s : PySem.W.SharedT) : ob s = hk.obs s.abs := obsPG_eq (HandSHeadRun.getT_eq s)
theorem run_f (w : World) : HandSHeadRun.RunEq R (PySem.W.view R.prog [62]) hk ob 8000 loose (w.withFollow "special-get-raises" false) := by
  intro os
  kernel_rfl
theorem run_t (w : World) : HandSHeadRun.RunEq R (PySem.W.view R.prog [62]) hk ob 8000 loose (w.withFollow "special-get-raises" true) := by
  intro os
  kernel_rfl
theorem run (w : World) : HandSHeadRun.RunEq R (PySem.W.view R.prog [62]) hk ob 8000 loose w :=
  PySem.W.byRow2 "special-get-raises" (P := fun w => HandSHeadRun.RunEq R (PySem.W.view R.prog [62]) hk ob 8000 loose w) run_f run_t w
theorem law_of {n : Nat} (room : Room (2 * n + 1) callerA) (hF : ∀ ns : List Int, ns.length ≤ 63 → ∃ S', P.tab n "law" [.list (ns.map .int)] [] = .ok (.bool true) S') :
    PySem.W.WalkO (PySem.W.view R.prog [62]) loose (PySem.W.XL (PySem.W.view R.prog [62]) []) hk.says R.toRowW (HandSHeadRun.topDef R.prog 62) [] (fun f vs => PySem.call f vs) :=
  walk_law (l := PySem.Challenge.rw_ordersopen_k13_steps_listed) (P := P) (n := n) (e := e_law) rfl (by rfl) room chk_ok (by rfl) (by decide +kernel) ⟨_, rfl⟩ rfl
    (fun w h mg ⟨K, kin, says⟩ G => ⟨K, kin, headOk_of (g := ⟨_, K, w, mg⟩) kin G says man_ok (by decide +kernel), by
      have e1 : headB P XK K = true := congrArg (fun z : AlP => z.1) says
      have e2 : (Fa.glo "law").ok K = true := by
        have h2 : XK K = true := (ba e1).2
        exact (ba h2).1
      exact glo_ok kin G e2⟩) hF
end K13
open PySem PySem.W PySem.Calls PyProof.Rows
theorem K13.holds_of {n : Nat} (room : L2.Room (2 * n + 1) callerA) (hF : ∀ ns : List Int, ns.length ≤ 63 → ∃ S', K13.P.tab n "law" [.list (ns.map .int)] [] = .ok (.bool true) S') : PySem.Challenge.rw_ordersopen_k13_steps_listed.Holds := by
  w_on; o_law
  refine HandSHeadRun.head_any (r := OpenLaw.row PySem.Challenge.rw_ordersopen_k13_steps_listed) (q := view (OpenLaw.row PySem.Challenge.rw_ordersopen_k13_steps_listed).prog [62]) (H := K13.hk) (ob := K13.ob) (M := 8000) (loose := K13.loose) (d := HandSHeadRun.topDef (OpenLaw.row PySem.Challenge.rw_ordersopen_k13_steps_listed).prog 62) (kwd := []) K13.ob_eq
    (by kernel_rfl) (fun s => by kernel_rfl) K13.run (by kernel_rfl) (by kernel_rfl) (by kernel_rfl) (by rfl) (by first | assumption | decide +kernel) (by decide +kernel) ⟨rfl, rfl, rfl, rfl, rfl, by decide +kernel⟩ ?hw ?hc
  case hw => w_witness2
  case hc => exact K13.law_of room hF

set_option Elab.async false
set_option linter.all false
set_option maxRecDepth 100000
set_option maxHeartbeats 4000000
namespace K13
open PySem PL
theorem is_of {k : String} {e : Ent} {f : Fd} (h : P.ent (Str.ofString k) = some e) (hf : e.fd = f) : Is P.tab P.phi k f := fun n => by
  unfold Prog.tab
  rw [h]
  show runF (P.phi n) e.fd = _
  rw [hf]
theorem tabT : TabT P.tab P.phi G.ct where
  call := fun n k => rfl
  make := fun n C k => rfl
  cts := fun n => rfl
  f1 := is_of (e := e_is_integer) (by rfl) rfl
  f2 := is_of (e := e_is_name) (by rfl) rfl
  f3 := is_of (e := e_operands) (by rfl) rfl
  f4 := is_of (e := e_is_open) (by rfl) rfl
  f5 := is_of (e := e_Book___contains__) (by rfl) rfl
  f6 := is_of (e := e_Book___getitem__) (by rfl) rfl
  f7 := is_of (e := e_are_places) (by rfl) rfl
  f8 := is_of (e := e_is_formed) (by rfl) rfl
  f9 := is_of (e := e_first_wrong) (by rfl) rfl
  f10 := is_of (e := e_spots_in) (by rfl) rfl
  f11 := is_of (e := e_own_steps_of) (by rfl) rfl
  f12 := is_of (e := e_is_path) (by rfl) rfl
  f13 := is_of (e := e_Task_has) (by rfl) rfl
  f14 := is_of (e := e_Task_are_points) (by rfl) rfl
  f15 := is_of (e := e_Function___init__) (by rfl) rfl
  f16 := is_of (e := e_Book___init__) (by rfl) rfl
  f17 := is_of (e := e_Task___init__) (by rfl) rfl
  cF := ⟨by decide +kernel, by decide +kernel, by decide +kernel, by decide +kernel, by decide +kernel, by decide +kernel⟩
  cT := ⟨by decide +kernel, by decide +kernel, by decide +kernel, by decide +kernel, by decide +kernel⟩
theorem tabA : TabA P.tab P.phi G.ct where
  toTabT := tabT
  g1 := is_of (e := e__law_take) (by rfl) rfl
  g2 := is_of (e := e__law_of) (by rfl) rfl
  g3 := is_of (e := e__law_some) (by rfl) rfl
  g4 := is_of (e := e__law_kit) (by rfl) rfl
  g5 := is_of (e := e__law_book) (by rfl) rfl
  g6 := is_of (e := e__law_leaf) (by rfl) rfl
  g7 := is_of (e := e__law_guard) (by rfl) rfl
  g8 := is_of (e := e__law_expr) (by rfl) rfl
  g9 := is_of (e := e__law_root) (by rfl) rfl
  g10 := is_of (e := e__law_operands) (by rfl) rfl
  g11 := is_of (e := e__law_nodes) (by rfl) rfl
  g12 := is_of (e := e__law_open) (by rfl) rfl
  g13 := is_of (e := e__law_points) (by rfl) rfl
theorem tabS : TabS P.tab P.phi G.ct where
  toTabT := tabT
  s1 := is_of (e := e_own_steps) (by rfl) rfl
  s2 := is_of (e := e_steps_in) (by rfl) rfl
theorem isBag : Is P.tab P.phi "_law_bag" f__law_bag := is_of (e := e__law_bag) (by rfl) rfl
theorem isLS : Is P.tab P.phi "_law_steps" f__law_steps := is_of (e := e__law_steps) (by rfl) rfl
theorem isEx : Is P.tab P.phi "_law_exchanged" f__law_exchanged := is_of (e := e__law_exchanged) (by rfl) rfl
theorem isLen : Is P.tab P.phi "Task.__len__" f_Task___len__ := is_of (e := e_Task___len__) (by rfl) rfl
theorem isSt : Is P.tab P.phi "steps" f_steps := is_of (e := e_steps) (by rfl) rfl
theorem isSR : Is P.tab P.phi "steps_in!" f_steps_in_R := is_of (e := e_steps_in_R) (by rfl) rfl
theorem isLaw : Is P.tab P.phi "law" f_law := is_of (e := e_law) (by rfl) rfl
theorem lawSteps : ∀ n : Nat, SLawSteps n (P.tab (n + 1) (Str.ofString "_law_steps"))
  | 0 => fun fs bk e p S h => absurd h (Nat.not_lt_zero _)
  | n + 1 => by
    rw [isLS]
    exact ok_law_steps _ (tabA.lawOps _) (lawSteps n)
theorem stepsR (bk : Bk) (e : Ex) (p : Path) (S : Sto) (hn : ht e < 10) (hp : p.length + ht e ≤ 1000) (hz : sz e ≤ 10000) (ho : OkE bk e) : ∃ c, P.tab 18 (Str.ofString "steps_in!") [encB bk, enc e, encP p] S = .ok (.own (S.length + 1)) (S ++ [c, .lst ((stepsE bk p e).map encS)]) := by
  rw [isSR]
  exact ok_steps_R (P.phi 17) (n := 14) (tabT.operands 16) (tabS.own 14) (tabS.steps 14) bk e p S (by omega) hp hz ho
theorem fns : K13F bagA 5 (P.phi 19) where
  bag := by rw [tabT.call, isBag]; exact ok_bagA _
  take := tabA.take 18
  kit := tabA.kit 16
  book := tabA.book 15
  root := tabA.root 6
  pts := fun S kb c e h => tabA.points 16 S kb c e (by omega)
  mkT := fun bk e pts S h => tabT.mkT 14 bk e pts S (by omega)
  ls := fun fs bk e p S h => lawSteps 18 fs bk e p S (by omega)
  st := fun bk e pts S h ho => by
    rw [tabT.call, isSt]
    exact ok_steps_fn (P.phi 18) (n := 10) (fun bk e p S h1 h2 h3 h4 => stepsR bk e p S h1 h2 h3 h4) bk e pts S (by omega) ho
  len := fun bk e pts S => by rw [tabT.call, isLen]; exact run_len _ bk e pts S
  ex := fun fs S h => by rw [tabT.call, isEx]; exact ok_exchanged _ fs S h
theorem main (ns : List Int) (hl : ns.length ≤ 63) : ∃ S', P.tab 20 (Str.ofString "law") [.list (ns.map .int)] [] = .ok (.bool true) S' := by
  rw [isLaw]
  exact k13_law (P.phi 19) (by omega) fns ns
end K13
open PySem PySem.W PySem.Calls PyProof.Rows
theorem PySem.Challenge.cw_ordersopen_k13_steps_listed_holds : PySem.Challenge.rw_ordersopen_k13_steps_listed.Holds :=
  K13.holds_of (n := 20) ⟨rfl, by decide, by decide⟩ K13.main
