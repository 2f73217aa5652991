import PyProof.Rows.All
import Wide.All
import OpenK.AllK
import Wide.FinOn
import HandS.ForMost
import HandS.Zip
import HandS.FStr
import HandS.IsInst
import HandS.TupAny
import HandS.Defaults
import PySem.Challenge.RW_ordersopen_k10_terms_shown
set_option Elab.async false
set_option linter.all false
set_option maxRecDepth 100000
set_option maxHeartbeats 4000000
namespace OD
open PySem L2

/-! ### heaps that keep all but what is owned -/
def Kp (O : Addr → Prop) (H H' : Hp) : Prop :=
  (∀ a o, H a = some o → (Mut (some o) → ¬ O a) → H' a = some o) ∧ ∀ a o, H a = some o → ∃ o', H' a = some o'
def Own (O : Addr → Prop) (H : Hp) : Prop := ∀ a, O a → ∃ o, H a = some o
section
variable {O O' : Addr → Prop} {H H1 H2 H' : Hp} {a p : Addr} {o o' : HO}
theorem Kp.refl (O : Addr → Prop) (H : Hp) : Kp O H H := ⟨fun _ _ h _ => h, fun _ o h => ⟨o, h⟩⟩
theorem Kp.trans (x : Kp O H H1) (y : Kp O H1 H2) : Kp O H H2 :=
  ⟨fun b u h m => y.1 b u (x.1 b u h m) m, fun b u h => let ⟨u', h'⟩ := x.2 b u h; y.2 b u' h'⟩
theorem Kp.of_same (e : Same H H') : Kp O H H' := ⟨fun b u h _ => e b u h, fun b u h => ⟨u, e b u h⟩⟩
theorem same_new (h : H p = none) : Same H (upd H p o) := fun b u q => by rw [upd_ne (ne_of_none q h)]; exact q
theorem Kp.new (h : H p = none) : Kp O H (upd H p o) := .of_same (same_new h)
theorem Kp.put (h : H a = some o) (m : Mut (some o)) (oa : O a) : Kp O H (upd H a o') := by
  refine ⟨fun b u q n => ?_, fun b u q => ?_⟩
  · by_cases e : b = a
    · subst e
      rw [h] at q
      cases q
      exact absurd oa (n m)
    · rw [upd_ne e]; exact q
  · by_cases e : b = a
    · subst e; exact ⟨_, upd_same⟩
    · exact ⟨u, by rw [upd_ne e]; exact q⟩
theorem Kp.free (k : Kp O H H') (h : H' p = none) : H p = none := by
  cases q : H p with
  | none => rfl
  | some u =>
    obtain ⟨u', e⟩ := k.2 p u q
    rw [h] at e; cases e
theorem Kp.s (k : Kp O H H1) (e : Same H1 H2) : Kp O H H2 := k.trans (.of_same e)
theorem Kp.wide (i : ∀ b, O b → O' b) (k : Kp O H H') : Kp O' H H' := ⟨fun b u h m => k.1 b u h fun q z => m q (i b z), k.2⟩
theorem Own.mono (w : Own O H) (k : Kp O' H H') : Own O H' := fun b h => let ⟨u, e⟩ := w b h; k.2 b u e
theorem Own.not (w : Own O H) (h : H p = none) : ¬ O p := fun z => by
  obtain ⟨u, e⟩ := w p z
  rw [h] at e; cases e
end

/-! ### data -/
/-- a list as data: tracked and not owned, or known -/
def SqLO (_K : PySem.W.Frag) (O : Addr → Prop) (H : Hp) (a : Addr) (xs : List V) : Prop := (H a = some (.lst xs) ∧ ¬ O a) ∨ (∃ o, H a = some (.frz o (.lst xs)))
theorem SqLO.rd {K : PySem.W.Frag} {O : Addr → Prop} {H : Hp} {a : Addr} {xs : List V} (h : SqLO K O H a xs) : Rd H a (.lst xs) := by
  rcases h with ⟨h, _⟩ | h
  · exact .inl h
  · exact .inr h
theorem SqLO.sq {K : PySem.W.Frag} {O : Addr → Prop} {H : Hp} {a : Addr} {xs : List V} (h : SqLO K O H a xs) : SqL K H a xs := .inl h.rd
theorem SqLO.mono {K : PySem.W.Frag} {O : Addr → Prop} {H H' : Hp} {a : Addr} {xs : List V} (k : Kp O H H') (h : SqLO K O H a xs) : SqLO K O H' a xs := by
  rcases h with ⟨h, n⟩ | ⟨o, h⟩
  · exact .inl ⟨k.1 _ _ h fun _ => n, n⟩
  · exact .inr ⟨o, k.1 _ _ h fun m => m.elim⟩
theorem SqLO.same {K : PySem.W.Frag} {O : Addr → Prop} {H H' : Hp} {a : Addr} {xs : List V} (k : Same H H') (h : SqLO K O H a xs) : SqLO K O H' a xs := h.mono (.of_same k)
/-- a list that is read and never changes (the script) -/
def SqX (K : PySem.W.Frag) (H : Hp) (a : Addr) (xs : List V) : Prop := (∃ o, H a = some (.frz o (.lst xs))) ∨
  ∃ (o : Obj) (its : Array Value) (n : Nat), K.lookup a = some o ∧ o.cls = .type "list" ∧ o.dict = none ∧ o.data = .seq its n ∧ its.size ≤ sizeLine ∧ Vals xs its.toList
theorem SqX.mono {K : PySem.W.Frag} {O : Addr → Prop} {H H' : Hp} {a : Addr} {xs : List V} (k : Kp O H H') (h : SqX K H a xs) : SqX K H' a xs := by
  rcases h with ⟨o, h1⟩ | h1
  · exact .inl ⟨o, k.1 _ _ h1 fun m => m.elim⟩
  · exact .inr h1
theorem SqX.sq {K : PySem.W.Frag} {H : Hp} {a : Addr} {xs : List V} (h : SqX K H a xs) : SqL K H a xs := by
  rcases h with h1 | h1
  · exact .inl (.inr h1)
  · exact .inr h1
theorem sqT_mono {K : PySem.W.Frag} {O : Addr → Prop} {H H' : Hp} {a : Addr} {xs : List V} (k : Kp O H H') (h : SqT K H a xs) : SqT K H' a xs := by
  rcases h with (h | ⟨o, h⟩) | h
  · exact .inl (.inl (k.1 _ _ h fun m => m.elim))
  · exact .inl (.inr ⟨o, k.1 _ _ h fun m => m.elim⟩)
  · exact .inr h

mutual
inductive Rp (K : PySem.W.Frag) (O : Addr → Prop) (H : Hp) : V → PyData → Prop
  | non : Rp K O H .non .none
  | bl (b : Bool) : Rp K O H (.bl b) (.bool b)
  | int (i : Int) : Rp K O H (.int i) (.int i)
  | str (x : Str) : Rp K O H (.str x) (.str x)
  | lst {a : Addr} {xs : List V} {ds : List PyData} : SqLO K O H a xs → RpAll K O H xs ds → Rp K O H (.ref a) (.list ds)
  | tup {a : Addr} {xs : List V} {ds : List PyData} : SqT K H a xs → RpAll K O H xs ds → Rp K O H (.ref a) (.tuple ds)
inductive RpAll (K : PySem.W.Frag) (O : Addr → Prop) (H : Hp) : List V → List PyData → Prop
  | nil : RpAll K O H [] []
  | cons {v : V} {vs : List V} {d : PyData} {ds : List PyData} : Rp K O H v d → RpAll K O H vs ds → RpAll K O H (v :: vs) (d :: ds)
end
section
variable {K : PySem.W.Frag} {O : Addr → Prop} {H H' : Hp}
mutual
theorem Rp.mono (k : Kp O H H') : ∀ {v : V} {d : PyData}, Rp K O H v d → Rp K O H' v d
  | _, _, .non => .non
  | _, _, .bl b => .bl b
  | _, _, .int i => .int i
  | _, _, .str x => .str x
  | _, _, .lst s r => .lst (s.mono k) (RpAll.mono k r)
  | _, _, .tup s r => .tup (sqT_mono k s) (RpAll.mono k r)
theorem RpAll.mono (k : Kp O H H') : ∀ {vs : List V} {ds : List PyData}, RpAll K O H vs ds → RpAll K O H' vs ds
  | _, _, .nil => .nil
  | _, _, .cons r t => .cons (Rp.mono k r) (RpAll.mono k t)
end
mutual
theorem Rp.dp : ∀ {v : V} {d : PyData}, Rp K O H v d → Dp K H v d
  | _, _, .non => .non
  | _, _, .bl b => .bl b
  | _, _, .int i => .int i
  | _, _, .str x => .str x
  | _, _, .lst s r => .lst s.sq (RpAll.dp r)
  | _, _, .tup s r => .tup s (RpAll.dp r)
theorem RpAll.dp : ∀ {vs : List V} {ds : List PyData}, RpAll K O H vs ds → DpAll K H vs ds
  | _, _, .nil => .nil
  | _, _, .cons r t => .cons (Rp.dp r) (RpAll.dp t)
end
theorem Rp.same {v : V} {d : PyData} (k : Same H H') (r : Rp K O H v d) : Rp K O H' v d := r.mono (.of_same k)
theorem RpAll.same {vs : List V} {ds : List PyData} (k : Same H H') (r : RpAll K O H vs ds) : RpAll K O H' vs ds := r.mono (.of_same k)
theorem RpAll.length : ∀ {vs : List V} {ds : List PyData}, RpAll K O H vs ds → vs.length = ds.length
  | _, _, .nil => rfl
  | _, _, .cons _ t => by rw [List.length_cons, List.length_cons, RpAll.length t]
theorem RpAll.get : ∀ {vs : List V} {ds : List PyData} {i : Nat} {d : PyData}, RpAll K O H vs ds → ds[i]? = some d → ∃ v, vs[i]? = some v ∧ Rp K O H v d
  | _, _, _, _, .nil, e => by simp at e
  | _, _, 0, _, .cons r _, e => by simp at e; subst e; exact ⟨_, rfl, r⟩
  | _, _, i + 1, d, .cons _ t, e => by
    obtain ⟨u, h1, h2⟩ := RpAll.get (i := i) (d := d) t (by simpa using e)
    exact ⟨u, by simpa using h1, h2⟩
theorem RpAll.append : ∀ {xs ys : List V} {ds es : List PyData}, RpAll K O H xs ds → RpAll K O H ys es → RpAll K O H (xs ++ ys) (ds ++ es)
  | _, _, _, _, .nil, s => s
  | _, _, _, _, .cons r t, s => .cons r (RpAll.append t s)
theorem RpAll.take : ∀ {xs : List V} {ds : List PyData} (n : Nat), RpAll K O H xs ds → RpAll K O H (xs.take n) (ds.take n)
  | _, _, 0, _ => .nil
  | _, _, _ + 1, .nil => .nil
  | _, _, n + 1, .cons r t => .cons r (RpAll.take n t)
theorem RpAll.drop : ∀ {xs : List V} {ds : List PyData} (n : Nat), RpAll K O H xs ds → RpAll K O H (xs.drop n) (ds.drop n)
  | _, _, 0, r => r
  | _, _, _ + 1, .nil => .nil
  | _, _, n + 1, .cons _ t => RpAll.drop n t
theorem RpAll.set {v : V} {d : PyData} (h : Rp K O H v d) : ∀ {xs : List V} {ds : List PyData} (n : Nat), RpAll K O H xs ds → RpAll K O H (xs.set n v) (ds.set n d)
  | _, _, _, .nil => .nil
  | _, _, 0, .cons _ t => .cons h t
  | _, _, n + 1, .cons r t => .cons r (RpAll.set h n t)
theorem RpAll.atI {vs : List V} {ds : List PyData} {i : Int} {d : PyData} (r : RpAll K O H vs ds) (e : L2.atI ds i = some d) : ∃ v, L2.atI vs i = some v ∧ Rp K O H v d := by
  unfold L2.atI at e ⊢
  rw [r.length]
  cases q : ixN ds.length i with
  | none => rw [q] at e; cases e
  | some j =>
    rw [q] at e
    exact r.get e
theorem Rp.int_inv {v : V} {i : Int} (r : Rp K O H v (.int i)) : v = .int i := by cases r; rfl
theorem Rp.str_inv {v : V} {x : Str} (r : Rp K O H v (.str x)) : v = .str x := by cases r; rfl
theorem Rp.bool_inv {v : V} {b : Bool} (r : Rp K O H v (.bool b)) : v = .bl b := by cases r; rfl
theorem Rp.non_inv {v : V} (r : Rp K O H v .none) : v = .non := by cases r; rfl
theorem Rp.tup_inv {v : V} {ds : List PyData} (r : Rp K O H v (.tuple ds)) : ∃ a xs, v = .ref a ∧ SqT K H a xs ∧ RpAll K O H xs ds := by
  cases r with
  | tup s t => exact ⟨_, _, rfl, s, t⟩
theorem Rp.lst_inv {v : V} {ds : List PyData} (r : Rp K O H v (.list ds)) : ∃ a xs, v = .ref a ∧ SqLO K O H a xs ∧ RpAll K O H xs ds := by
  cases r with
  | lst s t => exact ⟨_, _, rfl, s, t⟩
/-- what is known with fewer owned things -/
theorem SqLO.less {O' : Addr → Prop} (i : ∀ b, O' b → O b) {a : Addr} {xs : List V} (h : SqLO K O H a xs) : SqLO K O' H a xs := by
  rcases h with ⟨h, n⟩ | h
  · exact .inl ⟨h, fun z => n (i _ z)⟩
  · exact .inr h
mutual
theorem Rp.less {O' : Addr → Prop} (i : ∀ b, O' b → O b) : ∀ {v : V} {d : PyData}, Rp K O H v d → Rp K O' H v d
  | _, _, .non => .non
  | _, _, .bl b => .bl b
  | _, _, .int j => .int j
  | _, _, .str x => .str x
  | _, _, .lst s r => .lst (s.less i) (RpAll.less i r)
  | _, _, .tup s r => .tup s (RpAll.less i r)
theorem RpAll.less {O' : Addr → Prop} (i : ∀ b, O' b → O b) : ∀ {vs : List V} {ds : List PyData}, RpAll K O H vs ds → RpAll K O' H vs ds
  | _, _, .nil => .nil
  | _, _, .cons r t => .cons (Rp.less i r) (RpAll.less i t)
end
/-- a new owned thing -/
theorem SqLO.more {p : Addr} (n : H p = none) {a : Addr} {xs : List V} (h : SqLO K O H a xs) : SqLO K (fun b => O b ∨ b = p) H a xs := by
  rcases h with ⟨h, m⟩ | h
  · exact .inl ⟨h, fun z => z.elim m fun e => by subst e; rw [h] at n; cases n⟩
  · exact .inr h
mutual
theorem Rp.more {p : Addr} (n : H p = none) : ∀ {v : V} {d : PyData}, Rp K O H v d → Rp K (fun b => O b ∨ b = p) H v d
  | _, _, .non => .non
  | _, _, .bl b => .bl b
  | _, _, .int j => .int j
  | _, _, .str x => .str x
  | _, _, .lst s r => .lst (s.more n) (RpAll.more n r)
  | _, _, .tup s r => .tup s (RpAll.more n r)
theorem RpAll.more {p : Addr} (n : H p = none) : ∀ {vs : List V} {ds : List PyData}, RpAll K O H vs ds → RpAll K (fun b => O b ∨ b = p) H vs ds
  | _, _, .nil => .nil
  | _, _, .cons r t => .cons (Rp.more n r) (RpAll.more n t)
end
end
end OD

set_option Elab.async false
set_option linter.all false
set_option maxRecDepth 100000
set_option maxHeartbeats 4000000
namespace OD
open PySem L2

/-! ### rules that serve several kinds of values -/
theorem op_or {X : Cx} {f : Value → Value → Sem Value} {r1 r2 : R2} (h1 : OpR X f r1) (h2 : OpR X f r2) : OpR X f (fun x y H Q => r1 x y H Q ∨ r2 x y H Q) :=
  fun pins s σ H x y v u Q I rx ry h => h.elim (h1 pins s σ H x y v u Q I rx ry) (h2 pins s σ H x y v u Q I rx ry)
theorem ix_or {X : Cx} {r1 r2 : R2} (h1 : IxR X r1) (h2 : IxR X r2) : IxR X (fun x y H Q => r1 x y H Q ∨ r2 x y H Q) :=
  fun a b pins s σ H x y v u Q I rx ry h e => h.elim (fun q => h1 a b pins s σ H x y v u Q I rx ry q e) (fun q => h2 a b pins s σ H x y v u Q I rx ry q e)
theorem call_or {X : Cx} {f : Value} {r1 r2 : List V → Hp → VK → Prop} (h1 : CallR X f r1) (h2 : CallR X f r2) : CallR X f (fun xs H Q => r1 xs H Q ∨ r2 xs H Q) :=
  fun pins s σ H xs us Q I r h => h.elim (h1 pins s σ H xs us Q I r) (h2 pins s σ H xs us Q I r)
def rAddI : R2 := rI0 fun i j => .int (i + j)
def rAddS : R2 := fun x y H Q => ∃ i j, x = .str i ∧ y = .str j ∧ i.length + j.length ≤ sizeLine ∧ Q (.str (i ++ j)) H
/-- two lists -/
def rCatR : R2 := fun x y H Q => ∃ l r xs ys, x = .ref l ∧ y = .ref r ∧ Rd H l (.lst xs) ∧ Rd H r (.lst ys) ∧ xs.length + ys.length ≤ sizeLine ∧ ∀ p, H p = none → Q (.ref p) (upd H p (.lst (xs ++ ys)))
theorem op_catR {X : Cx} : OpR X (binaryOp .Add) rCatR := fun pins s σ H x y v u Q I rx ry h => by
  obtain ⟨l, c, xs, ys, ex, ey, hl, hc, hz, q⟩ := h
  subst ex
  subst ey
  cases rx
  cases ry
  obtain ⟨_, its1, n1, v1, e1⟩ := hl.ok I.hok
  obtain ⟨_, its2, n2, v2, e2⟩ := hc.ok I.hok
  have z1 := v1.length
  have z2 := v2.length
  have ea : its1.toArray ++ its2.toArray = (its1 ++ its2).toArray := by rw [List.append_toArray]
  refine PySem.P.add_list e1 e2 ?_ (by simp only [List.size_toArray]; omega)
  rw [ea]
  refine ⟨.ref s.heap.objs.size, _, Inv.lnew (t' := s.toks) I (v1.append v2) (by rw [List.length_append]; exact hz), rfl, q _ I.fresh⟩
def rAddA (K : PySem.W.Frag) : R2 := fun x y H Q => (rAddI x y H Q ∨ rAddS x y H Q) ∨ (rCatA K x y H Q ∨ rCatR x y H Q)
theorem op_addA {X : Cx} : OpR X (binaryOp .Add) (rAddA X.K) := op_or (op_or op_add op_add_str) (op_or op_catA op_catR)
def rIxA (K : PySem.W.Frag) : R2 := fun x y H Q => (rIxL K x y H Q ∨ rIxT K x y H Q) ∨ rIxS x y H Q
theorem ix_any {X : Cx} : IxR X (rIxA X.K) := ix_or (ix_or ix_list ix_tup) ix_str
def rLenQ (K : PySem.W.Frag) : List V → Hp → VK → Prop := fun xs H Q => ∃ p ys, xs = [.ref p] ∧ (SqL K H p ys ∨ SqT K H p ys) ∧ Q (.int ys.length) H
def rLenT : List V → Hp → VK → Prop := fun xs H Q => ∃ z, xs = [.str z] ∧ z.length ≤ sizeLine ∧ Q (.int z.length) H
def rLenA (K : PySem.W.Frag) : List V → Hp → VK → Prop := fun xs H Q => rLenQ K xs H Q ∨ rLenT xs H Q
theorem call_lenA {X : Cx} : CallR X (.builtin "len") (rLenA X.K) := call_or call_len_seq call_len_str
def rListA (K : PySem.W.Frag) : List V → Hp → VK → Prop := fun xs H Q => ∃ p ys, xs = [.ref p] ∧ (SqL K H p ys ∨ SqT K H p ys) ∧ ∀ l, H l = none → Q (.ref l) (upd H l (.lst ys))
theorem call_listA {X : Cx} : CallR X (.type "list") (rListA X.K) := call_list_of
def rTupA (K : PySem.W.Frag) : List V → Hp → VK → Prop := fun xs H Q => ∃ p ys, xs = [.ref p] ∧ ((SqL K H p ys ∧ ∀ l, H l = none → Q (.ref l) (upd H l (.tup ys))) ∨ (SqT K H p ys ∧ Q (.ref p) H))
theorem call_tupA {X : Cx} : CallR X (.type "tuple") (rTupA X.K) := call_tuple_of
def rStrI : List V → Hp → VK → Prop := fun xs H Q => ∃ i : Int, xs = [.int i] ∧ i.natAbs.log2 < 1920 ∧ Q (.str (toString i)) H
theorem call_strI {X : Cx} : CallR X (.type "str") rStrI := call_str_int
def rInt1 : List V → Hp → VK → Prop := fun xs H Q => (∃ i, xs = [.int i] ∧ Q (.int i) H) ∨ ∃ k, xs = [.bl k] ∧ Q (.int (if k then 1 else 0)) H
theorem call_intA {X : Cx} : CallR X (.type "int") rInt1 := call_int1
def rJoin (K : PySem.W.Frag) : V → List V → Hp → VK → Prop := fun x xs H Q => ∃ a p, ∃ ys : List Str, x = .str a ∧ xs = [.ref p] ∧ (SqL K H p (ys.map V.str) ∨ SqT K H p (ys.map V.str)) ∧
      (ys.map (·.length)).sum + ys.length * a.length ≤ 16777216 ∧ Q (.str (Txt.join a ys)) H
theorem pe_joinA {X : Cx} {o e : Expr} {to te : TE} {apos pos : Pos} (ho : PE X o to) (he : PE X e te) (hs : starEach [e] X.env = [(false, eval e X.env)] := by rfl) (hbase : attributeBase o "join" X.env (eval o X.env) = eval o X.env := by rfl) (hline : (apos.endLine == pos.line) = true := by rfl) :
    PE X (.Call (.Attribute o "join" apos) [e] [] pos) (tM1 (rJoin X.K) to te) := pe_join ho he hs hbase hline

/-! ### a def that can be called -/
structure Cal (P : Program) (w : World) (K : PySem.W.Frag) (mg : Str → Option Value) (base : Heap) (n : Nat) (x : Str) (ps : List Str) (sp : Sp) : Prop where
  ex : ∃ f fd, FnOk P w K mg base CX0 n f fd ps sp ∧ mg x = some (.ref f) ∧ PySem.W.keepIn K (.ref f) = true ∧ Binds K fd ps []
theorem Cal.mono {P : Program} {w : World} {K : PySem.W.Frag} {mg : Str → Option Value} {base : Heap} {n m : Nat} {x : Str} {ps : List Str} {sp : Sp} (c : Cal P w K mg base n x ps sp) (h : n ≤ m) : Cal P w K mg base m x ps sp := by
  obtain ⟨f, fd, a, b⟩ := c.ex
  exact ⟨f, fd, a.mono h, b⟩
theorem pe_callC {X : Cx} {n : Nat} {x : Str} {ps : List Str} {sp : Sp} {e : Expr} {es : List Expr} {t : TA} {p pos : Pos} (c : Cal X.prog X.w X.K X.mg X.base n x ps sp) (hr : Room n X.A) (hg : Gl X x) (ha : PA X (e :: es) t)
    (hdb : (x == ("__debug__" : Str)) = false := by decide) (he : starEach (e :: es) X.env = (false, eval e X.env) :: starEach es X.env := by rfl) (hpl : (backTo pos (starEach es X.env)).any (·.1) = false := by rfl) :
    PE X (.Call (.Name x p) (e :: es) [] pos) (tCall sp [] E0 t) := by
  obtain ⟨f, fd, F, hm, hk, hb⟩ := c.ex
  exact pe_call F hr hg hm hk hb .nil pass0 ha hdb he hpl

/-! ### what evaluates to which data -/
def EvD (K : PySem.W.Frag) (O : Addr → Prop) (te : TE) (σ : L2.St) (H : Hp) (d : PyData) : Prop :=
  ∀ H1, Kp O H H1 → ∀ Q : VK, (∀ v H2, Same H1 H2 → Rp K O H2 v d → Q v H2) → te σ H1 Q
def EvB (_K : PySem.W.Frag) (O : Addr → Prop) (tt : TT) (σ : L2.St) (H : Hp) (b : Bool) : Prop :=
  ∀ H1, Kp O H H1 → ∀ Q : Bool → Hp → Prop, (∀ H2, Same H1 H2 → Q b H2) → tt σ H1 Q
def EvA (K : PySem.W.Frag) (O : Addr → Prop) (ta : TA) (σ : L2.St) (H : Hp) (ds : List PyData) : Prop :=
  ∀ H1, Kp O H H1 → ∀ Q : List V → Hp → Prop, (∀ vs H2, Same H1 H2 → RpAll K O H2 vs ds → Q vs H2) → ta σ H1 Q
section
variable {K : PySem.W.Frag} {O : Addr → Prop} {σ : L2.St} {H H' : Hp} {ta tb te : TE} {tt tu : TT} {tA tB' : TA} {d e z : PyData} {ds es : List PyData} {Q : VK}
theorem EvD.use (h : EvD K O te σ H d) (q : ∀ v H2, Same H H2 → Rp K O H2 v d → Q v H2) : te σ H Q := h H (Kp.refl O H) Q q
theorem EvB.use {b : Bool} {Q : Bool → Hp → Prop} (h : EvB K O tt σ H b) (q : ∀ H2, Same H H2 → Q b H2) : tt σ H Q := h H (Kp.refl O H) Q q
theorem EvA.use {Q : List V → Hp → Prop} (h : EvA K O tA σ H ds) (q : ∀ vs H2, Same H H2 → RpAll K O H2 vs ds → Q vs H2) : tA σ H Q := h H (Kp.refl O H) Q q
theorem EvD.mono (k : Kp O H H') (h : EvD K O te σ H d) : EvD K O te σ H' d := fun H1 k1 Q q => h H1 (k.trans k1) Q q
theorem EvB.mono {b : Bool} (k : Kp O H H') (h : EvB K O tt σ H b) : EvB K O tt σ H' b := fun H1 k1 Q q => h H1 (k.trans k1) Q q
theorem EvA.mono (k : Kp O H H') (h : EvA K O tA σ H ds) : EvA K O tA σ H' ds := fun H1 k1 Q q => h H1 (k.trans k1) Q q
theorem EvD.is (h : EvD K O te σ H d) (q : d = e) : EvD K O te σ H e := q ▸ h
theorem EvB.is {b c : Bool} (h : EvB K O tt σ H b) (q : b = c) : EvB K O tt σ H c := q ▸ h
theorem ev_var {i : Nat} {v : V} (h : σ[i]? = some (some v)) (r : Rp K O H v d) : EvD K O (tVar i) σ H d := fun H1 k _ q => ⟨v, h, q v H1 (Same.refl H1) (r.mono k)⟩
theorem ev_int {i : Int} : EvD K O (tC (.int i)) σ H (.int i) := fun H1 _ _ q => q _ H1 (Same.refl H1) (.int i)
theorem ev_str {x : Str} : EvD K O (tC (.str x)) σ H (.str x) := fun H1 _ _ q => q _ H1 (Same.refl H1) (.str x)
theorem ev_bl {b : Bool} : EvD K O (tC (.bl b)) σ H (.bool b) := fun H1 _ _ q => q _ H1 (Same.refl H1) (.bl b)
theorem ev_non : EvD K O (tC .non) σ H .none := fun H1 _ _ q => q _ H1 (Same.refl H1) .non
theorem ev_op {r : R2} (ha : EvD K O ta σ H d) (hb : EvD K O tb σ H e)
    (hr : ∀ H1 x y, Kp O H H1 → Rp K O H1 x d → Rp K O H1 y e → ∀ Q : VK, (∀ v H2, Same H1 H2 → Rp K O H2 v z → Q v H2) → r x y H1 Q) : EvD K O (tOp r ta tb) σ H z := fun H1 k Q q =>
  ha H1 k _ fun x H2 k2 rx => hb H2 (k.s k2) _ fun y H3 k3 ry => hr H3 x y ((k.s k2).s k3) (rx.same k3) ry Q fun v H4 k4 rv => q v H4 ((k2.trans k3).trans k4) rv
theorem ev_addI {i j : Int} (ha : EvD K O ta σ H (.int i)) (hb : EvD K O tb σ H (.int j)) : EvD K O (tOp (rAddA K) ta tb) σ H (.int (i + j)) :=
  ev_op ha hb fun H1 x y _ rx ry Q q => .inl (.inl ⟨i, j, rx.int_inv, ry.int_inv, q _ H1 (Same.refl H1) (.int _)⟩)
theorem ev_addS {x y : Str} (ha : EvD K O ta σ H (.str x)) (hb : EvD K O tb σ H (.str y)) (hl : x.length + y.length ≤ sizeLine) : EvD K O (tOp (rAddA K) ta tb) σ H (.str (x ++ y)) :=
  ev_op ha hb fun H1 _ _ _ rx ry Q q => .inl (.inr ⟨x, y, rx.str_inv, ry.str_inv, hl, q _ H1 (Same.refl H1) (.str _)⟩)
theorem ev_addT (ha : EvD K O ta σ H (.tuple ds)) (hb : EvD K O tb σ H (.tuple es)) (hl : ds.length + es.length ≤ sizeLine) : EvD K O (tOp (rAddA K) ta tb) σ H (.tuple (ds ++ es)) :=
  ev_op ha hb fun H1 x y _ rx ry Q q => by
    obtain ⟨a, xs, rfl, sa, ra⟩ := rx.tup_inv
    obtain ⟨b, ys, rfl, sb, rb⟩ := ry.tup_inv
    refine .inr (.inl ⟨a, b, xs, ys, rfl, rfl, sa, sb, by rw [ra.length, rb.length]; exact hl, fun e1 => ?_, fun e1 e2 => ?_, fun e1 e2 p hp => ?_⟩)
    · subst e1; cases ra; exact q _ H1 (Same.refl H1) (.tup sb rb)
    · subst e2; cases rb; rw [List.append_nil] at q; exact q _ H1 (Same.refl H1) (.tup sa ra)
    · exact q _ _ (same_new hp) (.tup (.of upd_same) ((ra.append rb).same (same_new hp)))
theorem ev_addL (hO : Own O H) (ha : EvD K O ta σ H (.list ds)) (hb : EvD K O tb σ H (.list es)) (hl : ds.length + es.length ≤ sizeLine) : EvD K O (tOp (rAddA K) ta tb) σ H (.list (ds ++ es)) :=
  ev_op ha hb fun H1 x y k rx ry Q q => by
    obtain ⟨a, xs, rfl, sa, ra⟩ := rx.lst_inv
    obtain ⟨b, ys, rfl, sb, rb⟩ := ry.lst_inv
    refine .inr (.inr ⟨a, b, xs, ys, rfl, rfl, sa.rd, sb.rd, by rw [ra.length, rb.length]; exact hl, fun p hp => ?_⟩)
    exact q _ _ (same_new hp) (.lst (.inl ⟨upd_same, (hO.mono k).not hp⟩) ((ra.append rb).same (same_new hp)))
/-- a list that is read, of the module too -/
theorem ev_lenX {i : Nat} {a : Addr} {xs : List V} (h : σ[i]? = some (some (.ref a))) (s : SqX K H a xs) : EvD K O (tCB (rLenA K) (tCons (tVar i) tNil)) σ H (.int xs.length) := fun H1 k _ q =>
  ⟨.ref a, h, .inl ⟨a, xs, rfl, .inl (s.mono k).sq, q _ H1 (Same.refl H1) (.int _)⟩⟩
theorem ev_ixX {i : Nat} {a : Addr} {xs : List V} {j n : Int} (h : σ[i]? = some (some (.ref a))) (s : SqX K H a xs) (hb : EvD K O tb σ H (.int j)) (hx : atI xs j = some (.int n)) : EvD K O (tOp (rIxA K) (tVar i) tb) σ H (.int n) := fun H1 k _ q =>
  ⟨.ref a, h, hb H1 k _ fun v H2 k2 rv => .inl (.inl ⟨a, xs, j, .int n, rfl, rv.int_inv, (s.mono (k.s k2)).sq, hx, q _ H2 k2 (.int n)⟩)⟩
theorem ev_sub {i j : Int} (ha : EvD K O ta σ H (.int i)) (hb : EvD K O tb σ H (.int j)) : EvD K O (tOp (rI0 fun i j => .int (i - j)) ta tb) σ H (.int (i - j)) :=
  ev_op ha hb fun H1 _ _ _ rx ry Q q => ⟨i, j, rx.int_inv, ry.int_inv, q _ H1 (Same.refl H1) (.int _)⟩
theorem ev_I {C : Int → Int → Prop} {g : Int → Int → Int} {i j : Int} (ha : EvD K O ta σ H (.int i)) (hb : EvD K O tb σ H (.int j)) (hc : C i j) : EvD K O (tOp (rI C fun i j => .int (g i j)) ta tb) σ H (.int (g i j)) :=
  ev_op ha hb fun H1 _ _ _ rx ry Q q => ⟨i, j, rx.int_inv, ry.int_inv, hc, q _ H1 (Same.refl H1) (.int _)⟩
theorem ev_cmpI {g : Int → Int → Bool} {i j : Int} (ha : EvD K O ta σ H (.int i)) (hb : EvD K O tb σ H (.int j)) : EvD K O (tOp (rI0 fun i j => .bl (g i j)) ta tb) σ H (.bool (g i j)) :=
  ev_op ha hb fun H1 _ _ _ rx ry Q q => ⟨i, j, rx.int_inv, ry.int_inv, q _ H1 (Same.refl H1) (.bl _)⟩
theorem ev_ixT {i : Int} (ha : EvD K O ta σ H (.tuple ds)) (hb : EvD K O tb σ H (.int i)) (h : atI ds i = some z) : EvD K O (tOp (rIxA K) ta tb) σ H z :=
  ev_op ha hb fun H1 x y _ rx ry Q q => by
    obtain ⟨a, xs, rfl, sa, ra⟩ := rx.tup_inv
    obtain ⟨v, hv, rv⟩ := ra.atI h
    exact .inl (.inr ⟨a, xs, i, v, rfl, ry.int_inv, sa, hv, q v H1 (Same.refl H1) rv⟩)
theorem ev_ixL {i : Int} (ha : EvD K O ta σ H (.list ds)) (hb : EvD K O tb σ H (.int i)) (h : atI ds i = some z) : EvD K O (tOp (rIxA K) ta tb) σ H z :=
  ev_op ha hb fun H1 x y _ rx ry Q q => by
    obtain ⟨a, xs, rfl, sa, ra⟩ := rx.lst_inv
    obtain ⟨v, hv, rv⟩ := ra.atI h
    exact .inl (.inl ⟨a, xs, i, v, rfl, ry.int_inv, sa.sq, hv, q v H1 (Same.refl H1) rv⟩)
theorem ev_eqD (ha : EvD K O ta σ H d) (hb : EvD K O tb σ H e) (h1 : SeqAt.shaped d = true) (h2 : SeqAt.shaped e = true) : EvD K O (tOp (rEqD K) ta tb) σ H (.bool (PyData.eqv d e)) :=
  ev_op ha hb fun H1 _ _ _ rx ry Q q => ⟨d, e, rx.dp, ry.dp, h1, h2, q _ H1 (Same.refl H1) (.bl _)⟩
theorem ev_neD (ha : EvD K O ta σ H d) (hb : EvD K O tb σ H e) (h1 : SeqAt.shaped d = true) (h2 : SeqAt.shaped e = true) : EvD K O (tOp (rNeD K) ta tb) σ H (.bool (!PyData.eqv d e)) :=
  ev_op ha hb fun H1 _ _ _ rx ry Q q => ⟨d, e, rx.dp, ry.dp, h1, h2, q _ H1 (Same.refl H1) (.bl _)⟩
/-! arguments, displays -/
theorem ea_nil : EvA K O tNil σ H [] := fun H1 _ _ q => q [] H1 (Same.refl H1) .nil
theorem ea_cons (h : EvD K O ta σ H d) (hr : EvA K O tA σ H ds) : EvA K O (tCons ta tA) σ H (d :: ds) := fun H1 k _ q =>
  h H1 k _ fun v H2 k2 rv => hr H2 (k.s k2) _ fun vs H3 k3 rs => q _ H3 (k2.trans k3) (.cons (rv.same k3) rs)
theorem ev_tup (h : EvA K O tA σ H ds) (hl : ds.length ≤ sizeLine) : EvD K O (tTup tA) σ H (.tuple ds) := fun H1 k _ q =>
  h H1 k _ fun vs H2 k2 rs => ⟨by rw [rs.length]; exact hl, fun p hp => q _ _ (k2.trans (same_new hp)) (.tup (.of upd_same) (rs.same (same_new hp)))⟩
theorem ev_lst (hO : Own O H) (h : EvA K O tA σ H ds) (hl : ds.length ≤ sizeLine) : EvD K O (tLst tA) σ H (.list ds) := fun H1 k _ q =>
  h H1 k _ fun vs H2 k2 rs => ⟨by rw [rs.length]; exact hl, fun p hp => q _ _ (k2.trans (same_new hp)) (.lst (.inl ⟨upd_same, (hO.mono (k.s k2)).not hp⟩) (rs.same (same_new hp)))⟩
/-! calls -/
theorem ev_cb {r : List V → Hp → VK → Prop} (h : EvA K O tA σ H ds) (hr : ∀ H1 vs, Kp O H H1 → RpAll K O H1 vs ds → ∀ Q : VK, (∀ v H2, Same H1 H2 → Rp K O H2 v z → Q v H2) → r vs H1 Q) : EvD K O (tCB r tA) σ H z := fun H1 k Q q =>
  h H1 k _ fun vs H2 k2 rs => hr H2 vs (k.s k2) rs Q fun v H3 k3 rv => q v H3 (k2.trans k3) rv
theorem ev_call {sp : Sp} {E : XK} (h : EvA K O tA σ H ds) (hr : ∀ H1 vs, Kp O H H1 → RpAll K O H1 vs ds → ∀ Q : VK, (∀ v H2, Same H1 H2 → Rp K O H2 v z → Q v H2) → sp vs H1 Q E) : EvD K O (tCall sp [] E tA) σ H z := fun H1 k Q q =>
  h H1 k _ fun vs H2 k2 rs => by rw [List.append_nil]; exact hr H2 vs (k.s k2) rs Q fun v H3 k3 rv => q v H3 (k2.trans k3) rv
theorem RpAll.one_inv {vs : List V} (r : RpAll K O H vs [d]) : ∃ v, vs = [v] ∧ Rp K O H v d := by
  cases r with
  | cons h t => cases t; exact ⟨_, rfl, h⟩
theorem RpAll.two_inv {vs : List V} (r : RpAll K O H vs [d, e]) : ∃ v u, vs = [v, u] ∧ Rp K O H v d ∧ Rp K O H u e := by
  cases r with
  | cons h t =>
    obtain ⟨u, rfl, hu⟩ := RpAll.one_inv t
    exact ⟨_, _, rfl, h, hu⟩
theorem ev_lenL (h : EvD K O ta σ H (.list ds)) : EvD K O (tCB (rLenA K) (tCons ta tNil)) σ H (.int ds.length) := ev_cb (ea_cons h ea_nil) fun H1 vs _ rs Q q => by
  obtain ⟨v, rfl, rv⟩ := rs.one_inv
  obtain ⟨a, xs, rfl, sa, ra⟩ := rv.lst_inv
  exact .inl ⟨a, xs, rfl, .inl sa.sq, by rw [ra.length]; exact q _ H1 (Same.refl H1) (.int _)⟩
theorem ev_lenT (h : EvD K O ta σ H (.tuple ds)) : EvD K O (tCB (rLenA K) (tCons ta tNil)) σ H (.int ds.length) := ev_cb (ea_cons h ea_nil) fun H1 vs _ rs Q q => by
  obtain ⟨v, rfl, rv⟩ := rs.one_inv
  obtain ⟨a, xs, rfl, sa, ra⟩ := rv.tup_inv
  exact .inl ⟨a, xs, rfl, .inr sa, by rw [ra.length]; exact q _ H1 (Same.refl H1) (.int _)⟩
theorem ev_lenS {x : Str} (h : EvD K O ta σ H (.str x)) (hl : x.length ≤ sizeLine) : EvD K O (tCB (rLenA K) (tCons ta tNil)) σ H (.int x.length) := ev_cb (ea_cons h ea_nil) fun H1 vs _ rs Q q => by
  obtain ⟨v, rfl, rv⟩ := rs.one_inv
  exact .inr ⟨x, by rw [rv.str_inv], hl, q _ H1 (Same.refl H1) (.int _)⟩
theorem ev_strI {i : Int} (h : EvD K O ta σ H (.int i)) (hl : i.natAbs.log2 < 1920) : EvD K O (tCB rStrI (tCons ta tNil)) σ H (.str (toString i)) := ev_cb (ea_cons h ea_nil) fun H1 vs _ rs Q q => by
  obtain ⟨v, rfl, rv⟩ := rs.one_inv
  exact ⟨i, by rw [rv.int_inv], hl, q _ H1 (Same.refl H1) (.str _)⟩
theorem ev_int1 {i : Int} (h : EvD K O ta σ H (.int i)) : EvD K O (tCB rInt1 (tCons ta tNil)) σ H (.int i) := ev_cb (ea_cons h ea_nil) fun H1 vs _ rs Q q => by
  obtain ⟨v, rfl, rv⟩ := rs.one_inv
  exact .inl ⟨i, by rw [rv.int_inv], q _ H1 (Same.refl H1) (.int _)⟩
theorem ev_tupL (h : EvD K O ta σ H (.list ds)) : EvD K O (tCB (rTupA K) (tCons ta tNil)) σ H (.tuple ds) := ev_cb (ea_cons h ea_nil) fun H1 vs _ rs Q q => by
  obtain ⟨v, rfl, rv⟩ := rs.one_inv
  obtain ⟨a, xs, rfl, sa, ra⟩ := rv.lst_inv
  exact ⟨a, xs, rfl, .inl ⟨sa.sq, fun l hl => q _ _ (same_new hl) (.tup (.of upd_same) (ra.same (same_new hl)))⟩⟩
/-! isinstance(x, T) -/
def tyOf : PyData → String
  | .none => "NoneType" | .bool _ => "bool" | .int _ => "int" | .str _ => "str" | .list _ => "list" | .tuple _ => "tuple" | .dict _ => "dict"
theorem Rp.ty : ∀ {v : V} {d : PyData}, Rp K O H v d → TyX K H v (.type (tyOf d))
  | _, _, .non => .base .non
  | _, _, .bl b => .base (.bl b)
  | _, _, .int i => .base (.int i)
  | _, _, .str x => .base (.str x)
  | _, _, .lst s _ => by
    rcases s with ⟨h, _⟩ | ⟨o, h⟩
    · exact .base (.lst h)
    · exact .base (.frz h)
  | _, _, .tup s _ => by
    rcases s with (h | ⟨o, h⟩) | ⟨o, its, n, h, c, _⟩
    · exact .base (.tup h)
    · exact .fTuple h
    · exact .kTuple h c
theorem ev_isi {T : String} {b : Bool} (h : EvD K O ta σ H d) (hb : kitB (tyOf d) T = some b) : EvD K O (tCB (rIsi K) (tCons ta (tCons (tC (.ty T)) tNil))) σ H (.bool b) := fun H1 k Q q =>
  h H1 k _ fun v H2 k2 rv => ⟨v, .ty T, _, _, b, rfl, .ty T, rv.ty, kit_ty hb, q _ H2 k2 (.bl b)⟩
/-! tests -/
theorem et_test {b : Bool} (h : EvD K O te σ H (.bool b)) : EvB K O (tTest te) σ H b := fun H1 k _ q => h H1 k _ fun v H2 k2 rv => ⟨b, rv.bool_inv, q H2 k2⟩
theorem et_B {b : Bool} (h : EvD K O te σ H (.bool b)) : EvB K O (tB te) σ H b := fun H1 k _ q => h H1 k _ fun v H2 k2 rv => ⟨b, rv.bool_inv, q H2 k2⟩
theorem et_and {a b : Bool} (h1 : EvB K O tt σ H a) (h2 : a = true → EvB K O tu σ H b) : EvB K O (tAnd tt tu) σ H (a && b) := fun H1 k Q q => h1 H1 k _ fun H2 k2 => by
  cases a with
  | true => exact h2 rfl H2 (k.s k2) Q fun H3 k3 => q H3 (k2.trans k3)
  | false => exact q H2 k2
theorem et_or {a b : Bool} (h1 : EvB K O tt σ H a) (h2 : a = false → EvB K O tu σ H b) : EvB K O (tOr tt tu) σ H (a || b) := fun H1 k Q q => h1 H1 k _ fun H2 k2 => by
  cases a with
  | true => exact q H2 k2
  | false => exact h2 rfl H2 (k.s k2) Q fun H3 k3 => q H3 (k2.trans k3)
theorem et_not {a : Bool} (h1 : EvB K O tt σ H a) : EvB K O (tNot tt) σ H (!a) := fun H1 k _ q => h1 H1 k _ fun H2 k2 => q H2 k2
theorem ev_if {b : Bool} (h : EvB K O tt σ H b) (h1 : b = true → EvD K O ta σ H d) (h2 : b = false → EvD K O tb σ H d) : EvD K O (tIf tt ta tb) σ H d := fun H1 k Q q => h H1 k _ fun H2 k2 => by
  cases b with
  | true => exact h1 rfl H2 (k.s k2) Q fun v H3 k3 rv => q v H3 (k2.trans k3) rv
  | false => exact h2 rfl H2 (k.s k2) Q fun v H3 k3 rv => q v H3 (k2.trans k3) rv
/-! statements -/
variable {D : Ends} {tS tU : TS}
theorem s_ret (h : EvD K O te σ H d) (q : ∀ v H2, Same H H2 → Rp K O H2 v d → D.rt v H2) : tRet te D σ H := h.use q
theorem s_set {i : Nat} (h : EvD K O te σ H d) (q : ∀ v H2, Same H H2 → Rp K O H2 v d → D.nx (σ.set i (some v)) H2) : tAsg te (gName i) D σ H := h.use q
theorem s_ifT (h : EvB K O tt σ H true) (q : ∀ H2, Same H H2 → tS D σ H2) : tIfS tt tS tU D σ H := h.use fun H2 k => iteT (q H2 k)
theorem s_ifF (h : EvB K O tt σ H false) (q : ∀ H2, Same H H2 → tU D σ H2) : tIfS tt tS tU D σ H := h.use fun H2 k => iteF (q H2 k)
/-! texts -/
theorem ev_fmtS {x : Str} (h : EvD K O te σ H (.str x)) (hl : x.length ≤ sizeLine) : EvD K O (tFmt te) σ H (.str x) := fun H1 k _ q => h H1 k _ fun v H2 k2 rv => .inl ⟨x, rv.str_inv, hl, q _ H2 k2 (.str x)⟩
theorem ev_fmtI {i : Int} (h : EvD K O te σ H (.int i)) (hl : i.natAbs.log2 < 1920) : EvD K O (tFmt te) σ H (.str (toString i)) := fun H1 k _ q => h H1 k _ fun v H2 k2 rv => .inr ⟨i, rv.int_inv, hl, q _ H2 k2 (.str _)⟩
def EvJ (K : PySem.W.Frag) (O : Addr → Prop) (σ : L2.St) (H : Hp) : List TE → List Str → Prop
  | [], [] => True
  | t :: ts, x :: xs => EvD K O t σ H (.str x) ∧ EvJ K O σ H ts xs
  | _, _ => False
def catAll : Str → List Str → Str
  | a, [] => a
  | a, x :: xs => catAll (a ++ x) xs
theorem len_app (x y : Str) : (x ++ y).length = x.length + y.length := by
  show (x.cps ++ y.cps).size = _
  rw [Array.size_append]; rfl
theorem evJ_run : ∀ (ts : List TE) (xs : List Str) (acc : Str) (H1 : Hp) (Q : Str → Hp → Prop), EvJ K O σ H ts xs → Kp O H H1 → acc.length + (xs.map (·.length)).sum ≤ sizeLine → (∀ H2, Same H1 H2 → Q (catAll acc xs) H2) → tJs ts acc σ H1 Q
  | [], [], acc, H1, Q, _, _, _, q => q H1 (Same.refl H1)
  | t :: ts, x :: xs, acc, H1, Q, ⟨h, hr⟩, k, hl, q => by
    rw [List.map_cons, List.sum_cons] at hl
    refine h H1 k _ fun v H2 k2 rv => ⟨x, rv.str_inv, by rw [len_app]; omega, ?_⟩
    exact evJ_run ts xs (acc ++ x) H2 Q hr (k.s k2) (by rw [len_app]; omega) fun H3 k3 => q H3 (k2.trans k3)
  | [], _ :: _, _, _, _, h, _, _, _ => h.elim
  | _ :: _, [], _, _, _, h, _, _, _ => h.elim
theorem ev_joined {ts : List TE} {xs : List Str} (h : EvJ K O σ H ts xs) (hl : (xs.map (·.length)).sum ≤ sizeLine) : EvD K O (fun σ H Q => tJs ts Str.empty σ H fun out H1 => Q (.str out) H1) σ H (.str (catAll Str.empty xs)) := fun H1 k Q q =>
  evJ_run ts xs Str.empty H1 _ h k (by show 0 + _ ≤ _; omega) fun H2 k2 => q _ H2 k2 (.str _)
theorem rpAll_strs : ∀ {vs : List V} {ys : List Str}, RpAll K O H vs (ys.map .str) → vs = ys.map V.str
  | _, [], r => by cases r; rfl
  | _, y :: ys, r => by
    cases r with
    | cons h t => rw [h.str_inv, rpAll_strs t]; rfl
theorem ev_join {a : Str} {ys : List Str} (h : EvD K O ta σ H (.str a)) (hl : EvD K O tb σ H (.list (ys.map .str))) (hz : (ys.map (·.length)).sum + ys.length * a.length ≤ 16777216) : EvD K O (tM1 (rJoin K) ta tb) σ H (.str (Txt.join a ys)) := fun H1 k Q q =>
  h H1 k _ fun v H2 k2 rv => ⟨⟨a, rv.str_inv⟩, hl H2 (k.s k2) _ fun u H3 k3 ru => by
    obtain ⟨p, xs, rfl, sp, rp⟩ := ru.lst_inv
    have e := rpAll_strs rp
    subst e
    exact ⟨a, p, ys, rv.str_inv, rfl, .inl sp.sq, hz, q _ H3 (k2.trans k3) (.str _)⟩⟩
end
end OD

set_option Elab.async false
set_option linter.all false
set_option maxRecDepth 100000
set_option maxHeartbeats 4000000
namespace OD
open PySem PySem.Spec PyProof.Rows L2

/-! ### what is walked: a list or a tuple -/
def iSeq (K : PySem.W.Frag) (tl : TE) : TI := fun σ H R => iList K tl σ H R ∨ iTup K tl σ H R
theorem pi_any {X : Cx} {tg l : Expr} {tl : TE} (hl : PE X l tl) : PI X tg l (iSeq X.K tl) :=
  ⟨fun pins s σ H R I h => h.elim ((pi_list hl).run pins s σ H R I) ((pi_tup hl).run pins s σ H R I)⟩
def rSlAny (K : PySem.W.Frag) : V → Option Int → Option Int → Hp → VK → Prop := fun x lo hi H Q => (rSlL K x lo hi H Q ∨ rSlA K x lo hi H Q)
theorem sl_any {X : Cx} : SlR X (rSlAny X.K) := sl_list.or sl_tupA
section
variable {K : PySem.W.Frag} {O : Addr → Prop} {σ : L2.St} {H H' : Hp} {ta tb te ti : TE} {tt tu : TT} {tA tB' : TA} {d e z : PyData} {ds es : List PyData} {Q : VK}
theorem same_mut {H1 Hc : Hp} {D : Addr} {o : HO} (k : Same H1 Hc) (n : H1 D = none) : Same H1 (upd Hc D o) :=
  fun b u h => by rw [upd_ne (ne_of_none h n)]; exact k b u h
theorem Own.same (w : Own O H) (k : Same H H') : Own O H' := fun b h => let ⟨u, e⟩ := w b h; ⟨u, k b u e⟩
theorem Own.upd {p : Addr} {o : HO} (w : Own O H) : Own O (L2.upd H p o) := fun b h => by
  by_cases e : b = p
  · subst e; exact ⟨_, upd_same⟩
  · rw [upd_ne e]; exact w b h
theorem Own.more {p : Addr} {o : HO} (w : Own O H) : Own (fun b => O b ∨ b = p) (L2.upd H p o) := fun b h => by
  by_cases e : b = p
  · subst e; exact ⟨_, upd_same⟩
  · rw [upd_ne e]; exact w b (h.resolve_right e)
/-- what lifts: data known with O at H are known with O' at H1 -/
structure Lf (K : PySem.W.Frag) (O O' : Addr → Prop) (H H1 : Hp) : Prop where
  sub : ∀ a, O a → O' a
  own : Own O' H1
  kp : Kp O H H1
  rp : ∀ {u : V} {e : PyData}, Rp K O H u e → Rp K O' H1 u e
theorem Lf.of {D : Addr} {H0 Hc : Hp} (k0 : Kp O H H0) (hD : H0 D = none) (oc : Own (fun b => O b ∨ b = D) Hc) (kc : Same H0 Hc) : Lf K O (fun b => O b ∨ b = D) H Hc :=
  ⟨fun _ h => .inl h, oc, k0.s kc, fun r => ((r.mono k0).more hD).same kc⟩
/-- the state of a comprehension behind i turns: D the new list -/
structure LcAt (K : PySem.W.Frag) (O : Addr → Prop) (D : Addr) (H0 : Hp) (fs : List PyData) (Hc : Hp) : Prop where
  at_ : ∃ acc, Hc D = some (.lst acc) ∧ RpAll K (fun b => O b ∨ b = D) Hc acc fs
  same : Same H0 Hc
  own : Own (fun b => O b ∨ b = D) Hc
theorem LcAt.start {D : Addr} {H0 : Hp} (hO : Own O H0) (hD : H0 D = none) : LcAt K O D H0 [] (L2.upd H0 D (.lst [])) := ⟨⟨[], upd_same, .nil⟩, same_new hD, hO.more⟩
theorem LcAt.turn {D : Addr} {H0 Hc : Hp} {fs : List PyData} (k0 : Kp O H H0) (hD : H0 D = none) (hz : fs.length < sizeLine) (a : LcAt K O D H0 fs Hc) {τ : L2.St} (el : EvD K (fun b => O b ∨ b = D) te τ Hc e) :
    te τ Hc fun y H4 => ∃ acc, H4 D = some (.lst acc) ∧ acc.length < sizeLine ∧ LcAt K O D H0 (fs ++ [e]) (L2.upd H4 D (.lst (acc ++ [y]))) := by
  obtain ⟨⟨acc, ha, ra⟩, kc, oc⟩ := a
  refine el.use fun y H4 k4 ry => ⟨acc, k4 _ _ ha, by rw [ra.length]; exact hz, ⟨_, upd_same, ?_⟩, same_mut (kc.trans k4) hD, (oc.same k4).upd⟩
  have kp : Kp (fun b => O b ∨ b = D) H4 (L2.upd H4 D (.lst (acc ++ [y]))) := Kp.put (k4 _ _ ha) trivial (.inr rfl)
  exact ((ra.same k4).append (.cons ry .nil)).mono kp
theorem LcAt.done {D : Addr} {H0 Hc : Hp} {fs : List PyData} (hO : Own O H0) (hD : H0 D = none) (a : LcAt K O D H0 fs Hc) : Rp K O Hc (.ref D) (.list fs) := by
  obtain ⟨⟨acc, ha, ra⟩, kc, oc⟩ := a
  exact .lst (.inl ⟨ha, hO.not hD⟩) (ra.less fun _ h => .inl h)
/-- [elt for x in xs], xs a tuple | a list -/
theorem ev_lcT {j : Nat} {vs : List Nat} (h : EvD K O ti σ H (.tuple ds)) (hO : Own O H) (hz : ds.length ≤ sizeLine) (hl : es.length = ds.length) (hw : ∀ v, wipe ((wipe σ vs).set j (some v)) vs = wipe σ vs)
    (el : ∀ O' H1, Lf K O O' H H1 → ∀ (i : Nat) d e v, ds[i]? = some d → es[i]? = some e → Rp K O' H1 v d → EvD K O' te ((wipe σ vs).set j (some v)) H1 e) :
    EvD K O (tLc (iSeq K ti) (gName j) tYes te vs) σ H (.list es) := by
  intro H1 k Q q
  refine .inr (h H1 k _ fun x H2 k2 rx => ?_)
  obtain ⟨a, xs, rfl, sa, ra⟩ := rx.tup_inv
  refine ⟨a, rfl, ⟨xs, sa⟩, fun D hD => ?_⟩
  have hO2 : Own O H2 := hO.mono (k.s k2)
  have lx := ra.length
  refine lc_tup (K := K) (a := a) (xs := xs) (fun i Hc => LcAt K O D H2 (es.take i) Hc) (by rw [List.take_zero]; exact .start hO2 hD) (fun i Hc _ p => sqT_mono (.of_same (O := O) p.same) sa) (fun i x Hc hi p => ?_) (fun Hc p => ?_)
  · refine ⟨hw x, (?_ : te _ _ _)⟩
    have hil : i < es.length := by
      have := (List.getElem?_eq_some_iff.mp hi).1
      omega
    have hd : i < ds.length := by omega
    have he : es[i]? = some es[i] := List.getElem?_eq_getElem hil
    have lf : Lf K O (fun b => O b ∨ b = D) H Hc := .of (k.s k2) hD p.own p.same
    have rv : Rp K (fun b => O b ∨ b = D) Hc x ds[i] := by
      obtain ⟨v', h1, h2⟩ := ra.get (List.getElem?_eq_getElem hd)
      rw [hi] at h1; cases h1
      exact (h2.more hD).same p.same
    have t := p.turn (k.s k2) hD (by rw [List.length_take]; omega) (el _ Hc lf i _ _ x (List.getElem?_eq_getElem hd) he rv)
    have e1 : es.take (i + 1) = es.take i ++ [es[i]] := by rw [List.take_succ, he]; rfl
    rw [e1]
    exact t
  · rw [lx, ← hl, List.take_length] at p
    exact q _ Hc (k2.trans p.same) (p.done hO2 hD)
theorem ev_lcL {j : Nat} {vs : List Nat} (h : EvD K O ti σ H (.list ds)) (hO : Own O H) (hz : ds.length ≤ sizeLine) (hl : es.length = ds.length) (hw : ∀ v, wipe ((wipe σ vs).set j (some v)) vs = wipe σ vs)
    (el : ∀ O' H1, Lf K O O' H H1 → ∀ (i : Nat) d e v, ds[i]? = some d → es[i]? = some e → Rp K O' H1 v d → EvD K O' te ((wipe σ vs).set j (some v)) H1 e) :
    EvD K O (tLc (iSeq K ti) (gName j) tYes te vs) σ H (.list es) := by
  intro H1 k Q q
  refine .inl (h H1 k _ fun x H2 k2 rx => ?_)
  obtain ⟨a, xs, rfl, sa, ra⟩ := rx.lst_inv
  refine ⟨a, rfl, ⟨xs, sa.sq⟩, fun D hD => ?_⟩
  have hO2 : Own O H2 := hO.mono (k.s k2)
  have lx := ra.length
  refine lc_list (K := K) (a := a) (xs := xs) (fun i Hc => LcAt K O D H2 (es.take i) Hc) (by rw [List.take_zero]; exact .start hO2 hD) (fun i Hc _ p => (sa.same p.same).sq) (fun i x Hc hi p => ?_) (fun Hc p => ?_)
  · refine ⟨hw x, (?_ : te _ _ _)⟩
    have hil : i < es.length := by
      have := (List.getElem?_eq_some_iff.mp hi).1
      omega
    have hd : i < ds.length := by omega
    have he : es[i]? = some es[i] := List.getElem?_eq_getElem hil
    have lf : Lf K O (fun b => O b ∨ b = D) H Hc := .of (k.s k2) hD p.own p.same
    have rv : Rp K (fun b => O b ∨ b = D) Hc x ds[i] := by
      obtain ⟨v', h1, h2⟩ := ra.get (List.getElem?_eq_getElem hd)
      rw [hi] at h1; cases h1
      exact (h2.more hD).same p.same
    have t := p.turn (k.s k2) hD (by rw [List.length_take]; omega) (el _ Hc lf i _ _ x (List.getElem?_eq_getElem hd) he rv)
    have e1 : es.take (i + 1) = es.take i ++ [es[i]] := by rw [List.take_succ, he]; rfl
    rw [e1]
    exact t
  · rw [lx, ← hl, List.take_length] at p
    exact q _ Hc (k2.trans p.same) (p.done hO2 hD)

/-! ### a def of data alone -/
def PureSp (K : PySem.W.Frag) (R : List PyData → PyData → Prop) : Sp := fun vs H Q _ =>
  ∃ (O : Addr → Prop) (ds : List PyData) (r : PyData), Own O H ∧ RpAll K O H vs ds ∧ R ds r ∧ ∀ v H', Same H H' → Rp K O H' v r → Q v H'
theorem ev_callP {R : List PyData → PyData → Prop} (hO : Own O H) (h : EvA K O tA σ H ds) (hr : R ds z) : EvD K O (tCall (PureSp K R) [] E0 tA) σ H z := fun H1 k Q q =>
  h H1 k _ fun vs H2 k2 rs => by
    rw [List.append_nil]
    exact ⟨O, ds, z, hO.mono (k.s k2), rs, hr, fun v H' e r => q v H' (k2.trans e) r⟩
end
section
variable {P : Program} {w : World} {K : PySem.W.Frag} {mg : Str → Option Value} {base : Heap}
theorem pure_ok {x qual : Str} {st : Stmt} {f : Addr} {fd : FuncData} {N ps : List Str} {k : Nat} {R : List PyData → PyData → Prop} (F : Fun K x qual st f fd) (S : FnScope N ps (defScope st)) (len : ∀ ds r, R ds r → ds.length = ps.length)
    (hbody : ∀ (cdv : Value) (A : Around) (outer : List Env) (s : Shared) (H : Hp) (E : XK), Room k (A.deeper (envOfC qual (defScope st) s.heap.objs.size f cdv)) →
      ∃ t, PSs (cxOf CX0 P w K mg base N qual (defScope st) f cdv A outer s H E).nox (defBody st) t ∧
        ∀ (O : Addr → Prop) (ds : List PyData) (r : PyData) (vs : List V) (H : Hp) (D : Ends), Own O H → RpAll K O H vs ds → R ds r → (∀ v H', Same H H' → Rp K O H' v r → D.rt v H') → t D (start N vs) H) :
    FnOk P w K mg base CX0 (k + 1) f fd ps (PureSp K R) := by
  refine F.ok S (fun vs H Q E h => ?_) (fun cdv A outer s H vs Q E hr h => ?_)
  · obtain ⟨O, ds, r, _, h1, h2, _⟩ := h
    rw [h1.length, len ds r h2]
  · obtain ⟨t, ht, q⟩ := hbody cdv A outer s H E hr
    obtain ⟨O, ds, r, hO, h1, h2, h3⟩ := h
    exact ⟨t, ht, q O ds r vs H _ hO h1 h2 h3⟩
end
section
variable {K : PySem.W.Frag} {O : Addr → Prop} {σ : L2.St} {H H' : Hp} {ta tb te : TE} {tt : TT} {tS tU : TS} {D : Ends} {d e z : PyData}
/-- if t: S, then what follows -/
theorem q_ifT (h : EvB K O tt σ H true) (q : ∀ H2, Same H H2 → tS { D with nx := tU D } σ H2) : tSeq (tIfS tt tS tNext) tU D σ H := h.use fun H2 k => iteT (q H2 k)
theorem q_ifF (h : EvB K O tt σ H false) (q : ∀ H2, Same H H2 → tU D σ H2) : tSeq (tIfS tt tS tNext) tU D σ H := h.use fun H2 k => iteF (q H2 k)
theorem q_set {i : Nat} (h : EvD K O te σ H d) (q : ∀ v H2, Same H H2 → Rp K O H2 v d → tU D (σ.set i (some v)) H2) : tSeq (tAsg te (gName i)) tU D σ H := h.use q
theorem v_tup (xs ys : List PyData) : PyData.eqv (.tuple xs) (.tuple ys) = PyData.eqvAll xs ys := by simp only [PyData.eqv]
theorem v_lst (xs ys : List PyData) : PyData.eqv (.list xs) (.list ys) = PyData.eqvAll xs ys := by simp only [PyData.eqv]
theorem v_str (x y : Str) : PyData.eqv (.str x) (.str y) = (x == y) := by simp only [PyData.eqv]
theorem v_int (x y : Int) : PyData.eqv (.int x) (.int y) = (x == y) := by simp only [PyData.eqv]
theorem v_bool (x y : Bool) : PyData.eqv (.bool x) (.bool y) = (x == y) := by simp only [PyData.eqv]
theorem v_cons (x y : PyData) (xs ys : List PyData) : PyData.eqvAll (x :: xs) (y :: ys) = (PyData.eqv x y && PyData.eqvAll xs ys) := by simp only [PyData.eqvAll]
theorem v_nil : PyData.eqvAll [] [] = true := by simp only [PyData.eqvAll]
theorem v_nc (y : PyData) (ys : List PyData) : PyData.eqvAll [] (y :: ys) = false := by simp only [PyData.eqvAll]
theorem v_cn (y : PyData) (ys : List PyData) : PyData.eqvAll (y :: ys) [] = false := by simp only [PyData.eqvAll]
theorem sh_int (x : Int) : SeqAt.shaped (.int x) = true := by simp [SeqAt.shaped, PyData.canLay0, PyData.depth]
theorem sh_bool (x : Bool) : SeqAt.shaped (.bool x) = true := by simp [SeqAt.shaped, PyData.canLay0, PyData.depth]
theorem kit_ii : kitB "int" "int" = some true := by decide +kernel
theorem kit_ti : kitB "tuple" "int" = some false := by decide +kernel
/-- texts compared -/
theorem et_eqS {x y : Str} (ha : EvD K O ta σ H (.str x)) (hb : EvD K O tb σ H (.str y)) (h1 : SeqAt.shaped (.str x) = true) (h2 : SeqAt.shaped (.str y) = true) {b : Bool} (hb' : (x == y) = b) : EvB K O (tTest (tOp (rEqD K) ta tb)) σ H b :=
  (et_test (ev_eqD ha hb h1 h2)).is (by rw [v_str]; exact hb')
theorem et_eqI {x y : Int} (ha : EvD K O ta σ H (.int x)) (hb : EvD K O tb σ H (.int y)) {b : Bool} (hb' : (x == y) = b) : EvB K O (tTest (tOp (rEqD K) ta tb)) σ H b :=
  (et_test (ev_eqD ha hb (sh_int x) (sh_int y))).is (by rw [v_int]; exact hb')
end
end OD

set_option Elab.async false
set_option linter.all false
set_option maxRecDepth 100000
set_option autoImplicit false
set_option maxHeartbeats 4000000
namespace OD
open PySem PySem.Spec PyProof.Rows L2

/-! ### the bag: a list of three ints from which the law draws; n draws are left at least -/
def Bag (b : Addr) (n : Nat) (H : Hp) : Prop :=
  ∃ g m c : Int, H b = some (.lst [.int g, .int m, .int c]) ∧ 0 ≤ g ∧ 0 ≤ m ∧ m < 2305843009213693951 ∧ 0 ≤ c ∧ c + n ≤ 1000000000
section
variable {K : PySem.W.Frag} {b : Addr} {O : Addr → Prop} {σ : L2.St} {H H' : Hp} {n n1 n2 m : Nat} {ta tb te ti : TE} {tt tu : TT} {tA : TA} {d e z : PyData} {ds es : List PyData} {Q : VK} {R Ra Rb : PyData → Prop} {S : List PyData → Prop}
theorem Bag.le (h : n ≤ m) (x : Bag b m H) : Bag b n H := by
  obtain ⟨g, q, c, h1, h2, h3, h4, h5, h6⟩ := x
  exact ⟨g, q, c, h1, h2, h3, h4, h5, by omega⟩
theorem Bag.same (k : Same H H') (x : Bag b n H) : Bag b n H' := by
  obtain ⟨g, q, c, h1, r⟩ := x
  exact ⟨g, q, c, k _ _ h1, r⟩
theorem Bag.here (x : Bag b n H) : ∃ o, H b = some o := by
  obtain ⟨g, q, c, h1, r⟩ := x
  exact ⟨_, h1⟩
/-- all but b stays -/
abbrev Kb (b : Addr) (H H' : Hp) : Prop := Kp (fun a => a = b) H H'
theorem Kp.ofb {H1 : Hp} (ob : O b) (k : Kb b H H1) : Kp O H H1 := Kp.wide (fun x (e : x = b) => by rw [e]; exact ob) k
theorem Kp.kb {H1 H2 : Hp} (k : Kp O H H1) (ob : O b) (k2 : Kb b H1 H2) : Kp O H H2 := k.trans (.ofb ob k2)
def EvN (K : PySem.W.Frag) (b : Addr) (O : Addr → Prop) (n : Nat) (te : TE) (σ : L2.St) (H : Hp) (R : PyData → Prop) : Prop :=
  ∀ H1 c, Kp O H H1 → Bag b (c + n) H1 → ∀ Q : VK, (∀ r v H2, R r → Kb b H1 H2 → Bag b c H2 → Rp K O H2 v r → Q v H2) → te σ H1 Q
def EvM (K : PySem.W.Frag) (b : Addr) (O : Addr → Prop) (n : Nat) (ta : TA) (σ : L2.St) (H : Hp) (S : List PyData → Prop) : Prop :=
  ∀ H1 c, Kp O H H1 → Bag b (c + n) H1 → ∀ Q : List V → Hp → Prop, (∀ rs vs H2, S rs → Kb b H1 H2 → Bag b c H2 → RpAll K O H2 vs rs → Q vs H2) → ta σ H1 Q
theorem EvN.use {c : Nat} (h : EvN K b O n te σ H R) (x : Bag b (c + n) H) (q : ∀ r v H2, R r → Kb b H H2 → Bag b c H2 → Rp K O H2 v r → Q v H2) : te σ H Q := h H c (Kp.refl O H) x Q q
theorem EvN.mono {H1 : Hp} (k : Kp O H H1) (h : EvN K b O n te σ H R) : EvN K b O n te σ H1 R := fun H2 c k2 x Q q => h H2 c (k.trans k2) x Q q
theorem EvN.le (l : n ≤ m) (h : EvN K b O n te σ H R) : EvN K b O m te σ H R := fun H1 c k x Q q => h H1 c k (x.le (by omega)) Q q
theorem EvN.imp (h : EvN K b O n te σ H Ra) (i : ∀ r, Ra r → R r) : EvN K b O n te σ H R := fun H1 c k x Q q => h H1 c k x Q fun r v H2 hr => q r v H2 (i r hr)
theorem en_of (h : EvD K O te σ H d) (hR : R d) : EvN K b O 0 te σ H R := fun H1 c k x Q q => h H1 k Q fun v H2 k2 rv => q d v H2 hR (.of_same k2) (x.same k2) rv
theorem em_nil (h : S []) : EvM K b O 0 tNil σ H S := fun H1 c k x Q q => q [] [] H1 h (Kp.refl _ H1) x .nil
theorem em_cons {S1 : List PyData → Prop} (ob : O b) (h : EvN K b O n1 ta σ H R) (hr : EvM K b O n2 tA σ H S1) (i : ∀ d ds, R d → S1 ds → S (d :: ds)) : EvM K b O (n1 + n2) (tCons ta tA) σ H S := fun H1 c k x Q q =>
  h H1 (c + n2) k (x.le (by omega)) _ fun d v H2 hd k2 x2 rv => hr H2 c (k.kb ob k2) x2 _ fun ds vs H3 hs k3 x3 rs => q (d :: ds) (v :: vs) H3 (i d ds hd hs) (k2.trans k3) x3 (.cons (rv.mono (.ofb ob k3)) rs)
theorem em_of (h : EvA K O tA σ H ds) (hS : S ds) : EvM K b O 0 tA σ H S := fun H1 c k x Q q => h H1 k Q fun v H2 k2 rv => q ds v H2 hS (.of_same k2) (x.same k2) rv
theorem en_tup (h : EvM K b O n tA σ H S) (hl : ∀ ds, S ds → ds.length ≤ sizeLine) : EvN K b O n (tTup tA) σ H (fun r => ∃ ds, r = .tuple ds ∧ S ds) := fun H1 c k x Q q =>
  h H1 c k x _ fun ds vs H2 hs k2 x2 rs => ⟨by rw [rs.length]; exact hl ds hs, fun p hp => q _ _ _ ⟨ds, rfl, hs⟩ (k2.s (same_new hp)) (x2.same (same_new hp)) (.tup (.of upd_same) (rs.same (same_new hp)))⟩
theorem en_lst (ob : O b) (hO : Own O H) (h : EvM K b O n tA σ H S) (hl : ∀ ds, S ds → ds.length ≤ sizeLine) : EvN K b O n (tLst tA) σ H (fun r => ∃ ds, r = .list ds ∧ S ds) := fun H1 c k x Q q =>
  h H1 c k x _ fun ds vs H2 hs k2 x2 rs => ⟨by rw [rs.length]; exact hl ds hs, fun p hp => q _ _ _ ⟨ds, rfl, hs⟩ (k2.s (same_new hp)) (x2.same (same_new hp))
    (.lst (.inl ⟨upd_same, (hO.mono (k.kb ob k2)).not hp⟩) (rs.same (same_new hp)))⟩
theorem en_op {r : R2} (ob : O b) (ha : EvN K b O n1 ta σ H Ra) (hb : EvN K b O n2 tb σ H Rb)
    (hr : ∀ d e H1 x y, Ra d → Rb e → Rp K O H1 x d → Rp K O H1 y e → ∀ Q : VK, (∀ z v H2, R z → Same H1 H2 → Rp K O H2 v z → Q v H2) → r x y H1 Q) : EvN K b O (n1 + n2) (tOp r ta tb) σ H R := fun H1 c k x Q q =>
  ha H1 (c + n2) k (x.le (by omega)) _ fun d v H2 hd k2 x2 rv => hb H2 c (k.kb ob k2) x2 _ fun e u H3 he k3 x3 ru =>
    hr d e H3 v u hd he (rv.mono (.ofb ob k3)) ru Q fun z t H4 hz k4 rt => q z t H4 hz ((k2.trans k3).s k4) (x3.same k4) rt
theorem en_if {c : Bool} (h : EvB K O tt σ H c) (h1 : c = true → EvN K b O n ta σ H R) (h2 : c = false → EvN K b O n tb σ H R) : EvN K b O n (tIf tt ta tb) σ H R := fun H1 c' k x Q q => h H1 k _ fun H2 k2 => by
  cases c with
  | true => exact h1 rfl H2 c' (k.s k2) (x.same k2) Q fun r v H3 hr k3 => q r v H3 hr ((Kp.of_same k2).trans k3)
  | false => exact h2 rfl H2 c' (k.s k2) (x.same k2) Q fun r v H3 hr k3 => q r v H3 hr ((Kp.of_same k2).trans k3)
/-- a def that draws: its first argument is the bag -/
def DrawSp (K : PySem.W.Frag) (n : Nat) (pre : List PyData → Prop) (R : List PyData → PyData → Prop) : Sp := fun vs H Q _ =>
  ∃ (b : Addr) (O : Addr → Prop) (c : Nat) (rest : List V) (ds : List PyData), vs = .ref b :: rest ∧ O b ∧ Own O H ∧ Bag b (c + n) H ∧ RpAll K O H rest ds ∧ pre ds ∧
    ∀ r v H', R ds r → Kb b H H' → Bag b c H' → Rp K O H' v r → Q v H'
theorem en_call {i : Nat} {pre : List PyData → Prop} {RR : List PyData → PyData → Prop} (ob : O b) (hO : Own O H) (hi : σ[i]? = some (some (.ref b))) (hA : EvM K b O n1 tA σ H S) (hp : ∀ ds, S ds → pre ds) (hR : ∀ ds r, S ds → RR ds r → R r) :
    EvN K b O (n1 + n2) (tCall (DrawSp K n2 pre RR) [] E0 (tCons (tVar i) tA)) σ H R := fun H1 c k x Q q =>
  ⟨.ref b, hi, hA H1 (c + n2) k (x.le (by omega)) _ fun ds vs H2 hs k2 x2 rs => by
    show DrawSp K n2 pre RR (.ref b :: vs ++ []) H2 Q E0
    rw [List.append_nil]
    exact ⟨b, O, c, vs, ds, rfl, ob, hO.mono (k.kb ob k2), x2, rs, hp ds hs, fun r v H' hr k3 x3 rv => q r v H' (hR ds r hs hr) (k2.trans k3) x3 rv⟩⟩
/-! statements -/
variable {D : Ends} {tU : TS} {c : Nat}
theorem s_retN (h : EvN K b O n te σ H R) (x : Bag b (c + n) H) (q : ∀ r v H2, R r → Kb b H H2 → Bag b c H2 → Rp K O H2 v r → D.rt v H2) : tRet te D σ H := h.use x q
theorem q_setN {i : Nat} (h : EvN K b O n te σ H R) (x : Bag b (c + n) H) (q : ∀ r v H2, R r → Kb b H H2 → Bag b c H2 → Rp K O H2 v r → tU D (σ.set i (some v)) H2) : tSeq (tAsg te (gName i)) tU D σ H := h.use x q
theorem s_retLst (h : EvA K O tA σ H ds) (hl : ds.length ≤ sizeLine) (q : ∀ p vs H2, Same H H2 → H2 p = none → RpAll K O H2 vs ds → D.rt (.ref p) (L2.upd H2 p (.lst vs))) : tRet (tLst tA) D σ H :=
  h.use fun vs H2 k2 rs => ⟨by rw [rs.length]; exact hl, fun p hp => q p vs H2 k2 hp rs⟩
/-! comprehensions over range(k) whose elements draw -/
structure LcB (K : PySem.W.Frag) (b : Addr) (O : Addr → Prop) (D : Addr) (H0 : Hp) (n : Nat) (fs : List PyData) (Hc : Hp) : Prop where
  at_ : ∃ acc, Hc D = some (.lst acc) ∧ RpAll K (fun a => O a ∨ a = D) Hc acc fs
  kb : Kb b H0 Hc
  own : Own (fun a => O a ∨ a = D) Hc
  bag : Bag b n Hc
theorem kb_mut {H1 Hc : Hp} {D : Addr} {o : HO} (k : Kb b H1 Hc) (n : H1 D = none) : Kb b H1 (L2.upd Hc D o) :=
  ⟨fun a u h q => by rw [upd_ne (ne_of_none h n)]; exact k.1 a u h q, fun a u h => by rw [upd_ne (ne_of_none h n)]; exact k.2 a u h⟩
theorem en_lcP {j : Nat} {vs : List Nat} {mx : Nat} {Pk : Int → Prop} (ob : O b) (hO : Own O H) (hmx : mx ≤ 1000) (hi : EvN K b O n1 ti σ H (fun r => ∃ k : Int, r = .int k ∧ 0 ≤ k ∧ k ≤ mx ∧ Pk k)) (hw : ∀ v, wipe ((wipe σ vs).set j (some v)) vs = wipe σ vs)
    (el : ∀ O' H1, O' b → Lf K O O' H H1 → ∀ (i : Nat), EvN K b O' n2 te ((wipe σ vs).set j (some (.int (0 + i)))) H1 R) :
    EvN K b O (n1 + mx * n2) (tLc (iRng1 (tCons ti tNil)) (gName j) tYes te vs) σ H (fun r => ∃ es : List PyData, r = .list es ∧ es.length ≤ mx ∧ Pk es.length ∧ ∀ e ∈ es, R e) := by
  intro H1 c k x Q q
  refine hi H1 (c + mx * n2) k (x.le (by omega)) _ fun r v H2 hr k2 x2 rv => ?_
  obtain ⟨kk, rfl, k0, km, pk⟩ := hr
  have ev := rv.int_inv
  subst ev
  refine ⟨kk, rfl, by omega, by omega, fun D hD => ?_⟩
  have hO2 : Own O H2 := hO.mono (k.kb ob k2)
  obtain ⟨n, rfl⟩ := Int.eq_ofNat_of_zero_le k0
  have nm : n ≤ mx := by omega
  have hbD : b ≠ D := fun e => by
    obtain ⟨o, ho⟩ := x2.here
    rw [e, hD] at ho; cases ho
  refine lc_range (lo := 0) (n := n) (fun i Hc => ∃ fs, LcB K b O D H2 (c + (mx - i) * n2) fs Hc ∧ fs.length = i ∧ ∀ e ∈ fs, R e) ?_ (fun i Hc hil p => ?_) (fun Hc p => ?_)
  · exact ⟨[], ⟨⟨[], upd_same, .nil⟩, Kp.new hD, hO2.more, (x2.same (same_new hD)).le (Nat.le_refl _)⟩, rfl, fun _ h => nomatch h⟩
  · obtain ⟨fs, ⟨⟨acc, ha, ra⟩, kc, oc, bc⟩, fl, fR⟩ := p
    refine ⟨hw _, (?_ : te _ _ _)⟩
    have lf : Lf K O (fun a => O a ∨ a = D) H Hc := ⟨fun _ h => .inl h, oc, k.kb ob (k2.trans kc), fun r => ((r.mono (k.kb ob k2)).more hD).mono (Kp.wide (fun x (e : x = b) => by rw [e]; exact .inl ob) kc)⟩
    have em : (mx - i) * n2 = (mx - (i + 1)) * n2 + n2 := by
      have : mx - i = (mx - (i + 1)) + 1 := by omega
      rw [this, Nat.succ_mul]
    refine (el _ Hc (.inl ob) lf i).use (c := c + (mx - (i + 1)) * n2) (bc.le (by omega)) fun r y H4 hr k4 x4 ry => ?_
    have hb4 : H4 D = some (.lst acc) := k4.1 D _ ha fun _ e => hbD e.symm
    refine ⟨acc, hb4, ?_, fs ++ [r], ⟨⟨acc ++ [y], upd_same, ?_⟩, kb_mut (kc.trans k4) hD, (oc.mono k4).upd, ?_⟩, by rw [List.length_append, fl]; rfl, fun e he => ?_⟩
    · rw [ra.length, fl]; exact Nat.lt_of_lt_of_le (show i < 10000 by omega) (by decide)
    · have kp : Kp (fun a => O a ∨ a = D) H4 (L2.upd H4 D (.lst (acc ++ [y]))) := Kp.put hb4 trivial (.inr rfl)
      exact ((ra.mono (Kp.wide (fun x (e : x = b) => by rw [e]; exact .inl ob) k4)).append (.cons ry .nil)).mono kp
    · obtain ⟨g, m, cc, h1, hrest⟩ := x4
      exact ⟨g, m, cc, by rw [upd_ne hbD]; exact h1, hrest⟩
    · rcases List.mem_append.mp he with h | h
      · exact fR e h
      · rw [List.mem_singleton.mp h]; exact hr
  · obtain ⟨fs, ⟨⟨acc, ha, ra⟩, kc, oc, bc⟩, fl, fR⟩ := p
    exact q _ _ Hc ⟨fs, rfl, by omega, by rw [fl]; exact pk, fR⟩ (k2.trans kc) (bc.le (by omega)) (.lst (.inl ⟨ha, hO2.not hD⟩) (ra.less fun _ h => .inl h))
theorem en_lcR {j : Nat} {vs : List Nat} {mx : Nat} (ob : O b) (hO : Own O H) (hmx : mx ≤ 1000) (hi : EvN K b O n1 ti σ H (fun r => ∃ k : Int, r = .int k ∧ 0 ≤ k ∧ k ≤ mx)) (hw : ∀ v, wipe ((wipe σ vs).set j (some v)) vs = wipe σ vs)
    (el : ∀ O' H1, O' b → Lf K O O' H H1 → ∀ (i : Nat), EvN K b O' n2 te ((wipe σ vs).set j (some (.int (0 + i)))) H1 R) :
    EvN K b O (n1 + mx * n2) (tLc (iRng1 (tCons ti tNil)) (gName j) tYes te vs) σ H (fun r => ∃ es, r = .list es ∧ es.length ≤ mx ∧ ∀ e ∈ es, R e) :=
  (en_lcP (Pk := fun _ => True) ob hO hmx (hi.imp fun r ⟨k, e, k0, k1⟩ => ⟨k, e, k0, k1, trivial⟩) hw el).imp fun r ⟨es, e, l, _, h⟩ => ⟨es, e, l, h⟩
end
section
variable {P : Program} {w : World} {K : PySem.W.Frag} {mg : Str → Option Value} {base : Heap}
theorem draw_ok {x qual : Str} {st : Stmt} {f : Addr} {fd : FuncData} {N ps : List Str} {k n : Nat} {pre : List PyData → Prop} {R : List PyData → PyData → Prop} (F : Fun K x qual st f fd) (S : FnScope N ps (defScope st)) (len : ∀ ds, pre ds → ds.length + 1 = ps.length)
    (hbody : ∀ (cdv : Value) (A : Around) (outer : List Env) (s : Shared) (H : Hp) (E : XK), Room k (A.deeper (envOfC qual (defScope st) s.heap.objs.size f cdv)) →
      ∃ t, PSs (cxOf CX0 P w K mg base N qual (defScope st) f cdv A outer s H E).nox (defBody st) t ∧
        ∀ (b : Addr) (O : Addr → Prop) (c : Nat) (ds : List PyData) (rest : List V) (H : Hp) (D : Ends), O b → Own O H → Bag b (c + n) H → RpAll K O H rest ds → pre ds →
          (∀ r v H', R ds r → Kb b H H' → Bag b c H' → Rp K O H' v r → D.rt v H') → t D (start N (.ref b :: rest)) H) :
    FnOk P w K mg base CX0 (k + 1) f fd ps (DrawSp K n pre R) := by
  refine F.ok S (fun vs H Q E h => ?_) (fun cdv A outer s H vs Q E hr h => ?_)
  · obtain ⟨b, O, c, rest, ds, rfl, _, _, _, h1, h2, _⟩ := h
    rw [List.length_cons, h1.length, len ds h2]
  · obtain ⟨t, ht, q⟩ := hbody cdv A outer s H E hr
    obtain ⟨b, O, c, rest, ds, rfl, ob, hO, x, h1, h2, h3⟩ := h
    exact ⟨t, ht, q b O c ds rest H _ ob hO x h1 h2 h3⟩
theorem fn_none {f : Addr} {fd : FuncData} {ps : List Str} {sp : Sp} {CX : CXT} {k : Nat} (no : ∀ vs H Q E, ¬ sp vs H Q E) : FnOk P w K mg base CX k f fd ps sp :=
  ⟨fun vs H Q E h => absurd h (no vs H Q E), fun A outer s H args us vs Q E _ _ _ _ h => absurd h (no vs H Q E)⟩
end
/-- nothing is owned -/
abbrev N0 : Addr → Prop := fun _ => False
theorem own0 (H : Hp) : Own N0 H := fun _ h => h.elim
def PTake : List PyData → Prop := fun ds => ∃ m : Int, ds = [.int m] ∧ 1 ≤ m ∧ m ≤ 1000000000
def RTake : List PyData → PyData → Prop := fun ds r => ∃ m k : Int, ds = [.int m] ∧ r = .int k ∧ 0 ≤ k ∧ k < m
def POf : List PyData → Prop := fun ds => ∃ xs : List PyData, ds = [.list xs] ∧ 1 ≤ xs.length ∧ xs.length ≤ 1000000
def ROf : List PyData → PyData → Prop := fun ds r => ∃ xs : List PyData, ds = [.list xs] ∧ r ∈ xs
def spBag (K : PySem.W.Frag) : Sp := fun vs H Q _ => ∃ (a : Addr) (ns : List Int) (i : Int), vs = [.ref a, .int i] ∧ SqX K H a (ns.map V.int) ∧ 0 ≤ i ∧ i ≤ 1000 ∧
  ∀ p H', H p = none → Same H H' → Bag p 999999999 H' → Q (.ref p) H'
theorem sqX0 {K : PySem.W.Frag} {H : Hp} {a : Addr} {xs : List V} (o : Only H) (h : SqL K H a xs) : SqX K H a xs := by
  rcases h with (h | h) | h
  · rcases o a with e | ⟨ob, ys, e⟩
    · rw [h] at e; cases e
    · rw [h] at e; cases e
  · exact .inl h
  · exact .inr h
theorem rp_ints {K : PySem.W.Frag} {O : Addr → Prop} {H : Hp} : ∀ ns : List Int, RpAll K O H (ns.map V.int) (ns.map PyData.int)
  | [] => .nil
  | n :: ns => .cons (.int n) (rp_ints ns)
theorem bag_rp {K : PySem.W.Frag} {H : Hp} {b : Addr} {g m c : Int} (h : H b = some (.lst [.int g, .int m, .int c])) : Rp K N0 H (.ref b) (.list [.int g, .int m, .int c]) :=
  .lst (.inl ⟨h, id⟩) (.cons (.int g) (.cons (.int m) (.cons (.int c) .nil)))
section
variable {K : PySem.W.Frag} {b : Addr} {O : Addr → Prop} {σ : L2.St} {H H' : Hp} {n n1 n2 m : Nat} {ta tb te ti : TE} {tA : TA} {d e z : PyData} {ds es : List PyData} {R : PyData → Prop} {S : List PyData → Prop}
theorem em_consD (ob : O b) (h : EvD K O ta σ H d) (hr : EvM K b O n tA σ H S) : EvM K b O n (tCons ta tA) σ H (fun l => ∃ ds, l = d :: ds ∧ S ds) := fun H1 c k x Q q =>
  h H1 k _ fun v H2 k2 rv => hr H2 c (k.s k2) (x.same k2) _ fun ds vs H3 hs k3 x3 rs => q (d :: ds) (v :: vs) H3 ⟨ds, rfl, hs⟩ ((Kp.of_same k2).trans k3) x3 (.cons (rv.mono (.ofb ob k3)) rs)
theorem em_consN (ob : O b) (h : EvN K b O n1 ta σ H R) (hr : EvM K b O n2 tA σ H S) : EvM K b O (n1 + n2) (tCons ta tA) σ H (fun l => ∃ d ds, l = d :: ds ∧ R d ∧ S ds) :=
  em_cons ob h hr fun d ds h1 h2 => ⟨d, ds, rfl, h1, h2⟩
theorem em_end : EvM K b O 0 tNil σ H (fun l => l = []) := em_nil rfl
theorem en_cb {r : List V → Hp → VK → Prop} (h : EvM K b O n tA σ H S) (hr : ∀ ds H1 vs, S ds → RpAll K O H1 vs ds → (Own O H1) → ∀ Q : VK, (∀ z v H2, R z → Same H1 H2 → Rp K O H2 v z → Q v H2) → r vs H1 Q) (ob : O b) (hO : Own O H) : EvN K b O n (tCB r tA) σ H R := fun H1 c k x Q q =>
  h H1 c k x _ fun ds vs H2 hs k2 x2 rs => hr ds H2 vs hs rs (hO.mono (k.kb ob k2)) Q fun z v H3 hz k3 rv => q z v H3 hz (k2.s k3) (x2.same k3) rv
/-- tuple(a list) -/
theorem en_tupL {P : List PyData → Prop} (ob : O b) (hO : Own O H) (h : EvN K b O n ta σ H (fun r => ∃ es, r = .list es ∧ P es)) : EvN K b O n (tCB (rTupA K) (tCons ta tNil)) σ H (fun r => ∃ es, r = .tuple es ∧ P es) := by
  have q := en_cb (r := rTupA K) (R := fun r => ∃ es, r = .tuple es ∧ P es) (em_consN ob h em_end) (fun ds H1 vs hs rs _ Q q => by
    obtain ⟨d, ds', rfl, ⟨es, rfl, hp⟩, rfl⟩ := hs
    obtain ⟨v, rfl, rv⟩ := rs.one_inv
    obtain ⟨a, xs, rfl, sa, ra⟩ := rv.lst_inv
    exact ⟨a, xs, rfl, .inl ⟨sa.sq, fun l hl => q _ _ _ ⟨es, rfl, hp⟩ (same_new hl) (.tup (.of upd_same) (ra.same (same_new hl)))⟩⟩) ob hO
  exact q
/-- one of some written items -/
theorem en_ofS {i : Nat} {xs : List PyData} (ob : O b) (hO : Own O H) (hi : σ[i]? = some (some (.ref b))) (h : EvA K O tA σ H xs) (h1 : 1 ≤ xs.length) (h2 : xs.length ≤ 1000) :
    EvN K b O 1 (tCall (DrawSp K 1 POf ROf) [] E0 (tCons (tVar i) (tCons (tLst tA) tNil))) σ H (fun r => r ∈ xs) :=
  en_call (n1 := 0) (n2 := 1) ob hO hi (em_of (S := fun ds => ds = [.list xs]) (ea_cons (ev_lst hO h (Nat.le_trans h2 (by decide))) ea_nil) rfl)
    (fun ds e => ⟨xs, e, h1, by omega⟩) (fun ds r e hr => by
      obtain ⟨ys, e2, hm⟩ := hr
      rw [e] at e2
      injection e2 with e2
      injection e2 with e2
      rw [e2]
      exact hm)
/-- a draw below a written number -/
theorem en_take {i : Nat} {m : Int} (ob : O b) (hO : Own O H) (hi : σ[i]? = some (some (.ref b))) (h : EvD K O ta σ H (.int m)) (h1 : 1 ≤ m) (h2 : m ≤ 1000000000) :
    EvN K b O 1 (tCall (DrawSp K 1 PTake RTake) [] E0 (tCons (tVar i) (tCons ta tNil))) σ H (fun r => ∃ k : Int, r = .int k ∧ 0 ≤ k ∧ k < m) :=
  en_call (n1 := 0) (n2 := 1) ob hO hi (em_of (S := fun ds => ds = [.int m]) (ea_cons h ea_nil) rfl)
    (fun ds e => ⟨m, e, h1, h2⟩) (fun ds r e hr => by
      obtain ⟨m', k, e2, rfl, k0, k1⟩ := hr
      rw [e] at e2
      injection e2 with e2
      injection e2 with e2
      exact ⟨k, rfl, k0, by omega⟩)
end
end OD

set_option Elab.async false
set_option linter.all false
set_option maxRecDepth 100000
set_option autoImplicit false
set_option maxHeartbeats 4000000
namespace OD
open PySem PySem.Spec PyProof.Rows L2
section
variable {K : PySem.W.Frag} {b : Addr} {O : Addr → Prop} {σ : L2.St} {H H' : Hp} {n n1 n2 m : Nat} {ta tb te ti : TE} {tt tu : TT} {tA : TA} {d e z : PyData} {ds es : List PyData} {R : PyData → Prop} {S : List PyData → Prop}
theorem ev_neg {i : Int} (h : EvD K O ta σ H (.int i)) : EvD K O (tUn (rU fun i => .int (-i)) ta) σ H (.int (-i)) := fun H1 k Q q => h H1 k _ fun v H2 k2 rv => ⟨i, rv.int_inv, q _ H2 k2 (.int _)⟩
theorem inV_strs (x : Str) (ys : List Str) : inV (.str x) (ys.map V.str) = ys.contains x := by
  unfold inV
  induction ys with
  | nil => rfl
  | cons y ys ih =>
    rw [List.map_cons, List.any_cons, ih, List.contains_cons]
    have e : eqV (.str y) (.str x) = (x == y) := by
      show (y == x) = _
      rw [Bool.eq_iff_iff, beq_iff_eq, beq_iff_eq]
      exact eq_comm
    rw [e]
theorem flat_strs (ys : List Str) : (ys.map V.str).all flatV = true := by
  rw [List.all_eq_true]
  intro v hv
  obtain ⟨y, _, rfl⟩ := List.mem_map.mp hv
  rfl
/-- x in a tuple of texts -/
theorem ev_inS {x : Str} {ys : List Str} {c : Bool} (ha : EvD K O ta σ H (.str x)) (hb : EvD K O tb σ H (.tuple (ys.map PyData.str))) (hc : ys.contains x = c) : EvD K O (tOp (rIn K false) ta tb) σ H (.bool c) :=
  ev_op ha hb fun H1 u v _ ru rv Q q => by
    obtain ⟨a, xs, rfl, sa, ra⟩ := rv.tup_inv
    have e := rpAll_strs ra
    subst e
    rw [ru.str_inv]
    refine ⟨a, _, rfl, .inr sa, rfl, flat_strs ys, ?_⟩
    rw [inV_strs, hc]
    exact q _ H1 (Same.refl H1) (.bl c)
def cutD (xs : List PyData) (lo hi : Option Int) : List PyData := (xs.drop (HT.sIx xs.length 0 lo)).take (HT.sIx xs.length xs.length hi - HT.sIx xs.length 0 lo)
def EvO (K : PySem.W.Frag) (O : Addr → Prop) (to : TO) (σ : L2.St) (H : Hp) (o : Option Int) : Prop := ∀ H1, Kp O H H1 → ∀ Q : Option Int → Hp → Prop, (∀ H2, Same H1 H2 → Q o H2) → to σ H1 Q
theorem eo_none : EvO K O tNoPart σ H none := fun H1 _ _ q => q H1 (Same.refl H1)
theorem eo_some {i : Int} (h : EvD K O te σ H (.int i)) : EvO K O (tPart te) σ H (some i) := fun H1 k _ q => h H1 k _ fun v H2 k2 rv => ⟨i, rv.int_inv, q H2 k2⟩
theorem ev_slT {tl th : TO} {lo hi : Option Int} (h : EvD K O te σ H (.tuple ds)) (h1 : EvO K O tl σ H lo) (h2 : EvO K O th σ H hi) : EvD K O (tSl (rSlAny K) te tl th) σ H (.tuple (cutD ds lo hi)) := fun H1 k Q q =>
  h H1 k _ fun v H2 k2 rv => h1 H2 (k.s k2) _ fun H3 k3 => h2 H3 ((k.s k2).s k3) _ fun H4 k4 => by
    obtain ⟨a, xs, rfl, sa, ra⟩ := rv.tup_inv
    have kk := k3.trans k4
    have sa4 : SqT K H4 a xs := sqT_mono (.of_same (O := O) kk) sa
    have ra4 := ra.same kk
    have lx := ra.length
    refine .inr ⟨a, xs, rfl, sa4, fun hw => ?_, fun _ p hp => ?_⟩
    · refine q _ H4 ((k2.trans k3).trans k4) (.tup sa4 ?_)
      unfold cutD
      rw [lx] at hw
      rw [hw.1, hw.2, List.drop_zero, Nat.sub_zero, List.take_length]
      exact ra4
    · refine q _ _ (((k2.trans k3).trans k4).trans (same_new hp)) (.tup (.of upd_same) ?_)
      unfold cutD cutV
      rw [lx]
      exact ((ra4.drop _).take _).same (same_new hp)
theorem ev_listT (hO : Own O H) (h : EvD K O ta σ H (.tuple ds)) : EvD K O (tCB (rListA K) (tCons ta tNil)) σ H (.list ds) := fun H1 k Q q =>
  h H1 k _ fun v H2 k2 rv => by
    obtain ⟨a, xs, rfl, sa, ra⟩ := rv.tup_inv
    exact ⟨a, xs, rfl, .inr sa, fun l hl => q _ _ (k2.trans (same_new hl)) (.lst (.inl ⟨upd_same, (hO.mono (k.s k2)).not hl⟩) (ra.same (same_new hl)))⟩
/-- t + u, u drawn -/
theorem en_addT {P : List PyData → Prop} (ob : O b) (ha : EvD K O ta σ H (.tuple ds)) (hb : EvN K b O n tb σ H (fun r => ∃ es, r = .tuple es ∧ P es)) (hl : ∀ es, P es → ds.length + es.length ≤ sizeLine) : EvN K b O n (tOp (rAddA K) ta tb) σ H (fun r => ∃ es, r = .tuple (ds ++ es) ∧ P es) :=
  EvN.le (Nat.le_of_eq (Nat.zero_add n)) (en_op (n1 := 0) ob (en_of (R := fun r => r = .tuple ds) ha rfl) hb fun d e H1 x y hd he rx ry Q q => by
    subst hd
    obtain ⟨es, rfl, hp⟩ := he
    obtain ⟨a, xs, rfl, sa, ra⟩ := rx.tup_inv
    obtain ⟨c, ys, rfl, sc, rc⟩ := ry.tup_inv
    refine .inr (.inl ⟨a, c, xs, ys, rfl, rfl, sa, sc, by rw [ra.length, rc.length]; exact hl es hp, fun e1 => ?_, fun e1 e2 => ?_, fun e1 e2 p hpp => ?_⟩)
    · subst e1; cases ra; exact q _ _ H1 ⟨es, rfl, hp⟩ (Same.refl H1) (.tup sc rc)
    · subst e2; cases rc; exact q _ _ H1 ⟨[], rfl, hp⟩ (Same.refl H1) (by rw [List.append_nil]; exact .tup sa ra)
    · exact q _ _ _ ⟨es, rfl, hp⟩ (same_new hpp) (.tup (.of upd_same) ((ra.append rc).same (same_new hpp))))
/-- a list with drawn items behind it -/
theorem en_addL {P : List PyData → Prop} (ob : O b) (hO : Own O H) (ha : EvD K O ta σ H (.list ds)) (hb : EvN K b O n tb σ H (fun r => ∃ es, r = .list es ∧ P es)) (hl : ∀ es, P es → ds.length + es.length ≤ sizeLine) : EvN K b O n (tOp (rAddA K) ta tb) σ H (fun r => ∃ es, r = .list (ds ++ es) ∧ P es) := fun H1 c k x Q q =>
  ha H1 k _ fun u H2 k2 ru => hb H2 c (k.s k2) (x.same k2) _ fun r v H3 hr k3 x3 rv => by
    obtain ⟨es, rfl, hp⟩ := hr
    obtain ⟨a, xs, rfl, sa, ra⟩ := (ru.mono (.ofb ob k3)).lst_inv
    obtain ⟨c, ys, rfl, sc, rc⟩ := rv.lst_inv
    refine .inr (.inr ⟨a, c, xs, ys, rfl, rfl, sa.rd, sc.rd, by rw [ra.length, rc.length]; exact hl es hp, fun p hpp => ?_⟩)
    have kk : Kb b H1 H3 := (Kp.of_same k2).trans k3
    exact q _ _ _ ⟨es, rfl, hp⟩ (kk.s (same_new hpp)) (x3.same (same_new hpp)) (.lst (.inl ⟨upd_same, (hO.mono (k.kb ob kk)).not hpp⟩) ((ra.append rc).same (same_new hpp)))
/-- max and min of two ints -/
theorem ev_max {i j : Int} (ha : EvD K O ta σ H (.int i)) (hb : EvD K O tb σ H (.int j)) : EvD K O (tCB (fun xs H Q => ∃ i j, xs = [.int i, .int j] ∧ Q (.int (if j > i then j else i)) H) (tCons ta (tCons tb tNil))) σ H (.int (if j > i then j else i)) :=
  ev_cb (ea_cons ha (ea_cons hb ea_nil)) fun H1 vs _ rs Q q => by
    obtain ⟨u, v, rfl, ru, rv⟩ := rs.two_inv
    exact ⟨i, j, by rw [ru.int_inv, rv.int_inv], q _ H1 (Same.refl H1) (.int _)⟩
theorem ev_min {i j : Int} (ha : EvD K O ta σ H (.int i)) (hb : EvD K O tb σ H (.int j)) : EvD K O (tCB (fun xs H Q => ∃ i j, xs = [.int i, .int j] ∧ Q (.int (if j < i then j else i)) H) (tCons ta (tCons tb tNil))) σ H (.int (if j < i then j else i)) :=
  ev_cb (ea_cons ha (ea_cons hb ea_nil)) fun H1 vs _ rs Q q => by
    obtain ⟨u, v, rfl, ru, rv⟩ := rs.two_inv
    exact ⟨i, j, by rw [ru.int_inv, rv.int_inv], q _ H1 (Same.refl H1) (.int _)⟩
/-- for x in range(n) -/
theorem f_range {g : TG} {tb : TS} {D : Ends} {z : Int} (h : EvD K O ti σ H (.int z)) (z0 : 0 ≤ z) (z1 : z ≤ 1000000) (Pv : Nat → L2.St → Hp → Prop) (h0 : ∀ H1, Same H H1 → Pv 0 σ H1)
    (hs : ∀ (i : Nat) σ H, i < z.toNat → Pv i σ H → g (.int (0 + i)) σ H fun σ2 H2 => tb { D with nx := Pv (i + 1), ct := Pv (i + 1), bk := D.nx } σ2 H2) (hd : ∀ σ H, Pv z.toNat σ H → D.nx σ H) : tFor (iRng1 (tCons ti tNil)) g tb D σ H :=
  h.use fun v H1 k1 rv => ⟨z, by rw [rv.int_inv], by omega, by omega, for_range (lo := 0) (n := z.toNat) Pv (h0 H1 k1) hs hd⟩
/-- for x, y in zip(two lists) -/
theorem f_zip {g : TG} {tb : TS} {D : Ends} {fs gs : List PyData} {i1 i2 : Nat} {u1 u2 : V} (e1 : σ[i1]? = some (some u1)) (e2 : σ[i2]? = some (some u2)) (r1 : Rp K O H u1 (.list fs)) (r2 : Rp K O H u2 (.list gs)) (hl : fs.length = gs.length)
    (Pv : Nat → L2.St → Hp → Prop) (h0 : Pv 0 σ H) (hp : ∀ i σ H1, Pv i σ H1 → Kp O H H1)
    (hs : ∀ (i : Nat) d e x y T σ H, fs[i]? = some d → gs[i]? = some e → Pv i σ H → H T = none → Rp K O (L2.upd H T (.tup [x, y])) x d → Rp K O (L2.upd H T (.tup [x, y])) y e → g (.ref T) σ (L2.upd H T (.tup [x, y])) fun σ2 H2 => tb { D with nx := Pv (i + 1), ct := Pv (i + 1), bk := D.nx } σ2 H2)
    (hd : ∀ σ H, Pv fs.length σ H → D.nx σ H) : tFor (iZip K (tCons (tVar i1) (tCons (tVar i2) tNil))) g tb D σ H := by
  obtain ⟨a, xs, rfl, sa, ra⟩ := r1.lst_inv
  obtain ⟨c, ys, rfl, sc, rc⟩ := r2.lst_inv
  have la := ra.length
  have lc := rc.length
  refine ⟨_, e1, _, e2, a, c, xs, ys, rfl, sa.sq, sc.sq, ?_⟩
  refine RZ.for_zipL (K := K) (xs := xs) (ys := ys) (by omega) Pv h0 (fun i σ' H' p => ⟨(sa.mono (hp i σ' H' p)).sq, (sc.mono (hp i σ' H' p)).sq⟩) ?_ (fun σ' H' p => by rw [la] at p; exact hd σ' H' p)
  intro i x y T σ' H' hx hy p hT
  have kp := hp i σ' H' p
  have li : i < xs.length := (List.getElem?_eq_some_iff.mp hx).1
  have l1 : i < fs.length := by omega
  have l2 : i < gs.length := by omega
  obtain ⟨x', q1, q2⟩ := ra.get (List.getElem?_eq_getElem l1)
  obtain ⟨y', q3, q4⟩ := rc.get (List.getElem?_eq_getElem l2)
  rw [hx] at q1; cases q1
  rw [hy] at q3; cases q3
  exact hs i _ _ x y T σ' H' (List.getElem?_eq_getElem l1) (List.getElem?_eq_getElem l2) p hT ((q2.mono kp).same (same_new hT)) ((q4.mono kp).same (same_new hT))
end
section
variable {K : PySem.W.Frag} {b : Addr} {O : Addr → Prop} {σ : L2.St} {H H' : Hp} {n n1 n2 m : Nat} {ta tb te ti : TE} {tt tu : TT} {tA : TA} {d e z : PyData} {ds es : List PyData} {R : PyData → Prop} {S : List PyData → Prop}
theorem ev_andV {c d : Bool} (h1 : EvD K O ta σ H (.bool c)) (h2 : c = true → EvD K O tb σ H (.bool d)) : EvD K O (tAndV ta tb) σ H (.bool (c && d)) := fun H1 k Q q => h1 H1 k _ fun v H2 k2 rv => ⟨c, rv.bool_inv, by
  cases c with
  | true => exact iteT (h2 rfl H2 (k.s k2) Q fun v H3 k3 rv => q v H3 (k2.trans k3) rv)
  | false => exact iteF (q _ H2 k2 (.bl false))⟩
theorem same_kb {H1 H2 : Hp} {p : Addr} (k : Same H H1) (n : H p = none) (k2 : Kb p H1 H2) : Same H H2 := fun a o h => k2.1 a o (k a o h) fun _ e => by
  rw [e, n] at h; cases h
/-! tests that draw -/
def EvT (K : PySem.W.Frag) (b : Addr) (O : Addr → Prop) (n : Nat) (tt : TT) (σ : L2.St) (H : Hp) (P : Bool → Prop) : Prop :=
  ∀ H1 c, Kp O H H1 → Bag b (c + n) H1 → ∀ Q : Bool → Hp → Prop, (∀ t H2, P t → Kb b H1 H2 → Bag b c H2 → Q t H2) → tt σ H1 Q
theorem etn_test {P : Bool → Prop} (h : EvN K b O n te σ H (fun r => ∃ t, r = .bool t ∧ P t)) : EvT K b O n (tTest te) σ H P := fun H1 c k x Q q => h H1 c k x _ fun r v H2 hr k2 x2 rv => by
  obtain ⟨t, rfl, ht⟩ := hr
  exact ⟨t, rv.bool_inv, q t H2 ht k2 x2⟩
theorem etn_orF {P : Bool → Prop} (h : EvB K O tt σ H false) (h2 : EvT K b O n tu σ H P) : EvT K b O n (tOr tt tu) σ H P := fun H1 c k x Q q => h H1 k _ fun H2 k2 =>
  h2 H2 c (k.s k2) (x.same k2) Q fun t H3 ht k3 x3 => q t H3 ht ((Kp.of_same k2).trans k3) x3
theorem q_ifN {tS tU : TS} {D : Ends} {P : Bool → Prop} {c : Nat} (h : EvT K b O n tt σ H P) (x : Bag b (c + n) H) (q1 : ∀ H2, P true → Kb b H H2 → Bag b c H2 → tS { D with nx := tU D } σ H2) (q2 : ∀ H2, P false → Kb b H H2 → Bag b c H2 → tU D σ H2) : tSeq (tIfS tt tS tNext) tU D σ H :=
  h H c (Kp.refl O H) x _ fun t H2 ht k2 x2 => by
    cases t with
    | true => exact iteT (q1 H2 ht k2 x2)
    | false => exact iteF (q2 H2 ht k2 x2)
theorem en_ifT {P : Bool → Prop} (ob : O b) (h : EvT K b O n1 tt σ H P) (h1 : EvN K b O n2 ta σ H R) (h2 : EvN K b O n2 tb σ H R) : EvN K b O (n1 + n2) (tIf tt ta tb) σ H R := fun H1 c k x Q q =>
  h H1 (c + n2) k (x.le (by omega)) _ fun t H2 _ k2 x2 => by
    cases t with
    | true => exact iteT (h1 H2 c (k.kb ob k2) x2 Q fun r v H3 hr k3 x3 rv => q r v H3 hr (k2.trans k3) x3 rv)
    | false => exact iteF (h2 H2 c (k.kb ob k2) x2 Q fun r v H3 hr k3 x3 rv => q r v H3 hr (k2.trans k3) x3 rv)
theorem cutD_last (xs : List PyData) (y : PyData) : cutD (xs ++ [y]) none (some (-1)) = xs := by
  unfold cutD
  have e1 : HT.sIx (xs ++ [y]).length 0 none = 0 := rfl
  have e2 : HT.sIx (xs ++ [y]).length (xs ++ [y]).length (some (-1)) = xs.length := by
    show (if (-1 : Int) < 0 then ((-1 : Int) + ((xs ++ [y]).length : Int)).toNat else min (-1 : Int).toNat (xs ++ [y]).length) = xs.length
    rw [if_pos (by decide), List.length_append, List.length_singleton]
    omega
  rw [e1, e2, List.drop_zero, Nat.sub_zero, List.take_append_of_le_length (Nat.le_refl _), List.take_length]
theorem sh_tup {ds : List PyData} (h1 : PyData.canLayAll0 ds = true) (h2 : PyData.depthAll ds + 1 ≤ 64) : SeqAt.shaped (.tuple ds) = true := by
  have e1 : (PyData.tuple ds).canLay0 = true := by simp only [PyData.canLay0]; exact h1
  have e2 : (PyData.tuple ds).depth ≤ 64 := by simp only [PyData.depth]; exact h2
  unfold SeqAt.shaped
  rw [e1, decide_eq_true e2]
  rfl
theorem sh_lst {ds : List PyData} (h1 : PyData.canLayAll0 ds = true) (h2 : PyData.depthAll ds + 1 ≤ 64) : SeqAt.shaped (.list ds) = true := by
  have e1 : (PyData.list ds).canLay0 = true := by simp only [PyData.canLay0]; exact h1
  have e2 : (PyData.list ds).depth ≤ 64 := by simp only [PyData.depth]; exact h2
  unfold SeqAt.shaped
  rw [e1, decide_eq_true e2]
  rfl
/-- a draw compared with a number -/
theorem en_eqI {y : Int} {P : Int → Prop} (ob : O b) (ha : EvN K b O n ta σ H (fun r => ∃ k : Int, r = .int k ∧ P k)) (hb : EvD K O tb σ H (.int y)) : EvN K b O n (tOp (rEqD K) ta tb) σ H (fun r => ∃ t, r = .bool t ∧ True) :=
  en_op (n1 := n) (n2 := 0) ob ha (en_of (R := fun r => r = .int y) hb rfl) fun d e H1 u v hd he ru rv Q q => by
    obtain ⟨k, rfl, _⟩ := hd
    subst he
    exact ⟨_, _, ru.dp, rv.dp, sh_int k, sh_int y, q _ _ H1 ⟨_, rfl, trivial⟩ (Same.refl H1) (.bl _)⟩
end
/-! ### f(k = v) -/
structure CalK (P : Program) (w : World) (K : PySem.W.Frag) (mg : Str → Option Value) (base : Heap) (n : Nat) (x : Str) (ps : List Str) (sp : Sp) : Prop where
  ex : ∃ f fd, FnOk P w K mg base CX0 n f fd ps sp ∧ mg x = some (.ref f) ∧ PySem.W.keepIn K (.ref f) = true ∧ KBn K fd ps 0 ps (fun _ ws => ws) (fun _ zs => zs)
def tKw (n : Nat) (sp : Sp) (tk : TA) : TE := fun σ H Q => tk σ H fun zs H2 => zs.length = n ∧ sp zs H2 Q E0
theorem pe_kw {X : Cx} {n : Nat} {x : Str} {ps : List Str} {sp : Sp} {kws : List Keyword} {tk : TA} {p pos : Pos} (c : CalK X.prog X.w X.K X.mg X.base n x ps sp) (hr : Room n X.A) (hg : Gl X x) (hkw : PK X kws tk)
    (ha : (backToKw pos (keywordEach kws X.env)).all (fun q => q.1.isSome) = true := by rfl) (hks : (backToKw pos (keywordEach kws X.env)).filterMap (fun q => q.1) = ps := by rfl) (hdb : (x == ("__debug__" : Str)) = false := by decide)
    (hp : ((backTo pos (starEach [] X.env)).any (fun q => q.1) || (backToKw pos (keywordEach kws X.env)).any (fun q => q.1.isNone)) = false := by rfl) :
    PE X (.Call (.Name x p) [] kws pos) (tKw ps.length sp tk) := by
  obtain ⟨f, fd, F, hm, hk, hb⟩ := c.ex
  refine ⟨fun pins s σ H Q I h => wpAny_Call_Name_kw (ld_glob I hg hm ?_ hdb)⟩
  refine PySem.W.callWith_KW0 I.ok.mod.kin hk ha ?_ hp
  refine thn (hkw.run pos pins s σ H _ I h) fun ws s2 hh => ?_
  obtain ⟨zs, H2, I2, rz, l2, q2⟩ := hh
  refine ⟨I2.kIn, ?_⟩
  rw [hks]
  exact run_fnN (vs := []) (us := []) F hr hb pass0 I2 .nil rz rfl l2 q2
theorem ev_kwP {K : PySem.W.Frag} {O : Addr → Prop} {σ : L2.St} {H : Hp} {n : Nat} {tA : TA} {ds : List PyData} {z : PyData} {R : List PyData → PyData → Prop} (hO : Own O H) (h : EvA K O tA σ H ds) (hn : ds.length = n) (hr : R ds z) : EvD K O (tKw n (PureSp K R) tA) σ H z := fun H1 k Q q =>
  h H1 k _ fun vs H2 k2 rs => ⟨by rw [rs.length, hn], O, ds, z, hO.mono (k.s k2), rs, hr, fun v H' e r => q v H' (k2.trans e) r⟩
end OD

set_option Elab.async false
set_option linter.all false
set_option maxRecDepth 100000
set_option autoImplicit false
set_option maxHeartbeats 4000000
namespace OD
open PySem PySem.Spec PyProof.Rows L2
/-- a def of the top as it stands there -/
structure DefIn (K : PySem.W.Frag) (mg : Str → Option Value) (x : Str) (st : Stmt) : Prop where
  ex : ∃ f fd, mg x = some (.ref f) ∧ Fun K x x st f fd
theorem def_mk {K : PySem.W.Frag} {h : Heap} {mg : Str → Option Value} (X : K.In h) (G : h.Ns mainGlobals mg) {x : Str} {st : Stmt} {f : Addr} {oc kV doc pm cdv ct : Value} {od an : Option Addr} {osl : Array (Option Value)}
    (a : PySem.W.nsIn K mainGlobals x = some (some (.ref f))) (l : K.lookup f = some ⟨oc, od, .func (PySem.W.fnOf x x (defArgs st) (defBody st) (defScope st) .none kV doc pm an cdv ct), osl⟩) (c : PySem.W.codeIn K cdv x = true) (k : PySem.W.keepIn K (.ref f) = true) :
    DefIn K mg x st := ⟨f, _, PySem.W.mg_of X G a, fun_mk (st := st) l c k⟩
section
variable {P : Program} {w : World} {K : PySem.W.Frag} {mg : Str → Option Value} {base : Heap}
/-- a def that keeps its promise can be called -/
theorem DefIn.cal {x : Str} {st : Stmt} {ps : List Str} {sp : Sp} {n : Nat} (D : DefIn K mg x st)
    (h : ∀ (kV doc pm : Value) (an : Option Addr) (cdv ct : Value) (us : List Value), us.length = ps.length → bindArgs (PySem.W.fnOf x x (defArgs st) (defBody st) (defScope st) .none kV doc pm an cdv ct) ⟨us, []⟩ = pure (ps.zip us))
    (o : ∀ f fd, Fun K x x st f fd → FnOk P w K mg base CX0 n f fd ps sp) : Cal P w K mg base n x ps sp := by
  obtain ⟨f, fd, m, F⟩ := D.ex
  exact ⟨f, fd, o f fd F, m, F.kp, F.binds h⟩
theorem DefIn.calK {x : Str} {st : Stmt} {ps : List Str} {sp : Sp} {n : Nat} (D : DefIn K mg x st)
    (h : ∀ (kV doc pm : Value) (an : Option Addr) (cdv ct : Value) (ws : List Value), ws.length = ps.length → bindArgs (PySem.W.fnOf x x (defArgs st) (defBody st) (defScope st) .none kV doc pm an cdv ct) ⟨[], ps.zip ws⟩ = pure (ps.zip ws))
    (o : ∀ f fd, Fun K x x st f fd → FnOk P w K mg base CX0 n f fd ps sp) : CalK P w K mg base n x ps sp := by
  obtain ⟨f, fd, m, F⟩ := D.ex
  refine ⟨f, fd, o f fd F, m, F.kp, ⟨fun s us ws _ hu hw => ?_, fun _ r => r⟩⟩
  obtain ⟨oc, od, kV, doc, pm, an, cdv, ct, osl, rfl, _, _⟩ := F.ex
  cases us with
  | nil => exact .of_eq (h kV doc pm an cdv ct ws hw)
  | cons _ _ => cases hu
end
end OD

set_option Elab.async false
set_option linter.all false
set_option maxRecDepth 100000
set_option autoImplicit false
set_option maxHeartbeats 4000000
namespace K10
open PySem L2 TL OD

/-! ### terms, their data and their texts -/
inductive Tm where
  | num (n : Nat)
  | first (x : Str)
  | op (s : Str) (a b : Tm)
  | value (f : Str) (xs : List Tm)
  | left (f x : Str) (xs : List Tm)
mutual
def enc : Tm → PyData
  | .num n => .int n
  | .first x => .tuple [.str "first", .str x]
  | .op s a b => .tuple [.str s, enc a, enc b]
  | .value f xs => .tuple [.str "value", .str f, .tuple (encs xs)]
  | .left f x xs => .tuple [.str "left", .str f, .str x, .tuple (encs xs)]
def encs : List Tm → List PyData
  | [] => []
  | t :: ts => enc t :: encs ts
end
mutual
def txL : Tm → List Nat
  | .num n => numL n
  | .first x => tl x
  | .op s a b => 40 :: (txL a ++ 32 :: (tl s ++ 32 :: (txL b ++ [41])))
  | .value f xs => tl f ++ 40 :: (joinL [44, 32] (txLs xs) ++ [41])
  | .left f x xs => tl f ++ 46 :: (tl x ++ 40 :: (joinL [44, 32] (txLs xs) ++ [41]))
def txLs : List Tm → List (List Nat)
  | [] => []
  | t :: ts => txL t :: txLs ts
end
def txt (t : Tm) : Str := ⟨(txL t).toArray⟩
theorem tl_txt (t : Tm) : tl (txt t) = txL t := rfl
theorem encs_map : ∀ ts : List Tm, encs ts = ts.map enc
  | [] => rfl
  | t :: ts => by rw [encs, encs_map ts]; rfl
theorem txLs_map : ∀ ts : List Tm, txLs ts = (ts.map txt).map tl
  | [] => rfl
  | t :: ts => by rw [txLs, txLs_map ts]; rfl
def names : List Str := ["x", "f", "g", "aa", "a", "abcdefgh"]
def signs : List Str := ["+", "-", "*", "<"]
mutual
def ok : Tm → Nat → Prop
  | .num n, _ => n < 1000000
  | .first x, _ => x ∈ names
  | .op s a b, d + 1 => s ∈ signs ∧ ok a d ∧ ok b d
  | .value f xs, d + 1 => f ∈ names ∧ xs.length ≤ 3 ∧ oks xs d
  | .left f x xs, d + 1 => f ∈ names ∧ x ∈ names ∧ xs.length ≤ 3 ∧ oks xs d
  | _, 0 => False
def oks : List Tm → Nat → Prop
  | [], _ => True
  | t :: ts, d => ok t d ∧ oks ts d
end
theorem oks_iff : ∀ {ts : List Tm} {d : Nat}, oks ts d ↔ ∀ t ∈ ts, ok t d
  | [], d => by simp [oks]
  | t :: ts, d => by rw [oks, oks_iff]; simp
mutual
theorem ok_mono : ∀ {t : Tm} {d e : Nat}, d ≤ e → ok t d → ok t e
  | .num n, d, e, _, h => by unfold ok at h ⊢; exact h
  | .first x, d, e, _, h => by unfold ok at h ⊢; exact h
  | .op s a b, 0, e, _, h => by unfold ok at h; exact h.elim
  | .op s a b, d + 1, 0, l, _ => by omega
  | .op s a b, d + 1, e + 1, l, h => by
    unfold ok at h ⊢
    exact ⟨h.1, ok_mono (by omega) h.2.1, ok_mono (by omega) h.2.2⟩
  | .value f xs, 0, e, _, h => by unfold ok at h; exact h.elim
  | .value f xs, d + 1, 0, l, _ => by omega
  | .value f xs, d + 1, e + 1, l, h => by
    unfold ok at h ⊢
    exact ⟨h.1, h.2.1, oks_mono (by omega) h.2.2⟩
  | .left f x xs, 0, e, _, h => by unfold ok at h; exact h.elim
  | .left f x xs, d + 1, 0, l, _ => by omega
  | .left f x xs, d + 1, e + 1, l, h => by
    unfold ok at h ⊢
    exact ⟨h.1, h.2.1, h.2.2.1, oks_mono (by omega) h.2.2.2⟩
theorem oks_mono : ∀ {ts : List Tm} {d e : Nat}, d ≤ e → oks ts d → oks ts e
  | [], _, _, _, _ => by unfold oks; trivial
  | t :: ts, d, e, l, h => by
    unfold oks at h ⊢
    exact ⟨ok_mono l h.1, oks_mono l h.2⟩
end

/-! ### sizes -/
def cap : Nat → Nat
  | 0 => 8
  | d + 1 => 3 * cap d + 40
theorem cap_pos : ∀ d, 8 ≤ cap d
  | 0 => Nat.le_refl _
  | d + 1 => by have := cap_pos d; unfold cap; omega
theorem name_len {x : Str} (h : x ∈ names) : x.length ≤ 8 := by
  have : ∀ y ∈ names, y.length ≤ 8 := by decide +kernel
  exact this x h
theorem sign_len {x : Str} (h : x ∈ signs) : x.length = 1 := by
  have : ∀ y ∈ signs, y.length = 1 := by decide +kernel
  exact this x h
theorem tl_len (x : Str) : (tl x).length = x.length := by show x.cps.toList.length = x.cps.size; simp
theorem num_len {n : Nat} (h : n < 1000000) : (numL n).length ≤ 6 := by
  have e : (numL n).length = (Str.ofString (toString ((n : Nat) : Int))).length := by rw [← tl_num, tl_len]
  rw [e]
  exact PyProof.Rows.toString_length_le (by omega) (by decide) (by omega)
theorem join_len (c : Nat) : ∀ ls : List (List Nat), (∀ l ∈ ls, l.length ≤ c) → (joinL [44, 32] ls).length ≤ ls.length * (c + 2)
  | [], _ => by simp [joinL]
  | [p], h => by
    have := h p (by simp)
    simp only [joinL, List.length_singleton]; omega
  | p :: q :: r, h => by
    have h1 := h p (by simp)
    have h2 := join_len c (q :: r) fun l hl => h l (by simp [hl])
    simp only [joinL, List.length_append, List.length_cons, List.length_nil] at h2 ⊢
    have : (r.length + 1 + 1) * (c + 2) = (r.length + 1) * (c + 2) + (c + 2) := by rw [Nat.succ_mul]
    omega
mutual
theorem tx_len : ∀ {t : Tm} {d : Nat}, ok t d → (txL t).length ≤ cap d
  | .num n, d, h => by
    unfold ok at h; unfold txL
    have := num_len h; have := cap_pos d; omega
  | .first x, d, h => by
    unfold ok at h; unfold txL
    have := name_len h; have := cap_pos d; rw [tl_len]; omega
  | .op s a b, 0, h => by unfold ok at h; exact h.elim
  | .op s a b, d + 1, h => by
    unfold ok at h
    have h1 := tx_len h.2.1; have h2 := tx_len h.2.2; have h3 := sign_len h.1
    simp only [txL, List.length_cons, List.length_append, tl_len, List.length_nil, cap]
    omega
  | .value f xs, 0, h => by unfold ok at h; exact h.elim
  | .value f xs, d + 1, h => by
    unfold ok at h
    have h1 := name_len h.1
    have h2 := join_len (cap d) (txLs xs) (txs_len h.2.2)
    have h3 : (txLs xs).length = xs.length := by rw [txLs_map]; simp
    have h4 : (txLs xs).length * (cap d + 2) ≤ 3 * (cap d + 2) := Nat.mul_le_mul_right _ (by rw [h3]; exact h.2.1)
    simp only [txL, List.length_cons, List.length_append, tl_len, List.length_nil, cap]
    omega
  | .left f x xs, 0, h => by unfold ok at h; exact h.elim
  | .left f x xs, d + 1, h => by
    unfold ok at h
    have h1 := name_len h.1
    have h1' := name_len h.2.1
    have h2 := join_len (cap d) (txLs xs) (txs_len h.2.2.2)
    have h3 : (txLs xs).length = xs.length := by rw [txLs_map]; simp
    have h4 : (txLs xs).length * (cap d + 2) ≤ 3 * (cap d + 2) := Nat.mul_le_mul_right _ (by rw [h3]; exact h.2.2.1)
    simp only [txL, List.length_cons, List.length_append, tl_len, List.length_nil, cap]
    omega
theorem txs_len : ∀ {ts : List Tm} {d : Nat}, oks ts d → ∀ l ∈ txLs ts, l.length ≤ cap d
  | [], _, _, l, hl => by simp [txLs] at hl
  | t :: ts, d, h, l, hl => by
    unfold oks at h
    rw [txLs] at hl
    rcases List.mem_cons.mp hl with e | hl
    · rw [e]; exact tx_len h.1
    · exact txs_len h.2 l hl
end

/-! ### unlike terms have unlike texts -/
def Lt (c : Nat) : Prop := 97 ≤ c ∧ c ≤ 122
def Dg (c : Nat) : Prop := 48 ≤ c ∧ c ≤ 57
/-- two runs of signs of one kind, each with another sign behind it -/
theorem runs {p : Nat → Prop} : ∀ {xs ys u v : List Nat}, (∀ c ∈ xs, p c) → (∀ c ∈ ys, p c) → (∀ c r, u = c :: r → ¬ p c) → (∀ c r, v = c :: r → ¬ p c) → xs ++ u = ys ++ v → xs = ys ∧ u = v
  | [], [], u, v, _, _, _, _, e => ⟨rfl, e⟩
  | x :: xs, [], u, v, h1, _, _, h4, e => absurd (h1 x (by simp)) (h4 x (xs ++ u) e.symm)
  | [], y :: ys, u, v, _, h2, h3, _, e => absurd (h2 y (by simp)) (h3 y (ys ++ v) e)
  | x :: xs, y :: ys, u, v, h1, h2, h3, h4, e => by
    rw [List.cons_append, List.cons_append] at e
    injection e with e1 e2
    obtain ⟨a, b⟩ := runs (fun c h => h1 c (by simp [h])) (fun c h => h2 c (by simp [h])) h3 h4 e2
    exact ⟨by rw [e1, a], b⟩
theorem name_lt {x : Str} (h : x ∈ names) : ∀ c ∈ tl x, Lt c := by
  have : ∀ y ∈ names, ∀ c ∈ tl y, 97 ≤ c ∧ c ≤ 122 := by decide +kernel
  exact this x h
theorem name_ne {x : Str} (h : x ∈ names) : tl x ≠ [] := by
  have : ∀ y ∈ names, tl y ≠ [] := by decide +kernel
  exact this x h
theorem sign_tl {x : Str} (h : x ∈ signs) : ∃ c, tl x = [c] ∧ c ≠ 32 := by
  have : ∀ y ∈ signs, ∃ c ∈ [43, 45, 42, 60], tl y = [c] ∧ c ≠ 32 := by decide +kernel
  obtain ⟨c, _, q⟩ := this x h
  exact ⟨c, q⟩
theorem tl_inj {x y : Str} (h : tl x = tl y) : x = y := by
  cases x with
  | mk a =>
    cases y with
    | mk b =>
      have h' : a.toList = b.toList := h
      rw [Array.toList_inj.mp h']
theorem num_dg (n : Nat) : ∀ c ∈ numL n, Dg c := by
  intro c hc
  obtain ⟨ch, hch, e⟩ := List.mem_map.mp hc
  have r := Nat.isDigit_of_mem_toDigits (by decide) (by decide) hch
  rw [← e]
  simp only [Char.isDigit, Bool.and_eq_true, decide_eq_true_eq] at r
  exact ⟨r.1, r.2⟩
theorem num_ne (n : Nat) : numL n ≠ [] := by
  intro h
  have h2 : Nat.toDigits 10 n = [] := List.map_eq_nil_iff.mp h
  have h3 : (Nat.repr n).toList = [] := by rw [Nat.toList_repr]; exact h2
  have := @Nat.length_repr_pos n
  simp_all
theorem num_inj {n m : Nat} (h : numL n = numL m) : n = m := by
  have a := PySem.W.KIN.val_back n
  have b := PySem.W.KIN.val_back m
  unfold numL at h
  rw [h] at a
  exact a.symm.trans b
theorem hd_num (n : Nat) : ∃ c q, numL n = c :: q ∧ 48 ≤ c ∧ c ≤ 57 := by
  cases h : numL n with
  | nil => exact absurd h (num_ne n)
  | cons c q =>
    have := num_dg n c (by rw [h]; simp)
    exact ⟨c, q, rfl, this⟩
theorem hd_name {x : Str} (hx : x ∈ names) : ∃ c q, tl x = c :: q ∧ 97 ≤ c ∧ c ≤ 122 := by
  cases h : tl x with
  | nil => exact absurd h (name_ne hx)
  | cons c q =>
    have := name_lt hx c (by rw [h]; simp)
    exact ⟨c, q, rfl, this⟩
def Dl (r : List Nat) : Prop := ∀ c q, r = c :: q → c = 32 ∨ c = 41 ∨ c = 44
theorem Dl.cons {c : Nat} {q : List Nat} (h : c = 32 ∨ c = 41 ∨ c = 44) : Dl (c :: q) := fun c' q' e => by injection e with e1; rw [← e1]; exact h
theorem not_lt_dl {r : List Nat} (h : Dl r) : ∀ c q, r = c :: q → ¬ Lt c := fun c q e z => by
  have := h c q e; have := z.1; omega
theorem not_dg_dl {r : List Nat} (h : Dl r) : ∀ c q, r = c :: q → ¬ Dg c := fun c q e z => by
  have := h c q e; have := z.1; omega
theorem not_lt_c {k : Nat} {r : List Nat} (h : k < 97) : ∀ c q, k :: r = c :: q → ¬ Lt c := fun c q e z => by
  injection e with e1; have := z.1; omega
/-- the first sign of a term's text tells its kind -/
theorem kinds {t : Tm} {d : Nat} (h : ok t d) : ∃ c q, txL t = c :: q ∧
    (match t with | .num _ => 48 ≤ c ∧ c ≤ 57 | .op _ _ _ => c = 40 | _ => 97 ≤ c ∧ c ≤ 122) := by
  cases t with
  | num n => obtain ⟨c, q, e, k⟩ := hd_num n; exact ⟨c, q, by rw [txL, e], k⟩
  | first x =>
    unfold ok at h
    obtain ⟨c, q, e, k⟩ := hd_name h
    exact ⟨c, q, by rw [txL, e], k⟩
  | op s a b => exact ⟨40, _, by rw [txL], rfl⟩
  | value f xs =>
    cases d with
    | zero => unfold ok at h; exact h.elim
    | succ d =>
      unfold ok at h
      obtain ⟨c, q, e, k⟩ := hd_name h.1
      exact ⟨c, _, by rw [txL, e]; rfl, k⟩
  | left f x xs =>
    cases d with
    | zero => unfold ok at h; exact h.elim
    | succ d =>
      unfold ok at h
      obtain ⟨c, q, e, k⟩ := hd_name h.1
      exact ⟨c, _, by rw [txL, e]; rfl, k⟩
theorem kind_ne41 {t : Tm} {d : Nat} (h : ok t d) {c : Nat} {q : List Nat} (e : txL t = c :: q) : c ≠ 41 := by
  obtain ⟨c', q', e', k⟩ := kinds h
  rw [e] at e'
  injection e' with e1
  subst e1
  cases t <;> simp only at k <;> omega
/-- a name and what stands behind it -/
theorem name_run {x y : Str} {u v : List Nat} (hx : x ∈ names) (hy : y ∈ names) (hu : ∀ c q, u = c :: q → ¬ Lt c) (hv : ∀ c q, v = c :: q → ¬ Lt c) (e : tl x ++ u = tl y ++ v) : x = y ∧ u = v := by
  obtain ⟨a, b⟩ := runs (p := Lt) (name_lt hx) (name_lt hy) hu hv e
  exact ⟨tl_inj a, b⟩
mutual
theorem inj : ∀ {t t' : Tm} {d d' : Nat} {r r' : List Nat}, ok t d → ok t' d' → Dl r → Dl r' → txL t ++ r = txL t' ++ r' → t = t' ∧ r = r'
  | .num n, .num m, d, d', r, r', h, h', l, l', e => by
    rw [txL, txL] at e
    obtain ⟨a, b⟩ := runs (p := Dg) (num_dg n) (num_dg m) (not_dg_dl l) (not_dg_dl l') e
    exact ⟨by rw [num_inj a], b⟩
  | .first x, .first y, d, d', r, r', h, h', l, l', e => by
    unfold ok at h h'
    rw [txL, txL] at e
    obtain ⟨a, b⟩ := name_run h h' (not_lt_dl l) (not_lt_dl l') e
    exact ⟨by rw [a], b⟩
  | .op s a b, .op s' a' b', 0, _, r, r', h, _, _, _, _ => by unfold ok at h; exact h.elim
  | .op s a b, .op s' a' b', _, 0, r, r', _, h', _, _, _ => by unfold ok at h'; exact h'.elim
  | .op s a b, .op s' a' b', d + 1, d' + 1, r, r', h, h', l, l', e => by
    unfold ok at h h'
    simp only [txL, List.cons_append, List.append_assoc, List.cons.injEq, true_and] at e
    obtain ⟨e1, e2⟩ := inj h.2.1 h'.2.1 (.cons (.inl rfl)) (.cons (.inl rfl)) e
    obtain ⟨c, hc, _⟩ := sign_tl h.1
    obtain ⟨c', hc', _⟩ := sign_tl h'.1
    simp only [hc, hc', List.cons_append, List.nil_append, List.cons.injEq, true_and] at e2
    obtain ⟨e3, e4⟩ := inj h.2.2 h'.2.2 (.cons (.inr (.inl rfl))) (.cons (.inr (.inl rfl))) e2.2
    injection e4 with _ e5
    have es : s = s' := tl_inj (by rw [hc, hc', e2.1])
    exact ⟨by rw [e1, e3, es], e5⟩
  | .value f xs, .value f' xs', 0, _, r, r', h, _, _, _, _ => by unfold ok at h; exact h.elim
  | .value f xs, .value f' xs', _, 0, r, r', _, h', _, _, _ => by unfold ok at h'; exact h'.elim
  | .value f xs, .value f' xs', d + 1, d' + 1, r, r', h, h', l, l', e => by
    unfold ok at h h'
    simp only [txL, List.cons_append, List.append_assoc, List.nil_append] at e
    obtain ⟨e1, e2⟩ := name_run h.1 h'.1 (not_lt_c (by decide)) (not_lt_c (by decide)) e
    injection e2 with _ e3
    obtain ⟨e4, e5⟩ := injs h.2.2 h'.2.2 e3
    exact ⟨by rw [e1, e4], e5⟩
  | .left f x xs, .left f' x' xs', 0, _, r, r', h, _, _, _, _ => by unfold ok at h; exact h.elim
  | .left f x xs, .left f' x' xs', _, 0, r, r', _, h', _, _, _ => by unfold ok at h'; exact h'.elim
  | .left f x xs, .left f' x' xs', d + 1, d' + 1, r, r', h, h', l, l', e => by
    unfold ok at h h'
    simp only [txL, List.cons_append, List.append_assoc, List.nil_append] at e
    obtain ⟨e1, e2⟩ := name_run h.1 h'.1 (not_lt_c (by decide)) (not_lt_c (by decide)) e
    injection e2 with _ e3
    obtain ⟨e4, e5⟩ := name_run h.2.1 h'.2.1 (not_lt_c (by decide)) (not_lt_c (by decide)) e3
    injection e5 with _ e6
    obtain ⟨e7, e8⟩ := injs h.2.2.2 h'.2.2.2 e6
    exact ⟨by rw [e1, e4, e7], e8⟩
  | .first x, .value f xs, _, 0, _, _, _, h', _, _, _ => by unfold ok at h'; exact h'.elim
  | .first x, .value f xs, d, d' + 1, r, r', h, h', l, l', e => by
    unfold ok at h h'
    simp only [txL, List.cons_append, List.append_assoc, List.nil_append] at e
    obtain ⟨e1, e2⟩ := name_run h h'.1 (not_lt_dl l) (not_lt_c (by decide)) e
    have := l _ _ e2; omega
  | .first x, .left f y xs, _, 0, _, _, _, h', _, _, _ => by unfold ok at h'; exact h'.elim
  | .first x, .left f y xs, d, d' + 1, r, r', h, h', l, l', e => by
    unfold ok at h h'
    simp only [txL, List.cons_append, List.append_assoc, List.nil_append] at e
    obtain ⟨e1, e2⟩ := name_run h h'.1 (not_lt_dl l) (not_lt_c (by decide)) e
    have := l _ _ e2; omega
  | .value f xs, .first x, 0, _, _, _, h, _, _, _, _ => by unfold ok at h; exact h.elim
  | .value f xs, .first x, d + 1, d', r, r', h, h', l, l', e => by
    unfold ok at h h'
    simp only [txL, List.cons_append, List.append_assoc, List.nil_append] at e
    obtain ⟨e1, e2⟩ := name_run h.1 h' (not_lt_c (by decide)) (not_lt_dl l') e
    have := l' _ _ e2.symm; omega
  | .left f y xs, .first x, 0, _, _, _, h, _, _, _, _ => by unfold ok at h; exact h.elim
  | .left f y xs, .first x, d + 1, d', r, r', h, h', l, l', e => by
    unfold ok at h h'
    simp only [txL, List.cons_append, List.append_assoc, List.nil_append] at e
    obtain ⟨e1, e2⟩ := name_run h.1 h' (not_lt_c (by decide)) (not_lt_dl l') e
    have := l' _ _ e2.symm; omega
  | .value f xs, .left g y ys, 0, _, _, _, h, _, _, _, _ => by unfold ok at h; exact h.elim
  | .value f xs, .left g y ys, _, 0, _, _, _, h', _, _, _ => by unfold ok at h'; exact h'.elim
  | .value f xs, .left g y ys, d + 1, d' + 1, r, r', h, h', l, l', e => by
    unfold ok at h h'
    simp only [txL, List.cons_append, List.append_assoc, List.nil_append] at e
    obtain ⟨e1, e2⟩ := name_run h.1 h'.1 (not_lt_c (by decide)) (not_lt_c (by decide)) e
    injection e2 with e3; omega
  | .left g y ys, .value f xs, 0, _, _, _, h, _, _, _, _ => by unfold ok at h; exact h.elim
  | .left g y ys, .value f xs, _, 0, _, _, _, h', _, _, _ => by unfold ok at h'; exact h'.elim
  | .left g y ys, .value f xs, d + 1, d' + 1, r, r', h, h', l, l', e => by
    unfold ok at h h'
    simp only [txL, List.cons_append, List.append_assoc, List.nil_append] at e
    obtain ⟨e1, e2⟩ := name_run h.1 h'.1 (not_lt_c (by decide)) (not_lt_c (by decide)) e
    injection e2 with e3; omega
  | .num n, .first x, d, d', r, r', h, h', _, _, e => by
    obtain ⟨c, q, e1, k1⟩ := kinds h; obtain ⟨c', q', e2, k2⟩ := kinds h'
    rw [e1, e2] at e; injection e with e3; simp only at k1 k2; omega
  | .num n, .op s a b, d, d', r, r', h, h', _, _, e => by
    obtain ⟨c, q, e1, k1⟩ := kinds h; obtain ⟨c', q', e2, k2⟩ := kinds h'
    rw [e1, e2] at e; injection e with e3; simp only at k1 k2; omega
  | .num n, .value f xs, d, d', r, r', h, h', _, _, e => by
    obtain ⟨c, q, e1, k1⟩ := kinds h; obtain ⟨c', q', e2, k2⟩ := kinds h'
    rw [e1, e2] at e; injection e with e3; simp only at k1 k2; omega
  | .num n, .left f x xs, d, d', r, r', h, h', _, _, e => by
    obtain ⟨c, q, e1, k1⟩ := kinds h; obtain ⟨c', q', e2, k2⟩ := kinds h'
    rw [e1, e2] at e; injection e with e3; simp only at k1 k2; omega
  | .first x, .num n, d, d', r, r', h, h', _, _, e => by
    obtain ⟨c, q, e1, k1⟩ := kinds h; obtain ⟨c', q', e2, k2⟩ := kinds h'
    rw [e1, e2] at e; injection e with e3; simp only at k1 k2; omega
  | .op s a b, .num n, d, d', r, r', h, h', _, _, e => by
    obtain ⟨c, q, e1, k1⟩ := kinds h; obtain ⟨c', q', e2, k2⟩ := kinds h'
    rw [e1, e2] at e; injection e with e3; simp only at k1 k2; omega
  | .value f xs, .num n, d, d', r, r', h, h', _, _, e => by
    obtain ⟨c, q, e1, k1⟩ := kinds h; obtain ⟨c', q', e2, k2⟩ := kinds h'
    rw [e1, e2] at e; injection e with e3; simp only at k1 k2; omega
  | .left f x xs, .num n, d, d', r, r', h, h', _, _, e => by
    obtain ⟨c, q, e1, k1⟩ := kinds h; obtain ⟨c', q', e2, k2⟩ := kinds h'
    rw [e1, e2] at e; injection e with e3; simp only at k1 k2; omega
  | .first x, .op s a b, d, d', r, r', h, h', _, _, e => by
    obtain ⟨c, q, e1, k1⟩ := kinds h; obtain ⟨c', q', e2, k2⟩ := kinds h'
    rw [e1, e2] at e; injection e with e3; simp only at k1 k2; omega
  | .value f xs, .op s a b, d, d', r, r', h, h', _, _, e => by
    obtain ⟨c, q, e1, k1⟩ := kinds h; obtain ⟨c', q', e2, k2⟩ := kinds h'
    rw [e1, e2] at e; injection e with e3; simp only at k1 k2; omega
  | .left f x xs, .op s a b, d, d', r, r', h, h', _, _, e => by
    obtain ⟨c, q, e1, k1⟩ := kinds h; obtain ⟨c', q', e2, k2⟩ := kinds h'
    rw [e1, e2] at e; injection e with e3; simp only at k1 k2; omega
  | .op s a b, .first x, d, d', r, r', h, h', _, _, e => by
    obtain ⟨c, q, e1, k1⟩ := kinds h; obtain ⟨c', q', e2, k2⟩ := kinds h'
    rw [e1, e2] at e; injection e with e3; simp only at k1 k2; omega
  | .op s a b, .value f xs, d, d', r, r', h, h', _, _, e => by
    obtain ⟨c, q, e1, k1⟩ := kinds h; obtain ⟨c', q', e2, k2⟩ := kinds h'
    rw [e1, e2] at e; injection e with e3; simp only at k1 k2; omega
  | .op s a b, .left f x xs, d, d', r, r', h, h', _, _, e => by
    obtain ⟨c, q, e1, k1⟩ := kinds h; obtain ⟨c', q', e2, k2⟩ := kinds h'
    rw [e1, e2] at e; injection e with e3; simp only at k1 k2; omega
theorem injs : ∀ {ts ts' : List Tm} {d d' : Nat} {r r' : List Nat}, oks ts d → oks ts' d' → joinL [44, 32] (txLs ts) ++ 41 :: r = joinL [44, 32] (txLs ts') ++ 41 :: r' → ts = ts' ∧ r = r'
  | [], [], d, d', r, r', _, _, e => by
    simp only [txLs, joinL, List.nil_append] at e
    injection e with _ e
    exact ⟨rfl, e⟩
  | [], t :: ts, d, d', r, r', _, h', e => by
    unfold oks at h'
    obtain ⟨c, q, e1, _⟩ := kinds h'.1
    have n := kind_ne41 h'.1 e1
    cases ts with
    | nil => simp only [txLs, joinL, List.nil_append, e1, List.cons_append] at e; injection e with e2; exact absurd e2.symm n
    | cons u us => simp only [txLs, joinL, List.nil_append, e1, List.cons_append] at e; injection e with e2; exact absurd e2.symm n
  | t :: ts, [], d, d', r, r', h, _, e => by
    unfold oks at h
    obtain ⟨c, q, e1, _⟩ := kinds h.1
    have n := kind_ne41 h.1 e1
    cases ts with
    | nil => simp only [txLs, joinL, List.nil_append, e1, List.cons_append] at e; injection e with e2; exact absurd e2 n
    | cons u us => simp only [txLs, joinL, List.nil_append, e1, List.cons_append] at e; injection e with e2; exact absurd e2 n
  | [t], [t'], d, d', r, r', h, h', e => by
    unfold oks at h h'
    simp only [txLs, joinL] at e
    obtain ⟨e1, e2⟩ := inj h.1 h'.1 (.cons (.inr (.inl rfl))) (.cons (.inr (.inl rfl))) e
    injection e2 with _ e3
    exact ⟨by rw [e1], e3⟩
  | [t], t' :: u' :: us', d, d', r, r', h, h', e => by
    unfold oks at h h'
    simp only [txLs, joinL, List.append_assoc, List.cons_append] at e
    obtain ⟨e1, e2⟩ := inj h.1 h'.1 (.cons (.inr (.inl rfl))) (.cons (.inr (.inr rfl))) e
    injection e2 with e3; omega
  | t :: u :: us, [t'], d, d', r, r', h, h', e => by
    unfold oks at h h'
    simp only [txLs, joinL, List.append_assoc, List.cons_append] at e
    obtain ⟨e1, e2⟩ := inj h.1 h'.1 (.cons (.inr (.inr rfl))) (.cons (.inr (.inl rfl))) e
    injection e2 with e3; omega
  | t :: u :: us, t' :: u' :: us', d, d', r, r', h, h', e => by
    unfold oks at h h'
    simp only [txLs, joinL, List.append_assoc, List.cons_append, List.nil_append] at e
    obtain ⟨e1, e2⟩ := inj h.1 h'.1 (.cons (.inr (.inr rfl))) (.cons (.inr (.inr rfl))) e
    injection e2 with _ e3
    injection e3 with _ e4
    have e5 : joinL [44, 32] (txLs (u :: us)) ++ 41 :: r = joinL [44, 32] (txLs (u' :: us')) ++ 41 :: r' := by simp only [txLs]; exact e4
    obtain ⟨e6, e7⟩ := injs h.2 h'.2 e5
    exact ⟨by rw [e1, e6], e7⟩
end
theorem txt_inj {t t' : Tm} {d d' : Nat} (h : ok t d) (h' : ok t' d') (e : txt t = txt t') : t = t' := by
  have e1 : txL t ++ [] = txL t' ++ [] := by rw [← tl_txt, ← tl_txt, e]
  exact (inj h h' (fun _ _ z => by cases z) (fun _ _ z => by cases z) e1).1

/-! ### data of terms -/
mutual
theorem eqv_self : ∀ t : Tm, PyData.eqv (enc t) (enc t) = true
  | .num n => by simp [enc, PyData.eqv]
  | .first x => by simp [enc, PyData.eqv, PyData.eqvAll]
  | .op s a b => by simp [enc, PyData.eqv, PyData.eqvAll, eqv_self a, eqv_self b]
  | .value f xs => by simp [enc, PyData.eqv, PyData.eqvAll, eqvs_self xs]
  | .left f x xs => by simp [enc, PyData.eqv, PyData.eqvAll, eqvs_self xs]
theorem eqvs_self : ∀ ts : List Tm, PyData.eqvAll (encs ts) (encs ts) = true
  | [] => by simp [encs, PyData.eqvAll]
  | t :: ts => by simp [encs, PyData.eqvAll, eqv_self t, eqvs_self ts]
end
theorem sign_nv {s : Str} (h : s ∈ signs) : ¬ s = "value" := by
  have : ∀ y ∈ signs, ¬ y = "value" := by decide +kernel
  exact this s h
mutual
theorem eqv_eq : ∀ {t t' : Tm} {d d' : Nat}, ok t d → ok t' d' → PyData.eqv (enc t) (enc t') = true → t = t'
  | .num n, .num m, _, _, _, _, e => by
    simp only [enc, v_int, beq_iff_eq] at e
    rw [Int.ofNat.inj e]
  | .first x, .first y, _, _, _, _, e => by
    simp only [enc, v_tup, v_str, v_cons, v_nil, beq_iff_eq, Bool.and_eq_true, Bool.and_true] at e
    rw [e.2]
  | .op s a b, .op s' a' b', 0, _, h, _, _ => by unfold ok at h; exact h.elim
  | .op s a b, .op s' a' b', _, 0, _, h', _ => by unfold ok at h'; exact h'.elim
  | .op s a b, .op s' a' b', d + 1, d' + 1, h, h', e => by
    unfold ok at h h'
    simp only [enc, v_tup, v_str, v_cons, v_nil, beq_iff_eq, Bool.and_eq_true, Bool.and_true] at e
    rw [e.1, eqv_eq h.2.1 h'.2.1 e.2.1, eqv_eq h.2.2 h'.2.2 e.2.2]
  | .value f xs, .value f' xs', 0, _, h, _, _ => by unfold ok at h; exact h.elim
  | .value f xs, .value f' xs', _, 0, _, h', _ => by unfold ok at h'; exact h'.elim
  | .value f xs, .value f' xs', d + 1, d' + 1, h, h', e => by
    unfold ok at h h'
    simp only [enc, v_tup, v_str, v_cons, v_nil, beq_iff_eq, Bool.and_eq_true, Bool.and_true] at e
    rw [e.2.1, eqvs_eq h.2.2 h'.2.2 e.2.2]
  | .left f x xs, .left f' x' xs', 0, _, h, _, _ => by unfold ok at h; exact h.elim
  | .left f x xs, .left f' x' xs', _, 0, _, h', _ => by unfold ok at h'; exact h'.elim
  | .left f x xs, .left f' x' xs', d + 1, d' + 1, h, h', e => by
    unfold ok at h h'
    simp only [enc, v_tup, v_str, v_cons, v_nil, beq_iff_eq, Bool.and_eq_true, Bool.and_true] at e
    rw [e.2.1, e.2.2.1, eqvs_eq h.2.2.2 h'.2.2.2 e.2.2.2]
  | .op s a b, .value f xs, 0, _, h, _, _ => by unfold ok at h; exact h.elim
  | .op s a b, .value f xs, d + 1, _, h, _, e => by
    unfold ok at h
    simp only [enc, v_tup, v_str, v_cons, v_nil, beq_iff_eq, Bool.and_eq_true, Bool.and_true] at e
    exact absurd e.1 (sign_nv h.1)
  | .value f xs, .op s a b, _, 0, _, h', _ => by unfold ok at h'; exact h'.elim
  | .value f xs, .op s a b, _, d' + 1, _, h', e => by
    unfold ok at h'
    simp only [enc, v_tup, v_str, v_cons, v_nil, beq_iff_eq, Bool.and_eq_true, Bool.and_true] at e
    exact absurd e.1.symm (sign_nv h'.1)
  | .num _, .first _, _, _, _, _, e => by simp [enc, PyData.eqv] at e
  | .num _, .op _ _ _, _, _, _, _, e => by simp [enc, PyData.eqv] at e
  | .num _, .value _ _, _, _, _, _, e => by simp [enc, PyData.eqv] at e
  | .num _, .left _ _ _, _, _, _, _, e => by simp [enc, PyData.eqv] at e
  | .first _, .num _, _, _, _, _, e => by simp [enc, PyData.eqv] at e
  | .op _ _ _, .num _, _, _, _, _, e => by simp [enc, PyData.eqv] at e
  | .value _ _, .num _, _, _, _, _, e => by simp [enc, PyData.eqv] at e
  | .left _ _ _, .num _, _, _, _, _, e => by simp [enc, PyData.eqv] at e
  | .first _, .op _ _ _, _, _, _, _, e => by simp [enc, v_tup, v_str, v_cons, v_nil, v_nc, v_cn] at e
  | .first _, .value _ _, _, _, _, _, e => by simp [enc, v_tup, v_str, v_cons, v_nil, v_nc, v_cn] at e
  | .first _, .left _ _ _, _, _, _, _, e => by simp [enc, v_tup, v_str, v_cons, v_nil, v_nc, v_cn] at e
  | .op _ _ _, .first _, _, _, _, _, e => by simp [enc, v_tup, v_str, v_cons, v_nil, v_nc, v_cn] at e
  | .value _ _, .first _, _, _, _, _, e => by simp [enc, v_tup, v_str, v_cons, v_nil, v_nc, v_cn] at e
  | .left _ _ _, .first _, _, _, _, _, e => by simp [enc, v_tup, v_str, v_cons, v_nil, v_nc, v_cn] at e
  | .op _ _ _, .left _ _ _, _, _, _, _, e => by simp [enc, v_tup, v_str, v_cons, v_nil, v_nc, v_cn] at e
  | .value _ _, .left _ _ _, _, _, _, _, e => by simp [enc, v_tup, v_str, v_cons, v_nil, v_nc, v_cn] at e
  | .left _ _ _, .op _ _ _, _, _, _, _, e => by simp [enc, v_tup, v_str, v_cons, v_nil, v_nc, v_cn] at e
  | .left _ _ _, .value _ _, _, _, _, _, e => by simp [enc, v_tup, v_str, v_cons, v_nil, v_nc, v_cn] at e
theorem eqvs_eq : ∀ {ts ts' : List Tm} {d d' : Nat}, oks ts d → oks ts' d' → PyData.eqvAll (encs ts) (encs ts') = true → ts = ts'
  | [], [], _, _, _, _, _ => rfl
  | [], _ :: _, _, _, _, _, e => by simp [encs, v_nc, v_cn] at e
  | _ :: _, [], _, _, _, _, e => by simp [encs, v_nc, v_cn] at e
  | t :: ts, t' :: ts', d, d', h, h', e => by
    unfold oks at h h'
    simp only [encs, v_cons, Bool.and_eq_true] at e
    rw [eqv_eq h.1 h'.1 e.1, eqvs_eq h.2 h'.2 e.2]
end
/-- THE LAW: equal terms, equal texts -/
theorem same_answer {t t' : Tm} {d d' : Nat} (h : ok t d) (h' : ok t' d') : PyData.eqv (enc t) (enc t') = PyData.eqv (.str (txt t)) (.str (txt t')) := by
  have e : PyData.eqv (.str (txt t)) (.str (txt t')) = (txt t == txt t') := by simp only [PyData.eqv]
  rw [e]
  cases q : PyData.eqv (enc t) (enc t') with
  | true =>
    have := eqv_eq h h' q
    subst this
    simp
  | false =>
    symm
    rw [beq_eq_false_iff_ne]
    intro z
    have := txt_inj h h' z
    subst this
    rw [eqv_self] at q
    cases q
/-! ### the shape of the data -/
theorem str_lay : ∀ y ∈ names ++ signs ++ (["first", "value", "left"] : List Str), PyData.canLay0 (.str y) = true := by decide +kernel
mutual
theorem enc_lay : ∀ {t : Tm} {d : Nat}, ok t d → (enc t).canLay0 = true ∧ (enc t).depth ≤ 2 * d + 2
  | .num n, d, _ => by simp [enc, PyData.canLay0, PyData.depth]
  | .first x, d, h => by
    unfold ok at h
    have h1 := str_lay x (by simp [h])
    have h2 := str_lay "first" (by simp)
    simp only [enc, PyData.canLay0, PyData.canLayAll0, PyData.depth, PyData.depthAll] at h1 h2 ⊢
    refine ⟨by rw [h1, h2]; rfl, by omega⟩
  | .op s a b, 0, h => by unfold ok at h; exact h.elim
  | .op s a b, d + 1, h => by
    unfold ok at h
    have h1 := str_lay s (by simp [h.1])
    have h2 := enc_lay h.2.1
    have h3 := enc_lay h.2.2
    simp only [enc, PyData.canLay0, PyData.canLayAll0, PyData.depth, PyData.depthAll] at h1 h2 h3 ⊢
    refine ⟨by rw [h1, h2.1, h3.1]; rfl, by omega⟩
  | .value f xs, 0, h => by unfold ok at h; exact h.elim
  | .value f xs, d + 1, h => by
    unfold ok at h
    have h1 := str_lay f (by simp [h.1])
    have h2 := str_lay "value" (by simp)
    have h3 := encs_lay h.2.2
    simp only [enc, PyData.canLay0, PyData.canLayAll0, PyData.depth, PyData.depthAll] at h1 h2 h3 ⊢
    refine ⟨by rw [h1, h2, h3.1]; rfl, by omega⟩
  | .left f x xs, 0, h => by unfold ok at h; exact h.elim
  | .left f x xs, d + 1, h => by
    unfold ok at h
    have h1 := str_lay f (by simp [h.1])
    have h1' := str_lay x (by simp [h.2.1])
    have h2 := str_lay "left" (by simp)
    have h3 := encs_lay h.2.2.2
    simp only [enc, PyData.canLay0, PyData.canLayAll0, PyData.depth, PyData.depthAll] at h1 h1' h2 h3 ⊢
    refine ⟨by rw [h1, h1', h2, h3.1]; rfl, by omega⟩
theorem encs_lay : ∀ {ts : List Tm} {d : Nat}, oks ts d → PyData.canLayAll0 (encs ts) = true ∧ PyData.depthAll (encs ts) ≤ 2 * d + 2
  | [], _, _ => by simp [encs, PyData.canLayAll0, PyData.depthAll]
  | t :: ts, d, h => by
    unfold oks at h
    have h1 := enc_lay h.1
    have h2 := encs_lay h.2
    simp only [encs, PyData.canLayAll0, PyData.depthAll]
    refine ⟨by rw [h1.1, h2.1]; rfl, by omega⟩
end
theorem enc_shaped {t : Tm} {d : Nat} (h : ok t d) (hd : d ≤ 30) : SeqAt.shaped (enc t) = true := by
  have q := enc_lay h
  unfold SeqAt.shaped
  rw [q.1, decide_eq_true (show (enc t).depth ≤ 64 by omega)]
  rfl
end K10

set_option Elab.async false
set_option linter.all false
set_option maxRecDepth 100000
set_option autoImplicit false
set_option maxHeartbeats 4000000
namespace K10
open PySem PySem.Spec PyProof.Rows L2 TL OD
def topS (i : Nat) : Stmt := PySem.Challenge.pw_ordersopen_k10_terms_shown.main.body.getD i (.Pass ⟨0, 0, 0, 0⟩)
abbrev s_joined : Stmt := topS 1
abbrev N_joined : List Str := ["inputs", "one"]
theorem sc_joined : FnScope N_joined ["inputs"] (defScope s_joined) := ⟨rfl, rfl, rfl, by decide +kernel, rfl, by decide +kernel, by decide +kernel⟩
abbrev s_show_term : Stmt := topS 2
abbrev N_show_term : List Str := ["term"]
theorem sc_show_term : FnScope N_show_term ["term"] (defScope s_show_term) := ⟨rfl, rfl, rfl, by decide +kernel, rfl, by decide +kernel, by decide +kernel⟩
structure Bn (mg : Str → Option Value) : Prop where
  n_len : mg "len" = none
  n_isinstance : mg "isinstance" = none
  n_int : mg "int" = none
  n_str : mg "str" = none
  n_abs : mg "abs" = none
  n_tuple : mg "tuple" = none
  n_list : mg "list" = none
  n_range : mg "range" = none
  n_max : mg "max" = none
  n_min : mg "min" = none
  n_zip : mg "zip" = none
def RShow (n : Nat) : List PyData → PyData → Prop := fun ds r => ∃ t d, ds = [enc t] ∧ d < n ∧ d ≤ 8 ∧ ok t d ∧ r = .str (txt t)
def txJ (ts : List Tm) : Str := ⟨(40 :: (joinL [44, 32] (txLs ts) ++ [41])).toArray⟩
def RJoin (n : Nat) : List PyData → PyData → Prop := fun ds r => ∃ ts d, ds = [.tuple (encs ts)] ∧ d < n ∧ d ≤ 8 ∧ oks ts d ∧ ts.length ≤ 3 ∧ r = .str (txJ ts)
theorem cap8 {d : Nat} (h : d ≤ 8) : cap d ≤ 200000 := by
  have : ∀ e, e ≤ 8 → cap e ≤ 200000 := by decide
  exact this d h
theorem line : (16777216 : Nat) = sizeLine := by decide
theorem txt_len (t : Tm) : (txt t).length = (txL t).length := by rw [← tl_txt, tl_len]
theorem txs_sum {d : Nat} : ∀ {ts : List Tm}, oks ts d → ((ts.map txt).map (·.length)).sum ≤ ts.length * cap d
  | [], _ => by simp
  | t :: ts, h => by
    unfold oks at h
    have h1 := tx_len h.1
    have h2 := txs_sum h.2
    rw [← txt_len] at h1
    simp only [List.map_cons, List.sum_cons, List.length_cons]
    rw [Nat.succ_mul]
    omega
theorem tl_comma (ts : List Tm) : tl (Txt.join (Str.ofString ", ") (ts.map txt)) = joinL [44, 32] (txLs ts) := by
  rw [join_eq, tl_join, txLs_map]
  have e : tl (Str.ofString ", ") = [44, 32] := by decide +kernel
  rw [e]
theorem comma_len {d : Nat} (hd : d ≤ 8) {ts : List Tm} (h : oks ts d) (hl : ts.length ≤ 3) : (Txt.join (Str.ofString ", ") (ts.map txt)).length ≤ 1000000 := by
  rw [← tl_len, tl_comma]
  have h2 := join_len (cap d) (txLs ts) (txs_len h)
  have h3 : (txLs ts).length = ts.length := by rw [txLs_map]; simp
  have h4 : (txLs ts).length * (cap d + 2) ≤ 3 * (cap d + 2) := Nat.mul_le_mul_right _ (by rw [h3]; exact hl)
  have := cap8 hd
  omega
theorem comma_sum {d : Nat} (hd : d ≤ 8) {ts : List Tm} (h : oks ts d) (hl : ts.length ≤ 3) : ((ts.map txt).map (·.length)).sum + (ts.map txt).length * (Str.ofString ", ").length ≤ 16777216 := by
  have sm := txs_sum h
  have m3 : ts.length * cap d ≤ 3 * cap d := Nat.mul_le_mul_right _ hl
  have c8 := cap8 hd
  have e : (Str.ofString ", ").length = 2 := by decide +kernel
  rw [e, List.length_map]
  omega
theorem tl_empty : tl Str.empty = [] := rfl
theorem txJ_len {d : Nat} (hd : d ≤ 8) {ts : List Tm} (h : oks ts d) (hl : ts.length ≤ 3) : (txJ ts).length ≤ 1000002 := by
  have q := comma_len hd h hl
  rw [← tl_len, tl_comma] at q
  rw [← tl_len]
  show (40 :: (joinL [44, 32] (txLs ts) ++ [41])).length ≤ _
  simp only [List.length_cons, List.length_append, List.length_nil]
  omega
theorem two_at {ts : List Tm} {i : Nat} {d e : PyData} (h1 : (encs ts)[i]? = some d) (h2 : ((ts.map txt).map PyData.str)[i]? = some e) : ∃ t ∈ ts, d = enc t ∧ e = .str (txt t) := by
  rw [encs_map, List.getElem?_map] at h1
  rw [List.getElem?_map, List.getElem?_map] at h2
  cases q : ts[i]? with
  | none => rw [q] at h1; cases h1
  | some t =>
    rw [q] at h1 h2
    cases h1
    cases h2
    exact ⟨t, List.mem_of_getElem? q, rfl, rfl⟩
theorem le_line {n : Nat} (h : n ≤ 10000000) : n ≤ sizeLine := by rw [← line]; omega
theorem encs_len (ts : List Tm) : (encs ts).length = ts.length := by rw [encs_map]; simp
theorem sh_str {y : Str} (h : y ∈ names ++ signs ++ (["first", "value", "left"] : List Str)) : SeqAt.shaped (.str y) = true := by
  have q := str_lay y h
  unfold SeqAt.shaped
  rw [q]
  simp [PyData.depth]
theorem sign_nf {s : Str} (h : s ∈ signs) : (s == "first") = false ∧ (s == "value") = false ∧ (s == "left") = false := by
  have : ∀ y ∈ signs, (y == ("first" : Str)) = false ∧ (y == ("value" : Str)) = false ∧ (y == ("left" : Str)) = false := by decide +kernel
  exact this s h
theorem num_log {n : Nat} (h : n < 1000000) : ((n : Nat) : Int).natAbs.log2 < 1920 := by
  have h1 : ((n : Nat) : Int).natAbs = n := rfl
  rw [h1]
  by_cases h0 : n = 0
  · subst h0; decide
  · rw [Nat.log2_lt h0]
    exact Nat.lt_of_lt_of_le h (by decide)
theorem txt_num (n : Nat) : Str.ofString (toString ((n : Nat) : Int)) = txt (.num n) := tl_inj (by rw [tl_num, tl_txt, txL])
section
variable {P : Program} {w : World} {K : PySem.W.Frag} {mg : Str → Option Value} {base : Heap} {f : Addr} {fd : FuncData}
theorem ok_joined {n : Nat} (T : Bn mg) (F : Fun K "joined" "joined" s_joined f fd) (C_show_term : Cal P w K mg base (2 * n) "show_term" ["term"] (PureSp K (RShow n))) :
    FnOk P w K mg base CX0 (2 * n + 1) f fd ["inputs"] (PureSp K (RJoin n)) := by
  refine pure_ok F sc_joined (fun ds r h => ?_) (fun cdv A outer s H E hr => ?_)
  · obtain ⟨ts, d, rfl, _⟩ := h; rfl
  · have hr_show_term := hr
    refine ⟨_, (pss_one (ps_ret (pe_op op_addA (pe_op op_addA pe_str (pe_joinA pe_str (pe_lc (own := [("one", 1)]) (by rfl) sc_joined.nd (pi_any (pv 0)) (blkOk_by (own := [("one", 1)]) (N := N_joined) (sc := defScope s_joined) (by decide +kernel)) (fun _ _ _ _ _ => (pg_name (i := 1) sc_joined.nd rfl (Or.inl rfl))) (fun _ _ _ _ _ => pts_nil) (fun _ _ _ _ _ => (pe_callC C_show_term hr_show_term (by rfl) (pa_cons (pv 1) pa_nil)))))) pe_str))), ?_⟩
    intro O ds r vs H D hO hv hR q
    obtain ⟨ts, d, rfl, hn, hd, ht, hl, rfl⟩ := hR
    obtain ⟨v, rfl, rv⟩ := hv.one_inv
    have cl := comma_len hd ht hl
    have e1 : (Str.ofString "(").length = 1 := by decide +kernel
    have e2 : (Str.ofString ")").length = 1 := by decide +kernel
    refine s_ret (EvD.is (ev_addS (ev_addS ev_str (ev_join (ys := ts.map txt) ev_str (ev_lcT (ev_var rfl rv) hO ?_ ?_ (fun _ => rfl) ?_) (comma_sum hd ht hl)) ?_) ev_str ?_) ?_) q
    · rw [encs_len]; exact le_line (by omega)
    · rw [encs_len]; simp
    · intro O' H1 lf i d1 e v1 h1 h2 r1
      obtain ⟨t, hm, rfl, rfl⟩ := two_at h1 h2
      exact ev_callP lf.own (ea_cons (ev_var rfl r1) ea_nil) ⟨t, d, rfl, hn, hd, oks_iff.mp ht t hm, rfl⟩
    · rw [e1]; exact le_line (by omega)
    · rw [len_app, e1, e2]; exact le_line (by omega)
    · refine congrArg PyData.str (tl_inj ?_)
      rw [tl_append, tl_append, tl_comma]
      have e1 : tl (Str.ofString "(") = [40] := by decide +kernel
      have e2 : tl (Str.ofString ")") = [41] := by decide +kernel
      rw [e1, e2]
      show _ = 40 :: (joinL [44, 32] (txLs ts) ++ [41])
      rfl
theorem ok_show {n : Nat} (T : Bn mg) (F : Fun K "show_term" "show_term" s_show_term f fd) (C_show_term : Cal P w K mg base (2 * n) "show_term" ["term"] (PureSp K (RShow n)))
    (C_joined : Cal P w K mg base (2 * n + 1) "joined" ["inputs"] (PureSp K (RJoin n))) : FnOk P w K mg base CX0 (2 * n + 2) f fd ["term"] (PureSp K (RShow (n + 1))) := by
  refine pure_ok F sc_show_term (fun ds r h => ?_) (fun cdv A outer s H E hr => ?_)
  · obtain ⟨t, d, rfl, _⟩ := h; rfl
  · have hr_joined := hr
    have hr_show_term := hr.mono (Nat.le_succ (2 * n))
    refine ⟨_, (pss_cons (ps_if (pt_val (pe_callB call_isi (by rfl) T.n_isinstance (by decide +kernel) (pa_cons (pv 0) (pa_cons (pe_bltn (v := .ty "int") (by rfl) T.n_int (by decide +kernel) rfl) pa_nil)))) (pss_one (ps_ret (pe_callTy call_strI (by rfl) T.n_str (by decide +kernel) (pa_cons (pv 0) pa_nil)))) pss_nil)
    (pss_cons (ps_if (pt_cmpR (op_eqD hr.units) (pe_ix ix_any (pv 0) pe_int (fun _ _ => rfl)) pe_str (nomark _)) (pss_one (ps_ret (pe_ix ix_any (pv 0) pe_int (fun _ _ => rfl)))) pss_nil)
    (pss_cons (ps_if (pt_cmpR (op_eqD hr.units) (pe_ix ix_any (pv 0) pe_int (fun _ _ => rfl)) pe_str (nomark _)) (pss_one (ps_ret (pe_op op_addA (pe_ix ix_any (pv 0) pe_int (fun _ _ => rfl)) (pe_callC C_joined hr_joined (by rfl) (pa_cons (pe_ix ix_any (pv 0) pe_int (fun _ _ => rfl)) pa_nil))))) pss_nil)
    (pss_cons (ps_if (pt_cmpR (op_eqD hr.units) (pe_ix ix_any (pv 0) pe_int (fun _ _ => rfl)) pe_str (nomark _)) (pss_one (ps_ret (pe_op op_addA (pe_joined (.cons (pe_fmt (pe_ix ix_any (pv 0) pe_int (fun _ _ => rfl))) (.cons pe_str (.cons (pe_fmt (pe_ix ix_any (pv 0) pe_int (fun _ _ => rfl))) .nil)))) (pe_callC C_joined hr_joined (by rfl) (pa_cons (pe_ix ix_any (pv 0) pe_int (fun _ _ => rfl)) pa_nil))))) pss_nil)
    (pss_one (ps_ret (pe_joined (.cons pe_str (.cons (pe_fmt (pe_callC C_show_term hr_show_term (by rfl) (pa_cons (pe_ix ix_any (pv 0) pe_int (fun _ _ => rfl)) pa_nil))) (.cons pe_str (.cons (pe_fmt (pe_ix ix_any (pv 0) pe_int (fun _ _ => rfl))) (.cons pe_str (.cons (pe_fmt (pe_callC C_show_term hr_show_term (by rfl) (pa_cons (pe_ix ix_any (pv 0) pe_int (fun _ _ => rfl)) pa_nil))) (.cons pe_str .nil)))))))))))))), ?_⟩
    intro O ds r vs H D hO hv hR q
    obtain ⟨t, d, rfl, hn, hd, ht, rfl⟩ := hR
    obtain ⟨v, rfl, rv⟩ := hv.one_inv
    have c8 := cap8 hd
    have hF : SeqAt.shaped (.str (Str.ofString "first")) = true := sh_str (by simp)
    have hV : SeqAt.shaped (.str (Str.ofString "value")) = true := sh_str (by simp)
    have hL : SeqAt.shaped (.str (Str.ofString "left")) = true := sh_str (by simp)
    cases t with
    | num m =>
      unfold ok at ht
      rw [enc] at rv
      refine q_ifT (et_B (ev_isi (ev_var rfl rv) kit_ii)) fun H1 k1 => ?_
      exact s_ret (EvD.is (ev_strI (ev_var rfl (rv.same k1)) (num_log ht)) (congrArg PyData.str (txt_num m))) fun v H2 k2 r => q v H2 (k1.trans k2) r
    | first x =>
      unfold ok at ht
      rw [enc] at rv
      refine q_ifF (et_B (ev_isi (ev_var rfl rv) kit_ti)) fun H1 k1 => ?_
      refine q_ifT (et_eqS (ev_ixT (ev_var rfl (rv.same k1)) ev_int rfl) ev_str hF hF (by decide +kernel)) fun H2 k2 => ?_
      refine s_ret (EvD.is (ev_ixT (ev_var rfl ((rv.same k1).same k2)) ev_int rfl) ?_) fun v H3 k3 r => q v H3 ((k1.trans k2).trans k3) r
      exact congrArg PyData.str (tl_inj (by rw [tl_txt, txL]))
    | op s a b =>
      cases d with
      | zero => unfold ok at ht; exact ht.elim
      | succ d =>
        have cc : 3 * cap d + 40 ≤ 200000 := c8
        unfold ok at ht
        rw [enc] at rv
        obtain ⟨n1, n2, n3⟩ := sign_nf ht.1
        have hs : SeqAt.shaped (.str s) = true := sh_str (by simp [ht.1])
        have la := tx_len ht.2.1; have lb := tx_len ht.2.2; have ls := sign_len ht.1
        rw [← txt_len] at la lb
        refine q_ifF (et_B (ev_isi (ev_var rfl rv) kit_ti)) fun H1 k1 => ?_
        refine q_ifF (et_eqS (ev_ixT (ev_var rfl (rv.same k1)) ev_int rfl) ev_str hs hF n1) fun H2 k2 => ?_
        refine q_ifF (et_eqS (ev_ixT (ev_var rfl ((rv.same k1).same k2)) ev_int rfl) ev_str hs hV n2) fun H3 k3 => ?_
        refine q_ifF (et_eqS (ev_ixT (ev_var rfl (((rv.same k1).same k2).same k3)) ev_int rfl) ev_str hs hL n3) fun H4 k4 => ?_
        have kk : Same H H4 := ((k1.trans k2).trans k3).trans k4
        have r4 := rv.same kk
        have hO4 : Own O H4 := hO.same kk
        refine s_ret (EvD.is (ev_joined (xs := [Str.ofString "(", txt a, Str.ofString " ", s, Str.ofString " ", txt b, Str.ofString ")"]) ⟨ev_str, ev_fmtS (ev_callP hO4 (ea_cons (ev_ixT (ev_var rfl r4) ev_int rfl) ea_nil) ⟨a, d, rfl, by omega, by omega, ht.2.1, rfl⟩) (le_line (by omega)), ev_str, ev_fmtS (ev_ixT (ev_var rfl r4) ev_int rfl) (le_line (by omega)), ev_str, ev_fmtS (ev_callP hO4 (ea_cons (ev_ixT (ev_var rfl r4) ev_int rfl) ea_nil) ⟨b, d, rfl, by omega, by omega, ht.2.2, rfl⟩) (le_line (by omega)), ev_str, trivial⟩ ?_) ?_) fun v H5 k5 r => q v H5 (kk.trans k5) r
        · have e1 : (Str.ofString "(").length = 1 := by decide +kernel
          have e2 : (Str.ofString ")").length = 1 := by decide +kernel
          have e3 : (Str.ofString " ").length = 1 := by decide +kernel
          simp only [List.map_cons, List.map_nil, List.sum_cons, List.sum_nil, e1, e2, e3]
          exact le_line (by omega)
        · refine congrArg PyData.str (tl_inj ?_)
          have e1 : tl (Str.ofString "(") = [40] := by decide +kernel
          have e2 : tl (Str.ofString ")") = [41] := by decide +kernel
          have e3 : tl (Str.ofString " ") = [32] := by decide +kernel
          simp only [catAll, tl_append, e1, e2, e3, tl_txt, txL, tl_empty, List.nil_append, List.append_assoc, List.cons_append]
    | value g xs =>
      cases d with
      | zero => unfold ok at ht; exact ht.elim
      | succ d =>
        have cc : 3 * cap d + 40 ≤ 200000 := c8
        unfold ok at ht
        rw [enc] at rv
        have lg := name_len ht.1
        have lj := txJ_len (show d ≤ 8 by omega) ht.2.2 ht.2.1
        refine q_ifF (et_B (ev_isi (ev_var rfl rv) kit_ti)) fun H1 k1 => ?_
        refine q_ifF (et_eqS (ev_ixT (ev_var rfl (rv.same k1)) ev_int rfl) ev_str hV hF (by decide +kernel)) fun H2 k2 => ?_
        refine q_ifT (et_eqS (ev_ixT (ev_var rfl ((rv.same k1).same k2)) ev_int rfl) ev_str hV hV (by decide +kernel)) fun H3 k3 => ?_
        have kk : Same H H3 := (k1.trans k2).trans k3
        have r3 := rv.same kk
        refine s_ret (EvD.is (ev_addS (ev_ixT (ev_var rfl r3) ev_int rfl) (ev_callP (hO.same kk) (ea_cons (ev_ixT (ev_var rfl r3) ev_int rfl) ea_nil) ⟨xs, d, rfl, by omega, by omega, ht.2.2, ht.2.1, rfl⟩) ?_) ?_) fun v H5 k5 r => q v H5 (kk.trans k5) r
        · exact le_line (by omega)
        · refine congrArg PyData.str (tl_inj ?_)
          rw [tl_append, tl_txt, txL]
          rfl
    | left g x xs =>
      cases d with
      | zero => unfold ok at ht; exact ht.elim
      | succ d =>
        have cc : 3 * cap d + 40 ≤ 200000 := c8
        unfold ok at ht
        rw [enc] at rv
        have lg := name_len ht.1
        have lx := name_len ht.2.1
        have lj := txJ_len (show d ≤ 8 by omega) ht.2.2.2 ht.2.2.1
        refine q_ifF (et_B (ev_isi (ev_var rfl rv) kit_ti)) fun H1 k1 => ?_
        refine q_ifF (et_eqS (ev_ixT (ev_var rfl (rv.same k1)) ev_int rfl) ev_str hL hF (by decide +kernel)) fun H2 k2 => ?_
        refine q_ifF (et_eqS (ev_ixT (ev_var rfl ((rv.same k1).same k2)) ev_int rfl) ev_str hL hV (by decide +kernel)) fun H3 k3 => ?_
        refine q_ifT (et_eqS (ev_ixT (ev_var rfl (((rv.same k1).same k2).same k3)) ev_int rfl) ev_str hL hL (by decide +kernel)) fun H4 k4 => ?_
        have kk : Same H H4 := ((k1.trans k2).trans k3).trans k4
        have r4 := rv.same kk
        have ed : (Str.ofString ".").length = 1 := by decide +kernel
        refine s_ret (EvD.is (ev_addS (ev_joined (xs := [g, Str.ofString ".", x]) ⟨ev_fmtS (ev_ixT (ev_var rfl r4) ev_int rfl) (le_line (by omega)), ev_str, ev_fmtS (ev_ixT (ev_var rfl r4) ev_int rfl) (le_line (by omega)), trivial⟩ ?_) (ev_callP (hO.same kk) (ea_cons (ev_ixT (ev_var rfl r4) ev_int rfl) ea_nil) ⟨xs, d, rfl, by omega, by omega, ht.2.2.2, ht.2.2.1, rfl⟩) ?_) ?_) fun v H5 k5 r => q v H5 (kk.trans k5) r
        · simp only [List.map_cons, List.map_nil, List.sum_cons, List.sum_nil, ed]
          exact le_line (by omega)
        · simp only [catAll, len_app, ed]
          have : Str.empty.length = 0 := rfl
          exact le_line (by omega)
        · refine congrArg PyData.str (tl_inj ?_)
          have e3 : tl (Str.ofString ".") = [46] := by decide +kernel
          simp only [catAll, tl_append, e3, tl_txt, txL, tl_empty, List.nil_append, List.append_assoc, List.cons_append]
          rfl
end
end K10

set_option Elab.async false
set_option linter.all false
set_option maxRecDepth 100000
set_option autoImplicit false
set_option maxHeartbeats 4000000
namespace K10
open PySem PySem.Spec PyProof.Rows L2 TL OD
abbrev s__law_bag : Stmt := topS 4
abbrev N__law_bag : List Str := ["_law_script", "_law_at", "_law_cell", "_law_digits"]
theorem sc__law_bag : FnScope N__law_bag ["_law_script", "_law_at"] (defScope s__law_bag) := ⟨rfl, rfl, rfl, by decide +kernel, rfl, by decide +kernel, by decide +kernel⟩
abbrev s__law_take : Stmt := topS 5
abbrev N__law_take : List Str := ["_law_bag_here", "_law_many", "_law_digit", "_law_mixed"]
theorem sc__law_take : FnScope N__law_take ["_law_bag_here", "_law_many"] (defScope s__law_take) := ⟨rfl, rfl, rfl, by decide +kernel, rfl, by decide +kernel, by decide +kernel⟩
abbrev s__law_of : Stmt := topS 6
abbrev N__law_of : List Str := ["_law_bag_here", "_law_items"]
theorem sc__law_of : FnScope N__law_of ["_law_bag_here", "_law_items"] (defScope s__law_of) := ⟨rfl, rfl, rfl, by decide +kernel, rfl, by decide +kernel, by decide +kernel⟩
section
variable {P : Program} {w : World} {K : PySem.W.Frag} {mg : Str → Option Value} {base : Heap} {f : Addr} {fd : FuncData}
theorem ok_take (T : Bn mg) (F : Fun K "_law_take" "_law_take" s__law_take f fd) : FnOk P w K mg base CX0 1 f fd ["_law_bag_here", "_law_many"] (DrawSp K 1 PTake RTake) := by
  refine draw_ok F sc__law_take (fun ds h => ?_) (fun cdv A outer s H E hr => ?_)
  · obtain ⟨m, rfl, _⟩ := h; rfl
  · refine ⟨_, (pss_cons (ps_if (pt_cmpR op_gt (pe_ix ix_any (pv 0) pe_int (fun _ _ => rfl)) pe_int (nomark _)) (pss_cons (ps_set (i := 2) sc__law_take.nd rfl (Or.inl rfl) (pe_op op_mod (pe_callTy call_intA (by rfl) T.n_int (by decide +kernel) (pa_cons (pe_ix ix_any (pv 0) pe_int (fun _ _ => rfl)) pa_nil)) (pv 1)))
    (pss_cons (ps_asg (pe_op op_fdivN (pe_ix ix_any (pv 0) pe_int (fun _ _ => rfl)) (pv 1)) (pg_sub (pv 0) pe_int set_list))
    (pss_one (ps_ret (pv 2))))) pss_nil)
    (pss_cons (ps_asg (pe_op op_addA (pe_ix ix_any (pv 0) pe_int (fun _ _ => rfl)) pe_int) (pg_sub (pv 0) pe_int set_list))
    (pss_cons (ps_set (i := 3) sc__law_take.nd rfl (Or.inl rfl) (pe_op op_mod (pe_op op_pow (pe_callTy call_intA (by rfl) T.n_int (by decide +kernel) (pa_cons (pe_op op_addA (pe_ix ix_any (pv 0) pe_int (fun _ _ => rfl)) (pe_op op_mul pe_int (pe_ix ix_any (pv 0) pe_int (fun _ _ => rfl)))) pa_nil)) pe_int) pe_int))
    (pss_cons (ps_set (i := 3) sc__law_take.nd rfl (Or.inl rfl) (pe_op op_mod (pe_op op_pow (pe_callTy call_intA (by rfl) T.n_int (by decide +kernel) (pa_cons (pe_op op_addA (pv 3) (pe_op op_mul pe_int (pe_ix ix_any (pv 0) pe_int (fun _ _ => rfl)))) pa_nil)) pe_int) pe_int))
    (pss_one (ps_ret (pe_op op_mod (pe_op op_fdivN (pv 3) pe_int) (pv 1)))))))), ?_⟩
    intro b O n ds rest H D ob hO x hv hp q
    obtain ⟨m, rfl, m1, m2⟩ := hp
    obtain ⟨v, rfl, rv⟩ := hv.one_inv
    have ev := rv.int_inv
    subst ev
    obtain ⟨g, y, c, hb, g0, y0, y1, c0, c1⟩ := x
    have rb := bag_rp (K := K) hb
    have rm : Rp K N0 H (.int m) (.int m) := .int m
    by_cases hg : g > 0
    · refine q_ifT (O := N0) (et_test (EvD.is (ev_cmpI (g := fun i j => decide (i > j)) (ev_ixL (ev_var rfl rb) ev_int rfl) ev_int) (congrArg PyData.bool (decide_eq_true hg)))) fun H1 k1 => ?_
      refine q_set (O := N0) (i := 2) (ev_I (g := fun i j => i % j) (C := fun _ j => 0 < j) (ev_int1 (ev_ixL (ev_var rfl (rb.same k1)) ev_int rfl)) (ev_var rfl (.int m)) (by omega)) fun v2 H2 k2 r2 => ?_
      have e2 := r2.int_inv
      subst e2
      have hb2 := k2 _ _ (k1 _ _ hb)
      refine EvD.use (O := N0) (ev_I (g := fun i j => i.fdiv j) (C := CDivN) (ev_ixL (ev_var rfl (bag_rp hb2)) ev_int rfl) (ev_var rfl (.int m)) ⟨by omega, by omega⟩) fun v3 H3 k3 r3 => ?_
      have e3 := r3.int_inv
      subst e3
      have hb3 := k3 _ _ hb2
      refine ⟨_, rfl, b, _, 0, 0, rfl, rfl, hb3, rfl, ?_⟩
      refine ⟨_, rfl, ?_⟩
      have kb : Kb b H (L2.upd H3 b (.lst [.int (g.fdiv m), .int y, .int c])) := (Kp.of_same ((k1.trans k2).trans k3)).trans (Kp.put hb3 trivial rfl)
      refine q (.int (g % m)) _ _ ⟨m, g % m, rfl, rfl, Int.emod_nonneg _ (by omega), Int.emod_lt_of_pos _ (by omega)⟩ kb ⟨_, _, _, upd_same, ?_, y0, y1, c0, by omega⟩ (.int _)
      rw [Int.fdiv_eq_ediv_of_nonneg _ (by omega)]
      exact Int.ediv_nonneg (by omega) (by omega)
    · refine q_ifF (O := N0) (et_test (EvD.is (ev_cmpI (g := fun i j => decide (i > j)) (ev_ixL (ev_var rfl rb) ev_int rfl) ev_int) (congrArg PyData.bool (decide_eq_false hg)))) fun H1 k1 => ?_
      refine EvD.use (O := N0) (ev_addI (ev_ixL (ev_var rfl (rb.same k1)) ev_int rfl) ev_int) fun v2 H2 k2 r2 => ?_
      have e2 := r2.int_inv
      subst e2
      have hb2 := k2 _ _ (k1 _ _ hb)
      refine ⟨_, rfl, b, _, 2, 2, rfl, rfl, hb2, rfl, ?_⟩
      have kb : Kb b H (L2.upd H2 b (.lst [.int g, .int y, .int (c + 1)])) := (Kp.of_same (k1.trans k2)).trans (Kp.put hb2 trivial rfl)
      have hb3 : L2.upd H2 b (.lst [.int g, .int y, .int (c + 1)]) b = some (.lst [.int g, .int y, .int (c + 1)]) := upd_same
      have rb3 := bag_rp (K := K) hb3
      refine q_set (O := N0) (i := 3) (ev_I (g := fun i j => i % j) (C := fun _ j => 0 < j) (ev_I (g := fun i j => i ^ j.toNat) (C := CPow) (ev_int1 (ev_addI (ev_ixL (ev_var rfl rb3) ev_int rfl) (ev_I (g := fun i j => i * j) (C := CMul) ev_int (ev_ixL (ev_var rfl rb3) ev_int rfl) (.inl ⟨by decide, by decide⟩)))) ev_int ⟨by decide, by decide, by omega⟩) ev_int (by decide)) fun v4 H4 k4 r4 => ?_
      have e4 := r4.int_inv
      subst e4
      have z1 := Int.emod_nonneg ((y + 2654435761 * (c + 1)) ^ Int.toNat 3) (show (2305843009213693921 : Int) ≠ 0 by decide)
      have z2 := Int.emod_lt_of_pos ((y + 2654435761 * (c + 1)) ^ Int.toNat 3) (show (0 : Int) < 2305843009213693921 by decide)
      refine q_set (O := N0) (i := 3) (ev_I (g := fun i j => i % j) (C := fun _ j => 0 < j) (ev_I (g := fun i j => i ^ j.toNat) (C := CPow) (ev_int1 (ev_addI (ev_var rfl (.int _)) (ev_I (g := fun i j => i * j) (C := CMul) ev_int (ev_ixL (ev_var rfl (rb3.same k4)) ev_int rfl) (.inl ⟨by decide, by decide⟩)))) ev_int ⟨by decide, by decide, by omega⟩) ev_int (by decide)) fun v5 H5 k5 r5 => ?_
      have e5 := r5.int_inv
      subst e5
      refine s_ret (K := K) (O := N0) (ev_I (g := fun i j => i % j) (C := fun _ j => 0 < j) (ev_I (g := fun i j => i.fdiv j) (C := CDivN) (ev_var rfl (.int _)) ev_int ⟨by decide, by decide⟩) (ev_var rfl (.int m)) (by omega)) fun v6 H6 k6 r6 => ?_
      have e6 := r6.int_inv
      subst e6
      have kk := (k4.trans k5).trans k6
      refine q _ _ _ ⟨m, _, rfl, rfl, Int.emod_nonneg _ (by omega), Int.emod_lt_of_pos _ (by omega)⟩ (kb.s kk) ⟨_, _, _, kk _ _ hb3, g0, y0, y1, by omega, by omega⟩ (.int _)
theorem ok_of (T : Bn mg) (F : Fun K "_law_of" "_law_of" s__law_of f fd) (C__law_take : Cal P w K mg base 1 "_law_take" ["_law_bag_here", "_law_many"] (DrawSp K 1 PTake RTake)) : FnOk P w K mg base CX0 2 f fd ["_law_bag_here", "_law_items"] (DrawSp K 1 POf ROf) := by
  refine draw_ok F sc__law_of (fun ds h => ?_) (fun cdv A outer s H E hr => ?_)
  · obtain ⟨m, rfl, _⟩ := h; rfl
  · have hr__law_take := hr
    refine ⟨_, (pss_one (ps_ret (pe_ix ix_any (pv 1) (pe_callC C__law_take hr__law_take (by rfl) (pa_cons (pv 0) (pa_cons (pe_callB call_lenA (by rfl) T.n_len (by decide +kernel) (pa_cons (pv 1) pa_nil)) pa_nil))) (fun _ _ => rfl)))), ?_⟩
    intro b O n ds rest H D ob hO x hv hp q
    obtain ⟨xs, rfl, x1, x2⟩ := hp
    obtain ⟨v, rfl, rv⟩ := hv.one_inv
    refine s_retN (c := n) (en_op (n1 := 0) (n2 := 1) (R := fun r => r ∈ xs) ob (en_of (R := fun r => r = .list xs) (ev_var rfl rv) rfl)
      (en_call (n1 := 0) (n2 := 1) (R := fun r => ∃ k : Int, r = .int k ∧ 0 ≤ k ∧ k < xs.length) ob hO rfl (em_of (S := fun ds => ds = [.int xs.length]) (ea_cons (ev_lenL (ev_var rfl rv)) ea_nil) rfl) ?_ ?_) ?_) x ?_
    · rintro ds rfl
      exact ⟨_, rfl, by omega, by omega⟩
    · rintro ds r rfl ⟨m, k, e, rfl, k0, k1⟩
      injection e with e
      injection e with e
      subst e
      exact ⟨k, rfl, k0, k1⟩
    · rintro d e H1 x y rfl ⟨k, rfl, k0, k1⟩ rx ry Q q
      obtain ⟨a, vs, rfl, sa, ra⟩ := rx.lst_inv
      obtain ⟨j, rfl⟩ := Int.eq_ofNat_of_zero_le k0
      have hj : j < xs.length := by omega
      obtain ⟨u, hu, ru⟩ := ra.get (List.getElem?_eq_getElem hj)
      have ey := ry.int_inv
      subst ey
      exact .inl (.inl ⟨a, vs, j, u, rfl, rfl, sa.sq, atI_nat hu, q _ u H1 (List.getElem_mem hj) (Same.refl H1) ru⟩)
    · intro r v H2 hr k2 x2 rv
      exact q r v H2 ⟨xs, rfl, hr⟩ k2 x2 rv
theorem ok_bag (T : Bn mg) (F : Fun K "_law_bag" "_law_bag" s__law_bag f fd) : FnOk P w K mg base CX0 1 f fd ["_law_script", "_law_at"] (spBag K) := by
  refine F.ok sc__law_bag (fun vs H Q E h => ?_) (fun cdv A outer s H vs Q E hr h => ?_)
  · obtain ⟨a, ns, i, rfl, _⟩ := h; rfl
  · refine ⟨_, (pss_cons (ps_set (i := 2) sc__law_bag.nd rfl (Or.inl rfl) (pe_ifExp (pt_cmpR op_lt (pv 1) (pe_callB call_lenA (by rfl) T.n_len (by decide +kernel) (pa_cons (pv 0) pa_nil)) (nomark _)) (pe_callTy call_intA (by rfl) T.n_int (by decide +kernel) (pa_cons (pe_ix ix_any (pv 0) (pv 1) (fun _ _ => rfl)) pa_nil)) pe_int))
    (pss_cons (ps_set (i := 3) sc__law_bag.nd rfl (Or.inl rfl) (pe_ifExp (pt_cmpR op_ge (pe_callB call_abs (by rfl) T.n_abs (by decide +kernel) (pa_cons (pv 2) pa_nil)) (pe_op op_pow pe_int pe_int) (nomark _)) (pe_callB call_abs (by rfl) T.n_abs (by decide +kernel) (pa_cons (pv 2) pa_nil)) pe_int))
    (pss_one (ps_ret (pe_lst (pa_cons (pv 3) (pa_cons (pe_op op_mod (pe_op op_mul (pe_callTy call_intA (by rfl) T.n_int (by decide +kernel) (pa_cons (pe_op op_addA (pe_op op_addA (pe_op op_mod (pv 2) pe_int) (pe_op op_mul pe_int (pv 1))) pe_int) pa_nil)) pe_int) pe_int) (pa_cons pe_int pa_nil)))))))), ?_⟩
    obtain ⟨a, ns, i, rfl, hs, i0, i1, q⟩ := h
    have step : ∃ x : Int, EvD K N0 (tIf (tTest (tOp (rI0 fun i j => .bl (decide (i < j))) (tVar 1) (tCB (rLenA K) (tCons (tVar 0) tNil)))) (tCB rInt1 (tCons (tOp (rIxA K) (tVar 0) (tVar 1)) tNil)) (tC (.int 0))) (start N__law_bag [.ref a, .int i]) H (.int x) := by
      by_cases h : i < ns.length
      · obtain ⟨j, rfl⟩ := Int.eq_ofNat_of_zero_le i0
        have hj : j < ns.length := by omega
        have hx : (ns.map V.int)[j]? = some (.int ns[j]) := by rw [List.getElem?_map, List.getElem?_eq_getElem hj]; rfl
        refine ⟨ns[j], ev_if (b := true) (et_test (EvD.is (ev_cmpI (g := fun i j => decide (i < j)) (ev_var rfl (.int _)) (ev_lenX rfl hs)) (congrArg PyData.bool (decide_eq_true (by simp only [List.length_map]; exact h))))) (fun _ => ev_int1 (ev_ixX rfl hs (ev_var rfl (.int _)) (atI_nat hx))) (fun z => nomatch z)⟩
      · exact ⟨0, ev_if (b := false) (et_test (EvD.is (ev_cmpI (g := fun i j => decide (i < j)) (ev_var rfl (.int _)) (ev_lenX rfl hs)) (congrArg PyData.bool (decide_eq_false (by simp only [List.length_map]; exact h))))) (fun z => nomatch z) (fun _ => ev_int)⟩
    obtain ⟨x, hx⟩ := step
    refine q_set (O := N0) (i := 2) hx fun v2 H2 k2 r2 => ?_
    have e2 := r2.int_inv
    subst e2
    have ab : ∀ {H' : Hp} {σ : L2.St}, σ[2]? = some (some (.int x)) → EvD K N0 (tCB (fun xs H Q => ∃ i, xs = [.int i] ∧ Q (.int (if i < 0 then -i else i)) H) (tCons (tVar 2) tNil)) σ H' (.int (if x < 0 then -x else x)) := fun hσ =>
      ev_cb (ea_cons (ev_var hσ (.int x)) ea_nil) fun H1 vs _ rs Q q => by
        obtain ⟨v, rfl, rv⟩ := rs.one_inv
        exact ⟨x, by rw [rv.int_inv], q _ H1 (Same.refl H1) (.int _)⟩
    have step : ∃ g : Int, 0 ≤ g ∧ EvD K N0 (tIf (tTest (tOp (rI0 fun i j => .bl (decide (i ≥ j))) (tCB (fun xs H Q => ∃ i, xs = [.int i] ∧ Q (.int (if i < 0 then -i else i)) H) (tCons (tVar 2) tNil)) (tOp (rI CPow fun i j => .int (i ^ j.toNat)) (tC (.int 10)) (tC (.int 18))))) (tCB (fun xs H Q => ∃ i, xs = [.int i] ∧ Q (.int (if i < 0 then -i else i)) H) (tCons (tVar 2) tNil)) (tC (.int 0))) (List.set (start N__law_bag [.ref a, .int i]) 2 (some (.int x))) H2 (.int g) := by
      by_cases h : (if x < 0 then -x else x) ≥ 10 ^ Int.toNat 18
      · refine ⟨if x < 0 then -x else x, by split <;> omega, ev_if (b := true) (et_test (EvD.is (ev_cmpI (g := fun i j => decide (i ≥ j)) (ab rfl) (ev_I (g := fun i j => i ^ j.toNat) (C := CPow) ev_int ev_int ⟨by decide, by decide, by decide⟩)) (congrArg PyData.bool (decide_eq_true h)))) (fun _ => ab rfl) (fun z => nomatch z)⟩
      · refine ⟨0, by omega, ev_if (b := false) (et_test (EvD.is (ev_cmpI (g := fun i j => decide (i ≥ j)) (ab rfl) (ev_I (g := fun i j => i ^ j.toNat) (C := CPow) ev_int ev_int ⟨by decide, by decide, by decide⟩)) (congrArg PyData.bool (decide_eq_false h)))) (fun z => nomatch z) (fun _ => ev_int)⟩
    obtain ⟨g, g0, hg⟩ := step
    refine q_set (O := N0) (i := 3) hg fun v3 H3 k3 r3 => ?_
    have e3 := r3.int_inv
    subst e3
    have z1 := Int.emod_nonneg x (show (2305843009213693951 : Int) ≠ 0 by decide)
    have z2 := Int.emod_lt_of_pos x (show (0 : Int) < 2305843009213693951 by decide)
    refine s_retLst (K := K) (O := N0) (ea_cons (ev_var rfl (.int g)) (ea_cons (ev_I (g := fun i j => i % j) (C := fun _ j => 0 < j) (ev_I (g := fun i j => i * j) (C := CMul) (ev_int1 (ev_addI (ev_addI (ev_I (g := fun i j => i % j) (C := fun _ j => 0 < j) (ev_var rfl (.int x)) ev_int (by decide)) (ev_I (g := fun i j => i * j) (C := CMul) ev_int (ev_var rfl (.int i)) (.inl ⟨by decide, by decide⟩))) ev_int)) ev_int (.inr ⟨by decide, by decide⟩)) ev_int (by decide)) (ea_cons ev_int ea_nil))) (by show 3 ≤ sizeLine; decide) fun p vs4 H4 k4 hp r4 => ?_
    cases r4 with
    | cons ra rest =>
      cases rest with
      | cons rb rest =>
        cases rest with
        | cons rc rest =>
          cases rest
          have e4 := ra.int_inv; have e5 := rb.int_inv; have e6 := rc.int_inv
          subst e4; subst e5; subst e6
          have kk := (k2.trans k3).trans k4
          refine q p _ ((Kp.of_same (O := N0) kk).free hp) (kk.trans (same_new hp)) ⟨_, _, _, upd_same, g0, Int.emod_nonneg _ (by decide), Int.emod_lt_of_pos _ (by decide), by decide, by decide⟩
end
end K10

set_option Elab.async false
set_option linter.all false
set_option maxRecDepth 100000
set_option autoImplicit false
set_option maxHeartbeats 4000000
namespace K10
open PySem PySem.Spec PyProof.Rows L2 TL OD
abbrev s__law_term : Stmt := topS 7
abbrev N__law_term : List Str := ["_law_bag_here", "_law_depth", "_law_way", "_law_inputs", "_law_turn", "_law_name"]
theorem sc__law_term : FnScope N__law_term ["_law_bag_here", "_law_depth"] (defScope s__law_term) := ⟨rfl, rfl, rfl, by decide +kernel, rfl, by decide +kernel, by decide +kernel⟩
def cst : Nat → Nat
  | 0 => 0
  | n + 1 => 3 * cst n + 6
def PTerm (n : Nat) : List PyData → Prop := fun ds => ∃ d : Nat, ds = [.int d] ∧ d < n ∧ d ≤ 8
def RTerm : List PyData → PyData → Prop := fun ds r => ∃ (d : Nat) (t : Tm), ds = [.int d] ∧ r = enc t ∧ ok t d
section
variable {P : Program} {w : World} {K : PySem.W.Frag} {mg : Str → Option Value} {base : Heap} {f : Addr} {fd : FuncData}
/-- a drawn term one less deep -/
theorem en_term {b : Addr} {O : Addr → Prop} {σ : L2.St} {H : Hp} {n d i j : Nat} {D : Int} (ob : O b) (hO : Own O H) (hi : σ[i]? = some (some (.ref b))) (hj : σ[j]? = some (some (.int D))) (hD : D = d + 1) (h1 : d < n) (h2 : d ≤ 8) :
    EvN K b O (cst n) (tCall (DrawSp K (cst n) (PTerm n) RTerm) [] E0 (tCons (tVar i) (tCons (tOp (rI0 fun i j => .int (i - j)) (tVar j) (tC (.int 1))) tNil))) σ H (fun r => ∃ t, r = enc t ∧ ok t d) :=
  EvN.le (Nat.le_of_eq (Nat.zero_add _)) (en_call (n1 := 0) (n2 := cst n) ob hO hi (em_of (S := fun ds => ds = [.int d]) (ea_cons (EvD.is (ev_sub (ev_var hj (.int D)) ev_int) (by rw [hD]; congr 1; omega)) ea_nil) rfl)
    (fun ds e => ⟨d, e, h1, h2⟩) (fun ds r e hr => by
      obtain ⟨d', t, e2, rfl, ht⟩ := hr
      rw [e] at e2
      injection e2 with e2
      injection e2 with e2
      have : d = d' := by omega
      subst this
      exact ⟨t, rfl, ht⟩))
theorem strs_mem {x : Str} {r : PyData} {xs : List Str} (h : r ∈ xs.map PyData.str) : ∃ x ∈ xs, r = .str x := by
  obtain ⟨x, hx, e⟩ := List.mem_map.mp h
  exact ⟨x, hx, e.symm⟩
theorem ok_term {n : Nat} (T : Bn mg) (F : Fun K "_law_term" "_law_term" s__law_term f fd) (C__law_take : Cal P w K mg base 1 "_law_take" ["_law_bag_here", "_law_many"] (DrawSp K 1 PTake RTake))
    (C__law_of : Cal P w K mg base 2 "_law_of" ["_law_bag_here", "_law_items"] (DrawSp K 1 POf ROf)) (C__law_term : Cal P w K mg base (n + 2) "_law_term" ["_law_bag_here", "_law_depth"] (DrawSp K (cst n) (PTerm n) RTerm)) :
    FnOk P w K mg base CX0 (n + 3) f fd ["_law_bag_here", "_law_depth"] (DrawSp K (cst (n + 1)) (PTerm (n + 1)) RTerm) := by
  refine draw_ok F sc__law_term (fun ds h => ?_) (fun cdv A outer s H E hr => ?_)
  · obtain ⟨m, rfl, _⟩ := h; rfl
  · have hr__law_take : Room 1 _ := hr.mono (by omega)
    have hr__law_of : Room 2 _ := hr.mono (by omega)
    have hr__law_term := hr
    refine ⟨_, (pss_cons (ps_set (i := 2) sc__law_term.nd rfl (Or.inl rfl) (pe_ifExp (pt_cmpR op_gt (pv 1) pe_int (nomark _)) (pe_callC C__law_take hr__law_take (by rfl) (pa_cons (pv 0) (pa_cons pe_int pa_nil))) (pe_callC C__law_take hr__law_take (by rfl) (pa_cons (pv 0) (pa_cons pe_int pa_nil)))))
    (pss_cons (ps_if (pt_cmpR (op_eqD hr.units) (pv 2) pe_int (nomark _)) (pss_one (ps_ret (pe_callC C__law_of hr__law_of (by rfl) (pa_cons (pv 0) (pa_cons (pe_lst (pa_cons pe_int (pa_cons pe_int (pa_cons pe_int (pa_cons pe_int (pa_cons (pe_callC C__law_take hr__law_take (by rfl) (pa_cons (pv 0) (pa_cons pe_int pa_nil))) pa_nil)))))) pa_nil))))) pss_nil)
    (pss_cons (ps_if (pt_cmpR op_lt (pv 2) pe_int (nomark _)) (pss_one (ps_ret (pe_tup (pa_cons pe_str (pa_cons (pe_callC C__law_of hr__law_of (by rfl) (pa_cons (pv 0) (pa_cons (pe_lst (pa_cons pe_str (pa_cons pe_str (pa_cons pe_str (pa_cons pe_str (pa_cons pe_str (pa_cons pe_str pa_nil))))))) pa_nil))) pa_nil))))) pss_nil)
    (pss_cons (ps_if (pt_cmpR (op_eqD hr.units) (pv 2) pe_int (nomark _)) (pss_one (ps_ret (pe_tup (pa_cons (pe_callC C__law_of hr__law_of (by rfl) (pa_cons (pv 0) (pa_cons (pe_lst (pa_cons pe_str (pa_cons pe_str (pa_cons pe_str (pa_cons pe_str pa_nil))))) pa_nil))) (pa_cons (pe_callC C__law_term hr__law_term (by rfl) (pa_cons (pv 0) (pa_cons (pe_op op_sub (pv 1) pe_int) pa_nil))) (pa_cons (pe_callC C__law_term hr__law_term (by rfl) (pa_cons (pv 0) (pa_cons (pe_op op_sub (pv 1) pe_int) pa_nil))) pa_nil)))))) pss_nil)
    (pss_cons (ps_set (i := 3) sc__law_term.nd rfl (Or.inl rfl) (pe_callTy call_tupA (by rfl) T.n_tuple (by decide +kernel) (pa_cons (pe_lc (own := [("_law_turn", 4)]) (by rfl) sc__law_term.nd (pi_range1 (by rfl) T.n_range (pa_cons (pe_callC C__law_take hr__law_take (by rfl) (pa_cons (pv 0) (pa_cons pe_int pa_nil))) pa_nil)) (blkOk_by (own := [("_law_turn", 4)]) (N := N__law_term) (sc := defScope s__law_term) (by decide +kernel)) (fun _ _ _ _ _ => (pg_name (i := 4) sc__law_term.nd rfl (Or.inl rfl))) (fun _ _ _ _ _ => pts_nil) (fun _ _ _ _ _ => (pe_callC C__law_term hr__law_term (by rfl) (pa_cons (pv 0) (pa_cons (pe_op op_sub (pv 1) pe_int) pa_nil))))) pa_nil)))
    (pss_cons (ps_set (i := 5) sc__law_term.nd rfl (Or.inl rfl) (pe_callC C__law_of hr__law_of (by rfl) (pa_cons (pv 0) (pa_cons (pe_lst (pa_cons pe_str (pa_cons pe_str (pa_cons pe_str (pa_cons pe_str pa_nil))))) pa_nil))))
    (pss_one (ps_ret (pe_ifExp (pt_cmpR (op_eqD hr.units) (pv 2) pe_int (nomark _)) (pe_tup (pa_cons pe_str (pa_cons (pv 5) (pa_cons (pv 3) pa_nil)))) (pe_tup (pa_cons pe_str (pa_cons (pv 5) (pa_cons (pe_callC C__law_of hr__law_of (by rfl) (pa_cons (pv 0) (pa_cons (pe_lst (pa_cons pe_str (pa_cons pe_str (pa_cons pe_str pa_nil)))) pa_nil))) (pa_cons (pv 3) pa_nil)))))))))))))), ?_⟩
    intro b O c ds rest H D ob hO x hv hp q
    obtain ⟨d, rfl, d1, d2⟩ := hp
    obtain ⟨v, rfl, rv⟩ := hv.one_inv
    have ev := rv.int_inv
    subst ev
    have done : ∀ (r : PyData) (v : V) (H' : Hp) (t : Tm), r = enc t → ok t d → Kb b H H' → Bag b c H' → Rp K O H' v r → D.rt v H' := fun r v H' t e ht => q r v H' ⟨d, t, rfl, e, ht⟩
    have hway : EvN K b O 1 _ _ H (fun r => ∃ k : Int, r = .int k ∧ 0 ≤ k ∧ k < 7 ∧ (d = 0 → k < 3)) :=
      en_if (tt := tTest (tOp (rI0 fun i j => .bl (decide (i > j))) (tVar 1) (tC (.int 0)))) (ta := tCall (DrawSp K 1 PTake RTake) [] E0 (tCons (tVar 0) (tCons (tC (.int 7)) tNil))) (tb := tCall (DrawSp K 1 PTake RTake) [] E0 (tCons (tVar 0) (tCons (tC (.int 3)) tNil)))
        (σ := start N__law_term [.ref b, .int d]) (c := decide ((d : Int) > 0)) (et_test (ev_cmpI (g := fun i j => decide (i > j)) (ev_var rfl (.int _)) ev_int))
        (fun h => (en_take ob hO rfl ev_int (by decide) (by decide)).imp fun r ⟨k, e, k0, k1⟩ => ⟨k, e, k0, k1, fun z => absurd (of_decide_eq_true h) (by omega)⟩)
        (fun h => (en_take ob hO rfl ev_int (by decide) (by decide)).imp fun r ⟨k, e, k0, k1⟩ => ⟨k, e, k0, by omega, fun _ => k1⟩)
    refine q_setN (c := c + (3 * cst n + 5)) (i := 2) hway (x.le (by show _ ≤ c + (3 * cst n + 6); omega)) fun r v1 H1 hr1 k1 x1 rv1 => ?_
    obtain ⟨k, rfl, k0, k7, kd⟩ := hr1
    have e1 := rv1.int_inv
    subst e1
    have hO1 : Own O H1 := hO.mono k1
    by_cases w0 : k = 0
    · subst w0
      refine q_ifT (K := K) (O := O) (et_eqI (ev_var rfl (.int _)) ev_int (by decide)) fun H2 k2 => ?_
      have hO2 := hO1.same k2
      refine s_retN (c := c) (EvN.le (m := 3 * cst n + 5) (by omega) (en_call (n1 := 1) (n2 := 1) (R := fun r => ∃ m : Nat, r = .int m ∧ m < 1000000) ob hO2 rfl
        (em_consN (n1 := 1) (n2 := 0) ob (en_lst ob hO2 (em_consD ob ev_int (em_consD ob ev_int (em_consD ob ev_int (em_consD ob ev_int (em_consN (n1 := 1) (n2 := 0) ob (en_take ob hO2 rfl ev_int (by decide) (by decide)) em_end))))) ?_) em_end) ?_ ?_)) (x1.same k2) ?_
      · rintro _ ⟨_, rfl, _, rfl, _, rfl, _, rfl, _, _, rfl, _, rfl⟩
        exact le_line (by simp)
      · rintro _ ⟨_, _, rfl, ⟨_, rfl, _⟩, rfl⟩
        rename_i _ xs h
        obtain ⟨_, rfl, _, rfl, _, rfl, _, rfl, _, _, rfl, _, rfl⟩ := h
        exact ⟨_, rfl, by simp, by simp⟩
      · rintro _ r ⟨_, _, rfl, ⟨_, rfl, _, rfl, _, rfl, _, rfl, _, rfl, _, _, rfl, ⟨j, rfl, j0, j1⟩, rfl⟩, rfl⟩ ⟨xs, e, hm⟩
        injection e with e
        injection e with e
        subst e
        obtain ⟨j, rfl⟩ := Int.eq_ofNat_of_zero_le j0
        simp only [List.mem_cons, List.not_mem_nil, or_false] at hm
        rcases hm with rfl | rfl | rfl | rfl | rfl
        · exact ⟨0, rfl, by decide⟩
        · exact ⟨1, rfl, by decide⟩
        · exact ⟨12, rfl, by decide⟩
        · exact ⟨999999, rfl, by decide⟩
        · exact ⟨j, rfl, by omega⟩
      · rintro r v H3 ⟨m, rfl, hm⟩ k3 x3 rv
        exact done _ _ _ (.num m) (by rw [enc]) (by unfold ok; exact hm) ((k1.s k2).trans k3) x3 rv
    · refine q_ifF (K := K) (O := O) (et_eqI (ev_var rfl (.int _)) ev_int (by simpa using w0)) fun H2 k2 => ?_
      by_cases w3 : k < 3
      · refine q_ifT (K := K) (O := O) (et_test (EvD.is (ev_cmpI (g := fun i j => decide (i < j)) (ev_var rfl (.int _)) ev_int) (congrArg PyData.bool (decide_eq_true w3)))) fun H3 k3 => ?_
        have hO3 := (hO1.same k2).same k3
        refine s_retN (c := c) (EvN.le (m := 3 * cst n + 5) (by omega) (en_tup (n := 1) (em_consD ob ev_str (em_consN (n1 := 1) (n2 := 0) ob (en_ofS (xs := (["x", "f", "g", "aa", "a", "abcdefgh"] : List Str).map PyData.str) ob hO3 rfl (ea_cons ev_str (ea_cons ev_str (ea_cons ev_str (ea_cons ev_str (ea_cons ev_str (ea_cons ev_str ea_nil)))))) (by decide) (by decide)) em_end)) ?_)) ((x1.same k2).same k3) ?_
        · rintro _ ⟨_, rfl, _, _, rfl, _, rfl⟩
          exact le_line (by simp)
        · rintro r v H4 ⟨_, rfl, _, rfl, _, _, rfl, hm, rfl⟩ k4 x4 rv
          obtain ⟨y, hy, rfl⟩ := strs_mem (x := "x") hm
          exact done _ _ _ (.first y) (by rw [enc]) (by unfold ok; exact hy) (((k1.s k2).s k3).trans k4) x4 rv
      · refine q_ifF (K := K) (O := O) (et_test (EvD.is (ev_cmpI (g := fun i j => decide (i < j)) (ev_var rfl (.int _)) ev_int) (congrArg PyData.bool (decide_eq_false w3)))) fun H3 k3 => ?_
        have hO3 := (hO1.same k2).same k3
        have x3 := (x1.same k2).same k3
        have kk3 : Kb b H H3 := (k1.s k2).s k3
        obtain ⟨d', rfl⟩ : ∃ d', d = d' + 1 := ⟨d - 1, by omega⟩
        have dn : d' < n := by omega
        by_cases w4 : k = 3
        · subst w4
          refine q_ifT (K := K) (O := O) (et_eqI (ev_var rfl (.int _)) ev_int (by decide)) fun H4 k4 => ?_
          have hO4 := hO3.same k4
          refine s_retN (c := c) (EvN.le (m := 3 * cst n + 5) (by omega) (en_tup (em_consN (n1 := 1) ob (en_ofS (xs := (["+", "-", "*", "<"] : List Str).map PyData.str) ob hO4 rfl (ea_cons ev_str (ea_cons ev_str (ea_cons ev_str (ea_cons ev_str ea_nil)))) (by decide) (by decide))
            (em_consN ob (en_term (d := d') ob hO4 rfl rfl (by omega) dn (by omega)) (em_consN (n2 := 0) ob (en_term (d := d') ob hO4 rfl rfl (by omega) dn (by omega)) em_end))) ?_)) (x3.same k4) ?_
          · rintro _ ⟨_, _, rfl, _, _, _, rfl, _, _, _, rfl, _, rfl⟩
            exact le_line (by simp)
          · rintro r v H5 ⟨_, rfl, _, _, rfl, hm, _, _, rfl, ⟨ta, rfl, oa⟩, _, _, rfl, ⟨tb, rfl, ob'⟩, rfl⟩ k5 x5 rv
            obtain ⟨y, hy, rfl⟩ := strs_mem (x := "x") hm
            exact done _ _ _ (.op y ta tb) (by rw [enc]) (by unfold ok; exact ⟨hy, oa, ob'⟩) ((kk3.s k4).trans k5) x5 rv
        · refine q_ifF (K := K) (O := O) (et_eqI (ev_var rfl (.int _)) ev_int (by simpa using w4)) fun H4 k4 => ?_
          have hO4 := hO3.same k4
          have x4 := x3.same k4
          have hin := en_tupL ob hO4 (en_lcR (vs := [4]) (σ := List.set (start N__law_term [.ref b, .int (d' + 1 : Nat)]) 2 (some (.int k))) (te := tCall (DrawSp K (cst n) (PTerm n) RTerm) [] E0 (tCons (tVar 0) (tCons (tOp (rI0 fun i j => .int (i - j)) (tVar 1) (tC (.int 1))) tNil))) (j := 4) (mx := 3) ob hO4 (by decide)
            ((en_take (i := 0) (ta := tC (.int 4)) ob hO4 rfl ev_int (by decide) (by decide)).imp fun r ⟨j, e, j0, j1⟩ => ⟨j, e, j0, by omega⟩) (fun _ => rfl)
            (fun O' H1 ob' lf i => en_term (d := d') ob' lf.own rfl rfl (by omega) dn (by omega)))
          refine q_setN (c := c + 2) (i := 3) hin (x4.le (by omega)) fun r v5 H5 hr5 k5 x5 rv5 => ?_
          obtain ⟨es, rfl, el, eo⟩ := hr5
          have hO5 : Own O H5 := hO4.mono k5
          obtain ⟨ts, rfl, to⟩ : ∃ ts, es = encs ts ∧ oks ts d' := by
            clear rv5 el
            induction es with
            | nil => exact ⟨[], rfl, by unfold oks; trivial⟩
            | cons e es ih =>
              obtain ⟨t, rfl, ht⟩ := eo e (by simp)
              obtain ⟨ts, rfl, hts⟩ := ih fun e he => eo e (by simp [he])
              exact ⟨t :: ts, by rw [encs], by unfold oks; exact ⟨ht, hts⟩⟩
          rw [encs_len] at el
          refine q_setN (c := c + 1) (i := 5) (en_ofS (xs := (["x", "f", "a", "abcdefgh"] : List Str).map PyData.str) ob hO5 rfl (ea_cons ev_str (ea_cons ev_str (ea_cons ev_str (ea_cons ev_str ea_nil)))) (by decide) (by decide)) x5 fun r v6 H6 hr6 k6 x6 rv6 => ?_
          obtain ⟨y, hy, rfl⟩ := strs_mem (x := "x") hr6
          have e6 := rv6.str_inv
          subst e6
          have hyn : y ∈ names := by
            have : ∀ z ∈ (["x", "f", "a", "abcdefgh"] : List Str), z ∈ names := by decide +kernel
            exact this y hy
          have hO6 : Own O H6 := hO5.mono k6
          have r5 : Rp K O H6 v5 (.tuple (encs ts)) := rv5.mono (.ofb ob k6)
          have kk6 : Kb b H H6 := ((kk3.s k4).trans k5).trans k6
          refine EvN.use (te := tIf _ _ _) (en_if (n := 1) (R := fun r => ∃ t, r = enc t ∧ ok t (d' + 1)) (c := (k == 4)) (et_eqI (ev_var rfl (.int _)) ev_int rfl)
            (fun _ => EvN.le (Nat.zero_le 1) (en_of (ev_tup (ea_cons ev_str (ea_cons (ev_var rfl (.str y)) (ea_cons (ev_var rfl r5) ea_nil))) (le_line (by simp))) ⟨.value y ts, by rw [enc], by unfold ok; exact ⟨hyn, el, to⟩⟩))
            (fun _ => EvN.imp (en_tup (n := 1) (em_consD ob ev_str (em_consD ob (ev_var rfl (.str y)) (em_consN (n1 := 1) (n2 := 0) ob (en_ofS (xs := (["x", "f", "aa"] : List Str).map PyData.str) ob hO6 rfl (ea_cons ev_str (ea_cons ev_str (ea_cons ev_str ea_nil))) (by decide) (by decide)) (em_consD ob (ev_var rfl r5) em_end)))) (by
                rintro _ ⟨_, rfl, _, rfl, _, _, rfl, _, _, rfl, rfl⟩
                exact le_line (by simp))) (by
              rintro r ⟨_, rfl, _, rfl, _, rfl, _, _, rfl, hm, _, rfl, rfl⟩
              obtain ⟨z, hz, rfl⟩ := strs_mem (x := "x") hm
              have hzn : z ∈ names := by
                have : ∀ z ∈ (["x", "f", "aa"] : List Str), z ∈ names := by decide +kernel
                exact this z hz
              exact ⟨.left y z ts, by rw [enc], by unfold ok; exact ⟨hyn, hzn, el, to⟩⟩))) x6 fun r v7 H7 hr7 k7 x7 rv7 => ?_
          obtain ⟨t, rfl, ht⟩ := hr7
          exact done _ _ _ t rfl ht (kk6.trans k7) x7 rv7
end
end K10

set_option Elab.async false
set_option linter.all false
set_option maxRecDepth 100000
set_option autoImplicit false
set_option maxHeartbeats 4000000
namespace K10
open PySem PySem.Spec PyProof.Rows L2 TL OD
abbrev s__law_written : Stmt := topS 8
abbrev N__law_written : List Str := ["_law_thing", "_law_head", "_law_one"]
theorem sc__law_written : FnScope N__law_written ["_law_thing"] (defScope s__law_written) := ⟨rfl, rfl, rfl, by decide +kernel, rfl, by decide +kernel, by decide +kernel⟩
abbrev s__law_bent : Stmt := topS 9
abbrev N__law_bent : List Str := ["_law_bag_here", "_law_thing", "_law_inputs", "_law_at", "_law_more"]
theorem sc__law_bent : FnScope N__law_bent ["_law_bag_here", "_law_thing"] (defScope s__law_bent) := ⟨rfl, rfl, rfl, by decide +kernel, rfl, by decide +kernel, by decide +kernel⟩
theorem sign_nin {s : Str} (h : s ∈ signs) : (["value", "left"] : List Str).contains s = false := by
  have : ∀ y ∈ signs, (["value", "left"] : List Str).contains y = false := by decide +kernel
  exact this s h
section
variable {P : Program} {w : World} {K : PySem.W.Frag} {mg : Str → Option Value} {base : Heap} {f : Addr} {fd : FuncData}
theorem ok_written {n : Nat} (T : Bn mg) (F : Fun K "_law_written" "_law_written" s__law_written f fd) (C__law_written : Cal P w K mg base n "_law_written" ["_law_thing"] (PureSp K (RShow n))) :
    FnOk P w K mg base CX0 (n + 1) f fd ["_law_thing"] (PureSp K (RShow (n + 1))) := by
  refine pure_ok F sc__law_written (fun ds r h => ?_) (fun cdv A outer s H E hr => ?_)
  · obtain ⟨t, d, rfl, _⟩ := h; rfl
  · have hr__law_written := hr
    refine ⟨_, (pss_cons (ps_if (pt_val (pe_callB call_isi (by rfl) T.n_isinstance (by decide +kernel) (pa_cons (pv 0) (pa_cons (pe_bltn (v := .ty "int") (by rfl) T.n_int (by decide +kernel) rfl) pa_nil)))) (pss_one (ps_ret (pe_callTy call_strI (by rfl) T.n_str (by decide +kernel) (pa_cons (pv 0) pa_nil)))) pss_nil)
    (pss_cons (ps_if (pt_cmpR (op_eqD hr.units) (pe_ix ix_any (pv 0) pe_int (fun _ _ => rfl)) pe_str (nomark _)) (pss_one (ps_ret (pe_ix ix_any (pv 0) pe_int (fun _ _ => rfl)))) pss_nil)
    (pss_cons (ps_if (pt_cmpR op_in_seq (pe_ix ix_any (pv 0) pe_int (fun _ _ => rfl)) (pe_tup (pa_cons pe_str (pa_cons pe_str pa_nil))) (by rfl)) (pss_cons (ps_set (i := 1) sc__law_written.nd rfl (Or.inl rfl) (pe_ifExp (pt_cmpR (op_eqD hr.units) (pe_ix ix_any (pv 0) pe_int (fun _ _ => rfl)) pe_str (nomark _)) (pe_ix ix_any (pv 0) pe_int (fun _ _ => rfl)) (pe_op op_addA (pe_op op_addA (pe_ix ix_any (pv 0) pe_int (fun _ _ => rfl)) pe_str) (pe_ix ix_any (pv 0) pe_int (fun _ _ => rfl)))))
    (pss_one (ps_ret (pe_op op_addA (pe_op op_addA (pe_op op_addA (pv 1) pe_str) (pe_joinA pe_str (pe_lc (own := [("_law_one", 2)]) (by rfl) sc__law_written.nd (pi_any (pe_ix ix_any (pv 0) (pe_un un_neg pe_int) (fun _ _ => rfl))) (blkOk_by (own := [("_law_one", 2)]) (N := N__law_written) (sc := defScope s__law_written) (by decide +kernel)) (fun _ _ _ _ _ => (pg_name (i := 2) sc__law_written.nd rfl (Or.inl rfl))) (fun _ _ _ _ _ => pts_nil) (fun _ _ _ _ _ => (pe_callC C__law_written hr__law_written (by rfl) (pa_cons (pv 2) pa_nil)))))) pe_str)))) pss_nil)
    (pss_one (ps_ret (pe_op op_addA (pe_op op_addA (pe_op op_addA (pe_op op_addA (pe_op op_addA (pe_op op_addA pe_str (pe_callC C__law_written hr__law_written (by rfl) (pa_cons (pe_ix ix_any (pv 0) pe_int (fun _ _ => rfl)) pa_nil))) pe_str) (pe_ix ix_any (pv 0) pe_int (fun _ _ => rfl))) pe_str) (pe_callC C__law_written hr__law_written (by rfl) (pa_cons (pe_ix ix_any (pv 0) pe_int (fun _ _ => rfl)) pa_nil))) pe_str)))))), ?_⟩
    intro O ds r vs H D hO hv hR q
    obtain ⟨t, d, rfl, hn, hd, ht, rfl⟩ := hR
    obtain ⟨v, rfl, rv⟩ := hv.one_inv
    have c8 := cap8 hd
    have hF : SeqAt.shaped (.str (Str.ofString "first")) = true := sh_str (by simp)
    have hV : SeqAt.shaped (.str (Str.ofString "value")) = true := sh_str (by simp)
    have hL : SeqAt.shaped (.str (Str.ofString "left")) = true := sh_str (by simp)
    have l1 : (Str.ofString "(").length = 1 := by decide +kernel
    have l2 : (Str.ofString ")").length = 1 := by decide +kernel
    have l3 : (Str.ofString " ").length = 1 := by decide +kernel
    have l4 : (Str.ofString ".").length = 1 := by decide +kernel
    have t1 : tl (Str.ofString "(") = [40] := by decide +kernel
    have t2 : tl (Str.ofString ")") = [41] := by decide +kernel
    have t3 : tl (Str.ofString " ") = [32] := by decide +kernel
    have t4 : tl (Str.ofString ".") = [46] := by decide +kernel
    have lc : ∀ (ts : List Tm) (d' : Nat), d' ≤ 8 → oks ts d' → d' < n → ts.length ≤ 3 → ∀ {σ : L2.St} {H1 : Hp} {ti : TE} {x y z : Option V}, Own O H1 → σ = [x, y, z] → EvD K O ti σ H1 (.tuple (encs ts)) →
        EvD K O (tM1 (rJoin K) (tC (.str (Str.ofString ", "))) (tLc (iSeq K ti) (gName 2) tYes (tCall (PureSp K (RShow n)) [] E0 (tCons (tVar 2) tNil)) [2])) σ H1 (.str (Txt.join (Str.ofString ", ") (ts.map txt))) := by
      intro ts d' hd' ho hdn hl σ H1 ti x y z hO1 hσ hi
      subst hσ
      refine ev_join (ys := ts.map txt) ev_str (ev_lcT hi hO1 ?_ ?_ (fun _ => rfl) ?_) (comma_sum hd' ho hl)
      · rw [encs_len]; exact le_line (by omega)
      · rw [encs_len]; simp
      · intro O' H1 lf i d1 e v1 h1 h2 r1
        obtain ⟨t, hm, rfl, rfl⟩ := two_at h1 h2
        exact ev_callP lf.own (ea_cons (ev_var rfl r1) ea_nil) ⟨t, d', rfl, hdn, hd', oks_iff.mp ho t hm, rfl⟩
    cases t with
    | num m =>
      unfold ok at ht
      rw [enc] at rv
      refine q_ifT (et_B (ev_isi (ev_var rfl rv) kit_ii)) fun H1 k1 => ?_
      exact s_ret (EvD.is (ev_strI (ev_var rfl (rv.same k1)) (num_log ht)) (congrArg PyData.str (txt_num m))) fun v H2 k2 r => q v H2 (k1.trans k2) r
    | first x =>
      unfold ok at ht
      rw [enc] at rv
      refine q_ifF (et_B (ev_isi (ev_var rfl rv) kit_ti)) fun H1 k1 => ?_
      refine q_ifT (et_eqS (ev_ixT (ev_var rfl (rv.same k1)) ev_int rfl) ev_str hF hF (by decide +kernel)) fun H2 k2 => ?_
      refine s_ret (EvD.is (ev_ixT (ev_var rfl ((rv.same k1).same k2)) ev_int rfl) ?_) fun v H3 k3 r => q v H3 ((k1.trans k2).trans k3) r
      exact congrArg PyData.str (tl_inj (by rw [tl_txt, txL]))
    | op s a b =>
      cases d with
      | zero => unfold ok at ht; exact ht.elim
      | succ d =>
        have cc : 3 * cap d + 40 ≤ 200000 := c8
        unfold ok at ht
        rw [enc] at rv
        obtain ⟨n1, n2, n3⟩ := sign_nf ht.1
        have hs : SeqAt.shaped (.str s) = true := sh_str (by simp [ht.1])
        have la := tx_len ht.2.1; have lb := tx_len ht.2.2; have ls := sign_len ht.1
        rw [← txt_len] at la lb
        refine q_ifF (et_B (ev_isi (ev_var rfl rv) kit_ti)) fun H1 k1 => ?_
        refine q_ifF (et_eqS (ev_ixT (ev_var rfl (rv.same k1)) ev_int rfl) ev_str hs hF n1) fun H2 k2 => ?_
        refine q_ifF (et_test (ev_inS (ys := (["value", "left"] : List Str)) (ev_ixT (ev_var rfl ((rv.same k1).same k2)) ev_int rfl) (ev_tup (ea_cons ev_str (ea_cons ev_str ea_nil)) (by show 2 ≤ sizeLine; decide)) (sign_nin ht.1))) fun H3 k3 => ?_
        have kk : Same H H3 := (k1.trans k2).trans k3
        have r4 := rv.same kk
        have hO4 : Own O H3 := hO.same kk
        refine s_ret (EvD.is (ev_addS (ev_addS (ev_addS (ev_addS (ev_addS (ev_addS ev_str (ev_callP (z := .str (txt a)) hO4 (ea_cons (ev_ixT (ev_var rfl r4) ev_int rfl) ea_nil) ⟨a, d, rfl, by omega, by omega, ht.2.1, rfl⟩) ?_) ev_str ?_) (ev_ixT (ev_var rfl r4) ev_int rfl) ?_) ev_str ?_) (ev_callP (z := .str (txt b)) hO4 (ea_cons (ev_ixT (ev_var rfl r4) ev_int rfl) ea_nil) ⟨b, d, rfl, by omega, by omega, ht.2.2, rfl⟩) ?_) ev_str ?_) ?_) fun v H5 k5 r => q v H5 (kk.trans k5) r
        · exact le_line (by omega)
        · simp only [len_app]; exact le_line (by omega)
        · simp only [len_app]; exact le_line (by omega)
        · simp only [len_app]; exact le_line (by omega)
        · simp only [len_app]; exact le_line (by omega)
        · simp only [len_app]; exact le_line (by omega)
        · refine congrArg PyData.str (tl_inj ?_)
          simp only [tl_append, t1, t2, t3, tl_txt, txL, List.nil_append, List.append_assoc, List.cons_append]
    | value g xs =>
      cases d with
      | zero => unfold ok at ht; exact ht.elim
      | succ d =>
        have cc : 3 * cap d + 40 ≤ 200000 := c8
        unfold ok at ht
        rw [enc] at rv
        have lg := name_len ht.1
        have lj := comma_len (show d ≤ 8 by omega) ht.2.2 ht.2.1
        refine q_ifF (et_B (ev_isi (ev_var rfl rv) kit_ti)) fun H1 k1 => ?_
        refine q_ifF (et_eqS (ev_ixT (ev_var rfl (rv.same k1)) ev_int rfl) ev_str hV hF (by decide +kernel)) fun H2 k2 => ?_
        refine q_ifT (et_test (ev_inS (ys := (["value", "left"] : List Str)) (ev_ixT (ev_var rfl ((rv.same k1).same k2)) ev_int rfl) (ev_tup (ea_cons ev_str (ea_cons ev_str ea_nil)) (by show 2 ≤ sizeLine; decide)) (by decide +kernel))) fun H3 k3 => ?_
        have kk : Same H H3 := (k1.trans k2).trans k3
        have r3 := rv.same kk
        refine q_set (i := 1) (d := .str g) (ev_if (b := true) (et_eqS (ev_ixT (ev_var rfl r3) ev_int rfl) ev_str hV hV (by decide +kernel)) (fun _ => ev_ixT (ev_var rfl r3) ev_int rfl) (fun z => nomatch z)) fun v4 H4 k4 r4 => ?_
        have e4 := r4.str_inv
        subst e4
        refine s_ret (EvD.is (ev_addS (ev_addS (ev_addS (ev_var rfl (.str g)) ev_str ?_) (lc xs d (by omega) ht.2.2 (by omega) ht.2.1 ((hO.same kk).same k4) rfl (ev_ixT (ev_var rfl (r3.same k4)) (ev_neg ev_int) rfl)) ?_) ev_str ?_) ?_) fun v H5 k5 r => q v H5 ((kk.trans k4).trans k5) r
        · exact le_line (by omega)
        · simp only [len_app]; exact le_line (by omega)
        · simp only [len_app]; exact le_line (by omega)
        · refine congrArg PyData.str (tl_inj ?_)
          simp only [tl_append, t1, t2, tl_txt, txL, tl_comma, List.nil_append, List.append_assoc, List.cons_append]
    | left g x xs =>
      cases d with
      | zero => unfold ok at ht; exact ht.elim
      | succ d =>
        have cc : 3 * cap d + 40 ≤ 200000 := c8
        unfold ok at ht
        rw [enc] at rv
        have lg := name_len ht.1
        have lx := name_len ht.2.1
        have lj := comma_len (show d ≤ 8 by omega) ht.2.2.2 ht.2.2.1
        refine q_ifF (et_B (ev_isi (ev_var rfl rv) kit_ti)) fun H1 k1 => ?_
        refine q_ifF (et_eqS (ev_ixT (ev_var rfl (rv.same k1)) ev_int rfl) ev_str hL hF (by decide +kernel)) fun H2 k2 => ?_
        refine q_ifT (et_test (ev_inS (ys := (["value", "left"] : List Str)) (ev_ixT (ev_var rfl ((rv.same k1).same k2)) ev_int rfl) (ev_tup (ea_cons ev_str (ea_cons ev_str ea_nil)) (by show 2 ≤ sizeLine; decide)) (by decide +kernel))) fun H3 k3 => ?_
        have kk : Same H H3 := (k1.trans k2).trans k3
        have r3 := rv.same kk
        refine q_set (i := 1) (d := .str (g ++ Str.ofString "." ++ x)) (ev_if (b := false) (et_eqS (ev_ixT (ev_var rfl r3) ev_int rfl) ev_str hL hV (by decide +kernel)) (fun z => nomatch z) (fun _ => ev_addS (ev_addS (ev_ixT (ev_var rfl r3) ev_int rfl) ev_str (le_line (by omega))) (ev_ixT (ev_var rfl r3) ev_int rfl) (by simp only [len_app]; exact le_line (by omega)))) fun v4 H4 k4 r4 => ?_
        have e4 := r4.str_inv
        subst e4
        refine s_ret (EvD.is (ev_addS (ev_addS (ev_addS (ev_var rfl (.str _)) ev_str ?_) (lc xs d (by omega) ht.2.2.2 (by omega) ht.2.2.1 ((hO.same kk).same k4) rfl (ev_ixT (ev_var rfl (r3.same k4)) (ev_neg ev_int) rfl)) ?_) ev_str ?_) ?_) fun v H5 k5 r => q v H5 ((kk.trans k4).trans k5) r
        · simp only [len_app]; exact le_line (by omega)
        · simp only [len_app]; exact le_line (by omega)
        · simp only [len_app]; exact le_line (by omega)
        · refine congrArg PyData.str (tl_inj ?_)
          simp only [tl_append, t1, t2, t4, tl_txt, txL, tl_comma, List.nil_append, List.append_assoc, List.cons_append]
end
/-! ### a term with a part replaced -/
def bn : Nat → Nat
  | 0 => 0
  | n + 1 => bn n + cst 5 + 3
def PBent (n : Nat) : List PyData → Prop := fun ds => ∃ (t : Tm) (d : Nat), n = d + 1 ∧ d ≤ 6 ∧ ds = [enc t] ∧ ok t d
def RBent (n : Nat) : List PyData → PyData → Prop := fun _ r => ∃ t : Tm, r = enc t ∧ ok t n
/-- a call: all but its inputs, its inputs -/
structure Pkg (t : Tm) (d : Nat) (hd : List PyData) (wd : Str) (xs : List Tm) : Prop where
  is : enc t = .tuple (hd ++ [.tuple (encs xs)])
  len : hd.length ≤ 3
  at0 : hd[0]? = some (.str wd)
  word : wd = "value" ∨ wd = "left"
  few : xs.length ≤ 3
  oks : oks xs d
  back : ∀ xs' e, K10.oks xs' e → xs'.length ≤ 3 → ∃ t', enc t' = .tuple (hd ++ [.tuple (encs xs')]) ∧ ok t' (e + 1)
theorem tm_kinds {t : Tm} {d : Nat} (h : ok t d) : (∃ m, t = .num m) ∨ (∃ x, t = .first x) ∨ (∃ s a b, t = .op s a b) ∨ ∃ hd wd xs d', d = d' + 1 ∧ Pkg t d' hd wd xs := by
  cases t with
  | num m => exact .inl ⟨m, rfl⟩
  | first x => exact .inr (.inl ⟨x, rfl⟩)
  | op s a b => exact .inr (.inr (.inl ⟨s, a, b, rfl⟩))
  | value f xs =>
    cases d with
    | zero => unfold ok at h; exact h.elim
    | succ d =>
      unfold ok at h
      exact .inr (.inr (.inr ⟨[.str "value", .str f], "value", xs, d, rfl, by rw [enc]; rfl, by simp, rfl, .inl rfl, h.2.1, h.2.2, fun xs' e h1 h2 => ⟨.value f xs', by rw [enc]; rfl, by unfold ok; exact ⟨h.1, h2, h1⟩⟩⟩))
  | left f x xs =>
    cases d with
    | zero => unfold ok at h; exact h.elim
    | succ d =>
      unfold ok at h
      exact .inr (.inr (.inr ⟨[.str "left", .str f, .str x], "left", xs, d, rfl, by rw [enc]; rfl, by simp, rfl, .inr rfl, h.2.2.1, h.2.2.2, fun xs' e h1 h2 => ⟨.left f x xs', by rw [enc]; rfl, by unfold ok; exact ⟨h.1, h.2.1, h2, h1⟩⟩⟩))
theorem encs_set : ∀ (xs : List Tm) (j : Nat) (t : Tm), (encs xs).set j (enc t) = encs (xs.set j t)
  | [], _, _ => rfl
  | x :: xs, 0, t => by rw [encs, List.set_cons_zero, List.set_cons_zero, encs]
  | x :: xs, j + 1, t => by rw [encs, List.set_cons_succ, List.set_cons_succ, encs, encs_set xs j t]
theorem oks_set {xs : List Tm} {d j : Nat} {t : Tm} (h : oks xs d) (ht : ok t d) : oks (xs.set j t) d := by
  rw [oks_iff] at h ⊢
  intro u hu
  rcases List.mem_or_eq_of_mem_set hu with h1 | h1
  · exact h u h1
  · rw [h1]; exact ht
section
variable {P : Program} {w : World} {K : PySem.W.Frag} {mg : Str → Option Value} {base : Heap} {f : Addr} {fd : FuncData}
theorem en_termC {b : Addr} {O : Addr → Prop} {σ : L2.St} {H : Hp} {d i : Nat} {z : Int} (ob : O b) (hO : Own O H) (hi : σ[i]? = some (some (.ref b))) (hz : z = d) (h1 : d < 5) :
    EvN K b O (cst 5) (tCall (DrawSp K (cst 5) (PTerm 5) RTerm) [] E0 (tCons (tVar i) (tCons (tC (.int z)) tNil))) σ H (fun r => ∃ t, r = enc t ∧ ok t d) :=
  EvN.le (Nat.le_of_eq (Nat.zero_add _)) (en_call (n1 := 0) (n2 := cst 5) ob hO hi (em_of (S := fun ds => ds = [.int d]) (ea_cons (EvD.is ev_int (by rw [hz])) ea_nil) rfl)
    (fun ds e => ⟨d, e, h1, by omega⟩) (fun ds r e hr => by
      obtain ⟨d', t, e2, rfl, ht⟩ := hr
      rw [e] at e2
      injection e2 with e2
      injection e2 with e2
      have : d = d' := by omega
      subst this
      exact ⟨t, rfl, ht⟩))
theorem ok_bent {n : Nat} (T : Bn mg) (F : Fun K "_law_bent" "_law_bent" s__law_bent f fd) (C__law_take : Cal P w K mg base 1 "_law_take" ["_law_bag_here", "_law_many"] (DrawSp K 1 PTake RTake))
    (C__law_term : Cal P w K mg base 7 "_law_term" ["_law_bag_here", "_law_depth"] (DrawSp K (cst 5) (PTerm 5) RTerm)) (C__law_bent : Cal P w K mg base (n + 7) "_law_bent" ["_law_bag_here", "_law_thing"] (DrawSp K (bn n) (PBent n) (RBent n))) :
    FnOk P w K mg base CX0 (n + 8) f fd ["_law_bag_here", "_law_thing"] (DrawSp K (bn (n + 1)) (PBent (n + 1)) (RBent (n + 1))) := by
  refine draw_ok F sc__law_bent (fun ds h => ?_) (fun cdv A outer s H E hr => ?_)
  · obtain ⟨t, d, _, _, rfl, _⟩ := h; rfl
  · have hr__law_take : Room 1 _ := hr.mono (by omega)
    have hr__law_term : Room 7 _ := hr.mono (by omega)
    have hr__law_bent := hr
    refine ⟨_, (pss_cons (ps_if (PW.pt (pw_or (pt_val (pe_callB call_isi (by rfl) T.n_isinstance (by decide +kernel) (pa_cons (pv 1) (pa_cons (pe_bltn (v := .ty "int") (by rfl) T.n_int (by decide +kernel) rfl) pa_nil)))) (pw_or (pt_cmpR (op_eqD hr.units) (pe_ix ix_any (pv 1) pe_int (fun _ _ => rfl)) pe_str (nomark _)) (pw_or1 (pt_cmpR (op_eqD hr.units) (pe_callC C__law_take hr__law_take (by rfl) (pa_cons (pv 0) (pa_cons pe_int pa_nil))) pe_int (nomark _)))))) (pss_one (ps_ret (pe_callC C__law_term hr__law_term (by rfl) (pa_cons (pv 0) (pa_cons pe_int pa_nil))))) pss_nil)
    (pss_cons (ps_if (pt_cmpR op_in_seq (pe_ix ix_any (pv 1) pe_int (fun _ _ => rfl)) (pe_tup (pa_cons pe_str (pa_cons pe_str pa_nil))) (by rfl)) (pss_cons (ps_set (i := 2) sc__law_bent.nd rfl (Or.inl rfl) (pe_ix ix_any (pv 1) (pe_un un_neg pe_int) (fun _ _ => rfl)))
    (pss_cons (ps_if (pt_cmpR (op_eqD hr.units) (pv 2) (pe_tup pa_nil) (nomark _)) (pss_one (ps_ret (pe_op op_addA (pe_slice sl_any (pv 1) po_none (po_some (pe_un un_neg pe_int))) (pe_tup (pa_cons (pe_tup (pa_cons (pe_callC C__law_term hr__law_term (by rfl) (pa_cons (pv 0) (pa_cons pe_int pa_nil))) pa_nil)) pa_nil))))) pss_nil)
    (pss_cons (ps_set (i := 3) sc__law_bent.nd rfl (Or.inl rfl) (pe_callC C__law_take hr__law_take (by rfl) (pa_cons (pv 0) (pa_cons (pe_callB call_lenA (by rfl) T.n_len (by decide +kernel) (pa_cons (pv 2) pa_nil)) pa_nil))))
    (pss_cons (ps_set (i := 4) sc__law_bent.nd rfl (Or.inl rfl) (pe_callTy call_listA (by rfl) T.n_list (by decide +kernel) (pa_cons (pv 2) pa_nil)))
    (pss_cons (ps_asg (pe_callC C__law_bent hr__law_bent (by rfl) (pa_cons (pv 0) (pa_cons (pe_ix ix_any (pv 2) (pv 3) (fun _ _ => rfl)) pa_nil))) (pg_sub (pv 4) (pv 3) set_list))
    (pss_one (ps_ret (pe_op op_addA (pe_slice sl_any (pv 1) po_none (po_some (pe_un un_neg pe_int))) (pe_tup (pa_cons (pe_callTy call_tupA (by rfl) T.n_tuple (by decide +kernel) (pa_cons (pv 4) pa_nil)) pa_nil)))))))))) pss_nil)
    (pss_one (ps_ret (pe_ifExp (pt_cmpR (op_eqD hr.units) (pe_callC C__law_take hr__law_take (by rfl) (pa_cons (pv 0) (pa_cons pe_int pa_nil))) pe_int (nomark _)) (pe_tup (pa_cons (pe_ix ix_any (pv 1) pe_int (fun _ _ => rfl)) (pa_cons (pe_callC C__law_bent hr__law_bent (by rfl) (pa_cons (pv 0) (pa_cons (pe_ix ix_any (pv 1) pe_int (fun _ _ => rfl)) pa_nil))) (pa_cons (pe_ix ix_any (pv 1) pe_int (fun _ _ => rfl)) pa_nil)))) (pe_tup (pa_cons (pe_ix ix_any (pv 1) pe_int (fun _ _ => rfl)) (pa_cons (pe_ix ix_any (pv 1) pe_int (fun _ _ => rfl)) (pa_cons (pe_ix ix_any (pv 1) pe_int (fun _ _ => rfl)) pa_nil))))))))), ?_⟩
    intro b O c ds rest H D ob hO x hv hp q
    obtain ⟨t, d, hnd, d6, rfl, ht⟩ := hp
    have hnd' : n = d := by omega
    subst hnd'
    obtain ⟨v, rfl, rv⟩ := hv.one_inv
    have done : ∀ (r : PyData) (v : V) (H' : Hp) (t : Tm), r = enc t → ok t (n + 1) → Kb b H H' → Bag b c H' → Rp K O H' v r → D.rt v H' := fun r v H' t e ht => q r v H' ⟨t, e, ht⟩
    have x' : Bag b (c + (bn n + cst 5 + 3)) H := x
    have hF : SeqAt.shaped (.str (Str.ofString "first")) = true := sh_str (by simp)
    rcases tm_kinds ht with ⟨m, rfl⟩ | ⟨y, rfl⟩ | ⟨s, a, e, rfl⟩ | ⟨hd, wd, xs, d', rfl, pk⟩
    · rw [enc] at rv
      refine q_ifT (K := K) (O := O) ((et_or (b := true) (et_B (ev_isi (ev_var rfl rv) kit_ii)) (fun z => nomatch z)).is rfl) fun H1 k1 => ?_
      refine s_retN (c := c) (EvN.le (m := bn n + cst 5 + 3) (by omega) (en_termC (d := 1) ob (hO.same k1) rfl rfl (by decide))) (x'.same k1) fun r v2 H2 hr k2 x2 rv2 => ?_
      obtain ⟨t, rfl, h1⟩ := hr
      exact done _ _ _ t rfl (ok_mono (by omega) h1) ((Kp.of_same k1).trans k2) x2 rv2
    · rw [enc] at rv
      refine q_ifT (K := K) (O := O) ((et_or (a := false) (b := true) (et_B (ev_isi (ev_var rfl rv) kit_ti)) (fun _ => (et_or (a := true) (b := true) (et_eqS (ev_ixT (ev_var rfl rv) ev_int rfl) ev_str hF hF (by decide +kernel)) (fun z => nomatch z)).is rfl)).is rfl) fun H1 k1 => ?_
      refine s_retN (c := c) (EvN.le (m := bn n + cst 5 + 3) (by omega) (en_termC (d := 1) ob (hO.same k1) rfl rfl (by decide))) (x'.same k1) fun r v2 H2 hr k2 x2 rv2 => ?_
      obtain ⟨t, rfl, h1⟩ := hr
      exact done _ _ _ t rfl (ok_mono (by omega) h1) ((Kp.of_same k1).trans k2) x2 rv2
    · cases n with
      | zero => unfold ok at ht; exact ht.elim
      | succ n =>
        unfold ok at ht
        rw [enc] at rv
        obtain ⟨n1, n2, n3⟩ := sign_nf ht.1
        have hs : SeqAt.shaped (.str s) = true := sh_str (by simp [ht.1])
        refine q_ifN (P := fun _ => True) (c := c + (bn (n + 1) + cst 5 + 2)) (n := 1) (etn_orF (et_B (ev_isi (ev_var rfl rv) kit_ti)) (etn_orF (et_eqS (ev_ixT (ev_var rfl rv) ev_int rfl) ev_str hs hF n1) (etn_test (en_eqI ob (en_take ob hO rfl ev_int (by decide) (by decide)) ev_int)))) x' (fun H1 _ k1 x1 => ?_) (fun H1 _ k1 x1 => ?_)
        · refine s_retN (c := c) (EvN.le (m := bn (n + 1) + cst 5 + 2) (by omega) (en_termC (d := 1) ob (hO.mono k1) rfl rfl (by decide))) x1 fun r v2 H2 hr k2 x2 rv2 => ?_
          obtain ⟨t, rfl, h1⟩ := hr
          exact done _ _ _ t rfl (ok_mono (by omega) h1) (k1.trans k2) x2 rv2
        · have r1 := rv.mono (Kp.ofb ob k1)
          have hO1 : Own O H1 := hO.mono k1
          refine q_ifF (K := K) (O := O) (et_test (ev_inS (ys := (["value", "left"] : List Str)) (ev_ixT (ev_var rfl r1) ev_int rfl) (ev_tup (ea_cons ev_str (ea_cons ev_str ea_nil)) (by show 2 ≤ sizeLine; decide)) (sign_nin ht.1))) fun H2 k2 => ?_
          have r2 := r1.same k2
          have hO2 := hO1.same k2
          refine s_retN (c := c) (R := fun r => ∃ t, r = enc t ∧ ok t (n + 2)) (EvN.le (m := bn (n + 1) + cst 5 + 2) (show 1 + bn (n + 1) ≤ _ by omega) (en_ifT (P := fun _ => True) ob (etn_test (en_eqI ob (en_take ob hO2 rfl ev_int (by decide) (by decide)) ev_int)) (EvN.imp (en_tup (n := bn (n + 1)) (em_consD ob (ev_ixT (ev_var rfl r2) ev_int rfl) (em_consN (n1 := bn (n + 1)) (n2 := 0) (R := fun r => ∃ t, r = enc t ∧ ok t (n + 1)) ob
              (EvN.le (Nat.le_of_eq (Nat.zero_add _)) (en_call (n1 := 0) (n2 := bn (n + 1)) ob hO2 rfl (em_of (S := fun ds => ds = [enc a]) (ea_cons (ev_ixT (ev_var rfl r2) ev_int rfl) ea_nil) rfl) (fun ds e => ⟨a, n, rfl, by omega, e, ht.2.1⟩) (fun ds r e hr => hr))) (em_consD ob (ev_ixT (ev_var rfl r2) ev_int rfl) em_end))) ?_) ?_) (EvN.le (Nat.zero_le _) (en_of (ev_tup (ea_cons (ev_ixT (ev_var rfl r2) ev_int rfl) (ea_cons (ev_ixT (ev_var rfl r2) ev_int rfl) (ea_cons (ev_ixT (ev_var rfl r2) ev_int rfl) ea_nil))) (by show 3 ≤ sizeLine; decide)) ⟨.op s e a, by rw [enc], by unfold ok; exact ⟨ht.1, ok_mono (by omega) ht.2.2, ok_mono (by omega) ht.2.1⟩⟩)))) (x1.same k2) fun r v3 H3 hr k3 x3 rv3 => ?_
          · rintro _ ⟨_, rfl, _, _, rfl, _, _, rfl, rfl⟩
            exact le_line (by simp)
          · rintro r ⟨_, rfl, _, rfl, _, _, rfl, ⟨t', rfl, ht'⟩, _, rfl, rfl⟩
            exact ⟨.op s t' e, by rw [enc], by unfold ok; exact ⟨ht.1, ht', ok_mono (by omega) ht.2.2⟩⟩
          · obtain ⟨t, rfl, h1⟩ := hr
            exact done _ _ _ t rfl h1 ((k1.s k2).trans k3) x3 rv3
    · rw [pk.is] at rv
      have hw : SeqAt.shaped (.str wd) = true := by
        rcases pk.word with e | e
        · rw [e]; exact sh_str (by simp)
        · rw [e]; exact sh_str (by simp)
      have nf : (wd == Str.ofString "first") = false := by
        rcases pk.word with e | e
        · rw [e]; decide +kernel
        · rw [e]; decide +kernel
      have win : (["value", "left"] : List Str).contains wd = true := by
        rcases pk.word with e | e
        · rw [e]; decide +kernel
        · rw [e]; decide +kernel
      have a0 : atI (hd ++ [.tuple (encs xs)]) 0 = some (.str wd) := atI_nat (j := 0) (by
        rw [List.getElem?_append_left (List.getElem?_eq_some_iff.mp pk.at0).1]
        exact pk.at0)
      have aL : atI (hd ++ [.tuple (encs xs)]) (-1) = some (.tuple (encs xs)) := atI_last hd _
      refine q_ifN (P := fun _ => True) (c := c + (bn (d' + 1) + cst 5 + 2)) (n := 1) (etn_orF (et_B (ev_isi (ev_var rfl rv) kit_ti)) (etn_orF (et_eqS (ev_ixT (ev_var rfl rv) ev_int a0) ev_str hw hF nf) (etn_test (en_eqI ob (en_take ob hO rfl ev_int (by decide) (by decide)) ev_int)))) x' (fun H1 _ k1 x1 => ?_) (fun H1 _ k1 x1 => ?_)
      · refine s_retN (c := c) (EvN.le (m := bn (d' + 1) + cst 5 + 2) (by omega) (en_termC (d := 1) ob (hO.mono k1) rfl rfl (by decide))) x1 fun r v2 H2 hr k2 x2 rv2 => ?_
        obtain ⟨t, rfl, h1⟩ := hr
        exact done _ _ _ t rfl (ok_mono (by omega) h1) (k1.trans k2) x2 rv2
      · have r1 := rv.mono (Kp.ofb ob k1)
        have hO1 : Own O H1 := hO.mono k1
        refine q_ifT (K := K) (O := O) (et_test (ev_inS (ys := (["value", "left"] : List Str)) (ev_ixT (ev_var rfl r1) ev_int a0) (ev_tup (ea_cons ev_str (ea_cons ev_str ea_nil)) (by show 2 ≤ sizeLine; decide)) win)) fun H2 k2 => ?_
        refine q_set (i := 2) (ev_ixT (ev_var rfl (r1.same k2)) (ev_neg ev_int) aL) fun v3 H3 k3 rv3 => ?_
        have kk3 : Kb b H H3 := (k1.s k2).s k3
        have r3 := (r1.same k2).same k3
        have hO3 := (hO1.same k2).same k3
        have x3 := (x1.same k2).same k3
        have el := encs_lay pk.oks
        have hin : SeqAt.shaped (.tuple (encs xs)) = true := sh_tup el.1 (by omega)
        have hl : hd.length + 1 ≤ sizeLine := le_line (by have := pk.len; omega)
        by_cases hx : xs = []
        · subst hx
          refine q_ifT (K := K) (O := O) ((et_test (ev_eqD (ev_var rfl rv3) (ev_tup ea_nil (by show 0 ≤ sizeLine; decide)) hin (by decide +kernel))).is (by rw [v_tup, encs, v_nil])) fun H4 k4 => ?_
          refine s_retN (c := c) (EvN.le (m := bn (d' + 1) + cst 5 + 2) (show cst 5 ≤ _ by omega) (en_addT (n := cst 5) ob (EvD.is (ev_slT (ev_var rfl (r3.same k4)) eo_none (eo_some (ev_neg ev_int))) (congrArg PyData.tuple (cutD_last hd _))) (en_tup (n := cst 5) (em_consN (n1 := cst 5) (n2 := 0) ob (en_tup (n := cst 5) (em_consN (n1 := cst 5) (n2 := 0) ob (en_termC (d := 0) ob (hO3.same k4) rfl rfl (by decide)) em_end) ?_) em_end) ?_) ?_)) (x3.same k4) ?_
          · rintro _ ⟨_, _, rfl, _, rfl⟩
            exact le_line (by simp)
          · rintro _ ⟨_, _, rfl, _, rfl⟩
            exact le_line (by simp)
          · rintro _ ⟨_, _, rfl, _, rfl⟩
            exact hl
          · rintro r v5 H5 ⟨_, rfl, _, _, rfl, ⟨_, rfl, _, _, rfl, ⟨t0, rfl, h0⟩, rfl⟩, rfl⟩ k5 x5 rv5
            obtain ⟨t', e', o'⟩ := pk.back [t0] d' (by unfold oks; exact ⟨ok_mono (by omega) h0, by unfold oks; trivial⟩) (by simp)
            refine done _ _ _ t' ?_ (ok_mono (by omega) o') ((kk3.s k4).trans k5) x5 rv5
            rw [e', encs, encs]
        · have ne : PyData.eqv (.tuple (encs xs)) (.tuple []) = false := by
            cases xs with
            | nil => exact absurd rfl hx
            | cons y ys => rw [v_tup, encs, v_cn]
          have hpos : 1 ≤ xs.length := by
            cases xs with
            | nil => exact absurd rfl hx
            | cons y ys => simp
          refine q_ifF (K := K) (O := O) ((et_test (ev_eqD (ev_var rfl rv3) (ev_tup ea_nil (by show 0 ≤ sizeLine; decide)) hin (by decide +kernel))).is ne) fun H4 k4 => ?_
          have few := pk.few
          refine q_setN (c := c + (bn (d' + 1) + cst 5 + 1)) (n := 1) (i := 3) (en_take ob (hO3.same k4) rfl (ev_lenT (ev_var rfl (rv3.same k4))) (by rw [encs_len]; omega) (by rw [encs_len]; omega)) (x3.same k4) fun r v5 H5 hr5 k5 x5 rv5 => ?_
          obtain ⟨jj, rfl, j0, j1⟩ := hr5
          rw [encs_len] at j1
          obtain ⟨j, rfl⟩ := Int.eq_ofNat_of_zero_le j0
          have hj : j < xs.length := by omega
          have e5 := rv5.int_inv
          subst e5
          have hO5 : Own O H5 := (hO3.same k4).mono k5
          have r5 := (r3.same k4).mono (Kp.ofb ob k5)
          have ri5 := (rv3.same k4).mono (Kp.ofb ob k5)
          have kk5 : Kb b H H5 := (kk3.s k4).trans k5
          obtain ⟨ai, vs, rfl, si, rai⟩ := ri5.tup_inv
          have lvs := rai.length
          rw [encs_len] at lvs
          refine ⟨_, rfl, ai, vs, rfl, .inr si, fun p hp => ?_⟩
          -- the new list at p is the def's own
          have hbp : b ≠ p := fun e => by
            obtain ⟨o, ho⟩ := x5.here
            rw [e, hp] at ho; cases ho
          have k6 : Same H5 (L2.upd H5 p (.lst vs)) := same_new hp
          have O6 : Own (fun z => O z ∨ z = p) (L2.upd H5 p (.lst vs)) := hO5.more
          have ri6 : Rp K (fun z => O z ∨ z = p) (L2.upd H5 p (.lst vs)) (.ref ai) (.tuple (encs xs)) := (Rp.more hp (.tup si rai)).same k6
          have hget : (encs xs)[j]? = some (enc xs[j]) := by rw [encs_map, List.getElem?_map, List.getElem?_eq_getElem hj]; rfl
          have okj : ok xs[j] d' := oks_iff.mp pk.oks _ (List.getElem_mem hj)
          refine EvN.use (K := K) (O := fun z => O z ∨ z = p) (b := b) (c := c) (R := fun r => ∃ t, r = enc t ∧ ok t (d' + 1)) (EvN.le (m := bn (d' + 1) + cst 5 + 1) (by omega) (en_call (n1 := 0) (n2 := bn (d' + 1)) (.inl ob) O6 rfl (em_of (S := fun ds => ds = [enc xs[j]]) (ea_cons (ev_ixT (ev_var rfl ri6) (ev_var rfl (.int _)) (atI_nat hget)) ea_nil) rfl) (fun ds e => ⟨xs[j], d', rfl, by omega, e, okj⟩) (fun ds r e hr => hr))) (x5.same k6) fun r y H7 hr7 k7 x7 ry => ?_
          obtain ⟨tn, rfl, otn⟩ := hr7
          have hp7 : H7 p = some (.lst vs) := k7.1 p _ upd_same fun _ e => hbp e.symm
          refine ⟨_, rfl, _, rfl, p, vs, j, j, rfl, rfl, hp7, ?_, ?_⟩
          · unfold ixN
            rw [if_pos (by omega), if_pos (by omega)]
            simp
          have kp8 : Kp (fun z => O z ∨ z = p) H7 (L2.upd H7 p (.lst (vs.set j y))) := Kp.put hp7 trivial (.inr rfl)
          have kp7 : Kp (fun z => O z ∨ z = p) (L2.upd H5 p (.lst vs)) H7 := Kp.wide (fun z (e : z = b) => by rw [e]; exact .inl ob) k7
          have items : RpAll K O (L2.upd H7 p (.lst (vs.set j y))) (vs.set j y) (encs (xs.set j tn)) := by
            rw [← encs_set]
            have q1 : RpAll K (fun z => O z ∨ z = p) H7 vs (encs xs) := ((rai.more hp).same k6).mono kp7
            exact ((q1.set ry j).mono kp8).less fun _ h => .inl h
          have r8 : Rp K O (L2.upd H7 p (.lst (vs.set j y))) v (.tuple (hd ++ [.tuple (encs xs)])) := ((((r5.more hp).same k6).mono kp7).mono kp8).less fun _ h => .inl h
          have hOp : ¬ O p := hO5.not hp
          have rl : Rp K O (L2.upd H7 p (.lst (vs.set j y))) (.ref p) (.list (encs (xs.set j tn))) := .lst (.inl ⟨upd_same, hOp⟩) items
          have kb8 : Kb b H (L2.upd H7 p (.lst (vs.set j y))) := kk5.trans (kb_mut ((Kp.of_same k6).trans k7) hp)
          have x8 : Bag b c (L2.upd H7 p (.lst (vs.set j y))) := by
            obtain ⟨g, m, cc, h1, hrest⟩ := x7
            exact ⟨g, m, cc, by rw [upd_ne hbp]; exact h1, hrest⟩
          refine s_ret (K := K) (O := O) (ev_addT (EvD.is (ev_slT (ev_var rfl r8) eo_none (eo_some (ev_neg ev_int))) (congrArg PyData.tuple (cutD_last hd _))) (ev_tup (ea_cons (ev_tupL (ev_var rfl rl)) ea_nil) (by show 1 ≤ sizeLine; decide)) hl) fun v9 H9 k9 r9 => ?_
          obtain ⟨t', e', o'⟩ := pk.back (xs.set j tn) (d' + 1) (oks_set (oks_mono (by omega) pk.oks) otn) (by rw [List.length_set]; exact few)
          exact done _ _ _ t' e'.symm o' (kb8.s k9) (x8.same k9) r9
end
end K10

set_option Elab.async false
set_option linter.all false
set_option maxRecDepth 100000
set_option autoImplicit false
set_option maxHeartbeats 4000000
namespace K10
open PySem PySem.Spec PyProof.Rows L2 TL OD
abbrev s_law : Stmt := topS 10
abbrev N_law : List Str := ["_law_script", "_law_at", "_law_bag_here", "_law_terms", "_law_words", "_law_one", "_law_word", "_law_turn", "_law_thing", "_law_other", "_law_second"]
theorem sc_law : FnScope N_law ["_law_script"] (defScope s_law) := ⟨rfl, rfl, rfl, by decide +kernel, rfl, by decide +kernel, by decide +kernel⟩
def spLaw (K : PySem.W.Frag) : Sp := fun vs H Q _ => ∃ (a : Addr) (ns : List Int), vs = [.ref a] ∧ SqX K H a (ns.map V.int) ∧ ns.length ≤ 63 ∧ ∀ H', Q (.bl true) H'
theorem enc_list {es : List PyData} {d : Nat} (h : ∀ e ∈ es, ∃ t, e = enc t ∧ ok t d) : ∃ ts : List Tm, es = encs ts ∧ oks ts d := by
  induction es with
  | nil => exact ⟨[], rfl, by unfold oks; trivial⟩
  | cons e es ih =>
    obtain ⟨t, rfl, ht⟩ := h e (by simp)
    obtain ⟨ts, rfl, hts⟩ := ih fun e he => h e (by simp [he])
    exact ⟨t :: ts, by rw [encs], by unfold oks; exact ⟨ht, hts⟩⟩
theorem encs_get {ts : List Tm} {i : Nat} (h : i < ts.length) : (encs ts)[i]? = some (enc ts[i]) := by rw [encs_map, List.getElem?_map, List.getElem?_eq_getElem h]; rfl
theorem encs_app : ∀ (xs ys : List Tm), encs xs ++ encs ys = encs (xs ++ ys)
  | [], ys => by simp [encs]
  | x :: xs, ys => by rw [encs, List.cons_append, encs_app xs ys, List.cons_append, encs]
theorem oks_app {xs ys : List Tm} {d : Nat} (h1 : oks xs d) (h2 : oks ys d) : oks (xs ++ ys) d := by
  rw [oks_iff] at h1 h2 ⊢
  intro t ht
  rcases List.mem_append.mp ht with h | h
  · exact h1 t h
  · exact h2 t h
theorem join_mem {c : Nat} {S : List Nat} : ∀ {ls : List (List Nat)}, c ∈ joinL S ls → c ∈ S ∨ ∃ l ∈ ls, c ∈ l
  | [], h => by simp [joinL] at h
  | [p], h => by
    rw [joinL] at h
    exact .inr ⟨p, by simp, h⟩
  | p :: q :: r, h => by
    rw [joinL] at h
    rcases List.mem_append.mp h with h | h
    · exact .inr ⟨p, by simp, h⟩
    · rcases List.mem_append.mp h with h | h
      · exact .inl h
      · rcases join_mem h with h | ⟨l, h1, h2⟩
        · exact .inl h
        · exact .inr ⟨l, by simp at h1 ⊢; exact .inr h1, h2⟩
theorem sign_lt {x : Str} (h : x ∈ signs) : ∀ c ∈ tl x, c < 128 := by
  have : ∀ y ∈ signs, ∀ c ∈ tl y, c < 128 := by decide +kernel
  exact this x h
mutual
theorem tx_lt : ∀ {t : Tm} {d : Nat}, ok t d → ∀ c ∈ txL t, c < 128
  | .num n, d, h, c, hc => by
    rw [txL] at hc
    have := (num_dg n c hc).2; omega
  | .first x, d, h, c, hc => by
    unfold ok at h
    rw [txL] at hc
    have := (name_lt h c hc).2; omega
  | .op s a b, 0, h, _, _ => by unfold ok at h; exact h.elim
  | .op s a b, d + 1, h, c, hc => by
    unfold ok at h
    simp only [txL, List.mem_cons, List.mem_append, List.not_mem_nil, or_false] at hc
    rcases hc with e | hc | e | hc | e | hc | e
    · omega
    · exact tx_lt h.2.1 c hc
    · omega
    · exact sign_lt h.1 c hc
    · omega
    · exact tx_lt h.2.2 c hc
    · omega
  | .value f xs, 0, h, _, _ => by unfold ok at h; exact h.elim
  | .value f xs, d + 1, h, c, hc => by
    unfold ok at h
    simp only [txL, List.mem_cons, List.mem_append, List.not_mem_nil, or_false] at hc
    rcases hc with hc | e | hc | e
    · have := (name_lt h.1 c hc).2; omega
    · omega
    · rcases join_mem hc with h1 | ⟨l, h1, h2⟩
      · simp at h1; omega
      · exact txs_lt h.2.2 l h1 c h2
    · omega
  | .left f x xs, 0, h, _, _ => by unfold ok at h; exact h.elim
  | .left f x xs, d + 1, h, c, hc => by
    unfold ok at h
    simp only [txL, List.mem_cons, List.mem_append, List.not_mem_nil, or_false] at hc
    rcases hc with hc | e | hc | e | hc | e
    · have := (name_lt h.1 c hc).2; omega
    · omega
    · have := (name_lt h.2.1 c hc).2; omega
    · omega
    · rcases join_mem hc with h1 | ⟨l, h1, h2⟩
      · simp at h1; omega
      · exact txs_lt h.2.2.2 l h1 c h2
    · omega
theorem txs_lt : ∀ {ts : List Tm} {d : Nat}, oks ts d → ∀ l ∈ txLs ts, ∀ c ∈ l, c < 128
  | [], _, _, l, hl, _, _ => by simp [txLs] at hl
  | t :: ts, d, h, l, hl, c, hc => by
    unfold oks at h
    rw [txLs] at hl
    rcases List.mem_cons.mp hl with e | hl
    · rw [e] at hc; exact tx_lt h.1 c hc
    · exact txs_lt h.2 l hl c hc
end
theorem txt_lay {t : Tm} {d : Nat} (h : ok t d) : PyData.strOk (txt t) = true := by
  unfold PyData.strOk
  rw [← Array.all_toList, List.all_eq_true]
  intro c hc
  have := tx_lt h c hc
  exact decide_eq_true (by omega)
theorem txts_sh {d : Nat} (hd : d ≤ 8) : ∀ {ts : List Tm}, oks ts d → PyData.canLayAll0 ((ts.map txt).map PyData.str) = true ∧ PyData.depthAll ((ts.map txt).map PyData.str) ≤ 1
  | [], _ => by simp [PyData.canLayAll0, PyData.depthAll]
  | t :: ts, h => by
    unfold oks at h
    have ih := txts_sh hd h.2
    simp only [List.map_cons, PyData.canLayAll0, PyData.depthAll, PyData.depth, PyData.canLay0]
    rw [ih.1, txt_lay h.1]
    exact ⟨rfl, by omega⟩
theorem eqvs_strs : ∀ xs : List Str, PyData.eqvAll (xs.map PyData.str) (xs.map PyData.str) = true
  | [] => by rw [List.map_nil, v_nil]
  | x :: xs => by rw [List.map_cons, v_cons, v_str, eqvs_strs xs]; simp
section
variable {P : Program} {w : World} {K : PySem.W.Frag} {mg : Str → Option Value} {base : Heap} {f : Addr} {fd : FuncData}
theorem ok_law (T : Bn mg) (F : Fun K "law" "law" s_law f fd) (C__law_bag : Cal P w K mg base 1 "_law_bag" ["_law_script", "_law_at"] (spBag K)) (C__law_term : Cal P w K mg base 7 "_law_term" ["_law_bag_here", "_law_depth"] (DrawSp K (cst 5) (PTerm 5) RTerm))
    (C__law_bent : Cal P w K mg base 12 "_law_bent" ["_law_bag_here", "_law_thing"] (DrawSp K (bn 5) (PBent 5) (RBent 5))) (C_show_term : Cal P w K mg base 12 "show_term" ["term"] (PureSp K (RShow 6))) (CK_show_term : CalK P w K mg base 12 "show_term" ["term"] (PureSp K (RShow 6)))
    (C__law_written : Cal P w K mg base 6 "_law_written" ["_law_thing"] (PureSp K (RShow 6))) : FnOk P w K mg base CX0 21 f fd ["_law_script"] (spLaw K) := by
  refine F.ok sc_law (fun vs H Q E h => ?_) (fun cdv A outer s H vs Q E hr h => ?_)
  · obtain ⟨a, ns, rfl, _⟩ := h; rfl
  · have hr__law_bag : Room 1 _ := hr.mono (by omega)
    have hr__law_term : Room 7 _ := hr.mono (by omega)
    have hr__law_bent : Room 12 _ := hr.mono (by omega)
    have hr_show_term : Room 12 _ := hr.mono (by omega)
    have hr__law_written : Room 6 _ := hr.mono (by omega)
    refine ⟨_, (pss_cons (ps_for PassesOwn.never rfl (pi_range1 (by rfl) T.n_range (pa_cons (pe_callB (call_max2 rfl) (by rfl) T.n_max (by decide +kernel) (pa_cons pe_int (pa_cons (pe_callB (call_min2 rfl) (by rfl) T.n_min (by decide +kernel) (pa_cons pe_int (pa_cons (pe_callB call_lenA (by rfl) T.n_len (by decide +kernel) (pa_cons (pv 0) pa_nil)) pa_nil))) pa_nil))) pa_nil)) (pg_name (i := 1) sc_law.nd rfl (Or.inl rfl))
    (pss_cons (ps_set (i := 2) sc_law.nd rfl (Or.inr rfl) (pe_callC C__law_bag hr__law_bag (by rfl) (pa_cons (pv 0) (pa_cons (pv 1) pa_nil))))
    (pss_cons (ps_setLc (i := 3) (own := [("_law_turn", 7)]) (by rfl) sc_law.nd rfl rfl (sw_true rfl rfl rfl (by decide +kernel)) (pi_range1 (by rfl) T.n_range (pa_cons pe_int pa_nil)) (blkOk_by (own := [("_law_turn", 7)]) (N := N_law) (sc := defScope s_law) (by decide +kernel)) (fun _ _ _ _ _ => (pg_name (i := 7) sc_law.nd rfl (Or.inl rfl))) (fun _ _ _ _ _ => pts_nil) (fun _ _ _ _ _ => (pe_callC C__law_term hr__law_term (by rfl) (pa_cons (pv 2) (pa_cons pe_int pa_nil)))))
    (pss_cons (ps_set (i := 3) sc_law.nd rfl (Or.inl rfl) (pe_op op_addA (pv 3) (pe_lst (pa_cons (pe_callC C__law_bent hr__law_bent (by rfl) (pa_cons (pv 2) (pa_cons (pe_ix ix_any (pv 3) pe_int (fun _ _ => rfl)) pa_nil))) (pa_cons (pe_callC C__law_bent hr__law_bent (by rfl) (pa_cons (pv 2) (pa_cons (pe_ix ix_any (pv 3) pe_int (fun _ _ => rfl)) pa_nil))) pa_nil)))))
    (pss_cons (ps_setLc (i := 4) (own := [("_law_thing", 8)]) (by rfl) sc_law.nd rfl rfl (sw_true rfl rfl rfl (by decide +kernel)) (pi_any (pv 3)) (blkOk_by (own := [("_law_thing", 8)]) (N := N_law) (sc := defScope s_law) (by decide +kernel)) (fun _ _ _ _ _ => (pg_name (i := 8) sc_law.nd rfl (Or.inl rfl))) (fun _ _ _ _ _ => pts_nil) (fun _ _ _ _ _ => (pe_callC C_show_term hr_show_term (by rfl) (pa_cons (pv 8) pa_nil))))
    (pss_cons (ps_if (PW.pt (pw_or (pt_cmpR (op_neD hr.units) (pv 4) (pe_lc (own := [("_law_thing", 8)]) (by rfl) sc_law.nd (pi_any (pv 3)) (blkOk_by (own := [("_law_thing", 8)]) (N := N_law) (sc := defScope s_law) (by decide +kernel)) (fun _ _ _ _ _ => (pg_name (i := 8) sc_law.nd rfl (Or.inl rfl))) (fun _ _ _ _ _ => pts_nil) (fun _ _ _ _ _ => (pe_callC C__law_written hr__law_written (by rfl) (pa_cons (pv 8) pa_nil)))) (nomark _)) (pw_or1 (pt_cmpR (op_neD hr.units) (pe_kw CK_show_term hr_show_term (by rfl) (pk_cons (pe_ix ix_any (pv 3) pe_int (fun _ _ => rfl)) pk_nil)) (pe_ix ix_any (pv 4) pe_int (fun _ _ => rfl)) (nomark _))))) (pss_one (ps_ret pe_bl)) pss_nil)
    (pss_one (ps_for PassesOwn.never rfl (pi_zip (by rfl) T.n_zip (pa_cons (pv 3) (pa_cons (pv 4) pa_nil))) (pg_tup rfl (pgs_cons (pg_name (i := 5) sc_law.nd rfl (Or.inl rfl)) (pgs_cons (pg_name (i := 6) sc_law.nd rfl (Or.inl rfl)) pgs_nil)))
    (pss_one (ps_for PassesOwn.never rfl (pi_zip (by rfl) T.n_zip (pa_cons (pv 3) (pa_cons (pv 4) pa_nil))) (pg_tup rfl (pgs_cons (pg_name (i := 9) sc_law.nd rfl (Or.inl rfl)) (pgs_cons (pg_name (i := 10) sc_law.nd rfl (Or.inl rfl)) pgs_nil)))
    (pss_one (ps_if (pt_cmpR (op_neD hr.units) (pe_cmpR (op_eqD hr.units) (pv 5) (pv 9) (nomark _)) (pe_cmpR (op_eqD hr.units) (pv 6) (pv 10) (nomark _)) (nomark _)) (pss_one (ps_ret pe_bl)) pss_nil))))))))))))
    (pss_one (ps_ret (pe_and (pe_cmpR (op_eqD hr.units) (pe_callC C_show_term hr_show_term (by rfl) (pa_cons (pe_tup (pa_cons pe_str (pa_cons pe_str (pa_cons pe_str (pa_cons (pe_tup pa_nil) pa_nil))))) pa_nil)) pe_str (nomark _)) (pe_one (pe_cmpR (op_eqD hr.units) (pe_callC C_show_term hr_show_term (by rfl) (pa_cons (pe_tup (pa_cons pe_str (pa_cons pe_str pa_nil))) pa_nil)) pe_str (nomark _))))))), ?_⟩
    obtain ⟨a, ns, rfl, hs, h63, q⟩ := h
    have t5 : cst 5 = 726 := by decide
    have t6 : bn 5 = 3645 := by decide
    refine f_range (K := K) (O := N0) (ev_max ev_int (ev_min ev_int (ev_lenX rfl hs))) ?_ ?_
      (fun _ σ Hc => ∃ s1 s2 s3 s4 s5 s6 s7 s8 s9 s10, σ = [some (.ref a), s1, s2, s3, s4, s5, s6, s7, s8, s9, s10] ∧ Same H Hc) (fun H1 k1 => ⟨_, _, _, _, _, _, _, _, _, _, rfl, k1⟩) ?_ ?_
    · split <;> omega
    · split <;> split <;> omega
    · rintro i σ Hc hi ⟨s1, s2, s3, s4, s5, s6, s7, s8, s9, s10, rfl, kc⟩
      have hi5 : i < 5 := by
        refine Nat.lt_of_lt_of_le hi ?_
        split <;> split <;> omega
      refine ⟨_, rfl, _, rfl, a, ns, 0 + i, rfl, hs.mono (.of_same (O := N0) kc), by omega, by omega, fun p H1 hp k1 x1 => ?_⟩
      have hpH : H p = none := kc.free hp
      have kH1 : Same H H1 := kc.trans k1
      have hO1 : Own (fun z => z = p) H1 := fun z e => by subst e; exact x1.here
      refine q_setN (K := K) (O := fun z => z = p) (c := 990000000) (n := 0 + 6 * cst 5) (i := 3) (en_lcP (j := 7) (mx := 6) (Pk := fun k => k = 6) rfl hO1 (by decide) (en_of ev_int ⟨6, rfl, by decide, by decide, rfl⟩) (fun _ => rfl) (fun O' H1 ob' lf i => en_termC (d := 4) ob' lf.own rfl rfl (by decide))) (x1.le (by rw [t5]; decide)) fun r u2 H2 hr2 k2 x2 ru2 => ?_
      obtain ⟨es, rfl, _, el, eo⟩ := hr2
      obtain ⟨ts, rfl, tso⟩ := enc_list eo
      rw [encs_len] at el
      have tl6 : ts.length = 6 := by omega
      have hO2 : Own (fun z => z = p) H2 := hO1.mono k2
      have g0 := encs_get (ts := ts) (i := 0) (by omega)
      have g1 := encs_get (ts := ts) (i := 1) (by omega)
      have o0 : ok ts[0] 4 := oks_iff.mp tso _ (List.getElem_mem _)
      have o1 : ok ts[1] 4 := oks_iff.mp tso _ (List.getElem_mem _)
      have bent : ∀ (z : Int) (t : Tm), atI (encs ts) z = some (enc t) → ok t 4 → EvN K p (fun z => z = p) (bn 5) (tCall (DrawSp K (bn 5) (PBent 5) (RBent 5)) [] E0 (tCons (tVar 2) (tCons (tOp (rIxA K) (tVar 3) (tC (.int z))) tNil)))
          [some (.ref a), some (.int (0 + i)), some (.ref p), some u2, s4, s5, s6, s7, s8, s9, s10] H2 (fun r => ∃ t, r = enc t ∧ ok t 5) := fun z t hz ot =>
        EvN.le (Nat.le_of_eq (Nat.zero_add _)) (en_call (n1 := 0) (n2 := bn 5) rfl hO2 rfl (em_of (S := fun ds => ds = [enc t]) (ea_cons (ev_ixL (ev_var rfl ru2) ev_int hz) ea_nil) rfl) (fun ds e => ⟨t, 4, rfl, by decide, e, ot⟩) (fun ds r e hr => hr))
      refine q_setN (K := K) (O := fun z => z = p) (c := 900000000) (n := bn 5 + (bn 5 + 0)) (i := 3) (en_addL rfl hO2 (ev_var rfl ru2) (en_lst rfl hO2 (em_consN rfl (bent 0 ts[0] (atI_nat (j := 0) g0) o0) (em_consN rfl (bent 1 ts[1] (atI_nat (j := 1) g1) o1) em_end)) ?_) ?_) (x2.le (by rw [t6]; decide)) fun r u3 H3 hr3 k3 x3 ru3 => ?_
      · rintro _ ⟨_, _, rfl, _, _, _, rfl, _, rfl⟩
        exact le_line (by simp)
      · rintro _ ⟨_, _, rfl, _, _, _, rfl, _, rfl⟩
        rw [encs_len]
        exact le_line (by simp; omega)
      obtain ⟨_, rfl, _, _, rfl, ⟨ta, rfl, oa⟩, _, _, rfl, ⟨tb, rfl, ob⟩, rfl⟩ := hr3
      have e8 : encs ts ++ [enc ta, enc tb] = encs (ts ++ [ta, tb]) := by rw [← encs_app, encs, encs, encs]
      rw [e8] at ru3
      have ts8 : (ts ++ [ta, tb]).length = 8 := by simp; omega
      have tso8 : oks (ts ++ [ta, tb]) 5 := oks_app (oks_mono (by decide) tso) (by unfold oks; exact ⟨oa, by unfold oks; exact ⟨ob, by unfold oks; trivial⟩⟩)
      generalize ts ++ [ta, tb] = us at ru3 ts8 tso8
      have hO3 : Own (fun z => z = p) H3 := hO2.mono k3
      have texts : ∀ {sp : Sp} {τ : L2.St} {Hx : Hp} {te : TE}, Own (fun z => z = p) Hx → τ[3]? = some (some u3) → Rp K (fun z => z = p) Hx u3 (.list (encs us)) → (∀ v, wipe ((wipe τ [8]).set 8 (some v)) [8] = wipe τ [8]) →
          (∀ O' H1 v t, Own O' H1 → ok t 5 → Rp K O' H1 v (enc t) → EvD K O' te ((wipe τ [8]).set 8 (some v)) H1 (.str (txt t))) →
          EvD K (fun z => z = p) (tLc (iSeq K (tVar 3)) (gName 8) tYes te [8]) τ Hx (.list ((us.map txt).map PyData.str)) := by
        intro sp τ Hx te hO hτ rx hw el
        refine ev_lcL (ev_var hτ rx) hO ?_ ?_ hw ?_
        · rw [encs_len, ts8]; exact le_line (by decide)
        · rw [encs_len]; simp
        · intro O' H1 lf i d1 e v1 h1 h2 r1
          obtain ⟨t, hm, rfl, rfl⟩ := two_at h1 h2
          exact el O' H1 v1 t lf.own (oks_iff.mp tso8 t hm) r1
      refine q_set (K := K) (O := fun z => z = p) (i := 4) (texts (sp := spBag K) hO3 rfl ru3 (fun _ => rfl) (fun O' H1 v t o ot rt => ev_callP o (ea_cons (ev_var rfl rt) ea_nil) ⟨t, 5, rfl, by decide, by decide, ot, rfl⟩)) fun u4 H4 k4 ru4 => ?_
      have hO4 := hO3.same k4
      have r34 := ru3.same k4
      have tsh := txts_sh (show 5 ≤ 8 by decide) tso8
      have shl : SeqAt.shaped (.list ((us.map txt).map PyData.str)) = true := sh_lst tsh.1 (by have := tsh.2; omega)
      have h0 : 0 < us.length := by omega
      have gu := encs_get h0
      have ou : ok us[0] 5 := oks_iff.mp tso8 _ (List.getElem_mem _)
      have gw : ((us.map txt).map PyData.str)[0]? = some (.str (txt us[0])) := by rw [List.getElem?_map, List.getElem?_map, List.getElem?_eq_getElem h0]; rfl
      have shs : ∀ t, ok t 5 → SeqAt.shaped (.str (txt t)) = true := fun t ot => by
        unfold SeqAt.shaped
        simp [PyData.canLay0, PyData.depth, txt_lay ot]
      refine q_ifF (K := K) (O := fun z => z = p) ((et_or (a := false) (b := false) ((et_test (ev_neD (ev_var rfl ru4) (texts (sp := spBag K) hO4 rfl r34 (fun _ => rfl) (fun O' H1 v t o ot rt => ev_callP o (ea_cons (ev_var rfl rt) ea_nil) ⟨t, 5, rfl, by decide, by decide, ot, rfl⟩)) shl shl)).is (by rw [v_lst, eqvs_strs]; rfl))
        (fun _ => (et_test (ev_neD (ev_kwP (z := .str (txt us[0])) hO4 (ea_cons (ev_ixL (ev_var rfl r34) ev_int (atI_nat (j := 0) gu)) ea_nil) rfl ⟨us[0], 5, rfl, by decide, by decide, ou, rfl⟩) (ev_ixL (ev_var rfl ru4) ev_int (atI_nat (j := 0) gw)) (shs _ ou) (shs _ ou))).is (by rw [v_str]; simp))).is rfl) fun H5 k5 => ?_
      have r35 := r34.same k5
      have r45 := ru4.same k5
      have l2 : (encs us).length = ((us.map txt).map PyData.str).length := by rw [encs_len]; simp
      have kall : ∀ Hc', Same H5 Hc' → Same H Hc' := fun Hc' e => same_kb (same_kb kH1 hpH k2) hpH ((k3.s (k4.trans k5)).s e)
      refine f_zip (K := K) (O := fun z => z = p) rfl rfl r35 r45 l2 (fun _ σ Hc => ∃ s5 s6 s9 s10, σ = [some (.ref a), some (.int (0 + i)), some (.ref p), some u3, some u4, s5, s6, s7, s8, s9, s10] ∧ Same H5 Hc) ⟨_, _, _, _, rfl, Same.refl H5⟩ (fun _ _ _ p => by obtain ⟨_, _, _, _, _, k⟩ := p; exact .of_same k) ?_ ?_
      · rintro i1 d1 e1 x1 y1 T1 σ H6 hd1 he1 ⟨s5, s6, s9, s10, rfl, k6⟩ hT1 rx1 ry1
        obtain ⟨t1, m1, rfl, rfl⟩ := two_at hd1 he1
        have ot1 := oks_iff.mp tso8 t1 m1
        refine ⟨_, _, rfl, SqT.of upd_same, rfl, _, _, rfl, _, _, rfl, rfl, ?_⟩
        have k7 : Same H5 (L2.upd H6 T1 (.tup [x1, y1])) := k6.trans (same_new hT1)
        refine f_zip (K := K) (O := fun z => z = p) rfl rfl (r35.same k7) (r45.same k7) l2 (fun _ σ Hc => ∃ s9 s10, σ = [some (.ref a), some (.int (0 + i)), some (.ref p), some u3, some u4, some x1, some y1, s7, s8, s9, s10] ∧ Same (L2.upd H6 T1 (.tup [x1, y1])) Hc) ⟨_, _, rfl, Same.refl _⟩ (fun _ _ _ p => by obtain ⟨_, _, _, k⟩ := p; exact .of_same k) ?_ ?_
        · rintro i2 d2 e2 x2 y2 T2 σ H8 hd2 he2 ⟨s9, s10, rfl, k8⟩ hT2 rx2 ry2
          obtain ⟨t2, m2, rfl, rfl⟩ := two_at hd2 he2
          have ot2 := oks_iff.mp tso8 t2 m2
          refine ⟨_, _, rfl, SqT.of upd_same, rfl, _, _, rfl, _, _, rfl, rfl, ?_⟩
          have k9 : Same (L2.upd H6 T1 (.tup [x1, y1])) (L2.upd H8 T2 (.tup [x2, y2])) := k8.trans (same_new hT2)
          refine s_ifF (K := K) (O := fun z => z = p) ((et_test (ev_neD (ev_eqD (ev_var rfl (rx1.same k9)) (ev_var rfl rx2) (enc_shaped ot1 (by decide)) (enc_shaped ot2 (by decide))) (ev_eqD (ev_var rfl (ry1.same k9)) (ev_var rfl ry2) (shs _ ot1) (shs _ ot2)) (sh_bool _) (sh_bool _))).is (by rw [v_bool, same_answer ot1 ot2]; simp)) fun H10 k10 => ?_
          exact ⟨_, _, rfl, k9.trans k10⟩
        · rintro σ H8 ⟨s9, s10, rfl, k8⟩
          exact ⟨_, _, _, _, rfl, k7.trans k8⟩
      · rintro σ H6 ⟨s5, s6, s9, s10, rfl, k6⟩
        exact ⟨_, _, _, _, _, _, _, _, _, _, rfl, kall H6 k6⟩
    · rintro σ Hc ⟨s1, s2, s3, s4, s5, s6, s7, s8, s9, s10, rfl, kc⟩
      have sx : SeqAt.shaped (.str (Str.ofString "f.x()")) = true := by decide +kernel
      have sf : SeqAt.shaped (.str (Str.ofString "f")) = true := by decide +kernel
      have e1 : txt (.left "f" "x" []) = Str.ofString "f.x()" := by decide +kernel
      have e2 : txt (.first "f") = Str.ofString "f" := by decide +kernel
      have o1 : ok (.left "f" "x" []) 1 := by unfold ok; exact ⟨by decide +kernel, by decide +kernel, by decide, by unfold oks; trivial⟩
      have o2 : ok (.first "f") 1 := by unfold ok; decide +kernel
      refine s_ret (K := K) (O := N0) (EvD.is (e := .bool true) (ev_andV (ev_eqD (ev_callP (z := .str (txt (.left "f" "x" []))) (own0 Hc) (ea_cons (ev_tup (ea_cons ev_str (ea_cons ev_str (ea_cons ev_str (ea_cons (ev_tup ea_nil (by show 0 ≤ sizeLine; decide)) ea_nil)))) (by show 4 ≤ sizeLine; decide)) ea_nil) ⟨.left "f" "x" [], 1, by rw [enc, encs], by decide, by decide, o1, rfl⟩) ev_str (by rw [e1]; exact sx) sx)
        (fun _ => ev_eqD (ev_callP (z := .str (txt (.first "f"))) (own0 Hc) (ea_cons (ev_tup (ea_cons ev_str (ea_cons ev_str ea_nil)) (by show 2 ≤ sizeLine; decide)) ea_nil) ⟨.first "f", 1, by rw [enc], by decide, by decide, o2, rfl⟩) ev_str (by rw [e2]; exact sf) sf)) (by rw [v_str, v_str, e1, e2]; simp)) fun v H2 k2 rv => ?_
      rw [rv.bool_inv]
      exact q H2
end
end K10

set_option Elab.async false
set_option linter.all false
set_option maxRecDepth 100000
set_option autoImplicit false
set_option maxHeartbeats 4000000
namespace K10
open PySem PySem.Spec PyProof.Rows L2 TL OD
section
variable {P : Program} {w : World} {K : PySem.W.Frag} {mg : Str → Option Value} {base : Heap}
theorem shows (T : Bn mg) (Dj : DefIn K mg "joined" s_joined) (Ds : DefIn K mg "show_term" s_show_term) : ∀ n : Nat, ∀ f fd, Fun K "show_term" "show_term" s_show_term f fd → FnOk P w K mg base CX0 (2 * n) f fd ["term"] (PureSp K (RShow n))
  | 0, f, fd, F => fn_none fun vs H Q E h => by
    obtain ⟨O, ds, r, _, _, ⟨t, d, _, hd, _⟩, _⟩ := h
    omega
  | n + 1, f, fd, F => by
    have Cs : Cal P w K mg base (2 * n) "show_term" ["term"] (PureSp K (RShow n)) := Ds.cal (fun _ _ _ _ _ _ us hl => match us, hl with | [_], _ => rfl) (shows T Dj Ds n)
    have Cj : Cal P w K mg base (2 * n + 1) "joined" ["inputs"] (PureSp K (RJoin n)) := Dj.cal (fun _ _ _ _ _ _ us hl => match us, hl with | [_], _ => rfl) fun f fd F => ok_joined T F Cs
    exact ok_show T F Cs Cj
theorem writtens (T : Bn mg) (D : DefIn K mg "_law_written" s__law_written) : ∀ n : Nat, ∀ f fd, Fun K "_law_written" "_law_written" s__law_written f fd → FnOk P w K mg base CX0 n f fd ["_law_thing"] (PureSp K (RShow n))
  | 0, f, fd, F => fn_none fun vs H Q E h => by
    obtain ⟨O, ds, r, _, _, ⟨t, d, _, hd, _⟩, _⟩ := h
    omega
  | n + 1, f, fd, F => ok_written T F (D.cal (fun _ _ _ _ _ _ us hl => match us, hl with | [_], _ => rfl) (writtens T D n))
theorem terms (T : Bn mg) (Ct : Cal P w K mg base 1 "_law_take" ["_law_bag_here", "_law_many"] (DrawSp K 1 PTake RTake)) (Co : Cal P w K mg base 2 "_law_of" ["_law_bag_here", "_law_items"] (DrawSp K 1 POf ROf)) (D : DefIn K mg "_law_term" s__law_term) :
    ∀ n : Nat, ∀ f fd, Fun K "_law_term" "_law_term" s__law_term f fd → FnOk P w K mg base CX0 (n + 2) f fd ["_law_bag_here", "_law_depth"] (DrawSp K (cst n) (PTerm n) RTerm)
  | 0, f, fd, F => fn_none fun vs H Q E h => by
    obtain ⟨b, O, c, rest, ds, _, _, _, _, _, ⟨d, _, hd, _⟩, _⟩ := h
    omega
  | n + 1, f, fd, F => ok_term T F Ct Co (D.cal (fun _ _ _ _ _ _ us hl => match us, hl with | [_, _], _ => rfl) (terms T Ct Co D n))
theorem bents (T : Bn mg) (Ct : Cal P w K mg base 1 "_law_take" ["_law_bag_here", "_law_many"] (DrawSp K 1 PTake RTake)) (Cm : Cal P w K mg base 7 "_law_term" ["_law_bag_here", "_law_depth"] (DrawSp K (cst 5) (PTerm 5) RTerm)) (D : DefIn K mg "_law_bent" s__law_bent) :
    ∀ n : Nat, ∀ f fd, Fun K "_law_bent" "_law_bent" s__law_bent f fd → FnOk P w K mg base CX0 (n + 7) f fd ["_law_bag_here", "_law_thing"] (DrawSp K (bn n) (PBent n) (RBent n))
  | 0, f, fd, F => fn_none fun vs H Q E h => by
    obtain ⟨b, O, c, rest, ds, _, _, _, _, _, ⟨t, d, hd, _⟩, _⟩ := h
    omega
  | n + 1, f, fd, F => ok_bent T F Ct Cm (D.cal (fun _ _ _ _ _ _ us hl => match us, hl with | [_, _], _ => rfl) (bents T Ct Cm D n))
theorem fin {fa : Addr} (hfa : mg "law" = some (.ref fa)) (T : Bn mg) (Dj : DefIn K mg "joined" s_joined) (Ds : DefIn K mg "show_term" s_show_term) (Db : DefIn K mg "_law_bag" s__law_bag) (Dt : DefIn K mg "_law_take" s__law_take) (Do : DefIn K mg "_law_of" s__law_of)
    (Dm : DefIn K mg "_law_term" s__law_term) (Dw : DefIn K mg "_law_written" s__law_written) (De : DefIn K mg "_law_bent" s__law_bent) (Dl : DefIn K mg "law" s_law) :
    ∃ fd : FuncData, (∀ (s : Shared) (u : Value), BindsTo s fd ⟨[u], []⟩ [("_law_script", u)]) ∧ ∀ base : Heap, FnOk P w K mg base CX0 21 fa fd ["_law_script"] (spLaw K) := by
  obtain ⟨f, fd, m, F⟩ := Dl.ex
  have e := hfa.symm.trans m
  cases e
  refine ⟨fd, ?_, fun base => ?_⟩
  · obtain ⟨oc, od, kV, doc, pm, an, cdv, ct, osl, rfl, _, _⟩ := F.ex
    exact fun s u => .of_eq rfl
  · have Ct : Cal P w K mg base 1 "_law_take" ["_law_bag_here", "_law_many"] (DrawSp K 1 PTake RTake) := Dt.cal (fun _ _ _ _ _ _ us hl => match us, hl with | [_, _], _ => rfl) fun f fd F => ok_take T F
    have Co : Cal P w K mg base 2 "_law_of" ["_law_bag_here", "_law_items"] (DrawSp K 1 POf ROf) := Do.cal (fun _ _ _ _ _ _ us hl => match us, hl with | [_, _], _ => rfl) fun f fd F => ok_of T F Ct
    have Cb : Cal P w K mg base 1 "_law_bag" ["_law_script", "_law_at"] (spBag K) := Db.cal (fun _ _ _ _ _ _ us hl => match us, hl with | [_, _], _ => rfl) fun f fd F => ok_bag T F
    have Cm : Cal P w K mg base 7 "_law_term" ["_law_bag_here", "_law_depth"] (DrawSp K (cst 5) (PTerm 5) RTerm) := Dm.cal (fun _ _ _ _ _ _ us hl => match us, hl with | [_, _], _ => rfl) (terms T Ct Co Dm 5)
    have Ce : Cal P w K mg base 12 "_law_bent" ["_law_bag_here", "_law_thing"] (DrawSp K (bn 5) (PBent 5) (RBent 5)) := De.cal (fun _ _ _ _ _ _ us hl => match us, hl with | [_, _], _ => rfl) (bents T Ct Cm De 5)
    have Cs : Cal P w K mg base 12 "show_term" ["term"] (PureSp K (RShow 6)) := Ds.cal (fun _ _ _ _ _ _ us hl => match us, hl with | [_], _ => rfl) (shows T Dj Ds 6)
    have Ck : CalK P w K mg base 12 "show_term" ["term"] (PureSp K (RShow 6)) := Ds.calK (fun _ _ _ _ _ _ us hl => match us, hl with | [_], _ => rfl) (shows T Dj Ds 6)
    have Cw : Cal P w K mg base 6 "_law_written" ["_law_thing"] (PureSp K (RShow 6)) := Dw.cal (fun _ _ _ _ _ _ us hl => match us, hl with | [_], _ => rfl) (writtens T Dw 6)
    exact ok_law T F Cb Cm Ce Cs Ck Cw
end
theorem walk {l : PySem.W.OpenLaw} {q : Program} {loose : List Str} {XP : (Str → Option Value) → Heap → Prop} {YP : World → Heap → Prop} {d : DefRec} {K : Params → PySem.W.Frag} (hn : l.most = some 63) (hdf : d.params.defaults = [])
    (hY : ∀ (w : World) (h : Heap), YP w h → (K w.params).In h)
    (F : ∀ (w : World) (mg : Str → Option Value) (fa : Addr) (h : Heap), (K w.params).In h → h.Ns mainGlobals mg → mg d.name = some (.ref fa) →
      ∃ fd : FuncData, (∀ (s : Shared) (u : Value), BindsTo s fd ⟨[u], []⟩ [("_law_script", u)]) ∧ ∀ base : Heap, FnOk l.prog w (K w.params) mg base CX0 21 fa fd ["_law_script"] (spLaw (K w.params))) :
    PySem.W.WalkO q loose XP YP l.row.toRowW d [] (fun f vs => PySem.call f vs) :=
  L2.walk_of (n := 63) (k := 21) (x := "_law_script") (CX := fun _ => CX0) (sp := fun w => spLaw (K w.params)) hn (by decide) hdf ⟨rfl, by decide, by decide⟩ hY
    (fun w mg fa h X G m => let ⟨fd, h1, h2⟩ := F w mg fa h X G m; ⟨fd, h1, fun base _ _ => h2 base⟩) (fun _ _ a ns hl o hS => ⟨a, ns, rfl, sqX0 o hS, hl, fun _ => rfl⟩) fun _ _ _ _ _ z => z
end K10
open PySem PySem.W PyProof.Rows
set_option maxRecDepth 100000 in
set_option maxHeartbeats 0 in
theorem PySem.Challenge.cw_ordersopen_k10_terms_shown_holds : PySem.Challenge.rw_ordersopen_k10_terms_shown.Holds := by
  w_on; o_law; k_head; (case hw => w_witness2)
  k_fill
  refine K10.walk (l := PySem.Challenge.rw_ordersopen_k10_terms_shown) rfl rfl (fun w h Y => PySem.W.kIn_of Y) ?F
  case F =>
    intro w mg fa h KX G hmg
    have T : K10.Bn mg := by
      refine' ⟨mg_none_of KX G ?n1, mg_none_of KX G ?n2, mg_none_of KX G ?n3, mg_none_of KX G ?n4, mg_none_of KX G ?n5, mg_none_of KX G ?n6, mg_none_of KX G ?n7, mg_none_of KX G ?n8, mg_none_of KX G ?n9, mg_none_of KX G ?n10, mg_none_of KX G ?n11⟩ <;> k_is
    refine' K10.fin hmg T ?d1 ?d2 ?d3 ?d4 ?d5 ?d6 ?d7 ?d8 ?d9
    (case d1 => refine' OD.def_mk KX G ?a ?l ?c ?k; (case a => k_is); (case l => k_is); (case c => k_is); (case k => k_is))
    (case d2 => refine' OD.def_mk KX G ?a ?l ?c ?k; (case a => k_is); (case l => k_is); (case c => k_is); (case k => k_is))
    (case d3 => refine' OD.def_mk KX G ?a ?l ?c ?k; (case a => k_is); (case l => k_is); (case c => k_is); (case k => k_is))
    (case d4 => refine' OD.def_mk KX G ?a ?l ?c ?k; (case a => k_is); (case l => k_is); (case c => k_is); (case k => k_is))
    (case d5 => refine' OD.def_mk KX G ?a ?l ?c ?k; (case a => k_is); (case l => k_is); (case c => k_is); (case k => k_is))
    (case d6 => refine' OD.def_mk KX G ?a ?l ?c ?k; (case a => k_is); (case l => k_is); (case c => k_is); (case k => k_is))
    (case d7 => refine' OD.def_mk KX G ?a ?l ?c ?k; (case a => k_is); (case l => k_is); (case c => k_is); (case k => k_is))
    (case d8 => refine' OD.def_mk KX G ?a ?l ?c ?k; (case a => k_is); (case l => k_is); (case c => k_is); (case k => k_is))
    (case d9 => refine' OD.def_mk KX G ?a ?l ?c ?k; (case a => k_is); (case l => k_is); (case c => k_is); (case k => k_is))
#print axioms PySem.Challenge.cw_ordersopen_k10_terms_shown_holds
