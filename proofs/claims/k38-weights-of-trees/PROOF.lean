import PyProof.Rows.All
import Wide.All
import OpenK.AllK
import Wide.FinOn
import KE.KStateDown
import Lean
import HandS.ForMost
import HandS.More
import HandS.IsInst
import HandS.TupAny
import HandS.Zip
import HandS.Rev
import HandS.Walk
import HandS.Wide
import HandS.Conv
import HandS.Deep
import HandS.Defaults
import HandS.WordsExc
import HandS.Head0
import HandS.Head1
import HandS.Head2
import HandS.HeadEnd
import HandS.HeadHook1
import HandS.HeadHook2
import PySem.Challenge.RW_finitelooks_k38_weights_of_trees
set_option Elab.async false
set_option linter.all false
set_option maxRecDepth 100000
set_option maxHeartbeats 1000000
set_option maxHeartbeats 0
/-! ## Pre: heaps that keep all but some addresses; data in the heap; calls by name -/
namespace FL
open PySem L2

/-- all but ex is kept -/
def Kp (ex : List Addr) (H H' : Hp) : Prop := ∀ b o, b ∉ ex → H b = some o → H' b = some o
theorem Kp.refl {ex : List Addr} {H : Hp} : Kp ex H H := fun _ _ _ h => h
theorem Kp.trans {ex : List Addr} {H H1 H2 : Hp} (a : Kp ex H H1) (b : Kp ex H1 H2) : Kp ex H H2 := fun c o n h => b c o n (a c o n h)
theorem Kp.mono {ex ex' : List Addr} {H H' : Hp} (s : ∀ b, b ∈ ex → b ∈ ex') (k : Kp ex H H') : Kp ex' H H' := fun b o n h => k b o (fun z => n (s b z)) h
theorem Kp.any {ex : List Addr} {H H' : Hp} (k : Kp [] H H') : Kp ex H H' := fun b o _ h => k b o (fun z => nomatch z) h
theorem Kp.new {ex : List Addr} {H : Hp} {p : Addr} {o : HO} (h : H p = none) : Kp ex H (upd H p o) := fun b u _ e => by
  rw [upd_ne (ne_of_none e h)]; exact e
theorem Kp.mut {ex : List Addr} {H : Hp} {p : Addr} {o : HO} (h : p ∈ ex) : Kp ex H (upd H p o) := fun b u n e => by
  have z : b ≠ p := fun z => n (by rw [z]; exact h)
  rw [upd_ne z]; exact e
/-- what was not there ahead need not be named -/
theorem Kp.drop {ex : List Addr} {H H' : Hp} {p : Addr} (k : Kp (p :: ex) H H') (h : H p = none) : Kp ex H H' := fun b o n e =>
  k b o (fun z => by rcases List.mem_cons.mp z with z | z; exact ne_of_none e h z; exact n z) e
theorem Kp.same {H H' : Hp} (k : Kp [] H H') : Same H H' := fun b o e => k b o (fun z => nomatch z) e
theorem Kp.of {H H' : Hp} (k : Same H H') : Kp [] H H' := fun b o _ e => k b o e
theorem Kp.free {H H' : Hp} (k : Kp [] H H') {p : Addr} (h : H' p = none) : H p = none := k.same.free h
theorem Kp.nonein {ex : List Addr} {H H' : Hp} (k : Kp ex H H') {p : Addr} (n : p ∉ ex) (h : H' p = none) : H p = none := by
  cases q : H p with
  | none => rfl
  | some o => rw [k p o n q] at h; cases h

mutual
/-- the data d stands at v, no part of it at an address of ex -/
inductive DX (ex : List Addr) (H : Hp) : V → PyData → Prop
  | non : DX ex H .non .none
  | bl (b : Bool) : DX ex H (.bl b) (.bool b)
  | int (i : Int) : DX ex H (.int i) (.int i)
  | str (x : Str) : DX ex H (.str x) (.str x)
  | lst {a : Addr} {xs : List V} {ds : List PyData} : a ∉ ex → H a = some (.lst xs) → DXs ex H xs ds → DX ex H (.ref a) (.list ds)
  | tup {a : Addr} {xs : List V} {ds : List PyData} : a ∉ ex → H a = some (.tup xs) → DXs ex H xs ds → DX ex H (.ref a) (.tuple ds)
inductive DXs (ex : List Addr) (H : Hp) : List V → List PyData → Prop
  | nil : DXs ex H [] []
  | cons {v : V} {vs : List V} {d : PyData} {ds : List PyData} : DX ex H v d → DXs ex H vs ds → DXs ex H (v :: vs) (d :: ds)
end

mutual
theorem DX.mono {ex : List Addr} {H H' : Hp} (k : Kp ex H H') : ∀ {v : V} {d : PyData}, DX ex H v d → DX ex H' v d
  | _, _, .non => .non
  | _, _, .bl b => .bl b
  | _, _, .int i => .int i
  | _, _, .str x => .str x
  | _, _, .lst n h r => .lst n (k _ _ n h) (DXs.mono k r)
  | _, _, .tup n h r => .tup n (k _ _ n h) (DXs.mono k r)
theorem DXs.mono {ex : List Addr} {H H' : Hp} (k : Kp ex H H') : ∀ {v : List V} {d : List PyData}, DXs ex H v d → DXs ex H' v d
  | _, _, .nil => .nil
  | _, _, .cons a r => .cons (DX.mono k a) (DXs.mono k r)
end
mutual
/-- another set of addresses: what stands there in H must not be in the new one -/
theorem DX.ex {ex ex' : List Addr} {H : Hp} (k : ∀ b o, b ∉ ex → H b = some o → b ∉ ex') : ∀ {v : V} {d : PyData}, DX ex H v d → DX ex' H v d
  | _, _, .non => .non
  | _, _, .bl b => .bl b
  | _, _, .int i => .int i
  | _, _, .str x => .str x
  | _, _, .lst n h r => .lst (k _ _ n h) h (DXs.ex k r)
  | _, _, .tup n h r => .tup (k _ _ n h) h (DXs.ex k r)
theorem DXs.ex {ex ex' : List Addr} {H : Hp} (k : ∀ b o, b ∉ ex → H b = some o → b ∉ ex') : ∀ {v : List V} {d : List PyData}, DXs ex H v d → DXs ex' H v d
  | _, _, .nil => .nil
  | _, _, .cons a r => .cons (DX.ex k a) (DXs.ex k r)
end
mutual
theorem DX.dp {K : PySem.W.Frag} {ex : List Addr} {H : Hp} : ∀ {v : V} {d : PyData}, DX ex H v d → Dp K H v d
  | _, _, .non => .non
  | _, _, .bl b => .bl b
  | _, _, .int i => .int i
  | _, _, .str x => .str x
  | _, _, .lst n h r => .lst (SqL.of h) (DXs.dp r)
  | _, _, .tup n h r => .tup (SqT.of h) (DXs.dp r)
theorem DXs.dp {K : PySem.W.Frag} {ex : List Addr} {H : Hp} : ∀ {v : List V} {d : List PyData}, DXs ex H v d → DpAll K H v d
  | _, _, .nil => .nil
  | _, _, .cons a r => .cons (DX.dp a) (DXs.dp r)
end
theorem DX.fresh {ex : List Addr} {H : Hp} {p : Addr} {v : V} {d : PyData} (h : DX ex H v d) (n : H p = none) : DX (p :: ex) H v d :=
  h.ex fun b o m e z => by rcases List.mem_cons.mp z with z | z; exact ne_of_none e n z; exact m z
theorem DXs.fresh {ex : List Addr} {H : Hp} {p : Addr} {v : List V} {d : List PyData} (h : DXs ex H v d) (n : H p = none) : DXs (p :: ex) H v d :=
  h.ex fun b o m e z => by rcases List.mem_cons.mp z with z | z; exact ne_of_none e n z; exact m z
theorem DX.less {ex ex' : List Addr} {H : Hp} {v : V} {d : PyData} (h : DX ex H v d) (s : ∀ b, b ∈ ex' → b ∈ ex) : DX ex' H v d := h.ex fun b _ n _ z => n (s b z)
theorem DXs.less {ex ex' : List Addr} {H : Hp} {v : List V} {d : List PyData} (h : DXs ex H v d) (s : ∀ b, b ∈ ex' → b ∈ ex) : DXs ex' H v d := h.ex fun b _ n _ z => n (s b z)
theorem DX.all {ex : List Addr} {H : Hp} {v : V} {d : PyData} (h : DX ex H v d) : DX [] H v d := h.less fun _ z => nomatch z
theorem DXs.all {ex : List Addr} {H : Hp} {v : List V} {d : List PyData} (h : DXs ex H v d) : DXs [] H v d := h.less fun _ z => nomatch z
theorem DXs.len {ex : List Addr} {H : Hp} : ∀ {v : List V} {d : List PyData}, DXs ex H v d → v.length = d.length
  | _, _, .nil => rfl
  | _, _, .cons _ r => by rw [List.length_cons, List.length_cons, DXs.len r]
theorem DXs.app {ex : List Addr} {H : Hp} : ∀ {v w : List V} {d e : List PyData}, DXs ex H v d → DXs ex H w e → DXs ex H (v ++ w) (d ++ e)
  | _, _, _, _, .nil, s => s
  | _, _, _, _, .cons a r, s => .cons a (DXs.app r s)
theorem DXs.one {ex : List Addr} {H : Hp} {v : V} {d : PyData} (h : DX ex H v d) : DXs ex H [v] [d] := .cons h .nil
theorem DXs.get {ex : List Addr} {H : Hp} : ∀ {v : List V} {d : List PyData} {i : Nat} {x : V}, DXs ex H v d → v[i]? = some x → ∃ e, d[i]? = some e ∧ DX ex H x e
  | _, _, _, _, .nil, e => by simp at e
  | _, _, 0, _, .cons a _, e => by simp at e; subst e; exact ⟨_, rfl, a⟩
  | _, _, i + 1, x, .cons _ r, e => by
    obtain ⟨z, h1, h2⟩ := DXs.get (i := i) (x := x) r (by simpa using e)
    exact ⟨z, by simpa using h1, h2⟩
theorem DXs.getD {ex : List Addr} {H : Hp} : ∀ {v : List V} {d : List PyData} {i : Nat} {e : PyData}, DXs ex H v d → d[i]? = some e → ∃ x, v[i]? = some x ∧ DX ex H x e
  | _, _, _, _, .nil, e => by simp at e
  | _, _, 0, _, .cons a _, e => by simp at e; subst e; exact ⟨_, rfl, a⟩
  | _, _, i + 1, x, .cons _ r, e => by
    obtain ⟨z, h1, h2⟩ := DXs.getD (i := i) (e := x) r (by simpa using e)
    exact ⟨z, by simpa using h1, h2⟩
theorem DXs.ints {ex : List Addr} {H : Hp} : ∀ ns : List Int, DXs ex H (ns.map V.int) (ns.map PyData.int)
  | [] => .nil
  | n :: r => .cons (.int n) (DXs.ints r)
theorem DXs.rev {ex : List Addr} {H : Hp} : ∀ {v : List V} {d : List PyData}, DXs ex H v d → DXs ex H v.reverse d.reverse
  | _, _, .nil => .nil
  | _, _, .cons a r => by rw [List.reverse_cons, List.reverse_cons]; exact (DXs.rev r).app (.one a)
theorem DXs.lastD {ex : List Addr} {H : Hp} {v : List V} {d : List PyData} {x : V} (h : DXs ex H v d) (e : v[v.length - 1]? = some x) : ∃ z, d[d.length - 1]? = some z ∧ DX ex H x z := by
  rw [h.len] at e; exact h.get e
theorem DXs.init {ex : List Addr} {H : Hp} : ∀ {v : List V} {d : List PyData}, DXs ex H v d → DXs ex H v.dropLast d.dropLast
  | _, _, .nil => .nil
  | _, _, .cons _ .nil => .nil
  | _, _, .cons a (.cons b r) => .cons a (DXs.init (.cons b r))
/-- a new tuple, a new list of data -/
theorem DX.newT {ex : List Addr} {H : Hp} {p : Addr} {xs : List V} {ds : List PyData} (h : DXs ex H xs ds) (n : H p = none) (m : p ∉ ex) : DX ex (upd H p (.tup xs)) (.ref p) (.tuple ds) :=
  .tup m upd_same (h.mono (Kp.new n))
theorem DX.newL {ex : List Addr} {H : Hp} {p : Addr} {xs : List V} {ds : List PyData} (h : DXs ex H xs ds) (n : H p = none) (m : p ∉ ex) : DX ex (upd H p (.lst xs)) (.ref p) (.list ds) :=
  .lst m upd_same (h.mono (Kp.new n))
theorem nin1 {a p : Addr} (h : p ≠ a) : p ∉ [a] := fun z => h (List.mem_singleton.mp z)
theorem nin_none {ex : List Addr} {H : Hp} {p : Addr} (h : H p = none) (k : ∀ b ∈ ex, ∃ o, H b = some o) : p ∉ ex := fun z => by
  obtain ⟨o, e⟩ := k p z; rw [e] at h; cases h

/-- the name of a data's type -/
def tyN : PyData → String
  | .none => "NoneType"
  | .bool _ => "bool"
  | .int _ => "int"
  | .str _ => "str"
  | .list _ => "list"
  | .tuple _ => "tuple"
  | .dict _ => "dict"
theorem DX.ty {K : PySem.W.Frag} {ex : List Addr} {H : Hp} {v : V} {d : PyData} (h : DX ex H v d) : TyX K H v (.type (tyN d)) := by
  cases h with
  | non => exact .base .non
  | bl b => exact .base (.bl b)
  | int i => exact .base (.int i)
  | str x => exact .base (.str x)
  | lst _ e _ => exact .base (.lst e)
  | tup _ e _ => exact .base (.tup e)

/-- data without dicts, at most n deep -/
inductive Sh : Nat → PyData → Prop
  | non (n : Nat) : Sh n .none
  | bl (n : Nat) (b : Bool) : Sh n (.bool b)
  | int (n : Nat) (i : Int) : Sh n (.int i)
  | str (n : Nat) (x : Str) : Sh n (.str x)
  | lst {n : Nat} {ds : List PyData} : (∀ d ∈ ds, Sh n d) → Sh (n + 1) (.list ds)
  | tup {n : Nat} {ds : List PyData} : (∀ d ∈ ds, Sh n d) → Sh (n + 1) (.tuple ds)
theorem Sh.up {n : Nat} {d : PyData} (h : Sh n d) : ∀ m, n ≤ m → Sh m d := by
  induction h with
  | non n => intro m _; exact .non m
  | bl n b => intro m _; exact .bl m b
  | int n i => intro m _; exact .int m i
  | str n x => intro m _; exact .str m x
  | lst _ ih =>
    intro m hm
    obtain ⟨k, rfl⟩ : ∃ k, m = k + 1 := ⟨m - 1, by omega⟩
    exact .lst fun d hd => ih d hd k (by omega)
  | tup _ ih =>
    intro m hm
    obtain ⟨k, rfl⟩ : ∃ k, m = k + 1 := ⟨m - 1, by omega⟩
    exact .tup fun d hd => ih d hd k (by omega)

/-- a def of the module that is called by its name -/
structure Cl (P : Program) (w : World) (K : PySem.W.Frag) (mg : Str → Option Value) (base : Heap) (k : Nat) (x : Str) (sp : Sp) : Prop where
  ex : ∃ (f : Addr) (fd : FuncData) (ps : List Str), FnOk P w K mg base CX0 k f fd ps sp ∧ mg x = some (.ref f) ∧ PySem.W.keepIn K (.ref f) = true ∧ Binds K fd ps []
theorem Cl.imp {P : Program} {w : World} {K : PySem.W.Frag} {mg : Str → Option Value} {base : Heap} {k : Nat} {x : Str} {sp sp' : Sp} (c : Cl P w K mg base k x sp) (h : ∀ vs H Q E, sp' vs H Q E → sp vs H Q E) : Cl P w K mg base k x sp' := by
  obtain ⟨f, fd, ps, F, hm, kp, b⟩ := c.ex
  exact ⟨f, fd, ps, F.imp h, hm, kp, b⟩
theorem Cl.up {P : Program} {w : World} {K : PySem.W.Frag} {mg : Str → Option Value} {base : Heap} {k j : Nat} {x : Str} {sp : Sp} (c : Cl P w K mg base k x sp) (h : k ≤ j) : Cl P w K mg base j x sp := by
  obtain ⟨f, fd, ps, F, hm, kp, b⟩ := c.ex
  exact ⟨f, fd, ps, F.mono h, hm, kp, b⟩
section
variable {X : Cx} {k j : Nat} {x : Str} {sp : Sp} {e : Expr} {es : List Expr} {t : TA} {p pos : Pos}
theorem pc (c : Cl X.prog X.w X.K X.mg X.base k x sp) (hr : Room j X.A) (hk : k ≤ j) (hg : Gl X x) (ha : PA X (e :: es) t)
    (hdb : (x == ("__debug__" : Str)) = false := by decide) (he : starEach (e :: es) X.env = (false, eval e X.env) :: starEach es X.env := by rfl) (hpl : (backTo pos (starEach es X.env)).any (·.1) = false := by rfl) :
    PE X (.Call (.Name x p) (e :: es) [] pos) (tCall sp [] E0 t) := by
  obtain ⟨f, fd, ps, F, hm, kp, b⟩ := c.ex
  exact pe_call F (hr.mono hk) hg hm kp b .nil pass0 ha hdb he hpl
end
theorem atI_i {α : Type} {xs : List α} {k : Int} {v : α} (h : 0 ≤ k) (e : xs[k.toNat]? = some v) : atI xs k = some v := by
  have ek : k = ((k.toNat : Nat) : Int) := by omega
  have q : atI xs ((k.toNat : Nat) : Int) = some v := atI_nat e
  rw [← ek] at q
  exact q
theorem pos_of {j : Int} (h : 0 < j) : (fun (_ j : Int) => 0 < j) 0 j := h
/-! readings with names -/
def rInt1 : List V → Hp → VK → Prop := fun xs H Q => (∃ i, xs = [.int i] ∧ Q (.int i) H) ∨ ∃ k, xs = [.bl k] ∧ Q (.int (if k then 1 else 0)) H
def rMax2 : List V → Hp → VK → Prop := fun xs H Q => ∃ i j, xs = [.int i, .int j] ∧ Q (.int (if j > i then j else i)) H
def rMin2 : List V → Hp → VK → Prop := fun xs H Q => ∃ i j, xs = [.int i, .int j] ∧ Q (.int (if j < i then j else i)) H
def rAbs : List V → Hp → VK → Prop := fun xs H Q => ∃ i, xs = [.int i] ∧ Q (.int (if i < 0 then -i else i)) H
def rTupOf (K : PySem.W.Frag) : List V → Hp → VK → Prop := fun xs H Q => ∃ p ys, xs = [.ref p] ∧ ((SqL K H p ys ∧ ∀ l, H l = none → Q (.ref l) (upd H l (.tup ys))) ∨ (SqT K H p ys ∧ Q (.ref p) H))
def rListOf (K : PySem.W.Frag) : List V → Hp → VK → Prop := fun xs H Q => ∃ p ys, xs = [.ref p] ∧ (SqL K H p ys ∨ SqT K H p ys) ∧ ∀ l, H l = none → Q (.ref l) (upd H l (.lst ys))
def rStrI : List V → Hp → VK → Prop := fun xs H Q => ∃ i : Int, xs = [.int i] ∧ i.natAbs.log2 < 1920 ∧ Q (.str (toString i)) H
def rAddS : R2 := fun x y H Q => ∃ i j : Str, x = .str i ∧ y = .str j ∧ i.length + j.length ≤ sizeLine ∧ Q (.str (i ++ j)) H
def rIsNon : R2 := fun x y H Q => y = .non ∧ Q (.bl (decide (x = .non))) H
def rNotNon : R2 := fun x y H Q => y = .non ∧ Q (.bl (!decide (x = .non))) H
theorem sz {n : Nat} (h : n ≤ 100000) : n ≤ sizeLine := Nat.le_trans h (by decide)
theorem szl {n : Nat} (h : n < 100000) : n < sizeLine := Nat.lt_of_lt_of_le h (by decide)
/-- a def of the text as the head's facts tell it -/
abbrev FnP (K : PySem.W.Frag) (x q : Str) (st : Stmt) (f : Addr) (fd : FuncData) : Prop := FunD K x q (defArgs st) (defBody st) (defScope st) [] [] f fd
end FL

/-! ## Draw: the law's own draws -/
namespace FL
open PySem L2
def t__law_source (K : PySem.W.Frag) : TS := (tSeq (tAsg (tIf (tTest (tOp (rI0 fun i j => .bl (decide (i < j))) (tVar 1) (tCB (rLen K) (tCons (tVar 0) tNil)))) (tOp (rIxL K) (tVar 0) (tVar 1)) (tOp (rI0 fun i j => .int (i + j)) (tOp (rI CMul fun i j => .int (i * j)) (tC (.int 7)) (tVar 1)) (tC (.int 3)))) (gName 2))
  (tRet (tLst (tCons (tIf (tTest (tOp (rI0 fun i j => .bl (decide (j ≤ i))) (tVar 2) (tOp (rI CPow fun i j => .int (i ^ j.toNat)) (tC (.int 10)) (tC (.int 18))))) (tVar 2) (tC (.int 0))) (tCons (tOp (rI (fun _ j => 0 < j) fun i j => .int (i % j)) (tCB (FL.rInt1) (tCons (tVar 2) tNil)) (tC (.int 2147483647))) (tCons (tC (.int 0)) tNil))))))
def t__law_draw (K : PySem.W.Frag) : TS := (tSeq (tIfS (tTest (tOp (rI0 fun i j => .bl (decide (j < i))) (tOp (rIxL K) (tVar 0) (tC (.int 0))) (tC (.int 0)))) (tSeq (tAsg (tOp (rI (fun _ j => 0 < j) fun i j => .int (i % j)) (tCB (FL.rInt1) (tCons (tOp (rIxL K) (tVar 0) (tC (.int 0))) tNil)) (tVar 1)) (gName 2))
  (tSeq (tAsg (tOp (rI CDivW fun i j => .int (i / j)) (tOp (rIxL K) (tVar 0) (tC (.int 0))) (tVar 1)) (gSub (tVar 0) (tC (.int 0)) rSetL))
  (tRet (tVar 2)))) tNext)
  (tSeq (tAsg (tOp (rI0 fun i j => .int (i + j)) (tOp (rIxL K) (tVar 0) (tC (.int 2))) (tC (.int 1))) (gSub (tVar 0) (tC (.int 2)) rSetL))
  (tSeq (tAsg (tOp (rI (fun _ j => 0 < j) fun i j => .int (i % j)) (tOp (rI CPow fun i j => .int (i ^ j.toNat)) (tCB (FL.rInt1) (tCons (tOp (rI0 fun i j => .int (i + j)) (tOp (rIxL K) (tVar 0) (tC (.int 1))) (tOp (rI CMul fun i j => .int (i * j)) (tC (.int 7919)) (tOp (rIxL K) (tVar 0) (tC (.int 2))))) tNil)) (tC (.int 5))) (tC (.int 2147483647))) (gName 3))
  (tRet (tOp (rI (fun _ j => 0 < j) fun i j => .int (i % j)) (tOp (rI CDiv fun i j => .int (i / j)) (tOp (rI (fun _ j => 0 < j) fun i j => .int (i % j)) (tOp (rI CMul fun i j => .int (i * j)) (tOp (rI0 fun i j => .int (i + j)) (tVar 3) (tOp (rIxL K) (tVar 0) (tC (.int 2)))) (tC (.int 40692))) (tC (.int 2147483629))) (tC (.int 16))) (tVar 1))))))
def t__law_pick (K : PySem.W.Frag) (s__law_draw : Sp) : TS := (tRet (tOp (rIxL K) (tVar 1) (tCall s__law_draw [] E0 (tCons (tVar 0) (tCons (tCB (rLen K) (tCons (tVar 1) tNil)) tNil)))))
/-- three ints stand at a, the third at most n -/
def Dr (a : Addr) (n : Nat) (H : Hp) : Prop := ∃ x y z : Int, H a = some (.lst [.int x, .int y, .int z]) ∧ 0 ≤ y ∧ y < 2147483647 ∧ 0 ≤ z ∧ z ≤ n
theorem Dr.mono {a : Addr} {n m : Nat} {H : Hp} (h : Dr a n H) (l : n ≤ m) : Dr a m H := by
  obtain ⟨x, y, z, e, h1, h2, h3, h4⟩ := h
  exact ⟨x, y, z, e, h1, h2, h3, by omega⟩
theorem Dr.keep {a : Addr} {n : Nat} {H H' : Hp} (h : Dr a n H) (k : Kp [] H H') : Dr a n H' := by
  obtain ⟨x, y, z, e, h1⟩ := h
  exact ⟨x, y, z, k a _ (fun z => nomatch z) e, h1⟩
theorem Dr.keepx {ex : List Addr} {a : Addr} {n : Nat} {H H' : Hp} (h : Dr a n H) (k : Kp ex H H') (m : a ∉ ex) : Dr a n H' := by
  obtain ⟨x, y, z, e, h1⟩ := h
  exact ⟨x, y, z, k a _ m e, h1⟩
theorem Dr.ne {a p : Addr} {n : Nat} {H : Hp} (h : Dr a n H) (m : H p = none) : p ≠ a := by
  obtain ⟨x, y, z, e, _⟩ := h
  exact (ne_of_none e m).symm
theorem Dr.at {a : Addr} {n : Nat} {H : Hp} (h : Dr a n H) : ∃ xs, H a = some (.lst xs) := by
  obtain ⟨x, y, z, e, _⟩ := h
  exact ⟨_, e⟩
def spDraw : Sp := fun vs H Q _ => ∃ (a : Addr) (m : Int) (n : Nat), vs = [.ref a, .int m] ∧ 1 ≤ m ∧ m < 2 ^ 120 ∧ Dr a n H ∧ n ≤ 2 ^ 40 ∧
  ∀ r H', 0 ≤ r → r < m → Kp [a] H H' → Dr a (n + 1) H' → Q (.int r) H'
def spSource (K : PySem.W.Frag) : Sp := fun vs H Q _ => ∃ (s : Addr) (ns : List Int) (k : Int), vs = [.ref s, .int k] ∧ SqL K H s (ns.map V.int) ∧ ns.length ≤ 63 ∧ 0 ≤ k ∧ k ≤ 1000 ∧
  ∀ p H', H p = none → Kp [] H H' → Dr p 0 H' → Q (.ref p) H'
/-- one of a list's items, by a draw -/
def spPick : Sp := fun vs H Q _ => ∃ (a s : Addr) (xs : List V) (n : Nat), vs = [.ref a, .ref s] ∧ H s = some (.lst xs) ∧ s ≠ a ∧ 1 ≤ xs.length ∧ xs.length ≤ 1000 ∧ Dr a n H ∧ n ≤ 2 ^ 40 ∧
  ∀ v H', v ∈ xs → Kp [a] H H' → Dr a (n + 1) H' → Q v H'
theorem pow10_18 : (10 : Int) ^ (18 : Int).toNat = 1000000000000000000 := by decide
theorem pure_source {K : PySem.W.Frag} (vs : List V) (H : Hp) (Q : VK) (E : XK) (h : spSource K vs H Q E) :
    t__law_source K { nx := fun _ H' => Q .non H', rt := Q } (start ["_law_script", "_law_k", "_law_cell"] vs) H := by
  obtain ⟨s, ns, k, rfl, hS, h63, h0, h1, q⟩ := h
  have hl : (ns.map V.int).length = ns.length := List.length_map _
  have fin : ∀ c : Int, tRet (tLst (tCons (tIf (tTest (tOp (rI0 fun i j => .bl (decide (j ≤ i))) (tVar 2) (tOp (rI CPow fun i j => .int (i ^ j.toNat)) (tC (.int 10)) (tC (.int 18))))) (tVar 2) (tC (.int 0))) (tCons (tOp (rI (fun _ j => 0 < j) fun i j => .int (i % j)) (tCB (FL.rInt1) (tCons (tVar 2) tNil)) (tC (.int 2147483647))) (tCons (tC (.int 0)) tNil))))
      { nx := fun _ H' => Q .non H', rt := Q } [some (.ref s), some (.int k), some (.int c)] H := by
    intro c
    refine ⟨_, rfl, _, _, rfl, rfl, ⟨by decide, by decide, by decide⟩, _, _, rfl, rfl, _, rfl, ?_⟩
    have e1 : 0 ≤ c % 2147483647 := Int.emod_nonneg _ (by decide)
    have e2 : c % 2147483647 < 2147483647 := Int.emod_lt_of_pos _ (by decide)
    refine ite2 (fun _ => ?_) (fun _ => ?_)
    · refine ⟨_, rfl, _, rfl, .inl ⟨_, rfl, _, _, rfl, rfl, (by show (0 : Int) < 2147483647; decide), by show 3 ≤ sizeLine; decide, fun p hp => ?_⟩⟩
      exact q p _ hp (Kp.new hp) ⟨_, _, _, upd_same, e1, e2, Int.le_refl 0, Int.le_refl 0⟩
    · refine ⟨_, rfl, .inl ⟨_, rfl, _, _, rfl, rfl, (by show (0 : Int) < 2147483647; decide), by show 3 ≤ sizeLine; decide, fun p hp => ?_⟩⟩
      exact q p _ hp (Kp.new hp) ⟨_, _, _, upd_same, e1, e2, Int.le_refl 0, Int.le_refl 0⟩
  refine ⟨_, rfl, _, rfl, _, _, rfl, .inl ⟨_, hS, rfl⟩, _, _, rfl, rfl, _, rfl, ?_⟩
  refine ite2 (fun c => ?_) (fun c => ?_)
  · have c' : k < ((ns.map V.int).length : Int) := of_decide_eq_true c
    rw [hl] at c'
    have hk : k.toNat < ns.length := by omega
    have ea : atI (ns.map V.int) k = some (.int ns[k.toNat]) := atI_i h0 (by rw [List.getElem?_map, List.getElem?_eq_getElem hk] <;> rfl)
    exact ⟨_, rfl, _, rfl, s, _, _, _, rfl, rfl, hS, ea, fin _⟩
  · exact ⟨_, rfl, _, _, rfl, rfl, .inl ⟨by decide, by decide⟩, _, _, rfl, rfl, fin _⟩
theorem pure_draw {K : PySem.W.Frag} (vs : List V) (H : Hp) (Q : VK) (E : XK) (h : spDraw vs H Q E) :
    t__law_draw K { nx := fun _ H' => Q .non H', rt := Q } (start ["_law_draws", "_law_many", "_law_found", "_law_seed"] vs) H := by
  obtain ⟨a, m, n, rfl, h1, h2, ⟨x, y, z, ha, y0, y1, z0, z1⟩, hn, q⟩ := h
  have hm : CDivW x m := by
    refine wide_div (b := 120) (by omega) ?_ (by decide) (by decide)
    have e : (m.natAbs : Int) = m := by omega
    have e2 : (m.natAbs : Int) < ((2 ^ 120 : Nat) : Int) := by rw [e]; exact h2
    exact Int.ofNat_lt.mp e2
  refine ⟨_, rfl, _, _, _, _, rfl, rfl, SqL.of ha, rfl, _, _, rfl, rfl, _, rfl, ?_⟩
  refine ite2 (fun c => ?_) (fun c => ?_)
  · refine ⟨_, rfl, _, _, _, _, rfl, rfl, SqL.of ha, rfl, .inl ⟨_, rfl, _, rfl, _, _, rfl, rfl, (by omega), ?_⟩⟩
    refine ⟨_, rfl, _, _, _, _, rfl, rfl, SqL.of ha, rfl, _, rfl, _, _, rfl, rfl, hm, _, rfl, _, _, _, 0, rfl, rfl, ha, rfl, _, rfl, ?_⟩
    exact q _ _ (Int.emod_nonneg _ (by omega)) (Int.emod_lt_of_pos _ (by omega)) (Kp.mut (List.mem_singleton.mpr rfl)) ⟨_, _, _, upd_same, y0, y1, z0, by omega⟩
  · refine ⟨_, rfl, _, _, _, _, rfl, rfl, SqL.of ha, rfl, _, _, rfl, rfl, _, rfl, _, _, _, 2, rfl, rfl, ha, rfl, ?_⟩
    have ha' : ∀ b, upd H b (.lst [.int x, .int y, .int (z + 1)]) b = some (.lst [.int x, .int y, .int (z + 1)]) := fun b => upd_same
    refine ⟨_, rfl, _, _, _, _, rfl, rfl, SqL.of upd_same, rfl, _, rfl, _, _, _, _, rfl, rfl, SqL.of upd_same, rfl, _, _, rfl, rfl, .inl ⟨by decide, by decide⟩, _, _, rfl, rfl, .inl ⟨_, rfl, _, _, rfl, rfl, ⟨by decide, by decide, ?_⟩, _, _, rfl, rfl, (by show (0 : Int) < 2147483647; decide), ?_⟩⟩
    · show (y + 7919 * (z + 1)).natAbs < 2 ^ 64
      have e : ((2 : Nat) ^ 40) = 1099511627776 := by decide
      have e2 : ((2 : Nat) ^ 64) = 18446744073709551616 := by decide
      rw [e] at hn
      rw [e2]
      omega
    · refine ⟨_, rfl, _, rfl, _, _, _, _, rfl, rfl, SqL.of upd_same, rfl, _, _, rfl, rfl, _, _, rfl, rfl, .inr ⟨by decide, by decide⟩, _, _, rfl, rfl, (by show (0 : Int) < 2147483629; decide), _, _, rfl, rfl, ⟨by decide, by decide⟩, _, rfl, _, _, rfl, rfl, (by omega), ?_⟩
      exact q _ _ (Int.emod_nonneg _ (by omega)) (Int.emod_lt_of_pos _ (by omega)) (Kp.mut (List.mem_singleton.mpr rfl)) ⟨_, _, _, upd_same, y0, y1, by omega, by omega⟩
theorem pure_pick {K : PySem.W.Frag} (vs : List V) (H : Hp) (Q : VK) (E : XK) (h : spPick vs H Q E) :
    t__law_pick K spDraw { nx := fun _ H' => Q .non H', rt := Q } (start ["_law_draws", "_law_some"] vs) H := by
  obtain ⟨a, s, xs, n, rfl, hs, ne, h1, h2, D, hn, q⟩ := h
  refine ⟨_, rfl, _, rfl, _, rfl, _, _, rfl, .inl ⟨_, SqL.of hs, rfl⟩, a, _, n, rfl, by omega, ?_, D, hn, fun r H' r0 r1 kp D' => ?_⟩
  · have e : (2 : Int) ^ 120 = 1329227995784915872903807060280344576 := by decide
    rw [e]; omega
  · have hr : r.toNat < xs.length := by omega
    have ea : atI xs r = some xs[r.toNat] := atI_i r0 (List.getElem?_eq_getElem hr)
    exact ⟨_, _, _, _, rfl, rfl, SqL.of (kp _ _ (nin1 ne) hs), ea, q _ _ (List.getElem_mem hr) kp D'⟩
end FL

/-! ## Same: the law's own comparison, of equal data without dicts -/
namespace FL
open PySem L2
def t__law_same (K : PySem.W.Frag) (s__law_same : Sp) : TS := (tSeq (tIfS (tB (tCB (rIsiT K) (tCons (tVar 1) (tCons (tTup (tCons (tC (.ty "list")) (tCons (tC (.ty "tuple")) tNil))) tNil)))) (tSeq (tIfS (tOr (tTest (tOp (rNe) (tCB (rIsi K) (tCons (tVar 0) (tCons (tC (.ty "list")) tNil))) (tCB (rIsi K) (tCons (tVar 1) (tCons (tC (.ty "list")) tNil))))) (tTest (tOp (rNe) (tCB (rIsi K) (tCons (tVar 0) (tCons (tC (.ty "tuple")) tNil))) (tCB (rIsi K) (tCons (tVar 1) (tCons (tC (.ty "tuple")) tNil)))))) (tRet (tC (.bl false))) tNext)
  (tRet (tAndV (tOp (rEq) (tCB (rLen K) (tCons (tVar 0) tNil)) (tCB (rLen K) (tCons (tVar 1) tNil))) (tCB (rAll K) (tCons (tLc (RZ.iZipA K (tCons (tVar 0) (tCons (tVar 1) tNil))) (gTup K 2 (gCons (gName 2) (gCons (gName 3) gNil))) tYes (tCall s__law_same [] E0 (tCons (tVar 2) (tCons (tVar 3) tNil))) [2, 3]) tNil))))) tNext)
  (tSeq (tIfS (tB (tCB (rIsi K) (tCons (tVar 1) (tCons (tC (.ty "dict")) tNil)))) tNever tNext)
  (tSeq (tIfS (tB (tCB (rIsiT K) (tCons (tVar 1) (tCons (tTup (tCons (tC (.ty "bool")) (tCons (tC (.ty "int")) tNil))) tNil)))) (tRet (tAndV (tCB (rIsi K) (tCons (tVar 0) (tCons (tC (.ty "int")) tNil))) (tAndV (tOp (rEq) (tCB (rIsi K) (tCons (tVar 0) (tCons (tC (.ty "bool")) tNil))) (tCB (rIsi K) (tCons (tVar 1) (tCons (tC (.ty "bool")) tNil)))) (tOp (rEq) (tVar 0) (tVar 1))))) tNext)
  (tRet (tAndV (tNotV (tCB (rIsiT K) (tCons (tVar 0) (tCons (tTup (tCons (tC (.ty "bool")) (tCons (tC (.ty "int")) (tCons (tC (.ty "list")) (tCons (tC (.ty "tuple")) (tCons (tC (.ty "dict")) tNil)))))) tNil)))) (tOp (rEq) (tVar 0) (tVar 1)))))))
/-- of a built-in type's name and several others' -/
def kitL (t : String) : List String → Option Bool
  | [] => some false
  | n :: r => match kitB t n with
    | some true => some true
    | some false => kitL t r
    | none => none
theorem kitL_ok {K : PySem.W.Frag} {t : String} : ∀ {ns : List String} {b : Bool}, kitL t ns = some b → PySem.W.kitAny K (.type t) (ns.map Value.type) = some b
  | [], b, h => h
  | n :: r, b, h => by
    unfold kitL at h
    cases e : kitB t n with
    | none => rw [e] at h; cases h
    | some c =>
      rw [e] at h
      cases c with
      | true => exact kitAny_cons (kit_ty e) (fun z => nomatch z) (fun _ => by cases h; rfl)
      | false => exact kitAny_cons (kit_ty e) (fun _ => kitL_ok h) (fun z => nomatch z)
def tyArgs : List String → TA
  | [] => tNil
  | n :: r => tCons (tC (.ty n)) (tyArgs r)
theorem tyArgs_ok {σ : L2.St} {H : Hp} : ∀ {ns : List String} {Q : List V → Hp → Prop}, Q (ns.map V.ty) H → tyArgs ns σ H Q
  | [], _, h => h
  | _ :: r, Q, h => tyArgs_ok (ns := r) (Q := fun xs H2 => Q (_ :: xs) H2) h
theorem clsP : ∀ ns : List String, Paired ClsV (ns.map V.ty) (ns.map Value.type)
  | [] => .nil
  | n :: r => .cons (.ty n) (clsP r)
theorem tIsT {K : PySem.W.Frag} {σ : L2.St} {H : Hp} {Q : VK} {i : Nat} {x : V} {t : String} (ns : List String) {b : Bool} (hv : σ[i]? = some (some x)) (ty : ∀ H', Kp [] H H' → TyX K H' x (.type t)) (hk : kitL t ns = some b) (hn : ns.length ≤ 100000)
    (q : ∀ H', Kp [] H H' → Q (.bl b) H') : tCB (rIsiT K) (tCons (tVar i) (tCons (tTup (tyArgs ns)) tNil)) σ H Q := by
  refine ⟨_, hv, ?_⟩
  refine tyArgs_ok ?_
  refine ⟨by rw [List.length_map]; exact sz hn, fun p hp => ?_⟩
  exact ⟨_, p, _, _, _, b, rfl, upd_same, clsP ns, ty _ (Kp.new hp), kitL_ok hk, q _ (Kp.new hp)⟩
theorem tIs1 {K : PySem.W.Frag} {σ : L2.St} {H : Hp} {Q : VK} {i : Nat} {x : V} {t n : String} {b : Bool} (hv : σ[i]? = some (some x)) (ty : TyX K H x (.type t)) (hk : kitB t n = some b)
    (q : Q (.bl b) H) : tCB (rIsi K) (tCons (tVar i) (tCons (tC (.ty n)) tNil)) σ H Q := by
  exact ⟨_, hv, _, _, _, _, b, rfl, .ty n, ty, kit_ty hk, q⟩
theorem walk_zipT {K : PySem.W.Frag} {a b : Addr} {xs ys : List V} {n : Nat} (hn : n = min xs.length ys.length) : Walk (RZ.ItzT K a b) n (fun H => SqT K H a xs ∧ SqT K H b ys) (YPair (fun i => xs[i]?) (fun i => ys[i]?)) := by
  subst hn
  refine ⟨fun i _ hi q => ?_, fun _ q => ⟨xs, ys, q.1, q.2, by omega⟩, fun i H v H' _ q y => ?_⟩
  · have h1 : i < xs.length := by omega
    have h2 : i < ys.length := by omega
    exact ⟨xs, ys, xs[i], ys[i], q.1, q.2, by simp [h1], by simp [h2]⟩
  · obtain ⟨T, x, z, h1, h2, h3, h4, h5⟩ := y
    exact ⟨T, x, z, h1, h2, h3, h4 xs q.1, h5 ys q.2⟩
/-- data without dicts, at most n deep, of bounded lengths -/
inductive Sz : Nat → PyData → Prop
  | non (n : Nat) : Sz (n + 1) .none
  | bl (n : Nat) (b : Bool) : Sz (n + 1) (.bool b)
  | int (n : Nat) (i : Int) : Sz (n + 1) (.int i)
  | str (n : Nat) (x : Str) : Sz (n + 1) (.str x)
  | lst {n : Nat} {ds : List PyData} : ds.length ≤ 100000 → (∀ d ∈ ds, Sz n d) → Sz (n + 1) (.list ds)
  | tup {n : Nat} {ds : List PyData} : ds.length ≤ 100000 → (∀ d ∈ ds, Sz n d) → Sz (n + 1) (.tuple ds)
theorem Sz.up {n : Nat} {d : PyData} (h : Sz n d) : ∀ m, n ≤ m → Sz m d := by
  induction h with
  | non n => intro m hm; obtain ⟨k, rfl⟩ : ∃ k, m = k + 1 := ⟨m - 1, by omega⟩; exact .non k
  | bl n b => intro m hm; obtain ⟨k, rfl⟩ : ∃ k, m = k + 1 := ⟨m - 1, by omega⟩; exact .bl k b
  | int n i => intro m hm; obtain ⟨k, rfl⟩ : ∃ k, m = k + 1 := ⟨m - 1, by omega⟩; exact .int k i
  | str n x => intro m hm; obtain ⟨k, rfl⟩ : ∃ k, m = k + 1 := ⟨m - 1, by omega⟩; exact .str k x
  | lst hl _ ih =>
    intro m hm
    obtain ⟨k, rfl⟩ : ∃ k, m = k + 1 := ⟨m - 1, by omega⟩
    exact .lst hl fun d hd => ih d hd k (by omega)
  | tup hl _ ih =>
    intro m hm
    obtain ⟨k, rfl⟩ : ∃ k, m = k + 1 := ⟨m - 1, by omega⟩
    exact .tup hl fun d hd => ih d hd k (by omega)
/-- both hold the same data: True -/
def spSame (n : Nat) : Sp := fun vs H Q _ => ∃ (x y : V) (d : PyData), vs = [x, y] ∧ DX [] H x d ∧ DX [] H y d ∧ Sz n d ∧ ∀ H', Kp [] H H' → Q (.bl true) H'
theorem spSame_none {vs : List V} {H : Hp} {Q : VK} {E : XK} (h : spSame 0 vs H Q E) : False := by
  obtain ⟨_, _, d, _, _, _, hs, _⟩ := h
  cases hs
theorem all_true : ∀ n : Nat, (List.replicate n true).all id = true
  | 0 => rfl
  | n + 1 => by rw [List.replicate_succ, List.all_cons, all_true n]; rfl
/-- the comparison item by item -/
theorem same_items {K : PySem.W.Frag} {n m : Nat} {J : It} {G : Hp → Prop} {xs ys : List V} {ds : List PyData} {σ : L2.St} {H : Hp} {Qd : Hp → Prop} {D : Addr} (w : Walk J m G (YPair (fun i => xs[i]?) (fun i => ys[i]?))) (hm : m = ds.length) (hl : ds.length ≤ 100000)
    (hG : ∀ H', Kp [] H H' → G H') (hx : DXs [] H xs ds) (hy : DXs [] H ys ds) (hs : ∀ d ∈ ds, Sz n d) (hD : H D = none) (h2 : σ.length = 4) (q : ∀ H', Kp [] H H' → H' D = some (.lst ((List.replicate ds.length true).map V.bl)) → Qd H') :
    ∃ W : Nat → Nat → Hp → Prop, (∃ m, W 0 m (upd H D (.lst []))) ∧ ∀ i m H, W i m H →
      (J.stop i H ∧ Qd H) ∨ (J.go i H ∧ ∃ Nx : Hp → Prop, (∀ H', Nx H' → ∃ m', m' < m ∧ W (i + 1) m' H') ∧ ∀ x H', J.yld i H x H' → (gTup K 2 (gCons (gName 2) (gCons (gName 3) gNil))) x (wipe σ [2, 3]) H' fun σ2 H2 => wipe σ2 [2, 3] = wipe σ [2, 3] ∧ tYes σ2 H2 fun b H3 =>
        if b = true then (tCall (spSame n) [] E0 (tCons (tVar 2) (tCons (tVar 3) tNil))) σ2 H3 fun y H4 => ∃ acc, H4 D = some (.lst acc) ∧ acc.length < sizeLine ∧ Nx (upd H4 D (.lst (acc ++ [y]))) else Nx H3) := by
  subst hm
  refine lc_it w (fun i H' => Kp [] H H' ∧ H' D = some (.lst ((List.replicate i true).map V.bl))) ⟨Kp.new hD, upd_same⟩ (fun i H' _ p => hG H' p.1) ?_ (fun H' p => q H' p.1 p.2)
  rintro i v H1 H2 hi ⟨k1, hd1⟩ ⟨T, x, y, rfl, hT, rfl, ex, ey⟩
  obtain ⟨d, ed, dx⟩ := hx.get ex
  obtain ⟨d', ed', dy⟩ := hy.get ey
  rw [ed] at ed'
  cases ed'
  match σ, h2 with
  | [s0, s1, s2, s3], _ =>
    refine ⟨T, _, rfl, SqT.of upd_same, rfl, _, _, rfl, _, _, rfl, rfl, rfl, ?_⟩
    have k2 : Kp [] H (upd H1 T (.tup [x, y])) := k1.trans (Kp.new hT)
    refine ⟨_, rfl, _, rfl, x, y, d, rfl, dx.mono k2, dy.mono k2, hs d (List.mem_of_getElem? ed), fun H3 k3 => ?_⟩
    have e3 : H3 D = some (.lst ((List.replicate i true).map V.bl)) := k3 _ _ (fun z => nomatch z) (by rw [upd_ne (ne_of_none hd1 hT)]; exact hd1)
    refine ⟨_, e3, by rw [List.length_map, List.length_replicate]; exact szl (by omega), ?_, ?_⟩
    · exact Kp.drop ((k2.trans k3).any.trans (Kp.mut (List.mem_singleton.mpr rfl))) hD
    · rw [upd_same, List.replicate_succ']
      simp
theorem pure_same {K : PySem.W.Frag} {n : Nat} (vs : List V) (H : Hp) (Q : VK) (E : XK) (h : spSame (n + 1) vs H Q E) :
    t__law_same K (spSame n) { nx := fun _ H' => Q .non H', rt := Q } (start ["_law_found", "_law_due", "_law_left", "_law_right"] vs) H := by
  obtain ⟨x, y, d, rfl, hx, hy, hs, q⟩ := h
  -- the ways of the scalars
  have sc : ∀ b : Bool, kitL (tyN d) ["list", "tuple"] = some false → kitB (tyN d) "dict" = some false → kitL (tyN d) ["bool", "int"] = some b → (b = true → kitB (tyN d) "int" = some true ∧ ∃ c, kitB (tyN d) "bool" = some c) →
      (b = false → kitL (tyN d) ["bool", "int", "list", "tuple", "dict"] = some false) → x = y → scal y y = true →
      t__law_same K (spSame n) { nx := fun _ H' => Q .non H', rt := Q } (start ["_law_found", "_law_due", "_law_left", "_law_right"] [x, y]) H := by
    intro b c1 c2 c3 c4 c5 e e2
    subst e
    refine tIsT (x := x) (t := tyN d) ["list", "tuple"] rfl (fun H' k => (hy.mono k).ty) c1 (by decide) fun H1 k1 => ?_
    refine ⟨_, rfl, iteF ?_⟩
    refine tIs1 (x := x) (t := tyN d) rfl (hy.mono k1).ty c2 ?_
    refine ⟨_, rfl, iteF ?_⟩
    refine tIsT (x := x) (t := tyN d) ["bool", "int"] rfl (fun H' k => (hy.mono (k1.trans k)).ty) c3 (by decide) fun H2 k2 => ?_
    cases b with
    | true =>
      obtain ⟨c6, c, c7⟩ := c4 rfl
      refine ⟨_, rfl, iteT ?_⟩
      refine tIs1 (x := x) (t := tyN d) rfl (hx.mono (k1.trans k2)).ty c6 ?_
      refine ⟨_, rfl, iteT ?_⟩
      refine tIs1 (x := x) (t := tyN d) rfl (hx.mono (k1.trans k2)).ty c7 ?_
      refine tIs1 (x := x) (t := tyN d) rfl (hx.mono (k1.trans k2)).ty c7 ?_
      refine ⟨rfl, _, rfl, ?_⟩
      rw [decide_eq_true (rfl : V.bl c = V.bl c)]
      refine iteT ?_
      refine ⟨_, rfl, _, rfl, e2, ?_⟩
      rw [decide_eq_true (rfl : x = x)]
      exact q _ (k1.trans k2)
    | false =>
      refine ⟨_, rfl, iteF ?_⟩
      refine tIsT (x := x) (t := tyN d) ["bool", "int", "list", "tuple", "dict"] rfl (fun H' k => (hx.mono ((k1.trans k2).trans k)).ty) (c5 rfl) (by decide) fun H3 k3 => ?_
      refine ⟨_, rfl, _, rfl, iteT ?_⟩
      refine ⟨_, rfl, _, rfl, e2, ?_⟩
      rw [decide_eq_true (rfl : x = x)]
      exact q _ ((k1.trans k2).trans k3)
  cases hs with
  | non =>
    cases hx; cases hy
    exact sc false (show kitL "NoneType" ["list", "tuple"] = some false by decide +kernel) (show kitB "NoneType" "dict" = some false by decide +kernel) (show kitL "NoneType" ["bool", "int"] = some false by decide +kernel) (fun z => nomatch z) (fun _ => (show kitL "NoneType" ["bool", "int", "list", "tuple", "dict"] = some false by decide +kernel)) rfl rfl
  | bl _ b =>
    cases hx; cases hy
    exact sc true (show kitL "bool" ["list", "tuple"] = some false by decide +kernel) (show kitB "bool" "dict" = some false by decide +kernel) (show kitL "bool" ["bool", "int"] = some true by decide +kernel) (fun _ => ⟨(show kitB "bool" "int" = some true by decide +kernel), true, (show kitB "bool" "bool" = some true by decide +kernel)⟩) (fun z => nomatch z) rfl rfl
  | int _ b =>
    cases hx; cases hy
    exact sc true (show kitL "int" ["list", "tuple"] = some false by decide +kernel) (show kitB "int" "dict" = some false by decide +kernel) (show kitL "int" ["bool", "int"] = some true by decide +kernel) (fun _ => ⟨(show kitB "int" "int" = some true by decide +kernel), false, (show kitB "int" "bool" = some false by decide +kernel)⟩) (fun z => nomatch z) rfl rfl
  | str _ b =>
    cases hx; cases hy
    exact sc false (show kitL "str" ["list", "tuple"] = some false by decide +kernel) (show kitB "str" "dict" = some false by decide +kernel) (show kitL "str" ["bool", "int"] = some false by decide +kernel) (fun z => nomatch z) (fun _ => (show kitL "str" ["bool", "int", "list", "tuple", "dict"] = some false by decide +kernel)) rfl rfl
  | @lst _ ds hl hd =>
    cases hx with
    | @lst a xs _ _ ha hxs =>
    cases hy with
    | @lst b ys _ _ hb hys =>
    have dxx : DX [] H (.ref a) (.list ds) := .lst (fun z => nomatch z) ha hxs
    have dyy : DX [] H (.ref b) (.list ds) := .lst (fun z => nomatch z) hb hys
    refine tIsT (x := .ref b) (t := "list") ["list", "tuple"] rfl (fun H' k => (dyy.mono k).ty) (by decide +kernel : kitL "list" ["list", "tuple"] = some true) (by decide) fun H1 k1 => ?_
    refine ⟨_, rfl, iteT ?_⟩
    refine tIs1 (x := .ref a) (t := "list") rfl (dxx.mono k1).ty (by decide +kernel : kitB "list" "list" = some true) ?_
    refine tIs1 (x := .ref b) (t := "list") rfl (dyy.mono k1).ty (by decide +kernel : kitB "list" "list" = some true) ?_
    refine ⟨rfl, _, rfl, iteF ?_⟩
    refine tIs1 (x := .ref a) (t := "list") rfl (dxx.mono k1).ty (by decide +kernel : kitB "list" "tuple" = some false) ?_
    refine tIs1 (x := .ref b) (t := "list") rfl (dyy.mono k1).ty (by decide +kernel : kitB "list" "tuple" = some false) ?_
    refine ⟨rfl, _, rfl, iteF ?_⟩
    have ha1 := k1 _ _ (fun z => nomatch z) ha
    have hb1 := k1 _ _ (fun z => nomatch z) hb
    refine ⟨_, rfl, _, _, rfl, .inl ⟨_, SqL.of ha1, rfl⟩, _, rfl, _, _, rfl, .inl ⟨_, SqL.of hb1, rfl⟩, rfl, _, rfl, ?_⟩
    rw [hxs.len, hys.len, decide_eq_true (rfl : V.int (ds.length : Int) = V.int (ds.length : Int))]
    refine iteT ?_
    refine ⟨_, rfl, _, rfl, a, b, xs, ys, rfl, .inl ⟨SqL.of ha1, SqL.of hb1, fun D hD => ?_⟩⟩
    refine same_items (n := n) (σ := [some (.ref a), some (.ref b), none, none]) (walk_zip (xs := xs) (ys := ys) (n := ds.length) (by rw [hxs.len, hys.len, Nat.min_self])) rfl hl (fun H' k => ⟨SqL.of (k _ _ (fun z => nomatch z) ha1), SqL.of (k _ _ (fun z => nomatch z) hb1)⟩) (hxs.mono k1) (hys.mono k1) hd hD rfl fun H2 k2 e2 => ?_
    refine ⟨_, _, rfl, SqL.of e2, ?_⟩
    rw [all_true]
    exact q _ (k1.trans k2)
  | @tup _ ds hl hd =>
    cases hx with
    | @tup a xs _ _ ha hxs =>
    cases hy with
    | @tup b ys _ _ hb hys =>
    have dxx : DX [] H (.ref a) (.tuple ds) := .tup (fun z => nomatch z) ha hxs
    have dyy : DX [] H (.ref b) (.tuple ds) := .tup (fun z => nomatch z) hb hys
    refine tIsT (x := .ref b) (t := "tuple") ["list", "tuple"] rfl (fun H' k => (dyy.mono k).ty) (by decide +kernel : kitL "tuple" ["list", "tuple"] = some true) (by decide) fun H1 k1 => ?_
    refine ⟨_, rfl, iteT ?_⟩
    refine tIs1 (x := .ref a) (t := "tuple") rfl (dxx.mono k1).ty (by decide +kernel : kitB "tuple" "list" = some false) ?_
    refine tIs1 (x := .ref b) (t := "tuple") rfl (dyy.mono k1).ty (by decide +kernel : kitB "tuple" "list" = some false) ?_
    refine ⟨rfl, _, rfl, iteF ?_⟩
    refine tIs1 (x := .ref a) (t := "tuple") rfl (dxx.mono k1).ty (by decide +kernel : kitB "tuple" "tuple" = some true) ?_
    refine tIs1 (x := .ref b) (t := "tuple") rfl (dyy.mono k1).ty (by decide +kernel : kitB "tuple" "tuple" = some true) ?_
    refine ⟨rfl, _, rfl, iteF ?_⟩
    have ha1 := k1 _ _ (fun z => nomatch z) ha
    have hb1 := k1 _ _ (fun z => nomatch z) hb
    refine ⟨_, rfl, _, _, rfl, .inr ⟨_, SqT.of ha1, rfl⟩, _, rfl, _, _, rfl, .inr ⟨_, SqT.of hb1, rfl⟩, rfl, _, rfl, ?_⟩
    rw [hxs.len, hys.len, decide_eq_true (rfl : V.int (ds.length : Int) = V.int (ds.length : Int))]
    refine iteT ?_
    refine ⟨_, rfl, _, rfl, a, b, xs, ys, rfl, .inr ⟨SqT.of ha1, SqT.of hb1, fun D hD => ?_⟩⟩
    refine same_items (n := n) (σ := [some (.ref a), some (.ref b), none, none]) (walk_zipT (xs := xs) (ys := ys) (n := ds.length) (by rw [hxs.len, hys.len, Nat.min_self])) rfl hl (fun H' k => ⟨SqT.of (k _ _ (fun z => nomatch z) ha1), SqT.of (k _ _ (fun z => nomatch z) hb1)⟩) (hxs.mono k1) (hys.mono k1) hd hD rfl fun H2 k2 e2 => ?_
    refine ⟨_, _, rfl, SqL.of e2, ?_⟩
    rw [all_true]
    exact q _ (k1.trans k2)
end FL

/-! ## Tree: look trees as plain data, their leaves -/
namespace FL
open PySem L2
inductive Tr where
  | leaf (v : PyData)
  | look (p : PyData) (rows : List (Int × Tr))
mutual
def Tr.toD : Tr → PyData
  | .leaf v => .tuple [.str "leaf", v]
  | .look p rows => .tuple [.str "look", p, .tuple (rowsD rows)]
def rowsD : List (Int × Tr) → List PyData
  | [] => []
  | (a, t) :: r => .tuple [.int a, t.toD] :: rowsD r
end
/-- a leaf: the path's pairs, the value, the bottom of its weight -/
structure Lf where
  path : List PyData
  val : PyData
  bot : Int
def stp (pl : PyData) (a : Int) : PyData := .tuple [pl, .int a]
mutual
def Tr.lv : Tr → List PyData → Int → List Lf
  | .leaf v, p, b => [⟨p, v, b⟩]
  | .look pl rows, p, b => lvs rows pl p (b * rows.length)
def lvs : List (Int × Tr) → PyData → List PyData → Int → List Lf
  | [], _, _, _ => []
  | (a, t) :: r, pl, p, b => t.lv (p ++ [stp pl a]) b ++ lvs r pl p b
end
mutual
def Tr.size : Tr → Nat
  | .leaf _ => 1
  | .look _ rows => sizes rows + 1
def sizes : List (Int × Tr) → Nat
  | [] => 0
  | (_, t) :: r => t.size + sizes r
end
mutual
/-- at most n deep; rows at most m and one at least; plain values and places -/
def Tr.Ok (m : Nat) : Nat → Tr → Prop
  | _, .leaf v => Sz 3 v
  | 0, .look _ _ => False
  | n + 1, .look p rows => Sz 3 p ∧ 1 ≤ rows.length ∧ rows.length ≤ m ∧ RowsOk m n rows
def RowsOk (m : Nat) : Nat → List (Int × Tr) → Prop
  | _, [] => True
  | n, (_, t) :: r => t.Ok m n ∧ RowsOk m n r
end
theorem rowsD_len : ∀ rows : List (Int × Tr), (rowsD rows).length = rows.length
  | [] => rfl
  | (_, _) :: r => by rw [rowsD, List.length_cons, List.length_cons, rowsD_len r]
theorem rowsD_get : ∀ {rows : List (Int × Tr)} {i : Nat} {a : Int} {t : Tr}, rows[i]? = some (a, t) → (rowsD rows)[i]? = some (.tuple [.int a, t.toD])
  | [], _, _, _, h => by simp at h
  | (b, u) :: r, 0, a, t, h => by
    simp at h
    obtain ⟨rfl, rfl⟩ := h
    rw [rowsD]; rfl
  | (b, u) :: r, i + 1, a, t, h => by
    rw [rowsD]
    have h' : r[i]? = some (a, t) := by simpa using h
    have q := rowsD_get h'
    simpa using q
theorem RowsOk.get {m n : Nat} : ∀ {rows : List (Int × Tr)} {i : Nat} {a : Int} {t : Tr}, RowsOk m n rows → rows[i]? = some (a, t) → t.Ok m n
  | [], _, _, _, _, h => by simp at h
  | (b, u) :: r, 0, a, t, k, h => by
    simp at h
    obtain ⟨rfl, rfl⟩ := h
    rw [RowsOk] at k
    exact k.1
  | (b, u) :: r, i + 1, a, t, k, h => by
    rw [RowsOk] at k
    have h' : r[i]? = some (a, t) := by simpa using h
    exact RowsOk.get k.2 h'
mutual
theorem Tr.lv_len {m : Nat} (hm : 1 ≤ m) : ∀ (n : Nat) (t : Tr) (p : List PyData) (b : Int), t.Ok m n → (t.lv p b).length ≤ m ^ n ∧ 1 ≤ (t.lv p b).length
  | n, .leaf v, p, b, _ => by
    rw [Tr.lv]
    exact ⟨Nat.one_le_pow _ _ hm, Nat.le_refl 1⟩
  | 0, .look _ _, _, _, h => by rw [Tr.Ok] at h; exact h.elim
  | n + 1, .look pl rows, p, b, h => by
    rw [Tr.Ok] at h
    obtain ⟨_, h1, h2, h3⟩ := h
    have q := lvs_len hm n rows pl p (b * rows.length) h3
    rw [Tr.lv]
    refine ⟨Nat.le_trans q.1 ?_, Nat.le_trans h1 q.2⟩
    rw [Nat.pow_succ, Nat.mul_comm]
    exact Nat.mul_le_mul_left _ h2
theorem lvs_len {m : Nat} (hm : 1 ≤ m) : ∀ (n : Nat) (rows : List (Int × Tr)) (pl : PyData) (p : List PyData) (b : Int), RowsOk m n rows → (lvs rows pl p b).length ≤ rows.length * m ^ n ∧ rows.length ≤ (lvs rows pl p b).length
  | n, [], pl, p, b, _ => by rw [lvs]; simp
  | n, (a, t) :: r, pl, p, b, h => by
    rw [RowsOk] at h
    have q1 := Tr.lv_len hm n t (p ++ [stp pl a]) b h.1
    have q2 := lvs_len hm n r pl p b h.2
    rw [lvs, List.length_append, List.length_cons, Nat.succ_mul]
    omega
end
mutual
/-- every leaf: its path goes on from p, at most n longer; its value is plain -/
theorem Tr.lv_ok {m : Nat} : ∀ (n k : Nat) (t : Tr) (p : List PyData) (b : Int), t.Ok m n → p.length ≤ k → (∀ d ∈ p, Sz 4 d) → ∀ l ∈ t.lv p b, l.path.length ≤ k + n ∧ (∀ d ∈ l.path, Sz 4 d) ∧ Sz 3 l.val
  | n, k, .leaf v, p, b, h, hk, hp => by
    rw [Tr.lv]
    intro l hl
    rw [List.mem_singleton.mp hl]
    exact ⟨Nat.le_trans hk (Nat.le_add_right _ _), hp, by rw [Tr.Ok] at h; exact h⟩
  | 0, _, .look _ _, _, _, h, _, _ => by rw [Tr.Ok] at h; exact h.elim
  | n + 1, k, .look pl rows, p, b, h, hk, hp => by
    rw [Tr.Ok] at h
    rw [Tr.lv]
    intro l hl
    have q := lvs_ok n k rows pl p (b * rows.length) h.2.2.2 hk hp h.1 l hl
    exact ⟨by omega, q.2⟩
theorem lvs_ok {m : Nat} : ∀ (n k : Nat) (rows : List (Int × Tr)) (pl : PyData) (p : List PyData) (b : Int), RowsOk m n rows → p.length ≤ k → (∀ d ∈ p, Sz 4 d) → Sz 3 pl → ∀ l ∈ lvs rows pl p b, l.path.length ≤ (k + 1) + n ∧ (∀ d ∈ l.path, Sz 4 d) ∧ Sz 3 l.val
  | n, k, [], pl, p, b, _, _, _, _ => by rw [lvs]; intro l hl; cases hl
  | n, k, (a, t) :: r, pl, p, b, h, hk, hp, hpl => by
    rw [RowsOk] at h
    rw [lvs]
    intro l hl
    rcases List.mem_append.mp hl with hl | hl
    · refine Tr.lv_ok n (k + 1) t (p ++ [stp pl a]) b h.1 (by rw [List.length_append, List.length_singleton]; omega) ?_ l hl
      intro d hd
      rcases List.mem_append.mp hd with hd | hd
      · exact hp d hd
      · rw [List.mem_singleton.mp hd]
        refine .tup (by show 2 ≤ 100000; decide) fun e he => ?_
        rcases List.mem_cons.mp he with rfl | he
        · exact hpl
        · rw [List.mem_singleton.mp he]; exact .int _ _
    · exact lvs_ok n k r pl p b h.2 hk hp hpl l hl
end
/-- what stands on the pile: a path, a bottom, a tree -/
structure En where
  path : List PyData
  bot : Int
  t : Tr
def En.toD (e : En) : PyData := .tuple [.tuple e.path, .int e.bot, e.t.toD]
def En.lv (e : En) : List Lf := e.t.lv e.path e.bot
def flat (s : List En) : List Lf := s.flatMap En.lv
def pile (s : List En) : Nat := (s.map fun e => e.t.size).sum
def Lf.toD (l : Lf) : PyData := .tuple [.tuple l.path, l.val, .int l.bot]
def Lf.pv (l : Lf) : PyData := .tuple [.tuple l.path, l.val]
def ents (pl : PyData) (p : List PyData) (b : Int) (rows : List (Int × Tr)) : List En := rows.map fun r => ⟨p ++ [stp pl r.1], b, r.2⟩
theorem flat_ents (pl : PyData) (p : List PyData) (b : Int) : ∀ rows : List (Int × Tr), flat (ents pl p b rows) = lvs rows pl p b
  | [] => by rw [lvs]; rfl
  | (a, t) :: r => by
    rw [lvs, ← flat_ents pl p b r]; rfl
theorem pile_ents (pl : PyData) (p : List PyData) (b : Int) : ∀ rows : List (Int × Tr), pile (ents pl p b rows) = sizes rows
  | [] => by rw [sizes]; rfl
  | (a, t) :: r => by
    rw [sizes, ← pile_ents pl p b r]; rfl
theorem flat_app (a b : List En) : flat (a ++ b) = flat a ++ flat b := List.flatMap_append ..
theorem pile_app (a b : List En) : pile (a ++ b) = pile a + pile b := by
  unfold pile; rw [List.map_append, List.sum_append]
mutual
theorem Tr.size_pos : ∀ t : Tr, 1 ≤ t.size
  | .leaf _ => by rw [Tr.size]; exact Nat.le_refl 1
  | .look _ _ => by rw [Tr.size]; omega
end
end FL

/-! ## Leaves: weighed_leaves of the package -/
namespace FL
open PySem L2
def t_weighed_leaves (K : PySem.W.Frag) : TS := (tSeq (tAsg (tLst tNil) (gName 1))
  (tSeq (tAsg (tLst (tCons (tTup (tCons (tTup tNil) (tCons (tC (.int 1)) (tCons (tVar 0) tNil)))) tNil)) (gName 2))
  (tSeq (tWhile (tTest (tOp (rI0 fun i j => .bl (decide (j < i))) (tCB (rLen K) (tCons (tVar 2) tNil)) (tC (.int 0))))
  (tSeq (tAsg (tBM0 K "list" rPop (tVar 2)) (gTup K 3 (gCons (gName 3) (gCons (gName 4) (gCons (gName 5) gNil)))))
  (tIfS (tTest (tOp (rEq) (tOp (rIxT K) (tVar 5) (tC (.int 0))) (tC (.str "leaf")))) (tDrop (tBM K "list" rAppend (tVar 1) (tCons (tTup (tCons (tVar 3) (tCons (tOp (rIxT K) (tVar 5) (tC (.int 1))) (tCons (tVar 4) tNil)))) tNil))) (tFor (RT.iRevA K (tCB (FL.rListOf K) (tCons (tOp (rIxT K) (tVar 5) (tC (.int 2))) tNil))) (gTup K 2 (gCons (gName 6) (gCons (gName 7) gNil)))
  (tDrop (tBM K "list" rAppend (tVar 2) (tCons (tTup (tCons (tOp (rCatA K) (tVar 3) (tTup (tCons (tTup (tCons (tOp (rIxT K) (tVar 5) (tC (.int 1))) (tCons (tVar 6) tNil))) tNil))) (tCons (tOp (rI CMul fun i j => .int (i * j)) (tVar 4) (tCB (rLen K) (tCons (tOp (rIxT K) (tVar 5) (tC (.int 2))) tNil))) (tCons (tVar 7) tNil)))) tNil)))))))
  (tRet (tVar 1)))))
/-- a new list of the leaves of the tree at v -/
def spWl (m : Nat) : Sp := fun vs H Q _ => ∃ (v : V) (t : Tr), vs = [v] ∧ DX [] H v t.toD ∧ t.Ok m 6 ∧ m ≤ 4 ∧ 1 ≤ m ∧
  ∀ (p : Addr) (H' : Hp) (xs : List V), H p = none → Kp [] H H' → H' p = some (.lst xs) → DXs [p] H' xs ((t.lv [] 1).map Lf.toD) → Q (.ref p) H'
/-- between two turns: fnd are found, stk are on the pile, its top first -/
structure WlInv (m : Nat) (t : Tr) (H0 : Hp) (v : V) (f w : Addr) (fnd : List Lf) (stk : List En) (σ : L2.St) (H : Hp) : Prop where
  sl : ∃ s3 s4 s5 s6 s7, σ = [some v, some (.ref f), some (.ref w), s3, s4, s5, s6, s7]
  kp : Kp [] H0 H
  f0 : H0 f = none
  w0 : H0 w = none
  ne : f ≠ w
  hf : ∃ xs, H f = some (.lst xs) ∧ DXs [f, w] H xs (fnd.map Lf.toD)
  hw : ∃ ys, H w = some (.lst ys) ∧ DXs [f, w] H ys (stk.map En.toD).reverse
  eq : fnd ++ flat stk = t.lv [] 1
  ok : ∀ e ∈ stk, ∃ n, e.t.Ok m n ∧ e.path.length + n ≤ 6
  few : stk.length ≤ 5000
theorem str_leaf_look : ¬ (V.str ("look" : Str) = V.str ("leaf" : Str)) := by decide +kernel
theorem last_snoc {α : Type} (xs : List α) (a : α) : (xs ++ [a])[(xs ++ [a]).length - 1]? = some a := by
  simp
/-- the two lists may be written, the rest stays -/
theorem Kp.two {f w : Addr} {H H1 H2 : Hp} (k : Kp [] H H1) (k2 : Kp [f, w] H1 H2) (h1 : H f = none) (h2 : H w = none) : Kp [] H H2 :=
  Kp.drop (Kp.drop (k.any.trans k2) h1) h2
theorem mem_f {f w : Addr} : f ∈ [f, w] := List.mem_cons_self
theorem mem_w {f w : Addr} : w ∈ [f, w] := List.mem_cons_of_mem _ List.mem_cons_self
theorem nin2 {H : Hp} {f w p : Addr} {a b : List V} (hf : H f = some (.lst a)) (hw : H w = some (.lst b)) (h : H p = none) : p ∉ [f, w] :=
  nin_none h fun c hc => by
    rcases List.mem_cons.mp hc with rfl | hc
    · exact ⟨_, hf⟩
    · rw [List.mem_singleton.mp hc]; exact ⟨_, hw⟩
theorem nf {H : Hp} {f w p : Addr} {a b c : List V} (hf : H f = some (.lst a)) (hw : H w = some (.lst b)) (h : H p = some (.tup c)) : p ∉ [f, w] := fun z => by
  rcases List.mem_cons.mp z with rfl | z
  · rw [hf] at h; cases h
  · rw [List.mem_singleton.mp z, hw] at h; cases h
theorem flat_few {m : Nat} (hm : 1 ≤ m) : ∀ {stk : List En}, (∀ e ∈ stk, ∃ n, e.t.Ok m n ∧ e.path.length + n ≤ 6) → stk.length ≤ (flat stk).length
  | [], _ => Nat.zero_le _
  | e :: r, h => by
    obtain ⟨n, hn, _⟩ := h e List.mem_cons_self
    have q1 := (Tr.lv_len hm n e.t e.path e.bot hn).2
    have q2 := flat_few hm (stk := r) fun z hz => h z (List.mem_cons_of_mem _ hz)
    have e3 : flat (e :: r) = e.t.lv e.path e.bot ++ flat r := rfl
    rw [e3, List.length_append, List.length_cons]
    omega
/-- path + ((pl, a),) -/
theorem cat_path {K : PySem.W.Frag} {ex : List Addr} {H : Hp} {Q : VK} {p q : Addr} {xs ys : List V} {ds es : List PyData} (hp : H p = some (.tup xs)) (np : p ∉ ex) (hx : DXs ex H xs ds) (hq : H q = some (.tup ys)) (nq : q ∉ ex) (hy : DXs ex H ys es)
    (hl : ds.length + es.length ≤ 100000) (hn : ∀ r : Addr, H r = none → r ∉ ex) (k : ∀ r H', Kp [] H H' → DX ex H' (.ref r) (.tuple (ds ++ es)) → Q (.ref r) H') : rCatA K (.ref p) (.ref q) H Q := by
  refine ⟨p, q, xs, ys, rfl, rfl, SqT.of hp, SqT.of hq, by rw [hx.len, hy.len]; exact sz hl, fun e => ?_, fun _ e => ?_, fun _ _ r hr => ?_⟩
  · subst e; cases hx
    exact k q H Kp.refl (.tup nq hq hy)
  · subst e; cases hy
    exact k p H Kp.refl (.tup np hp (by rw [List.append_nil]; exact hx))
  · exact k r _ (Kp.new hr) (DX.newT (hx.app hy) hr (hn r hr))
theorem pure_wl {K : PySem.W.Frag} {m : Nat} (vs : List V) (H : Hp) (Q : VK) (E : XK) (h : spWl m vs H Q E) :
    t_weighed_leaves K { nx := fun _ H' => Q .non H', rt := Q } (start ["tree", "found", "waiting", "path", "bottom", "here", "answer", "below"] vs) H := by
  obtain ⟨v, t, rfl, hv, ok, hm4, hm1, q⟩ := h
  refine ⟨by show 0 ≤ sizeLine; decide, fun f hf => ?_⟩
  refine ⟨by show 0 ≤ sizeLine; decide, fun e he => ?_⟩
  refine ⟨_, rfl, by show 3 ≤ sizeLine; decide, fun u hu => ?_⟩
  refine ⟨by show 1 ≤ sizeLine; decide, fun w hw => ?_⟩
  have f1 : upd H f (.lst []) f = some (.lst []) := upd_same
  have fe : f ≠ e := ne_of_none f1 he
  have e1 : upd (upd H f (.lst [])) e (.tup []) e = some (.tup []) := upd_same
  have f2 : upd (upd H f (.lst [])) e (.tup []) f = some (.lst []) := by rw [upd_ne fe]; exact f1
  have eu : e ≠ u := ne_of_none e1 hu
  have fu : f ≠ u := ne_of_none f2 hu
  have u1 : upd (upd (upd H f (.lst [])) e (.tup [])) u (.tup [.ref e, .int 1, v]) u = some (.tup [.ref e, .int 1, v]) := upd_same
  have f3 : upd (upd (upd H f (.lst [])) e (.tup [])) u (.tup [.ref e, .int 1, v]) f = some (.lst []) := by rw [upd_ne fu]; exact f2
  have e2 : upd (upd (upd H f (.lst [])) e (.tup [])) u (.tup [.ref e, .int 1, v]) e = some (.tup []) := by rw [upd_ne eu]; exact e1
  have fw : f ≠ w := ne_of_none f3 hw
  have uw : u ≠ w := ne_of_none u1 hw
  have ew : e ≠ w := ne_of_none e2 hw
  have kf : Kp [] H (upd H f (.lst [])) := Kp.new hf
  have ke : Kp [] (upd H f (.lst [])) (upd (upd H f (.lst [])) e (.tup [])) := Kp.new he
  have ku : Kp [] (upd (upd H f (.lst [])) e (.tup [])) (upd (upd (upd H f (.lst [])) e (.tup [])) u (.tup [.ref e, .int 1, v])) := Kp.new hu
  have kw : Kp [] (upd (upd (upd H f (.lst [])) e (.tup [])) u (.tup [.ref e, .int 1, v])) (upd (upd (upd (upd H f (.lst [])) e (.tup [])) u (.tup [.ref e, .int 1, v])) w (.lst [.ref u])) := Kp.new hw
  have k3 := (kf.trans ke).trans ku
  have k4 := k3.trans kw
  have w0 : H w = none := k3.free hw
  have start0 : WlInv m t H v f w [] [⟨[], 1, t⟩] [some v, some (.ref f), some (.ref w), none, none, none, none, none] (upd (upd (upd (upd H f (.lst [])) e (.tup [])) u (.tup [.ref e, .int 1, v])) w (.lst [.ref u])) := by
    refine ⟨⟨_, _, _, _, _, rfl⟩, k4, hf, w0, fw, ⟨_, by rw [upd_ne fw]; exact f3, .nil⟩, ⟨_, upd_same, ?_⟩, ?_, ?_, by show 1 ≤ 5000; decide⟩
    · have dv : DX [f, w] H v t.toD := (hv.fresh w0).fresh hf
      refine .one (.tup ?_ (by rw [upd_ne uw]; exact u1) (.cons (.tup ?_ (by rw [upd_ne ew]; exact e2) .nil) (.cons (.int 1) (.cons (dv.mono k4.any) .nil))))
      · exact fun z => by rcases List.mem_cons.mp z with z | z; exact fu z.symm; exact uw (List.mem_singleton.mp z)
      · exact fun z => by rcases List.mem_cons.mp z with z | z; exact fe z.symm; exact ew (List.mem_singleton.mp z)
    · show [] ++ (Tr.lv t [] 1 ++ []) = _
      rw [List.append_nil, List.nil_append]
    · intro e he
      rw [List.mem_singleton.mp he]
      exact ⟨6, ok, by show 0 + 6 ≤ 6; decide⟩
  -- the while
  refine ⟨fun k σ Hc => ∃ fnd stk, WlInv m t H v f w fnd stk σ Hc ∧ k = pile stk, ⟨_, _, _, start0, rfl⟩, ?_⟩
  rintro k σ Hc ⟨fnd, stk, I, rfl⟩
  obtain ⟨⟨s3, s4, s5, s6, s7, rfl⟩, kp, _, _, _, ⟨xs, hxf, dxs⟩, ⟨ys, hyw, dys⟩, eq, oks, few⟩ := I
  refine ⟨_, rfl, _, _, rfl, .inl ⟨_, SqL.of hyw, rfl⟩, _, _, rfl, rfl, _, rfl, ?_⟩
  cases stk with
  | nil =>
    cases dys
    refine iteF ?_
    refine ⟨_, rfl, ?_⟩
    refine q f Hc xs hf kp hxf ?_
    have eq' : fnd = t.lv [] 1 := by rw [← eq]; exact (List.append_nil fnd).symm
    rw [← eq']
    exact dxs.less fun b hb => by rw [List.mem_singleton.mp hb]; exact mem_f
  | cons en stk =>
    rw [List.map_cons, List.reverse_cons] at dys
    have hne : 0 < ys.length := by rw [dys.len, List.length_append, List.length_singleton]; omega
    refine ite2 (fun _ => ?_) (fun c => (c (decide_eq_true (show (0 : Int) < (ys.length : Int) by omega))).elim)
    refine ⟨fun σ' H' => ∃ fnd' stk', WlInv m t H v f w fnd' stk' σ' H' ∧ pile stk' < pile (en :: stk), fun σ' H' ⟨a, b, c, d⟩ => ⟨_, d, a, b, c, rfl⟩, ?_⟩
    obtain ⟨x, hx⟩ : ∃ x, ys[ys.length - 1]? = some x := ⟨ys[ys.length - 1], List.getElem?_eq_getElem (by omega)⟩
    obtain ⟨z, hz, dz⟩ := dys.lastD hx
    rw [last_snoc] at hz
    cases hz
    have dinit := dys.init
    rw [List.dropLast_concat] at dinit
    -- path, bottom, here = waiting.pop()
    cases dz with
    | @tup up uxs _ un uh ud =>
    cases ud with
    | cons d1 ud =>
    cases ud with
    | cons d2 ud =>
    cases ud with
    | cons d3 ud =>
    cases ud with
    | nil =>
    cases d2
    cases d1 with
    | @tup pa pxs _ pn ph pd =>
    have uw' : up ≠ w := fun z => un (by rw [z]; exact mem_w)
    have kpop : Kp [f, w] Hc (upd Hc w (.lst ys.dropLast)) := Kp.mut mem_w
    have hxf' : upd Hc w (.lst ys.dropLast) f = some (.lst xs) := by rw [upd_ne fw]; exact hxf
    obtain ⟨n, okn, hn⟩ := oks en List.mem_cons_self
    have oks' : ∀ e ∈ stk, ∃ n, e.t.Ok m n ∧ e.path.length + n ≤ 6 := fun e he => oks e (List.mem_cons_of_mem _ he)
    refine ⟨_, rfl, .inl ⟨rfl, _, SqL.of hyw⟩, w, ys, _, rfl, rfl, hyw, hx, ?_⟩
    refine ⟨up, _, rfl, SqT.of (by rw [upd_ne uw']; exact uh), rfl, _, _, rfl, _, _, rfl, _, _, rfl, rfl, ?_⟩
    obtain ⟨pth, bot, tr⟩ := en
    have few' : stk.length + 1 ≤ 5000 := few
    cases tr with
    | leaf lvv =>
      cases d3 with
      | @tup ha hxs _ hn3 hh hd =>
      cases hd with
      | cons g1 hd =>
      cases hd with
      | @cons gv _ _ _ g2 hd =>
      cases hd with
      | nil =>
      cases g1
      have haw : ha ≠ w := fun z => hn3 (by rw [z]; exact mem_w)
      have hh' := kpop _ _ hn3 hh
      refine ⟨_, rfl, _, _, _, _, rfl, rfl, SqT.of hh', rfl, rfl, _, rfl, ?_⟩
      rw [decide_eq_true (rfl : V.str ("leaf" : Str) = V.str ("leaf" : Str))]
      refine iteT ?_
      refine ⟨_, rfl, .inl ⟨rfl, _, SqL.of hxf'⟩, _, rfl, _, rfl, _, _, _, _, rfl, rfl, SqT.of hh', rfl, _, rfl, by show 3 ≤ sizeLine; decide, fun r hr => ?_⟩
      have fr : f ≠ r := ne_of_none hxf' hr
      have hyw1 : upd Hc w (.lst ys.dropLast) w = some (.lst ys.dropLast) := upd_same
      have wr : w ≠ r := ne_of_none hyw1 hr
      have hxf2 : upd (upd Hc w (.lst ys.dropLast)) r (.tup [.ref pa, gv, .int bot]) f = some (.lst xs) := by rw [upd_ne fr]; exact hxf'
      have hfl : fnd.length ≤ 5000 := by
        have e := congrArg List.length eq
        rw [List.length_append] at e
        have l := (Tr.lv_len hm1 6 t [] 1 ok).1
        have l2 : m ^ 6 ≤ 4 ^ 6 := Nat.pow_le_pow_left hm4 6
        have l3 : (4 : Nat) ^ 6 = 4096 := by decide
        omega
      refine ⟨f, xs, _, rfl, rfl, hxf2, szl (by rw [dxs.len, List.length_map]; omega), ?_⟩
      have kr : Kp [f, w] (upd Hc w (.lst ys.dropLast)) (upd (upd Hc w (.lst ys.dropLast)) r (.tup [.ref pa, gv, .int bot])) := Kp.new hr
      have kf2 : Kp [f, w] (upd (upd Hc w (.lst ys.dropLast)) r (.tup [.ref pa, gv, .int bot])) (upd (upd (upd Hc w (.lst ys.dropLast)) r (.tup [.ref pa, gv, .int bot])) f (.lst (xs ++ [.ref r]))) := Kp.mut mem_f
      have kall := (kpop.trans kr).trans kf2
      have dr : DX [f, w] (upd (upd Hc w (.lst ys.dropLast)) r (.tup [.ref pa, gv, .int bot])) (.ref r) (Lf.toD ⟨pth, lvv, bot⟩) :=
        DX.newT (.cons (DX.mono kpop (.tup pn ph pd)) (.cons (g2.mono kpop) (.cons (.int bot) .nil))) hr (nin2 hxf' hyw1 hr)
      refine ⟨fnd ++ [⟨pth, lvv, bot⟩], stk, ⟨⟨_, _, _, _, _, rfl⟩, kp.two kall hf w0, hf, w0, fw, ⟨_, upd_same, ?_⟩, ⟨ys.dropLast, ?_, dinit.mono kall⟩, ?_, oks', by omega⟩, ?_⟩
      · rw [List.map_append]
        exact (dxs.mono kall).app (.one (dr.mono kf2))
      · rw [upd_ne fw.symm, upd_ne wr]; exact hyw1
      · rw [← eq, List.append_assoc]
        rfl
      · show pile stk < 1 + pile stk
        omega
    | look pl rows =>
      cases n with
      | zero => rw [Tr.Ok] at okn; exact okn.elim
      | succ n =>
      rw [Tr.Ok] at okn
      obtain ⟨hpl, hr1, hr2, hrok⟩ := okn
      cases d3 with
      | @tup ha hxs _ hn3 hh hd =>
      cases hd with
      | cons g1 hd =>
      cases hd with
      | @cons gv _ _ _ g2 hd =>
      cases hd with
      | cons g3 hd =>
      cases hd with
      | nil =>
      cases g1
      cases g3 with
      | @tup ra rxs _ rn3 rh rd =>
      have haw : ha ≠ w := fun z => hn3 (by rw [z]; exact mem_w)
      have raw' : ra ≠ w := fun z => rn3 (by rw [z]; exact mem_w)
      have hh' := kpop _ _ hn3 hh
      have rh' : upd Hc w (.lst ys.dropLast) ra = some (.tup rxs) := by rw [upd_ne raw']; exact rh
      have hyw1 : upd Hc w (.lst ys.dropLast) w = some (.lst ys.dropLast) := upd_same
      refine ⟨_, rfl, _, _, _, _, rfl, rfl, SqT.of hh', rfl, rfl, _, rfl, ?_⟩
      rw [decide_eq_false str_leaf_look]
      refine iteF ?_
      -- for answer, below in reversed(list(here[2]))
      refine ⟨_, rfl, _, _, _, _, rfl, rfl, SqT.of hh', rfl, _, _, rfl, .inr (SqT.of rh'), fun l hl => ?_⟩
      have l1 : upd (upd Hc w (.lst ys.dropLast)) l (.lst rxs) l = some (.lst rxs) := upd_same
      have wl : w ≠ l := ne_of_none hyw1 hl
      have fl : f ≠ l := ne_of_none hxf' hl
      have kl : Kp [f, w] Hc (upd (upd Hc w (.lst ys.dropLast)) l (.lst rxs)) := kpop.trans (Kp.new hl)
      have rlen : rxs.length = rows.length := by rw [rd.len, rowsD_len]
      have hwl : upd (upd Hc w (.lst ys.dropLast)) l (.lst rxs) w = some (.lst ys.dropLast) := by rw [upd_ne wl]; exact hyw1
      have hfl : upd (upd Hc w (.lst ys.dropLast)) l (.lst rxs) f = some (.lst xs) := by rw [upd_ne fl]; exact hxf'
      have ln : l ∉ [f, w] := fun z => by rcases List.mem_cons.mp z with z | z; exact fl z.symm; exact wl (List.mem_singleton.mp z).symm
      refine ⟨l, rxs, rfl, .inl ⟨SqL.of l1, ?_⟩⟩
      generalize upd (upd Hc w (.lst ys.dropLast)) l (.lst rxs) = Hl at l1 kl hwl hfl
      refine for_it walk_rev (fun i σ' H' => ∃ s6 s7, σ' = [some v, some (.ref f), some (.ref w), some (.ref pa), some (.int bot), some (.ref ha), s6, s7] ∧ Kp [f, w] Hl H' ∧ H' f = some (.lst xs) ∧
          (∃ ys', H' w = some (.lst ys') ∧ DXs [f, w] H' ys' ((ents pl pth (bot * rows.length) (rows.drop (rows.length - i)) ++ stk).map En.toD).reverse)) ?_ ?_ ?_ ?_
      · refine ⟨_, _, rfl, Kp.refl, hfl, ys.dropLast, hwl, ?_⟩
        rw [Nat.sub_zero, List.drop_length]
        exact dinit.mono kl
      · rintro i σ' H' _ ⟨s6', s7', rfl, k', hf', ys', hy', dy'⟩
        exact SqL.of (k' _ _ ln l1)
      · rintro i x σ' H1 H2 hi ⟨s6', s7', rfl, k', hf', ys', hy', dy'⟩ ⟨rfl, ex⟩
        obtain ⟨d, ed, dx⟩ := rd.get ex
        rw [rlen] at hi ed
        have hlt : rows.length - 1 - i < rows.length := by omega
        obtain ⟨⟨ai, ti⟩, er⟩ : ∃ r, rows[rows.length - 1 - i]? = some r := ⟨_, List.getElem?_eq_getElem hlt⟩
        rw [rowsD_get er] at ed
        cases ed
        have ktot := kl.trans k'
        cases dx with
        | @tup ta txs _ tn th td =>
        cases td with
        | cons t1 td =>
        cases td with
        | @cons tv _ _ _ t2 td =>
        cases td with
        | nil =>
        cases t1
        have th' := ktot _ _ tn th
        have hh2 := ktot _ _ hn3 hh
        have rh2 := ktot _ _ rn3 rh
        have ph2 := ktot _ _ pn ph
        have pd2 := pd.mono ktot
        have g22 := g2.mono ktot
        have t22 := t2.mono ktot
        refine ⟨ta, _, rfl, SqT.of th', rfl, _, _, rfl, _, _, rfl, rfl, ?_⟩
        refine ⟨_, rfl, .inl ⟨rfl, _, SqL.of hy'⟩, ?_⟩
        -- path + ((here[1], answer),)
        refine ⟨_, rfl, _, rfl, _, _, _, _, rfl, rfl, SqT.of hh2, rfl, _, rfl, by show 2 ≤ sizeLine; decide, fun b1 hb1 => ?_⟩
        have q1 : DX [f, w] (upd H2 b1 (.tup [gv, .int ai])) (.ref b1) (stp pl ai) := DX.newT (.cons g22 (.cons (.int ai) .nil)) hb1 (nin2 hf' hy' hb1)
        have kb1 : Kp [] H2 (upd H2 b1 (.tup [gv, .int ai])) := Kp.new hb1
        generalize upd H2 b1 (.tup [gv, .int ai]) = H3 at q1 kb1
        refine ⟨by show 1 ≤ sizeLine; decide, fun b2 hb2 => ?_⟩
        have nb2 := nin2 (kb1 _ _ (fun z => nomatch z) hf') (kb1 _ _ (fun z => nomatch z) hy') hb2
        have e2 : upd H3 b2 (.tup [.ref b1]) b2 = some (.tup [.ref b1]) := upd_same
        have kb2 : Kp [] H2 (upd H3 b2 (.tup [.ref b1])) := kb1.trans (Kp.new hb2)
        have q2 : DX [f, w] (upd H3 b2 (.tup [.ref b1])) (.ref b1) (stp pl ai) := q1.mono (Kp.new hb2)
        generalize upd H3 b2 (.tup [.ref b1]) = H4 at e2 kb2 q2
        have plen : pth.length ≤ 6 := by
          have hn' : pth.length + (n + 1) ≤ 6 := hn
          omega
        refine cat_path (ex := [f, w]) (kb2 _ _ (fun z => nomatch z) ph2) pn (pd2.mono kb2.any) e2 nb2 (.one q2) (by show pth.length + 1 ≤ 100000; omega) (fun r hr => nin2 (kb2 _ _ (fun z => nomatch z) hf') (kb2 _ _ (fun z => nomatch z) hy') hr) fun r H5 k5 dr => ?_
        have k25 := kb2.trans k5
        refine ⟨_, rfl, _, rfl, _, _, _, _, rfl, rfl, SqT.of (k25 _ _ (fun z => nomatch z) hh2), rfl, _, _, rfl, .inr ⟨_, SqT.of (k25 _ _ (fun z => nomatch z) rh2), rfl⟩, _, _, rfl, rfl, ?_, _, rfl, by show 3 ≤ sizeLine; decide, fun c hc => ?_⟩
        · exact .inr ⟨by omega, by
            have e64 : (2 : Int) ^ 64 = 18446744073709551616 := by decide
            rw [e64, rlen]; omega⟩
        have hf5 := k25 _ _ (fun z => nomatch z) hf'
        have hy5 := k25 _ _ (fun z => nomatch z) hy'
        have cf : f ≠ c := ne_of_none hf5 hc
        have cw : w ≠ c := ne_of_none hy5 hc
        have kc : Kp [f, w] H2 (upd H5 c (.tup [.ref r, .int (bot * (rxs.length : Int)), tv])) := k25.any.trans (Kp.new hc)
        have dc : DX [f, w] (upd H5 c (.tup [.ref r, .int (bot * (rxs.length : Int)), tv])) (.ref c) (En.toD ⟨pth ++ [stp pl ai], bot * (rows.length : Int), ti⟩) := by
          rw [← rlen]
          exact DX.newT (.cons dr (.cons (.int _) (.cons (t22.mono k25.any) .nil))) hc (nin2 hf5 hy5 hc)
        have hfc : upd H5 c (.tup [.ref r, .int (bot * (rxs.length : Int)), tv]) f = some (.lst xs) := by rw [upd_ne cf]; exact hf5
        have hyc : upd H5 c (.tup [.ref r, .int (bot * (rxs.length : Int)), tv]) w = some (.lst ys') := by rw [upd_ne cw]; exact hy5
        refine ⟨w, ys', _, rfl, rfl, hyc, szl ?_, ?_⟩
        · rw [dy'.len, List.length_reverse, List.length_map, List.length_append, ents, List.length_map, List.length_drop]
          omega
        generalize upd H5 c (.tup [.ref r, .int (bot * (rxs.length : Int)), tv]) = H6 at kc dc hfc hyc
        have kw6 : Kp [f, w] H6 (upd H6 w (.lst (ys' ++ [.ref c]))) := Kp.mut mem_w
        refine ⟨_, _, rfl, (k'.trans kc).trans kw6, by rw [upd_ne fw]; exact hfc, _, upd_same, ?_⟩
        have ed : rows.drop (rows.length - (i + 1)) = (ai, ti) :: rows.drop (rows.length - i) := by
          have e1 : rows.length - (i + 1) = rows.length - 1 - i := by omega
          have e2 : rows.length - i = rows.length - 1 - i + 1 := by omega
          rw [e1, e2]
          rw [List.getElem?_eq_getElem hlt] at er
          have er2 := Option.some.inj er
          rw [List.drop_eq_getElem_cons hlt, er2]
        rw [ed]
        show DXs [f, w] _ _ ((⟨pth ++ [stp pl ai], bot * (rows.length : Int), ti⟩ :: (ents pl pth (bot * rows.length) (rows.drop (rows.length - i)) ++ stk)).map En.toD).reverse
        rw [List.map_cons, List.reverse_cons]
        exact ((dy'.mono kc).mono kw6).app (.one (dc.mono kw6))
      · rintro σ' H' ⟨s6', s7', rfl, k', hf', ys', hy', dy'⟩
        have ktot := kl.trans k'
        rw [rlen, Nat.sub_self, List.drop_zero] at dy'
        have feq : fnd ++ flat (ents pl pth (bot * rows.length) rows ++ stk) = t.lv [] 1 := by
          rw [flat_app, flat_ents, ← eq]
          show fnd ++ (lvs rows pl pth (bot * rows.length) ++ flat stk) = fnd ++ (Tr.lv (.look pl rows) pth bot ++ flat stk)
          rw [Tr.lv]
        have fok : ∀ e ∈ ents pl pth (bot * rows.length) rows ++ stk, ∃ n, e.t.Ok m n ∧ e.path.length + n ≤ 6 := by
          intro e he
          rcases List.mem_append.mp he with he | he
          · obtain ⟨⟨a, u⟩, hm, rfl⟩ := List.mem_map.mp he
            obtain ⟨i, hi⟩ := List.getElem?_of_mem hm
            have hn' : pth.length + (n + 1) ≤ 6 := hn
            exact ⟨n, hrok.get hi, by show (pth ++ [stp pl a]).length + n ≤ 6; rw [List.length_append, List.length_singleton]; omega⟩
          · exact oks' e he
        refine ⟨fnd, ents pl pth (bot * rows.length) rows ++ stk, ⟨⟨_, _, _, _, _, rfl⟩, kp.two ktot hf w0, hf, w0, fw, ⟨xs, hf', dxs.mono ktot⟩, ⟨ys', hy', dy'⟩, feq, fok, ?_⟩, ?_⟩
        · have z1 := flat_few hm1 fok
          have z2 := congrArg List.length feq
          rw [List.length_append] at z2
          have l := (Tr.lv_len hm1 6 t [] 1 ok).1
          have l2 : m ^ 6 ≤ 4 ^ 6 := Nat.pow_le_pow_left hm4 6
          have l3 : (4 : Nat) ^ 6 = 4096 := by decide
          omega
        · rw [pile_app, pile_ents]
          show sizes rows + pile stk < Tr.size (.look pl rows) + pile stk
          rw [Tr.size]
          omega
end FL

/-! ## Lit: what makes plain new data -/
namespace FL
open PySem L2
def Trk (ex : List Addr) (H : Hp) : Prop := ∀ b ∈ ex, ∃ o, H b = some o
theorem Trk.nil {H : Hp} : Trk [] H := fun _ h => nomatch h
theorem Trk.keep {ex : List Addr} {H H' : Hp} (t : Trk ex H) (k : Kp [] H H') : Trk ex H' := fun b hb => by
  obtain ⟨o, e⟩ := t b hb
  exact ⟨o, k b o (fun z => nomatch z) e⟩
theorem Trk.nin {ex : List Addr} {H : Hp} (t : Trk ex H) {p : Addr} (h : H p = none) : p ∉ ex := nin_none h t
/-- te makes the data d, nothing else happens -/
def EvX (ex : List Addr) (te : TE) (σ : L2.St) (H : Hp) (d : PyData) : Prop := ∀ H1, Kp [] H H1 → ∀ Q : VK, (∀ v H2, Kp [] H1 H2 → DX ex H2 v d → Q v H2) → te σ H1 Q
def EvXs (ex : List Addr) (ta : TA) (σ : L2.St) (H : Hp) (ds : List PyData) : Prop := ∀ H1, Kp [] H H1 → ∀ Q : List V → Hp → Prop, (∀ vs H2, Kp [] H1 H2 → DXs ex H2 vs ds → Q vs H2) → ta σ H1 Q
section
variable {ex : List Addr} {σ : L2.St} {H : Hp}
theorem evx_int {i : Int} : EvX ex (tC (.int i)) σ H (.int i) := fun H1 _ _ q => q _ H1 Kp.refl (.int i)
theorem evx_str {x : Str} : EvX ex (tC (.str x)) σ H (.str x) := fun H1 _ _ q => q _ H1 Kp.refl (.str x)
theorem evx_bl {b : Bool} : EvX ex (tC (.bl b)) σ H (.bool b) := fun H1 _ _ q => q _ H1 Kp.refl (.bl b)
theorem evx_non : EvX ex (tC .non) σ H .none := fun H1 _ _ q => q _ H1 Kp.refl .non
theorem evx_pow {i j : Int} (h : CPow i j) : EvX ex (tOp (rI CPow fun i j => .int (i ^ j.toNat)) (tC (.int i)) (tC (.int j))) σ H (.int (i ^ j.toNat)) := fun H1 _ _ q => ⟨i, j, rfl, rfl, h, q _ H1 Kp.refl (.int _)⟩
theorem evx_sub {i j : Int} : EvX ex (tOp (rI0 fun i j => .int (i - j)) (tC (.int i)) (tC (.int j))) σ H (.int (i - j)) := fun H1 _ _ q => ⟨i, j, rfl, rfl, q _ H1 Kp.refl (.int _)⟩
theorem evx_var {i : Nat} {v : V} {d : PyData} (h : σ[i]? = some (some v)) (hd : DX ex H v d) : EvX ex (tVar i) σ H d := fun H1 k _ q => ⟨v, h, q _ H1 Kp.refl (hd.mono (k.any))⟩
theorem evx_nil : EvXs ex tNil σ H [] := fun H1 _ _ q => q _ H1 Kp.refl .nil
theorem evx_cons {te : TE} {ta : TA} {d : PyData} {ds : List PyData} (h : EvX ex te σ H d) (hs : EvXs ex ta σ H ds) : EvXs ex (tCons te ta) σ H (d :: ds) := fun H1 k _ q =>
  h H1 k _ fun v H2 k2 dv => hs H2 (k.trans k2) _ fun vs H3 k3 dvs => q _ H3 (k2.trans k3) (.cons (dv.mono k3.any) dvs)
theorem evx_tup {ta : TA} {ds : List PyData} (t : Trk ex H) (h : EvXs ex ta σ H ds) (hl : ds.length ≤ 100000 := by exact Nat.le_of_ble_eq_true rfl) : EvX ex (tTup ta) σ H (.tuple ds) := fun H1 k _ q =>
  h H1 k _ fun vs H2 k2 dvs => ⟨by rw [dvs.len]; exact sz hl, fun p hp => q _ _ (k2.trans (Kp.new hp)) (DX.newT dvs hp ((t.keep (k.trans k2)).nin hp))⟩
theorem evx_lst {ta : TA} {ds : List PyData} (t : Trk ex H) (h : EvXs ex ta σ H ds) (hl : ds.length ≤ 100000 := by exact Nat.le_of_ble_eq_true rfl) : EvX ex (tLst ta) σ H (.list ds) := fun H1 k _ q =>
  h H1 k _ fun vs H2 k2 dvs => ⟨by rw [dvs.len]; exact sz hl, fun p hp => q _ _ (k2.trans (Kp.new hp)) (DX.newL dvs hp ((t.keep (k.trans k2)).nin hp))⟩
theorem EvX.to {te : TE} {d : PyData} (h : EvX ex te σ H d) (Q : VK) (q : ∀ v H2, Kp [] H H2 → DX ex H2 v d → Q v H2) : te σ H Q := h H Kp.refl Q q
theorem st_g {i : Nat} {v : V} {Q : L2.St → Hp → Prop} (h : Q (σ.set i (some v)) H) : gName i v σ H Q := h
theorem tseq {t u : TS} {D : Ends} (h : t { D with nx := u D } σ H) : tSeq t u D σ H := h
theorem tasg {te : TE} {g : TG} {D : Ends} (h : te σ H fun x H1 => g x σ H1 D.nx) : tAsg te g D σ H := h
theorem tret {te : TE} {D : Ends} (h : te σ H D.rt) : tRet te D σ H := h
theorem tdrop {te : TE} {D : Ends} (h : te σ H fun _ H1 => D.nx σ H1) : tDrop te D σ H := h
theorem tifs {c : TT} {t u : TS} {D : Ends} (h : c σ H fun b H1 => if b = true then t D σ H1 else u D σ H1) : tIfS c t u D σ H := h
theorem tforL {K : PySem.W.Frag} {tl : TE} {g : TG} {tb : TS} {D : Ends} (h : tl σ H fun x H1 => ∃ a, x = .ref a ∧ (∃ xs, SqL K H1 a xs) ∧ ∃ W : Nat → Nat → L2.St → Hp → Prop, (∃ m, W 0 m σ H1) ∧ ∀ i m σ H, W i m σ H →
      ((Itl K a).stop i H ∧ D.nx σ H) ∨ ((Itl K a).go i H ∧ ∃ N : L2.St → Hp → Prop, (∀ σ' H', N σ' H' → ∃ m', m' < m ∧ W (i + 1) m' σ' H') ∧ ∀ x H', (Itl K a).yld i H x H' → g x σ H' fun σ2 H2 => tb { D with nx := N, ct := N, bk := D.nx } σ2 H2)) :
    tFor (iList K tl) g tb D σ H := h
theorem tcall {sp : Sp} {E : XK} {t : TA} {Q : VK} (h : t σ H fun vs H1 => sp (vs ++ []) H1 Q E) : tCall sp [] E t σ H Q := h
theorem tcallK {sp : Sp} {gV : List V → List V → List V} {E : XK} {tk : TA} {Q : VK} (h : tk σ H fun zs H2 => sp (gV [] zs) H2 Q E) : tCallK sp gV E tNil tk σ H Q := h
theorem tnotb {te : TE} {Q : Bool → Hp → Prop} (h : te σ H fun x H1 => ∃ c, x = .bl c ∧ Q (!c) H1) : tNot (tB te) σ H Q := h
theorem ttup {t : TA} {Q : VK} (h : t σ H fun xs H1 => xs.length ≤ sizeLine ∧ ∀ p, H1 p = none → Q (.ref p) (upd H1 p (.tup xs))) : tTup t σ H Q := h
theorem tlst {t : TA} {Q : VK} (h : t σ H fun xs H1 => xs.length ≤ sizeLine ∧ ∀ p, H1 p = none → Q (.ref p) (upd H1 p (.lst xs))) : tLst t σ H Q := h
theorem tcons {te : TE} {tr : TA} {Q : List V → Hp → Prop} (h : te σ H fun x H1 => tr σ H1 fun xs H2 => Q (x :: xs) H2) : tCons te tr σ H Q := h
theorem tcons_c {v : V} {tr : TA} {Q : List V → Hp → Prop} (h : tr σ H fun xs H2 => Q (v :: xs) H2) : tCons (tC v) tr σ H Q := h
theorem tcons_x {te : TE} {tr : TA} {d : PyData} {Q : List V → Hp → Prop} (h : EvX ex te σ H d) (q : ∀ v H2, Kp [] H H2 → DX ex H2 v d → tr σ H2 fun xs H3 => Q (v :: xs) H3) : tCons te tr σ H Q := h H Kp.refl _ q
end
theorem Dr.trk {a : Addr} {n : Nat} {H : Hp} (h : Dr a n H) : Trk [a] H := fun b hb => by
  rw [List.mem_singleton.mp hb]
  obtain ⟨x, y, z, e, _⟩ := h
  exact ⟨_, e⟩
theorem Trk.keepD {ex : List Addr} {a : Addr} {n : Nat} {H H' : Hp} (t : Trk ex H) (k : Kp [a] H H') (D : Dr a n H') : Trk ex H' := fun b hb => by
  by_cases e : b = a
  · rw [e]; exact D.trk a (List.mem_singleton.mpr rfl)
  · obtain ⟨o, z⟩ := t b hb
    exact ⟨o, k b o (nin1 e) z⟩
theorem Kp.ex1 {ex : List Addr} {a : Addr} {H H' : Hp} (k : Kp [a] H H') (h : a ∈ ex) : Kp ex H H' := k.mono fun b hb => by rw [List.mem_singleton.mp hb]; exact h
/-- one of a written list's items -/
theorem pick_lit {ex : List Addr} {a : Addr} {n i : Nat} {σ : L2.St} {H : Hp} {Q : VK} {te : TE} {ds : List PyData} (ha : a ∈ ex) (hv : σ[i]? = some (some (.ref a))) (D : Dr a n H) (hn : n ≤ 2 ^ 40) (h : EvX ex te σ H (.list ds)) (h1 : 1 ≤ ds.length) (h2 : ds.length ≤ 1000)
    (q : ∀ v d H', d ∈ ds → DX ex H' v d → Kp [a] H H' → Dr a (n + 1) H' → Q v H') : tCall spPick [] E0 (tCons (tVar i) (tCons te tNil)) σ H Q := by
  refine ⟨_, hv, ?_⟩
  refine h H Kp.refl _ fun v H2 k2 dv => ?_
  cases dv with
  | @lst s xs _ sn sh sd =>
  refine ⟨a, s, xs, n, rfl, sh, fun z => sn (by rw [z]; exact ha), by rw [sd.len]; exact h1, by rw [sd.len]; exact h2, D.keep k2, hn, fun w H3 hw k3 D3 => ?_⟩
  obtain ⟨j, hj⟩ := List.getElem?_of_mem hw
  obtain ⟨d, ed, dd⟩ := sd.get hj
  exact q w d H3 (List.mem_of_getElem? ed) (dd.mono (k3.ex1 ha)) (k2.any.trans k3) D3
mutual
def szB : Nat → PyData → Bool
  | 0, _ => false
  | _ + 1, .none => true
  | _ + 1, .bool _ => true
  | _ + 1, .int _ => true
  | _ + 1, .str _ => true
  | n + 1, .list ds => decide (ds.length ≤ 100000) && szBs n ds
  | n + 1, .tuple ds => decide (ds.length ≤ 100000) && szBs n ds
  | _ + 1, .dict _ => false
def szBs : Nat → List PyData → Bool
  | _, [] => true
  | n, d :: r => szB n d && szBs n r
end
mutual
theorem szB_ok : ∀ (n : Nat) (d : PyData), szB n d = true → Sz n d
  | 0, _, h => by rw [szB] at h; cases h
  | n + 1, .none, _ => .non n
  | n + 1, .bool b, _ => .bl n b
  | n + 1, .int i, _ => .int n i
  | n + 1, .str x, _ => .str n x
  | n + 1, .list ds, h => by
    rw [szB, Bool.and_eq_true] at h
    exact .lst (of_decide_eq_true h.1) (szBs_ok n ds h.2)
  | n + 1, .tuple ds, h => by
    rw [szB, Bool.and_eq_true] at h
    exact .tup (of_decide_eq_true h.1) (szBs_ok n ds h.2)
  | n + 1, .dict _, h => by rw [szB] at h; cases h
theorem szBs_ok : ∀ (n : Nat) (ds : List PyData), szBs n ds = true → ∀ d ∈ ds, Sz n d
  | _, [], _ => fun d h => nomatch h
  | n, e :: r, h => by
    rw [szBs, Bool.and_eq_true] at h
    intro d hd
    rcases List.mem_cons.mp hd with z | hd
    · rw [z]; exact szB_ok n e h.1
    · exact szBs_ok n r h.2 d hd
end
end FL

/-! ## Kw: calls by keywords alone -/
namespace FL
open PySem PySem.Spec PyProof.Rows L2
theorem u65 {k : Nat} {A : Around} (r : Room k A) : A.units + 65 < cLine := by have := r.un; omega
/-- the keywords' values in the parameters' order -/
def gPerm {α : Type} (n : Nat) (perm : List Nat) (us ws : List α) : List α := if us.length = 0 ∧ ws.length = n then perm.filterMap (fun i => ws[i]?) else []
theorem gPerm_rel {n : Nat} {perm : List Nat} {vs : List V} {us : List Value} {zs : List V} {ws : List Value} (r : Vals vs us) (q : Vals zs ws) : Vals (gPerm n perm vs zs) (gPerm n perm us ws) := by
  unfold gPerm
  rw [r.length, q.length]
  by_cases h : us.length = 0 ∧ ws.length = n
  · rw [if_pos h, if_pos h]
    clear h
    induction perm with
    | nil => exact .nil
    | cons i perm ih =>
      cases e : zs[i]? with
      | none =>
        have e2 : ws[i]? = none := Vals.none_of q e
        rw [List.filterMap_cons_none (by exact e), List.filterMap_cons_none (by exact e2)]
        exact ih
      | some x =>
        obtain ⟨u, e2, rx⟩ := Vals.get q e
        rw [List.filterMap_cons_some (by exact e), List.filterMap_cons_some (by exact e2)]
        exact .cons rx ih
  · rw [if_neg h, if_neg h]
    exact .nil
theorem bindsK {K : PySem.W.Frag} {x qual : Str} {params : Arguments} {body : List Stmt} {scope : Scope} {f : Addr} {fd : FuncData} {ps ks : List Str} {n : Nat} {perm : List Nat} (F : FunD K x qual params body scope [] [] f fd) (hp : ps ≠ [])
    (h : ∀ (kV doc pm : Value) (an : Option Addr) (cdv ct : Value) (ws : List Value), ws.length = n → bindArgs (PySem.W.fnOf x qual params body scope .none kV doc pm an cdv ct) ⟨[], ks.zip ws⟩ = pure (ps.zip (gPerm n perm [] ws))) : KBinds K fd ps ks (gPerm n perm) (gPerm n perm) := by
  refine ⟨fun s us ws X hl => ?_, gPerm_rel⟩
  have hc : us.length = 0 ∧ ws.length = n := by
    by_cases c : us.length = 0 ∧ ws.length = n
    · exact c
    · unfold gPerm at hl
      rw [if_neg c] at hl
      exact absurd (List.length_eq_zero_iff.mp hl.symm) hp
  have e : us = [] := List.length_eq_zero_iff.mp hc.1
  subst e
  obtain ⟨oc, od, dV, kV, doc, pm, an, cdv, ct, osl, rfl, lk, hcd, hD, hK⟩ := F.ex
  rcases hD with ⟨_, rfl⟩ | ⟨e, _⟩
  · exact .of_eq (h kV doc pm an cdv ct ws hc.2)
  · exact absurd rfl e
/-- a def of the module that is called by keywords alone -/
structure ClK (P : Program) (w : World) (K : PySem.W.Frag) (mg : Str → Option Value) (base : Heap) (k : Nat) (x : Str) (n : Nat) (perm : List Nat) (ks : List Str) (sp : Sp) : Prop where
  ex : ∃ (f : Addr) (fd : FuncData) (ps : List Str), FnOk P w K mg base CX0 k f fd ps sp ∧ mg x = some (.ref f) ∧ PySem.W.keepIn K (.ref f) = true ∧ KBinds K fd ps ks (gPerm n perm) (gPerm n perm)
theorem pck {X : Cx} {k j : Nat} {x : Str} {sp : Sp} {n : Nat} {perm : List Nat} {ks : List Str} {kws : List Keyword} {tk : TA} {p pos : Pos} (c : ClK X.prog X.w X.K X.mg X.base k x n perm ks sp) (hr : Room j X.A) (hk : k ≤ j) (hg : Gl X x) (hkw : PK X kws tk)
    (hall : (backToKw pos (keywordEach kws X.env)).all (·.1.isSome) = true := by rfl) (hks : (backToKw pos (keywordEach kws X.env)).filterMap (·.1) = ks := by rfl) (hdb : (x == ("__debug__" : Str)) = false := by decide)
    (hpl : ((backTo pos (starEach [] X.env)).any (·.1) || (backToKw pos (keywordEach kws X.env)).any (·.1.isNone)) = false := by rfl) :
    PE X (.Call (.Name x p) [] kws pos) (tCallK sp (gPerm n perm) E0 tNil tk) := by
  obtain ⟨f, fd, ps, F, hm, kp, b⟩ := c.ex
  refine ⟨fun pins s σ H Q I h => ?_⟩
  refine wpAny_Call_Name_kw (ld_glob I hg hm ?_ hdb)
  refine PySem.W.callWith_KW0 (h₀ := X.base) I.ok.mod.kin kp hall ?_ hpl
  refine thn (hkw.run pos pins s σ H _ I h) fun ws s2 ⟨zs, H2, I2, rz, q2⟩ => ⟨I2.kIn, ?_⟩
  rw [hks]
  exact run_fnk (us := []) (vs := []) F (hr.mono hk) b pass0 I2 .nil rz q2
end FL

/-! ## Frac: fractions in lowest terms -/
namespace FL
open PySem L2
def lt (t b : Nat) : Nat × Nat := (t / Nat.gcd t b, b / Nat.gcd t b)
theorem lt_eq {t b t' b' : Nat} (hb : 0 < b) (hb' : 0 < b') (h : t * b' = t' * b) : lt t b = lt t' b' := by
  have g1 : 0 < Nat.gcd t b := Nat.gcd_pos_of_pos_right _ hb
  have g2 : 0 < Nat.gcd t' b' := Nat.gcd_pos_of_pos_right _ hb'
  have e1 : Nat.gcd (t * b') (b * b') = Nat.gcd t b * b' := Nat.gcd_mul_right _ _ _
  have e2 : Nat.gcd (t' * b) (b' * b) = Nat.gcd t' b' * b := Nat.gcd_mul_right _ _ _
  have e3 : Nat.gcd t b * b' = Nat.gcd t' b' * b := by
    rw [← e1, ← e2, h, Nat.mul_comm b b']
  obtain ⟨x, hx⟩ := Nat.gcd_dvd_right t b
  obtain ⟨y, hy⟩ := Nat.gcd_dvd_right t' b'
  obtain ⟨u, hu⟩ := Nat.gcd_dvd_left t b
  obtain ⟨v, hv⟩ := Nat.gcd_dvd_left t' b'
  have q1 : b / Nat.gcd t b = x := by
    have z := Nat.mul_div_cancel_left x g1
    rw [← hx] at z
    exact z
  have q2 : b' / Nat.gcd t' b' = y := by
    have z := Nat.mul_div_cancel_left y g2
    rw [← hy] at z
    exact z
  have q3 : t / Nat.gcd t b = u := by
    have z := Nat.mul_div_cancel_left u g1
    rw [← hu] at z
    exact z
  have q4 : t' / Nat.gcd t' b' = v := by
    have z := Nat.mul_div_cancel_left v g2
    rw [← hv] at z
    exact z
  have exy : x = y := by
    have z : Nat.gcd t b * (Nat.gcd t' b' * y) = Nat.gcd t' b' * (Nat.gcd t b * x) := by
      rw [← hy, ← hx]; exact e3
    have z2 : Nat.gcd t b * Nat.gcd t' b' * y = Nat.gcd t b * Nat.gcd t' b' * x := by
      rw [Nat.mul_assoc, z, ← Nat.mul_assoc, Nat.mul_comm (Nat.gcd t' b')]
    exact (Nat.eq_of_mul_eq_mul_left (Nat.mul_pos g1 g2) z2).symm
  have xpos : 0 < x := by
    rcases Nat.eq_zero_or_pos x with z | z
    · rw [z, Nat.mul_zero] at hx; omega
    · exact z
  have euv : u = v := by
    have z : (Nat.gcd t b * u) * (Nat.gcd t' b' * y) = (Nat.gcd t' b' * v) * (Nat.gcd t b * x) := by
      rw [← hu, ← hy, ← hv, ← hx]; exact h
    rw [← exy] at z
    have z2 : (Nat.gcd t b * Nat.gcd t' b' * x) * u = (Nat.gcd t b * Nat.gcd t' b' * x) * v := by
      have a1 : (Nat.gcd t b * u) * (Nat.gcd t' b' * x) = (Nat.gcd t b * Nat.gcd t' b' * x) * u := by
        rw [Nat.mul_assoc, Nat.mul_left_comm u, Nat.mul_comm u x, ← Nat.mul_assoc, ← Nat.mul_assoc]
      have a2 : (Nat.gcd t' b' * v) * (Nat.gcd t b * x) = (Nat.gcd t b * Nat.gcd t' b' * x) * v := by
        rw [Nat.mul_assoc, Nat.mul_left_comm v, Nat.mul_comm v x, ← Nat.mul_assoc, ← Nat.mul_assoc, Nat.mul_comm (Nat.gcd t' b')]
      rw [← a1, ← a2]; exact z
    exact Nat.eq_of_mul_eq_mul_left (Nat.mul_pos (Nat.mul_pos g1 g2) xpos) z2
  unfold lt
  rw [q1, q2, q3, q4, exy, euv]
/-- the fraction itself -/
theorem lt_cross (t b : Nat) : (lt t b).1 * b = t * (lt t b).2 := by
  obtain ⟨x, hx⟩ := Nat.gcd_dvd_right t b
  obtain ⟨u, hu⟩ := Nat.gcd_dvd_left t b
  by_cases g : Nat.gcd t b = 0
  · have e1 : t = 0 := by rw [g, Nat.zero_mul] at hu; exact hu
    have e2 : b = 0 := by rw [g, Nat.zero_mul] at hx; exact hx
    rw [e1, e2]; simp
  have g1 : 0 < Nat.gcd t b := Nat.pos_of_ne_zero g
  show t / Nat.gcd t b * b = t * (b / Nat.gcd t b)
  have q1 : b / Nat.gcd t b = x := by
    have z := Nat.mul_div_cancel_left x g1
    rw [← hx] at z
    exact z
  have q3 : t / Nat.gcd t b = u := by
    have z := Nat.mul_div_cancel_left u g1
    rw [← hu] at z
    exact z
  rw [q1, q3]
  calc u * b = u * (Nat.gcd t b * x) := by rw [← hx]
    _ = (Nat.gcd t b * u) * x := by rw [← Nat.mul_assoc, Nat.mul_comm u]
    _ = t * x := by rw [← hu]
theorem lt_dvd (t b : Nat) : (lt t b).2 ∣ b := Nat.div_dvd_of_dvd (Nat.gcd_dvd_right t b)
theorem lt_pos {t b : Nat} (h : 0 < b) : 0 < (lt t b).2 := Nat.div_pos (Nat.le_of_dvd h (Nat.gcd_dvd_right t b)) (Nat.gcd_pos_of_pos_right _ h)
def t_lowest_terms (K : PySem.W.Frag) : TS := (tSeq (tAsg (tCB (FL.rAbs) (tCons (tVar 0) tNil)) (gName 2))
  (tSeq (tAsg (tVar 1) (gName 3))
  (tSeq (tWhile (tTest (tOp (rI0 fun i j => .bl (decide (j < i))) (tVar 2) (tC (.int 0))))
  (tPar 2 3 (tCons (tOp (rI (fun _ j => 0 < j) fun i j => .int (i % j)) (tVar 3) (tVar 2)) (tCons (tVar 2) tNil))))
  (tRet (tTup (tCons (tOp (rI CDiv fun i j => .int (i / j)) (tVar 0) (tVar 3)) (tCons (tOp (rI CDiv fun i j => .int (i / j)) (tVar 1) (tVar 3)) tNil)))))))
def t_weight_total (K : PySem.W.Frag) (s_lowest_terms : Sp) : TS := (tSeq (tAsg (tC (.int 0)) (gName 1))
  (tSeq (tAsg (tC (.int 1)) (gName 2))
  (tSeq (tFor (iList K (tVar 0)) (gName 3)
  (tAsg (tCall s_lowest_terms [] E0 (tCons (tOp (rI0 fun i j => .int (i + j)) (tOp (rI CMul fun i j => .int (i * j)) (tVar 1) (tOp (rIxT K) (tVar 3) (tC (.int 1)))) (tOp (rI CMul fun i j => .int (i * j)) (tOp (rIxT K) (tVar 3) (tC (.int 0))) (tVar 2))) (tCons (tOp (rI CMul fun i j => .int (i * j)) (tVar 2) (tOp (rIxT K) (tVar 3) (tC (.int 1)))) tNil))) (gTup K 2 (gCons (gName 1) (gCons (gName 2) gNil)))))
  (tRet (tTup (tCons (tVar 1) (tCons (tVar 2) tNil)))))))
def fD (q : Nat × Nat) : PyData := .tuple [.int (q.1 : Int), .int (q.2 : Int)]
def spLow : Sp := fun vs H Q _ => ∃ (t b : Nat), vs = [.int (t : Int), .int (b : Int)] ∧ 1 ≤ b ∧ b < 1073741824 ∧
  ∀ (r : Addr) (H' : Hp), Kp [] H H' → H r = none → DX [] H' (.ref r) (fD (lt t b)) → Q (.ref r) H'
theorem low_test {i : Nat} {σ : L2.St} {H : Hp} {n : Nat} {Q : Bool → Hp → Prop} (h : σ[i]? = some (some (.int (n : Int)))) (q : Q (decide (0 < n)) H) : tTest (tOp (rI0 fun i j => .bl (decide (j < i))) (tVar i) (tC (.int 0))) σ H Q := by
  refine ⟨_, h, _, _, rfl, rfl, _, rfl, ?_⟩
  have e : decide ((0 : Int) < (n : Int)) = decide (0 < n) := by
    by_cases c : 0 < n
    · rw [decide_eq_true c, decide_eq_true (show (0 : Int) < (n : Int) by omega)]
    · rw [decide_eq_false c, decide_eq_false (show ¬ (0 : Int) < (n : Int) by omega)]
  rw [e]
  exact q
theorem pure_low {K : PySem.W.Frag} (vs : List V) (H : Hp) (Q : VK) (E : XK) (h : spLow vs H Q E) :
    t_lowest_terms K { nx := fun _ H' => Q .non H', rt := Q } (start ["top", "bottom", "low", "common"] vs) H := by
  obtain ⟨t, b, rfl, hb, hb2, q⟩ := h
  refine ⟨_, rfl, _, rfl, ?_⟩
  rw [if_neg (show ¬ (t : Int) < 0 by omega)]
  refine ⟨_, rfl, ?_⟩
  refine ⟨fun k σ Hc => ∃ lo co : Nat, σ = [some (.int (t : Int)), some (.int (b : Int)), some (.int (lo : Int)), some (.int (co : Int))] ∧ Hc = H ∧ Nat.gcd lo co = Nat.gcd t b ∧ k = lo, ⟨_, t, b, rfl, rfl, rfl, rfl⟩, ?_⟩
  rintro k σ Hc ⟨lo, co, rfl, rfl, hg, rfl⟩
  refine low_test rfl ?_
  refine ite2 (fun c => ?_) (fun c => ?_)
  · have c' : 0 < k := of_decide_eq_true c
    refine ⟨fun σ' H' => ∃ lo co : Nat, σ' = [some (.int (t : Int)), some (.int (b : Int)), some (.int (lo : Int)), some (.int (co : Int))] ∧ H' = Hc ∧ Nat.gcd lo co = Nat.gcd t b ∧ lo < k, fun σ' H' ⟨lo, co, a1, a2, a3, a4⟩ => ⟨_, a4, lo, co, a1, a2, a3, rfl⟩, ?_⟩
    refine ⟨_, rfl, _, rfl, _, _, rfl, rfl, (by show (0 : Int) < (k : Int); omega), _, rfl, _, _, rfl, ?_⟩
    refine ⟨co % k, k, rfl, rfl, ?_, Nat.mod_lt _ c'⟩
    rw [← Nat.gcd_rec]; exact hg
  · have c' : k = 0 := by
      have := c
      rcases Nat.eq_zero_or_pos k with z | z
      · exact z
      · exact absurd (decide_eq_true z) c
    subst c'
    rw [Nat.gcd_zero_left] at hg
    have gp : 0 < Nat.gcd t b := Nat.gcd_pos_of_pos_right _ (by omega)
    have gl : Nat.gcd t b ≤ b := Nat.le_of_dvd (by omega) (Nat.gcd_dvd_right t b)
    refine ⟨_, rfl, _, rfl, _, _, rfl, rfl, ⟨by omega, by omega⟩, _, rfl, _, rfl, _, _, rfl, rfl, ⟨by omega, by omega⟩, by show 2 ≤ sizeLine; decide, fun r hr => ?_⟩
    refine q r _ (Kp.new hr) hr ?_
    have e : fD (lt t b) = .tuple [.int ((t : Int) / (co : Int)), .int ((b : Int) / (co : Int))] := by
      unfold fD lt
      rw [← hg]
      rfl
    rw [e]
    exact DX.newT (.cons (.int _) (.cons (.int _) .nil)) hr (fun z => nomatch z)
/-- parts (p, b), b a divisor of D: the sum of p / b is the sum of these over D -/
def wsum (D : Nat) (parts : List (Nat × Nat)) : Nat := (parts.map fun q => q.1 * (D / q.2)).sum
def spTotal (K : PySem.W.Frag) : Sp := fun vs H Q _ => ∃ (p : Addr) (xs : List V) (D : Nat) (parts : List (Nat × Nat)), vs = [.ref p] ∧ SqL K H p xs ∧ DXs [] H xs (parts.map fD) ∧ 1 ≤ D ∧ D ≤ 30000 ∧ (∀ q ∈ parts, 1 ≤ q.2 ∧ q.2 ∣ D) ∧
  ∀ (r : Addr) (H' : Hp), Kp [] H H' → DX [] H' (.ref r) (fD (lt (wsum D parts) D)) → Q (.ref r) H'
theorem lt_zero {D : Nat} (h : 1 ≤ D) : lt 0 D = (0, 1) := by
  unfold lt
  rw [Nat.gcd_zero_left, Nat.zero_div, Nat.div_self h]
theorem lt_step {D s p b : Nat} (hD : 1 ≤ D) (hb : 1 ≤ b) (hd : b ∣ D) : lt ((lt s D).1 * b + p * (lt s D).2) ((lt s D).2 * b) = lt (s + p * (D / b)) D := by
  have c := lt_cross s D
  have pp := lt_pos (t := s) hD
  refine lt_eq (Nat.mul_pos pp hb) hD ?_
  obtain ⟨e, he⟩ := hd
  have hq : D / b = e := by rw [he]; exact Nat.mul_div_cancel_left e hb
  rw [hq, Nat.add_mul, Nat.add_mul]
  have a1 : (lt s D).1 * b * D = s * ((lt s D).2 * b) := by
    rw [Nat.mul_right_comm, c, Nat.mul_assoc]
  have a2 : p * (lt s D).2 * D = p * e * ((lt s D).2 * b) := by
    have : D = b * e := he
    calc p * (lt s D).2 * D = p * (lt s D).2 * (b * e) := by rw [← this]
      _ = p * e * ((lt s D).2 * b) := by
        rw [Nat.mul_assoc, Nat.mul_assoc, Nat.mul_left_comm e, Nat.mul_comm e b]
  rw [a1, a2]
theorem wsum_take {D : Nat} {parts : List (Nat × Nat)} {i : Nat} {q : Nat × Nat} (h : parts[i]? = some q) : wsum D (parts.take (i + 1)) = wsum D (parts.take i) + q.1 * (D / q.2) := by
  unfold wsum
  rw [List.take_succ, h, List.map_append, List.sum_append]
  simp
theorem pure_total {K : PySem.W.Frag} (vs : List V) (H : Hp) (Q : VK) (E : XK) (h : spTotal K vs H Q E) :
    t_weight_total K spLow { nx := fun _ H' => Q .non H', rt := Q } (start ["parts", "top", "bottom", "part"] vs) H := by
  obtain ⟨p, xs, D, parts, rfl, hp, hxs, hD, hD2, hq, q⟩ := h
  refine ⟨_, rfl, p, rfl, ⟨xs, hp⟩, ?_⟩
  refine for_list (xs := xs) (fun i σ' H' => ∃ s3, σ' = [some (.ref p), some (.int ((lt (wsum D (parts.take i)) D).1 : Int)), some (.int ((lt (wsum D (parts.take i)) D).2 : Int)), s3] ∧ Kp [] H H') ?_ ?_ ?_ ?_
  · refine ⟨none, ?_, Kp.refl⟩
    rw [List.take_zero]
    show _ = [some (V.ref p), some (V.int ((lt 0 D).1 : Int)), some (V.int ((lt 0 D).2 : Int)), none]
    rw [lt_zero hD]
    rfl
  · rintro i σ' H' _ ⟨_, rfl, k⟩
    exact k.same.seq hp
  · rintro i x σ' H' hx ⟨s3, rfl, k⟩
    obtain ⟨d, ed, dx⟩ := hxs.get hx
    rw [List.getElem?_map] at ed
    obtain ⟨⟨a, b⟩, el, rfl⟩ := Option.map_eq_some_iff.mp ed
    obtain ⟨hb1, hb2⟩ := hq _ (List.mem_of_getElem? el)
    have hb1 : 1 ≤ b := hb1
    have hb2 : b ∣ D := hb2
    have hbD : b ≤ D := Nat.le_of_dvd (by omega) hb2
    have dx' := dx.mono k
    cases dx' with
    | @tup ta txs _ tn th td =>
    cases td with
    | cons t1 td =>
    cases td with
    | cons t2 td =>
    cases td with
    | nil =>
    cases t1; cases t2
    generalize hs : wsum D (parts.take i) = s
    have l2 : (lt s D).2 ≤ D := Nat.le_of_dvd (by omega) (lt_dvd s D)
    have e64 : (2 : Int) ^ 64 = 18446744073709551616 := by decide
    have lp := lt_pos (t := s) hD
    have hbb : (lt s D).2 * b ≤ 30000 * 30000 := Nat.mul_le_mul (by omega) (by omega)
    have hbp : 0 < (lt s D).2 * b := Nat.mul_pos lp (by omega)
    refine ⟨_, rfl, _, rfl, _, _, _, _, rfl, rfl, SqT.of th, rfl, _, _, rfl, rfl, .inr ⟨by rw [e64]; omega, by rw [e64]; omega⟩, _, rfl, _, _, _, _, rfl, rfl, SqT.of th, rfl, _, rfl, _, _, rfl, rfl, .inr ⟨by rw [e64]; omega, by rw [e64]; omega⟩, _, _, rfl, rfl,
      _, rfl, _, rfl, _, _, _, _, rfl, rfl, SqT.of th, rfl, _, _, rfl, rfl, .inr ⟨by rw [e64]; omega, by rw [e64]; omega⟩, ?_⟩
    refine ⟨(lt s D).1 * b + a * (lt s D).2, (lt s D).2 * b, ?_, hbp, by omega, fun r H1 k1 hr dr => ?_⟩
    · show [V.int (((lt s D).1 : Int) * (b : Int) + (a : Int) * ((lt s D).2 : Int)), V.int (((lt s D).2 : Int) * (b : Int))] = _
      rw [Int.natCast_add, Int.natCast_mul, Int.natCast_mul, Int.natCast_mul]
    rw [lt_step hD hb1 hb2] at dr
    cases dr with
    | @tup ra rxs _ rn rh rd =>
    cases rd with
    | cons r1 rd =>
    cases rd with
    | cons r2 rd =>
    cases rd with
    | nil =>
    cases r1; cases r2
    refine ⟨r, _, rfl, SqT.of rh, rfl, _, _, rfl, _, _, rfl, rfl, some (.ref ta), ?_, k.trans k1⟩
    rw [wsum_take el, hs]
    rfl
  · rintro σ' H' ⟨s3, rfl, k⟩
    rw [hxs.len, List.length_map, List.take_length]
    refine ⟨_, rfl, _, rfl, by show 2 ≤ sizeLine; decide, fun r hr => ?_⟩
    exact q r _ (k.trans (Kp.new hr)) (DX.newT (.cons (.int _) (.cons (.int _) .nil)) hr (fun z => nomatch z))
end FL

/-! ## Wt: weights of leaves; look_share, mean_depth of the package -/
namespace FL
open PySem L2
mutual
/-- no list in it -/
def noL : PyData → Bool
  | .list _ => false
  | .tuple ds => noLs ds
  | .dict _ => false
  | .none => true
  | .bool _ => true
  | .int _ => true
  | .str _ => true
def noLs : List PyData → Bool
  | [] => true
  | d :: r => noL d && noLs r
end
mutual
theorem DX.notl {ex : List Addr} {H : Hp} {p : Addr} {ys : List V} (hp : H p = some (.lst ys)) : ∀ {v : V} {d : PyData}, DX ex H v d → noL d = true → DX (p :: ex) H v d
  | _, _, .non, _ => .non
  | _, _, .bl b, _ => .bl b
  | _, _, .int i, _ => .int i
  | _, _, .str x, _ => .str x
  | _, _, .lst _ _ _, h => by rw [noL] at h; cases h
  | _, _, .tup n e r, h => by
    rw [noL] at h
    refine .tup (fun z => ?_) e (DXs.notl hp r h)
    rcases List.mem_cons.mp z with z | z
    · rw [z, hp] at e; cases e
    · exact n z
theorem DXs.notl {ex : List Addr} {H : Hp} {p : Addr} {ys : List V} (hp : H p = some (.lst ys)) : ∀ {v : List V} {d : List PyData}, DXs ex H v d → noLs d = true → DXs (p :: ex) H v d
  | _, _, .nil, _ => .nil
  | _, _, .cons a r, h => by
    rw [noLs, Bool.and_eq_true] at h
    exact .cons (DX.notl hp a h.1) (DXs.notl hp r h.2)
end
theorem noLs_all : ∀ {ds : List PyData}, (∀ d ∈ ds, noL d = true) → noLs ds = true
  | [], _ => by rw [noLs]
  | d :: r, h => by rw [noLs, h d List.mem_cons_self, noLs_all fun e he => h e (List.mem_cons_of_mem _ he)]; rfl
/-- places that may be compared -/
def Pp (p : PyData) : Prop := p.canLay0 = true ∧ p.depth ≤ 3 ∧ noL p = true
theorem Pp.shaped {p : PyData} (h : Pp p) : SeqAt.shaped p = true := by
  unfold SeqAt.shaped
  rw [h.1, Bool.true_and]
  exact decide_eq_true (by have := h.2.1; omega)
mutual
def Tr.At : Tr → Prop
  | .leaf v => noL v = true
  | .look p rows => Pp p ∧ RowsAt rows
def RowsAt : List (Int × Tr) → Prop
  | [] => True
  | (_, t) :: r => t.At ∧ RowsAt r
end
/-- a step of a path -/
def St (d : PyData) : Prop := ∃ pl a, d = stp pl a ∧ Pp pl
def plOf : PyData → PyData
  | .tuple (p :: _) => p
  | d => d
mutual
theorem Tr.lv_at : ∀ (t : Tr) (p : List PyData) (b : Int), t.At → (∀ d ∈ p, St d) → ∀ l ∈ t.lv p b, noL l.val = true ∧ ∀ d ∈ l.path, St d
  | .leaf v, p, b, h, hp => by
    rw [Tr.lv]
    intro l hl
    rw [List.mem_singleton.mp hl]
    exact ⟨by rw [Tr.At] at h; exact h, hp⟩
  | .look pl rows, p, b, h, hp => by
    rw [Tr.At] at h
    rw [Tr.lv]
    exact lvs_at rows pl p _ h.2 h.1 hp
theorem lvs_at : ∀ (rows : List (Int × Tr)) (pl : PyData) (p : List PyData) (b : Int), RowsAt rows → Pp pl → (∀ d ∈ p, St d) → ∀ l ∈ lvs rows pl p b, noL l.val = true ∧ ∀ d ∈ l.path, St d
  | [], pl, p, b, _, _, _ => by rw [lvs]; intro l hl; cases hl
  | (a, t) :: r, pl, p, b, h, hpl, hp => by
    rw [RowsAt] at h
    rw [lvs]
    intro l hl
    rcases List.mem_append.mp hl with hl | hl
    · refine Tr.lv_at t (p ++ [stp pl a]) b h.1 ?_ l hl
      intro d hd
      rcases List.mem_append.mp hd with hd | hd
      · exact hp d hd
      · rw [List.mem_singleton.mp hd]; exact ⟨pl, a, rfl, hpl⟩
    · exact lvs_at r pl p b h.2 hpl hp l hl
end
/-- a bottom: a number from 1 on that divides -/
def Bo (D : Nat) (z : Int) : Prop := ∃ c : Nat, z = (c : Int) ∧ 1 ≤ c ∧ c ∣ D
theorem dvd12 {k : Nat} (h1 : 1 ≤ k) (h4 : k ≤ 4) : k ∣ 12 := by
  match k, h1, h4 with
  | 1, _, _ => decide
  | 2, _, _ => decide
  | 3, _, _ => decide
  | 4, _, _ => decide
mutual
theorem Tr.lv_bo {m : Nat} (hm : m ≤ 4) : ∀ (n : Nat) (t : Tr) (p : List PyData) (b : Nat), t.Ok m n → 1 ≤ b → ∀ l ∈ t.lv p (b : Int), Bo (b * 12 ^ n) l.bot
  | n, .leaf v, p, b, _, hb => by
    rw [Tr.lv]
    intro l hl
    rw [List.mem_singleton.mp hl]
    exact ⟨b, rfl, hb, Nat.dvd_mul_right _ _⟩
  | 0, .look _ _, _, _, h, _ => by rw [Tr.Ok] at h; exact h.elim
  | n + 1, .look pl rows, p, b, h, hb => by
    rw [Tr.Ok] at h
    obtain ⟨_, h1, h2, h3⟩ := h
    rw [Tr.lv]
    intro l hl
    have e : (b : Int) * (rows.length : Int) = ((b * rows.length : Nat) : Int) := by rw [Int.natCast_mul]
    rw [e] at hl
    obtain ⟨c, e1, e2, e3⟩ := lvs_bo hm n rows pl p (b * rows.length) h3 (Nat.mul_pos hb h1) l hl
    refine ⟨c, e1, e2, Nat.dvd_trans e3 ?_⟩
    rw [Nat.pow_succ, Nat.mul_comm (12 ^ n) 12, ← Nat.mul_assoc]
    exact Nat.mul_dvd_mul (Nat.mul_dvd_mul (Nat.dvd_refl b) (dvd12 h1 (by omega))) (Nat.dvd_refl _)
theorem lvs_bo {m : Nat} (hm : m ≤ 4) : ∀ (n : Nat) (rows : List (Int × Tr)) (pl : PyData) (p : List PyData) (b : Nat), RowsOk m n rows → 1 ≤ b → ∀ l ∈ lvs rows pl p (b : Int), Bo (b * 12 ^ n) l.bot
  | n, [], pl, p, b, _, _ => by rw [lvs]; intro l hl; cases hl
  | n, (a, t) :: r, pl, p, b, h, hb => by
    rw [RowsOk] at h
    rw [lvs]
    intro l hl
    rcases List.mem_append.mp hl with hl | hl
    · exact Tr.lv_bo hm n t (p ++ [stp pl a]) b h.1 hb l hl
    · exact lvs_bo hm n r pl p b h.2 hb l hl
end
mutual
/-- the weights sum to the whole -/
theorem Tr.lv_sum {m W : Nat} (hm : m ≤ 4) : ∀ (n : Nat) (t : Tr) (p : List PyData) (b : Nat), t.Ok m n → 1 ≤ b → b * 12 ^ n ∣ W → ((t.lv p (b : Int)).map fun l => W / l.bot.toNat).sum = W / b
  | n, .leaf v, p, b, _, hb, _ => by
    rw [Tr.lv]
    simp
  | 0, .look _ _, _, _, h, _, _ => by rw [Tr.Ok] at h; exact h.elim
  | n + 1, .look pl rows, p, b, h, hb, hd => by
    rw [Tr.Ok] at h
    obtain ⟨_, h1, h2, h3⟩ := h
    rw [Tr.lv]
    have e : (b : Int) * (rows.length : Int) = ((b * rows.length : Nat) : Int) := by rw [Int.natCast_mul]
    have hd2 : b * rows.length * 12 ^ n ∣ W := by
      refine Nat.dvd_trans ?_ hd
      rw [Nat.pow_succ, Nat.mul_comm (12 ^ n) 12, ← Nat.mul_assoc]
      exact Nat.mul_dvd_mul (Nat.mul_dvd_mul (Nat.dvd_refl b) (dvd12 h1 (by omega))) (Nat.dvd_refl _)
    rw [e, lvs_sum hm n rows pl p (b * rows.length) h3 (Nat.mul_pos hb h1) hd2]
    have hd3 : b * rows.length ∣ W := Nat.dvd_trans (Nat.dvd_mul_right _ _) hd2
    obtain ⟨c, hc⟩ := hd3
    have z1 : W / (b * rows.length) = c := by rw [hc]; exact Nat.mul_div_cancel_left c (Nat.mul_pos hb h1)
    have z2 : W / b = rows.length * c := by rw [hc, Nat.mul_assoc]; exact Nat.mul_div_cancel_left _ hb
    rw [z1, z2]
theorem lvs_sum {m W : Nat} (hm : m ≤ 4) : ∀ (n : Nat) (rows : List (Int × Tr)) (pl : PyData) (p : List PyData) (b : Nat), RowsOk m n rows → 1 ≤ b → b * 12 ^ n ∣ W → ((lvs rows pl p (b : Int)).map fun l => W / l.bot.toNat).sum = rows.length * (W / b)
  | n, [], pl, p, b, _, _, _ => by rw [lvs]; simp
  | n, (a, t) :: r, pl, p, b, h, hb, hd => by
    rw [RowsOk] at h
    rw [lvs, List.map_append, List.sum_append, Tr.lv_sum hm n t _ b h.1 hb hd, lvs_sum hm n r pl p b h.2 hb hd, List.length_cons, Nat.succ_mul, Nat.add_comm]
end
/-- whether a leaf's path has the place -/
def hasP (pd : PyData) (l : Lf) : Bool := l.path.any fun d => PyData.eqv (plOf d) pd
def shareParts (pd : PyData) (t : Tr) : List (Nat × Nat) := ((t.lv [] 1).filter (hasP pd)).map fun l => (1, l.bot.toNat)
def depthParts (t : Tr) : List (Nat × Nat) := (t.lv [] 1).map fun l => (l.path.length, l.bot.toNat)
def t_look_share (K : PySem.W.Frag) (s_weighed_leaves : Sp) (s_weight_total : Sp) : TS := (tSeq (tAsg (tLst tNil) (gName 2))
  (tSeq (tFor (iList K (tCall s_weighed_leaves [] E0 (tCons (tVar 0) tNil))) (gTup K 3 (gCons (gName 3) (gCons (gName 4) (gCons (gName 5) gNil))))
  (tIfS (tB (tCB (rAny K) (tCons (tLc (iTup K (tVar 3)) (gTup K 2 (gCons (gName 6) (gCons (gName 7) gNil))) tYes (tOp (rEqD K) (tVar 6) (tVar 1)) [6, 7]) tNil))) (tDrop (tBM K "list" rAppend (tVar 2) (tCons (tTup (tCons (tC (.int 1)) (tCons (tVar 5) tNil))) tNil))) tNext))
  (tRet (tCall s_weight_total [] E0 (tCons (tVar 2) tNil)))))
def t_mean_depth (K : PySem.W.Frag) (s_weight_total : Sp) (s_weighed_leaves : Sp) : TS := (tRet (tCall s_weight_total [] E0 (tCons (tLc (iList K (tCall s_weighed_leaves [] E0 (tCons (tVar 0) tNil))) (gTup K 3 (gCons (gName 1) (gCons (gName 2) (gCons (gName 3) gNil)))) tYes (tTup (tCons (tCB (rLen K) (tCons (tVar 1) tNil)) (tCons (tVar 3) tNil))) [1, 2, 3]) tNil)))
def D4 : Nat := 20736
def spShare : Sp := fun vs H Q _ => ∃ (v p : V) (t : Tr) (pd : PyData), vs = [v, p] ∧ DX [] H v t.toD ∧ DX [] H p pd ∧ Pp pd ∧ t.Ok 4 4 ∧ t.At ∧
  ∀ (r : Addr) (H' : Hp), Kp [] H H' → DX [] H' (.ref r) (fD (lt (wsum D4 (shareParts pd t)) D4)) → Q (.ref r) H'
def spMean : Sp := fun vs H Q _ => ∃ (v : V) (t : Tr), vs = [v] ∧ DX [] H v t.toD ∧ t.Ok 4 4 ∧ t.At ∧
  ∀ (r : Addr) (H' : Hp), Kp [] H H' → DX [] H' (.ref r) (fD (lt (wsum D4 (depthParts t)) D4)) → Q (.ref r) H'
theorem bo4 {t : Tr} (ok : t.Ok 4 4) : ∀ l ∈ t.lv [] 1, Bo D4 l.bot := fun l hl => by
  obtain ⟨c, e1, e2, e3⟩ := Tr.lv_bo (Nat.le_refl 4) 4 t [] 1 ok (Nat.le_refl 1) l hl
  exact ⟨c, e1, e2, e3⟩
mutual
theorem Tr.Ok_up {m : Nat} : ∀ (n k : Nat) (t : Tr), t.Ok m n → n ≤ k → t.Ok m k
  | n, k, .leaf v, h, _ => by rw [Tr.Ok] at h ⊢; exact h
  | 0, _, .look _ _, h, _ => by rw [Tr.Ok] at h; exact h.elim
  | n + 1, 0, .look _ _, _, hk => by omega
  | n + 1, k + 1, .look p rows, h, hk => by
    rw [Tr.Ok] at h ⊢
    exact ⟨h.1, h.2.1, h.2.2.1, RowsOk_up n k rows h.2.2.2 (by omega)⟩
theorem RowsOk_up {m : Nat} : ∀ (n k : Nat) (rows : List (Int × Tr)), RowsOk m n rows → n ≤ k → RowsOk m k rows
  | n, k, [], _, _ => by rw [RowsOk]; trivial
  | n, k, (a, t) :: r, h, hk => by
    rw [RowsOk] at h ⊢
    exact ⟨Tr.Ok_up n k t h.1 hk, RowsOk_up n k r h.2 hk⟩
end
theorem lv4096 {m : Nat} {t : Tr} (ok : t.Ok m 6) (hm4 : m ≤ 4) (hm1 : 1 ≤ m) : (t.lv [] 1).length ≤ 4096 ∧ 1 ≤ (t.lv [] 1).length := by
  have l := Tr.lv_len hm1 6 t [] 1 ok
  have l2 : m ^ 6 ≤ 4 ^ 6 := Nat.pow_le_pow_left hm4 6
  have l3 : (4 : Nat) ^ 6 = 4096 := by decide
  omega
theorem take_succ {α : Type} {l : List α} {i : Nat} {x : α} (h : l[i]? = some x) : l.take (i + 1) = l.take i ++ [x] := by
  rw [List.take_succ, h]; rfl
theorem any_map {α : Type} (f : α → Bool) : ∀ l : List α, (l.map f).any id = l.any f
  | [] => rfl
  | a :: r => by rw [List.map_cons, List.any_cons, List.any_cons, any_map f r]; rfl
theorem pure_share {K : PySem.W.Frag} (vs : List V) (H : Hp) (Q : VK) (E : XK) (h : spShare vs H Q E) :
    t_look_share K (spWl 4) (spTotal K) { nx := fun _ H' => Q .non H', rt := Q } (start ["tree", "place", "parts", "path", "value", "bottom", "spot", "answer"] vs) H := by
  obtain ⟨v, p, t, pd, rfl, hv, hp, hpp, ok, hat, q⟩ := h
  have ok6 : t.Ok 4 6 := Tr.Ok_up _ _ _ ok (by decide)
  have l4 := lv4096 ok6 (Nat.le_refl 4) (by decide)
  refine ⟨by show 0 ≤ sizeLine; decide, fun pr hpr => ?_⟩
  have kpr : Kp [] H (upd H pr (.lst [])) := Kp.new hpr
  have epr : upd H pr (.lst []) pr = some (.lst []) := upd_same
  generalize upd H pr (.lst []) = H0 at kpr epr
  refine ⟨_, rfl, v, t, rfl, hv.mono kpr, ok6, Nat.le_refl 4, by decide, fun w H1 xs hw k1 e1 d1 => ⟨w, rfl, ⟨xs, SqL.of e1⟩, ?_⟩⟩
  have hw' : H w = none := kpr.free hw
  have prw : pr ≠ w := ne_of_none epr hw
  refine for_list (xs := xs) (fun i σ' H' => ∃ (acc : List V) (s3 s4 s5 s6 s7 : Option V), σ' = [some v, some p, some (.ref pr), s3, s4, s5, s6, s7] ∧ Kp [pr] H1 H' ∧ H' pr = some (.lst acc) ∧ DXs [pr] H' acc ((((t.lv [] 1).take i).filter (hasP pd)).map fun l => fD (1, l.bot.toNat))) ?_ ?_ ?_ ?_
  · exact ⟨[], _, _, _, _, _, rfl, Kp.refl, k1 _ _ (fun z => nomatch z) epr, .nil⟩
  · rintro i σ' H' _ ⟨acc, s3, s4, s5, s6, s7, rfl, k2, _, _⟩
    exact SqL.of (k2 _ _ (nin1 prw.symm) e1)
  · rintro i x σ' H' hx ⟨acc, s3, s4, s5, s6, s7, rfl, k2, ea, da⟩
    obtain ⟨d, ed, dx⟩ := d1.get hx
    rw [List.getElem?_map] at ed
    obtain ⟨l, el, rfl⟩ := Option.map_eq_some_iff.mp ed
    have hlm := List.mem_of_getElem? el
    obtain ⟨c, ec, c1, c2⟩ := bo4 ok l hlm
    have hst := Tr.lv_at t [] 1 hat (fun d hd => nomatch hd) l hlm
    have lok := Tr.lv_ok 6 0 t [] 1 ok6 (Nat.le_refl 0) (fun d hd => nomatch hd) l hlm
    -- nothing of the leaves is parts
    have nl : noL l.toD = true := by
      show noLs [.tuple l.path, l.val, .int l.bot] = true
      rw [noLs, noLs, noLs, noLs, noL, noL, hst.1, noLs_all fun d hd => ?_]
      · rfl
      · obtain ⟨pl, a, rfl, hh⟩ := hst.2 d hd
        show noLs [pl, .int a] = true
        rw [noLs, noLs, noLs, noL, hh.2.2]; rfl
    have dl : DX [pr] H' x l.toD := DX.mono k2 ((dx.notl (k1 _ _ (fun z => nomatch z) epr) nl).less fun b hb => by rw [List.mem_singleton.mp hb]; exact List.mem_cons_self)
    have dp' : DX [pr] H' p pd := by
      have z : DX [pr] H p pd := hp.fresh hpr
      exact (z.mono ((kpr.trans k1).any.trans k2))
    cases dl with
    | @tup ta txs _ tn th td =>
    cases td with
    | cons t1 td =>
    cases td with
    | @cons vv _ _ _ t2 td =>
    cases td with
    | cons t3 td =>
    cases td with
    | nil =>
    cases t3
    cases t1 with
    | @tup pa pxs _ pn ph pdd =>
    refine ⟨ta, _, rfl, SqT.of th, rfl, _, _, rfl, _, _, rfl, _, _, rfl, rfl, ?_⟩
    -- any([spot == place for spot, answer in path])
    refine ⟨_, rfl, pa, rfl, ⟨pxs, SqT.of ph⟩, fun L hL => ?_⟩
    have Lpr : pr ≠ L := ne_of_none ea hL
    have plen : pxs.length = l.path.length := pdd.len
    refine lc_tup (xs := pxs) (fun j H2 => Kp [] H' H2 ∧ H2 L = some (.lst (((l.path.take j).map fun d => PyData.eqv (plOf d) pd).map V.bl))) ⟨Kp.new hL, upd_same⟩ (fun j H2 _ z => SqT.of (z.1 _ _ (fun z => nomatch z) ph)) ?_ ?_
    · rintro j y H2 hy ⟨k3, eL⟩
      obtain ⟨dd, edd, dy⟩ := pdd.get hy
      obtain ⟨pl, a, rfl, hpl⟩ := hst.2 dd (List.mem_of_getElem? edd)
      have dy2 := dy.mono k3.any
      cases dy2 with
      | @tup ya yxs _ yn yh yd =>
      cases yd with
      | cons y1 yd =>
      cases yd with
      | cons y2 yd =>
      cases yd with
      | nil =>
      cases y2
      refine ⟨ya, _, rfl, SqT.of yh, rfl, _, _, rfl, _, _, rfl, rfl, rfl, ?_⟩
      have jl : j < l.path.length := (List.getElem?_eq_some_iff.mp edd).1
      refine ⟨_, rfl, _, rfl, pl, pd, y1.dp, (dp'.mono k3.any).dp, hpl.shaped, hpp.shaped, _, eL, szl (by rw [List.length_map, List.length_map, List.length_take]; have := lok.1; omega), ?_, ?_⟩
      · exact Kp.drop (k3.any.trans (Kp.mut (List.mem_singleton.mpr rfl))) hL
      · rw [upd_same, take_succ edd, List.map_append, List.map_append]
        rfl
    · rintro H2 ⟨k3, eL⟩
      rw [plen, List.take_length] at eL
      refine ⟨L, _, rfl, SqL.of eL, _, rfl, ?_⟩
      rw [any_map]
      have ea2 := k3 _ _ (fun z => nomatch z) ea
      have da2 := da.mono k3.any
      have k23 : Kp [pr] H1 H2 := k2.trans k3.any
      refine ite2 (fun cc => ?_) (fun cc => ?_)
      · have hh : hasP pd l = true := cc
        refine ⟨_, rfl, .inl ⟨rfl, _, SqL.of ea2⟩, _, rfl, by show 2 ≤ sizeLine; decide, fun z hz => ?_⟩
        have prz : pr ≠ z := ne_of_none ea2 hz
        have kz : ∀ (ex : List Addr) (o : HO), Kp ex H2 (upd H2 z o) := fun ex o => Kp.new hz
        refine ⟨pr, acc, _, rfl, rfl, by rw [upd_ne prz]; exact ea2, szl ?_, ?_⟩
        · have z1 := List.length_filter_le (hasP pd) ((t.lv [] 1).take i)
          rw [List.length_take] at z1
          rw [da.len, List.length_map]
          omega
        have km : ∀ (G : Hp) (o : HO), Kp [pr] G (upd G pr o) := fun G o => Kp.mut (List.mem_singleton.mpr rfl)
        refine ⟨_, _, _, _, _, _, rfl, (k23.trans (kz _ _)).trans (km _ _), upd_same, ?_⟩
        rw [take_succ el, List.filter_append, List.map_append]
        refine ((da2.mono (kz _ _)).mono (km _ _)).app ?_
        have ef : [l].filter (hasP pd) = [l] := by simp [hh]
        have efd : fD (1, l.bot.toNat) = .tuple [.int 1, .int (c : Int)] := by rw [ec]; rfl
        rw [ef, ec]
        show DXs [pr] _ [V.ref z] [fD (1, l.bot.toNat)]
        rw [efd]
        exact .one ((DX.newT (.cons (.int 1) (.cons (.int _) .nil)) hz (nin1 prz.symm)).mono (km _ _))
      · have hh : hasP pd l = false := Bool.eq_false_iff.mpr cc
        refine ⟨acc, _, _, _, _, _, rfl, k23, ea2, ?_⟩
        rw [take_succ el, List.filter_append]
        have ef : [l].filter (hasP pd) = [] := by simp [hh]
        rw [ef, List.append_nil]
        exact da2
  · rintro σ' H' ⟨acc, s3, s4, s5, s6, s7, rfl, k2, ea, da⟩
    rw [d1.len, List.length_map, List.take_length] at da
    refine ⟨_, rfl, pr, acc, D4, shareParts pd t, rfl, SqL.of ea, ?_, by decide, by decide, ?_, fun r H2 k3 dr => ?_⟩
    · unfold shareParts
      rw [List.map_map]
      exact da.all
    · intro z hz
      unfold shareParts at hz
      obtain ⟨l, hl, rfl⟩ := List.mem_map.mp hz
      obtain ⟨c, ec, c1, c2⟩ := bo4 ok l (List.mem_filter.mp hl).1
      rw [ec]
      exact ⟨c1, c2⟩
    · exact q r H2 (Kp.drop ((kpr.trans k1).any.trans (k2.trans k3.any)) hpr) dr
theorem pure_mean {K : PySem.W.Frag} (vs : List V) (H : Hp) (Q : VK) (E : XK) (h : spMean vs H Q E) :
    t_mean_depth K (spTotal K) (spWl 4) { nx := fun _ H' => Q .non H', rt := Q } (start ["tree", "path", "value", "bottom"] vs) H := by
  obtain ⟨v, t, rfl, hv, ok, hat, q⟩ := h
  have ok6 : t.Ok 4 6 := Tr.Ok_up _ _ _ ok (by decide)
  have l4 := lv4096 ok6 (Nat.le_refl 4) (by decide)
  refine ⟨_, rfl, v, t, rfl, hv, ok6, Nat.le_refl 4, by decide, fun p H1 xs hp k1 e1 d1 => ⟨p, rfl, ⟨xs, SqL.of e1⟩, fun D hD => ?_⟩⟩
  refine lc_list (xs := xs) (fun i H' => Kp [] H1 H' ∧ ∃ acc, H' D = some (.lst acc) ∧ DXs [D] H' acc (((t.lv [] 1).take i).map fun l => fD (l.path.length, l.bot.toNat))) ⟨Kp.new hD, _, upd_same, .nil⟩ (fun i H' _ z => SqL.of (z.1 _ _ (fun z => nomatch z) e1)) ?_ ?_
  · rintro i x H' hx ⟨k2, acc, ea, da⟩
    obtain ⟨d, ed, dx⟩ := d1.get hx
    rw [List.getElem?_map] at ed
    obtain ⟨l, el, rfl⟩ := Option.map_eq_some_iff.mp ed
    obtain ⟨b, ec, c1, c2⟩ := bo4 ok l (List.mem_of_getElem? el)
    have dx1 : DX [D] H' x l.toD := ((dx.all.fresh hD).mono k2.any)
    cases dx1 with
    | @tup ta txs _ tn th td =>
    cases td with
    | cons t1 td =>
    cases td with
    | cons t2 td =>
    cases td with
    | cons t3 td =>
    cases td with
    | nil =>
    cases t3
    cases t1 with
    | @tup pa pxs _ pn ph pdd =>
    refine ⟨ta, _, rfl, SqT.of th, rfl, _, _, rfl, _, _, rfl, _, _, rfl, rfl, rfl, ?_⟩
    refine ⟨_, rfl, _, _, rfl, .inr ⟨_, SqT.of ph, rfl⟩, _, rfl, by show 2 ≤ sizeLine; decide, fun c hc => ?_⟩
    have cD : D ≠ c := ne_of_none ea hc
    refine ⟨acc, by rw [upd_ne cD]; exact ea, szl (by rw [da.len, List.length_map, List.length_take]; omega), ?_, _, upd_same, ?_⟩
    · exact Kp.drop (((k2.trans (Kp.new hc)).any).trans (Kp.mut (List.mem_singleton.mpr rfl))) hD
    · rw [take_succ el, List.map_append]
      have kn : ∀ o : HO, Kp [D] H' (upd H' c o) := fun o => Kp.new hc
      have km : ∀ (G : Hp) (o : HO), Kp [D] G (upd G D o) := fun G o => Kp.mut (List.mem_singleton.mpr rfl)
      refine ((da.mono (kn _)).mono (km _ _)).app (.one ?_)
      have efd : fD (l.path.length, l.bot.toNat) = .tuple [.int (l.path.length : Int), .int (b : Int)] := by rw [ec]; rfl
      rw [ec, pdd.len]
      show DX [D] _ (V.ref c) (fD (l.path.length, l.bot.toNat))
      rw [efd]
      exact (DX.newT (.cons (.int _) (.cons (.int _) .nil)) hc (nin1 cD.symm)).mono (km _ _)
  · rintro H' ⟨k2, acc, ea, da⟩
    rw [d1.len, List.length_map, List.take_length] at da
    refine ⟨D, acc, D4, depthParts t, rfl, SqL.of ea, ?_, by decide, by decide, ?_, fun r H2 k3 dr => ?_⟩
    · unfold depthParts
      rw [List.map_map]
      exact da.all
    · intro z hz
      unfold depthParts at hz
      obtain ⟨l, hl, rfl⟩ := List.mem_map.mp hz
      obtain ⟨c, ec, c1, c2⟩ := bo4 ok l hl
      rw [ec]
      exact ⟨c1, c2⟩
    · exact q r H2 ((k1.trans k2).trans k3) dr
end FL

/-! ## k38: the law's own fractions, trees and weights -/
namespace FL
open PySem L2
def t__law_fraction (K : PySem.W.Frag) : TS := (tSeq (tPar 2 3 (tCons (tCB (FL.rAbs) (tCons (tCB (FL.rInt1) (tCons (tVar 0) tNil)) tNil)) (tCons (tCB (FL.rInt1) (tCons (tVar 1) tNil)) tNil)))
  (tSeq (tWhile (tTest (tOp (rI0 fun i j => .bl (decide (j < i))) (tVar 2) (tC (.int 0))))
  (tPar 2 3 (tCons (tOp (rI (fun _ j => 0 < j) fun i j => .int (i % j)) (tCB (FL.rInt1) (tCons (tVar 3) tNil)) (tVar 2)) (tCons (tVar 2) tNil))))
  (tRet (tTup (tCons (tOp (rI CDiv fun i j => .int (i / j)) (tCB (FL.rInt1) (tCons (tVar 0) tNil)) (tVar 3)) (tCons (tOp (rI CDiv fun i j => .int (i / j)) (tCB (FL.rInt1) (tCons (tVar 1) tNil)) (tVar 3)) tNil))))))
def t__law_tree (K : PySem.W.Frag) (s__law_draw : Sp) (s__law_pick : Sp) (s__law_tree : Sp) : TS := (tSeq (tIfS (tOr (tTest (tOp (rEq) (tVar 1) (tC (.int 0)))) (tTest (tOp (rEq) (tCall s__law_draw [] E0 (tCons (tVar 0) (tCons (tC (.int 4)) tNil))) (tC (.int 0))))) (tRet (tTup (tCons (tC (.str "leaf")) (tCons (tCall s__law_draw [] E0 (tCons (tVar 0) (tCons (tC (.int 3)) tNil))) tNil)))) tNext)
  (tSeq (tAsg (tCall s__law_pick [] E0 (tCons (tVar 0) (tCons (tLst (tCons (tTup tNil) (tCons (tTup (tCons (tC (.int 0)) (tCons (tC (.int 1)) tNil))) (tCons (tTup (tCons (tC (.int 2)) (tCons (tC (.int 0)) (tCons (tC (.int 5)) tNil)))) (tCons (tTup (tCons (tOp (rI CPow fun i j => .int (i ^ j.toNat)) (tC (.int 10)) (tC (.int 20))) tNil)) tNil))))) tNil))) (gName 2))
  (tSeq (tAsg (tCall s__law_pick [] E0 (tCons (tVar 0) (tCons (tLst (tCons (tLst (tCons (tC (.int 0)) tNil)) (tCons (tLst (tCons (tC (.int 0)) (tCons (tC (.int 1)) tNil))) (tCons (tLst (tCons (tC (.int 1)) (tCons (tC (.int 0)) tNil))) (tCons (tLst (tCons (tC (.int 0)) (tCons (tC (.int 1)) (tCons (tC (.int 2)) tNil)))) (tCons (tLst (tCons (tC (.int 2)) (tCons (tC (.int 0)) (tCons (tC (.int 1)) tNil)))) (tCons (tLst (tCons (tC (.int 3)) (tCons (tC (.int 2)) (tCons (tC (.int 1)) (tCons (tC (.int 0)) tNil))))) tNil))))))) tNil))) (gName 3))
  (tRet (tTup (tCons (tC (.str "look")) (tCons (tVar 2) (tCons (tCB (FL.rTupOf K) (tCons (tLc (iList K (tVar 3)) (gName 4) tYes (tTup (tCons (tVar 4) (tCons (tCall s__law_tree [] E0 (tCons (tVar 0) (tCons (tOp (rI0 fun i j => .int (i - j)) (tVar 1) (tC (.int 1))) tNil))) tNil))) [4]) tNil)) tNil))))))))
def t__law_weighed (K : PySem.W.Frag) (s__law_weighed : Sp) : TS := (tSeq (tIfS (tTest (tOp (rEq) (tOp (rIxT K) (tVar 0) (tC (.int 0))) (tC (.str "leaf")))) (tRet (tLst (tCons (tTup (tCons (tVar 1) (tCons (tVar 2) tNil))) tNil))) tNext)
  (tSeq (tAsg (tLst tNil) (gName 3))
  (tSeq (tFor (iTup K (tOp (rIxT K) (tVar 0) (tC (.int 2)))) (gTup K 2 (gCons (gName 4) (gCons (gName 5) gNil)))
  (tAsg (tOp (rCat) (tVar 3) (tCall s__law_weighed [] E0 (tCons (tVar 5) (tCons (tOp (rCat) (tVar 1) (tLst (tCons (tOp (rIxT K) (tVar 0) (tC (.int 1))) tNil))) (tCons (tOp (rI CDiv fun i j => .int (i / j)) (tCB (FL.rInt1) (tCons (tVar 2) tNil)) (tCB (rLen K) (tCons (tOp (rIxT K) (tVar 0) (tC (.int 2))) tNil))) tNil))))) (gName 3)))
  (tRet (tVar 3)))))
def t_law (K : PySem.W.Frag) (s__law_source : Sp) (s__law_tree : Sp) (s__law_weighed : Sp) (s__law_same : Sp) (s__law_fraction : Sp) (s_look_share : Sp) (s_mean_depth : Sp) : TS := (tSeq (tFor (iRng1 (tCons (tOp (rI0 fun i j => .int (i + j)) (tC (.int 2)) (tCB (FL.rMin2) (tCons (tCB (rLen K) (tCons (tVar 0) tNil)) (tCons (tC (.int 4)) tNil)))) tNil)) (gName 1)
  (tSeq (tAsg (tCall s__law_source [] E0 (tCons (tVar 0) (tCons (tVar 1) tNil))) (gName 2))
  (tSeq (tAsg (tCall s__law_tree [] E0 (tCons (tVar 2) (tCons (tC (.int 3)) tNil))) (gName 3))
  (tSeq (tAsg (tTup (tCons (tC (.str "look")) (tCons (tTup (tCons (tC (.int 7)) tNil)) (tCons (tTup (tCons (tTup (tCons (tC (.int 1)) (tCons (tVar 3) tNil))) (tCons (tTup (tCons (tC (.int 0)) (tCons (tCall s__law_tree [] E0 (tCons (tVar 2) (tCons (tC (.int 2)) tNil))) tNil))) (tCons (tTup (tCons (tC (.int 2)) (tCons (tTup (tCons (tC (.str "leaf")) (tCons (tC (.int 0)) tNil))) tNil))) (tCons (tTup (tCons (tC (.int 3)) (tCons (tVar 3) tNil))) tNil))))) tNil)))) (gName 4))
  (tSeq (tFor (iTup K (tTup (tCons (tVar 3) (tCons (tVar 4) (tCons (tVar 3) tNil))))) (gName 5)
  (tSeq (tAsg (tCall s__law_weighed [] E0 (tCons (tVar 5) (tCons (tLst tNil) (tCons (tOp (rI CPow fun i j => .int (i ^ j.toNat)) (tC (.int 12)) (tC (.int 4))) tNil)))) (gName 6))
  (tSeq (tFor (iList K (tLst (tCons (tTup tNil) (tCons (tTup (tCons (tC (.int 0)) (tCons (tC (.int 1)) tNil))) (tCons (tTup (tCons (tC (.int 2)) (tCons (tC (.int 0)) (tCons (tC (.int 5)) tNil)))) (tCons (tTup (tCons (tOp (rI CPow fun i j => .int (i ^ j.toNat)) (tC (.int 10)) (tC (.int 20))) tNil)) (tCons (tTup (tCons (tC (.int 7)) tNil)) (tCons (tTup (tCons (tC (.int 0)) (tCons (tC (.int 0)) tNil))) tNil)))))))) (gName 7)
  (tSeq (tAsg (tCB (rSum K) (tCons (tLc (iList K (tVar 6)) (gTup K 2 (gCons (gName 9) (gCons (gName 10) gNil))) (tTest (tOp (rInD K) (tVar 7) (tVar 9))) (tVar 10) [9, 10]) tNil)) (gName 8))
  (tIfS (tNot (tB (tCall s__law_same [] E0 (tCons (tCall s_look_share [] E0 (tCons (tVar 5) (tCons (tVar 7) tNil))) (tCons (tCall s__law_fraction [] E0 (tCons (tVar 8) (tCons (tOp (rI CPow fun i j => .int (i ^ j.toNat)) (tC (.int 12)) (tC (.int 4))) tNil))) tNil))))) (tRet (tC (.bl false))) tNext)))
  (tSeq (tAsg (tCB (rSum K) (tCons (tLc (iList K (tVar 6)) (gTup K 2 (gCons (gName 9) (gCons (gName 10) gNil))) tYes (tOp (rI CMul fun i j => .int (i * j)) (tVar 10) (tCB (rLen K) (tCons (tVar 9) tNil))) [9, 10]) tNil)) (gName 8))
  (tIfS (tNot (tB (tCall s__law_same [] E0 (tCons (tCall s_mean_depth [] E0 (tCons (tVar 5) tNil)) (tCons (tCall s__law_fraction [] E0 (tCons (tVar 8) (tCons (tOp (rI CPow fun i j => .int (i ^ j.toNat)) (tC (.int 12)) (tC (.int 4))) tNil))) tNil))))) (tRet (tC (.bl false))) tNext)))))
  (tSeq (tIfS (tNot (tB (tCall s__law_same [] E0 (tCons (tCallK s_look_share (FL.gPerm 2 [1, 0]) E0 tNil (tCons (tTup (tCons (tC (.int 7)) tNil)) (tCons (tVar 4) tNil))) (tCons (tTup (tCons (tC (.int 1)) (tCons (tC (.int 1)) tNil))) tNil))))) (tRet (tC (.bl false))) tNext)
  (tIfS (tNot (tB (tCall s__law_same [] E0 (tCons (tCallK s_mean_depth (FL.gPerm 1 [0]) E0 tNil (tCons (tTup (tCons (tC (.str "leaf")) (tCons (tC (.int 5)) tNil))) tNil)) (tCons (tTup (tCons (tC (.int 0)) (tCons (tC (.int 1)) tNil))) tNil))))) (tRet (tC (.bl false))) tNext)))))))
  (tRet (tC (.bl true))))
theorem pure_fraction {K : PySem.W.Frag} (vs : List V) (H : Hp) (Q : VK) (E : XK) (h : spLow vs H Q E) :
    t__law_fraction K { nx := fun _ H' => Q .non H', rt := Q } (start ["_law_top", "_law_bottom", "_law_low", "_law_common"] vs) H := by
  obtain ⟨t, b, rfl, hb, hb2, q⟩ := h
  refine ⟨_, rfl, .inl ⟨_, rfl, _, rfl, ?_⟩⟩
  rw [if_neg (show ¬ (t : Int) < 0 by omega)]
  refine ⟨_, rfl, .inl ⟨_, rfl, _, _, rfl, ?_⟩⟩
  refine ⟨fun k σ Hc => ∃ lo co : Nat, σ = [some (.int (t : Int)), some (.int (b : Int)), some (.int (lo : Int)), some (.int (co : Int))] ∧ Hc = H ∧ Nat.gcd lo co = Nat.gcd t b ∧ k = lo, ⟨_, t, b, rfl, rfl, rfl, rfl⟩, ?_⟩
  rintro k σ Hc ⟨lo, co, rfl, rfl, hg, rfl⟩
  refine low_test rfl ?_
  refine ite2 (fun c => ?_) (fun c => ?_)
  · have c' : 0 < k := of_decide_eq_true c
    refine ⟨fun σ' H' => ∃ lo co : Nat, σ' = [some (.int (t : Int)), some (.int (b : Int)), some (.int (lo : Int)), some (.int (co : Int))] ∧ H' = Hc ∧ Nat.gcd lo co = Nat.gcd t b ∧ lo < k, fun σ' H' ⟨lo, co, a1, a2, a3, a4⟩ => ⟨_, a4, lo, co, a1, a2, a3, rfl⟩, ?_⟩
    refine ⟨_, rfl, .inl ⟨_, rfl, _, rfl, _, _, rfl, rfl, (by show (0 : Int) < (k : Int); omega), _, rfl, _, _, rfl, ?_⟩⟩
    refine ⟨co % k, k, rfl, rfl, ?_, Nat.mod_lt _ c'⟩
    rw [← Nat.gcd_rec]; exact hg
  · have c' : k = 0 := by
      rcases Nat.eq_zero_or_pos k with z | z
      · exact z
      · exact absurd (decide_eq_true z) c
    subst c'
    rw [Nat.gcd_zero_left] at hg
    have gp : 0 < Nat.gcd t b := Nat.gcd_pos_of_pos_right _ (by omega)
    have gl : Nat.gcd t b ≤ b := Nat.le_of_dvd (by omega) (Nat.gcd_dvd_right t b)
    refine ⟨_, rfl, .inl ⟨_, rfl, _, rfl, _, _, rfl, rfl, ⟨by omega, by omega⟩, _, rfl, .inl ⟨_, rfl, _, rfl, _, _, rfl, rfl, ⟨by omega, by omega⟩, by show 2 ≤ sizeLine; decide, fun r hr => ?_⟩⟩⟩
    refine q r _ (Kp.new hr) hr ?_
    have e : fD (lt t b) = .tuple [.int ((t : Int) / (co : Int)), .int ((b : Int) / (co : Int))] := by
      unfold fD lt
      rw [← hg]
      rfl
    rw [e]
    exact DX.newT (.cons (.int _) (.cons (.int _) .nil)) hr (fun z => nomatch z)
mutual
def Tr.ws : Tr → List PyData → Nat → List (List PyData × Nat)
  | .leaf _, q, w => [(q, w)]
  | .look pl rows, q, w => wss rows pl q (w / rows.length)
def wss : List (Int × Tr) → PyData → List PyData → Nat → List (List PyData × Nat)
  | [], _, _, _ => []
  | (_, t) :: r, pl, q, w => t.ws (q ++ [pl]) w ++ wss r pl q w
end
mutual
theorem Tr.ws_eq (W : Nat) : ∀ (t : Tr) (q : List PyData) (b : Nat), t.ws (q.map plOf) (W / b) = (t.lv q (b : Int)).map fun l => (l.path.map plOf, W / l.bot.toNat)
  | .leaf v, q, b => by rw [Tr.ws, Tr.lv]; rfl
  | .look pl rows, q, b => by
    have e : (b : Int) * (rows.length : Int) = ((b * rows.length : Nat) : Int) := by rw [Int.natCast_mul]
    rw [Tr.ws, Tr.lv, e, ← wss_eq W rows pl q (b * rows.length), Nat.div_div_eq_div_mul]
theorem wss_eq (W : Nat) : ∀ (rows : List (Int × Tr)) (pl : PyData) (q : List PyData) (b : Nat), wss rows pl (q.map plOf) (W / b) = (lvs rows pl q (b : Int)).map fun l => (l.path.map plOf, W / l.bot.toNat)
  | [], pl, q, b => by rw [wss, lvs]; rfl
  | (a, t) :: r, pl, q, b => by
    have z := Tr.ws_eq W t (q ++ [stp pl a]) b
    rw [List.map_append] at z
    rw [wss, lvs, List.map_append, ← wss_eq W r pl q b, ← z]
    rfl
end
mutual
theorem Tr.ws_len : ∀ (t : Tr) (q : List PyData) (w : Nat) (p : List PyData) (b : Int), (t.ws q w).length = (t.lv p b).length
  | .leaf v, q, w, p, b => by rw [Tr.ws, Tr.lv]; rfl
  | .look pl rows, q, w, p, b => by rw [Tr.ws, Tr.lv, wss_len]
theorem wss_len : ∀ (rows : List (Int × Tr)) (pl : PyData) (q : List PyData) (w : Nat) (p : List PyData) (b : Int), (wss rows pl q w).length = (lvs rows pl p b).length
  | [], pl, q, w, p, b => by rw [wss, lvs]; rfl
  | (a, t) :: r, pl, q, w, p, b => by rw [wss, lvs, List.length_append, List.length_append, Tr.ws_len t _ _ (p ++ [stp pl a]) b, wss_len r pl q w p b]
end
def wD (x : List PyData × Nat) : PyData := .tuple [.list x.1, .int (x.2 : Int)]
theorem wss_take (pl : PyData) (q : List PyData) (w : Nat) : ∀ {rows : List (Int × Tr)} {i : Nat} {a : Int} {t : Tr}, rows[i]? = some (a, t) → wss (rows.take (i + 1)) pl q w = wss (rows.take i) pl q w ++ t.ws (q ++ [pl]) w
  | [], _, _, _, h => by simp at h
  | (b, u) :: r, 0, a, t, h => by
    simp at h
    obtain ⟨rfl, rfl⟩ := h
    rw [List.take_succ_cons, List.take_zero, List.take_zero]
    simp [wss]
  | (b, u) :: r, i + 1, a, t, h => by
    have h' : r[i]? = some (a, t) := by simpa using h
    rw [List.take_succ_cons, List.take_succ_cons, wss, wss, wss_take pl q w h', List.append_assoc]
theorem RowsOk.take {m n : Nat} : ∀ {rows : List (Int × Tr)} (i : Nat), RowsOk m n rows → RowsOk m n (rows.take i)
  | [], i, _ => by rw [List.take_nil, RowsOk]; trivial
  | (a, t) :: r, 0, _ => by rw [List.take_zero, RowsOk]; trivial
  | (a, t) :: r, i + 1, h => by
    rw [RowsOk] at h
    rw [List.take_succ_cons, RowsOk]
    exact ⟨h.1, RowsOk.take i h.2⟩
def spWeighed (n : Nat) : Sp := fun vs H Q _ => ∃ (v p : V) (t : Tr) (qs : List PyData) (w : Nat), vs = [v, p, .int (w : Int)] ∧ DX [] H v t.toD ∧ DX [] H p (.list qs) ∧ 1 ≤ n ∧ t.Ok 4 (n - 1) ∧ qs.length + n ≤ 100 ∧ n ≤ 7 ∧
  ∀ (r : Addr) (H' : Hp) (xs : List V), H r = none → Kp [] H H' → H' r = some (.lst xs) → DXs [r] H' xs ((t.ws qs w).map wD) → Q (.ref r) H'
theorem ws4096 {n : Nat} {t : Tr} (ok : t.Ok 4 n) (hn : n ≤ 6) (q : List PyData) (w : Nat) : (t.ws q w).length ≤ 4096 := by
  have l := Tr.lv_len (by decide : 1 ≤ 4) n t [] 1 ok
  have l3 : (4 : Nat) ^ n ≤ 4 ^ 6 := Nat.pow_le_pow_right (by decide) hn
  have l4 : (4 : Nat) ^ 6 = 4096 := by decide
  rw [Tr.ws_len t q w [] 1]
  omega
theorem wss4096 {n : Nat} (hn : n ≤ 6) (pl : PyData) (q : List PyData) (w : Nat) : ∀ {rows : List (Int × Tr)}, RowsOk 4 n rows → (wss rows pl q w).length ≤ rows.length * 4096
  | [], _ => by rw [wss]; exact Nat.zero_le _
  | (a, t) :: r, h => by
    rw [RowsOk] at h
    have q1 := ws4096 h.1 hn (q ++ [pl]) w
    have q2 := wss4096 hn pl q w h.2
    rw [wss, List.length_append, List.length_cons]
    omega
theorem pure_weighed {K : PySem.W.Frag} {n : Nat} (vs : List V) (H : Hp) (Q : VK) (E : XK) (h : spWeighed (n + 1) vs H Q E) :
    t__law_weighed K (spWeighed n) { nx := fun _ H' => Q .non H', rt := Q } (start ["_law_code", "_law_path", "_law_weight", "_law_found", "_law_answer", "_law_below"] vs) H := by
  obtain ⟨v, p, t, qs, w, rfl, hv, hp, _, ok, hps, hn7, q⟩ := h
  have ok' : t.Ok 4 n := ok
  cases hp with
  | @lst pa pxs _ pn ph pd =>
  cases t with
  | leaf val =>
    cases hv with
    | @tup va vxs _ vn vh vd =>
    cases vd with
    | cons g1 vd =>
    cases vd with
    | @cons gv _ _ _ g2 vd =>
    cases vd with
    | nil =>
    cases g1
    refine ⟨_, rfl, _, _, _, _, rfl, rfl, SqT.of vh, rfl, rfl, _, rfl, ?_⟩
    rw [decide_eq_true (rfl : V.str ("leaf" : Str) = V.str ("leaf" : Str))]
    refine iteT ?_
    refine ⟨_, rfl, _, rfl, by show 2 ≤ sizeLine; decide, fun c hc => ?_⟩
    have dc : DX [] (upd H c (.tup [.ref pa, .int (w : Int)])) (.ref c) (wD (qs, w)) := DX.newT (.cons (.lst pn ph pd) (.cons (.int _) .nil)) hc (fun z => nomatch z)
    have kc : Kp [] H (upd H c (.tup [.ref pa, .int (w : Int)])) := Kp.new hc
    generalize upd H c (.tup [.ref pa, .int (w : Int)]) = H1 at dc kc
    refine ⟨by show 1 ≤ sizeLine; decide, fun r hr => ?_⟩
    refine q r _ _ (kc.free hr) (kc.trans (Kp.new hr)) upd_same ?_
    rw [Tr.ws]
    exact .one ((dc.fresh hr).mono (Kp.new hr))
  | look pl rows =>
    cases n with
    | zero => rw [Tr.Ok] at ok'; exact ok'.elim
    | succ n =>
    rw [Tr.Ok] at ok'
    obtain ⟨hpl, hr1, hr2, hrok⟩ := ok'
    cases hv with
    | @tup va vxs _ vn vh vd =>
    cases vd with
    | cons g1 vd =>
    cases vd with
    | @cons gv _ _ _ g2 vd =>
    cases vd with
    | cons g3 vd =>
    cases vd with
    | nil =>
    cases g1
    cases g3 with
    | @tup ra rxs _ rn3 rh rd =>
    refine ⟨_, rfl, _, _, _, _, rfl, rfl, SqT.of vh, rfl, rfl, _, rfl, ?_⟩
    rw [decide_eq_false str_leaf_look]
    refine iteF ?_
    refine ⟨by show 0 ≤ sizeLine; decide, fun f hf => ?_⟩
    have rlen : rxs.length = rows.length := by rw [rd.len, rowsD_len]
    refine ⟨_, rfl, _, _, _, _, rfl, rfl, SqT.of (by rw [upd_ne (ne_of_none vh hf)]; exact vh), rfl, ra, rfl, ⟨rxs, SqT.of (by rw [upd_ne (ne_of_none rh hf)]; exact rh)⟩, ?_⟩
    refine for_tup (xs := rxs) (fun i σ' H' => ∃ (l : Addr) (xs : List V) (s3 s4 : Option V), σ' = [some (.ref va), some (.ref pa), some (.int (w : Int)), some (.ref l), s3, s4] ∧ H l = none ∧ Kp [] H H' ∧ H' l = some (.lst xs) ∧ DXs [l] H' xs ((wss (rows.take i) pl qs (w / rows.length)).map wD)) ?_ ?_ ?_ ?_
    · exact ⟨f, [], _, _, rfl, hf, Kp.new hf, upd_same, by rw [List.take_zero, wss]; exact .nil⟩
    · rintro i σ' H' _ ⟨l, xs, s3, s4, rfl, hl, kk, _, _⟩
      exact SqT.of (kk _ _ (fun z => nomatch z) rh)
    · rintro i x σ' H' hx ⟨l, xs, s3, s4, rfl, hl, kk, hxl, dxl⟩
      obtain ⟨d, ed, dx⟩ := rd.get hx
      have hlt : i < rows.length := by
        rw [← rlen]
        exact (List.getElem?_eq_some_iff.mp hx).1
      obtain ⟨⟨ai, ti⟩, er⟩ : ∃ r, rows[i]? = some r := ⟨_, List.getElem?_eq_getElem hlt⟩
      rw [rowsD_get er] at ed
      cases ed
      cases dx with
      | @tup ta txs _ tn th td =>
      cases td with
      | cons t1 td =>
      cases td with
      | @cons tv _ _ _ t2 td =>
      cases td with
      | nil =>
      cases t1
      have th' := kk _ _ tn th
      refine ⟨ta, _, rfl, SqT.of th', rfl, _, _, rfl, _, _, rfl, rfl, ?_⟩
      refine ⟨_, rfl, _, rfl, _, rfl, _, rfl, _, _, _, _, rfl, rfl, SqT.of (kk _ _ vn vh), rfl, by show 1 ≤ sizeLine; decide, fun b1 hb1 => ?_⟩
      have e1 : upd H' b1 (.lst [gv]) b1 = some (.lst [gv]) := upd_same
      have kb1 : Kp [] H' (upd H' b1 (.lst [gv])) := Kp.new hb1
      generalize upd H' b1 (.lst [gv]) = H3 at e1 kb1
      have k3 := kk.trans kb1
      refine ⟨pa, b1, _, _, rfl, rfl, k3 _ _ pn ph, e1, sz (by rw [pd.len]; show qs.length + 1 ≤ 100000; omega), fun b2 hb2 => ?_⟩
      have d2 : DX [] (upd H3 b2 (.lst (pxs ++ [gv]))) (.ref b2) (.list (qs ++ [pl])) := DX.newL ((pd.mono k3).app (.one (g2.mono k3))) hb2 (fun z => nomatch z)
      have kb2 : Kp [] H' (upd H3 b2 (.lst (pxs ++ [gv]))) := kb1.trans (Kp.new hb2)
      generalize upd H3 b2 (.lst (pxs ++ [gv])) = H4 at d2 kb2
      have k4 := kk.trans kb2
      refine ⟨_, rfl, .inl ⟨_, rfl, _, rfl, _, _, _, _, rfl, rfl, SqT.of (k4 _ _ vn vh), rfl, _, _, rfl, .inr ⟨_, SqT.of (k4 _ _ rn3 rh), rfl⟩, _, _, rfl, rfl, ⟨by omega, by omega⟩, ?_⟩⟩
      refine ⟨tv, .ref b2, ti, qs ++ [pl], w / rows.length, ?_, t2.mono k4, d2, by omega, hrok.get er, by rw [List.length_append, List.length_singleton]; omega, by omega, fun u H6 ys hu k6 eu du => ?_⟩
      · rw [rlen]; rfl
      have k46 := kb2.trans k6
      have nl := k46 _ _ (fun z => nomatch z) hxl
      have z1 := wss4096 (by omega) pl qs (w / rows.length) (hrok.take i)
      have z2 := ws4096 (hrok.get er) (by omega) (qs ++ [pl]) (w / rows.length)
      rw [List.length_take] at z1
      refine ⟨l, u, xs, ys, rfl, rfl, nl, eu, sz (by rw [dxl.len, du.len, List.length_map, List.length_map]; omega), fun c hc => ?_⟩
      refine ⟨c, _, _, _, rfl, (kk.trans k46).free hc, (kk.trans k46).trans (Kp.new hc), upd_same, ?_⟩
      rw [wss_take pl qs _ er, List.map_append]
      exact (((dxl.all.mono k46).app du.all).fresh hc).mono (Kp.new hc)
    · rintro σ' H' ⟨l, xs, s3, s4, rfl, hl, kk, hxl, dxl⟩
      refine ⟨_, rfl, ?_⟩
      refine q l H' xs hl kk hxl ?_
      rw [rlen, List.take_length] at dxl
      rw [Tr.ws]
      exact dxl
theorem RowsOk.snoc {m n : Nat} : ∀ {rows : List (Int × Tr)} {a : Int} {t : Tr}, RowsOk m n rows → t.Ok m n → RowsOk m n (rows ++ [(a, t)])
  | [], a, t, _, h => by rw [List.nil_append, RowsOk, RowsOk]; exact ⟨h, trivial⟩
  | (b, u) :: r, a, t, k, h => by
    rw [RowsOk] at k
    rw [List.cons_append, RowsOk]
    exact ⟨k.1, RowsOk.snoc k.2 h⟩
theorem RowsAt.snoc : ∀ {rows : List (Int × Tr)} {a : Int} {t : Tr}, RowsAt rows → t.At → RowsAt (rows ++ [(a, t)])
  | [], a, t, _, h => by rw [List.nil_append, RowsAt, RowsAt]; exact ⟨h, trivial⟩
  | (b, u) :: r, a, t, k, h => by
    rw [RowsAt] at k
    rw [List.cons_append, RowsAt]
    exact ⟨k.1, RowsAt.snoc k.2 h⟩
theorem rowsD_snoc : ∀ (rows : List (Int × Tr)) (a : Int) (t : Tr), rowsD (rows ++ [(a, t)]) = rowsD rows ++ [.tuple [.int a, t.toD]]
  | [], a, t => by rw [List.nil_append, rowsD, rowsD, rowsD]; rfl
  | (b, u) :: r, a, t => by rw [List.cons_append, rowsD, rowsD, rowsD_snoc r a t]; rfl
/-- the law's own trees: deep below n; at most bd n draws -/
def bd : Nat → Nat
  | 0 => 3
  | n + 1 => 3 + 4 * bd n
def spTree (n : Nat) : Sp := fun vs H Q _ => ∃ (a : Addr) (deep k : Nat) (ex : List Addr), vs = [.ref a, .int deep] ∧ deep < n ∧ Dr a k H ∧ k + bd n ≤ 2 ^ 40 ∧ a ∈ ex ∧ Trk ex H ∧
  ∀ (v : V) (t : Tr) (H' : Hp), Kp [a] H H' → Dr a (k + bd n) H' → DX ex H' v t.toD → t.Ok 4 deep → t.At → Q v H'
def placeVals : List PyData := [.tuple [], .tuple [.int 0, .int 1], .tuple [.int 2, .int 0, .int 5], .tuple [.int (10 ^ (20 : Int).toNat)]]
def ansVals : List (List Int) := [[0], [0, 1], [1, 0], [0, 1, 2], [2, 0, 1], [3, 2, 1, 0]]
theorem ppI (ns : List Int) : Pp (.tuple (ns.map PyData.int)) := by
  refine ⟨?_, ?_, ?_⟩
  · show PyData.canLayAll0 (ns.map PyData.int) = true
    induction ns with
    | nil => rw [List.map_nil, PyData.canLayAll0]
    | cons n r ih => rw [List.map_cons, PyData.canLayAll0, PyData.canLay0, ih]; rfl
  · show PyData.depthAll (ns.map PyData.int) + 1 ≤ 3
    have e : PyData.depthAll (ns.map PyData.int) = 0 := by
      induction ns with
      | nil => rw [List.map_nil, PyData.depthAll]
      | cons n r ih => rw [List.map_cons, PyData.depthAll, PyData.depth, ih]; rfl
    omega
  · show noLs (ns.map PyData.int) = true
    induction ns with
    | nil => rw [List.map_nil, noLs]
    | cons n r ih => rw [List.map_cons, noLs, noL, ih]; rfl
theorem pp_places : ∀ d ∈ placeVals, Pp d := by
  intro d hd
  have e : placeVals = ([[], [0, 1], [2, 0, 5], [10 ^ (20 : Int).toNat]] : List (List Int)).map fun ns => .tuple (ns.map PyData.int) := rfl
  rw [e] at hd
  obtain ⟨ns, _, rfl⟩ := List.mem_map.mp hd
  exact ppI ns
theorem pure_tree {K : PySem.W.Frag} {n : Nat} (vs : List V) (H : Hp) (Q : VK) (E : XK) (h : spTree (n + 1) vs H Q E) :
    t__law_tree K spDraw spPick (spTree n) { nx := fun _ H' => Q .non H', rt := Q } (start ["_law_draws", "_law_deep", "_law_spot", "_law_some", "_law_answer"] vs) H := by
  obtain ⟨a, deep, k, ex, rfl, hdeep, D, hk, hax, TX, q⟩ := h
  have hb : bd (n + 1) = 3 + 4 * bd n := rfl
  -- the leaf
  have leaf : ∀ (H1 : Hp) (j : Nat), Kp [a] H H1 → Dr a j H1 → j + 1 ≤ k + bd (n + 1) → (tRet (tTup (tCons (tC (.str "leaf")) (tCons (tCall spDraw [] E0 (tCons (tVar 0) (tCons (tC (.int 3)) tNil))) tNil))))
      { nx := fun _ H' => Q .non H', rt := Q } [some (.ref a), some (.int deep), none, none, none] H1 := by
    intro H1 j k1 D1 hj
    have T := TX.keepD k1 D1
    refine ⟨_, rfl, a, 3, j, rfl, by decide, by decide, D1, by omega, fun r H2 r0 r3 k2 D2 => ?_⟩
    refine ⟨by show 2 ≤ sizeLine; decide, fun c hc => ?_⟩
    have nc := (T.keepD k2 D2).nin hc
    refine q _ (.leaf (.int r)) _ ((k1.trans k2).trans (Kp.new hc)) ((D2.keep (Kp.new hc)).mono (by omega)) ?_ ?_ ?_
    · rw [Tr.toD]
      exact DX.newT (.cons (.str _) (.cons (.int r) .nil)) hc nc
    · rw [Tr.Ok]
      exact .int _ _
    · rw [Tr.At, noL]
  refine ⟨_, rfl, rfl, _, rfl, ?_⟩
  cases deep with
  | zero =>
    have e0 : V.int ((0 : Nat) : Int) = V.int 0 := rfl
    rw [decide_eq_true e0]
    refine iteT (iteT ?_)
    exact leaf H k Kp.refl D (by omega)
  | succ deep =>
  have ne : ¬ (V.int ((deep + 1 : Nat) : Int) = V.int 0) := by
    intro z; injection z with z; omega
  rw [decide_eq_false ne]
  refine iteF ?_
  refine ⟨_, rfl, a, 4, k, rfl, by decide, by decide, D, by omega, fun r H1 r0 r5 k1 D1 => ?_⟩
  refine ⟨rfl, _, rfl, ?_⟩
  refine ite2 (fun _ => ?_) (fun _ => ?_)
  · exact leaf H1 (k + 1) k1 D1 (by omega)
  have T1 := TX.keepD k1 D1
  refine pick_lit hax (ds := placeVals) rfl D1 (by omega) (evx_lst T1 (evx_cons (evx_tup T1 evx_nil) (evx_cons (evx_tup T1 (evx_cons evx_int (evx_cons evx_int evx_nil))) (evx_cons (evx_tup T1 (evx_cons evx_int (evx_cons evx_int (evx_cons evx_int evx_nil)))) (evx_cons (evx_tup T1 (evx_cons (evx_pow ⟨by decide, by decide, by decide⟩) evx_nil)) evx_nil)))))
    (by decide) (by decide) fun pv pd H2 hpd dpv k2 D2 => ?_
  have T2 := T1.keepD k2 D2
  refine pick_lit hax (ds := ansVals.map fun ns => .list (ns.map PyData.int)) rfl D2 (by omega) (evx_lst T2 (evx_cons (evx_lst T2 (evx_cons evx_int evx_nil)) (evx_cons (evx_lst T2 (evx_cons evx_int (evx_cons evx_int evx_nil))) (evx_cons (evx_lst T2 (evx_cons evx_int (evx_cons evx_int evx_nil))) (evx_cons (evx_lst T2 (evx_cons evx_int (evx_cons evx_int (evx_cons evx_int evx_nil)))) (evx_cons (evx_lst T2 (evx_cons evx_int (evx_cons evx_int (evx_cons evx_int evx_nil)))) (evx_cons (evx_lst T2 (evx_cons evx_int (evx_cons evx_int (evx_cons evx_int (evx_cons evx_int evx_nil))))) evx_nil)))))))
    (by decide) (by decide) fun av ad H3 had dav k3 D3 => ?_
  obtain ⟨ns, hns, rfl⟩ := List.mem_map.mp had
  have ns3 : 1 ≤ ns.length ∧ ns.length ≤ 4 := by
    have z : ∀ l ∈ ansVals, 1 ≤ l.length ∧ l.length ≤ 4 := by decide
    exact z ns hns
  cases dav with
  | @lst s xs _ sn sh sd =>
  have xlen : xs.length = ns.length := by rw [sd.len, List.length_map]
  -- the rows
  refine ⟨_, rfl, _, rfl, s, rfl, ⟨xs, SqL.of sh⟩, fun L hL => ?_⟩
  have T3 := T2.keepD k3 D3
  have nL : L ∉ ex := T3.nin hL
  have La : L ≠ a := fun z => nL (by rw [z]; exact hax)
  have D3L : Dr a (k + 3) H3 := D3
  refine lc_list (xs := xs) (fun i H' => ∃ (rows : List (Int × Tr)) (acc : List V), rows.length = i ∧ RowsOk 4 deep rows ∧ RowsAt rows ∧ Kp [a] H3 H' ∧ Dr a (k + 3 + i * bd n) H' ∧ H' L = some (.lst acc) ∧ DXs (L :: ex) H' acc (rowsD rows)) ?_ ?_ ?_ ?_
  · refine ⟨[], [], rfl, by rw [RowsOk]; trivial, by rw [RowsAt]; trivial, Kp.new hL, ?_, upd_same, by rw [rowsD]; exact .nil⟩
    rw [Nat.zero_mul]
    exact D3.keep (Kp.new hL)
  · rintro i H' _ ⟨rows, acc, _, _, _, k4, _⟩
    exact SqL.of (k4 _ _ (nin1 fun z => sn (by rw [z]; exact hax)) sh)
  · rintro i x H' hx ⟨rows, acc, hrl, hrok, hrat, k4, D4, eL, dacc⟩
    obtain ⟨d, ed, dx⟩ := sd.get hx
    have hi : i < ns.length := by
      rw [← xlen]; exact (List.getElem?_eq_some_iff.mp hx).1
    rw [List.getElem?_map] at ed
    obtain ⟨ai, _, rfl⟩ := Option.map_eq_some_iff.mp ed
    cases dx
    have hib : (i + 1) * bd n ≤ 4 * bd n := Nat.mul_le_mul_right _ (by omega)
    rw [Nat.succ_mul] at hib
    have T4 : Trk (L :: ex) H' := fun b hb => by
      rcases List.mem_cons.mp hb with rfl | hb
      · exact ⟨_, eL⟩
      · exact T3.keepD k4 D4 b hb
    refine ⟨rfl, ?_⟩
    refine ⟨_, rfl, _, rfl, _, rfl, _, _, rfl, rfl, a, deep, k + 3 + i * bd n, L :: ex, ?_, by omega, D4, by omega, List.mem_cons_of_mem _ hax, T4, fun tv t H5 k5 D5 dt okt att => ?_⟩
    · show [V.ref a, V.int (((deep + 1 : Nat) : Int) - 1)] = [V.ref a, V.int (deep : Int)]
      rw [show (((deep + 1 : Nat) : Int) - 1) = (deep : Int) by omega]
    have eL5 := k5 _ _ (nin1 La) eL
    refine ⟨by show 2 ≤ sizeLine; decide, fun c hc => ?_⟩
    have Lc : L ≠ c := ne_of_none eL5 hc
    have nc := (T4.keepD k5 D5).nin hc
    have kc : ∀ (ex : List Addr) (o : HO), Kp ex H5 (upd H5 c o) := fun _ o => Kp.new hc
    refine ⟨acc, by rw [upd_ne Lc]; exact eL5, szl (by rw [dacc.len, rowsD_len]; omega), ?_⟩
    have dnew : DX (L :: ex) (upd H5 c (.tup [.int ai, tv])) (.ref c) (.tuple [.int ai, t.toD]) := DX.newT (.cons (.int ai) (.cons dt .nil)) hc nc
    have dold := (dacc.mono (k5.ex1 (List.mem_cons_of_mem _ hax))).mono (kc _ (.tup [.int ai, tv]))
    have D6 := D5.keep (kc [] (.tup [.int ai, tv]))
    have k6 := (k4.trans k5).trans (kc [a] (.tup [.int ai, tv]))
    generalize upd H5 c (.tup [.int ai, tv]) = H6 at dnew dold D6 k6
    have km : ∀ o : HO, Kp (L :: ex) H6 (upd H6 L o) := fun o => Kp.mut List.mem_cons_self
    refine ⟨rows ++ [(ai, t)], _, by rw [List.length_append, hrl]; rfl, hrok.snoc okt, hrat.snoc att, ?_, ?_, upd_same, ?_⟩
    · exact Kp.drop ((k6.mono fun b hb => List.mem_cons_of_mem _ hb).trans (Kp.mut List.mem_cons_self)) hL
    · refine (D6.keepx (ex := [L]) (Kp.mut (List.mem_singleton.mpr rfl)) (nin1 La.symm)).mono ?_
      rw [Nat.succ_mul]; omega
    · rw [rowsD_snoc]
      exact (dold.mono (km _)).app (.one (dnew.mono (km _)))
  · rintro H' ⟨rows, acc, hrl, hrok, hrat, k4, D4, eL, dacc⟩
    have T4 := T3.keepD k4 D4
    rw [xlen] at hrl
    refine ⟨L, acc, rfl, .inl ⟨SqL.of eL, fun r hr => ?_⟩⟩
    have nr := T4.nin hr
    have dr : DX ex (upd H' r (.tup acc)) (.ref r) (.tuple (rowsD rows)) := DX.newT (dacc.less fun b hb => List.mem_cons_of_mem _ hb) hr nr
    have kr : Kp [] H' (upd H' r (.tup acc)) := Kp.new hr
    generalize upd H' r (.tup acc) = H5 at dr kr
    refine ⟨by show 3 ≤ sizeLine; decide, fun c hc => ?_⟩
    have D5 := D4.keep kr
    have nc := (T4.keep kr).nin hc
    have hib : ns.length * bd n ≤ 4 * bd n := Nat.mul_le_mul_right _ ns3.2
    rw [xlen] at D5
    refine q _ (.look pd rows) _ (((((k1.trans k2).trans k3).trans k4).trans kr.any).trans (Kp.new hc)) ((D5.keep (Kp.new hc)).mono (by omega)) ?_ ?_ ?_
    · rw [Tr.toD]
      exact DX.newT (.cons (.str _) (.cons ((dpv.mono (k3.ex1 hax)).mono ((k4.ex1 hax).trans kr.any)) (.cons dr .nil))) hc nc
    · rw [Tr.Ok]
      exact ⟨szBs_ok 3 placeVals (by decide +kernel) pd hpd, by omega, by omega, hrok⟩
    · rw [Tr.At]
      exact ⟨pp_places pd hpd, hrat⟩
end FL

/-! ## k38: the law -/
namespace FL
open PySem L2
def spLaw (K : PySem.W.Frag) : Sp := fun vs H Q _ => ∃ (a : Addr) (ns : List Int), vs = [.ref a] ∧ SqL K H a (ns.map V.int) ∧ ns.length ≤ 63 ∧ ∀ H', Q (.bl true) H'
theorem Kp.sq {K : PySem.W.Frag} {H H' : Hp} {a : Addr} {xs : List V} (k : Kp [] H H') (h : SqL K H a xs) : SqL K H' a xs := k.same.seq h
theorem cast_sum {α : Type} (f : α → Nat) : ∀ l : List α, (l.map fun x => ((f x : Nat) : Int)).sum = (((l.map f).sum : Nat) : Int)
  | [] => rfl
  | a :: r => by rw [List.map_cons, List.map_cons, List.sum_cons, List.sum_cons, cast_sum f r, Int.natCast_add]
theorem fD_sz (q : Nat × Nat) : Sz 7 (fD q) := .tup (by show 2 ≤ 100000; decide) fun d hd => by
  rcases List.mem_cons.mp hd with rfl | hd
  · exact .int _ _
  · rw [List.mem_singleton.mp hd]; exact .int _ _
theorem shaped_list {ds : List PyData} (h : ∀ d ∈ ds, Pp d) : SeqAt.shaped (.list ds) = true := by
  have e1 : PyData.canLayAll0 ds = true := by
    induction ds with
    | nil => rw [PyData.canLayAll0]
    | cons d r ih => rw [PyData.canLayAll0, (h d List.mem_cons_self).1, ih fun e he => h e (List.mem_cons_of_mem _ he)]; rfl
  have e2 : PyData.depthAll ds ≤ 3 := by
    clear e1
    induction ds with
    | nil => rw [PyData.depthAll]; decide
    | cons d r ih =>
      have a := (h d List.mem_cons_self).2.1
      have b := ih fun e he => h e (List.mem_cons_of_mem _ he)
      rw [PyData.depthAll]
      omega
  unfold SeqAt.shaped
  rw [show (PyData.list ds).canLay0 = PyData.canLayAll0 ds by rw [PyData.canLay0], e1, Bool.true_and]
  refine decide_eq_true ?_
  rw [show (PyData.list ds).depth = PyData.depthAll ds + 1 by rw [PyData.depth]]
  omega
def spotVals : List PyData := [.tuple [], .tuple [.int 0, .int 1], .tuple [.int 2, .int 0, .int 5], .tuple [.int (10 ^ (20 : Int).toNat)], .tuple [.int 7], .tuple [.int 0, .int 0]]
theorem pp_spots : ∀ d ∈ spotVals, Pp d := by
  intro d hd
  have e : spotVals = ([[], [0, 1], [2, 0, 5], [10 ^ (20 : Int).toNat], [7], [0, 0]] : List (List Int)).map fun ns => .tuple (ns.map PyData.int) := rfl
  rw [e] at hd
  obtain ⟨ns, _, rfl⟩ := List.mem_map.mp hd
  exact ppI ns
/-- the row of a leaf -/
def lw (l : Lf) : PyData := wD (l.path.map plOf, D4 / l.bot.toNat)
theorem ws_top (t : Tr) : (t.ws [] D4).map wD = (t.lv [] 1).map lw := by
  have z := Tr.ws_eq D4 t [] 1
  rw [Nat.div_one, List.map_nil] at z
  rw [z, List.map_map]
  rfl
/-- the rows' own tree -/
def two (t1 t2 : Tr) : Tr := .look (.tuple [.int 7]) [(1, t1), (0, t2), (2, .leaf (.int 0)), (3, t1)]
theorem two_ok {t1 t2 : Tr} (h1 : t1.Ok 4 3) (h2 : t2.Ok 4 2) : (two t1 t2).Ok 4 4 := by
  unfold two
  rw [Tr.Ok]
  refine ⟨szB_ok 3 _ (by decide +kernel), by show 1 ≤ 4; decide, by show 4 ≤ 4; decide, ?_⟩
  rw [RowsOk, RowsOk, RowsOk, RowsOk, RowsOk]
  exact ⟨h1, Tr.Ok_up _ _ _ h2 (by decide), by rw [Tr.Ok]; exact .int _ _, h1, trivial⟩
theorem two_at {t1 t2 : Tr} (h1 : t1.At) (h2 : t2.At) : (two t1 t2).At := by
  unfold two
  rw [Tr.At]
  refine ⟨ppI [7], ?_⟩
  rw [RowsAt, RowsAt, RowsAt, RowsAt, RowsAt]
  exact ⟨h1, h2, by rw [Tr.At, noL], h1, trivial⟩
mutual
/-- a path that has a step keeps it -/
theorem Tr.lv_has {pd : PyData} : ∀ (t : Tr) (p : List PyData) (b : Int), (p.any fun d => PyData.eqv (plOf d) pd) = true → ∀ l ∈ t.lv p b, hasP pd l = true
  | .leaf v, p, b, h => by
    rw [Tr.lv]
    intro l hl
    rw [List.mem_singleton.mp hl]
    exact h
  | .look pl rows, p, b, h => by
    rw [Tr.lv]
    exact lvs_has rows pl p _ h
theorem lvs_has {pd : PyData} : ∀ (rows : List (Int × Tr)) (pl : PyData) (p : List PyData) (b : Int), (p.any fun d => PyData.eqv (plOf d) pd) = true → ∀ l ∈ lvs rows pl p b, hasP pd l = true
  | [], pl, p, b, _ => by rw [lvs]; intro l hl; cases hl
  | (a, t) :: r, pl, p, b, h => by
    rw [lvs]
    intro l hl
    rcases List.mem_append.mp hl with hl | hl
    · exact Tr.lv_has t _ b (by rw [List.any_append, h]; rfl) l hl
    · exact lvs_has r pl p b h l hl
end
theorem lvs_all {pl : PyData} (h : PyData.eqv pl pl = true) : ∀ (rows : List (Int × Tr)) (p : List PyData) (b : Int), ∀ l ∈ lvs rows pl p b, hasP pl l = true
  | [], p, b => by rw [lvs]; intro l hl; cases hl
  | (a, t) :: r, p, b => by
    rw [lvs]
    intro l hl
    rcases List.mem_append.mp hl with hl | hl
    · refine Tr.lv_has t _ b ?_ l hl
      rw [List.any_append]
      have e : ([stp pl a].any fun d => PyData.eqv (plOf d) pl) = true := by
        rw [List.any_cons]
        show (PyData.eqv pl pl || _) = true
        rw [h]; rfl
      rw [e, Bool.or_true]
    · exact lvs_all h r p b l hl
theorem two_share {t1 t2 : Tr} (ok : (two t1 t2).Ok 4 4) : lt (wsum D4 (shareParts (.tuple [.int 7]) (two t1 t2))) D4 = (1, 1) := by
  have e7 : PyData.eqv (.tuple [.int 7]) (.tuple [.int 7]) = true := by decide +kernel
  have hall : ∀ l ∈ (two t1 t2).lv [] 1, hasP (.tuple [.int 7]) l = true := by
    unfold two
    rw [Tr.lv]
    exact lvs_all e7 _ _ _
  have ef : ((two t1 t2).lv [] 1).filter (hasP (.tuple [.int 7])) = (two t1 t2).lv [] 1 := List.filter_eq_self.mpr hall
  have es : wsum D4 (shareParts (.tuple [.int 7]) (two t1 t2)) = D4 := by
    unfold shareParts wsum
    rw [ef, List.map_map]
    have z := Tr.lv_sum (W := D4) (Nat.le_refl 4) 4 (two t1 t2) [] 1 ok (Nat.le_refl 1) (by decide)
    rw [Nat.div_one] at z
    refine Eq.trans ?_ z
    congr 1
    refine List.map_congr_left fun l _ => ?_
    show 1 * (D4 / l.bot.toNat) = D4 / l.bot.toNat
    rw [Nat.one_mul]
  rw [es]
  decide
theorem leaf_mean : lt (wsum D4 (depthParts (.leaf (.int 5)))) D4 = (0, 1) := by
  have e : depthParts (.leaf (.int 5)) = [(0, 1)] := by unfold depthParts; rw [Tr.lv]; rfl
  rw [e]
  decide
theorem pow12 : (12 : Int) ^ (4 : Int).toNat = ((D4 : Nat) : Int) := by decide
theorem pure_law {K : PySem.W.Frag} (vs : List V) (H : Hp) (Q : VK) (E : XK) (h : spLaw K vs H Q E) :
    t_law K (spSource K) (spTree 4) (spWeighed 5) (spSame 7) spLow spShare spMean { nx := fun _ H' => Q .non H', rt := Q }
      (start ["_law_script", "_law_k", "_law_draws", "_law_one", "_law_two", "_law_code", "_law_rows", "_law_spot", "_law_due", "_law_path", "_law_weight"] vs) H := by
  obtain ⟨sc, ns, rfl, hS, h63, q⟩ := h
  refine ⟨_, rfl, _, _, rfl, .inl ⟨_, hS, rfl⟩, _, _, rfl, _, _, rfl, rfl, _, rfl, ?_⟩
  have hl : (ns.map V.int).length = ns.length := List.length_map _
  have e62 : (2 : Int) ^ 62 = 4611686018427387904 := by decide
  have hb : 0 ≤ 2 + (if (4 : Int) < ((ns.map V.int).length : Int) then (4 : Int) else ((ns.map V.int).length : Int)) ∧ 2 + (if (4 : Int) < ((ns.map V.int).length : Int) then (4 : Int) else ((ns.map V.int).length : Int)) ≤ 8 := by split <;> omega
  refine ⟨by rw [e62]; omega, by rw [e62]; omega, ?_⟩
  refine for_range (fun i σ' H' => (∃ s1 s2 s3 s4 s5 s6 s7 s8 s9 s10, σ' = [some (.ref sc), s1, s2, s3, s4, s5, s6, s7, s8, s9, s10]) ∧ Kp [] H H') ?_ ?_ ?_
  · exact ⟨⟨_, _, _, _, _, _, _, _, _, _, rfl⟩, Kp.refl⟩
  · rintro i σ' H1 hi ⟨⟨s1, s2, s3, s4, s5, s6, s7, s8, s9, s10, rfl⟩, k1⟩
    refine ⟨_, rfl, _, rfl, sc, ns, 0 + (i : Int), rfl, k1.sq hS, h63, by omega, by omega, fun a H2 ha k2 D2 => ?_⟩
    have ma : a ∈ [a] := List.mem_singleton.mpr rfl
    have b4 : bd 4 ≤ 10000 := by decide
    have e40 : (2 : Nat) ^ 40 = 1099511627776 := by decide
    refine ⟨_, rfl, a, 3, 0, [a], rfl, by decide, D2, by rw [e40]; omega, ma, D2.trk, fun v1 t1 H3 k3 D3 dt1 ok1 at1 => ?_⟩
    -- two
    have T3 := D3.trk
    refine st_g (tseq (tasg (ttup (tcons_c (tcons_x (evx_tup T3 (evx_cons evx_int evx_nil)) fun p7 H4 k34 d7 => ?_)))))
    have d14 := dt1.mono k34.any
    have D4' := D3.keep k34
    refine tcons (ttup (tcons_x (evx_tup D4'.trk (evx_cons evx_int (evx_cons (evx_var rfl d14) evx_nil))) fun r1 H5 k45 dr1 => ?_))
    have D5 := D4'.keep k45
    refine ⟨_, rfl, a, 2, _, [a], rfl, by decide, D5, by rw [e40]; omega, ma, D5.trk, fun v2 t2 H6 k6 D6 dt2 ok2 at2 => ?_⟩
    refine ⟨by show 2 ≤ sizeLine; decide, fun r2 hr2 => ?_⟩
    have dr2 : DX [a] (upd H6 r2 (.tup [.int 0, v2])) (.ref r2) (.tuple [.int 0, t2.toD]) := DX.newT (.cons (.int 0) (.cons dt2 .nil)) hr2 (D6.trk.nin hr2)
    have kr2 : Kp [] H6 (upd H6 r2 (.tup [.int 0, v2])) := Kp.new hr2
    generalize upd H6 r2 (.tup [.int 0, v2]) = H7 at dr2 kr2
    have D7 := D6.keep kr2
    have T7 := D7.trk
    refine tcons_x (evx_tup T7 (evx_cons evx_int (evx_cons (evx_tup T7 (evx_cons evx_str (evx_cons evx_int evx_nil))) evx_nil))) fun r3 H8 k78 dr3 => ?_
    have D8 := D7.keep k78
    have k48 : Kp [a] H4 H8 := k45.any.trans (k6.trans (kr2.any.trans k78.any))
    have d18 : DX [a] H8 v1 t1.toD := d14.mono k48
    refine tcons_x (evx_tup D8.trk (evx_cons evx_int (evx_cons (evx_var rfl d18) evx_nil))) fun r4 H9 k89 dr4 => ?_
    have D9 := D8.keep k89
    refine ⟨by show 4 ≤ sizeLine; decide, fun rr hrr => ?_⟩
    have k69 : Kp [a] H5 H9 := k6.trans (kr2.any.trans (k78.any.trans k89.any))
    have k79 : Kp [a] H7 H9 := k78.any.trans k89.any
    have drr : DX [a] (upd H9 rr (.tup [r1, .ref r2, r3, r4])) (.ref rr) (.tuple (rowsD [(1, t1), (0, t2), (2, .leaf (.int 0)), (3, t1)])) := by
      refine DX.newT ?_ hrr (D9.trk.nin hrr)
      rw [rowsD, rowsD, rowsD, rowsD, rowsD, Tr.toD]
      exact .cons (dr1.mono k69) (.cons (dr2.mono k79) (.cons (dr3.mono k89.any) (.cons dr4 .nil)))
    have krr : Kp [] H9 (upd H9 rr (.tup [r1, .ref r2, r3, r4])) := Kp.new hrr
    generalize upd H9 rr (.tup [r1, .ref r2, r3, r4]) = H10 at drr krr
    refine ⟨by show 3 ≤ sizeLine; decide, fun tw htw => ?_⟩
    have D10 := D9.keep krr
    have k410 : Kp [a] H4 H10 := k45.any.trans (k69.trans krr.any)
    have dtw : DX [a] (upd H10 tw (.tup [.str "look", p7, .ref rr])) (.ref tw) (two t1 t2).toD := by
      unfold two
      rw [Tr.toD]
      exact DX.newT (.cons (.str _) (.cons (d7.mono k410) (.cons drr .nil))) htw (D10.trk.nin htw)
    have ktw : Kp [] H10 (upd H10 tw (.tup [.str "look", p7, .ref rr])) := Kp.new htw
    generalize upd H10 tw (.tup [.str "look", p7, .ref rr]) = H11 at dtw ktw
    have d1 : DX [] H11 v1 t1.toD := ((d14.mono k410).mono ktw.any).all
    have dtw := dtw.all
    have ka : Kp [] H H11 := by
      refine k1.trans (Kp.drop (p := a) ?_ ha)
      exact k2.any.trans (k3.trans (k34.any.trans (k410.trans ktw.any)))
    have o1 : t1.Ok 4 4 := Tr.Ok_up _ _ _ ok1 (by decide)
    have o2 : (two t1 t2).Ok 4 4 := two_ok ok1 ok2
    have a2 : (two t1 t2).At := two_at at1 at2
    have both : ∀ (j : Nat) (x : V), ([v1, .ref tw, v1] : List V)[j]? = some x → ∃ t : Tr, DX [] H11 x t.toD ∧ t.Ok 4 4 ∧ t.At := by
      intro j x hx
      match j, hx with
      | 0, hx => cases hx; exact ⟨t1, d1, o1, at1⟩
      | 1, hx => cases hx; exact ⟨two t1 t2, dtw, o2, a2⟩
      | 2, hx => cases hx; exact ⟨t1, d1, o1, at1⟩
      | j + 3, hx => simp at hx
    -- for code in (one, two, one)
    refine ⟨_, rfl, _, rfl, _, rfl, by show 3 ≤ sizeLine; decide, fun cs hcs => ?_⟩
    have ecs : upd H11 cs (.tup [v1, .ref tw, v1]) cs = some (.tup [v1, .ref tw, v1]) := upd_same
    have kcs : Kp [] H11 (upd H11 cs (.tup [v1, .ref tw, v1])) := Kp.new hcs
    generalize upd H11 cs (.tup [v1, .ref tw, v1]) = Hb at ecs kcs
    refine ⟨cs, rfl, ⟨_, SqT.of ecs⟩, ?_⟩
    refine for_tup (xs := [v1, .ref tw, v1]) (fun j σ' H' => (∃ s5 s6 s7 s8 s9 s10, σ' = [some (.ref sc), some (.int (0 + (i : Int))), some (.ref a), some v1, some (.ref tw), s5, s6, s7, s8, s9, s10]) ∧ Kp [] Hb H') ?_ ?_ ?_ ?_
    · exact ⟨⟨_, _, _, _, _, _, rfl⟩, Kp.refl⟩
    · rintro j σ' H' _ ⟨_, kk⟩
      exact SqT.of (kk _ _ (fun z => nomatch z) ecs)
    · rintro j x σ' Hc hx ⟨⟨s5, s6, s7, s8, s9, s10, rfl⟩, kc⟩
      obtain ⟨t, dt, ok, hat⟩ := both j x hx
      have dtc := dt.mono (kcs.trans kc)
      -- rows = weighed(code, [], 12 ** 4)
      refine ⟨_, rfl, by show 0 ≤ sizeLine; decide, fun e he => ?_⟩
      have de : DX [] (upd Hc e (.lst [])) (.ref e) (.list []) := DX.newL .nil he (fun z => nomatch z)
      have ke : Kp [] Hc (upd Hc e (.lst [])) := Kp.new he
      generalize upd Hc e (.lst []) = Hd at de ke
      refine ⟨_, _, rfl, rfl, ⟨by decide, by decide, by decide⟩, ?_⟩
      refine ⟨x, .ref e, t, [], D4, by show [x, V.ref e, V.int ((12 : Int) ^ (4 : Int).toNat)] = _; rw [pow12], dtc.mono ke, de, by decide, ok, by decide, by decide, fun r He rs hr k9 er dr => ?_⟩
      have kce := ke.trans k9
      rw [ws_top] at dr
      have l4 := lv4096 (Tr.Ok_up _ 6 _ ok (by decide)) (Nat.le_refl 4) (by decide)
      -- for spot in [..]
      refine st_g (tseq (tforL (evx_lst Trk.nil (ex := []) (evx_cons (evx_tup Trk.nil evx_nil) (evx_cons (evx_tup Trk.nil (evx_cons evx_int (evx_cons evx_int evx_nil))) (evx_cons (evx_tup Trk.nil (evx_cons evx_int (evx_cons evx_int (evx_cons evx_int evx_nil)))) (evx_cons (evx_tup Trk.nil (evx_cons (evx_pow ⟨by decide, by decide, by decide⟩) evx_nil)) (evx_cons (evx_tup Trk.nil (evx_cons evx_int evx_nil)) (evx_cons (evx_tup Trk.nil (evx_cons evx_int (evx_cons evx_int evx_nil))) evx_nil)))))) |>.to _ fun sl Hf kf dsl => ?_)))
      cases dsl with
      | @lst sla sxs _ _ eh sd =>
      have er' := kf _ _ (fun z => nomatch z) er
      have dr' := dr.all.mono kf
      have dtf := (dtc.mono kce).mono kf
      refine ⟨sla, rfl, ⟨sxs, SqL.of eh⟩, ?_⟩
      refine for_list (xs := sxs) (fun m σ' H' => (∃ s7 s8 s9 s10, σ' = [some (.ref sc), some (.int (0 + (i : Int))), some (.ref a), some v1, some (.ref tw), some x, some (.ref r), s7, s8, s9, s10]) ∧ Kp [] Hf H') ?_ ?_ ?_ ?_
      · exact ⟨⟨_, _, _, _, rfl⟩, Kp.refl⟩
      · rintro m σ' H' _ ⟨_, kk⟩
        exact SqL.of (kk _ _ (fun z => nomatch z) eh)
      · rintro m y σ' Hg hy ⟨⟨s7, s8, s9, s10, rfl⟩, kg⟩
        obtain ⟨pd, epd, dy⟩ := sd.get hy
        have hpp : Pp pd := pp_spots pd (List.mem_of_getElem? epd)
        have dyg := dy.mono kg
        -- due = sum([..])
        refine ⟨_, rfl, r, rfl, ⟨rs, SqL.of (kg _ _ (fun z => nomatch z) er')⟩, fun L hL => ?_⟩
        refine lc_list (xs := rs) (fun n H' => Kp [] Hg H' ∧ H' L = some (.lst (((((t.lv [] 1).take n).filter (hasP pd)).map fun l => ((D4 / l.bot.toNat : Nat) : Int)).map V.int))) ⟨Kp.new hL, upd_same⟩ (fun n H' _ z => SqL.of (z.1 _ _ (fun z => nomatch z) (kg _ _ (fun z => nomatch z) er'))) ?_ ?_
        · rintro n w Hh hw ⟨kh, eL⟩
          obtain ⟨d, ed, dw⟩ := dr'.get hw
          rw [List.getElem?_map] at ed
          obtain ⟨l, el, rfl⟩ := Option.map_eq_some_iff.mp ed
          have hst := (Tr.lv_at t [] 1 hat (fun d hd => nomatch hd) l (List.mem_of_getElem? el)).2
          have dw2 := (dw.mono kg).mono kh
          cases dw2 with
          | @tup wa wxs _ wn wh wd =>
          cases wd with
          | cons w1 wd =>
          cases wd with
          | cons w2 wd =>
          cases wd with
          | nil =>
          cases w2
          refine ⟨wa, _, rfl, SqT.of wh, rfl, _, _, rfl, _, _, rfl, rfl, rfl, ?_⟩
          refine ⟨_, rfl, _, rfl, pd, _, (dyg.mono kh).dp, w1.dp, hpp.shaped, shaped_list ?_, _, rfl, ?_⟩
          · intro d hd
            obtain ⟨d', hd', rfl⟩ := List.mem_map.mp hd
            obtain ⟨pl, a, rfl, hh⟩ := hst d' hd'
            exact hh
          have eany : ((l.path.map plOf).any fun z => PyData.eqv z pd) = hasP pd l := by
            unfold hasP
            rw [List.any_map]
            rfl
          show (if ((l.path.map plOf).any fun z => PyData.eqv z pd) = true then _ else _)
          rw [eany]
          refine ite2 (fun c => ?_) (fun c => ?_)
          · have ef : [l].filter (hasP pd) = [l] := by simp [c]
            refine ⟨_, rfl, _, eL, szl ?_, ?_, ?_⟩
            · have z1 := List.length_filter_le (hasP pd) ((t.lv [] 1).take n)
              rw [List.length_take] at z1
              rw [List.length_map, List.length_map]
              omega
            · exact Kp.drop (kh.any.trans (Kp.mut (List.mem_singleton.mpr rfl))) hL
            · rw [upd_same, take_succ el, List.filter_append, ef, List.map_append, List.map_append]
              rfl
          · have c' : hasP pd l = false := Bool.eq_false_iff.mpr c
            have ef : [l].filter (hasP pd) = [] := by simp [c']
            refine ⟨kh, ?_⟩
            rw [take_succ el, List.filter_append, ef, List.append_nil]
            exact eL
        · rintro Hh ⟨kh, eL⟩
          rw [dr'.len, List.length_map, List.take_length] at eL
          refine ⟨L, _, rfl, SqL.of eL, ?_⟩
          rw [cast_sum (fun l : Lf => D4 / l.bot.toNat)]
          have esum : (((t.lv [] 1).filter (hasP pd)).map fun l : Lf => D4 / l.bot.toNat).sum = wsum D4 (shareParts pd t) := by
            unfold wsum shareParts
            rw [List.map_map]
            congr 1
            refine List.map_congr_left fun l _ => ?_
            show D4 / l.bot.toNat = 1 * (D4 / l.bot.toNat)
            rw [Nat.one_mul]
          rw [esum]
          -- the comparison
          have kgh := kg.trans kh
          refine ⟨_, rfl, _, rfl, x, y, t, pd, rfl, dtf.mono kgh, dyg.mono kh, hpp, ok, hat, fun z1 Hi ki dz1 => ?_⟩
          refine ⟨_, rfl, _, _, rfl, rfl, ⟨by decide, by decide, by decide⟩, wsum D4 (shareParts pd t), D4, by show [V.int _, V.int ((12 : Int) ^ (4 : Int).toNat)] = _; rw [pow12], by decide, by decide, fun z2 Hj kj _ dz2 => ?_⟩
          refine ⟨_, _, _, rfl, dz1.mono kj, dz2, fD_sz _, fun Hk kk => ?_⟩
          refine ⟨true, rfl, iteF ?_⟩
          exact ⟨⟨_, _, _, _, rfl⟩, kgh.trans (ki.trans (kj.trans kk))⟩
      · rintro σ' Hg ⟨⟨s7, s8, s9, s10, rfl⟩, kg⟩
        -- due = sum([weight * len(path) ..])
        refine ⟨_, rfl, r, rfl, ⟨rs, SqL.of (kg _ _ (fun z => nomatch z) er')⟩, fun L hL => ?_⟩
        refine lc_list (xs := rs) (fun n H' => Kp [] Hg H' ∧ H' L = some (.lst ((((t.lv [] 1).take n).map fun l => ((l.path.length * (D4 / l.bot.toNat) : Nat) : Int)).map V.int))) ⟨Kp.new hL, upd_same⟩ (fun n H' _ z => SqL.of (z.1 _ _ (fun z => nomatch z) (kg _ _ (fun z => nomatch z) er'))) ?_ ?_
        · rintro n w Hh hw ⟨kh, eL⟩
          obtain ⟨d, ed, dw⟩ := dr'.get hw
          rw [List.getElem?_map] at ed
          obtain ⟨l, el, rfl⟩ := Option.map_eq_some_iff.mp ed
          have dw2 := (dw.mono kg).mono kh
          cases dw2 with
          | @tup wa wxs _ wn wh wd =>
          cases wd with
          | cons w1 wd =>
          cases wd with
          | cons w2 wd =>
          cases wd with
          | nil =>
          cases w2
          cases w1 with
          | @lst pa pxs _ pn ph pdd =>
          have plen : pxs.length = l.path.length := by rw [pdd.len]; exact List.length_map _
          have hD : D4 / l.bot.toNat ≤ D4 := Nat.div_le_self _ _
          have eD : D4 = 20736 := rfl
          have e64 : (2 : Int) ^ 64 = 18446744073709551616 := by decide
          refine ⟨wa, _, rfl, SqT.of wh, rfl, _, _, rfl, _, _, rfl, rfl, rfl, ?_⟩
          refine ⟨_, rfl, _, rfl, _, _, rfl, .inl ⟨_, SqL.of ph, rfl⟩, _, _, rfl, rfl, .inl ⟨?_, ?_⟩, _, eL, szl ?_, ?_, ?_⟩
          · show -(2 ^ 64) < ((D4 / l.bot.toNat : Nat) : Int)
            generalize D4 / l.bot.toNat = z at hD ⊢
            rw [e64]; omega
          · show ((D4 / l.bot.toNat : Nat) : Int) < 2 ^ 64
            generalize D4 / l.bot.toNat = z at hD ⊢
            rw [e64]; omega
          · rw [List.length_map, List.length_map, List.length_take]; omega
          · exact Kp.drop (kh.any.trans (Kp.mut (List.mem_singleton.mpr rfl))) hL
          · rw [upd_same, take_succ el, List.map_append, List.map_append, plen]
            have em : ((l.path.length * (D4 / l.bot.toNat) : Nat) : Int) = ((D4 / l.bot.toNat : Nat) : Int) * (l.path.length : Int) := by rw [Int.natCast_mul, Int.mul_comm]
            show some (HO.lst (_ ++ [V.int (((D4 / l.bot.toNat : Nat) : Int) * (l.path.length : Int))])) = some (HO.lst (_ ++ [V.int ((l.path.length * (D4 / l.bot.toNat) : Nat) : Int)]))
            rw [em]
        · rintro Hh ⟨kh, eL⟩
          rw [dr'.len, List.length_map, List.take_length] at eL
          refine ⟨L, _, rfl, SqL.of eL, ?_⟩
          rw [cast_sum (fun l : Lf => l.path.length * (D4 / l.bot.toNat))]
          have esum : ((t.lv [] 1).map fun l : Lf => l.path.length * (D4 / l.bot.toNat)).sum = wsum D4 (depthParts t) := by
            unfold wsum depthParts
            rw [List.map_map]
            rfl
          rw [esum]
          have kgh := kg.trans kh
          refine ⟨_, rfl, x, t, rfl, dtf.mono kgh, ok, hat, fun z1 Hi ki dz1 => ?_⟩
          refine ⟨_, rfl, _, _, rfl, rfl, ⟨by decide, by decide, by decide⟩, wsum D4 (depthParts t), D4, by show [V.int _, V.int ((12 : Int) ^ (4 : Int).toNat)] = _; rw [pow12], by decide, by decide, fun z2 Hj kj _ dz2 => ?_⟩
          refine ⟨_, _, _, rfl, dz1.mono kj, dz2, fD_sz _, fun Hk kk => ?_⟩
          refine ⟨true, rfl, iteF ?_⟩
          exact ⟨⟨_, _, _, _, _, _, rfl⟩, kc.trans (kce.trans (kf.trans (kgh.trans (ki.trans (kj.trans kk)))))⟩
    · rintro σ' Hc ⟨⟨s5, s6, s7, s8, s9, s10, rfl⟩, kc⟩
      have kall := kcs.trans kc
      -- look_share(place=(7,), tree=two)
      refine tseq (tifs (tnotb (tcall (tcons (tcallK (tcons_x (evx_tup (ex := []) Trk.nil (evx_cons evx_int evx_nil)) fun p1 Hd kd dp1 => ?_))))))
      refine ⟨_, rfl, .ref tw, p1, two t1 t2, .tuple [.int 7], rfl, (dtw.mono kall).mono kd, dp1, ppI [7], o2, a2, fun z1 He ke dz1 => ?_⟩
      rw [two_share o2] at dz1
      refine tcons_x (evx_tup (ex := []) Trk.nil (evx_cons evx_int (evx_cons evx_int evx_nil))) fun z2 Hf kf dz2 => ?_
      refine ⟨_, _, _, rfl, dz1.mono kf, dz2, fD_sz (1, 1), fun Hg kg => ?_⟩
      refine ⟨true, rfl, iteF ?_⟩
      -- mean_depth(tree=('leaf', 5))
      refine tifs (tnotb (tcall (tcons (tcallK (tcons_x (evx_tup (ex := []) Trk.nil (evx_cons evx_str (evx_cons evx_int evx_nil))) fun lf Hh kh dlf => ?_)))))
      refine ⟨lf, .leaf (.int 5), rfl, by rw [Tr.toD]; exact dlf, by rw [Tr.Ok]; exact .int _ _, by rw [Tr.At, noL], fun z3 Hi ki dz3 => ?_⟩
      rw [leaf_mean] at dz3
      refine tcons_x (evx_tup (ex := []) Trk.nil (evx_cons evx_int (evx_cons evx_int evx_nil))) fun z4 Hj kj dz4 => ?_
      refine ⟨_, _, _, rfl, dz3.mono kj, dz4, fD_sz (0, 1), fun Hk kk => ?_⟩
      refine ⟨true, rfl, iteF ?_⟩
      exact ⟨⟨_, _, _, _, _, _, _, _, _, _, rfl⟩, ka.trans (kall.trans (kd.trans (ke.trans (kf.trans (kg.trans (kh.trans (ki.trans (kj.trans kk))))))))⟩
  · rintro σ' H' ⟨_, _⟩
    exact q H'
end FL

namespace FL
open PySem PySem.Spec PyProof.Rows L2
def top (i : Nat) : Stmt := PySem.Challenge.pw_finitelooks_k38_weights_of_trees.main.body.getD i (.Pass ⟨0, 0, 0, 0⟩)
structure Fx (K : PySem.W.Frag) (mg : Str → Option Value) (x : Str) (st : Stmt) : Prop where
  ex : ∃ (f : Addr) (fd : FuncData), FnP K x x st f fd ∧ mg x = some (.ref f)
theorem Fx.never {P : Program} {w : World} {K : PySem.W.Frag} {mg : Str → Option Value} {base : Heap} {x : Str} {st : Stmt} {sp : Sp} (F : Fx K mg x st) (ps : List Str) (b : ∀ f fd, FnP K x x st f fd → Binds K fd ps []) (no : ∀ vs H Q E, ¬ sp vs H Q E) : Cl P w K mg base 0 x sp := by
  obtain ⟨f, fd, F, hm⟩ := F.ex
  exact ⟨f, fd, ps, ⟨fun vs H Q E h => absurd h (no vs H Q E), fun A outer s H args us vs Q E _ _ _ _ h => absurd h (no vs H Q E)⟩, hm, F.kp, b f fd F⟩
section
variable {P : Program} {w : World} {K : PySem.W.Frag} {mg : Str → Option Value} {base : Heap}
abbrev s__law_source : Stmt := top 7
theorem sc__law_source : FnScope ["_law_script", "_law_k", "_law_cell"] ["_law_script", "_law_k"] (defScope s__law_source) := ⟨rfl, rfl, rfl, by decide +kernel, rfl, by decide +kernel, by decide +kernel⟩
theorem fn__law_source {f : Addr} {fd : FuncData} (F : FnP K "_law_source" "_law_source" s__law_source f fd) (z_len : mg "len" = none) (z_int : mg "int" = none) : FnOk P w K mg base CX0 (1) f fd ["_law_script", "_law_k"] (spSource K) := by
  refine F.ok sc__law_source (fun vs H Q E h => by obtain ⟨_, _, _, rfl, _⟩ := h; rfl) (fun cdv A outer s H vs Q E hr h => ⟨t__law_source K, PSs.nox ?_, pure_source vs H Q E h⟩)
  exact (pss_cons (ps_set (i := 2) sc__law_source.nd rfl (.inl rfl) (pe_ifExp (pt_cmpR op_lt (pv 1) (pe_callB call_len (by rfl) z_len (by decide +kernel) (pa_cons (pv 0) pa_nil)) (nomark _)) (pe_ix ix_list (pv 0) (pv 1) (fun _ _ => rfl)) (pe_op op_add (pe_op op_mul pe_int (pv 1)) pe_int)))
  (pss_one (ps_ret (pe_lst (pa_cons (pe_ifExp (pt_cmpR op_ge (pv 2) (pe_op op_pow pe_int pe_int) (nomark _)) (pv 2) pe_int) (pa_cons (pe_op op_mod (pe_callTy call_int1 (by rfl) z_int (by decide +kernel) (pa_cons (pv 2) pa_nil)) pe_int) (pa_cons pe_int pa_nil)))))))
theorem cl__law_source (F : Fx K mg "_law_source" s__law_source) (z_len : mg "len" = none) (z_int : mg "int" = none) : Cl P w K mg base (1) "_law_source" (spSource K) := by
  obtain ⟨f, fd, F, hm⟩ := F.ex
  exact ⟨f, fd, ["_law_script", "_law_k"], fn__law_source F z_len z_int, hm, F.kp, F.bindsN fun _ _ _ _ _ _ us hl => match us, hl with | [_, _], _ => rfl⟩
abbrev s__law_draw : Stmt := top 8
theorem sc__law_draw : FnScope ["_law_draws", "_law_many", "_law_found", "_law_seed"] ["_law_draws", "_law_many"] (defScope s__law_draw) := ⟨rfl, rfl, rfl, by decide +kernel, rfl, by decide +kernel, by decide +kernel⟩
theorem fn__law_draw {f : Addr} {fd : FuncData} (F : FnP K "_law_draw" "_law_draw" s__law_draw f fd) (z_int : mg "int" = none) : FnOk P w K mg base CX0 (1) f fd ["_law_draws", "_law_many"] (spDraw) := by
  refine F.ok sc__law_draw (fun vs H Q E h => by obtain ⟨_, _, _, rfl, _⟩ := h; rfl) (fun cdv A outer s H vs Q E hr h => ⟨t__law_draw K, PSs.nox ?_, pure_draw vs H Q E h⟩)
  exact (pss_cons (ps_if (pt_cmpR op_gt (pe_ix ix_list (pv 0) pe_int (fun _ _ => rfl)) pe_int (nomark _)) (pss_cons (ps_set (i := 2) sc__law_draw.nd rfl (.inl rfl) (pe_op op_mod (pe_callTy call_int1 (by rfl) z_int (by decide +kernel) (pa_cons (pe_ix ix_list (pv 0) pe_int (fun _ _ => rfl)) pa_nil)) (pv 1)))
  (pss_cons (ps_asg (pe_op op_fdivW (pe_ix ix_list (pv 0) pe_int (fun _ _ => rfl)) (pv 1)) (pg_sub (pv 0) pe_int set_list))
  (pss_one (ps_ret (pv 2))))) pss_nil)
  (pss_cons (ps_asg (pe_op op_add (pe_ix ix_list (pv 0) pe_int (fun _ _ => rfl)) pe_int) (pg_sub (pv 0) pe_int set_list))
  (pss_cons (ps_set (i := 3) sc__law_draw.nd rfl (.inl rfl) (pe_op op_mod (pe_op op_pow (pe_callTy call_int1 (by rfl) z_int (by decide +kernel) (pa_cons (pe_op op_add (pe_ix ix_list (pv 0) pe_int (fun _ _ => rfl)) (pe_op op_mul pe_int (pe_ix ix_list (pv 0) pe_int (fun _ _ => rfl)))) pa_nil)) pe_int) pe_int))
  (pss_one (ps_ret (pe_op op_mod (pe_op op_fdiv (pe_op op_mod (pe_op op_mul (pe_op op_add (pv 3) (pe_ix ix_list (pv 0) pe_int (fun _ _ => rfl))) pe_int) pe_int) pe_int) (pv 1)))))))
theorem cl__law_draw (F : Fx K mg "_law_draw" s__law_draw) (z_int : mg "int" = none) : Cl P w K mg base (1) "_law_draw" (spDraw) := by
  obtain ⟨f, fd, F, hm⟩ := F.ex
  exact ⟨f, fd, ["_law_draws", "_law_many"], fn__law_draw F z_int, hm, F.kp, F.bindsN fun _ _ _ _ _ _ us hl => match us, hl with | [_, _], _ => rfl⟩
abbrev s__law_pick : Stmt := top 9
theorem sc__law_pick : FnScope ["_law_draws", "_law_some"] ["_law_draws", "_law_some"] (defScope s__law_pick) := ⟨rfl, rfl, rfl, by decide +kernel, rfl, by decide +kernel, by decide +kernel⟩
theorem fn__law_pick {f : Addr} {fd : FuncData} (F : FnP K "_law_pick" "_law_pick" s__law_pick f fd) (z_len : mg "len" = none) (c__law_draw : Cl P w K mg base (1) "_law_draw" (spDraw)) : FnOk P w K mg base CX0 (2) f fd ["_law_draws", "_law_some"] (spPick) := by
  refine F.ok sc__law_pick (fun vs H Q E h => by obtain ⟨_, _, _, _, rfl, _⟩ := h; rfl) (fun cdv A outer s H vs Q E hr h => ⟨t__law_pick K (spDraw), PSs.nox ?_, pure_pick vs H Q E h⟩)
  exact (pss_one (ps_ret (pe_ix ix_list (pv 1) (FL.pc c__law_draw hr (by omega) (by rfl) (pa_cons (pv 0) (pa_cons (pe_callB call_len (by rfl) z_len (by decide +kernel) (pa_cons (pv 1) pa_nil)) pa_nil))) (fun _ _ => rfl))))
theorem cl__law_pick (F : Fx K mg "_law_pick" s__law_pick) (z_len : mg "len" = none) (c__law_draw : Cl P w K mg base (1) "_law_draw" (spDraw)) : Cl P w K mg base (2) "_law_pick" (spPick) := by
  obtain ⟨f, fd, F, hm⟩ := F.ex
  exact ⟨f, fd, ["_law_draws", "_law_some"], fn__law_pick F z_len c__law_draw, hm, F.kp, F.bindsN fun _ _ _ _ _ _ us hl => match us, hl with | [_, _], _ => rfl⟩
abbrev s__law_same : Stmt := top 10
theorem sc__law_same : FnScope ["_law_found", "_law_due", "_law_left", "_law_right"] ["_law_found", "_law_due"] (defScope s__law_same) := ⟨rfl, rfl, rfl, by decide +kernel, rfl, by decide +kernel, by decide +kernel⟩
theorem fn__law_same {n : Nat} {f : Addr} {fd : FuncData} (F : FnP K "_law_same" "_law_same" s__law_same f fd) (z_tuple : mg "tuple" = none) (z_list : mg "list" = none) (z_isinstance : mg "isinstance" = none) (z_len : mg "len" = none) (z_zip : mg "zip" = none) (z_all : mg "all" = none) (z_dict : mg "dict" = none) (z_int : mg "int" = none) (z_bool : mg "bool" = none) (c__law_same : Cl P w K mg base (n) "_law_same" (spSame n)) : FnOk P w K mg base CX0 (n + 1) f fd ["_law_found", "_law_due"] (spSame (n + 1)) := by
  refine F.ok sc__law_same (fun vs H Q E h => by obtain ⟨_, _, _, rfl, _⟩ := h; rfl) (fun cdv A outer s H vs Q E hr h => ⟨t__law_same K (spSame n), PSs.nox ?_, pure_same vs H Q E h⟩)
  exact (pss_cons (ps_if (pt_val (pe_callB call_isiT (by rfl) z_isinstance (by decide +kernel) (pa_cons (pv 1) (pa_cons (pe_tup (pa_cons (pe_bltn (by rfl) z_list (by decide +kernel) rfl) (pa_cons (pe_bltn (by rfl) z_tuple (by decide +kernel) rfl) pa_nil))) pa_nil)))) (pss_cons (ps_if (PW.pt (pw_or (pt_cmpR op_ne (pe_callB call_isi (by rfl) z_isinstance (by decide +kernel) (pa_cons (pv 0) (pa_cons (pe_bltn (by rfl) z_list (by decide +kernel) rfl) pa_nil))) (pe_callB call_isi (by rfl) z_isinstance (by decide +kernel) (pa_cons (pv 1) (pa_cons (pe_bltn (by rfl) z_list (by decide +kernel) rfl) pa_nil))) (nomark _)) (pw_or1 (pt_cmpR op_ne (pe_callB call_isi (by rfl) z_isinstance (by decide +kernel) (pa_cons (pv 0) (pa_cons (pe_bltn (by rfl) z_tuple (by decide +kernel) rfl) pa_nil))) (pe_callB call_isi (by rfl) z_isinstance (by decide +kernel) (pa_cons (pv 1) (pa_cons (pe_bltn (by rfl) z_tuple (by decide +kernel) rfl) pa_nil))) (nomark _))))) (pss_one (ps_ret pe_bl)) pss_nil)
  (pss_one (ps_ret (pe_and (pe_cmpR op_eq (pe_callB call_len (by rfl) z_len (by decide +kernel) (pa_cons (pv 0) pa_nil)) (pe_callB call_len (by rfl) z_len (by decide +kernel) (pa_cons (pv 1) pa_nil)) (nomark _)) (pe_one (pe_callB (cr_all rfl) (by rfl) z_all (by decide +kernel) (pa_cons (pe_lc (own := [("_law_left", 2), ("_law_right", 3)]) (g := (gTup K 2 (gCons (gName 2) (gCons (gName 3) gNil)))) (tt := tYes) rfl sc__law_same.nd (RZ.pi_zipA (by rfl) z_zip (pa_cons (pv 0) (pa_cons (pv 1) pa_nil))) (blkOk_by (own := [("_law_left", 2), ("_law_right", 3)]) (N := ["_law_found", "_law_due", "_law_left", "_law_right"]) (sc := defScope s__law_same) (by decide +kernel)) (fun _ _ _ _ _ => (pg_tup rfl (pgs_cons (pg_name (i := 2) sc__law_same.nd rfl (.inl rfl)) (pgs_cons (pg_name (i := 3) sc__law_same.nd rfl (.inl rfl)) pgs_nil)))) (fun _ _ _ _ _ => pts_nil) (fun _ _ _ _ _ => (FL.pc c__law_same hr (by omega) (by rfl) (pa_cons (pv 2) (pa_cons (pv 3) pa_nil))))) pa_nil))))))) pss_nil)
  (pss_cons (ps_if (pt_val (pe_callB call_isi (by rfl) z_isinstance (by decide +kernel) (pa_cons (pv 1) (pa_cons (pe_bltn (by rfl) z_dict (by decide +kernel) rfl) pa_nil)))) pss_never pss_nil)
  (pss_cons (ps_if (pt_val (pe_callB call_isiT (by rfl) z_isinstance (by decide +kernel) (pa_cons (pv 1) (pa_cons (pe_tup (pa_cons (pe_bltn (by rfl) z_bool (by decide +kernel) rfl) (pa_cons (pe_bltn (by rfl) z_int (by decide +kernel) rfl) pa_nil))) pa_nil)))) (pss_one (ps_ret (pe_and (pe_callB call_isi (by rfl) z_isinstance (by decide +kernel) (pa_cons (pv 0) (pa_cons (pe_bltn (by rfl) z_int (by decide +kernel) rfl) pa_nil))) (pe_and (pe_cmpR op_eq (pe_callB call_isi (by rfl) z_isinstance (by decide +kernel) (pa_cons (pv 0) (pa_cons (pe_bltn (by rfl) z_bool (by decide +kernel) rfl) pa_nil))) (pe_callB call_isi (by rfl) z_isinstance (by decide +kernel) (pa_cons (pv 1) (pa_cons (pe_bltn (by rfl) z_bool (by decide +kernel) rfl) pa_nil))) (nomark _)) (pe_one (pe_cmpR op_eq (pv 0) (pv 1) (nomark _))))))) pss_nil)
  (pss_one (ps_ret (pe_and (pe_not (pe_callB call_isiT (by rfl) z_isinstance (by decide +kernel) (pa_cons (pv 0) (pa_cons (pe_tup (pa_cons (pe_bltn (by rfl) z_bool (by decide +kernel) rfl) (pa_cons (pe_bltn (by rfl) z_int (by decide +kernel) rfl) (pa_cons (pe_bltn (by rfl) z_list (by decide +kernel) rfl) (pa_cons (pe_bltn (by rfl) z_tuple (by decide +kernel) rfl) (pa_cons (pe_bltn (by rfl) z_dict (by decide +kernel) rfl) pa_nil)))))) pa_nil)))) (pe_one (pe_cmpR op_eq (pv 0) (pv 1) (nomark _)))))))))
theorem cl__law_same {n : Nat} (F : Fx K mg "_law_same" s__law_same) (z_tuple : mg "tuple" = none) (z_list : mg "list" = none) (z_isinstance : mg "isinstance" = none) (z_len : mg "len" = none) (z_zip : mg "zip" = none) (z_all : mg "all" = none) (z_dict : mg "dict" = none) (z_int : mg "int" = none) (z_bool : mg "bool" = none) (c__law_same : Cl P w K mg base (n) "_law_same" (spSame n)) : Cl P w K mg base (n + 1) "_law_same" (spSame (n + 1)) := by
  obtain ⟨f, fd, F, hm⟩ := F.ex
  exact ⟨f, fd, ["_law_found", "_law_due"], fn__law_same F z_tuple z_list z_isinstance z_len z_zip z_all z_dict z_int z_bool c__law_same, hm, F.kp, F.bindsN fun _ _ _ _ _ _ us hl => match us, hl with | [_, _], _ => rfl⟩
theorem all_same (F : Fx K mg "_law_same" s__law_same) (z_isinstance : mg "isinstance" = none) (z_list : mg "list" = none) (z_tuple : mg "tuple" = none) (z_len : mg "len" = none) (z_all : mg "all" = none) (z_zip : mg "zip" = none) (z_dict : mg "dict" = none) (z_bool : mg "bool" = none) (z_int : mg "int" = none) : ∀ n : Nat, Cl P w K mg base n "_law_same" (spSame n)
  | 0 => F.never ["_law_found", "_law_due"] (fun f fd F => F.bindsN fun _ _ _ _ _ _ us hl => match us, hl with | [_, _], _ => rfl) fun _ _ _ _ h => spSame_none h
  | n + 1 => by
    have ih := all_same F z_isinstance z_list z_tuple z_len z_all z_zip z_dict z_bool z_int n
    apply cl__law_same <;> assumption
abbrev s_lowest_terms : Stmt := top 1
theorem sc_lowest_terms : FnScope ["top", "bottom", "low", "common"] ["top", "bottom"] (defScope s_lowest_terms) := ⟨rfl, rfl, rfl, by decide +kernel, rfl, by decide +kernel, by decide +kernel⟩
theorem fn_lowest_terms {f : Addr} {fd : FuncData} (F : FnP K "lowest_terms" "lowest_terms" s_lowest_terms f fd) (z_abs : mg "abs" = none) : FnOk P w K mg base CX0 (1) f fd ["top", "bottom"] (spLow) := by
  refine F.ok sc_lowest_terms (fun vs H Q E h => by obtain ⟨_, _, rfl, _⟩ := h; rfl) (fun cdv A outer s H vs Q E hr h => ⟨t_lowest_terms K, PSs.nox ?_, pure_low vs H Q E h⟩)
  exact (pss_cons (ps_set (i := 2) sc_lowest_terms.nd rfl (.inl rfl) (pe_callB call_abs (by rfl) z_abs (by decide +kernel) (pa_cons (pv 0) pa_nil)))
  (pss_cons (ps_set (i := 3) sc_lowest_terms.nd rfl (.inl rfl) (pv 1))
  (pss_cons (ps_while PassesOwn.never (pt_cmpR op_gt (pv 2) pe_int (nomark _))
  (pss_one (ps_par rfl sc_lowest_terms.nd rfl rfl (by decide) rfl rfl (pa_cons (pe_op op_mod (pv 3) (pv 2)) (pa_cons (pv 2) pa_nil)) (by rfl))))
  (pss_one (ps_ret (pe_tup (pa_cons (pe_op op_fdiv (pv 0) (pv 3)) (pa_cons (pe_op op_fdiv (pv 1) (pv 3)) pa_nil))))))))
theorem cl_lowest_terms (F : Fx K mg "lowest_terms" s_lowest_terms) (z_abs : mg "abs" = none) : Cl P w K mg base (1) "lowest_terms" (spLow) := by
  obtain ⟨f, fd, F, hm⟩ := F.ex
  exact ⟨f, fd, ["top", "bottom"], fn_lowest_terms F z_abs, hm, F.kp, F.bindsN fun _ _ _ _ _ _ us hl => match us, hl with | [_, _], _ => rfl⟩
abbrev s_weight_total : Stmt := top 2
theorem sc_weight_total : FnScope ["parts", "top", "bottom", "part"] ["parts"] (defScope s_weight_total) := ⟨rfl, rfl, rfl, by decide +kernel, rfl, by decide +kernel, by decide +kernel⟩
theorem fn_weight_total {f : Addr} {fd : FuncData} (F : FnP K "weight_total" "weight_total" s_weight_total f fd) (c_lowest_terms : Cl P w K mg base (1) "lowest_terms" (spLow)) : FnOk P w K mg base CX0 (2) f fd ["parts"] (spTotal K) := by
  refine F.ok sc_weight_total (fun vs H Q E h => by obtain ⟨_, _, _, _, rfl, _⟩ := h; rfl) (fun cdv A outer s H vs Q E hr h => ⟨t_weight_total K (spLow), PSs.nox ?_, pure_total vs H Q E h⟩)
  exact (pss_cons (ps_set (i := 1) sc_weight_total.nd rfl (.inl rfl) pe_int)
  (pss_cons (ps_set (i := 2) sc_weight_total.nd rfl (.inl rfl) pe_int)
  (pss_cons (ps_for PassesOwn.never rfl (pi_list (pv 0)) (pg_name (i := 3) sc_weight_total.nd rfl (.inl rfl))
  (pss_one (ps_asg (FL.pc c_lowest_terms hr (by omega) (by rfl) (pa_cons (pe_op op_add (pe_op op_mul (pv 1) (pe_ix ix_tup (pv 3) pe_int (fun _ _ => rfl))) (pe_op op_mul (pe_ix ix_tup (pv 3) pe_int (fun _ _ => rfl)) (pv 2))) (pa_cons (pe_op op_mul (pv 2) (pe_ix ix_tup (pv 3) pe_int (fun _ _ => rfl))) pa_nil))) (pg_tup rfl (pgs_cons (pg_name (i := 1) sc_weight_total.nd rfl (.inl rfl)) (pgs_cons (pg_name (i := 2) sc_weight_total.nd rfl (.inl rfl)) pgs_nil))))))
  (pss_one (ps_ret (pe_tup (pa_cons (pv 1) (pa_cons (pv 2) pa_nil))))))))
theorem cl_weight_total (F : Fx K mg "weight_total" s_weight_total) (c_lowest_terms : Cl P w K mg base (1) "lowest_terms" (spLow)) : Cl P w K mg base (2) "weight_total" (spTotal K) := by
  obtain ⟨f, fd, F, hm⟩ := F.ex
  exact ⟨f, fd, ["parts"], fn_weight_total F c_lowest_terms, hm, F.kp, F.bindsN fun _ _ _ _ _ _ us hl => match us, hl with | [_], _ => rfl⟩
abbrev s_weighed_leaves : Stmt := top 3
theorem sc_weighed_leaves : FnScope ["tree", "found", "waiting", "path", "bottom", "here", "answer", "below"] ["tree"] (defScope s_weighed_leaves) := ⟨rfl, rfl, rfl, by decide +kernel, rfl, by decide +kernel, by decide +kernel⟩
theorem fn_weighed_leaves {f : Addr} {fd : FuncData} (F : FnP K "weighed_leaves" "weighed_leaves" s_weighed_leaves f fd) (z_len : mg "len" = none) (z_list : mg "list" = none) (z_reversed : mg "reversed" = none) : FnOk P w K mg base CX0 (1) f fd ["tree"] (spWl 4) := by
  refine F.ok sc_weighed_leaves (fun vs H Q E h => by obtain ⟨_, _, rfl, _⟩ := h; rfl) (fun cdv A outer s H vs Q E hr h => ⟨t_weighed_leaves K, PSs.nox ?_, pure_wl vs H Q E h⟩)
  exact (pss_cons (ps_set (i := 1) sc_weighed_leaves.nd rfl (.inl rfl) (pe_lst pa_nil))
  (pss_cons (ps_set (i := 2) sc_weighed_leaves.nd rfl (.inl rfl) (pe_lst (pa_cons (pe_tup (pa_cons (pe_tup pa_nil) (pa_cons pe_int (pa_cons (pv 0) pa_nil)))) pa_nil)))
  (pss_cons (ps_while PassesOwn.never (pt_cmpR op_gt (pe_callB call_len (by rfl) z_len (by decide +kernel) (pa_cons (pv 2) pa_nil)) pe_int (nomark _))
  (pss_cons (ps_asg (pe_bm0 PySem.F.plainAttrs_list PySem.F.slot_list_pop PySem.F.type_list_pop mt_pop (pv 2)) (pg_tup rfl (pgs_cons (pg_name (i := 3) sc_weighed_leaves.nd rfl (.inl rfl)) (pgs_cons (pg_name (i := 4) sc_weighed_leaves.nd rfl (.inl rfl)) (pgs_cons (pg_name (i := 5) sc_weighed_leaves.nd rfl (.inl rfl)) pgs_nil)))))
  (pss_one (ps_if (pt_cmpR op_eq (pe_ix ix_tup (pv 5) pe_int (fun _ _ => rfl)) pe_str (nomark _)) (pss_one (ps_expr (pe_bm PySem.F.plainAttrs_list PySem.F.slot_list_append PySem.F.type_list_append mt_append (pv 1) (pa_cons (pe_tup (pa_cons (pv 3) (pa_cons (pe_ix ix_tup (pv 5) pe_int (fun _ _ => rfl)) (pa_cons (pv 4) pa_nil)))) pa_nil)))) (pss_one (ps_for PassesOwn.never rfl (RT.pi_revA (by rfl) z_reversed (pe_callTy call_list_of (by rfl) z_list (by decide +kernel) (pa_cons (pe_ix ix_tup (pv 5) pe_int (fun _ _ => rfl)) pa_nil))) (pg_tup rfl (pgs_cons (pg_name (i := 6) sc_weighed_leaves.nd rfl (.inl rfl)) (pgs_cons (pg_name (i := 7) sc_weighed_leaves.nd rfl (.inl rfl)) pgs_nil)))
  (pss_one (ps_expr (pe_bm PySem.F.plainAttrs_list PySem.F.slot_list_append PySem.F.type_list_append mt_append (pv 2) (pa_cons (pe_tup (pa_cons (pe_op op_catA (pv 3) (pe_tup (pa_cons (pe_tup (pa_cons (pe_ix ix_tup (pv 5) pe_int (fun _ _ => rfl)) (pa_cons (pv 6) pa_nil))) pa_nil))) (pa_cons (pe_op op_mul (pv 4) (pe_callB call_len (by rfl) z_len (by decide +kernel) (pa_cons (pe_ix ix_tup (pv 5) pe_int (fun _ _ => rfl)) pa_nil))) (pa_cons (pv 7) pa_nil)))) pa_nil))))))))))
  (pss_one (ps_ret (pv 1))))))
theorem cl_weighed_leaves (F : Fx K mg "weighed_leaves" s_weighed_leaves) (z_len : mg "len" = none) (z_list : mg "list" = none) (z_reversed : mg "reversed" = none) : Cl P w K mg base (1) "weighed_leaves" (spWl 4) := by
  obtain ⟨f, fd, F, hm⟩ := F.ex
  exact ⟨f, fd, ["tree"], fn_weighed_leaves F z_len z_list z_reversed, hm, F.kp, F.bindsN fun _ _ _ _ _ _ us hl => match us, hl with | [_], _ => rfl⟩
abbrev s_look_share : Stmt := top 4
theorem sc_look_share : FnScope ["tree", "place", "parts", "path", "value", "bottom", "spot", "answer"] ["tree", "place"] (defScope s_look_share) := ⟨rfl, rfl, rfl, by decide +kernel, rfl, by decide +kernel, by decide +kernel⟩
theorem fn_look_share {f : Addr} {fd : FuncData} (F : FnP K "look_share" "look_share" s_look_share f fd) (z_any : mg "any" = none) (c_weighed_leaves : Cl P w K mg base (1) "weighed_leaves" (spWl 4)) (c_weight_total : Cl P w K mg base (2) "weight_total" (spTotal K)) : FnOk P w K mg base CX0 (3) f fd ["tree", "place"] (spShare) := by
  refine F.ok sc_look_share (fun vs H Q E h => by obtain ⟨_, _, _, _, rfl, _⟩ := h; rfl) (fun cdv A outer s H vs Q E hr h => ⟨t_look_share K (spWl 4) (spTotal K), PSs.nox ?_, pure_share vs H Q E h⟩)
  exact (pss_cons (ps_set (i := 2) sc_look_share.nd rfl (.inl rfl) (pe_lst pa_nil))
  (pss_cons (ps_for PassesOwn.never rfl (pi_list (FL.pc c_weighed_leaves hr (by omega) (by rfl) (pa_cons (pv 0) pa_nil))) (pg_tup rfl (pgs_cons (pg_name (i := 3) sc_look_share.nd rfl (.inl rfl)) (pgs_cons (pg_name (i := 4) sc_look_share.nd rfl (.inl rfl)) (pgs_cons (pg_name (i := 5) sc_look_share.nd rfl (.inl rfl)) pgs_nil))))
  (pss_one (ps_if (pt_val (pe_callB (cr_any rfl) (by rfl) z_any (by decide +kernel) (pa_cons (pe_lc (own := [("spot", 6), ("answer", 7)]) (g := (gTup K 2 (gCons (gName 6) (gCons (gName 7) gNil)))) (tt := tYes) rfl sc_look_share.nd (pi_tup (pv 3)) (blkOk_by (own := [("spot", 6), ("answer", 7)]) (N := ["tree", "place", "parts", "path", "value", "bottom", "spot", "answer"]) (sc := defScope s_look_share) (by decide +kernel)) (fun _ _ _ _ _ => (pg_tup rfl (pgs_cons (pg_name (i := 6) sc_look_share.nd rfl (.inl rfl)) (pgs_cons (pg_name (i := 7) sc_look_share.nd rfl (.inl rfl)) pgs_nil)))) (fun _ _ _ _ _ => pts_nil) (fun _ _ _ _ _ => (pe_cmpR (op_eqD hr.units) (pv 6) (pv 1) (nomark _)))) pa_nil))) (pss_one (ps_expr (pe_bm PySem.F.plainAttrs_list PySem.F.slot_list_append PySem.F.type_list_append mt_append (pv 2) (pa_cons (pe_tup (pa_cons pe_int (pa_cons (pv 5) pa_nil))) pa_nil)))) pss_nil)))
  (pss_one (ps_ret (FL.pc c_weight_total hr (by omega) (by rfl) (pa_cons (pv 2) pa_nil))))))
theorem cl_look_share (F : Fx K mg "look_share" s_look_share) (z_any : mg "any" = none) (c_weighed_leaves : Cl P w K mg base (1) "weighed_leaves" (spWl 4)) (c_weight_total : Cl P w K mg base (2) "weight_total" (spTotal K)) : Cl P w K mg base (3) "look_share" (spShare) := by
  obtain ⟨f, fd, F, hm⟩ := F.ex
  exact ⟨f, fd, ["tree", "place"], fn_look_share F z_any c_weighed_leaves c_weight_total, hm, F.kp, F.bindsN fun _ _ _ _ _ _ us hl => match us, hl with | [_, _], _ => rfl⟩
theorem ck_look_share_1_0 (F : Fx K mg "look_share" s_look_share) (z_any : mg "any" = none) (c_weighed_leaves : Cl P w K mg base (1) "weighed_leaves" (spWl 4)) (c_weight_total : Cl P w K mg base (2) "weight_total" (spTotal K)) : ClK P w K mg base (3) "look_share" 2 [1, 0] ["place", "tree"] (spShare) := by
  obtain ⟨f, fd, F, hm⟩ := F.ex
  exact ⟨f, fd, ["tree", "place"], fn_look_share F z_any c_weighed_leaves c_weight_total, hm, F.kp, bindsK F (by decide) fun _ _ _ _ _ _ ws hl => match ws, hl with | [_, _], _ => rfl⟩
abbrev s_mean_depth : Stmt := top 5
theorem sc_mean_depth : FnScope ["tree", "path", "value", "bottom"] ["tree"] (defScope s_mean_depth) := ⟨rfl, rfl, rfl, by decide +kernel, rfl, by decide +kernel, by decide +kernel⟩
theorem fn_mean_depth {f : Addr} {fd : FuncData} (F : FnP K "mean_depth" "mean_depth" s_mean_depth f fd) (z_len : mg "len" = none) (c_weight_total : Cl P w K mg base (2) "weight_total" (spTotal K)) (c_weighed_leaves : Cl P w K mg base (1) "weighed_leaves" (spWl 4)) : FnOk P w K mg base CX0 (3) f fd ["tree"] (spMean) := by
  refine F.ok sc_mean_depth (fun vs H Q E h => by obtain ⟨_, _, rfl, _⟩ := h; rfl) (fun cdv A outer s H vs Q E hr h => ⟨t_mean_depth K (spTotal K) (spWl 4), PSs.nox ?_, pure_mean vs H Q E h⟩)
  exact (pss_one (ps_ret (FL.pc c_weight_total hr (by omega) (by rfl) (pa_cons (pe_lc (own := [("path", 1), ("value", 2), ("bottom", 3)]) (g := (gTup K 3 (gCons (gName 1) (gCons (gName 2) (gCons (gName 3) gNil))))) (tt := tYes) rfl sc_mean_depth.nd (pi_list (FL.pc c_weighed_leaves hr (by omega) (by rfl) (pa_cons (pv 0) pa_nil))) (blkOk_by (own := [("path", 1), ("value", 2), ("bottom", 3)]) (N := ["tree", "path", "value", "bottom"]) (sc := defScope s_mean_depth) (by decide +kernel)) (fun _ _ _ _ _ => (pg_tup rfl (pgs_cons (pg_name (i := 1) sc_mean_depth.nd rfl (.inl rfl)) (pgs_cons (pg_name (i := 2) sc_mean_depth.nd rfl (.inl rfl)) (pgs_cons (pg_name (i := 3) sc_mean_depth.nd rfl (.inl rfl)) pgs_nil))))) (fun _ _ _ _ _ => pts_nil) (fun _ _ _ _ _ => (pe_tup (pa_cons (pe_callB call_len (by rfl) z_len (by decide +kernel) (pa_cons (pv 1) pa_nil)) (pa_cons (pv 3) pa_nil))))) pa_nil))))
theorem cl_mean_depth (F : Fx K mg "mean_depth" s_mean_depth) (z_len : mg "len" = none) (c_weight_total : Cl P w K mg base (2) "weight_total" (spTotal K)) (c_weighed_leaves : Cl P w K mg base (1) "weighed_leaves" (spWl 4)) : Cl P w K mg base (3) "mean_depth" (spMean) := by
  obtain ⟨f, fd, F, hm⟩ := F.ex
  exact ⟨f, fd, ["tree"], fn_mean_depth F z_len c_weight_total c_weighed_leaves, hm, F.kp, F.bindsN fun _ _ _ _ _ _ us hl => match us, hl with | [_], _ => rfl⟩
theorem ck_mean_depth_0 (F : Fx K mg "mean_depth" s_mean_depth) (z_len : mg "len" = none) (c_weight_total : Cl P w K mg base (2) "weight_total" (spTotal K)) (c_weighed_leaves : Cl P w K mg base (1) "weighed_leaves" (spWl 4)) : ClK P w K mg base (3) "mean_depth" 1 [0] ["tree"] (spMean) := by
  obtain ⟨f, fd, F, hm⟩ := F.ex
  exact ⟨f, fd, ["tree"], fn_mean_depth F z_len c_weight_total c_weighed_leaves, hm, F.kp, bindsK F (by decide) fun _ _ _ _ _ _ ws hl => match ws, hl with | [_], _ => rfl⟩
abbrev s__law_fraction : Stmt := top 11
theorem sc__law_fraction : FnScope ["_law_top", "_law_bottom", "_law_low", "_law_common"] ["_law_top", "_law_bottom"] (defScope s__law_fraction) := ⟨rfl, rfl, rfl, by decide +kernel, rfl, by decide +kernel, by decide +kernel⟩
theorem fn__law_fraction {f : Addr} {fd : FuncData} (F : FnP K "_law_fraction" "_law_fraction" s__law_fraction f fd) (z_int : mg "int" = none) (z_abs : mg "abs" = none) : FnOk P w K mg base CX0 (1) f fd ["_law_top", "_law_bottom"] (spLow) := by
  refine F.ok sc__law_fraction (fun vs H Q E h => by obtain ⟨_, _, rfl, _⟩ := h; rfl) (fun cdv A outer s H vs Q E hr h => ⟨t__law_fraction K, PSs.nox ?_, pure_fraction vs H Q E h⟩)
  exact (pss_cons (ps_par rfl sc__law_fraction.nd rfl rfl (by decide) rfl rfl (pa_cons (pe_callB call_abs (by rfl) z_abs (by decide +kernel) (pa_cons (pe_callTy call_int1 (by rfl) z_int (by decide +kernel) (pa_cons (pv 0) pa_nil)) pa_nil)) (pa_cons (pe_callTy call_int1 (by rfl) z_int (by decide +kernel) (pa_cons (pv 1) pa_nil)) pa_nil)) (by rfl))
  (pss_cons (ps_while PassesOwn.never (pt_cmpR op_gt (pv 2) pe_int (nomark _))
  (pss_one (ps_par rfl sc__law_fraction.nd rfl rfl (by decide) rfl rfl (pa_cons (pe_op op_mod (pe_callTy call_int1 (by rfl) z_int (by decide +kernel) (pa_cons (pv 3) pa_nil)) (pv 2)) (pa_cons (pv 2) pa_nil)) (by rfl))))
  (pss_one (ps_ret (pe_tup (pa_cons (pe_op op_fdiv (pe_callTy call_int1 (by rfl) z_int (by decide +kernel) (pa_cons (pv 0) pa_nil)) (pv 3)) (pa_cons (pe_op op_fdiv (pe_callTy call_int1 (by rfl) z_int (by decide +kernel) (pa_cons (pv 1) pa_nil)) (pv 3)) pa_nil)))))))
theorem cl__law_fraction (F : Fx K mg "_law_fraction" s__law_fraction) (z_int : mg "int" = none) (z_abs : mg "abs" = none) : Cl P w K mg base (1) "_law_fraction" (spLow) := by
  obtain ⟨f, fd, F, hm⟩ := F.ex
  exact ⟨f, fd, ["_law_top", "_law_bottom"], fn__law_fraction F z_int z_abs, hm, F.kp, F.bindsN fun _ _ _ _ _ _ us hl => match us, hl with | [_, _], _ => rfl⟩
abbrev s__law_tree : Stmt := top 12
theorem sc__law_tree : FnScope ["_law_draws", "_law_deep", "_law_spot", "_law_some", "_law_answer"] ["_law_draws", "_law_deep"] (defScope s__law_tree) := ⟨rfl, rfl, rfl, by decide +kernel, rfl, by decide +kernel, by decide +kernel⟩
theorem fn__law_tree {n : Nat} {f : Addr} {fd : FuncData} (F : FnP K "_law_tree" "_law_tree" s__law_tree f fd) (z_tuple : mg "tuple" = none) (c__law_draw : Cl P w K mg base (1) "_law_draw" (spDraw)) (c__law_pick : Cl P w K mg base (2) "_law_pick" (spPick)) (c__law_tree : Cl P w K mg base (n + 2) "_law_tree" (spTree n)) : FnOk P w K mg base CX0 (n + 3) f fd ["_law_draws", "_law_deep"] (spTree (n + 1)) := by
  refine F.ok sc__law_tree (fun vs H Q E h => by obtain ⟨_, _, _, _, rfl, _⟩ := h; rfl) (fun cdv A outer s H vs Q E hr h => ⟨t__law_tree K (spDraw) (spPick) (spTree n), PSs.nox ?_, pure_tree vs H Q E h⟩)
  exact (pss_cons (ps_if (PW.pt (pw_or (pt_cmpR op_eq (pv 1) pe_int (nomark _)) (pw_or1 (pt_cmpR op_eq (FL.pc c__law_draw hr (by omega) (by rfl) (pa_cons (pv 0) (pa_cons pe_int pa_nil))) pe_int (nomark _))))) (pss_one (ps_ret (pe_tup (pa_cons pe_str (pa_cons (FL.pc c__law_draw hr (by omega) (by rfl) (pa_cons (pv 0) (pa_cons pe_int pa_nil))) pa_nil))))) pss_nil)
  (pss_cons (ps_set (i := 2) sc__law_tree.nd rfl (.inl rfl) (FL.pc c__law_pick hr (by omega) (by rfl) (pa_cons (pv 0) (pa_cons (pe_lst (pa_cons (pe_tup pa_nil) (pa_cons (pe_tup (pa_cons pe_int (pa_cons pe_int pa_nil))) (pa_cons (pe_tup (pa_cons pe_int (pa_cons pe_int (pa_cons pe_int pa_nil)))) (pa_cons (pe_tup (pa_cons (pe_op op_pow pe_int pe_int) pa_nil)) pa_nil))))) pa_nil))))
  (pss_cons (ps_set (i := 3) sc__law_tree.nd rfl (.inl rfl) (FL.pc c__law_pick hr (by omega) (by rfl) (pa_cons (pv 0) (pa_cons (pe_lst (pa_cons (pe_lst (pa_cons pe_int pa_nil)) (pa_cons (pe_lst (pa_cons pe_int (pa_cons pe_int pa_nil))) (pa_cons (pe_lst (pa_cons pe_int (pa_cons pe_int pa_nil))) (pa_cons (pe_lst (pa_cons pe_int (pa_cons pe_int (pa_cons pe_int pa_nil)))) (pa_cons (pe_lst (pa_cons pe_int (pa_cons pe_int (pa_cons pe_int pa_nil)))) (pa_cons (pe_lst (pa_cons pe_int (pa_cons pe_int (pa_cons pe_int (pa_cons pe_int pa_nil))))) pa_nil))))))) pa_nil))))
  (pss_one (ps_ret (pe_tup (pa_cons pe_str (pa_cons (pv 2) (pa_cons (pe_callTy call_tuple_of (by rfl) z_tuple (by decide +kernel) (pa_cons (pe_lc (own := [("_law_answer", 4)]) (g := (gName 4)) (tt := tYes) rfl sc__law_tree.nd (pi_list (pv 3)) (blkOk_by (own := [("_law_answer", 4)]) (N := ["_law_draws", "_law_deep", "_law_spot", "_law_some", "_law_answer"]) (sc := defScope s__law_tree) (by decide +kernel)) (fun _ _ _ _ _ => (pg_name (i := 4) sc__law_tree.nd rfl (.inl rfl))) (fun _ _ _ _ _ => pts_nil) (fun _ _ _ _ _ => (pe_tup (pa_cons (pv 4) (pa_cons (FL.pc c__law_tree hr (by omega) (by rfl) (pa_cons (pv 0) (pa_cons (pe_op op_sub (pv 1) pe_int) pa_nil))) pa_nil))))) pa_nil)) pa_nil)))))))))
theorem cl__law_tree {n : Nat} (F : Fx K mg "_law_tree" s__law_tree) (z_tuple : mg "tuple" = none) (c__law_draw : Cl P w K mg base (1) "_law_draw" (spDraw)) (c__law_pick : Cl P w K mg base (2) "_law_pick" (spPick)) (c__law_tree : Cl P w K mg base (n + 2) "_law_tree" (spTree n)) : Cl P w K mg base (n + 3) "_law_tree" (spTree (n + 1)) := by
  obtain ⟨f, fd, F, hm⟩ := F.ex
  exact ⟨f, fd, ["_law_draws", "_law_deep"], fn__law_tree F z_tuple c__law_draw c__law_pick c__law_tree, hm, F.kp, F.bindsN fun _ _ _ _ _ _ us hl => match us, hl with | [_, _], _ => rfl⟩
theorem all_tree (F : Fx K mg "_law_tree" s__law_tree) (z_tuple : mg "tuple" = none) (c_draw : Cl P w K mg base 1 "_law_draw" spDraw) (c_pick : Cl P w K mg base 2 "_law_pick" spPick) : ∀ n : Nat, Cl P w K mg base (n + 2) "_law_tree" (spTree n)
  | 0 => (F.never ["_law_draws", "_law_deep"] (fun f fd F => F.bindsN fun _ _ _ _ _ _ us hl => match us, hl with | [_, _], _ => rfl) fun _ _ _ _ h => by
      obtain ⟨_, _, _, _, _, h1, _⟩ := h
      omega).up (Nat.zero_le _)
  | n + 1 => cl__law_tree F z_tuple c_draw c_pick (all_tree F z_tuple c_draw c_pick n)
abbrev s__law_weighed : Stmt := top 13
theorem sc__law_weighed : FnScope ["_law_code", "_law_path", "_law_weight", "_law_found", "_law_answer", "_law_below"] ["_law_code", "_law_path", "_law_weight"] (defScope s__law_weighed) := ⟨rfl, rfl, rfl, by decide +kernel, rfl, by decide +kernel, by decide +kernel⟩
theorem fn__law_weighed {n : Nat} {f : Addr} {fd : FuncData} (F : FnP K "_law_weighed" "_law_weighed" s__law_weighed f fd) (z_int : mg "int" = none) (z_len : mg "len" = none) (c__law_weighed : Cl P w K mg base (n) "_law_weighed" (spWeighed n)) : FnOk P w K mg base CX0 (n + 1) f fd ["_law_code", "_law_path", "_law_weight"] (spWeighed (n + 1)) := by
  refine F.ok sc__law_weighed (fun vs H Q E h => by obtain ⟨_, _, _, _, _, rfl, _⟩ := h; rfl) (fun cdv A outer s H vs Q E hr h => ⟨t__law_weighed K (spWeighed n), PSs.nox ?_, pure_weighed vs H Q E h⟩)
  exact (pss_cons (ps_if (pt_cmpR op_eq (pe_ix ix_tup (pv 0) pe_int (fun _ _ => rfl)) pe_str (nomark _)) (pss_one (ps_ret (pe_lst (pa_cons (pe_tup (pa_cons (pv 1) (pa_cons (pv 2) pa_nil))) pa_nil)))) pss_nil)
  (pss_cons (ps_set (i := 3) sc__law_weighed.nd rfl (.inl rfl) (pe_lst pa_nil))
  (pss_cons (ps_for PassesOwn.never rfl (pi_tup (pe_ix ix_tup (pv 0) pe_int (fun _ _ => rfl))) (pg_tup rfl (pgs_cons (pg_name (i := 4) sc__law_weighed.nd rfl (.inl rfl)) (pgs_cons (pg_name (i := 5) sc__law_weighed.nd rfl (.inl rfl)) pgs_nil)))
  (pss_one (ps_set (i := 3) sc__law_weighed.nd rfl (.inl rfl) (pe_op op_cat (pv 3) (FL.pc c__law_weighed hr (by omega) (by rfl) (pa_cons (pv 5) (pa_cons (pe_op op_cat (pv 1) (pe_lst (pa_cons (pe_ix ix_tup (pv 0) pe_int (fun _ _ => rfl)) pa_nil))) (pa_cons (pe_op op_fdiv (pe_callTy call_int1 (by rfl) z_int (by decide +kernel) (pa_cons (pv 2) pa_nil)) (pe_callB call_len (by rfl) z_len (by decide +kernel) (pa_cons (pe_ix ix_tup (pv 0) pe_int (fun _ _ => rfl)) pa_nil))) pa_nil))))))))
  (pss_one (ps_ret (pv 3))))))
theorem cl__law_weighed {n : Nat} (F : Fx K mg "_law_weighed" s__law_weighed) (z_int : mg "int" = none) (z_len : mg "len" = none) (c__law_weighed : Cl P w K mg base (n) "_law_weighed" (spWeighed n)) : Cl P w K mg base (n + 1) "_law_weighed" (spWeighed (n + 1)) := by
  obtain ⟨f, fd, F, hm⟩ := F.ex
  exact ⟨f, fd, ["_law_code", "_law_path", "_law_weight"], fn__law_weighed F z_int z_len c__law_weighed, hm, F.kp, F.bindsN fun _ _ _ _ _ _ us hl => match us, hl with | [_, _, _], _ => rfl⟩
theorem all_weighed (F : Fx K mg "_law_weighed" s__law_weighed) (z_int : mg "int" = none) (z_len : mg "len" = none) : ∀ n : Nat, Cl P w K mg base n "_law_weighed" (spWeighed n)
  | 0 => F.never ["_law_code", "_law_path", "_law_weight"] (fun f fd F => F.bindsN fun _ _ _ _ _ _ us hl => match us, hl with | [_, _, _], _ => rfl) fun _ _ _ _ h => by
      obtain ⟨_, _, _, _, _, _, _, _, h1, _⟩ := h
      omega
  | n + 1 => cl__law_weighed F z_int z_len (all_weighed F z_int z_len n)
abbrev s_law : Stmt := top 14
theorem sc_law : FnScope ["_law_script", "_law_k", "_law_draws", "_law_one", "_law_two", "_law_code", "_law_rows", "_law_spot", "_law_due", "_law_path", "_law_weight"] ["_law_script"] (defScope s_law) := ⟨rfl, rfl, rfl, by decide +kernel, rfl, by decide +kernel, by decide +kernel⟩
theorem fn_law {f : Addr} {fd : FuncData} (F : FnP K "law" "law" s_law f fd) (z_len : mg "len" = none) (z_min : mg "min" = none) (z_range : mg "range" = none) (z_sum : mg "sum" = none) (c__law_source : Cl P w K mg base (1) "_law_source" (spSource K)) (c__law_tree : Cl P w K mg base (6) "_law_tree" (spTree 4)) (c__law_weighed : Cl P w K mg base (5) "_law_weighed" (spWeighed 5)) (c__law_same : Cl P w K mg base (7) "_law_same" (spSame 7)) (c__law_fraction : Cl P w K mg base (1) "_law_fraction" (spLow)) (c_look_share : Cl P w K mg base (3) "look_share" (spShare)) (c_mean_depth : Cl P w K mg base (3) "mean_depth" (spMean)) (k_look_share_1_0 : ClK P w K mg base (3) "look_share" 2 [1, 0] ["place", "tree"] (spShare)) (k_mean_depth_0 : ClK P w K mg base (3) "mean_depth" 1 [0] ["tree"] (spMean)) : FnOk P w K mg base CX0 (9) f fd ["_law_script"] (spLaw K) := by
  refine F.ok sc_law (fun vs H Q E h => by obtain ⟨_, _, rfl, _⟩ := h; rfl) (fun cdv A outer s H vs Q E hr h => ⟨t_law K (spSource K) (spTree 4) (spWeighed 5) (spSame 7) (spLow) (spShare) (spMean), PSs.nox ?_, pure_law vs H Q E h⟩)
  exact (pss_cons (ps_for PassesOwn.never rfl (pi_range1 (by rfl) z_range (pa_cons (pe_op op_add pe_int (pe_callB (call_min2 rfl) (by rfl) z_min (by decide +kernel) (pa_cons (pe_callB call_len (by rfl) z_len (by decide +kernel) (pa_cons (pv 0) pa_nil)) (pa_cons pe_int pa_nil)))) pa_nil)) (pg_name (i := 1) sc_law.nd rfl (.inl rfl))
  (pss_cons (ps_set (i := 2) sc_law.nd rfl (.inl rfl) (FL.pc c__law_source hr (by omega) (by rfl) (pa_cons (pv 0) (pa_cons (pv 1) pa_nil))))
  (pss_cons (ps_set (i := 3) sc_law.nd rfl (.inl rfl) (FL.pc c__law_tree hr (by omega) (by rfl) (pa_cons (pv 2) (pa_cons pe_int pa_nil))))
  (pss_cons (ps_set (i := 4) sc_law.nd rfl (.inl rfl) (pe_tup (pa_cons pe_str (pa_cons (pe_tup (pa_cons pe_int pa_nil)) (pa_cons (pe_tup (pa_cons (pe_tup (pa_cons pe_int (pa_cons (pv 3) pa_nil))) (pa_cons (pe_tup (pa_cons pe_int (pa_cons (FL.pc c__law_tree hr (by omega) (by rfl) (pa_cons (pv 2) (pa_cons pe_int pa_nil))) pa_nil))) (pa_cons (pe_tup (pa_cons pe_int (pa_cons (pe_tup (pa_cons pe_str (pa_cons pe_int pa_nil))) pa_nil))) (pa_cons (pe_tup (pa_cons pe_int (pa_cons (pv 3) pa_nil))) pa_nil))))) pa_nil)))))
  (pss_cons (ps_for PassesOwn.never rfl (pi_tup (pe_tup (pa_cons (pv 3) (pa_cons (pv 4) (pa_cons (pv 3) pa_nil))))) (pg_name (i := 5) sc_law.nd rfl (.inl rfl))
  (pss_cons (ps_set (i := 6) sc_law.nd rfl (.inl rfl) (FL.pc c__law_weighed hr (by omega) (by rfl) (pa_cons (pv 5) (pa_cons (pe_lst pa_nil) (pa_cons (pe_op op_pow pe_int pe_int) pa_nil)))))
  (pss_cons (ps_for PassesOwn.never rfl (pi_list (pe_lst (pa_cons (pe_tup pa_nil) (pa_cons (pe_tup (pa_cons pe_int (pa_cons pe_int pa_nil))) (pa_cons (pe_tup (pa_cons pe_int (pa_cons pe_int (pa_cons pe_int pa_nil)))) (pa_cons (pe_tup (pa_cons (pe_op op_pow pe_int pe_int) pa_nil)) (pa_cons (pe_tup (pa_cons pe_int pa_nil)) (pa_cons (pe_tup (pa_cons pe_int (pa_cons pe_int pa_nil))) pa_nil)))))))) (pg_name (i := 7) sc_law.nd rfl (.inr rfl))
  (pss_cons (ps_set (i := 8) sc_law.nd rfl (.inl rfl) (pe_callB (cr_sum rfl) (by rfl) z_sum (by decide +kernel) (pa_cons (pe_lc (own := [("_law_path", 9), ("_law_weight", 10)]) (g := (gTup K 2 (gCons (gName 9) (gCons (gName 10) gNil)))) (tt := (tTest (tOp (rInD K) (tVar 7) (tVar 9)))) rfl sc_law.nd (pi_list (pv 6)) (blkOk_by (own := [("_law_path", 9), ("_law_weight", 10)]) (N := ["_law_script", "_law_k", "_law_draws", "_law_one", "_law_two", "_law_code", "_law_rows", "_law_spot", "_law_due", "_law_path", "_law_weight"]) (sc := defScope s_law) (by decide +kernel)) (fun _ _ _ _ _ => (pg_tup rfl (pgs_cons (pg_name (i := 9) sc_law.nd rfl (.inl rfl)) (pgs_cons (pg_name (i := 10) sc_law.nd rfl (.inl rfl)) pgs_nil)))) (fun _ _ _ _ _ => (pts_one (pt_cmpR (op_inD (FL.u65 hr)) (pv 7) (pv 9) (by rfl)))) (fun _ _ _ _ _ => (pv 10))) pa_nil)))
  (pss_one (ps_if (pt_not (pt_val (FL.pc c__law_same hr (by omega) (by rfl) (pa_cons (FL.pc c_look_share hr (by omega) (by rfl) (pa_cons (pv 5) (pa_cons (pv 7) pa_nil))) (pa_cons (FL.pc c__law_fraction hr (by omega) (by rfl) (pa_cons (pv 8) (pa_cons (pe_op op_pow pe_int pe_int) pa_nil))) pa_nil))))) (pss_one (ps_ret pe_bl)) pss_nil))))
  (pss_cons (ps_set (i := 8) sc_law.nd rfl (.inl rfl) (pe_callB (cr_sum rfl) (by rfl) z_sum (by decide +kernel) (pa_cons (pe_lc (own := [("_law_path", 9), ("_law_weight", 10)]) (g := (gTup K 2 (gCons (gName 9) (gCons (gName 10) gNil)))) (tt := tYes) rfl sc_law.nd (pi_list (pv 6)) (blkOk_by (own := [("_law_path", 9), ("_law_weight", 10)]) (N := ["_law_script", "_law_k", "_law_draws", "_law_one", "_law_two", "_law_code", "_law_rows", "_law_spot", "_law_due", "_law_path", "_law_weight"]) (sc := defScope s_law) (by decide +kernel)) (fun _ _ _ _ _ => (pg_tup rfl (pgs_cons (pg_name (i := 9) sc_law.nd rfl (.inl rfl)) (pgs_cons (pg_name (i := 10) sc_law.nd rfl (.inl rfl)) pgs_nil)))) (fun _ _ _ _ _ => pts_nil) (fun _ _ _ _ _ => (pe_op op_mul (pv 10) (pe_callB call_len (by rfl) z_len (by decide +kernel) (pa_cons (pv 9) pa_nil))))) pa_nil)))
  (pss_one (ps_if (pt_not (pt_val (FL.pc c__law_same hr (by omega) (by rfl) (pa_cons (FL.pc c_mean_depth hr (by omega) (by rfl) (pa_cons (pv 5) pa_nil)) (pa_cons (FL.pc c__law_fraction hr (by omega) (by rfl) (pa_cons (pv 8) (pa_cons (pe_op op_pow pe_int pe_int) pa_nil))) pa_nil))))) (pss_one (ps_ret pe_bl)) pss_nil))))))
  (pss_cons (ps_if (pt_not (pt_val (FL.pc c__law_same hr (by omega) (by rfl) (pa_cons (FL.pck k_look_share_1_0 hr (by omega) (by rfl) (pk_cons (pe_tup (pa_cons pe_int pa_nil)) (pk_cons (pv 4) pk_nil))) (pa_cons (pe_tup (pa_cons pe_int (pa_cons pe_int pa_nil))) pa_nil))))) (pss_one (ps_ret pe_bl)) pss_nil)
  (pss_one (ps_if (pt_not (pt_val (FL.pc c__law_same hr (by omega) (by rfl) (pa_cons (FL.pck k_mean_depth_0 hr (by omega) (by rfl) (pk_cons (pe_tup (pa_cons pe_str (pa_cons pe_int pa_nil))) pk_nil)) (pa_cons (pe_tup (pa_cons pe_int (pa_cons pe_int pa_nil))) pa_nil))))) (pss_one (ps_ret pe_bl)) pss_nil))))))))
  (pss_one (ps_ret pe_bl)))
end
def dd__law_source : He.DefD := ⟨("_law_source", none), "_law_source", "_law_source", defArgs s__law_source, defBody s__law_source, defScope s__law_source, [], []⟩
def dd__law_draw : He.DefD := ⟨("_law_draw", none), "_law_draw", "_law_draw", defArgs s__law_draw, defBody s__law_draw, defScope s__law_draw, [], []⟩
def dd__law_pick : He.DefD := ⟨("_law_pick", none), "_law_pick", "_law_pick", defArgs s__law_pick, defBody s__law_pick, defScope s__law_pick, [], []⟩
def dd__law_same : He.DefD := ⟨("_law_same", none), "_law_same", "_law_same", defArgs s__law_same, defBody s__law_same, defScope s__law_same, [], []⟩
def dd_lowest_terms : He.DefD := ⟨("lowest_terms", none), "lowest_terms", "lowest_terms", defArgs s_lowest_terms, defBody s_lowest_terms, defScope s_lowest_terms, [], []⟩
def dd_weight_total : He.DefD := ⟨("weight_total", none), "weight_total", "weight_total", defArgs s_weight_total, defBody s_weight_total, defScope s_weight_total, [], []⟩
def dd_weighed_leaves : He.DefD := ⟨("weighed_leaves", none), "weighed_leaves", "weighed_leaves", defArgs s_weighed_leaves, defBody s_weighed_leaves, defScope s_weighed_leaves, [], []⟩
def dd_look_share : He.DefD := ⟨("look_share", none), "look_share", "look_share", defArgs s_look_share, defBody s_look_share, defScope s_look_share, [], []⟩
def dd_mean_depth : He.DefD := ⟨("mean_depth", none), "mean_depth", "mean_depth", defArgs s_mean_depth, defBody s_mean_depth, defScope s_mean_depth, [], []⟩
def dd__law_fraction : He.DefD := ⟨("_law_fraction", none), "_law_fraction", "_law_fraction", defArgs s__law_fraction, defBody s__law_fraction, defScope s__law_fraction, [], []⟩
def dd__law_tree : He.DefD := ⟨("_law_tree", none), "_law_tree", "_law_tree", defArgs s__law_tree, defBody s__law_tree, defScope s__law_tree, [], []⟩
def dd__law_weighed : He.DefD := ⟨("_law_weighed", none), "_law_weighed", "_law_weighed", defArgs s__law_weighed, defBody s__law_weighed, defScope s__law_weighed, [], []⟩
def dd_law : He.DefD := ⟨("law", none), "law", "law", defArgs s_law, defBody s_law, defScope s_law, [], []⟩
def hfn : List He.DefD := [dd__law_source, dd__law_draw, dd__law_pick, dd__law_same, dd_lowest_terms, dd_weight_total, dd_weighed_leaves, dd_look_share, dd_mean_depth, dd__law_fraction, dd__law_tree, dd__law_weighed, dd_law]
def hfa : List He.Fa := [.glo "_law_source", .glo "_law_draw", .glo "_law_pick", .glo "_law_same", .glo "lowest_terms", .glo "weight_total", .glo "weighed_leaves", .glo "look_share", .glo "mean_depth", .glo "_law_fraction", .glo "_law_tree", .glo "_law_weighed", .glo "law", .free "len", .free "int", .free "tuple", .free "list", .free "isinstance", .free "zip", .free "all", .free "dict", .free "bool", .free "abs", .free "reversed", .free "any", .free "min", .free "range", .free "sum"]
abbrev R : PySem.W.OpenRow := PySem.W.OpenLaw.row PySem.Challenge.rw_finitelooks_k38_weights_of_trees
abbrev hk : PySem.W.Hook := He.hookD 4 hfa hfn
def ob (s : PySem.W.SharedT) : He.AlD := He.obsDG 4 hfa hfn (HandSHeadRun.getT s)
theorem ob_eq (s : PySem.W.SharedT) : ob s = hk.obs s.abs := He.obsDG_eq (HandSHeadRun.getT_eq s)
def hnames : List PySem.Str := ["lowest_terms", "weight_total", "weighed_leaves", "look_share", "mean_depth", "_law_source", "_law_draw", "_law_pick", "_law_same", "_law_fraction", "_law_tree", "_law_weighed"]
theorem run (w : World) : HandSHeadRun.RunEq R (PySem.W.view R.prog [14]) hk ob 2000 hnames w := by
  intro os
  kernel_rfl
theorem facts {P : Program} {w : World} {K : PySem.W.Frag} {h : Heap} {mg : Str → Option Value} {f : Addr} (X : K.In h) (G : h.Ns mainGlobals mg) (hfa0 : mg ("law" : Str) = some (.ref f)) (c : He.SaysD hfa hfn K) :
    ∃ fd : FuncData, (∀ (s : Shared) (v : Value), BindsTo s fd ⟨[v], []⟩ [("_law_script", v)]) ∧ ∀ base : Heap, K.In base → base.Ns mainGlobals mg → FnOk P w K mg base CX0 (9) f fd ["_law_script"] (spLaw K) := by
  have F__law_source : Fx K mg "_law_source" s__law_source := by
    obtain ⟨fd, F⟩ := c.def_ 0 (d := dd__law_source) rfl
    exact ⟨_, fd, F, He.glo_ok X G (c.fact 0 (f := .glo "_law_source") rfl)⟩
  have F__law_draw : Fx K mg "_law_draw" s__law_draw := by
    obtain ⟨fd, F⟩ := c.def_ 1 (d := dd__law_draw) rfl
    exact ⟨_, fd, F, He.glo_ok X G (c.fact 1 (f := .glo "_law_draw") rfl)⟩
  have F__law_pick : Fx K mg "_law_pick" s__law_pick := by
    obtain ⟨fd, F⟩ := c.def_ 2 (d := dd__law_pick) rfl
    exact ⟨_, fd, F, He.glo_ok X G (c.fact 2 (f := .glo "_law_pick") rfl)⟩
  have F__law_same : Fx K mg "_law_same" s__law_same := by
    obtain ⟨fd, F⟩ := c.def_ 3 (d := dd__law_same) rfl
    exact ⟨_, fd, F, He.glo_ok X G (c.fact 3 (f := .glo "_law_same") rfl)⟩
  have F_lowest_terms : Fx K mg "lowest_terms" s_lowest_terms := by
    obtain ⟨fd, F⟩ := c.def_ 4 (d := dd_lowest_terms) rfl
    exact ⟨_, fd, F, He.glo_ok X G (c.fact 4 (f := .glo "lowest_terms") rfl)⟩
  have F_weight_total : Fx K mg "weight_total" s_weight_total := by
    obtain ⟨fd, F⟩ := c.def_ 5 (d := dd_weight_total) rfl
    exact ⟨_, fd, F, He.glo_ok X G (c.fact 5 (f := .glo "weight_total") rfl)⟩
  have F_weighed_leaves : Fx K mg "weighed_leaves" s_weighed_leaves := by
    obtain ⟨fd, F⟩ := c.def_ 6 (d := dd_weighed_leaves) rfl
    exact ⟨_, fd, F, He.glo_ok X G (c.fact 6 (f := .glo "weighed_leaves") rfl)⟩
  have F_look_share : Fx K mg "look_share" s_look_share := by
    obtain ⟨fd, F⟩ := c.def_ 7 (d := dd_look_share) rfl
    exact ⟨_, fd, F, He.glo_ok X G (c.fact 7 (f := .glo "look_share") rfl)⟩
  have F_mean_depth : Fx K mg "mean_depth" s_mean_depth := by
    obtain ⟨fd, F⟩ := c.def_ 8 (d := dd_mean_depth) rfl
    exact ⟨_, fd, F, He.glo_ok X G (c.fact 8 (f := .glo "mean_depth") rfl)⟩
  have F__law_fraction : Fx K mg "_law_fraction" s__law_fraction := by
    obtain ⟨fd, F⟩ := c.def_ 9 (d := dd__law_fraction) rfl
    exact ⟨_, fd, F, He.glo_ok X G (c.fact 9 (f := .glo "_law_fraction") rfl)⟩
  have F__law_tree : Fx K mg "_law_tree" s__law_tree := by
    obtain ⟨fd, F⟩ := c.def_ 10 (d := dd__law_tree) rfl
    exact ⟨_, fd, F, He.glo_ok X G (c.fact 10 (f := .glo "_law_tree") rfl)⟩
  have F__law_weighed : Fx K mg "_law_weighed" s__law_weighed := by
    obtain ⟨fd, F⟩ := c.def_ 11 (d := dd__law_weighed) rfl
    exact ⟨_, fd, F, He.glo_ok X G (c.fact 11 (f := .glo "_law_weighed") rfl)⟩
  have F_law : Fx K mg "law" s_law := by
    obtain ⟨fd, F⟩ := c.def_ 12 (d := dd_law) rfl
    exact ⟨_, fd, F, He.glo_ok X G (c.fact 12 (f := .glo "law") rfl)⟩
  have z_len : mg "len" = none := He.free_ok X G (c.fact 13 (f := .free "len") rfl)
  have z_int : mg "int" = none := He.free_ok X G (c.fact 14 (f := .free "int") rfl)
  have z_tuple : mg "tuple" = none := He.free_ok X G (c.fact 15 (f := .free "tuple") rfl)
  have z_list : mg "list" = none := He.free_ok X G (c.fact 16 (f := .free "list") rfl)
  have z_isinstance : mg "isinstance" = none := He.free_ok X G (c.fact 17 (f := .free "isinstance") rfl)
  have z_zip : mg "zip" = none := He.free_ok X G (c.fact 18 (f := .free "zip") rfl)
  have z_all : mg "all" = none := He.free_ok X G (c.fact 19 (f := .free "all") rfl)
  have z_dict : mg "dict" = none := He.free_ok X G (c.fact 20 (f := .free "dict") rfl)
  have z_bool : mg "bool" = none := He.free_ok X G (c.fact 21 (f := .free "bool") rfl)
  have z_abs : mg "abs" = none := He.free_ok X G (c.fact 22 (f := .free "abs") rfl)
  have z_reversed : mg "reversed" = none := He.free_ok X G (c.fact 23 (f := .free "reversed") rfl)
  have z_any : mg "any" = none := He.free_ok X G (c.fact 24 (f := .free "any") rfl)
  have z_min : mg "min" = none := He.free_ok X G (c.fact 25 (f := .free "min") rfl)
  have z_range : mg "range" = none := He.free_ok X G (c.fact 26 (f := .free "range") rfl)
  have z_sum : mg "sum" = none := He.free_ok X G (c.fact 27 (f := .free "sum") rfl)
  obtain ⟨fd, F⟩ := c.def_ 12 (d := dd_law) rfl
  have e := hfa0.symm.trans (He.glo_ok X G (c.fact 12 (f := .glo "law") rfl))
  cases e
  have b := FunD.bindsA (ps := ["_law_script"]) F fun _ _ _ _ _ _ us hl => match us, hl with | [_], _ => rfl
  refine ⟨fd, fun s v => b s [v] rfl, fun base _ _ => ?_⟩
  have c__law_source := cl__law_source (P := P) (w := w) (base := base) F__law_source z_len z_int
  have c__law_draw := cl__law_draw (P := P) (w := w) (base := base) F__law_draw z_int
  have c__law_pick := cl__law_pick (P := P) (w := w) (base := base) F__law_pick z_len c__law_draw
  have a_same := all_same (P := P) (w := w) (base := base) F__law_same z_isinstance z_list z_tuple z_len z_all z_zip z_dict z_bool z_int
  have c_lowest_terms := cl_lowest_terms (P := P) (w := w) (base := base) F_lowest_terms z_abs
  have c_weight_total := cl_weight_total (P := P) (w := w) (base := base) F_weight_total c_lowest_terms
  have c_weighed_leaves := cl_weighed_leaves (P := P) (w := w) (base := base) F_weighed_leaves z_len z_list z_reversed
  have c_look_share := cl_look_share (P := P) (w := w) (base := base) F_look_share z_any c_weighed_leaves c_weight_total
  have k_look_share_1_0 := ck_look_share_1_0 (P := P) (w := w) (base := base) F_look_share z_any c_weighed_leaves c_weight_total
  have c_mean_depth := cl_mean_depth (P := P) (w := w) (base := base) F_mean_depth z_len c_weight_total c_weighed_leaves
  have k_mean_depth_0 := ck_mean_depth_0 (P := P) (w := w) (base := base) F_mean_depth z_len c_weight_total c_weighed_leaves
  have c__law_fraction := cl__law_fraction (P := P) (w := w) (base := base) F__law_fraction z_int z_abs
  have a_tree := all_tree (P := P) (w := w) (base := base) F__law_tree z_tuple c__law_draw c__law_pick
  have a_weighed := all_weighed (P := P) (w := w) (base := base) F__law_weighed z_int z_len
  have c__law_tree := a_tree 4
  have c__law_weighed := a_weighed 5
  have c__law_same := a_same 7
  exact fn_law (P := P) (w := w) (base := base) F z_len z_min z_range z_sum c__law_source c__law_tree c__law_weighed c__law_same c__law_fraction c_look_share c_mean_depth k_look_share_1_0 k_mean_depth_0
end FL
open PySem PySem.W PySem.Calls PyProof.Rows
theorem PySem.Challenge.cw_finitelooks_k38_weights_of_trees_holds : PySem.Challenge.rw_finitelooks_k38_weights_of_trees.Holds := by
  w_on; o_law
  refine HandSHeadRun.head_any (r := OpenLaw.row PySem.Challenge.rw_finitelooks_k38_weights_of_trees) (q := view (OpenLaw.row PySem.Challenge.rw_finitelooks_k38_weights_of_trees).prog [14]) (H := FL.hk) (ob := FL.ob) (M := 2000) (loose := FL.hnames) (d := HandSHeadRun.topDef (OpenLaw.row PySem.Challenge.rw_finitelooks_k38_weights_of_trees).prog 14) (kwd := []) FL.ob_eq
    (by kernel_rfl) (fun s => by kernel_rfl) FL.run (by kernel_rfl) (by kernel_rfl) (by kernel_rfl) (by rfl) (by first | assumption | decide +kernel) (by decide +kernel) ⟨rfl, rfl, rfl, rfl, rfl, by decide +kernel⟩ ?hw ?hc
  case hw => w_witness2
  case hc =>
    refine L2.walk_ofE (l := PySem.Challenge.rw_finitelooks_k38_weights_of_trees) (n := 63) (k := 9) (x := "_law_script") (CX := L2.CX0) rfl (by decide) (by kernel_rfl) ⟨rfl, by decide, by decide⟩ ?F (fun _ _ _ _ z => z)
    intro w mg fa h Y G hmg0
    obtain ⟨K, KX, c⟩ := Y
    have hmg : mg ("law" : PySem.Str) = some (.ref fa) := by
      have e : (HandSHeadRun.topDef (OpenLaw.row PySem.Challenge.rw_finitelooks_k38_weights_of_trees).prog 14).name = ("law" : PySem.Str) := by kernel_rfl
      rw [← e]
      exact hmg0
    obtain ⟨fd, hb, hF⟩ := FL.facts (P := (PySem.Challenge.rw_finitelooks_k38_weights_of_trees).prog) (w := w) KX G hmg c
    exact ⟨K, fd, FL.spLaw K, KX, hb, fun H a ns hl _ hS => ⟨a, ns, rfl, hS, hl, fun _ => rfl⟩, hF⟩
