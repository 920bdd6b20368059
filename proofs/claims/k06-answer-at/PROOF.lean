import PyProof.Rows.All
import Wide.All
import OpenK.AllK
import Wide.FinOn
import KE.KStateDown
import Lean
import HandS.ForMost
import HandS.More
import HandS.IsInst
import HandS.TupAny
import HandS.Zip
import HandS.Rev
import HandS.Walk
import HandS.Wide
import HandS.Conv
import HandS.Deep
import HandS.Defaults
import HandS.WordsExc
import HandS.Head0
import HandS.Head1
import HandS.Head2
import HandS.HeadEnd
import HandS.HeadHook1
import HandS.HeadHook2
import HandS.HeadHook3
import HandS.HeadHook4
import HandS.EndTab
import HandS.HeadWalk
import KE.KSuper
import HandS.Nested
import HandS.Lambda
import HandS.ExcInit
import HandS.ExcField
import HandS.ExcIs
import HandS.DictTup
import HandS.ListItems
import KE.KDictDisplayH
import KE.KOpsOwn
import HandS.TupLe
import HandS.Slots
import HandS.Style
import HandS.TupLen
import HandS.SortInts
import HandS.FStr
import HandS.SetFor
import HandS.SetKeys
import HandS.DictComp
import PySem.Challenge.RW_finitelooks_k06_answer_at
set_option Elab.async false
set_option linter.all false
set_option maxRecDepth 100000
set_option maxHeartbeats 1000000
set_option maxHeartbeats 0
/-! ## Pre: heaps that keep all but some addresses; data in the heap; calls by name -/
namespace FL
open PySem L2

/-- all but ex is kept -/
def Kp (ex : List Addr) (H H' : Hp) : Prop := ∀ b o, b ∉ ex → H b = some o → H' b = some o
theorem Kp.refl {ex : List Addr} {H : Hp} : Kp ex H H := fun _ _ _ h => h
theorem Kp.trans {ex : List Addr} {H H1 H2 : Hp} (a : Kp ex H H1) (b : Kp ex H1 H2) : Kp ex H H2 := fun c o n h => b c o n (a c o n h)
theorem Kp.mono {ex ex' : List Addr} {H H' : Hp} (s : ∀ b, b ∈ ex → b ∈ ex') (k : Kp ex H H') : Kp ex' H H' := fun b o n h => k b o (fun z => n (s b z)) h
theorem Kp.any {ex : List Addr} {H H' : Hp} (k : Kp [] H H') : Kp ex H H' := fun b o _ h => k b o (fun z => nomatch z) h
theorem Kp.new {ex : List Addr} {H : Hp} {p : Addr} {o : HO} (h : H p = none) : Kp ex H (upd H p o) := fun b u _ e => by
  rw [upd_ne (ne_of_none e h)]; exact e
theorem Kp.mut {ex : List Addr} {H : Hp} {p : Addr} {o : HO} (h : p ∈ ex) : Kp ex H (upd H p o) := fun b u n e => by
  have z : b ≠ p := fun z => n (by rw [z]; exact h)
  rw [upd_ne z]; exact e
/-- what was not there ahead need not be named -/
theorem Kp.drop {ex : List Addr} {H H' : Hp} {p : Addr} (k : Kp (p :: ex) H H') (h : H p = none) : Kp ex H H' := fun b o n e =>
  k b o (fun z => by rcases List.mem_cons.mp z with z | z; exact ne_of_none e h z; exact n z) e
theorem Kp.same {H H' : Hp} (k : Kp [] H H') : Same H H' := fun b o e => k b o (fun z => nomatch z) e
theorem Kp.of {H H' : Hp} (k : Same H H') : Kp [] H H' := fun b o _ e => k b o e
theorem Kp.free {H H' : Hp} (k : Kp [] H H') {p : Addr} (h : H' p = none) : H p = none := k.same.free h
theorem Kp.nonein {ex : List Addr} {H H' : Hp} (k : Kp ex H H') {p : Addr} (n : p ∉ ex) (h : H' p = none) : H p = none := by
  cases q : H p with
  | none => rfl
  | some o => rw [k p o n q] at h; cases h

mutual
/-- the data d stands at v, no part of it at an address of ex -/
inductive DX (ex : List Addr) (H : Hp) : V → PyData → Prop
  | non : DX ex H .non .none
  | bl (b : Bool) : DX ex H (.bl b) (.bool b)
  | int (i : Int) : DX ex H (.int i) (.int i)
  | str (x : Str) : DX ex H (.str x) (.str x)
  | lst {a : Addr} {xs : List V} {ds : List PyData} : a ∉ ex → H a = some (.lst xs) → DXs ex H xs ds → DX ex H (.ref a) (.list ds)
  | tup {a : Addr} {xs : List V} {ds : List PyData} : a ∉ ex → H a = some (.tup xs) → DXs ex H xs ds → DX ex H (.ref a) (.tuple ds)
inductive DXs (ex : List Addr) (H : Hp) : List V → List PyData → Prop
  | nil : DXs ex H [] []
  | cons {v : V} {vs : List V} {d : PyData} {ds : List PyData} : DX ex H v d → DXs ex H vs ds → DXs ex H (v :: vs) (d :: ds)
end

mutual
theorem DX.mono {ex : List Addr} {H H' : Hp} (k : Kp ex H H') : ∀ {v : V} {d : PyData}, DX ex H v d → DX ex H' v d
  | _, _, .non => .non
  | _, _, .bl b => .bl b
  | _, _, .int i => .int i
  | _, _, .str x => .str x
  | _, _, .lst n h r => .lst n (k _ _ n h) (DXs.mono k r)
  | _, _, .tup n h r => .tup n (k _ _ n h) (DXs.mono k r)
theorem DXs.mono {ex : List Addr} {H H' : Hp} (k : Kp ex H H') : ∀ {v : List V} {d : List PyData}, DXs ex H v d → DXs ex H' v d
  | _, _, .nil => .nil
  | _, _, .cons a r => .cons (DX.mono k a) (DXs.mono k r)
end
mutual
/-- another set of addresses: what stands there in H must not be in the new one -/
theorem DX.ex {ex ex' : List Addr} {H : Hp} (k : ∀ b o, b ∉ ex → H b = some o → b ∉ ex') : ∀ {v : V} {d : PyData}, DX ex H v d → DX ex' H v d
  | _, _, .non => .non
  | _, _, .bl b => .bl b
  | _, _, .int i => .int i
  | _, _, .str x => .str x
  | _, _, .lst n h r => .lst (k _ _ n h) h (DXs.ex k r)
  | _, _, .tup n h r => .tup (k _ _ n h) h (DXs.ex k r)
theorem DXs.ex {ex ex' : List Addr} {H : Hp} (k : ∀ b o, b ∉ ex → H b = some o → b ∉ ex') : ∀ {v : List V} {d : List PyData}, DXs ex H v d → DXs ex' H v d
  | _, _, .nil => .nil
  | _, _, .cons a r => .cons (DX.ex k a) (DXs.ex k r)
end
mutual
theorem DX.dp {K : PySem.W.Frag} {ex : List Addr} {H : Hp} : ∀ {v : V} {d : PyData}, DX ex H v d → Dp K H v d
  | _, _, .non => .non
  | _, _, .bl b => .bl b
  | _, _, .int i => .int i
  | _, _, .str x => .str x
  | _, _, .lst n h r => .lst (SqL.of h) (DXs.dp r)
  | _, _, .tup n h r => .tup (SqT.of h) (DXs.dp r)
theorem DXs.dp {K : PySem.W.Frag} {ex : List Addr} {H : Hp} : ∀ {v : List V} {d : List PyData}, DXs ex H v d → DpAll K H v d
  | _, _, .nil => .nil
  | _, _, .cons a r => .cons (DX.dp a) (DXs.dp r)
end
theorem DX.fresh {ex : List Addr} {H : Hp} {p : Addr} {v : V} {d : PyData} (h : DX ex H v d) (n : H p = none) : DX (p :: ex) H v d :=
  h.ex fun b o m e z => by rcases List.mem_cons.mp z with z | z; exact ne_of_none e n z; exact m z
theorem DXs.fresh {ex : List Addr} {H : Hp} {p : Addr} {v : List V} {d : List PyData} (h : DXs ex H v d) (n : H p = none) : DXs (p :: ex) H v d :=
  h.ex fun b o m e z => by rcases List.mem_cons.mp z with z | z; exact ne_of_none e n z; exact m z
theorem DX.less {ex ex' : List Addr} {H : Hp} {v : V} {d : PyData} (h : DX ex H v d) (s : ∀ b, b ∈ ex' → b ∈ ex) : DX ex' H v d := h.ex fun b _ n _ z => n (s b z)
theorem DXs.less {ex ex' : List Addr} {H : Hp} {v : List V} {d : List PyData} (h : DXs ex H v d) (s : ∀ b, b ∈ ex' → b ∈ ex) : DXs ex' H v d := h.ex fun b _ n _ z => n (s b z)
theorem DX.all {ex : List Addr} {H : Hp} {v : V} {d : PyData} (h : DX ex H v d) : DX [] H v d := h.less fun _ z => nomatch z
theorem DXs.all {ex : List Addr} {H : Hp} {v : List V} {d : List PyData} (h : DXs ex H v d) : DXs [] H v d := h.less fun _ z => nomatch z
theorem DXs.len {ex : List Addr} {H : Hp} : ∀ {v : List V} {d : List PyData}, DXs ex H v d → v.length = d.length
  | _, _, .nil => rfl
  | _, _, .cons _ r => by rw [List.length_cons, List.length_cons, DXs.len r]
theorem DXs.app {ex : List Addr} {H : Hp} : ∀ {v w : List V} {d e : List PyData}, DXs ex H v d → DXs ex H w e → DXs ex H (v ++ w) (d ++ e)
  | _, _, _, _, .nil, s => s
  | _, _, _, _, .cons a r, s => .cons a (DXs.app r s)
theorem DXs.one {ex : List Addr} {H : Hp} {v : V} {d : PyData} (h : DX ex H v d) : DXs ex H [v] [d] := .cons h .nil
theorem DXs.get {ex : List Addr} {H : Hp} : ∀ {v : List V} {d : List PyData} {i : Nat} {x : V}, DXs ex H v d → v[i]? = some x → ∃ e, d[i]? = some e ∧ DX ex H x e
  | _, _, _, _, .nil, e => by simp at e
  | _, _, 0, _, .cons a _, e => by simp at e; subst e; exact ⟨_, rfl, a⟩
  | _, _, i + 1, x, .cons _ r, e => by
    obtain ⟨z, h1, h2⟩ := DXs.get (i := i) (x := x) r (by simpa using e)
    exact ⟨z, by simpa using h1, h2⟩
theorem DXs.getD {ex : List Addr} {H : Hp} : ∀ {v : List V} {d : List PyData} {i : Nat} {e : PyData}, DXs ex H v d → d[i]? = some e → ∃ x, v[i]? = some x ∧ DX ex H x e
  | _, _, _, _, .nil, e => by simp at e
  | _, _, 0, _, .cons a _, e => by simp at e; subst e; exact ⟨_, rfl, a⟩
  | _, _, i + 1, x, .cons _ r, e => by
    obtain ⟨z, h1, h2⟩ := DXs.getD (i := i) (e := x) r (by simpa using e)
    exact ⟨z, by simpa using h1, h2⟩
theorem DXs.ints {ex : List Addr} {H : Hp} : ∀ ns : List Int, DXs ex H (ns.map V.int) (ns.map PyData.int)
  | [] => .nil
  | n :: r => .cons (.int n) (DXs.ints r)
theorem DXs.rev {ex : List Addr} {H : Hp} : ∀ {v : List V} {d : List PyData}, DXs ex H v d → DXs ex H v.reverse d.reverse
  | _, _, .nil => .nil
  | _, _, .cons a r => by rw [List.reverse_cons, List.reverse_cons]; exact (DXs.rev r).app (.one a)
theorem DXs.lastD {ex : List Addr} {H : Hp} {v : List V} {d : List PyData} {x : V} (h : DXs ex H v d) (e : v[v.length - 1]? = some x) : ∃ z, d[d.length - 1]? = some z ∧ DX ex H x z := by
  rw [h.len] at e; exact h.get e
theorem DXs.init {ex : List Addr} {H : Hp} : ∀ {v : List V} {d : List PyData}, DXs ex H v d → DXs ex H v.dropLast d.dropLast
  | _, _, .nil => .nil
  | _, _, .cons _ .nil => .nil
  | _, _, .cons a (.cons b r) => .cons a (DXs.init (.cons b r))
/-- a new tuple, a new list of data -/
theorem DX.newT {ex : List Addr} {H : Hp} {p : Addr} {xs : List V} {ds : List PyData} (h : DXs ex H xs ds) (n : H p = none) (m : p ∉ ex) : DX ex (upd H p (.tup xs)) (.ref p) (.tuple ds) :=
  .tup m upd_same (h.mono (Kp.new n))
theorem DX.newL {ex : List Addr} {H : Hp} {p : Addr} {xs : List V} {ds : List PyData} (h : DXs ex H xs ds) (n : H p = none) (m : p ∉ ex) : DX ex (upd H p (.lst xs)) (.ref p) (.list ds) :=
  .lst m upd_same (h.mono (Kp.new n))
theorem nin1 {a p : Addr} (h : p ≠ a) : p ∉ [a] := fun z => h (List.mem_singleton.mp z)
theorem nin_none {ex : List Addr} {H : Hp} {p : Addr} (h : H p = none) (k : ∀ b ∈ ex, ∃ o, H b = some o) : p ∉ ex := fun z => by
  obtain ⟨o, e⟩ := k p z; rw [e] at h; cases h

/-- the name of a data's type -/
def tyN : PyData → String
  | .none => "NoneType"
  | .bool _ => "bool"
  | .int _ => "int"
  | .str _ => "str"
  | .list _ => "list"
  | .tuple _ => "tuple"
  | .dict _ => "dict"
theorem DX.ty {K : PySem.W.Frag} {ex : List Addr} {H : Hp} {v : V} {d : PyData} (h : DX ex H v d) : TyX K H v (.type (tyN d)) := by
  cases h with
  | non => exact .base .non
  | bl b => exact .base (.bl b)
  | int i => exact .base (.int i)
  | str x => exact .base (.str x)
  | lst _ e _ => exact .base (.lst e)
  | tup _ e _ => exact .base (.tup e)

/-- data without dicts, at most n deep -/
inductive Sh : Nat → PyData → Prop
  | non (n : Nat) : Sh n .none
  | bl (n : Nat) (b : Bool) : Sh n (.bool b)
  | int (n : Nat) (i : Int) : Sh n (.int i)
  | str (n : Nat) (x : Str) : Sh n (.str x)
  | lst {n : Nat} {ds : List PyData} : (∀ d ∈ ds, Sh n d) → Sh (n + 1) (.list ds)
  | tup {n : Nat} {ds : List PyData} : (∀ d ∈ ds, Sh n d) → Sh (n + 1) (.tuple ds)
theorem Sh.up {n : Nat} {d : PyData} (h : Sh n d) : ∀ m, n ≤ m → Sh m d := by
  induction h with
  | non n => intro m _; exact .non m
  | bl n b => intro m _; exact .bl m b
  | int n i => intro m _; exact .int m i
  | str n x => intro m _; exact .str m x
  | lst _ ih =>
    intro m hm
    obtain ⟨k, rfl⟩ : ∃ k, m = k + 1 := ⟨m - 1, by omega⟩
    exact .lst fun d hd => ih d hd k (by omega)
  | tup _ ih =>
    intro m hm
    obtain ⟨k, rfl⟩ : ∃ k, m = k + 1 := ⟨m - 1, by omega⟩
    exact .tup fun d hd => ih d hd k (by omega)

/-- a def of the module that is called by its name -/
structure Cl (P : Program) (w : World) (K : PySem.W.Frag) (mg : Str → Option Value) (base : Heap) (k : Nat) (x : Str) (sp : Sp) : Prop where
  ex : ∃ (f : Addr) (fd : FuncData) (ps : List Str), FnOk P w K mg base CX0 k f fd ps sp ∧ mg x = some (.ref f) ∧ PySem.W.keepIn K (.ref f) = true ∧ Binds K fd ps []
theorem Cl.imp {P : Program} {w : World} {K : PySem.W.Frag} {mg : Str → Option Value} {base : Heap} {k : Nat} {x : Str} {sp sp' : Sp} (c : Cl P w K mg base k x sp) (h : ∀ vs H Q E, sp' vs H Q E → sp vs H Q E) : Cl P w K mg base k x sp' := by
  obtain ⟨f, fd, ps, F, hm, kp, b⟩ := c.ex
  exact ⟨f, fd, ps, F.imp h, hm, kp, b⟩
theorem Cl.up {P : Program} {w : World} {K : PySem.W.Frag} {mg : Str → Option Value} {base : Heap} {k j : Nat} {x : Str} {sp : Sp} (c : Cl P w K mg base k x sp) (h : k ≤ j) : Cl P w K mg base j x sp := by
  obtain ⟨f, fd, ps, F, hm, kp, b⟩ := c.ex
  exact ⟨f, fd, ps, F.mono h, hm, kp, b⟩
section
variable {X : Cx} {k j : Nat} {x : Str} {sp : Sp} {e : Expr} {es : List Expr} {t : TA} {p pos : Pos}
theorem pc (c : Cl X.prog X.w X.K X.mg X.base k x sp) (hr : Room j X.A) (hk : k ≤ j) (hg : Gl X x) (ha : PA X (e :: es) t)
    (hdb : (x == ("__debug__" : Str)) = false := by decide) (he : starEach (e :: es) X.env = (false, eval e X.env) :: starEach es X.env := by rfl) (hpl : (backTo pos (starEach es X.env)).any (·.1) = false := by rfl) :
    PE X (.Call (.Name x p) (e :: es) [] pos) (tCall sp [] E0 t) := by
  obtain ⟨f, fd, ps, F, hm, kp, b⟩ := c.ex
  exact pe_call F (hr.mono hk) hg hm kp b .nil pass0 ha hdb he hpl
end
theorem atI_i {α : Type} {xs : List α} {k : Int} {v : α} (h : 0 ≤ k) (e : xs[k.toNat]? = some v) : atI xs k = some v := by
  have ek : k = ((k.toNat : Nat) : Int) := by omega
  have q : atI xs ((k.toNat : Nat) : Int) = some v := atI_nat e
  rw [← ek] at q
  exact q
theorem pos_of {j : Int} (h : 0 < j) : (fun (_ j : Int) => 0 < j) 0 j := h
/-! readings with names -/
def rInt1 : List V → Hp → VK → Prop := fun xs H Q => (∃ i, xs = [.int i] ∧ Q (.int i) H) ∨ ∃ k, xs = [.bl k] ∧ Q (.int (if k then 1 else 0)) H
def rMax2 : List V → Hp → VK → Prop := fun xs H Q => ∃ i j, xs = [.int i, .int j] ∧ Q (.int (if j > i then j else i)) H
def rMin2 : List V → Hp → VK → Prop := fun xs H Q => ∃ i j, xs = [.int i, .int j] ∧ Q (.int (if j < i then j else i)) H
def rAbs : List V → Hp → VK → Prop := fun xs H Q => ∃ i, xs = [.int i] ∧ Q (.int (if i < 0 then -i else i)) H
def rTupOf (K : PySem.W.Frag) : List V → Hp → VK → Prop := fun xs H Q => ∃ p ys, xs = [.ref p] ∧ ((SqL K H p ys ∧ ∀ l, H l = none → Q (.ref l) (upd H l (.tup ys))) ∨ (SqT K H p ys ∧ Q (.ref p) H))
def rListOf (K : PySem.W.Frag) : List V → Hp → VK → Prop := fun xs H Q => ∃ p ys, xs = [.ref p] ∧ (SqL K H p ys ∨ SqT K H p ys) ∧ ∀ l, H l = none → Q (.ref l) (upd H l (.lst ys))
def rStrI : List V → Hp → VK → Prop := fun xs H Q => ∃ i : Int, xs = [.int i] ∧ i.natAbs.log2 < 1920 ∧ Q (.str (toString i)) H
def rAddS : R2 := fun x y H Q => ∃ i j : Str, x = .str i ∧ y = .str j ∧ i.length + j.length ≤ sizeLine ∧ Q (.str (i ++ j)) H
def rIsNon : R2 := fun x y H Q => y = .non ∧ Q (.bl (decide (x = .non))) H
def rNotNon : R2 := fun x y H Q => y = .non ∧ Q (.bl (!decide (x = .non))) H
theorem sz {n : Nat} (h : n ≤ 100000) : n ≤ sizeLine := Nat.le_trans h (by decide)
theorem szl {n : Nat} (h : n < 100000) : n < sizeLine := Nat.lt_of_lt_of_le h (by decide)
/-- a def of the text as the head's facts tell it -/
abbrev FnP (K : PySem.W.Frag) (x q : Str) (st : Stmt) (f : Addr) (fd : FuncData) : Prop := FunD K x q (defArgs st) (defBody st) (defScope st) [] [] f fd
end FL

/-! ## Kw: calls by keywords alone -/
namespace FL
open PySem PySem.Spec PyProof.Rows L2
theorem u65 {k : Nat} {A : Around} (r : Room k A) : A.units + 65 < cLine := by have := r.un; omega
/-- the keywords' values in the parameters' order -/
def gPerm {α : Type} (n : Nat) (perm : List Nat) (us ws : List α) : List α := if us.length = 0 ∧ ws.length = n then perm.filterMap (fun i => ws[i]?) else []
theorem gPerm_rel {n : Nat} {perm : List Nat} {vs : List V} {us : List Value} {zs : List V} {ws : List Value} (r : Vals vs us) (q : Vals zs ws) : Vals (gPerm n perm vs zs) (gPerm n perm us ws) := by
  unfold gPerm
  rw [r.length, q.length]
  by_cases h : us.length = 0 ∧ ws.length = n
  · rw [if_pos h, if_pos h]
    clear h
    induction perm with
    | nil => exact .nil
    | cons i perm ih =>
      cases e : zs[i]? with
      | none =>
        have e2 : ws[i]? = none := Vals.none_of q e
        rw [List.filterMap_cons_none (by exact e), List.filterMap_cons_none (by exact e2)]
        exact ih
      | some x =>
        obtain ⟨u, e2, rx⟩ := Vals.get q e
        rw [List.filterMap_cons_some (by exact e), List.filterMap_cons_some (by exact e2)]
        exact .cons rx ih
  · rw [if_neg h, if_neg h]
    exact .nil
theorem bindsK {K : PySem.W.Frag} {x qual : Str} {params : Arguments} {body : List Stmt} {scope : Scope} {f : Addr} {fd : FuncData} {ps ks : List Str} {n : Nat} {perm : List Nat} (F : FunD K x qual params body scope [] [] f fd) (hp : ps ≠ [])
    (h : ∀ (kV doc pm : Value) (an : Option Addr) (cdv ct : Value) (ws : List Value), ws.length = n → bindArgs (PySem.W.fnOf x qual params body scope .none kV doc pm an cdv ct) ⟨[], ks.zip ws⟩ = pure (ps.zip (gPerm n perm [] ws))) : KBinds K fd ps ks (gPerm n perm) (gPerm n perm) := by
  refine ⟨fun s us ws X hl => ?_, gPerm_rel⟩
  have hc : us.length = 0 ∧ ws.length = n := by
    by_cases c : us.length = 0 ∧ ws.length = n
    · exact c
    · unfold gPerm at hl
      rw [if_neg c] at hl
      exact absurd (List.length_eq_zero_iff.mp hl.symm) hp
  have e : us = [] := List.length_eq_zero_iff.mp hc.1
  subst e
  obtain ⟨oc, od, dV, kV, doc, pm, an, cdv, ct, osl, rfl, lk, hcd, hD, hK⟩ := F.ex
  rcases hD with ⟨_, rfl⟩ | ⟨e, _⟩
  · exact .of_eq (h kV doc pm an cdv ct ws hc.2)
  · exact absurd rfl e
/-- a def of the module that is called by keywords alone -/
structure ClK (P : Program) (w : World) (K : PySem.W.Frag) (mg : Str → Option Value) (base : Heap) (k : Nat) (x : Str) (n : Nat) (perm : List Nat) (ks : List Str) (sp : Sp) : Prop where
  ex : ∃ (f : Addr) (fd : FuncData) (ps : List Str), FnOk P w K mg base CX0 k f fd ps sp ∧ mg x = some (.ref f) ∧ PySem.W.keepIn K (.ref f) = true ∧ KBinds K fd ps ks (gPerm n perm) (gPerm n perm)
theorem pck {X : Cx} {k j : Nat} {x : Str} {sp : Sp} {n : Nat} {perm : List Nat} {ks : List Str} {kws : List Keyword} {tk : TA} {p pos : Pos} (c : ClK X.prog X.w X.K X.mg X.base k x n perm ks sp) (hr : Room j X.A) (hk : k ≤ j) (hg : Gl X x) (hkw : PK X kws tk)
    (hall : (backToKw pos (keywordEach kws X.env)).all (·.1.isSome) = true := by rfl) (hks : (backToKw pos (keywordEach kws X.env)).filterMap (·.1) = ks := by rfl) (hdb : (x == ("__debug__" : Str)) = false := by decide)
    (hpl : ((backTo pos (starEach [] X.env)).any (·.1) || (backToKw pos (keywordEach kws X.env)).any (·.1.isNone)) = false := by rfl) :
    PE X (.Call (.Name x p) [] kws pos) (tCallK sp (gPerm n perm) E0 tNil tk) := by
  obtain ⟨f, fd, ps, F, hm, kp, b⟩ := c.ex
  refine ⟨fun pins s σ H Q I h => ?_⟩
  refine wpAny_Call_Name_kw (ld_glob I hg hm ?_ hdb)
  refine PySem.W.callWith_KW0 (h₀ := X.base) I.ok.mod.kin kp hall ?_ hpl
  refine thn (hkw.run pos pins s σ H _ I h) fun ws s2 ⟨zs, H2, I2, rz, q2⟩ => ⟨I2.kIn, ?_⟩
  rw [hks]
  exact run_fnk (us := []) (vs := []) F (hr.mono hk) b pass0 I2 .nil rz q2
end FL

/-! ## ExcKw: a class over ValueError with an own __init__, called with keywords -/
namespace FL
open PySem PySem.Spec PyProof.Rows L2
section
variable {prog : Program} {w : World} {A : Around} {E : Value → Shared → Prop} {R : Result → Shared → Prop} {hp : Heap} {gs : Array GenState} {dw : Drawn} {tk : Nat} {os : OsState} {kw : List (Str × Value)} {xs : List Value}
variable {nm q : Str} {C N fI : Addr} {bs bm bmB : List Value} {hdct : Bool} {sn : List Str} {sub : List Value} {ab : Bool} {col : Option Bool} {dd : Option Addr} {k0 k1 k2 k3 k5 : Option Value} {B newId initId : String}
theorem kw_check (F : ExcBaseFacts B newId initId bmB) (hT : ∀ Y : String, bm.contains (.type Y) = bmB.contains (.type Y)) {Q : Unit → Shared → Prop}
    (hC : hp.get? C = some (excClassObj nm q C N bs bm hdct sn sub ab col dd k0 k1 k2 k3 k5 newId)) (hq : Q () ⟨hp, gs, dw, tk, os⟩) : wpAny (model prog w) A (checkBuiltinCall newId ⟨.ref C :: xs, kw⟩) Q E ⟨hp, gs, dw, tk, os⟩ := by
  have c1 : (Value.ref C :: bm).contains (.type B) = true := by rw [List.contains_cons, hT, F.hasB]; exact Bool.or_true _
  have c2 := F.noStar
  simp only [checkBuiltinCall, F.newSplit, F.newKind, F.newRow]
  repeat (first | with_reducible refine wpAny_loadPart_at hC ?_ | (with_reducible refine wpAny_isSubtype_exc hC ?_; rw [c1]) | with_reducible refine wpAny_staticBase_exc hC ?_ | with_reducible refine wpAny_madeBy_exc hC ?_ | simp only [if_false, bne_self_eq_false, Bool.false_eq_true] | wp_step)
  all_goals exact hq
theorem kw_new (F : ExcBaseFacts B newId initId bmB) (hT : ∀ Y : String, bm.contains (.type Y) = bmB.contains (.type Y)) (hC : hp.get? C = some (excClassObj nm q C N bs bm hdct sn sub ab col dd k0 k1 k2 k3 k5 newId)) (hz : xs.length ≤ sizeLine)
    (hq : R (.ok (.ret (.ref (hp.objs.size + 1)))) ⟨(hp.push (PySem.W.kdv_tup xs)).push (PySem.HandSPX.excO C hp.objs.size), gs, dw, tk, os⟩) :
    codeAny (model prog w) A (.builtin newId ⟨.ref C :: xs, kw⟩) R ⟨hp, gs, dw, tk, os⟩ := by
  have c0 := F.ends
  have c1 : (Value.ref C :: bm).contains (.type B) = true := by rw [List.contains_cons, hT, F.hasB]; exact Bool.or_true _
  have c2 : (Value.ref C :: bm).contains (.type "AttributeError") = false := by rw [List.contains_cons, hT, F.noAttr] <;> rfl
  have c3 : (Value.ref C :: bm).contains (.type "NameError") = false := by rw [List.contains_cons, hT, F.noName] <;> rfl
  refine codeAny_builtinAt F.entry ?_
  unfold Builtin.«BaseException.__new__»
  refine PySem.wpAt_bind ?_
  show PySem.wpAt _ _ _ (stack >>= _) _ _ _
  refine PySem.wpAt_bind (PySem.wpAt_stack fun p below => PySem.wpAt_of_wpAny ?_)
  wp_walk
  refine PySem.wpAt_of_wpAny ?_
  rw [F.owner]
  repeat (first | with_reducible refine wpAny_loadPart_at hC ?_ | with_reducible refine wpAny_madeHere_exc F.canon hC ?_ | (with_reducible refine wpAny_isSubtype_exc hC ?_; first | rw [c1] | rw [c2] | rw [c3]) | wp_step)
  show R _ _
  rw [Heap.size_push]
  exact hq
theorem kw_type (F : ExcBaseFacts B newId initId bmB) (hT : ∀ Y : String, bm.contains (.type Y) = bmB.contains (.type Y)) {Q : Fin → Shared → Prop} (hC : hp.get? C = some (excClassObj nm q C N bs bm hdct sn sub ab col dd k0 k1 k2 k3 k5 newId))
    (hi : PySem.W.Looks (model prog w) hp (typeLookup (.ref C) "__init__") (some (.ref fI))) (hb : ∀ self, PySem.W.Looks (model prog w) hp (bindSpecial (.ref fI) self) (.ref fI, [self])) (hz : xs.length ≤ sizeLine)
    (hq : codeAny (model prog w) A (.call (.ref fI) ⟨.ref (hp.objs.size + 1) :: xs, kw⟩)
      (fun r s' => match r with | .ok (.ret v) => v = .none ∧ Q (.done (.ret (.ref (hp.objs.size + 1)))) s' | .ok _ => False | .error e => E e s')
      ⟨(hp.push (PySem.W.kdv_tup xs)).push (PySem.HandSPX.excO C hp.objs.size), gs, dw, tk, os⟩) :
    wpAny (model prog w) A (Builtin.«type.__call__» ⟨.ref C :: xs, kw⟩) Q E ⟨hp, gs, dw, tk, os⟩ := by
  repeat (first | with_reducible refine wpAny_madeBy_exc hC ?_ | with_reducible refine wpAny_loadPart_at hC ?_ | wp_step)
  refine codeAny_call_builtin_code (Code.quiet_builtin _ F.quiet) (kw_check F hT hC ?_)
  refine kw_new F hT hC hz ?_
  show wpAny _ _ _ _ _ _
  have kp : ∀ b o, hp.get? b = some o → ((hp.push (PySem.W.kdv_tup xs)).push (PySem.HandSPX.excO C hp.objs.size)).get? b = some o := fun b o e => Heap.get?_push_of_some _ (Heap.get?_push_of_some _ e)
  have d1 := kp _ _ hC
  have d2 : ((hp.push (PySem.W.kdv_tup xs)).push (PySem.HandSPX.excO C hp.objs.size)).get? (hp.objs.size + 1) = some (PySem.HandSPX.excO C hp.objs.size) := by heap_get
  have d3 : (Value.ref C :: bm).contains (.ref C) = true := by simp
  have d4 := hi.keeps kp
  have d5 := (hb (.ref (hp.objs.size + 1))).keeps kp
  unfold isInstance
  repeat (first | with_reducible refine wpAny_loadPart_at d2 ?_ | (with_reducible refine wpAny_isSubtype_exc d1 ?_; rw [d3]) | wp_step)
  show wpAny _ _ (typeLookup (.ref C) _) _ _ _
  refine d4.at ?_
  refine wpAny_holding (wpAny_bind (d5.at ?_))
  refine wpAny_bind (wpAny_call (codeAny_mono hq fun r s' z => ?_))
  rcases r with e | (v | _ | _ | _) <;> first | exact z | exact z.elim | skip
  obtain ⟨rfl, z⟩ := z
  first
    | exact wpAny_pure (wpAny_pure z)
    | (wp_walk; exact z)
theorem kw_own (F : ExcBaseFacts B newId initId bmB) (hT : ∀ Y : String, bm.contains (.type Y) = bmB.contains (.type Y)) (hC : hp.get? C = some (excClassObj nm q C N bs bm hdct sn sub ab col dd k0 k1 k2 k3 k5 newId))
    (hi : PySem.W.Looks (model prog w) hp (typeLookup (.ref C) "__init__") (some (.ref fI))) (hb : ∀ self, PySem.W.Looks (model prog w) hp (bindSpecial (.ref fI) self) (.ref fI, [self])) (hz : xs.length ≤ sizeLine)
    (hq : codeAny (model prog w) (A.under (.builtin "type.__call__" ⟨.ref C :: xs, kw⟩)) (.call (.ref fI) ⟨.ref (hp.objs.size + 1) :: xs, kw⟩) (PySem.W.InitBack (hp.objs.size + 1) R)
      ⟨(hp.push (PySem.W.kdv_tup xs)).push (PySem.HandSPX.excO C hp.objs.size), gs, dw, tk, os⟩) :
    codeAny (model prog w) A (.call (.ref C) ⟨xs, kw⟩) R ⟨hp, gs, dw, tk, os⟩ := by
  have f1 := tc_lookup
  have f2 := tc_bind (.ref C)
  have hTy : (⟨hp, gs, dw, tk, os⟩ : Shared).TypeIs (.ref C) "type" := ⟨_, hC, rfl⟩
  refine codeAny_of_tree ?_
  show wpAny _ _ (callAny (.ref C) _) _ _ _
  repeat (any_goals (first | assumption | with_reducible refine wpAny_loadPart_at hC ?_ | wp_step))
  refine ⟨rfl, ?_⟩
  have ck : ∀ {Q' : Unit → Shared → Prop} {E' : Value → Shared → Prop} {A' : Around}, Q' () ⟨hp, gs, dw, tk, os⟩ → wpAny (model prog w) A' (checkBuiltinCall "type.__call__" ⟨.ref C :: xs, kw⟩) Q' E' ⟨hp, gs, dw, tk, os⟩ := by
    intro Q' E' A' z
    have f3 := tc_sub
    simp only [checkBuiltinCall, tc_kind, tc_split]
    repeat (any_goals (first | assumption | with_reducible refine wpAny_loadPart_at hC ?_ | with_reducible refine wpAny_onRaise ?_ | with_reducible refine wpAny_map ?_ | wp_step))
  refine codeAny_call_builtin_at (Code.quiet_builtin _ (by decide +kernel)) entry_typeCall (ck (kw_type F hT hC hi hb hz ?_))
  refine codeAny_mono hq fun r s' z => ?_
  rcases r with e | (v | _ | _ | _) <;> exact z
end
end FL

/-! ## Exc: own exceptions as values: made by place and by keywords, asked for their class, their fields read -/
namespace FL
open PySem PySem.Spec PyProof.Rows L2
/-- what is asked of an own class over ValueError, as a check -/
def exB (K : PySem.W.Frag) (C : Addr) : Bool :=
  (match K.lookup C with
    | some ⟨.type "type", _, .cls cd, sl⟩ => (match cd.mro, sl.toList with
      | .ref c :: bm, [_, _, _, _, some (.builtin n), _] => decide (c = C) && (decide (n = "ValueError.__new__") && (cd.hasDict && (!cd.hasDel && PySem.HandSPX.refsVE bm)))
      | _, _ => false)
    | _ => false) && (He.eqO (PySem.W.findIn K (.ref C) "__setattr__") (some (some (.builtin "object.__setattr__"))) && (decide (PySem.W.subIn K (.ref C) (.type "BaseException") = some true) && (decide (PySem.W.typeIn K (.ref C) = some (.type "type")) && (PySem.W.keepIn K (.ref C) &&
    (He.eqO (PySem.W.findIn K (.ref C) "__getattribute__") (some (some (.builtin "BaseException.__getattribute__"))) && (He.eqO (PySem.W.findIn K (.ref C) "__getattr__") (some none) && (PySem.W.hasDictIn K C && (He.eqO (PySem.W.findIn K (.ref C) "__class__") (some (some (.builtin "object.__class__"))) &&
    (He.eqO (PySem.W.specialIn K (.builtin "object.__class__") "__get__") (some (some (.builtin "getset_descriptor.__get__"))) && (decide (PySem.W.takesIn K (.builtin "object.__class__") = some true) && decide (PySem.W.mroIn K C (.type "object") = some true)))))))))))
theorem ex_cls {K : PySem.W.Frag} {C : Addr} (h : (match K.lookup C with
    | some ⟨.type "type", _, .cls cd, sl⟩ => (match cd.mro, sl.toList with
      | .ref c :: bm, [_, _, _, _, some (.builtin n), _] => decide (c = C) && (decide (n = "ValueError.__new__") && (cd.hasDict && (!cd.hasDel && PySem.HandSPX.refsVE bm)))
      | _, _ => false)
    | _ => false) = true) : ∃ nm q N bs bm sn sub ab col dd k0 k1 k2 k3 k5, K.lookup C = some (excClassObj nm q C N bs bm true sn sub ab col dd k0 k1 k2 k3 k5 "ValueError.__new__") ∧ PySem.HandSPX.refsVE bm = true := by
  split at h
  · rename_i dd cd sl ho
    split at h
    · rename_i c bm k0 k1 k2 k3 n k5 hm hs
      obtain ⟨h1, h⟩ := He.ba h
      obtain ⟨h2, h⟩ := He.ba h
      obtain ⟨h3, h⟩ := He.ba h
      obtain ⟨h4, h5⟩ := He.ba h
      have h1 := of_decide_eq_true h1
      have h2 := of_decide_eq_true h2
      obtain ⟨nm, bs, mro, ns, qn, hd, sn, sub, ab, col, del⟩ := cd
      dsimp only at hm h3 h4
      have h4 : del = false := by cases del with | false => rfl | true => cases h4
      have hsl : sl = #[k0, k1, k2, k3, some (.builtin n), k5] := by
        obtain ⟨l⟩ := sl
        exact congrArg Array.mk hs
      subst hm h1 h2 h3 h4 hsl
      exact ⟨nm, qn, ns, bs, bm, sn, sub, ab, col, dd, k0, k1, k2, k3, k5, ho, h5⟩
    · cases h
  · cases h
structure ExK (K : PySem.W.Frag) (C : Addr) : Prop where
  oex : OexC K C
  isc : ExcC K C
  xf : XfC K C
theorem exB_ok {K : PySem.W.Frag} {C : Addr} (h : exB K C = true) : ExK K C := by
  obtain ⟨h1, h⟩ := He.ba h
  obtain ⟨h2, h⟩ := He.ba h
  obtain ⟨h3, h⟩ := He.ba h
  obtain ⟨h4, h⟩ := He.ba h
  obtain ⟨h5, h⟩ := He.ba h
  obtain ⟨h6, h⟩ := He.ba h
  obtain ⟨h7, h⟩ := He.ba h
  obtain ⟨h8, h⟩ := He.ba h
  obtain ⟨h9, h⟩ := He.ba h
  obtain ⟨h10, h⟩ := He.ba h
  obtain ⟨h11, h12⟩ := He.ba h
  have h2 := He.eqO_ok h2
  have h3 := of_decide_eq_true h3
  have h4 := of_decide_eq_true h4
  have h6 := He.eqO_ok h6
  have h7 := He.eqO_ok h7
  have h9 := He.eqO_ok h9
  have h10 := He.eqO_ok h10
  have h11 := of_decide_eq_true h11
  have h12 := of_decide_eq_true h12
  exact ⟨⟨ex_cls h1, h2, h3, h4, h5⟩, ⟨h6, h7, h3, h8, h9, h10, h11, h12⟩, ⟨h6, h7, h3, h8⟩⟩
/-- C(..) as a value, C's own __init__ keeping sp -/
def tMkX (C : Addr) (sp : Sp) (ta : TA) : TE := fun σ H Q => ta σ H fun vs H1 => vs.length ≤ 1000 ∧ ∀ a, H1 a = none → sp (.ref a :: vs) (upd H1 a (exo a C none)) (fun v H2 => v = .non ∧ Q (.ref a) H2) E0
/-- C(k = ..) as a value: the keywords' values in the order of the parameters -/
def tMkK (C : Addr) (sp : Sp) (n : Nat) (perm : List Nat) (tk : TA) : TE := fun σ H Q => tk σ H fun zs H1 => zs.length = n ∧ n ≤ 1000 ∧ ∀ a, H1 a = none → sp (.ref a :: gPerm n perm [] zs) (upd H1 a (exo a C none)) (fun v H2 => v = .non ∧ Q (.ref a) H2) E0
section
variable {X : Cx} {k j : Nat} {x : Str} {C fI : Addr} {fd : FuncData} {ps : List Str} {sp : Sp} {e : Expr} {es : List Expr} {ta tk : TA} {p pos : Pos}
theorem run_mkx {pins : List (Addr × Obj)} {σ : L2.St} {H1 : Hp} {s1 : Shared} {Q : VK} {us : List Value} {kw : List (Str × Value)} {ws : List Value} {vs : List V} (T : OexC X.K C) (iC : PySem.W.findIn X.K (.ref C) "__init__" = some (some (.ref fI))) (tI : PySem.W.typeIn X.K (.ref fI) = some (.type "function"))
    (F1 : FnOk X.prog X.w X.K X.mg X.base CX0 k fI fd ps sp) (hr : Room (k + 1) X.A) (I1 : Inv X pins σ H1 s1) (r : Vals vs ws) (hus : us.length ≤ sizeLine)
    (bnd : ∀ (s : Shared) (v : Value), X.K.In s.heap → (v :: ws).length = ps.length → BindsTo s fd ⟨v :: us, kw⟩ (ps.zip (v :: ws)))
    (q1 : ∀ a, H1 a = none → sp (.ref a :: vs) (upd H1 a (exo a C none)) (fun v H2 => v = .non ∧ Q (.ref a) H2) E0) :
    wpAny (model X.prog X.w) X.A (call (.ref C) us kw) (EP X pins σ Q) X.xe s1 := by
  obtain ⟨nm, q, N, bs, bm, sn, sub, ab, col, dd, k0, k1, k2, k3, k5, hC, hbm⟩ := T.cls
  obtain ⟨hp, g, dr, tk, os⟩ := s1
  have hsz : hp.objs.size ≤ hp.objs.size + 1 := Nat.le_succ _
  have hn : H1 (hp.objs.size + 1) = none := I1.hok.fresh hsz
  have hq := q1 (hp.objs.size + 1) hn
  have kk : ∀ b o, hp.get? b = some o → ((hp.push (PySem.W.kdv_tup us)).push (PySem.HandSPX.excO C hp.objs.size)).get? b = some o := fun b o e => Heap.get?_push_of_some _ (Heap.get?_push_of_some _ e)
  have he : ((hp.push (PySem.W.kdv_tup us)).push (PySem.HandSPX.excO C hp.objs.size)).get? (hp.objs.size + 1) = some (PySem.HandSPX.excO C hp.objs.size) := by heap_get
  have I2 : Inv X pins σ (upd H1 (hp.objs.size + 1) (exo (hp.objs.size + 1) C none)) ⟨(hp.push (PySem.W.kdv_tup us)).push (PySem.HandSPX.excO C hp.objs.size), g, dr, tk, os⟩ :=
    I1.laid (t' := tk) (o := exo (hp.objs.size + 1) C none) kk hsz (exo_ok he)
  have r2 : Vals (V.ref (hp.objs.size + 1) :: vs) (Value.ref (hp.objs.size + 1) :: ws) := .cons rfl r
  have hl : (Value.ref (hp.objs.size + 1) :: ws).length = ps.length := by
    have e := r2.length
    rw [F1.len _ _ _ _ hq] at e
    exact e.symm
  refine wpAny_call (kw_own F.excBase_ValueError (fun Y => PySem.HandSPX.refsVE_contains Y bm hbm) (I1.kIn _ _ hC) (PySem.W.looks_findIn I1.kIn iC) (fun self => PySem.W.bind_fn I1.kIn self tI) hus
    (codeAny_mono (F1.run _ X.stack _ _ ⟨Value.ref (hp.objs.size + 1) :: us, kw⟩ (Value.ref (hp.objs.size + 1) :: ws) _ _ E0 (hr.make C us kw) (I2.env0.make C us kw) (bnd _ _ I2.kIn hl) r2 hq) fun r s' hq' => ?_))
  cases r with
  | error er => exact False.elim hq'
  | ok fl =>
    cases fl with
    | ret u =>
      obtain ⟨v, H2, I3, rv, ev, q3⟩ := I2.after hq'
      subst ev
      exact ⟨rv, ⟨V.ref (hp.objs.size + 1), H2, I3, rfl, q3⟩⟩
    | next => exact False.elim hq'
    | brk => exact False.elim hq'
    | cont => exact False.elim hq'
/-- the class x, made by its own __init__: by place, and by n keywords ks whose order is perm -/
structure MkE (P : Program) (w : World) (K : PySem.W.Frag) (mg : Str → Option Value) (base : Heap) (k : Nat) (x : Str) (C : Addr) (sp : Sp) (n : Nat) (perm : List Nat) (ks : List Str) : Prop where
  ex : ExK K C
  glo : mg x = some (.ref C)
  ini : ∃ (fI : Addr) (fd : FuncData) (ps : List Str), PySem.W.findIn K (.ref C) "__init__" = some (some (.ref fI)) ∧ PySem.W.typeIn K (.ref fI) = some (.type "function") ∧ FnOk P w K mg base CX0 k fI fd ps sp ∧ Binds K fd ps [] ∧
    ∀ (s : Shared) (v : Value) (ws : List Value), ws.length = n → BindsTo s fd ⟨[v], ks.zip ws⟩ (ps.zip (v :: gPerm n perm [] ws))
theorem kwBind {K : PySem.W.Frag} {x qual : Str} {params : Arguments} {body : List Stmt} {scope : Scope} {f : Addr} {fd : FuncData} {ps ks : List Str} {n : Nat} {perm : List Nat} (F : FunD K x qual params body scope [] [] f fd)
    (h : ∀ (kV doc pm : Value) (an : Option Addr) (cdv ct : Value) (v : Value) (ws : List Value), ws.length = n → bindArgs (PySem.W.fnOf x qual params body scope .none kV doc pm an cdv ct) ⟨[v], ks.zip ws⟩ = pure (ps.zip (v :: gPerm n perm [] ws))) :
    ∀ (s : Shared) (v : Value) (ws : List Value), ws.length = n → BindsTo s fd ⟨[v], ks.zip ws⟩ (ps.zip (v :: gPerm n perm [] ws)) := by
  intro s v ws hl
  obtain ⟨oc, od, dV, kV, doc, pm, an, cdv, ct, osl, rfl, lk, hcd, hD, hK⟩ := F.ex
  rcases hD with ⟨_, rfl⟩ | ⟨e, _⟩
  · exact .of_eq (h kV doc pm an cdv ct v ws hl)
  · exact absurd rfl e
theorem pmx {n : Nat} {perm : List Nat} {ks : List Str} (M : MkE X.prog X.w X.K X.mg X.base k x C sp n perm ks) (hr : Room j X.A) (hk : k + 1 ≤ j) (hg : Gl X x) (ha : PA X (e :: es) ta)
    (hdb : (x == ("__debug__" : Str)) = false := by decide) (he : starEach (e :: es) X.env = (false, eval e X.env) :: starEach es X.env := by rfl) (hpl : (backTo pos (starEach es X.env)).any (·.1) = false := by rfl) :
    PE X (.Call (.Name x p) (e :: es) [] pos) (tMkX C sp ta) := by
  obtain ⟨fI, fd, ps, iC, tI, F1, hb, _⟩ := M.ini
  refine ⟨fun pins s σ H Q I h => ?_⟩
  refine wpAny_Call_Name_kw (ld_glob I hg M.glo ?_ hdb)
  refine PySem.W.callWith_K (h₀ := X.base) I.ok.mod.kin M.ex.oex.kC (thn (ha.run pos pins s σ H _ I h) fun us s1 ⟨vs, H1, I1, r1, hz, q1⟩ => ⟨I1.kIn, ?_⟩) he hpl
  have hus : us.length ≤ sizeLine := by
    rw [← Paired.length r1]
    exact sz (Nat.le_trans hz (by decide))
  refine run_mkx M.ex.oex iC tI F1 (hr.mono hk) I1 r1 hus (fun s' v X' hl => ?_) q1
  have z := hb s' (v :: us) X' (by rw [List.append_nil]; exact hl)
  rw [List.append_nil] at z
  exact z
theorem pmk {n : Nat} {perm : List Nat} {ks : List Str} {kws : List Keyword} (M : MkE X.prog X.w X.K X.mg X.base k x C sp n perm ks) (hr : Room j X.A) (hk : k + 1 ≤ j) (hg : Gl X x) (hkw : PK X kws tk)
    (hall : (backToKw pos (keywordEach kws X.env)).all (·.1.isSome) = true := by rfl) (hks : (backToKw pos (keywordEach kws X.env)).filterMap (·.1) = ks := by rfl) (hdb : (x == ("__debug__" : Str)) = false := by decide)
    (hpl : ((backTo pos (starEach [] X.env)).any (·.1) || (backToKw pos (keywordEach kws X.env)).any (·.1.isNone)) = false := by rfl) :
    PE X (.Call (.Name x p) [] kws pos) (tMkK C sp n perm tk) := by
  obtain ⟨fI, fd, ps, iC, tI, F1, _, hb⟩ := M.ini
  refine ⟨fun pins s σ H Q I h => ?_⟩
  refine wpAny_Call_Name_kw (ld_glob I hg M.glo ?_ hdb)
  refine PySem.W.callWith_KW0 (h₀ := X.base) I.ok.mod.kin M.ex.oex.kC hall ?_ hpl
  refine thn (hkw.run pos pins s σ H _ I h) fun ws s2 ⟨zs, H2, I2, rz, hz, hn, q2⟩ => ⟨I2.kIn, ?_⟩
  rw [hks]
  refine run_mkx (us := []) (kw := ks.zip ws) M.ex.oex iC tI F1 (hr.mono hk) I2 (gPerm_rel .nil rz) (Nat.zero_le _) (fun s' v X' hl => ?_) q2
  exact hb s' v ws (rz.length.symm.trans hz)
end
/-! ### isinstance and fields of such a value -/
section
variable {prog : Program} {w : World} {A : Around} {E : Value → Shared → Prop} {s : Shared} {K : PySem.W.Frag} {x D : Addr} {ox : Obj} {od : Option Obj}
theorem cls_look (T : ExcC K D) {Q : Option Value → Shared → Prop} (KX : K.In s.heap) (I : PySem.W.InstAt s.heap x ox D od) (h : Q (some (.ref D)) { s with toks := s.toks + 1 }) : wpAny (model prog w) A (getAttr? (.ref x) "__class__") Q E s := by
  have hf : PySem.W.findObj K D od "__class__" = some (.bind (.builtin "getset_descriptor.__get__") (.builtin "object.__class__")) := by
    obtain ⟨cd, hc, _⟩ := PySem.W.any_some T.hd
    unfold PySem.W.findObj
    rw [hc, Option.bind_some, T.ha, Option.bind_some]
    simp [T.hn, T.ht]
  obtain ⟨hp, gs, dw, tk, os⟩ := s
  have l0 := I.type (M := model prog w)
  have l1 := PySem.W.looks_findIn (M := model prog w) KX T.hg
  have l2 := PySem.W.looks_findIn (M := model prog w) KX T.hk
  have l3 := PySem.W.looks_find (M := model prog w) KX I hf
  have l4 : PySem.W.Looks (model prog w) hp (isInstance (.ref x) (.type "BaseException")) true := l0.andThen (PySem.W.looks_subIn KX T.hs)
  have b2 : (Value.builtin "BaseException.__getattribute__" == Value.builtin "object.__getattribute__") = false := by decide +kernel
  have b1 : (onTheHeap (Value.ref D) && Value.builtin "BaseException.__getattribute__" == Value.builtin "object.__getattribute__") = false := by rw [b2] <;> rfl
  have b0 : (false && onTheHeap (Value.builtin "BaseException.__getattribute__")) = false := rfl
  unfold getAttr? getAttrBy? getAttrBy
  refine wpAny_bind (wpAny_mkText (wpAny_bind (wpAny_attempt (wpAny_holding (wpAny_bind (l0.at (wpAny_bind (l1.at ?_))))))))
  refine PySem.W.KFB.if_not b1 ?_
  unfold getAttrByItsOwn hookBefore
  refine wpAny_bind ?_
  refine PySem.W.KFB.if_so (show onTheHeap (Value.ref D) = true from rfl) ?_
  refine l2.at ?_
  refine wpAny_bind (wpAny_attempt (wpAny_holding ?_))
  unfold callGetattribute
  refine PySem.W.KFB.if_not b0 ?_
  unfold boundAndCalled
  rw [PySem.F.excAttr_ValueError.ga.bind (.ref x)]
  refine wpAny_bind (wpAny_pure ?_)
  show wpAny _ _ (call (.builtin "BaseException.__getattribute__") [.ref x, .str "__class__" tk]) _ _ _
  refine wpAny_call (codeAny_call_builtin PySem.F.excAttr_ValueError.ga.plain PySem.F.entry_bexc_ga ?_)
  refine @PySem.W.check_slot (model prog w) _ _ ⟨hp, gs, dw, tk + 1, os⟩ "BaseException.__getattribute__" "BaseException" "__getattribute__" (.ref x) [.str "__class__" tk] [] _ (by decide +kernel) (by decide +kernel) l4 (PySem.F.args_bexc_ga (.ref x) (.str "__class__" tk)) ?_
  unfold Builtin.«object.__getattribute__»
  refine wpAny_bind (wpAny_of_eq (a := ((Value.ref x : Value), [Value.str "__class__" tk])) (by first | rfl | (simp only [slotArgs]; rfl)) ?_)
  refine wpAny_bind (wpAny_pure (wpAny_bind (l0.at (wpAny_bind (l3.at ?_)))))
  show wpAny _ _ (holding [Value.builtin "object.__class__"] (call (.builtin "getset_descriptor.__get__") [.builtin "object.__class__", .ref x, .ref D]) >>= ret) _ _ _
  refine wpAny_bind (wpAny_holding (wpAny_call (PySem.W.class_get (s := ⟨hp, gs, dw, tk + 1, os⟩) (ox := ox) (od := od) KX I T.hm ?_)))
  refine wpAny_pure ?_
  show wpAny _ _ (handedOut (.ref D)) _ _ _
  rw [PySem.W.handedOut_of (v := .ref D) rfl]
  first
    | exact wpAny_pure (wpAny_pure h)
    | exact wpAny_pure h
    | exact wpAny_pure (wpAny_bind (wpAny_pure (wpAny_pure h)))
theorem is_typ (T : ExcC K D) {M : Model} {h : Heap} (KX : K.In h) : PySem.W.Looks M h (isType (.ref D)) true := by
  obtain ⟨cd, hc, _⟩ := PySem.W.any_some T.hd
  unfold PySem.W.clsIn at hc
  split at hc
  · rename_i ho
    intro A' Q' E' s' k q
    unfold isType loadHead
    exact wpAny_bind (wpAny_loadPart (k _ _ (KX _ _ ho)) (wpAny_pure q))
  · cases hc
theorem kitX (T : ExcC K D) : PySem.W.KitX K (.ref x) (.ref D) (fun h => PySem.W.InstAt h x ox D od) where
  ty := fun _ _ _ I => I.type
  it := fun _ _ KX _ => is_typ T KX
  ne := (PySem.W.handS_kitx_exc (x := x) (ox := ox) T.hg T.hk T.hs T.hd T.ha T.hn T.ht T.hm).ne
  ca := fun KX I k => cls_look T KX I k
end
/-- isinstance(x, c) of an own exception -/
def rIsX (K : PySem.W.Frag) : List V → Hp → VK → Prop := fun xs H Q => ∃ (a C : Addr) (d : Option Addr) (fs : List (Str × V)) (c : V) (u : Value) (b : Bool), xs = [.ref a, c] ∧ H a = some (exo a C d) ∧ (∀ y, d = some y → H y = some (exd y fs)) ∧ ExcC K C ∧ ClsV c u ∧ PySem.W.kitOne K (.ref C) u = some b ∧ Q (.bl b) H
theorem call_isX {X : Cx} : CallR X (.builtin "isinstance") (rIsX X.K) := by
  intro pins s σ H xs us Q I r h
  obtain ⟨a, C, d, fs, c, u, b, rfl, ha, hd, T, k, e, q⟩ := h
  obtain ⟨u1, u2, rfl, r1, r2⟩ := vals2 r
  have e2 := k.eq r2
  subst e2
  obtain rfl : u1 = Value.ref a := r1
  obtain ⟨t1, ho⟩ := exo_at I.hok ha
  cases d with
  | none =>
    have J : PySem.W.InstAt s.heap a _ C none := ⟨ho, rfl, rfl, trivial⟩
    exact PySem.W.kia_one (kitX T) I.kIn J e (fun z => nomatch z) fun tk => ⟨.bl b, H, I.tok tk, rfl, q⟩
  | some dx =>
    obtain ⟨mA, hns, _⟩ := exd_at I.hok (hd dx rfl)
    obtain ⟨oD, _, _, hoD, _⟩ := hns
    have J : PySem.W.InstAt s.heap a _ C (some oD) := ⟨ho, rfl, rfl, hoD⟩
    exact PySem.W.kia_one (kitX T) I.kIn J e (fun z => nomatch z) fun tk => ⟨.bl b, H, I.tok tk, rfl, q⟩
/-- e.f of an own exception -/
def tFld (K : PySem.W.Frag) (f : Str) (te : TE) : TE := fun σ H Q => te σ H fun x H1 => ∃ (a C d : Addr) (fs : List (Str × V)) (v : V), x = .ref a ∧ H1 a = some (exo a C (some d)) ∧ H1 d = some (exd d fs) ∧ XfC K C ∧ PySem.W.findIn K (.ref C) f = some none ∧ fs.lookup f = some v ∧ Q v H1
theorem pe_fld {X : Cx} {e : Expr} {te : TE} {pos : Pos} {n : Str} (he : PE X e te) (hb : attributeBase e n X.env (eval e X.env) = eval e X.env := by rfl) : PE X (.Attribute e n pos) (tFld X.K n te) := by
  refine ⟨fun pins s σ H Q I h => ?_⟩
  refine attr_of hb (thn (he.run pins s σ H _ I h) fun u s1 hh => ?_)
  obtain ⟨x, H1, I1, rx, a, C, d, fs, v, ex, ea, ed, T, hno, l, q⟩ := hh
  subst ex
  obtain rfl : u = Value.ref a := rx
  obtain ⟨t1, ho⟩ := exo_at I1.hok ea
  obtain ⟨mA, hns, hr⟩ := exd_at I1.hok ed
  obtain ⟨od, hod, hl⟩ := lookIn_ns hns
  obtain ⟨u2, hu, ru⟩ := RelO.some_of (v := v) (o := mA n) (by rw [← l]; exact hr n)
  have J : PySem.W.InstAt s1.heap a _ C (some od) := ⟨ho, rfl, rfl, hod⟩
  exact HandSPX.exc_get I1.kIn J T.ga T.gg T.exC (PySem.W.findObj_own T.hdC hno rfl (by rw [hl, hu])) (handed_of ru) ⟨v, H1, I1.tok _, ru, q⟩
theorem u2 {k : Nat} {A : Around} (r : Room k A) : A.units + 1 < cLine := by have := r.un; omega
def rJoin (K : PySem.W.Frag) : V → List V → Hp → VK → Prop := fun x xs H Q => ∃ a p, ∃ ys : List Str, x = .str a ∧ xs = [.ref p] ∧ (SqL K H p (ys.map V.str) ∨ SqT K H p (ys.map V.str)) ∧ (ys.map (·.length)).sum + ys.length * a.length ≤ 16777216 ∧ Q (.str (Txt.join a ys)) H
/-- an own __init__ that lays its one or two arguments down as fields -/
def spIni (K : PySem.W.Frag) (fs : List Str) : Sp := fun vs H Q _ => ∃ (a C : Addr) (ws : List V), vs = .ref a :: ws ∧ ws.length = fs.length ∧ H a = some (exo a C none) ∧ OexC K C ∧ (∀ f ∈ fs, PySem.W.findIn K (.ref C) f = some none) ∧
  ∀ d H', H d = none → d ≠ a → Kp [a] H H' → H' a = some (exo a C (some d)) → H' d = some (exd d (fs.zip ws).reverse) → Q .non H'
theorem pure_ini1 {K : PySem.W.Frag} {f : Str} (vs : List V) (H : Hp) (Q : VK) (E : XK) (h : spIni K [f] vs H Q E) : (tOst K f (tVar 0) (tVar 1)) { nx := fun _ H' => Q .non H', rt := Q } (start ["self", f] vs) H := by
  obtain ⟨a, C, ws, rfl, hl, ha, T, hf, q⟩ := h
  match ws, hl with
  | [y], _ =>
    refine ⟨_, rfl, _, rfl, a, C, rfl, T, hf f (List.mem_singleton.mpr rfl), .inl ⟨ha, fun d hd ne => ?_⟩⟩
    refine q d _ hd ne ((Kp.new hd).trans (Kp.mut (List.mem_singleton.mpr rfl))) upd_same ?_
    rw [upd_ne ne, upd_same]
    rfl
theorem pure_ini2 {K : PySem.W.Frag} {f g : Str} (vs : List V) (H : Hp) (Q : VK) (E : XK) (h : spIni K [f, g] vs H Q E) : (tSeq (tOst K f (tVar 0) (tVar 1)) (tOst K g (tVar 0) (tVar 2))) { nx := fun _ H' => Q .non H', rt := Q } (start ["self", f, g] vs) H := by
  obtain ⟨a, C, ws, rfl, hl, ha, T, hf, q⟩ := h
  match ws, hl with
  | [y, z], _ =>
    refine ⟨_, rfl, _, rfl, a, C, rfl, T, hf f (by simp), .inl ⟨ha, fun d hd ne => ?_⟩⟩
    refine ⟨_, rfl, _, rfl, a, C, rfl, T, hf g (by simp), .inr ⟨d, [(f, y)], upd_same, by rw [upd_ne ne, upd_same], by show 1 ≤ 900; decide, ?_⟩⟩
    have k0 : Kp [a] H (upd (upd H d (exd d [(f, y)])) a (exo a C (some d))) := (Kp.new hd).trans (Kp.mut (List.mem_singleton.mpr rfl))
    have k1 : Kp [d, a] H (upd (upd (upd H d (exd d [(f, y)])) a (exo a C (some d))) d (exd d [(g, z), (f, y)])) := (k0.mono fun b hb => List.mem_cons_of_mem _ hb).trans (Kp.mut List.mem_cons_self)
    exact q d _ hd ne (k1.drop hd) (by rw [upd_ne (Ne.symm ne), upd_same]) upd_same
end FL

/-! ## DicT: dicts whose keys are tuples: displayed, their items listed -/
namespace FL
open PySem PySem.Spec PyProof.Rows L2
section
variable {prog : Program} {w : World} {A : Around} {E : Value → Shared → Prop} {s : Shared} {r d : Addr} {es : Array DictEntry} {ep : Nat}
theorem list_items {Q : Value → Shared → Prop} (hh : A.handled = none) (hv : s.heap.IsItemsView r d) (hm : DT.Raw s.heap d es ep) (hn : es.size ≤ sizeLine)
    (hQ : ∀ h' tk acc c as, (∀ b o, s.heap.get? b = some o → h'.get? b = some o) → h'.get? s.heap.objs.size = some { cls := .type "list", dict := none, data := .seq acc c, slots := #[] } → as.length = es.size → DT.Made es s.heap.objs.size h' as →
      acc.toList = as.map Value.ref → Q (.ref s.heap.objs.size) { s with heap := h', toks := tk }) :
    wpAny (model prog w) A (call (.type "list") [.ref r]) Q E s := by
  refine callType_codes (Q₁ := fun obj s₁ => obj = .ref s.heap.objs.size ∧ s₁ = { s with heap := s.heap.push { cls := .type "list", data := .seq #[] } }) PySem.F.called_list (PySem.F.typeCall_list_1 _) PySem.F.entry_list_init
    (code_list_new _ ⟨rfl, rfl⟩) fun obj s₁ h₁ => ?_
  obtain ⟨rfl, rfl⟩ := h₁
  have hS : (s.heap.push { cls := .type "list", data := .seq #[] }).get? s.heap.objs.size = some { cls := .type "list", data := .seq #[] } := Heap.get?_push_size _ rfl
  have hr : r < s.heap.objs.size := let ⟨_, ho, _⟩ := hv; Heap.lt_size ho
  have hd : d < s.heap.objs.size := hm.lt
  refine ⟨⟨_, hS, rfl⟩, PySem.F.args_list_init_2 _ _, ?_⟩
  show wpAny _ A.in1.in1 (do let old ← Builtin.List.listItems (.ref s.heap.objs.size); Builtin.List.listUpdate (.ref s.heap.objs.size) (fun _ => #[]); letGo old.toList.reverse; Builtin.List.listExtendWith (.ref s.heap.objs.size) (.ref r) .none) _ _ _
  refine wpAny_bind ?_
  unfold Builtin.List.listItems
  refine wpAny_bind (wpAny_seqItems hS rfl (wpAny_pure ?_))
  show wpAny _ _ (updateSeq s.heap.objs.size (fun _ => #[]) >>= fun _ => letGo (#[] : Array Value).toList.reverse >>= fun _ => Builtin.List.listExtendWith (.ref s.heap.objs.size) (.ref r) .none) _ _ _
  refine wpAny_bind (wpAny_updateSeq hS rfl ?_)
  have hS2 := Heap.get?_update_self (Obj.mapSeq (fun _ => (#[] : Array Value))) hS rfl
  have oth : ∀ b o, b ≠ s.heap.objs.size → s.heap.get? b = some o → ((s.heap.push { cls := .type "list", data := .seq #[] }).update s.heap.objs.size (Obj.mapSeq (fun _ => (#[] : Array Value)))).get? b = some o :=
    fun b o hb e => (Heap.get?_update_other _ _ (Ne.symm hb)).trans (Heap.get?_push_of_some _ e)
  refine wpAny_bind (wpAny_letGo ?_)
  refine DT.extI (es := es) (ep := ep) (A := A.in1) hh (let ⟨o, ho, x⟩ := hv; ⟨o, oth r o (Nat.ne_of_lt hr) ho, x⟩) (hm.at' fun o e => oth d o (Nat.ne_of_lt hd) e) s.heap.objs.size (Nat.ne_of_gt hr) (Nat.ne_of_lt hd) .none _ hS2 (fun h' tk acc c as hk hS' hl hG hacc => ?_) hn
  exact ⟨rfl, hQ h' tk acc c as (fun b o e => hk b o (Nat.ne_of_lt (Heap.lt_size e)) (oth b o (Nat.ne_of_lt (Heap.lt_size e)) e)) hS' hl (hG.low (Nat.le_of_lt (Heap.lt_size hS2))) hacc⟩
end
/-- the pairs tracked at their addresses -/
def putP : Hp → List Addr → List (V × V) → Hp
  | H, a :: as, p :: ps => putP (upd H a (.tup [p.1, p.2])) as ps
  | H, _, _ => H
theorem putP_off {b : Addr} : ∀ (as : List Addr) (ps : List (V × V)) (H : Hp), b ∉ as → putP H as ps b = H b
  | [], _, _, _ => rfl
  | _ :: _, [], _, _ => rfl
  | a :: as, p :: ps, H, h => by
    show putP (upd H a (.tup [p.1, p.2])) as ps b = H b
    rw [putP_off as ps _ (fun z => h (List.mem_cons_of_mem _ z)), upd_ne (fun z => h (by rw [z]; exact List.mem_cons_self))]
theorem putP_at : ∀ (as : List Addr) (ps : List (V × V)) (H : Hp), as.length = ps.length → as.Nodup → Paired (fun (t : Addr) (p : V × V) => putP H as ps t = some (.tup [p.1, p.2])) as ps
  | [], [], _, _, _ => .nil
  | [], _ :: _, _, h, _ => by cases h
  | _ :: _, [], _, h, _ => by cases h
  | a :: as, p :: ps, H, h, hn => by
    have hn' := List.nodup_cons.mp hn
    refine .cons ?_ (putP_at as ps (upd H a (.tup [p.1, p.2])) (Nat.succ.inj h) hn'.2)
    show putP (upd H a (.tup [p.1, p.2])) as ps a = some (.tup [p.1, p.2])
    rw [putP_off as ps _ hn'.1, upd_same]
/-- list(d.items()), d a dict with tuple keys: the keys are those that the dict holds -/
def tItT (te : TE) : TE := fun σ H Q => te σ H fun x H1 => ∃ (d : Addr) (kvs : List (List L2.Key × V)), x = .ref d ∧ H1 d = some (.dT kvs) ∧
  ∀ ks : List Addr, Paired (fun (kv : List L2.Key × V) (k : Addr) => H1 k = some (.tup (kv.1.map kV))) kvs ks →
  ∀ (H' : Hp) (p : Addr) (ts : List Addr), Kp [] H1 H' → H' p = some (.lst (ts.map V.ref)) → Paired (fun (t : Addr) (q : V × V) => H' t = some (.tup [q.1, q.2])) ts ((kvs.zip ks).map fun z => (V.ref z.2, z.1.2)) → Q (.ref p) H'
section
variable {X : Cx} {e : Expr} {te : TE} {p apos cpos pos : Pos}
theorem pairs_laid {pins : List (Addr × Obj)} {σ : L2.St} {H : Hp} {s : Shared} {h' : Heap} {tk : Nat} {ps : List (V × V)} {acc : Array Value} {c : Nat} {as : List Addr} (I : Inv X pins σ H s) (hz : ps.length ≤ sizeLine)
    (hk : ∀ b o, s.heap.get? b = some o → h'.get? b = some o) (hS : h'.get? s.heap.objs.size = some { cls := .type "list", dict := none, data := .seq acc c, slots := #[] }) (rise : as.Pairwise (· < ·)) (above : ∀ a ∈ as, s.heap.objs.size < a)
    (prs : Paired (fun (a : Addr) (q : V × V) => ∃ k x, h'.get? a = some { cls := .type "tuple", data := .seq #[k, x] } ∧ RelV q.1 k ∧ RelV q.2 x) as ps) (hacc : acc.toList = as.map Value.ref) :
    ∃ H' : Hp, Kp [] H H' ∧ H' s.heap.objs.size = some (.lst (as.map V.ref)) ∧ Paired (fun (t : Addr) (q : V × V) => H' t = some (.tup [q.1, q.2])) as ps ∧ Inv X pins σ H' { s with heap := h', toks := tk } := by
  have lk : as.length = ps.length := Paired.length prs
  have hSn : s.heap.objs.size ∉ as := fun z => Nat.lt_irrefl _ (above _ z)
  have nd : as.Nodup := List.Pairwise.imp (fun {a b} (h : a < b) => Nat.ne_of_lt h) rise
  have new : ∀ t ∈ as, H t = none := fun t ht => I.hok.fresh (Nat.le_of_lt (above t ht))
  have newS : H s.heap.objs.size = none := I.hok.fresh (Nat.le_refl _)
  have atP := putP_at as ps (upd H s.heap.objs.size (.lst (as.map V.ref))) lk nd
  have off : ∀ b, b ∉ as → b ≠ s.heap.objs.size → putP (upd H s.heap.objs.size (.lst (as.map V.ref))) as ps b = H b := fun b h1 h2 => by rw [putP_off as ps _ h1, upd_ne h2]
  have low : ∀ b o, s.heap.get? b = some o → b ∉ as ∧ b ≠ s.heap.objs.size := fun b o e => ⟨fun z => absurd (Heap.lt_size e) (Nat.not_lt.mpr (Nat.le_of_lt (above b z))), Nat.ne_of_lt (Heap.lt_size e)⟩
  have kp : ∀ b u, H b = some u → (putP (upd H s.heap.objs.size (.lst (as.map V.ref))) as ps) b = some u := fun b u e => by
    rw [off b (fun z => by rw [new b z] at e; cases e) (fun z => by rw [z, newS] at e; cases e)]
    exact e
  have eS : putP (upd H s.heap.objs.size (.lst (as.map V.ref))) as ps s.heap.objs.size = some (.lst (as.map V.ref)) := by rw [putP_off as ps _ hSn, upd_same]
  refine ⟨putP (upd H s.heap.objs.size (.lst (as.map V.ref))) as ps, fun b u _ e => kp b u e, eS, atP, ?_⟩
  refine I.call' (ch := []) rfl ⟨fun b o q _ _ _ => hk b o q, fun b o q _ _ _ => ⟨o.slots, hk b o q⟩, fun b o q n _ => ?_, fun b o q _ => ⟨o, hk b o q⟩, fun b xs q => kp b _ q, fun b o u q => kp b _ q, fun b ps q => ⟨#[], by rw [kp b _ q]; simp⟩⟩ (fun b u q => ?_) I.bare fun b z => by simp at z
  · obtain ⟨z1, z2⟩ := low b o q
    rw [off b z1 z2]
    exact n
  · by_cases hb : b ∈ as
    · obtain ⟨j, pk, e1, e2, e3⟩ := LiI.paired_ix atP hb
      rw [e3] at q
      cases q
      obtain ⟨qv, g1, k, x, g2, g3, g4⟩ := LiI.paired_get prs e1
      rw [e2] at g1
      cases g1
      exact ⟨by show 2 ≤ sizeLine; decide, [k, x], .cons g3 (.cons g4 .nil), ⟨_, g2, rfl, _, rfl⟩⟩
    · by_cases hb2 : b = s.heap.objs.size
      · rw [hb2] at q ⊢
        rw [eS] at q
        cases q
        refine ⟨by rw [List.length_map]; omega, acc.toList, c, by rw [hacc]; exact LiI.vals_refs as, ?_⟩
        rw [Array.toArray_toList]
        exact hS
      · rw [off b hb hb2] at q
        exact (I.hok b u q).stay (fun d v _ y => hk d v y) (fun d y => kp d _ y) fun d xs y => kp d _ y
theorem keys_of {P : Program} {w : World} {H : Hp} : ∀ {kvs : List (List L2.Key × V)} {xs : List (List L2.Key × Addr × Value)}, Paired (fun (p : List L2.Key × V) (q : List L2.Key × Addr × Value) => p.1 = q.1 ∧ H q.2.1 = some (.tup (p.1.map kV)) ∧ RelV p.2 q.2.2) kvs xs →
    Paired (fun (kv : List L2.Key × V) (k : Addr) => H k = some (.tup (kv.1.map kV))) kvs (xs.map (·.2.1))
  | _, _, .nil => .nil
  | _, _, .cons h t => .cons h.2.1 (keys_of (P := P) (w := w) t)
theorem paired_at {α β : Type} {F : α → β → Prop} : ∀ {xs : List α} {ys : List β}, xs.length = ys.length → (∀ (j : Nat) (x : α) (y : β), xs[j]? = some x → ys[j]? = some y → F x y) → Paired F xs ys
  | [], [], _, _ => .nil
  | [], _ :: _, h, _ => by cases h
  | _ :: _, [], h, _ => by cases h
  | x :: xs, y :: ys, h, g => .cons (g 0 x y rfl rfl) (paired_at (Nat.succ.inj h) fun j a b ha hb => g (j + 1) a b ha hb)
theorem pe_itT (hc : X.calm = true) (he : PE X e te) (hg : Gl X "list") (hm : X.mg "list" = none) (hv : bootBuiltins "list" = some (.type "list")) (hbase : attributeBase e "items" X.env (eval e X.env) = eval e X.env := by rfl) (hline : (apos.endLine == cpos.line) = true := by rfl)
    (hs : starEach [.Call (.Attribute e "items" apos) [] [] cpos] X.env = (false, eval (.Call (.Attribute e "items" apos) [] [] cpos) X.env) :: starEach [] X.env := by rfl) :
    PE X (.Call (.Name "list" p) [.Call (.Attribute e "items" apos) [] [] cpos] [] pos) (tItT te) := by
  refine ⟨fun pins s σ H Q I hq => ?_⟩
  refine wpAny_Call_Name_kw (ld_blt I hg hm hv ?_)
  refine PyProof.Rows.callWith_type1 ?_ hs rfl
  rw [hs]
  show wpAny _ _ (spliced ((false, eval (.Call (.Attribute e "items" apos) [] [] cpos) X.env) :: backTo pos (starEach [] X.env))) _ _ s
  refine Calls.spliced_cons ?_
  refine wpAny_Call_method (T := "dict") (id := "dict.items") hbase rfl hline F.plainAttrs_dict F.slot_dict_items F.type_dict_items (thn (he.run pins s σ H _ I hq) fun u s1 ⟨x, H1, I1, rx, d, kvs, ex, hd, q⟩ => ?_)
  subst ex
  obtain rfl : u = Value.ref d := rx
  obtain ⟨z, hsm, xs, rel, o, es, ep, ho, hx, hdat, hes, his, hnd⟩ := dt_of I1.hok hd
  have hraw : DT.Raw s1.heap d es ep := ⟨o, ho, hx, hdat⟩
  have l1 : kvs.length = xs.length := Paired.length rel
  have l2 : es.size = xs.length := size_of_entries hes
  have I2 : Inv X pins σ H1 { s1 with heap := s1.heap.push { cls := .type "dict_items", data := .fields #[.ref d] } } := I1.kept (t' := s1.toks) fun b ob q => Heap.get?_push_of_some _ q
  refine ⟨hraw.typeIs, fun a ea => by
    cases ea
    exact ⟨_, ho, hx.2.1⟩, ?_⟩
  show wpAny _ _ (callWith cpos (.builtin "dict.items") [.ref d] [] []) _ X.xe s1
  refine method_meetsIn F.slot_dict_items F.entry_dict_items rfl (PySem.evalArgs_none ⟨rfl, hraw.typeIs, F.args_dict_items_1 _, _, DT.meetsItems hsm, hraw, ?_⟩)
  refine Calls.spliced_nil ?_
  refine list_items (es := es) (ep := ep) (I1.ok.hd hc) ⟨_, Heap.get?_push_size _ rfl, rfl, rfl⟩ (hraw.push _) (by omega) fun h' tk acc c as hk hS hl hG hacc => ?_
  have lz : ((kvs.zip (xs.map (·.2.1))).map fun z => (V.ref z.2, z.1.2)).length = xs.length := by
    rw [List.length_map, List.length_zip, List.length_map, l1, Nat.min_self]
  have prs : Paired (fun (a : Addr) (q : V × V) => ∃ k x, h'.get? a = some { cls := .type "tuple", data := .seq #[k, x] } ∧ RelV q.1 k ∧ RelV q.2 x) as ((kvs.zip (xs.map (·.2.1))).map fun z => (V.ref z.2, z.1.2)) := by
    refine paired_at (by rw [lz]; omega) fun j a b ha hb => ?_
    obtain ⟨en, he', hg'⟩ := hG.pairs j a ha
    rw [entry_at hes j] at he'
    cases hxj : xs[j]? with
    | none =>
      rw [hxj] at he'
      cases he'
    | some x =>
      rw [hxj] at he'
      have een : entryOfKey (tupleKind (mixKind X.prog X.w)) x = en := Option.some.inj he'
      obtain ⟨e0, he0, r1, r2, r3⟩ := L2.DX.pget rel hxj
      have ez : (kvs.zip (xs.map (·.2.1)))[j]? = some (e0, x.2.1) := List.getElem?_zip_eq_some.mpr ⟨he0, by rw [List.getElem?_map, hxj] <;> rfl⟩
      rw [List.getElem?_map, ez] at hb
      cases hb
      rw [← een] at hg'
      exact ⟨_, _, hg', rfl, r3⟩
  obtain ⟨H', k1, k2, k3, J⟩ := pairs_laid (X := X) (tk := tk) I2 (by rw [lz]; omega) hk hS hG.rise hG.above prs hacc
  exact ⟨.ref _, H', J, rfl, q _ (keys_of (P := X.prog) (w := X.w) rel) H' _ as k1 k2 k3⟩
/-- {k: v}, k a tuple of ints and texts -/
def tDis1 (tk tv : TE) : TE := fun σ H Q => ∀ p, H p = none → tk σ (upd H p (.dT [])) fun x H1 => tv σ H1 fun y H2 => H2 p = some (.dT []) ∧ ∃ (b : Addr) (k : List L2.Key), x = .ref b ∧ H2 b = some (.tup (k.map kV)) ∧ Q (.ref p) (upd H2 p (.dT [(k, y)]))
theorem pe_dis1 {k v : Expr} {tk tv : TE} (hu : X.A.units + 1 < cLine) (hk : PE X k tk) (hv : PE X v tv) : PE X (.Dict [some k] [v] pos) (tDis1 tk tv) := by
  refine ⟨fun pins s σ H Q I q => ?_⟩
  have hn := I.hok.fresh (Nat.le_refl s.heap.objs.size)
  have I1 := I.laid (a := s.heap.objs.size) (o := .dT []) (h' := s.heap.push { cls := .type "dict", data := .dict #[] }) (t' := s.toks) (fun _ _ q => Heap.get?_push_of_some _ q) (Nat.le_refl _) (dt_empty s.heap I.big)
  rw [arm_eval_Dict, zip_pairTrees [some k] [v] X.env pos rfl rfl, dictDisplay_pairs (pairTrees [some k] [v] X.env pos) (by simp [pairTrees]) (by simp [pairTrees])]
  refine wpAny_bind (wpAny_standAt (wpAny_bind (wpAny_subDictH (knd := tupleKind (mixKind X.prog X.w)) (Q := fun d s' => wpAny (model X.prog X.w) X.A (pure (Value.ref d)) _ X.xe s') ?_ (by simp [pairTrees]) ?_)))
  · exact Nat.lt_of_succ_lt hu
  · refine pairTrees_cons_walk (thn (hk.run pins _ σ _ _ I1 (q _ hn)) fun u s1 ⟨x, H1, I2, rx, q1⟩ => thn (hv.run pins s1 σ H1 _ I2 q1) fun u2 s2 ⟨y, H2, I3, ry, e, b, ks, ex, eb, q2⟩ => pairTrees_nil_walk ?_)
    subst ex
    obtain rfl : u = Value.ref b := rx
    obtain ⟨z, hd, xs, rel, dd⟩ := dt_of I3.hok e
    cases rel
    refine ⟨[(ks, b, u2)], ⟨rfl, rfl, key_of I3.hok eb, trivial⟩, dd, fun h' tk' hD hs => wpAny_pure ⟨.ref s.heap.objs.size, _, ?_, rfl, q2⟩⟩
    obtain ⟨o, es, ep, h1, h2, h3, h4, _, h5⟩ := hD
    refine d_write I3 (by rw [e]; exact True.intro) hs ⟨o, h1⟩ ⟨by show 1 ≤ sizeLine; decide, hd, [(ks, b, u2)], .cons ⟨rfl, ?_, ry⟩ .nil, o, es, ep, h1, h2, h3, h4, h5⟩
    rw [upd_ne (ne_of eb e (fun z => nomatch z))]
    exact eb
end
end FL

/-! ## A0: abstract values, the store, their relation to the heap -/
namespace FL
open PySem L2

/-- values: data and finished instances by value; what may still change by its number in the store -/
inductive A where
  | non | bl (b : Bool) | int (i : Int) | str (x : Str) | ty (n : String)
  | tup (xs : List A) | fl (xs : List A) | fd (kvs : List (A × A)) | obj (C : Str) (fs : List (Str × A)) | xd (fs : List (Str × A))
  | ref (k : Nat) | glo (x : Str) | scr (xs : List A)
instance : Inhabited A := ⟨.non⟩
/-- what stands in the store; llst, ldic: walked just now, read alone; fn: a lambda's function, its code i, its group g of cells, what it captured; sfn: one whose group's cells are a running frame's own -/
inductive Ob where
  | lst (xs : List A) | dic (kvs : List (A × A)) | ins (C : Str) (fs : List (Str × A)) | llst (xs : List A) | ldic (kvs : List (A × A)) | fn (i g : Nat) (caps : List A) | sfn (i g : Nat) (caps : List A) | sin (C : Str) (fs : List (Str × A)) | dead
abbrev Sto := List Ob
def Ob.live : Ob → Bool
  | .dead => false
  | _ => true
def Ob.lk : Ob → Bool
  | .llst _ => true
  | .ldic _ => true
  | .fn _ _ _ => true
  | .sfn _ _ _ => true
  | .sin _ _ => true
  | _ => false
/-- what never changes: a lambda's function, an instance with slots -/
def Ob.fk : Ob → Bool
  | .fn _ _ _ => true
  | .sfn _ _ _ => true
  | .sin _ _ => true
  | _ => false
theorem fk_lk {o : Ob} (h : o.fk = true) : o.lk = true := by cases o <;> first | rfl | cases h
theorem fk_live {o : Ob} (h : o.fk = true) : o.live = true := by cases o <;> first | rfl | cases h
mutual
/-- all numbers of the store in it are below n -/
def A.bel (n : Nat) : A → Bool
  | .tup xs => bels n xs
  | .fl xs => bels n xs
  | .fd kvs => belk n kvs
  | .obj _ fs => belf n fs
  | .xd fs => belf n fs
  | .ref k => decide (k < n)
  | .scr xs => bels n xs
  | _ => true
def bels (n : Nat) : List A → Bool
  | [] => true
  | x :: r => x.bel n && bels n r
def belk (n : Nat) : List (A × A) → Bool
  | [] => true
  | (_, v) :: r => v.bel n && belk n r
def belf (n : Nat) : List (Str × A) → Bool
  | [] => true
  | (_, v) :: r => v.bel n && belf n r
end
/-- no number of the store in it -/
abbrev A.pure (a : A) : Bool := a.bel 0
def Ob.bel (n : Nat) : Ob → Bool
  | .lst xs => bels n xs
  | .dic kvs => belk n kvs
  | .ins _ fs => belf n fs
  | .llst xs => bels n xs
  | .ldic kvs => belk n kvs
  | .fn _ _ xs => bels n xs
  | .sfn _ _ xs => bels n xs
  | .sin _ fs => belf n fs
  | .dead => true
theorem and_t {a b : Bool} (h : (a && b) = true) : a = true ∧ b = true := by simpa using h
mutual
theorem A.bel_mono {m n : Nat} (h : m ≤ n) : ∀ (a : A), a.bel m = true → a.bel n = true
  | .tup xs, p => bels_mono h xs p
  | .fl xs, p => bels_mono h xs p
  | .fd kvs, p => belk_mono h kvs p
  | .obj _ fs, p => belf_mono h fs p
  | .xd fs, p => belf_mono h fs p
  | .ref k, p => decide_eq_true (Nat.lt_of_lt_of_le (of_decide_eq_true p) h)
  | .scr xs, p => bels_mono h xs p
  | .non, _ => rfl
  | .bl _, _ => rfl
  | .int _, _ => rfl
  | .str _, _ => rfl
  | .ty _, _ => rfl
  | .glo _, _ => rfl
theorem bels_mono {m n : Nat} (h : m ≤ n) : ∀ (a : List A), bels m a = true → bels n a = true
  | [], _ => rfl
  | x :: r, p => by
    have q := and_t p
    show (x.bel n && bels n r) = true
    rw [A.bel_mono h x q.1, bels_mono h r q.2]; rfl
theorem belk_mono {m n : Nat} (h : m ≤ n) : ∀ (a : List (A × A)), belk m a = true → belk n a = true
  | [], _ => rfl
  | (_, v) :: r, p => by
    have q := and_t p
    show (v.bel n && belk n r) = true
    rw [A.bel_mono h v q.1, belk_mono h r q.2]; rfl
theorem belf_mono {m n : Nat} (h : m ≤ n) : ∀ (a : List (Str × A)), belf m a = true → belf n a = true
  | [], _ => rfl
  | (_, v) :: r, p => by
    have q := and_t p
    show (v.bel n && belf n r) = true
    rw [A.bel_mono h v q.1, belf_mono h r q.2]; rfl
end
theorem Ob.bel_mono {m n : Nat} (h : m ≤ n) : ∀ (o : Ob), o.bel m = true → o.bel n = true
  | .lst xs, p => bels_mono h xs p
  | .dic kvs, p => belk_mono h kvs p
  | .ins _ fs, p => belf_mono h fs p
  | .llst xs, p => bels_mono h xs p
  | .ldic kvs, p => belk_mono h kvs p
  | .fn _ _ xs, p => bels_mono h xs p
  | .sfn _ _ xs, p => bels_mono h xs p
  | .sin _ fs, p => belf_mono h fs p
  | .dead, _ => rfl

/-- a lambda of the text: its captured names -/
structure Lm where
  qual : Str
  params : Arguments
  body : Expr
  scope : Scope
  fr : List Str
/-- the text's lambdas; the tables of code objects of the defs that make them, with the lambdas' qualified name -/
class LT where
  lm : Nat → Option Lm
  tabs : PySem.W.Frag → List (Addr × Str)
def LmO (f : Addr) (L : Lm) (cl : List (Str × Addr)) (c : Addr) : HO := .ext fun h => ∃ pm ctv, h.get? f = some (PySem.W.kla_obj "<lambda>" L.qual L.params L.body L.scope cl pm c ctv)
/-- a captured cell, as it stands -/
def CellO (p : Addr) (o : Obj) : HO := .ext fun h => h.get? p = some o
structure Cfg where
  K : PySem.W.Frag
  mg : Str → Option Value
/-- sc: what a comprehension fills just now; gs: the groups of captured cells that are tracked -/
structure Xt where
  sc : List Addr
  gs : Nat → Option (List Addr)
/-- a world: the numbers' addresses, the store, the heap, the rest -/
structure Wd where
  ι : List Addr
  S : Sto
  H : Hp
  x : Xt
/-- the address of something that may still change -/
def Wd.Lv (w : Wd) (a : Addr) : Prop := (∃ (k : Nat) (o : Ob), w.ι[k]? = some a ∧ w.S[k]? = some o ∧ o.live = true) ∨ a ∈ w.x.sc
def keyA : Key → A
  | .inl i => .int i
  | .inr x => .str x
def tkA (k : List Key) : A := .tup (k.map keyA)

theorem paired_imp {α β : Type} {F G : α → β → Prop} (h : ∀ a b, F a b → G a b) : ∀ {xs : List α} {ys : List β}, Paired F xs ys → Paired G xs ys
  | _, _, .nil => .nil
  | _, _, .cons a t => .cons (h _ _ a) (paired_imp h t)
variable [LT]
mutual
inductive Rv (Γ : Cfg) (w : Wd) : A → V → Prop
  | non : Rv Γ w .non .non
  | bl (b : Bool) : Rv Γ w (.bl b) (.bl b)
  | int (i : Int) : Rv Γ w (.int i) (.int i)
  | str (x : Str) : Rv Γ w (.str x) (.str x)
  | ty (n : String) : Rv Γ w (.ty n) (.ty n)
  | tup {a : Addr} {xs : List A} {vs : List V} : ¬ w.Lv a → w.H a = some (.tup vs) → Rvs Γ w xs vs → Rv Γ w (.tup xs) (.ref a)
  | fl {a : Addr} {xs : List A} {vs : List V} : ¬ w.Lv a → Rd w.H a (.lst vs) → Rvs Γ w xs vs → Rv Γ w (.fl xs) (.ref a)
  | scrF {a : Addr} {xs : List A} {vs : List V} : ¬ w.Lv a → Rd w.H a (.lst vs) → Rvs Γ w xs vs → Rv Γ w (.scr xs) (.ref a)
  | scrK {a : Addr} {xs : List A} {vs : List V} : (∃ (o : Obj) (its : Array Value) (n : Nat), Γ.K.lookup a = some o ∧ o.cls = .type "list" ∧ o.dict = none ∧ o.data = .seq its n ∧ its.size ≤ sizeLine ∧ Vals vs its.toList) → Rvs Γ w xs vs → Rv Γ w (.scr xs) (.ref a)
  | fdT {a : Addr} {kvs : List (A × A)} {kv : List (List Key × V)} : ¬ w.Lv a → Rd w.H a (.dT kv) → RkT Γ w kvs kv → Rv Γ w (.fd kvs) (.ref a)
  | fdK {a : Addr} {kvs : List (A × A)} {kv : List (Key × V)} : ¬ w.Lv a → Rd w.H a (.dK kv) → RkK Γ w kvs kv → Rv Γ w (.fd kvs) (.ref a)
  | obj {a dx : Addr} {C : Str} {fs : List (Str × A)} {fv : List (Str × V)} : ¬ w.Lv a → w.H a = some (.ins (He.ga Γ.K C) dx fv) → Rfs Γ w fs fv → Rv Γ w (.obj C fs) (.ref a)
  | xd {a : Addr} {fs : List (Str × A)} {fv : List (Str × V)} : ¬ w.Lv a → w.H a = some (.xd fv) → Rfs Γ w fs fv → Rv Γ w (.xd fs) (.ref a)
  | ref {k : Nat} {a : Addr} : w.ι[k]? = some a → Rv Γ w (.ref k) (.ref a)
  | glo {x : Str} {a : Addr} : Γ.mg x = some (.ref a) → Rv Γ w (.glo x) (.ref a)
inductive Rvs (Γ : Cfg) (w : Wd) : List A → List V → Prop
  | nil : Rvs Γ w [] []
  | cons {a : A} {v : V} {as : List A} {vs : List V} : Rv Γ w a v → Rvs Γ w as vs → Rvs Γ w (a :: as) (v :: vs)
inductive RkT (Γ : Cfg) (w : Wd) : List (A × A) → List (List Key × V) → Prop
  | nil : RkT Γ w [] []
  | cons {k : List Key} {a : A} {v : V} {as : List (A × A)} {vs : List (List Key × V)} : Rv Γ w a v → RkT Γ w as vs → RkT Γ w ((tkA k, a) :: as) ((k, v) :: vs)
inductive RkK (Γ : Cfg) (w : Wd) : List (A × A) → List (Key × V) → Prop
  | nil : RkK Γ w [] []
  | cons {k : Key} {a : A} {v : V} {as : List (A × A)} {vs : List (Key × V)} : Rv Γ w a v → RkK Γ w as vs → RkK Γ w ((keyA k, a) :: as) ((k, v) :: vs)
inductive Rfs (Γ : Cfg) (w : Wd) : List (Str × A) → List (Str × V) → Prop
  | nil : Rfs Γ w [] []
  | cons {f : Str} {a : A} {v : V} {as : List (Str × A)} {vs : List (Str × V)} : Rv Γ w a v → Rfs Γ w as vs → Rfs Γ w ((f, a) :: as) ((f, v) :: vs)
end

def isDo : HO → Bool
  | .dT _ => true
  | .dK _ => true
  | _ => false
/-- what is asked of the addresses that a value leans on: kept (a dict may be walked then), not of the living -/
def isTb : HO → Bool
  | .tbl _ => true
  | _ => false
def isTx : HO → Bool
  | .tbl _ => true
  | .ext _ => true
  | _ => false
def Kw (w w' : Wd) : Prop := ∀ a o, ¬ w.Lv a → w.H a = some o → isTb o = false → (w'.H a = some o ∨ ∃ ob, isDo o = true ∧ w'.H a = some (.frz ob o)) ∧ ¬ w'.Lv a
/-- the same of what values lean on -/
def Kv (w w' : Wd) : Prop := ∀ a o, ¬ w.Lv a → w.H a = some o → isTx o = false → (w'.H a = some o ∨ ∃ ob, isDo o = true ∧ w'.H a = some (.frz ob o)) ∧ ¬ w'.Lv a
theorem Kw.v {w w' : Wd} (k : Kw w w') : Kv w w' := fun a o n h t => k a o n h (by cases o <;> first | rfl | cases t)
theorem Kv.is {w w' : Wd} (k : Kv w w') {a : Addr} {o : HO} (n : ¬ w.Lv a) (h : w.H a = some o) (d : isDo o = false) (t : isTx o = false := by rfl) : w'.H a = some o ∧ ¬ w'.Lv a := by
  obtain ⟨h1 | ⟨_, h1, _⟩, h2⟩ := k a o n h t
  · exact ⟨h1, h2⟩
  · rw [d] at h1; cases h1
theorem Kv.rd {w w' : Wd} (k : Kv w w') {a : Addr} {u : HO} (n : ¬ w.Lv a) (h : Rd w.H a u) (t : isTx u = false := by rfl) : Rd w'.H a u ∧ ¬ w'.Lv a := by
  rcases h with h | ⟨o, h⟩
  · obtain ⟨h1 | ⟨ob, _, h1⟩, h2⟩ := k a u n h t
    · exact ⟨.inl h1, h2⟩
    · exact ⟨.inr ⟨ob, h1⟩, h2⟩
  · obtain ⟨h1, h2⟩ := k.is n h rfl
    exact ⟨.inr ⟨o, h1⟩, h2⟩
theorem Kw.is {w w' : Wd} (k : Kw w w') {a : Addr} {o : HO} (n : ¬ w.Lv a) (h : w.H a = some o) (d : isDo o = false) (t : isTb o = false := by rfl) : w'.H a = some o ∧ ¬ w'.Lv a := by
  obtain ⟨h1 | ⟨_, h1, _⟩, h2⟩ := k a o n h t
  · exact ⟨h1, h2⟩
  · rw [d] at h1; cases h1
theorem Kw.rd {w w' : Wd} (k : Kw w w') {a : Addr} {u : HO} (n : ¬ w.Lv a) (h : Rd w.H a u) (t : isTb u = false := by rfl) : Rd w'.H a u ∧ ¬ w'.Lv a := by
  rcases h with h | ⟨o, h⟩
  · obtain ⟨h1 | ⟨ob, _, h1⟩, h2⟩ := k a u n h t
    · exact ⟨.inl h1, h2⟩
    · exact ⟨.inr ⟨ob, h1⟩, h2⟩
  · obtain ⟨h1, h2⟩ := k.is n h rfl
    exact ⟨.inr ⟨o, h1⟩, h2⟩
mutual
theorem Rv.mono {Γ : Cfg} {w w' : Wd} (k : Kv w w') (hi : ∀ (j : Nat) (a : Addr), w.ι[j]? = some a → w'.ι[j]? = some a) : ∀ {a : A} {v : V}, Rv Γ w a v → Rv Γ w' a v
  | _, _, .non => .non
  | _, _, .bl b => .bl b
  | _, _, .int i => .int i
  | _, _, .str x => .str x
  | _, _, .ty n => .ty n
  | _, _, .tup n h r => .tup (k.is n h rfl).2 (k.is n h rfl).1 (Rvs.mono k hi r)
  | _, _, .fl n h r => .fl (k.rd n h).2 (k.rd n h).1 (Rvs.mono k hi r)
  | _, _, .scrF n h r => .scrF (k.rd n h).2 (k.rd n h).1 (Rvs.mono k hi r)
  | _, _, .scrK h r => .scrK h (Rvs.mono k hi r)
  | _, _, .fdT n h r => .fdT (k.rd n h).2 (k.rd n h).1 (RkT.mono k hi r)
  | _, _, .fdK n h r => .fdK (k.rd n h).2 (k.rd n h).1 (RkK.mono k hi r)
  | _, _, .obj n h r => .obj (k.is n h rfl).2 (k.is n h rfl).1 (Rfs.mono k hi r)
  | _, _, .xd n h r => .xd (k.is n h rfl).2 (k.is n h rfl).1 (Rfs.mono k hi r)
  | _, _, .ref h => .ref (hi _ _ h)
  | _, _, .glo h => .glo h
theorem Rvs.mono {Γ : Cfg} {w w' : Wd} (k : Kv w w') (hi : ∀ (j : Nat) (a : Addr), w.ι[j]? = some a → w'.ι[j]? = some a) : ∀ {a : List A} {v : List V}, Rvs Γ w a v → Rvs Γ w' a v
  | _, _, .nil => .nil
  | _, _, .cons h t => .cons (Rv.mono k hi h) (Rvs.mono k hi t)
theorem RkT.mono {Γ : Cfg} {w w' : Wd} (k : Kv w w') (hi : ∀ (j : Nat) (a : Addr), w.ι[j]? = some a → w'.ι[j]? = some a) : ∀ {a : List (A × A)} {v : List (List Key × V)}, RkT Γ w a v → RkT Γ w' a v
  | _, _, .nil => .nil
  | _, _, .cons h t => .cons (Rv.mono k hi h) (RkT.mono k hi t)
theorem RkK.mono {Γ : Cfg} {w w' : Wd} (k : Kv w w') (hi : ∀ (j : Nat) (a : Addr), w.ι[j]? = some a → w'.ι[j]? = some a) : ∀ {a : List (A × A)} {v : List (Key × V)}, RkK Γ w a v → RkK Γ w' a v
  | _, _, .nil => .nil
  | _, _, .cons h t => .cons (Rv.mono k hi h) (RkK.mono k hi t)
theorem Rfs.mono {Γ : Cfg} {w w' : Wd} (k : Kv w w') (hi : ∀ (j : Nat) (a : Addr), w.ι[j]? = some a → w'.ι[j]? = some a) : ∀ {a : List (Str × A)} {v : List (Str × V)}, Rfs Γ w a v → Rfs Γ w' a v
  | _, _, .nil => .nil
  | _, _, .cons h t => .cons (Rv.mono k hi h) (Rfs.mono k hi t)
end
mutual
theorem Rv.bel {Γ : Cfg} {w : Wd} : ∀ {a : A} {v : V}, Rv Γ w a v → a.bel w.ι.length = true
  | _, _, .non => rfl
  | _, _, .bl _ => rfl
  | _, _, .int _ => rfl
  | _, _, .str _ => rfl
  | _, _, .ty _ => rfl
  | _, _, .tup _ _ r => Rvs.bel r
  | _, _, .fl _ _ r => Rvs.bel r
  | _, _, .scrF _ _ r => Rvs.bel r
  | _, _, .scrK _ r => Rvs.bel r
  | _, _, .fdT _ _ r => RkT.bel r
  | _, _, .fdK _ _ r => RkK.bel r
  | _, _, .obj _ _ r => Rfs.bel r
  | _, _, .xd _ _ r => Rfs.bel r
  | _, _, .ref h => decide_eq_true (List.getElem?_eq_some_iff.mp h).1
  | _, _, .glo _ => rfl
theorem Rvs.bel {Γ : Cfg} {w : Wd} : ∀ {a : List A} {v : List V}, Rvs Γ w a v → bels w.ι.length a = true
  | _, _, .nil => rfl
  | _, _, .cons h t => by show (_ && _) = true; rw [Rv.bel h, Rvs.bel t]; rfl
theorem RkT.bel {Γ : Cfg} {w : Wd} : ∀ {a : List (A × A)} {v : List (List Key × V)}, RkT Γ w a v → belk w.ι.length a = true
  | _, _, .nil => rfl
  | _, _, .cons h t => by show (_ && _) = true; rw [Rv.bel h, RkT.bel t]; rfl
theorem RkK.bel {Γ : Cfg} {w : Wd} : ∀ {a : List (A × A)} {v : List (Key × V)}, RkK Γ w a v → belk w.ι.length a = true
  | _, _, .nil => rfl
  | _, _, .cons h t => by show (_ && _) = true; rw [Rv.bel h, RkK.bel t]; rfl
theorem Rfs.bel {Γ : Cfg} {w : Wd} : ∀ {a : List (Str × A)} {v : List (Str × V)}, Rfs Γ w a v → belf w.ι.length a = true
  | _, _, .nil => rfl
  | _, _, .cons h t => by show (_ && _) = true; rw [Rv.bel h, Rfs.bel t]; rfl
end
/-- the heap stays, fewer live, fewer numbers -/
structure Cut (n : Nat) (w w' : Wd) : Prop where
  H : w'.H = w.H
  lv : ∀ a, w'.Lv a → w.Lv a
  ix : ∀ (j : Nat) (a : Addr), j < n → w.ι[j]? = some a → w'.ι[j]? = some a
  gx : w'.x.gs = w.x.gs
mutual
theorem Rv.cut {Γ : Cfg} {w w' : Wd} {n : Nat} (c : Cut n w w') : ∀ {a : A} {v : V}, Rv Γ w a v → a.bel n = true → Rv Γ w' a v
  | _, _, .non, _ => .non
  | _, _, .bl b, _ => .bl b
  | _, _, .int i, _ => .int i
  | _, _, .str x, _ => .str x
  | _, _, .ty n, _ => .ty n
  | _, _, .tup n h r, p => .tup (fun z => n (c.lv _ z)) (by rw [c.H]; exact h) (Rvs.cut c r p)
  | _, _, .fl n h r, p => .fl (fun z => n (c.lv _ z)) (by rw [c.H]; exact h) (Rvs.cut c r p)
  | _, _, .scrF n h r, p => .scrF (fun z => n (c.lv _ z)) (by rw [c.H]; exact h) (Rvs.cut c r p)
  | _, _, .scrK h r, p => .scrK h (Rvs.cut c r p)
  | _, _, .fdT n h r, p => .fdT (fun z => n (c.lv _ z)) (by rw [c.H]; exact h) (RkT.cut c r p)
  | _, _, .fdK n h r, p => .fdK (fun z => n (c.lv _ z)) (by rw [c.H]; exact h) (RkK.cut c r p)
  | _, _, .obj n h r, p => .obj (fun z => n (c.lv _ z)) (by rw [c.H]; exact h) (Rfs.cut c r p)
  | _, _, .xd n h r, p => .xd (fun z => n (c.lv _ z)) (by rw [c.H]; exact h) (Rfs.cut c r p)
  | _, _, .ref h, p => .ref (c.ix _ _ (of_decide_eq_true p) h)
  | _, _, .glo h, _ => .glo h
theorem Rvs.cut {Γ : Cfg} {w w' : Wd} {n : Nat} (c : Cut n w w') : ∀ {a : List A} {v : List V}, Rvs Γ w a v → bels n a = true → Rvs Γ w' a v
  | _, _, .nil, _ => .nil
  | _, _, .cons h t, p => .cons (Rv.cut c h (and_t p).1) (Rvs.cut c t (and_t p).2)
theorem RkT.cut {Γ : Cfg} {w w' : Wd} {n : Nat} (c : Cut n w w') : ∀ {a : List (A × A)} {v : List (List Key × V)}, RkT Γ w a v → belk n a = true → RkT Γ w' a v
  | _, _, .nil, _ => .nil
  | _, _, .cons h t, p => .cons (Rv.cut c h (and_t p).1) (RkT.cut c t (and_t p).2)
theorem RkK.cut {Γ : Cfg} {w w' : Wd} {n : Nat} (c : Cut n w w') : ∀ {a : List (A × A)} {v : List (Key × V)}, RkK Γ w a v → belk n a = true → RkK Γ w' a v
  | _, _, .nil, _ => .nil
  | _, _, .cons h t, p => .cons (Rv.cut c h (and_t p).1) (RkK.cut c t (and_t p).2)
theorem Rfs.cut {Γ : Cfg} {w w' : Wd} {n : Nat} (c : Cut n w w') : ∀ {a : List (Str × A)} {v : List (Str × V)}, Rfs Γ w a v → belf n a = true → Rfs Γ w' a v
  | _, _, .nil, _ => .nil
  | _, _, .cons h t, p => .cons (Rv.cut c h (and_t p).1) (Rfs.cut c t (and_t p).2)
end

/-- the function object f of the lambda i, the cells that it captured -/
structure FnR (w : Wd) (f : Addr) (i : Nat) (cl : List (Str × Addr)) : Prop where
  ex : ∃ (L : Lm) (c : Addr), LT.lm i = some L ∧ w.H f = some (LmO f L cl c) ∧ ¬ w.Lv c ∧ w.H c = some (LamX.CodeO c L.qual) ∧ cl.map Prod.fst = L.fr ∧ (cl.map Prod.snd).Nodup
/-- the cells, tracked, with what they hold -/
def CelR (w : Wd) (cl : List (Str × Addr)) (vs : List V) : Prop := Paired (fun q v => ¬ w.Lv q.2 ∧ ∃ o u, w.H q.2 = some (CellO q.2 o) ∧ o.data = .cell (some u) ∧ RelV v u) cl vs
/-- an object of the store at an address -/
def ObR (Γ : Cfg) (w : Wd) (a : Addr) : Ob → Prop
  | .lst xs => ∃ vs, w.H a = some (.lst vs) ∧ Rvs Γ w xs vs
  | .llst xs => ∃ vs, w.H a = some (.lst vs) ∧ Rvs Γ w xs vs
  | .dic kvs => (∃ kv, w.H a = some (.dT kv) ∧ RkT Γ w kvs kv) ∨ ∃ kv, w.H a = some (.dK kv) ∧ RkK Γ w kvs kv
  | .ldic kvs => (∃ o kv, w.H a = some (.frz o (.dT kv)) ∧ RkT Γ w kvs kv) ∨ ∃ o kv, w.H a = some (.frz o (.dK kv)) ∧ RkK Γ w kvs kv
  | .ins C fs => ∃ dx fv, w.H a = some (.ins (He.ga Γ.K C) dx fv) ∧ Rfs Γ w fs fv
  | .fn i g caps => ∃ cl vs ps, FnR w a i cl ∧ CelR w cl vs ∧ w.x.gs g = some ps ∧ (∀ q ∈ cl, q.2 ∈ ps) ∧ Rvs Γ w caps vs
  | .sfn i _ caps => ∃ cl vs, FnR w a i cl ∧ Rvs Γ w caps vs
  | .sin C fs => ∃ dx fv, w.H a = some (SlX.SlO a (He.ga Γ.K C) dx (fv.map fun q => some q.2)) ∧ ¬ w.Lv dx ∧ w.H dx = some (.xd []) ∧ Rfs Γ w fs fv
  | .dead => ∃ o, w.H a = some o ∧ isTx o = false
def isSc : HO → Bool
  | .lst _ => true
  | .dT _ => true
  | .dK _ => true
  | _ => false
/-- a cell's object is told apart from code objects and functions -/
def CNe (p : Addr) (o : Obj) : Prop := (∀ q, CellO p o ≠ LamX.CodeO p q) ∧ ∀ L cl c, CellO p o ≠ LmO p L cl c
/-- the groups' cells, the tables of code objects -/
structure RelG (Γ : Cfg) (w : Wd) : Prop where
  gr : ∀ (g : Nat) (ps : List Addr), w.x.gs g = some ps → ∀ p ∈ ps, ¬ w.Lv p ∧ ∃ o, w.H p = some (CellO p o) ∧ CNe p o
  gd : ∀ (g g' : Nat) (ps ps' : List Addr) (p : Addr), w.x.gs g = some ps → w.x.gs g' = some ps' → p ∈ ps → p ∈ ps' → g = g'
  tb : LamX.Tabs (LT.tabs Γ.K) w.H
structure Rel (Γ : Cfg) (w : Wd) : Prop where
  g : RelG Γ w
  sc : ∀ a ∈ w.x.sc, (∃ o, w.H a = some o ∧ isSc o = true) ∧ ∀ k : Nat, w.ι[k]? ≠ some a
  len : w.ι.length = w.S.length
  inj : ∀ (i j : Nat) (a : Addr), w.ι[i]? = some a → w.ι[j]? = some a → i = j
  at_ : ∀ (k : Nat) (a : Addr) (o : Ob), w.ι[k]? = some a → w.S[k]? = some o → ObR Γ w a o
/-- later -/
structure Ex (w w' : Wd) : Prop where
  gx : w'.x.gs = w.x.gs
  sx : ∀ a ∈ w.x.sc, a ∈ w'.x.sc ∧ w'.H a = w.H a
  ix : ∀ (j : Nat) (a : Addr), w.ι[j]? = some a → w'.ι[j]? = some a
  kp : Kw w w'
  lk : ∀ (k : Nat) (o : Ob), w.S[k]? = some o → o.lk = true → w'.S[k]? = some o
  fx : ∀ (k : Nat) (o : Ob) (a : Addr), w.S[k]? = some o → o.fk = true → w.ι[k]? = some a → w'.H a = w.H a
theorem Ex.refl {w : Wd} : Ex w w := ⟨rfl, fun _ h => ⟨h, rfl⟩, fun _ _ h => h, fun _ _ n h _ => ⟨.inl h, n⟩, fun _ _ h _ => h, fun _ _ _ _ _ _ => rfl⟩
theorem Ex.trans {w w1 w2 : Wd} (a : Ex w w1) (b : Ex w1 w2) : Ex w w2 :=
  ⟨b.gx.trans a.gx, fun p h => ⟨(b.sx p (a.sx p h).1).1, (b.sx p (a.sx p h).1).2.trans (a.sx p h).2⟩, fun j p h => b.ix j p (a.ix j p h), fun p o n h t => by
    obtain ⟨h1 | ⟨ob, d, h1⟩, h2⟩ := a.kp p o n h t
    · exact b.kp p o h2 h1 t
    · obtain ⟨h3, h4⟩ := b.kp.is h2 h1 rfl
      exact ⟨.inr ⟨ob, d, h3⟩, h4⟩, fun k o h l => b.lk k o (a.lk k o h l) l, fun k o p h l e => (b.fx k o p (a.lk k o h (fk_lk l)) l (a.ix k p e)).trans (a.fx k o p h l e)⟩
theorem RelG.ex {Γ : Cfg} {w w' : Wd} (r : RelG Γ w) (e : Ex w w') (t : LamX.Tabs (LT.tabs Γ.K) w'.H) : RelG Γ w' := by
  refine ⟨fun g ps hg p hp => ?_, fun g g' ps ps' p h1 h2 => ?_, t⟩
  · rw [e.gx] at hg
    obtain ⟨n, o, h, hq⟩ := r.gr g ps hg p hp
    obtain ⟨h1, h2⟩ := e.kp.is n h rfl
    exact ⟨h2, o, h1, hq⟩
  · rw [e.gx] at h1 h2
    exact r.gd g g' ps ps' p h1 h2
theorem tab_upd {T : List (Addr × Str)} {H : Hp} {a : Addr} {o : HO} (t : LamX.Tabs T H) (h : ∀ u, H a = some u → isTx u = false) : LamX.Tabs T (upd H a o) := fun q hq => by
  obtain ⟨ps, h1, h2, h3⟩ := t q hq
  refine ⟨ps, (upd_ne fun z => ?_).trans h1, h2, fun pos cv hc => ?_⟩
  · have := h _ (by rw [← z]; exact h1)
    cases this
  · obtain ⟨c, e1, e2⟩ := h3 pos cv hc
    refine ⟨c, e1, (upd_ne fun z => ?_).trans e2⟩
    have := h _ (by rw [← z]; exact e2)
    cases this
theorem tab_new {T : List (Addr × Str)} {H : Hp} {a : Addr} {o : HO} (t : LamX.Tabs T H) (h : H a = none) : LamX.Tabs T (upd H a o) := tab_upd t fun u e => by rw [h] at e; cases e
section
variable {Γ : Cfg} {w w' : Wd}
theorem Rv.ex {a : A} {v : V} (h : Rv Γ w a v) (e : Ex w w') : Rv Γ w' a v := h.mono e.kp.v e.ix
theorem Rvs.ex {a : List A} {v : List V} (h : Rvs Γ w a v) (e : Ex w w') : Rvs Γ w' a v := h.mono e.kp.v e.ix
theorem RkT.ex {a : List (A × A)} {v : List (List Key × V)} (h : RkT Γ w a v) (e : Ex w w') : RkT Γ w' a v := h.mono e.kp.v e.ix
theorem RkK.ex {a : List (A × A)} {v : List (Key × V)} (h : RkK Γ w a v) (e : Ex w w') : RkK Γ w' a v := h.mono e.kp.v e.ix
theorem Rfs.ex {a : List (Str × A)} {v : List (Str × V)} (h : Rfs Γ w a v) (e : Ex w w') : Rfs Γ w' a v := h.mono e.kp.v e.ix
theorem FnR.mono {a : Addr} {i : Nat} {cl : List (Str × Addr)} (h : FnR w a i cl) (k : Kw w w') (hH : w'.H a = w.H a) : FnR w' a i cl := by
  obtain ⟨L, c, h1, h2, h3, h4, h5⟩ := h.ex
  exact ⟨L, c, h1, hH.trans h2, (k.is h3 h4 rfl).2, (k.is h3 h4 rfl).1, h5⟩
theorem CelR.mono {cl : List (Str × Addr)} {vs : List V} (h : CelR w cl vs) (k : Kw w w') : CelR w' cl vs := paired_imp (fun q v ⟨n, o, u, e, z⟩ => ⟨(k.is n e rfl).2, o, u, (k.is n e rfl).1, z⟩) h
theorem FnR.cut {n : Nat} {a : Addr} {i : Nat} {cl : List (Str × Addr)} (h : FnR w a i cl) (c : Cut n w w') : FnR w' a i cl := by
  obtain ⟨L, p, h1, h2, h3, h4, h5⟩ := h.ex
  exact ⟨L, p, h1, by rw [c.H]; exact h2, fun z => h3 (c.lv _ z), by rw [c.H]; exact h4, h5⟩
theorem CelR.cut {n : Nat} {cl : List (Str × Addr)} {vs : List V} (h : CelR w cl vs) (c : Cut n w w') : CelR w' cl vs := paired_imp (fun q v ⟨nl, o, u, e, z⟩ => ⟨fun y => nl (c.lv _ y), o, u, by rw [c.H]; exact e, z⟩) h
theorem ObR.there {a : Addr} {o : Ob} (h : ObR Γ w a o) : ∃ u, w.H a = some u := by
  cases o with
  | lst xs => obtain ⟨_, e, _⟩ := h; exact ⟨_, e⟩
  | llst xs => obtain ⟨_, e, _⟩ := h; exact ⟨_, e⟩
  | dic kvs =>
    rcases h with ⟨_, e, _⟩ | ⟨_, e, _⟩
    · exact ⟨_, e⟩
    · exact ⟨_, e⟩
  | ldic kvs =>
    rcases h with ⟨_, _, e, _⟩ | ⟨_, _, e, _⟩
    · exact ⟨_, e⟩
    · exact ⟨_, e⟩
  | ins C fs => obtain ⟨_, _, e, _⟩ := h; exact ⟨_, e⟩
  | fn i g caps => obtain ⟨_, _, _, r, _⟩ := h; obtain ⟨_, _, _, e, _⟩ := r.ex; exact ⟨_, e⟩
  | sfn i g caps => obtain ⟨_, _, r, _⟩ := h; obtain ⟨_, _, _, e, _⟩ := r.ex; exact ⟨_, e⟩
  | sin C fs => obtain ⟨_, _, e, _⟩ := h; exact ⟨_, e⟩
  | dead => obtain ⟨o, e, _⟩ := h; exact ⟨o, e⟩
theorem ObR.tx {a : Addr} {o : Ob} (h : ObR Γ w a o) (l : o.live = true) (nl : o.lk = false) : ∀ u, w.H a = some u → isTx u = false := by
  intro u e
  cases o with
  | lst xs => obtain ⟨_, e1, _⟩ := h; rw [e] at e1; cases e1; rfl
  | llst xs => obtain ⟨_, e1, _⟩ := h; rw [e] at e1; cases e1; rfl
  | dic kvs =>
    rcases h with ⟨_, e1, _⟩ | ⟨_, e1, _⟩
    · rw [e] at e1; cases e1; rfl
    · rw [e] at e1; cases e1; rfl
  | ldic kvs =>
    rcases h with ⟨_, _, e1, _⟩ | ⟨_, _, e1, _⟩
    · rw [e] at e1; cases e1; rfl
    · rw [e] at e1; cases e1; rfl
  | ins C fs => obtain ⟨_, _, e1, _⟩ := h; rw [e] at e1; cases e1; rfl
  | fn i g caps => cases nl
  | sfn i g caps => cases nl
  | sin C fs => cases nl
  | dead => cases l
/-- the same object there, the rest later -/
theorem ObR.ex {a : Addr} {o : Ob} (h : ObR Γ w a o) (e : Ex w w') (hH : w'.H a = w.H a) : ObR Γ w' a o := by
  cases o with
  | lst xs => obtain ⟨vs, e1, r⟩ := h; exact ⟨vs, by rw [hH]; exact e1, r.ex e⟩
  | llst xs => obtain ⟨vs, e1, r⟩ := h; exact ⟨vs, by rw [hH]; exact e1, r.ex e⟩
  | dic kvs =>
    rcases h with ⟨kv, e1, r⟩ | ⟨kv, e1, r⟩
    · exact .inl ⟨kv, by rw [hH]; exact e1, r.ex e⟩
    · exact .inr ⟨kv, by rw [hH]; exact e1, r.ex e⟩
  | ldic kvs =>
    rcases h with ⟨o, kv, e1, r⟩ | ⟨o, kv, e1, r⟩
    · exact .inl ⟨o, kv, by rw [hH]; exact e1, r.ex e⟩
    · exact .inr ⟨o, kv, by rw [hH]; exact e1, r.ex e⟩
  | ins C fs => obtain ⟨dx, fv, e1, r⟩ := h; exact ⟨dx, fv, by rw [hH]; exact e1, r.ex e⟩
  | fn i g caps => obtain ⟨cl, vs, ps, h1, h2, h3, h4, r⟩ := h; exact ⟨cl, vs, ps, h1.mono e.kp hH, h2.mono e.kp, by rw [e.gx]; exact h3, h4, r.ex e⟩
  | sfn i g caps => obtain ⟨cl, vs, h1, r⟩ := h; exact ⟨cl, vs, h1.mono e.kp hH, r.ex e⟩
  | sin C fs => obtain ⟨dx, fv, e1, n, e2, r⟩ := h; exact ⟨dx, fv, by rw [hH]; exact e1, (e.kp.is n e2 rfl).2, (e.kp.is n e2 rfl).1, r.ex e⟩
  | dead => obtain ⟨u, e1, t⟩ := h; exact ⟨u, by rw [hH]; exact e1, t⟩
theorem ObR.cut {n : Nat} {a : Addr} {o : Ob} (h : ObR Γ w a o) (c : Cut n w w') (hb : o.bel n = true) : ObR Γ w' a o := by
  cases o with
  | lst xs => obtain ⟨vs, e1, r⟩ := h; exact ⟨vs, by rw [c.H]; exact e1, r.cut c hb⟩
  | llst xs => obtain ⟨vs, e1, r⟩ := h; exact ⟨vs, by rw [c.H]; exact e1, r.cut c hb⟩
  | dic kvs =>
    rcases h with ⟨kv, e1, r⟩ | ⟨kv, e1, r⟩
    · exact .inl ⟨kv, by rw [c.H]; exact e1, r.cut c hb⟩
    · exact .inr ⟨kv, by rw [c.H]; exact e1, r.cut c hb⟩
  | ldic kvs =>
    rcases h with ⟨o, kv, e1, r⟩ | ⟨o, kv, e1, r⟩
    · exact .inl ⟨o, kv, by rw [c.H]; exact e1, r.cut c hb⟩
    · exact .inr ⟨o, kv, by rw [c.H]; exact e1, r.cut c hb⟩
  | ins C fs => obtain ⟨dx, fv, e1, r⟩ := h; exact ⟨dx, fv, by rw [c.H]; exact e1, r.cut c hb⟩
  | fn i g caps => obtain ⟨cl, vs, ps, h1, h2, h3, h4, r⟩ := h; exact ⟨cl, vs, ps, h1.cut c, h2.cut c, by rw [c.gx]; exact h3, h4, r.cut c hb⟩
  | sfn i g caps => obtain ⟨cl, vs, h1, r⟩ := h; exact ⟨cl, vs, h1.cut c, r.cut c hb⟩
  | sin C fs => obtain ⟨dx, fv, e1, n, e2, r⟩ := h; exact ⟨dx, fv, by rw [c.H]; exact e1, fun z => n (c.lv _ z), by rw [c.H]; exact e2, r.cut c hb⟩
  | dead => obtain ⟨u, e1, t⟩ := h; exact ⟨u, by rw [c.H]; exact e1, t⟩
theorem ObR.bel {a : Addr} {o : Ob} (h : ObR Γ w a o) : o.bel w.ι.length = true := by
  cases o with
  | lst xs => obtain ⟨vs, e1, r⟩ := h; exact r.bel
  | llst xs => obtain ⟨vs, e1, r⟩ := h; exact r.bel
  | dic kvs =>
    rcases h with ⟨kv, e1, r⟩ | ⟨kv, e1, r⟩
    · exact r.bel
    · exact r.bel
  | ldic kvs =>
    rcases h with ⟨o, kv, e1, r⟩ | ⟨o, kv, e1, r⟩
    · exact r.bel
    · exact r.bel
  | ins C fs => obtain ⟨dx, fv, e1, r⟩ := h; exact r.bel
  | fn i g caps => obtain ⟨_, _, _, _, _, _, _, r⟩ := h; exact r.bel
  | sfn i g caps => obtain ⟨_, _, _, r⟩ := h; exact r.bel
  | sin C fs => obtain ⟨_, _, _, _, _, r⟩ := h; exact r.bel
  | dead => rfl
/-- what is numbered stands in the heap -/
theorem Rel.there (r : Rel Γ w) {k : Nat} {a : Addr} (h : w.ι[k]? = some a) : ∃ u, w.H a = some u := by
  have hk : k < w.S.length := by rw [← r.len]; exact (List.getElem?_eq_some_iff.mp h).1
  exact (r.at_ k a _ h (List.getElem?_eq_getElem hk)).there
theorem Rel.num (r : Rel Γ w) {k : Nat} {o : Ob} (h : w.S[k]? = some o) : ∃ a, w.ι[k]? = some a ∧ ObR Γ w a o := by
  have hk : k < w.ι.length := by rw [r.len]; exact (List.getElem?_eq_some_iff.mp h).1
  exact ⟨w.ι[k], List.getElem?_eq_getElem hk, r.at_ k _ o (List.getElem?_eq_getElem hk) h⟩
theorem Rel.fresh (r : Rel Γ w) {p : Addr} (h : w.H p = none) : ¬ w.Lv p := fun z => by
  rcases z with ⟨k, o, e, _⟩ | z
  · obtain ⟨u, e2⟩ := r.there e
    rw [h] at e2; cases e2
  · obtain ⟨⟨o, e, _⟩, _⟩ := r.sc p z
    rw [h] at e; cases e
theorem Rel.scne (r : Rel Γ w) {p a : Addr} (h : w.H p = none) (ha : a ∈ w.x.sc) : a ≠ p := by
  obtain ⟨⟨o, e, _⟩, _⟩ := r.sc a ha
  exact ne_of_none e h
/-- something new that never changes -/
theorem Ex.laid (r : Rel Γ w) {p : Addr} {o : HO} (h : w.H p = none) : Ex w ⟨w.ι, w.S, upd w.H p o, w.x⟩ :=
  ⟨rfl, fun a ha => ⟨ha, upd_ne (r.scne h ha)⟩, fun _ _ z => z, fun a u n e _ => ⟨.inl (by show upd w.H p o a = some u; rw [upd_ne (ne_of_none e h)]; exact e), n⟩, fun _ _ z _ => z, fun k o' a _ _ e => upd_ne (by
    obtain ⟨u, e3⟩ := r.there e
    exact ne_of_none e3 h)⟩
theorem Rel.laid (r : Rel Γ w) {p : Addr} {o : HO} (h : w.H p = none) : Rel Γ ⟨w.ι, w.S, upd w.H p o, w.x⟩ :=
  ⟨r.g.ex (Ex.laid r h) (tab_new r.g.tb h), fun a ha => ⟨by
      obtain ⟨⟨o', e, z⟩, _⟩ := r.sc a ha
      exact ⟨o', (upd_ne (r.scne h ha)).trans e, z⟩, (r.sc a ha).2⟩, r.len, r.inj, fun k a ob e1 e2 => (r.at_ k a ob e1 e2).ex (Ex.laid r h) (by
    obtain ⟨u, e3⟩ := r.there e1
    show upd w.H p o a = w.H a
    rw [upd_ne (ne_of_none e3 h)])⟩
/-- something new that may change -/
theorem get_app {α : Type} {l : List α} {x y : α} {k : Nat} (h : (l ++ [x])[k]? = some y) : (k < l.length ∧ l[k]? = some y) ∨ (k = l.length ∧ y = x) := by
  by_cases hk : k < l.length
  · rw [List.getElem?_append_left hk] at h; exact .inl ⟨hk, h⟩
  · rw [List.getElem?_append_right (by omega)] at h
    have hk2 : k - l.length = 0 := by
      cases q : k - l.length with
      | zero => rfl
      | succ m => rw [q] at h; simp at h
    rw [hk2] at h
    simp at h
    exact .inr ⟨by omega, h.symm⟩
theorem Ex.new (r : Rel Γ w) {p : Addr} {o : HO} {ob : Ob} (h : w.H p = none) : Ex w ⟨w.ι ++ [p], w.S ++ [ob], upd w.H p o, w.x⟩ := by
  refine ⟨rfl, fun a ha => ⟨ha, upd_ne (r.scne h ha)⟩, fun j a e => ?_, fun a u n e _ => ⟨.inl ?_, ?_⟩, fun k u e _ => ?_, fun k o' a _ _ e => upd_ne (by
    obtain ⟨u, e3⟩ := r.there e
    exact ne_of_none e3 h)⟩
  · show (w.ι ++ [p])[j]? = some a
    rw [List.getElem?_append_left (List.getElem?_eq_some_iff.mp e).1]; exact e
  · show upd w.H p o a = some u
    rw [upd_ne (ne_of_none e h)]; exact e
  · rintro (⟨k, q, e1, e2, e3⟩ | z)
    · rcases get_app e1 with ⟨hk, e1⟩ | ⟨_, rfl⟩
      · refine n (.inl ⟨k, q, e1, ?_, e3⟩)
        have e2 : (w.S ++ [ob])[k]? = some q := e2
        rw [List.getElem?_append_left (by rw [← r.len]; exact hk)] at e2
        exact e2
      · rw [h] at e; cases e
    · exact n (.inr z)
  · show (w.S ++ [ob])[k]? = some u
    rw [List.getElem?_append_left (List.getElem?_eq_some_iff.mp e).1]; exact e
theorem Rel.new (r : Rel Γ w) {p : Addr} {o : HO} {ob : Ob} (h : w.H p = none) (n : ObR Γ ⟨w.ι ++ [p], w.S ++ [ob], upd w.H p o, w.x⟩ p ob) : Rel Γ ⟨w.ι ++ [p], w.S ++ [ob], upd w.H p o, w.x⟩ := by
  have np : ∀ (k : Nat) (a : Addr), w.ι[k]? = some a → a ≠ p := fun k a e => by
    obtain ⟨u, e3⟩ := r.there e
    exact ne_of_none e3 h
  refine ⟨r.g.ex (Ex.new r h) (tab_new r.g.tb h), fun a ha => ⟨?_, fun k e => ?_⟩, by show (w.ι ++ [p]).length = (w.S ++ [ob]).length; simp [r.len], fun i j a e1 e2 => ?_, fun k a q e1 e2 => ?_⟩
  · obtain ⟨⟨o', e, z⟩, _⟩ := r.sc a ha
    exact ⟨o', (upd_ne (r.scne h ha)).trans e, z⟩
  · rcases get_app e with ⟨_, f1⟩ | ⟨_, ea⟩
    · exact (r.sc a ha).2 k f1
    · exact r.scne h ha ea
  · rcases get_app e1 with ⟨_, f1⟩ | ⟨h1, ea⟩
    · rcases get_app e2 with ⟨_, f2⟩ | ⟨_, ea⟩
      · exact r.inj i j a f1 f2
      · exact absurd ea (np i _ f1)
    · rcases get_app e2 with ⟨_, f2⟩ | ⟨h2, _⟩
      · exact absurd ea (np j _ f2)
      · rw [h1, h2]
  · rcases get_app e1 with ⟨hk, e1⟩ | ⟨h1, rfl⟩
    · have e2 : (w.S ++ [ob])[k]? = some q := e2
      rw [List.getElem?_append_left (by rw [← r.len]; exact hk)] at e2
      refine (r.at_ k a q e1 e2).ex (Ex.new r h) ?_
      show upd w.H p o a = w.H a
      rw [upd_ne (np k a e1)]
    · have e2 : (w.S ++ [ob])[k]? = some q := e2
      rw [h1, r.len, List.getElem?_append_right (Nat.le_refl _), Nat.sub_self] at e2
      simp at e2
      subst e2
      exact n
/-- the object of number k is changed -/
theorem Lv.set {k : Nat} {a b : Addr} {o : Ob} {ob : Ob} {H' : Hp} (e0 : w.ι[k]? = some a) (e1 : w.S[k]? = some o) (l : o.live = true) (h : Wd.Lv ⟨w.ι, w.S.set k ob, H', w.x⟩ b) : w.Lv b := by
  rcases h with ⟨j, q, h1, h2, h3⟩ | h
  · by_cases hj : j = k
    · subst hj
      exact .inl ⟨j, o, h1, e1, l⟩
    · have h2 : (w.S.set k ob)[j]? = some q := h2
      rw [List.getElem?_set_ne (Ne.symm hj)] at h2
      exact .inl ⟨j, q, h1, h2, h3⟩
  · exact .inr h
theorem Ex.set (r : Rel Γ w) {k : Nat} {a : Addr} {o ob : Ob} {u : HO} (e0 : w.ι[k]? = some a) (e1 : w.S[k]? = some o) (l : o.live = true) (nl : o.lk = false) : Ex w ⟨w.ι, w.S.set k ob, upd w.H a u, w.x⟩ := by
  refine ⟨rfl, fun b hb => ⟨hb, upd_ne (fun z => (r.sc b hb).2 k (by rw [z]; exact e0))⟩, fun _ _ z => z, fun b q n e _ => ⟨.inl ?_, fun z => n (Lv.set e0 e1 l z)⟩, fun j q e hl => ?_, fun j q b h hl e => upd_ne (fun z => by
    have hj : j = k := r.inj j k a (by rw [← z]; exact e) e0
    subst hj
    rw [e1] at h
    cases h
    rw [fk_lk hl] at nl
    cases nl)⟩
  · show upd w.H a u b = some q
    rw [upd_ne (fun z => n (by rw [z]; exact .inl ⟨k, o, e0, e1, l⟩))]; exact e
  · show (w.S.set k ob)[j]? = some q
    have : j ≠ k := fun z => by rw [z, e1] at e; cases e; rw [nl] at hl; cases hl
    rw [List.getElem?_set_ne (Ne.symm this)]; exact e
theorem Rel.set (r : Rel Γ w) {k : Nat} {a : Addr} {o ob : Ob} {u : HO} (e0 : w.ι[k]? = some a) (e1 : w.S[k]? = some o) (l : o.live = true) (nl : o.lk = false) (n : ObR Γ ⟨w.ι, w.S.set k ob, upd w.H a u, w.x⟩ a ob) : Rel Γ ⟨w.ι, w.S.set k ob, upd w.H a u, w.x⟩ := by
  refine ⟨r.g.ex (Ex.set r e0 e1 l nl) (tab_upd r.g.tb ((r.at_ k a o e0 e1).tx l nl)), fun b hb => ⟨?_, (r.sc b hb).2⟩, by show w.ι.length = (w.S.set k ob).length; simp [r.len], r.inj, fun j b q h1 h2 => ?_⟩
  · obtain ⟨⟨o', e, z⟩, h2⟩ := r.sc b hb
    exact ⟨o', (upd_ne (fun z => h2 k (by rw [z]; exact e0))).trans e, z⟩
  have h2 : (w.S.set k ob)[j]? = some q := h2
  by_cases hj : j = k
  · subst hj
    rw [List.getElem?_set_self (List.getElem?_eq_some_iff.mp e1).1] at h2
    cases h2
    have h1 : w.ι[j]? = some b := h1
    rw [e0] at h1
    cases h1
    exact n
  · rw [List.getElem?_set_ne (Ne.symm hj)] at h2
    refine (r.at_ j b q h1 h2).ex (Ex.set r e0 e1 l nl) ?_
    show upd w.H a u b = w.H b
    rw [upd_ne (fun z => hj (r.inj j k a (by rw [← z]; exact h1) e0))]
/-- what stood is taken by value from now on (or is locked): the heap stays -/
theorem Ex.mark {k : Nat} {a : Addr} {o ob : Ob} (e0 : w.ι[k]? = some a) (e1 : w.S[k]? = some o) (l : o.live = true) (nl : o.lk = false) : Ex w ⟨w.ι, w.S.set k ob, w.H, w.x⟩ := by
  refine ⟨rfl, fun b hb => ⟨hb, rfl⟩, fun _ _ z => z, fun b q n e _ => ⟨.inl e, fun z => n (Lv.set e0 e1 l z)⟩, fun j q e hl => ?_, fun _ _ _ _ _ _ => rfl⟩
  show (w.S.set k ob)[j]? = some q
  have : j ≠ k := fun z => by rw [z, e1] at e; cases e; rw [nl] at hl; cases hl
  rw [List.getElem?_set_ne (Ne.symm this)]; exact e
theorem Rel.mark (r : Rel Γ w) {k : Nat} {a : Addr} {o ob : Ob} (e0 : w.ι[k]? = some a) (e1 : w.S[k]? = some o) (l : o.live = true) (nl : o.lk = false) (n : ObR Γ ⟨w.ι, w.S.set k ob, w.H, w.x⟩ a ob) : Rel Γ ⟨w.ι, w.S.set k ob, w.H, w.x⟩ := by
  refine ⟨r.g.ex (Ex.mark e0 e1 l nl) r.g.tb, r.sc, by show w.ι.length = (w.S.set k ob).length; simp [r.len], r.inj, fun j b q h1 h2 => ?_⟩
  have h2 : (w.S.set k ob)[j]? = some q := h2
  by_cases hj : j = k
  · subst hj
    rw [List.getElem?_set_self (List.getElem?_eq_some_iff.mp e1).1] at h2
    cases h2
    have h1 : w.ι[j]? = some b := h1
    rw [e0] at h1
    cases h1
    exact n
  · rw [List.getElem?_set_ne (Ne.symm hj)] at h2
    exact (r.at_ j b q h1 h2).ex (Ex.mark e0 e1 l nl) rfl
theorem nLv_dead (r : Rel Γ w) {k : Nat} {a : Addr} (e0 : w.ι[k]? = some a) {H' : Hp} : ¬ Wd.Lv ⟨w.ι, w.S.set k .dead, H', w.x⟩ a := fun z => by
  rcases z with ⟨j, q, h1, h2, h3⟩ | z
  rotate_left
  · exact (r.sc a z).2 k e0
  have hj : j = k := r.inj j k a h1 e0
  subst hj
  have h2 : (w.S.set j .dead)[j]? = some q := h2
  by_cases hl : j < w.S.length
  · rw [List.getElem?_set_self hl] at h2; cases h2; cases h3
  · rw [List.getElem?_eq_none (by simpa using hl)] at h2; cases h2
/-! ### what a def leaves behind is dropped where nobody has it -/
def TrimOk (S S' : Sto) : Prop := S.length ≤ S'.length ∧ ∀ (k : Nat) (o : Ob), k < S.length → S'[k]? = some o → S[k]? = some o ∨ o.bel S.length = true
open Classical in
noncomputable def trim (S S' : Sto) : Sto := if TrimOk S S' then S'.take S.length else S'
theorem trim_ok {a : A} {v : V} (r : Rel Γ w) (e : Ex w w') (r' : Rel Γ w') (ok : TrimOk w.S w'.S) : Rel Γ ⟨w.ι, w'.S.take w.S.length, w'.H, w.x⟩ ∧ Ex w ⟨w.ι, w'.S.take w.S.length, w'.H, w.x⟩ ∧ Cut w.S.length w' ⟨w.ι, w'.S.take w.S.length, w'.H, w.x⟩ := by
  have lv : ∀ b, Wd.Lv ⟨w.ι, w'.S.take w.S.length, w'.H, w.x⟩ b → w'.Lv b := fun b z => by
    rcases z with ⟨k, o, h1, h2, h3⟩ | z
    rotate_left
    · exact .inr (e.sx b z).1
    have h2 : (w'.S.take w.S.length)[k]? = some o := h2
    have hk : k < w.S.length := by rw [← r.len]; exact (List.getElem?_eq_some_iff.mp h1).1
    rw [List.getElem?_take_of_lt hk] at h2
    exact .inl ⟨k, o, e.ix k b h1, h2, h3⟩
  have ct : Cut w.S.length w' ⟨w.ι, w'.S.take w.S.length, w'.H, w.x⟩ := ⟨rfl, lv, fun j b hj h => by
    have hj' : j < w.ι.length := by rw [r.len]; exact hj
    have z := e.ix j _ (List.getElem?_eq_getElem hj')
    rw [h] at z
    show w.ι[j]? = some b
    rw [List.getElem?_eq_getElem hj', Option.some.inj z], e.gx.symm⟩
  have ex : Ex w ⟨w.ι, w'.S.take w.S.length, w'.H, w.x⟩ := ⟨rfl, fun b hb => ⟨hb, (e.sx b hb).2⟩, fun _ _ z => z, fun b u n h t => ⟨(e.kp b u n h t).1, fun z => (e.kp b u n h t).2 (lv b z)⟩, fun k o h l => by
    have hk : k < w.S.length := (List.getElem?_eq_some_iff.mp h).1
    show (w'.S.take w.S.length)[k]? = some o
    rw [List.getElem?_take_of_lt hk]
    exact e.lk k o h l, e.fx⟩
  refine ⟨⟨r.g.ex ex r'.g.tb, fun b hb => ⟨?_, (r.sc b hb).2⟩, ?_, r.inj, fun k b o h1 h2 => ?_⟩, ex, ct⟩
  · obtain ⟨⟨o', e', z⟩, _⟩ := r.sc b hb
    exact ⟨o', (e.sx b hb).2.trans e', z⟩
  · show w.ι.length = (w'.S.take w.S.length).length
    rw [List.length_take, r.len]; have := ok.1; omega
  · have hk : k < w.S.length := by rw [← r.len]; exact (List.getElem?_eq_some_iff.mp h1).1
    have h2 : (w'.S.take w.S.length)[k]? = some o := h2
    rw [List.getElem?_take_of_lt hk] at h2
    refine (r'.at_ k b o (e.ix k b h1) h2).cut ct ?_
    rcases ok.2 k o hk h2 with z | z
    · rw [← r.len]
      exact (r.at_ k b o h1 z).bel
    · exact z
end
end FL

/-! ## A1: outcomes, readings of expressions by abstract values -/
namespace FL
open PySem PySem.Spec L2
variable [LT]
/-- what comes of a piece of code: a value and the store; an error of an own class with its fields; nothing is said -/
inductive Rs (α : Type) where
  | ok (a : α) (S : Sto)
  | ex (C : Str) (fs : List (Str × A)) (S : Sto)
  | no
abbrev M (α : Type) := Sto → Rs α
abbrev Lo := List (Option A)
def ret {α : Type} (a : α) : M α := fun S => .ok a S
def fail {α : Type} : M α := fun _ => .no
def bnd {α β : Type} (m : M α) (k : α → M β) : M β := fun S => match m S with
  | .ok a S' => k a S'
  | .ex C fs S' => .ex C fs S'
  | .no => .no
theorem bnd_ok {α β : Type} {m : M α} {k : α → M β} {S S' : Sto} {a : α} (h : m S = .ok a S') : bnd m k S = k a S' := by unfold bnd; rw [h]
theorem bnd_ex {α β : Type} {m : M α} {k : α → M β} {S S' : Sto} {C : Str} {fs : List (Str × A)} (h : m S = .ex C fs S') : bnd m k S = .ex C fs S' := by unfold bnd; rw [h]
theorem bnd_no {α β : Type} {m : M α} {k : α → M β} {S : Sto} (h : m S = .no) : bnd m k S = .no := by unfold bnd; rw [h]
/-- under a condition -/
def guard (c : Prop) [Decidable c] {α : Type} (m : M α) : M α := fun S => if c then m S else .no

section
variable {α β α' β' : Type}
/-- the outcome r from the world w on is what is wanted: Q of a value, W of an error -/
def Out (Γ : Cfg) (W : WX) (σ : L2.St) (R : Wd → α → β → Prop) (w : Wd) (Q : β → Hp → Prop) : Rs α → Prop
  | .ok a S' => ∀ (w' : Wd) (b : β), w'.S = S' → Ex w w' → Rel Γ w' → R w' a b → Q b w'.H
  | .ex C fs S' => ∀ (w' : Wd) (d : Addr), w'.S = S' → Ex w w' → Rel Γ w' → Rv Γ w' (.xd fs) (.ref d) → W (.ref (He.ga Γ.K C)) (some d) σ w'.H
  | .no => False
variable {Γ : Cfg} {W : WX} {σ : L2.St} {R : Wd → α → β → Prop} {R' : Wd → α' → β' → Prop} {w w1 : Wd}
theorem Out.later {Q : β → Hp → Prop} {r : Rs α} (e : Ex w w1) (h : Out Γ W σ R w Q r) : Out Γ W σ R w1 Q r := by
  cases r with
  | ok a S' => exact fun w' b hs e' r' rv => h w' b hs (e.trans e') r' rv
  | ex C fs S' => exact fun w' d hs e' r' rv => h w' d hs (e.trans e') r' rv
  | no => exact h
theorem Out.mono {Q Q' : β → Hp → Prop} {r : Rs α} (h : Out Γ W σ R w Q r) (q : ∀ b H, Q b H → Q' b H) : Out Γ W σ R w Q' r := by
  cases r with
  | ok a S' => exact fun w' b hs e' r' rv => q _ _ (h w' b hs e' r' rv)
  | ex C fs S' => exact h
  | no => exact h
theorem Out.use {Q : β → Hp → Prop} {a : α} {S' : Sto} (h : Out Γ W σ R w Q (.ok a S')) {w' : Wd} {b : β} (hs : w'.S = S') (e : Ex w w') (r : Rel Γ w') (rv : R w' a b) : Q b w'.H := h w' b hs e r rv
/-- nothing but a value -/
theorem Out.here {Q : β → Hp → Prop} {a : α} (h : Out Γ W σ R w Q (.ok a w.S)) (r : Rel Γ w) {b : β} (rv : R w a b) : Q b w.H := h w b rfl Ex.refl r rv
end

/-- the slots -/
def Rl (Γ : Cfg) (w : Wd) (ρ : Lo) (σ : L2.St) : Prop := ρ.length = σ.length ∧ ∀ (i : Nat) (a : A), ρ[i]? = some (some a) → ∃ v, σ[i]? = some (some v) ∧ Rv Γ w a v
theorem Rl.ex {Γ : Cfg} {w w' : Wd} {ρ : Lo} {σ : L2.St} (h : Rl Γ w ρ σ) (e : Ex w w') : Rl Γ w' ρ σ := ⟨h.1, fun i a z => by
  obtain ⟨v, h1, h2⟩ := h.2 i a z
  exact ⟨v, h1, h2.ex e⟩⟩
theorem Rl.set {Γ : Cfg} {w : Wd} {ρ : Lo} {σ : L2.St} (h : Rl Γ w ρ σ) (i : Nat) {a : A} {v : V} (r : Rv Γ w a v) : Rl Γ w (ρ.set i (some a)) (σ.set i (some v)) := by
  refine ⟨by simp [h.1], fun j b z => ?_⟩
  by_cases hj : j = i
  · subst hj
    by_cases hl : j < ρ.length
    · rw [List.getElem?_set_self hl] at z
      cases z
      exact ⟨v, List.getElem?_set_self (by rw [← h.1]; exact hl), r⟩
    · rw [List.getElem?_eq_none (by simpa using hl)] at z; cases z
  · rw [List.getElem?_set_ne (Ne.symm hj)] at z
    obtain ⟨u, h1, h2⟩ := h.2 j b z
    exact ⟨u, by rw [List.getElem?_set_ne (Ne.symm hj)]; exact h1, h2⟩
/-- fewer known -/
theorem Rl.wipe {Γ : Cfg} {w : Wd} {ρ : Lo} {σ : L2.St} (h : Rl Γ w ρ σ) (i : Nat) (x : Option V) : Rl Γ w (ρ.set i none) (σ.set i x) := by
  refine ⟨by simp [h.1], fun j b z => ?_⟩
  by_cases hj : j = i
  · subst hj
    by_cases hl : j < ρ.length
    · rw [List.getElem?_set_self hl] at z; cases z
    · rw [List.getElem?_eq_none (by simpa using hl)] at z; cases z
  · rw [List.getElem?_set_ne (Ne.symm hj)] at z
    obtain ⟨u, h1, h2⟩ := h.2 j b z
    exact ⟨u, by rw [List.getElem?_set_ne (Ne.symm hj)]; exact h1, h2⟩
/-- a lambda that a frame made and has handed on for good: its number k in the store, its code i, its function, its code object, its cells -/
structure LmG where
  k : Nat
  i : Nat
  f : Addr
  c : Addr
  L : Lm
  cl : List (Str × Addr)
structure OwnL (w : Wd) (q : LmG) : Prop where
  ix : w.ι[q.k]? = some q.f
  st : w.S[q.k]? = some (.sfn q.i 0 [])
  hL : LT.lm q.i = some q.L
  hf : w.H q.f = some (LmO q.f q.L q.cl q.c)
  nc : ¬ w.Lv q.c
  hc : w.H q.c = some (LamX.CodeO q.c q.L.qual)
theorem OwnL.ex {w w' : Wd} {q : LmG} (h : OwnL w q) (e : Ex w w') : OwnL w' q :=
  ⟨e.ix _ _ h.ix, e.lk _ _ h.st rfl, h.hL, (e.fx _ _ _ h.st rfl h.ix).trans h.hf, (e.kp.is h.nc h.hc rfl).2, (e.kp.is h.nc h.hc rfl).1⟩
/-- what is known besides: values that stand somewhere, a fact about the slots, lambdas -/
structure Gs where
  l : List (A × V)
  P : L2.St → Prop
  lm : List LmG
abbrev G0 : Gs := ⟨[], fun _ => True, []⟩
structure Sta (Γ : Cfg) (G : Gs) (w : Wd) (ρ : Lo) (σ : L2.St) : Prop where
  rel : Rel Γ w
  loc : Rl Γ w ρ σ
  gh : (∀ p ∈ G.l, Rv Γ w p.1 p.2) ∧ ∀ q ∈ G.lm, OwnL w q
  pr : G.P σ
theorem Sta.ex {Γ : Cfg} {G : Gs} {w w' : Wd} {ρ : Lo} {σ : L2.St} (h : Sta Γ G w ρ σ) (e : Ex w w') (r : Rel Γ w') : Sta Γ G w' ρ σ := ⟨r, h.loc.ex e, ⟨fun p hp => (h.gh.1 p hp).ex e, fun q hq => (h.gh.2 q hq).ex e⟩, h.pr⟩
section
variable {α β α' β' : Type} {Γ : Cfg} {W : WX} {G : Gs} {σ : L2.St} {ρ : Lo} {R : Wd → α → β → Prop} {R' : Wd → α' → β' → Prop} {w : Wd}
/-- the first part of two -/
theorem step {m : M α} {k : α → M α'} {Q : β' → Hp → Prop} {Q' : β → Hp → Prop} (st : Sta Γ G w ρ σ) (o : Out Γ W σ R' w Q (bnd m k w.S))
    (h : ∀ (w1 : Wd) (a : α) (b : β), Sta Γ G w1 ρ σ → Ex w w1 → R w1 a b → Out Γ W σ R' w1 Q (k a w1.S) → Q' b w1.H) : Out Γ W σ R w Q' (m w.S) := by
  cases e : m w.S with
  | ok a S' =>
    rw [bnd_ok e] at o
    intro w1 b hs ex r rv
    subst hs
    exact h w1 a b (st.ex ex r) ex rv (o.later ex)
  | ex C fs S' =>
    rw [bnd_ex e] at o
    exact o
  | no =>
    rw [bnd_no e] at o
    exact o
end

/-! ### readings -/
def aG (Γ : Cfg) (W : WX) (G : Gs) {α β : Type} (R : Wd → α → β → Prop) (m : Lo → M α) : L2.St → Hp → (β → Hp → Prop) → Prop := fun σ H Q => ∃ (w : Wd) (ρ : Lo), w.H = H ∧ Sta Γ G w ρ σ ∧ Out Γ W σ R w Q (m ρ w.S)
def RB : Wd → Bool → Bool → Prop := fun _ a b => a = b
abbrev aE (Γ : Cfg) (W : WX) (G : Gs) (m : Lo → M A) : TE := aG Γ W G (Rv Γ) m
abbrev aT (Γ : Cfg) (W : WX) (G : Gs) (m : Lo → M Bool) : TT := aG Γ W G RB m
abbrev aA (Γ : Cfg) (W : WX) (G : Gs) (m : Lo → M (List A)) : TA := aG Γ W G (Rvs Γ) m
abbrev cf (X : Cx) : Cfg := ⟨X.K, X.mg⟩
def AE (X : Cx) (G : Gs) (e : Expr) (m : Lo → M A) : Prop := ∀ W, Takes X W → PE X e (aE (cf X) W G m)
def AT (X : Cx) (G : Gs) (e : Expr) (m : Lo → M Bool) : Prop := ∀ W, Takes X W → PT X e (aT (cf X) W G m)
def AW (X : Cx) (G : Gs) (e : Expr) (m : Lo → M Bool) : Prop := ∀ W, Takes X W → PW X e (aT (cf X) W G m)
def AA (X : Cx) (G : Gs) (es : List Expr) (m : Lo → M (List A)) : Prop := ∀ W, Takes X W → PA X es (aA (cf X) W G m)
theorem _root_.L2.PE.imp {X : Cx} {e : Expr} {t t' : TE} (h : PE X e t) (i : ∀ σ H Q, t' σ H Q → t σ H Q) : PE X e t' := ⟨fun pins s σ H Q I q => h.run pins s σ H Q I (i σ H Q q)⟩
theorem _root_.L2.PT.imp {X : Cx} {e : Expr} {t t' : TT} (h : PT X e t) (i : ∀ σ H Q, t' σ H Q → t σ H Q) : PT X e t' := ⟨fun pins s σ H Q I q => h.run pins s σ H Q I (i σ H Q q)⟩
theorem _root_.L2.PW.imp {X : Cx} {e : Expr} {t t' : TT} (h : PW X e t) (i : ∀ σ H Q, t' σ H Q → t σ H Q) : PW X e t' := ⟨fun whole pins s σ H Q I q => h.run whole pins s σ H Q I (i σ H Q q)⟩
theorem _root_.L2.PA.imp {X : Cx} {e : List Expr} {t t' : TA} (h : PA X e t) (i : ∀ σ H Q, t' σ H Q → t σ H Q) : PA X e t' := ⟨fun pos pins s σ H Q I q => h.run pos pins s σ H Q I (i σ H Q q)⟩
section
variable {Γ : Cfg} {W : WX} {G : Gs} {α β α' β' : Type} {R : Wd → α → β → Prop} {R' : Wd → α' → β' → Prop}
/-- a part, then the rest -/
theorem aG_step {m : Lo → M α} {k : α → Lo → M α'} {σ : L2.St} {H : Hp} {Q : β' → Hp → Prop} {Q' : β → Hp → Prop} (h : aG Γ W G R' (fun ρ => bnd (m ρ) fun a => k a ρ) σ H Q)
    (q : ∀ (w1 : Wd) (ρ : Lo) (a : α) (b : β), Sta Γ G w1 ρ σ → R w1 a b → Out Γ W σ R' w1 Q (k a ρ w1.S) → Q' b w1.H) : aG Γ W G R m σ H Q' := by
  obtain ⟨w, ρ, rfl, st, o⟩ := h
  exact ⟨w, ρ, rfl, st, step st o fun w1 a b st1 _ rv o1 => q w1 ρ a b st1 rv o1⟩
/-- the whole rest as a reading again -/
theorem aG_of {m : Lo → M α} {ρ : Lo} {w : Wd} {σ : L2.St} {Q : β → Hp → Prop} (st : Sta Γ G w ρ σ) (o : Out Γ W σ R w Q (m ρ w.S)) : aG Γ W G R m σ w.H Q := ⟨w, ρ, rfl, st, o⟩
end

/-! ### expressions -/
def vr (i : Nat) (ρ : Lo) : M A := match ρ[i]? with
  | some (some a) => ret a
  | _ => fail
def cst (a : A) (_ : Lo) : M A := ret a
def op2 (f : A → A → M A) (ma mb : Lo → M A) (ρ : Lo) : M A := bnd (ma ρ) fun a => bnd (mb ρ) fun b => f a b
def op1 (f : A → M A) (ma : Lo → M A) (ρ : Lo) : M A := bnd (ma ρ) fun a => f a
def boolOf : A → M Bool
  | .bl b => ret b
  | _ => fail
def tst (ma : Lo → M A) (ρ : Lo) : M Bool := bnd (ma ρ) boolOf
def notT (m : Lo → M Bool) (ρ : Lo) : M Bool := bnd (m ρ) fun b => ret (!b)
def andT (m n : Lo → M Bool) (ρ : Lo) : M Bool := bnd (m ρ) fun b => if b = true then n ρ else ret false
def orT (m n : Lo → M Bool) (ρ : Lo) : M Bool := bnd (m ρ) fun b => if b = true then ret true else n ρ
def notV (ma : Lo → M A) (ρ : Lo) : M A := bnd (ma ρ) fun a => bnd (boolOf a) fun b => ret (.bl (!b))
def andV (ma mb : Lo → M A) (ρ : Lo) : M A := bnd (ma ρ) fun a => bnd (boolOf a) fun b => if b = true then mb ρ else ret (.bl false)
def orV (ma mb : Lo → M A) (ρ : Lo) : M A := bnd (ma ρ) fun a => bnd (boolOf a) fun b => if b = true then ret (.bl true) else mb ρ
def iteE (m : Lo → M Bool) (ma mb : Lo → M A) (ρ : Lo) : M A := bnd (m ρ) fun b => if b = true then ma ρ else mb ρ
def nilA (_ : Lo) : M (List A) := ret []
def consA (ma : Lo → M A) (mr : Lo → M (List A)) (ρ : Lo) : M (List A) := bnd (ma ρ) fun a => bnd (mr ρ) fun r => ret (a :: r)
/-- a two-place operation -/
structure OpA (X : Cx) (f : Value → Value → Sem Value) (g : A → A → M A) : Prop where
  run : ∀ (W : WX), Takes X W → ∀ (pins : List (Addr × Obj)) (s : Shared) (σ : L2.St) (w : Wd) (a b : A) (x y : V) (v u : Value) (Q : VK), Inv X pins σ w.H s → Rel (cf X) w → Rv (cf X) w a x → Rv (cf X) w b y → RelV x v → RelV y u →
    Out (cf X) W σ (Rv (cf X)) w Q (g a b w.S) → wpAny (model X.prog X.w) X.A (f v u) (EP X pins σ Q) X.xe s
/-- by a rule of the hand layer -/
theorem OpA.of {X : Cx} {f : Value → Value → Sem Value} {g : A → A → M A} {r : R2} (h : OpR X f r) (i : ∀ (W : WX) (σ : L2.St) (w : Wd) (a b : A) (x y : V) (Q : VK), Rel (cf X) w → Rv (cf X) w a x → Rv (cf X) w b y → Out (cf X) W σ (Rv (cf X)) w Q (g a b w.S) → r x y w.H Q) : OpA X f g :=
  ⟨fun W tk pins s σ w a b x y v u Q I rl ra rb rx ry o => h pins s σ w.H x y v u Q I rx ry (i W σ w a b x y Q rl ra rb o)⟩
structure CallA (X : Cx) (f : Value) (g : List A → M A) : Prop where
  run : ∀ (W : WX), Takes X W → ∀ (pins : List (Addr × Obj)) (s : Shared) (σ : L2.St) (w : Wd) (as : List A) (xs : List V) (us : List Value) (Q : VK), Inv X pins σ w.H s → Rel (cf X) w → Rvs (cf X) w as xs → Vals xs us →
    Out (cf X) W σ (Rv (cf X)) w Q (g as w.S) → wpAny (model X.prog X.w) X.A (call f us) (EP X pins σ Q) X.xe s
theorem CallA.of {X : Cx} {f : Value} {g : List A → M A} {r : List V → Hp → VK → Prop} (h : CallR X f r) (i : ∀ (W : WX) (σ : L2.St) (w : Wd) (as : List A) (xs : List V) (Q : VK), Rel (cf X) w → Rvs (cf X) w as xs → Out (cf X) W σ (Rv (cf X)) w Q (g as w.S) → r xs w.H Q) : CallA X f g :=
  ⟨fun W tk pins s σ w as xs us Q I rl ra rx o => h pins s σ w.H xs us Q I rx (i W σ w as xs Q rl ra o)⟩
section
variable {X : Cx} {G : Gs} {a b c e : Expr} {es rest : List Expr} {ma mb mc me : Lo → M A} {mA mB : Lo → M Bool} {ml : Lo → M (List A)} {pos : Pos}
theorem ae_var {i : Nat} {x : Str} (hN : X.N[i]? = some x) (hv : Vis X.env.scope x) (hd : (x == ("__debug__" : Str)) = false := by decide) (hcd : (x == ("__classdict__" : Str)) = false := by decide) : AE X G (.Name x pos) (vr i) := fun W _ =>
  (pe_var (i := i) hN hv hd hcd).imp fun σ H Q h => by
    obtain ⟨w, ρ, rfl, st, o⟩ := h
    unfold vr at o
    cases e : ρ[i]? with
    | none => rw [e] at o; exact o.elim
    | some z =>
      cases z with
      | none => rw [e] at o; exact o.elim
      | some a =>
        rw [e] at o
        obtain ⟨v, h1, h2⟩ := st.loc.2 i a e
        exact ⟨v, h1, o.here st.rel h2⟩
theorem ae_c {v : V} {a : A} (h : PE X e (tC v)) (r : ∀ w, Rv (cf X) w a v) : AE X G e (cst a) := fun W _ => h.imp fun σ H Q q => by
  obtain ⟨w, ρ, rfl, st, o⟩ := q
  exact o.here st.rel (r w)
theorem ae_int {i : Int} {j : Nat} : AE X G (.Constant (.int i) j pos) (cst (.int i)) := ae_c pe_int fun _ => .int i
theorem ae_bl {b : Bool} {j : Nat} : AE X G (.Constant (.bool b) j pos) (cst (.bl b)) := ae_c pe_bl fun _ => .bl b
theorem ae_non {j : Nat} : AE X G (.Constant .none j pos) (cst .non) := ae_c pe_non fun _ => .non
theorem ae_str {x : Str} {j : Nat} : AE X G (.Constant (.str x) j pos) (cst (.str x)) := ae_c pe_str fun _ => .str x
theorem ae_glo {x : Str} {f : Addr} (hg : Gl X x) (hm : X.mg x = some (.ref f)) (hd : (x == ("__debug__" : Str)) = false := by decide) : AE X G (.Name x pos) (cst (.glo x)) := ae_c (v := .ref f) (pe_glob hg hm rfl hd) fun _ => .glo hm
theorem ae_ty {x : Str} {n : String} (hg : Gl X x) (hm : X.mg x = none) (hv : bootBuiltins x = some (.type n)) (hn : x ≠ "__name__" := by decide) (hd : (x == ("__debug__" : Str)) = false := by decide) : AE X G (.Name x pos) (cst (.ty n)) := ae_c (v := .ty n) (pe_bltn hg hm hv rfl hn hd) fun _ => .ty n
/-- two expressions, then something -/
theorem two {W : WX} {f : A → A → M A} {pins : List (Addr × Obj)} {s : Shared} {σ : L2.St} {H : Hp} {Q : VK} {g : Value → Value → Sem Value} (ha : AE X G a ma) (hb : AE X G b mb) (tk : Takes X W) (ho : OpA X g f) (I : Inv X pins σ H s) (h : aE (cf X) W G (op2 f ma mb) σ H Q) :
    wpAny (model X.prog X.w) X.A (eval a X.env) (fun v s₁ => wpAny (model X.prog X.w) X.A (eval b X.env) (fun u s₂ => wpAny (model X.prog X.w) X.A (g v u) (EP X pins σ Q) X.xe s₂) X.xe s₁) X.xe s := by
  refine thn ((ha W tk).run pins s σ H _ I (aG_step (R := Rv (cf X)) (Q' := fun x H1 => aE (cf X) W G mb σ H1 fun y H2 => ∃ w2 a b, w2.H = H2 ∧ Rel (cf X) w2 ∧ Rv (cf X) w2 a x ∧ Rv (cf X) w2 b y ∧ Out (cf X) W σ (Rv (cf X)) w2 Q (f a b w2.S)) h fun w1 ρ a x st1 rv o1 => ?_)) fun v s1 ⟨x, H1, I1, r1, q1⟩ => ?_
  · exact aG_of st1 (step st1 o1 fun w2 b y st2 ex rv2 o2 => ⟨w2, a, b, rfl, st2.rel, rv.ex ex, rv2, o2⟩)
  · refine thn ((hb W tk).run pins s1 σ H1 _ I1 q1) fun u s2 ⟨y, H2, I2, r2, w2, a, b, e, rl, ra, rb, o⟩ => ?_
    subst e
    exact ho.run W tk pins s2 σ w2 a b x y v u Q I2 rl ra rb r1 r2 o
theorem ae_op {op : Operator} {f : A → A → M A} (ho : OpA X (binaryOp op) f) (ha : AE X G a ma) (hb : AE X G b mb) : AE X G (.BinOp a op b pos) (op2 f ma mb) := fun W tk => ⟨fun pins s σ H Q I h => wpAny_BinOp (two ha hb tk ho I h)⟩
theorem ae_cmp {op : CmpOp} {f : A → A → M A} (ho : OpA X (compareOp op) f) (ha : AE X G a ma) (hb : AE X G b mb) (hm : behindInMarks op b = false) : AE X G (.Compare a [op] [b] pos) (op2 f ma mb) := fun W tk => ⟨fun pins s σ H Q I h => wpAny_Compare1 (two ha hb tk ho I h) hm⟩
theorem at_cmp {op : CmpOp} {f : A → A → M A} (ho : OpA X (compareOp op) f) (ha : AE X G a ma) (hb : AE X G b mb) (hm : behindInMarks op b = false) : AT X G (.Compare a [op] [b] pos) (tst (op2 f ma mb)) := fun W tk => ⟨fun pins s σ H Q I h => by
  have h2 : aE (cf X) W G (op2 f ma mb) σ H fun x H' => ∃ k, x = .bl k ∧ Q k H' := aG_step (R := Rv (cf X)) h fun w1 ρ a x st1 rv o => by
    cases rv <;> first | exact o.elim | exact ⟨_, rfl, o.here st1.rel rfl⟩
  refine wpAny_isTrue_Compare1 (wpAny_mono (two ha hb tk ho I h2) (fun v s1 z => wpAny_mono z (fun u s2 z => wpAny_mono z (fun c s3 z => ?_) fun _ _ z => z) fun _ _ z => z) fun _ _ z => z) hm
  obtain ⟨z, H3, I3, r3, k, e, q3⟩ := z
  subst e
  cases r3
  exact wpAny_truthy_bool ⟨H3, I3, q3⟩⟩
theorem at_val (h : AE X G e me) (he : ∀ whole, isTrue e X.env whole = (do let v ← whole; standAt e.pos; holding [v] (truthy v)) := by intro _; rfl) : AT X G e (tst me) := fun W tk => (pt_val (h W tk) he).imp fun σ H Q q => aG_step (R := Rv (cf X)) q fun w1 ρ a x st1 rv o => by
  cases rv <;> first | exact o.elim | exact ⟨_, rfl, o.here st1.rel rfl⟩
theorem at_not (h : AT X G a mA) : AT X G (.UnaryOp .Not a pos) (notT mA) := fun W tk => (pt_not (h W tk)).imp fun σ H Q q => aG_step (R := RB) q fun w1 ρ b c st1 rv o => by
  cases rv
  exact o.here st1.rel rfl
theorem AW.at (h : AW X G e mA) : AT X G e mA := fun W tk => (h W tk).pt
theorem aw_and1 (h : AT X G a mA) : AW X G (.BoolOp .And [a] pos) mA := fun W tk => pw_and1 (h W tk)
theorem aw_or1 (h : AT X G a mA) : AW X G (.BoolOp .Or [a] pos) mA := fun W tk => pw_or1 (h W tk)
theorem aw_and (h : AT X G a mA) (hb : AW X G (.BoolOp .And (b :: rest) pos) mB) : AW X G (.BoolOp .And (a :: b :: rest) pos) (andT mA mB) := fun W tk => (pw_and (h W tk) (hb W tk)).imp fun σ H Q q => aG_step (R := RB) q fun w1 ρ x y st1 rv o => by
  cases rv
  cases x with
  | true => exact aG_of st1 o
  | false => exact o.here st1.rel rfl
theorem aw_or (h : AT X G a mA) (hb : AW X G (.BoolOp .Or (b :: rest) pos) mB) : AW X G (.BoolOp .Or (a :: b :: rest) pos) (orT mA mB) := fun W tk => (pw_or (h W tk) (hb W tk)).imp fun σ H Q q => aG_step (R := RB) q fun w1 ρ x y st1 rv o => by
  cases rv
  cases x with
  | true => exact o.here st1.rel rfl
  | false => exact aG_of st1 o
theorem ae_one {op : BoolOp} (h : AE X G a ma) : AE X G (.BoolOp op [a] pos) ma := fun W tk => pe_one (h W tk)
theorem ae_and (h : AE X G a ma) (hb : AE X G (.BoolOp .And (b :: rest) pos) mb) : AE X G (.BoolOp .And (a :: b :: rest) pos) (andV ma mb) := fun W tk => (pe_and (h W tk) (hb W tk)).imp fun σ H Q q => aG_step (R := Rv (cf X)) q fun w1 ρ x y st1 rv o => by
  cases rv with
  | bl k =>
    refine ⟨k, rfl, ?_⟩
    cases k with
    | true => exact aG_of st1 o
    | false => exact Out.here (R := Rv (cf X)) o st1.rel (.bl false)
  | _ => exact o.elim
theorem ae_or (h : AE X G a ma) (hb : AE X G (.BoolOp .Or (b :: rest) pos) mb) : AE X G (.BoolOp .Or (a :: b :: rest) pos) (orV ma mb) := fun W tk => (pe_or (h W tk) (hb W tk)).imp fun σ H Q q => aG_step (R := Rv (cf X)) q fun w1 ρ x y st1 rv o => by
  cases rv with
  | bl k =>
    refine ⟨k, rfl, ?_⟩
    cases k with
    | true => exact Out.here (R := Rv (cf X)) o st1.rel (.bl true)
    | false => exact aG_of st1 o
  | _ => exact o.elim
theorem ae_not (h : AE X G a ma) : AE X G (.UnaryOp .Not a pos) (notV ma) := fun W tk => (pe_not (h W tk)).imp fun σ H Q q => aG_step (R := Rv (cf X)) q fun w1 ρ x y st1 rv o => by
  cases rv with
  | bl k => exact ⟨k, rfl, Out.here (R := Rv (cf X)) o st1.rel (.bl _)⟩
  | _ => exact o.elim
theorem ae_ite (hc : AT X G c mA) (ha : AE X G a ma) (hb : AE X G b mb) : AE X G (.IfExp c a b pos) (iteE mA ma mb) := fun W tk => (pe_ifExp (hc W tk) (ha W tk) (hb W tk)).imp fun σ H Q q => aG_step (R := RB) q fun w1 ρ x y st1 rv o => by
  cases rv
  cases x with
  | true => exact aG_of st1 o
  | false => exact aG_of st1 o
theorem aa_nil : AA X G [] nilA := fun W _ => pa_nil.imp fun σ H Q q => by
  obtain ⟨w, ρ, rfl, st, o⟩ := q
  exact o.here st.rel .nil
theorem aa_cons (ha : AE X G e me) (hr : AA X G es ml) (hs : starEach (e :: es) X.env = (false, eval e X.env) :: starEach es X.env := by rfl) : AA X G (e :: es) (consA me ml) := fun W tk => (pa_cons (ha W tk) (hr W tk) hs).imp fun σ H Q q => aG_step (R := Rv (cf X)) q fun w1 ρ x y st1 rv o =>
  aG_of st1 (step st1 o fun w2 xs ys st2 ex rv2 o2 => Out.here (R := Rvs (cf X)) o2 st2.rel (.cons (rv.ex ex) rv2))
def tupM (ml : Lo → M (List A)) (ρ : Lo) : M A := bnd (ml ρ) fun xs => guard (xs.length < 100000) (ret (.tup xs))
/-- a list that is taken by value; one that may change -/
def lstF (ml : Lo → M (List A)) (ρ : Lo) : M A := bnd (ml ρ) fun xs => guard (xs.length < 100000) (ret (.fl xs))
def newM (o : Ob) : M A := fun S => .ok (.ref S.length) (S ++ [o])
def lstL (ml : Lo → M (List A)) (ρ : Lo) : M A := bnd (ml ρ) fun xs => guard (xs.length < 100000) (newM (.lst xs))
theorem Rvs.len {Γ : Cfg} {w : Wd} : ∀ {xs : List A} {vs : List V}, Rvs Γ w xs vs → vs.length = xs.length
  | _, _, .nil => rfl
  | _, _, .cons _ t => by rw [List.length_cons, List.length_cons, Rvs.len t]
theorem Out.guard {α β : Type} {Γ : Cfg} {W : WX} {σ : L2.St} {R : Wd → α → β → Prop} {w : Wd} {Q : β → Hp → Prop} {c : Prop} [Decidable c] {m : M α} {S : Sto} (o : Out Γ W σ R w Q (guard c m S)) : c ∧ Out Γ W σ R w Q (m S) := by
  unfold FL.guard at o
  by_cases h : c
  · rw [if_pos h] at o; exact ⟨h, o⟩
  · rw [if_neg h] at o; exact o.elim
theorem Out.tup {Γ : Cfg} {W : WX} {σ : L2.St} {w : Wd} {Q : VK} {xs : List A} {vs : List V} (o : Out Γ W σ (Rv Γ) w Q (.ok (.tup xs) w.S)) (r : Rel Γ w) (rv : Rvs Γ w xs vs) {p : Addr} (hp : w.H p = none) : Q (.ref p) (upd w.H p (.tup vs)) :=
  o.use (w' := ⟨w.ι, w.S, upd w.H p (.tup vs), w.x⟩) rfl (Ex.laid r hp) (r.laid hp) (.tup (fun z => r.fresh hp z) upd_same (rv.ex (Ex.laid r hp)))
theorem Out.fl {Γ : Cfg} {W : WX} {σ : L2.St} {w : Wd} {Q : VK} {xs : List A} {vs : List V} (o : Out Γ W σ (Rv Γ) w Q (.ok (.fl xs) w.S)) (r : Rel Γ w) (rv : Rvs Γ w xs vs) {p : Addr} (hp : w.H p = none) : Q (.ref p) (upd w.H p (.lst vs)) :=
  o.use (w' := ⟨w.ι, w.S, upd w.H p (.lst vs), w.x⟩) rfl (Ex.laid r hp) (r.laid hp) (.fl (fun z => r.fresh hp z) (.inl upd_same) (rv.ex (Ex.laid r hp)))
theorem Out.new {Γ : Cfg} {W : WX} {σ : L2.St} {w : Wd} {Q : VK} {ob : Ob} {u : HO} (o : Out Γ W σ (Rv Γ) w Q (newM ob w.S)) (r : Rel Γ w) {p : Addr} (hp : w.H p = none) (n : ObR Γ ⟨w.ι ++ [p], w.S ++ [ob], upd w.H p u, w.x⟩ p ob) : Q (.ref p) (upd w.H p u) :=
  o.use (w' := ⟨w.ι ++ [p], w.S ++ [ob], upd w.H p u, w.x⟩) rfl (Ex.new r hp) (r.new hp n) (.ref (by show (w.ι ++ [p])[w.S.length]? = some p; rw [← r.len]; simp))
theorem Out.lst {Γ : Cfg} {W : WX} {σ : L2.St} {w : Wd} {Q : VK} {xs : List A} {vs : List V} (o : Out Γ W σ (Rv Γ) w Q (newM (.lst xs) w.S)) (r : Rel Γ w) (rv : Rvs Γ w xs vs) {p : Addr} (hp : w.H p = none) : Q (.ref p) (upd w.H p (.lst vs)) :=
  o.new r hp ⟨vs, upd_same, rv.ex (Ex.new r hp)⟩
theorem Rv.sql {Γ : Cfg} {w : Wd} {xs : List A} {v : V} (h : Rv Γ w (.fl xs) v) : ∃ a vs, v = .ref a ∧ SqL Γ.K w.H a vs ∧ Rvs Γ w xs vs := by
  cases h with
  | fl n h r => exact ⟨_, _, rfl, .inl h, r⟩
theorem Rv.sqs {Γ : Cfg} {w : Wd} {xs : List A} {v : V} (h : Rv Γ w (.scr xs) v) : ∃ a vs, v = .ref a ∧ SqL Γ.K w.H a vs ∧ Rvs Γ w xs vs := by
  cases h with
  | scrF n h r => exact ⟨_, _, rfl, .inl h, r⟩
  | scrK h r => exact ⟨_, _, rfl, .inr h, r⟩
theorem Rv.sqt {Γ : Cfg} {w : Wd} {xs : List A} {v : V} (h : Rv Γ w (.tup xs) v) : ∃ a vs, v = .ref a ∧ ¬ w.Lv a ∧ w.H a = some (.tup vs) ∧ SqT Γ.K w.H a vs ∧ Rvs Γ w xs vs := by
  cases h with
  | tup n h r => exact ⟨_, _, rfl, n, h, SqT.of h, r⟩
theorem ae_tup {k : Nat} (h : AA X G es ml) : AE X G (.Tuple es k pos) (tupM ml) := fun W tk => (pe_tup (h W tk)).imp fun σ H Q q => aG_step (R := Rvs (cf X)) q fun w1 ρ xs ys st1 rv o => by
  obtain ⟨hl, o⟩ := o.guard
  exact ⟨by rw [rv.len]; exact Nat.le_of_lt (szl hl), fun p hp => o.tup st1.rel rv hp⟩
theorem ae_lstF (h : AA X G es ml) : AE X G (.List es pos) (lstF ml) := fun W tk => (pe_lst (h W tk)).imp fun σ H Q q => aG_step (R := Rvs (cf X)) q fun w1 ρ xs ys st1 rv o => by
  obtain ⟨hl, o⟩ := o.guard
  exact ⟨by rw [rv.len]; exact Nat.le_of_lt (szl hl), fun p hp => o.fl st1.rel rv hp⟩
theorem ae_lstL (h : AA X G es ml) : AE X G (.List es pos) (lstL ml) := fun W tk => (pe_lst (h W tk)).imp fun σ H Q q => aG_step (R := Rvs (cf X)) q fun w1 ρ xs ys st1 rv o => by
  obtain ⟨hl, o⟩ := o.guard
  exact ⟨by rw [rv.len]; exact Nat.le_of_lt (szl hl), fun p hp => o.lst st1.rel rv hp⟩
end
end FL

/-! ## A2: statements by abstract values -/
namespace FL
open PySem PySem.Spec L2
variable [LT]
inductive Ou where
  | nx (ρ : Lo) (S : Sto)
  | rt (a : A) (S : Sto)
  | bk (ρ : Lo) (S : Sto)
  | ct (ρ : Lo) (S : Sto)
  | ex (C : Str) (fs : List (Str × A)) (ρ : Lo) (S : Sto)
  | no
abbrev SM := Lo → Sto → Ou
def OutS (Γ : Cfg) (W : WX) (G : Gs) (w : Wd) (D : Ends) : Ou → Prop
  | .nx ρ' S' => ∀ (w' : Wd) (σ' : L2.St), w'.S = S' → Ex w w' → Sta Γ G w' ρ' σ' → D.nx σ' w'.H
  | .rt a S' => ∀ (w' : Wd) (v : V), w'.S = S' → Ex w w' → Rel Γ w' → Rv Γ w' a v → D.rt v w'.H
  | .bk ρ' S' => ∀ (w' : Wd) (σ' : L2.St), w'.S = S' → Ex w w' → Sta Γ G w' ρ' σ' → D.bk σ' w'.H
  | .ct ρ' S' => ∀ (w' : Wd) (σ' : L2.St), w'.S = S' → Ex w w' → Sta Γ G w' ρ' σ' → D.ct σ' w'.H
  | .ex C fs ρ' S' => ∀ (w' : Wd) (d : Addr) (σ' : L2.St), w'.S = S' → Ex w w' → Sta Γ G w' ρ' σ' → Rv Γ w' (.xd fs) (.ref d) → W (.ref (He.ga Γ.K C)) (some d) σ' w'.H
  | .no => False
def aS (Γ : Cfg) (W : WX) (G : Gs) (m : SM) : TS := fun D σ H => ∃ (w : Wd) (ρ : Lo), w.H = H ∧ Sta Γ G w ρ σ ∧ OutS Γ W G w D (m ρ w.S)
def AS (X : Cx) (G : Gs) (st : Stmt) (m : SM) : Prop := ∀ W, Takes X W → PS X st (aS (cf X) W G m)
def ASs (X : Cx) (G : Gs) (sts : List Stmt) (m : SM) : Prop := ∀ W, Takes X W → PSs X sts (aS (cf X) W G m)
theorem _root_.L2.PS.imp {X : Cx} {e : Stmt} {t t' : TS} (h : PS X e t) (i : ∀ D σ H, t' D σ H → t D σ H) : PS X e t' := ⟨fun pins s σ H D I q => h.run pins s σ H D I (i D σ H q)⟩
theorem _root_.L2.PSs.imp {X : Cx} {e : List Stmt} {t t' : TS} (h : PSs X e t) (i : ∀ D σ H, t' D σ H → t D σ H) : PSs X e t' := ⟨fun pins s σ H D I q => h.run pins s σ H D I (i D σ H q)⟩
section
variable {Γ : Cfg} {W : WX} {G : Gs} {w w1 : Wd} {D D' : Ends}
theorem OutS.later {r : Ou} (e : Ex w w1) (h : OutS Γ W G w D r) : OutS Γ W G w1 D r := by
  cases r with
  | nx ρ S => exact fun w' σ' hs e' s => h w' σ' hs (e.trans e') s
  | rt a S => exact fun w' σ' hs e' r' s => h w' σ' hs (e.trans e') r' s
  | bk ρ S => exact fun w' σ' hs e' s => h w' σ' hs (e.trans e') s
  | ct ρ S => exact fun w' σ' hs e' s => h w' σ' hs (e.trans e') s
  | ex C fs ρ S => exact fun w' d σ' hs e' s r => h w' d σ' hs (e.trans e') s r
  | no => exact h
theorem OutS.here {ρ : Lo} {σ : L2.St} (h : OutS Γ W G w D (.nx ρ w.S)) (s : Sta Γ G w ρ σ) : D.nx σ w.H := h w σ rfl Ex.refl s
end
/-! ### combinators -/
def letG {α : Type} (m : Lo → M α) (k : α → SM) : SM := fun ρ S => match m ρ S with
  | .ok a S' => k a ρ S'
  | .ex C fs S' => .ex C fs ρ S'
  | .no => .no
def seqS (m n : SM) : SM := fun ρ S => match m ρ S with
  | .nx ρ' S' => n ρ' S'
  | r => r
def nextS : SM := fun ρ S => .nx ρ S
def brkS : SM := fun ρ S => .bk ρ S
def cntS : SM := fun ρ S => .ct ρ S
def noS : SM := fun _ _ => .no
def retNS : SM := fun _ S => .rt .non S
def retS (m : Lo → M A) : SM := letG m fun a _ S => .rt a S
def dropS (m : Lo → M A) : SM := letG m fun _ ρ S => .nx ρ S
def setS (i : Nat) (m : Lo → M A) : SM := letG m fun a ρ S => .nx (ρ.set i (some a)) S
def ifS (c : Lo → M Bool) (m n : SM) : SM := letG c fun b => if b = true then m else n
/-- a target: what it makes of the slots -/
abbrev Tg := A → Lo → Option Lo
def asgN (i : Nat) : Tg := fun a ρ => some (ρ.set i (some a))
def asgs : List Tg → List A → Lo → Option Lo
  | [], [], ρ => some ρ
  | t :: ts, a :: as, ρ => match t a ρ with
    | some ρ' => asgs ts as ρ'
    | none => none
  | _, _, _ => none
def asgT (ts : List Tg) : Tg := fun a ρ => match a with
  | .tup xs => asgs ts xs ρ
  | _ => none
def asgS (t : Tg) (m : Lo → M A) : SM := letG m fun a ρ S => match t a ρ with
  | some ρ' => .nx ρ' S
  | none => .no
/-- a loop's turn -/
def turn (b : Ou) (k : SM) : Ou := match b with
  | .nx ρ S => k ρ S
  | .ct ρ S => k ρ S
  | .bk ρ S => .nx ρ S
  | r => r
def whileS (c : Lo → M Bool) (b : SM) : Nat → SM
  | 0 => noS
  | n + 1 => letG c fun z ρ S => if z = true then turn (b ρ S) (whileS c b n) else .nx ρ S
def forL (t : Tg) (b : SM) : List A → SM
  | [] => nextS
  | x :: r => fun ρ S => match t x ρ with
    | some ρ' => turn (b ρ' S) (forL t b r)
    | none => .no
def forS (t : Tg) (mi : Lo → M (List A)) (b : SM) : SM := letG mi fun xs => forL t b xs
section
variable {Γ : Cfg} {W : WX} {G : Gs} {w : Wd} {D : Ends} {ρ : Lo} {σ : L2.St}
theorem letG_ok {α : Type} {m : Lo → M α} {k : α → SM} {S S' : Sto} {a : α} (h : m ρ S = .ok a S') : letG m k ρ S = k a ρ S' := by unfold letG; rw [h]
theorem letG_ex {α : Type} {m : Lo → M α} {k : α → SM} {S S' : Sto} {C : Str} {fs : List (Str × A)} (h : m ρ S = .ex C fs S') : letG m k ρ S = .ex C fs ρ S' := by unfold letG; rw [h]
theorem letG_no {α : Type} {m : Lo → M α} {k : α → SM} {S : Sto} (h : m ρ S = .no) : letG m k ρ S = .no := by unfold letG; rw [h]
theorem stepS {α β : Type} {R : Wd → α → β → Prop} {m : Lo → M α} {k : α → SM} {Q : β → Hp → Prop} (st : Sta Γ G w ρ σ) (o : OutS Γ W G w D (letG m k ρ w.S))
    (h : ∀ (w1 : Wd) (a : α) (b : β), Sta Γ G w1 ρ σ → Ex w w1 → R w1 a b → OutS Γ W G w1 D (k a ρ w1.S) → Q b w1.H) : Out Γ W σ R w Q (m ρ w.S) := by
  cases e : m ρ w.S with
  | ok a S' =>
    rw [letG_ok e] at o
    intro w1 b hs ex r rv
    subst hs
    exact h w1 a b (st.ex ex r) ex rv (o.later ex)
  | ex C fs S' =>
    rw [letG_ex e] at o
    intro w1 d hs ex r rv
    exact o w1 d σ hs ex (st.ex ex r) rv
  | no =>
    rw [letG_no e] at o
    exact o
theorem aS_step {α β : Type} {R : Wd → α → β → Prop} {m : Lo → M α} {k : α → SM} {H : Hp} {Q : β → Hp → Prop} (h : aS Γ W G (letG m k) D σ H)
    (q : ∀ (w1 : Wd) (ρ : Lo) (a : α) (b : β), Sta Γ G w1 ρ σ → R w1 a b → OutS Γ W G w1 D (k a ρ w1.S) → Q b w1.H) : aG Γ W G R m σ H Q := by
  obtain ⟨w, ρ, rfl, st, o⟩ := h
  exact ⟨w, ρ, rfl, st, stepS st o fun w1 a b st1 _ rv o1 => q w1 ρ a b st1 rv o1⟩
theorem aS_of {m : SM} (st : Sta Γ G w ρ σ) (o : OutS Γ W G w D (m ρ w.S)) : aS Γ W G m D σ w.H := ⟨w, ρ, rfl, st, o⟩
theorem OutS.seq {m n : SM} (o : OutS Γ W G w D (seqS m n ρ w.S)) : OutS Γ W G w { D with nx := aS Γ W G n D } (m ρ w.S) := by
  unfold seqS at o
  cases e : m ρ w.S with
  | nx ρ' S' =>
    rw [e] at o
    intro w' σ' hs ex st
    subst hs
    exact aS_of st (OutS.later ex o)
  | rt a S => rw [e] at o; exact o
  | bk ρ S => rw [e] at o; exact o
  | ct ρ S => rw [e] at o; exact o
  | ex C fs ρ S => rw [e] at o; exact o
  | no => rw [e] at o; exact o
end
section
variable {X : Cx} {G : Gs} {e c : Expr} {st : Stmt} {ss sa sb : List Stmt} {me : Lo → M A} {mc : Lo → M Bool} {m n : SM} {pos : Pos}
theorem ass_nil : ASs X G [] nextS := fun W _ => pss_nil.imp fun D σ H h => by
  obtain ⟨w, ρ, rfl, s, o⟩ := h
  exact OutS.here o s
theorem ass_cons (h1 : AS X G st m) (h2 : ASs X G ss n) : ASs X G (st :: ss) (seqS m n) := fun W tk => (pss_cons (h1 W tk) (h2 W tk)).imp fun D σ H h => by
  obtain ⟨w, ρ, rfl, s, o⟩ := h
  exact ⟨w, ρ, rfl, s, o.seq⟩
theorem ass_one (h : AS X G st m) : ASs X G [st] m := fun W tk => pss_one (h W tk)
theorem as_pass : AS X G (.Pass pos) nextS := fun W _ => ps_pass.imp fun D σ H h => by
  obtain ⟨w, ρ, rfl, s, o⟩ := h
  exact OutS.here o s
theorem as_break : AS X G (.Break pos) brkS := fun W _ => ps_break.imp fun D σ H h => by
  obtain ⟨w, ρ, rfl, s, o⟩ := h
  exact o w σ rfl Ex.refl s
theorem as_continue : AS X G (.Continue pos) cntS := fun W _ => ps_continue.imp fun D σ H h => by
  obtain ⟨w, ρ, rfl, s, o⟩ := h
  exact o w σ rfl Ex.refl s
theorem as_no : AS X G st noS := fun W _ => ps_never.imp fun D σ H h => by
  obtain ⟨w, ρ, rfl, s, o⟩ := h
  exact o
theorem ass_no : ASs X G ss noS := fun W _ => pss_never.imp fun D σ H h => by
  obtain ⟨w, ρ, rfl, s, o⟩ := h
  exact o
theorem as_retN : AS X G (.Return none pos) retNS := fun W _ => ps_retN.imp fun D σ H h => by
  obtain ⟨w, ρ, rfl, s, o⟩ := h
  exact o w .non rfl Ex.refl s.rel .non
theorem as_ret (h : AE X G e me) : AS X G (.Return (some e) pos) (retS me) := fun W tk => (ps_ret (h W tk)).imp fun D σ H q => aS_step (R := Rv (cf X)) q fun w1 ρ a b st1 rv o => o w1 b rfl Ex.refl st1.rel rv
theorem as_expr (h : AE X G e me) (hs : swapsWith e none pos.line X.env = pure false := by rfl) : AS X G (.Expr e pos) (dropS me) := fun W tk => (ps_expr (h W tk) hs).imp fun D σ H q => aS_step (R := Rv (cf X)) q fun w1 ρ a b st1 rv o => OutS.here o st1
theorem as_if (hc : AT X G c mc) (h1 : ASs X G sa m) (h2 : ASs X G sb n) : AS X G (.If c sa sb pos) (ifS mc m n) := fun W tk => (ps_if (hc W tk) (h1 W tk) (h2 W tk)).imp fun D σ H q => aS_step (R := RB) q fun w1 ρ a b st1 rv o => by
  cases rv
  cases a with
  | true => exact aS_of st1 o
  | false => exact aS_of st1 o
theorem as_set {i : Nat} {x : Str} {pos' : Pos} (hN : X.N.Nodup) (hi : X.N[i]? = some x) (hx : Loc X.env.scope x) (he : AE X G e me) (hs : swapsWith e (some (.Name x pos')) pos.line X.env = pure false := by rfl) (hf : X.fn x = true ∨ X.env.scope.names.lookup x = some .local := by first | exact .inl rfl | exact .inr rfl | assumption) (hP : ∀ σ v, G.P σ → G.P (σ.set i v) := by intros; trivial) :
    AS X G (.Assign [.Name x pos'] e pos) (setS i me) := fun W tk => (ps_set hN hi hx (he W tk) hs hf).imp fun D σ H q => aS_step (R := Rv (cf X)) q fun w1 ρ a b st1 rv o => o w1 _ rfl Ex.refl ⟨st1.rel, st1.loc.set i rv, st1.gh, hP _ _ st1.pr⟩
theorem as_while {b : List Stmt} (n0 : Nat) (hp : PassesOwn (model X.prog X.w) X.A X.env X.xe) (hc : AT X G c mc) (hb : ASs X G b m) : AS X G (.While c b [] pos) (whileS mc m n0) := fun W tk => (ps_while hp (hc W tk) (hb W tk)).imp fun D σ H q => by
  refine ⟨fun k σ H => aS (cf X) W G (whileS mc m k) D σ H, ⟨n0, q⟩, fun k σ H h => ?_⟩
  cases k with
  | zero => obtain ⟨w, ρ, _, _, o⟩ := h; exact o.elim
  | succ k =>
    refine aS_step (R := RB) h fun w1 ρ z z' st1 rv o => ?_
    cases rv
    cases z with
    | false => exact OutS.here o st1
    | true =>
      refine ⟨fun σ' H' => aS (cf X) W G (whileS mc m k) D σ' H', fun σ' H' h' => ⟨k, Nat.lt_succ_self k, h'⟩, w1, ρ, rfl, st1, ?_⟩
      have o : OutS (cf X) W G w1 D (turn (m ρ w1.S) (whileS mc m k)) := o
      cases er : m ρ w1.S with
      | nx ρ' S' => rw [er] at o; intro w' σ' hs ex s; subst hs; exact aS_of s (OutS.later ex o)
      | ct ρ' S' => rw [er] at o; intro w' σ' hs ex s; subst hs; exact aS_of s (OutS.later ex o)
      | bk ρ' S' => rw [er] at o; exact o
      | rt a S' => rw [er] at o; exact o
      | ex C fs ρ' S' => rw [er] at o; exact o
      | no => rw [er] at o; exact o
end
/-! ### targets -/
structure TgA (X : Cx) (tg : Expr) (g : TG) (t : Tg) : Prop where
  pg : PG X tg g
  imp : ∀ (w : Wd) (a : A) (x : V) (ρ ρ1 : Lo) (σ : L2.St) (k : L2.St → Hp → Prop), Rl (cf X) w ρ σ → Rv (cf X) w a x → t a ρ = some ρ1 → (∀ σ1, Rl (cf X) w ρ1 σ1 → k σ1 w.H) → g x σ w.H k
structure TgsA (X : Cx) (tg : List Expr) (g : TGs) (t : List Tg) : Prop where
  pg : PGs X tg g
  imp : ∀ (w : Wd) (as : List A) (xs : List V) (ρ ρ1 : Lo) (σ : L2.St) (k : L2.St → Hp → Prop), Rl (cf X) w ρ σ → Rvs (cf X) w as xs → asgs t as ρ = some ρ1 → (∀ σ1, Rl (cf X) w ρ1 σ1 → k σ1 w.H) → g xs σ w.H k
section
variable {X : Cx} {e : Expr} {es : List Expr} {g : TG} {gs : TGs} {t : Tg} {ts : List Tg} {pos : Pos}
theorem tg_name {i : Nat} {x : Str} (hN : X.N.Nodup) (hi : X.N[i]? = some x) (hx : Loc X.env.scope x) (hf : X.fn x = true ∨ X.env.scope.names.lookup x = some .local := by first | exact .inl rfl | exact .inr rfl | assumption) : TgA X (.Name x pos) (gName i) (asgN i) :=
  ⟨pg_name hN hi hx hf, fun w a x ρ ρ1 σ k rl rv e q => by
    cases e
    exact q _ (rl.set i rv)⟩
theorem tgs_nil : TgsA X [] gNil [] := ⟨pgs_nil, fun w as xs ρ ρ1 σ k rl rv e q => by
  cases rv with
  | nil => cases e; exact ⟨rfl, q _ rl⟩
  | cons _ _ => cases e⟩
theorem tgs_cons (h1 : TgA X e g t) (h2 : TgsA X es gs ts) (hs : (assignEach (e :: es) X.env).map (·.2) = assign e X.env :: (assignEach es X.env).map (·.2) := by rfl) : TgsA X (e :: es) (gCons g gs) (t :: ts) :=
  ⟨pgs_cons h1.pg h2.pg hs, fun w as xs ρ ρ1 σ k rl rv e q => by
    cases rv with
    | nil => cases e
    | @cons a v as vs r rr =>
      unfold asgs at e
      cases et : t a ρ with
      | none => rw [et] at e; cases e
      | some ρ' =>
        rw [et] at e
        exact ⟨v, vs, rfl, h1.imp w a v ρ ρ' σ _ rl r et fun σ1 rl1 => h2.imp w as vs ρ' ρ1 σ1 k rl1 rr e q⟩⟩
theorem asgs_len : ∀ {ts : List Tg} {as : List A} {ρ ρ1 : Lo}, asgs ts as ρ = some ρ1 → as.length = ts.length
  | [], [], _, _, _ => rfl
  | [], _ :: _, _, _, h => by cases h
  | _ :: _, [], _, _, h => by cases h
  | t :: ts, a :: as, ρ, ρ1, h => by
    unfold asgs at h
    cases e : t a ρ with
    | none => rw [e] at h; cases h
    | some ρ' =>
      rw [e] at h
      rw [List.length_cons, List.length_cons, asgs_len h]
theorem tg_tup {k n : Nat} (hc : X.calm = true) (h : TgsA X es gs ts) (hl : ts.length = n := by rfl) (hn : (assignEach es X.env).length = n := by rfl) (hst : (assignEach es X.env).findIdx? (·.1) = none := by rfl) : TgA X (.Tuple es k pos) (gTup X.K n gs) (asgT ts) :=
  ⟨pg_tup hc h.pg hn hst, fun w a x ρ ρ1 σ k rl rv e q => by
    cases rv with
    | @tup p xs vs n1 h1 r1 =>
      have e : asgs ts xs ρ = some ρ1 := e
      exact ⟨p, vs, rfl, SqT.of h1, by rw [r1.len, asgs_len e, hl], h.imp w xs vs ρ ρ1 σ k rl r1 e q⟩
    | _ => cases e⟩
theorem as_asg {G : Gs} {tg : Expr} {me : Lo → M A} (he : AE X G e me) (hg : TgA X tg g t) (hs : swapsWithSole [tg] e pos.line X.env = pure false := by rfl) (hw : swappedStores [tg] e X.env = pure none := by rfl) (h1 : (assignEach [tg] X.env).map (·.2) = [assign tg X.env] := by rfl) (hP : ∀ σ, G.P σ := by intros; trivial) : AS X G (.Assign [tg] e pos) (asgS t me) := fun W tk => (ps_asg (he W tk) hg.pg hs hw h1).imp fun D σ H q => aS_step (R := Rv (cf X)) q fun w1 ρ a b st1 rv o => by
  cases et : t a ρ with
  | none => rw [et] at o; exact o.elim
  | some ρ' =>
    rw [et] at o
    exact hg.imp w1 a b ρ ρ' σ _ st1.loc rv et fun σ1 rl => o w1 σ1 rfl Ex.refl ⟨st1.rel, rl, st1.gh, hP _⟩
end
/-! ### what is walked -/
/-- later; what a comprehension fills may have changed -/
structure Ey (w w' : Wd) : Prop where
  ix : ∀ (j : Nat) (a : Addr), w.ι[j]? = some a → w'.ι[j]? = some a
  kp : Kw w w'
  lk : ∀ (k : Nat) (o : Ob), w.S[k]? = some o → o.lk = true → w'.S[k]? = some o
  gx : w'.x.gs = w.x.gs
theorem Ex.y {w w' : Wd} (e : Ex w w') : Ey w w' := ⟨e.ix, e.kp, e.lk, e.gx⟩
theorem Rv.ey {Γ : Cfg} {w w' : Wd} {a : A} {v : V} (h : Rv Γ w a v) (e : Ey w w') : Rv Γ w' a v := h.mono e.kp.v e.ix
structure Wk (Γ : Cfg) (J : It) (items : List A) (Ok : Wd → Prop) : Prop where
  go : ∀ (w : Wd) (i : Nat), Rel Γ w → Ok w → i < items.length → J.go i w.H
  stop : ∀ (w : Wd), Rel Γ w → Ok w → J.stop items.length w.H
  yld : ∀ (w : Wd) (i : Nat) (x : V) (H' : Hp), Rel Γ w → Ok w → i < items.length → J.yld i w.H x H' → ∃ (w' : Wd) (a : A), w'.H = H' ∧ w'.S = w.S ∧ Ex w w' ∧ Rel Γ w' ∧ items[i]? = some a ∧ Rv Γ w' a x
  ex : ∀ (w w' : Wd), Ok w → Ey w w' → Ok w'
def RI (Γ : Cfg) : Wd → List A → It → Prop := fun w items J => ∃ Ok, Wk Γ J items Ok ∧ Ok w
abbrev aI (Γ : Cfg) (W : WX) (G : Gs) (m : Lo → M (List A)) : TI := aG Γ W G (RI Γ) m
def AI (X : Cx) (G : Gs) (tg iter : Expr) (m : Lo → M (List A)) : Prop := ∀ W, Takes X W → PI X tg iter (aI (cf X) W G m)
theorem _root_.L2.PI.imp {X : Cx} {tg e : Expr} {t t' : TI} (h : PI X tg e t) (i : ∀ σ H Q, t' σ H Q → t σ H Q) : PI X tg e t' := ⟨fun pins s σ H Q I q => h.run pins s σ H Q I (i σ H Q q)⟩
theorem Rvs.get {Γ : Cfg} {w : Wd} : ∀ {xs : List A} {vs : List V} {i : Nat} {v : V}, Rvs Γ w xs vs → vs[i]? = some v → ∃ a, xs[i]? = some a ∧ Rv Γ w a v
  | _, _, _, _, .nil, e => by simp at e
  | _, _, 0, _, .cons r _, e => by simp at e; subst e; exact ⟨_, rfl, r⟩
  | _, _, i + 1, v, .cons _ t, e => by
    obtain ⟨z, h1, h2⟩ := Rvs.get (i := i) (v := v) t (by simpa using e)
    exact ⟨z, by simpa using h1, h2⟩
theorem Rvs.getA {Γ : Cfg} {w : Wd} : ∀ {xs : List A} {vs : List V} {i : Nat} {a : A}, Rvs Γ w xs vs → xs[i]? = some a → ∃ v, vs[i]? = some v ∧ Rv Γ w a v
  | _, _, _, _, .nil, e => by simp at e
  | _, _, 0, _, .cons r _, e => by simp at e; subst e; exact ⟨_, rfl, r⟩
  | _, _, i + 1, v, .cons _ t, e => by
    obtain ⟨z, h1, h2⟩ := Rvs.getA (i := i) (a := v) t (by simpa using e)
    exact ⟨z, by simpa using h1, h2⟩
/-- the items of a list or a tuple that never changes -/
def itemsOf : A → M (List A)
  | .tup xs => ret xs
  | .fl xs => ret xs
  | _ => fail
theorem wk_lst {Γ : Cfg} {a : Addr} {xs : List A} : Wk Γ (Itl Γ.K a) xs (fun w => Rv Γ w (.fl xs) (.ref a)) := by
  refine ⟨fun w i _ h hi => ?_, fun w _ h => ?_, fun w i x H' rl h hi y => ?_, fun w w' h e => h.ey e⟩
  · obtain ⟨p, vs, e, sq, r⟩ := h.sql
    cases e
    obtain ⟨v, hv, _⟩ := r.getA (List.getElem?_eq_getElem hi)
    exact ⟨vs, v, sq, hv⟩
  · obtain ⟨p, vs, e, sq, r⟩ := h.sql
    cases e
    exact ⟨vs, sq, by rw [r.len]; exact Nat.le_refl _⟩
  · obtain ⟨p, vs, e, sq, r⟩ := h.sql
    cases e
    obtain ⟨rfl, y⟩ := y
    obtain ⟨z, h1, h2⟩ := r.get (y vs sq)
    exact ⟨w, z, rfl, rfl, Ex.refl, rl, h1, h2⟩
theorem wk_tup {Γ : Cfg} {a : Addr} {xs : List A} : Wk Γ (Itt Γ.K a) xs (fun w => Rv Γ w (.tup xs) (.ref a)) := by
  refine ⟨fun w i _ h hi => ?_, fun w _ h => ?_, fun w i x H' rl h hi y => ?_, fun w w' h e => h.ey e⟩
  · obtain ⟨p, vs, e, _, _, sq, r⟩ := h.sqt
    cases e
    obtain ⟨v, hv, _⟩ := r.getA (List.getElem?_eq_getElem hi)
    exact ⟨vs, v, sq, hv⟩
  · obtain ⟨p, vs, e, _, _, sq, r⟩ := h.sqt
    cases e
    exact ⟨vs, sq, by rw [r.len]; exact Nat.le_refl _⟩
  · obtain ⟨p, vs, e, _, _, sq, r⟩ := h.sqt
    cases e
    obtain ⟨rfl, y⟩ := y
    obtain ⟨z, h1, h2⟩ := r.get (y vs sq)
    exact ⟨w, z, rfl, rfl, Ex.refl, rl, h1, h2⟩
def rngL (lo : Int) (n : Nat) : List A := (List.range n).map fun (i : Nat) => A.int (lo + (i : Int))
theorem wk_rng {Γ : Cfg} {lo : Int} {n : Nat} : Wk Γ (Itr lo n) (rngL lo n) (fun _ => True) := by
  have hl : (rngL lo n).length = n := by simp [rngL]
  refine ⟨fun w i _ _ hi => by rw [hl] at hi; exact hi, fun w _ _ => by show n ≤ (rngL lo n).length; rw [hl]; exact Nat.le_refl _, fun w i x H' rl _ hi y => ?_, fun _ _ _ _ => trivial⟩
  obtain ⟨rfl, rfl⟩ := y
  rw [hl] at hi
  exact ⟨w, .int (lo + i), rfl, rfl, Ex.refl, rl, by simp [rngL, hi], .int _⟩
def seqI (me : Lo → M A) (ρ : Lo) : M (List A) := bnd (me ρ) itemsOf
def small (i : Int) : Prop := -(2 ^ 62) ≤ i ∧ i < 2 ^ 62
instance (i : Int) : Decidable (small i) := by unfold small; infer_instance
def rng1 (ml : Lo → M (List A)) (ρ : Lo) : M (List A) := bnd (ml ρ) fun
  | [.int j] => guard (small j) (ret (rngL 0 j.toNat))
  | _ => fail
def rng2 (ml : Lo → M (List A)) (ρ : Lo) : M (List A) := bnd (ml ρ) fun
  | [.int i, .int j] => guard (small i ∧ small j) (ret (rngL i (j - i).toNat))
  | _ => fail
section
variable {X : Cx} {G : Gs} {tg e a b : Expr} {me : Lo → M A} {ml : Lo → M (List A)} {pos p : Pos}
/-- a list or a tuple: two rules of the hand layer, by cases -/
theorem PI.or {X : Cx} {tg e : Expr} {t t' : TI} (h : PI X tg e t) (h' : PI X tg e t') : PI X tg e (fun σ H R => t σ H R ∨ t' σ H R) := ⟨fun pins s σ H R I q => q.elim (h.run pins s σ H R I) (h'.run pins s σ H R I)⟩
theorem ai_rng1 (hg : Gl X "range") (hm : X.mg "range" = none) (h : AA X G [a] ml) (hs : starEach [a] X.env = [(false, eval a X.env)] := by rfl) : AI X G tg (.Call (.Name "range" p) [a] [] pos) (rng1 ml) := fun W tk => (pi_range1 hg hm (h W tk) hs).imp fun σ H Q q => aG_step (R := Rvs (cf X)) q fun w1 ρ xs ys st1 rv o => by
  unfold rng1 at *
  match xs, rv, o with
  | [.int j], .cons (.int _) .nil, o =>
    obtain ⟨⟨h1, h2⟩, o⟩ := o.guard
    exact ⟨j, rfl, h1, h2, Out.here (R := RI (cf X)) o st1.rel ⟨_, wk_rng, trivial⟩⟩
theorem ai_rng2 (hg : Gl X "range") (hm : X.mg "range" = none) (h : AA X G [a, b] ml) (hs : starEach [a, b] X.env = [(false, eval a X.env), (false, eval b X.env)] := by rfl) (hs2 : starEach [b] X.env = [(false, eval b X.env)] := by rfl) : AI X G tg (.Call (.Name "range" p) [a, b] [] pos) (rng2 ml) := fun W tk => (pi_range2 hg hm (h W tk) hs hs2).imp fun σ H Q q => aG_step (R := Rvs (cf X)) q fun w1 ρ xs ys st1 rv o => by
  match xs, rv, o with
  | [.int i, .int j], .cons (.int _) (.cons (.int _) .nil), o =>
    obtain ⟨⟨⟨h1, h2⟩, h3, h4⟩, o⟩ := o.guard
    exact ⟨i, j, rfl, ⟨h1, h2, h3, h4⟩, Out.here (R := RI (cf X)) o st1.rel ⟨_, wk_rng, trivial⟩⟩
end
/-- the loop -/
theorem for_imp {Γ : Cfg} {W : WX} {G : Gs} (hP : ∀ σ, G.P σ) {g : TG} {t : Tg} {m : SM} {D : Ends} {J : It} {items : List A} {Ok : Wd → Prop} (imp : ∀ (w : Wd) (a : A) (x : V) (ρ ρ1 : Lo) (σ : L2.St) (k : L2.St → Hp → Prop), Rl Γ w ρ σ → Rv Γ w a x → t a ρ = some ρ1 → (∀ σ1, Rl Γ w ρ1 σ1 → k σ1 w.H) → g x σ w.H k)
    (wk : Wk Γ J items Ok) {w : Wd} {ρ : Lo} {σ : L2.St} (st : Sta Γ G w ρ σ) (ok : Ok w) (o : OutS Γ W G w D (forL t m items ρ w.S)) :
    ∃ W' : Nat → Nat → L2.St → Hp → Prop, (∃ m, W' 0 m σ w.H) ∧ ∀ i k σ H, W' i k σ H → (J.stop i H ∧ D.nx σ H) ∨ (J.go i H ∧ ∃ N : L2.St → Hp → Prop, (∀ σ' H', N σ' H' → ∃ m', m' < k ∧ W' (i + 1) m' σ' H') ∧ ∀ x H', J.yld i H x H' → g x σ H' fun σ2 H2 => aS Γ W G m { D with nx := N, ct := N, bk := D.nx } σ2 H2) := by
  refine ⟨fun i k σ H => k = items.length - i ∧ i ≤ items.length ∧ ∃ (w : Wd) (ρ : Lo), w.H = H ∧ Sta Γ G w ρ σ ∧ Ok w ∧ OutS Γ W G w D (forL t m (items.drop i) ρ w.S), ⟨_, rfl, Nat.zero_le _, w, ρ, rfl, st, ok, by simpa using o⟩, ?_⟩
  rintro i k σ H ⟨rfl, hi, w, ρ, rfl, st, ok, o⟩
  by_cases hlt : i < items.length
  · have ed : items.drop i = items[i] :: items.drop (i + 1) := List.drop_eq_getElem_cons hlt
    rw [ed] at o
    refine .inr ⟨wk.go w i st.rel ok hlt, fun σ' H' => ∃ (w : Wd) (ρ : Lo), w.H = H' ∧ Sta Γ G w ρ σ' ∧ Ok w ∧ OutS Γ W G w D (forL t m (items.drop (i + 1)) ρ w.S), fun σ' H' h' => ⟨items.length - (i + 1), by omega, rfl, hlt, h'⟩, fun x H' y => ?_⟩
    obtain ⟨w', a, rfl, hS, ex, rl, ha, rv⟩ := wk.yld w i x H' st.rel ok hlt y
    rw [List.getElem?_eq_getElem hlt] at ha
    cases ha
    have st' := st.ex ex rl
    have o : OutS Γ W G w' D (forL t m (items[i] :: items.drop (i + 1)) ρ w'.S) := by rw [hS]; exact OutS.later ex o
    unfold forL at o
    cases et : t items[i] ρ with
    | none => rw [et] at o; exact o.elim
    | some ρ1 =>
      rw [et] at o
      refine imp w' _ x ρ ρ1 σ _ st'.loc rv et fun σ1 rl1 => ⟨w', ρ1, rfl, ⟨rl, rl1, st'.gh, hP _⟩, ?_⟩
      have o : OutS Γ W G w' D (turn (m ρ1 w'.S) (forL t m (items.drop (i + 1)))) := o
      have ok' := wk.ex _ _ ok ex.y
      cases er : m ρ1 w'.S with
      | nx ρ' S' => rw [er] at o; intro w2 σ' hs ex2 s; subst hs; exact ⟨w2, _, rfl, s, wk.ex _ _ ok' ex2.y, OutS.later ex2 o⟩
      | ct ρ' S' => rw [er] at o; intro w2 σ' hs ex2 s; subst hs; exact ⟨w2, _, rfl, s, wk.ex _ _ ok' ex2.y, OutS.later ex2 o⟩
      | bk ρ' S' => rw [er] at o; exact o
      | rt a S' => rw [er] at o; exact o
      | ex C fs ρ' S' => rw [er] at o; exact o
      | no => rw [er] at o; exact o
  · have e : i = items.length := by omega
    subst e
    rw [List.drop_length] at o
    exact .inl ⟨wk.stop w st.rel ok, OutS.here o st⟩
theorem as_for {X : Cx} {G : Gs} {tg iter : Expr} {body : List Stmt} {g : TG} {t : Tg} {mi : Lo → M (List A)} {m : SM} {pos : Pos} (hp : PassesOwn (model X.prog X.w) X.A X.env X.xe) (hc : X.calm = true) (hi : AI X G tg iter mi) (hg : TgA X tg g t) (hb : ASs X G body m)
    (hs : ∀ x, foldedSetIterable iter X.env x = pure x := by intro _; rfl) (hP : ∀ σ, G.P σ := by intros; trivial) : AS X G (.For tg iter body [] pos) (forS t mi m) := fun W tk => (ps_for hp hc (hi W tk) hg.pg (hb W tk) hs).imp fun D σ H q => aS_step (R := RI (cf X)) q fun w1 ρ items J st1 ⟨Ok, wk, ok⟩ o => for_imp hP hg.imp wk st1 ok o
end FL

/-! ## A3: defs, calls, methods, instances -/
namespace FL
open PySem PySem.Spec PyProof.Rows L2
variable [LT]
/-! ### what a def hands back -/
noncomputable def fz (S : Sto) : Ou → Rs A
  | .nx _ S' => .ok .non (trim S S')
  | .rt a S' => if a.bel S.length = true then .ok a (trim S S') else .ok a S'
  | .ex C fs _ S' => if belf S.length fs = true then .ex C fs (trim S S') else .ex C fs S'
  | _ => .no
/-- a def of np parameters and nl names -/
noncomputable def fnM (np nl : Nat) (m : SM) (as : List A) : M A := fun S => if as.length = np then fz S (m (as.map some ++ List.replicate (nl - np) none) S) else .no
def outF (Γ : Cfg) (w : Wd) (Q : VK) (E : XK) (r : Rs A) : Prop := Out Γ (fun c d _ H => E c d H) [] (Rv Γ) w Q r
def spA (Γ : Cfg) (F : List A → M A) : Sp := fun vs H Q E => ∃ (w : Wd) (as : List A), w.H = H ∧ Rel Γ w ∧ Rvs Γ w as vs ∧ outF Γ w Q E (F as w.S)
section
variable {Γ : Cfg} {w w' : Wd} {W : WX}
theorem cut_trim {S' : Sto} (r : Rel Γ w) (e : Ex w w') (r' : Rel Γ w') (hs : w'.S = S') : ∃ w2 : Wd, w2.S = trim w.S S' ∧ w2.H = w'.H ∧ Ex w w2 ∧ Rel Γ w2 ∧ (∀ a v, Rv Γ w' a v → a.bel w.S.length = true → Rv Γ w2 a v) := by
  subst hs
  unfold trim
  split
  · rename_i ok
    obtain ⟨h1, h2, h3⟩ := trim_ok (Γ := Γ) (a := .non) (v := .non) r e r' ok
    exact ⟨⟨w.ι, w'.S.take w.S.length, w'.H, w.x⟩, rfl, rfl, h2, h1, fun a v rv hb => rv.cut h3 hb⟩
  · exact ⟨w', rfl, rfl, e, r', fun a v rv _ => rv⟩
theorem fin_ok {Q : VK} {E : XK} {D : Ends} {r : Ou} (rl : Rel Γ w) (hD : D = { nx := fun _ H' => Q .non H', rt := Q }) (o : outF Γ w Q E (fz w.S r)) : OutS Γ (fun c d _ H => E c d H) G0 w D r := by
  subst hD
  cases r with
  | nx ρ S' =>
    intro w' σ' hs e st
    obtain ⟨w2, h1, h2, h3, h4, _⟩ := cut_trim rl e st.rel hs
    have q := o w2 .non h1 h3 h4 .non
    rw [h2] at q
    exact q
  | rt a S' =>
    intro w' v hs e r' rv
    have o : outF Γ w Q E (if a.bel w.S.length = true then .ok a (trim w.S S') else .ok a S') := o
    by_cases hb : a.bel w.S.length = true
    · rw [if_pos hb] at o
      obtain ⟨w2, h1, h2, h3, h4, h5⟩ := cut_trim rl e r' hs
      have q := o w2 v h1 h3 h4 (h5 a v rv hb)
      rw [h2] at q
      exact q
    · rw [if_neg hb] at o
      exact o w' v hs e r' rv
  | bk ρ S' => exact o.elim
  | ct ρ S' => exact o.elim
  | ex C fs ρ S' =>
    intro w' d σ' hs e st rv
    have o : outF Γ w Q E (if belf w.S.length fs = true then .ex C fs (trim w.S S') else .ex C fs S') := o
    by_cases hb : belf w.S.length fs = true
    · rw [if_pos hb] at o
      obtain ⟨w2, h1, h2, h3, h4, h5⟩ := cut_trim rl e st.rel hs
      have q := o w2 d h1 h3 h4 (h5 _ _ rv hb)
      rw [h2] at q
      exact q
    · rw [if_neg hb] at o
      exact o w' d hs e st.rel rv
  | no => exact o
theorem rl_start {as : List A} {vs : List V} {N : List Str} {np : Nat} (h : Rvs Γ w as vs) (hl : as.length = np) : Rl Γ w (as.map some ++ List.replicate (N.length - np) none) (L2.start N vs) := by
  have hl2 : vs.length = np := by rw [h.len, hl]
  refine ⟨by unfold L2.start; simp [hl, hl2], fun i a e => ?_⟩
  by_cases hi : i < as.length
  · rw [List.getElem?_append_left (by simpa using hi), List.getElem?_map] at e
    obtain ⟨x, hx, ex⟩ := Option.map_eq_some_iff.mp e
    cases ex
    obtain ⟨v, hv, rv⟩ := h.getA hx
    refine ⟨v, ?_, rv⟩
    unfold L2.start
    rw [List.getElem?_append_left (by rw [List.length_map, h.len]; exact hi), List.getElem?_map, hv]
    rfl
  · rw [List.getElem?_append_right (by simpa using hi), List.getElem?_replicate] at e
    split at e <;> cases e
end
/-! ### a def of the text -/
abbrev FnK (P : Program) (w : World) (K : PySem.W.Frag) (mg : Str → Option Value) (base : Heap) (n : Nat) (f : Addr) (fd : FuncData) (ps : List Str) (F : List A → M A) : Prop := FnOk P w K mg base (L2.CX P w) n f fd ps (spA ⟨K, mg⟩ F)
/-- called by place -/
structure FnA (P : Program) (w : World) (K : PySem.W.Frag) (mg : Str → Option Value) (base : Heap) (n : Nat) (f : Addr) (F : List A → M A) : Prop where
  ex : ∃ (fd : FuncData) (ps : List Str), FnK P w K mg base n f fd ps F ∧ Binds K fd ps []
theorem spA_len {Γ : Cfg} {np nl : Nat} {m : SM} {vs : List V} {H : Hp} {Q : VK} {E : XK} (h : spA Γ (fnM np nl m) vs H Q E) : vs.length = np := by
  obtain ⟨w, as, _, _, r, o⟩ := h
  unfold fnM at o
  by_cases hl : as.length = np
  · rw [r.len, hl]
  · rw [if_neg hl] at o; exact o.elim
/-- the wish of a def about errors -/
theorem takesF {P : Program} {w : World} {K : PySem.W.Frag} {mg : Str → Option Value} {base : Heap} {N : List Str} {qual : Str} {scope : Scope} {f : Addr} {cdv : Value} {A' : Around} {outer : List Env} {s : Shared} {H : Hp} {E : XK} :
    Takes (cxOf (L2.CX P w) P w K mg base N qual scope f cdv A' outer s H E) (fun cls d _ H => E cls d H) := takes_of rfl rfl rfl rfl
theorem passF {P : Program} {w : World} {K : PySem.W.Frag} {mg : Str → Option Value} {base : Heap} {N : List Str} {qual : Str} {scope : Scope} {f : Addr} {cdv : Value} {A' : Around} {outer : List Env} {s : Shared} {H : Hp} {E : XK} {X : Cx} (hX : X = cxOf (L2.CX P w) P w K mg base N qual scope f cdv A' outer s H E) :
    PassesOwn (model X.prog X.w) X.A X.env X.xe := by subst hX; exact passes_of rfl
/-- the context of a def's body -/
abbrev cxA (P : Program) (w : World) (K : PySem.W.Frag) (mg : Str → Option Value) (base : Heap) (N : List Str) (qual : Str) (st : Stmt) (f : Addr) (cdv : Value) (A' : Around) (outer : List Env) (s : Shared) (H : Hp) (E : XK) : Cx := cxOf (L2.CX P w) P w K mg base N qual (defScope st) f cdv A' outer s H E
theorem fn_A {P : Program} {w : World} {K : PySem.W.Frag} {mg : Str → Option Value} {base : Heap} {k : Nat} {x qual : Str} {st : Stmt} {f : Addr} {fd : FuncData} {N ps : List Str} {m : SM} (F : FnP K x qual st f fd) (S : FnScope N ps (defScope st))
    (b : ∀ (cdv : Value) (A' : Around) (outer : List Env) (s : Shared) (H : Hp) (E : XK), Room k (cxA P w K mg base N qual st f cdv A' outer s H E).A → PassesOwn (model P w) (cxA P w K mg base N qual st f cdv A' outer s H E).A (cxA P w K mg base N qual st f cdv A' outer s H E).env (cxA P w K mg base N qual st f cdv A' outer s H E).xe →
      ASs (cxA P w K mg base N qual st f cdv A' outer s H E) G0 (defBody st) m) :
    FnK P w K mg base (k + 1) f fd ps (fnM ps.length N.length m) := by
  refine F.ok S (fun vs H Q E h => spA_len h) (fun cdv A' outer s H vs Q E hr h => ?_)
  obtain ⟨wd, as, rfl, rl, rv, o⟩ := h
  refine ⟨_, b cdv A' outer s wd.H E hr (passF rfl) _ takesF, ?_⟩
  unfold fnM at o
  by_cases hl : as.length = ps.length
  · rw [if_pos hl] at o
    exact ⟨wd, _, rfl, ⟨rl, rl_start rv hl, ⟨(fun p hp => nomatch hp), (fun q hq => nomatch hq)⟩, trivial⟩, fin_ok rl rfl o⟩
  · rw [if_neg hl] at o; exact o.elim

/-! ### calls -/
section
variable {X : Cx} {G : Gs} {W : WX} {n j : Nat} {f : Addr} {F : List A → M A} {x m : Str} {e o : Expr} {es : List Expr} {ml : Lo → M (List A)} {mo : Lo → M A} {p pos apos : Pos}
theorem run_A {pins : List (Addr × Obj)} {σ : L2.St} {w : Wd} {s : Shared} {Q : VK} {us : List Value} {vs : List V} {as : List A} (c : FnA X.prog X.w X.K X.mg X.base n f F) (hr : Room j X.A) (hn : n ≤ j) (tk : Takes X W) (I : Inv X pins σ w.H s) (rl : Rel (cf X) w) (rv : Rvs (cf X) w as vs) (r : Vals vs us)
    (o : Out (cf X) W σ (Rv (cf X)) w Q (F as w.S)) : wpAny (model X.prog X.w) X.A (call (.ref f) us) (EP X pins σ Q) X.xe s := by
  obtain ⟨fd, ps, fk, b⟩ := c.ex
  exact run_fnS (E := WE W) fk (hr.mono hn) b (passAt tk σ) I r ⟨w, as, rfl, rl, rv, o⟩
/-- a global def that is called by its name -/
structure ClA (P : Program) (w : World) (K : PySem.W.Frag) (mg : Str → Option Value) (base : Heap) (n : Nat) (x : Str) (F : List A → M A) : Prop where
  ex : ∃ f, mg x = some (.ref f) ∧ PySem.W.keepIn K (.ref f) = true ∧ FnA P w K mg base n f F
def callE (F : List A → M A) (ml : Lo → M (List A)) (ρ : Lo) : M A := bnd (ml ρ) F
theorem ae_call (c : ClA X.prog X.w X.K X.mg X.base n x F) (hr : Room j X.A) (hn : n ≤ j) (hg : Gl X x) (ha : AA X G (e :: es) ml) (hdb : (x == ("__debug__" : Str)) = false := by decide) (he : starEach (e :: es) X.env = (false, eval e X.env) :: starEach es X.env := by rfl) (hpl : (backTo pos (starEach es X.env)).any (·.1) = false := by rfl) :
    AE X G (.Call (.Name x p) (e :: es) [] pos) (callE F ml) := fun W tk => ⟨fun pins s σ H Q I h => by
  obtain ⟨f, hm, kp, fa⟩ := c.ex
  refine wpAny_Call_Name_kw (ld_glob I hg hm ?_ hdb)
  refine PySem.W.callWith_K (h₀ := X.base) I.ok.mod.kin kp (thn ((ha W tk).run pos pins s σ H _ I (aG_step (R := Rvs (cf X)) (Q' := fun vs H1 => ∃ w1 as, w1.H = H1 ∧ Rel (cf X) w1 ∧ Rvs (cf X) w1 as vs ∧ Out (cf X) W σ (Rv (cf X)) w1 Q (F as w1.S)) h fun w1 ρ as vs st1 rv o => ⟨w1, as, rfl, st1.rel, rv, o⟩)) fun us s1 ⟨vs, H1, I1, r, w1, as, e1, rl, rv, o⟩ => ⟨I1.kIn, ?_⟩) he hpl
  subst e1
  exact run_A fa hr hn tk I1 rl rv r o⟩
theorem ae_call0 (c : ClA X.prog X.w X.K X.mg X.base n x F) (hr : Room j X.A) (hn : n ≤ j) (hg : Gl X x) (hdb : (x == ("__debug__" : Str)) = false := by decide) : AE X G (.Call (.Name x p) [] [] pos) (callE F nilA) := fun W tk => ⟨fun pins s σ H Q I h => by
  obtain ⟨f, hm, kp, fa⟩ := c.ex
  obtain ⟨w1, ρ, rfl, st, o⟩ := h
  refine wpAny_Call_Name_kw (ld_glob I hg hm ?_ hdb)
  exact PySem.W.callWith_K0 I.kIn kp (run_A (us := []) fa hr hn tk I st.rel .nil .nil o)⟩

/-! ### methods: the class is known when the code runs -/
/-- class and method to a def; what the instances' classes are asked -/
structure MtA (P : Program) (w : World) (K : PySem.W.Frag) (mg : Str → Option Value) (base : Heap) (n : Nat) (mt : Str → Str → Option (List A → M A)) : Prop where
  ex : ∀ C m F, mt C m = some F → Cls K (He.ga K C) ∧ ∃ f, Meth K (He.ga K C) m f ∧ FnA P w K mg base n f F
/-- the class and the attributes of an instance -/
def insOf (a : A) (S : Sto) : Option (Str × List (Str × A)) := match a with
  | .obj C fs => some (C, fs)
  | .ref k => match S[k]? with
    | some (.ins C fs) => some (C, fs)
    | _ => none
  | _ => none
theorem insOf_ok {Γ : Cfg} {w : Wd} {a : A} {v : V} {C : Str} {fs : List (Str × A)} (rl : Rel Γ w) (rv : Rv Γ w a v) (h : insOf a w.S = some (C, fs)) : ∃ p dx fv, v = .ref p ∧ w.H p = some (.ins (He.ga Γ.K C) dx fv) ∧ Rfs Γ w fs fv := by
  cases rv with
  | obj n e r => cases h; exact ⟨_, _, _, rfl, e, r⟩
  | @ref k p e =>
    unfold insOf at h
    cases es : w.S[k]? with
    | none => simp only [es] at h; cases h
    | some ob =>
      simp only [es] at h
      cases ob with
      | ins C' fs' =>
        cases h
        obtain ⟨dx, fv, e1, r⟩ := rl.at_ k p _ e es
        exact ⟨_, _, _, rfl, e1, r⟩
      | _ => cases h
  | _ => cases h
theorem Rfs.look {Γ : Cfg} {w : Wd} (f : Str) : ∀ {fs : List (Str × A)} {fv : List (Str × V)}, Rfs Γ w fs fv → (fs.lookup f = none ∧ fv.lookup f = none) ∨ ∃ a v, fs.lookup f = some a ∧ fv.lookup f = some v ∧ Rv Γ w a v
  | _, _, .nil => .inl ⟨rfl, rfl⟩
  | _, _, @Rfs.cons _ _ g a v as vs h t => by
    by_cases hf : (f == g) = true
    · exact .inr ⟨a, v, by simp only [List.lookup, hf], by simp only [List.lookup, hf], h⟩
    · have hf : (f == g) = false := by simpa using hf
      have ih := Rfs.look f t
      simp only [List.lookup, hf]
      exact ih
/-- o.m(..) -/
def methM (mt : Str → Str → Option (List A → M A)) (m : Str) (a : A) (as : List A) : M A := fun S => match insOf a S with
  | some (C, fs) => match fs.lookup m with
    | none => match mt C m with
      | some F => F (a :: as) S
      | none => .no
    | some _ => .no
  | none => .no
/-- the class is looked at ahead of the arguments, the call comes behind them -/
def methE (mt : Str → Str → Option (List A → M A)) (m : Str) (mo : Lo → M A) (ml : Lo → M (List A)) (ρ : Lo) : M A := bnd (mo ρ) fun a S => match insOf a S with
  | some (C, fs) => match fs.lookup m with
    | none => match mt C m with
      | some F => bnd (ml ρ) (fun as => F (a :: as)) S
      | none => .no
    | some _ => .no
  | none => .no
theorem ae_meth {mt : Str → Str → Option (List A → M A)} {pl : Sem Bool} (c : MtA X.prog X.w X.K X.mg X.base n mt) (hr : Room j X.A) (hn : n ≤ j) (ho : AE X G o mo) (ha : AA X G (e :: es) ml)
    (hst : starEach (e :: es) X.env = (false, eval e X.env) :: starEach es X.env := by rfl) (hpl : (backTo pos (starEach es X.env)).any (·.1) = false := by rfl)
    (ht : eval (.Call (.Attribute o m apos) (e :: es) [] pos) X.env = (do
      let ov ← eval o X.env
      standAt apos.atName
      let (f, first) ← holding [ov] (getMethod ov m pl)
      callWith pos f first (backTo pos (starEach (e :: es) X.env)) (backToKw pos (keywordEach [] X.env))) := by rfl) :
    AE X G (.Call (.Attribute o m apos) (e :: es) [] pos) (methE mt m mo ml) := fun W tk => ⟨fun pins s σ H Q I h => by
  refine PySem.W.methodCall_KW (pl := pl) (thn ((ho W tk).run pins s σ H _ I (aG_step (R := Rv (cf X)) (Q' := fun x H1 => ∃ w1 ρ a C fs F, w1.H = H1 ∧ Sta (cf X) G w1 ρ σ ∧ Rv (cf X) w1 a x ∧ insOf a w1.S = some (C, fs) ∧ fs.lookup m = none ∧ mt C m = some F ∧ Out (cf X) W σ (Rv (cf X)) w1 Q (bnd (ml ρ) (fun as => F (a :: as)) w1.S)) h fun w1 ρ a x st1 rv o => ?_)) fun u s1 ⟨x, H1, I1, rx, w1, ρ, a, C, fs, F, e1, st1, rv, hi, hf, hmt, o⟩ => ?_) ht
  · cases hi : insOf a w1.S with
    | none => simp only [hi] at o; exact o.elim
    | some q =>
      obtain ⟨C, fs⟩ := q
      simp only [hi] at o
      cases hf : fs.lookup m with
      | some _ => simp only [hf] at o; exact o.elim
      | none =>
        simp only [hf] at o
        cases hmt : mt C m with
        | none => simp only [hmt] at o; exact o.elim
        | some F =>
          simp only [hmt] at o
          exact ⟨w1, ρ, a, C, fs, F, rfl, st1, rv, hi, hf, hmt, o⟩
  · subst e1
    obtain ⟨cl, f, hm, fa⟩ := c.ex C m F hmt
    obtain ⟨p, dx, fv, ex, ep, rfs⟩ := insOf_ok st1.rel rv hi
    subst ex
    obtain rfl : u = Value.ref p := rx
    have hl : fv.lookup m = none := by
      rcases rfs.look m with ⟨_, z⟩ | ⟨a, v, z, _⟩
      · exact z
      · rw [hf] at z; cases z
    refine getmeth_ok I1 ep cl hm hl ?_
    refine PySem.W.callWith_K (first := [.ref p]) (h₀ := X.base) I.ok.mod.kin hm.kp (thn ((ha W tk).run pos pins s1 σ w1.H _ I1 (aG_of (Q := fun vs H2 => ∃ w2 as, w2.H = H2 ∧ Rel (cf X) w2 ∧ Rv (cf X) w2 a (.ref p) ∧ Rvs (cf X) w2 as vs ∧ Out (cf X) W σ (Rv (cf X)) w2 Q (F (a :: as) w2.S)) st1 (step st1 o fun w2 as vs st2 ex rvs o2 => ⟨w2, as, rfl, st2.rel, rv.ex ex, rvs, o2⟩))) fun us s2 ⟨vs, H2, I2, r, w2, as, e2, rl2, rv2, rvs2, o2⟩ => ⟨I2.kIn, ?_⟩) hst hpl
    subst e2
    exact run_A (us := .ref p :: us) (vs := .ref p :: vs) fa hr hn tk I2 rl2 (.cons rv2 rvs2) (.cons rfl r) o2⟩
theorem ae_meth0 {mt : Str → Str → Option (List A → M A)} {pl : Sem Bool} (c : MtA X.prog X.w X.K X.mg X.base n mt) (hr : Room j X.A) (hn : n ≤ j) (ho : AE X G o mo)
    (ht : eval (.Call (.Attribute o m apos) [] [] pos) X.env = (do
      let ov ← eval o X.env
      standAt apos.atName
      let (f, first) ← holding [ov] (getMethod ov m pl)
      callWith pos f first (backTo pos (starEach [] X.env)) (backToKw pos (keywordEach [] X.env))) := by rfl) :
    AE X G (.Call (.Attribute o m apos) [] [] pos) (methE mt m mo nilA) := fun W tk => ⟨fun pins s σ H Q I h => by
  refine PySem.W.methodCall_KW (pl := pl) (thn ((ho W tk).run pins s σ H _ I (aG_step (R := Rv (cf X)) (Q' := fun x H1 => ∃ w1 a C fs F, w1.H = H1 ∧ Rel (cf X) w1 ∧ Rv (cf X) w1 a x ∧ insOf a w1.S = some (C, fs) ∧ fs.lookup m = none ∧ mt C m = some F ∧ Out (cf X) W σ (Rv (cf X)) w1 Q (F [a] w1.S)) h fun w1 ρ a x st1 rv o => ?_)) fun u s1 ⟨x, H1, I1, rx, w1, a, C, fs, F, e1, rl, rv, hi, hf, hmt, o⟩ => ?_) ht
  · cases hi : insOf a w1.S with
    | none => simp only [hi] at o; exact o.elim
    | some q =>
      obtain ⟨C, fs⟩ := q
      simp only [hi] at o
      cases hf : fs.lookup m with
      | some _ => simp only [hf] at o; exact o.elim
      | none =>
        simp only [hf] at o
        cases hmt : mt C m with
        | none => simp only [hmt] at o; exact o.elim
        | some F =>
          simp only [hmt] at o
          exact ⟨w1, a, C, fs, F, rfl, st1.rel, rv, hi, hf, hmt, o⟩
  · subst e1
    obtain ⟨cl, f, hm, fa⟩ := c.ex C m F hmt
    obtain ⟨p, dx, fv, ex, ep, rfs⟩ := insOf_ok rl rv hi
    subst ex
    obtain rfl : u = Value.ref p := rx
    have hl : fv.lookup m = none := by
      rcases rfs.look m with ⟨_, z⟩ | ⟨a, v, z, _⟩
      · exact z
      · rw [hf] at z; cases z
    refine getmeth_ok I1 ep cl hm hl ?_
    exact PySem.W.callWith_K0 (first := [.ref p]) I1.kIn hm.kp (run_A (us := [.ref p]) (vs := [.ref p]) fa hr hn tk I1 rl (.cons rv .nil) (.cons rfl .nil) o)⟩
/-! ### attributes -/
/-- the classes and names that are read and stored plainly -/
structure AtA (K : PySem.W.Frag) (at_ : Str → Str → Bool) : Prop where
  ex : ∀ C f, at_ C f = true → Cls K (He.ga K C) ∧ NoAttr K (He.ga K C) f
def fldM (at_ : Str → Str → Bool) (f : Str) (a : A) : M A := fun S => match insOf a S with
  | some (C, fs) => if at_ C f = true then match fs.lookup f with
      | some b => .ok b S
      | none => .no
    else .no
  | none => .no
def fldE (at_ : Str → Str → Bool) (f : Str) (mo : Lo → M A) (ρ : Lo) : M A := bnd (mo ρ) (fldM at_ f)
theorem ae_fld {at_ : Str → Str → Bool} {f : Str} (c : AtA X.K at_) (ho : AE X G o mo) (hb : attributeBase o f X.env (eval o X.env) = eval o X.env := by rfl) : AE X G (.Attribute o f pos) (fldE at_ f mo) := fun W tk => (L2.pe_fld (ho W tk) hb).imp fun σ H Q q => aG_step (R := Rv (cf X)) q fun w1 ρ a x st1 rv o => by
  unfold fldM at o
  cases hi : insOf a w1.S with
  | none => simp only [hi] at o; exact o.elim
  | some q =>
    obtain ⟨C, fs⟩ := q
    simp only [hi] at o
    by_cases ha : at_ C f = true
    · rw [if_pos ha] at o
      cases hf : fs.lookup f with
      | none => simp only [hf] at o; exact o.elim
      | some b =>
        simp only [hf] at o
        obtain ⟨p, dx, fv, ex, ep, rfs⟩ := insOf_ok st1.rel rv hi
        obtain ⟨cl, na⟩ := c.ex C f ha
        rcases rfs.look f with ⟨z, _⟩ | ⟨b', v, z, hv, rb⟩
        · rw [hf] at z; cases z
        · rw [hf] at z
          cases z
          exact ⟨p, _, dx, fv, v, ex, ep, cl, na, hv, o.here st1.rel rb⟩
    · rw [if_neg ha] at o; exact o.elim
def putA (f : Str) (v : A) : List (Str × A) → List (Str × A)
  | [] => [(f, v)]
  | (g, x) :: r => if g = f then (g, v) :: r else (g, x) :: putA f v r
theorem Rfs.put {Γ : Cfg} {w : Wd} (f : Str) {a : A} {v : V} (h : Rv Γ w a v) : ∀ {fs : List (Str × A)} {fv : List (Str × V)}, Rfs Γ w fs fv → Rfs Γ w (putA f a fs) (putF f v fv)
  | _, _, .nil => .cons h .nil
  | _, _, @Rfs.cons _ _ g b u as vs hb t => by
    show Rfs Γ w (if g = f then (g, a) :: as else (g, b) :: putA f a as) (if g = f then (g, v) :: vs else (g, u) :: putF f v vs)
    by_cases hg : g = f
    · rw [if_pos hg, if_pos hg]; exact .cons h t
    · rw [if_neg hg, if_neg hg]; exact .cons hb (Rfs.put f h t)
theorem Rfs.len {Γ : Cfg} {w : Wd} : ∀ {fs : List (Str × A)} {fv : List (Str × V)}, Rfs Γ w fs fv → fv.length = fs.length
  | _, _, .nil => rfl
  | _, _, .cons _ t => by rw [List.length_cons, List.length_cons, Rfs.len t]
/-- o.f = e -/
def putM (at_ : Str → Str → Bool) (f : Str) (b a : A) : Sto → Option Sto := fun S => match a with
  | .ref k => match S[k]? with
    | some (.ins C fs) => if at_ C f = true ∧ fs.length < 100 then some (S.set k (.ins C (putA f b fs))) else none
    | _ => none
  | _ => none
def putS (at_ : Str → Str → Bool) (f : Str) (mo me : Lo → M A) : SM := letG me fun b => letG mo fun a ρ S => match putM at_ f b a S with
  | some S' => .nx ρ S'
  | none => .no
theorem as_fld {at_ : Str → Str → Bool} {f : Str} {me : Lo → M A} {pos' : Pos} (c : AtA X.K at_) (ho : AE X G o mo) (he : AE X G e me) (hs : swapsWith e (some (.Attribute o f pos')) pos.line X.env = pure false := by rfl) : AS X G (.Assign [.Attribute o f pos'] e pos) (putS at_ f mo me) := fun W tk => (ps_fld (ho W tk) (he W tk) hs).imp fun D σ H q => aS_step (R := Rv (cf X)) q fun w1 ρ b y st1 rb o => by
  refine ⟨w1, ρ, rfl, st1, stepS st1 o fun w2 a x st2 ex ra o2 => ?_⟩
  cases ra with
  | @ref k p e =>
    unfold putM at o2
    cases es : w2.S[k]? with
    | none => simp only [es] at o2; exact o2.elim
    | some ob =>
      cases ob with
      | ins C fs =>
        simp only [es] at o2
        by_cases ha : at_ C f = true ∧ fs.length < 100
        · rw [if_pos ha] at o2
          obtain ⟨dx, fv, e1, rf⟩ := st2.rel.at_ k p _ e es
          obtain ⟨cl, na⟩ := c.ex C f ha.1
          refine ⟨p, _, dx, fv, rfl, e1, cl, na, by rw [rf.len]; omega, ?_⟩
          have ex2 := Ex.set st2.rel (ob := .ins C (putA f b fs)) (u := .ins (He.ga X.K C) dx (putF f y fv)) e es rfl rfl
          have rl2 := st2.rel.set (ob := .ins C (putA f b fs)) (u := .ins (He.ga X.K C) dx (putF f y fv)) e es rfl rfl ⟨dx, _, upd_same, Rfs.put f ((rb.ex ex).ex ex2) (rf.ex ex2)⟩
          exact o2 ⟨w2.ι, _, _, w2.x⟩ σ rfl ex2 (st2.ex ex2 rl2)
        · rw [if_neg ha] at o2; exact o2.elim
      | _ => simp only [es] at o2; exact o2.elim
  | _ => exact o2.elim
/-! ### new instances -/
/-- C(..): the instance is made, __init__ is called; a class that is finished then is taken by value -/
noncomputable def mkM (fin : Bool) (C : Str) (init : List A → M A) (as : List A) : M A := fun S => match init (.ref S.length :: as) (S ++ [.ins C []]) with
  | .ok .non S' => if fin = true then match S'[S.length]? with
      | some (.ins C' fs) => if belf S.length fs = true then .ok (.obj C' fs) (trim S (S'.set S.length .dead)) else .no
      | _ => .no
    else .ok (.ref S.length) S'
  | .ok _ _ => .no
  | .ex D fs S' => if belf S.length fs = true then .ex D fs (trim S S') else .ex D fs S'
  | .no => .no
structure MkA (P : Program) (w : World) (K : PySem.W.Frag) (mg : Str → Option Value) (base : Heap) (n : Nat) (C : Str) (init : List A → M A) : Prop where
  ex : mg C = some (.ref (He.ga K C)) ∧ ∃ f, Mk K (He.ga K C) f ∧ FnA P w K mg base n f init
theorem mk_out {Γ : Cfg} {W : WX} {σ : L2.St} {fin : Bool} {C : Str} {init : List A → M A} {as : List A} {vs : List V} {w : Wd} {Q : VK} (rl : Rel Γ w) (rv : Rvs Γ w as vs) (o : Out Γ W σ (Rv Γ) w Q (mkM fin C init as w.S)) {x dx : Addr} (hx : w.H x = none) (hd : w.H dx = none) (hne : dx ≠ x) :
    ∃ (w1 : Wd), w1.H = upd (upd w.H dx (.own x)) x (.ins (He.ga Γ.K C) dx []) ∧ w1.S = w.S ++ [.ins C []] ∧ Rel Γ w1 ∧ Rvs Γ w1 (.ref w.S.length :: as) (.ref x :: vs) ∧ Out Γ W σ (Rv Γ) w1 (fun v H2 => v = .non ∧ Q (.ref x) H2) (init (.ref w.S.length :: as) w1.S) := by
  have r0 := rl.laid (o := .own x) hd
  have e0 := Ex.laid (o := .own x) rl hd
  have hx0 : (upd w.H dx (.own x)) x = none := by rw [upd_ne (Ne.symm hne)]; exact hx
  have r1 : Rel Γ ⟨w.ι ++ [x], w.S ++ [.ins C []], upd (upd w.H dx (.own x)) x (.ins (He.ga Γ.K C) dx []), w.x⟩ := Rel.new (w := ⟨w.ι, w.S, upd w.H dx (.own x), w.x⟩) r0 hx0 ⟨dx, [], upd_same, .nil⟩
  have e1 : Ex w ⟨w.ι ++ [x], w.S ++ [.ins C []], upd (upd w.H dx (.own x)) x (.ins (He.ga Γ.K C) dx []), w.x⟩ := e0.trans (Ex.new (w := ⟨w.ι, w.S, upd w.H dx (.own x), w.x⟩) r0 hx0)
  have hi : (w.ι ++ [x])[w.S.length]? = some x := by rw [← rl.len]; simp
  refine ⟨_, rfl, rfl, r1, .cons (.ref hi) (rv.ex e1), ?_⟩
  unfold mkM at o
  show Out Γ W σ (Rv Γ) _ _ (init (.ref w.S.length :: as) (w.S ++ [.ins C []]))
  cases er : init (.ref w.S.length :: as) (w.S ++ [.ins C []]) with
  | no => rw [er] at o; exact o.elim
  | ex D fs S' =>
    rw [er] at o
    intro w' d hs ex r' rx
    have ex' := e1.trans ex
    dsimp only at o
    by_cases hb : belf w.S.length fs = true
    · rw [if_pos hb] at o
      obtain ⟨w2, h1, h2, h3, h4, h5⟩ := cut_trim rl ex' r' hs
      have q := o w2 d h1 h3 h4 (h5 _ _ rx hb)
      rw [h2] at q
      exact q
    · rw [if_neg hb] at o
      exact o w' d hs ex' r' rx
  | ok b S' =>
    rw [er] at o
    intro w' v hs ex r' rb
    have ex' := e1.trans ex
    cases b <;> first | exact o.elim | skip
    cases rb
    refine ⟨rfl, ?_⟩
    dsimp only at o
    have hi' : w'.ι[w.S.length]? = some x := ex.ix _ _ hi
    cases fin with
    | false =>
      rw [if_neg Bool.false_ne_true] at o
      exact o w' (.ref x) hs ex' r' (.ref hi')
    | true =>
      rw [if_pos rfl] at o
      cases eo : S'[w.S.length]? with
      | none => simp only [eo] at o; exact o.elim
      | some ob =>
        cases ob with
        | ins C' fs =>
          simp only [eo] at o
          by_cases hb : belf w.S.length fs = true
          · rw [if_pos hb] at o
            have eo' : w'.S[w.S.length]? = some (.ins C' fs) := by rw [hs]; exact eo
            obtain ⟨dx', fv, e2, rf⟩ := r'.at_ _ x _ hi' eo'
            have ex3 := Ex.mark (ob := .dead) hi' eo' rfl rfl
            have r3 := r'.mark (ob := .dead) hi' eo' rfl rfl ⟨_, e2, rfl⟩
            obtain ⟨w2, h1, h2, h3, h4, h5⟩ := cut_trim (w' := ⟨w'.ι, w'.S.set w.S.length .dead, w'.H, w'.x⟩) rl (ex'.trans ex3) r3 rfl
            have q := o w2 (.ref x) (by rw [h1, hs]) h3 h4 (h5 _ _ (.obj (nLv_dead r' hi') e2 (rf.ex ex3)) hb)
            rw [h2] at q
            exact q
          · rw [if_neg hb] at o; exact o.elim
        | _ => simp only [eo] at o; exact o.elim
theorem run_mk {pins : List (Addr × Obj)} {σ : L2.St} {w : Wd} {s : Shared} {Q : VK} {us : List Value} {vs : List V} {as : List A} {fin : Bool} {C : Str} {init : List A → M A} (c : MkA X.prog X.w X.K X.mg X.base n C init) (hr : Room j X.A) (hn : n + 1 ≤ j) (tk : Takes X W) (I : Inv X pins σ w.H s) (rl : Rel (cf X) w) (rv : Rvs (cf X) w as vs) (r : Vals vs us)
    (o : Out (cf X) W σ (Rv (cf X)) w Q (mkM fin C init as w.S)) : wpAny (model X.prog X.w) X.A (call (.ref (He.ga X.K C)) us) (EP X pins σ Q) X.xe s := by
  obtain ⟨_, f, mk, fa⟩ := c.ex
  obtain ⟨fd, ps, fk, b⟩ := fa.ex
  obtain ⟨w1, h1, h2, r1, rv1, o1⟩ := mk_out (x := s.heap.objs.size + 1) (dx := s.heap.objs.size) rl rv o (I.hok.fresh (Nat.le_succ _)) (I.hok.fresh (Nat.le_refl _)) (Nat.ne_of_lt (Nat.lt_succ_self _))
  have I2 := Inv.made (C := He.ga X.K C) I
  have hq : spA (cf X) init (.ref (s.heap.objs.size + 1) :: vs) (upd (upd w.H s.heap.objs.size (.own (s.heap.objs.size + 1))) (s.heap.objs.size + 1) (.ins (He.ga X.K C) s.heap.objs.size [])) (fun v H2 => v = .non ∧ Q (.ref (s.heap.objs.size + 1)) H2) (WE W σ) := ⟨w1, _, h1, r1, rv1, o1⟩
  have r2 : Vals (V.ref (s.heap.objs.size + 1) :: vs) (Value.ref (s.heap.objs.size + 1) :: us) := .cons rfl r
  have hl : (Value.ref (s.heap.objs.size + 1) :: us).length = ps.length := by rw [← r2.length]; exact fk.len _ _ _ _ hq
  have bb := b { s with heap := (s.heap.push PySem.W.emptyDict).push (PySem.W.instObj (He.ga X.K C) s.heap.objs.size) } (Value.ref (s.heap.objs.size + 1) :: us) I2.kIn (by rw [List.append_nil]; exact hl)
  rw [List.append_nil] at bb
  refine wpAny_call (make_map (f := f) I.kIn mk.makes mk.init (beq_iff_eq.mp mk.fn) (codeAny_mono (fk.run _ X.stack _ _ ⟨Value.ref (s.heap.objs.size + 1) :: us, []⟩ (Value.ref (s.heap.objs.size + 1) :: us) _ _ (WE W σ) ((hr.mono hn).make (He.ga X.K C) us [])
    (I2.env0.make (He.ga X.K C) us []) bb r2 hq) fun r s' hq' => ?_))
  cases r with
  | error e => exact passAt tk σ pins _ _ e s' I2 hq'
  | ok fl =>
    cases fl with
    | ret u =>
      obtain ⟨v, H', I3, rv', ev, q3⟩ := I2.after hq'
      subst ev
      exact ⟨rv', ⟨V.ref (s.heap.objs.size + 1), H', I3, rfl, q3⟩⟩
    | next => exact False.elim hq'
    | brk => exact False.elim hq'
    | cont => exact False.elim hq'
theorem ae_make {fin : Bool} {C : Str} {init : List A → M A} (c : MkA X.prog X.w X.K X.mg X.base n C init) (hr : Room j X.A) (hn : n + 1 ≤ j) (hg : Gl X C) (ha : AA X G (e :: es) ml) (hdb : (C == ("__debug__" : Str)) = false := by decide) (he : starEach (e :: es) X.env = (false, eval e X.env) :: starEach es X.env := by rfl) (hpl : (backTo pos (starEach es X.env)).any (·.1) = false := by rfl) :
    AE X G (.Call (.Name C p) (e :: es) [] pos) (callE (mkM fin C init) ml) := fun W tk => ⟨fun pins s σ H Q I h => by
  obtain ⟨hm, f, mk, fa⟩ := c.ex
  refine wpAny_Call_Name_kw (ld_glob I hg hm ?_ hdb)
  refine PySem.W.callWith_K (h₀ := X.base) I.ok.mod.kin mk.kp (thn ((ha W tk).run pos pins s σ H _ I (aG_step (R := Rvs (cf X)) (Q' := fun vs H1 => ∃ w1 as, w1.H = H1 ∧ Rel (cf X) w1 ∧ Rvs (cf X) w1 as vs ∧ Out (cf X) W σ (Rv (cf X)) w1 Q (mkM fin C init as w1.S)) h fun w1 ρ as vs st1 rv o => ⟨w1, as, rfl, st1.rel, rv, o⟩)) fun us s1 ⟨vs, H1, I1, r, w1, as, e1, rl, rv, o⟩ => ⟨I1.kIn, ?_⟩) he hpl
  subst e1
  exact run_mk c hr hn tk I1 rl rv r o⟩
theorem ae_make0 {fin : Bool} {C : Str} {init : List A → M A} (c : MkA X.prog X.w X.K X.mg X.base n C init) (hr : Room j X.A) (hn : n + 1 ≤ j) (hg : Gl X C) (hdb : (C == ("__debug__" : Str)) = false := by decide) : AE X G (.Call (.Name C p) [] [] pos) (callE (mkM fin C init) nilA) := fun W tk => ⟨fun pins s σ H Q I h => by
  obtain ⟨hm, f, mk, fa⟩ := c.ex
  obtain ⟨w1, ρ, rfl, st, o⟩ := h
  refine wpAny_Call_Name_kw (ld_glob I hg hm ?_ hdb)
  exact PySem.W.callWith_K0 I.kIn mk.kp (run_mk (us := []) c hr hn tk I st.rel .nil .nil o)⟩
end
end FL

/-! ## A4: super().__init__(..), defs of a class that say it -/
namespace FL
open PySem PySem.Spec PyProof.Rows L2
variable [LT]
/-- a body's statements, looked at where the body runs -/
structure PAs (X : Cx) (body ss : List Stmt) (t : TS) : Prop where
  run : ∀ (pins : List (Addr × Obj)) (s : Shared) (σ : L2.St) (H : Hp) (D : Ends), Inv X pins σ H s → t D σ H → PySem.wpAt (model X.prog X.w) X.A (.func body X.env) (execs ss X.env) (SP X pins D) X.xe s
def AAs (X : Cx) (G : Gs) (body ss : List Stmt) (m : SM) : Prop := ∀ W, Takes X W → PAs X body ss (aS (cf X) W G m)
section
variable {X : Cx} {G : Gs} {body ss : List Stmt} {st : Stmt} {m n : SM}
theorem aas_of (h : ASs X G ss m) : AAs X G body ss m := fun W tk => ⟨fun pins s σ H D I q => PySem.wpAt_of_wpAny ((h W tk).run pins s σ H D I q)⟩
theorem aas_cons (h : AS X G st m) (hs : AAs X G body ss n) : AAs X G body (st :: ss) (seqS m n) := fun W tk => ⟨fun pins s σ H D I q => by
  obtain ⟨w, ρ, rfl, sta, o⟩ := q
  refine ks_wpAt_execs_cons (PySem.wpAt_of_wpAny (wpAny_mono ((h W tk).run pins s σ w.H { D with nx := aS (cf X) W G n D } I ⟨w, ρ, rfl, sta, o.seq⟩) (fun f s' hf => ?_) fun _ _ x => x))
  cases f with
  | next =>
    obtain ⟨σ', H', J, q'⟩ := hf
    exact (hs W tk).run pins s' σ' H' D J q'
  | ret v => exact hf
  | brk => exact hf
  | cont => exact hf⟩
end
/-- what is asked of the class at C, whose next __init__ above it is the def at g -/
structure SupC (K : PySem.W.Frag) (C g : Addr) : Prop where
  sub : PySem.W.mroIn K C (.ref C) = some true
  sup : PySem.W.ks_superIn K C C "__init__" = some (some (.ref g))
  fn : PySem.W.typeIn K (.ref g) = some (.type "function")
  fi : PySem.W.fnIn K g = true
/-- what is asked of the def at f that says super(): its first parameter, its code object, its cell __class__ that holds C -/
structure SupF (P : Program) (K : PySem.W.Frag) (f cda cc C : Addr) (arg : Str) : Prop where
  fd : ∃ oc od fd osl ar, K.lookup f = some ⟨oc, od, .func fd, osl⟩ ∧ (fd.params.posonlyargs ++ fd.params.args).head? = some ar ∧ ar.arg = arg
  code : ∃ ccl cdd vs ccs file tf, K.lookup cda = some ⟨ccl, cdd, .fields vs, ccs⟩ ∧ vs[2]? = some (.str file tf) ∧ ((P.main.file : Str) == file) = true
  cell : ∃ cl cld csl, K.lookup cc = some ⟨cl, cld, .cell (some (.ref C)), csl⟩
  dcl : ∃ cd, PySem.W.clsIn K C = some cd
  stat : PySem.W.nsIn K cStatics "thirdparty.any" = some none
  top : (P.main.scope.names.lookup ("super" : Str)).isSome = false
/-- super().__init__(..), self in the slot i, of the class C -/
def supS (i : Nat) (C : Str) (F : List A → M A) (ml : Lo → M (List A)) : SM := letG (vr i) fun a ρ S => match insOf a S with
  | some (C', _) => if C' = C then dropS (fun ρ => bnd (ml ρ) fun as => F (a :: as)) ρ S else .no
  | none => .no
theorem vr_ok {i : Nat} {ρ : Lo} {S S' : Sto} {a : A} (h : vr i ρ S = .ok a S') : ρ[i]? = some (some a) ∧ S' = S := by
  unfold vr at h
  cases e : ρ[i]? with
  | none => simp only [e] at h; cases h
  | some z =>
    cases z with
    | none => simp only [e] at h; cases h
    | some b => simp only [e] at h; cases h; exact ⟨rfl, rfl⟩
theorem vr_ex {i : Nat} {ρ : Lo} {S S' : Sto} {C : Str} {fs : List (Str × A)} (h : vr i ρ S = .ex C fs S') : False := by
  unfold vr at h
  cases e : ρ[i]? with
  | none => simp only [e] at h; cases h
  | some z =>
    cases z with
    | none => simp only [e] at h; cases h
    | some b => simp only [e] at h; cases h
theorem aas_sup {X : Cx} {G : Gs} {body ss : List Stmt} {n : SM} {i k j : Nat} {f cda cc g : Addr} {arg C : Str} {F : List A → M A} {e : Expr} {es : List Expr} {ml : Lo → M (List A)} {p0 p1 apos cpos pos : Pos} {pl : Sem Bool}
    (S : SupF X.prog X.K f cda cc (He.ga X.K C) arg) (SC : SupC X.K (He.ga X.K C) g) (fa : FnA X.prog X.w X.K X.mg X.base k g F) (hr : Room j X.A) (hk : k ≤ j) (hfu : X.env.func = some f) (hco : X.env.code = .ref cda) (hce : X.env.cells.lookup ("__class__" : Str) = some cc)
    (hg : Gl X "super") (hm : X.mg "super" = none) (hboot : bootBuiltins "super" = some (.type "super")) (hkc : X.env.kindOf "__class__" = some .free) (hN : X.N[i]? = some arg) (hka : X.env.kindOf arg = some .local) (ha : AA X G (e :: es) ml) (hs : AAs X G body ss n)
    (he : starEach (e :: es) X.env = (false, eval e X.env) :: starEach es X.env := by rfl) (hpl : (backTo cpos (starEach es X.env)).any (·.1) = false := by rfl)
    (hi : interactive X.env = false := by rfl) (hsw : swapsWith (.Call (.Attribute (.Call (.Name "super" p0) [] [] p1) "__init__" apos) (e :: es) [] cpos) none pos.line X.env = pure false := by rfl)
    (hev : eval (.Call (.Attribute (.Call (.Name "super" p0) [] [] p1) "__init__" apos) (e :: es) [] cpos) X.env = (do
      let ov ← attributeBase (.Call (.Name "super" p0) [] [] p1) "__init__" X.env (eval (.Call (.Name "super" p0) [] [] p1) X.env)
      standAt apos.atName
      let (f, first) ← holding [ov] (getMethod ov "__init__" pl)
      callWith cpos f first (backTo cpos (starEach (e :: es) X.env)) []) := by rfl) :
    AAs X G body (.Expr (.Call (.Attribute (.Call (.Name "super" p0) [] [] p1) "__init__" apos) (e :: es) [] cpos) pos :: ss) (seqS (supS i C F ml) n) := fun W tk => by
  refine ⟨fun pins s σ H E I q => ?_⟩
  obtain ⟨w, ρ, rfl, sta, o⟩ := q
  obtain ⟨oc, od, fd0, osl, ar, lf, hp, rfl⟩ := S.fd
  obtain ⟨ccl, cdd, vs, ccs, file, tf, lc, hvs, hfile⟩ := S.code
  obtain ⟨cl, cld, csl, lcell⟩ := S.cell
  obtain ⟨cdD, hD⟩ := S.dcl
  have KX : X.K.In s.heap := I.kIn
  -- self
  have oq := o.seq
  unfold supS at oq
  cases ev : vr i ρ w.S with
  | no => rw [letG_no ev] at oq; exact oq.elim
  | ex D fs S' => exact (vr_ex ev).elim
  | ok av S' =>
  rw [letG_ok ev] at oq
  obtain ⟨hav, hS'⟩ := vr_ok ev
  subst hS'
  obtain ⟨sv, hσ, rav⟩ := sta.loc.2 i av hav
  cases hio : insOf av w.S with
  | none => simp only [hio] at oq; exact oq.elim
  | some qq =>
  obtain ⟨C', fs⟩ := qq
  simp only [hio] at oq
  by_cases hC : C' = C
  rotate_left
  · rw [if_neg hC] at oq; exact oq.elim
  rw [if_pos hC] at oq
  subst hC
  obtain ⟨a, dx, fv, rfl, hins, rfs⟩ := insOf_ok sta.rel rav hio
  obtain ⟨mA, O, r, _, _, _⟩ := ins_get I.hok hins
  obtain ⟨odx, J, _⟩ := O.look
  obtain ⟨m, hn, hl⟩ := I.loc
  have hself : m ar.arg = some (.ref a) := by
    obtain ⟨u', ru, l⟩ := hl i ar.arg (.ref a) hN hσ (Or.inl hka)
    cases ru
    rcases l with ⟨_, hm'⟩ | ⟨hk', c, _, _⟩
    · exact hm'
    · rcases hk' with hk' | hk'
      · rw [hka] at hk'
        cases hk'
      · rw [hka] at hk'
        cases hk'
  obtain ⟨oD, hD1, hD2⟩ : ∃ oD, s.heap.get? (He.ga X.K C') = some oD ∧ oD.data = .cls cdD := by
    unfold PySem.W.clsIn at hD
    split at hD
    · rename_i ho
      cases hD
      exact ⟨_, KX _ _ ho, rfl⟩
    · cases hD
  obtain ⟨mb, hb1, hb2⟩ := I.mod.blt
  refine ks_wpAt_execs_cons (ks_wpAt_Expr_any (ks_wpAt_MethodCall (pl := pl) ?_ hev) hi hsw)
  refine ks_wpAt_super_base hg hkc (by decide) hfu (KX _ _ lf) rfl hp hco (KX _ _ lc) rfl hvs hfile S.top ?_
  refine PySem.W.ks_loadName_global I.ok.kind hg (Calls.loadGlobal_builtin (by rw [I.ok.glob]; exact I.mod.glob.keeps I.bk) hm (by rw [I.ok.blt]; exact hb1.keeps I.bk) ((hb2 "super" (by decide)).trans hboot) ⟨rfl, ?_⟩)
  refine wpAny_loadName_free I.ok.kind hkc hce ⟨_, KX _ _ lcell, rfl⟩ ?_
  refine wpAny_loadName_local I.ok.kind hka hn hself ?_
  obtain ⟨hh, gs, dw, tk', os⟩ := s
  refine ks_wpAny_isType_cls hD1 hD2 ⟨rfl, ?_⟩
  refine ks_wpAny_call_super hD1 hD2 J.at_ J.cls (fun c e => ?_) (PySem.W.looks_mroIn KX SC.sub) (fun h1 e1 k1 => ?_)
  · have z := J.no
    unfold PySem.W.notCls at z
    rw [e] at z
    exact Bool.noConfusion z
  have I1 : Inv X pins σ w.H ⟨h1, gs, dw, tk', os⟩ := I.kept (t' := tk') k1
  have KX1 : X.K.In h1 := I1.kIn
  obtain ⟨mA1, O1, _⟩ := ins_get I1.hok hins
  obtain ⟨odx1, J1, _⟩ := O1.look
  have sup := SC.sup
  cases hc : PySem.W.clsIn X.K (He.ga X.K C') with
  | none =>
    unfold PySem.W.ks_superIn at sup
    rw [hc] at sup
    cases sup
  | some cd =>
    unfold PySem.W.ks_superIn at sup
    rw [hc] at sup
    obtain ⟨of, hof, hofc⟩ : ∃ of, h1.get? g = some of ∧ of.cls = .type "function" := by
      have ht : (X.K.lookup g).map (·.cls) = some (.type "function") := SC.fn
      cases z : X.K.lookup g with
      | none =>
        rw [z] at ht
        cases ht
      | some of =>
        rw [z] at ht
        exact ⟨of, KX1 _ _ z, Option.some.inj ht⟩
    refine ks_wpAny_getMethod_super e1 (PySem.W.looks_opaque KX1 S.stat) (l₀ := cd.mro) (fun A' Q' E' s' k' q' => wpAny_bind ((PySem.W.looks_clsIn KX1 hc) A' _ E' s' k' (wpAny_pure q'))) rfl KX1 sup hof hofc (PySem.W.ks_ne KX1 J1 hc) (by decide) ?_
    have hq1 : w.H h1.objs.size = none := I1.hok.fresh (Nat.le_refl _)
    have I2 : Inv X pins σ (upd w.H h1.objs.size (.met g a)) ⟨h1.push { cls := .type "method", data := .fields #[.ref g, .ref a] }, gs, dw, tk' + 1, os⟩ :=
      I1.laid (t' := tk' + 1) (a := h1.objs.size) (o := .met g a) (fun b o z => Heap.get?_push_of_some _ z) (Nat.le_refl _)
        (show (h1.push (PySem.W.methodObj (.ref g) (.ref a))).get? h1.objs.size = some (PySem.W.methodObj (.ref g) (.ref a)) from Heap.get?_push_size h1 rfl)
    show wpAny _ _ (callWith cpos (.ref h1.objs.size) [] (backTo cpos (starEach (e :: es) X.env)) []) _ _ _
    rw [he]
    refine PySem.W.callWith_of (by show ((false || (backTo cpos (starEach es X.env)).any (·.1)) || false) = false; rw [hpl]; rfl) (PySem.W.keeps_M (self := .ref a) SC.fi) (Calls.evalArgs_plain ?_)
    have exq := Ex.laid (o := .met g a) sta.rel hq1
    have rlq := sta.rel.laid (o := .met g a) hq1
    have staq := sta.ex exq rlq
    have oq2 := OutS.later exq oq
    have run := (ha W tk).run cpos pins _ σ _ _ I2 (aG_of (w := ⟨w.ι, w.S, upd w.H h1.objs.size (.met g a), w.x⟩) (m := ml)
      (Q := fun vs H1 => ∃ w3 as, w3.H = H1 ∧ Sta (cf X) G w3 ρ σ ∧ Rv (cf X) w3 av (.ref a) ∧ Rvs (cf X) w3 as vs ∧ H1 h1.objs.size = some (.met g a) ∧ Out (cf X) W σ (Rv (cf X)) w3 (fun _ H2 => aS (cf X) W G n E σ H2) (F (av :: as) w3.S)) staq ?_)
    · rw [he] at run
      refine thn run fun us s3 ⟨vs3, H3, I3, r3, w3, as, e3, sta3, rv3, rvs3, hmet, o3⟩ => ⟨met_P I3 hmet, ?_⟩
      subst e3
      have r4 : Vals (V.ref a :: vs3) (Value.ref a :: us) := .cons rfl r3
      obtain ⟨fd, ps, fk, hb⟩ := fa.ex
      have hsp : spA (cf X) F (V.ref a :: vs3) w3.H (fun _ H2 => aS (cf X) W G n E σ H2) (WE W σ) := ⟨w3, av :: as, rfl, sta3.rel, .cons rv3 rvs3, o3⟩
      have hl4 : (Value.ref a :: us).length = ps.length := by
        rw [← r4.length]
        exact fk.len _ _ _ _ hsp
      have bnd := hb s3 (Value.ref a :: us) I3.kIn (by rw [List.append_nil]; exact hl4)
      rw [List.append_nil] at bnd
      refine wpAny_call (PySem.W.method_call (met_P I3 hmet).1 (codeAny_mono (fk.run X.A X.stack s3 w3.H ⟨Value.ref a :: us, []⟩ (Value.ref a :: us) (V.ref a :: vs3) _ (WE W σ) (hr.mono hk) I3.env0 bnd r4 hsp) fun rr s4 hq4 => ?_))
      cases rr with
      | error er => exact passAt tk σ pins _ _ er s4 I3 hq4
      | ok fl =>
        cases fl with
        | ret u' =>
          obtain ⟨v, H4, I4, rv, q4⟩ := I3.after hq4
          exact (hs W tk).run pins s4 σ H4 E I4 q4
        | next => exact False.elim hq4
        | brk => exact False.elim hq4
        | cont => exact False.elim hq4
    · -- the arguments, then the call
      show Out (cf X) W σ (Rvs (cf X)) ⟨w.ι, w.S, upd w.H h1.objs.size (.met g a), w.x⟩ _ (ml ρ w.S)
      have hmet0 : (upd w.H h1.objs.size (.met g a)) h1.objs.size = some (.met g a) := upd_same
      have nlv : ¬ Wd.Lv ⟨w.ι, w.S, upd w.H h1.objs.size (.met g a), w.x⟩ h1.objs.size := fun z => sta.rel.fresh hq1 z
      cases em : ml ρ w.S with
      | no =>
        have z : OutS (cf X) W G ⟨w.ι, w.S, upd w.H h1.objs.size (.met g a), w.x⟩ { E with nx := aS (cf X) W G n E } (dropS (fun ρ => bnd (ml ρ) fun as => F (av :: as)) ρ w.S) := oq2
        rw [show dropS (fun ρ => bnd (ml ρ) fun as => F (av :: as)) ρ w.S = .no from letG_no (bnd_no em)] at z
        exact z.elim
      | ex D fs' S' =>
        have z : OutS (cf X) W G ⟨w.ι, w.S, upd w.H h1.objs.size (.met g a), w.x⟩ { E with nx := aS (cf X) W G n E } (dropS (fun ρ => bnd (ml ρ) fun as => F (av :: as)) ρ w.S) := oq2
        rw [show dropS (fun ρ => bnd (ml ρ) fun as => F (av :: as)) ρ w.S = .ex D fs' ρ S' from letG_ex (bnd_ex em)] at z
        intro w' d hs' ex' r' rv'
        exact z w' d σ hs' ex' (staq.ex ex' r') rv'
      | ok as S' =>
        intro w' vs' hs' ex' r' rv'
        have z : OutS (cf X) W G ⟨w.ι, w.S, upd w.H h1.objs.size (.met g a), w.x⟩ { E with nx := aS (cf X) W G n E } (dropS (fun ρ => bnd (ml ρ) fun as => F (av :: as)) ρ w.S) := oq2
        have e4 : dropS (fun ρ => bnd (ml ρ) fun as => F (av :: as)) ρ w.S = letG (fun ρ => F (av :: as)) (fun _ ρ S => .nx ρ S) ρ S' := by
          have eb : (fun ρ => bnd (ml ρ) fun as => F (av :: as)) ρ w.S = F (av :: as) S' := bnd_ok em
          unfold dropS letG
          rw [eb]
        rw [e4, ← hs'] at z
        have st' := staq.ex ex' r'
        refine ⟨w', as, rfl, st', (rav.ex exq).ex ex', rv', (ex'.kp.is nlv hmet0 rfl).1, ?_⟩
        exact stepS (R := Rv (cf X)) (m := fun ρ => F (av :: as)) st' (OutS.later ex' z) fun w5 b5 v5 st5 ex5 rv5 o5 => OutS.here o5 st5
/-! ### a def of a class that says super() -/
/-- as it stands behind the top: its one captured cell at cc, its code object at cda -/
structure FunS (K : PySem.W.Frag) (x qual : Str) (st : Stmt) (f cc cda : Addr) (fd : FuncData) : Prop where
  ex : ∃ (oc : Value) (od : Option Addr) (kV doc pm : Value) (an : Option Addr) (ct : Value) (osl : Array (Option Value)),
    fd = PySem.W.fnX x qual (defArgs st) (defBody st) (defScope st) [("__class__", cc)] .none kV doc pm an (.ref cda) ct ∧ K.lookup f = some ⟨oc, od, .func fd, osl⟩
  code : PySem.W.codeIn K (.ref cda) qual = true
  cell : ∃ cl cld csl v, K.lookup cc = some ⟨cl, cld, .cell v, csl⟩
abbrev nfS (x qual : Str) (st : Stmt) (cc cda : Addr) : NdefX.NF := ⟨x, qual, defArgs st, defBody st, defScope st, [("__class__", cc)], cda⟩
abbrev cxS (P : Program) (w : World) (K : PySem.W.Frag) (mg : Str → Option Value) (base : Heap) (N : List Str) (x qual : Str) (st : Stmt) (f cc cda : Addr) (A' : Around) (outer : List Env) (s : Shared) (H : Hp) (E : XK) : Cx := NdefX.ncx (L2.CX P w) P w K mg base N (nfS x qual st cc cda) f A' outer s H E
theorem fn_S {P : Program} {w : World} {K : PySem.W.Frag} {mg : Str → Option Value} {base : Heap} {k : Nat} {x qual : Str} {st : Stmt} {f cc cda : Addr} {fd : FuncData} {N ps : List Str} {m : SM} (F : FunS K x qual st f cc cda fd) (S : NdefX.NScope N ps ["__class__"] (defScope st))
    (b : ∀ (A' : Around) (outer : List Env) (s : Shared) (H : Hp) (E : XK), Room k (cxS P w K mg base N x qual st f cc cda A' outer s H E).A →
      AAs (cxS P w K mg base N x qual st f cc cda A' outer s H E) G0 (defBody st) (defBody st) m) :
    FnK P w K mg base (k + 1) f fd ps (fnM ps.length N.length m) := by
  refine ⟨fun vs H Q E h => spA_len h, fun A' outer s H args us vs Q E hr e0 hb r hsp => ?_⟩
  have hl := spA_len hsp
  have KX : K.In s.heap := e0.mod.kin.keeps fun b o e => (e0.bs b o e).1
  have lim : s.heap.NoLimit := e0.mod.nolimit.keeps fun b o e => (e0.bs b o e).1
  obtain ⟨oc, od, kV, doc, pm, an, ct, osl, rfl, lk⟩ := F.ex
  obtain ⟨cl, cld, csl, cv, lcell⟩ := F.cell
  refine ks_codeAny_call_defAt hr.depth (KX _ _ lk) rfl lim (PySem.W.codeRec_of KX F.code) rfl hb S.nocell (fun ⟨n, _⟩ hy => S.par n (List.of_mem_zip hy).1) (fun h₁ hns kp => ?_) S.co S.gen S.kind
  have C : NdefX.CellsAt [("__class__", cc)] ["__class__"] [none] s.heap H := by
    refine ⟨rfl, fun y c e => ?_, fun y z c e1 e2 => ?_, fun i y e => ?_⟩
    · have hc : c = cc := by
        by_cases hy : (y == ("__class__" : Str)) = true
        · simp only [List.lookup, hy] at e; exact (Option.some.inj e).symm
        · have hy : (y == ("__class__" : Str)) = false := by simpa using hy
          simp only [List.lookup, hy] at e; cases e
      subst hc
      exact ⟨(e0.bs c _ (e0.mod.kin _ _ lcell)).2, cv, _, KX _ _ lcell, rfl⟩
    · have f1 : ∀ {y : Str}, List.lookup y [(("__class__" : Str), cc)] = some c → y = "__class__" := fun {y} e => by
        by_cases hy : (y == ("__class__" : Str)) = true
        · exact beq_iff_eq.mp hy
        · have hy : (y == ("__class__" : Str)) = false := by simpa using hy
          simp only [List.lookup, hy] at e; cases e
      rw [f1 e1, f1 e2]
    · cases i with
      | zero =>
        simp at e
        subst e
        refine ⟨cc, by simp [List.lookup], fun v hv => ?_⟩
        simp at hv
      | succ i => simp at e
  have I : Inv (cxS P w K mg base N x qual st f cc cda A' outer s H E) [] (NdefX.startF N vs [none]) H { s with heap := h₁, toks := s.toks + (ps.zip us).length } := NdefX.inv_startN S hr.hd e0 hl r C hns kp
  obtain ⟨wd, as, rfl, rl, rv, o⟩ := hsp
  unfold fnM at o
  have hl' : as.length = ps.length := by rw [← rv.len]; exact hl
  rw [if_pos hl'] at o
  have hpl : ps.length + 1 ≤ N.length := by
    have q := congrArg List.length S.pre
    rw [List.length_take, List.length_append] at q
    simp at q
    omega
  have tk : Takes (cxS P w K mg base N x qual st f cc cda A' outer s wd.H E) (fun cls d _ H => E cls d H) := takes_of rfl rfl rfl rfl
  have st0 : Rl ⟨K, mg⟩ wd (as.map some ++ List.replicate (N.length - ps.length) none) (NdefX.startF N vs [none]) := by
    have q := rl_start (N := N) rv hl'
    have e : NdefX.startF N vs [none] = L2.start N vs := by
      unfold NdefX.startF L2.start
      have : N.length - vs.length = (N.length - vs.length - 1) + 1 := by omega
      rw [this, List.replicate_succ]
      rfl
    rw [e]
    exact q
  have run := (b A' outer s wd.H E (hr.deeper _) _ tk).run [] { s with heap := h₁, toks := s.toks + (ps.zip us).length } (NdefX.startF N vs [none]) wd.H { nx := fun _ H' => Q .non H', rt := Q } I ⟨wd, _, rfl, ⟨rl, st0, ⟨(fun p hp => nomatch hp), (fun q hq => nomatch hq)⟩, trivial⟩, fin_ok rl rfl o⟩
  refine PySem.wpAt_mono run (fun fl s' hs => ?_) fun e s' hs => hs
  have fin : ∀ {σ' : L2.St} {H' : Hp} {v : V} {u : Value}, Inv (cxS P w K mg base N x qual st f cc cda A' outer s wd.H E) [] σ' H' s' → L2.RelV v u → Q v H' → CE outer P w wd.H s Q u s' :=
    fun {σ' H' v u} J rv q => ⟨v, H', J.os, J.bare, J.base, J.hok, rv, q⟩
  cases fl with
  | ret u =>
    obtain ⟨v, σ', H', J, rv, q⟩ := hs
    exact fin J rv q
  | next =>
    obtain ⟨σ', H', J, q⟩ := hs
    exact fin (v := V.non) (u := Value.none) J rfl q
  | brk =>
    obtain ⟨_, _, _, q⟩ := hs
    exact False.elim q
  | cont =>
    obtain ⟨_, _, _, q⟩ := hs
    exact False.elim q
end FL

/-! ## A5: own operators -/
namespace FL
open PySem PySem.Spec PyProof.Rows L2 PySem.W
variable [LT]
section
variable {prog : Program} {w : World} {A' : Around} {E : Value → Shared → Prop} {s : Shared} {K : Frag} {x y C D L f f2 : Addr} {h₀ : Heap} {m : Str → Option Value} {ox oy : Obj} {od od2 : Option Obj}
/-- two instances of own classes, neither above the other, both with the def -/
theorem binO {op : Operator} {Q : Value → Shared → Prop} (F : Fr h₀ L s.heap m) (X₀ : K.In h₀) (I : InstAt s.heap x ox C od) (J : InstAt s.heap y oy D od2) (hCD : C ≠ D) (hc : selfFirst K C = true) (hd : selfFirst K D = true)
    (hs : findIn K (.ref C) (PySem.dunder op.info.2) = some (some (.ref f))) (hf : isFn K (.ref f) = true) (hr : findIn K (.ref C) (dunderR op.info.2) = some none)
    (hs2 : findIn K (.ref D) (PySem.dunder op.info.2) = some (some (.ref f2))) (hr2 : findIn K (.ref D) (dunderR op.info.2) = some none) (hsub : subIn K (.ref D) (.ref C) = some false)
    (h : wpAny (model prog w) A' (call (.ref f) [.ref x, .ref y]) (PySem.W.CmpBack Q) E s) : wpAny (model prog w) A' (binaryOp op (.ref x) (.ref y)) Q E s := by
  have X := X₀.keeps F.keep
  obtain ⟨cd, rest, hcd, hm⟩ := ksp_first hc
  obtain ⟨cd2, rest2, hcd2, hm2⟩ := ksp_first hd
  rcases hi : op.info with ⟨sym, nm'⟩
  rw [hi] at hs hr hs2 hr2
  dsimp only at hs hr hs2 hr2
  have one := ksp_try X I hs hf h
  obtain ⟨hh, g, d, tt, os⟩ := s
  have L1 : Looks (model prog w) hh (typeOf (.ref x)) (.ref C) := I.type
  have L2 : Looks (model prog w) hh (typeOf (.ref y)) (.ref D) := J.type
  have L3 : Looks (model prog w) hh (fillsNumberSlot (.ref C) nm') true := fills_K X hcd hm hs
  have L4 : Looks (model prog w) hh (fillsNumberSlot (.ref D) nm') true := fills_K X hcd2 hm2 hs2
  have L5 : Looks (model prog w) hh (isSubtype (.ref D) (.ref C)) false := looks_subIn X hsub
  have L6 : Looks (model prog w) hh (numberSlotInPython (.ref C) nm') true := ksp_inPy X hs hr (.inl rfl)
  have L7 : Looks (model prog w) hh (numberSlotInPython (.ref D) nm') true := ksp_inPy X hs2 hr2 (.inl rfl)
  have hne : (Value.ref C == Value.ref D) = false := Bool.eq_false_iff.mpr fun q => hCD (by cases beq_iff_eq.mp q; rfl)
  simp only [binaryOp, hi]
  refine wpAny_holding (wpAny_bind ?_)
  unfold binaryOp1
  refine wpAny_bind (L1.at (wpAny_bind (L2.at (wpAny_bind (L3.at ?_)))))
  simp only [hne, Bool.false_eq_true, if_false]
  ksp_lk
  refine wpAny_mono one (fun r s' hr' => ?_) fun _ _ e => e
  obtain ⟨v, rfl, hq⟩ := hr'
  ksp_lk
  exact hq
end
/-- what the classes with the operator's def are asked; T: a built-in type on the right -/
structure OwA (P : Program) (w : World) (K : PySem.W.Frag) (mg : Str → Option Value) (base : Heap) (n : Nat) (op : Operator) (ow : Str → Option (List A → M A)) : Prop where
  ex : ∀ C F, ow C = some F → selfFirst K (He.ga K C) = true ∧ findIn K (.ref (He.ga K C)) (dunderR op.info.2) = some none ∧ ∃ f, findIn K (.ref (He.ga K C)) (PySem.dunder op.info.2) = some (some (.ref f)) ∧ isFn K (.ref f) = true ∧ FnA P w K mg base n f F
  two : ∀ C D F F', ow C = some F → ow D = some F' → C ≠ D → He.ga K C ≠ He.ga K D ∧ subIn K (.ref (He.ga K D)) (.ref (He.ga K C)) = some false
  int : ∀ C F, ow C = some F → (∃ fo, findIn K (.type "int") (PySem.dunder op.info.2) = some fo) ∧ (∃ ro, findIn K (.type "int") (dunderR op.info.2) = some ro) ∧ subIn K (.type "int") (.ref (He.ga K C)) = some false
theorem cmpback_of {Q : Value → Shared → Prop} {v : V} {u : Value} {s : Shared} (r : RelV v u) (h : Q u s) : PySem.W.CmpBack Q u s := by
  cases v with
  | non => cases r; exact h
  | bl b => cases r; exact h
  | int i => obtain ⟨t, rfl⟩ := r; exact h
  | str x => obtain ⟨t, rfl⟩ := r; exact h
  | byt b => obtain ⟨t, rfl⟩ := r; exact h
  | flt b => obtain ⟨t, rfl⟩ := r; exact h
  | ref a => cases r; exact h
  | ty n => cases r; exact h
def ownM (ow : Str → Option (List A → M A)) (a b : A) : M A := fun S => match insOf a S with
  | some (C, _) => match ow C with
    | some F => match b with
      | .int _ => F [a, b] S
      | _ => match insOf b S with
        | some (D, _) => match ow D with
          | some _ => F [a, b] S
          | none => .no
        | none => .no
    | none => .no
  | none => .no
theorem op_own {X : Cx} {op : Operator} {n j : Nat} {ow : Str → Option (List A → M A)} (c : OwA X.prog X.w X.K X.mg X.base n op ow) (hr : Room j X.A) (hn : n ≤ j) : OpA X (binaryOp op) (ownM ow) := ⟨fun W tk pins s σ wd a b x y v u Q I rl ra rb rx ry o => by
  unfold ownM at o
  cases hi : insOf a wd.S with
  | none => simp only [hi] at o; exact o.elim
  | some q =>
    obtain ⟨C, fs⟩ := q
    simp only [hi] at o
    cases hF : ow C with
    | none => simp only [hF] at o; exact o.elim
    | some F =>
      simp only [hF] at o
      obtain ⟨p, dx, fv, ex, ep, rfs⟩ := insOf_ok rl ra hi
      subst ex
      obtain rfl : v = Value.ref p := rx
      obtain ⟨sf, hrr, f, hs, hf, fa⟩ := c.ex C F hF
      obtain ⟨mA, O, _⟩ := ins_get I.hok ep
      obtain ⟨odx, J, _⟩ := O.look
      obtain ⟨m, hFr⟩ := I.fr
      have fin : Out (cf X) W σ (Rv (cf X)) wd Q (F [a, b] wd.S) → wpAny (model X.prog X.w) X.A (call (.ref f) [.ref p, u]) (PySem.W.CmpBack (EP X pins σ Q)) X.xe s := fun o =>
        thn (run_A (us := [.ref p, u]) (vs := [.ref p, y]) (as := [a, b]) fa hr hn tk I rl (.cons ra (.cons rb .nil)) (.cons rfl (.cons ry .nil)) o) fun u' s' h => by
          have h' := h
          obtain ⟨v', H', I', r', q'⟩ := h
          exact cmpback_of r' h'
      have own : ∀ D fs', insOf b wd.S = some (D, fs') → ow D ≠ none → Out (cf X) W σ (Rv (cf X)) wd Q (F [a, b] wd.S) → wpAny (model X.prog X.w) X.A (binaryOp op (.ref p) u) (EP X pins σ Q) X.xe s := fun D fs' hb hD o => by
        obtain ⟨p2, dx2, fv2, ex2, ep2, rfs2⟩ := insOf_ok rl rb hb
        subst ex2
        obtain rfl : u = Value.ref p2 := ry
        obtain ⟨mA2, O2, _⟩ := ins_get I.hok ep2
        obtain ⟨odx2, J2, _⟩ := O2.look
        by_cases hCD : C = D
        · subst hCD
          exact binop_K hFr I.mod.kin J J2.type sf hs hf (fin o)
        · cases hF2 : ow D with
          | none => exact absurd hF2 hD
          | some F2 =>
            obtain ⟨sf2, hrr2, f2, hs2, hf2, fa2⟩ := c.ex D F2 hF2
            obtain ⟨ne, sb⟩ := c.two C D F F2 hF hF2 hCD
            exact binO hFr I.mod.kin J J2 ne sf sf2 hs hf hrr hs2 hrr2 sb (fin o)
      cases b with
      | int i =>
        cases rb
        obtain ⟨t, rfl⟩ := ry
        obtain ⟨⟨fo, h1⟩, ⟨ro, h2⟩, h3⟩ := c.int C F hF
        exact ksp_binT hFr I.mod.kin J (T := "int") rfl sf hs hf hrr (.inl rfl) h1 h2 h3 (fin o)
      | obj D fs' =>
        dsimp only at o
        cases hb : insOf (.obj D fs') wd.S with
        | none => simp only [hb] at o; exact o.elim
        | some q =>
          obtain ⟨D', fs2⟩ := q
          simp only [hb] at o
          cases hD : ow D' with
          | none => simp only [hD] at o; exact o.elim
          | some F2 => simp only [hD] at o; exact own D' fs2 hb (by rw [hD]; exact fun z => nomatch z) o
      | ref k =>
        dsimp only at o
        cases hb : insOf (.ref k) wd.S with
        | none => simp only [hb] at o; exact o.elim
        | some q =>
          obtain ⟨D', fs2⟩ := q
          simp only [hb] at o
          cases hD : ow D' with
          | none => simp only [hD] at o; exact o.elim
          | some F2 => simp only [hD] at o; exact own D' fs2 hb (by rw [hD]; exact fun z => nomatch z) o
      | _ => exact o.elim⟩
end FL

/-! ## A6: raise, try -/
namespace FL
open PySem PySem.Spec PyProof.Rows L2
variable [LT]
/-- all that was there is there still -/
theorem Ex.ext {Γ : Cfg} {w : Wd} {H' : Hp} (r : Rel Γ w) (h : ∀ b o, w.H b = some o → H' b = some o) : Ex w ⟨w.ι, w.S, H', w.x⟩ := ⟨rfl, fun a ha => ⟨ha, by
  obtain ⟨⟨o, e, _⟩, _⟩ := r.sc a ha
  show H' a = w.H a
  rw [h a o e, e]⟩, fun _ _ z => z, fun a o n e _ => ⟨.inl (h a o e), n⟩, fun _ _ z _ => z, fun k o a _ _ e => by
  obtain ⟨u, e3⟩ := r.there e
  show H' a = w.H a
  rw [h a u e3, e3]⟩
theorem Rel.ext {Γ : Cfg} {w : Wd} {H' : Hp} (r : Rel Γ w) (h : ∀ b o, w.H b = some o → H' b = some o) : Rel Γ ⟨w.ι, w.S, H', w.x⟩ := ⟨r.g.ex (Ex.ext r h) (r.g.tb.ext h), fun a ha => ⟨by
    obtain ⟨⟨o, e, z⟩, _⟩ := r.sc a ha
    exact ⟨o, h a o e, z⟩, (r.sc a ha).2⟩, r.len, r.inj, fun k a o e1 e2 => (r.at_ k a o e1 e2).ex (Ex.ext r h) (by
  obtain ⟨u, e3⟩ := r.there e1
  show H' a = w.H a
  rw [h a u e3, e3])⟩
/-- an own error class, its __init__'s fields -/
structure ErA (P : Program) (w : World) (K : PySem.W.Frag) (mg : Str → Option Value) (base : Heap) (C : Str) (fs : List Str) : Prop where
  ex : ExK K (He.ga K C)
  glo : mg C = some (.ref (He.ga K C))
  no : ∀ f ∈ fs, PySem.W.findIn K (.ref (He.ga K C)) f = some none
  ini : ∃ (fI : Addr) (fd : FuncData) (ps : List Str), PySem.W.findIn K (.ref (He.ga K C)) "__init__" = some (some (.ref fI)) ∧ PySem.W.typeIn K (.ref fI) = some (.type "function") ∧ FnOk P w K mg base CX0 1 fI fd ps (spIni K fs) ∧ Binds K fd ps []
def raiseS (C : Str) (fs : List Str) (ml : Lo → M (List A)) : SM := letG ml fun as ρ S => if as.length = fs.length ∧ as.length < 100 then .ex C (fs.zip as).reverse ρ S else .no
theorem Rfs.zip {Γ : Cfg} {w : Wd} : ∀ (fs : List Str) {as : List A} {vs : List V}, Rvs Γ w as vs → Rfs Γ w (fs.zip as) (fs.zip vs)
  | [], _, _, _ => .nil
  | _ :: _, _, _, .nil => .nil
  | f :: fs, _, _, .cons h t => .cons h (Rfs.zip fs t)
theorem Rfs.app {Γ : Cfg} {w : Wd} : ∀ {a b : List (Str × A)} {u v : List (Str × V)}, Rfs Γ w a u → Rfs Γ w b v → Rfs Γ w (a ++ b) (u ++ v)
  | _, _, _, _, .nil, s => s
  | _, _, _, _, .cons h t, s => .cons h (Rfs.app t s)
theorem Rfs.rev {Γ : Cfg} {w : Wd} : ∀ {a : List (Str × A)} {u : List (Str × V)}, Rfs Γ w a u → Rfs Γ w a.reverse u.reverse
  | _, _, .nil => .nil
  | _, _, .cons h t => by rw [List.reverse_cons, List.reverse_cons]; exact (Rfs.rev t).app (.cons h .nil)
theorem as_raise {X : Cx} {G : Gs} {C : Str} {fs : List Str} {e : Expr} {es : List Expr} {ml : Lo → M (List A)} {j : Nat} {p pos pos' : Pos} (c : ErA X.prog X.w X.K X.mg X.base C fs) (hc : X.calm = true) (hr : Room j X.A) (hj : 2 ≤ j) (hg : Gl X C) (ha : AA X G (e :: es) ml)
    (hdb : (C == ("__debug__" : Str)) = false := by decide) (he : starEach (e :: es) X.env = (false, eval e X.env) :: starEach es X.env := by rfl) (hpl : (backTo pos (starEach es X.env)).any (·.1) = false := by rfl) :
    AS X G (.Raise (some (.Call (.Name C p) (e :: es) [] pos)) none pos') (raiseS C fs ml) := fun W tk => by
  obtain ⟨fI, fd, ps, iC, tI, F1, hb⟩ := c.ini
  refine (ps_raise hc tk (pmk_oex (dvs := []) c.ex.oex iC tI F1 (hr.mono hj) hb .nil (fun _ _ _ _ _ _ _ h => h.elim) hg c.glo (ha W tk) hdb he hpl)).imp fun D σ H q => ?_
  refine aS_step (R := Rvs (cf X)) q fun w1 ρ as vs st1 rv o => ?_
  by_cases hl : as.length = fs.length ∧ as.length < 100
  · rw [if_pos hl] at o
    refine ⟨by rw [rv.len]; omega, fun a ha => ⟨a, _, vs ++ [], rfl, by rw [List.append_nil, rv.len, hl.1], upd_same, c.ex.oex, c.no, fun d H' hd ne kp h1 h2 => ⟨rfl, d, (fs.zip (vs ++ [])).reverse, h1, h2, ?_, ?_⟩⟩⟩
    · rw [upd_ne ne] at hd; exact hd
    · have hd1 : w1.H d = none := by rw [upd_ne ne] at hd; exact hd
      have keep : ∀ b o, w1.H b = some o → (upd (del H' a) d (.xd (fs.zip (vs ++ [])).reverse)) b = some o := fun b o e => by
        have n1 : b ≠ a := ne_of_none e ha
        have n2 : b ≠ d := ne_of_none e hd1
        rw [upd_ne n2, del_ne n1]
        exact kp b o (nin1 n1) (by rw [upd_ne n1]; exact e)
      have ex := Ex.ext st1.rel keep
      have rl := st1.rel.ext keep
      have rz : Rfs (cf X) w1 (fs.zip as).reverse (fs.zip (vs ++ [])).reverse := by
        rw [List.append_nil]
        exact (Rfs.zip fs rv).rev
      exact o ⟨w1.ι, w1.S, _, w1.x⟩ d σ rfl ex (st1.ex ex rl) (.xd (fun z => st1.rel.fresh hd1 z) upd_same (rz.ex ex))
  · rw [if_neg hl] at o; exact o.elim
/-! ### try: body, except C as n: suite -/
/-- which errors the clause takes: those of the class itself (no own class is above another one but LooksError) -/
structure XcA (K : PySem.W.Frag) (er : Str → Bool) : Prop where
  is : ∀ C D, er C = true → er D = true → PySem.W.exmOne K (.ref (He.ga K C)) (.ref (He.ga K D)) = some (decide (C = D))
  xf : ∀ C, er C = true → XfC K (He.ga K C)
def wipeO (i : Nat) : Ou → Ou
  | .nx ρ S => .nx (ρ.set i none) S
  | .bk ρ S => .bk (ρ.set i none) S
  | .ct ρ S => .ct (ρ.set i none) S
  | .rt a S => .rt a S
  | _ => .no
def tryS (er : Str → Bool) (i : Nat) (D : Str) (mb : SM) (mh : List (Str × A) → SM) : SM := fun ρ S => match mb ρ S with
  | .ex C fs ρ' S' => if er C = true ∧ i < ρ'.length then (if C = D then wipeO i (mh fs (ρ'.set i none) S') else .ex C fs ρ' S') else .no
  | r => r
def xfE (f : Str) (fs : List (Str × A)) (_ : Lo) : M A := fun S => match fs.lookup f with
  | some a => .ok a S
  | none => .no
/-- what is known in the suite -/
abbrev GX (i : Nat) (a d : Addr) (fs : List (Str × A)) : Gs := ⟨[(.xd fs, .ref d)], fun σ => σ[i]? = some (some (.ref a)), []⟩
theorem takes0 {X : Cx} : Takes X (fun _ _ _ _ => False) := fun u s' ⟨_, _, _, _, _, _, _, _, _, _, _, _, _, _, _, _, w⟩ => w.elim
theorem ae_xf {X : Cx} {a d : Addr} {oe : Obj} {pn : List (Addr × Obj)} {i : Nat} {n f C : Str} {er : Str → Bool} {fs : List (Str × A)} {p pos : Pos} (c : XcA X.K er) (he : er C = true) (hz : Zc (.ref (He.ga X.K C)) (some d) oe) (hf : ∃ vs, oe.data = .fields vs) (hno : PySem.W.findIn X.K (.ref (He.ga X.K C)) f = some none)
    (hN : X.N[i]? = some n) (hv : Vis X.env.scope n) (hd : (n == ("__debug__" : Str)) = false := by decide) (hcd : (n == ("__classdict__" : Str)) = false := by decide) (hb : attributeBase (.Name n p) f X.env (eval (.Name n p) X.env) = eval (.Name n p) X.env := by rfl) :
    AE (X.suite a ((a, oe) :: pn)) (GX i a d fs) (.Attribute (.Name n p) f pos) (xfE f fs) := fun W tk => by
  refine (pe_xf (X := X) (c.xf C he) hno hz hf (pe_var (X := X.suite a ((a, oe) :: pn)) (i := i) hN hv hd hcd) hb).imp fun σ H Q q => ?_
  obtain ⟨w, ρ, rfl, st, o⟩ := q
  have st' := st.gh.1 (.xd fs, .ref d) (List.mem_singleton.mpr rfl)
  unfold xfE at o
  cases el : fs.lookup f with
  | none => simp only [el] at o; exact o.elim
  | some v =>
    simp only [el] at o
    cases st' with
    | xd n1 h1 r1 =>
      rcases r1.look f with ⟨z, _⟩ | ⟨b, u, z, hu, rb⟩
      · rw [el] at z; cases z
      · rw [el] at z
        cases z
        exact ⟨_, st.pr, rfl, rfl, d, _, u, rfl, h1, hu, Out.here (R := Rv (cf X)) o st.rel rb⟩
theorem as_try {X : Cx} {i : Nat} {x n : Str} {body suite : List Stmt} {b₀ : Stmt} {np pos pos' : Pos} {mb : SM} {mh : List (Str × A) → SM} {er : Str → Bool} (c : XcA X.K er) (hs : X.stack = X.env :: X.outer) (hf : X.env.frame = some X.env.locals) (hN : X.N.Nodup) (hi : X.N[i]? = some n) (hln : X.env.kindOf n = some .local)
    (hx : er x = true) (hc : Names X x (.ref (He.ga X.K x)))
    (hb : ∀ (pn : List (Addr × Obj)) (xe : Value → Shared → Prop), PassesOwn (model X.prog X.w) X.A X.env xe → ASs (X.tr pn xe) G0 body mb)
    (hsu : ∀ (a d : Addr) (oe : Obj) (pn : List (Addr × Obj)) (fs : List (Str × A)), Zc (.ref (He.ga X.K x)) (some d) oe → (∃ vs, oe.data = .fields vs) → ASs (X.suite a ((a, oe) :: pn)) (GX i a d fs) (b₀ :: suite) (mh fs)) :
    AS X G0 (.Try body [.ExceptHandler (some (.Name x np)) (some n) (b₀ :: suite) pos'] [] [] pos) (tryS er i x mb mh) := fun W tk => by
  have hiN : i < X.N.length := (List.getElem?_eq_some_iff.mp hi).1
  refine PS.imp (t := fun D σ H => aS (cf X) (wAs X.K (.ref (He.ga X.K x)) i (fun a cls d D σ H => cls = .ref (He.ga X.K x) ∧ ∃ (d' : Addr) (fs : List (Str × A)), d = some d' ∧ aS (cf X) (fun _ _ _ _ => False) (GX i a d' fs) (mh fs) D σ H) W D) G0 mb D σ H)
    (ps_try_as (tb := fun W => aS (cf X) W G0 mb) hs hf hN hi hln hc tk (fun W pn xe tk' hp => hb pn xe hp W tk') (fun a oe cls d pn hz hfl => ⟨fun pins s σ H D I q => ?_⟩)) fun D σ H q => ?_
  · obtain ⟨rfl, d', fs, rfl, q⟩ := q
    exact (hsu a d' oe pn fs hz hfl _ takes0).run pins s σ H D I q
  · obtain ⟨w, ρ, rfl, st, o⟩ := q
    refine ⟨w, ρ, rfl, st, ?_⟩
    unfold tryS at o
    cases em : mb ρ w.S with
    | nx ρ' S' => rw [em] at o; exact o
    | rt a S' => rw [em] at o; exact o
    | bk ρ' S' => rw [em] at o; exact o
    | ct ρ' S' => rw [em] at o; exact o
    | no => rw [em] at o; exact o
    | ex C fs ρ' S' =>
      rw [em] at o
      dsimp only at o
      by_cases he' : er C = true ∧ i < ρ'.length
      · rw [if_pos he'] at o
        obtain ⟨he, hlen⟩ := he'
        intro w' d σ' hS ex st' rx
        subst hS
        refine ⟨_, c.is C x he hx, fun hb => ?_, fun hb => ?_⟩
        · have hC : C = x := of_decide_eq_true hb
          subst hC
          rw [if_pos rfl] at o
          intro a ha
          refine ⟨rfl, d, fs, rfl, w', ρ'.set i none, rfl, ⟨st'.rel, st'.loc.wipe i _, ⟨fun p hp => ?_, (fun q hq => nomatch hq)⟩, ?_⟩, ?_⟩
          · rcases List.mem_singleton.mp hp with rfl
            exact rx
          · show (σ'.set i (some (.ref a)))[i]? = some (some (.ref a))
            rw [List.getElem?_set_self (by rw [← st'.loc.1]; exact hlen)]
          · have o := OutS.later ex o
            cases er : mh fs (ρ'.set i none) w'.S with
            | nx ρ2 S2 => rw [er] at o; intro w2 σ2 h2 ex2 st2; exact o w2 _ h2 ex2 ⟨st2.rel, st2.loc.wipe i _, ⟨(fun p hp => nomatch hp), (fun q hq => nomatch hq)⟩, trivial⟩
            | bk ρ2 S2 => rw [er] at o; intro w2 σ2 h2 ex2 st2; exact o w2 _ h2 ex2 ⟨st2.rel, st2.loc.wipe i _, ⟨(fun p hp => nomatch hp), (fun q hq => nomatch hq)⟩, trivial⟩
            | ct ρ2 S2 => rw [er] at o; intro w2 σ2 h2 ex2 st2; exact o w2 _ h2 ex2 ⟨st2.rel, st2.loc.wipe i _, ⟨(fun p hp => nomatch hp), (fun q hq => nomatch hq)⟩, trivial⟩
            | rt a S2 => rw [er] at o; exact o
            | ex C fs ρ2 S2 => rw [er] at o; exact o.elim
            | no => rw [er] at o; exact o.elim
        · have hC : C ≠ x := of_decide_eq_false hb
          rw [if_neg hC] at o
          exact o w' d σ' rfl ex st' rx
      · rw [if_neg he'] at o; exact o.elim
end FL

/-! ## A7: operations on ints, texts, tuples, lists -/
namespace FL
open PySem PySem.Spec PyProof.Rows L2
variable [LT]
/-- the items of a list, by value or in the store; the script too -/
def lstR (a : A) (S : Sto) : Option (List A) := match a with
  | .fl xs => some xs
  | .ref k => match S[k]? with
    | some (.lst xs) => some xs
    | some (.llst xs) => some xs
    | _ => none
  | _ => none
def lstOf (a : A) (S : Sto) : Option (List A) := match a with
  | .fl xs => some xs
  | .scr xs => some xs
  | .ref k => match S[k]? with
    | some (.lst xs) => some xs
    | some (.llst xs) => some xs
    | _ => none
  | _ => none
section
variable {Γ : Cfg} {W : WX} {σ : L2.St} {w : Wd} {a b : A} {v u : V} {xs ys : List A}
theorem lstR_ok (rl : Rel Γ w) (rv : Rv Γ w a v) (h : lstR a w.S = some xs) : ∃ p vs, v = .ref p ∧ Rd w.H p (.lst vs) ∧ Rvs Γ w xs vs := by
  cases rv with
  | fl n e r => cases h; exact ⟨_, _, rfl, e, r⟩
  | @ref k p e =>
    unfold lstR at h
    cases es : w.S[k]? with
    | none => simp only [es] at h; cases h
    | some ob =>
      simp only [es] at h
      cases ob with
      | lst xs' =>
        cases h
        obtain ⟨vs, e1, r⟩ := rl.at_ k p _ e es
        exact ⟨_, _, rfl, .inl e1, r⟩
      | llst xs' =>
        cases h
        obtain ⟨vs, e1, r⟩ := rl.at_ k p _ e es
        exact ⟨_, _, rfl, .inl e1, r⟩
      | _ => cases h
  | _ => cases h
theorem lst_ok (rl : Rel Γ w) (rv : Rv Γ w a v) (h : lstOf a w.S = some xs) : ∃ p vs, v = .ref p ∧ SqL Γ.K w.H p vs ∧ Rvs Γ w xs vs := by
  cases rv with
  | fl n e r => cases h; exact ⟨_, _, rfl, .inl e, r⟩
  | scrF n e r => cases h; exact ⟨_, _, rfl, .inl e, r⟩
  | scrK e r => cases h; exact ⟨_, _, rfl, .inr e, r⟩
  | @ref k p e =>
    unfold lstOf at h
    cases es : w.S[k]? with
    | none => simp only [es] at h; cases h
    | some ob =>
      simp only [es] at h
      cases ob with
      | lst xs' =>
        cases h
        obtain ⟨vs, e1, r⟩ := rl.at_ k p _ e es
        exact ⟨_, _, rfl, SqL.of e1, r⟩
      | llst xs' =>
        cases h
        obtain ⟨vs, e1, r⟩ := rl.at_ k p _ e es
        exact ⟨_, _, rfl, SqL.of e1, r⟩
      | _ => cases h
  | _ => cases h
theorem Rvs.ints : ∀ {ns : List Int} {vs : List V}, Rvs Γ w (ns.map A.int) vs → vs = ns.map V.int
  | [], _, .nil => rfl
  | n :: ns, _, .cons h t => by cases h; rw [Rvs.ints t, List.map_cons]
theorem Rvs.bls : ∀ {ns : List Bool} {vs : List V}, Rvs Γ w (ns.map A.bl) vs → vs = ns.map V.bl
  | [], _, .nil => rfl
  | n :: ns, _, .cons h t => by cases h; rw [Rvs.bls t, List.map_cons]
theorem Rvs.ofInts : ∀ ns : List Int, Rvs Γ w (ns.map A.int) (ns.map V.int)
  | [] => .nil
  | n :: ns => .cons (.int n) (Rvs.ofInts ns)
theorem Rvs.app : ∀ {xs ys : List A} {us vs : List V}, Rvs Γ w xs us → Rvs Γ w ys vs → Rvs Γ w (xs ++ ys) (us ++ vs)
  | _, _, _, _, .nil, s => s
  | _, _, _, _, .cons h t, s => .cons h (Rvs.app t s)
theorem Rvs.rev : ∀ {xs : List A} {us : List V}, Rvs Γ w xs us → Rvs Γ w xs.reverse us.reverse
  | _, _, .nil => .nil
  | _, _, .cons h t => by rw [List.reverse_cons, List.reverse_cons]; exact (Rvs.rev t).app (.cons h .nil)
theorem Rvs.take : ∀ {xs : List A} {us : List V} (n : Nat), Rvs Γ w xs us → Rvs Γ w (xs.take n) (us.take n)
  | _, _, 0, _ => .nil
  | _, _, _ + 1, .nil => .nil
  | _, _, n + 1, .cons h t => .cons h (Rvs.take n t)
theorem Rvs.drop : ∀ {xs : List A} {us : List V} (n : Nat), Rvs Γ w xs us → Rvs Γ w (xs.drop n) (us.drop n)
  | _, _, 0, h => h
  | _, _, _ + 1, .nil => .nil
  | _, _, n + 1, .cons _ t => Rvs.drop n t
theorem Rvs.set {a : A} {v : V} (h : Rv Γ w a v) : ∀ {xs : List A} {us : List V} (n : Nat), Rvs Γ w xs us → Rvs Γ w (xs.set n a) (us.set n v)
  | _, _, _, .nil => .nil
  | _, _, 0, .cons _ t => .cons h t
  | _, _, n + 1, .cons q t => .cons q (Rvs.set h n t)
theorem Rvs.erase : ∀ {xs : List A} {us : List V} (n : Nat), Rvs Γ w xs us → Rvs Γ w (xs.eraseIdx n) (us.eraseIdx n)
  | _, _, _, .nil => .nil
  | _, _, 0, .cons _ t => t
  | _, _, n + 1, .cons q t => .cons q (Rvs.erase n t)
/-- all ints -/
def intsOf : List A → Option (List Int)
  | [] => some []
  | .int i :: r => (intsOf r).map (i :: ·)
  | _ :: _ => none
theorem intsOf_ok : ∀ {xs : List A} {ns : List Int}, intsOf xs = some ns → xs = ns.map A.int
  | [], _, h => by cases h; rfl
  | .int i :: r, ns, h => by
    unfold intsOf at h
    obtain ⟨ms, e1, e2⟩ := Option.map_eq_some_iff.mp h
    subst e2
    rw [intsOf_ok e1, List.map_cons]
  | .non :: _, _, h => by cases h
  | .bl _ :: _, _, h => by cases h
  | .str _ :: _, _, h => by cases h
  | .ty _ :: _, _, h => by cases h
  | .tup _ :: _, _, h => by cases h
  | .fl _ :: _, _, h => by cases h
  | .fd _ :: _, _, h => by cases h
  | .obj _ _ :: _, _, h => by cases h
  | .xd _ :: _, _, h => by cases h
  | .ref _ :: _, _, h => by cases h
  | .glo _ :: _, _, h => by cases h
  | .scr _ :: _, _, h => by cases h
theorem intsOf_map : ∀ ns : List Int, intsOf (ns.map A.int) = some ns
  | [] => rfl
  | n :: ns => by rw [List.map_cons, intsOf, intsOf_map ns]; rfl
def blsOf : List A → Option (List Bool)
  | [] => some []
  | .bl i :: r => (blsOf r).map (i :: ·)
  | _ :: _ => none
theorem blsOf_ok : ∀ {xs : List A} {ns : List Bool}, blsOf xs = some ns → xs = ns.map A.bl
  | [], _, h => by cases h; rfl
  | .bl i :: r, ns, h => by
    unfold blsOf at h
    obtain ⟨ms, e1, e2⟩ := Option.map_eq_some_iff.mp h
    subst e2
    rw [blsOf_ok e1, List.map_cons]
  | .non :: _, _, h => by cases h
  | .int _ :: _, _, h => by cases h
  | .str _ :: _, _, h => by cases h
  | .ty _ :: _, _, h => by cases h
  | .tup _ :: _, _, h => by cases h
  | .fl _ :: _, _, h => by cases h
  | .fd _ :: _, _, h => by cases h
  | .obj _ _ :: _, _, h => by cases h
  | .xd _ :: _, _, h => by cases h
  | .ref _ :: _, _, h => by cases h
  | .glo _ :: _, _, h => by cases h
  | .scr _ :: _, _, h => by cases h
theorem blsOf_map : ∀ ns : List Bool, blsOf (ns.map A.bl) = some ns
  | [] => rfl
  | n :: ns => by rw [List.map_cons, blsOf, blsOf_map ns]; rfl
/-- flat values -/
def flA : A → Option V
  | .non => some .non
  | .bl b => some (.bl b)
  | .int i => some (.int i)
  | .str x => some (.str x)
  | _ => none
theorem flA_ok {x : V} (rv : Rv Γ w a v) (h : flA a = some x) : v = x ∧ flatV x = true := by
  cases rv <;> cases h <;> exact ⟨rfl, rfl⟩
def flAs : List A → Option (List V)
  | [] => some []
  | a :: r => match flA a, flAs r with
    | some x, some xs => some (x :: xs)
    | _, _ => none
theorem flAs_ok : ∀ {xs : List A} {vs us : List V}, Rvs Γ w xs vs → flAs xs = some us → vs = us ∧ us.all flatV = true
  | [], _, _, .nil, h => by cases h; exact ⟨rfl, rfl⟩
  | a :: r, _, us, .cons ha ht, h => by
    unfold flAs at h
    cases e1 : flA a with
    | none => simp only [e1] at h; cases h
    | some x =>
      cases e2 : flAs r with
      | none => simp only [e1, e2] at h; cases h
      | some xs =>
        simp only [e1, e2] at h
        cases h
        obtain ⟨rfl, h1⟩ := flA_ok ha e1
        obtain ⟨rfl, h2⟩ := flAs_ok ht e2
        exact ⟨rfl, by rw [List.all_cons, h1, h2]; rfl⟩
mutual
def dat : A → Option PyData
  | .non => some .none
  | .bl b => some (.bool b)
  | .int i => some (.int i)
  | .str x => some (.str x)
  | .tup xs => (dats xs).map .tuple
  | .fl xs => (dats xs).map .list
  | _ => none
def dats : List A → Option (List PyData)
  | [] => some []
  | x :: r => match dat x, dats r with
    | some d, some ds => some (d :: ds)
    | _, _ => none
end
mutual
theorem dat_ok : ∀ {a : A} {v : V} {d : PyData}, Rv Γ w a v → dat a = some d → Dp Γ.K w.H v d
  | .non, _, _, .non, h => by cases h; exact .non
  | .bl b, _, _, .bl _, h => by cases h; exact .bl b
  | .int i, _, _, .int _, h => by cases h; exact .int i
  | .str x, _, _, .str _, h => by cases h; exact .str x
  | .tup xs, _, d, .tup n e r, h => by
    unfold dat at h
    obtain ⟨ds, e1, rfl⟩ := Option.map_eq_some_iff.mp h
    exact .tup (SqT.of e) (dats_ok r e1)
  | .fl xs, _, d, .fl n e r, h => by
    unfold dat at h
    obtain ⟨ds, e1, rfl⟩ := Option.map_eq_some_iff.mp h
    exact .lst (.inl e) (dats_ok r e1)
theorem dats_ok : ∀ {xs : List A} {vs : List V} {ds : List PyData}, Rvs Γ w xs vs → dats xs = some ds → DpAll Γ.K w.H vs ds
  | [], _, _, .nil, h => by cases h; exact .nil
  | x :: r, _, ds, .cons ha ht, h => by
    unfold dats at h
    cases e1 : dat x with
    | none => simp only [e1] at h; cases h
    | some d =>
      cases e2 : dats r with
      | none => simp only [e1, e2] at h; cases h
      | some es =>
        simp only [e1, e2] at h
        cases h
        exact .cons (dat_ok ha e1) (dats_ok ht e2)
end
/-- data, the outermost list perhaps in the store -/
def datS (S : Sto) (a : A) : Option PyData := match a with
  | .ref k => match S[k]? with
    | some (.lst xs) => (dats xs).map .list
    | some (.llst xs) => (dats xs).map .list
    | _ => none
  | a => dat a
theorem datS_ok {d : PyData} (rl : Rel Γ w) (rv : Rv Γ w a v) (h : datS w.S a = some d) : Dp Γ.K w.H v d := by
  cases a with
  | ref k =>
    unfold datS at h
    cases es : w.S[k]? with
    | none => simp only [es] at h; cases h
    | some ob =>
      simp only [es] at h
      cases ob with
      | lst xs =>
        obtain ⟨ds, e1, rfl⟩ := Option.map_eq_some_iff.mp h
        obtain ⟨p, vs, rfl, sq, r⟩ := lst_ok (xs := xs) rl rv (by unfold lstOf; simp only [es])
        exact .lst sq (dats_ok r e1)
      | llst xs =>
        obtain ⟨ds, e1, rfl⟩ := Option.map_eq_some_iff.mp h
        obtain ⟨p, vs, rfl, sq, r⟩ := lst_ok (xs := xs) rl rv (by unfold lstOf; simp only [es])
        exact .lst sq (dats_ok r e1)
      | _ => cases h
  | _ => exact dat_ok rv h
end
/-! ### arithmetic -/
def i2 (g : Int → Int → A) : A → A → M A
  | .int i, .int j => ret (g i j)
  | _, _ => fail
def i2c (c : Int → Int → Prop) [∀ i j, Decidable (c i j)] (g : Int → Int → A) : A → A → M A
  | .int i, .int j => guard (c i j) (ret (g i j))
  | _, _ => fail
/-- a rule of the hand layer and what it is by values -/
structure OpC (X : Cx) (f : Value → Value → Sem Value) (r : R2) (g : A → A → M A) : Prop where
  op : OpR X f r
  imp : ∀ (W : WX) (σ : L2.St) (w : Wd) (a b : A) (x y : V) (Q : VK), Rel (cf X) w → Rv (cf X) w a x → Rv (cf X) w b y → Out (cf X) W σ (Rv (cf X)) w Q (g a b w.S) → r x y w.H Q
theorem OpC.a {X : Cx} {f : Value → Value → Sem Value} {r : R2} {g : A → A → M A} (h : OpC X f r g) : OpA X f g := OpA.of h.op h.imp
section
variable {X : Cx} {f : Value → Value → Sem Value}
theorem oc_i {g : Int → Int → V} {gA : Int → Int → A} (h : OpR X f (rI0 g)) (hg : ∀ w i j, Rv (cf X) w (gA i j) (g i j)) : OpC X f (rI0 g) (i2 gA) := ⟨h, fun W σ w a b x y Q rl ra rb o => by
  cases a <;> first | exact o.elim | skip
  cases b <;> first | exact o.elim | skip
  cases ra
  cases rb
  exact ⟨_, _, rfl, rfl, o.here rl (hg _ _ _)⟩⟩
theorem oc_ic {C c : Int → Int → Prop} [∀ i j, Decidable (c i j)] {g : Int → Int → V} {gA : Int → Int → A} (h : OpR X f (rI C g)) (hc : ∀ i j, c i j → C i j) (hg : ∀ w i j, Rv (cf X) w (gA i j) (g i j)) : OpC X f (rI C g) (i2c c gA) := ⟨h, fun W σ w a b x y Q rl ra rb o => by
  cases a <;> first | exact o.elim | skip
  cases b <;> first | exact o.elim | skip
  cases ra
  cases rb
  obtain ⟨h1, o⟩ := o.guard
  exact ⟨_, _, rfl, rfl, hc _ _ h1, o.here rl (hg _ _ _)⟩⟩
end
def subA : A → A → M A := i2 fun i j => .int (i - j)
def ltI : A → A → M A := i2 fun i j => .bl (decide (i < j))
def leI : A → A → M A := i2 fun i j => .bl (decide (i ≤ j))
def gtI : A → A → M A := i2 fun i j => .bl (decide (j < i))
def geI : A → A → M A := i2 fun i j => .bl (decide (j ≤ i))
def mulI : A → A → M A := i2c (fun i j => i.natAbs < 2 ^ 2000 ∧ j.natAbs < 2 ^ 2000) fun i j => .int (i * j)
def fdivA : A → A → M A := i2c (fun _ j => 0 < j ∧ j < 2 ^ 120) fun i j => .int (i / j)
def modA : A → A → M A := i2c (fun _ j => 0 < j) fun i j => .int (i % j)
def powI : A → A → M A := i2c (fun i j => 0 ≤ j ∧ j ≤ 100 ∧ i.natAbs < 2 ^ 64) fun i j => .int (i ^ j.toNat)
section
variable {X : Cx}
theorem oa_sub : OpA X (binaryOp .Sub) subA := (oc_i op_sub fun _ _ _ => .int _).a
theorem oc_lt : OpC X (compareOp .Lt) (rI0 fun i j => .bl (decide (i < j))) ltI := oc_i op_lt fun _ _ _ => .bl _
theorem oc_le : OpC X (compareOp .LtE) (rI0 fun i j => .bl (decide (i ≤ j))) leI := oc_i op_le fun _ _ _ => .bl _
theorem oc_gt : OpC X (compareOp .Gt) (rI0 fun i j => .bl (decide (j < i))) gtI := oc_i op_gt fun _ _ _ => .bl _
theorem oc_ge : OpC X (compareOp .GtE) (rI0 fun i j => .bl (decide (j ≤ i))) geI := oc_i op_ge fun _ _ _ => .bl _
theorem oa_mulI : OpA X (binaryOp .Mult) mulI := (oc_ic op_mulW (fun _ _ h => wide_mul h.1 h.2 (by decide) (by decide) (by decide)) fun _ _ _ => .int _).a
theorem oa_fdiv : OpA X (binaryOp .FloorDiv) fdivA := (oc_ic op_fdivW (fun i j h => wide_div (b := 120) h.1 (by
  have e : (j.natAbs : Int) = j := by omega
  have e2 : (j.natAbs : Int) < ((2 ^ 120 : Nat) : Int) := by rw [e]; exact h.2
  exact Int.ofNat_lt.mp e2) (by decide) (by decide)) fun _ _ _ => .int _).a
theorem oa_mod : OpA X (binaryOp .Mod) modA := (oc_ic op_mod (fun _ _ h => h) fun _ _ _ => .int _).a
theorem oa_powI : OpA X (binaryOp .Pow) powI := (oc_ic op_pow (fun _ _ h => ⟨h.1, by omega, h.2.2⟩) fun _ _ _ => .int _).a
/-- + : ints, texts, tuples, lists (the new list by value) -/
def addA (a b : A) : M A := fun S => match a, b with
  | .int i, .int j => .ok (.int (i + j)) S
  | .str x, .str y => if x.length + y.length < 100000 then .ok (.str (x ++ y)) S else .no
  | .tup xs, .tup ys => if xs.length + ys.length < 100000 then .ok (.tup (xs ++ ys)) S else .no
  | a, b => match lstR a S, lstR b S with
    | some xs, some ys => if xs.length + ys.length < 100000 then .ok (.fl (xs ++ ys)) S else .no
    | _, _ => .no
/-- the same, a new list in the store -/
def addL (a b : A) : M A := fun S => match lstR a S, lstR b S with
  | some xs, some ys => if xs.length + ys.length < 100000 then newM (.lst (xs ++ ys)) S else .no
  | _, _ => .no
theorem rd_list {pins : List (Addr × Obj)} {s : Shared} {σ : L2.St} {H : Hp} {l : Addr} {xs : List V} (I : Inv X pins σ H s) (h : Rd H l (.lst xs)) : ∃ its n, Vals xs its ∧ xs.length ≤ sizeLine ∧ s.heap.get? l = some { cls := .type "list", data := .seq its.toArray n } := by
  obtain ⟨z, its, n, r, e⟩ := h.ok I.hok
  exact ⟨its, n, r, z, e⟩
theorem op_addL : OpR X (binaryOp .Add) (fun x y H Q => ∃ l b xs zs, x = .ref l ∧ y = .ref b ∧ Rd H l (.lst xs) ∧ Rd H b (.lst zs) ∧ xs.length + zs.length ≤ sizeLine ∧ ∀ p, H p = none → Q (.ref p) (upd H p (.lst (xs ++ zs)))) := by
  intro pins s σ H x y v u Q I rx ry h
  obtain ⟨l, b, xs, zs, rfl, rfl, h1, h2, hz, q⟩ := h
  cases rx
  cases ry
  obtain ⟨its, n, r, z, e⟩ := rd_list I h1
  obtain ⟨its2, n2, r2, z2, e2⟩ := rd_list I h2
  have l1 := r.length
  have l2 := r2.length
  refine PySem.P.add_list e e2 ?_ (by rw [List.size_toArray, List.size_toArray]; omega)
  have ea : its.toArray ++ its2.toArray = (its ++ its2).toArray := by simp
  rw [ea]
  exact ⟨.ref _, _, I.lnew (t' := s.toks) (r.append r2) (by rw [List.length_append]; omega), rfl, q _ I.fresh⟩
theorem oa_addL : OpA X (binaryOp .Add) addL := OpA.of op_addL fun W σ w a b x y Q rl ra rb o => by
  unfold addL at o
  cases e1 : lstR a w.S with
  | none => simp only [e1] at o; exact o.elim
  | some xs =>
    cases e2 : lstR b w.S with
    | none => simp only [e1, e2] at o; exact o.elim
    | some ys =>
      simp only [e1, e2] at o
      by_cases hl : xs.length + ys.length < 100000
      · rw [if_pos hl] at o
        obtain ⟨p, vs, rfl, h1, r1⟩ := lstR_ok rl ra e1
        obtain ⟨q, us, rfl, h2, r2⟩ := lstR_ok rl rb e2
        exact ⟨p, q, vs, us, rfl, rfl, h1, h2, by rw [r1.len, r2.len]; exact sz (Nat.le_of_lt hl), fun p hp => o.lst rl (r1.app r2) hp⟩
      · rw [if_neg hl] at o; exact o.elim
theorem add_lists_A {W : WX} {σ : L2.St} {w : Wd} {a b : A} {x y : V} {Q : VK} (rl : Rel (cf X) w) (ra : Rv (cf X) w a x) (rb : Rv (cf X) w b y) (o : Out (cf X) W σ (Rv (cf X)) w Q (match lstR a w.S, lstR b w.S with
    | some xs, some ys => if xs.length + ys.length < 100000 then .ok (.fl (xs ++ ys)) w.S else .no
    | _, _ => .no)) : ∃ l b xs zs, x = .ref l ∧ y = .ref b ∧ Rd w.H l (.lst xs) ∧ Rd w.H b (.lst zs) ∧ xs.length + zs.length ≤ sizeLine ∧ ∀ p, w.H p = none → Q (.ref p) (upd w.H p (.lst (xs ++ zs))) := by
  cases e1 : lstR a w.S with
  | none => simp only [e1] at o; exact o.elim
  | some xs =>
    cases e2 : lstR b w.S with
    | none => simp only [e1, e2] at o; exact o.elim
    | some ys =>
      simp only [e1, e2] at o
      by_cases hl : xs.length + ys.length < 100000
      · rw [if_pos hl] at o
        obtain ⟨p, vs, rfl, h1, r1⟩ := lstR_ok rl ra e1
        obtain ⟨q, us, rfl, h2, r2⟩ := lstR_ok rl rb e2
        exact ⟨p, q, vs, us, rfl, rfl, h1, h2, by rw [r1.len, r2.len]; exact sz (Nat.le_of_lt hl), fun p hp => o.fl rl (r1.app r2) hp⟩
      · rw [if_neg hl] at o; exact o.elim
theorem Rvs.nil_iff {Γ : Cfg} {w : Wd} {xs : List A} {vs : List V} (r : Rvs Γ w xs vs) : vs = [] ↔ xs = [] := by
  cases r with
  | nil => simp
  | cons _ _ => simp
theorem oa_add : OpA X (binaryOp .Add) addA := ⟨fun W tk pins s σ w a b x y v u Q I rl ra rb rx ry o => by
  have lists : Out (cf X) W σ (Rv (cf X)) w Q (match lstR a w.S, lstR b w.S with
    | some xs, some ys => if xs.length + ys.length < 100000 then .ok (.fl (xs ++ ys)) w.S else .no
    | _, _ => .no) → wpAny (model X.prog X.w) X.A (binaryOp .Add v u) (EP X pins σ Q) X.xe s := fun o => op_addL pins s σ w.H x y v u Q I rx ry (add_lists_A rl ra rb o)
  cases a with
  | int i =>
    cases b with
    | int j =>
      cases ra
      cases rb
      exact op_add pins s σ w.H _ _ v u Q I rx ry ⟨i, j, rfl, rfl, Out.here (R := Rv (cf X)) o rl (.int _)⟩
    | _ => exact lists o
  | str x' =>
    cases b with
    | str y' =>
      cases ra
      cases rb
      have o : Out (cf X) W σ (Rv (cf X)) w Q (if x'.length + y'.length < 100000 then .ok (.str (x' ++ y')) w.S else .no) := o
      by_cases hl : x'.length + y'.length < 100000
      · rw [if_pos hl] at o
        exact op_add_str pins s σ w.H _ _ v u Q I rx ry ⟨x', y', rfl, rfl, sz (Nat.le_of_lt hl), Out.here (R := Rv (cf X)) o rl (.str _)⟩
      · rw [if_neg hl] at o; exact o.elim
    | _ => exact lists o
  | tup xs =>
    cases b with
    | tup ys =>
      have o : Out (cf X) W σ (Rv (cf X)) w Q (if xs.length + ys.length < 100000 then .ok (.tup (xs ++ ys)) w.S else .no) := o
      by_cases hl : xs.length + ys.length < 100000
      · rw [if_pos hl] at o
        obtain ⟨p, vs, rfl, n1, e1, s1, r1⟩ := ra.sqt
        obtain ⟨q, us, rfl, n2, e2, s2, r2⟩ := rb.sqt
        refine op_catA pins s σ w.H _ _ v u Q I rx ry ⟨p, q, vs, us, rfl, rfl, s1, s2, by rw [r1.len, r2.len]; exact sz (Nat.le_of_lt hl), fun hn => ?_, fun _ hn => ?_, fun _ _ p hp => ?_⟩
        · have := r1.nil_iff.mp hn
          subst this
          exact Out.here (R := Rv (cf X)) o rl rb
        · have := r2.nil_iff.mp hn
          subst this
          rw [List.append_nil] at o
          exact Out.here (R := Rv (cf X)) o rl ra
        · exact o.tup rl (r1.app r2) hp
      · rw [if_neg hl] at o; exact o.elim
    | _ => exact lists o
  | _ => exact lists o⟩
end
end FL

/-! ## A8: dicts by value and in the store -/
namespace FL
open PySem PySem.Spec PyProof.Rows L2
variable [LT]
/-! ### keys -/
def ky1 : A → Option Key
  | .int i => some (.inl i)
  | .str x => some (.inr x)
  | _ => none
def kys : List A → Option (List Key)
  | [] => some []
  | a :: r => match ky1 a, kys r with
    | some k, some ks => some (k :: ks)
    | _, _ => none
def kyOf : A → Option (Key ⊕ List Key)
  | .tup xs => (kys xs).map .inr
  | a => (ky1 a).map .inl
theorem ky1_key (k : Key) : ky1 (keyA k) = some k := by cases k <;> rfl
theorem kys_key : ∀ ks : List Key, kys (ks.map keyA) = some ks
  | [] => rfl
  | k :: ks => by rw [List.map_cons, kys, ky1_key, kys_key ks]
theorem kyOf_t (ks : List Key) : kyOf (tkA ks) = some (.inr ks) := by
  show (kys (ks.map keyA)).map Sum.inr = _
  rw [kys_key]; rfl
theorem kyOf_k (k : Key) : kyOf (keyA k) = some (.inl k) := by cases k <;> rfl
section
variable {Γ : Cfg} {w : Wd} {a b : A} {v u : V}
theorem ky1_ok {k : Key} (rv : Rv Γ w a v) (h : ky1 a = some k) : v = kV k ∧ a = keyA k := by
  cases rv <;> cases h <;> exact ⟨rfl, rfl⟩
theorem kys_ok : ∀ {xs : List A} {vs : List V} {ks : List Key}, Rvs Γ w xs vs → kys xs = some ks → vs = ks.map kV ∧ xs = ks.map keyA
  | [], _, _, .nil, h => by cases h; exact ⟨rfl, rfl⟩
  | x :: r, _, ks, .cons ha ht, h => by
    unfold kys at h
    cases e1 : ky1 x with
    | none => simp only [e1] at h; cases h
    | some k =>
      cases e2 : kys r with
      | none => simp only [e1, e2] at h; cases h
      | some ls =>
        simp only [e1, e2] at h
        cases h
        obtain ⟨rfl, rfl⟩ := ky1_ok ha e1
        obtain ⟨rfl, rfl⟩ := kys_ok ht e2
        exact ⟨rfl, rfl⟩
theorem kyOf_ok {k : Key ⊕ List Key} (rv : Rv Γ w a v) (h : kyOf a = some k) : (∃ k', k = .inl k' ∧ v = kV k' ∧ a = keyA k') ∨ ∃ ks p, k = .inr ks ∧ v = .ref p ∧ w.H p = some (.tup (ks.map kV)) ∧ a = tkA ks := by
  cases a with
  | tup xs =>
    cases rv with
    | @tup p _ vs n e r =>
      have h : (kys xs).map Sum.inr = some k := h
      obtain ⟨ks, e1, rfl⟩ := Option.map_eq_some_iff.mp h
      obtain ⟨rfl, rfl⟩ := kys_ok r e1
      exact .inr ⟨ks, _, rfl, rfl, e, rfl⟩
  | int i =>
    cases rv
    cases h
    exact .inl ⟨.inl i, rfl, rfl, rfl⟩
  | str x =>
    cases rv
    cases h
    exact .inl ⟨.inr x, rfl, rfl, rfl⟩
  | _ => cases h
end
/-- the value at a key; a key's value put in its place, or at the end -/
def dLook : List (A × A) → A → Option A
  | [], _ => none
  | (k', v) :: r, k => if kyOf k' = kyOf k then some v else dLook r k
def dHas (kvs : List (A × A)) (k : A) : Bool := kvs.any fun p => decide (kyOf p.1 = kyOf k)
def dPut (kvs : List (A × A)) (k v : A) : List (A × A) := if dHas kvs k = true then kvs.map (fun p => if kyOf p.1 = kyOf k then (p.1, v) else p) else kvs ++ [(k, v)]
/-- a key of the dict's kind -/
def kyFit (kvs : List (A × A)) (k : A) : Bool := match kyOf k with
  | none => false
  | some (.inl _) => kvs.all fun p => match kyOf p.1 with | some (.inl _) => true | _ => false
  | some (.inr _) => kvs.all fun p => match kyOf p.1 with | some (.inr _) => true | _ => false
def dicOf (a : A) (S : Sto) : Option (List (A × A)) := match a with
  | .fd kvs => some kvs
  | .ref k => match S[k]? with
    | some (.dic kvs) => some kvs
    | some (.ldic kvs) => some kvs
    | _ => none
  | _ => none
section
variable {Γ : Cfg} {w : Wd} {a k : A} {v y : V} {kvs : List (A × A)}
theorem dic_ok (rl : Rel Γ w) (rv : Rv Γ w a v) (h : dicOf a w.S = some kvs) : ∃ p, v = .ref p ∧ ((∃ kv, Rd w.H p (.dT kv) ∧ RkT Γ w kvs kv) ∨ ∃ kv, Rd w.H p (.dK kv) ∧ RkK Γ w kvs kv) := by
  cases rv with
  | fdT n e r => cases h; exact ⟨_, rfl, .inl ⟨_, e, r⟩⟩
  | fdK n e r => cases h; exact ⟨_, rfl, .inr ⟨_, e, r⟩⟩
  | @ref k p e =>
    unfold dicOf at h
    cases es : w.S[k]? with
    | none => simp only [es] at h; cases h
    | some ob =>
      simp only [es] at h
      cases ob with
      | dic kvs' =>
        cases h
        rcases rl.at_ k p _ e es with ⟨kv, e1, r⟩ | ⟨kv, e1, r⟩
        · exact ⟨_, rfl, .inl ⟨kv, .inl e1, r⟩⟩
        · exact ⟨_, rfl, .inr ⟨kv, .inl e1, r⟩⟩
      | ldic kvs' =>
        cases h
        rcases rl.at_ k p _ e es with ⟨o, kv, e1, r⟩ | ⟨o, kv, e1, r⟩
        · exact ⟨_, rfl, .inl ⟨kv, .inr ⟨o, e1⟩, r⟩⟩
        · exact ⟨_, rfl, .inr ⟨kv, .inr ⟨o, e1⟩, r⟩⟩
      | _ => cases h
  | _ => cases h
def OptR (Γ : Cfg) (w : Wd) : Option A → Option V → Prop
  | none, none => True
  | some a, some v => Rv Γ w a v
  | _, _ => False
theorem RkT.look {ks : List Key} (hk : kyOf k = some (.inr ks)) : ∀ {kvs : List (A × A)} {kv : List (List Key × V)}, RkT Γ w kvs kv → OptR Γ w (dLook kvs k) (valV kv ks)
  | _, _, .nil => trivial
  | _, _, @RkT.cons _ _ k' a v as vs h t => by
    show OptR Γ w (if kyOf (tkA k') = kyOf k then some a else dLook as k) _
    rw [kyOf_t, hk]
    by_cases e : k' = ks
    · subst e
      rw [if_pos rfl, valV_pos rfl]
      exact h
    · rw [if_neg (fun z => e (by cases z; rfl)), valV_neg e]
      exact RkT.look hk t
theorem RkK.look {k0 : Key} (hk : kyOf k = some (.inl k0)) : ∀ {kvs : List (A × A)} {kv : List (Key × V)}, RkK Γ w kvs kv → OptR Γ w (dLook kvs k) (valV kv k0)
  | _, _, .nil => trivial
  | _, _, @RkK.cons _ _ k' a v as vs h t => by
    show OptR Γ w (if kyOf (keyA k') = kyOf k then some a else dLook as k) _
    rw [kyOf_k, hk]
    by_cases e : k' = k0
    · subst e
      rw [if_pos rfl, valV_pos rfl]
      exact h
    · rw [if_neg (fun z => e (by cases z; rfl)), valV_neg e]
      exact RkK.look hk t
/-- a dict without items is of either kind -/
def GetR (H : Hp) (a : Addr) (y : V) (r : Option V) : Prop := DGet H a y r ∨ (r = none ∧ (((∃ k, y = kV k) ∧ Rd H a (.dT [])) ∨ ((∃ (b : Addr) (ks : List Key), y = .ref b ∧ H b = some (.tup (ks.map kV))) ∧ Rd H a (.dK []))))
theorem RkT.nil_of {kvs : List (A × A)} {kv : List (List Key × V)} (r : RkT Γ w kvs kv) (h : kvs = []) : kv = [] := by
  subst h
  cases r
  rfl
theorem RkK.nil_of {kvs : List (A × A)} {kv : List (Key × V)} (r : RkK Γ w kvs kv) (h : kvs = []) : kv = [] := by
  subst h
  cases r
  rfl
theorem dic_get (rl : Rel Γ w) (rv : Rv Γ w a v) (h : dicOf a w.S = some kvs) (rk : Rv Γ w k y) (fit : kyFit kvs k = true) : ∃ p r, v = .ref p ∧ GetR w.H p y r ∧ OptR Γ w (dLook kvs k) r := by
  obtain ⟨p, rfl, hd⟩ := dic_ok rl rv h
  unfold kyFit at fit
  cases hk : kyOf k with
  | none => rw [hk] at fit; cases fit
  | some q =>
    rw [hk] at fit
    rcases kyOf_ok rk hk with ⟨k0, rfl, rfl, _⟩ | ⟨ks, b, rfl, rfl, hb, _⟩
    · rcases hd with ⟨kv, e, r⟩ | ⟨kv, e, r⟩
      · have hn : kvs = [] := by
          cases r with
          | nil => rfl
          | cons h t =>
            simp only [List.all_cons, kyOf_t, Bool.false_and] at fit
            cases fit
        have := r.nil_of hn
        subst this
        subst hn
        exact ⟨p, none, rfl, .inr ⟨rfl, .inl ⟨⟨k0, rfl⟩, e⟩⟩, trivial⟩
      · exact ⟨p, _, rfl, .inl (.inl ⟨kv, k0, e, rfl, rfl⟩), r.look hk⟩
    · rcases hd with ⟨kv, e, r⟩ | ⟨kv, e, r⟩
      · exact ⟨p, _, rfl, .inl (.inr ⟨kv, ks, b, e, rfl, hb, rfl⟩), r.look hk⟩
      · have hn : kvs = [] := by
          cases r with
          | nil => rfl
          | cons h t =>
            simp only [List.all_cons, kyOf_k, Bool.false_and] at fit
            cases fit
        have := r.nil_of hn
        subst this
        subst hn
        exact ⟨p, none, rfl, .inr ⟨rfl, .inr ⟨⟨b, ks, rfl, hb⟩, e⟩⟩, trivial⟩
end
section
variable {P : Program} {w : World} {H : Hp} {h : Heap} {a : Addr}
theorem emptyT (ok : HOk P w H h) (e : Rd H a (.dK [])) : (a == sysModules) = false ∧ h.DictOfH (tupleKind (mixKind P w)) a [] := by
  obtain ⟨_, hd, vs, rel, o, es, ep, h1, h2, h3, h4, h5, h6⟩ := dk_rd ok e
  cases rel
  have : es.toList = [] := by
    generalize es.toList = l at h5
    cases h5
    rfl
  exact ⟨hd, o, es, ep, h1, h2, h3, this, (fun x hx => by cases hx), List.nodup_nil⟩
theorem emptyK (ok : HOk P w H h) (e : Rd H a (.dT [])) : (a == sysModules) = false ∧ h.DictOf (mixKind P w) a [] := by
  obtain ⟨_, hd, xs, rel, o, es, ep, h1, h2, h3, h4, _⟩ := dt_rd ok e
  cases rel
  have : es = #[] := by
    obtain ⟨l⟩ := es
    simp at h4
    rw [h4]
  subst this
  exact ⟨hd, o, #[], ep, h1, h2, h3, by intro x hx; simp at hx, .nil, List.nodup_nil⟩
end
section
variable {X : Cx} {pins : List (Addr × Obj)} {σ : L2.St} {H : Hp} {s : Shared} {a : Addr} {y d : V} {u r : Value} {o : Option V} {A' : Around} {E : Value → Shared → Prop}
theorem getR_type (I : Inv X pins σ H s) (g : GetR H a y o) : s.TypeIs (.ref a) "dict" := by
  rcases g with g | ⟨_, ⟨_, e⟩ | ⟨_, e⟩⟩
  · exact dict_typeIs I g
  · exact (emptyK I.hok e).2.typeIs
  · exact (emptyT I.hok e).2.typeIs
theorem x_in {Q : Value → Shared → Prop} (hu : A'.units + 1 < cLine) (I : Inv X pins σ H s) (g : GetR H a y o) (ry : RelV y u) (h : ∀ s', Inv X pins σ H s' → Q (.bool o.isSome) s') :
    wpAny (model X.prog X.w) A' (compareOp .In u (.ref a)) Q E s := by
  rcases g with g | ⟨rfl, ⟨⟨k, rfl⟩, e⟩ | ⟨⟨b, ks, rfl, hb⟩, e⟩⟩
  · exact d_in hu I g ry h
  · obtain ⟨hd, dd⟩ := emptyK I.hok e
    exact wpAny_in_of (kV_is ry) hd dd.mapOf (h _ (I.tok _))
  · cases (show u = Value.ref b from ry)
    obtain ⟨hd, dd⟩ := emptyT I.hok e
    exact wpAny_in_heap (tupleKind_room_in1 hu) (key_of I.hok hb) hd dd (h _ (I.tok _))
theorem x_notIn {Q : Value → Shared → Prop} (hu : A'.units + 1 < cLine) (I : Inv X pins σ H s) (g : GetR H a y o) (ry : RelV y u) (h : ∀ s', Inv X pins σ H s' → Q (.bool (!o.isSome)) s') :
    wpAny (model X.prog X.w) A' (compareOp .NotIn u (.ref a)) Q E s := by
  rcases g with g | ⟨rfl, ⟨⟨k, rfl⟩, e⟩ | ⟨⟨b, ks, rfl, hb⟩, e⟩⟩
  · exact d_notIn hu I g ry h
  · obtain ⟨hd, dd⟩ := emptyK I.hok e
    exact wpAny_notIn_of (kV_is ry) hd dd.mapOf (h _ (I.tok _))
  · cases (show u = Value.ref b from ry)
    obtain ⟨hd, dd⟩ := emptyT I.hok e
    exact wpAny_notIn_heap (tupleKind_room_in1 hu) (key_of I.hok hb) hd dd (h _ (I.tok _))
theorem x_get1 {Q : Value → Shared → Prop} (hu : A'.units + 1 < cLine) (I : Inv X pins σ H s) (g : GetR H a y o) (ry : RelV y u) (h : ∀ w' s', Inv X pins σ H s' → RelV (o.getD .non) w' → Q w' s') :
    wpAny (model X.prog X.w) A' (call (.builtin "dict.get") [.ref a, u]) Q E s := by
  rcases g with g | ⟨rfl, ⟨⟨k, rfl⟩, e⟩ | ⟨⟨b, ks, rfl, hb⟩, e⟩⟩
  · exact d_get1 hu I g ry h
  · obtain ⟨hd, dd⟩ := emptyK I.hok e
    exact call_meetsIn PySem.F.slot_dict_get dd.typeIs PySem.F.entry_dict_get (PySem.F.args_dict_get_2 _ _) (meets_dict_get (mixKind X.prog X.w) a (kV_is ry) hd) ⟨_, dd.mapOf, h _ _ (I.tok _) rfl⟩
  · cases (show u = Value.ref b from ry)
    obtain ⟨hd, dd⟩ := emptyT I.hok e
    exact call_meetsIn PySem.F.slot_dict_get dd.typeIs PySem.F.entry_dict_get (PySem.F.args_dict_get_2 _ _) (meetsH_dict_get (tupleKind (mixKind X.prog X.w)) a b hd) ⟨tupleKind_room_in1 hu, ks, [], key_of I.hok hb, dd, h _ _ (I.tok _) rfl⟩
theorem x_get2 {Q : Value → Shared → Prop} (hu : A'.units + 1 < cLine) (I : Inv X pins σ H s) (g : GetR H a y o) (ry : RelV y u) (rd : RelV d r) (h : ∀ w' s', Inv X pins σ H s' → RelV (o.getD d) w' → Q w' s') :
    wpAny (model X.prog X.w) A' (call (.builtin "dict.get") [.ref a, u, r]) Q E s := by
  rcases g with g | ⟨rfl, ⟨⟨k, rfl⟩, e⟩ | ⟨⟨b, ks, rfl, hb⟩, e⟩⟩
  · exact d_get2 hu I g ry rd h
  · obtain ⟨hd, dd⟩ := emptyK I.hok e
    exact call_meetsIn PySem.F.slot_dict_get dd.typeIs PySem.F.entry_dict_get (PySem.F.args_dict_get_3 _ _ _) (meets_dict_get_default (mixKind X.prog X.w) a (kV_is ry) hd r) ⟨_, dd.mapOf, h _ _ (I.tok _) rd⟩
  · cases (show u = Value.ref b from ry)
    obtain ⟨hd, dd⟩ := emptyT I.hok e
    exact call_meetsIn PySem.F.slot_dict_get dd.typeIs PySem.F.entry_dict_get (PySem.F.args_dict_get_3 _ _ _) (meetsH_dict_get_default (tupleKind (mixKind X.prog X.w)) a b hd r) ⟨tupleKind_room_in1 hu, ks, [], key_of I.hok hb, dd, h _ _ (I.tok _) rd⟩
/-- the other kind of an empty dict -/
theorem toT (I : Inv X pins σ H s) (h : H a = some (.dK [])) : Inv X pins σ (upd H a (.dT [])) s := by
  obtain ⟨hd, o, es, ep, h1, h2, h3, h4, _⟩ := emptyT I.hok (.inl h)
  exact I.write (x := a) (e := a) (t' := s.toks) (h' := s.heap) (by rw [h]; exact True.intro) (.inl rfl) (fun b v _ q => q) ⟨o, h1⟩ ⟨Nat.zero_le _, hd, [], .nil, o, es, ep, h1, h2, h3, h4, List.nodup_nil⟩
theorem toK (I : Inv X pins σ H s) (h : H a = some (.dT [])) : Inv X pins σ (upd H a (.dK [])) s := by
  obtain ⟨hd, o, es, ep, h1, h2, h3, h4⟩ := emptyK I.hok (.inl h)
  exact I.write (x := a) (e := a) (t' := s.toks) (h' := s.heap) (by rw [h]; exact True.intro) (.inl rfl) (fun b v _ q => q) ⟨o, h1⟩ ⟨Nat.zero_le _, hd, [], .nil, o, es, ep, h1, h2, h3, h4⟩
end
end FL

/-! ## A9: comparisons, items, slices, stores -/
namespace FL
open PySem PySem.Spec PyProof.Rows L2
variable [LT]
/-! ### == and the like -/
def eqM (neg : Bool) (a b : A) : M A := fun S => match flA a, flA b with
  | some x, some y => if scal x y = true then .ok (.bl (decide (x = y) != neg)) S else .no
  | _, _ => match datS S a, datS S b with
    | some x, some y => if SeqAt.shaped x = true ∧ SeqAt.shaped y = true then .ok (.bl (PyData.eqv x y != neg)) S else .no
    | _, _ => .no
section
variable {X : Cx}
theorem eq_imp {W : WX} {σ : L2.St} {w : Wd} {a b : A} {x y : V} {Q : VK} {neg : Bool} (rl : Rel (cf X) w) (ra : Rv (cf X) w a x) (rb : Rv (cf X) w b y) (o : Out (cf X) W σ (Rv (cf X)) w Q (eqM neg a b w.S)) :
    (scal x y = true ∧ Q (.bl (decide (x = y) != neg)) w.H) ∨ ∃ d e, Dp X.K w.H x d ∧ Dp X.K w.H y e ∧ SeqAt.shaped d = true ∧ SeqAt.shaped e = true ∧ Q (.bl (PyData.eqv d e != neg)) w.H := by
  unfold eqM at o
  have deep : Out (cf X) W σ (Rv (cf X)) w Q (match datS w.S a, datS w.S b with
    | some x, some y => if SeqAt.shaped x = true ∧ SeqAt.shaped y = true then .ok (.bl (PyData.eqv x y != neg)) w.S else .no
    | _, _ => .no) → ∃ d e, Dp X.K w.H x d ∧ Dp X.K w.H y e ∧ SeqAt.shaped d = true ∧ SeqAt.shaped e = true ∧ Q (.bl (PyData.eqv d e != neg)) w.H := fun o => by
    cases e1 : datS w.S a with
    | none => simp only [e1] at o; exact o.elim
    | some d =>
      cases e2 : datS w.S b with
      | none => simp only [e1, e2] at o; exact o.elim
      | some e =>
        simp only [e1, e2] at o
        by_cases hs : SeqAt.shaped d = true ∧ SeqAt.shaped e = true
        · rw [if_pos hs] at o
          exact ⟨d, e, datS_ok rl ra e1, datS_ok rl rb e2, hs.1, hs.2, o.here rl (.bl _)⟩
        · rw [if_neg hs] at o; exact o.elim
  cases e1 : flA a with
  | none => simp only [e1] at o; exact .inr (deep o)
  | some x' =>
    cases e2 : flA b with
    | none => simp only [e1, e2] at o; exact .inr (deep o)
    | some y' =>
      simp only [e1, e2] at o
      obtain ⟨rfl, _⟩ := flA_ok ra e1
      obtain ⟨rfl, _⟩ := flA_ok rb e2
      by_cases hs : scal x y = true
      · rw [if_pos hs] at o
        exact .inl ⟨hs, o.here rl (.bl _)⟩
      · rw [if_neg hs] at o; exact o.elim
theorem oa_eq (hu : X.A.units + 64 < cLine) : OpA X (compareOp .Eq) (eqM false) := OpA.of (op_eq.or (op_eqD hu)) fun W σ w a b x y Q rl ra rb o => by
  rcases eq_imp rl ra rb o with ⟨h1, h2⟩ | ⟨d, e, h1, h2, h3, h4, h5⟩
  · refine .inl ⟨h1, ?_⟩
    rw [Bool.bne_false] at h2
    exact h2
  · refine .inr ⟨d, e, h1, h2, h3, h4, ?_⟩
    rw [Bool.bne_false] at h5
    exact h5
theorem oa_ne (hu : X.A.units + 64 < cLine) : OpA X (compareOp .NotEq) (eqM true) := OpA.of (op_ne.or (op_neD hu)) fun W σ w a b x y Q rl ra rb o => by
  rcases eq_imp rl ra rb o with ⟨h1, h2⟩ | ⟨d, e, h1, h2, h3, h4, h5⟩
  · refine .inl ⟨h1, ?_⟩
    rw [Bool.bne_true] at h2
    exact h2
  · refine .inr ⟨d, e, h1, h2, h3, h4, ?_⟩
    rw [Bool.bne_true] at h5
    exact h5
/-- < of ints, of tuples of ints -/
def ltM (a b : A) : M A := match a, b with
  | .tup xs, .tup ys => match intsOf xs, intsOf ys with
    | some ns, some ms => ret (.bl (HT.lexLt ns ms))
    | _, _ => fail
  | a, b => ltI a b
theorem oa_lt (hu : X.A.units < cLine) : OpA X (compareOp .Lt) ltM := OpA.of (op_lt.or (op_ltT hu)) fun W σ w a b x y Q rl ra rb o => by
  have flat : Out (cf X) W σ (Rv (cf X)) w Q (ltI a b w.S) → (rI0 fun i j => .bl (decide (i < j))) x y w.H Q := fun o => oc_lt.imp W σ w a b x y Q rl ra rb o
  cases a with
  | tup xs =>
    cases b with
    | tup ys =>
      have o : Out (cf X) W σ (Rv (cf X)) w Q ((match intsOf xs, intsOf ys with
        | some ns, some ms => ret (.bl (HT.lexLt ns ms))
        | _, _ => fail : M A) w.S) := o
      cases e1 : intsOf xs with
      | none => simp only [e1] at o; exact o.elim
      | some ns =>
        cases e2 : intsOf ys with
        | none => simp only [e1, e2] at o; exact o.elim
        | some ms =>
          simp only [e1, e2] at o
          obtain ⟨p, vs, rfl, _, _, s1, r1⟩ := ra.sqt
          obtain ⟨q, us, rfl, _, _, s2, r2⟩ := rb.sqt
          rw [intsOf_ok e1] at r1
          rw [intsOf_ok e2] at r2
          rw [r1.ints] at s1
          rw [r2.ints] at s2
          exact .inr ⟨p, q, ns, ms, rfl, rfl, s1, s2, o.here rl (.bl _)⟩
    | _ => exact .inl (flat o)
  | _ => exact .inl (flat o)
theorem oa_le : OpA X (compareOp .LtE) leI := oc_le.a
theorem oa_gt : OpA X (compareOp .Gt) gtI := oc_gt.a
theorem oa_ge : OpA X (compareOp .GtE) geI := oc_ge.a
/-- is None, is not None -/
def isA : A → Bool
  | .non => true
  | _ => false
def isM (neg : Bool) (a b : A) : M A := match b with
  | .non => ret (.bl (isA a != neg))
  | _ => fail
theorem isA_ok {Γ : Cfg} {w : Wd} {a : A} {v : V} (r : Rv Γ w a v) : decide (v = V.non) = isA a := by
  cases r <;> rfl
theorem oa_is : OpA X (compareOp .Is) (isM false) := OpA.of op_isN fun W σ w a b x y Q rl ra rb o => by
  cases rb <;> first | exact o.elim | skip
  refine ⟨rfl, ?_⟩
  rw [isA_ok ra]
  have q := Out.here (R := Rv (cf X)) o rl (.bl _)
  rw [Bool.bne_false] at q
  exact q
theorem oa_isNot : OpA X (compareOp .IsNot) (isM true) := OpA.of op_notN fun W σ w a b x y Q rl ra rb o => by
  cases rb <;> first | exact o.elim | skip
  refine ⟨rfl, ?_⟩
  rw [isA_ok ra]
  have q := Out.here (R := Rv (cf X)) o rl (.bl _)
  rw [Bool.bne_true] at q
  exact q
/-- is of truths -/
def isB (a b : A) : M A := match a, b with
  | .bl x, .bl y => ret (.bl (decide (x = y)))
  | _, _ => fail
theorem oa_isB : OpA X (compareOp .Is) isB := OpA.of op_is_bl fun W σ w a b x y Q rl ra rb o => by
  cases ra <;> first | exact o.elim | skip
  cases rb <;> first | exact o.elim | skip
  exact ⟨_, _, rfl, rfl, Out.here (R := Rv (cf X)) o rl (.bl _)⟩
/-! ### in -/
def seqOf (a : A) (S : Sto) : Option (List A) := match a with
  | .tup xs => some xs
  | a => lstOf a S
theorem seq_ok {Γ : Cfg} {w : Wd} {a : A} {v : V} {xs : List A} (rl : Rel Γ w) (rv : Rv Γ w a v) (h : seqOf a w.S = some xs) : ∃ p vs, v = .ref p ∧ (SqL Γ.K w.H p vs ∨ SqT Γ.K w.H p vs) ∧ Rvs Γ w xs vs := by
  cases a with
  | tup ys =>
    cases h
    obtain ⟨p, vs, rfl, _, _, s1, r1⟩ := rv.sqt
    exact ⟨p, vs, rfl, .inr s1, r1⟩
  | _ =>
    obtain ⟨p, vs, rfl, s1, r1⟩ := lst_ok rl rv h
    exact ⟨p, vs, rfl, .inl s1, r1⟩
def inM (neg : Bool) (x c : A) : M A := fun S => match dicOf c S with
  | some kvs => if kyFit kvs x = true then .ok (.bl ((dLook kvs x).isSome != neg)) S else .no
  | none => match seqOf c S with
    | some xs => match flA x, flAs xs with
      | some v, some vs => .ok (.bl (inV v vs != neg)) S
      | _, _ => match dat x, dats xs, lstOf c S with
        | some d, some ds, some _ => if SeqAt.shaped d = true ∧ SeqAt.shaped (.list ds) = true then .ok (.bl ((ds.any fun z => PyData.eqv z d) != neg)) S else .no
        | _, _, _ => .no
    | none => .no
theorem optR_some {Γ : Cfg} {w : Wd} {a : Option A} {v : Option V} (h : OptR Γ w a v) : v.isSome = a.isSome := by
  cases a <;> cases v <;> first | rfl | exact h.elim
theorem in_run {W : WX} {op : CmpOp} {neg : Bool} (hu : X.A.units + 65 < cLine) (h1 : OpR X (compareOp op) (rIn X.K neg)) (h2 : OpR X (compareOp op) (fun x y H Q => ∃ d ds, Dp X.K H x d ∧ Dp X.K H y (.list ds) ∧ SeqAt.shaped d = true ∧ SeqAt.shaped (.list ds) = true ∧ Q (.bl ((ds.any fun z => PyData.eqv z d) != neg)) H))
    (h3 : ∀ (pins : List (Addr × Obj)) (σ : L2.St) (H : Hp) (s : Shared) (a : Addr) (y : V) (u : Value) (o : Option V) (Q : Value → Shared → Prop), Inv X pins σ H s → GetR H a y o → RelV y u → (∀ s', Inv X pins σ H s' → Q (.bool (o.isSome != neg)) s') → wpAny (model X.prog X.w) X.A (compareOp op u (.ref a)) Q X.xe s) :
    OpA X (compareOp op) (inM neg) := ⟨fun W tk pins s σ w a b x y v u Q I rl ra rb rx ry o => by
  unfold inM at o
  cases ed : dicOf b w.S with
  | some kvs =>
    simp only [ed] at o
    by_cases hf : kyFit kvs a = true
    · rw [if_pos hf] at o
      obtain ⟨p, r, rfl, g, op'⟩ := dic_get rl rb ed ra hf
      obtain rfl : u = Value.ref p := ry
      refine h3 pins σ w.H s p x v r _ I g rx fun s' I' => ⟨.bl (r.isSome != neg), w.H, I', rfl, ?_⟩
      rw [optR_some op']
      exact o.here rl (.bl _)
    · rw [if_neg hf] at o; exact o.elim
  | none =>
    simp only [ed] at o
    cases es : seqOf b w.S with
    | none => simp only [es] at o; exact o.elim
    | some xs =>
      simp only [es] at o
      have deep : Out (cf X) W σ (Rv (cf X)) w Q (match dat a, dats xs, lstOf b w.S with
        | some d, some ds, some _ => if SeqAt.shaped d = true ∧ SeqAt.shaped (.list ds) = true then .ok (.bl ((ds.any fun z => PyData.eqv z d) != neg)) w.S else .no
        | _, _, _ => .no) → wpAny (model X.prog X.w) X.A (compareOp op v u) (EP X pins σ Q) X.xe s := fun o => by
        cases e1 : dat a with
        | none => simp only [e1] at o; exact o.elim
        | some d =>
          cases e2 : dats xs with
          | none => simp only [e1, e2] at o; exact o.elim
          | some ds =>
            cases e3 : lstOf b w.S with
            | none => simp only [e1, e2, e3] at o; exact o.elim
            | some xs' =>
              simp only [e1, e2, e3] at o
              by_cases hs : SeqAt.shaped d = true ∧ SeqAt.shaped (.list ds) = true
              · rw [if_pos hs] at o
                have ex : xs' = xs := by
                  cases b with
                  | tup ys => cases e3
                  | _ => exact Option.some.inj (e3.symm.trans es)
                rw [ex] at e3
                obtain ⟨p, vs, rfl, s1, r1⟩ := lst_ok rl rb e3
                exact h2 pins s σ w.H x _ v u Q I rx ry ⟨d, ds, dat_ok ra e1, .lst s1 (dats_ok r1 e2), hs.1, hs.2, o.here rl (.bl _)⟩
              · rw [if_neg hs] at o; exact o.elim
      cases e1 : flA a with
      | none => simp only [e1] at o; exact deep o
      | some x' =>
        cases e2 : flAs xs with
        | none => simp only [e1, e2] at o; exact deep o
        | some vs' =>
          simp only [e1, e2] at o
          obtain ⟨p, vs, rfl, s1, r1⟩ := seq_ok rl rb es
          obtain ⟨rfl, f1⟩ := flA_ok ra e1
          obtain ⟨rfl, f2⟩ := flAs_ok r1 e2
          refine h1 pins s σ w.H x _ v u Q I rx ry ⟨p, vs, rfl, s1, f1, f2, ?_⟩
          have q := o.here rl (.bl _)
          cases neg with
          | true => rw [Bool.bne_true] at q; exact q
          | false => rw [Bool.bne_false] at q; exact q⟩
theorem oa_in (hu : X.A.units + 65 < cLine) : OpA X (compareOp .In) (inM false) := in_run (W := fun _ _ _ _ => False) hu op_in_seq (fun pins s σ H x y v u Q I rx ry ⟨d, ds, h1, h2, h3, h4, q⟩ => op_inD hu pins s σ H x y v u Q I rx ry ⟨d, ds, h1, h2, h3, h4, by rw [Bool.bne_false] at q; exact q⟩)
  fun pins σ H s a y u o Q I g ry h => x_in (by omega) I g ry fun s' I' => by have q := h s' I'; rw [Bool.bne_false] at q; exact q
theorem oa_notIn (hu : X.A.units + 65 < cLine) : OpA X (compareOp .NotIn) (inM true) := in_run (W := fun _ _ _ _ => False) hu op_notIn_seq (fun pins s σ H x y v u Q I rx ry ⟨d, ds, h1, h2, h3, h4, q⟩ => op_notInD hu pins s σ H x y v u Q I rx ry ⟨d, ds, h1, h2, h3, h4, by rw [Bool.bne_true] at q; exact q⟩)
  fun pins σ H s a y u o Q I g ry h => x_notIn (by omega) I g ry fun s' I' => by have q := h s' I'; rw [Bool.bne_true] at q; exact q
/-! ### a <= b < c of ints -/
def chainE (f g : A → A → M A) (ma mb mc : Lo → M A) (ρ : Lo) : M A := bnd (ma ρ) fun x => bnd (mb ρ) fun y => bnd (f x y) fun z => bnd (boolOf z) fun k => if k = true then bnd (mc ρ) fun u => g y u else ret (.bl false)
theorem ae_chain {G : Gs} {a b c : Expr} {op op' : CmpOp} {r r' : R2} {f g : A → A → M A} {ma mb mc : Lo → M A} {pos : Pos} (ho : OpC X (compareOp op) r f) (ho' : OpC X (compareOp op') r' g) (ha : AE X G a ma) (hb : AE X G b mb) (hc : AE X G c mc)
    (h : ∀ {ta tb tc : TE}, PE X a ta → PE X b tb → PE X c tc → PE X (.Compare a [op, op'] [b, c] pos) (tChain r r' ta tb tc) := by first | exact fun ha hb hc => pe_chain op_le op_lt ha hb hc | exact fun ha hb hc => pe_chain op_le op_le ha hb hc | exact fun ha hb hc => pe_chain op_lt op_lt ha hb hc | exact fun ha hb hc => pe_chain op_lt op_le ha hb hc) :
    AE X G (.Compare a [op, op'] [b, c] pos) (chainE f g ma mb mc) := fun W tk => (h (ha W tk) (hb W tk) (hc W tk)).imp fun σ H Q q => aG_step (R := Rv (cf X)) q fun w1 ρ x x' st1 rx o1 =>
  aG_of st1 (step (R := Rv (cf X)) st1 o1 fun w2 y y' st2 ex2 ry o2 => by
    refine ho.imp W σ w2 x y x' y' _ st2.rel (rx.ex ex2) ry ?_
    refine step (R := Rv (cf X)) st2 o2 fun w3 z z' st3 ex3 rz o3 => ?_
    cases rz <;> first | exact o3.elim | skip
    rename_i k
    refine ⟨k, rfl, ?_⟩
    cases k with
    | true =>
      rw [if_pos rfl]
      exact aG_of st3 (step (R := Rv (cf X)) st3 o3 fun w4 u u' st4 ex4 ru o4 => ho'.imp W σ w4 y u y' u' Q st4.rel ((ry.ex ex3).ex ex4) ru o4)
    | false =>
      rw [if_neg Bool.false_ne_true]
      exact Out.here (R := Rv (cf X)) o3 st3.rel (.bl false))
theorem at_chain {G : Gs} {a b c : Expr} {op op' : CmpOp} {r r' : R2} {f g : A → A → M A} {ma mb mc : Lo → M A} {pos : Pos} (ho : OpC X (compareOp op) r f) (ho' : OpC X (compareOp op') r' g) (ha : AE X G a ma) (hb : AE X G b mb) (hc : AE X G c mc)
    (h : ∀ {ta tb tc : TE}, PE X a ta → PE X b tb → PE X c tc → PT X (.Compare a [op, op'] [b, c] pos) (tTest (tChain r r' ta tb tc)) := by first | exact fun ha hb hc => pt_chain op_le op_lt ha hb hc | exact fun ha hb hc => pt_chain op_le op_le ha hb hc | exact fun ha hb hc => pt_chain op_lt op_lt ha hb hc | exact fun ha hb hc => pt_chain op_lt op_le ha hb hc) :
    AT X G (.Compare a [op, op'] [b, c] pos) (tst (chainE f g ma mb mc)) := fun W tk => (h (ha W tk) (hb W tk) (hc W tk)).imp fun σ H Q q => by
  have q : aG (cf X) W G (Rv (cf X)) (chainE f g ma mb mc) σ H fun x H' => ∃ k, x = .bl k ∧ Q k H' := aG_step (R := Rv (cf X)) q fun w1 ρ a x st1 rv o => by
    cases rv <;> first | exact o.elim | exact ⟨_, rfl, o.here st1.rel rfl⟩
  show tChain r r' (aE (cf X) W G ma) (aE (cf X) W G mb) (aE (cf X) W G mc) σ H fun x H' => ∃ k, x = .bl k ∧ Q k H'
  refine aG_step (R := Rv (cf X)) q fun w1 ρ x x' st1 rx o1 =>
   aG_of st1 (step (R := Rv (cf X)) st1 o1 fun w2 y y' st2 ex2 ry o2 => by
    refine ho.imp W σ w2 x y x' y' _ st2.rel (rx.ex ex2) ry ?_
    refine step (R := Rv (cf X)) st2 o2 fun w3 z z' st3 ex3 rz o3 => ?_
    cases rz <;> first | exact o3.elim | skip
    rename_i k
    refine ⟨k, rfl, ?_⟩
    cases k with
    | true =>
      rw [if_pos rfl]
      exact aG_of st3 (step (R := Rv (cf X)) st3 o3 fun w4 u u' st4 ex4 ru o4 => ho'.imp W σ w4 y u y' u' _ st4.rel ((ry.ex ex3).ex ex4) ru o4)
    | false =>
      rw [if_neg Bool.false_ne_true]
      exact Out.here (R := Rv (cf X)) o3 st3.rel (.bl false))
end
end FL

/-! ## A10: items, slices, stores, methods and functions of lists -/
namespace FL
open PySem PySem.Spec PyProof.Rows L2
variable [LT]
def getAt (xs : List A) (i : Int) : Option A := atI xs i
theorem getAt_ok {Γ : Cfg} {w : Wd} {xs : List A} {vs : List V} {i : Int} {a : A} (r : Rvs Γ w xs vs) (h : getAt xs i = some a) : ∃ v, atI vs i = some v ∧ Rv Γ w a v := by
  unfold getAt atI at h
  unfold atI
  rw [r.len]
  cases e : ixN xs.length i with
  | none => rw [e] at h; cases h
  | some j =>
    rw [e] at h
    exact r.getA h
def ixM (a b : A) : M A := fun S => match dicOf a S with
  | some kvs => if kyFit kvs b = true then match dLook kvs b with
      | some v => .ok v S
      | none => .no
    else .no
  | none => match seqOf a S, b with
    | some xs, .int i => match getAt xs i with
      | some v => .ok v S
      | none => .no
    | _, _ => .no
section
variable {X : Cx} {G : Gs} {a b e o i : Expr} {es : List Expr} {ma mb me mo mi : Lo → M A} {ml : Lo → M (List A)} {pos pos' : Pos}
theorem tail_of {prog : Program} {w : World} {A' : Around} {E : Value → Shared → Prop} {s : Shared} {value slice : Expr} {T id : String} {v u : Value} {Q : Value → Shared → Prop}
    (hT : s.TypeIs v T) (hl : typeLookup (.type T) "__getitem__" = pure (some (.builtin id))) (hs : subscripted slice false v u = operate [v, u] (getItem v u))
    (h : wpAny (model prog w) A' (getItem v u) Q E s) : wpAny (model prog w) A' (subscriptTail value slice v u) Q E s := by
  unfold subscriptTail
  refine wpAny_bind ?_
  rw [getitemInPython_of_ne hT.not_modules]
  refine wpAny_bind (wpAny_specialOf hT hl ?_)
  have fin : wpAny (model prog w) A' (subscripted slice false v u) (fun r s₃ => wpAny (model prog w) A' (letTemporaryGo value v r >>= fun _ => pure r) Q E s₃) E s := by
    rw [hs]
    exact wpAny_operating (wpAny_mono h (fun r s₃ h₃ => wpAny_bind (wpAny_letTemporaryGo (wpAny_pure h₃))) fun _ _ x => x)
  first
    | exact wpAny_pure (wpAny_bind fin)
    | exact wpAny_pure (wpAny_pure (wpAny_bind fin))
    | exact wpAny_bind (wpAny_pure (wpAny_bind fin))
theorem ae_ix (hu : X.A.units + 1 < cLine) (ha : AE X G a ma) (hb : AE X G b mb) (hs : PlainIx b) : AE X G (.Subscript a b pos) (op2 ixM ma mb) := fun W tk => ⟨fun pins s σ H Q I h => by
  refine Subscript_ (two (g := fun v u => subscriptTail a b v u) ha hb tk ⟨fun W tk pins s σ w a' b' x y v u Q I rl ra rb rx ry o => ?_⟩ I h)
  unfold ixM at o
  cases ed : dicOf a' w.S with
  | some kvs =>
    simp only [ed] at o
    by_cases hf : kyFit kvs b' = true
    · rw [if_pos hf] at o
      obtain ⟨p, r, rfl, g, op'⟩ := dic_get rl ra ed rb hf
      obtain rfl : v = Value.ref p := rx
      cases el : dLook kvs b' with
      | none => simp only [el] at o; exact o.elim
      | some c =>
        simp only [el] at o
        rw [el] at op'
        cases r with
        | none => exact op'.elim
        | some z =>
          refine tail_of (getR_type I g) PySem.F.slot_dict_getitem.lookup (hs _ _) ?_
          rcases g with g | ⟨q, _⟩
          · exact d_getItem hu I g ry fun w' s3 I3 rw' => ⟨z, w.H, I3, rw', o.here rl op'⟩
          · cases q
    · rw [if_neg hf] at o; exact o.elim
  | none =>
    simp only [ed] at o
    cases es : seqOf a' w.S with
    | none => simp only [es] at o; exact o.elim
    | some xs =>
      cases b' with
      | int i =>
        simp only [es] at o
        cases eg : getAt xs i with
        | none => simp only [eg] at o; exact o.elim
        | some c =>
          simp only [eg] at o
          obtain ⟨p, vs, rfl, sq, r1⟩ := seq_ok rl ra es
          obtain ⟨z, hz, rz⟩ := getAt_ok r1 eg
          cases rb
          rcases sq with sq | sq
          · exact ix_list a b pins s σ w.H _ _ v u Q I rx ry ⟨p, vs, i, z, rfl, rfl, sq, hz, o.here rl rz⟩ (hs _ _)
          · exact ix_tup a b pins s σ w.H _ _ v u Q I rx ry ⟨p, vs, i, z, rfl, rfl, sq, hz, o.here rl rz⟩ (hs _ _)
      | _ => simp only [es] at o; exact o.elim⟩
/-! ### slices -/
def RO' : Wd → Option Int → Option Int → Prop := fun _ a b => a = b
def AO (X : Cx) (G : Gs) (e : Option Expr) (m : Lo → M (Option Int)) : Prop := ∀ W, Takes X W → PO X e (aG (cf X) W G RO' m)
def noPart (_ : Lo) : M (Option Int) := ret none
def partOf (me : Lo → M A) (ρ : Lo) : M (Option Int) := bnd (me ρ) fun
  | .int i => ret (some i)
  | _ => fail
theorem _root_.L2.PO.imp {X : Cx} {e : Option Expr} {t t' : TO} (h : PO X e t) (i : ∀ σ H Q, t' σ H Q → t σ H Q) : PO X e t' := ⟨fun pins s σ H Q I q => h.run pins s σ H Q I (i σ H Q q)⟩
theorem ao_none : AO X G none noPart := fun W _ => po_none.imp fun σ H Q q => by
  obtain ⟨w, ρ, rfl, st, o⟩ := q
  exact Out.here (R := RO') o st.rel rfl
theorem ao_some (h : AE X G e me) : AO X G (some e) (partOf me) := fun W tk => (po_some (h W tk)).imp fun σ H Q q => aG_step (R := Rv (cf X)) q fun w1 ρ a x st1 rv o => by
  cases rv <;> first | exact o.elim | skip
  exact ⟨_, rfl, Out.here (R := RO') o st1.rel rfl⟩
def cutA (xs : List A) (lo hi : Option Int) : List A := (xs.drop (HT.sIx xs.length 0 lo)).take (HT.sIx xs.length xs.length hi - HT.sIx xs.length 0 lo)
theorem cut_rel {Γ : Cfg} {w : Wd} {xs : List A} {vs : List V} (r : Rvs Γ w xs vs) (lo hi : Option Int) : Rvs Γ w (cutA xs lo hi) (cutV vs lo hi) := by
  unfold cutA cutV
  rw [r.len]
  exact (r.drop _).take _
def slM (a : A) (lo hi : Option Int) : M A := fun S => match a with
  | .tup xs => .ok (.tup (cutA xs lo hi)) S
  | a => match lstOf a S with
    | some xs => .ok (.fl (cutA xs lo hi)) S
    | none => .no
def slE (ma : Lo → M A) (ml mh : Lo → M (Option Int)) (ρ : Lo) : M A := bnd (ma ρ) fun a => bnd (ml ρ) fun l => bnd (mh ρ) fun h => slM a l h
theorem ae_slice {lo hi : Option Expr} {ml mh : Lo → M (Option Int)} {p2 : Pos} (ha : AE X G a ma) (hl : AO X G lo ml) (hh : AO X G hi mh) : AE X G (.Subscript a (.Slice lo hi none p2) pos) (slE ma ml mh) := fun W tk => (pe_slice (sl_tupA.or sl_list) (ha W tk) (hl W tk) (hh W tk)).imp fun σ H Q q =>
  aG_step (R := Rv (cf X)) q fun w1 ρ x x' st1 rx o1 => aG_of st1 (step (R := RO') st1 o1 fun w2 l l' st2 ex2 rl o2 => aG_of st2 (step (R := RO') st2 o2 fun w3 h h' st3 ex3 rh o3 => by
    cases rl
    cases rh
    have rx3 := (rx.ex ex2).ex ex3
    have lists : ∀ xs, lstOf x w3.S = some xs → Out (cf X) W σ (Rv (cf X)) w3 Q (.ok (.fl (cutA xs l h)) w3.S) → rSlL X.K x' l h w3.H Q := fun xs e o => by
      obtain ⟨p, vs, rfl, sq, r1⟩ := lst_ok st3.rel rx3 e
      exact ⟨p, vs, rfl, sq, fun q hq => o.fl st3.rel (cut_rel r1 l h) hq⟩
    unfold slM at o3
    cases x with
    | tup xs =>
      obtain ⟨p, vs, rfl, n1, e1, sq, r1⟩ := rx3.sqt
      refine .inl ⟨p, vs, rfl, sq, fun hw => ?_, fun _ q hq => Out.tup o3 st3.rel (cut_rel r1 l h) hq⟩
      have ec : cutA xs l h = xs := by
        unfold cutA
        rw [r1.len] at hw
        rw [hw.1, hw.2]
        simp
      have o3 : Out (cf X) W σ (Rv (cf X)) w3 Q (.ok (.tup (cutA xs l h)) w3.S) := o3
      rw [ec] at o3
      exact o3.here st3.rel rx3
    | fl xs => exact .inr (lists xs rfl o3)
    | scr xs => exact .inr (lists xs rfl o3)
    | ref k =>
      dsimp only at o3
      cases el : lstOf (.ref k) w3.S with
      | none => simp only [el] at o3; exact o3.elim
      | some xs => simp only [el] at o3; exact .inr (lists xs el o3)
    | _ => exact o3.elim))
/-- xs[::-1] -/
def revM (a : A) : M A := fun S => match lstOf a S with
  | some xs => .ok (.fl xs.reverse) S
  | none => .no
theorem ae_rev {k : Nat} {p1 p2 p3 : Pos} (ha : AE X G a ma) : AE X G (.Subscript a (.Slice none none (some (.UnaryOp .USub (.Constant (.int 1) k p1) p2)) p3) pos) (op1 revM ma) := fun W tk => (pe_revL (ha W tk)).imp fun σ H Q q => aG_step (R := Rv (cf X)) q fun w1 ρ x x' st1 rx o => by
  unfold revM at o
  cases el : lstOf x w1.S with
  | none => simp only [el] at o; exact o.elim
  | some xs =>
    simp only [el] at o
    obtain ⟨p, vs, rfl, sq, r1⟩ := lst_ok st1.rel rx el
    exact ⟨p, vs, rfl, sq, fun q hq => o.fl st1.rel r1.rev hq⟩
/-! ### stores -/
def setM (a b c : A) (S : Sto) : Option Sto := match a with
  | .ref k => match S[k]? with
    | some (.lst xs) => match b with
      | .int i => match ixN xs.length i with
        | some j => some (S.set k (.lst (xs.set j c)))
        | none => none
      | _ => none
    | some (.dic kvs) => if kyFit kvs b = true ∧ kvs.length < 100000 then some (S.set k (.dic (dPut kvs b c))) else none
    | _ => none
  | _ => none
def tSetA (Γ : Cfg) : TSet := fun o i v H Q => ∃ (w : Wd) (a b c : A), w.H = H ∧ Rel Γ w ∧ Rv Γ w a o ∧ Rv Γ w b i ∧ Rv Γ w c v ∧ ∃ S', setM a b c w.S = some S' ∧ ∀ w' : Wd, w'.S = S' → Ex w w' → Rel Γ w' → Q w'.H
theorem dHas_T {Γ : Cfg} {w : Wd} {k : A} {ks : List Key} (hk : kyOf k = some (.inr ks)) : ∀ {kvs : List (A × A)} {kv : List (List Key × V)}, RkT Γ w kvs kv → (kv.any fun p => decide (p.1 = ks)) = dHas kvs k
  | _, _, .nil => rfl
  | _, _, @RkT.cons _ _ k' a v as vs h t => by
    show (decide (k' = ks) || _) = (decide (kyOf (tkA k') = kyOf k) || _)
    rw [kyOf_t, hk]
    have ih := dHas_T hk t
    unfold dHas at ih
    rw [hk] at ih
    rw [ih]
    have : decide (k' = ks) = decide ((some (Sum.inr k') : Option (Key ⊕ List Key)) = some (Sum.inr ks)) := by
      rw [Bool.eq_iff_iff]; simp
    rw [this]
theorem map_T {Γ : Cfg} {w : Wd} {k c : A} {z : V} {ks : List Key} (hk : kyOf k = some (.inr ks)) (rc : Rv Γ w c z) : ∀ {kvs : List (A × A)} {kv : List (List Key × V)}, RkT Γ w kvs kv → RkT Γ w (kvs.map (fun p => if kyOf p.1 = kyOf k then (p.1, c) else p)) (kv.map (fun p => if p.1 = ks then (p.1, z) else p))
  | _, _, .nil => .nil
  | _, _, @RkT.cons _ _ k' a v as vs h t => by
    rw [List.map_cons, List.map_cons]
    show RkT Γ w ((if kyOf (tkA k') = kyOf k then (tkA k', c) else (tkA k', a)) :: _) ((if k' = ks then (k', z) else (k', v)) :: _)
    rw [kyOf_t, hk]
    have ih := map_T hk rc t
    rw [hk] at ih
    by_cases e : k' = ks
    · rw [if_pos (by rw [e]), if_pos e]
      exact .cons rc ih
    · rw [if_neg (fun z => e (by cases z; rfl)), if_neg e]
      exact .cons h ih
theorem RkT.app {Γ : Cfg} {w : Wd} : ∀ {a b : List (A × A)} {u v : List (List Key × V)}, RkT Γ w a u → RkT Γ w b v → RkT Γ w (a ++ b) (u ++ v)
  | _, _, _, _, .nil, s => s
  | _, _, _, _, .cons h t, s => .cons h (RkT.app t s)
theorem RkT.put {Γ : Cfg} {w : Wd} {k c : A} {z : V} {ks : List Key} {kvs : List (A × A)} {kv : List (List Key × V)} (hk : kyOf k = some (.inr ks)) (he : k = tkA ks) (rc : Rv Γ w c z) (r : RkT Γ w kvs kv) : RkT Γ w (dPut kvs k c) (putK kv ks z) := by
  unfold dPut putK
  rw [dHas_T hk r]
  by_cases h : dHas kvs k = true
  · rw [if_pos h, if_pos h]; exact map_T hk rc r
  · rw [if_neg h, if_neg h]
    subst he
    exact r.app (.cons rc .nil)
theorem dHas_K {Γ : Cfg} {w : Wd} {k : A} {ks : Key} (hk : kyOf k = some (.inl ks)) : ∀ {kvs : List (A × A)} {kv : List (Key × V)}, RkK Γ w kvs kv → (kv.any fun p => decide (p.1 = ks)) = dHas kvs k
  | _, _, .nil => rfl
  | _, _, @RkK.cons _ _ k' a v as vs h t => by
    show (decide (k' = ks) || _) = (decide (kyOf (keyA k') = kyOf k) || _)
    rw [kyOf_k, hk]
    have ih := dHas_K hk t
    unfold dHas at ih
    rw [hk] at ih
    rw [ih]
    have : decide (k' = ks) = decide ((some (Sum.inl k') : Option (Key ⊕ List Key)) = some (Sum.inl ks)) := by
      rw [Bool.eq_iff_iff]; simp
    rw [this]
theorem map_K {Γ : Cfg} {w : Wd} {k c : A} {z : V} {ks : Key} (hk : kyOf k = some (.inl ks)) (rc : Rv Γ w c z) : ∀ {kvs : List (A × A)} {kv : List (Key × V)}, RkK Γ w kvs kv → RkK Γ w (kvs.map (fun p => if kyOf p.1 = kyOf k then (p.1, c) else p)) (kv.map (fun p => if p.1 = ks then (p.1, z) else p))
  | _, _, .nil => .nil
  | _, _, @RkK.cons _ _ k' a v as vs h t => by
    rw [List.map_cons, List.map_cons]
    show RkK Γ w ((if kyOf (keyA k') = kyOf k then (keyA k', c) else (keyA k', a)) :: _) ((if k' = ks then (k', z) else (k', v)) :: _)
    rw [kyOf_k, hk]
    have ih := map_K hk rc t
    rw [hk] at ih
    by_cases e : k' = ks
    · rw [if_pos (by rw [e]), if_pos e]
      exact .cons rc ih
    · rw [if_neg (fun z => e (by cases z; rfl)), if_neg e]
      exact .cons h ih
theorem RkK.app {Γ : Cfg} {w : Wd} : ∀ {a b : List (A × A)} {u v : List (Key × V)}, RkK Γ w a u → RkK Γ w b v → RkK Γ w (a ++ b) (u ++ v)
  | _, _, _, _, .nil, s => s
  | _, _, _, _, .cons h t, s => .cons h (RkK.app t s)
theorem RkK.put {Γ : Cfg} {w : Wd} {k c : A} {z : V} {ks : Key} {kvs : List (A × A)} {kv : List (Key × V)} (hk : kyOf k = some (.inl ks)) (he : k = keyA ks) (rc : Rv Γ w c z) (r : RkK Γ w kvs kv) : RkK Γ w (dPut kvs k c) (putK kv ks z) := by
  unfold dPut putK
  rw [dHas_K hk r]
  by_cases h : dHas kvs k = true
  · rw [if_pos h, if_pos h]; exact map_K hk rc r
  · rw [if_neg h, if_neg h]
    subst he
    exact r.app (.cons rc .nil)
theorem RkT.len {Γ : Cfg} {w : Wd} : ∀ {a : List (A × A)} {u : List (List Key × V)}, RkT Γ w a u → u.length = a.length
  | _, _, .nil => rfl
  | _, _, .cons _ t => by rw [List.length_cons, List.length_cons, RkT.len t]
theorem RkK.len {Γ : Cfg} {w : Wd} : ∀ {a : List (A × A)} {u : List (Key × V)}, RkK Γ w a u → u.length = a.length
  | _, _, .nil => rfl
  | _, _, .cons _ t => by rw [List.length_cons, List.length_cons, RkK.len t]
theorem fit_T {Γ : Cfg} {w : Wd} {k : A} {k0 : Key} {kvs : List (A × A)} {kv : List (List Key × V)} (hk : kyOf k = some (.inl k0)) (fit : kyFit kvs k = true) (r : RkT Γ w kvs kv) : kvs = [] := by
  unfold kyFit at fit
  rw [hk] at fit
  cases r with
  | nil => rfl
  | cons h t =>
    simp only [List.all_cons, kyOf_t, Bool.false_and] at fit
    cases fit
theorem fit_K {Γ : Cfg} {w : Wd} {k : A} {ks : List Key} {kvs : List (A × A)} {kv : List (Key × V)} (hk : kyOf k = some (.inr ks)) (fit : kyFit kvs k = true) (r : RkK Γ w kvs kv) : kvs = [] := by
  unfold kyFit at fit
  rw [hk] at fit
  cases r with
  | nil => rfl
  | cons h t =>
    simp only [List.all_cons, kyOf_k, Bool.false_and] at fit
    cases fit
/-- d[k] = v in the store -/
theorem dput_run {pins : List (Addr × Obj)} {s : Shared} {σ : L2.St} {w : Wd} {k : Nat} {p : Addr} {b c : A} {y z : V} {iv u : Value} {kvs : List (A × A)} {Q : Unit → Shared → Prop} {E : Value → Shared → Prop} (hu : X.A.units + 1 < cLine) (I : Inv X pins σ w.H s) (rl : Rel (cf X) w) (hi : w.ι[k]? = some p) (es : w.S[k]? = some (.dic kvs)) (rb : Rv (cf X) w b y) (rc : Rv (cf X) w c z) (ry : RelV y iv) (rz : RelV z u) (fit : kyFit kvs b = true) (hl : kvs.length < 100000)
    (q : ∀ (w' : Wd) (s' : Shared), w'.S = w.S.set k (.dic (dPut kvs b c)) → Ex w w' → Rel (cf X) w' → Inv X pins σ w'.H s' → Q () s') : wpAny (model X.prog X.w) X.A (setItem (.ref p) iv u) Q E s := by
  have fin : ∀ (H2 : Hp) (uo : HO), (∀ q o, q ≠ p → H2 q = w.H q) → (∀ w', w'.H = upd H2 p uo → w'.ι = w.ι → w'.S = w.S.set k (.dic (dPut kvs b c)) → Ex w w' → ObR (cf X) w' p (.dic (dPut kvs b c))) → ∀ s', Inv X pins σ (upd H2 p uo) s' → Q () s' := fun H2 uo h2 ho s' I' => by
    have eH : upd H2 p uo = upd w.H p uo := by
      funext x
      by_cases hx : x = p
      · rw [hx, upd_same, upd_same]
      · rw [upd_ne hx, upd_ne hx]; exact h2 x uo hx
    have ex : Ex w ⟨w.ι, w.S.set k (.dic (dPut kvs b c)), upd w.H p uo, w.x⟩ := Ex.set rl hi es rfl rfl
    have rl' : Rel (cf X) ⟨w.ι, w.S.set k (.dic (dPut kvs b c)), upd w.H p uo, w.x⟩ := rl.set hi es rfl rfl (ho _ eH.symm rfl rfl ex)
    refine q ⟨w.ι, _, upd w.H p uo, w.x⟩ s' rfl ex rl' ?_
    rw [eH] at I'
    exact I'
  cases hk : kyOf b with
  | none => unfold kyFit at fit; rw [hk] at fit; cases fit
  | some kk =>
    rcases kyOf_ok rb hk with ⟨k0, rfl, rfl, he⟩ | ⟨ks, pb, rfl, rfl, hpb, he⟩
    · rcases rl.at_ k p _ hi es with ⟨kv, e, r⟩ | ⟨kv, e, r⟩
      · have hn := fit_T hk fit r
        have hn2 := r.nil_of hn
        subst hn2
        have I2 := toK I e
        refine d_setItem hu I2 (DPut.k (k := k0) (v := z) upd_same (by show 0 < sizeLine; decide)) ry rz (fin _ _ (fun q o hq => upd_ne hq) fun w' h1 h2 h3 ex => .inr ⟨_, by rw [h1, upd_same], ?_⟩)
        subst hn
        exact RkK.put hk he (rc.ex ex) .nil
      · refine d_setItem hu I (DPut.k (k := k0) (v := z) e (by rw [r.len]; exact szl hl)) ry rz (fin _ _ (fun q o hq => rfl) fun w' h1 h2 h3 ex => .inr ⟨_, by rw [h1, upd_same], ?_⟩)
        exact RkK.put hk he (rc.ex ex) (r.ex ex)
    · rcases rl.at_ k p _ hi es with ⟨kv, e, r⟩ | ⟨kv, e, r⟩
      · refine d_setItem hu I (DPut.t (v := z) e hpb (by rw [r.len]; exact szl hl)) ry rz (fin _ _ (fun q o hq => rfl) fun w' h1 h2 h3 ex => .inl ⟨_, by rw [h1, upd_same], ?_⟩)
        exact RkT.put hk he (rc.ex ex) (r.ex ex)
      · have hn := fit_K hk fit r
        have hn2 := r.nil_of hn
        subst hn2
        have I2 := toT I e
        have npb : pb ≠ p := fun z => by rw [z, e] at hpb; cases hpb
        refine d_setItem hu I2 (DPut.t (k := ks) (v := z) upd_same (by rw [upd_ne npb]; exact hpb) (by show 0 < sizeLine; decide)) ry rz (fin _ _ (fun q o hq => upd_ne hq) fun w' h1 h2 h3 ex => .inl ⟨_, by rw [h1, upd_same], ?_⟩)
        subst hn
        exact RkT.put hk he (rc.ex ex) .nil
theorem set_A (hu : X.A.units + 1 < cLine) : PSet X (tSetA (cf X)) := fun pins s σ H o i v ov iv u Q I ro ri rv h => by
  obtain ⟨w, a, b, c, rfl, rl, ra, rb, rc, S', hS, q⟩ := h
  unfold setM at hS
  cases ra with
  | @ref k p hi =>
    cases es : w.S[k]? with
    | none => simp only [es] at hS; cases hS
    | some ob =>
      cases ob with
      | lst xs =>
        simp only [es] at hS
        cases b with
        | int j =>
          dsimp only at hS
          cases ej : ixN xs.length j with
          | none => simp only [ej] at hS; cases hS
          | some n =>
            simp only [ej] at hS
            cases hS
            cases rb
            obtain ⟨vs, e1, r⟩ := rl.at_ k p _ hi es
            have ex := Ex.set rl (ob := .lst (xs.set n c)) (u := .lst (vs.set n v)) hi es rfl rfl
            have rl' := rl.set (ob := .lst (xs.set n c)) (u := .lst (vs.set n v)) hi es rfl rfl ⟨_, upd_same, Rvs.set (rc.ex ex) n (r.ex ex)⟩
            exact set_list pins s σ w.H _ _ v ov iv u Q I ro ri rv ⟨p, vs, j, n, rfl, rfl, e1, by rw [r.len]; exact ej, q ⟨w.ι, _, _, w.x⟩ rfl ex rl'⟩
        | _ => cases hS
      | dic kvs =>
        simp only [es] at hS
        by_cases hf : kyFit kvs b = true ∧ kvs.length < 100000
        · rw [if_pos hf] at hS
          cases hS
          obtain rfl : ov = Value.ref p := ro
          exact dput_run hu I rl hi es rb rc ri rv hf.1 hf.2 fun w' s' h1 h2 h3 I' => ⟨w'.H, I', q w' h1 h2 h3⟩
        · rw [if_neg hf] at hS; cases hS
      | _ => simp only [es] at hS; cases hS
  | _ => cases hS
def subS (mo mi me : Lo → M A) : SM := letG me fun c => letG mo fun a => letG mi fun b ρ S => match setM a b c S with
  | some S' => .nx ρ S'
  | none => .no
theorem as_sub (hu : X.A.units + 1 < cLine) (ho : AE X G o mo) (hi : AE X G i mi) (he : AE X G e me)
    (ha : ∀ v, assign (.Subscript o i pos') X.env v = (do
      let ov ← holding [v] (eval o X.env)
      let iv ← holding [v, ov] (eval i X.env)
      standAt pos'
      holding [v, ov, iv] (setItem ov iv v)
      release [v, ov, iv] []) := by intro _; rfl)
    (hs : swapsWithSole [.Subscript o i pos'] e pos.line X.env = pure false := by rfl) (hw : swappedStores [.Subscript o i pos'] e X.env = pure none := by rfl) (h1 : (assignEach [.Subscript o i pos'] X.env).map (·.2) = [assign (.Subscript o i pos') X.env] := by rfl) :
    AS X G (.Assign [.Subscript o i pos'] e pos) (subS mo mi me) := fun W tk => (ps_asg (he W tk) (pg_sub (ho W tk) (hi W tk) (set_A hu) ha) hs hw h1).imp fun D σ H q =>
  aS_step (R := Rv (cf X)) q fun w1 ρ c v st1 rc o1 => ⟨w1, ρ, rfl, st1, stepS (R := Rv (cf X)) st1 o1 fun w2 a x st2 ex2 ra o2 => ⟨w2, ρ, rfl, st2, stepS (R := Rv (cf X)) st2 o2 fun w3 b y st3 ex3 rb o3 => by
    cases hS : setM a b c w3.S with
    | none => rw [hS] at o3; exact o3.elim
    | some S' =>
      rw [hS] at o3
      exact ⟨w3, a, b, c, rfl, st3.rel, ra.ex ex3, rb, (rc.ex ex2).ex ex3, S', hS, fun w' h1 h2 h3 => o3 w' σ h1 h2 (st3.ex h2 h3)⟩⟩⟩
end
end FL

/-! ## A11: functions and methods of built-in types -/
namespace FL
open PySem PySem.Spec PyProof.Rows L2
variable [LT]
section
variable {X : Cx} {G : Gs} {e o : Expr} {es : List Expr} {me mo : Lo → M A} {ml : Lo → M (List A)} {x : Str} {p pos apos cpos : Pos} {id T : String}
/-- f(e, ..), f a built-in function or type -/
def callB (g : List A → M A) (ml : Lo → M (List A)) (ρ : Lo) : M A := bnd (ml ρ) g
theorem ae_callB {g : List A → M A} (hc : CallA X (.builtin id) g) (hg : Gl X x) (hm : X.mg x = none) (hv : bootBuiltins x = some (.builtin id)) (ha : AA X G (e :: es) ml) (hn : x ≠ "__name__" := by decide) (hdb : (x == ("__debug__" : Str)) = false := by decide)
    (he : starEach (e :: es) X.env = (false, eval e X.env) :: starEach es X.env := by rfl) (hpl : (backTo pos (starEach es X.env)).any (·.1) = false := by rfl) : AE X G (.Call (.Name x p) (e :: es) [] pos) (callB g ml) := fun W tk => ⟨fun pins s σ H Q I h => by
  refine wpAny_Call_Name_kw (ld_blt I hg hm hv ?_ hn hdb)
  refine PyProof.Rows.callWith_builtin1 (thn ((ha W tk).run pos pins s σ H _ I (aG_step (R := Rvs (cf X)) (Q' := fun vs H1 => ∃ w1 as, w1.H = H1 ∧ Rel (cf X) w1 ∧ Rvs (cf X) w1 as vs ∧ Out (cf X) W σ (Rv (cf X)) w1 Q (g as w1.S)) h fun w1 ρ as vs st1 rv o => ⟨w1, as, rfl, st1.rel, rv, o⟩)) fun us s1 ⟨vs, H1, I1, r1, w1, as, e1, rl, rv, o⟩ => ?_) he hpl
  subst e1
  exact hc.run W tk pins s1 σ w1 as vs us Q I1 rl rv r1 o⟩
theorem ae_callTy {g : List A → M A} (hc : CallA X (.type T) g) (hg : Gl X x) (hm : X.mg x = none) (hv : bootBuiltins x = some (.type T)) (ha : AA X G (e :: es) ml) (hn : x ≠ "__name__" := by decide) (hdb : (x == ("__debug__" : Str)) = false := by decide)
    (he : starEach (e :: es) X.env = (false, eval e X.env) :: starEach es X.env := by rfl) (hpl : (backTo pos (starEach es X.env)).any (·.1) = false := by rfl) : AE X G (.Call (.Name x p) (e :: es) [] pos) (callB g ml) := fun W tk => ⟨fun pins s σ H Q I h => by
  refine wpAny_Call_Name_kw (ld_blt I hg hm hv ?_ hn hdb)
  refine PyProof.Rows.callWith_type1 (thn ((ha W tk).run pos pins s σ H _ I (aG_step (R := Rvs (cf X)) (Q' := fun vs H1 => ∃ w1 as, w1.H = H1 ∧ Rel (cf X) w1 ∧ Rvs (cf X) w1 as vs ∧ Out (cf X) W σ (Rv (cf X)) w1 Q (g as w1.S)) h fun w1 ρ as vs st1 rv o => ⟨w1, as, rfl, st1.rel, rv, o⟩)) fun us s1 ⟨vs, H1, I1, r1, w1, as, e1, rl, rv, o⟩ => ?_) he hpl
  subst e1
  exact hc.run W tk pins s1 σ w1 as vs us Q I1 rl rv r1 o⟩
theorem CallA.or {f : Value} {g g' : List A → M A} (h : CallA X f g) (h' : CallA X f g') (c : List A → Sto → Bool) : CallA X f (fun as S => if c as S = true then g as S else g' as S) := ⟨fun W tk pins s σ w as xs us Q I rl rv r o => by
  by_cases z : c as w.S = true
  · rw [if_pos z] at o; exact h.run W tk pins s σ w as xs us Q I rl rv r o
  · rw [if_neg z] at o; exact h'.run W tk pins s σ w as xs us Q I rl rv r o⟩
/-! ### len -/
def lenM : List A → M A
  | [.str x] => guard (x.length < 100000) (ret (.int x.length))
  | [a] => fun S => match dicOf a S with
    | some kvs => .ok (.int kvs.length) S
    | none => match seqOf a S with
      | some xs => .ok (.int xs.length) S
      | none => .no
  | _ => fail
theorem len_dict {pins : List (Addr × Obj)} {s : Shared} {σ : L2.St} {H : Hp} {a : Addr} {n : Nat} {Q : VK} (I : Inv X pins σ H s) (h : (∃ kv, Rd H a (.dT kv) ∧ kv.length = n) ∨ ∃ kv, Rd H a (.dK kv) ∧ kv.length = n) (q : Q (.int n) H) :
    wpAny (model X.prog X.w) X.A (call (.builtin "len") [.ref a]) (EP X pins σ Q) X.xe s := by
  rcases h with ⟨kv, hd, rfl⟩ | ⟨kv, hd, rfl⟩
  · obtain ⟨z, hm, ys, rel, dd⟩ := dt_rd I.hok hd
    have hl : kv.length = ys.length := Paired.length rel
    refine call_len_dictH hm dd (by rw [← hl]; rw [sizeLine_eq] at z; omega) ?_
    rw [← hl]
    exact ⟨.int ((kv.length : Nat) : Int), H, I.tok _, ⟨_, rfl⟩, q⟩
  · exact d_len I hd fun t s' I' => ⟨.int kv.length, H, I', ⟨t, rfl⟩, q⟩
theorem ca_len : CallA X (.builtin "len") lenM := ⟨fun W tk pins s σ w as xs us Q I rl rv r o => by
  cases rv with
  | nil => exact o.elim
  | @cons a v as vs ra rt =>
    cases rt with
    | cons _ _ => cases a <;> exact o.elim
    | nil =>
      have other : Out (cf X) W σ (Rv (cf X)) w Q (match dicOf a w.S with
        | some kvs => .ok (.int kvs.length) w.S
        | none => match seqOf a w.S with
          | some xs => .ok (.int xs.length) w.S
          | none => .no) → wpAny (model X.prog X.w) X.A (call (.builtin "len") us) (EP X pins σ Q) X.xe s := fun o => by
        cases ed : dicOf a w.S with
        | some kvs =>
          simp only [ed] at o
          obtain ⟨p, rfl, hd⟩ := dic_ok rl ra ed
          obtain ⟨u, rfl, ru⟩ := r.one
          obtain rfl : u = Value.ref p := ru
          refine len_dict I ?_ (o.here rl (.int _))
          rcases hd with ⟨kv, h1, h2⟩ | ⟨kv, h1, h2⟩
          · exact .inl ⟨kv, h1, h2.len⟩
          · exact .inr ⟨kv, h1, h2.len⟩
        | none =>
          simp only [ed] at o
          cases es : seqOf a w.S with
          | none => simp only [es] at o; exact o.elim
          | some xs =>
            simp only [es] at o
            obtain ⟨p, vs, rfl, sq, r1⟩ := seq_ok rl ra es
            refine call_len pins s σ w.H _ us Q I r ⟨.ref p, xs.length, rfl, ?_, o.here rl (.int _)⟩
            rcases sq with sq | sq
            · exact .inl ⟨vs, sq, r1.len.symm⟩
            · exact .inr ⟨vs, sq, r1.len.symm⟩
      cases a with
      | str y =>
        obtain ⟨hl, o⟩ := Out.guard (c := y.length < 100000) (m := (ret (A.int y.length) : M A)) o
        cases ra
        exact call_len pins s σ w.H _ us Q I r ⟨.str y, y.length, rfl, ⟨sz (Nat.le_of_lt hl), rfl⟩, Out.here (R := Rv (cf X)) o rl (.int _)⟩
      | _ => exact other o⟩
/-! ### int, abs, min, max, str -/
def intM : List A → M A
  | [.int i] => ret (.int i)
  | [.bl b] => ret (.int (if b then 1 else 0))
  | _ => fail
theorem ca_int : CallA X (.type "int") intM := CallA.of call_int1 fun W σ w as xs Q rl rv o => by
  match as, rv, o with
  | [.int i], .cons (.int _) .nil, o => exact .inl ⟨i, rfl, Out.here (R := Rv (cf X)) o rl (.int _)⟩
  | [.bl b], .cons (.bl _) .nil, o => exact .inr ⟨b, rfl, Out.here (R := Rv (cf X)) o rl (.int _)⟩
def minM : List A → M A
  | [.int i, .int j] => ret (.int (if j < i then j else i))
  | _ => fail
theorem ca_min (hc : X.calm = true) : CallA X (.builtin "min") minM := CallA.of (call_min2 hc) fun W σ w as xs Q rl rv o => by
  match as, rv, o with
  | [.int i, .int j], .cons (.int _) (.cons (.int _) .nil), o => exact ⟨i, j, rfl, Out.here (R := Rv (cf X)) o rl (.int _)⟩
def strM : List A → M A
  | [.int i] => guard (i.natAbs.log2 < 1920) (ret (.str (toString i)))
  | _ => fail
theorem ca_str : CallA X (.type "str") strM := CallA.of call_str_int fun W σ w as xs Q rl rv o => by
  match as, rv, o with
  | [.int i], .cons (.int _) .nil, o =>
    obtain ⟨hl, o⟩ := Out.guard (c := i.natAbs.log2 < 1920) (m := (ret (A.str (toString i)) : M A)) o
    exact ⟨i, rfl, hl, Out.here (R := Rv (cf X)) o rl (.str _)⟩
/-! ### all, any, sorted, tuple, list -/
def bsM (f : List Bool → Bool) : List A → M A
  | [a] => fun S => match lstOf a S with
    | some xs => match blsOf xs with
      | some bs => .ok (.bl (f bs)) S
      | none => .no
    | none => .no
  | _ => fail
theorem bs_imp {W : WX} {σ : L2.St} {w : Wd} {as : List A} {xs : List V} {Q : VK} {f : List Bool → Bool} (rl : Rel (cf X) w) (rv : Rvs (cf X) w as xs) (o : Out (cf X) W σ (Rv (cf X)) w Q (bsM f as w.S)) : ∃ (a : Addr) (bs : List Bool), xs = [V.ref a] ∧ SqL X.K w.H a (bs.map V.bl) ∧ Q (.bl (f bs)) w.H := by
  match as, rv, o with
  | [a], .cons ra .nil, o =>
    have o : Out (cf X) W σ (Rv (cf X)) w Q (match lstOf a w.S with
      | some xs => match blsOf xs with
        | some bs => .ok (.bl (f bs)) w.S
        | none => .no
      | none => .no) := o
    cases es : lstOf a w.S with
    | none => simp only [es] at o; exact o.elim
    | some ys =>
      simp only [es] at o
      cases eb : blsOf ys with
      | none => simp only [eb] at o; exact o.elim
      | some bs =>
        simp only [eb] at o
        obtain ⟨p, vs, rfl, sq, r1⟩ := lst_ok rl ra es
        rw [blsOf_ok eb] at r1
        rw [r1.bls] at sq
        exact ⟨p, bs, rfl, sq, o.here rl (.bl _)⟩
def allF (bs : List Bool) : Bool := bs.all _root_.id
def anyF (bs : List Bool) : Bool := bs.any _root_.id
def allB : List A → M A := bsM allF
def anyB : List A → M A := bsM anyF
theorem ca_all (hc : X.calm = true) : CallA X (.builtin "all") allB := CallA.of (cr_all hc) fun W σ w as xs Q rl rv o => bs_imp rl rv o
theorem ca_any (hc : X.calm = true) : CallA X (.builtin "any") anyB := CallA.of (cr_any hc) fun W σ w as xs Q rl rv o => bs_imp rl rv o
/-- the ascending arrangement of ints -/
def insI (x : Int) : List Int → List Int
  | [] => [x]
  | y :: r => if x ≤ y then x :: y :: r else y :: insI x r
def sortI : List Int → List Int
  | [] => []
  | x :: r => insI x (sortI r)
theorem insI_perm (x : Int) : ∀ l : List Int, (insI x l).Perm (x :: l)
  | [] => .refl _
  | y :: r => by
    unfold insI
    split
    · exact .refl _
    · exact ((insI_perm x r).cons y).trans (.swap x y r)
theorem sortI_perm : ∀ l : List Int, (sortI l).Perm l
  | [] => .refl _
  | x :: r => (insI_perm x _).trans ((sortI_perm r).cons x)
theorem insI_sorted (x : Int) : ∀ l : List Int, l.Pairwise (· ≤ ·) → (insI x l).Pairwise (· ≤ ·)
  | [], _ => by simp [insI]
  | y :: r, h => by
    unfold insI
    obtain ⟨h1, h2⟩ := List.pairwise_cons.mp h
    split
    · rename_i hxy
      exact List.pairwise_cons.mpr ⟨fun z hz => by
        rcases List.mem_cons.mp hz with rfl | hz
        · exact hxy
        · exact Int.le_trans hxy (h1 z hz), h⟩
    · rename_i hxy
      refine List.pairwise_cons.mpr ⟨fun z hz => ?_, insI_sorted x r h2⟩
      rcases List.mem_cons.mp ((insI_perm x r).mem_iff.mp hz) with rfl | hz
      · omega
      · exact h1 z hz
theorem sortI_sorted : ∀ l : List Int, (sortI l).Pairwise (· ≤ ·)
  | [] => .nil
  | x :: r => insI_sorted x _ (sortI_sorted r)
theorem sorted_eq : ∀ {a b : List Int}, a.Perm b → a.Pairwise (· ≤ ·) → b.Pairwise (· ≤ ·) → a = b := fun {a b} p ha hb =>
  p.eq_of_pairwise (le := (· ≤ ·)) (fun x y _ _ h1 h2 => Int.le_antisymm h1 h2) ha hb
def sortM : List A → M A
  | [a] => fun S => match lstOf a S with
    | some xs => match intsOf xs with
      | some ns => .ok (.fl ((sortI ns).map .int)) S
      | none => .no
    | none => .no
  | _ => fail
theorem ca_sorted : CallA X (.builtin "sorted") sortM := CallA.of cr_sortedI fun W σ w as xs Q rl rv o => by
  match as, rv, o with
  | [a], .cons ra .nil, o =>
    have o : Out (cf X) W σ (Rv (cf X)) w Q (match lstOf a w.S with
      | some xs => match intsOf xs with
        | some ns => .ok (.fl ((sortI ns).map .int)) w.S
        | none => .no
      | none => .no) := o
    cases es : lstOf a w.S with
    | none => simp only [es] at o; exact o.elim
    | some ys =>
      simp only [es] at o
      cases eb : intsOf ys with
      | none => simp only [eb] at o; exact o.elim
      | some ns =>
        simp only [eb] at o
        obtain ⟨p, vs, rfl, sq, r1⟩ := lst_ok rl ra es
        rw [intsOf_ok eb] at r1
        rw [r1.ints] at sq
        refine ⟨p, ns, rfl, sq, fun ns' q hp hs hq => ?_⟩
        have : ns' = sortI ns := sorted_eq (hp.trans (sortI_perm ns).symm) hs (sortI_sorted ns)
        subst this
        exact o.fl rl (Rvs.ofInts _) hq
def tupleM : List A → M A
  | [.tup xs] => ret (.tup xs)
  | [a] => fun S => match lstOf a S with
    | some xs => .ok (.tup xs) S
    | none => .no
  | _ => fail
theorem ca_tuple : CallA X (.type "tuple") tupleM := CallA.of call_tuple_of fun W σ w as xs Q rl rv o => by
  cases rv with
  | nil => exact o.elim
  | @cons a v as vs ra rt =>
    cases rt with
    | cons _ _ => cases a <;> exact o.elim
    | nil =>
      have lists : Out (cf X) W σ (Rv (cf X)) w Q (match lstOf a w.S with
        | some xs => .ok (.tup xs) w.S
        | none => .no) → ∃ p ys, [v] = [V.ref p] ∧ ((SqL X.K w.H p ys ∧ ∀ l, w.H l = none → Q (.ref l) (upd w.H l (.tup ys))) ∨ (SqT X.K w.H p ys ∧ Q (.ref p) w.H)) := fun o => by
        cases es : lstOf a w.S with
        | none => simp only [es] at o; exact o.elim
        | some ys =>
          simp only [es] at o
          obtain ⟨p, vs, rfl, sq, r1⟩ := lst_ok rl ra es
          exact ⟨p, vs, rfl, .inl ⟨sq, fun l hl => Out.tup o rl r1 hl⟩⟩
      cases a with
      | tup ys =>
        obtain ⟨p, vs, rfl, _, _, sq, r1⟩ := ra.sqt
        exact ⟨p, vs, rfl, .inr ⟨sq, Out.here (R := Rv (cf X)) o rl ra⟩⟩
      | _ => exact lists o
/-- list(x): a list, a tuple, a dict's keys; by value -/
def keysA (kvs : List (A × A)) : List A := kvs.map (·.1)
def listM (fin : Bool) : List A → M A
  | [a] => fun S => match (match dicOf a S with | some kvs => some (keysA kvs) | none => seqOf a S) with
    | some xs => if fin = true then .ok (.fl xs) S else newM (.lst xs) S
    | none => .no
  | _ => fail
theorem Rvs.keysT {Γ : Cfg} {w : Wd} : ∀ {kvs : List (A × A)} {kv : List (List Key × V)} {bs : List Addr}, RkT Γ w kvs kv → IsKeys w.H kv bs → (∀ b xs, w.H b = some (.tup xs) → ¬ w.Lv b) → Rvs Γ w (keysA kvs) (bs.map V.ref)
  | _, _, _, .nil, .nil, _ => .nil
  | _, _, _, @RkT.cons _ _ k a v as vs h t, @Paired.cons _ _ _ _ b _ _ hb tb, n => .cons (.tup (n _ _ hb) hb (by
      have : ∀ ks : List Key, Rvs Γ w (ks.map keyA) (ks.map kV) := fun ks => by
        induction ks with
        | nil => exact .nil
        | cons k ks ih => cases k with
          | inl i => exact .cons (.int i) ih
          | inr x => exact .cons (.str x) ih
      exact this k)) (Rvs.keysT t tb n)
theorem Rvs.keysK {Γ : Cfg} {w : Wd} : ∀ {kvs : List (A × A)} {kv : List (Key × V)}, RkK Γ w kvs kv → Rvs Γ w (keysA kvs) (kv.map fun p => kV p.1)
  | _, _, .nil => .nil
  | _, _, @RkK.cons _ _ k a v as vs h t => by
    cases k with
    | inl i => exact .cons (.int i) (Rvs.keysK t)
    | inr x => exact .cons (.str x) (Rvs.keysK t)
theorem Rel.tupN {Γ : Cfg} {w : Wd} (r : Rel Γ w) : ∀ b xs, w.H b = some (.tup xs) → ¬ w.Lv b := fun b xs h z => by
  rcases z with ⟨k, o, h1, h2, h3⟩ | z
  rotate_left
  · obtain ⟨⟨o, e, z⟩, _⟩ := r.sc b z
    rw [h] at e
    cases e
    cases z
  have q := r.at_ k b o h1 h2
  cases o with
  | lst ys => obtain ⟨_, e, _⟩ := q; rw [h] at e; cases e
  | llst ys => obtain ⟨_, e, _⟩ := q; rw [h] at e; cases e
  | dic kvs =>
    rcases q with ⟨_, e, _⟩ | ⟨_, e, _⟩
    · rw [h] at e; cases e
    · rw [h] at e; cases e
  | ldic kvs =>
    rcases q with ⟨_, _, e, _⟩ | ⟨_, _, e, _⟩
    · rw [h] at e; cases e
    · rw [h] at e; cases e
  | ins C fs => obtain ⟨_, _, e, _⟩ := q; rw [h] at e; cases e
  | fn i g caps => obtain ⟨_, _, _, f, _⟩ := q; obtain ⟨_, _, _, e, _⟩ := f.ex; rw [h] at e; cases e
  | sfn i g caps => obtain ⟨_, _, f, _⟩ := q; obtain ⟨_, _, _, e, _⟩ := f.ex; rw [h] at e; cases e
  | sin C fs => obtain ⟨_, _, e, _⟩ := q; rw [h] at e; cases e
  | dead => cases h3
theorem list_fin {W : WX} {σ : L2.St} {w : Wd} {Q : VK} {fin : Bool} {ys : List A} {vs : List V} (rl : Rel (cf X) w) (r : Rvs (cf X) w ys vs) (o : Out (cf X) W σ (Rv (cf X)) w Q (if fin = true then .ok (.fl ys) w.S else newM (.lst ys) w.S)) : ∀ p, w.H p = none → Q (.ref p) (upd w.H p (.lst vs)) := fun p hp => by
  cases fin with
  | true => rw [if_pos rfl] at o; exact o.fl rl r hp
  | false => rw [if_neg Bool.false_ne_true] at o; exact o.lst rl r hp
theorem ca_list (hc : X.calm = true) (fin : Bool) : CallA X (.type "list") (listM fin) := ⟨fun W tk pins s σ w as xs us Q I rl rv r o => by
  match as, rv, o with
  | [a], .cons ra .nil, o =>
    have o : Out (cf X) W σ (Rv (cf X)) w Q (match (match dicOf a w.S with | some kvs => some (keysA kvs) | none => seqOf a w.S) with
      | some xs => if fin = true then .ok (.fl xs) w.S else newM (.lst xs) w.S
      | none => .no) := o
    cases ed : dicOf a w.S with
    | some kvs =>
      simp only [ed] at o
      obtain ⟨p, rfl, hd⟩ := dic_ok rl ra ed
      rcases hd with ⟨kv, h1, h2⟩ | ⟨kv, h1, h2⟩
      · exact call_list_dT hc pins s σ w.H _ us Q I r ⟨p, kv, rfl, h1, fun q bs hq hk => list_fin rl (Rvs.keysT h2 hk rl.tupN) o q hq⟩
      · exact call_listD hc pins s σ w.H _ us Q I r ⟨p, kv, rfl, h1, fun q hq => list_fin rl (Rvs.keysK h2) o q hq⟩
    | none =>
      simp only [ed] at o
      cases es : seqOf a w.S with
      | none => simp only [es] at o; exact o.elim
      | some ys =>
        simp only [es] at o
        obtain ⟨p, vs, rfl, sq, r1⟩ := seq_ok rl ra es
        exact call_list_of pins s σ w.H _ us Q I r ⟨p, vs, rfl, sq, fun q hq => list_fin rl r1 o q hq⟩⟩
end
end FL

/-! ## A12: isinstance, methods of lists and dicts, f-strings -/
namespace FL
open PySem PySem.Spec PyProof.Rows L2
variable [LT]
/-! ### isinstance -/
/-- a built-in type's name, or an own class -/
inductive TyN where
  | b (n : String) | o (C : Str)
def tyOf (a : A) (S : Sto) : Option TyN := match a with
  | .non => some (.b "NoneType")
  | .bl _ => some (.b "bool")
  | .int _ => some (.b "int")
  | .str _ => some (.b "str")
  | .tup _ => some (.b "tuple")
  | .fl _ => some (.b "list")
  | .scr _ => some (.b "list")
  | .fd _ => some (.b "dict")
  | .obj C _ => some (.o C)
  | .ref k => match S[k]? with
    | some (.lst _) => some (.b "list")
    | some (.llst _) => some (.b "list")
    | some (.dic _) => some (.b "dict")
    | some (.ldic _) => some (.b "dict")
    | some (.ins C _) => some (.o C)
    | _ => none
  | _ => none
def tyVal (K : PySem.W.Frag) : TyN → Value
  | .b n => .type n
  | .o C => .ref (He.ga K C)
/-- what the own classes are asked for isinstance -/
structure IsA (K : PySem.W.Frag) (mg : Str → Option Value) (cs : Str → Bool) (sub : Str → Str → Bool) : Prop where
  glo : ∀ C, cs C = true → mg C = some (.ref (He.ga K C))
  ins : ∀ C, cs C = true → Cls K (He.ga K C) ∧ PySem.W.findIn K (.ref (He.ga K C)) "__class__" = some (some (.builtin "object.__class__")) ∧ PySem.W.specialIn K (.builtin "object.__class__") "__get__" = some (some (.builtin "getset_descriptor.__get__")) ∧
    PySem.W.takesIn K (.builtin "object.__class__") = some true ∧ PySem.W.mroIn K (He.ga K C) (.type "object") = some true
  own : ∀ C D, cs C = true → cs D = true → PySem.W.kitOne K (.ref (He.ga K C)) (.ref (He.ga K D)) = some (sub C D)
  bo : ∀ n D, ["NoneType", "bool", "int", "str", "tuple", "list", "dict"].contains n = true → cs D = true → PySem.W.kitOne K (.type n) (.ref (He.ga K D)) = some false
  ob : ∀ C n, cs C = true → ["bool", "int", "str", "tuple", "list", "dict"].contains n = true → PySem.W.kitOne K (.ref (He.ga K C)) (.type n) = some false
def kitM (cs : Str → Bool) (sub : Str → Str → Bool) (t : TyN) (c : A) : Option Bool := match t, c with
  | .b t, .ty n => kitB t n
  | .b t, .glo D => if ["NoneType", "bool", "int", "str", "tuple", "list", "dict"].contains t = true ∧ cs D = true then some false else none
  | .o C, .ty n => if cs C = true ∧ ["bool", "int", "str", "tuple", "list", "dict"].contains n = true then some false else none
  | .o C, .glo D => if cs C = true ∧ cs D = true then some (sub C D) else none
  | _, _ => none
section
variable {X : Cx} {cs : Str → Bool} {sub : Str → Str → Bool}
theorem kit_A {pins : List (Addr × Obj)} {s : Shared} {σ : L2.St} {w : Wd} {a : A} {x : V} {u : Value} {t : TyN} (c : IsA X.K X.mg cs sub) (I : Inv X pins σ w.H s) (rl : Rel (cf X) w) (rv : Rv (cf X) w a x) (rx : RelV x u) (ht : tyOf a w.S = some t) (ho : ∀ C, t = .o C → cs C = true) :
    ∃ P : Heap → Prop, PySem.W.KitX X.K u (tyVal X.K t) P ∧ P s.heap ∧ u ≠ .builtin "__main__.__loader__#opaque" := by
  have dT : ∀ {p : Addr} {kv : List (List Key × V)}, u = .ref p → Rd w.H p (.dT kv) → ∃ P : Heap → Prop, PySem.W.KitX X.K u (.type "dict") P ∧ P s.heap ∧ u ≠ .builtin "__main__.__loader__#opaque" := fun {p kv} hu e => by
    subst hu
    obtain ⟨_, _, xs, _, o, es, ep, h1, h2, _⟩ := (show ObjOk X.prog X.w w.H s.heap p (.dT kv) from e.ok I.hok)
    exact ⟨_, PySem.W.kitx_dict, ⟨o, h1, h2.1⟩, fun z => nomatch z⟩
  have dK : ∀ {p : Addr} {kv : List (Key × V)}, u = .ref p → Rd w.H p (.dK kv) → ∃ P : Heap → Prop, PySem.W.KitX X.K u (.type "dict") P ∧ P s.heap ∧ u ≠ .builtin "__main__.__loader__#opaque" := fun {p kv} hu e => by
    subst hu
    obtain ⟨_, _, vs, _, o, es, ep, h1, h2, _⟩ := (show ObjOk X.prog X.w w.H s.heap p (.dK kv) from e.ok I.hok)
    exact ⟨_, PySem.W.kitx_dict, ⟨o, h1, h2.1⟩, fun z => nomatch z⟩
  have lR : ∀ {p : Addr} {vs : List V}, u = .ref p → Rd w.H p (.lst vs) → ∃ P : Heap → Prop, PySem.W.KitX X.K u (.type "list") P ∧ P s.heap ∧ u ≠ .builtin "__main__.__loader__#opaque" := fun {p vs} hu e => by
    subst hu
    obtain ⟨its, n, r, z, h1⟩ := rd_list I e
    exact ⟨_, PySem.W.kitx_list, ⟨_, h1, rfl⟩, fun z => nomatch z⟩
  have inst : ∀ {p dx : Addr} {C : Str} {fv : List (Str × V)}, u = .ref p → cs C = true → w.H p = some (.ins (He.ga X.K C) dx fv) → ∃ P : Heap → Prop, PySem.W.KitX X.K u (.ref (He.ga X.K C)) P ∧ P s.heap ∧ u ≠ .builtin "__main__.__loader__#opaque" := fun {p dx C fv} hu hc e => by
    obtain ⟨h1, h2, h3, h4, h5⟩ := c.ins C hc
    exact kit_of (x := .ref p) I hu (.base (.ins e h1 h2 h3 h4 h5))
  cases rv with
  | non => cases ht; exact kit_of I rx (.base .non)
  | bl b => cases ht; exact kit_of I rx (.base (.bl b))
  | int i => cases ht; exact kit_of I rx (.base (.int i))
  | str y => cases ht; exact kit_of I rx (.base (.str y))
  | tup n e r => cases ht; exact kit_of I rx (.base (.tup e))
  | fl n e r => cases ht; exact lR rx e
  | fdT n e r => cases ht; exact dT rx e
  | fdK n e r => cases ht; exact dK rx e
  | obj n e r => cases ht; exact inst rx (ho _ rfl) e
  | scrF n e r => cases ht; exact lR rx e
  | scrK e r =>
    cases ht
    obtain ⟨o, its, n, h1, h2, _⟩ := e
    exact kit_of I rx (.kList h1 h2)
  | @ref k p e =>
    unfold tyOf at ht
    cases es : w.S[k]? with
    | none => simp only [es] at ht; cases ht
    | some ob =>
      have q := rl.at_ k p _ e es
      simp only [es] at ht
      cases ob with
      | lst xs => cases ht; obtain ⟨vs, e1, _⟩ := q; exact lR rx (.inl e1)
      | llst xs => cases ht; obtain ⟨vs, e1, _⟩ := q; exact lR rx (.inl e1)
      | dic kvs =>
        cases ht
        rcases q with ⟨kv, e1, _⟩ | ⟨kv, e1, _⟩
        · exact dT rx (.inl e1)
        · exact dK rx (.inl e1)
      | ldic kvs =>
        cases ht
        rcases q with ⟨o, kv, e1, _⟩ | ⟨o, kv, e1, _⟩
        · exact dT rx (.inr ⟨o, e1⟩)
        · exact dK rx (.inr ⟨o, e1⟩)
      | ins C fs => cases ht; obtain ⟨dx, fv, e1, _⟩ := q; exact inst rx (ho _ rfl) e1
      | fn _ _ _ => cases ht
      | sfn _ _ _ => cases ht
      | sin _ _ => cases ht
      | dead => cases ht
  | _ => cases ht
/-- a class as a value -/
theorem kitM_ok {w : Wd} {t : TyN} {a : A} {v : V} {b : Bool} (c : IsA X.K X.mg cs sub) (rv : Rv (cf X) w a v) (h : kitM cs sub t a = some b) : ∃ u, ClsV v u ∧ PySem.W.kitOne X.K (tyVal X.K t) u = some b ∧ ∀ C, t = .o C → cs C = true := by
  unfold kitM at h
  cases t with
  | b n =>
    cases a with
    | ty m =>
      cases rv
      exact ⟨_, .ty m, kit_ty h, fun C z => nomatch z⟩
    | glo D =>
      dsimp only at h
      split at h
      · rename_i hh
        cases h
        cases rv with
        | glo hg =>
          have e := c.glo D hh.2
          have hg : X.mg D = some (.ref _) := hg
          rw [hg] at e
          cases e
          exact ⟨_, .own _, c.bo n D hh.1 hh.2, fun C z => nomatch z⟩
      · cases h
    | _ => cases h
  | o C =>
    cases a with
    | ty m =>
      dsimp only at h
      split at h
      · rename_i hh
        cases h
        cases rv
        exact ⟨_, .ty m, c.ob C m hh.1 hh.2, fun D z => by cases z; exact hh.1⟩
      · cases h
    | glo D =>
      dsimp only at h
      split at h
      · rename_i hh
        cases h
        cases rv with
        | glo hg =>
          have e := c.glo D hh.2
          have hg : X.mg D = some (.ref _) := hg
          rw [hg] at e
          cases e
          exact ⟨_, .own _, c.own C D hh.1 hh.2, fun E z => by cases z; exact hh.1⟩
      · cases h
    | _ => cases h
/-- all the classes are known; the answer of any of them -/
def kitAl (cs : Str → Bool) (sub : Str → Str → Bool) (t : TyN) : List A → Option Bool
  | [] => some false
  | c :: r => match kitM cs sub t c, kitAl cs sub t r with
    | some b, some d => some (b || d)
    | _, _ => none
theorem kitAl_ok {w : Wd} {t : TyN} (c : IsA X.K X.mg cs sub) : ∀ {as : List A} {vs : List V} {b : Bool}, Rvs (cf X) w as vs → kitAl cs sub t as = some b → ∃ us, Paired ClsV vs us ∧ PySem.W.kitAny X.K (tyVal X.K t) us = some b ∧ (as ≠ [] → ∀ C, t = .o C → cs C = true)
  | _, _, b, .nil, h => by cases h; exact ⟨[], .nil, rfl, fun z => absurd rfl z⟩
  | a :: as, _, b, .cons ra rt, h => by
    unfold kitAl at h
    cases e1 : kitM cs sub t a with
    | none => simp only [e1] at h; cases h
    | some b1 =>
      cases e2 : kitAl cs sub t as with
      | none => simp only [e1, e2] at h; cases h
      | some b2 =>
        simp only [e1, e2] at h
        cases h
        obtain ⟨u, h1, h2, h3⟩ := kitM_ok c ra e1
        obtain ⟨us, h4, h5, _⟩ := kitAl_ok c rt e2
        refine ⟨u :: us, .cons h1 h4, kitAny_cons h2 (fun z => ?_) (fun z => ?_), fun _ => h3⟩
        · subst z; exact h5
        · subst z; rfl
def isi1 (cs : Str → Bool) (sub : Str → Str → Bool) (a c : A) : M A := fun S => match tyOf a S with
  | some t => match kitM cs sub t c with
    | some b => .ok (.bl b) S
    | none => .no
  | none => .no
def isiT (cs : Str → Bool) (sub : Str → Str → Bool) (a : A) (ts : List A) : M A := fun S => match tyOf a S with
  | some t => if ts.isEmpty = true then .no else match kitAl cs sub t ts with
    | some b => .ok (.bl b) S
    | none => .no
  | none => .no
def isiM (cs : Str → Bool) (sub : Str → Str → Bool) : List A → M A
  | [a, c] => match c with
    | .tup ts => isiT cs sub a ts
    | c => isi1 cs sub a c
  | _ => fail
theorem ca_isi (c : IsA X.K X.mg cs sub) : CallA X (.builtin "isinstance") (isiM cs sub) := ⟨fun W tk pins s σ w as xs us Q I rl rv r o => by
  match as, rv, o with
  | [], _, o => exact o.elim
  | [_], _, o => exact o.elim
  | _ :: _ :: _ :: _, _, o => exact o.elim
  | [a, k], .cons ra (.cons rk .nil), o =>
    obtain ⟨u1, u2, rfl, r1, r2⟩ := vals2 r
    have one : Out (cf X) W σ (Rv (cf X)) w Q (match tyOf a w.S with
      | some t => match kitM cs sub t k with
        | some b => .ok (.bl b) w.S
        | none => .no
      | none => .no) → wpAny (model X.prog X.w) X.A (call (.builtin "isinstance") [u1, u2]) (EP X pins σ Q) X.xe s := fun o => by
      cases et : tyOf a w.S with
      | none => simp only [et] at o; exact o.elim
      | some t =>
        simp only [et] at o
        cases ek : kitM cs sub t k with
        | none => simp only [ek] at o; exact o.elim
        | some b =>
          simp only [ek] at o
          obtain ⟨u, h1, h2, h3⟩ := kitM_ok c rk ek
          have e2 := h1.eq r2
          subst e2
          obtain ⟨P, Z, p, hx⟩ := kit_A c I rl ra r1 et h3
          exact PySem.W.kia_one Z I.kIn p h2 hx fun tk => ⟨.bl b, w.H, I.tok tk, rfl, o.here rl (.bl _)⟩
    cases k with
    | tup ts =>
      have o : Out (cf X) W σ (Rv (cf X)) w Q (isiT cs sub a ts w.S) := o
      unfold isiT at o
      cases et : tyOf a w.S with
      | none => simp only [et] at o; exact o.elim
      | some t =>
        simp only [et] at o
        by_cases hts : ts.isEmpty = true
        · rw [if_pos hts] at o; exact o.elim
        · rw [if_neg hts] at o
          cases ek : kitAl cs sub t ts with
          | none => simp only [ek] at o; exact o.elim
          | some b =>
            simp only [ek] at o
            obtain ⟨tp, vs, rfl, n1, hT, _, r3⟩ := rk.sqt
            cases (show u2 = Value.ref tp from r2)
            obtain ⟨us, h1, h2, h3⟩ := kitAl_ok c r3 ek
            obtain ⟨P, Z, p, hx⟩ := kit_A c I rl ra r1 et (h3 (fun z => hts (by rw [z]; rfl)))
            obtain ⟨_, its, rv, o', g1, g2, n, g3⟩ := (show ObjOk X.prog X.w w.H s.heap tp (.tup vs) from I.hok tp _ hT)
            have e3 := ClsV.all h1 rv
            subst e3
            obtain ⟨oc, od, dt, sl⟩ := o'
            simp only at g2 g3
            subst g2 g3
            exact PySem.W.kia_tup Z I.kIn p g1 h2 hx fun tk => ⟨.bl b, w.H, I.tok tk, rfl, o.here rl (.bl _)⟩
    | _ => exact one o⟩
end
/-! ### methods of lists -/
structure MtdA (X : Cx) (id : String) (g : A → List A → M A) : Prop where
  run : ∀ (W : WX), Takes X W → ∀ (pins : List (Addr × Obj)) (s : Shared) (σ : L2.St) (w : Wd) (a : A) (as : List A) (x : V) (xs : List V) (v : Value) (us : List Value) (Q : VK), Inv X pins σ w.H s → Rel (cf X) w → Rv (cf X) w a x → Rvs (cf X) w as xs → RelV x v → Vals xs us →
    Out (cf X) W σ (Rv (cf X)) w Q (g a as w.S) → wpAny (model X.prog X.w) X.A (call (.builtin id) (v :: us)) (EP X pins σ Q) X.xe s
theorem MtdA.of {X : Cx} {id : String} {g : A → List A → M A} {r : V → List V → Hp → VK → Prop} (h : MtR X id r) (i : ∀ (W : WX) (σ : L2.St) (w : Wd) (a : A) (as : List A) (x : V) (xs : List V) (Q : VK), Rel (cf X) w → Rv (cf X) w a x → Rvs (cf X) w as xs → Out (cf X) W σ (Rv (cf X)) w Q (g a as w.S) → r x xs w.H Q) : MtdA X id g :=
  ⟨fun W tk pins s σ w a as x xs v us Q I rl ra rs rx rxs o => h pins s σ w.H x xs v us Q I rx rxs (i W σ w a as x xs Q rl ra rs o)⟩
def lmE (g : A → List A → M A) (mo : Lo → M A) (ml : Lo → M (List A)) (ρ : Lo) : M A := bnd (mo ρ) fun a S => match lstOf a S with
  | some _ => bnd (ml ρ) (fun as => g a as) S
  | none => .no
theorem ae_lm {X : Cx} {G : Gs} {o e : Expr} {es : List Expr} {mo : Lo → M A} {ml : Lo → M (List A)} {g : A → List A → M A} {name : Str} {id : String} {apos cpos : Pos} (slot : Slot "list" name id) (hty : typeOf (.builtin id) = pure (.type "method_descriptor")) (hm : MtdA X id g) (ho : AE X G o mo) (ha : AA X G (e :: es) ml)
    (hbase : attributeBase o name X.env (eval o X.env) = eval o X.env := by rfl)
    (hfew : ((backTo cpos (starEach (e :: es) X.env)).all (fun x => !x.1) && (backToKw cpos (keywordEach [] X.env)).all (fun x => x.1.isSome)
      && decide ((e :: es).length + ([] : List Keyword).length + (if ([] : List Keyword).isEmpty then 0 else 1) < 30)) = true := by rfl)
    (hline : (apos.endLine == cpos.line) = true := by rfl) (hs : starEach (e :: es) X.env = (false, eval e X.env) :: starEach es X.env := by rfl) (hplain : (backTo cpos (starEach es X.env)).any (·.1) = false := by rfl) :
    AE X G (.Call (.Attribute o name apos) (e :: es) [] cpos) (lmE g mo ml) := fun W tk => ⟨fun pins s σ H Q I h => by
  refine wpAny_Call_method_late hbase hfew hline rfl (thn ((ho W tk).run pins s σ H _ I (aG_step (R := Rv (cf X)) (Q' := fun x H1 => ∃ w1 ρ a ys, w1.H = H1 ∧ Sta (cf X) G w1 ρ σ ∧ Rv (cf X) w1 a x ∧ lstOf a w1.S = some ys ∧ Out (cf X) W σ (Rv (cf X)) w1 Q (bnd (ml ρ) (fun as => g a as) w1.S)) h fun w1 ρ a x st1 rv o => ?_)) fun v s1 ⟨x, H1, I1, r1, w1, ρ, a, ys, e1, st1, rv, hl, o⟩ => ?_)
  · cases hl : lstOf a w1.S with
    | none => simp only [hl] at o; exact o.elim
    | some ys => simp only [hl] at o; exact ⟨w1, ρ, a, ys, rfl, st1, rv, hl, o⟩
  · subst e1
    obtain ⟨p, vs, rfl, sq, _⟩ := lst_ok st1.rel rv hl
    obtain ⟨h1, h2⟩ := tyV_is (T := "list") I1 r1 (.inl ⟨rfl, vs, sq⟩)
    refine ⟨"list", id, PySem.F.plainAttrs_list, slot, hty, h1, h2, ?_⟩
    have hA := (ha W tk).run cpos pins s1 σ w1.H _ I1 (aG_of (Q := fun vs H2 => ∃ w2 as, w2.H = H2 ∧ Rel (cf X) w2 ∧ Rv (cf X) w2 a (.ref p) ∧ Rvs (cf X) w2 as vs ∧ Out (cf X) W σ (Rv (cf X)) w2 Q (g a as w2.S)) st1 (step st1 o fun w2 as vs st2 ex rvs o2 => ⟨w2, as, rfl, st2.rel, rv.ex ex, rvs, o2⟩))
    rw [hs] at hA ⊢
    refine Calls.callWith_builtin (by show (false || (backTo cpos (starEach es X.env)).any (·.1)) = false; rw [hplain] <;> rfl) (Calls.evalArgs_plain ?_)
    refine thn hA fun us s2 ⟨vs, H2, I2, r2, w2, as, e2, rl2, rv2, rvs2, o2⟩ => ?_
    subst e2
    exact hm.run W tk pins s2 σ w2 a as _ vs v us Q I2 rl2 rv2 rvs2 r1 r2 o2⟩
section
variable {X : Cx}
def updM (f : List A → Option (A × List A)) (a : A) : M A := fun S => match a with
  | .ref k => match S[k]? with
    | some (.lst xs) => match f xs with
      | some (b, ys) => .ok b (S.set k (.lst ys))
      | none => .no
    | _ => .no
  | _ => .no
theorem upd_imp {W : WX} {σ : L2.St} {w : Wd} {a : A} {x : V} {Q : VK} {f : List A → Option (A × List A)} (rl : Rel (cf X) w) (ra : Rv (cf X) w a x) (o : Out (cf X) W σ (Rv (cf X)) w Q (updM f a w.S)) :
    ∃ l xs vs b ys, x = .ref l ∧ w.H l = some (.lst vs) ∧ Rvs (cf X) w xs vs ∧ f xs = some (b, ys) ∧ ∀ us y, (∀ w', Ex w w' → Rvs (cf X) w' ys us ∧ Rv (cf X) w' b y) → Q y (upd w.H l (.lst us)) := by
  unfold updM at o
  cases ra with
  | @ref k p e =>
    dsimp only at o
    cases es : w.S[k]? with
    | none => simp only [es] at o; exact o.elim
    | some ob =>
      cases ob with
      | lst xs =>
        simp only [es] at o
        cases ef : f xs with
        | none => simp only [ef] at o; exact o.elim
        | some q =>
          obtain ⟨b, ys⟩ := q
          simp only [ef] at o
          obtain ⟨vs, e1, r⟩ := rl.at_ k p _ e es
          refine ⟨p, xs, vs, b, ys, rfl, e1, r, ef, fun us y h => ?_⟩
          have ex := Ex.set rl (ob := .lst ys) (u := .lst us) e es rfl rfl
          have rl' := rl.set (ob := .lst ys) (u := .lst us) e es rfl rfl ⟨us, upd_same, (h _ ex).1⟩
          exact o.use (w' := ⟨w.ι, _, _, w.x⟩) rfl ex rl' (h _ ex).2
      | _ => simp only [es] at o; exact o.elim
  | _ => exact o.elim
def appM (a : A) : List A → M A
  | [b] => updM (fun xs => if xs.length < 100000 then some (.non, xs ++ [b]) else none) a
  | _ => fail
theorem md_append : MtdA X "list.append" appM := MtdA.of mt_append fun W σ w a as x xs Q rl ra rs o => by
  match as, rs, o with
  | [b], .cons rb .nil, o =>
    obtain ⟨l, ys, vs, c, zs, rfl, e, r, hf, q⟩ := upd_imp rl ra o
    split at hf
    · rename_i hl
      cases hf
      exact ⟨l, vs, _, rfl, rfl, e, by rw [r.len]; exact szl hl, q _ _ fun w' ex => ⟨(r.ex ex).app (.cons (rb.ex ex) .nil), .non⟩⟩
    · cases hf
def insM (a : A) : List A → M A
  | [.int i, b] => updM (fun xs => if xs.length < 100000 ∧ 0 ≤ i ∧ i < 100000 then some (.non, xs.take i.toNat ++ [b] ++ xs.drop i.toNat) else none) a
  | _ => fail
theorem md_insert : MtdA X "list.insert" insM := MtdA.of mt_insert fun W σ w a as x xs Q rl ra rs o => by
  match as, rs, o with
  | [.int i, b], .cons (.int _) (.cons rb .nil), o =>
    obtain ⟨l, ys, vs, c, zs, rfl, e, r, hf, q⟩ := upd_imp rl ra o
    split at hf
    · rename_i hl
      cases hf
      exact ⟨l, vs, i, _, rfl, rfl, e, by rw [r.len]; exact szl hl.1, hl.2.1, by omega, q _ _ fun w' ex => ⟨(((r.ex ex).take _).app (.cons (rb.ex ex) .nil)).app ((r.ex ex).drop _), .non⟩⟩
    · cases hf
/-- remove: ints -/
def idxI (k : Int) : List Int → Option Nat
  | [] => none
  | n :: r => if n = k then some 0 else (idxI k r).map (· + 1)
theorem idxI_ok {k : Int} : ∀ {ns : List Int} {j : Nat}, idxI k ns = some j → ns[j]? = some k ∧ ∀ m : Nat, m < j → ns[m]? ≠ some k
  | [], _, h => by cases h
  | n :: r, j, h => by
    unfold idxI at h
    by_cases e : n = k
    · rw [if_pos e] at h
      cases h
      exact ⟨by rw [e]; rfl, fun m hm => absurd hm (Nat.not_lt_zero _)⟩
    · rw [if_neg e] at h
      obtain ⟨j', h1, rfl⟩ := Option.map_eq_some_iff.mp h
      obtain ⟨h2, h3⟩ := idxI_ok h1
      refine ⟨by simpa using h2, fun m hm => ?_⟩
      cases m with
      | zero => simpa using e
      | succ m => simpa using h3 m (by omega)
def remM (a : A) : List A → M A
  | [.int k] => updM (fun xs => match intsOf xs with
    | some ns => match idxI k ns with
      | some j => some (.non, (ns.eraseIdx j).map .int)
      | none => none
    | none => none) a
  | _ => fail
theorem md_remove : MtdA X "list.remove" remM := MtdA.of mt_remove fun W σ w a as x xs Q rl ra rs o => by
  match as, rs, o with
  | [.int k], .cons (.int _) .nil, o =>
    obtain ⟨l, ys, vs, c, zs, rfl, e, r, hf, q⟩ := upd_imp rl ra o
    cases e1 : intsOf ys with
    | none => simp only [e1] at hf; cases hf
    | some ns =>
      simp only [e1] at hf
      cases e2 : idxI k ns with
      | none => simp only [e2] at hf; cases hf
      | some j =>
        simp only [e2] at hf
        cases hf
        rw [intsOf_ok e1] at r
        have rv := r.ints
        subst rv
        obtain ⟨h1, h2⟩ := idxI_ok e2
        exact ⟨l, ns, k, j, rfl, rfl, e, h1, h2, q _ _ fun w' ex => ⟨Rvs.ofInts _, .non⟩⟩
/-- index: ints -/
def indM (a : A) : List A → M A
  | [.int k] => fun S => match lstOf a S with
    | some xs => match intsOf xs with
      | some ns => match idxI k ns with
        | some j => .ok (.int j) S
        | none => .no
      | none => .no
    | none => .no
  | _ => fail
theorem flat_ints (ns : List Int) : (ns.map V.int).all flatV = true := by
  induction ns with
  | nil => rfl
  | cons n r ih => rw [List.map_cons, List.all_cons, ih]; rfl
theorem md_index : MtdA X "list.index" indM := MtdA.of mt_index fun W σ w a as x xs Q rl ra rs o => by
  match as, rs, o with
  | [.int k], .cons (.int _) .nil, o =>
    have o : Out (cf X) W σ (Rv (cf X)) w Q (match lstOf a w.S with
      | some xs => match intsOf xs with
        | some ns => match idxI k ns with
          | some j => .ok (.int j) w.S
          | none => .no
        | none => .no
      | none => .no) := o
    cases e0 : lstOf a w.S with
    | none => simp only [e0] at o; exact o.elim
    | some ys =>
      simp only [e0] at o
      cases e1 : intsOf ys with
      | none => simp only [e1] at o; exact o.elim
      | some ns =>
        simp only [e1] at o
        cases e2 : idxI k ns with
        | none => simp only [e2] at o; exact o.elim
        | some j =>
          simp only [e2] at o
          obtain ⟨p, vs, rfl, sq, r⟩ := lst_ok rl ra e0
          rw [intsOf_ok e1] at r
          have rv := r.ints
          subst rv
          obtain ⟨h1, h2⟩ := idxI_ok e2
          refine ⟨p, _, .int k, j, .int k, rfl, rfl, sq, rfl, flat_ints ns, by rw [List.getElem?_map, h1]; rfl, by simp [eqV], fun m z hm hz => ?_, o.here rl (.int _)⟩
          rw [List.getElem?_map] at hz
          obtain ⟨n, hn, rfl⟩ := Option.map_eq_some_iff.mp hz
          have := h2 m hm
          rw [hn] at this
          simp only [eqV]
          simpa using fun e => this (by rw [e])
end
/-! ### methods of dicts -/
section
variable {X : Cx} {G : Gs} {o e f : Expr} {mo me mf : Lo → M A} {apos cpos : Pos}
def dget1 (a k : A) : M A := fun S => match dicOf a S with
  | some kvs => if kyFit kvs k = true then .ok ((dLook kvs k).getD .non) S else .no
  | none => .no
def dget2 (a k d : A) : M A := fun S => match dicOf a S with
  | some kvs => if kyFit kvs k = true then .ok ((dLook kvs k).getD d) S else .no
  | none => .no
theorem optR_getD {Γ : Cfg} {w : Wd} {a : Option A} {v : Option V} {d : A} {z : V} (h : OptR Γ w a v) (rd : Rv Γ w d z) : Rv Γ w (a.getD d) (v.getD z) := by
  cases a <;> cases v <;> first | exact rd | exact h | exact h.elim
/-- the dict is looked at ahead of the arguments -/
def dg1E (mo me : Lo → M A) (ρ : Lo) : M A := bnd (mo ρ) fun a S => match dicOf a S with
  | some _ => bnd (me ρ) (fun k => dget1 a k) S
  | none => .no
def dg2E (mo me mf : Lo → M A) (ρ : Lo) : M A := bnd (mo ρ) fun a S => match dicOf a S with
  | some _ => bnd (me ρ) (fun k => bnd (mf ρ) fun d => dget2 a k d) S
  | none => .no
theorem isD_of {w : Wd} {a : A} {x : V} {kvs : List (A × A)} (rl : Rel (cf X) w) (rv : Rv (cf X) w a x) (h : dicOf a w.S = some kvs) : ∃ p, x = .ref p ∧ IsD w.H p := by
  obtain ⟨p, rfl, hd⟩ := dic_ok rl rv h
  rcases hd with ⟨kv, e, _⟩ | ⟨kv, e, _⟩
  · exact ⟨p, rfl, .inr ⟨kv, e⟩⟩
  · exact ⟨p, rfl, .inl ⟨kv, e⟩⟩
theorem ae_dget1 (hu : X.A.units + 1 < cLine) (ho : AE X G o mo) (he : AE X G e me) (m : M1 X o "get" apos e cpos) : AE X G (.Call (.Attribute o "get" apos) [e] [] cpos) (dg1E mo me) := fun W tk => ⟨fun pins s σ H Q I h => by
  refine wpAny_Call_method m.base m.few m.line PySem.F.plainAttrs_dict PySem.F.slot_dict_get PySem.F.type_dict_get (thn ((ho W tk).run pins s σ H _ I (aG_step (R := Rv (cf X)) (Q' := fun x H1 => ∃ w1 ρ a kvs, w1.H = H1 ∧ Sta (cf X) G w1 ρ σ ∧ Rv (cf X) w1 a x ∧ dicOf a w1.S = some kvs ∧ Out (cf X) W σ (Rv (cf X)) w1 Q (bnd (me ρ) (fun k => dget1 a k) w1.S)) h fun w1 ρ a x st1 rv o => ?_)) fun u s1 ⟨x, H1, I1, rx, w1, ρ, a, kvs, e1, st1, rv, hd, o⟩ => ?_)
  · cases hd : dicOf a w1.S with
    | none => simp only [hd] at o; exact o.elim
    | some kvs => simp only [hd] at o; exact ⟨w1, ρ, a, kvs, rfl, st1, rv, hd, o⟩
  · subst e1
    obtain ⟨p, rfl, d⟩ := isD_of st1.rel rv hd
    obtain rfl : u = Value.ref p := rx
    obtain ⟨t1, t2, _⟩ := isD_at I1 d
    refine ⟨t1, t2, ?_⟩
    rw [m.trees]
    refine Calls.callWith_builtin rfl (Calls.evalArgs_plain (Calls.spliced_cons (thn ((he W tk).run pins s1 σ w1.H _ I1 (aG_of (Q := fun y H2 => ∃ w2 k, w2.H = H2 ∧ Rel (cf X) w2 ∧ Rv (cf X) w2 a (.ref p) ∧ Rv (cf X) w2 k y ∧ Out (cf X) W σ (Rv (cf X)) w2 Q (dget1 a k w2.S)) st1 (step st1 o fun w2 k y st2 ex rk o2 => ⟨w2, k, rfl, st2.rel, rv.ex ex, rk, o2⟩))) fun iv s2 ⟨y, H2, I2, ry, w2, k, e2, rl2, ra2, rk2, o2⟩ => Calls.spliced_nil ?_)))
    subst e2
    unfold dget1 at o2
    cases hd2 : dicOf a w2.S with
    | none => simp only [hd2] at o2; exact o2.elim
    | some kvs2 =>
      simp only [hd2] at o2
      by_cases hf : kyFit kvs2 k = true
      · rw [if_pos hf] at o2
        obtain ⟨p2, r, e3, g, op'⟩ := dic_get rl2 ra2 hd2 rk2 hf
        cases e3
        exact x_get1 hu I2 g ry fun w' s3 I3 rw' => ⟨_, w2.H, I3, rw', o2.here rl2 (optR_getD op' .non)⟩
      · rw [if_neg hf] at o2; exact o2.elim⟩
theorem ae_dget2 (hu : X.A.units + 1 < cLine) (ho : AE X G o mo) (he : AE X G e me) (hf : AE X G f mf) (m : M2 X o "get" apos e f cpos) : AE X G (.Call (.Attribute o "get" apos) [e, f] [] cpos) (dg2E mo me mf) := fun W tk => ⟨fun pins s σ H Q I h => by
  refine wpAny_Call_method m.base m.few m.line PySem.F.plainAttrs_dict PySem.F.slot_dict_get PySem.F.type_dict_get (thn ((ho W tk).run pins s σ H _ I (aG_step (R := Rv (cf X)) (Q' := fun x H1 => ∃ w1 ρ a kvs, w1.H = H1 ∧ Sta (cf X) G w1 ρ σ ∧ Rv (cf X) w1 a x ∧ dicOf a w1.S = some kvs ∧ Out (cf X) W σ (Rv (cf X)) w1 Q (bnd (me ρ) (fun k => bnd (mf ρ) fun d => dget2 a k d) w1.S)) h fun w1 ρ a x st1 rv o => ?_)) fun u s1 ⟨x, H1, I1, rx, w1, ρ, a, kvs, e1, st1, rv, hd, o⟩ => ?_)
  · cases hd : dicOf a w1.S with
    | none => simp only [hd] at o; exact o.elim
    | some kvs => simp only [hd] at o; exact ⟨w1, ρ, a, kvs, rfl, st1, rv, hd, o⟩
  · subst e1
    obtain ⟨p, rfl, d⟩ := isD_of st1.rel rv hd
    obtain rfl : u = Value.ref p := rx
    obtain ⟨t1, t2, _⟩ := isD_at I1 d
    refine ⟨t1, t2, ?_⟩
    rw [m.trees]
    refine Calls.callWith_builtin rfl (Calls.evalArgs_plain (Calls.spliced_cons (thn ((he W tk).run pins s1 σ w1.H _ I1 (aG_of (Q := fun y H2 => ∃ w2 k, w2.H = H2 ∧ Sta (cf X) G w2 ρ σ ∧ Rv (cf X) w2 a (.ref p) ∧ Rv (cf X) w2 k y ∧ Out (cf X) W σ (Rv (cf X)) w2 Q (bnd (mf ρ) (fun d => dget2 a k d) w2.S)) st1 (step st1 o fun w2 k y st2 ex rk o2 => ⟨w2, k, rfl, st2, rv.ex ex, rk, o2⟩))) fun iv s2 ⟨y, H2, I2, ry, w2, k, e2, st2, ra2, rk2, o2⟩ => ?_)))
    subst e2
    refine Calls.spliced_cons (thn ((hf W tk).run pins s2 σ w2.H _ I2 (aG_of (Q := fun z H3 => ∃ w3 d, w3.H = H3 ∧ Rel (cf X) w3 ∧ Rv (cf X) w3 a (.ref p) ∧ Rv (cf X) w3 k y ∧ Rv (cf X) w3 d z ∧ Out (cf X) W σ (Rv (cf X)) w3 Q (dget2 a k d w3.S)) st2 (step st2 o2 fun w3 d z st3 ex rd o3 => ⟨w3, d, rfl, st3.rel, ra2.ex ex, rk2.ex ex, rd, o3⟩))) fun dv s3 ⟨z, H3, I3, rz, w3, dA, e3, rl3, ra3, rk3, rd3, o3⟩ => Calls.spliced_nil ?_)
    subst e3
    unfold dget2 at o3
    cases hd2 : dicOf a w3.S with
    | none => simp only [hd2] at o3; exact o3.elim
    | some kvs2 =>
      simp only [hd2] at o3
      by_cases hf : kyFit kvs2 k = true
      · rw [if_pos hf] at o3
        obtain ⟨p2, r, e4, g, op'⟩ := dic_get rl3 ra3 hd2 rk3 hf
        cases e4
        exact x_get2 hu I3 g ry rz fun w' s4 I4 rw' => ⟨_, w3.H, I4, rw', o3.here rl3 (optR_getD op' rd3)⟩
      · rw [if_neg hf] at o3; exact o3.elim⟩
/-! ### f-strings, minus -/
def negI : A → M A
  | .int i => ret (.int (-i))
  | _ => fail
theorem ae_neg {a : Expr} {ma : Lo → M A} {pos : Pos} (ha : AE X G a ma) : AE X G (.UnaryOp .USub a pos) (op1 negI ma) := fun W tk => (pe_un un_neg (ha W tk)).imp fun σ H Q q => aG_step (R := Rv (cf X)) q fun w1 ρ x x' st1 rx o => by
  cases rx <;> first | exact o.elim | skip
  exact ⟨_, rfl, Out.here (R := Rv (cf X)) o st1.rel (.int _)⟩
def fmtM : A → M A
  | .str x => guard (x.length < 100000) (ret (.str x))
  | .int i => guard (i.natAbs.log2 < 1920) (ret (.str (toString i)))
  | _ => fail
theorem ae_fmt {a : Expr} {ma : Lo → M A} {pos : Pos} (ha : AE X G a ma) : AE X G (.FormattedValue a (-1) none pos) (op1 fmtM ma) := fun W tk => (pe_fmt (ha W tk)).imp fun σ H Q q => aG_step (R := Rv (cf X)) q fun w1 ρ x x' st1 rx o => by
  cases rx with
  | str y =>
    obtain ⟨hl, o⟩ := Out.guard (c := y.length < 100000) (m := (ret (A.str y) : M A)) o
    exact .inl ⟨y, rfl, sz (Nat.le_of_lt hl), Out.here (R := Rv (cf X)) o st1.rel (.str _)⟩
  | int i =>
    obtain ⟨hl, o⟩ := Out.guard (c := i.natAbs.log2 < 1920) (m := (ret (A.str (toString i)) : M A)) o
    exact .inr ⟨i, rfl, hl, Out.here (R := Rv (cf X)) o st1.rel (.str _)⟩
  | _ => exact o.elim
/-- the parts one behind the other -/
def joinE : List (Lo → M A) → Str → Lo → M A
  | [], acc, _ => ret (.str acc)
  | m :: ms, acc, ρ => bnd (m ρ) fun
    | .str y => guard ((acc ++ y).length < 100000) (joinE ms (acc ++ y) ρ)
    | _ => fail
inductive AJ (X : Cx) (G : Gs) : List Expr → List (Lo → M A) → Prop where
  | nil : AJ X G [] []
  | cons {e : Expr} {m : Lo → M A} {es : List Expr} {ms : List (Lo → M A)} (h : AE X G e m) (r : AJ X G es ms) : AJ X G (e :: es) (m :: ms)
theorem AJ.pj {W : WX} (tk : Takes X W) : ∀ {es : List Expr} {ms : List (Lo → M A)}, AJ X G es ms → PJ X es (ms.map fun m => aE (cf X) W G m)
  | _, _, .nil => .nil
  | _, _, .cons h r => .cons (h W tk) (AJ.pj tk r)
theorem join_imp {W : WX} {σ : L2.St} {Q : VK} : ∀ (ms : List (Lo → M A)) (acc : Str) (w : Wd) (ρ : Lo), Sta (cf X) G w ρ σ → Out (cf X) W σ (Rv (cf X)) w Q (joinE ms acc ρ w.S) → tJs (ms.map fun m => aE (cf X) W G m) acc σ w.H fun out H1 => Q (.str out) H1
  | [], acc, w, ρ, st, o => Out.here (R := Rv (cf X)) o st.rel (.str _)
  | m :: ms, acc, w, ρ, st, o => aG_of st (step (R := Rv (cf X)) st o fun w1 a x st1 ex rx o1 => by
    cases rx <;> first | exact o1.elim | skip
    rename_i y
    obtain ⟨hl, o1⟩ := Out.guard (c := (acc ++ y).length < 100000) (m := joinE ms (acc ++ y) ρ) o1
    exact ⟨y, rfl, sz (Nat.le_of_lt hl), join_imp ms (acc ++ y) w1 ρ st1 o1⟩)
theorem ae_join {v1 v2 : Expr} {rest : List Expr} {ms : List (Lo → M A)} {pos : Pos} (h : AJ X G (v1 :: v2 :: rest) ms) : AE X G (.JoinedStr (v1 :: v2 :: rest) pos) (joinE ms Str.empty) := fun W tk => (pe_joined (h.pj tk)).imp fun σ H Q q => by
  obtain ⟨w, ρ, rfl, st, o⟩ := q
  exact join_imp ms _ w ρ st o
end
end FL

/-! ## A13: what is walked, comprehensions -/
namespace FL
open PySem PySem.Spec PyProof.Rows L2
variable [LT]
/-! ### an iterable of any kind -/
/-- behind the value: a list, a tuple, a dict (locked from now on) -/
def iAny (K : PySem.W.Frag) (te : TE) : TI := fun σ H R => te σ H fun x H1 => ∃ a, x = .ref a ∧ (((∃ xs, SqL K H1 a xs) ∧ R (Itl K a) H1) ∨ ((∃ xs, SqT K H1 a xs) ∧ R (Itt K a) H1) ∨
  (∃ kvs, Rd H1 a (.dK kvs) ∧ ∀ H' od, H' a = some (.frz od (.dK kvs)) → (H' = H1 ∨ (H1 a = some (.dK kvs) ∧ H' = upd H1 a (.frz od (.dK kvs)))) → R (Itk a od kvs) H') ∨
  (∃ kvs, Rd H1 a (.dT kvs) ∧ ∀ H' od, H' a = some (.frz od (.dT kvs)) → (H' = H1 ∨ (H1 a = some (.dT kvs) ∧ H' = upd H1 a (.frz od (.dT kvs)))) → R (Itkt a od kvs) H'))
theorem Inv.lockd {X : Cx} {pins : List (Addr × Obj)} {σ : L2.St} {H : Hp} {s : Shared} {a : Addr} {u : HO} (I : Inv X pins σ H s) (h : Rd H a u) (mu : Mut (some u)) : ∃ H' od, H' a = some (.frz od u) ∧ (H' = H ∨ (H a = some u ∧ H' = upd H a (.frz od u))) ∧ Inv X pins σ H' s := by
  rcases h with h | ⟨o, h⟩
  · obtain ⟨od, I'⟩ := I.lock h mu
    exact ⟨_, od, upd_same, .inr ⟨h, rfl⟩, I'⟩
  · exact ⟨H, o, h, .inl rfl, I⟩
theorem pi_any {X : Cx} {tg e : Expr} {te : TE} (he : PE X e te) : PI X tg e (iAny X.K te) := by
  refine ⟨fun pins s σ H R I h => ?_⟩
  refine thn (he.run pins s σ H _ I h) fun v s1 ⟨x, H1, I1, r1, a, ex, q⟩ => ?_
  subst ex
  obtain rfl : v = Value.ref a := r1
  rcases q with ⟨⟨xs, hq⟩, q⟩ | ⟨⟨xs, hq⟩, q⟩ | ⟨kvs, hd, q⟩ | ⟨kvs, hd, q⟩
  · obtain ⟨its, rv, p, hz⟩ := I1.list hq
    exact wpAny_pyIter_list p.isList (pi_one (tk := s1.toks) I1 _ (turn_list a _) ⟨_, Heap.get?_push_size _ rfl, rfl, rfl⟩ q)
  · obtain ⟨its, rv, p, hz⟩ := I1.tuple hq
    exact wpAny_pyIter_tuple (show s1.heap.IsTuple a its.toArray from p) (pi_one (tk := s1.toks) I1 _ (turn_tuple a _) ⟨_, Heap.get?_push_size _ rfl, rfl, rfl⟩ q)
  · obtain ⟨H', od, h1, h2, I2⟩ := Inv.lockd I1 hd True.intro
    obtain ⟨hs, hgd, hx, es, ep, vs, hdt, hsz, kv, hm⟩ := I2.frzK h1
    refine iter_keys hs hgd hx hdt (pi_one (tk := s1.toks) I2 _ (turn_keys _ hdt) ⟨_, Heap.get?_push_size _ rfl, rfl, ?_⟩ (q H' od h1 h2))
    rw [hsz] <;> rfl
  · obtain ⟨H', od, h1, h2, I2⟩ := Inv.lockd I1 hd True.intro
    obtain ⟨hs, hgd, hx, es, ep, hdt, hsz, ent⟩ := I2.frzT h1
    refine iter_keys hs hgd hx hdt (pi_one (tk := s1.toks) I2 _ (turn_keysT _ hdt) ⟨_, Heap.get?_push_size _ rfl, rfl, ?_⟩ (q H' od h1 h2))
    rw [hsz] <;> rfl
/-- a dict that never changes is locked -/
theorem lockd_w {Γ : Cfg} {w : Wd} {a : Addr} {u : HO} {od : Obj} {H' : Hp} (r : Rel Γ w) (n : ¬ w.Lv a) (du : isDo u = true) (h1 : H' a = some (.frz od u)) (h2 : H' = w.H ∨ (w.H a = some u ∧ H' = upd w.H a (.frz od u))) :
    Ex w ⟨w.ι, w.S, H', w.x⟩ ∧ Rel Γ ⟨w.ι, w.S, H', w.x⟩ := by
  rcases h2 with rfl | ⟨h0, rfl⟩
  · exact ⟨Ex.refl, r⟩
  have ne : ∀ b, b ≠ a → upd w.H a (.frz od u) b = w.H b := fun b hb => upd_ne hb
  have ex : Ex w ⟨w.ι, w.S, upd w.H a (.frz od u), w.x⟩ := by
    refine ⟨rfl, fun b hb => ⟨hb, ne b fun z => n (.inr (by rw [← z]; exact hb))⟩, fun _ _ z => z, fun b o hn e _ => ⟨?_, hn⟩, fun _ _ z _ => z, fun k o b h l e => ne b fun z => n (by rw [← z]; exact .inl ⟨k, o, e, h, fk_live l⟩)⟩
    by_cases hb : b = a
    · subst hb
      rw [h0] at e
      cases e
      exact .inr ⟨od, du, h1⟩
    · exact .inl (by show upd w.H a (.frz od u) b = some o; rw [ne b hb]; exact e)
  refine ⟨ex, r.g.ex ex (tab_upd r.g.tb fun u' e => by rw [h0] at e; cases e; cases u <;> first | rfl | cases du), fun b hb => ⟨?_, (r.sc b hb).2⟩, r.len, r.inj, fun k b o e1 e2 => ?_⟩
  · obtain ⟨⟨o', e, z⟩, _⟩ := r.sc b hb
    exact ⟨o', (ne b fun z => n (.inr (by rw [← z]; exact hb))).trans e, z⟩
  · by_cases hb : b = a
    · subst hb
      cases o with
      | dead => exact ⟨_, h1, rfl⟩
      | lst _ => exact absurd (.inl ⟨k, _, e1, e2, rfl⟩) n
      | dic _ => exact absurd (.inl ⟨k, _, e1, e2, rfl⟩) n
      | ins _ _ => exact absurd (.inl ⟨k, _, e1, e2, rfl⟩) n
      | llst _ => exact absurd (.inl ⟨k, _, e1, e2, rfl⟩) n
      | ldic _ => exact absurd (.inl ⟨k, _, e1, e2, rfl⟩) n
      | fn _ _ _ => exact absurd (.inl ⟨k, _, e1, e2, rfl⟩) n
      | sfn _ _ _ => exact absurd (.inl ⟨k, _, e1, e2, rfl⟩) n
      | sin _ _ => exact absurd (.inl ⟨k, _, e1, e2, rfl⟩) n
    · exact (r.at_ k b o e1 e2).ex ex (ne b hb)
section
variable {Γ : Cfg} {w : Wd}
theorem rvs_keys : ∀ ks : List Key, Rvs Γ w (ks.map keyA) (ks.map kV)
  | [] => .nil
  | .inl i :: r => .cons (.int i) (rvs_keys r)
  | .inr x :: r => .cons (.str x) (rvs_keys r)
theorem rv_key (k : Key) : Rv Γ w (keyA k) (kV k) := by
  cases k with
  | inl i => exact .int i
  | inr x => exact .str x
theorem RkT.get : ∀ {kvs : List (A × A)} {kv : List (List Key × V)} {i : Nat} {k : List Key} {v : V}, RkT Γ w kvs kv → kv[i]? = some (k, v) → ∃ a, kvs[i]? = some (tkA k, a) ∧ Rv Γ w a v
  | _, _, _, _, _, .nil, e => by simp at e
  | _, _, 0, _, _, .cons r _, e => by simp at e; obtain ⟨rfl, rfl⟩ := e; exact ⟨_, rfl, r⟩
  | _, _, i + 1, k, v, .cons _ t, e => by
    obtain ⟨z, h1, h2⟩ := RkT.get (i := i) (k := k) (v := v) t (by simpa using e)
    exact ⟨z, by simpa using h1, h2⟩
theorem RkK.get : ∀ {kvs : List (A × A)} {kv : List (Key × V)} {i : Nat} {k : Key} {v : V}, RkK Γ w kvs kv → kv[i]? = some (k, v) → ∃ a, kvs[i]? = some (keyA k, a) ∧ Rv Γ w a v
  | _, _, _, _, _, .nil, e => by simp at e
  | _, _, 0, _, _, .cons r _, e => by simp at e; obtain ⟨rfl, rfl⟩ := e; exact ⟨_, rfl, r⟩
  | _, _, i + 1, k, v, .cons _ t, e => by
    obtain ⟨z, h1, h2⟩ := RkK.get (i := i) (k := k) (v := v) t (by simpa using e)
    exact ⟨z, by simpa using h1, h2⟩
theorem wk_keysT {d : Addr} {o : Obj} {kvs : List (A × A)} {kv : List (List Key × V)} : Wk Γ (Itkt d o kv) (kvs.map Prod.fst) (fun w => w.H d = some (.frz o (.dT kv)) ∧ ¬ w.Lv d ∧ RkT Γ w kvs kv) := by
  refine ⟨fun w i _ h hi => ⟨h.1, ?_⟩, fun w _ h => ⟨h.1, ?_⟩, fun w i x H' rl h hi y => ?_, fun w w' h e => ?_⟩
  · rw [h.2.2.len]; simpa using hi
  · rw [h.2.2.len]; simp
  · obtain ⟨rfl, k, v, q, hk, rfl, hq⟩ := y
    obtain ⟨a, ha, _⟩ := h.2.2.get hk
    exact ⟨w, tkA k, rfl, rfl, Ex.refl, rl, by rw [List.getElem?_map, ha]; rfl, .tup (rl.tupN _ _ hq) hq (rvs_keys k)⟩
  · obtain ⟨h1, h2⟩ := e.kp.is h.2.1 h.1 rfl
    exact ⟨h1, h2, h.2.2.mono e.kp.v e.ix⟩
theorem wk_keysK {d : Addr} {o : Obj} {kvs : List (A × A)} {kv : List (Key × V)} : Wk Γ (Itk d o kv) (kvs.map Prod.fst) (fun w => w.H d = some (.frz o (.dK kv)) ∧ ¬ w.Lv d ∧ RkK Γ w kvs kv) := by
  refine ⟨fun w i _ h hi => ⟨h.1, ?_⟩, fun w _ h => ⟨h.1, ?_⟩, fun w i x H' rl h hi y => ?_, fun w w' h e => ?_⟩
  · rw [h.2.2.len]; simpa using hi
  · rw [h.2.2.len]; simp
  · obtain ⟨rfl, k, v, hk, rfl⟩ := y
    obtain ⟨a, ha, _⟩ := h.2.2.get hk
    exact ⟨w, keyA k, rfl, rfl, Ex.refl, rl, by rw [List.getElem?_map, ha]; rfl, rv_key k⟩
  · obtain ⟨h1, h2⟩ := e.kp.is h.2.1 h.1 rfl
    exact ⟨h1, h2, h.2.2.mono e.kp.v e.ix⟩
theorem wk_llst {a : Addr} {k : Nat} {xs : List A} : Wk Γ (Itl Γ.K a) xs (fun w => w.ι[k]? = some a ∧ w.S[k]? = some (.llst xs)) := by
  refine ⟨fun w i rl h hi => ?_, fun w rl h => ?_, fun w i x H' rl h hi y => ?_, fun w w' h e => ⟨e.ix _ _ h.1, e.lk _ _ h.2 rfl⟩⟩
  · obtain ⟨vs, e, r⟩ := rl.at_ k a _ h.1 h.2
    obtain ⟨v, hv, _⟩ := r.getA (List.getElem?_eq_getElem hi)
    exact ⟨vs, v, SqL.of e, hv⟩
  · obtain ⟨vs, e, r⟩ := rl.at_ k a _ h.1 h.2
    exact ⟨vs, SqL.of e, by rw [r.len]; exact Nat.le_refl _⟩
  · obtain ⟨vs, e, r⟩ := rl.at_ k a _ h.1 h.2
    obtain ⟨rfl, y⟩ := y
    obtain ⟨z, h1, h2⟩ := r.get (y vs (SqL.of e))
    exact ⟨w, z, rfl, rfl, Ex.refl, rl, h1, h2⟩
theorem Rv.scr_sq {xs : List A} {v : V} (h : Rv Γ w (.scr xs) v) : ∃ a vs, v = .ref a ∧ SqL Γ.K w.H a vs ∧ Rvs Γ w xs vs := by
  cases h with
  | scrF n h r => exact ⟨_, _, rfl, .inl h, r⟩
  | scrK h r => exact ⟨_, _, rfl, .inr h, r⟩
theorem wk_scr {a : Addr} {xs : List A} : Wk Γ (Itl Γ.K a) xs (fun w => Rv Γ w (.scr xs) (.ref a)) := by
  refine ⟨fun w i _ h hi => ?_, fun w _ h => ?_, fun w i x H' rl h hi y => ?_, fun w w' h e => h.ey e⟩
  · obtain ⟨p, vs, e, sq, r⟩ := h.scr_sq
    cases e
    obtain ⟨v, hv, _⟩ := r.getA (List.getElem?_eq_getElem hi)
    exact ⟨vs, v, sq, hv⟩
  · obtain ⟨p, vs, e, sq, r⟩ := h.scr_sq
    cases e
    exact ⟨vs, sq, by rw [r.len]; exact Nat.le_refl _⟩
  · obtain ⟨p, vs, e, sq, r⟩ := h.scr_sq
    cases e
    obtain ⟨rfl, y⟩ := y
    obtain ⟨z, h1, h2⟩ := r.get (y vs sq)
    exact ⟨w, z, rfl, rfl, Ex.refl, rl, h1, h2⟩
end
/-- the items of what never changes, or is locked -/
def itemsW (a : A) : M (List A) := fun S => match a with
  | .tup xs => .ok xs S
  | .fl xs => .ok xs S
  | .scr xs => .ok xs S
  | .fd kvs => .ok (kvs.map Prod.fst) S
  | .ref k => match S[k]? with
    | some (.llst xs) => .ok xs S
    | _ => .no
  | _ => .no
def itE (me : Lo → M A) (ρ : Lo) : M (List A) := bnd (me ρ) itemsW
theorem ai_any {X : Cx} {G : Gs} {tg e : Expr} {me : Lo → M A} (he : AE X G e me) : AI X G tg e (itE me) := fun W tk => (pi_any (he W tk)).imp fun σ H Q q => aG_step (R := Rv (cf X)) q fun w1 ρ a x st1 rv o => by
  cases rv with
  | tup n h r => exact ⟨_, rfl, .inr (.inl ⟨⟨_, SqT.of h⟩, Out.here (R := RI (cf X)) o st1.rel ⟨_, wk_tup, .tup n h r⟩⟩)⟩
  | fl n h r => exact ⟨_, rfl, .inl ⟨⟨_, .inl h⟩, Out.here (R := RI (cf X)) o st1.rel ⟨_, wk_lst, .fl n h r⟩⟩⟩
  | scrF n h r => exact ⟨_, rfl, .inl ⟨⟨_, .inl h⟩, Out.here (R := RI (cf X)) o st1.rel ⟨_, wk_scr, .scrF n h r⟩⟩⟩
  | scrK h r => exact ⟨_, rfl, .inl ⟨⟨_, .inr h⟩, Out.here (R := RI (cf X)) o st1.rel ⟨_, wk_scr, .scrK h r⟩⟩⟩
  | fdT n h r =>
    refine ⟨_, rfl, .inr (.inr (.inr ⟨_, h, fun H' od h1 h2 => ?_⟩))⟩
    obtain ⟨ex, rl⟩ := lockd_w st1.rel n rfl h1 h2
    exact Out.use (R := RI (cf X)) (w' := ⟨w1.ι, w1.S, H', w1.x⟩) o rfl ex rl ⟨_, wk_keysT, h1, (ex.kp.rd n h).2, r.ex ex⟩
  | fdK n h r =>
    refine ⟨_, rfl, .inr (.inr (.inl ⟨_, h, fun H' od h1 h2 => ?_⟩))⟩
    obtain ⟨ex, rl⟩ := lockd_w st1.rel n rfl h1 h2
    exact Out.use (R := RI (cf X)) (w' := ⟨w1.ι, w1.S, H', w1.x⟩) o rfl ex rl ⟨_, wk_keysK, h1, (ex.kp.rd n h).2, r.ex ex⟩
  | @ref k a h =>
    unfold itemsW at o
    cases es : w1.S[k]? with
    | none => simp only [es] at o; exact o.elim
    | some ob =>
      simp only [es] at o
      cases ob with
      | llst xs =>
        obtain ⟨vs, e, r⟩ := st1.rel.at_ k a _ h es
        exact ⟨_, rfl, .inl ⟨⟨_, SqL.of e⟩, Out.here (R := RI (cf X)) o st1.rel ⟨_, wk_llst (k := k), h, es⟩⟩⟩
      | _ => exact o.elim
  | _ => exact o.elim
end FL

/-! ## A14: comprehensions -/
namespace FL
open PySem PySem.Spec PyProof.Rows L2
variable [LT]
/-! ### targets within a block -/
def wipeA (ρ : Lo) : List Nat → Lo
  | [] => ρ
  | v :: vs => (wipeA ρ vs).set v none
theorem Rl.wipeA {Γ : Cfg} {w : Wd} {ρ : Lo} {σ : L2.St} (h : Rl Γ w ρ σ) : ∀ vs : List Nat, Rl Γ w (FL.wipeA ρ vs) (L2.wipe σ vs)
  | [] => h
  | v :: vs => Rl.wipe (Rl.wipeA h vs) v none
theorem wipe_set {σ : L2.St} {i : Nat} {x : Option V} : ∀ {vs : List Nat}, i ∈ vs → wipe (σ.set i x) vs = wipe σ vs := by
  intro vs hi
  apply List.ext_getElem?
  intro j
  by_cases hj : j ∈ vs
  · have z : ∀ τ : L2.St, τ.length = σ.length → (wipe τ vs)[j]? = if j < σ.length then some none else none := fun τ hl => by
      cases e : (wipe τ vs)[j]? with
      | none =>
        have := List.getElem?_eq_none_iff.mp e
        rw [wipe_length, hl] at this
        rw [if_neg (by omega)]
      | some y =>
        have := (List.getElem?_eq_some_iff.mp e).1
        rw [wipe_length, hl] at this
        rw [if_pos this]
        cases y with
        | none => rfl
        | some v => exact absurd hj (wipe_some e).2
    rw [z _ (by simp), z _ rfl]
  · rw [wipe_out hj, wipe_out hj, List.getElem?_set_ne (fun z => hj (by rw [← z]; exact hi))]
/-- a target of the block's own names -/
structure TgB (X : Cx) (tg : Expr) (g : TG) (t : Tg) (vs : List Nat) : Prop where
  pg : PG X tg g
  imp : ∀ (w : Wd) (a : A) (x : V) (ρ ρ1 : Lo) (σ : L2.St) (k : L2.St → Hp → Prop), Rl (cf X) w ρ σ → Rv (cf X) w a x → t a ρ = some ρ1 → (∀ σ1, Rl (cf X) w ρ1 σ1 → wipe σ1 vs = wipe σ vs → k σ1 w.H) → g x σ w.H k
structure TgsB (X : Cx) (tg : List Expr) (g : TGs) (t : List Tg) (vs : List Nat) : Prop where
  pg : PGs X tg g
  imp : ∀ (w : Wd) (as : List A) (xs : List V) (ρ ρ1 : Lo) (σ : L2.St) (k : L2.St → Hp → Prop), Rl (cf X) w ρ σ → Rvs (cf X) w as xs → asgs t as ρ = some ρ1 → (∀ σ1, Rl (cf X) w ρ1 σ1 → wipe σ1 vs = wipe σ vs → k σ1 w.H) → g xs σ w.H k
section
variable {X : Cx} {e : Expr} {es : List Expr} {g : TG} {gs : TGs} {t : Tg} {ts : List Tg} {pos : Pos} {vs : List Nat}
theorem tb_name {i : Nat} {x : Str} (hN : X.N.Nodup) (hi : X.N[i]? = some x) (hx : Loc X.env.scope x) (hv : i ∈ vs := by decide) (hf : X.fn x = true ∨ X.env.scope.names.lookup x = some .local := by first | exact .inl rfl | exact .inr rfl | assumption) : TgB X (.Name x pos) (gName i) (asgN i) vs :=
  ⟨pg_name hN hi hx hf, fun w a x ρ ρ1 σ k rl rv e q => by
    cases e
    exact q _ (rl.set i rv) (wipe_set hv)⟩
theorem tbs_nil : TgsB X [] gNil [] vs := ⟨pgs_nil, fun w as xs ρ ρ1 σ k rl rv e q => by
  cases rv with
  | nil => cases e; exact ⟨rfl, q _ rl rfl⟩
  | cons _ _ => cases e⟩
theorem tbs_cons (h1 : TgB X e g t vs) (h2 : TgsB X es gs ts vs) (hs : (assignEach (e :: es) X.env).map (·.2) = assign e X.env :: (assignEach es X.env).map (·.2) := by rfl) : TgsB X (e :: es) (gCons g gs) (t :: ts) vs :=
  ⟨pgs_cons h1.pg h2.pg hs, fun w as xs ρ ρ1 σ k rl rv e q => by
    cases rv with
    | nil => cases e
    | @cons a v as vs r rr =>
      unfold asgs at e
      cases et : t a ρ with
      | none => rw [et] at e; cases e
      | some ρ' =>
        rw [et] at e
        exact ⟨v, vs, rfl, h1.imp w a v ρ ρ' σ _ rl r et fun σ1 rl1 e1 => h2.imp w as vs ρ' ρ1 σ1 k rl1 rr e fun σ2 rl2 e2 => q σ2 rl2 (e2.trans e1)⟩⟩
theorem tb_tup {k n : Nat} (hc : X.calm = true) (h : TgsB X es gs ts vs) (hl : ts.length = n := by rfl) (hn : (assignEach es X.env).length = n := by rfl) (hst : (assignEach es X.env).findIdx? (·.1) = none := by rfl) : TgB X (.Tuple es k pos) (gTup X.K n gs) (asgT ts) vs :=
  ⟨pg_tup hc h.pg hn hst, fun w a x ρ ρ1 σ k rl rv e q => by
    cases rv with
    | @tup p xs vs n1 h1 r1 =>
      have e : asgs ts xs ρ = some ρ1 := e
      exact ⟨p, vs, rfl, SqT.of h1, by rw [r1.len, asgs_len e, hl], h.imp w xs vs ρ ρ1 σ k rl r1 e q⟩
    | _ => cases e⟩
end
/-! ### what a comprehension fills -/
section
variable {Γ : Cfg} {w w1 : Wd} {D : Addr}
theorem ObR.ey {w' : Wd} {a : Addr} {ob : Ob} (h : ObR Γ w a ob) (ey : Ey w w') (hH : w'.H a = w.H a) : ObR Γ w' a ob := by
  cases ob with
  | lst xs => obtain ⟨vs, e, r⟩ := h; exact ⟨vs, hH.trans e, r.mono ey.kp.v ey.ix⟩
  | llst xs => obtain ⟨vs, e, r⟩ := h; exact ⟨vs, hH.trans e, r.mono ey.kp.v ey.ix⟩
  | dic kvs =>
    rcases h with ⟨kv, e, r⟩ | ⟨kv, e, r⟩
    · exact .inl ⟨kv, hH.trans e, r.mono ey.kp.v ey.ix⟩
    · exact .inr ⟨kv, hH.trans e, r.mono ey.kp.v ey.ix⟩
  | ldic kvs =>
    rcases h with ⟨o, kv, e, r⟩ | ⟨o, kv, e, r⟩
    · exact .inl ⟨o, kv, hH.trans e, r.mono ey.kp.v ey.ix⟩
    · exact .inr ⟨o, kv, hH.trans e, r.mono ey.kp.v ey.ix⟩
  | ins C fs => obtain ⟨dx, fv, e, r⟩ := h; exact ⟨dx, fv, hH.trans e, r.mono ey.kp.v ey.ix⟩
  | fn i g caps => obtain ⟨cl, vs, ps, h1, h2, h3, h4, r⟩ := h; exact ⟨cl, vs, ps, h1.mono ey.kp hH, h2.mono ey.kp, by rw [ey.gx]; exact h3, h4, r.mono ey.kp.v ey.ix⟩
  | sfn i g caps => obtain ⟨cl, vs, h1, r⟩ := h; exact ⟨cl, vs, h1.mono ey.kp hH, r.mono ey.kp.v ey.ix⟩
  | sin C fs => obtain ⟨dx, fv, e1, n, e2, r⟩ := h; exact ⟨dx, fv, hH.trans e1, (ey.kp.is n e2 rfl).2, (ey.kp.is n e2 rfl).1, r.mono ey.kp.v ey.ix⟩
  | dead => obtain ⟨u, e, t⟩ := h; exact ⟨u, hH.trans e, t⟩
/-- another thing at D -/
theorem Ey.sput {o : HO} (hD : D ∈ w.x.sc) : Ey w ⟨w.ι, w.S, upd w.H D o, w.x⟩ :=
  ⟨fun _ _ z => z, fun a u n e _ => ⟨.inl (by show upd w.H D o a = some u; rw [upd_ne (fun z => n (.inr (by rw [z]; exact hD)))]; exact e), n⟩, fun _ _ z _ => z, rfl⟩
theorem RelG.ey {w' : Wd} (r : RelG Γ w) (e : Ey w w') (t : LamX.Tabs (LT.tabs Γ.K) w'.H) : RelG Γ w' := by
  refine ⟨fun g ps hg p hp => ?_, fun g g' ps ps' p h1 h2 => ?_, t⟩
  · rw [e.gx] at hg
    obtain ⟨n, o, h, hq⟩ := r.gr g ps hg p hp
    obtain ⟨h1, h2⟩ := e.kp.is n h rfl
    exact ⟨h2, o, h1, hq⟩
  · rw [e.gx] at h1 h2
    exact r.gd g g' ps ps' p h1 h2
theorem Rel.sput {o : HO} (r : Rel Γ w) (hD : D ∈ w.x.sc) (ho : isSc o = true) : Rel Γ ⟨w.ι, w.S, upd w.H D o, w.x⟩ := by
  have ey := Ey.sput (o := o) hD
  refine ⟨r.g.ey ey (tab_upd r.g.tb fun u e => by
    obtain ⟨⟨o', e', z⟩, _⟩ := r.sc D hD
    rw [e] at e'; cases e'
    cases u <;> first | rfl | cases z), fun a ha => ⟨?_, (r.sc a ha).2⟩, r.len, r.inj, fun k a ob e1 e2 => ?_⟩
  · by_cases h : a = D
    · rw [h]; exact ⟨o, upd_same, ho⟩
    · obtain ⟨⟨o', e, z⟩, _⟩ := r.sc a ha
      exact ⟨o', (upd_ne h).trans e, z⟩
  · have hn : a ≠ D := fun z => (r.sc D hD).2 k (by rw [← z]; exact e1)
    exact (r.at_ k a ob e1 e2).ey ey (upd_ne hn)
theorem Ex.sput {o : HO} (e : Ex w1 w) (r1 : Rel Γ w1) (hn : w1.H D = none) (hD : D ∈ w.x.sc) : Ex w1 ⟨w.ι, w.S, upd w.H D o, w.x⟩ := by
  have ey := Ey.sput (o := o) hD
  refine ⟨e.gx, fun a ha => ⟨(e.sx a ha).1, ?_⟩, e.ix, fun a u n h t => ?_, e.lk, fun k o' a h l e' => by
    obtain ⟨u, e3⟩ := r1.there e'
    show upd w.H D o a = w1.H a
    rw [upd_ne (ne_of_none e3 hn)]
    exact e.fx k o' a h l e'⟩
  · show upd w.H D o a = w1.H a
    rw [upd_ne (r1.scne hn ha)]; exact (e.sx a ha).2
  · have hne : a ≠ D := ne_of_none h hn
    obtain ⟨h1, h2⟩ := e.kp a u n h t
    exact ⟨by show (upd w.H D o a = some u ∨ _); rw [upd_ne hne]; exact h1.imp id fun ⟨ob, d, z⟩ => ⟨ob, d, (upd_ne hne).trans z⟩, h2⟩
/-- D laid -/
theorem slaid {o : HO} (r : Rel Γ w) (hn : w.H D = none) (ho : isSc o = true) : Rel Γ ⟨w.ι, w.S, upd w.H D o, ⟨D :: w.x.sc, w.x.gs⟩⟩ ∧ Ex w ⟨w.ι, w.S, upd w.H D o, ⟨D :: w.x.sc, w.x.gs⟩⟩ := by
  have ne : ∀ {a : Addr} {u : HO}, w.H a = some u → a ≠ D := fun e => ne_of_none e hn
  have ex : Ex w ⟨w.ι, w.S, upd w.H D o, ⟨D :: w.x.sc, w.x.gs⟩⟩ := by
    refine ⟨rfl, fun a ha => ⟨List.mem_cons_of_mem _ ha, upd_ne (r.scne hn ha)⟩, fun _ _ z => z, fun a u n e _ => ⟨.inl ?_, fun z => ?_⟩, fun _ _ z _ => z, fun k o' a _ _ e => upd_ne (by
      obtain ⟨u, e3⟩ := r.there e
      exact ne e3)⟩
    · show upd w.H D o a = some u
      rw [upd_ne (ne e)]; exact e
    · rcases z with z | z
      · exact n (.inl z)
      · rcases List.mem_cons.mp z with z | z
        · exact ne e z
        · exact n (.inr z)
  refine ⟨⟨r.g.ex ex (tab_new r.g.tb hn), fun a ha => ?_, r.len, r.inj, fun k a ob e1 e2 => (r.at_ k a ob e1 e2).ex ex ?_⟩, ex⟩
  · rcases List.mem_cons.mp ha with rfl | ha
    · refine ⟨⟨o, upd_same, ho⟩, fun k e => ?_⟩
      obtain ⟨u, e2⟩ := r.there e
      rw [hn] at e2; cases e2
    · refine ⟨?_, (r.sc a ha).2⟩
      obtain ⟨⟨o', e, z⟩, _⟩ := r.sc a ha
      exact ⟨o', (upd_ne (r.scne hn ha)).trans e, z⟩
  · obtain ⟨u, e3⟩ := r.there e1
    exact upd_ne (ne e3)
/-- the end: D is out of the comprehension's hands -/
theorem send (r : Rel Γ w) (e : Ex w1 w) (r1 : Rel Γ w1) (hn : w1.H D = none) (hD : D ∈ w.x.sc) : Rel Γ ⟨w.ι, w.S, w.H, w1.x⟩ ∧ Ex w1 ⟨w.ι, w.S, w.H, w1.x⟩ ∧ Cut w.ι.length w ⟨w.ι, w.S, w.H, w1.x⟩ ∧ ¬ Wd.Lv ⟨w.ι, w.S, w.H, w1.x⟩ D := by
  have lv : ∀ b, Wd.Lv ⟨w.ι, w.S, w.H, w1.x⟩ b → w.Lv b := fun b z => by
    rcases z with z | z
    · exact .inl z
    · exact .inr (e.sx b z).1
  have ct : Cut w.ι.length w ⟨w.ι, w.S, w.H, w1.x⟩ := ⟨rfl, lv, fun _ _ _ z => z, e.gx.symm⟩
  have ex : Ex w1 ⟨w.ι, w.S, w.H, w1.x⟩ := ⟨rfl, fun a ha => ⟨ha, (e.sx a ha).2⟩, e.ix, fun a u n h t => ⟨(e.kp a u n h t).1, fun z => (e.kp a u n h t).2 (lv a z)⟩, e.lk, e.fx⟩
  refine ⟨⟨r1.g.ex ex r.g.tb, fun a ha => r.sc a (e.sx a ha).1, r.len, r.inj, fun k a ob e1 e2 => (r.at_ k a ob e1 e2).cut ct (r.at_ k a ob e1 e2).bel⟩, ex, ct, fun z => ?_⟩
  rcases z with ⟨k, o, h1, _, _⟩ | z
  · exact (r.sc D hD).2 k h1
  · obtain ⟨⟨o, h1, _⟩, _⟩ := r1.sc D z
    rw [hn] at h1; cases h1
theorem eySend {ob : Ob} (r : Rel Γ w) (e : Ex w1 w) (hD : D ∈ w.x.sc) : Ey w ⟨w.ι ++ [D], w.S ++ [ob], w.H, w1.x⟩ := by
  refine ⟨fun j a h => ?_, fun a u n h _ => ⟨.inl h, fun z => ?_⟩, fun k u h _ => ?_, e.gx.symm⟩
  · show (w.ι ++ [D])[j]? = some a
    rw [List.getElem?_append_left (List.getElem?_eq_some_iff.mp h).1]; exact h
  · rcases z with ⟨k, o, h1, h2, h3⟩ | z
    · rcases get_app h1 with ⟨hk, f1⟩ | ⟨_, rfl⟩
      · have h2 : (w.S ++ [ob])[k]? = some o := h2
        rw [List.getElem?_append_left (by rw [← r.len]; exact hk)] at h2
        exact n (.inl ⟨k, o, f1, h2, h3⟩)
      · exact n (.inr hD)
    · exact n (.inr (e.sx a z).1)
  · show (w.S ++ [ob])[k]? = some u
    rw [List.getElem?_append_left (List.getElem?_eq_some_iff.mp h).1]; exact h
/-- .. and gets a number -/
theorem sendN {ob : Ob} (r : Rel Γ w) (e : Ex w1 w) (r1 : Rel Γ w1) (hn : w1.H D = none) (hD : D ∈ w.x.sc) (ho : ObR Γ ⟨w.ι ++ [D], w.S ++ [ob], w.H, w1.x⟩ D ob) : Rel Γ ⟨w.ι ++ [D], w.S ++ [ob], w.H, w1.x⟩ ∧ Ex w1 ⟨w.ι ++ [D], w.S ++ [ob], w.H, w1.x⟩ := by
  have nD : ∀ k : Nat, w.ι[k]? ≠ some D := (r.sc D hD).2
  have ex : Ex w1 ⟨w.ι ++ [D], w.S ++ [ob], w.H, w1.x⟩ := by
    refine ⟨rfl, fun a ha => ⟨ha, (e.sx a ha).2⟩, fun j a h => ?_, fun a u n h t => ⟨(e.kp a u n h t).1, fun z => ?_⟩, fun k u h l => ?_, e.fx⟩
    · show (w.ι ++ [D])[j]? = some a
      have := e.ix j a h
      rw [List.getElem?_append_left (List.getElem?_eq_some_iff.mp this).1]; exact this
    · rcases z with ⟨k, o, h1, h2, h3⟩ | z
      · rcases get_app h1 with ⟨hk, f1⟩ | ⟨_, rfl⟩
        · have h2 : (w.S ++ [ob])[k]? = some o := h2
          rw [List.getElem?_append_left (by rw [← r.len]; exact hk)] at h2
          exact (e.kp a u n h t).2 (.inl ⟨k, o, f1, h2, h3⟩)
        · rw [hn] at h; cases h
      · exact n (.inr z)
    · show (w.S ++ [ob])[k]? = some u
      have := e.lk k u h l
      rw [List.getElem?_append_left (List.getElem?_eq_some_iff.mp this).1]; exact this
  have ey : Ey w ⟨w.ι ++ [D], w.S ++ [ob], w.H, w1.x⟩ := eySend r e hD
  refine ⟨⟨r1.g.ex ex r.g.tb, fun a ha => ⟨(r.sc a (e.sx a ha).1).1, fun k h => ?_⟩, by show (w.ι ++ [D]).length = (w.S ++ [ob]).length; simp [r.len], fun i j a h1 h2 => ?_, fun k a q h1 h2 => ?_⟩, ex⟩
  · rcases get_app h with ⟨_, f1⟩ | ⟨_, rfl⟩
    · exact (r.sc a (e.sx a ha).1).2 k f1
    · obtain ⟨⟨o, h1, _⟩, _⟩ := r1.sc a ha
      rw [hn] at h1; cases h1
  · rcases get_app h1 with ⟨_, f1⟩ | ⟨i1, rfl⟩
    · rcases get_app h2 with ⟨_, f2⟩ | ⟨_, rfl⟩
      · exact r.inj i j a f1 f2
      · exact absurd f1 (nD i)
    · rcases get_app h2 with ⟨_, f2⟩ | ⟨i2, _⟩
      · exact absurd f2 (nD j)
      · rw [i1, i2]
  · have h2 : (w.S ++ [ob])[k]? = some q := h2
    rcases get_app h1 with ⟨hk, f1⟩ | ⟨i1, rfl⟩
    · rw [List.getElem?_append_left (by rw [← r.len]; exact hk)] at h2
      exact (r.at_ k a q f1 h2).ey ey rfl
    · rw [i1, r.len, List.getElem?_append_right (Nat.le_refl _), Nat.sub_self] at h2
      simp at h2
      subst h2
      exact ho
end
/-! ### list comprehensions -/
/-- errors within are not followed -/
def noex {α : Type} (m : M α) : M α := fun S => match m S with
  | .ex _ _ _ => .no
  | r => r
abbrev WF : WX := fun _ _ _ _ => False
section
variable {α β α' β' : Type} {Γ : Cfg} {W : WX} {G : Gs} {σ : L2.St} {ρ : Lo} {R : Wd → α → β → Prop} {R' : Wd → α' → β' → Prop} {w w1 : Wd}
/-- in a step's rest: errors not followed -/
theorem Out.noex {m : M α} {k : α → M α'} {Q : β' → Hp → Prop} {S : Sto} (hk : ∀ a S', ∃ r S'', k a S' = .ok r S'' ∨ k a S' = .no) (o : Out Γ W σ R' w Q (bnd (FL.noex m) k S)) : Out Γ WF σ R' w Q (bnd m k S) := by
  unfold bnd FL.noex at o
  unfold bnd
  cases e : m S with
  | ok a S' =>
    simp only [e] at o ⊢
    obtain ⟨r, S'', h | h⟩ := hk a S'
    · rw [h] at o ⊢; exact o
    · rw [h] at o; exact o.elim
  | ex C fs S' => simp only [e] at o; exact o.elim
  | no => simp only [e] at o; exact o
/-- the first part of two, seen from an earlier world -/
theorem stepB {m : M α} {k : α → M α'} {Q : β' → Hp → Prop} {Q' : β → Hp → Prop} {σ' : L2.St} (st : Sta Γ G w ρ σ) (o : Out Γ WF σ' R' w1 Q (bnd m k w.S))
    (h : ∀ (w2 : Wd) (a : α) (b : β), Sta Γ G w2 ρ σ → Ex w w2 → R w2 a b → Out Γ WF σ' R' w1 Q (k a w2.S) → Q' b w2.H) (e0 : Ex w1 w) : Out Γ WF σ R w Q' (m w.S) := by
  cases e : m w.S with
  | ok a S' =>
    rw [bnd_ok e] at o
    intro w2 b hs ex r rv
    subst hs
    exact h w2 a b (st.ex ex r) ex rv o
  | ex C fs S' =>
    rw [bnd_ex e] at o
    exact fun w' d hs ex r rv => o w' d hs (e0.trans ex) r rv
  | no =>
    rw [bnd_no e] at o
    exact o
end
def lcL (t : Tg) (mt : Lo → M Bool) (me : Lo → M A) (ρ : Lo) : List A → M (List A)
  | [] => ret []
  | a :: r => match t a ρ with
    | none => fail
    | some ρ1 => bnd (mt ρ1) fun b => if b = true then bnd (me ρ1) fun y => bnd (lcL t mt me ρ r) fun ys => ret (y :: ys) else lcL t mt me ρ r
/-- the list made: by value, or in the store -/
def putL (live : Bool) (xs : List A) : M A := fun S => if live = true then .ok (.ref S.length) (S ++ [.lst xs]) else .ok (.fl xs) S
def yesT (_ : Lo) : M Bool := ret true
def lcE (live : Bool) (t : Tg) (mi : Lo → M (List A)) (mt : Lo → M Bool) (me : Lo → M A) (vs : List Nat) (ρ : Lo) : M A := bnd (mi ρ) fun items => guard (items.length < 100000) (bnd (noex (lcL t mt me (wipeA ρ vs) items)) (putL live))
theorem putL_ok (live : Bool) (xs : List A) (S : Sto) : ∃ r S'', putL live xs S = .ok r S'' ∨ putL live xs S = .no := by
  cases live
  · exact ⟨_, _, .inl rfl⟩
  · exact ⟨_, _, .inl rfl⟩
theorem bnd_assoc {α β γ : Type} (m : M α) (k : α → M β) (h : β → M γ) (S : Sto) : bnd (bnd m k) h S = bnd m (fun a => bnd (k a) h) S := by
  unfold bnd
  cases m S <;> rfl
theorem bnd_ret {α β : Type} (a : α) (k : α → M β) (S : Sto) : bnd (ret a) k S = k a S := rfl
def ATs (X : Cx) (G : Gs) (ifs : List Expr) (m : Lo → M Bool) : Prop := ∀ W, Takes X W → PTs X ifs (aT (cf X) W G m)
theorem ats_nil {X : Cx} {G : Gs} : ATs X G [] yesT := fun W tk => ⟨fun pins s σ H Q I q => pts_nil.run pins s σ H Q I (by
  obtain ⟨w, ρ, rfl, st, o⟩ := q
  exact Out.here (R := RB) o st.rel rfl)⟩
theorem ats_one {X : Cx} {G : Gs} {c : Expr} {m : Lo → M Bool} (h : AT X G c m) : ATs X G [c] m := fun W tk => pts_one (h W tk)
/-- the turns -/
theorem lc_turns {X : Cx} {D : Addr} {Q : VK} {live : Bool} {g : TG} {t : Tg} {vs : List Nat} {mt : Lo → M Bool} {me : Lo → M A} {G : Gs} {J : It} {items : List A} {Ok : Wd → Prop} {w1 : Wd} {σ : L2.St} {ρ : Lo} (hP : ∀ σ, G.P σ)
    (imp : ∀ (w : Wd) (a : A) (x : V) (ρ ρ1 : Lo) (σ : L2.St) (k : L2.St → Hp → Prop), Rl (cf X) w ρ σ → Rv (cf X) w a x → t a ρ = some ρ1 → (∀ σ1, Rl (cf X) w ρ1 σ1 → wipe σ1 vs = wipe σ vs → k σ1 w.H) → g x σ w.H k)
    (wk : Wk (cf X) J items Ok) (st : Sta (cf X) G w1 ρ σ) (ok : Ok w1) (hl : items.length < 100000) (hn : w1.H D = none) (o : Out (cf X) WF σ (Rv (cf X)) w1 Q (bnd (lcL t mt me (wipeA ρ vs) items) (putL live) w1.S)) :
    ∃ W : Nat → Nat → Hp → Prop, (∃ m, W 0 m (upd w1.H D (.lst []))) ∧ ∀ i m H, W i m H →
      (J.stop i H ∧ Q (.ref D) H) ∨ (J.go i H ∧ ∃ Nx : Hp → Prop, (∀ H', Nx H' → ∃ m', m' < m ∧ W (i + 1) m' H') ∧ ∀ x H', J.yld i H x H' → g x (wipe σ vs) H' fun σ2 H2 => wipe σ2 vs = wipe σ vs ∧ aT (cf X) WF G mt σ2 H2 fun b H3 =>
        if b = true then aE (cf X) WF G me σ2 H3 fun y H4 => ∃ acc, H4 D = some (.lst acc) ∧ acc.length < sizeLine ∧ Nx (upd H4 D (.lst (acc ++ [y]))) else Nx H3) := by
  let IN : Nat → Hp → Prop := fun i H => ∃ (w : Wd) (as : List A) (us : List V), w.H = H ∧ Sta (cf X) G w (wipeA ρ vs) (wipe σ vs) ∧ Ok w ∧ Ex w1 w ∧ D ∈ w.x.sc ∧ H D = some (.lst us) ∧ Rvs (cf X) w as us ∧ as.length ≤ i ∧ Out (cf X) WF σ (Rv (cf X)) w1 Q (bnd (lcL t mt me (wipeA ρ vs) (items.drop i)) (fun ys => putL live (as ++ ys)) w.S)
  refine ⟨fun i m H => m = items.length - i ∧ i ≤ items.length ∧ IN i H, ⟨_, rfl, Nat.zero_le _, ?_⟩, ?_⟩
  · obtain ⟨rl, ex⟩ := slaid (o := .lst []) st.rel hn rfl
    have st' := st.ex ex rl
    exact ⟨_, [], [], rfl, ⟨rl, st'.loc.wipeA vs, st'.gh, hP _⟩, wk.ex _ _ ok ex.y, ex, List.mem_cons_self, upd_same, .nil, Nat.le_refl _, by simpa using o⟩
  rintro i m H ⟨rfl, hi, w, as, us, rfl, st2, ok2, ex2, hD, hH, ra, hal, o⟩
  by_cases hlt : i < items.length
  · have ed : items.drop i = items[i] :: items.drop (i + 1) := List.drop_eq_getElem_cons hlt
    rw [ed] at o
    refine .inr ⟨wk.go w i st2.rel ok2 hlt, IN (i + 1), fun H' h' => ⟨items.length - (i + 1), by omega, rfl, hlt, h'⟩, fun x H' y => ?_⟩
    obtain ⟨w', a, rfl, hS, ex, rl, ha, rv⟩ := wk.yld w i x H' st2.rel ok2 hlt y
    rw [List.getElem?_eq_getElem hlt] at ha
    cases ha
    have st3 := st2.ex ex rl
    rw [← hS] at o
    unfold lcL at o
    cases et : t items[i] (wipeA ρ vs) with
    | none => rw [et] at o; exact o.elim
    | some ρ1 =>
      rw [et] at o
      refine imp w' _ x _ ρ1 _ _ st3.loc rv et fun σ2 rl2 hw => ⟨?_, ?_⟩
      · rw [hw]
        apply List.ext_getElem?
        intro j
        by_cases hj : j ∈ vs
        · cases e1 : (wipe (wipe σ vs) vs)[j]? with
          | none =>
            have := List.getElem?_eq_none_iff.mp e1
            rw [wipe_length] at this
            exact (List.getElem?_eq_none_iff.mpr this).symm
          | some z =>
            cases z with
            | some v => exact absurd hj (wipe_some e1).2
            | none =>
              have h1 := (List.getElem?_eq_some_iff.mp e1).1
              rw [wipe_length] at h1
              cases e2 : (wipe σ vs)[j]? with
              | none => have := List.getElem?_eq_none_iff.mp e2; omega
              | some z =>
                cases z with
                | some v => exact absurd hj (wipe_some e2).2
                | none => rfl
        · exact wipe_out hj
      · have st4 : Sta (cf X) G w' ρ1 σ2 := ⟨rl, rl2, st3.gh, hP _⟩
        rw [bnd_assoc] at o
        have ex3 := ex2.trans ex
        refine ⟨w', ρ1, rfl, st4, stepB (R := RB) st4 o (fun w5 b b' st5 e5 rb o5 => ?_) ex3⟩
        cases rb
        have fin : ∀ (w6 : Wd) (as' : List A) (us' : List V), Rel (cf X) w6 → Ey w' w6 → Ex w1 w6 → D ∈ w6.x.sc → w6.H D = some (.lst us') → Rvs (cf X) w6 as' us' → as'.length ≤ i + 1 → Out (cf X) WF σ (Rv (cf X)) w1 Q (bnd (lcL t mt me (wipeA ρ vs) (items.drop (i + 1))) (fun ys => putL live (as' ++ ys)) w6.S) → IN (i + 1) w6.H := fun w6 as' us' r6 ey6 e6 hD6 hH6 ra6 hl6 o6 => by
          refine ⟨w6, as', us', rfl, ⟨r6, ⟨st3.loc.1, fun j b hj => ?_⟩, ⟨fun p hp => (st3.gh.1 p hp).ey ey6, fun q hq => (st.gh.2 q hq).ex e6⟩, hP _⟩, wk.ex _ _ (wk.ex _ _ ok2 ex.y) ey6, e6, hD6, hH6, ra6, hl6, o6⟩
          obtain ⟨v, h1, h2⟩ := st3.loc.2 j b hj
          exact ⟨v, h1, h2.ey ey6⟩
        cases b with
        | false =>
          simp only [Bool.false_eq_true, if_false] at o5 ⊢
          have e7 := ex.trans e5
          exact fin w5 as us st5.rel e5.y (ex3.trans e5) (e7.sx D hD).1 ((e7.sx D hD).2.trans hH) (ra.ex e7) (by omega) o5
        | true =>
          simp only [if_true] at o5 ⊢
          rw [bnd_assoc] at o5
          refine ⟨w5, ρ1, rfl, st5, stepB (R := Rv (cf X)) st5 o5 (fun w6 y v st6 e6 ry o6 => ?_) (ex3.trans e5)⟩
          have e7 := (ex.trans e5).trans e6
          have hD6 := (e7.sx D hD).1
          have hH6 := (e7.sx D hD).2.trans hH
          have ra6 := ra.ex e7
          have hul : us.length = as.length := ra6.len
          refine ⟨us, hH6, Nat.lt_of_lt_of_le (m := 100000) (by rw [hul]; omega) (by decide), ?_⟩
          have ey : Ey w' ⟨w6.ι, w6.S, upd w6.H D (.lst (us ++ [v])), w6.x⟩ := by
            have a1 := (e5.trans e6).y
            have a2 := Ey.sput (o := .lst (us ++ [v])) hD6
            refine ⟨fun j a h => a2.ix j a (a1.ix j a h), fun a u n h t => ?_, fun k u h l => a2.lk k u (a1.lk k u h l) l, a2.gx.trans a1.gx⟩
            obtain ⟨h1 | ⟨ob, d, h1⟩, h2⟩ := a1.kp a u n h t
            · exact a2.kp a u h2 h1 t
            · obtain ⟨h3, h4⟩ := a2.kp.is h2 h1 rfl
              exact ⟨.inr ⟨ob, d, h3⟩, h4⟩
          have a2 := Ey.sput (o := .lst (us ++ [v])) hD6
          refine fin ⟨w6.ι, w6.S, upd w6.H D (.lst (us ++ [v])), w6.x⟩ (as ++ [y]) (us ++ [v]) (st6.rel.sput hD6 rfl) ey (Ex.sput ((ex3.trans e5).trans e6) st.rel hn hD6) hD6 upd_same ?_ (by simp; omega) ?_
          · exact Rvs.app (ra6.mono a2.kp.v a2.ix) (.cons (ry.ey a2) .nil)
          · rw [bnd_assoc] at o6
            have hk : (fun ys => putL live ((as ++ [y]) ++ ys)) = fun ys => putL live (as ++ (y :: ys)) := by funext ys; rw [List.append_assoc]; rfl
            rw [hk]
            exact o6
  · have e : i = items.length := by omega
    subst e
    rw [List.drop_length] at o
    refine .inl ⟨wk.stop w st2.rel ok2, ?_⟩
    have o : Out (cf X) WF σ (Rv (cf X)) w1 Q (putL live (as ++ []) w.S) := o
    rw [List.append_nil] at o
    obtain ⟨r3, e3, c3, n3⟩ := send st2.rel ex2 st.rel hn hD
    cases live with
    | false =>
      have o : Out (cf X) WF σ (Rv (cf X)) w1 Q (.ok (.fl as) w.S) := o
      exact Out.use (R := Rv (cf X)) (w' := ⟨w.ι, w.S, w.H, w1.x⟩) o rfl e3 r3 (.fl n3 (.inl hH) (ra.cut c3 ra.bel))
    | true =>
      have o : Out (cf X) WF σ (Rv (cf X)) w1 Q (.ok (.ref w.S.length) (w.S ++ [.lst as])) := o
      have ey : Ey w ⟨w.ι ++ [D], w.S ++ [.lst as], w.H, w1.x⟩ := eySend st2.rel ex2 hD
      obtain ⟨r4, e4⟩ := sendN (ob := .lst as) st2.rel ex2 st.rel hn hD ⟨us, hH, ra.mono ey.kp.v ey.ix⟩
      refine Out.use (R := Rv (cf X)) (w' := ⟨w.ι ++ [D], w.S ++ [.lst as], w.H, w1.x⟩) o rfl e4 r4 (.ref ?_)
      show (w.ι ++ [D])[w.S.length]? = some D
      rw [← st2.rel.len, List.getElem?_append_right (Nat.le_refl _), Nat.sub_self]
      rfl
section
variable {X : Cx} {G : Gs} {elt tg iter : Expr} {ifs : List Expr} {scope : Scope} {own : List (Str × Nat)} {pos : Pos} {mi : Lo → M (List A)} {g : TG} {t : Tg} {mt : Lo → M Bool} {me : Lo → M A}
theorem lc_imp {W : WX} {live : Bool} {vs : List Nat} (hP : ∀ σ, G.P σ) (imp : ∀ (w : Wd) (a : A) (x : V) (ρ ρ1 : Lo) (σ : L2.St) (k : L2.St → Hp → Prop), Rl (cf X) w ρ σ → Rv (cf X) w a x → t a ρ = some ρ1 → (∀ σ1, Rl (cf X) w ρ1 σ1 → wipe σ1 vs = wipe σ vs → k σ1 w.H) → g x σ w.H k)
    {σ : L2.St} {H : Hp} {Q : VK} (q : aE (cf X) W G (lcE live t mi mt me vs) σ H Q) : tLc (aI (cf X) W G mi) g (aT (cf X) WF G mt) (aE (cf X) WF G me) vs σ H Q :=
  aG_step (R := RI (cf X)) q fun w1 ρ items J st1 ⟨Ok, wk, ok⟩ o D hD => by
    obtain ⟨hl, o⟩ := o.guard
    exact lc_turns hP imp wk st1 ok hl hD (Out.noex (putL_ok live) o)
theorem ae_lc (live : Bool) (hc : X.calm = true) (hN : X.N.Nodup) (hi : AI X G tg iter mi) (ok : BlkOk X.N X.env.scope scope own)
    (hg : ∀ (s : Shared) (H : Hp) (C : Addr) (cl : List (Str × Addr)) (fp : List Addr), TgB (X.blk s H scope (compEnvC scope cl C X.env) fp) tg g t (own.map (·.2)))
    (ht : ∀ (s : Shared) (H : Hp) (C : Addr) (cl : List (Str × Addr)) (fp : List Addr), ATs (X.blk s H scope (compEnvC scope cl C X.env) fp) G ifs mt)
    (he : ∀ (s : Shared) (H : Hp) (C : Addr) (cl : List (Str × Addr)) (fp : List Addr), AE (X.blk s H scope (compEnvC scope cl C X.env) fp) G elt me) (hs : ∀ x, foldedSetIterable iter X.env x = pure x := by intro _; rfl) (hP : ∀ σ, G.P σ := by intros; trivial) :
    AE X G (.ListComp elt [⟨tg, iter, ifs, 0⟩] scope pos) (lcE live t mi mt me (own.map (·.2))) := fun W tk =>
  (pe_lc (tt := aT (cf X) WF G mt) (te := aE (cf X) WF G me) hc hN (hi W tk) ok (fun s H C cl fp => (hg s H C cl fp).pg) (fun s H C cl fp => ht s H C cl fp WF takes0) (fun s H C cl fp => he s H C cl fp WF takes0) hs).imp fun σ H Q q => lc_imp (X := X) hP (hg X.s_0 H 0 [] []).imp q
theorem as_setLc (live : Bool) {i : Nat} {y : Str} {py spos : Pos} (hc : X.calm = true) (hN : X.N.Nodup) (hy : X.N[i]? = some y) (hyl : X.env.scope.names.lookup y = some .local)
    (hsw : swapsWith (.ListComp elt [⟨tg, iter, ifs, 0⟩] scope pos) (some (.Name y py)) spos.line X.env = pure true) (hi : AI X G tg iter mi) (ok : BlkOk X.N X.env.scope scope own)
    (hg : ∀ (s : Shared) (H : Hp) (C : Addr) (cl : List (Str × Addr)) (fp : List Addr), TgB (X.blk s H scope (compEnvC scope cl C X.env) fp) tg g t (own.map (·.2)))
    (ht : ∀ (s : Shared) (H : Hp) (C : Addr) (cl : List (Str × Addr)) (fp : List Addr), ATs (X.blk s H scope (compEnvC scope cl C X.env) fp) G ifs mt)
    (he : ∀ (s : Shared) (H : Hp) (C : Addr) (cl : List (Str × Addr)) (fp : List Addr), AE (X.blk s H scope (compEnvC scope cl C X.env) fp) G elt me) (hs : ∀ x, foldedSetIterable iter X.env x = pure x := by intro _; rfl) (hP : ∀ σ, G.P σ := by intros; trivial) :
    AS X G (.Assign [.Name y py] (.ListComp elt [⟨tg, iter, ifs, 0⟩] scope pos) spos) (setS i (lcE live t mi mt me (own.map (·.2)))) := fun W tk =>
  (ps_setLc (tt := aT (cf X) WF G mt) (te := aE (cf X) WF G me) hc hN hy hyl hsw (hi W tk) ok (fun s H C cl fp => (hg s H C cl fp).pg) (fun s H C cl fp => ht s H C cl fp WF takes0) (fun s H C cl fp => he s H C cl fp WF takes0) hs).imp fun D σ H q =>
    lc_imp (X := X) hP (hg X.s_0 H 0 [] []).imp (aS_step (R := Rv (cf X)) q fun w1 ρ a b st1 rv o => o w1 _ rfl Ex.refl ⟨st1.rel, st1.loc.set i rv, st1.gh, hP _⟩)
end
end FL

/-! ## A15: dict comprehensions, keys of either kind -/
namespace FL
open PySem PySem.Spec PyProof.Rows L2
variable [LT]
/-- D[y] = z; a dict without items takes keys of either kind -/
def DSet (H : Hp) (D : Addr) (y z : V) (H' : Hp) : Prop := DPut H D y z H' ∨ (H D = some (.dK []) ∧ DPut (upd H D (.dT [])) D y z H') ∨ (H D = some (.dT []) ∧ DPut (upd H D (.dK [])) D y z H')
section
variable {X : Cx} {pins : List (Addr × Obj)} {σ : L2.St} {H H' : Hp} {s : Shared} {D : Addr} {y z : V} {u r : Value} {E : Value → Shared → Prop} {Q : Unit → Shared → Prop}
theorem dsetP (hu : X.A.units + 1 < cLine) (I : Inv X pins σ H s) (g : DPut H D y z H') (ry : RelV y u) (rz : RelV z r) (h : ∀ s', Inv X pins σ H' s' → Q () s') : wpAny (model X.prog X.w) X.A (dictSet D u r) Q E s := by
  rcases g with ⟨kvs, k, e, rfl, hl, rfl⟩ | ⟨kvs, k, b, e, rfl, eb, hl, rfl⟩
  · exact d_dictSet I e hl ry rz h
  · cases (show u = Value.ref b from ry)
    obtain ⟨z1, hd, xs, rel, dd⟩ := dt_of I.hok e
    have hz : xs.length ≤ sizeLine := by rw [← Paired.length rel]; exact z1
    have hl2 : (putK kvs k z).length ≤ sizeLine := by have := length_putK kvs k z; omega
    refine wpAny_dictSet_heap (hsz := hz) (show X.A.units < cLine by omega) (key_of I.hok eb) dd fun h' dd' hs => h _ ?_
    obtain ⟨q, es, ep, hq, h2, h3, h4, _, h5⟩ := dd'
    refine d_write I (by rw [e]; exact True.intro) hs ⟨q, hq⟩ ⟨hl2, hd, _, (rel.put k eb rz).keeps fun c ys ec => ?_, q, es, ep, hq, h2, h3, h4, h5⟩
    rw [upd_ne (ne_of ec e (fun z => nomatch z))]
    exact ec
theorem dset_run (hu : X.A.units + 1 < cLine) (I : Inv X pins σ H s) (g : DSet H D y z H') (ry : RelV y u) (rz : RelV z r) (h : ∀ s', Inv X pins σ H' s' → Q () s') : wpAny (model X.prog X.w) X.A (dictSet D u r) Q E s := by
  rcases g with g | ⟨e, g⟩ | ⟨e, g⟩
  · exact dsetP hu I g ry rz h
  · exact dsetP hu (toT I e) g ry rz h
  · exact dsetP hu (toK I e) g ry rz h
end
def tDcA (wi : TI) (g : TG) (tt : TT) (tk tv : TE) (vs : List Nat) : TE := fun σ H Q => wi σ H fun J H1 => ∀ D, H1 D = none → ∃ W : Nat → Nat → Hp → Prop, (∃ m, W 0 m (upd H1 D (.dK []))) ∧ ∀ i m H, W i m H →
  (J.stop i H ∧ Q (.ref D) H) ∨ (J.go i H ∧ ∃ Nx : Hp → Prop, (∀ H', Nx H' → ∃ m', m' < m ∧ W (i + 1) m' H') ∧ ∀ x H', J.yld i H x H' → g x (wipe σ vs) H' fun σ2 H2 => wipe σ2 vs = wipe σ vs ∧ tt σ2 H2 fun b H3 =>
    if b = true then tk σ2 H3 fun y H4 => tv σ2 H4 fun z H5 => ∃ H6, DSet H5 D y z H6 ∧ Nx H6 else Nx H3)
section
variable {X : Cx}
/-- as HandS.DictComp's dc_core, the store by DSet -/
theorem dc_coreA {pins : List (Addr × Obj)} {s : Shared} {σ : L2.St} {H : Hp} {Q : VK} {pos' : Pos} {use : Option (Value → Sem Unit)} {Qf : Value → Shared → Prop} {kx vx tg iter : Expr} {ifs : List Expr} {scope : Scope} {own : List (Str × Nat)} {pos : Pos} {wi : TI} {g : TG} {tt : TT} {tk tv : TE} (hu : X.A.units + 1 < cLine) (hc : X.calm = true) (hN : X.N.Nodup) (I : Inv X pins σ H s) (hi : PI X tg iter wi) (ok : BlkOk X.N X.env.scope scope own)
    (hg : ∀ (s : Shared) (H : Hp) (C : Addr) (cl : List (Str × Addr)) (fp : List Addr), PG (X.blk s H scope (compEnvC scope cl C X.env) fp) tg g) (ht : ∀ (s : Shared) (H : Hp) (C : Addr) (cl : List (Str × Addr)) (fp : List Addr), PTs (X.blk s H scope (compEnvC scope cl C X.env) fp) ifs tt)
    (hk : ∀ (s : Shared) (H : Hp) (C : Addr) (cl : List (Str × Addr)) (fp : List Addr), PE (X.blk s H scope (compEnvC scope cl C X.env) fp) kx tk)
    (he : ∀ (s : Shared) (H : Hp) (C : Addr) (cl : List (Str × Addr)) (fp : List Addr), PE (X.blk s H scope (compEnvC scope cl C X.env) fp) vx tv) (hs : ∀ x, foldedSetIterable iter X.env x = pure x)
    (h : tDcA wi g tt tk tv (own.map (·.2)) σ H Q)
    (hRR : ∀ D C s' m H', Inv X pins σ H' s' → Q (.ref D) H' → s'.heap.Ns C m → FpOk X pins H' C → compPost (model X.prog X.w) X.A X.xe use Qf (.ref D) C (.ok .next) s') :
    wpAny (model X.prog X.w) X.A (comprehension (.DictComp kx vx [⟨tg, iter, ifs, 0⟩] scope pos) scope X.env pos' newDict false (eval iter X.env) use) Qf X.xe s := by
  have hfree : ∀ y ∈ scope.names, y.2 = .free → ∃ c, X.env.cells.lookup y.1 = some c := fun y hy e => by
    rcases ok.free y hy e with k | k
    · exact I.ok.has _ (.inl k)
    · exact I.ok.has _ (.inr k)
  refine wpAny_comprehension_free (use := use) rfl hs (closure_ok hfree) ok.kind (fun y hy e => by rw [ok.uniq y hy, e])
    (thn (hi.run pins s σ H _ I h) fun xv s1 hx => thn hx fun itv s2 h2 => ?_)
  obtain ⟨it, fp, tn, J, H2, e, I2, T, st2, f2, q⟩ := h2
  subst e
  refine wpAny_newObj_type (newEnv_comp ?_)
  generalize hD : s2.heap.objs.size = D
  have hDn : H2 D = none := I2.hok.fresh (Nat.le_of_eq hD)
  obtain ⟨W, ⟨m0, w0⟩, turn⟩ := q D hDn
  generalize hs3 : ({ s2 with heap := s2.heap.push { cls := .type "dict", data := .dict #[] } } : Shared) = s3
  have h3 : s3.heap = s2.heap.push { cls := .type "dict", data := .dict #[] } := by rw [← hs3]
  have I3 : Inv X pins σ (upd H2 D (.dK [])) s3 := by
    rw [← hs3]
    refine I2.laid (t' := s2.toks) (fun b o e => Heap.get?_push_of_some _ e) (Nat.le_of_eq hD) ?_
    rw [← hD]
    exact dk_empty s2.heap I2.big
  have f3 : ∀ b ∈ fp, FpOk X pins (upd H2 D (.dK [])) b ∧ b < s3.heap.objs.size := fun b hb => by
    obtain ⟨o, e, _⟩ := T.obj _ _ st2 b hb
    have hlt := Heap.lt_size e
    refine ⟨⟨?_, (f2 b hb).2⟩, by rw [h3, Heap.size_push]; exact Nat.lt_succ_of_lt hlt⟩
    rw [upd_ne (by rw [← hD]; exact Nat.ne_of_lt hlt)]
    exact (f2 b hb).1
  have st3 : tn 0 s3.heap := T.keep _ _ _ st2 fun b _ o e => by rw [h3]; exact Heap.get?_push_of_some _ e
  have I4 := block_start I3 ok hN f3
  have pg := hg s3 (upd H2 D (.dK [])) s3.heap.objs.size (cellsFrom (s3.heap.objs.size + 1) scope.names (cloFrom X.env.cells scope.names [])) fp
  have pt := ht s3 (upd H2 D (.dK [])) s3.heap.objs.size (cellsFrom (s3.heap.objs.size + 1) scope.names (cloFrom X.env.cells scope.names [])) fp
  have pk := hk s3 (upd H2 D (.dK [])) s3.heap.objs.size (cellsFrom (s3.heap.objs.size + 1) scope.names (cloFrom X.env.cells scope.names [])) fp
  have pv := he s3 (upd H2 D (.dK [])) s3.heap.objs.size (cellsFrom (s3.heap.objs.size + 1) scope.names (cloFrom X.env.cells scope.names [])) fp
  have nfp : ∀ b ∈ fp, (upd H2 D (.dK [])) b = none := fun b hb => (f3 b hb).1.1
  show codeAny _ _ (.compStart (.DictComp kx vx [⟨tg, iter, ifs, 0⟩] scope pos) 0 (.ref it) (.ref D) (compEnvC scope (cellsFrom (s3.heap.objs.size + 1) scope.names (cloFrom X.env.cells scope.names [])) s3.heap.objs.size X.env)) (compPost (model X.prog X.w) X.A X.xe use Qf (.ref D) s3.heap.objs.size) { s3 with heap := pushCells (s3.heap.push { cls := .type "dict", data := .dict #[] }) scope.names }
  generalize hce : compEnvC scope (cellsFrom (s3.heap.objs.size + 1) scope.names (cloFrom X.env.cells scope.names [])) s3.heap.objs.size X.env = ce at I4 pg pt pk pv ⊢
  have cL : ce.locals = s3.heap.objs.size := by subst hce; rfl
  generalize hH3 : upd H2 D (.dK []) = H3 at I3 I4 pg pt pk pv w0 nfp f3
  generalize hs4 : ({ s3 with heap := pushCells (s3.heap.push { cls := .type "dict", data := .dict #[] }) scope.names } : Shared) = s4 at I4 ⊢
  have st4 : tn 0 s4.heap := T.keep _ _ _ st3 fun b _ o e => by rw [← hs4]; exact pushCells_keeps _ _ _ _ (Heap.get?_push_of_some _ e)
  have stat : ∀ {σ' : L2.St} {H' : Hp} {s' : Shared}, Inv (X.blk s3 H3 scope ce fp) [] σ' H' s' → (∀ b ∈ fp, H' b = none) → ∀ b ∈ fp, FpOk (X.blk s3 H3 scope ce fp) [] H' b := fun {σ' H' s'} I' hn b hb =>
    ⟨hn b hb, (I'.ok.exf b hb).1, I'.ok.exfs b hb, .inl hb, fun x c e => (I'.ok.exf b hb).2 x c e, fun p hp => absurd (show p ∈ ([] : List (Addr × Obj)) ++ [] from hp) (by simp)⟩
  have loop : codeAny (model X.prog X.w) X.A (.compLoop (.DictComp kx vx [⟨tg, iter, ifs, 0⟩] scope pos) 0 (.ref it) (.ref D) ce) (compPost (model X.prog X.w) X.A X.xe use Qf (.ref D) s3.heap.objs.size) s4 := by
    refine compLoop_anyD (fun n s' => ∃ i H', Inv (X.blk s3 H3 scope ce fp) [] (wipe σ (own.map (·.2))) H' s' ∧ tn i s'.heap ∧ (∀ b ∈ fp, H' b = none) ∧ W i n H') ?_ m0 ⟨0, H3, I4, st4, nfp, w0⟩
    rintro n s5 ⟨i, H5, I5, st5, n5, w5⟩
    rcases turn i n H5 w5 with ⟨stop, qq⟩ | ⟨go, Nx, hNx, step⟩
    · refine thnF (T.done (X.blk s3 H3 scope ce fp) rfl rfl rfl hc i [] s5 _ H5 (fun _ _ => False) I5 (stat I5 n5) st5 stop) fun r s6 ⟨hr, I6⟩ => ?_
      subst hr
      have I7 : Inv X pins σ H5 s6 := I3.call' (ch := fp) I6.os I6.base I6.hok I6.bare fun b hb => ⟨(f3 b hb).1.2.2.2.1, (f3 b hb).1.2.1, (f3 b hb).1.2.2.2.2.1, (f3 b hb).1.2.2.2.2.2⟩
      have nC : H5 s3.heap.objs.size = none := by
        have z : H5 ce.locals = none := I6.free
        rw [cL] at z
        exact z
      obtain ⟨m, hn, _⟩ := I6.loc
      have hn : s6.heap.Ns ce.locals m := hn
      rw [cL] at hn
      exact hRR D s3.heap.objs.size s6 m H5 I7 qq hn (I3.fpOk (Nat.le_refl _) nC)
    · refine thnF (T.item (X.blk s3 H3 scope ce fp) rfl rfl rfl hc i [] s5 _ H5 (fun _ _ => False) I5 (stat I5 n5) st5 go) fun r s6 ⟨u, hr, h6⟩ => ?_
      subst hr
      refine thnF h6 fun _ s7 ⟨x, H7, I7, r7, y7, st7, n7⟩ => ?_
      refine thnF (pg.run _ s7 _ H7 x u _ (I7.pinned (stat I7 n7) (T.obj _ _ st7)) r7 (step x H7 y7)) fun _ s8 ⟨σ8, H8, I8, hw8, q8⟩ => ?_
      refine thnF (pt.run _ s8 σ8 H8 _ I8 q8) fun b s9 ⟨H9, I9, q9⟩ => ?_
      have fin : ∀ {s' : Shared} {H' : Hp}, Inv (X.blk s3 H3 scope ce fp) ([] ++ pinsAt fp s7.heap) σ8 H' s' → Nx H' → ∃ m, m < n ∧ ∃ i H', Inv (X.blk s3 H3 scope ce fp) [] (wipe σ (own.map (·.2))) H' s' ∧ tn i s'.heap ∧ (∀ b ∈ fp, H' b = none) ∧ W i m H' := fun {s' H'} I' nx => by
        obtain ⟨m', hm, w'⟩ := hNx H' nx
        have pin' : ∀ b ∈ fp, ∀ o, s7.heap.get? b = some o → s'.heap.get? b = some o ∧ H' b = none := fun b hb o e =>
          let z := I'.pin (b, o) (List.mem_append_right _ (List.mem_append_right _ (mem_pinsAt hb e)))
          ⟨z.1, z.2.1⟩
        have hl : (wipe σ (own.map (·.2))).length = σ8.length := by rw [← hw8, wipe_length]
        refine ⟨m', hm, i + 1, H', (I'.unpinned (pins := [])).weak hl (fun j v e => ?_), T.keep _ _ _ st7 fun b hb o e => (pin' b hb o e).1, fun b hb => ?_, w'⟩
        · rw [← hw8] at e
          exact (wipe_some e).1
        · obtain ⟨o, e, _⟩ := T.obj _ _ st7 b hb
          exact (pin' b hb o e).2
      cases b with
      | false =>
        simp only [Bool.false_eq_true, if_false] at q9 ⊢
        exact fin I9 q9
      | true =>
        simp only [if_true] at q9 ⊢
        refine thnF (pk.run _ s9 σ8 H9 _ I9 q9) fun z s10 ⟨yk, H10, I10, r10, q10⟩ => ?_
        refine thnF (pv.run _ s10 σ8 H10 _ I10 q10) fun z2 s11 ⟨yv, H11, I11, r11, H12, ds, nx⟩ => ?_
        exact dset_run (X := X.blk s3 H3 scope ce fp) hu I11 ds r10 r11 fun s12 I12 => fin I12 nx
  exact codeAny_compStart_dict loop (T.self X.A 0 _ _ _ st4 loop)
theorem pe_dcA {kx vx tg iter : Expr} {ifs : List Expr} {scope : Scope} {own : List (Str × Nat)} {pos : Pos} {wi : TI} {g : TG} {tt : TT} {tk tv : TE} (hu : X.A.units + 1 < cLine) (hc : X.calm = true) (hN : X.N.Nodup) (hi : PI X tg iter wi) (ok : BlkOk X.N X.env.scope scope own)
    (hg : ∀ (s : Shared) (H : Hp) (C : Addr) (cl : List (Str × Addr)) (fp : List Addr), PG (X.blk s H scope (compEnvC scope cl C X.env) fp) tg g) (ht : ∀ (s : Shared) (H : Hp) (C : Addr) (cl : List (Str × Addr)) (fp : List Addr), PTs (X.blk s H scope (compEnvC scope cl C X.env) fp) ifs tt)
    (hk : ∀ (s : Shared) (H : Hp) (C : Addr) (cl : List (Str × Addr)) (fp : List Addr), PE (X.blk s H scope (compEnvC scope cl C X.env) fp) kx tk)
    (he : ∀ (s : Shared) (H : Hp) (C : Addr) (cl : List (Str × Addr)) (fp : List Addr), PE (X.blk s H scope (compEnvC scope cl C X.env) fp) vx tv) (hs : ∀ x, foldedSetIterable iter X.env x = pure x := by intro _; rfl) :
    PE X (.DictComp kx vx [⟨tg, iter, ifs, 0⟩] scope pos) (tDcA wi g tt tk tv (own.map (·.2))) := by
  refine ⟨fun pins s σ H Q I h => ?_⟩
  rw [arm_eval_DictComp]
  refine dc_coreA hu hc hN I hi ok hg ht hk he hs h fun D C s' m H' I' q hn f => ⟨m, hn, fun h'' sb => ?_⟩
  obtain ⟨f0, f1, f2, f3, f4, f5⟩ := f
  exact ⟨.ref D, H', I'.turned (t' := s'.toks) (fun b o hb e => (sb.2 b hb).trans e) f0 f1 f3 f4 f5, rfl, q⟩
/-- name = {..} on one line, the name a local -/
theorem ps_setDcA {i : Nat} {y : Str} {py spos : Pos} {kx vx tg iter : Expr} {ifs : List Expr} {scope : Scope} {own : List (Str × Nat)} {pos : Pos} {wi : TI} {g : TG} {tt : TT} {tk tv : TE} (hu : X.A.units + 1 < cLine) (hc : X.calm = true) (hN : X.N.Nodup) (hy : X.N[i]? = some y) (hyl : X.env.scope.names.lookup y = some .local) (hsw : swapsWith (.DictComp kx vx [⟨tg, iter, ifs, 0⟩] scope pos) (some (.Name y py)) spos.line X.env = pure true) (hi : PI X tg iter wi) (ok : BlkOk X.N X.env.scope scope own)
    (hg : ∀ (s : Shared) (H : Hp) (C : Addr) (cl : List (Str × Addr)) (fp : List Addr), PG (X.blk s H scope (compEnvC scope cl C X.env) fp) tg g) (ht : ∀ (s : Shared) (H : Hp) (C : Addr) (cl : List (Str × Addr)) (fp : List Addr), PTs (X.blk s H scope (compEnvC scope cl C X.env) fp) ifs tt)
    (hk : ∀ (s : Shared) (H : Hp) (C : Addr) (cl : List (Str × Addr)) (fp : List Addr), PE (X.blk s H scope (compEnvC scope cl C X.env) fp) kx tk)
    (he : ∀ (s : Shared) (H : Hp) (C : Addr) (cl : List (Str × Addr)) (fp : List Addr), PE (X.blk s H scope (compEnvC scope cl C X.env) fp) vx tv) (hs : ∀ x, foldedSetIterable iter X.env x = pure x := by intro _; rfl) :
    PS X (.Assign [.Name y py] (.DictComp kx vx [⟨tg, iter, ifs, 0⟩] scope pos) spos) (tAsg (tDcA wi g tt tk tv (own.map (·.2))) (gName i)) := by
  refine ⟨fun pins s σ H D I h => ?_⟩
  rw [exec_Assign_Name_used _ _ _ _ hsw]
  refine wpAny_bind (wpAny_standAt (wpAny_bind ?_))
  show wpAny _ X.A (do let _ ← comprehension (.DictComp kx vx [⟨tg, iter, ifs, 0⟩] scope pos) scope X.env (firstIterPos [⟨tg, iter, ifs, 0⟩] pos) newDict false (eval iter X.env) (some (assign (.Name y py) X.env))) _ _ s
  have h : tDcA wi g tt tk tv (own.map (·.2)) σ H (fun x H1 => gName i x σ H1 D.nx) := h
  refine wpAny_bind (thn (dc_coreA (Qf := fun _ s' => SP X pins D .next s') hu hc hN I hi ok hg ht hk he hs h fun L C s' m H' I' q hn f => ?_) fun _ s' hq => wpAny_pure (wpAny_pure hq))
  show wpAny _ _ (assign (.Name y py) X.env (.ref L)) _ _ _
  refine wpAny_assign_Name (store_ok2 (v := V.ref L) I' hN hy (.inl hyl) rfl (fun s2 I2 ⟨a, sb, ha⟩ => ?_) (.inr hyl))
  obtain ⟨f0, f1, f2, f3, f4, f5⟩ := f
  have haC : C ≠ a := by
    rcases ha with z | z
    · rw [z]; exact f1
    · exact fun e => f4 y a z e.symm
  refine ⟨m, hn.sameBut sb haC, fun h3 sb3 => ?_⟩
  exact ⟨_, H', I2.turned (t' := s2.toks) (fun b o hb e => (sb3.2 b hb).trans e) f0 f1 f3 f4 f5, q⟩
theorem sw_trueD {kx vx : Expr} {gs : List Comprehension} {scope : Scope} {pos py : Pos} {y : Str} {l : Nat} {env : Env} (hk : env.scope.kind = .function) (hy : env.scope.names.lookup y = some .local) (hl : (py.line == pos.line) = true)
    (ha : (scope.names.any fun (n, k) => n == y && (k == .local || k == .cell)) = false) : swapsWith (.DictComp kx vx gs scope pos) (some (.Name y py)) l env = pure true := by
  have ky : env.kindOf y = some .local := hy
  have hb : env.blockKind = .function := by unfold Env.blockKind; rw [hk]; rfl
  unfold swapsWith
  simp only [hb, ky, ha, Expr.pos, hl]
  rfl
end
/-! ### by value -/
def dcL (t : Tg) (mt : Lo → M Bool) (mk mv : Lo → M A) (ρ : Lo) : List A → List (A × A) → M (List (A × A))
  | [], acc => ret acc
  | a :: r, acc => match t a ρ with
    | none => fail
    | some ρ1 => bnd (mt ρ1) fun b => if b = true then bnd (mk ρ1) fun k => bnd (mv ρ1) fun v => guard (kyFit acc k = true) (dcL t mt mk mv ρ r (dPut acc k v)) else dcL t mt mk mv ρ r acc
def putD (live : Bool) (xs : List (A × A)) : M A := fun S => if live = true then .ok (.ref S.length) (S ++ [.dic xs]) else .ok (.fd xs) S
def dcE (live : Bool) (t : Tg) (mi : Lo → M (List A)) (mt : Lo → M Bool) (mk mv : Lo → M A) (vs : List Nat) (ρ : Lo) : M A := bnd (mi ρ) fun items => guard (items.length < 100000) (bnd (noex (dcL t mt mk mv (wipeA ρ vs) items [])) (putD live))
theorem putD_ok (live : Bool) (xs : List (A × A)) (S : Sto) : ∃ r S'', putD live xs S = .ok r S'' ∨ putD live xs S = .no := by
  cases live
  · exact ⟨_, _, .inl rfl⟩
  · exact ⟨_, _, .inl rfl⟩
theorem dPut_len (kvs : List (A × A)) (k v : A) : (dPut kvs k v).length ≤ kvs.length + 1 := by
  unfold dPut
  split <;> simp
/-- a dict of either kind at an address -/
def DAt (Γ : Cfg) (w : Wd) (D : Addr) (kvs : List (A × A)) : Prop := (∃ kv, w.H D = some (.dT kv) ∧ RkT Γ w kvs kv) ∨ ∃ kv, w.H D = some (.dK kv) ∧ RkK Γ w kvs kv
theorem DAt.ey {Γ : Cfg} {w w' : Wd} {D : Addr} {kvs : List (A × A)} (h : DAt Γ w D kvs) (e : Ey w w') (hH : w'.H D = w.H D) : DAt Γ w' D kvs := by
  rcases h with ⟨kv, h, r⟩ | ⟨kv, h, r⟩
  · exact .inl ⟨kv, hH.trans h, r.mono e.kp.v e.ix⟩
  · exact .inr ⟨kv, hH.trans h, r.mono e.kp.v e.ix⟩
theorem Ey.trans {w w1 w2 : Wd} (a : Ey w w1) (b : Ey w1 w2) : Ey w w2 :=
  ⟨fun j p h => b.ix j p (a.ix j p h), fun p o n h t => by
    obtain ⟨h1 | ⟨ob, d, h1⟩, h2⟩ := a.kp p o n h t
    · exact b.kp p o h2 h1 t
    · obtain ⟨h3, h4⟩ := b.kp.is h2 h1 rfl
      exact ⟨.inr ⟨ob, d, h3⟩, h4⟩, fun k o h l => b.lk k o (a.lk k o h l) l, b.gx.trans a.gx⟩
/-- one key more -/
theorem dat_put {Γ : Cfg} {w : Wd} {D : Addr} {kvs : List (A × A)} {k v : A} {y z : V} (rl : Rel Γ w) (hD : D ∈ w.x.sc) (h : DAt Γ w D kvs) (rk : Rv Γ w k y) (rv : Rv Γ w v z) (fit : kyFit kvs k = true) (hl : kvs.length < 100000) :
    ∃ o : HO, isSc o = true ∧ DSet w.H D y z (upd w.H D o) ∧ DAt Γ ⟨w.ι, w.S, upd w.H D o, w.x⟩ D (dPut kvs k v) := by
  have upd2 : ∀ (a b : HO), upd (upd w.H D a) D b = upd w.H D b := fun a b => by
    funext x
    by_cases hx : x = D
    · rw [hx, upd_same, upd_same]
    · rw [upd_ne hx, upd_ne hx, upd_ne hx]
  cases hk : kyOf k with
  | none => unfold kyFit at fit; rw [hk] at fit; cases fit
  | some kk =>
    rcases kyOf_ok rk hk with ⟨k0, rfl, rfl, he⟩ | ⟨ks, pb, rfl, rfl, hpb, he⟩
    · rcases h with ⟨kv, e, r⟩ | ⟨kv, e, r⟩
      · have hn := fit_T hk fit r
        have hn2 := r.nil_of hn
        subst hn2
        have ey := Ey.sput (o := .dK (putK [] k0 z)) hD
        refine ⟨.dK (putK [] k0 z), rfl, .inr (.inr ⟨e, ?_⟩), .inr ⟨_, upd_same, ?_⟩⟩
        · rw [← upd2 (.dK []) (.dK (putK [] k0 z))]
          exact DPut.k (kvs := []) upd_same (by show 0 < sizeLine; decide)
        · subst hn
          exact RkK.put hk he (rv.ey ey) .nil
      · have ey := Ey.sput (o := .dK (putK kv k0 z)) hD
        exact ⟨.dK (putK kv k0 z), rfl, .inl (DPut.k e (by rw [r.len]; exact szl hl)), .inr ⟨_, upd_same, RkK.put hk he (rv.ey ey) (r.mono ey.kp.v ey.ix)⟩⟩
    · rcases h with ⟨kv, e, r⟩ | ⟨kv, e, r⟩
      · have ey := Ey.sput (o := .dT (putK kv ks z)) hD
        exact ⟨.dT (putK kv ks z), rfl, .inl (DPut.t e hpb (by rw [r.len]; exact szl hl)), .inl ⟨_, upd_same, RkT.put hk he (rv.ey ey) (r.mono ey.kp.v ey.ix)⟩⟩
      · have hn := fit_K hk fit r
        have hn2 := r.nil_of hn
        subst hn2
        have npb : pb ≠ D := fun z => by rw [z, e] at hpb; cases hpb
        have ey := Ey.sput (o := .dT (putK [] ks z)) hD
        refine ⟨.dT (putK [] ks z), rfl, .inr (.inl ⟨e, ?_⟩), .inl ⟨_, upd_same, ?_⟩⟩
        · rw [← upd2 (.dT []) (.dT (putK [] ks z))]
          exact DPut.t (kvs := []) upd_same (by rw [upd_ne npb]; exact hpb) (by show 0 < sizeLine; decide)
        · subst hn
          exact RkT.put hk he (rv.ey ey) .nil
theorem wipe_wipe {σ : L2.St} {vs : List Nat} : wipe (wipe σ vs) vs = wipe σ vs := by
  apply List.ext_getElem?
  intro j
  by_cases hj : j ∈ vs
  · cases e1 : (wipe (wipe σ vs) vs)[j]? with
    | none =>
      have := List.getElem?_eq_none_iff.mp e1
      rw [wipe_length] at this
      exact (List.getElem?_eq_none_iff.mpr this).symm
    | some z =>
      cases z with
      | some v => exact absurd hj (wipe_some e1).2
      | none =>
        have h1 := (List.getElem?_eq_some_iff.mp e1).1
        rw [wipe_length] at h1
        cases e2 : (wipe σ vs)[j]? with
        | none => have := List.getElem?_eq_none_iff.mp e2; omega
        | some z =>
          cases z with
          | some v => exact absurd hj (wipe_some e2).2
          | none => rfl
  · exact wipe_out hj
theorem dc_turns {X : Cx} {D : Addr} {Q : VK} {live : Bool} {g : TG} {t : Tg} {vs : List Nat} {mt : Lo → M Bool} {mk mv : Lo → M A} {G : Gs} {J : It} {items : List A} {Ok : Wd → Prop} {w1 : Wd} {σ : L2.St} {ρ : Lo} (hP : ∀ σ, G.P σ)
    (imp : ∀ (w : Wd) (a : A) (x : V) (ρ ρ1 : Lo) (σ : L2.St) (k : L2.St → Hp → Prop), Rl (cf X) w ρ σ → Rv (cf X) w a x → t a ρ = some ρ1 → (∀ σ1, Rl (cf X) w ρ1 σ1 → wipe σ1 vs = wipe σ vs → k σ1 w.H) → g x σ w.H k)
    (wk : Wk (cf X) J items Ok) (st : Sta (cf X) G w1 ρ σ) (ok : Ok w1) (hl : items.length < 100000) (hn : w1.H D = none) (o : Out (cf X) WF σ (Rv (cf X)) w1 Q (bnd (dcL t mt mk mv (wipeA ρ vs) items []) (putD live) w1.S)) :
    ∃ W : Nat → Nat → Hp → Prop, (∃ m, W 0 m (upd w1.H D (.dK []))) ∧ ∀ i m H, W i m H →
      (J.stop i H ∧ Q (.ref D) H) ∨ (J.go i H ∧ ∃ Nx : Hp → Prop, (∀ H', Nx H' → ∃ m', m' < m ∧ W (i + 1) m' H') ∧ ∀ x H', J.yld i H x H' → g x (wipe σ vs) H' fun σ2 H2 => wipe σ2 vs = wipe σ vs ∧ aT (cf X) WF G mt σ2 H2 fun b H3 =>
        if b = true then aE (cf X) WF G mk σ2 H3 fun y H4 => aE (cf X) WF G mv σ2 H4 fun z H5 => ∃ H6, DSet H5 D y z H6 ∧ Nx H6 else Nx H3) := by
  let IN : Nat → Hp → Prop := fun i H => ∃ (w : Wd) (as : List (A × A)), w.H = H ∧ Sta (cf X) G w (wipeA ρ vs) (wipe σ vs) ∧ Ok w ∧ Ex w1 w ∧ D ∈ w.x.sc ∧ DAt (cf X) w D as ∧ as.length ≤ i ∧ Out (cf X) WF σ (Rv (cf X)) w1 Q (bnd (dcL t mt mk mv (wipeA ρ vs) (items.drop i) as) (putD live) w.S)
  refine ⟨fun i m H => m = items.length - i ∧ i ≤ items.length ∧ IN i H, ⟨_, rfl, Nat.zero_le _, ?_⟩, ?_⟩
  · obtain ⟨rl, ex⟩ := slaid (o := .dK []) st.rel hn rfl
    have st' := st.ex ex rl
    exact ⟨_, [], rfl, ⟨rl, st'.loc.wipeA vs, st'.gh, hP _⟩, wk.ex _ _ ok ex.y, ex, List.mem_cons_self, .inr ⟨[], upd_same, .nil⟩, Nat.le_refl _, by simpa using o⟩
  rintro i m H ⟨rfl, hi, w, as, rfl, st2, ok2, ex2, hD, hA, hal, o⟩
  by_cases hlt : i < items.length
  · have ed : items.drop i = items[i] :: items.drop (i + 1) := List.drop_eq_getElem_cons hlt
    rw [ed] at o
    refine .inr ⟨wk.go w i st2.rel ok2 hlt, IN (i + 1), fun H' h' => ⟨items.length - (i + 1), by omega, rfl, hlt, h'⟩, fun x H' y => ?_⟩
    obtain ⟨w', a, rfl, hS, ex, rl, ha, rv⟩ := wk.yld w i x H' st2.rel ok2 hlt y
    rw [List.getElem?_eq_getElem hlt] at ha
    cases ha
    have st3 := st2.ex ex rl
    rw [← hS] at o
    unfold dcL at o
    cases et : t items[i] (wipeA ρ vs) with
    | none => rw [et] at o; exact o.elim
    | some ρ1 =>
      rw [et] at o
      refine imp w' _ x _ ρ1 _ _ st3.loc rv et fun σ2 rl2 hw => ⟨hw.trans wipe_wipe, ?_⟩
      have st4 : Sta (cf X) G w' ρ1 σ2 := ⟨rl, rl2, st3.gh, hP _⟩
      rw [bnd_assoc] at o
      have ex3 := ex2.trans ex
      refine ⟨w', ρ1, rfl, st4, stepB (R := RB) st4 o (fun w5 b b' st5 e5 rb o5 => ?_) ex3⟩
      cases rb
      have fin : ∀ (w6 : Wd) (as' : List (A × A)), Rel (cf X) w6 → Ey w' w6 → Ex w1 w6 → D ∈ w6.x.sc → DAt (cf X) w6 D as' → as'.length ≤ i + 1 → Out (cf X) WF σ (Rv (cf X)) w1 Q (bnd (dcL t mt mk mv (wipeA ρ vs) (items.drop (i + 1)) as') (putD live) w6.S) → IN (i + 1) w6.H := fun w6 as' r6 ey6 e6 hD6 hA6 hl6 o6 => by
        refine ⟨w6, as', rfl, ⟨r6, ⟨st3.loc.1, fun j b hj => ?_⟩, ⟨fun p hp => (st3.gh.1 p hp).ey ey6, fun q hq => (st.gh.2 q hq).ex e6⟩, hP _⟩, wk.ex _ _ (wk.ex _ _ ok2 ex.y) ey6, e6, hD6, hA6, hl6, o6⟩
        obtain ⟨v, h1, h2⟩ := st3.loc.2 j b hj
        exact ⟨v, h1, h2.ey ey6⟩
      cases b with
      | false =>
        simp only [Bool.false_eq_true, if_false] at o5 ⊢
        have e7 := ex.trans e5
        exact fin w5 as st5.rel e5.y (ex3.trans e5) (e7.sx D hD).1 (hA.ey e7.y (e7.sx D hD).2) (by omega) o5
      | true =>
        simp only [if_true] at o5 ⊢
        rw [bnd_assoc] at o5
        refine ⟨w5, ρ1, rfl, st5, stepB (R := Rv (cf X)) st5 o5 (fun w6 k kv st6 e6 rk o6 => ?_) (ex3.trans e5)⟩
        rw [bnd_assoc] at o6
        refine ⟨w6, ρ1, rfl, st6, stepB (R := Rv (cf X)) st6 o6 (fun w7 v vv st7 e7 rvv o7 => ?_) ((ex3.trans e5).trans e6)⟩
        have e8 := ((ex.trans e5).trans e6).trans e7
        have hD7 := (e8.sx D hD).1
        have hA7 := hA.ey e8.y (e8.sx D hD).2
        by_cases fit : kyFit as k = true
        · obtain ⟨oo, so, ds, hA8⟩ := dat_put st7.rel hD7 hA7 (rk.ex e7) rvv fit (by omega)
          refine ⟨_, ds, fin ⟨w7.ι, w7.S, upd w7.H D oo, w7.x⟩ (dPut as k v) (st7.rel.sput hD7 so) (((e5.trans e6).trans e7).y.trans (Ey.sput hD7)) (Ex.sput (((ex3.trans e5).trans e6).trans e7) st.rel hn hD7) hD7 hA8 (by have := dPut_len as k v; omega) ?_⟩
          have : guard (kyFit as k = true) (dcL t mt mk mv (wipeA ρ vs) (items.drop (i + 1)) (dPut as k v)) = dcL t mt mk mv (wipeA ρ vs) (items.drop (i + 1)) (dPut as k v) := by
            funext S; unfold guard; rw [if_pos fit]
          rw [this] at o7
          exact o7
        · have : bnd (guard (kyFit as k = true) (dcL t mt mk mv (wipeA ρ vs) (items.drop (i + 1)) (dPut as k v))) (putD live) w7.S = .no := by
            unfold bnd guard; rw [if_neg fit]
          rw [this] at o7
          exact o7.elim
  · have e : i = items.length := by omega
    subst e
    rw [List.drop_length] at o
    refine .inl ⟨wk.stop w st2.rel ok2, ?_⟩
    have o : Out (cf X) WF σ (Rv (cf X)) w1 Q (putD live as w.S) := o
    obtain ⟨r3, e3, c3, n3⟩ := send st2.rel ex2 st.rel hn hD
    cases live with
    | false =>
      have o : Out (cf X) WF σ (Rv (cf X)) w1 Q (.ok (.fd as) w.S) := o
      refine Out.use (R := Rv (cf X)) (w' := ⟨w.ι, w.S, w.H, w1.x⟩) o rfl e3 r3 ?_
      rcases hA with ⟨kv, h, r⟩ | ⟨kv, h, r⟩
      · exact .fdT n3 (.inl h) (r.cut c3 r.bel)
      · exact .fdK n3 (.inl h) (r.cut c3 r.bel)
    | true =>
      have o : Out (cf X) WF σ (Rv (cf X)) w1 Q (.ok (.ref w.S.length) (w.S ++ [.dic as])) := o
      have ey : Ey w ⟨w.ι ++ [D], w.S ++ [.dic as], w.H, w1.x⟩ := eySend st2.rel ex2 hD
      obtain ⟨r4, e4⟩ := sendN (ob := .dic as) st2.rel ex2 st.rel hn hD (hA.ey ey rfl)
      refine Out.use (R := Rv (cf X)) (w' := ⟨w.ι ++ [D], w.S ++ [.dic as], w.H, w1.x⟩) o rfl e4 r4 (.ref ?_)
      show (w.ι ++ [D])[w.S.length]? = some D
      rw [← st2.rel.len, List.getElem?_append_right (Nat.le_refl _), Nat.sub_self]
      rfl
section
variable {X : Cx} {G : Gs} {kx vx tg iter : Expr} {ifs : List Expr} {scope : Scope} {own : List (Str × Nat)} {pos : Pos} {mi : Lo → M (List A)} {g : TG} {t : Tg} {mt : Lo → M Bool} {mk mv : Lo → M A}
theorem ae_dc (live : Bool) (hu : X.A.units + 1 < cLine) (hc : X.calm = true) (hN : X.N.Nodup) (hi : AI X G tg iter mi) (ok : BlkOk X.N X.env.scope scope own)
    (hg : ∀ (s : Shared) (H : Hp) (C : Addr) (cl : List (Str × Addr)) (fp : List Addr), TgB (X.blk s H scope (compEnvC scope cl C X.env) fp) tg g t (own.map (·.2)))
    (ht : ∀ (s : Shared) (H : Hp) (C : Addr) (cl : List (Str × Addr)) (fp : List Addr), ATs (X.blk s H scope (compEnvC scope cl C X.env) fp) G ifs mt)
    (hk : ∀ (s : Shared) (H : Hp) (C : Addr) (cl : List (Str × Addr)) (fp : List Addr), AE (X.blk s H scope (compEnvC scope cl C X.env) fp) G kx mk)
    (he : ∀ (s : Shared) (H : Hp) (C : Addr) (cl : List (Str × Addr)) (fp : List Addr), AE (X.blk s H scope (compEnvC scope cl C X.env) fp) G vx mv) (hs : ∀ x, foldedSetIterable iter X.env x = pure x := by intro _; rfl) (hP : ∀ σ, G.P σ := by intros; trivial) :
    AE X G (.DictComp kx vx [⟨tg, iter, ifs, 0⟩] scope pos) (dcE live t mi mt mk mv (own.map (·.2))) := fun W tk =>
  (pe_dcA (tt := aT (cf X) WF G mt) (tk := aE (cf X) WF G mk) (tv := aE (cf X) WF G mv) hu hc hN (hi W tk) ok (fun s H C cl fp => (hg s H C cl fp).pg) (fun s H C cl fp => ht s H C cl fp WF takes0) (fun s H C cl fp => hk s H C cl fp WF takes0) (fun s H C cl fp => he s H C cl fp WF takes0) hs).imp fun σ H Q q =>
    aG_step (R := RI (cf X)) q fun w1 ρ items J st1 ⟨Ok, wk, ok⟩ o D hD => by
      obtain ⟨hl, o⟩ := o.guard
      exact dc_turns (X := X) hP (hg X.s_0 H 0 [] []).imp wk st1 ok hl hD (Out.noex (putD_ok live) o)
theorem as_setDc (live : Bool) {i : Nat} {y : Str} {py spos : Pos} (hu : X.A.units + 1 < cLine) (hc : X.calm = true) (hN : X.N.Nodup) (hy : X.N[i]? = some y) (hyl : X.env.scope.names.lookup y = some .local)
    (hsw : swapsWith (.DictComp kx vx [⟨tg, iter, ifs, 0⟩] scope pos) (some (.Name y py)) spos.line X.env = pure true) (hi : AI X G tg iter mi) (ok : BlkOk X.N X.env.scope scope own)
    (hg : ∀ (s : Shared) (H : Hp) (C : Addr) (cl : List (Str × Addr)) (fp : List Addr), TgB (X.blk s H scope (compEnvC scope cl C X.env) fp) tg g t (own.map (·.2)))
    (ht : ∀ (s : Shared) (H : Hp) (C : Addr) (cl : List (Str × Addr)) (fp : List Addr), ATs (X.blk s H scope (compEnvC scope cl C X.env) fp) G ifs mt)
    (hk : ∀ (s : Shared) (H : Hp) (C : Addr) (cl : List (Str × Addr)) (fp : List Addr), AE (X.blk s H scope (compEnvC scope cl C X.env) fp) G kx mk)
    (he : ∀ (s : Shared) (H : Hp) (C : Addr) (cl : List (Str × Addr)) (fp : List Addr), AE (X.blk s H scope (compEnvC scope cl C X.env) fp) G vx mv) (hs : ∀ x, foldedSetIterable iter X.env x = pure x := by intro _; rfl) (hP : ∀ σ, G.P σ := by intros; trivial) :
    AS X G (.Assign [.Name y py] (.DictComp kx vx [⟨tg, iter, ifs, 0⟩] scope pos) spos) (setS i (dcE live t mi mt mk mv (own.map (·.2)))) := fun W tk =>
  (ps_setDcA (tt := aT (cf X) WF G mt) (tk := aE (cf X) WF G mk) (tv := aE (cf X) WF G mv) hu hc hN hy hyl hsw (hi W tk) ok (fun s H C cl fp => (hg s H C cl fp).pg) (fun s H C cl fp => ht s H C cl fp WF takes0) (fun s H C cl fp => hk s H C cl fp WF takes0) (fun s H C cl fp => he s H C cl fp WF takes0) hs).imp fun D σ H q =>
    aG_step (R := RI (cf X)) (aS_step (R := Rv (cf X)) q fun w1 ρ a b st1 rv o => o w1 _ rfl Ex.refl ⟨st1.rel, st1.loc.set i rv, st1.gh, hP _⟩) fun w1 ρ items J st1 ⟨Ok, wk, ok⟩ o D hD => by
      obtain ⟨hl, o⟩ := o.guard
      exact dc_turns (X := X) hP (hg X.s_0 H 0 [] []).imp wk st1 ok hl hD (Out.noex (putD_ok live) o)
end
end FL

/-! ## A16: small rules, tables of defs -/
namespace FL
open PySem PySem.Spec PyProof.Rows L2
variable [LT]
section
variable {X : Cx} {G : Gs} {e : Expr} {es : List Expr}
theorem av (i : Nat) {x : Str} {pos : Pos} (hN : X.N[i]? = some x := by rfl) (hv : Vis X.env.scope x := by first | exact Or.inl rfl | exact Or.inr (Or.inl rfl) | exact Or.inr (Or.inr rfl)) (hd : (x == ("__debug__" : Str)) = false := by decide) (hcd : (x == ("__classdict__" : Str)) = false := by decide) : AE X G (.Name x pos) (vr i) := ae_var hN hv hd hcd
theorem ae_no : AE X G e (fun _ => fail) := fun W _ => ⟨fun pins s σ H Q I h => by
  obtain ⟨_, _, _, _, o⟩ := h
  exact o.elim⟩
theorem at_no : AT X G e (fun _ => fail) := fun W _ => ⟨fun pins s σ H Q I h => by
  obtain ⟨_, _, _, _, o⟩ := h
  exact o.elim⟩
theorem aw_at {mA : Lo → M Bool} (h : AW X G e mA) : AT X G e mA := h.at
abbrev tupE := tupM
abbrev aj_nil : AJ X G [] [] := AJ.nil
theorem aj_cons {m : Lo → M A} {ms : List (Lo → M A)} (h : AE X G e m) (r : AJ X G es ms) : AJ X G (e :: es) (m :: ms) := .cons h r
def parS (i j : Nat) (ml : Lo → M (List A)) : SM := letG ml fun as ρ S => match as with
  | [a, b] => .nx ((ρ.set i (some a)).set j (some b)) S
  | _ => .no
theorem as_par {i j : Nat} {x y : Str} {a b : Expr} {ml : Lo → M (List A)} {px py pt pos : Pos} {kt k2 pt2} (hc : X.calm = true) (hN : X.N.Nodup) (hi : X.N[i]? = some x) (hj : X.N[j]? = some y) (hij : i ≠ j)
    (hx : X.env.scope.names.lookup x = some .local) (hy : X.env.scope.names.lookup y = some .local) (ha : AA X G [a, b] ml)
    (hw : swappedStores [.Tuple [.Name x px, .Name y py] kt pt] (.Tuple [a, b] k2 pt2) X.env = pure (some [x, y]) := by rfl)
    (hs : swapsWithSole [.Tuple [.Name x px, .Name y py] kt pt] (.Tuple [a, b] k2 pt2) pos.line X.env = pure false := by rfl) (hP : ∀ σ, G.P σ := by intros; trivial) :
    AS X G (.Assign [.Tuple [.Name x px, .Name y py] kt pt] (.Tuple [a, b] k2 pt2) pos) (parS i j ml) := fun W tk => (ps_par hc hN hi hj hij hx hy (ha W tk) hw hs).imp fun D σ H q => aS_step (R := Rvs (cf X)) q fun w1 ρ as vs st1 rv o => by
  match as, rv, o with
  | [a, b], .cons ra (.cons rb .nil), o => exact ⟨_, _, rfl, o w1 _ rfl Ex.refl ⟨st1.rel, (st1.loc.set i ra).set j rb, st1.gh, hP _⟩⟩
  | [], .nil, o => exact o.elim
  | [_], .cons _ .nil, o => exact o.elim
  | _ :: _ :: _ :: _, .cons _ (.cons _ (.cons _ _)), o => exact o.elim
end
theorem gx_set {i j : Nat} {a d : Addr} {fs : List (Str × A)} (h : j ≠ i) : ∀ (σ : L2.St) (v : Option V), (GX i a d fs).P σ → (GX i a d fs).P (σ.set j v) := fun σ v p => by
  show (σ.set j v)[i]? = _
  rw [List.getElem?_set_ne h]; exact p
/-! ### defs by a table -/
section
variable {P : Program} {w : World} {K : PySem.W.Frag} {mg : Str → Option Value} {base : Heap} {n m : Nat} {f : Addr} {F : List A → M A}
theorem FnA.mono (h : FnA P w K mg base n f F) (hn : n ≤ m) : FnA P w K mg base m f F := by
  obtain ⟨fd, ps, fk, b⟩ := h.ex
  exact ⟨fd, ps, fk.mono hn, b⟩
/-- nothing is said -/
theorem FnA.no {fd : FuncData} {ps : List Str} (b : Binds K fd ps []) : FnA P w K mg base n f (fun _ => fail) :=
  ⟨fd, ps, ⟨fun vs H Q E h => by
    obtain ⟨_, _, _, _, _, o⟩ := h
    exact o.elim, fun A' outer s H args us vs Q E _ _ _ _ h => by
    obtain ⟨_, _, _, _, _, o⟩ := h
    exact o.elim⟩, b⟩
end
end FL

/-! ## A17: what is read off the head: defs that say super(), tables of classes -/
namespace FL
open PySem PySem.Spec PyProof.Rows L2
variable [LT]
/-! ### defs that say super() -/
/-- where it stands, its statement, its class, the __init__ above -/
structure DefS where
  at_ : Str × Option Str
  name : Str
  qual : Str
  st : Stmt
  cls : Str
  par : Str × Option Str
abbrev FnV : Type := Option (Str × Str × Arguments × FuncBody × Scope × Addr × Addr)
def fnV (K : PySem.W.Frag) (p : Str × Option Str) : FnV := match K.lookup (He.fAd K p) with
  | some ⟨_, _, .func fd, _⟩ => some (fd.name, fd.qualname, fd.params, fd.body, fd.scope, fd.globals, fd.builtins)
  | _ => none
def DefS.val (d : DefS) : FnV := some (d.name, d.qual, defArgs d.st, .stmts (defBody d.st), defScope d.st, mainGlobals, builtinsNs)
def isNoneV : Value → Bool
  | .none => true
  | _ => false
theorem isNoneV_ok {v : Value} (h : isNoneV v = true) : v = .none := by cases v <;> first | rfl | cases h
/-- the cell __class__, the code object -/
def supF (K : PySem.W.Frag) (file : Str) (d : DefS) : Option (Addr × Addr) := match K.lookup (He.fAd K d.at_) with
  | some ⟨_, _, .func fd, _⟩ => if isNoneV fd.defaults = true then match fd.closure, fd.code with
    | [(x, cc)], .ref cda => if x = "__class__" ∧ PySem.W.codeIn K (.ref cda) d.qual = true then match K.lookup cc, K.lookup cda with
      | some ⟨_, _, .cell (some (.ref c)), _⟩, some ⟨_, _, .fields vs, _⟩ => match (vs[2]? : Option Value) with
        | some (.str f _) => if c = He.ga K d.cls ∧ (file == f) = true then some (cc, cda) else none
        | _ => none
      | _, _ => none
      else none
    | _, _ => none
    else none
  | _ => none
def headOk (d : DefS) : Bool := match ((defArgs d.st).posonlyargs ++ (defArgs d.st).args).head? with
  | some a => a.arg == "self"
  | none => false
def DefS.ok (K : PySem.W.Frag) (file : Str) (d : DefS) : Bool := (supF K file d).isSome && (headOk d && ((PySem.W.clsIn K (He.ga K d.cls)).isSome && (decide (PySem.W.nsIn K cStatics "thirdparty.any" = some none) &&
  (decide (PySem.W.mroIn K (He.ga K d.cls) (.ref (He.ga K d.cls)) = some true) && (decide (PySem.W.ks_superIn K (He.ga K d.cls) (He.ga K d.cls) "__init__" = some (some (.ref (He.fAd K d.par)))) &&
  (decide (PySem.W.typeIn K (.ref (He.fAd K d.par)) = some (.type "function")) && PySem.W.fnIn K (He.fAd K d.par)))))))
theorem DefS.facts {P : Program} {K : PySem.W.Frag} {d : DefS} (hP : (P.main.scope.names.lookup ("super" : Str)).isSome = false) (e : fnV K d.at_ = d.val) (h : d.ok K P.main.file = true) :
    ∃ (cc cda : Addr) (fd : FuncData), FunS K d.name d.qual d.st (He.fAd K d.at_) cc cda fd ∧ SupF P K (He.fAd K d.at_) cda cc (He.ga K d.cls) "self" ∧ SupC K (He.ga K d.cls) (He.fAd K d.par) := by
  unfold DefS.ok at h
  obtain ⟨h1, h⟩ := and_t h
  obtain ⟨h2, h⟩ := and_t h
  obtain ⟨h3, h⟩ := and_t h
  obtain ⟨h4, h⟩ := and_t h
  obtain ⟨h5, h⟩ := and_t h
  obtain ⟨h6, h⟩ := and_t h
  obtain ⟨h7, h8⟩ := and_t h
  unfold fnV at e
  unfold supF at h1
  cases q : K.lookup (He.fAd K d.at_) with
  | none => rw [q] at h1; cases h1
  | some o =>
    obtain ⟨oc, od, dt, osl⟩ := o
    rw [q] at h1 e
    cases dt with
    | func fd =>
      obtain ⟨n1, n2, n3, n4, n5, n6, n7, n8, n9, n10, n11, n12, n13, n14, n15⟩ := fd
      have e2 : (some (n1, n2, n3, n4, n5, n6, n15) : FnV) = some (d.name, d.qual, defArgs d.st, .stmts (defBody d.st), defScope d.st, mainGlobals, builtinsNs) := e
      simp only [Option.some.injEq, Prod.mk.injEq] at e2
      obtain ⟨g1, g2, g3, g4, g5, g6, g7⟩ := e2
      subst g1 g2 g3 g4 g5 g6 g7
      dsimp only at h1
      split at h1
      · rename_i hd
        have hd := isNoneV_ok hd
        subst hd
        split at h1
        · rename_i x cc cda
          split at h1
          · rename_i hx
            obtain ⟨rfl, hcode⟩ := hx
            split at h1
            · rename_i lcc lcd
              split at h1
              · rename_i f t hv
                split at h1
                · rename_i hc
                  obtain ⟨rfl, hf⟩ := hc
                  unfold headOk at h2
                  cases ha : ((defArgs d.st).posonlyargs ++ (defArgs d.st).args).head? with
                  | none => rw [ha] at h2; cases h2
                  | some ar =>
                    rw [ha] at h2
                    refine ⟨cc, cda, _, ⟨⟨oc, od, _, _, _, _, _, osl, rfl, q⟩, hcode, ⟨_, _, _, _, lcc⟩⟩, ⟨⟨oc, od, _, osl, ar, q, ha, beq_iff_eq.mp h2⟩, ⟨_, _, _, _, f, t, lcd, hv, hf⟩, ⟨_, _, _, lcc⟩, Option.isSome_iff_exists.mp h3, of_decide_eq_true h4, hP⟩, ⟨of_decide_eq_true h5, of_decide_eq_true h6, of_decide_eq_true h7, h8⟩⟩
                · cases h1
              · cases h1
            · cases h1
          · cases h1
        · cases h1
      · cases h1
    | _ => cases h1
theorem FunS.binds {K : PySem.W.Frag} {x qual : Str} {st : Stmt} {f cc cda : Addr} {fd : FuncData} {ps : List Str} (F : FunS K x qual st f cc cda fd)
    (h : ∀ (kV doc pm : Value) (an : Option Addr) (ct : Value) (us : List Value), us.length = ps.length → bindArgs (PySem.W.fnX x qual (defArgs st) (defBody st) (defScope st) [("__class__", cc)] .none kV doc pm an (.ref cda) ct) ⟨us, []⟩ = pure (ps.zip us)) : Binds K fd ps [] := by
  obtain ⟨oc, od, kV, doc, pm, an, ct, osl, rfl, lk⟩ := F.ex
  exact .all (h kV doc pm an ct)
/-! ### classes -/
def clsB (K : PySem.W.Frag) (C : Str) : Bool := (He.Fa.cls C).ok K
theorem clsB_ok {K : PySem.W.Frag} {C : Str} (h : clsB K C = true) : Cls K (He.ga K C) := He.cls_ok h
/-- fields read and stored plainly -/
def atB (K : PySem.W.Frag) (l : List (Str × List Str)) : Bool := l.all fun p => clsB K p.1 && p.2.all fun f => (He.Fa.noat p.1 f).ok K
theorem lookup_mem {α β : Type} [BEq α] [LawfulBEq α] : ∀ {l : List (α × β)} {a : α} {b : β}, l.lookup a = some b → (a, b) ∈ l
  | [], _, _, h => by cases h
  | (x, y) :: r, a, b, h => by
    rw [List.lookup_cons] at h
    split at h
    · rename_i e
      cases h
      rw [eq_of_beq e]
      exact List.mem_cons_self
    · exact List.mem_cons_of_mem _ (lookup_mem h)
def atOf (l : List (Str × List Str)) (C f : Str) : Bool := match l.lookup C with
  | some fs => fs.contains f
  | none => false
theorem atB_ok {K : PySem.W.Frag} {l : List (Str × List Str)} (h : atB K l = true) : AtA K (atOf l) := ⟨fun C f hc => by
  unfold atOf at hc
  cases e : l.lookup C with
  | none => rw [e] at hc; cases hc
  | some fs =>
    rw [e] at hc
    have q := List.all_eq_true.mp h _ (lookup_mem e)
    obtain ⟨q1, q2⟩ := and_t q
    exact ⟨clsB_ok q1, He.eqO_ok (List.all_eq_true.mp q2 f (List.contains_iff_mem.mp hc))⟩⟩
/-- isinstance -/
def subOf (l : List (Str × List Str)) (C D : Str) : Bool := match l.lookup C with
  | some ds => ds.contains D
  | none => false
def isaB (K : PySem.W.Frag) (cs : List Str) (sl : List (Str × List Str)) : Bool := cs.all fun C => ((He.Fa.glo C).ok K && (clsB K C && (decide (PySem.W.findIn K (.ref (He.ga K C)) "__class__" = some (some (.builtin "object.__class__"))) && (decide (PySem.W.specialIn K (.builtin "object.__class__") "__get__" = some (some (.builtin "getset_descriptor.__get__"))) &&
  (decide (PySem.W.takesIn K (.builtin "object.__class__") = some true) && decide (PySem.W.mroIn K (He.ga K C) (.type "object") = some true)))))) &&
  ((cs.all fun D => decide (PySem.W.kitOne K (.ref (He.ga K C)) (.ref (He.ga K D)) = some (subOf sl C D))) && ((["NoneType", "bool", "int", "str", "tuple", "list", "dict"].all fun n => decide (PySem.W.kitOne K (.type n) (.ref (He.ga K C)) = some false)) &&
  ["bool", "int", "str", "tuple", "list", "dict"].all fun n => decide (PySem.W.kitOne K (.ref (He.ga K C)) (.type n) = some false)))
theorem isaB_ok {K : PySem.W.Frag} {h : Heap} {mg : Str → Option Value} (X : K.In h) (G : h.Ns mainGlobals mg) {cs : List Str} {sl : List (Str × List Str)} (c : isaB K cs sl = true) : IsA K mg (fun C => cs.contains C) (subOf sl) := by
  have at_ : ∀ C, cs.contains C = true → _ := fun C hC => List.all_eq_true.mp c C (List.contains_iff_mem.mp hC)
  refine ⟨fun C hC => ?_, fun C hC => ?_, fun C D hC hD => ?_, fun n D hn hD => ?_, fun C n hC hn => ?_⟩
  · exact He.glo_ok X G (and_t (and_t (at_ C hC)).1).1
  · obtain ⟨_, q⟩ := and_t (and_t (at_ C hC)).1
    obtain ⟨q1, q⟩ := and_t q
    obtain ⟨q2, q⟩ := and_t q
    obtain ⟨q3, q⟩ := and_t q
    obtain ⟨q4, q5⟩ := and_t q
    exact ⟨clsB_ok q1, of_decide_eq_true q2, of_decide_eq_true q3, of_decide_eq_true q4, of_decide_eq_true q5⟩
  · obtain ⟨q, _⟩ := and_t (and_t (at_ C hC)).2
    exact of_decide_eq_true (List.all_eq_true.mp q D (List.contains_iff_mem.mp hD))
  · obtain ⟨_, q⟩ := and_t (and_t (at_ D hD)).2
    exact of_decide_eq_true (List.all_eq_true.mp (and_t q).1 n (List.contains_iff_mem.mp hn))
  · obtain ⟨_, q⟩ := and_t (and_t (at_ C hC)).2
    exact of_decide_eq_true (List.all_eq_true.mp (and_t q).2 n (List.contains_iff_mem.mp hn))
end FL

/-! ## A18: what is read off the head, further; the hook -/
namespace FL
open PySem PySem.Spec PyProof.Rows L2
variable [LT]
/-- errors: class and fields -/
def erB (K : PySem.W.Frag) (l : List (Str × List Str)) : Bool := l.all fun p => ((He.Fa.glo p.1).ok K && (exB K (He.ga K p.1) && (He.Fa.meth p.1 "__init__").ok K)) && ((p.2.all fun f => (He.Fa.noat p.1 f).ok K) && l.all fun q => decide (PySem.W.exmOne K (.ref (He.ga K p.1)) (.ref (He.ga K q.1)) = some (decide (p.1 = q.1))))
def erOf (l : List (Str × List Str)) (C : Str) : Bool := (l.map Prod.fst).contains C
theorem erOf_mem {l : List (Str × List Str)} {C : Str} (h : erOf l C = true) : ∃ fs, (C, fs) ∈ l := by
  obtain ⟨⟨c, fs⟩, h1, h2⟩ := List.mem_map.mp (List.contains_iff_mem.mp h)
  cases h2
  exact ⟨fs, h1⟩
theorem erB_ok {K : PySem.W.Frag} {l : List (Str × List Str)} (h : erB K l = true) : XcA K (erOf l) := by
  refine ⟨fun C D hC hD => ?_, fun C hC => ?_⟩
  · obtain ⟨fs, h1⟩ := erOf_mem hC
    obtain ⟨gs, h2⟩ := erOf_mem hD
    obtain ⟨_, q⟩ := and_t (and_t (List.all_eq_true.mp h _ h1)).2
    exact of_decide_eq_true (List.all_eq_true.mp q _ h2)
  · obtain ⟨fs, h1⟩ := erOf_mem hC
    obtain ⟨_, q⟩ := and_t (and_t (List.all_eq_true.mp h _ h1)).1
    exact (exB_ok (and_t q).1).xf
theorem erA_of {P : Program} {w : World} {K : PySem.W.Frag} {h : Heap} {mg : Str → Option Value} {base : Heap} (X : K.In h) (G : h.Ns mainGlobals mg) {l : List (Str × List Str)} {C : Str} {fs : List Str} (c : erB K l = true) (hm : (C, fs) ∈ l)
    (ini : ∃ (fd : FuncData) (ps : List Str), FnOk P w K mg base CX0 1 (He.ma K (He.ga K C) "__init__") fd ps (spIni K fs) ∧ Binds K fd ps []) : ErA P w K mg base C fs := by
  obtain ⟨q1, q2⟩ := and_t (List.all_eq_true.mp c _ hm)
  obtain ⟨q3, q4⟩ := and_t q1
  obtain ⟨q5, q6⟩ := and_t q4
  obtain ⟨fd, ps, f1, f2⟩ := ini
  have M := He.meth_ok q6
  exact ⟨exB_ok q5, He.glo_ok X G q3, fun f hf => He.eqO_ok (List.all_eq_true.mp (and_t q2).1 f hf), _, fd, ps, M.at_, beq_iff_eq.mp M.fn, f1, f2⟩
/-! ### all defs at one level -/
def AllF (P : Program) (w : World) (K : PySem.W.Frag) (mg : Str → Option Value) (base : Heap) (n : Nat) (ks : List (Str × Option Str)) (C : Nat → List A → M A) : Prop := ∀ (k : Nat) (p : Str × Option Str), ks[k]? = some p → FnA P w K mg base n (He.fAd K p) (C k)
section
variable {P : Program} {w : World} {K : PySem.W.Frag} {mg : Str → Option Value} {base : Heap} {n : Nat} {ks : List (Str × Option Str)} {C : Nat → List A → M A} {h : Heap}
theorem clA_of (X : K.In h) (G : h.Ns mainGlobals mg) (a : AllF P w K mg base n ks C) {x : Str} {k : Nat} (hk : ks[k]? = some (x, none)) (g : (He.Fa.glo x).ok K = true) (kp : (He.Fa.keep x).ok K = true) : ClA P w K mg base n x (C k) :=
  ⟨_, He.glo_ok X G g, kp, a k _ hk⟩
theorem mkA_of (X : K.In h) (G : h.Ns mainGlobals mg) (a : AllF P w K mg base n ks C) {c : Str} {k : Nat} {p : Str × Option Str} (hk : ks[k]? = some p) (g : (He.Fa.glo c).ok K = true) (m : (He.Fa.mkr c).ok K = true) (e : He.ma K (He.ga K c) "__init__" = He.fAd K p) : MkA P w K mg base n c (C k) :=
  ⟨He.glo_ok X G g, _, He.mkr_ok m, by rw [e]; exact a k _ hk⟩
def mtB (K : PySem.W.Frag) (ks : List (Str × Option Str)) (l : List ((Str × Str) × Nat)) : Bool := l.all fun p => clsB K p.1.1 && ((He.Fa.meth p.1.1 p.1.2).ok K && match ks[p.2]? with
  | some q => decide (He.ma K (He.ga K p.1.1) p.1.2 = He.fAd K q)
  | none => false)
def mtOf (l : List ((Str × Str) × Nat)) (C : Nat → List A → M A) (c m : Str) : Option (List A → M A) := (l.lookup (c, m)).map C
theorem mtA_of {l : List ((Str × Str) × Nat)} (a : AllF P w K mg base n ks C) (b : mtB K ks l = true) : MtA P w K mg base n (mtOf l C) := ⟨fun c m F hF => by
  obtain ⟨k, e, rfl⟩ := Option.map_eq_some_iff.mp hF
  obtain ⟨q1, q⟩ := and_t (List.all_eq_true.mp b _ (lookup_mem e))
  obtain ⟨q2, q3⟩ := and_t q
  cases hk : ks[k]? with
  | none => simp only [hk] at q3; cases q3
  | some p =>
    simp only [hk] at q3
    refine ⟨clsB_ok q1, _, He.meth_ok q2, ?_⟩
    rw [of_decide_eq_true q3]
    exact a k p hk⟩
def owB (K : PySem.W.Frag) (ks : List (Str × Option Str)) (op : Operator) (l : List (Str × Nat)) : Bool := l.all fun p => (PySem.W.selfFirst K (He.ga K p.1) && (decide (PySem.W.findIn K (.ref (He.ga K p.1)) (dunderR op.info.2) = some none) && ((match ks[p.2]? with
  | some q => decide (PySem.W.findIn K (.ref (He.ga K p.1)) (PySem.dunder op.info.2) = some (some (.ref (He.fAd K q)))) && PySem.W.isFn K (.ref (He.fAd K q))
  | none => false) && ((PySem.W.findIn K (.type "int") (PySem.dunder op.info.2)).isSome && ((PySem.W.findIn K (.type "int") (dunderR op.info.2)).isSome && decide (PySem.W.subIn K (.type "int") (.ref (He.ga K p.1)) = some false)))))) &&
  l.all fun q => decide (p.1 = q.1) || (!decide (He.ga K p.1 = He.ga K q.1) && decide (PySem.W.subIn K (.ref (He.ga K q.1)) (.ref (He.ga K p.1)) = some false))
def owOf (l : List (Str × Nat)) (C : Nat → List A → M A) (c : Str) : Option (List A → M A) := (l.lookup c).map C
theorem owA_of {l : List (Str × Nat)} {op : Operator} (a : AllF P w K mg base n ks C) (b : owB K ks op l = true) : OwA P w K mg base n op (owOf l C) := by
  refine ⟨fun c F hF => ?_, fun c d F F' hF hF' hne => ?_, fun c F hF => ?_⟩
  · obtain ⟨k, e, rfl⟩ := Option.map_eq_some_iff.mp hF
    obtain ⟨q, _⟩ := and_t (List.all_eq_true.mp b _ (lookup_mem e))
    obtain ⟨q1, q⟩ := and_t q
    obtain ⟨q2, q⟩ := and_t q
    obtain ⟨q3, q⟩ := and_t q
    cases hk : ks[k]? with
    | none => simp only [hk] at q3; cases q3
    | some p =>
      simp only [hk] at q3
      obtain ⟨z1, z2⟩ := and_t q3
      exact ⟨q1, of_decide_eq_true q2, _, of_decide_eq_true z1, z2, a k p hk⟩
  · obtain ⟨k, e, rfl⟩ := Option.map_eq_some_iff.mp hF
    obtain ⟨k', e', rfl⟩ := Option.map_eq_some_iff.mp hF'
    obtain ⟨_, q⟩ := and_t (List.all_eq_true.mp b _ (lookup_mem e))
    have z := List.all_eq_true.mp q _ (lookup_mem e')
    simp only [Bool.or_eq_true, Bool.and_eq_true, Bool.not_eq_true', decide_eq_true_eq, decide_eq_false_iff_not] at z
    rcases z with z | ⟨z1, z2⟩
    · exact absurd z hne
    · exact ⟨z1, z2⟩
  · obtain ⟨k, e, rfl⟩ := Option.map_eq_some_iff.mp hF
    obtain ⟨q, _⟩ := and_t (List.all_eq_true.mp b _ (lookup_mem e))
    obtain ⟨_, q⟩ := and_t q
    obtain ⟨_, q⟩ := and_t q
    obtain ⟨_, q⟩ := and_t q
    obtain ⟨q1, q⟩ := and_t q
    obtain ⟨q2, q3⟩ := and_t q
    exact ⟨Option.isSome_iff_exists.mp q1, Option.isSome_iff_exists.mp q2, of_decide_eq_true q3⟩
end
/-! ### the hook -/
/-- the addresses not seen yet; those seen are the bits of a number -/
def dedK {β : Type} : List Addr → Nat → List Addr → (Nat → List Addr → β) → β
  | [], m, acc, k => k m acc
  | a :: r, m, acc, k => match Nat.beq (Nat.land (Nat.shiftRight m a) 1) 1 with
    | true => dedK r m acc k
    | false => dedK r (Nat.lor m (Nat.shiftLeft 1 a)) (a :: acc) k
def asW (g : Addr → Option Obj) : Nat → Nat → List Addr → List Addr
  | 0, _, fr => fr
  | n + 1, m, fr => fr ++ dedK (fr.flatMap fun a => match g a with
    | some o => He.refsD o
    | none => []) m [] (fun m' l => asW g n m' l)
def asS (g : Addr → Option Obj) (n : Nat) : List Addr := asW g n (Nat.lor (Nat.shiftLeft 1 mainGlobals) (Nat.shiftLeft 1 cStatics)) [mainGlobals, cStatics]
abbrev AlS : Type := Bool × List He.FnW × List FnV
/-- facts, plain defs, defs that say super(), a check of the law's own -/
structure HkD where
  fa : List He.Fa
  fn : List He.DefD
  fs : List DefS
  file : Str
  ck : PySem.W.Frag → Bool
def HkD.obs (D : HkD) (K : PySem.W.Frag) : AlS := (D.ck K && ((He.obsD D.fa D.fn K).1 && D.fs.all fun d => d.ok K D.file), (He.obsD D.fa D.fn K).2, D.fs.map fun d => fnV K d.at_)
def HkD.val (D : HkD) : AlS := (true, (He.valD D.fn).2, D.fs.map DefS.val)
structure HkD.Says (D : HkD) (K : PySem.W.Frag) : Prop where
  ck : D.ck K = true
  d : He.SaysD D.fa D.fn K
  ok : ∀ d ∈ D.fs, d.ok K D.file = true
  v : ∀ d ∈ D.fs, fnV K d.at_ = d.val
theorem map_eq_all {α β : Type} {f g : α → β} : ∀ {l : List α}, l.map f = l.map g → ∀ a ∈ l, f a = g a
  | [], _, _, h => by cases h
  | b :: r, e, a, h => by
    simp only [List.map_cons, List.cons.injEq] at e
    rcases List.mem_cons.mp h with rfl | h
    · exact e.1
    · exact map_eq_all e.2 a h
theorem HkD.says_of {D : HkD} {K : PySem.W.Frag} (e : D.obs K = D.val) : D.Says K := by
  have e1 : (D.ck K && ((He.obsD D.fa D.fn K).1 && D.fs.all fun d => d.ok K D.file)) = true := congrArg (fun z : AlS => z.1) e
  have e2 : (He.obsD D.fa D.fn K).2 = (He.valD D.fn).2 := congrArg (fun z : AlS => z.2.1) e
  have e3 : (D.fs.map fun d => fnV K d.at_) = D.fs.map DefS.val := congrArg (fun z : AlS => z.2.2) e
  obtain ⟨h1, h⟩ := and_t e1
  obtain ⟨h2, h3⟩ := and_t h
  exact ⟨h1, Prod.ext h2 e2, List.all_eq_true.mp h3, map_eq_all e3⟩
def HkD.obsG (D : HkD) (n : Nat) (g : Addr → Option Obj) : AlS := D.obs (He.frG g (asS g n))
def HkD.hook (D : HkD) (n : Nat) : PySem.W.Hook where
  α := AlS
  obs := fun s => D.obsG n s.heap.get?
  val := fun _ => D.val
  says := fun _ h => ∃ K : PySem.W.Frag, K.In h ∧ D.Says K
  of := fun _ _ e => ⟨_, He.frG_in, HkD.says_of e⟩
  keeps := fun _ _ _ ⟨K, hK, c⟩ k => ⟨K, PySem.W.Frag.In.keeps hK k, c⟩
def HkD.ob (D : HkD) (n : Nat) (s : PySem.W.SharedT) : AlS := D.obsG n (HandSHeadRun.getT s)
theorem HkD.ob_eq (D : HkD) (n : Nat) (s : PySem.W.SharedT) : D.ob n s = (D.hook n).obs s.abs := by
  have e : HandSHeadRun.getT s = s.abs.heap.get? := funext (HandSHeadRun.getT_eq s)
  unfold HkD.ob
  rw [e] <;> rfl
end FL

/-! ## A19: the law's end -/
namespace FL
open PySem PySem.Spec PyProof.Rows L2
variable [LT]
def spEnd (Γ : Cfg) (F : List A → M A) : Sp := fun vs H Q _ => spA Γ F vs H Q (fun _ _ _ => False)
theorem fnk_end {P : Program} {w : World} {K : PySem.W.Frag} {mg : Str → Option Value} {base : Heap} {n : Nat} {f : Addr} {fd : FuncData} {ps : List Str} {F : List A → M A} (h : FnK P w K mg base n f fd ps F) : FnOk P w K mg base CX0 n f fd ps (spEnd ⟨K, mg⟩ F) :=
  ⟨fun vs H Q E q => h.len vs H Q _ q, fun A' outer s H args us vs Q E hr e0 hb r q => codeAny_mono (h.run A' outer s H args us vs Q (fun _ _ _ => False) hr e0 hb r q) fun rr s' z => by
    cases rr with
    | error e =>
      obtain ⟨_, _, _, _, _, _, _, _, _, _, _, _, z⟩ := z
      exact z.elim
    | ok fl => cases fl <;> exact z⟩
theorem end_sp {K : PySem.W.Frag} {mg : Str → Option Value} {F : List A → M A} (hF : ∀ ns : List Int, ns.length ≤ 63 → ∃ S', F [.scr (ns.map A.int)] [] = .ok (.bl true) S') (H : Hp) (a : Addr) (ns : List Int) (hl : ns.length ≤ 63) (hT : LamX.Tabs (LT.tabs K) H) (hS : SqL K H a (ns.map V.int)) : spEnd ⟨K, mg⟩ F [.ref a] H (fun v _ => v = .bl true) (fun _ _ _ => False) := by
  have nl : ¬ Wd.Lv ⟨[], [], H, ⟨[], fun _ => none⟩⟩ a := by
    rintro (⟨k, o, e, _⟩ | z)
    · simp at e
    · cases z
  have rl : Rel ⟨K, mg⟩ ⟨[], [], H, ⟨[], fun _ => none⟩⟩ := ⟨⟨fun g ps hg => (by cases hg), fun g g' ps ps' p hg => (by cases hg), hT⟩, fun a ha => (by cases ha), rfl, fun i j a e => (by simp at e), fun k a o e => (by simp at e)⟩
  have ri : Rvs ⟨K, mg⟩ ⟨[], [], H, ⟨[], fun _ => none⟩⟩ (ns.map A.int) (ns.map V.int) := Rvs.ofInts ns
  refine ⟨⟨[], [], H, ⟨[], fun _ => none⟩⟩, [.scr (ns.map A.int)], rfl, rl, .cons ?_ .nil, ?_⟩
  · rcases hS with h | h
    · exact .scrF nl h ri
    · exact .scrK h ri
  · obtain ⟨S', e⟩ := hF ns hl
    show outF ⟨K, mg⟩ ⟨[], [], H, ⟨[], fun _ => none⟩⟩ _ _ (F [.scr (ns.map A.int)] [])
    rw [e]
    intro w' b _ _ _ rv
    cases rv
    rfl
end FL

/-! ## A20: captured cells tracked and untracked -/
namespace FL
open PySem PySem.Spec PyProof.Rows L2
variable [LT]
def trk (H : Hp) (qf : Addr → Option Obj) : Hp := fun b => match qf b with
  | some o => some (CellO b o)
  | none => H b
def untr (H : Hp) (qf : Addr → Option Obj) : Hp := fun b => match qf b with
  | some _ => none
  | none => H b
theorem trk_at {H : Hp} {qf : Addr → Option Obj} {b : Addr} {o : Obj} (h : qf b = some o) : trk H qf b = some (CellO b o) := by unfold trk; rw [h]
theorem trk_off {H : Hp} {qf : Addr → Option Obj} {b : Addr} (h : qf b = none) : trk H qf b = H b := by unfold trk; rw [h]
theorem untr_at {H : Hp} {qf : Addr → Option Obj} {b : Addr} {o : Obj} (h : qf b = some o) : untr H qf b = none := by unfold untr; rw [h]
theorem untr_off {H : Hp} {qf : Addr → Option Obj} {b : Addr} (h : qf b = none) : untr H qf b = H b := by unfold untr; rw [h]
/-- qf: cells that stand in h -/
def Raw (qf : Addr → Option Obj) (h : Heap) : Prop := ∀ b o, qf b = some o → h.get? b = some o
/-- .. untracked in H -/
def Off (qf : Addr → Option Obj) (H : Hp) : Prop := ∀ b o, qf b = some o → H b = none
/-- .. tracked in H -/
def On (qf : Addr → Option Obj) (H : Hp) : Prop := ∀ b o, qf b = some o → H b = some (CellO b o)
section
variable {P : Program} {w : World} {qf : Addr → Option Obj} {H H' : Hp} {h h' B : Heap} {fs : List Addr}
theorem Off.none (f : Off qf H) {b : Addr} {u : HO} (e : H b = some u) : qf b = none := by
  cases q : qf b with
  | none => rfl
  | some o => rw [f b o q] at e; cases e
theorem On.none (f : On qf H) {b : Addr} {u : HO} (e : H b = some u) (n : ∀ o, u ≠ CellO b o) : qf b = none := by
  cases q : qf b with
  | none => rfl
  | some o => rw [f b o q] at e; cases e; exact absurd rfl (n o)
theorem cellO_ok {b : Addr} {o : Obj} (e : h.get? b = some o) : ObjOk P w H h b (CellO b o) := ⟨e, ⟨o, e⟩, fun h1 h2 z st => st _ z⟩
theorem hok_trk (k : HOk P w H h) (r : Raw qf h) (f : Off qf H) : HOk P w (trk H qf) h := fun b u e => by
  cases q : qf b with
  | some o =>
    rw [trk_at q] at e
    cases e
    exact cellO_ok (r b o q)
  | none =>
    rw [trk_off q] at e
    exact (k b u e).stay (fun _ _ _ z => z) (fun d z => by rw [trk_off (f.none z)]; exact z) fun d xs z => by rw [trk_off (f.none z)]; exact z
theorem hok_untr (k : HOk P w H h) (f : On qf H) : HOk P w (untr H qf) h := fun b u e => by
  cases q : qf b with
  | some o => rw [untr_at q] at e; cases e
  | none =>
    rw [untr_off q] at e
    exact (k b u e).stay (fun _ _ _ z => z) (fun d z => by rw [untr_off (f.none z (fun o y => by cases y))]; exact z) fun d xs z => by rw [untr_off (f.none z (fun o y => by cases y))]; exact z
/-- behind a call that saw the cells tracked: untracked again -/
theorem un_untr (u : Un fs [] (trk H qf) H' h h') (k : HOk P w H' h') (r : Raw qf h) (f : Off qf H) (n : On qf H') (nf : ∀ b o, qf b = some o → b ∉ fs) : Un fs [] H (untr H' qf) h h' := by
  have ne : ∀ b u, H b = some u → qf b = none := fun b u e => f.none e
  refine ⟨fun b o e hn hb hx => ?_, fun b o e hn hb hx => ?_, fun b o e hn hx => ?_, fun b o e hx => u.there b o e hx, fun b xs e => ?_, fun b o x e => ?_, fun b ps e => ?_⟩
  · cases q : qf b with
    | some o' =>
      obtain ⟨z, _⟩ := k b _ (n b o' q)
      have z : h'.get? b = some o' := z
      have := r b o' q
      rw [e] at this
      cases this
      exact z
    | none => exact u.keep b o e (by rw [trk_off q]; exact hn) hb hx
  · cases q : qf b with
    | some o' => exact absurd hb (nf b o' q)
    | none => exact u.slot b o e (by rw [trk_off q]; exact hn) hb hx
  · cases q : qf b with
    | some o' => exact untr_at q
    | none => rw [untr_off q]; exact u.free b o e (by rw [trk_off q]; exact hn) hx
  · have q := ne _ _ e
    rw [untr_off q]
    exact u.tups b xs (by rw [trk_off q]; exact e)
  · have q := ne _ _ e
    rw [untr_off q]
    exact u.frzs b o x (by rw [trk_off q]; exact e)
  · have q := ne _ _ e
    rw [untr_off q]
    exact u.tbls b ps (by rw [trk_off q]; exact e)
/-- behind a body whose own cells they were: tracked again -/
theorem un_retrk (u : Un fs [] (untr H qf) H' h h') (r : Raw qf h) (n : On qf H) (nf : ∀ b o, qf b = some o → b ∉ fs) : Un fs [] H (trk H' qf) h h' ∧ Raw qf h' ∧ Off qf H' := by
  have ne : ∀ b u, H b = some u → (∀ o, u ≠ CellO b o) → qf b = none := fun b u e z => n.none e z
  have no : ∀ b, H b = none → qf b = none := fun b e => by
    cases q : qf b with
    | none => rfl
    | some o => rw [n b o q] at e; cases e
  refine ⟨⟨fun b o e hn hb hx => ?_, fun b o e hn hb hx => ?_, fun b o e hn hx => ?_, fun b o e hx => u.there b o e hx, fun b xs e => ?_, fun b o x e => ?_, fun b ps e => ?_⟩, fun b o q => ?_, fun b o q => ?_⟩
  · exact u.keep b o e (by rw [untr_off (no b hn)]; exact hn) hb hx
  · exact u.slot b o e (by rw [untr_off (no b hn)]; exact hn) hb hx
  · rw [trk_off (no b hn)]
    exact u.free b o e (by rw [untr_off (no b hn)]; exact hn) hx
  · have q := ne _ _ e (fun o y => by cases y)
    rw [trk_off q]
    exact u.tups b xs (by rw [untr_off q]; exact e)
  · have q := ne _ _ e (fun o y => by cases y)
    rw [trk_off q]
    exact u.frzs b o x (by rw [untr_off q]; exact e)
  · have q := ne _ _ e (fun o y => by cases y)
    rw [trk_off q]
    exact u.tbls b ps (by rw [untr_off q]; exact e)
  · exact u.keep b o (r b o q) (untr_at q) (nf b o q) (fun z => nomatch z)
  · exact u.free b o (r b o q) (untr_at q) (fun z => nomatch z)
theorem ub_untr (u : UB fs (trk H qf) H' h B h') (k : HOk P w H' B) (r : Raw qf h) (f : Off qf H) (n : On qf H') (nf : ∀ b o, qf b = some o → b ∉ fs) : UB fs H (untr H' qf) h B h' := by
  have ne : ∀ b u, H b = some u → qf b = none := fun b u e => f.none e
  refine ⟨fun b o e hn hb => ?_, u.slot, fun b o e hn => ?_, u.there, fun b xs e => ?_, fun b o x e => ?_, fun b ps e => ?_⟩
  · cases q : qf b with
    | some o' =>
      obtain ⟨z, _⟩ := k b _ (n b o' q)
      have z : B.get? b = some o' := z
      have := r b o' q
      rw [e] at this
      cases this
      exact z
    | none => exact u.keep b o e (by rw [trk_off q]; exact hn) hb
  · cases q : qf b with
    | some o' => exact untr_at q
    | none => rw [untr_off q]; exact u.free b o e (by rw [trk_off q]; exact hn)
  · have q := ne _ _ e
    rw [untr_off q]
    exact u.tups b xs (by rw [trk_off q]; exact e)
  · have q := ne _ _ e
    rw [untr_off q]
    exact u.frzs b o x (by rw [trk_off q]; exact e)
  · have q := ne _ _ e
    rw [untr_off q]
    exact u.tbls b ps (by rw [trk_off q]; exact e)
theorem ub_retrk (u : UB fs (untr H qf) H' h B h') (r : Raw qf h) (n : On qf H) (nf : ∀ b o, qf b = some o → b ∉ fs) : UB fs H (trk H' qf) h B h' ∧ Raw qf B ∧ Off qf H' := by
  have ne : ∀ b u, H b = some u → (∀ o, u ≠ CellO b o) → qf b = none := fun b u e z => n.none e z
  have no : ∀ b, H b = none → qf b = none := fun b e => by
    cases q : qf b with
    | none => rfl
    | some o => rw [n b o q] at e; cases e
  refine ⟨⟨fun b o e hn hb => ?_, u.slot, fun b o e hn => ?_, u.there, fun b xs e => ?_, fun b o x e => ?_, fun b ps e => ?_⟩, fun b o q => ?_, fun b o q => ?_⟩
  · exact u.keep b o e (by rw [untr_off (no b hn)]; exact hn) hb
  · rw [trk_off (no b hn)]
    exact u.free b o e (by rw [untr_off (no b hn)]; exact hn)
  · have q := ne _ _ e (fun o y => by cases y)
    rw [trk_off q]
    exact u.tups b xs (by rw [untr_off q]; exact e)
  · have q := ne _ _ e (fun o y => by cases y)
    rw [trk_off q]
    exact u.frzs b o x (by rw [untr_off q]; exact e)
  · have q := ne _ _ e (fun o y => by cases y)
    rw [trk_off q]
    exact u.tbls b ps (by rw [untr_off q]; exact e)
  · exact u.keep b o (r b o q) (untr_at q) (nf b o q)
  · exact u.free b o (r b o q) (untr_at q)
end
/-! ### calls -/
section
variable {P : Program} {w : World} {K : PySem.W.Frag} {mg : Str → Option Value} {base : Heap} {A' : Around} {outer : List Env} {s s' : Shared} {H : Hp} {qf : Addr → Option Obj} {Q Q' : VK} {E E' : XK} {r : Result}
theorem env0_trk (e0 : Env0 P w K mg base A' outer s H) (rw_ : Raw qf s.heap) (f : Off qf H) (nf : ∀ b o, qf b = some o → b ∉ frs outer) (nb : ∀ b o, qf b = some o → base.get? b = none) : Env0 P w K mg base A' outer s (trk H qf) :=
  ⟨e0.frames, e0.mod, fun b o e => ⟨(e0.bs b o e).1, by
    cases q : qf b with
    | some o' => rw [nb b o' q] at e; cases e
    | none => rw [trk_off q]; exact (e0.bs b o e).2⟩, e0.bsz, e0.funs, fun b hb => by
    cases q : qf b with
    | some o' => exact absurd hb (nf b o' q)
    | none => rw [trk_off q]; exact e0.frf b hb, hok_trk e0.hok rw_ f, e0.bare⟩
theorem env0_untr (e0 : Env0 P w K mg base A' outer s H) (n : On qf H) : Env0 P w K mg base A' outer s (untr H qf) :=
  ⟨e0.frames, e0.mod, fun b o e => ⟨(e0.bs b o e).1, by
    cases q : qf b with
    | some o' => exact untr_at q
    | none => rw [untr_off q]; exact (e0.bs b o e).2⟩, e0.bsz, e0.funs, fun b hb => by
    cases q : qf b with
    | some o' => exact untr_at q
    | none => rw [untr_off q]; exact e0.frf b hb, hok_untr e0.hok n, e0.bare⟩
/-- a call that sees the cells tracked, seen from the frame whose own they are -/
theorem cr_untr (rw_ : Raw qf s.heap) (f : Off qf H) (nf : ∀ b o, qf b = some o → b ∉ frs outer) (hQ : ∀ v H', Q v H' → On qf H' ∧ Q' v (untr H' qf)) (hE : ∀ c d H', E c d H' → On qf H' ∧ E' c d (untr H' qf)) (h : CR (L2.CX P w) outer P w (trk H qf) s Q E r s') : CR (L2.CX P w) outer P w H s Q' E' r s' := by
  cases r with
  | error e =>
    obtain ⟨a, B, H', cls, d, e1, fl, hok, ub, na, os, bare, he⟩ := h
    obtain ⟨n, he'⟩ := hE cls d H' he
    refine ⟨a, B, untr H' qf, cls, d, e1, fl, hok_untr hok n, ub_untr ub hok rw_ f n nf, ?_, os, bare, he'⟩
    cases q : qf a with
    | some o => exact untr_at q
    | none => rw [untr_off q]; exact na
  | ok fl =>
    cases fl with
    | ret u =>
      obtain ⟨v, H', os, bare, un, hok, rv, q⟩ := h
      obtain ⟨n, q'⟩ := hQ v H' q
      exact ⟨v, untr H' qf, os, bare, un_untr un hok rw_ f n nf, hok_untr hok n, rv, q'⟩
    | next => exact h
    | brk => exact h
    | cont => exact h
/-- a body whose own cells they are, seen from outside -/
theorem cr_retrk (rw_ : Raw qf s.heap) (n : On qf H) (nf : ∀ b o, qf b = some o → b ∉ frs outer) (hQ : ∀ v H', Off qf H' → Q v H' → Q' v (trk H' qf)) (hE : ∀ c d H', Off qf H' → E c d H' → E' c d (trk H' qf)) (h : CR (L2.CX P w) outer P w (untr H qf) s Q E r s') : CR (L2.CX P w) outer P w H s Q' E' r s' := by
  cases r with
  | error e =>
    obtain ⟨a, B, H', cls, d, e1, fl, hok, ub, na, os, bare, he⟩ := h
    obtain ⟨ub', rb, f⟩ := ub_retrk ub rw_ n nf
    refine ⟨a, B, trk H' qf, cls, d, e1, fl, hok_trk hok rb f, ub', ?_, os, bare, hE cls d H' f he⟩
    have hn : qf a = none := by
      cases q : qf a with
      | none => rfl
      | some o =>
        have := rb a o q
        rw [fl.2.1] at this
        cases this
    rw [trk_off hn]
    exact na
  | ok fl =>
    cases fl with
    | ret u =>
      obtain ⟨v, H', os, bare, un, hok, rv, q⟩ := h
      obtain ⟨un', rb, f⟩ := un_retrk un rw_ n nf
      exact ⟨v, trk H' qf, os, bare, un', hok_trk hok rb f, rv, hQ v H' f q⟩
    | next => exact h
    | brk => exact h
    | cont => exact h
end
end FL

/-! ## A21: a lambda's group suspended while its body runs -/
namespace FL
open PySem PySem.Spec PyProof.Rows L2
variable [LT]
def susO (g : Nat) : Ob → Ob
  | .fn i g' c => if g' = g then .sfn i g' c else .fn i g' c
  | o => o
def susp (g : Nat) (S : Sto) : Sto := S.map (susO g)
def resO (g : Nat) (o0 : Option Ob) (o : Ob) : Ob := match o0 with
  | some (.fn i g' c) => if g' = g then .fn i g' c else o
  | _ => o
def resm (g : Nat) (S S' : Sto) : Sto := S'.mapIdx fun k o => resO g S[k]? o
theorem susO_live (g : Nat) (o : Ob) : (susO g o).live = o.live := by
  cases o with
  | fn i g' c =>
    show (if g' = g then Ob.sfn i g' c else Ob.fn i g' c).live = true
    split <;> rfl
  | _ => rfl
def Wd.sus (w : Wd) (g : Nat) (qf : Addr → Option Obj) : Wd := ⟨w.ι, susp g w.S, untr w.H qf, ⟨w.x.sc, fun g' => if g' = g then none else w.x.gs g'⟩⟩
def Wd.res (w' w : Wd) (g : Nat) (qf : Addr → Option Obj) : Wd := ⟨w'.ι, resm g w.S w'.S, trk w'.H qf, ⟨w'.x.sc, w.x.gs⟩⟩
/-- qf: the group's cells -/
structure QF (w : Wd) (ps : List Addr) (qf : Addr → Option Obj) : Prop where
  on : ∀ b o, qf b = some o → b ∈ ps ∧ w.H b = some (CellO b o)
  all : ∀ b ∈ ps, ∃ o, qf b = some o
section
variable {Γ : Cfg} {w : Wd} {g : Nat} {ps : List Addr} {qf : Addr → Option Obj}
open Classical in
theorem qf_of (r : Rel Γ w) (hg : w.x.gs g = some ps) : ∃ qf, QF w ps qf := by
  refine ⟨fun b => if h : b ∈ ps then some ((r.g.gr g ps hg b h).2.choose) else none, fun b o e => ?_, fun b hb => ⟨_, dif_pos hb⟩⟩
  by_cases h : b ∈ ps
  · rw [dif_pos h] at e
    cases e
    exact ⟨h, (r.g.gr g ps hg b h).2.choose_spec.1⟩
  · rw [dif_neg h] at e; cases e
theorem QF.off (q : QF w ps qf) {b : Addr} (h : b ∉ ps) : qf b = none := by
  cases e : qf b with
  | none => rfl
  | some o => exact absurd (q.on b o e).1 h
theorem QF.tx (q : QF w ps qf) {b : Addr} {u : HO} (h : w.H b = some u) (t : isTx u = false) : qf b = none := by
  cases e : qf b with
  | none => rfl
  | some o => rw [(q.on b o e).2] at h; cases h; cases t
theorem QF.lv (q : QF w ps qf) (r : Rel Γ w) (hg : w.x.gs g = some ps) {b : Addr} (h : w.Lv b) : qf b = none := by
  cases e : qf b with
  | none => rfl
  | some o => exact absurd h (r.g.gr g ps hg b (q.on b o e).1).1
theorem QF.code (q : QF w ps qf) (r : Rel Γ w) (hg : w.x.gs g = some ps) {b : Addr} {x : Str} (h : w.H b = some (LamX.CodeO b x)) : qf b = none := by
  cases e : qf b with
  | none => rfl
  | some o =>
    obtain ⟨_, o', e1, e2⟩ := r.g.gr g ps hg b (q.on b o e).1
    rw [h] at e1
    exact absurd (Option.some.inj e1).symm (e2.1 x)
theorem sus_lv {b : Addr} : (w.sus g qf).Lv b ↔ w.Lv b := by
  constructor
  · rintro (⟨k, o, h1, h2, h3⟩ | h)
    · have h2 : (susp g w.S)[k]? = some o := h2
      unfold susp at h2
      rw [List.getElem?_map] at h2
      obtain ⟨o', e1, e2⟩ := Option.map_eq_some_iff.mp h2
      rw [← e2, susO_live] at h3
      exact .inl ⟨k, o', h1, e1, h3⟩
    · exact .inr h
  · rintro (⟨k, o, h1, h2, h3⟩ | h)
    · refine .inl ⟨k, susO g o, h1, ?_, by rw [susO_live]; exact h3⟩
      show (susp g w.S)[k]? = _
      unfold susp
      rw [List.getElem?_map, h2] <;> rfl
    · exact .inr h
theorem CelR.sus : ∀ {cl : List (Str × Addr)} {vs : List V}, CelR w cl vs → (∀ z ∈ cl, qf z.2 = none) → CelR (w.sus g qf) cl vs
  | _, _, .nil, _ => .nil
  | _, _, .cons hd tl, off => by
    obtain ⟨n, o, u, e, z⟩ := hd
    exact .cons ⟨fun y => n (sus_lv.mp y), o, u, by
      show untr w.H qf _ = _
      rw [untr_off (off _ List.mem_cons_self)]; exact e, z⟩ (CelR.sus tl fun z hz => off z (List.mem_cons_of_mem _ hz))
theorem sus_kv (q : QF w ps qf) : Kv w (w.sus g qf) := fun a o n h t => ⟨.inl (by show untr w.H qf a = some o; rw [untr_off (q.tx h t)]; exact h), fun z => n (sus_lv.mp z)⟩
theorem sus_rel (r : Rel Γ w) (hg : w.x.gs g = some ps) (q : QF w ps qf) : Rel Γ (w.sus g qf) := by
  have kv : Kv w (w.sus g qf) := sus_kv q
  have ix : ∀ (j : Nat) (a : Addr), w.ι[j]? = some a → (w.sus g qf).ι[j]? = some a := fun _ _ h => h
  have hH : ∀ {a : Addr} {u : HO}, w.H a = some u → qf a = none → (w.sus g qf).H a = some u := fun {a u} h n => by
    show untr w.H qf a = some u
    rw [untr_off n]; exact h
  refine ⟨⟨fun g' ps' h p hp => ?_, fun g1 g2 p1 p2 p h1 h2 => ?_, fun t ht => ?_⟩, fun a ha => ⟨?_, (r.sc a ha).2⟩, ?_, r.inj, fun k a o e1 e2 => ?_⟩
  · have h : (if g' = g then none else w.x.gs g') = some ps' := h
    split at h
    · cases h
    · rename_i hne
      obtain ⟨n, o, e, hq⟩ := r.g.gr g' ps' h p hp
      exact ⟨fun z => n (sus_lv.mp z), o, hH e (q.off fun z => hne (r.g.gd g' g ps' ps p h hg hp z)), hq⟩
  · have h1 : (if g1 = g then none else w.x.gs g1) = some p1 := h1
    have h2 : (if g2 = g then none else w.x.gs g2) = some p2 := h2
    split at h1
    · cases h1
    · split at h2
      · cases h2
      · exact r.g.gd g1 g2 p1 p2 p h1 h2
  · obtain ⟨tp, h1, h2, h3⟩ := r.g.tb t ht
    have n1 : qf t.1 = none := by
      cases e : qf t.1 with
      | none => rfl
      | some o => rw [(q.on _ o e).2] at h1; cases h1
    refine ⟨tp, hH h1 n1, h2, fun pos cv hc => ?_⟩
    obtain ⟨c, e1, e2⟩ := h3 pos cv hc
    exact ⟨c, e1, hH e2 (q.code r hg e2)⟩
  · obtain ⟨⟨o, e, z⟩, _⟩ := r.sc a ha
    exact ⟨o, hH e (q.lv r hg (.inr ha)), z⟩
  · show w.ι.length = (susp g w.S).length
    unfold susp
    rw [List.length_map]
    exact r.len
  · have e2 : (susp g w.S)[k]? = some o := e2
    unfold susp at e2
    rw [List.getElem?_map] at e2
    obtain ⟨ob, e3, rfl⟩ := Option.map_eq_some_iff.mp e2
    have h := r.at_ k a ob e1 e3
    have nl : ob.live = true → qf a = none := fun l => q.lv r hg (.inl ⟨k, ob, e1, e3, l⟩)
    have fnr : ∀ {i : Nat} {cl : List (Str × Addr)}, ob.live = true → FnR w a i cl → FnR (w.sus g qf) a i cl := fun {i cl} l f => by
      obtain ⟨L, c, h1, h2, h3, h4, h5⟩ := f.ex
      exact ⟨L, c, h1, hH h2 (nl l), fun z => h3 (sus_lv.mp z), hH h4 (q.code r hg h4), h5⟩
    cases ob with
    | lst xs => obtain ⟨vs, e, rv⟩ := h; exact ⟨vs, hH e (nl rfl), rv.mono kv ix⟩
    | llst xs => obtain ⟨vs, e, rv⟩ := h; exact ⟨vs, hH e (nl rfl), rv.mono kv ix⟩
    | dic kvs =>
      rcases h with ⟨kv', e, rv⟩ | ⟨kv', e, rv⟩
      · exact .inl ⟨kv', hH e (nl rfl), rv.mono kv ix⟩
      · exact .inr ⟨kv', hH e (nl rfl), rv.mono kv ix⟩
    | ldic kvs =>
      rcases h with ⟨o, kv', e, rv⟩ | ⟨o, kv', e, rv⟩
      · exact .inl ⟨o, kv', hH e (nl rfl), rv.mono kv ix⟩
      · exact .inr ⟨o, kv', hH e (nl rfl), rv.mono kv ix⟩
    | ins C fs => obtain ⟨dx, fv, e, rv⟩ := h; exact ⟨dx, fv, hH e (nl rfl), rv.mono kv ix⟩
    | dead => obtain ⟨o, e, t⟩ := h; exact ⟨o, hH e (q.tx e t), t⟩
    | sfn i g' caps => obtain ⟨cl, vs, f, rv⟩ := h; exact ⟨cl, vs, fnr rfl f, rv.mono kv ix⟩
    | sin C fs => obtain ⟨dx, fv, e, n, e', rv⟩ := h; exact ⟨dx, fv, hH e (nl rfl), fun z => n (sus_lv.mp z), hH e' (q.tx e' rfl), rv.mono kv ix⟩
    | fn i g' caps =>
      obtain ⟨cl, vs, ps', f, ce, hg', hs, rv⟩ := h
      by_cases hgg : g' = g
      · subst hgg
        show ObR Γ (w.sus g' qf) a (if g' = g' then .sfn i g' caps else .fn i g' caps)
        rw [if_pos rfl]
        exact ⟨cl, vs, fnr rfl f, rv.mono kv ix⟩
      · show ObR Γ (w.sus g qf) a (if g' = g then .sfn i g' caps else .fn i g' caps)
        rw [if_neg hgg]
        refine ⟨cl, vs, ps', fnr rfl f, ?_, ?_, hs, rv.mono kv ix⟩
        · have off : ∀ z ∈ cl, qf z.2 = none := fun z hz => q.off fun y => hgg (r.g.gd g' g ps' ps z.2 hg' hg (hs z hz) y)
          exact ce.sus off
        · show (if g' = g then none else w.x.gs g') = some ps'
          rw [if_neg hgg]; exact hg'
end
end FL

/-! ## A22: .. and taken up again behind it -/
namespace FL
open PySem PySem.Spec PyProof.Rows L2
variable [LT]
section
variable {Γ : Cfg} {w w' : Wd} {g : Nat} {ps : List Addr} {qf : Addr → Option Obj}
theorem off_of {H : Hp} (f : Off qf H) {b : Addr} {u : HO} (e : H b = Option.some u) : qf b = Option.none := Off.none f e
theorem sus_at (k : Nat) (o : Ob) (h : w.S[k]? = some o) : (w.sus g qf).S[k]? = some (susO g o) := by
  show (susp g w.S)[k]? = _
  unfold susp
  rw [List.getElem?_map, h] <;> rfl
theorem res_at {k : Nat} {o : Ob} (h : w'.S[k]? = some o) : (w'.res w g qf).S[k]? = some (resO g w.S[k]? o) := by
  show (resm g w.S w'.S)[k]? = _
  unfold resm
  rw [List.getElem?_mapIdx, h] <;> rfl
theorem res_of {k : Nat} {o : Ob} (h : (w'.res w g qf).S[k]? = some o) : ∃ o', w'.S[k]? = some o' ∧ o = resO g w.S[k]? o' := by
  have h : (resm g w.S w'.S)[k]? = some o := h
  unfold resm at h
  rw [List.getElem?_mapIdx] at h
  obtain ⟨o', e1, e2⟩ := Option.map_eq_some_iff.mp h
  exact ⟨o', e1, e2.symm⟩
/-- what is put back was suspended -/
theorem res_cases (e : Ex (w.sus g qf) w') {k : Nat} {o' : Ob} (h : w'.S[k]? = some o') : (resO g w.S[k]? o' = o') ∨ ∃ i c, w.S[k]? = some (.fn i g c) ∧ o' = .sfn i g c ∧ resO g w.S[k]? o' = .fn i g c := by
  cases hs : w.S[k]? with
  | none => exact .inl rfl
  | some o =>
    cases o with
    | fn i g' c =>
      by_cases hg : g' = g
      · subst hg
        have z := e.lk k (.sfn i g' c) (by rw [sus_at k _ hs]; show some (if g' = g' then Ob.sfn i g' c else Ob.fn i g' c) = _; rw [if_pos rfl]) rfl
        rw [h] at z
        refine .inr ⟨i, c, rfl, Option.some.inj z, ?_⟩
        show (if g' = g' then Ob.fn i g' c else o') = _
        rw [if_pos rfl]
      · refine .inl ?_
        show (if g' = g then Ob.fn i g' c else o') = _
        rw [if_neg hg]
    | _ => exact .inl rfl
theorem res_lv (e : Ex (w.sus g qf) w') {b : Addr} : (w'.res w g qf).Lv b ↔ w'.Lv b := by
  constructor
  · rintro (⟨k, o, h1, h2, h3⟩ | h)
    · obtain ⟨o', e1, rfl⟩ := res_of h2
      rcases res_cases e e1 with z | ⟨i, c, _, rfl, z⟩
      · rw [z] at h3; exact .inl ⟨k, o', h1, e1, h3⟩
      · exact .inl ⟨k, _, h1, e1, rfl⟩
    · exact .inr h
  · rintro (⟨k, o, h1, h2, h3⟩ | h)
    · refine .inl ⟨k, _, h1, res_at h2, ?_⟩
      rcases res_cases e h2 with z | ⟨i, c, _, rfl, z⟩
      · rw [z]; exact h3
      · rw [z]; rfl
    · exact .inr h
theorem res_kv (e : Ex (w.sus g qf) w') (f : Off qf w'.H) : Kv w' (w'.res w g qf) := fun a o n h t => ⟨.inl (by show trk w'.H qf a = some o; rw [trk_off (off_of f h)]; exact h), fun z => n ((res_lv e).mp z)⟩
theorem res_ex (r : Rel Γ w) (hg : w.x.gs g = some ps) (q : QF w ps qf) (e : Ex (w.sus g qf) w') (r' : Rel Γ w') (f : Off qf w'.H) : Ex w (w'.res w g qf) := by
  refine ⟨rfl, fun a ha => ?_, e.ix, fun a o n h t => ?_, fun k o h l => ?_, fun k o a h l e1 => ?_⟩
  · obtain ⟨h1, h2⟩ := e.sx a ha
    have n := q.lv r hg (.inr ha)
    refine ⟨h1, ?_⟩
    show trk w'.H qf a = w.H a
    rw [trk_off n, h2]
    exact untr_off n
  · cases hq : qf a with
    | some o' =>
      have z := (q.on a o' hq).2
      rw [h] at z
      cases z
      exact ⟨.inl (trk_at hq), fun y => r'.fresh (f a o' hq) ((res_lv e).mp y)⟩
    | none =>
      obtain ⟨h1, h2⟩ := e.kp a o (fun z => n (sus_lv.mp z)) (by show untr w.H qf a = some o; rw [untr_off hq]; exact h) t
      refine ⟨?_, fun y => h2 ((res_lv e).mp y)⟩
      show (trk w'.H qf a = some o ∨ _)
      rw [trk_off hq]
      exact h1.imp id fun ⟨ob, d, z⟩ => ⟨ob, d, by show trk w'.H qf a = _; rw [trk_off hq]; exact z⟩
  · have hs := sus_at (g := g) (qf := qf) k o h
    have hl : (susO g o).lk = true := by
      cases o with
      | fn i g' c =>
        show (if g' = g then Ob.sfn i g' c else Ob.fn i g' c).lk = true
        split <;> rfl
      | _ => exact l
    have z := e.lk k _ hs hl
    rw [res_at z, h]
    cases o with
    | fn i g' c =>
      show some (if g' = g then Ob.fn i g' c else (if g' = g then Ob.sfn i g' c else Ob.fn i g' c)) = _
      split <;> rfl
    | _ => rfl
  · have n := q.lv r hg (.inl ⟨k, o, e1, h, fk_live l⟩)
    have hl : (susO g o).fk = true := by
      cases o with
      | fn i g' c =>
        show (if g' = g then Ob.sfn i g' c else Ob.fn i g' c).fk = true
        split <;> rfl
      | _ => exact l
    have z := e.fx k _ a (sus_at (g := g) (qf := qf) k o h) hl e1
    show trk w'.H qf a = w.H a
    rw [trk_off n, z]
    exact untr_off n
theorem CelR.res (e : Ex (w.sus g qf) w') (f : Off qf w'.H) : ∀ {cl : List (Str × Addr)} {vs : List V}, CelR w' cl vs → CelR (w'.res w g qf) cl vs
  | _, _, .nil => .nil
  | _, _, .cons hd tl => by
    obtain ⟨n, o, u, h, z⟩ := hd
    exact .cons ⟨fun y => n ((res_lv e).mp y), o, u, by
      show trk w'.H qf _ = _
      rw [trk_off (off_of f h)]; exact h, z⟩ (CelR.res e f tl)
theorem res_rel (r : Rel Γ w) (hg : w.x.gs g = some ps) (q : QF w ps qf) (e : Ex (w.sus g qf) w') (r' : Rel Γ w') (f : Off qf w'.H) : Rel Γ (w'.res w g qf) := by
  have ex := res_ex r hg q e r' f
  have kv := res_kv (w := w) (g := g) e f
  have ix : ∀ (j : Nat) (a : Addr), w'.ι[j]? = some a → (w'.res w g qf).ι[j]? = some a := fun _ _ h => h
  have hH : ∀ {a : Addr} {u : HO}, w'.H a = some u → (w'.res w g qf).H a = some u := fun {a u} h => by
    show trk w'.H qf a = some u
    rw [trk_off (off_of f h)]; exact h
  have gs : ∀ {g' : Nat} {ps' : List Addr}, w'.x.gs g' = some ps' → w.x.gs g' = some ps' := fun {g' ps'} h => by
    rw [e.gx] at h
    have h : (if g' = g then none else w.x.gs g') = some ps' := h
    split at h
    · cases h
    · exact h
  have fnr : ∀ {a : Addr} {i : Nat} {cl : List (Str × Addr)}, FnR w' a i cl → FnR (w'.res w g qf) a i cl := fun {a i cl} z => by
    obtain ⟨L, c, h1, h2, h3, h4, h5⟩ := z.ex
    exact ⟨L, c, h1, hH h2, fun y => h3 ((res_lv e).mp y), hH h4, h5⟩
  refine ⟨r.g.ex ex fun t ht => ?_, fun a ha => ⟨?_, (r'.sc a ha).2⟩, ?_, r'.inj, fun k a o e1 e2 => ?_⟩
  · obtain ⟨tp, h1, h2, h3⟩ := r'.g.tb t ht
    refine ⟨tp, hH h1, h2, fun pos cv hc => ?_⟩
    obtain ⟨c, z1, z2⟩ := h3 pos cv hc
    exact ⟨c, z1, hH z2⟩
  · obtain ⟨⟨o, z, y⟩, _⟩ := r'.sc a ha
    exact ⟨o, hH z, y⟩
  · show w'.ι.length = (resm g w.S w'.S).length
    unfold resm
    rw [List.length_mapIdx]
    exact r'.len
  · obtain ⟨o', e3, rfl⟩ := res_of e2
    have h := r'.at_ k a o' e1 e3
    rcases res_cases e e3 with z | ⟨i, c, hs, rfl, z⟩
    · rw [z]
      cases o' with
      | lst xs => obtain ⟨vs, y, rv⟩ := h; exact ⟨vs, hH y, rv.mono kv ix⟩
      | llst xs => obtain ⟨vs, y, rv⟩ := h; exact ⟨vs, hH y, rv.mono kv ix⟩
      | dic kvs =>
        rcases h with ⟨kv', y, rv⟩ | ⟨kv', y, rv⟩
        · exact .inl ⟨kv', hH y, rv.mono kv ix⟩
        · exact .inr ⟨kv', hH y, rv.mono kv ix⟩
      | ldic kvs =>
        rcases h with ⟨o, kv', y, rv⟩ | ⟨o, kv', y, rv⟩
        · exact .inl ⟨o, kv', hH y, rv.mono kv ix⟩
        · exact .inr ⟨o, kv', hH y, rv.mono kv ix⟩
      | ins C fs => obtain ⟨dx, fv, y, rv⟩ := h; exact ⟨dx, fv, hH y, rv.mono kv ix⟩
      | dead => obtain ⟨o, y, t⟩ := h; exact ⟨o, hH y, t⟩
      | sfn i g' caps => obtain ⟨cl, vs, fr, rv⟩ := h; exact ⟨cl, vs, fnr fr, rv.mono kv ix⟩
      | sin C fs => obtain ⟨dx, fv, y, n, y', rv⟩ := h; exact ⟨dx, fv, hH y, fun z => n ((res_lv e).mp z), hH y', rv.mono kv ix⟩
      | fn i g' caps =>
        obtain ⟨cl, vs, ps', fr, ce, hg', hs, rv⟩ := h
        exact ⟨cl, vs, ps', fnr fr, ce.res e f, gs hg', hs, rv.mono kv ix⟩
    · rw [z]
      obtain ⟨a0, i0, h0⟩ := r.num hs
      have ea := e.ix k a0 i0
      have e1' : w'.ι[k]? = some a := e1
      rw [e1'] at ea
      cases ea
      exact h0.ex ex (ex.fx k _ a hs rfl i0)
end
end FL

/-! ## A23: lambdas called -/
namespace FL
open PySem PySem.Spec PyProof.Rows L2
variable [LT]
/-- a lambda of np parameters and captured names, nl names -/
def lamF (np nl : Nat) (me : Lo → M A) (as : List A) : M A := fun S => if as.length = np then me (as.map some ++ List.replicate (nl - np) none) S else .no
/-- the lambda of number k is called -/
def lamM (F : List A → M A) (k : Nat) (as : List A) : M A := fun S => match S[k]? with
  | some (.fn _ g caps) => match F (as ++ caps) (susp g S) with
    | .ok a S' => .ok a (resm g S S')
    | .ex D fs S' => .ex D fs (resm g S S')
    | .no => .no
  | _ => .no
structure LmA (P : Program) (w : World) (K : PySem.W.Frag) (mg : Str → Option Value) (base : Heap) (n i : Nat) (F : List A → M A) : Prop where
  run : ∀ (A' : Around) (outer : List Env) (s : Shared) (wd : Wd) (k g : Nat) (caps as : List A) (f : Addr) (vs : List V) (us : List Value) (Q : VK) (E : XK), Room n A' → Env0 P w K mg base A' outer s wd.H → Rel ⟨K, mg⟩ wd → wd.ι[k]? = some f → wd.S[k]? = some (.fn i g caps) → Rvs ⟨K, mg⟩ wd as vs → Vals vs us →
    outF ⟨K, mg⟩ wd Q E (lamM F k as wd.S) → codeAny (model P w) A' (.call (.ref f) ⟨us, []⟩) (CR (L2.CX P w) outer P w wd.H s Q E) s
abbrev nfL (L : Lm) (cl : List (Str × Addr)) (c : Addr) : NdefX.NF := ⟨"<lambda>", L.qual, L.params, [], L.scope, cl, c⟩
abbrev cxL (P : Program) (w : World) (K : PySem.W.Frag) (mg : Str → Option Value) (base : Heap) (N : List Str) (L : Lm) (cl : List (Str × Addr)) (c f : Addr) (A' : Around) (outer : List Env) (s : Shared) (H : Hp) (E : XK) : Cx := NdefX.ncx (L2.CX P w) P w K mg base N (nfL L cl c) f A' outer s H E
section
variable {Γ : Cfg} {wd : Wd} {g k : Nat} {ps : List Addr} {qf : Addr → Option Obj} {F : List A → M A} {Q : VK} {E : XK}
theorem lam_out {i : Nat} {caps as : List A} (rl : Rel Γ wd) (hg : wd.x.gs g = some ps) (q : QF wd ps qf) (hs : wd.S[k]? = some (.fn i g caps)) (o : outF Γ wd Q E (lamM F k as wd.S)) :
    outF Γ (wd.sus g qf) (fun v H' => Off qf H' → Q v (trk H' qf)) (fun c d H' => Off qf H' → E c d (trk H' qf)) (F (as ++ caps) (wd.sus g qf).S) := by
  unfold lamM at o
  simp only [hs] at o
  show outF Γ (wd.sus g qf) _ _ (F (as ++ caps) (susp g wd.S))
  cases e : F (as ++ caps) (susp g wd.S) with
  | ok a S' =>
    rw [e] at o
    intro w' b h1 ex r' rv f
    exact o (w'.res wd g qf) b (by rw [← h1]; rfl) (res_ex rl hg q ex r' f) (res_rel rl hg q ex r' f) (rv.mono (res_kv ex f) fun _ _ z => z)
  | ex C fs S' =>
    rw [e] at o
    intro w' d h1 ex r' rv f
    exact o (w'.res wd g qf) d (by rw [← h1]; rfl) (res_ex rl hg q ex r' f) (res_rel rl hg q ex r' f) (rv.mono (res_kv ex f) fun _ _ z => z)
  | no => rw [e] at o; exact o.elim
theorem CelR.cells (r : Rel Γ wd) (hg : wd.x.gs g = some ps) (q : QF wd ps qf) {P : Program} {w : World} {h : Heap} (hok : HOk P w wd.H h) : ∀ {cl : List (Str × Addr)} {vs : List V}, CelR wd cl vs → (∀ z ∈ cl, z.2 ∈ ps) → Paired (fun z v => untr wd.H qf z.2 = none ∧ ∃ u, RelV v u ∧ h.IsCell z.2 (some u)) cl vs
  | _, _, .nil, _ => .nil
  | _, _, .cons hd tl, hs => by
    obtain ⟨_, o, u, e, hc, rv⟩ := hd
    obtain ⟨o', eq⟩ := q.all _ (hs _ List.mem_cons_self)
    obtain ⟨z, _⟩ := hok _ _ e
    exact .cons ⟨untr_at eq, u, rv, o, z, hc⟩ (CelR.cells r hg q hok tl fun z hz => hs z (List.mem_cons_of_mem _ hz))
theorem lookup_at : ∀ {cl : List (Str × Addr)} {j : Nat} {y : Str} {p : Addr}, (cl.map Prod.fst).Nodup → cl[j]? = some (y, p) → cl.lookup y = some p
  | [], _, _, _, _, h => by simp at h
  | (x, a) :: r, 0, y, p, _, h => by
    simp at h
    obtain ⟨rfl, rfl⟩ := h
    simp [List.lookup]
  | (x, a) :: r, j + 1, y, p, nd, h => by
    have nd : (x :: r.map Prod.fst).Nodup := nd
    obtain ⟨n1, n2⟩ := List.nodup_cons.mp nd
    have h : r[j]? = some (y, p) := by simpa using h
    have hne : (y == x) = false := by
      rw [beq_eq_false_iff_ne]
      exact fun z => n1 (by rw [← z]; exact List.mem_map.mpr ⟨_, List.mem_of_getElem? h, rfl⟩)
    rw [List.lookup_cons, hne]
    exact lookup_at n2 h
end
theorem nodup_ix {α : Type} : ∀ {l : List α} {i j : Nat} {a : α}, l.Nodup → l[i]? = some a → l[j]? = some a → i = j
  | [], _, _, _, _, h, _ => by simp at h
  | x :: r, 0, 0, a, _, _, _ => rfl
  | x :: r, 0, j + 1, a, nd, h1, h2 => by
    simp at h1
    subst h1
    exact absurd (List.mem_of_getElem? (show r[j]? = some x by simpa using h2)) (List.nodup_cons.mp nd).1
  | x :: r, i + 1, 0, a, nd, h1, h2 => by
    simp at h2
    subst h2
    exact absurd (List.mem_of_getElem? (show r[i]? = some x by simpa using h1)) (List.nodup_cons.mp nd).1
  | x :: r, i + 1, j + 1, a, nd, h1, h2 => by rw [nodup_ix (List.nodup_cons.mp nd).2 (show r[i]? = some a by simpa using h1) (show r[j]? = some a by simpa using h2)]
theorem cells_ok {cl : List (Str × Addr)} {vs : List V} {h : Heap} {H : Hp} (p : Paired (fun z v => H z.2 = none ∧ ∃ u, RelV v u ∧ h.IsCell z.2 (some u)) cl vs) (n1 : (cl.map Prod.fst).Nodup) (n2 : (cl.map Prod.snd).Nodup) : NdefX.CellsAt cl (cl.map Prod.fst) (vs.map some) h H := by
  have hl : cl.length = vs.length := Paired.length p
  refine ⟨by simp [hl], fun y c e => ?_, fun x y c e1 e2 => ?_, fun i y e => ?_⟩
  · obtain ⟨j, v, _, _, h1, u, _, h2⟩ := LiI.paired_ix p (lookup_mem e)
    exact ⟨h1, _, h2⟩
  · obtain ⟨j1, h1⟩ := List.getElem?_of_mem (lookup_mem e1)
    obtain ⟨j2, h2⟩ := List.getElem?_of_mem (lookup_mem e2)
    have k1 : (cl.map Prod.snd)[j1]? = some c := by rw [List.getElem?_map, h1] <;> rfl
    have k2 : (cl.map Prod.snd)[j2]? = some c := by rw [List.getElem?_map, h2] <;> rfl
    have : j1 = j2 := nodup_ix n2 k1 k2
    subst this
    rw [h1] at h2
    cases h2
    rfl
  · rw [List.getElem?_map] at e
    obtain ⟨⟨y', p'⟩, e1, rfl⟩ := Option.map_eq_some_iff.mp e
    obtain ⟨v, g1, h1, u, h2, h3⟩ := LiI.paired_get p e1
    refine ⟨p', lookup_at n1 e1, fun v' ev => ?_⟩
    rw [List.getElem?_map, g1] at ev
    cases ev
    exact ⟨u, h2, h3⟩
theorem out_sig {Γ : Cfg} {E : XK} {σ σ' : L2.St} {wd : Wd} {Q : VK} {r : Rs A} (o : Out Γ (fun c d _ H => E c d H) σ (Rv Γ) wd Q r) : Out Γ (fun c d _ H => E c d H) σ' (Rv Γ) wd Q r := by
  cases r with
  | ok a S' => exact o
  | ex C fs S' => exact o
  | no => exact o
/-- a lambda by its body -/
theorem lam_A {P : Program} {w : World} {K : PySem.W.Frag} {mg : Str → Option Value} {base : Heap} {n i : Nat} {L : Lm} {N pr : List Str} {me : Lo → M A} (hL : LT.lm i = some L) (S : NdefX.NScope N pr L.fr L.scope) (hfr : L.fr.Nodup)
    (hb : ∀ (cl : List (Str × Addr)) (pm cv ctv : Value) (us : List Value), us.length = pr.length → bindArgs (PySem.W.kla_fn "<lambda>" L.qual L.params L.body L.scope cl pm cv ctv) ⟨us, []⟩ = pure (pr.zip us))
    (b : ∀ (cl : List (Str × Addr)) (c f : Addr) (A' : Around) (outer : List Env) (s : Shared) (H : Hp) (E : XK), Room n (cxL P w K mg base N L cl c f A' outer s H E).A → AE (cxL P w K mg base N L cl c f A' outer s H E) G0 L.body me) :
    LmA P w K mg base (n + 1) i (lamF (pr.length + L.fr.length) N.length me) := by
  refine ⟨fun A' outer s wd k g caps as f vs us Q E hr e0 rl hi hs rv r o => ?_⟩
  obtain ⟨cl, vc, ps, fr, ce, hg, hsub, rc⟩ := rl.at_ k f _ hi hs
  obtain ⟨L', c, hL', hf, nc, hc, hn, nd⟩ := fr.ex
  rw [hL] at hL'
  cases hL'
  obtain ⟨qf, q⟩ := qf_of rl hg
  have on : On qf wd.H := fun b o e => (q.on b o e).2
  have raw : Raw qf s.heap := fun b o e => (e0.hok b _ (on b o e)).1
  have nf : ∀ b o, qf b = some o → b ∉ frs outer := fun b o e hb => by
    have := e0.frf b hb
    rw [on b o e] at this
    cases this
  have ru := sus_rel rl hg q
  have e0u : Env0 P w K mg base A' outer s (wd.sus g qf).H := env0_untr e0 on
  have kv := sus_kv (g := g) q
  have ou := lam_out rl hg q hs o
  obtain ⟨⟨pm, ctv, ho⟩, _⟩ := e0.hok f _ hf
  have hcode := NdefX.codeO_at e0.hok hc
  have lim : s.heap.NoLimit := e0.mod.nolimit.keeps fun b o e => (e0.bs b o e).1
  have C : NdefX.CellsAt cl L.fr (vc.map some) s.heap (wd.sus g qf).H := by
    rw [← hn]
    exact cells_ok (CelR.cells rl hg q e0.hok ce hsub) (by rw [hn]; exact hfr) nd
  have rva : Rvs ⟨K, mg⟩ (wd.sus g qf) (as ++ caps) (vs ++ vc) := Rvs.app (rv.mono kv fun _ _ z => z) (rc.mono kv fun _ _ z => z)
  have lc : caps.length = L.fr.length := by
    have h1 := rc.len
    have h2 : cl.length = vc.length := Paired.length ce
    have h3 : cl.length = L.fr.length := by rw [← hn]; simp
    omega
  refine codeAny_mono (R := CR (L2.CX P w) outer P w (untr wd.H qf) s (fun v H' => Off qf H' → Q v (trk H' qf)) (fun c d H' => Off qf H' → E c d (trk H' qf))) ?_ fun rr s' z => cr_retrk raw on nf (fun v H' f q => q f) (fun c d H' f q => q f) z
  unfold lamF at ou
  by_cases hl : (as ++ caps).length = pr.length + L.fr.length
  · rw [if_pos hl] at ou
    have hla : as.length = pr.length := by rw [List.length_append] at hl; omega
    have hlv : vs.length = pr.length := by rw [rv.len]; exact hla
    refine PySem.W.kla_callFunE hr.depth ho rfl S.co S.gen rfl hcode ?_
    rw [hb cl pm (.ref c) ctv us (by rw [← r.length]; exact hlv)]
    refine wpAny_pure (wpAny_newFunctionEnv S.nocell (fun ⟨n, _⟩ hy => S.par n (List.of_mem_zip hy).1) (fun h₁ hns hsb => ⟨lim.fresh _ hsb, ?_⟩) S.kind)
    show codeAny _ _ (.expr L.body (NdefX.envF (nfL L cl c) f s.heap.objs.size)) _ _
    have kp : ∀ b o, s.heap.get? b = some o → h₁.get? b = some o := fun b o e => hsb.extBut b o (Nat.ne_of_lt (Heap.lt_size e)) (Heap.get?_push_of_some _ e)
    have I : Inv (cxL P w K mg base N L cl c f A' outer s (wd.sus g qf).H (fun c d H' => Off qf H' → E c d (trk H' qf))) [] (NdefX.startF N vs (vc.map some)) (wd.sus g qf).H { s with heap := h₁, toks := s.toks + (pr.zip us).length } := NdefX.inv_startN S hr.hd e0u hlv r C hns kp
    have hst : NdefX.startF N vs (vc.map some) = L2.start N (vs ++ vc) := by
      unfold NdefX.startF L2.start
      rw [List.map_append, List.append_assoc, List.length_map, List.length_append, Nat.sub_sub]
    have st : Sta ⟨K, mg⟩ G0 (wd.sus g qf) ((as ++ caps).map some ++ List.replicate (N.length - (pr.length + L.fr.length)) none) (NdefX.startF N vs (vc.map some)) := by
      rw [hst]
      exact ⟨ru, rl_start rva hl, ⟨(fun p hp => nomatch hp), (fun q hq => nomatch hq)⟩, trivial⟩
    have tk : Takes (cxL P w K mg base N L cl c f A' outer s (wd.sus g qf).H (fun c d H' => Off qf H' → E c d (trk H' qf))) (fun cls d _ H => Off qf H → E cls d (trk H qf)) := takes_of rfl rfl rfl rfl
    refine PySem.W.kla_codeExpr (wpAny_mono ((b cl c f A' outer s (wd.sus g qf).H _ (hr.deeper _) _ tk).run [] _ _ _ _ I ⟨wd.sus g qf, _, rfl, st, out_sig (σ := []) (E := fun c d H' => Off qf H' → E c d (trk H' qf)) ou⟩) (fun v s' hq => ?_) fun e s' hq => hq)
    obtain ⟨x, H', J', rx, hq⟩ := hq
    exact ⟨x, H', J'.os, J'.bare, J'.base, J'.hok, rx, hq⟩
  · rw [if_neg hl] at ou
    exact ou.elim
end FL

/-! ## A24: x(..) where x is a name that holds a lambda -/
namespace FL
open PySem PySem.Spec PyProof.Rows L2
variable [LT]
def LmT (P : Program) (w : World) (K : PySem.W.Frag) (mg : Str → Option Value) (base : Heap) (n : Nat) (lf : Nat → Option (List A → M A)) : Prop := ∀ i F, lf i = some F → LmA P w K mg base n i F
def callV (lf : Nat → Option (List A → M A)) (i : Nat) (ml : Lo → M (List A)) (ρ : Lo) : M A := bnd (vr i ρ) fun a S => match a with
  | .ref k => match S[k]? with
    | some (.fn j _ _) => match lf j with
      | some F => bnd (ml ρ) (fun as => lamM F k as) S
      | none => .no
    | _ => .no
  | _ => .no
section
variable {X : Cx} {G : Gs} {W : WX} {n j : Nat} {lf : Nat → Option (List A → M A)} {x : Str} {e : Expr} {es : List Expr} {ml : Lo → M (List A)} {p pos : Pos}
theorem fn_at {pins : List (Addr × Obj)} {σ : L2.St} {w : Wd} {s : Shared} {k i g : Nat} {f : Addr} {caps : List A} (I : Inv X pins σ w.H s) (rl : Rel (cf X) w) (hi : w.ι[k]? = some f) (hs : w.S[k]? = some (.fn i g caps)) : PySem.W.FnAt f s.heap := by
  obtain ⟨cl, vs, ps, fr, _⟩ := rl.at_ k f _ hi hs
  obtain ⟨L, c, _, hf, _⟩ := fr.ex
  obtain ⟨⟨pm, ctv, ho⟩, _⟩ := I.hok f _ hf
  exact ⟨_, _, _, _, ho⟩
theorem run_L {pins : List (Addr × Obj)} {σ : L2.St} {w : Wd} {s : Shared} {Q : VK} {us : List Value} {vs : List V} {as caps : List A} {F : List A → M A} {k i g : Nat} {f : Addr} (c : LmA X.prog X.w X.K X.mg X.base n i F) (hr : Room j X.A) (hn : n ≤ j) (tk : Takes X W) (I : Inv X pins σ w.H s) (rl : Rel (cf X) w) (hi : w.ι[k]? = some f) (hs : w.S[k]? = some (.fn i g caps)) (rv : Rvs (cf X) w as vs) (r : Vals vs us)
    (o : Out (cf X) W σ (Rv (cf X)) w Q (lamM F k as w.S)) : wpAny (model X.prog X.w) X.A (call (.ref f) us) (EP X pins σ Q) X.xe s := by
  refine wpAny_call (codeAny_mono (c.run X.A X.stack s w k g caps as f vs us Q (WE W σ) (hr.mono hn) I.env0 rl hi hs rv r ?_) fun rr s' hq => ?_)
  · show outF (cf X) w Q (WE W σ) (lamM F k as w.S)
    cases er : lamM F k as w.S with
    | ok a S' => rw [er] at o; exact o
    | ex C fs S' => rw [er] at o; exact o
    | no => rw [er] at o; exact o
  · cases rr with
    | error e => exact passAt tk σ pins w.H s e s' I hq
    | ok fl =>
      cases fl with
      | ret u => exact I.after hq
      | next => exact False.elim hq
      | brk => exact False.elim hq
      | cont => exact False.elim hq
theorem callV_ok {i : Nat} {ρ : Lo} {w : Wd} {σ : L2.St} {Q : VK} (st : Sta (cf X) G w ρ σ) (o : Out (cf X) W σ (Rv (cf X)) w Q (callV lf i ml ρ w.S)) :
    ∃ (k jj g : Nat) (caps : List A) (F : List A → M A) (f : Addr), σ[i]? = some (some (.ref f)) ∧ w.ι[k]? = some f ∧ w.S[k]? = some (.fn jj g caps) ∧ lf jj = some F ∧ Out (cf X) W σ (Rv (cf X)) w Q (bnd (ml ρ) (fun as => lamM F k as) w.S) := by
  unfold callV vr bnd at o
  cases e : ρ[i]? with
  | none => simp only [e] at o; exact o.elim
  | some z =>
    cases z with
    | none => simp only [e] at o; exact o.elim
    | some a =>
      simp only [e] at o
      obtain ⟨v, h1, h2⟩ := st.loc.2 i a e
      cases h2 with
      | @ref k f hi =>
        have o : Out (cf X) W σ (Rv (cf X)) w Q (match w.S[k]? with
          | some (.fn j _ _) => match lf j with
            | some F => bnd (ml ρ) (fun as => lamM F k as) w.S
            | none => .no
          | _ => .no) := o
        cases es : w.S[k]? with
        | none => simp only [es] at o; exact o.elim
        | some ob =>
          simp only [es] at o
          cases ob with
          | fn jj g caps =>
            simp only at o
            cases hF : lf jj with
            | none => simp only [hF] at o; exact o.elim
            | some F =>
              simp only [hF] at o
              exact ⟨k, jj, g, caps, F, f, h1, hi, es, hF, o⟩
          | _ => exact o.elim
      | _ => exact o.elim
theorem ae_callV {i : Nat} (c : LmT X.prog X.w X.K X.mg X.base n lf) (hr : Room j X.A) (hn : n ≤ j) (ha : AA X G (e :: es) ml) (hN : X.N[i]? = some x := by rfl) (hv : Vis X.env.scope x := by first | exact Or.inl rfl | exact Or.inr (Or.inl rfl) | exact Or.inr (Or.inr rfl)) (hd : (x == ("__debug__" : Str)) = false := by decide) (hcd : (x == ("__classdict__" : Str)) = false := by decide)
    (he : starEach (e :: es) X.env = (false, eval e X.env) :: starEach es X.env := by rfl) (hpl : (backTo pos (starEach es X.env)).any (·.1) = false := by rfl) : AE X G (.Call (.Name x p) (e :: es) [] pos) (callV lf i ml) := fun W tk => ⟨fun pins s σ H Q I h => by
  obtain ⟨w, ρ, rfl, st, o⟩ := h
  obtain ⟨k, jj, g, caps, F, f, h1, hi, hs, hF, o⟩ := callV_ok st o
  refine wpAny_Call_Name_kw (thn ((pe_var (pos := p) hN hv hd hcd).run pins s σ w.H (fun v H1 => v = .ref f ∧ H1 = w.H) I ⟨.ref f, h1, rfl, rfl⟩) fun u s1 ⟨v, H1, I1, r1, q1⟩ => ?_)
  obtain ⟨ev, eH⟩ := q1
  subst ev
  rw [eH] at I1
  obtain rfl : u = Value.ref f := r1
  refine PySem.W.callWith_F (first := []) (fn_at I1 st.rel hi hs) (thn ((ha W tk).run pos pins s1 σ w.H _ I1 (aG_of (Q := fun vs H2 => ∃ w2 as, w2.H = H2 ∧ Rel (cf X) w2 ∧ w2.ι[k]? = some f ∧ w2.S[k]? = some (.fn jj g caps) ∧ Rvs (cf X) w2 as vs ∧ Out (cf X) W σ (Rv (cf X)) w2 Q (lamM F k as w2.S)) st (step st o fun w2 as vs st2 ex rv o2 => ⟨w2, as, rfl, st2.rel, ex.ix _ _ hi, ex.lk _ _ hs rfl, rv, o2⟩))) fun us s2 ⟨vs, H2, I2, r, w2, as, e1, rl2, hi2, hs2, rv, o2⟩ => ?_) he hpl
  subst e1
  exact ⟨fn_at I2 rl2 hi2 hs2, run_L (c jj F hF) hr hn tk I2 rl2 hi2 hs2 rv r o2⟩⟩
theorem ae_callV0 {i : Nat} (c : LmT X.prog X.w X.K X.mg X.base n lf) (hr : Room j X.A) (hn : n ≤ j) (hN : X.N[i]? = some x := by rfl) (hv : Vis X.env.scope x := by first | exact Or.inl rfl | exact Or.inr (Or.inl rfl) | exact Or.inr (Or.inr rfl)) (hd : (x == ("__debug__" : Str)) = false := by decide) (hcd : (x == ("__classdict__" : Str)) = false := by decide) :
    AE X G (.Call (.Name x p) [] [] pos) (callV lf i nilA) := fun W tk => ⟨fun pins s σ H Q I h => by
  obtain ⟨w, ρ, rfl, st, o⟩ := h
  obtain ⟨k, jj, g, caps, F, f, h1, hi, hs, hF, o⟩ := callV_ok st o
  refine wpAny_Call_Name_kw (thn ((pe_var (pos := p) hN hv hd hcd).run pins s σ w.H (fun v H1 => v = .ref f ∧ H1 = w.H) I ⟨.ref f, h1, rfl, rfl⟩) fun u s1 ⟨v, H1, I1, r1, q1⟩ => ?_)
  obtain ⟨ev, eH⟩ := q1
  subst ev
  rw [eH] at I1
  obtain rfl : u = Value.ref f := r1
  exact PySem.W.callWith_F0 (first := []) (fn_at I1 st.rel hi hs) (run_L (us := []) (vs := []) (as := []) (c jj F hF) hr hn tk I1 st.rel hi hs .nil .nil o)⟩
end
end FL

/-! ## A25: a lambda made -/
namespace FL
open PySem PySem.Spec PyProof.Rows L2 LamX
variable [LT]
section
variable {X : Cx} {pins : List (Addr × Obj)} {σ : L2.St} {H : Hp} {s : Shared}
theorem inv_lm {L : Lm} {cl : List (Str × Addr)} {c : Addr} {t' : Nat} {pm ctv : Value} (I : Inv X pins σ H s) :
    Inv X pins σ (upd H s.heap.objs.size (LmO s.heap.objs.size L cl c)) { s with heap := s.heap.push (PySem.W.kla_obj "<lambda>" L.qual L.params L.body L.scope cl pm c ctv), toks := t' } := by
  refine I.laid (a := s.heap.objs.size) (fun b u e => Heap.get?_push_of_some _ e) (Nat.le_refl _) ?_
  have e : (s.heap.push (PySem.W.kla_obj "<lambda>" L.qual L.params L.body L.scope cl pm c ctv)).get? s.heap.objs.size = some (PySem.W.kla_obj "<lambda>" L.qual L.params L.body L.scope cl pm c ctv) := Heap.get?_push_size _ rfl
  exact ⟨⟨pm, ctv, e⟩, ⟨_, e⟩, fun h1 h2 ⟨p, t, z⟩ st => ⟨p, t, st _ z⟩⟩
/-- its function object is tracked, its code object is new or found in the table -/
theorem lam_make {T : List (Addr × Str)} {c P : Addr} {L : Lm} {pos : Pos} {E : Value → Shared → Prop} {Q : Value → Shared → Prop} (I : Inv X pins σ H s) (TB : TabB X.base X.mg c P) (hcode : X.env.code = .ref c) (hLq : L.qual = X.env.qual ++ "<lambda>")
    (hm : (P, L.qual) ∈ T) (hu : ∀ p ∈ T, p.1 = P → p.2 = L.qual) (hT : Tabs T H) (hdef : defaultsOf L.params X.env = ([], [])) (hfree : ∀ y ∈ L.scope.names, y.2 = .free → ∃ c, X.env.cells.lookup y.1 = some c)
    (h : ∀ (f c' : Addr) (H1 : Hp) (s' : Shared), Inv X pins σ H1 s' → ExtN H H1 → Tabs T H1 → H f = none → H1 f = some (LmO f L (cloFrom X.env.cells L.scope.names []) c') → H1 c' = some (CodeO c' L.qual) → (∀ b, H1 b = none → H b = none) → Q (.ref f) s') :
    wpAny (model X.prog X.w) X.A (eval (.Lambda L.params L.body L.scope pos) X.env) Q E s := by
  obtain ⟨ps, hP, ht, ha⟩ := hT _ hm
  refine PySem.W.kla_eval hdef ?_
  have bP : s.heap.BuiltinsAt X.mg P := TB.bm.keeps I.bk
  have hP' : s.heap.get? P = some { cls := .none, data := .fields ps } := I.hok P _ hP
  rw [← hLq]
  cases hc : codeAmong pos ps.toList with
  | none =>
    refine PySem.W.kla_makeFunction (mg := X.mg) (c := c) (P := P) (ps := ps) (closure_ok hfree) I.ok.glob (I.mod.glob.keeps I.bk) hcode (TB.code.keeps I.bk) hP' ht hc TB.gP bP fun c' ctv h' tk hx hge hlt hrec htb => ?_
    obtain ⟨c2, oc, vs, t, e2, hoc, hd, hv⟩ := hrec
    cases e2
    have nC : H c' = none := I.hok.fresh hge
    have I1 := inv_table (t' := tk) (more := #[rawInt pos.line, rawInt pos.col, .ref c']) (h' := h') I hP (fun b o hb e => hx b o hb e) htb hge ⟨oc, vs, t, hoc, hd, hv⟩
    have hE : ExtN H (upd (upd H P (.tbl (ps ++ #[rawInt pos.line, rawInt pos.col, .ref c']))) c' (CodeO c' L.qual)) := fun b o e n => by
      rw [upd_ne (ne_of_none e nC), upd_ne (fun z => n ps (Option.some.inj (e.symm.trans (by rw [z]; exact hP))))]
      exact e
    have eL : (ps ++ #[rawInt pos.line, rawInt pos.col, .ref c']).toList = ps.toList ++ [rawInt pos.line, rawInt pos.col, .ref c'] := by simp
    have T1 : Tabs T (upd (upd H P (.tbl (ps ++ #[rawInt pos.line, rawInt pos.col, .ref c']))) c' (CodeO c' L.qual)) := fun p hp => by
      by_cases hb : p.1 = P
      · rw [hu p hp hb, hb]
        refine ⟨_, by rw [upd_ne (ne_of_none hP nC), upd_same], by rw [eL]; exact PySem.TriplesOk_snoc _ _ _ _ ht, fun p' cv hcv => ?_⟩
        rw [eL] at hcv
        rcases among_app _ ht hcv with z | z
        · obtain ⟨c0, e1, e2⟩ := ha p' cv z
          exact ⟨c0, e1, hE _ _ e2 codeO_ne⟩
        · exact ⟨c', z, upd_same⟩
      · obtain ⟨ps', a1, a2, a3⟩ := hT p hp
        refine ⟨ps', by rw [upd_ne (ne_of_none a1 nC), upd_ne hb]; exact a1, a2, fun p' cv hcv => ?_⟩
        obtain ⟨c0, e1, e2⟩ := a3 p' cv hcv
        exact ⟨c0, e1, hE _ _ e2 codeO_ne⟩
    have nF := I1.hok.fresh (Nat.le_refl _)
    have I2 := inv_lm (L := L) (cl := cloFrom X.env.cells L.scope.names []) (c := c') (t' := tk) (pm := (X.mg "__name__").getD .none) (ctv := ctv) I1
    refine h h'.objs.size c' _ _ I2 (fun b o e n => ?_) (T1.ext fun b o e => ?_) (I.hok.fresh (Nat.le_trans hge (Nat.le_of_lt hlt))) upd_same ?_ (fun b e => NdefX.upd_none (NdefX.upd_none (NdefX.upd_none e)))
    · have e1 := hE b o e n
      exact (upd_ne (ne_of_none e1 nF)).trans e1
    · exact (upd_ne (ne_of_none e nF)).trans e
    · exact (upd_ne (Nat.ne_of_lt hlt)).trans upd_same
  | some cv =>
    obtain ⟨c', e, hco⟩ := ha pos cv hc
    subst e
    refine PySem.W.kla_makeFunctionHit (mg := X.mg) (c := c) (P := P) (ps := ps) (closure_ok hfree) I.ok.glob (I.mod.glob.keeps I.bk) hcode (TB.code.keeps I.bk) hP' ht hc bP fun ctv h' tk hx hsz => ?_
    have I1 : Inv X pins σ H { s with heap := h', toks := tk } := I.kept hx
    have nF : H h'.objs.size = none := I1.hok.fresh (Nat.le_refl _)
    have I2 := inv_lm (L := L) (cl := cloFrom X.env.cells L.scope.names []) (c := c') (t' := tk) (pm := (X.mg "__name__").getD .none) (ctv := ctv) I1
    refine h h'.objs.size c' _ _ I2 (fun b o e n => ?_) (hT.ext fun b o e => ?_) nF upd_same ?_ (fun b e => NdefX.upd_none e)
    · exact (upd_ne (ne_of_none e nF)).trans e
    · exact (upd_ne (ne_of_none e nF)).trans e
    · exact (upd_ne (ne_of_none hco nF)).trans hco
end
end FL

/-! ## A26: a lambda among the arguments (under way) -/
namespace FL
open PySem PySem.Spec PyProof.Rows L2 LamX
variable [LT]
section
variable {Γ : Cfg} {w : Wd}
theorem ObR.ntb {a : Addr} {o : Ob} (h : ObR Γ w a o) : ∀ u, w.H a = some u → isTb u = false := by
  intro u e
  cases o with
  | lst xs => obtain ⟨_, e1, _⟩ := h; rw [e] at e1; cases e1; rfl
  | llst xs => obtain ⟨_, e1, _⟩ := h; rw [e] at e1; cases e1; rfl
  | dic kvs =>
    rcases h with ⟨_, e1, _⟩ | ⟨_, e1, _⟩
    · rw [e] at e1; cases e1; rfl
    · rw [e] at e1; cases e1; rfl
  | ldic kvs =>
    rcases h with ⟨_, _, e1, _⟩ | ⟨_, _, e1, _⟩
    · rw [e] at e1; cases e1; rfl
    · rw [e] at e1; cases e1; rfl
  | ins C fs => obtain ⟨_, _, e1, _⟩ := h; rw [e] at e1; cases e1; rfl
  | fn i g caps => obtain ⟨_, _, _, f, _⟩ := h; obtain ⟨_, _, _, e1, _⟩ := f.ex; rw [e] at e1; cases e1; rfl
  | sfn i g caps => obtain ⟨_, _, f, _⟩ := h; obtain ⟨_, _, _, e1, _⟩ := f.ex; rw [e] at e1; cases e1; rfl
  | sin C fs => obtain ⟨_, _, e1, _⟩ := h; rw [e] at e1; cases e1; rfl
  | dead => obtain ⟨o, e1, t⟩ := h; rw [e] at e1; cases e1; cases u <;> first | rfl | cases t
/-- all but the tables is there still -/
theorem Ex.extN {H' : Hp} (r : Rel Γ w) (h : ExtN w.H H') : Ex w ⟨w.ι, w.S, H', w.x⟩ := by
  have k : ∀ b o, w.H b = some o → isTb o = false → H' b = some o := fun b o e t => h b o e fun ps z => by rw [z] at t; cases t
  refine ⟨rfl, fun a ha => ⟨ha, ?_⟩, fun _ _ z => z, fun a o n e t => ⟨.inl (k a o e t), n⟩, fun _ _ z _ => z, fun i o a hs _ e => ?_⟩
  · obtain ⟨⟨o, e, z⟩, _⟩ := r.sc a ha
    show H' a = w.H a
    rw [k a o e (by cases o <;> first | rfl | cases z), e]
  · obtain ⟨u, e3⟩ := r.there e
    show H' a = w.H a
    rw [k a u e3 ((r.at_ i a o e hs).ntb u e3), e3]
theorem Rel.extN {H' : Hp} (r : Rel Γ w) (h : ExtN w.H H') (t : Tabs (LT.tabs Γ.K) H') : Rel Γ ⟨w.ι, w.S, H', w.x⟩ := by
  have ex := Ex.extN r h
  refine ⟨r.g.ex ex t, fun a ha => ⟨?_, (r.sc a ha).2⟩, r.len, r.inj, fun i a o e1 e2 => (r.at_ i a o e1 e2).ex ex ?_⟩
  · obtain ⟨⟨o, e, z⟩, _⟩ := r.sc a ha
    exact ⟨o, (ex.sx a ha).2.trans e, z⟩
  · obtain ⟨u, e3⟩ := r.there e1
    show H' a = w.H a
    rw [h a u e3 (fun ps z => by
      have := (r.at_ i a o e1 e2).ntb u e3
      rw [z] at this
      cases this), e3]
end
section
variable {Γ : Cfg} {w : Wd}
theorem numN_lv {H' : Hp} {f b : Addr} {ob : Ob} (r : Rel Γ w) (z : Wd.Lv ⟨w.ι ++ [f], w.S ++ [ob], H', w.x⟩ b) : Wd.Lv ⟨w.ι, w.S, H', w.x⟩ b ∨ b = f := by
  rcases z with ⟨k, o, h1, h2, h3⟩ | z
  · rcases get_app h1 with ⟨hk, h1⟩ | ⟨_, rfl⟩
    · have h2 : (w.S ++ [ob])[k]? = some o := h2
      rw [List.getElem?_append_left (by rw [← r.len]; exact hk)] at h2
      exact .inl (.inl ⟨k, o, h1, h2, h3⟩)
    · exact .inr rfl
  · exact .inl (.inr z)
/-- .. and something new of it gets a number -/
theorem Ex.numN {H' : Hp} {f : Addr} {ob : Ob} (r : Rel Γ w) (h : ExtN w.H H') (hf : w.H f = none) : Ex w ⟨w.ι ++ [f], w.S ++ [ob], H', w.x⟩ := by
  have ex := Ex.extN r h
  refine ⟨rfl, ex.sx, fun j a e => ?_, fun a o n e t => ⟨(ex.kp a o n e t).1, fun z => ?_⟩, fun k o e l => ?_, ex.fx⟩
  · show (w.ι ++ [f])[j]? = some a
    rw [List.getElem?_append_left (List.getElem?_eq_some_iff.mp e).1]; exact e
  · rcases numN_lv r z with z | z
    · exact n z
    · rw [z, hf] at e; cases e
  · show (w.S ++ [ob])[k]? = some o
    rw [List.getElem?_append_left (List.getElem?_eq_some_iff.mp e).1]; exact e
theorem Rel.numN {H' : Hp} {f : Addr} {ob : Ob} (r : Rel Γ w) (h : ExtN w.H H') (t : Tabs (LT.tabs Γ.K) H') (hf : w.H f = none) (n : ObR Γ ⟨w.ι ++ [f], w.S ++ [ob], H', w.x⟩ f ob) : Rel Γ ⟨w.ι ++ [f], w.S ++ [ob], H', w.x⟩ := by
  have ex := Ex.extN r h
  have ex1 := Ex.numN (ob := ob) r h hf
  have np : ∀ (k : Nat) (a : Addr), w.ι[k]? = some a → a ≠ f := fun k a e z => by
    obtain ⟨u, e3⟩ := r.there e
    rw [z, hf] at e3; cases e3
  refine ⟨r.g.ex ex1 t, fun a ha => ⟨?_, fun k e => ?_⟩, by show (w.ι ++ [f]).length = (w.S ++ [ob]).length; simp [r.len], fun i j a e1 e2 => ?_, fun k a q e1 e2 => ?_⟩
  · obtain ⟨⟨o', e, z⟩, _⟩ := r.sc a ha
    exact ⟨o', (ex.sx a ha).2.trans e, z⟩
  · rcases get_app e with ⟨_, f1⟩ | ⟨_, ea⟩
    · exact (r.sc a ha).2 k f1
    · obtain ⟨⟨o', e', z⟩, _⟩ := r.sc a ha
      rw [ea, hf] at e'; cases e'
  · rcases get_app e1 with ⟨_, f1⟩ | ⟨h1, ea⟩
    · rcases get_app e2 with ⟨_, f2⟩ | ⟨_, ea⟩
      · exact r.inj i j a f1 f2
      · exact absurd ea (np i _ f1)
    · rcases get_app e2 with ⟨_, f2⟩ | ⟨h2, _⟩
      · exact absurd ea (np j _ f2)
      · rw [h1, h2]
  · rcases get_app e1 with ⟨hk, e1⟩ | ⟨h1, rfl⟩
    · have e2 : (w.S ++ [ob])[k]? = some q := e2
      rw [List.getElem?_append_left (by rw [← r.len]; exact hk)] at e2
      refine (r.at_ k a q e1 e2).ex ex1 ?_
      obtain ⟨u, e3⟩ := r.there e1
      show H' a = w.H a
      rw [h a u e3 (fun ps z => by
        have := (r.at_ k a q e1 e2).ntb u e3
        rw [z] at this
        cases this), e3]
    · have e2 : (w.S ++ [ob])[k]? = some q := e2
      rw [h1, r.len, List.getElem?_append_right (Nat.le_refl _), Nat.sub_self] at e2
      simp at e2
      subst e2
      exact n
end
theorem code_nlv {Γ : Cfg} {w : Wd} {c : Addr} {x : Str} (r : Rel Γ w) (h : w.H c = some (CodeO c x)) (hne : ∀ b L cl c2, w.H b = some (LmO b L cl c2) → b ≠ c) (hns : ∀ b C dx vs, w.H b = some (SlX.SlO b C dx vs) → b ≠ c) : ¬ w.Lv c := by
  rintro (⟨k, o, h1, h2, h3⟩ | z)
  · have q := r.at_ k c o h1 h2
    cases o with
    | lst xs => obtain ⟨_, e, _⟩ := q; rw [h] at e; cases e
    | llst xs => obtain ⟨_, e, _⟩ := q; rw [h] at e; cases e
    | dic kvs =>
      rcases q with ⟨_, e, _⟩ | ⟨_, e, _⟩
      · rw [h] at e; cases e
      · rw [h] at e; cases e
    | ldic kvs =>
      rcases q with ⟨_, _, e, _⟩ | ⟨_, _, e, _⟩
      · rw [h] at e; cases e
      · rw [h] at e; cases e
    | ins C fs => obtain ⟨_, _, e, _⟩ := q; rw [h] at e; cases e
    | fn i g caps => obtain ⟨_, _, _, f, _⟩ := q; obtain ⟨_, _, _, e, _⟩ := f.ex; exact hne _ _ _ _ e rfl
    | sfn i g caps => obtain ⟨_, _, f, _⟩ := q; obtain ⟨_, _, _, e, _⟩ := f.ex; exact hne _ _ _ _ e rfl
    | sin C fs => obtain ⟨_, _, e, _⟩ := q; exact hns _ _ _ _ e rfl
    | dead => cases h3
  · obtain ⟨⟨o, e, y⟩, _⟩ := r.sc c z
    rw [h] at e
    cases e
    cases y
def tLamE (X : Cx) (L : Lm) : TE := fun σ H Q => Tabs (LT.tabs X.K) H ∧ ∀ (f c' : Addr) (H1 : Hp), ExtN H H1 → Tabs (LT.tabs X.K) H1 → H f = none → H1 f = some (LmO f L (cloFrom X.env.cells L.scope.names []) c') → H1 c' = some (CodeO c' L.qual) → (∀ b L' cl c2, H1 b = some (LmO b L' cl c2) → b ≠ c') → (∀ b C dx vs, H1 b = some (SlX.SlO b C dx vs) → b ≠ c') → Q (.ref f) H1
theorem pe_lamE {X : Cx} {c P : Addr} {L : Lm} {pos : Pos} (TB : TabB X.base X.mg c P) (hcode : X.env.code = .ref c) (hLq : L.qual = X.env.qual ++ "<lambda>") (hm : (P, L.qual) ∈ LT.tabs X.K) (hu : ∀ p ∈ LT.tabs X.K, p.1 = P → p.2 = L.qual) (hdef : defaultsOf L.params X.env = ([], []))
    (hfree : X.Ok → ∀ y ∈ L.scope.names, y.2 = .free → ∃ c, X.env.cells.lookup y.1 = some c) : PE X (.Lambda L.params L.body L.scope pos) (tLamE X L) := ⟨fun pins s σ H Q I q => by
  obtain ⟨hT, q⟩ := q
  refine lam_make I TB hcode hLq hm hu hT hdef (hfree I.ok) fun f c' H1 s' I1 hE T1 hf h1 h2 _ => ⟨.ref f, H1, I1, rfl, q f c' H1 hE T1 hf h1 h2 (fun b L' cl c2 hb z => ?_) fun b C dx vs hb z => ?_⟩
  all_goals subst z
  · obtain ⟨⟨pm, ctv, e1⟩, _⟩ := I1.hok b _ hb
    obtain ⟨⟨oc, vs, t, e2, e3, _⟩, _⟩ := I1.hok b _ h2
    rw [e1] at e2
    cases e2
    cases e3
  · obtain ⟨⟨sl, e1, _⟩, _⟩ := I1.hok b _ hb
    obtain ⟨⟨oc, vs, t, e2, e3, _⟩, _⟩ := I1.hok b _ h2
    rw [e1] at e2
    cases e2
    cases e3⟩
/-- values; the one at j is a lambda i made by this frame -/
structure RvM (X : Cx) (j i : Nat) (w : Wd) (as : List A) (vs : List V) : Prop where
  rv : Rvs (cf X) w as vs
  ex : ∃ (k : Nat) (f : Addr) (L : Lm) (c : Addr), as[j]? = some (.ref k) ∧ w.ι[k]? = some f ∧ w.S[k]? = some (.sfn i 0 []) ∧ LT.lm i = some L ∧ w.H f = some (LmO f L (cloFrom X.env.cells L.scope.names []) c) ∧ ¬ w.Lv c ∧ w.H c = some (CodeO c L.qual)
theorem RvM.ex' {X : Cx} {j i : Nat} {w w' : Wd} {as : List A} {vs : List V} (h : RvM X j i w as vs) (e : Ex w w') : RvM X j i w' as vs := by
  obtain ⟨k, f, L, c, h1, h2, h3, h4, h5, h6, h7⟩ := h.ex
  exact ⟨h.rv.ex e, k, f, L, c, h1, e.ix _ _ h2, e.lk _ _ h3 rfl, h4, (e.fx k _ f h3 rfl h2).trans h5, (e.kp.is h6 h7 rfl).2, (e.kp.is h6 h7 rfl).1⟩
theorem RvM.cons {X : Cx} {j i : Nat} {w : Wd} {a : A} {v : V} {as : List A} {vs : List V} (h : RvM X j i w as vs) (r : Rv (cf X) w a v) : RvM X (j + 1) i w (a :: as) (v :: vs) := by
  obtain ⟨k, f, L, c, h1, h2⟩ := h.ex
  exact ⟨.cons r h.rv, k, f, L, c, by simpa using h1, h2⟩
def AL (X : Cx) (G : Gs) (j i : Nat) (es : List Expr) (ml : Lo → M (List A)) : Prop := ∀ W, Takes X W → PA X es (aG (cf X) W G (RvM X j i) ml)
def valL (me : Lo → M A) (ml : Lo → M (List A)) (ρ : Lo) : M (List A) := bnd (me ρ) fun a => bnd (ml ρ) fun r => ret (a :: r)
def lamL (i : Nat) (ml : Lo → M (List A)) (ρ : Lo) : M (List A) := bnd (newM (.sfn i 0 [])) fun a => bnd (ml ρ) fun r => ret (a :: r)
section
variable {X : Cx} {G : Gs} {e : Expr} {es : List Expr} {me : Lo → M A} {ml : Lo → M (List A)}
theorem al_val {j i : Nat} (ha : AE X G e me) (hr : AL X G j i es ml) (hs : starEach (e :: es) X.env = (false, eval e X.env) :: starEach es X.env := by rfl) : AL X G (j + 1) i (e :: es) (valL me ml) := fun W tk => (pa_cons (ha W tk) (hr W tk) hs).imp fun σ H Q q => aG_step (R := Rv (cf X)) q fun w1 ρ x y st1 rv o =>
  aG_of st1 (step st1 o fun w2 xs ys st2 ex rv2 o2 => Out.here (R := RvM X (j + 1) i) o2 st2.rel (rv2.cons (rv.ex ex)))
theorem al_lam {i : Nat} {L : Lm} (hL : LT.lm i = some L) (hfst : (cloFrom X.env.cells L.scope.names []).map Prod.fst = L.fr) (hnd : X.Ok → ((cloFrom X.env.cells L.scope.names []).map Prod.snd).Nodup) (hl : PE X e (tLamE X L)) (hr : AA X G es ml) (hs : starEach (e :: es) X.env = (false, eval e X.env) :: starEach es X.env := by rfl) : AL X G 0 i (e :: es) (lamL i ml) := fun W tk => ⟨fun pos pins s σ H Q I q => by
  have nd := hnd I.ok
  refine ((pa_cons hl (hr W tk) hs).imp (t' := aG (cf X) W G (RvM X 0 i) (lamL i ml)) fun σ H Q q => ?_).run pos pins s σ H Q I q
  obtain ⟨w, ρ, rfl, st, o⟩ := q
  refine ⟨st.rel.g.tb, fun f c' H1 hE T1 hf h1 h2 hne hns => ?_⟩
  have rl := st.rel.extN hE T1
  have n2 : ¬ Wd.Lv ⟨w.ι, w.S, H1, w.x⟩ c' := code_nlv rl h2 hne hns
  have cf' : c' ≠ f := fun z => hne f L _ c' h1 z.symm
  have n3 : ¬ Wd.Lv ⟨w.ι ++ [f], w.S ++ [.sfn i 0 []], H1, w.x⟩ c' := fun z => by
    rcases numN_lv st.rel z with z | z
    · exact n2 z
    · exact cf' z
  have ex := Ex.numN (ob := .sfn i 0 []) st.rel hE hf
  have fr : FnR ⟨w.ι ++ [f], w.S ++ [.sfn i 0 []], H1, w.x⟩ f i (cloFrom X.env.cells L.scope.names []) := ⟨L, c', hL, h1, n3, h2, hfst, nd⟩
  have rl1 := Rel.numN (ob := .sfn i 0 []) st.rel hE T1 hf ⟨_, [], fr, .nil⟩
  have st1 := st.ex ex rl1
  have hi : (w.ι ++ [f])[w.S.length]? = some f := by rw [← st.rel.len]; simp
  have hs1 : (w.S ++ [Ob.sfn i 0 []])[w.S.length]? = some (.sfn i 0 []) := by simp
  exact aG_of (m := ml) (w := ⟨w.ι ++ [f], w.S ++ [.sfn i 0 []], H1, w.x⟩) st1 (step (k := fun r => ret (.ref w.S.length :: r)) (w := ⟨w.ι ++ [f], w.S ++ [.sfn i 0 []], H1, w.x⟩) st1 (Out.later ex o) fun w2 xs ys st2 ex2 rv2 o2 => Out.here (R := RvM X 0 i) o2 st2.rel ⟨.cons (.ref (ex2.ix _ _ hi)) rv2, w.S.length, f, L, c', rfl, ex2.ix _ _ hi, ex2.lk _ _ hs1 rfl, hL, (ex2.fx _ _ f hs1 rfl hi).trans h1, (ex2.kp.is n3 h2 rfl).2, (ex2.kp.is n3 h2 rfl).1⟩)⟩
end
end FL

/-! ## A27: f(.., lambda, ..) -/
namespace FL
open PySem PySem.Spec PyProof.Rows L2 LamX
variable [LT]
def grp : Ob → Nat
  | .fn _ g _ => g + 1
  | .sfn _ g _ => g + 1
  | _ => 0
/-- a number that no group of the store has -/
def freshG : Sto → Nat
  | [] => 0
  | o :: r => max (grp o) (freshG r)
theorem freshG_le : ∀ {S : Sto} {k : Nat} {o : Ob}, S[k]? = some o → grp o ≤ freshG S
  | [], _, _, h => by simp at h
  | o :: r, 0, q, h => by
    simp at h
    subst h
    exact Nat.le_max_left _ _
  | o :: r, k + 1, q, h => Nat.le_trans (freshG_le (S := r) (k := k) (by simpa using h)) (Nat.le_max_right _ _)
/-- the captured values -/
def capsOf (ρ : Lo) : List Nat → Option (List A)
  | [] => some []
  | j :: r => match ρ[j]? with
    | some (some a) => (capsOf ρ r).map (a :: ·)
    | _ => none
theorem susp_length (g : Nat) (S : Sto) : (susp g S).length = S.length := by unfold susp; simp
/-- behind the call the lambda is suspended again -/
def behL (k g i : Nat) : Rs A → Rs A
  | .ok a S' => .ok a ((susp g S').set k (.sfn i 0 []))
  | .ex C fs S' => .ex C fs ((susp g S').set k (.sfn i 0 []))
  | .no => .no
/-- f(.., lambda, ..): argument j is the lambda i, which captures the slots js -/
def callL (F : List A → M A) (i j : Nat) (js : List Nat) (ml : Lo → M (List A)) (ρ : Lo) : M A := bnd (ml ρ) fun as S => match as[j]? with
  | some (.ref k) => match capsOf ρ js with
    | some caps => behL k (freshG S) i (F as (S.set k (.fn i (freshG S) caps)))
    | none => .no
  | _ => .no
theorem capsOf_ok {Γ : Cfg} {w : Wd} {ρ : Lo} {σ : L2.St} (h : Rl Γ w ρ σ) : ∀ {js : List Nat} {caps : List A}, capsOf ρ js = some caps → ∃ vs : List V, Rvs Γ w caps vs ∧ js.map (NdefX.slotAt σ) = vs.map some
  | [], caps, e => by
    cases e
    exact ⟨[], .nil, rfl⟩
  | j :: r, caps, e => by
    unfold capsOf at e
    cases e1 : ρ[j]? with
    | none => rw [e1] at e; cases e
    | some z =>
      cases z with
      | none => rw [e1] at e; cases e
      | some a =>
        rw [e1] at e
        have e : (capsOf ρ r).map (a :: ·) = some caps := e
        obtain ⟨l, e2, rfl⟩ := Option.map_eq_some_iff.mp e
        obtain ⟨vs, h1, h2⟩ := capsOf_ok h e2
        obtain ⟨v, h3, h4⟩ := h.2 j a e1
        exact ⟨v :: vs, .cons h4 h1, by rw [List.map_cons, List.map_cons, h2, NdefX.slotAt_of h3]⟩
theorem ObR.tr {Γ : Cfg} {w w' : Wd} {a : Addr} {o : Ob} (h : ObR Γ w a o) (kv : Kv w w') (ix : ∀ (j : Nat) (a : Addr), w.ι[j]? = some a → w'.ι[j]? = some a) (hH : ∀ u, w.H a = some u → w'.H a = some u)
    (hc : ∀ c x, ¬ w.Lv c → w.H c = some (CodeO c x) → w'.H c = some (CodeO c x) ∧ ¬ w'.Lv c) (hg : ∀ i g caps ps, o = .fn i g caps → w.x.gs g = some ps → w'.x.gs g = some ps ∧ ∀ p ∈ ps, ∀ u, ¬ w.Lv p → w.H p = some u → w'.H p = some u ∧ ¬ w'.Lv p) : ObR Γ w' a o := by
  have fnr : ∀ {i : Nat} {cl : List (Str × Addr)}, FnR w a i cl → FnR w' a i cl := fun {i cl} f => by
    obtain ⟨L, c, h1, h2, h3, h4, h5⟩ := f.ex
    exact ⟨L, c, h1, hH _ h2, (hc c _ h3 h4).2, (hc c _ h3 h4).1, h5⟩
  cases o with
  | lst xs => obtain ⟨vs, e, rv⟩ := h; exact ⟨vs, hH _ e, rv.mono kv ix⟩
  | llst xs => obtain ⟨vs, e, rv⟩ := h; exact ⟨vs, hH _ e, rv.mono kv ix⟩
  | dic kvs =>
    rcases h with ⟨kv', e, rv⟩ | ⟨kv', e, rv⟩
    · exact .inl ⟨kv', hH _ e, rv.mono kv ix⟩
    · exact .inr ⟨kv', hH _ e, rv.mono kv ix⟩
  | ldic kvs =>
    rcases h with ⟨o, kv', e, rv⟩ | ⟨o, kv', e, rv⟩
    · exact .inl ⟨o, kv', hH _ e, rv.mono kv ix⟩
    · exact .inr ⟨o, kv', hH _ e, rv.mono kv ix⟩
  | ins C fs => obtain ⟨dx, fv, e, rv⟩ := h; exact ⟨dx, fv, hH _ e, rv.mono kv ix⟩
  | dead => obtain ⟨o, e, t⟩ := h; exact ⟨o, hH _ e, t⟩
  | sfn i g' caps => obtain ⟨cl, vs, f, rv⟩ := h; exact ⟨cl, vs, fnr f, rv.mono kv ix⟩
  | sin C fs => obtain ⟨dx, fv, e, n, e', rv⟩ := h; exact ⟨dx, fv, hH _ e, (kv.is n e' rfl).2, (kv.is n e' rfl).1, rv.mono kv ix⟩
  | fn i g' caps =>
    obtain ⟨cl, vs, ps', f, ce, hg', hs, rv⟩ := h
    obtain ⟨g1, g2⟩ := hg i g' caps ps' rfl hg'
    refine ⟨cl, vs, ps', fnr f, ?_, g1, hs, rv.mono kv ix⟩
    have : ∀ {cl : List (Str × Addr)} {vs : List V}, CelR w cl vs → (∀ q ∈ cl, q.2 ∈ ps') → CelR w' cl vs := by
      intro cl vs ce
      induction ce with
      | nil => intro _; exact .nil
      | cons hd tl ih =>
        intro hs
        obtain ⟨n, o, u, e, z⟩ := hd
        obtain ⟨k1, k2⟩ := g2 _ (hs _ List.mem_cons_self) _ n e
        exact .cons ⟨k2, o, u, k1, z⟩ (ih fun q hq => hs q (List.mem_cons_of_mem _ hq))
    exact this ce hs
/-- all that is known where a lambda is handed on -/
structure LH (Γ : Cfg) (w : Wd) (k : Nat) (f : Addr) (i g : Nat) (ps : List Addr) (qf : Addr → Option Obj) : Prop where
  r : Rel Γ w
  hk : w.ι[k]? = some f
  hs : w.S[k]? = some (.sfn i 0 [])
  off : Off qf w.H
  dom : ∀ b o, qf b = some o → b ∈ ps
  all : ∀ b ∈ ps, ∃ o, qf b = some o
  ne : ∀ b o, qf b = some o → CNe b o
  gn : ∀ (k i' : Nat) (c : List A), w.S[k]? ≠ some (Ob.fn i' g c)
def Wd.lam (w : Wd) (k i g : Nat) (caps : List A) (ps : List Addr) (qf : Addr → Option Obj) : Wd := ⟨w.ι, w.S.set k (.fn i g caps), trk w.H qf, ⟨w.x.sc, fun g' => if g' = g then some ps else w.x.gs g'⟩⟩
section
variable {Γ : Cfg} {w w' : Wd} {k : Nat} {f : Addr} {i g : Nat} {caps : List A} {ps : List Addr} {qf : Addr → Option Obj}
theorem lam_lv (h : LH Γ w k f i g ps qf) {b : Addr} (z : (w.lam k i g caps ps qf).Lv b) : w.Lv b := by
  rcases z with ⟨j, q, h1, h2, h3⟩ | z
  · by_cases hj : j = k
    · subst hj
      exact .inl ⟨j, _, h1, h.hs, rfl⟩
    · have h2 : (w.S.set k (.fn i g caps))[j]? = some q := h2
      rw [List.getElem?_set_ne (Ne.symm hj)] at h2
      exact .inl ⟨j, q, h1, h2, h3⟩
  · exact .inr z
theorem lam_H (h : LH Γ w k f i g ps qf) {b : Addr} {u : HO} (e : w.H b = some u) : (w.lam k i g caps ps qf).H b = some u := by
  show trk w.H qf b = some u
  rw [trk_off (h.off.none e)]; exact e
theorem lam_kv (h : LH Γ w k f i g ps qf) : Kv w (w.lam k i g caps ps qf) := fun a o n e t => ⟨.inl (lam_H h e), fun z => n (lam_lv h z)⟩
theorem lam_code (h : LH Γ w k f i g ps qf) {c : Addr} {x : Str} (n : ¬ w.Lv c) (e : w.H c = some (CodeO c x)) : (w.lam k i g caps ps qf).H c = some (CodeO c x) ∧ ¬ (w.lam k i g caps ps qf).Lv c := ⟨lam_H h e, fun z => n (lam_lv h z)⟩
theorem lam_at (h : LH Γ w k f i g ps qf) : (w.lam k i g caps ps qf).S[k]? = some (.fn i g caps) := List.getElem?_set_self (List.getElem?_eq_some_iff.mp h.hs).1
theorem lam_off (h : LH Γ w k f i g ps qf) {j : Nat} (hj : j ≠ k) : (w.lam k i g caps ps qf).S[j]? = w.S[j]? := List.getElem?_set_ne (Ne.symm hj)
theorem lam_rel (h : LH Γ w k f i g ps qf) (n : ObR Γ (w.lam k i g caps ps qf) f (.fn i g caps)) : Rel Γ (w.lam k i g caps ps qf) := by
  have r := h.r
  refine ⟨⟨fun g' ps' hg p hp => ?_, fun g1 g2 p1 p2 p h1 h2 hp1 hp2 => ?_, fun t ht => ?_⟩, fun a ha => ⟨?_, (r.sc a ha).2⟩, ?_, r.inj, fun j a o e1 e2 => ?_⟩
  · have hg : (if g' = g then some ps else w.x.gs g') = some ps' := hg
    split at hg
    · cases hg
      obtain ⟨o, eo⟩ := h.all p hp
      exact ⟨fun z => r.fresh (h.off p o eo) (lam_lv h z), o, trk_at eo, h.ne p o eo⟩
    · obtain ⟨n, o, e, hq⟩ := r.g.gr g' ps' hg p hp
      exact ⟨fun z => n (lam_lv h z), o, lam_H h e, hq⟩
  · have h1 : (if g1 = g then some ps else w.x.gs g1) = some p1 := h1
    have h2 : (if g2 = g then some ps else w.x.gs g2) = some p2 := h2
    have key : ∀ (g' : Nat) (ps' : List Addr), w.x.gs g' = some ps' → p ∈ ps' → p ∈ ps → False := fun g' ps' e q1 q2 => by
      obtain ⟨_, o, e1, _⟩ := r.g.gr g' ps' e p q1
      obtain ⟨o', e2⟩ := h.all p q2
      rw [h.off p o' e2] at e1
      cases e1
    split at h1
    · rename_i z1
      split at h2
      · rename_i z2
        rw [z1, z2]
      · cases h1
        exact (key g2 p2 h2 hp2 hp1).elim
    · split at h2
      · cases h2
        exact (key g1 p1 h1 hp1 hp2).elim
      · exact r.g.gd g1 g2 p1 p2 p h1 h2 hp1 hp2
  · obtain ⟨tp, h1, h2, h3⟩ := r.g.tb t ht
    refine ⟨tp, lam_H h h1, h2, fun pos cv hc => ?_⟩
    obtain ⟨c, e1, e2⟩ := h3 pos cv hc
    exact ⟨c, e1, lam_H h e2⟩
  · obtain ⟨⟨o, e, z⟩, _⟩ := r.sc a ha
    exact ⟨o, lam_H h e, z⟩
  · show w.ι.length = (w.S.set k (.fn i g caps)).length
    simp [r.len]
  · by_cases hj : j = k
    · subst hj
      rw [lam_at h] at e2
      cases e2
      have e1 : w.ι[j]? = some a := e1
      rw [h.hk] at e1
      cases e1
      exact n
    · rw [lam_off h hj] at e2
      refine (r.at_ j a o e1 e2).tr (lam_kv h) (fun _ _ z => z) (fun u e => lam_H h e) (fun c x n e => lam_code h n e) fun i' g' caps' ps' eo hg => ⟨?_, fun p hp u np e => ⟨lam_H h e, fun z => np (lam_lv h z)⟩⟩
      show (if g' = g then some ps else w.x.gs g') = some ps'
      rw [if_neg fun z => ?_]
      · exact hg
      · subst z
        rw [eo] at e2
        exact h.gn j i' caps' e2
/-! ### behind it -/
def Wd.lback (w' w : Wd) (k i g : Nat) (qf : Addr → Option Obj) : Wd := ⟨w'.ι, (susp g w'.S).set k (.sfn i 0 []), untr w'.H qf, ⟨w'.x.sc, w.x.gs⟩⟩
theorem lam_gs (e : Ex (w.lam k i g caps ps qf) w') : w'.x.gs g = some ps := by
  rw [e.gx]
  show (if g = g then some ps else _) = _
  rw [if_pos rfl]
theorem lam_on (h : LH Γ w k f i g ps qf) (rl : Rel Γ (w.lam k i g caps ps qf)) (e : Ex (w.lam k i g caps ps qf) w') : On qf w'.H := fun b o q => by
  obtain ⟨n, o', e1, _⟩ := rl.g.gr g ps (by show (if g = g then some ps else _) = _; rw [if_pos rfl]) b (h.dom b o q)
  have e2 : (w.lam k i g caps ps qf).H b = some (CellO b o) := trk_at q
  exact (e.kp.is n e2 rfl).1
theorem lback_lv (h : LH Γ w k f i g ps qf) (e : Ex (w.lam k i g caps ps qf) w') {b : Addr} (z : (w'.lback w k i g qf).Lv b) : w'.Lv b := by
  have sk := e.lk k _ (lam_at h) rfl
  rcases z with ⟨j, q, h1, h2, h3⟩ | z
  · by_cases hj : j = k
    · subst hj
      exact .inl ⟨j, _, h1, sk, rfl⟩
    · have h2 : ((susp g w'.S).set k (.sfn i 0 []))[j]? = some q := h2
      rw [List.getElem?_set_ne (Ne.symm hj)] at h2
      unfold susp at h2
      rw [List.getElem?_map] at h2
      obtain ⟨o', e1, e2⟩ := Option.map_eq_some_iff.mp h2
      rw [← e2, susO_live] at h3
      exact .inl ⟨j, o', h1, e1, h3⟩
  · exact .inr z
theorem lback_ex (h : LH Γ w k f i g ps qf) (e : Ex (w.lam k i g caps ps qf) w') : Ex w (w'.lback w k i g qf) := by
  have r := h.r
  have sk := e.lk k _ (lam_at h) rfl
  refine ⟨rfl, fun a ha => ⟨(e.sx a ha).1, ?_⟩, e.ix, fun a o n ea t => ?_, fun j o hs l => ?_, fun j o a hs l ea => ?_⟩
  · obtain ⟨⟨o, e1, _⟩, _⟩ := r.sc a ha
    have q := h.off.none e1
    show untr w'.H qf a = w.H a
    rw [untr_off q, (e.sx a ha).2]
    exact trk_off q
  · have q := h.off.none ea
    obtain ⟨h1, h2⟩ := e.kp a o (fun z => n (lam_lv h z)) (lam_H h ea) t
    refine ⟨?_, fun z => h2 (lback_lv h e z)⟩
    show (untr w'.H qf a = some o ∨ ∃ ob, _ ∧ untr w'.H qf a = _)
    rw [untr_off q]
    exact h1
  · show ((susp g w'.S).set k (.sfn i 0 []))[j]? = some o
    by_cases hj : j = k
    · subst hj
      rw [h.hs] at hs
      cases hs
      exact List.getElem?_set_self (by rw [susp_length]; exact (List.getElem?_eq_some_iff.mp sk).1)
    · rw [List.getElem?_set_ne (Ne.symm hj)]
      have z := e.lk j o (by rw [lam_off h hj]; exact hs) l
      unfold susp
      rw [List.getElem?_map, z]
      show some (susO g o) = some o
      cases o with
      | fn i' g' c' =>
        show some (if g' = g then Ob.sfn i' g' c' else Ob.fn i' g' c') = _
        rw [if_neg fun y => h.gn j i' c' (by rw [← y]; exact hs)]
      | _ => rfl
  · obtain ⟨u, e1⟩ := r.there ea
    have q := h.off.none e1
    show untr w'.H qf a = w.H a
    have z : w'.H a = (w.lam k i g caps ps qf).H a := by
      by_cases hj : j = k
      · subst hj
        exact e.fx j _ a (lam_at h) rfl ea
      · exact e.fx j o a (by rw [lam_off h hj]; exact hs) l ea
    rw [untr_off q, z]
    exact trk_off q
theorem lback_kv (h : LH Γ w k f i g ps qf) (e : Ex (w.lam k i g caps ps qf) w') (on : On qf w'.H) : Kv w' (w'.lback w k i g qf) := fun a o n ea t => ⟨.inl (by
  show untr w'.H qf a = some o
  rw [untr_off (on.none ea fun o' z => by rw [z] at t; cases t)]
  exact ea), fun z => n (lback_lv h e z)⟩
theorem lback_rel (h : LH Γ w k f i g ps qf) (e : Ex (w.lam k i g caps ps qf) w') (r' : Rel Γ w') (on : On qf w'.H) : Rel Γ (w'.lback w k i g qf) := by
  have r := h.r
  have ex := lback_ex h e
  have q : QF w' ps qf := ⟨fun b o z => ⟨h.dom b o z, on b o z⟩, h.all⟩
  have rS := sus_rel r' (lam_gs e) q
  have kv : Kv (w'.sus g qf) (w'.lback w k i g qf) := fun a o n ea _ => ⟨.inl ea, fun z => n (sus_lv.mpr (lback_lv h e z))⟩
  refine ⟨r.g.ex ex rS.g.tb, rS.sc, ?_, rS.inj, fun j a o h1 h2 => ?_⟩
  · show w'.ι.length = ((susp g w'.S).set k (.sfn i 0 [])).length
    rw [List.length_set]
    exact rS.len
  · have h2 : ((susp g w'.S).set k (.sfn i 0 []))[j]? = some o := h2
    by_cases hj : j = k
    · subst hj
      have sk := e.lk j _ (lam_at h) rfl
      rw [List.getElem?_set_self (by rw [susp_length]; exact (List.getElem?_eq_some_iff.mp sk).1)] at h2
      cases h2
      have h1 : w'.ι[j]? = some a := h1
      rw [e.ix j f h.hk] at h1
      cases h1
      obtain ⟨cl, vs, fr, rv⟩ := r.at_ j f _ h.hk h.hs
      exact ⟨cl, vs, fr.mono ex.kp (ex.fx j _ f h.hs rfl h.hk), rv.ex ex⟩
    · rw [List.getElem?_set_ne (Ne.symm hj)] at h2
      refine (rS.at_ j a o h1 h2).tr kv (fun _ _ z => z) (fun _ z => z) (fun c x n z => ⟨z, fun y => n (sus_lv.mpr (lback_lv h e y))⟩) fun i' g' caps' ps' _ hg => ⟨?_, fun p _ u np z => ⟨z, fun y => np (sus_lv.mpr (lback_lv h e y))⟩⟩
      have hg : (if g' = g then none else w'.x.gs g') = some ps' := hg
      split at hg
      · cases hg
      · rename_i hne
        rw [e.gx] at hg
        have hg : (if g' = g then some ps else w.x.gs g') = some ps' := hg
        rw [if_neg hne] at hg
        exact hg
end
theorem nodup_of {α : Type} : ∀ {l : List α}, (∀ (i j : Nat) a, l[i]? = some a → l[j]? = some a → i = j) → l.Nodup
  | [], _ => .nil
  | x :: r, h => by
    refine List.nodup_cons.mpr ⟨fun z => ?_, nodup_of fun i j a h1 h2 => ?_⟩
    · obtain ⟨k, hk⟩ := List.getElem?_of_mem z
      have := h 0 (k + 1) x rfl (by simpa using hk)
      cases this
    · have := h (i + 1) (j + 1) a (by simpa using h1) (by simpa using h2)
      omega
theorem paired_mk {α β : Type} {R : α → β → Prop} : ∀ {xs : List α} {ys : List β}, xs.length = ys.length → (∀ (i : Nat) x y, xs[i]? = some x → ys[i]? = some y → R x y) → Paired R xs ys
  | [], [], _, _ => .nil
  | [], _ :: _, h, _ => by simp at h
  | _ :: _, [], h, _ => by simp at h
  | x :: xs, y :: ys, h, k => .cons (k 0 x y rfl rfl) (paired_mk (by simpa using h) fun i x y h1 h2 => k (i + 1) x y (by simpa using h1) (by simpa using h2))
/-- what the maker's text tells of lambda i -/
structure LmK (X : Cx) (i : Nat) (js : List Nat) : Prop where
  ex : ∃ L, LT.lm i = some L ∧ L.fr.Nodup ∧ (cloFrom X.env.cells L.scope.names []).map Prod.fst = L.fr ∧ js.map (fun j => X.N[j]?) = L.fr.map some
    ∧ (∀ y ∈ L.scope.names, y.2 = .free → X.env.scope.names.lookup y.1 = some .cell ∨ X.env.scope.names.lookup y.1 = some .free) ∧ (∀ y ∈ L.fr, (y, NameKind.free) ∈ L.scope.names) ∧ ∀ y ∈ L.fr, X.fn y = true
theorem cell_cne {P : Program} {w : World} {H : Hp} {h : Heap} {b : Addr} {o : Obj} {u : Option Value} (e : h.get? b = some o) (d : o.data = .cell u) : CNe b o := by
  refine ⟨fun q z => ?_, fun L cl c z => ?_⟩
  · have z2 : (fun h : Heap => h.get? b = some o) = fun h => ∃ (oc : Obj) (vs : Array Value) (t : Tok), h.get? b = some oc ∧ oc.data = .fields vs ∧ vs[1]? = some (.str q t) := HO.ext.inj z
    have z3 : ∃ (oc : Obj) (vs : Array Value) (t : Tok), h.get? b = some oc ∧ oc.data = .fields vs ∧ vs[1]? = some (.str q t) := by
      rw [← congrFun z2 h]; exact e
    obtain ⟨oc, vs, t, e1, e2, _⟩ := z3
    rw [e] at e1
    cases e1
    rw [d] at e2
    cases e2
  · have z2 : (fun h : Heap => h.get? b = some o) = fun h => ∃ pm ctv, h.get? b = some (PySem.W.kla_obj "<lambda>" L.qual L.params L.body L.scope cl pm c ctv) := HO.ext.inj z
    have z3 : ∃ pm ctv, h.get? b = some (PySem.W.kla_obj "<lambda>" L.qual L.params L.body L.scope cl pm c ctv) := by
      rw [← congrFun z2 h]; exact e
    obtain ⟨pm, ctv, e1⟩ := z3
    rw [e] at e1
    cases e1
    cases d
section
variable {X : Cx} {G : Gs} {W : WX} {n j : Nat} {F : List A → M A} {x : Str} {e : Expr} {es : List Expr} {ml : Lo → M (List A)} {p pos : Pos}
open Classical in
theorem run_L0 {pins : List (Addr × Obj)} {σ : L2.St} {ρ : Lo} {w : Wd} {s : Shared} {Q : VK} {us : List Value} {vs : List V} {as : List A} {i k : Nat} {js : List Nat} {f0 f cc : Addr} {L : Lm} {caps : List A} (c : FnA X.prog X.w X.K X.mg X.base n f0 F) (hr : Room j X.A) (hn : n ≤ j) (tk : Takes X W) (I : Inv X pins σ w.H s) (st : Sta (cf X) G w ρ σ) (rvs : Rvs (cf X) w as vs) (r : Vals vs us) (lk : LmK X i js)
    (ow : OwnL w ⟨k, i, f, cc, L, cloFrom X.env.cells L.scope.names []⟩) (hc : capsOf ρ js = some caps) (o : Out (cf X) W σ (Rv (cf X)) w Q (behL k (freshG w.S) i (F as (w.S.set k (.fn i (freshG w.S) caps))))) : wpAny (model X.prog X.w) X.A (call (.ref f0) us) (EP X pins σ Q) X.xe s := by
  obtain ⟨hi, hs, hL, hF, nC, hC⟩ := ow
  have hi : w.ι[k]? = some f := hi
  have hs : w.S[k]? = some (.sfn i 0 []) := hs
  have hL : LT.lm i = some L := hL
  have hF : w.H f = some (LmO f L (cloFrom X.env.cells L.scope.names []) cc) := hF
  have nC : ¬ w.Lv cc := nC
  have hC : w.H cc = some (CodeO cc L.qual) := hC
  obtain ⟨L', hL', hnd, hfst, hjs, hfree, hfr, hfn⟩ := lk.ex
  rw [hL] at hL'
  cases hL'
  obtain ⟨vc, rc, hvc⟩ := capsOf_ok st.loc hc
  have rl := st.rel
  have cp : NdefX.Caps X (cloFrom X.env.cells L.scope.names []) L.fr js := NdefX.Caps.made I.ok hfree hfr hjs
  have ca := NdefX.cells_of I cp
  rw [hvc] at ca
  generalize hcl : cloFrom X.env.cells L.scope.names [] = cl at *
  have ndf : (cl.map Prod.fst).Nodup := by rw [hfst]; exact hnd
  have look : ∀ (k : Nat) (q : Str × Addr), cl[k]? = some q → cl.lookup q.1 = some q.2 := fun k q hq => lookup_at ndf hq
  have mem : ∀ b, b ∈ cl.map Prod.snd → ∃ y, y ∈ L.fr ∧ cl.lookup y = some b ∧ X.env.cells.lookup y = some b := fun b hb => by
    obtain ⟨q, hq, rfl⟩ := List.mem_map.mp hb
    obtain ⟨k, hk⟩ := List.getElem?_of_mem hq
    have h1 := look k q hk
    exact ⟨q.1, by rw [← hfst]; exact List.mem_map.mpr ⟨q, hq, rfl⟩, h1, cp.sub _ _ h1⟩
  let qf : Addr → Option Obj := fun b => if b ∈ cl.map Prod.snd then s.heap.get? b else none
  have qd : ∀ b o, qf b = some o → b ∈ cl.map Prod.snd ∧ s.heap.get? b = some o := fun b o hq => by
    have hq : (if b ∈ cl.map Prod.snd then s.heap.get? b else none) = some o := hq
    split at hq
    · rename_i hm; exact ⟨hm, hq⟩
    · cases hq
  have qc : ∀ b ∈ cl.map Prod.snd, ∃ o u, qf b = some o ∧ o.data = .cell u := fun b hb => by
    obtain ⟨y, _, h1, h2⟩ := mem b hb
    obtain ⟨v, o, e1, e2⟩ := I.cell y b h2
    exact ⟨o, v, by show (if b ∈ cl.map Prod.snd then s.heap.get? b else none) = _; rw [if_pos hb]; exact e1, e2⟩
  have raw : Raw qf s.heap := fun b o hq => (qd b o hq).2
  have off : Off qf w.H := fun b o hq => by
    obtain ⟨y, _, _, h2⟩ := mem b (qd b o hq).1
    exact I.freeC y b h2
  have dat : ∀ b o, qf b = some o → ∃ u, o.data = .cell u := fun b o hq => by
    obtain ⟨o', u, h1, h2⟩ := qc b (qd b o hq).1
    rw [hq] at h1
    cases h1
    exact ⟨u, h2⟩
  have big : ∀ b o, qf b = some o → X.s_0.heap.objs.size ≤ b := fun b o hq => by
    obtain ⟨y, h0, _, h2⟩ := mem b (qd b o hq).1
    exact I.ok.cab y b (hfn y h0) h2
  have nb : ∀ b o, qf b = some o → X.base.get? b = none := fun b o hq => by
    cases hb : X.base.get? b with
    | none => rfl
    | some o' =>
      have := Heap.lt_size (I.ok.bs b o' hb).1
      exact absurd (big b o hq) (Nat.not_le_of_lt this)
  have nfr : ∀ b o, qf b = some o → b ∉ frs X.stack := fun b o hq hb => by
    have no : b ∉ frs X.outer := fun hm => by
      obtain ⟨_, o', e', _⟩ := I.ok.funs.mem hm
      exact absurd (big b o hq) (Nat.not_le_of_lt (Heap.lt_size e'))
    rcases I.ok.stk with hs | ⟨hs, hf⟩
    · rw [hs] at hb; exact no hb
    · rw [hs] at hb
      have hb : b ∈ (X.env :: X.outer).filterMap (·.frame) := hb
      rw [List.filterMap_cons, hf] at hb
      rcases List.mem_cons.mp hb with hb | hb
      · subst hb
        obtain ⟨m, ⟨o', es', ep, e1, e2, _⟩, _⟩ := I.loc
        obtain ⟨u, hu⟩ := dat _ o hq
        rw [(qd _ o hq).2] at e1
        cases e1
        rw [hu] at e2
        cases e2
      · exact no hb
  have lh : LH (cf X) w k f i (freshG w.S) (cl.map Prod.snd) qf := by
    refine ⟨rl, hi, hs, off, fun b o hq => (qd b o hq).1, fun b hb => ?_, fun b o hq => ?_, fun k i' c hk => ?_⟩
    · obtain ⟨o, u, h1, _⟩ := qc b hb
      exact ⟨o, h1⟩
    · obtain ⟨u, hu⟩ := dat b o hq
      exact cell_cne (P := X.prog) (w := X.w) (H := w.H) (qd b o hq).2 hu
    · have := freshG_le hk
      exact absurd this (Nat.not_succ_le_self _)
  have hkv := lam_kv (caps := caps) lh
  have cel : CelR (w.lam k i (freshG w.S) caps (cl.map Prod.snd) qf) cl vc := by
    refine paired_mk ?_ fun k q v hq hv => ?_
    · have h1 := ca.len
      rw [List.length_map] at h1
      have h2 := congrArg List.length hfst
      rw [List.length_map] at h2
      omega
    · have hy : L.fr[k]? = some q.1 := by rw [← hfst, List.getElem?_map, hq] <;> rfl
      obtain ⟨c', hc1, hc2⟩ := ca.has k q.1 hy
      rw [look k q hq] at hc1
      cases hc1
      obtain ⟨u, ru, o', e1, e2⟩ := hc2 v (by rw [List.getElem?_map, hv] <;> rfl)
      have hb : q.2 ∈ cl.map Prod.snd := List.mem_map.mpr ⟨q, List.mem_of_getElem? hq, rfl⟩
      have hqf : qf q.2 = some o' := by show (if q.2 ∈ cl.map Prod.snd then s.heap.get? q.2 else none) = _; rw [if_pos hb]; exact e1
      refine ⟨fun z => ?_, o', u, trk_at hqf, e2, ru⟩
      exact rl.fresh (off _ _ hqf) (lam_lv lh z)
  have nds : (cl.map Prod.snd).Nodup := nodup_of fun a b z h1 h2 => by
    rw [List.getElem?_map] at h1 h2
    obtain ⟨q1, k1, rfl⟩ := Option.map_eq_some_iff.mp h1
    obtain ⟨q2, k2, e2⟩ := Option.map_eq_some_iff.mp h2
    have l1 := look _ _ k1
    have l2 := look _ _ k2
    rw [e2] at l2
    have e3 := I.ok.inj _ _ _ (cp.sub _ _ l1) (cp.sub _ _ l2)
    have m1 : (cl.map Prod.fst)[a]? = some q1.1 := by rw [List.getElem?_map, k1] <;> rfl
    have m2 : (cl.map Prod.fst)[b]? = some q1.1 := by rw [List.getElem?_map, k2, e3] <;> rfl
    exact nodup_ix ndf m1 m2
  have rl1 : Rel (cf X) (w.lam k i (freshG w.S) caps (cl.map Prod.snd) qf) := by
    refine lam_rel lh ⟨cl, vc, cl.map Prod.snd, ⟨L, cc, hL, lam_H lh hF, (lam_code lh nC hC).2, (lam_code lh nC hC).1, hfst, nds⟩, cel, ?_, fun q hq => List.mem_map.mpr ⟨q, hq, rfl⟩, rc.mono hkv fun _ _ z => z⟩
    show (if freshG w.S = freshG w.S then _ else _) = _
    rw [if_pos rfl]
  have rva := rvs.mono hkv fun _ _ z => z
  obtain ⟨fd, ps, fk, b⟩ := c.ex
  have hh : spA (cf X) F vs (trk w.H qf) (fun v H' => On qf H' ∧ Q v (untr H' qf)) (fun c d H' => On qf H' ∧ WE W σ c d (untr H' qf)) := by
    refine ⟨w.lam k i (freshG w.S) caps (cl.map Prod.snd) qf, as, rfl, rl1, rva, ?_⟩
    show outF _ _ _ _ (F as (w.S.set k (.fn i (freshG w.S) caps)))
    cases er : F as (w.S.set k (.fn i (freshG w.S) caps)) with
    | ok a S' =>
      rw [er] at o
      intro w' v hs ex r' rva
      have on := lam_on lh rl1 ex
      exact ⟨on, o (w'.lback w k i (freshG w.S) qf) v (by rw [← hs]; rfl) (lback_ex lh ex) (lback_rel lh ex r' on) (rva.mono (lback_kv lh ex on) fun _ _ z => z)⟩
    | ex C fs S' =>
      rw [er] at o
      intro w' d hs ex r' rva
      have on := lam_on lh rl1 ex
      exact ⟨on, o (w'.lback w k i (freshG w.S) qf) d (by rw [← hs]; rfl) (lback_ex lh ex) (lback_rel lh ex r' on) (rva.mono (lback_kv lh ex on) fun _ _ z => z)⟩
    | no => rw [er] at o; exact o.elim
  have hl : us.length = ps.length := by rw [← r.length]; exact fk.len _ _ _ _ hh
  have hb := b s us I.kIn (by rw [List.append_nil]; exact hl)
  rw [List.append_nil] at hb
  refine wpAny_call (codeAny_mono (fk.run X.A X.stack s (trk w.H qf) ⟨us, []⟩ us vs _ _ (hr.mono hn) (env0_trk I.env0 raw off nfr nb) hb r hh) fun rr s' hq => ?_)
  have hq := cr_untr (Q' := Q) (E' := WE W σ) raw off nfr (fun v H' z => z) (fun c d H' z => z) hq
  cases rr with
  | error e => exact passAt tk σ pins w.H s e s' I hq
  | ok fl =>
    cases fl with
    | ret u => exact I.after hq
    | next => exact False.elim hq
    | brk => exact False.elim hq
    | cont => exact False.elim hq
theorem run_L1 {pins : List (Addr × Obj)} {σ : L2.St} {ρ : Lo} {w : Wd} {s : Shared} {Q : VK} {us : List Value} {vs : List V} {as : List A} {i jp k : Nat} {js : List Nat} {f0 : Addr} {caps : List A} (c : FnA X.prog X.w X.K X.mg X.base n f0 F) (hr : Room j X.A) (hn : n ≤ j) (tk : Takes X W) (I : Inv X pins σ w.H s) (st : Sta (cf X) G w ρ σ) (rv : RvM X jp i w as vs) (r : Vals vs us) (lk : LmK X i js)
    (ha : as[jp]? = some (.ref k)) (hc : capsOf ρ js = some caps) (o : Out (cf X) W σ (Rv (cf X)) w Q (behL k (freshG w.S) i (F as (w.S.set k (.fn i (freshG w.S) caps))))) : wpAny (model X.prog X.w) X.A (call (.ref f0) us) (EP X pins σ Q) X.xe s := by
  obtain ⟨k', f, L, cc, ha', hi, hs, hL, hF, nC, hC⟩ := rv.ex
  rw [ha] at ha'
  cases ha'
  exact run_L0 c hr hn tk I st rv.rv r lk ⟨hi, hs, hL, hF, nC, hC⟩ hc o
theorem ae_callL {i jp : Nat} {js : List Nat} (c : ClA X.prog X.w X.K X.mg X.base n x F) (hr : Room j X.A) (hn : n ≤ j) (hg : Gl X x) (lk : LmK X i js) (ha : AL X G jp i (e :: es) ml) (hdb : (x == ("__debug__" : Str)) = false := by decide) (he : starEach (e :: es) X.env = (false, eval e X.env) :: starEach es X.env := by rfl) (hpl : (backTo pos (starEach es X.env)).any (·.1) = false := by rfl) :
    AE X G (.Call (.Name x p) (e :: es) [] pos) (callL F i jp js ml) := fun W tk => ⟨fun pins s σ H Q I h => by
  obtain ⟨f, hm, kp, fa⟩ := c.ex
  refine wpAny_Call_Name_kw (ld_glob I hg hm ?_ hdb)
  refine PySem.W.callWith_K (h₀ := X.base) I.ok.mod.kin kp (thn ((ha W tk).run pos pins s σ H _ I (aG_step (R := RvM X jp i) (Q' := fun vs H1 => ∃ w1 ρ as k caps, w1.H = H1 ∧ Sta (cf X) G w1 ρ σ ∧ RvM X jp i w1 as vs ∧ as[jp]? = some (.ref k) ∧ capsOf ρ js = some caps ∧ Out (cf X) W σ (Rv (cf X)) w1 Q (behL k (freshG w1.S) i (F as (w1.S.set k (.fn i (freshG w1.S) caps))))) (k := fun as ρ S => match as[jp]? with
    | some (.ref k) => match capsOf ρ js with
      | some caps => behL k (freshG S) i (F as (S.set k (.fn i (freshG S) caps)))
      | none => .no
    | _ => .no) h fun w1 ρ as vs st1 rv o => ?_)) fun us s1 ⟨vs, H1, I1, r, w1, ρ, as, k, caps, e1, st1, rv, q1, q2, o⟩ => ⟨I1.kIn, ?_⟩) he hpl
  · obtain ⟨k, f, L, cc, ha', _⟩ := rv.ex
    simp only [ha'] at o
    cases q2 : capsOf ρ js with
    | none => simp only [q2] at o; exact o.elim
    | some caps =>
      simp only [q2] at o
      exact ⟨w1, ρ, as, k, caps, rfl, st1, rv, ha', q2, o⟩
  · subst e1
    exact run_L1 fa hr hn tk I1 st1 rv r lk q1 q2 o⟩
/-- what an expression leaves behind is dropped where nobody has it -/
noncomputable def trimE (m : Lo → M A) (ρ : Lo) : M A := fun S => match m ρ S with
  | .ok a S' => if a.bel S.length = true then .ok a (trim S S') else .ok a S'
  | .ex C fs S' => if belf S.length fs = true then .ex C fs (trim S S') else .ex C fs S'
  | .no => .no
theorem ae_trim {m : Lo → M A} (h : AE X G e m) : AE X G e (trimE m) := fun W tk => (h W tk).imp fun σ H Q q => by
  obtain ⟨w, ρ, rfl, st, o⟩ := q
  refine ⟨w, ρ, rfl, st, ?_⟩
  unfold trimE at o
  cases er : m ρ w.S with
  | ok a S' =>
    simp only [er] at o
    intro w' b hs ex r' rv
    split at o
    · rename_i hb
      obtain ⟨w2, h1, h2, h3, h4, h5⟩ := cut_trim st.rel ex r' hs
      have q := o w2 b h1 h3 h4 (h5 _ _ rv hb)
      rw [h2] at q
      exact q
    · exact o w' b hs ex r' rv
  | ex C fs S' =>
    simp only [er] at o
    intro w' d hs ex r' rv
    split at o
    · rename_i hb
      obtain ⟨w2, h1, h2, h3, h4, h5⟩ := cut_trim st.rel ex r' hs
      have q := o w2 d h1 h3 h4 (h5 _ _ rv hb)
      rw [h2] at q
      exact q
    · exact o w' d hs ex r' rv
  | no => simp only [er] at o; exact o
end
end FL

/-! ## A28: a text's lambdas, their makers, the head with tables of code objects -/
namespace FL
open PySem PySem.Spec PyProof.Rows L2 LamX
/-! ### places in a text -/
def kidsE : Expr → List Expr
  | .BoolOp _ vs _ => vs
  | .NamedExpr t v _ => [t, v]
  | .BinOp a _ b _ => [a, b]
  | .UnaryOp _ a _ => [a]
  | .Lambda _ b _ _ => [b]
  | .IfExp c a b _ => [c, a, b]
  | .Dict _ vs _ => vs
  | .ListComp e _ _ _ => [e]
  | .DictComp k v _ _ _ => [k, v]
  | .Compare l _ rs _ => l :: rs
  | .Call f as _ _ => f :: as
  | .Attribute v _ _ => [v]
  | .Subscript v s _ => [v, s]
  | .List es _ => es
  | .Tuple es _ _ => es
  | _ => []
def exprsS : Stmt → List Expr
  | .Return (some v) _ => [v]
  | .Assign _ v _ => [v]
  | .AugAssign _ _ v _ => [v]
  | .For _ i _ _ _ => [i]
  | .While t _ _ _ => [t]
  | .If t _ _ _ => [t]
  | .Raise (some e) _ _ => [e]
  | .Expr v _ => [v]
  | _ => []
def blocksS : Stmt → List (List Stmt)
  | .For _ _ b o _ => [b, o]
  | .While _ b o _ => [b, o]
  | .If _ b o _ => [b, o]
  | .With _ b _ => [b]
  | .Try b hs o f _ => b :: o :: f :: hs.map fun h => match h with | .ExceptHandler _ _ b _ => b
  | _ => []
def noE : Expr := .Name "" ⟨0, 0, 0, 0⟩
def noSt : Stmt := .Pass ⟨0, 0, 0, 0⟩
def goE : List Nat → Expr → Expr
  | [], e => e
  | i :: r, e => goE r ((kidsE e).getD i noE)
/-- statement i of the block, then block b of it, .. -/
def goS : List (Nat × Nat) → Nat → List Stmt → Stmt
  | [], i, ss => ss.getD i noSt
  | (i, b) :: r, j, ss => goS r j ((blocksS (ss.getD i noSt)).getD b [])
def lamA : Expr → Arguments
  | .Lambda a _ _ _ => a
  | _ => { posonlyargs := [], args := [], vararg := none, kwonlyargs := [], kw_defaults := [], kwarg := none, defaults := [] }
def lamB : Expr → Expr
  | .Lambda _ b _ _ => b
  | e => e
def lamS (d : Scope) : Expr → Scope
  | .Lambda _ _ s _ => s
  | _ => d
def cloN : List (Str × NameKind) → List Str → List Str
  | [], acc => acc
  | (n, k) :: r, acc => if k == .free then cloN r (n :: acc) else cloN r acc
theorem cloN_ok {cells : List (Str × Addr)} : ∀ (names : List (Str × NameKind)) (acc : List (Str × Addr)), (cloFrom cells names acc).map Prod.fst = cloN names (acc.map Prod.fst)
  | [], acc => rfl
  | (n, k) :: r, acc => by
    unfold cloFrom cloN
    split
    · exact cloN_ok r _
    · exact cloN_ok r acc
/-- the lambda at e, made in a def of the qualified name q (with its locals) -/
def lmOf (d : Stmt) (q : Str) (e : Expr) (fr : List Str) : Lm := ⟨q, lamA e, lamB e, lamS (defScope d) e, fr⟩
def lmChk (L : Lm) (sc : Scope) (N : List Str) (js : List Nat) : Bool := decide L.fr.Nodup && (decide (cloN L.scope.names [] = L.fr) && (decide (js.map (fun j => N[j]?) = L.fr.map some) && ((L.scope.names.all fun y => !decide (y.2 = .free) || (decide (sc.names.lookup y.1 = some .cell) || decide (sc.names.lookup y.1 = some .free))) && L.fr.all fun y => decide ((y, NameKind.free) ∈ L.scope.names))))
variable [LT]
theorem lmK_by {X : Cx} {i : Nat} {js : List Nat} {L : Lm} {sc : Scope} {N : List Str} (hL : LT.lm i = some L) (c : lmChk L sc N js = true) (hs : X.env.scope = sc) (hN : X.N = N) (hf : X.fn = fun _ => true) : LmK X i js := by
  obtain ⟨c1, c⟩ := and_t c
  obtain ⟨c2, c⟩ := and_t c
  obtain ⟨c3, c⟩ := and_t c
  obtain ⟨c4, c5⟩ := and_t c
  refine ⟨L, hL, of_decide_eq_true c1, ?_, by rw [hN]; exact of_decide_eq_true c3, fun y hy hk => ?_, fun y hy => of_decide_eq_true (List.all_eq_true.mp c5 y hy), fun y _ => by rw [hf]⟩
  · rw [cloN_ok]; exact of_decide_eq_true c2
  · have z := List.all_eq_true.mp c4 y hy
    rw [hs]
    simpa [hk] using z
theorem pe_lamK {X : Cx} {i : Nat} {js : List Nat} {c P : Addr} {L : Lm} {pos : Pos} {sc : Scope} {N : List Str} (hL : LT.lm i = some L) (ck : lmChk L sc N js = true) (hs : X.env.scope = sc) (TB : TabB X.base X.mg c P) (hcode : X.env.code = .ref c) (hLq : L.qual = X.env.qual ++ "<lambda>") (hm : (P, L.qual) ∈ LT.tabs X.K) (hu : ∀ p ∈ LT.tabs X.K, ∀ q ∈ LT.tabs X.K, p.1 = q.1 → p.2 = q.2) (hdef : defaultsOf L.params X.env = ([], [])) : PE X (.Lambda L.params L.body L.scope pos) (tLamE X L) :=
  pe_lamE TB hcode hLq hm (fun p hp e => hu p hp _ hm e) hdef fun ok y hy hk => by
    obtain ⟨_, c⟩ := and_t ck
    obtain ⟨_, c⟩ := and_t c
    obtain ⟨_, c⟩ := and_t c
    obtain ⟨c4, _⟩ := and_t c
    have z := List.all_eq_true.mp c4 y hy
    rw [← hs] at z
    have z : X.env.scope.names.lookup y.1 = some .cell ∨ X.env.scope.names.lookup y.1 = some .free := by simpa [hk] using z
    exact z.elim (fun z => ok.has _ (.inl z)) fun z => ok.has _ (.inr z)
theorem clo_nodup {X : Cx} {L : Lm} {js : List Nat} (ok : X.Ok) (hnd : L.fr.Nodup) (hfst : (cloFrom X.env.cells L.scope.names []).map Prod.fst = L.fr) (hjs : js.map (fun j => X.N[j]?) = L.fr.map some)
    (hfree : ∀ y ∈ L.scope.names, y.2 = .free → X.env.scope.names.lookup y.1 = some .cell ∨ X.env.scope.names.lookup y.1 = some .free) (hfr : ∀ y ∈ L.fr, (y, NameKind.free) ∈ L.scope.names) : ((cloFrom X.env.cells L.scope.names []).map Prod.snd).Nodup := by
  have cp : NdefX.Caps X (cloFrom X.env.cells L.scope.names []) L.fr js := NdefX.Caps.made ok hfree hfr hjs
  generalize cloFrom X.env.cells L.scope.names [] = cl at *
  have ndf : (cl.map Prod.fst).Nodup := by rw [hfst]; exact hnd
  have look : ∀ (k : Nat) (q : Str × Addr), cl[k]? = some q → cl.lookup q.1 = some q.2 := fun k q hq => lookup_at ndf hq
  exact nodup_of fun a b z h1 h2 => by
    rw [List.getElem?_map] at h1 h2
    obtain ⟨q1, k1, rfl⟩ := Option.map_eq_some_iff.mp h1
    obtain ⟨q2, k2, e2⟩ := Option.map_eq_some_iff.mp h2
    have l1 := look _ _ k1
    have l2 := look _ _ k2
    rw [e2] at l2
    have e3 := ok.inj _ _ _ (cp.sub _ _ l1) (cp.sub _ _ l2)
    have m1 : (cl.map Prod.fst)[a]? = some q1.1 := by rw [List.getElem?_map, k1] <;> rfl
    have m2 : (cl.map Prod.fst)[b]? = some q1.1 := by rw [List.getElem?_map, k2, e3] <;> rfl
    exact nodup_ix ndf m1 m2
theorem al_lamK {X : Cx} {G : Gs} {i : Nat} {js : List Nat} {L : Lm} {e : Expr} {es : List Expr} {ml : Lo → M (List A)} (lk : LmK X i js) (hL : LT.lm i = some L) (hl : PE X e (tLamE X L)) (hr : AA X G es ml) (hs : starEach (e :: es) X.env = (false, eval e X.env) :: starEach es X.env := by rfl) : AL X G 0 i (e :: es) (lamL i ml) := by
  obtain ⟨L', hL', hnd, hfst, hjs, hfree, hfr, _⟩ := lk.ex
  rw [hL] at hL'
  cases hL'
  exact al_lam hL hfst (fun ok => clo_nodup ok hnd hfst hjs hfree hfr) hl hr hs
/-! ### a def whose code object is known -/
theorem fn_AC {P : Program} {w : World} {K : PySem.W.Frag} {mg : Str → Option Value} {base : Heap} {k : Nat} {x qual : Str} {st : Stmt} {p : Str × Option Str} {fd : FuncData} {N ps : List Str} {m : SM} (F : FnP K x qual st (He.fAd K p) fd) (S : FnScope N ps (defScope st))
    (b : ∀ (A' : Around) (outer : List Env) (s : Shared) (H : Hp) (E : XK), Room k (cxA P w K mg base N qual st (He.fAd K p) (.ref (He.codeOf K p)) A' outer s H E).A → PassesOwn (model P w) (cxA P w K mg base N qual st (He.fAd K p) (.ref (He.codeOf K p)) A' outer s H E).A (cxA P w K mg base N qual st (He.fAd K p) (.ref (He.codeOf K p)) A' outer s H E).env (cxA P w K mg base N qual st (He.fAd K p) (.ref (He.codeOf K p)) A' outer s H E).xe →
      ASs (cxA P w K mg base N qual st (He.fAd K p) (.ref (He.codeOf K p)) A' outer s H E) G0 (defBody st) m) :
    FnK P w K mg base (k + 1) (He.fAd K p) fd ps (fnM ps.length N.length m) := by
  obtain ⟨oc, od, dV, kV, doc, pm, an, cdv, ct, osl, rfl, lk, hcd, _, _⟩ := F.ex
  obtain ⟨c, rfl⟩ := He.codeIn_ref hcd
  have hc : He.codeOf K p = c := He.codeOf_eq lk rfl
  rw [hc] at b
  refine fn_of lk hcd S (fun vs H Q E h => spA_len h) fun A' outer s H vs Q E hr h => ?_
  obtain ⟨wd, as, rfl, rl, rv, o⟩ := h
  refine ⟨_, b A' outer s wd.H E hr (passF rfl) _ takesF, ?_⟩
  unfold fnM at o
  by_cases hl : as.length = ps.length
  · rw [if_pos hl] at o
    exact ⟨wd, _, rfl, ⟨rl, rl_start rv hl, ⟨(fun p hp => nomatch hp), (fun q hq => nomatch hq)⟩, trivial⟩, fin_ok rl rfl o⟩
  · rw [if_neg hl] at o; exact o.elim
/-! ### the hook, with tables left out -/
/-- facts, plain defs, defs that say super(), a check of the law's own, the makers -/
structure HkT where
  d : HkD
  tf : List He.Defn
structure HkT.Says (D : HkT) (h : Heap) (K : PySem.W.Frag) : Prop where
  d : D.d.Says K
  hd : ∀ p ∈ D.tf, PySem.W.codeHdIn K (He.cT K p).1 (He.cT K p).2 = true
  out : ∀ p ∈ D.tf, K.lookup (He.cT K p).2 = none
  empty : ∀ p ∈ D.tf, h.get? (He.cT K p).2 = some { cls := .none, data := .fields #[] }
def HkT.obsG (D : HkT) (n : Nat) (g : Addr → Option Obj) : AlS × Bool := (D.d.obs (He.frT g (asS g n)), He.tabsB g D.tf (He.frT g (asS g n)))
theorem HkT.says_of {D : HkT} {n : Nat} {h : Heap} (e : D.obsG n h.get? = (D.d.val, true)) : D.Says h (He.frT h.get? (asS h.get? n)) := by
  have e1 : D.d.obs (He.frT h.get? (asS h.get? n)) = D.d.val := congrArg Prod.fst e
  have e2 : He.tabsB h.get? D.tf (He.frT h.get? (asS h.get? n)) = true := congrArg Prod.snd e
  have key : ∀ p ∈ D.tf, PySem.W.codeHdIn (He.frT h.get? (asS h.get? n)) (He.cT (He.frT h.get? (asS h.get? n)) p).1 (He.cT (He.frT h.get? (asS h.get? n)) p).2 = true ∧ ∃ o, h.get? (He.cT (He.frT h.get? (asS h.get? n)) p).2 = some o ∧ He.emptyTab o = true := fun p hp => by
    obtain ⟨h3, h4⟩ := and_t (List.all_eq_true.mp e2 p hp)
    refine ⟨h3, ?_⟩
    cases q : h.get? (He.cT (He.frT h.get? (asS h.get? n)) p).2 with
    | none =>
      rw [q] at h4
      cases h4
    | some o =>
      rw [q] at h4
      exact ⟨o, rfl, h4⟩
  exact ⟨HkD.says_of e1, fun p hp => (key p hp).1, fun p hp => by
    obtain ⟨_, o, q, z⟩ := key p hp
    exact He.frT_none q z, fun p hp => by
    obtain ⟨_, o, q, z⟩ := key p hp
    rw [q, He.emptyTab_eq z]⟩
def HkT.hook (D : HkT) (n : Nat) : PySem.W.Hook where
  α := AlS × Bool
  obs := fun s => D.obsG n s.heap.get?
  val := fun _ => (D.d.val, true)
  says := fun _ h => ∃ K : PySem.W.Frag, K.In h ∧ D.Says h K
  of := fun _ _ e => ⟨_, He.frT_in, HkT.says_of e⟩
  keeps := fun _ _ _ ⟨K, hK, c⟩ k => ⟨K, PySem.W.Frag.In.keeps hK k, ⟨c.d, c.hd, c.out, fun p hp => k _ _ (c.empty p hp)⟩⟩
def HkT.ob (D : HkT) (n : Nat) (s : PySem.W.SharedT) : AlS × Bool := D.obsG n (HandSHeadRun.getT s)
theorem HkT.ob_eq (D : HkT) (n : Nat) (s : PySem.W.SharedT) : D.ob n s = (D.hook n).obs s.abs := by
  have e : HandSHeadRun.getT s = s.abs.heap.get? := funext (HandSHeadRun.getT_eq s)
  unfold HkT.ob
  rw [e] <;> rfl
/-! ### tables -/
/-- the makers with the qualified names of their lambdas -/
def tabsOf (mk : List (He.Defn × Str)) (K : PySem.W.Frag) : List (Addr × Str) := mk.map fun p => ((He.cT K p.1).2, p.2)
def tuB (mk : List (He.Defn × Str)) (K : PySem.W.Frag) : Bool := (tabsOf mk K).all fun p => (tabsOf mk K).all fun q => !decide (p.1 = q.1) || decide (p.2 = q.2)
theorem tuB_ok {mk : List (He.Defn × Str)} {K : PySem.W.Frag} (h : tuB mk K = true) : ∀ p ∈ tabsOf mk K, ∀ q ∈ tabsOf mk K, p.1 = q.1 → p.2 = q.2 := fun p hp q hq e => by
  have z := List.all_eq_true.mp (List.all_eq_true.mp h p hp) q hq
  simpa [e] using z
theorem tabs_start {mk : List (He.Defn × Str)} {K : PySem.W.Frag} {H : Hp} (h : ∀ p ∈ (mk.map Prod.fst).map (He.cT K), H p.2 = some (.tbl #[])) : Tabs (tabsOf mk K) H := fun q hq => by
  obtain ⟨p, hp, rfl⟩ := List.mem_map.mp hq
  exact ⟨#[], h _ (List.mem_map.mpr ⟨p.1, List.mem_map.mpr ⟨p, hp, rfl⟩, rfl⟩), trivial, fun pos cv hc => by cases hc⟩
/-- a lambda of no fuel -/
theorem LmA.no {P : Program} {w : World} {K : PySem.W.Frag} {mg : Str → Option Value} {base : Heap} {n i : Nat} : LmA P w K mg base n i fun _ => fail := ⟨fun A' outer s wd k g caps as f vs us Q E hr e0 rl hi hs rv r o => by
  unfold lamM at o
  simp only [hs] at o
  exact o.elim⟩
def lfOf (k0 n : Nat) (C : Nat → List A → M A) (i : Nat) : Option (List A → M A) := if i < n then some (C (k0 + i)) else none
theorem lmT_of {P : Program} {w : World} {K : PySem.W.Frag} {mg : Str → Option Value} {base : Heap} {l k0 n : Nat} {C : Nat → List A → M A} (h : ∀ i, i < n → LmA P w K mg base l i (C (k0 + i))) : LmT P w K mg base l (lfOf k0 n C) := fun i F hF => by
  unfold lfOf at hF
  split at hF
  · rename_i hi
    cases hF
    exact h i hi
  · cases hF
end FL

/-! ## A29: the meaning evaluated by simp -/
namespace FL
open PySem L2
variable [LT]
section
variable {α β : Type}
@[simp] theorem x_ret (a : α) (S : Sto) : ret a S = .ok a S := rfl
@[simp] theorem x_fail (S : Sto) : (fail : M α) S = .no := rfl
@[simp] theorem x_bnd (m : M α) (k : α → M β) (S : Sto) : bnd m k S = match m S with
  | .ok a S' => k a S'
  | .ex C fs S' => .ex C fs S'
  | .no => .no := rfl
@[simp] theorem x_guard (c : Prop) [Decidable c] (m : M α) (S : Sto) : guard c m S = if c then m S else .no := rfl
@[simp] theorem x_cst (a : A) (ρ : Lo) : cst a ρ = ret a := rfl
@[simp] theorem x_vr (i : Nat) (ρ : Lo) (S : Sto) : vr i ρ S = match ρ[i]? with
  | some (some a) => .ok a S
  | _ => .no := by
  unfold vr
  cases ρ[i]? with
  | none => rfl
  | some z => cases z <;> rfl
@[simp] theorem x_op2 (f : A → A → M A) (ma mb : Lo → M A) (ρ : Lo) : op2 f ma mb ρ = bnd (ma ρ) fun a => bnd (mb ρ) fun b => f a b := rfl
@[simp] theorem x_op1 (f : A → M A) (ma : Lo → M A) (ρ : Lo) : op1 f ma ρ = bnd (ma ρ) f := rfl
@[simp] theorem x_boolOf (b : Bool) : boolOf (.bl b) = ret b := rfl
@[simp] theorem x_tst (ma : Lo → M A) (ρ : Lo) : tst ma ρ = bnd (ma ρ) boolOf := rfl
@[simp] theorem x_notT (m : Lo → M Bool) (ρ : Lo) : notT m ρ = bnd (m ρ) fun b => ret (!b) := rfl
@[simp] theorem x_andT (m n : Lo → M Bool) (ρ : Lo) : andT m n ρ = bnd (m ρ) fun b => if b = true then n ρ else ret false := rfl
@[simp] theorem x_orT (m n : Lo → M Bool) (ρ : Lo) : orT m n ρ = bnd (m ρ) fun b => if b = true then ret true else n ρ := rfl
@[simp] theorem x_notV (ma : Lo → M A) (ρ : Lo) : notV ma ρ = bnd (ma ρ) fun a => bnd (boolOf a) fun b => ret (.bl (!b)) := rfl
@[simp] theorem x_andV (ma mb : Lo → M A) (ρ : Lo) : andV ma mb ρ = bnd (ma ρ) fun a => bnd (boolOf a) fun b => if b = true then mb ρ else ret (.bl false) := rfl
@[simp] theorem x_orV (ma mb : Lo → M A) (ρ : Lo) : orV ma mb ρ = bnd (ma ρ) fun a => bnd (boolOf a) fun b => if b = true then ret (.bl true) else mb ρ := rfl
@[simp] theorem x_iteE (m : Lo → M Bool) (ma mb : Lo → M A) (ρ : Lo) : iteE m ma mb ρ = bnd (m ρ) fun b => if b = true then ma ρ else mb ρ := rfl
@[simp] theorem x_nilA (ρ : Lo) : nilA ρ = ret [] := rfl
@[simp] theorem x_consA (ma : Lo → M A) (mr : Lo → M (List A)) (ρ : Lo) : consA ma mr ρ = bnd (ma ρ) fun a => bnd (mr ρ) fun r => ret (a :: r) := rfl
@[simp] theorem x_tupM (ml : Lo → M (List A)) (ρ : Lo) : tupM ml ρ = bnd (ml ρ) fun xs => guard (xs.length < 100000) (ret (.tup xs)) := rfl
@[simp] theorem x_lstF (ml : Lo → M (List A)) (ρ : Lo) : lstF ml ρ = bnd (ml ρ) fun xs => guard (xs.length < 100000) (ret (.fl xs)) := rfl
@[simp] theorem x_lstL (ml : Lo → M (List A)) (ρ : Lo) : lstL ml ρ = bnd (ml ρ) fun xs => guard (xs.length < 100000) (newM (.lst xs)) := rfl
@[simp] theorem x_newM (o : Ob) (S : Sto) : newM o S = .ok (.ref S.length) (S ++ [o]) := rfl
@[simp] theorem x_callE (F : List A → M A) (ml : Lo → M (List A)) (ρ : Lo) : callE F ml ρ = bnd (ml ρ) F := rfl
@[simp] theorem x_letG (m : Lo → M α) (k : α → SM) (ρ : Lo) (S : Sto) : letG m k ρ S = match m ρ S with
  | .ok a S' => k a ρ S'
  | .ex C fs S' => .ex C fs ρ S'
  | .no => .no := rfl
@[simp] theorem x_seqS (m n : SM) (ρ : Lo) (S : Sto) : seqS m n ρ S = match m ρ S with
  | .nx ρ' S' => n ρ' S'
  | r => r := rfl
@[simp] theorem x_nextS (ρ : Lo) (S : Sto) : nextS ρ S = .nx ρ S := rfl
@[simp] theorem x_brkS (ρ : Lo) (S : Sto) : brkS ρ S = .bk ρ S := rfl
@[simp] theorem x_cntS (ρ : Lo) (S : Sto) : cntS ρ S = .ct ρ S := rfl
@[simp] theorem x_noS (ρ : Lo) (S : Sto) : noS ρ S = .no := rfl
@[simp] theorem x_retNS (ρ : Lo) (S : Sto) : retNS ρ S = .rt .non S := rfl
@[simp] theorem x_retS (m : Lo → M A) : retS m = letG m fun a _ S => .rt a S := rfl
@[simp] theorem x_dropS (m : Lo → M A) : dropS m = letG m fun _ ρ S => .nx ρ S := rfl
@[simp] theorem x_setS (i : Nat) (m : Lo → M A) : setS i m = letG m fun a ρ S => .nx (ρ.set i (some a)) S := rfl
@[simp] theorem x_ifS (c : Lo → M Bool) (m n : SM) : ifS c m n = letG c fun b => if b = true then m else n := rfl
@[simp] theorem x_ite_app (b : Bool) (m n : SM) (ρ : Lo) (S : Sto) : (if b = true then m else n) ρ S = if b = true then m ρ S else n ρ S := by cases b <;> rfl
@[simp] theorem x_iteM_app (b : Bool) (m n : M α) (S : Sto) : (if b = true then m else n) S = if b = true then m S else n S := by cases b <;> rfl
@[simp] theorem x_asgN (i : Nat) (a : A) (ρ : Lo) : asgN i a ρ = some (ρ.set i (some a)) := rfl
@[simp] theorem x_asgs0 (ρ : Lo) : asgs [] [] ρ = some ρ := rfl
@[simp] theorem x_asgs1 (t : Tg) (ts : List Tg) (a : A) (as : List A) (ρ : Lo) : asgs (t :: ts) (a :: as) ρ = match t a ρ with
  | some ρ' => asgs ts as ρ'
  | none => none := rfl
@[simp] theorem x_asgT (ts : List Tg) (xs : List A) (ρ : Lo) : asgT ts (.tup xs) ρ = asgs ts xs ρ := rfl
@[simp] theorem x_asgS (t : Tg) (m : Lo → M A) : asgS t m = letG m fun a ρ S => match t a ρ with
  | some ρ' => .nx ρ' S
  | none => .no := rfl
@[simp] theorem x_parS (i j : Nat) (ml : Lo → M (List A)) : parS i j ml = letG ml fun as ρ S => match as with
  | [a, b] => .nx ((ρ.set i (some a)).set j (some b)) S
  | _ => .no := rfl
@[simp] theorem x_fnM (np nl : Nat) (m : SM) (as : List A) (S : Sto) : fnM np nl m as S = if as.length = np then fz S (m (as.map some ++ List.replicate (nl - np) none) S) else .no := rfl
@[simp] theorem x_fz_nx (S : Sto) (ρ : Lo) (S' : Sto) : fz S (.nx ρ S') = .ok .non (trim S S') := rfl
@[simp] theorem x_fz_rt (S : Sto) (a : A) (S' : Sto) : fz S (.rt a S') = if a.bel S.length = true then .ok a (trim S S') else .ok a S' := rfl
@[simp] theorem x_fz_ex (S : Sto) (C : Str) (fs : List (Str × A)) (ρ : Lo) (S' : Sto) : fz S (.ex C fs ρ S') = if belf S.length fs = true then .ex C fs (trim S S') else .ex C fs S' := rfl
/-! ### values -/
@[simp] theorem x_bel_non (n : Nat) : A.non.bel n = true := rfl
@[simp] theorem x_bel_bl (n : Nat) (b : Bool) : (A.bl b).bel n = true := rfl
@[simp] theorem x_bel_int (n : Nat) (b : Int) : (A.int b).bel n = true := rfl
@[simp] theorem x_bel_str (n : Nat) (b : Str) : (A.str b).bel n = true := rfl
@[simp] theorem x_bel_tup (n : Nat) (xs : List A) : (A.tup xs).bel n = bels n xs := rfl
@[simp] theorem x_bel_fl (n : Nat) (xs : List A) : (A.fl xs).bel n = bels n xs := rfl
@[simp] theorem x_bel_fd (n : Nat) (xs : List (A × A)) : (A.fd xs).bel n = belk n xs := rfl
@[simp] theorem x_bel_obj (n : Nat) (C : Str) (fs : List (Str × A)) : (A.obj C fs).bel n = belf n fs := rfl
@[simp] theorem x_bel_ref (n k : Nat) : (A.ref k).bel n = decide (k < n) := rfl
@[simp] theorem x_bels_nil (n : Nat) : bels n [] = true := rfl
@[simp] theorem x_bels_cons (n : Nat) (a : A) (r : List A) : bels n (a :: r) = (a.bel n && bels n r) := rfl
@[simp] theorem x_belf_nil (n : Nat) : belf n [] = true := rfl
@[simp] theorem x_belf_cons (n : Nat) (x : Str) (a : A) (r : List (Str × A)) : belf n ((x, a) :: r) = (a.bel n && belf n r) := rfl
@[simp] theorem x_belk_nil (n : Nat) : belk n [] = true := rfl
@[simp] theorem x_belk_cons (n : Nat) (x a : A) (r : List (A × A)) : belk n ((x, a) :: r) = (a.bel n && belk n r) := rfl
@[simp] theorem x_obel_lst (n : Nat) (xs : List A) : (Ob.lst xs).bel n = bels n xs := rfl
@[simp] theorem x_obel_ins (n : Nat) (C : Str) (fs : List (Str × A)) : (Ob.ins C fs).bel n = belf n fs := rfl
/-! ### stores -/
theorem trim_ok_eq {S S' : Sto} (h : TrimOk S S') : trim S S' = S'.take S.length := by unfold trim; rw [if_pos h]
@[simp] theorem x_trim (S : Sto) : trim S S = S := by
  rw [trim_ok_eq ⟨Nat.le_refl _, fun k o _ h => .inl h⟩]; simp
theorem trim_set {S : Sto} {k : Nat} {o : Ob} (h : o.bel S.length = true) : trim S (S.set k o) = S.set k o := by
  rw [trim_ok_eq ⟨by simp, fun j q hj e => ?_⟩]
  · rw [List.take_of_length_le (by simp)]
  · by_cases hk : k = j
    · subst hk
      rw [List.getElem?_set_self hj] at e
      cases e
      exact .inr h
    · rw [List.getElem?_set_ne hk] at e
      exact .inl e
theorem trim_app {S : Sto} {T : Sto} : trim S (S ++ T) = S := by
  rw [trim_ok_eq ⟨by simp, fun j q hj e => ?_⟩]
  · simp
  · rw [List.getElem?_append_left hj] at e; exact .inl e
theorem trim_last {S : Sto} {o o' : Ob} (h : o'.bel (S.length + 1) = true) : trim (S ++ [o]) (S ++ [o']) = S ++ [o'] := by
  rw [trim_ok_eq ⟨by simp, fun j q hj e => ?_⟩]
  · rw [List.take_of_length_le (by simp)]
  · by_cases hk : j < S.length
    · rw [List.getElem?_append_left hk] at e ⊢; exact .inl e
    · rw [List.getElem?_append_right (by omega)] at e
      have : j - S.length = 0 := by simp at hj; omega
      rw [this] at e
      simp at e
      subst e
      exact .inr (by simpa using h)
@[simp] theorem x_last (S : Sto) (o : Ob) : (S ++ [o])[S.length]? = some o := by simp
@[simp] theorem x_set_last (S : Sto) (o o' : Ob) : (S ++ [o]).set S.length o' = S ++ [o'] := by simp
/-! ### numbers, texts -/
@[simp] theorem x_subA (i j : Int) (S : Sto) : subA (.int i) (.int j) S = .ok (.int (i - j)) S := rfl
@[simp] theorem x_ltM (i j : Int) (S : Sto) : ltM (.int i) (.int j) S = .ok (.bl (decide (i < j))) S := rfl
@[simp] theorem x_leI (i j : Int) (S : Sto) : leI (.int i) (.int j) S = .ok (.bl (decide (i ≤ j))) S := rfl
@[simp] theorem x_gtI (i j : Int) (S : Sto) : gtI (.int i) (.int j) S = .ok (.bl (decide (j < i))) S := rfl
@[simp] theorem x_geI (i j : Int) (S : Sto) : geI (.int i) (.int j) S = .ok (.bl (decide (j ≤ i))) S := rfl
@[simp] theorem x_mulI (i j : Int) (S : Sto) : mulI (.int i) (.int j) S = if i.natAbs < 2 ^ 2000 ∧ j.natAbs < 2 ^ 2000 then .ok (.int (i * j)) S else .no := rfl
@[simp] theorem x_fdivA (i j : Int) (S : Sto) : fdivA (.int i) (.int j) S = if 0 < j ∧ j < 2 ^ 120 then .ok (.int (i / j)) S else .no := rfl
@[simp] theorem x_modA (i j : Int) (S : Sto) : modA (.int i) (.int j) S = if 0 < j then .ok (.int (i % j)) S else .no := rfl
@[simp] theorem x_powI (i j : Int) (S : Sto) : powI (.int i) (.int j) S = if 0 ≤ j ∧ j ≤ 100 ∧ i.natAbs < 2 ^ 64 then .ok (.int (i ^ j.toNat)) S else .no := rfl
@[simp] theorem x_addI (i j : Int) (S : Sto) : addA (.int i) (.int j) S = .ok (.int (i + j)) S := rfl
@[simp] theorem x_addS (x y : Str) (S : Sto) : addA (.str x) (.str y) S = if x.length + y.length < 100000 then .ok (.str (x ++ y)) S else .no := rfl
@[simp] theorem x_intM (i : Int) : intM [.int i] = ret (.int i) := rfl
/-- a number's text -/
def tsI (i : Int) : Str := ((toString i : String) : Str)
@[simp] theorem x_strM (i : Int) : strM [.int i] = guard (i.natAbs.log2 < 1920) (ret (.str (tsI i))) := rfl
@[simp] theorem x_isB (x y : Bool) : isB (.bl x) (.bl y) = ret (.bl (decide (x = y))) := rfl
@[simp] theorem x_eqS (neg : Bool) (x y : Str) (S : Sto) : eqM neg (.str x) (.str y) S = .ok (.bl (decide (x = y) != neg)) S := by
  show (if scal (.str x) (.str y) = true then Rs.ok (A.bl (decide (V.str x = V.str y) != neg)) S else .no) = _
  have e : scal (.str x) (.str y) = true := rfl
  have e2 : decide (V.str x = V.str y) = decide (x = y) := by
    by_cases h : x = y
    · subst h; simp
    · rw [decide_eq_false h, decide_eq_false fun z => h (by cases z; rfl)]
  rw [if_pos e, e2]
@[simp] theorem x_eqI (neg : Bool) (x y : Int) (S : Sto) : eqM neg (.int x) (.int y) S = .ok (.bl (decide (x = y) != neg)) S := by
  show (if scal (.int x) (.int y) = true then Rs.ok (A.bl (decide (V.int x = V.int y) != neg)) S else .no) = _
  have e : scal (.int x) (.int y) = true := rfl
  have e2 : decide (V.int x = V.int y) = decide (x = y) := by
    by_cases h : x = y
    · subst h; simp
    · rw [decide_eq_false h, decide_eq_false fun z => h (by cases z; rfl)]
  rw [if_pos e, e2]
@[simp] theorem x_eqB (neg : Bool) (x y : Bool) (S : Sto) : eqM neg (.bl x) (.bl y) S = .ok (.bl (decide (x = y) != neg)) S := by
  show (if scal (.bl x) (.bl y) = true then Rs.ok (A.bl (decide (V.bl x = V.bl y) != neg)) S else .no) = _
  have e : scal (.bl x) (.bl y) = true := rfl
  have e2 : decide (V.bl x = V.bl y) = decide (x = y) := by
    by_cases h : x = y
    · subst h; simp
    · rw [decide_eq_false h, decide_eq_false fun z => h (by cases z; rfl)]
  rw [if_pos e, e2]
@[simp] theorem x_chainE (f g : A → A → M A) (ma mb mc : Lo → M A) (ρ : Lo) : chainE f g ma mb mc ρ = bnd (ma ρ) fun x => bnd (mb ρ) fun y => bnd (f x y) fun z => bnd (boolOf z) fun k => if k = true then bnd (mc ρ) fun u => g y u else ret (.bl false) := rfl
@[simp] theorem x_fmtS (x : Str) : fmtM (.str x) = guard (x.length < 100000) (ret (.str x)) := rfl
@[simp] theorem x_fmtI (i : Int) : fmtM (.int i) = guard (i.natAbs.log2 < 1920) (ret (.str (tsI i))) := rfl
@[simp] theorem x_join0 (acc : Str) (ρ : Lo) : joinE [] acc ρ = ret (.str acc) := rfl
@[simp] theorem x_join1 (m : Lo → M A) (ms : List (Lo → M A)) (acc : Str) (ρ : Lo) : joinE (m :: ms) acc ρ = bnd (m ρ) fun a => match a with
    | .str y => guard ((acc ++ y).length < 100000) (joinE ms (acc ++ y) ρ)
    | _ => fail := rfl
@[simp] theorem x_ixT (xs : List A) (i : Int) (S : Sto) : ixM (.tup xs) (.int i) S = match getAt xs i with
  | some v => .ok v S
  | none => .no := rfl
@[simp] theorem x_ixF (xs : List A) (i : Int) (S : Sto) : ixM (.fl xs) (.int i) S = match getAt xs i with
  | some v => .ok v S
  | none => .no := rfl
@[simp] theorem x_ixC (xs : List A) (i : Int) (S : Sto) : ixM (.scr xs) (.int i) S = match getAt xs i with
  | some v => .ok v S
  | none => .no := rfl
theorem ixL {S : Sto} {k : Nat} {xs : List A} (h : S[k]? = some (.lst xs)) (i : Int) : ixM (.ref k) (.int i) S = match getAt xs i with
  | some v => .ok v S
  | none => .no := by
  have e1 : dicOf (.ref k) S = none := by unfold dicOf; simp only [h]
  have e2 : seqOf (.ref k) S = some xs := by unfold seqOf lstOf; simp only [h]
  unfold ixM
  simp only [e1, e2]
  all_goals rfl
@[simp] theorem x_gat0 (a : A) (r : List A) : getAt (a :: r) 0 = some a := atI_nat (j := 0) rfl
@[simp] theorem x_gat1 (a b : A) (r : List A) : getAt (a :: b :: r) 1 = some b := atI_nat (j := 1) rfl
@[simp] theorem x_gat2 (a b c : A) (r : List A) : getAt (a :: b :: c :: r) 2 = some c := atI_nat (j := 2) rfl
@[simp] theorem x_gat3 (a b c d : A) (r : List A) : getAt (a :: b :: c :: d :: r) 3 = some d := atI_nat (j := 3) rfl
theorem getAt_nat {xs : List A} {n : Nat} {a : A} (h : xs[n]? = some a) : getAt xs (n : Int) = some a := atI_nat h
theorem setL {S : Sto} {k : Nat} {xs : List A} (h : S[k]? = some (.lst xs)) {i : Int} {j : Nat} (hi : ixN xs.length i = some j) (c : A) : setM (.ref k) (.int i) c S = some (S.set k (.lst (xs.set j c))) := by
  unfold setM
  simp only [h, hi]
@[simp] theorem x_subS (mo mi me : Lo → M A) : subS mo mi me = letG me fun c => letG mo fun a => letG mi fun b ρ S => match setM a b c S with
  | some S' => .nx ρ S'
  | none => .no := rfl
@[simp] theorem x_lenC (xs : List A) (S : Sto) : lenM [.scr xs] S = .ok (.int xs.length) S := rfl
/-! ### instances -/
@[simp] theorem x_insObj (C : Str) (fs : List (Str × A)) (S : Sto) : insOf (.obj C fs) S = some (C, fs) := rfl
theorem insRef {S : Sto} {k : Nat} {C : Str} {fs : List (Str × A)} (h : S[k]? = some (.ins C fs)) : insOf (.ref k) S = some (C, fs) := by
  unfold insOf
  simp only [h]
@[simp] theorem x_insLast (S : Sto) (C : Str) (fs : List (Str × A)) : insOf (.ref S.length) (S ++ [.ins C fs]) = some (C, fs) := insRef (x_last _ _)
@[simp] theorem x_fldE (at_ : Str → Str → Bool) (f : Str) (mo : Lo → M A) (ρ : Lo) : fldE at_ f mo ρ = bnd (mo ρ) (fldM at_ f) := rfl
@[simp] theorem x_fldM (at_ : Str → Str → Bool) (f : Str) (a : A) (S : Sto) : fldM at_ f a S = match insOf a S with
  | some (C, fs) => if at_ C f = true then match fs.lookup f with
      | some b => .ok b S
      | none => .no
    else .no
  | none => .no := rfl
@[simp] theorem x_putS (at_ : Str → Str → Bool) (f : Str) (mo me : Lo → M A) : putS at_ f mo me = letG me fun b => letG mo fun a ρ S => match putM at_ f b a S with
  | some S' => .nx ρ S'
  | none => .no := rfl
@[simp] theorem x_putLast (at_ : Str → Str → Bool) (f : Str) (b : A) (S : Sto) (C : Str) (fs : List (Str × A)) : putM at_ f b (.ref S.length) (S ++ [.ins C fs]) = if at_ C f = true ∧ fs.length < 100 then some (S ++ [.ins C (putA f b fs)]) else none := by
  unfold putM
  simp only [x_last, x_set_last]
@[simp] theorem x_putA0 (f : Str) (v : A) : putA f v [] = [(f, v)] := rfl
@[simp] theorem x_putA1 (f g : Str) (v x : A) (r : List (Str × A)) : putA f v ((g, x) :: r) = if g = f then (g, v) :: r else (g, x) :: putA f v r := rfl
@[simp] theorem x_supS (i : Nat) (C : Str) (F : List A → M A) (ml : Lo → M (List A)) : supS i C F ml = letG (vr i) fun a ρ S => match insOf a S with
  | some (C', _) => if C' = C then dropS (fun ρ => bnd (ml ρ) fun as => F (a :: as)) ρ S else .no
  | none => .no := rfl
@[simp] theorem x_raiseS (C : Str) (fs : List Str) (ml : Lo → M (List A)) : raiseS C fs ml = letG ml fun as ρ S => if as.length = fs.length ∧ as.length < 100 then .ex C (fs.zip as).reverse ρ S else .no := rfl
@[simp] theorem x_xfE (f : Str) (fs : List (Str × A)) (ρ : Lo) (S : Sto) : xfE f fs ρ S = match fs.lookup f with
  | some a => .ok a S
  | none => .no := rfl
@[simp] theorem x_tryS (er : Str → Bool) (i : Nat) (D : Str) (mb : SM) (mh : List (Str × A) → SM) (ρ : Lo) (S : Sto) : tryS er i D mb mh ρ S = match mb ρ S with
  | .ex C fs ρ' S' => if er C = true ∧ i < ρ'.length then (if C = D then wipeO i (mh fs (ρ'.set i none) S') else .ex C fs ρ' S') else .no
  | r => r := rfl
@[simp] theorem x_wipe_nx (i : Nat) (ρ : Lo) (S : Sto) : wipeO i (.nx ρ S) = .nx (ρ.set i none) S := rfl
@[simp] theorem x_wipe_rt (i : Nat) (a : A) (S : Sto) : wipeO i (.rt a S) = .rt a S := rfl
theorem x_ownI {ow : Str → Option (List A → M A)} {a : A} {n : Int} {S : Sto} {C : Str} {fs : List (Str × A)} {F : List A → M A} (h1 : insOf a S = some (C, fs)) (h2 : ow C = some F) : ownM ow a (.int n) S = F [a, .int n] S := by
  unfold ownM
  simp only [h1, h2]
theorem x_ownO {ow : Str → Option (List A → M A)} {C D : Str} {fs gs : List (Str × A)} {S : Sto} {F G : List A → M A} (h2 : ow C = some F) (h3 : ow D = some G) : ownM ow (.obj C fs) (.obj D gs) S = F [.obj C fs, .obj D gs] S := by
  unfold ownM
  simp only [x_insObj, h2, h3]
/-- an instance made: its __init__ fills the fields -/
theorem mk_ok {C : Str} {init : List A → M A} {as : List A} {S : Sto} {fs : List (Str × A)} (h : init (.ref S.length :: as) (S ++ [.ins C []]) = .ok .non (S ++ [.ins C fs])) (hb : belf S.length fs = true) : mkM true C init as S = .ok (.obj C fs) S := by
  unfold mkM
  rw [h]
  simp only [x_last, x_set_last, if_true, hb, trim_app]
theorem mk_ex {C D : Str} {init : List A → M A} {as : List A} {S T : Sto} {fs : List (Str × A)} (h : init (.ref S.length :: as) (S ++ [.ins C []]) = .ex D fs (S ++ T)) (hb : belf S.length fs = true) : mkM true C init as S = .ex D fs S := by
  unfold mkM
  rw [h]
  simp only [if_true, hb, trim_app]
/-! ### isinstance -/
@[simp] theorem x_isi1 (cs : Str → Bool) (sub : Str → Str → Bool) (a : A) (n : String) (S : Sto) : isiM cs sub [a, .ty n] S = match tyOf a S with
  | some t => match kitM cs sub t (.ty n) with
    | some b => .ok (.bl b) S
    | none => .no
  | none => .no := rfl
@[simp] theorem x_isiG (cs : Str → Bool) (sub : Str → Str → Bool) (a : A) (n : Str) (S : Sto) : isiM cs sub [a, .glo n] S = match tyOf a S with
  | some t => match kitM cs sub t (.glo n) with
    | some b => .ok (.bl b) S
    | none => .no
  | none => .no := rfl
@[simp] theorem x_isiT (cs : Str → Bool) (sub : Str → Str → Bool) (a : A) (ts : List A) (S : Sto) : isiM cs sub [a, .tup ts] S = match tyOf a S with
  | some t => if ts.isEmpty = true then .no else match kitAl cs sub t ts with
    | some b => .ok (.bl b) S
    | none => .no
  | none => .no := rfl
@[simp] theorem x_ty_non (S : Sto) : tyOf .non S = some (.b "NoneType") := rfl
@[simp] theorem x_ty_bl (b : Bool) (S : Sto) : tyOf (.bl b) S = some (.b "bool") := rfl
@[simp] theorem x_ty_int (b : Int) (S : Sto) : tyOf (.int b) S = some (.b "int") := rfl
@[simp] theorem x_ty_str (b : Str) (S : Sto) : tyOf (.str b) S = some (.b "str") := rfl
@[simp] theorem x_ty_tup (b : List A) (S : Sto) : tyOf (.tup b) S = some (.b "tuple") := rfl
@[simp] theorem x_ty_obj (C : Str) (b : List (Str × A)) (S : Sto) : tyOf (.obj C b) S = some (.o C) := rfl
/-! ### lambdas -/
@[simp] theorem x_lamL (i : Nat) (ml : Lo → M (List A)) (ρ : Lo) : lamL i ml ρ = bnd (newM (.sfn i 0 [])) fun a => bnd (ml ρ) fun r => ret (a :: r) := rfl
@[simp] theorem x_valL (me : Lo → M A) (ml : Lo → M (List A)) (ρ : Lo) : valL me ml ρ = bnd (me ρ) fun a => bnd (ml ρ) fun r => ret (a :: r) := rfl
/-- a group that no function of the store has -/
abbrev frG' (S : Sto) (i : Nat) : Nat := freshG (S ++ [Ob.sfn i 0 []])
/-- f(lambda): the callee sees a store with one function more -/
theorem callL0 {F : List A → M A} {i : Nat} {js : List Nat} {ρ : Lo} {S : Sto} {caps : List A} (hc : capsOf ρ js = some caps) : callL F i 0 js (lamL i nilA) ρ S = behL S.length (frG' S i) i (F [.ref S.length] (S ++ [Ob.fn i (frG' S i) caps])) := by
  have e : callL F i 0 js (lamL i nilA) ρ S = match capsOf ρ js with
    | some caps => behL S.length (freshG (S ++ [Ob.sfn i 0 []])) i (F [.ref S.length] ((S ++ [Ob.sfn i 0 []]).set S.length (.fn i (freshG (S ++ [Ob.sfn i 0 []])) caps)))
    | none => .no := rfl
  rw [e]
  simp only [hc, x_set_last]
theorem frG_ne {S : Sto} {i : Nat} {k : Nat} {i' : Nat} {c : List A} : S[k]? ≠ some (.fn i' (frG' S i) c) := fun h => by
  have hk : k < S.length := (List.getElem?_eq_some_iff.mp h).1
  have h2 : (S ++ [Ob.sfn i 0 []])[k]? = some (.fn i' (frG' S i) c) := by rw [List.getElem?_append_left hk]; exact h
  have := freshG_le h2
  exact absurd this (Nat.not_succ_le_self _)
theorem susp_fresh {g : Nat} : ∀ {S : Sto}, (∀ (k i' : Nat) (c : List A), S[k]? ≠ some (.fn i' g c)) → susp g S = S := fun {S} h => by
  apply List.ext_getElem?
  intro k
  unfold susp
  rw [List.getElem?_map]
  cases e : S[k]? with
  | none => rfl
  | some o =>
    show some (susO g o) = some o
    cases o with
    | fn i' g' c =>
      show some (if g' = g then Ob.sfn i' g' c else Ob.fn i' g' c) = _
      rw [if_neg fun y => h k i' c (by rw [← y]; exact e)]
    | _ => rfl
theorem susp_app (g : Nat) (S T : Sto) : susp g (S ++ T) = susp g S ++ susp g T := by unfold susp; rw [List.map_append]
/-- the callee leaves the store as it was -/
theorem callL1 {F : List A → M A} {i : Nat} {js : List Nat} {ρ : Lo} {S : Sto} {caps : List A} {a : A} (hc : capsOf ρ js = some caps) (h : F [.ref S.length] (S ++ [Ob.fn i (frG' S i) caps]) = .ok a (S ++ [Ob.fn i (frG' S i) caps])) (hb : a.bel S.length = true) : trimE (callL F i 0 js (lamL i nilA)) ρ S = .ok a S := by
  unfold trimE
  rw [callL0 hc, h]
  have e : (susp (frG' S i) (S ++ [Ob.fn i (frG' S i) caps])).set S.length (Ob.sfn i 0 []) = S ++ [Ob.sfn i 0 []] := by
    rw [susp_app, susp_fresh fun k i' c => frG_ne]
    have e2 : susp (frG' S i) [Ob.fn i (frG' S i) caps] = [Ob.sfn i (frG' S i) caps] := by
      show [if frG' S i = frG' S i then _ else _] = _
      rw [if_pos rfl]
    rw [e2, x_set_last]
  show (if a.bel S.length = true then Rs.ok a (trim S ((susp (frG' S i) (S ++ [Ob.fn i (frG' S i) caps])).set S.length (Ob.sfn i 0 []))) else _) = _
  rw [if_pos hb, e, trim_app]
/-- x() within the callee -/
theorem callV1 {lf : Nat → Option (List A → M A)} {i k j g : Nat} {ρ : Lo} {S : Sto} {caps : List A} {F : List A → M A} (h1 : ρ[i]? = some (some (.ref k))) (h2 : S[k]? = some (.fn j g caps)) (h3 : lf j = some F) : callV lf i nilA ρ S = lamM F k [] S := by
  unfold callV
  simp only [x_bnd, x_vr, h1, h2, h3]
  all_goals rfl
@[simp] theorem x_lamF (np nl : Nat) (me : Lo → M A) (as : List A) (S : Sto) : lamF np nl me as S = if as.length = np then me (as.map some ++ List.replicate (nl - np) none) S else .no := rfl
theorem lamM1 {F : List A → M A} {k j g : Nat} {as caps : List A} {S : Sto} (h : S[k]? = some (.fn j g caps)) : lamM F k as S = match F (as ++ caps) (susp g S) with
    | .ok a S' => .ok a (resm g S S')
    | .ex D fs S' => .ex D fs (resm g S S')
    | .no => .no := by
  unfold lamM
  simp only [h]
  all_goals rfl
theorem susp_len (g : Nat) (S : Sto) : (susp g S).length = S.length := by unfold susp; simp
/-- suspended and taken up again -/
theorem resm_susp (g : Nat) (S : Sto) : resm g S (susp g S) = S := by
  apply List.ext_getElem?
  intro k
  unfold resm susp
  rw [List.getElem?_mapIdx, List.getElem?_map]
  cases h : S[k]? with
  | none => rfl
  | some o =>
    show some (resO g (some o) (susO g o)) = some o
    congr 1
    cases o with
    | fn i g' c =>
      show (if g' = g then Ob.fn i g' c else (if g' = g then Ob.sfn i g' c else Ob.fn i g' c)) = _
      split <;> rfl
    | _ => rfl
end
end FL

/-! ## A30: what stands in the store is frozen, or locked for a while: the heap stays -/
namespace FL
open PySem PySem.Spec PyProof.Rows L2 LamX
variable [LT]
/-- what slot i holds is taken by value from now on -/
def frzA (i : Nat) (ρ : Lo) (S : Sto) : Option (Lo × Sto) := match ρ[i]? with
  | some (some (.ref k)) => match S[k]? with
    | some (.dic kvs) => some (ρ.set i (some (.fd kvs)), S.set k .dead)
    | some (.lst xs) => some (ρ.set i (some (.fl xs)), S.set k .dead)
    | _ => none
  | some (some _) => some (ρ, S)
  | _ => none
def frzS (i : Nat) (m : SM) : SM := fun ρ S => match frzA i ρ S with
  | some (ρ', S') => m ρ' S'
  | none => .no
section
variable {X : Cx} {G : Gs} {W : WX} {Γ : Cfg} {w w' : Wd} {ρ : Lo} {σ : L2.St}
theorem Rl.put (h : Rl Γ w ρ σ) {i : Nat} {a : A} {v : V} (e : σ[i]? = some (some v)) (r : Rv Γ w a v) : Rl Γ w (ρ.set i (some a)) σ := by
  refine ⟨by simp [h.1], fun j b z => ?_⟩
  by_cases hj : j = i
  · subst hj
    by_cases hl : j < ρ.length
    · rw [List.getElem?_set_self hl] at z
      cases z
      exact ⟨v, e, r⟩
    · rw [List.getElem?_eq_none (by simpa using hl)] at z; cases z
  · rw [List.getElem?_set_ne (Ne.symm hj)] at z
    exact h.2 j b z
theorem frz_ok {i : Nat} {ρ' : Lo} {S' : Sto} (st : Sta Γ G w ρ σ) (h : frzA i ρ w.S = some (ρ', S')) : ∃ w1 : Wd, w1.H = w.H ∧ w1.S = S' ∧ Ex w w1 ∧ Sta Γ G w1 ρ' σ := by
  unfold frzA at h
  cases e : ρ[i]? with
  | none => rw [e] at h; cases h
  | some z =>
    cases z with
    | none => rw [e] at h; cases h
    | some a =>
      rw [e] at h
      obtain ⟨v, hv, rv⟩ := st.loc.2 i a e
      cases rv with
      | @ref k p hp =>
        have h : (match w.S[k]? with
          | some (.dic kvs) => some (ρ.set i (some (A.fd kvs)), w.S.set k .dead)
          | some (.lst xs) => some (ρ.set i (some (A.fl xs)), w.S.set k .dead)
          | _ => none) = some (ρ', S') := h
        cases es : w.S[k]? with
        | none => simp only [es] at h; cases h
        | some ob =>
          simp only [es] at h
          have ob1 := st.rel.at_ k p ob hp es
          cases ob with
          | dic kvs =>
            cases h
            have ex : Ex w ⟨w.ι, w.S.set k .dead, w.H, w.x⟩ := Ex.mark hp es rfl rfl
            have nl := nLv_dead (H' := w.H) st.rel hp
            rcases ob1 with ⟨kv, e1, r⟩ | ⟨kv, e1, r⟩
            · have rl := st.rel.mark hp es rfl rfl (ob := .dead) ⟨_, e1, rfl⟩
              exact ⟨⟨w.ι, w.S.set k .dead, w.H, w.x⟩, rfl, rfl, ex, ⟨rl, (st.loc.ex ex).put hv (.fdT nl (.inl e1) (r.ex ex)), ⟨fun p hp => (st.gh.1 p hp).ex ex, fun q hq => (st.gh.2 q hq).ex ex⟩, st.pr⟩⟩
            · have rl := st.rel.mark hp es rfl rfl (ob := .dead) ⟨_, e1, rfl⟩
              exact ⟨⟨w.ι, w.S.set k .dead, w.H, w.x⟩, rfl, rfl, ex, ⟨rl, (st.loc.ex ex).put hv (.fdK nl (.inl e1) (r.ex ex)), ⟨fun p hp => (st.gh.1 p hp).ex ex, fun q hq => (st.gh.2 q hq).ex ex⟩, st.pr⟩⟩
          | lst xs =>
            cases h
            have ex : Ex w ⟨w.ι, w.S.set k .dead, w.H, w.x⟩ := Ex.mark hp es rfl rfl
            have nl := nLv_dead (H' := w.H) st.rel hp
            obtain ⟨vs, e1, r⟩ := ob1
            have rl := st.rel.mark hp es rfl rfl (ob := .dead) ⟨_, e1, rfl⟩
            exact ⟨⟨w.ι, w.S.set k .dead, w.H, w.x⟩, rfl, rfl, ex, ⟨rl, (st.loc.ex ex).put hv (.fl nl (.inl e1) (r.ex ex)), ⟨fun p hp => (st.gh.1 p hp).ex ex, fun q hq => (st.gh.2 q hq).ex ex⟩, st.pr⟩⟩
          | _ => cases h
      | _ =>
        have h : some (ρ, w.S) = some (ρ', S') := h
        cases h
        exact ⟨w, rfl, rfl, Ex.refl, st⟩
theorem ass_frz {i : Nat} {sts : List Stmt} {m : SM} (h : ASs X G sts m) : ASs X G sts (frzS i m) := fun W tk => (h W tk).imp fun D σ H q => by
  obtain ⟨w, ρ, rfl, st, o⟩ := q
  unfold frzS at o
  cases e : frzA i ρ w.S with
  | none => simp only [e] at o; exact o.elim
  | some z =>
    obtain ⟨ρ', S'⟩ := z
    simp only [e] at o
    obtain ⟨w1, h1, h2, ex, st1⟩ := frz_ok st e
    refine ⟨w1, ρ', h1, st1, ?_⟩
    rw [h2]
    exact o.later ex
/-! ### a list locked while a statement runs -/
def unlO (k : Nat) (xs : List A) : Ou → Ou
  | .nx ρ S => .nx ρ (S.set k (.lst xs))
  | .rt a S => .rt a (S.set k (.lst xs))
  | .bk ρ S => .bk ρ (S.set k (.lst xs))
  | .ct ρ S => .ct ρ (S.set k (.lst xs))
  | .ex C fs ρ S => .ex C fs ρ (S.set k (.lst xs))
  | .no => .no
def lockS (i : Nat) (m : SM) : SM := fun ρ S => match ρ[i]? with
  | some (some (.ref k)) => match S[k]? with
    | some (.lst xs) => unlO k xs (m ρ (S.set k (.llst xs)))
    | _ => m ρ S
  | _ => m ρ S
theorem Lv.same {k : Nat} {a b : Addr} {o ob : Ob} (e0 : w.ι[k]? = some a) (e1 : w.S[k]? = some o) (l : o.live = true) (h : Wd.Lv ⟨w.ι, w.S.set k ob, w.H, w.x⟩ b) : w.Lv b := Lv.set e0 e1 l h
theorem unl_ok {k : Nat} {p : Addr} {xs : List A} (rl : Rel Γ w) (hp : w.ι[k]? = some p) (es : w.S[k]? = some (.lst xs)) (e : Ex ⟨w.ι, w.S.set k (.llst xs), w.H, w.x⟩ w') (r' : Rel Γ w') :
    Ex w ⟨w'.ι, w'.S.set k (.lst xs), w'.H, w'.x⟩ ∧ Rel Γ ⟨w'.ι, w'.S.set k (.lst xs), w'.H, w'.x⟩ ∧ Kv w' ⟨w'.ι, w'.S.set k (.lst xs), w'.H, w'.x⟩ := by
  have hk : k < w.S.length := (List.getElem?_eq_some_iff.mp es).1
  have s1 : w'.S[k]? = some (.llst xs) := e.lk k (.llst xs) (List.getElem?_set_self hk) rfl
  have hk' : k < w'.S.length := (List.getElem?_eq_some_iff.mp s1).1
  have p1 : w'.ι[k]? = some p := e.ix k p hp
  have lv : ∀ b, Wd.Lv ⟨w'.ι, w'.S.set k (.lst xs), w'.H, w'.x⟩ b → w'.Lv b := fun b z => Lv.set p1 s1 rfl z
  have lv0 : ∀ b, Wd.Lv ⟨w.ι, w.S.set k (.llst xs), w.H, w.x⟩ b → w.Lv b := fun b z => Lv.set hp es rfl z
  have kv : Kv w' ⟨w'.ι, w'.S.set k (.lst xs), w'.H, w'.x⟩ := fun a o n h _ => ⟨.inl h, fun z => n (lv a z)⟩
  refine ⟨⟨e.gx, e.sx, e.ix, fun a o n h t => ?_, fun j o h l => ?_, fun j o a h l ea => ?_⟩, ⟨⟨fun g ps hg q hq => ?_, r'.g.gd, r'.g.tb⟩, r'.sc, ?_, r'.inj, fun j a o e1 e2 => ?_⟩, kv⟩
  · obtain ⟨h1, h2⟩ := e.kp a o (fun z => n (lv0 a z)) h t
    exact ⟨h1, fun z => h2 (lv a z)⟩
  · have hj : j ≠ k := fun z => by rw [z, es] at h; cases h; cases l
    show (w'.S.set k (.lst xs))[j]? = some o
    rw [List.getElem?_set_ne (Ne.symm hj)]
    exact e.lk j o (by show (w.S.set k (.llst xs))[j]? = _; rw [List.getElem?_set_ne (Ne.symm hj)]; exact h) l
  · have hj : j ≠ k := fun z => by rw [z, es] at h; cases h; cases l
    exact e.fx j o a (by show (w.S.set k (.llst xs))[j]? = _; rw [List.getElem?_set_ne (Ne.symm hj)]; exact h) l ea
  · obtain ⟨n, o, h1, h2⟩ := r'.g.gr g ps hg q hq
    exact ⟨fun z => n (lv q z), o, h1, h2⟩
  · show w'.ι.length = (w'.S.set k (.lst xs)).length
    simp [r'.len]
  · have e2 : (w'.S.set k (.lst xs))[j]? = some o := e2
    by_cases hj : j = k
    · subst hj
      rw [List.getElem?_set_self hk'] at e2
      cases e2
      have e1 : w'.ι[j]? = some a := e1
      obtain ⟨vs, h1, h2⟩ := r'.at_ j a _ e1 s1
      exact ⟨vs, h1, h2.mono kv fun _ _ z => z⟩
    · rw [List.getElem?_set_ne (Ne.symm hj)] at e2
      exact (r'.at_ j a o e1 e2).tr kv (fun _ _ z => z) (fun _ z => z) (fun c x n z => ⟨z, fun y => n (lv c y)⟩) fun i g caps ps _ hg => ⟨hg, fun q _ u n z => ⟨z, fun y => n (lv q y)⟩⟩
theorem Sta.mono {w2 : Wd} (h : Sta Γ G w' ρ σ) (r : Rel Γ w2) (kv : Kv w' w2) (ix : ∀ (j : Nat) (a : Addr), w'.ι[j]? = some a → w2.ι[j]? = some a) (lm : ∀ q ∈ G.lm, OwnL w2 q) : Sta Γ G w2 ρ σ :=
  ⟨r, ⟨h.loc.1, fun i a z => by
    obtain ⟨v, h1, h2⟩ := h.loc.2 i a z
    exact ⟨v, h1, h2.mono kv ix⟩⟩, ⟨fun p hp => (h.gh.1 p hp).mono kv ix, lm⟩, h.pr⟩
theorem as_lock {i : Nat} {st : Stmt} {m : SM} (h : AS X G st m) : AS X G st (lockS i m) := fun W tk => (h W tk).imp fun D σ H q => by
  obtain ⟨w, ρ, rfl, st, o⟩ := q
  unfold lockS at o
  cases e : ρ[i]? with
  | none => simp only [e] at o; exact ⟨w, ρ, rfl, st, o⟩
  | some z =>
    cases z with
    | none => simp only [e] at o; exact ⟨w, ρ, rfl, st, o⟩
    | some a =>
      simp only [e] at o
      obtain ⟨v, hv, rv⟩ := st.loc.2 i a e
      cases rv with
      | @ref k p hp =>
        have o : OutS (cf X) W G w D (match w.S[k]? with
          | some (.lst xs) => unlO k xs (m ρ (w.S.set k (.llst xs)))
          | _ => m ρ w.S) := o
        cases es : w.S[k]? with
        | none => simp only [es] at o; exact ⟨w, ρ, rfl, st, o⟩
        | some ob =>
          cases ob with
          | lst xs =>
            simp only [es] at o
            have rl := st.rel
            have ob1 := rl.at_ k p _ hp es
            have ex : Ex w ⟨w.ι, w.S.set k (.llst xs), w.H, w.x⟩ := Ex.mark hp es rfl rfl
            obtain ⟨vs, e1, r⟩ := ob1
            have rl1 := rl.mark hp es rfl rfl (ob := .llst xs) ⟨vs, e1, r.ex ex⟩
            refine ⟨⟨w.ι, w.S.set k (.llst xs), w.H, w.x⟩, ρ, rfl, st.ex ex rl1, ?_⟩
            show OutS (cf X) W G ⟨w.ι, w.S.set k (.llst xs), w.H, w.x⟩ D (m ρ (w.S.set k (.llst xs)))
            cases er : m ρ (w.S.set k (.llst xs)) with
            | nx ρ' S' =>
              rw [er] at o
              intro w' σ' hs e2 st2
              obtain ⟨x1, x2, x3⟩ := unl_ok rl hp es e2 st2.rel
              exact o ⟨w'.ι, w'.S.set k (.lst xs), w'.H, w'.x⟩ σ' (by rw [← hs]) x1 (st2.mono x2 x3 (fun _ _ z => z) fun q hq => (st.gh.2 q hq).ex x1)
            | bk ρ' S' =>
              rw [er] at o
              intro w' σ' hs e2 st2
              obtain ⟨x1, x2, x3⟩ := unl_ok rl hp es e2 st2.rel
              exact o ⟨w'.ι, w'.S.set k (.lst xs), w'.H, w'.x⟩ σ' (by rw [← hs]) x1 (st2.mono x2 x3 (fun _ _ z => z) fun q hq => (st.gh.2 q hq).ex x1)
            | ct ρ' S' =>
              rw [er] at o
              intro w' σ' hs e2 st2
              obtain ⟨x1, x2, x3⟩ := unl_ok rl hp es e2 st2.rel
              exact o ⟨w'.ι, w'.S.set k (.lst xs), w'.H, w'.x⟩ σ' (by rw [← hs]) x1 (st2.mono x2 x3 (fun _ _ z => z) fun q hq => (st.gh.2 q hq).ex x1)
            | rt b S' =>
              rw [er] at o
              intro w' v' hs e2 r2 rv2
              obtain ⟨x1, x2, x3⟩ := unl_ok rl hp es e2 r2
              exact o ⟨w'.ι, w'.S.set k (.lst xs), w'.H, w'.x⟩ v' (by rw [← hs]) x1 x2 (rv2.mono x3 fun _ _ z => z)
            | ex C fs ρ' S' =>
              rw [er] at o
              intro w' d σ' hs e2 st2 rv2
              obtain ⟨x1, x2, x3⟩ := unl_ok rl hp es e2 st2.rel
              exact o ⟨w'.ι, w'.S.set k (.lst xs), w'.H, w'.x⟩ d σ' (by rw [← hs]) x1 (st2.mono x2 x3 (fun _ _ z => z) fun q hq => (st.gh.2 q hq).ex x1) (rv2.mono x3 fun _ _ z => z)
            | no => rw [er] at o; exact o
          | _ => simp only [es] at o; exact ⟨w, ρ, rfl, st, o⟩
      | _ => exact ⟨w, ρ, rfl, st, o⟩
end
end FL

/-! ## A31: zip, list(range(..)), list(d.items()), dict(pairs) -/
namespace FL
open PySem PySem.Spec PyProof.Rows L2
variable [LT]
/-! ### zip -/
def lstW (a : A) (S : Sto) : Option (List A) := match a with
  | .fl xs => some xs
  | .scr xs => some xs
  | .ref k => match S[k]? with
    | some (.llst xs) => some xs
    | _ => none
  | _ => none
def tupW : A → Option (List A)
  | .tup xs => some xs
  | _ => none
theorem tupW_ok {a : A} {xs : List A} (h : tupW a = some xs) : a = .tup xs := by cases a <;> first | (cases h; rfl) | cases h
def zipT (xs ys : List A) : List A := (xs.zip ys).map fun p => .tup [p.1, p.2]
def zipW : List A → M (List A)
  | [a, b] => fun S => match tupW a, tupW b with
    | some xs, some ys => .ok (zipT xs ys) S
    | _, _ => match lstW a S, lstW b S with
      | some xs, some ys => .ok (zipT xs ys) S
      | _, _ => .no
  | _ => fail
def zipE (ml : Lo → M (List A)) (ρ : Lo) : M (List A) := bnd (ml ρ) zipW
inductive LsR (Γ : Cfg) (xs : List A) (a : Addr) (w : Wd) : Prop
  | v : Rv Γ w (.fl xs) (.ref a) → LsR Γ xs a w
  | s : Rv Γ w (.scr xs) (.ref a) → LsR Γ xs a w
  | l (k : Nat) : w.ι[k]? = some a → w.S[k]? = some (.llst xs) → LsR Γ xs a w
theorem LsR.sq {Γ : Cfg} {xs : List A} {a : Addr} {w : Wd} (h : LsR Γ xs a w) (rl : Rel Γ w) : ∃ vs, SqL Γ.K w.H a vs ∧ Rvs Γ w xs vs := by
  cases h with
  | v h => obtain ⟨p, vs, e, sq, r⟩ := h.sql; cases e; exact ⟨vs, sq, r⟩
  | s h => obtain ⟨p, vs, e, sq, r⟩ := h.scr_sq; cases e; exact ⟨vs, sq, r⟩
  | l k h1 h2 => obtain ⟨vs, e, r⟩ := rl.at_ k a _ h1 h2; exact ⟨vs, SqL.of e, r⟩
theorem LsR.ey {Γ : Cfg} {xs : List A} {a : Addr} {w w' : Wd} (h : LsR Γ xs a w) (e : Ey w w') : LsR Γ xs a w' := by
  cases h with
  | v h => exact .v (h.ey e)
  | s h => exact .s (h.ey e)
  | l k h1 h2 => exact .l k (e.ix _ _ h1) (e.lk _ _ h2 rfl)
theorem lstW_ok {Γ : Cfg} {w : Wd} {a : A} {v : V} {xs : List A} (rl : Rel Γ w) (rv : Rv Γ w a v) (h : lstW a w.S = some xs) : ∃ p, v = .ref p ∧ LsR Γ xs p w := by
  cases rv with
  | fl n e r => cases h; exact ⟨_, rfl, .v (.fl n e r)⟩
  | scrF n e r => cases h; exact ⟨_, rfl, .s (.scrF n e r)⟩
  | scrK e r => cases h; exact ⟨_, rfl, .s (.scrK e r)⟩
  | @ref k p e =>
    unfold lstW at h
    cases es : w.S[k]? with
    | none => simp only [es] at h; cases h
    | some ob =>
      simp only [es] at h
      cases ob with
      | llst ys => cases h; exact ⟨p, rfl, .l k e es⟩
      | _ => cases h
  | _ => cases h
theorem zipT_len (xs ys : List A) : (zipT xs ys).length = min xs.length ys.length := by unfold zipT; simp
theorem zipT_get {xs ys : List A} {i : Nat} {x y : A} (h1 : xs[i]? = some x) (h2 : ys[i]? = some y) : (zipT xs ys)[i]? = some (.tup [x, y]) := by
  unfold zipT
  have z : (xs.zip ys)[i]? = some (x, y) := List.getElem?_zip_eq_some.mpr ⟨h1, h2⟩
  rw [List.getElem?_map, z] <;> rfl
theorem pair_new {Γ : Cfg} {w : Wd} {T : Addr} {a b : A} {x y : V} (rl : Rel Γ w) (hT : w.H T = none) (ra : Rv Γ w a x) (rb : Rv Γ w b y) : ∃ w' : Wd, w'.H = upd w.H T (.tup [x, y]) ∧ w'.S = w.S ∧ Ex w w' ∧ Rel Γ w' ∧ Rv Γ w' (.tup [a, b]) (.ref T) :=
  ⟨⟨w.ι, w.S, upd w.H T (.tup [x, y]), w.x⟩, rfl, rfl, Ex.laid rl hT, rl.laid hT, .tup (fun z => rl.fresh hT z) upd_same (.cons (ra.ex (Ex.laid rl hT)) (.cons (rb.ex (Ex.laid rl hT)) .nil))⟩
theorem wk_zipL {Γ : Cfg} {a b : Addr} {xs ys : List A} : Wk Γ (Itz Γ.K a b) (zipT xs ys) (fun w => LsR Γ xs a w ∧ LsR Γ ys b w) := by
  refine ⟨fun w i rl h hi => ?_, fun w rl h => ?_, fun w i x H' rl h hi y => ?_, fun w w' h e => ⟨h.1.ey e, h.2.ey e⟩⟩
  · obtain ⟨vs, s1, r1⟩ := h.1.sq rl
    obtain ⟨us, s2, r2⟩ := h.2.sq rl
    rw [zipT_len] at hi
    obtain ⟨v, hv, _⟩ := r1.getA (List.getElem?_eq_getElem (show i < xs.length by omega))
    obtain ⟨u, hu, _⟩ := r2.getA (List.getElem?_eq_getElem (show i < ys.length by omega))
    exact ⟨vs, us, v, u, s1, s2, hv, hu⟩
  · obtain ⟨vs, s1, r1⟩ := h.1.sq rl
    obtain ⟨us, s2, r2⟩ := h.2.sq rl
    refine ⟨vs, us, s1, s2, ?_⟩
    rw [zipT_len, r1.len, r2.len]
    omega
  · obtain ⟨vs, s1, r1⟩ := h.1.sq rl
    obtain ⟨us, s2, r2⟩ := h.2.sq rl
    obtain ⟨T, v, u, rfl, hT, rfl, q1, q2⟩ := y
    obtain ⟨c, hc, rc⟩ := r1.get (q1 vs s1)
    obtain ⟨d, hd, rd⟩ := r2.get (q2 us s2)
    obtain ⟨w', h1, h2, h3, h4, h5⟩ := pair_new rl hT rc rd
    exact ⟨w', _, h1, h2, h3, h4, zipT_get hc hd, h5⟩
theorem wk_zipP {Γ : Cfg} {a b : Addr} {xs ys : List A} : Wk Γ (RZ.ItzT Γ.K a b) (zipT xs ys) (fun w => Rv Γ w (.tup xs) (.ref a) ∧ Rv Γ w (.tup ys) (.ref b)) := by
  refine ⟨fun w i rl h hi => ?_, fun w rl h => ?_, fun w i x H' rl h hi y => ?_, fun w w' h e => ⟨h.1.ey e, h.2.ey e⟩⟩
  · obtain ⟨p, vs, e, _, _, s1, r1⟩ := h.1.sqt
    obtain ⟨p2, us, e2, _, _, s2, r2⟩ := h.2.sqt
    cases e
    cases e2
    rw [zipT_len] at hi
    obtain ⟨v, hv, _⟩ := r1.getA (List.getElem?_eq_getElem (show i < xs.length by omega))
    obtain ⟨u, hu, _⟩ := r2.getA (List.getElem?_eq_getElem (show i < ys.length by omega))
    exact ⟨vs, us, v, u, s1, s2, hv, hu⟩
  · obtain ⟨p, vs, e, _, _, s1, r1⟩ := h.1.sqt
    obtain ⟨p2, us, e2, _, _, s2, r2⟩ := h.2.sqt
    cases e
    cases e2
    refine ⟨vs, us, s1, s2, ?_⟩
    rw [zipT_len, r1.len, r2.len]
    omega
  · obtain ⟨p, vs, e, _, _, s1, r1⟩ := h.1.sqt
    obtain ⟨p2, us, e2, _, _, s2, r2⟩ := h.2.sqt
    cases e
    cases e2
    obtain ⟨T, v, u, rfl, hT, rfl, q1, q2⟩ := y
    obtain ⟨c, hc, rc⟩ := r1.get (q1 vs s1)
    obtain ⟨d, hd, rd⟩ := r2.get (q2 us s2)
    obtain ⟨w', h1, h2, h3, h4, h5⟩ := pair_new rl hT rc rd
    exact ⟨w', _, h1, h2, h3, h4, zipT_get hc hd, h5⟩
section
variable {X : Cx} {G : Gs} {e e2 : Expr} {me : Lo → M A} {ml : Lo → M (List A)} {p pos tpos : Pos} {elts : List Expr} {kk : Nat}
theorem ai_zip (hg : Gl X "zip") (hm : X.mg "zip" = none) (ha : AA X G [e, e2] ml) (hs : starEach [e, e2] X.env = (false, eval e X.env) :: starEach [e2] X.env := by rfl) (hpl : (backTo pos (starEach [e2] X.env)).any (·.1) = false := by rfl) :
    AI X G (.Tuple elts kk tpos) (.Call (.Name "zip" p) [e, e2] [] pos) (zipE ml) := fun W tk => (RZ.pi_zipA hg hm (ha W tk) hs hpl).imp fun σ H Q q => aG_step (R := Rvs (cf X)) q fun w1 ρ xs ys st1 rv o => by
  match xs, rv, o with
  | [a, b], .cons (v := va) ra (.cons (v := vb) rb .nil), o =>
    have lst : Out (cf X) W σ (RI (cf X)) w1 Q (match lstW a w1.S, lstW b w1.S with
      | some xs, some ys => .ok (zipT xs ys) w1.S
      | _, _ => .no) → ∃ (p1 p2 : Addr) (x1 x2 : List V), [va, vb] = [V.ref p1, V.ref p2] ∧ ((SqL X.K w1.H p1 x1 ∧ SqL X.K w1.H p2 x2 ∧ Q (Itz X.K p1 p2) w1.H) ∨ (SqT X.K w1.H p1 x1 ∧ SqT X.K w1.H p2 x2 ∧ Q (RZ.ItzT X.K p1 p2) w1.H)) := fun o => by
      cases h1 : lstW a w1.S with
      | none => simp only [h1] at o; exact o.elim
      | some us =>
        cases h2 : lstW b w1.S with
        | none => simp only [h1, h2] at o; exact o.elim
        | some vs =>
          simp only [h1, h2] at o
          obtain ⟨p1, e1, l1⟩ := lstW_ok st1.rel ra h1
          obtain ⟨p2, e2, l2⟩ := lstW_ok st1.rel rb h2
          subst e1 e2
          obtain ⟨x1, s1, _⟩ := l1.sq st1.rel
          obtain ⟨x2, s2, _⟩ := l2.sq st1.rel
          exact ⟨p1, p2, x1, x2, rfl, .inl ⟨s1, s2, Out.here (R := RI (cf X)) o st1.rel ⟨_, wk_zipL, l1, l2⟩⟩⟩
    have o : Out (cf X) W σ (RI (cf X)) w1 Q (match tupW a, tupW b with
      | some xs, some ys => .ok (zipT xs ys) w1.S
      | _, _ => match lstW a w1.S, lstW b w1.S with
        | some xs, some ys => .ok (zipT xs ys) w1.S
        | _, _ => .no) := o
    cases t1 : tupW a with
    | none => simp only [t1] at o; exact lst o
    | some us =>
      cases t2 : tupW b with
      | none => simp only [t1, t2] at o; exact lst o
      | some vs =>
        simp only [t1, t2] at o
        have q1 := tupW_ok t1
        have q2 := tupW_ok t2
        subst q1 q2
        obtain ⟨p1, x1, e1, _, _, s1, _⟩ := ra.sqt
        obtain ⟨p2, x2, e2, _, _, s2, _⟩ := rb.sqt
        subst e1 e2
        exact ⟨p1, p2, x1, x2, rfl, .inr ⟨s1, s2, Out.here (R := RI (cf X)) o st1.rel ⟨_, wk_zipP, ra, rb⟩⟩⟩
/-! ### list(range(..)) -/
def rgA (a b : Int) : List A := (List.range (b - a).toNat).map fun (i : Nat) => A.int (a + (i : Int))
theorem rgA_rel {Γ : Cfg} {w : Wd} (a b : Int) : Rvs Γ w (rgA a b) (rgV a b) := by
  unfold rgA rgV
  generalize (List.range (b - a).toNat) = l
  induction l with
  | nil => exact .nil
  | cons x r ih => exact .cons (.int _) ih
def lrgM (fin : Bool) : List A → M A
  | [.int n] => fun S => if n ≤ 16777216 ∧ 0 ≤ n then (if fin = true then .ok (.fl (rgA 0 n)) S else newM (.lst (rgA 0 n)) S) else .no
  | [.int a, .int n] => fun S => if 0 ≤ a ∧ a ≤ 16777216 ∧ n ≤ 16777216 ∧ 0 ≤ n then (if fin = true then .ok (.fl (rgA a n)) S else newM (.lst (rgA a n)) S) else .no
  | _ => fail
def lrgE (fin : Bool) (me : Lo → M A) (ρ : Lo) : M A := bnd (me ρ) fun a => lrgM fin [a]
theorem ae_lrg1 (fin : Bool) {p2 pos2 : Pos} (hc : X.calm = true) (hg : Gl X "list") (hm : X.mg "list" = none) (hg2 : Gl X "range") (hm2 : X.mg "range" = none) (he : AE X G e me)
    (na : starEach [e] X.env = (false, eval e X.env) :: starEach [] X.env := by rfl) (nb : starEach [.Call (.Name "range" p2) [e] [] pos2] X.env = (false, eval (.Call (.Name "range" p2) [e] [] pos2) X.env) :: starEach [] X.env := by rfl) :
    AE X G (.Call (.Name "list" p) [.Call (.Name "range" p2) [e] [] pos2] [] pos) (lrgE fin me) := fun W tk => (pe_listRg hc hg hm (prg_1 hg2 hm2 (he W tk) na) nb).imp fun σ H Q q => by
  refine aG_step (R := Rv (cf X)) q fun w1 ρ a x st1 rv o => ?_
  cases rv with
  | int n =>
    have o : Out (cf X) W σ (Rv (cf X)) w1 Q (if n ≤ 16777216 ∧ 0 ≤ n then (if fin = true then .ok (.fl (rgA 0 n)) w1.S else newM (.lst (rgA 0 n)) w1.S) else .no) := o
    split at o
    · rename_i hn
      exact ⟨n, rfl, RgOk.of_le (by decide) hn.1 (by decide) hn.2, list_fin st1.rel (rgA_rel 0 n) o⟩
    · exact o.elim
  | _ => exact o.elim
end
end FL

/-! ## A32: list(d.items()), dict(pairs) -/
namespace FL
open PySem PySem.Spec PyProof.Rows L2
variable [LT]
/-! ### dict(pairs), keys tuples -/
/-- the pairs of a list -/
def prsA : List A → Option (List (A × A))
  | [] => some []
  | .tup [k, v] :: r => (prsA r).map ((k, v) :: ·)
  | _ :: _ => none
def allTk : List (A × A) → Bool
  | [] => true
  | (k, _) :: r => (match kyOf k with | some (.inr _) => true | _ => false) && allTk r
def mrgA (kvs : List (A × A)) : List (A × A) := kvs.foldl (fun acc kv => dPut acc kv.1 kv.2) []
def dictM (fin : Bool) : List A → M A
  | [a] => fun S => match lstOf a S with
    | some xs => match prsA xs with
      | some kvs => if allTk kvs = true ∧ kvs.length < 100000 then (if fin = true then .ok (.fd (mrgA kvs)) S else newM (.dic (mrgA kvs)) S) else .no
      | none => .no
    | none => .no
  | _ => fail
/-- the pairs' addresses, their keys and their values -/
inductive PrL (Γ : Cfg) (w : Wd) : List (A × A) → List V → List (List Key × Addr × V) → Prop
  | nil : PrL Γ w [] [] []
  | cons {ks : List Key} {kb b : Addr} {a : A} {v : V} {kvs : List (A × A)} {vs : List V} {qs : List (List Key × Addr × V)} : w.H b = some (.tup [.ref kb, v]) → w.H kb = some (.tup (ks.map kV)) → Rv Γ w a v → PrL Γ w kvs vs qs → PrL Γ w ((tkA ks, a) :: kvs) (.ref b :: vs) ((ks, kb, v) :: qs)
theorem prs_ok {Γ : Cfg} {w : Wd} : ∀ {xs : List A} {vs : List V} {kvs : List (A × A)}, Rvs Γ w xs vs → prsA xs = some kvs → allTk kvs = true → ∃ qs, PrL Γ w kvs vs qs
  | [], _, _, .nil, h, _ => by
    cases h
    exact ⟨[], .nil⟩
  | x :: r, _, _, .cons rv rt, h, ha => by
    cases x with
    | tup ys =>
      match ys, h, rv with
      | [k, a], h, rv =>
        obtain ⟨l, e1, rfl⟩ := Option.map_eq_some_iff.mp (show (prsA r).map ((k, a) :: ·) = _ from h)
        obtain ⟨ha1, ha2⟩ := and_t ha
        obtain ⟨qs, h1⟩ := prs_ok rt e1 ha2
        cases rv with
        | tup n hb rr =>
          cases rr with
          | cons rk rr2 =>
            cases rr2 with
            | cons ra rr3 =>
              cases rr3
              cases hk : kyOf k with
              | none => simp only [hk] at ha1; cases ha1
              | some z =>
                cases z with
                | inl k0 => simp only [hk] at ha1; cases ha1
                | inr ks =>
                  rcases kyOf_ok rk hk with ⟨k', e, _⟩ | ⟨ks', kb, e, e2, e3, e4⟩
                  · cases e
                  · cases e
                    subst e2 e4
                    exact ⟨_, .cons hb e3 ra h1⟩
      | [], h, _ => cases h
      | [_], h, _ => cases h
      | _ :: _ :: _ :: _, h, _ => cases h
    | _ => cases h
def mrgV (qs : List (List Key × Addr × V)) (acc : List (List Key × V)) : List (List Key × V) := qs.foldl (fun a q => putK a q.1 q.2.2) acc
theorem mrgV_len : ∀ (qs : List (List Key × Addr × V)) (acc : List (List Key × V)), (mrgV qs acc).length ≤ acc.length + qs.length
  | [], acc => by unfold mrgV; simp
  | q :: r, acc => by
    have h := mrgV_len r (putK acc q.1 q.2.2)
    have h2 : (putK acc q.1 q.2.2).length ≤ acc.length + 1 := by unfold putK; split <;> simp
    show (mrgV r (putK acc q.1 q.2.2)).length ≤ acc.length + (r.length + 1)
    omega
theorem PrL.len {Γ : Cfg} {w : Wd} : ∀ {kvs : List (A × A)} {vs : List V} {qs : List (List Key × Addr × V)}, PrL Γ w kvs vs qs → qs.length = vs.length
  | _, _, _, .nil => rfl
  | _, _, _, .cons _ _ _ t => by rw [List.length_cons, List.length_cons, PrL.len t]
theorem prl_raw {Γ : Cfg} {w : Wd} {P : Program} {w0 : World} {h : Heap} (ok : HOk P w0 w.H h) : ∀ {kvs : List (A × A)} {vs : List V} {qs : List (List Key × Addr × V)} {us : List Value}, PrL Γ w kvs vs qs → Vals vs us →
    ∃ ps : List (List Key × Addr × Value), ps.length = us.length ∧ (∀ (j : Nat) (x : List Key × Addr × Value), ps[j]? = some x → ∃ b, us[j]? = some (.ref b) ∧ h.IsTuple b #[.ref x.2.1, x.2.2] ∧ (tupleKind (mixKind P w0)).is h x.1 x.2.1) ∧
      ∀ (aA : List (A × A)) (acc : List (List Key × V)) (xs : List (List Key × Addr × Value)), RkT Γ w aA acc → KT w.H acc xs → RkT Γ w (kvs.foldl (fun a kv => dPut a kv.1 kv.2) aA) (mrgV qs acc) ∧ KT w.H (mrgV qs acc) (storedAllH xs ps)
  | _, _, _, _, .nil, .nil => ⟨[], rfl, fun j x h => by simp at h, fun aA acc xs h1 h2 => ⟨h1, h2⟩⟩
  | _, _, _, _, .cons (ks := ks) (kb := kb) (b := b) (a := a) (v := v) hb hk ra t, .cons r rt => by
    obtain ⟨ps, h1, h2, h3⟩ := prl_raw ok t rt
    cases r
    obtain ⟨_, its, rv, o, g1, g2, n, g3⟩ := (show ObjOk P w0 w.H h b (.tup [.ref kb, v]) from ok b _ hb)
    cases rv with
    | cons r1 r2 =>
      cases r2 with
      | @cons _ u _ _ r2 r3 =>
        cases r3
        cases r1
        refine ⟨(ks, kb, u) :: ps, by simp [h1], fun j x hx => ?_, fun aA acc xs q1 q2 => ?_⟩
        · cases j with
          | zero =>
            simp at hx
            subst hx
            exact ⟨b, rfl, ⟨o, g1, g2, n, g3⟩, key_of ok hk⟩
          | succ j => exact h2 j x (by simpa using hx)
        · exact h3 _ _ _ (RkT.put (kyOf_t ks) rfl ra q1) (q2.put ks hk r2)
section
variable {X : Cx}
theorem ca_dict (hc : X.calm = true) (hu : X.A.in1.in1.units < cLine) (fin : Bool) : CallA X (.type "dict") (dictM fin) := ⟨fun W tk pins s σ w as xs us Q I rl rv r o => by
  match as, rv, o with
  | [a], .cons ra .nil, o =>
    have o : Out (cf X) W σ (Rv (cf X)) w Q (match lstOf a w.S with
      | some xs => match prsA xs with
        | some kvs => if allTk kvs = true ∧ kvs.length < 100000 then (if fin = true then .ok (.fd (mrgA kvs)) w.S else newM (.dic (mrgA kvs)) w.S) else .no
        | none => .no
      | none => .no) := o
    cases el : lstOf a w.S with
    | none => simp only [el] at o; exact o.elim
    | some ys =>
      simp only [el] at o
      cases ep : prsA ys with
      | none => simp only [ep] at o; exact o.elim
      | some kvs =>
        simp only [ep] at o
        split at o
        · rename_i hcond
          obtain ⟨p, vs, e, sq, rvs⟩ := lst_ok rl ra el
          subst e
          obtain ⟨qs, pl⟩ := prs_ok rvs ep hcond.1
          obtain ⟨u, eu, rx⟩ := vals1 r
          subst eu
          cases rx
          obtain ⟨its, rvi, pl2, hz⟩ := I.list sq
          obtain ⟨ps, hl, hps, hmer⟩ := prl_raw I.hok pl rvi
          obtain ⟨hm1, hm2⟩ := hmer [] [] [] .nil .nil
          obtain ⟨o', n, ho, hcl, hd, hdat⟩ := pl2
          have lv : vs.length = its.length := rvi.length
          have hpi : PairItems s.heap its.toArray (fun j => match its[j]? with | some (.ref b) => b | _ => 0) (ps.map fun x => (Value.ref x.2.1, x.2.2)) := by
            refine ⟨by simp [hl], fun j k v hj => ?_⟩
            rw [List.getElem?_map] at hj
            obtain ⟨x, hx, e⟩ := Option.map_eq_some_iff.mp hj
            cases e
            obtain ⟨b, h1, h2, _⟩ := hps j x hx
            have e2 : (fun j : Nat => match its[j]? with | some (Value.ref b) => b | _ => 0) j = b := by
              show (match its[j]? with | some (Value.ref b) => b | _ => 0) = b
              rw [h1]
            rw [e2]
            exact ⟨by simpa using h1, .inl h2⟩
          refine call_dict_pairsH (knd := tupleKind (mixKind X.prog X.w)) (ps := ps) (PairArg.list p its.toArray _ (ps.map fun x => (Value.ref x.2.1, x.2.2))) (I.ok.hd hc) hu ⟨⟨o', n, ho, hcl, hd, hdat⟩, hpi⟩ ⟨by simp, fun i key v hr => ?_⟩ (fun h' hk x hx => ?_) ?_ fun h' tk hd' hk => ?_
          · have hr : (ps.map fun x => (Value.ref x.2.1, x.2.2))[i]? = some (key, v) := hr
            rw [List.getElem?_map] at hr
            obtain ⟨x, hx, e⟩ := Option.map_eq_some_iff.mp hr
            cases e
            exact ⟨_, _, hx, rfl⟩
          · obtain ⟨j, hj⟩ := List.getElem?_of_mem hx
            obtain ⟨b, _, _, h3⟩ := hps j x hj
            exact tupleKind_stays.stays (fun b o _ _ e _ => hk b o (Nat.ne_of_lt (Heap.lt_size e)) (fun z => nomatch z) e) h3
          · rw [List.length_map, hl, ← lv]
            exact hz
          · have hm : (s.heap.objs.size == sysModules) = false := beq_eq_false_iff_ne.mpr (Nat.ne_of_gt I.big)
            have hn : w.H s.heap.objs.size = none := I.hok.fresh (Nat.le_refl _)
            have hlen : (mrgV qs []).length ≤ sizeLine := Nat.le_trans (mrgV_len qs []) (by rw [List.length_nil, Nat.zero_add, pl.len]; exact hz)
            obtain ⟨od, des, dep, g1, g2, g3, g4, _, g5⟩ := hd'
            have I2 : Inv X pins σ (upd w.H s.heap.objs.size (.dT (mrgV qs []))) { s with heap := h', toks := tk } := I.laid (t' := tk) (fun b o e => hk b o (fun z => nomatch z) e) (Nat.le_refl _) ⟨hlen, hm, storedAllH [] ps, hm2.keeps fun b ys e => by rw [upd_ne (ne_of_none e hn)]; exact e, od, des, dep, g1, g2, g3, g4, g5⟩
            refine ⟨.ref s.heap.objs.size, _, I2, rfl, ?_⟩
            cases fin with
            | true =>
              rw [if_pos rfl] at o
              exact o.use (w' := ⟨w.ι, w.S, upd w.H s.heap.objs.size (.dT (mrgV qs [])), w.x⟩) rfl (Ex.laid rl hn) (rl.laid hn) (.fdT (fun z => rl.fresh hn z) (.inl upd_same) (hm1.ex (Ex.laid rl hn)))
            | false =>
              rw [if_neg Bool.false_ne_true] at o
              exact o.new rl hn (.inl ⟨_, upd_same, hm1.ex (Ex.new rl hn)⟩)
        · exact o.elim⟩
end
theorem uin {k : Nat} {A : Around} (r : Room k A) : A.in1.in1.units < cLine := by
  have := r.un
  simp only [Around.in1_units]
  omega
/-! ### list(d.items()), keys tuples -/
def itmA (kvs : List (A × A)) : List A := kvs.map fun p => .tup [p.1, p.2]
def itsM (a : A) : M A := fun S => match dicOf a S with
  | some kvs => if allTk kvs = true then .ok (.fl (itmA kvs)) S else .no
  | none => .no
def itsE (me : Lo → M A) (ρ : Lo) : M A := bnd (me ρ) itsM
def DTy (H : Hp) (d : Addr) (kvs : List (List L2.Key × V)) : Prop := Rd H d (.dT kvs) ∨ (kvs = [] ∧ Rd H d (.dK []))
theorem dt_any {P : Program} {w : World} {H : Hp} {h : Heap} {a : Addr} {kvs : List (List Key × V)} (ok : HOk P w H h) (e : DTy H a kvs) : kvs.length ≤ sizeLine ∧ (a == sysModules) = false ∧ ∃ xs, KT H kvs xs ∧ h.DictOfH (tupleKind (mixKind P w)) a xs := by
  rcases e with e | ⟨rfl, e⟩
  · exact dt_rd ok e
  · exact ⟨Nat.zero_le _, (emptyT ok e).1, [], .nil, (emptyT ok e).2⟩
/-- .. of a dict that may be locked -/
def tItR (te : TE) : TE := fun σ H Q => te σ H fun x H1 => ∃ (d : Addr) (kvs : List (List L2.Key × V)), x = .ref d ∧ DTy H1 d kvs ∧
  ∀ ks : List Addr, Paired (fun (kv : List L2.Key × V) (k : Addr) => H1 k = some (.tup (kv.1.map kV))) kvs ks →
  ∀ (H' : Hp) (p : Addr) (ts : List Addr), Kp [] H1 H' → H' p = some (.lst (ts.map V.ref)) → Paired (fun (t : Addr) (q : V × V) => H' t = some (.tup [q.1, q.2])) ts ((kvs.zip ks).map fun z => (V.ref z.2, z.1.2)) → H1 p = none → (∀ t ∈ ts, H1 t = none) → Q (.ref p) H'
section
variable {X : Cx} {G : Gs} {e : Expr} {te : TE} {me : Lo → M A} {p apos cpos pos : Pos}
theorem pe_itR (hc : X.calm = true) (he : PE X e te) (hg : Gl X "list") (hm : X.mg "list" = none) (hv : bootBuiltins "list" = some (.type "list")) (hbase : attributeBase e "items" X.env (eval e X.env) = eval e X.env := by rfl) (hline : (apos.endLine == cpos.line) = true := by rfl)
    (hs : starEach [.Call (.Attribute e "items" apos) [] [] cpos] X.env = (false, eval (.Call (.Attribute e "items" apos) [] [] cpos) X.env) :: starEach [] X.env := by rfl) :
    PE X (.Call (.Name "list" p) [.Call (.Attribute e "items" apos) [] [] cpos] [] pos) (tItR te) := by
  refine ⟨fun pins s σ H Q I hq => ?_⟩
  refine wpAny_Call_Name_kw (ld_blt I hg hm hv ?_)
  refine PyProof.Rows.callWith_type1 ?_ hs rfl
  rw [hs]
  show wpAny _ _ (spliced ((false, eval (.Call (.Attribute e "items" apos) [] [] cpos) X.env) :: backTo pos (starEach [] X.env))) _ _ s
  refine Calls.spliced_cons ?_
  refine wpAny_Call_method (T := "dict") (id := "dict.items") hbase rfl hline F.plainAttrs_dict F.slot_dict_items F.type_dict_items (thn (he.run pins s σ H _ I hq) fun u s1 ⟨x, H1, I1, rx, d, kvs, ex, hd, q⟩ => ?_)
  subst ex
  obtain rfl : u = Value.ref d := rx
  obtain ⟨z, hsm, xs, rel, o, es, ep, ho, hx, hdat, hes, his, hnd⟩ := dt_any I1.hok hd
  have hraw : DT.Raw s1.heap d es ep := ⟨o, ho, hx, hdat⟩
  have l1 : kvs.length = xs.length := Paired.length rel
  have l2 : es.size = xs.length := size_of_entries hes
  have I2 : Inv X pins σ H1 { s1 with heap := s1.heap.push { cls := .type "dict_items", data := .fields #[.ref d] } } := I1.kept (t' := s1.toks) fun b ob q => Heap.get?_push_of_some _ q
  refine ⟨hraw.typeIs, fun a ea => by
    cases ea
    exact ⟨_, ho, hx.2.1⟩, ?_⟩
  show wpAny _ _ (callWith cpos (.builtin "dict.items") [.ref d] [] []) _ X.xe s1
  refine method_meetsIn F.slot_dict_items F.entry_dict_items rfl (PySem.evalArgs_none ⟨rfl, hraw.typeIs, F.args_dict_items_1 _, _, DT.meetsItems hsm, hraw, ?_⟩)
  refine Calls.spliced_nil ?_
  refine list_items (es := es) (ep := ep) (I1.ok.hd hc) ⟨_, Heap.get?_push_size _ rfl, rfl, rfl⟩ (hraw.push _) (by omega) fun h' tk acc c as hk hS hl hG hacc => ?_
  have lz : ((kvs.zip (xs.map (·.2.1))).map fun z => (V.ref z.2, z.1.2)).length = xs.length := by
    rw [List.length_map, List.length_zip, List.length_map, l1, Nat.min_self]
  have prs : Paired (fun (a : Addr) (q : V × V) => ∃ k x, h'.get? a = some { cls := .type "tuple", data := .seq #[k, x] } ∧ RelV q.1 k ∧ RelV q.2 x) as ((kvs.zip (xs.map (·.2.1))).map fun z => (V.ref z.2, z.1.2)) := by
    refine paired_at (by rw [lz]; omega) fun j a b ha hb => ?_
    obtain ⟨en, he', hg'⟩ := hG.pairs j a ha
    rw [entry_at hes j] at he'
    cases hxj : xs[j]? with
    | none =>
      rw [hxj] at he'
      cases he'
    | some x =>
      rw [hxj] at he'
      have een : entryOfKey (tupleKind (mixKind X.prog X.w)) x = en := Option.some.inj he'
      obtain ⟨e0, he0, r1, r2, r3⟩ := L2.DX.pget rel hxj
      have ez : (kvs.zip (xs.map (·.2.1)))[j]? = some (e0, x.2.1) := List.getElem?_zip_eq_some.mpr ⟨he0, by rw [List.getElem?_map, hxj] <;> rfl⟩
      rw [List.getElem?_map, ez] at hb
      cases hb
      rw [← een] at hg'
      exact ⟨_, _, hg', rfl, r3⟩
  obtain ⟨H', k1, k2, k3, J⟩ := pairs_laid (X := X) (tk := tk) I2 (by rw [lz]; omega) hk hS hG.rise hG.above prs hacc
  exact ⟨.ref _, H', J, rfl, q _ (keys_of (P := X.prog) (w := X.w) rel) H' _ as k1 k2 k3 (I2.hok.fresh (Nat.le_refl _)) (fun t ht => I2.hok.fresh (Nat.le_of_lt (hG.above t ht)))⟩

theorem its_rel {Γ : Cfg} {w w' : Wd} (ex : Ex w w') (rt : ∀ b ys, w'.H b = some (.tup ys) → w.H b = none → ¬ w'.Lv b) (rk : ∀ b ys, w'.H b = some (.tup ys) → ¬ w'.Lv b) : ∀ {kvs : List (A × A)} {kv : List (List Key × V)} {ks ts : List Addr}, RkT Γ w kvs kv → Paired (fun (kv : List L2.Key × V) (k : Addr) => w.H k = some (.tup (kv.1.map kV))) kv ks →
    Paired (fun (t : Addr) (q : V × V) => w'.H t = some (.tup [q.1, q.2])) ts ((kv.zip ks).map fun z => (V.ref z.2, z.1.2)) → (∀ (k : Addr) (y : List Key), w.H k = some (.tup (y.map kV)) → w'.H k = some (.tup (y.map kV))) → Rvs Γ w' (itmA kvs) (ts.map V.ref)
  | _, _, _, _, .nil, .nil, .nil, _ => .nil
  | _, _, _, _, .cons (k := k) h t, .cons hk tk, hp, kp => by
    cases hp with
    | cons hp tp =>
      refine .cons ?_ (its_rel ex rt rk t tk tp kp)
      exact .tup (rk _ _ hp) hp (.cons (.tup (rk _ _ (kp _ _ hk)) (kp _ _ hk) (rvs_keys _)) (.cons (h.ex ex) .nil))
theorem ae_its (hc : X.calm = true) (hg : Gl X "list") (hm : X.mg "list" = none) (hv : bootBuiltins "list" = some (.type "list")) (he : AE X G e me) (hbase : attributeBase e "items" X.env (eval e X.env) = eval e X.env := by rfl) (hline : (apos.endLine == cpos.line) = true := by rfl)
    (hs : starEach [.Call (.Attribute e "items" apos) [] [] cpos] X.env = (false, eval (.Call (.Attribute e "items" apos) [] [] cpos) X.env) :: starEach [] X.env := by rfl) :
    AE X G (.Call (.Name "list" p) [.Call (.Attribute e "items" apos) [] [] cpos] [] pos) (itsE me) := fun W tk => (pe_itR hc (he W tk) hg hm hv hbase hline hs).imp fun σ H Q q => aG_step (R := Rv (cf X)) q fun w1 ρ a x st1 rv o => by
  unfold itsM at o
  cases hd : dicOf a w1.S with
  | none => simp only [hd] at o; exact o.elim
  | some kvs =>
    simp only [hd] at o
    split at o
    · rename_i htk
      obtain ⟨d, rfl, hdd⟩ := dic_ok st1.rel rv hd
      have goT : ∀ kv, DTy w1.H d kv → RkT (cf X) w1 kvs kv → ∃ (d' : Addr) (kvs : List (List L2.Key × V)), V.ref d = .ref d' ∧ DTy w1.H d' kvs ∧ ∀ ks : List Addr, Paired (fun (kv : List L2.Key × V) (k : Addr) => w1.H k = some (.tup (kv.1.map kV))) kvs ks → ∀ (H' : Hp) (p : Addr) (ts : List Addr), Kp [] w1.H H' → H' p = some (.lst (ts.map V.ref)) → Paired (fun (t : Addr) (q : V × V) => H' t = some (.tup [q.1, q.2])) ts ((kvs.zip ks).map fun z => (V.ref z.2, z.1.2)) → w1.H p = none → (∀ t ∈ ts, w1.H t = none) → Q (.ref p) H' := fun kv h1 h2 => by
        refine ⟨d, kv, rfl, h1, fun ks hks H' p ts hk hp hts np nt => ?_⟩
        have en : LamX.ExtN w1.H H' := fun b u e _ => hk b u (fun z => nomatch z) e
        have ex := Ex.extN st1.rel en
        have rl := st1.rel.extN en (st1.rel.g.tb.ext fun b u e => hk b u (fun z => nomatch z) e)
        have nl : ¬ Wd.Lv ⟨w1.ι, w1.S, H', w1.x⟩ p := fun z => st1.rel.fresh np z
        refine o.use (w' := ⟨w1.ι, w1.S, H', w1.x⟩) rfl ex rl (.fl nl (.inl hp) ?_)
        exact its_rel ex (fun b ys h _ => rl.tupN _ _ h) (fun b ys h => rl.tupN _ _ h) h2 hks hts fun k y h => hk k _ (fun z => nomatch z) h
      rcases hdd with ⟨kv, h1, h2⟩ | ⟨kv, h1, h2⟩
      · exact goT kv (.inl h1) h2
      · cases h2 with
        | nil => exact goT [] (.inr ⟨rfl, h1⟩) .nil
        | cons _ _ =>
          have z := (and_t htk).1
          rw [kyOf_k] at z
          cases z
    · exact o.elim
end
end FL

/-! ## A33: {} -/
namespace FL
open PySem PySem.Spec PyProof.Rows L2
variable [LT]
def dic0 (_ : Lo) : M A := newM (.dic [])
def fd0 (_ : Lo) : M A := ret (.fd [])
section
variable {X : Cx} {G : Gs} {pos : Pos}
theorem ae_dic0 : AE X G (.Dict [] [] pos) dic0 := fun W tk => pe_dnewK.imp fun σ H Q q => by
  obtain ⟨w, ρ, rfl, st, o⟩ := q
  exact fun p hp => o.new st.rel hp (.inr ⟨[], upd_same, .nil⟩)
theorem ae_fd0 : AE X G (.Dict [] [] pos) fd0 := fun W tk => pe_dnewK.imp fun σ H Q q => by
  obtain ⟨w, ρ, rfl, st, o⟩ := q
  exact fun p hp => o.use (w' := ⟨w.ι, w.S, upd w.H p (.dK []), w.x⟩) rfl (Ex.laid st.rel hp) (st.rel.laid hp) (.fdK (fun z => st.rel.fresh hp z) (.inl upd_same) .nil)
end
end FL

/-! ## A34: more of the meaning evaluated by simp -/
namespace FL
open PySem L2
theorem u64 {k : Nat} {A : Around} (r : Room k A) : A.units + 64 < cLine := by have := r.un; omega
theorem u0 {k : Nat} {A : Around} (r : Room k A) : A.units < cLine := by have := r.un; omega
variable [LT]
section
variable {α β : Type}
/-! ### match on an outcome, a condition within -/
/-- the method m of a, called with what k gives -/
def mcall (mt : Str → Str → Option (List A → M A)) (m : Str) (a : A) (k : M (List A)) : M A := fun S => match insOf a S with
  | some (C, fs) => match fs.lookup m with
    | none => match mt C m with
      | some F => bnd k (fun as => F (a :: as)) S
      | none => .no
    | some _ => .no
  | none => .no
@[simp] theorem x_methE (mt : Str → Str → Option (List A → M A)) (m : Str) (mo : Lo → M A) (ml : Lo → M (List A)) (ρ : Lo) : methE mt m mo ml ρ = bnd (mo ρ) fun a => mcall mt m a (ml ρ) := rfl
@[simp] theorem x_mcall (mt : Str → Str → Option (List A → M A)) (m : Str) (C : Str) (fs : List (Str × A)) (k : M (List A)) (S : Sto) : mcall mt m (.obj C fs) k S = match fs.lookup m with
    | none => match mt C m with
      | some F => bnd k (fun as => F (.obj C fs :: as)) S
      | none => .no
    | some _ => .no := rfl
theorem mcall_ref {mt : Str → Str → Option (List A → M A)} {m : Str} {j : Nat} {C : Str} {fs : List (Str × A)} {k : M (List A)} {S : Sto} (h : S[j]? = some (.ins C fs)) : mcall mt m (.ref j) k S = match fs.lookup m with
    | none => match mt C m with
      | some F => bnd k (fun as => F (.ref j :: as)) S
      | none => .no
    | some _ => .no := by
  unfold mcall
  simp only [insRef h]
@[simp] theorem x_slE (ma : Lo → M A) (ml mh : Lo → M (Option Int)) (ρ : Lo) : slE ma ml mh ρ = bnd (ma ρ) fun a => bnd (ml ρ) fun l => bnd (mh ρ) fun h => slM a l h := rfl
@[simp] theorem x_noPart (ρ : Lo) : noPart ρ = ret none := rfl
@[simp] theorem x_partOf (i : Int) (ρ : Lo) : partOf (cst (.int i)) ρ = ret (some i) := rfl
theorem partOf_ok {me : Lo → M A} {ρ : Lo} {S S' : Sto} {i : Int} (h : me ρ S = .ok (.int i) S') : partOf me ρ S = .ok (some i) S' := by
  unfold partOf
  simp [h]
@[simp] theorem x_slT (xs : List A) (lo hi : Option Int) (S : Sto) : slM (.tup xs) lo hi S = .ok (.tup (cutA xs lo hi)) S := rfl
@[simp] theorem x_slF (xs : List A) (lo hi : Option Int) (S : Sto) : slM (.fl xs) lo hi S = .ok (.fl (cutA xs lo hi)) S := rfl
@[simp] theorem x_cut1 (a : A) (xs : List A) : cutA (a :: xs) (some 1) none = xs := by
  have e : HT.sIx (a :: xs).length 0 (some 1) = 1 := by
    have := HT.sIx_nat (a :: xs).length 0 1
    simp at this
    simpa using this
  unfold cutA
  rw [e, HT.sIx_none]
  simp
@[simp] theorem x_cut0 : cutA [] (some 1) none = [] := by
  unfold cutA
  simp
@[simp] theorem x_itE (me : Lo → M A) (ρ : Lo) : itE me ρ = bnd (me ρ) itemsW := rfl
@[simp] theorem x_itT (xs : List A) (S : Sto) : itemsW (.tup xs) S = .ok xs S := rfl
@[simp] theorem x_itF (xs : List A) (S : Sto) : itemsW (.fl xs) S = .ok xs S := rfl
@[simp] theorem x_itD (kvs : List (A × A)) (S : Sto) : itemsW (.fd kvs) S = .ok (kvs.map Prod.fst) S := rfl
theorem itL {S : Sto} {k : Nat} {xs : List A} (h : S[k]? = some (.llst xs)) : itemsW (.ref k) S = .ok xs S := by
  unfold itemsW
  simp only [h]
@[simp] theorem x_rng1 (ml : Lo → M (List A)) (ρ : Lo) : rng1 ml ρ = bnd (ml ρ) fun
  | [.int j] => guard (small j) (ret (rngL 0 j.toNat))
  | _ => fail := rfl
@[simp] theorem x_forS (t : Tg) (mi : Lo → M (List A)) (b : SM) : forS t mi b = letG mi fun xs => forL t b xs := rfl
@[simp] theorem x_for0 (t : Tg) (b : SM) (ρ : Lo) (S : Sto) : forL t b [] ρ S = .nx ρ S := rfl
theorem for1 (t : Tg) (b : SM) (x : A) (r : List A) (ρ : Lo) (S : Sto) : forL t b (x :: r) ρ S = match t x ρ with
    | some ρ' => turn (b ρ' S) (forL t b r)
    | none => .no := rfl
theorem forN (i : Nat) (b : SM) (x : A) (r : List A) (ρ : Lo) (S : Sto) : forL (asgN i) b (x :: r) ρ S = turn (b (ρ.set i (some x)) S) (forL (asgN i) b r) := rfl
@[simp] theorem x_turn_nx (ρ : Lo) (S : Sto) (k : SM) : turn (.nx ρ S) k = k ρ S := rfl
@[simp] theorem x_turn_ct (ρ : Lo) (S : Sto) (k : SM) : turn (.ct ρ S) k = k ρ S := rfl
@[simp] theorem x_turn_bk (ρ : Lo) (S : Sto) (k : SM) : turn (.bk ρ S) k = .nx ρ S := rfl
@[simp] theorem x_turn_rt (a : A) (S : Sto) (k : SM) : turn (.rt a S) k = .rt a S := rfl
@[simp] theorem x_turn_ex (C : Str) (fs : List (Str × A)) (ρ : Lo) (S : Sto) (k : SM) : turn (.ex C fs ρ S) k = .ex C fs ρ S := rfl
theorem while1 (c : Lo → M Bool) (b : SM) (n : Nat) (ρ : Lo) (S : Sto) : whileS c b (n + 1) ρ S = match c ρ S with
  | .ok z S' => if z = true then turn (b ρ S') (whileS c b n) else .nx ρ S'
  | .ex C fs S' => .ex C fs ρ S'
  | .no => .no := by
  show letG c (fun z ρ S => if z = true then turn (b ρ S) (whileS c b n) else .nx ρ S) ρ S = _
  unfold letG
  cases c ρ S <;> rfl
@[simp] theorem x_lmE (g : A → List A → M A) (mo : Lo → M A) (ml : Lo → M (List A)) (ρ : Lo) : lmE g mo ml ρ = bnd (mo ρ) fun a S => match lstOf a S with
  | some _ => bnd (ml ρ) (fun as => g a as) S
  | none => .no := rfl
theorem lstL' {S : Sto} {k : Nat} {xs : List A} (h : S[k]? = some (.lst xs)) : lstOf (.ref k) S = some xs := by
  unfold lstOf
  simp only [h]
theorem lstLk {S : Sto} {k : Nat} {xs : List A} (h : S[k]? = some (.llst xs)) : lstOf (.ref k) S = some xs := by
  unfold lstOf
  simp only [h]
@[simp] theorem x_lstFl (xs : List A) (S : Sto) : lstOf (.fl xs) S = some xs := rfl
theorem appL {S : Sto} {k : Nat} {xs : List A} {b : A} (h : S[k]? = some (.lst xs)) (hl : xs.length < 100000) : appM (.ref k) [b] S = .ok .non (S.set k (.lst (xs ++ [b]))) := by
  unfold appM updM
  simp only [h, hl, if_true]
theorem insL {S : Sto} {k : Nat} {xs : List A} {b : A} {i : Int} (h : S[k]? = some (.lst xs)) (hl : xs.length < 100000) (h0 : 0 ≤ i) (h1 : i < 100000) : insM (.ref k) [.int i, b] S = .ok .non (S.set k (.lst (xs.take i.toNat ++ [b] ++ xs.drop i.toNat))) := by
  unfold insM updM
  simp only [h, hl, h0, h1, true_and, and_self, if_true]
theorem frz_lst {i k : Nat} {ρ : Lo} {S : Sto} {m : SM} {xs : List A} (h1 : ρ[i]? = some (some (.ref k))) (h2 : S[k]? = some (.lst xs)) : frzS i m ρ S = m (ρ.set i (some (.fl xs))) (S.set k .dead) := by
  unfold frzS frzA
  simp only [h1, h2]
theorem frz_dic {i k : Nat} {ρ : Lo} {S : Sto} {m : SM} {xs : List (A × A)} (h1 : ρ[i]? = some (some (.ref k))) (h2 : S[k]? = some (.dic xs)) : frzS i m ρ S = m (ρ.set i (some (.fd xs))) (S.set k .dead) := by
  unfold frzS frzA
  simp only [h1, h2]
theorem lock_lst {i k : Nat} {ρ : Lo} {S : Sto} {m : SM} {xs : List A} (h1 : ρ[i]? = some (some (.ref k))) (h2 : S[k]? = some (.lst xs)) : lockS i m ρ S = unlO k xs (m ρ (S.set k (.llst xs))) := by
  unfold lockS
  simp only [h1, h2]
@[simp] theorem x_unl_nx (k : Nat) (xs : List A) (ρ : Lo) (S : Sto) : unlO k xs (.nx ρ S) = .nx ρ (S.set k (.lst xs)) := rfl
@[simp] theorem x_unl_rt (k : Nat) (xs : List A) (a : A) (S : Sto) : unlO k xs (.rt a S) = .rt a (S.set k (.lst xs)) := rfl
@[simp] theorem x_dic0 (ρ : Lo) : dic0 ρ = newM (.dic []) := rfl
@[simp] theorem x_fd0 (ρ : Lo) : fd0 ρ = ret (.fd []) := rfl
@[simp] theorem x_isN (neg : Bool) (a : A) : isM neg a .non = ret (.bl (isA a != neg)) := rfl
@[simp] theorem x_isA_non : isA .non = true := rfl
@[simp] theorem x_isA_obj (C : Str) (fs : List (Str × A)) : isA (.obj C fs) = false := rfl
@[simp] theorem x_isA_tup (xs : List A) : isA (.tup xs) = false := rfl
@[simp] theorem x_isA_int (i : Int) : isA (.int i) = false := rfl
@[simp] theorem x_ltT (xs ys : List A) (S : Sto) : ltM (.tup xs) (.tup ys) S = match intsOf xs, intsOf ys with
    | some ns, some ms => .ok (.bl (HT.lexLt ns ms)) S
    | _, _ => .no := by
  show (match intsOf xs, intsOf ys with
    | some ns, some ms => ret (A.bl (HT.lexLt ns ms))
    | _, _ => fail) S = _
  cases intsOf xs <;> cases intsOf ys <;> rfl
@[simp] theorem x_ltI (i j : Int) (S : Sto) : ltI (.int i) (.int j) S = .ok (.bl (decide (i < j))) S := rfl
@[simp] theorem x_lenT (xs : List A) (S : Sto) : lenM [.tup xs] S = .ok (.int xs.length) S := rfl
@[simp] theorem x_lenF (xs : List A) (S : Sto) : lenM [.fl xs] S = .ok (.int xs.length) S := rfl
@[simp] theorem x_lenD (xs : List (A × A)) (S : Sto) : lenM [.fd xs] S = .ok (.int xs.length) S := rfl
theorem lenL {S : Sto} {k : Nat} {xs : List A} (h : S[k]? = some (.lst xs)) : lenM [.ref k] S = .ok (.int xs.length) S := by
  have e1 : dicOf (.ref k) S = none := by unfold dicOf; simp only [h]
  have e2 : seqOf (.ref k) S = some xs := by unfold seqOf lstOf; simp only [h]
  show (match dicOf (.ref k) S with
    | some kvs => Rs.ok (A.int kvs.length) S
    | none => match seqOf (.ref k) S with
      | some xs => .ok (.int xs.length) S
      | none => .no) = _
  simp only [e1, e2]
theorem lenLk {S : Sto} {k : Nat} {xs : List A} (h : S[k]? = some (.llst xs)) : lenM [.ref k] S = .ok (.int xs.length) S := by
  have e1 : dicOf (.ref k) S = none := by unfold dicOf; simp only [h]
  have e2 : seqOf (.ref k) S = some xs := by unfold seqOf lstOf; simp only [h]
  show (match dicOf (.ref k) S with
    | some kvs => Rs.ok (A.int kvs.length) S
    | none => match seqOf (.ref k) S with
      | some xs => .ok (.int xs.length) S
      | none => .no) = _
  simp only [e1, e2]
@[simp] theorem x_listD (fin : Bool) (kvs : List (A × A)) (S : Sto) : listM fin [.fd kvs] S = if fin = true then .ok (.fl (keysA kvs)) S else newM (.lst (keysA kvs)) S := rfl
@[simp] theorem x_addT (xs ys : List A) (S : Sto) : addA (.tup xs) (.tup ys) S = if xs.length + ys.length < 100000 then .ok (.tup (xs ++ ys)) S else .no := rfl
@[simp] theorem x_addF (xs ys : List A) (S : Sto) : addA (.fl xs) (.fl ys) S = if xs.length + ys.length < 100000 then .ok (.fl (xs ++ ys)) S else .no := rfl
@[simp] theorem x_ty_fl (b : List A) (S : Sto) : tyOf (.fl b) S = some (.b "list") := rfl
@[simp] theorem x_ty_fd (b : List (A × A)) (S : Sto) : tyOf (.fd b) S = some (.b "dict") := rfl
theorem tyL {S : Sto} {k : Nat} {xs : List A} (h : S[k]? = some (.lst xs)) : tyOf (.ref k) S = some (.b "list") := by
  unfold tyOf
  simp only [h]
@[simp] theorem x_ixD (kvs : List (A × A)) (b : A) (S : Sto) : ixM (.fd kvs) b S = if kyFit kvs b = true then match dLook kvs b with
      | some v => .ok v S
      | none => .no
    else .no := rfl
@[simp] theorem x_inD (neg : Bool) (kvs : List (A × A)) (b : A) (S : Sto) : inM neg b (.fd kvs) S = if kyFit kvs b = true then .ok (.bl ((dLook kvs b).isSome != neg)) S else .no := rfl
@[simp] theorem x_all (xs : List A) (S : Sto) : allB [.fl xs] S = match blsOf xs with
      | some bs => .ok (.bl (allF bs)) S
      | none => .no := rfl
@[simp] theorem x_any (xs : List A) (S : Sto) : anyB [.fl xs] S = match blsOf xs with
      | some bs => .ok (.bl (anyF bs)) S
      | none => .no := rfl
/-! ### comprehensions whose parts leave the store -/
theorem lcL_pure {t : Tg} {mt : Lo → M Bool} {me : Lo → M A} {ρ : Lo} {S : Sto} (g : A → Option A) : ∀ (items : List A), (∀ a ∈ items, ∃ ρ1, t a ρ = some ρ1 ∧ ((g a = none ∧ mt ρ1 S = .ok false S) ∨ ∃ b, g a = some b ∧ mt ρ1 S = .ok true S ∧ me ρ1 S = .ok b S)) → lcL t mt me ρ items S = .ok (items.filterMap g) S
  | [], _ => rfl
  | a :: r, h => by
    obtain ⟨ρ1, e1, h1⟩ := h a (List.mem_cons_self ..)
    have ih := lcL_pure (t := t) (mt := mt) (me := me) (ρ := ρ) (S := S) g r fun b hb => h b (List.mem_cons_of_mem _ hb)
    show (match t a ρ with
      | none => fail
      | some ρ1 => bnd (mt ρ1) fun b => if b = true then bnd (me ρ1) fun y => bnd (lcL t mt me ρ r) fun ys => ret (y :: ys) else lcL t mt me ρ r) S = _
    rcases h1 with ⟨g1, q⟩ | ⟨b, g1, q1, q2⟩
    · simp [e1, q, ih, List.filterMap_cons, g1]
    · simp [e1, q1, q2, ih, List.filterMap_cons, g1]
theorem lcE_pure {live : Bool} {t : Tg} {mi : Lo → M (List A)} {mt : Lo → M Bool} {me : Lo → M A} {vs : List Nat} {ρ : Lo} {S S' : Sto} {items : List A} (g : A → Option A) (hi : mi ρ S = .ok items S') (hl : items.length < 100000)
    (h : ∀ a ∈ items, ∃ ρ1, t a (wipeA ρ vs) = some ρ1 ∧ ((g a = none ∧ mt ρ1 S' = .ok false S') ∨ ∃ b, g a = some b ∧ mt ρ1 S' = .ok true S' ∧ me ρ1 S' = .ok b S')) : lcE live t mi mt me vs ρ S = putL live (items.filterMap g) S' := by
  unfold lcE
  have e := lcL_pure (t := t) (mt := mt) (me := me) g items h
  simp [hi, hl, noex, e]
theorem filterMap_some {f : A → A} (xs : List A) : xs.filterMap (fun a => some (f a)) = xs.map f := by
  induction xs with
  | nil => rfl
  | cons a r ih => simp
/-- no condition -/
theorem lcE_map {live : Bool} {t : Tg} {mi : Lo → M (List A)} {me : Lo → M A} {vs : List Nat} {ρ : Lo} {S S' : Sto} {items : List A} (f : A → A) (hi : mi ρ S = .ok items S') (hl : items.length < 100000)
    (h : ∀ a ∈ items, ∃ ρ1, t a (wipeA ρ vs) = some ρ1 ∧ me ρ1 S' = .ok (f a) S') : lcE live t mi yesT me vs ρ S = putL live (items.map f) S' := by
  rw [lcE_pure (fun a => some (f a)) hi hl fun a ha => ?_, filterMap_some]
  obtain ⟨ρ1, h1, h2⟩ := h a ha
  exact ⟨ρ1, h1, .inr ⟨f a, rfl, rfl, h2⟩⟩
/-- over a list of other things -/
theorem lcE_of {γ : Type} {live : Bool} {t : Tg} {mi : Lo → M (List A)} {mt : Lo → M Bool} {me : Lo → M A} {vs : List Nat} {ρ : Lo} {S S' : Sto} (F : γ → A) (xs : List γ) (g : γ → Option A) (hi : mi ρ S = .ok (xs.map F) S') (hl : xs.length < 100000)
    (h : ∀ x ∈ xs, ∃ ρ1, t (F x) (wipeA ρ vs) = some ρ1 ∧ ((g x = none ∧ mt ρ1 S' = .ok false S') ∨ ∃ b, g x = some b ∧ mt ρ1 S' = .ok true S' ∧ me ρ1 S' = .ok b S')) : lcE live t mi mt me vs ρ S = putL live (xs.filterMap g) S' := by
  unfold lcE
  have e : ∀ ys : List γ, (∀ x ∈ ys, x ∈ xs) → lcL t mt me (wipeA ρ vs) (ys.map F) S' = .ok (ys.filterMap g) S' := by
    intro ys
    induction ys with
    | nil => intro _; rfl
    | cons a r ih =>
      intro hy
      obtain ⟨ρ1, e1, h1⟩ := h a (hy a (List.mem_cons_self ..))
      have ih := ih fun x hx => hy x (List.mem_cons_of_mem _ hx)
      show (match t (F a) (wipeA ρ vs) with
        | none => fail
        | some ρ1 => bnd (mt ρ1) fun b => if b = true then bnd (me ρ1) fun y => bnd (lcL t mt me (wipeA ρ vs) (r.map F)) fun ys => ret (y :: ys) else lcL t mt me (wipeA ρ vs) (r.map F)) S' = _
      rcases h1 with ⟨g1, q⟩ | ⟨b, g1, q1, q2⟩
      · simp [e1, q, ih, List.filterMap_cons, g1]
      · simp [e1, q1, q2, ih, List.filterMap_cons, g1]
  simp [hi, hl, noex, e xs fun _ h => h]
theorem lcE_ofM {γ : Type} {live : Bool} {t : Tg} {mi : Lo → M (List A)} {me : Lo → M A} {vs : List Nat} {ρ : Lo} {S S' : Sto} (F : γ → A) (xs : List γ) (g : γ → A) (hi : mi ρ S = .ok (xs.map F) S') (hl : xs.length < 100000)
    (h : ∀ x ∈ xs, ∃ ρ1, t (F x) (wipeA ρ vs) = some ρ1 ∧ me ρ1 S' = .ok (g x) S') : lcE live t mi yesT me vs ρ S = putL live (xs.map g) S' := by
  rw [lcE_of F xs (fun x => some (g x)) hi hl fun x hx => ?_]
  · congr 1
    induction xs with
    | nil => rfl
    | cons a r ih => simp
  · obtain ⟨ρ1, h1, h2⟩ := h x hx
    exact ⟨ρ1, h1, .inr ⟨g x, rfl, rfl, h2⟩⟩
/-- a dict over a list of other things; the accumulated dict by acc -/
theorem dcE_of {γ : Type} {live : Bool} {t : Tg} {mi : Lo → M (List A)} {mt : Lo → M Bool} {mk mv : Lo → M A} {vs : List Nat} {ρ : Lo} {S S' : Sto} (F : γ → A) (xs : List γ) (acc : List γ → List (A × A)) (hi : mi ρ S = .ok (xs.map F) S') (hl : xs.length < 100000) (h0 : acc [] = [])
    (h : ∀ (ys : List γ) (x : γ) (zs : List γ), xs = ys ++ x :: zs → ∃ ρ1, t (F x) (wipeA ρ vs) = some ρ1 ∧ ((acc (ys ++ [x]) = acc ys ∧ mt ρ1 S' = .ok false S') ∨ ∃ k v, mt ρ1 S' = .ok true S' ∧ mk ρ1 S' = .ok k S' ∧ mv ρ1 S' = .ok v S' ∧ kyFit (acc ys) k = true ∧ acc (ys ++ [x]) = dPut (acc ys) k v)) : dcE live t mi mt mk mv vs ρ S = putD live (acc xs) S' := by
  unfold dcE
  have e : ∀ (zs ys : List γ), xs = ys ++ zs → dcL t mt mk mv (wipeA ρ vs) (zs.map F) (acc ys) S' = .ok (acc xs) S' := by
    intro zs
    induction zs with
    | nil => intro ys hy; rw [hy, List.append_nil]; rfl
    | cons a r ih =>
      intro ys hy
      obtain ⟨ρ1, e1, h1⟩ := h ys a r hy
      have ih := ih (ys ++ [a]) (by rw [hy]; simp)
      show (match t (F a) (wipeA ρ vs) with
        | none => fail
        | some ρ1 => bnd (mt ρ1) fun b => if b = true then bnd (mk ρ1) fun k => bnd (mv ρ1) fun v => guard (kyFit (acc ys) k = true) (dcL t mt mk mv (wipeA ρ vs) (r.map F) (dPut (acc ys) k v)) else dcL t mt mk mv (wipeA ρ vs) (r.map F) (acc ys)) S' = _
      rcases h1 with ⟨g1, q⟩ | ⟨k, v, q1, q2, q3, q4, g1⟩
      · rw [g1] at ih
        simp [e1, q, ih]
      · rw [g1] at ih
        simp [e1, q1, q2, q3, q4, ih]
  have e0 := e xs [] rfl
  rw [h0] at e0
  simp [hi, hl, noex, e0]
@[simp] theorem x_putF (xs : List A) (S : Sto) : putL false xs S = .ok (.fl xs) S := rfl
@[simp] theorem x_putT (xs : List A) (S : Sto) : putL true xs S = .ok (.ref S.length) (S ++ [.lst xs]) := rfl
@[simp] theorem x_putDF (xs : List (A × A)) (S : Sto) : putD false xs S = .ok (.fd xs) S := rfl
@[simp] theorem x_putDT (xs : List (A × A)) (S : Sto) : putD true xs S = .ok (.ref S.length) (S ++ [.dic xs]) := rfl
@[simp] theorem x_wipe0 (ρ : Lo) : wipeA ρ [] = ρ := rfl
@[simp] theorem x_wipe1 (ρ : Lo) (v : Nat) (vs : List Nat) : wipeA ρ (v :: vs) = (wipeA ρ vs).set v none := rfl
@[simp] theorem x_yesT (ρ : Lo) : yesT ρ = ret true := rfl
theorem dcL_pure {t : Tg} {mt : Lo → M Bool} {mk mv : Lo → M A} {ρ : Lo} {S : Sto} (g : A → Option (A × A)) : ∀ (items : List A) (acc : List (A × A)), (∀ a ∈ items, ∃ ρ1, t a ρ = some ρ1 ∧ ((g a = none ∧ mt ρ1 S = .ok false S) ∨ ∃ k v, g a = some (k, v) ∧ mt ρ1 S = .ok true S ∧ mk ρ1 S = .ok k S ∧ mv ρ1 S = .ok v S)) →
    (∀ (n : Nat) (kv : A × A), (items.filterMap g)[n]? = some kv → kyFit (((items.filterMap g).take n).foldl (fun acc q => dPut acc q.1 q.2) acc) kv.1 = true) → dcL t mt mk mv ρ items acc S = .ok ((items.filterMap g).foldl (fun acc q => dPut acc q.1 q.2) acc) S
  | [], _, _, _ => rfl
  | a :: r, acc, h, hf => by
    obtain ⟨ρ1, e1, h1⟩ := h a (List.mem_cons_self ..)
    show (match t a ρ with
      | none => fail
      | some ρ1 => bnd (mt ρ1) fun b => if b = true then bnd (mk ρ1) fun k => bnd (mv ρ1) fun v => guard (kyFit acc k = true) (dcL t mt mk mv ρ r (dPut acc k v)) else dcL t mt mk mv ρ r acc) S = _
    rcases h1 with ⟨g1, q⟩ | ⟨k, v, g1, q1, q2, q3⟩
    · have e : (a :: r).filterMap g = r.filterMap g := by simp [List.filterMap_cons, g1]
      rw [e] at hf ⊢
      have ih := dcL_pure (t := t) (mt := mt) (mk := mk) (mv := mv) (ρ := ρ) (S := S) g r acc (fun b hb => h b (List.mem_cons_of_mem _ hb)) hf
      simp [e1, q, ih]
    · have e : (a :: r).filterMap g = (k, v) :: r.filterMap g := by simp [List.filterMap_cons, g1]
      rw [e] at hf ⊢
      have f0 : kyFit acc k = true := hf 0 (k, v) rfl
      have ih := dcL_pure (t := t) (mt := mt) (mk := mk) (mv := mv) (ρ := ρ) (S := S) g r (dPut acc k v) (fun b hb => h b (List.mem_cons_of_mem _ hb)) fun n kv hn => hf (n + 1) kv hn
      simp [e1, q1, q2, q3, ih, f0]
theorem dcE_pure {live : Bool} {t : Tg} {mi : Lo → M (List A)} {mt : Lo → M Bool} {mk mv : Lo → M A} {vs : List Nat} {ρ : Lo} {S S' : Sto} {items : List A} (g : A → Option (A × A)) (hi : mi ρ S = .ok items S') (hl : items.length < 100000)
    (h : ∀ a ∈ items, ∃ ρ1, t a (wipeA ρ vs) = some ρ1 ∧ ((g a = none ∧ mt ρ1 S' = .ok false S') ∨ ∃ k v, g a = some (k, v) ∧ mt ρ1 S' = .ok true S' ∧ mk ρ1 S' = .ok k S' ∧ mv ρ1 S' = .ok v S'))
    (hf : ∀ (n : Nat) (kv : A × A), (items.filterMap g)[n]? = some kv → kyFit (((items.filterMap g).take n).foldl (fun acc q => dPut acc q.1 q.2) []) kv.1 = true) : dcE live t mi mt mk mv vs ρ S = putD live ((items.filterMap g).foldl (fun acc q => dPut acc q.1 q.2) []) S' := by
  unfold dcE
  have e := dcL_pure (t := t) (mt := mt) (mk := mk) (mv := mv) g items [] h hf
  simp [hi, hl, noex, e]
/-! ### kinds -/
@[simp] theorem x_kitNil (cs : Str → Bool) (sub : Str → Str → Bool) (t : TyN) : kitAl cs sub t [] = some false := rfl
@[simp] theorem x_kitCons (cs : Str → Bool) (sub : Str → Str → Bool) (t : TyN) (c : A) (r : List A) : kitAl cs sub t (c :: r) = match kitM cs sub t c, kitAl cs sub t r with
    | some b, some d => some (b || d)
    | _, _ => none := rfl
@[simp] theorem x_kb (cs : Str → Bool) (sub : Str → Str → Bool) (t n : String) : kitM cs sub (.b t) (.ty n) = kitB t n := rfl
@[simp] theorem kb_NoneType_bool : kitB "NoneType" "bool" = some false := by decide +kernel
@[simp] theorem kb_NoneType_int : kitB "NoneType" "int" = some false := by decide +kernel
@[simp] theorem kb_NoneType_str : kitB "NoneType" "str" = some false := by decide +kernel
@[simp] theorem kb_NoneType_tuple : kitB "NoneType" "tuple" = some false := by decide +kernel
@[simp] theorem kb_NoneType_list : kitB "NoneType" "list" = some false := by decide +kernel
@[simp] theorem kb_NoneType_dict : kitB "NoneType" "dict" = some false := by decide +kernel
@[simp] theorem kb_bool_bool : kitB "bool" "bool" = some true := by decide +kernel
@[simp] theorem kb_bool_int : kitB "bool" "int" = some true := by decide +kernel
@[simp] theorem kb_bool_str : kitB "bool" "str" = some false := by decide +kernel
@[simp] theorem kb_bool_tuple : kitB "bool" "tuple" = some false := by decide +kernel
@[simp] theorem kb_bool_list : kitB "bool" "list" = some false := by decide +kernel
@[simp] theorem kb_bool_dict : kitB "bool" "dict" = some false := by decide +kernel
@[simp] theorem kb_int_bool : kitB "int" "bool" = some false := by decide +kernel
@[simp] theorem kb_int_int : kitB "int" "int" = some true := by decide +kernel
@[simp] theorem kb_int_str : kitB "int" "str" = some false := by decide +kernel
@[simp] theorem kb_int_tuple : kitB "int" "tuple" = some false := by decide +kernel
@[simp] theorem kb_int_list : kitB "int" "list" = some false := by decide +kernel
@[simp] theorem kb_int_dict : kitB "int" "dict" = some false := by decide +kernel
@[simp] theorem kb_str_bool : kitB "str" "bool" = some false := by decide +kernel
@[simp] theorem kb_str_int : kitB "str" "int" = some false := by decide +kernel
@[simp] theorem kb_str_str : kitB "str" "str" = some true := by decide +kernel
@[simp] theorem kb_str_tuple : kitB "str" "tuple" = some false := by decide +kernel
@[simp] theorem kb_str_list : kitB "str" "list" = some false := by decide +kernel
@[simp] theorem kb_str_dict : kitB "str" "dict" = some false := by decide +kernel
@[simp] theorem kb_tuple_bool : kitB "tuple" "bool" = some false := by decide +kernel
@[simp] theorem kb_tuple_int : kitB "tuple" "int" = some false := by decide +kernel
@[simp] theorem kb_tuple_str : kitB "tuple" "str" = some false := by decide +kernel
@[simp] theorem kb_tuple_tuple : kitB "tuple" "tuple" = some true := by decide +kernel
@[simp] theorem kb_tuple_list : kitB "tuple" "list" = some false := by decide +kernel
@[simp] theorem kb_tuple_dict : kitB "tuple" "dict" = some false := by decide +kernel
@[simp] theorem kb_list_bool : kitB "list" "bool" = some false := by decide +kernel
@[simp] theorem kb_list_int : kitB "list" "int" = some false := by decide +kernel
@[simp] theorem kb_list_str : kitB "list" "str" = some false := by decide +kernel
@[simp] theorem kb_list_tuple : kitB "list" "tuple" = some false := by decide +kernel
@[simp] theorem kb_list_list : kitB "list" "list" = some true := by decide +kernel
@[simp] theorem kb_list_dict : kitB "list" "dict" = some false := by decide +kernel
@[simp] theorem kb_dict_bool : kitB "dict" "bool" = some false := by decide +kernel
@[simp] theorem kb_dict_int : kitB "dict" "int" = some false := by decide +kernel
@[simp] theorem kb_dict_str : kitB "dict" "str" = some false := by decide +kernel
@[simp] theorem kb_dict_tuple : kitB "dict" "tuple" = some false := by decide +kernel
@[simp] theorem kb_dict_list : kitB "dict" "list" = some false := by decide +kernel
@[simp] theorem kb_dict_dict : kitB "dict" "dict" = some true := by decide +kernel
end
end FL

/-! ## A35: classes with slots: made at once, read, asked -/
namespace FL
open PySem PySem.Spec PyProof.Rows L2
variable [LT]
/-- C(..): the arguments in the slots, in order -/
def mkSl (C : Str) (ns : List Str) (as : List A) : M A := fun S => if as.length = ns.length then .ok (.ref S.length) (S ++ [.sin C (ns.zip as)]) else .no
/-- what its __init__ promises -/
def spSl (K : PySem.W.Frag) (C : Str) (n : Nat) : Sp := fun vs H Q _ => ∃ (a dx : Addr) (us : List V), vs = .ref a :: us ∧ us.length = n ∧ dx ≠ a ∧ H a = some (.ins (He.ga K C) dx []) ∧ Q .non (SlX.slH H a (He.ga K C) dx (us.map some))
structure MkS (P : Program) (w : World) (K : PySem.W.Frag) (mg : Str → Option Value) (base : Heap) (C : Str) (ns : List Str) : Prop where
  ex : mg C = some (.ref (He.ga K C)) ∧ ∃ (f : Addr) (fd : FuncData) (ps : List Str), Mk K (He.ga K C) f ∧ FnOk P w K mg base CX0 1 f fd ps (spSl K C ns.length) ∧ Binds K fd ps []
/-- the slots of the classes -/
structure SlA (K : PySem.W.Frag) (sl : Str → List Str) : Prop where
  ex : ∀ C i f, (sl C)[i]? = some f → SlX.SCls K (He.ga K C) ∧ ∃ p, SlX.Slot1 K (He.ga K C) f p i
def sinOf (a : A) (S : Sto) : Option (Str × List (Str × A)) := match a with
  | .ref k => match S[k]? with
    | some (.sin C fs) => some (C, fs)
    | _ => none
  | _ => none
theorem sinOf_ok {Γ : Cfg} {w : Wd} {a : A} {v : V} {C : Str} {fs : List (Str × A)} (rl : Rel Γ w) (rv : Rv Γ w a v) (h : sinOf a w.S = some (C, fs)) : ∃ p dx fv, v = .ref p ∧ SlX.Slt w.H p (He.ga Γ.K C) dx (fv.map fun q => some q.2) ∧ Rfs Γ w fs fv := by
  cases rv with
  | @ref k p e =>
    unfold sinOf at h
    cases es : w.S[k]? with
    | none => simp only [es] at h; cases h
    | some ob =>
      simp only [es] at h
      cases ob with
      | sin C' fs' =>
        cases h
        obtain ⟨dx, fv, e1, _, e2, r⟩ := rl.at_ k p _ e es
        exact ⟨_, _, _, rfl, .inr ⟨e1, e2⟩, r⟩
      | _ => cases h
  | _ => cases h
theorem Rfs.nth {Γ : Cfg} {w : Wd} : ∀ {fs : List (Str × A)} {fv : List (Str × V)} {i : Nat} {f : Str} {a : A}, Rfs Γ w fs fv → fs[i]? = some (f, a) → ∃ v, fv[i]? = some (f, v) ∧ Rv Γ w a v
  | _, _, 0, _, _, .cons h _, e => by simp at e; obtain ⟨rfl, rfl⟩ := e; exact ⟨_, rfl, h⟩
  | _, _, i + 1, _, _, .cons _ t, e => by
    obtain ⟨v, h1, h2⟩ := Rfs.nth (i := i) t (by simpa using e)
    exact ⟨v, by simpa using h1, h2⟩
/-- the field's place -/
def fIx (f : Str) : List (Str × A) → Option (Nat × A)
  | [] => none
  | (g, a) :: r => if g = f then some (0, a) else (fIx f r).map fun q => (q.1 + 1, q.2)
theorem fIx_ok {f : Str} : ∀ {fs : List (Str × A)} {i : Nat} {a : A}, fIx f fs = some (i, a) → fs[i]? = some (f, a)
  | (g, b) :: r, i, a, h => by
    unfold fIx at h
    split at h
    · rename_i hg
      cases h
      subst hg
      rfl
    · obtain ⟨⟨j, c⟩, e, z⟩ := Option.map_eq_some_iff.mp h
      cases z
      have := fIx_ok e
      simpa using this
def slfM (sl : Str → List Str) (f : Str) (a : A) : M A := fun S => match sinOf a S with
  | some (C, fs) => match fIx f fs with
    | some (i, b) => if (sl C)[i]? = some f then .ok b S else .no
    | none => .no
  | none => .no
def slfE (sl : Str → List Str) (f : Str) (mo : Lo → M A) (ρ : Lo) : M A := bnd (mo ρ) (slfM sl f)
section
variable {X : Cx} {G : Gs} {o e : Expr} {es : List Expr} {mo : Lo → M A} {ml : Lo → M (List A)} {f m : Str} {pos p apos : Pos} {j n : Nat}
theorem ae_slf {sl : Str → List Str} (c : SlA X.K sl) (he : AE X G e mo) (hb : attributeBase e f X.env (eval e X.env) = eval e X.env := by rfl) : AE X G (.Attribute e f pos) (slfE sl f mo) := fun W tk => (SlX.pe_sl (he W tk) hb).imp fun σ H Q q => aG_step (R := Rv (cf X)) q fun w1 ρ a x st1 rv o => by
  unfold slfM at o
  cases hs : sinOf a w1.S with
  | none => simp only [hs] at o; exact o.elim
  | some z =>
    obtain ⟨C, fs⟩ := z
    simp only [hs] at o
    cases hi : fIx f fs with
    | none => simp only [hi] at o; exact o.elim
    | some z =>
      obtain ⟨i, b⟩ := z
      simp only [hi] at o
      by_cases hsl : (sl C)[i]? = some f
      · rw [if_pos hsl] at o
        obtain ⟨q, dx, fv, ex, sq, rf⟩ := sinOf_ok st1.rel rv hs
        obtain ⟨v, hv, rb⟩ := rf.nth (fIx_ok hi)
        obtain ⟨sc, d, s1⟩ := c.ex C i f hsl
        exact ⟨q, _, dx, d, _, i, v, ex, sq, sc, s1, by rw [List.getElem?_map, hv] <;> rfl, Out.here (R := Rv (cf X)) o st1.rel rb⟩
      · rw [if_neg hsl] at o; exact o.elim
/-! ### C(..) -/
theorem sl_new {Γ : Cfg} {w : Wd} {C : Str} {ns : List Str} {as : List A} {vs : List V} {x dx : Addr} (rl : Rel Γ w) (rv : Rvs Γ w as vs) (hl : as.length = ns.length) (hx : w.H x = none) (hd : w.H dx = none) (hne : dx ≠ x) :
    ∃ w1 : Wd, w1.H = upd (upd w.H dx (.xd [])) x (SlX.SlO x (He.ga Γ.K C) dx (vs.map some)) ∧ w1.S = w.S ++ [.sin C (ns.zip as)] ∧ Ex w w1 ∧ Rel Γ w1 ∧ Rv Γ w1 (.ref w.S.length) (.ref x) := by
  have r0 := rl.laid (o := .xd []) hd
  have e0 := Ex.laid (o := .xd []) rl hd
  have hx0 : (upd w.H dx (.xd [])) x = none := by rw [upd_ne (Ne.symm hne)]; exact hx
  have e1 : Ex w ⟨w.ι ++ [x], w.S ++ [.sin C (ns.zip as)], upd (upd w.H dx (.xd [])) x (SlX.SlO x (He.ga Γ.K C) dx (vs.map some)), w.x⟩ := e0.trans (Ex.new (w := ⟨w.ι, w.S, upd w.H dx (.xd []), w.x⟩) r0 hx0)
  have lv : ∀ b, Wd.Lv ⟨w.ι ++ [x], w.S ++ [.sin C (ns.zip as)], upd (upd w.H dx (.xd [])) x (SlX.SlO x (He.ga Γ.K C) dx (vs.map some)), w.x⟩ b → b = x ∨ w.Lv b := fun b z => by
    rcases z with ⟨k, q, h1, h2, h3⟩ | z
    · by_cases hk : k < w.S.length
      · have h2 : (w.S ++ [Ob.sin C (ns.zip as)])[k]? = some q := h2
        have h1 : (w.ι ++ [x])[k]? = some b := h1
        rw [List.getElem?_append_left hk] at h2
        rw [List.getElem?_append_left (by rw [rl.len]; exact hk)] at h1
        exact .inr (.inl ⟨k, q, h1, h2, h3⟩)
      · have h1 : (w.ι ++ [x])[k]? = some b := h1
        rw [List.getElem?_append_right (by rw [rl.len]; omega)] at h1
        have := (List.getElem?_eq_some_iff.mp h1).1
        have hk0 : k - w.ι.length = 0 := by simp at this; omega
        rw [hk0] at h1
        simp at h1
        exact .inl h1.symm
    · exact .inr (.inr z)
  have r1 : Rel Γ ⟨w.ι ++ [x], w.S ++ [.sin C (ns.zip as)], upd (upd w.H dx (.xd [])) x (SlX.SlO x (He.ga Γ.K C) dx (vs.map some)), w.x⟩ := by
    refine Rel.new (w := ⟨w.ι, w.S, upd w.H dx (.xd []), w.x⟩) r0 hx0 ⟨dx, ns.zip vs, ?_, fun z => ?_, ?_, Rfs.zip ns (rv.ex e1)⟩
    · have : (ns.zip vs).map (fun q => some q.2) = vs.map some := by
        have l2 : vs.length = ns.length := by rw [rv.len]; exact hl
        have : (ns.zip vs).map Prod.snd = vs := List.map_snd_zip (by omega)
        rw [← this, List.map_map]
        simp [List.map_snd_zip, l2]
      rw [this]
      exact upd_same
    · rcases lv dx z with z | z
      · exact hne z
      · exact rl.fresh hd z
    · show upd (upd w.H dx (.xd [])) x _ dx = _
      rw [upd_ne hne, upd_same]
  have hi : (w.ι ++ [x])[w.S.length]? = some x := by rw [← rl.len]; simp
  exact ⟨_, rfl, rfl, e1, r1, .ref hi⟩
theorem ae_mkSl {C : Str} {ns : List Str} (c : MkS X.prog X.w X.K X.mg X.base C ns) (hr : Room j X.A) (hn : 2 ≤ j) (hg : Gl X C) (ha : AA X G (e :: es) ml) (hdb : (C == ("__debug__" : Str)) = false := by decide) (he : starEach (e :: es) X.env = (false, eval e X.env) :: starEach es X.env := by rfl) (hpl : (backTo pos (starEach es X.env)).any (·.1) = false := by rfl) :
    AE X G (.Call (.Name C p) (e :: es) [] pos) (callE (mkSl C ns) ml) := fun W tk => by
  obtain ⟨hm, f, fd, ps, mk, F, b⟩ := c.ex
  refine (pe_make (dvs := []) (ds := []) (E := fun _ _ _ => False) mk F (hr.mono hn) hg hm b .nil (fun _ _ _ _ _ _ _ h => h.elim) (ha W tk) hdb he hpl).imp fun σ H Q q => aG_step (R := Rvs (cf X)) q fun w1 ρ as vs st1 rv o x dx hx hd hne => ?_
  have o : Out (cf X) W σ (Rv (cf X)) w1 Q (if as.length = ns.length then .ok (.ref w1.S.length) (w1.S ++ [.sin C (ns.zip as)]) else .no) := o
  by_cases hl : as.length = ns.length
  · rw [if_pos hl] at o
    obtain ⟨w2, h1, h2, h3, h4, h5⟩ := sl_new (C := C) (ns := ns) st1.rel rv hl hx hd hne
    refine ⟨x, dx, vs, by rw [List.append_nil], by rw [rv.len]; exact hl, hne, upd_same, rfl, ?_⟩
    have e : SlX.slH (upd (upd w1.H dx (.own x)) x (.ins (He.ga X.K C) dx [])) x (He.ga X.K C) dx (vs.map some) = w2.H := by
      rw [h1]
      funext b
      unfold SlX.slH
      by_cases hb : b = x
      · subst hb; rw [upd_same, upd_same]
      · rw [upd_ne hb, upd_ne hb]
        by_cases hb2 : b = dx
        · subst hb2; rw [upd_same, upd_same]
        · rw [upd_ne hb2, upd_ne hb2, upd_ne hb, upd_ne hb2]
    rw [e]
    exact o w2 (.ref x) h2 h3 h4 h5
  · rw [if_neg hl] at o; exact o.elim
/-! ### o.m(..) of either kind -/
structure MtS (P : Program) (w : World) (K : PySem.W.Frag) (mg : Str → Option Value) (base : Heap) (n : Nat) (mt : Str → Str → Option (List A → M A)) : Prop where
  ex : ∀ C m F, mt C m = some F → SlX.SCls K (He.ga K C) ∧ ∃ f, Meth K (He.ga K C) m f ∧ FnA P w K mg base n f F
/-- the method m of a, by its kind of class -/
def mfS (mt ms : Str → Str → Option (List A → M A)) (m : Str) (a : A) (S : Sto) : Option (List A → M A) := match insOf a S with
  | some (C, fs) => match fs.lookup m with
    | none => mt C m
    | some _ => none
  | none => match sinOf a S with
    | some (C, _) => ms C m
    | none => none
def mcallS (mt ms : Str → Str → Option (List A → M A)) (m : Str) (a : A) (k : M (List A)) : M A := fun S => match mfS mt ms m a S with
  | some F => bnd k (fun as => F (a :: as)) S
  | none => .no
def methS (mt ms : Str → Str → Option (List A → M A)) (m : Str) (mo : Lo → M A) (ml : Lo → M (List A)) (ρ : Lo) : M A := bnd (mo ρ) fun a => mcallS mt ms m a (ml ρ)
theorem ae_methS {mt ms : Str → Str → Option (List A → M A)} {pl : Sem Bool} (c : MtA X.prog X.w X.K X.mg X.base n mt) (cs : MtS X.prog X.w X.K X.mg X.base n ms) (hr : Room j X.A) (hn : n ≤ j) (ho : AE X G o mo) (ha : AA X G (e :: es) ml)
    (hst : starEach (e :: es) X.env = (false, eval e X.env) :: starEach es X.env := by rfl) (hpl : (backTo pos (starEach es X.env)).any (·.1) = false := by rfl)
    (ht : eval (.Call (.Attribute o m apos) (e :: es) [] pos) X.env = (do
      let ov ← eval o X.env
      standAt apos.atName
      let (f, first) ← holding [ov] (getMethod ov m pl)
      callWith pos f first (backTo pos (starEach (e :: es) X.env)) (backToKw pos (keywordEach [] X.env))) := by rfl) :
    AE X G (.Call (.Attribute o m apos) (e :: es) [] pos) (methS mt ms m mo ml) := fun W tk => ⟨fun pins s σ H Q I h => by
  refine PySem.W.methodCall_KW (pl := pl) (thn ((ho W tk).run pins s σ H _ I (aG_step (R := Rv (cf X)) (Q' := fun x H1 => ∃ w1 ρ a F, w1.H = H1 ∧ Sta (cf X) G w1 ρ σ ∧ Rv (cf X) w1 a x ∧ mfS mt ms m a w1.S = some F ∧ Out (cf X) W σ (Rv (cf X)) w1 Q (bnd (ml ρ) (fun as => F (a :: as)) w1.S)) h fun w1 ρ a x st1 rv o => ?_)) fun u s1 ⟨x, H1, I1, rx, w1, ρ, a, F, e1, st1, rv, hF, o⟩ => ?_) ht
  · unfold mcallS at o
    cases hi : mfS mt ms m a w1.S with
    | none => simp only [hi] at o; exact o.elim
    | some F => simp only [hi] at o; exact ⟨w1, ρ, a, F, rfl, st1, rv, hi, o⟩
  · subst e1
    have run : ∀ (p : Addr) (f : Addr), x = .ref p → Meth X.K (He.ga X.K "") m f ∨ True → PySem.W.keepIn X.K (.ref f) = true → FnA X.prog X.w X.K X.mg X.base n f F → u = Value.ref p → wpAny (model X.prog X.w) X.A (callWith pos (.ref f) [.ref p] (backTo pos (starEach (e :: es) X.env)) (backToKw pos (keywordEach [] X.env))) (EP X pins σ Q) X.xe s1 := fun p f ex _ kp fa eu => by
      subst ex
      refine PySem.W.callWith_K (first := [.ref p]) (h₀ := X.base) I.ok.mod.kin kp (thn ((ha W tk).run pos pins s1 σ w1.H _ I1 (aG_of (Q := fun vs H2 => ∃ w2 as, w2.H = H2 ∧ Rel (cf X) w2 ∧ Rv (cf X) w2 a (.ref p) ∧ Rvs (cf X) w2 as vs ∧ Out (cf X) W σ (Rv (cf X)) w2 Q (F (a :: as) w2.S)) st1 (step st1 o fun w2 as vs st2 ex rvs o2 => ⟨w2, as, rfl, st2.rel, rv.ex ex, rvs, o2⟩))) fun us s2 ⟨vs, H2, I2, r, w2, as, e2, rl2, rv2, rvs2, o2⟩ => ⟨I2.kIn, ?_⟩) hst hpl
      subst e2
      exact run_A (us := .ref p :: us) (vs := .ref p :: vs) fa hr hn tk I2 rl2 (.cons rv2 rvs2) (.cons rfl r) o2
    unfold mfS at hF
    cases hi : insOf a w1.S with
    | some q =>
      obtain ⟨C, fs⟩ := q
      simp only [hi] at hF
      cases hf : fs.lookup m with
      | some _ => simp only [hf] at hF; cases hF
      | none =>
        simp only [hf] at hF
        obtain ⟨cl, f, hm, fa⟩ := c.ex C m F hF
        obtain ⟨p, dx, fv, ex, ep, rfs⟩ := insOf_ok st1.rel rv hi
        have eu : u = Value.ref p := by subst ex; exact rx
        have hl : fv.lookup m = none := by
          rcases rfs.look m with ⟨_, z⟩ | ⟨a, v, z, _⟩
          · exact z
          · rw [hf] at z; cases z
        rw [eu]
        exact getmeth_ok I1 ep cl hm hl (run p f ex (.inr trivial) hm.kp fa eu)
    | none =>
      simp only [hi] at hF
      cases hs : sinOf a w1.S with
      | none => simp only [hs] at hF; cases hF
      | some q =>
        obtain ⟨C, fs⟩ := q
        simp only [hs] at hF
        obtain ⟨sc, f, hm, fa⟩ := cs.ex C m F hF
        obtain ⟨p, dx, fv, ex, ep, rfs⟩ := sinOf_ok st1.rel rv hs
        have eu : u = Value.ref p := by subst ex; exact rx
        rw [eu]
        exact SlX.getmethsl_ok I1 ep sc hm (run p f ex (.inr trivial) hm.kp fa eu)⟩
end
end FL

/-! ## A36: x(..) of an instance with __call__; classes with slots off the head -/
namespace FL
open PySem PySem.Spec PySem.Calls PyProof.Rows L2
variable [LT]
/-- the classes whose instances are called -/
structure CiA (P : Program) (w : World) (K : PySem.W.Frag) (mg : Str → Option Value) (base : Heap) (n : Nat) (ci : Str → Option (List A → M A)) : Prop where
  ex : ∀ C F, ci C = some F → ∃ f, Meth K (He.ga K C) "__call__" f ∧ PySem.W.fnIn K f = true ∧ FnA P w K mg base n f F
def callI (ci : Str → Option (List A → M A)) (i : Nat) (ml : Lo → M (List A)) (ρ : Lo) : M A := bnd (vr i ρ) fun a S => match a with
  | .obj C _ => match ci C with
    | some F => bnd (ml ρ) (fun as => F (a :: as)) S
    | none => .no
  | _ => .no
section
variable {X : Cx} {G : Gs} {W : WX} {n j : Nat} {ci : Str → Option (List A → M A)} {x : Str} {e : Expr} {es : List Expr} {ml : Lo → M (List A)} {p pos : Pos}
theorem callI_ok {i : Nat} {ρ : Lo} {w : Wd} {σ : L2.St} {Q : VK} (st : Sta (cf X) G w ρ σ) (o : Out (cf X) W σ (Rv (cf X)) w Q (callI ci i ml ρ w.S)) :
    ∃ (C : Str) (fs : List (Str × A)) (F : List A → M A) (p dx : Addr) (fv : List (Str × V)), σ[i]? = some (some (.ref p)) ∧ Rv (cf X) w (.obj C fs) (.ref p) ∧ w.H p = some (.ins (He.ga X.K C) dx fv) ∧ ci C = some F ∧ Out (cf X) W σ (Rv (cf X)) w Q (bnd (ml ρ) (fun as => F (.obj C fs :: as)) w.S) := by
  unfold callI vr bnd at o
  cases e : ρ[i]? with
  | none => simp only [e] at o; exact o.elim
  | some z =>
    cases z with
    | none => simp only [e] at o; exact o.elim
    | some a =>
      simp only [e] at o
      obtain ⟨v, h1, h2⟩ := st.loc.2 i a e
      cases h2 with
      | @obj p dx C fs fv nl hp rf =>
        have o : Out (cf X) W σ (Rv (cf X)) w Q (match ci C with
          | some F => bnd (ml ρ) (fun as => F (.obj C fs :: as)) w.S
          | none => .no) := o
        cases hF : ci C with
        | none => simp only [hF] at o; exact o.elim
        | some F =>
          simp only [hF] at o
          exact ⟨C, fs, F, p, dx, fv, h1, .obj nl hp rf, hp, hF, o⟩
      | _ => exact o.elim
theorem ins_inst {pins : List (Addr × Obj)} {σ : L2.St} {H : Hp} {s : Shared} {a C dx : Addr} {fs : List (Str × V)} (I : Inv X pins σ H s) (e : H a = some (.ins C dx fs)) : ∃ od, PySem.W.InstAt s.heap a (PySem.W.instObj C dx) C od := by
  obtain ⟨mA, O, r, _, _, _⟩ := ins_get I.hok e
  obtain ⟨od, h, _⟩ := O.look
  exact ⟨_, h⟩
theorem callWith_obj {M : Model} {B : Around} {E : Value → Shared → Prop} {Q : Value → Shared → Prop} {s : Shared} {b : Addr} {ob : Obj} {args : List (Bool × Sem Value)} {kws : List (Option Str × Sem Value)} (hp : (args.any (·.1) || kws.any (·.1.isNone)) = false) (hd : ob.data = .plain)
    (h : wpAny M B (evalArgs (.ref b) true args kws) (fun a s1 => s1.heap.get? b = some ob ∧ wpAny M B (call (.ref b) a.pos a.kw) Q E s1) E s) : wpAny M B (callWith pos (.ref b) [] args kws) Q E s := by
  unfold callWith
  refine wpAny_bind (wpAny_holding (wpAny_mono h (fun a s1 hs => wpAny_bind (wpAny_standAt ?_)) fun _ _ z => z))
  have L : PySem.W.Looks M s1.heap (keeperOf (.ref b)) .caller := (PySem.W.Looks.ld (part := none) hs.1).andThen (by simp only [hd]; exact .now)
  simp only [hp]
  refine wpAny_bind (L.here ?_)
  have tail : ∀ {t : Sem Value}, wpAny M B t Q E s1 → wpAny M B (t >>= fun r => holding [r] point >>= fun _ => pure r) Q E s1 := fun ht =>
    wpAny_bind (wpAny_mono ht (fun r s2 hr => wpAny_bind (wpAny_holding (wpAny_point (wpAny_pure hr)))) fun _ _ z => z)
  exact tail (wpAny_operateT hs.2)
theorem run_I {pins : List (Addr × Obj)} {σ : L2.St} {w : Wd} {s : Shared} {Q : VK} {us : List Value} {vs : List V} {as : List A} {F : List A → M A} {f q C dx : Addr} {fv : List (Str × V)} {a : A} (hm : Meth X.K C "__call__" f) (hfn : PySem.W.fnIn X.K f = true) (fa : FnA X.prog X.w X.K X.mg X.base n f F) (hr : Room j X.A) (hn : n ≤ j) (tk : Takes X W) (I : Inv X pins σ w.H s) (hq : w.H q = some (.ins C dx fv)) (rl : Rel (cf X) w) (rv : Rvs (cf X) w (a :: as) (.ref q :: vs)) (r : Vals vs us)
    (o : Out (cf X) W σ (Rv (cf X)) w Q (F (a :: as) w.S)) : wpAny (model X.prog X.w) X.A (call (.ref q) us) (EP X pins σ Q) X.xe s := by
  obtain ⟨od, J⟩ := ins_inst I hq
  obtain ⟨fd, ps, fk, b⟩ := fa.ex
  have hh : spA (cf X) F (.ref q :: vs) w.H Q (WE W σ) := by
    refine ⟨w, a :: as, rfl, rl, rv, ?_⟩
    show outF _ _ _ _ (F (a :: as) w.S)
    cases er : F (a :: as) w.S with
    | ok b S' => rw [er] at o; exact o
    | ex C fs S' => rw [er] at o; exact o
    | no => rw [er] at o; exact o
  have r2 : Vals (V.ref q :: vs) (Value.ref q :: us) := .cons rfl r
  have hl : (Value.ref q :: us).length = ps.length := by rw [← r2.length]; exact fk.len _ _ _ _ hh
  have hb := b s (Value.ref q :: us) I.kIn (by rw [List.append_nil]; exact hl)
  rw [List.append_nil] at hb
  refine wpAny_call (PySem.W.kco_code (a := ⟨us, []⟩) I.kIn J rfl hm.at_ hm.fn hfn (codeAny_mono (fk.run X.A X.stack s w.H ⟨Value.ref q :: us, []⟩ (Value.ref q :: us) (.ref q :: vs) _ _ (hr.mono hn) I.env0 hb r2 hh) fun rr s' hz => ?_))
  cases rr with
  | error e => exact passAt tk σ pins w.H s e s' I hz
  | ok fl =>
    cases fl with
    | ret u => exact I.after hz
    | next => exact False.elim hz
    | brk => exact False.elim hz
    | cont => exact False.elim hz
theorem ae_callI {i : Nat} (c : CiA X.prog X.w X.K X.mg X.base n ci) (hr : Room j X.A) (hn : n ≤ j) (ha : AA X G (e :: es) ml) (hN : X.N[i]? = some x := by rfl) (hv : Vis X.env.scope x := by first | exact Or.inl rfl | exact Or.inr (Or.inl rfl) | exact Or.inr (Or.inr rfl)) (hd : (x == ("__debug__" : Str)) = false := by decide) (hcd : (x == ("__classdict__" : Str)) = false := by decide)
    (he : starEach (e :: es) X.env = (false, eval e X.env) :: starEach es X.env := by rfl) (hpl : (backTo pos (starEach es X.env)).any (·.1) = false := by rfl) : AE X G (.Call (.Name x p) (e :: es) [] pos) (callI ci i ml) := fun W tk => ⟨fun pins s σ H Q I h => by
  obtain ⟨w, ρ, rfl, st, o⟩ := h
  obtain ⟨C, fs, F, q, dx, fv, h1, rv, hq, hF, o⟩ := callI_ok st o
  obtain ⟨f, hm, hfn, fa⟩ := c.ex C F hF
  refine wpAny_Call_Name_kw (thn ((pe_var (pos := p) hN hv hd hcd).run pins s σ w.H (fun v H1 => v = .ref q ∧ H1 = w.H) I ⟨.ref q, h1, rfl, rfl⟩) fun u s1 ⟨v, H1, I1, r1, q1⟩ => ?_)
  obtain ⟨ev, eH⟩ := q1
  subst ev
  rw [eH] at I1
  obtain rfl : u = Value.ref q := r1
  have nl : ¬ w.Lv q := by
    cases rv with
    | obj nl _ _ => exact nl
  have H3 : wpAny (model X.prog X.w) X.A (spliced (backTo pos (starEach (e :: es) X.env))) (fun vs s' => s'.heap.get? q = some (PySem.W.instObj (He.ga X.K C) dx) ∧ wpAny (model X.prog X.w) X.A (call (.ref q) vs) (EP X pins σ Q) X.xe s') X.xe s1 := by
    refine thn ((ha W tk).run pos pins s1 σ w.H _ I1 (aG_of (Q := fun vs H2 => ∃ w2 as, w2.H = H2 ∧ Rel (cf X) w2 ∧ Rv (cf X) w2 (.obj C fs) (.ref q) ∧ Rvs (cf X) w2 as vs ∧ Ex w w2 ∧ Out (cf X) W σ (Rv (cf X)) w2 Q (F (.obj C fs :: as) w2.S)) st (step st o fun w2 as vs st2 ex rvs o2 => ⟨w2, as, rfl, st2.rel, rv.ex ex, rvs, ex, o2⟩))) fun us s2 ⟨vs, H2, I2, r, w2, as, e2, rl2, rv2, rvs2, ex, o2⟩ => ?_
    subst e2
    have hq2 : w2.H q = some (.ins (He.ga X.K C) dx fv) := (ex.kp.is nl hq rfl).1
    obtain ⟨od, J⟩ := ins_inst I2 hq2
    exact ⟨J.at_, run_I hm hfn fa hr hn tk I2 hq2 rl2 (.cons rv2 rvs2) r o2⟩
  rw [he] at H3 ⊢
  exact callWith_obj (ob := PySem.W.instObj (He.ga X.K C) dx) (by show ((false || (backTo pos (starEach es X.env)).any (·.1)) || false) = false; rw [hpl]; rfl) rfl (evalArgs_plain H3)⟩
/-! ### off the head -/
def sl1B (K : PySem.W.Frag) (C : Addr) (f : Str) (i : Nat) : Bool := He.eqO (PySem.W.findIn K (.ref C) f) (some (some (.ref (He.ma K C f)))) && (He.eqO (PySem.W.specialIn K (.ref (He.ma K C f)) "__get__") (some (some (.builtin "member_descriptor.__get__"))) && (decide (PySem.W.takesIn K (.ref (He.ma K C f)) = some true) && (decide (PySem.W.typeIn K (.ref (He.ma K C f)) = some (.type "member_descriptor")) && (decide (PySem.W.slotIn K (He.ma K C f) C = some i) && decide (i < 1000)))))
theorem sl1B_ok {K : PySem.W.Frag} {C : Addr} {f : Str} {i : Nat} (h : sl1B K C f i = true) : SlX.Slot1 K C f (He.ma K C f) i := by
  unfold sl1B at h
  obtain ⟨h1, h⟩ := and_t h
  obtain ⟨h2, h⟩ := and_t h
  obtain ⟨h3, h⟩ := and_t h
  obtain ⟨h4, h⟩ := and_t h
  obtain ⟨h5, h6⟩ := and_t h
  exact ⟨He.eqO_ok h1, He.eqO_ok h2, of_decide_eq_true h3, of_decide_eq_true h4, of_decide_eq_true h5, of_decide_eq_true h6⟩
def sclB (K : PySem.W.Frag) (C : Addr) : Bool := PySem.W.plainGet K C Str.empty && (PySem.W.isClsIn K C && (PySem.W.plainOver K C && He.eqO (PySem.W.findIn K (.ref C) "__setattr__") (some (some (.builtin "object.__setattr__")))))
theorem sclB_ok {K : PySem.W.Frag} {C : Addr} (h : sclB K C = true) : SlX.SCls K C := by
  obtain ⟨h1, h⟩ := and_t h
  obtain ⟨h2, h⟩ := and_t h
  obtain ⟨h3, h4⟩ := and_t h
  exact ⟨h1, h2, h3, He.eqO_ok h4⟩
def slsB (K : PySem.W.Frag) (C : Addr) : Nat → List Str → Bool
  | _, [] => true
  | i, f :: r => sl1B K C f i && slsB K C (i + 1) r
theorem slsB_ok {K : PySem.W.Frag} {C : Addr} : ∀ {ns : List Str} {i k : Nat} {f : Str}, slsB K C i ns = true → ns[k]? = some f → SlX.Slot1 K C f (He.ma K C f) (i + k)
  | _ :: _, i, 0, f, h, e => by
    simp at e
    subst e
    exact sl1B_ok (and_t h).1
  | _ :: r, i, k + 1, f, h, e => by
    have := slsB_ok (ns := r) (i := i + 1) (k := k) (and_t h).2 (by simpa using e)
    rw [show i + (k + 1) = i + 1 + k by omega]
    exact this
def slB (K : PySem.W.Frag) (l : List (Str × List Str)) : Bool := l.all fun p => sclB K (He.ga K p.1) && slsB K (He.ga K p.1) 0 p.2
def slOf (l : List (Str × List Str)) (C : Str) : List Str := (l.lookup C).getD []
theorem slB_ok {K : PySem.W.Frag} {l : List (Str × List Str)} (h : slB K l = true) : SlA K (slOf l) := ⟨fun C i f hi => by
  unfold slOf at hi
  cases e : l.lookup C with
  | none => rw [e] at hi; simp at hi
  | some ns =>
    rw [e] at hi
    obtain ⟨q1, q2⟩ := and_t (List.all_eq_true.mp h _ (lookup_mem e))
    have := slsB_ok (i := 0) q2 hi
    rw [Nat.zero_add] at this
    exact ⟨sclB_ok q1, _, this⟩⟩
/-- its __init__ -/
theorem pure_sl1 {K : PySem.W.Frag} {C f : Str} {l : List (Str × List Str)} (c : SlA K (slOf l)) (h0 : (slOf l C)[0]? = some f) (x : Str) (vs : List V) (H : Hp) (Q : VK) (E : XK) (h : spSl K C 1 vs H Q E) : (SlX.sSl K (tVar 0) (tVar 1) f) { nx := fun _ H' => Q .non H', rt := Q } (start ["self", x] vs) H := by
  obtain ⟨a, dx, us, rfl, hl, ne, ha, q⟩ := h
  match us, hl with
  | [y], _ =>
    obtain ⟨sc, p, s0⟩ := c.ex C 0 f h0
    exact ⟨_, rfl, _, rfl, a, _, dx, p, [], 0, rfl, .inl ⟨ha, rfl⟩, sc, s0, q⟩
theorem pure_sl2 {K : PySem.W.Frag} {C f g : Str} {l : List (Str × List Str)} (c : SlA K (slOf l)) (h0 : (slOf l C)[0]? = some f) (h1 : (slOf l C)[1]? = some g) (x y : Str) (vs : List V) (H : Hp) (Q : VK) (E : XK) (h : spSl K C 2 vs H Q E) : (tSeq (SlX.sSl K (tVar 0) (tVar 1) f) (SlX.sSl K (tVar 0) (tVar 2) g)) { nx := fun _ H' => Q .non H', rt := Q } (start ["self", x, y] vs) H := by
  obtain ⟨a, dx, us, rfl, hl, ne, ha, q⟩ := h
  match us, hl with
  | [u, v], _ =>
    obtain ⟨sc, p, s0⟩ := c.ex C 0 f h0
    obtain ⟨_, p', s1⟩ := c.ex C 1 g h1
    refine ⟨_, rfl, _, rfl, a, _, dx, p, [], 0, rfl, .inl ⟨ha, rfl⟩, sc, s0, ?_⟩
    refine ⟨_, rfl, _, rfl, a, _, dx, p', _, 1, rfl, SlX.slH_slt ne, sc, s1, ?_⟩
    rw [SlX.slH_twice ne]
    exact q
theorem mkS_of {P : Program} {w : World} {K : PySem.W.Frag} {h : Heap} {mg : Str → Option Value} {base : Heap} (X : K.In h) (G : h.Ns mainGlobals mg) {C : Str} {ns : List Str} (hg : (He.Fa.glo C).ok K = true) (hm : (He.Fa.mkr C).ok K = true)
    (ini : ∃ (fd : FuncData) (ps : List Str), FnOk P w K mg base CX0 1 (He.ma K (He.ga K C) "__init__") fd ps (spSl K C ns.length) ∧ Binds K fd ps []) : MkS P w K mg base C ns := by
  obtain ⟨fd, ps, f1, f2⟩ := ini
  exact ⟨He.glo_ok X G hg, _, fd, ps, He.mkr_ok hm, f1, f2⟩
def mtSB (K : PySem.W.Frag) (ks : List (Str × Option Str)) (l : List ((Str × Str) × Nat)) : Bool := l.all fun p => sclB K (He.ga K p.1.1) && ((He.Fa.meth p.1.1 p.1.2).ok K && match ks[p.2]? with
  | some q => decide (He.ma K (He.ga K p.1.1) p.1.2 = He.fAd K q)
  | none => false)
theorem mtS_of {P : Program} {w : World} {K : PySem.W.Frag} {mg : Str → Option Value} {base : Heap} {n : Nat} {ks : List (Str × Option Str)} {C : Nat → List A → M A} {l : List ((Str × Str) × Nat)} (a : AllF P w K mg base n ks C) (b : mtSB K ks l = true) : MtS P w K mg base n (mtOf l C) := ⟨fun c m F hF => by
  obtain ⟨k, e, rfl⟩ := Option.map_eq_some_iff.mp hF
  obtain ⟨q1, q⟩ := and_t (List.all_eq_true.mp b _ (lookup_mem e))
  obtain ⟨q2, q3⟩ := and_t q
  cases hk : ks[k]? with
  | none => simp only [hk] at q3; cases q3
  | some p =>
    simp only [hk] at q3
    refine ⟨sclB_ok q1, _, He.meth_ok q2, ?_⟩
    rw [of_decide_eq_true q3]
    exact a k p hk⟩
def ciB (K : PySem.W.Frag) (ks : List (Str × Option Str)) (l : List (Str × Nat)) : Bool := l.all fun p => PySem.W.fnIn K (He.ma K (He.ga K p.1) "__call__") && ((He.Fa.meth p.1 "__call__").ok K && match ks[p.2]? with
  | some q => decide (He.ma K (He.ga K p.1) "__call__" = He.fAd K q)
  | none => false)
def ciOf (l : List (Str × Nat)) (C : Nat → List A → M A) (c : Str) : Option (List A → M A) := (l.lookup c).map C
theorem ciA_of {P : Program} {w : World} {K : PySem.W.Frag} {mg : Str → Option Value} {base : Heap} {n : Nat} {ks : List (Str × Option Str)} {C : Nat → List A → M A} {l : List (Str × Nat)} (a : AllF P w K mg base n ks C) (b : ciB K ks l = true) : CiA P w K mg base n (ciOf l C) := ⟨fun c F hF => by
  obtain ⟨k, e, rfl⟩ := Option.map_eq_some_iff.mp hF
  obtain ⟨q1, q⟩ := and_t (List.all_eq_true.mp b _ (lookup_mem e))
  obtain ⟨q2, q3⟩ := and_t q
  cases hk : ks[k]? with
  | none => simp only [hk] at q3; cases q3
  | some p =>
    simp only [hk] at q3
    refine ⟨_, He.meth_ok q2, q1, ?_⟩
    rw [of_decide_eq_true q3]
    exact a k p hk⟩
end
end FL

/-! ## A37: lambdas that are kept: x = f(.., lambda, ..), called later from the frame that made them -/
namespace FL
open PySem PySem.Spec PyProof.Rows L2 LamX
variable [LT]
abbrev Gs.addL (G : Gs) (q : LmG) : Gs := ⟨G.l, G.P, q :: G.lm⟩
theorem Sta.dropL {Γ : Cfg} {G : Gs} {q : LmG} {w : Wd} {ρ : Lo} {σ : L2.St} (h : Sta Γ (G.addL q) w ρ σ) : Sta Γ G w ρ σ := ⟨h.rel, h.loc, ⟨h.gh.1, fun z hz => h.gh.2 z (List.mem_cons_of_mem _ hz)⟩, h.pr⟩
theorem OutS.addL {Γ : Cfg} {W : WX} {G : Gs} {q : LmG} {w : Wd} {D : Ends} {r : Ou} (h : OutS Γ W G w D r) : OutS Γ W (G.addL q) w D r := by
  cases r with
  | nx ρ S => exact fun w' σ' hs e' s => h w' σ' hs e' s.dropL
  | rt a S => exact h
  | bk ρ S => exact fun w' σ' hs e' s => h w' σ' hs e' s.dropL
  | ct ρ S => exact fun w' σ' hs e' s => h w' σ' hs e' s.dropL
  | ex C fs ρ S => exact fun w' d σ' hs e' s r => h w' d σ' hs e' s.dropL r
  | no => exact h
/-- the value, and the lambda's number -/
def RvO (X : Cx) (i : Nat) : Wd → A × Nat → V → Prop := fun w a v => Rv (cf X) w a.1 v ∧ ∃ (f c : Addr) (L : Lm), OwnL w ⟨a.2, i, f, c, L, cloFrom X.env.cells L.scope.names []⟩
def pairK (k : Nat) : Rs A → Rs (A × Nat)
  | .ok a S => .ok (a, k) S
  | .ex C fs S => .ex C fs S
  | .no => .no
def callK (F : List A → M A) (i j : Nat) (js : List Nat) (ml : Lo → M (List A)) (ρ : Lo) : M (A × Nat) := bnd (ml ρ) fun as S => match as[j]? with
  | some (.ref k) => match capsOf ρ js with
    | some caps => pairK k (behL k (freshG S) i (F as (S.set k (.fn i (freshG S) caps))))
    | none => .no
  | _ => .no
def keepS (x : Nat) (m : Lo → M (A × Nat)) (r : Nat → SM) : SM := letG m fun a ρ S => r a.2 (ρ.set x (some a.1)) S
section
variable {X : Cx} {G : Gs} {W : WX} {n j : Nat} {F : List A → M A} {x : Str} {e o : Expr} {es : List Expr} {mo : Lo → M A} {ml : Lo → M (List A)} {p pos apos : Pos} {m : Str}
theorem pe_callK {i jp : Nat} {js : List Nat} (c : ClA X.prog X.w X.K X.mg X.base n x F) (hr : Room j X.A) (hn : n ≤ j) (hg : Gl X x) (lk : LmK X i js) (ha : AL X G jp i (e :: es) ml) (tk : Takes X W) (hdb : (x == ("__debug__" : Str)) = false := by decide) (he : starEach (e :: es) X.env = (false, eval e X.env) :: starEach es X.env := by rfl) (hpl : (backTo pos (starEach es X.env)).any (·.1) = false := by rfl) :
    PE X (.Call (.Name x p) (e :: es) [] pos) (aG (cf X) W G (RvO X i) (callK F i jp js ml)) := ⟨fun pins s σ H Q I h => by
  obtain ⟨f, hm, kp, fa⟩ := c.ex
  refine wpAny_Call_Name_kw (ld_glob I hg hm ?_ hdb)
  refine PySem.W.callWith_K (h₀ := X.base) I.ok.mod.kin kp (thn ((ha W tk).run pos pins s σ H _ I (aG_step (R := RvM X jp i) (Q' := fun vs H1 => ∃ w1 ρ as k caps, w1.H = H1 ∧ Sta (cf X) G w1 ρ σ ∧ RvM X jp i w1 as vs ∧ as[jp]? = some (.ref k) ∧ capsOf ρ js = some caps ∧ Out (cf X) W σ (RvO X i) w1 Q (pairK k (behL k (freshG w1.S) i (F as (w1.S.set k (.fn i (freshG w1.S) caps)))))) (k := fun as ρ S => match as[jp]? with
    | some (.ref k) => match capsOf ρ js with
      | some caps => pairK k (behL k (freshG S) i (F as (S.set k (.fn i (freshG S) caps))))
      | none => .no
    | _ => .no) h fun w1 ρ as vs st1 rv o => ?_)) fun us s1 ⟨vs, H1, I1, r, w1, ρ, as, k, caps, e1, st1, rv, q1, q2, o⟩ => ⟨I1.kIn, ?_⟩) he hpl
  · obtain ⟨k, f, L, cc, ha', _⟩ := rv.ex
    simp only [ha'] at o
    cases q2 : capsOf ρ js with
    | none => simp only [q2] at o; exact o.elim
    | some caps =>
      simp only [q2] at o
      exact ⟨w1, ρ, as, k, caps, rfl, st1, rv, ha', q2, o⟩
  · subst e1
    obtain ⟨k', f', L, cc, ha', hi, hs, hL, hF, nC, hC⟩ := rv.ex
    rw [q1] at ha'
    cases ha'
    have ow : OwnL w1 ⟨k, i, f', cc, L, cloFrom X.env.cells L.scope.names []⟩ := ⟨hi, hs, hL, hF, nC, hC⟩
    have o' : Out (cf X) W σ (Rv (cf X)) w1 Q (behL k (freshG w1.S) i (F as (w1.S.set k (.fn i (freshG w1.S) caps)))) := by
      cases er : behL k (freshG w1.S) i (F as (w1.S.set k (.fn i (freshG w1.S) caps))) with
      | ok a S' => rw [er] at o; exact fun w' v hs ex r' rv' => o w' v hs ex r' ⟨rv', f', cc, L, ow.ex ex⟩
      | ex C fs S' => rw [er] at o; exact o
      | no => rw [er] at o; exact o
    exact run_L1 fa hr hn tk I1 st1 rv r lk q1 q2 o'⟩
theorem ass_keep {i jx : Nat} {y : Str} {py spos : Pos} {ss : List Stmt} {mk : Lo → M (A × Nat)} {mr : Nat → SM} (hN : X.N.Nodup) (hi : X.N[jx]? = some y) (hx : Loc X.env.scope y) (he : ∀ W, Takes X W → PE X e (aG (cf X) W G (RvO X i) mk)) (hr : ∀ (k : Nat) (f c : Addr) (L : Lm), ASs X (G.addL ⟨k, i, f, c, L, cloFrom X.env.cells L.scope.names []⟩) ss (mr k))
    (hs : swapsWith e (some (.Name y py)) spos.line X.env = pure false := by rfl) (hf : X.fn y = true ∨ X.env.scope.names.lookup y = some .local := by first | exact Or.inl rfl | exact Or.inr rfl) (hP : ∀ σ, G.P σ := by intros; trivial) : ASs X G (.Assign [.Name y py] e spos :: ss) (keepS jx mk mr) := fun W tk => by
  have h2 : PSs X ss (fun D σ H => ∃ (k : Nat) (f c : Addr) (L : Lm), aS (cf X) W (G.addL ⟨k, i, f, c, L, cloFrom X.env.cells L.scope.names []⟩) (mr k) D σ H) := ⟨fun pins s σ H D I ⟨k, f, c, L, q⟩ => (hr k f c L W tk).run pins s σ H D I q⟩
  refine (pss_cons (ps_set hN hi hx (he W tk) hs hf) h2).imp fun D σ H q => ?_
  obtain ⟨w, ρ, rfl, st, o⟩ := q
  refine ⟨w, ρ, rfl, st, stepS (R := RvO X i) st o fun w1 a b st1 ex rv o1 => ?_⟩
  obtain ⟨rv, f, c, L, ow⟩ := rv
  exact ⟨a.2, f, c, L, w1, ρ.set jx (some a.1), rfl, ⟨st1.rel, st1.loc.set jx rv, ⟨st1.gh.1, fun q hq => by
    rcases List.mem_cons.mp hq with rfl | hq
    · exact ow
    · exact st1.gh.2 q hq⟩, hP _⟩, o1.addL⟩
/-! ### calls that may reach a kept lambda -/
def actF (k i : Nat) (js : List Nat) (ρ : Lo) (F : List A → M A) (as : List A) : M A := fun S => match capsOf ρ js with
  | some caps => behL k (freshG S) i (F as (S.set k (.fn i (freshG S) caps)))
  | none => .no
def actC (k i : Nat) (js : List Nat) (F : List A → M A) (ml : Lo → M (List A)) (ρ : Lo) : M A := bnd (ml ρ) (actF k i js ρ F)
theorem ae_actC {k i : Nat} {js : List Nat} {f0 c0 : Addr} {L : Lm} (hq : (⟨k, i, f0, c0, L, cloFrom X.env.cells L.scope.names []⟩ : LmG) ∈ G.lm) (lk : LmK X i js) (c : ClA X.prog X.w X.K X.mg X.base n x F) (hr : Room j X.A) (hn : n ≤ j) (hg : Gl X x) (ha : AA X G (e :: es) ml) (hdb : (x == ("__debug__" : Str)) = false := by decide) (he : starEach (e :: es) X.env = (false, eval e X.env) :: starEach es X.env := by rfl) (hpl : (backTo pos (starEach es X.env)).any (·.1) = false := by rfl) :
    AE X G (.Call (.Name x p) (e :: es) [] pos) (actC k i js F ml) := fun W tk => ⟨fun pins s σ H Q I h => by
  obtain ⟨f, hm, kp, fa⟩ := c.ex
  refine wpAny_Call_Name_kw (ld_glob I hg hm ?_ hdb)
  refine PySem.W.callWith_K (h₀ := X.base) I.ok.mod.kin kp (thn ((ha W tk).run pos pins s σ H _ I (aG_step (R := Rvs (cf X)) (Q' := fun vs H1 => ∃ w1 ρ as caps, w1.H = H1 ∧ Sta (cf X) G w1 ρ σ ∧ Rvs (cf X) w1 as vs ∧ capsOf ρ js = some caps ∧ Out (cf X) W σ (Rv (cf X)) w1 Q (behL k (freshG w1.S) i (F as (w1.S.set k (.fn i (freshG w1.S) caps))))) (k := fun as ρ => actF k i js ρ F as) h fun w1 ρ as vs st1 rv o => ?_)) fun us s1 ⟨vs, H1, I1, r, w1, ρ, as, caps, e1, st1, rv, q2, o⟩ => ⟨I1.kIn, ?_⟩) he hpl
  · unfold actF at o
    cases q2 : capsOf ρ js with
    | none => simp only [q2] at o; exact o.elim
    | some caps =>
      simp only [q2] at o
      exact ⟨w1, ρ, as, caps, rfl, st1, rv, q2, o⟩
  · subst e1
    exact run_L0 fa hr hn tk I1 st1 rv r lk (st1.gh.2 _ hq) q2 o⟩
def actM0 (k i : Nat) (js : List Nat) (mt : Str → Str → Option (List A → M A)) (m : Str) (mo : Lo → M A) (ρ : Lo) : M A := bnd (mo ρ) fun a S => match insOf a S with
  | some (C, fs) => match fs.lookup m with
    | none => match mt C m with
      | some F => actF k i js ρ F [a] S
      | none => .no
    | some _ => .no
  | none => .no
theorem ae_actM0 {k i : Nat} {js : List Nat} {f0 c0 : Addr} {L : Lm} {mt : Str → Str → Option (List A → M A)} {pl : Sem Bool} (hq : (⟨k, i, f0, c0, L, cloFrom X.env.cells L.scope.names []⟩ : LmG) ∈ G.lm) (lk : LmK X i js) (c : MtA X.prog X.w X.K X.mg X.base n mt) (hr : Room j X.A) (hn : n ≤ j) (ho : AE X G o mo)
    (ht : eval (.Call (.Attribute o m apos) [] [] pos) X.env = (do
      let ov ← eval o X.env
      standAt apos.atName
      let (f, first) ← holding [ov] (getMethod ov m pl)
      callWith pos f first (backTo pos (starEach [] X.env)) (backToKw pos (keywordEach [] X.env))) := by rfl) :
    AE X G (.Call (.Attribute o m apos) [] [] pos) (actM0 k i js mt m mo) := fun W tk => ⟨fun pins s σ H Q I h => by
  refine PySem.W.methodCall_KW (pl := pl) (thn ((ho W tk).run pins s σ H _ I (aG_step (R := Rv (cf X)) (Q' := fun x H1 => ∃ w1 ρ a C fs F caps, w1.H = H1 ∧ Sta (cf X) G w1 ρ σ ∧ Rv (cf X) w1 a x ∧ insOf a w1.S = some (C, fs) ∧ fs.lookup m = none ∧ mt C m = some F ∧ capsOf ρ js = some caps ∧ Out (cf X) W σ (Rv (cf X)) w1 Q (behL k (freshG w1.S) i (F [a] (w1.S.set k (.fn i (freshG w1.S) caps))))) h fun w1 ρ a x st1 rv o => ?_)) fun u s1 ⟨x, H1, I1, rx, w1, ρ, a, C, fs, F, caps, e1, st1, rv, hi, hf, hmt, q2, o⟩ => ?_) ht
  · cases hi : insOf a w1.S with
    | none => simp only [hi] at o; exact o.elim
    | some q =>
      obtain ⟨C, fs⟩ := q
      simp only [hi] at o
      cases hf : fs.lookup m with
      | some _ => simp only [hf] at o; exact o.elim
      | none =>
        simp only [hf] at o
        cases hmt : mt C m with
        | none => simp only [hmt] at o; exact o.elim
        | some F =>
          simp only [hmt] at o
          unfold actF at o
          cases q2 : capsOf ρ js with
          | none => simp only [q2] at o; exact o.elim
          | some caps =>
            simp only [q2] at o
            exact ⟨w1, ρ, a, C, fs, F, caps, rfl, st1, rv, hi, hf, hmt, q2, o⟩
  · subst e1
    obtain ⟨cl, f, hm, fa⟩ := c.ex C m F hmt
    obtain ⟨q, dx, fv, ex, ep, rfs⟩ := insOf_ok st1.rel rv hi
    subst ex
    obtain rfl : u = Value.ref q := rx
    have hl : fv.lookup m = none := by
      rcases rfs.look m with ⟨_, z⟩ | ⟨a, v, z, _⟩
      · exact z
      · rw [hf] at z; cases z
    refine getmeth_ok I1 ep cl hm hl ?_
    exact PySem.W.callWith_K0 (first := [.ref q]) I1.kIn hm.kp (run_L0 (us := [.ref q]) (vs := [.ref q]) fa hr hn tk I1 st1 (.cons rv .nil) (.cons rfl .nil) lk (st1.gh.2 _ hq) q2 o)⟩
end
end FL

/-! ## A38: l.index(x) over data; slots, kept lambdas evaluated -/
namespace FL
open PySem PySem.Spec PyProof.Rows L2
variable [LT]
def idxD (d : PyData) : List PyData → Option Nat
  | [] => none
  | z :: r => if PyData.eqv z d = true then some 0 else (idxD d r).map (· + 1)
theorem idxD_ok {d : PyData} : ∀ {ds : List PyData} {j : Nat}, idxD d ds = some j → (∃ z, ds[j]? = some z ∧ PyData.eqv z d = true) ∧ ∀ (m : Nat) (z' : PyData), m < j → ds[m]? = some z' → PyData.eqv z' d = false
  | z :: r, j, h => by
    unfold idxD at h
    split at h
    · rename_i e
      cases h
      exact ⟨⟨z, rfl, e⟩, fun m _ hm _ => absurd hm (Nat.not_lt_zero _)⟩
    · rename_i e
      obtain ⟨i, h1, rfl⟩ := Option.map_eq_some_iff.mp h
      obtain ⟨⟨y, h2, h3⟩, h4⟩ := idxD_ok h1
      refine ⟨⟨y, by simpa using h2, h3⟩, fun m z' hm hz => ?_⟩
      cases m with
      | zero => simp at hz; subst hz; simpa using e
      | succ m => exact h4 m z' (by omega) (by simpa using hz)
/-- as indM; tuples too -/
def indD (a : A) : List A → M A
  | [b] => fun S => match datS S a, dat b with
    | some (.list ds), some d => if SeqAt.shaped (.list ds) = true ∧ SeqAt.shaped d = true then match idxD d ds with
        | some j => .ok (.int j) S
        | none => .no
      else .no
    | _, _ => .no
  | _ => fail
section
variable {X : Cx}
theorem md_indexD (hu : X.A.units + 65 < cLine) : MtdA X "list.index" indD := MtdA.of (mt_indexD hu) fun W σ w a as x xs Q rl ra rs o => by
  match as, rs, o with
  | [b], .cons rb .nil, o =>
    have o : Out (cf X) W σ (Rv (cf X)) w Q (match datS w.S a, dat b with
      | some (.list ds), some d => if SeqAt.shaped (.list ds) = true ∧ SeqAt.shaped d = true then match idxD d ds with
          | some j => .ok (.int j) w.S
          | none => .no
        else .no
      | _, _ => .no) := o
    cases e0 : datS w.S a with
    | none => simp only [e0] at o; exact o.elim
    | some dl =>
      cases dl with
      | list ds =>
        cases e1 : dat b with
        | none => simp only [e0, e1] at o; exact o.elim
        | some d =>
          simp only [e0, e1] at o
          by_cases hs : SeqAt.shaped (.list ds) = true ∧ SeqAt.shaped d = true
          · rw [if_pos hs] at o
            cases e2 : idxD d ds with
            | none => simp only [e2] at o; exact o.elim
            | some j =>
              simp only [e2] at o
              obtain ⟨⟨z, h1, h2⟩, h3⟩ := idxD_ok e2
              have da := datS_ok rl ra e0
              have hx : ∃ p, x = V.ref p := by
                cases da with
                | lst _ _ => exact ⟨_, rfl⟩
              obtain ⟨p, rfl⟩ := hx
              exact ⟨p, _, d, ds, j, z, rfl, rfl, da, dat_ok rb e1, hs.1, hs.2, h1, h2, h3, Out.here (R := Rv (cf X)) o rl (.int _)⟩
          · rw [if_neg hs] at o; exact o.elim
      | _ => simp only [e0] at o; exact o.elim
end
/-! ### by simp -/
@[simp] theorem x_slfE (sl : Str → List Str) (f : Str) (mo : Lo → M A) (ρ : Lo) : slfE sl f mo ρ = bnd (mo ρ) (slfM sl f) := rfl
theorem slf_at {sl : Str → List Str} {f : Str} {k : Nat} {S : Sto} {C : Str} {fs : List (Str × A)} (h : S[k]? = some (.sin C fs)) : slfM sl f (.ref k) S = match fIx f fs with
    | some (i, b) => if (sl C)[i]? = some f then .ok b S else .no
    | none => .no := by
  unfold slfM sinOf
  simp only [h]
  all_goals rfl
@[simp] theorem x_fIx0 (f : Str) : fIx f [] = none := rfl
@[simp] theorem x_fIx1 (f g : Str) (a : A) (r : List (Str × A)) : fIx f ((g, a) :: r) = if g = f then some (0, a) else (fIx f r).map fun q => (q.1 + 1, q.2) := rfl
@[simp] theorem x_mkSl (C : Str) (ns : List Str) (as : List A) (S : Sto) : mkSl C ns as S = if as.length = ns.length then .ok (.ref S.length) (S ++ [.sin C (ns.zip as)]) else .no := rfl
@[simp] theorem x_methS (mt ms : Str → Str → Option (List A → M A)) (m : Str) (mo : Lo → M A) (ml : Lo → M (List A)) (ρ : Lo) : methS mt ms m mo ml ρ = bnd (mo ρ) fun a => mcallS mt ms m a (ml ρ) := rfl
theorem mcallS_sin {mt ms : Str → Str → Option (List A → M A)} {m : Str} {k : Nat} {C : Str} {fs : List (Str × A)} {q : M (List A)} {S : Sto} {F : List A → M A} (h : S[k]? = some (.sin C fs)) (hF : ms C m = some F) : mcallS mt ms m (.ref k) q S = bnd q (fun as => F (.ref k :: as)) S := by
  have e1 : insOf (.ref k) S = none := by unfold insOf; simp only [h]
  have e2 : sinOf (.ref k) S = some (C, fs) := by unfold sinOf; simp only [h]
  unfold mcallS mfS
  simp only [e1, e2, hF]
@[simp] theorem x_callI (ci : Str → Option (List A → M A)) (i : Nat) (ml : Lo → M (List A)) (ρ : Lo) (S : Sto) {C : Str} {fs : List (Str × A)} {F : List A → M A} (h : ρ[i]? = some (some (.obj C fs))) (hF : ci C = some F) : callI ci i ml ρ S = bnd (ml ρ) (fun as => F (.obj C fs :: as)) S := by
  unfold callI vr
  simp [h, hF]
@[simp] theorem x_keepS (x : Nat) (m : Lo → M (A × Nat)) (r : Nat → SM) : keepS x m r = letG m fun a ρ S => r a.2 (ρ.set x (some a.1)) S := rfl
@[simp] theorem x_actC (k i : Nat) (js : List Nat) (F : List A → M A) (ml : Lo → M (List A)) (ρ : Lo) : actC k i js F ml ρ = bnd (ml ρ) (actF k i js ρ F) := rfl
@[simp] theorem x_actM0 (k i : Nat) (js : List Nat) (mt : Str → Str → Option (List A → M A)) (m : Str) (mo : Lo → M A) (ρ : Lo) : actM0 k i js mt m mo ρ = bnd (mo ρ) fun a S => match insOf a S with
  | some (C, fs) => match fs.lookup m with
    | none => match mt C m with
      | some F => actF k i js ρ F [a] S
      | none => .no
    | some _ => .no
  | none => .no := rfl
/-- x(a, ..) within a callee -/
theorem callV_at {lf : Nat → Option (List A → M A)} {i k j g : Nat} {ρ : Lo} {S : Sto} {caps : List A} {F : List A → M A} {ml : Lo → M (List A)} (h1 : ρ[i]? = some (some (.ref k))) (h2 : S[k]? = some (.fn j g caps)) (h3 : lf j = some F) : callV lf i ml ρ S = bnd (ml ρ) (fun as => lamM F k as) S := by
  unfold callV
  simp only [x_bnd, x_vr, h1, h2, h3]
end FL

/-! ## A39: two lambdas of one frame at once; an if whose rest goes with its suites; list.clear -/
namespace FL
open PySem PySem.Spec PyProof.Rows L2 LamX
variable [LT]
section
variable {X : Cx} {G : Gs} {W : WX} {n j : Nat} {F : List A → M A} {x : Str} {e : Expr} {es : List Expr} {ml : Lo → M (List A)} {p pos : Pos}
open Classical in
/-- a lambda of the frame goes into action -/
theorem act_step {pins : List (Addr × Obj)} {σ : L2.St} {ρ : Lo} {H0 : Hp} {w : Wd} {s : Shared} {i k : Nat} {js : List Nat} {f cc : Addr} {L : Lm} {caps : List A} (I : Inv X pins σ H0 s) (rl : Rel (cf X) w) (loc : Rl (cf X) w ρ σ) (lk : LmK X i js)
    (ow : OwnL w ⟨k, i, f, cc, L, cloFrom X.env.cells L.scope.names []⟩) (hc : capsOf ρ js = some caps) (hoff : ∀ b ∈ (cloFrom X.env.cells L.scope.names []).map Prod.snd, w.H b = none) :
    ∃ qf : Addr → Option Obj, Raw qf s.heap ∧ (∀ b o, qf b = some o → b ∉ frs X.stack) ∧ (∀ b o, qf b = some o → X.base.get? b = none) ∧ LH (cf X) w k f i (freshG w.S) ((cloFrom X.env.cells L.scope.names []).map Prod.snd) qf ∧ Rel (cf X) (w.lam k i (freshG w.S) caps ((cloFrom X.env.cells L.scope.names []).map Prod.snd) qf) := by
  obtain ⟨hi, hs, hL, hF, nC, hC⟩ := ow
  have hi : w.ι[k]? = some f := hi
  have hs : w.S[k]? = some (.sfn i 0 []) := hs
  have hL : LT.lm i = some L := hL
  have hF : w.H f = some (LmO f L (cloFrom X.env.cells L.scope.names []) cc) := hF
  have nC : ¬ w.Lv cc := nC
  have hC : w.H cc = some (CodeO cc L.qual) := hC
  obtain ⟨L', hL', hnd, hfst, hjs, hfree, hfr, hfn⟩ := lk.ex
  rw [hL] at hL'
  cases hL'
  obtain ⟨vc, rc, hvc⟩ := capsOf_ok loc hc
  have cp : NdefX.Caps X (cloFrom X.env.cells L.scope.names []) L.fr js := NdefX.Caps.made I.ok hfree hfr hjs
  have ca := NdefX.cells_of I cp
  rw [hvc] at ca
  generalize hcl : cloFrom X.env.cells L.scope.names [] = cl at *
  have ndf : (cl.map Prod.fst).Nodup := by rw [hfst]; exact hnd
  have look : ∀ (k : Nat) (q : Str × Addr), cl[k]? = some q → cl.lookup q.1 = some q.2 := fun k q hq => lookup_at ndf hq
  have mem : ∀ b, b ∈ cl.map Prod.snd → ∃ y, y ∈ L.fr ∧ cl.lookup y = some b ∧ X.env.cells.lookup y = some b := fun b hb => by
    obtain ⟨q, hq, rfl⟩ := List.mem_map.mp hb
    obtain ⟨k, hk⟩ := List.getElem?_of_mem hq
    have h1 := look k q hk
    exact ⟨q.1, by rw [← hfst]; exact List.mem_map.mpr ⟨q, hq, rfl⟩, h1, cp.sub _ _ h1⟩
  let qf : Addr → Option Obj := fun b => if b ∈ cl.map Prod.snd then s.heap.get? b else none
  have qd : ∀ b o, qf b = some o → b ∈ cl.map Prod.snd ∧ s.heap.get? b = some o := fun b o hq => by
    have hq : (if b ∈ cl.map Prod.snd then s.heap.get? b else none) = some o := hq
    split at hq
    · rename_i hm; exact ⟨hm, hq⟩
    · cases hq
  have qc : ∀ b ∈ cl.map Prod.snd, ∃ o u, qf b = some o ∧ o.data = .cell u := fun b hb => by
    obtain ⟨y, _, h1, h2⟩ := mem b hb
    obtain ⟨v, o, e1, e2⟩ := I.cell y b h2
    exact ⟨o, v, by show (if b ∈ cl.map Prod.snd then s.heap.get? b else none) = _; rw [if_pos hb]; exact e1, e2⟩
  have raw : Raw qf s.heap := fun b o hq => (qd b o hq).2
  have off : Off qf w.H := fun b o hq => hoff b (qd b o hq).1
  have dat : ∀ b o, qf b = some o → ∃ u, o.data = .cell u := fun b o hq => by
    obtain ⟨o', u, h1, h2⟩ := qc b (qd b o hq).1
    rw [hq] at h1
    cases h1
    exact ⟨u, h2⟩
  have big : ∀ b o, qf b = some o → X.s_0.heap.objs.size ≤ b := fun b o hq => by
    obtain ⟨y, h0, _, h2⟩ := mem b (qd b o hq).1
    exact I.ok.cab y b (hfn y h0) h2
  have nb : ∀ b o, qf b = some o → X.base.get? b = none := fun b o hq => by
    cases hb : X.base.get? b with
    | none => rfl
    | some o' =>
      have := Heap.lt_size (I.ok.bs b o' hb).1
      exact absurd (big b o hq) (Nat.not_le_of_lt this)
  have nfr : ∀ b o, qf b = some o → b ∉ frs X.stack := fun b o hq hb => by
    have no : b ∉ frs X.outer := fun hm => by
      obtain ⟨_, o', e', _⟩ := I.ok.funs.mem hm
      exact absurd (big b o hq) (Nat.not_le_of_lt (Heap.lt_size e'))
    rcases I.ok.stk with hs | ⟨hs, hf⟩
    · rw [hs] at hb; exact no hb
    · rw [hs] at hb
      have hb : b ∈ (X.env :: X.outer).filterMap (·.frame) := hb
      rw [List.filterMap_cons, hf] at hb
      rcases List.mem_cons.mp hb with hb | hb
      · subst hb
        obtain ⟨m, ⟨o', es', ep, e1, e2, _⟩, _⟩ := I.loc
        obtain ⟨u, hu⟩ := dat _ o hq
        rw [(qd _ o hq).2] at e1
        cases e1
        rw [hu] at e2
        cases e2
      · exact no hb
  have lh : LH (cf X) w k f i (freshG w.S) (cl.map Prod.snd) qf := by
    refine ⟨rl, hi, hs, off, fun b o hq => (qd b o hq).1, fun b hb => ?_, fun b o hq => ?_, fun k i' c hk => ?_⟩
    · obtain ⟨o, u, h1, _⟩ := qc b hb
      exact ⟨o, h1⟩
    · obtain ⟨u, hu⟩ := dat b o hq
      exact cell_cne (P := X.prog) (w := X.w) (H := w.H) (qd b o hq).2 hu
    · have := freshG_le hk
      exact absurd this (Nat.not_succ_le_self _)
  have hkv := lam_kv (caps := caps) lh
  have cel : CelR (w.lam k i (freshG w.S) caps (cl.map Prod.snd) qf) cl vc := by
    refine paired_mk ?_ fun k q v hq hv => ?_
    · have h1 := ca.len
      rw [List.length_map] at h1
      have h2 := congrArg List.length hfst
      rw [List.length_map] at h2
      omega
    · have hy : L.fr[k]? = some q.1 := by rw [← hfst, List.getElem?_map, hq] <;> rfl
      obtain ⟨c', hc1, hc2⟩ := ca.has k q.1 hy
      rw [look k q hq] at hc1
      cases hc1
      obtain ⟨u, ru, o', e1, e2⟩ := hc2 v (by rw [List.getElem?_map, hv] <;> rfl)
      have hb : q.2 ∈ cl.map Prod.snd := List.mem_map.mpr ⟨q, List.mem_of_getElem? hq, rfl⟩
      have hqf : qf q.2 = some o' := by show (if q.2 ∈ cl.map Prod.snd then s.heap.get? q.2 else none) = _; rw [if_pos hb]; exact e1
      refine ⟨fun z => ?_, o', u, trk_at hqf, e2, ru⟩
      exact rl.fresh (off _ _ hqf) (lam_lv lh z)
  have nds : (cl.map Prod.snd).Nodup := nodup_of fun a b z h1 h2 => by
    rw [List.getElem?_map] at h1 h2
    obtain ⟨q1, k1, rfl⟩ := Option.map_eq_some_iff.mp h1
    obtain ⟨q2, k2, e2⟩ := Option.map_eq_some_iff.mp h2
    have l1 := look _ _ k1
    have l2 := look _ _ k2
    rw [e2] at l2
    have e3 := I.ok.inj _ _ _ (cp.sub _ _ l1) (cp.sub _ _ l2)
    have m1 : (cl.map Prod.fst)[a]? = some q1.1 := by rw [List.getElem?_map, k1] <;> rfl
    have m2 : (cl.map Prod.fst)[b]? = some q1.1 := by rw [List.getElem?_map, k2, e3] <;> rfl
    exact nodup_ix ndf m1 m2
  have rl1 : Rel (cf X) (w.lam k i (freshG w.S) caps (cl.map Prod.snd) qf) := by
    refine lam_rel lh ⟨cl, vc, cl.map Prod.snd, ⟨L, cc, hL, lam_H lh hF, (lam_code lh nC hC).2, (lam_code lh nC hC).1, hfst, nds⟩, cel, ?_, fun q hq => List.mem_map.mpr ⟨q, hq, rfl⟩, rc.mono hkv fun _ _ z => z⟩
    show (if freshG w.S = freshG w.S then _ else _) = _
    rw [if_pos rfl]
  exact ⟨qf, raw, nfr, nb, lh, rl1⟩
/-- the callee's promise, seen from without -/
theorem act_back {w : Wd} {k i g : Nat} {f : Addr} {caps : List A} {ps : List Addr} {qf : Addr → Option Obj} {σ : L2.St} {Q : VK} {as : List A} (lh : LH (cf X) w k f i g ps qf) (rl1 : Rel (cf X) (w.lam k i g caps ps qf)) (o : Out (cf X) W σ (Rv (cf X)) w Q (behL k g i (F as (w.S.set k (.fn i g caps))))) :
    outF (cf X) (w.lam k i g caps ps qf) (fun v H' => On qf H' ∧ Q v (untr H' qf)) (fun c d H' => On qf H' ∧ WE W σ c d (untr H' qf)) (F as (w.S.set k (.fn i g caps))) := by
  cases er : F as (w.S.set k (.fn i g caps)) with
  | ok a S' =>
    rw [er] at o
    intro w' v hs ex r' rva
    have on := lam_on lh rl1 ex
    exact ⟨on, o (w'.lback w k i g qf) v (by rw [← hs]; rfl) (lback_ex lh ex) (lback_rel lh ex r' on) (rva.mono (lback_kv lh ex on) fun _ _ z => z)⟩
  | ex C fs S' =>
    rw [er] at o
    intro w' d hs ex r' rva
    have on := lam_on lh rl1 ex
    exact ⟨on, o (w'.lback w k i g qf) d (by rw [← hs]; rfl) (lback_ex lh ex) (lback_rel lh ex r' on) (rva.mono (lback_kv lh ex on) fun _ _ z => z)⟩
  | no => rw [er] at o; exact o.elim
theorem cells_off {pins : List (Addr × Obj)} {σ : L2.St} {H : Hp} {s : Shared} {i : Nat} {js : List Nat} {L : Lm} (I : Inv X pins σ H s) (lk : LmK X i js) (hL : LT.lm i = some L) : ∀ b ∈ (cloFrom X.env.cells L.scope.names []).map Prod.snd, ∃ y ∈ L.fr, X.env.cells.lookup y = some b := by
  obtain ⟨L', hL', hnd, hfst, hjs, hfree, hfr, hfn⟩ := lk.ex
  rw [hL] at hL'
  cases hL'
  have cp : NdefX.Caps X (cloFrom X.env.cells L.scope.names []) L.fr js := NdefX.Caps.made I.ok hfree hfr hjs
  intro b hb
  obtain ⟨q, hq, rfl⟩ := List.mem_map.mp hb
  obtain ⟨k, hk⟩ := List.getElem?_of_mem hq
  have ndf : ((cloFrom X.env.cells L.scope.names []).map Prod.fst).Nodup := by rw [hfst]; exact hnd
  exact ⟨q.1, by rw [← hfst]; exact List.mem_map.mpr ⟨q, hq, rfl⟩, cp.sub _ _ (lookup_at ndf hk)⟩
/-- two at once -/
def act2F (k1 i1 : Nat) (js1 : List Nat) (k2 i2 : Nat) (js2 : List Nat) (ρ : Lo) (F : List A → M A) (as : List A) : M A := fun S => match capsOf ρ js1, capsOf ρ js2 with
  | some c1, some c2 => behL k1 (freshG S) i1 (behL k2 (freshG (S.set k1 (.fn i1 (freshG S) c1))) i2 (F as ((S.set k1 (.fn i1 (freshG S) c1)).set k2 (.fn i2 (freshG (S.set k1 (.fn i1 (freshG S) c1))) c2))))
  | _, _ => .no
theorem run_L2 {pins : List (Addr × Obj)} {σ : L2.St} {ρ : Lo} {w : Wd} {s : Shared} {Q : VK} {us : List Value} {vs : List V} {as : List A} {i1 k1 i2 k2 : Nat} {js1 js2 : List Nat} {f0 f1 cc1 f2 cc2 : Addr} {L1 L2 : Lm} (c : FnA X.prog X.w X.K X.mg X.base n f0 F) (hr : Room j X.A) (hn : n ≤ j) (tk : Takes X W) (I : Inv X pins σ w.H s) (st : Sta (cf X) G w ρ σ) (rvs : Rvs (cf X) w as vs) (r : Vals vs us) (lk1 : LmK X i1 js1) (lk2 : LmK X i2 js2)
    (ow1 : OwnL w ⟨k1, i1, f1, cc1, L1, cloFrom X.env.cells L1.scope.names []⟩) (ow2 : OwnL w ⟨k2, i2, f2, cc2, L2, cloFrom X.env.cells L2.scope.names []⟩) (hi : i1 ≠ i2) (hd : ∀ y ∈ L1.fr, y ∉ L2.fr) (o : Out (cf X) W σ (Rv (cf X)) w Q (act2F k1 i1 js1 k2 i2 js2 ρ F as w.S)) : wpAny (model X.prog X.w) X.A (call (.ref f0) us) (EP X pins σ Q) X.xe s := by
  unfold act2F at o
  cases hc1 : capsOf ρ js1 with
  | none => simp only [hc1] at o; exact o.elim
  | some caps1 =>
    cases hc2 : capsOf ρ js2 with
    | none => simp only [hc1, hc2] at o; exact o.elim
    | some caps2 =>
      simp only [hc1, hc2] at o
      have of1 := cells_off I lk1 ow1.hL
      have of2 := cells_off I lk2 ow2.hL
      obtain ⟨q1, raw1, nfr1, nb1, lh1, rl1⟩ := act_step I st.rel st.loc lk1 ow1 hc1 fun b hb => by
        obtain ⟨y, _, h⟩ := of1 b hb
        exact I.freeC y b h
      have kv1 := lam_kv (caps := caps1) lh1
      have hk12 : k1 ≠ k2 := fun z => by
        have a1 := ow1.st
        have a2 := ow2.st
        have z' : k1 = k2 := z
        rw [show ({ k := k1, i := i1, f := f1, c := cc1, L := L1, cl := cloFrom X.env.cells L1.scope.names [] } : LmG).k = k1 from rfl, z'] at a1
        have a2 : w.S[k2]? = some (.sfn i2 0 []) := a2
        rw [a2] at a1
        injection a1 with a1
        injection a1 with a1
        exact hi a1.symm
      have loc1 : Rl (cf X) (w.lam k1 i1 (freshG w.S) caps1 ((cloFrom X.env.cells L1.scope.names []).map Prod.snd) q1) ρ σ := ⟨st.loc.1, fun j a z => by
        obtain ⟨v, h1, h2⟩ := st.loc.2 j a z
        exact ⟨v, h1, h2.mono kv1 fun _ _ z => z⟩⟩
      have ow2' : OwnL (w.lam k1 i1 (freshG w.S) caps1 ((cloFrom X.env.cells L1.scope.names []).map Prod.snd) q1) ⟨k2, i2, f2, cc2, L2, cloFrom X.env.cells L2.scope.names []⟩ := by
        refine ⟨ow2.ix, ?_, ow2.hL, lam_H lh1 ow2.hf, (lam_code lh1 ow2.nc ow2.hc).2, (lam_code lh1 ow2.nc ow2.hc).1⟩
        show (w.S.set k1 _)[k2]? = _
        rw [List.getElem?_set_ne hk12]
        exact ow2.st
      obtain ⟨q2, raw2, nfr2, nb2, lh2, rl2⟩ := act_step (caps := caps2) I rl1 loc1 lk2 ow2' hc2 fun b hb => by
        obtain ⟨y, hy, h⟩ := of2 b hb
        show trk w.H q1 b = none
        cases e : q1 b with
        | none => rw [trk_off e]; exact I.freeC y b h
        | some ob =>
          obtain ⟨z, hz, hz2⟩ := of1 b (lh1.dom b ob e)
          have := I.ok.inj _ _ _ h hz2
          subst this
          exact absurd hy (hd _ hz)
      have kv2 := lam_kv (caps := caps2) lh2
      obtain ⟨fd, ps, fk, b⟩ := c.ex
      have o2 : Out (cf X) W σ (Rv (cf X)) w Q (behL k1 (freshG w.S) i1 ((fun as S => behL k2 (freshG S) i2 (F as (S.set k2 (.fn i2 (freshG S) caps2)))) as (w.S.set k1 (.fn i1 (freshG w.S) caps1)))) := o
      have b1 := act_back (F := fun as S => behL k2 (freshG S) i2 (F as (S.set k2 (.fn i2 (freshG S) caps2)))) lh1 rl1 o2
      have b2 := act_back (W := fun c d _ H' => On q1 H' ∧ WE W σ c d (untr H' q1)) (σ := []) (F := F) (caps := caps2) lh2 rl2 b1
      have hh : spA (cf X) F vs (trk (trk w.H q1) q2) (fun v H' => On q2 H' ∧ (On q1 (untr H' q2) ∧ Q v (untr (untr H' q2) q1))) (fun c d H' => On q2 H' ∧ (On q1 (untr H' q2) ∧ WE W σ c d (untr (untr H' q2) q1))) :=
        ⟨_, as, rfl, rl2, (rvs.mono kv1 fun _ _ z => z).mono kv2 fun _ _ z => z, b2⟩
      have hl : us.length = ps.length := by rw [← r.length]; exact fk.len _ _ _ _ hh
      have hb := b s us I.kIn (by rw [List.append_nil]; exact hl)
      rw [List.append_nil] at hb
      refine wpAny_call (codeAny_mono (fk.run X.A X.stack s (trk (trk w.H q1) q2) ⟨us, []⟩ us vs _ _ (hr.mono hn) (env0_trk (env0_trk I.env0 raw1 lh1.off nfr1 nb1) raw2 lh2.off nfr2 nb2) hb r hh) fun rr s' hq => ?_)
      have hq := cr_untr (Q' := fun v H' => On q1 H' ∧ Q v (untr H' q1)) (E' := fun c d H' => On q1 H' ∧ WE W σ c d (untr H' q1)) raw2 lh2.off nfr2 (fun v H' z => z) (fun c d H' z => z) hq
      have hq := cr_untr (Q' := Q) (E' := WE W σ) raw1 lh1.off nfr1 (fun v H' z => z) (fun c d H' z => z) hq
      cases rr with
      | error e => exact passAt tk σ pins w.H s e s' I hq
      | ok fl =>
        cases fl with
        | ret u => exact I.after hq
        | next => exact False.elim hq
        | brk => exact False.elim hq
        | cont => exact False.elim hq
/-- f(.., lambda, ..) where a kept lambda may be reached, too -/
def callLA (k1 i1 : Nat) (js1 : List Nat) (F : List A → M A) (i j : Nat) (js : List Nat) (ml : Lo → M (List A)) (ρ : Lo) : M A := bnd (ml ρ) fun as S => match as[j]? with
  | some (.ref k) => act2F k1 i1 js1 k i js ρ F as S
  | _ => .no
theorem ae_callLA {k1 i1 i jp : Nat} {js1 js : List Nat} {f1 c1 : Addr} {L1 L2 : Lm} (hq : (⟨k1, i1, f1, c1, L1, cloFrom X.env.cells L1.scope.names []⟩ : LmG) ∈ G.lm) (lk1 : LmK X i1 js1) (hL1 : LT.lm i1 = some L2) (hi : i1 ≠ i) (hd : ∀ L3, LT.lm i = some L3 → ∀ y ∈ L2.fr, y ∉ L3.fr)
    (c : ClA X.prog X.w X.K X.mg X.base n x F) (hr : Room j X.A) (hn : n ≤ j) (hg : Gl X x) (lk : LmK X i js) (ha : AL X G jp i (e :: es) ml) (hdb : (x == ("__debug__" : Str)) = false := by decide) (he : starEach (e :: es) X.env = (false, eval e X.env) :: starEach es X.env := by rfl) (hpl : (backTo pos (starEach es X.env)).any (·.1) = false := by rfl) :
    AE X G (.Call (.Name x p) (e :: es) [] pos) (callLA k1 i1 js1 F i jp js ml) := fun W tk => ⟨fun pins s σ H Q I h => by
  obtain ⟨f, hm, kp, fa⟩ := c.ex
  refine wpAny_Call_Name_kw (ld_glob I hg hm ?_ hdb)
  refine PySem.W.callWith_K (h₀ := X.base) I.ok.mod.kin kp (thn ((ha W tk).run pos pins s σ H _ I (aG_step (R := RvM X jp i) (Q' := fun vs H1 => ∃ w1 ρ as k, w1.H = H1 ∧ Sta (cf X) G w1 ρ σ ∧ RvM X jp i w1 as vs ∧ as[jp]? = some (.ref k) ∧ Out (cf X) W σ (Rv (cf X)) w1 Q (act2F k1 i1 js1 k i js ρ F as w1.S)) (k := fun as ρ S => match as[jp]? with
    | some (.ref k) => act2F k1 i1 js1 k i js ρ F as S
    | _ => .no) h fun w1 ρ as vs st1 rv o => ?_)) fun us s1 ⟨vs, H1, I1, r, w1, ρ, as, k, e1, st1, rv, q1, o⟩ => ⟨I1.kIn, ?_⟩) he hpl
  · obtain ⟨k, f, L, cc, ha', _⟩ := rv.ex
    simp only [ha'] at o
    exact ⟨w1, ρ, as, k, rfl, st1, rv, ha', o⟩
  · subst e1
    obtain ⟨k', f', L, cc, ha', z1, z2, z3, z4, z5, z6⟩ := rv.ex
    rw [q1] at ha'
    cases ha'
    have o1 := st1.gh.2 _ hq
    have eL : L1 = L2 := by
      have z : LT.lm i1 = some L1 := o1.hL
      rw [hL1] at z
      cases z
      rfl
    subst eL
    exact run_L2 fa hr hn tk I1 st1 rv.rv r lk1 lk o1 ⟨z1, z2, z3, z4, z5, z6⟩ hi (hd L z3) o⟩
end
end FL

namespace FL
open PySem L2
noncomputable section
def top (i : Nat) : Stmt := PySem.Challenge.pw_finitelooks_k06_answer_at.main.body.getD i (.Pass ⟨0, 0, 0, 0⟩)
def lm_0 : Lm := lmOf (top 50) "law.<locals>.<lambda>" (goE [2] ((exprsS (goS [] 4 (defBody (top 50)))).getD 0 noE)) ["_law_places_here", "_law_log", "_law_answers"]
def lm_1 : Lm := lmOf (top 50) "law.<locals>.<lambda>" (goE [1, 0, 1] ((exprsS (goS [(5, 0), (1, 0)] 0 (defBody (top 50)))).getD 0 noE)) ["_law_x"]
def lm_2 : Lm := lmOf (top 50) "law.<locals>.<lambda>" (goE [1] ((exprsS (goS [(5, 0)] 5 (defBody (top 50)))).getD 0 noE)) ["_law_spot", "_law_place_here"]
abbrev k__law_source : Nat := 0
abbrev k__law_draw : Nat := 1
abbrev k__law_pick : Nat := 2
abbrev k__law_same : Nat := 3
abbrev k__law_up : Nat := 4
abbrev k__law_form : Nat := 5
abbrev k__law_space : Nat := 6
abbrev k__law_place : Nat := 7
abbrev k__law_places : Nat := 8
abbrev k__law_count : Nat := 9
abbrev k__law_at : Nat := 10
abbrev k__law_noted : Nat := 11
abbrev k__law_there : Nat := 12
abbrev k__law_bent : Nat := 13
abbrev k__law_try : Nat := 14
abbrev k_law : Nat := 15
abbrev k_is_integer : Nat := 16
abbrev k_Space___init__ : Nat := 17
abbrev k_Space___mul__ : Nat := 18
abbrev k_Space___pow__ : Nat := 19
abbrev k_Space_bare : Nat := 20
abbrev k_Space_part : Nat := 21
abbrev k_Options___init__ : Nat := 22
abbrev k_Pair___init__ : Nat := 23
abbrev k_Pair_part : Nat := 24
abbrev k_Power___init__ : Nat := 25
abbrev k_Power_part : Nat := 26
abbrev k_Endless___init__ : Nat := 27
abbrev k_Endless_part : Nat := 28
abbrev k_Thing___init__ : Nat := 29
abbrev k_Thing_at : Nat := 30
abbrev k_Thing_look : Nat := 31
abbrev k_Told_tell : Nat := 32
abbrev k_told : Nat := 33
abbrev k_answer_at : Nat := 34
abbrev k_last_answer : Nat := 35
def mkL : List (He.Defn × Str) := [(("law", none), "law.<locals>.<lambda>")]
def lmL : List Lm := [lm_0, lm_1, lm_2]
instance : LT := ⟨fun i => lmL[i]?, tabsOf mkL⟩
def lf : (Nat → List A → M A) → Nat → Option (List A → M A) := lfOf 36 3
def atL : List (Str × List Str) := [("Options", ["form", "free", "count"]), ("Pair", ["form", "free", "left", "right"]), ("Power", ["form", "free", "base", "n"]), ("Endless", ["form", "free", "base"]), ("Thing", ["space", "source", "place"])]
def at_ : Str → Str → Bool := atOf atL
def csL : List Str := ["Space", "Options", "Pair", "Power", "Endless", "Thing", "Fan", "Either", "Order", "Sameness"]
def cs : Str → Bool := fun C => csL.contains C
def subL : List (Str × List Str) := [("Space", ["Space"]), ("Options", ["Options", "Space"]), ("Pair", ["Pair", "Parted", "Space"]), ("Power", ["Power", "Parted", "Space"]), ("Endless", ["Endless", "Parted", "Space"]), ("Thing", ["Thing"]), ("Fan", ["Fan", "Space"]), ("Either", ["Either", "Space"]), ("Order", ["Order", "Linked", "Space"]), ("Sameness", ["Sameness", "Linked", "Space"])]
def sub : Str → Str → Bool := subOf subL
def erL : List (Str × List Str) := [("BadSpace", ["value"]), ("NoPlace", ["place"]), ("BadAnswer", ["place", "given"])]
def er : Str → Bool := erOf erL
def ksL : List (Str × Option Str) := ("_law_source", none) :: ("_law_draw", none) :: ("_law_pick", none) :: ("_law_same", none) :: ("_law_up", none) :: ("_law_form", none) :: ("_law_space", none) :: ("_law_place", none) :: ("_law_places", none) :: ("_law_count", none) :: ("_law_at", none) :: ("_law_noted", none) :: ("_law_there", none) :: ("_law_bent", none) :: ("_law_try", none) :: ("law", none) :: ("is_integer", none) :: ("Space", some "__init__") :: ("Space", some "__mul__") :: ("Space", some "__pow__") :: ("Space", some "bare") :: ("Space", some "part") :: ("Options", some "__init__") :: ("Pair", some "__init__") :: ("Pair", some "part") :: ("Power", some "__init__") :: ("Power", some "part") :: ("Endless", some "__init__") :: ("Endless", some "part") :: ("Thing", some "__init__") :: ("Thing", some "at") :: ("Thing", some "look") :: ("Told", some "tell") :: ("told", none) :: ("answer_at", none) :: ("last_answer", none) :: []
@[simp] theorem at_Options_form : at_ "Options" "form" = true := by decide +kernel
@[simp] theorem fl_Options_form (v0 v1 v2 : A) : List.lookup ("form" : Str) [("form", v0), ("free", v1), ("count", v2)] = some v0 := rfl
@[simp] theorem at_Options_free : at_ "Options" "free" = true := by decide +kernel
@[simp] theorem fl_Options_free (v0 v1 v2 : A) : List.lookup ("free" : Str) [("form", v0), ("free", v1), ("count", v2)] = some v1 := rfl
@[simp] theorem at_Options_count : at_ "Options" "count" = true := by decide +kernel
@[simp] theorem fl_Options_count (v0 v1 v2 : A) : List.lookup ("count" : Str) [("form", v0), ("free", v1), ("count", v2)] = some v2 := rfl
@[simp] theorem nl_Options_bare (v0 v1 v2 : A) : List.lookup ("bare" : Str) [("form", v0), ("free", v1), ("count", v2)] = none := rfl
@[simp] theorem nl_Options_part (v0 v1 v2 : A) : List.lookup ("part" : Str) [("form", v0), ("free", v1), ("count", v2)] = none := rfl
@[simp] theorem at_Pair_form : at_ "Pair" "form" = true := by decide +kernel
@[simp] theorem fl_Pair_form (v0 v1 v2 v3 : A) : List.lookup ("form" : Str) [("form", v0), ("free", v1), ("left", v2), ("right", v3)] = some v0 := rfl
@[simp] theorem at_Pair_free : at_ "Pair" "free" = true := by decide +kernel
@[simp] theorem fl_Pair_free (v0 v1 v2 v3 : A) : List.lookup ("free" : Str) [("form", v0), ("free", v1), ("left", v2), ("right", v3)] = some v1 := rfl
@[simp] theorem at_Pair_left : at_ "Pair" "left" = true := by decide +kernel
@[simp] theorem fl_Pair_left (v0 v1 v2 v3 : A) : List.lookup ("left" : Str) [("form", v0), ("free", v1), ("left", v2), ("right", v3)] = some v2 := rfl
@[simp] theorem at_Pair_right : at_ "Pair" "right" = true := by decide +kernel
@[simp] theorem fl_Pair_right (v0 v1 v2 v3 : A) : List.lookup ("right" : Str) [("form", v0), ("free", v1), ("left", v2), ("right", v3)] = some v3 := rfl
@[simp] theorem nl_Pair_bare (v0 v1 v2 v3 : A) : List.lookup ("bare" : Str) [("form", v0), ("free", v1), ("left", v2), ("right", v3)] = none := rfl
@[simp] theorem nl_Pair_part (v0 v1 v2 v3 : A) : List.lookup ("part" : Str) [("form", v0), ("free", v1), ("left", v2), ("right", v3)] = none := rfl
@[simp] theorem at_Power_form : at_ "Power" "form" = true := by decide +kernel
@[simp] theorem fl_Power_form (v0 v1 v2 v3 : A) : List.lookup ("form" : Str) [("form", v0), ("free", v1), ("base", v2), ("n", v3)] = some v0 := rfl
@[simp] theorem at_Power_free : at_ "Power" "free" = true := by decide +kernel
@[simp] theorem fl_Power_free (v0 v1 v2 v3 : A) : List.lookup ("free" : Str) [("form", v0), ("free", v1), ("base", v2), ("n", v3)] = some v1 := rfl
@[simp] theorem at_Power_base : at_ "Power" "base" = true := by decide +kernel
@[simp] theorem fl_Power_base (v0 v1 v2 v3 : A) : List.lookup ("base" : Str) [("form", v0), ("free", v1), ("base", v2), ("n", v3)] = some v2 := rfl
@[simp] theorem at_Power_n : at_ "Power" "n" = true := by decide +kernel
@[simp] theorem fl_Power_n (v0 v1 v2 v3 : A) : List.lookup ("n" : Str) [("form", v0), ("free", v1), ("base", v2), ("n", v3)] = some v3 := rfl
@[simp] theorem nl_Power_bare (v0 v1 v2 v3 : A) : List.lookup ("bare" : Str) [("form", v0), ("free", v1), ("base", v2), ("n", v3)] = none := rfl
@[simp] theorem nl_Power_part (v0 v1 v2 v3 : A) : List.lookup ("part" : Str) [("form", v0), ("free", v1), ("base", v2), ("n", v3)] = none := rfl
@[simp] theorem at_Endless_form : at_ "Endless" "form" = true := by decide +kernel
@[simp] theorem fl_Endless_form (v0 v1 v2 : A) : List.lookup ("form" : Str) [("form", v0), ("free", v1), ("base", v2)] = some v0 := rfl
@[simp] theorem at_Endless_free : at_ "Endless" "free" = true := by decide +kernel
@[simp] theorem fl_Endless_free (v0 v1 v2 : A) : List.lookup ("free" : Str) [("form", v0), ("free", v1), ("base", v2)] = some v1 := rfl
@[simp] theorem at_Endless_base : at_ "Endless" "base" = true := by decide +kernel
@[simp] theorem fl_Endless_base (v0 v1 v2 : A) : List.lookup ("base" : Str) [("form", v0), ("free", v1), ("base", v2)] = some v2 := rfl
@[simp] theorem nl_Endless_bare (v0 v1 v2 : A) : List.lookup ("bare" : Str) [("form", v0), ("free", v1), ("base", v2)] = none := rfl
@[simp] theorem nl_Endless_part (v0 v1 v2 : A) : List.lookup ("part" : Str) [("form", v0), ("free", v1), ("base", v2)] = none := rfl
@[simp] theorem at_Thing_space : at_ "Thing" "space" = true := by decide +kernel
@[simp] theorem fl_Thing_space (v0 v1 v2 : A) : List.lookup ("space" : Str) [("space", v0), ("source", v1), ("place", v2)] = some v0 := rfl
@[simp] theorem at_Thing_source : at_ "Thing" "source" = true := by decide +kernel
@[simp] theorem fl_Thing_source (v0 v1 v2 : A) : List.lookup ("source" : Str) [("space", v0), ("source", v1), ("place", v2)] = some v1 := rfl
@[simp] theorem at_Thing_place : at_ "Thing" "place" = true := by decide +kernel
@[simp] theorem fl_Thing_place (v0 v1 v2 : A) : List.lookup ("place" : Str) [("space", v0), ("source", v1), ("place", v2)] = some v2 := rfl
@[simp] theorem nl_Thing_at (v0 v1 v2 : A) : List.lookup ("at" : Str) [("space", v0), ("source", v1), ("place", v2)] = none := rfl
@[simp] theorem nl_Thing_look (v0 v1 v2 : A) : List.lookup ("look" : Str) [("space", v0), ("source", v1), ("place", v2)] = none := rfl
@[simp] theorem kc_Space_Space : kitM cs sub (.o "Space") (.glo "Space") = some true := by decide +kernel
@[simp] theorem kc_Space_Options : kitM cs sub (.o "Space") (.glo "Options") = some false := by decide +kernel
@[simp] theorem kc_Space_Pair : kitM cs sub (.o "Space") (.glo "Pair") = some false := by decide +kernel
@[simp] theorem kc_Space_Power : kitM cs sub (.o "Space") (.glo "Power") = some false := by decide +kernel
@[simp] theorem kc_Space_Endless : kitM cs sub (.o "Space") (.glo "Endless") = some false := by decide +kernel
@[simp] theorem kc_Space_Thing : kitM cs sub (.o "Space") (.glo "Thing") = some false := by decide +kernel
@[simp] theorem kc_Space_Fan : kitM cs sub (.o "Space") (.glo "Fan") = some false := by decide +kernel
@[simp] theorem kc_Space_Either : kitM cs sub (.o "Space") (.glo "Either") = some false := by decide +kernel
@[simp] theorem kc_Space_Order : kitM cs sub (.o "Space") (.glo "Order") = some false := by decide +kernel
@[simp] theorem kc_Space_Sameness : kitM cs sub (.o "Space") (.glo "Sameness") = some false := by decide +kernel
@[simp] theorem kd_Space_bool : kitM cs sub (.o "Space") (.ty "bool") = some false := by decide +kernel
@[simp] theorem kd_Space_int : kitM cs sub (.o "Space") (.ty "int") = some false := by decide +kernel
@[simp] theorem kd_Space_str : kitM cs sub (.o "Space") (.ty "str") = some false := by decide +kernel
@[simp] theorem kd_Space_tuple : kitM cs sub (.o "Space") (.ty "tuple") = some false := by decide +kernel
@[simp] theorem kd_Space_list : kitM cs sub (.o "Space") (.ty "list") = some false := by decide +kernel
@[simp] theorem kd_Space_dict : kitM cs sub (.o "Space") (.ty "dict") = some false := by decide +kernel
@[simp] theorem kc_Options_Space : kitM cs sub (.o "Options") (.glo "Space") = some true := by decide +kernel
@[simp] theorem kc_Options_Options : kitM cs sub (.o "Options") (.glo "Options") = some true := by decide +kernel
@[simp] theorem kc_Options_Pair : kitM cs sub (.o "Options") (.glo "Pair") = some false := by decide +kernel
@[simp] theorem kc_Options_Power : kitM cs sub (.o "Options") (.glo "Power") = some false := by decide +kernel
@[simp] theorem kc_Options_Endless : kitM cs sub (.o "Options") (.glo "Endless") = some false := by decide +kernel
@[simp] theorem kc_Options_Thing : kitM cs sub (.o "Options") (.glo "Thing") = some false := by decide +kernel
@[simp] theorem kc_Options_Fan : kitM cs sub (.o "Options") (.glo "Fan") = some false := by decide +kernel
@[simp] theorem kc_Options_Either : kitM cs sub (.o "Options") (.glo "Either") = some false := by decide +kernel
@[simp] theorem kc_Options_Order : kitM cs sub (.o "Options") (.glo "Order") = some false := by decide +kernel
@[simp] theorem kc_Options_Sameness : kitM cs sub (.o "Options") (.glo "Sameness") = some false := by decide +kernel
@[simp] theorem kd_Options_bool : kitM cs sub (.o "Options") (.ty "bool") = some false := by decide +kernel
@[simp] theorem kd_Options_int : kitM cs sub (.o "Options") (.ty "int") = some false := by decide +kernel
@[simp] theorem kd_Options_str : kitM cs sub (.o "Options") (.ty "str") = some false := by decide +kernel
@[simp] theorem kd_Options_tuple : kitM cs sub (.o "Options") (.ty "tuple") = some false := by decide +kernel
@[simp] theorem kd_Options_list : kitM cs sub (.o "Options") (.ty "list") = some false := by decide +kernel
@[simp] theorem kd_Options_dict : kitM cs sub (.o "Options") (.ty "dict") = some false := by decide +kernel
@[simp] theorem kc_Pair_Space : kitM cs sub (.o "Pair") (.glo "Space") = some true := by decide +kernel
@[simp] theorem kc_Pair_Options : kitM cs sub (.o "Pair") (.glo "Options") = some false := by decide +kernel
@[simp] theorem kc_Pair_Pair : kitM cs sub (.o "Pair") (.glo "Pair") = some true := by decide +kernel
@[simp] theorem kc_Pair_Power : kitM cs sub (.o "Pair") (.glo "Power") = some false := by decide +kernel
@[simp] theorem kc_Pair_Endless : kitM cs sub (.o "Pair") (.glo "Endless") = some false := by decide +kernel
@[simp] theorem kc_Pair_Thing : kitM cs sub (.o "Pair") (.glo "Thing") = some false := by decide +kernel
@[simp] theorem kc_Pair_Fan : kitM cs sub (.o "Pair") (.glo "Fan") = some false := by decide +kernel
@[simp] theorem kc_Pair_Either : kitM cs sub (.o "Pair") (.glo "Either") = some false := by decide +kernel
@[simp] theorem kc_Pair_Order : kitM cs sub (.o "Pair") (.glo "Order") = some false := by decide +kernel
@[simp] theorem kc_Pair_Sameness : kitM cs sub (.o "Pair") (.glo "Sameness") = some false := by decide +kernel
@[simp] theorem kd_Pair_bool : kitM cs sub (.o "Pair") (.ty "bool") = some false := by decide +kernel
@[simp] theorem kd_Pair_int : kitM cs sub (.o "Pair") (.ty "int") = some false := by decide +kernel
@[simp] theorem kd_Pair_str : kitM cs sub (.o "Pair") (.ty "str") = some false := by decide +kernel
@[simp] theorem kd_Pair_tuple : kitM cs sub (.o "Pair") (.ty "tuple") = some false := by decide +kernel
@[simp] theorem kd_Pair_list : kitM cs sub (.o "Pair") (.ty "list") = some false := by decide +kernel
@[simp] theorem kd_Pair_dict : kitM cs sub (.o "Pair") (.ty "dict") = some false := by decide +kernel
@[simp] theorem kc_Power_Space : kitM cs sub (.o "Power") (.glo "Space") = some true := by decide +kernel
@[simp] theorem kc_Power_Options : kitM cs sub (.o "Power") (.glo "Options") = some false := by decide +kernel
@[simp] theorem kc_Power_Pair : kitM cs sub (.o "Power") (.glo "Pair") = some false := by decide +kernel
@[simp] theorem kc_Power_Power : kitM cs sub (.o "Power") (.glo "Power") = some true := by decide +kernel
@[simp] theorem kc_Power_Endless : kitM cs sub (.o "Power") (.glo "Endless") = some false := by decide +kernel
@[simp] theorem kc_Power_Thing : kitM cs sub (.o "Power") (.glo "Thing") = some false := by decide +kernel
@[simp] theorem kc_Power_Fan : kitM cs sub (.o "Power") (.glo "Fan") = some false := by decide +kernel
@[simp] theorem kc_Power_Either : kitM cs sub (.o "Power") (.glo "Either") = some false := by decide +kernel
@[simp] theorem kc_Power_Order : kitM cs sub (.o "Power") (.glo "Order") = some false := by decide +kernel
@[simp] theorem kc_Power_Sameness : kitM cs sub (.o "Power") (.glo "Sameness") = some false := by decide +kernel
@[simp] theorem kd_Power_bool : kitM cs sub (.o "Power") (.ty "bool") = some false := by decide +kernel
@[simp] theorem kd_Power_int : kitM cs sub (.o "Power") (.ty "int") = some false := by decide +kernel
@[simp] theorem kd_Power_str : kitM cs sub (.o "Power") (.ty "str") = some false := by decide +kernel
@[simp] theorem kd_Power_tuple : kitM cs sub (.o "Power") (.ty "tuple") = some false := by decide +kernel
@[simp] theorem kd_Power_list : kitM cs sub (.o "Power") (.ty "list") = some false := by decide +kernel
@[simp] theorem kd_Power_dict : kitM cs sub (.o "Power") (.ty "dict") = some false := by decide +kernel
@[simp] theorem kc_Endless_Space : kitM cs sub (.o "Endless") (.glo "Space") = some true := by decide +kernel
@[simp] theorem kc_Endless_Options : kitM cs sub (.o "Endless") (.glo "Options") = some false := by decide +kernel
@[simp] theorem kc_Endless_Pair : kitM cs sub (.o "Endless") (.glo "Pair") = some false := by decide +kernel
@[simp] theorem kc_Endless_Power : kitM cs sub (.o "Endless") (.glo "Power") = some false := by decide +kernel
@[simp] theorem kc_Endless_Endless : kitM cs sub (.o "Endless") (.glo "Endless") = some true := by decide +kernel
@[simp] theorem kc_Endless_Thing : kitM cs sub (.o "Endless") (.glo "Thing") = some false := by decide +kernel
@[simp] theorem kc_Endless_Fan : kitM cs sub (.o "Endless") (.glo "Fan") = some false := by decide +kernel
@[simp] theorem kc_Endless_Either : kitM cs sub (.o "Endless") (.glo "Either") = some false := by decide +kernel
@[simp] theorem kc_Endless_Order : kitM cs sub (.o "Endless") (.glo "Order") = some false := by decide +kernel
@[simp] theorem kc_Endless_Sameness : kitM cs sub (.o "Endless") (.glo "Sameness") = some false := by decide +kernel
@[simp] theorem kd_Endless_bool : kitM cs sub (.o "Endless") (.ty "bool") = some false := by decide +kernel
@[simp] theorem kd_Endless_int : kitM cs sub (.o "Endless") (.ty "int") = some false := by decide +kernel
@[simp] theorem kd_Endless_str : kitM cs sub (.o "Endless") (.ty "str") = some false := by decide +kernel
@[simp] theorem kd_Endless_tuple : kitM cs sub (.o "Endless") (.ty "tuple") = some false := by decide +kernel
@[simp] theorem kd_Endless_list : kitM cs sub (.o "Endless") (.ty "list") = some false := by decide +kernel
@[simp] theorem kd_Endless_dict : kitM cs sub (.o "Endless") (.ty "dict") = some false := by decide +kernel
@[simp] theorem kc_Thing_Space : kitM cs sub (.o "Thing") (.glo "Space") = some false := by decide +kernel
@[simp] theorem kc_Thing_Options : kitM cs sub (.o "Thing") (.glo "Options") = some false := by decide +kernel
@[simp] theorem kc_Thing_Pair : kitM cs sub (.o "Thing") (.glo "Pair") = some false := by decide +kernel
@[simp] theorem kc_Thing_Power : kitM cs sub (.o "Thing") (.glo "Power") = some false := by decide +kernel
@[simp] theorem kc_Thing_Endless : kitM cs sub (.o "Thing") (.glo "Endless") = some false := by decide +kernel
@[simp] theorem kc_Thing_Thing : kitM cs sub (.o "Thing") (.glo "Thing") = some true := by decide +kernel
@[simp] theorem kc_Thing_Fan : kitM cs sub (.o "Thing") (.glo "Fan") = some false := by decide +kernel
@[simp] theorem kc_Thing_Either : kitM cs sub (.o "Thing") (.glo "Either") = some false := by decide +kernel
@[simp] theorem kc_Thing_Order : kitM cs sub (.o "Thing") (.glo "Order") = some false := by decide +kernel
@[simp] theorem kc_Thing_Sameness : kitM cs sub (.o "Thing") (.glo "Sameness") = some false := by decide +kernel
@[simp] theorem kd_Thing_bool : kitM cs sub (.o "Thing") (.ty "bool") = some false := by decide +kernel
@[simp] theorem kd_Thing_int : kitM cs sub (.o "Thing") (.ty "int") = some false := by decide +kernel
@[simp] theorem kd_Thing_str : kitM cs sub (.o "Thing") (.ty "str") = some false := by decide +kernel
@[simp] theorem kd_Thing_tuple : kitM cs sub (.o "Thing") (.ty "tuple") = some false := by decide +kernel
@[simp] theorem kd_Thing_list : kitM cs sub (.o "Thing") (.ty "list") = some false := by decide +kernel
@[simp] theorem kd_Thing_dict : kitM cs sub (.o "Thing") (.ty "dict") = some false := by decide +kernel
@[simp] theorem kc_Fan_Space : kitM cs sub (.o "Fan") (.glo "Space") = some true := by decide +kernel
@[simp] theorem kc_Fan_Options : kitM cs sub (.o "Fan") (.glo "Options") = some false := by decide +kernel
@[simp] theorem kc_Fan_Pair : kitM cs sub (.o "Fan") (.glo "Pair") = some false := by decide +kernel
@[simp] theorem kc_Fan_Power : kitM cs sub (.o "Fan") (.glo "Power") = some false := by decide +kernel
@[simp] theorem kc_Fan_Endless : kitM cs sub (.o "Fan") (.glo "Endless") = some false := by decide +kernel
@[simp] theorem kc_Fan_Thing : kitM cs sub (.o "Fan") (.glo "Thing") = some false := by decide +kernel
@[simp] theorem kc_Fan_Fan : kitM cs sub (.o "Fan") (.glo "Fan") = some true := by decide +kernel
@[simp] theorem kc_Fan_Either : kitM cs sub (.o "Fan") (.glo "Either") = some false := by decide +kernel
@[simp] theorem kc_Fan_Order : kitM cs sub (.o "Fan") (.glo "Order") = some false := by decide +kernel
@[simp] theorem kc_Fan_Sameness : kitM cs sub (.o "Fan") (.glo "Sameness") = some false := by decide +kernel
@[simp] theorem kd_Fan_bool : kitM cs sub (.o "Fan") (.ty "bool") = some false := by decide +kernel
@[simp] theorem kd_Fan_int : kitM cs sub (.o "Fan") (.ty "int") = some false := by decide +kernel
@[simp] theorem kd_Fan_str : kitM cs sub (.o "Fan") (.ty "str") = some false := by decide +kernel
@[simp] theorem kd_Fan_tuple : kitM cs sub (.o "Fan") (.ty "tuple") = some false := by decide +kernel
@[simp] theorem kd_Fan_list : kitM cs sub (.o "Fan") (.ty "list") = some false := by decide +kernel
@[simp] theorem kd_Fan_dict : kitM cs sub (.o "Fan") (.ty "dict") = some false := by decide +kernel
@[simp] theorem kc_Either_Space : kitM cs sub (.o "Either") (.glo "Space") = some true := by decide +kernel
@[simp] theorem kc_Either_Options : kitM cs sub (.o "Either") (.glo "Options") = some false := by decide +kernel
@[simp] theorem kc_Either_Pair : kitM cs sub (.o "Either") (.glo "Pair") = some false := by decide +kernel
@[simp] theorem kc_Either_Power : kitM cs sub (.o "Either") (.glo "Power") = some false := by decide +kernel
@[simp] theorem kc_Either_Endless : kitM cs sub (.o "Either") (.glo "Endless") = some false := by decide +kernel
@[simp] theorem kc_Either_Thing : kitM cs sub (.o "Either") (.glo "Thing") = some false := by decide +kernel
@[simp] theorem kc_Either_Fan : kitM cs sub (.o "Either") (.glo "Fan") = some false := by decide +kernel
@[simp] theorem kc_Either_Either : kitM cs sub (.o "Either") (.glo "Either") = some true := by decide +kernel
@[simp] theorem kc_Either_Order : kitM cs sub (.o "Either") (.glo "Order") = some false := by decide +kernel
@[simp] theorem kc_Either_Sameness : kitM cs sub (.o "Either") (.glo "Sameness") = some false := by decide +kernel
@[simp] theorem kd_Either_bool : kitM cs sub (.o "Either") (.ty "bool") = some false := by decide +kernel
@[simp] theorem kd_Either_int : kitM cs sub (.o "Either") (.ty "int") = some false := by decide +kernel
@[simp] theorem kd_Either_str : kitM cs sub (.o "Either") (.ty "str") = some false := by decide +kernel
@[simp] theorem kd_Either_tuple : kitM cs sub (.o "Either") (.ty "tuple") = some false := by decide +kernel
@[simp] theorem kd_Either_list : kitM cs sub (.o "Either") (.ty "list") = some false := by decide +kernel
@[simp] theorem kd_Either_dict : kitM cs sub (.o "Either") (.ty "dict") = some false := by decide +kernel
@[simp] theorem kc_Order_Space : kitM cs sub (.o "Order") (.glo "Space") = some true := by decide +kernel
@[simp] theorem kc_Order_Options : kitM cs sub (.o "Order") (.glo "Options") = some false := by decide +kernel
@[simp] theorem kc_Order_Pair : kitM cs sub (.o "Order") (.glo "Pair") = some false := by decide +kernel
@[simp] theorem kc_Order_Power : kitM cs sub (.o "Order") (.glo "Power") = some false := by decide +kernel
@[simp] theorem kc_Order_Endless : kitM cs sub (.o "Order") (.glo "Endless") = some false := by decide +kernel
@[simp] theorem kc_Order_Thing : kitM cs sub (.o "Order") (.glo "Thing") = some false := by decide +kernel
@[simp] theorem kc_Order_Fan : kitM cs sub (.o "Order") (.glo "Fan") = some false := by decide +kernel
@[simp] theorem kc_Order_Either : kitM cs sub (.o "Order") (.glo "Either") = some false := by decide +kernel
@[simp] theorem kc_Order_Order : kitM cs sub (.o "Order") (.glo "Order") = some true := by decide +kernel
@[simp] theorem kc_Order_Sameness : kitM cs sub (.o "Order") (.glo "Sameness") = some false := by decide +kernel
@[simp] theorem kd_Order_bool : kitM cs sub (.o "Order") (.ty "bool") = some false := by decide +kernel
@[simp] theorem kd_Order_int : kitM cs sub (.o "Order") (.ty "int") = some false := by decide +kernel
@[simp] theorem kd_Order_str : kitM cs sub (.o "Order") (.ty "str") = some false := by decide +kernel
@[simp] theorem kd_Order_tuple : kitM cs sub (.o "Order") (.ty "tuple") = some false := by decide +kernel
@[simp] theorem kd_Order_list : kitM cs sub (.o "Order") (.ty "list") = some false := by decide +kernel
@[simp] theorem kd_Order_dict : kitM cs sub (.o "Order") (.ty "dict") = some false := by decide +kernel
@[simp] theorem kc_Sameness_Space : kitM cs sub (.o "Sameness") (.glo "Space") = some true := by decide +kernel
@[simp] theorem kc_Sameness_Options : kitM cs sub (.o "Sameness") (.glo "Options") = some false := by decide +kernel
@[simp] theorem kc_Sameness_Pair : kitM cs sub (.o "Sameness") (.glo "Pair") = some false := by decide +kernel
@[simp] theorem kc_Sameness_Power : kitM cs sub (.o "Sameness") (.glo "Power") = some false := by decide +kernel
@[simp] theorem kc_Sameness_Endless : kitM cs sub (.o "Sameness") (.glo "Endless") = some false := by decide +kernel
@[simp] theorem kc_Sameness_Thing : kitM cs sub (.o "Sameness") (.glo "Thing") = some false := by decide +kernel
@[simp] theorem kc_Sameness_Fan : kitM cs sub (.o "Sameness") (.glo "Fan") = some false := by decide +kernel
@[simp] theorem kc_Sameness_Either : kitM cs sub (.o "Sameness") (.glo "Either") = some false := by decide +kernel
@[simp] theorem kc_Sameness_Order : kitM cs sub (.o "Sameness") (.glo "Order") = some false := by decide +kernel
@[simp] theorem kc_Sameness_Sameness : kitM cs sub (.o "Sameness") (.glo "Sameness") = some true := by decide +kernel
@[simp] theorem kd_Sameness_bool : kitM cs sub (.o "Sameness") (.ty "bool") = some false := by decide +kernel
@[simp] theorem kd_Sameness_int : kitM cs sub (.o "Sameness") (.ty "int") = some false := by decide +kernel
@[simp] theorem kd_Sameness_str : kitM cs sub (.o "Sameness") (.ty "str") = some false := by decide +kernel
@[simp] theorem kd_Sameness_tuple : kitM cs sub (.o "Sameness") (.ty "tuple") = some false := by decide +kernel
@[simp] theorem kd_Sameness_list : kitM cs sub (.o "Sameness") (.ty "list") = some false := by decide +kernel
@[simp] theorem kd_Sameness_dict : kitM cs sub (.o "Sameness") (.ty "dict") = some false := by decide +kernel
@[simp] theorem ke_NoneType_Space : kitM cs sub (.b "NoneType") (.glo "Space") = some false := by decide +kernel
@[simp] theorem ke_NoneType_Options : kitM cs sub (.b "NoneType") (.glo "Options") = some false := by decide +kernel
@[simp] theorem ke_NoneType_Pair : kitM cs sub (.b "NoneType") (.glo "Pair") = some false := by decide +kernel
@[simp] theorem ke_NoneType_Power : kitM cs sub (.b "NoneType") (.glo "Power") = some false := by decide +kernel
@[simp] theorem ke_NoneType_Endless : kitM cs sub (.b "NoneType") (.glo "Endless") = some false := by decide +kernel
@[simp] theorem ke_NoneType_Thing : kitM cs sub (.b "NoneType") (.glo "Thing") = some false := by decide +kernel
@[simp] theorem ke_NoneType_Fan : kitM cs sub (.b "NoneType") (.glo "Fan") = some false := by decide +kernel
@[simp] theorem ke_NoneType_Either : kitM cs sub (.b "NoneType") (.glo "Either") = some false := by decide +kernel
@[simp] theorem ke_NoneType_Order : kitM cs sub (.b "NoneType") (.glo "Order") = some false := by decide +kernel
@[simp] theorem ke_NoneType_Sameness : kitM cs sub (.b "NoneType") (.glo "Sameness") = some false := by decide +kernel
@[simp] theorem ke_bool_Space : kitM cs sub (.b "bool") (.glo "Space") = some false := by decide +kernel
@[simp] theorem ke_bool_Options : kitM cs sub (.b "bool") (.glo "Options") = some false := by decide +kernel
@[simp] theorem ke_bool_Pair : kitM cs sub (.b "bool") (.glo "Pair") = some false := by decide +kernel
@[simp] theorem ke_bool_Power : kitM cs sub (.b "bool") (.glo "Power") = some false := by decide +kernel
@[simp] theorem ke_bool_Endless : kitM cs sub (.b "bool") (.glo "Endless") = some false := by decide +kernel
@[simp] theorem ke_bool_Thing : kitM cs sub (.b "bool") (.glo "Thing") = some false := by decide +kernel
@[simp] theorem ke_bool_Fan : kitM cs sub (.b "bool") (.glo "Fan") = some false := by decide +kernel
@[simp] theorem ke_bool_Either : kitM cs sub (.b "bool") (.glo "Either") = some false := by decide +kernel
@[simp] theorem ke_bool_Order : kitM cs sub (.b "bool") (.glo "Order") = some false := by decide +kernel
@[simp] theorem ke_bool_Sameness : kitM cs sub (.b "bool") (.glo "Sameness") = some false := by decide +kernel
@[simp] theorem ke_int_Space : kitM cs sub (.b "int") (.glo "Space") = some false := by decide +kernel
@[simp] theorem ke_int_Options : kitM cs sub (.b "int") (.glo "Options") = some false := by decide +kernel
@[simp] theorem ke_int_Pair : kitM cs sub (.b "int") (.glo "Pair") = some false := by decide +kernel
@[simp] theorem ke_int_Power : kitM cs sub (.b "int") (.glo "Power") = some false := by decide +kernel
@[simp] theorem ke_int_Endless : kitM cs sub (.b "int") (.glo "Endless") = some false := by decide +kernel
@[simp] theorem ke_int_Thing : kitM cs sub (.b "int") (.glo "Thing") = some false := by decide +kernel
@[simp] theorem ke_int_Fan : kitM cs sub (.b "int") (.glo "Fan") = some false := by decide +kernel
@[simp] theorem ke_int_Either : kitM cs sub (.b "int") (.glo "Either") = some false := by decide +kernel
@[simp] theorem ke_int_Order : kitM cs sub (.b "int") (.glo "Order") = some false := by decide +kernel
@[simp] theorem ke_int_Sameness : kitM cs sub (.b "int") (.glo "Sameness") = some false := by decide +kernel
@[simp] theorem ke_str_Space : kitM cs sub (.b "str") (.glo "Space") = some false := by decide +kernel
@[simp] theorem ke_str_Options : kitM cs sub (.b "str") (.glo "Options") = some false := by decide +kernel
@[simp] theorem ke_str_Pair : kitM cs sub (.b "str") (.glo "Pair") = some false := by decide +kernel
@[simp] theorem ke_str_Power : kitM cs sub (.b "str") (.glo "Power") = some false := by decide +kernel
@[simp] theorem ke_str_Endless : kitM cs sub (.b "str") (.glo "Endless") = some false := by decide +kernel
@[simp] theorem ke_str_Thing : kitM cs sub (.b "str") (.glo "Thing") = some false := by decide +kernel
@[simp] theorem ke_str_Fan : kitM cs sub (.b "str") (.glo "Fan") = some false := by decide +kernel
@[simp] theorem ke_str_Either : kitM cs sub (.b "str") (.glo "Either") = some false := by decide +kernel
@[simp] theorem ke_str_Order : kitM cs sub (.b "str") (.glo "Order") = some false := by decide +kernel
@[simp] theorem ke_str_Sameness : kitM cs sub (.b "str") (.glo "Sameness") = some false := by decide +kernel
@[simp] theorem ke_tuple_Space : kitM cs sub (.b "tuple") (.glo "Space") = some false := by decide +kernel
@[simp] theorem ke_tuple_Options : kitM cs sub (.b "tuple") (.glo "Options") = some false := by decide +kernel
@[simp] theorem ke_tuple_Pair : kitM cs sub (.b "tuple") (.glo "Pair") = some false := by decide +kernel
@[simp] theorem ke_tuple_Power : kitM cs sub (.b "tuple") (.glo "Power") = some false := by decide +kernel
@[simp] theorem ke_tuple_Endless : kitM cs sub (.b "tuple") (.glo "Endless") = some false := by decide +kernel
@[simp] theorem ke_tuple_Thing : kitM cs sub (.b "tuple") (.glo "Thing") = some false := by decide +kernel
@[simp] theorem ke_tuple_Fan : kitM cs sub (.b "tuple") (.glo "Fan") = some false := by decide +kernel
@[simp] theorem ke_tuple_Either : kitM cs sub (.b "tuple") (.glo "Either") = some false := by decide +kernel
@[simp] theorem ke_tuple_Order : kitM cs sub (.b "tuple") (.glo "Order") = some false := by decide +kernel
@[simp] theorem ke_tuple_Sameness : kitM cs sub (.b "tuple") (.glo "Sameness") = some false := by decide +kernel
@[simp] theorem ke_list_Space : kitM cs sub (.b "list") (.glo "Space") = some false := by decide +kernel
@[simp] theorem ke_list_Options : kitM cs sub (.b "list") (.glo "Options") = some false := by decide +kernel
@[simp] theorem ke_list_Pair : kitM cs sub (.b "list") (.glo "Pair") = some false := by decide +kernel
@[simp] theorem ke_list_Power : kitM cs sub (.b "list") (.glo "Power") = some false := by decide +kernel
@[simp] theorem ke_list_Endless : kitM cs sub (.b "list") (.glo "Endless") = some false := by decide +kernel
@[simp] theorem ke_list_Thing : kitM cs sub (.b "list") (.glo "Thing") = some false := by decide +kernel
@[simp] theorem ke_list_Fan : kitM cs sub (.b "list") (.glo "Fan") = some false := by decide +kernel
@[simp] theorem ke_list_Either : kitM cs sub (.b "list") (.glo "Either") = some false := by decide +kernel
@[simp] theorem ke_list_Order : kitM cs sub (.b "list") (.glo "Order") = some false := by decide +kernel
@[simp] theorem ke_list_Sameness : kitM cs sub (.b "list") (.glo "Sameness") = some false := by decide +kernel
@[simp] theorem ke_dict_Space : kitM cs sub (.b "dict") (.glo "Space") = some false := by decide +kernel
@[simp] theorem ke_dict_Options : kitM cs sub (.b "dict") (.glo "Options") = some false := by decide +kernel
@[simp] theorem ke_dict_Pair : kitM cs sub (.b "dict") (.glo "Pair") = some false := by decide +kernel
@[simp] theorem ke_dict_Power : kitM cs sub (.b "dict") (.glo "Power") = some false := by decide +kernel
@[simp] theorem ke_dict_Endless : kitM cs sub (.b "dict") (.glo "Endless") = some false := by decide +kernel
@[simp] theorem ke_dict_Thing : kitM cs sub (.b "dict") (.glo "Thing") = some false := by decide +kernel
@[simp] theorem ke_dict_Fan : kitM cs sub (.b "dict") (.glo "Fan") = some false := by decide +kernel
@[simp] theorem ke_dict_Either : kitM cs sub (.b "dict") (.glo "Either") = some false := by decide +kernel
@[simp] theorem ke_dict_Order : kitM cs sub (.b "dict") (.glo "Order") = some false := by decide +kernel
@[simp] theorem ke_dict_Sameness : kitM cs sub (.b "dict") (.glo "Sameness") = some false := by decide +kernel
@[simp] theorem er_BadSpace : er "BadSpace" = true := by decide +kernel
@[simp] theorem er_NoPlace : er "NoPlace" = true := by decide +kernel
@[simp] theorem er_BadAnswer : er "BadAnswer" = true := by decide +kernel
@[simp] theorem sn_0 : (("BadAnswer" : Str) = "BadSpace") = False := eq_false (by decide)
@[simp] theorem sn_1 : (("BadAnswer" : Str) = "NoPlace") = False := eq_false (by decide)
@[simp] theorem sn_2 : (("BadSpace" : Str) = "BadAnswer") = False := eq_false (by decide)
@[simp] theorem sn_3 : (("BadSpace" : Str) = "NoPlace") = False := eq_false (by decide)
@[simp] theorem sn_4 : (("NoPlace" : Str) = "BadAnswer") = False := eq_false (by decide)
@[simp] theorem sn_5 : (("NoPlace" : Str) = "BadSpace") = False := eq_false (by decide)
@[simp] theorem sn_6 : (("base" : Str) = "form") = False := eq_false (by decide)
@[simp] theorem sn_7 : (("base" : Str) = "free") = False := eq_false (by decide)
@[simp] theorem sn_8 : (("base" : Str) = "n") = False := eq_false (by decide)
@[simp] theorem sn_9 : (("count" : Str) = "form") = False := eq_false (by decide)
@[simp] theorem sn_10 : (("count" : Str) = "free") = False := eq_false (by decide)
@[simp] theorem sn_11 : (("endless" : Str) = "lost") = False := eq_false (by decide)
@[simp] theorem sn_12 : (("endless" : Str) = "options") = False := eq_false (by decide)
@[simp] theorem sn_13 : (("endless" : Str) = "pair") = False := eq_false (by decide)
@[simp] theorem sn_14 : (("endless" : Str) = "power") = False := eq_false (by decide)
@[simp] theorem sn_15 : (("endless" : Str) = "told") = False := eq_false (by decide)
@[simp] theorem sn_16 : (("form" : Str) = "base") = False := eq_false (by decide)
@[simp] theorem sn_17 : (("form" : Str) = "count") = False := eq_false (by decide)
@[simp] theorem sn_18 : (("form" : Str) = "free") = False := eq_false (by decide)
@[simp] theorem sn_19 : (("form" : Str) = "left") = False := eq_false (by decide)
@[simp] theorem sn_20 : (("form" : Str) = "n") = False := eq_false (by decide)
@[simp] theorem sn_21 : (("form" : Str) = "right") = False := eq_false (by decide)
@[simp] theorem sn_22 : (("free" : Str) = "base") = False := eq_false (by decide)
@[simp] theorem sn_23 : (("free" : Str) = "count") = False := eq_false (by decide)
@[simp] theorem sn_24 : (("free" : Str) = "form") = False := eq_false (by decide)
@[simp] theorem sn_25 : (("free" : Str) = "left") = False := eq_false (by decide)
@[simp] theorem sn_26 : (("free" : Str) = "n") = False := eq_false (by decide)
@[simp] theorem sn_27 : (("free" : Str) = "right") = False := eq_false (by decide)
@[simp] theorem sn_28 : (("given" : Str) = "place") = False := eq_false (by decide)
@[simp] theorem sn_29 : (("left" : Str) = "form") = False := eq_false (by decide)
@[simp] theorem sn_30 : (("left" : Str) = "free") = False := eq_false (by decide)
@[simp] theorem sn_31 : (("left" : Str) = "right") = False := eq_false (by decide)
@[simp] theorem sn_32 : (("lost" : Str) = "endless") = False := eq_false (by decide)
@[simp] theorem sn_33 : (("lost" : Str) = "options") = False := eq_false (by decide)
@[simp] theorem sn_34 : (("lost" : Str) = "pair") = False := eq_false (by decide)
@[simp] theorem sn_35 : (("lost" : Str) = "power") = False := eq_false (by decide)
@[simp] theorem sn_36 : (("lost" : Str) = "told") = False := eq_false (by decide)
@[simp] theorem sn_37 : (("n" : Str) = "base") = False := eq_false (by decide)
@[simp] theorem sn_38 : (("n" : Str) = "form") = False := eq_false (by decide)
@[simp] theorem sn_39 : (("n" : Str) = "free") = False := eq_false (by decide)
@[simp] theorem sn_40 : (("options" : Str) = "endless") = False := eq_false (by decide)
@[simp] theorem sn_41 : (("options" : Str) = "lost") = False := eq_false (by decide)
@[simp] theorem sn_42 : (("options" : Str) = "pair") = False := eq_false (by decide)
@[simp] theorem sn_43 : (("options" : Str) = "power") = False := eq_false (by decide)
@[simp] theorem sn_44 : (("options" : Str) = "told") = False := eq_false (by decide)
@[simp] theorem sn_45 : (("pair" : Str) = "endless") = False := eq_false (by decide)
@[simp] theorem sn_46 : (("pair" : Str) = "lost") = False := eq_false (by decide)
@[simp] theorem sn_47 : (("pair" : Str) = "options") = False := eq_false (by decide)
@[simp] theorem sn_48 : (("pair" : Str) = "power") = False := eq_false (by decide)
@[simp] theorem sn_49 : (("pair" : Str) = "told") = False := eq_false (by decide)
@[simp] theorem sn_50 : (("place" : Str) = "given") = False := eq_false (by decide)
@[simp] theorem sn_51 : (("place" : Str) = "source") = False := eq_false (by decide)
@[simp] theorem sn_52 : (("place" : Str) = "space") = False := eq_false (by decide)
@[simp] theorem sn_53 : (("power" : Str) = "endless") = False := eq_false (by decide)
@[simp] theorem sn_54 : (("power" : Str) = "lost") = False := eq_false (by decide)
@[simp] theorem sn_55 : (("power" : Str) = "options") = False := eq_false (by decide)
@[simp] theorem sn_56 : (("power" : Str) = "pair") = False := eq_false (by decide)
@[simp] theorem sn_57 : (("power" : Str) = "told") = False := eq_false (by decide)
@[simp] theorem sn_58 : (("right" : Str) = "form") = False := eq_false (by decide)
@[simp] theorem sn_59 : (("right" : Str) = "free") = False := eq_false (by decide)
@[simp] theorem sn_60 : (("right" : Str) = "left") = False := eq_false (by decide)
@[simp] theorem sn_61 : (("source" : Str) = "place") = False := eq_false (by decide)
@[simp] theorem sn_62 : (("source" : Str) = "space") = False := eq_false (by decide)
@[simp] theorem sn_63 : (("space" : Str) = "place") = False := eq_false (by decide)
@[simp] theorem sn_64 : (("space" : Str) = "source") = False := eq_false (by decide)
@[simp] theorem sn_65 : (("told" : Str) = "endless") = False := eq_false (by decide)
@[simp] theorem sn_66 : (("told" : Str) = "lost") = False := eq_false (by decide)
@[simp] theorem sn_67 : (("told" : Str) = "options") = False := eq_false (by decide)
@[simp] theorem sn_68 : (("told" : Str) = "pair") = False := eq_false (by decide)
@[simp] theorem sn_69 : (("told" : Str) = "power") = False := eq_false (by decide)
def slL : List (Str × List Str) := ("Told", ["answer"]) :: []
def sl_ : Str → List Str := slOf slL
def msL : List ((Str × Str) × Nat) := (("Told", "tell"), k_Told_tell) :: []
def ms : (Nat → List A → M A) → Str → Str → Option (List A → M A) := mtOf msL
@[simp] theorem ms_Told_tell (C : Nat → List A → M A) : ms C "Told" "tell" = some (C k_Told_tell) := rfl
@[simp] theorem sl_Told : sl_ "Told" = (["answer"] : List Str) := rfl
def ciL : List (Str × Nat) := []
def ci : (Nat → List A → M A) → Str → Option (List A → M A) := ciOf ciL
def mtL : List ((Str × Str) × Nat) := (("Space", "bare"), k_Space_bare) :: (("Space", "part"), k_Space_part) :: (("Options", "bare"), k_Space_bare) :: (("Options", "part"), k_Space_part) :: (("Pair", "bare"), k_Space_bare) :: (("Pair", "part"), k_Pair_part) :: (("Power", "bare"), k_Space_bare) :: (("Power", "part"), k_Power_part) :: (("Endless", "bare"), k_Space_bare) :: (("Endless", "part"), k_Endless_part) :: (("Thing", "at"), k_Thing_at) :: (("Thing", "look"), k_Thing_look) :: []
def mt : (Nat → List A → M A) → Str → Str → Option (List A → M A) := mtOf mtL
@[simp] theorem mt_Space_bare (C : Nat → List A → M A) : mt C "Space" "bare" = some (C k_Space_bare) := rfl
@[simp] theorem mt_Space_part (C : Nat → List A → M A) : mt C "Space" "part" = some (C k_Space_part) := rfl
@[simp] theorem mt_Options_bare (C : Nat → List A → M A) : mt C "Options" "bare" = some (C k_Space_bare) := rfl
@[simp] theorem mt_Options_part (C : Nat → List A → M A) : mt C "Options" "part" = some (C k_Space_part) := rfl
@[simp] theorem mt_Pair_bare (C : Nat → List A → M A) : mt C "Pair" "bare" = some (C k_Space_bare) := rfl
@[simp] theorem mt_Pair_part (C : Nat → List A → M A) : mt C "Pair" "part" = some (C k_Pair_part) := rfl
@[simp] theorem mt_Power_bare (C : Nat → List A → M A) : mt C "Power" "bare" = some (C k_Space_bare) := rfl
@[simp] theorem mt_Power_part (C : Nat → List A → M A) : mt C "Power" "part" = some (C k_Power_part) := rfl
@[simp] theorem mt_Endless_bare (C : Nat → List A → M A) : mt C "Endless" "bare" = some (C k_Space_bare) := rfl
@[simp] theorem mt_Endless_part (C : Nat → List A → M A) : mt C "Endless" "part" = some (C k_Endless_part) := rfl
@[simp] theorem mt_Thing_at (C : Nat → List A → M A) : mt C "Thing" "at" = some (C k_Thing_at) := rfl
@[simp] theorem mt_Thing_look (C : Nat → List A → M A) : mt C "Thing" "look" = some (C k_Thing_look) := rfl
def owLMult : List (Str × Nat) := [("Options", k_Space___mul__), ("Pair", k_Space___mul__), ("Power", k_Space___mul__), ("Endless", k_Space___mul__)]
def owMult : (Nat → List A → M A) → Str → Option (List A → M A) := owOf owLMult
theorem ow_Options_Mult (C : Nat → List A → M A) : owMult C "Options" = some (C k_Space___mul__) := rfl
theorem ow_Pair_Mult (C : Nat → List A → M A) : owMult C "Pair" = some (C k_Space___mul__) := rfl
theorem ow_Power_Mult (C : Nat → List A → M A) : owMult C "Power" = some (C k_Space___mul__) := rfl
theorem ow_Endless_Mult (C : Nat → List A → M A) : owMult C "Endless" = some (C k_Space___mul__) := rfl
def owLPow : List (Str × Nat) := [("Options", k_Space___pow__), ("Pair", k_Space___pow__), ("Power", k_Space___pow__), ("Endless", k_Space___pow__)]
def owPow : (Nat → List A → M A) → Str → Option (List A → M A) := owOf owLPow
theorem ow_Options_Pow (C : Nat → List A → M A) : owPow C "Options" = some (C k_Space___pow__) := rfl
theorem ow_Pair_Pow (C : Nat → List A → M A) : owPow C "Pair" = some (C k_Space___pow__) := rfl
theorem ow_Power_Pow (C : Nat → List A → M A) : owPow C "Power" = some (C k_Space___pow__) := rfl
theorem ow_Endless_Pow (C : Nat → List A → M A) : owPow C "Endless" = some (C k_Space___pow__) := rfl
def m__law_source (C : Nat → List A → M A) : SM :=
  (seqS (setS 2 (iteE (tst (op2 (ltM) (vr 1) (callE (lenM) (consA (vr 0) nilA)))) (op2 ixM (vr 0) (vr 1)) (op2 addA (op2 mulI (cst (.int 7)) (vr 1)) (cst (.int 3)))))
  (retS (lstL (consA (iteE (tst (op2 (geI) (vr 2) (op2 powI (cst (.int 10)) (cst (.int 18))))) (vr 2) (cst (.int 0))) (consA (op2 modA (callE (intM) (consA (vr 2) nilA)) (cst (.int 2147483647))) (consA (cst (.int 0)) nilA))))))
def m__law_draw (C : Nat → List A → M A) : SM :=
  (seqS (ifS (tst (op2 (gtI) (op2 ixM (vr 0) (cst (.int 0))) (cst (.int 0))))
  (seqS (setS 2 (op2 modA (callE (intM) (consA (op2 ixM (vr 0) (cst (.int 0))) nilA)) (vr 1)))
  (seqS (subS (vr 0) (cst (.int 0)) (op2 fdivA (op2 ixM (vr 0) (cst (.int 0))) (vr 1)))
  (retS (vr 2))))
  nextS)
  (seqS (subS (vr 0) (cst (.int 2)) (op2 addA (op2 ixM (vr 0) (cst (.int 2))) (cst (.int 1))))
  (seqS (setS 3 (op2 modA (op2 powI (callE (intM) (consA (op2 addA (op2 ixM (vr 0) (cst (.int 1))) (op2 mulI (cst (.int 7919)) (op2 ixM (vr 0) (cst (.int 2))))) nilA)) (cst (.int 5))) (cst (.int 2147483647))))
  (retS (op2 modA (op2 fdivA (op2 modA (op2 mulI (op2 addA (vr 3) (op2 ixM (vr 0) (cst (.int 2)))) (cst (.int 40692))) (cst (.int 2147483629))) (cst (.int 16))) (vr 1))))))
def m__law_pick (C : Nat → List A → M A) : SM :=
  (retS (op2 ixM (vr 1) (callE (C k__law_draw) (consA (vr 0) (consA (callE (lenM) (consA (vr 1) nilA)) nilA)))))
def m__law_same (C : Nat → List A → M A) : SM :=
  (seqS (ifS (tst (callE (isiM cs sub) (consA (vr 1) (consA (tupE (consA (cst (.ty "list")) (consA (cst (.ty "tuple")) nilA))) nilA))))
  (seqS (ifS (orT (tst (op2 (eqM true) (callE (isiM cs sub) (consA (vr 0) (consA (cst (.ty "list")) nilA))) (callE (isiM cs sub) (consA (vr 1) (consA (cst (.ty "list")) nilA))))) (tst (op2 (eqM true) (callE (isiM cs sub) (consA (vr 0) (consA (cst (.ty "tuple")) nilA))) (callE (isiM cs sub) (consA (vr 1) (consA (cst (.ty "tuple")) nilA))))))
  (retS (cst (.bl false)))
  nextS)
  (lockS 1 (lockS 0 (retS (andV (op2 (eqM false) (callE (lenM) (consA (vr 0) nilA)) (callE (lenM) (consA (vr 1) nilA))) (callE (allB) (consA (lcE false (asgT [(asgN 2), (asgN 3)]) (zipE (consA (vr 0) (consA (vr 1) nilA))) yesT (callE (C k__law_same) (consA (vr 2) (consA (vr 3) nilA))) [2, 3]) nilA)))))))
  nextS)
  (seqS (ifS (tst (callE (isiM cs sub) (consA (vr 1) (consA (cst (.ty "dict")) nilA))))
  (seqS (ifS (notT (tst (callE (isiM cs sub) (consA (vr 0) (consA (cst (.ty "dict")) nilA)))))
  (retS (cst (.bl false)))
  nextS)
  (retS (callE (C k__law_same) (consA (itsE (vr 0)) (consA (itsE (vr 1)) nilA)))))
  nextS)
  (seqS (ifS (tst (callE (isiM cs sub) (consA (vr 1) (consA (tupE (consA (cst (.ty "bool")) (consA (cst (.ty "int")) nilA))) nilA))))
  (retS (andV (callE (isiM cs sub) (consA (vr 0) (consA (cst (.ty "int")) nilA))) (andV (op2 (eqM false) (callE (isiM cs sub) (consA (vr 0) (consA (cst (.ty "bool")) nilA))) (callE (isiM cs sub) (consA (vr 1) (consA (cst (.ty "bool")) nilA)))) (op2 (eqM false) (vr 0) (vr 1)))))
  nextS)
  (retS (andV (notV (callE (isiM cs sub) (consA (vr 0) (consA (tupE (consA (cst (.ty "bool")) (consA (cst (.ty "int")) (consA (cst (.ty "list")) (consA (cst (.ty "tuple")) (consA (cst (.ty "dict")) nilA)))))) nilA)))) (op2 (eqM false) (vr 0) (vr 1)))))))
def b__law_up_1 (C : Nat → List A → M A) : SM :=
  (seqS (lockS 1 (setS 3 (callE (lenM) (consA (lcE false (asgN 4) (itE (vr 1)) (tst (op2 (ltM) (vr 4) (vr 2))) (vr 4) [4]) nilA))))
  (ifS (tst (op2 (inM true) (vr 2) (vr 1)))
  (dropS (lmE insM (vr 1) (consA (vr 3) (consA (vr 2) nilA))))
  nextS))
def m__law_up (C : Nat → List A → M A) : SM :=
  (seqS (setS 1 (lstL nilA))
  (seqS (forS (asgN 2) (itE (vr 0))
  (b__law_up_1 C))
  (frzS 1 (retS (vr 1)))))
def m__law_form (C : Nat → List A → M A) : SM :=
  (seqS (setS 2 (iteE (tst (op2 (gtI) (vr 1) (cst (.int 0)))) (callE (C k__law_draw) (consA (vr 0) (consA (cst (.int 7)) nilA))) (cst (.int 0))))
  (seqS (ifS (tst (op2 (ltM) (vr 2) (cst (.int 2))))
  (retS (tupE (consA (cst (.str "options")) (consA (op2 addA (cst (.int 1)) (callE (C k__law_draw) (consA (vr 0) (consA (cst (.int 3)) nilA)))) nilA))))
  nextS)
  (seqS (ifS (tst (op2 (ltM) (vr 2) (cst (.int 4))))
  (retS (tupE (consA (cst (.str "endless")) (consA (callE (C k__law_form) (consA (vr 0) (consA (op2 subA (vr 1) (cst (.int 1))) nilA))) nilA))))
  nextS)
  (seqS (ifS (tst (op2 (ltM) (vr 2) (cst (.int 6))))
  (retS (tupE (consA (cst (.str "pair")) (consA (callE (C k__law_form) (consA (vr 0) (consA (op2 subA (vr 1) (cst (.int 1))) nilA))) (consA (callE (C k__law_form) (consA (vr 0) (consA (op2 subA (vr 1) (cst (.int 1))) nilA))) nilA)))))
  nextS)
  (retS (tupE (consA (cst (.str "power")) (consA (callE (C k__law_form) (consA (vr 0) (consA (op2 subA (vr 1) (cst (.int 1))) nilA))) (consA (callE (C k__law_draw) (consA (vr 0) (consA (cst (.int 4)) nilA))) nilA)))))))))
def m__law_space (C : Nat → List A → M A) : SM :=
  (seqS (ifS (tst (op2 (eqM false) (op2 ixM (vr 0) (cst (.int 0))) (cst (.str "options"))))
  (retS (callE (mkM true "Options" (C k_Options___init__)) (consA (op2 ixM (vr 0) (cst (.int 1))) nilA)))
  nextS)
  (seqS (ifS (tst (op2 (eqM false) (op2 ixM (vr 0) (cst (.int 0))) (cst (.str "endless"))))
  (retS (callE (mkM true "Endless" (C k_Endless___init__)) (consA (callE (C k__law_space) (consA (op2 ixM (vr 0) (cst (.int 1))) nilA)) nilA)))
  nextS)
  (seqS (ifS (tst (op2 (eqM false) (op2 ixM (vr 0) (cst (.int 0))) (cst (.str "pair"))))
  (retS (op2 (ownM (owMult C)) (callE (C k__law_space) (consA (op2 ixM (vr 0) (cst (.int 1))) nilA)) (callE (C k__law_space) (consA (op2 ixM (vr 0) (cst (.int 2))) nilA))))
  nextS)
  (seqS (setS 1 (callE (C k__law_space) (consA (op2 ixM (vr 0) (cst (.int 1))) nilA)))
  (retS (op2 ixM (lstF (consA (op2 (ownM (owPow C)) (vr 1) (cst (.int 0))) (consA (op2 (ownM (owPow C)) (vr 1) (cst (.int 1))) (consA (op2 (ownM (owPow C)) (vr 1) (cst (.int 2))) (consA (op2 (ownM (owPow C)) (vr 1) (cst (.int 3))) nilA))))) (op2 ixM (vr 0) (cst (.int 2)))))))))
def m__law_place (C : Nat → List A → M A) : SM :=
  (seqS (ifS (tst (op2 (eqM false) (op2 ixM (vr 1) (cst (.int 0))) (cst (.str "options"))))
  (retS (tupE nilA))
  nextS)
  (seqS (ifS (tst (op2 (eqM false) (op2 ixM (vr 1) (cst (.int 0))) (cst (.str "pair"))))
  (seqS (setS 2 (callE (C k__law_draw) (consA (vr 0) (consA (cst (.int 2)) nilA))))
  (seqS (setS 3 (callE (C k__law_place) (consA (vr 0) (consA (op2 ixM (vr 1) (op2 addA (cst (.int 1)) (vr 2))) nilA))))
  (ifS (tst (op2 (isM false) (vr 3) (cst .non)))
  (seqS (setS 2 (op2 subA (cst (.int 1)) (vr 2)))
  (setS 3 (callE (C k__law_place) (consA (vr 0) (consA (op2 ixM (vr 1) (op2 addA (cst (.int 1)) (vr 2))) nilA)))))
  nextS)))
  (seqS (setS 4 (iteE (tst (op2 (eqM false) (op2 ixM (vr 1) (cst (.int 0))) (cst (.str "power")))) (op2 ixM (vr 1) (cst (.int 2))) (cst (.int 5))))
  (seqS (ifS (tst (op2 (eqM false) (vr 4) (cst (.int 0))))
  (retS (cst .non))
  nextS)
  (seqS (setS 2 (callE (C k__law_draw) (consA (vr 0) (consA (vr 4) nilA))))
  (seqS (ifS (andT (tst (op2 (eqM false) (op2 ixM (vr 1) (cst (.int 0))) (cst (.str "endless")))) (tst (op2 (eqM false) (vr 2) (cst (.int 4)))))
  (setS 2 (op2 addA (op2 powI (cst (.int 10)) (cst (.int 20))) (callE (C k__law_draw) (consA (vr 0) (consA (cst (.int 3)) nilA)))))
  nextS)
  (setS 3 (callE (C k__law_place) (consA (vr 0) (consA (op2 ixM (vr 1) (cst (.int 1))) nilA)))))))))
  (retS (iteE (tst (op2 (isM false) (vr 3) (cst .non))) (cst .non) (op2 addA (tupE (consA (vr 2) nilA)) (vr 3))))))
def m__law_places (C : Nat → List A → M A) : SM :=
  (seqS (setS 3 (lcE false (asgN 4) (rng1 (consA (vr 2) nilA)) yesT (callE (C k__law_place) (consA (vr 0) (consA (vr 1) nilA))) [4]))
  (retS (callE (C k__law_up) (consA (lcE false (asgN 5) (itE (vr 3)) (tst (op2 (isM true) (vr 5) (cst .non))) (vr 5) [5]) nilA))))
def m__law_count (C : Nat → List A → M A) : SM :=
  (seqS (ifS (tst (op2 (eqM false) (op2 ixM (vr 0) (cst (.int 0))) (cst (.str "options"))))
  (retS (op2 ixM (vr 0) (cst (.int 1))))
  nextS)
  (retS (callE (C k__law_count) (consA (iteE (tst (op2 (eqM false) (op2 ixM (vr 0) (cst (.int 0))) (cst (.str "pair")))) (op2 ixM (vr 0) (op2 addA (cst (.int 1)) (op2 ixM (vr 1) (cst (.int 0))))) (op2 ixM (vr 0) (cst (.int 1)))) (consA (slE (vr 1) (partOf (cst (.int 1))) noPart) nilA)))))
def m__law_at (C : Nat → List A → M A) : SM :=
  (retS (iteE (tst (op2 (inM false) (vr 2) (vr 0))) (op2 ixM (vr 1) (lmE indD (vr 0) (consA (vr 2) nilA))) (cst (.int 0))))
def m__law_noted (C : Nat → List A → M A) : SM :=
  (seqS (dropS (lmE appM (vr 0) (consA (vr 3) nilA)))
  (retS (callE (C k__law_at) (consA (vr 1) (consA (vr 2) (consA (vr 3) nilA))))))
def m__law_there (C : Nat → List A → M A) : SM :=
  (seqS (ifS (tst (op2 (eqM false) (op2 ixM (vr 0) (cst (.int 0))) (cst (.str "options"))))
  (retS (op2 (eqM false) (vr 1) (tupE nilA)))
  nextS)
  (seqS (ifS (orT (tst (op2 (eqM false) (vr 1) (tupE nilA))) (tst (op2 (ltM) (op2 ixM (vr 1) (cst (.int 0))) (cst (.int 0)))))
  (retS (cst (.bl false)))
  nextS)
  (seqS (ifS (tst (op2 (eqM false) (op2 ixM (vr 0) (cst (.int 0))) (cst (.str "pair"))))
  (retS (andV (op2 (ltM) (op2 ixM (vr 1) (cst (.int 0))) (cst (.int 2))) (callE (C k__law_there) (consA (op2 ixM (vr 0) (op2 addA (cst (.int 1)) (op2 ixM (vr 1) (cst (.int 0))))) (consA (slE (vr 1) (partOf (cst (.int 1))) noPart) nilA)))))
  nextS)
  (retS (andV (orV (op2 (eqM false) (op2 ixM (vr 0) (cst (.int 0))) (cst (.str "endless"))) (op2 (ltM) (op2 ixM (vr 1) (cst (.int 0))) (op2 ixM (vr 0) (cst (.int 2))))) (callE (C k__law_there) (consA (op2 ixM (vr 0) (cst (.int 1))) (consA (slE (vr 1) (partOf (cst (.int 1))) noPart) nilA))))))))
def m__law_bent (C : Nat → List A → M A) : SM :=
  (seqS (setS 2 (callE (C k__law_draw) (consA (vr 0) (consA (cst (.int 6)) nilA))))
  (seqS (ifS (tst (op2 (eqM false) (vr 2) (cst (.int 0))))
  (retS (op2 addA (vr 1) (tupE (consA (callE (C k__law_draw) (consA (vr 0) (consA (cst (.int 2)) nilA))) nilA))))
  nextS)
  (seqS (ifS (tst (op2 (eqM false) (vr 2) (cst (.int 1))))
  (retS (slE (vr 1) (partOf (cst (.int 1))) noPart))
  nextS)
  (seqS (ifS (tst (op2 (eqM false) (vr 2) (cst (.int 2))))
  (retS (op2 addA (tupE (consA (callE (C k__law_pick) (consA (vr 0) (consA (lstF (consA (op2 subA (cst (.int 0)) (cst (.int 1))) (consA (cst (.int 2)) (consA (cst (.int 3)) (consA (cst (.int 7)) nilA))))) nilA))) nilA)) (slE (vr 1) (partOf (cst (.int 1))) noPart)))
  nextS)
  (retS (vr 1))))))
def m__law_try (C : Nat → List A → M A) : SM :=
  (seqS (tryS er 2 "NoPlace"
  (setS 1 (tupE (consA (cst (.str "told")) (consA (callV (lf C) 0 nilA) nilA))))
  (fun efs => (setS 1 (tupE (consA (cst (.str "lost")) (consA (xfE "place" efs) nilA))))))
  (retS (vr 1)))
def b_law_1 (C : Nat → List A → M A) (k1 : Nat) : SM :=
  (ifS (tst (op2 (eqM true) (op2 ixM (vr 11) (cst (.int 0))) (cst (.str "options"))))
  (seqS (setS 11 (iteE (tst (op2 (eqM false) (op2 ixM (vr 11) (cst (.int 0))) (cst (.str "pair")))) (op2 ixM (vr 11) (op2 addA (cst (.int 1)) (op2 ixM (vr 7) (cst (.int 0))))) (op2 ixM (vr 11) (cst (.int 1)))))
  (seqS (asgS (asgT [(asgN 10), (asgN 12)]) (tupE (consA (methE (mt C) "at" (vr 10) (consA (op2 ixM (vr 7) (cst (.int 0))) nilA)) (consA (op2 addA (vr 12) (slE (vr 7) noPart (partOf (cst (.int 1))))) nilA))))
  (setS 7 (slE (vr 7) (partOf (cst (.int 1))) noPart))))
  nextS)
def b_law_2 (C : Nat → List A → M A) (k1 : Nat) : SM :=
  (seqS (setS 7 (callE (C k__law_place) (consA (vr 1) (consA (vr 2) nilA))))
  (seqS (ifS (tst (op2 (isM false) (vr 7) (cst .non)))
  (retS (andV (op2 (eqM false) (vr 3) (lstF nilA)) (op2 (eqM false) (trimE (callL (C k__law_try) 1 0 [8] (lamL 1 nilA))) (tupE (consA (cst (.str "lost")) (consA (tupE (consA (cst (.int 0)) nilA)) nilA))))))
  nextS)
  (seqS (asgS (asgT [(asgN 10), (asgN 11), (asgN 12)]) (tupE (consA (vr 8) (consA (vr 2) (consA (tupE nilA) nilA)))))
  (seqS (forS (asgN 13) (rng1 (consA (callE (C k__law_draw) (consA (vr 1) (consA (cst (.int 4)) nilA))) nilA))
  (b_law_1 C k1))
  (seqS (setS 7 (callE (C k__law_bent) (consA (vr 1) (consA (vr 7) nilA))))
  (seqS (setS 14 (trimE (callLA k1 0 [5, 3, 6] (C k__law_try) 2 0 [10, 7] (lamL 2 nilA))))
  (seqS (ifS (notT (tst (callE (C k__law_there) (consA (vr 11) (consA (vr 7) nilA)))))
  (seqS (ifS (orT (notT (tst (callE (C k__law_same) (consA (vr 14) (consA (tupE (consA (cst (.str "lost")) (consA (vr 7) nilA))) nilA))))) (tst (op2 (eqM true) (vr 3) (vr 4))))
  (retS (cst (.bl false)))
  nextS)
  cntS)
  nextS)
  (seqS (dropS (lmE appM (vr 4) (consA (op2 addA (vr 12) (vr 7)) nilA)))
  (seqS (setS 15 (callE (C k__law_at) (consA (vr 5) (consA (vr 6) (consA (op2 addA (vr 12) (vr 7)) nilA)))))
  (ifS (orT (notT (tst (callE (C k__law_same) (consA (vr 14) (consA (tupE (consA (cst (.str "told")) (consA (vr 15) nilA))) nilA))))) (tst (op2 (eqM true) (vr 3) (vr 4))))
  (retS (cst (.bl false)))
  nextS))))))))))
def m_law (C : Nat → List A → M A) : SM :=
  (seqS (setS 1 (callE (C k__law_source) (consA (vr 0) (consA (cst (.int 0)) nilA))))
  (seqS (asgS (asgT [(asgN 2), (asgN 3), (asgN 4)]) (tupE (consA (callE (C k__law_form) (consA (vr 1) (consA (cst (.int 3)) nilA))) (consA (lstL nilA) (consA (lstL nilA) nilA)))))
  (seqS (setS 5 (callE (C k__law_places) (consA (vr 1) (consA (vr 2) (consA (cst (.int 4)) nilA)))))
  (seqS (setS 6 (lcE false (asgN 7) (itE (vr 5)) yesT (callE (C k__law_draw) (consA (vr 1) (consA (callE (C k__law_count) (consA (vr 2) (consA (vr 7) nilA))) nilA))) [7]))
  (keepS 8 (callK (C k_told) 0 1 [5, 3, 6] (valL (callE (C k__law_space) (consA (vr 2) nilA)) (lamL 0 nilA))) (fun k1 =>
  (seqS (forS (asgN 9) (rng1 (consA (cst (.int 6)) nilA))
  (b_law_2 C k1))
  (retS (cst (.bl true))))))))))
def m_is_integer (C : Nat → List A → M A) : SM :=
  (retS (andV (callE (isiM cs sub) (consA (vr 0) (consA (cst (.ty "int")) nilA))) (notV (callE (isiM cs sub) (consA (vr 0) (consA (cst (.ty "bool")) nilA))))))
def m_Space___init__ (C : Nat → List A → M A) : SM :=
  (seqS (putS at_ "form" (vr 0) (vr 1))
  (putS at_ "free" (vr 0) (vr 2)))
def m_Space___mul__ (C : Nat → List A → M A) : SM :=
  (seqS (ifS (notT (tst (callE (isiM cs sub) (consA (vr 1) (consA (cst (.glo "Space")) nilA)))))
  noS
  nextS)
  (retS (callE (mkM true "Pair" (C k_Pair___init__)) (consA (vr 0) (consA (vr 1) nilA)))))
def m_Space___pow__ (C : Nat → List A → M A) : SM :=
  (retS (callE (mkM true "Power" (C k_Power___init__)) (consA (vr 0) (consA (vr 1) nilA))))
def m_Space_bare (C : Nat → List A → M A) : SM :=
  (retS (vr 0))
def m_Space_part (C : Nat → List A → M A) : SM :=
  (retS (cst .non))
def m_Options___init__ (C : Nat → List A → M A) : SM :=
  (seqS (ifS (orT (notT (tst (callE (C k_is_integer) (consA (vr 1) nilA)))) (notT (tst (chainE leI leI (cst (.int 1)) (vr 1) (cst (.int 9))))))
  (raiseS "BadSpace" ["value"] (consA (vr 1) nilA))
  nextS)
  (seqS (supS 0 "Options" (C k_Space___init__) (consA (joinE [(cst (.str "Options(")), (op1 fmtM (vr 1)), (cst (.str ")"))] Str.empty) (consA (cst (.bl true)) nilA)))
  (putS at_ "count" (vr 0) (vr 1))))
def m_Pair___init__ (C : Nat → List A → M A) : SM :=
  (seqS (supS 0 "Pair" (C k_Space___init__) (consA (joinE [(cst (.str "(")), (op1 fmtM (fldE at_ "form" (vr 1))), (cst (.str " * ")), (op1 fmtM (fldE at_ "form" (vr 2))), (cst (.str ")"))] Str.empty) (consA (andV (fldE at_ "free" (vr 1)) (fldE at_ "free" (vr 2))) nilA)))
  (seqS (putS at_ "left" (vr 0) (vr 1))
  (putS at_ "right" (vr 0) (vr 2))))
def m_Pair_part (C : Nat → List A → M A) : SM :=
  (seqS (ifS (orT (notT (tst (callE (C k_is_integer) (consA (vr 1) nilA)))) (tst (op2 (inM true) (vr 1) (tupE (consA (cst (.int 0)) (consA (cst (.int 1)) nilA))))))
  (retS (cst .non))
  nextS)
  (retS (iteE (tst (op2 (eqM false) (vr 1) (cst (.int 0)))) (fldE at_ "left" (vr 0)) (fldE at_ "right" (vr 0)))))
def m_Power___init__ (C : Nat → List A → M A) : SM :=
  (seqS (ifS (orT (notT (tst (callE (C k_is_integer) (consA (vr 2) nilA)))) (notT (tst (chainE leI leI (cst (.int 0)) (vr 2) (cst (.int 9))))))
  (raiseS "BadSpace" ["value"] (consA (vr 2) nilA))
  nextS)
  (seqS (supS 0 "Power" (C k_Space___init__) (consA (joinE [(cst (.str "(")), (op1 fmtM (fldE at_ "form" (vr 1))), (cst (.str " ** ")), (op1 fmtM (vr 2)), (cst (.str ")"))] Str.empty) (consA (fldE at_ "free" (vr 1)) nilA)))
  (seqS (putS at_ "base" (vr 0) (vr 1))
  (putS at_ "n" (vr 0) (vr 2)))))
def m_Power_part (C : Nat → List A → M A) : SM :=
  (retS (iteE (andT (tst (callE (C k_is_integer) (consA (vr 1) nilA))) (tst (chainE leI ltI (cst (.int 0)) (vr 1) (fldE at_ "n" (vr 0))))) (fldE at_ "base" (vr 0)) (cst .non)))
def m_Endless___init__ (C : Nat → List A → M A) : SM :=
  (seqS (supS 0 "Endless" (C k_Space___init__) (consA (joinE [(cst (.str "Endless(")), (op1 fmtM (fldE at_ "form" (vr 1))), (cst (.str ")"))] Str.empty) (consA (fldE at_ "free" (vr 1)) nilA)))
  (putS at_ "base" (vr 0) (vr 1)))
def m_Endless_part (C : Nat → List A → M A) : SM :=
  (retS (iteE (andT (tst (callE (C k_is_integer) (consA (vr 1) nilA))) (tst (op2 (geI) (vr 1) (cst (.int 0))))) (fldE at_ "base" (vr 0)) (cst .non)))
def m_Thing___init__ (C : Nat → List A → M A) : SM :=
  (seqS (putS at_ "space" (vr 0) (vr 1))
  (seqS (putS at_ "source" (vr 0) (vr 2))
  (putS at_ "place" (vr 0) (vr 3))))
def m_Thing_at (C : Nat → List A → M A) : SM :=
  (seqS (setS 2 (methE (mt C) "part" (fldE at_ "space" (vr 0)) (consA (vr 1) nilA)))
  (seqS (ifS (tst (op2 (isM false) (vr 2) (cst .non)))
  (raiseS "NoPlace" ["place"] (consA (op2 addA (fldE at_ "place" (vr 0)) (tupE (consA (vr 1) nilA))) nilA))
  nextS)
  (retS (callE (mkM true "Thing" (C k_Thing___init__)) (consA (vr 2) (consA (fldE at_ "source" (vr 0)) (consA (op2 addA (fldE at_ "place" (vr 0)) (tupE (consA (vr 1) nilA))) nilA)))))))
def m_Thing_look (C : Nat → List A → M A) : SM :=
  (seqS (setS 1 (methE (mt C) "bare" (fldE at_ "space" (vr 0)) nilA))
  (seqS (ifS (notT (tst (callE (isiM cs sub) (consA (vr 1) (consA (cst (.glo "Options")) nilA)))))
  (raiseS "NoPlace" ["place"] (consA (fldE at_ "place" (vr 0)) nilA))
  nextS)
  (retS (methS (mt C) (ms C) "tell" (fldE at_ "source" (vr 0)) (consA (fldE at_ "place" (vr 0)) (consA (fldE at_ "count" (vr 1)) nilA))))))
def m_Told_tell (C : Nat → List A → M A) : SM :=
  (seqS (setS 3 (slfE sl_ "answer" (vr 0)))
  (seqS (setS 4 (callV (lf C) 3 (consA (vr 1) nilA)))
  (seqS (ifS (orT (notT (tst (callE (C k_is_integer) (consA (vr 4) nilA)))) (notT (tst (chainE leI ltI (cst (.int 0)) (vr 4) (vr 2)))))
  (raiseS "BadAnswer" ["place", "given"] (consA (vr 1) (consA (vr 4) nilA)))
  nextS)
  (retS (vr 4)))))
def m_told (C : Nat → List A → M A) : SM :=
  (retS (callE (mkM true "Thing" (C k_Thing___init__)) (consA (vr 0) (consA (callE (mkSl "Told" ["answer"]) (consA (vr 1) nilA)) (consA (tupE nilA) nilA)))))
def b_answer_at_1 (C : Nat → List A → M A) : SM :=
  (seqS (setS 4 (methE (mt C) "bare" (fldE at_ "space" (vr 2)) nilA))
  (seqS (ifS (andT (tst (callE (isiM cs sub) (consA (vr 4) (consA (cst (.glo "Either")) nilA)))) (andT (tst (op2 (gtI) (callE (lenM) (consA (vr 3) nilA)) (cst (.int 0)))) (tst (op2 (inM false) (op2 ixM (vr 3) (cst (.int 0))) (tupE (consA (cst (.int 1)) (consA (cst (.int 2)) nilA)))))))
  (seqS noS
  (seqS (ifS (tst (op2 (eqM true) (vr 5) (op2 subA (op2 ixM (vr 3) (cst (.int 0))) (cst (.int 1)))))
  (raiseS "NoPlace" ["place"] (consA (vr 1) nilA))
  nextS)
  noS))
  (ifS (andT (tst (op2 (gtI) (callE (lenM) (consA (vr 3) nilA)) (cst (.int 0)))) (tst (op2 (isM true) (methE (mt C) "part" (vr 4) (consA (op2 ixM (vr 3) (cst (.int 0))) nilA)) (cst .non))))
  (setS 2 (methE (mt C) "at" (vr 2) (consA (op2 ixM (vr 3) (cst (.int 0))) nilA)))
  (retS (callE (C k_last_answer) (consA (vr 2) (consA (vr 4) (consA (vr 3) (consA (vr 1) nilA))))))))
  (setS 3 (slE (vr 3) (partOf (cst (.int 1))) noPart))))
def m_answer_at (C : Nat → List A → M A) : SM :=
  (seqS (setS 2 (vr 0))
  (seqS (setS 3 (vr 1))
  (whileS (tst (cst (.bl true)))
  (b_answer_at_1 C) 1000)))
def m_last_answer (C : Nat → List A → M A) : SM :=
  (seqS (ifS (andT (tst (callE (isiM cs sub) (consA (vr 1) (consA (cst (.glo "Options")) nilA)))) (tst (op2 (eqM false) (vr 2) (tupE nilA))))
  (retS (methE (mt C) "look" (vr 0) nilA))
  nextS)
  (seqS (ifS (andT (tst (callE (isiM cs sub) (consA (vr 1) (consA (cst (.glo "Either")) nilA)))) (tst (op2 (eqM false) (vr 2) (tupE (consA (cst (.int 0)) nilA)))))
  noS
  nextS)
  (seqS (ifS (andT (tst (callE (isiM cs sub) (consA (vr 1) (consA (cst (.glo "Fan")) nilA)))) (andT (tst (op2 (eqM false) (callE (lenM) (consA (vr 2) nilA)) (cst (.int 1)))) (andT (tst (callE (C k_is_integer) (consA (op2 ixM (vr 2) (cst (.int 0))) nilA))) (tst (op2 (geI) (op2 ixM (vr 2) (cst (.int 0))) (cst (.int 0)))))))
  (retS (fun _ => fail))
  nextS)
  (seqS (ifS (andT (tst (callE (isiM cs sub) (consA (vr 1) (consA (cst (.glo "Order")) nilA)))) (fun _ => fail))
  noS
  nextS)
  (seqS (ifS (andT (tst (callE (isiM cs sub) (consA (vr 1) (consA (cst (.glo "Sameness")) nilA)))) (fun _ => fail))
  noS
  nextS)
  (raiseS "NoPlace" ["place"] (consA (vr 3) nilA)))))))
def l_0 (C : Nat → List A → M A) : Lo → M A :=
  (callE (C k__law_noted) (consA (vr 2) (consA (vr 1) (consA (vr 3) (consA (vr 0) nilA)))))
def l_1 (C : Nat → List A → M A) : Lo → M A :=
  (callE (C k_answer_at) (consA (vr 0) (consA (tupE (consA (cst (.int 0)) nilA)) nilA)))
def l_2 (C : Nat → List A → M A) : Lo → M A :=
  (callE (C k_answer_at) (consA (vr 0) (consA (vr 1) nilA)))
def bodyM (C : Nat → List A → M A) : Nat → List A → M A
  | 0 => fnM 2 3 (m__law_source C)
  | 1 => fnM 2 4 (m__law_draw C)
  | 2 => fnM 2 2 (m__law_pick C)
  | 3 => fnM 2 4 (m__law_same C)
  | 4 => fnM 1 5 (m__law_up C)
  | 5 => fnM 2 3 (m__law_form C)
  | 6 => fnM 1 2 (m__law_space C)
  | 7 => fnM 2 5 (m__law_place C)
  | 8 => fnM 3 6 (m__law_places C)
  | 9 => fnM 2 2 (m__law_count C)
  | 10 => fnM 3 3 (m__law_at C)
  | 11 => fnM 4 4 (m__law_noted C)
  | 12 => fnM 2 2 (m__law_there C)
  | 13 => fnM 2 3 (m__law_bent C)
  | 14 => fnM 1 3 (m__law_try C)
  | 15 => fnM 1 16 (m_law C)
  | 16 => fnM 1 1 (m_is_integer C)
  | 17 => fnM 3 3 (m_Space___init__ C)
  | 18 => fnM 2 2 (m_Space___mul__ C)
  | 19 => fnM 2 2 (m_Space___pow__ C)
  | 20 => fnM 1 1 (m_Space_bare C)
  | 21 => fnM 2 2 (m_Space_part C)
  | 22 => fnM 2 3 (m_Options___init__ C)
  | 23 => fnM 3 4 (m_Pair___init__ C)
  | 24 => fnM 2 2 (m_Pair_part C)
  | 25 => fnM 3 4 (m_Power___init__ C)
  | 26 => fnM 2 2 (m_Power_part C)
  | 27 => fnM 2 3 (m_Endless___init__ C)
  | 28 => fnM 2 2 (m_Endless_part C)
  | 29 => fnM 4 4 (m_Thing___init__ C)
  | 30 => fnM 2 3 (m_Thing_at C)
  | 31 => fnM 1 2 (m_Thing_look C)
  | 32 => fnM 3 5 (m_Told_tell C)
  | 33 => fnM 2 2 (m_told C)
  | 34 => fnM 2 6 (m_answer_at C)
  | 35 => fnM 4 4 (m_last_answer C)
  | 36 => lamF 4 4 (l_0 C)
  | 37 => lamF 1 1 (l_1 C)
  | 38 => lamF 2 2 (l_2 C)
  | _ => fun _ => fail
def cN : Nat → Nat → List A → M A
  | 0 => fun _ _ => fail
  | n + 1 => bodyM (cN n)
theorem cN__law_source (t : Nat) (as : List A) (S : Sto) : cN (t + 1) k__law_source as S = fnM 2 3 (m__law_source (cN t)) as S := rfl
theorem cN__law_draw (t : Nat) (as : List A) (S : Sto) : cN (t + 1) k__law_draw as S = fnM 2 4 (m__law_draw (cN t)) as S := rfl
theorem cN__law_pick (t : Nat) (as : List A) (S : Sto) : cN (t + 1) k__law_pick as S = fnM 2 2 (m__law_pick (cN t)) as S := rfl
theorem cN__law_same (t : Nat) (as : List A) (S : Sto) : cN (t + 1) k__law_same as S = fnM 2 4 (m__law_same (cN t)) as S := rfl
theorem cN__law_up (t : Nat) (as : List A) (S : Sto) : cN (t + 1) k__law_up as S = fnM 1 5 (m__law_up (cN t)) as S := rfl
theorem cN__law_form (t : Nat) (as : List A) (S : Sto) : cN (t + 1) k__law_form as S = fnM 2 3 (m__law_form (cN t)) as S := rfl
theorem cN__law_space (t : Nat) (as : List A) (S : Sto) : cN (t + 1) k__law_space as S = fnM 1 2 (m__law_space (cN t)) as S := rfl
theorem cN__law_place (t : Nat) (as : List A) (S : Sto) : cN (t + 1) k__law_place as S = fnM 2 5 (m__law_place (cN t)) as S := rfl
theorem cN__law_places (t : Nat) (as : List A) (S : Sto) : cN (t + 1) k__law_places as S = fnM 3 6 (m__law_places (cN t)) as S := rfl
theorem cN__law_count (t : Nat) (as : List A) (S : Sto) : cN (t + 1) k__law_count as S = fnM 2 2 (m__law_count (cN t)) as S := rfl
theorem cN__law_at (t : Nat) (as : List A) (S : Sto) : cN (t + 1) k__law_at as S = fnM 3 3 (m__law_at (cN t)) as S := rfl
theorem cN__law_noted (t : Nat) (as : List A) (S : Sto) : cN (t + 1) k__law_noted as S = fnM 4 4 (m__law_noted (cN t)) as S := rfl
theorem cN__law_there (t : Nat) (as : List A) (S : Sto) : cN (t + 1) k__law_there as S = fnM 2 2 (m__law_there (cN t)) as S := rfl
theorem cN__law_bent (t : Nat) (as : List A) (S : Sto) : cN (t + 1) k__law_bent as S = fnM 2 3 (m__law_bent (cN t)) as S := rfl
theorem cN__law_try (t : Nat) (as : List A) (S : Sto) : cN (t + 1) k__law_try as S = fnM 1 3 (m__law_try (cN t)) as S := rfl
theorem cN_law (t : Nat) (as : List A) (S : Sto) : cN (t + 1) k_law as S = fnM 1 16 (m_law (cN t)) as S := rfl
theorem cN_is_integer (t : Nat) (as : List A) (S : Sto) : cN (t + 1) k_is_integer as S = fnM 1 1 (m_is_integer (cN t)) as S := rfl
theorem cN_Space___init__ (t : Nat) (as : List A) (S : Sto) : cN (t + 1) k_Space___init__ as S = fnM 3 3 (m_Space___init__ (cN t)) as S := rfl
theorem cN_Space___mul__ (t : Nat) (as : List A) (S : Sto) : cN (t + 1) k_Space___mul__ as S = fnM 2 2 (m_Space___mul__ (cN t)) as S := rfl
theorem cN_Space___pow__ (t : Nat) (as : List A) (S : Sto) : cN (t + 1) k_Space___pow__ as S = fnM 2 2 (m_Space___pow__ (cN t)) as S := rfl
theorem cN_Space_bare (t : Nat) (as : List A) (S : Sto) : cN (t + 1) k_Space_bare as S = fnM 1 1 (m_Space_bare (cN t)) as S := rfl
theorem cN_Space_part (t : Nat) (as : List A) (S : Sto) : cN (t + 1) k_Space_part as S = fnM 2 2 (m_Space_part (cN t)) as S := rfl
theorem cN_Options___init__ (t : Nat) (as : List A) (S : Sto) : cN (t + 1) k_Options___init__ as S = fnM 2 3 (m_Options___init__ (cN t)) as S := rfl
theorem cN_Pair___init__ (t : Nat) (as : List A) (S : Sto) : cN (t + 1) k_Pair___init__ as S = fnM 3 4 (m_Pair___init__ (cN t)) as S := rfl
theorem cN_Pair_part (t : Nat) (as : List A) (S : Sto) : cN (t + 1) k_Pair_part as S = fnM 2 2 (m_Pair_part (cN t)) as S := rfl
theorem cN_Power___init__ (t : Nat) (as : List A) (S : Sto) : cN (t + 1) k_Power___init__ as S = fnM 3 4 (m_Power___init__ (cN t)) as S := rfl
theorem cN_Power_part (t : Nat) (as : List A) (S : Sto) : cN (t + 1) k_Power_part as S = fnM 2 2 (m_Power_part (cN t)) as S := rfl
theorem cN_Endless___init__ (t : Nat) (as : List A) (S : Sto) : cN (t + 1) k_Endless___init__ as S = fnM 2 3 (m_Endless___init__ (cN t)) as S := rfl
theorem cN_Endless_part (t : Nat) (as : List A) (S : Sto) : cN (t + 1) k_Endless_part as S = fnM 2 2 (m_Endless_part (cN t)) as S := rfl
theorem cN_Thing___init__ (t : Nat) (as : List A) (S : Sto) : cN (t + 1) k_Thing___init__ as S = fnM 4 4 (m_Thing___init__ (cN t)) as S := rfl
theorem cN_Thing_at (t : Nat) (as : List A) (S : Sto) : cN (t + 1) k_Thing_at as S = fnM 2 3 (m_Thing_at (cN t)) as S := rfl
theorem cN_Thing_look (t : Nat) (as : List A) (S : Sto) : cN (t + 1) k_Thing_look as S = fnM 1 2 (m_Thing_look (cN t)) as S := rfl
theorem cN_Told_tell (t : Nat) (as : List A) (S : Sto) : cN (t + 1) k_Told_tell as S = fnM 3 5 (m_Told_tell (cN t)) as S := rfl
theorem cN_told (t : Nat) (as : List A) (S : Sto) : cN (t + 1) k_told as S = fnM 2 2 (m_told (cN t)) as S := rfl
theorem cN_answer_at (t : Nat) (as : List A) (S : Sto) : cN (t + 1) k_answer_at as S = fnM 2 6 (m_answer_at (cN t)) as S := rfl
theorem cN_last_answer (t : Nat) (as : List A) (S : Sto) : cN (t + 1) k_last_answer as S = fnM 4 4 (m_last_answer (cN t)) as S := rfl
abbrev k_lam0 : Nat := 36
theorem lf_0 (C : Nat → List A → M A) : lf C 0 = some (C k_lam0) := rfl
abbrev k_lam1 : Nat := 37
theorem lf_1 (C : Nat → List A → M A) : lf C 1 = some (C k_lam1) := rfl
abbrev k_lam2 : Nat := 38
theorem lf_2 (C : Nat → List A → M A) : lf C 2 = some (C k_lam2) := rfl
theorem cN_lam0 (t : Nat) (as : List A) (S : Sto) : cN (t + 1) 36 as S = lamF 4 4 (l_0 (cN t)) as S := rfl
theorem cN_lam1 (t : Nat) (as : List A) (S : Sto) : cN (t + 1) 37 as S = lamF 1 1 (l_1 (cN t)) as S := rfl
theorem cN_lam2 (t : Nat) (as : List A) (S : Sto) : cN (t + 1) 38 as S = lamF 2 2 (l_2 (cN t)) as S := rfl
theorem lf_at (C : Nat → List A → M A) (i : Nat) (h : i < 3) : lf C i = some (C (36 + i)) := by
  unfold lf lfOf
  rw [if_pos h]
end
end FL
/-! ## Q0: draws -/
namespace FL
open PySem L2
abbrev dr (a b c : Int) : Ob := .lst [.int a, .int b, .int c]
structure DrB (b c : Int) (n : Int) : Prop where
  b0 : 0 ≤ b
  b1 : b < 2147483647
  c0 : 0 ≤ c
  c1 : c ≤ n
/-- the draws stand at k, at most n of them mixed -/
def DwS (S : Sto) (k : Nat) (n : Int) : Prop := ∃ a b c, S[k]? = some (dr a b c) ∧ DrB b c n
/-- but for the draws at k the store is as before -/
def DwT (k : Nat) (n : Int) (S S' : Sto) : Prop := ∃ a b c, S' = S.set k (dr a b c) ∧ k < S.length ∧ DrB b c n
theorem DrB.mono {b c n m : Int} (h : DrB b c n) (l : n ≤ m) : DrB b c m := ⟨h.b0, h.b1, h.c0, Int.le_trans h.c1 l⟩
theorem DwS.mono {S : Sto} {k : Nat} {n m : Int} (h : DwS S k n) (l : n ≤ m) : DwS S k m := by
  obtain ⟨a, b, c, h1, h2⟩ := h
  exact ⟨a, b, c, h1, h2.mono l⟩
theorem DwT.mono {S S' : Sto} {k : Nat} {n m : Int} (h : DwT k n S S') (l : n ≤ m) : DwT k m S S' := by
  obtain ⟨a, b, c, h1, h2, h3⟩ := h
  exact ⟨a, b, c, h1, h2, h3.mono l⟩
theorem DwT.dw {S S' : Sto} {k : Nat} {n : Int} (h : DwT k n S S') : DwS S' k n := by
  obtain ⟨a, b, c, rfl, h2, h3⟩ := h
  exact ⟨a, b, c, List.getElem?_set_self h2, h3⟩
theorem DwT.trans {S S' S'' : Sto} {k : Nat} {n m : Int} (h : DwT k n S S') (h' : DwT k m S' S'') : DwT k m S S'' := by
  obtain ⟨a, b, c, rfl, h2, h3⟩ := h
  obtain ⟨a', b', c', rfl, h2', h3'⟩ := h'
  exact ⟨a', b', c', by rw [List.set_set], h2, h3'⟩
theorem DwS.refl {S : Sto} {k : Nat} {n : Int} (h : DwS S k n) : DwT k n S S := by
  obtain ⟨a, b, c, h1, h2⟩ := h
  have hk := (List.getElem?_eq_some_iff.mp h1)
  refine ⟨a, b, c, ?_, hk.1, h2⟩
  apply List.ext_getElem?
  intro j
  by_cases hj : k = j
  · subst hj
    rw [List.getElem?_set_self hk.1, h1]
  · rw [List.getElem?_set_ne hj]
theorem DwT.trim {S S' : Sto} {k : Nat} {n : Int} (h : DwT k n S S') : FL.trim S S' = S' := by
  obtain ⟨a, b, c, rfl, h2, h3⟩ := h
  exact trim_set rfl
theorem DwT.len {S S' : Sto} {k : Nat} {n : Int} (h : DwT k n S S') : S'.length = S.length := by
  obtain ⟨a, b, c, rfl, h2, h3⟩ := h
  simp
theorem DwT.get {S S' : Sto} {k : Nat} {n : Int} (h : DwT k n S S') {j : Nat} (hj : j ≠ k) : S'[j]? = S[j]? := by
  obtain ⟨a, b, c, rfl, h2, h3⟩ := h
  rw [List.getElem?_set_ne (Ne.symm hj)]
/-- the draws at the head of a store -/
theorem DwT.head {a b c : Int} {T S' : Sto} {n : Int} (h : DwT 0 n (dr a b c :: T) S') : ∃ a' b' c', S' = dr a' b' c' :: T ∧ DrB b' c' n := by
  obtain ⟨a', b', c', rfl, h2, h3⟩ := h
  exact ⟨a', b', c', rfl, h3⟩
theorem DrB.at0 {a b c n : Int} {T : Sto} (h : DrB b c n) : DwS (dr a b c :: T) 0 n := ⟨a, b, c, rfl, h⟩
theorem draw_ok {t : Nat} {S : Sto} {k : Nat} {m n : Int} (ht : 1 ≤ t) (h : DwS S k n) (hn : n < 1000000) (hm : 0 < m) (hm2 : m < 1000) :
    ∃ v S', 0 ≤ v ∧ v < m ∧ DwT k (n + 1) S S' ∧ cN t k__law_draw [.ref k, .int m] S = .ok (.int v) S' := by
  obtain ⟨s, rfl⟩ : ∃ s, t = s + 1 := ⟨t - 1, by omega⟩
  obtain ⟨a, b, c, h, hd⟩ := h
  have hk : k < S.length := (List.getElem?_eq_some_iff.mp h).1
  obtain ⟨b0, b1, c0, c1⟩ := hd
  by_cases ha : 0 < a
  · refine ⟨a % m, _, Int.emod_nonneg _ (by omega), Int.emod_lt_of_pos _ hm, ⟨a / m, b, c, rfl, hk, b0, b1, c0, by omega⟩, ?_⟩
    rw [cN__law_draw]
    have hi : ixN 3 0 = some 0 := rfl
    have hm3 : m < 2 ^ 120 := by omega
    simp [-Int.reducePow, -Nat.reducePow, m__law_draw, ixL h, ha, hm, hm3, setL h hi, trim_set]
  · have h2 : (S.set k (dr a b (c + 1)))[k]? = some (dr a b (c + 1)) := List.getElem?_set_self hk
    refine ⟨((b + 7919 * (c + 1)) ^ 5 % 2147483647 + (c + 1)) * 40692 % 2147483629 / 16 % m, _, Int.emod_nonneg _ (by omega), Int.emod_lt_of_pos _ hm, ⟨a, b, c + 1, rfl, hk, b0, b1, by omega, by omega⟩, ?_⟩
    rw [cN__law_draw]
    have hi : ixN 3 2 = some 2 := rfl
    have q1 : 7919 < 2 ^ 2000 := by decide
    have q2 : (c + 1).natAbs < 2 ^ 2000 := Nat.lt_of_lt_of_le (show (c + 1).natAbs < 2 ^ 64 by omega) (by decide)
    have q3 : (b + 7919 * (c + 1)).natAbs < 2 ^ 64 := by omega
    have q4 : ((b + 7919 * (c + 1)) ^ 5 % 2147483647 + (c + 1)).natAbs < 2 ^ 2000 := by
      have l1 := Int.emod_nonneg ((b + 7919 * (c + 1)) ^ 5) (b := 2147483647) (by decide)
      have l2 := Int.emod_lt_of_pos ((b + 7919 * (c + 1)) ^ 5) (b := 2147483647) (by decide)
      exact Nat.lt_of_lt_of_le (show _ < 2 ^ 64 by omega) (by decide)
    have q5 : 40692 < 2 ^ 2000 := by decide
    have q6 : (16 : Int) < 2 ^ 120 := by decide
    simp [-Int.reducePow, -Nat.reducePow, m__law_draw, ixL h, ixL h2, ha, hm, setL h hi, trim_set, q1, q2, q3, q4, q5, q6]
theorem source_ok {t : Nat} (ht : 1 ≤ t) (ns : List Int) (j : Nat) (hj : j < 1000) (S : Sto) : ∃ a b, DrB b 0 0 ∧ cN t k__law_source [.scr (ns.map A.int), .int j] S = .ok (.ref S.length) (S ++ [dr a b 0]) := by
  obtain ⟨s, rfl⟩ : ∃ s, t = s + 1 := ⟨t - 1, by omega⟩
  have hb : ∀ x : Int, DrB (x % 2147483647) 0 0 := fun x => ⟨Int.emod_nonneg _ (by decide), Int.emod_lt_of_pos _ (by decide), Int.le_refl _, Int.le_refl _⟩
  have p1 : 10 < 2 ^ 64 := by decide
  have q1 : 7 < 2 ^ 2000 := by decide
  have q2 : j < 2 ^ 2000 := Nat.lt_of_lt_of_le (show j < 2 ^ 10 by omega) (by decide)
  simp only [cN__law_source]
  by_cases hl : j < ns.length
  · have hg : getAt (ns.map A.int) (j : Int) = some (.int ns[j]) := getAt_nat (by simp [hl])
    have hl' : (j : Int) < (ns.length : Int) := by omega
    by_cases hx : (10 : Int) ^ 18 ≤ ns[j]
    · refine ⟨ns[j], ns[j] % 2147483647, hb _, ?_⟩
      have hx' : (1000000000000000000 : Int) ≤ ns[j] := hx
      simp [-Nat.reducePow, m__law_source, p1, q1, q2, hx', hl, hg]
    · refine ⟨0, ns[j] % 2147483647, hb _, ?_⟩
      have hx' : ¬ (1000000000000000000 : Int) ≤ ns[j] := hx
      simp [-Nat.reducePow, m__law_source, p1, q1, q2, hx', hl, hg]
  · have hx' : ¬ (1000000000000000000 : Int) ≤ 7 * (j : Int) + 3 := by omega
    refine ⟨0, (7 * (j : Int) + 3) % 2147483647, hb _, ?_⟩
    simp [-Nat.reducePow, m__law_source, p1, q1, q2, hx', hl]
end FL

/-! ## Q1: free spaces, their descriptions and words -/
namespace FL
open PySem L2
inductive Fm where
  | opt (i : Int) | endl (f : Fm) | pair (f g : Fm) | pow (f : Fm) (n : Int)
namespace Fm
def word : Fm → Str
  | opt i => ("Options(" ++ tsI i) ++ ")"
  | endl f => ("Endless(" ++ f.word) ++ ")"
  | pair f g => ((("(" ++ f.word) ++ " * ") ++ g.word) ++ ")"
  | pow f n => ((("(" ++ f.word) ++ " ** ") ++ tsI n) ++ ")"
def fA : Fm → A
  | opt i => .tup [.str "options", .int i]
  | endl f => .tup [.str "endless", f.fA]
  | pair f g => .tup [.str "pair", f.fA, g.fA]
  | pow f n => .tup [.str "power", f.fA, .int n]
def o : Fm → A
  | opt i => .obj "Options" [("form", .str (opt i).word), ("free", .bl true), ("count", .int i)]
  | endl f => .obj "Endless" [("form", .str (endl f).word), ("free", .bl true), ("base", f.o)]
  | pair f g => .obj "Pair" [("form", .str (pair f g).word), ("free", .bl true), ("left", f.o), ("right", g.o)]
  | pow f n => .obj "Power" [("form", .str (pow f n).word), ("free", .bl true), ("base", f.o), ("n", .int n)]
/-- at most d levels below, numbers of answers to 9, powers to m -/
def Ok (m : Int) : Fm → Nat → Prop
  | opt i, _ => 1 ≤ i ∧ i ≤ 9
  | endl f, d + 1 => f.Ok m d
  | pair f g, d + 1 => f.Ok m d ∧ g.Ok m d
  | pow f n, d + 1 => f.Ok m d ∧ 0 ≤ n ∧ n ≤ m
  | _, 0 => False
theorem Ok.mono {m m' : Int} (hm : m ≤ m') : ∀ {f : Fm} {d d' : Nat}, f.Ok m d → d ≤ d' → f.Ok m' d'
  | opt i, _, _, h, _ => h
  | endl f, d + 1, d' + 1, h, l => Ok.mono (f := f) hm h (Nat.le_of_succ_le_succ l)
  | pair f g, d + 1, d' + 1, h, l => ⟨Ok.mono (f := f) hm h.1 (Nat.le_of_succ_le_succ l), Ok.mono (f := g) hm h.2 (Nat.le_of_succ_le_succ l)⟩
  | pow f n, d + 1, d' + 1, h, l => ⟨Ok.mono (f := f) hm h.1 (Nat.le_of_succ_le_succ l), h.2.1, Int.le_trans h.2.2 hm⟩
  | endl _, 0, _, h, _ => h.elim
  | pair _ _, 0, _, h, _ => h.elim
  | pow _ _, 0, _, h, _ => h.elim
@[simp] theorem fA_bel (n : Nat) : ∀ f : Fm, f.fA.bel n = true
  | opt i => rfl
  | endl f => by simp [fA, fA_bel n f]
  | pair f g => by simp [fA, fA_bel n f, fA_bel n g]
  | pow f i => by simp [fA, fA_bel n f]
@[simp] theorem o_bel (n : Nat) : ∀ f : Fm, f.o.bel n = true
  | opt i => rfl
  | endl f => by simp [o, o_bel n f]
  | pair f g => by simp [o, o_bel n f, o_bel n g]
  | pow f i => by simp [o, o_bel n f]
end Fm
theorem emp (x : Str) : Str.empty ++ x = x := Str.empty_append x
theorem lapp (x y : Str) : (x ++ y).length = x.length + y.length := Str.length_append x y
theorem digit {i : Int} (h0 : 0 ≤ i) (h9 : i ≤ 9) : (tsI i).length ≤ 1 ∧ i.natAbs.log2 < 1920 := by
  have : i = 0 ∨ i = 1 ∨ i = 2 ∨ i = 3 ∨ i = 4 ∨ i = 5 ∨ i = 6 ∨ i = 7 ∨ i = 8 ∨ i = 9 := by omega
  rcases this with h | h | h | h | h | h | h | h | h | h <;> subst h <;> decide +kernel
theorem l_opt : ("Options(" : Str).length = 8 := by decide +kernel
theorem l_end : ("Endless(" : Str).length = 8 := by decide +kernel
theorem l_lp : ("(" : Str).length = 1 := by decide +kernel
theorem l_rp : (")" : Str).length = 1 := by decide +kernel
theorem l_st : (" * " : Str).length = 3 := by decide +kernel
theorem l_pw : (" ** " : Str).length = 4 := by decide +kernel
theorem Fm.len {m : Int} (hm : m ≤ 9) : ∀ {f : Fm} {d : Nat}, f.Ok m d → f.word.length + 20 ≤ 40 * 2 ^ d
  | opt i, d, h => by
    have := (digit (i := i) (by have := h.1; omega) (by have := h.2; omega)).1
    have hp : 1 ≤ 2 ^ d := Nat.one_le_two_pow
    simp only [word, lapp, l_opt, l_rp]
    omega
  | endl f, d + 1, h => by
    have := Fm.len (f := f) hm h
    simp only [word, lapp, l_end, l_rp, Nat.pow_succ]
    omega
  | pair f g, d + 1, h => by
    have := Fm.len (f := f) hm h.1
    have := Fm.len (f := g) hm h.2
    simp only [word, lapp, l_lp, l_st, l_rp, Nat.pow_succ]
    omega
  | pow f n, d + 1, h => by
    have := Fm.len (f := f) hm h.1
    have := (digit (i := n) h.2.1 (Int.le_trans h.2.2 hm)).1
    simp only [word, lapp, l_lp, l_pw, l_rp, Nat.pow_succ]
    omega
  | endl _, 0, h => h.elim
  | pair _ _, 0, h => h.elim
  | pow _ _, 0, h => h.elim
theorem Fm.len4 {f : Fm} {d : Nat} {m : Int} (h : f.Ok m d) (hm : m ≤ 9) (hd : d ≤ 6) : f.word.length < 3000 := by
  have l := Fm.len hm h
  have hp : 2 ^ d ≤ 2 ^ 6 := Nat.pow_le_pow_right (by decide) hd
  omega
/-! ### making spaces -/
theorem isint_ok {t : Nat} (ht : 1 ≤ t) (i : Int) (S : Sto) : cN t k_is_integer [.int i] S = .ok (.bl true) S := by
  obtain ⟨s, rfl⟩ : ∃ s, t = s + 1 := ⟨t - 1, by omega⟩
  rw [cN_is_integer]
  simp [m_is_integer]
theorem opt_mk {t : Nat} (ht : 2 ≤ t) {i : Int} (h1 : 1 ≤ i) (h9 : i ≤ 9) (S : Sto) : mkM true "Options" (cN t k_Options___init__) [.int i] S = .ok (Fm.opt i).o S := by
  obtain ⟨s, rfl⟩ : ∃ s, t = s + 2 := ⟨t - 2, by omega⟩
  obtain ⟨d1, d2⟩ := digit (i := i) (by omega) h9
  refine mk_ok ?_ rfl
  have z := isint_ok (t := s + 1) (by omega) i (S ++ [.ins "Options" []])
  have l1 : 8 + (tsI i).length < 100000 := by omega
  have l2 : 8 + (tsI i).length + 1 < 100000 := by omega
  rw [cN_Options___init__]
  simp [m_Options___init__, z, h1, h9, emp, lapp, l_opt, l_rp, d2, l1, l2, cN_Space___init__, m_Space___init__, trim_last, Fm.word]
theorem o_form (f : Fm) (S : Sto) : fldM at_ "form" f.o S = .ok (.str f.word) S := by
  cases f <;> simp [Fm.o]
theorem o_free (f : Fm) (S : Sto) : fldM at_ "free" f.o S = .ok (.bl true) S := by
  cases f <;> simp [Fm.o]
theorem end_mk {t : Nat} (ht : 2 ≤ t) {f : Fm} (hx : f.word.length < 50000) (S : Sto) : mkM true "Endless" (cN t k_Endless___init__) [f.o] S = .ok (Fm.endl f).o S := by
  obtain ⟨s, rfl⟩ : ∃ s, t = s + 2 := ⟨t - 2, by omega⟩
  refine mk_ok ?_ (by simp)
  have l0 : f.word.length < 100000 := by omega
  have l1 : 8 + f.word.length < 100000 := by omega
  have l2 : 8 + f.word.length + 1 < 100000 := by omega
  rw [cN_Endless___init__]
  simp [-x_fldM, m_Endless___init__, o_form, o_free, emp, lapp, l_end, l_rp, l0, l1, l2, cN_Space___init__, m_Space___init__, trim_last, Fm.word]
theorem pow_mk {t : Nat} (ht : 2 ≤ t) {f : Fm} (hx : f.word.length < 50000) {i : Int} (h0 : 0 ≤ i) (h9 : i ≤ 9) (S : Sto) : mkM true "Power" (cN t k_Power___init__) [f.o, .int i] S = .ok (Fm.pow f i).o S := by
  obtain ⟨s, rfl⟩ : ∃ s, t = s + 2 := ⟨t - 2, by omega⟩
  obtain ⟨d1, d2⟩ := digit (i := i) h0 h9
  refine mk_ok ?_ (by simp)
  have z := isint_ok (t := s + 1) (by omega) i (S ++ [.ins "Power" []])
  have l0 : f.word.length < 100000 := by omega
  have l1 : 1 + f.word.length < 100000 := by omega
  have l2 : 1 + f.word.length + 4 < 100000 := by omega
  have l3 : 1 + f.word.length + 4 + (tsI i).length < 100000 := by omega
  have l4 : 1 + f.word.length + 4 + (tsI i).length + 1 < 100000 := by omega
  rw [cN_Power___init__]
  simp [-x_fldM, m_Power___init__, o_form, o_free, z, h0, h9, emp, lapp, l_lp, l_pw, l_rp, d2, l0, l1, l2, l3, l4, cN_Space___init__, m_Space___init__, trim_last, Fm.word]
theorem pair_mk {t : Nat} (ht : 2 ≤ t) {f g : Fm} (hx : f.word.length < 40000) (hy : g.word.length < 40000) (S : Sto) : mkM true "Pair" (cN t k_Pair___init__) [f.o, g.o] S = .ok (Fm.pair f g).o S := by
  obtain ⟨s, rfl⟩ : ∃ s, t = s + 2 := ⟨t - 2, by omega⟩
  refine mk_ok ?_ (by simp)
  have l0 : f.word.length < 100000 := by omega
  have l0' : g.word.length < 100000 := by omega
  have l1 : 1 + f.word.length < 100000 := by omega
  have l2 : 1 + f.word.length + 3 < 100000 := by omega
  have l3 : 1 + f.word.length + 3 + g.word.length < 100000 := by omega
  have l4 : 1 + f.word.length + 3 + g.word.length + 1 < 100000 := by omega
  rw [cN_Pair___init__]
  simp [-x_fldM, m_Pair___init__, o_form, o_free, emp, lapp, l_lp, l_st, l_rp, l0, l0', l1, l2, l3, l4, cN_Space___init__, m_Space___init__, trim_last, Fm.word]
theorem o_space (f : Fm) (S : Sto) : isiM cs sub [f.o, .glo "Space"] S = .ok (.bl true) S := by
  cases f <;> simp [Fm.o]
theorem o_ins (f : Fm) : ∃ C fs, f.o = .obj C fs ∧ (∀ D, owMult D C = some (D k_Space___mul__)) ∧ (∀ D, owPow D C = some (D k_Space___pow__)) := by
  cases f <;> exact ⟨_, _, rfl, fun _ => rfl, fun _ => rfl⟩
theorem mul_ok {t : Nat} (ht : 3 ≤ t) {f g : Fm} (hx : f.word.length < 40000) (hy : g.word.length < 40000) (S : Sto) : ownM (owMult (cN t)) f.o g.o S = .ok (Fm.pair f g).o S := by
  obtain ⟨s, rfl⟩ : ∃ s, t = s + 1 := ⟨t - 1, by omega⟩
  have e := pair_mk (t := s) (by omega) hx hy S
  have z := o_space g S
  have hb := Fm.o_bel S.length (.pair f g)
  obtain ⟨C, fs, e1, h1, _⟩ := o_ins f
  obtain ⟨D, gs, e2, h2, _⟩ := o_ins g
  rw [e1, e2] at e ⊢
  rw [e2] at z
  rw [x_ownO (h1 _) (h2 _), cN_Space___mul__]
  simp [-x_isiG, m_Space___mul__, z, e, hb]
theorem pow_ok {t : Nat} (ht : 3 ≤ t) {f : Fm} (hx : f.word.length < 50000) {i : Int} (h0 : 0 ≤ i) (h9 : i ≤ 9) (S : Sto) : ownM (owPow (cN t)) f.o (.int i) S = .ok (Fm.pow f i).o S := by
  obtain ⟨s, rfl⟩ : ∃ s, t = s + 1 := ⟨t - 1, by omega⟩
  have e := pow_mk (t := s) (by omega) hx h0 h9 S
  have hb := Fm.o_bel S.length (.pow f i)
  obtain ⟨C, fs, e1, _, h1⟩ := o_ins f
  rw [e1] at e ⊢
  rw [x_ownI (x_insObj C fs S) (h1 _), cN_Space___pow__]
  simp [m_Space___pow__, e, hb]
/-! ### the law's spaces -/
theorem space_ok : ∀ (f : Fm) (d t : Nat) (S : Sto), f.Ok 3 d → d ≤ 3 → d + 4 ≤ t → cN t k__law_space [f.fA] S = .ok f.o S
  | .opt i, d, t, S, h, _, ht => by
    obtain ⟨s, rfl⟩ : ∃ s, t = s + 1 := ⟨t - 1, by omega⟩
    have e := opt_mk (t := s) (by omega) h.1 h.2 S
    have hb := Fm.o_bel S.length (.opt i)
    rw [cN__law_space]
    simp [m__law_space, Fm.fA, e, hb]
  | .endl f, d + 1, t, S, h, hd, ht => by
    obtain ⟨s, rfl⟩ : ∃ s, t = s + 1 := ⟨t - 1, by omega⟩
    have ih := space_ok f d s S h (by omega) (by omega)
    have e := end_mk (t := s) (f := f) (by omega) (by have := Fm.len4 (f := f) h (by decide) (by omega); omega) S
    have hb := Fm.o_bel S.length (.endl f)
    rw [cN__law_space]
    simp [m__law_space, Fm.fA, ih, e, hb]
  | .pair f g, d + 1, t, S, h, hd, ht => by
    obtain ⟨s, rfl⟩ : ∃ s, t = s + 1 := ⟨t - 1, by omega⟩
    have ih := space_ok f d s S h.1 (by omega) (by omega)
    have ih' := space_ok g d s S h.2 (by omega) (by omega)
    have e := mul_ok (t := s) (f := f) (g := g) (by omega) (by have := Fm.len4 (f := f) h.1 (by decide) (by omega); omega) (by have := Fm.len4 (f := g) h.2 (by decide) (by omega); omega) S
    have hb := Fm.o_bel S.length (.pair f g)
    rw [cN__law_space]
    simp [m__law_space, Fm.fA, ih, ih', e, hb]
  | .pow f n, d + 1, t, S, h, hd, ht => by
    obtain ⟨s, rfl⟩ : ∃ s, t = s + 1 := ⟨t - 1, by omega⟩
    have ih := space_ok f d s S h.1 (by omega) (by omega)
    have e := fun (i : Int) (h0 : 0 ≤ i) (h9 : i ≤ 9) => pow_ok (t := s) (f := f) (by omega) (by have := Fm.len4 (f := f) h.1 (by decide) (by omega); omega) h0 h9 S
    have e0 := e 0 (by decide) (by decide)
    have e1 := e 1 (by decide) (by decide)
    have e2 := e 2 (by decide) (by decide)
    have e3 := e 3 (by decide) (by decide)
    have hb := fun i => Fm.o_bel S.length (.pow f i)
    have hn : n = 0 ∨ n = 1 ∨ n = 2 ∨ n = 3 := by have := h.2; omega
    rw [cN__law_space]
    rcases hn with rfl | rfl | rfl | rfl <;> simp [m__law_space, Fm.fA, ih, e0, e1, e2, e3, hb]
  | .endl _, 0, _, _, h, _, _ => h.elim
  | .pair _ _, 0, _, _, h, _, _ => h.elim
  | .pow _ _, 0, _, _, h, _, _ => h.elim
theorem form_ok : ∀ (d t : Nat) (S : Sto) (k : Nat) (n : Int), DwS S k n → n + 3 ^ (d + 1) < 1000000 → d + 2 ≤ t → ∃ (f : Fm) (S' : Sto), f.Ok 3 d ∧ DwT k (n + 3 ^ (d + 1)) S S' ∧ cN t k__law_form [.ref k, .int d] S = .ok f.fA S'
  | 0, t, S, k, n, h, hn, ht => by
    obtain ⟨s, rfl⟩ : ∃ s, t = s + 1 := ⟨t - 1, by omega⟩
    obtain ⟨v, S1, v0, v3, hd, e⟩ := draw_ok (t := s) (by omega) h (by omega) (m := 3) (by decide) (by decide)
    refine ⟨.opt (1 + v), S1, ⟨by omega, by omega⟩, hd.mono (by omega), ?_⟩
    rw [cN__law_form]
    simp [m__law_form, e, hd.trim, Fm.fA]
  | d + 1, t, S, k, n, h, hn, ht => by
    obtain ⟨s, rfl⟩ : ∃ s, t = s + 1 := ⟨t - 1, by omega⟩
    have p1 : (1 : Int) ≤ 3 ^ (d + 1) := by
      have : (0 : Int) < 3 ^ (d + 1) := Int.pow_pos (by decide)
      omega
    have p2 : (3 : Int) ^ (d + 1 + 1) = 3 * 3 ^ (d + 1) := by rw [Int.pow_succ (3 : Int) (d + 1)]; omega
    have p3 : (3 : Int) ≤ 3 ^ (d + 1) := by
      rw [Int.pow_succ]
      have : (0 : Int) < 3 ^ d := Int.pow_pos (by decide)
      omega
    obtain ⟨v, S1, v0, v7, hd1, e1⟩ := draw_ok (t := s) (by omega) h (by omega) (m := 7) (by decide) (by decide)
    have pos : (0 : Int) < (d : Int) + 1 := by omega
    have dd : (d : Int) + 1 - 1 = d := by omega
    by_cases w2 : v < 2
    · obtain ⟨v', S2, v0', v3, hd2, e2⟩ := draw_ok (t := s) (by omega) hd1.dw (by omega) (m := 3) (by decide) (by decide)
      have ht' := hd1.trans hd2
      refine ⟨.opt (1 + v'), S2, ⟨by omega, by omega⟩, ht'.mono (by omega), ?_⟩
      rw [cN__law_form]
      simp [m__law_form, pos, e1, w2, e2, ht'.trim, Fm.fA]
    · obtain ⟨f2, S2, hf2, hd2, e2⟩ := form_ok d s S1 k (n + 1) hd1.dw (by omega) (by omega)
      have ht2 := hd1.trans hd2
      by_cases w4 : v < 4
      · refine ⟨.endl f2, S2, hf2, ht2.mono (by omega), ?_⟩
        rw [cN__law_form]
        simp [m__law_form, pos, e1, w2, w4, dd, e2, ht2.trim, Fm.fA]
      · by_cases w6 : v < 6
        · obtain ⟨f3, S3, hf3, hd3, e3⟩ := form_ok d s S2 k _ hd2.dw (by omega) (by omega)
          have ht3 := ht2.trans hd3
          refine ⟨.pair f2 f3, S3, ⟨hf2, hf3⟩, ht3.mono (by omega), ?_⟩
          rw [cN__law_form]
          simp [m__law_form, pos, e1, w2, w4, w6, dd, e2, e3, ht3.trim, Fm.fA]
        · obtain ⟨v', S3, v0', v4, hd3, e3⟩ := draw_ok (t := s) (by omega) hd2.dw (by omega) (m := 4) (by decide) (by decide)
          have ht3 := ht2.trans hd3
          refine ⟨.pow f2 v', S3, ⟨hf2, v0', by omega⟩, ht3.mono (by omega), ?_⟩
          rw [cN__law_form]
          simp [m__law_form, pos, e1, w2, w4, w6, dd, e2, e3, ht3.trim, Fm.fA]
end FL

/-! ## Q2: places -/
namespace FL
open PySem L2
/-- a place -/
def pl (p : List Int) : A := .tup (p.map A.int)
@[simp] theorem pl_nil : A.tup [] = pl [] := rfl
@[simp] theorem pl_one (i : Int) : A.tup [.int i] = pl [i] := rfl
@[simp] theorem pl_bel (p : List Int) (n : Nat) : (pl p).bel n = true := by
  show bels n (p.map A.int) = true
  induction p with
  | nil => rfl
  | cons a r ih => simp [ih]
@[simp] theorem pl_ix0 (i : Int) (r : List Int) (S : Sto) : ixM (pl (i :: r)) (.int 0) S = .ok (.int i) S := by
  show ixM (.tup (.int i :: r.map A.int)) (.int 0) S = _
  rw [x_ixT, x_gat0]
@[simp] theorem pl_sl (i : Int) (r : List Int) (S : Sto) : slM (pl (i :: r)) (some 1) none S = .ok (pl r) S := by
  show Rs.ok (A.tup (cutA (.int i :: r.map A.int) (some 1) none)) S = _
  rw [x_cut1] <;> rfl
@[simp] theorem pl_sl0 (S : Sto) : slM (pl []) (some 1) none S = .ok (pl []) S := by
  show Rs.ok (A.tup (cutA [] (some 1) none)) S = _
  rw [x_cut0] <;> rfl
@[simp] theorem pl_len (p : List Int) (S : Sto) : lenM [pl p] S = .ok (.int p.length) S := by
  show Rs.ok (A.int (p.map A.int).length) S = _
  simp
@[simp] theorem pl_ty (p : List Int) (S : Sto) : tyOf (pl p) S = some (.b "tuple") := rfl
@[simp] theorem pl_isA (p : List Int) : isA (pl p) = false := rfl
@[simp] theorem pl_items (p : List Int) (S : Sto) : itemsW (pl p) S = .ok (p.map A.int) S := rfl
@[simp] theorem pl_add (p q : List Int) (S : Sto) : addA (pl p) (pl q) S = if p.length + q.length < 100000 then .ok (pl (p ++ q)) S else .no := by
  show addA (.tup _) (.tup _) S = _
  rw [x_addT]
  simp [pl]
theorem ints_map (p : List Int) : intsOf (p.map A.int) = some p := by
  induction p with
  | nil => rfl
  | cons a r ih =>
    show (intsOf (r.map A.int)).map (a :: ·) = _
    rw [ih] <;> rfl
@[simp] theorem pl_lt (p q : List Int) (S : Sto) : ltM (pl p) (pl q) S = .ok (.bl (HT.lexLt p q)) S := by
  show ltM (.tup _) (.tup _) S = _
  rw [x_ltT, ints_map, ints_map]
theorem dats_map (p : List Int) : dats (p.map A.int) = some (p.map PyData.int) := by
  induction p with
  | nil => rfl
  | cons a r ih =>
    show (match dat (.int a), dats (r.map A.int) with
      | some d, some ds => some (d :: ds)
      | _, _ => none) = _
    rw [ih] <;> rfl
theorem dat_pl (p : List Int) : dat (pl p) = some (.tuple (p.map PyData.int)) := by
  show (dats (p.map A.int)).map PyData.tuple = _
  rw [dats_map] <;> rfl
theorem canLay_ints (p : List Int) : PyData.canLayAll0 (p.map PyData.int) = true := by
  induction p with
  | nil => rfl
  | cons a r ih => simp [PyData.canLayAll0, PyData.canLay0, ih]
theorem depth_ints (p : List Int) : PyData.depthAll (p.map PyData.int) = 0 := by
  induction p with
  | nil => rfl
  | cons a r ih => simp [PyData.depthAll, PyData.depth, ih]
theorem eqv_ints : ∀ p q : List Int, PyData.eqvAll (p.map PyData.int) (q.map PyData.int) = decide (p = q)
  | [], [] => by simp [PyData.eqvAll]
  | a :: r, [] => by simp [PyData.eqvAll]
  | [], b :: s => by simp [PyData.eqvAll]
  | a :: r, b :: s => by
    have ih := eqv_ints r s
    simp only [List.map_cons, PyData.eqvAll, PyData.eqv, ih]
    by_cases h : a = b <;> by_cases h' : r = s <;> simp [h, h']
theorem shaped_pl (p : List Int) : SeqAt.shaped (.tuple (p.map PyData.int)) = true := by
  simp [SeqAt.shaped, PyData.canLay0, canLay_ints, PyData.depth, depth_ints]
@[simp] theorem pl_eq (neg : Bool) (p q : List Int) (S : Sto) : eqM neg (pl p) (pl q) S = .ok (.bl (decide (p = q) != neg)) S := by
  show (match datS S (pl p), datS S (pl q) with
    | some x, some y => if SeqAt.shaped x = true ∧ SeqAt.shaped y = true then Rs.ok (A.bl (PyData.eqv x y != neg)) S else .no
    | _, _ => .no) = _
  have e : ∀ p, datS S (pl p) = some (.tuple (p.map PyData.int)) := fun p => dat_pl p
  simp [e, shaped_pl, PyData.eqv, eqv_ints]
theorem pl_inj {p q : List Int} (h : pl p = pl q) : p = q := by
  have e := dat_pl p
  rw [h, dat_pl q] at e
  have e : q.map PyData.int = p.map PyData.int := by injection e with e; injection e
  exact ((List.map_inj_right fun a b z => by injection z).mp e).symm
namespace Fm
/-- the part i -/
def part : Fm → Int → Option Fm
  | opt _, _ => none
  | endl f, i => if 0 ≤ i then some f else none
  | pair f g, i => if i = 0 then some f else if i = 1 then some g else none
  | pow f n, i => if 0 ≤ i ∧ i < n then some f else none
/-- the number of answers at a place -/
def at_ : Fm → List Int → Option Int
  | opt i, [] => some i
  | opt _, _ :: _ => none
  | _, [] => none
  | endl f, i :: r => if 0 ≤ i then f.at_ r else none
  | pair f g, i :: r => if i = 0 then f.at_ r else if i = 1 then g.at_ r else none
  | pow f n, i :: r => if 0 ≤ i ∧ i < n then f.at_ r else none
/-- no place at all -/
def emp : Fm → Bool
  | opt _ => false
  | endl f => f.emp
  | pair f g => f.emp && g.emp
  | pow f n => decide (n = 0) || f.emp
theorem at_len {m : Int} : ∀ {f : Fm} {d : Nat} {p : List Int} {c : Int}, f.Ok m d → f.at_ p = some c → p.length ≤ d ∧ 1 ≤ c ∧ c ≤ 9
  | opt i, d, [], c, h, e => by cases e; exact ⟨Nat.zero_le _, h⟩
  | opt _, _, _ :: _, _, _, e => nomatch e
  | endl f, d + 1, i :: r, c, h, e => by
    simp only [at_] at e
    split at e
    · have := at_len (f := f) h e
      exact ⟨by simp; omega, this.2⟩
    · cases e
  | pair f g, d + 1, i :: r, c, h, e => by
    simp only [at_] at e
    split at e
    · have := at_len (f := f) h.1 e
      exact ⟨by simp; omega, this.2⟩
    · split at e
      · have := at_len (f := g) h.2 e
        exact ⟨by simp; omega, this.2⟩
      · cases e
  | pow f n, d + 1, i :: r, c, h, e => by
    simp only [at_] at e
    split at e
    · have := at_len (f := f) h.1 e
      exact ⟨by simp; omega, this.2⟩
    · cases e
  | endl _, _, [], _, _, e => nomatch e
  | pair _ _, _, [], _, _, e => nomatch e
  | pow _ _, _, [], _, _, e => nomatch e
  | endl _, 0, _ :: _, _, h, _ => h.elim
  | pair _ _, 0, _ :: _, _, h, _ => h.elim
  | pow _ _, 0, _ :: _, _, h, _ => h.elim
theorem at_cons (f : Fm) (i : Int) (r : List Int) : f.at_ (i :: r) = match f.part i with
    | some g => g.at_ r
    | none => none := by
  cases f with
  | opt _ => rfl
  | endl f => simp only [at_, part]; split <;> rfl
  | pair f g =>
    simp only [at_, part]
    split
    · rfl
    · split <;> rfl
  | pow f n => simp only [at_, part]; split <;> rfl
theorem part_ok {m : Int} {f g : Fm} {i : Int} {d : Nat} (h : f.Ok m d) (e : f.part i = some g) : ∃ d', d = d' + 1 ∧ g.Ok m d' := by
  cases f with
  | opt _ => cases e
  | endl f =>
    cases d with
    | zero => exact h.elim
    | succ d => simp only [part] at e; split at e <;> cases e; exact ⟨d, rfl, h⟩
  | pair f f' =>
    cases d with
    | zero => exact h.elim
    | succ d =>
      simp only [part] at e
      split at e
      · cases e; exact ⟨d, rfl, h.1⟩
      · split at e <;> cases e; exact ⟨d, rfl, h.2⟩
  | pow f n =>
    cases d with
    | zero => exact h.elim
    | succ d => simp only [part] at e; split at e <;> cases e; exact ⟨d, rfl, h.1⟩
end Fm
def opl : Option (List Int) → A
  | none => .non
  | some p => pl p
@[simp] theorem opl_bel (r : Option (List Int)) (n : Nat) : (opl r).bel n = true := by cases r <;> simp [opl]
theorem place_ok : ∀ (f : Fm) (d t : Nat) (S : Sto) (k : Nat) (n : Int), f.Ok 9 d → d ≤ 6 → DwS S k n → n + 3 ^ (d + 1) < 1000000 → d + 2 ≤ t →
    ∃ (r : Option (List Int)) (S' : Sto), (∀ p, r = some p → ∃ c, f.at_ p = some c) ∧ (r = none ↔ f.emp = true) ∧ DwT k (n + 3 ^ (d + 1)) S S' ∧ cN t k__law_place [.ref k, f.fA] S = .ok (opl r) S'
  | .opt i, d, t, S, k, n, h, hd6, hd, hn, ht => by
    obtain ⟨s, rfl⟩ : ∃ s, t = s + 1 := ⟨t - 1, by omega⟩
    have p1 : (0 : Int) ≤ 3 ^ (d + 1) := Int.le_of_lt (Int.pow_pos (by decide))
    refine ⟨some [], S, fun p e => ⟨i, by cases e; rfl⟩, by simp [Fm.emp], hd.refl.mono (by omega), ?_⟩
    rw [cN__law_place]
    simp [m__law_place, Fm.fA, opl]
  | .endl f, d + 1, t, S, k, n, h, hd6, hd, hn, ht => by
    obtain ⟨s, rfl⟩ : ∃ s, t = s + 1 := ⟨t - 1, by omega⟩
    have p1 : (3 : Int) ^ (d + 1 + 1) = 3 * 3 ^ (d + 1) := by rw [Int.pow_succ (3 : Int) (d + 1)]; omega
    have p2 : (3 : Int) ≤ 3 ^ (d + 1) := by
      rw [Int.pow_succ]
      have : (0 : Int) < 3 ^ d := Int.pow_pos (by decide)
      omega
    obtain ⟨v, S1, v0, v5, h1, e1⟩ := draw_ok (t := s) (by omega) hd (by omega) (m := 5) (by decide) (by decide)
    by_cases hv : v = 4
    · obtain ⟨u, S2, u0, u3, h2, e2⟩ := draw_ok (t := s) (by omega) h1.dw (by omega) (m := 3) (by decide) (by decide)
      obtain ⟨r, S3, r1, r2, h3, e3⟩ := place_ok f d s S2 k (n + 1 + 1) h (by omega) h2.dw (by omega) (by omega)
      have tr := (h1.trans h2).trans h3
      refine ⟨r.map ((10 ^ 20 + u) :: ·), S3, fun p e => ?_, by cases r <;> simp_all [Fm.emp], tr.mono (by omega), ?_⟩
      · obtain ⟨q, rfl, rfl⟩ := Option.map_eq_some_iff.mp e
        obtain ⟨c, hc⟩ := r1 q rfl
        exact ⟨c, by simp only [Fm.at_]; rw [if_pos (by omega)]; exact hc⟩
      · rw [cN__law_place]
        cases r with
        | none => simp [m__law_place, Fm.fA, e1, hv, e2, e3, opl, tr.trim]
        | some p =>
          obtain ⟨c, hc⟩ := r1 p rfl
          have l := (Fm.at_len (f := f) (m := 9) (d := d) h hc).1
          have l1 : 1 + p.length < 100000 := by omega
          simp [m__law_place, Fm.fA, e1, hv, e2, e3, opl, tr.trim, l1]
    · obtain ⟨r, S3, r1, r2, h3, e3⟩ := place_ok f d s S1 k (n + 1) h (by omega) h1.dw (by omega) (by omega)
      have tr := h1.trans h3
      refine ⟨r.map (v :: ·), S3, fun p e => ?_, by cases r <;> simp_all [Fm.emp], tr.mono (by omega), ?_⟩
      · obtain ⟨q, rfl, rfl⟩ := Option.map_eq_some_iff.mp e
        obtain ⟨c, hc⟩ := r1 q rfl
        exact ⟨c, by simp only [Fm.at_]; rw [if_pos (by omega)]; exact hc⟩
      · rw [cN__law_place]
        cases r with
        | none => simp [m__law_place, Fm.fA, e1, hv, e3, opl, tr.trim]
        | some p =>
          obtain ⟨c, hc⟩ := r1 p rfl
          have l := (Fm.at_len (f := f) (m := 9) (d := d) h hc).1
          have l1 : 1 + p.length < 100000 := by omega
          simp [m__law_place, Fm.fA, e1, hv, e3, opl, tr.trim, l1]
  | .pair f g, d + 1, t, S, k, n, h, hd6, hd, hn, ht => by
    obtain ⟨s, rfl⟩ : ∃ s, t = s + 1 := ⟨t - 1, by omega⟩
    have p1 : (3 : Int) ^ (d + 1 + 1) = 3 * 3 ^ (d + 1) := by rw [Int.pow_succ (3 : Int) (d + 1)]; omega
    have p2 : (3 : Int) ≤ 3 ^ (d + 1) := by
      rw [Int.pow_succ]
      have : (0 : Int) < 3 ^ d := Int.pow_pos (by decide)
      omega
    obtain ⟨v, S1, v0, v2, h1, e1⟩ := draw_ok (t := s) (by omega) hd (by omega) (m := 2) (by decide) (by decide)
    have hv : v = 0 ∨ v = 1 := by omega
    rcases hv with rfl | rfl
    · obtain ⟨r, S2, r1, r2, h2, e2⟩ := place_ok f d s S1 k (n + 1) h.1 (by omega) h1.dw (by omega) (by omega)
      cases r with
      | some p =>
        obtain ⟨c, hc⟩ := r1 p rfl
        have l := (Fm.at_len (f := f) (m := 9) (d := d) h.1 hc).1
        have l1 : 1 + p.length < 100000 := by omega
        have tr := h1.trans h2
        refine ⟨some (0 :: p), S2, fun q e => by cases e; exact ⟨c, by simp [Fm.at_, hc]⟩, by simp at r2; simp [Fm.emp, r2], tr.mono (by omega), ?_⟩
        rw [cN__law_place]
        simp [m__law_place, Fm.fA, e1, e2, opl, tr.trim, l1]
      | none =>
        obtain ⟨r', S3, q1, q2, h3, e3⟩ := place_ok g d s S2 k _ h.2 (by omega) h2.dw (by omega) (by omega)
        have tr := (h1.trans h2).trans h3
        cases r' with
        | some p =>
          obtain ⟨c, hc⟩ := q1 p rfl
          have l := (Fm.at_len (f := g) (m := 9) (d := d) h.2 hc).1
          have l1 : 1 + p.length < 100000 := by omega
          refine ⟨some (1 :: p), S3, fun q e => by cases e; exact ⟨c, by simp [Fm.at_, hc]⟩, by simp at q2; simp [Fm.emp, q2], tr.mono (by omega), ?_⟩
          rw [cN__law_place]
          simp [m__law_place, Fm.fA, e1, e2, e3, opl, tr.trim, l1]
        | none =>
          refine ⟨none, S3, (fun q e => nomatch e), by simp at q2 r2; simp [Fm.emp, q2, r2], tr.mono (by omega), ?_⟩
          rw [cN__law_place]
          simp [m__law_place, Fm.fA, e1, e2, e3, opl, tr.trim]
    · obtain ⟨r, S2, r1, r2, h2, e2⟩ := place_ok g d s S1 k (n + 1) h.2 (by omega) h1.dw (by omega) (by omega)
      cases r with
      | some p =>
        obtain ⟨c, hc⟩ := r1 p rfl
        have l := (Fm.at_len (f := g) (m := 9) (d := d) h.2 hc).1
        have l1 : 1 + p.length < 100000 := by omega
        have tr := h1.trans h2
        refine ⟨some (1 :: p), S2, fun q e => by cases e; exact ⟨c, by simp [Fm.at_, hc]⟩, by simp at r2; simp [Fm.emp, r2], tr.mono (by omega), ?_⟩
        rw [cN__law_place]
        simp [m__law_place, Fm.fA, e1, e2, opl, tr.trim, l1]
      | none =>
        obtain ⟨r', S3, q1, q2, h3, e3⟩ := place_ok f d s S2 k _ h.1 (by omega) h2.dw (by omega) (by omega)
        have tr := (h1.trans h2).trans h3
        cases r' with
        | some p =>
          obtain ⟨c, hc⟩ := q1 p rfl
          have l := (Fm.at_len (f := f) (m := 9) (d := d) h.1 hc).1
          have l1 : 1 + p.length < 100000 := by omega
          refine ⟨some (0 :: p), S3, fun q e => by cases e; exact ⟨c, by simp [Fm.at_, hc]⟩, by simp at q2; simp [Fm.emp, q2], tr.mono (by omega), ?_⟩
          rw [cN__law_place]
          simp [m__law_place, Fm.fA, e1, e2, e3, opl, tr.trim, l1]
        | none =>
          refine ⟨none, S3, (fun q e => nomatch e), by simp at q2 r2; simp [Fm.emp, q2, r2], tr.mono (by omega), ?_⟩
          rw [cN__law_place]
          simp [m__law_place, Fm.fA, e1, e2, e3, opl, tr.trim]
  | .pow f m, d + 1, t, S, k, n, h, hd6, hd, hn, ht => by
    obtain ⟨s, rfl⟩ : ∃ s, t = s + 1 := ⟨t - 1, by omega⟩
    have p1 : (3 : Int) ^ (d + 1 + 1) = 3 * 3 ^ (d + 1) := by rw [Int.pow_succ (3 : Int) (d + 1)]; omega
    have p2 : (3 : Int) ≤ 3 ^ (d + 1) := by
      rw [Int.pow_succ]
      have : (0 : Int) < 3 ^ d := Int.pow_pos (by decide)
      omega
    obtain ⟨hf, m0, m9⟩ := h
    by_cases hm : m = 0
    · refine ⟨none, S, (fun q e => nomatch e), by simp [Fm.emp, hm], hd.refl.mono (by omega), ?_⟩
      rw [cN__law_place]
      simp [m__law_place, Fm.fA, hm, opl]
    · obtain ⟨v, S1, v0, v5, h1, e1⟩ := draw_ok (t := s) (by omega) hd (by omega) (m := m) (by omega) (by omega)
      obtain ⟨r, S3, r1, r2, h3, e3⟩ := place_ok f d s S1 k (n + 1) hf (by omega) h1.dw (by omega) (by omega)
      have tr := h1.trans h3
      refine ⟨r.map (v :: ·), S3, fun p e => ?_, by cases r <;> simp_all [Fm.emp], tr.mono (by omega), ?_⟩
      · obtain ⟨q, rfl, rfl⟩ := Option.map_eq_some_iff.mp e
        obtain ⟨c, hc⟩ := r1 q rfl
        exact ⟨c, by simp only [Fm.at_]; rw [if_pos (by omega)]; exact hc⟩
      · rw [cN__law_place]
        cases r with
        | none => simp [m__law_place, Fm.fA, e1, hm, e3, opl, tr.trim]
        | some p =>
          obtain ⟨c, hc⟩ := r1 p rfl
          have l := (Fm.at_len (f := f) (m := 9) (d := d) hf hc).1
          have l1 : 1 + p.length < 100000 := by omega
          simp [m__law_place, Fm.fA, e1, hm, e3, opl, tr.trim, l1]
  | .endl _, 0, _, _, _, _, h, _, _, _, _ => h.elim
  | .pair _ _, 0, _, _, _, _, h, _, _, _, _ => h.elim
  | .pow _ _, 0, _, _, _, _, h, _, _, _, _ => h.elim
end FL

/-! ## Q3: facts, ascending places -/
namespace FL
open PySem L2
/-! ### the order of places -/
theorem lt_irr : ∀ a : List Int, HT.lexLt a a = false
  | [] => rfl
  | x :: r => by rw [HT.lexLt_cons, if_pos rfl]; exact lt_irr r
theorem lt_tr : ∀ a b c : List Int, HT.lexLt a b = true → HT.lexLt b c = true → HT.lexLt a c = true
  | [], _ :: _, _ :: _, _, _ => rfl
  | x :: r, y :: s, z :: u, h1, h2 => by
    rw [HT.lexLt_cons] at *
    by_cases hxy : x = y
    · subst hxy
      by_cases hyz : x = z
      · subst hyz
        simp only [if_true] at *
        exact lt_tr r s u h1 h2
      · rw [if_neg hyz] at *
        exact h2
    · rw [if_neg hxy] at h1
      have h1 := of_decide_eq_true h1
      by_cases hyz : y = z
      · subst hyz
        rw [if_neg hxy]
        exact decide_eq_true h1
      · rw [if_neg hyz] at h2
        have h2 := of_decide_eq_true h2
        rw [if_neg (by omega)]
        exact decide_eq_true (by omega)
  | [], [], _, h, _ => nomatch h
  | _ :: _, [], _, h, _ => nomatch h
  | [], _ :: _, [], _, h => nomatch h
  | _ :: _, _ :: _, [], _, h => nomatch h
theorem lt_tot : ∀ a b : List Int, HT.lexLt a b = false → HT.lexLt b a = false → a = b
  | [], [], _, _ => rfl
  | [], _ :: _, h, _ => nomatch h
  | _ :: _, [], _, h => nomatch h
  | x :: r, y :: s, h1, h2 => by
    rw [HT.lexLt_cons] at *
    by_cases hxy : x = y
    · subst hxy
      simp only [if_true] at *
      rw [lt_tot r s h1 h2]
    · rw [if_neg hxy] at h1
      rw [if_neg (Ne.symm hxy)] at h2
      have h1 := of_decide_eq_false h1
      have h2 := of_decide_eq_false h2
      omega
/-- a not behind b, b ahead of c -/
theorem le_lt {a b c : List Int} (h1 : HT.lexLt b a = false) (h2 : HT.lexLt b c = true) : HT.lexLt a c = true := by
  cases h : HT.lexLt a b with
  | true => exact lt_tr a b c h h2
  | false => rw [lt_tot a b h h1]; exact h2
def Srt (row : List (List Int)) : Prop := row.Pairwise fun a b => HT.lexLt b a = false
def cLt (p : List Int) (row : List (List Int)) : Nat := (row.filter (HT.lexLt · p)).length
def insP (row : List (List Int)) (p : List Int) : List (List Int) := row.take (cLt p row) ++ [p] ++ row.drop (cLt p row)
theorem cLt_le (p : List Int) (row : List (List Int)) : cLt p row ≤ row.length := List.length_filter_le _ _
theorem cLt_at {p : List Int} : ∀ {row : List (List Int)}, Srt row → ∀ (i : Nat) (q : List Int), row[i]? = some q → (HT.lexLt q p = true ↔ i < cLt p row)
  | [], _, i, q, e => by simp at e
  | a :: r, h, i, q, e => by
    have hr := List.pairwise_cons.mp h
    cases ha : HT.lexLt a p with
    | true =>
      have e1 : cLt p (a :: r) = cLt p r + 1 := by simp [cLt, List.filter_cons, ha]
      cases i with
      | zero => simp at e; subst e; simp [ha, e1]
      | succ i =>
        have ih := cLt_at (p := p) hr.2 i q (by simpa using e)
        rw [ih, e1]
        omega
    | false =>
      have none : ∀ q ∈ r, HT.lexLt q p = false := fun q hq => by
        cases hx : HT.lexLt q p with
        | false => rfl
        | true => rw [le_lt (hr.1 q hq) hx] at ha; cases ha
      have e1 : cLt p (a :: r) = 0 := by
        have : r.filter (HT.lexLt · p) = [] := List.filter_eq_nil_iff.mpr fun q hq => by simp [none q hq]
        simp [cLt, List.filter_cons, ha, this]
      have hq : q ∈ a :: r := List.mem_of_getElem? e
      have : HT.lexLt q p = false := by
        rcases List.mem_cons.mp hq with rfl | hq
        · exact ha
        · exact none q hq
      rw [e1, this]
      simp
theorem insP_srt {row : List (List Int)} (h : Srt row) (p : List Int) : Srt (insP row p) := by
  unfold insP Srt
  have hn := cLt_le p row
  rw [List.append_assoc, List.pairwise_append]
  refine ⟨List.Pairwise.sublist (List.take_sublist _ _) h, ?_, ?_⟩
  · show List.Pairwise _ (p :: row.drop (cLt p row))
    rw [List.pairwise_cons]
    refine ⟨fun q hq => ?_, List.Pairwise.sublist (List.drop_sublist _ _) h⟩
    obtain ⟨i, hi⟩ := List.mem_iff_getElem?.mp hq
    rw [List.getElem?_drop] at hi
    cases hx : HT.lexLt q p with
    | false => rfl
    | true => have := (cLt_at h _ _ hi).mp hx; omega
  · intro a ha b hb
    obtain ⟨i, hi⟩ := List.mem_iff_getElem?.mp ha
    have hil : i < cLt p row := by
      have := (List.getElem?_eq_some_iff.mp hi).1
      simp at this
      omega
    rw [List.getElem?_take_of_lt hil] at hi
    have hap := (cLt_at h _ _ hi).mpr hil
    have hb : b = p ∨ b ∈ row.drop (cLt p row) := by simpa using hb
    cases hx : HT.lexLt b a with
    | false => rfl
    | true =>
      rcases hb with rfl | hb
      · have := lt_tr _ _ _ hap hx
        rw [lt_irr] at this
        cases this
      · obtain ⟨j, hj⟩ := List.mem_iff_getElem?.mp hb
        rw [List.getElem?_drop] at hj
        have := (cLt_at h _ _ hj).mp (lt_tr _ _ _ hx hap)
        omega
theorem mem_insP {row : List (List Int)} {p q : List Int} : q ∈ insP row p ↔ q = p ∨ q ∈ row := by
  have e : q ∈ row ↔ q ∈ row.take (cLt p row) ++ row.drop (cLt p row) := by rw [List.take_append_drop]
  rw [e]
  unfold insP
  simp only [List.mem_append, List.mem_singleton]
  constructor
  · rintro ((h | h) | h)
    · exact .inr (.inl h)
    · exact .inl h
    · exact .inr (.inr h)
  · rintro (h | h | h)
    · exact .inl (.inr h)
    · exact .inl (.inl h)
    · exact .inr h
theorem len_insP (row : List (List Int)) (p : List Int) : (insP row p).length = row.length + 1 := by
  have := cLt_le p row
  unfold insP
  simp
  omega
/-- ascending -/
def ascP (row : List (List Int)) (ps : List (List Int)) : List (List Int) := ps.foldl insP row
/-- ascending, each once -/
def upP (row : List (List Int)) (ps : List (List Int)) : List (List Int) := ps.foldl (fun r p => if p ∈ r then r else insP r p) row
theorem up_asc : ∀ (ps row : List (List Int)), (∀ p ∈ ps, p ∉ row) → ps.Nodup → upP row ps = ascP row ps
  | [], _, _, _ => rfl
  | p :: r, row, h, hn => by
    have hn := List.nodup_cons.mp hn
    show upP (if p ∈ row then row else insP row p) r = ascP (insP row p) r
    rw [if_neg (h p (List.mem_cons_self ..))]
    exact up_asc r _ (fun q hq hm => by
      rcases mem_insP.mp hm with rfl | hm
      · exact hn.1 hq
      · exact h q (List.mem_cons_of_mem _ hq) hm) hn.2
theorem mem_ascP {q : List Int} : ∀ (ps row : List (List Int)), q ∈ ascP row ps ↔ q ∈ row ∨ q ∈ ps
  | [], row => by simp [ascP]
  | p :: r, row => by
    show q ∈ ascP (insP row p) r ↔ _
    rw [mem_ascP r, mem_insP, List.mem_cons]
    constructor
    · rintro ((h | h) | h)
      · exact .inr (.inl h)
      · exact .inl h
      · exact .inr (.inr h)
    · rintro (h | h | h)
      · exact .inl (.inr h)
      · exact .inl (.inl h)
      · exact .inr h
theorem srt_ascP : ∀ (ps row : List (List Int)), Srt row → Srt (ascP row ps)
  | [], _, h => h
  | p :: r, _, h => srt_ascP r _ (insP_srt h p)
/-! ### rows of places -/
def pls (ps : List (List Int)) : List A := ps.map pl
@[simp] theorem pls_bel (ps : List (List Int)) (n : Nat) : bels n (pls ps) = true := by
  induction ps with
  | nil => rfl
  | cons a r ih => simp [pls] at ih ⊢; exact ih
@[simp] theorem pls_len (ps : List (List Int)) : (pls ps).length = ps.length := by simp [pls]
theorem dats_pls (ps : List (List Int)) : dats (pls ps) = some (ps.map fun p => PyData.tuple (p.map PyData.int)) := by
  induction ps with
  | nil => rfl
  | cons a r ih =>
    show (match dat (pl a), dats (pls r) with
      | some d, some ds => some (d :: ds)
      | _, _ => none) = _
    rw [ih, dat_pl] <;> rfl
theorem shaped_pls (ps : List (List Int)) : SeqAt.shaped (.list (ps.map fun p => PyData.tuple (p.map PyData.int))) = true := by
  have h1 : PyData.canLayAll0 (ps.map fun p => PyData.tuple (p.map PyData.int)) = true := by
    induction ps with
    | nil => rfl
    | cons a r ih => simp [PyData.canLayAll0, PyData.canLay0, canLay_ints, ih]
  have h2 : PyData.depthAll (ps.map fun p => PyData.tuple (p.map PyData.int)) ≤ 1 := by
    clear h1
    induction ps with
    | nil => decide
    | cons a r ih => simp [PyData.depthAll, PyData.depth, depth_ints]; omega
  simp [SeqAt.shaped, PyData.canLay0, h1, PyData.depth]
  omega
theorem any_pls (p : List Int) (ps : List (List Int)) : ((ps.map fun p => PyData.tuple (p.map PyData.int)).any fun z => PyData.eqv z (.tuple (p.map PyData.int))) = decide (p ∈ ps) := by
  induction ps with
  | nil => simp
  | cons a r ih =>
    simp only [List.map_cons, List.any_cons, ih, PyData.eqv, eqv_ints]
    by_cases h : a = p
    · subst h; simp
    · have h' : p ≠ a := Ne.symm h
      simp [h, h']
theorem in_pls {S : Sto} {k : Nat} {ps : List (List Int)} (h : S[k]? = some (.lst (pls ps))) (neg : Bool) (p : List Int) : inM neg (pl p) (.ref k) S = .ok (.bl (decide (p ∈ ps) != neg)) S := by
  have e1 : dicOf (.ref k) S = none := by unfold dicOf; simp only [h]
  have e2 : lstOf (.ref k) S = some (pls ps) := lstL' h
  have e3 : seqOf (.ref k) S = some (pls ps) := e2
  have e4 : flA (pl p) = none := rfl
  unfold inM
  simp [-List.any_map, e1, e3, e4, e2, dat_pl, dats_pls, shaped_pl, shaped_pls, any_pls]
theorem inF_pls (neg : Bool) (p : List Int) (ps : List (List Int)) (S : Sto) : inM neg (pl p) (.fl (pls ps)) S = .ok (.bl (decide (p ∈ ps) != neg)) S := by
  have e1 : dicOf (.fl (pls ps)) S = none := rfl
  have e2 : lstOf (.fl (pls ps)) S = some (pls ps) := rfl
  have e3 : seqOf (.fl (pls ps)) S = some (pls ps) := e2
  have e4 : flA (pl p) = none := rfl
  unfold inM
  simp [-List.any_map, e1, e3, e4, e2, dat_pl, dats_pls, shaped_pl, shaped_pls, any_pls]
theorem trim_dead {S : Sto} : trim S (S ++ [.dead]) = S := trim_app
theorem pls_take (ps : List (List Int)) (n : Nat) : (pls ps).take n = pls (ps.take n) := by simp [pls]
theorem pls_drop (ps : List (List Int)) (n : Nat) : (pls ps).drop n = pls (ps.drop n) := by simp [pls]
theorem pls_ins (row : List (List Int)) (p : List Int) : (pls row).take (cLt p row) ++ [pl p] ++ (pls row).drop (cLt p row) = pls (insP row p) := by
  simp [pls, insP]
end FL

/-! ## Q4: ascending rows by the code -/
namespace FL
open PySem L2
theorem fm_filter (p : List Int) (row : List (List Int)) : row.filterMap (fun q => if HT.lexLt q p = true then some (pl q) else none) = pls (row.filter (HT.lexLt · p)) := by
  induction row with
  | nil => rfl
  | cons a r ih =>
    rw [List.filterMap_cons, List.filter_cons]
    by_cases h : HT.lexLt a p = true
    · simp [h, ih, pls]
    · simp [h, ih, pls]
theorem up_loop (t : Nat) (S : Sto) : ∀ (ps row : List (List Int)) (x0 x2 x3 x4 : Option A), row.length + ps.length < 1000 → ∃ y2 y3 y4, forL (asgN 2) (b__law_up_1 (cN t)) (pls ps) [x0, some (.ref S.length), x2, x3, x4] (S ++ [.lst (pls row)]) = .nx [x0, some (.ref S.length), y2, y3, y4] (S ++ [.lst (pls (upP row ps))])
  | [], row, x0, x2, x3, x4, _ => ⟨x2, x3, x4, rfl⟩
  | p :: r, row, x0, x2, x3, x4, hl => by
    have hl : row.length + r.length + 1 < 1000 := by simp at hl; omega
    have hc := cLt_le p row
    have e2 : lcE false (asgN 4) (itE (vr 1)) (tst (op2 ltM (vr 4) (vr 2))) (vr 4) [4] [x0, some (.ref S.length), some (pl p), x3, x4] (S ++ [.llst (pls row)]) = .ok (.fl (pls (row.filter (HT.lexLt · p)))) (S ++ [.llst (pls row)]) := by
      rw [lcE_of pl row (fun q => if HT.lexLt q p = true then some (pl q) else none) (S' := S ++ [.llst (pls row)]) ?_ (by omega) ?_, fm_filter, x_putF]
      · simp [itL (x_last _ _)]
        rfl
      · intro q hq
        refine ⟨_, rfl, ?_⟩
        by_cases h : HT.lexLt q p = true
        · exact .inr ⟨pl q, by simp [h], by simp [h], by simp⟩
        · exact .inl ⟨by simp [h], by simp [h]⟩
    have e4 : ∀ m x3 x4, lockS 1 m [x0, some (.ref S.length), some (pl p), x3, x4] (S ++ [.lst (pls row)]) = unlO S.length (pls row) (m [x0, some (.ref S.length), some (pl p), x3, x4] (S ++ [.llst (pls row)])) := fun m x3 x4 => by
      rw [lock_lst (k := S.length) rfl (x_last _ _), x_set_last]
    have ec : (row.filter (HT.lexLt · p)).length = cLt p row := rfl
    have e5 := in_pls (S := S ++ [.lst (pls row)]) (k := S.length) (ps := row) (x_last _ _) true p
    have e6 := insL (S := S ++ [.lst (pls row)]) (k := S.length) (xs := pls row) (b := pl p) (i := (cLt p row : Int)) (x_last _ _) (by rw [pls_len]; omega) (by omega) (by omega)
    rw [Int.toNat_natCast, pls_ins, x_set_last] at e6
    by_cases hm : p ∈ row
    · have hu : upP row (p :: r) = upP row r := by
        show upP (if p ∈ row then row else insP row p) r = _
        rw [if_pos hm]
      obtain ⟨y2, y3, y4, ih⟩ := up_loop t S r row x0 (some (pl p)) (some (.int (cLt p row))) x4 (by omega)
      refine ⟨y2, y3, y4, ?_⟩
      show forL (asgN 2) _ (pl p :: pls r) _ _ = _
      have st : b__law_up_1 (cN t) [x0, some (.ref S.length), some (pl p), x3, x4] (S ++ [.lst (pls row)]) = .nx [x0, some (.ref S.length), some (pl p), some (.int (cLt p row)), x4] (S ++ [.lst (pls row)]) := by
        simp [b__law_up_1, e4, e2, ec, e5, hm]
      rw [forN, hu]
      show turn (b__law_up_1 (cN t) [x0, some (.ref S.length), some (pl p), x3, x4] _) _ = _
      rw [st]
      exact ih
    · have hu : upP row (p :: r) = upP (insP row p) r := by
        show upP (if p ∈ row then row else insP row p) r = _
        rw [if_neg hm]
      obtain ⟨y2, y3, y4, ih⟩ := up_loop t S r (insP row p) x0 (some (pl p)) (some (.int (cLt p row))) x4 (by rw [len_insP]; omega)
      refine ⟨y2, y3, y4, ?_⟩
      show forL (asgN 2) _ (pl p :: pls r) _ _ = _
      have st : b__law_up_1 (cN t) [x0, some (.ref S.length), some (pl p), x3, x4] (S ++ [.lst (pls row)]) = .nx [x0, some (.ref S.length), some (pl p), some (.int (cLt p row)), x4] (S ++ [.lst (pls (insP row p))]) := by
        simp [b__law_up_1, e4, e2, ec, e5, hm, lstL' (x_last _ _), e6]
      rw [forN, hu]
      show turn (b__law_up_1 (cN t) [x0, some (.ref S.length), some (pl p), x3, x4] _) _ = _
      rw [st]
      exact ih
theorem up_ok {t : Nat} (ht : 1 ≤ t) (ps : List (List Int)) (hl : ps.length < 1000) (S : Sto) : cN t k__law_up [.fl (pls ps)] S = .ok (.fl (pls (upP [] ps))) S := by
  obtain ⟨s, rfl⟩ : ∃ s, t = s + 1 := ⟨t - 1, by omega⟩
  obtain ⟨y2, y3, y4, e⟩ := up_loop s S ps [] (some (.fl (pls ps))) none none none (by simpa using hl)
  rw [cN__law_up]
  have e' : ∀ m, frzS 1 m [some (.fl (pls ps)), some (.ref S.length), y2, y3, y4] (S ++ [.lst (pls (upP [] ps))]) = m [some (.fl (pls ps)), some (.fl (pls (upP [] ps))), y2, y3, y4] (S ++ [.dead]) := fun m => by
    rw [frz_lst (k := S.length) rfl (x_last _ _), x_set_last] <;> rfl
  have e0 : pls [] = [] := rfl
  rw [e0] at e
  simp [m__law_up, e, e', trim_app]
end FL

/-! ## Q5: facts -/
namespace FL
open PySem L2
abbrev Fc := List (List Int × Int)
def fA (F : Fc) : List (A × A) := F.map fun q => (pl q.1, .int q.2)
def ksF (F : Fc) : List (List Int) := F.map Prod.fst
theorem kys_map (p : List Int) : kys (p.map A.int) = some (p.map Sum.inl) := by
  induction p with
  | nil => rfl
  | cons a r ih =>
    show (match ky1 (.int a), kys (r.map A.int) with
      | some k, some ks => some (k :: ks)
      | _, _ => none) = _
    rw [ih] <;> rfl
theorem ky_pl (p : List Int) : kyOf (pl p) = some (.inr (p.map Sum.inl)) := by
  show (kys (p.map A.int)).map Sum.inr = _
  rw [kys_map] <;> rfl
theorem ky_eq (p q : List Int) : (kyOf (pl p) = kyOf (pl q)) ↔ p = q := by
  rw [ky_pl, ky_pl]
  constructor
  · intro h
    have h : p.map (Sum.inl : Int → Key) = q.map Sum.inl := by
      injection h with h
      injection h
    exact (List.map_inj_right fun a b z => by injection z).mp h
  · rintro rfl; rfl
@[simp] theorem fit_fA (F : Fc) (p : List Int) : kyFit (fA F) (pl p) = true := by
  unfold kyFit
  rw [ky_pl]
  simp only [fA, List.all_map, List.all_eq_true]
  intro q _
  simp [ky_pl]
@[simp] theorem look_fA (p : List Int) : ∀ F : Fc, dLook (fA F) (pl p) = (F.lookup p).map A.int
  | [] => rfl
  | (q, v) :: r => by
    show (if kyOf (pl q) = kyOf (pl p) then some (A.int v) else dLook (fA r) (pl p)) = _
    by_cases h : q = p
    · subst h; simp
    · rw [if_neg (fun z => h ((ky_eq _ _).mp z)), look_fA p r]
      have h' : (p == q) = false := by simpa using Ne.symm h
      simp [List.lookup, h']
@[simp] theorem fA_bel (F : Fc) (n : Nat) : belk n (fA F) = true := by
  induction F with
  | nil => rfl
  | cons a r ih =>
    show (true && belk n (fA r)) = true
    simp [ih]
@[simp] theorem fA_keys (F : Fc) : (fA F).map Prod.fst = pls (ksF F) := by simp [fA, pls, ksF]
@[simp] theorem fA_keysA (F : Fc) : keysA (fA F) = pls (ksF F) := fA_keys F
@[simp] theorem fA_len (F : Fc) : (fA F).length = F.length := by simp [fA]
@[simp] theorem ksF_len (F : Fc) : (ksF F).length = F.length := by simp [ksF]
theorem lookF {F : Fc} (hn : (ksF F).Nodup) {p : List Int} {v : Int} (h : (p, v) ∈ F) : F.lookup p = some v := by
  induction F with
  | nil => cases h
  | cons a r ih =>
    obtain ⟨q, u⟩ := a
    have hn := List.nodup_cons.mp hn
    rcases List.mem_cons.mp h with h | h
    · cases h; simp [List.lookup]
    · have : (p == q) = false := by
        have : p ≠ q := fun z => hn.1 (by
          have z2 : p ∈ r.map Prod.fst := List.mem_map.mpr ⟨(p, v), h, rfl⟩
          rw [z] at z2
          exact z2)
        simpa using this
      simp only [List.lookup, this]
      exact ih hn.2 h
theorem lookF_mem {F : Fc} {p : List Int} {v : Int} (h : F.lookup p = some v) : (p, v) ∈ F := by
  induction F with
  | nil => cases h
  | cons a r ih =>
    obtain ⟨q, u⟩ := a
    by_cases hq : p = q
    · subst hq; simp [List.lookup] at h; subst h; exact List.mem_cons_self ..
    · have : (p == q) = false := by simpa using hq
      simp only [List.lookup, this] at h
      exact List.mem_cons_of_mem _ (ih h)
theorem lookF_none {F : Fc} {p : List Int} : F.lookup p = none ↔ p ∉ ksF F := by
  induction F with
  | nil => simp [ksF]
  | cons a r ih =>
    obtain ⟨q, u⟩ := a
    by_cases hq : p = q
    · subst hq; simp [List.lookup, ksF]
    · have : (p == q) = false := by simpa using hq
      simp only [List.lookup, this, ih]
      simp [ksF, hq]
theorem has_fA (F : Fc) (p : List Int) : dHas (fA F) (pl p) = decide (p ∈ ksF F) := by
  unfold dHas
  induction F with
  | nil => simp [fA, ksF]
  | cons a r ih =>
    obtain ⟨q, u⟩ := a
    have e : (fA ((q, u) :: r)) = (pl q, .int u) :: fA r := rfl
    rw [e, List.any_cons, ih]
    by_cases hq : p = q
    · subst hq; simp [ksF]
    · have : ¬ kyOf (pl q) = kyOf (pl p) := fun z => hq ((ky_eq _ _).mp z).symm
      have e2 : (p ∈ ksF ((q, u) :: r)) ↔ p ∈ ksF r := by
        show p ∈ q :: ksF r ↔ _
        simp [hq]
      simp [this, e2]
def putF (F : Fc) (p : List Int) (v : Int) : Fc := if p ∈ ksF F then F.map (fun q => if q.1 = p then (q.1, v) else q) else F ++ [(p, v)]
@[simp] theorem put_fA (F : Fc) (p : List Int) (v : Int) : dPut (fA F) (pl p) (.int v) = fA (putF F p v) := by
  unfold dPut putF
  rw [has_fA]
  by_cases h : p ∈ ksF F
  · rw [if_pos (decide_eq_true h), if_pos h]
    simp only [fA, List.map_map]
    apply List.map_congr_left
    intro q _
    by_cases hq : q.1 = p
    · simp [hq]
    · have : ¬ kyOf (pl q.1) = kyOf (pl p) := fun z => hq ((ky_eq _ _).mp z)
      simp [hq, this]
  · rw [if_neg (by simp [h]), if_neg h]
    simp [fA]
theorem put_new {F : Fc} {p : List Int} (v : Int) (h : p ∉ ksF F) : putF F p v = F ++ [(p, v)] := by unfold putF; rw [if_neg h]
theorem ks_put (F : Fc) (p : List Int) (v : Int) : ksF (putF F p v) = if p ∈ ksF F then ksF F else ksF F ++ [p] := by
  unfold putF
  split
  · simp only [ksF, List.map_map]
    apply List.map_congr_left
    intro q _
    by_cases hq : q.1 = p <;> simp [hq]
  · simp [ksF]
theorem nd_put {F : Fc} (hn : (ksF F).Nodup) (p : List Int) (v : Int) : (ksF (putF F p v)).Nodup := by
  rw [ks_put]
  split
  · exact hn
  · rename_i h
    rw [List.nodup_append]
    refine ⟨hn, by simp, fun a ha b hb => ?_⟩
    simp at hb
    subst hb
    exact fun z => h (z ▸ ha)
theorem len_put (F : Fc) (p : List Int) (v : Int) : (putF F p v).length ≤ F.length + 1 := by
  unfold putF
  split <;> simp
theorem mem_put {F : Fc} {p q : List Int} {v u : Int} (h : (q, u) ∈ putF F p v) : q = p ∧ u = v ∨ (q, u) ∈ F := by
  unfold putF at h
  split at h
  · obtain ⟨z, hz, e⟩ := List.mem_map.mp h
    split at e
    · rename_i hp
      cases e
      exact .inl ⟨hp, rfl⟩
    · cases e; exact .inr hz
  · rcases List.mem_append.mp h with h | h
    · exact .inr h
    · simp at h; exact .inl h
/-- the facts of a part -/
def prt (h : Int) : List Int × Int → Option (List Int × Int)
  | ([], _) => none
  | (i :: r, v) => if i = h then some (r, v) else none
def partF (F : Fc) (h : Int) : Fc := F.filterMap (prt h)
theorem mem_part {F : Fc} {h : Int} {r : List Int} {v : Int} : (r, v) ∈ partF F h ↔ (h :: r, v) ∈ F := by
  unfold partF
  rw [List.mem_filterMap]
  constructor
  · rintro ⟨⟨p, u⟩, hm, e⟩
    cases p with
    | nil => cases e
    | cons i p =>
      simp only [prt] at e
      split at e
      · rename_i hi
        cases e
        subst hi
        exact hm
      · cases e
  · intro hm
    exact ⟨_, hm, by simp [prt]⟩
theorem ks_part {F : Fc} {h : Int} {r : List Int} (hm : r ∈ ksF (partF F h)) : h :: r ∈ ksF F := by
  obtain ⟨⟨r', v⟩, hz, rfl⟩ := List.mem_map.mp hm
  exact List.mem_map_of_mem (f := Prod.fst) (mem_part.mp hz)
theorem nd_part {F : Fc} (h : Int) (hn : (ksF F).Nodup) : (ksF (partF F h)).Nodup := by
  induction F with
  | nil => exact List.nodup_nil
  | cons a r ih =>
    have hn := List.nodup_cons.mp hn
    have ih := ih hn.2
    have e : partF (a :: r) h = match prt h a with
      | none => partF r h
      | some b => b :: partF r h := by
      unfold partF
      rw [List.filterMap_cons]
      cases prt h a <;> rfl
    rw [e]
    obtain ⟨p, v⟩ := a
    cases p with
    | nil => exact ih
    | cons i p =>
      by_cases hi : i = h
      · subst hi
        have e2 : prt i (i :: p, v) = some (p, v) := by simp [prt]
        rw [e2]
        exact List.nodup_cons.mpr ⟨fun z => hn.1 (ks_part z), ih⟩
      · have e2 : prt h (i :: p, v) = none := by simp [prt, hi]
        rw [e2]
        exact ih
theorem len_part (F : Fc) (h : Int) : (partF F h).length ≤ F.length := List.length_filterMap_le _ _
theorem part_snoc (F : Fc) (h : Int) (x : List Int × Int) : partF (F ++ [x]) h = partF F h ++ (match prt h x with | none => [] | some b => [b]) := by
  unfold partF
  rw [List.filterMap_append]
  congr 1
  cases e : prt h x with
  | none => simp [List.filterMap_cons, e]
  | some b => simp [List.filterMap_cons, e]
end FL

/-! ## Q6: what the law and the spaces say of places -/
namespace FL
open PySem L2
theorem count_ok : ∀ (f : Fm) (d t : Nat) (p : List Int) (c : Int) (S : Sto), f.Ok 9 d → f.at_ p = some c → d + 1 ≤ t → cN t k__law_count [f.fA, pl p] S = .ok (.int c) S
  | .opt i, d, t, [], c, S, h, e, ht => by
    obtain ⟨s, rfl⟩ : ∃ s, t = s + 1 := ⟨t - 1, by omega⟩
    cases e
    rw [cN__law_count]
    simp [m__law_count, Fm.fA]
  | .endl f, d + 1, t, i :: r, c, S, h, e, ht => by
    obtain ⟨s, rfl⟩ : ∃ s, t = s + 1 := ⟨t - 1, by omega⟩
    simp only [Fm.at_] at e
    split at e
    · have ih := count_ok f d s r c S h e (by omega)
      rw [cN__law_count]
      simp [m__law_count, Fm.fA, ih]
    · cases e
  | .pair f g, d + 1, t, i :: r, c, S, h, e, ht => by
    obtain ⟨s, rfl⟩ : ∃ s, t = s + 1 := ⟨t - 1, by omega⟩
    simp only [Fm.at_] at e
    split at e
    · rename_i hi
      subst hi
      have ih := count_ok f d s r c S h.1 e (by omega)
      rw [cN__law_count]
      simp [m__law_count, Fm.fA, ih]
    · split at e
      · rename_i hi
        subst hi
        have ih := count_ok g d s r c S h.2 e (by omega)
        rw [cN__law_count]
        simp [m__law_count, Fm.fA, ih]
      · cases e
  | .pow f n, d + 1, t, i :: r, c, S, h, e, ht => by
    obtain ⟨s, rfl⟩ : ∃ s, t = s + 1 := ⟨t - 1, by omega⟩
    simp only [Fm.at_] at e
    split at e
    · have ih := count_ok f d s r c S h.1 e (by omega)
      rw [cN__law_count]
      simp [m__law_count, Fm.fA, ih]
    · cases e
  | .opt _, _, _, _ :: _, _, _, _, e, _ => nomatch e
  | .endl _, _, _, [], _, _, _, e, _ => nomatch e
  | .pair _ _, _, _, [], _, _, _, e, _ => nomatch e
  | .pow _ _, _, _, [], _, _, _, e, _ => nomatch e
  | .endl _, 0, _, _ :: _, _, _, h, _, _ => h.elim
  | .pair _ _, 0, _, _ :: _, _, _, h, _, _ => h.elim
  | .pow _ _, 0, _, _ :: _, _, _, h, _, _ => h.elim
end FL

/-! ## Q6t: there -/
namespace FL
open PySem L2
theorem there_ok : ∀ (f : Fm) (d t : Nat) (p : List Int) (S : Sto), f.Ok 9 d → d + 1 ≤ t → cN t k__law_there [f.fA, pl p] S = .ok (.bl (f.at_ p).isSome) S
  | .opt i, d, t, p, S, h, ht => by
    obtain ⟨s, rfl⟩ : ∃ s, t = s + 1 := ⟨t - 1, by omega⟩
    rw [cN__law_there]
    cases p <;> simp [m__law_there, Fm.fA, Fm.at_]
  | .endl f, d + 1, t, [], S, h, ht => by
    obtain ⟨s, rfl⟩ : ∃ s, t = s + 1 := ⟨t - 1, by omega⟩
    rw [cN__law_there]
    simp [m__law_there, Fm.fA, Fm.at_]
  | .pair f g, d + 1, t, [], S, h, ht => by
    obtain ⟨s, rfl⟩ : ∃ s, t = s + 1 := ⟨t - 1, by omega⟩
    rw [cN__law_there]
    simp [m__law_there, Fm.fA, Fm.at_]
  | .pow f n, d + 1, t, [], S, h, ht => by
    obtain ⟨s, rfl⟩ : ∃ s, t = s + 1 := ⟨t - 1, by omega⟩
    rw [cN__law_there]
    simp [m__law_there, Fm.fA, Fm.at_]
  | .endl f, d + 1, t, i :: r, S, h, ht => by
    obtain ⟨s, rfl⟩ : ∃ s, t = s + 1 := ⟨t - 1, by omega⟩
    have ih := there_ok f d s r S h (by omega)
    rw [cN__law_there]
    by_cases hi : 0 ≤ i
    · have hi' : ¬ i < 0 := by omega
      simp [m__law_there, Fm.fA, Fm.at_, hi, hi', ih]
    · have hi' : i < 0 := by omega
      simp [m__law_there, Fm.fA, Fm.at_, hi, hi']
  | .pair f g, d + 1, t, i :: r, S, h, ht => by
    obtain ⟨s, rfl⟩ : ∃ s, t = s + 1 := ⟨t - 1, by omega⟩
    have ih := there_ok f d s r S h.1 (by omega)
    have ih' := there_ok g d s r S h.2 (by omega)
    rw [cN__law_there]
    by_cases h0 : i = 0
    · subst h0
      simp [m__law_there, Fm.fA, Fm.at_, ih]
    · by_cases h1 : i = 1
      · subst h1
        simp [m__law_there, Fm.fA, Fm.at_, ih']
      · by_cases hi : i < 0
        · simp [m__law_there, Fm.fA, Fm.at_, hi, h0, h1]
        · have h2 : ¬ i < 2 := by omega
          simp [m__law_there, Fm.fA, Fm.at_, hi, h0, h1, h2]
  | .pow f n, d + 1, t, i :: r, S, h, ht => by
    obtain ⟨s, rfl⟩ : ∃ s, t = s + 1 := ⟨t - 1, by omega⟩
    have ih := there_ok f d s r S h.1 (by omega)
    rw [cN__law_there]
    by_cases hi : 0 ≤ i
    · have hi' : ¬ i < 0 := by omega
      by_cases hn : i < n
      · simp [m__law_there, Fm.fA, Fm.at_, hi, hi', hn, ih]
      · simp [m__law_there, Fm.fA, Fm.at_, hi, hi', hn]
    · have hi' : i < 0 := by omega
      simp [m__law_there, Fm.fA, Fm.at_, hi, hi']
  | .endl _, 0, _, _, _, h, _ => h.elim
  | .pair _ _, 0, _, _, _, h, _ => h.elim
  | .pow _ _, 0, _, _, _, h, _ => h.elim
end FL

/-! ## Q7: the methods of free spaces -/
namespace FL
open PySem L2
def opart (r : Option Fm) : A := match r with
  | some g => g.o
  | none => .non
@[simp] theorem o_isA (f : Fm) : isA f.o = false := by cases f <;> rfl
theorem o_obj (f : Fm) : ∃ C fs, f.o = .obj C fs := by cases f <;> exact ⟨_, _, rfl⟩
/-- the parted kinds -/
def Fm.prt : Fm → Bool
  | opt _ => false
  | _ => true
theorem mc_part (f : Fm) (C : Nat → List A → M A) (k : M (List A)) (S : Sto) : mcall (mt C) "part" f.o k S = bnd k (fun as => methM (mt C) "part" f.o as) S := by
  cases f <;> simp [Fm.o, methM]
theorem part_m {t : Nat} (ht : 2 ≤ t) (f : Fm) (i : Int) (S : Sto) : methM (mt (cN t)) "part" f.o [.int i] S = .ok (opart (f.part i)) S := by
  obtain ⟨s, rfl⟩ : ∃ s, t = s + 1 := ⟨t - 1, by omega⟩
  have z := isint_ok (t := s) (by omega) i S
  cases f with
  | opt n => simp [methM, Fm.o, cN_Space_part, m_Space_part, Fm.part, opart]
  | endl f =>
    by_cases h : 0 ≤ i <;> simp [methM, Fm.o, cN_Endless_part, m_Endless_part, Fm.part, opart, z, h]
  | pair f g =>
    have e : inM true (.int i) (.tup [.int 0, .int 1]) S = .ok (.bl (decide (i = 0 ∨ i = 1) != true)) S := by
      show Rs.ok (A.bl (inV (.int i) [.int 0, .int 1] != true)) S = _
      have e2 : inV (.int i) [.int 0, .int 1] = decide (i = 0 ∨ i = 1) := by
        show ((decide ((0 : Int) = i)) || ((decide ((1 : Int) = i)) || false)) = _
        by_cases h0 : i = 0
        · subst h0; rfl
        · by_cases h1 : i = 1
          · subst h1; rfl
          · have h0' : ¬ 0 = i := fun z => h0 z.symm
            have h1' : ¬ 1 = i := fun z => h1 z.symm
            simp [h0, h1, h0', h1']
      rw [e2]
    by_cases h0 : i = 0
    · subst h0
      simp [methM, Fm.o, cN_Pair_part, m_Pair_part, Fm.part, opart, z, e]
    · by_cases h1 : i = 1
      · subst h1
        simp [methM, Fm.o, cN_Pair_part, m_Pair_part, Fm.part, opart, z, e]
      · simp [methM, Fm.o, cN_Pair_part, m_Pair_part, Fm.part, opart, z, e, h0, h1]
  | pow f n =>
    by_cases h : 0 ≤ i
    · by_cases h2 : i < n <;> simp [methM, Fm.o, cN_Power_part, m_Power_part, Fm.part, opart, z, h, h2]
    · simp [methM, Fm.o, cN_Power_part, m_Power_part, Fm.part, opart, z, h]
end FL

/-! ## Q9: the law's own sameness -/
namespace FL
open PySem L2
inductive Dv : Nat → A → Prop
  | int {n : Nat} {i : Int} : Dv n (.int i)
  | bl {n : Nat} {b : Bool} : Dv n (.bl b)
  | str {n : Nat} {x : Str} : Dv n (.str x)
  | non {n : Nat} : Dv n .non
  | tup {n : Nat} {xs : List A} : (∀ x ∈ xs, Dv n x) → xs.length < 100000 → Dv (n + 1) (.tup xs)
  | fl {n : Nat} {xs : List A} : (∀ x ∈ xs, Dv n x) → xs.length < 100000 → Dv (n + 1) (.fl xs)
theorem lock_tup {i : Nat} {ρ : Lo} {S : Sto} {m : SM} {xs : List A} (h : ρ[i]? = some (some (.tup xs))) : lockS i m ρ S = m ρ S := by
  unfold lockS
  simp only [h]
theorem lock_fl {i : Nat} {ρ : Lo} {S : Sto} {m : SM} {xs : List A} (h : ρ[i]? = some (some (.fl xs))) : lockS i m ρ S = m ρ S := by
  unfold lockS
  simp only [h]
theorem zip_fs (ps : List (A × A)) : zipT (ps.map Prod.fst) (ps.map Prod.snd) = ps.map fun q => .tup [q.1, q.2] := by
  unfold zipT
  rw [List.zip_map']
  simp
theorem bls_true {γ : Type} (hs : List γ) : blsOf (hs.map fun _ => A.bl true) = some (hs.map fun _ => true) := by
  induction hs with
  | nil => rfl
  | cons a r ih =>
    show (blsOf (r.map fun _ => A.bl true)).map (true :: ·) = _
    rw [ih] <;> rfl
theorem allF_t {γ : Type} (hs : List γ) : allF (hs.map fun _ => true) = true := by
  simp [allF]
theorem eqNon (neg : Bool) (S : Sto) : eqM neg .non .non S = .ok (.bl (true != neg)) S := by
  show (if scal .non .non = true then Rs.ok (A.bl (decide (V.non = V.non) != neg)) S else .no) = _
  have e : scal .non .non = true := rfl
  rw [if_pos e] <;> simp
/-- tuples item by item -/
theorem same_tup {t : Nat} {S : Sto} (ps : List (A × A)) (hl : ps.length < 100000) (h : ∀ q ∈ ps, cN t k__law_same [q.1, q.2] S = .ok (.bl true) S) : cN (t + 1) k__law_same [.tup (ps.map Prod.fst), .tup (ps.map Prod.snd)] S = .ok (.bl true) S := by
  have e1 : ∀ x2 x3, lcE false (asgT [asgN 2, asgN 3]) (zipE (consA (vr 0) (consA (vr 1) nilA))) yesT (callE (cN t k__law_same) (consA (vr 2) (consA (vr 3) nilA))) [2, 3] [some (.tup (ps.map Prod.fst)), some (.tup (ps.map Prod.snd)), x2, x3] S = .ok (.fl (ps.map fun _ => .bl true)) S := fun x2 x3 => by
    rw [lcE_ofM (fun q : A × A => A.tup [q.1, q.2]) ps (fun _ => .bl true) (S' := S) ?_ hl ?_, x_putF]
    · show bnd _ _ S = _
      simp [zipW, tupW, zip_fs]
    · intro q hq
      refine ⟨_, rfl, ?_⟩
      simp [h q hq]
  have e2 : ∀ (i : Nat) (m : SM) (x2 x3 : Option A), i < 2 → lockS i m [some (.tup (ps.map Prod.fst)), some (.tup (ps.map Prod.snd)), x2, x3] S = m [some (.tup (ps.map Prod.fst)), some (.tup (ps.map Prod.snd)), x2, x3] S := fun i m x2 x3 hi => by
    have : i = 0 ∨ i = 1 := by omega
    rcases this with rfl | rfl
    · exact lock_tup rfl
    · exact lock_tup rfl
  rw [cN__law_same]
  simp [m__law_same, e2, e1, bls_true, allF_t]
theorem same_fl {t : Nat} {S : Sto} (ps : List (A × A)) (hl : ps.length < 100000) (h : ∀ q ∈ ps, cN t k__law_same [q.1, q.2] S = .ok (.bl true) S) : cN (t + 1) k__law_same [.fl (ps.map Prod.fst), .fl (ps.map Prod.snd)] S = .ok (.bl true) S := by
  have e1 : ∀ x2 x3, lcE false (asgT [asgN 2, asgN 3]) (zipE (consA (vr 0) (consA (vr 1) nilA))) yesT (callE (cN t k__law_same) (consA (vr 2) (consA (vr 3) nilA))) [2, 3] [some (.fl (ps.map Prod.fst)), some (.fl (ps.map Prod.snd)), x2, x3] S = .ok (.fl (ps.map fun _ => .bl true)) S := fun x2 x3 => by
    rw [lcE_ofM (fun q : A × A => A.tup [q.1, q.2]) ps (fun _ => .bl true) (S' := S) ?_ hl ?_, x_putF]
    · show bnd _ _ S = _
      simp [zipW, tupW, lstW, zip_fs]
    · intro q hq
      refine ⟨_, rfl, ?_⟩
      simp [h q hq]
  have e2 : ∀ (i : Nat) (m : SM) (x2 x3 : Option A), i < 2 → lockS i m [some (.fl (ps.map Prod.fst)), some (.fl (ps.map Prod.snd)), x2, x3] S = m [some (.fl (ps.map Prod.fst)), some (.fl (ps.map Prod.snd)), x2, x3] S := fun i m x2 x3 hi => by
    have : i = 0 ∨ i = 1 := by omega
    rcases this with rfl | rfl
    · exact lock_fl rfl
    · exact lock_fl rfl
  rw [cN__law_same]
  simp [m__law_same, e2, e1, bls_true, allF_t]
/-- a list of the store against one by value -/
theorem same_ref {t : Nat} {S : Sto} {k : Nat} (ps : List (A × A)) (hk : S[k]? = some (.lst (ps.map Prod.fst))) (hl : ps.length < 100000) (h : ∀ q ∈ ps, ∀ S, cN t k__law_same [q.1, q.2] S = .ok (.bl true) S) : cN (t + 1) k__law_same [.ref k, .fl (ps.map Prod.snd)] S = .ok (.bl true) S := by
  have hkl : k < S.length := (List.getElem?_eq_some_iff.mp hk).1
  have hs : (S.set k (.llst (ps.map Prod.fst)))[k]? = some (.llst (ps.map Prod.fst)) := List.getElem?_set_self hkl
  have e1 : ∀ x2 x3, lcE false (asgT [asgN 2, asgN 3]) (zipE (consA (vr 0) (consA (vr 1) nilA))) yesT (callE (cN t k__law_same) (consA (vr 2) (consA (vr 3) nilA))) [2, 3] [some (.ref k), some (.fl (ps.map Prod.snd)), x2, x3] (S.set k (.llst (ps.map Prod.fst))) = .ok (.fl (ps.map fun _ => .bl true)) (S.set k (.llst (ps.map Prod.fst))) := fun x2 x3 => by
    rw [lcE_ofM (fun q : A × A => A.tup [q.1, q.2]) ps (fun _ => .bl true) (S' := S.set k (.llst (ps.map Prod.fst))) ?_ hl ?_, x_putF]
    · show bnd _ _ _ = _
      simp [-List.getElem?_set, zipW, tupW, lstW, hs, zip_fs]
    · intro q hq
      refine ⟨_, rfl, ?_⟩
      simp [h q hq]
  have e2 : ∀ (m : SM) (x2 x3 : Option A), lockS 0 m [some (.ref k), some (.fl (ps.map Prod.snd)), x2, x3] S = unlO k (ps.map Prod.fst) (m [some (.ref k), some (.fl (ps.map Prod.snd)), x2, x3] (S.set k (.llst (ps.map Prod.fst)))) := fun m x2 x3 => lock_lst rfl hk
  have e3 : ∀ (m : SM) (x2 x3 : Option A), lockS 1 m [some (.ref k), some (.fl (ps.map Prod.snd)), x2, x3] S = m [some (.ref k), some (.fl (ps.map Prod.snd)), x2, x3] S := fun m x2 x3 => lock_fl rfl
  have e4 : S.set k (.lst (ps.map Prod.fst)) = S := by
    apply List.ext_getElem?
    intro j
    by_cases hj : k = j
    · subst hj; rw [List.getElem?_set_self hkl, hk]
    · rw [List.getElem?_set_ne hj]
  rw [cN__law_same]
  simp [m__law_same, tyL hk, e2, e3, lenLk hs, e1, bls_true, allF_t, e4]
theorem fst_dup (xs : List A) : (xs.map fun x => (x, x)).map Prod.fst = xs := by
  rw [List.map_map]
  exact List.map_id xs
theorem snd_dup (xs : List A) : (xs.map fun x => (x, x)).map Prod.snd = xs := by
  rw [List.map_map]
  exact List.map_id xs
theorem same_refl : ∀ (n t : Nat) (v : A) (S : Sto), Dv n v → n + 1 ≤ t → cN t k__law_same [v, v] S = .ok (.bl true) S := by
  intro n
  induction n with
  | zero =>
    intro t v S h ht
    obtain ⟨s, rfl⟩ : ∃ s, t = s + 1 := ⟨t - 1, by omega⟩
    rw [cN__law_same]
    cases h <;> simp [m__law_same, eqNon]
  | succ n ih =>
    intro t v S h ht
    obtain ⟨s, rfl⟩ : ∃ s, t = s + 1 := ⟨t - 1, by omega⟩
    cases h with
    | @tup _ xs h hl =>
      have := same_tup (t := s) (S := S) (xs.map fun x => (x, x)) (by simpa using hl) (fun q hq => by
        obtain ⟨x, hx, rfl⟩ := List.mem_map.mp hq
        exact ih s x S (h x hx) (by omega))
      rw [fst_dup, snd_dup] at this
      exact this
    | @fl _ xs h hl =>
      have := same_fl (t := s) (S := S) (xs.map fun x => (x, x)) (by simpa using hl) (fun q hq => by
        obtain ⟨x, hx, rfl⟩ := List.mem_map.mp hq
        exact ih s x S (h x hx) (by omega))
      rw [fst_dup, snd_dup] at this
      exact this
    | _ =>
      rw [cN__law_same]
      simp [m__law_same, eqNon]
theorem Dv.mono {n m : Nat} {v : A} (h : Dv n v) (l : n ≤ m) : Dv m v := by
  induction n generalizing m v with
  | zero => cases h <;> constructor
  | succ n ih =>
    obtain ⟨m, rfl⟩ : ∃ m', m = m' + 1 := ⟨m - 1, by omega⟩
    cases h with
    | tup h hl => exact .tup (fun x hx => ih (h x hx) (by omega)) hl
    | fl h hl => exact .fl (fun x hx => ih (h x hx) (by omega)) hl
    | _ => constructor
theorem Dv.pl (p : List Int) (h : p.length < 100000) : Dv 1 (pl p) := .tup (fun x hx => by
  obtain ⟨i, _, rfl⟩ := List.mem_map.mp hx
  exact .int) (by simpa using h)
end FL

/-! ## Q12: comprehensions that draw; places; answers of a model -/
namespace FL
open PySem L2
/-- each item draws at most c times -/
theorem lcL_draw {γ : Type} {t : Tg} {me : Lo → M A} {ρ : Lo} {k : Nat} {c : Int} (hc : 0 ≤ c) (F : γ → A) (P : γ → A → Prop) : ∀ (xs : List γ) (S : Sto) (n : Int), DwS S k n → n + c * xs.length < 900000 → (∀ x ∈ xs, ∀ (S : Sto) (n : Int), DwS S k n → n < 900000 → ∃ ρ1, t (F x) ρ = some ρ1 ∧ ∃ b S', P x b ∧ DwT k (n + c) S S' ∧ me ρ1 S = .ok b S') →
    ∃ bs S', bs.length = xs.length ∧ (∀ (i : Nat) (x : γ) (b : A), xs[i]? = some x → bs[i]? = some b → P x b) ∧ DwT k (n + c * xs.length) S S' ∧ lcL t yesT me ρ (xs.map F) S = .ok bs S'
  | [], S, n, hd, _, _ => ⟨[], S, rfl, fun i x b h => by simp at h, hd.refl.mono (by simp), rfl⟩
  | a :: r, S, n, hd, hn, h => by
    have hl : ((a :: r).length : Int) = (r.length : Int) + 1 := by simp
    have hr : (0 : Int) ≤ c * r.length := Int.mul_nonneg hc (by omega)
    rw [hl, Int.mul_add, Int.mul_one] at hn
    obtain ⟨ρ1, e1, b, S1, p1, d1, e2⟩ := h a (List.mem_cons_self ..) S n hd (by omega)
    obtain ⟨bs, S2, l2, p2, d2, e3⟩ := lcL_draw hc F P r S1 (n + c) d1.dw (by omega) fun x hx => h x (List.mem_cons_of_mem _ hx)
    refine ⟨b :: bs, S2, by simp [l2], fun i x y h1 h2 => ?_, (d1.trans d2).mono (by rw [hl, Int.mul_add, Int.mul_one]; omega), ?_⟩
    · cases i with
      | zero => simp at h1 h2; subst h1 h2; exact p1
      | succ i => exact p2 i x y (by simpa using h1) (by simpa using h2)
    · show (match t (F a) ρ with
        | none => fail
        | some ρ1 => bnd (yesT ρ1) fun b => if b = true then bnd (me ρ1) fun y => bnd (lcL t yesT me ρ (r.map F)) fun ys => ret (y :: ys) else lcL t yesT me ρ (r.map F)) S = _
      simp [e1, e2, e3]
theorem lcE_draw {γ : Type} {t : Tg} {mi : Lo → M (List A)} {me : Lo → M A} {vs : List Nat} {ρ : Lo} {k : Nat} {c n : Int} {S S0 : Sto} (hc : 0 ≤ c) (F : γ → A) (P : γ → A → Prop) (xs : List γ) (hi : mi ρ S0 = .ok (xs.map F) S) (hl : xs.length < 100000) (hd : DwS S k n) (hn : n + c * xs.length < 900000) (h : ∀ x ∈ xs, ∀ (S : Sto) (n : Int), DwS S k n → n < 900000 → ∃ ρ1, t (F x) (wipeA ρ vs) = some ρ1 ∧ ∃ b S', P x b ∧ DwT k (n + c) S S' ∧ me ρ1 S = .ok b S') :
    ∃ bs S', bs.length = xs.length ∧ (∀ (i : Nat) (x : γ) (b : A), xs[i]? = some x → bs[i]? = some b → P x b) ∧ DwT k (n + c * xs.length) S S' ∧ lcE false t mi yesT me vs ρ S0 = .ok (.fl bs) S' := by
  obtain ⟨bs, S', h1, h2, h3, h4⟩ := lcL_draw hc F P xs S n hd hn h
  refine ⟨bs, S', h1, h2, h3, ?_⟩
  unfold lcE
  simp [hi, hl, noex, h4]
theorem mem_upP {q : List Int} : ∀ (ps row : List (List Int)), q ∈ upP row ps → q ∈ row ∨ q ∈ ps
  | [], row, h => .inl h
  | p :: r, row, h => by
    have h : q ∈ upP (if p ∈ row then row else insP row p) r := h
    rcases mem_upP r _ h with z | z
    · split at z
      · exact .inl z
      · rcases mem_insP.mp z with rfl | z
        · exact .inr (List.mem_cons_self ..)
        · exact .inl z
    · exact .inr (List.mem_cons_of_mem _ z)
theorem len_upP : ∀ (ps row : List (List Int)), (upP row ps).length ≤ row.length + ps.length
  | [], row => by simp [upP]
  | p :: r, row => by
    have := len_upP r (if p ∈ row then row else insP row p)
    have e : upP row (p :: r) = upP (if p ∈ row then row else insP row p) r := rfl
    rw [e]
    have : (if p ∈ row then row else insP row p).length ≤ row.length + 1 := by
      split
      · omega
      · rw [len_insP]; omega
    simp
    omega
theorem opls : ∀ (bs : List A), (∀ b ∈ bs, ∃ r, b = opl r) → ∃ rs : List (Option (List Int)), bs = rs.map opl
  | [], _ => ⟨[], rfl⟩
  | b :: t, h => by
    obtain ⟨r, rfl⟩ := h b (List.mem_cons_self ..)
    obtain ⟨rs, rfl⟩ := opls t fun x hx => h x (List.mem_cons_of_mem _ hx)
    exact ⟨r :: rs, rfl⟩
theorem fm_opl (rs : List (Option (List Int))) : rs.filterMap (fun r => r.map pl) = pls (rs.filterMap id) := by
  induction rs with
  | nil => rfl
  | cons a r ih =>
    cases a with
    | none => simpa [List.filterMap_cons] using ih
    | some p => simp [List.filterMap_cons, pls] at ih ⊢; exact ih
theorem small_10 {i : Int} (h0 : 0 ≤ i) (h1 : i ≤ 100) : small i := ⟨by omega, by omega⟩
/-- places drawn: ascending, each there -/
theorem places_ok {t d : Nat} {f : Fm} {S : Sto} {k : Nat} {n : Int} (j : Int) (j0 : 0 ≤ j) (hm : j ≤ 10) (hf : f.Ok 9 d) (hd4 : d ≤ 4) (hd : DwS S k n) (hn : n + 3000 < 900000) (ht : d + 4 ≤ t) : ∃ (L : List (List Int)) (S' : Sto), (∀ p ∈ L, ∃ c, f.at_ p = some c) ∧ (f.emp = true → L = []) ∧ (L.length : Int) ≤ j ∧ DwT k (n + 2500) S S' ∧ cN t k__law_places [.ref k, f.fA, .int j] S = .ok (.fl (pls L)) S' := by
  obtain ⟨s, rfl⟩ : ∃ s, t = s + 1 := ⟨t - 1, by omega⟩
  have p3 : (3 : Int) ^ (d + 1) ≤ 243 := by
    have : d = 0 ∨ d = 1 ∨ d = 2 ∨ d = 3 ∨ d = 4 := by omega
    rcases this with rfl | rfl | rfl | rfl | rfl <;> decide
  have hsm : small j := small_10 j0 (by omega)
  have hjt : (j.toNat : Int) = j := Int.toNat_of_nonneg j0
  obtain ⟨bs, S1, l1, q1, d1, e1⟩ := lcE_draw (t := asgN 4) (mi := rng1 (consA (vr 2) nilA)) (me := callE (cN s k__law_place) (consA (vr 0) (consA (vr 1) nilA))) (vs := [4]) (ρ := [some (.ref k), some f.fA, some (.int j), none, none, none]) (k := k) (c := 243) (n := n) (S := S) (S0 := S) (by decide) (fun (i : Nat) => A.int (0 + (i : Int))) (fun _ b => ∃ r, b = opl r ∧ (∀ p, r = some p → ∃ c, f.at_ p = some c) ∧ (r = none ↔ f.emp = true)) (List.range j.toNat) (by simp [hsm, rngL]) (by simp; omega) hd (by simp; omega) (fun i hi S n hd hn => by
    obtain ⟨r, S', h1, h2, h3, h4⟩ := place_ok f d s S k n hf (by omega) hd (by omega) (by omega)
    exact ⟨_, rfl, opl r, S', ⟨r, rfl, h1, h2⟩, h3.mono (by omega), by simp [h4]⟩)
  simp at l1
  have hb : ∀ b ∈ bs, ∃ r, b = opl r ∧ (∀ p, r = some p → ∃ c, f.at_ p = some c) ∧ (r = none ↔ f.emp = true) := fun b hb => by
    obtain ⟨i, hi⟩ := List.mem_iff_getElem?.mp hb
    have hil := (List.getElem?_eq_some_iff.mp hi).1
    exact q1 i i b (by rw [List.getElem?_range (by omega)]) hi
  obtain ⟨rs, rfl⟩ := opls bs fun b hb' => by
    obtain ⟨r, h, _⟩ := hb b hb'
    exact ⟨r, h⟩
  have hr : ∀ r ∈ rs, (∀ p, r = some p → ∃ c, f.at_ p = some c) ∧ (r = none ↔ f.emp = true) := fun r hr => by
    obtain ⟨r', h1, h2, h3⟩ := hb (opl r) (List.mem_map_of_mem hr)
    have : r = r' := by
      cases r with
      | none => cases r' with
        | none => rfl
        | some p => cases h1
      | some p => cases r' with
        | none => cases h1
        | some p' => rw [pl_inj h1]
    subst this
    exact ⟨h2, h3⟩
  simp at l1
  have e2 : ∀ x3 x4 x5, lcE false (asgN 5) (itE (vr 3)) (tst (op2 (isM true) (vr 5) (cst .non))) (vr 5) [5] [x3, x4, some (.int j), some (.fl (rs.map opl)), none, x5] S1 = .ok (.fl (pls (rs.filterMap id))) S1 := fun x3 x4 x5 => by
    rw [lcE_of opl rs (fun r => r.map pl) (S' := S1) ?_ (by omega) ?_, x_putF]
    · have e : rs.filterMap (fun r => r.map pl) = pls (rs.filterMap id) := fm_opl rs
      rw [e]
    · simp
    · intro r hr'
      refine ⟨_, rfl, ?_⟩
      cases r with
      | none => exact .inl ⟨rfl, by simp [opl]⟩
      | some p => exact .inr ⟨pl p, rfl, by simp [opl], by simp [opl]⟩
  have hlen : (rs.filterMap id).length ≤ j.toNat := by
    have := List.length_filterMap_le id rs
    omega
  have e3 := up_ok (t := s) (by omega) (rs.filterMap id) (by omega) S1
  refine ⟨upP [] (rs.filterMap id), S1, fun p hp => ?_, fun he => ?_, ?_, d1.mono (by simp; omega), ?_⟩
  · rcases mem_upP _ _ hp with z | z
    · cases z
    · obtain ⟨r, h1, h2⟩ := List.mem_filterMap.mp z
      exact (hr r h1).1 p h2
  · have : rs.filterMap id = [] := by
      rw [List.filterMap_eq_nil_iff]
      intro r hr'
      exact ((hr r hr').2.mpr he)
    rw [this]
    rfl
  · have := len_upP (rs.filterMap id) []
    simp at this
    omega
  · rw [cN__law_places]
    simp [-x_rng1, m__law_places, e1, e2, e3, d1.trim]
theorem pls_snoc' (L : List (List Int)) (p : List Int) : pls L ++ [pl p] = pls (L ++ [p]) := by simp [pls]
/-! ### the answers of a model -/
def idxP (p : List Int) : List (List Int) → Option Nat
  | [] => none
  | q :: r => if q = p then some 0 else (idxP p r).map (· + 1)
theorem idxP_some {p : List Int} : ∀ {L : List (List Int)} {i : Nat}, idxP p L = some i → L[i]? = some p
  | q :: r, i, h => by
    unfold idxP at h
    split at h
    · rename_i e; cases h; subst e; rfl
    · obtain ⟨j, h1, rfl⟩ := Option.map_eq_some_iff.mp h
      simpa using idxP_some h1
theorem idxP_mem {p : List Int} : ∀ {L : List (List Int)}, p ∈ L → ∃ i, idxP p L = some i
  | q :: r, h => by
    unfold idxP
    by_cases e : q = p
    · exact ⟨0, by rw [if_pos e]⟩
    · rcases List.mem_cons.mp h with h | h
      · exact absurd h.symm e
      · obtain ⟨i, hi⟩ := idxP_mem h
        exact ⟨i + 1, by rw [if_neg e, hi]; rfl⟩
theorem idxD_pls (p : List Int) : ∀ L : List (List Int), idxD (.tuple (p.map PyData.int)) (L.map fun p => PyData.tuple (p.map PyData.int)) = idxP p L
  | [] => rfl
  | q :: r => by
    show (if PyData.eqv (.tuple (q.map PyData.int)) (.tuple (p.map PyData.int)) = true then some 0 else (idxD _ (r.map fun p => PyData.tuple (p.map PyData.int))).map (· + 1)) = _
    rw [idxD_pls p r]
    show _ = (if q = p then some 0 else (idxP p r).map (· + 1))
    simp only [PyData.eqv, eqv_ints, decide_eq_true_eq]
theorem ind_pls (L : List (List Int)) (p : List Int) (S : Sto) : indD (.fl (pls L)) [pl p] S = match idxP p L with
    | some j => .ok (.int j) S
    | none => .no := by
  show (match datS S (.fl (pls L)), dat (pl p) with
    | some (.list ds), some d => if SeqAt.shaped (.list ds) = true ∧ SeqAt.shaped d = true then match idxD d ds with
        | some j => Rs.ok (A.int j) S
        | none => .no
      else .no
    | _, _ => .no) = _
  have e : datS S (.fl (pls L)) = some (.list (L.map fun p => PyData.tuple (p.map PyData.int))) := by
    show (dats (pls L)).map PyData.list = _
    rw [dats_pls] <;> rfl
  rw [e, dat_pl]
  simp only [shaped_pls, shaped_pl, idxD_pls, and_self, if_true]
  all_goals rfl
/-- the answer of the model at a place -/
def atP (L : List (List Int)) (V : List Int) (p : List Int) : Int := match idxP p L with
  | some i => V.getD i 0
  | none => 0
theorem at_ok {t : Nat} (ht : 1 ≤ t) (L : List (List Int)) (V : List Int) (hl : V.length = L.length) (p : List Int) (S : Sto) : cN t k__law_at [.fl (pls L), .fl (V.map A.int), pl p] S = .ok (.int (atP L V p)) S := by
  obtain ⟨s, rfl⟩ : ∃ s, t = s + 1 := ⟨t - 1, by omega⟩
  rw [cN__law_at]
  by_cases hm : p ∈ L
  · obtain ⟨i, hi⟩ := idxP_mem hm
    have hil : i < V.length := by rw [hl]; exact (List.getElem?_eq_some_iff.mp (idxP_some hi)).1
    have g : getAt (V.map A.int) (i : Int) = some (.int V[i]) := getAt_nat (by simp [hil])
    have ea : atP L V p = V[i] := by simp [atP, hi, hil]
    simp [m__law_at, inF_pls, hm, ind_pls, hi, g, ea]
  · have hi : idxP p L = none := by
      cases e : idxP p L with
      | none => rfl
      | some i => exact absurd (List.mem_of_getElem? (idxP_some e)) hm
    have ea : atP L V p = 0 := by simp [atP, hi]
    simp [m__law_at, inF_pls, hm, ea]
theorem at_range {f : Fm} {d : Nat} {L : List (List Int)} {V : List Int} (hf : f.Ok 9 d) (hl : V.length = L.length) (h : ∀ (i : Nat) (p : List Int) (v c : Int), L[i]? = some p → V[i]? = some v → f.at_ p = some c → 0 ≤ v ∧ v < c) {p : List Int} {c : Int} (hc : f.at_ p = some c) : 0 ≤ atP L V p ∧ atP L V p < c := by
  unfold atP
  cases e : idxP p L with
  | none => have := (Fm.at_len hf hc).2; simp; omega
  | some i =>
    have hi := idxP_some e
    have hil : i < V.length := by rw [hl]; exact (List.getElem?_eq_some_iff.mp hi).1
    have := h i p V[i] c hi (List.getElem?_eq_getElem hil) hc
    simpa [hil] using this
end FL

/-! ## Q13: things of free spaces -/
namespace FL
open PySem L2
/-- a thing, or a part of one -/
def th (f : Fm) (k : Nat) (p : List Int) : A := .obj "Thing" [("space", f.o), ("source", .ref k), ("place", pl p)]
@[simp] theorem th_space (f : Fm) (k : Nat) (p : List Int) (S : Sto) : fldM at_ "space" (th f k p) S = .ok f.o S := by simp [th]
@[simp] theorem th_source (f : Fm) (k : Nat) (p : List Int) (S : Sto) : fldM at_ "source" (th f k p) S = .ok (.ref k) S := by simp [th]
@[simp] theorem th_place (f : Fm) (k : Nat) (p : List Int) (S : Sto) : fldM at_ "place" (th f k p) S = .ok (pl p) S := by simp [th]
@[simp] theorem th_isA (f : Fm) (k : Nat) (p : List Int) : isA (th f k p) = false := rfl
theorem th_bel (f : Fm) {k : Nat} (p : List Int) {n : Nat} (h : k < n) : (th f k p).bel n = true := by simp [th, h]
theorem mc_bare (f : Fm) (C : Nat → List A → M A) (k : M (List A)) (S : Sto) : mcall (mt C) "bare" f.o k S = bnd k (fun as => C k_Space_bare (f.o :: as)) S := by
  cases f <;> simp [Fm.o]
theorem bare_ok {t : Nat} (ht : 1 ≤ t) (f : Fm) (S : Sto) : cN t k_Space_bare [f.o] S = .ok f.o S := by
  obtain ⟨s, rfl⟩ : ∃ s, t = s + 1 := ⟨t - 1, by omega⟩
  rw [cN_Space_bare]
  simp [m_Space_bare]
theorem thing_mk {t : Nat} (ht : 1 ≤ t) (f : Fm) {k : Nat} (p : List Int) {S : Sto} (hk : k < S.length) : mkM true "Thing" (cN t k_Thing___init__) [f.o, .ref k, pl p] S = .ok (th f k p) S := by
  obtain ⟨s, rfl⟩ : ∃ s, t = s + 1 := ⟨t - 1, by omega⟩
  refine mk_ok ?_ (by simp [hk])
  rw [cN_Thing___init__]
  have hk' : k < S.length + 1 := by omega
  simp [m_Thing___init__, trim_last, hk']
theorem mc_at (f : Fm) (j : Nat) (p : List Int) (C : Nat → List A → M A) (k : M (List A)) (S : Sto) : mcall (mt C) "at" (th f j p) k S = bnd k (fun as => C k_Thing_at (th f j p :: as)) S := by
  simp [th]
theorem mc_look (f : Fm) (j : Nat) (p : List Int) (C : Nat → List A → M A) (k : M (List A)) (S : Sto) : mcall (mt C) "look" (th f j p) k S = bnd k (fun as => C k_Thing_look (th f j p :: as)) S := by
  simp [th]
theorem tat_ok {t : Nat} (ht : 3 ≤ t) {f g : Fm} {k : Nat} {p : List Int} {i : Int} {S : Sto} (hk : k < S.length) (hp : p.length < 1000) (hg : f.part i = some g) : cN t k_Thing_at [th f k p, .int i] S = .ok (th g k (p ++ [i])) S := by
  obtain ⟨s, rfl⟩ : ∃ s, t = s + 1 := ⟨t - 1, by omega⟩
  have z := part_m (t := s) (by omega) f i S
  rw [hg] at z
  have z2 := thing_mk (t := s) (by omega) g (p ++ [i]) hk
  have l1 : p.length + 1 < 100000 := by omega
  have hb := th_bel g (p ++ [i]) hk
  rw [cN_Thing_at]
  simp [-x_fldM, m_Thing_at, mc_part, z, opart, l1, z2, hb]
theorem tlook_key {t : Nat} (ht : 2 ≤ t) {i : Int} {k : Nat} {p : List Int} {S S' : Sto} {v : A} {C : Str} {fs : List (Str × A)} {F : List A → M A} (hs : S[k]? = some (.sin C fs)) (hF : ms (cN (t - 1)) C "tell" = some F) (h : F [.ref k, pl p, .int i] S = .ok v S') (hv : v.bel S.length = true) : cN t k_Thing_look [th (.opt i) k p] S = .ok v (trim S S') := by
  obtain ⟨s, rfl⟩ : ∃ s, t = s + 1 := ⟨t - 1, by omega⟩
  have hF : ms (cN s) C "tell" = some F := hF
  have z := bare_ok (t := s) (by omega) (.opt i) S
  have z2 : isiM cs sub [(Fm.opt i).o, .glo "Options"] S = .ok (.bl true) S := by simp [Fm.o]
  have z3 : fldM at_ "count" (Fm.opt i).o S = .ok (.int i) S := by simp [Fm.o]
  rw [cN_Thing_look]
  simp [-x_fldM, -x_isiG, m_Thing_look, mc_bare, z, z2, mcallS_sin hs hF, z3, h, hv]
def Fm.tag : Fm → Str
  | opt _ => "options"
  | endl _ => "endless"
  | pair _ _ => "pair"
  | pow _ _ => "power"
theorem fA_ix0 (f : Fm) (S : Sto) : ixM f.fA (.int 0) S = .ok (.str f.tag) S := by cases f <;> simp [Fm.fA, Fm.tag]
theorem tag_no {f : Fm} (h : ∀ i, f ≠ .opt i) : (f.tag = "options") = False := by
  cases f with
  | opt i => exact absurd rfl (h i)
  | endl f => simp [Fm.tag]
  | pair f g => simp [Fm.tag]
  | pow f n => simp [Fm.tag]
end FL

/-! ## Q14: told things: the source, a look -/
namespace FL
open PySem L2
theorem resm_set {g : Nat} {S : Sto} {k : Nat} {o o' : Ob} (h : S[k]? = some o) (ho : ∀ i c, o ≠ .fn i g c) : resm g S ((susp g S).set k o') = S.set k o' := by
  have h0 := resm_susp g S
  have hk : k < S.length := (List.getElem?_eq_some_iff.mp h).1
  apply List.ext_getElem?
  intro j
  have hj := congrArg (fun z => z[j]?) h0
  unfold resm at hj ⊢
  simp only [List.getElem?_mapIdx] at hj ⊢
  by_cases e : k = j
  · subst e
    rw [List.getElem?_set_self (by rw [susp_len]; exact hk), List.getElem?_set_self hk, h]
    show some (resO g (some o) o') = some o'
    congr 1
    cases o with
    | fn i g' c =>
      show (if g' = g then Ob.fn i g' c else o') = o'
      rw [if_neg]
      intro z
      subst z
      exact ho i c rfl
    | _ => rfl
  · rw [List.getElem?_set_ne e, List.getElem?_set_ne e]
    exact hj
theorem susp_lst {g : Nat} {S : Sto} {k : Nat} {xs : List A} (h : S[k]? = some (.lst xs)) : (susp g S)[k]? = some (.lst xs) := by
  unfold susp
  rw [List.getElem?_map, h] <;> rfl
/-- the store of a told thing: log at kl, function at kj, source at ks -/
structure TS (S : Sto) (kl kj ks g : Nat) (L : List (List Int)) (V : List Int) (log : List (List Int)) : Prop where
  hl : S[kl]? = some (.lst (pls log))
  hj : S[kj]? = some (.fn 0 g [.fl (pls L), .ref kl, .fl (V.map A.int)])
  hs : S[ks]? = some (.sin "Told" [("answer", .ref kj)])
  n : log.length < 1000
  v : V.length = L.length
theorem noted_ok {t : Nat} (ht : 2 ≤ t) {S : Sto} {kl : Nat} {L : List (List Int)} {V : List Int} {log : List (List Int)} (hl : S[kl]? = some (.lst (pls log))) (hn : log.length < 1000) (hv : V.length = L.length) (p : List Int) : cN t k__law_noted [.ref kl, .fl (pls L), .fl (V.map A.int), pl p] S = .ok (.int (atP L V p)) (S.set kl (.lst (pls (log ++ [p])))) := by
  obtain ⟨s, rfl⟩ : ∃ s, t = s + 1 := ⟨t - 1, by omega⟩
  have e1 := appL (b := pl p) hl (by simp; omega)
  rw [pls_snoc'] at e1
  have e2 := at_ok (t := s) (by omega) L V hv p (S.set kl (.lst (pls (log ++ [p]))))
  rw [cN__law_noted]
  simp [m__law_noted, lstL' hl, e1, e2, trim_set]
theorem tell_ok {t : Nat} (ht : 5 ≤ t) {S : Sto} {kl kj ks g : Nat} {L : List (List Int)} {V : List Int} {log : List (List Int)} (h : TS S kl kj ks g L V log) (p : List Int) {c : Int} (h0 : 0 ≤ atP L V p) (h1 : atP L V p < c) : cN t k_Told_tell [.ref ks, pl p, .int c] S = .ok (.int (atP L V p)) (S.set kl (.lst (pls (log ++ [p])))) := by
  obtain ⟨s, rfl⟩ : ∃ s, t = s + 1 + 1 := ⟨t - 2, by omega⟩
  have e1 := noted_ok (t := s) (by omega) (susp_lst (g := g) h.hl) h.n h.v p
  have e2 : cN (s + 1) k_lam0 ([pl p] ++ [.fl (pls L), .ref kl, .fl (V.map A.int)]) (susp g S) = .ok (.int (atP L V p)) ((susp g S).set kl (.lst (pls (log ++ [p])))) := by
    rw [cN_lam0]
    simp [l_0, e1]
  have e3 : ∀ x, callV (lf (cN (s + 1))) 3 (consA (vr 1) nilA) [some (.ref ks), some (pl p), some (.int c), some (.ref kj), x] S = .ok (.int (atP L V p)) (S.set kl (.lst (pls (log ++ [p])))) := fun x => by
    rw [callV_at rfl h.hj (lf_0 _)]
    simp only [x_bnd, x_consA, x_vr, x_nilA, x_ret, List.getElem?_cons_succ, List.getElem?_cons_zero]
    rw [lamM1 h.hj, e2]
    simp only [resm_set h.hl fun i c z => by cases z]
  have e4 : slfM sl_ "answer" (.ref ks) S = .ok (.ref kj) S := by rw [slf_at h.hs]; simp
  have e5 := isint_ok (t := s + 1) (by omega) (atP L V p) (S.set kl (.lst (pls (log ++ [p]))))
  rw [cN_Told_tell]
  simp [m_Told_tell, e4, e3, e5, h0, h1, trim_set]
theorem tlook_ok {t : Nat} (ht : 6 ≤ t) {S : Sto} {kl kj ks g : Nat} {L : List (List Int)} {V : List Int} {log : List (List Int)} (h : TS S kl kj ks g L V log) (p : List Int) {c : Int} (h0 : 0 ≤ atP L V p) (h1 : atP L V p < c) : cN t k_Thing_look [th (.opt c) ks p] S = .ok (.int (atP L V p)) (S.set kl (.lst (pls (log ++ [p])))) := by
  have e := tlook_key (t := t) (by omega) (i := c) (p := p) h.hs (F := cN (t - 1) k_Told_tell) rfl (tell_ok (by omega) h p h0 h1) rfl
  rw [trim_set (by simp)] at e
  exact e
/-! ### going down by at alone -/
end FL

/-! ## Q15: told, rows compared -/
namespace FL
open PySem L2
theorem told_ok {t : Nat} (ht : 2 ≤ t) (f : Fm) (j : Nat) (S : Sto) : cN t k_told [f.o, .ref j] S = .ok (th f S.length []) (S ++ [.sin "Told" [("answer", .ref j)]]) := by
  obtain ⟨s, rfl⟩ : ∃ s, t = s + 1 := ⟨t - 1, by omega⟩
  have z := thing_mk (t := s) (by omega) f (k := S.length) [] (S := S ++ [.sin "Told" [("answer", .ref j)]]) (by simp)
  have hb : (th f S.length []).bel S.length = false := by simp [th]
  rw [cN_told]
  simp [m_told, z, hb]
theorem eqvAll_pls' : ∀ ps qs : List (List Int), PyData.eqvAll (ps.map fun p => PyData.tuple (p.map PyData.int)) (qs.map fun p => PyData.tuple (p.map PyData.int)) = decide (ps = qs)
  | [], [] => by simp [PyData.eqvAll]
  | a :: r, [] => by simp [PyData.eqvAll]
  | [], b :: s => by simp [PyData.eqvAll]
  | a :: r, b :: s => by
    have ih := eqvAll_pls' r s
    simp only [List.map_cons, PyData.eqvAll, PyData.eqv, eqv_ints, ih]
    by_cases h : a = b <;> by_cases h' : r = s <;> simp [h, h']
theorem datS_fl (ps : List (List Int)) (S : Sto) : datS S (.fl (pls ps)) = some (.list (ps.map fun p => PyData.tuple (p.map PyData.int))) := by
  show (dats (pls ps)).map PyData.list = _
  rw [dats_pls] <;> rfl
theorem datS_ref {ps : List (List Int)} {S : Sto} {k : Nat} (h : S[k]? = some (.lst (pls ps))) : datS S (.ref k) = some (.list (ps.map fun p => PyData.tuple (p.map PyData.int))) := by
  unfold datS
  simp only [h, dats_pls]
  rfl
theorem eqM_dat {neg : Bool} {a b : A} {S : Sto} {ps qs : List (List Int)} (h0 : flA a = none) (h1 : datS S a = some (.list (ps.map fun p => PyData.tuple (p.map PyData.int)))) (h2 : datS S b = some (.list (qs.map fun p => PyData.tuple (p.map PyData.int)))) : eqM neg a b S = .ok (.bl (decide (ps = qs) != neg)) S := by
  unfold eqM
  simp only [h0, h1, h2, shaped_pls, and_self, if_true, PyData.eqv, eqvAll_pls']
theorem ints_of : ∀ (bs : List A), (∀ b ∈ bs, ∃ v : Int, b = .int v) → ∃ V : List Int, bs = V.map A.int
  | [], _ => ⟨[], rfl⟩
  | b :: t, h => by
    obtain ⟨v, rfl⟩ := h b (List.mem_cons_self ..)
    obtain ⟨V, rfl⟩ := ints_of t fun x hx => h x (List.mem_cons_of_mem _ hx)
    exact ⟨v :: V, rfl⟩
end FL

/-! ## P06: answer_at over things of free spaces -/
namespace FL
open PySem L2
def Fm.isO : Fm → Bool
  | opt _ => true
  | _ => false
theorem o_opt (f : Fm) (S : Sto) : isiM cs sub [f.o, .glo "Options"] S = .ok (.bl f.isO) S := by cases f <;> simp [Fm.o, Fm.isO]
theorem o_either (f : Fm) (S : Sto) : isiM cs sub [f.o, .glo "Either"] S = .ok (.bl false) S := by cases f <;> simp [Fm.o]
theorem o_fan (f : Fm) (S : Sto) : isiM cs sub [f.o, .glo "Fan"] S = .ok (.bl false) S := by cases f <;> simp [Fm.o]
theorem o_order (f : Fm) (S : Sto) : isiM cs sub [f.o, .glo "Order"] S = .ok (.bl false) S := by cases f <;> simp [Fm.o]
theorem o_same (f : Fm) (S : Sto) : isiM cs sub [f.o, .glo "Sameness"] S = .ok (.bl false) S := by cases f <;> simp [Fm.o]
theorem last_told {t : Nat} (ht : 1 ≤ t) {k : Nat} {q P : List Int} {c : Int} {S S' : Sto} {v : A} (h : cN (t - 1) k_Thing_look [th (.opt c) k q] S = .ok v S') (hv : v.bel S.length = true) : cN t k_last_answer [th (.opt c) k q, (Fm.opt c).o, pl [], pl P] S = .ok v (trim S S') := by
  obtain ⟨s, rfl⟩ : ∃ s, t = s + 1 := ⟨t - 1, by omega⟩
  have h : cN s k_Thing_look [th (.opt c) k q] S = .ok v S' := h
  have z := o_opt (.opt c) S
  rw [show (Fm.opt c).isO = true from rfl] at z
  rw [cN_last_answer]
  simp [-x_isiG, m_last_answer, z, mc_look, h, hv]
theorem last_lost {t : Nat} (ht : 1 ≤ t) {k : Nat} {q p P : List Int} {f : Fm} {S : Sto} (h : ∀ c, f = .opt c → p ≠ []) : cN t k_last_answer [th f k q, f.o, pl p, pl P] S = .ex "NoPlace" [("place", pl P)] S := by
  obtain ⟨s, rfl⟩ : ∃ s, t = s + 1 := ⟨t - 1, by omega⟩
  have z := o_opt f S
  rw [cN_last_answer]
  by_cases hf : f.isO = true
  · rw [hf] at z
    have hp : p ≠ [] := by
      cases f <;> first | exact h _ rfl | cases hf
    simp [-x_isiG, m_last_answer, z, o_either, o_fan, o_order, o_same, hp]
  · rw [Bool.not_eq_true] at hf
    rw [hf] at z
    simp [-x_isiG, m_last_answer, z, o_either, o_fan, o_order, o_same]
/-- a turn that goes down -/
theorem ans_down {s : Nat} (hs : 4 ≤ s) {f g : Fm} {k : Nat} {q r P : List Int} {i : Int} {S : Sto} (hk : k < S.length) (hq : q.length < 1000) (hg : f.part i = some g) (x0 x4 x5 : Option A) : b_answer_at_1 (cN s) [x0, some (pl P), some (th f k q), some (pl (i :: r)), x4, x5] S = .nx [x0, some (pl P), some (th g k (q ++ [i])), some (pl r), some f.o, x5] S := by
  have z := bare_ok (t := s) (by omega) f S
  have z2 := part_m (t := s) (by omega) f i S
  rw [hg] at z2
  have z3 := tat_ok (t := s) (by omega) hk hq hg
  have l : (0 : Int) < (r.length : Int) + 1 := by omega
  have io : ∃ C fs, g.o = .obj C fs := o_obj g
  obtain ⟨C, fs, io⟩ := io
  have z4 : isM true g.o .non S = .ok (.bl true) S := by rw [io]; rfl
  simp [-x_fldM, -x_isiG, b_answer_at_1, mc_bare, z, o_either, mc_part, z2, opart, z4, mc_at, z3, l]
/-- the last turn -/
theorem ans_last {s : Nat} (hs : 4 ≤ s) {f : Fm} {k : Nat} {q p P : List Int} {S : Sto} (hp : p = [] ∨ ∃ i r, p = i :: r ∧ f.part i = none) (x0 x4 x5 : Option A) : b_answer_at_1 (cN s) [x0, some (pl P), some (th f k q), some (pl p), x4, x5] S = (match cN s k_last_answer [th f k q, f.o, pl p, pl P] S with
    | .ok v S' => .rt v S'
    | .ex C fs S' => .ex C fs [x0, some (pl P), some (th f k q), some (pl p), some f.o, x5] S'
    | .no => .no) := by
  have z := bare_ok (t := s) (by omega) f S
  rcases hp with rfl | ⟨i, r, rfl, hg⟩
  · simp [-x_fldM, -x_isiG, b_answer_at_1, mc_bare, z, o_either]
    cases cN s k_last_answer [th f k q, f.o, pl [], pl P] S <;> rfl
  · have z2 := part_m (t := s) (by omega) f i S
    rw [hg] at z2
    have l : (0 : Int) < (r.length : Int) + 1 := by omega
    simp [-x_fldM, -x_isiG, b_answer_at_1, mc_bare, z, o_either, mc_part, z2, opart, l]
    cases cN s k_last_answer [th f k q, f.o, pl (i :: r), pl P] S <;> rfl
theorem ans_told {k : Nat} {S : Sto} (R : List Int → A) (T : List Int → Sto) {s : Nat} (hs : 4 ≤ s) (hk : k < S.length) (hT : ∀ p, trim S (T p) = T p) (hR : ∀ p n, (R p).bel n = true) (P : List Int) (x0 x5 : Option A) : ∀ (p : List Int) (f : Fm) (n : Nat) (q : List Int) (c : Int) (x4 : Option A), f.at_ p = some c → cN (s - 1) k_Thing_look [th (.opt c) k (q ++ p)] S = .ok (R (q ++ p)) (T (q ++ p)) → q.length + p.length < 900 → p.length + 1 ≤ n →
    whileS (tst (cst (.bl true))) (b_answer_at_1 (cN s)) n [x0, some (pl P), some (th f k q), some (pl p), x4, x5] S = .rt (R (q ++ p)) (T (q ++ p))
  | [], f, n + 1, q, c, x4, hc, hl, hq, hn => by
    have hf : f = .opt c := by
      cases f <;> cases hc
      rfl
    subst hf
    have e := ans_last (s := s) hs (f := .opt c) (k := k) (q := q) (p := []) (P := P) (S := S) (.inl rfl) x0 x4 x5
    rw [List.append_nil] at hl ⊢
    have e2 := last_told (t := s) (by omega) (P := P) hl (hR _ _)
    rw [hT] at e2
    rw [e2] at e
    rw [while1]
    show turn (b_answer_at_1 (cN s) _ S) _ = _
    rw [e]
    rfl
  | i :: r, f, n + 1, q, c, x4, hc, hl, hq, hn => by
    rw [Fm.at_cons] at hc
    have hq : q.length + r.length + 1 < 900 := by simp at hq; omega
    have hn : r.length + 1 ≤ n := by simp at hn; omega
    cases hp : f.part i with
    | none => rw [hp] at hc; cases hc
    | some g =>
      rw [hp] at hc
      have hc : g.at_ r = some c := hc
      have e1 : q ++ i :: r = (q ++ [i]) ++ r := by simp
      rw [e1] at hl ⊢
      have ih := ans_told R T hs hk hT hR P x0 x5 r g n (q ++ [i]) c (some f.o) hc hl (by simp; omega) hn
      have e := ans_down (s := s) hs (r := r) (P := P) hk (by omega : q.length < 1000) hp x0 x4 x5
      rw [while1]
      show turn (b_answer_at_1 (cN s) _ S) _ = _
      rw [e, x_turn_nx]
      exact ih
theorem ans_lost {k : Nat} {S : Sto} {s : Nat} (hs : 4 ≤ s) (hk : k < S.length) (P : List Int) (x0 x5 : Option A) : ∀ (p : List Int) (f : Fm) (n : Nat) (q : List Int) (x4 : Option A), f.at_ p = none → q.length + p.length < 900 → p.length + 1 ≤ n →
    ∃ ρ', whileS (tst (cst (.bl true))) (b_answer_at_1 (cN s)) n [x0, some (pl P), some (th f k q), some (pl p), x4, x5] S = .ex "NoPlace" [("place", pl P)] ρ' S
  | [], f, n + 1, q, x4, hc, hq, hn => by
    have e := ans_last (s := s) hs (f := f) (k := k) (q := q) (p := []) (P := P) (S := S) (.inl rfl) x0 x4 x5
    have e2 := last_lost (t := s) (by omega) (k := k) (q := q) (p := []) (P := P) (f := f) (S := S) (fun c h => by subst h; cases hc)
    rw [e2] at e
    refine ⟨[x0, some (pl P), some (th f k q), some (pl []), some f.o, x5], ?_⟩
    rw [while1]
    show turn (b_answer_at_1 (cN s) _ S) _ = _
    rw [e]
    rfl
  | i :: r, f, n + 1, q, x4, hc, hq, hn => by
    rw [Fm.at_cons] at hc
    have hq : q.length + r.length + 1 < 900 := by simp at hq; omega
    have hn : r.length + 1 ≤ n := by simp at hn; omega
    cases hp : f.part i with
    | none =>
      have e := ans_last (s := s) hs (f := f) (k := k) (q := q) (p := i :: r) (P := P) (S := S) (.inr ⟨i, r, rfl, hp⟩) x0 x4 x5
      have e2 := last_lost (t := s) (by omega) (k := k) (q := q) (p := i :: r) (P := P) (f := f) (S := S) (fun c h z => by cases z)
      rw [e2] at e
      refine ⟨[x0, some (pl P), some (th f k q), some (pl (i :: r)), some f.o, x5], ?_⟩
      rw [while1]
      show turn (b_answer_at_1 (cN s) _ S) _ = _
      rw [e]
      rfl
    | some g =>
      rw [hp] at hc
      have hc : g.at_ r = none := hc
      obtain ⟨ρ', ih⟩ := ans_lost hs hk P x0 x5 r g n (q ++ [i]) (some f.o) hc (by simp; omega) hn
      have e := ans_down (s := s) hs (r := r) (P := P) hk (by omega : q.length < 1000) hp x0 x4 x5
      refine ⟨ρ', ?_⟩
      rw [while1]
      show turn (b_answer_at_1 (cN s) _ S) _ = _
      rw [e, x_turn_nx]
      exact ih
theorem answer_told {t k : Nat} {S : Sto} {v : A} {S' : Sto} (ht : 5 ≤ t) (hk : k < S.length) {f : Fm} {q p : List Int} {c : Int} (hc : f.at_ p = some c) (hl : cN (t - 2) k_Thing_look [th (.opt c) k (q ++ p)] S = .ok v S') (hv : ∀ n, v.bel n = true) (hS : trim S S' = S') (hq : q.length + p.length < 900) : cN t k_answer_at [th f k q, pl p] S = .ok v S' := by
  obtain ⟨s, rfl⟩ : ∃ s, t = s + 1 := ⟨t - 1, by omega⟩
  have e := ans_told (fun _ => v) (fun _ => S') (s := s) (by omega) hk (fun _ => hS) (fun _ => hv) p (some (th f k q)) none p f 1000 q c none hc hl hq (by omega)
  rw [cN_answer_at]
  simp [m_answer_at, e, hv, hS]
theorem answer_lost {t k : Nat} {S : Sto} (ht : 5 ≤ t) (hk : k < S.length) {f : Fm} {q p : List Int} (hc : f.at_ p = none) (hq : q.length + p.length < 900) : cN t k_answer_at [th f k q, pl p] S = .ex "NoPlace" [("place", pl p)] S := by
  obtain ⟨s, rfl⟩ : ∃ s, t = s + 1 := ⟨t - 1, by omega⟩
  obtain ⟨ρ', e⟩ := ans_lost (s := s) (by omega) hk p (some (th f k q)) none p f 1000 q none hc hq (by omega)
  rw [cN_answer_at]
  simp [m_answer_at, e]
end FL

/-! ## P06b: the law of k06 -/
namespace FL
open PySem L2
theorem tryT {t k i g : Nat} {S S1 : Sto} {caps : List A} {a : A} {F : List A → M A} (hk : S[k]? = some (.fn i g caps)) (hi : lf (cN t) i = some F) (ha : ∀ n, a.bel n = true) (h : F caps (susp g S) = .ok a S1) (hS : trim S (resm g S S1) = resm g S S1) :
    cN (t + 1) k__law_try [.ref k] S = .ok (.tup [.str "told", a]) (resm g S S1) := by
  have v : ∀ x y, callV (lf (cN t)) 0 nilA [some (.ref k), x, y] S = .ok a (resm g S S1) := fun x y => by
    rw [callV1 (k := k) rfl hk hi, lamM1 hk]
    simp only [List.nil_append, h]
  rw [cN__law_try]
  simp [m__law_try, v, ha, hS]
theorem tryN {t k i g : Nat} {S : Sto} {caps : List A} {a : A} {F : List A → M A} (hk : S[k]? = some (.fn i g caps)) (hi : lf (cN t) i = some F) (ha : ∀ n, a.bel n = true) (h : F caps (susp g S) = .ex "NoPlace" [("place", a)] (susp g S)) :
    cN (t + 1) k__law_try [.ref k] S = .ok (.tup [.str "lost", a]) S := by
  have v : ∀ x y, callV (lf (cN t)) 0 nilA [some (.ref k), x, y] S = .ex "NoPlace" [("place", a)] S := fun x y => by
    rw [callV1 (k := k) rfl hk hi, lamM1 hk]
    simp only [List.nil_append, h, resm_susp]
  rw [cN__law_try]
  simp [m__law_try, v, ha]
/-- the store: draws, log, due, the function, its source -/
abbrev uS (a b c : Int) (log due : List (List Int)) (o : Ob) : Sto := [dr a b c, .lst (pls log), .lst (pls due), o, .sin "Told" [("answer", .ref 3)]]
/-- a place bent -/
theorem bent_ok {t : Nat} {S : Sto} {k : Nat} {n : Int} (ht : 3 ≤ t) (hd : DwS S k n) (hn : n + 2 < 1000000) (p : List Int) (hp : p.length < 900) : ∃ (r : List Int) (S' : Sto), r.length ≤ p.length + 1 ∧ DwT k (n + 2) S S' ∧ cN t k__law_bent [.ref k, pl p] S = .ok (pl r) S' := by
  obtain ⟨s, rfl⟩ : ∃ s, t = s + 1 + 1 := ⟨t - 2, by omega⟩
  obtain ⟨v, S1, v0, v6, h1, e1⟩ := draw_ok (t := s + 1) (by omega) hd (by omega) (m := 6) (by decide) (by decide)
  have sl : ∀ (p : List Int) (S : Sto), slM (pl p) (some 1) none S = .ok (pl p.tail) S := fun p S => by cases p <;> simp
  have l0 : p.length + 1 < 100000 := by omega
  have l1 : 1 + (p.length - 1) < 100000 := by omega
  have hv : v = 0 ∨ v = 1 ∨ v = 2 ∨ (v ≠ 0 ∧ v ≠ 1 ∧ v ≠ 2) := by omega
  rcases hv with rfl | rfl | rfl | ⟨h0, hh1, hh2⟩
  · obtain ⟨w, S2, w0, w2, h2, e2⟩ := draw_ok (t := s + 1) (by omega) h1.dw (by omega) (m := 2) (by decide) (by decide)
    have tr := h1.trans h2
    refine ⟨p ++ [w], S2, by simp, tr.mono (by omega), ?_⟩
    rw [cN__law_bent]
    simp [m__law_bent, e1, e2, l0, tr.trim]
  · refine ⟨p.tail, S1, by simp; omega, h1.mono (by omega), ?_⟩
    rw [cN__law_bent]
    simp [m__law_bent, e1, sl, h1.trim]
  · obtain ⟨w, S2, w0, w4, h2, e2⟩ := draw_ok (t := s) (by omega) h1.dw (by omega) (m := 4) (by decide) (by decide)
    have tr := h1.trans h2
    have pk : ∃ j : Int, cN (s + 1) k__law_pick [.ref k, .fl [.int (0 - 1), .int 2, .int 3, .int 7]] S1 = .ok (.int j) S2 := by
      have hw : w = 0 ∨ w = 1 ∨ w = 2 ∨ w = 3 := by omega
      rcases hw with rfl | rfl | rfl | rfl
      · exact ⟨-1, by rw [cN__law_pick]; simp [m__law_pick, e2, h2.trim]⟩
      · exact ⟨2, by rw [cN__law_pick]; simp [m__law_pick, e2, h2.trim]⟩
      · exact ⟨3, by rw [cN__law_pick]; simp [m__law_pick, e2, h2.trim]⟩
      · exact ⟨7, by rw [cN__law_pick]; simp [m__law_pick, e2, h2.trim]⟩
    obtain ⟨j, pk⟩ := pk
    refine ⟨j :: p.tail, S2, by simp, tr.mono (by omega), ?_⟩
    rw [cN__law_bent]
    simp at pk
    simp [m__law_bent, e1, sl, pk, tr.trim, l1]
  · refine ⟨p, S1, by omega, h1.mono (by omega), ?_⟩
    rw [cN__law_bent]
    simp [m__law_bent, e1, h0, hh1, hh2, h1.trim]
/-- down a part, or not -/
theorem step_ok {t : Nat} {S : Sto} {f : Fm} {k1 ks : Nat} (ht : 5 ≤ t) (hks : ks < S.length) (x0 x1 x2 x3 x4 x5 x6 x8 x9 x13 x14 x15 : Option A) {g : Fm} {q r : List Int} {c : Int} {d : Nat} (hg : g.Ok 9 d) (hc : g.at_ r = some c) (hq : ∀ z, f.at_ (q ++ z) = g.at_ z) (hl : q.length + r.length < 900) :
    ∃ (g' : Fm) (q' r' : List Int) (d' : Nat), g'.Ok 9 d' ∧ d' ≤ d ∧ g'.at_ r' = some c ∧ (∀ z, f.at_ (q' ++ z) = g'.at_ z) ∧ q'.length + r'.length = q.length + r.length ∧
      b_law_1 (cN t) k1 [x0, x1, x2, x3, x4, x5, x6, some (pl r), x8, x9, some (th g ks q), some g.fA, some (pl q), x13, x14, x15] S = .nx [x0, x1, x2, x3, x4, x5, x6, some (pl r'), x8, x9, some (th g' ks q'), some g'.fA, some (pl q'), x13, x14, x15] S := by
  by_cases ho : ∃ c', g = .opt c'
  · obtain ⟨c', rfl⟩ := ho
    refine ⟨.opt c', q, r, d, hg, Nat.le_refl _, hc, hq, rfl, ?_⟩
    simp [b_law_1, fA_ix0, Fm.tag]
  · have hn := tag_no (f := g) fun c' e => ho ⟨c', e⟩
    cases r with
    | nil => cases g <;> first | exact absurd ⟨_, rfl⟩ ho | cases hc
    | cons i r =>
      rw [Fm.at_cons] at hc
      cases hp : g.part i with
      | none => rw [hp] at hc; cases hc
      | some g' =>
        rw [hp] at hc
        obtain ⟨d', rfl, hd'⟩ := Fm.part_ok hg hp
        have hl' : q.length + r.length + 1 < 900 := by simp at hl; omega
        have e2 := tat_ok (t := t) (by omega) hks (by omega : q.length < 1000) hp
        have l1 : q.length + 1 < 100000 := by omega
        have sl1 : slM (pl (i :: r)) none (some 1) S = .ok (pl [i]) S := by
          show Rs.ok (A.tup (cutA (.int i :: r.map A.int) none (some 1))) S = _
          have e : HT.sIx ((A.int i :: r.map A.int)).length (A.int i :: r.map A.int).length (some 1) = 1 := by
            have := HT.sIx_nat (A.int i :: r.map A.int).length (A.int i :: r.map A.int).length 1
            simp at this
            simpa using this
          unfold cutA
          rw [e, HT.sIx_none]
          rfl
        refine ⟨g', q ++ [i], r, d', hd', by omega, hc, fun z => ?_, by simp; omega, ?_⟩
        · have := hq (i :: z)
          rw [Fm.at_cons, hp] at this
          simpa using this
        · have hix : (if g.tag = "pair" then ixM g.fA (.int (1 + i)) S else ixM g.fA (.int 1) S) = .ok g'.fA S := by
            cases g with
            | opt c' => exact absurd ⟨c', rfl⟩ ho
            | endl g => simp [Fm.tag, Fm.fA]; simp only [Fm.part] at hp; split at hp <;> cases hp; rfl
            | pow g n => simp [Fm.tag, Fm.fA]; simp only [Fm.part] at hp; split at hp <;> cases hp; rfl
            | pair g h =>
              simp only [Fm.part] at hp
              split at hp
              · rename_i h0; subst h0; cases hp; simp [Fm.tag, Fm.fA]
              · split at hp <;> cases hp
                rename_i h1; subst h1; simp [Fm.tag, Fm.fA]
          by_cases ht' : g.tag = "pair"
          · rw [if_pos ht'] at hix
            simp [b_law_1, fA_ix0, hn, ht', hix, mc_at, e2, sl1, l1]
          · rw [if_neg ht'] at hix
            simp [b_law_1, fA_ix0, hn, ht', hix, mc_at, e2, sl1, l1]
end FL

/-! ## P06c: a turn of the law's loop -/
namespace FL
open PySem L2
theorem steps_ok {t : Nat} {S : Sto} {f : Fm} {k1 ks : Nat} (ht : 5 ≤ t) (hks : ks < S.length) (x0 x1 x2 x3 x4 x5 x6 x8 x9 x14 x15 : Option A) : ∀ (xs : List A) (x13 : Option A) (g : Fm) (q r : List Int) (c : Int) (d : Nat), g.Ok 9 d → g.at_ r = some c → (∀ z, f.at_ (q ++ z) = g.at_ z) → q.length + r.length < 900 →
    ∃ (g' : Fm) (q' r' : List Int) (d' : Nat) (y13 : Option A), g'.Ok 9 d' ∧ d' ≤ d ∧ g'.at_ r' = some c ∧ (∀ z, f.at_ (q' ++ z) = g'.at_ z) ∧ q'.length + r'.length = q.length + r.length ∧
      forL (asgN 13) (b_law_1 (cN t) k1) xs [x0, x1, x2, x3, x4, x5, x6, some (pl r), x8, x9, some (th g ks q), some g.fA, some (pl q), x13, x14, x15] S = .nx [x0, x1, x2, x3, x4, x5, x6, some (pl r'), x8, x9, some (th g' ks q'), some g'.fA, some (pl q'), y13, x14, x15] S
  | [], x13, g, q, r, c, d, hg, hc, hq, hl => ⟨g, q, r, d, x13, hg, Nat.le_refl _, hc, hq, rfl, rfl⟩
  | x :: xs, x13, g, q, r, c, d, hg, hc, hq, hl => by
    obtain ⟨g1, q1, r1, d1, a1, a2, a3, a4, a5, e⟩ := step_ok (k1 := k1) (ks := ks) ht hks x0 x1 x2 x3 x4 x5 x6 x8 x9 (some x) x14 x15 hg hc hq hl
    obtain ⟨g2, q2, r2, d2, y13, b1, b2, b3, b4, b5, ih⟩ := steps_ok ht hks x0 x1 x2 x3 x4 x5 x6 x8 x9 x14 x15 xs (some x) g1 q1 r1 c d1 a1 a3 a4 (by omega)
    refine ⟨g2, q2, r2, d2, y13, b1, by omega, b3, b4, by omega, ?_⟩
    rw [forN]
    show turn (b_law_1 (cN t) k1 [x0, x1, x2, x3, x4, x5, x6, some (pl r), x8, x9, some (th g ks q), some g.fA, some (pl q), some x, x14, x15] S) _ = _
    rw [e, x_turn_nx]
    exact ih
theorem trim_set_app {S T : Sto} {k : Nat} {o : Ob} (h : o.bel S.length = true) : trim S (S.set k o ++ T) = S.set k o := by
  rw [trim_ok_eq ⟨by simp, fun j q hj e => ?_⟩]
  · rw [List.take_append_of_le_length (by simp), List.take_of_length_le (by simp)]
  · rw [List.getElem?_append_left (by simpa using hj)] at e
    by_cases hk : k = j
    · subst hk
      rw [List.getElem?_set_self hj] at e
      cases e
      exact .inr h
    · rw [List.getElem?_set_ne hk] at e
      exact .inl e
/-- the asking, with both lambdas -/
theorem ask_ok {t : Nat} (ht : 12 ≤ t) {a b c : Int} {log due : List (List Int)} {L : List (List Int)} {V : List Int} {g : Fm} {q p : List Int} (hv : V.length = L.length) (hn : log.length < 1000) (hq : q.length + p.length < 900) (hr : ∀ c', g.at_ p = some c' → 0 ≤ atP L V (q ++ p) ∧ atP L V (q ++ p) < c') (x0 x1 x2 x4 x8 x9 x11 x12 x13 x14 x15 : Option A) :
    trimE (callLA 3 0 [5, 3, 6] (cN t k__law_try) 2 0 [10, 7] (lamL 2 nilA)) [x0, x1, x2, some (.ref 1), x4, some (.fl (pls L)), some (.fl (V.map A.int)), some (pl p), x8, x9, some (th g 4 q), x11, x12, x13, x14, x15] (uS a b c log due (.sfn 0 0 [])) =
      (if (g.at_ p).isSome = true then .ok (.tup [.str "told", .int (atP L V (q ++ p))]) (uS a b c (log ++ [q ++ p]) due (.sfn 0 0 [])) else .ok (.tup [.str "lost", pl p]) (uS a b c log due (.sfn 0 0 []))) := by
  obtain ⟨s, rfl⟩ : ∃ s, t = s + 1 + 1 := ⟨t - 2, by omega⟩
  let c1 : List A := [.fl (pls L), .ref 1, .fl (V.map A.int)]
  let S1 : Sto := [dr a b c, .lst (pls log), .lst (pls due), .fn 0 1 c1, .sin "Told" [("answer", .ref 3)], .fn 2 2 [th g 4 q, pl p]]
  have ts : TS (susp 2 S1) 1 3 4 1 L V log := ⟨rfl, rfl, rfl, hn, hv⟩
  have hlen : (susp 2 S1).length = 6 := rfl
  cases hc : g.at_ p with
  | none =>
    have e1 := answer_lost (t := s) (k := 4) (S := susp 2 S1) (by omega) (by rw [hlen]; decide) (f := g) (q := q) hc hq
    have e2 : cN (s + 1) k_lam2 [th g 4 q, pl p] (susp 2 S1) = .ex "NoPlace" [("place", pl p)] (susp 2 S1) := by
      rw [cN_lam2]
      simp [l_2, e1]
    have e3 := tryN (t := s + 1) (k := 5) (S := S1) (caps := [th g 4 q, pl p]) (a := pl p) rfl (lf_2 _) (fun n => by simp) e2
    have e4 : callLA 3 0 [5, 3, 6] (cN (s + 1 + 1) k__law_try) 2 0 [10, 7] (lamL 2 nilA) [x0, x1, x2, some (.ref 1), x4, some (.fl (pls L)), some (.fl (V.map A.int)), some (pl p), x8, x9, some (th g 4 q), x11, x12, x13, x14, x15] (uS a b c log due (.sfn 0 0 [])) = behL 3 1 0 (behL 5 2 2 (cN (s + 1 + 1) k__law_try [.ref 5] S1)) := rfl
    unfold trimE
    rw [e4, e3]
    simp only [behL]
    rw [if_pos (by simp), show List.set (susp 1 (List.set (susp 2 S1) 5 (Ob.sfn 2 0 []))) 3 (Ob.sfn 0 0 []) = uS a b c log due (.sfn 0 0 []) ++ [Ob.sfn 2 0 []] from rfl, trim_app]
    rfl
  | some cc =>
    obtain ⟨g0, g1⟩ := hr cc hc
    have hl := tlook_ok (t := s - 2) (by omega) ts (q ++ p) g0 g1
    have e1 := answer_told (t := s) (k := 4) (S := susp 2 S1) (by omega) (by rw [hlen]; decide) (f := g) (q := q) hc hl (fun _ => rfl) (trim_set (by simp)) hq
    have e2 : cN (s + 1) k_lam2 [th g 4 q, pl p] (susp 2 S1) = .ok (.int (atP L V (q ++ p))) ((susp 2 S1).set 1 (.lst (pls (log ++ [q ++ p])))) := by
      rw [cN_lam2]
      simp [l_2, e1]
    have rs : resm 2 S1 ((susp 2 S1).set 1 (.lst (pls (log ++ [q ++ p])))) = S1.set 1 (.lst (pls (log ++ [q ++ p]))) := resm_set (o := .lst (pls log)) rfl fun i c z => by cases z
    have e3 := tryT (t := s + 1) (k := 5) (S := S1) (caps := [th g 4 q, pl p]) (a := .int (atP L V (q ++ p))) rfl (lf_2 _) (fun n => rfl) e2 (by rw [rs]; exact trim_set (by simp))
    rw [rs] at e3
    have e4 : callLA 3 0 [5, 3, 6] (cN (s + 1 + 1) k__law_try) 2 0 [10, 7] (lamL 2 nilA) [x0, x1, x2, some (.ref 1), x4, some (.fl (pls L)), some (.fl (V.map A.int)), some (pl p), x8, x9, some (th g 4 q), x11, x12, x13, x14, x15] (uS a b c log due (.sfn 0 0 [])) = behL 3 1 0 (behL 5 2 2 (cN (s + 1 + 1) k__law_try [.ref 5] S1)) := rfl
    unfold trimE
    rw [e4, e3]
    simp only [behL]
    rw [if_pos (by simp), show List.set (susp 1 (List.set (susp 2 (List.set S1 1 (Ob.lst (pls (log ++ [q ++ p]))))) 5 (Ob.sfn 2 0 []))) 3 (Ob.sfn 0 0 []) = (uS a b c log due (.sfn 0 0 [])).set 1 (.lst (pls (log ++ [q ++ p]))) ++ [Ob.sfn 2 0 []] from rfl, trim_set_app (by simp)]
    rfl
theorem turn6 {t d : Nat} {f : Fm} {L : List (List Int)} {V : List Int} (ht : 20 ≤ t) (hf : f.Ok 9 d) (hd4 : d ≤ 3) (hv : V.length = L.length) (hr : ∀ (i : Nat) (p : List Int) (v c : Int), L[i]? = some p → V[i]? = some v → f.at_ p = some c → 0 ≤ v ∧ v < c) (he : f.emp = false) {a b c n : Int} (hd : DrB b c n) (hn : n < 100000) {log : List (List Int)} (hl : log.length < 900) (x0 x7 x9 x10 x11 x12 x13 x14 x15 : Option A) :
    ∃ y7 y10 y11 y12 y13 y14 y15 a' b' c' log', DrB b' c' (n + 300) ∧ log'.length ≤ log.length + 1 ∧ ∀ k : SM, turn (b_law_2 (cN t) 3 [x0, some (.ref 0), some f.fA, some (.ref 1), some (.ref 2), some (.fl (pls L)), some (.fl (V.map A.int)), x7, some (th f 4 []), x9, x10, x11, x12, x13, x14, x15] (uS a b c log log (.sfn 0 0 []))) k = k [x0, some (.ref 0), some f.fA, some (.ref 1), some (.ref 2), some (.fl (pls L)), some (.fl (V.map A.int)), y7, some (th f 4 []), x9, y10, y11, y12, y13, y14, y15] (uS a' b' c' log' log' (.sfn 0 0 [])) := by
  have p3 : (3 : Int) ^ (d + 1) ≤ 243 := by
    have : d = 0 ∨ d = 1 ∨ d = 2 ∨ d = 3 := by omega
    rcases this with rfl | rfl | rfl | rfl <;> decide
  obtain ⟨r, S1, r1, r2, h1, e1⟩ := place_ok f d t (uS a b c log log (.sfn 0 0 [])) 0 n hf (by omega) (DrB.at0 hd) (by omega) (by omega)
  obtain ⟨a1, b1, c1, rfl, d1⟩ := h1.head
  cases r with
  | none => rw [he] at r2; simp at r2
  | some p =>
    obtain ⟨cc, hc⟩ := r1 p rfl
    have hp := (Fm.at_len hf hc).1
    obtain ⟨w, S2, w0, w4, h2, e2⟩ := draw_ok (t := t) (k := 0) (S := uS a1 b1 c1 log log (.sfn 0 0 [])) (by omega) (DrB.at0 d1) (by omega) (m := 4) (by decide) (by decide)
    obtain ⟨a2, b2, c2, rfl, d2⟩ := h2.head
    have sw : small w := ⟨by omega, by omega⟩
    obtain ⟨g, q, p1, d', y13, hg, hdd, hgc, hgq, hlen, e3⟩ := steps_ok (t := t) (S := uS a2 b2 c2 log log (.sfn 0 0 [])) (f := f) (k1 := 3) (ks := 4) (by omega) (by simp) x0 (some (.ref 0)) (some f.fA) (some (.ref 1)) (some (.ref 2)) (some (.fl (pls L))) (some (.fl (V.map A.int))) (some (th f 4 [])) x9 x14 x15 (rngL 0 w.toNat) x13 f [] p cc d hf hc (fun z => rfl) (by simp; omega)
    have hlen : q.length + p1.length = p.length := by simpa using hlen
    obtain ⟨p2, S3, hp2, h3, e4⟩ := bent_ok (t := t) (k := 0) (S := uS a2 b2 c2 log log (.sfn 0 0 [])) (by omega) (DrB.at0 d2) (by omega) p1 (by omega)
    obtain ⟨a3, b3, c3, rfl, d3⟩ := h3.head
    have e5 := ask_ok (t := t) (a := a3) (b := b3) (c := c3) (log := log) (due := log) (L := L) (V := V) (g := g) (q := q) (p := p2) (by omega) hv (by omega) (by omega) (fun c' hc' => at_range hf hv hr (by rw [hgq]; exact hc')) x0 (some (.ref 0)) (some f.fA) (some (.ref 2)) (some (th f 4 [])) x9 (some g.fA) (some (pl q)) y13 x14 x15
    have e6 : ∀ S, cN t k__law_there [g.fA, pl p2] S = .ok (.bl (g.at_ p2).isSome) S := fun S => there_ok g d' t p2 S hg (by omega)
    have dv : ∀ (s : Str) (p : List Int), p.length < 100000 → Dv 2 (.tup [.str s, pl p]) := fun s p hp => .tup (fun x hx => by
      rcases List.mem_cons.mp hx with rfl | hx
      · exact .str
      · rcases List.mem_cons.mp hx with rfl | hx
        · exact .tup (fun y hy => by
            obtain ⟨i, _, rfl⟩ := List.mem_map.mp hy
            exact .int) (by simpa using hp)
        · cases hx) (by simp)
    have dv2 : ∀ (s : Str) (i : Int), Dv 2 (.tup [.str s, .int i]) := fun s i => .tup (fun x hx => by
      rcases List.mem_cons.mp hx with rfl | hx
      · exact .str
      · rcases List.mem_cons.mp hx with rfl | hx
        · exact .int
        · cases hx) (by simp)
    have eq3 : ∀ (a b c : Int) (log due : List (List Int)), eqM true (.ref 1) (.ref 2) (uS a b c log due (.sfn 0 0 [])) = .ok (.bl (decide (log = due) != true)) (uS a b c log due (.sfn 0 0 [])) := fun a b c log due => eqM_dat rfl (datS_ref rfl) (datS_ref rfl)
    have e1 : cN t k__law_place [.ref 0, f.fA] (uS a b c log log (.sfn 0 0 [])) = .ok (pl p) (uS a1 b1 c1 log log (.sfn 0 0 [])) := e1
    have e2 : cN t k__law_draw [.ref 0, .int 4] (uS a1 b1 c1 log log (.sfn 0 0 [])) = .ok (.int w) (uS a2 b2 c2 log log (.sfn 0 0 [])) := e2
    have e4 : cN t k__law_bent [.ref 0, pl p1] (uS a2 b2 c2 log log (.sfn 0 0 [])) = .ok (pl p2) (uS a3 b3 c3 log log (.sfn 0 0 [])) := e4
    cases hs : g.at_ p2 with
    | none =>
      rw [hs] at e5
      have e5 := e5
      simp only [Option.isSome_none, Bool.false_eq_true, if_false] at e5
      have e6 := e6 (uS a3 b3 c3 log log (.sfn 0 0 []))
      rw [hs] at e6
      have sm := same_refl 2 t (.tup [.str "lost", pl p2]) (uS a3 b3 c3 log log (.sfn 0 0 [])) (dv _ _ (by omega)) (by omega)
      refine ⟨some (pl p2), some (th g 4 q), some g.fA, some (pl q), y13, some (.tup [.str "lost", pl p2]), x15, a3, b3, c3, log, d3.mono (by omega), by omega, fun k => ?_⟩
      have st : b_law_2 (cN t) 3 [x0, some (.ref 0), some f.fA, some (.ref 1), some (.ref 2), some (.fl (pls L)), some (.fl (V.map A.int)), x7, some (th f 4 []), x9, x10, x11, x12, x13, x14, x15] (uS a b c log log (.sfn 0 0 [])) = .ct [x0, some (.ref 0), some f.fA, some (.ref 1), some (.ref 2), some (.fl (pls L)), some (.fl (V.map A.int)), some (pl p2), some (th f 4 []), x9, some (th g 4 q), some g.fA, some (pl q), y13, some (.tup [.str "lost", pl p2]), x15] (uS a3 b3 c3 log log (.sfn 0 0 [])) := by
        simp [b_law_2, e1, e2, sw, e3, e4, e5, e6, sm, eq3]
      rw [st, x_turn_ct]
    | some c' =>
      rw [hs] at e5
      have e5 := e5
      simp only [Option.isSome_some, if_true] at e5
      have e6 := e6 (uS a3 b3 c3 (log ++ [q ++ p2]) log (.sfn 0 0 []))
      rw [hs] at e6
      have sm := same_refl 2 t (.tup [.str "told", .int (atP L V (q ++ p2))]) (uS a3 b3 c3 (log ++ [q ++ p2]) (log ++ [q ++ p2]) (.sfn 0 0 [])) (dv2 _ _) (by omega)
      have ap : appM (.ref 2) [pl (q ++ p2)] (uS a3 b3 c3 (log ++ [q ++ p2]) log (.sfn 0 0 [])) = .ok .non (uS a3 b3 c3 (log ++ [q ++ p2]) (log ++ [q ++ p2]) (.sfn 0 0 [])) := by
        rw [appL (xs := pls log) rfl (by simp; omega), pls_snoc']
        rfl
      have lo : lstOf (.ref 2) (uS a3 b3 c3 (log ++ [q ++ p2]) log (.sfn 0 0 [])) = some (pls log) := rfl
      have e7 := at_ok (t := t) (by omega) L V hv (q ++ p2) (uS a3 b3 c3 (log ++ [q ++ p2]) (log ++ [q ++ p2]) (.sfn 0 0 []))
      have lq : q.length + p2.length < 100000 := by omega
      refine ⟨some (pl p2), some (th g 4 q), some g.fA, some (pl q), y13, some (.tup [.str "told", .int (atP L V (q ++ p2))]), some (.int (atP L V (q ++ p2))), a3, b3, c3, log ++ [q ++ p2], d3.mono (by omega), by simp, fun k => ?_⟩
      have st : b_law_2 (cN t) 3 [x0, some (.ref 0), some f.fA, some (.ref 1), some (.ref 2), some (.fl (pls L)), some (.fl (V.map A.int)), x7, some (th f 4 []), x9, x10, x11, x12, x13, x14, x15] (uS a b c log log (.sfn 0 0 [])) = .nx [x0, some (.ref 0), some f.fA, some (.ref 1), some (.ref 2), some (.fl (pls L)), some (.fl (V.map A.int)), some (pl p2), some (th f 4 []), x9, some (th g 4 q), some g.fA, some (pl q), y13, some (.tup [.str "told", .int (atP L V (q ++ p2))]), some (.int (atP L V (q ++ p2)))] (uS a3 b3 c3 (log ++ [q ++ p2]) (log ++ [q ++ p2]) (.sfn 0 0 [])) := by
        simp [b_law_2, e1, e2, sw, e3, e4, e5, e6, lo, ap, e7, lq, sm, eq3]
      rw [st, x_turn_nx]
end FL

/-! ## P06d: the law of k06 -/
namespace FL
open PySem L2
theorem loop6 {t d : Nat} {f : Fm} {L : List (List Int)} {V : List Int} (ht : 20 ≤ t) (hf : f.Ok 9 d) (hd4 : d ≤ 3) (hv : V.length = L.length) (hr : ∀ (i : Nat) (p : List Int) (v c : Int), L[i]? = some p → V[i]? = some v → f.at_ p = some c → 0 ≤ v ∧ v < c) (he : f.emp = false) (x0 : Option A) : ∀ (xs : List A) (x7 x9 x10 x11 x12 x13 x14 x15 : Option A) (a b c n : Int) (log : List (List Int)), DrB b c n → n + 300 * xs.length < 100000 → log.length + xs.length < 900 →
    ∃ ρ' S', forL (asgN 9) (b_law_2 (cN t) 3) xs [x0, some (.ref 0), some f.fA, some (.ref 1), some (.ref 2), some (.fl (pls L)), some (.fl (V.map A.int)), x7, some (th f 4 []), x9, x10, x11, x12, x13, x14, x15] (uS a b c log log (.sfn 0 0 [])) = .nx ρ' S'
  | [], _, _, _, _, _, _, _, _, _, _, _, _, _, _, _, _ => ⟨_, _, rfl⟩
  | x :: r, x7, x9, x10, x11, x12, x13, x14, x15, a, b, c, n, log, hd, hn, hl => by
    have hn : n + 300 * (r.length : Int) + 300 < 100000 := by simp at hn; omega
    have hl : log.length + r.length + 1 < 900 := by simp at hl; omega
    obtain ⟨y7, y10, y11, y12, y13, y14, y15, a1, b1, c1, log1, d1, l1, e⟩ := turn6 ht hf hd4 hv hr he (a := a) hd (by omega) (log := log) (by omega) x0 x7 (some x) x10 x11 x12 x13 x14 x15
    obtain ⟨ρ', S', ih⟩ := loop6 ht hf hd4 hv hr he x0 r y7 (some x) y10 y11 y12 y13 y14 y15 a1 b1 c1 (n + 300) log1 d1 (by omega) (by omega)
    refine ⟨ρ', S', ?_⟩
    rw [forN]
    show turn (b_law_2 (cN t) 3 [x0, some (.ref 0), some f.fA, some (.ref 1), some (.ref 2), some (.fl (pls L)), some (.fl (V.map A.int)), x7, some (th f 4 []), some x, x10, x11, x12, x13, x14, x15] _) _ = _
    rw [e]
    exact ih
theorem emp_at : ∀ (f : Fm) (d : Nat) (p : List Int), f.Ok 9 d → f.emp = true → f.at_ p = none
  | .opt _, _, _, _, h => nomatch h
  | .endl f, d + 1, [], _, _ => rfl
  | .pair f g, d + 1, [], _, _ => rfl
  | .pow f n, d + 1, [], _, _ => rfl
  | .endl f, d + 1, i :: r, ok, h => by
    have ih := emp_at f d r ok h
    simp only [Fm.at_, ih]
    split <;> rfl
  | .pair f g, d + 1, i :: r, ok, h => by
    have h : (f.emp && g.emp) = true := h
    rw [Bool.and_eq_true] at h
    have ih := emp_at f d r ok.1 h.1
    have ih' := emp_at g d r ok.2 h.2
    simp only [Fm.at_, ih, ih']
    split
    · rfl
    · split <;> rfl
  | .pow f n, d + 1, i :: r, ok, h => by
    have h : (decide (n = 0) || f.emp) = true := h
    rw [Bool.or_eq_true, decide_eq_true_eq] at h
    rcases h with h | h
    · subst h
      simp only [Fm.at_]
      rw [if_neg (by omega)]
    · have ih := emp_at f d r ok.1 h
      simp only [Fm.at_, ih]
      split <;> rfl
  | .endl _, 0, _, h, _ => h.elim
  | .pair _ _, 0, _, h, _ => h.elim
  | .pow _ _, 0, _, h, _ => h.elim
theorem pure_law (ns : List Int) (_ : ns.length ≤ 63) : ∃ S', fnM 1 16 (m_law (cN 29)) [.scr (ns.map A.int)] [] = .ok (.bl true) S' := by
  obtain ⟨a, b, hd, e0⟩ := source_ok (t := 29) (by decide) ns 0 (by decide) []
  have e0 : cN 29 k__law_source [.scr (ns.map A.int), .int 0] [] = .ok (.ref 0) [dr a b 0] := e0
  obtain ⟨f, S1, hf3, h1, e1⟩ := form_ok 3 29 [dr a b 0] 0 0 (DrB.at0 hd) (by decide) (by decide)
  obtain ⟨a1, b1, c1, rfl, d1⟩ := h1.head
  have e1 : cN 29 k__law_form [.ref 0, .int 3] [dr a b 0] = .ok f.fA [dr a1 b1 c1] := e1
  have hf : f.Ok 9 3 := hf3.mono (by decide) (Nat.le_refl _)
  obtain ⟨L, S2, hL, hLe, lL, h2, e2⟩ := places_ok (t := 29) (d := 3) (k := 0) (S := [dr a1 b1 c1, .lst [], .lst []]) 4 (by decide) (by decide) hf (by decide) (DrB.at0 (d1.mono (m := 81) (by decide))) (by decide) (by decide)
  obtain ⟨a2, b2, c2, rfl, d2⟩ := h2.head
  obtain ⟨bs, S3, l3, q3, h3, e3⟩ := lcE_draw (t := asgN 7) (mi := itE (vr 5)) (me := callE (cN 29 k__law_draw) (consA (vr 1) (consA (callE (cN 29 k__law_count) (consA (vr 2) (consA (vr 7) nilA))) nilA))) (vs := [7]) (ρ := [some (.scr (ns.map A.int)), some (.ref 0), some f.fA, some (.ref 1), some (.ref 2), some (.fl (pls L)), none, none, none, none, none, none, none, none, none, none]) (k := 0) (c := 1) (n := 81 + 2500) (S := [dr a2 b2 c2, .lst [], .lst []]) (S0 := [dr a2 b2 c2, .lst [], .lst []]) (by decide) pl (fun p b => ∃ v : Int, b = .int v ∧ ∀ c, f.at_ p = some c → 0 ≤ v ∧ v < c) L (by simp; rfl) (by omega) (DrB.at0 d2) (by omega) (fun p hp S n hd hn => by
    obtain ⟨c, hc⟩ := hL p hp
    have cb := (Fm.at_len hf hc).2
    obtain ⟨v, S', v0, v1, h1, h2⟩ := draw_ok (t := 29) (by decide) hd (by omega) (m := c) (by omega) (by omega)
    have z := count_ok f 3 29 p c S hf hc (by decide)
    exact ⟨_, rfl, .int v, S', ⟨v, rfl, fun c' hc' => by rw [hc] at hc'; cases hc'; exact ⟨v0, v1⟩⟩, h1, by simp [z, h2]⟩)
  obtain ⟨a3, b3, c3, rfl, d3⟩ := h3.head
  obtain ⟨V, rfl⟩ := ints_of bs fun b hb => by
    obtain ⟨i, hi⟩ := List.mem_iff_getElem?.mp hb
    have hil := (List.getElem?_eq_some_iff.mp hi).1
    obtain ⟨v, h, _⟩ := q3 i _ b (List.getElem?_eq_getElem (by omega)) hi
    exact ⟨v, h⟩
  have hv : V.length = L.length := by simpa using l3
  have hr : ∀ (i : Nat) (p : List Int) (v c : Int), L[i]? = some p → V[i]? = some v → f.at_ p = some c → 0 ≤ v ∧ v < c := fun i p v c h1 h2 h3 => by
    obtain ⟨w, e, h⟩ := q3 i p (.int v) h1 (by rw [List.getElem?_map, h2] <;> rfl)
    cases e
    exact h c h3
  have e4 := space_ok f 3 29 [dr a3 b3 c3, .lst [], .lst []] hf3 (by decide) (by decide)
  have e5 := told_ok (t := 29) (by decide) f 3 [dr a3 b3 c3, .lst [], .lst [], .fn 0 1 [.fl (pls L), .ref 1, .fl (V.map A.int)]]
  have k5 : ∀ x7 x8 x9 x10 x11 x12 x13 x14 x15, callK (cN 29 k_told) 0 1 [5, 3, 6] (valL (callE (cN 29 k__law_space) (consA (vr 2) nilA)) (lamL 0 nilA)) [some (.scr (ns.map A.int)), some (.ref 0), some f.fA, some (.ref 1), some (.ref 2), some (.fl (pls L)), some (.fl (V.map A.int)), x7, x8, x9, x10, x11, x12, x13, x14, x15] [dr a3 b3 c3, .lst [], .lst []] = .ok (th f 4 [], 3) [dr a3 b3 c3, .lst [], .lst [], .sfn 0 0 [], .sin "Told" [("answer", .ref 3)]] := fun x7 x8 x9 x10 x11 x12 x13 x14 x15 => by
    have v : valL (callE (cN 29 k__law_space) (consA (vr 2) nilA)) (lamL 0 nilA) [some (.scr (ns.map A.int)), some (.ref 0), some f.fA, some (.ref 1), some (.ref 2), some (.fl (pls L)), some (.fl (V.map A.int)), x7, x8, x9, x10, x11, x12, x13, x14, x15] [dr a3 b3 c3, .lst [], .lst []] = .ok [f.o, .ref 3] [dr a3 b3 c3, .lst [], .lst [], .sfn 0 0 []] := by
      simp [valL, lamL, e4]
    unfold callK
    simp only [x_bnd, v]
    show pairK 3 (behL 3 1 0 (cN 29 k_told [f.o, .ref 3] [dr a3 b3 c3, .lst [], .lst [], .fn 0 1 [.fl (pls L), .ref 1, .fl (V.map A.int)]])) = _
    rw [e5]
    rfl
  have sm : small 6 := by decide
  have rg : rngL 0 6 = [.int (0 + (0 : Nat)), .int (0 + (1 : Nat)), .int (0 + (2 : Nat)), .int (0 + (3 : Nat)), .int (0 + (4 : Nat)), .int (0 + (5 : Nat))] := rfl
  have d3 := d3.mono (m := 10000) (by omega)
  cases he : f.emp with
  | false =>
    obtain ⟨ρ', S', e6⟩ := loop6 (t := 29) (by decide) hf (by decide) hv hr he (some (.scr (ns.map A.int))) (rngL 0 6) none none none none none none none none a3 b3 c3 10000 [] d3 (by rw [rg]; decide) (by rw [rg]; decide)
    refine ⟨trim [] S', ?_⟩
    have e6 : forL (asgN 9) (b_law_2 (cN 29) 3) (rngL 0 6) [some (.scr (ns.map A.int)), some (.ref 0), some f.fA, some (.ref 1), some (.ref 2), some (.fl (pls L)), some (.fl (V.map A.int)), none, some (th f 4 []), none, none, none, none, none, none, none] [dr a3 b3 c3, .lst [], .lst [], .sfn 0 0 [], .sin "Told" [("answer", .ref 3)]] = _ := e6
    simp [-x_fldM, m_law, e0, e1, e2, e3, k5, sm, e6]
  | true =>
    obtain ⟨r, S4, _, r2, h4, e6⟩ := place_ok f 3 29 (uS a3 b3 c3 [] [] (.sfn 0 0 [])) 0 10000 hf (by decide) (DrB.at0 d3) (by decide) (by decide)
    obtain ⟨a4, b4, c4, rfl, d4⟩ := h4.head
    have hrn := r2.mpr he
    subst hrn
    have e6 : cN 29 k__law_place [.ref 0, f.fA] [dr a3 b3 c3, .lst [], .lst [], .sfn 0 0 [], .sin "Told" [("answer", .ref 3)]] = .ok .non [dr a4 b4 c4, .lst [], .lst [], .sfn 0 0 [], .sin "Told" [("answer", .ref 3)]] := e6
    have q2 : eqM false (.ref 1) (.fl []) [dr a4 b4 c4, .lst [], .lst [], .sfn 0 0 [], .sin "Told" [("answer", .ref 3)]] = .ok (.bl true) [dr a4 b4 c4, .lst [], .lst [], .sfn 0 0 [], .sin "Told" [("answer", .ref 3)]] := eqM_dat (ps := []) (qs := []) rfl (datS_ref (ps := []) rfl) (datS_fl [] _)
    let S5 : Sto := [dr a4 b4 c4, .lst [], .lst [], .sfn 0 0 [], .sin "Told" [("answer", .ref 3)], .fn 1 1 [th f 4 []]]
    have f1 := answer_lost (t := 27) (k := 4) (S := susp 1 S5) (by decide) (by show 4 < 6; decide) (f := f) (q := []) (p := [0]) (emp_at f 3 [0] hf he) (by decide)
    have f2 : cN 28 k_lam1 [th f 4 []] (susp 1 S5) = .ex "NoPlace" [("place", pl [0])] (susp 1 S5) := by
      rw [cN_lam1]
      simp [l_1, f1]
    have f3 := tryN (t := 28) (k := 5) (S := S5) (caps := [th f 4 []]) (a := pl [0]) rfl (lf_1 _) (fun n => by simp) f2
    have f4 : ∀ (x7 x9 x10 x11 x12 x13 x14 x15 : Option A), trimE (callL (cN 29 k__law_try) 1 0 [8] (lamL 1 nilA)) [some (.scr (ns.map A.int)), some (.ref 0), some f.fA, some (.ref 1), some (.ref 2), some (.fl (pls L)), some (.fl (V.map A.int)), x7, some (th f 4 []), x9, x10, x11, x12, x13, x14, x15] [dr a4 b4 c4, .lst [], .lst [], .sfn 0 0 [], .sin "Told" [("answer", .ref 3)]] = .ok (.tup [.str "lost", pl [0]]) [dr a4 b4 c4, .lst [], .lst [], .sfn 0 0 [], .sin "Told" [("answer", .ref 3)]] := fun x7 x9 x10 x11 x12 x13 x14 x15 => by
      have g1 : callL (cN 29 k__law_try) 1 0 [8] (lamL 1 nilA) [some (.scr (ns.map A.int)), some (.ref 0), some f.fA, some (.ref 1), some (.ref 2), some (.fl (pls L)), some (.fl (V.map A.int)), x7, some (th f 4 []), x9, x10, x11, x12, x13, x14, x15] [dr a4 b4 c4, .lst [], .lst [], .sfn 0 0 [], .sin "Told" [("answer", .ref 3)]] = behL 5 1 1 (cN 29 k__law_try [.ref 5] S5) := rfl
      unfold trimE
      rw [g1, f3]
      simp only [behL]
      rw [if_pos (by simp), show List.set (susp 1 S5) 5 (Ob.sfn 1 0 []) = [dr a4 b4 c4, .lst [], .lst [], .sfn 0 0 [], .sin "Told" [("answer", .ref 3)]] ++ [Ob.sfn 1 0 []] from rfl, trim_app]
    have q3 : ∀ S : Sto, eqM false (.tup [.str "lost", pl [0]]) (.tup [.str "lost", pl [0]]) S = .ok (.bl true) S := fun S => by
      have e : datS S (.tup [.str "lost", pl [0]]) = some (.tuple [.str "lost", .tuple [.int 0]]) := rfl
      show (match datS S (.tup [.str "lost", pl [0]]), datS S (.tup [.str "lost", pl [0]]) with
        | some x, some y => if SeqAt.shaped x = true ∧ SeqAt.shaped y = true then Rs.ok (A.bl (PyData.eqv x y != false)) S else .no
        | _, _ => .no) = _
      simp only [e]
      rw [if_pos (by decide +kernel), show PyData.eqv (.tuple [.str "lost", .tuple [.int 0]]) (.tuple [.str "lost", .tuple [.int 0]]) = true by decide +kernel]
      rfl
    have e7 : ∀ r x7 x9 x10 x11 x12 x13 x14 x15, forL (asgN 9) (b_law_2 (cN 29) 3) (.int (0 + (0 : Nat)) :: r) [some (.scr (ns.map A.int)), some (.ref 0), some f.fA, some (.ref 1), some (.ref 2), some (.fl (pls L)), some (.fl (V.map A.int)), x7, some (th f 4 []), x9, x10, x11, x12, x13, x14, x15] [dr a3 b3 c3, .lst [], .lst [], .sfn 0 0 [], .sin "Told" [("answer", .ref 3)]] = .rt (.bl true) [dr a4 b4 c4, .lst [], .lst [], .sfn 0 0 [], .sin "Told" [("answer", .ref 3)]] := fun r x7 x9 x10 x11 x12 x13 x14 x15 => by
      rw [forN]
      simp [b_law_2, e6, q2, f4, q3]
    refine ⟨trim [] [dr a4 b4 c4, .lst [], .lst [], .sfn 0 0 [], .sin "Told" [("answer", .ref 3)]], ?_⟩
    have e8 := e7 [.int (0 + (1 : Nat)), .int (0 + (2 : Nat)), .int (0 + (3 : Nat)), .int (0 + (4 : Nat)), .int (0 + (5 : Nat))] none none none none none none none none
    rw [← rg] at e8
    simp [-x_fldM, m_law, e0, e1, e2, e3, k5, sm, e8]
end FL

namespace FL
open PySem PySem.Spec PyProof.Rows L2
abbrev Zt.mk_law : Nat := 0
structure Zt (P : Program) (w : World) (K : PySem.W.Frag) (mg : Str → Option Value) (base : Heap) (n : Nat) (C : Nat → List A → M A) : Prop where
  z_len : mg "len" = none
  z_int : mg "int" = none
  z_tuple : mg "tuple" = none
  z_list : mg "list" = none
  z_isinstance : mg "isinstance" = none
  z_zip : mg "zip" = none
  z_all : mg "all" = none
  z_dict : mg "dict" = none
  z_bool : mg "bool" = none
  z_range : mg "range" = none
  z_super : mg "super" = none
  g_Space : mg "Space" = some (.ref (He.ga K "Space"))
  g_Options : mg "Options" = some (.ref (He.ga K "Options"))
  g_Pair : mg "Pair" = some (.ref (He.ga K "Pair"))
  g_Power : mg "Power" = some (.ref (He.ga K "Power"))
  g_Endless : mg "Endless" = some (.ref (He.ga K "Endless"))
  g_Thing : mg "Thing" = some (.ref (He.ga K "Thing"))
  g_Fan : mg "Fan" = some (.ref (He.ga K "Fan"))
  g_Either : mg "Either" = some (.ref (He.ga K "Either"))
  g_Order : mg "Order" = some (.ref (He.ga K "Order"))
  g_Sameness : mg "Sameness" = some (.ref (He.ga K "Sameness"))
  g_BadSpace : mg "BadSpace" = some (.ref (He.ga K "BadSpace"))
  g_NoPlace : mg "NoPlace" = some (.ref (He.ga K "NoPlace"))
  g_BadAnswer : mg "BadAnswer" = some (.ref (He.ga K "BadAnswer"))
  at_ : AtA K at_
  isA : IsA K mg cs sub
  er : XcA K er
  er_BadSpace : ErA P w K mg base "BadSpace" ["value"]
  er_NoPlace : ErA P w K mg base "NoPlace" ["place"]
  er_BadAnswer : ErA P w K mg base "BadAnswer" ["place", "given"]
  c__law_source : ClA P w K mg base n "_law_source" (C 0)
  c__law_draw : ClA P w K mg base n "_law_draw" (C 1)
  c__law_pick : ClA P w K mg base n "_law_pick" (C 2)
  c__law_same : ClA P w K mg base n "_law_same" (C 3)
  c__law_up : ClA P w K mg base n "_law_up" (C 4)
  c__law_form : ClA P w K mg base n "_law_form" (C 5)
  c__law_space : ClA P w K mg base n "_law_space" (C 6)
  c__law_place : ClA P w K mg base n "_law_place" (C 7)
  c__law_places : ClA P w K mg base n "_law_places" (C 8)
  c__law_count : ClA P w K mg base n "_law_count" (C 9)
  c__law_at : ClA P w K mg base n "_law_at" (C 10)
  c__law_noted : ClA P w K mg base n "_law_noted" (C 11)
  c__law_there : ClA P w K mg base n "_law_there" (C 12)
  c__law_bent : ClA P w K mg base n "_law_bent" (C 13)
  c__law_try : ClA P w K mg base n "_law_try" (C 14)
  c_law : ClA P w K mg base n "law" (C 15)
  c_is_integer : ClA P w K mg base n "is_integer" (C 16)
  c_told : ClA P w K mg base n "told" (C 33)
  c_answer_at : ClA P w K mg base n "answer_at" (C 34)
  c_last_answer : ClA P w K mg base n "last_answer" (C 35)
  mk_Endless : MkA P w K mg base n "Endless" (C 27)
  mk_Options : MkA P w K mg base n "Options" (C 22)
  mk_Pair : MkA P w K mg base n "Pair" (C 23)
  mk_Power : MkA P w K mg base n "Power" (C 25)
  mk_Thing : MkA P w K mg base n "Thing" (C 29)
  f_k_Space___init__ : FnA P w K mg base n (He.fAd K ("Space", some "__init__")) (C 17)
  mt : MtA P w K mg base n (mt C)
  sl : SlA K sl_
  ms : MtS P w K mg base n (ms C)
  ci : CiA P w K mg base n (ci C)
  ms_Told : MkS P w K mg base "Told" ["answer"]
  lm : LmT P w K mg base n (lf C)
  tu : ∀ p ∈ LT.tabs K, ∀ q ∈ LT.tabs K, p.1 = q.1 → p.2 = q.2
  tb_law : LamX.TabB base mg (He.cT K ("law", none)).1 (He.cT K ("law", none)).2
  owMult : OwA P w K mg base n .Mult (owMult C)
  owPow : OwA P w K mg base n .Pow (owPow C)
theorem Zt.nm {P : Program} {w : World} {K : PySem.W.Frag} {mg : Str → Option Value} {base : Heap} {n : Nat} {C : Nat → List A → M A} {X : Cx} {x : Str} (g : mg x = some (.ref (He.ga K x))) (hX : X.mg = mg) (hK : X.K = K) (hg : Gl X x) (hd : (x == ("__debug__" : Str)) = false) : Names X x (.ref (He.ga X.K x)) := by
  subst hX hK
  exact ⟨hg, hd, .inl g⟩
section
variable {P : Program} {w : World} {K : PySem.W.Frag} {mg : Str → Option Value} {base : Heap} {n : Nat} {C : Nat → List A → M A}
abbrev s__law_source : Stmt := top 35
theorem sc__law_source : FnScope ["_law_script", "_law_k", "_law_cell"] ["_law_script", "_law_k"] (defScope s__law_source) := ⟨rfl, rfl, rfl, by decide +kernel, rfl, by decide +kernel, by decide +kernel⟩
theorem fn__law_source (Z : Zt P w K mg base n C) (h1 : 1 ≤ n) {f : Addr} {fd : FuncData} (F : FnP K "_law_source" "_law_source" s__law_source f fd) : FnK P w K mg base (n + 2) f fd ["_law_script", "_law_k"] (fnM 2 3 (m__law_source C)) :=
  fn_A (k := n + 1) F sc__law_source fun cdv A' outer s H E hr hp =>
  (ass_cons (as_set (i := 2) sc__law_source.nd rfl (.inl rfl) (ae_ite (at_cmp (oa_lt (FL.u0 hr)) (av 1) (ae_callB (ca_len) (by rfl) (Z.z_len) (by decide +kernel) (aa_cons (av 0) aa_nil)) (nomark _)) (ae_ix (FL.u2 hr) (av 0) (av 1) (fun _ _ => rfl)) (ae_op oa_add (ae_op oa_mulI ae_int (av 1)) ae_int)))
  (ass_one (as_ret (ae_lstL (aa_cons (ae_ite (at_cmp (oa_ge) (av 2) (ae_op oa_powI ae_int ae_int) (nomark _)) (av 2) ae_int) (aa_cons (ae_op oa_mod (ae_callTy (ca_int) (by rfl) (Z.z_int) (by decide +kernel) (aa_cons (av 2) aa_nil)) ae_int) (aa_cons ae_int aa_nil)))))))
abbrev s__law_draw : Stmt := top 36
theorem sc__law_draw : FnScope ["_law_draws", "_law_many", "_law_found", "_law_seed"] ["_law_draws", "_law_many"] (defScope s__law_draw) := ⟨rfl, rfl, rfl, by decide +kernel, rfl, by decide +kernel, by decide +kernel⟩
theorem fn__law_draw (Z : Zt P w K mg base n C) (h1 : 1 ≤ n) {f : Addr} {fd : FuncData} (F : FnP K "_law_draw" "_law_draw" s__law_draw f fd) : FnK P w K mg base (n + 2) f fd ["_law_draws", "_law_many"] (fnM 2 4 (m__law_draw C)) :=
  fn_A (k := n + 1) F sc__law_draw fun cdv A' outer s H E hr hp =>
  (ass_cons (as_if (at_cmp (oa_gt) (ae_ix (FL.u2 hr) (av 0) ae_int (fun _ _ => rfl)) ae_int (nomark _))
  (ass_cons (as_set (i := 2) sc__law_draw.nd rfl (.inl rfl) (ae_op oa_mod (ae_callTy (ca_int) (by rfl) (Z.z_int) (by decide +kernel) (aa_cons (ae_ix (FL.u2 hr) (av 0) ae_int (fun _ _ => rfl)) aa_nil)) (av 1)))
  (ass_cons (as_sub (FL.u2 hr) (av 0) ae_int (ae_op oa_fdiv (ae_ix (FL.u2 hr) (av 0) ae_int (fun _ _ => rfl)) (av 1)))
  (ass_one (as_ret (av 2)))))
  ass_nil)
  (ass_cons (as_sub (FL.u2 hr) (av 0) ae_int (ae_op oa_add (ae_ix (FL.u2 hr) (av 0) ae_int (fun _ _ => rfl)) ae_int))
  (ass_cons (as_set (i := 3) sc__law_draw.nd rfl (.inl rfl) (ae_op oa_mod (ae_op oa_powI (ae_callTy (ca_int) (by rfl) (Z.z_int) (by decide +kernel) (aa_cons (ae_op oa_add (ae_ix (FL.u2 hr) (av 0) ae_int (fun _ _ => rfl)) (ae_op oa_mulI ae_int (ae_ix (FL.u2 hr) (av 0) ae_int (fun _ _ => rfl)))) aa_nil)) ae_int) ae_int))
  (ass_one (as_ret (ae_op oa_mod (ae_op oa_fdiv (ae_op oa_mod (ae_op oa_mulI (ae_op oa_add (av 3) (ae_ix (FL.u2 hr) (av 0) ae_int (fun _ _ => rfl))) ae_int) ae_int) ae_int) (av 1)))))))
abbrev s__law_pick : Stmt := top 37
theorem sc__law_pick : FnScope ["_law_draws", "_law_some"] ["_law_draws", "_law_some"] (defScope s__law_pick) := ⟨rfl, rfl, rfl, by decide +kernel, rfl, by decide +kernel, by decide +kernel⟩
theorem fn__law_pick (Z : Zt P w K mg base n C) (h1 : 1 ≤ n) {f : Addr} {fd : FuncData} (F : FnP K "_law_pick" "_law_pick" s__law_pick f fd) : FnK P w K mg base (n + 2) f fd ["_law_draws", "_law_some"] (fnM 2 2 (m__law_pick C)) :=
  fn_A (k := n + 1) F sc__law_pick fun cdv A' outer s H E hr hp =>
  (ass_one (as_ret (ae_ix (FL.u2 hr) (av 1) (ae_call (Z.c__law_draw) hr (by omega) (by rfl) (aa_cons (av 0) (aa_cons (ae_callB (ca_len) (by rfl) (Z.z_len) (by decide +kernel) (aa_cons (av 1) aa_nil)) aa_nil))) (fun _ _ => rfl))))
abbrev s__law_same : Stmt := top 38
theorem sc__law_same : FnScope ["_law_found", "_law_due", "_law_left", "_law_right"] ["_law_found", "_law_due"] (defScope s__law_same) := ⟨rfl, rfl, rfl, by decide +kernel, rfl, by decide +kernel, by decide +kernel⟩
theorem fn__law_same (Z : Zt P w K mg base n C) (h1 : 1 ≤ n) {f : Addr} {fd : FuncData} (F : FnP K "_law_same" "_law_same" s__law_same f fd) : FnK P w K mg base (n + 2) f fd ["_law_found", "_law_due"] (fnM 2 4 (m__law_same C)) :=
  fn_A (k := n + 1) F sc__law_same fun cdv A' outer s H E hr hp =>
  (ass_cons (as_if (at_val (ae_callB (ca_isi Z.isA) (by rfl) (Z.z_isinstance) (by decide +kernel) (aa_cons (av 1) (aa_cons (ae_tup (aa_cons (ae_ty (by rfl) (Z.z_list) (by decide +kernel)) (aa_cons (ae_ty (by rfl) (Z.z_tuple) (by decide +kernel)) aa_nil))) aa_nil))))
  (ass_cons (as_if (aw_at (aw_or (at_cmp (oa_ne (FL.u64 hr)) (ae_callB (ca_isi Z.isA) (by rfl) (Z.z_isinstance) (by decide +kernel) (aa_cons (av 0) (aa_cons (ae_ty (by rfl) (Z.z_list) (by decide +kernel)) aa_nil))) (ae_callB (ca_isi Z.isA) (by rfl) (Z.z_isinstance) (by decide +kernel) (aa_cons (av 1) (aa_cons (ae_ty (by rfl) (Z.z_list) (by decide +kernel)) aa_nil))) (nomark _)) (aw_or1 (at_cmp (oa_ne (FL.u64 hr)) (ae_callB (ca_isi Z.isA) (by rfl) (Z.z_isinstance) (by decide +kernel) (aa_cons (av 0) (aa_cons (ae_ty (by rfl) (Z.z_tuple) (by decide +kernel)) aa_nil))) (ae_callB (ca_isi Z.isA) (by rfl) (Z.z_isinstance) (by decide +kernel) (aa_cons (av 1) (aa_cons (ae_ty (by rfl) (Z.z_tuple) (by decide +kernel)) aa_nil))) (nomark _)))))
  (ass_one (as_ret ae_bl))
  ass_nil)
  (ass_one (as_lock (i := 1) (as_lock (i := 0) (as_ret (ae_and (ae_cmp (oa_eq (FL.u64 hr)) (ae_callB (ca_len) (by rfl) (Z.z_len) (by decide +kernel) (aa_cons (av 0) aa_nil)) (ae_callB (ca_len) (by rfl) (Z.z_len) (by decide +kernel) (aa_cons (av 1) aa_nil)) (nomark _)) (ae_one (ae_callB (ca_all rfl) (by rfl) (Z.z_all) (by decide +kernel) (aa_cons (ae_lc (own := [("_law_left", 2), ("_law_right", 3)]) (g := (gTup K 2 (gCons (gName 2) (gCons (gName 3) gNil)))) false rfl sc__law_same.nd (ai_zip (by rfl) (Z.z_zip) (aa_cons (av 0) (aa_cons (av 1) aa_nil))) (blkOk_by (own := [("_law_left", 2), ("_law_right", 3)]) (N := ["_law_found", "_law_due", "_law_left", "_law_right"]) (sc := defScope s__law_same) (by decide +kernel)) (fun _ _ _ _ _ => (tb_tup (n := 2) rfl (tbs_cons (tb_name (i := 2) sc__law_same.nd rfl (.inl rfl)) (tbs_cons (tb_name (i := 3) sc__law_same.nd rfl (.inl rfl)) tbs_nil)))) (fun _ _ _ _ _ => ats_nil) (fun _ _ _ _ _ => (ae_call (Z.c__law_same) hr (by omega) (by rfl) (aa_cons (av 2) (aa_cons (av 3) aa_nil))))) aa_nil)))))))))
  ass_nil)
  (ass_cons (as_if (at_val (ae_callB (ca_isi Z.isA) (by rfl) (Z.z_isinstance) (by decide +kernel) (aa_cons (av 1) (aa_cons (ae_ty (by rfl) (Z.z_dict) (by decide +kernel)) aa_nil))))
  (ass_cons (as_if (at_not (at_val (ae_callB (ca_isi Z.isA) (by rfl) (Z.z_isinstance) (by decide +kernel) (aa_cons (av 0) (aa_cons (ae_ty (by rfl) (Z.z_dict) (by decide +kernel)) aa_nil)))))
  (ass_one (as_ret ae_bl))
  ass_nil)
  (ass_one (as_ret (ae_call (Z.c__law_same) hr (by omega) (by rfl) (aa_cons (ae_its rfl (by rfl) (Z.z_list) (by decide +kernel) (av 0)) (aa_cons (ae_its rfl (by rfl) (Z.z_list) (by decide +kernel) (av 1)) aa_nil))))))
  ass_nil)
  (ass_cons (as_if (at_val (ae_callB (ca_isi Z.isA) (by rfl) (Z.z_isinstance) (by decide +kernel) (aa_cons (av 1) (aa_cons (ae_tup (aa_cons (ae_ty (by rfl) (Z.z_bool) (by decide +kernel)) (aa_cons (ae_ty (by rfl) (Z.z_int) (by decide +kernel)) aa_nil))) aa_nil))))
  (ass_one (as_ret (ae_and (ae_callB (ca_isi Z.isA) (by rfl) (Z.z_isinstance) (by decide +kernel) (aa_cons (av 0) (aa_cons (ae_ty (by rfl) (Z.z_int) (by decide +kernel)) aa_nil))) (ae_and (ae_cmp (oa_eq (FL.u64 hr)) (ae_callB (ca_isi Z.isA) (by rfl) (Z.z_isinstance) (by decide +kernel) (aa_cons (av 0) (aa_cons (ae_ty (by rfl) (Z.z_bool) (by decide +kernel)) aa_nil))) (ae_callB (ca_isi Z.isA) (by rfl) (Z.z_isinstance) (by decide +kernel) (aa_cons (av 1) (aa_cons (ae_ty (by rfl) (Z.z_bool) (by decide +kernel)) aa_nil))) (nomark _)) (ae_one (ae_cmp (oa_eq (FL.u64 hr)) (av 0) (av 1) (nomark _)))))))
  ass_nil)
  (ass_one (as_ret (ae_and (ae_not (ae_callB (ca_isi Z.isA) (by rfl) (Z.z_isinstance) (by decide +kernel) (aa_cons (av 0) (aa_cons (ae_tup (aa_cons (ae_ty (by rfl) (Z.z_bool) (by decide +kernel)) (aa_cons (ae_ty (by rfl) (Z.z_int) (by decide +kernel)) (aa_cons (ae_ty (by rfl) (Z.z_list) (by decide +kernel)) (aa_cons (ae_ty (by rfl) (Z.z_tuple) (by decide +kernel)) (aa_cons (ae_ty (by rfl) (Z.z_dict) (by decide +kernel)) aa_nil)))))) aa_nil)))) (ae_one (ae_cmp (oa_eq (FL.u64 hr)) (av 0) (av 1) (nomark _)))))))))
abbrev s__law_up : Stmt := top 39
theorem sc__law_up : FnScope ["_law_places_here", "_law_row", "_law_place_here", "_law_at_here", "_law_other"] ["_law_places_here"] (defScope s__law_up) := ⟨rfl, rfl, rfl, by decide +kernel, rfl, by decide +kernel, by decide +kernel⟩
theorem fn__law_up (Z : Zt P w K mg base n C) (h1 : 1 ≤ n) {f : Addr} {fd : FuncData} (F : FnP K "_law_up" "_law_up" s__law_up f fd) : FnK P w K mg base (n + 2) f fd ["_law_places_here"] (fnM 1 5 (m__law_up C)) :=
  fn_A (k := n + 1) F sc__law_up fun cdv A' outer s H E hr hp =>
  (ass_cons (as_set (i := 1) sc__law_up.nd rfl (.inl rfl) (ae_lstL aa_nil))
  (ass_cons (as_for hp rfl (ai_any (av 0)) (tg_name (i := 2) sc__law_up.nd rfl (.inr rfl))
  (ass_cons (as_lock (i := 1) (as_set (i := 3) sc__law_up.nd rfl (.inl rfl) (ae_callB (ca_len) (by rfl) (Z.z_len) (by decide +kernel) (aa_cons (ae_lc (own := [("_law_other", 4)]) (g := (gName 4)) false rfl sc__law_up.nd (ai_any (av 1)) (blkOk_by (own := [("_law_other", 4)]) (N := ["_law_places_here", "_law_row", "_law_place_here", "_law_at_here", "_law_other"]) (sc := defScope s__law_up) (by decide +kernel)) (fun _ _ _ _ _ => (tb_name (i := 4) sc__law_up.nd rfl (.inl rfl))) (fun _ _ _ _ _ => (ats_one (at_cmp (oa_lt (FL.u0 hr)) (av 4) (av 2) (nomark _)))) (fun _ _ _ _ _ => (av 4))) aa_nil))))
  (ass_one (as_if (at_cmp (oa_notIn (FL.u65 hr)) (av 2) (av 1) (by rfl))
  (ass_one (as_expr (ae_lm PySem.F.slot_list_insert PySem.F.type_list_insert md_insert (av 1) (aa_cons (av 3) (aa_cons (av 2) aa_nil)))))
  ass_nil))))
  (ass_frz (i := 1) (ass_one (as_ret (av 1))))))
abbrev s__law_form : Stmt := top 40
theorem sc__law_form : FnScope ["_law_draws", "_law_deep", "_law_way"] ["_law_draws", "_law_deep"] (defScope s__law_form) := ⟨rfl, rfl, rfl, by decide +kernel, rfl, by decide +kernel, by decide +kernel⟩
theorem fn__law_form (Z : Zt P w K mg base n C) (h1 : 1 ≤ n) {f : Addr} {fd : FuncData} (F : FnP K "_law_form" "_law_form" s__law_form f fd) : FnK P w K mg base (n + 2) f fd ["_law_draws", "_law_deep"] (fnM 2 3 (m__law_form C)) :=
  fn_A (k := n + 1) F sc__law_form fun cdv A' outer s H E hr hp =>
  (ass_cons (as_set (i := 2) sc__law_form.nd rfl (.inl rfl) (ae_ite (at_cmp (oa_gt) (av 1) ae_int (nomark _)) (ae_call (Z.c__law_draw) hr (by omega) (by rfl) (aa_cons (av 0) (aa_cons ae_int aa_nil))) ae_int))
  (ass_cons (as_if (at_cmp (oa_lt (FL.u0 hr)) (av 2) ae_int (nomark _))
  (ass_one (as_ret (ae_tup (aa_cons ae_str (aa_cons (ae_op oa_add ae_int (ae_call (Z.c__law_draw) hr (by omega) (by rfl) (aa_cons (av 0) (aa_cons ae_int aa_nil)))) aa_nil)))))
  ass_nil)
  (ass_cons (as_if (at_cmp (oa_lt (FL.u0 hr)) (av 2) ae_int (nomark _))
  (ass_one (as_ret (ae_tup (aa_cons ae_str (aa_cons (ae_call (Z.c__law_form) hr (by omega) (by rfl) (aa_cons (av 0) (aa_cons (ae_op oa_sub (av 1) ae_int) aa_nil))) aa_nil)))))
  ass_nil)
  (ass_cons (as_if (at_cmp (oa_lt (FL.u0 hr)) (av 2) ae_int (nomark _))
  (ass_one (as_ret (ae_tup (aa_cons ae_str (aa_cons (ae_call (Z.c__law_form) hr (by omega) (by rfl) (aa_cons (av 0) (aa_cons (ae_op oa_sub (av 1) ae_int) aa_nil))) (aa_cons (ae_call (Z.c__law_form) hr (by omega) (by rfl) (aa_cons (av 0) (aa_cons (ae_op oa_sub (av 1) ae_int) aa_nil))) aa_nil))))))
  ass_nil)
  (ass_one (as_ret (ae_tup (aa_cons ae_str (aa_cons (ae_call (Z.c__law_form) hr (by omega) (by rfl) (aa_cons (av 0) (aa_cons (ae_op oa_sub (av 1) ae_int) aa_nil))) (aa_cons (ae_call (Z.c__law_draw) hr (by omega) (by rfl) (aa_cons (av 0) (aa_cons ae_int aa_nil))) aa_nil))))))))))
abbrev s__law_space : Stmt := top 41
theorem sc__law_space : FnScope ["_law_form_here", "_law_inner"] ["_law_form_here"] (defScope s__law_space) := ⟨rfl, rfl, rfl, by decide +kernel, rfl, by decide +kernel, by decide +kernel⟩
theorem fn__law_space (Z : Zt P w K mg base n C) (h1 : 1 ≤ n) {f : Addr} {fd : FuncData} (F : FnP K "_law_space" "_law_space" s__law_space f fd) : FnK P w K mg base (n + 2) f fd ["_law_form_here"] (fnM 1 2 (m__law_space C)) :=
  fn_A (k := n + 1) F sc__law_space fun cdv A' outer s H E hr hp =>
  (ass_cons (as_if (at_cmp (oa_eq (FL.u64 hr)) (ae_ix (FL.u2 hr) (av 0) ae_int (fun _ _ => rfl)) ae_str (nomark _))
  (ass_one (as_ret (ae_make (Z.mk_Options) hr (by omega) (by rfl) (aa_cons (ae_ix (FL.u2 hr) (av 0) ae_int (fun _ _ => rfl)) aa_nil))))
  ass_nil)
  (ass_cons (as_if (at_cmp (oa_eq (FL.u64 hr)) (ae_ix (FL.u2 hr) (av 0) ae_int (fun _ _ => rfl)) ae_str (nomark _))
  (ass_one (as_ret (ae_make (Z.mk_Endless) hr (by omega) (by rfl) (aa_cons (ae_call (Z.c__law_space) hr (by omega) (by rfl) (aa_cons (ae_ix (FL.u2 hr) (av 0) ae_int (fun _ _ => rfl)) aa_nil)) aa_nil))))
  ass_nil)
  (ass_cons (as_if (at_cmp (oa_eq (FL.u64 hr)) (ae_ix (FL.u2 hr) (av 0) ae_int (fun _ _ => rfl)) ae_str (nomark _))
  (ass_one (as_ret (ae_op (op_own (Z.owMult) hr (by omega)) (ae_call (Z.c__law_space) hr (by omega) (by rfl) (aa_cons (ae_ix (FL.u2 hr) (av 0) ae_int (fun _ _ => rfl)) aa_nil)) (ae_call (Z.c__law_space) hr (by omega) (by rfl) (aa_cons (ae_ix (FL.u2 hr) (av 0) ae_int (fun _ _ => rfl)) aa_nil)))))
  ass_nil)
  (ass_cons (as_set (i := 1) sc__law_space.nd rfl (.inl rfl) (ae_call (Z.c__law_space) hr (by omega) (by rfl) (aa_cons (ae_ix (FL.u2 hr) (av 0) ae_int (fun _ _ => rfl)) aa_nil)))
  (ass_one (as_ret (ae_ix (FL.u2 hr) (ae_lstF (aa_cons (ae_op (op_own (Z.owPow) hr (by omega)) (av 1) ae_int) (aa_cons (ae_op (op_own (Z.owPow) hr (by omega)) (av 1) ae_int) (aa_cons (ae_op (op_own (Z.owPow) hr (by omega)) (av 1) ae_int) (aa_cons (ae_op (op_own (Z.owPow) hr (by omega)) (av 1) ae_int) aa_nil))))) (ae_ix (FL.u2 hr) (av 0) ae_int (fun _ _ => rfl)) (fun _ _ => rfl))))))))
abbrev s__law_place : Stmt := top 42
theorem sc__law_place : FnScope ["_law_draws", "_law_form_here", "_law_head", "_law_rest", "_law_upper"] ["_law_draws", "_law_form_here"] (defScope s__law_place) := ⟨rfl, rfl, rfl, by decide +kernel, rfl, by decide +kernel, by decide +kernel⟩
theorem fn__law_place (Z : Zt P w K mg base n C) (h1 : 1 ≤ n) {f : Addr} {fd : FuncData} (F : FnP K "_law_place" "_law_place" s__law_place f fd) : FnK P w K mg base (n + 2) f fd ["_law_draws", "_law_form_here"] (fnM 2 5 (m__law_place C)) :=
  fn_A (k := n + 1) F sc__law_place fun cdv A' outer s H E hr hp =>
  (ass_cons (as_if (at_cmp (oa_eq (FL.u64 hr)) (ae_ix (FL.u2 hr) (av 1) ae_int (fun _ _ => rfl)) ae_str (nomark _))
  (ass_one (as_ret (ae_tup aa_nil)))
  ass_nil)
  (ass_cons (as_if (at_cmp (oa_eq (FL.u64 hr)) (ae_ix (FL.u2 hr) (av 1) ae_int (fun _ _ => rfl)) ae_str (nomark _))
  (ass_cons (as_set (i := 2) sc__law_place.nd rfl (.inl rfl) (ae_call (Z.c__law_draw) hr (by omega) (by rfl) (aa_cons (av 0) (aa_cons ae_int aa_nil))))
  (ass_cons (as_set (i := 3) sc__law_place.nd rfl (.inl rfl) (ae_call (Z.c__law_place) hr (by omega) (by rfl) (aa_cons (av 0) (aa_cons (ae_ix (FL.u2 hr) (av 1) (ae_op oa_add ae_int (av 2)) (fun _ _ => rfl)) aa_nil))))
  (ass_one (as_if (at_cmp (oa_is) (av 3) ae_non (nomark _))
  (ass_cons (as_set (i := 2) sc__law_place.nd rfl (.inl rfl) (ae_op oa_sub ae_int (av 2)))
  (ass_one (as_set (i := 3) sc__law_place.nd rfl (.inl rfl) (ae_call (Z.c__law_place) hr (by omega) (by rfl) (aa_cons (av 0) (aa_cons (ae_ix (FL.u2 hr) (av 1) (ae_op oa_add ae_int (av 2)) (fun _ _ => rfl)) aa_nil))))))
  ass_nil))))
  (ass_cons (as_set (i := 4) sc__law_place.nd rfl (.inl rfl) (ae_ite (at_cmp (oa_eq (FL.u64 hr)) (ae_ix (FL.u2 hr) (av 1) ae_int (fun _ _ => rfl)) ae_str (nomark _)) (ae_ix (FL.u2 hr) (av 1) ae_int (fun _ _ => rfl)) ae_int))
  (ass_cons (as_if (at_cmp (oa_eq (FL.u64 hr)) (av 4) ae_int (nomark _))
  (ass_one (as_ret ae_non))
  ass_nil)
  (ass_cons (as_set (i := 2) sc__law_place.nd rfl (.inl rfl) (ae_call (Z.c__law_draw) hr (by omega) (by rfl) (aa_cons (av 0) (aa_cons (av 4) aa_nil))))
  (ass_cons (as_if (aw_at (aw_and (at_cmp (oa_eq (FL.u64 hr)) (ae_ix (FL.u2 hr) (av 1) ae_int (fun _ _ => rfl)) ae_str (nomark _)) (aw_and1 (at_cmp (oa_eq (FL.u64 hr)) (av 2) ae_int (nomark _)))))
  (ass_one (as_set (i := 2) sc__law_place.nd rfl (.inl rfl) (ae_op oa_add (ae_op oa_powI ae_int ae_int) (ae_call (Z.c__law_draw) hr (by omega) (by rfl) (aa_cons (av 0) (aa_cons ae_int aa_nil))))))
  ass_nil)
  (ass_one (as_set (i := 3) sc__law_place.nd rfl (.inl rfl) (ae_call (Z.c__law_place) hr (by omega) (by rfl) (aa_cons (av 0) (aa_cons (ae_ix (FL.u2 hr) (av 1) ae_int (fun _ _ => rfl)) aa_nil))))))))))
  (ass_one (as_ret (ae_ite (at_cmp (oa_is) (av 3) ae_non (nomark _)) ae_non (ae_op oa_add (ae_tup (aa_cons (av 2) aa_nil)) (av 3)))))))
abbrev s__law_places : Stmt := top 43
theorem sc__law_places : FnScope ["_law_draws", "_law_form_here", "_law_many", "_law_found", "_law_k", "_law_place_here"] ["_law_draws", "_law_form_here", "_law_many"] (defScope s__law_places) := ⟨rfl, rfl, rfl, by decide +kernel, rfl, by decide +kernel, by decide +kernel⟩
theorem fn__law_places (Z : Zt P w K mg base n C) (h1 : 1 ≤ n) {f : Addr} {fd : FuncData} (F : FnP K "_law_places" "_law_places" s__law_places f fd) : FnK P w K mg base (n + 2) f fd ["_law_draws", "_law_form_here", "_law_many"] (fnM 3 6 (m__law_places C)) :=
  fn_A (k := n + 1) F sc__law_places fun cdv A' outer s H E hr hp =>
  (ass_cons (as_setLc (i := 3) (own := [("_law_k", 4)]) (g := (gName 4)) false rfl sc__law_places.nd rfl rfl (sw_true rfl rfl rfl (by decide +kernel)) (ai_rng1 (by rfl) (Z.z_range) (aa_cons (av 2) aa_nil)) (blkOk_by (own := [("_law_k", 4)]) (N := ["_law_draws", "_law_form_here", "_law_many", "_law_found", "_law_k", "_law_place_here"]) (sc := defScope s__law_places) (by decide +kernel)) (fun _ _ _ _ _ => (tb_name (i := 4) sc__law_places.nd rfl (.inl rfl))) (fun _ _ _ _ _ => ats_nil) (fun _ _ _ _ _ => (ae_call (Z.c__law_place) hr (by omega) (by rfl) (aa_cons (av 0) (aa_cons (av 1) aa_nil)))))
  (ass_one (as_ret (ae_call (Z.c__law_up) hr (by omega) (by rfl) (aa_cons (ae_lc (own := [("_law_place_here", 5)]) (g := (gName 5)) false rfl sc__law_places.nd (ai_any (av 3)) (blkOk_by (own := [("_law_place_here", 5)]) (N := ["_law_draws", "_law_form_here", "_law_many", "_law_found", "_law_k", "_law_place_here"]) (sc := defScope s__law_places) (by decide +kernel)) (fun _ _ _ _ _ => (tb_name (i := 5) sc__law_places.nd rfl (.inl rfl))) (fun _ _ _ _ _ => (ats_one (at_cmp (oa_isNot) (av 5) ae_non (nomark _)))) (fun _ _ _ _ _ => (av 5))) aa_nil)))))
abbrev s__law_count : Stmt := top 44
theorem sc__law_count : FnScope ["_law_form_here", "_law_place_here"] ["_law_form_here", "_law_place_here"] (defScope s__law_count) := ⟨rfl, rfl, rfl, by decide +kernel, rfl, by decide +kernel, by decide +kernel⟩
theorem fn__law_count (Z : Zt P w K mg base n C) (h1 : 1 ≤ n) {f : Addr} {fd : FuncData} (F : FnP K "_law_count" "_law_count" s__law_count f fd) : FnK P w K mg base (n + 2) f fd ["_law_form_here", "_law_place_here"] (fnM 2 2 (m__law_count C)) :=
  fn_A (k := n + 1) F sc__law_count fun cdv A' outer s H E hr hp =>
  (ass_cons (as_if (at_cmp (oa_eq (FL.u64 hr)) (ae_ix (FL.u2 hr) (av 0) ae_int (fun _ _ => rfl)) ae_str (nomark _))
  (ass_one (as_ret (ae_ix (FL.u2 hr) (av 0) ae_int (fun _ _ => rfl))))
  ass_nil)
  (ass_one (as_ret (ae_call (Z.c__law_count) hr (by omega) (by rfl) (aa_cons (ae_ite (at_cmp (oa_eq (FL.u64 hr)) (ae_ix (FL.u2 hr) (av 0) ae_int (fun _ _ => rfl)) ae_str (nomark _)) (ae_ix (FL.u2 hr) (av 0) (ae_op oa_add ae_int (ae_ix (FL.u2 hr) (av 1) ae_int (fun _ _ => rfl))) (fun _ _ => rfl)) (ae_ix (FL.u2 hr) (av 0) ae_int (fun _ _ => rfl))) (aa_cons (ae_slice (av 1) (ao_some ae_int) ao_none) aa_nil))))))
abbrev s__law_at : Stmt := top 45
theorem sc__law_at : FnScope ["_law_places_here", "_law_answers", "_law_place_here"] ["_law_places_here", "_law_answers", "_law_place_here"] (defScope s__law_at) := ⟨rfl, rfl, rfl, by decide +kernel, rfl, by decide +kernel, by decide +kernel⟩
theorem fn__law_at (Z : Zt P w K mg base n C) (h1 : 1 ≤ n) {f : Addr} {fd : FuncData} (F : FnP K "_law_at" "_law_at" s__law_at f fd) : FnK P w K mg base (n + 2) f fd ["_law_places_here", "_law_answers", "_law_place_here"] (fnM 3 3 (m__law_at C)) :=
  fn_A (k := n + 1) F sc__law_at fun cdv A' outer s H E hr hp =>
  (ass_one (as_ret (ae_ite (at_cmp (oa_in (FL.u65 hr)) (av 2) (av 0) (by rfl)) (ae_ix (FL.u2 hr) (av 1) (ae_lm PySem.F.slot_list_index PySem.F.type_list_index (md_indexD (FL.u65 hr)) (av 0) (aa_cons (av 2) aa_nil)) (fun _ _ => rfl)) ae_int)))
abbrev s__law_noted : Stmt := top 46
theorem sc__law_noted : FnScope ["_law_log", "_law_places_here", "_law_answers", "_law_place_here"] ["_law_log", "_law_places_here", "_law_answers", "_law_place_here"] (defScope s__law_noted) := ⟨rfl, rfl, rfl, by decide +kernel, rfl, by decide +kernel, by decide +kernel⟩
theorem fn__law_noted (Z : Zt P w K mg base n C) (h1 : 1 ≤ n) {f : Addr} {fd : FuncData} (F : FnP K "_law_noted" "_law_noted" s__law_noted f fd) : FnK P w K mg base (n + 2) f fd ["_law_log", "_law_places_here", "_law_answers", "_law_place_here"] (fnM 4 4 (m__law_noted C)) :=
  fn_A (k := n + 1) F sc__law_noted fun cdv A' outer s H E hr hp =>
  (ass_cons (as_expr (ae_lm PySem.F.slot_list_append PySem.F.type_list_append md_append (av 0) (aa_cons (av 3) aa_nil)))
  (ass_one (as_ret (ae_call (Z.c__law_at) hr (by omega) (by rfl) (aa_cons (av 1) (aa_cons (av 2) (aa_cons (av 3) aa_nil)))))))
abbrev s__law_there : Stmt := top 47
theorem sc__law_there : FnScope ["_law_form_here", "_law_place_here"] ["_law_form_here", "_law_place_here"] (defScope s__law_there) := ⟨rfl, rfl, rfl, by decide +kernel, rfl, by decide +kernel, by decide +kernel⟩
theorem fn__law_there (Z : Zt P w K mg base n C) (h1 : 1 ≤ n) {f : Addr} {fd : FuncData} (F : FnP K "_law_there" "_law_there" s__law_there f fd) : FnK P w K mg base (n + 2) f fd ["_law_form_here", "_law_place_here"] (fnM 2 2 (m__law_there C)) :=
  fn_A (k := n + 1) F sc__law_there fun cdv A' outer s H E hr hp =>
  (ass_cons (as_if (at_cmp (oa_eq (FL.u64 hr)) (ae_ix (FL.u2 hr) (av 0) ae_int (fun _ _ => rfl)) ae_str (nomark _))
  (ass_one (as_ret (ae_cmp (oa_eq (FL.u64 hr)) (av 1) (ae_tup aa_nil) (nomark _))))
  ass_nil)
  (ass_cons (as_if (aw_at (aw_or (at_cmp (oa_eq (FL.u64 hr)) (av 1) (ae_tup aa_nil) (nomark _)) (aw_or1 (at_cmp (oa_lt (FL.u0 hr)) (ae_ix (FL.u2 hr) (av 1) ae_int (fun _ _ => rfl)) ae_int (nomark _)))))
  (ass_one (as_ret ae_bl))
  ass_nil)
  (ass_cons (as_if (at_cmp (oa_eq (FL.u64 hr)) (ae_ix (FL.u2 hr) (av 0) ae_int (fun _ _ => rfl)) ae_str (nomark _))
  (ass_one (as_ret (ae_and (ae_cmp (oa_lt (FL.u0 hr)) (ae_ix (FL.u2 hr) (av 1) ae_int (fun _ _ => rfl)) ae_int (nomark _)) (ae_one (ae_call (Z.c__law_there) hr (by omega) (by rfl) (aa_cons (ae_ix (FL.u2 hr) (av 0) (ae_op oa_add ae_int (ae_ix (FL.u2 hr) (av 1) ae_int (fun _ _ => rfl))) (fun _ _ => rfl)) (aa_cons (ae_slice (av 1) (ao_some ae_int) ao_none) aa_nil)))))))
  ass_nil)
  (ass_one (as_ret (ae_and (ae_or (ae_cmp (oa_eq (FL.u64 hr)) (ae_ix (FL.u2 hr) (av 0) ae_int (fun _ _ => rfl)) ae_str (nomark _)) (ae_one (ae_cmp (oa_lt (FL.u0 hr)) (ae_ix (FL.u2 hr) (av 1) ae_int (fun _ _ => rfl)) (ae_ix (FL.u2 hr) (av 0) ae_int (fun _ _ => rfl)) (nomark _)))) (ae_one (ae_call (Z.c__law_there) hr (by omega) (by rfl) (aa_cons (ae_ix (FL.u2 hr) (av 0) ae_int (fun _ _ => rfl)) (aa_cons (ae_slice (av 1) (ao_some ae_int) ao_none) aa_nil))))))))))
abbrev s__law_bent : Stmt := top 48
theorem sc__law_bent : FnScope ["_law_draws", "_law_place_here", "_law_way"] ["_law_draws", "_law_place_here"] (defScope s__law_bent) := ⟨rfl, rfl, rfl, by decide +kernel, rfl, by decide +kernel, by decide +kernel⟩
theorem fn__law_bent (Z : Zt P w K mg base n C) (h1 : 1 ≤ n) {f : Addr} {fd : FuncData} (F : FnP K "_law_bent" "_law_bent" s__law_bent f fd) : FnK P w K mg base (n + 2) f fd ["_law_draws", "_law_place_here"] (fnM 2 3 (m__law_bent C)) :=
  fn_A (k := n + 1) F sc__law_bent fun cdv A' outer s H E hr hp =>
  (ass_cons (as_set (i := 2) sc__law_bent.nd rfl (.inl rfl) (ae_call (Z.c__law_draw) hr (by omega) (by rfl) (aa_cons (av 0) (aa_cons ae_int aa_nil))))
  (ass_cons (as_if (at_cmp (oa_eq (FL.u64 hr)) (av 2) ae_int (nomark _))
  (ass_one (as_ret (ae_op oa_add (av 1) (ae_tup (aa_cons (ae_call (Z.c__law_draw) hr (by omega) (by rfl) (aa_cons (av 0) (aa_cons ae_int aa_nil))) aa_nil)))))
  ass_nil)
  (ass_cons (as_if (at_cmp (oa_eq (FL.u64 hr)) (av 2) ae_int (nomark _))
  (ass_one (as_ret (ae_slice (av 1) (ao_some ae_int) ao_none)))
  ass_nil)
  (ass_cons (as_if (at_cmp (oa_eq (FL.u64 hr)) (av 2) ae_int (nomark _))
  (ass_one (as_ret (ae_op oa_add (ae_tup (aa_cons (ae_call (Z.c__law_pick) hr (by omega) (by rfl) (aa_cons (av 0) (aa_cons (ae_lstF (aa_cons (ae_op oa_sub ae_int ae_int) (aa_cons ae_int (aa_cons ae_int (aa_cons ae_int aa_nil))))) aa_nil))) aa_nil)) (ae_slice (av 1) (ao_some ae_int) ao_none))))
  ass_nil)
  (ass_one (as_ret (av 1)))))))
abbrev s__law_try : Stmt := top 49
theorem sc__law_try : FnScope ["_law_ask", "_law_found", "e"] ["_law_ask"] (defScope s__law_try) := ⟨rfl, rfl, rfl, by decide +kernel, rfl, by decide +kernel, by decide +kernel⟩
theorem fn__law_try (Z : Zt P w K mg base n C) (h1 : 1 ≤ n) {f : Addr} {fd : FuncData} (F : FnP K "_law_try" "_law_try" s__law_try f fd) : FnK P w K mg base (n + 2) f fd ["_law_ask"] (fnM 1 3 (m__law_try C)) :=
  fn_A (k := n + 1) F sc__law_try fun cdv A' outer s H E hr hp =>
  (ass_cons (as_try Z.er rfl rfl sc__law_try.nd rfl rfl rfl (Zt.nm (P := P) (w := w) (base := base) (n := n) (C := C) Z.g_NoPlace rfl rfl (by rfl) (by decide)) (fun pn xe hp =>
  (ass_one (as_set (i := 1) sc__law_try.nd rfl (.inl rfl) (ae_tup (aa_cons ae_str (aa_cons (ae_callV0 (i := 0) Z.lm hr (by omega)) aa_nil)))))) (fun ea ed eo epn efs ehz ehf =>
  (ass_one (as_set (i := 1) sc__law_try.nd rfl (.inl rfl) (ae_tup (aa_cons ae_str (aa_cons (ae_xf (i := 2) (n := "e") Z.er (C := "NoPlace") rfl ehz ehf (Z.er_NoPlace.no "place" (by decide)) rfl (.inl rfl)) aa_nil))) (hP := gx_set (by decide))))))
  (ass_one (as_ret (av 1))))
abbrev s_law : Stmt := top 50
theorem sc_law : FnScope ["_law_script", "_law_draws", "_law_form_here", "_law_log", "_law_due", "_law_places_here", "_law_answers", "_law_place_here", "_law_x", "_law_k", "_law_spot", "_law_inner", "_law_ahead", "_law_down", "_law_found", "_law_answer"] ["_law_script"] (defScope s_law) := ⟨rfl, rfl, rfl, by decide +kernel, rfl, by decide +kernel, by decide +kernel⟩
theorem lmc_0 : lmChk lm_0 (defScope s_law) ["_law_script", "_law_draws", "_law_form_here", "_law_log", "_law_due", "_law_places_here", "_law_answers", "_law_place_here", "_law_x", "_law_k", "_law_spot", "_law_inner", "_law_ahead", "_law_down", "_law_found", "_law_answer"] [5, 3, 6] = true := by decide +kernel
theorem lmc_1 : lmChk lm_1 (defScope s_law) ["_law_script", "_law_draws", "_law_form_here", "_law_log", "_law_due", "_law_places_here", "_law_answers", "_law_place_here", "_law_x", "_law_k", "_law_spot", "_law_inner", "_law_ahead", "_law_down", "_law_found", "_law_answer"] [8] = true := by decide +kernel
theorem lmc_2 : lmChk lm_2 (defScope s_law) ["_law_script", "_law_draws", "_law_form_here", "_law_log", "_law_due", "_law_places_here", "_law_answers", "_law_place_here", "_law_x", "_law_k", "_law_spot", "_law_inner", "_law_ahead", "_law_down", "_law_found", "_law_answer"] [10, 7] = true := by decide +kernel
theorem fn_law (Z : Zt P w K mg base n C) (h1 : 1 ≤ n) {fd : FuncData} (F : FnP K "law" "law" s_law (He.fAd K ("law", none)) fd) : FnK P w K mg base (n + 2) (He.fAd K ("law", none)) fd ["_law_script"] (fnM 1 16 (m_law C)) :=
  fn_AC (k := n + 1) F sc_law fun A' outer s H E hr hp =>
  (ass_cons (as_set (i := 1) sc_law.nd rfl (.inr rfl) (ae_call (Z.c__law_source) hr (by omega) (by rfl) (aa_cons (av 0) (aa_cons ae_int aa_nil))))
  (ass_cons (as_asg (ae_tup (aa_cons (ae_call (Z.c__law_form) hr (by omega) (by rfl) (aa_cons (av 1) (aa_cons ae_int aa_nil))) (aa_cons (ae_lstL aa_nil) (aa_cons (ae_lstL aa_nil) aa_nil)))) (tg_tup (n := 3) rfl (tgs_cons (tg_name (i := 2) sc_law.nd rfl (.inr rfl)) (tgs_cons (tg_name (i := 3) sc_law.nd rfl (.inr rfl)) (tgs_cons (tg_name (i := 4) sc_law.nd rfl (.inl rfl)) tgs_nil)))))
  (ass_cons (as_set (i := 5) sc_law.nd rfl (.inr rfl) (ae_call (Z.c__law_places) hr (by omega) (by rfl) (aa_cons (av 1) (aa_cons (av 2) (aa_cons ae_int aa_nil)))))
  (ass_cons (as_set (i := 6) sc_law.nd rfl (.inr rfl) (ae_lc (own := [("_law_place_here", 7)]) (g := (gName 7)) false rfl sc_law.nd (ai_any (av 5)) (blkOk_by (own := [("_law_place_here", 7)]) (N := ["_law_script", "_law_draws", "_law_form_here", "_law_log", "_law_due", "_law_places_here", "_law_answers", "_law_place_here", "_law_x", "_law_k", "_law_spot", "_law_inner", "_law_ahead", "_law_down", "_law_found", "_law_answer"]) (sc := defScope s_law) (by decide +kernel)) (fun _ _ _ _ _ => (tb_name (i := 7) sc_law.nd rfl (.inl rfl))) (fun _ _ _ _ _ => ats_nil) (fun _ _ _ _ _ => (ae_call (Z.c__law_draw) hr (by omega) (by rfl) (aa_cons (av 1) (aa_cons (ae_call (Z.c__law_count) hr (by omega) (by rfl) (aa_cons (av 2) (aa_cons (av 7) aa_nil))) aa_nil))))))
  (ass_keep (i := 0) (jx := 8) sc_law.nd rfl (.inr rfl) (fun W tk => pe_callK (Z.c_told) hr (by omega) (by rfl) (lmK_by (i := 0) (js := [5, 3, 6]) (L := lm_0) (sc := defScope s_law) (N := ["_law_script", "_law_draws", "_law_form_here", "_law_log", "_law_due", "_law_places_here", "_law_answers", "_law_place_here", "_law_x", "_law_k", "_law_spot", "_law_inner", "_law_ahead", "_law_down", "_law_found", "_law_answer"]) rfl lmc_0 rfl rfl rfl) (al_val (ae_call (Z.c__law_space) hr (by omega) (by rfl) (aa_cons (av 2) aa_nil)) (al_lamK (i := 0) (js := [5, 3, 6]) (L := lm_0) (lmK_by (i := 0) (js := [5, 3, 6]) (L := lm_0) (sc := defScope s_law) (N := ["_law_script", "_law_draws", "_law_form_here", "_law_log", "_law_due", "_law_places_here", "_law_answers", "_law_place_here", "_law_x", "_law_k", "_law_spot", "_law_inner", "_law_ahead", "_law_down", "_law_found", "_law_answer"]) rfl lmc_0 rfl rfl rfl) rfl (pe_lamK (i := 0) (js := [5, 3, 6]) (L := lm_0) (sc := defScope s_law) (N := ["_law_script", "_law_draws", "_law_form_here", "_law_log", "_law_due", "_law_places_here", "_law_answers", "_law_place_here", "_law_x", "_law_k", "_law_spot", "_law_inner", "_law_ahead", "_law_down", "_law_found", "_law_answer"]) rfl lmc_0 rfl Z.tb_law rfl rfl (List.mem_of_getElem? (i := Zt.mk_law) rfl) Z.tu rfl) aa_nil)) tk) (fun k1 f1 c1 L1 =>
  (ass_cons (as_for hp rfl (ai_rng1 (by rfl) (Z.z_range) (aa_cons ae_int aa_nil)) (tg_name (i := 9) sc_law.nd rfl (.inl rfl))
  (ass_cons (as_set (i := 7) sc_law.nd rfl (.inr rfl) (ae_call (Z.c__law_place) hr (by omega) (by rfl) (aa_cons (av 1) (aa_cons (av 2) aa_nil))))
  (ass_cons (as_if (at_cmp (oa_is) (av 7) ae_non (nomark _))
  (ass_one (as_ret (ae_and (ae_cmp (oa_eq (FL.u64 hr)) (av 3) (ae_lstF aa_nil) (nomark _)) (ae_one (ae_cmp (oa_eq (FL.u64 hr)) (ae_trim (ae_callL (Z.c__law_try) hr (by omega) (by rfl) (lmK_by (i := 1) (js := [8]) (L := lm_1) (sc := defScope s_law) (N := ["_law_script", "_law_draws", "_law_form_here", "_law_log", "_law_due", "_law_places_here", "_law_answers", "_law_place_here", "_law_x", "_law_k", "_law_spot", "_law_inner", "_law_ahead", "_law_down", "_law_found", "_law_answer"]) rfl lmc_1 rfl rfl rfl) (al_lamK (i := 1) (js := [8]) (L := lm_1) (lmK_by (i := 1) (js := [8]) (L := lm_1) (sc := defScope s_law) (N := ["_law_script", "_law_draws", "_law_form_here", "_law_log", "_law_due", "_law_places_here", "_law_answers", "_law_place_here", "_law_x", "_law_k", "_law_spot", "_law_inner", "_law_ahead", "_law_down", "_law_found", "_law_answer"]) rfl lmc_1 rfl rfl rfl) rfl (pe_lamK (i := 1) (js := [8]) (L := lm_1) (sc := defScope s_law) (N := ["_law_script", "_law_draws", "_law_form_here", "_law_log", "_law_due", "_law_places_here", "_law_answers", "_law_place_here", "_law_x", "_law_k", "_law_spot", "_law_inner", "_law_ahead", "_law_down", "_law_found", "_law_answer"]) rfl lmc_1 rfl Z.tb_law rfl rfl (List.mem_of_getElem? (i := Zt.mk_law) rfl) Z.tu rfl) aa_nil))) (ae_tup (aa_cons ae_str (aa_cons (ae_tup (aa_cons ae_int aa_nil)) aa_nil))) (nomark _))))))
  ass_nil)
  (ass_cons (as_asg (ae_tup (aa_cons (av 8) (aa_cons (av 2) (aa_cons (ae_tup aa_nil) aa_nil)))) (tg_tup (n := 3) rfl (tgs_cons (tg_name (i := 10) sc_law.nd rfl (.inr rfl)) (tgs_cons (tg_name (i := 11) sc_law.nd rfl (.inl rfl)) (tgs_cons (tg_name (i := 12) sc_law.nd rfl (.inl rfl)) tgs_nil)))))
  (ass_cons (as_for hp rfl (ai_rng1 (by rfl) (Z.z_range) (aa_cons (ae_call (Z.c__law_draw) hr (by omega) (by rfl) (aa_cons (av 1) (aa_cons ae_int aa_nil))) aa_nil)) (tg_name (i := 13) sc_law.nd rfl (.inl rfl))
  (ass_one (as_if (at_cmp (oa_ne (FL.u64 hr)) (ae_ix (FL.u2 hr) (av 11) ae_int (fun _ _ => rfl)) ae_str (nomark _))
  (ass_cons (as_set (i := 11) sc_law.nd rfl (.inl rfl) (ae_ite (at_cmp (oa_eq (FL.u64 hr)) (ae_ix (FL.u2 hr) (av 11) ae_int (fun _ _ => rfl)) ae_str (nomark _)) (ae_ix (FL.u2 hr) (av 11) (ae_op oa_add ae_int (ae_ix (FL.u2 hr) (av 7) ae_int (fun _ _ => rfl))) (fun _ _ => rfl)) (ae_ix (FL.u2 hr) (av 11) ae_int (fun _ _ => rfl))))
  (ass_cons (as_asg (ae_tup (aa_cons (ae_meth Z.mt hr (by omega) (av 10) (aa_cons (ae_ix (FL.u2 hr) (av 7) ae_int (fun _ _ => rfl)) aa_nil)) (aa_cons (ae_op oa_add (av 12) (ae_slice (av 7) ao_none (ao_some ae_int))) aa_nil))) (tg_tup (n := 2) rfl (tgs_cons (tg_name (i := 10) sc_law.nd rfl (.inr rfl)) (tgs_cons (tg_name (i := 12) sc_law.nd rfl (.inl rfl)) tgs_nil))))
  (ass_one (as_set (i := 7) sc_law.nd rfl (.inr rfl) (ae_slice (av 7) (ao_some ae_int) ao_none)))))
  ass_nil)))
  (ass_cons (as_set (i := 7) sc_law.nd rfl (.inr rfl) (ae_call (Z.c__law_bent) hr (by omega) (by rfl) (aa_cons (av 1) (aa_cons (av 7) aa_nil))))
  (ass_cons (as_set (i := 14) sc_law.nd rfl (.inl rfl) (ae_trim (ae_callLA (k1 := k1) (f1 := f1) (c1 := c1) (L1 := L1) List.mem_cons_self (lmK_by (i := 0) (js := [5, 3, 6]) (L := lm_0) (sc := defScope s_law) (N := ["_law_script", "_law_draws", "_law_form_here", "_law_log", "_law_due", "_law_places_here", "_law_answers", "_law_place_here", "_law_x", "_law_k", "_law_spot", "_law_inner", "_law_ahead", "_law_down", "_law_found", "_law_answer"]) rfl lmc_0 rfl rfl rfl) rfl (by decide) (fun L3 h3 => by cases h3; decide +kernel) (Z.c__law_try) hr (by omega) (by rfl) (lmK_by (i := 2) (js := [10, 7]) (L := lm_2) (sc := defScope s_law) (N := ["_law_script", "_law_draws", "_law_form_here", "_law_log", "_law_due", "_law_places_here", "_law_answers", "_law_place_here", "_law_x", "_law_k", "_law_spot", "_law_inner", "_law_ahead", "_law_down", "_law_found", "_law_answer"]) rfl lmc_2 rfl rfl rfl) (al_lamK (i := 2) (js := [10, 7]) (L := lm_2) (lmK_by (i := 2) (js := [10, 7]) (L := lm_2) (sc := defScope s_law) (N := ["_law_script", "_law_draws", "_law_form_here", "_law_log", "_law_due", "_law_places_here", "_law_answers", "_law_place_here", "_law_x", "_law_k", "_law_spot", "_law_inner", "_law_ahead", "_law_down", "_law_found", "_law_answer"]) rfl lmc_2 rfl rfl rfl) rfl (pe_lamK (i := 2) (js := [10, 7]) (L := lm_2) (sc := defScope s_law) (N := ["_law_script", "_law_draws", "_law_form_here", "_law_log", "_law_due", "_law_places_here", "_law_answers", "_law_place_here", "_law_x", "_law_k", "_law_spot", "_law_inner", "_law_ahead", "_law_down", "_law_found", "_law_answer"]) rfl lmc_2 rfl Z.tb_law rfl rfl (List.mem_of_getElem? (i := Zt.mk_law) rfl) Z.tu rfl) aa_nil))))
  (ass_cons (as_if (at_not (at_val (ae_call (Z.c__law_there) hr (by omega) (by rfl) (aa_cons (av 11) (aa_cons (av 7) aa_nil)))))
  (ass_cons (as_if (aw_at (aw_or (at_not (at_val (ae_call (Z.c__law_same) hr (by omega) (by rfl) (aa_cons (av 14) (aa_cons (ae_tup (aa_cons ae_str (aa_cons (av 7) aa_nil))) aa_nil))))) (aw_or1 (at_cmp (oa_ne (FL.u64 hr)) (av 3) (av 4) (nomark _)))))
  (ass_one (as_ret ae_bl))
  ass_nil)
  (ass_one as_continue))
  ass_nil)
  (ass_cons (as_expr (ae_lm PySem.F.slot_list_append PySem.F.type_list_append md_append (av 4) (aa_cons (ae_op oa_add (av 12) (av 7)) aa_nil)))
  (ass_cons (as_set (i := 15) sc_law.nd rfl (.inl rfl) (ae_call (Z.c__law_at) hr (by omega) (by rfl) (aa_cons (av 5) (aa_cons (av 6) (aa_cons (ae_op oa_add (av 12) (av 7)) aa_nil)))))
  (ass_one (as_if (aw_at (aw_or (at_not (at_val (ae_call (Z.c__law_same) hr (by omega) (by rfl) (aa_cons (av 14) (aa_cons (ae_tup (aa_cons ae_str (aa_cons (av 15) aa_nil))) aa_nil))))) (aw_or1 (at_cmp (oa_ne (FL.u64 hr)) (av 3) (av 4) (nomark _)))))
  (ass_one (as_ret ae_bl))
  ass_nil))))))))))))
  (ass_one (as_ret ae_bl)))))))))
abbrev s_is_integer : Stmt := top 8
theorem sc_is_integer : FnScope ["value"] ["value"] (defScope s_is_integer) := ⟨rfl, rfl, rfl, by decide +kernel, rfl, by decide +kernel, by decide +kernel⟩
theorem fn_is_integer (Z : Zt P w K mg base n C) (h1 : 1 ≤ n) {f : Addr} {fd : FuncData} (F : FnP K "is_integer" "is_integer" s_is_integer f fd) : FnK P w K mg base (n + 2) f fd ["value"] (fnM 1 1 (m_is_integer C)) :=
  fn_A (k := n + 1) F sc_is_integer fun cdv A' outer s H E hr hp =>
  (ass_one (as_ret (ae_and (ae_callB (ca_isi Z.isA) (by rfl) (Z.z_isinstance) (by decide +kernel) (aa_cons (av 0) (aa_cons (ae_ty (by rfl) (Z.z_int) (by decide +kernel)) aa_nil))) (ae_one (ae_not (ae_callB (ca_isi Z.isA) (by rfl) (Z.z_isinstance) (by decide +kernel) (aa_cons (av 0) (aa_cons (ae_ty (by rfl) (Z.z_bool) (by decide +kernel)) aa_nil))))))))
abbrev s_Space___init__ : Stmt := inClass (top 16) 0
theorem sc_Space___init__ : FnScope ["self", "form", "free"] ["self", "form", "free"] (defScope s_Space___init__) := ⟨rfl, rfl, rfl, by decide +kernel, rfl, by decide +kernel, by decide +kernel⟩
theorem fn_Space___init__ (Z : Zt P w K mg base n C) (h1 : 1 ≤ n) {f : Addr} {fd : FuncData} (F : FnP K "__init__" "Space.__init__" s_Space___init__ f fd) : FnK P w K mg base (n + 2) f fd ["self", "form", "free"] (fnM 3 3 (m_Space___init__ C)) :=
  fn_A (k := n + 1) F sc_Space___init__ fun cdv A' outer s H E hr hp =>
  (ass_cons (as_fld Z.at_ (av 0) (av 1))
  (ass_one (as_fld Z.at_ (av 0) (av 2))))
abbrev s_Space___mul__ : Stmt := inClass (top 16) 1
theorem sc_Space___mul__ : FnScope ["self", "other"] ["self", "other"] (defScope s_Space___mul__) := ⟨rfl, rfl, rfl, by decide +kernel, rfl, by decide +kernel, by decide +kernel⟩
theorem fn_Space___mul__ (Z : Zt P w K mg base n C) (h1 : 1 ≤ n) {f : Addr} {fd : FuncData} (F : FnP K "__mul__" "Space.__mul__" s_Space___mul__ f fd) : FnK P w K mg base (n + 2) f fd ["self", "other"] (fnM 2 2 (m_Space___mul__ C)) :=
  fn_A (k := n + 1) F sc_Space___mul__ fun cdv A' outer s H E hr hp =>
  (ass_cons (as_if (at_not (at_val (ae_callB (ca_isi Z.isA) (by rfl) (Z.z_isinstance) (by decide +kernel) (aa_cons (av 1) (aa_cons (ae_glo (by rfl) Z.g_Space) aa_nil)))))
  (ass_one as_no)
  ass_nil)
  (ass_one (as_ret (ae_make (Z.mk_Pair) hr (by omega) (by rfl) (aa_cons (av 0) (aa_cons (av 1) aa_nil))))))
abbrev s_Space___pow__ : Stmt := inClass (top 16) 3
theorem sc_Space___pow__ : FnScope ["self", "other"] ["self", "other"] (defScope s_Space___pow__) := ⟨rfl, rfl, rfl, by decide +kernel, rfl, by decide +kernel, by decide +kernel⟩
theorem fn_Space___pow__ (Z : Zt P w K mg base n C) (h1 : 1 ≤ n) {f : Addr} {fd : FuncData} (F : FnP K "__pow__" "Space.__pow__" s_Space___pow__ f fd) : FnK P w K mg base (n + 2) f fd ["self", "other"] (fnM 2 2 (m_Space___pow__ C)) :=
  fn_A (k := n + 1) F sc_Space___pow__ fun cdv A' outer s H E hr hp =>
  (ass_one (as_ret (ae_make (Z.mk_Power) hr (by omega) (by rfl) (aa_cons (av 0) (aa_cons (av 1) aa_nil)))))
abbrev s_Space_bare : Stmt := inClass (top 16) 8
theorem sc_Space_bare : FnScope ["self"] ["self"] (defScope s_Space_bare) := ⟨rfl, rfl, rfl, by decide +kernel, rfl, by decide +kernel, by decide +kernel⟩
theorem fn_Space_bare (Z : Zt P w K mg base n C) (h1 : 1 ≤ n) {f : Addr} {fd : FuncData} (F : FnP K "bare" "Space.bare" s_Space_bare f fd) : FnK P w K mg base (n + 2) f fd ["self"] (fnM 1 1 (m_Space_bare C)) :=
  fn_A (k := n + 1) F sc_Space_bare fun cdv A' outer s H E hr hp =>
  (ass_one (as_ret (av 0)))
abbrev s_Space_part : Stmt := inClass (top 16) 9
theorem sc_Space_part : FnScope ["self", "i"] ["self", "i"] (defScope s_Space_part) := ⟨rfl, rfl, rfl, by decide +kernel, rfl, by decide +kernel, by decide +kernel⟩
theorem fn_Space_part (Z : Zt P w K mg base n C) (h1 : 1 ≤ n) {f : Addr} {fd : FuncData} (F : FnP K "part" "Space.part" s_Space_part f fd) : FnK P w K mg base (n + 2) f fd ["self", "i"] (fnM 2 2 (m_Space_part C)) :=
  fn_A (k := n + 1) F sc_Space_part fun cdv A' outer s H E hr hp =>
  (ass_one (as_ret ae_non))
abbrev s_Options___init__ : Stmt := inClass (top 17) 0
theorem sc_Options___init__ : NdefX.NScope ["self", "count", "__class__"] ["self", "count"] ["__class__"] (defScope s_Options___init__) := NdefX.nscope_by (by decide +kernel)
theorem fn_Options___init__ (Z : Zt P w K mg base n C) (h1 : 1 ≤ n) {f cc cda : Addr} {fd : FuncData} (F : FunS K "__init__" "Options.__init__" s_Options___init__ f cc cda fd) (SF : SupF P K f cda cc (He.ga K "Options") "self") (SC : SupC K (He.ga K "Options") (He.fAd K ("Space", some "__init__"))) : FnK P w K mg base (n + 2) f fd ["self", "count"] (fnM 2 3 (m_Options___init__ C)) :=
  fn_S (k := n + 1) F sc_Options___init__ fun A' outer s H E hr =>
  (aas_cons (as_if (aw_at (aw_or (at_not (at_val (ae_call (Z.c_is_integer) hr (by omega) (by rfl) (aa_cons (av 1) aa_nil)))) (aw_or1 (at_not (at_chain oc_le oc_le ae_int (av 1) ae_int)))))
  (ass_one (as_raise Z.er_BadSpace rfl hr (by omega) (by rfl) (aa_cons (av 1) aa_nil)))
  ass_nil)
  (aas_sup (i := 0) (C := "Options") SF SC (Z.f_k_Space___init__) hr (by omega) rfl rfl rfl (by rfl) (Z.z_super) (by decide +kernel) rfl rfl rfl (aa_cons (ae_join (aj_cons ae_str (aj_cons (ae_fmt (av 1)) (aj_cons ae_str aj_nil)))) (aa_cons ae_bl aa_nil))
  (aas_of (ass_one (as_fld Z.at_ (av 0) (av 1))))))
abbrev s_Pair___init__ : Stmt := inClass (top 19) 0
theorem sc_Pair___init__ : NdefX.NScope ["self", "left", "right", "__class__"] ["self", "left", "right"] ["__class__"] (defScope s_Pair___init__) := NdefX.nscope_by (by decide +kernel)
theorem fn_Pair___init__ (Z : Zt P w K mg base n C) (h1 : 1 ≤ n) {f cc cda : Addr} {fd : FuncData} (F : FunS K "__init__" "Pair.__init__" s_Pair___init__ f cc cda fd) (SF : SupF P K f cda cc (He.ga K "Pair") "self") (SC : SupC K (He.ga K "Pair") (He.fAd K ("Space", some "__init__"))) : FnK P w K mg base (n + 2) f fd ["self", "left", "right"] (fnM 3 4 (m_Pair___init__ C)) :=
  fn_S (k := n + 1) F sc_Pair___init__ fun A' outer s H E hr =>
  (aas_sup (i := 0) (C := "Pair") SF SC (Z.f_k_Space___init__) hr (by omega) rfl rfl rfl (by rfl) (Z.z_super) (by decide +kernel) rfl rfl rfl (aa_cons (ae_join (aj_cons ae_str (aj_cons (ae_fmt (ae_fld Z.at_ (av 1))) (aj_cons ae_str (aj_cons (ae_fmt (ae_fld Z.at_ (av 2))) (aj_cons ae_str aj_nil)))))) (aa_cons (ae_and (ae_fld Z.at_ (av 1)) (ae_one (ae_fld Z.at_ (av 2)))) aa_nil))
  (aas_of (ass_cons (as_fld Z.at_ (av 0) (av 1))
  (ass_one (as_fld Z.at_ (av 0) (av 2))))))
abbrev s_Pair_part : Stmt := inClass (top 19) 1
theorem sc_Pair_part : FnScope ["self", "i"] ["self", "i"] (defScope s_Pair_part) := ⟨rfl, rfl, rfl, by decide +kernel, rfl, by decide +kernel, by decide +kernel⟩
theorem fn_Pair_part (Z : Zt P w K mg base n C) (h1 : 1 ≤ n) {f : Addr} {fd : FuncData} (F : FnP K "part" "Pair.part" s_Pair_part f fd) : FnK P w K mg base (n + 2) f fd ["self", "i"] (fnM 2 2 (m_Pair_part C)) :=
  fn_A (k := n + 1) F sc_Pair_part fun cdv A' outer s H E hr hp =>
  (ass_cons (as_if (aw_at (aw_or (at_not (at_val (ae_call (Z.c_is_integer) hr (by omega) (by rfl) (aa_cons (av 1) aa_nil)))) (aw_or1 (at_cmp (oa_notIn (FL.u65 hr)) (av 1) (ae_tup (aa_cons ae_int (aa_cons ae_int aa_nil))) (by rfl)))))
  (ass_one (as_ret ae_non))
  ass_nil)
  (ass_one (as_ret (ae_ite (at_cmp (oa_eq (FL.u64 hr)) (av 1) ae_int (nomark _)) (ae_fld Z.at_ (av 0)) (ae_fld Z.at_ (av 0))))))
abbrev s_Power___init__ : Stmt := inClass (top 20) 0
theorem sc_Power___init__ : NdefX.NScope ["self", "base", "n", "__class__"] ["self", "base", "n"] ["__class__"] (defScope s_Power___init__) := NdefX.nscope_by (by decide +kernel)
theorem fn_Power___init__ (Z : Zt P w K mg base n C) (h1 : 1 ≤ n) {f cc cda : Addr} {fd : FuncData} (F : FunS K "__init__" "Power.__init__" s_Power___init__ f cc cda fd) (SF : SupF P K f cda cc (He.ga K "Power") "self") (SC : SupC K (He.ga K "Power") (He.fAd K ("Space", some "__init__"))) : FnK P w K mg base (n + 2) f fd ["self", "base", "n"] (fnM 3 4 (m_Power___init__ C)) :=
  fn_S (k := n + 1) F sc_Power___init__ fun A' outer s H E hr =>
  (aas_cons (as_if (aw_at (aw_or (at_not (at_val (ae_call (Z.c_is_integer) hr (by omega) (by rfl) (aa_cons (av 2) aa_nil)))) (aw_or1 (at_not (at_chain oc_le oc_le ae_int (av 2) ae_int)))))
  (ass_one (as_raise Z.er_BadSpace rfl hr (by omega) (by rfl) (aa_cons (av 2) aa_nil)))
  ass_nil)
  (aas_sup (i := 0) (C := "Power") SF SC (Z.f_k_Space___init__) hr (by omega) rfl rfl rfl (by rfl) (Z.z_super) (by decide +kernel) rfl rfl rfl (aa_cons (ae_join (aj_cons ae_str (aj_cons (ae_fmt (ae_fld Z.at_ (av 1))) (aj_cons ae_str (aj_cons (ae_fmt (av 2)) (aj_cons ae_str aj_nil)))))) (aa_cons (ae_fld Z.at_ (av 1)) aa_nil))
  (aas_of (ass_cons (as_fld Z.at_ (av 0) (av 1))
  (ass_one (as_fld Z.at_ (av 0) (av 2)))))))
abbrev s_Power_part : Stmt := inClass (top 20) 1
theorem sc_Power_part : FnScope ["self", "i"] ["self", "i"] (defScope s_Power_part) := ⟨rfl, rfl, rfl, by decide +kernel, rfl, by decide +kernel, by decide +kernel⟩
theorem fn_Power_part (Z : Zt P w K mg base n C) (h1 : 1 ≤ n) {f : Addr} {fd : FuncData} (F : FnP K "part" "Power.part" s_Power_part f fd) : FnK P w K mg base (n + 2) f fd ["self", "i"] (fnM 2 2 (m_Power_part C)) :=
  fn_A (k := n + 1) F sc_Power_part fun cdv A' outer s H E hr hp =>
  (ass_one (as_ret (ae_ite (aw_at (aw_and (at_val (ae_call (Z.c_is_integer) hr (by omega) (by rfl) (aa_cons (av 1) aa_nil))) (aw_and1 (at_chain oc_le oc_lt ae_int (av 1) (ae_fld Z.at_ (av 0)))))) (ae_fld Z.at_ (av 0)) ae_non)))
abbrev s_Endless___init__ : Stmt := inClass (top 21) 0
theorem sc_Endless___init__ : NdefX.NScope ["self", "part", "__class__"] ["self", "part"] ["__class__"] (defScope s_Endless___init__) := NdefX.nscope_by (by decide +kernel)
theorem fn_Endless___init__ (Z : Zt P w K mg base n C) (h1 : 1 ≤ n) {f cc cda : Addr} {fd : FuncData} (F : FunS K "__init__" "Endless.__init__" s_Endless___init__ f cc cda fd) (SF : SupF P K f cda cc (He.ga K "Endless") "self") (SC : SupC K (He.ga K "Endless") (He.fAd K ("Space", some "__init__"))) : FnK P w K mg base (n + 2) f fd ["self", "part"] (fnM 2 3 (m_Endless___init__ C)) :=
  fn_S (k := n + 1) F sc_Endless___init__ fun A' outer s H E hr =>
  (aas_sup (i := 0) (C := "Endless") SF SC (Z.f_k_Space___init__) hr (by omega) rfl rfl rfl (by rfl) (Z.z_super) (by decide +kernel) rfl rfl rfl (aa_cons (ae_join (aj_cons ae_str (aj_cons (ae_fmt (ae_fld Z.at_ (av 1))) (aj_cons ae_str aj_nil)))) (aa_cons (ae_fld Z.at_ (av 1)) aa_nil))
  (aas_of (ass_one (as_fld Z.at_ (av 0) (av 1)))))
abbrev s_Endless_part : Stmt := inClass (top 21) 1
theorem sc_Endless_part : FnScope ["self", "i"] ["self", "i"] (defScope s_Endless_part) := ⟨rfl, rfl, rfl, by decide +kernel, rfl, by decide +kernel, by decide +kernel⟩
theorem fn_Endless_part (Z : Zt P w K mg base n C) (h1 : 1 ≤ n) {f : Addr} {fd : FuncData} (F : FnP K "part" "Endless.part" s_Endless_part f fd) : FnK P w K mg base (n + 2) f fd ["self", "i"] (fnM 2 2 (m_Endless_part C)) :=
  fn_A (k := n + 1) F sc_Endless_part fun cdv A' outer s H E hr hp =>
  (ass_one (as_ret (ae_ite (aw_at (aw_and (at_val (ae_call (Z.c_is_integer) hr (by omega) (by rfl) (aa_cons (av 1) aa_nil))) (aw_and1 (at_cmp (oa_ge) (av 1) ae_int (nomark _))))) (ae_fld Z.at_ (av 0)) ae_non)))
abbrev s_Thing___init__ : Stmt := inClass (top 29) 0
theorem sc_Thing___init__ : FnScope ["self", "space", "source", "place"] ["self", "space", "source", "place"] (defScope s_Thing___init__) := ⟨rfl, rfl, rfl, by decide +kernel, rfl, by decide +kernel, by decide +kernel⟩
theorem fn_Thing___init__ (Z : Zt P w K mg base n C) (h1 : 1 ≤ n) {f : Addr} {fd : FuncData} (F : FnP K "__init__" "Thing.__init__" s_Thing___init__ f fd) : FnK P w K mg base (n + 2) f fd ["self", "space", "source", "place"] (fnM 4 4 (m_Thing___init__ C)) :=
  fn_A (k := n + 1) F sc_Thing___init__ fun cdv A' outer s H E hr hp =>
  (ass_cons (as_fld Z.at_ (av 0) (av 1))
  (ass_cons (as_fld Z.at_ (av 0) (av 2))
  (ass_one (as_fld Z.at_ (av 0) (av 3)))))
abbrev s_Thing_at : Stmt := inClass (top 29) 1
theorem sc_Thing_at : FnScope ["self", "i", "part"] ["self", "i"] (defScope s_Thing_at) := ⟨rfl, rfl, rfl, by decide +kernel, rfl, by decide +kernel, by decide +kernel⟩
theorem fn_Thing_at (Z : Zt P w K mg base n C) (h1 : 1 ≤ n) {f : Addr} {fd : FuncData} (F : FnP K "at" "Thing.at" s_Thing_at f fd) : FnK P w K mg base (n + 2) f fd ["self", "i"] (fnM 2 3 (m_Thing_at C)) :=
  fn_A (k := n + 1) F sc_Thing_at fun cdv A' outer s H E hr hp =>
  (ass_cons (as_set (i := 2) sc_Thing_at.nd rfl (.inl rfl) (ae_meth Z.mt hr (by omega) (ae_fld Z.at_ (av 0)) (aa_cons (av 1) aa_nil)))
  (ass_cons (as_if (at_cmp (oa_is) (av 2) ae_non (nomark _))
  (ass_one (as_raise Z.er_NoPlace rfl hr (by omega) (by rfl) (aa_cons (ae_op oa_add (ae_fld Z.at_ (av 0)) (ae_tup (aa_cons (av 1) aa_nil))) aa_nil)))
  ass_nil)
  (ass_one (as_ret (ae_make (Z.mk_Thing) hr (by omega) (by rfl) (aa_cons (av 2) (aa_cons (ae_fld Z.at_ (av 0)) (aa_cons (ae_op oa_add (ae_fld Z.at_ (av 0)) (ae_tup (aa_cons (av 1) aa_nil))) aa_nil))))))))
abbrev s_Thing_look : Stmt := inClass (top 29) 2
theorem sc_Thing_look : FnScope ["self", "bare"] ["self"] (defScope s_Thing_look) := ⟨rfl, rfl, rfl, by decide +kernel, rfl, by decide +kernel, by decide +kernel⟩
theorem fn_Thing_look (Z : Zt P w K mg base n C) (h1 : 1 ≤ n) {f : Addr} {fd : FuncData} (F : FnP K "look" "Thing.look" s_Thing_look f fd) : FnK P w K mg base (n + 2) f fd ["self"] (fnM 1 2 (m_Thing_look C)) :=
  fn_A (k := n + 1) F sc_Thing_look fun cdv A' outer s H E hr hp =>
  (ass_cons (as_set (i := 1) sc_Thing_look.nd rfl (.inl rfl) (ae_meth0 Z.mt hr (by omega) (ae_fld Z.at_ (av 0))))
  (ass_cons (as_if (at_not (at_val (ae_callB (ca_isi Z.isA) (by rfl) (Z.z_isinstance) (by decide +kernel) (aa_cons (av 1) (aa_cons (ae_glo (by rfl) Z.g_Options) aa_nil)))))
  (ass_one (as_raise Z.er_NoPlace rfl hr (by omega) (by rfl) (aa_cons (ae_fld Z.at_ (av 0)) aa_nil)))
  ass_nil)
  (ass_one (as_ret (ae_methS Z.mt Z.ms hr (by omega) (ae_fld Z.at_ (av 0)) (aa_cons (ae_fld Z.at_ (av 0)) (aa_cons (ae_fld Z.at_ (av 1)) aa_nil)))))))
abbrev s_Told_tell : Stmt := inClass (top 30) 3
theorem sc_Told_tell : FnScope ["self", "place", "many", "answer", "given"] ["self", "place", "many"] (defScope s_Told_tell) := ⟨rfl, rfl, rfl, by decide +kernel, rfl, by decide +kernel, by decide +kernel⟩
theorem fn_Told_tell (Z : Zt P w K mg base n C) (h1 : 1 ≤ n) {f : Addr} {fd : FuncData} (F : FnP K "tell" "Told.tell" s_Told_tell f fd) : FnK P w K mg base (n + 2) f fd ["self", "place", "many"] (fnM 3 5 (m_Told_tell C)) :=
  fn_A (k := n + 1) F sc_Told_tell fun cdv A' outer s H E hr hp =>
  (ass_cons (as_set (i := 3) sc_Told_tell.nd rfl (.inl rfl) (ae_slf Z.sl (av 0)))
  (ass_cons (as_set (i := 4) sc_Told_tell.nd rfl (.inl rfl) (ae_callV (i := 3) Z.lm hr (by omega) (aa_cons (av 1) aa_nil)))
  (ass_cons (as_if (aw_at (aw_or (at_not (at_val (ae_call (Z.c_is_integer) hr (by omega) (by rfl) (aa_cons (av 4) aa_nil)))) (aw_or1 (at_not (at_chain oc_le oc_lt ae_int (av 4) (av 2))))))
  (ass_one (as_raise Z.er_BadAnswer rfl hr (by omega) (by rfl) (aa_cons (av 1) (aa_cons (av 4) aa_nil))))
  ass_nil)
  (ass_one (as_ret (av 4))))))
abbrev s_told : Stmt := top 31
theorem sc_told : FnScope ["space", "answer"] ["space", "answer"] (defScope s_told) := ⟨rfl, rfl, rfl, by decide +kernel, rfl, by decide +kernel, by decide +kernel⟩
theorem fn_told (Z : Zt P w K mg base n C) (h1 : 1 ≤ n) {f : Addr} {fd : FuncData} (F : FnP K "told" "told" s_told f fd) : FnK P w K mg base (n + 2) f fd ["space", "answer"] (fnM 2 2 (m_told C)) :=
  fn_A (k := n + 1) F sc_told fun cdv A' outer s H E hr hp =>
  (ass_one (as_ret (ae_make (Z.mk_Thing) hr (by omega) (by rfl) (aa_cons (av 0) (aa_cons (ae_mkSl (Z.ms_Told) hr (by omega) (by rfl) (aa_cons (av 1) aa_nil)) (aa_cons (ae_tup aa_nil) aa_nil))))))
abbrev s_answer_at : Stmt := top 32
theorem sc_answer_at : FnScope ["thing", "place", "spot", "rest", "bare", "side"] ["thing", "place"] (defScope s_answer_at) := ⟨rfl, rfl, rfl, by decide +kernel, rfl, by decide +kernel, by decide +kernel⟩
theorem fn_answer_at (Z : Zt P w K mg base n C) (h1 : 1 ≤ n) {f : Addr} {fd : FuncData} (F : FnP K "answer_at" "answer_at" s_answer_at f fd) : FnK P w K mg base (n + 2) f fd ["thing", "place"] (fnM 2 6 (m_answer_at C)) :=
  fn_A (k := n + 1) F sc_answer_at fun cdv A' outer s H E hr hp =>
  (ass_cons (as_set (i := 2) sc_answer_at.nd rfl (.inl rfl) (av 0))
  (ass_cons (as_set (i := 3) sc_answer_at.nd rfl (.inl rfl) (av 1))
  (ass_one (as_while 1000 hp (at_val ae_bl)
  (ass_cons (as_set (i := 4) sc_answer_at.nd rfl (.inl rfl) (ae_meth0 Z.mt hr (by omega) (ae_fld Z.at_ (av 2))))
  (ass_cons (as_if (aw_at (aw_and (at_val (ae_callB (ca_isi Z.isA) (by rfl) (Z.z_isinstance) (by decide +kernel) (aa_cons (av 4) (aa_cons (ae_glo (by rfl) Z.g_Either) aa_nil)))) (aw_and (at_cmp (oa_gt) (ae_callB (ca_len) (by rfl) (Z.z_len) (by decide +kernel) (aa_cons (av 3) aa_nil)) ae_int (nomark _)) (aw_and1 (at_cmp (oa_in (FL.u65 hr)) (ae_ix (FL.u2 hr) (av 3) ae_int (fun _ _ => rfl)) (ae_tup (aa_cons ae_int (aa_cons ae_int aa_nil))) (by rfl))))))
  (ass_cons as_no
  (ass_cons (as_if (at_cmp (oa_ne (FL.u64 hr)) (av 5) (ae_op oa_sub (ae_ix (FL.u2 hr) (av 3) ae_int (fun _ _ => rfl)) ae_int) (nomark _))
  (ass_one (as_raise Z.er_NoPlace rfl hr (by omega) (by rfl) (aa_cons (av 1) aa_nil)))
  ass_nil)
  (ass_one as_no)))
  (ass_one (as_if (aw_at (aw_and (at_cmp (oa_gt) (ae_callB (ca_len) (by rfl) (Z.z_len) (by decide +kernel) (aa_cons (av 3) aa_nil)) ae_int (nomark _)) (aw_and1 (at_cmp (oa_isNot) (ae_meth Z.mt hr (by omega) (av 4) (aa_cons (ae_ix (FL.u2 hr) (av 3) ae_int (fun _ _ => rfl)) aa_nil)) ae_non (nomark _)))))
  (ass_one (as_set (i := 2) sc_answer_at.nd rfl (.inl rfl) (ae_meth Z.mt hr (by omega) (av 2) (aa_cons (ae_ix (FL.u2 hr) (av 3) ae_int (fun _ _ => rfl)) aa_nil))))
  (ass_one (as_ret (ae_call (Z.c_last_answer) hr (by omega) (by rfl) (aa_cons (av 2) (aa_cons (av 4) (aa_cons (av 3) (aa_cons (av 1) aa_nil))))))))))
  (ass_one (as_set (i := 3) sc_answer_at.nd rfl (.inl rfl) (ae_slice (av 3) (ao_some ae_int) ao_none)))))))))
abbrev s_last_answer : Stmt := top 33
theorem sc_last_answer : FnScope ["spot", "bare", "rest", "place"] ["spot", "bare", "rest", "place"] (defScope s_last_answer) := ⟨rfl, rfl, rfl, by decide +kernel, rfl, by decide +kernel, by decide +kernel⟩
theorem fn_last_answer (Z : Zt P w K mg base n C) (h1 : 1 ≤ n) {f : Addr} {fd : FuncData} (F : FnP K "last_answer" "last_answer" s_last_answer f fd) : FnK P w K mg base (n + 2) f fd ["spot", "bare", "rest", "place"] (fnM 4 4 (m_last_answer C)) :=
  fn_A (k := n + 1) F sc_last_answer fun cdv A' outer s H E hr hp =>
  (ass_cons (as_if (aw_at (aw_and (at_val (ae_callB (ca_isi Z.isA) (by rfl) (Z.z_isinstance) (by decide +kernel) (aa_cons (av 1) (aa_cons (ae_glo (by rfl) Z.g_Options) aa_nil)))) (aw_and1 (at_cmp (oa_eq (FL.u64 hr)) (av 2) (ae_tup aa_nil) (nomark _)))))
  (ass_one (as_ret (ae_meth0 Z.mt hr (by omega) (av 0))))
  ass_nil)
  (ass_cons (as_if (aw_at (aw_and (at_val (ae_callB (ca_isi Z.isA) (by rfl) (Z.z_isinstance) (by decide +kernel) (aa_cons (av 1) (aa_cons (ae_glo (by rfl) Z.g_Either) aa_nil)))) (aw_and1 (at_cmp (oa_eq (FL.u64 hr)) (av 2) (ae_tup (aa_cons ae_int aa_nil)) (nomark _)))))
  (ass_one as_no)
  ass_nil)
  (ass_cons (as_if (aw_at (aw_and (at_val (ae_callB (ca_isi Z.isA) (by rfl) (Z.z_isinstance) (by decide +kernel) (aa_cons (av 1) (aa_cons (ae_glo (by rfl) Z.g_Fan) aa_nil)))) (aw_and (at_cmp (oa_eq (FL.u64 hr)) (ae_callB (ca_len) (by rfl) (Z.z_len) (by decide +kernel) (aa_cons (av 2) aa_nil)) ae_int (nomark _)) (aw_and (at_val (ae_call (Z.c_is_integer) hr (by omega) (by rfl) (aa_cons (ae_ix (FL.u2 hr) (av 2) ae_int (fun _ _ => rfl)) aa_nil))) (aw_and1 (at_cmp (oa_ge) (ae_ix (FL.u2 hr) (av 2) ae_int (fun _ _ => rfl)) ae_int (nomark _)))))))
  (ass_one (as_ret ae_no))
  ass_nil)
  (ass_cons (as_if (aw_at (aw_and (at_val (ae_callB (ca_isi Z.isA) (by rfl) (Z.z_isinstance) (by decide +kernel) (aa_cons (av 1) (aa_cons (ae_glo (by rfl) Z.g_Order) aa_nil)))) (aw_and1 at_no)))
  (ass_one as_no)
  ass_nil)
  (ass_cons (as_if (aw_at (aw_and (at_val (ae_callB (ca_isi Z.isA) (by rfl) (Z.z_isinstance) (by decide +kernel) (aa_cons (av 1) (aa_cons (ae_glo (by rfl) Z.g_Sameness) aa_nil)))) (aw_and1 at_no)))
  (ass_one as_no)
  ass_nil)
  (ass_one (as_raise Z.er_NoPlace rfl hr (by omega) (by rfl) (aa_cons (av 3) aa_nil))))))))
theorem scl_0 : NdefX.NScope ["_law_place_here", "_law_places_here", "_law_log", "_law_answers"] ["_law_place_here"] ["_law_places_here", "_law_log", "_law_answers"] lm_0.scope := NdefX.nscope_by (by decide +kernel)
theorem la_0 (Z : Zt P w K mg base n C) (h1 : 1 ≤ n) : LmA P w K mg base (n + 2) 0 (lamF 4 4 (l_0 C)) :=
  lam_A (n := n + 1) (L := lm_0) (N := ["_law_place_here", "_law_places_here", "_law_log", "_law_answers"]) (pr := ["_law_place_here"]) rfl scl_0 (by decide) (fun _ _ _ _ us hl => match us, hl with | [_], _ => rfl) fun cl c f A' outer s H E hr =>
  (ae_call (Z.c__law_noted) hr (by omega) (by rfl) (aa_cons (av 2) (aa_cons (av 1) (aa_cons (av 3) (aa_cons (av 0) aa_nil)))))
theorem scl_1 : NdefX.NScope ["_law_x"] [] ["_law_x"] lm_1.scope := NdefX.nscope_by (by decide +kernel)
theorem la_1 (Z : Zt P w K mg base n C) (h1 : 1 ≤ n) : LmA P w K mg base (n + 2) 1 (lamF 1 1 (l_1 C)) :=
  lam_A (n := n + 1) (L := lm_1) (N := ["_law_x"]) (pr := []) rfl scl_1 (by decide) (fun _ _ _ _ us hl => match us, hl with | [], _ => rfl) fun cl c f A' outer s H E hr =>
  (ae_call (Z.c_answer_at) hr (by omega) (by rfl) (aa_cons (av 0) (aa_cons (ae_tup (aa_cons ae_int aa_nil)) aa_nil)))
theorem scl_2 : NdefX.NScope ["_law_spot", "_law_place_here"] [] ["_law_spot", "_law_place_here"] lm_2.scope := NdefX.nscope_by (by decide +kernel)
theorem la_2 (Z : Zt P w K mg base n C) (h1 : 1 ≤ n) : LmA P w K mg base (n + 2) 2 (lamF 2 2 (l_2 C)) :=
  lam_A (n := n + 1) (L := lm_2) (N := ["_law_spot", "_law_place_here"]) (pr := []) rfl scl_2 (by decide) (fun _ _ _ _ us hl => match us, hl with | [], _ => rfl) fun cl c f A' outer s H E hr =>
  (ae_call (Z.c_answer_at) hr (by omega) (by rfl) (aa_cons (av 0) (aa_cons (av 1) aa_nil)))
end
end FL
namespace FL
open PySem PySem.Spec PyProof.Rows L2
section
variable {P : Program} {w : World} {K : PySem.W.Frag} {mg : Str → Option Value} {base : Heap}
abbrev s_BadSpace___init__ : Stmt := inClass (top 3) 0
theorem sc_BadSpace___init__ : FnScope ["self", "value"] ["self", "value"] (defScope s_BadSpace___init__) := ⟨rfl, rfl, rfl, by decide +kernel, rfl, by decide +kernel, by decide +kernel⟩
theorem fn_BadSpace___init__ {f : Addr} {fd : FuncData} (F : FnP K "__init__" "BadSpace.__init__" s_BadSpace___init__ f fd) : FnOk P w K mg base CX0 1 f fd ["self", "value"] (spIni K ["value"]) := by
  refine F.ok sc_BadSpace___init__ (fun vs H Q E h => by obtain ⟨_, _, _, rfl, hl, _⟩ := h; rw [List.length_cons, hl] <;> rfl) (fun cdv A outer s H vs Q E hr h => ⟨(tOst K "value" (tVar 0) (tVar 1)), PSs.nox ?_, pure_ini1 vs H Q E h⟩)
  exact (pss_one (ps_ost (pv 0) (pv 1)))
abbrev s_NoPlace___init__ : Stmt := inClass (top 5) 0
theorem sc_NoPlace___init__ : FnScope ["self", "place"] ["self", "place"] (defScope s_NoPlace___init__) := ⟨rfl, rfl, rfl, by decide +kernel, rfl, by decide +kernel, by decide +kernel⟩
theorem fn_NoPlace___init__ {f : Addr} {fd : FuncData} (F : FnP K "__init__" "NoPlace.__init__" s_NoPlace___init__ f fd) : FnOk P w K mg base CX0 1 f fd ["self", "place"] (spIni K ["place"]) := by
  refine F.ok sc_NoPlace___init__ (fun vs H Q E h => by obtain ⟨_, _, _, rfl, hl, _⟩ := h; rw [List.length_cons, hl] <;> rfl) (fun cdv A outer s H vs Q E hr h => ⟨(tOst K "place" (tVar 0) (tVar 1)), PSs.nox ?_, pure_ini1 vs H Q E h⟩)
  exact (pss_one (ps_ost (pv 0) (pv 1)))
abbrev s_BadAnswer___init__ : Stmt := inClass (top 6) 0
theorem sc_BadAnswer___init__ : FnScope ["self", "place", "given"] ["self", "place", "given"] (defScope s_BadAnswer___init__) := ⟨rfl, rfl, rfl, by decide +kernel, rfl, by decide +kernel, by decide +kernel⟩
theorem fn_BadAnswer___init__ {f : Addr} {fd : FuncData} (F : FnP K "__init__" "BadAnswer.__init__" s_BadAnswer___init__ f fd) : FnOk P w K mg base CX0 1 f fd ["self", "place", "given"] (spIni K ["place", "given"]) := by
  refine F.ok sc_BadAnswer___init__ (fun vs H Q E h => by obtain ⟨_, _, _, rfl, hl, _⟩ := h; rw [List.length_cons, hl] <;> rfl) (fun cdv A outer s H vs Q E hr h => ⟨(tSeq (tOst K "place" (tVar 0) (tVar 1))
  (tOst K "given" (tVar 0) (tVar 2))), PSs.nox ?_, pure_ini2 vs H Q E h⟩)
  exact (pss_cons (ps_ost (pv 0) (pv 1))
  (pss_one (ps_ost (pv 0) (pv 2))))
abbrev s_Told___init__ : Stmt := inClass (top 30) 1
theorem sc_Told___init__ : FnScope ["self", "answer"] ["self", "answer"] (defScope s_Told___init__) := ⟨rfl, rfl, rfl, by decide +kernel, rfl, by decide +kernel, by decide +kernel⟩
theorem fn_Told___init__ (c : SlA K (slOf slL)) {f : Addr} {fd : FuncData} (F : FnP K "__init__" "Told.__init__" s_Told___init__ f fd) : FnOk P w K mg base CX0 1 f fd ["self", "answer"] (spSl K "Told" 1) := by
  refine F.ok sc_Told___init__ (fun vs H Q E h => by obtain ⟨_, _, _, rfl, hl, _⟩ := h; rw [List.length_cons, hl] <;> rfl) (fun cdv A outer s H vs Q E hr h => ⟨(SlX.sSl K (tVar 0) (tVar 1) "answer"), PSs.nox ?_, pure_sl1 c rfl "answer" vs H Q E h⟩)
  exact (pss_one (SlX.ps_sl (pv 0) (pv 1)))
end
def dd__law_source : He.DefD := ⟨("_law_source", none), "_law_source", "_law_source", defArgs s__law_source, defBody s__law_source, defScope s__law_source, [], []⟩
def dd__law_draw : He.DefD := ⟨("_law_draw", none), "_law_draw", "_law_draw", defArgs s__law_draw, defBody s__law_draw, defScope s__law_draw, [], []⟩
def dd__law_pick : He.DefD := ⟨("_law_pick", none), "_law_pick", "_law_pick", defArgs s__law_pick, defBody s__law_pick, defScope s__law_pick, [], []⟩
def dd__law_same : He.DefD := ⟨("_law_same", none), "_law_same", "_law_same", defArgs s__law_same, defBody s__law_same, defScope s__law_same, [], []⟩
def dd__law_up : He.DefD := ⟨("_law_up", none), "_law_up", "_law_up", defArgs s__law_up, defBody s__law_up, defScope s__law_up, [], []⟩
def dd__law_form : He.DefD := ⟨("_law_form", none), "_law_form", "_law_form", defArgs s__law_form, defBody s__law_form, defScope s__law_form, [], []⟩
def dd__law_space : He.DefD := ⟨("_law_space", none), "_law_space", "_law_space", defArgs s__law_space, defBody s__law_space, defScope s__law_space, [], []⟩
def dd__law_place : He.DefD := ⟨("_law_place", none), "_law_place", "_law_place", defArgs s__law_place, defBody s__law_place, defScope s__law_place, [], []⟩
def dd__law_places : He.DefD := ⟨("_law_places", none), "_law_places", "_law_places", defArgs s__law_places, defBody s__law_places, defScope s__law_places, [], []⟩
def dd__law_count : He.DefD := ⟨("_law_count", none), "_law_count", "_law_count", defArgs s__law_count, defBody s__law_count, defScope s__law_count, [], []⟩
def dd__law_at : He.DefD := ⟨("_law_at", none), "_law_at", "_law_at", defArgs s__law_at, defBody s__law_at, defScope s__law_at, [], []⟩
def dd__law_noted : He.DefD := ⟨("_law_noted", none), "_law_noted", "_law_noted", defArgs s__law_noted, defBody s__law_noted, defScope s__law_noted, [], []⟩
def dd__law_there : He.DefD := ⟨("_law_there", none), "_law_there", "_law_there", defArgs s__law_there, defBody s__law_there, defScope s__law_there, [], []⟩
def dd__law_bent : He.DefD := ⟨("_law_bent", none), "_law_bent", "_law_bent", defArgs s__law_bent, defBody s__law_bent, defScope s__law_bent, [], []⟩
def dd__law_try : He.DefD := ⟨("_law_try", none), "_law_try", "_law_try", defArgs s__law_try, defBody s__law_try, defScope s__law_try, [], []⟩
def dd_law : He.DefD := ⟨("law", none), "law", "law", defArgs s_law, defBody s_law, defScope s_law, [], []⟩
def dd_is_integer : He.DefD := ⟨("is_integer", none), "is_integer", "is_integer", defArgs s_is_integer, defBody s_is_integer, defScope s_is_integer, [], []⟩
def dd_Space___init__ : He.DefD := ⟨("Space", some "__init__"), "__init__", "Space.__init__", defArgs s_Space___init__, defBody s_Space___init__, defScope s_Space___init__, [], []⟩
def dd_Space___mul__ : He.DefD := ⟨("Space", some "__mul__"), "__mul__", "Space.__mul__", defArgs s_Space___mul__, defBody s_Space___mul__, defScope s_Space___mul__, [], []⟩
def dd_Space___pow__ : He.DefD := ⟨("Space", some "__pow__"), "__pow__", "Space.__pow__", defArgs s_Space___pow__, defBody s_Space___pow__, defScope s_Space___pow__, [], []⟩
def dd_Space_bare : He.DefD := ⟨("Space", some "bare"), "bare", "Space.bare", defArgs s_Space_bare, defBody s_Space_bare, defScope s_Space_bare, [], []⟩
def dd_Space_part : He.DefD := ⟨("Space", some "part"), "part", "Space.part", defArgs s_Space_part, defBody s_Space_part, defScope s_Space_part, [], []⟩
def dd_Pair_part : He.DefD := ⟨("Pair", some "part"), "part", "Pair.part", defArgs s_Pair_part, defBody s_Pair_part, defScope s_Pair_part, [], []⟩
def dd_Power_part : He.DefD := ⟨("Power", some "part"), "part", "Power.part", defArgs s_Power_part, defBody s_Power_part, defScope s_Power_part, [], []⟩
def dd_Endless_part : He.DefD := ⟨("Endless", some "part"), "part", "Endless.part", defArgs s_Endless_part, defBody s_Endless_part, defScope s_Endless_part, [], []⟩
def dd_Thing___init__ : He.DefD := ⟨("Thing", some "__init__"), "__init__", "Thing.__init__", defArgs s_Thing___init__, defBody s_Thing___init__, defScope s_Thing___init__, [], []⟩
def dd_Thing_at : He.DefD := ⟨("Thing", some "at"), "at", "Thing.at", defArgs s_Thing_at, defBody s_Thing_at, defScope s_Thing_at, [], []⟩
def dd_Thing_look : He.DefD := ⟨("Thing", some "look"), "look", "Thing.look", defArgs s_Thing_look, defBody s_Thing_look, defScope s_Thing_look, [], []⟩
def dd_Told_tell : He.DefD := ⟨("Told", some "tell"), "tell", "Told.tell", defArgs s_Told_tell, defBody s_Told_tell, defScope s_Told_tell, [], []⟩
def dd_told : He.DefD := ⟨("told", none), "told", "told", defArgs s_told, defBody s_told, defScope s_told, [], []⟩
def dd_answer_at : He.DefD := ⟨("answer_at", none), "answer_at", "answer_at", defArgs s_answer_at, defBody s_answer_at, defScope s_answer_at, [], []⟩
def dd_last_answer : He.DefD := ⟨("last_answer", none), "last_answer", "last_answer", defArgs s_last_answer, defBody s_last_answer, defScope s_last_answer, [], []⟩
def dd_BadSpace___init__ : He.DefD := ⟨("BadSpace", some "__init__"), "__init__", "BadSpace.__init__", defArgs s_BadSpace___init__, defBody s_BadSpace___init__, defScope s_BadSpace___init__, [], []⟩
def dd_NoPlace___init__ : He.DefD := ⟨("NoPlace", some "__init__"), "__init__", "NoPlace.__init__", defArgs s_NoPlace___init__, defBody s_NoPlace___init__, defScope s_NoPlace___init__, [], []⟩
def dd_BadAnswer___init__ : He.DefD := ⟨("BadAnswer", some "__init__"), "__init__", "BadAnswer.__init__", defArgs s_BadAnswer___init__, defBody s_BadAnswer___init__, defScope s_BadAnswer___init__, [], []⟩
def dd_Told___init__ : He.DefD := ⟨("Told", some "__init__"), "__init__", "Told.__init__", defArgs s_Told___init__, defBody s_Told___init__, defScope s_Told___init__, [], []⟩
def ds_Options___init__ : DefS := ⟨("Options", some "__init__"), "__init__", "Options.__init__", s_Options___init__, "Options", ("Space", some "__init__")⟩
def ds_Pair___init__ : DefS := ⟨("Pair", some "__init__"), "__init__", "Pair.__init__", s_Pair___init__, "Pair", ("Space", some "__init__")⟩
def ds_Power___init__ : DefS := ⟨("Power", some "__init__"), "__init__", "Power.__init__", s_Power___init__, "Power", ("Space", some "__init__")⟩
def ds_Endless___init__ : DefS := ⟨("Endless", some "__init__"), "__init__", "Endless.__init__", s_Endless___init__, "Endless", ("Space", some "__init__")⟩
abbrev R : PySem.W.OpenRow := PySem.W.OpenLaw.row PySem.Challenge.rw_finitelooks_k06_answer_at
def ckI (K : PySem.W.Frag) : Bool := decide (He.ma K (He.ga K "Endless") "__init__" = He.fAd K ("Endless", some "__init__")) && decide (He.ma K (He.ga K "Options") "__init__" = He.fAd K ("Options", some "__init__")) && decide (He.ma K (He.ga K "Pair") "__init__" = He.fAd K ("Pair", some "__init__")) && decide (He.ma K (He.ga K "Power") "__init__" = He.fAd K ("Power", some "__init__")) && decide (He.ma K (He.ga K "Thing") "__init__" = He.fAd K ("Thing", some "__init__")) && decide (He.ma K (He.ga K "Told") "__init__" = He.fAd K ("Told", some "__init__"))
def ckO (K : PySem.W.Frag) : Bool := owB K ksL .Mult owLMult && owB K ksL .Pow owLPow
def ckL (K : PySem.W.Frag) : Bool := (atB K atL && (isaB K csL subL && (erB K erL && mtB K ksL mtL))) && (ckI K && (ckO K && (tuB mkL K && (slB K slL && (mtSB K ksL msL && ciB K ksL ciL)))))
def HD : HkT := ⟨⟨.free "len" :: .free "int" :: .free "tuple" :: .free "list" :: .free "isinstance" :: .free "zip" :: .free "all" :: .free "dict" :: .free "bool" :: .free "range" :: .free "super" :: .glo "Space" :: .glo "Options" :: .glo "Pair" :: .glo "Power" :: .glo "Endless" :: .glo "Thing" :: .glo "Fan" :: .glo "Either" :: .glo "Order" :: .glo "Sameness" :: .glo "BadSpace" :: .glo "NoPlace" :: .glo "BadAnswer" :: .glo "Told" :: .glo "_law_source" :: .keep "_law_source" :: .glo "_law_draw" :: .keep "_law_draw" :: .glo "_law_pick" :: .keep "_law_pick" :: .glo "_law_same" :: .keep "_law_same" :: .glo "_law_up" :: .keep "_law_up" :: .glo "_law_form" :: .keep "_law_form" :: .glo "_law_space" :: .keep "_law_space" :: .glo "_law_place" :: .keep "_law_place" :: .glo "_law_places" :: .keep "_law_places" :: .glo "_law_count" :: .keep "_law_count" :: .glo "_law_at" :: .keep "_law_at" :: .glo "_law_noted" :: .keep "_law_noted" :: .glo "_law_there" :: .keep "_law_there" :: .glo "_law_bent" :: .keep "_law_bent" :: .glo "_law_try" :: .keep "_law_try" :: .glo "law" :: .keep "law" :: .glo "is_integer" :: .keep "is_integer" :: .glo "told" :: .keep "told" :: .glo "answer_at" :: .keep "answer_at" :: .glo "last_answer" :: .keep "last_answer" :: .mkr "Endless" :: .mkr "Options" :: .mkr "Pair" :: .mkr "Power" :: .mkr "Thing" :: .mkr "Told" :: [], dd__law_source :: dd__law_draw :: dd__law_pick :: dd__law_same :: dd__law_up :: dd__law_form :: dd__law_space :: dd__law_place :: dd__law_places :: dd__law_count :: dd__law_at :: dd__law_noted :: dd__law_there :: dd__law_bent :: dd__law_try :: dd_law :: dd_is_integer :: dd_Space___init__ :: dd_Space___mul__ :: dd_Space___pow__ :: dd_Space_bare :: dd_Space_part :: dd_Pair_part :: dd_Power_part :: dd_Endless_part :: dd_Thing___init__ :: dd_Thing_at :: dd_Thing_look :: dd_Told_tell :: dd_told :: dd_answer_at :: dd_last_answer :: dd_BadSpace___init__ :: dd_NoPlace___init__ :: dd_BadAnswer___init__ :: dd_Told___init__ :: [], ds_Options___init__ :: ds_Pair___init__ :: ds_Power___init__ :: ds_Endless___init__ :: [], PySem.Challenge.pw_finitelooks_k06_answer_at.main.file, ckL⟩, mkL.map Prod.fst⟩
section
variable {P : Program} {w : World} {K : PySem.W.Frag} {mg : Str → Option Value} {base h : Heap} {n : Nat} {C : Nat → List A → M A}
theorem zt_of (X : K.In h) (G : h.Ns mainGlobals mg) (c : HD.d.Says K) (a : AllF P w K mg base n ksL C) (lm : LmT P w K mg base n (lf C)) (tb : ∀ p ∈ (mkL.map Prod.fst).map (He.cT K), LamX.TabB base mg p.1 p.2) : Zt P w K mg base n C := by
  have ck : ckL K = true := c.ck
  obtain ⟨k1, k2⟩ := and_t ck
  obtain ⟨kat, k1⟩ := and_t k1
  obtain ⟨kis, k1⟩ := and_t k1
  obtain ⟨ker, kmt⟩ := and_t k1
  obtain ⟨kI, k2⟩ := and_t k2
  obtain ⟨kO, k2⟩ := and_t k2
  obtain ⟨kT, k2⟩ := and_t k2
  obtain ⟨kS, k2⟩ := and_t k2
  obtain ⟨kM, kC⟩ := and_t k2
  exact {
    z_len := He.free_ok X G (c.d.fact 0 (f := .free "len") rfl)
    z_int := He.free_ok X G (c.d.fact 1 (f := .free "int") rfl)
    z_tuple := He.free_ok X G (c.d.fact 2 (f := .free "tuple") rfl)
    z_list := He.free_ok X G (c.d.fact 3 (f := .free "list") rfl)
    z_isinstance := He.free_ok X G (c.d.fact 4 (f := .free "isinstance") rfl)
    z_zip := He.free_ok X G (c.d.fact 5 (f := .free "zip") rfl)
    z_all := He.free_ok X G (c.d.fact 6 (f := .free "all") rfl)
    z_dict := He.free_ok X G (c.d.fact 7 (f := .free "dict") rfl)
    z_bool := He.free_ok X G (c.d.fact 8 (f := .free "bool") rfl)
    z_range := He.free_ok X G (c.d.fact 9 (f := .free "range") rfl)
    z_super := He.free_ok X G (c.d.fact 10 (f := .free "super") rfl)
    g_Space := He.glo_ok X G (c.d.fact 11 (f := .glo "Space") rfl)
    g_Options := He.glo_ok X G (c.d.fact 12 (f := .glo "Options") rfl)
    g_Pair := He.glo_ok X G (c.d.fact 13 (f := .glo "Pair") rfl)
    g_Power := He.glo_ok X G (c.d.fact 14 (f := .glo "Power") rfl)
    g_Endless := He.glo_ok X G (c.d.fact 15 (f := .glo "Endless") rfl)
    g_Thing := He.glo_ok X G (c.d.fact 16 (f := .glo "Thing") rfl)
    g_Fan := He.glo_ok X G (c.d.fact 17 (f := .glo "Fan") rfl)
    g_Either := He.glo_ok X G (c.d.fact 18 (f := .glo "Either") rfl)
    g_Order := He.glo_ok X G (c.d.fact 19 (f := .glo "Order") rfl)
    g_Sameness := He.glo_ok X G (c.d.fact 20 (f := .glo "Sameness") rfl)
    g_BadSpace := He.glo_ok X G (c.d.fact 21 (f := .glo "BadSpace") rfl)
    g_NoPlace := He.glo_ok X G (c.d.fact 22 (f := .glo "NoPlace") rfl)
    g_BadAnswer := He.glo_ok X G (c.d.fact 23 (f := .glo "BadAnswer") rfl)
    at_ := atB_ok kat
    isA := isaB_ok X G kis
    er := erB_ok ker
    er_BadSpace := erA_of X G ker (by decide +kernel) (by
      obtain ⟨fd, F⟩ := c.d.def_ 32 (d := dd_BadSpace___init__) rfl
      exact ⟨fd, _, fn_BadSpace___init__ F, F.bindsN fun _ _ _ _ _ _ us hl => match us, hl with | [_, _], _ => rfl⟩)
    er_NoPlace := erA_of X G ker (by decide +kernel) (by
      obtain ⟨fd, F⟩ := c.d.def_ 33 (d := dd_NoPlace___init__) rfl
      exact ⟨fd, _, fn_NoPlace___init__ F, F.bindsN fun _ _ _ _ _ _ us hl => match us, hl with | [_, _], _ => rfl⟩)
    er_BadAnswer := erA_of X G ker (by decide +kernel) (by
      obtain ⟨fd, F⟩ := c.d.def_ 34 (d := dd_BadAnswer___init__) rfl
      exact ⟨fd, _, fn_BadAnswer___init__ F, F.bindsN fun _ _ _ _ _ _ us hl => match us, hl with | [_, _, _], _ => rfl⟩)
    c__law_source := clA_of X G a (k := 0) rfl (c.d.fact 25 (f := .glo "_law_source") rfl) (c.d.fact 26 (f := .keep "_law_source") rfl)
    c__law_draw := clA_of X G a (k := 1) rfl (c.d.fact 27 (f := .glo "_law_draw") rfl) (c.d.fact 28 (f := .keep "_law_draw") rfl)
    c__law_pick := clA_of X G a (k := 2) rfl (c.d.fact 29 (f := .glo "_law_pick") rfl) (c.d.fact 30 (f := .keep "_law_pick") rfl)
    c__law_same := clA_of X G a (k := 3) rfl (c.d.fact 31 (f := .glo "_law_same") rfl) (c.d.fact 32 (f := .keep "_law_same") rfl)
    c__law_up := clA_of X G a (k := 4) rfl (c.d.fact 33 (f := .glo "_law_up") rfl) (c.d.fact 34 (f := .keep "_law_up") rfl)
    c__law_form := clA_of X G a (k := 5) rfl (c.d.fact 35 (f := .glo "_law_form") rfl) (c.d.fact 36 (f := .keep "_law_form") rfl)
    c__law_space := clA_of X G a (k := 6) rfl (c.d.fact 37 (f := .glo "_law_space") rfl) (c.d.fact 38 (f := .keep "_law_space") rfl)
    c__law_place := clA_of X G a (k := 7) rfl (c.d.fact 39 (f := .glo "_law_place") rfl) (c.d.fact 40 (f := .keep "_law_place") rfl)
    c__law_places := clA_of X G a (k := 8) rfl (c.d.fact 41 (f := .glo "_law_places") rfl) (c.d.fact 42 (f := .keep "_law_places") rfl)
    c__law_count := clA_of X G a (k := 9) rfl (c.d.fact 43 (f := .glo "_law_count") rfl) (c.d.fact 44 (f := .keep "_law_count") rfl)
    c__law_at := clA_of X G a (k := 10) rfl (c.d.fact 45 (f := .glo "_law_at") rfl) (c.d.fact 46 (f := .keep "_law_at") rfl)
    c__law_noted := clA_of X G a (k := 11) rfl (c.d.fact 47 (f := .glo "_law_noted") rfl) (c.d.fact 48 (f := .keep "_law_noted") rfl)
    c__law_there := clA_of X G a (k := 12) rfl (c.d.fact 49 (f := .glo "_law_there") rfl) (c.d.fact 50 (f := .keep "_law_there") rfl)
    c__law_bent := clA_of X G a (k := 13) rfl (c.d.fact 51 (f := .glo "_law_bent") rfl) (c.d.fact 52 (f := .keep "_law_bent") rfl)
    c__law_try := clA_of X G a (k := 14) rfl (c.d.fact 53 (f := .glo "_law_try") rfl) (c.d.fact 54 (f := .keep "_law_try") rfl)
    c_law := clA_of X G a (k := 15) rfl (c.d.fact 55 (f := .glo "law") rfl) (c.d.fact 56 (f := .keep "law") rfl)
    c_is_integer := clA_of X G a (k := 16) rfl (c.d.fact 57 (f := .glo "is_integer") rfl) (c.d.fact 58 (f := .keep "is_integer") rfl)
    c_told := clA_of X G a (k := 33) rfl (c.d.fact 59 (f := .glo "told") rfl) (c.d.fact 60 (f := .keep "told") rfl)
    c_answer_at := clA_of X G a (k := 34) rfl (c.d.fact 61 (f := .glo "answer_at") rfl) (c.d.fact 62 (f := .keep "answer_at") rfl)
    c_last_answer := clA_of X G a (k := 35) rfl (c.d.fact 63 (f := .glo "last_answer") rfl) (c.d.fact 64 (f := .keep "last_answer") rfl)
    mk_Endless := mkA_of X G a (k := 27) rfl (c.d.fact 15 (f := .glo "Endless") rfl) (c.d.fact 65 (f := .mkr "Endless") rfl) (by
      have z := kI
      unfold ckI at z
      simp only [Bool.and_eq_true, decide_eq_true_eq] at z
      simp only [z])
    mk_Options := mkA_of X G a (k := 22) rfl (c.d.fact 12 (f := .glo "Options") rfl) (c.d.fact 66 (f := .mkr "Options") rfl) (by
      have z := kI
      unfold ckI at z
      simp only [Bool.and_eq_true, decide_eq_true_eq] at z
      simp only [z])
    mk_Pair := mkA_of X G a (k := 23) rfl (c.d.fact 13 (f := .glo "Pair") rfl) (c.d.fact 67 (f := .mkr "Pair") rfl) (by
      have z := kI
      unfold ckI at z
      simp only [Bool.and_eq_true, decide_eq_true_eq] at z
      simp only [z])
    mk_Power := mkA_of X G a (k := 25) rfl (c.d.fact 14 (f := .glo "Power") rfl) (c.d.fact 68 (f := .mkr "Power") rfl) (by
      have z := kI
      unfold ckI at z
      simp only [Bool.and_eq_true, decide_eq_true_eq] at z
      simp only [z])
    mk_Thing := mkA_of X G a (k := 29) rfl (c.d.fact 16 (f := .glo "Thing") rfl) (c.d.fact 69 (f := .mkr "Thing") rfl) (by
      have z := kI
      unfold ckI at z
      simp only [Bool.and_eq_true, decide_eq_true_eq] at z
      simp only [z])
    f_k_Space___init__ := a 17 _ rfl
    mt := mtA_of a kmt
    sl := slB_ok kS
    ms := mtS_of a kM
    ci := ciA_of a kC
    ms_Told := mkS_of X G (c.d.fact 24 (f := .glo "Told") rfl) (c.d.fact 70 (f := .mkr "Told") rfl) (by
      obtain ⟨fd, F⟩ := c.d.def_ 35 (d := dd_Told___init__) rfl
      have e : He.ma K (He.ga K "Told") "__init__" = He.fAd K ("Told", some "__init__") := by
        have z := kI
        unfold ckI at z
        simp only [Bool.and_eq_true, decide_eq_true_eq] at z
        simp only [z]
      rw [e]
      exact ⟨fd, _, fn_Told___init__ (slB_ok kS) F, F.bindsN fun _ _ _ _ _ _ us hl => match us, hl with | [_, _], _ => rfl⟩)
    lm := lm
    tu := tuB_ok kT
    tb_law := tb _ (List.mem_of_getElem? (i := 0) rfl)
    owMult := owA_of a (by
      have z := kO
      unfold ckO at z
      simp only [Bool.and_eq_true] at z
      simp only [z])
    owPow := owA_of a (by
      have z := kO
      unfold ckO at z
      simp only [Bool.and_eq_true] at z
      simp only [z]) }
theorem defsN (hP : (P.main.scope.names.lookup ("super" : Str)).isSome = false) (hf : P.main.file = HD.d.file) (c : HD.d.Says K) : ∀ (k : Nat) (p : Str × Option Str), ksL[k]? = some p → ∃ (fd : FuncData) (ps : List Str), Binds K fd ps [] ∧ ∀ (n : Nat) (C : Nat → List A → M A), 1 ≤ n → Zt P w K mg base n C → FnK P w K mg base (n + 2) (He.fAd K p) fd ps (bodyM C k)
  | 0, p, hk => by
    cases hk
    obtain ⟨fd, F⟩ := c.d.def_ 0 (d := dd__law_source) rfl
    exact ⟨fd, _, F.bindsN (ps := ["_law_script", "_law_k"]) (fun _ _ _ _ _ _ us hl => match us, hl with | [_, _], _ => rfl), fun n C h1 Z => fn__law_source Z h1 F⟩
  | 1, p, hk => by
    cases hk
    obtain ⟨fd, F⟩ := c.d.def_ 1 (d := dd__law_draw) rfl
    exact ⟨fd, _, F.bindsN (ps := ["_law_draws", "_law_many"]) (fun _ _ _ _ _ _ us hl => match us, hl with | [_, _], _ => rfl), fun n C h1 Z => fn__law_draw Z h1 F⟩
  | 2, p, hk => by
    cases hk
    obtain ⟨fd, F⟩ := c.d.def_ 2 (d := dd__law_pick) rfl
    exact ⟨fd, _, F.bindsN (ps := ["_law_draws", "_law_some"]) (fun _ _ _ _ _ _ us hl => match us, hl with | [_, _], _ => rfl), fun n C h1 Z => fn__law_pick Z h1 F⟩
  | 3, p, hk => by
    cases hk
    obtain ⟨fd, F⟩ := c.d.def_ 3 (d := dd__law_same) rfl
    exact ⟨fd, _, F.bindsN (ps := ["_law_found", "_law_due"]) (fun _ _ _ _ _ _ us hl => match us, hl with | [_, _], _ => rfl), fun n C h1 Z => fn__law_same Z h1 F⟩
  | 4, p, hk => by
    cases hk
    obtain ⟨fd, F⟩ := c.d.def_ 4 (d := dd__law_up) rfl
    exact ⟨fd, _, F.bindsN (ps := ["_law_places_here"]) (fun _ _ _ _ _ _ us hl => match us, hl with | [_], _ => rfl), fun n C h1 Z => fn__law_up Z h1 F⟩
  | 5, p, hk => by
    cases hk
    obtain ⟨fd, F⟩ := c.d.def_ 5 (d := dd__law_form) rfl
    exact ⟨fd, _, F.bindsN (ps := ["_law_draws", "_law_deep"]) (fun _ _ _ _ _ _ us hl => match us, hl with | [_, _], _ => rfl), fun n C h1 Z => fn__law_form Z h1 F⟩
  | 6, p, hk => by
    cases hk
    obtain ⟨fd, F⟩ := c.d.def_ 6 (d := dd__law_space) rfl
    exact ⟨fd, _, F.bindsN (ps := ["_law_form_here"]) (fun _ _ _ _ _ _ us hl => match us, hl with | [_], _ => rfl), fun n C h1 Z => fn__law_space Z h1 F⟩
  | 7, p, hk => by
    cases hk
    obtain ⟨fd, F⟩ := c.d.def_ 7 (d := dd__law_place) rfl
    exact ⟨fd, _, F.bindsN (ps := ["_law_draws", "_law_form_here"]) (fun _ _ _ _ _ _ us hl => match us, hl with | [_, _], _ => rfl), fun n C h1 Z => fn__law_place Z h1 F⟩
  | 8, p, hk => by
    cases hk
    obtain ⟨fd, F⟩ := c.d.def_ 8 (d := dd__law_places) rfl
    exact ⟨fd, _, F.bindsN (ps := ["_law_draws", "_law_form_here", "_law_many"]) (fun _ _ _ _ _ _ us hl => match us, hl with | [_, _, _], _ => rfl), fun n C h1 Z => fn__law_places Z h1 F⟩
  | 9, p, hk => by
    cases hk
    obtain ⟨fd, F⟩ := c.d.def_ 9 (d := dd__law_count) rfl
    exact ⟨fd, _, F.bindsN (ps := ["_law_form_here", "_law_place_here"]) (fun _ _ _ _ _ _ us hl => match us, hl with | [_, _], _ => rfl), fun n C h1 Z => fn__law_count Z h1 F⟩
  | 10, p, hk => by
    cases hk
    obtain ⟨fd, F⟩ := c.d.def_ 10 (d := dd__law_at) rfl
    exact ⟨fd, _, F.bindsN (ps := ["_law_places_here", "_law_answers", "_law_place_here"]) (fun _ _ _ _ _ _ us hl => match us, hl with | [_, _, _], _ => rfl), fun n C h1 Z => fn__law_at Z h1 F⟩
  | 11, p, hk => by
    cases hk
    obtain ⟨fd, F⟩ := c.d.def_ 11 (d := dd__law_noted) rfl
    exact ⟨fd, _, F.bindsN (ps := ["_law_log", "_law_places_here", "_law_answers", "_law_place_here"]) (fun _ _ _ _ _ _ us hl => match us, hl with | [_, _, _, _], _ => rfl), fun n C h1 Z => fn__law_noted Z h1 F⟩
  | 12, p, hk => by
    cases hk
    obtain ⟨fd, F⟩ := c.d.def_ 12 (d := dd__law_there) rfl
    exact ⟨fd, _, F.bindsN (ps := ["_law_form_here", "_law_place_here"]) (fun _ _ _ _ _ _ us hl => match us, hl with | [_, _], _ => rfl), fun n C h1 Z => fn__law_there Z h1 F⟩
  | 13, p, hk => by
    cases hk
    obtain ⟨fd, F⟩ := c.d.def_ 13 (d := dd__law_bent) rfl
    exact ⟨fd, _, F.bindsN (ps := ["_law_draws", "_law_place_here"]) (fun _ _ _ _ _ _ us hl => match us, hl with | [_, _], _ => rfl), fun n C h1 Z => fn__law_bent Z h1 F⟩
  | 14, p, hk => by
    cases hk
    obtain ⟨fd, F⟩ := c.d.def_ 14 (d := dd__law_try) rfl
    exact ⟨fd, _, F.bindsN (ps := ["_law_ask"]) (fun _ _ _ _ _ _ us hl => match us, hl with | [_], _ => rfl), fun n C h1 Z => fn__law_try Z h1 F⟩
  | 15, p, hk => by
    cases hk
    obtain ⟨fd, F⟩ := c.d.def_ 15 (d := dd_law) rfl
    exact ⟨fd, _, F.bindsN (ps := ["_law_script"]) (fun _ _ _ _ _ _ us hl => match us, hl with | [_], _ => rfl), fun n C h1 Z => fn_law Z h1 F⟩
  | 16, p, hk => by
    cases hk
    obtain ⟨fd, F⟩ := c.d.def_ 16 (d := dd_is_integer) rfl
    exact ⟨fd, _, F.bindsN (ps := ["value"]) (fun _ _ _ _ _ _ us hl => match us, hl with | [_], _ => rfl), fun n C h1 Z => fn_is_integer Z h1 F⟩
  | 17, p, hk => by
    cases hk
    obtain ⟨fd, F⟩ := c.d.def_ 17 (d := dd_Space___init__) rfl
    exact ⟨fd, _, F.bindsN (ps := ["self", "form", "free"]) (fun _ _ _ _ _ _ us hl => match us, hl with | [_, _, _], _ => rfl), fun n C h1 Z => fn_Space___init__ Z h1 F⟩
  | 18, p, hk => by
    cases hk
    obtain ⟨fd, F⟩ := c.d.def_ 18 (d := dd_Space___mul__) rfl
    exact ⟨fd, _, F.bindsN (ps := ["self", "other"]) (fun _ _ _ _ _ _ us hl => match us, hl with | [_, _], _ => rfl), fun n C h1 Z => fn_Space___mul__ Z h1 F⟩
  | 19, p, hk => by
    cases hk
    obtain ⟨fd, F⟩ := c.d.def_ 19 (d := dd_Space___pow__) rfl
    exact ⟨fd, _, F.bindsN (ps := ["self", "other"]) (fun _ _ _ _ _ _ us hl => match us, hl with | [_, _], _ => rfl), fun n C h1 Z => fn_Space___pow__ Z h1 F⟩
  | 20, p, hk => by
    cases hk
    obtain ⟨fd, F⟩ := c.d.def_ 20 (d := dd_Space_bare) rfl
    exact ⟨fd, _, F.bindsN (ps := ["self"]) (fun _ _ _ _ _ _ us hl => match us, hl with | [_], _ => rfl), fun n C h1 Z => fn_Space_bare Z h1 F⟩
  | 21, p, hk => by
    cases hk
    obtain ⟨fd, F⟩ := c.d.def_ 21 (d := dd_Space_part) rfl
    exact ⟨fd, _, F.bindsN (ps := ["self", "i"]) (fun _ _ _ _ _ _ us hl => match us, hl with | [_, _], _ => rfl), fun n C h1 Z => fn_Space_part Z h1 F⟩
  | 22, p, hk => by
    cases hk
    have hm : ds_Options___init__ ∈ HD.d.fs := List.mem_of_getElem? (i := 0) rfl
    obtain ⟨cc, cda, fd, F, SF, SC⟩ := DefS.facts (P := P) hP (c.v _ hm) (by rw [hf]; exact c.ok _ hm)
    exact ⟨fd, _, F.binds (ps := ["self", "count"]) (fun _ _ _ _ _ us hl => match us, hl with | [_, _], _ => rfl), fun n C h1 Z => fn_Options___init__ Z h1 F SF SC⟩
  | 23, p, hk => by
    cases hk
    have hm : ds_Pair___init__ ∈ HD.d.fs := List.mem_of_getElem? (i := 1) rfl
    obtain ⟨cc, cda, fd, F, SF, SC⟩ := DefS.facts (P := P) hP (c.v _ hm) (by rw [hf]; exact c.ok _ hm)
    exact ⟨fd, _, F.binds (ps := ["self", "left", "right"]) (fun _ _ _ _ _ us hl => match us, hl with | [_, _, _], _ => rfl), fun n C h1 Z => fn_Pair___init__ Z h1 F SF SC⟩
  | 24, p, hk => by
    cases hk
    obtain ⟨fd, F⟩ := c.d.def_ 22 (d := dd_Pair_part) rfl
    exact ⟨fd, _, F.bindsN (ps := ["self", "i"]) (fun _ _ _ _ _ _ us hl => match us, hl with | [_, _], _ => rfl), fun n C h1 Z => fn_Pair_part Z h1 F⟩
  | 25, p, hk => by
    cases hk
    have hm : ds_Power___init__ ∈ HD.d.fs := List.mem_of_getElem? (i := 2) rfl
    obtain ⟨cc, cda, fd, F, SF, SC⟩ := DefS.facts (P := P) hP (c.v _ hm) (by rw [hf]; exact c.ok _ hm)
    exact ⟨fd, _, F.binds (ps := ["self", "base", "n"]) (fun _ _ _ _ _ us hl => match us, hl with | [_, _, _], _ => rfl), fun n C h1 Z => fn_Power___init__ Z h1 F SF SC⟩
  | 26, p, hk => by
    cases hk
    obtain ⟨fd, F⟩ := c.d.def_ 23 (d := dd_Power_part) rfl
    exact ⟨fd, _, F.bindsN (ps := ["self", "i"]) (fun _ _ _ _ _ _ us hl => match us, hl with | [_, _], _ => rfl), fun n C h1 Z => fn_Power_part Z h1 F⟩
  | 27, p, hk => by
    cases hk
    have hm : ds_Endless___init__ ∈ HD.d.fs := List.mem_of_getElem? (i := 3) rfl
    obtain ⟨cc, cda, fd, F, SF, SC⟩ := DefS.facts (P := P) hP (c.v _ hm) (by rw [hf]; exact c.ok _ hm)
    exact ⟨fd, _, F.binds (ps := ["self", "part"]) (fun _ _ _ _ _ us hl => match us, hl with | [_, _], _ => rfl), fun n C h1 Z => fn_Endless___init__ Z h1 F SF SC⟩
  | 28, p, hk => by
    cases hk
    obtain ⟨fd, F⟩ := c.d.def_ 24 (d := dd_Endless_part) rfl
    exact ⟨fd, _, F.bindsN (ps := ["self", "i"]) (fun _ _ _ _ _ _ us hl => match us, hl with | [_, _], _ => rfl), fun n C h1 Z => fn_Endless_part Z h1 F⟩
  | 29, p, hk => by
    cases hk
    obtain ⟨fd, F⟩ := c.d.def_ 25 (d := dd_Thing___init__) rfl
    exact ⟨fd, _, F.bindsN (ps := ["self", "space", "source", "place"]) (fun _ _ _ _ _ _ us hl => match us, hl with | [_, _, _, _], _ => rfl), fun n C h1 Z => fn_Thing___init__ Z h1 F⟩
  | 30, p, hk => by
    cases hk
    obtain ⟨fd, F⟩ := c.d.def_ 26 (d := dd_Thing_at) rfl
    exact ⟨fd, _, F.bindsN (ps := ["self", "i"]) (fun _ _ _ _ _ _ us hl => match us, hl with | [_, _], _ => rfl), fun n C h1 Z => fn_Thing_at Z h1 F⟩
  | 31, p, hk => by
    cases hk
    obtain ⟨fd, F⟩ := c.d.def_ 27 (d := dd_Thing_look) rfl
    exact ⟨fd, _, F.bindsN (ps := ["self"]) (fun _ _ _ _ _ _ us hl => match us, hl with | [_], _ => rfl), fun n C h1 Z => fn_Thing_look Z h1 F⟩
  | 32, p, hk => by
    cases hk
    obtain ⟨fd, F⟩ := c.d.def_ 28 (d := dd_Told_tell) rfl
    exact ⟨fd, _, F.bindsN (ps := ["self", "place", "many"]) (fun _ _ _ _ _ _ us hl => match us, hl with | [_, _, _], _ => rfl), fun n C h1 Z => fn_Told_tell Z h1 F⟩
  | 33, p, hk => by
    cases hk
    obtain ⟨fd, F⟩ := c.d.def_ 29 (d := dd_told) rfl
    exact ⟨fd, _, F.bindsN (ps := ["space", "answer"]) (fun _ _ _ _ _ _ us hl => match us, hl with | [_, _], _ => rfl), fun n C h1 Z => fn_told Z h1 F⟩
  | 34, p, hk => by
    cases hk
    obtain ⟨fd, F⟩ := c.d.def_ 30 (d := dd_answer_at) rfl
    exact ⟨fd, _, F.bindsN (ps := ["thing", "place"]) (fun _ _ _ _ _ _ us hl => match us, hl with | [_, _], _ => rfl), fun n C h1 Z => fn_answer_at Z h1 F⟩
  | 35, p, hk => by
    cases hk
    obtain ⟨fd, F⟩ := c.d.def_ 31 (d := dd_last_answer) rfl
    exact ⟨fd, _, F.bindsN (ps := ["spot", "bare", "rest", "place"]) (fun _ _ _ _ _ _ us hl => match us, hl with | [_, _, _, _], _ => rfl), fun n C h1 Z => fn_last_answer Z h1 F⟩
  | k + 36, p, hk => by
    simp [ksL] at hk
theorem lamsN : ∀ i, i < 3 → ∀ (n : Nat) (C : Nat → List A → M A), 1 ≤ n → Zt P w K mg base n C → LmA P w K mg base (n + 2) i (bodyM C (36 + i))
  | 0, _, n, C, h1, Z => la_0 Z h1
  | 1, _, n, C, h1, Z => la_1 Z h1
  | 2, _, n, C, h1, Z => la_2 Z h1
  | i + 3, h, _, _, _, _ => absurd h (by omega)
theorem allN (X : K.In h) (G : h.Ns mainGlobals mg) (hP : (P.main.scope.names.lookup ("super" : Str)).isSome = false) (hf : P.main.file = HD.d.file) (c : HD.d.Says K) (tb : ∀ p ∈ (mkL.map Prod.fst).map (He.cT K), LamX.TabB base mg p.1 p.2) : ∀ t : Nat, AllF P w K mg base (2 * t + 2) ksL (cN t) ∧ LmT P w K mg base (2 * t + 2) (lf (cN t))
  | 0 => ⟨fun k p hk => by
    obtain ⟨fd, ps, b, _⟩ := defsN (w := w) (mg := mg) (base := base) hP hf c k p hk
    exact FnA.no b, lmT_of fun i _ => LmA.no⟩
  | t + 1 => by
    obtain ⟨h1, h2⟩ := allN X G hP hf c tb t
    have Z := zt_of X G c h1 h2 tb
    refine ⟨fun k p hk => ?_, lmT_of fun i hi => lamsN i hi (2 * t + 2) (cN t) (by omega) Z⟩
    obtain ⟨fd, ps, b, q⟩ := defsN (w := w) (mg := mg) (base := base) hP hf c k p hk
    exact ⟨fd, ps, q (2 * t + 2) (cN t) (by omega) Z, b⟩
end
def hnames : List PySem.Str := "_wall" :: "LooksError" :: "BadSpace" :: "BadCount" :: "NoPlace" :: "BadAnswer" :: "is_integer" :: "part_facts" :: "order_row" :: "order_tells" :: "heads_of" :: "same_tells" :: "Space" :: "Options" :: "Parted" :: "Pair" :: "Power" :: "Endless" :: "Either" :: "Fan" :: "Linked" :: "Order" :: "Sameness" :: "are_indexes" :: "Thing" :: "Told" :: "told" :: "answer_at" :: "last_answer" :: "_law_source" :: "_law_draw" :: "_law_pick" :: "_law_same" :: "_law_up" :: "_law_form" :: "_law_space" :: "_law_place" :: "_law_places" :: "_law_count" :: "_law_at" :: "_law_noted" :: "_law_there" :: "_law_bent" :: "_law_try" :: []
theorem run (w : World) : HandSHeadRun.RunEq R (PySem.W.view R.prog [50]) (HD.hook 6) (HD.ob 6) 12000 hnames w := by
  intro os
  kernel_rfl
end FL
open PySem PySem.W PySem.Calls PyProof.Rows
theorem PySem.Challenge.cw_finitelooks_k06_answer_at_holds : PySem.Challenge.rw_finitelooks_k06_answer_at.Holds := by
  w_on; o_law
  refine HandSHeadRun.head_any (r := OpenLaw.row PySem.Challenge.rw_finitelooks_k06_answer_at) (q := view (OpenLaw.row PySem.Challenge.rw_finitelooks_k06_answer_at).prog [50]) (H := FL.HD.hook 6) (ob := FL.HD.ob 6) (M := 12000) (loose := FL.hnames) (d := HandSHeadRun.topDef (OpenLaw.row PySem.Challenge.rw_finitelooks_k06_answer_at).prog 50) (kwd := []) (FL.HD.ob_eq 6)
    (by kernel_rfl) (fun s => by kernel_rfl) FL.run (by kernel_rfl) (by kernel_rfl) (by kernel_rfl) (by rfl) (by first | assumption | decide +kernel) (by decide +kernel) ⟨rfl, rfl, rfl, rfl, rfl, by decide +kernel⟩ ?hw ?hc
  case hw => w_witness2
  case hc =>
    refine LamX.walk_ofTsE (l := PySem.Challenge.rw_finitelooks_k06_answer_at) (n := 63) (k := 62) (x := "_law_script") (CX := fun _ => L2.CX0) rfl (by decide) (by kernel_rfl) ⟨rfl, by decide, by decide⟩ ?F (fun _ _ _ _ _ z => z)
    intro w mg fa h Y G hmg0
    obtain ⟨K, KX, c⟩ := Y
    have hmg : mg ("law" : PySem.Str) = some (.ref fa) := by
      have e : (HandSHeadRun.topDef (OpenLaw.row PySem.Challenge.rw_finitelooks_k06_answer_at).prog 50).name = ("law" : PySem.Str) := by kernel_rfl
      rw [← e]
      exact hmg0
    obtain ⟨fd, F⟩ := c.d.d.def_ 15 (d := FL.dd_law) rfl
    have e := hmg.symm.trans (He.glo_ok KX G (c.d.d.fact 55 (f := .glo "law") rfl))
    cases e
    have b := L2.FunD.bindsA (ps := ["_law_script"]) F fun _ _ _ _ _ _ us hl => match us, hl with | [_], _ => rfl
    have ml : ∀ p ∈ (FL.mkL.map Prod.fst).map (He.cT K), ∃ q ∈ FL.HD.tf, p = He.cT K q := fun p hp => by
      obtain ⟨q, hq, e⟩ := List.mem_map.mp hp
      exact ⟨q, hq, e.symm⟩
    refine ⟨K, KX, fd, (FL.mkL.map Prod.fst).map (He.cT K), _, fun p hp => ?_, fun p hp => ?_, fun p hp => ?_, fun s v => b s [v] rfl, fun H a ns hl _ hH hS => FL.end_sp (mg := mg) FL.pure_law H a ns hl (FL.tabs_start hH) hS, fun base Kb Gb TB => ?_⟩
    · obtain ⟨q, hq, rfl⟩ := ml p hp
      exact c.empty q hq
    · obtain ⟨q, hq, rfl⟩ := ml p hp
      exact c.out q hq
    · obtain ⟨q, hq, rfl⟩ := ml p hp
      exact PySem.W.codeHd_of_K KX (c.hd q hq)
    · have aN := FL.allN (P := (PySem.Challenge.rw_finitelooks_k06_answer_at).prog) (w := w) (base := base) KX G (by decide +kernel) (by rfl) c.d TB 29
      exact FL.fnk_end (FL.fn_law (FL.zt_of KX G c.d aN.1 aN.2 TB) (by decide) F)
