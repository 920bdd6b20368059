import PyProof.Rows.All
import Wide.All
import OpenK.AllK
import Wide.FinOn
import KE.KStateDown
import Lean
import HandS.ForMost
import HandS.More
import HandS.IsInst
import HandS.TupAny
import HandS.Zip
import HandS.Rev
import HandS.Walk
import HandS.Wide
import HandS.Conv
import HandS.Deep
import HandS.Defaults
import HandS.WordsExc
import HandS.Head0
import HandS.Head1
import HandS.Head2
import HandS.HeadEnd
import HandS.HeadHook1
import HandS.HeadHook2
import HandS.ExcInit
import HandS.ExcField
import HandS.ExcIs
import HandS.DictTup
import HandS.ListItems
import KE.KDictDisplayH
import PySem.Challenge.RW_finitelooks_k01_errors_made
set_option Elab.async false
set_option linter.all false
set_option maxRecDepth 100000
set_option maxHeartbeats 1000000
set_option maxHeartbeats 0
/-! ## Pre: heaps that keep all but some addresses; data in the heap; calls by name -/
namespace FL
open PySem L2

/-- all but ex is kept -/
def Kp (ex : List Addr) (H H' : Hp) : Prop := ∀ b o, b ∉ ex → H b = some o → H' b = some o
theorem Kp.refl {ex : List Addr} {H : Hp} : Kp ex H H := fun _ _ _ h => h
theorem Kp.trans {ex : List Addr} {H H1 H2 : Hp} (a : Kp ex H H1) (b : Kp ex H1 H2) : Kp ex H H2 := fun c o n h => b c o n (a c o n h)
theorem Kp.mono {ex ex' : List Addr} {H H' : Hp} (s : ∀ b, b ∈ ex → b ∈ ex') (k : Kp ex H H') : Kp ex' H H' := fun b o n h => k b o (fun z => n (s b z)) h
theorem Kp.any {ex : List Addr} {H H' : Hp} (k : Kp [] H H') : Kp ex H H' := fun b o _ h => k b o (fun z => nomatch z) h
theorem Kp.new {ex : List Addr} {H : Hp} {p : Addr} {o : HO} (h : H p = none) : Kp ex H (upd H p o) := fun b u _ e => by
  rw [upd_ne (ne_of_none e h)]; exact e
theorem Kp.mut {ex : List Addr} {H : Hp} {p : Addr} {o : HO} (h : p ∈ ex) : Kp ex H (upd H p o) := fun b u n e => by
  have z : b ≠ p := fun z => n (by rw [z]; exact h)
  rw [upd_ne z]; exact e
/-- what was not there ahead need not be named -/
theorem Kp.drop {ex : List Addr} {H H' : Hp} {p : Addr} (k : Kp (p :: ex) H H') (h : H p = none) : Kp ex H H' := fun b o n e =>
  k b o (fun z => by rcases List.mem_cons.mp z with z | z; exact ne_of_none e h z; exact n z) e
theorem Kp.same {H H' : Hp} (k : Kp [] H H') : Same H H' := fun b o e => k b o (fun z => nomatch z) e
theorem Kp.of {H H' : Hp} (k : Same H H') : Kp [] H H' := fun b o _ e => k b o e
theorem Kp.free {H H' : Hp} (k : Kp [] H H') {p : Addr} (h : H' p = none) : H p = none := k.same.free h
theorem Kp.nonein {ex : List Addr} {H H' : Hp} (k : Kp ex H H') {p : Addr} (n : p ∉ ex) (h : H' p = none) : H p = none := by
  cases q : H p with
  | none => rfl
  | some o => rw [k p o n q] at h; cases h

mutual
/-- the data d stands at v, no part of it at an address of ex -/
inductive DX (ex : List Addr) (H : Hp) : V → PyData → Prop
  | non : DX ex H .non .none
  | bl (b : Bool) : DX ex H (.bl b) (.bool b)
  | int (i : Int) : DX ex H (.int i) (.int i)
  | str (x : Str) : DX ex H (.str x) (.str x)
  | lst {a : Addr} {xs : List V} {ds : List PyData} : a ∉ ex → H a = some (.lst xs) → DXs ex H xs ds → DX ex H (.ref a) (.list ds)
  | tup {a : Addr} {xs : List V} {ds : List PyData} : a ∉ ex → H a = some (.tup xs) → DXs ex H xs ds → DX ex H (.ref a) (.tuple ds)
inductive DXs (ex : List Addr) (H : Hp) : List V → List PyData → Prop
  | nil : DXs ex H [] []
  | cons {v : V} {vs : List V} {d : PyData} {ds : List PyData} : DX ex H v d → DXs ex H vs ds → DXs ex H (v :: vs) (d :: ds)
end

mutual
theorem DX.mono {ex : List Addr} {H H' : Hp} (k : Kp ex H H') : ∀ {v : V} {d : PyData}, DX ex H v d → DX ex H' v d
  | _, _, .non => .non
  | _, _, .bl b => .bl b
  | _, _, .int i => .int i
  | _, _, .str x => .str x
  | _, _, .lst n h r => .lst n (k _ _ n h) (DXs.mono k r)
  | _, _, .tup n h r => .tup n (k _ _ n h) (DXs.mono k r)
theorem DXs.mono {ex : List Addr} {H H' : Hp} (k : Kp ex H H') : ∀ {v : List V} {d : List PyData}, DXs ex H v d → DXs ex H' v d
  | _, _, .nil => .nil
  | _, _, .cons a r => .cons (DX.mono k a) (DXs.mono k r)
end
mutual
/-- another set of addresses: what stands there in H must not be in the new one -/
theorem DX.ex {ex ex' : List Addr} {H : Hp} (k : ∀ b o, b ∉ ex → H b = some o → b ∉ ex') : ∀ {v : V} {d : PyData}, DX ex H v d → DX ex' H v d
  | _, _, .non => .non
  | _, _, .bl b => .bl b
  | _, _, .int i => .int i
  | _, _, .str x => .str x
  | _, _, .lst n h r => .lst (k _ _ n h) h (DXs.ex k r)
  | _, _, .tup n h r => .tup (k _ _ n h) h (DXs.ex k r)
theorem DXs.ex {ex ex' : List Addr} {H : Hp} (k : ∀ b o, b ∉ ex → H b = some o → b ∉ ex') : ∀ {v : List V} {d : List PyData}, DXs ex H v d → DXs ex' H v d
  | _, _, .nil => .nil
  | _, _, .cons a r => .cons (DX.ex k a) (DXs.ex k r)
end
mutual
theorem DX.dp {K : PySem.W.Frag} {ex : List Addr} {H : Hp} : ∀ {v : V} {d : PyData}, DX ex H v d → Dp K H v d
  | _, _, .non => .non
  | _, _, .bl b => .bl b
  | _, _, .int i => .int i
  | _, _, .str x => .str x
  | _, _, .lst n h r => .lst (SqL.of h) (DXs.dp r)
  | _, _, .tup n h r => .tup (SqT.of h) (DXs.dp r)
theorem DXs.dp {K : PySem.W.Frag} {ex : List Addr} {H : Hp} : ∀ {v : List V} {d : List PyData}, DXs ex H v d → DpAll K H v d
  | _, _, .nil => .nil
  | _, _, .cons a r => .cons (DX.dp a) (DXs.dp r)
end
theorem DX.fresh {ex : List Addr} {H : Hp} {p : Addr} {v : V} {d : PyData} (h : DX ex H v d) (n : H p = none) : DX (p :: ex) H v d :=
  h.ex fun b o m e z => by rcases List.mem_cons.mp z with z | z; exact ne_of_none e n z; exact m z
theorem DXs.fresh {ex : List Addr} {H : Hp} {p : Addr} {v : List V} {d : List PyData} (h : DXs ex H v d) (n : H p = none) : DXs (p :: ex) H v d :=
  h.ex fun b o m e z => by rcases List.mem_cons.mp z with z | z; exact ne_of_none e n z; exact m z
theorem DX.less {ex ex' : List Addr} {H : Hp} {v : V} {d : PyData} (h : DX ex H v d) (s : ∀ b, b ∈ ex' → b ∈ ex) : DX ex' H v d := h.ex fun b _ n _ z => n (s b z)
theorem DXs.less {ex ex' : List Addr} {H : Hp} {v : List V} {d : List PyData} (h : DXs ex H v d) (s : ∀ b, b ∈ ex' → b ∈ ex) : DXs ex' H v d := h.ex fun b _ n _ z => n (s b z)
theorem DX.all {ex : List Addr} {H : Hp} {v : V} {d : PyData} (h : DX ex H v d) : DX [] H v d := h.less fun _ z => nomatch z
theorem DXs.all {ex : List Addr} {H : Hp} {v : List V} {d : List PyData} (h : DXs ex H v d) : DXs [] H v d := h.less fun _ z => nomatch z
theorem DXs.len {ex : List Addr} {H : Hp} : ∀ {v : List V} {d : List PyData}, DXs ex H v d → v.length = d.length
  | _, _, .nil => rfl
  | _, _, .cons _ r => by rw [List.length_cons, List.length_cons, DXs.len r]
theorem DXs.app {ex : List Addr} {H : Hp} : ∀ {v w : List V} {d e : List PyData}, DXs ex H v d → DXs ex H w e → DXs ex H (v ++ w) (d ++ e)
  | _, _, _, _, .nil, s => s
  | _, _, _, _, .cons a r, s => .cons a (DXs.app r s)
theorem DXs.one {ex : List Addr} {H : Hp} {v : V} {d : PyData} (h : DX ex H v d) : DXs ex H [v] [d] := .cons h .nil
theorem DXs.get {ex : List Addr} {H : Hp} : ∀ {v : List V} {d : List PyData} {i : Nat} {x : V}, DXs ex H v d → v[i]? = some x → ∃ e, d[i]? = some e ∧ DX ex H x e
  | _, _, _, _, .nil, e => by simp at e
  | _, _, 0, _, .cons a _, e => by simp at e; subst e; exact ⟨_, rfl, a⟩
  | _, _, i + 1, x, .cons _ r, e => by
    obtain ⟨z, h1, h2⟩ := DXs.get (i := i) (x := x) r (by simpa using e)
    exact ⟨z, by simpa using h1, h2⟩
theorem DXs.getD {ex : List Addr} {H : Hp} : ∀ {v : List V} {d : List PyData} {i : Nat} {e : PyData}, DXs ex H v d → d[i]? = some e → ∃ x, v[i]? = some x ∧ DX ex H x e
  | _, _, _, _, .nil, e => by simp at e
  | _, _, 0, _, .cons a _, e => by simp at e; subst e; exact ⟨_, rfl, a⟩
  | _, _, i + 1, x, .cons _ r, e => by
    obtain ⟨z, h1, h2⟩ := DXs.getD (i := i) (e := x) r (by simpa using e)
    exact ⟨z, by simpa using h1, h2⟩
theorem DXs.ints {ex : List Addr} {H : Hp} : ∀ ns : List Int, DXs ex H (ns.map V.int) (ns.map PyData.int)
  | [] => .nil
  | n :: r => .cons (.int n) (DXs.ints r)
theorem DXs.rev {ex : List Addr} {H : Hp} : ∀ {v : List V} {d : List PyData}, DXs ex H v d → DXs ex H v.reverse d.reverse
  | _, _, .nil => .nil
  | _, _, .cons a r => by rw [List.reverse_cons, List.reverse_cons]; exact (DXs.rev r).app (.one a)
theorem DXs.lastD {ex : List Addr} {H : Hp} {v : List V} {d : List PyData} {x : V} (h : DXs ex H v d) (e : v[v.length - 1]? = some x) : ∃ z, d[d.length - 1]? = some z ∧ DX ex H x z := by
  rw [h.len] at e; exact h.get e
theorem DXs.init {ex : List Addr} {H : Hp} : ∀ {v : List V} {d : List PyData}, DXs ex H v d → DXs ex H v.dropLast d.dropLast
  | _, _, .nil => .nil
  | _, _, .cons _ .nil => .nil
  | _, _, .cons a (.cons b r) => .cons a (DXs.init (.cons b r))
/-- a new tuple, a new list of data -/
theorem DX.newT {ex : List Addr} {H : Hp} {p : Addr} {xs : List V} {ds : List PyData} (h : DXs ex H xs ds) (n : H p = none) (m : p ∉ ex) : DX ex (upd H p (.tup xs)) (.ref p) (.tuple ds) :=
  .tup m upd_same (h.mono (Kp.new n))
theorem DX.newL {ex : List Addr} {H : Hp} {p : Addr} {xs : List V} {ds : List PyData} (h : DXs ex H xs ds) (n : H p = none) (m : p ∉ ex) : DX ex (upd H p (.lst xs)) (.ref p) (.list ds) :=
  .lst m upd_same (h.mono (Kp.new n))
theorem nin1 {a p : Addr} (h : p ≠ a) : p ∉ [a] := fun z => h (List.mem_singleton.mp z)
theorem nin_none {ex : List Addr} {H : Hp} {p : Addr} (h : H p = none) (k : ∀ b ∈ ex, ∃ o, H b = some o) : p ∉ ex := fun z => by
  obtain ⟨o, e⟩ := k p z; rw [e] at h; cases h

/-- the name of a data's type -/
def tyN : PyData → String
  | .none => "NoneType"
  | .bool _ => "bool"
  | .int _ => "int"
  | .str _ => "str"
  | .list _ => "list"
  | .tuple _ => "tuple"
  | .dict _ => "dict"
theorem DX.ty {K : PySem.W.Frag} {ex : List Addr} {H : Hp} {v : V} {d : PyData} (h : DX ex H v d) : TyX K H v (.type (tyN d)) := by
  cases h with
  | non => exact .base .non
  | bl b => exact .base (.bl b)
  | int i => exact .base (.int i)
  | str x => exact .base (.str x)
  | lst _ e _ => exact .base (.lst e)
  | tup _ e _ => exact .base (.tup e)

/-- data without dicts, at most n deep -/
inductive Sh : Nat → PyData → Prop
  | non (n : Nat) : Sh n .none
  | bl (n : Nat) (b : Bool) : Sh n (.bool b)
  | int (n : Nat) (i : Int) : Sh n (.int i)
  | str (n : Nat) (x : Str) : Sh n (.str x)
  | lst {n : Nat} {ds : List PyData} : (∀ d ∈ ds, Sh n d) → Sh (n + 1) (.list ds)
  | tup {n : Nat} {ds : List PyData} : (∀ d ∈ ds, Sh n d) → Sh (n + 1) (.tuple ds)
theorem Sh.up {n : Nat} {d : PyData} (h : Sh n d) : ∀ m, n ≤ m → Sh m d := by
  induction h with
  | non n => intro m _; exact .non m
  | bl n b => intro m _; exact .bl m b
  | int n i => intro m _; exact .int m i
  | str n x => intro m _; exact .str m x
  | lst _ ih =>
    intro m hm
    obtain ⟨k, rfl⟩ : ∃ k, m = k + 1 := ⟨m - 1, by omega⟩
    exact .lst fun d hd => ih d hd k (by omega)
  | tup _ ih =>
    intro m hm
    obtain ⟨k, rfl⟩ : ∃ k, m = k + 1 := ⟨m - 1, by omega⟩
    exact .tup fun d hd => ih d hd k (by omega)

/-- a def of the module that is called by its name -/
structure Cl (P : Program) (w : World) (K : PySem.W.Frag) (mg : Str → Option Value) (base : Heap) (k : Nat) (x : Str) (sp : Sp) : Prop where
  ex : ∃ (f : Addr) (fd : FuncData) (ps : List Str), FnOk P w K mg base CX0 k f fd ps sp ∧ mg x = some (.ref f) ∧ PySem.W.keepIn K (.ref f) = true ∧ Binds K fd ps []
theorem Cl.imp {P : Program} {w : World} {K : PySem.W.Frag} {mg : Str → Option Value} {base : Heap} {k : Nat} {x : Str} {sp sp' : Sp} (c : Cl P w K mg base k x sp) (h : ∀ vs H Q E, sp' vs H Q E → sp vs H Q E) : Cl P w K mg base k x sp' := by
  obtain ⟨f, fd, ps, F, hm, kp, b⟩ := c.ex
  exact ⟨f, fd, ps, F.imp h, hm, kp, b⟩
theorem Cl.up {P : Program} {w : World} {K : PySem.W.Frag} {mg : Str → Option Value} {base : Heap} {k j : Nat} {x : Str} {sp : Sp} (c : Cl P w K mg base k x sp) (h : k ≤ j) : Cl P w K mg base j x sp := by
  obtain ⟨f, fd, ps, F, hm, kp, b⟩ := c.ex
  exact ⟨f, fd, ps, F.mono h, hm, kp, b⟩
section
variable {X : Cx} {k j : Nat} {x : Str} {sp : Sp} {e : Expr} {es : List Expr} {t : TA} {p pos : Pos}
theorem pc (c : Cl X.prog X.w X.K X.mg X.base k x sp) (hr : Room j X.A) (hk : k ≤ j) (hg : Gl X x) (ha : PA X (e :: es) t)
    (hdb : (x == ("__debug__" : Str)) = false := by decide) (he : starEach (e :: es) X.env = (false, eval e X.env) :: starEach es X.env := by rfl) (hpl : (backTo pos (starEach es X.env)).any (·.1) = false := by rfl) :
    PE X (.Call (.Name x p) (e :: es) [] pos) (tCall sp [] E0 t) := by
  obtain ⟨f, fd, ps, F, hm, kp, b⟩ := c.ex
  exact pe_call F (hr.mono hk) hg hm kp b .nil pass0 ha hdb he hpl
end
theorem atI_i {α : Type} {xs : List α} {k : Int} {v : α} (h : 0 ≤ k) (e : xs[k.toNat]? = some v) : atI xs k = some v := by
  have ek : k = ((k.toNat : Nat) : Int) := by omega
  have q : atI xs ((k.toNat : Nat) : Int) = some v := atI_nat e
  rw [← ek] at q
  exact q
theorem pos_of {j : Int} (h : 0 < j) : (fun (_ j : Int) => 0 < j) 0 j := h
/-! readings with names -/
def rInt1 : List V → Hp → VK → Prop := fun xs H Q => (∃ i, xs = [.int i] ∧ Q (.int i) H) ∨ ∃ k, xs = [.bl k] ∧ Q (.int (if k then 1 else 0)) H
def rMax2 : List V → Hp → VK → Prop := fun xs H Q => ∃ i j, xs = [.int i, .int j] ∧ Q (.int (if j > i then j else i)) H
def rMin2 : List V → Hp → VK → Prop := fun xs H Q => ∃ i j, xs = [.int i, .int j] ∧ Q (.int (if j < i then j else i)) H
def rAbs : List V → Hp → VK → Prop := fun xs H Q => ∃ i, xs = [.int i] ∧ Q (.int (if i < 0 then -i else i)) H
def rTupOf (K : PySem.W.Frag) : List V → Hp → VK → Prop := fun xs H Q => ∃ p ys, xs = [.ref p] ∧ ((SqL K H p ys ∧ ∀ l, H l = none → Q (.ref l) (upd H l (.tup ys))) ∨ (SqT K H p ys ∧ Q (.ref p) H))
def rListOf (K : PySem.W.Frag) : List V → Hp → VK → Prop := fun xs H Q => ∃ p ys, xs = [.ref p] ∧ (SqL K H p ys ∨ SqT K H p ys) ∧ ∀ l, H l = none → Q (.ref l) (upd H l (.lst ys))
def rStrI : List V → Hp → VK → Prop := fun xs H Q => ∃ i : Int, xs = [.int i] ∧ i.natAbs.log2 < 1920 ∧ Q (.str (toString i)) H
def rAddS : R2 := fun x y H Q => ∃ i j : Str, x = .str i ∧ y = .str j ∧ i.length + j.length ≤ sizeLine ∧ Q (.str (i ++ j)) H
def rIsNon : R2 := fun x y H Q => y = .non ∧ Q (.bl (decide (x = .non))) H
def rNotNon : R2 := fun x y H Q => y = .non ∧ Q (.bl (!decide (x = .non))) H
theorem sz {n : Nat} (h : n ≤ 100000) : n ≤ sizeLine := Nat.le_trans h (by decide)
theorem szl {n : Nat} (h : n < 100000) : n < sizeLine := Nat.lt_of_lt_of_le h (by decide)
/-- a def of the text as the head's facts tell it -/
abbrev FnP (K : PySem.W.Frag) (x q : Str) (st : Stmt) (f : Addr) (fd : FuncData) : Prop := FunD K x q (defArgs st) (defBody st) (defScope st) [] [] f fd
end FL

/-! ## Step: one step of a reading -/
namespace FL
open PySem L2
section
variable {σ : L2.St} {H : Hp}
theorem st_g {i : Nat} {v : V} {Q : L2.St → Hp → Prop} (h : Q (σ.set i (some v)) H) : gName i v σ H Q := h
theorem tseq {t u : TS} {D : Ends} (h : t { D with nx := u D } σ H) : tSeq t u D σ H := h
theorem tasg {te : TE} {g : TG} {D : Ends} (h : te σ H fun x H1 => g x σ H1 D.nx) : tAsg te g D σ H := h
theorem tret {te : TE} {D : Ends} (h : te σ H D.rt) : tRet te D σ H := h
theorem tdrop {te : TE} {D : Ends} (h : te σ H fun _ H1 => D.nx σ H1) : tDrop te D σ H := h
theorem tifs {c : TT} {t u : TS} {D : Ends} (h : c σ H fun b H1 => if b = true then t D σ H1 else u D σ H1) : tIfS c t u D σ H := h
theorem tforL {K : PySem.W.Frag} {tl : TE} {g : TG} {tb : TS} {D : Ends} (h : tl σ H fun x H1 => ∃ a, x = .ref a ∧ (∃ xs, SqL K H1 a xs) ∧ ∃ W : Nat → Nat → L2.St → Hp → Prop, (∃ m, W 0 m σ H1) ∧ ∀ i m σ H, W i m σ H →
      ((Itl K a).stop i H ∧ D.nx σ H) ∨ ((Itl K a).go i H ∧ ∃ N : L2.St → Hp → Prop, (∀ σ' H', N σ' H' → ∃ m', m' < m ∧ W (i + 1) m' σ' H') ∧ ∀ x H', (Itl K a).yld i H x H' → g x σ H' fun σ2 H2 => tb { D with nx := N, ct := N, bk := D.nx } σ2 H2)) :
    tFor (iList K tl) g tb D σ H := h
theorem tcall {sp : Sp} {E : XK} {t : TA} {Q : VK} (h : t σ H fun vs H1 => sp (vs ++ []) H1 Q E) : tCall sp [] E t σ H Q := h
theorem tcallK {sp : Sp} {gV : List V → List V → List V} {E : XK} {tk : TA} {Q : VK} (h : tk σ H fun zs H2 => sp (gV [] zs) H2 Q E) : tCallK sp gV E tNil tk σ H Q := h
theorem tnotb {te : TE} {Q : Bool → Hp → Prop} (h : te σ H fun x H1 => ∃ c, x = .bl c ∧ Q (!c) H1) : tNot (tB te) σ H Q := h
theorem ttup {t : TA} {Q : VK} (h : t σ H fun xs H1 => xs.length ≤ sizeLine ∧ ∀ p, H1 p = none → Q (.ref p) (upd H1 p (.tup xs))) : tTup t σ H Q := h
theorem tlst {t : TA} {Q : VK} (h : t σ H fun xs H1 => xs.length ≤ sizeLine ∧ ∀ p, H1 p = none → Q (.ref p) (upd H1 p (.lst xs))) : tLst t σ H Q := h
theorem tcons {te : TE} {tr : TA} {Q : List V → Hp → Prop} (h : te σ H fun x H1 => tr σ H1 fun xs H2 => Q (x :: xs) H2) : tCons te tr σ H Q := h
theorem tcons_c {v : V} {tr : TA} {Q : List V → Hp → Prop} (h : tr σ H fun xs H2 => Q (v :: xs) H2) : tCons (tC v) tr σ H Q := h
end
end FL

/-! ## Draw: the law's own draws -/
namespace FL
open PySem L2
def t__law_source (K : PySem.W.Frag) : TS := (tSeq (tAsg (tIf (tTest (tOp (rI0 fun i j => .bl (decide (i < j))) (tVar 1) (tCB (rLen K) (tCons (tVar 0) tNil)))) (tOp (rIxL K) (tVar 0) (tVar 1)) (tOp (rI0 fun i j => .int (i + j)) (tOp (rI CMul fun i j => .int (i * j)) (tC (.int 7)) (tVar 1)) (tC (.int 3)))) (gName 2))
  (tRet (tLst (tCons (tIf (tTest (tOp (rI0 fun i j => .bl (decide (j ≤ i))) (tVar 2) (tOp (rI CPow fun i j => .int (i ^ j.toNat)) (tC (.int 10)) (tC (.int 18))))) (tVar 2) (tC (.int 0))) (tCons (tOp (rI (fun _ j => 0 < j) fun i j => .int (i % j)) (tCB (FL.rInt1) (tCons (tVar 2) tNil)) (tC (.int 2147483647))) (tCons (tC (.int 0)) tNil))))))
def t__law_draw (K : PySem.W.Frag) : TS := (tSeq (tIfS (tTest (tOp (rI0 fun i j => .bl (decide (j < i))) (tOp (rIxL K) (tVar 0) (tC (.int 0))) (tC (.int 0)))) (tSeq (tAsg (tOp (rI (fun _ j => 0 < j) fun i j => .int (i % j)) (tCB (FL.rInt1) (tCons (tOp (rIxL K) (tVar 0) (tC (.int 0))) tNil)) (tVar 1)) (gName 2))
  (tSeq (tAsg (tOp (rI CDivW fun i j => .int (i / j)) (tOp (rIxL K) (tVar 0) (tC (.int 0))) (tVar 1)) (gSub (tVar 0) (tC (.int 0)) rSetL))
  (tRet (tVar 2)))) tNext)
  (tSeq (tAsg (tOp (rI0 fun i j => .int (i + j)) (tOp (rIxL K) (tVar 0) (tC (.int 2))) (tC (.int 1))) (gSub (tVar 0) (tC (.int 2)) rSetL))
  (tSeq (tAsg (tOp (rI (fun _ j => 0 < j) fun i j => .int (i % j)) (tOp (rI CPow fun i j => .int (i ^ j.toNat)) (tCB (FL.rInt1) (tCons (tOp (rI0 fun i j => .int (i + j)) (tOp (rIxL K) (tVar 0) (tC (.int 1))) (tOp (rI CMul fun i j => .int (i * j)) (tC (.int 7919)) (tOp (rIxL K) (tVar 0) (tC (.int 2))))) tNil)) (tC (.int 5))) (tC (.int 2147483647))) (gName 3))
  (tRet (tOp (rI (fun _ j => 0 < j) fun i j => .int (i % j)) (tOp (rI CDiv fun i j => .int (i / j)) (tOp (rI (fun _ j => 0 < j) fun i j => .int (i % j)) (tOp (rI CMul fun i j => .int (i * j)) (tOp (rI0 fun i j => .int (i + j)) (tVar 3) (tOp (rIxL K) (tVar 0) (tC (.int 2)))) (tC (.int 40692))) (tC (.int 2147483629))) (tC (.int 16))) (tVar 1))))))
/-- three ints stand at a, the third at most n -/
def Dr (a : Addr) (n : Nat) (H : Hp) : Prop := ∃ x y z : Int, H a = some (.lst [.int x, .int y, .int z]) ∧ 0 ≤ y ∧ y < 2147483647 ∧ 0 ≤ z ∧ z ≤ n
theorem Dr.mono {a : Addr} {n m : Nat} {H : Hp} (h : Dr a n H) (l : n ≤ m) : Dr a m H := by
  obtain ⟨x, y, z, e, h1, h2, h3, h4⟩ := h
  exact ⟨x, y, z, e, h1, h2, h3, by omega⟩
theorem Dr.keep {a : Addr} {n : Nat} {H H' : Hp} (h : Dr a n H) (k : Kp [] H H') : Dr a n H' := by
  obtain ⟨x, y, z, e, h1⟩ := h
  exact ⟨x, y, z, k a _ (fun z => nomatch z) e, h1⟩
theorem Dr.keepx {ex : List Addr} {a : Addr} {n : Nat} {H H' : Hp} (h : Dr a n H) (k : Kp ex H H') (m : a ∉ ex) : Dr a n H' := by
  obtain ⟨x, y, z, e, h1⟩ := h
  exact ⟨x, y, z, k a _ m e, h1⟩
theorem Dr.ne {a p : Addr} {n : Nat} {H : Hp} (h : Dr a n H) (m : H p = none) : p ≠ a := by
  obtain ⟨x, y, z, e, _⟩ := h
  exact (ne_of_none e m).symm
theorem Dr.at {a : Addr} {n : Nat} {H : Hp} (h : Dr a n H) : ∃ xs, H a = some (.lst xs) := by
  obtain ⟨x, y, z, e, _⟩ := h
  exact ⟨_, e⟩
def spDraw : Sp := fun vs H Q _ => ∃ (a : Addr) (m : Int) (n : Nat), vs = [.ref a, .int m] ∧ 1 ≤ m ∧ m < 2 ^ 120 ∧ Dr a n H ∧ n ≤ 2 ^ 40 ∧
  ∀ r H', 0 ≤ r → r < m → Kp [a] H H' → Dr a (n + 1) H' → Q (.int r) H'
def spSource (K : PySem.W.Frag) : Sp := fun vs H Q _ => ∃ (s : Addr) (ns : List Int) (k : Int), vs = [.ref s, .int k] ∧ SqL K H s (ns.map V.int) ∧ ns.length ≤ 63 ∧ 0 ≤ k ∧ k ≤ 1000 ∧
  ∀ p H', H p = none → Kp [] H H' → Dr p 0 H' → Q (.ref p) H'
theorem pow10_18 : (10 : Int) ^ (18 : Int).toNat = 1000000000000000000 := by decide
theorem pure_source {K : PySem.W.Frag} (vs : List V) (H : Hp) (Q : VK) (E : XK) (h : spSource K vs H Q E) :
    t__law_source K { nx := fun _ H' => Q .non H', rt := Q } (start ["_law_script", "_law_k", "_law_cell"] vs) H := by
  obtain ⟨s, ns, k, rfl, hS, h63, h0, h1, q⟩ := h
  have hl : (ns.map V.int).length = ns.length := List.length_map _
  have fin : ∀ c : Int, tRet (tLst (tCons (tIf (tTest (tOp (rI0 fun i j => .bl (decide (j ≤ i))) (tVar 2) (tOp (rI CPow fun i j => .int (i ^ j.toNat)) (tC (.int 10)) (tC (.int 18))))) (tVar 2) (tC (.int 0))) (tCons (tOp (rI (fun _ j => 0 < j) fun i j => .int (i % j)) (tCB (FL.rInt1) (tCons (tVar 2) tNil)) (tC (.int 2147483647))) (tCons (tC (.int 0)) tNil))))
      { nx := fun _ H' => Q .non H', rt := Q } [some (.ref s), some (.int k), some (.int c)] H := by
    intro c
    refine ⟨_, rfl, _, _, rfl, rfl, ⟨by decide, by decide, by decide⟩, _, _, rfl, rfl, _, rfl, ?_⟩
    have e1 : 0 ≤ c % 2147483647 := Int.emod_nonneg _ (by decide)
    have e2 : c % 2147483647 < 2147483647 := Int.emod_lt_of_pos _ (by decide)
    refine ite2 (fun _ => ?_) (fun _ => ?_)
    · refine ⟨_, rfl, _, rfl, .inl ⟨_, rfl, _, _, rfl, rfl, (by show (0 : Int) < 2147483647; decide), by show 3 ≤ sizeLine; decide, fun p hp => ?_⟩⟩
      exact q p _ hp (Kp.new hp) ⟨_, _, _, upd_same, e1, e2, Int.le_refl 0, Int.le_refl 0⟩
    · refine ⟨_, rfl, .inl ⟨_, rfl, _, _, rfl, rfl, (by show (0 : Int) < 2147483647; decide), by show 3 ≤ sizeLine; decide, fun p hp => ?_⟩⟩
      exact q p _ hp (Kp.new hp) ⟨_, _, _, upd_same, e1, e2, Int.le_refl 0, Int.le_refl 0⟩
  refine ⟨_, rfl, _, rfl, _, _, rfl, .inl ⟨_, hS, rfl⟩, _, _, rfl, rfl, _, rfl, ?_⟩
  refine ite2 (fun c => ?_) (fun c => ?_)
  · have c' : k < ((ns.map V.int).length : Int) := of_decide_eq_true c
    rw [hl] at c'
    have hk : k.toNat < ns.length := by omega
    have ea : atI (ns.map V.int) k = some (.int ns[k.toNat]) := atI_i h0 (by rw [List.getElem?_map, List.getElem?_eq_getElem hk] <;> rfl)
    exact ⟨_, rfl, _, rfl, s, _, _, _, rfl, rfl, hS, ea, fin _⟩
  · exact ⟨_, rfl, _, _, rfl, rfl, .inl ⟨by decide, by decide⟩, _, _, rfl, rfl, fin _⟩
theorem pure_draw {K : PySem.W.Frag} (vs : List V) (H : Hp) (Q : VK) (E : XK) (h : spDraw vs H Q E) :
    t__law_draw K { nx := fun _ H' => Q .non H', rt := Q } (start ["_law_draws", "_law_many", "_law_found", "_law_seed"] vs) H := by
  obtain ⟨a, m, n, rfl, h1, h2, ⟨x, y, z, ha, y0, y1, z0, z1⟩, hn, q⟩ := h
  have hm : CDivW x m := by
    refine wide_div (b := 120) (by omega) ?_ (by decide) (by decide)
    have e : (m.natAbs : Int) = m := by omega
    have e2 : (m.natAbs : Int) < ((2 ^ 120 : Nat) : Int) := by rw [e]; exact h2
    exact Int.ofNat_lt.mp e2
  refine ⟨_, rfl, _, _, _, _, rfl, rfl, SqL.of ha, rfl, _, _, rfl, rfl, _, rfl, ?_⟩
  refine ite2 (fun c => ?_) (fun c => ?_)
  · refine ⟨_, rfl, _, _, _, _, rfl, rfl, SqL.of ha, rfl, .inl ⟨_, rfl, _, rfl, _, _, rfl, rfl, (by omega), ?_⟩⟩
    refine ⟨_, rfl, _, _, _, _, rfl, rfl, SqL.of ha, rfl, _, rfl, _, _, rfl, rfl, hm, _, rfl, _, _, _, 0, rfl, rfl, ha, rfl, _, rfl, ?_⟩
    exact q _ _ (Int.emod_nonneg _ (by omega)) (Int.emod_lt_of_pos _ (by omega)) (Kp.mut (List.mem_singleton.mpr rfl)) ⟨_, _, _, upd_same, y0, y1, z0, by omega⟩
  · refine ⟨_, rfl, _, _, _, _, rfl, rfl, SqL.of ha, rfl, _, _, rfl, rfl, _, rfl, _, _, _, 2, rfl, rfl, ha, rfl, ?_⟩
    have ha' : ∀ b, upd H b (.lst [.int x, .int y, .int (z + 1)]) b = some (.lst [.int x, .int y, .int (z + 1)]) := fun b => upd_same
    refine ⟨_, rfl, _, _, _, _, rfl, rfl, SqL.of upd_same, rfl, _, rfl, _, _, _, _, rfl, rfl, SqL.of upd_same, rfl, _, _, rfl, rfl, .inl ⟨by decide, by decide⟩, _, _, rfl, rfl, .inl ⟨_, rfl, _, _, rfl, rfl, ⟨by decide, by decide, ?_⟩, _, _, rfl, rfl, (by show (0 : Int) < 2147483647; decide), ?_⟩⟩
    · show (y + 7919 * (z + 1)).natAbs < 2 ^ 64
      have e : ((2 : Nat) ^ 40) = 1099511627776 := by decide
      have e2 : ((2 : Nat) ^ 64) = 18446744073709551616 := by decide
      rw [e] at hn
      rw [e2]
      omega
    · refine ⟨_, rfl, _, rfl, _, _, _, _, rfl, rfl, SqL.of upd_same, rfl, _, _, rfl, rfl, _, _, rfl, rfl, .inr ⟨by decide, by decide⟩, _, _, rfl, rfl, (by show (0 : Int) < 2147483629; decide), _, _, rfl, rfl, ⟨by decide, by decide⟩, _, rfl, _, _, rfl, rfl, (by omega), ?_⟩
      exact q _ _ (Int.emod_nonneg _ (by omega)) (Int.emod_lt_of_pos _ (by omega)) (Kp.mut (List.mem_singleton.mpr rfl)) ⟨_, _, _, upd_same, y0, y1, by omega, by omega⟩
end FL

/-! ## Kit: isinstance of built-in types, zip over tuples -/
namespace FL
open PySem L2
/-- of a built-in type's name and several others' -/
def kitL (t : String) : List String → Option Bool
  | [] => some false
  | n :: r => match kitB t n with
    | some true => some true
    | some false => kitL t r
    | none => none
theorem kitL_ok {K : PySem.W.Frag} {t : String} : ∀ {ns : List String} {b : Bool}, kitL t ns = some b → PySem.W.kitAny K (.type t) (ns.map Value.type) = some b
  | [], b, h => h
  | n :: r, b, h => by
    unfold kitL at h
    cases e : kitB t n with
    | none => rw [e] at h; cases h
    | some c =>
      rw [e] at h
      cases c with
      | true => exact kitAny_cons (kit_ty e) (fun z => nomatch z) (fun _ => by cases h; rfl)
      | false => exact kitAny_cons (kit_ty e) (fun _ => kitL_ok h) (fun z => nomatch z)
def tyArgs : List String → TA
  | [] => tNil
  | n :: r => tCons (tC (.ty n)) (tyArgs r)
theorem tyArgs_ok {σ : L2.St} {H : Hp} : ∀ {ns : List String} {Q : List V → Hp → Prop}, Q (ns.map V.ty) H → tyArgs ns σ H Q
  | [], _, h => h
  | _ :: r, Q, h => tyArgs_ok (ns := r) (Q := fun xs H2 => Q (_ :: xs) H2) h
theorem clsP : ∀ ns : List String, Paired ClsV (ns.map V.ty) (ns.map Value.type)
  | [] => .nil
  | n :: r => .cons (.ty n) (clsP r)
theorem tIsT {K : PySem.W.Frag} {σ : L2.St} {H : Hp} {Q : VK} {i : Nat} {x : V} {t : String} (ns : List String) {b : Bool} (hv : σ[i]? = some (some x)) (ty : ∀ H', Kp [] H H' → TyX K H' x (.type t)) (hk : kitL t ns = some b) (hn : ns.length ≤ 100000)
    (q : ∀ H', Kp [] H H' → Q (.bl b) H') : tCB (rIsiT K) (tCons (tVar i) (tCons (tTup (tyArgs ns)) tNil)) σ H Q := by
  refine ⟨_, hv, ?_⟩
  refine tyArgs_ok ?_
  refine ⟨by rw [List.length_map]; exact sz hn, fun p hp => ?_⟩
  exact ⟨_, p, _, _, _, b, rfl, upd_same, clsP ns, ty _ (Kp.new hp), kitL_ok hk, q _ (Kp.new hp)⟩
theorem tIs1 {K : PySem.W.Frag} {σ : L2.St} {H : Hp} {Q : VK} {i : Nat} {x : V} {t n : String} {b : Bool} (hv : σ[i]? = some (some x)) (ty : TyX K H x (.type t)) (hk : kitB t n = some b)
    (q : Q (.bl b) H) : tCB (rIsi K) (tCons (tVar i) (tCons (tC (.ty n)) tNil)) σ H Q := by
  exact ⟨_, hv, _, _, _, _, b, rfl, .ty n, ty, kit_ty hk, q⟩
theorem walk_zipT {K : PySem.W.Frag} {a b : Addr} {xs ys : List V} {n : Nat} (hn : n = min xs.length ys.length) : Walk (RZ.ItzT K a b) n (fun H => SqT K H a xs ∧ SqT K H b ys) (YPair (fun i => xs[i]?) (fun i => ys[i]?)) := by
  subst hn
  refine ⟨fun i _ hi q => ?_, fun _ q => ⟨xs, ys, q.1, q.2, by omega⟩, fun i H v H' _ q y => ?_⟩
  · have h1 : i < xs.length := by omega
    have h2 : i < ys.length := by omega
    exact ⟨xs, ys, xs[i], ys[i], q.1, q.2, by simp [h1], by simp [h2]⟩
  · obtain ⟨T, x, z, h1, h2, h3, h4, h5⟩ := y
    exact ⟨T, x, z, h1, h2, h3, h4 xs q.1, h5 ys q.2⟩
theorem all_true : ∀ n : Nat, (List.replicate n true).all id = true
  | 0 => rfl
  | n + 1 => by rw [List.replicate_succ, List.all_cons, all_true n]; rfl
end FL

/-! ## Kw: calls by keywords alone -/
namespace FL
open PySem PySem.Spec PyProof.Rows L2
theorem u65 {k : Nat} {A : Around} (r : Room k A) : A.units + 65 < cLine := by have := r.un; omega
/-- the keywords' values in the parameters' order -/
def gPerm {α : Type} (n : Nat) (perm : List Nat) (us ws : List α) : List α := if us.length = 0 ∧ ws.length = n then perm.filterMap (fun i => ws[i]?) else []
theorem gPerm_rel {n : Nat} {perm : List Nat} {vs : List V} {us : List Value} {zs : List V} {ws : List Value} (r : Vals vs us) (q : Vals zs ws) : Vals (gPerm n perm vs zs) (gPerm n perm us ws) := by
  unfold gPerm
  rw [r.length, q.length]
  by_cases h : us.length = 0 ∧ ws.length = n
  · rw [if_pos h, if_pos h]
    clear h
    induction perm with
    | nil => exact .nil
    | cons i perm ih =>
      cases e : zs[i]? with
      | none =>
        have e2 : ws[i]? = none := Vals.none_of q e
        rw [List.filterMap_cons_none (by exact e), List.filterMap_cons_none (by exact e2)]
        exact ih
      | some x =>
        obtain ⟨u, e2, rx⟩ := Vals.get q e
        rw [List.filterMap_cons_some (by exact e), List.filterMap_cons_some (by exact e2)]
        exact .cons rx ih
  · rw [if_neg h, if_neg h]
    exact .nil
theorem bindsK {K : PySem.W.Frag} {x qual : Str} {params : Arguments} {body : List Stmt} {scope : Scope} {f : Addr} {fd : FuncData} {ps ks : List Str} {n : Nat} {perm : List Nat} (F : FunD K x qual params body scope [] [] f fd) (hp : ps ≠ [])
    (h : ∀ (kV doc pm : Value) (an : Option Addr) (cdv ct : Value) (ws : List Value), ws.length = n → bindArgs (PySem.W.fnOf x qual params body scope .none kV doc pm an cdv ct) ⟨[], ks.zip ws⟩ = pure (ps.zip (gPerm n perm [] ws))) : KBinds K fd ps ks (gPerm n perm) (gPerm n perm) := by
  refine ⟨fun s us ws X hl => ?_, gPerm_rel⟩
  have hc : us.length = 0 ∧ ws.length = n := by
    by_cases c : us.length = 0 ∧ ws.length = n
    · exact c
    · unfold gPerm at hl
      rw [if_neg c] at hl
      exact absurd (List.length_eq_zero_iff.mp hl.symm) hp
  have e : us = [] := List.length_eq_zero_iff.mp hc.1
  subst e
  obtain ⟨oc, od, dV, kV, doc, pm, an, cdv, ct, osl, rfl, lk, hcd, hD, hK⟩ := F.ex
  rcases hD with ⟨_, rfl⟩ | ⟨e, _⟩
  · exact .of_eq (h kV doc pm an cdv ct ws hc.2)
  · exact absurd rfl e
/-- a def of the module that is called by keywords alone -/
structure ClK (P : Program) (w : World) (K : PySem.W.Frag) (mg : Str → Option Value) (base : Heap) (k : Nat) (x : Str) (n : Nat) (perm : List Nat) (ks : List Str) (sp : Sp) : Prop where
  ex : ∃ (f : Addr) (fd : FuncData) (ps : List Str), FnOk P w K mg base CX0 k f fd ps sp ∧ mg x = some (.ref f) ∧ PySem.W.keepIn K (.ref f) = true ∧ KBinds K fd ps ks (gPerm n perm) (gPerm n perm)
theorem pck {X : Cx} {k j : Nat} {x : Str} {sp : Sp} {n : Nat} {perm : List Nat} {ks : List Str} {kws : List Keyword} {tk : TA} {p pos : Pos} (c : ClK X.prog X.w X.K X.mg X.base k x n perm ks sp) (hr : Room j X.A) (hk : k ≤ j) (hg : Gl X x) (hkw : PK X kws tk)
    (hall : (backToKw pos (keywordEach kws X.env)).all (·.1.isSome) = true := by rfl) (hks : (backToKw pos (keywordEach kws X.env)).filterMap (·.1) = ks := by rfl) (hdb : (x == ("__debug__" : Str)) = false := by decide)
    (hpl : ((backTo pos (starEach [] X.env)).any (·.1) || (backToKw pos (keywordEach kws X.env)).any (·.1.isNone)) = false := by rfl) :
    PE X (.Call (.Name x p) [] kws pos) (tCallK sp (gPerm n perm) E0 tNil tk) := by
  obtain ⟨f, fd, ps, F, hm, kp, b⟩ := c.ex
  refine ⟨fun pins s σ H Q I h => ?_⟩
  refine wpAny_Call_Name_kw (ld_glob I hg hm ?_ hdb)
  refine PySem.W.callWith_KW0 (h₀ := X.base) I.ok.mod.kin kp hall ?_ hpl
  refine thn (hkw.run pos pins s σ H _ I h) fun ws s2 ⟨zs, H2, I2, rz, q2⟩ => ⟨I2.kIn, ?_⟩
  rw [hks]
  exact run_fnk (us := []) (vs := []) F (hr.mono hk) b pass0 I2 .nil rz q2
end FL

/-! ## ExcKw: a class over ValueError with an own __init__, called with keywords -/
namespace FL
open PySem PySem.Spec PyProof.Rows L2
section
variable {prog : Program} {w : World} {A : Around} {E : Value → Shared → Prop} {R : Result → Shared → Prop} {hp : Heap} {gs : Array GenState} {dw : Drawn} {tk : Nat} {os : OsState} {kw : List (Str × Value)} {xs : List Value}
variable {nm q : Str} {C N fI : Addr} {bs bm bmB : List Value} {hdct : Bool} {sn : List Str} {sub : List Value} {ab : Bool} {col : Option Bool} {dd : Option Addr} {k0 k1 k2 k3 k5 : Option Value} {B newId initId : String}
theorem kw_check (F : ExcBaseFacts B newId initId bmB) (hT : ∀ Y : String, bm.contains (.type Y) = bmB.contains (.type Y)) {Q : Unit → Shared → Prop}
    (hC : hp.get? C = some (excClassObj nm q C N bs bm hdct sn sub ab col dd k0 k1 k2 k3 k5 newId)) (hq : Q () ⟨hp, gs, dw, tk, os⟩) : wpAny (model prog w) A (checkBuiltinCall newId ⟨.ref C :: xs, kw⟩) Q E ⟨hp, gs, dw, tk, os⟩ := by
  have c1 : (Value.ref C :: bm).contains (.type B) = true := by rw [List.contains_cons, hT, F.hasB]; exact Bool.or_true _
  have c2 := F.noStar
  simp only [checkBuiltinCall, F.newSplit, F.newKind, F.newRow]
  repeat (first | with_reducible refine wpAny_loadPart_at hC ?_ | (with_reducible refine wpAny_isSubtype_exc hC ?_; rw [c1]) | with_reducible refine wpAny_staticBase_exc hC ?_ | with_reducible refine wpAny_madeBy_exc hC ?_ | simp only [if_false, bne_self_eq_false, Bool.false_eq_true] | wp_step)
  all_goals exact hq
theorem kw_new (F : ExcBaseFacts B newId initId bmB) (hT : ∀ Y : String, bm.contains (.type Y) = bmB.contains (.type Y)) (hC : hp.get? C = some (excClassObj nm q C N bs bm hdct sn sub ab col dd k0 k1 k2 k3 k5 newId)) (hz : xs.length ≤ sizeLine)
    (hq : R (.ok (.ret (.ref (hp.objs.size + 1)))) ⟨(hp.push (PySem.W.kdv_tup xs)).push (PySem.HandSPX.excO C hp.objs.size), gs, dw, tk, os⟩) :
    codeAny (model prog w) A (.builtin newId ⟨.ref C :: xs, kw⟩) R ⟨hp, gs, dw, tk, os⟩ := by
  have c0 := F.ends
  have c1 : (Value.ref C :: bm).contains (.type B) = true := by rw [List.contains_cons, hT, F.hasB]; exact Bool.or_true _
  have c2 : (Value.ref C :: bm).contains (.type "AttributeError") = false := by rw [List.contains_cons, hT, F.noAttr] <;> rfl
  have c3 : (Value.ref C :: bm).contains (.type "NameError") = false := by rw [List.contains_cons, hT, F.noName] <;> rfl
  refine codeAny_builtinAt F.entry ?_
  unfold Builtin.«BaseException.__new__»
  refine PySem.wpAt_bind ?_
  show PySem.wpAt _ _ _ (stack >>= _) _ _ _
  refine PySem.wpAt_bind (PySem.wpAt_stack fun p below => PySem.wpAt_of_wpAny ?_)
  wp_walk
  refine PySem.wpAt_of_wpAny ?_
  rw [F.owner]
  repeat (first | with_reducible refine wpAny_loadPart_at hC ?_ | with_reducible refine wpAny_madeHere_exc F.canon hC ?_ | (with_reducible refine wpAny_isSubtype_exc hC ?_; first | rw [c1] | rw [c2] | rw [c3]) | wp_step)
  show R _ _
  rw [Heap.size_push]
  exact hq
theorem kw_type (F : ExcBaseFacts B newId initId bmB) (hT : ∀ Y : String, bm.contains (.type Y) = bmB.contains (.type Y)) {Q : Fin → Shared → Prop} (hC : hp.get? C = some (excClassObj nm q C N bs bm hdct sn sub ab col dd k0 k1 k2 k3 k5 newId))
    (hi : PySem.W.Looks (model prog w) hp (typeLookup (.ref C) "__init__") (some (.ref fI))) (hb : ∀ self, PySem.W.Looks (model prog w) hp (bindSpecial (.ref fI) self) (.ref fI, [self])) (hz : xs.length ≤ sizeLine)
    (hq : codeAny (model prog w) A (.call (.ref fI) ⟨.ref (hp.objs.size + 1) :: xs, kw⟩)
      (fun r s' => match r with | .ok (.ret v) => v = .none ∧ Q (.done (.ret (.ref (hp.objs.size + 1)))) s' | .ok _ => False | .error e => E e s')
      ⟨(hp.push (PySem.W.kdv_tup xs)).push (PySem.HandSPX.excO C hp.objs.size), gs, dw, tk, os⟩) :
    wpAny (model prog w) A (Builtin.«type.__call__» ⟨.ref C :: xs, kw⟩) Q E ⟨hp, gs, dw, tk, os⟩ := by
  repeat (first | with_reducible refine wpAny_madeBy_exc hC ?_ | with_reducible refine wpAny_loadPart_at hC ?_ | wp_step)
  refine codeAny_call_builtin_code (Code.quiet_builtin _ F.quiet) (kw_check F hT hC ?_)
  refine kw_new F hT hC hz ?_
  show wpAny _ _ _ _ _ _
  have kp : ∀ b o, hp.get? b = some o → ((hp.push (PySem.W.kdv_tup xs)).push (PySem.HandSPX.excO C hp.objs.size)).get? b = some o := fun b o e => Heap.get?_push_of_some _ (Heap.get?_push_of_some _ e)
  have d1 := kp _ _ hC
  have d2 : ((hp.push (PySem.W.kdv_tup xs)).push (PySem.HandSPX.excO C hp.objs.size)).get? (hp.objs.size + 1) = some (PySem.HandSPX.excO C hp.objs.size) := by heap_get
  have d3 : (Value.ref C :: bm).contains (.ref C) = true := by simp
  have d4 := hi.keeps kp
  have d5 := (hb (.ref (hp.objs.size + 1))).keeps kp
  unfold isInstance
  repeat (first | with_reducible refine wpAny_loadPart_at d2 ?_ | (with_reducible refine wpAny_isSubtype_exc d1 ?_; rw [d3]) | wp_step)
  show wpAny _ _ (typeLookup (.ref C) _) _ _ _
  refine d4.at ?_
  refine wpAny_holding (wpAny_bind (d5.at ?_))
  refine wpAny_bind (wpAny_call (codeAny_mono hq fun r s' z => ?_))
  rcases r with e | (v | _ | _ | _) <;> first | exact z | exact z.elim | skip
  obtain ⟨rfl, z⟩ := z
  first
    | exact wpAny_pure (wpAny_pure z)
    | (wp_walk; exact z)
theorem kw_own (F : ExcBaseFacts B newId initId bmB) (hT : ∀ Y : String, bm.contains (.type Y) = bmB.contains (.type Y)) (hC : hp.get? C = some (excClassObj nm q C N bs bm hdct sn sub ab col dd k0 k1 k2 k3 k5 newId))
    (hi : PySem.W.Looks (model prog w) hp (typeLookup (.ref C) "__init__") (some (.ref fI))) (hb : ∀ self, PySem.W.Looks (model prog w) hp (bindSpecial (.ref fI) self) (.ref fI, [self])) (hz : xs.length ≤ sizeLine)
    (hq : codeAny (model prog w) (A.under (.builtin "type.__call__" ⟨.ref C :: xs, kw⟩)) (.call (.ref fI) ⟨.ref (hp.objs.size + 1) :: xs, kw⟩) (PySem.W.InitBack (hp.objs.size + 1) R)
      ⟨(hp.push (PySem.W.kdv_tup xs)).push (PySem.HandSPX.excO C hp.objs.size), gs, dw, tk, os⟩) :
    codeAny (model prog w) A (.call (.ref C) ⟨xs, kw⟩) R ⟨hp, gs, dw, tk, os⟩ := by
  have f1 := tc_lookup
  have f2 := tc_bind (.ref C)
  have hTy : (⟨hp, gs, dw, tk, os⟩ : Shared).TypeIs (.ref C) "type" := ⟨_, hC, rfl⟩
  refine codeAny_of_tree ?_
  show wpAny _ _ (callAny (.ref C) _) _ _ _
  repeat (any_goals (first | assumption | with_reducible refine wpAny_loadPart_at hC ?_ | wp_step))
  refine ⟨rfl, ?_⟩
  have ck : ∀ {Q' : Unit → Shared → Prop} {E' : Value → Shared → Prop} {A' : Around}, Q' () ⟨hp, gs, dw, tk, os⟩ → wpAny (model prog w) A' (checkBuiltinCall "type.__call__" ⟨.ref C :: xs, kw⟩) Q' E' ⟨hp, gs, dw, tk, os⟩ := by
    intro Q' E' A' z
    have f3 := tc_sub
    simp only [checkBuiltinCall, tc_kind, tc_split]
    repeat (any_goals (first | assumption | with_reducible refine wpAny_loadPart_at hC ?_ | with_reducible refine wpAny_onRaise ?_ | with_reducible refine wpAny_map ?_ | wp_step))
  refine codeAny_call_builtin_at (Code.quiet_builtin _ (by decide +kernel)) entry_typeCall (ck (kw_type F hT hC hi hb hz ?_))
  refine codeAny_mono hq fun r s' z => ?_
  rcases r with e | (v | _ | _ | _) <;> exact z
end
end FL

/-! ## Exc: own exceptions as values: made by place and by keywords, asked for their class, their fields read -/
namespace FL
open PySem PySem.Spec PyProof.Rows L2
/-- what is asked of an own class over ValueError, as a check -/
def exB (K : PySem.W.Frag) (C : Addr) : Bool :=
  (match K.lookup C with
    | some ⟨.type "type", _, .cls cd, sl⟩ => (match cd.mro, sl.toList with
      | .ref c :: bm, [_, _, _, _, some (.builtin n), _] => decide (c = C) && (decide (n = "ValueError.__new__") && (cd.hasDict && (!cd.hasDel && PySem.HandSPX.refsVE bm)))
      | _, _ => false)
    | _ => false) && (He.eqO (PySem.W.findIn K (.ref C) "__setattr__") (some (some (.builtin "object.__setattr__"))) && (decide (PySem.W.subIn K (.ref C) (.type "BaseException") = some true) && (decide (PySem.W.typeIn K (.ref C) = some (.type "type")) && (PySem.W.keepIn K (.ref C) &&
    (He.eqO (PySem.W.findIn K (.ref C) "__getattribute__") (some (some (.builtin "BaseException.__getattribute__"))) && (He.eqO (PySem.W.findIn K (.ref C) "__getattr__") (some none) && (PySem.W.hasDictIn K C && (He.eqO (PySem.W.findIn K (.ref C) "__class__") (some (some (.builtin "object.__class__"))) &&
    (He.eqO (PySem.W.specialIn K (.builtin "object.__class__") "__get__") (some (some (.builtin "getset_descriptor.__get__"))) && (decide (PySem.W.takesIn K (.builtin "object.__class__") = some true) && decide (PySem.W.mroIn K C (.type "object") = some true)))))))))))
theorem ex_cls {K : PySem.W.Frag} {C : Addr} (h : (match K.lookup C with
    | some ⟨.type "type", _, .cls cd, sl⟩ => (match cd.mro, sl.toList with
      | .ref c :: bm, [_, _, _, _, some (.builtin n), _] => decide (c = C) && (decide (n = "ValueError.__new__") && (cd.hasDict && (!cd.hasDel && PySem.HandSPX.refsVE bm)))
      | _, _ => false)
    | _ => false) = true) : ∃ nm q N bs bm sn sub ab col dd k0 k1 k2 k3 k5, K.lookup C = some (excClassObj nm q C N bs bm true sn sub ab col dd k0 k1 k2 k3 k5 "ValueError.__new__") ∧ PySem.HandSPX.refsVE bm = true := by
  split at h
  · rename_i dd cd sl ho
    split at h
    · rename_i c bm k0 k1 k2 k3 n k5 hm hs
      obtain ⟨h1, h⟩ := He.ba h
      obtain ⟨h2, h⟩ := He.ba h
      obtain ⟨h3, h⟩ := He.ba h
      obtain ⟨h4, h5⟩ := He.ba h
      have h1 := of_decide_eq_true h1
      have h2 := of_decide_eq_true h2
      obtain ⟨nm, bs, mro, ns, qn, hd, sn, sub, ab, col, del⟩ := cd
      dsimp only at hm h3 h4
      have h4 : del = false := by cases del with | false => rfl | true => cases h4
      have hsl : sl = #[k0, k1, k2, k3, some (.builtin n), k5] := by
        obtain ⟨l⟩ := sl
        exact congrArg Array.mk hs
      subst hm h1 h2 h3 h4 hsl
      exact ⟨nm, qn, ns, bs, bm, sn, sub, ab, col, dd, k0, k1, k2, k3, k5, ho, h5⟩
    · cases h
  · cases h
structure Ex (K : PySem.W.Frag) (C : Addr) : Prop where
  oex : OexC K C
  isc : ExcC K C
  xf : XfC K C
theorem exB_ok {K : PySem.W.Frag} {C : Addr} (h : exB K C = true) : Ex K C := by
  obtain ⟨h1, h⟩ := He.ba h
  obtain ⟨h2, h⟩ := He.ba h
  obtain ⟨h3, h⟩ := He.ba h
  obtain ⟨h4, h⟩ := He.ba h
  obtain ⟨h5, h⟩ := He.ba h
  obtain ⟨h6, h⟩ := He.ba h
  obtain ⟨h7, h⟩ := He.ba h
  obtain ⟨h8, h⟩ := He.ba h
  obtain ⟨h9, h⟩ := He.ba h
  obtain ⟨h10, h⟩ := He.ba h
  obtain ⟨h11, h12⟩ := He.ba h
  have h2 := He.eqO_ok h2
  have h3 := of_decide_eq_true h3
  have h4 := of_decide_eq_true h4
  have h6 := He.eqO_ok h6
  have h7 := He.eqO_ok h7
  have h9 := He.eqO_ok h9
  have h10 := He.eqO_ok h10
  have h11 := of_decide_eq_true h11
  have h12 := of_decide_eq_true h12
  exact ⟨⟨ex_cls h1, h2, h3, h4, h5⟩, ⟨h6, h7, h3, h8, h9, h10, h11, h12⟩, ⟨h6, h7, h3, h8⟩⟩
/-- C(..) as a value, C's own __init__ keeping sp -/
def tMkX (C : Addr) (sp : Sp) (ta : TA) : TE := fun σ H Q => ta σ H fun vs H1 => vs.length ≤ 1000 ∧ ∀ a, H1 a = none → sp (.ref a :: vs) (upd H1 a (exo a C none)) (fun v H2 => v = .non ∧ Q (.ref a) H2) E0
/-- C(k = ..) as a value: the keywords' values in the order of the parameters -/
def tMkK (C : Addr) (sp : Sp) (n : Nat) (perm : List Nat) (tk : TA) : TE := fun σ H Q => tk σ H fun zs H1 => zs.length = n ∧ n ≤ 1000 ∧ ∀ a, H1 a = none → sp (.ref a :: gPerm n perm [] zs) (upd H1 a (exo a C none)) (fun v H2 => v = .non ∧ Q (.ref a) H2) E0
section
variable {X : Cx} {k j : Nat} {x : Str} {C fI : Addr} {fd : FuncData} {ps : List Str} {sp : Sp} {e : Expr} {es : List Expr} {ta tk : TA} {p pos : Pos}
theorem run_mkx {pins : List (Addr × Obj)} {σ : L2.St} {H1 : Hp} {s1 : Shared} {Q : VK} {us : List Value} {kw : List (Str × Value)} {ws : List Value} {vs : List V} (T : OexC X.K C) (iC : PySem.W.findIn X.K (.ref C) "__init__" = some (some (.ref fI))) (tI : PySem.W.typeIn X.K (.ref fI) = some (.type "function"))
    (F1 : FnOk X.prog X.w X.K X.mg X.base CX0 k fI fd ps sp) (hr : Room (k + 1) X.A) (I1 : Inv X pins σ H1 s1) (r : Vals vs ws) (hus : us.length ≤ sizeLine)
    (bnd : ∀ (s : Shared) (v : Value), X.K.In s.heap → (v :: ws).length = ps.length → BindsTo s fd ⟨v :: us, kw⟩ (ps.zip (v :: ws)))
    (q1 : ∀ a, H1 a = none → sp (.ref a :: vs) (upd H1 a (exo a C none)) (fun v H2 => v = .non ∧ Q (.ref a) H2) E0) :
    wpAny (model X.prog X.w) X.A (call (.ref C) us kw) (EP X pins σ Q) X.xe s1 := by
  obtain ⟨nm, q, N, bs, bm, sn, sub, ab, col, dd, k0, k1, k2, k3, k5, hC, hbm⟩ := T.cls
  obtain ⟨hp, g, dr, tk, os⟩ := s1
  have hsz : hp.objs.size ≤ hp.objs.size + 1 := Nat.le_succ _
  have hn : H1 (hp.objs.size + 1) = none := I1.hok.fresh hsz
  have hq := q1 (hp.objs.size + 1) hn
  have kk : ∀ b o, hp.get? b = some o → ((hp.push (PySem.W.kdv_tup us)).push (PySem.HandSPX.excO C hp.objs.size)).get? b = some o := fun b o e => Heap.get?_push_of_some _ (Heap.get?_push_of_some _ e)
  have he : ((hp.push (PySem.W.kdv_tup us)).push (PySem.HandSPX.excO C hp.objs.size)).get? (hp.objs.size + 1) = some (PySem.HandSPX.excO C hp.objs.size) := by heap_get
  have I2 : Inv X pins σ (upd H1 (hp.objs.size + 1) (exo (hp.objs.size + 1) C none)) ⟨(hp.push (PySem.W.kdv_tup us)).push (PySem.HandSPX.excO C hp.objs.size), g, dr, tk, os⟩ :=
    I1.laid (t' := tk) (o := exo (hp.objs.size + 1) C none) kk hsz (exo_ok he)
  have r2 : Vals (V.ref (hp.objs.size + 1) :: vs) (Value.ref (hp.objs.size + 1) :: ws) := .cons rfl r
  have hl : (Value.ref (hp.objs.size + 1) :: ws).length = ps.length := by
    have e := r2.length
    rw [F1.len _ _ _ _ hq] at e
    exact e.symm
  refine wpAny_call (kw_own F.excBase_ValueError (fun Y => PySem.HandSPX.refsVE_contains Y bm hbm) (I1.kIn _ _ hC) (PySem.W.looks_findIn I1.kIn iC) (fun self => PySem.W.bind_fn I1.kIn self tI) hus
    (codeAny_mono (F1.run _ X.stack _ _ ⟨Value.ref (hp.objs.size + 1) :: us, kw⟩ (Value.ref (hp.objs.size + 1) :: ws) _ _ E0 (hr.make C us kw) (I2.env0.make C us kw) (bnd _ _ I2.kIn hl) r2 hq) fun r s' hq' => ?_))
  cases r with
  | error er => exact False.elim hq'
  | ok fl =>
    cases fl with
    | ret u =>
      obtain ⟨v, H2, I3, rv, ev, q3⟩ := I2.after hq'
      subst ev
      exact ⟨rv, ⟨V.ref (hp.objs.size + 1), H2, I3, rfl, q3⟩⟩
    | next => exact False.elim hq'
    | brk => exact False.elim hq'
    | cont => exact False.elim hq'
/-- the class x, made by its own __init__: by place, and by n keywords ks whose order is perm -/
structure MkE (P : Program) (w : World) (K : PySem.W.Frag) (mg : Str → Option Value) (base : Heap) (k : Nat) (x : Str) (C : Addr) (sp : Sp) (n : Nat) (perm : List Nat) (ks : List Str) : Prop where
  ex : Ex K C
  glo : mg x = some (.ref C)
  ini : ∃ (fI : Addr) (fd : FuncData) (ps : List Str), PySem.W.findIn K (.ref C) "__init__" = some (some (.ref fI)) ∧ PySem.W.typeIn K (.ref fI) = some (.type "function") ∧ FnOk P w K mg base CX0 k fI fd ps sp ∧ Binds K fd ps [] ∧
    ∀ (s : Shared) (v : Value) (ws : List Value), ws.length = n → BindsTo s fd ⟨[v], ks.zip ws⟩ (ps.zip (v :: gPerm n perm [] ws))
theorem kwBind {K : PySem.W.Frag} {x qual : Str} {params : Arguments} {body : List Stmt} {scope : Scope} {f : Addr} {fd : FuncData} {ps ks : List Str} {n : Nat} {perm : List Nat} (F : FunD K x qual params body scope [] [] f fd)
    (h : ∀ (kV doc pm : Value) (an : Option Addr) (cdv ct : Value) (v : Value) (ws : List Value), ws.length = n → bindArgs (PySem.W.fnOf x qual params body scope .none kV doc pm an cdv ct) ⟨[v], ks.zip ws⟩ = pure (ps.zip (v :: gPerm n perm [] ws))) :
    ∀ (s : Shared) (v : Value) (ws : List Value), ws.length = n → BindsTo s fd ⟨[v], ks.zip ws⟩ (ps.zip (v :: gPerm n perm [] ws)) := by
  intro s v ws hl
  obtain ⟨oc, od, dV, kV, doc, pm, an, cdv, ct, osl, rfl, lk, hcd, hD, hK⟩ := F.ex
  rcases hD with ⟨_, rfl⟩ | ⟨e, _⟩
  · exact .of_eq (h kV doc pm an cdv ct v ws hl)
  · exact absurd rfl e
theorem pmx {n : Nat} {perm : List Nat} {ks : List Str} (M : MkE X.prog X.w X.K X.mg X.base k x C sp n perm ks) (hr : Room j X.A) (hk : k + 1 ≤ j) (hg : Gl X x) (ha : PA X (e :: es) ta)
    (hdb : (x == ("__debug__" : Str)) = false := by decide) (he : starEach (e :: es) X.env = (false, eval e X.env) :: starEach es X.env := by rfl) (hpl : (backTo pos (starEach es X.env)).any (·.1) = false := by rfl) :
    PE X (.Call (.Name x p) (e :: es) [] pos) (tMkX C sp ta) := by
  obtain ⟨fI, fd, ps, iC, tI, F1, hb, _⟩ := M.ini
  refine ⟨fun pins s σ H Q I h => ?_⟩
  refine wpAny_Call_Name_kw (ld_glob I hg M.glo ?_ hdb)
  refine PySem.W.callWith_K (h₀ := X.base) I.ok.mod.kin M.ex.oex.kC (thn (ha.run pos pins s σ H _ I h) fun us s1 ⟨vs, H1, I1, r1, hz, q1⟩ => ⟨I1.kIn, ?_⟩) he hpl
  have hus : us.length ≤ sizeLine := by
    rw [← Paired.length r1]
    exact sz (Nat.le_trans hz (by decide))
  refine run_mkx M.ex.oex iC tI F1 (hr.mono hk) I1 r1 hus (fun s' v X' hl => ?_) q1
  have z := hb s' (v :: us) X' (by rw [List.append_nil]; exact hl)
  rw [List.append_nil] at z
  exact z
theorem pmk {n : Nat} {perm : List Nat} {ks : List Str} {kws : List Keyword} (M : MkE X.prog X.w X.K X.mg X.base k x C sp n perm ks) (hr : Room j X.A) (hk : k + 1 ≤ j) (hg : Gl X x) (hkw : PK X kws tk)
    (hall : (backToKw pos (keywordEach kws X.env)).all (·.1.isSome) = true := by rfl) (hks : (backToKw pos (keywordEach kws X.env)).filterMap (·.1) = ks := by rfl) (hdb : (x == ("__debug__" : Str)) = false := by decide)
    (hpl : ((backTo pos (starEach [] X.env)).any (·.1) || (backToKw pos (keywordEach kws X.env)).any (·.1.isNone)) = false := by rfl) :
    PE X (.Call (.Name x p) [] kws pos) (tMkK C sp n perm tk) := by
  obtain ⟨fI, fd, ps, iC, tI, F1, _, hb⟩ := M.ini
  refine ⟨fun pins s σ H Q I h => ?_⟩
  refine wpAny_Call_Name_kw (ld_glob I hg M.glo ?_ hdb)
  refine PySem.W.callWith_KW0 (h₀ := X.base) I.ok.mod.kin M.ex.oex.kC hall ?_ hpl
  refine thn (hkw.run pos pins s σ H _ I h) fun ws s2 ⟨zs, H2, I2, rz, hz, hn, q2⟩ => ⟨I2.kIn, ?_⟩
  rw [hks]
  refine run_mkx (us := []) (kw := ks.zip ws) M.ex.oex iC tI F1 (hr.mono hk) I2 (gPerm_rel .nil rz) (Nat.zero_le _) (fun s' v X' hl => ?_) q2
  exact hb s' v ws (rz.length.symm.trans hz)
end
/-! ### isinstance and fields of such a value -/
section
variable {prog : Program} {w : World} {A : Around} {E : Value → Shared → Prop} {s : Shared} {K : PySem.W.Frag} {x D : Addr} {ox : Obj} {od : Option Obj}
theorem cls_look (T : ExcC K D) {Q : Option Value → Shared → Prop} (KX : K.In s.heap) (I : PySem.W.InstAt s.heap x ox D od) (h : Q (some (.ref D)) { s with toks := s.toks + 1 }) : wpAny (model prog w) A (getAttr? (.ref x) "__class__") Q E s := by
  have hf : PySem.W.findObj K D od "__class__" = some (.bind (.builtin "getset_descriptor.__get__") (.builtin "object.__class__")) := by
    obtain ⟨cd, hc, _⟩ := PySem.W.any_some T.hd
    unfold PySem.W.findObj
    rw [hc, Option.bind_some, T.ha, Option.bind_some]
    simp [T.hn, T.ht]
  obtain ⟨hp, gs, dw, tk, os⟩ := s
  have l0 := I.type (M := model prog w)
  have l1 := PySem.W.looks_findIn (M := model prog w) KX T.hg
  have l2 := PySem.W.looks_findIn (M := model prog w) KX T.hk
  have l3 := PySem.W.looks_find (M := model prog w) KX I hf
  have l4 : PySem.W.Looks (model prog w) hp (isInstance (.ref x) (.type "BaseException")) true := l0.andThen (PySem.W.looks_subIn KX T.hs)
  have b2 : (Value.builtin "BaseException.__getattribute__" == Value.builtin "object.__getattribute__") = false := by decide +kernel
  have b1 : (onTheHeap (Value.ref D) && Value.builtin "BaseException.__getattribute__" == Value.builtin "object.__getattribute__") = false := by rw [b2] <;> rfl
  have b0 : (false && onTheHeap (Value.builtin "BaseException.__getattribute__")) = false := rfl
  unfold getAttr? getAttrBy? getAttrBy
  refine wpAny_bind (wpAny_mkText (wpAny_bind (wpAny_attempt (wpAny_holding (wpAny_bind (l0.at (wpAny_bind (l1.at ?_))))))))
  refine PySem.W.KFB.if_not b1 ?_
  unfold getAttrByItsOwn hookBefore
  refine wpAny_bind ?_
  refine PySem.W.KFB.if_so (show onTheHeap (Value.ref D) = true from rfl) ?_
  refine l2.at ?_
  refine wpAny_bind (wpAny_attempt (wpAny_holding ?_))
  unfold callGetattribute
  refine PySem.W.KFB.if_not b0 ?_
  unfold boundAndCalled
  rw [PySem.F.excAttr_ValueError.ga.bind (.ref x)]
  refine wpAny_bind (wpAny_pure ?_)
  show wpAny _ _ (call (.builtin "BaseException.__getattribute__") [.ref x, .str "__class__" tk]) _ _ _
  refine wpAny_call (codeAny_call_builtin PySem.F.excAttr_ValueError.ga.plain PySem.F.entry_bexc_ga ?_)
  refine @PySem.W.check_slot (model prog w) _ _ ⟨hp, gs, dw, tk + 1, os⟩ "BaseException.__getattribute__" "BaseException" "__getattribute__" (.ref x) [.str "__class__" tk] [] _ (by decide +kernel) (by decide +kernel) l4 (PySem.F.args_bexc_ga (.ref x) (.str "__class__" tk)) ?_
  unfold Builtin.«object.__getattribute__»
  refine wpAny_bind (wpAny_of_eq (a := ((Value.ref x : Value), [Value.str "__class__" tk])) (by first | rfl | (simp only [slotArgs]; rfl)) ?_)
  refine wpAny_bind (wpAny_pure (wpAny_bind (l0.at (wpAny_bind (l3.at ?_)))))
  show wpAny _ _ (holding [Value.builtin "object.__class__"] (call (.builtin "getset_descriptor.__get__") [.builtin "object.__class__", .ref x, .ref D]) >>= ret) _ _ _
  refine wpAny_bind (wpAny_holding (wpAny_call (PySem.W.class_get (s := ⟨hp, gs, dw, tk + 1, os⟩) (ox := ox) (od := od) KX I T.hm ?_)))
  refine wpAny_pure ?_
  show wpAny _ _ (handedOut (.ref D)) _ _ _
  rw [PySem.W.handedOut_of (v := .ref D) rfl]
  first
    | exact wpAny_pure (wpAny_pure h)
    | exact wpAny_pure h
    | exact wpAny_pure (wpAny_bind (wpAny_pure (wpAny_pure h)))
theorem is_typ (T : ExcC K D) {M : Model} {h : Heap} (KX : K.In h) : PySem.W.Looks M h (isType (.ref D)) true := by
  obtain ⟨cd, hc, _⟩ := PySem.W.any_some T.hd
  unfold PySem.W.clsIn at hc
  split at hc
  · rename_i ho
    intro A' Q' E' s' k q
    unfold isType loadHead
    exact wpAny_bind (wpAny_loadPart (k _ _ (KX _ _ ho)) (wpAny_pure q))
  · cases hc
theorem kitX (T : ExcC K D) : PySem.W.KitX K (.ref x) (.ref D) (fun h => PySem.W.InstAt h x ox D od) where
  ty := fun _ _ _ I => I.type
  it := fun _ _ KX _ => is_typ T KX
  ne := (PySem.W.handS_kitx_exc (x := x) (ox := ox) T.hg T.hk T.hs T.hd T.ha T.hn T.ht T.hm).ne
  ca := fun KX I k => cls_look T KX I k
end
/-- isinstance(x, c) of an own exception -/
def rIsX (K : PySem.W.Frag) : List V → Hp → VK → Prop := fun xs H Q => ∃ (a C : Addr) (d : Option Addr) (fs : List (Str × V)) (c : V) (u : Value) (b : Bool), xs = [.ref a, c] ∧ H a = some (exo a C d) ∧ (∀ y, d = some y → H y = some (exd y fs)) ∧ ExcC K C ∧ ClsV c u ∧ PySem.W.kitOne K (.ref C) u = some b ∧ Q (.bl b) H
theorem call_isX {X : Cx} : CallR X (.builtin "isinstance") (rIsX X.K) := by
  intro pins s σ H xs us Q I r h
  obtain ⟨a, C, d, fs, c, u, b, rfl, ha, hd, T, k, e, q⟩ := h
  obtain ⟨u1, u2, rfl, r1, r2⟩ := vals2 r
  have e2 := k.eq r2
  subst e2
  obtain rfl : u1 = Value.ref a := r1
  obtain ⟨t1, ho⟩ := exo_at I.hok ha
  cases d with
  | none =>
    have J : PySem.W.InstAt s.heap a _ C none := ⟨ho, rfl, rfl, trivial⟩
    exact PySem.W.kia_one (kitX T) I.kIn J e (fun z => nomatch z) fun tk => ⟨.bl b, H, I.tok tk, rfl, q⟩
  | some dx =>
    obtain ⟨mA, hns, _⟩ := exd_at I.hok (hd dx rfl)
    obtain ⟨oD, _, _, hoD, _⟩ := hns
    have J : PySem.W.InstAt s.heap a _ C (some oD) := ⟨ho, rfl, rfl, hoD⟩
    exact PySem.W.kia_one (kitX T) I.kIn J e (fun z => nomatch z) fun tk => ⟨.bl b, H, I.tok tk, rfl, q⟩
/-- e.f of an own exception -/
def tFld (K : PySem.W.Frag) (f : Str) (te : TE) : TE := fun σ H Q => te σ H fun x H1 => ∃ (a C d : Addr) (fs : List (Str × V)) (v : V), x = .ref a ∧ H1 a = some (exo a C (some d)) ∧ H1 d = some (exd d fs) ∧ XfC K C ∧ PySem.W.findIn K (.ref C) f = some none ∧ fs.lookup f = some v ∧ Q v H1
theorem pe_fld {X : Cx} {e : Expr} {te : TE} {pos : Pos} {n : Str} (he : PE X e te) (hb : attributeBase e n X.env (eval e X.env) = eval e X.env := by rfl) : PE X (.Attribute e n pos) (tFld X.K n te) := by
  refine ⟨fun pins s σ H Q I h => ?_⟩
  refine attr_of hb (thn (he.run pins s σ H _ I h) fun u s1 hh => ?_)
  obtain ⟨x, H1, I1, rx, a, C, d, fs, v, ex, ea, ed, T, hno, l, q⟩ := hh
  subst ex
  obtain rfl : u = Value.ref a := rx
  obtain ⟨t1, ho⟩ := exo_at I1.hok ea
  obtain ⟨mA, hns, hr⟩ := exd_at I1.hok ed
  obtain ⟨od, hod, hl⟩ := lookIn_ns hns
  obtain ⟨u2, hu, ru⟩ := RelO.some_of (v := v) (o := mA n) (by rw [← l]; exact hr n)
  have J : PySem.W.InstAt s1.heap a _ C (some od) := ⟨ho, rfl, rfl, hod⟩
  exact HandSPX.exc_get I1.kIn J T.ga T.gg T.exC (PySem.W.findObj_own T.hdC hno rfl (by rw [hl, hu])) (handed_of ru) ⟨v, H1, I1.tok _, ru, q⟩
theorem u2 {k : Nat} {A : Around} (r : Room k A) : A.units + 1 < cLine := by have := r.un; omega
def rJoin (K : PySem.W.Frag) : V → List V → Hp → VK → Prop := fun x xs H Q => ∃ a p, ∃ ys : List Str, x = .str a ∧ xs = [.ref p] ∧ (SqL K H p (ys.map V.str) ∨ SqT K H p (ys.map V.str)) ∧ (ys.map (·.length)).sum + ys.length * a.length ≤ 16777216 ∧ Q (.str (Txt.join a ys)) H
/-- an own __init__ that lays its one or two arguments down as fields -/
def spIni (K : PySem.W.Frag) (fs : List Str) : Sp := fun vs H Q _ => ∃ (a C : Addr) (ws : List V), vs = .ref a :: ws ∧ ws.length = fs.length ∧ H a = some (exo a C none) ∧ OexC K C ∧ (∀ f ∈ fs, PySem.W.findIn K (.ref C) f = some none) ∧
  ∀ d H', H d = none → d ≠ a → Kp [a] H H' → H' a = some (exo a C (some d)) → H' d = some (exd d (fs.zip ws).reverse) → Q .non H'
theorem pure_ini1 {K : PySem.W.Frag} {f : Str} (vs : List V) (H : Hp) (Q : VK) (E : XK) (h : spIni K [f] vs H Q E) : (tOst K f (tVar 0) (tVar 1)) { nx := fun _ H' => Q .non H', rt := Q } (start ["self", f] vs) H := by
  obtain ⟨a, C, ws, rfl, hl, ha, T, hf, q⟩ := h
  match ws, hl with
  | [y], _ =>
    refine ⟨_, rfl, _, rfl, a, C, rfl, T, hf f (List.mem_singleton.mpr rfl), .inl ⟨ha, fun d hd ne => ?_⟩⟩
    refine q d _ hd ne ((Kp.new hd).trans (Kp.mut (List.mem_singleton.mpr rfl))) upd_same ?_
    rw [upd_ne ne, upd_same]
    rfl
theorem pure_ini2 {K : PySem.W.Frag} {f g : Str} (vs : List V) (H : Hp) (Q : VK) (E : XK) (h : spIni K [f, g] vs H Q E) : (tSeq (tOst K f (tVar 0) (tVar 1)) (tOst K g (tVar 0) (tVar 2))) { nx := fun _ H' => Q .non H', rt := Q } (start ["self", f, g] vs) H := by
  obtain ⟨a, C, ws, rfl, hl, ha, T, hf, q⟩ := h
  match ws, hl with
  | [y, z], _ =>
    refine ⟨_, rfl, _, rfl, a, C, rfl, T, hf f (by simp), .inl ⟨ha, fun d hd ne => ?_⟩⟩
    refine ⟨_, rfl, _, rfl, a, C, rfl, T, hf g (by simp), .inr ⟨d, [(f, y)], upd_same, by rw [upd_ne ne, upd_same], by show 1 ≤ 900; decide, ?_⟩⟩
    have k0 : Kp [a] H (upd (upd H d (exd d [(f, y)])) a (exo a C (some d))) := (Kp.new hd).trans (Kp.mut (List.mem_singleton.mpr rfl))
    have k1 : Kp [d, a] H (upd (upd (upd H d (exd d [(f, y)])) a (exo a C (some d))) d (exd d [(g, z), (f, y)])) := (k0.mono fun b hb => List.mem_cons_of_mem _ hb).trans (Kp.mut List.mem_cons_self)
    exact q d _ hd ne (k1.drop hd) (by rw [upd_ne (Ne.symm ne), upd_same]) upd_same
end FL

/-! ## DicT: dicts whose keys are tuples: displayed, their items listed -/
namespace FL
open PySem PySem.Spec PyProof.Rows L2
section
variable {prog : Program} {w : World} {A : Around} {E : Value → Shared → Prop} {s : Shared} {r d : Addr} {es : Array DictEntry} {ep : Nat}
theorem list_items {Q : Value → Shared → Prop} (hh : A.handled = none) (hv : s.heap.IsItemsView r d) (hm : DT.Raw s.heap d es ep) (hn : es.size ≤ sizeLine)
    (hQ : ∀ h' tk acc c as, (∀ b o, s.heap.get? b = some o → h'.get? b = some o) → h'.get? s.heap.objs.size = some { cls := .type "list", dict := none, data := .seq acc c, slots := #[] } → as.length = es.size → DT.Made es s.heap.objs.size h' as →
      acc.toList = as.map Value.ref → Q (.ref s.heap.objs.size) { s with heap := h', toks := tk }) :
    wpAny (model prog w) A (call (.type "list") [.ref r]) Q E s := by
  refine callType_codes (Q₁ := fun obj s₁ => obj = .ref s.heap.objs.size ∧ s₁ = { s with heap := s.heap.push { cls := .type "list", data := .seq #[] } }) PySem.F.called_list (PySem.F.typeCall_list_1 _) PySem.F.entry_list_init
    (code_list_new _ ⟨rfl, rfl⟩) fun obj s₁ h₁ => ?_
  obtain ⟨rfl, rfl⟩ := h₁
  have hS : (s.heap.push { cls := .type "list", data := .seq #[] }).get? s.heap.objs.size = some { cls := .type "list", data := .seq #[] } := Heap.get?_push_size _ rfl
  have hr : r < s.heap.objs.size := let ⟨_, ho, _⟩ := hv; Heap.lt_size ho
  have hd : d < s.heap.objs.size := hm.lt
  refine ⟨⟨_, hS, rfl⟩, PySem.F.args_list_init_2 _ _, ?_⟩
  show wpAny _ A.in1.in1 (do let old ← Builtin.List.listItems (.ref s.heap.objs.size); Builtin.List.listUpdate (.ref s.heap.objs.size) (fun _ => #[]); letGo old.toList.reverse; Builtin.List.listExtendWith (.ref s.heap.objs.size) (.ref r) .none) _ _ _
  refine wpAny_bind ?_
  unfold Builtin.List.listItems
  refine wpAny_bind (wpAny_seqItems hS rfl (wpAny_pure ?_))
  show wpAny _ _ (updateSeq s.heap.objs.size (fun _ => #[]) >>= fun _ => letGo (#[] : Array Value).toList.reverse >>= fun _ => Builtin.List.listExtendWith (.ref s.heap.objs.size) (.ref r) .none) _ _ _
  refine wpAny_bind (wpAny_updateSeq hS rfl ?_)
  have hS2 := Heap.get?_update_self (Obj.mapSeq (fun _ => (#[] : Array Value))) hS rfl
  have oth : ∀ b o, b ≠ s.heap.objs.size → s.heap.get? b = some o → ((s.heap.push { cls := .type "list", data := .seq #[] }).update s.heap.objs.size (Obj.mapSeq (fun _ => (#[] : Array Value)))).get? b = some o :=
    fun b o hb e => (Heap.get?_update_other _ _ (Ne.symm hb)).trans (Heap.get?_push_of_some _ e)
  refine wpAny_bind (wpAny_letGo ?_)
  refine DT.extI (es := es) (ep := ep) (A := A.in1) hh (let ⟨o, ho, x⟩ := hv; ⟨o, oth r o (Nat.ne_of_lt hr) ho, x⟩) (hm.at' fun o e => oth d o (Nat.ne_of_lt hd) e) s.heap.objs.size (Nat.ne_of_gt hr) (Nat.ne_of_lt hd) .none _ hS2 (fun h' tk acc c as hk hS' hl hG hacc => ?_) hn
  exact ⟨rfl, hQ h' tk acc c as (fun b o e => hk b o (Nat.ne_of_lt (Heap.lt_size e)) (oth b o (Nat.ne_of_lt (Heap.lt_size e)) e)) hS' hl (hG.low (Nat.le_of_lt (Heap.lt_size hS2))) hacc⟩
end
/-- the pairs tracked at their addresses -/
def putP : Hp → List Addr → List (V × V) → Hp
  | H, a :: as, p :: ps => putP (upd H a (.tup [p.1, p.2])) as ps
  | H, _, _ => H
theorem putP_off {b : Addr} : ∀ (as : List Addr) (ps : List (V × V)) (H : Hp), b ∉ as → putP H as ps b = H b
  | [], _, _, _ => rfl
  | _ :: _, [], _, _ => rfl
  | a :: as, p :: ps, H, h => by
    show putP (upd H a (.tup [p.1, p.2])) as ps b = H b
    rw [putP_off as ps _ (fun z => h (List.mem_cons_of_mem _ z)), upd_ne (fun z => h (by rw [z]; exact List.mem_cons_self))]
theorem putP_at : ∀ (as : List Addr) (ps : List (V × V)) (H : Hp), as.length = ps.length → as.Nodup → Paired (fun (t : Addr) (p : V × V) => putP H as ps t = some (.tup [p.1, p.2])) as ps
  | [], [], _, _, _ => .nil
  | [], _ :: _, _, h, _ => by cases h
  | _ :: _, [], _, h, _ => by cases h
  | a :: as, p :: ps, H, h, hn => by
    have hn' := List.nodup_cons.mp hn
    refine .cons ?_ (putP_at as ps (upd H a (.tup [p.1, p.2])) (Nat.succ.inj h) hn'.2)
    show putP (upd H a (.tup [p.1, p.2])) as ps a = some (.tup [p.1, p.2])
    rw [putP_off as ps _ hn'.1, upd_same]
/-- list(d.items()), d a dict with tuple keys: the keys are those that the dict holds -/
def tItT (te : TE) : TE := fun σ H Q => te σ H fun x H1 => ∃ (d : Addr) (kvs : List (List L2.Key × V)), x = .ref d ∧ H1 d = some (.dT kvs) ∧
  ∀ ks : List Addr, Paired (fun (kv : List L2.Key × V) (k : Addr) => H1 k = some (.tup (kv.1.map kV))) kvs ks →
  ∀ (H' : Hp) (p : Addr) (ts : List Addr), Kp [] H1 H' → H' p = some (.lst (ts.map V.ref)) → Paired (fun (t : Addr) (q : V × V) => H' t = some (.tup [q.1, q.2])) ts ((kvs.zip ks).map fun z => (V.ref z.2, z.1.2)) → Q (.ref p) H'
section
variable {X : Cx} {e : Expr} {te : TE} {p apos cpos pos : Pos}
theorem pairs_laid {pins : List (Addr × Obj)} {σ : L2.St} {H : Hp} {s : Shared} {h' : Heap} {tk : Nat} {ps : List (V × V)} {acc : Array Value} {c : Nat} {as : List Addr} (I : Inv X pins σ H s) (hz : ps.length ≤ sizeLine)
    (hk : ∀ b o, s.heap.get? b = some o → h'.get? b = some o) (hS : h'.get? s.heap.objs.size = some { cls := .type "list", dict := none, data := .seq acc c, slots := #[] }) (rise : as.Pairwise (· < ·)) (above : ∀ a ∈ as, s.heap.objs.size < a)
    (prs : Paired (fun (a : Addr) (q : V × V) => ∃ k x, h'.get? a = some { cls := .type "tuple", data := .seq #[k, x] } ∧ RelV q.1 k ∧ RelV q.2 x) as ps) (hacc : acc.toList = as.map Value.ref) :
    ∃ H' : Hp, Kp [] H H' ∧ H' s.heap.objs.size = some (.lst (as.map V.ref)) ∧ Paired (fun (t : Addr) (q : V × V) => H' t = some (.tup [q.1, q.2])) as ps ∧ Inv X pins σ H' { s with heap := h', toks := tk } := by
  have lk : as.length = ps.length := Paired.length prs
  have hSn : s.heap.objs.size ∉ as := fun z => Nat.lt_irrefl _ (above _ z)
  have nd : as.Nodup := List.Pairwise.imp (fun {a b} (h : a < b) => Nat.ne_of_lt h) rise
  have new : ∀ t ∈ as, H t = none := fun t ht => I.hok.fresh (Nat.le_of_lt (above t ht))
  have newS : H s.heap.objs.size = none := I.hok.fresh (Nat.le_refl _)
  have atP := putP_at as ps (upd H s.heap.objs.size (.lst (as.map V.ref))) lk nd
  have off : ∀ b, b ∉ as → b ≠ s.heap.objs.size → putP (upd H s.heap.objs.size (.lst (as.map V.ref))) as ps b = H b := fun b h1 h2 => by rw [putP_off as ps _ h1, upd_ne h2]
  have low : ∀ b o, s.heap.get? b = some o → b ∉ as ∧ b ≠ s.heap.objs.size := fun b o e => ⟨fun z => absurd (Heap.lt_size e) (Nat.not_lt.mpr (Nat.le_of_lt (above b z))), Nat.ne_of_lt (Heap.lt_size e)⟩
  have kp : ∀ b u, H b = some u → (putP (upd H s.heap.objs.size (.lst (as.map V.ref))) as ps) b = some u := fun b u e => by
    rw [off b (fun z => by rw [new b z] at e; cases e) (fun z => by rw [z, newS] at e; cases e)]
    exact e
  have eS : putP (upd H s.heap.objs.size (.lst (as.map V.ref))) as ps s.heap.objs.size = some (.lst (as.map V.ref)) := by rw [putP_off as ps _ hSn, upd_same]
  refine ⟨putP (upd H s.heap.objs.size (.lst (as.map V.ref))) as ps, fun b u _ e => kp b u e, eS, atP, ?_⟩
  refine I.call' (ch := []) rfl ⟨fun b o q _ _ _ => hk b o q, fun b o q _ _ _ => ⟨o.slots, hk b o q⟩, fun b o q n _ => ?_, fun b o q _ => ⟨o, hk b o q⟩, fun b xs q => kp b _ q, fun b o u q => kp b _ q, fun b ps q => ⟨#[], by rw [kp b _ q]; simp⟩⟩ (fun b u q => ?_) I.bare fun b z => by simp at z
  · obtain ⟨z1, z2⟩ := low b o q
    rw [off b z1 z2]
    exact n
  · by_cases hb : b ∈ as
    · obtain ⟨j, pk, e1, e2, e3⟩ := LiI.paired_ix atP hb
      rw [e3] at q
      cases q
      obtain ⟨qv, g1, k, x, g2, g3, g4⟩ := LiI.paired_get prs e1
      rw [e2] at g1
      cases g1
      exact ⟨by show 2 ≤ sizeLine; decide, [k, x], .cons g3 (.cons g4 .nil), ⟨_, g2, rfl, _, rfl⟩⟩
    · by_cases hb2 : b = s.heap.objs.size
      · rw [hb2] at q ⊢
        rw [eS] at q
        cases q
        refine ⟨by rw [List.length_map]; omega, acc.toList, c, by rw [hacc]; exact LiI.vals_refs as, ?_⟩
        rw [Array.toArray_toList]
        exact hS
      · rw [off b hb hb2] at q
        exact (I.hok b u q).stay (fun d v _ y => hk d v y) (fun d y => kp d _ y) fun d xs y => kp d _ y
theorem keys_of {P : Program} {w : World} {H : Hp} : ∀ {kvs : List (List L2.Key × V)} {xs : List (List L2.Key × Addr × Value)}, Paired (fun (p : List L2.Key × V) (q : List L2.Key × Addr × Value) => p.1 = q.1 ∧ H q.2.1 = some (.tup (p.1.map kV)) ∧ RelV p.2 q.2.2) kvs xs →
    Paired (fun (kv : List L2.Key × V) (k : Addr) => H k = some (.tup (kv.1.map kV))) kvs (xs.map (·.2.1))
  | _, _, .nil => .nil
  | _, _, .cons h t => .cons h.2.1 (keys_of (P := P) (w := w) t)
theorem paired_at {α β : Type} {F : α → β → Prop} : ∀ {xs : List α} {ys : List β}, xs.length = ys.length → (∀ (j : Nat) (x : α) (y : β), xs[j]? = some x → ys[j]? = some y → F x y) → Paired F xs ys
  | [], [], _, _ => .nil
  | [], _ :: _, h, _ => by cases h
  | _ :: _, [], h, _ => by cases h
  | x :: xs, y :: ys, h, g => .cons (g 0 x y rfl rfl) (paired_at (Nat.succ.inj h) fun j a b ha hb => g (j + 1) a b ha hb)
theorem pe_itT (hc : X.calm = true) (he : PE X e te) (hg : Gl X "list") (hm : X.mg "list" = none) (hv : bootBuiltins "list" = some (.type "list")) (hbase : attributeBase e "items" X.env (eval e X.env) = eval e X.env := by rfl) (hline : (apos.endLine == cpos.line) = true := by rfl)
    (hs : starEach [.Call (.Attribute e "items" apos) [] [] cpos] X.env = (false, eval (.Call (.Attribute e "items" apos) [] [] cpos) X.env) :: starEach [] X.env := by rfl) :
    PE X (.Call (.Name "list" p) [.Call (.Attribute e "items" apos) [] [] cpos] [] pos) (tItT te) := by
  refine ⟨fun pins s σ H Q I hq => ?_⟩
  refine wpAny_Call_Name_kw (ld_blt I hg hm hv ?_)
  refine PyProof.Rows.callWith_type1 ?_ hs rfl
  rw [hs]
  show wpAny _ _ (spliced ((false, eval (.Call (.Attribute e "items" apos) [] [] cpos) X.env) :: backTo pos (starEach [] X.env))) _ _ s
  refine Calls.spliced_cons ?_
  refine wpAny_Call_method (T := "dict") (id := "dict.items") hbase rfl hline F.plainAttrs_dict F.slot_dict_items F.type_dict_items (thn (he.run pins s σ H _ I hq) fun u s1 ⟨x, H1, I1, rx, d, kvs, ex, hd, q⟩ => ?_)
  subst ex
  obtain rfl : u = Value.ref d := rx
  obtain ⟨z, hsm, xs, rel, o, es, ep, ho, hx, hdat, hes, his, hnd⟩ := dt_of I1.hok hd
  have hraw : DT.Raw s1.heap d es ep := ⟨o, ho, hx, hdat⟩
  have l1 : kvs.length = xs.length := Paired.length rel
  have l2 : es.size = xs.length := size_of_entries hes
  have I2 : Inv X pins σ H1 { s1 with heap := s1.heap.push { cls := .type "dict_items", data := .fields #[.ref d] } } := I1.kept (t' := s1.toks) fun b ob q => Heap.get?_push_of_some _ q
  refine ⟨hraw.typeIs, fun a ea => by
    cases ea
    exact ⟨_, ho, hx.2.1⟩, ?_⟩
  show wpAny _ _ (callWith cpos (.builtin "dict.items") [.ref d] [] []) _ X.xe s1
  refine method_meetsIn F.slot_dict_items F.entry_dict_items rfl (PySem.evalArgs_none ⟨rfl, hraw.typeIs, F.args_dict_items_1 _, _, DT.meetsItems hsm, hraw, ?_⟩)
  refine Calls.spliced_nil ?_
  refine list_items (es := es) (ep := ep) (I1.ok.hd hc) ⟨_, Heap.get?_push_size _ rfl, rfl, rfl⟩ (hraw.push _) (by omega) fun h' tk acc c as hk hS hl hG hacc => ?_
  have lz : ((kvs.zip (xs.map (·.2.1))).map fun z => (V.ref z.2, z.1.2)).length = xs.length := by
    rw [List.length_map, List.length_zip, List.length_map, l1, Nat.min_self]
  have prs : Paired (fun (a : Addr) (q : V × V) => ∃ k x, h'.get? a = some { cls := .type "tuple", data := .seq #[k, x] } ∧ RelV q.1 k ∧ RelV q.2 x) as ((kvs.zip (xs.map (·.2.1))).map fun z => (V.ref z.2, z.1.2)) := by
    refine paired_at (by rw [lz]; omega) fun j a b ha hb => ?_
    obtain ⟨en, he', hg'⟩ := hG.pairs j a ha
    rw [entry_at hes j] at he'
    cases hxj : xs[j]? with
    | none =>
      rw [hxj] at he'
      cases he'
    | some x =>
      rw [hxj] at he'
      have een : entryOfKey (tupleKind (mixKind X.prog X.w)) x = en := Option.some.inj he'
      obtain ⟨e0, he0, r1, r2, r3⟩ := L2.DX.pget rel hxj
      have ez : (kvs.zip (xs.map (·.2.1)))[j]? = some (e0, x.2.1) := List.getElem?_zip_eq_some.mpr ⟨he0, by rw [List.getElem?_map, hxj] <;> rfl⟩
      rw [List.getElem?_map, ez] at hb
      cases hb
      rw [← een] at hg'
      exact ⟨_, _, hg', rfl, r3⟩
  obtain ⟨H', k1, k2, k3, J⟩ := pairs_laid (X := X) (tk := tk) I2 (by rw [lz]; omega) hk hS hG.rise hG.above prs hacc
  exact ⟨.ref _, H', J, rfl, q _ (keys_of (P := X.prog) (w := X.w) rel) H' _ as k1 k2 k3⟩
/-- {k: v}, k a tuple of ints and texts -/
def tDis1 (tk tv : TE) : TE := fun σ H Q => ∀ p, H p = none → tk σ (upd H p (.dT [])) fun x H1 => tv σ H1 fun y H2 => H2 p = some (.dT []) ∧ ∃ (b : Addr) (k : List L2.Key), x = .ref b ∧ H2 b = some (.tup (k.map kV)) ∧ Q (.ref p) (upd H2 p (.dT [(k, y)]))
theorem pe_dis1 {k v : Expr} {tk tv : TE} (hu : X.A.units + 1 < cLine) (hk : PE X k tk) (hv : PE X v tv) : PE X (.Dict [some k] [v] pos) (tDis1 tk tv) := by
  refine ⟨fun pins s σ H Q I q => ?_⟩
  have hn := I.hok.fresh (Nat.le_refl s.heap.objs.size)
  have I1 := I.laid (a := s.heap.objs.size) (o := .dT []) (h' := s.heap.push { cls := .type "dict", data := .dict #[] }) (t' := s.toks) (fun _ _ q => Heap.get?_push_of_some _ q) (Nat.le_refl _) (dt_empty s.heap I.big)
  rw [arm_eval_Dict, zip_pairTrees [some k] [v] X.env pos rfl rfl, dictDisplay_pairs (pairTrees [some k] [v] X.env pos) (by simp [pairTrees]) (by simp [pairTrees])]
  refine wpAny_bind (wpAny_standAt (wpAny_bind (wpAny_subDictH (knd := tupleKind (mixKind X.prog X.w)) (Q := fun d s' => wpAny (model X.prog X.w) X.A (pure (Value.ref d)) _ X.xe s') ?_ (by simp [pairTrees]) ?_)))
  · exact Nat.lt_of_succ_lt hu
  · refine pairTrees_cons_walk (thn (hk.run pins _ σ _ _ I1 (q _ hn)) fun u s1 ⟨x, H1, I2, rx, q1⟩ => thn (hv.run pins s1 σ H1 _ I2 q1) fun u2 s2 ⟨y, H2, I3, ry, e, b, ks, ex, eb, q2⟩ => pairTrees_nil_walk ?_)
    subst ex
    obtain rfl : u = Value.ref b := rx
    obtain ⟨z, hd, xs, rel, dd⟩ := dt_of I3.hok e
    cases rel
    refine ⟨[(ks, b, u2)], ⟨rfl, rfl, key_of I3.hok eb, trivial⟩, dd, fun h' tk' hD hs => wpAny_pure ⟨.ref s.heap.objs.size, _, ?_, rfl, q2⟩⟩
    obtain ⟨o, es, ep, h1, h2, h3, h4, _, h5⟩ := hD
    refine d_write I3 (by rw [e]; exact True.intro) hs ⟨o, h1⟩ ⟨by show 1 ≤ sizeLine; decide, hd, [(ks, b, u2)], .cons ⟨rfl, ?_, ry⟩ .nil, o, es, ep, h1, h2, h3, h4, h5⟩
    rw [upd_ne (ne_of eb e (fun z => nomatch z))]
    exact eb
end
end FL

/-! ## SameD: the law's own comparison of alike data, dicts with tuple keys among them -/
namespace FL
open PySem L2
def t__law_same (K : PySem.W.Frag) (s__law_same : Sp) : TS := (tSeq (tIfS (tB (tCB (rIsiT K) (tCons (tVar 1) (tCons (tTup (tCons (tC (.ty "list")) (tCons (tC (.ty "tuple")) tNil))) tNil)))) (tSeq (tIfS (tOr (tTest (tOp (rNe) (tCB (rIsi K) (tCons (tVar 0) (tCons (tC (.ty "list")) tNil))) (tCB (rIsi K) (tCons (tVar 1) (tCons (tC (.ty "list")) tNil))))) (tTest (tOp (rNe) (tCB (rIsi K) (tCons (tVar 0) (tCons (tC (.ty "tuple")) tNil))) (tCB (rIsi K) (tCons (tVar 1) (tCons (tC (.ty "tuple")) tNil)))))) (tRet (tC (.bl false))) tNext)
  (tRet (tAndV (tOp (rEq) (tCB (rLen K) (tCons (tVar 0) tNil)) (tCB (rLen K) (tCons (tVar 1) tNil))) (tCB (rAll K) (tCons (tLc (RZ.iZipA K (tCons (tVar 0) (tCons (tVar 1) tNil))) (gTup K 2 (gCons (gName 2) (gCons (gName 3) gNil))) tYes (tCall s__law_same [] E0 (tCons (tVar 2) (tCons (tVar 3) tNil))) [2, 3]) tNil))))) tNext)
  (tSeq (tIfS (tB (tCB (rIsi K) (tCons (tVar 1) (tCons (tC (.ty "dict")) tNil)))) (tSeq (tIfS (tNot (tB (tCB (rIsi K) (tCons (tVar 0) (tCons (tC (.ty "dict")) tNil))))) (tRet (tC (.bl false))) tNext)
  (tRet (tCall s__law_same [] E0 (tCons (FL.tItT (tVar 0)) (tCons (FL.tItT (tVar 1)) tNil))))) tNext)
  (tSeq (tIfS (tB (tCB (rIsiT K) (tCons (tVar 1) (tCons (tTup (tCons (tC (.ty "bool")) (tCons (tC (.ty "int")) tNil))) tNil)))) (tRet (tAndV (tCB (rIsi K) (tCons (tVar 0) (tCons (tC (.ty "int")) tNil))) (tAndV (tOp (rEq) (tCB (rIsi K) (tCons (tVar 0) (tCons (tC (.ty "bool")) tNil))) (tCB (rIsi K) (tCons (tVar 1) (tCons (tC (.ty "bool")) tNil)))) (tOp (rEq) (tVar 0) (tVar 1))))) tNext)
  (tRet (tAndV (tNotV (tCB (rIsiT K) (tCons (tVar 0) (tCons (tTup (tCons (tC (.ty "bool")) (tCons (tC (.ty "int")) (tCons (tC (.ty "list")) (tCons (tC (.ty "tuple")) (tCons (tC (.ty "dict")) tNil)))))) tNil)))) (tOp (rEq) (tVar 0) (tVar 1)))))))
/-- x and y hold the same data, n levels of it -/
inductive Sm (H : Hp) : Nat → V → V → Prop
  | non (n : Nat) : Sm H (n + 1) .non .non
  | int (n : Nat) (i : Int) : Sm H (n + 1) (.int i) (.int i)
  | str (n : Nat) (x : Str) : Sm H (n + 1) (.str x) (.str x)
  | lst {n : Nat} {a b : Addr} {xs ys : List V} : H a = some (.lst xs) → H b = some (.lst ys) → xs.length = ys.length → xs.length ≤ 100000 → (∀ (i : Nat) (x y : V), xs[i]? = some x → ys[i]? = some y → Sm H n x y) → Sm H (n + 1) (.ref a) (.ref b)
  | tup {n : Nat} {a b : Addr} {xs ys : List V} : H a = some (.tup xs) → H b = some (.tup ys) → xs.length = ys.length → xs.length ≤ 100000 → (∀ (i : Nat) (x y : V), xs[i]? = some x → ys[i]? = some y → Sm H n x y) → Sm H (n + 1) (.ref a) (.ref b)
  | dct {n : Nat} {a b : Addr} {k : List L2.Key} {u v : V} : H a = some (.dT [(k, u)]) → H b = some (.dT [(k, v)]) → k.length ≤ 100000 → Sm H (n + 2) u v → Sm H (n + 5) (.ref a) (.ref b)
theorem Sm.keep {H H' : Hp} (k : Kp [] H H') {n : Nat} {x y : V} (h : Sm H n x y) : Sm H' n x y := by
  induction h with
  | non n => exact .non n
  | int n i => exact .int n i
  | str n x => exact .str n x
  | lst h1 h2 l1 l2 _ ih => exact .lst (k _ _ (fun z => nomatch z) h1) (k _ _ (fun z => nomatch z) h2) l1 l2 ih
  | tup h1 h2 l1 l2 _ ih => exact .tup (k _ _ (fun z => nomatch z) h1) (k _ _ (fun z => nomatch z) h2) l1 l2 ih
  | dct h1 h2 l _ ih => exact .dct (k _ _ (fun z => nomatch z) h1) (k _ _ (fun z => nomatch z) h2) l ih
theorem Sm.key {H : Hp} (n : Nat) (k : L2.Key) : Sm H (n + 1) (kV k) (kV k) := by
  cases k with
  | inl i => exact .int n i
  | inr x => exact .str n x
def spSameD (n : Nat) : Sp := fun vs H Q _ => ∃ (x y : V), vs = [x, y] ∧ Sm H n x y ∧ ∀ H', Kp [] H H' → Q (.bl true) H'
theorem spSameD_none {vs : List V} {H : Hp} {Q : VK} {E : XK} (h : spSameD 0 vs H Q E) : False := by
  obtain ⟨_, _, _, h, _⟩ := h
  cases h
theorem sameD_items {K : PySem.W.Frag} {n m : Nat} {J : It} {G : Hp → Prop} {xs ys : List V} {σ : L2.St} {H : Hp} {Qd : Hp → Prop} {D : Addr} (w : Walk J m G (YPair (fun i => xs[i]?) (fun i => ys[i]?))) (hm : m = xs.length) (hl : xs.length ≤ 100000)
    (hG : ∀ H', Kp [] H H' → G H') (hs : ∀ (i : Nat) (x y : V), xs[i]? = some x → ys[i]? = some y → Sm H n x y) (hD : H D = none) (h2 : σ.length = 4) (q : ∀ H', Kp [] H H' → H' D = some (.lst ((List.replicate xs.length true).map V.bl)) → Qd H') :
    ∃ W : Nat → Nat → Hp → Prop, (∃ m, W 0 m (upd H D (.lst []))) ∧ ∀ i m H, W i m H →
      (J.stop i H ∧ Qd H) ∨ (J.go i H ∧ ∃ Nx : Hp → Prop, (∀ H', Nx H' → ∃ m', m' < m ∧ W (i + 1) m' H') ∧ ∀ x H', J.yld i H x H' → (gTup K 2 (gCons (gName 2) (gCons (gName 3) gNil))) x (wipe σ [2, 3]) H' fun σ2 H2 => wipe σ2 [2, 3] = wipe σ [2, 3] ∧ tYes σ2 H2 fun b H3 =>
        if b = true then (tCall (spSameD n) [] E0 (tCons (tVar 2) (tCons (tVar 3) tNil))) σ2 H3 fun y H4 => ∃ acc, H4 D = some (.lst acc) ∧ acc.length < sizeLine ∧ Nx (upd H4 D (.lst (acc ++ [y]))) else Nx H3) := by
  subst hm
  refine lc_it w (fun i H' => Kp [] H H' ∧ H' D = some (.lst ((List.replicate i true).map V.bl))) ⟨Kp.new hD, upd_same⟩ (fun i H' _ p => hG H' p.1) ?_ (fun H' p => q H' p.1 p.2)
  rintro i v H1 H2 hi ⟨k1, hd1⟩ ⟨T, x, y, rfl, hT, rfl, ex, ey⟩
  match σ, h2 with
  | [s0, s1, s2, s3], _ =>
    refine ⟨T, _, rfl, SqT.of upd_same, rfl, _, _, rfl, _, _, rfl, rfl, rfl, ?_⟩
    have k2 : Kp [] H (upd H1 T (.tup [x, y])) := k1.trans (Kp.new hT)
    refine ⟨_, rfl, _, rfl, x, y, rfl, (hs i x y ex ey).keep k2, fun H3 k3 => ?_⟩
    have e3 : H3 D = some (.lst ((List.replicate i true).map V.bl)) := k3 _ _ (fun z => nomatch z) (by rw [upd_ne (ne_of_none hd1 hT)]; exact hd1)
    refine ⟨_, e3, by rw [List.length_map, List.length_replicate]; exact szl (by omega), ?_, ?_⟩
    · exact Kp.drop ((k2.trans k3).any.trans (Kp.mut (List.mem_singleton.mpr rfl))) hD
    · rw [upd_same, List.replicate_succ']
      simp
theorem pure_sameD {K : PySem.W.Frag} {n : Nat} (vs : List V) (H : Hp) (Q : VK) (E : XK) (h : spSameD (n + 1) vs H Q E) :
    t__law_same K (spSameD n) { nx := fun _ H' => Q .non H', rt := Q } (start ["_law_found", "_law_due", "_law_left", "_law_right"] vs) H := by
  obtain ⟨x, y, rfl, hs, q⟩ := h
  have sc : ∀ (t : String) (b : Bool), (∀ H', Kp [] H H' → TyX K H' x (.type t)) → kitL t ["list", "tuple"] = some false → kitB t "dict" = some false → kitL t ["bool", "int"] = some b → (b = true → kitB t "int" = some true ∧ ∃ c, kitB t "bool" = some c) →
      (b = false → kitL t ["bool", "int", "list", "tuple", "dict"] = some false) → x = y → scal y y = true →
      t__law_same K (spSameD n) { nx := fun _ H' => Q .non H', rt := Q } (start ["_law_found", "_law_due", "_law_left", "_law_right"] [x, y]) H := by
    intro t b ty c1 c2 c3 c4 c5 e e2
    subst e
    refine tIsT (x := x) (t := t) ["list", "tuple"] rfl (fun H' k => ty _ k) c1 (by decide) fun H1 k1 => ?_
    refine ⟨_, rfl, iteF ?_⟩
    refine tIs1 (x := x) (t := t) rfl (ty _ k1) c2 ?_
    refine ⟨_, rfl, iteF ?_⟩
    refine tIsT (x := x) (t := t) ["bool", "int"] rfl (fun H' k => ty _ (k1.trans k)) c3 (by decide) fun H2 k2 => ?_
    cases b with
    | true =>
      obtain ⟨c6, c, c7⟩ := c4 rfl
      refine ⟨_, rfl, iteT ?_⟩
      refine tIs1 (x := x) (t := t) rfl (ty _ (k1.trans k2)) c6 ?_
      refine ⟨_, rfl, iteT ?_⟩
      refine tIs1 (x := x) (t := t) rfl (ty _ (k1.trans k2)) c7 ?_
      refine tIs1 (x := x) (t := t) rfl (ty _ (k1.trans k2)) c7 ?_
      refine ⟨rfl, _, rfl, ?_⟩
      rw [decide_eq_true (rfl : V.bl c = V.bl c)]
      refine iteT ?_
      refine ⟨_, rfl, _, rfl, e2, ?_⟩
      rw [decide_eq_true (rfl : x = x)]
      exact q _ (k1.trans k2)
    | false =>
      refine ⟨_, rfl, iteF ?_⟩
      refine tIsT (x := x) (t := t) ["bool", "int", "list", "tuple", "dict"] rfl (fun H' k => ty _ ((k1.trans k2).trans k)) (c5 rfl) (by decide) fun H3 k3 => ?_
      refine ⟨_, rfl, _, rfl, iteT ?_⟩
      refine ⟨_, rfl, _, rfl, e2, ?_⟩
      rw [decide_eq_true (rfl : x = x)]
      exact q _ ((k1.trans k2).trans k3)
  cases hs with
  | non => exact sc "NoneType" false (fun _ _ => .base .non) (by decide +kernel) (by decide +kernel) (by decide +kernel) (fun z => nomatch z) (fun _ => by decide +kernel) rfl rfl
  | int _ i => exact sc "int" true (fun _ _ => .base (.int i)) (by decide +kernel) (by decide +kernel) (by decide +kernel) (fun _ => ⟨by decide +kernel, false, by decide +kernel⟩) (fun z => nomatch z) rfl rfl
  | str _ s => exact sc "str" false (fun _ _ => .base (.str s)) (by decide +kernel) (by decide +kernel) (by decide +kernel) (fun z => nomatch z) (fun _ => by decide +kernel) rfl rfl
  | @lst _ a b xs ys ha hb le hl hd =>
    refine tIsT (x := .ref b) (t := "list") ["list", "tuple"] rfl (fun H' k => .base (.lst (k _ _ (fun z => nomatch z) hb))) (by decide +kernel : kitL "list" ["list", "tuple"] = some true) (by decide) fun H1 k1 => ?_
    have ha1 := k1 _ _ (fun z => nomatch z) ha
    have hb1 := k1 _ _ (fun z => nomatch z) hb
    have ta : TyX K H1 (.ref a) (.type "list") := .base (.lst ha1)
    have tb : TyX K H1 (.ref b) (.type "list") := .base (.lst hb1)
    refine ⟨_, rfl, iteT ?_⟩
    refine tIs1 (x := .ref a) (t := "list") rfl ta (by decide +kernel : kitB "list" "list" = some true) ?_
    refine tIs1 (x := .ref b) (t := "list") rfl tb (by decide +kernel : kitB "list" "list" = some true) ?_
    refine ⟨rfl, _, rfl, iteF ?_⟩
    refine tIs1 (x := .ref a) (t := "list") rfl ta (by decide +kernel : kitB "list" "tuple" = some false) ?_
    refine tIs1 (x := .ref b) (t := "list") rfl tb (by decide +kernel : kitB "list" "tuple" = some false) ?_
    refine ⟨rfl, _, rfl, iteF ?_⟩
    refine ⟨_, rfl, _, _, rfl, .inl ⟨_, SqL.of ha1, rfl⟩, _, rfl, _, _, rfl, .inl ⟨_, SqL.of hb1, rfl⟩, rfl, _, rfl, ?_⟩
    rw [← le, decide_eq_true (rfl : V.int (xs.length : Int) = V.int (xs.length : Int))]
    refine iteT ?_
    refine ⟨_, rfl, _, rfl, a, b, xs, ys, rfl, .inl ⟨SqL.of ha1, SqL.of hb1, fun D hD => ?_⟩⟩
    refine sameD_items (n := n) (xs := xs) (ys := ys) (σ := [some (.ref a), some (.ref b), none, none]) (walk_zip (xs := xs) (ys := ys) (n := xs.length) (by rw [← le, Nat.min_self])) rfl hl (fun H' k => ⟨SqL.of (k _ _ (fun z => nomatch z) ha1), SqL.of (k _ _ (fun z => nomatch z) hb1)⟩) (fun i u v e1 e2 => (hd i u v e1 e2).keep k1) hD rfl fun H2 k2 e2 => ?_
    refine ⟨_, _, rfl, SqL.of e2, ?_⟩
    rw [all_true]
    exact q _ (k1.trans k2)
  | @tup _ a b xs ys ha hb le hl hd =>
    refine tIsT (x := .ref b) (t := "tuple") ["list", "tuple"] rfl (fun H' k => .base (.tup (k _ _ (fun z => nomatch z) hb))) (by decide +kernel : kitL "tuple" ["list", "tuple"] = some true) (by decide) fun H1 k1 => ?_
    have ha1 := k1 _ _ (fun z => nomatch z) ha
    have hb1 := k1 _ _ (fun z => nomatch z) hb
    have ta : TyX K H1 (.ref a) (.type "tuple") := .base (.tup ha1)
    have tb : TyX K H1 (.ref b) (.type "tuple") := .base (.tup hb1)
    refine ⟨_, rfl, iteT ?_⟩
    refine tIs1 (x := .ref a) (t := "tuple") rfl ta (by decide +kernel : kitB "tuple" "list" = some false) ?_
    refine tIs1 (x := .ref b) (t := "tuple") rfl tb (by decide +kernel : kitB "tuple" "list" = some false) ?_
    refine ⟨rfl, _, rfl, iteF ?_⟩
    refine tIs1 (x := .ref a) (t := "tuple") rfl ta (by decide +kernel : kitB "tuple" "tuple" = some true) ?_
    refine tIs1 (x := .ref b) (t := "tuple") rfl tb (by decide +kernel : kitB "tuple" "tuple" = some true) ?_
    refine ⟨rfl, _, rfl, iteF ?_⟩
    refine ⟨_, rfl, _, _, rfl, .inr ⟨_, SqT.of ha1, rfl⟩, _, rfl, _, _, rfl, .inr ⟨_, SqT.of hb1, rfl⟩, rfl, _, rfl, ?_⟩
    rw [← le, decide_eq_true (rfl : V.int (xs.length : Int) = V.int (xs.length : Int))]
    refine iteT ?_
    refine ⟨_, rfl, _, rfl, a, b, xs, ys, rfl, .inr ⟨SqT.of ha1, SqT.of hb1, fun D hD => ?_⟩⟩
    refine sameD_items (n := n) (xs := xs) (ys := ys) (σ := [some (.ref a), some (.ref b), none, none]) (walk_zipT (xs := xs) (ys := ys) (n := xs.length) (by rw [← le, Nat.min_self])) rfl hl (fun H' k => ⟨SqT.of (k _ _ (fun z => nomatch z) ha1), SqT.of (k _ _ (fun z => nomatch z) hb1)⟩) (fun i u v e1 e2 => (hd i u v e1 e2).keep k1) hD rfl fun H2 k2 e2 => ?_
    refine ⟨_, _, rfl, SqL.of e2, ?_⟩
    rw [all_true]
    exact q _ (k1.trans k2)
  | @dct n a b k u v ha hb hl huv =>
    refine tIsT (x := .ref b) (t := "dict") ["list", "tuple"] rfl (fun H' k => .base (.dT (k _ _ (fun z => nomatch z) hb))) (by decide +kernel : kitL "dict" ["list", "tuple"] = some false) (by decide) fun H1 k1 => ?_
    have ha1 := k1 _ _ (fun z => nomatch z) ha
    have hb1 := k1 _ _ (fun z => nomatch z) hb
    refine ⟨_, rfl, iteF ?_⟩
    refine tIs1 (x := .ref b) (t := "dict") rfl (.base (.dT hb1)) (by decide +kernel : kitB "dict" "dict" = some true) ?_
    refine ⟨_, rfl, iteT ?_⟩
    refine tIs1 (x := .ref a) (t := "dict") rfl (.base (.dT ha1)) (by decide +kernel : kitB "dict" "dict" = some true) ?_
    refine ⟨_, rfl, iteF ?_⟩
    refine ⟨_, rfl, a, _, rfl, ha1, fun ks hks H2 p ts k2 hp hts => ?_⟩
    have hb2 := k2 _ _ (fun z => nomatch z) hb1
    refine ⟨_, rfl, b, _, rfl, hb2, fun ks' hks' H3 p' ts' k3 hp' hts' => ?_⟩
    cases hks with
    | @cons _ ka _ _ hka hr =>
    cases hr
    cases hks' with
    | @cons _ kb _ _ hkb hr =>
    cases hr
    cases hts with
    | @cons ta _ _ _ hta hr =>
    cases hr
    cases hts' with
    | @cons tb _ _ _ htb hr =>
    cases hr
    refine ⟨_, _, rfl, ?_, fun H' k4 => q _ (((k1.trans k2).trans k3).trans k4)⟩
    have hka3 := k3 _ _ (fun z => nomatch z) (k2 _ _ (fun z => nomatch z) hka)
    have hkb3 := k3 _ _ (fun z => nomatch z) hkb
    refine .lst (k3 _ _ (fun z => nomatch z) hp) hp' rfl (by show 1 ≤ 100000; decide) fun i x y ex ey => ?_
    match i, ex, ey with
    | 0, ex, ey =>
      cases ex
      cases ey
      refine .tup (k3 _ _ (fun z => nomatch z) hta) htb rfl (by show 2 ≤ 100000; decide) fun i x y ex ey => ?_
      match i, ex, ey with
      | 0, ex, ey =>
        cases ex
        cases ey
        refine .tup hka3 hkb3 rfl (by rw [List.length_map]; exact hl) fun i x y ex ey => ?_
        have e := ex.symm.trans ey
        cases e
        rw [List.getElem?_map] at ex
        cases hk : k[i]? with
        | none => rw [hk] at ex; cases ex
        | some z => rw [hk] at ex; cases ex; exact Sm.key n z
      | 1, ex, ey =>
        cases ex
        cases ey
        exact huv.keep ((k1.trans k2).trans k3)
      | i + 2, ex, _ => cases ex
    | i + 1, ex, _ => cases ex
end FL

/-! ## k01: the law's own things -/
namespace FL
open PySem L2
def t__law_pick (K : PySem.W.Frag) (s__law_draw : Sp) : TS := (tRet (tOp (rIxS) (tVar 1) (tCall s__law_draw [] E0 (tCons (tVar 0) (tCons (tCB (rLen K) (tCons (tVar 1) tNil)) tNil)))))
def t__law_thing (K : PySem.W.Frag) (s__law_draw : Sp) (s__law_pick : Sp) : TS := (tSeq (tAsg (tCall s__law_draw [] E0 (tCons (tVar 0) (tCons (tC (.int 7)) tNil))) (gName 1))
  (tSeq (tIfS (tTest (tOp (rI0 fun i j => .bl (decide (i < j))) (tVar 1) (tC (.int 2)))) (tRet (tOp (rI0 fun i j => .int (i - j)) (tCall s__law_draw [] E0 (tCons (tVar 0) (tCons (tOp (rI CPow fun i j => .int (i ^ j.toNat)) (tC (.int 10)) (tC (.int 30))) tNil))) (tOp (rI CMul fun i j => .int (i * j)) (tC (.int 5)) (tOp (rI CPow fun i j => .int (i ^ j.toNat)) (tC (.int 10)) (tC (.int 29)))))) tNext)
  (tSeq (tIfS (tTest (tOp (rEq) (tVar 1) (tC (.int 2)))) (tRet (tM1 (FL.rJoin K) (tC (.str "")) (tLc (iRng1 (tCons (tCall s__law_draw [] E0 (tCons (tVar 0) (tCons (tC (.int 6)) tNil))) tNil)) (gName 2) tYes (tCall s__law_pick [] E0 (tCons (tVar 0) (tCons (tC (.str "abcz 09")) tNil))) [2]))) tNext)
  (tSeq (tIfS (tTest (tOp (rEq) (tVar 1) (tC (.int 3)))) (tRet (tTup (tCons (tTup (tCons (tCall s__law_draw [] E0 (tCons (tVar 0) (tCons (tC (.int 9)) tNil))) (tCons (tCall s__law_draw [] E0 (tCons (tVar 0) (tCons (tC (.int 3)) tNil))) tNil))) (tCons (tCall s__law_draw [] E0 (tCons (tVar 0) (tCons (tC (.int 9)) tNil))) tNil)))) tNext)
  (tSeq (tIfS (tTest (tOp (rEq) (tVar 1) (tC (.int 4)))) (tRet (tTup (tCons (tCall s__law_draw [] E0 (tCons (tVar 0) (tCons (tC (.int 9)) tNil))) tNil))) tNext)
  (tSeq (tIfS (tTest (tOp (rEq) (tVar 1) (tC (.int 5)))) (tRet (FL.tDis1 (tTup (tCons (tCall s__law_draw [] E0 (tCons (tVar 0) (tCons (tC (.int 9)) tNil))) tNil)) (tC (.int 1)))) tNext)
  (tRet (tC .non))))))))
/-- a sign of a text, by a draw -/
def spPickS : Sp := fun vs H Q _ => ∃ (a : Addr) (z : Str) (n : Nat), vs = [.ref a, .str z] ∧ 1 ≤ z.length ∧ z.length ≤ 1000 ∧ Dr a n H ∧ n ≤ 2 ^ 40 ∧
  ∀ (c : Str) H', c.length = 1 → Kp [a] H H' → Dr a (n + 1) H' → Q (.str c) H'
theorem pure_pickS {K : PySem.W.Frag} (vs : List V) (H : Hp) (Q : VK) (E : XK) (h : spPickS vs H Q E) :
    t__law_pick K spDraw { nx := fun _ H' => Q .non H', rt := Q } (start ["_law_draws", "_law_some"] vs) H := by
  obtain ⟨a, z, n, rfl, h1, h2, D, hn, q⟩ := h
  refine ⟨_, rfl, _, rfl, _, rfl, _, _, rfl, ⟨sz (by omega), rfl⟩, a, _, n, rfl, by omega, ?_, D, hn, fun r H' r0 r1 kp D' => ?_⟩
  · have e : (2 : Int) ^ 120 = 1329227995784915872903807060280344576 := by decide
    rw [e]; omega
  · have hz : z.cps.toList.length = z.length := by
      rw [Array.length_toList]
      rfl
    have hr : r.toNat < z.cps.toList.length := by rw [hz]; omega
    have ea : atI z.cps.toList r = some z.cps.toList[r.toNat] := atI_i r0 (List.getElem?_eq_getElem hr)
    exact ⟨_, _, _, rfl, rfl, sz (by omega), ea, q _ _ rfl kp D'⟩
/-- a thing of the law: itself, looked at again -/
def Th (ex : List Addr) (H : Hp) (v : V) : Prop := ∀ H', Kp ex H H' → Sm H' 6 v v
theorem Th.keep {ex : List Addr} {H H' : Hp} {v : V} (h : Th ex H v) (k : Kp ex H H') : Th ex H' v := fun H2 k2 => h H2 (k.trans k2)
theorem th_int {ex : List Addr} {H : Hp} {i : Int} : Th ex H (.int i) := fun _ _ => .int 5 i
theorem th_str {ex : List Addr} {H : Hp} {x : Str} : Th ex H (.str x) := fun _ _ => .str 5 x
theorem th_non {ex : List Addr} {H : Hp} : Th ex H .non := fun _ _ => .non 5
def spThing : Sp := fun vs H Q _ => ∃ (a : Addr) (n : Nat), vs = [.ref a] ∧ Dr a n H ∧ n ≤ 2 ^ 39 ∧
  ∀ (v : V) (m : Nat) H', m ≤ 20 → Th [a] H' v → Kp [a] H H' → Dr a (n + m) H' → Q v H'
theorem dr_step {i : Nat} {σ : L2.St} {H : Hp} {a : Addr} {n : Nat} {m : Int} {Q : VK} (hv : σ[i]? = some (some (.ref a))) (D : Dr a n H) (hn : n ≤ 2 ^ 40) (h1 : 1 ≤ m) (h2 : m < 2 ^ 120)
    (q : ∀ r H', 0 ≤ r → r < m → Kp [a] H H' → Dr a (n + 1) H' → Q (.int r) H') : tCall spDraw [] E0 (tCons (tVar i) (tCons (tC (.int m)) tNil)) σ H Q :=
  ⟨_, hv, a, m, n, rfl, h1, h2, D, hn, q⟩
theorem th_tup {ex : List Addr} {H : Hp} {p : Addr} {xs : List V} (m : p ∉ ex) (h : H p = some (.tup xs)) (hl : xs.length ≤ 100000) (hs : ∀ H', Kp ex H H' → ∀ x ∈ xs, Sm H' 5 x x) : Th ex H (.ref p) := fun H' k =>
  .tup (k _ _ m h) (k _ _ m h) rfl hl fun i x y e1 e2 => by
    have e := e1.symm.trans e2
    cases e
    exact hs H' k x (List.mem_of_getElem? e1)
theorem sum_ones : ∀ ys : List Str, (∀ y ∈ ys, y.length = 1) → (ys.map (·.length)).sum = ys.length
  | [], _ => rfl
  | y :: r, h => by
    rw [List.map_cons, List.sum_cons, h y List.mem_cons_self, sum_ones r fun z hz => h z (List.mem_cons_of_mem _ hz), List.length_cons]
    omega
theorem pure_thing {K : PySem.W.Frag} (vs : List V) (H : Hp) (Q : VK) (E : XK) (h : spThing vs H Q E) :
    t__law_thing K spDraw spPickS { nx := fun _ H' => Q .non H', rt := Q } (start ["_law_draws", "_law_way", "_law_k"] vs) H := by
  obtain ⟨a, n, rfl, D, hn, q⟩ := h
  have e40 : ((2 : Nat) ^ 40) = 1099511627776 := by decide
  have e39 : ((2 : Nat) ^ 39) = 549755813888 := by decide
  have hn' : n ≤ 549755813888 := by rw [← e39]; exact hn
  have b : ∀ j : Nat, j ≤ 20 → n + j ≤ 2 ^ 40 := fun j hj => by rw [e40]; omega
  have mem : a ∈ [a] := List.mem_singleton.mpr rfl
  refine tseq (tasg (dr_step rfl D (b 0 (by decide)) (by decide) (by decide) fun way H1 w0 w1 k1 D1 => ?_))
  refine st_g ?_
  refine ⟨_, rfl, _, _, rfl, rfl, _, rfl, ?_⟩
  refine ite2 (fun c => ?_) (fun c => ?_)
  · refine ⟨_, rfl, _, _, rfl, rfl, ⟨by decide, by decide, by decide⟩, a, _, n + 1, rfl, by decide, by decide, D1, b 1 (by decide), fun r H2 r0 r1 k2 D2 => ?_⟩
    refine ⟨_, _, rfl, rfl, ⟨by decide, by decide, by decide⟩, _, _, rfl, rfl, ?_, _, _, rfl, rfl, ?_⟩
    · first
      | exact .inl ⟨by decide, by decide⟩
      | exact .inr ⟨by decide, by decide⟩
    · exact q _ 2 _ (by decide) th_int (k1.trans k2) D2
  refine ⟨_, rfl, rfl, _, rfl, ?_⟩
  refine ite2 (fun c => ?_) (fun c => ?_)
  · refine ⟨⟨_, rfl⟩, ?_⟩
    refine ⟨_, rfl, a, _, n + 1, rfl, by decide, by decide, D1, b 1 (by decide), fun r H2 r0 r1 k2 D2 => ?_⟩
    have r6 : r < 6 := r1
    refine ⟨r, rfl, by omega, by omega, fun D0 hD0 => ?_⟩
    have nD : D0 ≠ a := D2.ne hD0
    refine lc_it (walk_range (lo := 0) (n := r.toNat)) (fun i H' => ∃ ys : List Str, ys.length = i ∧ (∀ y ∈ ys, y.length = 1) ∧ H' D0 = some (.lst (ys.map V.str)) ∧ Kp [a] H2 H' ∧ Dr a (n + 1 + 1 + i) H') ⟨[], rfl, (fun y hy => absurd hy (by simp)), upd_same, Kp.new hD0, D2.keep (Kp.new hD0)⟩ (fun _ _ _ _ => trivial) ?_ ?_
    · rintro i v H3 H4 hi ⟨ys, hy, h1, hd, k3, D3⟩ ⟨rfl, rfl⟩
      refine ⟨rfl, ?_⟩
      have hi' : i < r.toNat := hi
      refine ⟨_, rfl, a, _, n + 1 + 1 + i, rfl, by decide, by decide, D3, by have := b (2 + i) (by omega); omega, fun cc H5 hc k5 D5 => ?_⟩
      refine ⟨_, k5 _ _ (nin1 nD) hd, by rw [List.length_map]; exact szl (by omega), ys ++ [cc], by rw [List.length_append, hy]; rfl, fun y hy' => ?_, by rw [upd_same, List.map_append]; rfl, ?_, ?_⟩
      · rcases List.mem_append.mp hy' with z | z
        · exact h1 y z
        · rw [List.mem_singleton.mp z]; exact hc
      · refine Kp.drop (p := D0) ?_ hD0
        exact ((k3.trans k5).mono fun b hb => List.mem_cons_of_mem _ hb).trans (Kp.mut List.mem_cons_self)
      · exact D5.keepx (Kp.mut (List.mem_singleton.mpr rfl)) (nin1 nD.symm)
    · rintro H3 ⟨ys, hy, h1, hd, k3, D3⟩
      refine ⟨_, _, ys, rfl, rfl, .inl (SqL.of hd), ?_, ?_⟩
      · rw [sum_ones ys h1]
        show ys.length + ys.length * 0 ≤ 16777216
        omega
      · exact q _ (2 + r.toNat) _ (by omega) th_str ((k1.trans k2).trans k3) (D3.mono (by omega))
  refine ⟨_, rfl, rfl, _, rfl, ?_⟩
  refine ite2 (fun c => ?_) (fun c => ?_)
  · refine ⟨_, rfl, a, _, n + 1, rfl, by decide, by decide, D1, b 1 (by decide), fun r1 H2 _ _ k2 D2 => ?_⟩
    refine ⟨_, rfl, a, _, n + 1 + 1, rfl, by decide, by decide, D2, b 2 (by decide), fun r2 H3 _ _ k3 D3 => ?_⟩
    refine ⟨by show 2 ≤ sizeLine; decide, fun t ht => ?_⟩
    have nt := D3.ne ht
    have D3' := D3.keep (Kp.new (o := .tup [.int r1, .int r2]) ht)
    have k3' : Kp [a] H3 (upd H3 t (.tup [.int r1, .int r2])) := Kp.new ht
    have ht' : upd H3 t (.tup [.int r1, .int r2]) t = some (.tup [.int r1, .int r2]) := upd_same
    generalize upd H3 t (.tup [.int r1, .int r2]) = H4 at D3' k3' ht'
    refine ⟨_, rfl, a, _, n + 1 + 1 + 1, rfl, by decide, by decide, D3', b 3 (by decide), fun r3 H5 _ _ k5 D5 => ?_⟩
    have ht5 := k5 _ _ (nin1 nt) ht'
    refine ⟨by show 2 ≤ sizeLine; decide, fun p hp => ?_⟩
    have np := D5.ne hp
    refine q _ 4 _ (by decide) (th_tup (nin1 np) upd_same (by show 2 ≤ 100000; decide) fun H' k x hx => ?_) ((((k1.trans k2).trans k3).trans k3').trans (k5.trans (Kp.new hp))) (D5.keep (Kp.new hp))
    rcases List.mem_cons.mp hx with z | hx
    · rw [z]
      have e := k _ _ (nin1 nt) ((Kp.new (ex := [a]) hp) _ _ (nin1 nt) ht5)
      refine .tup e e rfl (by show 2 ≤ 100000; decide) fun i x y e1 e2 => ?_
      have e3 := e1.symm.trans e2
      cases e3
      rcases List.mem_cons.mp (List.mem_of_getElem? e1) with z | z
      · rw [z]; exact .int _ _
      · rw [List.mem_singleton.mp z]; exact .int _ _
    · rw [List.mem_singleton.mp hx]; exact .int _ _
  refine ⟨_, rfl, rfl, _, rfl, ?_⟩
  refine ite2 (fun c => ?_) (fun c => ?_)
  · refine ⟨_, rfl, a, _, n + 1, rfl, by decide, by decide, D1, b 1 (by decide), fun r1 H2 _ _ k2 D2 => ?_⟩
    refine ⟨by show 1 ≤ sizeLine; decide, fun p hp => ?_⟩
    refine q _ 2 _ (by decide) (th_tup (nin1 (D2.ne hp)) upd_same (by show 1 ≤ 100000; decide) fun H' k x hx => ?_) ((k1.trans k2).trans (Kp.new hp)) (D2.keep (Kp.new hp))
    rw [List.mem_singleton.mp hx]; exact .int _ _
  refine ⟨_, rfl, rfl, _, rfl, ?_⟩
  refine ite2 (fun c => ?_) (fun c => ?_)
  · intro p hp
    have np := D1.ne hp
    have D1' := D1.keep (Kp.new (o := .dT []) hp)
    have k1' : Kp [a] H1 (upd H1 p (.dT [])) := Kp.new hp
    have hp' : upd H1 p (.dT []) p = some (.dT []) := upd_same
    generalize upd H1 p (.dT []) = H1' at D1' k1' hp'
    refine ⟨_, rfl, a, _, n + 1, rfl, by decide, by decide, D1', b 1 (by decide), fun r1 H2 _ _ k2 D2 => ?_⟩
    refine ⟨by show 1 ≤ sizeLine; decide, fun t ht => ?_⟩
    have hp2 := k2 _ _ (nin1 np) hp'
    have hp3 : upd H2 t (.tup [.int r1]) p = some (.dT []) := by rw [upd_ne (ne_of_none hp2 ht)]; exact hp2
    refine ⟨hp3, t, [.inl r1], rfl, upd_same, ?_⟩
    have kx : Kp [a] H1 (upd (upd H2 t (.tup [.int r1])) p (.dT [([.inl r1], .int 1)])) := by
      refine Kp.drop (p := p) ?_ hp
      exact (((k1'.trans k2).trans (Kp.new ht)).mono fun b hb => List.mem_cons_of_mem _ hb).trans (Kp.mut List.mem_cons_self)
    refine q _ 2 _ (by decide) (fun H' k => ?_) (k1.trans kx) (D2.keep (Kp.new ht) |>.keepx (Kp.mut (ex := [p]) (List.mem_singleton.mpr rfl)) (nin1 np.symm))
    have e := k _ _ (nin1 np) upd_same
    exact .dct (n := 1) e e (by show 1 ≤ 100000; decide) (.int _ _)
  · exact q _ 1 _ (by decide) th_non k1 D1
end FL

/-! ## k01: all errors made, their kinds, their fields -/
namespace FL
open PySem L2
def t__law_fields (K : PySem.W.Frag) : TS := (tSeq (tIfS (tTest (tOp (rIn K false) (tVar 0) (tTup (tCons (tC (.str "BadSpace")) (tCons (tC (.str "BadLimit")) tNil))))) (tRet (tLst (tCons (FL.tFld K "value" (tVar 1)) tNil))) tNext)
  (tSeq (tIfS (tTest (tOp (rIn K false) (tVar 0) (tTup (tCons (tC (.str "BadCount")) tNil)))) (tRet (tLst (tCons (FL.tFld K "earlier" (tVar 1)) (tCons (FL.tFld K "count" (tVar 1)) tNil)))) tNext)
  (tSeq (tIfS (tTest (tOp (rIn K false) (tVar 0) (tTup (tCons (tC (.str "NoPlace")) (tCons (tC (.str "Stale")) (tCons (tC (.str "BadCorner")) tNil)))))) (tRet (tLst (tCons (FL.tFld K "place" (tVar 1)) tNil))) tNext)
  (tSeq (tIfS (tTest (tOp (rIn K false) (tVar 0) (tTup (tCons (tC (.str "BadFacts")) (tCons (tC (.str "DividesByZero")) tNil))))) (tRet (tLst (tCons (FL.tFld K "facts" (tVar 1)) tNil))) tNext)
  (tSeq (tIfS (tTest (tOp (rIn K false) (tVar 0) (tTup (tCons (tC (.str "BadAnswer")) tNil)))) (tRet (tLst (tCons (FL.tFld K "place" (tVar 1)) (tCons (FL.tFld K "given" (tVar 1)) tNil)))) tNext)
  (tSeq (tIfS (tTest (tOp (rIn K false) (tVar 0) (tTup (tCons (tC (.str "TooDeep")) (tCons (tC (.str "TooMany")) (tCons (tC (.str "Wavers")) (tCons (tC (.str "NotTruth")) (tCons (tC (.str "NotNumber")) tNil)))))))) (tRet (tLst (tCons (FL.tFld K "path" (tVar 1)) tNil))) tNext)
  (tSeq (tIfS (tTest (tOp (rIn K false) (tVar 0) (tTup (tCons (tC (.str "Empty")) (tCons (tC (.str "NotFree")) tNil))))) (tRet (tLst (tCons (FL.tFld K "form" (tVar 1)) tNil))) tNext)
  (tSeq (tIfS (tTest (tOp (rIn K false) (tVar 0) (tTup (tCons (tC (.str "NoBranch")) tNil)))) (tRet (tLst (tCons (FL.tFld K "place" (tVar 1)) (tCons (FL.tFld K "answer" (tVar 1)) tNil)))) tNext)
  (tSeq (tIfS (tTest (tOp (rIn K false) (tVar 0) (tTup (tCons (tC (.str "BadNumber")) (tCons (tC (.str "TooGreat")) tNil))))) (tRet (tLst (tCons (FL.tFld K "number" (tVar 1)) tNil))) tNext)
  (tSeq (tIfS (tTest (tOp (rIn K false) (tVar 0) (tTup (tCons (tC (.str "BadPower")) tNil)))) (tRet (tLst (tCons (FL.tFld K "n" (tVar 1)) tNil))) tNext)
  (tSeq (tIfS (tTest (tOp (rIn K false) (tVar 0) (tTup (tCons (tC (.str "TooWide")) tNil)))) (tRet (tLst (tCons (FL.tFld K "width" (tVar 1)) tNil))) tNext)
  (tSeq (tIfS (tTest (tOp (rIn K false) (tVar 0) (tTup (tCons (tC (.str "UnlikeSpaces")) tNil)))) (tRet (tLst (tCons (FL.tFld K "form" (tVar 1)) (tCons (FL.tFld K "other" (tVar 1)) tNil)))) tNext)
  (tSeq (tIfS (tTest (tOp (rIn K false) (tVar 0) (tTup (tCons (tC (.str "Mixed")) tNil)))) (tRet (tLst (tCons (FL.tFld K "several" (tVar 1)) tNil))) tNext)
  (tSeq (tIfS (tTest (tOp (rIn K false) (tVar 0) (tTup (tCons (tC (.str "NoAnswerer")) (tCons (tC (.str "BadPlay")) tNil))))) (tRet (tLst (tCons (FL.tFld K "count" (tVar 1)) tNil))) tNext)
  (tSeq (tIfS (tTest (tOp (rIn K false) (tVar 0) (tTup (tCons (tC (.str "BadMover")) tNil)))) (tRet (tLst (tCons (FL.tFld K "place" (tVar 1)) (tCons (FL.tFld K "player" (tVar 1)) tNil)))) tNext)
  (tSeq (tIfS (tTest (tOp (rIn K false) (tVar 0) (tTup (tCons (tC (.str "BadPlayer")) tNil)))) (tRet (tLst (tCons (FL.tFld K "player" (tVar 1)) tNil))) tNext)
  (tSeq (tIfS (tTest (tOp (rIn K false) (tVar 0) (tTup (tCons (tC (.str "BadStand")) tNil)))) (tRet (tLst (tCons (FL.tFld K "stand" (tVar 1)) tNil))) tNext)
  (tRet (tLst tNil)))))))))))))))))))
def t__law_kinds (K : PySem.W.Frag) : TS := (tSeq (tAsg (tLst (tCons (tTup (tCons (tC (.str "BadSpace")) (tCons (tCB (FL.rIsX K) (tCons (tVar 0) (tCons (tC (.ref (He.ga K "BadSpace"))) tNil))) tNil))) (tCons (tTup (tCons (tC (.str "BadCount")) (tCons (tCB (FL.rIsX K) (tCons (tVar 0) (tCons (tC (.ref (He.ga K "BadCount"))) tNil))) tNil))) (tCons (tTup (tCons (tC (.str "NoPlace")) (tCons (tCB (FL.rIsX K) (tCons (tVar 0) (tCons (tC (.ref (He.ga K "NoPlace"))) tNil))) tNil))) (tCons (tTup (tCons (tC (.str "BadFacts")) (tCons (tCB (FL.rIsX K) (tCons (tVar 0) (tCons (tC (.ref (He.ga K "BadFacts"))) tNil))) tNil))) (tCons (tTup (tCons (tC (.str "BadAnswer")) (tCons (tCB (FL.rIsX K) (tCons (tVar 0) (tCons (tC (.ref (He.ga K "BadAnswer"))) tNil))) tNil))) (tCons (tTup (tCons (tC (.str "Stale")) (tCons (tCB (FL.rIsX K) (tCons (tVar 0) (tCons (tC (.ref (He.ga K "Stale"))) tNil))) tNil))) (tCons (tTup (tCons (tC (.str "BadLimit")) (tCons (tCB (FL.rIsX K) (tCons (tVar 0) (tCons (tC (.ref (He.ga K "BadLimit"))) tNil))) tNil))) (tCons (tTup (tCons (tC (.str "TooDeep")) (tCons (tCB (FL.rIsX K) (tCons (tVar 0) (tCons (tC (.ref (He.ga K "TooDeep"))) tNil))) tNil))) (tCons (tTup (tCons (tC (.str "TooMany")) (tCons (tCB (FL.rIsX K) (tCons (tVar 0) (tCons (tC (.ref (He.ga K "TooMany"))) tNil))) tNil))) (tCons (tTup (tCons (tC (.str "Wavers")) (tCons (tCB (FL.rIsX K) (tCons (tVar 0) (tCons (tC (.ref (He.ga K "Wavers"))) tNil))) tNil))) (tCons (tTup (tCons (tC (.str "NotTruth")) (tCons (tCB (FL.rIsX K) (tCons (tVar 0) (tCons (tC (.ref (He.ga K "NotTruth"))) tNil))) tNil))) (tCons (tTup (tCons (tC (.str "NotNumber")) (tCons (tCB (FL.rIsX K) (tCons (tVar 0) (tCons (tC (.ref (He.ga K "NotNumber"))) tNil))) tNil))) (tCons (tTup (tCons (tC (.str "Empty")) (tCons (tCB (FL.rIsX K) (tCons (tVar 0) (tCons (tC (.ref (He.ga K "Empty"))) tNil))) tNil))) (tCons (tTup (tCons (tC (.str "NoBranch")) (tCons (tCB (FL.rIsX K) (tCons (tVar 0) (tCons (tC (.ref (He.ga K "NoBranch"))) tNil))) tNil))) tNil))))))))))))))) (gName 1))
  (tRet (tLc (iList K (tVar 1)) (gTup K 2 (gCons (gName 2) (gCons (gName 3) gNil))) (tB (tVar 3)) (tVar 2) [2, 3])))
def t__law_others (K : PySem.W.Frag) : TS := (tSeq (tAsg (tLst (tCons (tTup (tCons (tC (.str "NotFree")) (tCons (tCB (FL.rIsX K) (tCons (tVar 0) (tCons (tC (.ref (He.ga K "NotFree"))) tNil))) tNil))) (tCons (tTup (tCons (tC (.str "BadNumber")) (tCons (tCB (FL.rIsX K) (tCons (tVar 0) (tCons (tC (.ref (He.ga K "BadNumber"))) tNil))) tNil))) (tCons (tTup (tCons (tC (.str "BadPower")) (tCons (tCB (FL.rIsX K) (tCons (tVar 0) (tCons (tC (.ref (He.ga K "BadPower"))) tNil))) tNil))) (tCons (tTup (tCons (tC (.str "TooWide")) (tCons (tCB (FL.rIsX K) (tCons (tVar 0) (tCons (tC (.ref (He.ga K "TooWide"))) tNil))) tNil))) (tCons (tTup (tCons (tC (.str "TooGreat")) (tCons (tCB (FL.rIsX K) (tCons (tVar 0) (tCons (tC (.ref (He.ga K "TooGreat"))) tNil))) tNil))) (tCons (tTup (tCons (tC (.str "DividesByZero")) (tCons (tCB (FL.rIsX K) (tCons (tVar 0) (tCons (tC (.ref (He.ga K "DividesByZero"))) tNil))) tNil))) (tCons (tTup (tCons (tC (.str "UnlikeSpaces")) (tCons (tCB (FL.rIsX K) (tCons (tVar 0) (tCons (tC (.ref (He.ga K "UnlikeSpaces"))) tNil))) tNil))) (tCons (tTup (tCons (tC (.str "BadCorner")) (tCons (tCB (FL.rIsX K) (tCons (tVar 0) (tCons (tC (.ref (He.ga K "BadCorner"))) tNil))) tNil))) (tCons (tTup (tCons (tC (.str "Mixed")) (tCons (tCB (FL.rIsX K) (tCons (tVar 0) (tCons (tC (.ref (He.ga K "Mixed"))) tNil))) tNil))) (tCons (tTup (tCons (tC (.str "NoAnswerer")) (tCons (tCB (FL.rIsX K) (tCons (tVar 0) (tCons (tC (.ref (He.ga K "NoAnswerer"))) tNil))) tNil))) (tCons (tTup (tCons (tC (.str "BadPlay")) (tCons (tCB (FL.rIsX K) (tCons (tVar 0) (tCons (tC (.ref (He.ga K "BadPlay"))) tNil))) tNil))) (tCons (tTup (tCons (tC (.str "BadMover")) (tCons (tCB (FL.rIsX K) (tCons (tVar 0) (tCons (tC (.ref (He.ga K "BadMover"))) tNil))) tNil))) (tCons (tTup (tCons (tC (.str "BadPlayer")) (tCons (tCB (FL.rIsX K) (tCons (tVar 0) (tCons (tC (.ref (He.ga K "BadPlayer"))) tNil))) tNil))) (tCons (tTup (tCons (tC (.str "BadStand")) (tCons (tCB (FL.rIsX K) (tCons (tVar 0) (tCons (tC (.ref (He.ga K "BadStand"))) tNil))) tNil))) tNil))))))))))))))) (gName 1))
  (tRet (tLc (iList K (tVar 1)) (gTup K 2 (gCons (gName 2) (gCons (gName 3) gNil))) (tB (tVar 3)) (tVar 2) [2, 3])))
def t__law_made (K : PySem.W.Frag) : TS := (tRet (tLst (tCons (tTup (tCons (tC (.str "BadSpace")) (tCons (FL.tMkX (He.ga K "BadSpace") (FL.spIni K ["value"]) (tCons (tVar 0) tNil)) (tCons (FL.tMkK (He.ga K "BadSpace") (FL.spIni K ["value"]) 1 [0] (tCons (tVar 0) tNil)) tNil)))) (tCons (tTup (tCons (tC (.str "BadCount")) (tCons (FL.tMkX (He.ga K "BadCount") (FL.spIni K ["earlier", "count"]) (tCons (tVar 0) (tCons (tVar 1) tNil))) (tCons (FL.tMkK (He.ga K "BadCount") (FL.spIni K ["earlier", "count"]) 2 [1, 0] (tCons (tVar 1) (tCons (tVar 0) tNil))) tNil)))) (tCons (tTup (tCons (tC (.str "NoPlace")) (tCons (FL.tMkX (He.ga K "NoPlace") (FL.spIni K ["place"]) (tCons (tVar 0) tNil)) (tCons (FL.tMkK (He.ga K "NoPlace") (FL.spIni K ["place"]) 1 [0] (tCons (tVar 0) tNil)) tNil)))) (tCons (tTup (tCons (tC (.str "BadFacts")) (tCons (FL.tMkX (He.ga K "BadFacts") (FL.spIni K ["facts"]) (tCons (tVar 0) tNil)) (tCons (FL.tMkK (He.ga K "BadFacts") (FL.spIni K ["facts"]) 1 [0] (tCons (tVar 0) tNil)) tNil)))) (tCons (tTup (tCons (tC (.str "BadAnswer")) (tCons (FL.tMkX (He.ga K "BadAnswer") (FL.spIni K ["place", "given"]) (tCons (tVar 0) (tCons (tVar 1) tNil))) (tCons (FL.tMkK (He.ga K "BadAnswer") (FL.spIni K ["place", "given"]) 2 [1, 0] (tCons (tVar 1) (tCons (tVar 0) tNil))) tNil)))) (tCons (tTup (tCons (tC (.str "Stale")) (tCons (FL.tMkX (He.ga K "Stale") (FL.spIni K ["place"]) (tCons (tVar 0) tNil)) (tCons (FL.tMkK (He.ga K "Stale") (FL.spIni K ["place"]) 1 [0] (tCons (tVar 0) tNil)) tNil)))) (tCons (tTup (tCons (tC (.str "BadLimit")) (tCons (FL.tMkX (He.ga K "BadLimit") (FL.spIni K ["value"]) (tCons (tVar 0) tNil)) (tCons (FL.tMkK (He.ga K "BadLimit") (FL.spIni K ["value"]) 1 [0] (tCons (tVar 0) tNil)) tNil)))) (tCons (tTup (tCons (tC (.str "TooDeep")) (tCons (FL.tMkX (He.ga K "TooDeep") (FL.spIni K ["path"]) (tCons (tVar 0) tNil)) (tCons (FL.tMkK (He.ga K "TooDeep") (FL.spIni K ["path"]) 1 [0] (tCons (tVar 0) tNil)) tNil)))) (tCons (tTup (tCons (tC (.str "TooMany")) (tCons (FL.tMkX (He.ga K "TooMany") (FL.spIni K ["path"]) (tCons (tVar 0) tNil)) (tCons (FL.tMkK (He.ga K "TooMany") (FL.spIni K ["path"]) 1 [0] (tCons (tVar 0) tNil)) tNil)))) (tCons (tTup (tCons (tC (.str "Wavers")) (tCons (FL.tMkX (He.ga K "Wavers") (FL.spIni K ["path"]) (tCons (tVar 0) tNil)) (tCons (FL.tMkK (He.ga K "Wavers") (FL.spIni K ["path"]) 1 [0] (tCons (tVar 0) tNil)) tNil)))) (tCons (tTup (tCons (tC (.str "NotTruth")) (tCons (FL.tMkX (He.ga K "NotTruth") (FL.spIni K ["path"]) (tCons (tVar 0) tNil)) (tCons (FL.tMkK (He.ga K "NotTruth") (FL.spIni K ["path"]) 1 [0] (tCons (tVar 0) tNil)) tNil)))) (tCons (tTup (tCons (tC (.str "NotNumber")) (tCons (FL.tMkX (He.ga K "NotNumber") (FL.spIni K ["path"]) (tCons (tVar 0) tNil)) (tCons (FL.tMkK (He.ga K "NotNumber") (FL.spIni K ["path"]) 1 [0] (tCons (tVar 0) tNil)) tNil)))) (tCons (tTup (tCons (tC (.str "Empty")) (tCons (FL.tMkX (He.ga K "Empty") (FL.spIni K ["form"]) (tCons (tVar 0) tNil)) (tCons (FL.tMkK (He.ga K "Empty") (FL.spIni K ["form"]) 1 [0] (tCons (tVar 0) tNil)) tNil)))) (tCons (tTup (tCons (tC (.str "NoBranch")) (tCons (FL.tMkX (He.ga K "NoBranch") (FL.spIni K ["place", "answer"]) (tCons (tVar 0) (tCons (tVar 1) tNil))) (tCons (FL.tMkK (He.ga K "NoBranch") (FL.spIni K ["place", "answer"]) 2 [1, 0] (tCons (tVar 1) (tCons (tVar 0) tNil))) tNil)))) tNil))))))))))))))))
def t__law_more (K : PySem.W.Frag) : TS := (tRet (tLst (tCons (tTup (tCons (tC (.str "NotFree")) (tCons (FL.tMkX (He.ga K "NotFree") (FL.spIni K ["form"]) (tCons (tVar 0) tNil)) (tCons (FL.tMkK (He.ga K "NotFree") (FL.spIni K ["form"]) 1 [0] (tCons (tVar 0) tNil)) tNil)))) (tCons (tTup (tCons (tC (.str "BadNumber")) (tCons (FL.tMkX (He.ga K "BadNumber") (FL.spIni K ["number"]) (tCons (tVar 0) tNil)) (tCons (FL.tMkK (He.ga K "BadNumber") (FL.spIni K ["number"]) 1 [0] (tCons (tVar 0) tNil)) tNil)))) (tCons (tTup (tCons (tC (.str "BadPower")) (tCons (FL.tMkX (He.ga K "BadPower") (FL.spIni K ["n"]) (tCons (tVar 0) tNil)) (tCons (FL.tMkK (He.ga K "BadPower") (FL.spIni K ["n"]) 1 [0] (tCons (tVar 0) tNil)) tNil)))) (tCons (tTup (tCons (tC (.str "TooWide")) (tCons (FL.tMkX (He.ga K "TooWide") (FL.spIni K ["width"]) (tCons (tVar 0) tNil)) (tCons (FL.tMkK (He.ga K "TooWide") (FL.spIni K ["width"]) 1 [0] (tCons (tVar 0) tNil)) tNil)))) (tCons (tTup (tCons (tC (.str "TooGreat")) (tCons (FL.tMkX (He.ga K "TooGreat") (FL.spIni K ["number"]) (tCons (tVar 0) tNil)) (tCons (FL.tMkK (He.ga K "TooGreat") (FL.spIni K ["number"]) 1 [0] (tCons (tVar 0) tNil)) tNil)))) (tCons (tTup (tCons (tC (.str "DividesByZero")) (tCons (FL.tMkX (He.ga K "DividesByZero") (FL.spIni K ["facts"]) (tCons (tVar 0) tNil)) (tCons (FL.tMkK (He.ga K "DividesByZero") (FL.spIni K ["facts"]) 1 [0] (tCons (tVar 0) tNil)) tNil)))) (tCons (tTup (tCons (tC (.str "UnlikeSpaces")) (tCons (FL.tMkX (He.ga K "UnlikeSpaces") (FL.spIni K ["form", "other"]) (tCons (tVar 0) (tCons (tVar 1) tNil))) (tCons (FL.tMkK (He.ga K "UnlikeSpaces") (FL.spIni K ["form", "other"]) 2 [1, 0] (tCons (tVar 1) (tCons (tVar 0) tNil))) tNil)))) (tCons (tTup (tCons (tC (.str "BadCorner")) (tCons (FL.tMkX (He.ga K "BadCorner") (FL.spIni K ["place"]) (tCons (tVar 0) tNil)) (tCons (FL.tMkK (He.ga K "BadCorner") (FL.spIni K ["place"]) 1 [0] (tCons (tVar 0) tNil)) tNil)))) (tCons (tTup (tCons (tC (.str "Mixed")) (tCons (FL.tMkX (He.ga K "Mixed") (FL.spIni K ["several"]) (tCons (tVar 0) tNil)) (tCons (FL.tMkK (He.ga K "Mixed") (FL.spIni K ["several"]) 1 [0] (tCons (tVar 0) tNil)) tNil)))) (tCons (tTup (tCons (tC (.str "NoAnswerer")) (tCons (FL.tMkX (He.ga K "NoAnswerer") (FL.spIni K ["count"]) (tCons (tVar 0) tNil)) (tCons (FL.tMkK (He.ga K "NoAnswerer") (FL.spIni K ["count"]) 1 [0] (tCons (tVar 0) tNil)) tNil)))) (tCons (tTup (tCons (tC (.str "BadPlay")) (tCons (FL.tMkX (He.ga K "BadPlay") (FL.spIni K ["count"]) (tCons (tVar 0) tNil)) (tCons (FL.tMkK (He.ga K "BadPlay") (FL.spIni K ["count"]) 1 [0] (tCons (tVar 0) tNil)) tNil)))) (tCons (tTup (tCons (tC (.str "BadMover")) (tCons (FL.tMkX (He.ga K "BadMover") (FL.spIni K ["place", "player"]) (tCons (tVar 0) (tCons (tVar 1) tNil))) (tCons (FL.tMkK (He.ga K "BadMover") (FL.spIni K ["place", "player"]) 2 [1, 0] (tCons (tVar 1) (tCons (tVar 0) tNil))) tNil)))) (tCons (tTup (tCons (tC (.str "BadPlayer")) (tCons (FL.tMkX (He.ga K "BadPlayer") (FL.spIni K ["player"]) (tCons (tVar 0) tNil)) (tCons (FL.tMkK (He.ga K "BadPlayer") (FL.spIni K ["player"]) 1 [0] (tCons (tVar 0) tNil)) tNil)))) (tCons (tTup (tCons (tC (.str "BadStand")) (tCons (FL.tMkX (He.ga K "BadStand") (FL.spIni K ["stand"]) (tCons (tVar 0) tNil)) (tCons (FL.tMkK (He.ga K "BadStand") (FL.spIni K ["stand"]) 1 [0] (tCons (tVar 0) tNil)) tNil)))) tNil))))))))))))))))
def kA : List (Str × List Str) := [("BadSpace", ["value"]), ("BadCount", ["earlier", "count"]), ("NoPlace", ["place"]), ("BadFacts", ["facts"]), ("BadAnswer", ["place", "given"]), ("Stale", ["place"]), ("BadLimit", ["value"]), ("TooDeep", ["path"]), ("TooMany", ["path"]), ("Wavers", ["path"]), ("NotTruth", ["path"]), ("NotNumber", ["path"]), ("Empty", ["form"]), ("NoBranch", ["place", "answer"])]
def kB : List (Str × List Str) := [("NotFree", ["form"]), ("BadNumber", ["number"]), ("BadPower", ["n"]), ("TooWide", ["width"]), ("TooGreat", ["number"]), ("DividesByZero", ["facts"]), ("UnlikeSpaces", ["form", "other"]), ("BadCorner", ["place"]), ("Mixed", ["several"]), ("NoAnswerer", ["count"]), ("BadPlay", ["count"]), ("BadMover", ["place", "player"]), ("BadPlayer", ["player"]), ("BadStand", ["stand"])]
def ftab : List (List Str × List Str) := [(["BadSpace", "BadLimit"], ["value"]), (["BadCount"], ["earlier", "count"]), (["NoPlace", "Stale", "BadCorner"], ["place"]), (["BadFacts", "DividesByZero"], ["facts"]), (["BadAnswer"], ["place", "given"]), (["TooDeep", "TooMany", "Wavers", "NotTruth", "NotNumber"], ["path"]), (["Empty", "NotFree"], ["form"]), (["NoBranch"], ["place", "answer"]), (["BadNumber", "TooGreat"], ["number"]), (["BadPower"], ["n"]), (["TooWide"], ["width"]), (["UnlikeSpaces"], ["form", "other"]), (["Mixed"], ["several"]), (["NoAnswerer", "BadPlay"], ["count"]), (["BadMover"], ["place", "player"]), (["BadPlayer"], ["player"]), (["BadStand"], ["stand"])]
def kinds : List (Str × List Str) := kA ++ kB
/-- one or two unlike fields -/
def shp : List Str → Bool
  | [_] => true
  | [f, g] => decide (f ≠ g)
  | _ => false
theorem kinds_shp : ∀ p ∈ kinds, shp p.2 = true := by decide +kernel
/-- what the classes' objects are checked for -/
def kindsB (K : PySem.W.Frag) : Bool := kinds.all fun p => exB K (He.ga K p.1) && ((p.2.all fun f => He.eqO (PySem.W.findIn K (.ref (He.ga K p.1)) f) (some none)) && ((kinds.all fun q => decide (PySem.W.kitOne K (.ref (He.ga K p.1)) (.ref (He.ga K q.1)) = some (decide (p.1 = q.1)))) &&
  (decide (PySem.W.kitOne K (.ref (He.ga K p.1)) (.ref (He.ga K "LooksError")) = some true) && decide (PySem.W.kitOne K (.ref (He.ga K p.1)) (.type "ValueError") = some true))))
structure KindsOk (K : PySem.W.Frag) : Prop where
  ex : ∀ p ∈ kinds, Ex K (He.ga K p.1)
  no : ∀ p ∈ kinds, ∀ f ∈ p.2, PySem.W.findIn K (.ref (He.ga K p.1)) f = some none
  is : ∀ p ∈ kinds, ∀ q ∈ kinds, PySem.W.kitOne K (.ref (He.ga K p.1)) (.ref (He.ga K q.1)) = some (decide (p.1 = q.1))
  lo : ∀ p ∈ kinds, PySem.W.kitOne K (.ref (He.ga K p.1)) (.ref (He.ga K "LooksError")) = some true
  ve : ∀ p ∈ kinds, PySem.W.kitOne K (.ref (He.ga K p.1)) (.type "ValueError") = some true
theorem kindsB_ok {K : PySem.W.Frag} (h : kindsB K = true) : KindsOk K := by
  have g := fun p hp => He.ba (List.all_eq_true.mp h p hp)
  refine ⟨fun p hp => exB_ok (g p hp).1, fun p hp f hf => ?_, fun p hp q hq => ?_, fun p hp => ?_, fun p hp => ?_⟩
  · exact He.eqO_ok (List.all_eq_true.mp (He.ba (g p hp).2).1 f hf)
  · exact of_decide_eq_true (List.all_eq_true.mp (He.ba (He.ba (g p hp).2).2).1 q hq)
  · exact of_decide_eq_true (He.ba (He.ba (He.ba (g p hp).2).2).2).1
  · exact of_decide_eq_true (He.ba (He.ba (He.ba (g p hp).2).2).2).2
/-- an error of the class at C with these fields -/
def Er (H : Hp) (v : V) (C : Addr) (fs : List (Str × V)) : Prop := ∃ a d, v = .ref a ∧ H a = some (exo a C (some d)) ∧ H d = some (exd d fs)
theorem Er.keep {H H' : Hp} {v : V} {C : Addr} {fs : List (Str × V)} (h : Er H v C fs) (k : Kp [] H H') : Er H' v C fs := by
  obtain ⟨a, d, e, h1, h2⟩ := h
  exact ⟨a, d, e, k _ _ (fun z => nomatch z) h1, k _ _ (fun z => nomatch z) h2⟩
def fv (fs : List Str) (x y : V) : List (Str × V) := (fs.zip [x, y]).reverse
theorem ini_step {K : PySem.W.Frag} {C : Addr} {fs : List Str} {vs : List V} {H : Hp} {Q : VK} (T : Ex K C) (hn : ∀ f ∈ fs, PySem.W.findIn K (.ref C) f = some none) (hl : vs.length = fs.length) (q : ∀ v H', Kp [] H H' → Er H' v C (fs.zip vs).reverse → Q v H') :
    ∀ a, H a = none → spIni K fs (.ref a :: vs) (upd H a (exo a C none)) (fun v H2 => v = .non ∧ Q (.ref a) H2) E0 := by
  intro a ha
  refine ⟨a, C, vs, rfl, hl, upd_same, T.oex, hn, fun d H' hd ne kp h1 h2 => ⟨rfl, q _ H' ?_ ⟨a, d, rfl, h1, h2⟩⟩⟩
  exact Kp.drop ((Kp.new ha).trans kp) ha
theorem mkx_ok {K : PySem.W.Frag} {C : Addr} {fs : List Str} {vs : List V} {ta : TA} {σ : L2.St} {H : Hp} {Q : VK} (hta : ∀ R : List V → Hp → Prop, R vs H → ta σ H R) (T : Ex K C) (hn : ∀ f ∈ fs, PySem.W.findIn K (.ref C) f = some none) (hl : vs.length = fs.length) (h2 : vs.length ≤ 1000)
    (q : ∀ v H', Kp [] H H' → Er H' v C (fs.zip vs).reverse → Q v H') : tMkX C (spIni K fs) ta σ H Q := hta _ ⟨h2, ini_step (Q := Q) T hn hl q⟩
theorem mkk_ok {K : PySem.W.Frag} {C : Addr} {fs : List Str} {vs zs : List V} {n : Nat} {perm : List Nat} {ta : TA} {σ : L2.St} {H : Hp} {Q : VK} (hta : ∀ R : List V → Hp → Prop, R zs H → ta σ H R) (T : Ex K C) (hn : ∀ f ∈ fs, PySem.W.findIn K (.ref C) f = some none) (hl : vs.length = fs.length)
    (h1 : zs.length = n) (h2 : n ≤ 1000) (hg : gPerm n perm [] zs = vs) (q : ∀ v H', Kp [] H H' → Er H' v C (fs.zip vs).reverse → Q v H') : tMkK C (spIni K fs) n perm ta σ H Q := by
  subst hg
  exact hta _ ⟨h1, h2, ini_step (Q := Q) T hn hl q⟩
/-! ### the rows of made and more -/
def rowT (K : PySem.W.Frag) (p : Str × List Str) : TE := match p.2 with
  | [f] => tTup (tCons (tC (.str p.1)) (tCons (tMkX (He.ga K p.1) (spIni K [f]) (tCons (tVar 0) tNil)) (tCons (tMkK (He.ga K p.1) (spIni K [f]) 1 [0] (tCons (tVar 0) tNil)) tNil)))
  | [f, g] => tTup (tCons (tC (.str p.1)) (tCons (tMkX (He.ga K p.1) (spIni K [f, g]) (tCons (tVar 0) (tCons (tVar 1) tNil))) (tCons (tMkK (He.ga K p.1) (spIni K [f, g]) 2 [1, 0] (tCons (tVar 1) (tCons (tVar 0) tNil))) tNil)))
  | _ => tC .non
def rowsT (K : PySem.W.Frag) : List (Str × List Str) → TA
  | [] => tNil
  | p :: r => tCons (rowT K p) (rowsT K r)
theorem made_eq (K : PySem.W.Frag) : t__law_made K = tRet (tLst (rowsT K kA)) := rfl
theorem more_eq (K : PySem.W.Frag) : t__law_more K = tRet (tLst (rowsT K kB)) := rfl
def Row (K : PySem.W.Frag) (H : Hp) (x y : V) (p : Str × List Str) (v : V) : Prop := ∃ t one two, v = .ref t ∧ H t = some (.tup [.str p.1, one, two]) ∧ Er H one (He.ga K p.1) (fv p.2 x y) ∧ Er H two (He.ga K p.1) (fv p.2 x y)
theorem Row.keep {K : PySem.W.Frag} {H H' : Hp} {x y v : V} {p : Str × List Str} (h : Row K H x y p v) (k : Kp [] H H') : Row K H' x y p v := by
  obtain ⟨t, o, w, e, h1, h2, h3⟩ := h
  exact ⟨t, o, w, e, k _ _ (fun z => nomatch z) h1, h2.keep k, h3.keep k⟩
abbrev Rows (K : PySem.W.Frag) (H : Hp) (x y : V) : List (Str × List Str) → List V → Prop := Paired (Row K H x y)
theorem Rows.keep {K : PySem.W.Frag} {H H' : Hp} {x y : V} (k : Kp [] H H') : ∀ {ps : List (Str × List Str)} {vs : List V}, Rows K H x y ps vs → Rows K H' x y ps vs
  | _, _, .nil => .nil
  | _, _, .cons h t => .cons (h.keep k) (Rows.keep k t)
theorem row_ok {K : PySem.W.Frag} {x y : V} {H : Hp} {Q : VK} {p : Str × List Str} (KO : KindsOk K) (hp : p ∈ kinds) (q : ∀ v H', Kp [] H H' → Row K H' x y p v → Q v H') : rowT K p [some x, some y] H Q := by
  have T := KO.ex p hp
  have hn := KO.no p hp
  have hs := kinds_shp p hp
  obtain ⟨nm, fs⟩ := p
  match fs, hs with
  | [f], _ =>
    refine ttup (tcons_c (tcons (mkx_ok (fs := [f]) (vs := [x]) (fun R h => ⟨x, rfl, h⟩) T hn rfl (by show 1 ≤ 1000; decide) fun v1 H1 k1 e1 => tcons (mkk_ok (fs := [f]) (vs := [x]) (zs := [x]) (n := 1) (perm := [0]) (fun R h => ⟨x, rfl, h⟩) T hn rfl rfl (by decide) rfl fun v2 H2 k2 e2 => ?_))))
    refine ⟨by show 3 ≤ sizeLine; decide, fun t ht => ?_⟩
    exact q _ _ ((k1.trans k2).trans (Kp.new ht)) ⟨t, v1, v2, rfl, upd_same, e1.keep (k2.trans (Kp.new ht)), e2.keep (Kp.new ht)⟩
  | [f, g], _ =>
    refine ttup (tcons_c (tcons (mkx_ok (fs := [f, g]) (vs := [x, y]) (fun R h => ⟨x, rfl, y, rfl, h⟩) T hn rfl (by show 2 ≤ 1000; decide) fun v1 H1 k1 e1 => tcons (mkk_ok (fs := [f, g]) (vs := [x, y]) (zs := [y, x]) (n := 2) (perm := [1, 0]) (fun R h => ⟨y, rfl, x, rfl, h⟩) T hn rfl rfl (by decide) rfl fun v2 H2 k2 e2 => ?_))))
    refine ⟨by show 3 ≤ sizeLine; decide, fun t ht => ?_⟩
    exact q _ _ ((k1.trans k2).trans (Kp.new ht)) ⟨t, v1, v2, rfl, upd_same, e1.keep (k2.trans (Kp.new ht)), e2.keep (Kp.new ht)⟩
theorem rows_ok {K : PySem.W.Frag} {x y : V} (KO : KindsOk K) : ∀ {ps : List (Str × List Str)} {H : Hp} {Q : List V → Hp → Prop}, (∀ p ∈ ps, p ∈ kinds) → (∀ vs H', Kp [] H H' → Rows K H' x y ps vs → Q vs H') → rowsT K ps [some x, some y] H Q
  | [], H, Q, _, q => q [] H Kp.refl .nil
  | p :: ps, H, Q, hp, q => row_ok KO (hp p List.mem_cons_self) fun v H1 k1 h1 => rows_ok KO (ps := ps) (fun z hz => hp z (List.mem_cons_of_mem _ hz)) fun vs H2 k2 h2 => q (v :: vs) H2 (k1.trans k2) (.cons (h1.keep k2) h2)
def spMade (K : PySem.W.Frag) (ps : List (Str × List Str)) : Sp := fun vs H Q _ => ∃ x y, vs = [x, y] ∧ ∀ r H' ts, Kp [] H H' → H' r = some (.lst ts) → Rows K H' x y ps ts → Q (.ref r) H'
theorem pure_made {K : PySem.W.Frag} (KO : KindsOk K) (vs : List V) (H : Hp) (Q : VK) (E : XK) (h : spMade K kA vs H Q E) : t__law_made K { nx := fun _ H' => Q .non H', rt := Q } (start ["_law_a", "_law_b"] vs) H := by
  obtain ⟨x, y, rfl, q⟩ := h
  rw [made_eq]
  refine rows_ok KO (fun p hp => List.mem_append_left _ hp) fun ts H1 k1 h1 => ⟨?_, fun r hr => q r _ ts (k1.trans (Kp.new hr)) upd_same (h1.keep (Kp.new hr))⟩
  rw [← Paired.length h1]
  show 14 ≤ sizeLine
  decide
theorem pure_more {K : PySem.W.Frag} (KO : KindsOk K) (vs : List V) (H : Hp) (Q : VK) (E : XK) (h : spMade K kB vs H Q E) : t__law_more K { nx := fun _ H' => Q .non H', rt := Q } (start ["_law_a", "_law_b"] vs) H := by
  obtain ⟨x, y, rfl, q⟩ := h
  rw [more_eq]
  refine rows_ok KO (fun p hp => List.mem_append_right _ hp) fun ts H1 k1 h1 => ⟨?_, fun r hr => q r _ ts (k1.trans (Kp.new hr)) upd_same (h1.keep (Kp.new hr))⟩
  rw [← Paired.length h1]
  show 14 ≤ sizeLine
  decide
/-! ### the fields -/
def strsT : List Str → TA
  | [] => tNil
  | n :: r => tCons (tC (.str n)) (strsT r)
def fldsT (K : PySem.W.Frag) : List Str → TA
  | [] => tNil
  | f :: r => tCons (tFld K f (tVar 1)) (fldsT K r)
def chainT (K : PySem.W.Frag) : List (List Str × List Str) → TS
  | [] => tRet (tLst tNil)
  | p :: r => tSeq (tIfS (tTest (tOp (rIn K false) (tVar 0) (tTup (strsT p.1)))) (tRet (tLst (fldsT K p.2))) tNext) (chainT K r)
theorem fields_eq (K : PySem.W.Frag) : t__law_fields K = chainT K ftab := rfl
def lookT : List (List Str × List Str) → Str → Option (List Str)
  | [], _ => none
  | p :: r, nm => if inV (.str nm) (p.1.map V.str) = true then some p.2 else lookT r nm
theorem kinds_look : ∀ p ∈ kinds, lookT ftab p.1 = some p.2 := by decide +kernel
theorem ftab_few : ∀ p ∈ ftab, p.1.length ≤ 5 := by decide
theorem strsT_ok {σ : L2.St} {H : Hp} : ∀ {ns : List Str} {Q : List V → Hp → Prop}, Q (ns.map V.str) H → strsT ns σ H Q
  | [], _, h => h
  | n :: r, Q, h => strsT_ok (ns := r) (Q := fun xs H2 => Q (.str n :: xs) H2) h
theorem flat_strs : ∀ ns : List Str, (ns.map V.str).all flatV = true
  | [] => rfl
  | n :: r => by
    rw [List.map_cons, List.all_cons, flat_strs r]
    rfl
theorem flds_ok {K : PySem.W.Frag} {p : Str × List Str} {e x y : V} {σ0 : Option V} {H : Hp} {Q : List V → Hp → Prop} (KO : KindsOk K) (hp : p ∈ kinds) (he : Er H e (He.ga K p.1) (fv p.2 x y)) (q : Q ((p.2.zip [x, y]).map (·.2)) H) : fldsT K p.2 [σ0, some e] H Q := by
  have T := KO.ex p hp
  have hn := KO.no p hp
  have hs := kinds_shp p hp
  obtain ⟨nm, fs⟩ := p
  obtain ⟨a, d, rfl, h1, h2⟩ := he
  match fs, hs with
  | [f], _ =>
    exact ⟨_, rfl, a, _, d, _, x, rfl, h1, h2, T.xf, hn f (by simp), by simp [fv], q⟩
  | [f, g], hs =>
    have ne : f ≠ g := of_decide_eq_true hs
    have ne' : (f == g) = false := by simpa using ne
    exact ⟨_, rfl, a, _, d, _, x, rfl, h1, h2, T.xf, hn f (by simp), by simp [fv, List.lookup, ne'], _, rfl, a, _, d, _, y, rfl, h1, h2, T.xf, hn g (by simp), by simp [fv], q⟩
def spFields (K : PySem.W.Frag) : Sp := fun vs H Q _ => ∃ (p : Str × List Str) (e x y : V), vs = [.str p.1, e] ∧ p ∈ kinds ∧ Er H e (He.ga K p.1) (fv p.2 x y) ∧ ∀ r H', Kp [] H H' → H' r = some (.lst ((p.2.zip [x, y]).map (·.2))) → Q (.ref r) H'
theorem chain_ok {K : PySem.W.Frag} {p : Str × List Str} {e x y : V} {D : Ends} (KO : KindsOk K) (hp : p ∈ kinds) : ∀ {tab : List (List Str × List Str)} {H : Hp}, (∀ z ∈ tab, z.1.length ≤ 5) → lookT tab p.1 = some p.2 → Er H e (He.ga K p.1) (fv p.2 x y) →
    (∀ r H', Kp [] H H' → H' r = some (.lst ((p.2.zip [x, y]).map (·.2))) → D.rt (.ref r) H') → chainT K tab D [some (.str p.1), some e] H
  | [], H, _, h, _, _ => by cases h
  | z :: r, H, h5, h, he, q => by
    have l5 := h5 z List.mem_cons_self
    refine ⟨_, rfl, strsT_ok ⟨by rw [List.length_map]; exact sz (by omega), fun t ht => ?_⟩⟩
    refine ⟨t, _, rfl, .inr (SqT.of upd_same), rfl, flat_strs _, _, rfl, ?_⟩
    have k1 : Kp [] H (upd H t (.tup (z.1.map V.str))) := Kp.new ht
    have he' := he.keep k1
    generalize upd H t (.tup (z.1.map V.str)) = H1 at k1 he'
    unfold lookT at h
    refine ite2 (fun c => ?_) (fun c => ?_)
    · have c' : inV (.str p.1) (z.1.map V.str) = true := c
      rw [if_pos c'] at h
      have ez : z.2 = p.2 := Option.some.inj h
      show tRet (tLst (fldsT K z.2)) _ _ _
      rw [ez]
      refine flds_ok KO hp he' ⟨?_, fun r' hr' => q r' _ (k1.trans (Kp.new hr')) upd_same⟩
      rw [List.length_map, List.length_zip]
      exact sz (Nat.le_trans (Nat.min_le_right _ _) (by show 2 ≤ 100000; decide))
    · have c' : ¬ inV (.str p.1) (z.1.map V.str) = true := c
      rw [if_neg c'] at h
      exact chain_ok KO hp (fun w hw => h5 w (List.mem_cons_of_mem _ hw)) h he' fun r' H' k' e' => q r' H' (k1.trans k') e'
theorem pure_fields {K : PySem.W.Frag} (KO : KindsOk K) (vs : List V) (H : Hp) (Q : VK) (E : XK) (h : spFields K vs H Q E) : t__law_fields K { nx := fun _ H' => Q .non H', rt := Q } (start ["_law_name", "_law_e"] vs) H := by
  obtain ⟨p, e, x, y, rfl, hp, he, q⟩ := h
  rw [fields_eq]
  exact chain_ok KO hp ftab_few (kinds_look p hp) he q
/-! ### the kinds -/
def isT (K : PySem.W.Frag) : List Str → TA
  | [] => tNil
  | n :: r => tCons (tTup (tCons (tC (.str n)) (tCons (tCB (rIsX K) (tCons (tVar 0) (tCons (tC (.ref (He.ga K n))) tNil))) tNil))) (isT K r)
def kindT (K : PySem.W.Frag) (ns : List Str) : TS := tSeq (tAsg (tLst (isT K ns)) (gName 1)) (tRet (tLc (iList K (tVar 1)) (gTup K 2 (gCons (gName 2) (gCons (gName 3) gNil))) (tB (tVar 3)) (tVar 2) [2, 3]))
theorem kinds_eq (K : PySem.W.Frag) : t__law_kinds K = kindT K (kA.map (·.1)) := rfl
theorem others_eq (K : PySem.W.Frag) : t__law_others K = kindT K (kB.map (·.1)) := rfl
def Fit (H : Hp) (nm : Str) (n : Str) (v : V) : Prop := ∃ t, v = .ref t ∧ H t = some (.tup [.str n, .bl (decide (nm = n))])
theorem Fits.keep {H H' : Hp} {nm : Str} (k : Kp [] H H') : ∀ {ns : List Str} {vs : List V}, Paired (Fit H nm) ns vs → Paired (Fit H' nm) ns vs
  | _, _, .nil => .nil
  | _, _, .cons h t => .cons (by
      obtain ⟨a, e, z⟩ := h
      exact ⟨a, e, k _ _ (fun z => nomatch z) z⟩) (Fits.keep k t)
theorem is_ok {K : PySem.W.Frag} {p : Str × List Str} {e : V} {fs : List (Str × V)} {σ : L2.St} (KO : KindsOk K) (hp : p ∈ kinds) (hv : σ[0]? = some (some e)) : ∀ {ns : List Str} {H : Hp} {Q : List V → Hp → Prop}, (∀ n ∈ ns, ∃ q ∈ kinds, q.1 = n) → Er H e (He.ga K p.1) fs →
    (∀ vs H', Kp [] H H' → Paired (Fit H' p.1) ns vs → Q vs H') → isT K ns σ H Q
  | [], H, Q, _, _, q => q [] H Kp.refl .nil
  | n :: r, H, Q, hk, he, q => by
    obtain ⟨z, hz, rfl⟩ := hk n List.mem_cons_self
    obtain ⟨a, d, rfl, h1, h2⟩ := id he
    refine ⟨_, hv, a, _, some d, fs, _, _, _, rfl, h1, ?_, (KO.ex p hp).isc, .own _, KO.is p hp z hz, ?_⟩
    · intro y ey
      cases ey
      exact h2
    · refine ⟨by show 2 ≤ sizeLine; decide, fun t ht => ?_⟩
      have k1 : Kp [] H (upd H t (.tup [.str z.1, .bl (decide (p.1 = z.1))])) := Kp.new ht
      have f1 : Fit (upd H t (.tup [.str z.1, .bl (decide (p.1 = z.1))])) p.1 z.1 (.ref t) := ⟨t, rfl, upd_same⟩
      have he' := he.keep k1
      generalize upd H t (.tup [.str z.1, .bl (decide (p.1 = z.1))]) = H1 at k1 f1 he'
      refine is_ok KO hp hv (ns := r) (fun m hm => hk m (List.mem_cons_of_mem _ hm)) he' fun vs H2 k2 fs2 => q _ H2 (k1.trans k2) (.cons ?_ fs2)
      obtain ⟨t', e', w⟩ := f1
      exact ⟨t', e', k2 _ _ (fun z => nomatch z) w⟩
def spKinds (K : PySem.W.Frag) (ns : List Str) : Sp := fun vs H Q _ => ∃ (p : Str × List Str) (e : V) (fs : List (Str × V)), vs = [e] ∧ p ∈ kinds ∧ Er H e (He.ga K p.1) fs ∧ ∀ r H', Kp [] H H' → H' r = some (.lst ((ns.filter fun n => decide (p.1 = n)).map V.str)) → Q (.ref r) H'
theorem fit_get {H : Hp} {nm : Str} : ∀ {ns : List Str} {vs : List V} {i : Nat} {v : V}, Paired (Fit H nm) ns vs → vs[i]? = some v → ∃ n, ns[i]? = some n ∧ Fit H nm n v
  | _, _, _, _, .nil, h => by cases h
  | _, _, 0, _, .cons f _, h => by
    have e := Option.some.inj h
    subst e
    exact ⟨_, rfl, f⟩
  | _, _, i + 1, _, .cons _ t, h => fit_get (i := i) t h
theorem pure_kind {K : PySem.W.Frag} {ns : List Str} (KO : KindsOk K) (hk : ∀ n ∈ ns, ∃ q ∈ kinds, q.1 = n) (hl : ns.length ≤ 1000) (vs : List V) (H : Hp) (Q : VK) (E : XK) (h : spKinds K ns vs H Q E) :
    kindT K ns { nx := fun _ H' => Q .non H', rt := Q } (start ["_law_e", "_law_rows", "_law_name", "_law_fits"] vs) H := by
  obtain ⟨p, e, fs, rfl, hp, he, q⟩ := h
  refine tseq (tasg ?_)
  refine is_ok KO hp rfl hk he fun vs H1 k1 f1 => ?_
  have lv : ns.length = vs.length := Paired.length f1
  refine ⟨by rw [← lv]; exact sz (by omega), fun l hl' => ?_⟩
  have k2 : Kp [] H1 (upd H1 l (.lst vs)) := Kp.new hl'
  have f2 := Fits.keep k2 f1
  have e2 : upd H1 l (.lst vs) l = some (.lst vs) := upd_same
  generalize upd H1 l (.lst vs) = H2 at k2 f2 e2
  refine st_g ?_
  refine ⟨_, rfl, l, rfl, ⟨vs, SqL.of e2⟩, fun D hD => ?_⟩
  refine lc_list (K := K) (a := l) (xs := vs) (fun i H' => Kp [] H2 H' ∧ H' D = some (.lst (((ns.take i).filter fun n => decide (p.1 = n)).map V.str))) ⟨Kp.new hD, upd_same⟩ (fun i H' _ z => SqL.of (z.1 _ _ (fun z => nomatch z) e2)) ?_ ?_
  · rintro i v H3 hv ⟨k3, hd⟩
    obtain ⟨n, hn, t, rfl, ht⟩ := fit_get f2 hv
    have ht3 := k3 _ _ (fun z => nomatch z) ht
    refine ⟨t, _, rfl, SqT.of ht3, rfl, _, _, rfl, _, _, rfl, rfl, rfl, ?_⟩
    have tk : ns.take (i + 1) = ns.take i ++ [n] := by
      rw [List.take_succ, hn]
      rfl
    refine ⟨_, rfl, _, rfl, ?_⟩
    refine ite2 (fun c => ?_) (fun c => ?_)
    · refine ⟨_, rfl, _, hd, ?_, ?_, ?_⟩
      · rw [List.length_map]
        have := List.length_filter_le (fun n => decide (p.1 = n)) (ns.take i)
        have := List.length_take_le' i ns
        exact szl (by omega)
      · exact Kp.drop (k3.any.trans (Kp.mut (List.mem_singleton.mpr rfl))) hD
      · rw [upd_same, tk, List.filter_append, List.map_append]
        have c' : decide (p.1 = n) = true := c
        rw [List.filter_cons_of_pos (by exact c')]
        rfl
    · refine ⟨k3, ?_⟩
      have c' : ¬ decide (p.1 = n) = true := c
      rw [hd, tk, List.filter_append, List.filter_cons_of_neg (by exact c')]
      simp
  · rintro H3 ⟨k3, hd⟩
    rw [← lv, List.take_length] at hd
    exact q D H3 ((k1.trans k2).trans k3) hd
theorem kA_in : ∀ n ∈ kA.map (·.1), ∃ q ∈ kinds, q.1 = n := fun n hn => by
  obtain ⟨q, hq, e⟩ := List.mem_map.mp hn
  exact ⟨q, List.mem_append_left _ hq, e⟩
theorem kB_in : ∀ n ∈ kB.map (·.1), ∃ q ∈ kinds, q.1 = n := fun n hn => by
  obtain ⟨q, hq, e⟩ := List.mem_map.mp hn
  exact ⟨q, List.mem_append_right _ hq, e⟩
theorem pure_kinds {K : PySem.W.Frag} (KO : KindsOk K) (vs : List V) (H : Hp) (Q : VK) (E : XK) (h : spKinds K (kA.map (·.1)) vs H Q E) : t__law_kinds K { nx := fun _ H' => Q .non H', rt := Q } (start ["_law_e", "_law_rows", "_law_name", "_law_fits"] vs) H := by
  rw [kinds_eq]
  exact pure_kind KO kA_in (by decide) vs H Q E h
theorem pure_others {K : PySem.W.Frag} (KO : KindsOk K) (vs : List V) (H : Hp) (Q : VK) (E : XK) (h : spKinds K (kB.map (·.1)) vs H Q E) : t__law_others K { nx := fun _ H' => Q .non H', rt := Q } (start ["_law_e", "_law_rows", "_law_name", "_law_fits"] vs) H := by
  rw [others_eq]
  exact pure_kind KO kB_in (by decide) vs H Q E h
end FL

/-! ## k01: the law -/
namespace FL
open PySem L2
def t_law (K : PySem.W.Frag) (s__law_source : Sp) (s__law_thing : Sp) (s__law_made : Sp) (s__law_more : Sp) (s__law_kinds : Sp) (s__law_others : Sp) (s__law_same : Sp) (s__law_fields : Sp) : TS := (tSeq (tAsg (tCall s__law_source [] E0 (tCons (tVar 0) (tCons (tC (.int 0)) tNil))) (gName 1))
  (tSeq (tPar 2 3 (tCons (tCall s__law_thing [] E0 (tCons (tVar 1) tNil)) (tCons (tCall s__law_thing [] E0 (tCons (tVar 1) tNil)) tNil)))
  (tSeq (tFor (iList K (tOp (rCat) (tCall s__law_made [] E0 (tCons (tVar 2) (tCons (tVar 3) tNil))) (tCall s__law_more [] E0 (tCons (tVar 2) (tCons (tVar 3) tNil))))) (gTup K 3 (gCons (gName 4) (gCons (gName 5) (gCons (gName 6) gNil))))
  (tFor (iTup K (tTup (tCons (tVar 5) (tCons (tVar 6) tNil)))) (gName 7)
  (tSeq (tIfS (tOr (tNot (tB (tCB (FL.rIsX K) (tCons (tVar 7) (tCons (tC (.ref (He.ga K "LooksError"))) tNil))))) (tNot (tB (tCB (FL.rIsX K) (tCons (tVar 7) (tCons (tC (.ty "ValueError")) tNil)))))) (tRet (tC (.bl false))) tNext)
  (tSeq (tIfS (tTest (tOp (rNeD K) (tOp (rCat) (tCall s__law_kinds [] E0 (tCons (tVar 7) tNil)) (tCall s__law_others [] E0 (tCons (tVar 7) tNil))) (tLst (tCons (tVar 4) tNil)))) (tRet (tC (.bl false))) tNext)
  (tIfS (tNot (tB (tCall s__law_same [] E0 (tCons (tCall s__law_fields [] E0 (tCons (tVar 4) (tCons (tVar 7) tNil))) (tCons (tSl (rSlL K) (tLst (tCons (tVar 2) (tCons (tVar 3) tNil))) tNoPart (tPart (tCB (rLen K) (tCons (tCall s__law_fields [] E0 (tCons (tVar 4) (tCons (tVar 7) tNil))) tNil)))) tNil))))) (tRet (tC (.bl false))) tNext)))))
  (tRet (tC (.bl true))))))
def spLaw (K : PySem.W.Frag) : Sp := fun vs H Q _ => ∃ (a : Addr) (ns : List Int), vs = [.ref a] ∧ SqL K H a (ns.map V.int) ∧ ns.length ≤ 63 ∧ ∀ H', Q (.bl true) H'
abbrev nA : List Str := kA.map (·.1)
abbrev nB : List Str := kB.map (·.1)
theorem kinds_one : ∀ p ∈ kinds, (nA.filter fun n => decide (p.1 = n)) ++ (nB.filter fun n => decide (p.1 = n)) = [p.1] := by decide +kernel
theorem kinds_eqv : ∀ p ∈ kinds, PyData.eqv (.list [.str p.1]) (.list [.str p.1]) = true := by decide +kernel
theorem kinds_shaped : ∀ p ∈ kinds, SeqAt.shaped (.list [.str p.1]) = true := by decide +kernel
theorem seq_next {u : TS} {D : Ends} {σ : L2.St} {H : Hp} (h : u D σ H) : tNext { D with nx := u D } σ H := h
theorem rows_app {α β : Type} {F : α → β → Prop} : ∀ {xs zs : List α} {ys ws : List β}, Paired F xs ys → Paired F zs ws → Paired F (xs ++ zs) (ys ++ ws)
  | _, _, _, _, .nil, t => t
  | _, _, _, _, .cons h t, u => .cons h (rows_app t u)
theorem filt_len {ns : List Str} {nm : Str} (h : ns.length ≤ 1000) : ((ns.filter fun n => decide (nm = n)).map V.str).length ≤ 1000 := by
  rw [List.length_map]
  exact Nat.le_trans (List.length_filter_le _ _) h
abbrev turnT (K : PySem.W.Frag) : TS := (tSeq (tIfS (tOr (tNot (tB (tCB (FL.rIsX K) (tCons (tVar 7) (tCons (tC (.ref (He.ga K "LooksError"))) tNil))))) (tNot (tB (tCB (FL.rIsX K) (tCons (tVar 7) (tCons (tC (.ty "ValueError")) tNil)))))) (tRet (tC (.bl false))) tNext)
  (tSeq (tIfS (tTest (tOp (rNeD K) (tOp rCat (tCall (spKinds K nA) [] E0 (tCons (tVar 7) tNil)) (tCall (spKinds K nB) [] E0 (tCons (tVar 7) tNil))) (tLst (tCons (tVar 4) tNil)))) (tRet (tC (.bl false))) tNext)
  (tIfS (tNot (tB (tCall (spSameD 7) [] E0 (tCons (tCall (spFields K) [] E0 (tCons (tVar 4) (tCons (tVar 7) tNil))) (tCons (tSl (rSlL K) (tLst (tCons (tVar 2) (tCons (tVar 3) tNil))) tNoPart (tPart (tCB (rLen K) (tCons (tCall (spFields K) [] E0 (tCons (tVar 4) (tCons (tVar 7) tNil))) tNil)))) tNil))))) (tRet (tC (.bl false))) tNext)))
theorem turn_ok {K : PySem.W.Frag} {p : Str × List Str} {e x y : V} {s0 s1 s5 s6 : Option V} {D : Ends} {H : Hp} (KO : KindsOk K) (hp : p ∈ kinds) (he : Er H e (He.ga K p.1) (fv p.2 x y)) (hx : Th [] H x) (hy : Th [] H y)
    (q : ∀ H', Kp [] H H' → D.nx [s0, s1, some x, some y, some (.str p.1), s5, s6, some e] H') : turnT K D [s0, s1, some x, some y, some (.str p.1), s5, s6, some e] H := by
  have T := KO.ex p hp
  obtain ⟨a, d, rfl, h1, h2⟩ := id he
  have hd : ∀ z, some d = some z → H z = some (exd z (fv p.2 x y)) := fun z ez => by
    cases ez
    exact h2
  refine tseq (tifs ?_)
  refine ⟨_, rfl, a, _, some d, _, _, _, _, rfl, h1, hd, T.isc, .own _, KO.lo p hp, true, rfl, iteF ?_⟩
  refine ⟨_, rfl, a, _, some d, _, _, _, _, rfl, h1, hd, T.isc, .ty _, KO.ve p hp, true, rfl, iteF ?_⟩
  -- the kinds
  refine seq_next (tseq (tifs ?_))
  refine ⟨_, rfl, p, _, _, rfl, hp, he, fun r1 H1 k1 e1 => ?_⟩
  refine ⟨_, rfl, p, _, _, rfl, hp, he.keep k1, fun r2 H2 k2 e2 => ?_⟩
  have e1' := k2 _ _ (fun z => nomatch z) e1
  refine ⟨r1, r2, _, _, rfl, rfl, e1', e2, ?_, fun r3 h3 => ?_⟩
  · have z1 := filt_len (ns := nA) (nm := p.1) (by decide)
    have z2 := filt_len (ns := nB) (nm := p.1) (by decide)
    exact sz (by omega)
  rw [← List.map_append, kinds_one p hp]
  have k3 : Kp [] H2 (upd H2 r3 (.lst ([p.1].map V.str))) := Kp.new h3
  have d3 : DX [] (upd H2 r3 (.lst ([p.1].map V.str))) (.ref r3) (.list [.str p.1]) := .lst (fun z => nomatch z) upd_same (.cons (.str _) .nil)
  generalize upd H2 r3 (.lst ([p.1].map V.str)) = H3 at k3 d3
  refine ⟨_, rfl, by show 1 ≤ sizeLine; decide, fun r4 h4 => ?_⟩
  have k4 : Kp [] H3 (upd H3 r4 (.lst [.str p.1])) := Kp.new h4
  have d4 : DX [] (upd H3 r4 (.lst [.str p.1])) (.ref r4) (.list [.str p.1]) := .lst (fun z => nomatch z) upd_same (.cons (.str _) .nil)
  generalize upd H3 r4 (.lst [.str p.1]) = H4 at k4 d4
  refine ⟨_, _, (d3.mono k4).dp, d4.dp, kinds_shaped p hp, kinds_shaped p hp, _, rfl, ?_⟩
  rw [kinds_eqv p hp]
  refine iteF ?_
  have kk : Kp [] H H4 := ((k1.trans k2).trans k3).trans k4
  have he4 := he.keep kk
  -- the fields
  refine seq_next (tifs (tnotb (tcall (tcons ?_))))
  refine ⟨_, rfl, _, rfl, p, _, x, y, rfl, hp, he4, fun r5 H5 k5 e5 => ?_⟩
  refine ⟨_, rfl, _, rfl, by show 2 ≤ sizeLine; decide, fun r6 h6 => ?_⟩
  have k6 : Kp [] H5 (upd H5 r6 (.lst [x, y])) := Kp.new h6
  have e6 : upd H5 r6 (.lst [x, y]) r6 = some (.lst [x, y]) := upd_same
  generalize upd H5 r6 (.lst [x, y]) = H6 at k6 e6
  refine ⟨_, rfl, _, rfl, p, _, x, y, rfl, hp, he4.keep (k5.trans k6), fun r7 H7 k7 e7 => ?_⟩
  refine ⟨_, _, rfl, .inl ⟨_, SqL.of e7, rfl⟩, _, rfl, r6, _, rfl, SqL.of (k7 _ _ (fun z => nomatch z) e6), fun r8 h8 => ?_⟩
  have ec : cutV [x, y] none (some (((p.2.zip [x, y]).map (·.2)).length : Int)) = (p.2.zip [x, y]).map (·.2) := by
    have hs := kinds_shp p hp
    obtain ⟨nm, fs⟩ := p
    match fs, hs with
    | [f], _ => rfl
    | [f, g], _ => rfl
  rw [ec]
  have k8 : Kp [] H7 (upd H7 r8 (.lst ((p.2.zip [x, y]).map (·.2)))) := Kp.new h8
  have e8 : upd H7 r8 (.lst ((p.2.zip [x, y]).map (·.2))) r8 = some (.lst ((p.2.zip [x, y]).map (·.2))) := upd_same
  generalize upd H7 r8 (.lst ((p.2.zip [x, y]).map (·.2))) = H8 at k8 e8
  have kl : Kp [] H4 H8 := ((k5.trans k6).trans k7).trans k8
  have e5' := ((k6.trans k7).trans k8) _ _ (fun z => nomatch z) e5
  refine ⟨_, _, rfl, .lst e5' e8 rfl ?_ fun i u v eu ev => ?_, fun H9 k9 => ⟨true, rfl, iteF (q _ ((kk.trans kl).trans k9))⟩⟩
  · rw [List.length_map, List.length_zip]
    exact Nat.le_trans (Nat.min_le_right _ _) (by show 2 ≤ 100000; decide)
  · have euv := eu.symm.trans ev
    cases euv
    have hm := List.mem_of_getElem? eu
    obtain ⟨w, hw, rfl⟩ := List.mem_map.mp hm
    have hw2 := (List.of_mem_zip hw).2
    rcases List.mem_cons.mp hw2 with z | z
    · rw [z]; exact hx _ (kk.trans kl)
    · rw [List.mem_singleton.mp z]; exact hy _ (kk.trans kl)
theorem pure_law {K : PySem.W.Frag} (KO : KindsOk K) (vs : List V) (H : Hp) (Q : VK) (E : XK) (h : spLaw K vs H Q E) :
    t_law K (spSource K) spThing (spMade K kA) (spMade K kB) (spKinds K nA) (spKinds K nB) (spSameD 7) (spFields K) { nx := fun _ H' => Q .non H', rt := Q } (start ["_law_script", "_law_draws", "_law_a", "_law_b", "_law_name", "_law_one", "_law_two", "_law_e"] vs) H := by
  obtain ⟨s, ns, rfl, hS, h63, q⟩ := h
  refine tseq (tasg (tcall ?_))
  refine ⟨_, rfl, s, ns, 0, rfl, hS, h63, by decide, by decide, fun a H1 ha k1 D1 => ?_⟩
  refine st_g (tseq ?_)
  refine ⟨_, rfl, a, 0, rfl, D1, by decide, fun x m1 H2 hm1 tx k2 D2 => ?_⟩
  refine ⟨_, rfl, a, 0 + m1, rfl, D2, by have : (2 : Nat) ^ 39 = 549755813888 := by decide
                                         omega, fun y m2 H3 hm2 ty k3 D3 => ?_⟩
  refine ⟨_, _, rfl, ?_⟩
  have tx3 : Th [] H3 x := fun H' k => tx H' (k3.trans k.any)
  have ty3 : Th [] H3 y := fun H' k => ty H' k.any
  refine tseq ?_
  refine ⟨_, rfl, _, rfl, x, y, rfl, fun r1 H4 ts1 k4 e4 rw1 => ?_⟩
  refine ⟨_, rfl, _, rfl, x, y, rfl, fun r2 H5 ts2 k5 e5 rw2 => ?_⟩
  have e4' := k5 _ _ (fun z => nomatch z) e4
  have l1 : kA.length = ts1.length := Paired.length rw1
  have l2 : kB.length = ts2.length := Paired.length rw2
  have l1' : ts1.length = 14 := l1.symm
  have l2' : ts2.length = 14 := l2.symm
  refine ⟨r1, r2, _, _, rfl, rfl, e4', e5, sz (by omega), fun r3 h3 => ?_⟩
  have k6 : Kp [] H5 (upd H5 r3 (.lst (ts1 ++ ts2))) := Kp.new h3
  have e6 : upd H5 r3 (.lst (ts1 ++ ts2)) r3 = some (.lst (ts1 ++ ts2)) := upd_same
  have rws : Rows K (upd H5 r3 (.lst (ts1 ++ ts2))) x y kinds (ts1 ++ ts2) := Rows.keep k6 (rows_app (Rows.keep k5 rw1) rw2)
  generalize upd H5 r3 (.lst (ts1 ++ ts2)) = H6 at k6 e6 rws
  have kk : Kp [] H3 H6 := (k4.trans k5).trans k6
  refine ⟨r3, rfl, ⟨_, SqL.of e6⟩, ?_⟩
  refine for_list (K := K) (xs := ts1 ++ ts2) (fun i σ H' => (∃ s4 s5 s6 s7, σ = [some (.ref s), some (.ref a), some x, some y, s4, s5, s6, s7]) ∧ Kp [] H6 H') ⟨⟨_, _, _, _, rfl⟩, Kp.refl⟩ (fun i σ H' _ z => SqL.of (z.2 _ _ (fun z => nomatch z) e6)) ?_ ?_
  · rintro i v σ H7 hv ⟨⟨s4, s5, s6, s7, rfl⟩, k7⟩
    obtain ⟨p, hpi, t, one, two, rfl, ht, o1, o2⟩ := L2.DX.pget rws hv
    have hp : p ∈ kinds := List.mem_of_getElem? hpi
    have ht7 := k7 _ _ (fun z => nomatch z) ht
    refine ⟨t, _, rfl, SqT.of ht7, rfl, _, _, rfl, _, _, rfl, _, _, rfl, rfl, ?_⟩
    refine ⟨_, rfl, _, rfl, by show 2 ≤ sizeLine; decide, fun u hu => ?_⟩
    have k8 : Kp [] H7 (upd H7 u (.tup [one, two])) := Kp.new hu
    have e8 : upd H7 u (.tup [one, two]) u = some (.tup [one, two]) := upd_same
    generalize upd H7 u (.tup [one, two]) = H8 at k8 e8
    refine ⟨u, rfl, ⟨_, SqT.of e8⟩, ?_⟩
    refine for_tup (K := K) (xs := [one, two]) (fun i σ H' => (∃ s7, σ = [some (.ref s), some (.ref a), some x, some y, some (.str p.1), some one, some two, s7]) ∧ Kp [] H8 H') ⟨⟨_, rfl⟩, Kp.refl⟩ (fun i σ H' _ z => SqT.of (z.2 _ _ (fun z => nomatch z) e8)) ?_ ?_
    · rintro j w σ H9 hw ⟨⟨s7, rfl⟩, k9⟩
      have ke : Kp [] H6 H9 := (k7.trans k8).trans k9
      have hx9 : Th [] H9 x := tx3.keep (kk.trans ke)
      have hy9 : Th [] H9 y := ty3.keep (kk.trans ke)
      have hw9 : Er H9 w (He.ga K p.1) (fv p.2 x y) := by
        rcases List.mem_cons.mp (List.mem_of_getElem? hw) with z | z
        · rw [z]; exact o1.keep ke
        · rw [List.mem_singleton.mp z]; exact o2.keep ke
      refine st_g ?_
      exact turn_ok KO hp hw9 hx9 hy9 fun H' k' => ⟨⟨_, rfl⟩, k9.trans k'⟩
    · rintro σ H9 ⟨⟨s7, rfl⟩, k9⟩
      exact ⟨⟨_, _, _, _, rfl⟩, (k7.trans k8).trans k9⟩
  · rintro σ H7 ⟨⟨s4, s5, s6, s7, rfl⟩, k7⟩
    exact q H7
end FL

namespace FL
open PySem PySem.Spec PyProof.Rows L2
def top (i : Nat) : Stmt := PySem.Challenge.pw_finitelooks_k01_errors_made.main.body.getD i (.Pass ⟨0, 0, 0, 0⟩)
structure Fx (K : PySem.W.Frag) (mg : Str → Option Value) (x : Str) (st : Stmt) : Prop where
  ex : ∃ (f : Addr) (fd : FuncData), FnP K x x st f fd ∧ mg x = some (.ref f)
theorem Fx.never {P : Program} {w : World} {K : PySem.W.Frag} {mg : Str → Option Value} {base : Heap} {x : Str} {st : Stmt} {sp : Sp} (F : Fx K mg x st) (ps : List Str) (b : ∀ f fd, FnP K x x st f fd → Binds K fd ps []) (no : ∀ vs H Q E, ¬ sp vs H Q E) : Cl P w K mg base 0 x sp := by
  obtain ⟨f, fd, F, hm⟩ := F.ex
  exact ⟨f, fd, ps, ⟨fun vs H Q E h => absurd h (no vs H Q E), fun A outer s H args us vs Q E _ _ _ _ h => absurd h (no vs H Q E)⟩, hm, F.kp, b f fd F⟩
section
variable {P : Program} {w : World} {K : PySem.W.Frag} {mg : Str → Option Value} {base : Heap}
abbrev s_BadSpace___init__ : Stmt := inClass (top 2) 0
theorem sc_BadSpace___init__ : FnScope ["self", "value"] ["self", "value"] (defScope s_BadSpace___init__) := ⟨rfl, rfl, rfl, by decide +kernel, rfl, by decide +kernel, by decide +kernel⟩
theorem fn_BadSpace___init__ {f : Addr} {fd : FuncData} (F : FnP K "__init__" "BadSpace.__init__" s_BadSpace___init__ f fd) : FnOk P w K mg base CX0 1 f fd ["self", "value"] (spIni K ["value"]) := by
  refine F.ok sc_BadSpace___init__ (fun vs H Q E h => by obtain ⟨_, _, _, rfl, hl, _⟩ := h; rw [List.length_cons, hl] <;> rfl) (fun cdv A outer s H vs Q E hr h => ⟨(tOst K "value" (tVar 0) (tVar 1)), PSs.nox ?_, pure_ini1 vs H Q E h⟩)
  exact (pss_one (ps_ost (pv 0) (pv 1)))
theorem mk_BadSpace (F : ∃ fd, FnP K "__init__" "BadSpace.__init__" s_BadSpace___init__ (He.fAd K ("BadSpace", some "__init__")) fd) (g : mg "BadSpace" = some (.ref (He.ga K "BadSpace"))) (X : Ex K (He.ga K "BadSpace")) (M : Meth K (He.ga K "BadSpace") "__init__" (He.ma K (He.ga K "BadSpace") "__init__")) : MkE P w K mg base 1 "BadSpace" (He.ga K "BadSpace") (spIni K ["value"]) 1 [0] ["value"] := by
  obtain ⟨fd, F⟩ := F
  exact ⟨X, g, _, fd, ["self", "value"], M.at_, beq_iff_eq.mp M.fn, fn_BadSpace___init__ F, F.bindsN fun _ _ _ _ _ _ us hl => match us, hl with | [_, _], _ => rfl, kwBind F fun _ _ _ _ _ _ v ws hl => match ws, hl with | [_], _ => rfl⟩
abbrev s_BadCount___init__ : Stmt := inClass (top 3) 0
theorem sc_BadCount___init__ : FnScope ["self", "earlier", "count"] ["self", "earlier", "count"] (defScope s_BadCount___init__) := ⟨rfl, rfl, rfl, by decide +kernel, rfl, by decide +kernel, by decide +kernel⟩
theorem fn_BadCount___init__ {f : Addr} {fd : FuncData} (F : FnP K "__init__" "BadCount.__init__" s_BadCount___init__ f fd) : FnOk P w K mg base CX0 1 f fd ["self", "earlier", "count"] (spIni K ["earlier", "count"]) := by
  refine F.ok sc_BadCount___init__ (fun vs H Q E h => by obtain ⟨_, _, _, rfl, hl, _⟩ := h; rw [List.length_cons, hl] <;> rfl) (fun cdv A outer s H vs Q E hr h => ⟨(tSeq (tOst K "earlier" (tVar 0) (tVar 1))
  (tOst K "count" (tVar 0) (tVar 2))), PSs.nox ?_, pure_ini2 vs H Q E h⟩)
  exact (pss_cons (ps_ost (pv 0) (pv 1))
  (pss_one (ps_ost (pv 0) (pv 2))))
theorem mk_BadCount (F : ∃ fd, FnP K "__init__" "BadCount.__init__" s_BadCount___init__ (He.fAd K ("BadCount", some "__init__")) fd) (g : mg "BadCount" = some (.ref (He.ga K "BadCount"))) (X : Ex K (He.ga K "BadCount")) (M : Meth K (He.ga K "BadCount") "__init__" (He.ma K (He.ga K "BadCount") "__init__")) : MkE P w K mg base 1 "BadCount" (He.ga K "BadCount") (spIni K ["earlier", "count"]) 2 [1, 0] ["count", "earlier"] := by
  obtain ⟨fd, F⟩ := F
  exact ⟨X, g, _, fd, ["self", "earlier", "count"], M.at_, beq_iff_eq.mp M.fn, fn_BadCount___init__ F, F.bindsN fun _ _ _ _ _ _ us hl => match us, hl with | [_, _, _], _ => rfl, kwBind F fun _ _ _ _ _ _ v ws hl => match ws, hl with | [_, _], _ => rfl⟩
abbrev s_NoPlace___init__ : Stmt := inClass (top 4) 0
theorem sc_NoPlace___init__ : FnScope ["self", "place"] ["self", "place"] (defScope s_NoPlace___init__) := ⟨rfl, rfl, rfl, by decide +kernel, rfl, by decide +kernel, by decide +kernel⟩
theorem fn_NoPlace___init__ {f : Addr} {fd : FuncData} (F : FnP K "__init__" "NoPlace.__init__" s_NoPlace___init__ f fd) : FnOk P w K mg base CX0 1 f fd ["self", "place"] (spIni K ["place"]) := by
  refine F.ok sc_NoPlace___init__ (fun vs H Q E h => by obtain ⟨_, _, _, rfl, hl, _⟩ := h; rw [List.length_cons, hl] <;> rfl) (fun cdv A outer s H vs Q E hr h => ⟨(tOst K "place" (tVar 0) (tVar 1)), PSs.nox ?_, pure_ini1 vs H Q E h⟩)
  exact (pss_one (ps_ost (pv 0) (pv 1)))
theorem mk_NoPlace (F : ∃ fd, FnP K "__init__" "NoPlace.__init__" s_NoPlace___init__ (He.fAd K ("NoPlace", some "__init__")) fd) (g : mg "NoPlace" = some (.ref (He.ga K "NoPlace"))) (X : Ex K (He.ga K "NoPlace")) (M : Meth K (He.ga K "NoPlace") "__init__" (He.ma K (He.ga K "NoPlace") "__init__")) : MkE P w K mg base 1 "NoPlace" (He.ga K "NoPlace") (spIni K ["place"]) 1 [0] ["place"] := by
  obtain ⟨fd, F⟩ := F
  exact ⟨X, g, _, fd, ["self", "place"], M.at_, beq_iff_eq.mp M.fn, fn_NoPlace___init__ F, F.bindsN fun _ _ _ _ _ _ us hl => match us, hl with | [_, _], _ => rfl, kwBind F fun _ _ _ _ _ _ v ws hl => match ws, hl with | [_], _ => rfl⟩
abbrev s_BadFacts___init__ : Stmt := inClass (top 5) 0
theorem sc_BadFacts___init__ : FnScope ["self", "facts"] ["self", "facts"] (defScope s_BadFacts___init__) := ⟨rfl, rfl, rfl, by decide +kernel, rfl, by decide +kernel, by decide +kernel⟩
theorem fn_BadFacts___init__ {f : Addr} {fd : FuncData} (F : FnP K "__init__" "BadFacts.__init__" s_BadFacts___init__ f fd) : FnOk P w K mg base CX0 1 f fd ["self", "facts"] (spIni K ["facts"]) := by
  refine F.ok sc_BadFacts___init__ (fun vs H Q E h => by obtain ⟨_, _, _, rfl, hl, _⟩ := h; rw [List.length_cons, hl] <;> rfl) (fun cdv A outer s H vs Q E hr h => ⟨(tOst K "facts" (tVar 0) (tVar 1)), PSs.nox ?_, pure_ini1 vs H Q E h⟩)
  exact (pss_one (ps_ost (pv 0) (pv 1)))
theorem mk_BadFacts (F : ∃ fd, FnP K "__init__" "BadFacts.__init__" s_BadFacts___init__ (He.fAd K ("BadFacts", some "__init__")) fd) (g : mg "BadFacts" = some (.ref (He.ga K "BadFacts"))) (X : Ex K (He.ga K "BadFacts")) (M : Meth K (He.ga K "BadFacts") "__init__" (He.ma K (He.ga K "BadFacts") "__init__")) : MkE P w K mg base 1 "BadFacts" (He.ga K "BadFacts") (spIni K ["facts"]) 1 [0] ["facts"] := by
  obtain ⟨fd, F⟩ := F
  exact ⟨X, g, _, fd, ["self", "facts"], M.at_, beq_iff_eq.mp M.fn, fn_BadFacts___init__ F, F.bindsN fun _ _ _ _ _ _ us hl => match us, hl with | [_, _], _ => rfl, kwBind F fun _ _ _ _ _ _ v ws hl => match ws, hl with | [_], _ => rfl⟩
abbrev s_BadAnswer___init__ : Stmt := inClass (top 6) 0
theorem sc_BadAnswer___init__ : FnScope ["self", "place", "given"] ["self", "place", "given"] (defScope s_BadAnswer___init__) := ⟨rfl, rfl, rfl, by decide +kernel, rfl, by decide +kernel, by decide +kernel⟩
theorem fn_BadAnswer___init__ {f : Addr} {fd : FuncData} (F : FnP K "__init__" "BadAnswer.__init__" s_BadAnswer___init__ f fd) : FnOk P w K mg base CX0 1 f fd ["self", "place", "given"] (spIni K ["place", "given"]) := by
  refine F.ok sc_BadAnswer___init__ (fun vs H Q E h => by obtain ⟨_, _, _, rfl, hl, _⟩ := h; rw [List.length_cons, hl] <;> rfl) (fun cdv A outer s H vs Q E hr h => ⟨(tSeq (tOst K "place" (tVar 0) (tVar 1))
  (tOst K "given" (tVar 0) (tVar 2))), PSs.nox ?_, pure_ini2 vs H Q E h⟩)
  exact (pss_cons (ps_ost (pv 0) (pv 1))
  (pss_one (ps_ost (pv 0) (pv 2))))
theorem mk_BadAnswer (F : ∃ fd, FnP K "__init__" "BadAnswer.__init__" s_BadAnswer___init__ (He.fAd K ("BadAnswer", some "__init__")) fd) (g : mg "BadAnswer" = some (.ref (He.ga K "BadAnswer"))) (X : Ex K (He.ga K "BadAnswer")) (M : Meth K (He.ga K "BadAnswer") "__init__" (He.ma K (He.ga K "BadAnswer") "__init__")) : MkE P w K mg base 1 "BadAnswer" (He.ga K "BadAnswer") (spIni K ["place", "given"]) 2 [1, 0] ["given", "place"] := by
  obtain ⟨fd, F⟩ := F
  exact ⟨X, g, _, fd, ["self", "place", "given"], M.at_, beq_iff_eq.mp M.fn, fn_BadAnswer___init__ F, F.bindsN fun _ _ _ _ _ _ us hl => match us, hl with | [_, _, _], _ => rfl, kwBind F fun _ _ _ _ _ _ v ws hl => match ws, hl with | [_, _], _ => rfl⟩
abbrev s_Stale___init__ : Stmt := inClass (top 7) 0
theorem sc_Stale___init__ : FnScope ["self", "place"] ["self", "place"] (defScope s_Stale___init__) := ⟨rfl, rfl, rfl, by decide +kernel, rfl, by decide +kernel, by decide +kernel⟩
theorem fn_Stale___init__ {f : Addr} {fd : FuncData} (F : FnP K "__init__" "Stale.__init__" s_Stale___init__ f fd) : FnOk P w K mg base CX0 1 f fd ["self", "place"] (spIni K ["place"]) := by
  refine F.ok sc_Stale___init__ (fun vs H Q E h => by obtain ⟨_, _, _, rfl, hl, _⟩ := h; rw [List.length_cons, hl] <;> rfl) (fun cdv A outer s H vs Q E hr h => ⟨(tOst K "place" (tVar 0) (tVar 1)), PSs.nox ?_, pure_ini1 vs H Q E h⟩)
  exact (pss_one (ps_ost (pv 0) (pv 1)))
theorem mk_Stale (F : ∃ fd, FnP K "__init__" "Stale.__init__" s_Stale___init__ (He.fAd K ("Stale", some "__init__")) fd) (g : mg "Stale" = some (.ref (He.ga K "Stale"))) (X : Ex K (He.ga K "Stale")) (M : Meth K (He.ga K "Stale") "__init__" (He.ma K (He.ga K "Stale") "__init__")) : MkE P w K mg base 1 "Stale" (He.ga K "Stale") (spIni K ["place"]) 1 [0] ["place"] := by
  obtain ⟨fd, F⟩ := F
  exact ⟨X, g, _, fd, ["self", "place"], M.at_, beq_iff_eq.mp M.fn, fn_Stale___init__ F, F.bindsN fun _ _ _ _ _ _ us hl => match us, hl with | [_, _], _ => rfl, kwBind F fun _ _ _ _ _ _ v ws hl => match ws, hl with | [_], _ => rfl⟩
abbrev s_BadLimit___init__ : Stmt := inClass (top 8) 0
theorem sc_BadLimit___init__ : FnScope ["self", "value"] ["self", "value"] (defScope s_BadLimit___init__) := ⟨rfl, rfl, rfl, by decide +kernel, rfl, by decide +kernel, by decide +kernel⟩
theorem fn_BadLimit___init__ {f : Addr} {fd : FuncData} (F : FnP K "__init__" "BadLimit.__init__" s_BadLimit___init__ f fd) : FnOk P w K mg base CX0 1 f fd ["self", "value"] (spIni K ["value"]) := by
  refine F.ok sc_BadLimit___init__ (fun vs H Q E h => by obtain ⟨_, _, _, rfl, hl, _⟩ := h; rw [List.length_cons, hl] <;> rfl) (fun cdv A outer s H vs Q E hr h => ⟨(tOst K "value" (tVar 0) (tVar 1)), PSs.nox ?_, pure_ini1 vs H Q E h⟩)
  exact (pss_one (ps_ost (pv 0) (pv 1)))
theorem mk_BadLimit (F : ∃ fd, FnP K "__init__" "BadLimit.__init__" s_BadLimit___init__ (He.fAd K ("BadLimit", some "__init__")) fd) (g : mg "BadLimit" = some (.ref (He.ga K "BadLimit"))) (X : Ex K (He.ga K "BadLimit")) (M : Meth K (He.ga K "BadLimit") "__init__" (He.ma K (He.ga K "BadLimit") "__init__")) : MkE P w K mg base 1 "BadLimit" (He.ga K "BadLimit") (spIni K ["value"]) 1 [0] ["value"] := by
  obtain ⟨fd, F⟩ := F
  exact ⟨X, g, _, fd, ["self", "value"], M.at_, beq_iff_eq.mp M.fn, fn_BadLimit___init__ F, F.bindsN fun _ _ _ _ _ _ us hl => match us, hl with | [_, _], _ => rfl, kwBind F fun _ _ _ _ _ _ v ws hl => match ws, hl with | [_], _ => rfl⟩
abbrev s_TooDeep___init__ : Stmt := inClass (top 9) 0
theorem sc_TooDeep___init__ : FnScope ["self", "path"] ["self", "path"] (defScope s_TooDeep___init__) := ⟨rfl, rfl, rfl, by decide +kernel, rfl, by decide +kernel, by decide +kernel⟩
theorem fn_TooDeep___init__ {f : Addr} {fd : FuncData} (F : FnP K "__init__" "TooDeep.__init__" s_TooDeep___init__ f fd) : FnOk P w K mg base CX0 1 f fd ["self", "path"] (spIni K ["path"]) := by
  refine F.ok sc_TooDeep___init__ (fun vs H Q E h => by obtain ⟨_, _, _, rfl, hl, _⟩ := h; rw [List.length_cons, hl] <;> rfl) (fun cdv A outer s H vs Q E hr h => ⟨(tOst K "path" (tVar 0) (tVar 1)), PSs.nox ?_, pure_ini1 vs H Q E h⟩)
  exact (pss_one (ps_ost (pv 0) (pv 1)))
theorem mk_TooDeep (F : ∃ fd, FnP K "__init__" "TooDeep.__init__" s_TooDeep___init__ (He.fAd K ("TooDeep", some "__init__")) fd) (g : mg "TooDeep" = some (.ref (He.ga K "TooDeep"))) (X : Ex K (He.ga K "TooDeep")) (M : Meth K (He.ga K "TooDeep") "__init__" (He.ma K (He.ga K "TooDeep") "__init__")) : MkE P w K mg base 1 "TooDeep" (He.ga K "TooDeep") (spIni K ["path"]) 1 [0] ["path"] := by
  obtain ⟨fd, F⟩ := F
  exact ⟨X, g, _, fd, ["self", "path"], M.at_, beq_iff_eq.mp M.fn, fn_TooDeep___init__ F, F.bindsN fun _ _ _ _ _ _ us hl => match us, hl with | [_, _], _ => rfl, kwBind F fun _ _ _ _ _ _ v ws hl => match ws, hl with | [_], _ => rfl⟩
abbrev s_TooMany___init__ : Stmt := inClass (top 10) 0
theorem sc_TooMany___init__ : FnScope ["self", "path"] ["self", "path"] (defScope s_TooMany___init__) := ⟨rfl, rfl, rfl, by decide +kernel, rfl, by decide +kernel, by decide +kernel⟩
theorem fn_TooMany___init__ {f : Addr} {fd : FuncData} (F : FnP K "__init__" "TooMany.__init__" s_TooMany___init__ f fd) : FnOk P w K mg base CX0 1 f fd ["self", "path"] (spIni K ["path"]) := by
  refine F.ok sc_TooMany___init__ (fun vs H Q E h => by obtain ⟨_, _, _, rfl, hl, _⟩ := h; rw [List.length_cons, hl] <;> rfl) (fun cdv A outer s H vs Q E hr h => ⟨(tOst K "path" (tVar 0) (tVar 1)), PSs.nox ?_, pure_ini1 vs H Q E h⟩)
  exact (pss_one (ps_ost (pv 0) (pv 1)))
theorem mk_TooMany (F : ∃ fd, FnP K "__init__" "TooMany.__init__" s_TooMany___init__ (He.fAd K ("TooMany", some "__init__")) fd) (g : mg "TooMany" = some (.ref (He.ga K "TooMany"))) (X : Ex K (He.ga K "TooMany")) (M : Meth K (He.ga K "TooMany") "__init__" (He.ma K (He.ga K "TooMany") "__init__")) : MkE P w K mg base 1 "TooMany" (He.ga K "TooMany") (spIni K ["path"]) 1 [0] ["path"] := by
  obtain ⟨fd, F⟩ := F
  exact ⟨X, g, _, fd, ["self", "path"], M.at_, beq_iff_eq.mp M.fn, fn_TooMany___init__ F, F.bindsN fun _ _ _ _ _ _ us hl => match us, hl with | [_, _], _ => rfl, kwBind F fun _ _ _ _ _ _ v ws hl => match ws, hl with | [_], _ => rfl⟩
abbrev s_Wavers___init__ : Stmt := inClass (top 11) 0
theorem sc_Wavers___init__ : FnScope ["self", "path"] ["self", "path"] (defScope s_Wavers___init__) := ⟨rfl, rfl, rfl, by decide +kernel, rfl, by decide +kernel, by decide +kernel⟩
theorem fn_Wavers___init__ {f : Addr} {fd : FuncData} (F : FnP K "__init__" "Wavers.__init__" s_Wavers___init__ f fd) : FnOk P w K mg base CX0 1 f fd ["self", "path"] (spIni K ["path"]) := by
  refine F.ok sc_Wavers___init__ (fun vs H Q E h => by obtain ⟨_, _, _, rfl, hl, _⟩ := h; rw [List.length_cons, hl] <;> rfl) (fun cdv A outer s H vs Q E hr h => ⟨(tOst K "path" (tVar 0) (tVar 1)), PSs.nox ?_, pure_ini1 vs H Q E h⟩)
  exact (pss_one (ps_ost (pv 0) (pv 1)))
theorem mk_Wavers (F : ∃ fd, FnP K "__init__" "Wavers.__init__" s_Wavers___init__ (He.fAd K ("Wavers", some "__init__")) fd) (g : mg "Wavers" = some (.ref (He.ga K "Wavers"))) (X : Ex K (He.ga K "Wavers")) (M : Meth K (He.ga K "Wavers") "__init__" (He.ma K (He.ga K "Wavers") "__init__")) : MkE P w K mg base 1 "Wavers" (He.ga K "Wavers") (spIni K ["path"]) 1 [0] ["path"] := by
  obtain ⟨fd, F⟩ := F
  exact ⟨X, g, _, fd, ["self", "path"], M.at_, beq_iff_eq.mp M.fn, fn_Wavers___init__ F, F.bindsN fun _ _ _ _ _ _ us hl => match us, hl with | [_, _], _ => rfl, kwBind F fun _ _ _ _ _ _ v ws hl => match ws, hl with | [_], _ => rfl⟩
abbrev s_NotTruth___init__ : Stmt := inClass (top 12) 0
theorem sc_NotTruth___init__ : FnScope ["self", "path"] ["self", "path"] (defScope s_NotTruth___init__) := ⟨rfl, rfl, rfl, by decide +kernel, rfl, by decide +kernel, by decide +kernel⟩
theorem fn_NotTruth___init__ {f : Addr} {fd : FuncData} (F : FnP K "__init__" "NotTruth.__init__" s_NotTruth___init__ f fd) : FnOk P w K mg base CX0 1 f fd ["self", "path"] (spIni K ["path"]) := by
  refine F.ok sc_NotTruth___init__ (fun vs H Q E h => by obtain ⟨_, _, _, rfl, hl, _⟩ := h; rw [List.length_cons, hl] <;> rfl) (fun cdv A outer s H vs Q E hr h => ⟨(tOst K "path" (tVar 0) (tVar 1)), PSs.nox ?_, pure_ini1 vs H Q E h⟩)
  exact (pss_one (ps_ost (pv 0) (pv 1)))
theorem mk_NotTruth (F : ∃ fd, FnP K "__init__" "NotTruth.__init__" s_NotTruth___init__ (He.fAd K ("NotTruth", some "__init__")) fd) (g : mg "NotTruth" = some (.ref (He.ga K "NotTruth"))) (X : Ex K (He.ga K "NotTruth")) (M : Meth K (He.ga K "NotTruth") "__init__" (He.ma K (He.ga K "NotTruth") "__init__")) : MkE P w K mg base 1 "NotTruth" (He.ga K "NotTruth") (spIni K ["path"]) 1 [0] ["path"] := by
  obtain ⟨fd, F⟩ := F
  exact ⟨X, g, _, fd, ["self", "path"], M.at_, beq_iff_eq.mp M.fn, fn_NotTruth___init__ F, F.bindsN fun _ _ _ _ _ _ us hl => match us, hl with | [_, _], _ => rfl, kwBind F fun _ _ _ _ _ _ v ws hl => match ws, hl with | [_], _ => rfl⟩
abbrev s_NotNumber___init__ : Stmt := inClass (top 13) 0
theorem sc_NotNumber___init__ : FnScope ["self", "path"] ["self", "path"] (defScope s_NotNumber___init__) := ⟨rfl, rfl, rfl, by decide +kernel, rfl, by decide +kernel, by decide +kernel⟩
theorem fn_NotNumber___init__ {f : Addr} {fd : FuncData} (F : FnP K "__init__" "NotNumber.__init__" s_NotNumber___init__ f fd) : FnOk P w K mg base CX0 1 f fd ["self", "path"] (spIni K ["path"]) := by
  refine F.ok sc_NotNumber___init__ (fun vs H Q E h => by obtain ⟨_, _, _, rfl, hl, _⟩ := h; rw [List.length_cons, hl] <;> rfl) (fun cdv A outer s H vs Q E hr h => ⟨(tOst K "path" (tVar 0) (tVar 1)), PSs.nox ?_, pure_ini1 vs H Q E h⟩)
  exact (pss_one (ps_ost (pv 0) (pv 1)))
theorem mk_NotNumber (F : ∃ fd, FnP K "__init__" "NotNumber.__init__" s_NotNumber___init__ (He.fAd K ("NotNumber", some "__init__")) fd) (g : mg "NotNumber" = some (.ref (He.ga K "NotNumber"))) (X : Ex K (He.ga K "NotNumber")) (M : Meth K (He.ga K "NotNumber") "__init__" (He.ma K (He.ga K "NotNumber") "__init__")) : MkE P w K mg base 1 "NotNumber" (He.ga K "NotNumber") (spIni K ["path"]) 1 [0] ["path"] := by
  obtain ⟨fd, F⟩ := F
  exact ⟨X, g, _, fd, ["self", "path"], M.at_, beq_iff_eq.mp M.fn, fn_NotNumber___init__ F, F.bindsN fun _ _ _ _ _ _ us hl => match us, hl with | [_, _], _ => rfl, kwBind F fun _ _ _ _ _ _ v ws hl => match ws, hl with | [_], _ => rfl⟩
abbrev s_Empty___init__ : Stmt := inClass (top 14) 0
theorem sc_Empty___init__ : FnScope ["self", "form"] ["self", "form"] (defScope s_Empty___init__) := ⟨rfl, rfl, rfl, by decide +kernel, rfl, by decide +kernel, by decide +kernel⟩
theorem fn_Empty___init__ {f : Addr} {fd : FuncData} (F : FnP K "__init__" "Empty.__init__" s_Empty___init__ f fd) : FnOk P w K mg base CX0 1 f fd ["self", "form"] (spIni K ["form"]) := by
  refine F.ok sc_Empty___init__ (fun vs H Q E h => by obtain ⟨_, _, _, rfl, hl, _⟩ := h; rw [List.length_cons, hl] <;> rfl) (fun cdv A outer s H vs Q E hr h => ⟨(tOst K "form" (tVar 0) (tVar 1)), PSs.nox ?_, pure_ini1 vs H Q E h⟩)
  exact (pss_one (ps_ost (pv 0) (pv 1)))
theorem mk_Empty (F : ∃ fd, FnP K "__init__" "Empty.__init__" s_Empty___init__ (He.fAd K ("Empty", some "__init__")) fd) (g : mg "Empty" = some (.ref (He.ga K "Empty"))) (X : Ex K (He.ga K "Empty")) (M : Meth K (He.ga K "Empty") "__init__" (He.ma K (He.ga K "Empty") "__init__")) : MkE P w K mg base 1 "Empty" (He.ga K "Empty") (spIni K ["form"]) 1 [0] ["form"] := by
  obtain ⟨fd, F⟩ := F
  exact ⟨X, g, _, fd, ["self", "form"], M.at_, beq_iff_eq.mp M.fn, fn_Empty___init__ F, F.bindsN fun _ _ _ _ _ _ us hl => match us, hl with | [_, _], _ => rfl, kwBind F fun _ _ _ _ _ _ v ws hl => match ws, hl with | [_], _ => rfl⟩
abbrev s_NoBranch___init__ : Stmt := inClass (top 15) 0
theorem sc_NoBranch___init__ : FnScope ["self", "place", "answer"] ["self", "place", "answer"] (defScope s_NoBranch___init__) := ⟨rfl, rfl, rfl, by decide +kernel, rfl, by decide +kernel, by decide +kernel⟩
theorem fn_NoBranch___init__ {f : Addr} {fd : FuncData} (F : FnP K "__init__" "NoBranch.__init__" s_NoBranch___init__ f fd) : FnOk P w K mg base CX0 1 f fd ["self", "place", "answer"] (spIni K ["place", "answer"]) := by
  refine F.ok sc_NoBranch___init__ (fun vs H Q E h => by obtain ⟨_, _, _, rfl, hl, _⟩ := h; rw [List.length_cons, hl] <;> rfl) (fun cdv A outer s H vs Q E hr h => ⟨(tSeq (tOst K "place" (tVar 0) (tVar 1))
  (tOst K "answer" (tVar 0) (tVar 2))), PSs.nox ?_, pure_ini2 vs H Q E h⟩)
  exact (pss_cons (ps_ost (pv 0) (pv 1))
  (pss_one (ps_ost (pv 0) (pv 2))))
theorem mk_NoBranch (F : ∃ fd, FnP K "__init__" "NoBranch.__init__" s_NoBranch___init__ (He.fAd K ("NoBranch", some "__init__")) fd) (g : mg "NoBranch" = some (.ref (He.ga K "NoBranch"))) (X : Ex K (He.ga K "NoBranch")) (M : Meth K (He.ga K "NoBranch") "__init__" (He.ma K (He.ga K "NoBranch") "__init__")) : MkE P w K mg base 1 "NoBranch" (He.ga K "NoBranch") (spIni K ["place", "answer"]) 2 [1, 0] ["answer", "place"] := by
  obtain ⟨fd, F⟩ := F
  exact ⟨X, g, _, fd, ["self", "place", "answer"], M.at_, beq_iff_eq.mp M.fn, fn_NoBranch___init__ F, F.bindsN fun _ _ _ _ _ _ us hl => match us, hl with | [_, _, _], _ => rfl, kwBind F fun _ _ _ _ _ _ v ws hl => match ws, hl with | [_, _], _ => rfl⟩
abbrev s_NotFree___init__ : Stmt := inClass (top 16) 0
theorem sc_NotFree___init__ : FnScope ["self", "form"] ["self", "form"] (defScope s_NotFree___init__) := ⟨rfl, rfl, rfl, by decide +kernel, rfl, by decide +kernel, by decide +kernel⟩
theorem fn_NotFree___init__ {f : Addr} {fd : FuncData} (F : FnP K "__init__" "NotFree.__init__" s_NotFree___init__ f fd) : FnOk P w K mg base CX0 1 f fd ["self", "form"] (spIni K ["form"]) := by
  refine F.ok sc_NotFree___init__ (fun vs H Q E h => by obtain ⟨_, _, _, rfl, hl, _⟩ := h; rw [List.length_cons, hl] <;> rfl) (fun cdv A outer s H vs Q E hr h => ⟨(tOst K "form" (tVar 0) (tVar 1)), PSs.nox ?_, pure_ini1 vs H Q E h⟩)
  exact (pss_one (ps_ost (pv 0) (pv 1)))
theorem mk_NotFree (F : ∃ fd, FnP K "__init__" "NotFree.__init__" s_NotFree___init__ (He.fAd K ("NotFree", some "__init__")) fd) (g : mg "NotFree" = some (.ref (He.ga K "NotFree"))) (X : Ex K (He.ga K "NotFree")) (M : Meth K (He.ga K "NotFree") "__init__" (He.ma K (He.ga K "NotFree") "__init__")) : MkE P w K mg base 1 "NotFree" (He.ga K "NotFree") (spIni K ["form"]) 1 [0] ["form"] := by
  obtain ⟨fd, F⟩ := F
  exact ⟨X, g, _, fd, ["self", "form"], M.at_, beq_iff_eq.mp M.fn, fn_NotFree___init__ F, F.bindsN fun _ _ _ _ _ _ us hl => match us, hl with | [_, _], _ => rfl, kwBind F fun _ _ _ _ _ _ v ws hl => match ws, hl with | [_], _ => rfl⟩
abbrev s_BadNumber___init__ : Stmt := inClass (top 17) 0
theorem sc_BadNumber___init__ : FnScope ["self", "number"] ["self", "number"] (defScope s_BadNumber___init__) := ⟨rfl, rfl, rfl, by decide +kernel, rfl, by decide +kernel, by decide +kernel⟩
theorem fn_BadNumber___init__ {f : Addr} {fd : FuncData} (F : FnP K "__init__" "BadNumber.__init__" s_BadNumber___init__ f fd) : FnOk P w K mg base CX0 1 f fd ["self", "number"] (spIni K ["number"]) := by
  refine F.ok sc_BadNumber___init__ (fun vs H Q E h => by obtain ⟨_, _, _, rfl, hl, _⟩ := h; rw [List.length_cons, hl] <;> rfl) (fun cdv A outer s H vs Q E hr h => ⟨(tOst K "number" (tVar 0) (tVar 1)), PSs.nox ?_, pure_ini1 vs H Q E h⟩)
  exact (pss_one (ps_ost (pv 0) (pv 1)))
theorem mk_BadNumber (F : ∃ fd, FnP K "__init__" "BadNumber.__init__" s_BadNumber___init__ (He.fAd K ("BadNumber", some "__init__")) fd) (g : mg "BadNumber" = some (.ref (He.ga K "BadNumber"))) (X : Ex K (He.ga K "BadNumber")) (M : Meth K (He.ga K "BadNumber") "__init__" (He.ma K (He.ga K "BadNumber") "__init__")) : MkE P w K mg base 1 "BadNumber" (He.ga K "BadNumber") (spIni K ["number"]) 1 [0] ["number"] := by
  obtain ⟨fd, F⟩ := F
  exact ⟨X, g, _, fd, ["self", "number"], M.at_, beq_iff_eq.mp M.fn, fn_BadNumber___init__ F, F.bindsN fun _ _ _ _ _ _ us hl => match us, hl with | [_, _], _ => rfl, kwBind F fun _ _ _ _ _ _ v ws hl => match ws, hl with | [_], _ => rfl⟩
abbrev s_BadPower___init__ : Stmt := inClass (top 18) 0
theorem sc_BadPower___init__ : FnScope ["self", "n"] ["self", "n"] (defScope s_BadPower___init__) := ⟨rfl, rfl, rfl, by decide +kernel, rfl, by decide +kernel, by decide +kernel⟩
theorem fn_BadPower___init__ {f : Addr} {fd : FuncData} (F : FnP K "__init__" "BadPower.__init__" s_BadPower___init__ f fd) : FnOk P w K mg base CX0 1 f fd ["self", "n"] (spIni K ["n"]) := by
  refine F.ok sc_BadPower___init__ (fun vs H Q E h => by obtain ⟨_, _, _, rfl, hl, _⟩ := h; rw [List.length_cons, hl] <;> rfl) (fun cdv A outer s H vs Q E hr h => ⟨(tOst K "n" (tVar 0) (tVar 1)), PSs.nox ?_, pure_ini1 vs H Q E h⟩)
  exact (pss_one (ps_ost (pv 0) (pv 1)))
theorem mk_BadPower (F : ∃ fd, FnP K "__init__" "BadPower.__init__" s_BadPower___init__ (He.fAd K ("BadPower", some "__init__")) fd) (g : mg "BadPower" = some (.ref (He.ga K "BadPower"))) (X : Ex K (He.ga K "BadPower")) (M : Meth K (He.ga K "BadPower") "__init__" (He.ma K (He.ga K "BadPower") "__init__")) : MkE P w K mg base 1 "BadPower" (He.ga K "BadPower") (spIni K ["n"]) 1 [0] ["n"] := by
  obtain ⟨fd, F⟩ := F
  exact ⟨X, g, _, fd, ["self", "n"], M.at_, beq_iff_eq.mp M.fn, fn_BadPower___init__ F, F.bindsN fun _ _ _ _ _ _ us hl => match us, hl with | [_, _], _ => rfl, kwBind F fun _ _ _ _ _ _ v ws hl => match ws, hl with | [_], _ => rfl⟩
abbrev s_TooWide___init__ : Stmt := inClass (top 19) 0
theorem sc_TooWide___init__ : FnScope ["self", "width"] ["self", "width"] (defScope s_TooWide___init__) := ⟨rfl, rfl, rfl, by decide +kernel, rfl, by decide +kernel, by decide +kernel⟩
theorem fn_TooWide___init__ {f : Addr} {fd : FuncData} (F : FnP K "__init__" "TooWide.__init__" s_TooWide___init__ f fd) : FnOk P w K mg base CX0 1 f fd ["self", "width"] (spIni K ["width"]) := by
  refine F.ok sc_TooWide___init__ (fun vs H Q E h => by obtain ⟨_, _, _, rfl, hl, _⟩ := h; rw [List.length_cons, hl] <;> rfl) (fun cdv A outer s H vs Q E hr h => ⟨(tOst K "width" (tVar 0) (tVar 1)), PSs.nox ?_, pure_ini1 vs H Q E h⟩)
  exact (pss_one (ps_ost (pv 0) (pv 1)))
theorem mk_TooWide (F : ∃ fd, FnP K "__init__" "TooWide.__init__" s_TooWide___init__ (He.fAd K ("TooWide", some "__init__")) fd) (g : mg "TooWide" = some (.ref (He.ga K "TooWide"))) (X : Ex K (He.ga K "TooWide")) (M : Meth K (He.ga K "TooWide") "__init__" (He.ma K (He.ga K "TooWide") "__init__")) : MkE P w K mg base 1 "TooWide" (He.ga K "TooWide") (spIni K ["width"]) 1 [0] ["width"] := by
  obtain ⟨fd, F⟩ := F
  exact ⟨X, g, _, fd, ["self", "width"], M.at_, beq_iff_eq.mp M.fn, fn_TooWide___init__ F, F.bindsN fun _ _ _ _ _ _ us hl => match us, hl with | [_, _], _ => rfl, kwBind F fun _ _ _ _ _ _ v ws hl => match ws, hl with | [_], _ => rfl⟩
abbrev s_TooGreat___init__ : Stmt := inClass (top 20) 0
theorem sc_TooGreat___init__ : FnScope ["self", "number"] ["self", "number"] (defScope s_TooGreat___init__) := ⟨rfl, rfl, rfl, by decide +kernel, rfl, by decide +kernel, by decide +kernel⟩
theorem fn_TooGreat___init__ {f : Addr} {fd : FuncData} (F : FnP K "__init__" "TooGreat.__init__" s_TooGreat___init__ f fd) : FnOk P w K mg base CX0 1 f fd ["self", "number"] (spIni K ["number"]) := by
  refine F.ok sc_TooGreat___init__ (fun vs H Q E h => by obtain ⟨_, _, _, rfl, hl, _⟩ := h; rw [List.length_cons, hl] <;> rfl) (fun cdv A outer s H vs Q E hr h => ⟨(tOst K "number" (tVar 0) (tVar 1)), PSs.nox ?_, pure_ini1 vs H Q E h⟩)
  exact (pss_one (ps_ost (pv 0) (pv 1)))
theorem mk_TooGreat (F : ∃ fd, FnP K "__init__" "TooGreat.__init__" s_TooGreat___init__ (He.fAd K ("TooGreat", some "__init__")) fd) (g : mg "TooGreat" = some (.ref (He.ga K "TooGreat"))) (X : Ex K (He.ga K "TooGreat")) (M : Meth K (He.ga K "TooGreat") "__init__" (He.ma K (He.ga K "TooGreat") "__init__")) : MkE P w K mg base 1 "TooGreat" (He.ga K "TooGreat") (spIni K ["number"]) 1 [0] ["number"] := by
  obtain ⟨fd, F⟩ := F
  exact ⟨X, g, _, fd, ["self", "number"], M.at_, beq_iff_eq.mp M.fn, fn_TooGreat___init__ F, F.bindsN fun _ _ _ _ _ _ us hl => match us, hl with | [_, _], _ => rfl, kwBind F fun _ _ _ _ _ _ v ws hl => match ws, hl with | [_], _ => rfl⟩
abbrev s_DividesByZero___init__ : Stmt := inClass (top 21) 0
theorem sc_DividesByZero___init__ : FnScope ["self", "facts"] ["self", "facts"] (defScope s_DividesByZero___init__) := ⟨rfl, rfl, rfl, by decide +kernel, rfl, by decide +kernel, by decide +kernel⟩
theorem fn_DividesByZero___init__ {f : Addr} {fd : FuncData} (F : FnP K "__init__" "DividesByZero.__init__" s_DividesByZero___init__ f fd) : FnOk P w K mg base CX0 1 f fd ["self", "facts"] (spIni K ["facts"]) := by
  refine F.ok sc_DividesByZero___init__ (fun vs H Q E h => by obtain ⟨_, _, _, rfl, hl, _⟩ := h; rw [List.length_cons, hl] <;> rfl) (fun cdv A outer s H vs Q E hr h => ⟨(tOst K "facts" (tVar 0) (tVar 1)), PSs.nox ?_, pure_ini1 vs H Q E h⟩)
  exact (pss_one (ps_ost (pv 0) (pv 1)))
theorem mk_DividesByZero (F : ∃ fd, FnP K "__init__" "DividesByZero.__init__" s_DividesByZero___init__ (He.fAd K ("DividesByZero", some "__init__")) fd) (g : mg "DividesByZero" = some (.ref (He.ga K "DividesByZero"))) (X : Ex K (He.ga K "DividesByZero")) (M : Meth K (He.ga K "DividesByZero") "__init__" (He.ma K (He.ga K "DividesByZero") "__init__")) : MkE P w K mg base 1 "DividesByZero" (He.ga K "DividesByZero") (spIni K ["facts"]) 1 [0] ["facts"] := by
  obtain ⟨fd, F⟩ := F
  exact ⟨X, g, _, fd, ["self", "facts"], M.at_, beq_iff_eq.mp M.fn, fn_DividesByZero___init__ F, F.bindsN fun _ _ _ _ _ _ us hl => match us, hl with | [_, _], _ => rfl, kwBind F fun _ _ _ _ _ _ v ws hl => match ws, hl with | [_], _ => rfl⟩
abbrev s_UnlikeSpaces___init__ : Stmt := inClass (top 22) 0
theorem sc_UnlikeSpaces___init__ : FnScope ["self", "form", "other"] ["self", "form", "other"] (defScope s_UnlikeSpaces___init__) := ⟨rfl, rfl, rfl, by decide +kernel, rfl, by decide +kernel, by decide +kernel⟩
theorem fn_UnlikeSpaces___init__ {f : Addr} {fd : FuncData} (F : FnP K "__init__" "UnlikeSpaces.__init__" s_UnlikeSpaces___init__ f fd) : FnOk P w K mg base CX0 1 f fd ["self", "form", "other"] (spIni K ["form", "other"]) := by
  refine F.ok sc_UnlikeSpaces___init__ (fun vs H Q E h => by obtain ⟨_, _, _, rfl, hl, _⟩ := h; rw [List.length_cons, hl] <;> rfl) (fun cdv A outer s H vs Q E hr h => ⟨(tSeq (tOst K "form" (tVar 0) (tVar 1))
  (tOst K "other" (tVar 0) (tVar 2))), PSs.nox ?_, pure_ini2 vs H Q E h⟩)
  exact (pss_cons (ps_ost (pv 0) (pv 1))
  (pss_one (ps_ost (pv 0) (pv 2))))
theorem mk_UnlikeSpaces (F : ∃ fd, FnP K "__init__" "UnlikeSpaces.__init__" s_UnlikeSpaces___init__ (He.fAd K ("UnlikeSpaces", some "__init__")) fd) (g : mg "UnlikeSpaces" = some (.ref (He.ga K "UnlikeSpaces"))) (X : Ex K (He.ga K "UnlikeSpaces")) (M : Meth K (He.ga K "UnlikeSpaces") "__init__" (He.ma K (He.ga K "UnlikeSpaces") "__init__")) : MkE P w K mg base 1 "UnlikeSpaces" (He.ga K "UnlikeSpaces") (spIni K ["form", "other"]) 2 [1, 0] ["other", "form"] := by
  obtain ⟨fd, F⟩ := F
  exact ⟨X, g, _, fd, ["self", "form", "other"], M.at_, beq_iff_eq.mp M.fn, fn_UnlikeSpaces___init__ F, F.bindsN fun _ _ _ _ _ _ us hl => match us, hl with | [_, _, _], _ => rfl, kwBind F fun _ _ _ _ _ _ v ws hl => match ws, hl with | [_, _], _ => rfl⟩
abbrev s_BadCorner___init__ : Stmt := inClass (top 23) 0
theorem sc_BadCorner___init__ : FnScope ["self", "place"] ["self", "place"] (defScope s_BadCorner___init__) := ⟨rfl, rfl, rfl, by decide +kernel, rfl, by decide +kernel, by decide +kernel⟩
theorem fn_BadCorner___init__ {f : Addr} {fd : FuncData} (F : FnP K "__init__" "BadCorner.__init__" s_BadCorner___init__ f fd) : FnOk P w K mg base CX0 1 f fd ["self", "place"] (spIni K ["place"]) := by
  refine F.ok sc_BadCorner___init__ (fun vs H Q E h => by obtain ⟨_, _, _, rfl, hl, _⟩ := h; rw [List.length_cons, hl] <;> rfl) (fun cdv A outer s H vs Q E hr h => ⟨(tOst K "place" (tVar 0) (tVar 1)), PSs.nox ?_, pure_ini1 vs H Q E h⟩)
  exact (pss_one (ps_ost (pv 0) (pv 1)))
theorem mk_BadCorner (F : ∃ fd, FnP K "__init__" "BadCorner.__init__" s_BadCorner___init__ (He.fAd K ("BadCorner", some "__init__")) fd) (g : mg "BadCorner" = some (.ref (He.ga K "BadCorner"))) (X : Ex K (He.ga K "BadCorner")) (M : Meth K (He.ga K "BadCorner") "__init__" (He.ma K (He.ga K "BadCorner") "__init__")) : MkE P w K mg base 1 "BadCorner" (He.ga K "BadCorner") (spIni K ["place"]) 1 [0] ["place"] := by
  obtain ⟨fd, F⟩ := F
  exact ⟨X, g, _, fd, ["self", "place"], M.at_, beq_iff_eq.mp M.fn, fn_BadCorner___init__ F, F.bindsN fun _ _ _ _ _ _ us hl => match us, hl with | [_, _], _ => rfl, kwBind F fun _ _ _ _ _ _ v ws hl => match ws, hl with | [_], _ => rfl⟩
abbrev s_Mixed___init__ : Stmt := inClass (top 24) 0
theorem sc_Mixed___init__ : FnScope ["self", "several"] ["self", "several"] (defScope s_Mixed___init__) := ⟨rfl, rfl, rfl, by decide +kernel, rfl, by decide +kernel, by decide +kernel⟩
theorem fn_Mixed___init__ {f : Addr} {fd : FuncData} (F : FnP K "__init__" "Mixed.__init__" s_Mixed___init__ f fd) : FnOk P w K mg base CX0 1 f fd ["self", "several"] (spIni K ["several"]) := by
  refine F.ok sc_Mixed___init__ (fun vs H Q E h => by obtain ⟨_, _, _, rfl, hl, _⟩ := h; rw [List.length_cons, hl] <;> rfl) (fun cdv A outer s H vs Q E hr h => ⟨(tOst K "several" (tVar 0) (tVar 1)), PSs.nox ?_, pure_ini1 vs H Q E h⟩)
  exact (pss_one (ps_ost (pv 0) (pv 1)))
theorem mk_Mixed (F : ∃ fd, FnP K "__init__" "Mixed.__init__" s_Mixed___init__ (He.fAd K ("Mixed", some "__init__")) fd) (g : mg "Mixed" = some (.ref (He.ga K "Mixed"))) (X : Ex K (He.ga K "Mixed")) (M : Meth K (He.ga K "Mixed") "__init__" (He.ma K (He.ga K "Mixed") "__init__")) : MkE P w K mg base 1 "Mixed" (He.ga K "Mixed") (spIni K ["several"]) 1 [0] ["several"] := by
  obtain ⟨fd, F⟩ := F
  exact ⟨X, g, _, fd, ["self", "several"], M.at_, beq_iff_eq.mp M.fn, fn_Mixed___init__ F, F.bindsN fun _ _ _ _ _ _ us hl => match us, hl with | [_, _], _ => rfl, kwBind F fun _ _ _ _ _ _ v ws hl => match ws, hl with | [_], _ => rfl⟩
abbrev s_NoAnswerer___init__ : Stmt := inClass (top 25) 0
theorem sc_NoAnswerer___init__ : FnScope ["self", "count"] ["self", "count"] (defScope s_NoAnswerer___init__) := ⟨rfl, rfl, rfl, by decide +kernel, rfl, by decide +kernel, by decide +kernel⟩
theorem fn_NoAnswerer___init__ {f : Addr} {fd : FuncData} (F : FnP K "__init__" "NoAnswerer.__init__" s_NoAnswerer___init__ f fd) : FnOk P w K mg base CX0 1 f fd ["self", "count"] (spIni K ["count"]) := by
  refine F.ok sc_NoAnswerer___init__ (fun vs H Q E h => by obtain ⟨_, _, _, rfl, hl, _⟩ := h; rw [List.length_cons, hl] <;> rfl) (fun cdv A outer s H vs Q E hr h => ⟨(tOst K "count" (tVar 0) (tVar 1)), PSs.nox ?_, pure_ini1 vs H Q E h⟩)
  exact (pss_one (ps_ost (pv 0) (pv 1)))
theorem mk_NoAnswerer (F : ∃ fd, FnP K "__init__" "NoAnswerer.__init__" s_NoAnswerer___init__ (He.fAd K ("NoAnswerer", some "__init__")) fd) (g : mg "NoAnswerer" = some (.ref (He.ga K "NoAnswerer"))) (X : Ex K (He.ga K "NoAnswerer")) (M : Meth K (He.ga K "NoAnswerer") "__init__" (He.ma K (He.ga K "NoAnswerer") "__init__")) : MkE P w K mg base 1 "NoAnswerer" (He.ga K "NoAnswerer") (spIni K ["count"]) 1 [0] ["count"] := by
  obtain ⟨fd, F⟩ := F
  exact ⟨X, g, _, fd, ["self", "count"], M.at_, beq_iff_eq.mp M.fn, fn_NoAnswerer___init__ F, F.bindsN fun _ _ _ _ _ _ us hl => match us, hl with | [_, _], _ => rfl, kwBind F fun _ _ _ _ _ _ v ws hl => match ws, hl with | [_], _ => rfl⟩
abbrev s_BadPlay___init__ : Stmt := inClass (top 26) 0
theorem sc_BadPlay___init__ : FnScope ["self", "count"] ["self", "count"] (defScope s_BadPlay___init__) := ⟨rfl, rfl, rfl, by decide +kernel, rfl, by decide +kernel, by decide +kernel⟩
theorem fn_BadPlay___init__ {f : Addr} {fd : FuncData} (F : FnP K "__init__" "BadPlay.__init__" s_BadPlay___init__ f fd) : FnOk P w K mg base CX0 1 f fd ["self", "count"] (spIni K ["count"]) := by
  refine F.ok sc_BadPlay___init__ (fun vs H Q E h => by obtain ⟨_, _, _, rfl, hl, _⟩ := h; rw [List.length_cons, hl] <;> rfl) (fun cdv A outer s H vs Q E hr h => ⟨(tOst K "count" (tVar 0) (tVar 1)), PSs.nox ?_, pure_ini1 vs H Q E h⟩)
  exact (pss_one (ps_ost (pv 0) (pv 1)))
theorem mk_BadPlay (F : ∃ fd, FnP K "__init__" "BadPlay.__init__" s_BadPlay___init__ (He.fAd K ("BadPlay", some "__init__")) fd) (g : mg "BadPlay" = some (.ref (He.ga K "BadPlay"))) (X : Ex K (He.ga K "BadPlay")) (M : Meth K (He.ga K "BadPlay") "__init__" (He.ma K (He.ga K "BadPlay") "__init__")) : MkE P w K mg base 1 "BadPlay" (He.ga K "BadPlay") (spIni K ["count"]) 1 [0] ["count"] := by
  obtain ⟨fd, F⟩ := F
  exact ⟨X, g, _, fd, ["self", "count"], M.at_, beq_iff_eq.mp M.fn, fn_BadPlay___init__ F, F.bindsN fun _ _ _ _ _ _ us hl => match us, hl with | [_, _], _ => rfl, kwBind F fun _ _ _ _ _ _ v ws hl => match ws, hl with | [_], _ => rfl⟩
abbrev s_BadMover___init__ : Stmt := inClass (top 27) 0
theorem sc_BadMover___init__ : FnScope ["self", "place", "player"] ["self", "place", "player"] (defScope s_BadMover___init__) := ⟨rfl, rfl, rfl, by decide +kernel, rfl, by decide +kernel, by decide +kernel⟩
theorem fn_BadMover___init__ {f : Addr} {fd : FuncData} (F : FnP K "__init__" "BadMover.__init__" s_BadMover___init__ f fd) : FnOk P w K mg base CX0 1 f fd ["self", "place", "player"] (spIni K ["place", "player"]) := by
  refine F.ok sc_BadMover___init__ (fun vs H Q E h => by obtain ⟨_, _, _, rfl, hl, _⟩ := h; rw [List.length_cons, hl] <;> rfl) (fun cdv A outer s H vs Q E hr h => ⟨(tSeq (tOst K "place" (tVar 0) (tVar 1))
  (tOst K "player" (tVar 0) (tVar 2))), PSs.nox ?_, pure_ini2 vs H Q E h⟩)
  exact (pss_cons (ps_ost (pv 0) (pv 1))
  (pss_one (ps_ost (pv 0) (pv 2))))
theorem mk_BadMover (F : ∃ fd, FnP K "__init__" "BadMover.__init__" s_BadMover___init__ (He.fAd K ("BadMover", some "__init__")) fd) (g : mg "BadMover" = some (.ref (He.ga K "BadMover"))) (X : Ex K (He.ga K "BadMover")) (M : Meth K (He.ga K "BadMover") "__init__" (He.ma K (He.ga K "BadMover") "__init__")) : MkE P w K mg base 1 "BadMover" (He.ga K "BadMover") (spIni K ["place", "player"]) 2 [1, 0] ["player", "place"] := by
  obtain ⟨fd, F⟩ := F
  exact ⟨X, g, _, fd, ["self", "place", "player"], M.at_, beq_iff_eq.mp M.fn, fn_BadMover___init__ F, F.bindsN fun _ _ _ _ _ _ us hl => match us, hl with | [_, _, _], _ => rfl, kwBind F fun _ _ _ _ _ _ v ws hl => match ws, hl with | [_, _], _ => rfl⟩
abbrev s_BadPlayer___init__ : Stmt := inClass (top 28) 0
theorem sc_BadPlayer___init__ : FnScope ["self", "player"] ["self", "player"] (defScope s_BadPlayer___init__) := ⟨rfl, rfl, rfl, by decide +kernel, rfl, by decide +kernel, by decide +kernel⟩
theorem fn_BadPlayer___init__ {f : Addr} {fd : FuncData} (F : FnP K "__init__" "BadPlayer.__init__" s_BadPlayer___init__ f fd) : FnOk P w K mg base CX0 1 f fd ["self", "player"] (spIni K ["player"]) := by
  refine F.ok sc_BadPlayer___init__ (fun vs H Q E h => by obtain ⟨_, _, _, rfl, hl, _⟩ := h; rw [List.length_cons, hl] <;> rfl) (fun cdv A outer s H vs Q E hr h => ⟨(tOst K "player" (tVar 0) (tVar 1)), PSs.nox ?_, pure_ini1 vs H Q E h⟩)
  exact (pss_one (ps_ost (pv 0) (pv 1)))
theorem mk_BadPlayer (F : ∃ fd, FnP K "__init__" "BadPlayer.__init__" s_BadPlayer___init__ (He.fAd K ("BadPlayer", some "__init__")) fd) (g : mg "BadPlayer" = some (.ref (He.ga K "BadPlayer"))) (X : Ex K (He.ga K "BadPlayer")) (M : Meth K (He.ga K "BadPlayer") "__init__" (He.ma K (He.ga K "BadPlayer") "__init__")) : MkE P w K mg base 1 "BadPlayer" (He.ga K "BadPlayer") (spIni K ["player"]) 1 [0] ["player"] := by
  obtain ⟨fd, F⟩ := F
  exact ⟨X, g, _, fd, ["self", "player"], M.at_, beq_iff_eq.mp M.fn, fn_BadPlayer___init__ F, F.bindsN fun _ _ _ _ _ _ us hl => match us, hl with | [_, _], _ => rfl, kwBind F fun _ _ _ _ _ _ v ws hl => match ws, hl with | [_], _ => rfl⟩
abbrev s_BadStand___init__ : Stmt := inClass (top 29) 0
theorem sc_BadStand___init__ : FnScope ["self", "stand"] ["self", "stand"] (defScope s_BadStand___init__) := ⟨rfl, rfl, rfl, by decide +kernel, rfl, by decide +kernel, by decide +kernel⟩
theorem fn_BadStand___init__ {f : Addr} {fd : FuncData} (F : FnP K "__init__" "BadStand.__init__" s_BadStand___init__ f fd) : FnOk P w K mg base CX0 1 f fd ["self", "stand"] (spIni K ["stand"]) := by
  refine F.ok sc_BadStand___init__ (fun vs H Q E h => by obtain ⟨_, _, _, rfl, hl, _⟩ := h; rw [List.length_cons, hl] <;> rfl) (fun cdv A outer s H vs Q E hr h => ⟨(tOst K "stand" (tVar 0) (tVar 1)), PSs.nox ?_, pure_ini1 vs H Q E h⟩)
  exact (pss_one (ps_ost (pv 0) (pv 1)))
theorem mk_BadStand (F : ∃ fd, FnP K "__init__" "BadStand.__init__" s_BadStand___init__ (He.fAd K ("BadStand", some "__init__")) fd) (g : mg "BadStand" = some (.ref (He.ga K "BadStand"))) (X : Ex K (He.ga K "BadStand")) (M : Meth K (He.ga K "BadStand") "__init__" (He.ma K (He.ga K "BadStand") "__init__")) : MkE P w K mg base 1 "BadStand" (He.ga K "BadStand") (spIni K ["stand"]) 1 [0] ["stand"] := by
  obtain ⟨fd, F⟩ := F
  exact ⟨X, g, _, fd, ["self", "stand"], M.at_, beq_iff_eq.mp M.fn, fn_BadStand___init__ F, F.bindsN fun _ _ _ _ _ _ us hl => match us, hl with | [_, _], _ => rfl, kwBind F fun _ _ _ _ _ _ v ws hl => match ws, hl with | [_], _ => rfl⟩
abbrev s__law_source : Stmt := top 31
theorem sc__law_source : FnScope ["_law_script", "_law_k", "_law_cell"] ["_law_script", "_law_k"] (defScope s__law_source) := ⟨rfl, rfl, rfl, by decide +kernel, rfl, by decide +kernel, by decide +kernel⟩
theorem fn__law_source {f : Addr} {fd : FuncData} (F : FnP K "_law_source" "_law_source" s__law_source f fd) (z_len : mg "len" = none) (z_int : mg "int" = none) : FnOk P w K mg base CX0 (1) f fd ["_law_script", "_law_k"] (spSource K) := by
  refine F.ok sc__law_source (fun vs H Q E h => by obtain ⟨_, _, _, rfl, _⟩ := h; rfl) (fun cdv A outer s H vs Q E hr h => ⟨t__law_source K, PSs.nox ?_, pure_source vs H Q E h⟩)
  exact (pss_cons (ps_set (i := 2) sc__law_source.nd rfl (.inl rfl) (pe_ifExp (pt_cmpR op_lt (pv 1) (pe_callB call_len (by rfl) z_len (by decide +kernel) (pa_cons (pv 0) pa_nil)) (nomark _)) (pe_ix ix_list (pv 0) (pv 1) (fun _ _ => rfl)) (pe_op op_add (pe_op op_mul pe_int (pv 1)) pe_int)))
  (pss_one (ps_ret (pe_lst (pa_cons (pe_ifExp (pt_cmpR op_ge (pv 2) (pe_op op_pow pe_int pe_int) (nomark _)) (pv 2) pe_int) (pa_cons (pe_op op_mod (pe_callTy call_int1 (by rfl) z_int (by decide +kernel) (pa_cons (pv 2) pa_nil)) pe_int) (pa_cons pe_int pa_nil)))))))
theorem cl__law_source (F : Fx K mg "_law_source" s__law_source) (z_len : mg "len" = none) (z_int : mg "int" = none) : Cl P w K mg base (1) "_law_source" (spSource K) := by
  obtain ⟨f, fd, F, hm⟩ := F.ex
  exact ⟨f, fd, ["_law_script", "_law_k"], fn__law_source F z_len z_int, hm, F.kp, F.bindsN fun _ _ _ _ _ _ us hl => match us, hl with | [_, _], _ => rfl⟩
abbrev s__law_draw : Stmt := top 32
theorem sc__law_draw : FnScope ["_law_draws", "_law_many", "_law_found", "_law_seed"] ["_law_draws", "_law_many"] (defScope s__law_draw) := ⟨rfl, rfl, rfl, by decide +kernel, rfl, by decide +kernel, by decide +kernel⟩
theorem fn__law_draw {f : Addr} {fd : FuncData} (F : FnP K "_law_draw" "_law_draw" s__law_draw f fd) (z_int : mg "int" = none) : FnOk P w K mg base CX0 (1) f fd ["_law_draws", "_law_many"] (spDraw) := by
  refine F.ok sc__law_draw (fun vs H Q E h => by obtain ⟨_, _, _, rfl, _⟩ := h; rfl) (fun cdv A outer s H vs Q E hr h => ⟨t__law_draw K, PSs.nox ?_, pure_draw vs H Q E h⟩)
  exact (pss_cons (ps_if (pt_cmpR op_gt (pe_ix ix_list (pv 0) pe_int (fun _ _ => rfl)) pe_int (nomark _)) (pss_cons (ps_set (i := 2) sc__law_draw.nd rfl (.inl rfl) (pe_op op_mod (pe_callTy call_int1 (by rfl) z_int (by decide +kernel) (pa_cons (pe_ix ix_list (pv 0) pe_int (fun _ _ => rfl)) pa_nil)) (pv 1)))
  (pss_cons (ps_asg (pe_op op_fdivW (pe_ix ix_list (pv 0) pe_int (fun _ _ => rfl)) (pv 1)) (pg_sub (pv 0) pe_int set_list))
  (pss_one (ps_ret (pv 2))))) pss_nil)
  (pss_cons (ps_asg (pe_op op_add (pe_ix ix_list (pv 0) pe_int (fun _ _ => rfl)) pe_int) (pg_sub (pv 0) pe_int set_list))
  (pss_cons (ps_set (i := 3) sc__law_draw.nd rfl (.inl rfl) (pe_op op_mod (pe_op op_pow (pe_callTy call_int1 (by rfl) z_int (by decide +kernel) (pa_cons (pe_op op_add (pe_ix ix_list (pv 0) pe_int (fun _ _ => rfl)) (pe_op op_mul pe_int (pe_ix ix_list (pv 0) pe_int (fun _ _ => rfl)))) pa_nil)) pe_int) pe_int))
  (pss_one (ps_ret (pe_op op_mod (pe_op op_fdiv (pe_op op_mod (pe_op op_mul (pe_op op_add (pv 3) (pe_ix ix_list (pv 0) pe_int (fun _ _ => rfl))) pe_int) pe_int) pe_int) (pv 1)))))))
theorem cl__law_draw (F : Fx K mg "_law_draw" s__law_draw) (z_int : mg "int" = none) : Cl P w K mg base (1) "_law_draw" (spDraw) := by
  obtain ⟨f, fd, F, hm⟩ := F.ex
  exact ⟨f, fd, ["_law_draws", "_law_many"], fn__law_draw F z_int, hm, F.kp, F.bindsN fun _ _ _ _ _ _ us hl => match us, hl with | [_, _], _ => rfl⟩
abbrev s__law_pick : Stmt := top 33
theorem sc__law_pick : FnScope ["_law_draws", "_law_some"] ["_law_draws", "_law_some"] (defScope s__law_pick) := ⟨rfl, rfl, rfl, by decide +kernel, rfl, by decide +kernel, by decide +kernel⟩
theorem fn__law_pick {f : Addr} {fd : FuncData} (F : FnP K "_law_pick" "_law_pick" s__law_pick f fd) (z_len : mg "len" = none) (c__law_draw : Cl P w K mg base (1) "_law_draw" (spDraw)) : FnOk P w K mg base CX0 (2) f fd ["_law_draws", "_law_some"] (spPickS) := by
  refine F.ok sc__law_pick (fun vs H Q E h => by obtain ⟨_, _, _, rfl, _⟩ := h; rfl) (fun cdv A outer s H vs Q E hr h => ⟨t__law_pick K (spDraw), PSs.nox ?_, pure_pickS vs H Q E h⟩)
  exact (pss_one (ps_ret (pe_ix ix_str (pv 1) (FL.pc c__law_draw hr (by omega) (by rfl) (pa_cons (pv 0) (pa_cons (pe_callB call_len (by rfl) z_len (by decide +kernel) (pa_cons (pv 1) pa_nil)) pa_nil))) (fun _ _ => rfl))))
theorem cl__law_pick (F : Fx K mg "_law_pick" s__law_pick) (z_len : mg "len" = none) (c__law_draw : Cl P w K mg base (1) "_law_draw" (spDraw)) : Cl P w K mg base (2) "_law_pick" (spPickS) := by
  obtain ⟨f, fd, F, hm⟩ := F.ex
  exact ⟨f, fd, ["_law_draws", "_law_some"], fn__law_pick F z_len c__law_draw, hm, F.kp, F.bindsN fun _ _ _ _ _ _ us hl => match us, hl with | [_, _], _ => rfl⟩
abbrev s__law_same : Stmt := top 34
theorem sc__law_same : FnScope ["_law_found", "_law_due", "_law_left", "_law_right"] ["_law_found", "_law_due"] (defScope s__law_same) := ⟨rfl, rfl, rfl, by decide +kernel, rfl, by decide +kernel, by decide +kernel⟩
theorem fn__law_same {n : Nat} {f : Addr} {fd : FuncData} (F : FnP K "_law_same" "_law_same" s__law_same f fd) (z_tuple : mg "tuple" = none) (z_list : mg "list" = none) (z_isinstance : mg "isinstance" = none) (z_len : mg "len" = none) (z_zip : mg "zip" = none) (z_all : mg "all" = none) (z_dict : mg "dict" = none) (z_int : mg "int" = none) (z_bool : mg "bool" = none) (c__law_same : Cl P w K mg base (n) "_law_same" (spSameD n)) : FnOk P w K mg base CX0 (n + 1) f fd ["_law_found", "_law_due"] (spSameD (n + 1)) := by
  refine F.ok sc__law_same (fun vs H Q E h => by obtain ⟨_, _, rfl, _⟩ := h; rfl) (fun cdv A outer s H vs Q E hr h => ⟨t__law_same K (spSameD n), PSs.nox ?_, pure_sameD vs H Q E h⟩)
  exact (pss_cons (ps_if (pt_val (pe_callB call_isiT (by rfl) z_isinstance (by decide +kernel) (pa_cons (pv 1) (pa_cons (pe_tup (pa_cons (pe_bltn (by rfl) z_list (by decide +kernel) rfl) (pa_cons (pe_bltn (by rfl) z_tuple (by decide +kernel) rfl) pa_nil))) pa_nil)))) (pss_cons (ps_if (PW.pt (pw_or (pt_cmpR op_ne (pe_callB call_isi (by rfl) z_isinstance (by decide +kernel) (pa_cons (pv 0) (pa_cons (pe_bltn (by rfl) z_list (by decide +kernel) rfl) pa_nil))) (pe_callB call_isi (by rfl) z_isinstance (by decide +kernel) (pa_cons (pv 1) (pa_cons (pe_bltn (by rfl) z_list (by decide +kernel) rfl) pa_nil))) (nomark _)) (pw_or1 (pt_cmpR op_ne (pe_callB call_isi (by rfl) z_isinstance (by decide +kernel) (pa_cons (pv 0) (pa_cons (pe_bltn (by rfl) z_tuple (by decide +kernel) rfl) pa_nil))) (pe_callB call_isi (by rfl) z_isinstance (by decide +kernel) (pa_cons (pv 1) (pa_cons (pe_bltn (by rfl) z_tuple (by decide +kernel) rfl) pa_nil))) (nomark _))))) (pss_one (ps_ret pe_bl)) pss_nil)
  (pss_one (ps_ret (pe_and (pe_cmpR op_eq (pe_callB call_len (by rfl) z_len (by decide +kernel) (pa_cons (pv 0) pa_nil)) (pe_callB call_len (by rfl) z_len (by decide +kernel) (pa_cons (pv 1) pa_nil)) (nomark _)) (pe_one (pe_callB (cr_all rfl) (by rfl) z_all (by decide +kernel) (pa_cons (pe_lc (own := [("_law_left", 2), ("_law_right", 3)]) (g := (gTup K 2 (gCons (gName 2) (gCons (gName 3) gNil)))) (tt := tYes) rfl sc__law_same.nd (RZ.pi_zipA (by rfl) z_zip (pa_cons (pv 0) (pa_cons (pv 1) pa_nil))) (blkOk_by (own := [("_law_left", 2), ("_law_right", 3)]) (N := ["_law_found", "_law_due", "_law_left", "_law_right"]) (sc := defScope s__law_same) (by decide +kernel)) (fun _ _ _ _ _ => (pg_tup rfl (pgs_cons (pg_name (i := 2) sc__law_same.nd rfl (.inl rfl)) (pgs_cons (pg_name (i := 3) sc__law_same.nd rfl (.inl rfl)) pgs_nil)))) (fun _ _ _ _ _ => pts_nil) (fun _ _ _ _ _ => (FL.pc c__law_same hr (by omega) (by rfl) (pa_cons (pv 2) (pa_cons (pv 3) pa_nil))))) pa_nil))))))) pss_nil)
  (pss_cons (ps_if (pt_val (pe_callB call_isi (by rfl) z_isinstance (by decide +kernel) (pa_cons (pv 1) (pa_cons (pe_bltn (by rfl) z_dict (by decide +kernel) rfl) pa_nil)))) (pss_cons (ps_if (pt_not (pt_val (pe_callB call_isi (by rfl) z_isinstance (by decide +kernel) (pa_cons (pv 0) (pa_cons (pe_bltn (by rfl) z_dict (by decide +kernel) rfl) pa_nil))))) (pss_one (ps_ret pe_bl)) pss_nil)
  (pss_one (ps_ret (FL.pc c__law_same hr (by omega) (by rfl) (pa_cons (FL.pe_itT rfl (pv 0) (by rfl) z_list (by decide +kernel)) (pa_cons (FL.pe_itT rfl (pv 1) (by rfl) z_list (by decide +kernel)) pa_nil)))))) pss_nil)
  (pss_cons (ps_if (pt_val (pe_callB call_isiT (by rfl) z_isinstance (by decide +kernel) (pa_cons (pv 1) (pa_cons (pe_tup (pa_cons (pe_bltn (by rfl) z_bool (by decide +kernel) rfl) (pa_cons (pe_bltn (by rfl) z_int (by decide +kernel) rfl) pa_nil))) pa_nil)))) (pss_one (ps_ret (pe_and (pe_callB call_isi (by rfl) z_isinstance (by decide +kernel) (pa_cons (pv 0) (pa_cons (pe_bltn (by rfl) z_int (by decide +kernel) rfl) pa_nil))) (pe_and (pe_cmpR op_eq (pe_callB call_isi (by rfl) z_isinstance (by decide +kernel) (pa_cons (pv 0) (pa_cons (pe_bltn (by rfl) z_bool (by decide +kernel) rfl) pa_nil))) (pe_callB call_isi (by rfl) z_isinstance (by decide +kernel) (pa_cons (pv 1) (pa_cons (pe_bltn (by rfl) z_bool (by decide +kernel) rfl) pa_nil))) (nomark _)) (pe_one (pe_cmpR op_eq (pv 0) (pv 1) (nomark _))))))) pss_nil)
  (pss_one (ps_ret (pe_and (pe_not (pe_callB call_isiT (by rfl) z_isinstance (by decide +kernel) (pa_cons (pv 0) (pa_cons (pe_tup (pa_cons (pe_bltn (by rfl) z_bool (by decide +kernel) rfl) (pa_cons (pe_bltn (by rfl) z_int (by decide +kernel) rfl) (pa_cons (pe_bltn (by rfl) z_list (by decide +kernel) rfl) (pa_cons (pe_bltn (by rfl) z_tuple (by decide +kernel) rfl) (pa_cons (pe_bltn (by rfl) z_dict (by decide +kernel) rfl) pa_nil)))))) pa_nil)))) (pe_one (pe_cmpR op_eq (pv 0) (pv 1) (nomark _)))))))))
theorem cl__law_same {n : Nat} (F : Fx K mg "_law_same" s__law_same) (z_tuple : mg "tuple" = none) (z_list : mg "list" = none) (z_isinstance : mg "isinstance" = none) (z_len : mg "len" = none) (z_zip : mg "zip" = none) (z_all : mg "all" = none) (z_dict : mg "dict" = none) (z_int : mg "int" = none) (z_bool : mg "bool" = none) (c__law_same : Cl P w K mg base (n) "_law_same" (spSameD n)) : Cl P w K mg base (n + 1) "_law_same" (spSameD (n + 1)) := by
  obtain ⟨f, fd, F, hm⟩ := F.ex
  exact ⟨f, fd, ["_law_found", "_law_due"], fn__law_same F z_tuple z_list z_isinstance z_len z_zip z_all z_dict z_int z_bool c__law_same, hm, F.kp, F.bindsN fun _ _ _ _ _ _ us hl => match us, hl with | [_, _], _ => rfl⟩
theorem all_same (F : Fx K mg "_law_same" s__law_same) (z_isinstance : mg "isinstance" = none) (z_list : mg "list" = none) (z_tuple : mg "tuple" = none) (z_len : mg "len" = none) (z_all : mg "all" = none) (z_zip : mg "zip" = none) (z_dict : mg "dict" = none) (z_bool : mg "bool" = none) (z_int : mg "int" = none) : ∀ n : Nat, Cl P w K mg base n "_law_same" (spSameD n)
  | 0 => F.never ["_law_found", "_law_due"] (fun f fd F => F.bindsN fun _ _ _ _ _ _ us hl => match us, hl with | [_, _], _ => rfl) fun _ _ _ _ h => spSameD_none h
  | n + 1 => by
    have ih := all_same F z_isinstance z_list z_tuple z_len z_all z_zip z_dict z_bool z_int n
    apply cl__law_same <;> assumption
abbrev s__law_fields : Stmt := top 35
theorem sc__law_fields : FnScope ["_law_name", "_law_e"] ["_law_name", "_law_e"] (defScope s__law_fields) := ⟨rfl, rfl, rfl, by decide +kernel, rfl, by decide +kernel, by decide +kernel⟩
theorem fn__law_fields {f : Addr} {fd : FuncData} (F : FnP K "_law_fields" "_law_fields" s__law_fields f fd) (KO : KindsOk K) : FnOk P w K mg base CX0 (1) f fd ["_law_name", "_law_e"] (spFields K) := by
  refine F.ok sc__law_fields (fun vs H Q E h => by obtain ⟨_, _, _, _, rfl, _⟩ := h; rfl) (fun cdv A outer s H vs Q E hr h => ⟨t__law_fields K, PSs.nox ?_, pure_fields KO vs H Q E h⟩)
  exact (pss_cons (ps_if (pt_cmpR op_in_seq (pv 0) (pe_tup (pa_cons pe_str (pa_cons pe_str pa_nil))) (by rfl)) (pss_one (ps_ret (pe_lst (pa_cons (FL.pe_fld (pv 1)) pa_nil)))) pss_nil)
  (pss_cons (ps_if (pt_cmpR op_in_seq (pv 0) (pe_tup (pa_cons pe_str pa_nil)) (by rfl)) (pss_one (ps_ret (pe_lst (pa_cons (FL.pe_fld (pv 1)) (pa_cons (FL.pe_fld (pv 1)) pa_nil))))) pss_nil)
  (pss_cons (ps_if (pt_cmpR op_in_seq (pv 0) (pe_tup (pa_cons pe_str (pa_cons pe_str (pa_cons pe_str pa_nil)))) (by rfl)) (pss_one (ps_ret (pe_lst (pa_cons (FL.pe_fld (pv 1)) pa_nil)))) pss_nil)
  (pss_cons (ps_if (pt_cmpR op_in_seq (pv 0) (pe_tup (pa_cons pe_str (pa_cons pe_str pa_nil))) (by rfl)) (pss_one (ps_ret (pe_lst (pa_cons (FL.pe_fld (pv 1)) pa_nil)))) pss_nil)
  (pss_cons (ps_if (pt_cmpR op_in_seq (pv 0) (pe_tup (pa_cons pe_str pa_nil)) (by rfl)) (pss_one (ps_ret (pe_lst (pa_cons (FL.pe_fld (pv 1)) (pa_cons (FL.pe_fld (pv 1)) pa_nil))))) pss_nil)
  (pss_cons (ps_if (pt_cmpR op_in_seq (pv 0) (pe_tup (pa_cons pe_str (pa_cons pe_str (pa_cons pe_str (pa_cons pe_str (pa_cons pe_str pa_nil)))))) (by rfl)) (pss_one (ps_ret (pe_lst (pa_cons (FL.pe_fld (pv 1)) pa_nil)))) pss_nil)
  (pss_cons (ps_if (pt_cmpR op_in_seq (pv 0) (pe_tup (pa_cons pe_str (pa_cons pe_str pa_nil))) (by rfl)) (pss_one (ps_ret (pe_lst (pa_cons (FL.pe_fld (pv 1)) pa_nil)))) pss_nil)
  (pss_cons (ps_if (pt_cmpR op_in_seq (pv 0) (pe_tup (pa_cons pe_str pa_nil)) (by rfl)) (pss_one (ps_ret (pe_lst (pa_cons (FL.pe_fld (pv 1)) (pa_cons (FL.pe_fld (pv 1)) pa_nil))))) pss_nil)
  (pss_cons (ps_if (pt_cmpR op_in_seq (pv 0) (pe_tup (pa_cons pe_str (pa_cons pe_str pa_nil))) (by rfl)) (pss_one (ps_ret (pe_lst (pa_cons (FL.pe_fld (pv 1)) pa_nil)))) pss_nil)
  (pss_cons (ps_if (pt_cmpR op_in_seq (pv 0) (pe_tup (pa_cons pe_str pa_nil)) (by rfl)) (pss_one (ps_ret (pe_lst (pa_cons (FL.pe_fld (pv 1)) pa_nil)))) pss_nil)
  (pss_cons (ps_if (pt_cmpR op_in_seq (pv 0) (pe_tup (pa_cons pe_str pa_nil)) (by rfl)) (pss_one (ps_ret (pe_lst (pa_cons (FL.pe_fld (pv 1)) pa_nil)))) pss_nil)
  (pss_cons (ps_if (pt_cmpR op_in_seq (pv 0) (pe_tup (pa_cons pe_str pa_nil)) (by rfl)) (pss_one (ps_ret (pe_lst (pa_cons (FL.pe_fld (pv 1)) (pa_cons (FL.pe_fld (pv 1)) pa_nil))))) pss_nil)
  (pss_cons (ps_if (pt_cmpR op_in_seq (pv 0) (pe_tup (pa_cons pe_str pa_nil)) (by rfl)) (pss_one (ps_ret (pe_lst (pa_cons (FL.pe_fld (pv 1)) pa_nil)))) pss_nil)
  (pss_cons (ps_if (pt_cmpR op_in_seq (pv 0) (pe_tup (pa_cons pe_str (pa_cons pe_str pa_nil))) (by rfl)) (pss_one (ps_ret (pe_lst (pa_cons (FL.pe_fld (pv 1)) pa_nil)))) pss_nil)
  (pss_cons (ps_if (pt_cmpR op_in_seq (pv 0) (pe_tup (pa_cons pe_str pa_nil)) (by rfl)) (pss_one (ps_ret (pe_lst (pa_cons (FL.pe_fld (pv 1)) (pa_cons (FL.pe_fld (pv 1)) pa_nil))))) pss_nil)
  (pss_cons (ps_if (pt_cmpR op_in_seq (pv 0) (pe_tup (pa_cons pe_str pa_nil)) (by rfl)) (pss_one (ps_ret (pe_lst (pa_cons (FL.pe_fld (pv 1)) pa_nil)))) pss_nil)
  (pss_cons (ps_if (pt_cmpR op_in_seq (pv 0) (pe_tup (pa_cons pe_str pa_nil)) (by rfl)) (pss_one (ps_ret (pe_lst (pa_cons (FL.pe_fld (pv 1)) pa_nil)))) pss_nil)
  (pss_one (ps_ret (pe_lst pa_nil))))))))))))))))))))
theorem cl__law_fields (F : Fx K mg "_law_fields" s__law_fields) (KO : KindsOk K) : Cl P w K mg base (1) "_law_fields" (spFields K) := by
  obtain ⟨f, fd, F, hm⟩ := F.ex
  exact ⟨f, fd, ["_law_name", "_law_e"], fn__law_fields F KO, hm, F.kp, F.bindsN fun _ _ _ _ _ _ us hl => match us, hl with | [_, _], _ => rfl⟩
abbrev s__law_kinds : Stmt := top 36
theorem sc__law_kinds : FnScope ["_law_e", "_law_rows", "_law_name", "_law_fits"] ["_law_e"] (defScope s__law_kinds) := ⟨rfl, rfl, rfl, by decide +kernel, rfl, by decide +kernel, by decide +kernel⟩
theorem fn__law_kinds {f : Addr} {fd : FuncData} (F : FnP K "_law_kinds" "_law_kinds" s__law_kinds f fd) (z_isinstance : mg "isinstance" = none) (KO : KindsOk K) (g_NoBranch : mg "NoBranch" = some (.ref (He.ga K "NoBranch"))) (g_Empty : mg "Empty" = some (.ref (He.ga K "Empty"))) (g_NotNumber : mg "NotNumber" = some (.ref (He.ga K "NotNumber"))) (g_NotTruth : mg "NotTruth" = some (.ref (He.ga K "NotTruth"))) (g_Wavers : mg "Wavers" = some (.ref (He.ga K "Wavers"))) (g_TooMany : mg "TooMany" = some (.ref (He.ga K "TooMany"))) (g_TooDeep : mg "TooDeep" = some (.ref (He.ga K "TooDeep"))) (g_BadLimit : mg "BadLimit" = some (.ref (He.ga K "BadLimit"))) (g_Stale : mg "Stale" = some (.ref (He.ga K "Stale"))) (g_BadAnswer : mg "BadAnswer" = some (.ref (He.ga K "BadAnswer"))) (g_BadFacts : mg "BadFacts" = some (.ref (He.ga K "BadFacts"))) (g_NoPlace : mg "NoPlace" = some (.ref (He.ga K "NoPlace"))) (g_BadCount : mg "BadCount" = some (.ref (He.ga K "BadCount"))) (g_BadSpace : mg "BadSpace" = some (.ref (He.ga K "BadSpace"))) : FnOk P w K mg base CX0 (1) f fd ["_law_e"] (spKinds K nA) := by
  refine F.ok sc__law_kinds (fun vs H Q E h => by obtain ⟨_, _, _, rfl, _⟩ := h; rfl) (fun cdv A outer s H vs Q E hr h => ⟨t__law_kinds K, PSs.nox ?_, pure_kinds KO vs H Q E h⟩)
  exact (pss_cons (ps_set (i := 1) sc__law_kinds.nd rfl (.inl rfl) (pe_lst (pa_cons (pe_tup (pa_cons pe_str (pa_cons (pe_callB FL.call_isX (by rfl) z_isinstance (by decide +kernel) (pa_cons (pv 0) (pa_cons (pe_glob (by rfl) g_BadSpace rfl) pa_nil))) pa_nil))) (pa_cons (pe_tup (pa_cons pe_str (pa_cons (pe_callB FL.call_isX (by rfl) z_isinstance (by decide +kernel) (pa_cons (pv 0) (pa_cons (pe_glob (by rfl) g_BadCount rfl) pa_nil))) pa_nil))) (pa_cons (pe_tup (pa_cons pe_str (pa_cons (pe_callB FL.call_isX (by rfl) z_isinstance (by decide +kernel) (pa_cons (pv 0) (pa_cons (pe_glob (by rfl) g_NoPlace rfl) pa_nil))) pa_nil))) (pa_cons (pe_tup (pa_cons pe_str (pa_cons (pe_callB FL.call_isX (by rfl) z_isinstance (by decide +kernel) (pa_cons (pv 0) (pa_cons (pe_glob (by rfl) g_BadFacts rfl) pa_nil))) pa_nil))) (pa_cons (pe_tup (pa_cons pe_str (pa_cons (pe_callB FL.call_isX (by rfl) z_isinstance (by decide +kernel) (pa_cons (pv 0) (pa_cons (pe_glob (by rfl) g_BadAnswer rfl) pa_nil))) pa_nil))) (pa_cons (pe_tup (pa_cons pe_str (pa_cons (pe_callB FL.call_isX (by rfl) z_isinstance (by decide +kernel) (pa_cons (pv 0) (pa_cons (pe_glob (by rfl) g_Stale rfl) pa_nil))) pa_nil))) (pa_cons (pe_tup (pa_cons pe_str (pa_cons (pe_callB FL.call_isX (by rfl) z_isinstance (by decide +kernel) (pa_cons (pv 0) (pa_cons (pe_glob (by rfl) g_BadLimit rfl) pa_nil))) pa_nil))) (pa_cons (pe_tup (pa_cons pe_str (pa_cons (pe_callB FL.call_isX (by rfl) z_isinstance (by decide +kernel) (pa_cons (pv 0) (pa_cons (pe_glob (by rfl) g_TooDeep rfl) pa_nil))) pa_nil))) (pa_cons (pe_tup (pa_cons pe_str (pa_cons (pe_callB FL.call_isX (by rfl) z_isinstance (by decide +kernel) (pa_cons (pv 0) (pa_cons (pe_glob (by rfl) g_TooMany rfl) pa_nil))) pa_nil))) (pa_cons (pe_tup (pa_cons pe_str (pa_cons (pe_callB FL.call_isX (by rfl) z_isinstance (by decide +kernel) (pa_cons (pv 0) (pa_cons (pe_glob (by rfl) g_Wavers rfl) pa_nil))) pa_nil))) (pa_cons (pe_tup (pa_cons pe_str (pa_cons (pe_callB FL.call_isX (by rfl) z_isinstance (by decide +kernel) (pa_cons (pv 0) (pa_cons (pe_glob (by rfl) g_NotTruth rfl) pa_nil))) pa_nil))) (pa_cons (pe_tup (pa_cons pe_str (pa_cons (pe_callB FL.call_isX (by rfl) z_isinstance (by decide +kernel) (pa_cons (pv 0) (pa_cons (pe_glob (by rfl) g_NotNumber rfl) pa_nil))) pa_nil))) (pa_cons (pe_tup (pa_cons pe_str (pa_cons (pe_callB FL.call_isX (by rfl) z_isinstance (by decide +kernel) (pa_cons (pv 0) (pa_cons (pe_glob (by rfl) g_Empty rfl) pa_nil))) pa_nil))) (pa_cons (pe_tup (pa_cons pe_str (pa_cons (pe_callB FL.call_isX (by rfl) z_isinstance (by decide +kernel) (pa_cons (pv 0) (pa_cons (pe_glob (by rfl) g_NoBranch rfl) pa_nil))) pa_nil))) pa_nil))))))))))))))))
  (pss_one (ps_ret (pe_lc (own := [("_law_name", 2), ("_law_fits", 3)]) (g := (gTup K 2 (gCons (gName 2) (gCons (gName 3) gNil)))) (tt := (tB (tVar 3))) rfl sc__law_kinds.nd (pi_list (pv 1)) (blkOk_by (own := [("_law_name", 2), ("_law_fits", 3)]) (N := ["_law_e", "_law_rows", "_law_name", "_law_fits"]) (sc := defScope s__law_kinds) (by decide +kernel)) (fun _ _ _ _ _ => (pg_tup rfl (pgs_cons (pg_name (i := 2) sc__law_kinds.nd rfl (.inl rfl)) (pgs_cons (pg_name (i := 3) sc__law_kinds.nd rfl (.inl rfl)) pgs_nil)))) (fun _ _ _ _ _ => (pts_one (pt_val (pv 3)))) (fun _ _ _ _ _ => (pv 2))))))
theorem cl__law_kinds (F : Fx K mg "_law_kinds" s__law_kinds) (z_isinstance : mg "isinstance" = none) (KO : KindsOk K) (g_NoBranch : mg "NoBranch" = some (.ref (He.ga K "NoBranch"))) (g_Empty : mg "Empty" = some (.ref (He.ga K "Empty"))) (g_NotNumber : mg "NotNumber" = some (.ref (He.ga K "NotNumber"))) (g_NotTruth : mg "NotTruth" = some (.ref (He.ga K "NotTruth"))) (g_Wavers : mg "Wavers" = some (.ref (He.ga K "Wavers"))) (g_TooMany : mg "TooMany" = some (.ref (He.ga K "TooMany"))) (g_TooDeep : mg "TooDeep" = some (.ref (He.ga K "TooDeep"))) (g_BadLimit : mg "BadLimit" = some (.ref (He.ga K "BadLimit"))) (g_Stale : mg "Stale" = some (.ref (He.ga K "Stale"))) (g_BadAnswer : mg "BadAnswer" = some (.ref (He.ga K "BadAnswer"))) (g_BadFacts : mg "BadFacts" = some (.ref (He.ga K "BadFacts"))) (g_NoPlace : mg "NoPlace" = some (.ref (He.ga K "NoPlace"))) (g_BadCount : mg "BadCount" = some (.ref (He.ga K "BadCount"))) (g_BadSpace : mg "BadSpace" = some (.ref (He.ga K "BadSpace"))) : Cl P w K mg base (1) "_law_kinds" (spKinds K nA) := by
  obtain ⟨f, fd, F, hm⟩ := F.ex
  exact ⟨f, fd, ["_law_e"], fn__law_kinds F z_isinstance KO g_NoBranch g_Empty g_NotNumber g_NotTruth g_Wavers g_TooMany g_TooDeep g_BadLimit g_Stale g_BadAnswer g_BadFacts g_NoPlace g_BadCount g_BadSpace, hm, F.kp, F.bindsN fun _ _ _ _ _ _ us hl => match us, hl with | [_], _ => rfl⟩
abbrev s__law_others : Stmt := top 37
theorem sc__law_others : FnScope ["_law_e", "_law_rows", "_law_name", "_law_fits"] ["_law_e"] (defScope s__law_others) := ⟨rfl, rfl, rfl, by decide +kernel, rfl, by decide +kernel, by decide +kernel⟩
theorem fn__law_others {f : Addr} {fd : FuncData} (F : FnP K "_law_others" "_law_others" s__law_others f fd) (z_isinstance : mg "isinstance" = none) (KO : KindsOk K) (g_BadStand : mg "BadStand" = some (.ref (He.ga K "BadStand"))) (g_BadPlayer : mg "BadPlayer" = some (.ref (He.ga K "BadPlayer"))) (g_BadMover : mg "BadMover" = some (.ref (He.ga K "BadMover"))) (g_BadPlay : mg "BadPlay" = some (.ref (He.ga K "BadPlay"))) (g_NoAnswerer : mg "NoAnswerer" = some (.ref (He.ga K "NoAnswerer"))) (g_Mixed : mg "Mixed" = some (.ref (He.ga K "Mixed"))) (g_BadCorner : mg "BadCorner" = some (.ref (He.ga K "BadCorner"))) (g_UnlikeSpaces : mg "UnlikeSpaces" = some (.ref (He.ga K "UnlikeSpaces"))) (g_DividesByZero : mg "DividesByZero" = some (.ref (He.ga K "DividesByZero"))) (g_TooGreat : mg "TooGreat" = some (.ref (He.ga K "TooGreat"))) (g_TooWide : mg "TooWide" = some (.ref (He.ga K "TooWide"))) (g_BadPower : mg "BadPower" = some (.ref (He.ga K "BadPower"))) (g_BadNumber : mg "BadNumber" = some (.ref (He.ga K "BadNumber"))) (g_NotFree : mg "NotFree" = some (.ref (He.ga K "NotFree"))) : FnOk P w K mg base CX0 (1) f fd ["_law_e"] (spKinds K nB) := by
  refine F.ok sc__law_others (fun vs H Q E h => by obtain ⟨_, _, _, rfl, _⟩ := h; rfl) (fun cdv A outer s H vs Q E hr h => ⟨t__law_others K, PSs.nox ?_, pure_others KO vs H Q E h⟩)
  exact (pss_cons (ps_set (i := 1) sc__law_others.nd rfl (.inl rfl) (pe_lst (pa_cons (pe_tup (pa_cons pe_str (pa_cons (pe_callB FL.call_isX (by rfl) z_isinstance (by decide +kernel) (pa_cons (pv 0) (pa_cons (pe_glob (by rfl) g_NotFree rfl) pa_nil))) pa_nil))) (pa_cons (pe_tup (pa_cons pe_str (pa_cons (pe_callB FL.call_isX (by rfl) z_isinstance (by decide +kernel) (pa_cons (pv 0) (pa_cons (pe_glob (by rfl) g_BadNumber rfl) pa_nil))) pa_nil))) (pa_cons (pe_tup (pa_cons pe_str (pa_cons (pe_callB FL.call_isX (by rfl) z_isinstance (by decide +kernel) (pa_cons (pv 0) (pa_cons (pe_glob (by rfl) g_BadPower rfl) pa_nil))) pa_nil))) (pa_cons (pe_tup (pa_cons pe_str (pa_cons (pe_callB FL.call_isX (by rfl) z_isinstance (by decide +kernel) (pa_cons (pv 0) (pa_cons (pe_glob (by rfl) g_TooWide rfl) pa_nil))) pa_nil))) (pa_cons (pe_tup (pa_cons pe_str (pa_cons (pe_callB FL.call_isX (by rfl) z_isinstance (by decide +kernel) (pa_cons (pv 0) (pa_cons (pe_glob (by rfl) g_TooGreat rfl) pa_nil))) pa_nil))) (pa_cons (pe_tup (pa_cons pe_str (pa_cons (pe_callB FL.call_isX (by rfl) z_isinstance (by decide +kernel) (pa_cons (pv 0) (pa_cons (pe_glob (by rfl) g_DividesByZero rfl) pa_nil))) pa_nil))) (pa_cons (pe_tup (pa_cons pe_str (pa_cons (pe_callB FL.call_isX (by rfl) z_isinstance (by decide +kernel) (pa_cons (pv 0) (pa_cons (pe_glob (by rfl) g_UnlikeSpaces rfl) pa_nil))) pa_nil))) (pa_cons (pe_tup (pa_cons pe_str (pa_cons (pe_callB FL.call_isX (by rfl) z_isinstance (by decide +kernel) (pa_cons (pv 0) (pa_cons (pe_glob (by rfl) g_BadCorner rfl) pa_nil))) pa_nil))) (pa_cons (pe_tup (pa_cons pe_str (pa_cons (pe_callB FL.call_isX (by rfl) z_isinstance (by decide +kernel) (pa_cons (pv 0) (pa_cons (pe_glob (by rfl) g_Mixed rfl) pa_nil))) pa_nil))) (pa_cons (pe_tup (pa_cons pe_str (pa_cons (pe_callB FL.call_isX (by rfl) z_isinstance (by decide +kernel) (pa_cons (pv 0) (pa_cons (pe_glob (by rfl) g_NoAnswerer rfl) pa_nil))) pa_nil))) (pa_cons (pe_tup (pa_cons pe_str (pa_cons (pe_callB FL.call_isX (by rfl) z_isinstance (by decide +kernel) (pa_cons (pv 0) (pa_cons (pe_glob (by rfl) g_BadPlay rfl) pa_nil))) pa_nil))) (pa_cons (pe_tup (pa_cons pe_str (pa_cons (pe_callB FL.call_isX (by rfl) z_isinstance (by decide +kernel) (pa_cons (pv 0) (pa_cons (pe_glob (by rfl) g_BadMover rfl) pa_nil))) pa_nil))) (pa_cons (pe_tup (pa_cons pe_str (pa_cons (pe_callB FL.call_isX (by rfl) z_isinstance (by decide +kernel) (pa_cons (pv 0) (pa_cons (pe_glob (by rfl) g_BadPlayer rfl) pa_nil))) pa_nil))) (pa_cons (pe_tup (pa_cons pe_str (pa_cons (pe_callB FL.call_isX (by rfl) z_isinstance (by decide +kernel) (pa_cons (pv 0) (pa_cons (pe_glob (by rfl) g_BadStand rfl) pa_nil))) pa_nil))) pa_nil))))))))))))))))
  (pss_one (ps_ret (pe_lc (own := [("_law_name", 2), ("_law_fits", 3)]) (g := (gTup K 2 (gCons (gName 2) (gCons (gName 3) gNil)))) (tt := (tB (tVar 3))) rfl sc__law_others.nd (pi_list (pv 1)) (blkOk_by (own := [("_law_name", 2), ("_law_fits", 3)]) (N := ["_law_e", "_law_rows", "_law_name", "_law_fits"]) (sc := defScope s__law_others) (by decide +kernel)) (fun _ _ _ _ _ => (pg_tup rfl (pgs_cons (pg_name (i := 2) sc__law_others.nd rfl (.inl rfl)) (pgs_cons (pg_name (i := 3) sc__law_others.nd rfl (.inl rfl)) pgs_nil)))) (fun _ _ _ _ _ => (pts_one (pt_val (pv 3)))) (fun _ _ _ _ _ => (pv 2))))))
theorem cl__law_others (F : Fx K mg "_law_others" s__law_others) (z_isinstance : mg "isinstance" = none) (KO : KindsOk K) (g_BadStand : mg "BadStand" = some (.ref (He.ga K "BadStand"))) (g_BadPlayer : mg "BadPlayer" = some (.ref (He.ga K "BadPlayer"))) (g_BadMover : mg "BadMover" = some (.ref (He.ga K "BadMover"))) (g_BadPlay : mg "BadPlay" = some (.ref (He.ga K "BadPlay"))) (g_NoAnswerer : mg "NoAnswerer" = some (.ref (He.ga K "NoAnswerer"))) (g_Mixed : mg "Mixed" = some (.ref (He.ga K "Mixed"))) (g_BadCorner : mg "BadCorner" = some (.ref (He.ga K "BadCorner"))) (g_UnlikeSpaces : mg "UnlikeSpaces" = some (.ref (He.ga K "UnlikeSpaces"))) (g_DividesByZero : mg "DividesByZero" = some (.ref (He.ga K "DividesByZero"))) (g_TooGreat : mg "TooGreat" = some (.ref (He.ga K "TooGreat"))) (g_TooWide : mg "TooWide" = some (.ref (He.ga K "TooWide"))) (g_BadPower : mg "BadPower" = some (.ref (He.ga K "BadPower"))) (g_BadNumber : mg "BadNumber" = some (.ref (He.ga K "BadNumber"))) (g_NotFree : mg "NotFree" = some (.ref (He.ga K "NotFree"))) : Cl P w K mg base (1) "_law_others" (spKinds K nB) := by
  obtain ⟨f, fd, F, hm⟩ := F.ex
  exact ⟨f, fd, ["_law_e"], fn__law_others F z_isinstance KO g_BadStand g_BadPlayer g_BadMover g_BadPlay g_NoAnswerer g_Mixed g_BadCorner g_UnlikeSpaces g_DividesByZero g_TooGreat g_TooWide g_BadPower g_BadNumber g_NotFree, hm, F.kp, F.bindsN fun _ _ _ _ _ _ us hl => match us, hl with | [_], _ => rfl⟩
abbrev s__law_made : Stmt := top 38
theorem sc__law_made : FnScope ["_law_a", "_law_b"] ["_law_a", "_law_b"] (defScope s__law_made) := ⟨rfl, rfl, rfl, by decide +kernel, rfl, by decide +kernel, by decide +kernel⟩
theorem fn__law_made {f : Addr} {fd : FuncData} (F : FnP K "_law_made" "_law_made" s__law_made f fd) (KO : KindsOk K) (m_NoBranch : MkE P w K mg base 1 "NoBranch" (He.ga K "NoBranch") (spIni K ["place", "answer"]) 2 [1, 0] ["answer", "place"]) (m_Empty : MkE P w K mg base 1 "Empty" (He.ga K "Empty") (spIni K ["form"]) 1 [0] ["form"]) (m_NotNumber : MkE P w K mg base 1 "NotNumber" (He.ga K "NotNumber") (spIni K ["path"]) 1 [0] ["path"]) (m_NotTruth : MkE P w K mg base 1 "NotTruth" (He.ga K "NotTruth") (spIni K ["path"]) 1 [0] ["path"]) (m_Wavers : MkE P w K mg base 1 "Wavers" (He.ga K "Wavers") (spIni K ["path"]) 1 [0] ["path"]) (m_TooMany : MkE P w K mg base 1 "TooMany" (He.ga K "TooMany") (spIni K ["path"]) 1 [0] ["path"]) (m_TooDeep : MkE P w K mg base 1 "TooDeep" (He.ga K "TooDeep") (spIni K ["path"]) 1 [0] ["path"]) (m_BadLimit : MkE P w K mg base 1 "BadLimit" (He.ga K "BadLimit") (spIni K ["value"]) 1 [0] ["value"]) (m_Stale : MkE P w K mg base 1 "Stale" (He.ga K "Stale") (spIni K ["place"]) 1 [0] ["place"]) (m_BadAnswer : MkE P w K mg base 1 "BadAnswer" (He.ga K "BadAnswer") (spIni K ["place", "given"]) 2 [1, 0] ["given", "place"]) (m_BadFacts : MkE P w K mg base 1 "BadFacts" (He.ga K "BadFacts") (spIni K ["facts"]) 1 [0] ["facts"]) (m_NoPlace : MkE P w K mg base 1 "NoPlace" (He.ga K "NoPlace") (spIni K ["place"]) 1 [0] ["place"]) (m_BadCount : MkE P w K mg base 1 "BadCount" (He.ga K "BadCount") (spIni K ["earlier", "count"]) 2 [1, 0] ["count", "earlier"]) (m_BadSpace : MkE P w K mg base 1 "BadSpace" (He.ga K "BadSpace") (spIni K ["value"]) 1 [0] ["value"]) : FnOk P w K mg base CX0 (3) f fd ["_law_a", "_law_b"] (spMade K kA) := by
  refine F.ok sc__law_made (fun vs H Q E h => by obtain ⟨_, _, rfl, _⟩ := h; rfl) (fun cdv A outer s H vs Q E hr h => ⟨t__law_made K, PSs.nox ?_, pure_made KO vs H Q E h⟩)
  exact (pss_one (ps_ret (pe_lst (pa_cons (pe_tup (pa_cons pe_str (pa_cons (FL.pmx m_BadSpace hr (by omega) (by rfl) (pa_cons (pv 0) pa_nil)) (pa_cons (FL.pmk m_BadSpace hr (by omega) (by rfl) (pk_cons (pv 0) pk_nil)) pa_nil)))) (pa_cons (pe_tup (pa_cons pe_str (pa_cons (FL.pmx m_BadCount hr (by omega) (by rfl) (pa_cons (pv 0) (pa_cons (pv 1) pa_nil))) (pa_cons (FL.pmk m_BadCount hr (by omega) (by rfl) (pk_cons (pv 1) (pk_cons (pv 0) pk_nil))) pa_nil)))) (pa_cons (pe_tup (pa_cons pe_str (pa_cons (FL.pmx m_NoPlace hr (by omega) (by rfl) (pa_cons (pv 0) pa_nil)) (pa_cons (FL.pmk m_NoPlace hr (by omega) (by rfl) (pk_cons (pv 0) pk_nil)) pa_nil)))) (pa_cons (pe_tup (pa_cons pe_str (pa_cons (FL.pmx m_BadFacts hr (by omega) (by rfl) (pa_cons (pv 0) pa_nil)) (pa_cons (FL.pmk m_BadFacts hr (by omega) (by rfl) (pk_cons (pv 0) pk_nil)) pa_nil)))) (pa_cons (pe_tup (pa_cons pe_str (pa_cons (FL.pmx m_BadAnswer hr (by omega) (by rfl) (pa_cons (pv 0) (pa_cons (pv 1) pa_nil))) (pa_cons (FL.pmk m_BadAnswer hr (by omega) (by rfl) (pk_cons (pv 1) (pk_cons (pv 0) pk_nil))) pa_nil)))) (pa_cons (pe_tup (pa_cons pe_str (pa_cons (FL.pmx m_Stale hr (by omega) (by rfl) (pa_cons (pv 0) pa_nil)) (pa_cons (FL.pmk m_Stale hr (by omega) (by rfl) (pk_cons (pv 0) pk_nil)) pa_nil)))) (pa_cons (pe_tup (pa_cons pe_str (pa_cons (FL.pmx m_BadLimit hr (by omega) (by rfl) (pa_cons (pv 0) pa_nil)) (pa_cons (FL.pmk m_BadLimit hr (by omega) (by rfl) (pk_cons (pv 0) pk_nil)) pa_nil)))) (pa_cons (pe_tup (pa_cons pe_str (pa_cons (FL.pmx m_TooDeep hr (by omega) (by rfl) (pa_cons (pv 0) pa_nil)) (pa_cons (FL.pmk m_TooDeep hr (by omega) (by rfl) (pk_cons (pv 0) pk_nil)) pa_nil)))) (pa_cons (pe_tup (pa_cons pe_str (pa_cons (FL.pmx m_TooMany hr (by omega) (by rfl) (pa_cons (pv 0) pa_nil)) (pa_cons (FL.pmk m_TooMany hr (by omega) (by rfl) (pk_cons (pv 0) pk_nil)) pa_nil)))) (pa_cons (pe_tup (pa_cons pe_str (pa_cons (FL.pmx m_Wavers hr (by omega) (by rfl) (pa_cons (pv 0) pa_nil)) (pa_cons (FL.pmk m_Wavers hr (by omega) (by rfl) (pk_cons (pv 0) pk_nil)) pa_nil)))) (pa_cons (pe_tup (pa_cons pe_str (pa_cons (FL.pmx m_NotTruth hr (by omega) (by rfl) (pa_cons (pv 0) pa_nil)) (pa_cons (FL.pmk m_NotTruth hr (by omega) (by rfl) (pk_cons (pv 0) pk_nil)) pa_nil)))) (pa_cons (pe_tup (pa_cons pe_str (pa_cons (FL.pmx m_NotNumber hr (by omega) (by rfl) (pa_cons (pv 0) pa_nil)) (pa_cons (FL.pmk m_NotNumber hr (by omega) (by rfl) (pk_cons (pv 0) pk_nil)) pa_nil)))) (pa_cons (pe_tup (pa_cons pe_str (pa_cons (FL.pmx m_Empty hr (by omega) (by rfl) (pa_cons (pv 0) pa_nil)) (pa_cons (FL.pmk m_Empty hr (by omega) (by rfl) (pk_cons (pv 0) pk_nil)) pa_nil)))) (pa_cons (pe_tup (pa_cons pe_str (pa_cons (FL.pmx m_NoBranch hr (by omega) (by rfl) (pa_cons (pv 0) (pa_cons (pv 1) pa_nil))) (pa_cons (FL.pmk m_NoBranch hr (by omega) (by rfl) (pk_cons (pv 1) (pk_cons (pv 0) pk_nil))) pa_nil)))) pa_nil)))))))))))))))))
theorem cl__law_made (F : Fx K mg "_law_made" s__law_made) (KO : KindsOk K) (m_NoBranch : MkE P w K mg base 1 "NoBranch" (He.ga K "NoBranch") (spIni K ["place", "answer"]) 2 [1, 0] ["answer", "place"]) (m_Empty : MkE P w K mg base 1 "Empty" (He.ga K "Empty") (spIni K ["form"]) 1 [0] ["form"]) (m_NotNumber : MkE P w K mg base 1 "NotNumber" (He.ga K "NotNumber") (spIni K ["path"]) 1 [0] ["path"]) (m_NotTruth : MkE P w K mg base 1 "NotTruth" (He.ga K "NotTruth") (spIni K ["path"]) 1 [0] ["path"]) (m_Wavers : MkE P w K mg base 1 "Wavers" (He.ga K "Wavers") (spIni K ["path"]) 1 [0] ["path"]) (m_TooMany : MkE P w K mg base 1 "TooMany" (He.ga K "TooMany") (spIni K ["path"]) 1 [0] ["path"]) (m_TooDeep : MkE P w K mg base 1 "TooDeep" (He.ga K "TooDeep") (spIni K ["path"]) 1 [0] ["path"]) (m_BadLimit : MkE P w K mg base 1 "BadLimit" (He.ga K "BadLimit") (spIni K ["value"]) 1 [0] ["value"]) (m_Stale : MkE P w K mg base 1 "Stale" (He.ga K "Stale") (spIni K ["place"]) 1 [0] ["place"]) (m_BadAnswer : MkE P w K mg base 1 "BadAnswer" (He.ga K "BadAnswer") (spIni K ["place", "given"]) 2 [1, 0] ["given", "place"]) (m_BadFacts : MkE P w K mg base 1 "BadFacts" (He.ga K "BadFacts") (spIni K ["facts"]) 1 [0] ["facts"]) (m_NoPlace : MkE P w K mg base 1 "NoPlace" (He.ga K "NoPlace") (spIni K ["place"]) 1 [0] ["place"]) (m_BadCount : MkE P w K mg base 1 "BadCount" (He.ga K "BadCount") (spIni K ["earlier", "count"]) 2 [1, 0] ["count", "earlier"]) (m_BadSpace : MkE P w K mg base 1 "BadSpace" (He.ga K "BadSpace") (spIni K ["value"]) 1 [0] ["value"]) : Cl P w K mg base (3) "_law_made" (spMade K kA) := by
  obtain ⟨f, fd, F, hm⟩ := F.ex
  exact ⟨f, fd, ["_law_a", "_law_b"], fn__law_made F KO m_NoBranch m_Empty m_NotNumber m_NotTruth m_Wavers m_TooMany m_TooDeep m_BadLimit m_Stale m_BadAnswer m_BadFacts m_NoPlace m_BadCount m_BadSpace, hm, F.kp, F.bindsN fun _ _ _ _ _ _ us hl => match us, hl with | [_, _], _ => rfl⟩
abbrev s__law_more : Stmt := top 39
theorem sc__law_more : FnScope ["_law_a", "_law_b"] ["_law_a", "_law_b"] (defScope s__law_more) := ⟨rfl, rfl, rfl, by decide +kernel, rfl, by decide +kernel, by decide +kernel⟩
theorem fn__law_more {f : Addr} {fd : FuncData} (F : FnP K "_law_more" "_law_more" s__law_more f fd) (KO : KindsOk K) (m_BadStand : MkE P w K mg base 1 "BadStand" (He.ga K "BadStand") (spIni K ["stand"]) 1 [0] ["stand"]) (m_BadPlayer : MkE P w K mg base 1 "BadPlayer" (He.ga K "BadPlayer") (spIni K ["player"]) 1 [0] ["player"]) (m_BadMover : MkE P w K mg base 1 "BadMover" (He.ga K "BadMover") (spIni K ["place", "player"]) 2 [1, 0] ["player", "place"]) (m_BadPlay : MkE P w K mg base 1 "BadPlay" (He.ga K "BadPlay") (spIni K ["count"]) 1 [0] ["count"]) (m_NoAnswerer : MkE P w K mg base 1 "NoAnswerer" (He.ga K "NoAnswerer") (spIni K ["count"]) 1 [0] ["count"]) (m_Mixed : MkE P w K mg base 1 "Mixed" (He.ga K "Mixed") (spIni K ["several"]) 1 [0] ["several"]) (m_BadCorner : MkE P w K mg base 1 "BadCorner" (He.ga K "BadCorner") (spIni K ["place"]) 1 [0] ["place"]) (m_UnlikeSpaces : MkE P w K mg base 1 "UnlikeSpaces" (He.ga K "UnlikeSpaces") (spIni K ["form", "other"]) 2 [1, 0] ["other", "form"]) (m_DividesByZero : MkE P w K mg base 1 "DividesByZero" (He.ga K "DividesByZero") (spIni K ["facts"]) 1 [0] ["facts"]) (m_TooGreat : MkE P w K mg base 1 "TooGreat" (He.ga K "TooGreat") (spIni K ["number"]) 1 [0] ["number"]) (m_TooWide : MkE P w K mg base 1 "TooWide" (He.ga K "TooWide") (spIni K ["width"]) 1 [0] ["width"]) (m_BadPower : MkE P w K mg base 1 "BadPower" (He.ga K "BadPower") (spIni K ["n"]) 1 [0] ["n"]) (m_BadNumber : MkE P w K mg base 1 "BadNumber" (He.ga K "BadNumber") (spIni K ["number"]) 1 [0] ["number"]) (m_NotFree : MkE P w K mg base 1 "NotFree" (He.ga K "NotFree") (spIni K ["form"]) 1 [0] ["form"]) : FnOk P w K mg base CX0 (3) f fd ["_law_a", "_law_b"] (spMade K kB) := by
  refine F.ok sc__law_more (fun vs H Q E h => by obtain ⟨_, _, rfl, _⟩ := h; rfl) (fun cdv A outer s H vs Q E hr h => ⟨t__law_more K, PSs.nox ?_, pure_more KO vs H Q E h⟩)
  exact (pss_one (ps_ret (pe_lst (pa_cons (pe_tup (pa_cons pe_str (pa_cons (FL.pmx m_NotFree hr (by omega) (by rfl) (pa_cons (pv 0) pa_nil)) (pa_cons (FL.pmk m_NotFree hr (by omega) (by rfl) (pk_cons (pv 0) pk_nil)) pa_nil)))) (pa_cons (pe_tup (pa_cons pe_str (pa_cons (FL.pmx m_BadNumber hr (by omega) (by rfl) (pa_cons (pv 0) pa_nil)) (pa_cons (FL.pmk m_BadNumber hr (by omega) (by rfl) (pk_cons (pv 0) pk_nil)) pa_nil)))) (pa_cons (pe_tup (pa_cons pe_str (pa_cons (FL.pmx m_BadPower hr (by omega) (by rfl) (pa_cons (pv 0) pa_nil)) (pa_cons (FL.pmk m_BadPower hr (by omega) (by rfl) (pk_cons (pv 0) pk_nil)) pa_nil)))) (pa_cons (pe_tup (pa_cons pe_str (pa_cons (FL.pmx m_TooWide hr (by omega) (by rfl) (pa_cons (pv 0) pa_nil)) (pa_cons (FL.pmk m_TooWide hr (by omega) (by rfl) (pk_cons (pv 0) pk_nil)) pa_nil)))) (pa_cons (pe_tup (pa_cons pe_str (pa_cons (FL.pmx m_TooGreat hr (by omega) (by rfl) (pa_cons (pv 0) pa_nil)) (pa_cons (FL.pmk m_TooGreat hr (by omega) (by rfl) (pk_cons (pv 0) pk_nil)) pa_nil)))) (pa_cons (pe_tup (pa_cons pe_str (pa_cons (FL.pmx m_DividesByZero hr (by omega) (by rfl) (pa_cons (pv 0) pa_nil)) (pa_cons (FL.pmk m_DividesByZero hr (by omega) (by rfl) (pk_cons (pv 0) pk_nil)) pa_nil)))) (pa_cons (pe_tup (pa_cons pe_str (pa_cons (FL.pmx m_UnlikeSpaces hr (by omega) (by rfl) (pa_cons (pv 0) (pa_cons (pv 1) pa_nil))) (pa_cons (FL.pmk m_UnlikeSpaces hr (by omega) (by rfl) (pk_cons (pv 1) (pk_cons (pv 0) pk_nil))) pa_nil)))) (pa_cons (pe_tup (pa_cons pe_str (pa_cons (FL.pmx m_BadCorner hr (by omega) (by rfl) (pa_cons (pv 0) pa_nil)) (pa_cons (FL.pmk m_BadCorner hr (by omega) (by rfl) (pk_cons (pv 0) pk_nil)) pa_nil)))) (pa_cons (pe_tup (pa_cons pe_str (pa_cons (FL.pmx m_Mixed hr (by omega) (by rfl) (pa_cons (pv 0) pa_nil)) (pa_cons (FL.pmk m_Mixed hr (by omega) (by rfl) (pk_cons (pv 0) pk_nil)) pa_nil)))) (pa_cons (pe_tup (pa_cons pe_str (pa_cons (FL.pmx m_NoAnswerer hr (by omega) (by rfl) (pa_cons (pv 0) pa_nil)) (pa_cons (FL.pmk m_NoAnswerer hr (by omega) (by rfl) (pk_cons (pv 0) pk_nil)) pa_nil)))) (pa_cons (pe_tup (pa_cons pe_str (pa_cons (FL.pmx m_BadPlay hr (by omega) (by rfl) (pa_cons (pv 0) pa_nil)) (pa_cons (FL.pmk m_BadPlay hr (by omega) (by rfl) (pk_cons (pv 0) pk_nil)) pa_nil)))) (pa_cons (pe_tup (pa_cons pe_str (pa_cons (FL.pmx m_BadMover hr (by omega) (by rfl) (pa_cons (pv 0) (pa_cons (pv 1) pa_nil))) (pa_cons (FL.pmk m_BadMover hr (by omega) (by rfl) (pk_cons (pv 1) (pk_cons (pv 0) pk_nil))) pa_nil)))) (pa_cons (pe_tup (pa_cons pe_str (pa_cons (FL.pmx m_BadPlayer hr (by omega) (by rfl) (pa_cons (pv 0) pa_nil)) (pa_cons (FL.pmk m_BadPlayer hr (by omega) (by rfl) (pk_cons (pv 0) pk_nil)) pa_nil)))) (pa_cons (pe_tup (pa_cons pe_str (pa_cons (FL.pmx m_BadStand hr (by omega) (by rfl) (pa_cons (pv 0) pa_nil)) (pa_cons (FL.pmk m_BadStand hr (by omega) (by rfl) (pk_cons (pv 0) pk_nil)) pa_nil)))) pa_nil)))))))))))))))))
theorem cl__law_more (F : Fx K mg "_law_more" s__law_more) (KO : KindsOk K) (m_BadStand : MkE P w K mg base 1 "BadStand" (He.ga K "BadStand") (spIni K ["stand"]) 1 [0] ["stand"]) (m_BadPlayer : MkE P w K mg base 1 "BadPlayer" (He.ga K "BadPlayer") (spIni K ["player"]) 1 [0] ["player"]) (m_BadMover : MkE P w K mg base 1 "BadMover" (He.ga K "BadMover") (spIni K ["place", "player"]) 2 [1, 0] ["player", "place"]) (m_BadPlay : MkE P w K mg base 1 "BadPlay" (He.ga K "BadPlay") (spIni K ["count"]) 1 [0] ["count"]) (m_NoAnswerer : MkE P w K mg base 1 "NoAnswerer" (He.ga K "NoAnswerer") (spIni K ["count"]) 1 [0] ["count"]) (m_Mixed : MkE P w K mg base 1 "Mixed" (He.ga K "Mixed") (spIni K ["several"]) 1 [0] ["several"]) (m_BadCorner : MkE P w K mg base 1 "BadCorner" (He.ga K "BadCorner") (spIni K ["place"]) 1 [0] ["place"]) (m_UnlikeSpaces : MkE P w K mg base 1 "UnlikeSpaces" (He.ga K "UnlikeSpaces") (spIni K ["form", "other"]) 2 [1, 0] ["other", "form"]) (m_DividesByZero : MkE P w K mg base 1 "DividesByZero" (He.ga K "DividesByZero") (spIni K ["facts"]) 1 [0] ["facts"]) (m_TooGreat : MkE P w K mg base 1 "TooGreat" (He.ga K "TooGreat") (spIni K ["number"]) 1 [0] ["number"]) (m_TooWide : MkE P w K mg base 1 "TooWide" (He.ga K "TooWide") (spIni K ["width"]) 1 [0] ["width"]) (m_BadPower : MkE P w K mg base 1 "BadPower" (He.ga K "BadPower") (spIni K ["n"]) 1 [0] ["n"]) (m_BadNumber : MkE P w K mg base 1 "BadNumber" (He.ga K "BadNumber") (spIni K ["number"]) 1 [0] ["number"]) (m_NotFree : MkE P w K mg base 1 "NotFree" (He.ga K "NotFree") (spIni K ["form"]) 1 [0] ["form"]) : Cl P w K mg base (3) "_law_more" (spMade K kB) := by
  obtain ⟨f, fd, F, hm⟩ := F.ex
  exact ⟨f, fd, ["_law_a", "_law_b"], fn__law_more F KO m_BadStand m_BadPlayer m_BadMover m_BadPlay m_NoAnswerer m_Mixed m_BadCorner m_UnlikeSpaces m_DividesByZero m_TooGreat m_TooWide m_BadPower m_BadNumber m_NotFree, hm, F.kp, F.bindsN fun _ _ _ _ _ _ us hl => match us, hl with | [_, _], _ => rfl⟩
abbrev s__law_thing : Stmt := top 40
theorem sc__law_thing : FnScope ["_law_draws", "_law_way", "_law_k"] ["_law_draws"] (defScope s__law_thing) := ⟨rfl, rfl, rfl, by decide +kernel, rfl, by decide +kernel, by decide +kernel⟩
theorem fn__law_thing {f : Addr} {fd : FuncData} (F : FnP K "_law_thing" "_law_thing" s__law_thing f fd) (z_range : mg "range" = none) (c__law_draw : Cl P w K mg base (1) "_law_draw" (spDraw)) (c__law_pick : Cl P w K mg base (2) "_law_pick" (spPickS)) : FnOk P w K mg base CX0 (3) f fd ["_law_draws"] (spThing) := by
  refine F.ok sc__law_thing (fun vs H Q E h => by obtain ⟨_, _, rfl, _⟩ := h; rfl) (fun cdv A outer s H vs Q E hr h => ⟨t__law_thing K (spDraw) (spPickS), PSs.nox ?_, pure_thing vs H Q E h⟩)
  exact (pss_cons (ps_set (i := 1) sc__law_thing.nd rfl (.inl rfl) (FL.pc c__law_draw hr (by omega) (by rfl) (pa_cons (pv 0) (pa_cons pe_int pa_nil))))
  (pss_cons (ps_if (pt_cmpR op_lt (pv 1) pe_int (nomark _)) (pss_one (ps_ret (pe_op op_sub (FL.pc c__law_draw hr (by omega) (by rfl) (pa_cons (pv 0) (pa_cons (pe_op op_pow pe_int pe_int) pa_nil))) (pe_op op_mul pe_int (pe_op op_pow pe_int pe_int))))) pss_nil)
  (pss_cons (ps_if (pt_cmpR op_eq (pv 1) pe_int (nomark _)) (pss_one (ps_ret (pe_join pe_str (pe_lc (own := [("_law_k", 2)]) (g := (gName 2)) (tt := tYes) rfl sc__law_thing.nd (pi_range1 (by rfl) z_range (pa_cons (FL.pc c__law_draw hr (by omega) (by rfl) (pa_cons (pv 0) (pa_cons pe_int pa_nil))) pa_nil)) (blkOk_by (own := [("_law_k", 2)]) (N := ["_law_draws", "_law_way", "_law_k"]) (sc := defScope s__law_thing) (by decide +kernel)) (fun _ _ _ _ _ => (pg_name (i := 2) sc__law_thing.nd rfl (.inl rfl))) (fun _ _ _ _ _ => pts_nil) (fun _ _ _ _ _ => (FL.pc c__law_pick hr (by omega) (by rfl) (pa_cons (pv 0) (pa_cons pe_str pa_nil)))))))) pss_nil)
  (pss_cons (ps_if (pt_cmpR op_eq (pv 1) pe_int (nomark _)) (pss_one (ps_ret (pe_tup (pa_cons (pe_tup (pa_cons (FL.pc c__law_draw hr (by omega) (by rfl) (pa_cons (pv 0) (pa_cons pe_int pa_nil))) (pa_cons (FL.pc c__law_draw hr (by omega) (by rfl) (pa_cons (pv 0) (pa_cons pe_int pa_nil))) pa_nil))) (pa_cons (FL.pc c__law_draw hr (by omega) (by rfl) (pa_cons (pv 0) (pa_cons pe_int pa_nil))) pa_nil))))) pss_nil)
  (pss_cons (ps_if (pt_cmpR op_eq (pv 1) pe_int (nomark _)) (pss_one (ps_ret (pe_tup (pa_cons (FL.pc c__law_draw hr (by omega) (by rfl) (pa_cons (pv 0) (pa_cons pe_int pa_nil))) pa_nil)))) pss_nil)
  (pss_cons (ps_if (pt_cmpR op_eq (pv 1) pe_int (nomark _)) (pss_one (ps_ret (FL.pe_dis1 (FL.u2 hr) (pe_tup (pa_cons (FL.pc c__law_draw hr (by omega) (by rfl) (pa_cons (pv 0) (pa_cons pe_int pa_nil))) pa_nil)) pe_int))) pss_nil)
  (pss_one (ps_ret pe_non))))))))
theorem cl__law_thing (F : Fx K mg "_law_thing" s__law_thing) (z_range : mg "range" = none) (c__law_draw : Cl P w K mg base (1) "_law_draw" (spDraw)) (c__law_pick : Cl P w K mg base (2) "_law_pick" (spPickS)) : Cl P w K mg base (3) "_law_thing" (spThing) := by
  obtain ⟨f, fd, F, hm⟩ := F.ex
  exact ⟨f, fd, ["_law_draws"], fn__law_thing F z_range c__law_draw c__law_pick, hm, F.kp, F.bindsN fun _ _ _ _ _ _ us hl => match us, hl with | [_], _ => rfl⟩
abbrev s_law : Stmt := top 41
theorem sc_law : FnScope ["_law_script", "_law_draws", "_law_a", "_law_b", "_law_name", "_law_one", "_law_two", "_law_e"] ["_law_script"] (defScope s_law) := ⟨rfl, rfl, rfl, by decide +kernel, rfl, by decide +kernel, by decide +kernel⟩
theorem fn_law {f : Addr} {fd : FuncData} (F : FnP K "law" "law" s_law f fd) (z_isinstance : mg "isinstance" = none) (z_ValueError : mg "ValueError" = none) (z_len : mg "len" = none) (KO : KindsOk K) (g_LooksError : mg "LooksError" = some (.ref (He.ga K "LooksError"))) (c__law_source : Cl P w K mg base (1) "_law_source" (spSource K)) (c__law_thing : Cl P w K mg base (3) "_law_thing" (spThing)) (c__law_made : Cl P w K mg base (3) "_law_made" (spMade K kA)) (c__law_more : Cl P w K mg base (3) "_law_more" (spMade K kB)) (c__law_kinds : Cl P w K mg base (1) "_law_kinds" (spKinds K nA)) (c__law_others : Cl P w K mg base (1) "_law_others" (spKinds K nB)) (c__law_same : Cl P w K mg base (7) "_law_same" (spSameD 7)) (c__law_fields : Cl P w K mg base (1) "_law_fields" (spFields K)) : FnOk P w K mg base CX0 (9) f fd ["_law_script"] (spLaw K) := by
  refine F.ok sc_law (fun vs H Q E h => by obtain ⟨_, _, rfl, _⟩ := h; rfl) (fun cdv A outer s H vs Q E hr h => ⟨t_law K (spSource K) (spThing) (spMade K kA) (spMade K kB) (spKinds K nA) (spKinds K nB) (spSameD 7) (spFields K), PSs.nox ?_, pure_law KO vs H Q E h⟩)
  exact (pss_cons (ps_set (i := 1) sc_law.nd rfl (.inl rfl) (FL.pc c__law_source hr (by omega) (by rfl) (pa_cons (pv 0) (pa_cons pe_int pa_nil))))
  (pss_cons (ps_par rfl sc_law.nd rfl rfl (by decide) rfl rfl (pa_cons (FL.pc c__law_thing hr (by omega) (by rfl) (pa_cons (pv 1) pa_nil)) (pa_cons (FL.pc c__law_thing hr (by omega) (by rfl) (pa_cons (pv 1) pa_nil)) pa_nil)) (by rfl))
  (pss_cons (ps_for PassesOwn.never rfl (pi_list (pe_op op_cat (FL.pc c__law_made hr (by omega) (by rfl) (pa_cons (pv 2) (pa_cons (pv 3) pa_nil))) (FL.pc c__law_more hr (by omega) (by rfl) (pa_cons (pv 2) (pa_cons (pv 3) pa_nil))))) (pg_tup rfl (pgs_cons (pg_name (i := 4) sc_law.nd rfl (.inl rfl)) (pgs_cons (pg_name (i := 5) sc_law.nd rfl (.inl rfl)) (pgs_cons (pg_name (i := 6) sc_law.nd rfl (.inl rfl)) pgs_nil))))
  (pss_one (ps_for PassesOwn.never rfl (pi_tup (pe_tup (pa_cons (pv 5) (pa_cons (pv 6) pa_nil)))) (pg_name (i := 7) sc_law.nd rfl (.inl rfl))
  (pss_cons (ps_if (PW.pt (pw_or (pt_not (pt_val (pe_callB FL.call_isX (by rfl) z_isinstance (by decide +kernel) (pa_cons (pv 7) (pa_cons (pe_glob (by rfl) g_LooksError rfl) pa_nil))))) (pw_or1 (pt_not (pt_val (pe_callB FL.call_isX (by rfl) z_isinstance (by decide +kernel) (pa_cons (pv 7) (pa_cons (pe_bltn (by rfl) z_ValueError (by decide +kernel) rfl) pa_nil)))))))) (pss_one (ps_ret pe_bl)) pss_nil)
  (pss_cons (ps_if (pt_cmpR (op_neD hr.units) (pe_op op_cat (FL.pc c__law_kinds hr (by omega) (by rfl) (pa_cons (pv 7) pa_nil)) (FL.pc c__law_others hr (by omega) (by rfl) (pa_cons (pv 7) pa_nil))) (pe_lst (pa_cons (pv 4) pa_nil)) (nomark _)) (pss_one (ps_ret pe_bl)) pss_nil)
  (pss_one (ps_if (pt_not (pt_val (FL.pc c__law_same hr (by omega) (by rfl) (pa_cons (FL.pc c__law_fields hr (by omega) (by rfl) (pa_cons (pv 4) (pa_cons (pv 7) pa_nil))) (pa_cons (pe_slice sl_list (pe_lst (pa_cons (pv 2) (pa_cons (pv 3) pa_nil))) po_none (po_some (pe_callB call_len (by rfl) z_len (by decide +kernel) (pa_cons (FL.pc c__law_fields hr (by omega) (by rfl) (pa_cons (pv 4) (pa_cons (pv 7) pa_nil))) pa_nil)))) pa_nil))))) (pss_one (ps_ret pe_bl)) pss_nil)))))))
  (pss_one (ps_ret pe_bl)))))
end
def dd__law_source : He.DefD := ⟨("_law_source", none), "_law_source", "_law_source", defArgs s__law_source, defBody s__law_source, defScope s__law_source, [], []⟩
def dd__law_draw : He.DefD := ⟨("_law_draw", none), "_law_draw", "_law_draw", defArgs s__law_draw, defBody s__law_draw, defScope s__law_draw, [], []⟩
def dd__law_pick : He.DefD := ⟨("_law_pick", none), "_law_pick", "_law_pick", defArgs s__law_pick, defBody s__law_pick, defScope s__law_pick, [], []⟩
def dd__law_same : He.DefD := ⟨("_law_same", none), "_law_same", "_law_same", defArgs s__law_same, defBody s__law_same, defScope s__law_same, [], []⟩
def dd__law_fields : He.DefD := ⟨("_law_fields", none), "_law_fields", "_law_fields", defArgs s__law_fields, defBody s__law_fields, defScope s__law_fields, [], []⟩
def dd__law_kinds : He.DefD := ⟨("_law_kinds", none), "_law_kinds", "_law_kinds", defArgs s__law_kinds, defBody s__law_kinds, defScope s__law_kinds, [], []⟩
def dd__law_others : He.DefD := ⟨("_law_others", none), "_law_others", "_law_others", defArgs s__law_others, defBody s__law_others, defScope s__law_others, [], []⟩
def dd__law_made : He.DefD := ⟨("_law_made", none), "_law_made", "_law_made", defArgs s__law_made, defBody s__law_made, defScope s__law_made, [], []⟩
def dd__law_more : He.DefD := ⟨("_law_more", none), "_law_more", "_law_more", defArgs s__law_more, defBody s__law_more, defScope s__law_more, [], []⟩
def dd__law_thing : He.DefD := ⟨("_law_thing", none), "_law_thing", "_law_thing", defArgs s__law_thing, defBody s__law_thing, defScope s__law_thing, [], []⟩
def dd_law : He.DefD := ⟨("law", none), "law", "law", defArgs s_law, defBody s_law, defScope s_law, [], []⟩
def dd_BadSpace___init__ : He.DefD := ⟨("BadSpace", some "__init__"), "__init__", "BadSpace.__init__", defArgs s_BadSpace___init__, defBody s_BadSpace___init__, defScope s_BadSpace___init__, [], []⟩
def dd_BadCount___init__ : He.DefD := ⟨("BadCount", some "__init__"), "__init__", "BadCount.__init__", defArgs s_BadCount___init__, defBody s_BadCount___init__, defScope s_BadCount___init__, [], []⟩
def dd_NoPlace___init__ : He.DefD := ⟨("NoPlace", some "__init__"), "__init__", "NoPlace.__init__", defArgs s_NoPlace___init__, defBody s_NoPlace___init__, defScope s_NoPlace___init__, [], []⟩
def dd_BadFacts___init__ : He.DefD := ⟨("BadFacts", some "__init__"), "__init__", "BadFacts.__init__", defArgs s_BadFacts___init__, defBody s_BadFacts___init__, defScope s_BadFacts___init__, [], []⟩
def dd_BadAnswer___init__ : He.DefD := ⟨("BadAnswer", some "__init__"), "__init__", "BadAnswer.__init__", defArgs s_BadAnswer___init__, defBody s_BadAnswer___init__, defScope s_BadAnswer___init__, [], []⟩
def dd_Stale___init__ : He.DefD := ⟨("Stale", some "__init__"), "__init__", "Stale.__init__", defArgs s_Stale___init__, defBody s_Stale___init__, defScope s_Stale___init__, [], []⟩
def dd_BadLimit___init__ : He.DefD := ⟨("BadLimit", some "__init__"), "__init__", "BadLimit.__init__", defArgs s_BadLimit___init__, defBody s_BadLimit___init__, defScope s_BadLimit___init__, [], []⟩
def dd_TooDeep___init__ : He.DefD := ⟨("TooDeep", some "__init__"), "__init__", "TooDeep.__init__", defArgs s_TooDeep___init__, defBody s_TooDeep___init__, defScope s_TooDeep___init__, [], []⟩
def dd_TooMany___init__ : He.DefD := ⟨("TooMany", some "__init__"), "__init__", "TooMany.__init__", defArgs s_TooMany___init__, defBody s_TooMany___init__, defScope s_TooMany___init__, [], []⟩
def dd_Wavers___init__ : He.DefD := ⟨("Wavers", some "__init__"), "__init__", "Wavers.__init__", defArgs s_Wavers___init__, defBody s_Wavers___init__, defScope s_Wavers___init__, [], []⟩
def dd_NotTruth___init__ : He.DefD := ⟨("NotTruth", some "__init__"), "__init__", "NotTruth.__init__", defArgs s_NotTruth___init__, defBody s_NotTruth___init__, defScope s_NotTruth___init__, [], []⟩
def dd_NotNumber___init__ : He.DefD := ⟨("NotNumber", some "__init__"), "__init__", "NotNumber.__init__", defArgs s_NotNumber___init__, defBody s_NotNumber___init__, defScope s_NotNumber___init__, [], []⟩
def dd_Empty___init__ : He.DefD := ⟨("Empty", some "__init__"), "__init__", "Empty.__init__", defArgs s_Empty___init__, defBody s_Empty___init__, defScope s_Empty___init__, [], []⟩
def dd_NoBranch___init__ : He.DefD := ⟨("NoBranch", some "__init__"), "__init__", "NoBranch.__init__", defArgs s_NoBranch___init__, defBody s_NoBranch___init__, defScope s_NoBranch___init__, [], []⟩
def dd_NotFree___init__ : He.DefD := ⟨("NotFree", some "__init__"), "__init__", "NotFree.__init__", defArgs s_NotFree___init__, defBody s_NotFree___init__, defScope s_NotFree___init__, [], []⟩
def dd_BadNumber___init__ : He.DefD := ⟨("BadNumber", some "__init__"), "__init__", "BadNumber.__init__", defArgs s_BadNumber___init__, defBody s_BadNumber___init__, defScope s_BadNumber___init__, [], []⟩
def dd_BadPower___init__ : He.DefD := ⟨("BadPower", some "__init__"), "__init__", "BadPower.__init__", defArgs s_BadPower___init__, defBody s_BadPower___init__, defScope s_BadPower___init__, [], []⟩
def dd_TooWide___init__ : He.DefD := ⟨("TooWide", some "__init__"), "__init__", "TooWide.__init__", defArgs s_TooWide___init__, defBody s_TooWide___init__, defScope s_TooWide___init__, [], []⟩
def dd_TooGreat___init__ : He.DefD := ⟨("TooGreat", some "__init__"), "__init__", "TooGreat.__init__", defArgs s_TooGreat___init__, defBody s_TooGreat___init__, defScope s_TooGreat___init__, [], []⟩
def dd_DividesByZero___init__ : He.DefD := ⟨("DividesByZero", some "__init__"), "__init__", "DividesByZero.__init__", defArgs s_DividesByZero___init__, defBody s_DividesByZero___init__, defScope s_DividesByZero___init__, [], []⟩
def dd_UnlikeSpaces___init__ : He.DefD := ⟨("UnlikeSpaces", some "__init__"), "__init__", "UnlikeSpaces.__init__", defArgs s_UnlikeSpaces___init__, defBody s_UnlikeSpaces___init__, defScope s_UnlikeSpaces___init__, [], []⟩
def dd_BadCorner___init__ : He.DefD := ⟨("BadCorner", some "__init__"), "__init__", "BadCorner.__init__", defArgs s_BadCorner___init__, defBody s_BadCorner___init__, defScope s_BadCorner___init__, [], []⟩
def dd_Mixed___init__ : He.DefD := ⟨("Mixed", some "__init__"), "__init__", "Mixed.__init__", defArgs s_Mixed___init__, defBody s_Mixed___init__, defScope s_Mixed___init__, [], []⟩
def dd_NoAnswerer___init__ : He.DefD := ⟨("NoAnswerer", some "__init__"), "__init__", "NoAnswerer.__init__", defArgs s_NoAnswerer___init__, defBody s_NoAnswerer___init__, defScope s_NoAnswerer___init__, [], []⟩
def dd_BadPlay___init__ : He.DefD := ⟨("BadPlay", some "__init__"), "__init__", "BadPlay.__init__", defArgs s_BadPlay___init__, defBody s_BadPlay___init__, defScope s_BadPlay___init__, [], []⟩
def dd_BadMover___init__ : He.DefD := ⟨("BadMover", some "__init__"), "__init__", "BadMover.__init__", defArgs s_BadMover___init__, defBody s_BadMover___init__, defScope s_BadMover___init__, [], []⟩
def dd_BadPlayer___init__ : He.DefD := ⟨("BadPlayer", some "__init__"), "__init__", "BadPlayer.__init__", defArgs s_BadPlayer___init__, defBody s_BadPlayer___init__, defScope s_BadPlayer___init__, [], []⟩
def dd_BadStand___init__ : He.DefD := ⟨("BadStand", some "__init__"), "__init__", "BadStand.__init__", defArgs s_BadStand___init__, defBody s_BadStand___init__, defScope s_BadStand___init__, [], []⟩
def hfn : List He.DefD := [dd__law_source, dd__law_draw, dd__law_pick, dd__law_same, dd__law_fields, dd__law_kinds, dd__law_others, dd__law_made, dd__law_more, dd__law_thing, dd_law, dd_BadSpace___init__, dd_BadCount___init__, dd_NoPlace___init__, dd_BadFacts___init__, dd_BadAnswer___init__, dd_Stale___init__, dd_BadLimit___init__, dd_TooDeep___init__, dd_TooMany___init__, dd_Wavers___init__, dd_NotTruth___init__, dd_NotNumber___init__, dd_Empty___init__, dd_NoBranch___init__, dd_NotFree___init__, dd_BadNumber___init__, dd_BadPower___init__, dd_TooWide___init__, dd_TooGreat___init__, dd_DividesByZero___init__, dd_UnlikeSpaces___init__, dd_BadCorner___init__, dd_Mixed___init__, dd_NoAnswerer___init__, dd_BadPlay___init__, dd_BadMover___init__, dd_BadPlayer___init__, dd_BadStand___init__]
def hfa : List He.Fa := [.glo "_law_source", .glo "_law_draw", .glo "_law_pick", .glo "_law_same", .glo "_law_fields", .glo "_law_kinds", .glo "_law_others", .glo "_law_made", .glo "_law_more", .glo "_law_thing", .glo "law", .free "len", .free "int", .free "tuple", .free "list", .free "isinstance", .free "zip", .free "all", .free "dict", .free "bool", .free "range", .free "ValueError", .glo "BadSpace", .glo "BadCount", .glo "NoPlace", .glo "BadFacts", .glo "BadAnswer", .glo "Stale", .glo "BadLimit", .glo "TooDeep", .glo "TooMany", .glo "Wavers", .glo "NotTruth", .glo "NotNumber", .glo "Empty", .glo "NoBranch", .glo "NotFree", .glo "BadNumber", .glo "BadPower", .glo "TooWide", .glo "TooGreat", .glo "DividesByZero", .glo "UnlikeSpaces", .glo "BadCorner", .glo "Mixed", .glo "NoAnswerer", .glo "BadPlay", .glo "BadMover", .glo "BadPlayer", .glo "BadStand", .glo "LooksError", .meth "BadSpace" "__init__", .meth "BadCount" "__init__", .meth "NoPlace" "__init__", .meth "BadFacts" "__init__", .meth "BadAnswer" "__init__", .meth "Stale" "__init__", .meth "BadLimit" "__init__", .meth "TooDeep" "__init__", .meth "TooMany" "__init__", .meth "Wavers" "__init__", .meth "NotTruth" "__init__", .meth "NotNumber" "__init__", .meth "Empty" "__init__", .meth "NoBranch" "__init__", .meth "NotFree" "__init__", .meth "BadNumber" "__init__", .meth "BadPower" "__init__", .meth "TooWide" "__init__", .meth "TooGreat" "__init__", .meth "DividesByZero" "__init__", .meth "UnlikeSpaces" "__init__", .meth "BadCorner" "__init__", .meth "Mixed" "__init__", .meth "NoAnswerer" "__init__", .meth "BadPlay" "__init__", .meth "BadMover" "__init__", .meth "BadPlayer" "__init__", .meth "BadStand" "__init__"]
abbrev R : PySem.W.OpenRow := PySem.W.OpenLaw.row PySem.Challenge.rw_finitelooks_k01_errors_made
def obsX (K : PySem.W.Frag) : He.AlD := (kindsB K && (He.obsD hfa hfn K).1, (He.obsD hfa hfn K).2)
def obsXG (g : Addr → Option Obj) : He.AlD := obsX (He.frG g (He.asD g 6))
theorem obsX_ok {K : PySem.W.Frag} (e : obsX K = He.valD hfn) : kindsB K = true ∧ He.SaysD hfa hfn K := by
  have e1 : (kindsB K && (He.obsD hfa hfn K).1) = true := congrArg (fun z : He.AlD => z.1) e
  have e2 : (obsX K).2 = (He.valD hfn).2 := congrArg (fun z : He.AlD => z.2) e
  obtain ⟨h1, h2⟩ := He.ba e1
  exact ⟨h1, Prod.ext h2 e2⟩
def hk : PySem.W.Hook where
  α := He.AlD
  obs := fun s => obsXG s.heap.get?
  val := fun _ => He.valD hfn
  says := fun _ h => ∃ K : PySem.W.Frag, K.In h ∧ kindsB K = true ∧ He.SaysD hfa hfn K
  of := fun _ _ e => ⟨_, He.frG_in, obsX_ok e⟩
  keeps := fun _ _ _ ⟨K, hK, c⟩ k => ⟨K, PySem.W.Frag.In.keeps hK k, c⟩
def ob (s : PySem.W.SharedT) : He.AlD := obsXG (HandSHeadRun.getT s)
theorem ob_eq (s : PySem.W.SharedT) : ob s = hk.obs s.abs := by
  have e : HandSHeadRun.getT s = s.abs.heap.get? := funext (HandSHeadRun.getT_eq s)
  unfold ob
  rw [e] <;> rfl
def hnames : List PySem.Str := "LooksError" :: "BadSpace" :: "BadCount" :: "NoPlace" :: "BadFacts" :: "BadAnswer" :: "Stale" :: "BadLimit" :: "TooDeep" :: "TooMany" :: "Wavers" :: "NotTruth" :: "NotNumber" :: "Empty" :: "NoBranch" :: "NotFree" :: "BadNumber" :: "BadPower" :: "TooWide" :: "TooGreat" :: "DividesByZero" :: "UnlikeSpaces" :: "BadCorner" :: "Mixed" :: "NoAnswerer" :: "BadPlay" :: "BadMover" :: "BadPlayer" :: "BadStand" :: "_law_source" :: "_law_draw" :: "_law_pick" :: "_law_same" :: "_law_fields" :: "_law_kinds" :: "_law_others" :: "_law_made" :: "_law_more" :: "_law_thing" :: []
theorem run (w : World) : HandSHeadRun.RunEq R (PySem.W.view R.prog [41]) hk ob 12000 hnames w := by
  intro os
  kernel_rfl
theorem facts {P : Program} {w : World} {K : PySem.W.Frag} {h : Heap} {mg : Str → Option Value} {f : Addr} (X : K.In h) (G : h.Ns mainGlobals mg) (hfa0 : mg ("law" : Str) = some (.ref f)) (KO : KindsOk K) (c : He.SaysD hfa hfn K) :
    ∃ fd : FuncData, (∀ (s : Shared) (v : Value), BindsTo s fd ⟨[v], []⟩ [("_law_script", v)]) ∧ ∀ base : Heap, K.In base → base.Ns mainGlobals mg → FnOk P w K mg base CX0 (9) f fd ["_law_script"] (spLaw K) := by
  have F__law_source : Fx K mg "_law_source" s__law_source := by
    obtain ⟨fd, F⟩ := c.def_ 0 (d := dd__law_source) rfl
    exact ⟨_, fd, F, He.glo_ok X G (c.fact 0 (f := .glo "_law_source") rfl)⟩
  have F__law_draw : Fx K mg "_law_draw" s__law_draw := by
    obtain ⟨fd, F⟩ := c.def_ 1 (d := dd__law_draw) rfl
    exact ⟨_, fd, F, He.glo_ok X G (c.fact 1 (f := .glo "_law_draw") rfl)⟩
  have F__law_pick : Fx K mg "_law_pick" s__law_pick := by
    obtain ⟨fd, F⟩ := c.def_ 2 (d := dd__law_pick) rfl
    exact ⟨_, fd, F, He.glo_ok X G (c.fact 2 (f := .glo "_law_pick") rfl)⟩
  have F__law_same : Fx K mg "_law_same" s__law_same := by
    obtain ⟨fd, F⟩ := c.def_ 3 (d := dd__law_same) rfl
    exact ⟨_, fd, F, He.glo_ok X G (c.fact 3 (f := .glo "_law_same") rfl)⟩
  have F__law_fields : Fx K mg "_law_fields" s__law_fields := by
    obtain ⟨fd, F⟩ := c.def_ 4 (d := dd__law_fields) rfl
    exact ⟨_, fd, F, He.glo_ok X G (c.fact 4 (f := .glo "_law_fields") rfl)⟩
  have F__law_kinds : Fx K mg "_law_kinds" s__law_kinds := by
    obtain ⟨fd, F⟩ := c.def_ 5 (d := dd__law_kinds) rfl
    exact ⟨_, fd, F, He.glo_ok X G (c.fact 5 (f := .glo "_law_kinds") rfl)⟩
  have F__law_others : Fx K mg "_law_others" s__law_others := by
    obtain ⟨fd, F⟩ := c.def_ 6 (d := dd__law_others) rfl
    exact ⟨_, fd, F, He.glo_ok X G (c.fact 6 (f := .glo "_law_others") rfl)⟩
  have F__law_made : Fx K mg "_law_made" s__law_made := by
    obtain ⟨fd, F⟩ := c.def_ 7 (d := dd__law_made) rfl
    exact ⟨_, fd, F, He.glo_ok X G (c.fact 7 (f := .glo "_law_made") rfl)⟩
  have F__law_more : Fx K mg "_law_more" s__law_more := by
    obtain ⟨fd, F⟩ := c.def_ 8 (d := dd__law_more) rfl
    exact ⟨_, fd, F, He.glo_ok X G (c.fact 8 (f := .glo "_law_more") rfl)⟩
  have F__law_thing : Fx K mg "_law_thing" s__law_thing := by
    obtain ⟨fd, F⟩ := c.def_ 9 (d := dd__law_thing) rfl
    exact ⟨_, fd, F, He.glo_ok X G (c.fact 9 (f := .glo "_law_thing") rfl)⟩
  have F_law : Fx K mg "law" s_law := by
    obtain ⟨fd, F⟩ := c.def_ 10 (d := dd_law) rfl
    exact ⟨_, fd, F, He.glo_ok X G (c.fact 10 (f := .glo "law") rfl)⟩
  have z_len : mg "len" = none := He.free_ok X G (c.fact 11 (f := .free "len") rfl)
  have z_int : mg "int" = none := He.free_ok X G (c.fact 12 (f := .free "int") rfl)
  have z_tuple : mg "tuple" = none := He.free_ok X G (c.fact 13 (f := .free "tuple") rfl)
  have z_list : mg "list" = none := He.free_ok X G (c.fact 14 (f := .free "list") rfl)
  have z_isinstance : mg "isinstance" = none := He.free_ok X G (c.fact 15 (f := .free "isinstance") rfl)
  have z_zip : mg "zip" = none := He.free_ok X G (c.fact 16 (f := .free "zip") rfl)
  have z_all : mg "all" = none := He.free_ok X G (c.fact 17 (f := .free "all") rfl)
  have z_dict : mg "dict" = none := He.free_ok X G (c.fact 18 (f := .free "dict") rfl)
  have z_bool : mg "bool" = none := He.free_ok X G (c.fact 19 (f := .free "bool") rfl)
  have z_range : mg "range" = none := He.free_ok X G (c.fact 20 (f := .free "range") rfl)
  have z_ValueError : mg "ValueError" = none := He.free_ok X G (c.fact 21 (f := .free "ValueError") rfl)
  have g_BadSpace : mg "BadSpace" = some (.ref (He.ga K "BadSpace")) := He.glo_ok X G (c.fact 22 (f := .glo "BadSpace") rfl)
  have g_BadCount : mg "BadCount" = some (.ref (He.ga K "BadCount")) := He.glo_ok X G (c.fact 23 (f := .glo "BadCount") rfl)
  have g_NoPlace : mg "NoPlace" = some (.ref (He.ga K "NoPlace")) := He.glo_ok X G (c.fact 24 (f := .glo "NoPlace") rfl)
  have g_BadFacts : mg "BadFacts" = some (.ref (He.ga K "BadFacts")) := He.glo_ok X G (c.fact 25 (f := .glo "BadFacts") rfl)
  have g_BadAnswer : mg "BadAnswer" = some (.ref (He.ga K "BadAnswer")) := He.glo_ok X G (c.fact 26 (f := .glo "BadAnswer") rfl)
  have g_Stale : mg "Stale" = some (.ref (He.ga K "Stale")) := He.glo_ok X G (c.fact 27 (f := .glo "Stale") rfl)
  have g_BadLimit : mg "BadLimit" = some (.ref (He.ga K "BadLimit")) := He.glo_ok X G (c.fact 28 (f := .glo "BadLimit") rfl)
  have g_TooDeep : mg "TooDeep" = some (.ref (He.ga K "TooDeep")) := He.glo_ok X G (c.fact 29 (f := .glo "TooDeep") rfl)
  have g_TooMany : mg "TooMany" = some (.ref (He.ga K "TooMany")) := He.glo_ok X G (c.fact 30 (f := .glo "TooMany") rfl)
  have g_Wavers : mg "Wavers" = some (.ref (He.ga K "Wavers")) := He.glo_ok X G (c.fact 31 (f := .glo "Wavers") rfl)
  have g_NotTruth : mg "NotTruth" = some (.ref (He.ga K "NotTruth")) := He.glo_ok X G (c.fact 32 (f := .glo "NotTruth") rfl)
  have g_NotNumber : mg "NotNumber" = some (.ref (He.ga K "NotNumber")) := He.glo_ok X G (c.fact 33 (f := .glo "NotNumber") rfl)
  have g_Empty : mg "Empty" = some (.ref (He.ga K "Empty")) := He.glo_ok X G (c.fact 34 (f := .glo "Empty") rfl)
  have g_NoBranch : mg "NoBranch" = some (.ref (He.ga K "NoBranch")) := He.glo_ok X G (c.fact 35 (f := .glo "NoBranch") rfl)
  have g_NotFree : mg "NotFree" = some (.ref (He.ga K "NotFree")) := He.glo_ok X G (c.fact 36 (f := .glo "NotFree") rfl)
  have g_BadNumber : mg "BadNumber" = some (.ref (He.ga K "BadNumber")) := He.glo_ok X G (c.fact 37 (f := .glo "BadNumber") rfl)
  have g_BadPower : mg "BadPower" = some (.ref (He.ga K "BadPower")) := He.glo_ok X G (c.fact 38 (f := .glo "BadPower") rfl)
  have g_TooWide : mg "TooWide" = some (.ref (He.ga K "TooWide")) := He.glo_ok X G (c.fact 39 (f := .glo "TooWide") rfl)
  have g_TooGreat : mg "TooGreat" = some (.ref (He.ga K "TooGreat")) := He.glo_ok X G (c.fact 40 (f := .glo "TooGreat") rfl)
  have g_DividesByZero : mg "DividesByZero" = some (.ref (He.ga K "DividesByZero")) := He.glo_ok X G (c.fact 41 (f := .glo "DividesByZero") rfl)
  have g_UnlikeSpaces : mg "UnlikeSpaces" = some (.ref (He.ga K "UnlikeSpaces")) := He.glo_ok X G (c.fact 42 (f := .glo "UnlikeSpaces") rfl)
  have g_BadCorner : mg "BadCorner" = some (.ref (He.ga K "BadCorner")) := He.glo_ok X G (c.fact 43 (f := .glo "BadCorner") rfl)
  have g_Mixed : mg "Mixed" = some (.ref (He.ga K "Mixed")) := He.glo_ok X G (c.fact 44 (f := .glo "Mixed") rfl)
  have g_NoAnswerer : mg "NoAnswerer" = some (.ref (He.ga K "NoAnswerer")) := He.glo_ok X G (c.fact 45 (f := .glo "NoAnswerer") rfl)
  have g_BadPlay : mg "BadPlay" = some (.ref (He.ga K "BadPlay")) := He.glo_ok X G (c.fact 46 (f := .glo "BadPlay") rfl)
  have g_BadMover : mg "BadMover" = some (.ref (He.ga K "BadMover")) := He.glo_ok X G (c.fact 47 (f := .glo "BadMover") rfl)
  have g_BadPlayer : mg "BadPlayer" = some (.ref (He.ga K "BadPlayer")) := He.glo_ok X G (c.fact 48 (f := .glo "BadPlayer") rfl)
  have g_BadStand : mg "BadStand" = some (.ref (He.ga K "BadStand")) := He.glo_ok X G (c.fact 49 (f := .glo "BadStand") rfl)
  have g_LooksError : mg "LooksError" = some (.ref (He.ga K "LooksError")) := He.glo_ok X G (c.fact 50 (f := .glo "LooksError") rfl)
  have M_BadSpace := He.meth_ok (c.fact 51 (f := .meth "BadSpace" "__init__") rfl)
  have D_BadSpace := c.def_ 11 (d := dd_BadSpace___init__) rfl
  have M_BadCount := He.meth_ok (c.fact 52 (f := .meth "BadCount" "__init__") rfl)
  have D_BadCount := c.def_ 12 (d := dd_BadCount___init__) rfl
  have M_NoPlace := He.meth_ok (c.fact 53 (f := .meth "NoPlace" "__init__") rfl)
  have D_NoPlace := c.def_ 13 (d := dd_NoPlace___init__) rfl
  have M_BadFacts := He.meth_ok (c.fact 54 (f := .meth "BadFacts" "__init__") rfl)
  have D_BadFacts := c.def_ 14 (d := dd_BadFacts___init__) rfl
  have M_BadAnswer := He.meth_ok (c.fact 55 (f := .meth "BadAnswer" "__init__") rfl)
  have D_BadAnswer := c.def_ 15 (d := dd_BadAnswer___init__) rfl
  have M_Stale := He.meth_ok (c.fact 56 (f := .meth "Stale" "__init__") rfl)
  have D_Stale := c.def_ 16 (d := dd_Stale___init__) rfl
  have M_BadLimit := He.meth_ok (c.fact 57 (f := .meth "BadLimit" "__init__") rfl)
  have D_BadLimit := c.def_ 17 (d := dd_BadLimit___init__) rfl
  have M_TooDeep := He.meth_ok (c.fact 58 (f := .meth "TooDeep" "__init__") rfl)
  have D_TooDeep := c.def_ 18 (d := dd_TooDeep___init__) rfl
  have M_TooMany := He.meth_ok (c.fact 59 (f := .meth "TooMany" "__init__") rfl)
  have D_TooMany := c.def_ 19 (d := dd_TooMany___init__) rfl
  have M_Wavers := He.meth_ok (c.fact 60 (f := .meth "Wavers" "__init__") rfl)
  have D_Wavers := c.def_ 20 (d := dd_Wavers___init__) rfl
  have M_NotTruth := He.meth_ok (c.fact 61 (f := .meth "NotTruth" "__init__") rfl)
  have D_NotTruth := c.def_ 21 (d := dd_NotTruth___init__) rfl
  have M_NotNumber := He.meth_ok (c.fact 62 (f := .meth "NotNumber" "__init__") rfl)
  have D_NotNumber := c.def_ 22 (d := dd_NotNumber___init__) rfl
  have M_Empty := He.meth_ok (c.fact 63 (f := .meth "Empty" "__init__") rfl)
  have D_Empty := c.def_ 23 (d := dd_Empty___init__) rfl
  have M_NoBranch := He.meth_ok (c.fact 64 (f := .meth "NoBranch" "__init__") rfl)
  have D_NoBranch := c.def_ 24 (d := dd_NoBranch___init__) rfl
  have M_NotFree := He.meth_ok (c.fact 65 (f := .meth "NotFree" "__init__") rfl)
  have D_NotFree := c.def_ 25 (d := dd_NotFree___init__) rfl
  have M_BadNumber := He.meth_ok (c.fact 66 (f := .meth "BadNumber" "__init__") rfl)
  have D_BadNumber := c.def_ 26 (d := dd_BadNumber___init__) rfl
  have M_BadPower := He.meth_ok (c.fact 67 (f := .meth "BadPower" "__init__") rfl)
  have D_BadPower := c.def_ 27 (d := dd_BadPower___init__) rfl
  have M_TooWide := He.meth_ok (c.fact 68 (f := .meth "TooWide" "__init__") rfl)
  have D_TooWide := c.def_ 28 (d := dd_TooWide___init__) rfl
  have M_TooGreat := He.meth_ok (c.fact 69 (f := .meth "TooGreat" "__init__") rfl)
  have D_TooGreat := c.def_ 29 (d := dd_TooGreat___init__) rfl
  have M_DividesByZero := He.meth_ok (c.fact 70 (f := .meth "DividesByZero" "__init__") rfl)
  have D_DividesByZero := c.def_ 30 (d := dd_DividesByZero___init__) rfl
  have M_UnlikeSpaces := He.meth_ok (c.fact 71 (f := .meth "UnlikeSpaces" "__init__") rfl)
  have D_UnlikeSpaces := c.def_ 31 (d := dd_UnlikeSpaces___init__) rfl
  have M_BadCorner := He.meth_ok (c.fact 72 (f := .meth "BadCorner" "__init__") rfl)
  have D_BadCorner := c.def_ 32 (d := dd_BadCorner___init__) rfl
  have M_Mixed := He.meth_ok (c.fact 73 (f := .meth "Mixed" "__init__") rfl)
  have D_Mixed := c.def_ 33 (d := dd_Mixed___init__) rfl
  have M_NoAnswerer := He.meth_ok (c.fact 74 (f := .meth "NoAnswerer" "__init__") rfl)
  have D_NoAnswerer := c.def_ 34 (d := dd_NoAnswerer___init__) rfl
  have M_BadPlay := He.meth_ok (c.fact 75 (f := .meth "BadPlay" "__init__") rfl)
  have D_BadPlay := c.def_ 35 (d := dd_BadPlay___init__) rfl
  have M_BadMover := He.meth_ok (c.fact 76 (f := .meth "BadMover" "__init__") rfl)
  have D_BadMover := c.def_ 36 (d := dd_BadMover___init__) rfl
  have M_BadPlayer := He.meth_ok (c.fact 77 (f := .meth "BadPlayer" "__init__") rfl)
  have D_BadPlayer := c.def_ 37 (d := dd_BadPlayer___init__) rfl
  have M_BadStand := He.meth_ok (c.fact 78 (f := .meth "BadStand" "__init__") rfl)
  have D_BadStand := c.def_ 38 (d := dd_BadStand___init__) rfl
  obtain ⟨fd, F⟩ := c.def_ 10 (d := dd_law) rfl
  have e := hfa0.symm.trans (He.glo_ok X G (c.fact 10 (f := .glo "law") rfl))
  cases e
  have b := FunD.bindsA (ps := ["_law_script"]) F fun _ _ _ _ _ _ us hl => match us, hl with | [_], _ => rfl
  refine ⟨fd, fun s v => b s [v] rfl, fun base _ _ => ?_⟩
  have m_BadSpace := mk_BadSpace (P := P) (w := w) (base := base) D_BadSpace g_BadSpace (KO.ex ("BadSpace", ["value"]) (by decide +kernel)) M_BadSpace
  have m_BadCount := mk_BadCount (P := P) (w := w) (base := base) D_BadCount g_BadCount (KO.ex ("BadCount", ["earlier", "count"]) (by decide +kernel)) M_BadCount
  have m_NoPlace := mk_NoPlace (P := P) (w := w) (base := base) D_NoPlace g_NoPlace (KO.ex ("NoPlace", ["place"]) (by decide +kernel)) M_NoPlace
  have m_BadFacts := mk_BadFacts (P := P) (w := w) (base := base) D_BadFacts g_BadFacts (KO.ex ("BadFacts", ["facts"]) (by decide +kernel)) M_BadFacts
  have m_BadAnswer := mk_BadAnswer (P := P) (w := w) (base := base) D_BadAnswer g_BadAnswer (KO.ex ("BadAnswer", ["place", "given"]) (by decide +kernel)) M_BadAnswer
  have m_Stale := mk_Stale (P := P) (w := w) (base := base) D_Stale g_Stale (KO.ex ("Stale", ["place"]) (by decide +kernel)) M_Stale
  have m_BadLimit := mk_BadLimit (P := P) (w := w) (base := base) D_BadLimit g_BadLimit (KO.ex ("BadLimit", ["value"]) (by decide +kernel)) M_BadLimit
  have m_TooDeep := mk_TooDeep (P := P) (w := w) (base := base) D_TooDeep g_TooDeep (KO.ex ("TooDeep", ["path"]) (by decide +kernel)) M_TooDeep
  have m_TooMany := mk_TooMany (P := P) (w := w) (base := base) D_TooMany g_TooMany (KO.ex ("TooMany", ["path"]) (by decide +kernel)) M_TooMany
  have m_Wavers := mk_Wavers (P := P) (w := w) (base := base) D_Wavers g_Wavers (KO.ex ("Wavers", ["path"]) (by decide +kernel)) M_Wavers
  have m_NotTruth := mk_NotTruth (P := P) (w := w) (base := base) D_NotTruth g_NotTruth (KO.ex ("NotTruth", ["path"]) (by decide +kernel)) M_NotTruth
  have m_NotNumber := mk_NotNumber (P := P) (w := w) (base := base) D_NotNumber g_NotNumber (KO.ex ("NotNumber", ["path"]) (by decide +kernel)) M_NotNumber
  have m_Empty := mk_Empty (P := P) (w := w) (base := base) D_Empty g_Empty (KO.ex ("Empty", ["form"]) (by decide +kernel)) M_Empty
  have m_NoBranch := mk_NoBranch (P := P) (w := w) (base := base) D_NoBranch g_NoBranch (KO.ex ("NoBranch", ["place", "answer"]) (by decide +kernel)) M_NoBranch
  have m_NotFree := mk_NotFree (P := P) (w := w) (base := base) D_NotFree g_NotFree (KO.ex ("NotFree", ["form"]) (by decide +kernel)) M_NotFree
  have m_BadNumber := mk_BadNumber (P := P) (w := w) (base := base) D_BadNumber g_BadNumber (KO.ex ("BadNumber", ["number"]) (by decide +kernel)) M_BadNumber
  have m_BadPower := mk_BadPower (P := P) (w := w) (base := base) D_BadPower g_BadPower (KO.ex ("BadPower", ["n"]) (by decide +kernel)) M_BadPower
  have m_TooWide := mk_TooWide (P := P) (w := w) (base := base) D_TooWide g_TooWide (KO.ex ("TooWide", ["width"]) (by decide +kernel)) M_TooWide
  have m_TooGreat := mk_TooGreat (P := P) (w := w) (base := base) D_TooGreat g_TooGreat (KO.ex ("TooGreat", ["number"]) (by decide +kernel)) M_TooGreat
  have m_DividesByZero := mk_DividesByZero (P := P) (w := w) (base := base) D_DividesByZero g_DividesByZero (KO.ex ("DividesByZero", ["facts"]) (by decide +kernel)) M_DividesByZero
  have m_UnlikeSpaces := mk_UnlikeSpaces (P := P) (w := w) (base := base) D_UnlikeSpaces g_UnlikeSpaces (KO.ex ("UnlikeSpaces", ["form", "other"]) (by decide +kernel)) M_UnlikeSpaces
  have m_BadCorner := mk_BadCorner (P := P) (w := w) (base := base) D_BadCorner g_BadCorner (KO.ex ("BadCorner", ["place"]) (by decide +kernel)) M_BadCorner
  have m_Mixed := mk_Mixed (P := P) (w := w) (base := base) D_Mixed g_Mixed (KO.ex ("Mixed", ["several"]) (by decide +kernel)) M_Mixed
  have m_NoAnswerer := mk_NoAnswerer (P := P) (w := w) (base := base) D_NoAnswerer g_NoAnswerer (KO.ex ("NoAnswerer", ["count"]) (by decide +kernel)) M_NoAnswerer
  have m_BadPlay := mk_BadPlay (P := P) (w := w) (base := base) D_BadPlay g_BadPlay (KO.ex ("BadPlay", ["count"]) (by decide +kernel)) M_BadPlay
  have m_BadMover := mk_BadMover (P := P) (w := w) (base := base) D_BadMover g_BadMover (KO.ex ("BadMover", ["place", "player"]) (by decide +kernel)) M_BadMover
  have m_BadPlayer := mk_BadPlayer (P := P) (w := w) (base := base) D_BadPlayer g_BadPlayer (KO.ex ("BadPlayer", ["player"]) (by decide +kernel)) M_BadPlayer
  have m_BadStand := mk_BadStand (P := P) (w := w) (base := base) D_BadStand g_BadStand (KO.ex ("BadStand", ["stand"]) (by decide +kernel)) M_BadStand
  have c__law_source := cl__law_source (P := P) (w := w) (base := base) F__law_source z_len z_int
  have c__law_draw := cl__law_draw (P := P) (w := w) (base := base) F__law_draw z_int
  have c__law_pick := cl__law_pick (P := P) (w := w) (base := base) F__law_pick z_len c__law_draw
  have a_same := all_same (P := P) (w := w) (base := base) F__law_same z_isinstance z_list z_tuple z_len z_all z_zip z_dict z_bool z_int
  have c__law_fields := cl__law_fields (P := P) (w := w) (base := base) F__law_fields KO
  have c__law_kinds := cl__law_kinds (P := P) (w := w) (base := base) F__law_kinds z_isinstance KO g_NoBranch g_Empty g_NotNumber g_NotTruth g_Wavers g_TooMany g_TooDeep g_BadLimit g_Stale g_BadAnswer g_BadFacts g_NoPlace g_BadCount g_BadSpace
  have c__law_others := cl__law_others (P := P) (w := w) (base := base) F__law_others z_isinstance KO g_BadStand g_BadPlayer g_BadMover g_BadPlay g_NoAnswerer g_Mixed g_BadCorner g_UnlikeSpaces g_DividesByZero g_TooGreat g_TooWide g_BadPower g_BadNumber g_NotFree
  have c__law_made := cl__law_made (P := P) (w := w) (base := base) F__law_made KO m_NoBranch m_Empty m_NotNumber m_NotTruth m_Wavers m_TooMany m_TooDeep m_BadLimit m_Stale m_BadAnswer m_BadFacts m_NoPlace m_BadCount m_BadSpace
  have c__law_more := cl__law_more (P := P) (w := w) (base := base) F__law_more KO m_BadStand m_BadPlayer m_BadMover m_BadPlay m_NoAnswerer m_Mixed m_BadCorner m_UnlikeSpaces m_DividesByZero m_TooGreat m_TooWide m_BadPower m_BadNumber m_NotFree
  have c__law_thing := cl__law_thing (P := P) (w := w) (base := base) F__law_thing z_range c__law_draw c__law_pick
  have c__law_same := a_same 7
  exact fn_law (P := P) (w := w) (base := base) F z_isinstance z_ValueError z_len KO g_LooksError c__law_source c__law_thing c__law_made c__law_more c__law_kinds c__law_others c__law_same c__law_fields
end FL
open PySem PySem.W PySem.Calls PyProof.Rows
theorem PySem.Challenge.cw_finitelooks_k01_errors_made_holds : PySem.Challenge.rw_finitelooks_k01_errors_made.Holds := by
  w_on; o_law
  refine HandSHeadRun.head_any (r := OpenLaw.row PySem.Challenge.rw_finitelooks_k01_errors_made) (q := view (OpenLaw.row PySem.Challenge.rw_finitelooks_k01_errors_made).prog [41]) (H := FL.hk) (ob := FL.ob) (M := 12000) (loose := FL.hnames) (d := HandSHeadRun.topDef (OpenLaw.row PySem.Challenge.rw_finitelooks_k01_errors_made).prog 41) (kwd := []) FL.ob_eq
    (by kernel_rfl) (fun s => by kernel_rfl) FL.run (by kernel_rfl) (by kernel_rfl) (by kernel_rfl) (by rfl) (by first | assumption | decide +kernel) (by decide +kernel) ⟨rfl, rfl, rfl, rfl, rfl, by decide +kernel⟩ ?hw ?hc
  case hw => w_witness2
  case hc =>
    refine L2.walk_ofE (l := PySem.Challenge.rw_finitelooks_k01_errors_made) (n := 63) (k := 9) (x := "_law_script") (CX := L2.CX0) rfl (by decide) (by kernel_rfl) ⟨rfl, by decide, by decide⟩ ?F (fun _ _ _ _ z => z)
    intro w mg fa h Y G hmg0
    obtain ⟨K, KX, ck, c⟩ := Y
    have hmg : mg ("law" : PySem.Str) = some (.ref fa) := by
      have e : (HandSHeadRun.topDef (OpenLaw.row PySem.Challenge.rw_finitelooks_k01_errors_made).prog 41).name = ("law" : PySem.Str) := by kernel_rfl
      rw [← e]
      exact hmg0
    obtain ⟨fd, hb, hF⟩ := FL.facts (P := (PySem.Challenge.rw_finitelooks_k01_errors_made).prog) (w := w) KX G hmg (FL.kindsB_ok ck) c
    exact ⟨K, fd, FL.spLaw K, KX, hb, fun H a ns hl _ hS => ⟨a, ns, rfl, hS, hl, fun _ => rfl⟩, hF⟩
