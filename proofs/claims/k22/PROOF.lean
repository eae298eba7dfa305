import PyProof.Rows.All
import Wide.All
import OpenK.AllK
import Wide.FinOn
import HandS.ForMost
import HandS.ForExc
import HandS.IsInst
import HandS.TupAny
import HandS.Codes
import HandS.ExcIs
import PySem.Challenge.RW_treeclock_k22_whole_raised
set_option Elab.async false
set_option linter.all false
set_option maxRecDepth 100000
set_option maxHeartbeats 4000000
namespace TC
open PySem PySem.Spec PyProof.Rows L2

/-! ### defs and what they promise -/
structure Df (K : PySem.W.Frag) (mg : Str → Option Value) (x : Str) (st : Stmt) (ps : List Str) : Prop where
  ex : ∃ (f : Addr) (fd : FuncData), L2.Fun K x x st f fd ∧ mg x = some (.ref f) ∧ Binds K fd ps []
structure Cal (CX : CXT) (P : Program) (w : World) (K : PySem.W.Frag) (mg : Str → Option Value) (base : Heap) (k : Nat) (x : Str) (sp : Sp) : Prop where
  ex : ∃ (f : Addr) (fd : FuncData) (ps : List Str), FnOk P w K mg base CX k f fd ps sp ∧ mg x = some (.ref f) ∧ PySem.W.keepIn K (.ref f) = true ∧ Binds K fd ps []
section
variable {P : Program} {w : World} {K : PySem.W.Frag} {mg : Str → Option Value} {base : Heap}
theorem Cal.mono {CX : CXT} {j k : Nat} {x : Str} {sp : Sp} (c : Cal CX P w K mg base j x sp) (h : j ≤ k) : Cal CX P w K mg base k x sp := by
  obtain ⟨f, fd, ps, F, a, b, d⟩ := c.ex
  exact ⟨f, fd, ps, F.mono h, a, b, d⟩
theorem Cal.imp {CX : CXT} {k : Nat} {x : Str} {sp sp' : Sp} (c : Cal CX P w K mg base k x sp) (h : ∀ vs H Q E, sp' vs H Q E → sp vs H Q E) : Cal CX P w K mg base k x sp' := by
  obtain ⟨f, fd, ps, F, a, b, d⟩ := c.ex
  exact ⟨f, fd, ps, F.imp h, a, b, d⟩
theorem cal_no {CX : CXT} {k : Nat} {x : Str} {st : Stmt} {ps : List Str} {sp : Sp} (D : Df K mg x st ps) (no : ∀ vs H Q E, ¬ sp vs H Q E) : Cal CX P w K mg base k x sp := by
  obtain ⟨f, fd, F, m, b⟩ := D.ex
  exact ⟨f, fd, ps, ⟨fun vs H Q E h => absurd h (no vs H Q E), fun A outer s H args us vs Q E _ _ _ _ h => absurd h (no vs H Q E)⟩, m, F.kp, b⟩
theorem cal_ok {x : Str} {st : Stmt} {N ps : List Str} {k : Nat} {sp : Sp} (D : Df K mg x st ps) (S : FnScope N ps (defScope st)) (len : ∀ vs H Q E, sp vs H Q E → vs.length = ps.length)
    (hbody : ∀ (f : Addr) (cdv : Value) (A : Around) (outer : List Env) (s : Shared) (H : Hp) (vs : List V) (Q : VK) (E : XK), Room k (A.deeper (envOfC x (defScope st) s.heap.objs.size f cdv)) → sp vs H Q E →
      ∃ t, PSs (cxOf CX0 P w K mg base N x (defScope st) f cdv A outer s H E).nox (defBody st) t ∧ t { nx := fun _ H' => Q .non H', rt := Q } (start N vs) H) : Cal CX0 P w K mg base (k + 1) x sp := by
  obtain ⟨f, fd, F, m, b⟩ := D.ex
  exact ⟨f, fd, ps, F.ok S len (hbody f), m, F.kp, b⟩
theorem cal_okX {x : Str} {st : Stmt} {N ps : List Str} {k : Nat} {sp : Sp} (D : Df K mg x st ps) (S : FnScope N ps (defScope st)) (len : ∀ vs H Q E, sp vs H Q E → vs.length = ps.length)
    (hbody : ∀ (f : Addr) (cdv : Value) (A : Around) (outer : List Env) (s : Shared) (H : Hp) (vs : List V) (Q : VK) (E : XK), Room k (A.deeper (envOfC x (defScope st) s.heap.objs.size f cdv)) → sp vs H Q E →
      ∃ t, PSs (cxOf (L2.CX P w) P w K mg base N x (defScope st) f cdv A outer s H E) (defBody st) t ∧ t { nx := fun _ H' => Q .non H', rt := Q } (start N vs) H) : Cal (L2.CX P w) P w K mg base (k + 1) x sp := by
  obtain ⟨f, fd, F, m, b⟩ := D.ex
  exact ⟨f, fd, ps, F.okX S len (hbody f), m, F.kp, b⟩
end
def sp1 (R : V → Hp → VK → Prop) : Sp := fun vs H Q _ => ∃ x, vs = [x] ∧ R x H Q
def sp2 (R : V → V → Hp → VK → Prop) : Sp := fun vs H Q _ => ∃ x y, vs = [x, y] ∧ R x y H Q
def sp3 (R : V → V → V → Hp → VK → Prop) : Sp := fun vs H Q _ => ∃ x y z, vs = [x, y, z] ∧ R x y z H Q
section
variable {P : Program} {w : World} {K : PySem.W.Frag} {mg : Str → Option Value} {base : Heap}
theorem cal1 {x p : Str} {st : Stmt} {N : List Str} {k : Nat} {R : V → Hp → VK → Prop} (D : Df K mg x st [p]) (S : FnScope N [p] (defScope st))
    (hbody : ∀ (f : Addr) (cdv : Value) (A : Around) (outer : List Env) (s : Shared) (H : Hp) (a : V) (Q : VK) (E : XK), Room k (A.deeper (envOfC x (defScope st) s.heap.objs.size f cdv)) → R a H Q →
      ∃ t, PSs (cxOf CX0 P w K mg base N x (defScope st) f cdv A outer s H E).nox (defBody st) t ∧ t { nx := fun _ H' => Q .non H', rt := Q } (start N [a]) H) : Cal CX0 P w K mg base (k + 1) x (sp1 R) :=
  cal_ok D S (fun vs H Q E h => by obtain ⟨a, rfl, _⟩ := h; rfl) fun f cdv A outer s H vs Q E hr h => by
    obtain ⟨a, rfl, h⟩ := h
    exact hbody f cdv A outer s H a Q E hr h
theorem cal2 {x p q : Str} {st : Stmt} {N : List Str} {k : Nat} {R : V → V → Hp → VK → Prop} (D : Df K mg x st [p, q]) (S : FnScope N [p, q] (defScope st))
    (hbody : ∀ (f : Addr) (cdv : Value) (A : Around) (outer : List Env) (s : Shared) (H : Hp) (a b : V) (Q : VK) (E : XK), Room k (A.deeper (envOfC x (defScope st) s.heap.objs.size f cdv)) → R a b H Q →
      ∃ t, PSs (cxOf CX0 P w K mg base N x (defScope st) f cdv A outer s H E).nox (defBody st) t ∧ t { nx := fun _ H' => Q .non H', rt := Q } (start N [a, b]) H) : Cal CX0 P w K mg base (k + 1) x (sp2 R) :=
  cal_ok D S (fun vs H Q E h => by obtain ⟨a, b, rfl, _⟩ := h; rfl) fun f cdv A outer s H vs Q E hr h => by
    obtain ⟨a, b, rfl, h⟩ := h
    exact hbody f cdv A outer s H a b Q E hr h
theorem cal3 {x p q r : Str} {st : Stmt} {N : List Str} {k : Nat} {R : V → V → V → Hp → VK → Prop} (D : Df K mg x st [p, q, r]) (S : FnScope N [p, q, r] (defScope st))
    (hbody : ∀ (f : Addr) (cdv : Value) (A : Around) (outer : List Env) (s : Shared) (H : Hp) (a b c : V) (Q : VK) (E : XK), Room k (A.deeper (envOfC x (defScope st) s.heap.objs.size f cdv)) → R a b c H Q →
      ∃ t, PSs (cxOf CX0 P w K mg base N x (defScope st) f cdv A outer s H E).nox (defBody st) t ∧ t { nx := fun _ H' => Q .non H', rt := Q } (start N [a, b, c]) H) : Cal CX0 P w K mg base (k + 1) x (sp3 R) :=
  cal_ok D S (fun vs H Q E h => by obtain ⟨a, b, c, rfl, _⟩ := h; rfl) fun f cdv A outer s H vs Q E hr h => by
    obtain ⟨a, b, c, rfl, h⟩ := h
    exact hbody f cdv A outer s H a b c Q E hr h
end
/-- a call of a def that raises nothing -/
def tCl (sp : Sp) (t : TA) : TE := fun σ H Q => t σ H fun vs H1 => sp vs H1 Q E0
section
variable {X : Cx} {k j : Nat} {x : Str} {sp : Sp} {p pos : Pos} {e : Expr} {es : List Expr} {t : TA}
theorem pe_c (c : Cal CX0 X.prog X.w X.K X.mg X.base k x sp) (hr : Room j X.A) (hk : k ≤ j) (hg : Gl X x) (ha : PA X (e :: es) t)
    (hdb : (x == ("__debug__" : Str)) = false := by decide) (he : starEach (e :: es) X.env = (false, eval e X.env) :: starEach es X.env := by rfl) (hpl : (backTo pos (starEach es X.env)).any (·.1) = false := by rfl) :
    PE X (.Call (.Name x p) (e :: es) [] pos) (tCl sp t) := by
  obtain ⟨f, fd, ps, F, hm, kp, b⟩ := c.ex
  refine ⟨fun pins s σ H Q I h => ?_⟩
  refine (pe_call F (hr.mono hk) hg hm kp b .nil pass0 ha hdb he hpl).run pins s σ H Q I ?_
  have e0 : (fun (vs : List V) (H1 : Hp) => sp (vs ++ []) H1 Q E0) = fun vs H1 => sp vs H1 Q E0 := by
    funext vs H1
    rw [List.append_nil]
  show t σ H (fun vs H1 => sp (vs ++ []) H1 Q E0)
  rw [e0]
  exact h
theorem pe_c0 (c : Cal CX0 X.prog X.w X.K X.mg X.base k x sp) (hr : Room j X.A) (hk : k ≤ j) (hg : Gl X x) (hdb : (x == ("__debug__" : Str)) = false := by decide) :
    PE X (.Call (.Name x p) [] [] pos) (tCl sp tNil) := by
  obtain ⟨f, fd, ps, F, hm, kp, b⟩ := c.ex
  exact pe_call0 F (hr.mono hk) hg hm kp b .nil pass0 hdb
end
theorem df_mk {K : PySem.W.Frag} {mg : Str → Option Value} {h : Heap} {x : Str} {st : Stmt} {ps : List Str} {f : Addr} {od an : Option Addr} {sl : Array (Option Value)} {oc kV dc pm cd ct : Value} (X : K.In h) (G : h.Ns mainGlobals mg)
    (a : PySem.W.nsIn K mainGlobals x = some (some (.ref f))) (l : K.lookup f = some ⟨oc, od, .func (PySem.W.fnOf x x (defArgs st) (defBody st) (defScope st) .none kV dc pm an cd ct), sl⟩) (c : PySem.W.codeIn K cd x = true) (k : PySem.W.keepIn K (.ref f) = true)
    (hb : ∀ (kV doc pm : Value) (an : Option Addr) (cdv ct : Value) (us : List Value), us.length = ps.length → bindArgs (PySem.W.fnOf x x (defArgs st) (defBody st) (defScope st) .none kV doc pm an cdv ct) ⟨us, []⟩ = pure (ps.zip us)) : Df K mg x st ps := by
  have F := L2.fun_mk (st := st) l c k
  exact ⟨f, _, F, PySem.W.mg_of X G a, F.binds hb⟩

/-! ### heaps -/
theorem same_new {H : Hp} {p : Addr} (h : H p = none) (o : HO) : Same H (upd H p o) := fun b u q => by rw [upd_ne (ne_of_none q h)]; exact q
theorem Same.sqt {K : PySem.W.Frag} {H H' : Hp} {a : Addr} {xs : List V} (e : Same H H') (h : SqT K H a xs) : SqT K H' a xs := by
  rcases h with (h | ⟨o, h⟩) | h
  · exact .inl (.inl (e _ _ h))
  · exact .inl (.inr ⟨o, e _ _ h⟩)
  · exact .inr h
mutual
theorem Dp.same {K : PySem.W.Frag} {H H' : Hp} (e : Same H H') : ∀ (d : PyData) (v : V), Dp K H v d → Dp K H' v d
  | .none, _, h => by cases h; exact .non
  | .bool b, _, h => by cases h; exact .bl b
  | .int i, _, h => by cases h; exact .int i
  | .str x, _, h => by cases h; exact .str x
  | .list ds, _, h => by
    cases h with
    | lst hs ha => exact .lst (e.seq hs) (DpAll.same e ds _ ha)
  | .tuple ds, _, h => by
    cases h with
    | tup hs ha => exact .tup (Same.sqt e hs) (DpAll.same e ds _ ha)
  | .dict _, _, h => by cases h
theorem DpAll.same {K : PySem.W.Frag} {H H' : Hp} (e : Same H H') : ∀ (ds : List PyData) (vs : List V), DpAll K H vs ds → DpAll K H' vs ds
  | [], _, h => by cases h; exact .nil
  | d :: ds, _, h => by
    cases h with
    | cons h1 h2 => exact .cons (Dp.same e d _ h1) (DpAll.same e ds _ h2)
end
/-- all that is tracked but the lists is as it was -/
def Keep (H H' : Hp) : Prop := ∀ b o, H b = some o → (∀ xs, o ≠ .lst xs) → H' b = some o
theorem Keep.refl (H : Hp) : Keep H H := fun _ _ h _ => h
theorem Keep.trans {H H1 H2 : Hp} (a : Keep H H1) (b : Keep H1 H2) : Keep H H2 := fun c o h n => b c o (a c o h n) n
theorem _root_.L2.Same.keep {H H' : Hp} (e : Same H H') : Keep H H' := fun c o h _ => e c o h
theorem keep_lst {H : Hp} {l : Addr} {xs ys : List V} (h : H l = some (.lst xs)) : Keep H (upd H l (.lst ys)) := fun b o q n => by
  by_cases e : b = l
  · subst e
    rw [h] at q
    cases q
    exact absurd rfl (n xs)
  · rw [upd_ne e]
    exact q
theorem Keep.sqt {K : PySem.W.Frag} {H H' : Hp} {a : Addr} {xs : List V} (e : Keep H H') (h : SqT K H a xs) : SqT K H' a xs := by
  rcases h with (h | ⟨o, h⟩) | h
  · exact .inl (.inl (e _ _ h fun _ z => by cases z))
  · exact .inl (.inr ⟨o, e _ _ h fun _ z => by cases z⟩)
  · exact .inr h
/-- a list that is locked, or stands in the written part -/
def Lk (K : PySem.W.Frag) (H : Hp) (a : Addr) (xs : List V) : Prop := (∃ o, H a = some (.frz o (.lst xs))) ∨
    ∃ (o : Obj) (its : Array Value) (n : Nat), K.lookup a = some o ∧ o.cls = .type "list" ∧ o.dict = none ∧ o.data = .seq its n ∧ its.size ≤ sizeLine ∧ Vals xs its.toList
mutual
def noLst : PyData → Bool
  | .list _ => false
  | .tuple ds => noLsts ds
  | .none | .bool _ | .int _ | .str _ => true
  | .dict _ => false
def noLsts : List PyData → Bool
  | [] => true
  | d :: ds => noLst d && noLsts ds
end
mutual
theorem Dp.keep {K : PySem.W.Frag} {H H' : Hp} (e : Keep H H') : ∀ (d : PyData) (v : V), noLst d = true → Dp K H v d → Dp K H' v d
  | .none, _, _, h => by cases h; exact .non
  | .bool b, _, _, h => by cases h; exact .bl b
  | .int i, _, _, h => by cases h; exact .int i
  | .str x, _, _, h => by cases h; exact .str x
  | .list ds, _, n, h => by simp [noLst] at n
  | .tuple ds, _, n, h => by
    cases h with
    | tup hs ha => exact .tup (Keep.sqt e hs) (DpAll.keep e ds _ (by simpa [noLst] using n) ha)
  | .dict _, _, _, h => by cases h
theorem DpAll.keep {K : PySem.W.Frag} {H H' : Hp} (e : Keep H H') : ∀ (ds : List PyData) (vs : List V), noLsts ds = true → DpAll K H vs ds → DpAll K H' vs ds
  | [], _, _, h => by cases h; exact .nil
  | d :: ds, _, n, h => by
    have n' : noLst d = true ∧ noLsts ds = true := by simpa [noLsts] using n
    cases h with
    | cons h1 h2 => exact .cons (Dp.keep e d _ n'.1 h1) (DpAll.keep e ds _ n'.2 h2)
end
end TC

namespace TC
open PySem PySem.Spec PyProof.Rows L2

/-! ### rules by data -/
def tyD : PyData → String
  | .none => "NoneType" | .bool _ => "bool" | .int _ => "int" | .str _ => "str" | .list _ => "list" | .tuple _ => "tuple" | .dict _ => "dict"
def isTp : PyData → Bool | .tuple _ => true | _ => false
def isIn : PyData → Bool | .int _ => true | .bool _ => true | _ => false
def isBo : PyData → Bool | .bool _ => true | _ => false
def isSt : PyData → Bool | .str _ => true | _ => false
theorem kb_tp (d : PyData) : kitB (tyD d) "tuple" = some (isTp d) := by cases d <;> (simp only [tyD, isTp]; decide +kernel)
theorem kb_in (d : PyData) : kitB (tyD d) "int" = some (isIn d) := by cases d <;> (simp only [tyD, isIn]; decide +kernel)
theorem kb_bo (d : PyData) : kitB (tyD d) "bool" = some (isBo d) := by cases d <;> (simp only [tyD, isBo]; decide +kernel)
theorem kb_st (d : PyData) : kitB (tyD d) "str" = some (isSt d) := by cases d <;> (simp only [tyD, isSt]; decide +kernel)
theorem tyx_of {K : PySem.W.Frag} {H : Hp} {v : V} {d : PyData} (h : Dp K H v d) : TyX K H v (.type (tyD d)) := by
  cases h with
  | non => exact .base .non
  | bl b => exact .base (.bl b)
  | int i => exact .base (.int i)
  | str x => exact .base (.str x)
  | lst hs _ =>
    rcases hs with (e | ⟨o, e⟩) | ⟨o, its, n, e, c, _⟩
    · exact .base (.lst e)
    · exact .base (.frz e)
    · exact .kList e c
  | tup hs _ =>
    rcases hs with (e | ⟨o, e⟩) | ⟨o, its, n, e, c, _⟩
    · exact .base (.tup e)
    · exact .fTuple e
    · exact .kTuple e c
def rIsD (K : PySem.W.Frag) : List V → Hp → VK → Prop := fun xs H Q => ∃ (x : V) (T : String) (d : PyData) (b : Bool), xs = [x, .ty T] ∧ Dp K H x d ∧ kitB (tyD d) T = some b ∧ Q (.bl b) H
section
variable {X : Cx}
theorem call_isD : CallR X (.builtin "isinstance") (rIsD X.K) := by
  intro pins s σ H xs us Q I r h
  obtain ⟨x, T, d, b, rfl, hd, hk, q⟩ := h
  exact call_isi pins s σ H _ us Q I r ⟨x, .ty T, _, _, b, rfl, .ty T, tyx_of hd, kit_ty hk, q⟩
def rInT (K : PySem.W.Frag) : R2 := fun x y H Q => ∃ d ds, Dp K H x d ∧ Dp K H y (.tuple ds) ∧ SeqAt.shaped d = true ∧ SeqAt.shaped (.tuple ds) = true ∧ Q (.bl (ds.any fun z => PyData.eqv z d)) H
theorem op_inT (hu : X.A.units + 65 < cLine) : OpR X (compareOp .In) (rInT X.K) := by
  intro pins s σ H x y v u Q I rx ry h
  obtain ⟨d, ds, hd, he, sd, se, q⟩ := h
  obtain ⟨as, r1⟩ := Dp.reads I d x v hd rx
  obtain ⟨bs, r2⟩ := Dp.reads I (.tuple ds) y u he ry
  exact SeqAt.in_tuple_reads r2 r1 (SeqAt.canLay_of_shaped se) (SeqAt.canLay_of_shaped sd) (room_in_shaped sd hu) ⟨.bl _, H, I, rfl, q⟩
def rNotInT (K : PySem.W.Frag) : R2 := fun x y H Q => ∃ d ds, Dp K H x d ∧ Dp K H y (.tuple ds) ∧ SeqAt.shaped d = true ∧ SeqAt.shaped (.tuple ds) = true ∧ Q (.bl (!ds.any fun z => PyData.eqv z d)) H
theorem op_notInT (hu : X.A.units + 65 < cLine) : OpR X (compareOp .NotIn) (rNotInT X.K) := by
  intro pins s σ H x y v u Q I rx ry h
  obtain ⟨d, ds, hd, he, sd, se, q⟩ := h
  obtain ⟨as, r1⟩ := Dp.reads I d x v hd rx
  obtain ⟨bs, r2⟩ := Dp.reads I (.tuple ds) y u he ry
  exact SeqAt.notIn_tuple_reads r2 r1 (SeqAt.canLay_of_shaped se) (SeqAt.canLay_of_shaped sd) (room_in_shaped sd hu) ⟨.bl _, H, I, rfl, q⟩
/-- 'l' * 40 -/
def fortyL : Str := ⟨(List.replicate 40 108).toArray⟩
theorem ell_eq : ("l" : Str) = ⟨#[108]⟩ := by decide +kernel
theorem op_mulL : OpR X (binaryOp .Mult) (fun x y H Q => x = .str "l" ∧ y = .int 40 ∧ Q (.str fortyL) H) := by
  intro pins s σ H x y v u Q I rx ry h
  obtain ⟨rfl, rfl, q⟩ := h
  obtain ⟨t, rfl⟩ := rx
  obtain ⟨t', rfl⟩ := ry
  refine PySem.P.mul_str (by decide +kernel) (fun _ _ => by decide +kernel) (fun _ _ => by decide +kernel) ?_
  have e : (if (40 : Int) < 1 then Made.str Str.empty else if ((40 : Int) == 1 || ("l" : Str).length == 0) = true then Made.val (.str "l" t) else Made.str ⟨(List.replicate (40 : Int).toNat ("l" : Str).cps).foldl (· ++ ·) #[]⟩) = Made.str fortyL := by
    rw [if_neg (by decide), if_neg (by decide +kernel)]
    exact congrArg Made.str (by decide +kernel)
  rw [e]
  exact ⟨by decide +kernel, ⟨.str fortyL, H, I.tok _, ⟨_, rfl⟩, q⟩⟩
end

/-! ### the built-in names -/
structure Txt (K : PySem.W.Frag) (mg : Str → Option Value) : Prop where
  b_isinstance : mg "isinstance" = none
  b_int : mg "int" = none
  b_bool : mg "bool" = none
  b_str : mg "str" = none
  b_tuple : mg "tuple" = none
  b_list : mg "list" = none
  b_set : mg "set" = none
  b_len : mg "len" = none
  b_min : mg "min" = none
  b_max : mg "max" = none
  b_sum : mg "sum" = none
  b_sorted : mg "sorted" = none
  b_range : mg "range" = none
  b_enumerate : mg "enumerate" = none
  b_ValueError : mg "ValueError" = none
end TC

namespace TC
open PySem

/-! ### part trees, count trees -/
inductive PT where
  | lf (i : Int)
  | nd (l r : PT)
  deriving DecidableEq
inductive CT where
  | lf (n : Int)
  | nd (n : Int) (l r : CT)
  deriving DecidableEq
namespace PT
def d : PT → PyData
  | lf i => .int i
  | nd l r => .tuple [l.d, r.d]
def dep : PT → Nat
  | lf _ => 0
  | nd l r => max l.dep r.dep + 1
def lv : PT → Nat
  | lf _ => 1
  | nd l r => l.lv + r.lv
def ok : PT → Prop
  | lf i => i = 0 ∨ i = 1
  | nd l r => l.ok ∧ r.ok
def mk (a b : PT) : PT := if a = lf 0 ∧ b = lf 0 then lf 0 else if a = lf 1 ∧ b = lf 1 then lf 1 else nd a b
def plain : PT → PT
  | lf i => lf i
  | nd l r => mk l.plain r.plain
def pl : PT → Prop
  | lf i => i = 0 ∨ i = 1
  | nd l r => l.pl ∧ r.pl ∧ ¬ (l = lf 0 ∧ r = lf 0) ∧ ¬ (l = lf 1 ∧ r = lf 1)
def «at» : PT → List Bool → Int
  | lf i, _ => i
  | nd l r, p => if p.headD false = true then r.at p.tail else l.at p.tail
theorem at_lf (i : Int) (p : List Bool) : (lf i).at p = i := by simp only [PT.at]
theorem at_nd (l r : PT) (p : List Bool) : (nd l r).at p = if p.headD false = true then r.at p.tail else l.at p.tail := by simp only [PT.at]
theorem at_l (l r : PT) (p : List Bool) : (nd l r).at (false :: p) = l.at p := by simp [at_nd]
theorem at_r (l r : PT) (p : List Bool) : (nd l r).at (true :: p) = r.at p := by simp [at_nd]
theorem mk_at (a b : PT) (p : List Bool) : (mk a b).at p = (nd a b).at p := by
  unfold mk
  split
  · rename_i h
    rw [h.1, h.2, at_nd, at_lf]
    split <;> simp [at_lf]
  · split
    · rename_i h
      rw [h.1, h.2, at_nd, at_lf]
      split <;> simp [at_lf]
    · rfl
theorem plain_at : ∀ (t : PT) (p : List Bool), t.plain.at p = t.at p
  | lf i, p => rfl
  | nd l r, p => by
    rw [plain, mk_at, at_nd, at_nd, plain_at l, plain_at r]
theorem mk_pl {a b : PT} (ha : a.pl) (hb : b.pl) : (mk a b).pl := by
  unfold mk
  split
  · exact .inl rfl
  · split
    · exact .inr rfl
    · exact ⟨ha, hb, by assumption, by assumption⟩
theorem plain_pl : ∀ {t : PT}, t.ok → t.plain.pl
  | lf _, h => h
  | nd _ _, h => mk_pl (plain_pl h.1) (plain_pl h.2)
theorem pl_plain : ∀ {t : PT}, t.pl → t.plain = t
  | lf _, _ => rfl
  | nd l r, h => by
    rw [plain, pl_plain h.1, pl_plain h.2.1, mk, if_neg h.2.2.1, if_neg h.2.2.2]
theorem pl_ok : ∀ {t : PT}, t.pl → t.ok
  | lf _, h => h
  | nd _ _, h => ⟨pl_ok h.1, pl_ok h.2.1⟩
theorem at_01 : ∀ {t : PT}, t.ok → ∀ p, t.at p = 0 ∨ t.at p = 1
  | lf _, h, _ => h
  | nd l r, h, p => by
    rw [at_nd]
    split
    · exact at_01 h.2 _
    · exact at_01 h.1 _
theorem const : ∀ {t : PT} {c : Int}, t.pl → (∀ p, t.at p = c) → t = lf c
  | lf i, c, _, h => by rw [show i = c from h []]
  | nd l r, c, hp, h => by
    have hl := const hp.1 (c := c) fun p => by have := h (false :: p); rwa [at_l] at this
    have hr := const hp.2.1 (c := c) fun p => by have := h (true :: p); rwa [at_r] at this
    have hc : c = 0 ∨ c = 1 := by have := hp.1; rw [hl] at this; exact this
    rcases hc with rfl | rfl
    · exact absurd ⟨hl, hr⟩ hp.2.2.1
    · exact absurd ⟨hl, hr⟩ hp.2.2.2
theorem ext : ∀ {t u : PT}, t.pl → u.pl → (∀ p, t.at p = u.at p) → t = u
  | t, lf j, ht, _, h => const ht h
  | lf i, nd l r, _, hu, h => (const hu fun p => (h p).symm).symm
  | nd l r, nd l' r', ht, hu, h => by
    rw [ext ht.1 hu.1 fun p => by have := h (false :: p); rwa [at_l, at_l] at this, ext ht.2.1 hu.2.1 fun p => by have := h (true :: p); rwa [at_r, at_r] at this]
theorem mk_dep (a b : PT) : (mk a b).dep ≤ max a.dep b.dep + 1 := by
  unfold mk
  split
  · exact Nat.zero_le _
  · split
    · exact Nat.zero_le _
    · exact Nat.le_refl _
theorem plain_dep : ∀ t : PT, t.plain.dep ≤ t.dep
  | lf _ => Nat.le_refl _
  | nd l r => by
    have h1 := mk_dep l.plain r.plain
    have h2 := plain_dep l
    have h3 := plain_dep r
    show (mk l.plain r.plain).dep ≤ max l.dep r.dep + 1
    omega
theorem lv_pos : ∀ t : PT, 1 ≤ t.lv
  | lf _ => Nat.le_refl _
  | nd l r => by
    have := lv_pos l
    show 1 ≤ l.lv + r.lv
    omega
theorem mk_lv (a b : PT) : (mk a b).lv ≤ a.lv + b.lv := by
  have h1 := lv_pos a
  unfold mk
  split
  · show 1 ≤ _; omega
  · split
    · show 1 ≤ _; omega
    · exact Nat.le_refl _
theorem plain_lv : ∀ t : PT, t.plain.lv ≤ t.lv
  | lf _ => Nat.le_refl _
  | nd l r => by
    have h1 := mk_lv l.plain r.plain
    have h2 := plain_lv l
    have h3 := plain_lv r
    show (mk l.plain r.plain).lv ≤ l.lv + r.lv
    omega
theorem lv_dep : ∀ t : PT, t.lv ≤ 2 ^ t.dep
  | lf _ => Nat.le_refl _
  | nd l r => by
    have h1 := lv_dep l
    have h2 := lv_dep r
    have h3 : 2 ^ l.dep ≤ 2 ^ max l.dep r.dep := Nat.pow_le_pow_right (by decide) (by omega)
    have h4 : 2 ^ r.dep ≤ 2 ^ max l.dep r.dep := Nat.pow_le_pow_right (by decide) (by omega)
    show l.lv + r.lv ≤ 2 ^ (max l.dep r.dep + 1)
    rw [Nat.pow_succ]
    omega
theorem depth_d : ∀ t : PT, t.d.depth = t.dep
  | lf _ => by simp only [d, PyData.depth, dep]
  | nd l r => by
    have h1 := depth_d l
    have h2 := depth_d r
    simp only [d, PyData.depth, PyData.depthAll, dep, h1, h2]
    omega
theorem lay_d : ∀ t : PT, t.d.canLay0 = true
  | lf _ => by simp only [d, PyData.canLay0]
  | nd l r => by simp only [d, PyData.canLay0, PyData.canLayAll0, lay_d l, lay_d r, Bool.and_self]
theorem sh {t : PT} (h : t.dep ≤ 64) : SeqAt.shaped t.d = true := by
  unfold SeqAt.shaped
  rw [lay_d, depth_d, Bool.true_and]
  exact decide_eq_true h
theorem eqv_d : ∀ t u : PT, PyData.eqv t.d u.d = decide (t = u)
  | lf i, lf j => by
    simp only [d, PyData.eqv, lf.injEq]
    exact Bool.beq_eq_decide_eq i j
  | lf i, nd _ _ => by simp [d, PyData.eqv]
  | nd _ _, lf j => by simp [d, PyData.eqv]
  | nd l r, nd l' r' => by
    simp only [d, PyData.eqv, PyData.eqvAll, eqv_d l l', eqv_d r r', nd.injEq, Bool.and_true]
    by_cases h1 : l = l' <;> by_cases h2 : r = r' <;> simp [h1, h2]
end PT
namespace CT
def d : CT → PyData
  | lf n => .int n
  | nd n l r => .tuple [.int n, l.d, r.d]
def dep : CT → Nat
  | lf _ => 0
  | nd _ l r => max l.dep r.dep + 1
def lv : CT → Nat
  | lf _ => 1
  | nd _ l r => l.lv + r.lv
def nn : CT → Prop
  | lf n => 0 ≤ n
  | nd n l r => 0 ≤ n ∧ l.nn ∧ r.nn
def front : CT → Int
  | lf n => n
  | nd n _ _ => n
def lift : CT → Int → CT
  | lf n, b => lf (n + b)
  | nd n l r, b => nd (n + b) l r
def least (a b : CT) : Int := min a.front b.front
def mk (n : Int) (a b : CT) : CT :=
  if a.lift (-(least a b)) = lf 0 ∧ b.lift (-(least a b)) = lf 0 then lf (n + least a b) else nd (n + least a b) (a.lift (-(least a b))) (b.lift (-(least a b)))
def plain : CT → CT
  | lf n => lf n
  | nd n l r => mk n l.plain r.plain
def pl : CT → Prop
  | lf n => 0 ≤ n
  | nd n l r => 0 ≤ n ∧ l.pl ∧ r.pl ∧ min l.front r.front = 0 ∧ ¬ (l = lf 0 ∧ r = lf 0)
def «at» : CT → List Bool → Int
  | lf n, _ => n
  | nd n l r, p => n + if p.headD false = true then r.at p.tail else l.at p.tail
theorem at_lf (n : Int) (p : List Bool) : (lf n).at p = n := by simp only [CT.at]
theorem at_nd (n : Int) (l r : CT) (p : List Bool) : (nd n l r).at p = n + if p.headD false = true then r.at p.tail else l.at p.tail := by simp only [CT.at]
theorem at_l (n : Int) (l r : CT) (p : List Bool) : (nd n l r).at (false :: p) = n + l.at p := by simp [at_nd]
theorem at_r (n : Int) (l r : CT) (p : List Bool) : (nd n l r).at (true :: p) = n + r.at p := by simp [at_nd]
theorem lift_at (t : CT) (b : Int) (p : List Bool) : (t.lift b).at p = t.at p + b := by
  cases t with
  | lf n => rfl
  | nd n l r => rw [lift, at_nd, at_nd]; omega
theorem lift_front (t : CT) (b : Int) : (t.lift b).front = t.front + b := by cases t <;> rfl
theorem lift_dep (t : CT) (b : Int) : (t.lift b).dep = t.dep := by cases t <;> rfl
theorem lift_lv (t : CT) (b : Int) : (t.lift b).lv = t.lv := by cases t <;> rfl
theorem lift_lift (t : CT) (a b : Int) : (t.lift a).lift b = t.lift (a + b) := by
  cases t <;> simp only [lift] <;> rw [Int.add_assoc]
theorem lift_zero (t : CT) : t.lift 0 = t := by cases t <;> simp [lift]
theorem lift_pl {t : CT} {b : Int} (h : t.pl) (hb : 0 ≤ t.front + b) : (t.lift b).pl := by
  cases t with
  | lf n => exact hb
  | nd n l r => exact ⟨hb, h.2⟩
theorem mk_at (n : Int) (a b : CT) (p : List Bool) : (mk n a b).at p = (nd n a b).at p := by
  unfold mk
  split
  · rename_i h
    have h1 := lift_at a (-(least a b)) p.tail
    have h2 := lift_at b (-(least a b)) p.tail
    rw [h.1, at_lf] at h1
    rw [h.2, at_lf] at h2
    rw [at_lf, at_nd]
    split <;> omega
  · rw [at_nd, at_nd, lift_at, lift_at]
    split <;> omega
theorem plain_at : ∀ (t : CT) (p : List Bool), t.plain.at p = t.at p
  | lf _, _ => rfl
  | nd n l r, p => by rw [plain, mk_at, at_nd, at_nd, plain_at l, plain_at r]
theorem pl_front {t : CT} (h : t.pl) : 0 ≤ t.front := by
  cases t with
  | lf n => exact h
  | nd n l r => exact h.1
theorem mk_pl {n : Int} {a b : CT} (hn : 0 ≤ n) (ha : a.pl) (hb : b.pl) : (mk n a b).pl := by
  have fa := pl_front ha
  have fb := pl_front hb
  have hl : 0 ≤ least a b := by unfold least; omega
  unfold mk
  split
  · show 0 ≤ n + least a b
    omega
  · refine ⟨by omega, lift_pl ha ?_, lift_pl hb ?_, ?_, by assumption⟩
    · unfold least; omega
    · unfold least; omega
    · rw [lift_front, lift_front]; unfold least; omega
theorem plain_pl : ∀ {t : CT}, t.nn → t.plain.pl
  | lf _, h => h
  | nd _ _ _, h => mk_pl h.1 (plain_pl h.2.1) (plain_pl h.2.2)
theorem pl_nn : ∀ {t : CT}, t.pl → t.nn
  | lf _, h => h
  | nd _ _ _, h => ⟨h.1, pl_nn h.2.1, pl_nn h.2.2.1⟩
theorem mk_zero {n : Int} {a b : CT} (h0 : min a.front b.front = 0) (h : ¬ (a = lf 0 ∧ b = lf 0)) : mk n a b = nd n a b := by
  have e : least a b = 0 := h0
  rw [mk, e, show (-(0 : Int)) = 0 from rfl, lift_zero, lift_zero, if_neg h, Int.add_zero]
theorem pl_plain : ∀ {t : CT}, t.pl → t.plain = t
  | lf _, _ => rfl
  | nd n l r, h => by rw [plain, pl_plain h.2.1, pl_plain h.2.2.1, mk_zero h.2.2.2.1 h.2.2.2.2]
theorem front_le : ∀ {t : CT}, t.pl → ∀ p, t.front ≤ t.at p
  | lf _, _, _ => Int.le_refl _
  | nd n l r, h, p => by
    have h1 := front_le h.2.1 p.tail
    have h2 := front_le h.2.2.1 p.tail
    have h3 := pl_front h.2.1
    have h4 := pl_front h.2.2.1
    rw [at_nd]
    show n ≤ _
    split <;> omega
theorem front_at : ∀ {t : CT}, t.pl → ∃ p, t.at p = t.front
  | lf _, _ => ⟨[], rfl⟩
  | nd n l r, h => by
    obtain ⟨p, hp⟩ := front_at h.2.1
    obtain ⟨q, hq⟩ := front_at h.2.2.1
    have h0 := h.2.2.2.1
    by_cases e : l.front = 0
    · exact ⟨false :: p, by rw [at_l, hp, e]; exact Int.add_zero n⟩
    · exact ⟨true :: q, by rw [at_r, hq]; show n + r.front = n; omega⟩
theorem const : ∀ {t : CT} {c : Int}, t.pl → (∀ p, t.at p = c) → t = lf c
  | lf i, c, _, h => by rw [show i = c from h []]
  | nd n l r, c, hp, h => by
    have hl := const hp.2.1 (c := c - n) fun p => by have := h (false :: p); rw [at_l] at this; omega
    have hr := const hp.2.2.1 (c := c - n) fun p => by have := h (true :: p); rw [at_r] at this; omega
    have h0 := hp.2.2.2.1
    rw [hl, hr] at h0
    have e : c - n = 0 := by
      have : min (c - n) (c - n) = 0 := h0
      omega
    rw [e] at hl hr
    exact absurd ⟨hl, hr⟩ hp.2.2.2.2
theorem ext : ∀ {t u : CT}, t.pl → u.pl → (∀ p, t.at p = u.at p) → t = u
  | t, lf j, ht, _, h => const ht h
  | lf i, nd n l r, _, hu, h => (const hu fun p => (h p).symm).symm
  | nd n l r, nd m l' r', ht, hu, h => by
    have e : n = m := by
      obtain ⟨p, hp⟩ := front_at ht
      obtain ⟨q, hq⟩ := front_at hu
      have h1 := front_le hu p
      have h2 := front_le ht q
      have h3 := h p
      have h4 := h q
      have e1 : (nd n l r).front = n := rfl
      have e2 : (nd m l' r').front = m := rfl
      omega
    subst e
    rw [ext ht.2.1 hu.2.1 fun p => by have := h (false :: p); rw [at_l, at_l] at this; omega, ext ht.2.2.1 hu.2.2.1 fun p => by have := h (true :: p); rw [at_r, at_r] at this; omega]
theorem mk_dep (n : Int) (a b : CT) : (mk n a b).dep ≤ max a.dep b.dep + 1 := by
  unfold mk
  split
  · exact Nat.zero_le _
  · show max (a.lift _).dep (b.lift _).dep + 1 ≤ _
    rw [lift_dep, lift_dep]
    exact Nat.le_refl _
theorem plain_dep : ∀ t : CT, t.plain.dep ≤ t.dep
  | lf _ => Nat.le_refl _
  | nd n l r => by
    have h1 := mk_dep n l.plain r.plain
    have h2 := plain_dep l
    have h3 := plain_dep r
    show (mk n l.plain r.plain).dep ≤ max l.dep r.dep + 1
    omega
theorem lv_pos : ∀ t : CT, 1 ≤ t.lv
  | lf _ => Nat.le_refl _
  | nd _ l r => by
    have := lv_pos l
    show 1 ≤ l.lv + r.lv
    omega
theorem mk_lv (n : Int) (a b : CT) : (mk n a b).lv ≤ a.lv + b.lv := by
  have h1 := lv_pos a
  unfold mk
  split
  · show 1 ≤ _; omega
  · show (a.lift _).lv + (b.lift _).lv ≤ _
    rw [lift_lv, lift_lv]
    exact Nat.le_refl _
theorem plain_lv : ∀ t : CT, t.plain.lv ≤ t.lv
  | lf _ => Nat.le_refl _
  | nd n l r => by
    have h1 := mk_lv n l.plain r.plain
    have h2 := plain_lv l
    have h3 := plain_lv r
    show (mk n l.plain r.plain).lv ≤ l.lv + r.lv
    omega
theorem depth_d : ∀ t : CT, t.d.depth = t.dep
  | lf _ => by simp only [d, PyData.depth, dep]
  | nd n l r => by
    have h1 := depth_d l
    have h2 := depth_d r
    simp only [d, PyData.depth, PyData.depthAll, dep, h1, h2]
    omega
theorem lay_d : ∀ t : CT, t.d.canLay0 = true
  | lf _ => by simp only [d, PyData.canLay0]
  | nd n l r => by simp only [d, PyData.canLay0, PyData.canLayAll0, lay_d l, lay_d r, Bool.and_self]
theorem sh {t : CT} (h : t.dep ≤ 64) : SeqAt.shaped t.d = true := by
  unfold SeqAt.shaped
  rw [lay_d, depth_d, Bool.true_and]
  exact decide_eq_true h
theorem eqv_d : ∀ t u : CT, PyData.eqv t.d u.d = decide (t = u)
  | lf i, lf j => by
    simp only [d, PyData.eqv, lf.injEq]
    exact Bool.beq_eq_decide_eq i j
  | lf i, nd _ _ _ => by simp [d, PyData.eqv]
  | nd _ _ _, lf j => by simp [d, PyData.eqv]
  | nd n l r, nd n' l' r' => by
    simp only [d, PyData.eqv, PyData.eqvAll, eqv_d l l', eqv_d r r', nd.injEq, Bool.and_true, Bool.beq_eq_decide_eq]
    by_cases h0 : n = n' <;> by_cases h1 : l = l' <;> by_cases h2 : r = r' <;> simp [h0, h1, h2]
theorem mk_law (n : Int) (a b : CT) : mk n a b = if a = lf (least a b) ∧ b = lf (least a b) then lf (n + least a b) else nd (n + least a b) (a.lift (-(least a b))) (b.lift (-(least a b))) := by
  have e : ∀ t : CT, ∀ m : Int, (t.lift (-m) = lf 0) ↔ t = lf m := by
    intro t m
    cases t with
    | lf k => simp only [lift, lf.injEq]; omega
    | nd k l r => simp [lift]
  unfold mk
  simp only [e]
end CT

/-! ### both kinds at once -/
inductive UT where
  | lf (i : Int)
  | nd (f : Option Int) (l r : UT)
namespace UT
def d : UT → PyData
  | lf i => .int i
  | nd none l r => .tuple [l.d, r.d]
  | nd (some n) l r => .tuple [.int n, l.d, r.d]
def dep : UT → Nat
  | lf _ => 0
  | nd _ l r => max l.dep r.dep + 1
def «at» : UT → List Bool → Int
  | lf n, _ => n
  | nd f l r, p => f.getD 0 + if p.headD false = true then r.at p.tail else l.at p.tail
def paths : UT → List (List Bool)
  | lf _ => [[]]
  | nd _ l r => l.paths.map (false :: ·) ++ r.paths.map (true :: ·)
def ld : UT → List Bool → Nat
  | lf _, _ => 0
  | nd _ l r, p => (if p.headD false = true then r.ld p.tail else l.ld p.tail) + 1
theorem at_nd (f : Option Int) (l r : UT) (p : List Bool) : (nd f l r).at p = f.getD 0 + if p.headD false = true then r.at p.tail else l.at p.tail := by simp only [UT.at]
theorem ld_nd (f : Option Int) (l r : UT) (p : List Bool) : (nd f l r).ld p = (if p.headD false = true then r.ld p.tail else l.ld p.tail) + 1 := by simp only [UT.ld]
end UT
/-- the first k turns of a way -/
def pt : List Bool → Nat → List Bool
  | _, 0 => []
  | p, k + 1 => p.headD false :: pt p.tail k
namespace UT
theorem at_pt : ∀ (t : UT) (p : List Bool) (k : Nat), t.ld p ≤ k → t.at (pt p k) = t.at p
  | lf _, _, _, _ => by simp only [UT.at]
  | nd f l r, p, 0, h => by rw [ld_nd] at h; omega
  | nd f l r, p, k + 1, h => by
    rw [ld_nd] at h
    rw [at_nd, at_nd, pt, List.headD_cons, List.tail_cons]
    by_cases e : p.headD false = true
    · rw [if_pos e] at h
      rw [if_pos e, if_pos e, at_pt r p.tail k (by omega)]
    · rw [if_neg e] at h
      rw [if_neg e, if_neg e, at_pt l p.tail k (by omega)]
theorem pt_mem : ∀ (t : UT) (p : List Bool), pt p (t.ld p) ∈ t.paths
  | lf _, _ => by simp [ld, pt, paths]
  | nd f l r, p => by
    rw [ld_nd, pt, paths, List.mem_append]
    by_cases e : p.headD false = true
    · rw [if_pos e, e]
      exact .inr (List.mem_map.mpr ⟨_, pt_mem r p.tail, rfl⟩)
    · have e' : p.headD false = false := by simpa using e
      rw [if_neg e, e']
      exact .inl (List.mem_map.mpr ⟨_, pt_mem l p.tail, rfl⟩)
theorem most : ∀ (ts : List UT) (p : List Bool), ts ≠ [] → ∃ t ∈ ts, ∀ u ∈ ts, u.ld p ≤ t.ld p
  | [], _, h => absurd rfl h
  | [t], _, _ => ⟨t, List.mem_cons_self, fun u hu => by rw [List.mem_singleton.mp hu]; exact Nat.le_refl _⟩
  | t :: t' :: ts, p, _ => by
    obtain ⟨m, hm, h⟩ := most (t' :: ts) p (List.cons_ne_nil _ _)
    by_cases c : m.ld p ≤ t.ld p
    · refine ⟨t, List.mem_cons_self, fun u hu => ?_⟩
      rcases List.mem_cons.mp hu with rfl | hu
      · exact Nat.le_refl _
      · exact Nat.le_trans (h u hu) c
    · refine ⟨m, List.mem_cons_of_mem _ hm, fun u hu => ?_⟩
      rcases List.mem_cons.mp hu with rfl | hu
      · omega
      · exact h u hu
/-- each place is met by a path of one of the trees, as to all of them -/
theorem cover {ts : List UT} (hn : ts ≠ []) (p : List Bool) : ∃ q, q ∈ ts.flatMap paths ∧ ∀ u ∈ ts, u.at q = u.at p := by
  obtain ⟨t, ht, h⟩ := most ts p hn
  exact ⟨pt p (t.ld p), List.mem_flatMap.mpr ⟨t, ht, pt_mem t p⟩, fun u hu => at_pt u p _ (h u hu)⟩
theorem paths_len : ∀ {t : UT} {p : List Bool}, p ∈ t.paths → p.length ≤ t.dep
  | lf _, p, h => by
    rw [paths, List.mem_singleton] at h
    rw [h]
    exact Nat.le_refl _
  | nd f l r, p, h => by
    rw [paths, List.mem_append] at h
    show p.length ≤ max l.dep r.dep + 1
    rcases h with h | h
    · obtain ⟨q, hq, rfl⟩ := List.mem_map.mp h
      have := paths_len hq
      simp only [List.length_cons]
      omega
    · obtain ⟨q, hq, rfl⟩ := List.mem_map.mp h
      have := paths_len hq
      simp only [List.length_cons]
      omega
end UT
def PT.u : PT → UT
  | .lf i => .lf i
  | .nd l r => .nd none l.u r.u
def CT.u : CT → UT
  | .lf i => .lf i
  | .nd n l r => .nd (some n) l.u r.u
theorem PT.u_d : ∀ t : PT, t.u.d = t.d
  | .lf _ => by simp only [PT.u, UT.d, PT.d]
  | .nd l r => by simp only [PT.u, UT.d, PT.d, PT.u_d l, PT.u_d r]
theorem CT.u_d : ∀ t : CT, t.u.d = t.d
  | .lf _ => by simp only [CT.u, UT.d, CT.d]
  | .nd n l r => by simp only [CT.u, UT.d, CT.d, CT.u_d l, CT.u_d r]
theorem PT.u_at : ∀ (t : PT) (p : List Bool), t.u.at p = t.at p
  | .lf _, _ => rfl
  | .nd l r, p => by
    rw [PT.u, UT.at_nd, PT.at_nd, PT.u_at l, PT.u_at r]
    simp
theorem CT.u_at : ∀ (t : CT) (p : List Bool), t.u.at p = t.at p
  | .lf _, _ => rfl
  | .nd n l r, p => by
    rw [CT.u, UT.at_nd, CT.at_nd, CT.u_at l, CT.u_at r]
    rfl
theorem PT.u_dep : ∀ t : PT, t.u.dep = t.dep
  | .lf _ => rfl
  | .nd l r => by simp only [PT.u, UT.dep, PT.dep, PT.u_dep l, PT.u_dep r]
theorem CT.u_dep : ∀ t : CT, t.u.dep = t.dep
  | .lf _ => rfl
  | .nd n l r => by simp only [CT.u, UT.dep, CT.dep, CT.u_dep l, CT.u_dep r]
theorem PT.u_lv : ∀ t : PT, t.u.paths.length = t.lv
  | .lf _ => rfl
  | .nd l r => by simp only [PT.u, UT.paths, PT.lv, List.length_append, List.length_map, PT.u_lv l, PT.u_lv r]
theorem CT.u_lv : ∀ t : CT, t.u.paths.length = t.lv
  | .lf _ => rfl
  | .nd n l r => by simp only [CT.u, UT.paths, CT.lv, List.length_append, List.length_map, CT.u_lv l, CT.u_lv r]
end TC

namespace TC
open PySem PySem.Spec PyProof.Rows L2
/-! ### small words for the readings -/
theorem iteE {c : Bool} {p A B : Prop} [Decidable p] (e : c = decide p) (h1 : p → A) (h2 : ¬ p → B) : if c = true then A else B := by
  subst e
  by_cases h : p
  · rw [decide_eq_true h]; exact iteT (h1 h)
  · rw [decide_eq_false h]; exact iteF (h2 h)
theorem iteN {c : Bool} {p A B : Prop} [Decidable p] (e : c = decide p) (h1 : ¬ p → A) (h2 : p → B) : if (!c) = true then A else B := by
  subst e
  by_cases h : p
  · rw [decide_eq_true h]; exact iteF (h2 h)
  · rw [decide_eq_false h]; exact iteT (h1 h)
theorem hu65 {A : Around} {k : Nat} (hr : Room k A) : A.units + 65 < cLine := by have := hr.un; omega
theorem two_le : 2 ≤ sizeLine := by decide
theorem three_le : 3 ≤ sizeLine := by decide
theorem one_le : 1 ≤ sizeLine := by decide
theorem zero_le : 0 ≤ sizeLine := by decide
section
variable {K : PySem.W.Frag} {H : Hp} {v : V}
theorem dp_int {i : Int} (h : Dp K H v (.int i)) : v = .int i := by cases h; rfl
theorem dp_tup {ds : List PyData} (h : Dp K H v (.tuple ds)) : ∃ a xs, v = .ref a ∧ SqT K H a xs ∧ DpAll K H xs ds := by
  cases h with
  | tup hs ha => exact ⟨_, _, rfl, hs, ha⟩
theorem dp_tup2 {d e : PyData} (h : Dp K H v (.tuple [d, e])) : ∃ a x y, v = .ref a ∧ SqT K H a [x, y] ∧ Dp K H x d ∧ Dp K H y e := by
  obtain ⟨a, xs, rfl, hs, ha⟩ := dp_tup h
  cases ha with
  | cons h1 ha =>
    cases ha with
    | cons h2 ha =>
      cases ha
      exact ⟨a, _, _, rfl, hs, h1, h2⟩
theorem dp_tup3 {d e f : PyData} (h : Dp K H v (.tuple [d, e, f])) : ∃ a x y z, v = .ref a ∧ SqT K H a [x, y, z] ∧ Dp K H x d ∧ Dp K H y e ∧ Dp K H z f := by
  obtain ⟨a, xs, rfl, hs, ha⟩ := dp_tup h
  cases ha with
  | cons h1 ha =>
    cases ha with
    | cons h2 ha =>
      cases ha with
      | cons h3 ha =>
        cases ha
        exact ⟨a, _, _, _, rfl, hs, h1, h2, h3⟩
theorem PT.nd_inv {l r : PT} (h : Dp K H v (PT.nd l r).d) : ∃ a x y, v = .ref a ∧ SqT K H a [x, y] ∧ Dp K H x l.d ∧ Dp K H y r.d := dp_tup2 h
theorem CT.nd_inv {n : Int} {l r : CT} (h : Dp K H v (CT.nd n l r).d) : ∃ a x y, v = .ref a ∧ SqT K H a [.int n, x, y] ∧ Dp K H x l.d ∧ Dp K H y r.d := by
  obtain ⟨a, z, x, y, rfl, hs, hz, hx, hy⟩ := dp_tup3 h
  obtain rfl := dp_int hz
  exact ⟨a, x, y, rfl, hs, hx, hy⟩
theorem dp_new2 {p : Addr} {x y : V} {d e : PyData} (hp : H p = none) (hx : Dp K H x d) (hy : Dp K H y e) : Dp K (upd H p (.tup [x, y])) (.ref p) (.tuple [d, e]) :=
  .tup (SqT.of upd_same) (.cons (Dp.same (same_new hp _) _ _ hx) (.cons (Dp.same (same_new hp _) _ _ hy) .nil))
theorem dp_new3 {p : Addr} {x y z : V} {d e f : PyData} (hp : H p = none) (hx : Dp K H x d) (hy : Dp K H y e) (hz : Dp K H z f) : Dp K (upd H p (.tup [x, y, z])) (.ref p) (.tuple [d, e, f]) :=
  .tup (SqT.of upd_same) (.cons (Dp.same (same_new hp _) _ _ hx) (.cons (Dp.same (same_new hp _) _ _ hy) (.cons (Dp.same (same_new hp _) _ _ hz) .nil)))
theorem PT.nd_new {p : Addr} {x y : V} {l r : PT} (hp : H p = none) (hx : Dp K H x l.d) (hy : Dp K H y r.d) : Dp K (upd H p (.tup [x, y])) (.ref p) (PT.nd l r).d := dp_new2 hp hx hy
theorem CT.nd_new {p : Addr} {n : Int} {x y : V} {l r : CT} (hp : H p = none) (hx : Dp K H x l.d) (hy : Dp K H y r.d) : Dp K (upd H p (.tup [.int n, x, y])) (.ref p) (CT.nd n l r).d := dp_new3 hp (.int n) hx hy
theorem PT.lf_dp (i : Int) : Dp K H (.int i) (PT.lf i).d := .int i
theorem CT.lf_dp (i : Int) : Dp K H (.int i) (CT.lf i).d := .int i
end
theorem PT.nd_eq {a b c e : PT} (h : PT.nd a b = PT.nd c e) : a = c ∧ b = e := by
  injection h with h1 h2
  exact ⟨h1, h2⟩
theorem PT.dep_nd (l r : PT) : (PT.nd l r).dep = max l.dep r.dep + 1 := rfl
theorem CT.dep_nd (n : Int) (l r : CT) : (CT.nd n l r).dep = max l.dep r.dep + 1 := rfl
theorem PT.mk_nd (l r : PT) : (PT.nd l r).plain = PT.mk l.plain r.plain := rfl
theorem CT.mk_nd (n : Int) (l r : CT) : (CT.nd n l r).plain = CT.mk n l.plain r.plain := rfl

/-! ### slices and sums of tuples, signs, lists built -/
section
variable {K : PySem.W.Frag} {H : Hp} {a b : Addr} {xs ys : List V}
theorem sla_go {lo hi : Option Int} {Q : VK} (hS : SqT K H a xs) (hl : xs.length ≤ sizeLine) (q : ∀ p H', Same H H' → SqT K H' p (cutV xs lo hi) → Q (.ref p) H') : rSlA K (.ref a) lo hi H Q := by
  refine ⟨a, xs, rfl, hS, fun hw => ?_, fun hw p hp => ?_⟩
  · refine q a H (Same.refl H) ?_
    have e : cutV xs lo hi = xs := by
      unfold cutV
      rw [hw.1, hw.2, List.drop_zero, Nat.sub_zero, List.take_length]
    rw [e]
    exact hS
  · exact q p _ (same_new hp _) (SqT.of upd_same)
theorem cata_go {Q : VK} (hS : SqT K H a xs) (hT : SqT K H b ys) (hl : xs.length + ys.length ≤ sizeLine) (q : ∀ p H', Same H H' → SqT K H' p (xs ++ ys) → Q (.ref p) H') : rCatA K (.ref a) (.ref b) H Q := by
  refine ⟨a, b, xs, ys, rfl, rfl, hS, hT, hl, fun e => ?_, fun _ e => ?_, fun _ _ p hp => ?_⟩
  · exact q b H (Same.refl H) (by rw [e]; exact hT)
  · exact q a H (Same.refl H) (by rw [e, List.append_nil]; exact hS)
  · exact q p _ (same_new hp _) (SqT.of upd_same)
theorem cut_to {xs : List V} {i : Nat} : cutV xs none (some (i : Int)) = xs.take i := by
  unfold cutV
  rw [HT.sIx_none, HT.sIx_nat, List.drop_zero, Nat.sub_zero]
  by_cases h : i ≤ xs.length
  · rw [Nat.min_eq_left h]
  · rw [Nat.min_eq_right (by omega), List.take_length, List.take_of_length_le (by omega)]
theorem cut_from {xs : List V} {i : Nat} : cutV xs (some (i : Int)) none = xs.drop i := by
  unfold cutV
  rw [HT.sIx_none, HT.sIx_nat]
  by_cases h : i ≤ xs.length
  · rw [Nat.min_eq_left h, List.take_of_length_le (by rw [List.length_drop]; omega)]
  · rw [Nat.min_eq_right (by omega), List.drop_length, List.drop_eq_nil_of_le (by omega), List.take_nil]
end
/-- over the signs of a text -/
theorem for_its {x : Str} {g : TG} {tb : TS} {D : Ends} {σ : L2.St} {H : Hp} (Pv : Nat → L2.St → Hp → Prop) (h0 : Pv 0 σ H)
    (hs : ∀ i c σ H, x.cps[i]? = some c → Pv i σ H → g (.str ⟨#[c]⟩) σ H fun σ2 H2 => tb { D with nx := Pv (i + 1), ct := Pv (i + 1), bk := D.nx } σ2 H2) (hd : ∀ σ H, Pv x.cps.size σ H → D.nx σ H) :
    ∃ W : Nat → Nat → L2.St → Hp → Prop, (∃ m, W 0 m σ H) ∧ ∀ i m σ H, W i m σ H →
      ((Its x).stop i H ∧ D.nx σ H) ∨ ((Its x).go i H ∧ ∃ N : L2.St → Hp → Prop, (∀ σ' H', N σ' H' → ∃ m', m' < m ∧ W (i + 1) m' σ' H') ∧ ∀ v H', (Its x).yld i H v H' → g v σ H' fun σ2 H2 => tb { D with nx := N, ct := N, bk := D.nx } σ2 H2) := by
  refine ⟨fun i m σ H => m = x.cps.size - i ∧ i ≤ x.cps.size ∧ Pv i σ H, ⟨x.cps.size, by simp, Nat.zero_le _, h0⟩, ?_⟩
  rintro i m σ H ⟨rfl, hi, p⟩
  by_cases hlt : i < x.cps.size
  · refine .inr ⟨hlt, Pv (i + 1), fun σ' H' p' => ⟨x.cps.size - (i + 1), by omega, rfl, hlt, p'⟩, fun v H' y => ?_⟩
    obtain ⟨rfl, c, hc, rfl⟩ := y
    exact hs i c σ _ hc p
  · have e : i = x.cps.size := by omega
    subst e
    exact .inl ⟨Nat.le_refl _, hd σ H p⟩
theorem same_put {H1 H : Hp} {D : Addr} (s : Same H1 H) (hD : H1 D = none) (o : HO) : Same H1 (upd H D o) := fun b u q => by
  rw [upd_ne (ne_of_none q hD)]
  exact s b u q
theorem take_more {α : Type} {xs : List α} {i : Nat} {x : α} (h : xs[i]? = some x) : xs.take (i + 1) = xs.take i ++ [x] := by
  rw [List.take_add_one, h]
  rfl
/-- ways as texts -/
def pstr (p : List Bool) : Str := ⟨(p.map fun b => if b = true then 114 else 108).toArray⟩
theorem pstr_nil : ("" : Str) = pstr [] := by decide +kernel
theorem ell_p : ("l" : Str) = pstr [false] := by decide +kernel
theorem arr_p : ("r" : Str) = pstr [true] := by decide +kernel
theorem pstr_app (p q : List Bool) : pstr p ++ pstr q = pstr (p ++ q) := by
  refine TL.ext_tl ?_
  rw [TL.tl_append]
  show (p.map _).toArray.toList ++ (q.map _).toArray.toList = ((p ++ q).map _).toArray.toList
  rw [List.map_append]
theorem pstr_len (p : List Bool) : (pstr p).length = p.length := by
  show (p.map _).toArray.size = p.length
  rw [List.size_toArray, List.length_map]
theorem forty_p : fortyL = pstr (List.replicate 40 false) := by decide +kernel
theorem pstr_get {p : List Bool} {i c : Nat} (h : (pstr p).cps[i]? = some c) : c = if (p.drop i).headD false = true then 114 else 108 := by
  have h' : (p.map fun b => if b = true then 114 else 108)[i]? = some c := by
    have e : (pstr p).cps[i]? = (p.map fun b => if b = true then 114 else 108)[i]? := by
      show ((p.map fun b => if b = true then 114 else 108).toArray)[i]? = _
      rw [List.getElem?_toArray]
    rw [← e]; exact h
  rw [List.getElem?_map] at h'
  cases e : p[i]? with
  | none => rw [e] at h'; cases h'
  | some b =>
    rw [e] at h'
    have hc : (if b = true then 114 else 108) = c := Option.some.inj h'
    have hd : (p.drop i).headD false = b := by
      rw [List.headD_eq_head?_getD, List.head?_drop, e]
      rfl
    rw [hd, hc]
theorem pstr_ok (p : List Bool) : PyData.strOk (pstr p) = true := by
  show (p.map _).toArray.all _ = true
  rw [← Array.all_toList, List.all_eq_true]
  intro x hx
  have hx' : x ∈ p.map fun b => if b = true then 114 else 108 := hx
  obtain ⟨b, _, rfl⟩ := List.mem_map.mp hx'
  cases b <;> decide
/-- lists of texts as data -/
theorem dpall_strs {K : PySem.W.Frag} {H : Hp} : ∀ ss : List Str, DpAll K H (ss.map V.str) (ss.map PyData.str)
  | [] => .nil
  | s :: ss => .cons (.str s) (dpall_strs ss)
theorem lay_strs : ∀ ss : List Str, (∀ s ∈ ss, PyData.strOk s = true) → PyData.canLayAll0 (ss.map PyData.str) = true
  | [], _ => by simp [PyData.canLayAll0]
  | s :: ss, h => by
    simp only [List.map_cons, PyData.canLayAll0, PyData.canLay0, h s List.mem_cons_self, lay_strs ss fun x hx => h x (List.mem_cons_of_mem _ hx), Bool.and_self]
theorem depth_strs : ∀ ss : List Str, PyData.depthAll (ss.map PyData.str) = 0
  | [] => by simp [PyData.depthAll]
  | s :: ss => by simp [PyData.depthAll, PyData.depth, depth_strs ss]
theorem sh_strs {ss : List Str} (h : ∀ s ∈ ss, PyData.strOk s = true) : SeqAt.shaped (.list (ss.map PyData.str)) = true := by
  unfold SeqAt.shaped
  simp only [PyData.canLay0, PyData.depth, depth_strs, lay_strs ss h, Bool.true_and]
  decide
theorem eqv_nil {α : Type} (f : α → PyData) (l : List α) : PyData.eqv (.list (l.map f)) (.list []) = decide (l = []) := by
  cases l <;> simp [PyData.eqv, PyData.eqvAll]
/-- a call of what an expression gives: a def by its address -/
structure CalAt (P : Program) (w : World) (K : PySem.W.Frag) (mg : Str → Option Value) (base : Heap) (k : Nat) (f : Addr) (sp : Sp) : Prop where
  ex : ∃ (fd : FuncData) (ps : List Str), FnOk P w K mg base CX0 k f fd ps sp ∧ PySem.W.keepIn K (.ref f) = true ∧ Binds K fd ps []
theorem Cal.at {P : Program} {w : World} {K : PySem.W.Frag} {mg : Str → Option Value} {base : Heap} {k : Nat} {x : Str} {sp : Sp} (c : Cal CX0 P w K mg base k x sp) : ∃ f, mg x = some (.ref f) ∧ CalAt P w K mg base k f sp := by
  obtain ⟨f, fd, ps, F, m, kp, b⟩ := c.ex
  exact ⟨f, m, fd, ps, F, kp, b⟩
def tCf (P : Program) (w : World) (K : PySem.W.Frag) (mg : Str → Option Value) (base : Heap) (j : Nat) (tf : TE) (t : TA) : TE := fun σ H Q => tf σ H fun x H1 => ∃ k f sp, x = .ref f ∧ CalAt P w K mg base k f sp ∧ k ≤ j ∧ t σ H1 fun vs H2 => sp vs H2 Q E0
section
variable {X : Cx} {j : Nat} {pos : Pos} {fe e : Expr} {es : List Expr} {tf : TE} {t : TA}
theorem pe_cf (hr : Room j X.A) (hf : PE X fe tf) (ha : PA X (e :: es) t)
    (hc : eval (.Call fe (e :: es) [] pos) X.env = (do callWith pos (← eval fe X.env) [] (backTo pos (starEach (e :: es) X.env)) (backToKw pos (keywordEach [] X.env))) := by rfl)
    (he : starEach (e :: es) X.env = (false, eval e X.env) :: starEach es X.env := by rfl) (hpl : (backTo pos (starEach es X.env)).any (·.1) = false := by rfl) : PE X (.Call fe (e :: es) [] pos) (tCf X.prog X.w X.K X.mg X.base j tf t) := by
  refine ⟨fun pins s σ H Q I h => ?_⟩
  refine Call_ (thn (hf.run pins s σ H _ I h) fun u s1 ⟨x, H1, I1, r1, k, f, sp, e1, c, hk, q1⟩ => ?_) hc
  subst e1
  cases r1
  obtain ⟨fd, ps, F, kp, b⟩ := c.ex
  refine PySem.W.callWith_K (h₀ := X.base) I1.ok.mod.kin kp (thn (ha.run pos pins s1 σ _ _ I1 q1) fun us s2 ⟨vs, H2, I2, r, q⟩ => ⟨I2.kIn, ?_⟩) he hpl
  exact run_fn F (hr.mono hk) b .nil pass0 I2 r (by rw [List.append_nil]; exact q)
end

/-! ### what is a plain tree, of any thing -/
def toPT : PyData → Option PT
  | .int i => some (.lf i)
  | .tuple [a, b] => match toPT a, toPT b with
    | some l, some r => some (.nd l r)
    | _, _ => none
  | _ => none
def toCT : PyData → Option CT
  | .int i => some (.lf i)
  | .tuple [.int n, a, b] => match toCT a, toCT b with
    | some l, some r => some (.nd n l r)
    | _, _ => none
  | _ => none
def PT.plB : PT → Bool
  | .lf i => decide (0 ≤ i ∧ i < 2)
  | .nd l r => l.plB && r.plB && !decide (l = .lf 0 ∧ r = .lf 0) && !decide (l = .lf 1 ∧ r = .lf 1)
def CT.plB : CT → Bool
  | .lf n => decide (0 ≤ n)
  | .nd n l r => decide (0 ≤ n) && l.plB && r.plB && decide (min l.front r.front = 0) && !decide (l = .lf 0 ∧ r = .lf 0)
def isPart (d : PyData) : Bool := match toPT d with | some t => t.plB | none => false
def isCount (d : PyData) : Bool := match toCT d with | some t => t.plB | none => false
def isClock : PyData → Bool
  | .tuple [a, b] => isPart a && isCount b
  | _ => false
theorem PT.plB_iff : ∀ t : PT, t.plB = true ↔ t.pl
  | .lf i => by
    show decide _ = true ↔ (i = 0 ∨ i = 1)
    rw [decide_eq_true_eq]
    omega
  | .nd l r => by
    simp only [PT.plB, Bool.and_eq_true, Bool.not_eq_true', decide_eq_false_iff_not, plB_iff l, plB_iff r, PT.pl, and_assoc]
theorem CT.plB_iff : ∀ t : CT, t.plB = true ↔ t.pl
  | .lf n => by
    show decide _ = true ↔ 0 ≤ n
    rw [decide_eq_true_eq]
  | .nd n l r => by
    simp only [CT.plB, Bool.and_eq_true, Bool.not_eq_true', decide_eq_false_iff_not, decide_eq_true_eq, plB_iff l, plB_iff r, CT.pl, and_assoc]
theorem toPT_d : ∀ t : PT, toPT t.d = some t
  | .lf i => by simp only [PT.d, toPT]
  | .nd l r => by simp only [PT.d, toPT, toPT_d l, toPT_d r]
theorem toCT_d : ∀ t : CT, toCT t.d = some t
  | .lf i => by simp only [CT.d, toCT]
  | .nd n l r => by simp only [CT.d, toCT, toCT_d l, toCT_d r]
theorem isPart_d (t : PT) : isPart t.d = t.plB := by unfold isPart; rw [toPT_d]
theorem isCount_d (t : CT) : isCount t.d = t.plB := by unfold isCount; rw [toCT_d]
theorem of_toPT (n : Nat) : ∀ (d : PyData) (t : PT), sizeOf d ≤ n → toPT d = some t → d = t.d := by
  induction n with
  | zero => intro d t h; cases d <;> simp at h
  | succ n ih =>
    intro d t hn h
    cases d with
    | int i =>
      simp only [toPT, Option.some.injEq] at h
      subst h
      rfl
    | tuple ds =>
      match ds, hn, h with
      | [a, b], hn, h =>
        simp only [toPT] at h
        simp at hn
        cases ea : toPT a with
        | none => rw [ea] at h; simp at h
        | some l =>
          cases eb : toPT b with
          | none => rw [ea, eb] at h; simp at h
          | some r =>
            rw [ea, eb] at h
            simp at h
            subst h
            rw [ih a l (by omega) ea, ih b r (by omega) eb]
            rfl
      | [], _, h => simp [toPT] at h
      | [_], _, h => simp [toPT] at h
      | _ :: _ :: _ :: _, _, h => simp [toPT] at h
    | none => simp [toPT] at h
    | bool b => simp [toPT] at h
    | str x => simp [toPT] at h
    | list ds => simp [toPT] at h
    | dict kv => simp [toPT] at h
theorem of_toCT (n : Nat) : ∀ (d : PyData) (t : CT), sizeOf d ≤ n → toCT d = some t → d = t.d := by
  induction n with
  | zero => intro d t h; cases d <;> simp at h
  | succ n ih =>
    intro d t hn h
    cases d with
    | int i =>
      simp only [toCT, Option.some.injEq] at h
      subst h
      rfl
    | tuple ds =>
      match ds, hn, h with
      | [.int m, a, b], hn, h =>
        simp only [toCT] at h
        simp at hn
        cases ea : toCT a with
        | none => rw [ea] at h; simp at h
        | some l =>
          cases eb : toCT b with
          | none => rw [ea, eb] at h; simp at h
          | some r =>
            rw [ea, eb] at h
            simp at h
            subst h
            rw [ih a l (by omega) ea, ih b r (by omega) eb]
            rfl
      | [], _, h => simp [toCT] at h
      | [_], _, h => simp [toCT] at h
      | [_, _], _, h => simp [toCT] at h
      | [.none, _, _], _, h => simp [toCT] at h
      | [.bool _, _, _], _, h => simp [toCT] at h
      | [.str _, _, _], _, h => simp [toCT] at h
      | [.list _, _, _], _, h => simp [toCT] at h
      | [.tuple _, _, _], _, h => simp [toCT] at h
      | [.dict _, _, _], _, h => simp [toCT] at h
      | _ :: _ :: _ :: _ :: _, _, h => simp [toCT] at h
    | none => simp [toCT] at h
    | bool b => simp [toCT] at h
    | str x => simp [toCT] at h
    | list ds => simp [toCT] at h
    | dict kv => simp [toCT] at h
theorem isPart_true {d : PyData} (h : isPart d = true) : ∃ t : PT, d = t.d ∧ t.pl := by
  unfold isPart at h
  cases e : toPT d with
  | none => rw [e] at h; cases h
  | some t =>
    rw [e] at h
    exact ⟨t, of_toPT _ d t (Nat.le_refl _) e, (PT.plB_iff t).mp h⟩
theorem isCount_true {d : PyData} (h : isCount d = true) : ∃ t : CT, d = t.d ∧ t.pl := by
  unfold isCount at h
  cases e : toCT d with
  | none => rw [e] at h; cases h
  | some t =>
    rw [e] at h
    exact ⟨t, of_toCT _ d t (Nat.le_refl _) e, (CT.plB_iff t).mp h⟩
theorem isPart_int (i : Int) : isPart (.int i) = decide (0 ≤ i ∧ i < 2) := by simp only [isPart, toPT, PT.plB]
theorem isCount_int (i : Int) : isCount (.int i) = decide (0 ≤ i) := by simp only [isCount, toCT, CT.plB]
theorem isPart_F1 {a b : PyData} (h : isPart a = false) : isPart (.tuple [a, b]) = false := by
  rw [Bool.eq_false_iff]
  intro z
  obtain ⟨t, e, p⟩ := isPart_true z
  cases t with
  | lf i => cases e
  | nd l r =>
    simp only [PT.d, PyData.tuple.injEq, List.cons.injEq, and_true] at e
    rw [e.1, isPart_d, (PT.plB_iff l).mpr p.1] at h
    cases h
theorem isPart_F2 {a b : PyData} (h : isPart b = false) : isPart (.tuple [a, b]) = false := by
  rw [Bool.eq_false_iff]
  intro z
  obtain ⟨t, e, p⟩ := isPart_true z
  cases t with
  | lf i => cases e
  | nd l r =>
    simp only [PT.d, PyData.tuple.injEq, List.cons.injEq, and_true] at e
    rw [e.2, isPart_d, (PT.plB_iff r).mpr p.2.1] at h
    cases h
theorem isPart_len {ds : List PyData} (h : ds.length ≠ 2) : isPart (.tuple ds) = false := by
  rw [Bool.eq_false_iff]
  intro z
  obtain ⟨t, e, p⟩ := isPart_true z
  cases t with
  | lf i => cases e
  | nd l r =>
    simp only [PT.d, PyData.tuple.injEq] at e
    rw [e] at h
    exact h rfl
theorem isCount_F0 {a b c : PyData} (h : ∀ n : Int, 0 ≤ n → a ≠ .int n) : isCount (.tuple [a, b, c]) = false := by
  rw [Bool.eq_false_iff]
  intro z
  obtain ⟨t, e, p⟩ := isCount_true z
  cases t with
  | lf i => cases e
  | nd n l r =>
    simp only [CT.d, PyData.tuple.injEq, List.cons.injEq, and_true] at e
    exact h n p.1 e.1
theorem isCount_F1 {a b c : PyData} (h : isCount b = false) : isCount (.tuple [a, b, c]) = false := by
  rw [Bool.eq_false_iff]
  intro z
  obtain ⟨t, e, p⟩ := isCount_true z
  cases t with
  | lf i => cases e
  | nd n l r =>
    simp only [CT.d, PyData.tuple.injEq, List.cons.injEq, and_true] at e
    rw [e.2.1, isCount_d, (CT.plB_iff l).mpr p.2.1] at h
    cases h
theorem isCount_F2 {a b c : PyData} (h : isCount c = false) : isCount (.tuple [a, b, c]) = false := by
  rw [Bool.eq_false_iff]
  intro z
  obtain ⟨t, e, p⟩ := isCount_true z
  cases t with
  | lf i => cases e
  | nd n l r =>
    simp only [CT.d, PyData.tuple.injEq, List.cons.injEq, and_true] at e
    rw [e.2.2, isCount_d, (CT.plB_iff r).mpr p.2.2.1] at h
    cases h
theorem isCount_len {ds : List PyData} (h : ds.length ≠ 3) : isCount (.tuple ds) = false := by
  rw [Bool.eq_false_iff]
  intro z
  obtain ⟨t, e, p⟩ := isCount_true z
  cases t with
  | lf i => cases e
  | nd n l r =>
    simp only [CT.d, PyData.tuple.injEq] at e
    rw [e] at h
    exact h rfl
/-- of a pair of plain trees -/
theorem isPart_nd {l r : PT} (hl : l.pl) (hr : r.pl) : isPart (PT.nd l r).d = decide (PT.mk l r = .nd l r) := by
  rw [isPart_d, Bool.eq_iff_iff, PT.plB_iff, decide_eq_true_eq]
  constructor
  · intro h
    have := PT.pl_plain h
    rw [PT.plain, PT.pl_plain hl, PT.pl_plain hr] at this
    exact this
  · intro h
    rw [← h]
    exact PT.mk_pl hl hr
theorem isCount_nd {n : Int} {l r : CT} (hn : 0 ≤ n) (hl : l.pl) (hr : r.pl) : isCount (CT.nd n l r).d = decide (CT.mk n l r = .nd n l r) := by
  rw [isCount_d, Bool.eq_iff_iff, CT.plB_iff, decide_eq_true_eq]
  constructor
  · intro h
    have := CT.pl_plain h
    rw [CT.plain, CT.pl_plain hl, CT.pl_plain hr] at this
    exact this
  · intro h
    rw [← h]
    exact CT.mk_pl hn hl hr
def isWh : PyData → Bool
  | .int i => decide (0 ≤ i)
  | _ => false
theorem isPart_wh {d : PyData} (h : isWh d = false) (ht : isTp d = false) : isPart d = false := by
  cases d with
  | int i =>
    rw [isPart_int]
    have h' : ¬ (0 ≤ i) := of_decide_eq_false h
    exact decide_eq_false fun z => h' z.1
  | tuple _ => cases ht
  | _ => simp only [isPart, toPT]
theorem isCount_wh {d : PyData} (h : isWh d = false) (ht : isTp d = false) : isCount d = false := by
  cases d with
  | int i =>
    rw [isCount_int]
    exact h
  | tuple _ => cases ht
  | _ => simp only [isCount, toCT]
theorem PT.mk_law (a b : PT) : PT.mk a b = if a = b ∧ (a = .lf 0 ∨ a = .lf 1) then a else .nd a b := by
  unfold PT.mk
  by_cases h0 : a = .lf 0 ∧ b = .lf 0
  · rw [if_pos h0, if_pos ⟨h0.1.trans h0.2.symm, .inl h0.1⟩, h0.1]
  · rw [if_neg h0]
    by_cases h1 : a = .lf 1 ∧ b = .lf 1
    · rw [if_pos h1, if_pos ⟨h1.1.trans h1.2.symm, .inr h1.1⟩, h1.1]
    · rw [if_neg h1, if_neg]
      rintro ⟨e, z | z⟩
      · exact h0 ⟨z, e ▸ z⟩
      · exact h1 ⟨z, e ▸ z⟩
theorem PT.any01 (a : PT) : ([PyData.int 0, .int 1].any fun z => PyData.eqv z a.d) = decide (a = .lf 0 ∨ a = .lf 1) := by
  have h0 : PyData.eqv (.int 0) a.d = decide (PT.lf 0 = a) := PT.eqv_d (.lf 0) a
  have h1 : PyData.eqv (.int 1) a.d = decide (PT.lf 1 = a) := PT.eqv_d (.lf 1) a
  simp only [List.any_cons, List.any_nil, h0, h1, Bool.or_false]
  by_cases c0 : a = .lf 0 <;> by_cases c1 : a = .lf 1 <;> simp [c0, c1, eq_comm]
theorem if_min (i j : Int) : (if j < i then j else i) = min i j := by
  rw [Int.min_def]
  split <;> split <;> omega
theorem if_max (i j : Int) : (if j > i then j else i) = max i j := by
  rw [Int.max_def]
  split <;> split <;> omega
/-- all numbers of a count tree are below b -/
def CT.bd (b : Int) : CT → Prop
  | .lf n => n < b
  | .nd n l r => n < b ∧ l.bd b ∧ r.bd b
theorem atI_ints {ns : List Int} {k : Int} (h0 : 0 ≤ k) (h : k < (ns.length : Int)) : ∃ v : Int, atI (ns.map V.int) k = some (.int v) := by
  have hk : k.toNat < ns.length := by omega
  have ek : k = ((k.toNat : Nat) : Int) := by omega
  refine ⟨ns[k.toNat], ?_⟩
  have q : atI (ns.map V.int) ((k.toNat : Nat) : Int) = some (.int ns[k.toNat]) := atI_nat (by rw [List.getElem?_map, List.getElem?_eq_getElem hk] <;> rfl)
  rw [← ek] at q
  exact q
theorem len_two {α : Type} {l : List α} (h : l.length = 2) : ∃ a b, l = [a, b] := by
  match l, h with
  | [a, b], _ => exact ⟨a, b, rfl⟩
theorem len_three {α : Type} {l : List α} (h : l.length = 3) : ∃ a b c, l = [a, b, c] := by
  match l, h with
  | [a, b, c], _ => exact ⟨a, b, c, rfl⟩
theorem dpall_len {K : PySem.W.Frag} {H : Hp} : ∀ {vs : List V} {ds : List PyData}, DpAll K H vs ds → vs.length = ds.length
  | _, _, .nil => rfl
  | _, _, .cons _ h => by rw [List.length_cons, List.length_cons, dpall_len h]
theorem dec_lenne {n m : Nat} : (!decide (V.int (n : Int) = V.int (m : Int))) = decide (n ≠ m) := by
  by_cases h : n = m
  · subst h; simp
  · have z : ¬ V.int (n : Int) = V.int (m : Int) := fun z => h (by injection z with z; omega)
    rw [decide_eq_false z, decide_eq_true h]
    rfl
theorem dec_ne2 {n : Nat} : (!decide (V.int (n : Int) = V.int 2)) = decide (n ≠ 2) := dec_lenne (m := 2)
theorem dec_ne3 {n : Nat} : (!decide (V.int (n : Int) = V.int 3)) = decide (n ≠ 3) := dec_lenne (m := 3)
def pvs (ps : List (List Bool)) : List V := ps.map fun p => V.str (pstr p)
theorem pvs_length (ps : List (List Bool)) : (pvs ps).length = ps.length := List.length_map _
theorem pvs_app (ps qs : List (List Bool)) : pvs (ps ++ qs) = pvs ps ++ pvs qs := List.map_append
theorem pvs_get {ps : List (List Bool)} {i : Nat} {x : V} (h : (pvs ps)[i]? = some x) : ∃ p, ps[i]? = some p ∧ x = .str (pstr p) := by
  unfold pvs at h
  rw [List.getElem?_map] at h
  cases e : ps[i]? with
  | none => rw [e] at h; cases h
  | some p =>
    rw [e] at h
    exact ⟨p, rfl, (Option.some.inj h).symm⟩
theorem pvs_len {ps : List (List Bool)} {i : Nat} {p : List Bool} (h : ps[i]? = some p) : i < ps.length := (List.getElem?_eq_some_iff.mp h).1
theorem UT.kb_nd (g : Option Int) (l r : UT) : kitB (tyD (UT.nd g l r).d) "tuple" = some true := by
  cases g <;> exact kb_tp _
theorem UT.nd_inv {K : PySem.W.Frag} {H : Hp} {v : V} {g : Option Int} {l r : UT} (h : Dp K H v (UT.nd g l r).d) : ∃ a xs x y, v = .ref a ∧ SqT K H a xs ∧ xs.length ≤ 3 ∧ (2 ≤ xs.length) ∧ cutV xs (some (-2)) none = [x, y] ∧ Dp K H x l.d ∧ Dp K H y r.d := by
  cases g with
  | none =>
    obtain ⟨a, x, y, rfl, hs, hx, hy⟩ := dp_tup2 h
    exact ⟨a, _, x, y, rfl, hs, (by simp), (by simp), rfl, hx, hy⟩
  | some n =>
    obtain ⟨a, z, x, y, rfl, hs, hz, hx, hy⟩ := dp_tup3 h
    exact ⟨a, _, x, y, rfl, hs, (by simp), (by simp), rfl, hx, hy⟩
theorem UT.at_pad : ∀ (t : UT) (p : List Bool) (k : Nat), t.at (p ++ List.replicate k false) = t.at p
  | .lf _, _, _ => by simp only [UT.at]
  | .nd g l r, p, k => by
    rw [UT.at_nd, UT.at_nd]
    cases p with
    | nil =>
      cases k with
      | zero => rfl
      | succ k =>
        rw [List.nil_append, List.replicate_succ, List.headD_cons, List.tail_cons, List.headD_nil, List.tail_nil]
        have e := UT.at_pad l [] k
        rw [List.nil_append] at e
        rw [e]
        simp
    | cons b p =>
      rw [List.cons_append, List.headD_cons, List.tail_cons, List.headD_cons, List.tail_cons, UT.at_pad l, UT.at_pad r]
theorem iteNT {c : Bool} {A B : Prop} (e : c = true) (h : B) : if (!c) = true then A else B := by rw [e]; exact iteF h
theorem iteNF {c : Bool} {A B : Prop} (e : c = false) (h : A) : if (!c) = true then A else B := by rw [e]; exact iteT h
theorem iteTe {c : Bool} {A B : Prop} (e : c = true) (h : A) : if c = true then A else B := by rw [e]; exact iteT h
theorem iteFe {c : Bool} {A B : Prop} (e : c = false) (h : B) : if c = true then A else B := by rw [e]; exact iteF h
theorem pe_gd {X : Cx} {x : Str} {f : Addr} {pos : Pos} (hg : Gl X x) (hm : X.mg x = some (.ref f)) (hd : (x == ("__debug__" : Str)) = false := by decide) : PE X (.Name x pos) (tC (.ref f)) := pe_glob (v := .ref f) hg hm rfl hd

/-! ### parts apart, both, halves -/
namespace PT
def apart : PT → PT → Bool
  | lf i, u => decide (i = 0 ∨ u = lf 0)
  | nd _ _, lf j => decide (j = 0)
  | nd l r, nd l' r' => l.apart l' && r.apart r'
def both : PT → PT → PT
  | lf i, u => if i = 0 then u else lf i
  | nd l r, lf _ => nd l r
  | nd l r, nd l' r' => nd (l.both l') (r.both r')
def hv : PT → PT × PT
  | lf i => if i = 0 then (lf 0, lf 0) else (nd (lf 1) (lf 0), nd (lf 0) (lf 1))
  | nd l r => if l = lf 0 then (nd (lf 0) r.hv.1, nd (lf 0) r.hv.2) else if r = lf 0 then (nd l.hv.1 (lf 0), nd l.hv.2 (lf 0)) else (nd l (lf 0), nd (lf 0) r)
theorem apart_0 (u : PT) : (lf 0).apart u = true := by simp [apart]
theorem apart_1 {u : PT} (h : u ≠ lf 0) : (lf 1).apart u = false := by simp [apart, h]
theorem apart_r0 : ∀ t : PT, t.apart (lf 0) = true
  | lf _ => by simp [apart]
  | nd _ _ => by simp [apart]
theorem apart_r1 : ∀ {t : PT}, t ≠ lf 0 → t.apart (lf 1) = false
  | lf i, h => by
    have h' : i ≠ 0 := fun z => h (by rw [z])
    simp [apart, h']
  | nd _ _, _ => by simp [apart]
theorem apart_iff : ∀ {t u : PT}, t.pl → u.pl → (t.apart u = true ↔ ∀ p, t.at p + u.at p ≤ 1)
  | lf i, u, ht, hu => by
    rcases ht with rfl | rfl
    · refine ⟨fun _ p => ?_, fun _ => apart_0 u⟩
      have := at_01 (pl_ok hu) p
      rw [at_lf]
      omega
    · constructor
      · intro h p
        have e : u = lf 0 := by
          by_cases e : u = lf 0
          · exact e
          · rw [apart_1 e] at h; cases h
        rw [e, at_lf, at_lf]
        decide
      · intro h
        have e : u = lf 0 := const hu fun p => by
          have h1 := h p
          have h2 := at_01 (pl_ok hu) p
          rw [at_lf] at h1
          omega
        rw [e]
        exact apart_r0 _
  | nd l r, lf j, ht, hu => by
    rcases hu with rfl | rfl
    · refine ⟨fun _ p => ?_, fun _ => apart_r0 _⟩
      have := at_01 (pl_ok ht) p
      rw [at_lf]
      omega
    · constructor
      · intro h
        rw [apart_r1 (by intro z; cases z)] at h
        cases h
      · intro h
        have e : nd l r = lf 0 := const ht fun p => by
          have h1 := h p
          have h2 := at_01 (pl_ok ht) p
          rw [at_lf] at h1
          omega
        cases e
  | nd l r, nd l' r', ht, hu => by
    rw [apart, Bool.and_eq_true, apart_iff ht.1 hu.1, apart_iff ht.2.1 hu.2.1]
    constructor
    · intro h p
      rw [at_nd, at_nd]
      by_cases e : p.headD false = true
      · rw [if_pos e, if_pos e]; exact h.2 _
      · rw [if_neg e, if_neg e]; exact h.1 _
    · intro h
      exact ⟨fun p => by have := h (false :: p); rwa [at_l, at_l] at this, fun p => by have := h (true :: p); rwa [at_r, at_r] at this⟩
theorem both_at : ∀ {t u : PT}, t.apart u = true → ∀ p, (t.both u).at p = t.at p + u.at p
  | lf i, u, h, p => by
    simp only [apart, decide_eq_true_eq] at h
    unfold both
    by_cases e : i = 0
    · rw [if_pos e, e, at_lf]; omega
    · rw [if_neg e]
      rcases h with h | h
      · exact absurd h e
      · rw [h, at_lf, at_lf]; omega
  | nd l r, lf j, h, p => by
    simp only [apart, decide_eq_true_eq] at h
    rw [both, h, at_lf]; omega
  | nd l r, nd l' r', h, p => by
    rw [apart, Bool.and_eq_true] at h
    rw [both, at_nd, at_nd, at_nd, both_at h.1, both_at h.2]
    by_cases e : p.headD false = true
    · rw [if_pos e, if_pos e, if_pos e]
    · rw [if_neg e, if_neg e, if_neg e]
theorem both_ok : ∀ {t u : PT}, t.ok → u.ok → (t.both u).ok
  | lf i, u, ht, hu => by
    unfold both
    split
    · exact hu
    · exact ht
  | nd l r, lf j, ht, _ => ht
  | nd l r, nd l' r', ht, hu => ⟨both_ok ht.1 hu.1, both_ok ht.2 hu.2⟩
theorem both_dep : ∀ t u : PT, (t.both u).dep ≤ max t.dep u.dep
  | lf i, u => by
    unfold both
    split
    · omega
    · exact Nat.zero_le _
  | nd l r, lf j => by rw [both]; omega
  | nd l r, nd l' r' => by
    have h1 := both_dep l l'
    have h2 := both_dep r r'
    show max (l.both l').dep (r.both r').dep + 1 ≤ max (max l.dep r.dep + 1) (max l'.dep r'.dep + 1)
    omega
theorem both_lv : ∀ t u : PT, (t.both u).lv ≤ t.lv + u.lv
  | lf i, u => by
    unfold both
    split
    · show u.lv ≤ 1 + u.lv; omega
    · show 1 ≤ 1 + u.lv; omega
  | nd l r, lf j => by rw [both]; omega
  | nd l r, nd l' r' => by
    have h1 := both_lv l l'
    have h2 := both_lv r r'
    show (l.both l').lv + (r.both r').lv ≤ (l.lv + r.lv) + (l'.lv + r'.lv)
    omega
theorem hv_at : ∀ {t : PT}, t.ok → ∀ p, t.hv.1.at p + t.hv.2.at p = t.at p
  | lf i, h, p => by
    rcases h with rfl | rfl
    · simp [hv, at_lf]
    · rw [hv, if_neg (by decide)]
      dsimp only
      rw [at_nd, at_nd, at_lf, at_lf, at_lf]
      split <;> decide
  | nd l r, h, p => by
    rw [hv]
    by_cases e : l = lf 0
    · rw [if_pos e, at_nd, at_nd, at_nd, e]
      split
      · exact hv_at h.2 _
      · rw [at_lf]; decide
    · rw [if_neg e]
      by_cases e2 : r = lf 0
      · rw [if_pos e2, at_nd, at_nd, at_nd, e2]
        split
        · rw [at_lf]; decide
        · exact hv_at h.1 _
      · rw [if_neg e2, at_nd, at_nd, at_nd]
        split
        · rw [at_lf]; omega
        · rw [at_lf]; omega
theorem hv_ne : ∀ {t : PT}, t ≠ lf 0 → t.hv.1 ≠ lf 0 ∧ t.hv.2 ≠ lf 0
  | lf i, h => by
    have h' : i ≠ 0 := fun z => h (by rw [z])
    rw [hv, if_neg h']
    exact ⟨(fun z => by cases z), (fun z => by cases z)⟩
  | nd l r, _ => by
    rw [hv]
    split
    · exact ⟨(fun z => by cases z), (fun z => by cases z)⟩
    · split
      · exact ⟨(fun z => by cases z), (fun z => by cases z)⟩
      · exact ⟨(fun z => by cases z), (fun z => by cases z)⟩
theorem lf01 : ¬ (lf 0 = lf 1) := by intro z; injection z with z; exact absurd z (by decide)
theorem lf10 : ¬ (lf 1 = lf 0) := by intro z; injection z with z; exact absurd z (by decide)
theorem hv_pl : ∀ {t : PT}, t.pl → t.hv.1.pl ∧ t.hv.2.pl
  | lf i, h => by
    rw [hv]
    split
    · exact ⟨.inl rfl, .inl rfl⟩
    · exact ⟨⟨.inr rfl, .inl rfl, fun z => lf10 z.1, fun z => lf01 z.2⟩, ⟨.inl rfl, .inr rfl, fun z => lf10 z.2, fun z => lf01 z.1⟩⟩
  | nd l r, h => by
    have z0 : (lf 0).pl := .inl rfl
    rw [hv]
    by_cases e : l = lf 0
    · rw [if_pos e]
      have er : r ≠ lf 0 := fun z => h.2.2.1 ⟨e, z⟩
      have n := hv_ne er
      have p := hv_pl h.2.1
      exact ⟨⟨z0, p.1, fun z => n.1 z.2, fun z => lf01 z.1⟩, ⟨z0, p.2, fun z => n.2 z.2, fun z => lf01 z.1⟩⟩
    · rw [if_neg e]
      have n := hv_ne e
      have p := hv_pl h.1
      by_cases e2 : r = lf 0
      · rw [if_pos e2]
        exact ⟨⟨p.1, z0, fun z => n.1 z.1, fun z => lf01 z.2⟩, ⟨p.2, z0, fun z => n.2 z.1, fun z => lf01 z.2⟩⟩
      · rw [if_neg e2]
        exact ⟨⟨h.1, z0, fun z => e z.1, fun z => lf01 z.2⟩, ⟨z0, h.2.1, fun z => e2 z.2, fun z => lf01 z.1⟩⟩
theorem hv_dep : ∀ t : PT, t.hv.1.dep ≤ t.dep + 1 ∧ t.hv.2.dep ≤ t.dep + 1
  | lf i => by
    rw [hv]
    split
    · exact ⟨Nat.zero_le _, Nat.zero_le _⟩
    · exact ⟨Nat.le_refl _, Nat.le_refl _⟩
  | nd l r => by
    have h1 := hv_dep l
    have h2 := hv_dep r
    have e (a b : PT) : (nd a b).dep = max a.dep b.dep + 1 := rfl
    have e0 (i : Int) : (lf i).dep = 0 := rfl
    rw [hv]
    split
    · simp only [e, e0]; omega
    · split
      · simp only [e, e0]; omega
      · simp only [e, e0]; omega
theorem hv_lv : ∀ t : PT, t.hv.1.lv ≤ t.lv + 1 ∧ t.hv.2.lv ≤ t.lv + 1
  | lf i => by
    rw [hv]
    split
    · exact ⟨by show 1 ≤ 1 + 1; decide, by show 1 ≤ 1 + 1; decide⟩
    · exact ⟨by show 1 + 1 ≤ 1 + 1; decide, by show 1 + 1 ≤ 1 + 1; decide⟩
  | nd l r => by
    have h1 := hv_lv l
    have h2 := hv_lv r
    have h3 := lv_pos l
    have h4 := lv_pos r
    have e (a b : PT) : (nd a b).lv = a.lv + b.lv := rfl
    have e0 (i : Int) : (lf i).lv = 1 := rfl
    rw [hv]
    split
    · simp only [e, e0]; omega
    · split
      · simp only [e, e0]; omega
      · simp only [e, e0]; omega
end PT

/-! ### counts: opened, at most, higher, more -/
namespace CT
def ol : CT → CT
  | lf n => lf n
  | nd n l _ => l.lift n
def or : CT → CT
  | lf n => lf n
  | nd n _ r => r.lift n
theorem ol_at (t : CT) (p : List Bool) : t.ol.at p = t.at (false :: p) := by
  cases t with
  | lf n => rfl
  | nd n l r => rw [ol, lift_at, at_l]; omega
theorem or_at (t : CT) (p : List Bool) : t.or.at p = t.at (true :: p) := by
  cases t with
  | lf n => rfl
  | nd n l r => rw [or, lift_at, at_r]; omega
theorem ol_dep (t : CT) : t.ol.dep ≤ t.dep - 1 := by
  cases t with
  | lf n => exact Nat.zero_le _
  | nd n l r =>
    rw [ol, lift_dep]
    show l.dep ≤ max l.dep r.dep + 1 - 1
    omega
theorem or_dep (t : CT) : t.or.dep ≤ t.dep - 1 := by
  cases t with
  | lf n => exact Nat.zero_le _
  | nd n l r =>
    rw [or, lift_dep]
    show r.dep ≤ max l.dep r.dep + 1 - 1
    omega
def isLf : CT → Bool
  | lf _ => true
  | nd _ _ _ => false
theorem dep_zero {t : CT} (h : t.dep = 0) : ∃ n, t = lf n := by
  cases t with
  | lf n => exact ⟨n, rfl⟩
  | nd n l r => simp [dep] at h
/-- by fuel: as the code goes -/
def le : Nat → CT → CT → Bool
  | 0, t, u => decide (t.front ≤ u.front)
  | k + 1, t, u => if t.isLf = true ∧ u.isLf = true then decide (t.front ≤ u.front) else le k t.ol u.ol && le k t.or u.or
def hi : Nat → CT → CT → CT
  | 0, t, u => lf (max t.front u.front)
  | k + 1, t, u => if t.isLf = true ∧ u.isLf = true then lf (max t.front u.front) else nd 0 (hi k t.ol u.ol) (hi k t.or u.or)
theorem isLf_eq {t : CT} (h : t.isLf = true) : t = lf t.front := by
  cases t with
  | lf n => rfl
  | nd n l r => cases h
theorem le_iff : ∀ (k : Nat) (t u : CT), t.dep ≤ k → u.dep ≤ k → (le k t u = true ↔ ∀ p, t.at p ≤ u.at p)
  | 0, t, u, ht, hu => by
    obtain ⟨n, rfl⟩ := dep_zero (Nat.le_zero.mp ht)
    obtain ⟨m, rfl⟩ := dep_zero (Nat.le_zero.mp hu)
    rw [le, decide_eq_true_eq]
    exact ⟨fun h p => h, fun h => h []⟩
  | k + 1, t, u, ht, hu => by
    rw [le]
    by_cases c : t.isLf = true ∧ u.isLf = true
    · rw [if_pos c, decide_eq_true_eq]
      constructor
      · intro h p
        rw [isLf_eq c.1, isLf_eq c.2]
        exact h
      · intro h
        have := h []
        rw [isLf_eq c.1, isLf_eq c.2] at this
        exact this
    · have h1 := ol_dep t
      have h2 := ol_dep u
      have h3 := or_dep t
      have h4 := or_dep u
      rw [if_neg c, Bool.and_eq_true, le_iff k _ _ (by omega) (by omega), le_iff k _ _ (by omega) (by omega)]
      have hn : ∀ v : CT, v.at [] = v.at [false] := fun v => by
        cases v with
        | lf n => rfl
        | nd n l r => simp [at_nd]
      constructor
      · intro h p
        cases p with
        | nil => rw [hn t, hn u, ← ol_at, ← ol_at]; exact h.1 []
        | cons b p =>
          cases b with
          | false => rw [← ol_at, ← ol_at]; exact h.1 p
          | true => rw [← or_at, ← or_at]; exact h.2 p
      · intro h
        exact ⟨fun p => by rw [ol_at, ol_at]; exact h _, fun p => by rw [or_at, or_at]; exact h _⟩
theorem hi_at : ∀ (k : Nat) (t u : CT), t.dep ≤ k → u.dep ≤ k → ∀ p, (hi k t u).at p = max (t.at p) (u.at p)
  | 0, t, u, ht, hu, p => by
    obtain ⟨n, rfl⟩ := dep_zero (Nat.le_zero.mp ht)
    obtain ⟨m, rfl⟩ := dep_zero (Nat.le_zero.mp hu)
    rfl
  | k + 1, t, u, ht, hu, p => by
    rw [hi]
    by_cases c : t.isLf = true ∧ u.isLf = true
    · rw [if_pos c]
      conv => rhs; rw [isLf_eq c.1, isLf_eq c.2]
      rfl
    · have h1 := ol_dep t
      have h2 := ol_dep u
      have h3 := or_dep t
      have h4 := or_dep u
      rw [if_neg c, at_nd, hi_at k _ _ (by omega) (by omega), hi_at k _ _ (by omega) (by omega), ol_at, ol_at, or_at, or_at]
      have hn : ∀ v : CT, v.at p = if p.headD false = true then v.at (true :: p.tail) else v.at (false :: p.tail) := fun v => by
        cases v with
        | lf n => simp [at_lf]
        | nd n l r =>
          rw [at_nd, at_r, at_l]
          split <;> rfl
      rw [hn t, hn u]
      split <;> omega
theorem lift_nn {t : CT} {b : Int} (h : t.nn) (hb : 0 ≤ b) : (t.lift b).nn := by
  cases t with
  | lf n => exact Int.add_nonneg h hb
  | nd n l r => exact ⟨Int.add_nonneg h.1 hb, h.2⟩
theorem ol_nn {t : CT} (h : t.nn) : t.ol.nn := by
  cases t with
  | lf n => exact h
  | nd n l r => exact lift_nn h.2.1 h.1
theorem or_nn {t : CT} (h : t.nn) : t.or.nn := by
  cases t with
  | lf n => exact h
  | nd n l r => exact lift_nn h.2.2 h.1
theorem front_nn {t : CT} (h : t.nn) : 0 ≤ t.front := by
  cases t with
  | lf n => exact h
  | nd n l r => exact h.1
theorem hi_nn : ∀ (k : Nat) {t u : CT}, t.nn → u.nn → (hi k t u).nn
  | 0, t, u, ht, hu => by
    have := front_nn ht
    show 0 ≤ max _ _
    omega
  | k + 1, t, u, ht, hu => by
    rw [hi]
    split
    · have := front_nn ht
      show 0 ≤ max _ _
      omega
    · exact ⟨Int.le_refl _, hi_nn k (ol_nn ht) (ol_nn hu), hi_nn k (or_nn ht) (or_nn hu)⟩
theorem hi_dep : ∀ (k : Nat) (t u : CT), (hi k t u).dep ≤ max t.dep u.dep
  | 0, t, u => Nat.zero_le _
  | k + 1, t, u => by
    rw [hi]
    split
    · exact Nat.zero_le _
    · rename_i c
      have h1 := ol_dep t
      have h2 := ol_dep u
      have h3 := or_dep t
      have h4 := or_dep u
      have h5 := hi_dep k t.ol u.ol
      have h6 := hi_dep k t.or u.or
      have h7 : 1 ≤ max t.dep u.dep := by
        cases t with
        | nd n l r => show 1 ≤ max (max l.dep r.dep + 1) u.dep; omega
        | lf n =>
          cases u with
          | nd n l r => show 1 ≤ max 0 (max l.dep r.dep + 1); omega
          | lf m => exact absurd ⟨rfl, rfl⟩ c
      show max (hi k t.ol u.ol).dep (hi k t.or u.or).dep + 1 ≤ _
      omega
theorem ol_or_lv (t : CT) : t.ol.lv + t.or.lv ≤ t.lv + 1 := by
  cases t with
  | lf n => exact Nat.le_refl _
  | nd n l r =>
    rw [ol, or, lift_lv, lift_lv]
    show l.lv + r.lv ≤ l.lv + r.lv + 1
    omega
theorem ol_or_lv' {t : CT} (h : t.isLf = false) : t.ol.lv + t.or.lv = t.lv := by
  cases t with
  | lf n => cases h
  | nd n l r =>
    rw [ol, or, lift_lv, lift_lv]
    rfl
theorem lf_lv {t : CT} (h : t.isLf = true) : t.lv = 1 := by
  cases t with
  | lf n => rfl
  | nd n l r => cases h
theorem hi_lv : ∀ (k : Nat) (t u : CT), (hi k t u).lv + 1 ≤ t.lv + u.lv
  | 0, t, u => by
    have := lv_pos t
    have := lv_pos u
    show 1 + 1 ≤ _
    omega
  | k + 1, t, u => by
    have := lv_pos t
    have := lv_pos u
    rw [hi]
    split
    · show 1 + 1 ≤ _
      omega
    · rename_i c
      have h5 := hi_lv k t.ol u.ol
      have h6 := hi_lv k t.or u.or
      have h7 := ol_or_lv t
      have h8 := ol_or_lv u
      have e : (hi k t.ol u.ol).lv + (hi k t.or u.or).lv = (nd 0 (hi k t.ol u.ol) (hi k t.or u.or)).lv := rfl
      rw [← e]
      cases h9 : t.isLf with
      | false =>
        have := ol_or_lv' h9
        omega
      | true =>
        cases h10 : u.isLf with
        | false =>
          have := ol_or_lv' h10
          omega
        | true => exact absurd ⟨h9, h10⟩ c
/-- more within a part -/
def mo : CT → PT → CT
  | t, .lf i => if i = 0 then t else t.lift 1
  | t, .nd l r => nd 0 (mo t.ol l) (mo t.or r)
theorem mo_at : ∀ (q : PT) (t : CT), q.ok → ∀ p, (mo t q).at p = t.at p + q.at p
  | .lf i, t, h, p => by
    rcases h with rfl | rfl
    · rw [mo, if_pos rfl, PT.at_lf]; omega
    · rw [mo, if_neg (by decide), lift_at, PT.at_lf]
  | .nd l r, t, h, p => by
    rw [mo, at_nd, PT.at_nd, mo_at l _ h.1, mo_at r _ h.2, ol_at, or_at]
    have hn : t.at p = if p.headD false = true then t.at (true :: p.tail) else t.at (false :: p.tail) := by
      cases t with
      | lf n => simp [at_lf]
      | nd n l r =>
        rw [at_nd, at_r, at_l]
        split <;> rfl
    rw [hn]
    split <;> omega
theorem mo_nn : ∀ (q : PT) {t : CT}, t.nn → (mo t q).nn
  | .lf i, t, h => by
    rw [mo]
    split
    · exact h
    · exact lift_nn h (by decide)
  | .nd l r, t, h => ⟨Int.le_refl _, mo_nn l (ol_nn h), mo_nn r (or_nn h)⟩
theorem mo_dep : ∀ (q : PT) (t : CT), (mo t q).dep ≤ max t.dep q.dep
  | .lf i, t => by
    rw [mo]
    split
    · omega
    · rw [lift_dep]; omega
  | .nd l r, t => by
    have h1 := mo_dep l t.ol
    have h2 := mo_dep r t.or
    have h3 := ol_dep t
    have h4 := or_dep t
    show max (mo t.ol l).dep (mo t.or r).dep + 1 ≤ max t.dep (max l.dep r.dep + 1)
    omega
theorem mo_lv : ∀ (q : PT) (t : CT), (mo t q).lv + 1 ≤ t.lv + q.lv
  | .lf i, t => by
    rw [mo]
    split
    · exact Nat.le_refl _
    · rw [lift_lv]; exact Nat.le_refl _
  | .nd l r, t => by
    have h1 := mo_lv l t.ol
    have h2 := mo_lv r t.or
    have h3 := ol_or_lv t
    show (mo t.ol l).lv + (mo t.or r).lv + 1 ≤ t.lv + (l.lv + r.lv)
    omega
end CT
namespace CT
theorem le_lf {t u : CT} (k : Nat) (ht : t.isLf = true) (hu : u.isLf = true) : le k t u = decide (t.front ≤ u.front) := by
  cases k with
  | zero => rfl
  | succ k => rw [le, if_pos ⟨ht, hu⟩]
theorem hi_lf {t u : CT} (k : Nat) (ht : t.isLf = true) (hu : u.isLf = true) : hi k t u = lf (max t.front u.front) := by
  cases k with
  | zero => rfl
  | succ k => rw [hi, if_pos ⟨ht, hu⟩]
/-- highest, plain -/
def hst (t u : CT) : CT := (hi 45 t u).plain
theorem hst_at {t u : CT} (ht : t.dep ≤ 45) (hu : u.dep ≤ 45) (p : List Bool) : (hst t u).at p = max (t.at p) (u.at p) := by
  rw [hst, plain_at, hi_at 45 t u ht hu]
theorem hst_pl {t u : CT} (ht : t.nn) (hu : u.nn) : (hst t u).pl := plain_pl (hi_nn 45 ht hu)
theorem hst_dep (t u : CT) : (hst t u).dep ≤ max t.dep u.dep := Nat.le_trans (plain_dep _) (hi_dep 45 t u)
theorem hst_lv (t u : CT) : (hst t u).lv + 1 ≤ t.lv + u.lv := Nat.le_trans (Nat.succ_le_succ (plain_lv _)) (hi_lv 45 t u)
theorem le_iff45 {t u : CT} (ht : t.dep ≤ 45) (hu : u.dep ≤ 45) : le 45 t u = true ↔ ∀ p, t.at p ≤ u.at p := le_iff 45 t u ht hu
end CT
theorem CT.isTp_d (t : CT) : isTp t.d = !t.isLf := by cases t <;> rfl

theorem filt_more {ps : List (List Bool)} {i : Nat} {p : List Bool} {c : List Bool → Bool} (h : ps[i]? = some p) : pvs ((ps.take (i + 1)).filter c) = pvs ((ps.take i).filter c) ++ if c p = true then [V.str (pstr p)] else [] := by
  rw [take_more h, List.filter_append, pvs_app]
  congr 1
  cases e : c p <;> simp [List.filter_cons, e, pvs]
theorem pvs_dp {K : PySem.W.Frag} {H : Hp} {a : Addr} {ps : List (List Bool)} (h : H a = some (.lst (pvs ps))) : Dp K H (.ref a) (.list ((ps.map pstr).map PyData.str)) := by
  refine .lst (SqL.of h) ?_
  have e : pvs ps = (ps.map pstr).map V.str := by unfold pvs; rw [List.map_map]; rfl
  rw [e]
  exact dpall_strs _
theorem pvs_sh (ps : List (List Bool)) : SeqAt.shaped (.list ((ps.map pstr).map PyData.str)) = true := sh_strs fun s hs => by
  obtain ⟨p, _, rfl⟩ := List.mem_map.mp hs
  exact pstr_ok p
theorem pvs_nil (ps : List (List Bool)) : PyData.eqv (.list ((ps.map pstr).map PyData.str)) (.list []) = decide (ps = []) := by
  rw [eqv_nil]
  refine decide_eq_decide.mpr ?_
  simp
theorem filt_lt {ps : List (List Bool)} {c : List Bool → Bool} {i n : Nat} (h : ps.length ≤ n) (hn : n < sizeLine) : (pvs ((ps.take i).filter c)).length < sizeLine := by
  rw [pvs_length]
  have h1 := List.length_filter_le c (ps.take i)
  have h2 : (ps.take i).length ≤ ps.length := by rw [List.length_take]; omega
  omega
theorem mil_lt : 1000000 < sizeLine := by decide
theorem PT.u_dp {K : PySem.W.Frag} {H : Hp} {v : V} {t : PT} (h : Dp K H v t.d) : Dp K H v t.u.d := by rw [PT.u_d]; exact h
theorem CT.u_dp {K : PySem.W.Frag} {H : Hp} {v : V} {t : CT} (h : Dp K H v t.d) : Dp K H v t.u.d := by rw [CT.u_d]; exact h
theorem PT.no_non {K : PySem.W.Frag} {H : Hp} {t : PT} (h : Dp K H .non t.d) : False := by cases t <;> cases h
theorem CT.no_non {K : PySem.W.Frag} {H : Hp} {t : CT} (h : Dp K H .non t.d) : False := by cases t <;> cases h

/-! ### own errors -/
/-- what the top says of an own class over ValueError -/
structure Own (K : PySem.W.Frag) (mg : Str → Option Value) (x : Str) (C : Addr) : Prop where
  g : mg x = some (.ref C)
  k : PySem.W.keepIn K (.ref C) = true
  t : PySem.W.typeIn K (.ref C) = some (.type "type")
  i : PySem.W.isClsIn K C = true
structure Rsd (K : PySem.W.Frag) (C : Addr) : Prop where
  xx : PySem.W.excIn K C [.type "ValueError", .type "Exception", .type "BaseException", .type "object"] "ValueError.__new__" = true
  b : PySem.W.subIn K (.ref C) (.type "BaseException") = some true
  s : PySem.W.subIn K (.ref C) (.ref C) = some true
theorem exm_self {K : PySem.W.Frag} {mg : Str → Option Value} {x : Str} {C : Addr} (o : Own K mg x C) (r : Rsd K C) : PySem.W.exmOne K (.ref C) (.ref C) = some true := by
  have e1 : (PySem.W.subIn K (.ref C) (.type "BaseException") == some true) = true := by rw [r.b] <;> rfl
  have e2 : ((PySem.W.clsIn K C).isSome && PySem.W.typeIn K (.ref C) == some (.type "type")) = true := by
    have h2' : (PySem.W.clsIn K C).isSome = true := o.i
    rw [h2', o.t] <;> rfl
  show (if (PySem.W.subIn K (.ref C) (.type "BaseException") == some true) = true then (if ((PySem.W.clsIn K C).isSome && PySem.W.typeIn K (.ref C) == some (.type "type")) = true then PySem.W.subIn K (.ref C) (.ref C) else none) else none) = some true
  rw [if_pos e1, if_pos e2]
  exact r.s
theorem kit_own {K : PySem.W.Frag} {mg : Str → Option Value} {x : Str} {C B : Addr} {b : Bool} (o : Own K mg x B) (r : Rsd K C) (h : PySem.W.subIn K (.ref C) (.ref B) = some b) : PySem.W.kitOne K (.ref C) (.ref B) = some b := by
  unfold PySem.W.kitOne
  by_cases e : (Value.ref C == Value.ref B) = true
  · rw [if_pos e]
    have e' : C = B := Value.ref.inj (beq_iff_eq.mp e)
    subst e'
    rw [r.s] at h
    exact h
  · rw [if_neg e]
    have e2 : ((PySem.W.clsIn K B).isSome && PySem.W.typeIn K (.ref B) == some (.type "type")) = true := by
      have h2' : (PySem.W.clsIn K B).isSome = true := o.i
      rw [h2', o.t] <;> rfl
    show (if ((PySem.W.clsIn K B).isSome && PySem.W.typeIn K (.ref B) == some (.type "type")) = true then PySem.W.subIn K (.ref C) (.ref B) else none) = some b
    rw [if_pos e2]
    exact h
theorem kit_VE {K : PySem.W.Frag} {C : Addr} (h : PySem.W.subIn K (.ref C) (.type "ValueError") = some true) : PySem.W.kitOne K (.ref C) (.type "ValueError") = some true := by
  have e : (Value.ref C == Value.type "ValueError") = false := rfl
  have m : PySem.W.kitMeta "ValueError" = true := by decide +kernel
  show (if (Value.ref C == Value.type "ValueError") = true then some true else (if PySem.W.kitMeta "ValueError" = true then PySem.W.subIn K (.ref C) (.type "ValueError") else none)) = some true
  rw [e, m, if_neg Bool.false_ne_true, if_pos rfl]
  exact h
/-- isinstance(e, C) of the error that the suite holds -/
def rIsE2 (K : PySem.W.Frag) (a : Addr) (cls : Value) (d : Option Addr) : List V → Hp → VK → Prop := fun xs H Q => ∃ (D : Addr) (c : V) (cv : Value) (b : Bool), ExcC K D ∧ cls = .ref D ∧ d = none ∧ xs = [.ref a, c] ∧ (∀ u, RelV c u → u = cv) ∧ PySem.W.kitOne K (.ref D) cv = some b ∧ Q (.bl b) H
theorem call_isE2 {X : Cx} {a : Addr} {oe : Obj} {cls : Value} {d : Option Addr} {pn : List (Addr × Obj)} (hz : Zc cls d oe) (hf : ∃ vs, oe.data = .fields vs) : CallR (X.suite a ((a, oe) :: pn)) (.builtin "isinstance") (rIsE2 X.K a cls d) := by
  intro pins s σ H xs us Q I r h
  obtain ⟨D, c, cv, b, C, rfl, rfl, rfl, hcv, e, q⟩ := h
  exact call_isE C hz hf pins s σ H _ us Q I r ⟨c, cv, b, rfl, hcv, e, q⟩
section
variable {X : Cx} {k j : Nat} {x : Str} {sp : Sp} {p pos : Pos} {e : Expr} {es : List Expr} {t : TA}
/-- a call of a def that may raise, in a try -/
theorem pe_cS {W : WX} (c : Cal (L2.CX X.prog X.w) X.prog X.w X.K X.mg X.base k x sp) (hr : Room j X.A) (hk : k ≤ j) (hg : Gl X x) (tk : Takes X W) (ha : PA X (e :: es) t)
    (hdb : (x == ("__debug__" : Str)) = false := by decide) (he : starEach (e :: es) X.env = (false, eval e X.env) :: starEach es X.env := by rfl) (hpl : (backTo pos (starEach es X.env)).any (·.1) = false := by rfl) :
    PE X (.Call (.Name x p) (e :: es) [] pos) (tCallS sp (WE W) t) := by
  obtain ⟨f, fd, ps, F, hm, kp, b⟩ := c.ex
  exact pe_callS F (hr.mono hk) hg hm kp b (fun σ => passAt tk σ) ha hdb he hpl
end
theorem Cal.calm {P : Program} {w : World} {K : PySem.W.Frag} {mg : Str → Option Value} {base : Heap} {k : Nat} {x : Str} {sp : Sp} (c : Cal (L2.CX P w) P w K mg base k x sp) : Cal CX0 P w K mg base k x (fun vs H Q _ => sp vs H Q E0) := by
  obtain ⟨f, fd, ps, F, a, b, d⟩ := c.ex
  refine ⟨f, fd, ps, ⟨fun vs H Q E h => F.len vs H Q E0 h, fun A outer s H args us vs Q E hr he hb hv hs => codeAny_mono (F.run A outer s H args us vs Q E0 hr he hb hv hs) fun r s' hq => ?_⟩, a, b, d⟩
  cases r with
  | error e =>
    obtain ⟨_, _, _, _, _, _, _, _, _, _, _, _, z⟩ := hq
    exact False.elim z
  | ok fl => cases fl <;> exact hq
theorem ix_listK {X : Cx} {K : PySem.W.Frag} (h : X.K = K) : IxR X (rIxL K) := h ▸ ix_list

def top (i : Nat) : Stmt := PySem.Challenge.pw_treeclock_k22_whole_raised.main.body.getD i (.Pass ⟨0, 0, 0, 0⟩)
abbrev st_front : Stmt := top 6
theorem sc_front : FnScope ["count"] ["count"] (defScope st_front) := ⟨rfl, rfl, rfl, by decide +kernel, rfl, by decide +kernel, by decide +kernel⟩
abbrev st_lifted : Stmt := top 7
theorem sc_lifted : FnScope ["count", "by"] ["count", "by"] (defScope st_lifted) := ⟨rfl, rfl, rfl, by decide +kernel, rfl, by decide +kernel, by decide +kernel⟩
abbrev st_plain_count : Stmt := top 8
theorem sc_plain_count : FnScope ["tree", "one", "other", "least"] ["tree"] (defScope st_plain_count) := ⟨rfl, rfl, rfl, by decide +kernel, rfl, by decide +kernel, by decide +kernel⟩
abbrev st_sides : Stmt := top 10
theorem sc_sides : FnScope ["part"] ["part"] (defScope st_sides) := ⟨rfl, rfl, rfl, by decide +kernel, rfl, by decide +kernel, by decide +kernel⟩
abbrev st_opened : Stmt := top 12
theorem sc_opened : FnScope ["count"] ["count"] (defScope st_opened) := ⟨rfl, rfl, rfl, by decide +kernel, rfl, by decide +kernel, by decide +kernel⟩
abbrev st_more : Stmt := top 13
theorem sc_more : FnScope ["count", "part", "left", "right"] ["count", "part"] (defScope st_more) := ⟨rfl, rfl, rfl, by decide +kernel, rfl, by decide +kernel, by decide +kernel⟩
abbrev st_raised : Stmt := top 14
theorem sc_raised : FnScope ["count", "part"] ["count", "part"] (defScope st_raised) := ⟨rfl, rfl, rfl, by decide +kernel, rfl, by decide +kernel, by decide +kernel⟩
abbrev st_done : Stmt := top 16
theorem sc_done : FnScope ["clock"] ["clock"] (defScope st_done) := ⟨rfl, rfl, rfl, by decide +kernel, rfl, by decide +kernel, by decide +kernel⟩
abbrev st__law_cell_at : Stmt := top 18
theorem sc__law_cell_at : FnScope ["_law_script", "_law_k"] ["_law_script", "_law_k"] (defScope st__law_cell_at) := ⟨rfl, rfl, rfl, by decide +kernel, rfl, by decide +kernel, by decide +kernel⟩
abbrev st__law_mixed : Stmt := top 19
theorem sc__law_mixed : FnScope ["_law_script", "_law_k", "_law_drawn_here"] ["_law_script", "_law_k"] (defScope st__law_mixed) := ⟨rfl, rfl, rfl, by decide +kernel, rfl, by decide +kernel, by decide +kernel⟩
abbrev st__law_drawn : Stmt := top 20
theorem sc__law_drawn : FnScope ["_law_number", "_law_k", "_law_drawn_here"] ["_law_number", "_law_k"] (defScope st__law_drawn) := ⟨rfl, rfl, rfl, by decide +kernel, rfl, by decide +kernel, by decide +kernel⟩
abbrev st__law_paths : Stmt := top 21
theorem sc__law_paths : FnScope ["_law_tree", "_law_one", "_law_other", "_law_path"] ["_law_tree"] (defScope st__law_paths) := ⟨rfl, rfl, rfl, by decide +kernel, rfl, by decide +kernel, by decide +kernel⟩
abbrev st__law_at : Stmt := top 22
theorem sc__law_at : FnScope ["_law_tree", "_law_path", "_law_found", "_law_here", "_law_sign"] ["_law_tree", "_law_path"] (defScope st__law_at) := ⟨rfl, rfl, rfl, by decide +kernel, rfl, by decide +kernel, by decide +kernel⟩
abbrev st__law_any_part : Stmt := top 23
theorem sc__law_any_part : FnScope ["_law_number", "_law_deep", "_law_one"] ["_law_number", "_law_deep"] (defScope st__law_any_part) := ⟨rfl, rfl, rfl, by decide +kernel, rfl, by decide +kernel, by decide +kernel⟩
abbrev st__law_any_count : Stmt := top 24
theorem sc__law_any_count : FnScope ["_law_number", "_law_deep", "_law_one"] ["_law_number", "_law_deep"] (defScope st__law_any_count) := ⟨rfl, rfl, rfl, by decide +kernel, rfl, by decide +kernel, by decide +kernel⟩
abbrev st__law_plain_part : Stmt := top 25
theorem sc__law_plain_part : FnScope ["_law_tree", "_law_one", "_law_other"] ["_law_tree"] (defScope st__law_plain_part) := ⟨rfl, rfl, rfl, by decide +kernel, rfl, by decide +kernel, by decide +kernel⟩
abbrev st__law_more : Stmt := top 26
theorem sc__law_more : FnScope ["_law_count", "_law_by"] ["_law_count", "_law_by"] (defScope st__law_more) := ⟨rfl, rfl, rfl, by decide +kernel, rfl, by decide +kernel, by decide +kernel⟩
abbrev st__law_front : Stmt := top 27
theorem sc__law_front : FnScope ["_law_count"] ["_law_count"] (defScope st__law_front) := ⟨rfl, rfl, rfl, by decide +kernel, rfl, by decide +kernel, by decide +kernel⟩
abbrev st__law_plain_count : Stmt := top 28
theorem sc__law_plain_count : FnScope ["_law_tree", "_law_one", "_law_other", "_law_least"] ["_law_tree"] (defScope st__law_plain_count) := ⟨rfl, rfl, rfl, by decide +kernel, rfl, by decide +kernel, by decide +kernel⟩
abbrev st__law_whole : Stmt := top 29
theorem sc__law_whole : FnScope ["_law_thing"] ["_law_thing"] (defScope st__law_whole) := ⟨rfl, rfl, rfl, by decide +kernel, rfl, by decide +kernel, by decide +kernel⟩
abbrev st__law_is_count : Stmt := top 31
theorem sc__law_is_count : FnScope ["_law_thing"] ["_law_thing"] (defScope st__law_is_count) := ⟨rfl, rfl, rfl, by decide +kernel, rfl, by decide +kernel, by decide +kernel⟩
abbrev st__law_told : Stmt := top 33
theorem sc__law_told : FnScope ["_law_kind", "_law_count", "_law_part", "e", "_law_good"] ["_law_kind", "_law_count", "_law_part"] (defScope st__law_told) := ⟨rfl, rfl, rfl, by decide +kernel, rfl, by decide +kernel, by decide +kernel⟩
abbrev st__law_is_raised : Stmt := top 34
theorem sc__law_is_raised : FnScope ["_law_count", "_law_part", "_law_found", "_law_some", "_law_path", "_law_up"] ["_law_count", "_law_part", "_law_found"] (defScope st__law_is_raised) := ⟨rfl, rfl, rfl, by decide +kernel, rfl, by decide +kernel, by decide +kernel⟩
abbrev st_law : Stmt := top 35
theorem sc_law : FnScope ["_law_script", "_law_count", "_law_part", "_law_k", "_law_found", "_law_clock"] ["_law_script"] (defScope st_law) := ⟨rfl, rfl, rfl, by decide +kernel, rfl, by decide +kernel, by decide +kernel⟩
structure Defs (K : PySem.W.Frag) (mg : Str → Option Value) : Prop where
  d_front : Df K mg "front" st_front ["count"]
  d_lifted : Df K mg "lifted" st_lifted ["count", "by"]
  d_plain_count : Df K mg "plain_count" st_plain_count ["tree"]
  d_sides : Df K mg "sides" st_sides ["part"]
  d_opened : Df K mg "opened" st_opened ["count"]
  d_more : Df K mg "more" st_more ["count", "part"]
  d_raised : Df K mg "raised" st_raised ["count", "part"]
  d_done : Df K mg "done" st_done ["clock"]
  d__law_cell_at : Df K mg "_law_cell_at" st__law_cell_at ["_law_script", "_law_k"]
  d__law_mixed : Df K mg "_law_mixed" st__law_mixed ["_law_script", "_law_k"]
  d__law_drawn : Df K mg "_law_drawn" st__law_drawn ["_law_number", "_law_k"]
  d__law_paths : Df K mg "_law_paths" st__law_paths ["_law_tree"]
  d__law_at : Df K mg "_law_at" st__law_at ["_law_tree", "_law_path"]
  d__law_any_part : Df K mg "_law_any_part" st__law_any_part ["_law_number", "_law_deep"]
  d__law_any_count : Df K mg "_law_any_count" st__law_any_count ["_law_number", "_law_deep"]
  d__law_plain_part : Df K mg "_law_plain_part" st__law_plain_part ["_law_tree"]
  d__law_more : Df K mg "_law_more" st__law_more ["_law_count", "_law_by"]
  d__law_front : Df K mg "_law_front" st__law_front ["_law_count"]
  d__law_plain_count : Df K mg "_law_plain_count" st__law_plain_count ["_law_tree"]
  d__law_whole : Df K mg "_law_whole" st__law_whole ["_law_thing"]
  d__law_is_count : Df K mg "_law_is_count" st__law_is_count ["_law_thing"]
  d__law_told : Df K mg "_law_told" st__law_told ["_law_kind", "_law_count", "_law_part"]
  d__law_is_raised : Df K mg "_law_is_raised" st__law_is_raised ["_law_count", "_law_part", "_law_found"]
section
variable {P : Program} {w : World} {K : PySem.W.Frag} {mg : Str → Option Value} {base : Heap}
def R_front (K : PySem.W.Frag) : V → Hp → VK → Prop := fun x H Q => ∃ t : CT, Dp K H x t.d ∧ Q (.int t.front) H
theorem ok_front (T : Txt K mg) (D : Defs K mg) : Cal CX0 P w K mg base 1 "front" (sp1 (R_front K)) := cal1 D.d_front sc_front fun f cdv A outer s H x Q E hr h => by
  obtain ⟨t, ht, q⟩ := h
  refine ⟨_, (pss_cons (ps_if (pt_val (pe_callB call_isD (by rfl) T.b_isinstance (by decide +kernel) (pa_cons (pv 0) (pa_cons (pe_bltn (v := .ty "tuple") (by rfl) T.b_tuple (by decide +kernel) rfl) pa_nil)))) (pss_one (ps_ret (pe_ix ix_tup (pv 0) pe_int (fun _ _ => rfl)))) pss_nil)
    (pss_one (ps_ret (pv 0)))), ?_⟩
  cases t with
  | lf n =>
    obtain rfl := dp_int ht
    exact ⟨_, rfl, _, _, _, _, rfl, ht, kb_tp _, _, rfl, iteF ⟨_, rfl, q⟩⟩
  | nd n l r =>
    obtain ⟨a, x0, y0, rfl, hs, hx, hy⟩ := CT.nd_inv ht
    exact ⟨_, rfl, _, _, _, _, rfl, ht, kb_tp _, _, rfl, iteT ⟨_, rfl, _, _, _, _, rfl, rfl, hs, rfl, q⟩⟩
theorem ok__law_front (T : Txt K mg) (D : Defs K mg) : Cal CX0 P w K mg base 1 "_law_front" (sp1 (R_front K)) := cal1 D.d__law_front sc__law_front fun f cdv A outer s H x Q E hr h => by
  obtain ⟨t, ht, q⟩ := h
  refine ⟨_, (pss_cons (ps_if (pt_val (pe_callB call_isD (by rfl) T.b_isinstance (by decide +kernel) (pa_cons (pv 0) (pa_cons (pe_bltn (v := .ty "tuple") (by rfl) T.b_tuple (by decide +kernel) rfl) pa_nil)))) (pss_one (ps_ret (pe_ix ix_tup (pv 0) pe_int (fun _ _ => rfl)))) pss_nil)
    (pss_one (ps_ret (pv 0)))), ?_⟩
  cases t with
  | lf n =>
    obtain rfl := dp_int ht
    exact ⟨_, rfl, _, _, _, _, rfl, ht, kb_tp _, _, rfl, iteF ⟨_, rfl, q⟩⟩
  | nd n l r =>
    obtain ⟨a, x0, y0, rfl, hs, hx, hy⟩ := CT.nd_inv ht
    exact ⟨_, rfl, _, _, _, _, rfl, ht, kb_tp _, _, rfl, iteT ⟨_, rfl, _, _, _, _, rfl, rfl, hs, rfl, q⟩⟩
def R_lift (K : PySem.W.Frag) : V → V → Hp → VK → Prop := fun x y H Q => ∃ (t : CT) (b : Int), Dp K H x t.d ∧ y = .int b ∧ ∀ v H', Same H H' → Dp K H' v (t.lift b).d → Q v H'
theorem ok_lifted (T : Txt K mg) (D : Defs K mg) : Cal CX0 P w K mg base 1 "lifted" (sp2 (R_lift K)) := cal2 D.d_lifted sc_lifted fun f cdv A outer s H x y Q E hr h => by
  obtain ⟨t, b, ht, rfl, q⟩ := h
  refine ⟨_, (pss_cons (ps_if (pt_val (pe_callB call_isD (by rfl) T.b_isinstance (by decide +kernel) (pa_cons (pv 0) (pa_cons (pe_bltn (v := .ty "tuple") (by rfl) T.b_tuple (by decide +kernel) rfl) pa_nil)))) (pss_one (ps_ret (pe_tup (pa_cons (pe_op op_add (pe_ix ix_tup (pv 0) pe_int (fun _ _ => rfl)) (pv 1)) (pa_cons (pe_ix ix_tup (pv 0) pe_int (fun _ _ => rfl)) (pa_cons (pe_ix ix_tup (pv 0) pe_int (fun _ _ => rfl)) pa_nil)))))) pss_nil)
    (pss_one (ps_ret (pe_op op_add (pv 0) (pv 1))))), ?_⟩
  cases t with
  | lf n =>
    obtain rfl := dp_int ht
    exact ⟨_, rfl, _, _, _, _, rfl, ht, kb_tp _, _, rfl, iteF ⟨_, rfl, _, rfl, _, _, rfl, rfl, q _ H (Same.refl H) (CT.lf_dp _)⟩⟩
  | nd n l r =>
    obtain ⟨a, x0, y0, rfl, hs, hx, hy⟩ := CT.nd_inv ht
    refine ⟨_, rfl, _, _, _, _, rfl, ht, kb_tp _, _, rfl, iteT ?_⟩
    refine ⟨_, rfl, _, _, _, _, rfl, rfl, hs, rfl, _, rfl, _, _, rfl, rfl, ?_⟩
    refine ⟨_, rfl, _, _, _, _, rfl, rfl, hs, rfl, _, rfl, _, _, _, _, rfl, rfl, hs, rfl, three_le, fun p hp => ?_⟩
    exact q _ _ (same_new hp _) (CT.nd_new (n := n + b) hp hx hy)
theorem ok__law_more (T : Txt K mg) (D : Defs K mg) : Cal CX0 P w K mg base 1 "_law_more" (sp2 (R_lift K)) := cal2 D.d__law_more sc__law_more fun f cdv A outer s H x y Q E hr h => by
  obtain ⟨t, b, ht, rfl, q⟩ := h
  refine ⟨_, (pss_cons (ps_if (pt_val (pe_callB call_isD (by rfl) T.b_isinstance (by decide +kernel) (pa_cons (pv 0) (pa_cons (pe_bltn (v := .ty "tuple") (by rfl) T.b_tuple (by decide +kernel) rfl) pa_nil)))) (pss_one (ps_ret (pe_tup (pa_cons (pe_op op_add (pe_ix ix_tup (pv 0) pe_int (fun _ _ => rfl)) (pv 1)) (pa_cons (pe_ix ix_tup (pv 0) pe_int (fun _ _ => rfl)) (pa_cons (pe_ix ix_tup (pv 0) pe_int (fun _ _ => rfl)) pa_nil)))))) pss_nil)
    (pss_one (ps_ret (pe_op op_add (pv 0) (pv 1))))), ?_⟩
  cases t with
  | lf n =>
    obtain rfl := dp_int ht
    exact ⟨_, rfl, _, _, _, _, rfl, ht, kb_tp _, _, rfl, iteF ⟨_, rfl, _, rfl, _, _, rfl, rfl, q _ H (Same.refl H) (CT.lf_dp _)⟩⟩
  | nd n l r =>
    obtain ⟨a, x0, y0, rfl, hs, hx, hy⟩ := CT.nd_inv ht
    refine ⟨_, rfl, _, _, _, _, rfl, ht, kb_tp _, _, rfl, iteT ?_⟩
    refine ⟨_, rfl, _, _, _, _, rfl, rfl, hs, rfl, _, rfl, _, _, rfl, rfl, ?_⟩
    refine ⟨_, rfl, _, _, _, _, rfl, rfl, hs, rfl, _, rfl, _, _, _, _, rfl, rfl, hs, rfl, three_le, fun p hp => ?_⟩
    exact q _ _ (same_new hp _) (CT.nd_new (n := n + b) hp hx hy)
def R_ppart (K : PySem.W.Frag) (n : Nat) : V → Hp → VK → Prop := fun x H Q => ∃ t : PT, Dp K H x t.d ∧ t.dep < n ∧ n ≤ 62 ∧ ∀ v H', Same H H' → Dp K H' v t.plain.d → Q v H'
theorem R_ppart_0 {K : PySem.W.Frag} : ∀ vs H Q E, ¬ sp1 (R_ppart K 0) vs H Q E := by
  rintro vs H Q E ⟨x, rfl, t, _, h, _⟩
  omega
end
section
variable {P : Program} {w : World} {K : PySem.W.Frag} {mg : Str → Option Value} {base : Heap}
def R_pcount (K : PySem.W.Frag) (n : Nat) : V → Hp → VK → Prop := fun x H Q => ∃ t : CT, Dp K H x t.d ∧ t.dep < n ∧ n ≤ 62 ∧ ∀ v H', Same H H' → Dp K H' v t.plain.d → Q v H'
theorem R_pcount_0 {K : PySem.W.Frag} : ∀ vs H Q E, ¬ sp1 (R_pcount K 0) vs H Q E := by
  rintro vs H Q E ⟨x, rfl, t, _, h, _⟩
  omega
theorem ok_plain_count (T : Txt K mg) (D : Defs K mg) : ∀ n, Cal CX0 P w K mg base (n + 2) "plain_count" (sp1 (R_pcount K n))
  | 0 => cal_no D.d_plain_count R_pcount_0
  | n + 1 => by
    have c_plain_count := ok_plain_count T D n
    have c_front := ok_front (P := P) (w := w) (base := base) T D
    have c_lifted := ok_lifted (P := P) (w := w) (base := base) T D
    refine cal1 D.d_plain_count sc_plain_count fun f cdv A outer s H x Q E hr h => ?_
    obtain ⟨t, ht, hn, h60, q⟩ := h
    refine ⟨_, (pss_cons (ps_if (pt_not (pt_val (pe_callB call_isD (by rfl) T.b_isinstance (by decide +kernel) (pa_cons (pv 0) (pa_cons (pe_bltn (v := .ty "tuple") (by rfl) T.b_tuple (by decide +kernel) rfl) pa_nil))))) (pss_one (ps_ret (pv 0))) pss_nil)
    (pss_cons (ps_set (i := 1) sc_plain_count.nd rfl (Or.inl rfl) (pe_c c_plain_count hr (by omega) rfl (pa_cons (pe_ix ix_tup (pv 0) pe_int (fun _ _ => rfl)) pa_nil)))
    (pss_cons (ps_set (i := 2) sc_plain_count.nd rfl (Or.inl rfl) (pe_c c_plain_count hr (by omega) rfl (pa_cons (pe_ix ix_tup (pv 0) pe_int (fun _ _ => rfl)) pa_nil)))
    (pss_cons (ps_set (i := 3) sc_plain_count.nd rfl (Or.inl rfl) (pe_callB (call_min2 rfl) (by rfl) T.b_min (by decide +kernel) (pa_cons (pe_c c_front hr (by omega) rfl (pa_cons (pv 1) pa_nil)) (pa_cons (pe_c c_front hr (by omega) rfl (pa_cons (pv 2) pa_nil)) pa_nil))))
    (pss_cons (ps_set (i := 1) sc_plain_count.nd rfl (Or.inl rfl) (pe_c c_lifted hr (by omega) rfl (pa_cons (pv 1) (pa_cons (pe_un un_neg (pv 3)) pa_nil))))
    (pss_cons (ps_set (i := 2) sc_plain_count.nd rfl (Or.inl rfl) (pe_c c_lifted hr (by omega) rfl (pa_cons (pv 2) (pa_cons (pe_un un_neg (pv 3)) pa_nil))))
    (pss_cons (ps_if (PW.pt (pw_and (pt_cmpR (op_eqD hr.units) (pv 1) pe_int (nomark _)) (pw_and1 (pt_cmpR (op_eqD hr.units) (pv 2) pe_int (nomark _))))) (pss_one (ps_ret (pe_op op_add (pe_ix ix_tup (pv 0) pe_int (fun _ _ => rfl)) (pv 3)))) pss_nil)
    (pss_one (ps_ret (pe_tup (pa_cons (pe_op op_add (pe_ix ix_tup (pv 0) pe_int (fun _ _ => rfl)) (pv 3)) (pa_cons (pv 1) (pa_cons (pv 2) pa_nil))))))))))))), ?_⟩
    cases t with
    | lf i =>
      obtain rfl := dp_int ht
      exact ⟨_, rfl, _, _, _, _, rfl, ht, kb_tp _, _, rfl, iteT ⟨_, rfl, q _ H (Same.refl H) ht⟩⟩
    | nd m l r =>
      obtain ⟨a, x, y, rfl, hs, hx, hy⟩ := CT.nd_inv ht
      rw [CT.dep_nd] at hn
      have b1 := CT.plain_dep l
      have b2 := CT.plain_dep r
      refine ⟨_, rfl, _, _, _, _, rfl, ht, kb_tp _, _, rfl, iteF ?_⟩
      refine ⟨_, rfl, _, _, _, _, rfl, rfl, hs, rfl, _, rfl, l, hx, by omega, by omega, fun v1 H1 s1 d1 => ?_⟩
      refine ⟨_, rfl, _, _, _, _, rfl, rfl, Same.sqt s1 hs, rfl, _, rfl, r, Dp.same s1 _ _ hy, by omega, by omega, fun v2 H2 s2 d2 => ?_⟩
      refine ⟨_, rfl, _, rfl, l.plain, Dp.same s2 _ _ d1, _, rfl, _, rfl, r.plain, d2, _, _, rfl, ?_⟩
      rw [if_min]
      refine ⟨_, rfl, _, rfl, _, rfl, _, _, rfl, l.plain, _, Dp.same s2 _ _ d1, rfl, fun v3 H3 s3 d3 => ?_⟩
      refine ⟨_, rfl, _, rfl, _, rfl, _, _, rfl, r.plain, _, Dp.same s3 _ _ d2, rfl, fun v4 H4 s4 d4 => ?_⟩
      have sa := s1.trans (s2.trans (s3.trans s4))
      have d3' := Dp.same s4 _ _ d3
      have hs4 := Same.sqt sa hs
      have tup : ¬ (l.plain.lift (-(CT.least l.plain r.plain)) = .lf 0 ∧ r.plain.lift (-(CT.least l.plain r.plain)) = .lf 0) → ∀ p, H4 p = none → Q (.ref p) (upd H4 p (.tup [.int (m + min l.plain.front r.plain.front), v3, v4])) := fun c p hp => by
        refine q _ _ (sa.trans (same_new hp _)) ?_
        rw [CT.mk_nd, CT.mk, if_neg c]
        exact CT.nd_new hp d3' d4
      refine ⟨_, rfl, _, _, d3', CT.lf_dp 0, CT.sh (by rw [CT.lift_dep]; omega), by decide +kernel, _, rfl, iteE (CT.eqv_d _ (CT.lf 0)) (fun c1 => ?_) fun c1 => ?_⟩
      · refine ⟨_, rfl, _, _, d4, CT.lf_dp 0, CT.sh (by rw [CT.lift_dep]; omega), by decide +kernel, _, rfl, iteE (CT.eqv_d _ (CT.lf 0)) (fun c2 => ?_) fun c2 => ?_⟩
        · refine ⟨_, rfl, _, _, _, _, rfl, rfl, hs4, rfl, _, rfl, _, _, rfl, rfl, q _ H4 sa ?_⟩
          rw [CT.mk_nd, CT.mk, if_pos ⟨c1, c2⟩]
          exact .int _
        · exact ⟨_, rfl, _, _, _, _, rfl, rfl, hs4, rfl, _, rfl, _, _, rfl, rfl, _, rfl, _, rfl, three_le, tup fun z => c2 z.2⟩
      · exact iteF ⟨_, rfl, _, _, _, _, rfl, rfl, hs4, rfl, _, rfl, _, _, rfl, rfl, _, rfl, _, rfl, three_le, tup fun z => c1 z.1⟩
theorem ok__law_plain_part (T : Txt K mg) (D : Defs K mg) : ∀ n, Cal CX0 P w K mg base (n + 1) "_law_plain_part" (sp1 (R_ppart K n))
  | 0 => cal_no D.d__law_plain_part R_ppart_0
  | n + 1 => by
    have c__law_plain_part := ok__law_plain_part T D n
    refine cal1 D.d__law_plain_part sc__law_plain_part fun f cdv A outer s H x Q E hr h => ?_
    obtain ⟨t, ht, hn, h60, q⟩ := h
    refine ⟨_, (pss_cons (ps_if (pt_not (pt_val (pe_callB call_isD (by rfl) T.b_isinstance (by decide +kernel) (pa_cons (pv 0) (pa_cons (pe_bltn (v := .ty "tuple") (by rfl) T.b_tuple (by decide +kernel) rfl) pa_nil))))) (pss_one (ps_ret (pv 0))) pss_nil)
    (pss_cons (ps_set (i := 1) sc__law_plain_part.nd rfl (Or.inl rfl) (pe_c c__law_plain_part hr (by omega) rfl (pa_cons (pe_ix ix_tup (pv 0) pe_int (fun _ _ => rfl)) pa_nil)))
    (pss_cons (ps_set (i := 2) sc__law_plain_part.nd rfl (Or.inl rfl) (pe_c c__law_plain_part hr (by omega) rfl (pa_cons (pe_ix ix_tup (pv 0) pe_int (fun _ _ => rfl)) pa_nil)))
    (pss_cons (ps_if (PW.pt (pw_and (pt_cmpR (op_eqD hr.units) (pv 1) (pv 2) (nomark _)) (pw_and1 (pt_cmpR (op_inT (hu65 hr)) (pv 1) (pe_tup (pa_cons pe_int (pa_cons pe_int pa_nil))) (by with_unfolding_all rfl))))) (pss_one (ps_ret (pv 1))) pss_nil)
    (pss_one (ps_ret (pe_tup (pa_cons (pv 1) (pa_cons (pv 2) pa_nil))))))))), ?_⟩
    cases t with
    | lf i =>
      obtain rfl := dp_int ht
      exact ⟨_, rfl, _, _, _, _, rfl, ht, kb_tp _, _, rfl, iteT ⟨_, rfl, q _ H (Same.refl H) ht⟩⟩
    | nd l r =>
      obtain ⟨a, x, y, rfl, hs, hx, hy⟩ := PT.nd_inv ht
      rw [PT.dep_nd] at hn
      have b1 := PT.plain_dep l
      have b2 := PT.plain_dep r
      refine ⟨_, rfl, _, _, _, _, rfl, ht, kb_tp _, _, rfl, iteF ?_⟩
      refine ⟨_, rfl, _, _, _, _, rfl, rfl, hs, rfl, _, rfl, l, hx, by omega, by omega, fun v1 H1 s1 d1 => ?_⟩
      refine ⟨_, rfl, _, _, _, _, rfl, rfl, Same.sqt s1 hs, rfl, _, rfl, r, Dp.same s1 _ _ hy, by omega, by omega, fun v2 H2 s2 d2 => ?_⟩
      have sa := s1.trans s2
      have d1' := Dp.same s2 _ _ d1
      refine ⟨_, rfl, _, rfl, _, _, d1', d2, PT.sh (by omega), PT.sh (by omega), _, rfl, iteE (PT.eqv_d _ _) (fun c1 => ?_) fun c1 => ?_⟩
      · refine ⟨_, rfl, two_le, fun p hp => ?_⟩
        have s3 := same_new hp (.tup [V.int 0, V.int 1])
        refine ⟨_, _, Dp.same s3 _ _ d1', dp_new2 hp (.int 0) (.int 1), PT.sh (by omega), by decide +kernel, _, rfl, iteE (PT.any01 _) (fun c2 => ?_) fun c2 => ?_⟩
        · refine ⟨_, rfl, q _ _ (sa.trans s3) ?_⟩
          rw [PT.mk_nd, PT.mk_law, if_pos ⟨c1, c2⟩]
          exact Dp.same s3 _ _ d1'
        · refine ⟨_, rfl, _, rfl, two_le, fun p2 hp2 => q _ _ (sa.trans (s3.trans (same_new hp2 _))) ?_⟩
          rw [PT.mk_nd, PT.mk_law, if_neg fun z => c2 z.2]
          exact PT.nd_new hp2 (Dp.same s3 _ _ d1') (Dp.same s3 _ _ d2)
      · refine iteF ⟨_, rfl, _, rfl, two_le, fun p2 hp2 => q _ _ (sa.trans (same_new hp2 _)) ?_⟩
        rw [PT.mk_nd, PT.mk_law, if_neg fun z => c1 z.1]
        exact PT.nd_new hp2 d1' d2
theorem ok__law_plain_count (T : Txt K mg) (D : Defs K mg) : ∀ n, Cal CX0 P w K mg base (n + 2) "_law_plain_count" (sp1 (R_pcount K n))
  | 0 => cal_no D.d__law_plain_count R_pcount_0
  | n + 1 => by
    have c__law_plain_count := ok__law_plain_count T D n
    have c__law_front := ok__law_front (P := P) (w := w) (base := base) T D
    have c__law_more := ok__law_more (P := P) (w := w) (base := base) T D
    refine cal1 D.d__law_plain_count sc__law_plain_count fun f cdv A outer s H x Q E hr h => ?_
    obtain ⟨t, ht, hn, h60, q⟩ := h
    refine ⟨_, (pss_cons (ps_if (pt_not (pt_val (pe_callB call_isD (by rfl) T.b_isinstance (by decide +kernel) (pa_cons (pv 0) (pa_cons (pe_bltn (v := .ty "tuple") (by rfl) T.b_tuple (by decide +kernel) rfl) pa_nil))))) (pss_one (ps_ret (pv 0))) pss_nil)
    (pss_cons (ps_set (i := 1) sc__law_plain_count.nd rfl (Or.inl rfl) (pe_c c__law_plain_count hr (by omega) rfl (pa_cons (pe_ix ix_tup (pv 0) pe_int (fun _ _ => rfl)) pa_nil)))
    (pss_cons (ps_set (i := 2) sc__law_plain_count.nd rfl (Or.inl rfl) (pe_c c__law_plain_count hr (by omega) rfl (pa_cons (pe_ix ix_tup (pv 0) pe_int (fun _ _ => rfl)) pa_nil)))
    (pss_cons (ps_set (i := 3) sc__law_plain_count.nd rfl (Or.inl rfl) (pe_callB (call_min2 rfl) (by rfl) T.b_min (by decide +kernel) (pa_cons (pe_c c__law_front hr (by omega) rfl (pa_cons (pv 1) pa_nil)) (pa_cons (pe_c c__law_front hr (by omega) rfl (pa_cons (pv 2) pa_nil)) pa_nil))))
    (pss_cons (ps_if (PW.pt (pw_and (pt_cmpR (op_eqD hr.units) (pv 1) (pv 3) (nomark _)) (pw_and1 (pt_cmpR (op_eqD hr.units) (pv 2) (pv 3) (nomark _))))) (pss_one (ps_ret (pe_op op_add (pe_ix ix_tup (pv 0) pe_int (fun _ _ => rfl)) (pv 3)))) pss_nil)
    (pss_one (ps_ret (pe_tup (pa_cons (pe_op op_add (pe_ix ix_tup (pv 0) pe_int (fun _ _ => rfl)) (pv 3)) (pa_cons (pe_c c__law_more hr (by omega) rfl (pa_cons (pv 1) (pa_cons (pe_un un_neg (pv 3)) pa_nil))) (pa_cons (pe_c c__law_more hr (by omega) rfl (pa_cons (pv 2) (pa_cons (pe_un un_neg (pv 3)) pa_nil))) pa_nil))))))))))), ?_⟩
    cases t with
    | lf i =>
      obtain rfl := dp_int ht
      exact ⟨_, rfl, _, _, _, _, rfl, ht, kb_tp _, _, rfl, iteT ⟨_, rfl, q _ H (Same.refl H) ht⟩⟩
    | nd m l r =>
      obtain ⟨a, x, y, rfl, hs, hx, hy⟩ := CT.nd_inv ht
      rw [CT.dep_nd] at hn
      have b1 := CT.plain_dep l
      have b2 := CT.plain_dep r
      refine ⟨_, rfl, _, _, _, _, rfl, ht, kb_tp _, _, rfl, iteF ?_⟩
      refine ⟨_, rfl, _, _, _, _, rfl, rfl, hs, rfl, _, rfl, l, hx, by omega, by omega, fun v1 H1 s1 d1 => ?_⟩
      refine ⟨_, rfl, _, _, _, _, rfl, rfl, Same.sqt s1 hs, rfl, _, rfl, r, Dp.same s1 _ _ hy, by omega, by omega, fun v2 H2 s2 d2 => ?_⟩
      have sa := s1.trans s2
      have d1' := Dp.same s2 _ _ d1
      have hs2 := Same.sqt sa hs
      refine ⟨_, rfl, _, rfl, l.plain, d1', _, rfl, _, rfl, r.plain, d2, _, _, rfl, ?_⟩
      rw [if_min]
      have fin : ¬ (l.plain = .lf (CT.least l.plain r.plain) ∧ r.plain = .lf (CT.least l.plain r.plain)) → ∀ v3 H3, Same H2 H3 → Dp K H3 v3 (l.plain.lift (-(min l.plain.front r.plain.front))).d → ∀ v4 H4, Same H3 H4 → Dp K H4 v4 (r.plain.lift (-(min l.plain.front r.plain.front))).d →
          ∀ p, H4 p = none → Q (.ref p) (upd H4 p (.tup [.int (m + min l.plain.front r.plain.front), v3, v4])) := fun c v3 H3 s3 d3 v4 H4 s4 d4 p hp => by
        refine q _ _ (sa.trans (s3.trans (s4.trans (same_new hp _)))) ?_
        rw [CT.mk_nd, CT.mk_law, if_neg c]
        exact CT.nd_new hp (Dp.same s4 _ _ d3) d4
      refine ⟨_, rfl, _, rfl, _, _, d1', CT.lf_dp _, CT.sh (by omega), CT.sh (by show 0 ≤ 64; decide), _, rfl, iteE (CT.eqv_d _ (CT.lf _)) (fun c1 => ?_) fun c1 => ?_⟩
      · refine ⟨_, rfl, _, rfl, _, _, d2, CT.lf_dp _, CT.sh (by omega), CT.sh (by show 0 ≤ 64; decide), _, rfl, iteE (CT.eqv_d _ (CT.lf _)) (fun c2 => ?_) fun c2 => ?_⟩
        · refine ⟨_, rfl, _, _, _, _, rfl, rfl, hs2, rfl, _, rfl, _, _, rfl, rfl, q _ H2 sa ?_⟩
          rw [CT.mk_nd, CT.mk_law, if_pos ⟨c1, c2⟩]
          exact .int _
        · refine ⟨_, rfl, _, _, _, _, rfl, rfl, hs2, rfl, _, rfl, _, _, rfl, rfl, ?_⟩
          refine ⟨_, rfl, _, rfl, _, rfl, _, _, rfl, l.plain, _, d1', rfl, fun v3 H3 s3 d3 => ?_⟩
          refine ⟨_, rfl, _, rfl, _, rfl, _, _, rfl, r.plain, _, Dp.same s3 _ _ d2, rfl, fun v4 H4 s4 d4 => ?_⟩
          exact ⟨three_le, fin (fun z => c2 z.2) v3 H3 s3 d3 v4 H4 s4 d4⟩
      · refine iteF ⟨_, rfl, _, _, _, _, rfl, rfl, hs2, rfl, _, rfl, _, _, rfl, rfl, ?_⟩
        refine ⟨_, rfl, _, rfl, _, rfl, _, _, rfl, l.plain, _, d1', rfl, fun v3 H3 s3 d3 => ?_⟩
        refine ⟨_, rfl, _, rfl, _, rfl, _, _, rfl, r.plain, _, Dp.same s3 _ _ d2, rfl, fun v4 H4 s4 d4 => ?_⟩
        exact ⟨three_le, fin (fun z => c1 z.1) v3 H3 s3 d3 v4 H4 s4 d4⟩
end

section
variable {P : Program} {w : World} {K : PySem.W.Frag} {mg : Str → Option Value} {base : Heap}
def R_cell (K : PySem.W.Frag) : V → V → Hp → VK → Prop := fun x y H Q => ∃ (a : Addr) (ns : List Int) (k : Int), x = .ref a ∧ y = .int k ∧ 0 ≤ k ∧ SqL K H a (ns.map V.int) ∧ ∀ i : Int, Q (.int i) H
theorem ok__law_cell_at (T : Txt K mg) (D : Defs K mg) : Cal CX0 P w K mg base 1 "_law_cell_at" (sp2 (R_cell K)) := cal2 D.d__law_cell_at sc__law_cell_at fun f cdv A outer s H x y Q E hr h => by
  obtain ⟨a, ns, k, rfl, rfl, hk, hS, q⟩ := h
  refine ⟨_, (pss_cons (ps_if (pt_cmpR op_lt (pv 1) (pe_callB call_len_seq (by rfl) T.b_len PySem.boot_len (pa_cons (pv 0) pa_nil)) (nomark _)) (pss_one (ps_ret (pe_ix ix_list (pv 0) (pv 1) (fun _ _ => rfl)))) pss_nil)
    (pss_one (ps_ret pe_int))), ?_⟩
  have hl : (ns.map V.int).length = ns.length := List.length_map _
  refine ⟨_, rfl, _, rfl, _, _, rfl, .inl hS, _, _, rfl, rfl, _, rfl, iteE rfl (fun c => ?_) fun c => q _⟩
  rw [hl] at c
  obtain ⟨v, hv⟩ := atI_ints hk c
  exact ⟨_, rfl, _, rfl, _, _, _, _, rfl, rfl, hS, hv, q v⟩
def R_mixed (K : PySem.W.Frag) : V → V → Hp → VK → Prop := fun x y H Q => ∃ (a : Addr) (ns : List Int) (k : Int), x = .ref a ∧ y = .int k ∧ 0 ≤ k ∧ SqL K H a (ns.map V.int) ∧ ∀ m : Int, 0 ≤ m → m < 2147483629 → Q (.int m) H
theorem ok__law_mixed (T : Txt K mg) (D : Defs K mg) : Cal CX0 P w K mg base 2 "_law_mixed" (sp2 (R_mixed K)) := by
  have c__law_cell_at := ok__law_cell_at (P := P) (w := w) (base := base) T D
  refine cal2 D.d__law_mixed sc__law_mixed fun f cdv A outer s H x y Q E hr h => ?_
  obtain ⟨a, ns, k, rfl, rfl, hk, hS, q⟩ := h
  refine ⟨_, (pss_cons (ps_set (i := 2) sc__law_mixed.nd rfl (Or.inl rfl) (pe_op op_mod (pe_op op_mul (pe_op op_add (pe_op op_add (pe_c c__law_cell_at hr (by omega) rfl (pa_cons (pv 0) (pa_cons (pv 1) pa_nil))) (pe_op op_mul pe_int (pv 1))) pe_int) pe_int) pe_int))
    (pss_one (ps_ret (pe_op op_mod (pe_op op_add (pe_op op_add (pe_op op_mul (pv 2) (pv 2)) (pe_op op_mul pe_int (pv 2))) (pv 1)) pe_int)))), ?_⟩
  refine ⟨_, rfl, _, rfl, _, _, rfl, a, ns, k, rfl, rfl, hk, hS, fun i => ⟨_, rfl, _, _, rfl, rfl, .inl ⟨by decide, by decide⟩, _, _, rfl, rfl, _, _, rfl, rfl, _, _, rfl, rfl, .inr ⟨by decide, by decide⟩, _, _, rfl, rfl, (by show (0 : Int) < 2147483647; decide), ?_⟩⟩
  have z0 := Int.emod_nonneg ((i + 7919 * k + 1) * 48271) (show (2147483647 : Int) ≠ 0 by decide)
  have z1 := Int.emod_lt_of_pos ((i + 7919 * k + 1) * 48271) (show (0 : Int) < 2147483647 by decide)
  refine ⟨_, rfl, _, rfl, _, _, rfl, rfl, .inl ⟨by omega, by omega⟩, _, rfl, _, _, rfl, rfl, .inl ⟨by decide, by decide⟩, _, _, rfl, rfl, _, rfl, _, _, rfl, rfl, _, _, rfl, rfl, (by show (0 : Int) < 2147483629; decide), ?_⟩
  exact q _ (Int.emod_nonneg _ (by decide)) (Int.emod_lt_of_pos _ (by decide))
def R_drawn (K : PySem.W.Frag) : V → V → Hp → VK → Prop := fun x y H Q => ∃ i k : Int, x = .int i ∧ y = .int k ∧ ∀ m : Int, 0 ≤ m → m < 2147483629 → Q (.int m) H
theorem ok__law_drawn (T : Txt K mg) (D : Defs K mg) : Cal CX0 P w K mg base 1 "_law_drawn" (sp2 (R_drawn K)) := by
  refine cal2 D.d__law_drawn sc__law_drawn fun f cdv A outer s H x y Q E hr h => ?_
  obtain ⟨i, k, rfl, rfl, q⟩ := h
  refine ⟨_, (pss_cons (ps_set (i := 2) sc__law_drawn.nd rfl (Or.inl rfl) (pe_op op_mod (pe_op op_mul (pe_op op_add (pe_op op_add (pv 0) (pe_op op_mul pe_int (pv 1))) pe_int) pe_int) pe_int))
    (pss_one (ps_ret (pe_op op_mod (pe_op op_add (pe_op op_add (pe_op op_mul (pv 2) (pv 2)) (pe_op op_mul pe_int (pv 2))) (pv 1)) pe_int)))), ?_⟩
  refine ⟨_, rfl, _, rfl, _, _, rfl, rfl, .inl ⟨by decide, by decide⟩, _, _, rfl, rfl, _, _, rfl, rfl, _, _, rfl, rfl, .inr ⟨by decide, by decide⟩, _, _, rfl, rfl, (by show (0 : Int) < 2147483647; decide), ?_⟩
  have z0 := Int.emod_nonneg ((i + 104729 * k + 17) * 69621) (show (2147483647 : Int) ≠ 0 by decide)
  have z1 := Int.emod_lt_of_pos ((i + 104729 * k + 17) * 69621) (show (0 : Int) < 2147483647 by decide)
  refine ⟨_, rfl, _, rfl, _, _, rfl, rfl, .inl ⟨by omega, by omega⟩, _, rfl, _, _, rfl, rfl, .inl ⟨by decide, by decide⟩, _, _, rfl, rfl, _, rfl, _, _, rfl, rfl, _, _, rfl, rfl, (by show (0 : Int) < 2147483629; decide), ?_⟩
  exact q _ (Int.emod_nonneg _ (by decide)) (Int.emod_lt_of_pos _ (by decide))
def R_any_part (K : PySem.W.Frag) (n : Nat) : V → V → Hp → VK → Prop := fun x y H Q => ∃ (i : Int) (dp : Nat), x = .int i ∧ y = .int (dp : Int) ∧ dp < n ∧ ∀ (t : PT) v H', t.ok → t.dep ≤ dp → Same H H' → Dp K H' v t.d → Q v H'
theorem ok__law_any_part (T : Txt K mg) (D : Defs K mg) : ∀ n, Cal CX0 P w K mg base (n + 1) "_law_any_part" (sp2 (R_any_part K n))
  | 0 => cal_no D.d__law_any_part (by rintro vs H Q E ⟨x, y, rfl, i, dp, _, _, h, _⟩; omega)
  | n + 1 => by
    have c__law_any_part := ok__law_any_part T D n
    have c__law_drawn := ok__law_drawn (P := P) (w := w) (base := base) T D
    refine cal2 D.d__law_any_part sc__law_any_part fun f cdv A outer s H x y Q E hr h => ?_
    obtain ⟨i, dp, rfl, rfl, hd, q⟩ := h
    refine ⟨_, (pss_cons (ps_if (PW.pt (pw_or (pt_cmpR op_eq (pv 1) pe_int (nomark _)) (pw_or1 (pt_cmpR op_lt (pe_op op_mod (pv 0) pe_int) pe_int (nomark _))))) (pss_one (ps_ret (pe_op op_mod (pe_op op_fdiv (pv 0) pe_int) pe_int))) pss_nil)
    (pss_cons (ps_set (i := 2) sc__law_any_part.nd rfl (Or.inl rfl) (pe_c c__law_any_part hr (by omega) rfl (pa_cons (pe_c c__law_drawn hr (by omega) rfl (pa_cons (pv 0) (pa_cons pe_int pa_nil))) (pa_cons (pe_op op_sub (pv 1) pe_int) pa_nil))))
    (pss_one (ps_ret (pe_tup (pa_cons (pv 2) (pa_cons (pe_c c__law_any_part hr (by omega) rfl (pa_cons (pe_c c__law_drawn hr (by omega) rfl (pa_cons (pv 0) (pa_cons pe_int pa_nil))) (pa_cons (pe_op op_sub (pv 1) pe_int) pa_nil))) pa_nil))))))), ?_⟩
    have leaf : ∀ m : Int, Q (.int (m % 2)) H := fun m => q (.lf (m % 2)) _ H (by show m % 2 = 0 ∨ m % 2 = 1; omega) (Nat.zero_le _) (Same.refl H) (PT.lf_dp _)
    refine ⟨_, rfl, rfl, _, rfl, iteE rfl (fun c => iteT ?_) fun c => ?_⟩
    · exact ⟨_, rfl, _, _, rfl, rfl, ⟨by decide, by decide⟩, _, _, rfl, rfl, (by show (0 : Int) < 2; decide), leaf _⟩
    · refine ⟨_, rfl, _, _, rfl, rfl, (by show (0 : Int) < 5; decide), _, _, rfl, rfl, _, rfl, iteE rfl (fun c2 => ?_) fun c2 => ?_⟩
      · exact ⟨_, rfl, _, _, rfl, rfl, ⟨by decide, by decide⟩, _, _, rfl, rfl, (by show (0 : Int) < 2; decide), leaf _⟩
      · have d0 : dp ≠ 0 := fun z => c (by rw [z]; rfl)
        obtain ⟨dq, rfl⟩ : ∃ dq, dp = dq + 1 := ⟨dp - 1, by omega⟩
        have ed : V.int (((dq + 1 : Nat) : Int) - 1) = V.int (dq : Int) := congrArg V.int (by omega)
        refine ⟨_, rfl, _, _, rfl, i, 1, rfl, rfl, fun m1 _ _ => ⟨_, rfl, _, _, rfl, rfl, _, _, rfl, m1, dq, rfl, ed, by omega, fun t1 v1 H1 o1 p1 s1 e1 => ?_⟩⟩
        refine ⟨_, rfl, _, rfl, _, _, rfl, i, 2, rfl, rfl, fun m2 _ _ => ⟨_, rfl, _, _, rfl, rfl, _, _, rfl, m2, dq, rfl, ed, by omega, fun t2 v2 H2 o2 p2 s2 e2 => ?_⟩⟩
        refine ⟨two_le, fun p hp => ?_⟩
        exact q (.nd t1 t2) _ _ ⟨o1, o2⟩ (by rw [PT.dep_nd]; omega) (s1.trans (s2.trans (same_new hp _))) (PT.nd_new hp (Dp.same s2 _ _ e1) e2)
def R_any_count (K : PySem.W.Frag) (n : Nat) : V → V → Hp → VK → Prop := fun x y H Q => ∃ (i : Int) (dp : Nat), x = .int i ∧ y = .int (dp : Int) ∧ dp < n ∧ ∀ (t : CT) v H', t.nn → t.bd 30 → t.dep ≤ dp → Same H H' → Dp K H' v t.d → Q v H'
theorem ok__law_any_count (T : Txt K mg) (D : Defs K mg) : ∀ n, Cal CX0 P w K mg base (n + 1) "_law_any_count" (sp2 (R_any_count K n))
  | 0 => cal_no D.d__law_any_count (by rintro vs H Q E ⟨x, y, rfl, i, dp, _, _, h, _⟩; omega)
  | n + 1 => by
    have c__law_any_count := ok__law_any_count T D n
    have c__law_drawn := ok__law_drawn (P := P) (w := w) (base := base) T D
    refine cal2 D.d__law_any_count sc__law_any_count fun f cdv A outer s H x y Q E hr h => ?_
    obtain ⟨i, dp, rfl, rfl, hd, q⟩ := h
    refine ⟨_, (pss_cons (ps_if (PW.pt (pw_or (pt_cmpR op_eq (pv 1) pe_int (nomark _)) (pw_or1 (pt_cmpR op_lt (pe_op op_mod (pv 0) pe_int) pe_int (nomark _))))) (pss_one (ps_ret (pe_op op_mod (pe_op op_fdiv (pv 0) pe_int) (pe_ix ix_tup (pe_tup (pa_cons pe_int (pa_cons pe_int pa_nil))) (pe_callTy (call_int1) (by rfl) T.b_int (by decide +kernel) (pa_cons (pe_cmpR op_eq (pe_op op_mod (pe_op op_fdiv (pv 0) pe_int) pe_int) pe_int (nomark _)) pa_nil)) (fun _ _ => rfl))))) pss_nil)
    (pss_cons (ps_set (i := 2) sc__law_any_count.nd rfl (Or.inl rfl) (pe_c c__law_any_count hr (by omega) rfl (pa_cons (pe_c c__law_drawn hr (by omega) rfl (pa_cons (pv 0) (pa_cons pe_int pa_nil))) (pa_cons (pe_op op_sub (pv 1) pe_int) pa_nil))))
    (pss_one (ps_ret (pe_tup (pa_cons (pe_op op_mod (pe_op op_fdiv (pv 0) pe_int) pe_int) (pa_cons (pv 2) (pa_cons (pe_c c__law_any_count hr (by omega) rfl (pa_cons (pe_c c__law_drawn hr (by omega) rfl (pa_cons (pv 0) (pa_cons pe_int pa_nil))) (pa_cons (pe_op op_sub (pv 1) pe_int) pa_nil))) pa_nil)))))))), ?_⟩
    have leaf : ∀ (m : Int) (b : Bool) H', Same H H' → Q (.int (m % (if b = true then 30 else 4))) H' := fun m b H' s' => by
      cases b with
      | true => exact q (.lf (m % 30)) _ H' (by show 0 ≤ m % 30; omega) (by show m % 30 < 30; omega) (Nat.zero_le _) s' (CT.lf_dp _)
      | false => exact q (.lf (m % 4)) _ H' (by show 0 ≤ m % 4; omega) (by show m % 4 < 30; omega) (Nat.zero_le _) s' (CT.lf_dp _)
    have hat : ∀ b : Bool, atI [V.int 4, V.int 30] (if b = true then 1 else 0) = some (V.int (if b = true then 30 else 4)) := fun b => by cases b <;> rfl
    have pos : ∀ b : Bool, (0 : Int) < (if b = true then 30 else 4) := fun b => by cases b <;> decide
    refine ⟨_, rfl, rfl, _, rfl, iteE rfl (fun c => iteT ?_) fun c => ?_⟩
    · refine ⟨_, rfl, _, _, rfl, rfl, ⟨by decide, by decide⟩, two_le, fun p hp => ?_⟩
      exact ⟨_, rfl, _, _, rfl, rfl, ⟨by decide, by decide⟩, _, _, rfl, rfl, (by show (0 : Int) < 9; decide), rfl, .inr ⟨_, rfl, _, _, _, _, rfl, rfl, SqT.of upd_same, hat _, _, _, rfl, rfl, pos _, leaf _ _ _ (same_new hp _)⟩⟩
    · refine ⟨_, rfl, _, _, rfl, rfl, (by show (0 : Int) < 5; decide), _, _, rfl, rfl, _, rfl, iteE rfl (fun c2 => ?_) fun c2 => ?_⟩
      · refine ⟨_, rfl, _, _, rfl, rfl, ⟨by decide, by decide⟩, two_le, fun p hp => ?_⟩
        exact ⟨_, rfl, _, _, rfl, rfl, ⟨by decide, by decide⟩, _, _, rfl, rfl, (by show (0 : Int) < 9; decide), rfl, .inr ⟨_, rfl, _, _, _, _, rfl, rfl, SqT.of upd_same, hat _, _, _, rfl, rfl, pos _, leaf _ _ _ (same_new hp _)⟩⟩
      · have d0 : dp ≠ 0 := fun z => c (by rw [z]; rfl)
        obtain ⟨dq, rfl⟩ : ∃ dq, dp = dq + 1 := ⟨dp - 1, by omega⟩
        have ed : V.int (((dq + 1 : Nat) : Int) - 1) = V.int (dq : Int) := congrArg V.int (by omega)
        refine ⟨_, rfl, _, _, rfl, i, 1, rfl, rfl, fun m1 _ _ => ⟨_, rfl, _, _, rfl, rfl, _, _, rfl, m1, dq, rfl, ed, by omega, fun t1 v1 H1 o1 b1 p1 s1 e1 => ?_⟩⟩
        refine ⟨_, rfl, _, _, rfl, rfl, ⟨by decide, by decide⟩, _, _, rfl, rfl, (by show (0 : Int) < 3; decide), ?_⟩
        refine ⟨_, rfl, _, rfl, _, _, rfl, i, 2, rfl, rfl, fun m2 _ _ => ⟨_, rfl, _, _, rfl, rfl, _, _, rfl, m2, dq, rfl, ed, by omega, fun t2 v2 H2 o2 b2 p2 s2 e2 => ?_⟩⟩
        refine ⟨three_le, fun p hp => ?_⟩
        exact q (.nd (i / 5 % 3) t1 t2) _ _ ⟨by omega, o1, o2⟩ ⟨by omega, b1, b2⟩ (by rw [CT.dep_nd]; omega) (s1.trans (s2.trans (same_new hp _))) (CT.nd_new hp (Dp.same s2 _ _ e1) e2)
def R_wh (K : PySem.W.Frag) : V → Hp → VK → Prop := fun x H Q => ∃ d : PyData, Dp K H x d ∧ Q (.bl (isWh d)) H
theorem ok__law_whole (T : Txt K mg) (D : Defs K mg) : Cal CX0 P w K mg base 1 "_law_whole" (sp1 (R_wh K)) := cal1 D.d__law_whole sc__law_whole fun f cdv A outer s H x Q E hr h => by
  obtain ⟨d, hd, q⟩ := h
  refine ⟨_, (pss_one (ps_ret (pe_and (pe_callB call_isD (by rfl) T.b_isinstance (by decide +kernel) (pa_cons (pv 0) (pa_cons (pe_bltn (v := .ty "int") (by rfl) T.b_int (by decide +kernel) rfl) pa_nil))) (pe_and (pe_not (pe_callB call_isD (by rfl) T.b_isinstance (by decide +kernel) (pa_cons (pv 0) (pa_cons (pe_bltn (v := .ty "bool") (by rfl) T.b_bool (by decide +kernel) rfl) pa_nil)))) (pe_one (pe_cmpR op_ge (pv 0) pe_int (nomark _))))))), ?_⟩
  refine ⟨_, rfl, _, _, _, _, rfl, hd, kb_in _, _, rfl, ?_⟩
  cases hd with
  | non => exact iteF q
  | str x => exact iteF q
  | lst hs ha => exact iteF q
  | tup hs ha => exact iteF q
  | bl b => exact iteT ⟨_, rfl, _, _, _, _, rfl, .bl b, kb_bo _, _, rfl, _, rfl, iteF q⟩
  | int i => exact iteT ⟨_, rfl, _, _, _, _, rfl, .int i, kb_bo _, _, rfl, _, rfl, iteT ⟨_, rfl, _, _, rfl, rfl, q⟩⟩
def R_ispart (K : PySem.W.Frag) (n : Nat) : V → Hp → VK → Prop := fun x H Q => ∃ d : PyData, Dp K H x d ∧ d.depth < n ∧ n ≤ 60 ∧ ∀ H', Same H H' → Q (.bl (isPart d)) H'
def R_iscount (K : PySem.W.Frag) (n : Nat) : V → Hp → VK → Prop := fun x H Q => ∃ d : PyData, Dp K H x d ∧ d.depth < n ∧ n ≤ 60 ∧ ∀ H', Same H H' → Q (.bl (isCount d)) H'
theorem ok__law_is_count (T : Txt K mg) (D : Defs K mg) : ∀ n, Cal CX0 P w K mg base (n + 3) "_law_is_count" (sp1 (R_iscount K n))
  | 0 => cal_no D.d__law_is_count (by rintro vs H Q E ⟨x, rfl, d, _, h, _⟩; omega)
  | n + 1 => by
    have c__law_is_count := ok__law_is_count T D n
    have c__law_whole := ok__law_whole (P := P) (w := w) (base := base) T D
    have c__law_plain_count := ok__law_plain_count (P := P) (w := w) (base := base) T D (n + 1)
    refine cal1 D.d__law_is_count sc__law_is_count fun f cdv A outer s H x Q E hr h => ?_
    obtain ⟨d, hd, hn, h60, q⟩ := h
    refine ⟨_, (pss_cons (ps_if (pt_val (pe_c c__law_whole hr (by omega) rfl (pa_cons (pv 0) pa_nil))) (pss_one (ps_ret pe_bl)) pss_nil)
    (pss_cons (ps_if (PW.pt (pw_or (pt_not (pt_val (pe_callB call_isD (by rfl) T.b_isinstance (by decide +kernel) (pa_cons (pv 0) (pa_cons (pe_bltn (v := .ty "tuple") (by rfl) T.b_tuple (by decide +kernel) rfl) pa_nil))))) (pw_or (pt_cmpR op_ne (pe_callB call_len_seq (by rfl) T.b_len PySem.boot_len (pa_cons (pv 0) pa_nil)) pe_int (nomark _)) (pw_or1 (pt_not (pt_val (pe_c c__law_whole hr (by omega) rfl (pa_cons (pe_ix ix_tup (pv 0) pe_int (fun _ _ => rfl)) pa_nil)))))))) (pss_one (ps_ret pe_bl)) pss_nil)
    (pss_one (ps_ret (pe_and (pe_c c__law_is_count hr (by omega) rfl (pa_cons (pe_ix ix_tup (pv 0) pe_int (fun _ _ => rfl)) pa_nil)) (pe_and (pe_c c__law_is_count hr (by omega) rfl (pa_cons (pe_ix ix_tup (pv 0) pe_int (fun _ _ => rfl)) pa_nil)) (pe_one (pe_cmpR (op_eqD hr.units) (pe_c c__law_plain_count hr (by omega) rfl (pa_cons (pv 0) pa_nil)) (pv 0) (nomark _))))))))), ?_⟩
    refine ⟨_, rfl, _, rfl, d, hd, _, rfl, ?_⟩
    cases e : isWh d with
    | true =>
      refine iteT ?_
      cases d with
      | int i =>
        have := q H (Same.refl H)
        rw [isCount_int, show decide (0 ≤ i) = true from e] at this
        exact this
      | _ => cases e
    | false =>
      refine iteF ⟨_, rfl, _, _, _, _, rfl, hd, kb_tp _, _, rfl, ?_⟩
      cases et : isTp d with
      | false =>
        refine iteT (iteT ?_)
        have := q H (Same.refl H)
        rw [isCount_wh e et] at this
        exact this
      | true =>
        refine iteF ?_
        cases d with
        | tuple ds =>
          obtain ⟨a, xs, rfl, hs, ha⟩ := dp_tup hd
          have hl := dpall_len ha
          refine ⟨_, rfl, _, _, rfl, .inr hs, rfl, _, rfl, iteE dec_ne3 (fun c => ?_) fun c => ?_⟩
          · refine iteT ?_
            have := q H (Same.refl H)
            rw [isCount_len (by omega)] at this
            exact this
          · obtain ⟨d0, d1, d2, rfl⟩ := len_three (l := ds) (by omega)
            obtain ⟨a', x0, x1, x2, ea, hs', h0, h1, h2⟩ := dp_tup3 hd
            cases ea
            have hdep : max d1.depth d2.depth + 1 < n + 1 := by
              have := hn
              simp only [PyData.depth, PyData.depthAll] at this
              omega
            refine ⟨_, rfl, _, _, _, _, rfl, rfl, hs', rfl, _, rfl, d0, h0, _, rfl, ?_⟩
            cases e0 : isWh d0 with
            | false =>
              refine iteT ?_
              have := q H (Same.refl H)
              rw [isCount_F0 (fun m hm z => by rw [z] at e0; exact absurd hm (of_decide_eq_false e0))] at this
              exact this
            | true =>
              refine iteF ?_
              cases d0 with
              | int m =>
                have hm : 0 ≤ m := of_decide_eq_true e0
                refine ⟨_, rfl, _, _, _, _, rfl, rfl, hs', rfl, _, rfl, d1, h1, by omega, by omega, fun H1 s1 => ⟨_, rfl, ?_⟩⟩
                cases e1 : isCount d1 with
                | false =>
                  refine iteF ?_
                  have := q H1 s1
                  rw [isCount_F1 e1] at this
                  exact this
                | true =>
                  refine iteT ⟨_, rfl, _, _, _, _, rfl, rfl, Same.sqt s1 hs', rfl, _, rfl, d2, Dp.same s1 _ _ h2, by omega, by omega, fun H2 s2 => ⟨_, rfl, ?_⟩⟩
                  cases e2 : isCount d2 with
                  | false =>
                    refine iteF ?_
                    have := q H2 (s1.trans s2)
                    rw [isCount_F2 e2] at this
                    exact this
                  | true =>
                    obtain ⟨t1, rfl, p1⟩ := isCount_true e1
                    obtain ⟨t2, rfl, p2⟩ := isCount_true e2
                    rw [CT.depth_d, CT.depth_d] at hdep
                    have hd2 : Dp K H2 (.ref a) (CT.nd m t1 t2).d := Dp.same (s1.trans s2) _ _ hd
                    refine iteT ⟨_, rfl, _, rfl, .nd m t1 t2, hd2, by rw [CT.dep_nd]; omega, by omega, fun v3 H3 s3 d3 => ?_⟩
                    refine ⟨_, rfl, _, _, d3, Dp.same s3 _ _ hd2, CT.sh (by have := CT.plain_dep (.nd m t1 t2); rw [CT.dep_nd] at this; omega), CT.sh (by rw [CT.dep_nd]; omega), ?_⟩
                    have := q H3 (s1.trans (s2.trans s3))
                    rw [show PyData.tuple [.int m, t1.d, t2.d] = (CT.nd m t1 t2).d from rfl, isCount_nd hm p1 p2] at this
                    rw [CT.eqv_d, CT.mk_nd, CT.pl_plain p1, CT.pl_plain p2]
                    exact this
              | _ => cases e0
        | _ => cases et
end

section
variable {P : Program} {w : World} {K : PySem.W.Frag} {mg : Str → Option Value} {base : Heap}
def R_paths (K : PySem.W.Frag) (n : Nat) : V → Hp → VK → Prop := fun x H Q => ∃ t : UT, Dp K H x t.d ∧ t.dep < n ∧ t.paths.length ≤ 1000000 ∧ n ≤ 100 ∧ ∀ a H', Same H H' → H' a = some (.lst (pvs t.paths)) → Q (.ref a) H'
theorem ok__law_paths (T : Txt K mg) (D : Defs K mg) : ∀ n, Cal CX0 P w K mg base (n + 1) "_law_paths" (sp1 (R_paths K n))
  | 0 => cal_no D.d__law_paths (by rintro vs H Q E ⟨x, rfl, t, _, h, _⟩; omega)
  | n + 1 => by
    have c__law_paths := ok__law_paths T D n
    refine cal1 D.d__law_paths sc__law_paths fun f cdv A outer s H x Q E hr h => ?_
    obtain ⟨t, ht, hn, hz, h100, q⟩ := h
    refine ⟨_, (pss_cons (ps_if (pt_not (pt_val (pe_callB call_isD (by rfl) T.b_isinstance (by decide +kernel) (pa_cons (pv 0) (pa_cons (pe_bltn (v := .ty "tuple") (by rfl) T.b_tuple (by decide +kernel) rfl) pa_nil))))) (pss_one (ps_ret (pe_lst (pa_cons pe_str pa_nil)))) pss_nil)
    (pss_cons (ps_asg (pe_slice sl_tupA (pv 0) (po_some (pe_un un_neg pe_int)) po_none) (pg_tup rfl (pgs_cons (pg_name (i := 1) sc__law_paths.nd rfl (Or.inl rfl)) (pgs_cons (pg_name (i := 2) sc__law_paths.nd rfl (Or.inl rfl)) pgs_nil))))
    (pss_one (ps_ret (pe_op op_cat (pe_lc (own := [("_law_path", 3)]) rfl sc__law_paths.nd (pi_list (pe_c c__law_paths hr (by omega) rfl (pa_cons (pv 1) pa_nil))) (blkOk_by (N := ["_law_tree", "_law_one", "_law_other", "_law_path"]) (sc := defScope st__law_paths) (by decide +kernel)) (fun _ _ _ _ _ => (pg_name (i := 3) sc__law_paths.nd rfl (Or.inl rfl))) (fun _ _ _ _ _ => pts_nil) (fun _ _ _ _ _ => (pe_op op_add_str pe_str (pv 3)))) (pe_lc (own := [("_law_path", 3)]) rfl sc__law_paths.nd (pi_list (pe_c c__law_paths hr (by omega) rfl (pa_cons (pv 2) pa_nil))) (blkOk_by (N := ["_law_tree", "_law_one", "_law_other", "_law_path"]) (sc := defScope st__law_paths) (by decide +kernel)) (fun _ _ _ _ _ => (pg_name (i := 3) sc__law_paths.nd rfl (Or.inl rfl))) (fun _ _ _ _ _ => pts_nil) (fun _ _ _ _ _ => (pe_op op_add_str pe_str (pv 3))))))))), ?_⟩
    cases t with
    | lf i =>
      obtain rfl := dp_int ht
      refine ⟨_, rfl, _, _, _, _, rfl, ht, kb_tp _, _, rfl, iteT ⟨one_le, fun l hl => q l _ (same_new hl _) ?_⟩⟩
      rw [upd_same, pstr_nil]
      rfl
    | nd g l r =>
      obtain ⟨a, xs, x1, x2, rfl, hs, hx, h3, hc, h1, h2⟩ := UT.nd_inv ht
      have hzl : l.paths.length + r.paths.length ≤ 1000000 := by
        have := hz
        rw [UT.paths, List.length_append, List.length_map, List.length_map] at this
        exact this
      have hdn : max l.dep r.dep + 1 < n + 1 := hn
      refine ⟨_, rfl, _, _, _, _, rfl, ht, (UT.kb_nd g l r), _, rfl, iteF ?_⟩
      refine ⟨_, rfl, _, rfl, _, rfl, ?_⟩
      dsimp only [tNoPart]
      show rSlA K (.ref a) (some (-2)) none H _
      refine sla_go hs (Nat.le_trans hx three_le) fun p H1 s1 e1 => ⟨p, _, rfl, e1, by rw [hc]; rfl, ?_⟩
      rw [hc]
      refine ⟨_, _, rfl, _, _, rfl, rfl, ?_⟩
      refine ⟨_, rfl, _, rfl, l, Dp.same s1 _ _ h1, by omega, by omega, by omega, fun a1 H2 s2 e2 => ⟨a1, rfl, ⟨_, SqL.of e2⟩, fun D1 hD1 => ?_⟩⟩
      refine lc_list (K := K) (a := a1) (xs := pvs l.paths) (fun i H' => Same H2 H' ∧ H' D1 = some (.lst (pvs ((l.paths.take i).map (false :: ·))))) ⟨same_new hD1 _, upd_same⟩ (fun i H' _ h => h.1.seq (SqL.of e2)) ?_ ?_
      · rintro i x H' hi ⟨s', e'⟩
        obtain ⟨pp, hp, rfl⟩ := pvs_get hi
        have hpl := pvs_len hp
        refine ⟨rfl, _, rfl, _, _, rfl, rfl, ?_, _, e', ?_, same_put s' hD1 _, ?_⟩
        · rw [ell_p, pstr_len, pstr_len]
          have := UT.paths_len (List.mem_of_getElem? hp)
          show 1 + _ ≤ sizeLine
          exact Nat.le_of_lt (small1000 (by omega))
        · rw [pvs_length, List.length_map, List.length_take]
          exact Nat.lt_of_lt_of_le (show _ < 1000001 by omega) (by decide)
        · rw [upd_same, ell_p, pstr_app, take_more hp, List.map_append, pvs_app]
          rfl
      rintro H3 ⟨s3, e3⟩
      rw [pvs_length, List.take_length] at e3
      refine ⟨_, rfl, _, rfl, r, Dp.same (s1.trans (s2.trans s3)) _ _ h2, by omega, by omega, by omega, fun a4 H4 s4 e4 => ⟨a4, rfl, ⟨_, SqL.of e4⟩, fun D2 hD2 => ?_⟩⟩
      refine lc_list (K := K) (a := a4) (xs := pvs r.paths) (fun i H' => Same H4 H' ∧ H' D2 = some (.lst (pvs ((r.paths.take i).map (true :: ·))))) ⟨same_new hD2 _, upd_same⟩ (fun i H' _ h => h.1.seq (SqL.of e4)) ?_ ?_
      · rintro i x H' hi ⟨s', e'⟩
        obtain ⟨pp, hp, rfl⟩ := pvs_get hi
        have hpl := pvs_len hp
        refine ⟨rfl, _, rfl, _, _, rfl, rfl, ?_, _, e', ?_, same_put s' hD2 _, ?_⟩
        · rw [arr_p, pstr_len, pstr_len]
          have := UT.paths_len (List.mem_of_getElem? hp)
          show 1 + _ ≤ sizeLine
          exact Nat.le_of_lt (small1000 (by omega))
        · rw [pvs_length, List.length_map, List.length_take]
          exact Nat.lt_of_lt_of_le (show _ < 1000001 by omega) (by decide)
        · rw [upd_same, arr_p, pstr_app, take_more hp, List.map_append, pvs_app]
          rfl
      rintro H5 ⟨s5, e5⟩
      rw [pvs_length, List.take_length] at e5
      have e3' : H5 D1 = some (.lst (pvs (l.paths.map (false :: ·)))) := s5 _ _ (s4 _ _ e3)
      refine ⟨_, _, _, _, rfl, rfl, e3', e5, ?_, fun p6 hp6 => ?_⟩
      · rw [pvs_length, pvs_length, List.length_map, List.length_map]
        exact Nat.le_trans hzl (by decide)
      · refine q p6 _ (s1.trans (s2.trans (s3.trans (s4.trans (s5.trans (same_new hp6 _)))))) ?_
        rw [upd_same, UT.paths, pvs_app]
def R_at (K : PySem.W.Frag) : V → V → Hp → VK → Prop := fun x y H Q => ∃ (t : UT) (p : List Bool), Dp K H x t.d ∧ y = .str (pstr p) ∧ t.dep < p.length + 40 ∧ p.length ≤ 900 ∧ Q (.int (t.at p)) H
theorem ok__law_at (T : Txt K mg) (D : Defs K mg) : Cal CX0 P w K mg base 1 "_law_at" (sp2 (R_at K)) := by
  refine cal2 D.d__law_at sc__law_at fun f cdv A outer s H x y Q E hr h => ?_
  obtain ⟨t, p, ht, rfl, hdp, hpl, q⟩ := h
  refine ⟨_, (pss_cons (ps_set (i := 2) sc__law_at.nd rfl (Or.inl rfl) pe_int)
    (pss_cons (ps_set (i := 3) sc__law_at.nd rfl (Or.inl rfl) (pv 0))
    (pss_cons (ps_for PassesOwn.never rfl (pi_str (pe_op op_add_str (pv 1) (pe_op op_mulL pe_str pe_int))) (pg_name (i := 4) sc__law_at.nd rfl (Or.inl rfl)) (pss_cons (ps_if (pt_not (pt_val (pe_callB call_isD (by rfl) T.b_isinstance (by decide +kernel) (pa_cons (pv 3) (pa_cons (pe_bltn (v := .ty "tuple") (by rfl) T.b_tuple (by decide +kernel) rfl) pa_nil))))) (pss_one (ps_ret (pe_op op_add (pv 2) (pv 3)))) pss_nil)
    (pss_cons (ps_if (pt_cmpR op_eq (pe_callB call_len_seq (by rfl) T.b_len PySem.boot_len (pa_cons (pv 3) pa_nil)) pe_int (nomark _)) (pss_one (ps_set (i := 2) sc__law_at.nd rfl (Or.inl rfl) (pe_op op_add (pv 2) (pe_ix ix_tup (pv 3) pe_int (fun _ _ => rfl))))) pss_nil)
    (pss_one (ps_set (i := 3) sc__law_at.nd rfl (Or.inl rfl) (pe_ix ix_tup (pv 3) (pe_op op_sub (pe_op op_sub (pe_callB call_len_seq (by rfl) T.b_len PySem.boot_len (pa_cons (pv 3) pa_nil)) pe_int) (pe_callTy (call_int1) (by rfl) T.b_int (by decide +kernel) (pa_cons (pe_cmpR op_eq (pv 4) pe_str (nomark _)) pa_nil))) (fun _ _ => rfl)))))))
    (pss_one (ps_ret pe_non))))), ?_⟩
  refine ⟨_, rfl, _, rfl, rfl, rfl, _, _, rfl, rfl, ?_, _, rfl, ?_⟩
  · rw [forty_p, pstr_len, pstr_len, List.length_replicate]
    exact Nat.le_of_lt (small1000 (by omega))
  rw [forty_p, pstr_app]
  have hsz : (pstr (p ++ List.replicate 40 false)).cps.size = p.length + 40 := by
    have := pstr_len (p ++ List.replicate 40 false)
    rw [List.length_append, List.length_replicate] at this
    exact this
  refine for_its (fun i σ H' => H' = H ∧ ∃ (u : UT) (f : Int) (hv : V) (sg : Option V), σ = [some x, some (.str (pstr p)), some (.int f), some hv, sg] ∧ Dp K H hv u.d ∧ f + u.at ((p ++ List.replicate 40 false).drop i) = t.at p ∧ u.dep + i ≤ t.dep)
    ⟨rfl, t, 0, x, none, rfl, ht, by rw [List.drop_zero, UT.at_pad]; omega, Nat.le_refl _⟩ ?_ ?_
  · rintro i c σ H' hc ⟨rfl, u, f, hv, sg, rfl, hu, hf, hd⟩
    have hc' := pstr_get hc
    cases u with
    | lf n =>
      obtain rfl := dp_int hu
      refine ⟨_, rfl, _, _, _, _, rfl, hu, kb_tp _, _, rfl, iteT ⟨_, rfl, _, rfl, _, _, rfl, rfl, ?_⟩⟩
      have e : f + n = t.at p := hf
      show Q (.int (f + n)) H'
      rw [e]
      exact q
    | nd g l r =>
      refine ⟨_, rfl, _, _, _, _, rfl, hu, (UT.kb_nd g l r), _, rfl, iteF ?_⟩
      rw [UT.at_nd, List.tail_drop] at hf
      have hdn : max l.dep r.dep + 1 + i ≤ t.dep := hd
      have hb : decide (V.str ⟨#[c]⟩ = V.str "l") = !((p ++ List.replicate 40 false).drop i).headD false := by
        rw [ell_eq, hc']
        cases ((p ++ List.replicate 40 false).drop i).headD false <;> decide
      cases g with
      | none =>
        obtain ⟨a, x1, x2, rfl, hs, h1, h2⟩ := dp_tup2 hu
        refine ⟨_, rfl, _, _, rfl, .inr hs, rfl, _, rfl, iteE rfl (fun z => absurd z (by intro z; injection z with z; simp at z)) fun _ => ?_⟩
        refine ⟨_, rfl, _, rfl, _, _, rfl, .inr hs, _, _, rfl, rfl, _, rfl, rfl, .inr ⟨_, rfl, _, _, rfl, rfl, a, [x1, x2], _, if ((p ++ List.replicate 40 false).drop i).headD false = true then x2 else x1, rfl, rfl, hs, ?_, rfl, ?_⟩⟩
        · rw [hb]
          cases ((p ++ List.replicate 40 false).drop i).headD false <;> rfl
        · cases eb : ((p ++ List.replicate 40 false).drop i).headD false with
          | true =>
            rw [eb, if_pos rfl] at hf
            have z : (none : Option Int).getD 0 = 0 := rfl
            exact ⟨r, f, x2, _, rfl, h2, by omega, by omega⟩
          | false =>
            rw [eb, if_neg Bool.false_ne_true] at hf
            have z : (none : Option Int).getD 0 = 0 := rfl
            exact ⟨l, f, x1, _, rfl, h1, by omega, by omega⟩
      | some m =>
        obtain ⟨a, x0, x1, x2, rfl, hs, h0, h1, h2⟩ := dp_tup3 hu
        obtain rfl := dp_int h0
        refine ⟨_, rfl, _, _, rfl, .inr hs, rfl, _, rfl, iteE rfl (fun _ => ?_) fun z => absurd rfl z⟩
        refine ⟨_, rfl, _, rfl, _, _, _, _, rfl, rfl, hs, rfl, _, _, rfl, rfl, ?_⟩
        refine ⟨_, rfl, _, rfl, _, _, rfl, .inr hs, _, _, rfl, rfl, _, rfl, rfl, .inr ⟨_, rfl, _, _, rfl, rfl, a, [.int m, x1, x2], _, if ((p ++ List.replicate 40 false).drop i).headD false = true then x2 else x1, rfl, rfl, hs, ?_, rfl, ?_⟩⟩
        · rw [hb]
          cases ((p ++ List.replicate 40 false).drop i).headD false <;> rfl
        · cases eb : ((p ++ List.replicate 40 false).drop i).headD false with
          | true =>
            rw [eb, if_pos rfl] at hf
            have z : (some m).getD 0 = m := rfl
            exact ⟨r, f + m, x2, _, rfl, h2, by omega, by omega⟩
          | false =>
            rw [eb, if_neg Bool.false_ne_true] at hf
            have z : (some m).getD 0 = m := rfl
            exact ⟨l, f + m, x1, _, rfl, h1, by omega, by omega⟩
  · rintro σ H' ⟨rfl, u, f, hv, sg, rfl, hu, hf, hd⟩
    rw [hsz] at hd
    omega
end

section
variable {P : Program} {w : World} {K : PySem.W.Frag} {mg : Str → Option Value} {base : Heap}
def R_opened (K : PySem.W.Frag) : V → Hp → VK → Prop := fun x H Q => ∃ t : CT, Dp K H x t.d ∧ ∀ v H', Same H H' → Dp K H' v (.tuple [t.ol.d, t.or.d]) → Q v H'
theorem ok_opened (T : Txt K mg) (D : Defs K mg) : Cal CX0 P w K mg base 2 "opened" (sp1 (R_opened K)) := by
  have c_lifted := ok_lifted (P := P) (w := w) (base := base) T D
  refine cal1 D.d_opened sc_opened fun f cdv A outer s H x Q E hr h => ?_
  obtain ⟨t, ht, q⟩ := h
  refine ⟨_, (pss_cons (ps_if (pt_val (pe_callB call_isD (by rfl) T.b_isinstance (by decide +kernel) (pa_cons (pv 0) (pa_cons (pe_bltn (v := .ty "tuple") (by rfl) T.b_tuple (by decide +kernel) rfl) pa_nil)))) (pss_one (ps_ret (pe_tup (pa_cons (pe_c c_lifted hr (by omega) rfl (pa_cons (pe_ix ix_tup (pv 0) pe_int (fun _ _ => rfl)) (pa_cons (pe_ix ix_tup (pv 0) pe_int (fun _ _ => rfl)) pa_nil))) (pa_cons (pe_c c_lifted hr (by omega) rfl (pa_cons (pe_ix ix_tup (pv 0) pe_int (fun _ _ => rfl)) (pa_cons (pe_ix ix_tup (pv 0) pe_int (fun _ _ => rfl)) pa_nil))) pa_nil))))) pss_nil)
    (pss_one (ps_ret (pe_tup (pa_cons (pv 0) (pa_cons (pv 0) pa_nil)))))), ?_⟩
  cases t with
  | lf n =>
    obtain rfl := dp_int ht
    exact ⟨_, rfl, _, _, _, _, rfl, ht, kb_tp _, _, rfl, iteF ⟨_, rfl, _, rfl, two_le, fun p hp => q _ _ (same_new hp _) (dp_new2 hp (.int n) (.int n))⟩⟩
  | nd n l r =>
    obtain ⟨a, x0, y0, rfl, hs, hx, hy⟩ := CT.nd_inv ht
    refine ⟨_, rfl, _, _, _, _, rfl, ht, kb_tp _, _, rfl, iteT ?_⟩
    refine ⟨_, rfl, _, _, _, _, rfl, rfl, hs, rfl, _, rfl, _, _, _, _, rfl, rfl, hs, rfl, _, _, rfl, l, n, hx, rfl, fun v1 H1 s1 e1 => ?_⟩
    refine ⟨_, rfl, _, _, _, _, rfl, rfl, Same.sqt s1 hs, rfl, _, rfl, _, _, _, _, rfl, rfl, Same.sqt s1 hs, rfl, _, _, rfl, r, n, Dp.same s1 _ _ hy, rfl, fun v2 H2 s2 e2 => ?_⟩
    exact ⟨two_le, fun p hp => q _ _ (s1.trans (s2.trans (same_new hp _))) (dp_new2 hp (Dp.same s2 _ _ e1) e2)⟩
end

section
variable {P : Program} {w : World} {K : PySem.W.Frag} {mg : Str → Option Value} {base : Heap}
def PT.sl : PT → PT
  | .lf i => .lf i
  | .nd l _ => l
def PT.sr : PT → PT
  | .lf i => .lf i
  | .nd _ r => r
def R_sides (K : PySem.W.Frag) : V → Hp → VK → Prop := fun x H Q => ∃ t : PT, Dp K H x t.d ∧ ∀ v H', Same H H' → Dp K H' v (.tuple [t.sl.d, t.sr.d]) → Q v H'
theorem ok_sides (T : Txt K mg) (D : Defs K mg) : Cal CX0 P w K mg base 1 "sides" (sp1 (R_sides K)) := by
  refine cal1 D.d_sides sc_sides fun f cdv A outer s H x Q E hr h => ?_
  obtain ⟨t, ht, q⟩ := h
  refine ⟨_, (pss_cons (ps_if (pt_val (pe_callB call_isD (by rfl) T.b_isinstance (by decide +kernel) (pa_cons (pv 0) (pa_cons (pe_bltn (v := .ty "tuple") (by rfl) T.b_tuple (by decide +kernel) rfl) pa_nil)))) (pss_one (ps_ret (pv 0))) pss_nil)
    (pss_one (ps_ret (pe_tup (pa_cons (pv 0) (pa_cons (pv 0) pa_nil)))))), ?_⟩
  cases t with
  | lf n =>
    obtain rfl := dp_int ht
    exact ⟨_, rfl, _, _, _, _, rfl, ht, kb_tp _, _, rfl, iteF ⟨_, rfl, _, rfl, two_le, fun p hp => q _ _ (same_new hp _) (dp_new2 hp (.int n) (.int n))⟩⟩
  | nd l r =>
    have := q x H (Same.refl H) ht
    obtain ⟨a, x0, y0, rfl, hs, hx, hy⟩ := PT.nd_inv ht
    exact ⟨_, rfl, _, _, _, _, rfl, ht, kb_tp _, _, rfl, iteT ⟨_, rfl, this⟩⟩
def R_more (K : PySem.W.Frag) (n : Nat) : V → V → Hp → VK → Prop := fun x y H Q => ∃ (t : CT) (u : PT), Dp K H x t.d ∧ Dp K H y u.d ∧ u.ok ∧ u.dep < n ∧ u.dep ≤ 62 ∧ ∀ v H', Same H H' → Dp K H' v (CT.mo t u).d → Q v H'
theorem ok_more (T : Txt K mg) (D : Defs K mg) : ∀ n, Cal CX0 P w K mg base (n + 2) "more" (sp2 (R_more K n))
  | 0 => cal_no D.d_more (by rintro vs H Q E ⟨x, y, rfl, t, u, _, _, _, h, _⟩; omega)
  | n + 1 => by
    have c_more := ok_more T D n
    have c_opened := ok_opened (P := P) (w := w) (base := base) T D
    have c_sides := ok_sides (P := P) (w := w) (base := base) T D
    have c_lifted := ok_lifted (P := P) (w := w) (base := base) T D
    refine cal2 D.d_more sc_more fun f cdv A outer s H x y Q E hr h => ?_
    obtain ⟨t, u, ht, hu, ou, hn, du, q⟩ := h
    refine ⟨_, (pss_cons (ps_if (pt_cmpR (op_eqD hr.units) (pv 1) pe_int (nomark _)) (pss_one (ps_ret (pv 0))) pss_nil)
    (pss_cons (ps_if (pt_cmpR (op_eqD hr.units) (pv 1) pe_int (nomark _)) (pss_one (ps_ret (pe_c c_lifted hr (by omega) rfl (pa_cons (pv 0) (pa_cons pe_int pa_nil))))) pss_nil)
    (pss_cons (ps_set (i := 2) sc_more.nd rfl (Or.inl rfl) (pe_c c_opened hr (by omega) rfl (pa_cons (pv 0) pa_nil)))
    (pss_cons (ps_set (i := 3) sc_more.nd rfl (Or.inl rfl) (pe_c c_sides hr (by omega) rfl (pa_cons (pv 1) pa_nil)))
    (pss_one (ps_ret (pe_tup (pa_cons pe_int (pa_cons (pe_c c_more hr (by omega) rfl (pa_cons (pe_ix ix_tup (pv 2) pe_int (fun _ _ => rfl)) (pa_cons (pe_ix ix_tup (pv 3) pe_int (fun _ _ => rfl)) pa_nil))) (pa_cons (pe_c c_more hr (by omega) rfl (pa_cons (pe_ix ix_tup (pv 2) pe_int (fun _ _ => rfl)) (pa_cons (pe_ix ix_tup (pv 3) pe_int (fun _ _ => rfl)) pa_nil))) pa_nil)))))))))), ?_⟩
    refine ⟨_, rfl, _, _, hu, PT.lf_dp 0, PT.sh (by omega), by decide +kernel, _, rfl, iteE (PT.eqv_d _ (PT.lf 0)) (fun c1 => ?_) fun c1 => ?_⟩
    · refine ⟨_, rfl, q x H (Same.refl H) ?_⟩
      rw [c1, CT.mo, if_pos rfl]
      exact ht
    refine ⟨_, rfl, _, _, hu, PT.lf_dp 1, PT.sh (by omega), by decide +kernel, _, rfl, iteE (PT.eqv_d _ (PT.lf 1)) (fun c2 => ?_) fun c2 => ?_⟩
    · refine ⟨_, rfl, _, _, rfl, t, 1, ht, rfl, fun v H' s' e' => q v H' s' ?_⟩
      rw [c2, CT.mo, if_neg (by decide)]
      exact e'
    cases u with
    | lf j => rcases ou with rfl | rfl <;> contradiction
    | nd l r =>
      rw [PT.dep_nd] at hn du
      refine ⟨_, rfl, _, rfl, t, ht, fun v1 H1 s1 e1 => ⟨_, rfl, _, rfl, .nd l r, Dp.same s1 _ _ hu, fun v2 H2 s2 e2 => ?_⟩⟩
      obtain ⟨a, x1, x2, rfl, hs, h1, h2⟩ := dp_tup2 (Dp.same s2 _ _ e1)
      obtain ⟨b, y1, y2, rfl, hs', g1, g2⟩ := dp_tup2 e2
      refine ⟨_, rfl, _, _, _, _, rfl, rfl, hs, rfl, _, rfl, _, _, _, _, rfl, rfl, hs', rfl, _, _, rfl, t.ol, l, h1, g1, ou.1, by omega, by omega, fun v3 H3 s3 e3 => ?_⟩
      refine ⟨_, rfl, _, _, _, _, rfl, rfl, Same.sqt s3 hs, rfl, _, rfl, _, _, _, _, rfl, rfl, Same.sqt s3 hs', rfl, _, _, rfl, t.or, r, Dp.same s3 _ _ h2, Dp.same s3 _ _ g2, ou.2, by omega, by omega, fun v4 H4 s4 e4 => ?_⟩
      exact ⟨three_le, fun p hp => q _ _ (s1.trans (s2.trans (s3.trans (s4.trans (same_new hp _))))) (CT.nd_new (n := 0) (l := CT.mo t.ol l) (r := CT.mo t.or r) hp (Dp.same s4 _ _ e3) e4)⟩
end

structure Errs (K : PySem.W.Frag) (mg : Str → Option Value) (C_ClockError C_NoClock C_NoText C_NotApart : Addr) : Prop where
  o_ClockError : Own K mg "ClockError" C_ClockError
  o_NoClock : Own K mg "NoClock" C_NoClock
  o_NoText : Own K mg "NoText" C_NoText
  o_NotApart : Own K mg "NotApart" C_NotApart
  r_NotApart : Rsd K C_NotApart
  x_NotApart : ExcC K C_NotApart
  s_ClockError : PySem.W.subIn K (.ref C_NotApart) (.ref C_ClockError) = some true
  s_NoClock : PySem.W.subIn K (.ref C_NotApart) (.ref C_NoClock) = some false
  s_NoText : PySem.W.subIn K (.ref C_NotApart) (.ref C_NoText) = some false
  s_V : PySem.W.subIn K (.ref C_NotApart) (.type "ValueError") = some true
def spLaw (K : PySem.W.Frag) : Sp := fun vs H Q _ => ∃ (a : Addr) (ns : List Int), vs = [.ref a] ∧ SqL K H a (ns.map V.int) ∧ ns.length ≤ 63 ∧ ∀ H', Q (.bl true) H'
theorem PT.lv_le {t : PT} (h : t.dep ≤ 5) : t.lv ≤ 32 := by
  have h1 := PT.lv_dep t
  have h2 : 2 ^ t.dep ≤ 2 ^ 5 := Nat.pow_le_pow_right (by decide) h
  exact Nat.le_trans h1 (Nat.le_trans h2 (by decide))
theorem CT.lv_dep : ∀ t : CT, t.lv ≤ 2 ^ t.dep
  | .lf _ => Nat.le_refl _
  | .nd _ l r => by
    have h1 := CT.lv_dep l
    have h2 := CT.lv_dep r
    have h3 : 2 ^ l.dep ≤ 2 ^ max l.dep r.dep := Nat.pow_le_pow_right (by decide) (by omega)
    have h4 : 2 ^ r.dep ≤ 2 ^ max l.dep r.dep := Nat.pow_le_pow_right (by decide) (by omega)
    show l.lv + r.lv ≤ 2 ^ (max l.dep r.dep + 1)
    rw [Nat.pow_succ]
    omega
theorem CT.lv_le {t : CT} (h : t.dep ≤ 5) : t.lv ≤ 32 := by
  have h1 := CT.lv_dep t
  have h2 : 2 ^ t.dep ≤ 2 ^ 5 := Nat.pow_le_pow_right (by decide) h
  exact Nat.le_trans h1 (Nat.le_trans h2 (by decide))
section
variable {P : Program} {w : World} {K : PySem.W.Frag} {mg : Str → Option Value} {base : Heap} {C_ClockError C_NoClock C_NoText C_NotApart : Addr}
/-- raised, plain -/
def CT.rs (t : CT) (u : PT) : CT := (CT.mo t u).plain
def spRaised (K : PySem.W.Frag) (C : Addr) : Sp := fun vs H Q E => ∃ x y, vs = [x, y] ∧ ∃ (t : CT) (u : PT), Dp K H x t.d ∧ Dp K H y u.d ∧ u.ok ∧ t.dep ≤ 40 ∧ u.dep ≤ 40 ∧
  (u ≠ .lf 0 → ∀ v H', Same H H' → Dp K H' v (CT.rs t u).d → Q v H') ∧ (u = .lf 0 → ∀ H', Same H H' → E (.ref C) none H')
theorem ok_raised (T : Txt K mg) (D : Defs K mg) (Er : Errs K mg C_ClockError C_NoClock C_NoText C_NotApart) : Cal (L2.CX P w) P w K mg base 60 "raised" (spRaised K C_NotApart) := by
  have c_more := ok_more (P := P) (w := w) (base := base) T D 45
  have c_plain_count := ok_plain_count (P := P) (w := w) (base := base) T D 45
  refine cal_okX D.d_raised sc_raised (fun vs H Q E h => by obtain ⟨x, y, rfl, _⟩ := h; rfl) fun f cdv A outer s H vs Q E hr h => ?_
  obtain ⟨x, y, rfl, t, u, ht, hu, ou, dt, du, q1, q2⟩ := h
  refine ⟨_, (pss_cons (ps_if (pt_cmpR (op_eqD hr.units) (pv 1) pe_int (nomark _)) (pss_one (ps_raise rfl (takes_of rfl rfl rfl rfl) (pmk_own PySem.F.excBase_ValueError Er.r_NotApart.xx Er.o_NotApart.g Er.o_NotApart.k (raises_own Er.r_NotApart.b Er.o_NotApart.t) rfl))) pss_nil)
    (pss_one (ps_ret (pe_c c_plain_count hr (by omega) rfl (pa_cons (pe_c c_more hr (by omega) rfl (pa_cons (pv 0) (pa_cons (pv 1) pa_nil))) pa_nil))))), ?_⟩
  refine ⟨_, rfl, _, _, hu, PT.lf_dp 0, PT.sh (by omega), by decide +kernel, _, rfl, iteE (PT.eqv_d _ (PT.lf 0)) (fun c1 => ?_) fun c1 => ?_⟩
  · exact q2 c1 H (Same.refl H)
  · have b := CT.mo_dep u t
    exact ⟨_, rfl, _, rfl, _, _, rfl, t, u, ht, hu, ou, by omega, by omega, fun v1 H1 s1 e1 => ⟨_, rfl, CT.mo t u, e1, by omega, by omega, fun v2 H2 s2 e2 => q1 c1 v2 H2 (s1.trans s2) e2⟩⟩
def spDone (K : PySem.W.Frag) (C : Addr) : Sp := fun vs H Q E => ∃ x, vs = [x] ∧ ∃ (t : CT) (u : PT), Dp K H x (.tuple [u.d, t.d]) ∧ u.ok ∧ t.dep ≤ 40 ∧ u.dep ≤ 40 ∧
  (u ≠ .lf 0 → ∀ v H', Same H H' → Dp K H' v (.tuple [u.d, (CT.rs t u).d]) → Q v H') ∧ (u = .lf 0 → ∀ H', Same H H' → E (.ref C) none H')
theorem ok_done (T : Txt K mg) (D : Defs K mg) (Er : Errs K mg C_ClockError C_NoClock C_NoText C_NotApart) : Cal (L2.CX P w) P w K mg base 61 "done" (spDone K C_NotApart) := by
  have c_raised := ok_raised (P := P) (w := w) (base := base) T D Er
  refine cal_okX D.d_done sc_done (fun vs H Q E h => by obtain ⟨x, rfl, _⟩ := h; rfl) fun f cdv A outer s H vs Q E hr h => ?_
  obtain ⟨x, rfl, t, u, hx, ou, dt, du, q1, q2⟩ := h
  refine ⟨_, (pss_one (ps_ret (pe_tup (pa_cons (pe_ix ix_tup (pv 0) pe_int (fun _ _ => rfl)) (pa_cons (pe_cS c_raised hr (by omega) rfl (takes_of rfl rfl rfl rfl) (pa_cons (pe_ix ix_tup (pv 0) pe_int (fun _ _ => rfl)) (pa_cons (pe_ix ix_tup (pv 0) pe_int (fun _ _ => rfl)) pa_nil))) pa_nil))))), ?_⟩
  obtain ⟨a, x1, x2, rfl, hs, h1, h2⟩ := dp_tup2 hx
  refine ⟨_, rfl, _, _, _, _, rfl, rfl, hs, rfl, _, rfl, _, _, _, _, rfl, rfl, hs, rfl, _, rfl, _, _, _, _, rfl, rfl, hs, rfl, _, _, rfl, t, u, h2, h1, ou, dt, du, fun c v H' s' e' => ⟨two_le, fun p hp => ?_⟩, q2⟩
  exact q1 c _ _ (s'.trans (same_new hp _)) (dp_new2 hp (Dp.same s' _ _ h1) e')
def R_told (K : PySem.W.Frag) : V → V → V → Hp → VK → Prop := fun x y z H Q => ∃ (t : CT) (u : PT), Dp K H y t.d ∧ Dp K H z u.d ∧ u.ok ∧ t.dep ≤ 40 ∧ u.dep ≤ 40 ∧
  ((x = .int 0 ∧ (u ≠ .lf 0 → ∀ v H', Same H H' → Dp K H' v (CT.rs t u).d → Q v H')) ∨ (x = .int 1 ∧ (u ≠ .lf 0 → ∀ v H', Same H H' → Dp K H' v (.tuple [u.d, (CT.rs t u).d]) → Q v H'))) ∧ (u = .lf 0 → ∀ H', Same H H' → Q .non H')
theorem ok__law_told (T : Txt K mg) (D : Defs K mg) (Er : Errs K mg C_ClockError C_NoClock C_NoText C_NotApart) : Cal CX0 P w K mg base 62 "_law_told" (sp3 (R_told K)) := by
  have c_raised := ok_raised (P := P) (w := w) (base := base) T D Er
  have c_done := ok_done (P := P) (w := w) (base := base) T D Er
  refine cal3 D.d__law_told sc__law_told fun f cdv A outer s H x y z Q E hr h => ?_
  obtain ⟨t, u, ht, hu, ou, dt, du, q1, q2⟩ := h
  refine ⟨_, (pss_one (ps_try_as (i := 3) (Wout := fun _ _ _ _ => False) rfl rfl sc__law_told.nd rfl rfl ⟨rfl, by decide, Or.inl Er.o_NotApart.g⟩ takes0 (fun W pn xe tk _ => (pss_cons (ps_if (pt_cmpR op_eq (pv 0) pe_int (nomark _)) (pss_one (ps_ret (pe_cS c_raised hr (by omega) rfl tk (pa_cons (pv 1) (pa_cons (pv 2) pa_nil))))) pss_nil)
    (pss_one (ps_ret (pe_cS c_done hr (by omega) rfl tk (pa_cons (pe_tup (pa_cons (pv 2) (pa_cons (pv 1) pa_nil))) pa_nil)))))) (fun a oe cls d pn hz hf => (pss_cons (ps_set (i := 4) sc__law_told.nd rfl (Or.inl rfl) (pe_and (pe_callB (call_isE2 hz hf) (by rfl) T.b_isinstance (by decide +kernel) (pa_cons (pv 3) (pa_cons (pe_glob (v := .ref C_ClockError) (by rfl) Er.o_ClockError.g rfl) pa_nil))) (pe_one (pe_callB (call_isE2 hz hf) (by rfl) T.b_isinstance (by decide +kernel) (pa_cons (pv 3) (pa_cons (pe_bltn (v := .ty "ValueError") (by rfl) T.b_ValueError (by decide +kernel) rfl) pa_nil))))))
    (pss_one (ps_ret (pe_ix (ix_listK (K := K) rfl) (pe_lst (pa_cons pe_str (pa_cons pe_non pa_nil))) (pe_callTy (call_int1) (by rfl) T.b_int (by decide +kernel) (pa_cons (pe_and (pv 4) (pe_and (pe_not (pe_callB (call_isE2 hz hf) (by rfl) T.b_isinstance (by decide +kernel) (pa_cons (pv 3) (pa_cons (pe_glob (v := .ref C_NoClock) (by rfl) Er.o_NoClock.g rfl) pa_nil)))) (pe_one (pe_not (pe_callB (call_isE2 hz hf) (by rfl) T.b_isinstance (by decide +kernel) (pa_cons (pv 3) (pa_cons (pe_glob (v := .ref C_NoText) (by rfl) Er.o_NoText.g rfl) pa_nil))))))) pa_nil)) (fun _ _ => rfl)))))))), ?_⟩
  rcases q1 with ⟨rfl, q1⟩ | ⟨rfl, q1⟩
  · refine ⟨_, rfl, rfl, _, rfl, iteT ⟨_, rfl, _, rfl, _, _, rfl, t, u, ht, hu, ou, dt, du, q1, fun c H1 s1 => ⟨true, exm_self Er.o_NotApart Er.r_NotApart, fun _ a ha => ?_, fun z => nomatch z⟩⟩⟩
    have z := q2 c
    refine ⟨_, rfl, C_NotApart, .ref C_ClockError, .ref C_ClockError, true, Er.x_NotApart, rfl, rfl, rfl, fun u h => h, kit_own Er.o_ClockError Er.r_NotApart Er.s_ClockError, _, rfl, iteT ?_⟩
    refine ⟨_, rfl, C_NotApart, .ty "ValueError", .type "ValueError", true, Er.x_NotApart, rfl, rfl, rfl, fun u h => h, kit_VE Er.s_V, ?_⟩
    refine ⟨two_le, fun l hl => ⟨_, rfl, _, rfl, iteT ?_⟩⟩
    refine ⟨_, rfl, C_NotApart, .ref C_NoClock, .ref C_NoClock, false, Er.x_NotApart, rfl, rfl, rfl, fun u h => h, kit_own Er.o_NoClock Er.r_NotApart Er.s_NoClock, _, rfl, _, rfl, iteT ?_⟩
    refine ⟨_, rfl, C_NotApart, .ref C_NoText, .ref C_NoText, false, Er.x_NotApart, rfl, rfl, rfl, fun u h => h, kit_own Er.o_NoText Er.r_NotApart Er.s_NoText, _, rfl, .inr ⟨_, rfl, _, _, _, _, rfl, rfl, SqL.of upd_same, rfl, z _ (s1.trans (same_new hl _))⟩⟩
  · refine ⟨_, rfl, rfl, _, rfl, iteF ⟨_, rfl, _, rfl, two_le, fun p hp => ⟨_, rfl, t, u, dp_new2 hp hu ht, ou, dt, du, fun c v H' s' e' => q1 c v H' ((same_new hp _).trans s') e', fun c H1 s1 => ⟨true, exm_self Er.o_NotApart Er.r_NotApart, fun _ a ha => ?_, fun z => nomatch z⟩⟩⟩⟩
    have z := q2 c
    refine ⟨_, rfl, C_NotApart, .ref C_ClockError, .ref C_ClockError, true, Er.x_NotApart, rfl, rfl, rfl, fun u h => h, kit_own Er.o_ClockError Er.r_NotApart Er.s_ClockError, _, rfl, iteT ?_⟩
    refine ⟨_, rfl, C_NotApart, .ty "ValueError", .type "ValueError", true, Er.x_NotApart, rfl, rfl, rfl, fun u h => h, kit_VE Er.s_V, ?_⟩
    refine ⟨two_le, fun l hl => ⟨_, rfl, _, rfl, iteT ?_⟩⟩
    refine ⟨_, rfl, C_NotApart, .ref C_NoClock, .ref C_NoClock, false, Er.x_NotApart, rfl, rfl, rfl, fun u h => h, kit_own Er.o_NoClock Er.r_NotApart Er.s_NoClock, _, rfl, _, rfl, iteT ?_⟩
    refine ⟨_, rfl, C_NotApart, .ref C_NoText, .ref C_NoText, false, Er.x_NotApart, rfl, rfl, rfl, fun u h => h, kit_own Er.o_NoText Er.r_NotApart Er.s_NoText, _, rfl, .inr ⟨_, rfl, _, _, _, _, rfl, rfl, SqL.of upd_same, rfl, z _ ((same_new hp _).trans (s1.trans (same_new hl _)))⟩⟩
def R_isr (K : PySem.W.Frag) : V → V → V → Hp → VK → Prop := fun x y z H Q => ∃ (t : CT) (u : PT), Dp K H x t.d ∧ Dp K H y u.d ∧ Dp K H z (CT.rs t u).d ∧ t.pl ∧ u.pl ∧ u ≠ .lf 0 ∧ t.dep ≤ 30 ∧ u.dep ≤ 30 ∧ t.lv ≤ 1000 ∧ u.lv ≤ 1000 ∧ ∀ H', Same H H' → Q (.bl true) H'
theorem ok__law_is_raised (T : Txt K mg) (D : Defs K mg) : Cal CX0 P w K mg base 100 "_law_is_raised" (sp3 (R_isr K)) := by
  have c__law_is_count := ok__law_is_count (P := P) (w := w) (base := base) T D 50
  have c__law_paths := ok__law_paths (P := P) (w := w) (base := base) T D 50
  have c__law_at := ok__law_at (P := P) (w := w) (base := base) T D
  refine cal3 D.d__law_is_raised sc__law_is_raised fun f cdv A outer s H x y z Q E hr h => ?_
  obtain ⟨t, u, ht, hu, hz, pt, pu, nu, dt, du, lt, lu, q⟩ := h
  refine ⟨_, (pss_cons (ps_if (pt_not (pt_val (pe_c c__law_is_count hr (by omega) rfl (pa_cons (pv 2) pa_nil)))) (pss_one (ps_ret pe_bl)) pss_nil)
    (pss_cons (ps_set (i := 3) sc__law_is_raised.nd rfl (Or.inl rfl) pe_bl)
    (pss_cons (ps_for PassesOwn.never rfl (pi_list (pe_op op_cat (pe_op op_cat (pe_c c__law_paths hr (by omega) rfl (pa_cons (pv 0) pa_nil)) (pe_c c__law_paths hr (by omega) rfl (pa_cons (pv 1) pa_nil))) (pe_c c__law_paths hr (by omega) rfl (pa_cons (pv 2) pa_nil)))) (pg_name (i := 4) sc__law_is_raised.nd rfl (Or.inl rfl)) (pss_cons (ps_set (i := 5) sc__law_is_raised.nd rfl (Or.inl rfl) (pe_op op_sub (pe_c c__law_at hr (by omega) rfl (pa_cons (pv 2) (pa_cons (pv 4) pa_nil))) (pe_c c__law_at hr (by omega) rfl (pa_cons (pv 0) (pa_cons (pv 4) pa_nil)))))
    (pss_cons (ps_if (PW.pt (pw_or (pt_cmpR op_lt (pv 5) pe_int (nomark _)) (pw_or1 (PW.pt (pw_and (pt_cmpR op_gt (pv 5) pe_int (nomark _)) (pw_and1 (pt_cmpR op_eq (pe_c c__law_at hr (by omega) rfl (pa_cons (pv 1) (pa_cons (pv 4) pa_nil))) pe_int (nomark _)))))))) (pss_one (ps_ret pe_bl)) pss_nil)
    (pss_one (ps_set (i := 3) sc__law_is_raised.nd rfl (Or.inl rfl) (pe_or (pv 3) (pe_one (pe_cmpR op_gt (pv 5) pe_int (nomark _)))))))))
    (pss_one (ps_ret (pv 3)))))), ?_⟩
  have hd := Nat.le_trans (CT.plain_dep _) (CT.mo_dep u t)
  have hd' : (CT.rs t u).dep ≤ 30 := by have : (CT.rs t u).dep ≤ max t.dep u.dep := hd; omega
  have hl := Nat.le_trans (Nat.succ_le_succ (CT.plain_lv _)) (CT.mo_lv u t)
  have hl' : (CT.rs t u).lv ≤ 2000 := by have : (CT.rs t u).lv + 1 ≤ t.lv + u.lv := hl; omega
  have hpl : (CT.rs t u).pl := CT.plain_pl (CT.mo_nn u (CT.pl_nn pt))
  have hat : ∀ p, (CT.rs t u).at p = t.at p + u.at p := fun p => by rw [CT.rs, CT.plain_at, CT.mo_at u t (PT.pl_ok pu)]
  refine ⟨_, rfl, _, rfl, (CT.rs t u).d, hz, by rw [CT.depth_d]; omega, by omega, fun H1 s1 => ⟨_, rfl, iteNT (by rw [isCount_d]; exact (CT.plB_iff _).mpr hpl) ?_⟩⟩
  refine ⟨_, rfl, _, rfl, t.u, CT.u_dp (Dp.same s1 _ _ ht), by rw [CT.u_dep]; omega, by rw [CT.u_lv]; omega, by omega, fun a1 H2 s2 f1 => ?_⟩
  refine ⟨_, rfl, _, rfl, u.u, PT.u_dp (Dp.same (s1.trans s2) _ _ hu), by rw [PT.u_dep]; omega, by rw [PT.u_lv]; omega, by omega, fun a2 H3 s3 f2 => ?_⟩
  refine ⟨a1, a2, _, _, rfl, rfl, s3 _ _ f1, f2, ?_, fun p3 hp3 => ?_⟩
  · rw [pvs_length, pvs_length, CT.u_lv, PT.u_lv]
    exact Nat.le_trans (show _ ≤ 1000000 by omega) (by decide)
  rw [← pvs_app]
  have s4 := s1.trans (s2.trans (s3.trans (same_new hp3 (.lst (pvs (t.u.paths ++ u.u.paths))))))
  refine ⟨_, rfl, _, rfl, (CT.rs t u).u, CT.u_dp (Dp.same s4 _ _ hz), by rw [CT.u_dep]; omega, by rw [CT.u_lv]; omega, by omega, fun a7 H7 s7 f7 => ?_⟩
  refine ⟨p3, a7, _, _, rfl, rfl, s7 _ _ upd_same, f7, ?_, fun p8 hp8 => ?_⟩
  · rw [pvs_length, pvs_length, List.length_append, CT.u_lv, PT.u_lv, CT.u_lv]
    exact Nat.le_trans (show _ ≤ 1000000 by omega) (by decide)
  rw [← pvs_app]
  have s8 := s7.trans (same_new hp8 (.lst (pvs (t.u.paths ++ u.u.paths ++ (CT.rs t u).u.paths))))
  have S8 := s4.trans s8
  have ht8 := CT.u_dp (Dp.same S8 _ _ ht)
  have hu8 := PT.u_dp (Dp.same S8 _ _ hu)
  have hz8 := CT.u_dp (Dp.same S8 _ _ hz)
  generalize hps : t.u.paths ++ u.u.paths ++ (CT.rs t u).u.paths = ps at s8 S8 ht8 hu8 hz8 ⊢
  have hpl' : ∀ p ∈ ps, p.length ≤ 30 := fun p hp => by
    rw [← hps] at hp
    rcases List.mem_append.mp hp with z | z
    · rcases List.mem_append.mp z with z | z
      · have := UT.paths_len z
        rw [CT.u_dep] at this
        omega
      · have := UT.paths_len z
        rw [PT.u_dep] at this
        omega
    · have := UT.paths_len z
      rw [CT.u_dep] at this
      omega
  have anyp : ps.any (fun p => decide (0 < u.at p)) = true := by
    have ex : ∃ p, 0 < u.at p := by
      refine Classical.byContradiction fun no => nu (PT.const pu fun p => ?_)
      have h1 := PT.at_01 (PT.pl_ok pu) p
      have h2 : ¬ 0 < u.at p := fun z => no ⟨p, z⟩
      omega
    obtain ⟨p, hp⟩ := ex
    obtain ⟨r, hr, he⟩ := UT.cover (ts := [u.u]) (List.cons_ne_nil _ _) p
    have e := he u.u (by simp)
    rw [PT.u_at, PT.u_at] at e
    rw [List.any_eq_true]
    refine ⟨r, ?_, decide_eq_true (by omega)⟩
    rw [← hps]
    have : r ∈ u.u.paths := by simpa using hr
    exact List.mem_append_left _ (List.mem_append_right _ this)
  refine ⟨p8, rfl, ⟨_, SqL.of upd_same⟩, for_list (K := K) (a := p8) (xs := pvs ps) (fun i σ H' => Same (upd H7 p8 (.lst (pvs ps))) H' ∧ ∃ o4 o5 : Option V, σ = [some x, some y, some z, some (.bl ((ps.take i).any fun p => decide (0 < u.at p))), o4, o5])
    ⟨Same.refl _, none, none, rfl⟩ (fun i σ H' _ h => h.1.seq (SqL.of upd_same)) ?_ ?_⟩
  · rintro i w σ H' hi ⟨s', o4, o5, rfl⟩
    obtain ⟨p, hp, rfl⟩ := pvs_get hi
    have hp30 := hpl' p (List.mem_of_getElem? hp)
    have h01 := PT.at_01 (PT.pl_ok pu) p
    refine ⟨_, rfl, _, rfl, _, _, rfl, (CT.rs t u).u, p, Dp.same s' _ _ hz8, rfl, by rw [CT.u_dep]; omega, by omega, ?_⟩
    refine ⟨_, rfl, _, rfl, _, _, rfl, t.u, p, Dp.same s' _ _ ht8, rfl, by rw [CT.u_dep]; omega, by omega, _, _, rfl, rfl, ?_⟩
    have eup : (CT.rs t u).u.at p - t.u.at p = u.at p := by rw [CT.u_at, CT.u_at, hat]; omega
    show gName 5 (V.int ((CT.rs t u).u.at p - t.u.at p)) _ _ _
    rw [eup]
    have em : (ps.take (i + 1)).any (fun p => decide (0 < u.at p)) = ((ps.take i).any (fun p => decide (0 < u.at p)) || decide (0 < u.at p)) := by
      rw [take_more hp, List.any_append]
      simp
    rcases h01 with e | e
    · rw [e]
      refine ⟨_, rfl, _, _, rfl, rfl, _, rfl, iteF ⟨_, rfl, _, _, rfl, rfl, _, rfl, iteF (iteF ?_)⟩⟩
      refine ⟨_, rfl, _, rfl, ?_⟩
      cases ea : (ps.take i).any (fun p => decide (0 < u.at p)) with
      | true => exact iteT ⟨s', _, _, by rw [em, ea]; rfl⟩
      | false => exact iteF ⟨_, rfl, _, _, rfl, rfl, s', _, _, by rw [em, ea, e]; rfl⟩
    · rw [e]
      refine ⟨_, rfl, _, _, rfl, rfl, _, rfl, iteF ⟨_, rfl, _, _, rfl, rfl, _, rfl, iteT ?_⟩⟩
      refine ⟨_, rfl, _, rfl, _, _, rfl, u.u, p, Dp.same s' _ _ hu8, rfl, by rw [PT.u_dep]; omega, by omega, rfl, _, rfl, iteFe (by rw [PT.u_at, e]; rfl) ?_⟩
      refine ⟨_, rfl, _, rfl, ?_⟩
      cases ea : (ps.take i).any (fun p => decide (0 < u.at p)) with
      | true => exact iteT ⟨s', _, _, by rw [em, ea]; rfl⟩
      | false => exact iteF ⟨_, rfl, _, _, rfl, rfl, s', _, _, by rw [em, ea, e]; rfl⟩
  · rintro σ H' ⟨s', o4, o5, rfl⟩
    rw [pvs_length, List.take_length, anyp]
    exact ⟨_, rfl, q H' (S8.trans s')⟩
theorem ok_law (T : Txt K mg) (D : Defs K mg) (Er : Errs K mg C_ClockError C_NoClock C_NoText C_NotApart) {fa : Addr} {fd : FuncData} (F : L2.Fun K "law" "law" st_law fa fd) : FnOk P w K mg base CX0 200 fa fd ["_law_script"] (spLaw K) := by
  have c__law_mixed := ok__law_mixed (P := P) (w := w) (base := base) T D
  have c__law_drawn := ok__law_drawn (P := P) (w := w) (base := base) T D
  have c__law_any_part := ok__law_any_part (P := P) (w := w) (base := base) T D 10
  have c__law_any_count := ok__law_any_count (P := P) (w := w) (base := base) T D 10
  have c__law_plain_part := ok__law_plain_part (P := P) (w := w) (base := base) T D 50
  have c__law_plain_count := ok__law_plain_count (P := P) (w := w) (base := base) T D 50
  have c__law_told := ok__law_told (P := P) (w := w) (base := base) T D Er
  have c__law_is_raised := ok__law_is_raised (P := P) (w := w) (base := base) T D
  refine F.ok sc_law (fun vs H Q E h => by obtain ⟨a, ns, rfl, _⟩ := h; rfl) fun cdv A outer s H vs Q E hr h => ?_
  obtain ⟨a, ns, rfl, hS, h63, q⟩ := h
  refine ⟨_, (pss_cons (ps_set (i := 1) sc_law.nd rfl (Or.inl rfl) (pe_c c__law_plain_count hr (by omega) rfl (pa_cons (pe_c c__law_any_count hr (by omega) rfl (pa_cons (pe_c c__law_mixed hr (by omega) rfl (pa_cons (pv 0) (pa_cons pe_int pa_nil))) (pa_cons pe_int pa_nil))) pa_nil)))
    (pss_cons (ps_set (i := 2) sc_law.nd rfl (Or.inl rfl) (pe_c c__law_plain_part hr (by omega) rfl (pa_cons (pe_c c__law_any_part hr (by omega) rfl (pa_cons (pe_c c__law_mixed hr (by omega) rfl (pa_cons (pv 0) (pa_cons pe_int pa_nil))) (pa_cons pe_int pa_nil))) pa_nil)))
    (pss_cons (ps_for PassesOwn.never rfl (pi_range1 (by rfl) T.b_range (pa_cons (pe_op op_mul pe_int (pe_callTy (call_int1) (by rfl) T.b_int (by decide +kernel) (pa_cons (pe_cmpR op_eq (pe_op op_mod (pe_c c__law_mixed hr (by omega) rfl (pa_cons (pv 0) (pa_cons pe_int pa_nil))) pe_int) pe_int (nomark _)) pa_nil))) pa_nil)) (pg_name (i := 3) sc_law.nd rfl (Or.inl rfl)) (pss_cons (ps_set (i := 2) sc_law.nd rfl (Or.inl rfl) (pe_c c__law_plain_part hr (by omega) rfl (pa_cons (pe_ix ix_list (pe_lst (pa_cons (pe_tup (pa_cons (pv 2) (pa_cons pe_int pa_nil))) (pa_cons (pe_tup (pa_cons pe_int (pa_cons (pv 2) pa_nil))) pa_nil))) (pe_op op_mod (pe_op op_fdiv (pe_c c__law_drawn hr (by omega) rfl (pa_cons (pe_c c__law_mixed hr (by omega) rfl (pa_cons (pv 0) (pa_cons pe_int pa_nil))) (pa_cons (pv 3) pa_nil))) pe_int) pe_int) (fun _ _ => rfl)) pa_nil)))
    (pss_one (ps_set (i := 1) sc_law.nd rfl (Or.inl rfl) (pe_c c__law_plain_count hr (by omega) rfl (pa_cons (pe_tup (pa_cons (pe_op op_mod (pv 3) pe_int) (pa_cons (pv 1) (pa_cons pe_int pa_nil)))) pa_nil))))))
    (pss_cons (ps_set (i := 4) sc_law.nd rfl (Or.inl rfl) (pe_c c__law_told hr (by omega) rfl (pa_cons pe_int (pa_cons (pv 1) (pa_cons (pv 2) pa_nil)))))
    (pss_cons (ps_set (i := 5) sc_law.nd rfl (Or.inl rfl) (pe_c c__law_told hr (by omega) rfl (pa_cons pe_int (pa_cons (pv 1) (pa_cons (pv 2) pa_nil)))))
    (pss_cons (ps_if (pt_cmpR (op_eqD hr.units) (pv 2) pe_int (nomark _)) (pss_one (ps_ret (pe_and (pe_cmpR op_isN (pv 4) pe_non (nomark _)) (pe_one (pe_cmpR op_isN (pv 5) pe_non (nomark _)))))) pss_nil)
    (pss_cons (ps_if (PW.pt (pw_or (pt_not (pt_val (pe_callB call_isD (by rfl) T.b_isinstance (by decide +kernel) (pa_cons (pv 5) (pa_cons (pe_bltn (v := .ty "tuple") (by rfl) T.b_tuple (by decide +kernel) rfl) pa_nil))))) (pw_or (pt_cmpR op_ne (pe_callB call_len_seq (by rfl) T.b_len PySem.boot_len (pa_cons (pv 5) pa_nil)) pe_int (nomark _)) (pw_or (pt_cmpR (op_neD hr.units) (pe_ix ix_tup (pv 5) pe_int (fun _ _ => rfl)) (pv 2) (nomark _)) (pw_or1 (pt_not (pt_val (pe_c c__law_is_raised hr (by omega) rfl (pa_cons (pv 1) (pa_cons (pv 2) (pa_cons (pe_ix ix_tup (pv 5) pe_int (fun _ _ => rfl)) pa_nil))))))))))) (pss_one (ps_ret pe_bl)) pss_nil)
    (pss_one (ps_ret (pe_c c__law_is_raised hr (by omega) rfl (pa_cons (pv 1) (pa_cons (pv 2) (pa_cons (pv 4) pa_nil))))))))))))), ?_⟩
  refine ⟨_, rfl, _, _, rfl, a, ns, 0, rfl, rfl, by decide, hS, fun m1 _ _ => ⟨_, _, rfl, m1, 5, rfl, rfl, by decide, fun t1 v1 H1 o1 _ d1 s1 e1 => ⟨_, rfl, t1, e1, by omega, by omega, fun v2 H2 s2 e2 => ?_⟩⟩⟩
  have S2 := s1.trans s2
  refine ⟨_, rfl, _, _, rfl, a, ns, 1, rfl, rfl, by decide, S2.seq hS, fun m2 _ _ => ⟨_, _, rfl, m2, 5, rfl, rfl, by decide, fun t3 v3 H3 o3 d3 s3 e3 => ⟨_, rfl, t3, e3, by omega, by omega, fun v4 H4 s4 e4 => ?_⟩⟩⟩
  have S4 := S2.trans (s3.trans s4)
  have e2' := Dp.same (s3.trans s4) _ _ e2
  refine ⟨_, rfl, _, _, rfl, a, ns, 2, rfl, rfl, by decide, S4.seq hS, fun m3 _ _ => ⟨_, _, rfl, rfl, (by show (0 : Int) < 9; decide), rfl, .inr ⟨_, rfl, _, _, rfl, rfl, .inl ⟨by decide, by decide⟩, ?_⟩⟩⟩
  generalize hj : (24 * (if decide (V.int (m3 % 9) = V.int 1) = true then (1 : Int) else 0)) = j
  have hj0 : 0 ≤ j ∧ j ≤ 24 := by rw [← hj]; split <;> decide
  refine ⟨j, congrArg (fun z => [V.int z]) hj, by omega, by omega, for_range (lo := 0) (n := j.toNat) (fun i σ H' => Same H4 H' ∧ ∃ (t : CT) (u : PT) (v x : V) (w3 : Option V), t.pl ∧ t.dep ≤ 5 + i ∧ t.lv ≤ 32 + i ∧ Dp K H' v t.d ∧ u.pl ∧ u.dep ≤ 5 + i ∧ u.lv ≤ 32 + i ∧ Dp K H' x u.d ∧ σ = [some (.ref a), some v, some x, w3, none, none])
    ⟨Same.refl _, t1.plain, t3.plain, v2, v4, none, CT.plain_pl o1, Nat.le_trans (CT.plain_dep t1) d1, Nat.le_trans (CT.plain_lv t1) (CT.lv_le d1), e2', PT.plain_pl o3, Nat.le_trans (PT.plain_dep t3) d3, Nat.le_trans (PT.plain_lv t3) (PT.lv_le d3), e4, rfl⟩ ?_ ?_⟩
  · rintro i σ H0 hi ⟨s0, t, u, v, x, w3, pt, dt, lt, e0, pu, du, lu, ex, rfl⟩
    have hi' : i < 24 := by omega
    refine ⟨_, rfl, two_le, fun p1 hp1 => ⟨_, rfl, two_le, fun p2 hp2 => ⟨two_le, fun l hl => ?_⟩⟩⟩
    have sl := (same_new hp1 (.tup [x, .int 0])).trans ((same_new hp2 (.tup [.int 0, x])).trans (same_new hl (.lst [.ref p1, .ref p2])))
    refine ⟨_, rfl, _, _, rfl, a, ns, 2, rfl, rfl, by decide, (S4.trans (s0.trans sl)).seq hS, fun m5 _ _ => ⟨_, rfl, _, _, rfl, m5, _, rfl, rfl, fun m6 _ _ => ⟨_, _, rfl, rfl, ⟨by decide, by decide⟩, _, _, rfl, rfl, (by show (0 : Int) < 2; decide), ?_⟩⟩⟩
    have g1 : Dp K (upd (upd (upd H0 p1 (.tup [x, .int 0])) p2 (.tup [.int 0, x])) l (.lst [.ref p1, .ref p2])) (.ref p1) (PT.nd u (.lf 0)).d := Dp.same (same_new hl _) _ _ (Dp.same (same_new hp2 _) _ _ (PT.nd_new (r := .lf 0) hp1 ex (.int 0)))
    have g2 : Dp K (upd (upd (upd H0 p1 (.tup [x, .int 0])) p2 (.tup [.int 0, x])) l (.lst [.ref p1, .ref p2])) (.ref p2) (PT.nd (.lf 0) u).d := Dp.same (same_new hl _) _ _ (PT.nd_new (l := .lf 0) hp2 (.int 0) (Dp.same (same_new hp1 _) _ _ ex))
    have zok : (PT.lf 0).ok := .inl rfl
    have two : ∀ b : Int, b = 0 ∨ b = 1 → ∃ (z : V) (t' : PT), atI [V.ref p1, V.ref p2] b = some z ∧ t'.ok ∧ t'.dep ≤ u.dep + 1 ∧ t'.lv ≤ u.lv + 1 ∧ Dp K (upd (upd (upd H0 p1 (.tup [x, .int 0])) p2 (.tup [.int 0, x])) l (.lst [.ref p1, .ref p2])) z t'.d := fun b hb => by
      rcases hb with rfl | rfl
      · exact ⟨_, .nd u (.lf 0), rfl, ⟨PT.pl_ok pu, zok⟩, (by show max u.dep 0 + 1 ≤ u.dep + 1; omega), Nat.le_refl _, g1⟩
      · exact ⟨_, .nd (.lf 0) u, rfl, ⟨zok, PT.pl_ok pu⟩, (by show max 0 u.dep + 1 ≤ u.dep + 1; omega), (by show 1 + u.lv ≤ u.lv + 1; omega), g2⟩
    obtain ⟨z, t', hx, ok', dep', lv', e'⟩ := two (m6 / 4 % 2) (by omega)
    refine ⟨_, _, _, _, rfl, rfl, SqL.of upd_same, hx, ?_⟩
    refine ⟨_, rfl, t', e', by omega, by omega, fun v7 H7 s7 e7 => ?_⟩
    have s8 := sl.trans s7
    refine ⟨_, rfl, _, _, rfl, rfl, (by show (0 : Int) < 3; decide), _, rfl, three_le, fun p9 hp9 => ?_⟩
    have g9 := CT.nd_new (n := (0 + (i : Int)) % 3) (r := .lf 0) hp9 (Dp.same s8 _ _ e0) (.int 0)
    have hb := CT.plain_dep (.nd ((0 + (i : Int)) % 3) t (.lf 0))
    have hb2 := CT.plain_lv (.nd ((0 + (i : Int)) % 3) t (.lf 0))
    have hb3 : (CT.nd ((0 + (i : Int)) % 3) t (.lf 0)).dep = t.dep + 1 := by show max t.dep 0 + 1 = _; omega
    have hb4 : (CT.nd ((0 + (i : Int)) % 3) t (.lf 0)).lv = t.lv + 1 := rfl
    refine ⟨_, rfl, .nd ((0 + (i : Int)) % 3) t (.lf 0), g9, by omega, by omega, fun v10 H10 s10 e10 => ?_⟩
    refine ⟨s0.trans (s8.trans ((same_new hp9 _).trans s10)), (CT.nd ((0 + (i : Int)) % 3) t (.lf 0)).plain, t'.plain, v10, v7, _, CT.plain_pl ⟨by omega, CT.pl_nn pt, Int.le_refl _⟩, by omega, by omega, e10, PT.plain_pl ok', ?_, ?_, Dp.same ((same_new hp9 _).trans s10) _ _ e7, rfl⟩
    · have := PT.plain_dep t'; omega
    · have := PT.plain_lv t'; omega
  rintro σ H0 ⟨s0, t, u, v, x, w3, pt, dt, lt, e0, pu, du, lu, ex, rfl⟩
  have dt' : t.dep ≤ 29 := by omega
  have lt' : t.lv ≤ 56 := by omega
  have du' : u.dep ≤ 29 := by omega
  have lu' : u.lv ≤ 56 := by omega
  refine ⟨_, rfl, _, rfl, _, _, _, rfl, t, u, e0, ex, PT.pl_ok pu, by omega, by omega, ?_, ?_⟩
  · refine .inl ⟨rfl, fun nu v1 H1 s1 f1 => ?_⟩
    refine ⟨_, rfl, _, rfl, _, _, _, rfl, t, u, Dp.same s1 _ _ e0, Dp.same s1 _ _ ex, PT.pl_ok pu, by omega, by omega, .inr ⟨rfl, fun _ v2 H2 s2 f2 => ?_⟩, fun z => absurd z nu⟩
    have s3 := s1.trans s2
    refine ⟨_, rfl, _, _, Dp.same s3 _ _ ex, PT.lf_dp 0, PT.sh (by omega), by decide +kernel, _, rfl, iteFe (by rw [PT.eqv_d u (.lf 0)]; exact decide_eq_false nu) ?_⟩
    obtain ⟨b, y1, y2, rfl, hs, g1, g2⟩ := dp_tup2 f2
    refine ⟨_, rfl, _, _, _, _, rfl, f2, kb_tp _, _, rfl, iteF ?_⟩
    refine ⟨_, rfl, _, _, rfl, .inr hs, rfl, _, rfl, iteF ?_⟩
    refine ⟨_, rfl, _, _, _, _, rfl, rfl, hs, rfl, _, rfl, _, _, g1, Dp.same s3 _ _ ex, PT.sh (by omega), PT.sh (by omega), _, rfl, iteFe (by rw [PT.eqv_d]; simp) ?_⟩
    refine ⟨_, rfl, _, rfl, _, rfl, _, _, _, _, rfl, rfl, hs, rfl, _, _, _, rfl, t, u, Dp.same s3 _ _ e0, Dp.same s3 _ _ ex, g2, pt, pu, nu, by omega, by omega, by omega, by omega, fun H4 s4 => ⟨_, rfl, iteF ?_⟩⟩
    refine ⟨_, rfl, _, rfl, _, rfl, _, _, _, rfl, t, u, Dp.same (s3.trans s4) _ _ e0, Dp.same (s3.trans s4) _ _ ex, Dp.same (s2.trans s4) _ _ f1, pt, pu, nu, by omega, by omega, by omega, by omega, fun H5 s5 => q _⟩
  · intro nu H1 s1
    refine ⟨_, rfl, _, rfl, _, _, _, rfl, t, u, Dp.same s1 _ _ e0, Dp.same s1 _ _ ex, PT.pl_ok pu, by omega, by omega, .inr ⟨rfl, fun c => absurd nu c⟩, fun _ H2 s2 => ?_⟩
    have s3 := s1.trans s2
    refine ⟨_, rfl, _, _, Dp.same s3 _ _ ex, PT.lf_dp 0, PT.sh (by omega), by decide +kernel, _, rfl, iteTe (by rw [PT.eqv_d u (.lf 0)]; exact decide_eq_true nu) ?_⟩
    exact ⟨_, rfl, rfl, _, rfl, iteT ⟨_, rfl, rfl, q _⟩⟩
end

theorem all_mk {l : PySem.W.OpenLaw} {w : World} {K : PySem.W.Frag} {h : Heap} {mg : Str → Option Value} {fa : Addr} (X : K.In h) (G : h.Ns mainGlobals mg) (hfa : mg "law" = some (.ref fa))
    {f0 : Addr} {od0 an0 : Option Addr} {sl0 : Array (Option Value)} {oc0 kV0 dc0 pm0 cd0 ct0 : Value}
    {f1 : Addr} {od1 an1 : Option Addr} {sl1 : Array (Option Value)} {oc1 kV1 dc1 pm1 cd1 ct1 : Value}
    {f2 : Addr} {od2 an2 : Option Addr} {sl2 : Array (Option Value)} {oc2 kV2 dc2 pm2 cd2 ct2 : Value}
    {f3 : Addr} {od3 an3 : Option Addr} {sl3 : Array (Option Value)} {oc3 kV3 dc3 pm3 cd3 ct3 : Value}
    {f4 : Addr} {od4 an4 : Option Addr} {sl4 : Array (Option Value)} {oc4 kV4 dc4 pm4 cd4 ct4 : Value}
    {f5 : Addr} {od5 an5 : Option Addr} {sl5 : Array (Option Value)} {oc5 kV5 dc5 pm5 cd5 ct5 : Value}
    {f6 : Addr} {od6 an6 : Option Addr} {sl6 : Array (Option Value)} {oc6 kV6 dc6 pm6 cd6 ct6 : Value}
    {f7 : Addr} {od7 an7 : Option Addr} {sl7 : Array (Option Value)} {oc7 kV7 dc7 pm7 cd7 ct7 : Value}
    {f8 : Addr} {od8 an8 : Option Addr} {sl8 : Array (Option Value)} {oc8 kV8 dc8 pm8 cd8 ct8 : Value}
    {f9 : Addr} {od9 an9 : Option Addr} {sl9 : Array (Option Value)} {oc9 kV9 dc9 pm9 cd9 ct9 : Value}
    {f10 : Addr} {od10 an10 : Option Addr} {sl10 : Array (Option Value)} {oc10 kV10 dc10 pm10 cd10 ct10 : Value}
    {f11 : Addr} {od11 an11 : Option Addr} {sl11 : Array (Option Value)} {oc11 kV11 dc11 pm11 cd11 ct11 : Value}
    {f12 : Addr} {od12 an12 : Option Addr} {sl12 : Array (Option Value)} {oc12 kV12 dc12 pm12 cd12 ct12 : Value}
    {f13 : Addr} {od13 an13 : Option Addr} {sl13 : Array (Option Value)} {oc13 kV13 dc13 pm13 cd13 ct13 : Value}
    {f14 : Addr} {od14 an14 : Option Addr} {sl14 : Array (Option Value)} {oc14 kV14 dc14 pm14 cd14 ct14 : Value}
    {f15 : Addr} {od15 an15 : Option Addr} {sl15 : Array (Option Value)} {oc15 kV15 dc15 pm15 cd15 ct15 : Value}
    {f16 : Addr} {od16 an16 : Option Addr} {sl16 : Array (Option Value)} {oc16 kV16 dc16 pm16 cd16 ct16 : Value}
    {f17 : Addr} {od17 an17 : Option Addr} {sl17 : Array (Option Value)} {oc17 kV17 dc17 pm17 cd17 ct17 : Value}
    {f18 : Addr} {od18 an18 : Option Addr} {sl18 : Array (Option Value)} {oc18 kV18 dc18 pm18 cd18 ct18 : Value}
    {f19 : Addr} {od19 an19 : Option Addr} {sl19 : Array (Option Value)} {oc19 kV19 dc19 pm19 cd19 ct19 : Value}
    {f20 : Addr} {od20 an20 : Option Addr} {sl20 : Array (Option Value)} {oc20 kV20 dc20 pm20 cd20 ct20 : Value}
    {f21 : Addr} {od21 an21 : Option Addr} {sl21 : Array (Option Value)} {oc21 kV21 dc21 pm21 cd21 ct21 : Value}
    {f22 : Addr} {od22 an22 : Option Addr} {sl22 : Array (Option Value)} {oc22 kV22 dc22 pm22 cd22 ct22 : Value}
    {f23 : Addr} {od23 an23 : Option Addr} {sl23 : Array (Option Value)} {oc23 kV23 dc23 pm23 cd23 ct23 : Value}
    (a0 : PySem.W.nsIn K mainGlobals "front" = some (some (.ref f0))) (l0 : K.lookup f0 = some ⟨oc0, od0, .func (PySem.W.fnOf "front" "front" (defArgs st_front) (defBody st_front) (defScope st_front) .none kV0 dc0 pm0 an0 cd0 ct0), sl0⟩) (c0 : PySem.W.codeIn K cd0 "front" = true) (k0 : PySem.W.keepIn K (.ref f0) = true)
    (a1 : PySem.W.nsIn K mainGlobals "lifted" = some (some (.ref f1))) (l1 : K.lookup f1 = some ⟨oc1, od1, .func (PySem.W.fnOf "lifted" "lifted" (defArgs st_lifted) (defBody st_lifted) (defScope st_lifted) .none kV1 dc1 pm1 an1 cd1 ct1), sl1⟩) (c1 : PySem.W.codeIn K cd1 "lifted" = true) (k1 : PySem.W.keepIn K (.ref f1) = true)
    (a2 : PySem.W.nsIn K mainGlobals "plain_count" = some (some (.ref f2))) (l2 : K.lookup f2 = some ⟨oc2, od2, .func (PySem.W.fnOf "plain_count" "plain_count" (defArgs st_plain_count) (defBody st_plain_count) (defScope st_plain_count) .none kV2 dc2 pm2 an2 cd2 ct2), sl2⟩) (c2 : PySem.W.codeIn K cd2 "plain_count" = true) (k2 : PySem.W.keepIn K (.ref f2) = true)
    (a3 : PySem.W.nsIn K mainGlobals "sides" = some (some (.ref f3))) (l3 : K.lookup f3 = some ⟨oc3, od3, .func (PySem.W.fnOf "sides" "sides" (defArgs st_sides) (defBody st_sides) (defScope st_sides) .none kV3 dc3 pm3 an3 cd3 ct3), sl3⟩) (c3 : PySem.W.codeIn K cd3 "sides" = true) (k3 : PySem.W.keepIn K (.ref f3) = true)
    (a4 : PySem.W.nsIn K mainGlobals "opened" = some (some (.ref f4))) (l4 : K.lookup f4 = some ⟨oc4, od4, .func (PySem.W.fnOf "opened" "opened" (defArgs st_opened) (defBody st_opened) (defScope st_opened) .none kV4 dc4 pm4 an4 cd4 ct4), sl4⟩) (c4 : PySem.W.codeIn K cd4 "opened" = true) (k4 : PySem.W.keepIn K (.ref f4) = true)
    (a5 : PySem.W.nsIn K mainGlobals "more" = some (some (.ref f5))) (l5 : K.lookup f5 = some ⟨oc5, od5, .func (PySem.W.fnOf "more" "more" (defArgs st_more) (defBody st_more) (defScope st_more) .none kV5 dc5 pm5 an5 cd5 ct5), sl5⟩) (c5 : PySem.W.codeIn K cd5 "more" = true) (k5 : PySem.W.keepIn K (.ref f5) = true)
    (a6 : PySem.W.nsIn K mainGlobals "raised" = some (some (.ref f6))) (l6 : K.lookup f6 = some ⟨oc6, od6, .func (PySem.W.fnOf "raised" "raised" (defArgs st_raised) (defBody st_raised) (defScope st_raised) .none kV6 dc6 pm6 an6 cd6 ct6), sl6⟩) (c6 : PySem.W.codeIn K cd6 "raised" = true) (k6 : PySem.W.keepIn K (.ref f6) = true)
    (a7 : PySem.W.nsIn K mainGlobals "done" = some (some (.ref f7))) (l7 : K.lookup f7 = some ⟨oc7, od7, .func (PySem.W.fnOf "done" "done" (defArgs st_done) (defBody st_done) (defScope st_done) .none kV7 dc7 pm7 an7 cd7 ct7), sl7⟩) (c7 : PySem.W.codeIn K cd7 "done" = true) (k7 : PySem.W.keepIn K (.ref f7) = true)
    (a8 : PySem.W.nsIn K mainGlobals "_law_cell_at" = some (some (.ref f8))) (l8 : K.lookup f8 = some ⟨oc8, od8, .func (PySem.W.fnOf "_law_cell_at" "_law_cell_at" (defArgs st__law_cell_at) (defBody st__law_cell_at) (defScope st__law_cell_at) .none kV8 dc8 pm8 an8 cd8 ct8), sl8⟩) (c8 : PySem.W.codeIn K cd8 "_law_cell_at" = true) (k8 : PySem.W.keepIn K (.ref f8) = true)
    (a9 : PySem.W.nsIn K mainGlobals "_law_mixed" = some (some (.ref f9))) (l9 : K.lookup f9 = some ⟨oc9, od9, .func (PySem.W.fnOf "_law_mixed" "_law_mixed" (defArgs st__law_mixed) (defBody st__law_mixed) (defScope st__law_mixed) .none kV9 dc9 pm9 an9 cd9 ct9), sl9⟩) (c9 : PySem.W.codeIn K cd9 "_law_mixed" = true) (k9 : PySem.W.keepIn K (.ref f9) = true)
    (a10 : PySem.W.nsIn K mainGlobals "_law_drawn" = some (some (.ref f10))) (l10 : K.lookup f10 = some ⟨oc10, od10, .func (PySem.W.fnOf "_law_drawn" "_law_drawn" (defArgs st__law_drawn) (defBody st__law_drawn) (defScope st__law_drawn) .none kV10 dc10 pm10 an10 cd10 ct10), sl10⟩) (c10 : PySem.W.codeIn K cd10 "_law_drawn" = true) (k10 : PySem.W.keepIn K (.ref f10) = true)
    (a11 : PySem.W.nsIn K mainGlobals "_law_paths" = some (some (.ref f11))) (l11 : K.lookup f11 = some ⟨oc11, od11, .func (PySem.W.fnOf "_law_paths" "_law_paths" (defArgs st__law_paths) (defBody st__law_paths) (defScope st__law_paths) .none kV11 dc11 pm11 an11 cd11 ct11), sl11⟩) (c11 : PySem.W.codeIn K cd11 "_law_paths" = true) (k11 : PySem.W.keepIn K (.ref f11) = true)
    (a12 : PySem.W.nsIn K mainGlobals "_law_at" = some (some (.ref f12))) (l12 : K.lookup f12 = some ⟨oc12, od12, .func (PySem.W.fnOf "_law_at" "_law_at" (defArgs st__law_at) (defBody st__law_at) (defScope st__law_at) .none kV12 dc12 pm12 an12 cd12 ct12), sl12⟩) (c12 : PySem.W.codeIn K cd12 "_law_at" = true) (k12 : PySem.W.keepIn K (.ref f12) = true)
    (a13 : PySem.W.nsIn K mainGlobals "_law_any_part" = some (some (.ref f13))) (l13 : K.lookup f13 = some ⟨oc13, od13, .func (PySem.W.fnOf "_law_any_part" "_law_any_part" (defArgs st__law_any_part) (defBody st__law_any_part) (defScope st__law_any_part) .none kV13 dc13 pm13 an13 cd13 ct13), sl13⟩) (c13 : PySem.W.codeIn K cd13 "_law_any_part" = true) (k13 : PySem.W.keepIn K (.ref f13) = true)
    (a14 : PySem.W.nsIn K mainGlobals "_law_any_count" = some (some (.ref f14))) (l14 : K.lookup f14 = some ⟨oc14, od14, .func (PySem.W.fnOf "_law_any_count" "_law_any_count" (defArgs st__law_any_count) (defBody st__law_any_count) (defScope st__law_any_count) .none kV14 dc14 pm14 an14 cd14 ct14), sl14⟩) (c14 : PySem.W.codeIn K cd14 "_law_any_count" = true) (k14 : PySem.W.keepIn K (.ref f14) = true)
    (a15 : PySem.W.nsIn K mainGlobals "_law_plain_part" = some (some (.ref f15))) (l15 : K.lookup f15 = some ⟨oc15, od15, .func (PySem.W.fnOf "_law_plain_part" "_law_plain_part" (defArgs st__law_plain_part) (defBody st__law_plain_part) (defScope st__law_plain_part) .none kV15 dc15 pm15 an15 cd15 ct15), sl15⟩) (c15 : PySem.W.codeIn K cd15 "_law_plain_part" = true) (k15 : PySem.W.keepIn K (.ref f15) = true)
    (a16 : PySem.W.nsIn K mainGlobals "_law_more" = some (some (.ref f16))) (l16 : K.lookup f16 = some ⟨oc16, od16, .func (PySem.W.fnOf "_law_more" "_law_more" (defArgs st__law_more) (defBody st__law_more) (defScope st__law_more) .none kV16 dc16 pm16 an16 cd16 ct16), sl16⟩) (c16 : PySem.W.codeIn K cd16 "_law_more" = true) (k16 : PySem.W.keepIn K (.ref f16) = true)
    (a17 : PySem.W.nsIn K mainGlobals "_law_front" = some (some (.ref f17))) (l17 : K.lookup f17 = some ⟨oc17, od17, .func (PySem.W.fnOf "_law_front" "_law_front" (defArgs st__law_front) (defBody st__law_front) (defScope st__law_front) .none kV17 dc17 pm17 an17 cd17 ct17), sl17⟩) (c17 : PySem.W.codeIn K cd17 "_law_front" = true) (k17 : PySem.W.keepIn K (.ref f17) = true)
    (a18 : PySem.W.nsIn K mainGlobals "_law_plain_count" = some (some (.ref f18))) (l18 : K.lookup f18 = some ⟨oc18, od18, .func (PySem.W.fnOf "_law_plain_count" "_law_plain_count" (defArgs st__law_plain_count) (defBody st__law_plain_count) (defScope st__law_plain_count) .none kV18 dc18 pm18 an18 cd18 ct18), sl18⟩) (c18 : PySem.W.codeIn K cd18 "_law_plain_count" = true) (k18 : PySem.W.keepIn K (.ref f18) = true)
    (a19 : PySem.W.nsIn K mainGlobals "_law_whole" = some (some (.ref f19))) (l19 : K.lookup f19 = some ⟨oc19, od19, .func (PySem.W.fnOf "_law_whole" "_law_whole" (defArgs st__law_whole) (defBody st__law_whole) (defScope st__law_whole) .none kV19 dc19 pm19 an19 cd19 ct19), sl19⟩) (c19 : PySem.W.codeIn K cd19 "_law_whole" = true) (k19 : PySem.W.keepIn K (.ref f19) = true)
    (a20 : PySem.W.nsIn K mainGlobals "_law_is_count" = some (some (.ref f20))) (l20 : K.lookup f20 = some ⟨oc20, od20, .func (PySem.W.fnOf "_law_is_count" "_law_is_count" (defArgs st__law_is_count) (defBody st__law_is_count) (defScope st__law_is_count) .none kV20 dc20 pm20 an20 cd20 ct20), sl20⟩) (c20 : PySem.W.codeIn K cd20 "_law_is_count" = true) (k20 : PySem.W.keepIn K (.ref f20) = true)
    (a21 : PySem.W.nsIn K mainGlobals "_law_told" = some (some (.ref f21))) (l21 : K.lookup f21 = some ⟨oc21, od21, .func (PySem.W.fnOf "_law_told" "_law_told" (defArgs st__law_told) (defBody st__law_told) (defScope st__law_told) .none kV21 dc21 pm21 an21 cd21 ct21), sl21⟩) (c21 : PySem.W.codeIn K cd21 "_law_told" = true) (k21 : PySem.W.keepIn K (.ref f21) = true)
    (a22 : PySem.W.nsIn K mainGlobals "_law_is_raised" = some (some (.ref f22))) (l22 : K.lookup f22 = some ⟨oc22, od22, .func (PySem.W.fnOf "_law_is_raised" "_law_is_raised" (defArgs st__law_is_raised) (defBody st__law_is_raised) (defScope st__law_is_raised) .none kV22 dc22 pm22 an22 cd22 ct22), sl22⟩) (c22 : PySem.W.codeIn K cd22 "_law_is_raised" = true) (k22 : PySem.W.keepIn K (.ref f22) = true)
    (a23 : PySem.W.nsIn K mainGlobals "law" = some (some (.ref f23))) (l23 : K.lookup f23 = some ⟨oc23, od23, .func (PySem.W.fnOf "law" "law" (defArgs st_law) (defBody st_law) (defScope st_law) .none kV23 dc23 pm23 an23 cd23 ct23), sl23⟩) (c23 : PySem.W.codeIn K cd23 "law" = true) (k23 : PySem.W.keepIn K (.ref f23) = true)
    (z_isinstance : PySem.W.nsIn K mainGlobals "isinstance" = some none)
    (z_int : PySem.W.nsIn K mainGlobals "int" = some none)
    (z_bool : PySem.W.nsIn K mainGlobals "bool" = some none)
    (z_str : PySem.W.nsIn K mainGlobals "str" = some none)
    (z_tuple : PySem.W.nsIn K mainGlobals "tuple" = some none)
    (z_list : PySem.W.nsIn K mainGlobals "list" = some none)
    (z_set : PySem.W.nsIn K mainGlobals "set" = some none)
    (z_len : PySem.W.nsIn K mainGlobals "len" = some none)
    (z_min : PySem.W.nsIn K mainGlobals "min" = some none)
    (z_max : PySem.W.nsIn K mainGlobals "max" = some none)
    (z_sum : PySem.W.nsIn K mainGlobals "sum" = some none)
    (z_sorted : PySem.W.nsIn K mainGlobals "sorted" = some none)
    (z_range : PySem.W.nsIn K mainGlobals "range" = some none)
    (z_enumerate : PySem.W.nsIn K mainGlobals "enumerate" = some none)
    (z_ValueError : PySem.W.nsIn K mainGlobals "ValueError" = some none)
    {C_ClockError C_NoClock C_NoText C_NotApart : Addr}
    (eg_ClockError : PySem.W.nsIn K mainGlobals "ClockError" = some (some (.ref C_ClockError)))
    (ek_ClockError : PySem.W.keepIn K (.ref C_ClockError) = true)
    (et_ClockError : PySem.W.typeIn K (.ref C_ClockError) = some (.type "type"))
    (ei_ClockError : PySem.W.isClsIn K C_ClockError = true)
    (eg_NoClock : PySem.W.nsIn K mainGlobals "NoClock" = some (some (.ref C_NoClock)))
    (ek_NoClock : PySem.W.keepIn K (.ref C_NoClock) = true)
    (et_NoClock : PySem.W.typeIn K (.ref C_NoClock) = some (.type "type"))
    (ei_NoClock : PySem.W.isClsIn K C_NoClock = true)
    (eg_NoText : PySem.W.nsIn K mainGlobals "NoText" = some (some (.ref C_NoText)))
    (ek_NoText : PySem.W.keepIn K (.ref C_NoText) = true)
    (et_NoText : PySem.W.typeIn K (.ref C_NoText) = some (.type "type"))
    (ei_NoText : PySem.W.isClsIn K C_NoText = true)
    (eg_NotApart : PySem.W.nsIn K mainGlobals "NotApart" = some (some (.ref C_NotApart)))
    (ek_NotApart : PySem.W.keepIn K (.ref C_NotApart) = true)
    (et_NotApart : PySem.W.typeIn K (.ref C_NotApart) = some (.type "type"))
    (ei_NotApart : PySem.W.isClsIn K C_NotApart = true)
    (exx : PySem.W.excIn K C_NotApart [.type "ValueError", .type "Exception", .type "BaseException", .type "object"] "ValueError.__new__" = true)
    (exb : PySem.W.subIn K (.ref C_NotApart) (.type "BaseException") = some true)
    (exs : PySem.W.subIn K (.ref C_NotApart) (.ref C_NotApart) = some true)
    (exg : PySem.W.findIn K (.ref C_NotApart) "__getattribute__" = some (some (.builtin "BaseException.__getattribute__")))
    (exk : PySem.W.findIn K (.ref C_NotApart) "__getattr__" = some none)
    (exd : PySem.W.hasDictIn K C_NotApart = true)
    (exa : PySem.W.findIn K (.ref C_NotApart) "__class__" = some (some (.builtin "object.__class__")))
    (exn : PySem.W.specialIn K (.builtin "object.__class__") "__get__" = some (some (.builtin "getset_descriptor.__get__")))
    (ext : PySem.W.takesIn K (.builtin "object.__class__") = some true)
    (exm : PySem.W.mroIn K C_NotApart (.type "object") = some true)
    (es_ClockError : PySem.W.subIn K (.ref C_NotApart) (.ref C_ClockError) = some true)
    (es_NoClock : PySem.W.subIn K (.ref C_NotApart) (.ref C_NoClock) = some false)
    (es_NoText : PySem.W.subIn K (.ref C_NotApart) (.ref C_NoText) = some false)
    (es_V : PySem.W.subIn K (.ref C_NotApart) (.type "ValueError") = some true)
    : ∃ fd : FuncData, (∀ (s : Shared) (v : Value), BindsTo s fd ⟨[v], []⟩ [("_law_script", v)]) ∧ ∀ base : Heap, K.In base → base.Ns mainGlobals mg → FnOk l.prog w K mg base CX0 200 fa fd ["_law_script"] (spLaw K) := by
  have e := hfa.symm.trans (PySem.W.mg_of X G a23)
  cases e
  have T : Txt K mg := ⟨PySem.W.mg_none_of X G z_isinstance, PySem.W.mg_none_of X G z_int, PySem.W.mg_none_of X G z_bool, PySem.W.mg_none_of X G z_str, PySem.W.mg_none_of X G z_tuple, PySem.W.mg_none_of X G z_list, PySem.W.mg_none_of X G z_set, PySem.W.mg_none_of X G z_len, PySem.W.mg_none_of X G z_min, PySem.W.mg_none_of X G z_max, PySem.W.mg_none_of X G z_sum, PySem.W.mg_none_of X G z_sorted, PySem.W.mg_none_of X G z_range, PySem.W.mg_none_of X G z_enumerate, PySem.W.mg_none_of X G z_ValueError⟩
  have D : Defs K mg := ⟨df_mk X G a0 l0 c0 k0 (fun _ _ _ _ _ _ us hl => match us, hl with | [_], _ => rfl),
    df_mk X G a1 l1 c1 k1 (fun _ _ _ _ _ _ us hl => match us, hl with | [_, _], _ => rfl),
    df_mk X G a2 l2 c2 k2 (fun _ _ _ _ _ _ us hl => match us, hl with | [_], _ => rfl),
    df_mk X G a3 l3 c3 k3 (fun _ _ _ _ _ _ us hl => match us, hl with | [_], _ => rfl),
    df_mk X G a4 l4 c4 k4 (fun _ _ _ _ _ _ us hl => match us, hl with | [_], _ => rfl),
    df_mk X G a5 l5 c5 k5 (fun _ _ _ _ _ _ us hl => match us, hl with | [_, _], _ => rfl),
    df_mk X G a6 l6 c6 k6 (fun _ _ _ _ _ _ us hl => match us, hl with | [_, _], _ => rfl),
    df_mk X G a7 l7 c7 k7 (fun _ _ _ _ _ _ us hl => match us, hl with | [_], _ => rfl),
    df_mk X G a8 l8 c8 k8 (fun _ _ _ _ _ _ us hl => match us, hl with | [_, _], _ => rfl),
    df_mk X G a9 l9 c9 k9 (fun _ _ _ _ _ _ us hl => match us, hl with | [_, _], _ => rfl),
    df_mk X G a10 l10 c10 k10 (fun _ _ _ _ _ _ us hl => match us, hl with | [_, _], _ => rfl),
    df_mk X G a11 l11 c11 k11 (fun _ _ _ _ _ _ us hl => match us, hl with | [_], _ => rfl),
    df_mk X G a12 l12 c12 k12 (fun _ _ _ _ _ _ us hl => match us, hl with | [_, _], _ => rfl),
    df_mk X G a13 l13 c13 k13 (fun _ _ _ _ _ _ us hl => match us, hl with | [_, _], _ => rfl),
    df_mk X G a14 l14 c14 k14 (fun _ _ _ _ _ _ us hl => match us, hl with | [_, _], _ => rfl),
    df_mk X G a15 l15 c15 k15 (fun _ _ _ _ _ _ us hl => match us, hl with | [_], _ => rfl),
    df_mk X G a16 l16 c16 k16 (fun _ _ _ _ _ _ us hl => match us, hl with | [_, _], _ => rfl),
    df_mk X G a17 l17 c17 k17 (fun _ _ _ _ _ _ us hl => match us, hl with | [_], _ => rfl),
    df_mk X G a18 l18 c18 k18 (fun _ _ _ _ _ _ us hl => match us, hl with | [_], _ => rfl),
    df_mk X G a19 l19 c19 k19 (fun _ _ _ _ _ _ us hl => match us, hl with | [_], _ => rfl),
    df_mk X G a20 l20 c20 k20 (fun _ _ _ _ _ _ us hl => match us, hl with | [_], _ => rfl),
    df_mk X G a21 l21 c21 k21 (fun _ _ _ _ _ _ us hl => match us, hl with | [_, _, _], _ => rfl),
    df_mk X G a22 l22 c22 k22 (fun _ _ _ _ _ _ us hl => match us, hl with | [_, _, _], _ => rfl)⟩
  have Er : Errs K mg C_ClockError C_NoClock C_NoText C_NotApart := ⟨⟨PySem.W.mg_of X G eg_ClockError, ek_ClockError, et_ClockError, ei_ClockError⟩, ⟨PySem.W.mg_of X G eg_NoClock, ek_NoClock, et_NoClock, ei_NoClock⟩, ⟨PySem.W.mg_of X G eg_NoText, ek_NoText, et_NoText, ei_NoText⟩, ⟨PySem.W.mg_of X G eg_NotApart, ek_NotApart, et_NotApart, ei_NotApart⟩, ⟨exx, exb, exs⟩, ⟨exg, exk, exb, exd, exa, exn, ext, exm⟩, es_ClockError, es_NoClock, es_NoText, es_V⟩
  have F := L2.fun_mk (st := st_law) l23 c23 k23
  exact ⟨PySem.W.fnOf "law" "law" (defArgs st_law) (defBody st_law) (defScope st_law) .none kV23 dc23 pm23 an23 cd23 ct23, fun s v => .of_eq rfl, fun base _ _ => ok_law T D Er F⟩
theorem walk {l : PySem.W.OpenLaw} {q : Program} {loose : List Str} {XP : (Str → Option Value) → Heap → Prop} {YP : World → Heap → Prop} {d : DefRec} {K : Params → PySem.W.Frag} (hn : l.most = some 63) (hdf : d.params.defaults = [])
    (hY : ∀ (w : World) (h : Heap), YP w h → (K w.params).In h)
    (F : ∀ (w : World) (mg : Str → Option Value) (fa : Addr) (h : Heap), (K w.params).In h → h.Ns mainGlobals mg → mg d.name = some (.ref fa) →
      ∃ fd : FuncData, (∀ (s : Shared) (u : Value), BindsTo s fd ⟨[u], []⟩ [("_law_script", u)]) ∧ ∀ base : Heap, (K w.params).In base → base.Ns mainGlobals mg → FnOk l.prog w (K w.params) mg base CX0 200 fa fd ["_law_script"] (spLaw (K w.params))) :
    PySem.W.WalkO q loose XP YP l.row.toRowW d [] (fun f vs => PySem.call f vs) :=
  L2.walk_of (n := 63) (k := 200) (x := "_law_script") (CX := fun _ => CX0) (sp := fun w => spLaw (K w.params)) hn (by decide) hdf ⟨rfl, by decide, by decide⟩ hY F (fun _ _ a ns hl _ hS => ⟨a, ns, rfl, hS, hl, fun _ => rfl⟩) fun _ _ _ _ _ z => z
end TC
open PySem PySem.W PyProof.Rows
set_option maxRecDepth 100000 in
set_option maxHeartbeats 0 in
theorem PySem.Challenge.cw_treeclock_k22_whole_raised_holds : PySem.Challenge.rw_treeclock_k22_whole_raised.Holds := by
  w_on; o_law; k_head; (case hw => w_witness2)
  k_fill
  refine TC.walk (l := PySem.Challenge.rw_treeclock_k22_whole_raised) rfl rfl (fun w h Y => PySem.W.kIn_of Y) ?F
  case F =>
    intro w mg fa h KX G hmg
    refine' TC.all_mk KX G hmg ?a0 ?l0 ?c0 ?k0 ?a1 ?l1 ?c1 ?k1 ?a2 ?l2 ?c2 ?k2 ?a3 ?l3 ?c3 ?k3 ?a4 ?l4 ?c4 ?k4 ?a5 ?l5 ?c5 ?k5 ?a6 ?l6 ?c6 ?k6 ?a7 ?l7 ?c7 ?k7 ?a8 ?l8 ?c8 ?k8 ?a9 ?l9 ?c9 ?k9 ?a10 ?l10 ?c10 ?k10 ?a11 ?l11 ?c11 ?k11 ?a12 ?l12 ?c12 ?k12 ?a13 ?l13 ?c13 ?k13 ?a14 ?l14 ?c14 ?k14 ?a15 ?l15 ?c15 ?k15 ?a16 ?l16 ?c16 ?k16 ?a17 ?l17 ?c17 ?k17 ?a18 ?l18 ?c18 ?k18 ?a19 ?l19 ?c19 ?k19 ?a20 ?l20 ?c20 ?k20 ?a21 ?l21 ?c21 ?k21 ?a22 ?l22 ?c22 ?k22 ?a23 ?l23 ?c23 ?k23 ?z_isinstance ?z_int ?z_bool ?z_str ?z_tuple ?z_list ?z_set ?z_len ?z_min ?z_max ?z_sum ?z_sorted ?z_range ?z_enumerate ?z_ValueError ?eg_ClockError ?ek_ClockError ?et_ClockError ?ei_ClockError ?eg_NoClock ?ek_NoClock ?et_NoClock ?ei_NoClock ?eg_NoText ?ek_NoText ?et_NoText ?ei_NoText ?eg_NotApart ?ek_NotApart ?et_NotApart ?ei_NotApart ?exx ?exb ?exs ?exg ?exk ?exd ?exa ?exn ?ext ?exm ?es_ClockError ?es_NoClock ?es_NoText ?es_V
    (case a0 => k_is)
    (case l0 => k_is)
    (case c0 => k_is)
    (case k0 => k_is)
    (case a1 => k_is)
    (case l1 => k_is)
    (case c1 => k_is)
    (case k1 => k_is)
    (case a2 => k_is)
    (case l2 => k_is)
    (case c2 => k_is)
    (case k2 => k_is)
    (case a3 => k_is)
    (case l3 => k_is)
    (case c3 => k_is)
    (case k3 => k_is)
    (case a4 => k_is)
    (case l4 => k_is)
    (case c4 => k_is)
    (case k4 => k_is)
    (case a5 => k_is)
    (case l5 => k_is)
    (case c5 => k_is)
    (case k5 => k_is)
    (case a6 => k_is)
    (case l6 => k_is)
    (case c6 => k_is)
    (case k6 => k_is)
    (case a7 => k_is)
    (case l7 => k_is)
    (case c7 => k_is)
    (case k7 => k_is)
    (case a8 => k_is)
    (case l8 => k_is)
    (case c8 => k_is)
    (case k8 => k_is)
    (case a9 => k_is)
    (case l9 => k_is)
    (case c9 => k_is)
    (case k9 => k_is)
    (case a10 => k_is)
    (case l10 => k_is)
    (case c10 => k_is)
    (case k10 => k_is)
    (case a11 => k_is)
    (case l11 => k_is)
    (case c11 => k_is)
    (case k11 => k_is)
    (case a12 => k_is)
    (case l12 => k_is)
    (case c12 => k_is)
    (case k12 => k_is)
    (case a13 => k_is)
    (case l13 => k_is)
    (case c13 => k_is)
    (case k13 => k_is)
    (case a14 => k_is)
    (case l14 => k_is)
    (case c14 => k_is)
    (case k14 => k_is)
    (case a15 => k_is)
    (case l15 => k_is)
    (case c15 => k_is)
    (case k15 => k_is)
    (case a16 => k_is)
    (case l16 => k_is)
    (case c16 => k_is)
    (case k16 => k_is)
    (case a17 => k_is)
    (case l17 => k_is)
    (case c17 => k_is)
    (case k17 => k_is)
    (case a18 => k_is)
    (case l18 => k_is)
    (case c18 => k_is)
    (case k18 => k_is)
    (case a19 => k_is)
    (case l19 => k_is)
    (case c19 => k_is)
    (case k19 => k_is)
    (case a20 => k_is)
    (case l20 => k_is)
    (case c20 => k_is)
    (case k20 => k_is)
    (case a21 => k_is)
    (case l21 => k_is)
    (case c21 => k_is)
    (case k21 => k_is)
    (case a22 => k_is)
    (case l22 => k_is)
    (case c22 => k_is)
    (case k22 => k_is)
    (case a23 => k_is)
    (case l23 => k_is)
    (case c23 => k_is)
    (case k23 => k_is)
    (case z_isinstance => k_is)
    (case z_int => k_is)
    (case z_bool => k_is)
    (case z_str => k_is)
    (case z_tuple => k_is)
    (case z_list => k_is)
    (case z_set => k_is)
    (case z_len => k_is)
    (case z_min => k_is)
    (case z_max => k_is)
    (case z_sum => k_is)
    (case z_sorted => k_is)
    (case z_range => k_is)
    (case z_enumerate => k_is)
    (case z_ValueError => k_is)
    (case eg_ClockError => k_is)
    (case ek_ClockError => k_is)
    (case et_ClockError => k_is)
    (case ei_ClockError => k_is)
    (case eg_NoClock => k_is)
    (case ek_NoClock => k_is)
    (case et_NoClock => k_is)
    (case ei_NoClock => k_is)
    (case eg_NoText => k_is)
    (case ek_NoText => k_is)
    (case et_NoText => k_is)
    (case ei_NoText => k_is)
    (case eg_NotApart => k_is)
    (case ek_NotApart => k_is)
    (case et_NotApart => k_is)
    (case ei_NotApart => k_is)
    (case exx => k_exc)
    (case exb => k_is)
    (case exs => first | rfl | k_is)
    (case exg => k_is)
    (case exk => k_is)
    (case exd => k_is)
    (case exa => k_is)
    (case exn => first | k_is | rfl | decide +kernel)
    (case ext => first | k_is | rfl | decide +kernel)
    (case exm => k_is)
    (case es_ClockError => k_is)
    (case es_NoClock => k_is)
    (case es_NoText => k_is)
    (case es_V => k_is)
