import PyProof.Rows.All
import Wide.All
import OpenK.AllK
import Wide.FinOn
import HandS.ForMost
import HandS.ForExc
import HandS.IsInst
import HandS.TupAny
import HandS.Codes
import HandS.ExcIs
import HandS.SetFor
import HandS.Strs
import HandS.Deep
import HandS.Walk
import HandS.TupLe
import KE.KRevSl
import PySem.Challenge.RW_treeclock_k03_whole_read
set_option Elab.async false
set_option linter.all false
set_option maxRecDepth 100000
set_option maxHeartbeats 4000000
namespace TC
open PySem PySem.Spec PyProof.Rows L2

/-! ### defs and what they promise -/
structure Df (K : PySem.W.Frag) (mg : Str → Option Value) (x : Str) (st : Stmt) (ps : List Str) : Prop where
  ex : ∃ (f : Addr) (fd : FuncData), L2.Fun K x x st f fd ∧ mg x = some (.ref f) ∧ Binds K fd ps []
structure Cal (CX : CXT) (P : Program) (w : World) (K : PySem.W.Frag) (mg : Str → Option Value) (base : Heap) (k : Nat) (x : Str) (sp : Sp) : Prop where
  ex : ∃ (f : Addr) (fd : FuncData) (ps : List Str), FnOk P w K mg base CX k f fd ps sp ∧ mg x = some (.ref f) ∧ PySem.W.keepIn K (.ref f) = true ∧ Binds K fd ps []
section
variable {P : Program} {w : World} {K : PySem.W.Frag} {mg : Str → Option Value} {base : Heap}
theorem Cal.mono {CX : CXT} {j k : Nat} {x : Str} {sp : Sp} (c : Cal CX P w K mg base j x sp) (h : j ≤ k) : Cal CX P w K mg base k x sp := by
  obtain ⟨f, fd, ps, F, a, b, d⟩ := c.ex
  exact ⟨f, fd, ps, F.mono h, a, b, d⟩
theorem Cal.imp {CX : CXT} {k : Nat} {x : Str} {sp sp' : Sp} (c : Cal CX P w K mg base k x sp) (h : ∀ vs H Q E, sp' vs H Q E → sp vs H Q E) : Cal CX P w K mg base k x sp' := by
  obtain ⟨f, fd, ps, F, a, b, d⟩ := c.ex
  exact ⟨f, fd, ps, F.imp h, a, b, d⟩
theorem cal_no {CX : CXT} {k : Nat} {x : Str} {st : Stmt} {ps : List Str} {sp : Sp} (D : Df K mg x st ps) (no : ∀ vs H Q E, ¬ sp vs H Q E) : Cal CX P w K mg base k x sp := by
  obtain ⟨f, fd, F, m, b⟩ := D.ex
  exact ⟨f, fd, ps, ⟨fun vs H Q E h => absurd h (no vs H Q E), fun A outer s H args us vs Q E _ _ _ _ h => absurd h (no vs H Q E)⟩, m, F.kp, b⟩
theorem cal_ok {x : Str} {st : Stmt} {N ps : List Str} {k : Nat} {sp : Sp} (D : Df K mg x st ps) (S : FnScope N ps (defScope st)) (len : ∀ vs H Q E, sp vs H Q E → vs.length = ps.length)
    (hbody : ∀ (f : Addr) (cdv : Value) (A : Around) (outer : List Env) (s : Shared) (H : Hp) (vs : List V) (Q : VK) (E : XK), Room k (A.deeper (envOfC x (defScope st) s.heap.objs.size f cdv)) → sp vs H Q E →
      ∃ t, PSs (cxOf CX0 P w K mg base N x (defScope st) f cdv A outer s H E).nox (defBody st) t ∧ t { nx := fun _ H' => Q .non H', rt := Q } (start N vs) H) : Cal CX0 P w K mg base (k + 1) x sp := by
  obtain ⟨f, fd, F, m, b⟩ := D.ex
  exact ⟨f, fd, ps, F.ok S len (hbody f), m, F.kp, b⟩
theorem cal_okX {x : Str} {st : Stmt} {N ps : List Str} {k : Nat} {sp : Sp} (D : Df K mg x st ps) (S : FnScope N ps (defScope st)) (len : ∀ vs H Q E, sp vs H Q E → vs.length = ps.length)
    (hbody : ∀ (f : Addr) (cdv : Value) (A : Around) (outer : List Env) (s : Shared) (H : Hp) (vs : List V) (Q : VK) (E : XK), Room k (A.deeper (envOfC x (defScope st) s.heap.objs.size f cdv)) → sp vs H Q E →
      ∃ t, PSs (cxOf (L2.CX P w) P w K mg base N x (defScope st) f cdv A outer s H E) (defBody st) t ∧ t { nx := fun _ H' => Q .non H', rt := Q } (start N vs) H) : Cal (L2.CX P w) P w K mg base (k + 1) x sp := by
  obtain ⟨f, fd, F, m, b⟩ := D.ex
  exact ⟨f, fd, ps, F.okX S len (hbody f), m, F.kp, b⟩
end
def sp1 (R : V → Hp → VK → Prop) : Sp := fun vs H Q _ => ∃ x, vs = [x] ∧ R x H Q
def sp2 (R : V → V → Hp → VK → Prop) : Sp := fun vs H Q _ => ∃ x y, vs = [x, y] ∧ R x y H Q
def sp3 (R : V → V → V → Hp → VK → Prop) : Sp := fun vs H Q _ => ∃ x y z, vs = [x, y, z] ∧ R x y z H Q
section
variable {P : Program} {w : World} {K : PySem.W.Frag} {mg : Str → Option Value} {base : Heap}
theorem cal1 {x p : Str} {st : Stmt} {N : List Str} {k : Nat} {R : V → Hp → VK → Prop} (D : Df K mg x st [p]) (S : FnScope N [p] (defScope st))
    (hbody : ∀ (f : Addr) (cdv : Value) (A : Around) (outer : List Env) (s : Shared) (H : Hp) (a : V) (Q : VK) (E : XK), Room k (A.deeper (envOfC x (defScope st) s.heap.objs.size f cdv)) → R a H Q →
      ∃ t, PSs (cxOf CX0 P w K mg base N x (defScope st) f cdv A outer s H E).nox (defBody st) t ∧ t { nx := fun _ H' => Q .non H', rt := Q } (start N [a]) H) : Cal CX0 P w K mg base (k + 1) x (sp1 R) :=
  cal_ok D S (fun vs H Q E h => by obtain ⟨a, rfl, _⟩ := h; rfl) fun f cdv A outer s H vs Q E hr h => by
    obtain ⟨a, rfl, h⟩ := h
    exact hbody f cdv A outer s H a Q E hr h
theorem cal2 {x p q : Str} {st : Stmt} {N : List Str} {k : Nat} {R : V → V → Hp → VK → Prop} (D : Df K mg x st [p, q]) (S : FnScope N [p, q] (defScope st))
    (hbody : ∀ (f : Addr) (cdv : Value) (A : Around) (outer : List Env) (s : Shared) (H : Hp) (a b : V) (Q : VK) (E : XK), Room k (A.deeper (envOfC x (defScope st) s.heap.objs.size f cdv)) → R a b H Q →
      ∃ t, PSs (cxOf CX0 P w K mg base N x (defScope st) f cdv A outer s H E).nox (defBody st) t ∧ t { nx := fun _ H' => Q .non H', rt := Q } (start N [a, b]) H) : Cal CX0 P w K mg base (k + 1) x (sp2 R) :=
  cal_ok D S (fun vs H Q E h => by obtain ⟨a, b, rfl, _⟩ := h; rfl) fun f cdv A outer s H vs Q E hr h => by
    obtain ⟨a, b, rfl, h⟩ := h
    exact hbody f cdv A outer s H a b Q E hr h
theorem cal3 {x p q r : Str} {st : Stmt} {N : List Str} {k : Nat} {R : V → V → V → Hp → VK → Prop} (D : Df K mg x st [p, q, r]) (S : FnScope N [p, q, r] (defScope st))
    (hbody : ∀ (f : Addr) (cdv : Value) (A : Around) (outer : List Env) (s : Shared) (H : Hp) (a b c : V) (Q : VK) (E : XK), Room k (A.deeper (envOfC x (defScope st) s.heap.objs.size f cdv)) → R a b c H Q →
      ∃ t, PSs (cxOf CX0 P w K mg base N x (defScope st) f cdv A outer s H E).nox (defBody st) t ∧ t { nx := fun _ H' => Q .non H', rt := Q } (start N [a, b, c]) H) : Cal CX0 P w K mg base (k + 1) x (sp3 R) :=
  cal_ok D S (fun vs H Q E h => by obtain ⟨a, b, c, rfl, _⟩ := h; rfl) fun f cdv A outer s H vs Q E hr h => by
    obtain ⟨a, b, c, rfl, h⟩ := h
    exact hbody f cdv A outer s H a b c Q E hr h
end
/-- a call of a def that raises nothing -/
def tCl (sp : Sp) (t : TA) : TE := fun σ H Q => t σ H fun vs H1 => sp vs H1 Q E0
section
variable {X : Cx} {k j : Nat} {x : Str} {sp : Sp} {p pos : Pos} {e : Expr} {es : List Expr} {t : TA}
theorem pe_c (c : Cal CX0 X.prog X.w X.K X.mg X.base k x sp) (hr : Room j X.A) (hk : k ≤ j) (hg : Gl X x) (ha : PA X (e :: es) t)
    (hdb : (x == ("__debug__" : Str)) = false := by decide) (he : starEach (e :: es) X.env = (false, eval e X.env) :: starEach es X.env := by rfl) (hpl : (backTo pos (starEach es X.env)).any (·.1) = false := by rfl) :
    PE X (.Call (.Name x p) (e :: es) [] pos) (tCl sp t) := by
  obtain ⟨f, fd, ps, F, hm, kp, b⟩ := c.ex
  refine ⟨fun pins s σ H Q I h => ?_⟩
  refine (pe_call F (hr.mono hk) hg hm kp b .nil pass0 ha hdb he hpl).run pins s σ H Q I ?_
  have e0 : (fun (vs : List V) (H1 : Hp) => sp (vs ++ []) H1 Q E0) = fun vs H1 => sp vs H1 Q E0 := by
    funext vs H1
    rw [List.append_nil]
  show t σ H (fun vs H1 => sp (vs ++ []) H1 Q E0)
  rw [e0]
  exact h
theorem pe_c0 (c : Cal CX0 X.prog X.w X.K X.mg X.base k x sp) (hr : Room j X.A) (hk : k ≤ j) (hg : Gl X x) (hdb : (x == ("__debug__" : Str)) = false := by decide) :
    PE X (.Call (.Name x p) [] [] pos) (tCl sp tNil) := by
  obtain ⟨f, fd, ps, F, hm, kp, b⟩ := c.ex
  exact pe_call0 F (hr.mono hk) hg hm kp b .nil pass0 hdb
end
theorem df_mk {K : PySem.W.Frag} {mg : Str → Option Value} {h : Heap} {x : Str} {st : Stmt} {ps : List Str} {f : Addr} {od an : Option Addr} {sl : Array (Option Value)} {oc kV dc pm cd ct : Value} (X : K.In h) (G : h.Ns mainGlobals mg)
    (a : PySem.W.nsIn K mainGlobals x = some (some (.ref f))) (l : K.lookup f = some ⟨oc, od, .func (PySem.W.fnOf x x (defArgs st) (defBody st) (defScope st) .none kV dc pm an cd ct), sl⟩) (c : PySem.W.codeIn K cd x = true) (k : PySem.W.keepIn K (.ref f) = true)
    (hb : ∀ (kV doc pm : Value) (an : Option Addr) (cdv ct : Value) (us : List Value), us.length = ps.length → bindArgs (PySem.W.fnOf x x (defArgs st) (defBody st) (defScope st) .none kV doc pm an cdv ct) ⟨us, []⟩ = pure (ps.zip us)) : Df K mg x st ps := by
  have F := L2.fun_mk (st := st) l c k
  exact ⟨f, _, F, PySem.W.mg_of X G a, F.binds hb⟩

/-! ### heaps -/
theorem same_new {H : Hp} {p : Addr} (h : H p = none) (o : HO) : Same H (upd H p o) := fun b u q => by rw [upd_ne (ne_of_none q h)]; exact q
theorem Same.sqt {K : PySem.W.Frag} {H H' : Hp} {a : Addr} {xs : List V} (e : Same H H') (h : SqT K H a xs) : SqT K H' a xs := by
  rcases h with (h | ⟨o, h⟩) | h
  · exact .inl (.inl (e _ _ h))
  · exact .inl (.inr ⟨o, e _ _ h⟩)
  · exact .inr h
mutual
theorem Dp.same {K : PySem.W.Frag} {H H' : Hp} (e : Same H H') : ∀ (d : PyData) (v : V), Dp K H v d → Dp K H' v d
  | .none, _, h => by cases h; exact .non
  | .bool b, _, h => by cases h; exact .bl b
  | .int i, _, h => by cases h; exact .int i
  | .str x, _, h => by cases h; exact .str x
  | .list ds, _, h => by
    cases h with
    | lst hs ha => exact .lst (e.seq hs) (DpAll.same e ds _ ha)
  | .tuple ds, _, h => by
    cases h with
    | tup hs ha => exact .tup (Same.sqt e hs) (DpAll.same e ds _ ha)
  | .dict _, _, h => by cases h
theorem DpAll.same {K : PySem.W.Frag} {H H' : Hp} (e : Same H H') : ∀ (ds : List PyData) (vs : List V), DpAll K H vs ds → DpAll K H' vs ds
  | [], _, h => by cases h; exact .nil
  | d :: ds, _, h => by
    cases h with
    | cons h1 h2 => exact .cons (Dp.same e d _ h1) (DpAll.same e ds _ h2)
end
/-- all that is tracked but the lists is as it was -/
def Keep (H H' : Hp) : Prop := ∀ b o, H b = some o → (∀ xs, o ≠ .lst xs) → H' b = some o
theorem Keep.refl (H : Hp) : Keep H H := fun _ _ h _ => h
theorem Keep.trans {H H1 H2 : Hp} (a : Keep H H1) (b : Keep H1 H2) : Keep H H2 := fun c o h n => b c o (a c o h n) n
theorem _root_.L2.Same.keep {H H' : Hp} (e : Same H H') : Keep H H' := fun c o h _ => e c o h
theorem keep_lst {H : Hp} {l : Addr} {xs ys : List V} (h : H l = some (.lst xs)) : Keep H (upd H l (.lst ys)) := fun b o q n => by
  by_cases e : b = l
  · subst e
    rw [h] at q
    cases q
    exact absurd rfl (n xs)
  · rw [upd_ne e]
    exact q
theorem Keep.sqt {K : PySem.W.Frag} {H H' : Hp} {a : Addr} {xs : List V} (e : Keep H H') (h : SqT K H a xs) : SqT K H' a xs := by
  rcases h with (h | ⟨o, h⟩) | h
  · exact .inl (.inl (e _ _ h fun _ z => by cases z))
  · exact .inl (.inr ⟨o, e _ _ h fun _ z => by cases z⟩)
  · exact .inr h
/-- a list that is locked, or stands in the written part -/
def Lk (K : PySem.W.Frag) (H : Hp) (a : Addr) (xs : List V) : Prop := (∃ o, H a = some (.frz o (.lst xs))) ∨
    ∃ (o : Obj) (its : Array Value) (n : Nat), K.lookup a = some o ∧ o.cls = .type "list" ∧ o.dict = none ∧ o.data = .seq its n ∧ its.size ≤ sizeLine ∧ Vals xs its.toList
mutual
def noLst : PyData → Bool
  | .list _ => false
  | .tuple ds => noLsts ds
  | .none | .bool _ | .int _ | .str _ => true
  | .dict _ => false
def noLsts : List PyData → Bool
  | [] => true
  | d :: ds => noLst d && noLsts ds
end
mutual
theorem Dp.keep {K : PySem.W.Frag} {H H' : Hp} (e : Keep H H') : ∀ (d : PyData) (v : V), noLst d = true → Dp K H v d → Dp K H' v d
  | .none, _, _, h => by cases h; exact .non
  | .bool b, _, _, h => by cases h; exact .bl b
  | .int i, _, _, h => by cases h; exact .int i
  | .str x, _, _, h => by cases h; exact .str x
  | .list ds, _, n, h => by simp [noLst] at n
  | .tuple ds, _, n, h => by
    cases h with
    | tup hs ha => exact .tup (Keep.sqt e hs) (DpAll.keep e ds _ (by simpa [noLst] using n) ha)
  | .dict _, _, _, h => by cases h
theorem DpAll.keep {K : PySem.W.Frag} {H H' : Hp} (e : Keep H H') : ∀ (ds : List PyData) (vs : List V), noLsts ds = true → DpAll K H vs ds → DpAll K H' vs ds
  | [], _, _, h => by cases h; exact .nil
  | d :: ds, _, n, h => by
    have n' : noLst d = true ∧ noLsts ds = true := by simpa [noLsts] using n
    cases h with
    | cons h1 h2 => exact .cons (Dp.keep e d _ n'.1 h1) (DpAll.keep e ds _ n'.2 h2)
end
end TC

namespace TC
open PySem PySem.Spec PyProof.Rows L2

/-! ### rules by data -/
def tyD : PyData → String
  | .none => "NoneType" | .bool _ => "bool" | .int _ => "int" | .str _ => "str" | .list _ => "list" | .tuple _ => "tuple" | .dict _ => "dict"
def isTp : PyData → Bool | .tuple _ => true | _ => false
def isIn : PyData → Bool | .int _ => true | .bool _ => true | _ => false
def isBo : PyData → Bool | .bool _ => true | _ => false
def isSt : PyData → Bool | .str _ => true | _ => false
theorem kb_tp (d : PyData) : kitB (tyD d) "tuple" = some (isTp d) := by cases d <;> (simp only [tyD, isTp]; decide +kernel)
theorem kb_in (d : PyData) : kitB (tyD d) "int" = some (isIn d) := by cases d <;> (simp only [tyD, isIn]; decide +kernel)
theorem kb_bo (d : PyData) : kitB (tyD d) "bool" = some (isBo d) := by cases d <;> (simp only [tyD, isBo]; decide +kernel)
theorem kb_st (d : PyData) : kitB (tyD d) "str" = some (isSt d) := by cases d <;> (simp only [tyD, isSt]; decide +kernel)
theorem tyx_of {K : PySem.W.Frag} {H : Hp} {v : V} {d : PyData} (h : Dp K H v d) : TyX K H v (.type (tyD d)) := by
  cases h with
  | non => exact .base .non
  | bl b => exact .base (.bl b)
  | int i => exact .base (.int i)
  | str x => exact .base (.str x)
  | lst hs _ =>
    rcases hs with (e | ⟨o, e⟩) | ⟨o, its, n, e, c, _⟩
    · exact .base (.lst e)
    · exact .base (.frz e)
    · exact .kList e c
  | tup hs _ =>
    rcases hs with (e | ⟨o, e⟩) | ⟨o, its, n, e, c, _⟩
    · exact .base (.tup e)
    · exact .fTuple e
    · exact .kTuple e c
def rIsD (K : PySem.W.Frag) : List V → Hp → VK → Prop := fun xs H Q => ∃ (x : V) (T : String) (d : PyData) (b : Bool), xs = [x, .ty T] ∧ Dp K H x d ∧ kitB (tyD d) T = some b ∧ Q (.bl b) H
section
variable {X : Cx}
theorem call_isD : CallR X (.builtin "isinstance") (rIsD X.K) := by
  intro pins s σ H xs us Q I r h
  obtain ⟨x, T, d, b, rfl, hd, hk, q⟩ := h
  exact call_isi pins s σ H _ us Q I r ⟨x, .ty T, _, _, b, rfl, .ty T, tyx_of hd, kit_ty hk, q⟩
def rInT (K : PySem.W.Frag) : R2 := fun x y H Q => ∃ d ds, Dp K H x d ∧ Dp K H y (.tuple ds) ∧ SeqAt.shaped d = true ∧ SeqAt.shaped (.tuple ds) = true ∧ Q (.bl (ds.any fun z => PyData.eqv z d)) H
theorem op_inT (hu : X.A.units + 65 < cLine) : OpR X (compareOp .In) (rInT X.K) := by
  intro pins s σ H x y v u Q I rx ry h
  obtain ⟨d, ds, hd, he, sd, se, q⟩ := h
  obtain ⟨as, r1⟩ := Dp.reads I d x v hd rx
  obtain ⟨bs, r2⟩ := Dp.reads I (.tuple ds) y u he ry
  exact SeqAt.in_tuple_reads r2 r1 (SeqAt.canLay_of_shaped se) (SeqAt.canLay_of_shaped sd) (room_in_shaped sd hu) ⟨.bl _, H, I, rfl, q⟩
def rNotInT (K : PySem.W.Frag) : R2 := fun x y H Q => ∃ d ds, Dp K H x d ∧ Dp K H y (.tuple ds) ∧ SeqAt.shaped d = true ∧ SeqAt.shaped (.tuple ds) = true ∧ Q (.bl (!ds.any fun z => PyData.eqv z d)) H
theorem op_notInT (hu : X.A.units + 65 < cLine) : OpR X (compareOp .NotIn) (rNotInT X.K) := by
  intro pins s σ H x y v u Q I rx ry h
  obtain ⟨d, ds, hd, he, sd, se, q⟩ := h
  obtain ⟨as, r1⟩ := Dp.reads I d x v hd rx
  obtain ⟨bs, r2⟩ := Dp.reads I (.tuple ds) y u he ry
  exact SeqAt.notIn_tuple_reads r2 r1 (SeqAt.canLay_of_shaped se) (SeqAt.canLay_of_shaped sd) (room_in_shaped sd hu) ⟨.bl _, H, I, rfl, q⟩
/-- 'l' * 40 -/
def fortyL : Str := ⟨(List.replicate 40 108).toArray⟩
theorem ell_eq : ("l" : Str) = ⟨#[108]⟩ := by decide +kernel
theorem op_mulL : OpR X (binaryOp .Mult) (fun x y H Q => x = .str "l" ∧ y = .int 40 ∧ Q (.str fortyL) H) := by
  intro pins s σ H x y v u Q I rx ry h
  obtain ⟨rfl, rfl, q⟩ := h
  obtain ⟨t, rfl⟩ := rx
  obtain ⟨t', rfl⟩ := ry
  refine PySem.P.mul_str (by decide +kernel) (fun _ _ => by decide +kernel) (fun _ _ => by decide +kernel) ?_
  have e : (if (40 : Int) < 1 then Made.str Str.empty else if ((40 : Int) == 1 || ("l" : Str).length == 0) = true then Made.val (.str "l" t) else Made.str ⟨(List.replicate (40 : Int).toNat ("l" : Str).cps).foldl (· ++ ·) #[]⟩) = Made.str fortyL := by
    rw [if_neg (by decide), if_neg (by decide +kernel)]
    exact congrArg Made.str (by decide +kernel)
  rw [e]
  exact ⟨by decide +kernel, ⟨.str fortyL, H, I.tok _, ⟨_, rfl⟩, q⟩⟩
end

/-! ### the built-in names -/
structure Txt (K : PySem.W.Frag) (mg : Str → Option Value) : Prop where
  b_isinstance : mg "isinstance" = none
  b_int : mg "int" = none
  b_bool : mg "bool" = none
  b_str : mg "str" = none
  b_tuple : mg "tuple" = none
  b_list : mg "list" = none
  b_set : mg "set" = none
  b_len : mg "len" = none
  b_min : mg "min" = none
  b_max : mg "max" = none
  b_sum : mg "sum" = none
  b_sorted : mg "sorted" = none
  b_range : mg "range" = none
  b_enumerate : mg "enumerate" = none
  b_ValueError : mg "ValueError" = none
end TC

namespace TC
open PySem

/-! ### part trees, count trees -/
inductive PT where
  | lf (i : Int)
  | nd (l r : PT)
  deriving DecidableEq
inductive CT where
  | lf (n : Int)
  | nd (n : Int) (l r : CT)
  deriving DecidableEq
namespace PT
def d : PT → PyData
  | lf i => .int i
  | nd l r => .tuple [l.d, r.d]
def dep : PT → Nat
  | lf _ => 0
  | nd l r => max l.dep r.dep + 1
def lv : PT → Nat
  | lf _ => 1
  | nd l r => l.lv + r.lv
def ok : PT → Prop
  | lf i => i = 0 ∨ i = 1
  | nd l r => l.ok ∧ r.ok
def mk (a b : PT) : PT := if a = lf 0 ∧ b = lf 0 then lf 0 else if a = lf 1 ∧ b = lf 1 then lf 1 else nd a b
def plain : PT → PT
  | lf i => lf i
  | nd l r => mk l.plain r.plain
def pl : PT → Prop
  | lf i => i = 0 ∨ i = 1
  | nd l r => l.pl ∧ r.pl ∧ ¬ (l = lf 0 ∧ r = lf 0) ∧ ¬ (l = lf 1 ∧ r = lf 1)
def «at» : PT → List Bool → Int
  | lf i, _ => i
  | nd l r, p => if p.headD false = true then r.at p.tail else l.at p.tail
theorem at_lf (i : Int) (p : List Bool) : (lf i).at p = i := by simp only [PT.at]
theorem at_nd (l r : PT) (p : List Bool) : (nd l r).at p = if p.headD false = true then r.at p.tail else l.at p.tail := by simp only [PT.at]
theorem at_l (l r : PT) (p : List Bool) : (nd l r).at (false :: p) = l.at p := by simp [at_nd]
theorem at_r (l r : PT) (p : List Bool) : (nd l r).at (true :: p) = r.at p := by simp [at_nd]
theorem mk_at (a b : PT) (p : List Bool) : (mk a b).at p = (nd a b).at p := by
  unfold mk
  split
  · rename_i h
    rw [h.1, h.2, at_nd, at_lf]
    split <;> simp [at_lf]
  · split
    · rename_i h
      rw [h.1, h.2, at_nd, at_lf]
      split <;> simp [at_lf]
    · rfl
theorem plain_at : ∀ (t : PT) (p : List Bool), t.plain.at p = t.at p
  | lf i, p => rfl
  | nd l r, p => by
    rw [plain, mk_at, at_nd, at_nd, plain_at l, plain_at r]
theorem mk_pl {a b : PT} (ha : a.pl) (hb : b.pl) : (mk a b).pl := by
  unfold mk
  split
  · exact .inl rfl
  · split
    · exact .inr rfl
    · exact ⟨ha, hb, by assumption, by assumption⟩
theorem plain_pl : ∀ {t : PT}, t.ok → t.plain.pl
  | lf _, h => h
  | nd _ _, h => mk_pl (plain_pl h.1) (plain_pl h.2)
theorem pl_plain : ∀ {t : PT}, t.pl → t.plain = t
  | lf _, _ => rfl
  | nd l r, h => by
    rw [plain, pl_plain h.1, pl_plain h.2.1, mk, if_neg h.2.2.1, if_neg h.2.2.2]
theorem pl_ok : ∀ {t : PT}, t.pl → t.ok
  | lf _, h => h
  | nd _ _, h => ⟨pl_ok h.1, pl_ok h.2.1⟩
theorem at_01 : ∀ {t : PT}, t.ok → ∀ p, t.at p = 0 ∨ t.at p = 1
  | lf _, h, _ => h
  | nd l r, h, p => by
    rw [at_nd]
    split
    · exact at_01 h.2 _
    · exact at_01 h.1 _
theorem const : ∀ {t : PT} {c : Int}, t.pl → (∀ p, t.at p = c) → t = lf c
  | lf i, c, _, h => by rw [show i = c from h []]
  | nd l r, c, hp, h => by
    have hl := const hp.1 (c := c) fun p => by have := h (false :: p); rwa [at_l] at this
    have hr := const hp.2.1 (c := c) fun p => by have := h (true :: p); rwa [at_r] at this
    have hc : c = 0 ∨ c = 1 := by have := hp.1; rw [hl] at this; exact this
    rcases hc with rfl | rfl
    · exact absurd ⟨hl, hr⟩ hp.2.2.1
    · exact absurd ⟨hl, hr⟩ hp.2.2.2
theorem ext : ∀ {t u : PT}, t.pl → u.pl → (∀ p, t.at p = u.at p) → t = u
  | t, lf j, ht, _, h => const ht h
  | lf i, nd l r, _, hu, h => (const hu fun p => (h p).symm).symm
  | nd l r, nd l' r', ht, hu, h => by
    rw [ext ht.1 hu.1 fun p => by have := h (false :: p); rwa [at_l, at_l] at this, ext ht.2.1 hu.2.1 fun p => by have := h (true :: p); rwa [at_r, at_r] at this]
theorem mk_dep (a b : PT) : (mk a b).dep ≤ max a.dep b.dep + 1 := by
  unfold mk
  split
  · exact Nat.zero_le _
  · split
    · exact Nat.zero_le _
    · exact Nat.le_refl _
theorem plain_dep : ∀ t : PT, t.plain.dep ≤ t.dep
  | lf _ => Nat.le_refl _
  | nd l r => by
    have h1 := mk_dep l.plain r.plain
    have h2 := plain_dep l
    have h3 := plain_dep r
    show (mk l.plain r.plain).dep ≤ max l.dep r.dep + 1
    omega
theorem lv_pos : ∀ t : PT, 1 ≤ t.lv
  | lf _ => Nat.le_refl _
  | nd l r => by
    have := lv_pos l
    show 1 ≤ l.lv + r.lv
    omega
theorem mk_lv (a b : PT) : (mk a b).lv ≤ a.lv + b.lv := by
  have h1 := lv_pos a
  unfold mk
  split
  · show 1 ≤ _; omega
  · split
    · show 1 ≤ _; omega
    · exact Nat.le_refl _
theorem plain_lv : ∀ t : PT, t.plain.lv ≤ t.lv
  | lf _ => Nat.le_refl _
  | nd l r => by
    have h1 := mk_lv l.plain r.plain
    have h2 := plain_lv l
    have h3 := plain_lv r
    show (mk l.plain r.plain).lv ≤ l.lv + r.lv
    omega
theorem lv_dep : ∀ t : PT, t.lv ≤ 2 ^ t.dep
  | lf _ => Nat.le_refl _
  | nd l r => by
    have h1 := lv_dep l
    have h2 := lv_dep r
    have h3 : 2 ^ l.dep ≤ 2 ^ max l.dep r.dep := Nat.pow_le_pow_right (by decide) (by omega)
    have h4 : 2 ^ r.dep ≤ 2 ^ max l.dep r.dep := Nat.pow_le_pow_right (by decide) (by omega)
    show l.lv + r.lv ≤ 2 ^ (max l.dep r.dep + 1)
    rw [Nat.pow_succ]
    omega
theorem depth_d : ∀ t : PT, t.d.depth = t.dep
  | lf _ => by simp only [d, PyData.depth, dep]
  | nd l r => by
    have h1 := depth_d l
    have h2 := depth_d r
    simp only [d, PyData.depth, PyData.depthAll, dep, h1, h2]
    omega
theorem lay_d : ∀ t : PT, t.d.canLay0 = true
  | lf _ => by simp only [d, PyData.canLay0]
  | nd l r => by simp only [d, PyData.canLay0, PyData.canLayAll0, lay_d l, lay_d r, Bool.and_self]
theorem sh {t : PT} (h : t.dep ≤ 64) : SeqAt.shaped t.d = true := by
  unfold SeqAt.shaped
  rw [lay_d, depth_d, Bool.true_and]
  exact decide_eq_true h
theorem eqv_d : ∀ t u : PT, PyData.eqv t.d u.d = decide (t = u)
  | lf i, lf j => by
    simp only [d, PyData.eqv, lf.injEq]
    exact Bool.beq_eq_decide_eq i j
  | lf i, nd _ _ => by simp [d, PyData.eqv]
  | nd _ _, lf j => by simp [d, PyData.eqv]
  | nd l r, nd l' r' => by
    simp only [d, PyData.eqv, PyData.eqvAll, eqv_d l l', eqv_d r r', nd.injEq, Bool.and_true]
    by_cases h1 : l = l' <;> by_cases h2 : r = r' <;> simp [h1, h2]
end PT
namespace CT
def d : CT → PyData
  | lf n => .int n
  | nd n l r => .tuple [.int n, l.d, r.d]
def dep : CT → Nat
  | lf _ => 0
  | nd _ l r => max l.dep r.dep + 1
def lv : CT → Nat
  | lf _ => 1
  | nd _ l r => l.lv + r.lv
def nn : CT → Prop
  | lf n => 0 ≤ n
  | nd n l r => 0 ≤ n ∧ l.nn ∧ r.nn
def front : CT → Int
  | lf n => n
  | nd n _ _ => n
def lift : CT → Int → CT
  | lf n, b => lf (n + b)
  | nd n l r, b => nd (n + b) l r
def least (a b : CT) : Int := min a.front b.front
def mk (n : Int) (a b : CT) : CT :=
  if a.lift (-(least a b)) = lf 0 ∧ b.lift (-(least a b)) = lf 0 then lf (n + least a b) else nd (n + least a b) (a.lift (-(least a b))) (b.lift (-(least a b)))
def plain : CT → CT
  | lf n => lf n
  | nd n l r => mk n l.plain r.plain
def pl : CT → Prop
  | lf n => 0 ≤ n
  | nd n l r => 0 ≤ n ∧ l.pl ∧ r.pl ∧ min l.front r.front = 0 ∧ ¬ (l = lf 0 ∧ r = lf 0)
def «at» : CT → List Bool → Int
  | lf n, _ => n
  | nd n l r, p => n + if p.headD false = true then r.at p.tail else l.at p.tail
theorem at_lf (n : Int) (p : List Bool) : (lf n).at p = n := by simp only [CT.at]
theorem at_nd (n : Int) (l r : CT) (p : List Bool) : (nd n l r).at p = n + if p.headD false = true then r.at p.tail else l.at p.tail := by simp only [CT.at]
theorem at_l (n : Int) (l r : CT) (p : List Bool) : (nd n l r).at (false :: p) = n + l.at p := by simp [at_nd]
theorem at_r (n : Int) (l r : CT) (p : List Bool) : (nd n l r).at (true :: p) = n + r.at p := by simp [at_nd]
theorem lift_at (t : CT) (b : Int) (p : List Bool) : (t.lift b).at p = t.at p + b := by
  cases t with
  | lf n => rfl
  | nd n l r => rw [lift, at_nd, at_nd]; omega
theorem lift_front (t : CT) (b : Int) : (t.lift b).front = t.front + b := by cases t <;> rfl
theorem lift_dep (t : CT) (b : Int) : (t.lift b).dep = t.dep := by cases t <;> rfl
theorem lift_lv (t : CT) (b : Int) : (t.lift b).lv = t.lv := by cases t <;> rfl
theorem lift_lift (t : CT) (a b : Int) : (t.lift a).lift b = t.lift (a + b) := by
  cases t <;> simp only [lift] <;> rw [Int.add_assoc]
theorem lift_zero (t : CT) : t.lift 0 = t := by cases t <;> simp [lift]
theorem lift_pl {t : CT} {b : Int} (h : t.pl) (hb : 0 ≤ t.front + b) : (t.lift b).pl := by
  cases t with
  | lf n => exact hb
  | nd n l r => exact ⟨hb, h.2⟩
theorem mk_at (n : Int) (a b : CT) (p : List Bool) : (mk n a b).at p = (nd n a b).at p := by
  unfold mk
  split
  · rename_i h
    have h1 := lift_at a (-(least a b)) p.tail
    have h2 := lift_at b (-(least a b)) p.tail
    rw [h.1, at_lf] at h1
    rw [h.2, at_lf] at h2
    rw [at_lf, at_nd]
    split <;> omega
  · rw [at_nd, at_nd, lift_at, lift_at]
    split <;> omega
theorem plain_at : ∀ (t : CT) (p : List Bool), t.plain.at p = t.at p
  | lf _, _ => rfl
  | nd n l r, p => by rw [plain, mk_at, at_nd, at_nd, plain_at l, plain_at r]
theorem pl_front {t : CT} (h : t.pl) : 0 ≤ t.front := by
  cases t with
  | lf n => exact h
  | nd n l r => exact h.1
theorem mk_pl {n : Int} {a b : CT} (hn : 0 ≤ n) (ha : a.pl) (hb : b.pl) : (mk n a b).pl := by
  have fa := pl_front ha
  have fb := pl_front hb
  have hl : 0 ≤ least a b := by unfold least; omega
  unfold mk
  split
  · show 0 ≤ n + least a b
    omega
  · refine ⟨by omega, lift_pl ha ?_, lift_pl hb ?_, ?_, by assumption⟩
    · unfold least; omega
    · unfold least; omega
    · rw [lift_front, lift_front]; unfold least; omega
theorem plain_pl : ∀ {t : CT}, t.nn → t.plain.pl
  | lf _, h => h
  | nd _ _ _, h => mk_pl h.1 (plain_pl h.2.1) (plain_pl h.2.2)
theorem pl_nn : ∀ {t : CT}, t.pl → t.nn
  | lf _, h => h
  | nd _ _ _, h => ⟨h.1, pl_nn h.2.1, pl_nn h.2.2.1⟩
theorem mk_zero {n : Int} {a b : CT} (h0 : min a.front b.front = 0) (h : ¬ (a = lf 0 ∧ b = lf 0)) : mk n a b = nd n a b := by
  have e : least a b = 0 := h0
  rw [mk, e, show (-(0 : Int)) = 0 from rfl, lift_zero, lift_zero, if_neg h, Int.add_zero]
theorem pl_plain : ∀ {t : CT}, t.pl → t.plain = t
  | lf _, _ => rfl
  | nd n l r, h => by rw [plain, pl_plain h.2.1, pl_plain h.2.2.1, mk_zero h.2.2.2.1 h.2.2.2.2]
theorem front_le : ∀ {t : CT}, t.pl → ∀ p, t.front ≤ t.at p
  | lf _, _, _ => Int.le_refl _
  | nd n l r, h, p => by
    have h1 := front_le h.2.1 p.tail
    have h2 := front_le h.2.2.1 p.tail
    have h3 := pl_front h.2.1
    have h4 := pl_front h.2.2.1
    rw [at_nd]
    show n ≤ _
    split <;> omega
theorem front_at : ∀ {t : CT}, t.pl → ∃ p, t.at p = t.front
  | lf _, _ => ⟨[], rfl⟩
  | nd n l r, h => by
    obtain ⟨p, hp⟩ := front_at h.2.1
    obtain ⟨q, hq⟩ := front_at h.2.2.1
    have h0 := h.2.2.2.1
    by_cases e : l.front = 0
    · exact ⟨false :: p, by rw [at_l, hp, e]; exact Int.add_zero n⟩
    · exact ⟨true :: q, by rw [at_r, hq]; show n + r.front = n; omega⟩
theorem const : ∀ {t : CT} {c : Int}, t.pl → (∀ p, t.at p = c) → t = lf c
  | lf i, c, _, h => by rw [show i = c from h []]
  | nd n l r, c, hp, h => by
    have hl := const hp.2.1 (c := c - n) fun p => by have := h (false :: p); rw [at_l] at this; omega
    have hr := const hp.2.2.1 (c := c - n) fun p => by have := h (true :: p); rw [at_r] at this; omega
    have h0 := hp.2.2.2.1
    rw [hl, hr] at h0
    have e : c - n = 0 := by
      have : min (c - n) (c - n) = 0 := h0
      omega
    rw [e] at hl hr
    exact absurd ⟨hl, hr⟩ hp.2.2.2.2
theorem ext : ∀ {t u : CT}, t.pl → u.pl → (∀ p, t.at p = u.at p) → t = u
  | t, lf j, ht, _, h => const ht h
  | lf i, nd n l r, _, hu, h => (const hu fun p => (h p).symm).symm
  | nd n l r, nd m l' r', ht, hu, h => by
    have e : n = m := by
      obtain ⟨p, hp⟩ := front_at ht
      obtain ⟨q, hq⟩ := front_at hu
      have h1 := front_le hu p
      have h2 := front_le ht q
      have h3 := h p
      have h4 := h q
      have e1 : (nd n l r).front = n := rfl
      have e2 : (nd m l' r').front = m := rfl
      omega
    subst e
    rw [ext ht.2.1 hu.2.1 fun p => by have := h (false :: p); rw [at_l, at_l] at this; omega, ext ht.2.2.1 hu.2.2.1 fun p => by have := h (true :: p); rw [at_r, at_r] at this; omega]
theorem mk_dep (n : Int) (a b : CT) : (mk n a b).dep ≤ max a.dep b.dep + 1 := by
  unfold mk
  split
  · exact Nat.zero_le _
  · show max (a.lift _).dep (b.lift _).dep + 1 ≤ _
    rw [lift_dep, lift_dep]
    exact Nat.le_refl _
theorem plain_dep : ∀ t : CT, t.plain.dep ≤ t.dep
  | lf _ => Nat.le_refl _
  | nd n l r => by
    have h1 := mk_dep n l.plain r.plain
    have h2 := plain_dep l
    have h3 := plain_dep r
    show (mk n l.plain r.plain).dep ≤ max l.dep r.dep + 1
    omega
theorem lv_pos : ∀ t : CT, 1 ≤ t.lv
  | lf _ => Nat.le_refl _
  | nd _ l r => by
    have := lv_pos l
    show 1 ≤ l.lv + r.lv
    omega
theorem mk_lv (n : Int) (a b : CT) : (mk n a b).lv ≤ a.lv + b.lv := by
  have h1 := lv_pos a
  unfold mk
  split
  · show 1 ≤ _; omega
  · show (a.lift _).lv + (b.lift _).lv ≤ _
    rw [lift_lv, lift_lv]
    exact Nat.le_refl _
theorem plain_lv : ∀ t : CT, t.plain.lv ≤ t.lv
  | lf _ => Nat.le_refl _
  | nd n l r => by
    have h1 := mk_lv n l.plain r.plain
    have h2 := plain_lv l
    have h3 := plain_lv r
    show (mk n l.plain r.plain).lv ≤ l.lv + r.lv
    omega
theorem depth_d : ∀ t : CT, t.d.depth = t.dep
  | lf _ => by simp only [d, PyData.depth, dep]
  | nd n l r => by
    have h1 := depth_d l
    have h2 := depth_d r
    simp only [d, PyData.depth, PyData.depthAll, dep, h1, h2]
    omega
theorem lay_d : ∀ t : CT, t.d.canLay0 = true
  | lf _ => by simp only [d, PyData.canLay0]
  | nd n l r => by simp only [d, PyData.canLay0, PyData.canLayAll0, lay_d l, lay_d r, Bool.and_self]
theorem sh {t : CT} (h : t.dep ≤ 64) : SeqAt.shaped t.d = true := by
  unfold SeqAt.shaped
  rw [lay_d, depth_d, Bool.true_and]
  exact decide_eq_true h
theorem eqv_d : ∀ t u : CT, PyData.eqv t.d u.d = decide (t = u)
  | lf i, lf j => by
    simp only [d, PyData.eqv, lf.injEq]
    exact Bool.beq_eq_decide_eq i j
  | lf i, nd _ _ _ => by simp [d, PyData.eqv]
  | nd _ _ _, lf j => by simp [d, PyData.eqv]
  | nd n l r, nd n' l' r' => by
    simp only [d, PyData.eqv, PyData.eqvAll, eqv_d l l', eqv_d r r', nd.injEq, Bool.and_true, Bool.beq_eq_decide_eq]
    by_cases h0 : n = n' <;> by_cases h1 : l = l' <;> by_cases h2 : r = r' <;> simp [h0, h1, h2]
theorem mk_law (n : Int) (a b : CT) : mk n a b = if a = lf (least a b) ∧ b = lf (least a b) then lf (n + least a b) else nd (n + least a b) (a.lift (-(least a b))) (b.lift (-(least a b))) := by
  have e : ∀ t : CT, ∀ m : Int, (t.lift (-m) = lf 0) ↔ t = lf m := by
    intro t m
    cases t with
    | lf k => simp only [lift, lf.injEq]; omega
    | nd k l r => simp [lift]
  unfold mk
  simp only [e]
end CT

/-! ### both kinds at once -/
inductive UT where
  | lf (i : Int)
  | nd (f : Option Int) (l r : UT)
namespace UT
def d : UT → PyData
  | lf i => .int i
  | nd none l r => .tuple [l.d, r.d]
  | nd (some n) l r => .tuple [.int n, l.d, r.d]
def dep : UT → Nat
  | lf _ => 0
  | nd _ l r => max l.dep r.dep + 1
def «at» : UT → List Bool → Int
  | lf n, _ => n
  | nd f l r, p => f.getD 0 + if p.headD false = true then r.at p.tail else l.at p.tail
def paths : UT → List (List Bool)
  | lf _ => [[]]
  | nd _ l r => l.paths.map (false :: ·) ++ r.paths.map (true :: ·)
def ld : UT → List Bool → Nat
  | lf _, _ => 0
  | nd _ l r, p => (if p.headD false = true then r.ld p.tail else l.ld p.tail) + 1
theorem at_nd (f : Option Int) (l r : UT) (p : List Bool) : (nd f l r).at p = f.getD 0 + if p.headD false = true then r.at p.tail else l.at p.tail := by simp only [UT.at]
theorem ld_nd (f : Option Int) (l r : UT) (p : List Bool) : (nd f l r).ld p = (if p.headD false = true then r.ld p.tail else l.ld p.tail) + 1 := by simp only [UT.ld]
end UT
/-- the first k turns of a way -/
def pt : List Bool → Nat → List Bool
  | _, 0 => []
  | p, k + 1 => p.headD false :: pt p.tail k
namespace UT
theorem at_pt : ∀ (t : UT) (p : List Bool) (k : Nat), t.ld p ≤ k → t.at (pt p k) = t.at p
  | lf _, _, _, _ => by simp only [UT.at]
  | nd f l r, p, 0, h => by rw [ld_nd] at h; omega
  | nd f l r, p, k + 1, h => by
    rw [ld_nd] at h
    rw [at_nd, at_nd, pt, List.headD_cons, List.tail_cons]
    by_cases e : p.headD false = true
    · rw [if_pos e] at h
      rw [if_pos e, if_pos e, at_pt r p.tail k (by omega)]
    · rw [if_neg e] at h
      rw [if_neg e, if_neg e, at_pt l p.tail k (by omega)]
theorem pt_mem : ∀ (t : UT) (p : List Bool), pt p (t.ld p) ∈ t.paths
  | lf _, _ => by simp [ld, pt, paths]
  | nd f l r, p => by
    rw [ld_nd, pt, paths, List.mem_append]
    by_cases e : p.headD false = true
    · rw [if_pos e, e]
      exact .inr (List.mem_map.mpr ⟨_, pt_mem r p.tail, rfl⟩)
    · have e' : p.headD false = false := by simpa using e
      rw [if_neg e, e']
      exact .inl (List.mem_map.mpr ⟨_, pt_mem l p.tail, rfl⟩)
theorem most : ∀ (ts : List UT) (p : List Bool), ts ≠ [] → ∃ t ∈ ts, ∀ u ∈ ts, u.ld p ≤ t.ld p
  | [], _, h => absurd rfl h
  | [t], _, _ => ⟨t, List.mem_cons_self, fun u hu => by rw [List.mem_singleton.mp hu]; exact Nat.le_refl _⟩
  | t :: t' :: ts, p, _ => by
    obtain ⟨m, hm, h⟩ := most (t' :: ts) p (List.cons_ne_nil _ _)
    by_cases c : m.ld p ≤ t.ld p
    · refine ⟨t, List.mem_cons_self, fun u hu => ?_⟩
      rcases List.mem_cons.mp hu with rfl | hu
      · exact Nat.le_refl _
      · exact Nat.le_trans (h u hu) c
    · refine ⟨m, List.mem_cons_of_mem _ hm, fun u hu => ?_⟩
      rcases List.mem_cons.mp hu with rfl | hu
      · omega
      · exact h u hu
/-- each place is met by a path of one of the trees, as to all of them -/
theorem cover {ts : List UT} (hn : ts ≠ []) (p : List Bool) : ∃ q, q ∈ ts.flatMap paths ∧ ∀ u ∈ ts, u.at q = u.at p := by
  obtain ⟨t, ht, h⟩ := most ts p hn
  exact ⟨pt p (t.ld p), List.mem_flatMap.mpr ⟨t, ht, pt_mem t p⟩, fun u hu => at_pt u p _ (h u hu)⟩
theorem paths_len : ∀ {t : UT} {p : List Bool}, p ∈ t.paths → p.length ≤ t.dep
  | lf _, p, h => by
    rw [paths, List.mem_singleton] at h
    rw [h]
    exact Nat.le_refl _
  | nd f l r, p, h => by
    rw [paths, List.mem_append] at h
    show p.length ≤ max l.dep r.dep + 1
    rcases h with h | h
    · obtain ⟨q, hq, rfl⟩ := List.mem_map.mp h
      have := paths_len hq
      simp only [List.length_cons]
      omega
    · obtain ⟨q, hq, rfl⟩ := List.mem_map.mp h
      have := paths_len hq
      simp only [List.length_cons]
      omega
end UT
def PT.u : PT → UT
  | .lf i => .lf i
  | .nd l r => .nd none l.u r.u
def CT.u : CT → UT
  | .lf i => .lf i
  | .nd n l r => .nd (some n) l.u r.u
theorem PT.u_d : ∀ t : PT, t.u.d = t.d
  | .lf _ => by simp only [PT.u, UT.d, PT.d]
  | .nd l r => by simp only [PT.u, UT.d, PT.d, PT.u_d l, PT.u_d r]
theorem CT.u_d : ∀ t : CT, t.u.d = t.d
  | .lf _ => by simp only [CT.u, UT.d, CT.d]
  | .nd n l r => by simp only [CT.u, UT.d, CT.d, CT.u_d l, CT.u_d r]
theorem PT.u_at : ∀ (t : PT) (p : List Bool), t.u.at p = t.at p
  | .lf _, _ => rfl
  | .nd l r, p => by
    rw [PT.u, UT.at_nd, PT.at_nd, PT.u_at l, PT.u_at r]
    simp
theorem CT.u_at : ∀ (t : CT) (p : List Bool), t.u.at p = t.at p
  | .lf _, _ => rfl
  | .nd n l r, p => by
    rw [CT.u, UT.at_nd, CT.at_nd, CT.u_at l, CT.u_at r]
    rfl
theorem PT.u_dep : ∀ t : PT, t.u.dep = t.dep
  | .lf _ => rfl
  | .nd l r => by simp only [PT.u, UT.dep, PT.dep, PT.u_dep l, PT.u_dep r]
theorem CT.u_dep : ∀ t : CT, t.u.dep = t.dep
  | .lf _ => rfl
  | .nd n l r => by simp only [CT.u, UT.dep, CT.dep, CT.u_dep l, CT.u_dep r]
theorem PT.u_lv : ∀ t : PT, t.u.paths.length = t.lv
  | .lf _ => rfl
  | .nd l r => by simp only [PT.u, UT.paths, PT.lv, List.length_append, List.length_map, PT.u_lv l, PT.u_lv r]
theorem CT.u_lv : ∀ t : CT, t.u.paths.length = t.lv
  | .lf _ => rfl
  | .nd n l r => by simp only [CT.u, UT.paths, CT.lv, List.length_append, List.length_map, CT.u_lv l, CT.u_lv r]
end TC

namespace TC
open PySem PySem.Spec PyProof.Rows L2
/-! ### small words for the readings -/
theorem iteE {c : Bool} {p A B : Prop} [Decidable p] (e : c = decide p) (h1 : p → A) (h2 : ¬ p → B) : if c = true then A else B := by
  subst e
  by_cases h : p
  · rw [decide_eq_true h]; exact iteT (h1 h)
  · rw [decide_eq_false h]; exact iteF (h2 h)
theorem iteN {c : Bool} {p A B : Prop} [Decidable p] (e : c = decide p) (h1 : ¬ p → A) (h2 : p → B) : if (!c) = true then A else B := by
  subst e
  by_cases h : p
  · rw [decide_eq_true h]; exact iteF (h2 h)
  · rw [decide_eq_false h]; exact iteT (h1 h)
theorem hu65 {A : Around} {k : Nat} (hr : Room k A) : A.units + 65 < cLine := by have := hr.un; omega
theorem two_le : 2 ≤ sizeLine := by decide
theorem three_le : 3 ≤ sizeLine := by decide
theorem one_le : 1 ≤ sizeLine := by decide
theorem zero_le : 0 ≤ sizeLine := by decide
section
variable {K : PySem.W.Frag} {H : Hp} {v : V}
theorem dp_int {i : Int} (h : Dp K H v (.int i)) : v = .int i := by cases h; rfl
theorem dp_tup {ds : List PyData} (h : Dp K H v (.tuple ds)) : ∃ a xs, v = .ref a ∧ SqT K H a xs ∧ DpAll K H xs ds := by
  cases h with
  | tup hs ha => exact ⟨_, _, rfl, hs, ha⟩
theorem dp_tup2 {d e : PyData} (h : Dp K H v (.tuple [d, e])) : ∃ a x y, v = .ref a ∧ SqT K H a [x, y] ∧ Dp K H x d ∧ Dp K H y e := by
  obtain ⟨a, xs, rfl, hs, ha⟩ := dp_tup h
  cases ha with
  | cons h1 ha =>
    cases ha with
    | cons h2 ha =>
      cases ha
      exact ⟨a, _, _, rfl, hs, h1, h2⟩
theorem dp_tup3 {d e f : PyData} (h : Dp K H v (.tuple [d, e, f])) : ∃ a x y z, v = .ref a ∧ SqT K H a [x, y, z] ∧ Dp K H x d ∧ Dp K H y e ∧ Dp K H z f := by
  obtain ⟨a, xs, rfl, hs, ha⟩ := dp_tup h
  cases ha with
  | cons h1 ha =>
    cases ha with
    | cons h2 ha =>
      cases ha with
      | cons h3 ha =>
        cases ha
        exact ⟨a, _, _, _, rfl, hs, h1, h2, h3⟩
theorem PT.nd_inv {l r : PT} (h : Dp K H v (PT.nd l r).d) : ∃ a x y, v = .ref a ∧ SqT K H a [x, y] ∧ Dp K H x l.d ∧ Dp K H y r.d := dp_tup2 h
theorem CT.nd_inv {n : Int} {l r : CT} (h : Dp K H v (CT.nd n l r).d) : ∃ a x y, v = .ref a ∧ SqT K H a [.int n, x, y] ∧ Dp K H x l.d ∧ Dp K H y r.d := by
  obtain ⟨a, z, x, y, rfl, hs, hz, hx, hy⟩ := dp_tup3 h
  obtain rfl := dp_int hz
  exact ⟨a, x, y, rfl, hs, hx, hy⟩
theorem dp_new2 {p : Addr} {x y : V} {d e : PyData} (hp : H p = none) (hx : Dp K H x d) (hy : Dp K H y e) : Dp K (upd H p (.tup [x, y])) (.ref p) (.tuple [d, e]) :=
  .tup (SqT.of upd_same) (.cons (Dp.same (same_new hp _) _ _ hx) (.cons (Dp.same (same_new hp _) _ _ hy) .nil))
theorem dp_new3 {p : Addr} {x y z : V} {d e f : PyData} (hp : H p = none) (hx : Dp K H x d) (hy : Dp K H y e) (hz : Dp K H z f) : Dp K (upd H p (.tup [x, y, z])) (.ref p) (.tuple [d, e, f]) :=
  .tup (SqT.of upd_same) (.cons (Dp.same (same_new hp _) _ _ hx) (.cons (Dp.same (same_new hp _) _ _ hy) (.cons (Dp.same (same_new hp _) _ _ hz) .nil)))
theorem PT.nd_new {p : Addr} {x y : V} {l r : PT} (hp : H p = none) (hx : Dp K H x l.d) (hy : Dp K H y r.d) : Dp K (upd H p (.tup [x, y])) (.ref p) (PT.nd l r).d := dp_new2 hp hx hy
theorem CT.nd_new {p : Addr} {n : Int} {x y : V} {l r : CT} (hp : H p = none) (hx : Dp K H x l.d) (hy : Dp K H y r.d) : Dp K (upd H p (.tup [.int n, x, y])) (.ref p) (CT.nd n l r).d := dp_new3 hp (.int n) hx hy
theorem PT.lf_dp (i : Int) : Dp K H (.int i) (PT.lf i).d := .int i
theorem CT.lf_dp (i : Int) : Dp K H (.int i) (CT.lf i).d := .int i
end
theorem PT.nd_eq {a b c e : PT} (h : PT.nd a b = PT.nd c e) : a = c ∧ b = e := by
  injection h with h1 h2
  exact ⟨h1, h2⟩
theorem PT.dep_nd (l r : PT) : (PT.nd l r).dep = max l.dep r.dep + 1 := rfl
theorem CT.dep_nd (n : Int) (l r : CT) : (CT.nd n l r).dep = max l.dep r.dep + 1 := rfl
theorem PT.mk_nd (l r : PT) : (PT.nd l r).plain = PT.mk l.plain r.plain := rfl
theorem CT.mk_nd (n : Int) (l r : CT) : (CT.nd n l r).plain = CT.mk n l.plain r.plain := rfl

/-! ### slices and sums of tuples, signs, lists built -/
section
variable {K : PySem.W.Frag} {H : Hp} {a b : Addr} {xs ys : List V}
theorem sla_go {lo hi : Option Int} {Q : VK} (hS : SqT K H a xs) (hl : xs.length ≤ sizeLine) (q : ∀ p H', Same H H' → SqT K H' p (cutV xs lo hi) → Q (.ref p) H') : rSlA K (.ref a) lo hi H Q := by
  refine ⟨a, xs, rfl, hS, fun hw => ?_, fun hw p hp => ?_⟩
  · refine q a H (Same.refl H) ?_
    have e : cutV xs lo hi = xs := by
      unfold cutV
      rw [hw.1, hw.2, List.drop_zero, Nat.sub_zero, List.take_length]
    rw [e]
    exact hS
  · exact q p _ (same_new hp _) (SqT.of upd_same)
theorem cata_go {Q : VK} (hS : SqT K H a xs) (hT : SqT K H b ys) (hl : xs.length + ys.length ≤ sizeLine) (q : ∀ p H', Same H H' → SqT K H' p (xs ++ ys) → Q (.ref p) H') : rCatA K (.ref a) (.ref b) H Q := by
  refine ⟨a, b, xs, ys, rfl, rfl, hS, hT, hl, fun e => ?_, fun _ e => ?_, fun _ _ p hp => ?_⟩
  · exact q b H (Same.refl H) (by rw [e]; exact hT)
  · exact q a H (Same.refl H) (by rw [e, List.append_nil]; exact hS)
  · exact q p _ (same_new hp _) (SqT.of upd_same)
theorem cut_to {xs : List V} {i : Nat} : cutV xs none (some (i : Int)) = xs.take i := by
  unfold cutV
  rw [HT.sIx_none, HT.sIx_nat, List.drop_zero, Nat.sub_zero]
  by_cases h : i ≤ xs.length
  · rw [Nat.min_eq_left h]
  · rw [Nat.min_eq_right (by omega), List.take_length, List.take_of_length_le (by omega)]
theorem cut_from {xs : List V} {i : Nat} : cutV xs (some (i : Int)) none = xs.drop i := by
  unfold cutV
  rw [HT.sIx_none, HT.sIx_nat]
  by_cases h : i ≤ xs.length
  · rw [Nat.min_eq_left h, List.take_of_length_le (by rw [List.length_drop]; omega)]
  · rw [Nat.min_eq_right (by omega), List.drop_length, List.drop_eq_nil_of_le (by omega), List.take_nil]
end
/-- over the signs of a text -/
theorem for_its {x : Str} {g : TG} {tb : TS} {D : Ends} {σ : L2.St} {H : Hp} (Pv : Nat → L2.St → Hp → Prop) (h0 : Pv 0 σ H)
    (hs : ∀ i c σ H, x.cps[i]? = some c → Pv i σ H → g (.str ⟨#[c]⟩) σ H fun σ2 H2 => tb { D with nx := Pv (i + 1), ct := Pv (i + 1), bk := D.nx } σ2 H2) (hd : ∀ σ H, Pv x.cps.size σ H → D.nx σ H) :
    ∃ W : Nat → Nat → L2.St → Hp → Prop, (∃ m, W 0 m σ H) ∧ ∀ i m σ H, W i m σ H →
      ((Its x).stop i H ∧ D.nx σ H) ∨ ((Its x).go i H ∧ ∃ N : L2.St → Hp → Prop, (∀ σ' H', N σ' H' → ∃ m', m' < m ∧ W (i + 1) m' σ' H') ∧ ∀ v H', (Its x).yld i H v H' → g v σ H' fun σ2 H2 => tb { D with nx := N, ct := N, bk := D.nx } σ2 H2) := by
  refine ⟨fun i m σ H => m = x.cps.size - i ∧ i ≤ x.cps.size ∧ Pv i σ H, ⟨x.cps.size, by simp, Nat.zero_le _, h0⟩, ?_⟩
  rintro i m σ H ⟨rfl, hi, p⟩
  by_cases hlt : i < x.cps.size
  · refine .inr ⟨hlt, Pv (i + 1), fun σ' H' p' => ⟨x.cps.size - (i + 1), by omega, rfl, hlt, p'⟩, fun v H' y => ?_⟩
    obtain ⟨rfl, c, hc, rfl⟩ := y
    exact hs i c σ _ hc p
  · have e : i = x.cps.size := by omega
    subst e
    exact .inl ⟨Nat.le_refl _, hd σ H p⟩
theorem same_put {H1 H : Hp} {D : Addr} (s : Same H1 H) (hD : H1 D = none) (o : HO) : Same H1 (upd H D o) := fun b u q => by
  rw [upd_ne (ne_of_none q hD)]
  exact s b u q
theorem take_more {α : Type} {xs : List α} {i : Nat} {x : α} (h : xs[i]? = some x) : xs.take (i + 1) = xs.take i ++ [x] := by
  rw [List.take_add_one, h]
  rfl
/-- ways as texts -/
def pstr (p : List Bool) : Str := ⟨(p.map fun b => if b = true then 114 else 108).toArray⟩
theorem pstr_nil : ("" : Str) = pstr [] := by decide +kernel
theorem ell_p : ("l" : Str) = pstr [false] := by decide +kernel
theorem arr_p : ("r" : Str) = pstr [true] := by decide +kernel
theorem pstr_app (p q : List Bool) : pstr p ++ pstr q = pstr (p ++ q) := by
  refine TL.ext_tl ?_
  rw [TL.tl_append]
  show (p.map _).toArray.toList ++ (q.map _).toArray.toList = ((p ++ q).map _).toArray.toList
  rw [List.map_append]
theorem pstr_len (p : List Bool) : (pstr p).length = p.length := by
  show (p.map _).toArray.size = p.length
  rw [List.size_toArray, List.length_map]
theorem forty_p : fortyL = pstr (List.replicate 40 false) := by decide +kernel
theorem pstr_get {p : List Bool} {i c : Nat} (h : (pstr p).cps[i]? = some c) : c = if (p.drop i).headD false = true then 114 else 108 := by
  have h' : (p.map fun b => if b = true then 114 else 108)[i]? = some c := by
    have e : (pstr p).cps[i]? = (p.map fun b => if b = true then 114 else 108)[i]? := by
      show ((p.map fun b => if b = true then 114 else 108).toArray)[i]? = _
      rw [List.getElem?_toArray]
    rw [← e]; exact h
  rw [List.getElem?_map] at h'
  cases e : p[i]? with
  | none => rw [e] at h'; cases h'
  | some b =>
    rw [e] at h'
    have hc : (if b = true then 114 else 108) = c := Option.some.inj h'
    have hd : (p.drop i).headD false = b := by
      rw [List.headD_eq_head?_getD, List.head?_drop, e]
      rfl
    rw [hd, hc]
theorem pstr_ok (p : List Bool) : PyData.strOk (pstr p) = true := by
  show (p.map _).toArray.all _ = true
  rw [← Array.all_toList, List.all_eq_true]
  intro x hx
  have hx' : x ∈ p.map fun b => if b = true then 114 else 108 := hx
  obtain ⟨b, _, rfl⟩ := List.mem_map.mp hx'
  cases b <;> decide
/-- lists of texts as data -/
theorem dpall_strs {K : PySem.W.Frag} {H : Hp} : ∀ ss : List Str, DpAll K H (ss.map V.str) (ss.map PyData.str)
  | [] => .nil
  | s :: ss => .cons (.str s) (dpall_strs ss)
theorem lay_strs : ∀ ss : List Str, (∀ s ∈ ss, PyData.strOk s = true) → PyData.canLayAll0 (ss.map PyData.str) = true
  | [], _ => by simp [PyData.canLayAll0]
  | s :: ss, h => by
    simp only [List.map_cons, PyData.canLayAll0, PyData.canLay0, h s List.mem_cons_self, lay_strs ss fun x hx => h x (List.mem_cons_of_mem _ hx), Bool.and_self]
theorem depth_strs : ∀ ss : List Str, PyData.depthAll (ss.map PyData.str) = 0
  | [] => by simp [PyData.depthAll]
  | s :: ss => by simp [PyData.depthAll, PyData.depth, depth_strs ss]
theorem sh_strs {ss : List Str} (h : ∀ s ∈ ss, PyData.strOk s = true) : SeqAt.shaped (.list (ss.map PyData.str)) = true := by
  unfold SeqAt.shaped
  simp only [PyData.canLay0, PyData.depth, depth_strs, lay_strs ss h, Bool.true_and]
  decide
theorem eqv_nil {α : Type} (f : α → PyData) (l : List α) : PyData.eqv (.list (l.map f)) (.list []) = decide (l = []) := by
  cases l <;> simp [PyData.eqv, PyData.eqvAll]
/-- a call of what an expression gives: a def by its address -/
structure CalAt (P : Program) (w : World) (K : PySem.W.Frag) (mg : Str → Option Value) (base : Heap) (k : Nat) (f : Addr) (sp : Sp) : Prop where
  ex : ∃ (fd : FuncData) (ps : List Str), FnOk P w K mg base CX0 k f fd ps sp ∧ PySem.W.keepIn K (.ref f) = true ∧ Binds K fd ps []
theorem Cal.at {P : Program} {w : World} {K : PySem.W.Frag} {mg : Str → Option Value} {base : Heap} {k : Nat} {x : Str} {sp : Sp} (c : Cal CX0 P w K mg base k x sp) : ∃ f, mg x = some (.ref f) ∧ CalAt P w K mg base k f sp := by
  obtain ⟨f, fd, ps, F, m, kp, b⟩ := c.ex
  exact ⟨f, m, fd, ps, F, kp, b⟩
def tCf (P : Program) (w : World) (K : PySem.W.Frag) (mg : Str → Option Value) (base : Heap) (j : Nat) (tf : TE) (t : TA) : TE := fun σ H Q => tf σ H fun x H1 => ∃ k f sp, x = .ref f ∧ CalAt P w K mg base k f sp ∧ k ≤ j ∧ t σ H1 fun vs H2 => sp vs H2 Q E0
section
variable {X : Cx} {j : Nat} {pos : Pos} {fe e : Expr} {es : List Expr} {tf : TE} {t : TA}
theorem pe_cf (hr : Room j X.A) (hf : PE X fe tf) (ha : PA X (e :: es) t)
    (hc : eval (.Call fe (e :: es) [] pos) X.env = (do callWith pos (← eval fe X.env) [] (backTo pos (starEach (e :: es) X.env)) (backToKw pos (keywordEach [] X.env))) := by rfl)
    (he : starEach (e :: es) X.env = (false, eval e X.env) :: starEach es X.env := by rfl) (hpl : (backTo pos (starEach es X.env)).any (·.1) = false := by rfl) : PE X (.Call fe (e :: es) [] pos) (tCf X.prog X.w X.K X.mg X.base j tf t) := by
  refine ⟨fun pins s σ H Q I h => ?_⟩
  refine Call_ (thn (hf.run pins s σ H _ I h) fun u s1 ⟨x, H1, I1, r1, k, f, sp, e1, c, hk, q1⟩ => ?_) hc
  subst e1
  cases r1
  obtain ⟨fd, ps, F, kp, b⟩ := c.ex
  refine PySem.W.callWith_K (h₀ := X.base) I1.ok.mod.kin kp (thn (ha.run pos pins s1 σ _ _ I1 q1) fun us s2 ⟨vs, H2, I2, r, q⟩ => ⟨I2.kIn, ?_⟩) he hpl
  exact run_fn F (hr.mono hk) b .nil pass0 I2 r (by rw [List.append_nil]; exact q)
end

/-! ### what is a plain tree, of any thing -/
def toPT : PyData → Option PT
  | .int i => some (.lf i)
  | .tuple [a, b] => match toPT a, toPT b with
    | some l, some r => some (.nd l r)
    | _, _ => none
  | _ => none
def toCT : PyData → Option CT
  | .int i => some (.lf i)
  | .tuple [.int n, a, b] => match toCT a, toCT b with
    | some l, some r => some (.nd n l r)
    | _, _ => none
  | _ => none
def PT.plB : PT → Bool
  | .lf i => decide (0 ≤ i ∧ i < 2)
  | .nd l r => l.plB && r.plB && !decide (l = .lf 0 ∧ r = .lf 0) && !decide (l = .lf 1 ∧ r = .lf 1)
def CT.plB : CT → Bool
  | .lf n => decide (0 ≤ n)
  | .nd n l r => decide (0 ≤ n) && l.plB && r.plB && decide (min l.front r.front = 0) && !decide (l = .lf 0 ∧ r = .lf 0)
def isPart (d : PyData) : Bool := match toPT d with | some t => t.plB | none => false
def isCount (d : PyData) : Bool := match toCT d with | some t => t.plB | none => false
def isClock : PyData → Bool
  | .tuple [a, b] => isPart a && isCount b
  | _ => false
theorem PT.plB_iff : ∀ t : PT, t.plB = true ↔ t.pl
  | .lf i => by
    show decide _ = true ↔ (i = 0 ∨ i = 1)
    rw [decide_eq_true_eq]
    omega
  | .nd l r => by
    simp only [PT.plB, Bool.and_eq_true, Bool.not_eq_true', decide_eq_false_iff_not, plB_iff l, plB_iff r, PT.pl, and_assoc]
theorem CT.plB_iff : ∀ t : CT, t.plB = true ↔ t.pl
  | .lf n => by
    show decide _ = true ↔ 0 ≤ n
    rw [decide_eq_true_eq]
  | .nd n l r => by
    simp only [CT.plB, Bool.and_eq_true, Bool.not_eq_true', decide_eq_false_iff_not, decide_eq_true_eq, plB_iff l, plB_iff r, CT.pl, and_assoc]
theorem toPT_d : ∀ t : PT, toPT t.d = some t
  | .lf i => by simp only [PT.d, toPT]
  | .nd l r => by simp only [PT.d, toPT, toPT_d l, toPT_d r]
theorem toCT_d : ∀ t : CT, toCT t.d = some t
  | .lf i => by simp only [CT.d, toCT]
  | .nd n l r => by simp only [CT.d, toCT, toCT_d l, toCT_d r]
theorem isPart_d (t : PT) : isPart t.d = t.plB := by unfold isPart; rw [toPT_d]
theorem isCount_d (t : CT) : isCount t.d = t.plB := by unfold isCount; rw [toCT_d]
theorem of_toPT (n : Nat) : ∀ (d : PyData) (t : PT), sizeOf d ≤ n → toPT d = some t → d = t.d := by
  induction n with
  | zero => intro d t h; cases d <;> simp at h
  | succ n ih =>
    intro d t hn h
    cases d with
    | int i =>
      simp only [toPT, Option.some.injEq] at h
      subst h
      rfl
    | tuple ds =>
      match ds, hn, h with
      | [a, b], hn, h =>
        simp only [toPT] at h
        simp at hn
        cases ea : toPT a with
        | none => rw [ea] at h; simp at h
        | some l =>
          cases eb : toPT b with
          | none => rw [ea, eb] at h; simp at h
          | some r =>
            rw [ea, eb] at h
            simp at h
            subst h
            rw [ih a l (by omega) ea, ih b r (by omega) eb]
            rfl
      | [], _, h => simp [toPT] at h
      | [_], _, h => simp [toPT] at h
      | _ :: _ :: _ :: _, _, h => simp [toPT] at h
    | none => simp [toPT] at h
    | bool b => simp [toPT] at h
    | str x => simp [toPT] at h
    | list ds => simp [toPT] at h
    | dict kv => simp [toPT] at h
theorem of_toCT (n : Nat) : ∀ (d : PyData) (t : CT), sizeOf d ≤ n → toCT d = some t → d = t.d := by
  induction n with
  | zero => intro d t h; cases d <;> simp at h
  | succ n ih =>
    intro d t hn h
    cases d with
    | int i =>
      simp only [toCT, Option.some.injEq] at h
      subst h
      rfl
    | tuple ds =>
      match ds, hn, h with
      | [.int m, a, b], hn, h =>
        simp only [toCT] at h
        simp at hn
        cases ea : toCT a with
        | none => rw [ea] at h; simp at h
        | some l =>
          cases eb : toCT b with
          | none => rw [ea, eb] at h; simp at h
          | some r =>
            rw [ea, eb] at h
            simp at h
            subst h
            rw [ih a l (by omega) ea, ih b r (by omega) eb]
            rfl
      | [], _, h => simp [toCT] at h
      | [_], _, h => simp [toCT] at h
      | [_, _], _, h => simp [toCT] at h
      | [.none, _, _], _, h => simp [toCT] at h
      | [.bool _, _, _], _, h => simp [toCT] at h
      | [.str _, _, _], _, h => simp [toCT] at h
      | [.list _, _, _], _, h => simp [toCT] at h
      | [.tuple _, _, _], _, h => simp [toCT] at h
      | [.dict _, _, _], _, h => simp [toCT] at h
      | _ :: _ :: _ :: _ :: _, _, h => simp [toCT] at h
    | none => simp [toCT] at h
    | bool b => simp [toCT] at h
    | str x => simp [toCT] at h
    | list ds => simp [toCT] at h
    | dict kv => simp [toCT] at h
theorem isPart_true {d : PyData} (h : isPart d = true) : ∃ t : PT, d = t.d ∧ t.pl := by
  unfold isPart at h
  cases e : toPT d with
  | none => rw [e] at h; cases h
  | some t =>
    rw [e] at h
    exact ⟨t, of_toPT _ d t (Nat.le_refl _) e, (PT.plB_iff t).mp h⟩
theorem isCount_true {d : PyData} (h : isCount d = true) : ∃ t : CT, d = t.d ∧ t.pl := by
  unfold isCount at h
  cases e : toCT d with
  | none => rw [e] at h; cases h
  | some t =>
    rw [e] at h
    exact ⟨t, of_toCT _ d t (Nat.le_refl _) e, (CT.plB_iff t).mp h⟩
theorem isPart_int (i : Int) : isPart (.int i) = decide (0 ≤ i ∧ i < 2) := by simp only [isPart, toPT, PT.plB]
theorem isCount_int (i : Int) : isCount (.int i) = decide (0 ≤ i) := by simp only [isCount, toCT, CT.plB]
theorem isPart_F1 {a b : PyData} (h : isPart a = false) : isPart (.tuple [a, b]) = false := by
  rw [Bool.eq_false_iff]
  intro z
  obtain ⟨t, e, p⟩ := isPart_true z
  cases t with
  | lf i => cases e
  | nd l r =>
    simp only [PT.d, PyData.tuple.injEq, List.cons.injEq, and_true] at e
    rw [e.1, isPart_d, (PT.plB_iff l).mpr p.1] at h
    cases h
theorem isPart_F2 {a b : PyData} (h : isPart b = false) : isPart (.tuple [a, b]) = false := by
  rw [Bool.eq_false_iff]
  intro z
  obtain ⟨t, e, p⟩ := isPart_true z
  cases t with
  | lf i => cases e
  | nd l r =>
    simp only [PT.d, PyData.tuple.injEq, List.cons.injEq, and_true] at e
    rw [e.2, isPart_d, (PT.plB_iff r).mpr p.2.1] at h
    cases h
theorem isPart_len {ds : List PyData} (h : ds.length ≠ 2) : isPart (.tuple ds) = false := by
  rw [Bool.eq_false_iff]
  intro z
  obtain ⟨t, e, p⟩ := isPart_true z
  cases t with
  | lf i => cases e
  | nd l r =>
    simp only [PT.d, PyData.tuple.injEq] at e
    rw [e] at h
    exact h rfl
theorem isCount_F0 {a b c : PyData} (h : ∀ n : Int, 0 ≤ n → a ≠ .int n) : isCount (.tuple [a, b, c]) = false := by
  rw [Bool.eq_false_iff]
  intro z
  obtain ⟨t, e, p⟩ := isCount_true z
  cases t with
  | lf i => cases e
  | nd n l r =>
    simp only [CT.d, PyData.tuple.injEq, List.cons.injEq, and_true] at e
    exact h n p.1 e.1
theorem isCount_F1 {a b c : PyData} (h : isCount b = false) : isCount (.tuple [a, b, c]) = false := by
  rw [Bool.eq_false_iff]
  intro z
  obtain ⟨t, e, p⟩ := isCount_true z
  cases t with
  | lf i => cases e
  | nd n l r =>
    simp only [CT.d, PyData.tuple.injEq, List.cons.injEq, and_true] at e
    rw [e.2.1, isCount_d, (CT.plB_iff l).mpr p.2.1] at h
    cases h
theorem isCount_F2 {a b c : PyData} (h : isCount c = false) : isCount (.tuple [a, b, c]) = false := by
  rw [Bool.eq_false_iff]
  intro z
  obtain ⟨t, e, p⟩ := isCount_true z
  cases t with
  | lf i => cases e
  | nd n l r =>
    simp only [CT.d, PyData.tuple.injEq, List.cons.injEq, and_true] at e
    rw [e.2.2, isCount_d, (CT.plB_iff r).mpr p.2.2.1] at h
    cases h
theorem isCount_len {ds : List PyData} (h : ds.length ≠ 3) : isCount (.tuple ds) = false := by
  rw [Bool.eq_false_iff]
  intro z
  obtain ⟨t, e, p⟩ := isCount_true z
  cases t with
  | lf i => cases e
  | nd n l r =>
    simp only [CT.d, PyData.tuple.injEq] at e
    rw [e] at h
    exact h rfl
/-- of a pair of plain trees -/
theorem isPart_nd {l r : PT} (hl : l.pl) (hr : r.pl) : isPart (PT.nd l r).d = decide (PT.mk l r = .nd l r) := by
  rw [isPart_d, Bool.eq_iff_iff, PT.plB_iff, decide_eq_true_eq]
  constructor
  · intro h
    have := PT.pl_plain h
    rw [PT.plain, PT.pl_plain hl, PT.pl_plain hr] at this
    exact this
  · intro h
    rw [← h]
    exact PT.mk_pl hl hr
theorem isCount_nd {n : Int} {l r : CT} (hn : 0 ≤ n) (hl : l.pl) (hr : r.pl) : isCount (CT.nd n l r).d = decide (CT.mk n l r = .nd n l r) := by
  rw [isCount_d, Bool.eq_iff_iff, CT.plB_iff, decide_eq_true_eq]
  constructor
  · intro h
    have := CT.pl_plain h
    rw [CT.plain, CT.pl_plain hl, CT.pl_plain hr] at this
    exact this
  · intro h
    rw [← h]
    exact CT.mk_pl hn hl hr
def isWh : PyData → Bool
  | .int i => decide (0 ≤ i)
  | _ => false
theorem isPart_wh {d : PyData} (h : isWh d = false) (ht : isTp d = false) : isPart d = false := by
  cases d with
  | int i =>
    rw [isPart_int]
    have h' : ¬ (0 ≤ i) := of_decide_eq_false h
    exact decide_eq_false fun z => h' z.1
  | tuple _ => cases ht
  | _ => simp only [isPart, toPT]
theorem isCount_wh {d : PyData} (h : isWh d = false) (ht : isTp d = false) : isCount d = false := by
  cases d with
  | int i =>
    rw [isCount_int]
    exact h
  | tuple _ => cases ht
  | _ => simp only [isCount, toCT]
theorem PT.mk_law (a b : PT) : PT.mk a b = if a = b ∧ (a = .lf 0 ∨ a = .lf 1) then a else .nd a b := by
  unfold PT.mk
  by_cases h0 : a = .lf 0 ∧ b = .lf 0
  · rw [if_pos h0, if_pos ⟨h0.1.trans h0.2.symm, .inl h0.1⟩, h0.1]
  · rw [if_neg h0]
    by_cases h1 : a = .lf 1 ∧ b = .lf 1
    · rw [if_pos h1, if_pos ⟨h1.1.trans h1.2.symm, .inr h1.1⟩, h1.1]
    · rw [if_neg h1, if_neg]
      rintro ⟨e, z | z⟩
      · exact h0 ⟨z, e ▸ z⟩
      · exact h1 ⟨z, e ▸ z⟩
theorem PT.any01 (a : PT) : ([PyData.int 0, .int 1].any fun z => PyData.eqv z a.d) = decide (a = .lf 0 ∨ a = .lf 1) := by
  have h0 : PyData.eqv (.int 0) a.d = decide (PT.lf 0 = a) := PT.eqv_d (.lf 0) a
  have h1 : PyData.eqv (.int 1) a.d = decide (PT.lf 1 = a) := PT.eqv_d (.lf 1) a
  simp only [List.any_cons, List.any_nil, h0, h1, Bool.or_false]
  by_cases c0 : a = .lf 0 <;> by_cases c1 : a = .lf 1 <;> simp [c0, c1, eq_comm]
theorem if_min (i j : Int) : (if j < i then j else i) = min i j := by
  rw [Int.min_def]
  split <;> split <;> omega
theorem if_max (i j : Int) : (if j > i then j else i) = max i j := by
  rw [Int.max_def]
  split <;> split <;> omega
/-- all numbers of a count tree are below b -/
def CT.bd (b : Int) : CT → Prop
  | .lf n => n < b
  | .nd n l r => n < b ∧ l.bd b ∧ r.bd b
theorem atI_ints {ns : List Int} {k : Int} (h0 : 0 ≤ k) (h : k < (ns.length : Int)) : ∃ v : Int, atI (ns.map V.int) k = some (.int v) := by
  have hk : k.toNat < ns.length := by omega
  have ek : k = ((k.toNat : Nat) : Int) := by omega
  refine ⟨ns[k.toNat], ?_⟩
  have q : atI (ns.map V.int) ((k.toNat : Nat) : Int) = some (.int ns[k.toNat]) := atI_nat (by rw [List.getElem?_map, List.getElem?_eq_getElem hk] <;> rfl)
  rw [← ek] at q
  exact q
theorem len_two {α : Type} {l : List α} (h : l.length = 2) : ∃ a b, l = [a, b] := by
  match l, h with
  | [a, b], _ => exact ⟨a, b, rfl⟩
theorem len_three {α : Type} {l : List α} (h : l.length = 3) : ∃ a b c, l = [a, b, c] := by
  match l, h with
  | [a, b, c], _ => exact ⟨a, b, c, rfl⟩
theorem dpall_len {K : PySem.W.Frag} {H : Hp} : ∀ {vs : List V} {ds : List PyData}, DpAll K H vs ds → vs.length = ds.length
  | _, _, .nil => rfl
  | _, _, .cons _ h => by rw [List.length_cons, List.length_cons, dpall_len h]
theorem dec_lenne {n m : Nat} : (!decide (V.int (n : Int) = V.int (m : Int))) = decide (n ≠ m) := by
  by_cases h : n = m
  · subst h; simp
  · have z : ¬ V.int (n : Int) = V.int (m : Int) := fun z => h (by injection z with z; omega)
    rw [decide_eq_false z, decide_eq_true h]
    rfl
theorem dec_ne2 {n : Nat} : (!decide (V.int (n : Int) = V.int 2)) = decide (n ≠ 2) := dec_lenne (m := 2)
theorem dec_ne3 {n : Nat} : (!decide (V.int (n : Int) = V.int 3)) = decide (n ≠ 3) := dec_lenne (m := 3)
def pvs (ps : List (List Bool)) : List V := ps.map fun p => V.str (pstr p)
theorem pvs_length (ps : List (List Bool)) : (pvs ps).length = ps.length := List.length_map _
theorem pvs_app (ps qs : List (List Bool)) : pvs (ps ++ qs) = pvs ps ++ pvs qs := List.map_append
theorem pvs_get {ps : List (List Bool)} {i : Nat} {x : V} (h : (pvs ps)[i]? = some x) : ∃ p, ps[i]? = some p ∧ x = .str (pstr p) := by
  unfold pvs at h
  rw [List.getElem?_map] at h
  cases e : ps[i]? with
  | none => rw [e] at h; cases h
  | some p =>
    rw [e] at h
    exact ⟨p, rfl, (Option.some.inj h).symm⟩
theorem pvs_len {ps : List (List Bool)} {i : Nat} {p : List Bool} (h : ps[i]? = some p) : i < ps.length := (List.getElem?_eq_some_iff.mp h).1
theorem UT.kb_nd (g : Option Int) (l r : UT) : kitB (tyD (UT.nd g l r).d) "tuple" = some true := by
  cases g <;> exact kb_tp _
theorem UT.nd_inv {K : PySem.W.Frag} {H : Hp} {v : V} {g : Option Int} {l r : UT} (h : Dp K H v (UT.nd g l r).d) : ∃ a xs x y, v = .ref a ∧ SqT K H a xs ∧ xs.length ≤ 3 ∧ (2 ≤ xs.length) ∧ cutV xs (some (-2)) none = [x, y] ∧ Dp K H x l.d ∧ Dp K H y r.d := by
  cases g with
  | none =>
    obtain ⟨a, x, y, rfl, hs, hx, hy⟩ := dp_tup2 h
    exact ⟨a, _, x, y, rfl, hs, (by simp), (by simp), rfl, hx, hy⟩
  | some n =>
    obtain ⟨a, z, x, y, rfl, hs, hz, hx, hy⟩ := dp_tup3 h
    exact ⟨a, _, x, y, rfl, hs, (by simp), (by simp), rfl, hx, hy⟩
theorem UT.at_pad : ∀ (t : UT) (p : List Bool) (k : Nat), t.at (p ++ List.replicate k false) = t.at p
  | .lf _, _, _ => by simp only [UT.at]
  | .nd g l r, p, k => by
    rw [UT.at_nd, UT.at_nd]
    cases p with
    | nil =>
      cases k with
      | zero => rfl
      | succ k =>
        rw [List.nil_append, List.replicate_succ, List.headD_cons, List.tail_cons, List.headD_nil, List.tail_nil]
        have e := UT.at_pad l [] k
        rw [List.nil_append] at e
        rw [e]
        simp
    | cons b p =>
      rw [List.cons_append, List.headD_cons, List.tail_cons, List.headD_cons, List.tail_cons, UT.at_pad l, UT.at_pad r]
theorem iteNT {c : Bool} {A B : Prop} (e : c = true) (h : B) : if (!c) = true then A else B := by rw [e]; exact iteF h
theorem iteNF {c : Bool} {A B : Prop} (e : c = false) (h : A) : if (!c) = true then A else B := by rw [e]; exact iteT h
theorem iteTe {c : Bool} {A B : Prop} (e : c = true) (h : A) : if c = true then A else B := by rw [e]; exact iteT h
theorem iteFe {c : Bool} {A B : Prop} (e : c = false) (h : B) : if c = true then A else B := by rw [e]; exact iteF h
theorem pe_gd {X : Cx} {x : Str} {f : Addr} {pos : Pos} (hg : Gl X x) (hm : X.mg x = some (.ref f)) (hd : (x == ("__debug__" : Str)) = false := by decide) : PE X (.Name x pos) (tC (.ref f)) := pe_glob (v := .ref f) hg hm rfl hd

/-! ### parts apart, both, halves -/
namespace PT
def apart : PT → PT → Bool
  | lf i, u => decide (i = 0 ∨ u = lf 0)
  | nd _ _, lf j => decide (j = 0)
  | nd l r, nd l' r' => l.apart l' && r.apart r'
def both : PT → PT → PT
  | lf i, u => if i = 0 then u else lf i
  | nd l r, lf _ => nd l r
  | nd l r, nd l' r' => nd (l.both l') (r.both r')
def hv : PT → PT × PT
  | lf i => if i = 0 then (lf 0, lf 0) else (nd (lf 1) (lf 0), nd (lf 0) (lf 1))
  | nd l r => if l = lf 0 then (nd (lf 0) r.hv.1, nd (lf 0) r.hv.2) else if r = lf 0 then (nd l.hv.1 (lf 0), nd l.hv.2 (lf 0)) else (nd l (lf 0), nd (lf 0) r)
theorem apart_0 (u : PT) : (lf 0).apart u = true := by simp [apart]
theorem apart_1 {u : PT} (h : u ≠ lf 0) : (lf 1).apart u = false := by simp [apart, h]
theorem apart_r0 : ∀ t : PT, t.apart (lf 0) = true
  | lf _ => by simp [apart]
  | nd _ _ => by simp [apart]
theorem apart_r1 : ∀ {t : PT}, t ≠ lf 0 → t.apart (lf 1) = false
  | lf i, h => by
    have h' : i ≠ 0 := fun z => h (by rw [z])
    simp [apart, h']
  | nd _ _, _ => by simp [apart]
theorem apart_iff : ∀ {t u : PT}, t.pl → u.pl → (t.apart u = true ↔ ∀ p, t.at p + u.at p ≤ 1)
  | lf i, u, ht, hu => by
    rcases ht with rfl | rfl
    · refine ⟨fun _ p => ?_, fun _ => apart_0 u⟩
      have := at_01 (pl_ok hu) p
      rw [at_lf]
      omega
    · constructor
      · intro h p
        have e : u = lf 0 := by
          by_cases e : u = lf 0
          · exact e
          · rw [apart_1 e] at h; cases h
        rw [e, at_lf, at_lf]
        decide
      · intro h
        have e : u = lf 0 := const hu fun p => by
          have h1 := h p
          have h2 := at_01 (pl_ok hu) p
          rw [at_lf] at h1
          omega
        rw [e]
        exact apart_r0 _
  | nd l r, lf j, ht, hu => by
    rcases hu with rfl | rfl
    · refine ⟨fun _ p => ?_, fun _ => apart_r0 _⟩
      have := at_01 (pl_ok ht) p
      rw [at_lf]
      omega
    · constructor
      · intro h
        rw [apart_r1 (by intro z; cases z)] at h
        cases h
      · intro h
        have e : nd l r = lf 0 := const ht fun p => by
          have h1 := h p
          have h2 := at_01 (pl_ok ht) p
          rw [at_lf] at h1
          omega
        cases e
  | nd l r, nd l' r', ht, hu => by
    rw [apart, Bool.and_eq_true, apart_iff ht.1 hu.1, apart_iff ht.2.1 hu.2.1]
    constructor
    · intro h p
      rw [at_nd, at_nd]
      by_cases e : p.headD false = true
      · rw [if_pos e, if_pos e]; exact h.2 _
      · rw [if_neg e, if_neg e]; exact h.1 _
    · intro h
      exact ⟨fun p => by have := h (false :: p); rwa [at_l, at_l] at this, fun p => by have := h (true :: p); rwa [at_r, at_r] at this⟩
theorem both_at : ∀ {t u : PT}, t.apart u = true → ∀ p, (t.both u).at p = t.at p + u.at p
  | lf i, u, h, p => by
    simp only [apart, decide_eq_true_eq] at h
    unfold both
    by_cases e : i = 0
    · rw [if_pos e, e, at_lf]; omega
    · rw [if_neg e]
      rcases h with h | h
      · exact absurd h e
      · rw [h, at_lf, at_lf]; omega
  | nd l r, lf j, h, p => by
    simp only [apart, decide_eq_true_eq] at h
    rw [both, h, at_lf]; omega
  | nd l r, nd l' r', h, p => by
    rw [apart, Bool.and_eq_true] at h
    rw [both, at_nd, at_nd, at_nd, both_at h.1, both_at h.2]
    by_cases e : p.headD false = true
    · rw [if_pos e, if_pos e, if_pos e]
    · rw [if_neg e, if_neg e, if_neg e]
theorem both_ok : ∀ {t u : PT}, t.ok → u.ok → (t.both u).ok
  | lf i, u, ht, hu => by
    unfold both
    split
    · exact hu
    · exact ht
  | nd l r, lf j, ht, _ => ht
  | nd l r, nd l' r', ht, hu => ⟨both_ok ht.1 hu.1, both_ok ht.2 hu.2⟩
theorem both_dep : ∀ t u : PT, (t.both u).dep ≤ max t.dep u.dep
  | lf i, u => by
    unfold both
    split
    · omega
    · exact Nat.zero_le _
  | nd l r, lf j => by rw [both]; omega
  | nd l r, nd l' r' => by
    have h1 := both_dep l l'
    have h2 := both_dep r r'
    show max (l.both l').dep (r.both r').dep + 1 ≤ max (max l.dep r.dep + 1) (max l'.dep r'.dep + 1)
    omega
theorem both_lv : ∀ t u : PT, (t.both u).lv ≤ t.lv + u.lv
  | lf i, u => by
    unfold both
    split
    · show u.lv ≤ 1 + u.lv; omega
    · show 1 ≤ 1 + u.lv; omega
  | nd l r, lf j => by rw [both]; omega
  | nd l r, nd l' r' => by
    have h1 := both_lv l l'
    have h2 := both_lv r r'
    show (l.both l').lv + (r.both r').lv ≤ (l.lv + r.lv) + (l'.lv + r'.lv)
    omega
theorem hv_at : ∀ {t : PT}, t.ok → ∀ p, t.hv.1.at p + t.hv.2.at p = t.at p
  | lf i, h, p => by
    rcases h with rfl | rfl
    · simp [hv, at_lf]
    · rw [hv, if_neg (by decide)]
      dsimp only
      rw [at_nd, at_nd, at_lf, at_lf, at_lf]
      split <;> decide
  | nd l r, h, p => by
    rw [hv]
    by_cases e : l = lf 0
    · rw [if_pos e, at_nd, at_nd, at_nd, e]
      split
      · exact hv_at h.2 _
      · rw [at_lf]; decide
    · rw [if_neg e]
      by_cases e2 : r = lf 0
      · rw [if_pos e2, at_nd, at_nd, at_nd, e2]
        split
        · rw [at_lf]; decide
        · exact hv_at h.1 _
      · rw [if_neg e2, at_nd, at_nd, at_nd]
        split
        · rw [at_lf]; omega
        · rw [at_lf]; omega
theorem hv_ne : ∀ {t : PT}, t ≠ lf 0 → t.hv.1 ≠ lf 0 ∧ t.hv.2 ≠ lf 0
  | lf i, h => by
    have h' : i ≠ 0 := fun z => h (by rw [z])
    rw [hv, if_neg h']
    exact ⟨(fun z => by cases z), (fun z => by cases z)⟩
  | nd l r, _ => by
    rw [hv]
    split
    · exact ⟨(fun z => by cases z), (fun z => by cases z)⟩
    · split
      · exact ⟨(fun z => by cases z), (fun z => by cases z)⟩
      · exact ⟨(fun z => by cases z), (fun z => by cases z)⟩
theorem lf01 : ¬ (lf 0 = lf 1) := by intro z; injection z with z; exact absurd z (by decide)
theorem lf10 : ¬ (lf 1 = lf 0) := by intro z; injection z with z; exact absurd z (by decide)
theorem hv_pl : ∀ {t : PT}, t.pl → t.hv.1.pl ∧ t.hv.2.pl
  | lf i, h => by
    rw [hv]
    split
    · exact ⟨.inl rfl, .inl rfl⟩
    · exact ⟨⟨.inr rfl, .inl rfl, fun z => lf10 z.1, fun z => lf01 z.2⟩, ⟨.inl rfl, .inr rfl, fun z => lf10 z.2, fun z => lf01 z.1⟩⟩
  | nd l r, h => by
    have z0 : (lf 0).pl := .inl rfl
    rw [hv]
    by_cases e : l = lf 0
    · rw [if_pos e]
      have er : r ≠ lf 0 := fun z => h.2.2.1 ⟨e, z⟩
      have n := hv_ne er
      have p := hv_pl h.2.1
      exact ⟨⟨z0, p.1, fun z => n.1 z.2, fun z => lf01 z.1⟩, ⟨z0, p.2, fun z => n.2 z.2, fun z => lf01 z.1⟩⟩
    · rw [if_neg e]
      have n := hv_ne e
      have p := hv_pl h.1
      by_cases e2 : r = lf 0
      · rw [if_pos e2]
        exact ⟨⟨p.1, z0, fun z => n.1 z.1, fun z => lf01 z.2⟩, ⟨p.2, z0, fun z => n.2 z.1, fun z => lf01 z.2⟩⟩
      · rw [if_neg e2]
        exact ⟨⟨h.1, z0, fun z => e z.1, fun z => lf01 z.2⟩, ⟨z0, h.2.1, fun z => e2 z.2, fun z => lf01 z.1⟩⟩
theorem hv_dep : ∀ t : PT, t.hv.1.dep ≤ t.dep + 1 ∧ t.hv.2.dep ≤ t.dep + 1
  | lf i => by
    rw [hv]
    split
    · exact ⟨Nat.zero_le _, Nat.zero_le _⟩
    · exact ⟨Nat.le_refl _, Nat.le_refl _⟩
  | nd l r => by
    have h1 := hv_dep l
    have h2 := hv_dep r
    have e (a b : PT) : (nd a b).dep = max a.dep b.dep + 1 := rfl
    have e0 (i : Int) : (lf i).dep = 0 := rfl
    rw [hv]
    split
    · simp only [e, e0]; omega
    · split
      · simp only [e, e0]; omega
      · simp only [e, e0]; omega
theorem hv_lv : ∀ t : PT, t.hv.1.lv ≤ t.lv + 1 ∧ t.hv.2.lv ≤ t.lv + 1
  | lf i => by
    rw [hv]
    split
    · exact ⟨by show 1 ≤ 1 + 1; decide, by show 1 ≤ 1 + 1; decide⟩
    · exact ⟨by show 1 + 1 ≤ 1 + 1; decide, by show 1 + 1 ≤ 1 + 1; decide⟩
  | nd l r => by
    have h1 := hv_lv l
    have h2 := hv_lv r
    have h3 := lv_pos l
    have h4 := lv_pos r
    have e (a b : PT) : (nd a b).lv = a.lv + b.lv := rfl
    have e0 (i : Int) : (lf i).lv = 1 := rfl
    rw [hv]
    split
    · simp only [e, e0]; omega
    · split
      · simp only [e, e0]; omega
      · simp only [e, e0]; omega
end PT

/-! ### counts: opened, at most, higher, more -/
namespace CT
def ol : CT → CT
  | lf n => lf n
  | nd n l _ => l.lift n
def or : CT → CT
  | lf n => lf n
  | nd n _ r => r.lift n
theorem ol_at (t : CT) (p : List Bool) : t.ol.at p = t.at (false :: p) := by
  cases t with
  | lf n => rfl
  | nd n l r => rw [ol, lift_at, at_l]; omega
theorem or_at (t : CT) (p : List Bool) : t.or.at p = t.at (true :: p) := by
  cases t with
  | lf n => rfl
  | nd n l r => rw [or, lift_at, at_r]; omega
theorem ol_dep (t : CT) : t.ol.dep ≤ t.dep - 1 := by
  cases t with
  | lf n => exact Nat.zero_le _
  | nd n l r =>
    rw [ol, lift_dep]
    show l.dep ≤ max l.dep r.dep + 1 - 1
    omega
theorem or_dep (t : CT) : t.or.dep ≤ t.dep - 1 := by
  cases t with
  | lf n => exact Nat.zero_le _
  | nd n l r =>
    rw [or, lift_dep]
    show r.dep ≤ max l.dep r.dep + 1 - 1
    omega
def isLf : CT → Bool
  | lf _ => true
  | nd _ _ _ => false
theorem dep_zero {t : CT} (h : t.dep = 0) : ∃ n, t = lf n := by
  cases t with
  | lf n => exact ⟨n, rfl⟩
  | nd n l r => simp [dep] at h
/-- by fuel: as the code goes -/
def le : Nat → CT → CT → Bool
  | 0, t, u => decide (t.front ≤ u.front)
  | k + 1, t, u => if t.isLf = true ∧ u.isLf = true then decide (t.front ≤ u.front) else le k t.ol u.ol && le k t.or u.or
def hi : Nat → CT → CT → CT
  | 0, t, u => lf (max t.front u.front)
  | k + 1, t, u => if t.isLf = true ∧ u.isLf = true then lf (max t.front u.front) else nd 0 (hi k t.ol u.ol) (hi k t.or u.or)
theorem isLf_eq {t : CT} (h : t.isLf = true) : t = lf t.front := by
  cases t with
  | lf n => rfl
  | nd n l r => cases h
theorem le_iff : ∀ (k : Nat) (t u : CT), t.dep ≤ k → u.dep ≤ k → (le k t u = true ↔ ∀ p, t.at p ≤ u.at p)
  | 0, t, u, ht, hu => by
    obtain ⟨n, rfl⟩ := dep_zero (Nat.le_zero.mp ht)
    obtain ⟨m, rfl⟩ := dep_zero (Nat.le_zero.mp hu)
    rw [le, decide_eq_true_eq]
    exact ⟨fun h p => h, fun h => h []⟩
  | k + 1, t, u, ht, hu => by
    rw [le]
    by_cases c : t.isLf = true ∧ u.isLf = true
    · rw [if_pos c, decide_eq_true_eq]
      constructor
      · intro h p
        rw [isLf_eq c.1, isLf_eq c.2]
        exact h
      · intro h
        have := h []
        rw [isLf_eq c.1, isLf_eq c.2] at this
        exact this
    · have h1 := ol_dep t
      have h2 := ol_dep u
      have h3 := or_dep t
      have h4 := or_dep u
      rw [if_neg c, Bool.and_eq_true, le_iff k _ _ (by omega) (by omega), le_iff k _ _ (by omega) (by omega)]
      have hn : ∀ v : CT, v.at [] = v.at [false] := fun v => by
        cases v with
        | lf n => rfl
        | nd n l r => simp [at_nd]
      constructor
      · intro h p
        cases p with
        | nil => rw [hn t, hn u, ← ol_at, ← ol_at]; exact h.1 []
        | cons b p =>
          cases b with
          | false => rw [← ol_at, ← ol_at]; exact h.1 p
          | true => rw [← or_at, ← or_at]; exact h.2 p
      · intro h
        exact ⟨fun p => by rw [ol_at, ol_at]; exact h _, fun p => by rw [or_at, or_at]; exact h _⟩
theorem hi_at : ∀ (k : Nat) (t u : CT), t.dep ≤ k → u.dep ≤ k → ∀ p, (hi k t u).at p = max (t.at p) (u.at p)
  | 0, t, u, ht, hu, p => by
    obtain ⟨n, rfl⟩ := dep_zero (Nat.le_zero.mp ht)
    obtain ⟨m, rfl⟩ := dep_zero (Nat.le_zero.mp hu)
    rfl
  | k + 1, t, u, ht, hu, p => by
    rw [hi]
    by_cases c : t.isLf = true ∧ u.isLf = true
    · rw [if_pos c]
      conv => rhs; rw [isLf_eq c.1, isLf_eq c.2]
      rfl
    · have h1 := ol_dep t
      have h2 := ol_dep u
      have h3 := or_dep t
      have h4 := or_dep u
      rw [if_neg c, at_nd, hi_at k _ _ (by omega) (by omega), hi_at k _ _ (by omega) (by omega), ol_at, ol_at, or_at, or_at]
      have hn : ∀ v : CT, v.at p = if p.headD false = true then v.at (true :: p.tail) else v.at (false :: p.tail) := fun v => by
        cases v with
        | lf n => simp [at_lf]
        | nd n l r =>
          rw [at_nd, at_r, at_l]
          split <;> rfl
      rw [hn t, hn u]
      split <;> omega
theorem lift_nn {t : CT} {b : Int} (h : t.nn) (hb : 0 ≤ b) : (t.lift b).nn := by
  cases t with
  | lf n => exact Int.add_nonneg h hb
  | nd n l r => exact ⟨Int.add_nonneg h.1 hb, h.2⟩
theorem ol_nn {t : CT} (h : t.nn) : t.ol.nn := by
  cases t with
  | lf n => exact h
  | nd n l r => exact lift_nn h.2.1 h.1
theorem or_nn {t : CT} (h : t.nn) : t.or.nn := by
  cases t with
  | lf n => exact h
  | nd n l r => exact lift_nn h.2.2 h.1
theorem front_nn {t : CT} (h : t.nn) : 0 ≤ t.front := by
  cases t with
  | lf n => exact h
  | nd n l r => exact h.1
theorem hi_nn : ∀ (k : Nat) {t u : CT}, t.nn → u.nn → (hi k t u).nn
  | 0, t, u, ht, hu => by
    have := front_nn ht
    show 0 ≤ max _ _
    omega
  | k + 1, t, u, ht, hu => by
    rw [hi]
    split
    · have := front_nn ht
      show 0 ≤ max _ _
      omega
    · exact ⟨Int.le_refl _, hi_nn k (ol_nn ht) (ol_nn hu), hi_nn k (or_nn ht) (or_nn hu)⟩
theorem hi_dep : ∀ (k : Nat) (t u : CT), (hi k t u).dep ≤ max t.dep u.dep
  | 0, t, u => Nat.zero_le _
  | k + 1, t, u => by
    rw [hi]
    split
    · exact Nat.zero_le _
    · rename_i c
      have h1 := ol_dep t
      have h2 := ol_dep u
      have h3 := or_dep t
      have h4 := or_dep u
      have h5 := hi_dep k t.ol u.ol
      have h6 := hi_dep k t.or u.or
      have h7 : 1 ≤ max t.dep u.dep := by
        cases t with
        | nd n l r => show 1 ≤ max (max l.dep r.dep + 1) u.dep; omega
        | lf n =>
          cases u with
          | nd n l r => show 1 ≤ max 0 (max l.dep r.dep + 1); omega
          | lf m => exact absurd ⟨rfl, rfl⟩ c
      show max (hi k t.ol u.ol).dep (hi k t.or u.or).dep + 1 ≤ _
      omega
theorem ol_or_lv (t : CT) : t.ol.lv + t.or.lv ≤ t.lv + 1 := by
  cases t with
  | lf n => exact Nat.le_refl _
  | nd n l r =>
    rw [ol, or, lift_lv, lift_lv]
    show l.lv + r.lv ≤ l.lv + r.lv + 1
    omega
theorem ol_or_lv' {t : CT} (h : t.isLf = false) : t.ol.lv + t.or.lv = t.lv := by
  cases t with
  | lf n => cases h
  | nd n l r =>
    rw [ol, or, lift_lv, lift_lv]
    rfl
theorem lf_lv {t : CT} (h : t.isLf = true) : t.lv = 1 := by
  cases t with
  | lf n => rfl
  | nd n l r => cases h
theorem hi_lv : ∀ (k : Nat) (t u : CT), (hi k t u).lv + 1 ≤ t.lv + u.lv
  | 0, t, u => by
    have := lv_pos t
    have := lv_pos u
    show 1 + 1 ≤ _
    omega
  | k + 1, t, u => by
    have := lv_pos t
    have := lv_pos u
    rw [hi]
    split
    · show 1 + 1 ≤ _
      omega
    · rename_i c
      have h5 := hi_lv k t.ol u.ol
      have h6 := hi_lv k t.or u.or
      have h7 := ol_or_lv t
      have h8 := ol_or_lv u
      have e : (hi k t.ol u.ol).lv + (hi k t.or u.or).lv = (nd 0 (hi k t.ol u.ol) (hi k t.or u.or)).lv := rfl
      rw [← e]
      cases h9 : t.isLf with
      | false =>
        have := ol_or_lv' h9
        omega
      | true =>
        cases h10 : u.isLf with
        | false =>
          have := ol_or_lv' h10
          omega
        | true => exact absurd ⟨h9, h10⟩ c
/-- more within a part -/
def mo : CT → PT → CT
  | t, .lf i => if i = 0 then t else t.lift 1
  | t, .nd l r => nd 0 (mo t.ol l) (mo t.or r)
theorem mo_at : ∀ (q : PT) (t : CT), q.ok → ∀ p, (mo t q).at p = t.at p + q.at p
  | .lf i, t, h, p => by
    rcases h with rfl | rfl
    · rw [mo, if_pos rfl, PT.at_lf]; omega
    · rw [mo, if_neg (by decide), lift_at, PT.at_lf]
  | .nd l r, t, h, p => by
    rw [mo, at_nd, PT.at_nd, mo_at l _ h.1, mo_at r _ h.2, ol_at, or_at]
    have hn : t.at p = if p.headD false = true then t.at (true :: p.tail) else t.at (false :: p.tail) := by
      cases t with
      | lf n => simp [at_lf]
      | nd n l r =>
        rw [at_nd, at_r, at_l]
        split <;> rfl
    rw [hn]
    split <;> omega
theorem mo_nn : ∀ (q : PT) {t : CT}, t.nn → (mo t q).nn
  | .lf i, t, h => by
    rw [mo]
    split
    · exact h
    · exact lift_nn h (by decide)
  | .nd l r, t, h => ⟨Int.le_refl _, mo_nn l (ol_nn h), mo_nn r (or_nn h)⟩
theorem mo_dep : ∀ (q : PT) (t : CT), (mo t q).dep ≤ max t.dep q.dep
  | .lf i, t => by
    rw [mo]
    split
    · omega
    · rw [lift_dep]; omega
  | .nd l r, t => by
    have h1 := mo_dep l t.ol
    have h2 := mo_dep r t.or
    have h3 := ol_dep t
    have h4 := or_dep t
    show max (mo t.ol l).dep (mo t.or r).dep + 1 ≤ max t.dep (max l.dep r.dep + 1)
    omega
theorem mo_lv : ∀ (q : PT) (t : CT), (mo t q).lv + 1 ≤ t.lv + q.lv
  | .lf i, t => by
    rw [mo]
    split
    · exact Nat.le_refl _
    · rw [lift_lv]; exact Nat.le_refl _
  | .nd l r, t => by
    have h1 := mo_lv l t.ol
    have h2 := mo_lv r t.or
    have h3 := ol_or_lv t
    show (mo t.ol l).lv + (mo t.or r).lv + 1 ≤ t.lv + (l.lv + r.lv)
    omega
end CT
namespace CT
theorem le_lf {t u : CT} (k : Nat) (ht : t.isLf = true) (hu : u.isLf = true) : le k t u = decide (t.front ≤ u.front) := by
  cases k with
  | zero => rfl
  | succ k => rw [le, if_pos ⟨ht, hu⟩]
theorem hi_lf {t u : CT} (k : Nat) (ht : t.isLf = true) (hu : u.isLf = true) : hi k t u = lf (max t.front u.front) := by
  cases k with
  | zero => rfl
  | succ k => rw [hi, if_pos ⟨ht, hu⟩]
/-- highest, plain -/
def hst (t u : CT) : CT := (hi 45 t u).plain
theorem hst_at {t u : CT} (ht : t.dep ≤ 45) (hu : u.dep ≤ 45) (p : List Bool) : (hst t u).at p = max (t.at p) (u.at p) := by
  rw [hst, plain_at, hi_at 45 t u ht hu]
theorem hst_pl {t u : CT} (ht : t.nn) (hu : u.nn) : (hst t u).pl := plain_pl (hi_nn 45 ht hu)
theorem hst_dep (t u : CT) : (hst t u).dep ≤ max t.dep u.dep := Nat.le_trans (plain_dep _) (hi_dep 45 t u)
theorem hst_lv (t u : CT) : (hst t u).lv + 1 ≤ t.lv + u.lv := Nat.le_trans (Nat.succ_le_succ (plain_lv _)) (hi_lv 45 t u)
theorem le_iff45 {t u : CT} (ht : t.dep ≤ 45) (hu : u.dep ≤ 45) : le 45 t u = true ↔ ∀ p, t.at p ≤ u.at p := le_iff 45 t u ht hu
end CT
theorem CT.isTp_d (t : CT) : isTp t.d = !t.isLf := by cases t <;> rfl

theorem filt_more {ps : List (List Bool)} {i : Nat} {p : List Bool} {c : List Bool → Bool} (h : ps[i]? = some p) : pvs ((ps.take (i + 1)).filter c) = pvs ((ps.take i).filter c) ++ if c p = true then [V.str (pstr p)] else [] := by
  rw [take_more h, List.filter_append, pvs_app]
  congr 1
  cases e : c p <;> simp [List.filter_cons, e, pvs]
theorem pvs_dp {K : PySem.W.Frag} {H : Hp} {a : Addr} {ps : List (List Bool)} (h : H a = some (.lst (pvs ps))) : Dp K H (.ref a) (.list ((ps.map pstr).map PyData.str)) := by
  refine .lst (SqL.of h) ?_
  have e : pvs ps = (ps.map pstr).map V.str := by unfold pvs; rw [List.map_map]; rfl
  rw [e]
  exact dpall_strs _
theorem pvs_sh (ps : List (List Bool)) : SeqAt.shaped (.list ((ps.map pstr).map PyData.str)) = true := sh_strs fun s hs => by
  obtain ⟨p, _, rfl⟩ := List.mem_map.mp hs
  exact pstr_ok p
theorem pvs_nil (ps : List (List Bool)) : PyData.eqv (.list ((ps.map pstr).map PyData.str)) (.list []) = decide (ps = []) := by
  rw [eqv_nil]
  refine decide_eq_decide.mpr ?_
  simp
theorem filt_lt {ps : List (List Bool)} {c : List Bool → Bool} {i n : Nat} (h : ps.length ≤ n) (hn : n < sizeLine) : (pvs ((ps.take i).filter c)).length < sizeLine := by
  rw [pvs_length]
  have h1 := List.length_filter_le c (ps.take i)
  have h2 : (ps.take i).length ≤ ps.length := by rw [List.length_take]; omega
  omega
theorem mil_lt : 1000000 < sizeLine := by decide
theorem PT.u_dp {K : PySem.W.Frag} {H : Hp} {v : V} {t : PT} (h : Dp K H v t.d) : Dp K H v t.u.d := by rw [PT.u_d]; exact h
theorem CT.u_dp {K : PySem.W.Frag} {H : Hp} {v : V} {t : CT} (h : Dp K H v t.d) : Dp K H v t.u.d := by rw [CT.u_d]; exact h
theorem PT.no_non {K : PySem.W.Frag} {H : Hp} {t : PT} (h : Dp K H .non t.d) : False := by cases t <;> cases h
theorem CT.no_non {K : PySem.W.Frag} {H : Hp} {t : CT} (h : Dp K H .non t.d) : False := by cases t <;> cases h

/-! ### own errors -/
/-- what the top says of an own class over ValueError -/
structure Own (K : PySem.W.Frag) (mg : Str → Option Value) (x : Str) (C : Addr) : Prop where
  g : mg x = some (.ref C)
  k : PySem.W.keepIn K (.ref C) = true
  t : PySem.W.typeIn K (.ref C) = some (.type "type")
  i : PySem.W.isClsIn K C = true
structure Rsd (K : PySem.W.Frag) (C : Addr) : Prop where
  xx : PySem.W.excIn K C [.type "ValueError", .type "Exception", .type "BaseException", .type "object"] "ValueError.__new__" = true
  b : PySem.W.subIn K (.ref C) (.type "BaseException") = some true
  s : PySem.W.subIn K (.ref C) (.ref C) = some true
theorem exm_self {K : PySem.W.Frag} {mg : Str → Option Value} {x : Str} {C : Addr} (o : Own K mg x C) (r : Rsd K C) : PySem.W.exmOne K (.ref C) (.ref C) = some true := by
  have e1 : (PySem.W.subIn K (.ref C) (.type "BaseException") == some true) = true := by rw [r.b] <;> rfl
  have e2 : ((PySem.W.clsIn K C).isSome && PySem.W.typeIn K (.ref C) == some (.type "type")) = true := by
    have h2' : (PySem.W.clsIn K C).isSome = true := o.i
    rw [h2', o.t] <;> rfl
  show (if (PySem.W.subIn K (.ref C) (.type "BaseException") == some true) = true then (if ((PySem.W.clsIn K C).isSome && PySem.W.typeIn K (.ref C) == some (.type "type")) = true then PySem.W.subIn K (.ref C) (.ref C) else none) else none) = some true
  rw [if_pos e1, if_pos e2]
  exact r.s
theorem kit_own {K : PySem.W.Frag} {mg : Str → Option Value} {x : Str} {C B : Addr} {b : Bool} (o : Own K mg x B) (r : Rsd K C) (h : PySem.W.subIn K (.ref C) (.ref B) = some b) : PySem.W.kitOne K (.ref C) (.ref B) = some b := by
  unfold PySem.W.kitOne
  by_cases e : (Value.ref C == Value.ref B) = true
  · rw [if_pos e]
    have e' : C = B := Value.ref.inj (beq_iff_eq.mp e)
    subst e'
    rw [r.s] at h
    exact h
  · rw [if_neg e]
    have e2 : ((PySem.W.clsIn K B).isSome && PySem.W.typeIn K (.ref B) == some (.type "type")) = true := by
      have h2' : (PySem.W.clsIn K B).isSome = true := o.i
      rw [h2', o.t] <;> rfl
    show (if ((PySem.W.clsIn K B).isSome && PySem.W.typeIn K (.ref B) == some (.type "type")) = true then PySem.W.subIn K (.ref C) (.ref B) else none) = some b
    rw [if_pos e2]
    exact h
theorem kit_VE {K : PySem.W.Frag} {C : Addr} (h : PySem.W.subIn K (.ref C) (.type "ValueError") = some true) : PySem.W.kitOne K (.ref C) (.type "ValueError") = some true := by
  have e : (Value.ref C == Value.type "ValueError") = false := rfl
  have m : PySem.W.kitMeta "ValueError" = true := by decide +kernel
  show (if (Value.ref C == Value.type "ValueError") = true then some true else (if PySem.W.kitMeta "ValueError" = true then PySem.W.subIn K (.ref C) (.type "ValueError") else none)) = some true
  rw [e, m, if_neg Bool.false_ne_true, if_pos rfl]
  exact h
/-- isinstance(e, C) of the error that the suite holds -/
def rIsE2 (K : PySem.W.Frag) (a : Addr) (cls : Value) (d : Option Addr) : List V → Hp → VK → Prop := fun xs H Q => ∃ (D : Addr) (c : V) (cv : Value) (b : Bool), ExcC K D ∧ cls = .ref D ∧ d = none ∧ xs = [.ref a, c] ∧ (∀ u, RelV c u → u = cv) ∧ PySem.W.kitOne K (.ref D) cv = some b ∧ Q (.bl b) H
theorem call_isE2 {X : Cx} {a : Addr} {oe : Obj} {cls : Value} {d : Option Addr} {pn : List (Addr × Obj)} (hz : Zc cls d oe) (hf : ∃ vs, oe.data = .fields vs) : CallR (X.suite a ((a, oe) :: pn)) (.builtin "isinstance") (rIsE2 X.K a cls d) := by
  intro pins s σ H xs us Q I r h
  obtain ⟨D, c, cv, b, C, rfl, rfl, rfl, hcv, e, q⟩ := h
  exact call_isE C hz hf pins s σ H _ us Q I r ⟨c, cv, b, rfl, hcv, e, q⟩
section
variable {X : Cx} {k j : Nat} {x : Str} {sp : Sp} {p pos : Pos} {e : Expr} {es : List Expr} {t : TA}
/-- a call of a def that may raise, in a try -/
theorem pe_cS {W : WX} (c : Cal (L2.CX X.prog X.w) X.prog X.w X.K X.mg X.base k x sp) (hr : Room j X.A) (hk : k ≤ j) (hg : Gl X x) (tk : Takes X W) (ha : PA X (e :: es) t)
    (hdb : (x == ("__debug__" : Str)) = false := by decide) (he : starEach (e :: es) X.env = (false, eval e X.env) :: starEach es X.env := by rfl) (hpl : (backTo pos (starEach es X.env)).any (·.1) = false := by rfl) :
    PE X (.Call (.Name x p) (e :: es) [] pos) (tCallS sp (WE W) t) := by
  obtain ⟨f, fd, ps, F, hm, kp, b⟩ := c.ex
  exact pe_callS F (hr.mono hk) hg hm kp b (fun σ => passAt tk σ) ha hdb he hpl
end
theorem Cal.calm {P : Program} {w : World} {K : PySem.W.Frag} {mg : Str → Option Value} {base : Heap} {k : Nat} {x : Str} {sp : Sp} (c : Cal (L2.CX P w) P w K mg base k x sp) : Cal CX0 P w K mg base k x (fun vs H Q _ => sp vs H Q E0) := by
  obtain ⟨f, fd, ps, F, a, b, d⟩ := c.ex
  refine ⟨f, fd, ps, ⟨fun vs H Q E h => F.len vs H Q E0 h, fun A outer s H args us vs Q E hr he hb hv hs => codeAny_mono (F.run A outer s H args us vs Q E0 hr he hb hv hs) fun r s' hq => ?_⟩, a, b, d⟩
  cases r with
  | error e =>
    obtain ⟨_, _, _, _, _, _, _, _, _, _, _, _, z⟩ := hq
    exact False.elim z
  | ok fl => cases fl <;> exact hq
theorem ix_listK {X : Cx} {K : PySem.W.Frag} (h : X.K = K) : IxR X (rIxL K) := h ▸ ix_list
theorem exm_own {K : PySem.W.Frag} {mg : Str → Option Value} {x : Str} {C B : Addr} {b : Bool} (o : Own K mg x B) (hB : PySem.W.subIn K (.ref B) (.type "BaseException") = some true) (h : PySem.W.subIn K (.ref C) (.ref B) = some b) : PySem.W.exmOne K (.ref C) (.ref B) = some b := by
  have e1 : (PySem.W.subIn K (.ref B) (.type "BaseException") == some true) = true := by rw [hB] <;> rfl
  have e2 : ((PySem.W.clsIn K B).isSome && PySem.W.typeIn K (.ref B) == some (.type "type")) = true := by
    have h2' : (PySem.W.clsIn K B).isSome = true := o.i
    rw [h2', o.t] <;> rfl
  show (if (PySem.W.subIn K (.ref B) (.type "BaseException") == some true) = true then (if ((PySem.W.clsIn K B).isSome && PySem.W.typeIn K (.ref B) == some (.type "type")) = true then PySem.W.subIn K (.ref C) (.ref B) else none) else none) = some b
  rw [if_pos e1, if_pos e2]
  exact h

/-! ### hands, deeds -/
structure Hand where
  pt : PT
  ct : CT
  kn : List Int
/-- raised, plain -/
def CT.rs (t : CT) (u : PT) : CT := (CT.mo t u).plain
def clockD (u : PT) (t : CT) : PyData := .tuple [u.d, t.d]
def Hand.d (h : Hand) : PyData := .tuple [clockD h.pt h.ct, .tuple (h.kn.map PyData.int)]
structure HB (n : Nat) (h : Hand) : Prop where
  pl : h.pt.pl
  ne : h.pt ≠ .lf 0
  cl : h.ct.pl
  pd : h.pt.dep ≤ n
  cd : h.ct.dep ≤ n
  ks : h.kn.Pairwise (· < ·)
  kb : ∀ k ∈ h.kn, 0 ≤ k ∧ k < (n : Int)
def tot (hs : List Hand) (p : List Bool) : Int := (hs.map fun h => h.pt.at p).sum
structure Bs (n : Nat) (hs : List Hand) : Prop where
  l1 : 1 ≤ hs.length
  l6 : hs.length ≤ 6
  all : ∀ h ∈ hs, HB n h
  tot : ∀ p, tot hs p = 1
def rep (hs : List Hand) (i : Nat) (new : List Hand) : List Hand := hs.take i ++ new ++ hs.drop (i + 1)
def keepI {α : Type} (q : Nat → Bool) : Nat → List α → List α
  | _, [] => []
  | s, x :: xs => if q s = true then x :: keepI q (s + 1) xs else keepI q (s + 1) xs
def wo (i j : Nat) (hs : List Hand) : List Hand := keepI (fun n => !(decide (i = n) || decide (j = n))) 0 hs
def KU (kn a b : List Int) : Prop := kn.Pairwise (· < ·) ∧ ∀ k, k ∈ kn ↔ k ∈ a ∨ k ∈ b
inductive Step (n : Nat) (hs : List Hand) : List Hand → Prop
  | part (i : Nat) (h : Hand) (e : hs[i]? = some h) (l : hs.length < 6) : Step n hs (rep hs i [⟨h.pt.hv.1, h.ct, h.kn⟩, ⟨h.pt.hv.2, h.ct, h.kn⟩])
  | done (i : Nat) (h : Hand) (e : hs[i]? = some h) : Step n hs (rep hs i [⟨h.pt, CT.rs h.ct h.pt, h.kn ++ [(n : Int)]⟩])
  | sent (i j : Nat) (h g : Hand) (kn : List Int) (ne : i ≠ j) (e : hs[i]? = some h) (e' : hs[j]? = some g) (u : KU kn h.kn g.kn) : Step n hs (rep hs j [⟨g.pt, CT.hst g.ct h.ct, kn⟩])
  | met (i j : Nat) (h g : Hand) (kn : List Int) (ne : i ≠ j) (e : hs[i]? = some h) (e' : hs[j]? = some g) (u : KU kn h.kn g.kn) : Step n hs (wo i j hs ++ [⟨(h.pt.both g.pt).plain, CT.hst h.ct g.ct, kn⟩])
def h0 : Hand := ⟨.lf 1, .lf 0, []⟩
inductive Run : Nat → List Hand → List Hand → Prop
  | z : Run 0 [h0] [h0]
  | s {n : Nat} {hs ev hs' ev' : List Hand} (r : Run n hs ev) (st : Step n hs hs') (sub : ∀ h ∈ ev', h ∈ ev ∨ h ∈ hs') (sup : ∀ h ∈ ev, h ∈ ev') (len : ev'.length ≤ ev.length + 6) : Run (n + 1) hs' ev'
theorem split_at {α : Type} : ∀ {l : List α} {i : Nat} {x : α}, l[i]? = some x → l = l.take i ++ x :: l.drop (i + 1)
  | [], i, x, h => by simp at h
  | a :: l, 0, x, h => by
    have e : a = x := Option.some.inj h
    rw [e]
    rfl
  | a :: l, i + 1, x, h => by
    have ih := split_at (l := l) (i := i) (x := x) h
    show a :: l = a :: l.take i ++ x :: l.drop (i + 1)
    rw [List.cons_append, ← ih]
theorem mem_at {α : Type} {l : List α} {i : Nat} {x : α} (h : l[i]? = some x) : x ∈ l := List.mem_of_getElem? h
theorem tot_app (a b : List Hand) (p : List Bool) : tot (a ++ b) p = tot a p + tot b p := by unfold tot; rw [List.map_append, List.sum_append]
theorem tot_cons (h : Hand) (b : List Hand) (p : List Bool) : tot (h :: b) p = h.pt.at p + tot b p := by unfold tot; rw [List.map_cons, List.sum_cons]
theorem tot_nil (p : List Bool) : tot [] p = 0 := rfl
theorem rep_tot {hs : List Hand} {i : Nat} {h : Hand} (e : hs[i]? = some h) (new : List Hand) (p : List Bool) : tot (rep hs i new) p + h.pt.at p = tot hs p + tot new p := by
  have e2 : tot hs p = tot (hs.take i ++ h :: hs.drop (i + 1)) p := congrArg (fun l => tot l p) (split_at e)
  rw [e2, rep, tot_app, tot_app, tot_app, tot_cons]
  omega
theorem rep_len {hs : List Hand} {i : Nat} {h : Hand} (e : hs[i]? = some h) (new : List Hand) : (rep hs i new).length + 1 = hs.length + new.length := by
  have := (List.getElem?_eq_some_iff.mp e).1
  rw [rep, List.length_append, List.length_append, List.length_take, List.length_drop]
  omega
theorem rep_mem {hs : List Hand} {i : Nat} {new : List Hand} {x : Hand} (m : x ∈ rep hs i new) : x ∈ hs ∨ x ∈ new := by
  rcases List.mem_append.mp m with m | m
  · rcases List.mem_append.mp m with m | m
    · exact .inl (List.mem_of_mem_take m)
    · exact .inr m
  · exact .inl (List.mem_of_mem_drop m)
theorem keepI_sub {α : Type} {q : Nat → Bool} : ∀ {xs : List α} {s : Nat} {x : α}, x ∈ keepI q s xs → x ∈ xs
  | [], _, _, h => h
  | a :: xs, s, x, h => by
    unfold keepI at h
    by_cases c : q s = true
    · rw [if_pos c] at h
      rcases List.mem_cons.mp h with rfl | h
      · exact List.mem_cons_self
      · exact List.mem_cons_of_mem _ (keepI_sub h)
    · rw [if_neg c] at h
      exact List.mem_cons_of_mem _ (keepI_sub h)
theorem keepI_app {α : Type} {q : Nat → Bool} : ∀ (xs ys : List α) (s : Nat), keepI q s (xs ++ ys) = keepI q s xs ++ keepI q (s + xs.length) ys
  | [], ys, s => rfl
  | a :: xs, ys, s => by
    have ih := keepI_app (q := q) xs ys (s + 1)
    have e : s + 1 + xs.length = s + (a :: xs).length := by simp only [List.length_cons]; omega
    rw [e] at ih
    show (if q s = true then a :: keepI q (s + 1) (xs ++ ys) else keepI q (s + 1) (xs ++ ys)) = (if q s = true then a :: keepI q (s + 1) xs else keepI q (s + 1) xs) ++ _
    rw [ih]
    split <;> rfl
theorem keepI_more {α : Type} {q : Nat → Bool} {xs : List α} {i : Nat} {x : α} (h : xs[i]? = some x) : keepI q 0 (xs.take (i + 1)) = keepI q 0 (xs.take i) ++ if q i = true then [x] else [] := by
  have hi := (List.getElem?_eq_some_iff.mp h).1
  rw [take_more h, keepI_app, List.length_take, Nat.min_eq_left (by omega), Nat.zero_add]
  rfl
theorem keepI_len {α : Type} {q : Nat → Bool} : ∀ (xs : List α) (s : Nat), (keepI q s xs).length ≤ xs.length
  | [], _ => Nat.le_refl _
  | a :: xs, s => by
    have ih := keepI_len (q := q) xs (s + 1)
    show (if q s = true then a :: keepI q (s + 1) xs else keepI q (s + 1) xs).length ≤ xs.length + 1
    split
    · simp only [List.length_cons]; omega
    · omega
/-- a sum over all, by the two places left out -/
theorem keepI_two {i j : Nat} (ne : i ≠ j) (f : Hand → Int) : ∀ (xs : List Hand) (s : Nat),
    ((keepI (fun n => !(decide (i = n) || decide (j = n))) s xs).map f).sum + (if s ≤ i then (xs[i - s]?.map f).getD 0 else 0) + (if s ≤ j then (xs[j - s]?.map f).getD 0 else 0) = (xs.map f).sum
  | [], s => by simp [keepI]
  | a :: xs, s => by
    have ih := keepI_two ne f xs (s + 1)
    unfold keepI
    rw [List.map_cons, List.sum_cons]
    by_cases ci : i = s
    · subst ci
      have cj : j ≠ i := fun z => ne z.symm
      rw [if_neg (by simp)]
      rw [if_neg (show ¬ i + 1 ≤ i by omega)] at ih
      rw [if_pos (Nat.le_refl i), Nat.sub_self]
      by_cases lj : i ≤ j
      · have e : j - i = (j - (i + 1)) + 1 := by omega
        rw [if_pos lj, e, List.getElem?_cons_succ]
        rw [if_pos (show i + 1 ≤ j by omega)] at ih
        simp only [List.getElem?_cons_zero, Option.map_some, Option.getD_some]
        omega
      · rw [if_neg lj]
        rw [if_neg (show ¬ i + 1 ≤ j by omega)] at ih
        simp only [List.getElem?_cons_zero, Option.map_some, Option.getD_some]
        omega
    · by_cases cj : j = s
      · subst cj
        rw [if_neg (by simp)]
        rw [if_neg (show ¬ j + 1 ≤ j by omega)] at ih
        rw [if_pos (Nat.le_refl j), Nat.sub_self]
        by_cases li : j ≤ i
        · have e : i - j = (i - (j + 1)) + 1 := by omega
          rw [if_pos li, e, List.getElem?_cons_succ]
          rw [if_pos (show j + 1 ≤ i by omega)] at ih
          simp only [List.getElem?_cons_zero, Option.map_some, Option.getD_some]
          omega
        · rw [if_neg li]
          rw [if_neg (show ¬ j + 1 ≤ i by omega)] at ih
          simp only [List.getElem?_cons_zero, Option.map_some, Option.getD_some]
          omega
      · rw [if_pos (by simp [ci, cj]), List.map_cons, List.sum_cons]
        have ei : (if s ≤ i then ((a :: xs)[i - s]?.map f).getD 0 else 0) = if s + 1 ≤ i then (xs[i - (s + 1)]?.map f).getD 0 else 0 := by
          by_cases li : s ≤ i
          · have e : i - s = (i - (s + 1)) + 1 := by omega
            rw [if_pos li, if_pos (show s + 1 ≤ i by omega), e, List.getElem?_cons_succ]
          · rw [if_neg li, if_neg (by omega)]
        have ej : (if s ≤ j then ((a :: xs)[j - s]?.map f).getD 0 else 0) = if s + 1 ≤ j then (xs[j - (s + 1)]?.map f).getD 0 else 0 := by
          by_cases lj : s ≤ j
          · have e : j - s = (j - (s + 1)) + 1 := by omega
            rw [if_pos lj, if_pos (show s + 1 ≤ j by omega), e, List.getElem?_cons_succ]
          · rw [if_neg lj, if_neg (by omega)]
        rw [ei, ej]
        omega
theorem wo_tot {hs : List Hand} {i j : Nat} {h g : Hand} (ne : i ≠ j) (e : hs[i]? = some h) (e' : hs[j]? = some g) (p : List Bool) : tot (wo i j hs) p + h.pt.at p + g.pt.at p = tot hs p := by
  have := keepI_two ne (fun h => h.pt.at p) hs 0
  rw [if_pos (Nat.zero_le _), if_pos (Nat.zero_le _), Nat.sub_zero, Nat.sub_zero, e, e'] at this
  exact this
theorem wo_len {hs : List Hand} {i j : Nat} {h g : Hand} (ne : i ≠ j) (e : hs[i]? = some h) (e' : hs[j]? = some g) : (wo i j hs).length + 2 = hs.length := by
  have := keepI_two ne (fun _ => 1) hs 0
  rw [if_pos (Nat.zero_le _), if_pos (Nat.zero_le _), Nat.sub_zero, Nat.sub_zero, e, e'] at this
  have one : ∀ l : List Hand, (l.map fun _ => (1 : Int)).sum = (l.length : Int) := fun l => by
    induction l with
    | nil => rfl
    | cons a l ih => rw [List.map_cons, List.sum_cons, ih, List.length_cons]; omega
  rw [one, one] at this
  have e2 : ((wo i j hs).length : Int) + 1 + 1 = (hs.length : Int) := this
  omega
theorem tot_nn {hs : List Hand} {n : Nat} (h : ∀ x ∈ hs, HB n x) (p : List Bool) : 0 ≤ tot hs p := by
  induction hs with
  | nil => exact Int.le_refl _
  | cons a l ih =>
    have h1 := PT.at_01 (PT.pl_ok (h a List.mem_cons_self).pl) p
    have h2 := ih fun x hx => h x (List.mem_cons_of_mem _ hx)
    rw [tot_cons]
    omega
theorem Bs.apart {n : Nat} {hs : List Hand} (b : Bs n hs) {i j : Nat} {h g : Hand} (ne : i ≠ j) (e : hs[i]? = some h) (e' : hs[j]? = some g) : h.pt.apart g.pt = true := by
  rw [PT.apart_iff (b.all h (mem_at e)).pl (b.all g (mem_at e')).pl]
  intro p
  have h1 := wo_tot ne e e' p
  have h2 := b.tot p
  have h3 := tot_nn (hs := wo i j hs) (fun x hx => b.all x (keepI_sub hx)) p
  omega
theorem PT.both_r0 {t : PT} (h : t ≠ .lf 0) : t.both (.lf 0) = t := by
  cases t with
  | lf i =>
    have h' : i ≠ 0 := fun z => h (by rw [z])
    rw [PT.both, if_neg h']
  | nd l r => rw [PT.both]
theorem HB.mono {n m : Nat} {h : Hand} (b : HB n h) (le : n ≤ m) : HB m h :=
  ⟨b.pl, b.ne, b.cl, Nat.le_trans b.pd le, Nat.le_trans b.cd le, b.ks, fun k hk => ⟨(b.kb k hk).1, by have := (b.kb k hk).2; omega⟩⟩
theorem PT.both_ne {t u : PT} (ht : t.pl) (hu : u.pl) (ha : t.apart u = true) (n : t ≠ .lf 0) : (t.both u).plain ≠ .lf 0 := fun z => by
  refine n (PT.const ht fun p => ?_)
  have e : (t.both u).plain.at p = 0 := by rw [z, PT.at_lf]
  rw [PT.plain_at, PT.both_at ha] at e
  have h1 := PT.at_01 (PT.pl_ok ht) p
  have h2 := PT.at_01 (PT.pl_ok hu) p
  omega
theorem Bs.step {n : Nat} {hs hs' : List Hand} (b : Bs n hs) (n16 : n ≤ 40) (s : Step n hs hs') : Bs (n + 1) hs' := by
  cases s with
  | part i h e l =>
    have hb := b.all h (mem_at e)
    have hp := PT.hv_pl hb.pl
    have hn := PT.hv_ne hb.ne
    have hd := PT.hv_dep h.pt
    have pd := hb.pd
    have len := rep_len e [⟨h.pt.hv.1, h.ct, h.kn⟩, ⟨h.pt.hv.2, h.ct, h.kn⟩]
    simp only [List.length_cons, List.length_nil] at len
    refine ⟨by omega, by omega, fun x hx => ?_, fun p => ?_⟩
    · rcases rep_mem hx with m | m
      · exact (b.all x m).mono (Nat.le_succ n)
      · have hb' := hb.mono (Nat.le_succ n)
        rcases List.mem_cons.mp m with rfl | m
        · exact ⟨hp.1, hn.1, hb.cl, by show h.pt.hv.1.dep ≤ n + 1; omega, hb'.cd, hb.ks, hb'.kb⟩
        · obtain rfl := List.mem_singleton.mp m
          exact ⟨hp.2, hn.2, hb.cl, by show h.pt.hv.2.dep ≤ n + 1; omega, hb'.cd, hb.ks, hb'.kb⟩
    · have h1 := rep_tot e [⟨h.pt.hv.1, h.ct, h.kn⟩, ⟨h.pt.hv.2, h.ct, h.kn⟩] p
      have h2 := PT.hv_at (PT.pl_ok hb.pl) p
      have h3 := b.tot p
      rw [tot_cons, tot_cons, tot_nil] at h1
      dsimp only at h1
      omega
  | done i h e =>
    have hb := b.all h (mem_at e)
    have len := rep_len e [⟨h.pt, CT.rs h.ct h.pt, h.kn ++ [(n : Int)]⟩]
    simp only [List.length_cons, List.length_nil] at len
    have l1 := b.l1
    have l6 := b.l6
    have hb' := hb.mono (Nat.le_succ n)
    refine ⟨by omega, by omega, fun x hx => ?_, fun p => ?_⟩
    · rcases rep_mem hx with m | m
      · exact (b.all x m).mono (Nat.le_succ n)
      · obtain rfl := List.mem_singleton.mp m
        refine ⟨hb.pl, hb.ne, CT.plain_pl (CT.mo_nn _ (CT.pl_nn hb.cl)), hb'.pd, ?_, ?_, ?_⟩
        · have h1 := CT.plain_dep (CT.mo h.ct h.pt)
          have h2 := CT.mo_dep h.pt h.ct
          have h3 := hb.pd
          have h4 := hb.cd
          show (CT.mo h.ct h.pt).plain.dep ≤ n + 1
          omega
        · rw [List.pairwise_append]
          exact ⟨hb.ks, List.pairwise_singleton _ _, fun a ha b hb2 => by rw [List.mem_singleton.mp hb2]; exact (hb.kb a ha).2⟩
        · intro k hk
          rcases List.mem_append.mp hk with hk | hk
          · exact hb'.kb k hk
          · rw [List.mem_singleton.mp hk]; omega
    · have h1 := rep_tot e [⟨h.pt, CT.rs h.ct h.pt, h.kn ++ [(n : Int)]⟩] p
      have h3 := b.tot p
      rw [tot_cons, tot_nil] at h1
      dsimp only at h1
      omega
  | sent i j h g kn ne e e' u =>
    have hb := b.all h (mem_at e)
    have gb := b.all g (mem_at e')
    have len := rep_len e' [⟨g.pt, CT.hst g.ct h.ct, kn⟩]
    simp only [List.length_cons, List.length_nil] at len
    have l1 := b.l1
    have l6 := b.l6
    have hb' := hb.mono (Nat.le_succ n)
    have gb' := gb.mono (Nat.le_succ n)
    refine ⟨by omega, by omega, fun x hx => ?_, fun p => ?_⟩
    · rcases rep_mem hx with m | m
      · exact (b.all x m).mono (Nat.le_succ n)
      · obtain rfl := List.mem_singleton.mp m
        refine ⟨gb.pl, gb.ne, CT.hst_pl (CT.pl_nn gb.cl) (CT.pl_nn hb.cl), gb'.pd, ?_, u.1, ?_⟩
        · have h1 := CT.hst_dep g.ct h.ct
          have h3 := gb.cd
          have h4 := hb.cd
          show (CT.hst g.ct h.ct).dep ≤ n + 1
          omega
        · intro k hk
          rcases (u.2 k).mp hk with hk | hk
          · exact hb'.kb k hk
          · exact gb'.kb k hk
    · have h1 := rep_tot e' [⟨g.pt, CT.hst g.ct h.ct, kn⟩] p
      have h3 := b.tot p
      rw [tot_cons, tot_nil] at h1
      dsimp only at h1
      omega
  | met i j h g kn ne e e' u =>
    have hb := b.all h (mem_at e)
    have gb := b.all g (mem_at e')
    have hb' := hb.mono (Nat.le_succ n)
    have gb' := gb.mono (Nat.le_succ n)
    have ha := b.apart ne e e'
    have l6 := b.l6
    have len := wo_len ne e e'
    refine ⟨by rw [List.length_append, List.length_singleton]; omega, by rw [List.length_append, List.length_singleton]; omega, fun x hx => ?_, fun p => ?_⟩
    · rcases List.mem_append.mp hx with m | m
      · exact (b.all x (keepI_sub m)).mono (Nat.le_succ n)
      · obtain rfl := List.mem_singleton.mp m
        refine ⟨PT.plain_pl (PT.both_ok (PT.pl_ok hb.pl) (PT.pl_ok gb.pl)), PT.both_ne hb.pl gb.pl ha hb.ne, CT.hst_pl (CT.pl_nn hb.cl) (CT.pl_nn gb.cl), ?_, ?_, u.1, ?_⟩
        · have h1 := PT.plain_dep (h.pt.both g.pt)
          have h2 := PT.both_dep h.pt g.pt
          have h3 := gb.pd
          have h4 := hb.pd
          show (h.pt.both g.pt).plain.dep ≤ n + 1
          omega
        · have h1 := CT.hst_dep h.ct g.ct
          have h3 := gb.cd
          have h4 := hb.cd
          show (CT.hst h.ct g.ct).dep ≤ n + 1
          omega
        · intro k hk
          rcases (u.2 k).mp hk with hk | hk
          · exact hb'.kb k hk
          · exact gb'.kb k hk
    · have h1 := wo_tot ne e e' p
      have h3 := b.tot p
      have h4 : (h.pt.both g.pt).plain.at p = h.pt.at p + g.pt.at p := by rw [PT.plain_at, PT.both_at ha]
      rw [tot_app, tot_cons, tot_nil]
      dsimp only
      omega
theorem Bs.z : Bs 0 [h0] := ⟨Nat.le_refl _, by decide, fun h m => by
  obtain rfl := List.mem_singleton.mp m
  exact ⟨.inr rfl, PT.lf10, Int.le_refl _, Nat.le_refl _, Nat.le_refl _, .nil, fun k hk => by cases hk⟩, fun p => rfl⟩
theorem Run.bs {n : Nat} {hs ev : List Hand} (r : Run n hs ev) (le : n ≤ 40) : Bs n hs := by
  induction r with
  | z => exact Bs.z
  | s r st _ _ _ ih => exact (ih (by omega)).step (by omega) st
theorem Run.ev {n : Nat} {hs ev : List Hand} (r : Run n hs ev) (le : n ≤ 40) : (∀ h ∈ ev, HB n h) ∧ ev.length ≤ 1 + 6 * n := by
  induction r with
  | z => exact ⟨Bs.z.all, by decide⟩
  | s r st sub _ len ih =>
    have ih' := ih (by omega)
    refine ⟨fun h hh => ?_, by omega⟩
    rcases sub h hh with m | m
    · exact (ih'.1 h m).mono (Nat.le_succ _)
    · exact ((r.bs (by omega)).step (by omega) st).all h m
theorem inc_len : ∀ {l : List Int} {a b : Int}, l.Pairwise (· < ·) → (∀ k ∈ l, a ≤ k ∧ k < b) → a ≤ b → (l.length : Int) ≤ b - a
  | [], a, b, _, _, h => by simp only [List.length_nil]; omega
  | x :: l, a, b, hp, hb, h => by
    rw [List.pairwise_cons] at hp
    have hx := hb x List.mem_cons_self
    have ih := inc_len (l := l) (a := x + 1) (b := b) hp.2 (fun k hk => ⟨hp.1 k hk, (hb k (List.mem_cons_of_mem _ hk)).2⟩) (by omega)
    simp only [List.length_cons]
    omega
theorem HB.kl {n : Nat} {h : Hand} (b : HB n h) : h.kn.length ≤ n := by
  have := inc_len (l := h.kn) (a := 0) (b := n) b.ks b.kb (by omega)
  omega

/-! ### lists of data; set(t); hands in the heap -/
theorem dpall_app {K : PySem.W.Frag} {H : Hp} : ∀ {vs ws : List V} {ds es : List PyData}, DpAll K H vs ds → DpAll K H ws es → DpAll K H (vs ++ ws) (ds ++ es)
  | _, _, _, _, .nil, h => h
  | _, _, _, _, .cons h1 h2, h => .cons h1 (dpall_app h2 h)
theorem dpall_take {K : PySem.W.Frag} {H : Hp} : ∀ {vs : List V} {ds : List PyData} (i : Nat), DpAll K H vs ds → DpAll K H (vs.take i) (ds.take i)
  | _, _, 0, _ => by simpa using DpAll.nil
  | _, _, i + 1, .nil => by simpa using DpAll.nil
  | _, _, i + 1, .cons h1 h2 => .cons h1 (dpall_take i h2)
theorem dpall_drop {K : PySem.W.Frag} {H : Hp} : ∀ {vs : List V} {ds : List PyData} (i : Nat), DpAll K H vs ds → DpAll K H (vs.drop i) (ds.drop i)
  | _, _, 0, h => h
  | _, _, i + 1, .nil => .nil
  | _, _, i + 1, .cons h1 h2 => dpall_drop i h2
theorem dpall_get {K : PySem.W.Frag} {H : Hp} : ∀ {vs : List V} {ds : List PyData} {i : Nat} {v : V}, DpAll K H vs ds → vs[i]? = some v → ∃ d, ds[i]? = some d ∧ Dp K H v d
  | _, _, 0, v, .cons h1 h2, e => by
    rw [List.getElem?_cons_zero] at e
    cases e
    exact ⟨_, rfl, h1⟩
  | _, _, i + 1, v, .cons h1 h2, e => by
    rw [List.getElem?_cons_succ] at e
    rw [List.getElem?_cons_succ]
    exact dpall_get h2 e
  | _, _, i, v, .nil, e => by simp at e
theorem dp_lst {K : PySem.W.Frag} {H : Hp} {v : V} {ds : List PyData} (h : Dp K H v (.list ds)) : ∃ a xs, v = .ref a ∧ SqL K H a xs ∧ DpAll K H xs ds := by
  cases h with
  | lst hs ha => exact ⟨_, _, rfl, hs, ha⟩
theorem dpall_ints {K : PySem.W.Frag} {H : Hp} : ∀ {vs : List V} {ns : List Int}, DpAll K H vs (ns.map PyData.int) → vs = ns.map V.int
  | _, [], .nil => rfl
  | _, n :: ns, .cons h1 h2 => by
    rw [dp_int h1, dpall_ints h2]
    rfl
theorem dpall_of_ints {K : PySem.W.Frag} {H : Hp} : ∀ ns : List Int, DpAll K H (ns.map V.int) (ns.map PyData.int)
  | [] => .nil
  | n :: ns => .cons (.int n) (dpall_of_ints ns)
theorem dp_ints {K : PySem.W.Frag} {H : Hp} {v : V} {ns : List Int} (h : Dp K H v (.tuple (ns.map PyData.int))) : ∃ a, v = .ref a ∧ SqT K H a (ns.map V.int) := by
  obtain ⟨a, xs, rfl, hs, ha⟩ := dp_tup h
  rw [dpall_ints ha] at hs
  exact ⟨a, rfl, hs⟩
theorem dp_of_ints {K : PySem.W.Frag} {H : Hp} {a : Addr} {ns : List Int} (h : SqT K H a (ns.map V.int)) : Dp K H (.ref a) (.tuple (ns.map PyData.int)) := .tup h (dpall_of_ints ns)
/-- set(t) of a tuple of ints -/
def rSetT (K : PySem.W.Frag) (w : World) : List V → Hp → VK → Prop := fun vs H Q => ∃ (a : Addr) (ns : List Int), vs = [.ref a] ∧ SqT K H a (ns.map V.int) ∧ ns.length ≤ 1000 ∧
  ∀ (p : Addr) (n : Nat), H p = none → n ≤ ns.length → Q (.ref p) (upd H p (SetO w p (fun j => decide (j ∈ ns)) n))
theorem cr_setT {X : Cx} (hc : X.calm = true) : CallR X (.type "set") (rSetT X.K X.w) := by
  intro pins s σ H xs us Q I r h
  obtain ⟨a, ns, rfl, hq, hl, q⟩ := h
  cases r with
  | cons r rr =>
    cases rr
    cases r
    obtain ⟨its, rv, pt, hz⟩ := I.tuple hq
    have hi : IntsAre its.toArray.toList ns := ints_of_vals rv
    refine call_set_tupI ns (I.ok.hd hc) (show s.heap.IsTuple a its.toArray from pt) hi (by unfold scanBound; omega) fun h' tk c R1 hcn k => ?_
    exact ⟨.ref _, upd H s.heap.objs.size (SetO X.w s.heap.objs.size (fun j => decide (j ∈ ns)) c), I.laid (t' := tk) k (Nat.le_refl _) (setO_new R1), rfl, q _ c (I.hok.fresh (Nat.le_refl _)) hcn⟩
def hds (hs : List Hand) : List PyData := hs.map Hand.d
theorem ints_depth : ∀ ns : List Int, PyData.depthAll (ns.map PyData.int) = 0
  | [] => by simp [PyData.depthAll]
  | n :: ns => by simp [PyData.depthAll, PyData.depth, ints_depth ns]
theorem ints_lay : ∀ ns : List Int, PyData.canLayAll0 (ns.map PyData.int) = true
  | [] => by simp [PyData.canLayAll0]
  | n :: ns => by simp [PyData.canLayAll0, PyData.canLay0, ints_lay ns]
theorem Hand.lay (h : Hand) : h.d.canLay0 = true := by
  simp [Hand.d, clockD, PyData.canLay0, PyData.canLayAll0, PT.lay_d, CT.lay_d, ints_lay]
theorem Hand.depth {n : Nat} {h : Hand} (b : HB n h) : h.d.depth ≤ n + 2 := by
  have h1 := b.pd
  have h2 := b.cd
  simp only [Hand.d, clockD, PyData.depth, PyData.depthAll, PT.depth_d, CT.depth_d, ints_depth]
  omega
theorem Hand.sh {n : Nat} {h : Hand} (b : HB n h) (le : n ≤ 40) : SeqAt.shaped h.d = true := by
  unfold SeqAt.shaped
  rw [Hand.lay, Bool.true_and]
  have := Hand.depth b
  exact decide_eq_true (by omega)
theorem hds_lay : ∀ hs : List Hand, PyData.canLayAll0 (hds hs) = true
  | [] => by simp [hds, PyData.canLayAll0]
  | h :: hs => by
    have := hds_lay hs
    unfold hds at this
    simp [hds, PyData.canLayAll0, Hand.lay, this]
theorem hds_depth {n : Nat} : ∀ {hs : List Hand}, (∀ h ∈ hs, HB n h) → PyData.depthAll (hds hs) ≤ n + 2
  | [], _ => by simp [hds, PyData.depthAll]
  | h :: hs, b => by
    have h1 := Hand.depth (b h List.mem_cons_self)
    have h2 := hds_depth (hs := hs) fun x hx => b x (List.mem_cons_of_mem _ hx)
    unfold hds at h2 ⊢
    simp only [List.map_cons, PyData.depthAll]
    omega
theorem hds_sh {n : Nat} {hs : List Hand} (b : ∀ h ∈ hs, HB n h) (le : n ≤ 40) : SeqAt.shaped (.list (hds hs)) = true := by
  unfold SeqAt.shaped
  have h1 := hds_depth b
  simp only [PyData.canLay0, PyData.depth, hds_lay, Bool.true_and]
  exact decide_eq_true (by omega)
theorem hand_inv {K : PySem.W.Frag} {H : Hp} {v : V} {h : Hand} (d : Dp K H v h.d) : ∃ a c k, v = .ref a ∧ SqT K H a [c, .ref k] ∧ Dp K H c (clockD h.pt h.ct) ∧ SqT K H k (h.kn.map V.int) := by
  obtain ⟨a, c, k, rfl, hs, h1, h2⟩ := dp_tup2 d
  obtain ⟨b, rfl, h3⟩ := dp_ints h2
  exact ⟨a, c, b, rfl, hs, h1, h3⟩
theorem hand_new {K : PySem.W.Frag} {H : Hp} {p k : Addr} {c : V} {u : PT} {t : CT} {kn : List Int} (hp : H p = none) (hc : Dp K H c (clockD u t)) (hk : SqT K H k (kn.map V.int)) : Dp K (upd H p (.tup [c, .ref k])) (.ref p) (Hand.d ⟨u, t, kn⟩) := dp_new2 hp hc (dp_of_ints hk)
theorem atI_get {xs : List V} {k : Int} (h0 : 0 ≤ k) (h : k < (xs.length : Int)) : ∃ (i : Nat) (v : V), k = (i : Int) ∧ xs[i]? = some v ∧ atI xs k = some v := by
  have hk : k.toNat < xs.length := by omega
  refine ⟨k.toNat, xs[k.toNat], by omega, List.getElem?_eq_getElem hk, ?_⟩
  have q : atI xs ((k.toNat : Nat) : Int) = some xs[k.toNat] := atI_nat (List.getElem?_eq_getElem hk)
  rw [show ((k.toNat : Nat) : Int) = k by omega] at q
  exact q
theorem hds_get {K : PySem.W.Frag} {H : Hp} {vs : List V} {hs : List Hand} {i : Nat} {v : V} (d : DpAll K H vs (hds hs)) (e : vs[i]? = some v) : ∃ h, hs[i]? = some h ∧ Dp K H v h.d := by
  obtain ⟨x, hx, dx⟩ := dpall_get d e
  unfold hds at hx
  rw [List.getElem?_map] at hx
  cases eh : hs[i]? with
  | none => rw [eh] at hx; cases hx
  | some h =>
    rw [eh] at hx
    cases hx
    exact ⟨h, rfl, dx⟩
theorem op_notInTK {X : Cx} {K : PySem.W.Frag} (h : X.K = K) (hu : X.A.units + 65 < cLine) : OpR X (compareOp .NotIn) (rNotInT K) := h ▸ op_notInT hu
theorem op_notInDK {X : Cx} {K : PySem.W.Frag} (h : X.K = K) (hu : X.A.units + 65 < cLine) : OpR X (compareOp .NotIn) (rNotInD K) := h ▸ op_notInD hu
theorem pg_tupK {X : Cx} {K : PySem.W.Frag} {pos : Pos} {es : List Expr} {k : Nat} {t : TGs} {n : Nat} (hK : X.K = K) (hc : X.calm = true) (h : PGs X es t)
    (hn : (assignEach es X.env).length = n := by rfl) (hst : (assignEach es X.env).findIdx? (·.1) = none := by rfl) : PG X (.Tuple es k pos) (gTup K n t) := hK ▸ pg_tup hc h hn hst
theorem rep_dp {K : PySem.W.Frag} {H : Hp} {vs ws : List V} {hs new : List Hand} {i : Nat} (hA : DpAll K H vs (hds hs)) (hn : DpAll K H ws (hds new)) : DpAll K H (vs.take i ++ ws ++ vs.drop (i + 1)) (hds (rep hs i new)) := by
  have h1 := dpall_take i hA
  have h2 := dpall_drop (i + 1) hA
  have e : hds (rep hs i new) = (hds hs).take i ++ hds new ++ (hds hs).drop (i + 1) := by
    unfold hds rep
    rw [List.map_append, List.map_append, List.map_take, List.map_drop]
  rw [e]
  exact dpall_app (dpall_app h1 hn) h2
theorem six_lt {n : Nat} (h : n ≤ 100) : n ≤ sizeLine := Nat.le_of_lt (small1000 (by omega))
theorem dpall_keepI {K : PySem.W.Frag} {H : Hp} {q : Nat → Bool} : ∀ {vs : List V} {ds : List PyData} (s : Nat), DpAll K H vs ds → DpAll K H (keepI q s vs) (keepI q s ds)
  | _, _, _, .nil => .nil
  | _, _, s, .cons (v := v) (vs := vs) (d := d) (ds := ds) h1 h2 => by
    have ih := dpall_keepI (q := q) (s + 1) h2
    unfold keepI
    split
    · exact .cons h1 ih
    · exact ih
theorem keepI_map {α β : Type} (f : α → β) {q : Nat → Bool} : ∀ (xs : List α) (s : Nat), (keepI q s xs).map f = keepI q s (xs.map f)
  | [], _ => rfl
  | a :: xs, s => by
    have ih := keepI_map f (q := q) xs (s + 1)
    show (if q s = true then a :: keepI q (s + 1) xs else keepI q (s + 1) xs).map f = if q s = true then f a :: keepI q (s + 1) (xs.map f) else keepI q (s + 1) (xs.map f)
    rw [← ih]
    split <;> rfl
theorem eqv_ints (i t : Nat) : PyData.eqv (.int (i : Int)) (.int (t : Int)) = decide (i = t) := by
  have e : PyData.eqv (.int (i : Int)) (.int (t : Int)) = decide ((i : Int) = (t : Int)) := by
    simp only [PyData.eqv]
    exact Bool.beq_eq_decide_eq _ _
  rw [e]
  exact decide_eq_decide.mpr (by omega)
theorem notin_two (i j t : Nat) : (!([PyData.int (i : Int), .int (j : Int)].any fun z => PyData.eqv z (.int (t : Int)))) = !(decide (i = t) || decide (j = t)) := by
  simp only [List.any_cons, List.any_nil, eqv_ints, Bool.or_false]
theorem sh_int (i : Int) : SeqAt.shaped (.int i) = true := by
  unfold SeqAt.shaped
  simp [PyData.canLay0, PyData.depth]
theorem sh_two (i j : Int) : SeqAt.shaped (.tuple [.int i, .int j]) = true := by
  unfold SeqAt.shaped
  simp [PyData.canLay0, PyData.canLayAll0, PyData.depth, PyData.depthAll]
theorem ite_both {c : Bool} {A B : Prop} (a : A) (b : B) : if c = true then A else B := by
  cases c
  · exact iteF b
  · exact iteT a
theorem hds_len (hs : List Hand) : (hds hs).length = hs.length := List.length_map _
theorem hds_app (a b : List Hand) : hds (a ++ b) = hds a ++ hds b := List.map_append
theorem PT.noLst : ∀ t : PT, TC.noLst t.d = true
  | .lf _ => by simp [PT.d, TC.noLst]
  | .nd l r => by simp [PT.d, TC.noLst, noLsts, PT.noLst l, PT.noLst r]
theorem CT.noLst : ∀ t : CT, TC.noLst t.d = true
  | .lf _ => by simp [CT.d, TC.noLst]
  | .nd n l r => by simp [CT.d, TC.noLst, noLsts, CT.noLst l, CT.noLst r]
theorem ints_noLst : ∀ ns : List Int, noLsts (ns.map PyData.int) = true
  | [] => by simp [noLsts]
  | n :: ns => by simp [noLsts, noLst, ints_noLst ns]
theorem hds_noLst : ∀ hs : List Hand, noLsts (hds hs) = true
  | [] => by simp [hds, noLsts]
  | h :: hs => by
    have := hds_noLst hs
    unfold hds at this
    simp [hds, noLsts, Hand.d, clockD, noLst, PT.noLst, CT.noLst, ints_noLst, this]
theorem ix_tupK {X : Cx} {K : PySem.W.Frag} (h : X.K = K) : IxR X (rIxT K) := h ▸ ix_tup
theorem sh_bl (b : Bool) : SeqAt.shaped (.bool b) = true := by
  unfold SeqAt.shaped
  simp [PyData.canLay0, PyData.depth]

/-! ### truths among the numbers; a tuple backwards -/
namespace RT
open PySem PySem.Spec PySem.Calls PyProof.Rows
section
variable {prog : Program} {w : World} {A : Around} {E : Value → Shared → Prop} {s : Shared}
theorem neg_gives (b : Bool) : Gives (Builtin.«int.__neg__» ⟨[.bool b], []⟩) (.int (-(if b = true then (1 : Int) else 0))) :=
  .of_wp fun M A E s Q h => by
    obtain ⟨hp, g, d, tk, os⟩ := s
    wp_walk
    exact ⟨_, rfl, h⟩
theorem neg_bool {b : Bool} {Q : Value → Shared → Prop} (h : Q (.int (-(if b = true then (1 : Int) else 0)) s.toks) { s with toks := s.toks + 1 }) : wpAny (model prog w) A (unaryOp .USub (.bool b)) Q E s :=
  unaryOp_gives (op := .USub) (PySem.typeIs_bool s b) rfl F.slot_bool_neg F.entry_int_neg (F.args_int_neg_1 _) (neg_gives b) h
theorem applied_back {sl : Addr} {vc : Value} {n : Nat} {Q : Int × Int × Nat → Shared → Prop} (hs : s.heap.IsSliceOf sl .none .none vc) (pc : IsPart vc (some (-1))) (h : Q ((n : Int) - 1, -1, n) s) :
    wpAny (model prog w) A (Builtin.Slice.sliceApplied (.ref sl) (pure (n : Int))) Q E s := by
  obtain ⟨os, hos, hcs, hds⟩ := id hs
  unfold Builtin.Slice.sliceApplied Builtin.Slice.sliceFields
  refine wpAny_bind (wpAny_bind (wpAny_field hos hds (x := Value.none) rfl (wpAny_bind (wpAny_field hos hds (x := Value.none) rfl (wpAny_bind (wpAny_field hos hds (x := vc) rfl (wpAny_pure ?_)))))))
  refine wpAny_bind (HT.slicePart_ pc ?_)
  show wpAny _ _ (if ((-1 : Int) == 0) = true then _ else _) _ _ s
  rw [if_neg (by decide)]
  refine wpAny_bind (HT.slicePart_ .none (wpAny_bind (HT.slicePart_ .none (wpAny_bind (wpAny_pure ?_)))))
  have e1 : Builtin.Slice.sliceAdjust none none (-1) (n : Int) = ((n : Int) - 1, -1) := by simp [Builtin.Slice.sliceAdjust]
  have e2 : Builtin.Slice.slicePlaces ((n : Int) - 1) (-1) (-1) = n := by
    unfold Builtin.Slice.slicePlaces
    rw [if_neg (by decide)]
    have e : - (-1 : Int) = 1 := by decide
    rw [e, Int.ediv_one]
    split <;> omega
  show wpAny _ _ (match Builtin.Slice.sliceAdjust none none (-1) (n : Int) with | (lo, hi) => pure (lo, (-1 : Int), Builtin.Slice.slicePlaces lo hi (-1))) _ _ s
  rw [e1]
  show wpAny _ _ (pure ((n : Int) - 1, (-1 : Int), Builtin.Slice.slicePlaces ((n : Int) - 1) (-1) (-1))) _ _ s
  rw [e2]
  exact wpAny_pure h
theorem fm_congr {α β : Type} {f g : α → Option β} : ∀ {l : List α}, (∀ x ∈ l, f x = g x) → l.filterMap f = l.filterMap g
  | [], _ => rfl
  | a :: l, h => by
    rw [List.filterMap_cons, List.filterMap_cons, h a List.mem_cons_self, fm_congr fun x hx => h x (List.mem_cons_of_mem _ hx)]
theorem pick_back (xs : Array Value) : ((List.range xs.size).filterMap fun (m : Nat) => xs[((xs.size : Int) - 1 + (m : Int) * (-1)).toNat]?).toArray = xs.toList.reverse.toArray := by
  have e : (List.range xs.size).filterMap (fun (m : Nat) => xs[((xs.size : Int) - 1 + (m : Int) * (-1)).toNat]?) = ((List.range xs.size).map fun k => xs.size - 1 - k).filterMap (xs[·]?) := by
    rw [List.filterMap_map]
    refine fm_congr fun k hk => ?_
    have hk' := List.mem_range.mp hk
    show xs[((xs.size : Int) - 1 + (k : Int) * (-1)).toNat]? = xs[xs.size - 1 - k]?
    rw [show ((xs.size : Int) - 1 + (k : Int) * (-1)).toNat = xs.size - 1 - k by omega]
  rw [e, PySem.W.krv_range, List.filterMap_reverse, PySem.W.krv_all]
theorem back_item {t sl : Addr} {items : Array Value} {vc : Value} {Q : Value → Shared → Prop} (ht : IsTup s.heap t items) (hs : s.heap.IsSliceOf sl .none .none vc) (pc : IsPart vc (some (-1)))
    (h : Q (.ref s.heap.objs.size) { s with heap := s.heap.push { cls := .type "tuple", data := .seq items.toList.reverse.toArray } }) (hsz : items.size ≤ sizeLine) : wpAny (model prog w) A (getItem (.ref t) (.ref sl)) Q E s := by
  have hfit : sizeOk (.seq items.toList.reverse.toArray) := by
    show items.toList.reverse.toArray.size ≤ sizeLine
    rw [List.size_toArray, List.length_reverse, Array.length_toList]
    exact hsz
  obtain ⟨os, hos, hcs, hds⟩ := id hs
  have hslice : s.TypeIs (.ref sl) "slice" := ⟨os, hos, hcs⟩
  unfold getItem
  try with_reducible refine wpAny_holding ?_
  first | refine wpAny_bind (wpAny_pure ?_) | skip
  refine wpAny_bind (wpAny_sequenceKey ht.typeIs (by decide) ?_)
  refine wpAny_bind (wpAny_callSpecial?_slot (name := Str.ofString "__getitem__") ht.typeIs PyProof.Rows.slot_tuple_getitem (wpAny_call_entry PyProof.Rows.slot_tuple_getitem ht.typeIs entry_tuple_getitem ?_ (args_tuple_getitem _ _)))
  show wpAny _ _ (Builtin.Tuple.tupleItemsOf (.ref t) >>= _) _ _ s
  refine wpAny_bind (tupleItemsOf_ ht (wpAny_bind (wpAny_typeOf hslice ?_)))
  rw [if_pos (by decide)]
  refine wpAny_bind (applied_back hs pc ?_)
  have hno : ¬ (((items.size : Int) - 1 == 0 && (-1 : Int) == 1 && items.size == items.size) = true) := by
    intro q
    rw [Bool.and_eq_true, Bool.and_eq_true] at q
    exact absurd (eq_of_beq q.1.2) (by decide)
  show wpAny _ _ (if ((items.size : Int) - 1 == 0 && (-1 : Int) == 1 && items.size == items.size) = true then _ else _) _ _ s
  rw [if_neg hno, pick_back]
  first
    | exact wpAny_bind (m := Builtin.Tuple.tupleExact _) (wpAny_newObj_type (wpAny_pure ⟨_, rfl, wpAny_pure h⟩) hfit)
    | exact wpAny_bind (m := Builtin.Tuple.tupleExact _) (wpAny_newObj_type (wpAny_bind (wpAny_pure (wpAny_pure ⟨_, rfl, wpAny_pure h⟩))) hfit)
    | exact wpAny_bind (wpAny_bind (m := Builtin.Tuple.tupleExact _) (wpAny_newObj_type (wpAny_pure (wpAny_pure ⟨_, rfl, wpAny_pure h⟩)) hfit))
    | exact wpAny_bind (wpAny_bind (m := Builtin.Tuple.tupleExact _) (wpAny_newObj_type (wpAny_pure ⟨_, rfl, wpAny_pure h⟩) hfit))
end
end RT
/-- t[::-1] of a tuple -/
def tRevT (K : PySem.W.Frag) (te : TE) : TE := fun σ H Q => te σ H fun x H1 => ∃ a xs, x = .ref a ∧ SqT K H1 a xs ∧ ∀ p, H1 p = none → Q (.ref p) (upd H1 p (.tup xs.reverse))
theorem pe_revT {X : Cx} {e : Expr} {te : TE} {k : Nat} {p1 p2 p3 pos : Pos} (he : PE X e te) : PE X (.Subscript e (.Slice none none (some (.UnaryOp .USub (.Constant (.int 1) k p1) p2)) p3) pos) (tRevT X.K te) := by
  refine ⟨fun pins s σ H Q I h => Subscript_ (thn (he.run pins s σ H _ I h) fun v s1 ⟨x, H1, I1, r1, q1⟩ => ?_)⟩
  obtain ⟨a, xs, ex, hx, q⟩ := q1
  subst ex
  cases r1
  have hst : PO X (some (.UnaryOp .USub (.Constant (.int 1) k p1) p2)) (tPart (tUn (rU fun i => .int (-i)) (tC (.int 1)))) := po_some (pe_un un_neg pe_int)
  refine wpAny_Slice (thn (po_none.run pins s1 σ H1 (fun o G => o = none ∧ G = H1) I1 ⟨rfl, rfl⟩) fun vl s2 ⟨l, H2, I2, pl, el, e2⟩ => ?_)
  subst el e2
  refine thn (po_none.run pins s2 σ H2 (fun o G => o = none ∧ G = H2) I2 ⟨rfl, rfl⟩) fun vu s3 ⟨u, H3, I3, pu, eu, e3⟩ => ?_
  subst eu e3
  refine thn (hst.run pins s3 σ H3 (fun o G => o = some (-1) ∧ G = H3) I3 ⟨1, rfl, -1, rfl, rfl, rfl⟩) fun vs s4 ⟨o, H4, I4, ps, eo, e4⟩ => ?_
  subst eo e4
  cases pl
  cases pu
  have I5 : Inv X pins σ H4 { s4 with heap := s4.heap.push { cls := .type "slice", data := .fields #[Value.none, Value.none, vs] } } := I4.kept (t' := s4.toks) fun b ob q => Heap.get?_push_of_some _ q
  obtain ⟨its, r, ht, hz⟩ := I5.tuple hx
  have hlen := r.length
  show wpAny (model X.prog X.w) X.A (subscriptTail e (.Slice none none (some (.UnaryOp .USub (.Constant (.int 1) k p1) p2)) p3) (.ref a) (.ref s4.heap.objs.size)) (EP X pins σ Q) X.xe { s4 with heap := s4.heap.push { cls := .type "slice", data := .fields #[Value.none, Value.none, vs] } }
  refine tail_any (ops := [.ref a, .ref s4.heap.objs.size]) ht.typeIs (PyProof.Rows.slot_tuple_getitem.lookup) ?_ (by with_unfolding_all rfl)
  refine RT.back_item ht (Heap.IsSliceOf.new _ Value.none Value.none vs) ps ?_ (by rw [List.size_toArray]; omega)
  refine ⟨.ref _, _, I5.laid (t' := s4.toks) (o := .tup xs.reverse) (fun b ob q => Heap.get?_push_of_some _ q) (Nat.le_refl _) ?_, rfl, q _ (I5.hok.fresh (Nat.le_refl _))⟩
  exact ⟨by rw [List.length_reverse]; exact hz, _, r.reverse, IsTup.new _ _⟩
section
variable {X : Cx}
theorem un_negD : UnR X (unaryOp .USub) (fun x H Q => (∃ i : Int, x = .int i ∧ Q (.int (-i)) H) ∨ ∃ b : Bool, x = .bl b ∧ Q (.int (-(if b = true then 1 else 0))) H) := by
  intro pins s σ H x v Q I rx h
  rcases h with ⟨i, rfl, q⟩ | ⟨b, rfl, q⟩
  · exact un_neg pins s σ H _ v Q I rx ⟨i, rfl, q⟩
  · cases (show v = Value.bool b from rx)
    exact RT.neg_bool ⟨.int _, H, I.tok _, ⟨_, rfl⟩, q⟩
theorem op_addD : OpR X (binaryOp .Add) (fun x y H Q => (∃ i j : Int, x = .int i ∧ y = .int j ∧ Q (.int (i + j)) H) ∨ ∃ (b : Bool) (j : Int), x = .bl b ∧ y = .int j ∧ Q (.int ((if b = true then 1 else 0) + j)) H) := by
  intro pins s σ H x y v u Q I rx ry h
  rcases h with ⟨i, j, rfl, rfl, q⟩ | ⟨b, j, rfl, rfl, q⟩
  · exact op_add pins s σ H _ _ v u Q I rx ry ⟨i, j, rfl, rfl, q⟩
  · cases (show v = Value.bool b from rx)
    obtain ⟨t, rfl⟩ := ry
    exact PySem.IntBool.add_bool_int ⟨.int _, H, I.tok _, ⟨_, rfl⟩, q⟩
theorem call_strD : CallR X (.type "str") (fun xs H Q => (∃ i : Int, xs = [.int i] ∧ i.natAbs.log2 < 1920 ∧ Q (.str (toString i)) H) ∨ ∃ b : Bool, xs = [.bl b] ∧ Q (.str (if b = true then "True" else "False")) H) := by
  intro pins s σ H xs us Q I r h
  rcases h with ⟨i, rfl, hz, q⟩ | ⟨b, rfl, q⟩
  · exact call_str_int pins s σ H _ us Q I r ⟨i, rfl, hz, q⟩
  · obtain ⟨u, rfl, ru⟩ := vals1 r
    cases (show u = Value.bool b from ru)
    exact PySem.P.str_of_bool ⟨.str _, H, I.tok _, ⟨_, rfl⟩, q⟩
end

/-! ### spoilt things: how wide, how deep, how big -/
mutual
def wd (w M : Nat) : PyData → Prop
  | .int i => i.natAbs ≤ M
  | .tuple ds => ds.length ≤ w ∧ wds w M ds
  | .dict _ => False
  | .none | .bool _ | .str _ | .list _ => True
def wds (w M : Nat) : List PyData → Prop
  | [] => True
  | d :: ds => wd w M d ∧ wds w M ds
end
theorem wds_iff {w M : Nat} : ∀ {ds : List PyData}, wds w M ds ↔ ∀ d ∈ ds, wd w M d
  | [] => by simp [wds]
  | d :: ds => by
    simp only [wds, List.mem_cons, forall_eq_or_imp]
    rw [wds_iff (ds := ds)]
theorem wd_int {w M : Nat} {i : Int} : wd w M (.int i) ↔ i.natAbs ≤ M := by simp only [wd]
theorem wd_tup {w M : Nat} {ds : List PyData} : wd w M (.tuple ds) ↔ ds.length ≤ w ∧ ∀ d ∈ ds, wd w M d := by simp only [wd, wds_iff]
mutual
theorem wd_mono {w M w' M' : Nat} (hw : w ≤ w') (hM : M ≤ M') : ∀ (d : PyData), wd w M d → wd w' M' d
  | .int i, h => by rw [wd_int] at h ⊢; omega
  | .tuple ds, h => by
    simp only [wd] at h ⊢
    exact ⟨Nat.le_trans h.1 hw, wds_mono hw hM ds h.2⟩
  | .dict _, h => by simp [wd] at h
  | .none, _ => by simp [wd]
  | .bool _, _ => by simp [wd]
  | .str _, _ => by simp [wd]
  | .list _, _ => by simp [wd]
theorem wds_mono {w M w' M' : Nat} (hw : w ≤ w') (hM : M ≤ M') : ∀ (ds : List PyData), wds w M ds → wds w' M' ds
  | [], _ => by simp [wds]
  | d :: ds, h => by
    simp only [wds] at h ⊢
    exact ⟨wd_mono hw hM d h.1, wds_mono hw hM ds h.2⟩
end
theorem depthAll_le {k : Nat} : ∀ {ds : List PyData}, PyData.depthAll ds ≤ k ↔ ∀ d ∈ ds, d.depth ≤ k
  | [] => by simp [PyData.depthAll]
  | d :: ds => by
    simp only [PyData.depthAll, List.mem_cons, forall_eq_or_imp]
    rw [← depthAll_le (ds := ds)]
    omega
theorem depth_tup {k : Nat} {ds : List PyData} : (PyData.tuple ds).depth ≤ k + 1 ↔ ∀ d ∈ ds, d.depth ≤ k := by
  simp only [PyData.depth]
  rw [← depthAll_le]
  omega
theorem depth_lst (ds : List PyData) : (PyData.list ds).depth = (PyData.tuple ds).depth := by simp only [PyData.depth]
theorem PT.wd {M : Nat} (hM : 1 ≤ M) : ∀ {t : PT}, t.ok → TC.wd 3 M t.d
  | .lf i, h => by
    have e : PT.d (.lf i) = .int i := rfl
    rw [e, wd_int]
    rcases h with rfl | rfl <;> omega
  | .nd l r, h => by
    have e : PT.d (.nd l r) = .tuple [l.d, r.d] := rfl
    rw [e, wd_tup]
    refine ⟨by simp, fun d hd => ?_⟩
    rcases List.mem_cons.mp hd with rfl | hd
    · exact PT.wd hM h.1
    · rw [List.mem_singleton.mp hd]
      exact PT.wd hM h.2
theorem CT.wd {M : Nat} : ∀ {t : CT}, t.nn → t.bd ((M : Int) + 1) → TC.wd 3 M t.d
  | .lf i, h, b => by
    have e : CT.d (.lf i) = .int i := rfl
    rw [e, wd_int]
    have h1 : 0 ≤ i := h
    have h2 : i < (M : Int) + 1 := b
    omega
  | .nd n l r, h, b => by
    have e : CT.d (.nd n l r) = .tuple [.int n, l.d, r.d] := rfl
    rw [e, wd_tup]
    refine ⟨by simp, fun d hd => ?_⟩
    rcases List.mem_cons.mp hd with rfl | hd
    · rw [wd_int]
      have h1 : 0 ≤ n := h.1
      have h2 : n < (M : Int) + 1 := b.1
      omega
    · rcases List.mem_cons.mp hd with rfl | hd
      · exact CT.wd h.2.1 b.2.1
      · rw [List.mem_singleton.mp hd]
        exact CT.wd h.2.2 b.2.2
theorem CT.bd_mono {b c : Int} (h : b ≤ c) : ∀ {t : CT}, t.bd b → t.bd c
  | .lf n, z => by
    have z' : n < b := z
    show n < c
    omega
  | .nd n l r, z => ⟨by have := z.1; omega, CT.bd_mono h z.2.1, CT.bd_mono h z.2.2⟩
theorem CT.at_le {t : CT} : ∀ (k : Nat), t.bd 30 → t.dep ≤ k → ∀ p, t.at p ≤ 29 * (k + 1) := by
  induction t with
  | lf n =>
    intro k b _ p
    have b' : n < 30 := b
    rw [CT.at_lf]
    have : (0 : Int) ≤ (k : Int) := by omega
    omega
  | nd n l r hl hr =>
    intro k b d p
    have d' : max l.dep r.dep + 1 ≤ k := d
    obtain ⟨k', rfl⟩ : ∃ k', k = k' + 1 := ⟨k - 1, by omega⟩
    have h1 := hl k' b.2.1 (by omega) p.tail
    have h2 := hr k' b.2.2 (by omega) p.tail
    have b1 : n < 30 := b.1
    rw [CT.at_nd]
    split <;> (push_cast at *; omega)
theorem CT.at_nn : ∀ {t : CT}, t.nn → ∀ p, 0 ≤ t.at p
  | .lf _, h, _ => h
  | .nd n l r, h, p => by
    have h1 := CT.at_nn h.2.1 p.tail
    have h2 := CT.at_nn h.2.2 p.tail
    have h3 : 0 ≤ n := h.1
    rw [CT.at_nd]
    split <;> omega
theorem CT.bd_of {B : Int} : ∀ {t : CT}, t.nn → (∀ p, t.at p ≤ B) → t.bd (B + 1)
  | .lf n, _, h => by
    have : n ≤ B := h []
    show n < B + 1
    omega
  | .nd n l r, hn, h => by
    have h0 : 0 ≤ n := hn.1
    refine ⟨?_, CT.bd_of hn.2.1 fun p => ?_, CT.bd_of hn.2.2 fun p => ?_⟩
    · have h1 := h [false]
      have h2 := CT.at_nn hn.2.1 []
      rw [CT.at_l] at h1
      omega
    · have := h (false :: p)
      rw [CT.at_l] at this
      omega
    · have := h (true :: p)
      rw [CT.at_r] at this
      omega
theorem CT.plain_bd {t : CT} (h : t.nn) (b : t.bd 30) (d : t.dep ≤ 4) : t.plain.bd 150 := by
  refine CT.bd_mono (b := 145 + 1) (by decide) (CT.bd_of (CT.pl_nn (CT.plain_pl h)) fun p => ?_)
  rw [CT.plain_at]
  have := CT.at_le 4 b d p
  exact this
def odds : List PyData := [.int (-1), .int 0, .int 1, .int 2, .int 7, .bool true, .bool false, .none, .str "", .str "0", .tuple [], .list [], .tuple [.int 0, .int 0], .tuple [.int 1, .int 1], .tuple [.int 0, .int 1], .tuple [.int 1, .int 0], .tuple [.int 0, .int 0, .int 0], .tuple [.int 1, .int 0, .int 2],
  .tuple [.int 0, .int 1, .int 1], .tuple [.int 2, .int 3, .int 0], .list [.int 0, .int 1], .tuple [.int 0, .bool true], .tuple [.int 0], .tuple [.int (-1), .int 0, .int 1], .tuple [.int 0, .tuple [.int 0, .int 1], .int 0]]
theorem odds_ok : ∀ d ∈ odds, wd 3 7 d ∧ d.depth ≤ 2 := by
  intro d hd
  simp only [odds, List.mem_cons, List.not_mem_nil, or_false] at hd
  rcases hd with rfl | rfl | rfl | rfl | rfl | rfl | rfl | rfl | rfl | rfl | rfl | rfl | rfl | rfl | rfl | rfl | rfl | rfl | rfl | rfl | rfl | rfl | rfl | rfl | rfl <;> simp [wd, wds, PyData.depth, PyData.depthAll]
theorem dp_nt {K : PySem.W.Frag} {H : Hp} {p : Addr} {xs : List V} {ds : List PyData} (_ : H p = none) (h : DpAll K (upd H p (.tup xs)) xs ds) : Dp K (upd H p (.tup xs)) (.ref p) (.tuple ds) := .tup (SqT.of upd_same) h
theorem dp_nl {K : PySem.W.Frag} {H : Hp} {p : Addr} {xs : List V} {ds : List PyData} (_ : H p = none) (h : DpAll K (upd H p (.lst xs)) xs ds) : Dp K (upd H p (.lst xs)) (.ref p) (.list ds) := .lst (SqL.of upd_same) h

/-! ### texts of trees -/
def sx (l : List Nat) : Str := ⟨l.toArray⟩
theorem tl_sx (l : List Nat) : TL.tl (sx l) = l := rfl
theorem sx_tl (z : Str) : sx (TL.tl z) = z := TL.mk_tl z
theorem sx_len (l : List Nat) : (sx l).length = l.length := by rw [TL.len_tl, tl_sx]
theorem sx_app (a b : List Nat) : sx a ++ sx b = sx (a ++ b) := TL.ext_tl (by rw [TL.tl_append, tl_sx, tl_sx, tl_sx])
theorem sx_inj {a b : List Nat} (h : sx a = sx b) : a = b := by
  have := congrArg TL.tl h
  rwa [tl_sx, tl_sx] at this
theorem sx_open : ("(" : Str) = sx [40] := by decide +kernel
theorem sx_close : (")" : Str) = sx [41] := by decide +kernel
theorem sx_comma : ("," : Str) = sx [44] := by decide +kernel
theorem sx_blank : (" " : Str) = sx [32] := by decide +kernel
theorem sx_nil : ("" : Str) = sx [] := by decide +kernel
/-- a number's text -/
def ntx (i : Int) : List Nat := TL.tl (Str.ofString (toString i))
theorem ntx_str (i : Int) : (Str.ofString (toString i)) = sx (ntx i) := (sx_tl _).symm
theorem ntx_len (i : Int) : (ntx i).length ≤ i.natAbs + 2 := by
  have h := PyProof.Rows.len_str_of_int i
  have e : (Str.ofString (toString i)).length = (ntx i).length := TL.len_tl _
  rw [e] at h
  omega
namespace UT
def tx : UT → List Nat
  | lf i => ntx i
  | nd none l r => 40 :: (l.tx ++ 44 :: r.tx) ++ [41]
  | nd (some n) l r => 40 :: (ntx n ++ 44 :: (l.tx ++ 44 :: r.tx)) ++ [41]
def kids : UT → List UT
  | lf _ => []
  | nd none l r => [l, r]
  | nd (some n) l r => [lf n, l, r]
def nb (B : Nat) : UT → Prop
  | lf i => i.natAbs ≤ B
  | nd g l r => (g.getD 0).natAbs ≤ B ∧ l.nb B ∧ r.nb B
theorem d_nd (g : Option Int) (l r : UT) : (nd g l r).d = .tuple ((nd g l r).kids.map UT.d) := by
  cases g with
  | none => simp only [UT.d, kids, List.map_cons, List.map_nil]
  | some n => simp only [UT.d, kids, List.map_cons, List.map_nil]
theorem tx_nd (g : Option Int) (l r : UT) : (nd g l r).tx = 40 :: TL.joinL [44] ((nd g l r).kids.map tx) ++ [41] := by
  cases g with
  | none => simp [tx, kids, TL.joinL]
  | some n => simp [tx, kids, TL.joinL]
theorem kid_dep {g : Option Int} {l r k : UT} (h : k ∈ (nd g l r).kids) : k.dep < (nd g l r).dep := by
  have e : (nd g l r).dep = max l.dep r.dep + 1 := rfl
  rw [e]
  cases g with
  | none =>
    have : k = l ∨ k = r := by simpa [kids] using h
    rcases this with rfl | rfl <;> omega
  | some n =>
    have : k = lf n ∨ k = l ∨ k = r := by simpa [kids] using h
    rcases this with rfl | rfl | rfl
    · show 0 < _; omega
    · omega
    · omega
theorem kid_nb {B : Nat} {g : Option Int} {l r k : UT} (b : (nd g l r).nb B) (h : k ∈ (nd g l r).kids) : k.nb B := by
  cases g with
  | none =>
    have : k = l ∨ k = r := by simpa [kids] using h
    rcases this with rfl | rfl
    · exact b.2.1
    · exact b.2.2
  | some n =>
    have : k = lf n ∨ k = l ∨ k = r := by simpa [kids] using h
    rcases this with rfl | rfl | rfl
    · exact b.1
    · exact b.2.1
    · exact b.2.2
theorem kids_len (g : Option Int) (l r : UT) : 2 ≤ (nd g l r).kids.length ∧ (nd g l r).kids.length ≤ 3 := by
  cases g <;> simp [kids]
theorem tx_len {B : Nat} : ∀ {t : UT}, t.nb B → t.tx.length + (B + 6) ≤ (B + 6) * 2 ^ (t.dep + 1)
  | lf i, h => by
    have h1 := ntx_len i
    have h2 : i.natAbs ≤ B := h
    show (ntx i).length + (B + 6) ≤ (B + 6) * 2
    omega
  | nd g l r, h => by
    have h1 := tx_len h.2.1
    have h2 := tx_len h.2.2
    have m1 : (B + 6) * 2 ^ (l.dep + 1) ≤ (B + 6) * 2 ^ (max l.dep r.dep + 1) := Nat.mul_le_mul_left _ (Nat.pow_le_pow_right (by decide) (by omega))
    have m2 : (B + 6) * 2 ^ (r.dep + 1) ≤ (B + 6) * 2 ^ (max l.dep r.dep + 1) := Nat.mul_le_mul_left _ (Nat.pow_le_pow_right (by decide) (by omega))
    have e : (nd g l r).dep = max l.dep r.dep + 1 := rfl
    have e2 : (B + 6) * 2 ^ (max l.dep r.dep + 1 + 1) = (B + 6) * 2 ^ (max l.dep r.dep + 1) + (B + 6) * 2 ^ (max l.dep r.dep + 1) := by
      rw [Nat.pow_succ, ← Nat.mul_assoc, Nat.mul_two]
    rw [e, e2]
    cases g with
    | none =>
      simp only [tx, List.length_append, List.length_cons, List.length_nil]
      omega
    | some n =>
      have h3 := ntx_len n
      have h4 : n.natAbs ≤ B := h.1
      simp only [tx, List.length_append, List.length_cons, List.length_nil]
      omega
end UT
/-- each with a comma ahead -/
def commas (l : List UT) : List Nat := l.flatMap fun u => 44 :: u.tx
theorem commas_drop : ∀ (k : UT) (l : List UT), (commas (k :: l)).drop 1 = TL.joinL [44] ((k :: l).map UT.tx)
  | k, [] => by simp [commas, TL.joinL]
  | k, k2 :: l => by
    have ih := commas_drop k2 l
    have e : commas (k2 :: l) = 44 :: (commas (k2 :: l)).drop 1 := by simp [commas]
    have e2 : (commas (k :: k2 :: l)).drop 1 = k.tx ++ commas (k2 :: l) := by simp [commas]
    rw [e2, e, ih]
    simp [TL.joinL]
theorem commas_more {l : List UT} {i : Nat} {k : UT} (h : l[i]? = some k) : commas (l.take (i + 1)) = commas (l.take i) ++ 44 :: k.tx := by
  rw [take_more h]
  simp [commas]
theorem wd_nb {w M : Nat} : ∀ {t : UT}, wd w M t.d → t.nb M
  | .lf i, h => by
    have e : (UT.lf i).d = .int i := by simp only [UT.d]
    rw [e, wd_int] at h
    exact h
  | .nd none l r, h => by
    have e : (UT.nd none l r).d = .tuple [l.d, r.d] := by simp only [UT.d]
    rw [e, wd_tup] at h
    exact ⟨Nat.zero_le _, wd_nb (h.2 _ (by simp)), wd_nb (h.2 _ (by simp))⟩
  | .nd (some n) l r, h => by
    have e : (UT.nd (some n) l r).d = .tuple [.int n, l.d, r.d] := by simp only [UT.d]
    rw [e, wd_tup] at h
    exact ⟨wd_int.mp (h.2 _ (by simp)), wd_nb (h.2 _ (by simp)), wd_nb (h.2 _ (by simp))⟩
theorem UT.dep_d : ∀ t : UT, t.d.depth = t.dep
  | .lf _ => by simp only [UT.d, PyData.depth, UT.dep]
  | .nd none l r => by
    have h1 := UT.dep_d l
    have h2 := UT.dep_d r
    simp only [UT.d, PyData.depth, PyData.depthAll, UT.dep, h1, h2]
    omega
  | .nd (some n) l r => by
    have h1 := UT.dep_d l
    have h2 := UT.dep_d r
    simp only [UT.d, PyData.depth, PyData.depthAll, UT.dep, h1, h2]
    omega
theorem cutS_from (l : List Nat) (i : Nat) : cutS (sx l) (some (i : Int)) none = sx (l.drop i) := by
  unfold cutS
  rw [HT.sIx_none, HT.sIx_nat, sx_len]
  refine TL.ext_tl ?_
  show ((l.drop (min i l.length)).take (l.length - min i l.length)) = l.drop i
  by_cases h : i ≤ l.length
  · rw [Nat.min_eq_left h, List.take_of_length_le (by rw [List.length_drop]; omega)]
  · rw [Nat.min_eq_right (by omega), List.drop_length, List.drop_eq_nil_of_le (by omega), List.take_nil]
theorem isClock_true {d : PyData} (h : isClock d = true) : ∃ (u : PT) (t : CT), d = clockD u t ∧ u.pl ∧ t.pl := by
  match d, h with
  | .tuple [a, b], h =>
    simp only [isClock, Bool.and_eq_true] at h
    obtain ⟨u, rfl, pu⟩ := isPart_true h.1
    obtain ⟨t, rfl, pt⟩ := isCount_true h.2
    exact ⟨u, t, rfl, pu, pt⟩
  | .none, h => cases h
  | .bool _, h => cases h
  | .int _, h => cases h
  | .str _, h => cases h
  | .list _, h => cases h
  | .dict _, h => cases h
  | .tuple [], h => cases h
  | .tuple [_], h => cases h
  | .tuple (_ :: _ :: _ :: _), h => cases h
def wtx (u t : UT) : List Nat := u.tx ++ 32 :: t.tx
theorem big_log {n : Nat} (h : n < 2 ^ 1900) : n.log2 < 1920 := by
  by_cases z : n = 0
  · rw [z]; decide
  · have := (Nat.log2_lt z (k := 1900)).mpr h
    omega
theorem big_B {B : Nat} (h : B ≤ 100000) : B < 2 ^ 1900 :=
  Nat.lt_of_le_of_lt h (Nat.lt_of_lt_of_le (show 100000 < 2 ^ 17 by decide) (Nat.pow_le_pow_right (by decide) (by decide)))
theorem ten_400 : 10 ^ 400 < 2 ^ 1900 := by
  have h : 10 ^ 400 ≤ 16 ^ 400 := Nat.pow_le_pow_left (by decide) _
  have e : (16 : Nat) ^ 400 = 2 ^ 1600 := by rw [show (16 : Nat) = 2 ^ 4 by decide, ← Nat.pow_mul]
  rw [e] at h
  exact Nat.lt_of_le_of_lt h (Nat.pow_lt_pow_right (by decide) (by decide))
theorem cutS_mid (l : List Nat) (a b : Nat) : cutS (sx l) (some (a : Int)) (some (b : Int)) = sx ((l.drop a).take (b - a)) := by
  unfold cutS
  rw [HT.sIx_nat, HT.sIx_nat, sx_len]
  refine TL.ext_tl ?_
  show ((l.drop (min a l.length)).take (min b l.length - min a l.length)) = (l.drop a).take (b - a)
  by_cases h : a ≤ l.length
  · rw [Nat.min_eq_left h]
    by_cases h2 : b ≤ l.length
    · rw [Nat.min_eq_left h2]
    · rw [Nat.min_eq_right (by omega), List.take_of_length_le (by rw [List.length_drop]; omega), List.take_of_length_le (by rw [List.length_drop]; omega)]
  · rw [Nat.min_eq_right (show l.length ≤ a by omega), List.drop_length, List.drop_eq_nil_of_le (show l.length ≤ a by omega), List.take_nil, List.take_nil]
theorem cutS_to (l : List Nat) (b : Nat) : cutS (sx l) none (some (b : Int)) = sx (l.take b) := by
  unfold cutS
  rw [HT.sIx_none, HT.sIx_nat, sx_len]
  refine TL.ext_tl ?_
  show ((l.drop 0).take (min b l.length - 0)) = l.take b
  rw [List.drop_zero, Nat.sub_zero]
  by_cases h2 : b ≤ l.length
  · rw [Nat.min_eq_left h2]
  · rw [Nat.min_eq_right (by omega), List.take_length, List.take_of_length_le (by omega)]
/-- the sign at a place, or none -/
theorem sign_at (l : List Nat) (h : Nat) : (l.drop h).take (h + 1 - h) = (l[h]?).toList := by
  rw [show h + 1 - h = 1 by omega]
  cases e : l[h]? with
  | none =>
    rw [List.drop_eq_nil_of_le (List.getElem?_eq_none_iff.mp e)]
    rfl
  | some c =>
    have hi := (List.getElem?_eq_some_iff.mp e).1
    have e2 := (List.getElem?_eq_some_iff.mp e).2
    rw [List.drop_eq_getElem_cons hi, e2]
    rfl
theorem sign_is (l : List Nat) (h c : Nat) : decide (V.str (sx (l[h]?).toList) = V.str (sx [c])) = decide (l[h]? = some c) := by
  refine decide_eq_decide.mpr ⟨fun z => ?_, fun z => by rw [z]; rfl⟩
  have := sx_inj (V.str.inj z)
  cases e : l[h]? with
  | none => rw [e] at this; cases this
  | some x =>
    rw [e] at this
    have : x = c := by simpa using this
    rw [this]
theorem sign_no (l : List Nat) (h : Nat) : decide (V.str (sx (l[h]?).toList) = V.str (sx [])) = decide (l[h]? = none) := by
  refine decide_eq_decide.mpr ⟨fun z => ?_, fun z => by rw [z]; rfl⟩
  have := sx_inj (V.str.inj z)
  cases e : l[h]? with
  | none => rfl
  | some x => rw [e] at this; cases this

/-! ### texts read -/
def dig (c : Nat) : Bool := decide (48 ≤ c) && decide (c ≤ 57)
def dgs (l : List Nat) (i : Nat) : List Nat := (l.drop i).takeWhile dig
def dn (l : List Nat) (i : Nat) : Nat := (dgs l i).length
def pnum (l : List Nat) (i : Nat) : Option (PyData × Nat) := if dn l i = 0 then none else some (.int ((NumText.digitsVal (dgs l i) : Nat) : Int), i + dn l i)
def sgn (k : Nat) : Nat := if k = 0 then 40 else 44
def pstep (rec : Nat → Option (PyData × Nat)) (many : Nat) (l : List Nat) (k here : Nat) : Option (PyData × Nat) :=
  if l[here]? ≠ some (sgn k) then none else if many = 3 ∧ k = 0 then pnum l (here + 1) else rec (here + 1)
def ploop (rec : Nat → Option (PyData × Nat)) (many : Nat) (l : List Nat) (i : Nat) : Nat → Option (List PyData × Nat)
  | 0 => some ([], i)
  | k + 1 => match ploop rec many l i k with
    | none => none
    | some (ds, h) => match pstep rec many l k h with
      | none => none
      | some (d, h') => some (ds ++ [d], h')
def ptree (many : Nat) (l : List Nat) : Nat → Nat → Option (PyData × Nat)
  | 0, i => pnum l i
  | n + 1, i => if l[i]? ≠ some 40 then pnum l i else match ploop (ptree many l n) many l i many with
    | none => none
    | some (ds, h) => if l[h]? ≠ some 41 then none else some (.tuple ds, h + 1)
def pc (l : List Nat) : Nat := l.count 40
theorem pc_app (a b : List Nat) : pc (a ++ b) = pc a + pc b := List.count_append
theorem pc_drop (l : List Nat) (i : Nat) : pc (l.drop i) ≤ pc l := by
  have := pc_app (l.take i) (l.drop i)
  rw [List.take_append_drop] at this
  omega
theorem pc_take (l : List Nat) (i : Nat) : pc (l.take i) ≤ pc l := by
  have := pc_app (l.take i) (l.drop i)
  rw [List.take_append_drop] at this
  omega
theorem pc_le (l : List Nat) : pc l ≤ l.length := List.count_le_length
theorem drop_at {l : List Nat} {i c : Nat} (h : l[i]? = some c) : l.drop i = c :: l.drop (i + 1) := by
  have hi := (List.getElem?_eq_some_iff.mp h).1
  have e := (List.getElem?_eq_some_iff.mp h).2
  rw [List.drop_eq_getElem_cons hi, e]
theorem pc_open {l : List Nat} {i : Nat} (h : l[i]? = some 40) : pc (l.drop i) = pc (l.drop (i + 1)) + 1 := by
  rw [drop_at h]
  simp [pc]
theorem pc_later {l : List Nat} {i j : Nat} (h : i ≤ j) : pc (l.drop j) ≤ pc (l.drop i) := by
  have e : l.drop j = (l.drop i).drop (j - i) := by rw [List.drop_drop]; congr 1; omega
  rw [e]
  exact pc_drop _ _
theorem tw_at {p : Nat → Bool} : ∀ (l : List Nat) (j : Nat), j < (l.takeWhile p).length → ∃ c, l[j]? = some c ∧ p c = true
  | [], j, h => by simp at h
  | a :: l, j, h => by
    rw [List.takeWhile_cons] at h
    by_cases c : p a = true
    · rw [if_pos c] at h
      cases j with
      | zero => exact ⟨a, rfl, c⟩
      | succ j =>
        obtain ⟨x, hx, px⟩ := tw_at l j (by simpa using h)
        exact ⟨x, by simpa using hx, px⟩
    · rw [if_neg c] at h
      simp at h
theorem tw_end {p : Nat → Bool} : ∀ (l : List Nat) (c : Nat), l[(l.takeWhile p).length]? = some c → p c = false
  | [], c, h => by simp at h
  | a :: l, c, h => by
    rw [List.takeWhile_cons] at h
    by_cases q : p a = true
    · rw [if_pos q] at h
      exact tw_end l c (by simpa using h)
    · rw [if_neg q] at h
      have : a = c := by simpa using h
      rw [← this]
      simpa using q
theorem tw_take {p : Nat → Bool} : ∀ l : List Nat, l.take (l.takeWhile p).length = l.takeWhile p
  | [] => rfl
  | a :: l => by
    rw [List.takeWhile_cons]
    by_cases q : p a = true
    · rw [if_pos q, List.length_cons, List.take_succ_cons, tw_take l]
    · rw [if_neg q]
      rfl
theorem tw_all {p : Nat → Bool} : ∀ (l : List Nat), ∀ c ∈ l.takeWhile p, p c = true
  | [], c, h => by cases h
  | a :: l, c, h => by
    rw [List.takeWhile_cons] at h
    by_cases q : p a = true
    · rw [if_pos q] at h
      rcases List.mem_cons.mp h with rfl | h
      · exact q
      · exact tw_all l c h
    · rw [if_neg q] at h
      cases h
theorem dn_at {l : List Nat} {i j : Nat} (h : j < dn l i) : ∃ c, l[i + j]? = some c ∧ dig c = true := by
  obtain ⟨c, hc, pc⟩ := tw_at (l.drop i) j h
  rw [List.getElem?_drop] at hc
  exact ⟨c, hc, pc⟩
theorem dn_end {l : List Nat} {i c : Nat} (h : l[i + dn l i]? = some c) : dig c = false := by
  refine tw_end (p := dig) (l.drop i) c ?_
  rw [List.getElem?_drop]
  exact h
theorem dn_le {l : List Nat} {i : Nat} (h : dn l i ≠ 0) : i + dn l i ≤ l.length := by
  have h1 : dn l i ≤ (l.drop i).length := (List.takeWhile_prefix (l := l.drop i) dig).length_le
  rw [List.length_drop] at h1
  omega
theorem dn_take (l : List Nat) (i : Nat) : (l.drop i).take (dn l i) = dgs l i := tw_take _
theorem pnum_none {l : List Nat} {i : Nat} (h : ∀ c, l[i]? = some c → dig c = false) : pnum l i = none := by
  have e : dn l i = 0 := by
    rcases Nat.eq_zero_or_pos (dn l i) with z | z
    · exact z
    · obtain ⟨c, hc, pc⟩ := dn_at z
      rw [Nat.add_zero] at hc
      rw [h c hc] at pc
      cases pc
  unfold pnum
  rw [if_pos e]
theorem pnum_some {l : List Nat} {i e : Nat} {d : PyData} (h : pnum l i = some (d, e)) : d = .int ((NumText.digitsVal (dgs l i) : Nat) : Int) ∧ e = i + dn l i ∧ dn l i ≠ 0 := by
  unfold pnum at h
  by_cases z : dn l i = 0
  · rw [if_pos z] at h; cases h
  · rw [if_neg z] at h
    cases h
    exact ⟨rfl, rfl, z⟩
/-- how the loop goes on -/
theorem ploop_some {rec : Nat → Option (PyData × Nat)} {many : Nat} {l : List Nat} {i k : Nat} {ds : List PyData} {h : Nat} (e : ploop rec many l i (k + 1) = some (ds, h)) :
    ∃ ds' h' d, ploop rec many l i k = some (ds', h') ∧ pstep rec many l k h' = some (d, h) ∧ ds = ds' ++ [d] := by
  unfold ploop at e
  cases e1 : ploop rec many l i k with
  | none => rw [e1] at e; cases e
  | some p =>
    obtain ⟨ds', h'⟩ := p
    rw [e1] at e
    simp only at e
    cases e2 : pstep rec many l k h' with
    | none => rw [e2] at e; cases e
    | some q =>
      obtain ⟨d, h2⟩ := q
      rw [e2] at e
      cases e
      exact ⟨ds', h', d, rfl, e2, rfl⟩
theorem ploop_step {rec : Nat → Option (PyData × Nat)} {many : Nat} {l : List Nat} {i k : Nat} {ds : List PyData} {h : Nat} (e : ploop rec many l i k = some (ds, h)) {d : PyData} {h' : Nat} (s : pstep rec many l k h = some (d, h')) : ploop rec many l i (k + 1) = some (ds ++ [d], h') := by
  rw [ploop, e]
  simp only [s]
theorem ploop_stop {rec : Nat → Option (PyData × Nat)} {many : Nat} {l : List Nat} {i k : Nat} {ds : List PyData} {h : Nat} (e : ploop rec many l i k = some (ds, h)) (s : pstep rec many l k h = none) : ploop rec many l i (k + 1) = none := by
  rw [ploop, e]
  simp only [s]
theorem ploop_none {rec : Nat → Option (PyData × Nat)} {many : Nat} {l : List Nat} {i : Nat} : ∀ {k m : Nat}, ploop rec many l i k = none → k ≤ m → ploop rec many l i m = none
  | k, 0, e, h => by
    obtain rfl : k = 0 := by omega
    exact e
  | k, m + 1, e, h => by
    by_cases z : k = m + 1
    · rw [← z]; exact e
    · have ih := ploop_none e (show k ≤ m by omega)
      rw [ploop, ih]
theorem pstep_some {rec : Nat → Option (PyData × Nat)} {many : Nat} {l : List Nat} {k h : Nat} {d : PyData} {h' : Nat} (s : pstep rec many l k h = some (d, h')) : l[h]? = some (sgn k) ∧ ((many = 3 ∧ k = 0 ∧ pnum l (h + 1) = some (d, h')) ∨ (¬ (many = 3 ∧ k = 0) ∧ rec (h + 1) = some (d, h'))) := by
  unfold pstep at s
  by_cases c : l[h]? = some (sgn k)
  · rw [if_neg (by simp [c])] at s
    by_cases c2 : many = 3 ∧ k = 0
    · rw [if_pos c2] at s
      exact ⟨c, .inl ⟨c2.1, c2.2, s⟩⟩
    · rw [if_neg c2] at s
      exact ⟨c, .inr ⟨c2, s⟩⟩
  · rw [if_pos c] at s
    cases s
/-! what is read: how deep, no list in it, how long, how big -/
structure Rd (n i e : Nat) (d : PyData) : Prop where
  lt : i < e
  depth : d.depth ≤ n
  nl : noLst d = true
  lay : d.canLay0 = true
theorem ptree_rd {many : Nat} {l : List Nat} : ∀ (n i : Nat) {d : PyData} {e : Nat}, ptree many l n i = some (d, e) → Rd n i e d
  | 0, i, d, e, h => by
    obtain ⟨rfl, rfl, z⟩ := pnum_some h
    exact ⟨by omega, by simp [PyData.depth], by simp [noLst], by simp [PyData.canLay0]⟩
  | n + 1, i, d, e, h => by
    unfold ptree at h
    by_cases c : l[i]? = some 40
    · rw [if_neg (by simp [c])] at h
      cases el : ploop (ptree many l n) many l i many with
      | none => rw [el] at h; cases h
      | some p =>
        obtain ⟨ds, h'⟩ := p
        rw [el] at h
        simp only at h
        by_cases c2 : l[h']? = some 41
        · rw [if_neg (by simp [c2])] at h
          cases h
          have key : ∀ k (ds : List PyData) (h' : Nat), ploop (ptree many l n) many l i k = some (ds, h') → i ≤ h' ∧ (∀ d ∈ ds, d.depth ≤ n ∧ noLst d = true ∧ d.canLay0 = true) := fun k => by
            induction k with
            | zero =>
              intro ds h' e
              cases e
              exact ⟨Nat.le_refl _, fun d hd => by cases hd⟩
            | succ k ih =>
              intro ds h' e
              obtain ⟨ds', h2, d, e1, e2, rfl⟩ := ploop_some e
              obtain ⟨lt, all⟩ := ih ds' h2 e1
              obtain ⟨_, s⟩ := pstep_some e2
              have ok : h2 + 1 < h' ∧ d.depth ≤ n ∧ noLst d = true ∧ d.canLay0 = true := by
                rcases s with ⟨_, _, s⟩ | ⟨_, s⟩
                · obtain ⟨rfl, rfl, z⟩ := pnum_some s
                  exact ⟨by omega, by simp [PyData.depth], by simp [noLst], by simp [PyData.canLay0]⟩
                · have r := ptree_rd n _ s
                  exact ⟨r.lt, r.depth, r.nl, r.lay⟩
              refine ⟨by omega, fun z hz => ?_⟩
              rcases List.mem_append.mp hz with hz | hz
              · exact all z hz
              · rw [List.mem_singleton.mp hz]
                exact ok.2
          obtain ⟨lt, all⟩ := key many ds h' el
          have nls : ∀ ds : List PyData, (∀ d ∈ ds, d.depth ≤ n ∧ noLst d = true ∧ d.canLay0 = true) → noLsts ds = true ∧ PyData.canLayAll0 ds = true := fun ds => by
            induction ds with
            | nil => intro _; simp [noLsts, PyData.canLayAll0]
            | cons a ds ih =>
              intro hh
              have h1 := hh a List.mem_cons_self
              have h2 := ih fun z hz => hh z (List.mem_cons_of_mem _ hz)
              simp [noLsts, PyData.canLayAll0, h1.2.1, h1.2.2, h2.1, h2.2]
          have nn := nls ds all
          exact ⟨by omega, depth_tup.mpr fun d hd => (all d hd).1, by simp [noLst, nn.1], by simp [PyData.canLay0, nn.2]⟩
        · rw [if_pos c2] at h; cases h
    · rw [if_pos c] at h
      obtain ⟨rfl, rfl, z⟩ := pnum_some h
      exact ⟨by omega, by simp [PyData.depth], by simp [noLst], by simp [PyData.canLay0]⟩
theorem Rd.sh {n i e : Nat} {d : PyData} (r : Rd n i e d) (h : n ≤ 63) : SeqAt.shaped d = true := by
  unfold SeqAt.shaped
  rw [r.lay, Bool.true_and]
  have := r.depth
  exact decide_eq_true (by omega)
theorem digits_lt : ∀ (ds : List Nat) (a : Nat), (∀ c ∈ ds, dig c = true) → ds.foldl (fun acc c => acc * 10 + (c - 48)) a < (a + 1) * 10 ^ ds.length
  | [], a, _ => by simp
  | c :: ds, a, h => by
    have hc := h c List.mem_cons_self
    simp only [dig, Bool.and_eq_true, decide_eq_true_eq] at hc
    have ih := digits_lt ds (a * 10 + (c - 48)) fun z hz => h z (List.mem_cons_of_mem _ hz)
    rw [List.foldl_cons, List.length_cons, Nat.pow_succ]
    have e : (a * 10 + (c - 48) + 1) * 10 ^ ds.length ≤ ((a + 1) * 10) * 10 ^ ds.length := Nat.mul_le_mul_right _ (by omega)
    have e2 : (a + 1) * 10 * 10 ^ ds.length = (a + 1) * (10 ^ ds.length * 10) := by rw [Nat.mul_assoc, Nat.mul_comm 10]
    omega
theorem val_lt {l : List Nat} {i : Nat} : NumText.digitsVal (dgs l i) < 10 ^ dn l i := by
  have := digits_lt (dgs l i) 0 (tw_all _)
  rw [Nat.zero_add, Nat.one_mul] at this
  exact this
theorem ntx_nat (n : Nat) : ntx ((n : Nat) : Int) = TL.numL n := TL.tl_num n
theorem ptree_num {many : Nat} {l : List Nat} {n i : Nat} (h : l[i]? ≠ some 40) : ptree many l n i = pnum l i := by
  cases n with
  | zero => rfl
  | succ n => rw [ptree, if_pos h]
theorem ptree_open {many : Nat} {l : List Nat} {n i : Nat} (h : l[i]? = some 40) : ptree many l (n + 1) i = match ploop (ptree many l n) many l i many with
    | none => none
    | some (ds, h) => if l[h]? ≠ some 41 then none else some (.tuple ds, h + 1) := by rw [ptree, if_neg (by simp [h])]
theorem sgn_at (t : Nat) : atI ("(," : Str).cps.toList (if decide ((0 : Int) + (t : Int) > 0) = true then 1 else 0) = some (sgn t) := by
  have e : ("(," : Str).cps.toList = [40, 44] := by decide +kernel
  rw [e]
  by_cases h : t = 0
  · subst h
    rfl
  · rw [decide_eq_true (show (0 : Int) + (t : Int) > 0 by omega), if_pos rfl, sgn, if_neg h]
    rfl
theorem noLsts_app {d : PyData} (h : noLst d = true) : ∀ {ds : List PyData}, noLsts ds = true → noLsts (ds ++ [d]) = true
  | [], _ => by simp [noLsts, h]
  | a :: ds, h2 => by
    simp only [noLsts, Bool.and_eq_true] at h2
    have ih := noLsts_app h h2.2
    simp [noLsts, h2.1, ih]

/-! ### what is read of a tree's text; how long the text of what is read -/
theorem lf_of_int {t : UT} {i : Int} (h : t.d = .int i) : t = .lf i := by
  cases t with
  | lf j =>
    have e : (UT.lf j).d = .int j := by simp only [UT.d]
    rw [e] at h
    cases h
    rfl
  | nd g l r => rw [UT.d_nd] at h; cases h
theorem tw_app {p : Nat → Bool} : ∀ (a b : List Nat), (∀ c ∈ a, p c = true) → (∀ c, b[0]? = some c → p c = false) → (a ++ b).takeWhile p = a
  | [], [], _, _ => rfl
  | [], c :: b, _, h => by
    have := h c rfl
    rw [List.nil_append, List.takeWhile_cons, this]
    rfl
  | x :: a, b, h1, h2 => by
    rw [List.cons_append, List.takeWhile_cons, if_pos (h1 x List.mem_cons_self), tw_app a b (fun c hc => h1 c (List.mem_cons_of_mem _ hc)) h2]
theorem numL_dig (n : Nat) : ∀ c ∈ TL.numL n, dig c = true := fun c hc => by
  have := TL.numL_digits n c hc
  simp only [dig, Bool.and_eq_true, decide_eq_true_eq]
  omega
theorem pnum_full (n : Nat) (pre post : List Nat) (h : ∀ c, post[0]? = some c → dig c = false) : pnum (pre ++ (TL.numL n ++ post)) pre.length = some (.int (n : Int), pre.length + (TL.numL n).length) := by
  have e : dgs (pre ++ (TL.numL n ++ post)) pre.length = TL.numL n := by
    unfold dgs
    rw [List.drop_left, tw_app _ _ (numL_dig n) h]
  have e2 : dn (pre ++ (TL.numL n ++ post)) pre.length = (TL.numL n).length := by unfold dn; rw [e]
  have ne : (TL.numL n).length ≠ 0 := fun z => TL.numL_ne n (List.length_eq_zero_iff.mp z)
  unfold pnum
  rw [e2, if_neg ne, e, TL.numL_val]
theorem numL_head {n : Nat} {pre post : List Nat} : (pre ++ (TL.numL n ++ post))[pre.length]? ≠ some 40 := by
  rw [List.getElem?_append_right (Nat.le_refl _), Nat.sub_self]
  cases e : TL.numL n with
  | nil => exact absurd e (TL.numL_ne n)
  | cons a r =>
    have := numL_dig n a (by rw [e]; exact List.mem_cons_self)
    intro z
    have z' : a = 40 := by simpa using z
    rw [z'] at this
    cases this
/-- trees that many parts make -/
def Fit (m : Nat) : UT → Prop
  | .lf i => 0 ≤ i
  | .nd g l r => ((m = 2 ∧ g = none) ∨ (m = 3 ∧ ∃ n : Int, 0 ≤ n ∧ g = some n)) ∧ Fit m l ∧ Fit m r
theorem commas_app (a b : List UT) : commas (a ++ b) = commas a ++ commas b := by simp [commas]
theorem ptree_full {m : Nat} : ∀ (n : Nat) (u : UT) (pre post : List Nat), Fit m u → u.dep ≤ n → (∀ c, post[0]? = some c → dig c = false) → ptree m (pre ++ (u.tx ++ post)) n pre.length = some (u.d, pre.length + u.tx.length)
  | n, .lf i, pre, post, f, _, h => by
    have f' : 0 ≤ i := f
    obtain ⟨k, rfl⟩ : ∃ k : Nat, i = (k : Int) := ⟨i.toNat, by omega⟩
    have e : (UT.lf (k : Int)).tx = TL.numL k := ntx_nat k
    rw [e, ptree_num numL_head, pnum_full k pre post h]
    simp only [UT.d]
  | 0, .nd g l r, _, _, _, d, _ => by
    have : max l.dep r.dep + 1 ≤ 0 := d
    omega
  | n + 1, .nd g l r, pre, post, f, d, h => by
    have hk : ∀ k ∈ (UT.nd g l r).kids, k.dep ≤ n := fun k hk => by
      have := UT.kid_dep hk
      omega
    have fk : ∀ k ∈ (UT.nd g l r).kids, Fit m k := by
      rcases f with ⟨⟨_, rfl⟩ | ⟨_, v, hv, rfl⟩, fl, fr⟩
      · intro k hk
        have : k = l ∨ k = r := by simpa [UT.kids] using hk
        rcases this with rfl | rfl
        · exact fl
        · exact fr
      · intro k hk
        have : k = .lf v ∨ k = l ∨ k = r := by simpa [UT.kids] using hk
        rcases this with rfl | rfl | rfl
        · exact hv
        · exact fl
        · exact fr
    have km : (UT.nd g l r).kids.length = m := by
      rcases f with ⟨⟨rfl, rfl⟩ | ⟨rfl, v, hv, rfl⟩, fl, fr⟩ <;> rfl
    have k0 : m = 3 → ∀ k, (UT.nd g l r).kids[0]? = some k → ∃ v : Int, k = .lf v := by
      rcases f with ⟨⟨rfl, rfl⟩ | ⟨rfl, v, hv, rfl⟩, fl, fr⟩
      · intro z; cases z
      · intro _ k hk
        have : UT.lf v = k := by simpa [UT.kids] using hk
        exact ⟨v, this.symm⟩
    have htx := UT.tx_nd g l r
    have kl := UT.kids_len g l r
    have cd : (commas (UT.nd g l r).kids).drop 1 = TL.joinL [44] ((UT.nd g l r).kids.map UT.tx) := by
      cases ek : (UT.nd g l r).kids with
      | nil => rw [ek] at kl; simp at kl
      | cons k ks => exact commas_drop k ks
    rw [UT.d_nd]
    generalize (UT.nd g l r).kids = ks at hk fk km k0 htx cd kl
    have L : pre ++ ((UT.nd g l r).tx ++ post) = pre ++ (40 :: (commas ks).drop 1 ++ 41 :: post) := by
      rw [htx, cd]
      simp
    rw [L]
    have cut : ∀ k x, ks[k]? = some x → ∃ X, X.length = (commas (ks.take k)).length ∧ pre ++ (40 :: (commas ks).drop 1 ++ 41 :: post) = (pre ++ X ++ [sgn k]) ++ (x.tx ++ (commas (ks.drop (k + 1)) ++ 41 :: post)) := fun k x hx => by
      have sp := split_at hx
      have ec : commas ks = commas (ks.take k) ++ (44 :: x.tx ++ commas (ks.drop (k + 1))) := by
        have := congrArg commas sp
        rw [commas_app] at this
        rw [this]
        simp [commas]
      by_cases z : k = 0
      · subst z
        refine ⟨[], by simp [commas], ?_⟩
        have e0 : commas (ks.take 0) = [] := by simp [commas]
        rw [e0, List.nil_append] at ec
        rw [ec]
        simp [sgn]
      · refine ⟨40 :: (commas (ks.take k)).drop 1, ?_, ?_⟩
        · have h2 : 1 ≤ (commas (ks.take k)).length := by
            cases e : ks.take k with
            | nil =>
              have hk2 := (List.getElem?_eq_some_iff.mp hx).1
              have h0 : min k ks.length = 0 := by rw [← List.length_take, e]; rfl
              omega
            | cons a b => simp [commas]
          rw [List.length_cons, List.length_drop]
          omega
        · have h3 : ∃ a b, commas (ks.take k) = a :: b := by
            cases e : ks.take k with
            | nil =>
              have hk2 := (List.getElem?_eq_some_iff.mp hx).1
              have h0 : min k ks.length = 0 := by rw [← List.length_take, e]; rfl
              omega
            | cons a b => exact ⟨44, a.tx ++ commas b, by simp [commas]⟩
          obtain ⟨a, b, hab⟩ := h3
          rw [ec, hab]
          simp [sgn, z]
    have open' : (pre ++ (40 :: (commas ks).drop 1 ++ 41 :: post))[pre.length]? = some 40 := by
      rw [List.getElem?_append_right (Nat.le_refl _), Nat.sub_self]
      rfl
    have loop : ∀ k, k ≤ ks.length → ploop (ptree m (pre ++ (40 :: (commas ks).drop 1 ++ 41 :: post)) n) m (pre ++ (40 :: (commas ks).drop 1 ++ 41 :: post)) pre.length k = some ((ks.take k).map UT.d, pre.length + (commas (ks.take k)).length) := fun k => by
      induction k with
      | zero =>
        intro _
        simp [ploop, commas]
      | succ k ih =>
        intro hk2
        have ih' := ih (by omega)
        obtain ⟨x, hx⟩ : ∃ x, ks[k]? = some x := ⟨ks[k], List.getElem?_eq_getElem (by omega)⟩
        obtain ⟨X, xl, ex⟩ := cut k x hx
        have more : (ks.take (k + 1)).map UT.d = (ks.take k).map UT.d ++ [x.d] := by rw [take_more hx, List.map_append]; rfl
        have clen : (commas (ks.take (k + 1))).length = (commas (ks.take k)).length + 1 + x.tx.length := by
          rw [commas_more hx, List.length_append, List.length_cons]
          omega
        have post' : ∀ c, (commas (ks.drop (k + 1)) ++ 41 :: post)[0]? = some c → dig c = false := fun c hc => by
          cases e : ks.drop (k + 1) with
          | nil =>
            rw [e] at hc
            have : 41 = c := by simpa [commas] using hc
            rw [← this]
            rfl
          | cons a b =>
            rw [e] at hc
            have : 44 = c := by simpa [commas] using hc
            rw [← this]
            rfl
        have pl : (pre ++ X ++ [sgn k]).length = pre.length + (commas (ks.take k)).length + 1 := by rw [List.length_append, List.length_append, xl, List.length_singleton]
        have st : pstep (ptree m (pre ++ (40 :: (commas ks).drop 1 ++ 41 :: post)) n) m (pre ++ (40 :: (commas ks).drop 1 ++ 41 :: post)) k (pre.length + (commas (ks.take k)).length) = some (x.d, pre.length + (commas (ks.take (k + 1))).length) := by
          have sg : (pre ++ (40 :: (commas ks).drop 1 ++ 41 :: post))[pre.length + (commas (ks.take k)).length]? = some (sgn k) := by
            rw [ex, List.getElem?_append_left (by rw [pl]; omega), List.getElem?_append_right (by simp [xl])]
            simp [xl]
          have full := ptree_full n x (pre ++ X ++ [sgn k]) (commas (ks.drop (k + 1)) ++ 41 :: post) (fk x (List.mem_of_getElem? hx)) (hk x (List.mem_of_getElem? hx)) post'
          rw [pl, ← ex] at full
          have ans : pre.length + (commas (ks.take k)).length + 1 + x.tx.length = pre.length + (commas (ks.take (k + 1))).length := by omega
          rw [ans] at full
          unfold pstep
          rw [if_neg (fun z => z sg)]
          by_cases c3 : m = 3 ∧ k = 0
          · rw [if_pos c3]
            obtain ⟨c3, rfl⟩ := c3
            obtain ⟨v, rfl⟩ := k0 c3 x hx
            have fv : 0 ≤ v := fk _ (List.mem_of_getElem? hx)
            obtain ⟨q, rfl⟩ : ∃ q : Nat, v = (q : Int) := ⟨v.toNat, by omega⟩
            have en : (UT.lf (q : Int)).tx = TL.numL q := ntx_nat q
            have nh : (pre ++ (40 :: (commas ks).drop 1 ++ 41 :: post))[pre.length + (commas (ks.take 0)).length + 1]? ≠ some 40 := by
              rw [ex, en, ← pl]
              exact numL_head
            rw [ptree_num nh] at full
            exact full
          · rw [if_neg c3]
            exact full
        rw [more]
        exact ploop_step ih' st
    have full := loop m (by omega)
    rw [List.take_of_length_le (by omega)] at full
    rw [ptree_open open', full]
    have c1 : 1 ≤ (commas ks).length := by
      cases e : ks with
      | nil => rw [e] at kl; simp at kl
      | cons a b => simp [commas]
    have close : (pre ++ (40 :: (commas ks).drop 1 ++ 41 :: post))[pre.length + (commas ks).length]? = some 41 := by
      have e : pre ++ (40 :: (commas ks).drop 1 ++ 41 :: post) = (pre ++ (40 :: (commas ks).drop 1)) ++ 41 :: post := by simp
      have pl : (pre ++ (40 :: (commas ks).drop 1)).length = pre.length + (commas ks).length := by
        rw [List.length_append, List.length_cons, List.length_drop]
        omega
      rw [e, ← pl, List.getElem?_append_right (Nat.le_refl _), Nat.sub_self]
      rfl
    simp only
    rw [if_neg (fun z => z close), htx, ← cd]
    have e : (40 :: (commas ks).drop 1 ++ [41]).length = (commas ks).length + 1 := by
      rw [List.length_append, List.length_cons, List.length_drop, List.length_singleton]
      omega
    rw [e]
    rfl
theorem ptree_tx {m : Nat} {l : List Nat} (hl : l.length ≤ 400) : ∀ (n i : Nat) (t : UT) {e : Nat}, ptree m l n i = some (t.d, e) → t.tx.length + i ≤ e ∧ e ≤ l.length ∧ t.nb (10 ^ 400) := by
  have num : ∀ (i : Nat) (t : UT) {e : Nat}, pnum l i = some (t.d, e) → t.tx.length + i ≤ e ∧ e ≤ l.length ∧ t.nb (10 ^ 400) := fun i t e h => by
    obtain ⟨e1, e2, z⟩ := pnum_some h
    have le := dn_le z
    obtain rfl := lf_of_int e1
    have v := val_lt (l := l) (i := i)
    have h1 : (UT.lf ((NumText.digitsVal (dgs l i) : Nat) : Int)).tx = TL.numL (NumText.digitsVal (dgs l i)) := ntx_nat _
    have h2 := TL.numL_len (n := NumText.digitsVal (dgs l i)) (k := dn l i) (by omega) v
    refine ⟨by rw [h1]; omega, by omega, ?_⟩
    have h3 : 10 ^ dn l i ≤ 10 ^ 400 := Nat.pow_le_pow_right (by decide) (by omega)
    show (((NumText.digitsVal (dgs l i) : Nat) : Int)).natAbs ≤ 10 ^ 400
    rw [Int.natAbs_natCast]
    omega
  intro n
  induction n with
  | zero => exact fun i t e h => num i t h
  | succ n ih =>
    intro i t e h
    by_cases c : l[i]? = some 40
    · rw [ptree_open c] at h
      cases el : ploop (ptree m l n) m l i m with
      | none => rw [el] at h; cases h
      | some p =>
        obtain ⟨ds, h'⟩ := p
        rw [el] at h
        simp only at h
        by_cases c2 : l[h']? = some 41
        · rw [if_neg (by simp [c2])] at h
          have key : ∀ k (ks : List UT) (h' : Nat), ploop (ptree m l n) m l i k = some (ks.map UT.d, h') → (commas ks).length + i ≤ h' ∧ ∀ u ∈ ks, u.nb (10 ^ 400) := fun k => by
            induction k with
            | zero =>
              intro ks h' e
              have : ks = [] := by
                have e' : ([] : List PyData) = ks.map UT.d ∧ i = h' := by simpa [ploop] using e
                cases ks with
                | nil => rfl
                | cons a b => cases e'.1
              subst this
              have e' : i = h' := by simpa [ploop] using e
              exact ⟨by simp [commas, e'], fun u hu => by cases hu⟩
            | succ k ih2 =>
              intro ks h' e
              obtain ⟨ds', h2, d, e1, e2, e3⟩ := ploop_some e
              obtain ⟨ks1, ks2, rfl, rfl, e5⟩ := List.map_eq_append_iff.mp e3
              obtain ⟨x, rfl⟩ : ∃ x, ks2 = [x] := by
                match ks2, e5 with
                | [x], _ => exact ⟨x, rfl⟩
                | [], e5 => cases e5
                | _ :: _ :: _, e5 => cases e5
              obtain rfl : x.d = d := by simpa using e5
              obtain ⟨b1, b2⟩ := ih2 ks1 h2 e1
              obtain ⟨_, s⟩ := pstep_some e2
              have ok : x.tx.length + (h2 + 1) ≤ h' ∧ x.nb (10 ^ 400) := by
                rcases s with ⟨_, _, s⟩ | ⟨_, s⟩
                · have := num _ x s
                  exact ⟨this.1, this.2.2⟩
                · have := ih _ x s
                  exact ⟨this.1, this.2.2⟩
              refine ⟨?_, fun u hu => ?_⟩
              · rw [commas_app]
                have : commas [x] = 44 :: x.tx := by simp [commas]
                rw [this, List.length_append, List.length_cons]
                omega
              · rcases List.mem_append.mp hu with hu | hu
                · exact b2 u hu
                · rw [List.mem_singleton.mp hu]
                  exact ok.2
          cases t with
          | lf j =>
            have e0 : (UT.lf j).d = .int j := by simp only [UT.d]
            rw [e0] at h
            cases h
          | nd g a b =>
            rw [UT.d_nd] at h
            have hh : ds = (UT.nd g a b).kids.map UT.d ∧ h' + 1 = e := by simpa using h
            obtain ⟨rfl, rfl⟩ := hh
            obtain ⟨b1, b2⟩ := key m _ h' el
            have hlt := (List.getElem?_eq_some_iff.mp c2).1
            have kl := UT.kids_len g a b
            have cd : (commas (UT.nd g a b).kids).drop 1 = TL.joinL [44] ((UT.nd g a b).kids.map UT.tx) := by
              cases ek : (UT.nd g a b).kids with
              | nil => rw [ek] at kl; simp at kl
              | cons k ks => exact commas_drop k ks
            have c1 : 1 ≤ (commas (UT.nd g a b).kids).length := by
              cases ek : (UT.nd g a b).kids with
              | nil => rw [ek] at kl; simp at kl
              | cons k ks => simp [commas]
            refine ⟨?_, by omega, ?_⟩
            · rw [UT.tx_nd, ← cd, List.length_append, List.length_cons, List.length_drop, List.length_singleton]
              omega
            · cases g with
              | none => exact ⟨Nat.zero_le _, b2 a (by simp [UT.kids]), b2 b (by simp [UT.kids])⟩
              | some v => exact ⟨b2 (.lf v) (by simp [UT.kids]), b2 a (by simp [UT.kids]), b2 b (by simp [UT.kids])⟩
        · rw [if_pos c2] at h; cases h
    · rw [ptree_num c] at h
      exact num i t h
theorem dep_pc : ∀ t : UT, t.dep ≤ pc t.tx
  | .lf _ => Nat.zero_le _
  | .nd none l r => by
    have h1 := dep_pc l
    have h2 := dep_pc r
    have e : pc (UT.nd none l r).tx = 1 + pc l.tx + pc r.tx := by
      simp [pc, UT.tx, List.count_append, List.count_cons]
      omega
    have e2 : (UT.nd none l r).dep = max l.dep r.dep + 1 := rfl
    omega
  | .nd (some n) l r => by
    have h1 := dep_pc l
    have h2 := dep_pc r
    have e : 1 + pc l.tx + pc r.tx ≤ pc (UT.nd (some n) l r).tx := by
      simp [pc, UT.tx, List.count_append, List.count_cons]
      omega
    have e2 : (UT.nd (some n) l r).dep = max l.dep r.dep + 1 := rfl
    omega
theorem PT.fit : ∀ {u : PT}, u.ok → Fit 2 u.u
  | .lf i, h => by
    show 0 ≤ i
    rcases h with rfl | rfl <;> decide
  | .nd l r, h => ⟨.inl ⟨rfl, rfl⟩, PT.fit h.1, PT.fit h.2⟩
theorem CT.fit : ∀ {t : CT}, t.nn → Fit 3 t.u
  | .lf i, h => h
  | .nd n l r, h => ⟨.inr ⟨rfl, n, h.1, rfl⟩, CT.fit h.2.1, CT.fit h.2.2⟩
/-- the text is that of the clock (u, t) -/
structure Is (l : List Nat) (u : PT) (t : CT) : Prop where
  pu : u.pl
  pt : t.pl
  eq : wtx u.u t.u = l
theorem Is.part {l : List Nat} {u : PT} {t : CT} (h : Is l u t) (b : pc l ≤ 58) : ptree 2 l 58 0 = some (u.d, u.u.tx.length) ∧ l[u.u.tx.length]? = some 32 ∧ ptree 3 l 58 (u.u.tx.length + 1) = some (t.d, l.length) := by
  have e := h.eq
  unfold wtx at e
  have d1 := dep_pc u.u
  have d2 := dep_pc t.u
  have c1 : pc l = pc u.u.tx + pc t.u.tx := by
    rw [← e, pc_app]
    simp [pc, List.count_cons]
  have p1 := ptree_full 58 u.u [] (32 :: t.u.tx) (PT.fit (PT.pl_ok h.pu)) (by omega) (fun c hc => by
    have : 32 = c := by simpa using hc
    rw [← this]; rfl)
  have p2 := ptree_full 58 t.u (u.u.tx ++ [32]) [] (CT.fit (CT.pl_nn h.pt)) (by omega) (fun c hc => by simp at hc)
  have e2 : (u.u.tx ++ [32]) ++ (t.u.tx ++ []) = l := by rw [← e]; simp
  rw [List.nil_append, e, List.length_nil, Nat.zero_add, PT.u_d] at p1
  rw [e2, List.length_append, List.length_singleton, CT.u_d] at p2
  refine ⟨p1, ?_, ?_⟩
  · rw [← e, List.getElem?_append_right (Nat.le_refl _), Nat.sub_self]
    rfl
  · rw [p2, ← e, List.length_append, List.length_cons]
    congr 2
    omega
theorem isClock_pl {u : PT} {t : CT} (pu : u.pl) (pt : t.pl) : isClock (clockD u t) = true := by
  simp only [clockD, isClock, isPart_d, isCount_d, (PT.plB_iff u).mpr pu, (CT.plB_iff t).mpr pt, Bool.and_self]
theorem Is.uniq {l : List Nat} {u u' : PT} {t t' : CT} (h : Is l u t) (h' : Is l u' t') (b : pc l ≤ 58) : clockD u t = clockD u' t' := by
  have a1 := h.part b
  have a2 := h'.part b
  have e1 := a1.1.symm.trans a2.1
  have e2 : u.d = u'.d ∧ u.u.tx.length = u'.u.tx.length := by simpa using e1
  have e3 := a1.2.2
  rw [e2.2] at e3
  have e4 : t.d = t'.d := by simpa using e3.symm.trans a2.2.2
  unfold clockD
  rw [e2.1, e4]
/-- a clock that can be written -/
def Wr (u t : UT) : Prop := ∃ B, B < 2 ^ 1900 ∧ u.nb B ∧ t.nb B ∧ u.dep ≤ 58 ∧ t.dep ≤ 58 ∧ u.tx.length ≤ 100000 ∧ t.tx.length ≤ 100000
theorem wr_of {l : List Nat} (hl : l.length ≤ 400) {u : PT} {t : CT} {h e : Nat} (p1 : ptree 2 l 58 0 = some (u.d, h)) (p2 : ptree 3 l 58 (h + 1) = some (t.d, e)) : Wr u.u t.u := by
  have a1 := ptree_rd _ _ p1
  have a2 := ptree_rd _ _ p2
  rw [← PT.u_d] at p1
  rw [← CT.u_d] at p2
  have b1 := ptree_tx hl _ _ u.u p1
  have b2 := ptree_tx hl _ _ t.u p2
  have d1 := a1.depth
  have d2 := a2.depth
  rw [← PT.u_d, UT.dep_d] at d1
  rw [← CT.u_d, UT.dep_d] at d2
  exact ⟨10 ^ 400, ten_400, b1.2.2, b2.2.2, d1, d2, by omega, by omega⟩
theorem pnum_open {l : List Nat} {i : Nat} (c : l[i]? = some 40) : pnum l i = none := pnum_none fun x hx => by
  rw [c] at hx
  have : 40 = x := Option.some.inj hx
  rw [← this]
  rfl
theorem first_none {many m i : Nat} {l : List Nat} (h : ptree many l m i = none) : pnum l i = none := by
  by_cases c : l[i]? = some 40
  · exact pnum_open c
  · rw [ptree_num c] at h
    exact h
theorem first_tp {many m i : Nat} {l : List Nat} {d : PyData} {e : Nat} (h : ptree many l m i = some (d, e)) (t : isTp d = true) : pnum l i = none := by
  by_cases c : l[i]? = some 40
  · exact pnum_open c
  · rw [ptree_num c] at h
    rw [(pnum_some h).1] at t
    cases t
theorem first_no {many m i : Nat} {l : List Nat} {d : PyData} {e : Nat} (h : ptree many l m i = some (d, e)) (t : isTp d = false) : pnum l i = some (d, e) := by
  by_cases c : l[i]? = some 40
  · cases m with
    | zero => exact h
    | succ m =>
      rw [ptree_open c] at h
      cases el : ploop (ptree many l m) many l i many with
      | none => rw [el] at h; cases h
      | some p =>
        obtain ⟨ds, h'⟩ := p
        rw [el] at h
        simp only at h
        by_cases c2 : l[h']? = some 41
        · rw [if_neg (fun z => z c2)] at h
          cases h
          cases t
        · rw [if_pos c2] at h
          cases h
  · rw [ptree_num c] at h
    exact h
theorem dp_non {K : PySem.W.Frag} {H : Hp} {v : V} (h : Dp K H v .none) : v = .non := by cases h; rfl
theorem ptree_some {many l n i} {d : PyData} {e : Nat} (h : ptree many l n i = some (d, e)) : d ≠ .none := fun z => by
  cases n with
  | zero =>
    have := (pnum_some h).1
    rw [z] at this
    cases this
  | succ n =>
    by_cases c : l[i]? = some 40
    · rw [ptree_open c] at h
      cases el : ploop (ptree many l n) many l i many with
      | none => rw [el] at h; cases h
      | some p =>
        obtain ⟨ds, h'⟩ := p
        rw [el] at h
        simp only at h
        by_cases c2 : l[h']? = some 41
        · rw [if_neg (fun z => z c2)] at h
          rw [z] at h
          cases h
        · rw [if_pos c2] at h
          cases h
    · rw [ptree_num c] at h
      have := (pnum_some h).1
      rw [z] at this
      cases this
theorem dp_nn {K : PySem.W.Frag} {H : Hp} {v : V} {d : PyData} (h : Dp K H v d) (n : d ≠ .none) : v ≠ .non := fun z => by
  subst z
  cases h
  exact n rfl

/-! ### how long the first text is; changed texts -/
def Lil : UT → Prop
  | .lf i => 0 ≤ i ∧ i < 1000
  | .nd g l r => (∀ n, g = some n → 0 ≤ n ∧ n < 1000) ∧ Lil l ∧ Lil r
theorem numL_pc (n : Nat) : pc (TL.numL n) = 0 := by
  refine List.count_eq_zero.mpr fun h => ?_
  have := numL_dig n 40 h
  cases this
theorem ntx_lil {i : Int} (h : 0 ≤ i ∧ i < 1000) : (ntx i).length ≤ 3 ∧ pc (ntx i) = 0 ∧ i.natAbs ≤ 1000 := by
  obtain ⟨k, rfl⟩ : ∃ k : Nat, i = (k : Int) := ⟨i.toNat, by omega⟩
  rw [ntx_nat]
  exact ⟨TL.numL_len (by decide) (by omega), numL_pc k, by omega⟩
theorem lil_tx : ∀ {t : UT}, Lil t → t.tx.length + 7 ≤ 10 * 2 ^ t.dep ∧ pc t.tx + 1 ≤ 2 ^ t.dep ∧ t.nb 1000
  | .lf i, h => by
    have h1 := ntx_lil (show 0 ≤ i ∧ i < 1000 from h)
    have e : (UT.lf i).tx = ntx i := by simp only [UT.tx]
    have e2 : (UT.lf i).dep = 0 := rfl
    rw [e, e2]
    exact ⟨by omega, by omega, h1.2.2⟩
  | .nd g l r, h => by
    obtain ⟨h0, hl, hr⟩ : (∀ n, g = some n → 0 ≤ n ∧ n < 1000) ∧ Lil l ∧ Lil r := h
    have a := lil_tx hl
    have b := lil_tx hr
    have e2 : (UT.nd g l r).dep = max l.dep r.dep + 1 := rfl
    have p1 : 2 ^ l.dep ≤ 2 ^ max l.dep r.dep := Nat.pow_le_pow_right (by decide) (by omega)
    have p2 : 2 ^ r.dep ≤ 2 ^ max l.dep r.dep := Nat.pow_le_pow_right (by decide) (by omega)
    rw [e2, Nat.pow_succ]
    cases g with
    | none =>
      have e3 : (UT.nd none l r).tx = 40 :: (l.tx ++ 44 :: r.tx) ++ [41] := by simp only [UT.tx]
      have e4 : pc (UT.nd none l r).tx = 1 + pc l.tx + pc r.tx := by
        rw [e3]
        simp [pc, List.count_append, List.count_cons]
        omega
      have e5 : (UT.nd none l r).tx.length = 3 + l.tx.length + r.tx.length := by
        rw [e3]
        simp
        omega
      exact ⟨by omega, by omega, ⟨by simp, a.2.2, b.2.2⟩⟩
    | some n =>
      have h1 := ntx_lil (h0 n rfl)
      have e3 : (UT.nd (some n) l r).tx = 40 :: (ntx n ++ 44 :: (l.tx ++ 44 :: r.tx)) ++ [41] := by simp only [UT.tx]
      have e4 : pc (UT.nd (some n) l r).tx = 1 + pc (ntx n) + pc l.tx + pc r.tx := by
        rw [e3]
        simp [pc, List.count_append, List.count_cons]
        omega
      have e5 : (UT.nd (some n) l r).tx.length = 4 + (ntx n).length + l.tx.length + r.tx.length := by
        rw [e3]
        simp
        omega
      exact ⟨by omega, by omega, ⟨h1.2.2, a.2.2, b.2.2⟩⟩
theorem PT.lil : ∀ {u : PT}, u.ok → Lil u.u
  | .lf i, h => by
    have h' : i = 0 ∨ i = 1 := h
    show 0 ≤ i ∧ i < 1000
    omega
  | .nd l r, h => ⟨fun n z => (by cases z), PT.lil h.1, PT.lil h.2⟩
theorem CT.lil {b : Int} (hb : b ≤ 1000) : ∀ {t : CT}, t.nn → t.bd b → Lil t.u
  | .lf i, h, h2 => by
    have h' : 0 ≤ i := h
    have h2' : i < b := h2
    show 0 ≤ i ∧ i < 1000
    omega
  | .nd n l r, h, h2 => ⟨fun m z => (by
      have h' : 0 ≤ n := h.1
      have h2' : n < b := h2.1
      have : n = m := Option.some.inj z
      omega), CT.lil hb h.2.1 h2.2.1, CT.lil hb h.2.2 h2.2.2⟩
theorem lil_wr {u t : UT} (hu : Lil u) (ht : Lil t) (du : u.dep ≤ 4) (dt : t.dep ≤ 4) : Wr u t ∧ (wtx u t).length ≤ 310 ∧ pc (wtx u t) ≤ 30 := by
  have a := lil_tx hu
  have b := lil_tx ht
  have p1 : 2 ^ u.dep ≤ 2 ^ 4 := Nat.pow_le_pow_right (by decide) du
  have p2 : 2 ^ t.dep ≤ 2 ^ 4 := Nat.pow_le_pow_right (by decide) dt
  refine ⟨⟨1000, big_B (by decide), a.2.2, b.2.2, by omega, by omega, by omega, by omega⟩, ?_, ?_⟩
  · unfold wtx
    rw [List.length_append, List.length_cons]
    omega
  · unfold wtx
    rw [pc_app]
    have : pc (32 :: t.tx) = pc t.tx := by simp [pc, List.count_cons]
    omega
/-- a stretch put in for another one -/
theorem chg_cut (l m : List Nat) {a b : Nat} (h : a ≤ b) : (l.take a ++ m ++ l.drop b).length ≤ l.length + m.length ∧ pc (l.take a ++ m ++ l.drop b) ≤ pc l + pc m := by
  constructor
  · rw [List.length_append, List.length_append, List.length_take, List.length_drop]
    omega
  · rw [pc_app, pc_app]
    have h1 := pc_app (l.take a) (l.drop a)
    rw [List.take_append_drop] at h1
    have h2 := pc_later (l := l) h
    omega
theorem chg_more (l : List Nat) (p k : Nat) (hk : k ≤ 5) : (l.take (p + k) ++ l.drop p).length ≤ l.length + 5 ∧ pc (l.take (p + k) ++ l.drop p) ≤ pc l + 5 := by
  constructor
  · rw [List.length_append, List.length_take, List.length_drop]
    omega
  · have e : l.take (p + k) = l.take p ++ (l.drop p).take k := List.take_add
    have h1 := pc_app (l.take p) (l.drop p)
    rw [List.take_append_drop] at h1
    have h2 := pc_le ((l.drop p).take k)
    rw [List.length_take] at h2
    rw [pc_app, e, pc_app]
    omega
def signs17 : List Nat := [40, 41, 44, 44, 48, 49, 32, 49, 40, 48, 41, 50, 45, 95, 32, 10, 9]
theorem signs_eq : ("(),,01 1(0)2-_ \n\t" : Str) = sx signs17 := by decide +kernel
theorem signs_at {k : Nat} (h : k < 17) : ∃ c, atI signs17 (k : Int) = some c := ⟨signs17[k]'h, atI_nat (List.getElem?_eq_getElem (l := signs17) h)⟩
def some8 : List (List Nat) := [[48, 48], [40, 48, 44, 48, 41], [40, 49, 44, 49, 41], [49, 48], [40, 48, 44, 48, 44, 48, 41], [40, 49, 44, 48, 44, 50, 41], [40, 48, 44, 49, 41], [48, 32, 48]]
theorem some_eq : [V.str "00", V.str "(0,0)", V.str "(1,1)", V.str "10", V.str "(0,0,0)", V.str "(1,0,2)", V.str "(0,1)", V.str "0 0"] = some8.map fun l => V.str (sx l) := by decide +kernel
theorem some_at {k : Nat} (h : k < 8) : ∃ m : List Nat, atI (some8.map fun l => V.str (sx l)) (k : Int) = some (V.str (sx m)) ∧ m.length ≤ 7 ∧ pc m ≤ 1 := by
  refine ⟨some8[k]'h, atI_nat (by rw [List.getElem?_map, List.getElem?_eq_getElem (l := some8) h]; rfl), ?_⟩
  have key : ∀ m ∈ some8, m.length ≤ 7 ∧ pc m ≤ 1 := by decide
  exact key _ (List.getElem_mem (l := some8) h)

def top (i : Nat) : Stmt := PySem.Challenge.pw_treeclock_k03_whole_read.main.body.getD i (.Pass ⟨0, 0, 0, 0⟩)
abbrev st_is_number : Stmt := top 6
theorem sc_is_number : FnScope ["thing"] ["thing"] (defScope st_is_number) := ⟨rfl, rfl, rfl, by decide +kernel, rfl, by decide +kernel, by decide +kernel⟩
abbrev st_is_part : Stmt := top 7
theorem sc_is_part : FnScope ["thing"] ["thing"] (defScope st_is_part) := ⟨rfl, rfl, rfl, by decide +kernel, rfl, by decide +kernel, by decide +kernel⟩
abbrev st_front : Stmt := top 8
theorem sc_front : FnScope ["count"] ["count"] (defScope st_front) := ⟨rfl, rfl, rfl, by decide +kernel, rfl, by decide +kernel, by decide +kernel⟩
abbrev st_is_count : Stmt := top 9
theorem sc_is_count : FnScope ["thing"] ["thing"] (defScope st_is_count) := ⟨rfl, rfl, rfl, by decide +kernel, rfl, by decide +kernel, by decide +kernel⟩
abbrev st_is_clock : Stmt := top 10
theorem sc_is_clock : FnScope ["thing"] ["thing"] (defScope st_is_clock) := ⟨rfl, rfl, rfl, by decide +kernel, rfl, by decide +kernel, by decide +kernel⟩
abbrev st_tree_text : Stmt := top 12
theorem sc_tree_text : FnScope ["tree", "part"] ["tree"] (defScope st_tree_text) := ⟨rfl, rfl, rfl, by decide +kernel, rfl, by decide +kernel, by decide +kernel⟩
abbrev st_number_at : Stmt := top 15
theorem sc_number_at : FnScope ["text", "at", "end"] ["text", "at"] (defScope st_number_at) := ⟨rfl, rfl, rfl, by decide +kernel, rfl, by decide +kernel, by decide +kernel⟩
abbrev st_tree_at : Stmt := top 16
theorem sc_tree_at : FnScope ["text", "at", "many", "found", "here", "k", "part"] ["text", "at", "many"] (defScope st_tree_at) := ⟨rfl, rfl, rfl, by decide +kernel, rfl, by decide +kernel, by decide +kernel⟩
abbrev st_read : Stmt := top 17
theorem sc_read : FnScope ["text", "part", "here", "count", "end", "clock"] ["text"] (defScope st_read) := ⟨rfl, rfl, rfl, by decide +kernel, rfl, by decide +kernel, by decide +kernel⟩
abbrev st__law_cell_at : Stmt := top 19
theorem sc__law_cell_at : FnScope ["_law_script", "_law_k"] ["_law_script", "_law_k"] (defScope st__law_cell_at) := ⟨rfl, rfl, rfl, by decide +kernel, rfl, by decide +kernel, by decide +kernel⟩
abbrev st__law_mixed : Stmt := top 20
theorem sc__law_mixed : FnScope ["_law_script", "_law_k", "_law_drawn_here"] ["_law_script", "_law_k"] (defScope st__law_mixed) := ⟨rfl, rfl, rfl, by decide +kernel, rfl, by decide +kernel, by decide +kernel⟩
abbrev st__law_drawn : Stmt := top 21
theorem sc__law_drawn : FnScope ["_law_number", "_law_k", "_law_drawn_here"] ["_law_number", "_law_k"] (defScope st__law_drawn) := ⟨rfl, rfl, rfl, by decide +kernel, rfl, by decide +kernel, by decide +kernel⟩
abbrev st__law_any_part : Stmt := top 22
theorem sc__law_any_part : FnScope ["_law_number", "_law_deep", "_law_one"] ["_law_number", "_law_deep"] (defScope st__law_any_part) := ⟨rfl, rfl, rfl, by decide +kernel, rfl, by decide +kernel, by decide +kernel⟩
abbrev st__law_any_count : Stmt := top 23
theorem sc__law_any_count : FnScope ["_law_number", "_law_deep", "_law_one"] ["_law_number", "_law_deep"] (defScope st__law_any_count) := ⟨rfl, rfl, rfl, by decide +kernel, rfl, by decide +kernel, by decide +kernel⟩
abbrev st__law_plain_part : Stmt := top 24
theorem sc__law_plain_part : FnScope ["_law_tree", "_law_one", "_law_other"] ["_law_tree"] (defScope st__law_plain_part) := ⟨rfl, rfl, rfl, by decide +kernel, rfl, by decide +kernel, by decide +kernel⟩
abbrev st__law_more : Stmt := top 25
theorem sc__law_more : FnScope ["_law_count", "_law_by"] ["_law_count", "_law_by"] (defScope st__law_more) := ⟨rfl, rfl, rfl, by decide +kernel, rfl, by decide +kernel, by decide +kernel⟩
abbrev st__law_front : Stmt := top 26
theorem sc__law_front : FnScope ["_law_count"] ["_law_count"] (defScope st__law_front) := ⟨rfl, rfl, rfl, by decide +kernel, rfl, by decide +kernel, by decide +kernel⟩
abbrev st__law_plain_count : Stmt := top 27
theorem sc__law_plain_count : FnScope ["_law_tree", "_law_one", "_law_other", "_law_least"] ["_law_tree"] (defScope st__law_plain_count) := ⟨rfl, rfl, rfl, by decide +kernel, rfl, by decide +kernel, by decide +kernel⟩
abbrev st__law_whole : Stmt := top 28
theorem sc__law_whole : FnScope ["_law_thing"] ["_law_thing"] (defScope st__law_whole) := ⟨rfl, rfl, rfl, by decide +kernel, rfl, by decide +kernel, by decide +kernel⟩
abbrev st__law_is_part : Stmt := top 29
theorem sc__law_is_part : FnScope ["_law_thing"] ["_law_thing"] (defScope st__law_is_part) := ⟨rfl, rfl, rfl, by decide +kernel, rfl, by decide +kernel, by decide +kernel⟩
abbrev st__law_is_count : Stmt := top 30
theorem sc__law_is_count : FnScope ["_law_thing"] ["_law_thing"] (defScope st__law_is_count) := ⟨rfl, rfl, rfl, by decide +kernel, rfl, by decide +kernel, by decide +kernel⟩
abbrev st__law_is_clock : Stmt := top 31
theorem sc__law_is_clock : FnScope ["_law_thing"] ["_law_thing"] (defScope st__law_is_clock) := ⟨rfl, rfl, rfl, by decide +kernel, rfl, by decide +kernel, by decide +kernel⟩
abbrev st__law_clock : Stmt := top 32
theorem sc__law_clock : FnScope ["_law_number", "_law_deep", "_law_part"] ["_law_number", "_law_deep"] (defScope st__law_clock) := ⟨rfl, rfl, rfl, by decide +kernel, rfl, by decide +kernel, by decide +kernel⟩
abbrev st__law_tree_text : Stmt := top 33
theorem sc__law_tree_text : FnScope ["_law_tree", "_law_found_here", "_law_part"] ["_law_tree"] (defScope st__law_tree_text) := ⟨rfl, rfl, rfl, by decide +kernel, rfl, by decide +kernel, by decide +kernel⟩
abbrev st__law_written : Stmt := top 34
theorem sc__law_written : FnScope ["_law_clock_here"] ["_law_clock_here"] (defScope st__law_written) := ⟨rfl, rfl, rfl, by decide +kernel, rfl, by decide +kernel, by decide +kernel⟩
abbrev st__law_changed : Stmt := top 35
theorem sc__law_changed : FnScope ["_law_text", "_law_number", "_law_place", "_law_kind", "_law_sign", "_law_end", "_law_some"] ["_law_text", "_law_number"] (defScope st__law_changed) := ⟨rfl, rfl, rfl, by decide +kernel, rfl, by decide +kernel, by decide +kernel⟩
abbrev st__law_number_at : Stmt := top 36
theorem sc__law_number_at : FnScope ["_law_text", "_law_at", "_law_end"] ["_law_text", "_law_at"] (defScope st__law_number_at) := ⟨rfl, rfl, rfl, by decide +kernel, rfl, by decide +kernel, by decide +kernel⟩
abbrev st__law_tree_at : Stmt := top 37
theorem sc__law_tree_at : FnScope ["_law_text", "_law_at", "_law_many", "_law_end", "_law_found_here", "_law_here", "_law_k", "_law_part"] ["_law_text", "_law_at", "_law_many"] (defScope st__law_tree_at) := ⟨rfl, rfl, rfl, by decide +kernel, rfl, by decide +kernel, by decide +kernel⟩
abbrev st__law_due : Stmt := top 38
theorem sc__law_due : FnScope ["_law_text", "_law_part", "_law_here", "_law_count", "_law_end"] ["_law_text"] (defScope st__law_due) := ⟨rfl, rfl, rfl, by decide +kernel, rfl, by decide +kernel, by decide +kernel⟩
abbrev st__law_found : Stmt := top 39
theorem sc__law_found : FnScope ["_law_text", "_law_found_here", "e", "_law_good"] ["_law_text"] (defScope st__law_found) := ⟨rfl, rfl, rfl, by decide +kernel, rfl, by decide +kernel, by decide +kernel⟩
abbrev st_law : Stmt := top 40
theorem sc_law : FnScope ["_law_script", "_law_number", "_law_clock_here", "_law_text", "_law_k", "_law_found_here"] ["_law_script"] (defScope st_law) := ⟨rfl, rfl, rfl, by decide +kernel, rfl, by decide +kernel, by decide +kernel⟩
structure Defs (K : PySem.W.Frag) (mg : Str → Option Value) : Prop where
  d_is_number : Df K mg "is_number" st_is_number ["thing"]
  d_is_part : Df K mg "is_part" st_is_part ["thing"]
  d_front : Df K mg "front" st_front ["count"]
  d_is_count : Df K mg "is_count" st_is_count ["thing"]
  d_is_clock : Df K mg "is_clock" st_is_clock ["thing"]
  d_tree_text : Df K mg "tree_text" st_tree_text ["tree"]
  d_number_at : Df K mg "number_at" st_number_at ["text", "at"]
  d_tree_at : Df K mg "tree_at" st_tree_at ["text", "at", "many"]
  d_read : Df K mg "read" st_read ["text"]
  d__law_cell_at : Df K mg "_law_cell_at" st__law_cell_at ["_law_script", "_law_k"]
  d__law_mixed : Df K mg "_law_mixed" st__law_mixed ["_law_script", "_law_k"]
  d__law_drawn : Df K mg "_law_drawn" st__law_drawn ["_law_number", "_law_k"]
  d__law_any_part : Df K mg "_law_any_part" st__law_any_part ["_law_number", "_law_deep"]
  d__law_any_count : Df K mg "_law_any_count" st__law_any_count ["_law_number", "_law_deep"]
  d__law_plain_part : Df K mg "_law_plain_part" st__law_plain_part ["_law_tree"]
  d__law_more : Df K mg "_law_more" st__law_more ["_law_count", "_law_by"]
  d__law_front : Df K mg "_law_front" st__law_front ["_law_count"]
  d__law_plain_count : Df K mg "_law_plain_count" st__law_plain_count ["_law_tree"]
  d__law_whole : Df K mg "_law_whole" st__law_whole ["_law_thing"]
  d__law_is_part : Df K mg "_law_is_part" st__law_is_part ["_law_thing"]
  d__law_is_count : Df K mg "_law_is_count" st__law_is_count ["_law_thing"]
  d__law_is_clock : Df K mg "_law_is_clock" st__law_is_clock ["_law_thing"]
  d__law_clock : Df K mg "_law_clock" st__law_clock ["_law_number", "_law_deep"]
  d__law_tree_text : Df K mg "_law_tree_text" st__law_tree_text ["_law_tree"]
  d__law_written : Df K mg "_law_written" st__law_written ["_law_clock_here"]
  d__law_changed : Df K mg "_law_changed" st__law_changed ["_law_text", "_law_number"]
  d__law_number_at : Df K mg "_law_number_at" st__law_number_at ["_law_text", "_law_at"]
  d__law_tree_at : Df K mg "_law_tree_at" st__law_tree_at ["_law_text", "_law_at", "_law_many"]
  d__law_due : Df K mg "_law_due" st__law_due ["_law_text"]
  d__law_found : Df K mg "_law_found" st__law_found ["_law_text"]
section
variable {P : Program} {w : World} {K : PySem.W.Frag} {mg : Str → Option Value} {base : Heap}
def R_front (K : PySem.W.Frag) : V → Hp → VK → Prop := fun x H Q => ∃ t : CT, Dp K H x t.d ∧ Q (.int t.front) H
theorem ok_front (T : Txt K mg) (D : Defs K mg) : Cal CX0 P w K mg base 1 "front" (sp1 (R_front K)) := cal1 D.d_front sc_front fun f cdv A outer s H x Q E hr h => by
  obtain ⟨t, ht, q⟩ := h
  refine ⟨_, (pss_cons (ps_if (pt_val (pe_callB call_isD (by rfl) T.b_isinstance (by decide +kernel) (pa_cons (pv 0) (pa_cons (pe_bltn (v := .ty "tuple") (by rfl) T.b_tuple (by decide +kernel) rfl) pa_nil)))) (pss_one (ps_ret (pe_ix ix_tup (pv 0) pe_int (fun _ _ => rfl)))) pss_nil)
    (pss_one (ps_ret (pv 0)))), ?_⟩
  cases t with
  | lf n =>
    obtain rfl := dp_int ht
    exact ⟨_, rfl, _, _, _, _, rfl, ht, kb_tp _, _, rfl, iteF ⟨_, rfl, q⟩⟩
  | nd n l r =>
    obtain ⟨a, x0, y0, rfl, hs, hx, hy⟩ := CT.nd_inv ht
    exact ⟨_, rfl, _, _, _, _, rfl, ht, kb_tp _, _, rfl, iteT ⟨_, rfl, _, _, _, _, rfl, rfl, hs, rfl, q⟩⟩
theorem ok__law_front (T : Txt K mg) (D : Defs K mg) : Cal CX0 P w K mg base 1 "_law_front" (sp1 (R_front K)) := cal1 D.d__law_front sc__law_front fun f cdv A outer s H x Q E hr h => by
  obtain ⟨t, ht, q⟩ := h
  refine ⟨_, (pss_cons (ps_if (pt_val (pe_callB call_isD (by rfl) T.b_isinstance (by decide +kernel) (pa_cons (pv 0) (pa_cons (pe_bltn (v := .ty "tuple") (by rfl) T.b_tuple (by decide +kernel) rfl) pa_nil)))) (pss_one (ps_ret (pe_ix ix_tup (pv 0) pe_int (fun _ _ => rfl)))) pss_nil)
    (pss_one (ps_ret (pv 0)))), ?_⟩
  cases t with
  | lf n =>
    obtain rfl := dp_int ht
    exact ⟨_, rfl, _, _, _, _, rfl, ht, kb_tp _, _, rfl, iteF ⟨_, rfl, q⟩⟩
  | nd n l r =>
    obtain ⟨a, x0, y0, rfl, hs, hx, hy⟩ := CT.nd_inv ht
    exact ⟨_, rfl, _, _, _, _, rfl, ht, kb_tp _, _, rfl, iteT ⟨_, rfl, _, _, _, _, rfl, rfl, hs, rfl, q⟩⟩
def R_lift (K : PySem.W.Frag) : V → V → Hp → VK → Prop := fun x y H Q => ∃ (t : CT) (b : Int), Dp K H x t.d ∧ y = .int b ∧ ∀ v H', Same H H' → Dp K H' v (t.lift b).d → Q v H'
theorem ok__law_more (T : Txt K mg) (D : Defs K mg) : Cal CX0 P w K mg base 1 "_law_more" (sp2 (R_lift K)) := cal2 D.d__law_more sc__law_more fun f cdv A outer s H x y Q E hr h => by
  obtain ⟨t, b, ht, rfl, q⟩ := h
  refine ⟨_, (pss_cons (ps_if (pt_val (pe_callB call_isD (by rfl) T.b_isinstance (by decide +kernel) (pa_cons (pv 0) (pa_cons (pe_bltn (v := .ty "tuple") (by rfl) T.b_tuple (by decide +kernel) rfl) pa_nil)))) (pss_one (ps_ret (pe_tup (pa_cons (pe_op op_add (pe_ix ix_tup (pv 0) pe_int (fun _ _ => rfl)) (pv 1)) (pa_cons (pe_ix ix_tup (pv 0) pe_int (fun _ _ => rfl)) (pa_cons (pe_ix ix_tup (pv 0) pe_int (fun _ _ => rfl)) pa_nil)))))) pss_nil)
    (pss_one (ps_ret (pe_op op_add (pv 0) (pv 1))))), ?_⟩
  cases t with
  | lf n =>
    obtain rfl := dp_int ht
    exact ⟨_, rfl, _, _, _, _, rfl, ht, kb_tp _, _, rfl, iteF ⟨_, rfl, _, rfl, _, _, rfl, rfl, q _ H (Same.refl H) (CT.lf_dp _)⟩⟩
  | nd n l r =>
    obtain ⟨a, x0, y0, rfl, hs, hx, hy⟩ := CT.nd_inv ht
    refine ⟨_, rfl, _, _, _, _, rfl, ht, kb_tp _, _, rfl, iteT ?_⟩
    refine ⟨_, rfl, _, _, _, _, rfl, rfl, hs, rfl, _, rfl, _, _, rfl, rfl, ?_⟩
    refine ⟨_, rfl, _, _, _, _, rfl, rfl, hs, rfl, _, rfl, _, _, _, _, rfl, rfl, hs, rfl, three_le, fun p hp => ?_⟩
    exact q _ _ (same_new hp _) (CT.nd_new (n := n + b) hp hx hy)
def R_ppart (K : PySem.W.Frag) (n : Nat) : V → Hp → VK → Prop := fun x H Q => ∃ t : PT, Dp K H x t.d ∧ t.dep < n ∧ n ≤ 62 ∧ ∀ v H', Same H H' → Dp K H' v t.plain.d → Q v H'
theorem R_ppart_0 {K : PySem.W.Frag} : ∀ vs H Q E, ¬ sp1 (R_ppart K 0) vs H Q E := by
  rintro vs H Q E ⟨x, rfl, t, _, h, _⟩
  omega
end
section
variable {P : Program} {w : World} {K : PySem.W.Frag} {mg : Str → Option Value} {base : Heap}
def R_pcount (K : PySem.W.Frag) (n : Nat) : V → Hp → VK → Prop := fun x H Q => ∃ t : CT, Dp K H x t.d ∧ t.dep < n ∧ n ≤ 62 ∧ ∀ v H', Same H H' → Dp K H' v t.plain.d → Q v H'
theorem R_pcount_0 {K : PySem.W.Frag} : ∀ vs H Q E, ¬ sp1 (R_pcount K 0) vs H Q E := by
  rintro vs H Q E ⟨x, rfl, t, _, h, _⟩
  omega
theorem ok__law_plain_part (T : Txt K mg) (D : Defs K mg) : ∀ n, Cal CX0 P w K mg base (n + 1) "_law_plain_part" (sp1 (R_ppart K n))
  | 0 => cal_no D.d__law_plain_part R_ppart_0
  | n + 1 => by
    have c__law_plain_part := ok__law_plain_part T D n
    refine cal1 D.d__law_plain_part sc__law_plain_part fun f cdv A outer s H x Q E hr h => ?_
    obtain ⟨t, ht, hn, h60, q⟩ := h
    refine ⟨_, (pss_cons (ps_if (pt_not (pt_val (pe_callB call_isD (by rfl) T.b_isinstance (by decide +kernel) (pa_cons (pv 0) (pa_cons (pe_bltn (v := .ty "tuple") (by rfl) T.b_tuple (by decide +kernel) rfl) pa_nil))))) (pss_one (ps_ret (pv 0))) pss_nil)
    (pss_cons (ps_set (i := 1) sc__law_plain_part.nd rfl (Or.inl rfl) (pe_c c__law_plain_part hr (by omega) rfl (pa_cons (pe_ix ix_tup (pv 0) pe_int (fun _ _ => rfl)) pa_nil)))
    (pss_cons (ps_set (i := 2) sc__law_plain_part.nd rfl (Or.inl rfl) (pe_c c__law_plain_part hr (by omega) rfl (pa_cons (pe_ix ix_tup (pv 0) pe_int (fun _ _ => rfl)) pa_nil)))
    (pss_cons (ps_if (PW.pt (pw_and (pt_cmpR (op_eqD hr.units) (pv 1) (pv 2) (nomark _)) (pw_and1 (pt_cmpR (op_inT (hu65 hr)) (pv 1) (pe_tup (pa_cons pe_int (pa_cons pe_int pa_nil))) (by with_unfolding_all rfl))))) (pss_one (ps_ret (pv 1))) pss_nil)
    (pss_one (ps_ret (pe_tup (pa_cons (pv 1) (pa_cons (pv 2) pa_nil))))))))), ?_⟩
    cases t with
    | lf i =>
      obtain rfl := dp_int ht
      exact ⟨_, rfl, _, _, _, _, rfl, ht, kb_tp _, _, rfl, iteT ⟨_, rfl, q _ H (Same.refl H) ht⟩⟩
    | nd l r =>
      obtain ⟨a, x, y, rfl, hs, hx, hy⟩ := PT.nd_inv ht
      rw [PT.dep_nd] at hn
      have b1 := PT.plain_dep l
      have b2 := PT.plain_dep r
      refine ⟨_, rfl, _, _, _, _, rfl, ht, kb_tp _, _, rfl, iteF ?_⟩
      refine ⟨_, rfl, _, _, _, _, rfl, rfl, hs, rfl, _, rfl, l, hx, by omega, by omega, fun v1 H1 s1 d1 => ?_⟩
      refine ⟨_, rfl, _, _, _, _, rfl, rfl, Same.sqt s1 hs, rfl, _, rfl, r, Dp.same s1 _ _ hy, by omega, by omega, fun v2 H2 s2 d2 => ?_⟩
      have sa := s1.trans s2
      have d1' := Dp.same s2 _ _ d1
      refine ⟨_, rfl, _, rfl, _, _, d1', d2, PT.sh (by omega), PT.sh (by omega), _, rfl, iteE (PT.eqv_d _ _) (fun c1 => ?_) fun c1 => ?_⟩
      · refine ⟨_, rfl, two_le, fun p hp => ?_⟩
        have s3 := same_new hp (.tup [V.int 0, V.int 1])
        refine ⟨_, _, Dp.same s3 _ _ d1', dp_new2 hp (.int 0) (.int 1), PT.sh (by omega), by decide +kernel, _, rfl, iteE (PT.any01 _) (fun c2 => ?_) fun c2 => ?_⟩
        · refine ⟨_, rfl, q _ _ (sa.trans s3) ?_⟩
          rw [PT.mk_nd, PT.mk_law, if_pos ⟨c1, c2⟩]
          exact Dp.same s3 _ _ d1'
        · refine ⟨_, rfl, _, rfl, two_le, fun p2 hp2 => q _ _ (sa.trans (s3.trans (same_new hp2 _))) ?_⟩
          rw [PT.mk_nd, PT.mk_law, if_neg fun z => c2 z.2]
          exact PT.nd_new hp2 (Dp.same s3 _ _ d1') (Dp.same s3 _ _ d2)
      · refine iteF ⟨_, rfl, _, rfl, two_le, fun p2 hp2 => q _ _ (sa.trans (same_new hp2 _)) ?_⟩
        rw [PT.mk_nd, PT.mk_law, if_neg fun z => c1 z.1]
        exact PT.nd_new hp2 d1' d2
theorem ok__law_plain_count (T : Txt K mg) (D : Defs K mg) : ∀ n, Cal CX0 P w K mg base (n + 2) "_law_plain_count" (sp1 (R_pcount K n))
  | 0 => cal_no D.d__law_plain_count R_pcount_0
  | n + 1 => by
    have c__law_plain_count := ok__law_plain_count T D n
    have c__law_front := ok__law_front (P := P) (w := w) (base := base) T D
    have c__law_more := ok__law_more (P := P) (w := w) (base := base) T D
    refine cal1 D.d__law_plain_count sc__law_plain_count fun f cdv A outer s H x Q E hr h => ?_
    obtain ⟨t, ht, hn, h60, q⟩ := h
    refine ⟨_, (pss_cons (ps_if (pt_not (pt_val (pe_callB call_isD (by rfl) T.b_isinstance (by decide +kernel) (pa_cons (pv 0) (pa_cons (pe_bltn (v := .ty "tuple") (by rfl) T.b_tuple (by decide +kernel) rfl) pa_nil))))) (pss_one (ps_ret (pv 0))) pss_nil)
    (pss_cons (ps_set (i := 1) sc__law_plain_count.nd rfl (Or.inl rfl) (pe_c c__law_plain_count hr (by omega) rfl (pa_cons (pe_ix ix_tup (pv 0) pe_int (fun _ _ => rfl)) pa_nil)))
    (pss_cons (ps_set (i := 2) sc__law_plain_count.nd rfl (Or.inl rfl) (pe_c c__law_plain_count hr (by omega) rfl (pa_cons (pe_ix ix_tup (pv 0) pe_int (fun _ _ => rfl)) pa_nil)))
    (pss_cons (ps_set (i := 3) sc__law_plain_count.nd rfl (Or.inl rfl) (pe_callB (call_min2 rfl) (by rfl) T.b_min (by decide +kernel) (pa_cons (pe_c c__law_front hr (by omega) rfl (pa_cons (pv 1) pa_nil)) (pa_cons (pe_c c__law_front hr (by omega) rfl (pa_cons (pv 2) pa_nil)) pa_nil))))
    (pss_cons (ps_if (PW.pt (pw_and (pt_cmpR (op_eqD hr.units) (pv 1) (pv 3) (nomark _)) (pw_and1 (pt_cmpR (op_eqD hr.units) (pv 2) (pv 3) (nomark _))))) (pss_one (ps_ret (pe_op op_add (pe_ix ix_tup (pv 0) pe_int (fun _ _ => rfl)) (pv 3)))) pss_nil)
    (pss_one (ps_ret (pe_tup (pa_cons (pe_op op_add (pe_ix ix_tup (pv 0) pe_int (fun _ _ => rfl)) (pv 3)) (pa_cons (pe_c c__law_more hr (by omega) rfl (pa_cons (pv 1) (pa_cons (pe_un un_neg (pv 3)) pa_nil))) (pa_cons (pe_c c__law_more hr (by omega) rfl (pa_cons (pv 2) (pa_cons (pe_un un_neg (pv 3)) pa_nil))) pa_nil))))))))))), ?_⟩
    cases t with
    | lf i =>
      obtain rfl := dp_int ht
      exact ⟨_, rfl, _, _, _, _, rfl, ht, kb_tp _, _, rfl, iteT ⟨_, rfl, q _ H (Same.refl H) ht⟩⟩
    | nd m l r =>
      obtain ⟨a, x, y, rfl, hs, hx, hy⟩ := CT.nd_inv ht
      rw [CT.dep_nd] at hn
      have b1 := CT.plain_dep l
      have b2 := CT.plain_dep r
      refine ⟨_, rfl, _, _, _, _, rfl, ht, kb_tp _, _, rfl, iteF ?_⟩
      refine ⟨_, rfl, _, _, _, _, rfl, rfl, hs, rfl, _, rfl, l, hx, by omega, by omega, fun v1 H1 s1 d1 => ?_⟩
      refine ⟨_, rfl, _, _, _, _, rfl, rfl, Same.sqt s1 hs, rfl, _, rfl, r, Dp.same s1 _ _ hy, by omega, by omega, fun v2 H2 s2 d2 => ?_⟩
      have sa := s1.trans s2
      have d1' := Dp.same s2 _ _ d1
      have hs2 := Same.sqt sa hs
      refine ⟨_, rfl, _, rfl, l.plain, d1', _, rfl, _, rfl, r.plain, d2, _, _, rfl, ?_⟩
      rw [if_min]
      have fin : ¬ (l.plain = .lf (CT.least l.plain r.plain) ∧ r.plain = .lf (CT.least l.plain r.plain)) → ∀ v3 H3, Same H2 H3 → Dp K H3 v3 (l.plain.lift (-(min l.plain.front r.plain.front))).d → ∀ v4 H4, Same H3 H4 → Dp K H4 v4 (r.plain.lift (-(min l.plain.front r.plain.front))).d →
          ∀ p, H4 p = none → Q (.ref p) (upd H4 p (.tup [.int (m + min l.plain.front r.plain.front), v3, v4])) := fun c v3 H3 s3 d3 v4 H4 s4 d4 p hp => by
        refine q _ _ (sa.trans (s3.trans (s4.trans (same_new hp _)))) ?_
        rw [CT.mk_nd, CT.mk_law, if_neg c]
        exact CT.nd_new hp (Dp.same s4 _ _ d3) d4
      refine ⟨_, rfl, _, rfl, _, _, d1', CT.lf_dp _, CT.sh (by omega), CT.sh (by show 0 ≤ 64; decide), _, rfl, iteE (CT.eqv_d _ (CT.lf _)) (fun c1 => ?_) fun c1 => ?_⟩
      · refine ⟨_, rfl, _, rfl, _, _, d2, CT.lf_dp _, CT.sh (by omega), CT.sh (by show 0 ≤ 64; decide), _, rfl, iteE (CT.eqv_d _ (CT.lf _)) (fun c2 => ?_) fun c2 => ?_⟩
        · refine ⟨_, rfl, _, _, _, _, rfl, rfl, hs2, rfl, _, rfl, _, _, rfl, rfl, q _ H2 sa ?_⟩
          rw [CT.mk_nd, CT.mk_law, if_pos ⟨c1, c2⟩]
          exact .int _
        · refine ⟨_, rfl, _, _, _, _, rfl, rfl, hs2, rfl, _, rfl, _, _, rfl, rfl, ?_⟩
          refine ⟨_, rfl, _, rfl, _, rfl, _, _, rfl, l.plain, _, d1', rfl, fun v3 H3 s3 d3 => ?_⟩
          refine ⟨_, rfl, _, rfl, _, rfl, _, _, rfl, r.plain, _, Dp.same s3 _ _ d2, rfl, fun v4 H4 s4 d4 => ?_⟩
          exact ⟨three_le, fin (fun z => c2 z.2) v3 H3 s3 d3 v4 H4 s4 d4⟩
      · refine iteF ⟨_, rfl, _, _, _, _, rfl, rfl, hs2, rfl, _, rfl, _, _, rfl, rfl, ?_⟩
        refine ⟨_, rfl, _, rfl, _, rfl, _, _, rfl, l.plain, _, d1', rfl, fun v3 H3 s3 d3 => ?_⟩
        refine ⟨_, rfl, _, rfl, _, rfl, _, _, rfl, r.plain, _, Dp.same s3 _ _ d2, rfl, fun v4 H4 s4 d4 => ?_⟩
        exact ⟨three_le, fin (fun z => c1 z.1) v3 H3 s3 d3 v4 H4 s4 d4⟩
end

section
variable {P : Program} {w : World} {K : PySem.W.Frag} {mg : Str → Option Value} {base : Heap}
def R_cell (K : PySem.W.Frag) : V → V → Hp → VK → Prop := fun x y H Q => ∃ (a : Addr) (ns : List Int) (k : Int), x = .ref a ∧ y = .int k ∧ 0 ≤ k ∧ SqL K H a (ns.map V.int) ∧ ∀ i : Int, Q (.int i) H
theorem ok__law_cell_at (T : Txt K mg) (D : Defs K mg) : Cal CX0 P w K mg base 1 "_law_cell_at" (sp2 (R_cell K)) := cal2 D.d__law_cell_at sc__law_cell_at fun f cdv A outer s H x y Q E hr h => by
  obtain ⟨a, ns, k, rfl, rfl, hk, hS, q⟩ := h
  refine ⟨_, (pss_cons (ps_if (pt_cmpR op_lt (pv 1) (pe_callB call_len_seq (by rfl) T.b_len PySem.boot_len (pa_cons (pv 0) pa_nil)) (nomark _)) (pss_one (ps_ret (pe_ix ix_list (pv 0) (pv 1) (fun _ _ => rfl)))) pss_nil)
    (pss_one (ps_ret pe_int))), ?_⟩
  have hl : (ns.map V.int).length = ns.length := List.length_map _
  refine ⟨_, rfl, _, rfl, _, _, rfl, .inl hS, _, _, rfl, rfl, _, rfl, iteE rfl (fun c => ?_) fun c => q _⟩
  rw [hl] at c
  obtain ⟨v, hv⟩ := atI_ints hk c
  exact ⟨_, rfl, _, rfl, _, _, _, _, rfl, rfl, hS, hv, q v⟩
def R_mixed (K : PySem.W.Frag) : V → V → Hp → VK → Prop := fun x y H Q => ∃ (a : Addr) (ns : List Int) (k : Int), x = .ref a ∧ y = .int k ∧ 0 ≤ k ∧ SqL K H a (ns.map V.int) ∧ ∀ m : Int, 0 ≤ m → m < 2147483629 → Q (.int m) H
theorem ok__law_mixed (T : Txt K mg) (D : Defs K mg) : Cal CX0 P w K mg base 2 "_law_mixed" (sp2 (R_mixed K)) := by
  have c__law_cell_at := ok__law_cell_at (P := P) (w := w) (base := base) T D
  refine cal2 D.d__law_mixed sc__law_mixed fun f cdv A outer s H x y Q E hr h => ?_
  obtain ⟨a, ns, k, rfl, rfl, hk, hS, q⟩ := h
  refine ⟨_, (pss_cons (ps_set (i := 2) sc__law_mixed.nd rfl (Or.inl rfl) (pe_op op_mod (pe_op op_mul (pe_op op_add (pe_op op_add (pe_c c__law_cell_at hr (by omega) rfl (pa_cons (pv 0) (pa_cons (pv 1) pa_nil))) (pe_op op_mul pe_int (pv 1))) pe_int) pe_int) pe_int))
    (pss_one (ps_ret (pe_op op_mod (pe_op op_add (pe_op op_add (pe_op op_mul (pv 2) (pv 2)) (pe_op op_mul pe_int (pv 2))) (pv 1)) pe_int)))), ?_⟩
  refine ⟨_, rfl, _, rfl, _, _, rfl, a, ns, k, rfl, rfl, hk, hS, fun i => ⟨_, rfl, _, _, rfl, rfl, .inl ⟨by decide, by decide⟩, _, _, rfl, rfl, _, _, rfl, rfl, _, _, rfl, rfl, .inr ⟨by decide, by decide⟩, _, _, rfl, rfl, (by show (0 : Int) < 2147483647; decide), ?_⟩⟩
  have z0 := Int.emod_nonneg ((i + 7919 * k + 1) * 48271) (show (2147483647 : Int) ≠ 0 by decide)
  have z1 := Int.emod_lt_of_pos ((i + 7919 * k + 1) * 48271) (show (0 : Int) < 2147483647 by decide)
  refine ⟨_, rfl, _, rfl, _, _, rfl, rfl, .inl ⟨by omega, by omega⟩, _, rfl, _, _, rfl, rfl, .inl ⟨by decide, by decide⟩, _, _, rfl, rfl, _, rfl, _, _, rfl, rfl, _, _, rfl, rfl, (by show (0 : Int) < 2147483629; decide), ?_⟩
  exact q _ (Int.emod_nonneg _ (by decide)) (Int.emod_lt_of_pos _ (by decide))
def R_drawn (K : PySem.W.Frag) : V → V → Hp → VK → Prop := fun x y H Q => ∃ i k : Int, x = .int i ∧ y = .int k ∧ ∀ m : Int, 0 ≤ m → m < 2147483629 → Q (.int m) H
theorem ok__law_drawn (T : Txt K mg) (D : Defs K mg) : Cal CX0 P w K mg base 1 "_law_drawn" (sp2 (R_drawn K)) := by
  refine cal2 D.d__law_drawn sc__law_drawn fun f cdv A outer s H x y Q E hr h => ?_
  obtain ⟨i, k, rfl, rfl, q⟩ := h
  refine ⟨_, (pss_cons (ps_set (i := 2) sc__law_drawn.nd rfl (Or.inl rfl) (pe_op op_mod (pe_op op_mul (pe_op op_add (pe_op op_add (pv 0) (pe_op op_mul pe_int (pv 1))) pe_int) pe_int) pe_int))
    (pss_one (ps_ret (pe_op op_mod (pe_op op_add (pe_op op_add (pe_op op_mul (pv 2) (pv 2)) (pe_op op_mul pe_int (pv 2))) (pv 1)) pe_int)))), ?_⟩
  refine ⟨_, rfl, _, rfl, _, _, rfl, rfl, .inl ⟨by decide, by decide⟩, _, _, rfl, rfl, _, _, rfl, rfl, _, _, rfl, rfl, .inr ⟨by decide, by decide⟩, _, _, rfl, rfl, (by show (0 : Int) < 2147483647; decide), ?_⟩
  have z0 := Int.emod_nonneg ((i + 104729 * k + 17) * 69621) (show (2147483647 : Int) ≠ 0 by decide)
  have z1 := Int.emod_lt_of_pos ((i + 104729 * k + 17) * 69621) (show (0 : Int) < 2147483647 by decide)
  refine ⟨_, rfl, _, rfl, _, _, rfl, rfl, .inl ⟨by omega, by omega⟩, _, rfl, _, _, rfl, rfl, .inl ⟨by decide, by decide⟩, _, _, rfl, rfl, _, rfl, _, _, rfl, rfl, _, _, rfl, rfl, (by show (0 : Int) < 2147483629; decide), ?_⟩
  exact q _ (Int.emod_nonneg _ (by decide)) (Int.emod_lt_of_pos _ (by decide))
def R_any_part (K : PySem.W.Frag) (n : Nat) : V → V → Hp → VK → Prop := fun x y H Q => ∃ (i : Int) (dp : Nat), x = .int i ∧ y = .int (dp : Int) ∧ dp < n ∧ ∀ (t : PT) v H', t.ok → t.dep ≤ dp → Same H H' → Dp K H' v t.d → Q v H'
theorem ok__law_any_part (T : Txt K mg) (D : Defs K mg) : ∀ n, Cal CX0 P w K mg base (n + 1) "_law_any_part" (sp2 (R_any_part K n))
  | 0 => cal_no D.d__law_any_part (by rintro vs H Q E ⟨x, y, rfl, i, dp, _, _, h, _⟩; omega)
  | n + 1 => by
    have c__law_any_part := ok__law_any_part T D n
    have c__law_drawn := ok__law_drawn (P := P) (w := w) (base := base) T D
    refine cal2 D.d__law_any_part sc__law_any_part fun f cdv A outer s H x y Q E hr h => ?_
    obtain ⟨i, dp, rfl, rfl, hd, q⟩ := h
    refine ⟨_, (pss_cons (ps_if (PW.pt (pw_or (pt_cmpR op_eq (pv 1) pe_int (nomark _)) (pw_or1 (pt_cmpR op_lt (pe_op op_mod (pv 0) pe_int) pe_int (nomark _))))) (pss_one (ps_ret (pe_op op_mod (pe_op op_fdiv (pv 0) pe_int) pe_int))) pss_nil)
    (pss_cons (ps_set (i := 2) sc__law_any_part.nd rfl (Or.inl rfl) (pe_c c__law_any_part hr (by omega) rfl (pa_cons (pe_c c__law_drawn hr (by omega) rfl (pa_cons (pv 0) (pa_cons pe_int pa_nil))) (pa_cons (pe_op op_sub (pv 1) pe_int) pa_nil))))
    (pss_one (ps_ret (pe_tup (pa_cons (pv 2) (pa_cons (pe_c c__law_any_part hr (by omega) rfl (pa_cons (pe_c c__law_drawn hr (by omega) rfl (pa_cons (pv 0) (pa_cons pe_int pa_nil))) (pa_cons (pe_op op_sub (pv 1) pe_int) pa_nil))) pa_nil))))))), ?_⟩
    have leaf : ∀ m : Int, Q (.int (m % 2)) H := fun m => q (.lf (m % 2)) _ H (by show m % 2 = 0 ∨ m % 2 = 1; omega) (Nat.zero_le _) (Same.refl H) (PT.lf_dp _)
    refine ⟨_, rfl, rfl, _, rfl, iteE rfl (fun c => iteT ?_) fun c => ?_⟩
    · exact ⟨_, rfl, _, _, rfl, rfl, ⟨by decide, by decide⟩, _, _, rfl, rfl, (by show (0 : Int) < 2; decide), leaf _⟩
    · refine ⟨_, rfl, _, _, rfl, rfl, (by show (0 : Int) < 5; decide), _, _, rfl, rfl, _, rfl, iteE rfl (fun c2 => ?_) fun c2 => ?_⟩
      · exact ⟨_, rfl, _, _, rfl, rfl, ⟨by decide, by decide⟩, _, _, rfl, rfl, (by show (0 : Int) < 2; decide), leaf _⟩
      · have d0 : dp ≠ 0 := fun z => c (by rw [z]; rfl)
        obtain ⟨dq, rfl⟩ : ∃ dq, dp = dq + 1 := ⟨dp - 1, by omega⟩
        have ed : V.int (((dq + 1 : Nat) : Int) - 1) = V.int (dq : Int) := congrArg V.int (by omega)
        refine ⟨_, rfl, _, _, rfl, i, 1, rfl, rfl, fun m1 _ _ => ⟨_, rfl, _, _, rfl, rfl, _, _, rfl, m1, dq, rfl, ed, by omega, fun t1 v1 H1 o1 p1 s1 e1 => ?_⟩⟩
        refine ⟨_, rfl, _, rfl, _, _, rfl, i, 2, rfl, rfl, fun m2 _ _ => ⟨_, rfl, _, _, rfl, rfl, _, _, rfl, m2, dq, rfl, ed, by omega, fun t2 v2 H2 o2 p2 s2 e2 => ?_⟩⟩
        refine ⟨two_le, fun p hp => ?_⟩
        exact q (.nd t1 t2) _ _ ⟨o1, o2⟩ (by rw [PT.dep_nd]; omega) (s1.trans (s2.trans (same_new hp _))) (PT.nd_new hp (Dp.same s2 _ _ e1) e2)
def R_any_count (K : PySem.W.Frag) (n : Nat) : V → V → Hp → VK → Prop := fun x y H Q => ∃ (i : Int) (dp : Nat), x = .int i ∧ y = .int (dp : Int) ∧ dp < n ∧ ∀ (t : CT) v H', t.nn → t.bd 30 → t.dep ≤ dp → Same H H' → Dp K H' v t.d → Q v H'
theorem ok__law_any_count (T : Txt K mg) (D : Defs K mg) : ∀ n, Cal CX0 P w K mg base (n + 1) "_law_any_count" (sp2 (R_any_count K n))
  | 0 => cal_no D.d__law_any_count (by rintro vs H Q E ⟨x, y, rfl, i, dp, _, _, h, _⟩; omega)
  | n + 1 => by
    have c__law_any_count := ok__law_any_count T D n
    have c__law_drawn := ok__law_drawn (P := P) (w := w) (base := base) T D
    refine cal2 D.d__law_any_count sc__law_any_count fun f cdv A outer s H x y Q E hr h => ?_
    obtain ⟨i, dp, rfl, rfl, hd, q⟩ := h
    refine ⟨_, (pss_cons (ps_if (PW.pt (pw_or (pt_cmpR op_eq (pv 1) pe_int (nomark _)) (pw_or1 (pt_cmpR op_lt (pe_op op_mod (pv 0) pe_int) pe_int (nomark _))))) (pss_one (ps_ret (pe_op op_mod (pe_op op_fdiv (pv 0) pe_int) (pe_ix ix_tup (pe_tup (pa_cons pe_int (pa_cons pe_int pa_nil))) (pe_callTy (call_int1) (by rfl) T.b_int (by decide +kernel) (pa_cons (pe_cmpR op_eq (pe_op op_mod (pe_op op_fdiv (pv 0) pe_int) pe_int) pe_int (nomark _)) pa_nil)) (fun _ _ => rfl))))) pss_nil)
    (pss_cons (ps_set (i := 2) sc__law_any_count.nd rfl (Or.inl rfl) (pe_c c__law_any_count hr (by omega) rfl (pa_cons (pe_c c__law_drawn hr (by omega) rfl (pa_cons (pv 0) (pa_cons pe_int pa_nil))) (pa_cons (pe_op op_sub (pv 1) pe_int) pa_nil))))
    (pss_one (ps_ret (pe_tup (pa_cons (pe_op op_mod (pe_op op_fdiv (pv 0) pe_int) pe_int) (pa_cons (pv 2) (pa_cons (pe_c c__law_any_count hr (by omega) rfl (pa_cons (pe_c c__law_drawn hr (by omega) rfl (pa_cons (pv 0) (pa_cons pe_int pa_nil))) (pa_cons (pe_op op_sub (pv 1) pe_int) pa_nil))) pa_nil)))))))), ?_⟩
    have leaf : ∀ (m : Int) (b : Bool) H', Same H H' → Q (.int (m % (if b = true then 30 else 4))) H' := fun m b H' s' => by
      cases b with
      | true => exact q (.lf (m % 30)) _ H' (by show 0 ≤ m % 30; omega) (by show m % 30 < 30; omega) (Nat.zero_le _) s' (CT.lf_dp _)
      | false => exact q (.lf (m % 4)) _ H' (by show 0 ≤ m % 4; omega) (by show m % 4 < 30; omega) (Nat.zero_le _) s' (CT.lf_dp _)
    have hat : ∀ b : Bool, atI [V.int 4, V.int 30] (if b = true then 1 else 0) = some (V.int (if b = true then 30 else 4)) := fun b => by cases b <;> rfl
    have pos : ∀ b : Bool, (0 : Int) < (if b = true then 30 else 4) := fun b => by cases b <;> decide
    refine ⟨_, rfl, rfl, _, rfl, iteE rfl (fun c => iteT ?_) fun c => ?_⟩
    · refine ⟨_, rfl, _, _, rfl, rfl, ⟨by decide, by decide⟩, two_le, fun p hp => ?_⟩
      exact ⟨_, rfl, _, _, rfl, rfl, ⟨by decide, by decide⟩, _, _, rfl, rfl, (by show (0 : Int) < 9; decide), rfl, .inr ⟨_, rfl, _, _, _, _, rfl, rfl, SqT.of upd_same, hat _, _, _, rfl, rfl, pos _, leaf _ _ _ (same_new hp _)⟩⟩
    · refine ⟨_, rfl, _, _, rfl, rfl, (by show (0 : Int) < 5; decide), _, _, rfl, rfl, _, rfl, iteE rfl (fun c2 => ?_) fun c2 => ?_⟩
      · refine ⟨_, rfl, _, _, rfl, rfl, ⟨by decide, by decide⟩, two_le, fun p hp => ?_⟩
        exact ⟨_, rfl, _, _, rfl, rfl, ⟨by decide, by decide⟩, _, _, rfl, rfl, (by show (0 : Int) < 9; decide), rfl, .inr ⟨_, rfl, _, _, _, _, rfl, rfl, SqT.of upd_same, hat _, _, _, rfl, rfl, pos _, leaf _ _ _ (same_new hp _)⟩⟩
      · have d0 : dp ≠ 0 := fun z => c (by rw [z]; rfl)
        obtain ⟨dq, rfl⟩ : ∃ dq, dp = dq + 1 := ⟨dp - 1, by omega⟩
        have ed : V.int (((dq + 1 : Nat) : Int) - 1) = V.int (dq : Int) := congrArg V.int (by omega)
        refine ⟨_, rfl, _, _, rfl, i, 1, rfl, rfl, fun m1 _ _ => ⟨_, rfl, _, _, rfl, rfl, _, _, rfl, m1, dq, rfl, ed, by omega, fun t1 v1 H1 o1 b1 p1 s1 e1 => ?_⟩⟩
        refine ⟨_, rfl, _, _, rfl, rfl, ⟨by decide, by decide⟩, _, _, rfl, rfl, (by show (0 : Int) < 3; decide), ?_⟩
        refine ⟨_, rfl, _, rfl, _, _, rfl, i, 2, rfl, rfl, fun m2 _ _ => ⟨_, rfl, _, _, rfl, rfl, _, _, rfl, m2, dq, rfl, ed, by omega, fun t2 v2 H2 o2 b2 p2 s2 e2 => ?_⟩⟩
        refine ⟨three_le, fun p hp => ?_⟩
        exact q (.nd (i / 5 % 3) t1 t2) _ _ ⟨by omega, o1, o2⟩ ⟨by omega, b1, b2⟩ (by rw [CT.dep_nd]; omega) (s1.trans (s2.trans (same_new hp _))) (CT.nd_new hp (Dp.same s2 _ _ e1) e2)
def R_wh (K : PySem.W.Frag) : V → Hp → VK → Prop := fun x H Q => ∃ d : PyData, Dp K H x d ∧ Q (.bl (isWh d)) H
theorem ok__law_whole (T : Txt K mg) (D : Defs K mg) : Cal CX0 P w K mg base 1 "_law_whole" (sp1 (R_wh K)) := cal1 D.d__law_whole sc__law_whole fun f cdv A outer s H x Q E hr h => by
  obtain ⟨d, hd, q⟩ := h
  refine ⟨_, (pss_one (ps_ret (pe_and (pe_callB call_isD (by rfl) T.b_isinstance (by decide +kernel) (pa_cons (pv 0) (pa_cons (pe_bltn (v := .ty "int") (by rfl) T.b_int (by decide +kernel) rfl) pa_nil))) (pe_and (pe_not (pe_callB call_isD (by rfl) T.b_isinstance (by decide +kernel) (pa_cons (pv 0) (pa_cons (pe_bltn (v := .ty "bool") (by rfl) T.b_bool (by decide +kernel) rfl) pa_nil)))) (pe_one (pe_cmpR op_ge (pv 0) pe_int (nomark _))))))), ?_⟩
  refine ⟨_, rfl, _, _, _, _, rfl, hd, kb_in _, _, rfl, ?_⟩
  cases hd with
  | non => exact iteF q
  | str x => exact iteF q
  | lst hs ha => exact iteF q
  | tup hs ha => exact iteF q
  | bl b => exact iteT ⟨_, rfl, _, _, _, _, rfl, .bl b, kb_bo _, _, rfl, _, rfl, iteF q⟩
  | int i => exact iteT ⟨_, rfl, _, _, _, _, rfl, .int i, kb_bo _, _, rfl, _, rfl, iteT ⟨_, rfl, _, _, rfl, rfl, q⟩⟩
def R_ispart (K : PySem.W.Frag) (n : Nat) : V → Hp → VK → Prop := fun x H Q => ∃ d : PyData, Dp K H x d ∧ d.depth < n ∧ n ≤ 60 ∧ ∀ H', Same H H' → Q (.bl (isPart d)) H'
def R_iscount (K : PySem.W.Frag) (n : Nat) : V → Hp → VK → Prop := fun x H Q => ∃ d : PyData, Dp K H x d ∧ d.depth < n ∧ n ≤ 60 ∧ ∀ H', Same H H' → Q (.bl (isCount d)) H'
theorem ok__law_is_part (T : Txt K mg) (D : Defs K mg) : ∀ n, Cal CX0 P w K mg base (n + 2) "_law_is_part" (sp1 (R_ispart K n))
  | 0 => cal_no D.d__law_is_part (by rintro vs H Q E ⟨x, rfl, d, _, h, _⟩; omega)
  | n + 1 => by
    have c__law_is_part := ok__law_is_part T D n
    have c__law_whole := ok__law_whole (P := P) (w := w) (base := base) T D
    have c__law_plain_part := ok__law_plain_part (P := P) (w := w) (base := base) T D (n + 1)
    refine cal1 D.d__law_is_part sc__law_is_part fun f cdv A outer s H x Q E hr h => ?_
    obtain ⟨d, hd, hn, h60, q⟩ := h
    refine ⟨_, (pss_cons (ps_if (pt_val (pe_c c__law_whole hr (by omega) rfl (pa_cons (pv 0) pa_nil))) (pss_one (ps_ret (pe_cmpR op_lt (pv 0) pe_int (nomark _)))) pss_nil)
    (pss_cons (ps_if (PW.pt (pw_or (pt_not (pt_val (pe_callB call_isD (by rfl) T.b_isinstance (by decide +kernel) (pa_cons (pv 0) (pa_cons (pe_bltn (v := .ty "tuple") (by rfl) T.b_tuple (by decide +kernel) rfl) pa_nil))))) (pw_or1 (pt_cmpR op_ne (pe_callB call_len_seq (by rfl) T.b_len PySem.boot_len (pa_cons (pv 0) pa_nil)) pe_int (nomark _))))) (pss_one (ps_ret pe_bl)) pss_nil)
    (pss_one (ps_ret (pe_and (pe_c c__law_is_part hr (by omega) rfl (pa_cons (pe_ix ix_tup (pv 0) pe_int (fun _ _ => rfl)) pa_nil)) (pe_and (pe_c c__law_is_part hr (by omega) rfl (pa_cons (pe_ix ix_tup (pv 0) pe_int (fun _ _ => rfl)) pa_nil)) (pe_one (pe_cmpR (op_eqD hr.units) (pe_c c__law_plain_part hr (by omega) rfl (pa_cons (pv 0) pa_nil)) (pv 0) (nomark _))))))))), ?_⟩
    refine ⟨_, rfl, _, rfl, d, hd, _, rfl, ?_⟩
    cases e : isWh d with
    | true =>
      refine iteT ?_
      cases d with
      | int i =>
        obtain rfl := dp_int hd
        have e' : 0 ≤ i := of_decide_eq_true e
        refine ⟨_, rfl, _, _, rfl, rfl, ?_⟩
        have := q H (Same.refl H)
        rw [isPart_int, show decide (0 ≤ i ∧ i < 2) = decide (i < 2) from decide_eq_decide.mpr ⟨fun z => z.2, fun z => ⟨e', z⟩⟩] at this
        exact this
      | _ => cases e
    | false =>
      refine iteF ⟨_, rfl, _, _, _, _, rfl, hd, kb_tp _, _, rfl, ?_⟩
      cases et : isTp d with
      | false =>
        refine iteT (iteT ?_)
        have := q H (Same.refl H)
        rw [isPart_wh e et] at this
        exact this
      | true =>
        refine iteF ?_
        cases d with
        | tuple ds =>
          obtain ⟨a, xs, rfl, hs, ha⟩ := dp_tup hd
          have hl := dpall_len ha
          refine ⟨_, rfl, _, _, rfl, .inr hs, rfl, _, rfl, iteE dec_ne2 (fun c => ?_) fun c => ?_⟩
          · have := q H (Same.refl H)
            rw [isPart_len (by omega)] at this
            exact this
          · obtain ⟨d1, d2, rfl⟩ := len_two (l := ds) (by omega)
            obtain ⟨a', x1, x2, ea, hs', h1, h2⟩ := dp_tup2 hd
            cases ea
            have hdep : max d1.depth d2.depth + 1 < n + 1 := by
              have := hn
              simp only [PyData.depth, PyData.depthAll] at this
              omega
            refine ⟨_, rfl, _, _, _, _, rfl, rfl, hs', rfl, _, rfl, d1, h1, by omega, by omega, fun H1 s1 => ⟨_, rfl, ?_⟩⟩
            cases e1 : isPart d1 with
            | false =>
              refine iteF ?_
              have := q H1 s1
              rw [isPart_F1 e1] at this
              exact this
            | true =>
              refine iteT ⟨_, rfl, _, _, _, _, rfl, rfl, Same.sqt s1 hs', rfl, _, rfl, d2, Dp.same s1 _ _ h2, by omega, by omega, fun H2 s2 => ⟨_, rfl, ?_⟩⟩
              cases e2 : isPart d2 with
              | false =>
                refine iteF ?_
                have := q H2 (s1.trans s2)
                rw [isPart_F2 e2] at this
                exact this
              | true =>
                obtain ⟨t1, rfl, p1⟩ := isPart_true e1
                obtain ⟨t2, rfl, p2⟩ := isPart_true e2
                rw [PT.depth_d, PT.depth_d] at hdep
                have hd2 : Dp K H2 (.ref a) (PT.nd t1 t2).d := Dp.same (s1.trans s2) _ _ hd
                refine iteT ⟨_, rfl, _, rfl, .nd t1 t2, hd2, by rw [PT.dep_nd]; omega, by omega, fun v3 H3 s3 d3 => ?_⟩
                refine ⟨_, rfl, _, _, d3, Dp.same s3 _ _ hd2, PT.sh (by have := PT.plain_dep (.nd t1 t2); rw [PT.dep_nd] at this; omega), PT.sh (by rw [PT.dep_nd]; omega), ?_⟩
                have := q H3 (s1.trans (s2.trans s3))
                rw [show PyData.tuple [t1.d, t2.d] = (PT.nd t1 t2).d from rfl, isPart_nd p1 p2] at this
                rw [PT.eqv_d, PT.mk_nd, PT.pl_plain p1, PT.pl_plain p2]
                exact this
        | _ => cases et
theorem ok__law_is_count (T : Txt K mg) (D : Defs K mg) : ∀ n, Cal CX0 P w K mg base (n + 3) "_law_is_count" (sp1 (R_iscount K n))
  | 0 => cal_no D.d__law_is_count (by rintro vs H Q E ⟨x, rfl, d, _, h, _⟩; omega)
  | n + 1 => by
    have c__law_is_count := ok__law_is_count T D n
    have c__law_whole := ok__law_whole (P := P) (w := w) (base := base) T D
    have c__law_plain_count := ok__law_plain_count (P := P) (w := w) (base := base) T D (n + 1)
    refine cal1 D.d__law_is_count sc__law_is_count fun f cdv A outer s H x Q E hr h => ?_
    obtain ⟨d, hd, hn, h60, q⟩ := h
    refine ⟨_, (pss_cons (ps_if (pt_val (pe_c c__law_whole hr (by omega) rfl (pa_cons (pv 0) pa_nil))) (pss_one (ps_ret pe_bl)) pss_nil)
    (pss_cons (ps_if (PW.pt (pw_or (pt_not (pt_val (pe_callB call_isD (by rfl) T.b_isinstance (by decide +kernel) (pa_cons (pv 0) (pa_cons (pe_bltn (v := .ty "tuple") (by rfl) T.b_tuple (by decide +kernel) rfl) pa_nil))))) (pw_or (pt_cmpR op_ne (pe_callB call_len_seq (by rfl) T.b_len PySem.boot_len (pa_cons (pv 0) pa_nil)) pe_int (nomark _)) (pw_or1 (pt_not (pt_val (pe_c c__law_whole hr (by omega) rfl (pa_cons (pe_ix ix_tup (pv 0) pe_int (fun _ _ => rfl)) pa_nil)))))))) (pss_one (ps_ret pe_bl)) pss_nil)
    (pss_one (ps_ret (pe_and (pe_c c__law_is_count hr (by omega) rfl (pa_cons (pe_ix ix_tup (pv 0) pe_int (fun _ _ => rfl)) pa_nil)) (pe_and (pe_c c__law_is_count hr (by omega) rfl (pa_cons (pe_ix ix_tup (pv 0) pe_int (fun _ _ => rfl)) pa_nil)) (pe_one (pe_cmpR (op_eqD hr.units) (pe_c c__law_plain_count hr (by omega) rfl (pa_cons (pv 0) pa_nil)) (pv 0) (nomark _))))))))), ?_⟩
    refine ⟨_, rfl, _, rfl, d, hd, _, rfl, ?_⟩
    cases e : isWh d with
    | true =>
      refine iteT ?_
      cases d with
      | int i =>
        have := q H (Same.refl H)
        rw [isCount_int, show decide (0 ≤ i) = true from e] at this
        exact this
      | _ => cases e
    | false =>
      refine iteF ⟨_, rfl, _, _, _, _, rfl, hd, kb_tp _, _, rfl, ?_⟩
      cases et : isTp d with
      | false =>
        refine iteT (iteT ?_)
        have := q H (Same.refl H)
        rw [isCount_wh e et] at this
        exact this
      | true =>
        refine iteF ?_
        cases d with
        | tuple ds =>
          obtain ⟨a, xs, rfl, hs, ha⟩ := dp_tup hd
          have hl := dpall_len ha
          refine ⟨_, rfl, _, _, rfl, .inr hs, rfl, _, rfl, iteE dec_ne3 (fun c => ?_) fun c => ?_⟩
          · refine iteT ?_
            have := q H (Same.refl H)
            rw [isCount_len (by omega)] at this
            exact this
          · obtain ⟨d0, d1, d2, rfl⟩ := len_three (l := ds) (by omega)
            obtain ⟨a', x0, x1, x2, ea, hs', h0, h1, h2⟩ := dp_tup3 hd
            cases ea
            have hdep : max d1.depth d2.depth + 1 < n + 1 := by
              have := hn
              simp only [PyData.depth, PyData.depthAll] at this
              omega
            refine ⟨_, rfl, _, _, _, _, rfl, rfl, hs', rfl, _, rfl, d0, h0, _, rfl, ?_⟩
            cases e0 : isWh d0 with
            | false =>
              refine iteT ?_
              have := q H (Same.refl H)
              rw [isCount_F0 (fun m hm z => by rw [z] at e0; exact absurd hm (of_decide_eq_false e0))] at this
              exact this
            | true =>
              refine iteF ?_
              cases d0 with
              | int m =>
                have hm : 0 ≤ m := of_decide_eq_true e0
                refine ⟨_, rfl, _, _, _, _, rfl, rfl, hs', rfl, _, rfl, d1, h1, by omega, by omega, fun H1 s1 => ⟨_, rfl, ?_⟩⟩
                cases e1 : isCount d1 with
                | false =>
                  refine iteF ?_
                  have := q H1 s1
                  rw [isCount_F1 e1] at this
                  exact this
                | true =>
                  refine iteT ⟨_, rfl, _, _, _, _, rfl, rfl, Same.sqt s1 hs', rfl, _, rfl, d2, Dp.same s1 _ _ h2, by omega, by omega, fun H2 s2 => ⟨_, rfl, ?_⟩⟩
                  cases e2 : isCount d2 with
                  | false =>
                    refine iteF ?_
                    have := q H2 (s1.trans s2)
                    rw [isCount_F2 e2] at this
                    exact this
                  | true =>
                    obtain ⟨t1, rfl, p1⟩ := isCount_true e1
                    obtain ⟨t2, rfl, p2⟩ := isCount_true e2
                    rw [CT.depth_d, CT.depth_d] at hdep
                    have hd2 : Dp K H2 (.ref a) (CT.nd m t1 t2).d := Dp.same (s1.trans s2) _ _ hd
                    refine iteT ⟨_, rfl, _, rfl, .nd m t1 t2, hd2, by rw [CT.dep_nd]; omega, by omega, fun v3 H3 s3 d3 => ?_⟩
                    refine ⟨_, rfl, _, _, d3, Dp.same s3 _ _ hd2, CT.sh (by have := CT.plain_dep (.nd m t1 t2); rw [CT.dep_nd] at this; omega), CT.sh (by rw [CT.dep_nd]; omega), ?_⟩
                    have := q H3 (s1.trans (s2.trans s3))
                    rw [show PyData.tuple [.int m, t1.d, t2.d] = (CT.nd m t1 t2).d from rfl, isCount_nd hm p1 p2] at this
                    rw [CT.eqv_d, CT.mk_nd, CT.pl_plain p1, CT.pl_plain p2]
                    exact this
              | _ => cases e0
        | _ => cases et
end

section
variable {P : Program} {w : World} {K : PySem.W.Frag} {mg : Str → Option Value} {base : Heap}
theorem ok_is_number (T : Txt K mg) (D : Defs K mg) : Cal CX0 P w K mg base 1 "is_number" (sp1 (R_wh K)) := cal1 D.d_is_number sc_is_number fun f cdv A outer s H x Q E hr h => by
  obtain ⟨d, hd, q⟩ := h
  refine ⟨_, (pss_one (ps_ret (pe_and (pe_callB call_isD (by rfl) T.b_isinstance (by decide +kernel) (pa_cons (pv 0) (pa_cons (pe_bltn (v := .ty "int") (by rfl) T.b_int (by decide +kernel) rfl) pa_nil))) (pe_and (pe_not (pe_callB call_isD (by rfl) T.b_isinstance (by decide +kernel) (pa_cons (pv 0) (pa_cons (pe_bltn (v := .ty "bool") (by rfl) T.b_bool (by decide +kernel) rfl) pa_nil)))) (pe_one (pe_cmpR op_ge (pv 0) pe_int (nomark _))))))), ?_⟩
  refine ⟨_, rfl, _, _, _, _, rfl, hd, kb_in _, _, rfl, ?_⟩
  cases hd with
  | non => exact iteF q
  | str x => exact iteF q
  | lst hs ha => exact iteF q
  | tup hs ha => exact iteF q
  | bl b => exact iteT ⟨_, rfl, _, _, _, _, rfl, .bl b, kb_bo _, _, rfl, _, rfl, iteF q⟩
  | int i => exact iteT ⟨_, rfl, _, _, _, _, rfl, .int i, kb_bo _, _, rfl, _, rfl, iteT ⟨_, rfl, _, _, rfl, rfl, q⟩⟩
theorem plB_two {t1 t2 : PT} (p1 : t1.pl) (p2 : t2.pl) : isPart (.tuple [t1.d, t2.d]) = (!decide (t1 = .lf 0 ∧ t2 = .lf 0) && !decide (t1 = .lf 1 ∧ t2 = .lf 1)) := by
  have e : PyData.tuple [t1.d, t2.d] = (PT.nd t1 t2).d := rfl
  rw [e, isPart_d, PT.plB, (PT.plB_iff t1).mpr p1, (PT.plB_iff t2).mpr p2, Bool.true_and, Bool.true_and]
theorem ok_is_part (T : Txt K mg) (D : Defs K mg) : ∀ n, Cal CX0 P w K mg base (n + 2) "is_part" (sp1 (R_ispart K n))
  | 0 => cal_no D.d_is_part (by rintro vs H Q E ⟨x, rfl, d, _, h, _⟩; omega)
  | n + 1 => by
    have c_is_part := ok_is_part T D n
    have c_is_number := ok_is_number (P := P) (w := w) (base := base) T D
    refine cal1 D.d_is_part sc_is_part fun f cdv A outer s H x Q E hr h => ?_
    obtain ⟨d, hd, hn, h60, q⟩ := h
    refine ⟨_, (pss_cons (ps_if (pt_val (pe_c c_is_number hr (by omega) rfl (pa_cons (pv 0) pa_nil))) (pss_one (ps_ret (pe_cmpR op_le (pv 0) pe_int (nomark _)))) pss_nil)
    (pss_cons (ps_if (PW.pt (pw_or (pt_not (pt_val (pe_callB call_isD (by rfl) T.b_isinstance (by decide +kernel) (pa_cons (pv 0) (pa_cons (pe_bltn (v := .ty "tuple") (by rfl) T.b_tuple (by decide +kernel) rfl) pa_nil))))) (pw_or (pt_cmpR op_ne (pe_callB call_len_seq (by rfl) T.b_len PySem.boot_len (pa_cons (pv 0) pa_nil)) pe_int (nomark _)) (pw_or (pt_not (pt_val (pe_c c_is_part hr (by omega) rfl (pa_cons (pe_ix ix_tup (pv 0) pe_int (fun _ _ => rfl)) pa_nil)))) (pw_or1 (pt_not (pt_val (pe_c c_is_part hr (by omega) rfl (pa_cons (pe_ix ix_tup (pv 0) pe_int (fun _ _ => rfl)) pa_nil))))))))) (pss_one (ps_ret pe_bl)) pss_nil)
    (pss_one (ps_ret (pe_and (pe_cmpR (op_neD hr.units) (pv 0) (pe_tup (pa_cons pe_int (pa_cons pe_int pa_nil))) (nomark _)) (pe_one (pe_cmpR (op_neD hr.units) (pv 0) (pe_tup (pa_cons pe_int (pa_cons pe_int pa_nil))) (nomark _)))))))), ?_⟩
    refine ⟨_, rfl, _, rfl, d, hd, _, rfl, ?_⟩
    cases e : isWh d with
    | true =>
      refine iteT ?_
      cases d with
      | int i =>
        obtain rfl := dp_int hd
        have e' : 0 ≤ i := of_decide_eq_true e
        refine ⟨_, rfl, _, _, rfl, rfl, ?_⟩
        have := q H (Same.refl H)
        rw [isPart_int, show decide (0 ≤ i ∧ i < 2) = decide (i ≤ 1) from decide_eq_decide.mpr ⟨fun z => by omega, fun z => by omega⟩] at this
        exact this
      | _ => cases e
    | false =>
      refine iteF ⟨_, rfl, _, _, _, _, rfl, hd, kb_tp _, _, rfl, ?_⟩
      cases et : isTp d with
      | false =>
        refine iteT (iteT ?_)
        have := q H (Same.refl H)
        rw [isPart_wh e et] at this
        exact this
      | true =>
        refine iteF ?_
        cases d with
        | tuple ds =>
          obtain ⟨a, xs, rfl, hs, ha⟩ := dp_tup hd
          have hl := dpall_len ha
          refine ⟨_, rfl, _, _, rfl, .inr hs, rfl, _, rfl, iteE dec_ne2 (fun c => ?_) fun c => ?_⟩
          · refine iteT ?_
            have := q H (Same.refl H)
            rw [isPart_len (by omega)] at this
            exact this
          · obtain ⟨d1, d2, rfl⟩ := len_two (l := ds) (by omega)
            obtain ⟨a', x1, x2, ea, hs', h1, h2⟩ := dp_tup2 hd
            cases ea
            have hdep : max d1.depth d2.depth + 1 < n + 1 := by
              have := hn
              simp only [PyData.depth, PyData.depthAll] at this
              omega
            refine ⟨_, rfl, _, _, _, _, rfl, rfl, hs', rfl, _, rfl, d1, h1, by omega, by omega, fun H1 s1 => ⟨_, rfl, ?_⟩⟩
            cases e1 : isPart d1 with
            | false =>
              refine iteT (iteT ?_)
              have := q H1 s1
              rw [isPart_F1 e1] at this
              exact this
            | true =>
              refine iteF ⟨_, rfl, _, _, _, _, rfl, rfl, Same.sqt s1 hs', rfl, _, rfl, d2, Dp.same s1 _ _ h2, by omega, by omega, fun H2 s2 => ⟨_, rfl, ?_⟩⟩
              cases e2 : isPart d2 with
              | false =>
                refine iteT ?_
                have := q H2 (s1.trans s2)
                rw [isPart_F2 e2] at this
                exact this
              | true =>
                obtain ⟨t1, rfl, p1⟩ := isPart_true e1
                obtain ⟨t2, rfl, p2⟩ := isPart_true e2
                rw [PT.depth_d, PT.depth_d] at hdep
                have s12 := s1.trans s2
                have hd2 : Dp K H2 (.ref a) (PT.nd t1 t2).d := Dp.same s12 _ _ hd
                have shp : SeqAt.shaped (PT.nd t1 t2).d = true := PT.sh (by rw [PT.dep_nd]; omega)
                refine iteF ⟨_, rfl, two_le, fun p3 hp3 => ?_⟩
                have s3 := same_new hp3 (.tup [V.int 0, V.int 0])
                refine ⟨_, _, Dp.same s3 _ _ hd2, PT.nd_new (l := .lf 0) (r := .lf 0) hp3 (.int 0) (.int 0), shp, by decide +kernel, _, rfl, ?_⟩
                rw [PT.eqv_d]
                have q3 := q _ (s12.trans s3)
                rw [plB_two p1 p2] at q3
                by_cases c0 : t1 = .lf 0 ∧ t2 = .lf 0
                · rw [decide_eq_true (show PT.nd t1 t2 = PT.nd (.lf 0) (.lf 0) by rw [c0.1, c0.2])]
                  rw [decide_eq_true c0] at q3
                  exact iteF q3
                · rw [decide_eq_false (show ¬ PT.nd t1 t2 = PT.nd (.lf 0) (.lf 0) from fun z => c0 (PT.nd_eq z))]
                  refine iteT ⟨_, rfl, two_le, fun p4 hp4 => ?_⟩
                  have s4 := same_new hp4 (.tup [V.int 1, V.int 1])
                  refine ⟨_, _, Dp.same (s3.trans s4) _ _ hd2, PT.nd_new (l := .lf 1) (r := .lf 1) hp4 (.int 1) (.int 1), shp, by decide +kernel, ?_⟩
                  rw [PT.eqv_d]
                  have q4 := q _ (s12.trans (s3.trans s4))
                  rw [plB_two p1 p2, decide_eq_false c0] at q4
                  by_cases c1 : t1 = .lf 1 ∧ t2 = .lf 1
                  · rw [decide_eq_true (show PT.nd t1 t2 = PT.nd (.lf 1) (.lf 1) by rw [c1.1, c1.2])]
                    rw [decide_eq_true c1] at q4
                    exact q4
                  · rw [decide_eq_false (show ¬ PT.nd t1 t2 = PT.nd (.lf 1) (.lf 1) from fun z => c1 (PT.nd_eq z))]
                    rw [decide_eq_false c1] at q4
                    exact q4
        | _ => cases et
theorem plB_three {m : Int} {t1 t2 : CT} (hm : 0 ≤ m) (p1 : t1.pl) (p2 : t2.pl) : isCount (.tuple [.int m, t1.d, t2.d]) = (decide (min t1.front t2.front = 0) && !decide (t1 = .lf 0 ∧ t2 = .lf 0)) := by
  have e : PyData.tuple [.int m, t1.d, t2.d] = (CT.nd m t1 t2).d := rfl
  rw [e, isCount_d, CT.plB, (CT.plB_iff t1).mpr p1, (CT.plB_iff t2).mpr p2, decide_eq_true hm, Bool.true_and, Bool.true_and, Bool.true_and]
theorem eqv_two0 (t1 t2 : CT) : PyData.eqv (.tuple [t1.d, t2.d]) (.tuple [.int 0, .int 0]) = decide (t1 = .lf 0 ∧ t2 = .lf 0) := by
  have h1 : PyData.eqv t1.d (.int 0) = decide (t1 = .lf 0) := CT.eqv_d t1 (.lf 0)
  have h2 : PyData.eqv t2.d (.int 0) = decide (t2 = .lf 0) := CT.eqv_d t2 (.lf 0)
  simp only [PyData.eqv, PyData.eqvAll, h1, h2, Bool.and_true]
  by_cases c1 : t1 = .lf 0 <;> by_cases c2 : t2 = .lf 0 <;> simp [c1, c2]
theorem sh_ct2 {t1 t2 : CT} (h : max t1.dep t2.dep ≤ 60) : SeqAt.shaped (.tuple [t1.d, t2.d]) = true := by
  unfold SeqAt.shaped
  simp only [PyData.canLay0, PyData.canLayAll0, PyData.depth, PyData.depthAll, CT.lay_d, CT.depth_d, Bool.and_self, Bool.true_and]
  exact decide_eq_true (by omega)
theorem ok_is_count (T : Txt K mg) (D : Defs K mg) : ∀ n, Cal CX0 P w K mg base (n + 2) "is_count" (sp1 (R_iscount K n))
  | 0 => cal_no D.d_is_count (by rintro vs H Q E ⟨x, rfl, d, _, h, _⟩; omega)
  | n + 1 => by
    have c_is_count := ok_is_count T D n
    have c_is_number := ok_is_number (P := P) (w := w) (base := base) T D
    have c_front := ok_front (P := P) (w := w) (base := base) T D
    refine cal1 D.d_is_count sc_is_count fun f cdv A outer s H x Q E hr h => ?_
    obtain ⟨d, hd, hn, h60, q⟩ := h
    refine ⟨_, (pss_cons (ps_if (pt_val (pe_c c_is_number hr (by omega) rfl (pa_cons (pv 0) pa_nil))) (pss_one (ps_ret pe_bl)) pss_nil)
    (pss_cons (ps_if (PW.pt (pw_or (pt_not (pt_val (pe_callB call_isD (by rfl) T.b_isinstance (by decide +kernel) (pa_cons (pv 0) (pa_cons (pe_bltn (v := .ty "tuple") (by rfl) T.b_tuple (by decide +kernel) rfl) pa_nil))))) (pw_or (pt_cmpR op_ne (pe_callB call_len_seq (by rfl) T.b_len PySem.boot_len (pa_cons (pv 0) pa_nil)) pe_int (nomark _)) (pw_or1 (pt_not (pt_val (pe_c c_is_number hr (by omega) rfl (pa_cons (pe_ix ix_tup (pv 0) pe_int (fun _ _ => rfl)) pa_nil)))))))) (pss_one (ps_ret pe_bl)) pss_nil)
    (pss_cons (ps_if (PW.pt (pw_or (pt_not (pt_val (pe_c c_is_count hr (by omega) rfl (pa_cons (pe_ix ix_tup (pv 0) pe_int (fun _ _ => rfl)) pa_nil)))) (pw_or1 (pt_not (pt_val (pe_c c_is_count hr (by omega) rfl (pa_cons (pe_ix ix_tup (pv 0) pe_int (fun _ _ => rfl)) pa_nil))))))) (pss_one (ps_ret pe_bl)) pss_nil)
    (pss_one (ps_ret (pe_and (pe_cmpR op_eq (pe_callB (call_min2 rfl) (by rfl) T.b_min (by decide +kernel) (pa_cons (pe_c c_front hr (by omega) rfl (pa_cons (pe_ix ix_tup (pv 0) pe_int (fun _ _ => rfl)) pa_nil)) (pa_cons (pe_c c_front hr (by omega) rfl (pa_cons (pe_ix ix_tup (pv 0) pe_int (fun _ _ => rfl)) pa_nil)) pa_nil))) pe_int (nomark _)) (pe_one (pe_cmpR (op_neD hr.units) (pe_slice sl_tupA (pv 0) (po_some pe_int) po_none) (pe_tup (pa_cons pe_int (pa_cons pe_int pa_nil))) (nomark _))))))))), ?_⟩
    refine ⟨_, rfl, _, rfl, d, hd, _, rfl, ?_⟩
    cases e : isWh d with
    | true =>
      refine iteT ?_
      cases d with
      | int i =>
        have := q H (Same.refl H)
        rw [isCount_int, show decide (0 ≤ i) = true from e] at this
        exact this
      | _ => cases e
    | false =>
      refine iteF ⟨_, rfl, _, _, _, _, rfl, hd, kb_tp _, _, rfl, ?_⟩
      cases et : isTp d with
      | false =>
        refine iteT (iteT ?_)
        have := q H (Same.refl H)
        rw [isCount_wh e et] at this
        exact this
      | true =>
        refine iteF ?_
        cases d with
        | tuple ds =>
          obtain ⟨a, xs, rfl, hs, ha⟩ := dp_tup hd
          have hl := dpall_len ha
          refine ⟨_, rfl, _, _, rfl, .inr hs, rfl, _, rfl, iteE dec_ne3 (fun c => ?_) fun c => ?_⟩
          · refine iteT ?_
            have := q H (Same.refl H)
            rw [isCount_len (by omega)] at this
            exact this
          · obtain ⟨d0, d1, d2, rfl⟩ := len_three (l := ds) (by omega)
            obtain ⟨a', x0, x1, x2, ea, hs', h0, h1, h2⟩ := dp_tup3 hd
            cases ea
            have hdep : max d1.depth d2.depth + 1 < n + 1 := by
              have := hn
              simp only [PyData.depth, PyData.depthAll] at this
              omega
            refine ⟨_, rfl, _, _, _, _, rfl, rfl, hs', rfl, _, rfl, d0, h0, _, rfl, ?_⟩
            cases e0 : isWh d0 with
            | false =>
              refine iteT ?_
              have := q H (Same.refl H)
              rw [isCount_F0 (fun m hm z => by rw [z] at e0; exact absurd hm (of_decide_eq_false e0))] at this
              exact this
            | true =>
              refine iteF ?_
              cases d0 with
              | int m =>
                have hm : 0 ≤ m := of_decide_eq_true e0
                refine ⟨_, rfl, _, _, _, _, rfl, rfl, hs', rfl, _, rfl, d1, h1, by omega, by omega, fun H1 s1 => ⟨_, rfl, ?_⟩⟩
                cases e1 : isCount d1 with
                | false =>
                  refine iteT (iteT ?_)
                  have := q H1 s1
                  rw [isCount_F1 e1] at this
                  exact this
                | true =>
                  refine iteF ⟨_, rfl, _, _, _, _, rfl, rfl, Same.sqt s1 hs', rfl, _, rfl, d2, Dp.same s1 _ _ h2, by omega, by omega, fun H2 s2 => ⟨_, rfl, ?_⟩⟩
                  cases e2 : isCount d2 with
                  | false =>
                    refine iteT ?_
                    have := q H2 (s1.trans s2)
                    rw [isCount_F2 e2] at this
                    exact this
                  | true =>
                    obtain ⟨t1, rfl, p1⟩ := isCount_true e1
                    obtain ⟨t2, rfl, p2⟩ := isCount_true e2
                    rw [CT.depth_d, CT.depth_d] at hdep
                    have s12 := s1.trans s2
                    have hs2 := Same.sqt s12 hs'
                    have g1 := Dp.same s12 _ _ h1
                    have g2 := Dp.same s12 _ _ h2
                    have q2 := q H2 s12
                    rw [plB_three hm p1 p2] at q2
                    refine iteF ⟨_, rfl, _, _, _, _, rfl, rfl, hs2, rfl, _, rfl, t1, g1, _, rfl, _, _, _, _, rfl, rfl, hs2, rfl, _, rfl, t2, g2, _, _, rfl, ?_⟩
                    rw [if_min]
                    refine ⟨rfl, _, rfl, iteE (p := min t1.front t2.front = 0) (decide_eq_decide.mpr ⟨fun z => V.int.inj z, fun z => congrArg V.int z⟩) (fun c0 => ?_) fun c0 => ?_⟩
                    · refine ⟨_, rfl, _, rfl, ?_⟩
                      dsimp only [tNoPart]
                      show rSlA K (.ref a) (some 1) none H2 _
                      refine sla_go hs2 three_le fun p3 H3 s3 e3 => ⟨two_le, fun p4 hp4 => ?_⟩
                      have s4 := same_new hp4 (.tup [V.int 0, V.int 0])
                      have e3' : SqT K H3 p3 [x1, x2] := e3
                      have g3 : Dp K H3 (.ref p3) (.tuple [t1.d, t2.d]) := .tup e3' (.cons (Dp.same s3 _ _ g1) (.cons (Dp.same s3 _ _ g2) .nil))
                      refine ⟨_, _, Dp.same s4 _ _ g3, dp_new2 hp4 (.int 0) (.int 0), sh_ct2 (by omega), by decide +kernel, ?_⟩
                      have q4 := q _ (s12.trans (s3.trans s4))
                      rw [plB_three hm p1 p2, decide_eq_true c0, Bool.true_and] at q4
                      rw [eqv_two0]
                      exact q4
                    · rw [decide_eq_false c0, Bool.false_and] at q2
                      exact q2
              | _ => cases e0
        | _ => cases et
def R_isclock (K : PySem.W.Frag) (n : Nat) : V → Hp → VK → Prop := fun x H Q => ∃ d : PyData, Dp K H x d ∧ d.depth < n ∧ n ≤ 60 ∧ ∀ H', Same H H' → Q (.bl (isClock d)) H'
theorem isClock_tp {d : PyData} (h : isTp d = false) : isClock d = false := by cases d <;> first | rfl | cases h
theorem isClock_len {ds : List PyData} (h : ds.length ≠ 2) : isClock (.tuple ds) = false := by
  match ds, h with
  | [], _ => rfl
  | [_], _ => rfl
  | [_, _], h => exact absurd rfl h
  | _ :: _ :: _ :: _, _ => rfl
theorem dec_eq2 {n : Nat} : decide (V.int (n : Int) = V.int 2) = decide (n = 2) := decide_eq_decide.mpr ⟨fun z => by have := V.int.inj z; omega, fun z => by rw [z]; rfl⟩
theorem ok_is_clock (T : Txt K mg) (D : Defs K mg) : Cal CX0 P w K mg base 65 "is_clock" (sp1 (R_isclock K 60)) := by
  have c_is_part := ok_is_part (P := P) (w := w) (base := base) T D 60
  have c_is_count := ok_is_count (P := P) (w := w) (base := base) T D 60
  refine cal1 D.d_is_clock sc_is_clock fun f cdv A outer s H x Q E hr h => ?_
  obtain ⟨d, hd, hn, _, q⟩ := h
  refine ⟨_, (pss_one (ps_ret (pe_and (pe_callB call_isD (by rfl) T.b_isinstance (by decide +kernel) (pa_cons (pv 0) (pa_cons (pe_bltn (v := .ty "tuple") (by rfl) T.b_tuple (by decide +kernel) rfl) pa_nil))) (pe_and (pe_cmpR op_eq (pe_callB call_len_seq (by rfl) T.b_len PySem.boot_len (pa_cons (pv 0) pa_nil)) pe_int (nomark _)) (pe_and (pe_c c_is_part hr (by omega) rfl (pa_cons (pe_ix ix_tup (pv 0) pe_int (fun _ _ => rfl)) pa_nil)) (pe_one (pe_c c_is_count hr (by omega) rfl (pa_cons (pe_ix ix_tup (pv 0) pe_int (fun _ _ => rfl)) pa_nil)))))))), ?_⟩
  have q0 := q H (Same.refl H)
  refine ⟨_, rfl, _, _, _, _, rfl, hd, kb_tp _, _, rfl, ?_⟩
  cases et : isTp d with
  | false =>
    rw [isClock_tp et] at q0
    exact iteF q0
  | true =>
    refine iteT ?_
    cases d with
    | tuple ds =>
      obtain ⟨a, xs, rfl, hs, ha⟩ := dp_tup hd
      have hl := dpall_len ha
      refine ⟨_, rfl, _, _, rfl, .inr hs, rfl, _, rfl, iteE dec_eq2 (fun c => ?_) fun c => ?_⟩
      · obtain ⟨d1, d2, rfl⟩ := len_two (l := ds) (by omega)
        obtain ⟨a', x1, x2, ea, hs', h1, h2⟩ := dp_tup2 hd
        cases ea
        have hdep : max d1.depth d2.depth + 1 < 60 := by
          have := hn
          simp only [PyData.depth, PyData.depthAll] at this
          omega
        refine ⟨_, rfl, _, _, _, _, rfl, rfl, hs', rfl, _, rfl, d1, h1, by omega, by omega, fun H1 s1 => ⟨_, rfl, ?_⟩⟩
        cases e1 : isPart d1 with
        | false =>
          have q1 := q H1 s1
          rw [isClock, e1, Bool.false_and] at q1
          exact iteF q1
        | true =>
          refine iteT ⟨_, rfl, _, _, _, _, rfl, rfl, Same.sqt s1 hs', rfl, _, rfl, d2, Dp.same s1 _ _ h2, by omega, by omega, fun H2 s2 => ?_⟩
          have q2 := q H2 (s1.trans s2)
          rw [isClock, e1, Bool.true_and] at q2
          exact q2
      · rw [isClock_len (by omega)] at q0
        exact q0
    | _ => cases et
end

section
variable {P : Program} {w : World} {K : PySem.W.Frag} {mg : Str → Option Value} {base : Heap}
def R_clock (K : PySem.W.Frag) : V → V → Hp → VK → Prop := fun x y H Q => ∃ i : Int, x = .int i ∧ y = .int 4 ∧ ∀ v H' (u : PT) (t : CT), u.pl → t.pl → u.dep ≤ 4 → t.dep ≤ 4 → t.bd 150 → Same H H' → Dp K H' v (clockD u t) → Q v H'
theorem ok__law_clock (T : Txt K mg) (D : Defs K mg) : Cal CX0 P w K mg base 60 "_law_clock" (sp2 (R_clock K)) := by
  have c__law_drawn := ok__law_drawn (P := P) (w := w) (base := base) T D
  have c__law_any_part := ok__law_any_part (P := P) (w := w) (base := base) T D 10
  have c__law_any_count := ok__law_any_count (P := P) (w := w) (base := base) T D 10
  have c__law_plain_part := ok__law_plain_part (P := P) (w := w) (base := base) T D 50
  have c__law_plain_count := ok__law_plain_count (P := P) (w := w) (base := base) T D 50
  refine cal2 D.d__law_clock sc__law_clock fun f cdv A outer s H x y Q E hr h => ?_
  obtain ⟨i, rfl, rfl, q⟩ := h
  refine ⟨_, (pss_cons (ps_set (i := 2) sc__law_clock.nd rfl (Or.inl rfl) (pe_c c__law_plain_part hr (by omega) rfl (pa_cons (pe_c c__law_any_part hr (by omega) rfl (pa_cons (pe_c c__law_drawn hr (by omega) rfl (pa_cons (pv 0) (pa_cons pe_int pa_nil))) (pa_cons (pv 1) pa_nil))) pa_nil)))
    (pss_one (ps_ret (pe_tup (pa_cons (pv 2) (pa_cons (pe_c c__law_plain_count hr (by omega) rfl (pa_cons (pe_c c__law_any_count hr (by omega) rfl (pa_cons (pe_c c__law_drawn hr (by omega) rfl (pa_cons (pv 0) (pa_cons pe_int pa_nil))) (pa_cons (pv 1) pa_nil))) pa_nil)) pa_nil)))))), ?_⟩
  refine ⟨_, rfl, _, _, rfl, i, 3, rfl, rfl, fun m1 _ _ => ⟨_, rfl, _, _, rfl, m1, 4, rfl, rfl, by decide, fun u v1 H1 o1 d1 s1 e1 => ⟨_, rfl, u, e1, by omega, by omega, fun v2 H2 s2 e2 => ?_⟩⟩⟩
  refine ⟨_, rfl, _, rfl, _, _, rfl, i, 4, rfl, rfl, fun m2 _ _ => ⟨_, rfl, _, _, rfl, m2, 4, rfl, rfl, by decide, fun t v3 H3 o3 b3 d3 s3 e3 => ⟨_, rfl, t, e3, by omega, by omega, fun v4 H4 s4 e4 => ?_⟩⟩⟩
  refine ⟨two_le, fun p hp => q _ _ u.plain t.plain (PT.plain_pl o1) (CT.plain_pl o3) (Nat.le_trans (PT.plain_dep u) d1) (Nat.le_trans (CT.plain_dep t) d3) (CT.plain_bd o3 b3 d3) (s1.trans (s2.trans (s3.trans (s4.trans (same_new hp _))))) ?_⟩
  exact dp_new2 hp (Dp.same (s3.trans s4) _ _ e2) e4
theorem ok__law_is_clockD (T : Txt K mg) (D : Defs K mg) : Cal CX0 P w K mg base 66 "_law_is_clock" (sp1 (R_isclock K 60)) := by
  have c__law_is_part := ok__law_is_part (P := P) (w := w) (base := base) T D 60
  have c__law_is_count := ok__law_is_count (P := P) (w := w) (base := base) T D 60
  refine cal1 D.d__law_is_clock sc__law_is_clock fun f cdv A outer s H x Q E hr h => ?_
  obtain ⟨d, hd, hn, _, q⟩ := h
  refine ⟨_, (pss_cons (ps_if (PW.pt (pw_or (pt_not (pt_val (pe_callB call_isD (by rfl) T.b_isinstance (by decide +kernel) (pa_cons (pv 0) (pa_cons (pe_bltn (v := .ty "tuple") (by rfl) T.b_tuple (by decide +kernel) rfl) pa_nil))))) (pw_or1 (pt_cmpR op_ne (pe_callB call_len_seq (by rfl) T.b_len PySem.boot_len (pa_cons (pv 0) pa_nil)) pe_int (nomark _))))) (pss_one (ps_ret pe_bl)) pss_nil)
    (pss_one (ps_ret (pe_and (pe_c c__law_is_part hr (by omega) rfl (pa_cons (pe_ix ix_tup (pv 0) pe_int (fun _ _ => rfl)) pa_nil)) (pe_one (pe_c c__law_is_count hr (by omega) rfl (pa_cons (pe_ix ix_tup (pv 0) pe_int (fun _ _ => rfl)) pa_nil))))))), ?_⟩
  have q0 := q H (Same.refl H)
  refine ⟨_, rfl, _, _, _, _, rfl, hd, kb_tp _, _, rfl, ?_⟩
  cases et : isTp d with
  | false =>
    rw [isClock_tp et] at q0
    exact iteT (iteT q0)
  | true =>
    refine iteF ?_
    cases d with
    | tuple ds =>
      obtain ⟨a, xs, rfl, hs, ha⟩ := dp_tup hd
      have hl := dpall_len ha
      refine ⟨_, rfl, _, _, rfl, .inr hs, rfl, _, rfl, iteE dec_ne2 (fun c => ?_) fun c => ?_⟩
      · rw [isClock_len (by omega)] at q0
        exact q0
      · obtain ⟨d1, d2, rfl⟩ := len_two (l := ds) (by omega)
        obtain ⟨a', x1, x2, ea, hs', h1, h2⟩ := dp_tup2 hd
        cases ea
        have hdep : max d1.depth d2.depth + 1 < 60 := by
          have := hn
          simp only [PyData.depth, PyData.depthAll] at this
          omega
        refine ⟨_, rfl, _, _, _, _, rfl, rfl, hs', rfl, _, rfl, d1, h1, by omega, by omega, fun H1 s1 => ⟨_, rfl, ?_⟩⟩
        cases e1 : isPart d1 with
        | false =>
          have q1 := q H1 s1
          rw [isClock, e1, Bool.false_and] at q1
          exact iteF q1
        | true =>
          refine iteT ⟨_, rfl, _, _, _, _, rfl, rfl, Same.sqt s1 hs', rfl, _, rfl, d2, Dp.same s1 _ _ h2, by omega, by omega, fun H2 s2 => ?_⟩
          have q2 := q H2 (s1.trans s2)
          rw [isClock, e1, Bool.true_and] at q2
          exact q2
    | _ => cases et
end

section
variable {P : Program} {w : World} {K : PySem.W.Frag} {mg : Str → Option Value} {base : Heap}
def R_ttx (K : PySem.W.Frag) (n : Nat) : V → Hp → VK → Prop := fun x H Q => ∃ (t : UT) (B : Nat), Dp K H x t.d ∧ t.dep < n ∧ t.nb B ∧ B < 2 ^ 1900 ∧ t.tx.length ≤ 1000000 ∧ ∀ H', Same H H' → Q (.str (sx t.tx)) H'
theorem joinL_kid {l : List UT} {k : UT} (h : k ∈ l) : k.tx.length ≤ (TL.joinL [44] (l.map UT.tx)).length := by
  induction l with
  | nil => cases h
  | cons a l ih =>
    cases l with
    | nil =>
      have : k = a := by simpa using h
      rw [this]
      exact Nat.le_refl _
    | cons b l =>
      have e : TL.joinL [44] ((a :: b :: l).map UT.tx) = a.tx ++ ([44] ++ TL.joinL [44] ((b :: l).map UT.tx)) := rfl
      rw [e, List.length_append, List.length_append]
      rcases List.mem_cons.mp h with rfl | h
      · omega
      · have := ih h
        omega
theorem kids_sum : ∀ l : List UT, ((l.map fun u => sx u.tx).map (·.length)).sum ≤ (TL.joinL [44] (l.map UT.tx)).length
  | [] => by simp
  | [a] => by simp [TL.joinL, sx_len]
  | a :: b :: l => by
    have ih := kids_sum (b :: l)
    have e : TL.joinL [44] ((a :: b :: l).map UT.tx) = a.tx ++ ([44] ++ TL.joinL [44] ((b :: l).map UT.tx)) := rfl
    rw [e, List.length_append, List.length_append, List.map_cons, List.map_cons, List.sum_cons, sx_len]
    omega
theorem join_sx (l : List UT) : Txt.join (sx [44]) (l.map fun u => sx u.tx) = sx (TL.joinL [44] (l.map UT.tx)) := by
  refine TL.ext_tl ?_
  rw [TL.join_eq, TL.tl_join, tl_sx, tl_sx, List.map_map]
  rfl
theorem ok_tree_text (T : Txt K mg) (D : Defs K mg) : ∀ n, Cal CX0 P w K mg base (n + 1) "tree_text" (sp1 (R_ttx K n))
  | 0 => cal_no D.d_tree_text (by rintro vs H Q E ⟨x, rfl, t, B, _, h, _⟩; omega)
  | n + 1 => by
    have c_tree_text := ok_tree_text T D n
    refine cal1 D.d_tree_text sc_tree_text fun f cdv A outer s H x Q E hr h => ?_
    obtain ⟨t, B, ht, hn, hb, hB, hl, q⟩ := h
    refine ⟨_, (pss_cons (ps_if (pt_not (pt_val (pe_callB call_isD (by rfl) T.b_isinstance (by decide +kernel) (pa_cons (pv 0) (pa_cons (pe_bltn (v := .ty "tuple") (by rfl) T.b_tuple (by decide +kernel) rfl) pa_nil))))) (pss_one (ps_ret (pe_callTy (call_str_int) (by rfl) T.b_str (by decide +kernel) (pa_cons (pv 0) pa_nil)))) pss_nil)
    (pss_one (ps_ret (pe_op op_add_str (pe_op op_add_str pe_str (pe_join pe_str (pe_lc (own := [("part", 1)]) rfl sc_tree_text.nd (pi_tup (pv 0)) (blkOk_by (N := ["tree", "part"]) (sc := defScope st_tree_text) (by decide +kernel)) (fun _ _ _ _ _ => (pg_name (i := 1) sc_tree_text.nd rfl (Or.inl rfl))) (fun _ _ _ _ _ => pts_nil) (fun _ _ _ _ _ => (pe_c c_tree_text hr (by omega) rfl (pa_cons (pv 1) pa_nil)))))) pe_str)))), ?_⟩
    cases t with
    | lf i =>
      obtain rfl := dp_int ht
      have hb' : i.natAbs ≤ B := hb
      refine ⟨_, rfl, _, _, _, _, rfl, ht, kb_tp _, _, rfl, iteT ⟨_, rfl, i, rfl, big_log (Nat.lt_of_le_of_lt hb' hB), ?_⟩⟩
      have := q H (Same.refl H)
      rw [UT.tx, ← ntx_str] at this
      exact this
    | nd g l r =>
      have hd := UT.d_nd g l r
      have kl := UT.kids_len g l r
      have hx := ht
      rw [hd] at hx
      obtain ⟨a, xs, rfl, hs, ha⟩ := dp_tup hx
      have xl := dpall_len ha
      rw [List.length_map] at xl
      have htx := UT.tx_nd g l r
      have hl' : (TL.joinL [44] ((UT.nd g l r).kids.map UT.tx)).length + 2 ≤ 1000000 := by
        rw [htx] at hl
        simp only [List.length_append, List.length_cons, List.length_nil] at hl
        omega
      refine ⟨_, rfl, _, _, _, _, rfl, ht, UT.kb_nd g l r, _, rfl, iteF ?_⟩
      refine ⟨⟨_, rfl⟩, _, rfl, a, rfl, ⟨_, hs⟩, fun D hD => ?_⟩
      refine lc_it (walk_tup (K := K) (a := a) (xs := xs)) (fun t H' => Same H H' ∧ H' D = some (.lst ((((UT.nd g l r).kids.take t).map fun u => sx u.tx).map V.str)))
        ⟨same_new hD _, by rw [upd_same]; rfl⟩ (fun t H' _ z => Same.sqt z.1 hs) ?_ ?_
      · rintro t y H1 H2 hlt ⟨s1, e1⟩ ⟨rfl, hy⟩
        obtain ⟨d, hd', dd⟩ := dpall_get ha hy
        rw [List.getElem?_map] at hd'
        cases ek : (UT.nd g l r).kids[t]? with
        | none => rw [ek] at hd'; cases hd'
        | some k =>
          rw [ek] at hd'
          obtain rfl : k.d = d := Option.some.inj hd'
          have hk := List.mem_of_getElem? ek
          have kd := UT.kid_dep hk
          have kt := joinL_kid hk
          refine ⟨rfl, _, rfl, _, rfl, k, B, Dp.same s1 _ _ dd, by omega, UT.kid_nb hb hk, hB, by omega, fun H3 s3 => ⟨_, s3 _ _ e1, ?_, same_put (s1.trans s3) hD _, ?_⟩⟩
          · rw [List.length_map, List.length_map, List.length_take]
            exact Nat.lt_of_le_of_lt (show _ ≤ 3 by omega) (by decide)
          · rw [upd_same, take_more ek, List.map_append, List.map_append]
            rfl
      rintro H1 ⟨s1, e1⟩
      rw [xl, List.take_length] at e1
      have ks := kids_sum (UT.nd g l r).kids
      refine ⟨_, D, _, rfl, rfl, .inl (SqL.of e1), ?_, ?_⟩
      · rw [List.length_map, show (("," : Str)).length = 1 by decide +kernel]
        omega
      rw [sx_comma, join_sx]
      refine ⟨_, _, rfl, rfl, ?_, _, _, rfl, rfl, ?_, ?_⟩
      · rw [sx_open, sx_len, sx_len]
        exact Nat.le_trans (show _ ≤ 1000000 by simp only [List.length_cons, List.length_nil]; omega) (by decide)
      · rw [sx_open, sx_close, sx_app, sx_len, sx_len]
        exact Nat.le_trans (show _ ≤ 1000000 by simp only [List.length_append, List.length_cons, List.length_nil]; omega) (by decide)
      · have := q H1 s1
        rw [htx] at this
        rw [sx_open, sx_close, sx_app, sx_app]
        exact this
theorem ok__law_tree_text (T : Txt K mg) (D : Defs K mg) : ∀ n, Cal CX0 P w K mg base (n + 1) "_law_tree_text" (sp1 (R_ttx K n))
  | 0 => cal_no D.d__law_tree_text (by rintro vs H Q E ⟨x, rfl, t, B, _, h, _⟩; omega)
  | n + 1 => by
    have c__law_tree_text := ok__law_tree_text T D n
    refine cal1 D.d__law_tree_text sc__law_tree_text fun f cdv A outer s H x Q E hr h => ?_
    obtain ⟨t, B, ht, hn, hb, hB, hl, q⟩ := h
    refine ⟨_, (pss_cons (ps_if (pt_not (pt_val (pe_callB call_isD (by rfl) T.b_isinstance (by decide +kernel) (pa_cons (pv 0) (pa_cons (pe_bltn (v := .ty "tuple") (by rfl) T.b_tuple (by decide +kernel) rfl) pa_nil))))) (pss_one (ps_ret (pe_callTy (call_str_int) (by rfl) T.b_str (by decide +kernel) (pa_cons (pv 0) pa_nil)))) pss_nil)
    (pss_cons (ps_set (i := 1) sc__law_tree_text.nd rfl (Or.inl rfl) pe_str)
    (pss_cons (ps_for PassesOwn.never rfl (pi_tup (pv 0)) (pg_name (i := 2) sc__law_tree_text.nd rfl (Or.inl rfl)) (pss_one (ps_set (i := 1) sc__law_tree_text.nd rfl (Or.inl rfl) (pe_op op_add_str (pe_op op_add_str (pv 1) pe_str) (pe_c c__law_tree_text hr (by omega) rfl (pa_cons (pv 2) pa_nil))))))
    (pss_one (ps_ret (pe_op op_add_str (pe_op op_add_str pe_str (pe_slice sl_str (pv 1) (po_some pe_int) po_none)) pe_str)))))), ?_⟩
    cases t with
    | lf i =>
      obtain rfl := dp_int ht
      have hb' : i.natAbs ≤ B := hb
      refine ⟨_, rfl, _, _, _, _, rfl, ht, kb_tp _, _, rfl, iteT ⟨_, rfl, i, rfl, big_log (Nat.lt_of_le_of_lt hb' hB), ?_⟩⟩
      have := q H (Same.refl H)
      rw [UT.tx, ← ntx_str] at this
      exact this
    | nd g l r =>
      have hd := UT.d_nd g l r
      have kl := UT.kids_len g l r
      have hx := ht
      rw [hd] at hx
      obtain ⟨a, xs, rfl, hs, ha⟩ := dp_tup hx
      have xl := dpall_len ha
      rw [List.length_map] at xl
      have htx := UT.tx_nd g l r
      have cd : (commas (UT.nd g l r).kids).drop 1 = TL.joinL [44] ((UT.nd g l r).kids.map UT.tx) := by
        cases ek : (UT.nd g l r).kids with
        | nil => rw [ek] at kl; simp at kl
        | cons k ks => exact commas_drop k ks
      have hl' : (commas (UT.nd g l r).kids).length ≤ 1000000 := by
        rw [htx, ← cd] at hl
        simp only [List.length_append, List.length_cons, List.length_nil, List.length_drop] at hl
        omega
      have part : ∀ i, (commas ((UT.nd g l r).kids.take i)).length ≤ (commas (UT.nd g l r).kids).length := fun i => by
        have e : commas (UT.nd g l r).kids = commas ((UT.nd g l r).kids.take i) ++ commas ((UT.nd g l r).kids.drop i) := by
          unfold commas
          rw [← List.flatMap_append, List.take_append_drop]
        rw [e, List.length_append]
        omega
      refine ⟨_, rfl, _, _, _, _, rfl, ht, UT.kb_nd g l r, _, rfl, iteF ?_⟩
      refine ⟨_, rfl, a, rfl, ⟨_, hs⟩, for_tup (K := K) (a := a) (xs := xs) (fun i σ H' => Same H H' ∧ ∃ o : Option V, σ = [some (.ref a), some (.str (sx (commas ((UT.nd g l r).kids.take i)))), o])
        ⟨Same.refl H, none, by rw [sx_nil]; rfl⟩ (fun i σ H' _ z => Same.sqt z.1 hs) ?_ ?_⟩
      · rintro i y σ H1 hy ⟨s1, o, rfl⟩
        obtain ⟨d, hd', dd⟩ := dpall_get ha hy
        rw [List.getElem?_map] at hd'
        cases ek : (UT.nd g l r).kids[i]? with
        | none => rw [ek] at hd'; cases hd'
        | some k =>
          rw [ek] at hd'
          obtain rfl : k.d = d := Option.some.inj hd'
          have hk := List.mem_of_getElem? ek
          have kd := UT.kid_dep hk
          have cm := commas_more ek
          have p1 := part (i + 1)
          rw [cm, List.length_append, List.length_cons] at p1
          refine ⟨_, rfl, _, _, rfl, rfl, ?_, _, rfl, _, rfl, k, B, Dp.same s1 _ _ dd, by omega, UT.kid_nb hb hk, hB, by omega, fun H3 s3 => ⟨_, _, rfl, rfl, ?_, s1.trans s3, some y, ?_⟩⟩
          · rw [sx_comma, sx_len, sx_len]
            exact Nat.le_trans (show _ ≤ 1000000 by simp only [List.length_cons, List.length_nil]; omega) (by decide)
          · rw [sx_comma, sx_app, sx_len, sx_len]
            exact Nat.le_trans (show _ ≤ 1000000 by simp only [List.length_append, List.length_cons, List.length_nil]; omega) (by decide)
          · rw [sx_comma, sx_app, sx_app, cm, List.append_assoc]
            rfl
      · rintro σ H1 ⟨s1, o, rfl⟩
        rw [xl, List.take_length]
        refine ⟨_, rfl, _, rfl, ?_⟩
        dsimp only [tNoPart]
        refine ⟨_, rfl, ?_, ?_⟩
        · rw [sx_len]
          exact Nat.le_trans hl' (by decide)
        rw [show (1 : Int) = ((1 : Nat) : Int) from rfl, cutS_from, cd]
        have hj : (TL.joinL [44] ((UT.nd g l r).kids.map UT.tx)).length + 2 ≤ 1000000 := by
          rw [htx] at hl
          simp only [List.length_append, List.length_cons, List.length_nil] at hl
          omega
        refine ⟨_, _, rfl, rfl, ?_, _, _, rfl, rfl, ?_, ?_⟩
        · rw [sx_open, sx_len, sx_len]
          exact Nat.le_trans (show _ ≤ 1000000 by simp only [List.length_cons, List.length_nil]; omega) (by decide)
        · rw [sx_open, sx_close, sx_app, sx_len, sx_len]
          exact Nat.le_trans (show _ ≤ 1000000 by simp only [List.length_append, List.length_cons, List.length_nil]; omega) (by decide)
        · have := q H1 s1
          rw [htx] at this
          rw [sx_open, sx_close, sx_app, sx_app]
          exact this
end

structure Errs (K : PySem.W.Frag) (mg : Str → Option Value) (C_ClockError C_NoClock C_NoText C_NotApart : Addr) : Prop where
  o_ClockError : Own K mg "ClockError" C_ClockError
  o_NoClock : Own K mg "NoClock" C_NoClock
  o_NoText : Own K mg "NoText" C_NoText
  o_NotApart : Own K mg "NotApart" C_NotApart
  r_NoText : Rsd K C_NoText
  x_NoText : ExcC K C_NoText
  s_ClockError : PySem.W.subIn K (.ref C_NoText) (.ref C_ClockError) = some true
  s_NoClock : PySem.W.subIn K (.ref C_NoText) (.ref C_NoClock) = some false
  s_NotApart : PySem.W.subIn K (.ref C_NoText) (.ref C_NotApart) = some false
  b_ClockError : PySem.W.subIn K (.ref C_ClockError) (.type "BaseException") = some true
  s_V : PySem.W.subIn K (.ref C_NoText) (.type "ValueError") = some true
structure Figs (mg : Str → Option Value) : Prop where
  ex : ∃ t, mg "FIGURES" = some (.str "0123456789" t)
theorem figs_in (c : Nat) : (!(Builtin.Str.occurrences "0123456789" ⟨#[c]⟩ 0 ("0123456789" : Str).length 1).isEmpty) = dig c := by
  have h := StrLaws.found_one "0123456789" c
  have e : ("0123456789" : Str).cps.toList = [48, 49, 50, 51, 52, 53, 54, 55, 56, 57] := by decide +kernel
  rw [e] at h
  refine h.trans ?_
  rw [Bool.eq_iff_iff]
  simp only [decide_eq_true_eq, dig, Bool.and_eq_true, List.mem_cons, List.not_mem_nil, or_false]
  omega
theorem get_sx {l : List Nat} {e c : Nat} (h : l[e]? = some c) : atI (sx l).cps.toList ((e : Nat) : Int) = some c := atI_nat h
theorem int_sx {l : List Nat} {i : Nat} (h : dn l i ≠ 0) (hl : dn l i ≤ 640) : PySem.intText? (sx (dgs l i)) = some ((NumText.digitsVal (dgs l i) : Nat) : Int) := by
  refine SX.int_S ?_ ?_ (Nat.le_trans hl (by decide))
  · rw [List.all_eq_true]
    exact fun c hc => tw_all _ c hc
  · intro z
    refine h ?_
    show (dgs l i).length = 0
    rw [z]
    rfl
section
variable {P : Program} {w : World} {K : PySem.W.Frag} {mg : Str → Option Value} {base : Heap} {C_ClockError C_NoClock C_NoText C_NotApart : Addr}
def spNum (K : PySem.W.Frag) (C : Addr) : Sp := fun vs H Q E => ∃ x y, vs = [x, y] ∧ ∃ (l : List Nat) (i : Nat), x = .str (sx l) ∧ y = .int (i : Int) ∧ l.length ≤ 400 ∧
  (∀ d e, pnum l i = some (d, e) → ∀ v H', Same H H' → Dp K H' v (.tuple [d, .int (e : Int)]) → Q v H') ∧ (pnum l i = none → ∀ H', Same H H' → E (.ref C) none H')
theorem ok_number_at (T : Txt K mg) (D : Defs K mg) (Er : Errs K mg C_ClockError C_NoClock C_NoText C_NotApart) (Fg : Figs mg) : Cal (L2.CX P w) P w K mg base 1 "number_at" (spNum K C_NoText) := by
  refine cal_okX D.d_number_at sc_number_at (fun vs H Q E h => by obtain ⟨x, y, rfl, _⟩ := h; rfl) fun f cdv A outer s H vs Q E hr h => ?_
  obtain ⟨x, y, rfl, l, i, rfl, rfl, hl, q1, q2⟩ := h
  obtain ⟨tF, h_FIGURES⟩ := Fg.ex
  refine ⟨_, (pss_cons (ps_set (i := 2) sc_number_at.nd rfl (Or.inl rfl) (pv 1))
    (pss_cons (ps_while (passes_of rfl) (PW.pt (pw_and (pt_cmpR op_ne (pe_slice sl_str (pv 0) (po_some (pv 2)) (po_some (pe_op op_add (pv 2) pe_int))) pe_str (nomark _)) (pw_and1 (pt_cmpR op_in_str (pe_ix ix_str (pv 0) (pv 2) (fun _ _ => rfl)) (pe_glob (v := .str "0123456789") (by rfl) h_FIGURES ⟨_, rfl⟩) (by with_unfolding_all rfl))))) (pss_one (ps_set (i := 2) sc_number_at.nd rfl (Or.inl rfl) (pe_op op_add (pv 2) pe_int))))
    (pss_cons (ps_if (pt_cmpR op_eq (pv 2) (pv 1) (nomark _)) (pss_one (ps_raise rfl (takes_of rfl rfl rfl rfl) (pmk_own PySem.F.excBase_ValueError Er.r_NoText.xx Er.o_NoText.g Er.o_NoText.k (raises_own Er.r_NoText.b Er.o_NoText.t) rfl))) pss_nil)
    (pss_one (ps_ret (pe_tup (pa_cons (pe_callTy (call_int_str) (by rfl) T.b_int (by decide +kernel) (pa_cons (pe_slice sl_str (pv 0) (po_some (pv 1)) (po_some (pv 2))) pa_nil)) (pa_cons (pv 2) pa_nil)))))))), ?_⟩
  have hsz : (sx l).length ≤ sizeLine := by rw [sx_len]; exact Nat.le_trans hl (by decide)
  refine ⟨_, rfl, ?_⟩
  refine ⟨fun m σ H' => H' = H ∧ ∃ j, j + m = dn l i ∧ σ = [some (.str (sx l)), some (.int (i : Int)), some (.int ((i + j : Nat) : Int))], ⟨dn l i, rfl, 0, by omega, rfl⟩, ?_⟩
  rintro m σ H' ⟨rfl, j, hj, rfl⟩
  refine ⟨_, rfl, _, rfl, _, rfl, _, rfl, _, _, rfl, rfl, _, rfl, _, rfl, hsz, ?_⟩
  rw [show ((i + j : Nat) : Int) + 1 = ((i + j + 1 : Nat) : Int) by omega, cutS_mid, sign_at]
  have n1 : (!decide (V.str (sx (l[i + j]?).toList) = V.str "")) = !decide (l[i + j]? = none) := by rw [sx_nil, sign_no]
  by_cases jl : j < dn l i
  · obtain ⟨c, hc, pc⟩ := dn_at jl
    refine ⟨rfl, _, rfl, iteTe (n1.trans (by rw [hc]; rfl)) ⟨_, rfl, _, rfl, _, _, c, rfl, rfl, hsz, get_sx hc, _, _, rfl, rfl, _, rfl, iteTe ((figs_in c).trans pc) ?_⟩⟩
    exact ⟨fun σ' H'' => H'' = H' ∧ σ' = [some (.str (sx l)), some (.int (i : Int)), some (.int ((i + (j + 1) : Nat) : Int))], fun σ' H'' z => ⟨m - 1, by omega, z.1, j + 1, by omega, z.2⟩, _, rfl, _, _, rfl, rfl, rfl, by rw [show ((i + (j + 1) : Nat) : Int) = ((i + j : Nat) : Int) + 1 by omega]; rfl⟩
  · have ej : j = dn l i := by omega
    subst ej
    have two : l[i + dn l i]? = none ∨ ∃ c, l[i + dn l i]? = some c := by
      cases l[i + dn l i]? with
      | none => exact .inl rfl
      | some c => exact .inr ⟨c, rfl⟩
    rcases two with hc | ⟨c, hc⟩
    case' inl => refine ⟨rfl, _, rfl, iteFe (n1.trans (by rw [hc]; rfl)) (iteF ?_)⟩
    case' inr => refine ⟨rfl, _, rfl, iteTe (n1.trans (by rw [hc]; rfl)) ⟨_, rfl, _, rfl, _, _, c, rfl, rfl, hsz, get_sx hc, _, _, rfl, rfl, _, rfl, iteFe ((figs_in c).trans (dn_end hc)) ?_⟩⟩
    all_goals
      refine ⟨_, rfl, _, rfl, rfl, _, rfl, iteE (p := dn l i = 0) (decide_eq_decide.mpr ⟨fun z => by have := V.int.inj z; omega, fun z => by rw [z]; rfl⟩) (fun z => ?_) fun z => ?_⟩
      · exact q2 (by unfold pnum; rw [if_pos z]) H' (Same.refl H')
      · have le := dn_le z
        refine ⟨_, rfl, _, rfl, _, rfl, _, rfl, _, rfl, _, rfl, hsz, ?_⟩
        rw [cutS_mid, show i + dn l i - i = dn l i by omega, dn_take]
        refine ⟨_, _, rfl, int_sx z (by omega), ?_, _, rfl, two_le, fun p hp => q1 _ _ (by unfold pnum; rw [if_neg z]) _ _ (same_new hp _) (dp_new2 hp (.int _) (.int _))⟩
        rw [sx_len]
        show dn l i ≤ 640
        omega
theorem tree_len {many : Nat} (m23 : many = 2 ∨ many = 3) : (((many : Nat) : Int)).toNat = many := by omega
def spTree (K : PySem.W.Frag) (C : Addr) (n : Nat) : Sp := fun vs H Q E => ∃ x y z, vs = [x, y, z] ∧ ∃ (l : List Nat) (i many : Nat), x = .str (sx l) ∧ y = .int (i : Int) ∧ z = .int (many : Int) ∧ (many = 2 ∨ many = 3) ∧ l.length ≤ 400 ∧ pc (l.drop i) < n ∧
  (∀ d e, ptree many l (n - 1) i = some (d, e) → ∀ v H', Same H H' → Dp K H' v (.tuple [d, .int (e : Int)]) → Q v H') ∧ (ptree many l (n - 1) i = none → ∀ H', Same H H' → E (.ref C) none H')
theorem ok_tree_at (T : Txt K mg) (D : Defs K mg) (Er : Errs K mg C_ClockError C_NoClock C_NoText C_NotApart) (Fg : Figs mg) : ∀ n, Cal (L2.CX P w) P w K mg base (n + 2) "tree_at" (spTree K C_NoText n)
  | 0 => by
    obtain ⟨f, fd, F, m, b⟩ := D.d_tree_at.ex
    have no : ∀ vs H Q E, ¬ spTree K C_NoText 0 vs H Q E := by rintro vs H Q E ⟨x, y, z, rfl, l, i, many, _, _, _, _, _, h, _⟩; omega
    exact ⟨f, fd, _, ⟨fun vs H Q E h => absurd h (no vs H Q E), fun A outer s H args us vs Q E _ _ _ _ h => absurd h (no vs H Q E)⟩, m, F.kp, b⟩
  | n + 1 => by
    have c_tree_at := ok_tree_at T D Er Fg n
    have c_number_at := ok_number_at (P := P) (w := w) (base := base) T D Er Fg
    refine cal_okX D.d_tree_at sc_tree_at (fun vs H Q E h => by obtain ⟨x, y, z, rfl, _⟩ := h; rfl) fun f cdv A outer s H vs Q E hr h => ?_
    obtain ⟨x, y, z, rfl, l, i, many, rfl, rfl, rfl, m23, hl, hpc, q1, q2⟩ := h
    rw [Nat.add_sub_cancel] at q1 q2
    refine ⟨_, (pss_cons (ps_if (pt_cmpR op_ne (pe_slice sl_str (pv 0) (po_some (pv 1)) (po_some (pe_op op_add (pv 1) pe_int))) pe_str (nomark _)) (pss_one (ps_ret (pe_cS c_number_at hr (by omega) rfl (takes_of rfl rfl rfl rfl) (pa_cons (pv 0) (pa_cons (pv 1) pa_nil))))) pss_nil)
    (pss_cons (ps_set (i := 3) sc_tree_at.nd rfl (Or.inl rfl) (pe_lst pa_nil))
    (pss_cons (ps_set (i := 4) sc_tree_at.nd rfl (Or.inl rfl) (pv 1))
    (pss_cons (ps_for (passes_of rfl) rfl (pi_range1 (by rfl) T.b_range (pa_cons (pv 2) pa_nil)) (pg_name (i := 5) sc_tree_at.nd rfl (Or.inl rfl)) (pss_cons (ps_if (pt_cmpR op_ne (pe_slice sl_str (pv 0) (po_some (pv 4)) (po_some (pe_op op_add (pv 4) pe_int))) (pe_ix ix_str pe_str (pe_callTy (call_int1) (by rfl) T.b_int (by decide +kernel) (pa_cons (pe_cmpR op_gt (pv 5) pe_int (nomark _)) pa_nil)) (fun _ _ => rfl)) (nomark _)) (pss_one (ps_raise rfl (takes_of rfl rfl rfl rfl) (pmk_own PySem.F.excBase_ValueError Er.r_NoText.xx Er.o_NoText.g Er.o_NoText.k (raises_own Er.r_NoText.b Er.o_NoText.t) rfl))) pss_nil)
    (C8.pss_cut (ps_if (PW.pt (pw_and (pt_cmpR op_eq (pv 2) pe_int (nomark _)) (pw_and1 (pt_cmpR op_eq (pv 5) pe_int (nomark _))))) (pss_one (ps_asg (pe_cS c_number_at hr (by omega) rfl (takes_of rfl rfl rfl rfl) (pa_cons (pv 0) (pa_cons (pe_op op_add (pv 4) pe_int) pa_nil))) (pg_tup rfl (pgs_cons (pg_name (i := 6) sc_tree_at.nd rfl (Or.inl rfl)) (pgs_cons (pg_name (i := 4) sc_tree_at.nd rfl (Or.inl rfl)) pgs_nil))))) (pss_one (ps_asg (pe_cS c_tree_at hr (by omega) rfl (takes_of rfl rfl rfl rfl) (pa_cons (pv 0) (pa_cons (pe_op op_add (pv 4) pe_int) (pa_cons (pv 2) pa_nil)))) (pg_tup rfl (pgs_cons (pg_name (i := 6) sc_tree_at.nd rfl (Or.inl rfl)) (pgs_cons (pg_name (i := 4) sc_tree_at.nd rfl (Or.inl rfl)) pgs_nil))))))
    (pss_one (ps_expr (pe_bm PySem.F.plainAttrs_list PySem.F.slot_list_append PySem.F.type_list_append mt_append (pv 3) (pa_cons (pv 6) pa_nil)))))))
    (pss_cons (ps_if (pt_cmpR op_ne (pe_slice sl_str (pv 0) (po_some (pv 4)) (po_some (pe_op op_add (pv 4) pe_int))) pe_str (nomark _)) (pss_one (ps_raise rfl (takes_of rfl rfl rfl rfl) (pmk_own PySem.F.excBase_ValueError Er.r_NoText.xx Er.o_NoText.g Er.o_NoText.k (raises_own Er.r_NoText.b Er.o_NoText.t) rfl))) pss_nil)
    (pss_one (ps_ret (pe_tup (pa_cons (pe_callTy (call_tuple_of) (by rfl) T.b_tuple (by decide +kernel) (pa_cons (pv 3) pa_nil)) (pa_cons (pe_op op_add (pv 4) pe_int) pa_nil)))))))))), ?_⟩
    have hsz : (sx l).length ≤ sizeLine := by rw [sx_len]; exact Nat.le_trans hl (by decide)
    have nx (j : Nat) : ((j : Nat) : Int) + 1 = ((j + 1 : Nat) : Int) := by omega
    refine ⟨_, rfl, _, rfl, _, rfl, _, rfl, _, _, rfl, rfl, _, rfl, _, rfl, hsz, ?_⟩
    rw [nx, cutS_mid, sign_at]
    have n1 : (!decide (V.str (sx (l[i]?).toList) = V.str "(")) = !decide (l[i]? = some 40) := by rw [sx_open, sign_is]
    by_cases c : l[i]? = some 40
    · have p1 := pc_open c
      obtain ⟨m, rfl⟩ : ∃ m, n = m + 1 := ⟨n - 1, by omega⟩
      have po := ptree_open (many := many) (n := m) c
      rw [po] at q1 q2
      refine ⟨rfl, _, rfl, iteFe (n1.trans (by rw [c]; rfl)) ?_⟩
      refine ⟨zero_le, fun pf hpf => ⟨_, rfl, ?_⟩⟩
      refine ⟨_, rfl, (many : Int), rfl, by omega, by omega, for_range (lo := 0) (n := ((many : Nat) : Int).toNat) (fun t σ H' => Same H H' ∧ ∃ (ds : List PyData) (h : Nat) (vs : List V) (o5 o6 : Option V), ploop (ptree many l m) many l i t = some (ds, h) ∧ H' pf = some (.lst vs) ∧ DpAll K H' vs ds ∧ noLsts ds = true ∧ vs.length = t ∧ i ≤ h ∧
          σ = [some (.str (sx l)), some (.int (i : Int)), some (.int (many : Int)), some (.ref pf), some (.int (h : Int)), o5, o6])
        ⟨same_new hpf _, [], i, [], none, none, rfl, upd_same, .nil, by simp [noLsts], rfl, Nat.le_refl _, rfl⟩ ?_ ?_⟩
      · rintro t σ H' ht ⟨s', ds, h, vs, o5, o6, ep, ef, da, nl, vl, ih, rfl⟩
        have htm : t < many := by omega
        refine ⟨_, rfl, _, rfl, _, rfl, _, rfl, _, _, rfl, rfl, _, rfl, _, rfl, hsz, ?_⟩
        rw [nx, cutS_mid, sign_at]
        refine ⟨_, rfl, _, _, rfl, rfl, .inr ⟨_, rfl, _, _, _, rfl, rfl, by decide +kernel, sgn_at t, ?_⟩⟩
        have n2 : (!decide (V.str (sx (l[h]?).toList) = V.str ⟨#[sgn t]⟩)) = !decide (l[h]? = some (sgn t)) := congrArg (!·) (sign_is l h (sgn t))
        have dead : pstep (ptree many l m) many l t h = none → (match ploop (ptree many l m) many l i many with | none => none | some (ds, h) => if l[h]? ≠ some 41 then none else some (PyData.tuple ds, h + 1)) = none := fun z => by
          rw [ploop_none (ploop_stop ep z) (show t + 1 ≤ many by omega)]
        by_cases cs : l[h]? = some (sgn t)
        · refine ⟨rfl, _, rfl, iteFe (n2.trans (by rw [cs]; simp)) ?_⟩
          have later : pc (l.drop (h + 1)) < m + 1 := by
            have := pc_later (l := l) (show i + 1 ≤ h + 1 by omega)
            omega
          refine ⟨fun σ H'' => Same H' H'' ∧ ∃ (d : PyData) (h' : Nat) (v : V), pstep (ptree many l m) many l t h = some (d, h') ∧ Dp K H'' v d ∧ noLst d = true ∧ h ≤ h' ∧ σ = [some (.str (sx l)), some (.int (i : Int)), some (.int (many : Int)), some (.ref pf), some (.int (h' : Int)), some (.int (0 + (t : Int))), some v], ?_, ?_⟩
          · by_cases c3 : many = 3 ∧ t = 0
            · refine ⟨_, rfl, rfl, _, rfl, iteTe (decide_eq_true (by rw [c3.1]; rfl)) ⟨_, rfl, rfl, _, rfl, iteTe (decide_eq_true (by rw [c3.2]; rfl)) ?_⟩⟩
              have es : pstep (ptree many l m) many l t h = pnum l (h + 1) := by rw [pstep, if_neg (by simp [cs]), if_pos c3]
              refine ⟨_, rfl, _, rfl, _, _, rfl, rfl, _, _, rfl, l, h + 1, rfl, congrArg V.int (nx h), hl, fun d e hd v H'' s'' dv => ?_, fun hd H'' s'' => q2 (dead (es.trans hd)) H'' (s'.trans s'')⟩
              obtain ⟨a, y1, y2, rfl, hs, g1, g2⟩ := dp_tup2 dv
              obtain rfl := dp_int g2
              have ps := pnum_some hd
              exact ⟨a, _, rfl, hs, rfl, _, _, rfl, _, _, rfl, rfl, s'', d, e, y1, es.trans hd, g1, by rw [ps.1]; simp [noLst], by omega, rfl⟩
            · have es : pstep (ptree many l m) many l t h = ptree many l m (h + 1) := by rw [pstep, if_neg (by simp [cs]), if_neg c3]
              have two : many ≠ 3 ∨ (many = 3 ∧ t ≠ 0) := by
                by_cases z : many = 3
                · exact .inr ⟨z, fun y => c3 ⟨z, y⟩⟩
                · exact .inl z
              rcases two with z | z
              case' inl => refine ⟨_, rfl, rfl, _, rfl, iteFe (decide_eq_false fun y => z (by have := V.int.inj y; omega)) (iteF ?_)⟩
              case' inr => refine ⟨_, rfl, rfl, _, rfl, iteTe (decide_eq_true (by rw [z.1]; rfl)) ⟨_, rfl, rfl, _, rfl, iteFe (decide_eq_false fun y => z.2 (by have := V.int.inj y; omega)) ?_⟩⟩
              all_goals
                refine ⟨_, rfl, _, rfl, _, _, rfl, rfl, _, rfl, _, _, _, rfl, l, h + 1, many, rfl, congrArg V.int (nx h), rfl, m23, hl, later, fun d e hd v H'' s'' dv => ?_, fun hd H'' s'' => q2 (dead (es.trans hd)) H'' (s'.trans s'')⟩
                obtain ⟨a, y1, y2, rfl, hs, g1, g2⟩ := dp_tup2 dv
                obtain rfl := dp_int g2
                have rd := ptree_rd _ _ hd
                have lt := rd.lt
                exact ⟨a, _, rfl, hs, rfl, _, _, rfl, _, _, rfl, rfl, s'', d, e, y1, es.trans hd, g1, rd.nl, by omega, rfl⟩
          rintro σ H'' ⟨s'', d, h', v, eps, dv, nd, hh, rfl⟩
          have ef2 := s'' _ _ ef
          refine ⟨_, rfl, .inl ⟨rfl, _, SqL.of ef2⟩, _, rfl, pf, vs, v, rfl, rfl, ef2, Nat.lt_of_le_of_lt (show _ ≤ 3 by omega) (by decide), ?_⟩
          have kp := keep_lst (ys := vs ++ [v]) ef2
          refine ⟨same_put (s'.trans s'') hpf _, ds ++ [d], h', vs ++ [v], _, _, ploop_step ep eps, upd_same, dpall_app (DpAll.keep kp _ _ nl (DpAll.same s'' _ _ da)) (.cons (Dp.keep kp _ _ nd dv) .nil), noLsts_app nd nl, by rw [List.length_append, List.length_singleton]; omega, by omega, rfl⟩
        · refine ⟨rfl, _, rfl, iteTe (n2.trans (by simp [cs])) ?_⟩
          exact q2 (dead (by rw [pstep, if_pos cs])) H' s'
      · rintro σ H' ⟨s', ds, h, vs, o5, o6, ep, ef, da, nl, vl, ih, rfl⟩
        rw [tree_len m23] at ep
        rw [ep] at q1 q2
        refine ⟨_, rfl, _, rfl, _, rfl, _, rfl, _, _, rfl, rfl, _, rfl, _, rfl, hsz, ?_⟩
        rw [nx, cutS_mid, sign_at]
        have n3 : (!decide (V.str (sx (l[h]?).toList) = V.str ")")) = !decide (l[h]? = some 41) := by rw [sx_close, sign_is]
        by_cases cc : l[h]? = some 41
        · refine ⟨rfl, _, rfl, iteFe (n3.trans (by rw [cc]; rfl)) ?_⟩
          refine ⟨_, rfl, pf, vs, rfl, .inl ⟨SqL.of ef, fun p hp => ?_⟩⟩
          have t1 := same_new hp (.tup vs)
          refine ⟨_, rfl, _, _, rfl, rfl, two_le, fun p2 hp2 => ?_⟩
          have t2 := same_new hp2 (.tup [.ref p, .int ((h : Int) + 1)])
          refine q1 (.tuple ds) (h + 1) (by simp [cc]) _ _ (s'.trans (t1.trans t2)) ?_
          rw [← nx]
          exact dp_new2 hp2 (dp_nt hp (DpAll.same t1 _ _ da)) (.int _)
        · refine ⟨rfl, _, rfl, iteTe (n3.trans (by simp [cc])) ?_⟩
          exact q2 (by simp [cc]) H' s'
    · refine ⟨rfl, _, rfl, iteTe (n1.trans (by simp [c])) ?_⟩
      rw [ptree_num c] at q1 q2
      exact ⟨_, rfl, _, rfl, _, _, rfl, l, i, rfl, rfl, hl, q1, q2⟩
end

section
variable {P : Program} {w : World} {K : PySem.W.Frag} {mg : Str → Option Value} {base : Heap}
theorem clock_depth {u : PT} {t : CT} {k : Nat} (du : u.dep ≤ k) (dt : t.dep ≤ k) : (clockD u t).depth ≤ k + 1 := by
  unfold clockD
  refine depth_tup.mpr fun d hd => ?_
  rcases List.mem_cons.mp hd with rfl | hd
  · rw [PT.depth_d]; exact du
  · rw [List.mem_singleton.mp hd, CT.depth_d]; exact dt
def R_lwritten (K : PySem.W.Frag) : V → Hp → VK → Prop := fun x H Q => ∃ u t : UT, Dp K H x (.tuple [u.d, t.d]) ∧ Wr u t ∧ ∀ H', Same H H' → Q (.str (sx (wtx u t))) H'
theorem ok__law_written (T : Txt K mg) (D : Defs K mg) : Cal CX0 P w K mg base 70 "_law_written" (sp1 (R_lwritten K)) := by
  have c__law_tree_text := ok__law_tree_text (P := P) (w := w) (base := base) T D 60
  refine cal1 D.d__law_written sc__law_written fun f cdv A outer s H x Q E hr h => ?_
  obtain ⟨u, t, hd, ⟨B, hB, bu, bt, du, dt, lu, lt⟩, q⟩ := h
  refine ⟨_, (pss_one (ps_ret (pe_op op_add_str (pe_op op_add_str (pe_c c__law_tree_text hr (by omega) rfl (pa_cons (pe_ix ix_tup (pv 0) pe_int (fun _ _ => rfl)) pa_nil)) pe_str) (pe_c c__law_tree_text hr (by omega) rfl (pa_cons (pe_ix ix_tup (pv 0) pe_int (fun _ _ => rfl)) pa_nil))))), ?_⟩
  obtain ⟨a, x1, x2, rfl, hs, h1, h2⟩ := dp_tup2 hd
  refine ⟨_, rfl, _, _, _, _, rfl, rfl, hs, rfl, _, rfl, u, B, h1, by omega, bu, hB, by omega, fun H2 s2 => ?_⟩
  refine ⟨_, _, rfl, rfl, ?_, _, rfl, _, _, _, _, rfl, rfl, Same.sqt s2 hs, rfl, _, rfl, t, B, Dp.same s2 _ _ h2, by omega, bt, hB, by omega, fun H3 s3 => ⟨_, _, rfl, rfl, ?_, ?_⟩⟩
  · rw [sx_blank, sx_len, sx_len]
    exact Nat.le_trans (show _ ≤ 1000000 by simp only [List.length_cons, List.length_nil]; omega) (by decide)
  · rw [sx_blank, sx_app, sx_len, sx_len]
    exact Nat.le_trans (show _ ≤ 1000000 by simp only [List.length_append, List.length_cons, List.length_nil]; omega) (by decide)
  · have := q H3 (s2.trans s3)
    rw [sx_blank, sx_app, sx_app]
    have e : u.tx ++ [32] ++ t.tx = wtx u t := by simp [wtx]
    rw [e]
    exact this
end

section
variable {P : Program} {w : World} {K : PySem.W.Frag} {mg : Str → Option Value} {base : Heap} {C_ClockError C_NoClock C_NoText C_NotApart : Addr}
def spRead (K : PySem.W.Frag) (C : Addr) : Sp := fun vs H Q E => ∃ x, vs = [x] ∧ ∃ l : List Nat, x = .str (sx l) ∧ l.length ≤ 400 ∧ pc l ≤ 58 ∧
  (∀ u t, Is l u t → ∀ v H', Same H H' → Dp K H' v (clockD u t) → Q v H') ∧ ((∀ u t, ¬ Is l u t) → ∀ H', Same H H' → E (.ref C) none H')
theorem ok_read (T : Txt K mg) (D : Defs K mg) (Er : Errs K mg C_ClockError C_NoClock C_NoText C_NotApart) (Fg : Figs mg) : Cal (L2.CX P w) P w K mg base 80 "read" (spRead K C_NoText) := by
  have c_tree_at := ok_tree_at (P := P) (w := w) (base := base) T D Er Fg 59
  have c_is_clock := ok_is_clock (P := P) (w := w) (base := base) T D
  have c_tree_text := ok_tree_text (P := P) (w := w) (base := base) T D 60
  refine cal_okX D.d_read sc_read (fun vs H Q E h => by obtain ⟨x, rfl, _⟩ := h; rfl) fun f cdv A outer s H vs Q E hr h => ?_
  obtain ⟨x, rfl, l, rfl, hl, hp, q1, q2⟩ := h
  refine ⟨_, (pss_cons (ps_if (pt_not (pt_val (pe_callB call_isD (by rfl) T.b_isinstance (by decide +kernel) (pa_cons (pv 0) (pa_cons (pe_bltn (v := .ty "str") (by rfl) T.b_str (by decide +kernel) rfl) pa_nil))))) (pss_one (ps_raise rfl (takes_of rfl rfl rfl rfl) (pmk_own PySem.F.excBase_ValueError Er.r_NoText.xx Er.o_NoText.g Er.o_NoText.k (raises_own Er.r_NoText.b Er.o_NoText.t) rfl))) pss_nil)
    (pss_cons (ps_asg (pe_cS c_tree_at hr (by omega) rfl (takes_of rfl rfl rfl rfl) (pa_cons (pv 0) (pa_cons pe_int (pa_cons pe_int pa_nil)))) (pg_tup rfl (pgs_cons (pg_name (i := 1) sc_read.nd rfl (Or.inl rfl)) (pgs_cons (pg_name (i := 2) sc_read.nd rfl (Or.inl rfl)) pgs_nil))))
    (pss_cons (ps_if (pt_cmpR op_ne (pe_slice sl_str (pv 0) (po_some (pv 2)) (po_some (pe_op op_add (pv 2) pe_int))) pe_str (nomark _)) (pss_one (ps_raise rfl (takes_of rfl rfl rfl rfl) (pmk_own PySem.F.excBase_ValueError Er.r_NoText.xx Er.o_NoText.g Er.o_NoText.k (raises_own Er.r_NoText.b Er.o_NoText.t) rfl))) pss_nil)
    (pss_cons (ps_asg (pe_cS c_tree_at hr (by omega) rfl (takes_of rfl rfl rfl rfl) (pa_cons (pv 0) (pa_cons (pe_op op_add (pv 2) pe_int) (pa_cons pe_int pa_nil)))) (pg_tup rfl (pgs_cons (pg_name (i := 3) sc_read.nd rfl (Or.inl rfl)) (pgs_cons (pg_name (i := 4) sc_read.nd rfl (Or.inl rfl)) pgs_nil))))
    (pss_cons (ps_set (i := 5) sc_read.nd rfl (Or.inl rfl) (pe_tup (pa_cons (pv 1) (pa_cons (pv 3) pa_nil))))
    (pss_cons (ps_if (PW.pt (pw_or (pt_cmpR op_ne (pv 4) (pe_callB call_len_str (by rfl) T.b_len PySem.boot_len (pa_cons (pv 0) pa_nil)) (nomark _)) (pw_or (pt_not (pt_val (pe_c c_is_clock hr (by omega) rfl (pa_cons (pv 5) pa_nil)))) (pw_or1 (pt_cmpR op_ne (pe_op op_add_str (pe_op op_add_str (pe_c c_tree_text hr (by omega) rfl (pa_cons (pv 1) pa_nil)) pe_str) (pe_c c_tree_text hr (by omega) rfl (pa_cons (pv 3) pa_nil))) (pv 0) (nomark _)))))) (pss_one (ps_raise rfl (takes_of rfl rfl rfl rfl) (pmk_own PySem.F.excBase_ValueError Er.r_NoText.xx Er.o_NoText.g Er.o_NoText.k (raises_own Er.r_NoText.b Er.o_NoText.t) rfl))) pss_nil)
    (pss_one (ps_ret (pv 5))))))))), ?_⟩
  have hsz : (sx l).length ≤ sizeLine := by rw [sx_len]; exact Nat.le_trans hl (by decide)
  have nx (j : Nat) : ((j : Nat) : Int) + 1 = ((j + 1 : Nat) : Int) := by omega
  refine ⟨_, rfl, _, _, _, _, rfl, .str _, kb_st _, _, rfl, iteF ?_⟩
  have pd : pc (l.drop 0) < 59 := by rw [List.drop_zero]; omega
  refine ⟨_, rfl, _, _, _, rfl, l, 0, 2, rfl, rfl, rfl, .inl rfl, hl, pd, fun d e hd v H1 s1 dv => ?_, fun hd H1 s1 => q2 (fun u t i => by have := (i.part hp).1; rw [hd] at this; cases this) H1 s1⟩
  obtain ⟨a, y1, y2, rfl, hs, g1, g2⟩ := dp_tup2 dv
  obtain rfl := dp_int g2
  refine ⟨a, _, rfl, hs, rfl, _, _, rfl, _, _, rfl, rfl, ?_⟩
  refine ⟨_, rfl, _, rfl, _, rfl, _, rfl, _, _, rfl, rfl, _, rfl, _, rfl, hsz, ?_⟩
  rw [nx, cutS_mid, sign_at]
  have n1 : (!decide (V.str (sx (l[e]?).toList) = V.str " ")) = !decide (l[e]? = some 32) := by rw [sx_blank, sign_is]
  by_cases c : l[e]? = some 32
  · refine ⟨rfl, _, rfl, iteFe (n1.trans (by rw [c]; rfl)) ?_⟩
    have later : pc (l.drop (e + 1)) < 59 := by
      have := pc_drop l (e + 1)
      omega
    have no2 : (∀ d2 e2, ptree 3 l 58 (e + 1) = some (d2, e2) → ∀ (u : PT) (t : CT), Is l u t → d2 = t.d ∧ e2 = l.length ∧ d = u.d) := fun d2 e2 hd2 u t i => by
      have z := i.part hp
      have z1 : d = u.d ∧ e = u.u.tx.length := by simpa using hd.symm.trans z.1
      rw [z1.2] at hd2
      have z2 : d2 = t.d ∧ e2 = l.length := by simpa using hd2.symm.trans z.2.2
      exact ⟨z2.1, z2.2, z1.1⟩
    refine ⟨_, rfl, _, rfl, _, _, rfl, rfl, _, _, _, rfl, l, e + 1, 3, rfl, congrArg V.int (nx e), rfl, .inr rfl, hl, later, fun d2 e2 hd2 v2 H2 s2 dv2 => ?_, fun hd2 H2 s2 => q2 (fun u t i => ?_) H2 (s1.trans s2)⟩
    case refine_2 =>
      have z := i.part hp
      have z1 : d = u.d ∧ e = u.u.tx.length := by simpa using hd.symm.trans z.1
      rw [z1.2] at hd2
      have := hd2.symm.trans z.2.2
      cases this
    obtain ⟨a2, y3, y4, rfl, hs2, g3, g4⟩ := dp_tup2 dv2
    obtain rfl := dp_int g4
    refine ⟨a2, _, rfl, hs2, rfl, _, _, rfl, _, _, rfl, rfl, ?_⟩
    refine ⟨_, rfl, _, rfl, two_le, fun p hp0 => ⟨_, rfl, ?_⟩⟩
    have s12 := s1.trans s2
    have t1 := same_new hp0 (.tup [y1, y3])
    have g1' := Dp.same s2 _ _ g1
    have ce := dp_new2 hp0 g1' g3
    have s3 := s12.trans t1
    have r1 := ptree_rd _ _ hd
    have r2 := ptree_rd _ _ hd2
    refine ⟨_, rfl, _, rfl, hsz, rfl, _, rfl, iteE (p := e2 ≠ l.length) ?_ (fun z => ?_) fun z => ?_⟩
    · rw [sx_len]
      exact dec_lenne
    · exact q2 (fun u t i => z (no2 d2 e2 hd2 u t i).2.1) _ s3
    · refine ⟨_, rfl, _, rfl, .tuple [d, d2], ce, ?_, by decide, fun H4 s4 => ⟨_, rfl, ?_⟩⟩
      · have b1 := r1.depth
        have b2 := r2.depth
        simp only [PyData.depth, PyData.depthAll]
        omega
      · have s5 := s3.trans s4
        cases ic : isClock (.tuple [d, d2]) with
        | false =>
          refine iteT (q2 (fun u t i => ?_) _ s5)
          have z2 := no2 d2 e2 hd2 u t i
          have z3 := isClock_pl i.pu i.pt
          unfold clockD at z3
          rw [← z2.2.2, ← z2.1, ic] at z3
          cases z3
        | true =>
          refine iteF ?_
          obtain ⟨u, t, ec, pu, pt⟩ := isClock_true ic
          have ec2 : d = u.d ∧ d2 = t.d := by unfold clockD at ec; simpa using ec
          obtain ⟨rfl, rfl⟩ := ec2
          obtain ⟨B, hB, bu, bt, du, dt, lu, lt⟩ := wr_of hl hd hd2
          have g1s := Dp.same (t1.trans s4) _ _ g1'
          have g3s := Dp.same (t1.trans s4) _ _ g3
          rw [← PT.u_d] at g1s
          rw [← CT.u_d] at g3s
          refine ⟨_, rfl, _, rfl, u.u, B, g1s, by omega, bu, hB, by omega, fun H5 s5' => ?_⟩
          refine ⟨_, _, rfl, rfl, ?_, _, rfl, _, rfl, t.u, B, Dp.same s5' _ _ g3s, by omega, bt, hB, by omega, fun H6 s6 => ⟨_, _, rfl, rfl, ?_, ?_⟩⟩
          · rw [sx_blank, sx_len, sx_len]
            exact Nat.le_trans (show _ ≤ 1000000 by simp only [List.length_cons, List.length_nil]; omega) (by decide)
          · rw [sx_blank, sx_app, sx_len, sx_len]
            exact Nat.le_trans (show _ ≤ 1000000 by simp only [List.length_append, List.length_cons, List.length_nil]; omega) (by decide)
          · have ew : u.u.tx ++ [32] ++ t.u.tx = wtx u.u t.u := by simp [wtx]
            rw [sx_blank, sx_app, sx_app, ew]
            have s7 := s5.trans (s5'.trans s6)
            refine ⟨_, rfl, rfl, _, rfl, iteE (p := wtx u.u t.u ≠ l) ?_ (fun z => ?_) fun z => ?_⟩
            · rw [Bool.eq_iff_iff]
              simp only [Bool.not_eq_true', decide_eq_false_iff_not, decide_eq_true_eq]
              exact not_congr ⟨fun y => sx_inj (V.str.inj y), fun y => by rw [y]⟩
            · refine q2 (fun u' t' i => z ?_) _ s7
              have z2 := no2 _ e2 hd2 u' t' i
              have i2 := i.eq
              rw [← i2]
              have eu : u = u' := by
                have := congrArg toPT z2.2.2
                rw [toPT_d, toPT_d] at this
                exact Option.some.inj this
              have et : t = t' := by
                have := congrArg toCT z2.1
                rw [toCT_d, toCT_d] at this
                exact Option.some.inj this
              rw [eu, et]
            · exact ⟨_, rfl, q1 u t ⟨pu, pt, Decidable.not_not.mp z⟩ _ _ s7 (Dp.same (s4.trans (s5'.trans s6)) _ _ ce)⟩
  · refine ⟨rfl, _, rfl, iteTe (n1.trans (by simp [c])) ?_⟩
    refine q2 (fun u t i => c ?_) H1 s1
    have z := i.part hp
    have z1 : d = u.d ∧ e = u.u.tx.length := by simpa using hd.symm.trans z.1
    rw [z1.2]
    exact z.2.1
end

theorem figs_find (c : Nat) : decide (Txt.find "0123456789" ⟨#[c]⟩ ≥ 0) = dig c := by
  rw [← figs_in c]
  unfold Txt.find
  cases Builtin.Str.occurrences "0123456789" ⟨#[c]⟩ 0 ("0123456789" : Str).length 1 with
  | nil => rfl
  | cons a b =>
    rw [decide_eq_true (show ((a : Nat) : Int) ≥ 0 by omega)]
    rfl
section
variable {P : Program} {w : World} {K : PySem.W.Frag} {mg : Str → Option Value} {base : Heap}
def R_lnum : V → V → Hp → VK → Prop := fun x y H Q => ∃ (l : List Nat) (i : Nat), x = .str (sx l) ∧ y = .int (i : Int) ∧ l.length ≤ 400 ∧ Q (.int ((i + dn l i : Nat) : Int)) H
theorem ok__law_number_at (T : Txt K mg) (D : Defs K mg) : Cal CX0 P w K mg base 1 "_law_number_at" (sp2 R_lnum) := by
  refine cal2 D.d__law_number_at sc__law_number_at fun f cdv A outer s H x y Q E hr h => ?_
  obtain ⟨l, i, rfl, rfl, hl, q⟩ := h
  refine ⟨_, (pss_cons (ps_set (i := 2) sc__law_number_at.nd rfl (Or.inl rfl) (pv 1))
    (pss_cons (ps_while PassesOwn.never (PW.pt (pw_and (pt_cmpR op_ne (pe_slice sl_str (pv 0) (po_some (pv 2)) (po_some (pe_op op_add (pv 2) pe_int))) pe_str (nomark _)) (pw_and1 (pt_cmpR op_ge (pe_bm PySem.F.plainAttrs_str PySem.F.slot_str_find PySem.F.type_str_find mt_find pe_str (pa_cons (pe_ix ix_str (pv 0) (pv 2) (fun _ _ => rfl)) pa_nil)) pe_int (nomark _))))) (pss_one (ps_set (i := 2) sc__law_number_at.nd rfl (Or.inl rfl) (pe_op op_add (pv 2) pe_int))))
    (pss_one (ps_ret (pv 2))))), ?_⟩
  have hsz : (sx l).length ≤ sizeLine := by rw [sx_len]; exact Nat.le_trans hl (by decide)
  refine ⟨_, rfl, ?_⟩
  refine ⟨fun m σ H' => H' = H ∧ ∃ j, j + m = dn l i ∧ σ = [some (.str (sx l)), some (.int (i : Int)), some (.int ((i + j : Nat) : Int))], ⟨dn l i, rfl, 0, by omega, rfl⟩, ?_⟩
  rintro m σ H' ⟨rfl, j, hj, rfl⟩
  refine ⟨_, rfl, _, rfl, _, rfl, _, rfl, _, _, rfl, rfl, _, rfl, _, rfl, hsz, ?_⟩
  rw [show ((i + j : Nat) : Int) + 1 = ((i + j + 1 : Nat) : Int) by omega, cutS_mid, sign_at]
  have n1 : (!decide (V.str (sx (l[i + j]?).toList) = V.str "")) = !decide (l[i + j]? = none) := by rw [sx_nil, sign_no]
  by_cases jl : j < dn l i
  · obtain ⟨c, hc, pc⟩ := dn_at jl
    refine ⟨rfl, _, rfl, iteTe (n1.trans (by rw [hc]; rfl)) ?_⟩
    refine ⟨rfl, _, rfl, _, rfl, _, _, c, rfl, rfl, hsz, get_sx hc, _, _, rfl, rfl, _, _, rfl, rfl, _, rfl, iteTe ((figs_find c).trans pc) ?_⟩
    exact ⟨fun σ' H'' => H'' = H' ∧ σ' = [some (.str (sx l)), some (.int (i : Int)), some (.int ((i + (j + 1) : Nat) : Int))], fun σ' H'' z => ⟨m - 1, by omega, z.1, j + 1, by omega, z.2⟩, _, rfl, _, _, rfl, rfl, rfl, by rw [show ((i + (j + 1) : Nat) : Int) = ((i + j : Nat) : Int) + 1 by omega]; rfl⟩
  · have ej : j = dn l i := by omega
    subst ej
    have two : l[i + dn l i]? = none ∨ ∃ c, l[i + dn l i]? = some c := by
      cases l[i + dn l i]? with
      | none => exact .inl rfl
      | some c => exact .inr ⟨c, rfl⟩
    rcases two with hc | ⟨c, hc⟩
    case' inl => refine ⟨rfl, _, rfl, iteFe (n1.trans (by rw [hc]; rfl)) (iteF ?_)⟩
    case' inr => refine ⟨rfl, _, rfl, iteTe (n1.trans (by rw [hc]; rfl)) ⟨rfl, _, rfl, _, rfl, _, _, c, rfl, rfl, hsz, get_sx hc, _, _, rfl, rfl, _, _, rfl, rfl, _, rfl, iteFe ((figs_find c).trans (dn_end hc)) ?_⟩⟩
    all_goals exact ⟨_, rfl, q⟩
def R_ltree (K : PySem.W.Frag) (n : Nat) : V → V → V → Hp → VK → Prop := fun x y z H Q => ∃ (l : List Nat) (i many : Nat), x = .str (sx l) ∧ y = .int (i : Int) ∧ z = .int (many : Int) ∧ (many = 2 ∨ many = 3) ∧ l.length ≤ 400 ∧ pc (l.drop i) < n ∧
  ∀ d e, (ptree many l (n - 1) i).getD (.none, i) = (d, e) → ∀ v H', Same H H' → Dp K H' v (.tuple [d, .int (e : Int)]) → Q v H'
theorem ok__law_tree_at (T : Txt K mg) (D : Defs K mg) : ∀ n, Cal CX0 P w K mg base (n + 2) "_law_tree_at" (sp3 (R_ltree K n))
  | 0 => cal_no D.d__law_tree_at (by rintro vs H Q E ⟨x, y, z, rfl, l, i, many, _, _, _, _, _, h, _⟩; omega)
  | n + 1 => by
    have c__law_tree_at := ok__law_tree_at T D n
    have c__law_number_at := ok__law_number_at (P := P) (w := w) (base := base) T D
    refine cal3 D.d__law_tree_at sc__law_tree_at fun f cdv A outer s H x y z Q E hr h => ?_
    obtain ⟨l, i, many, rfl, rfl, rfl, m23, hl, hpc, q0⟩ := h
    rw [Nat.add_sub_cancel] at q0
    have q1 : ∀ d e, ptree many l n i = some (d, e) → ∀ v H', Same H H' → Dp K H' v (.tuple [d, .int (e : Int)]) → Q v H' := fun d e z => q0 d e (by rw [z]; rfl)
    have q2 : ptree many l n i = none → ∀ H', Same H H' → ∀ p, H' p = none → Q (.ref p) (upd H' p (.tup [.non, .int (i : Int)])) := fun z H' s p hp => q0 .none i (by rw [z]; rfl) _ _ (s.trans (same_new hp _)) (dp_new2 hp .non (.int _))
    refine ⟨_, (pss_cons (ps_if (pt_cmpR op_ne (pe_slice sl_str (pv 0) (po_some (pv 1)) (po_some (pe_op op_add (pv 1) pe_int))) pe_str (nomark _)) (pss_cons (ps_set (i := 3) sc__law_tree_at.nd rfl (Or.inl rfl) (pe_c c__law_number_at hr (by omega) rfl (pa_cons (pv 0) (pa_cons (pv 1) pa_nil))))
    (pss_cons (ps_if (pt_cmpR op_eq (pv 3) (pv 1) (nomark _)) (pss_one (ps_ret (pe_tup (pa_cons pe_non (pa_cons (pv 1) pa_nil))))) pss_nil)
    (pss_one (ps_ret (pe_tup (pa_cons (pe_callTy (call_int_str) (by rfl) T.b_int (by decide +kernel) (pa_cons (pe_slice sl_str (pv 0) (po_some (pv 1)) (po_some (pv 3))) pa_nil)) (pa_cons (pv 3) pa_nil))))))) pss_nil)
    (pss_cons (ps_set (i := 4) sc__law_tree_at.nd rfl (Or.inl rfl) (pe_tup pa_nil))
    (pss_cons (ps_set (i := 5) sc__law_tree_at.nd rfl (Or.inl rfl) (pv 1))
    (pss_cons (ps_for PassesOwn.never rfl (pi_range1 (by rfl) T.b_range (pa_cons (pv 2) pa_nil)) (pg_name (i := 6) sc__law_tree_at.nd rfl (Or.inl rfl)) (pss_cons (ps_asg (pe_c c__law_tree_at hr (by omega) rfl (pa_cons (pv 0) (pa_cons (pe_op op_add (pv 5) pe_int) (pa_cons (pv 2) pa_nil)))) (pg_tup rfl (pgs_cons (pg_name (i := 7) sc__law_tree_at.nd rfl (Or.inl rfl)) (pgs_cons (pg_name (i := 3) sc__law_tree_at.nd rfl (Or.inl rfl)) pgs_nil))))
    (pss_cons (ps_if (PW.pt (pw_or (pt_cmpR op_ne (pe_slice sl_str (pv 0) (po_some (pv 5)) (po_some (pe_op op_add (pv 5) pe_int))) (pe_ix ix_str pe_str (pe_callTy (call_int1) (by rfl) T.b_int (by decide +kernel) (pa_cons (pe_cmpR op_gt (pv 6) pe_int (nomark _)) pa_nil)) (fun _ _ => rfl)) (nomark _)) (pw_or (pt_cmpR op_isN (pv 7) pe_non (nomark _)) (pw_or1 (PW.pt (pw_and (pt_cmpR op_eq (pv 6) pe_int (nomark _)) (pw_and (pt_cmpR op_eq (pv 2) pe_int (nomark _)) (pw_and1 (pt_val (pe_callB call_isD (by rfl) T.b_isinstance (by decide +kernel) (pa_cons (pv 7) (pa_cons (pe_bltn (v := .ty "tuple") (by rfl) T.b_tuple (by decide +kernel) rfl) pa_nil)))))))))))) (pss_one (ps_ret (pe_tup (pa_cons pe_non (pa_cons (pv 1) pa_nil))))) pss_nil)
    (pss_cons (ps_set (i := 4) sc__law_tree_at.nd rfl (Or.inl rfl) (pe_op op_catA (pv 4) (pe_tup (pa_cons (pv 7) pa_nil))))
    (pss_one (ps_set (i := 5) sc__law_tree_at.nd rfl (Or.inl rfl) (pv 3)))))))
    (pss_cons (ps_if (pt_cmpR op_ne (pe_slice sl_str (pv 0) (po_some (pv 5)) (po_some (pe_op op_add (pv 5) pe_int))) pe_str (nomark _)) (pss_one (ps_ret (pe_tup (pa_cons pe_non (pa_cons (pv 1) pa_nil))))) pss_nil)
    (pss_one (ps_ret (pe_tup (pa_cons (pv 4) (pa_cons (pe_op op_add (pv 5) pe_int) pa_nil)))))))))), ?_⟩
    have hsz : (sx l).length ≤ sizeLine := by rw [sx_len]; exact Nat.le_trans hl (by decide)
    have nx (j : Nat) : ((j : Nat) : Int) + 1 = ((j + 1 : Nat) : Int) := by omega
    refine ⟨_, rfl, _, rfl, _, rfl, _, rfl, _, _, rfl, rfl, _, rfl, _, rfl, hsz, ?_⟩
    rw [nx, cutS_mid, sign_at]
    have n1 : (!decide (V.str (sx (l[i]?).toList) = V.str "(")) = !decide (l[i]? = some 40) := by rw [sx_open, sign_is]
    by_cases c : l[i]? = some 40
    · have p1 := pc_open c
      obtain ⟨m, rfl⟩ : ∃ m, n = m + 1 := ⟨n - 1, by omega⟩
      have po := ptree_open (many := many) (n := m) c
      rw [po] at q1 q2
      refine ⟨rfl, _, rfl, iteFe (n1.trans (by rw [c]; rfl)) ?_⟩
      refine ⟨zero_le, fun pf hpf => ⟨_, rfl, ?_⟩⟩
      refine ⟨_, rfl, (many : Int), rfl, by omega, by omega, for_range (lo := 0) (n := ((many : Nat) : Int).toNat) (fun t σ H' => Same H H' ∧ ∃ (ds : List PyData) (h : Nat) (vs : List V) (p : Addr) (o3 o6 o7 : Option V), ploop (ptree many l m) many l i t = some (ds, h) ∧ SqT K H' p vs ∧ DpAll K H' vs ds ∧ vs.length = t ∧ i ≤ h ∧
          σ = [some (.str (sx l)), some (.int (i : Int)), some (.int (many : Int)), o3, some (.ref p), some (.int (h : Int)), o6, o7])
        ⟨same_new hpf _, [], i, [], pf, none, none, none, rfl, SqT.of upd_same, .nil, rfl, Nat.le_refl _, rfl⟩ ?_ ?_⟩
      · rintro t σ H' ht ⟨s', ds, h, vs, p, o3, o6, o7, ep, ef, da, vl, ih, rfl⟩
        have htm : t < many := by omega
        have dead : pstep (ptree many l m) many l t h = none → (match ploop (ptree many l m) many l i many with | none => none | some (ds, h) => if l[h]? ≠ some 41 then none else some (PyData.tuple ds, h + 1)) = none := fun z => by
          rw [ploop_none (ploop_stop ep z) (show t + 1 ≤ many by omega)]
        have later : pc (l.drop (h + 1)) < m + 1 := by
          have := pc_later (l := l) (show i + 1 ≤ h + 1 by omega)
          omega
        refine ⟨_, rfl, _, rfl, _, _, rfl, rfl, _, rfl, _, _, _, rfl, l, h + 1, many, rfl, congrArg V.int (nx h), rfl, m23, hl, later, fun d e hde v H2 s2 dv => ?_⟩
        rw [Nat.add_sub_cancel] at hde
        obtain ⟨a, y1, y2, rfl, hs, g1, g2⟩ := dp_tup2 dv
        obtain rfl := dp_int g2
        refine ⟨a, _, rfl, hs, rfl, _, _, rfl, _, _, rfl, rfl, ?_⟩
        have s3 := s'.trans s2
        refine ⟨_, rfl, _, rfl, _, rfl, _, rfl, _, _, rfl, rfl, _, rfl, _, rfl, hsz, ?_⟩
        rw [nx, cutS_mid, sign_at]
        refine ⟨_, rfl, _, _, rfl, rfl, .inr ⟨_, rfl, _, _, _, rfl, rfl, by decide +kernel, sgn_at t, ?_⟩⟩
        have n2 : (!decide (V.str (sx (l[h]?).toList) = V.str ⟨#[sgn t]⟩)) = !decide (l[h]? = some (sgn t)) := congrArg (!·) (sign_is l h (sgn t))
        by_cases cs : l[h]? = some (sgn t)
        · refine ⟨rfl, _, rfl, iteFe (n2.trans (by rw [cs]; simp)) ?_⟩
          cases er : ptree many l m (h + 1) with
          | none =>
            rw [er] at hde
            obtain ⟨rfl, rfl⟩ : PyData.none = d ∧ h + 1 = e := by simpa using hde
            obtain rfl := dp_non g1
            refine ⟨_, rfl, rfl, _, rfl, iteT ?_⟩
            refine ⟨_, rfl, two_le, fun p2 hp2 => q2 (dead ?_) _ s3 p2 hp2⟩
            rw [pstep, if_neg (fun z => z cs)]
            by_cases c3 : many = 3 ∧ t = 0
            · rw [if_pos c3]; exact first_none er
            · rw [if_neg c3]; exact er
          | some r =>
            obtain ⟨d', e'⟩ := r
            rw [er] at hde
            obtain ⟨rfl, rfl⟩ : d' = d ∧ e' = e := by simpa using hde
            have rd := ptree_rd _ _ er
            have lt := rd.lt
            refine ⟨_, rfl, rfl, _, rfl, iteFe (decide_eq_false (dp_nn g1 (ptree_some er))) ?_⟩
            have four : (t ≠ 0) ∨ (t = 0 ∧ many ≠ 3) ∨ (t = 0 ∧ many = 3 ∧ isTp d' = false) ∨ (t = 0 ∧ many = 3 ∧ isTp d' = true) := by
              by_cases z1 : t = 0
              · by_cases z2 : many = 3
                · cases z3 : isTp d' with
                  | false => exact .inr (.inr (.inl ⟨z1, z2, rfl⟩))
                  | true => exact .inr (.inr (.inr ⟨z1, z2, rfl⟩))
                · exact .inr (.inl ⟨z1, z2⟩)
              · exact .inl z1
            have es : (many = 3 ∧ t = 0 → isTp d' = false) → pstep (ptree many l m) many l t h = some (d', e') := fun z => by
              rw [pstep, if_neg (fun z => z cs)]
              by_cases c3 : many = 3 ∧ t = 0
              · rw [if_pos c3]; exact first_no er (z c3)
              · rw [if_neg c3]; exact er
            rcases four with z | z | z | z
            case' inr.inr.inr =>
              refine ⟨_, rfl, rfl, _, rfl, iteTe (decide_eq_true (by rw [z.1]; rfl)) ⟨_, rfl, rfl, _, rfl, iteTe (decide_eq_true (by rw [z.2.1]; rfl)) ⟨_, rfl, _, _, _, _, rfl, g1, kb_tp _, _, rfl, iteTe z.2.2 ?_⟩⟩⟩
              exact ⟨_, rfl, two_le, fun p2 hp2 => q2 (dead (by rw [pstep, if_neg (fun z => z cs), if_pos ⟨z.2.1, z.1⟩]; exact first_tp er z.2.2)) _ s3 p2 hp2⟩
            case' inl =>
              have es' := es fun y => absurd y.2 z
              refine ⟨_, rfl, rfl, _, rfl, iteFe (decide_eq_false fun y => z (by have := V.int.inj y; omega)) (iteF ?_)⟩
            case' inr.inl =>
              have es' := es fun y => absurd y.1 z.2
              refine ⟨_, rfl, rfl, _, rfl, iteTe (decide_eq_true (by rw [z.1]; rfl)) ⟨_, rfl, rfl, _, rfl, iteFe (decide_eq_false fun y => z.2 (by have := V.int.inj y; omega)) (iteF ?_)⟩⟩
            case' inr.inr.inl =>
              have es' := es fun y => z.2.2
              refine ⟨_, rfl, rfl, _, rfl, iteTe (decide_eq_true (by rw [z.1]; rfl)) ⟨_, rfl, rfl, _, rfl, iteTe (decide_eq_true (by rw [z.2.1]; rfl)) ⟨_, rfl, _, _, _, _, rfl, g1, kb_tp _, _, rfl, iteFe z.2.2 ?_⟩⟩⟩
            all_goals
              refine ⟨_, rfl, _, rfl, one_le, fun p2 hp2 => cata_go (Same.sqt (s2.trans (same_new hp2 _)) ef) (SqT.of upd_same) ?_ fun p3 H3 s4 e3 => ⟨_, rfl, ?_⟩⟩
              · rw [List.length_singleton]
                exact Nat.le_trans (show _ ≤ 4 by omega) (by decide)
              · have s5 := (same_new hp2 (.tup [y1])).trans s4
                exact ⟨s3.trans s5, ds ++ [d'], e', vs ++ [y1], p3, _, _, _, ploop_step ep es', e3, dpall_app (DpAll.same (s2.trans s5) _ _ da) (.cons (Dp.same s5 _ _ g1) .nil), by rw [List.length_append, List.length_singleton]; omega, by omega, rfl⟩
        · refine ⟨rfl, _, rfl, iteTe (n2.trans (by simp [cs])) ?_⟩
          exact ⟨_, rfl, two_le, fun p2 hp2 => q2 (dead (by rw [pstep, if_pos cs])) _ s3 p2 hp2⟩
      · rintro σ H' ⟨s', ds, h, vs, p, o3, o6, o7, ep, ef, da, vl, ih, rfl⟩
        rw [tree_len m23] at ep
        rw [ep] at q1 q2
        refine ⟨_, rfl, _, rfl, _, rfl, _, rfl, _, _, rfl, rfl, _, rfl, _, rfl, hsz, ?_⟩
        rw [nx, cutS_mid, sign_at]
        have n3 : (!decide (V.str (sx (l[h]?).toList) = V.str ")")) = !decide (l[h]? = some 41) := by rw [sx_close, sign_is]
        by_cases cc : l[h]? = some 41
        · refine ⟨rfl, _, rfl, iteFe (n3.trans (by rw [cc]; rfl)) ?_⟩
          refine ⟨_, rfl, _, rfl, _, _, rfl, rfl, two_le, fun p2 hp2 => ?_⟩
          have t2 := same_new hp2 (.tup [.ref p, .int ((h : Int) + 1)])
          refine q1 (.tuple ds) (h + 1) (by simp [cc]) _ _ (s'.trans t2) ?_
          rw [← nx]
          exact dp_new2 hp2 (.tup ef da) (.int _)
        · refine ⟨rfl, _, rfl, iteTe (n3.trans (by simp [cc])) ?_⟩
          exact ⟨_, rfl, two_le, fun p2 hp2 => q2 (by simp [cc]) H' s' p2 hp2⟩
    · refine ⟨rfl, _, rfl, iteTe (n1.trans (by simp [c])) ?_⟩
      rw [ptree_num c] at q1 q2
      refine ⟨_, rfl, _, rfl, _, _, rfl, l, i, rfl, rfl, hl, ?_⟩
      refine ⟨_, rfl, _, rfl, rfl, _, rfl, iteE (p := dn l i = 0) (decide_eq_decide.mpr ⟨fun z => by have := V.int.inj z; omega, fun z => by rw [z]; rfl⟩) (fun z => ?_) fun z => ?_⟩
      · exact ⟨_, rfl, two_le, fun p hp => q2 (by unfold pnum; rw [if_pos z]) H (Same.refl H) p hp⟩
      · have le := dn_le z
        refine ⟨_, rfl, _, rfl, _, rfl, _, rfl, _, rfl, _, rfl, hsz, ?_⟩
        rw [cutS_mid, show i + dn l i - i = dn l i by omega, dn_take]
        refine ⟨_, _, rfl, int_sx z (by omega), ?_, _, rfl, two_le, fun p hp => q1 _ _ (by unfold pnum; rw [if_neg z]) _ _ (same_new hp _) (dp_new2 hp (.int _) (.int _))⟩
        rw [sx_len]
        show dn l i ≤ 640
        omega
end

section
variable {P : Program} {w : World} {K : PySem.W.Frag} {mg : Str → Option Value} {base : Heap} {C_ClockError C_NoClock C_NoText C_NotApart : Addr}
def R_due (K : PySem.W.Frag) : V → Hp → VK → Prop := fun x H Q => ∃ l : List Nat, x = .str (sx l) ∧ l.length ≤ 400 ∧ pc l ≤ 58 ∧
  (∀ u t, Is l u t → ∀ v H', Same H H' → Dp K H' v (clockD u t) → Q v H') ∧ ((∀ u t, ¬ Is l u t) → ∀ H', Same H H' → Q .non H')
theorem ok__law_due (T : Txt K mg) (D : Defs K mg) : Cal CX0 P w K mg base 75 "_law_due" (sp1 (R_due K)) := by
  have c__law_tree_at := ok__law_tree_at (P := P) (w := w) (base := base) T D 59
  have c__law_is_clock := ok__law_is_clockD (P := P) (w := w) (base := base) T D
  have c__law_written := ok__law_written (P := P) (w := w) (base := base) T D
  refine cal1 D.d__law_due sc__law_due fun f cdv A outer s H x Q E hr h => ?_
  obtain ⟨l, rfl, hl, hp, q1, q2⟩ := h
  refine ⟨_, (pss_cons (ps_asg (pe_c c__law_tree_at hr (by omega) rfl (pa_cons (pv 0) (pa_cons pe_int (pa_cons pe_int pa_nil)))) (pg_tup rfl (pgs_cons (pg_name (i := 1) sc__law_due.nd rfl (Or.inl rfl)) (pgs_cons (pg_name (i := 2) sc__law_due.nd rfl (Or.inl rfl)) pgs_nil))))
    (pss_cons (ps_asg (pe_c c__law_tree_at hr (by omega) rfl (pa_cons (pv 0) (pa_cons (pe_op op_add (pv 2) pe_int) (pa_cons pe_int pa_nil)))) (pg_tup rfl (pgs_cons (pg_name (i := 3) sc__law_due.nd rfl (Or.inl rfl)) (pgs_cons (pg_name (i := 4) sc__law_due.nd rfl (Or.inl rfl)) pgs_nil))))
    (pss_cons (ps_if (PW.pt (pw_or (pt_cmpR op_isN (pv 1) pe_non (nomark _)) (pw_or (pt_cmpR op_isN (pv 3) pe_non (nomark _)) (pw_or (pt_not (pt_val (pe_c c__law_is_clock hr (by omega) rfl (pa_cons (pe_tup (pa_cons (pv 1) (pa_cons (pv 3) pa_nil))) pa_nil)))) (pw_or1 (pt_cmpR op_ne (pe_c c__law_written hr (by omega) rfl (pa_cons (pe_tup (pa_cons (pv 1) (pa_cons (pv 3) pa_nil))) pa_nil)) (pv 0) (nomark _))))))) (pss_one (ps_ret pe_non)) pss_nil)
    (pss_one (ps_ret (pe_tup (pa_cons (pv 1) (pa_cons (pv 3) pa_nil)))))))), ?_⟩
  have nx (j : Nat) : ((j : Nat) : Int) + 1 = ((j + 1 : Nat) : Int) := by omega
  have pd : pc (l.drop 0) < 59 := by rw [List.drop_zero]; omega
  refine ⟨_, rfl, _, _, _, rfl, l, 0, 2, rfl, rfl, rfl, .inl rfl, hl, pd, fun d e hde v H1 s1 dv => ?_⟩
  obtain ⟨a, y1, y2, rfl, hs, g1, g2⟩ := dp_tup2 dv
  obtain rfl := dp_int g2
  refine ⟨a, _, rfl, hs, rfl, _, _, rfl, _, _, rfl, rfl, ?_⟩
  have later : pc (l.drop (e + 1)) < 59 := by
    have := pc_drop l (e + 1)
    omega
  refine ⟨_, rfl, _, rfl, _, _, rfl, rfl, _, _, _, rfl, l, e + 1, 3, rfl, congrArg V.int (nx e), rfl, .inr rfl, hl, later, fun d2 e2 hde2 v2 H2 s2 dv2 => ?_⟩
  obtain ⟨a2, y3, y4, rfl, hs2, g3, g4⟩ := dp_tup2 dv2
  obtain rfl := dp_int g4
  refine ⟨a2, _, rfl, hs2, rfl, _, _, rfl, _, _, rfl, rfl, ?_⟩
  have s12 := s1.trans s2
  have g1' := Dp.same s2 _ _ g1
  cases hd : ptree 2 l 58 0 with
  | none =>
    have hde' : (ptree 2 l 58 0).getD (.none, 0) = (d, e) := hde
    rw [hd] at hde'
    obtain ⟨rfl, rfl⟩ : PyData.none = d ∧ 0 = e := by simpa using hde'
    obtain rfl := dp_non g1
    exact ⟨_, rfl, rfl, _, rfl, iteT (q2 (fun u t i => by have := (i.part hp).1; rw [hd] at this; cases this) _ s12)⟩
  | some r =>
    obtain ⟨d', e'⟩ := r
    have hde' : (ptree 2 l 58 0).getD (.none, 0) = (d, e) := hde
    rw [hd] at hde'
    obtain ⟨rfl, rfl⟩ : d' = d ∧ e' = e := by simpa using hde'
    have no2 : (∀ d2 e2, ptree 3 l 58 (e' + 1) = some (d2, e2) → ∀ (u : PT) (t : CT), Is l u t → d2 = t.d ∧ e2 = l.length ∧ d' = u.d) := fun d2 e2 hd2 u t i => by
      have z := i.part hp
      have z1 : d' = u.d ∧ e' = u.u.tx.length := by simpa using hd.symm.trans z.1
      rw [z1.2] at hd2
      have z2 : d2 = t.d ∧ e2 = l.length := by simpa using hd2.symm.trans z.2.2
      exact ⟨z2.1, z2.2, z1.1⟩
    refine ⟨_, rfl, rfl, _, rfl, iteFe (decide_eq_false (dp_nn g1 (ptree_some hd))) ?_⟩
    cases hd2 : ptree 3 l 58 (e' + 1) with
    | none =>
      have hde2' : (ptree 3 l 58 (e' + 1)).getD (.none, e' + 1) = (d2, e2) := hde2
      rw [hd2] at hde2'
      obtain ⟨rfl, rfl⟩ : PyData.none = d2 ∧ e' + 1 = e2 := by simpa using hde2'
      obtain rfl := dp_non g3
      refine ⟨_, rfl, rfl, _, rfl, iteT (q2 (fun u t i => ?_) _ s12)⟩
      have z := i.part hp
      have z1 : d' = u.d ∧ e' = u.u.tx.length := by simpa using hd.symm.trans z.1
      rw [z1.2] at hd2
      have := hd2.symm.trans z.2.2
      cases this
    | some r2 =>
      obtain ⟨d2', e2'⟩ := r2
      have hde2' : (ptree 3 l 58 (e' + 1)).getD (.none, e' + 1) = (d2, e2) := hde2
      rw [hd2] at hde2'
      obtain ⟨rfl, rfl⟩ : d2' = d2 ∧ e2' = e2 := by simpa using hde2'
      refine ⟨_, rfl, rfl, _, rfl, iteFe (decide_eq_false (dp_nn g3 (ptree_some hd2))) ?_⟩
      refine ⟨_, rfl, _, rfl, two_le, fun p hp0 => ?_⟩
      have t1 := same_new hp0 (.tup [y1, y3])
      have ce := dp_new2 hp0 g1' g3
      have s3 := s12.trans t1
      have r1 := (ptree_rd _ _ hd).depth
      have r2 := (ptree_rd _ _ hd2).depth
      refine ⟨_, rfl, .tuple [d', d2'], ce, ?_, by decide, fun H4 s4 => ⟨_, rfl, ?_⟩⟩
      · simp only [PyData.depth, PyData.depthAll]
        omega
      have s5 := s3.trans s4
      cases ic : isClock (.tuple [d', d2']) with
      | false =>
        refine iteT (q2 (fun u t i => ?_) _ s5)
        have z2 := no2 _ _ hd2 u t i
        have z3 := isClock_pl i.pu i.pt
        unfold clockD at z3
        rw [← z2.2.2, ← z2.1, ic] at z3
        cases z3
      | true =>
        refine iteF ?_
        obtain ⟨u, t, ec, pu, pt⟩ := isClock_true ic
        have ec2 : d' = u.d ∧ d2' = t.d := by unfold clockD at ec; simpa using ec
        obtain ⟨rfl, rfl⟩ := ec2
        have wr := wr_of hl hd hd2
        have g1s := Dp.same (t1.trans s4) _ _ g1'
        have g3s := Dp.same (t1.trans s4) _ _ g3
        refine ⟨_, rfl, _, rfl, two_le, fun p2 hp2 => ?_⟩
        have t2 := same_new hp2 (.tup [y1, y3])
        have ce2 := dp_new2 hp2 g1s g3s
        refine ⟨_, rfl, u.u, t.u, (by rw [PT.u_d, CT.u_d]; exact ce2), wr, fun H6 s6 => ?_⟩
        have s7 := s5.trans (t2.trans s6)
        refine ⟨_, rfl, rfl, _, rfl, iteE (p := wtx u.u t.u ≠ l) ?_ (fun z => ?_) fun z => ?_⟩
        · rw [Bool.eq_iff_iff]
          simp only [Bool.not_eq_true', decide_eq_false_iff_not, decide_eq_true_eq]
          exact not_congr ⟨fun y => sx_inj (V.str.inj y), fun y => by rw [y]⟩
        · refine q2 (fun u' t' i => z ?_) _ s7
          have z2 := no2 _ _ hd2 u' t' i
          have i2 := i.eq
          rw [← i2]
          have eu : u = u' := by
            have := congrArg toPT z2.2.2
            rw [toPT_d, toPT_d] at this
            exact Option.some.inj this
          have et : t = t' := by
            have := congrArg toCT z2.1
            rw [toCT_d, toCT_d] at this
            exact Option.some.inj this
          rw [eu, et]
        · refine ⟨_, rfl, _, rfl, two_le, fun p3 hp3 => ?_⟩
          have t3 := same_new hp3 (.tup [y1, y3])
          have m6 := t2.trans s6
          exact q1 u t ⟨pu, pt, Decidable.not_not.mp z⟩ _ _ (s7.trans t3) (dp_new2 hp3 (Dp.same m6 _ _ g1s) (Dp.same m6 _ _ g3s))
theorem ok__law_found (T : Txt K mg) (D : Defs K mg) (Er : Errs K mg C_ClockError C_NoClock C_NoText C_NotApart) (Fg : Figs mg) : Cal CX0 P w K mg base 81 "_law_found" (sp1 (R_due K)) := by
  have c_read := ok_read (P := P) (w := w) (base := base) T D Er Fg
  refine cal1 D.d__law_found sc__law_found fun f cdv A outer s H x Q E hr h => ?_
  obtain ⟨l, rfl, hl, hp, q1, q2⟩ := h
  refine ⟨_, (pss_cons (ps_try_as (i := 2) (Wout := fun _ _ _ _ => False) rfl rfl sc__law_found.nd rfl rfl ⟨rfl, by decide, Or.inl Er.o_NoText.g⟩ takes0 (fun W pn xe tk _ => (pss_one (ps_set (i := 1) sc__law_found.nd rfl (Or.inl rfl) (pe_cS c_read hr (by omega) rfl tk (pa_cons (pv 0) pa_nil))))) (fun a oe cls d pn hz hf => (pss_cons (ps_set (i := 3) sc__law_found.nd rfl (Or.inl rfl) (pe_and (pe_callB (call_isE2 hz hf) (by rfl) T.b_isinstance (by decide +kernel) (pa_cons (pv 2) (pa_cons (pe_glob (v := .ref C_ClockError) (by rfl) Er.o_ClockError.g rfl) pa_nil))) (pe_one (pe_callB (call_isE2 hz hf) (by rfl) T.b_isinstance (by decide +kernel) (pa_cons (pv 2) (pa_cons (pe_bltn (v := .ty "ValueError") (by rfl) T.b_ValueError (by decide +kernel) rfl) pa_nil))))))
    (pss_one (ps_ret (pe_ix (ix_listK (K := K) rfl) (pe_lst (pa_cons pe_int (pa_cons pe_non pa_nil))) (pe_callTy (call_int1) (by rfl) T.b_int (by decide +kernel) (pa_cons (pe_and (pv 3) (pe_and (pe_not (pe_callB (call_isE2 hz hf) (by rfl) T.b_isinstance (by decide +kernel) (pa_cons (pv 2) (pa_cons (pe_glob (v := .ref C_NoClock) (by rfl) Er.o_NoClock.g rfl) pa_nil)))) (pe_one (pe_not (pe_callB (call_isE2 hz hf) (by rfl) T.b_isinstance (by decide +kernel) (pa_cons (pv 2) (pa_cons (pe_glob (v := .ref C_NotApart) (by rfl) Er.o_NotApart.g rfl) pa_nil))))))) pa_nil)) (fun _ _ => rfl)))))))
    (pss_one (ps_ret (pe_ix ix_list (pe_lst (pa_cons (pv 1) (pa_cons pe_int pa_nil))) (pe_callTy (call_int1) (by rfl) T.b_int (by decide +kernel) (pa_cons (pe_cmpR op_isN (pv 1) pe_non (nomark _)) pa_nil)) (fun _ _ => rfl))))), ?_⟩
  refine ⟨_, rfl, _, rfl, l, rfl, hl, hp, fun u t i v H1 s1 dv => ?_, fun no H1 s1 => ⟨true, exm_self Er.o_NoText Er.r_NoText, fun _ a ha => ?_, fun z => nomatch z⟩⟩
  · obtain ⟨a, y1, y2, rfl, hs, g1, g2⟩ := dp_tup2 (d := u.d) (e := t.d) dv
    exact ⟨_, rfl, two_le, fun pl hpl => ⟨_, rfl, rfl, .inr ⟨_, rfl, _, _, _, _, rfl, rfl, SqL.of upd_same, rfl, q1 u t i _ _ (s1.trans (same_new hpl _)) (Dp.same (same_new hpl _) _ _ dv)⟩⟩⟩
  have z := q2 no
  refine ⟨_, rfl, C_NoText, .ref C_ClockError, .ref C_ClockError, true, Er.x_NoText, rfl, rfl, rfl, fun u h => h, kit_own Er.o_ClockError Er.r_NoText Er.s_ClockError, _, rfl, iteT ?_⟩
  refine ⟨_, rfl, C_NoText, .ty "ValueError", .type "ValueError", true, Er.x_NoText, rfl, rfl, rfl, fun u h => h, kit_VE Er.s_V, ?_⟩
  refine ⟨two_le, fun l hl => ⟨_, rfl, _, rfl, iteT ?_⟩⟩
  refine ⟨_, rfl, C_NoText, .ref C_NoClock, .ref C_NoClock, false, Er.x_NoText, rfl, rfl, rfl, fun u h => h, kit_own Er.o_NoClock Er.r_NoText Er.s_NoClock, _, rfl, _, rfl, iteT ?_⟩
  refine ⟨_, rfl, C_NoText, .ref C_NotApart, .ref C_NotApart, false, Er.x_NoText, rfl, rfl, rfl, fun u h => h, kit_own Er.o_NotApart Er.r_NoText Er.s_NotApart, _, rfl, .inr ⟨_, rfl, _, _, _, _, rfl, rfl, SqL.of upd_same, rfl, z _ (s1.trans (same_new hl _))⟩⟩
end

section
variable {P : Program} {w : World} {K : PySem.W.Frag} {mg : Str → Option Value} {base : Heap}
def R_changed (K : PySem.W.Frag) : V → V → Hp → VK → Prop := fun x y H Q => ∃ (l : List Nat) (i : Int), x = .str (sx l) ∧ y = .int i ∧ l.length ≤ 390 ∧ ∀ (l' : List Nat) (H' : Hp), l'.length ≤ l.length + 7 → pc l' ≤ pc l + 5 → Same H H' → Q (.str (sx l')) H'
theorem sx_1 (c : Nat) : (⟨#[c]⟩ : Str) = sx [c] := rfl
theorem ok__law_changed (T : Txt K mg) (D : Defs K mg) : Cal CX0 P w K mg base 1 "_law_changed" (sp2 (R_changed K)) := by
  refine cal2 D.d__law_changed sc__law_changed fun f cdv A outer s H x y Q E hr h => ?_
  obtain ⟨l, i, rfl, rfl, hl, q⟩ := h
  refine ⟨_, (pss_cons (ps_set (i := 2) sc__law_changed.nd rfl (Or.inl rfl) (pe_op op_mod (pe_op op_fdiv (pv 1) pe_int) (pe_op op_add (pe_callB call_len_str (by rfl) T.b_len PySem.boot_len (pa_cons (pv 0) pa_nil)) pe_int)))
    (pss_cons (ps_set (i := 3) sc__law_changed.nd rfl (Or.inl rfl) (pe_op op_mod (pv 1) pe_int))
    (pss_cons (ps_if (pt_cmpR op_eq (pv 3) pe_int (nomark _)) (pss_one (ps_ret (pe_op op_add_str (pe_slice sl_str (pv 0) po_none (po_some (pv 2))) (pe_slice sl_str (pv 0) (po_some (pe_op op_add (pv 2) pe_int)) po_none)))) pss_nil)
    (pss_cons (ps_if (pt_cmpR op_lt (pv 3) pe_int (nomark _)) (pss_cons (ps_set (i := 4) sc__law_changed.nd rfl (Or.inl rfl) (pe_ix ix_str pe_str (pe_op op_mod (pe_op op_fdiv (pv 1) pe_int) pe_int) (fun _ _ => rfl)))
    (pss_one (ps_ret (pe_op op_add_str (pe_op op_add_str (pe_slice sl_str (pv 0) po_none (po_some (pv 2))) (pv 4)) (pe_slice sl_str (pv 0) (po_some (pe_op op_add (pv 2) (pe_op op_mod (pv 3) pe_int))) po_none))))) pss_nil)
    (pss_cons (ps_set (i := 5) sc__law_changed.nd rfl (Or.inl rfl) (pe_op op_add (pe_op op_add (pv 2) pe_int) (pe_op op_mod (pe_op op_fdiv (pv 1) pe_int) pe_int)))
    (pss_cons (ps_if (pt_cmpR op_eq (pv 3) pe_int (nomark _)) (pss_one (ps_ret (pe_op op_add_str (pe_slice sl_str (pv 0) po_none (po_some (pv 5))) (pe_slice sl_str (pv 0) (po_some (pv 2)) po_none)))) pss_nil)
    (pss_cons (ps_if (pt_cmpR op_eq (pv 3) pe_int (nomark _)) (pss_one (ps_ret (pe_op op_add_str (pe_slice sl_str (pv 0) po_none (po_some (pv 2))) (pe_slice sl_str (pv 0) (po_some (pv 5)) po_none)))) pss_nil)
    (pss_cons (ps_set (i := 6) sc__law_changed.nd rfl (Or.inl rfl) (pe_lst (pa_cons pe_str (pa_cons pe_str (pa_cons pe_str (pa_cons pe_str (pa_cons pe_str (pa_cons pe_str (pa_cons pe_str (pa_cons pe_str pa_nil))))))))))
    (pss_one (ps_ret (pe_op op_add_str (pe_op op_add_str (pe_slice sl_str (pv 0) po_none (po_some (pv 2))) (pe_ix ix_list (pv 6) (pe_op op_mod (pe_op op_fdiv (pv 1) pe_int) pe_int) (fun _ _ => rfl))) (pe_slice sl_str (pv 0) (po_some (pe_op op_add (pv 2) pe_int)) po_none)))))))))))), ?_⟩
  have hsz : (sx l).length ≤ sizeLine := by rw [sx_len]; exact Nat.le_trans hl (by decide)
  have nx (j : Nat) : ((j : Nat) : Int) + 1 = ((j + 1 : Nat) : Int) := by omega
  obtain ⟨p, ep, hp⟩ : ∃ p : Nat, i / 8 % (((sx l).length : Nat) + 1 : Int) = (p : Int) ∧ p ≤ l.length := by
    have h1 := Int.emod_nonneg (i / 8) (show (((sx l).length : Nat) + 1 : Int) ≠ 0 by omega)
    have h2 := Int.emod_lt_of_pos (i / 8) (show (0 : Int) < (((sx l).length : Nat) + 1 : Int) by omega)
    rw [sx_len] at h1 h2 ⊢
    exact ⟨(i / 8 % ((l.length : Nat) + 1 : Int)).toNat, by omega, by omega⟩
  obtain ⟨sg, hsg⟩ : ∃ c, atI ("(),,01 1(0)2-_ \n\t" : Str).cps.toList (i / 7 % 17) = some c := by
    obtain ⟨c, hc⟩ := signs_at (k := (i / 7 % 17).toNat) (by omega)
    refine ⟨c, ?_⟩
    rw [signs_eq, ← hc]
    congr 1
    omega
  obtain ⟨m, hm, ml, mp⟩ : ∃ m : List Nat, atI [V.str "00", V.str "(0,0)", V.str "(1,1)", V.str "10", V.str "(0,0,0)", V.str "(1,0,2)", V.str "(0,1)", V.str "0 0"] (i / 800 % 8) = some (V.str (sx m)) ∧ m.length ≤ 7 ∧ pc m ≤ 1 := by
    obtain ⟨m, hm, h1⟩ := some_at (k := (i / 800 % 8).toNat) (by omega)
    refine ⟨m, ?_, h1⟩
    rw [some_eq, ← hm]
    congr 1
    omega
  have fits (z : List Nat) (h : z.length ≤ 1000) : (sx z).length ≤ sizeLine := by rw [sx_len]; exact Nat.le_trans h (by decide)
  have fits2 (a b : List Nat) (ha : a.length ≤ 500) (hb : b.length ≤ 500) : (sx a).length + (sx b).length ≤ sizeLine := by rw [sx_len, sx_len]; exact Nat.le_trans (show _ ≤ 1000 by omega) (by decide)
  have tk (b : Nat) : (l.take b).length ≤ 390 := by rw [List.length_take]; omega
  have dr (b : Nat) : (l.drop b).length ≤ 390 := by rw [List.length_drop]; omega
  refine ⟨_, rfl, _, _, rfl, rfl, ⟨by decide, by decide⟩, _, rfl, _, rfl, hsz, _, _, rfl, rfl, _, _, rfl, rfl, (by omega), ?_⟩
  rw [show ((fun i j : Int => V.int (i % j)) (i / 8) (((sx l).length : Nat) + 1 : Int)) = V.int (p : Int) from congrArg V.int ep]
  refine ⟨_, rfl, _, _, rfl, rfl, (by show (0 : Int) < 8; decide), ?_⟩
  refine ⟨_, rfl, rfl, _, rfl, iteE rfl (fun c => ?_) fun c => ?_⟩
  · refine ⟨_, rfl, _, rfl, _, rfl, _, rfl, hsz, ?_⟩
    rw [cutS_to]
    refine ⟨_, rfl, _, rfl, _, _, rfl, rfl, _, rfl, ?_⟩
    dsimp only [tNoPart]
    refine ⟨_, rfl, hsz, ?_⟩
    rw [nx, cutS_from]
    refine ⟨_, _, rfl, rfl, fits2 _ _ (by have := tk p; omega) (by have := dr (p + 1); omega), ?_⟩
    rw [sx_app]
    have z := chg_cut l [] (show p ≤ p + 1 by omega)
    rw [List.append_nil] at z
    exact q _ H (by have := z.1; rw [List.length_nil] at this; omega) (by have := z.2; simp only [pc, List.count_nil] at this ⊢; omega) (Same.refl H)
  refine ⟨_, rfl, _, _, rfl, rfl, _, rfl, iteE rfl (fun c => ?_) fun c => ?_⟩
  · refine ⟨_, rfl, _, _, rfl, rfl, ⟨by decide, by decide⟩, _, _, rfl, rfl, (by show (0 : Int) < 17; decide), _, _, sg, rfl, rfl, (by decide +kernel), hsg, ?_⟩
    obtain ⟨k2, e2⟩ : ∃ k2 : Nat, i % 8 % 2 = (k2 : Int) := ⟨(i % 8 % 2).toNat, by omega⟩
    refine ⟨_, rfl, _, rfl, _, rfl, _, rfl, hsz, ?_⟩
    rw [cutS_to]
    refine ⟨_, rfl, _, _, rfl, rfl, fits2 _ [sg] (by have := tk p; omega) (by simp), _, rfl, _, rfl, _, rfl, _, _, rfl, rfl, (by show (0 : Int) < 2; decide), _, _, rfl, rfl, _, rfl, ?_⟩
    dsimp only [tNoPart]
    refine ⟨_, rfl, hsz, ?_⟩
    rw [e2, show (p : Int) + (k2 : Int) = ((p + k2 : Nat) : Int) by omega, cutS_from, sx_1, sx_app]
    refine ⟨_, _, rfl, rfl, fits2 _ _ (by have := tk p; rw [List.length_append, List.length_singleton]; omega) (by have := dr (p + k2); omega), ?_⟩
    rw [sx_app]
    have z := chg_cut l [sg] (show p ≤ p + k2 by omega)
    have z1 := pc_le [sg]
    rw [List.length_singleton] at z z1
    exact q _ H (by omega) (by omega) (Same.refl H)
  obtain ⟨k5, e5⟩ : ∃ k5 : Nat, i / 800 % 5 = (k5 : Int) := ⟨(i / 800 % 5).toNat, by omega⟩
  have k54 : k5 ≤ 4 := by omega
  refine ⟨_, rfl, _, _, rfl, rfl, _, rfl, _, _, rfl, rfl, ⟨by decide, by decide⟩, _, _, rfl, rfl, (by show (0 : Int) < 5; decide), _, _, rfl, rfl, ?_⟩
  rw [show ((fun i j : Int => V.int (i + j)) ((p : Int) + 1) (i / 800 % 5)) = V.int ((p + (1 + k5) : Nat) : Int) from congrArg V.int (by omega)]
  refine ⟨_, rfl, rfl, _, rfl, iteE rfl (fun c => ?_) fun c => ?_⟩
  · refine ⟨_, rfl, _, rfl, _, rfl, _, rfl, hsz, ?_⟩
    rw [cutS_to]
    refine ⟨_, rfl, _, rfl, _, rfl, ?_⟩
    dsimp only [tNoPart]
    refine ⟨_, rfl, hsz, ?_⟩
    rw [cutS_from]
    refine ⟨_, _, rfl, rfl, fits2 _ _ (by have := tk (p + (1 + k5)); omega) (by have := dr p; omega), ?_⟩
    rw [sx_app]
    have z := chg_more l p (1 + k5) (by omega)
    exact q _ H (by omega) (by omega) (Same.refl H)
  refine ⟨_, rfl, rfl, _, rfl, iteE rfl (fun c => ?_) fun c => ?_⟩
  · refine ⟨_, rfl, _, rfl, _, rfl, _, rfl, hsz, ?_⟩
    rw [cutS_to]
    refine ⟨_, rfl, _, rfl, _, rfl, ?_⟩
    dsimp only [tNoPart]
    refine ⟨_, rfl, hsz, ?_⟩
    rw [cutS_from]
    refine ⟨_, _, rfl, rfl, fits2 _ _ (by have := tk p; omega) (by have := dr (p + (1 + k5)); omega), ?_⟩
    rw [sx_app]
    have z := chg_cut l [] (show p ≤ p + (1 + k5) by omega)
    rw [List.append_nil] at z
    exact q _ H (by have := z.1; rw [List.length_nil] at this; omega) (by have := z.2; simp only [pc, List.count_nil] at this ⊢; omega) (Same.refl H)
  refine ⟨(by decide), fun pl hpl => ?_⟩
  refine ⟨_, rfl, _, rfl, _, rfl, _, rfl, hsz, ?_⟩
  rw [cutS_to]
  refine ⟨_, rfl, _, rfl, _, _, rfl, rfl, ⟨by decide, by decide⟩, _, _, rfl, rfl, (by show (0 : Int) < 8; decide), _, _, _, _, rfl, rfl, SqL.of upd_same, hm, ?_⟩
  refine ⟨_, _, rfl, rfl, fits2 _ _ (by have := tk p; omega) (by omega), _, rfl, _, rfl, _, _, rfl, rfl, _, rfl, ?_⟩
  dsimp only [tNoPart]
  refine ⟨_, rfl, hsz, ?_⟩
  rw [nx, cutS_from, sx_app]
  refine ⟨_, _, rfl, rfl, fits2 _ _ (by have := tk p; rw [List.length_append]; omega) (by have := dr (p + 1); omega), ?_⟩
  rw [sx_app]
  have z := chg_cut l m (show p ≤ p + 1 by omega)
  exact q _ _ (by omega) (by omega) (same_new hpl _)
end

def spLaw (K : PySem.W.Frag) : Sp := fun vs H Q _ => ∃ (a : Addr) (ns : List Int), vs = [.ref a] ∧ SqL K H a (ns.map V.int) ∧ ns.length ≤ 63 ∧ ∀ H', Q (.bl true) H'
theorem clock_eqv (u : PT) (t : CT) : PyData.eqv (clockD u t) (clockD u t) = true := by
  simp [clockD, PyData.eqv, PyData.eqvAll, PT.eqv_d, CT.eqv_d]
theorem Is.deep {l : List Nat} {u : PT} {t : CT} (i : Is l u t) (b : pc l ≤ 58) : (clockD u t).depth < 60 ∧ SeqAt.shaped (clockD u t) = true := by
  have z := i.part b
  have r1 := ptree_rd _ _ z.1
  have r2 := ptree_rd _ _ z.2.2
  have d1 := r1.depth
  have d2 := r2.depth
  have dd : (clockD u t).depth < 60 := by
    simp only [clockD, PyData.depth, PyData.depthAll]
    omega
  refine ⟨dd, ?_⟩
  unfold SeqAt.shaped
  have e : (clockD u t).canLay0 = true := by simp [clockD, PyData.canLay0, PyData.canLayAll0, r1.lay, r2.lay]
  rw [e, Bool.true_and]
  exact decide_eq_true (by omega)
section
variable {P : Program} {w : World} {K : PySem.W.Frag} {mg : Str → Option Value} {base : Heap} {C_ClockError C_NoClock C_NoText C_NotApart : Addr}
theorem ok_law (T : Txt K mg) (D : Defs K mg) (Er : Errs K mg C_ClockError C_NoClock C_NoText C_NotApart) (Fg : Figs mg) {fa : Addr} {fd : FuncData} (F : L2.Fun K "law" "law" st_law fa fd) : FnOk P w K mg base CX0 200 fa fd ["_law_script"] (spLaw K) := by
  have c__law_mixed := ok__law_mixed (P := P) (w := w) (base := base) T D
  have c__law_clock := ok__law_clock (P := P) (w := w) (base := base) T D
  have c__law_any_part := ok__law_any_part (P := P) (w := w) (base := base) T D 10
  have c__law_any_count := ok__law_any_count (P := P) (w := w) (base := base) T D 10
  have c__law_drawn := ok__law_drawn (P := P) (w := w) (base := base) T D
  have c__law_changed := ok__law_changed (P := P) (w := w) (base := base) T D
  have c__law_written := ok__law_written (P := P) (w := w) (base := base) T D
  have c__law_found := ok__law_found (P := P) (w := w) (base := base) T D Er Fg
  have c__law_due := ok__law_due (P := P) (w := w) (base := base) T D
  have c__law_is_clock := ok__law_is_clockD (P := P) (w := w) (base := base) T D
  refine F.ok sc_law (fun vs H Q E h => by obtain ⟨a, ns, rfl, _⟩ := h; rfl) fun cdv A outer s H vs Q E hr h => ?_
  obtain ⟨a, ns, rfl, hS, h63, q⟩ := h
  refine ⟨_, (pss_cons (ps_set (i := 1) sc_law.nd rfl (Or.inl rfl) (pe_c c__law_mixed hr (by omega) rfl (pa_cons (pv 0) (pa_cons pe_int pa_nil))))
    (pss_cons (ps_set (i := 2) sc_law.nd rfl (Or.inl rfl) (pe_c c__law_clock hr (by omega) rfl (pa_cons (pe_c c__law_mixed hr (by omega) rfl (pa_cons (pv 0) (pa_cons pe_int pa_nil))) (pa_cons pe_int pa_nil))))
    (C8.pss_cut (ps_if (pt_cmpR op_eq (pe_op op_mod (pe_op op_fdiv (pv 1) pe_int) pe_int) pe_int (nomark _)) (pss_one (ps_set (i := 2) sc_law.nd rfl (Or.inl rfl) (pe_tup (pa_cons (pe_c c__law_any_part hr (by omega) rfl (pa_cons (pe_c c__law_mixed hr (by omega) rfl (pa_cons (pv 0) (pa_cons pe_int pa_nil))) (pa_cons pe_int pa_nil))) (pa_cons (pe_c c__law_any_count hr (by omega) rfl (pa_cons (pe_c c__law_mixed hr (by omega) rfl (pa_cons (pv 0) (pa_cons pe_int pa_nil))) (pa_cons pe_int pa_nil))) pa_nil))))) pss_nil)
    (pss_cons (ps_set (i := 3) sc_law.nd rfl (Or.inl rfl) (pe_c c__law_written hr (by omega) rfl (pa_cons (pv 2) pa_nil)))
    (pss_cons (ps_for PassesOwn.never rfl (pi_range1 (by rfl) T.b_range (pa_cons (pe_op op_mul (pe_op op_mod (pv 1) pe_int) (pe_op op_add pe_int (pe_op op_mod (pe_op op_fdiv (pv 1) pe_int) pe_int))) pa_nil)) (pg_name (i := 4) sc_law.nd rfl (Or.inl rfl)) (pss_one (ps_set (i := 3) sc_law.nd rfl (Or.inl rfl) (pe_c c__law_changed hr (by omega) rfl (pa_cons (pv 3) (pa_cons (pe_c c__law_drawn hr (by omega) rfl (pa_cons (pv 1) (pa_cons (pv 4) pa_nil))) pa_nil))))))
    (pss_cons (ps_set (i := 5) sc_law.nd rfl (Or.inl rfl) (pe_c c__law_found hr (by omega) rfl (pa_cons (pv 3) pa_nil)))
    (pss_one (ps_ret (pe_and (pe_cmpR (op_eqD hr.units) (pv 5) (pe_c c__law_due hr (by omega) rfl (pa_cons (pv 3) pa_nil)) (nomark _)) (pe_one (pe_or (pe_cmpR op_isN (pv 5) pe_non (nomark _)) (pe_one (pe_c c__law_is_clock hr (by omega) rfl (pa_cons (pv 5) pa_nil)))))))))))))), ?_⟩
  refine ⟨_, rfl, _, _, rfl, a, ns, 1, rfl, rfl, by decide, hS, fun nu _ _ => ?_⟩
  refine ⟨_, rfl, _, _, rfl, a, ns, 0, rfl, rfl, by decide, hS, fun m0 _ _ => ⟨_, _, rfl, m0, rfl, rfl, fun vc H1 u t pu pt du dt bt s1 e1 => ?_⟩⟩
  refine ⟨fun σ H' => Same H H' ∧ ∃ (v : V) (u t : UT), Dp K H' v (.tuple [u.d, t.d]) ∧ Lil u ∧ Lil t ∧ u.dep ≤ 4 ∧ t.dep ≤ 4 ∧ σ = [some (.ref a), some (.int nu), some v, none, none, none], ?_, ?_⟩
  · refine ⟨_, rfl, _, _, rfl, rfl, ⟨by decide, by decide⟩, _, _, rfl, rfl, (by show (0 : Int) < 5; decide), rfl, _, rfl, iteE rfl (fun _ => ?_) fun _ => ?_⟩
    · refine ⟨_, rfl, _, _, rfl, a, ns, 2, rfl, rfl, by decide, s1.seq hS, fun m2 _ _ => ?_⟩
      refine ⟨_, _, rfl, m2, 2, rfl, rfl, by decide, fun u2 v2 H2 o2 d2 s2 e2 => ?_⟩
      refine ⟨_, rfl, _, _, rfl, a, ns, 3, rfl, rfl, by decide, (s1.trans s2).seq hS, fun m3 _ _ => ?_⟩
      refine ⟨_, _, rfl, m3, 2, rfl, rfl, by decide, fun t3 v3 H3 o3 b3 d3 s3 e3 => ?_⟩
      refine ⟨two_le, fun p hp => ⟨s1.trans (s2.trans (s3.trans (same_new hp _))), _, u2.u, t3.u, ?_, PT.lil o2, CT.lil (by decide) o3 b3, by rw [PT.u_dep]; omega, by rw [CT.u_dep]; omega, rfl⟩⟩
      rw [PT.u_d, CT.u_d]
      exact dp_new2 hp (Dp.same s3 _ _ e2) e3
    · refine ⟨s1, vc, u.u, t.u, ?_, PT.lil (PT.pl_ok pu), CT.lil (by decide) (CT.pl_nn pt) bt, by rw [PT.u_dep]; omega, by rw [CT.u_dep]; omega, rfl⟩
      rw [PT.u_d, CT.u_d]
      exact e1
  rintro σ H2 ⟨s2, v, u, t, ed, lu, lt, du, dt, rfl⟩
  obtain ⟨wr, wl, wp⟩ := lil_wr lu lt du dt
  refine ⟨_, rfl, _, rfl, u, t, ed, wr, fun H3 s3 => ?_⟩
  have cnt : 0 ≤ nu % 3 * (1 + nu / 15 % 2) ∧ nu % 3 * (1 + nu / 15 % 2) ≤ 4 := by
    have h3 : nu % 3 = 0 ∨ nu % 3 = 1 ∨ nu % 3 = 2 := by omega
    rcases h3 with h3 | h3 | h3 <;> rw [h3] <;> omega
  refine ⟨_, rfl, _, _, rfl, rfl, (by show (0 : Int) < 3; decide), _, rfl, _, _, rfl, rfl, ⟨by decide, by decide⟩, _, _, rfl, rfl, (by show (0 : Int) < 2; decide), _, _, rfl, rfl, _, _, rfl, rfl, .inl ⟨by omega, by omega⟩, ?_⟩
  refine ⟨nu % 3 * (1 + nu / 15 % 2), rfl, by omega, by omega, for_range (lo := 0) (n := (nu % 3 * (1 + nu / 15 % 2)).toNat) (fun t σ H' => Same H H' ∧ ∃ (l : List Nat) (v2 : V) (o4 : Option V), l.length ≤ 310 + 7 * t ∧ pc l ≤ 30 + 5 * t ∧ σ = [some (.ref a), some (.int nu), some v2, some (.str (sx l)), o4, none])
    ⟨s2.trans s3, wtx u t, v, none, by omega, by omega, rfl⟩ ?_ ?_⟩
  · rintro t σ H' ht ⟨s', l, v2, o4, hl, hp, rfl⟩
    refine ⟨_, rfl, _, rfl, _, rfl, _, _, rfl, nu, 0 + (t : Int), rfl, rfl, fun m _ _ => ?_⟩
    exact ⟨_, _, rfl, l, m, rfl, rfl, by omega, fun l' H'' b1 b2 s5 => ⟨s'.trans s5, l', v2, _, by omega, by omega, rfl⟩⟩
  · rintro σ H' ⟨s', l, v2, o4, hl, hp, rfl⟩
    have hl4 : l.length ≤ 400 := by omega
    have hp4 : pc l ≤ 58 := by omega
    by_cases ex : ∃ u t, Is l u t
    · obtain ⟨u, t, i⟩ := ex
      refine ⟨_, rfl, _, rfl, l, rfl, hl4, hp4, fun u2 t2 i2 v4 H4 s4 e4 => ?_, fun no => absurd i (no u t)⟩
      rw [← i.uniq i2 hp4] at e4
      have dp := i.deep hp4
      refine ⟨_, rfl, _, rfl, _, rfl, l, rfl, hl4, hp4, fun u5 t5 i5 v5 H5 s5 e5 => ?_, fun no => absurd i (no u t)⟩
      rw [← i.uniq i5 hp4] at e5
      have e45 := Dp.same s5 _ _ e4
      refine ⟨_, _, e45, e5, dp.2, dp.2, ?_⟩
      rw [clock_eqv]
      refine ⟨true, rfl, iteT ⟨_, rfl, rfl, _, rfl, iteFe (decide_eq_false (dp_nn e45 fun z => by unfold clockD at z; cases z)) ?_⟩⟩
      refine ⟨_, rfl, _, rfl, clockD u t, e45, dp.1, by decide, fun H6 s6 => ?_⟩
      rw [isClock_pl i.pu i.pt]
      exact q _
    · refine ⟨_, rfl, _, rfl, l, rfl, hl4, hp4, fun u2 t2 i2 => absurd ⟨u2, t2, i2⟩ ex, fun _ H4 s4 => ?_⟩
      refine ⟨_, rfl, _, rfl, _, rfl, l, rfl, hl4, hp4, fun u2 t2 i2 => absurd ⟨u2, t2, i2⟩ ex, fun _ H5 s5 => ?_⟩
      refine ⟨.none, .none, .non, .non, by decide +kernel, by decide +kernel, ?_⟩
      rw [show PyData.eqv .none .none = true by simp [PyData.eqv]]
      exact ⟨true, rfl, iteT ⟨_, rfl, rfl, _, rfl, iteT (q _)⟩⟩
end

theorem all_mk {l : PySem.W.OpenLaw} {w : World} {K : PySem.W.Frag} {h : Heap} {mg : Str → Option Value} {fa : Addr} (X : K.In h) (G : h.Ns mainGlobals mg) (hfa : mg "law" = some (.ref fa))
    {f0 : Addr} {od0 an0 : Option Addr} {sl0 : Array (Option Value)} {oc0 kV0 dc0 pm0 cd0 ct0 : Value}
    {f1 : Addr} {od1 an1 : Option Addr} {sl1 : Array (Option Value)} {oc1 kV1 dc1 pm1 cd1 ct1 : Value}
    {f2 : Addr} {od2 an2 : Option Addr} {sl2 : Array (Option Value)} {oc2 kV2 dc2 pm2 cd2 ct2 : Value}
    {f3 : Addr} {od3 an3 : Option Addr} {sl3 : Array (Option Value)} {oc3 kV3 dc3 pm3 cd3 ct3 : Value}
    {f4 : Addr} {od4 an4 : Option Addr} {sl4 : Array (Option Value)} {oc4 kV4 dc4 pm4 cd4 ct4 : Value}
    {f5 : Addr} {od5 an5 : Option Addr} {sl5 : Array (Option Value)} {oc5 kV5 dc5 pm5 cd5 ct5 : Value}
    {f6 : Addr} {od6 an6 : Option Addr} {sl6 : Array (Option Value)} {oc6 kV6 dc6 pm6 cd6 ct6 : Value}
    {f7 : Addr} {od7 an7 : Option Addr} {sl7 : Array (Option Value)} {oc7 kV7 dc7 pm7 cd7 ct7 : Value}
    {f8 : Addr} {od8 an8 : Option Addr} {sl8 : Array (Option Value)} {oc8 kV8 dc8 pm8 cd8 ct8 : Value}
    {f9 : Addr} {od9 an9 : Option Addr} {sl9 : Array (Option Value)} {oc9 kV9 dc9 pm9 cd9 ct9 : Value}
    {f10 : Addr} {od10 an10 : Option Addr} {sl10 : Array (Option Value)} {oc10 kV10 dc10 pm10 cd10 ct10 : Value}
    {f11 : Addr} {od11 an11 : Option Addr} {sl11 : Array (Option Value)} {oc11 kV11 dc11 pm11 cd11 ct11 : Value}
    {f12 : Addr} {od12 an12 : Option Addr} {sl12 : Array (Option Value)} {oc12 kV12 dc12 pm12 cd12 ct12 : Value}
    {f13 : Addr} {od13 an13 : Option Addr} {sl13 : Array (Option Value)} {oc13 kV13 dc13 pm13 cd13 ct13 : Value}
    {f14 : Addr} {od14 an14 : Option Addr} {sl14 : Array (Option Value)} {oc14 kV14 dc14 pm14 cd14 ct14 : Value}
    {f15 : Addr} {od15 an15 : Option Addr} {sl15 : Array (Option Value)} {oc15 kV15 dc15 pm15 cd15 ct15 : Value}
    {f16 : Addr} {od16 an16 : Option Addr} {sl16 : Array (Option Value)} {oc16 kV16 dc16 pm16 cd16 ct16 : Value}
    {f17 : Addr} {od17 an17 : Option Addr} {sl17 : Array (Option Value)} {oc17 kV17 dc17 pm17 cd17 ct17 : Value}
    {f18 : Addr} {od18 an18 : Option Addr} {sl18 : Array (Option Value)} {oc18 kV18 dc18 pm18 cd18 ct18 : Value}
    {f19 : Addr} {od19 an19 : Option Addr} {sl19 : Array (Option Value)} {oc19 kV19 dc19 pm19 cd19 ct19 : Value}
    {f20 : Addr} {od20 an20 : Option Addr} {sl20 : Array (Option Value)} {oc20 kV20 dc20 pm20 cd20 ct20 : Value}
    {f21 : Addr} {od21 an21 : Option Addr} {sl21 : Array (Option Value)} {oc21 kV21 dc21 pm21 cd21 ct21 : Value}
    {f22 : Addr} {od22 an22 : Option Addr} {sl22 : Array (Option Value)} {oc22 kV22 dc22 pm22 cd22 ct22 : Value}
    {f23 : Addr} {od23 an23 : Option Addr} {sl23 : Array (Option Value)} {oc23 kV23 dc23 pm23 cd23 ct23 : Value}
    {f24 : Addr} {od24 an24 : Option Addr} {sl24 : Array (Option Value)} {oc24 kV24 dc24 pm24 cd24 ct24 : Value}
    {f25 : Addr} {od25 an25 : Option Addr} {sl25 : Array (Option Value)} {oc25 kV25 dc25 pm25 cd25 ct25 : Value}
    {f26 : Addr} {od26 an26 : Option Addr} {sl26 : Array (Option Value)} {oc26 kV26 dc26 pm26 cd26 ct26 : Value}
    {f27 : Addr} {od27 an27 : Option Addr} {sl27 : Array (Option Value)} {oc27 kV27 dc27 pm27 cd27 ct27 : Value}
    {f28 : Addr} {od28 an28 : Option Addr} {sl28 : Array (Option Value)} {oc28 kV28 dc28 pm28 cd28 ct28 : Value}
    {f29 : Addr} {od29 an29 : Option Addr} {sl29 : Array (Option Value)} {oc29 kV29 dc29 pm29 cd29 ct29 : Value}
    {f30 : Addr} {od30 an30 : Option Addr} {sl30 : Array (Option Value)} {oc30 kV30 dc30 pm30 cd30 ct30 : Value}
    (a0 : PySem.W.nsIn K mainGlobals "is_number" = some (some (.ref f0))) (l0 : K.lookup f0 = some ⟨oc0, od0, .func (PySem.W.fnOf "is_number" "is_number" (defArgs st_is_number) (defBody st_is_number) (defScope st_is_number) .none kV0 dc0 pm0 an0 cd0 ct0), sl0⟩) (c0 : PySem.W.codeIn K cd0 "is_number" = true) (k0 : PySem.W.keepIn K (.ref f0) = true)
    (a1 : PySem.W.nsIn K mainGlobals "is_part" = some (some (.ref f1))) (l1 : K.lookup f1 = some ⟨oc1, od1, .func (PySem.W.fnOf "is_part" "is_part" (defArgs st_is_part) (defBody st_is_part) (defScope st_is_part) .none kV1 dc1 pm1 an1 cd1 ct1), sl1⟩) (c1 : PySem.W.codeIn K cd1 "is_part" = true) (k1 : PySem.W.keepIn K (.ref f1) = true)
    (a2 : PySem.W.nsIn K mainGlobals "front" = some (some (.ref f2))) (l2 : K.lookup f2 = some ⟨oc2, od2, .func (PySem.W.fnOf "front" "front" (defArgs st_front) (defBody st_front) (defScope st_front) .none kV2 dc2 pm2 an2 cd2 ct2), sl2⟩) (c2 : PySem.W.codeIn K cd2 "front" = true) (k2 : PySem.W.keepIn K (.ref f2) = true)
    (a3 : PySem.W.nsIn K mainGlobals "is_count" = some (some (.ref f3))) (l3 : K.lookup f3 = some ⟨oc3, od3, .func (PySem.W.fnOf "is_count" "is_count" (defArgs st_is_count) (defBody st_is_count) (defScope st_is_count) .none kV3 dc3 pm3 an3 cd3 ct3), sl3⟩) (c3 : PySem.W.codeIn K cd3 "is_count" = true) (k3 : PySem.W.keepIn K (.ref f3) = true)
    (a4 : PySem.W.nsIn K mainGlobals "is_clock" = some (some (.ref f4))) (l4 : K.lookup f4 = some ⟨oc4, od4, .func (PySem.W.fnOf "is_clock" "is_clock" (defArgs st_is_clock) (defBody st_is_clock) (defScope st_is_clock) .none kV4 dc4 pm4 an4 cd4 ct4), sl4⟩) (c4 : PySem.W.codeIn K cd4 "is_clock" = true) (k4 : PySem.W.keepIn K (.ref f4) = true)
    (a5 : PySem.W.nsIn K mainGlobals "tree_text" = some (some (.ref f5))) (l5 : K.lookup f5 = some ⟨oc5, od5, .func (PySem.W.fnOf "tree_text" "tree_text" (defArgs st_tree_text) (defBody st_tree_text) (defScope st_tree_text) .none kV5 dc5 pm5 an5 cd5 ct5), sl5⟩) (c5 : PySem.W.codeIn K cd5 "tree_text" = true) (k5 : PySem.W.keepIn K (.ref f5) = true)
    (a6 : PySem.W.nsIn K mainGlobals "number_at" = some (some (.ref f6))) (l6 : K.lookup f6 = some ⟨oc6, od6, .func (PySem.W.fnOf "number_at" "number_at" (defArgs st_number_at) (defBody st_number_at) (defScope st_number_at) .none kV6 dc6 pm6 an6 cd6 ct6), sl6⟩) (c6 : PySem.W.codeIn K cd6 "number_at" = true) (k6 : PySem.W.keepIn K (.ref f6) = true)
    (a7 : PySem.W.nsIn K mainGlobals "tree_at" = some (some (.ref f7))) (l7 : K.lookup f7 = some ⟨oc7, od7, .func (PySem.W.fnOf "tree_at" "tree_at" (defArgs st_tree_at) (defBody st_tree_at) (defScope st_tree_at) .none kV7 dc7 pm7 an7 cd7 ct7), sl7⟩) (c7 : PySem.W.codeIn K cd7 "tree_at" = true) (k7 : PySem.W.keepIn K (.ref f7) = true)
    (a8 : PySem.W.nsIn K mainGlobals "read" = some (some (.ref f8))) (l8 : K.lookup f8 = some ⟨oc8, od8, .func (PySem.W.fnOf "read" "read" (defArgs st_read) (defBody st_read) (defScope st_read) .none kV8 dc8 pm8 an8 cd8 ct8), sl8⟩) (c8 : PySem.W.codeIn K cd8 "read" = true) (k8 : PySem.W.keepIn K (.ref f8) = true)
    (a9 : PySem.W.nsIn K mainGlobals "_law_cell_at" = some (some (.ref f9))) (l9 : K.lookup f9 = some ⟨oc9, od9, .func (PySem.W.fnOf "_law_cell_at" "_law_cell_at" (defArgs st__law_cell_at) (defBody st__law_cell_at) (defScope st__law_cell_at) .none kV9 dc9 pm9 an9 cd9 ct9), sl9⟩) (c9 : PySem.W.codeIn K cd9 "_law_cell_at" = true) (k9 : PySem.W.keepIn K (.ref f9) = true)
    (a10 : PySem.W.nsIn K mainGlobals "_law_mixed" = some (some (.ref f10))) (l10 : K.lookup f10 = some ⟨oc10, od10, .func (PySem.W.fnOf "_law_mixed" "_law_mixed" (defArgs st__law_mixed) (defBody st__law_mixed) (defScope st__law_mixed) .none kV10 dc10 pm10 an10 cd10 ct10), sl10⟩) (c10 : PySem.W.codeIn K cd10 "_law_mixed" = true) (k10 : PySem.W.keepIn K (.ref f10) = true)
    (a11 : PySem.W.nsIn K mainGlobals "_law_drawn" = some (some (.ref f11))) (l11 : K.lookup f11 = some ⟨oc11, od11, .func (PySem.W.fnOf "_law_drawn" "_law_drawn" (defArgs st__law_drawn) (defBody st__law_drawn) (defScope st__law_drawn) .none kV11 dc11 pm11 an11 cd11 ct11), sl11⟩) (c11 : PySem.W.codeIn K cd11 "_law_drawn" = true) (k11 : PySem.W.keepIn K (.ref f11) = true)
    (a12 : PySem.W.nsIn K mainGlobals "_law_any_part" = some (some (.ref f12))) (l12 : K.lookup f12 = some ⟨oc12, od12, .func (PySem.W.fnOf "_law_any_part" "_law_any_part" (defArgs st__law_any_part) (defBody st__law_any_part) (defScope st__law_any_part) .none kV12 dc12 pm12 an12 cd12 ct12), sl12⟩) (c12 : PySem.W.codeIn K cd12 "_law_any_part" = true) (k12 : PySem.W.keepIn K (.ref f12) = true)
    (a13 : PySem.W.nsIn K mainGlobals "_law_any_count" = some (some (.ref f13))) (l13 : K.lookup f13 = some ⟨oc13, od13, .func (PySem.W.fnOf "_law_any_count" "_law_any_count" (defArgs st__law_any_count) (defBody st__law_any_count) (defScope st__law_any_count) .none kV13 dc13 pm13 an13 cd13 ct13), sl13⟩) (c13 : PySem.W.codeIn K cd13 "_law_any_count" = true) (k13 : PySem.W.keepIn K (.ref f13) = true)
    (a14 : PySem.W.nsIn K mainGlobals "_law_plain_part" = some (some (.ref f14))) (l14 : K.lookup f14 = some ⟨oc14, od14, .func (PySem.W.fnOf "_law_plain_part" "_law_plain_part" (defArgs st__law_plain_part) (defBody st__law_plain_part) (defScope st__law_plain_part) .none kV14 dc14 pm14 an14 cd14 ct14), sl14⟩) (c14 : PySem.W.codeIn K cd14 "_law_plain_part" = true) (k14 : PySem.W.keepIn K (.ref f14) = true)
    (a15 : PySem.W.nsIn K mainGlobals "_law_more" = some (some (.ref f15))) (l15 : K.lookup f15 = some ⟨oc15, od15, .func (PySem.W.fnOf "_law_more" "_law_more" (defArgs st__law_more) (defBody st__law_more) (defScope st__law_more) .none kV15 dc15 pm15 an15 cd15 ct15), sl15⟩) (c15 : PySem.W.codeIn K cd15 "_law_more" = true) (k15 : PySem.W.keepIn K (.ref f15) = true)
    (a16 : PySem.W.nsIn K mainGlobals "_law_front" = some (some (.ref f16))) (l16 : K.lookup f16 = some ⟨oc16, od16, .func (PySem.W.fnOf "_law_front" "_law_front" (defArgs st__law_front) (defBody st__law_front) (defScope st__law_front) .none kV16 dc16 pm16 an16 cd16 ct16), sl16⟩) (c16 : PySem.W.codeIn K cd16 "_law_front" = true) (k16 : PySem.W.keepIn K (.ref f16) = true)
    (a17 : PySem.W.nsIn K mainGlobals "_law_plain_count" = some (some (.ref f17))) (l17 : K.lookup f17 = some ⟨oc17, od17, .func (PySem.W.fnOf "_law_plain_count" "_law_plain_count" (defArgs st__law_plain_count) (defBody st__law_plain_count) (defScope st__law_plain_count) .none kV17 dc17 pm17 an17 cd17 ct17), sl17⟩) (c17 : PySem.W.codeIn K cd17 "_law_plain_count" = true) (k17 : PySem.W.keepIn K (.ref f17) = true)
    (a18 : PySem.W.nsIn K mainGlobals "_law_whole" = some (some (.ref f18))) (l18 : K.lookup f18 = some ⟨oc18, od18, .func (PySem.W.fnOf "_law_whole" "_law_whole" (defArgs st__law_whole) (defBody st__law_whole) (defScope st__law_whole) .none kV18 dc18 pm18 an18 cd18 ct18), sl18⟩) (c18 : PySem.W.codeIn K cd18 "_law_whole" = true) (k18 : PySem.W.keepIn K (.ref f18) = true)
    (a19 : PySem.W.nsIn K mainGlobals "_law_is_part" = some (some (.ref f19))) (l19 : K.lookup f19 = some ⟨oc19, od19, .func (PySem.W.fnOf "_law_is_part" "_law_is_part" (defArgs st__law_is_part) (defBody st__law_is_part) (defScope st__law_is_part) .none kV19 dc19 pm19 an19 cd19 ct19), sl19⟩) (c19 : PySem.W.codeIn K cd19 "_law_is_part" = true) (k19 : PySem.W.keepIn K (.ref f19) = true)
    (a20 : PySem.W.nsIn K mainGlobals "_law_is_count" = some (some (.ref f20))) (l20 : K.lookup f20 = some ⟨oc20, od20, .func (PySem.W.fnOf "_law_is_count" "_law_is_count" (defArgs st__law_is_count) (defBody st__law_is_count) (defScope st__law_is_count) .none kV20 dc20 pm20 an20 cd20 ct20), sl20⟩) (c20 : PySem.W.codeIn K cd20 "_law_is_count" = true) (k20 : PySem.W.keepIn K (.ref f20) = true)
    (a21 : PySem.W.nsIn K mainGlobals "_law_is_clock" = some (some (.ref f21))) (l21 : K.lookup f21 = some ⟨oc21, od21, .func (PySem.W.fnOf "_law_is_clock" "_law_is_clock" (defArgs st__law_is_clock) (defBody st__law_is_clock) (defScope st__law_is_clock) .none kV21 dc21 pm21 an21 cd21 ct21), sl21⟩) (c21 : PySem.W.codeIn K cd21 "_law_is_clock" = true) (k21 : PySem.W.keepIn K (.ref f21) = true)
    (a22 : PySem.W.nsIn K mainGlobals "_law_clock" = some (some (.ref f22))) (l22 : K.lookup f22 = some ⟨oc22, od22, .func (PySem.W.fnOf "_law_clock" "_law_clock" (defArgs st__law_clock) (defBody st__law_clock) (defScope st__law_clock) .none kV22 dc22 pm22 an22 cd22 ct22), sl22⟩) (c22 : PySem.W.codeIn K cd22 "_law_clock" = true) (k22 : PySem.W.keepIn K (.ref f22) = true)
    (a23 : PySem.W.nsIn K mainGlobals "_law_tree_text" = some (some (.ref f23))) (l23 : K.lookup f23 = some ⟨oc23, od23, .func (PySem.W.fnOf "_law_tree_text" "_law_tree_text" (defArgs st__law_tree_text) (defBody st__law_tree_text) (defScope st__law_tree_text) .none kV23 dc23 pm23 an23 cd23 ct23), sl23⟩) (c23 : PySem.W.codeIn K cd23 "_law_tree_text" = true) (k23 : PySem.W.keepIn K (.ref f23) = true)
    (a24 : PySem.W.nsIn K mainGlobals "_law_written" = some (some (.ref f24))) (l24 : K.lookup f24 = some ⟨oc24, od24, .func (PySem.W.fnOf "_law_written" "_law_written" (defArgs st__law_written) (defBody st__law_written) (defScope st__law_written) .none kV24 dc24 pm24 an24 cd24 ct24), sl24⟩) (c24 : PySem.W.codeIn K cd24 "_law_written" = true) (k24 : PySem.W.keepIn K (.ref f24) = true)
    (a25 : PySem.W.nsIn K mainGlobals "_law_changed" = some (some (.ref f25))) (l25 : K.lookup f25 = some ⟨oc25, od25, .func (PySem.W.fnOf "_law_changed" "_law_changed" (defArgs st__law_changed) (defBody st__law_changed) (defScope st__law_changed) .none kV25 dc25 pm25 an25 cd25 ct25), sl25⟩) (c25 : PySem.W.codeIn K cd25 "_law_changed" = true) (k25 : PySem.W.keepIn K (.ref f25) = true)
    (a26 : PySem.W.nsIn K mainGlobals "_law_number_at" = some (some (.ref f26))) (l26 : K.lookup f26 = some ⟨oc26, od26, .func (PySem.W.fnOf "_law_number_at" "_law_number_at" (defArgs st__law_number_at) (defBody st__law_number_at) (defScope st__law_number_at) .none kV26 dc26 pm26 an26 cd26 ct26), sl26⟩) (c26 : PySem.W.codeIn K cd26 "_law_number_at" = true) (k26 : PySem.W.keepIn K (.ref f26) = true)
    (a27 : PySem.W.nsIn K mainGlobals "_law_tree_at" = some (some (.ref f27))) (l27 : K.lookup f27 = some ⟨oc27, od27, .func (PySem.W.fnOf "_law_tree_at" "_law_tree_at" (defArgs st__law_tree_at) (defBody st__law_tree_at) (defScope st__law_tree_at) .none kV27 dc27 pm27 an27 cd27 ct27), sl27⟩) (c27 : PySem.W.codeIn K cd27 "_law_tree_at" = true) (k27 : PySem.W.keepIn K (.ref f27) = true)
    (a28 : PySem.W.nsIn K mainGlobals "_law_due" = some (some (.ref f28))) (l28 : K.lookup f28 = some ⟨oc28, od28, .func (PySem.W.fnOf "_law_due" "_law_due" (defArgs st__law_due) (defBody st__law_due) (defScope st__law_due) .none kV28 dc28 pm28 an28 cd28 ct28), sl28⟩) (c28 : PySem.W.codeIn K cd28 "_law_due" = true) (k28 : PySem.W.keepIn K (.ref f28) = true)
    (a29 : PySem.W.nsIn K mainGlobals "_law_found" = some (some (.ref f29))) (l29 : K.lookup f29 = some ⟨oc29, od29, .func (PySem.W.fnOf "_law_found" "_law_found" (defArgs st__law_found) (defBody st__law_found) (defScope st__law_found) .none kV29 dc29 pm29 an29 cd29 ct29), sl29⟩) (c29 : PySem.W.codeIn K cd29 "_law_found" = true) (k29 : PySem.W.keepIn K (.ref f29) = true)
    (a30 : PySem.W.nsIn K mainGlobals "law" = some (some (.ref f30))) (l30 : K.lookup f30 = some ⟨oc30, od30, .func (PySem.W.fnOf "law" "law" (defArgs st_law) (defBody st_law) (defScope st_law) .none kV30 dc30 pm30 an30 cd30 ct30), sl30⟩) (c30 : PySem.W.codeIn K cd30 "law" = true) (k30 : PySem.W.keepIn K (.ref f30) = true)
    (z_isinstance : PySem.W.nsIn K mainGlobals "isinstance" = some none)
    (z_int : PySem.W.nsIn K mainGlobals "int" = some none)
    (z_bool : PySem.W.nsIn K mainGlobals "bool" = some none)
    (z_str : PySem.W.nsIn K mainGlobals "str" = some none)
    (z_tuple : PySem.W.nsIn K mainGlobals "tuple" = some none)
    (z_list : PySem.W.nsIn K mainGlobals "list" = some none)
    (z_set : PySem.W.nsIn K mainGlobals "set" = some none)
    (z_len : PySem.W.nsIn K mainGlobals "len" = some none)
    (z_min : PySem.W.nsIn K mainGlobals "min" = some none)
    (z_max : PySem.W.nsIn K mainGlobals "max" = some none)
    (z_sum : PySem.W.nsIn K mainGlobals "sum" = some none)
    (z_sorted : PySem.W.nsIn K mainGlobals "sorted" = some none)
    (z_range : PySem.W.nsIn K mainGlobals "range" = some none)
    (z_enumerate : PySem.W.nsIn K mainGlobals "enumerate" = some none)
    (z_ValueError : PySem.W.nsIn K mainGlobals "ValueError" = some none)
    {tF : Tok} (zF : PySem.W.nsIn K mainGlobals "FIGURES" = some (some (.str "0123456789" tF)))
    {C_ClockError C_NoClock C_NoText C_NotApart : Addr}
    (eg_ClockError : PySem.W.nsIn K mainGlobals "ClockError" = some (some (.ref C_ClockError)))
    (ek_ClockError : PySem.W.keepIn K (.ref C_ClockError) = true)
    (et_ClockError : PySem.W.typeIn K (.ref C_ClockError) = some (.type "type"))
    (ei_ClockError : PySem.W.isClsIn K C_ClockError = true)
    (eg_NoClock : PySem.W.nsIn K mainGlobals "NoClock" = some (some (.ref C_NoClock)))
    (ek_NoClock : PySem.W.keepIn K (.ref C_NoClock) = true)
    (et_NoClock : PySem.W.typeIn K (.ref C_NoClock) = some (.type "type"))
    (ei_NoClock : PySem.W.isClsIn K C_NoClock = true)
    (eg_NoText : PySem.W.nsIn K mainGlobals "NoText" = some (some (.ref C_NoText)))
    (ek_NoText : PySem.W.keepIn K (.ref C_NoText) = true)
    (et_NoText : PySem.W.typeIn K (.ref C_NoText) = some (.type "type"))
    (ei_NoText : PySem.W.isClsIn K C_NoText = true)
    (eg_NotApart : PySem.W.nsIn K mainGlobals "NotApart" = some (some (.ref C_NotApart)))
    (ek_NotApart : PySem.W.keepIn K (.ref C_NotApart) = true)
    (et_NotApart : PySem.W.typeIn K (.ref C_NotApart) = some (.type "type"))
    (ei_NotApart : PySem.W.isClsIn K C_NotApart = true)
    (exx : PySem.W.excIn K C_NoText [.type "ValueError", .type "Exception", .type "BaseException", .type "object"] "ValueError.__new__" = true)
    (exb : PySem.W.subIn K (.ref C_NoText) (.type "BaseException") = some true)
    (exs : PySem.W.subIn K (.ref C_NoText) (.ref C_NoText) = some true)
    (exg : PySem.W.findIn K (.ref C_NoText) "__getattribute__" = some (some (.builtin "BaseException.__getattribute__")))
    (exk : PySem.W.findIn K (.ref C_NoText) "__getattr__" = some none)
    (exd : PySem.W.hasDictIn K C_NoText = true)
    (exa : PySem.W.findIn K (.ref C_NoText) "__class__" = some (some (.builtin "object.__class__")))
    (exn : PySem.W.specialIn K (.builtin "object.__class__") "__get__" = some (some (.builtin "getset_descriptor.__get__")))
    (ext : PySem.W.takesIn K (.builtin "object.__class__") = some true)
    (exm : PySem.W.mroIn K C_NoText (.type "object") = some true)
    (es_ClockError : PySem.W.subIn K (.ref C_NoText) (.ref C_ClockError) = some true)
    (es_NoClock : PySem.W.subIn K (.ref C_NoText) (.ref C_NoClock) = some false)
    (es_NotApart : PySem.W.subIn K (.ref C_NoText) (.ref C_NotApart) = some false)
    (eb_CE : PySem.W.subIn K (.ref C_ClockError) (.type "BaseException") = some true)
    (es_V : PySem.W.subIn K (.ref C_NoText) (.type "ValueError") = some true)
    : ∃ fd : FuncData, (∀ (s : Shared) (v : Value), BindsTo s fd ⟨[v], []⟩ [("_law_script", v)]) ∧ ∀ base : Heap, K.In base → base.Ns mainGlobals mg → FnOk l.prog w K mg base CX0 200 fa fd ["_law_script"] (spLaw K) := by
  have e := hfa.symm.trans (PySem.W.mg_of X G a30)
  cases e
  have T : Txt K mg := ⟨PySem.W.mg_none_of X G z_isinstance, PySem.W.mg_none_of X G z_int, PySem.W.mg_none_of X G z_bool, PySem.W.mg_none_of X G z_str, PySem.W.mg_none_of X G z_tuple, PySem.W.mg_none_of X G z_list, PySem.W.mg_none_of X G z_set, PySem.W.mg_none_of X G z_len, PySem.W.mg_none_of X G z_min, PySem.W.mg_none_of X G z_max, PySem.W.mg_none_of X G z_sum, PySem.W.mg_none_of X G z_sorted, PySem.W.mg_none_of X G z_range, PySem.W.mg_none_of X G z_enumerate, PySem.W.mg_none_of X G z_ValueError⟩
  have D : Defs K mg := ⟨df_mk X G a0 l0 c0 k0 (fun _ _ _ _ _ _ us hl => match us, hl with | [_], _ => rfl),
    df_mk X G a1 l1 c1 k1 (fun _ _ _ _ _ _ us hl => match us, hl with | [_], _ => rfl),
    df_mk X G a2 l2 c2 k2 (fun _ _ _ _ _ _ us hl => match us, hl with | [_], _ => rfl),
    df_mk X G a3 l3 c3 k3 (fun _ _ _ _ _ _ us hl => match us, hl with | [_], _ => rfl),
    df_mk X G a4 l4 c4 k4 (fun _ _ _ _ _ _ us hl => match us, hl with | [_], _ => rfl),
    df_mk X G a5 l5 c5 k5 (fun _ _ _ _ _ _ us hl => match us, hl with | [_], _ => rfl),
    df_mk X G a6 l6 c6 k6 (fun _ _ _ _ _ _ us hl => match us, hl with | [_, _], _ => rfl),
    df_mk X G a7 l7 c7 k7 (fun _ _ _ _ _ _ us hl => match us, hl with | [_, _, _], _ => rfl),
    df_mk X G a8 l8 c8 k8 (fun _ _ _ _ _ _ us hl => match us, hl with | [_], _ => rfl),
    df_mk X G a9 l9 c9 k9 (fun _ _ _ _ _ _ us hl => match us, hl with | [_, _], _ => rfl),
    df_mk X G a10 l10 c10 k10 (fun _ _ _ _ _ _ us hl => match us, hl with | [_, _], _ => rfl),
    df_mk X G a11 l11 c11 k11 (fun _ _ _ _ _ _ us hl => match us, hl with | [_, _], _ => rfl),
    df_mk X G a12 l12 c12 k12 (fun _ _ _ _ _ _ us hl => match us, hl with | [_, _], _ => rfl),
    df_mk X G a13 l13 c13 k13 (fun _ _ _ _ _ _ us hl => match us, hl with | [_, _], _ => rfl),
    df_mk X G a14 l14 c14 k14 (fun _ _ _ _ _ _ us hl => match us, hl with | [_], _ => rfl),
    df_mk X G a15 l15 c15 k15 (fun _ _ _ _ _ _ us hl => match us, hl with | [_, _], _ => rfl),
    df_mk X G a16 l16 c16 k16 (fun _ _ _ _ _ _ us hl => match us, hl with | [_], _ => rfl),
    df_mk X G a17 l17 c17 k17 (fun _ _ _ _ _ _ us hl => match us, hl with | [_], _ => rfl),
    df_mk X G a18 l18 c18 k18 (fun _ _ _ _ _ _ us hl => match us, hl with | [_], _ => rfl),
    df_mk X G a19 l19 c19 k19 (fun _ _ _ _ _ _ us hl => match us, hl with | [_], _ => rfl),
    df_mk X G a20 l20 c20 k20 (fun _ _ _ _ _ _ us hl => match us, hl with | [_], _ => rfl),
    df_mk X G a21 l21 c21 k21 (fun _ _ _ _ _ _ us hl => match us, hl with | [_], _ => rfl),
    df_mk X G a22 l22 c22 k22 (fun _ _ _ _ _ _ us hl => match us, hl with | [_, _], _ => rfl),
    df_mk X G a23 l23 c23 k23 (fun _ _ _ _ _ _ us hl => match us, hl with | [_], _ => rfl),
    df_mk X G a24 l24 c24 k24 (fun _ _ _ _ _ _ us hl => match us, hl with | [_], _ => rfl),
    df_mk X G a25 l25 c25 k25 (fun _ _ _ _ _ _ us hl => match us, hl with | [_, _], _ => rfl),
    df_mk X G a26 l26 c26 k26 (fun _ _ _ _ _ _ us hl => match us, hl with | [_, _], _ => rfl),
    df_mk X G a27 l27 c27 k27 (fun _ _ _ _ _ _ us hl => match us, hl with | [_, _, _], _ => rfl),
    df_mk X G a28 l28 c28 k28 (fun _ _ _ _ _ _ us hl => match us, hl with | [_], _ => rfl),
    df_mk X G a29 l29 c29 k29 (fun _ _ _ _ _ _ us hl => match us, hl with | [_], _ => rfl)⟩
  have Er : Errs K mg C_ClockError C_NoClock C_NoText C_NotApart := ⟨⟨PySem.W.mg_of X G eg_ClockError, ek_ClockError, et_ClockError, ei_ClockError⟩, ⟨PySem.W.mg_of X G eg_NoClock, ek_NoClock, et_NoClock, ei_NoClock⟩, ⟨PySem.W.mg_of X G eg_NoText, ek_NoText, et_NoText, ei_NoText⟩, ⟨PySem.W.mg_of X G eg_NotApart, ek_NotApart, et_NotApart, ei_NotApart⟩, ⟨exx, exb, exs⟩, ⟨exg, exk, exb, exd, exa, exn, ext, exm⟩, es_ClockError, es_NoClock, es_NotApart, eb_CE, es_V⟩
  have Fg : Figs mg := ⟨⟨_, PySem.W.mg_of X G zF⟩⟩
  have F := L2.fun_mk (st := st_law) l30 c30 k30
  exact ⟨PySem.W.fnOf "law" "law" (defArgs st_law) (defBody st_law) (defScope st_law) .none kV30 dc30 pm30 an30 cd30 ct30, fun s v => .of_eq rfl, fun base _ _ => ok_law T D Er Fg F⟩
theorem walk {l : PySem.W.OpenLaw} {q : Program} {loose : List Str} {XP : (Str → Option Value) → Heap → Prop} {YP : World → Heap → Prop} {d : DefRec} {K : Params → PySem.W.Frag} (hn : l.most = some 63) (hdf : d.params.defaults = [])
    (hY : ∀ (w : World) (h : Heap), YP w h → (K w.params).In h)
    (F : ∀ (w : World) (mg : Str → Option Value) (fa : Addr) (h : Heap), (K w.params).In h → h.Ns mainGlobals mg → mg d.name = some (.ref fa) →
      ∃ fd : FuncData, (∀ (s : Shared) (u : Value), BindsTo s fd ⟨[u], []⟩ [("_law_script", u)]) ∧ ∀ base : Heap, (K w.params).In base → base.Ns mainGlobals mg → FnOk l.prog w (K w.params) mg base CX0 200 fa fd ["_law_script"] (spLaw (K w.params))) :
    PySem.W.WalkO q loose XP YP l.row.toRowW d [] (fun f vs => PySem.call f vs) :=
  L2.walk_of (n := 63) (k := 200) (x := "_law_script") (CX := fun _ => CX0) (sp := fun w => spLaw (K w.params)) hn (by decide) hdf ⟨rfl, by decide, by decide⟩ hY F (fun _ _ a ns hl _ hS => ⟨a, ns, rfl, hS, hl, fun _ => rfl⟩) fun _ _ _ _ _ z => z
end TC
open PySem PySem.W PyProof.Rows
set_option maxRecDepth 100000 in
set_option maxHeartbeats 0 in
theorem PySem.Challenge.cw_treeclock_k03_whole_read_holds : PySem.Challenge.rw_treeclock_k03_whole_read.Holds := by
  w_on; o_law; k_head; (case hw => w_witness2)
  k_fill
  refine TC.walk (l := PySem.Challenge.rw_treeclock_k03_whole_read) rfl rfl (fun w h Y => PySem.W.kIn_of Y) ?F
  case F =>
    intro w mg fa h KX G hmg
    refine' TC.all_mk KX G hmg ?a0 ?l0 ?c0 ?k0 ?a1 ?l1 ?c1 ?k1 ?a2 ?l2 ?c2 ?k2 ?a3 ?l3 ?c3 ?k3 ?a4 ?l4 ?c4 ?k4 ?a5 ?l5 ?c5 ?k5 ?a6 ?l6 ?c6 ?k6 ?a7 ?l7 ?c7 ?k7 ?a8 ?l8 ?c8 ?k8 ?a9 ?l9 ?c9 ?k9 ?a10 ?l10 ?c10 ?k10 ?a11 ?l11 ?c11 ?k11 ?a12 ?l12 ?c12 ?k12 ?a13 ?l13 ?c13 ?k13 ?a14 ?l14 ?c14 ?k14 ?a15 ?l15 ?c15 ?k15 ?a16 ?l16 ?c16 ?k16 ?a17 ?l17 ?c17 ?k17 ?a18 ?l18 ?c18 ?k18 ?a19 ?l19 ?c19 ?k19 ?a20 ?l20 ?c20 ?k20 ?a21 ?l21 ?c21 ?k21 ?a22 ?l22 ?c22 ?k22 ?a23 ?l23 ?c23 ?k23 ?a24 ?l24 ?c24 ?k24 ?a25 ?l25 ?c25 ?k25 ?a26 ?l26 ?c26 ?k26 ?a27 ?l27 ?c27 ?k27 ?a28 ?l28 ?c28 ?k28 ?a29 ?l29 ?c29 ?k29 ?a30 ?l30 ?c30 ?k30 ?z_isinstance ?z_int ?z_bool ?z_str ?z_tuple ?z_list ?z_set ?z_len ?z_min ?z_max ?z_sum ?z_sorted ?z_range ?z_enumerate ?z_ValueError ?zF ?eg_ClockError ?ek_ClockError ?et_ClockError ?ei_ClockError ?eg_NoClock ?ek_NoClock ?et_NoClock ?ei_NoClock ?eg_NoText ?ek_NoText ?et_NoText ?ei_NoText ?eg_NotApart ?ek_NotApart ?et_NotApart ?ei_NotApart ?exx ?exb ?exs ?exg ?exk ?exd ?exa ?exn ?ext ?exm ?es_ClockError ?es_NoClock ?es_NotApart ?eb_CE ?es_V
    (case a0 => k_is)
    (case l0 => k_is)
    (case c0 => k_is)
    (case k0 => k_is)
    (case a1 => k_is)
    (case l1 => k_is)
    (case c1 => k_is)
    (case k1 => k_is)
    (case a2 => k_is)
    (case l2 => k_is)
    (case c2 => k_is)
    (case k2 => k_is)
    (case a3 => k_is)
    (case l3 => k_is)
    (case c3 => k_is)
    (case k3 => k_is)
    (case a4 => k_is)
    (case l4 => k_is)
    (case c4 => k_is)
    (case k4 => k_is)
    (case a5 => k_is)
    (case l5 => k_is)
    (case c5 => k_is)
    (case k5 => k_is)
    (case a6 => k_is)
    (case l6 => k_is)
    (case c6 => k_is)
    (case k6 => k_is)
    (case a7 => k_is)
    (case l7 => k_is)
    (case c7 => k_is)
    (case k7 => k_is)
    (case a8 => k_is)
    (case l8 => k_is)
    (case c8 => k_is)
    (case k8 => k_is)
    (case a9 => k_is)
    (case l9 => k_is)
    (case c9 => k_is)
    (case k9 => k_is)
    (case a10 => k_is)
    (case l10 => k_is)
    (case c10 => k_is)
    (case k10 => k_is)
    (case a11 => k_is)
    (case l11 => k_is)
    (case c11 => k_is)
    (case k11 => k_is)
    (case a12 => k_is)
    (case l12 => k_is)
    (case c12 => k_is)
    (case k12 => k_is)
    (case a13 => k_is)
    (case l13 => k_is)
    (case c13 => k_is)
    (case k13 => k_is)
    (case a14 => k_is)
    (case l14 => k_is)
    (case c14 => k_is)
    (case k14 => k_is)
    (case a15 => k_is)
    (case l15 => k_is)
    (case c15 => k_is)
    (case k15 => k_is)
    (case a16 => k_is)
    (case l16 => k_is)
    (case c16 => k_is)
    (case k16 => k_is)
    (case a17 => k_is)
    (case l17 => k_is)
    (case c17 => k_is)
    (case k17 => k_is)
    (case a18 => k_is)
    (case l18 => k_is)
    (case c18 => k_is)
    (case k18 => k_is)
    (case a19 => k_is)
    (case l19 => k_is)
    (case c19 => k_is)
    (case k19 => k_is)
    (case a20 => k_is)
    (case l20 => k_is)
    (case c20 => k_is)
    (case k20 => k_is)
    (case a21 => k_is)
    (case l21 => k_is)
    (case c21 => k_is)
    (case k21 => k_is)
    (case a22 => k_is)
    (case l22 => k_is)
    (case c22 => k_is)
    (case k22 => k_is)
    (case a23 => k_is)
    (case l23 => k_is)
    (case c23 => k_is)
    (case k23 => k_is)
    (case a24 => k_is)
    (case l24 => k_is)
    (case c24 => k_is)
    (case k24 => k_is)
    (case a25 => k_is)
    (case l25 => k_is)
    (case c25 => k_is)
    (case k25 => k_is)
    (case a26 => k_is)
    (case l26 => k_is)
    (case c26 => k_is)
    (case k26 => k_is)
    (case a27 => k_is)
    (case l27 => k_is)
    (case c27 => k_is)
    (case k27 => k_is)
    (case a28 => k_is)
    (case l28 => k_is)
    (case c28 => k_is)
    (case k28 => k_is)
    (case a29 => k_is)
    (case l29 => k_is)
    (case c29 => k_is)
    (case k29 => k_is)
    (case a30 => k_is)
    (case l30 => k_is)
    (case c30 => k_is)
    (case k30 => k_is)
    (case z_isinstance => k_is)
    (case z_int => k_is)
    (case z_bool => k_is)
    (case z_str => k_is)
    (case z_tuple => k_is)
    (case z_list => k_is)
    (case z_set => k_is)
    (case z_len => k_is)
    (case z_min => k_is)
    (case z_max => k_is)
    (case z_sum => k_is)
    (case z_sorted => k_is)
    (case z_range => k_is)
    (case z_enumerate => k_is)
    (case z_ValueError => k_is)
    (case zF => k_is)
    (case eg_ClockError => k_is)
    (case ek_ClockError => k_is)
    (case et_ClockError => k_is)
    (case ei_ClockError => k_is)
    (case eg_NoClock => k_is)
    (case ek_NoClock => k_is)
    (case et_NoClock => k_is)
    (case ei_NoClock => k_is)
    (case eg_NoText => k_is)
    (case ek_NoText => k_is)
    (case et_NoText => k_is)
    (case ei_NoText => k_is)
    (case eg_NotApart => k_is)
    (case ek_NotApart => k_is)
    (case et_NotApart => k_is)
    (case ei_NotApart => k_is)
    (case exx => k_exc)
    (case exb => k_is)
    (case exs => first | rfl | k_is)
    (case exg => k_is)
    (case exk => k_is)
    (case exd => k_is)
    (case exa => k_is)
    (case exn => first | k_is | rfl | decide +kernel)
    (case ext => first | k_is | rfl | decide +kernel)
    (case exm => k_is)
    (case es_ClockError => k_is)
    (case es_NoClock => k_is)
    (case es_NotApart => k_is)
    (case eb_CE => k_is)
    (case es_V => k_is)
