import PyProof.Rows.All
import Wide.All
import OpenK.AllK
import Wide.FinOn
import KE.KStateDown
import KE.DataEq
import Lean
import HandS.ForMost
import HandS.Flow
import HandS.Steps
import HandS.Style
import HandS.IsInst
import HandS.SetKeys
import HandS.TupAny
import HandS.Deep
import HandS.Walk
import HandS.Codes
import HandS.Defaults
import HandS.Head0
import HandS.Head1
import HandS.Head2
import HandS.HeadEnd
import HandS.HeadHook1
import HandS.HeadHook2
import KE.GoesMore
import PySem.Challenge.RW_twigscripts_k17_old_and_new_names
set_option Elab.async false
set_option linter.all false
set_option maxRecDepth 100000
set_option maxHeartbeats 4000000
/-! names for the readings of the layer's rules -/
namespace Tw
open PySem PySem.Spec PyProof.Rows L2
def rAddI : R2 := rI0 fun i j => .int (i + j)
def rSubI : R2 := rI0 fun i j => .int (i - j)
def rMulI : R2 := rI CMul fun i j => .int (i * j)
def rDivI : R2 := rI CDiv fun i j => .int (i / j)
def rModI : R2 := rI (fun _ j => 0 < j) fun i j => .int (i % j)
def rPowI : R2 := rI CPow fun i j => .int (i ^ j.toNat)
def rNegI : V → Hp → VK → Prop := rU fun i => .int (-i)
def rLtI : R2 := rI0 fun i j => .bl (decide (i < j))
def rLeI : R2 := rI0 fun i j => .bl (decide (i ≤ j))
def rGtI : R2 := rI0 fun i j => .bl (decide (j < i))
def rGeI : R2 := rI0 fun i j => .bl (decide (j ≤ i))
def rLtS : R2 := fun x y H Q => ∃ i j, x = .str i ∧ y = .str j ∧ Q (.bl (decide (i.cps.toList < j.cps.toList))) H
def rAddS : R2 := fun x y H Q => ∃ i j, x = .str i ∧ y = .str j ∧ i.length + j.length ≤ sizeLine ∧ Q (.str (i ++ j)) H
def rAbs : List V → Hp → VK → Prop := fun xs H Q => ∃ i, xs = [.int i] ∧ Q (.int (if i < 0 then -i else i)) H
def rInt1 : List V → Hp → VK → Prop := fun xs H Q => (∃ i, xs = [.int i] ∧ Q (.int i) H) ∨ ∃ k, xs = [.bl k] ∧ Q (.int (if k then 1 else 0)) H
def rLenQ (K : PySem.W.Frag) : List V → Hp → VK → Prop := fun xs H Q => ∃ p ys, xs = [.ref p] ∧ (SqL K H p ys ∨ SqT K H p ys) ∧ Q (.int ys.length) H
def rLenS : List V → Hp → VK → Prop := fun xs H Q => ∃ z : Str, xs = [.str z] ∧ z.length ≤ sizeLine ∧ Q (.int z.length) H
def rLenD : List V → Hp → VK → Prop := fun xs H Q => ∃ a kvs, xs = [V.ref a] ∧ H a = some (.dK kvs) ∧ Q (.int kvs.length) H
def rLenV (K : PySem.W.Frag) : List V → Hp → VK → Prop := fun xs H Q => ∃ x n, xs = [x] ∧ LenV K x H n ∧ Q (.int n) H
def rTupOf (K : PySem.W.Frag) : List V → Hp → VK → Prop := fun xs H Q => ∃ p ys, xs = [.ref p] ∧ ((SqL K H p ys ∧ ∀ l, H l = none → Q (.ref l) (upd H l (.tup ys))) ∨ (SqT K H p ys ∧ Q (.ref p) H))
def rLstOf (K : PySem.W.Frag) : List V → Hp → VK → Prop := fun xs H Q => ∃ p ys, xs = [.ref p] ∧ (SqL K H p ys ∨ SqT K H p ys) ∧ ∀ l, H l = none → Q (.ref l) (upd H l (.lst ys))
def rJoin (K : PySem.W.Frag) : V → List V → Hp → VK → Prop := fun x xs H Q => ∃ a p, ∃ ys : List Str, x = .str a ∧ xs = [.ref p] ∧ (SqL K H p (ys.map V.str) ∨ SqT K H p (ys.map V.str)) ∧ (ys.map (·.length)).sum + ys.length * a.length ≤ 16777216 ∧ Q (.str (Txt.join a ys)) H
def rInsert : V → List V → Hp → VK → Prop := fun x vs H Q => ∃ (l : Addr) (xs : List V) (i : Int) (y : V), x = .ref l ∧ vs = [.int i, y] ∧ H l = some (.lst xs) ∧ xs.length < sizeLine ∧ 0 ≤ i ∧ i < 2 ^ 63 ∧ Q .non (upd H l (.lst (xs.take i.toNat ++ [y] ++ xs.drop i.toNat)))
def tTru (K : PySem.W.Frag) (ta : TE) : TT := fun σ H Q => ta σ H fun x H' => ∃ k, TruV K x H' k ∧ Q k H'
abbrev tDPut (td ty tv : TE) : TS := sDPut td ty tv
/-! ### a def of the top, called by its name -/
/-- the def st stands at the module's name x -/
def DefAt (K : PySem.W.Frag) (mg : Str → Option Value) (x : Str) (st : Stmt) : Prop := ∃ f fd, FunD K x x (defArgs st) (defBody st) (defScope st) [] [] f fd ∧ mg x = some (.ref f)
section
variable {P : Program} {w : World} {K : PySem.W.Frag} {mg : Str → Option Value} {base : Heap}
/-- a def that may be called by its name (it lets no exception out) -/
structure Cal (P : Program) (w : World) (K : PySem.W.Frag) (mg : Str → Option Value) (base : Heap) (k : Nat) (x : Str) (sp : Sp) : Prop where
  ex : ∃ (f : Addr) (fd : FuncData) (ps : List Str), FnOk P w K mg base CX0 k f fd ps sp ∧ mg x = some (.ref f) ∧ PySem.W.keepIn K (.ref f) = true ∧ Binds K fd ps []
theorem cal_of {x : Str} {st : Stmt} {N ps : List Str} {k : Nat} {sp : Sp} (D : DefAt K mg x st)
    (hb : ∀ (kV doc pm : Value) (an : Option Addr) (cdv ct : Value) (us : List Value), us.length = ps.length → bindArgs (PySem.W.fnOf x x (defArgs st) (defBody st) (defScope st) .none kV doc pm an cdv ct) ⟨us, []⟩ = pure (ps.zip us))
    (S : FnScope N ps (defScope st)) (len : ∀ vs H Q E, sp vs H Q E → vs.length = ps.length) {t : TS}
    (body : ∀ (cdv : Value) (f : Addr) (A : Around) (outer : List Env) (s : Shared) (H : Hp) (E : XK), Room k (A.deeper (envOfC x (defScope st) s.heap.objs.size f cdv)) →
      PSs (cxOf CX0 P w K mg base N x (defScope st) f cdv A outer s H E).nox (defBody st) t)
    (pure_ : ∀ (vs : List V) (H : Hp) (Q : VK) (E : XK), sp vs H Q E → t { nx := fun _ H' => Q .non H', rt := Q } (start N vs) H) : Cal P w K mg base (k + 1) x sp := by
  obtain ⟨f, fd, F, g⟩ := D
  exact ⟨f, fd, ps, F.ok S len fun cdv A outer s H vs Q E hr h => ⟨t, (body cdv f A outer s H E hr).nox, pure_ vs H Q E h⟩, g, F.kp, F.bindsN hb⟩
theorem cal_mono {x : Str} {k j : Nat} {sp : Sp} (c : Cal P w K mg base k x sp) (h : k ≤ j) : Cal P w K mg base j x sp := by
  obtain ⟨f, fd, ps, F, r⟩ := c.ex
  exact ⟨f, fd, ps, F.mono h, r⟩
theorem cal_imp {x : Str} {k : Nat} {sp sp' : Sp} (c : Cal P w K mg base k x sp) (h : ∀ vs H Q E, sp' vs H Q E → sp vs H Q E) : Cal P w K mg base k x sp' := by
  obtain ⟨f, fd, ps, F, r⟩ := c.ex
  exact ⟨f, fd, ps, F.imp h, r⟩
end
section
variable {X : Cx} {k j : Nat} {x : Str} {sp : Sp} {p pos : Pos} {e : Expr} {es : List Expr} {t : TA}
theorem pe_c (c : Cal X.prog X.w X.K X.mg X.base k x sp) (hr : Room j X.A) (hk : k ≤ j) (hg : Gl X x) (ha : PA X (e :: es) t)
    (hdb : (x == ("__debug__" : Str)) = false := by decide) (he : starEach (e :: es) X.env = (false, eval e X.env) :: starEach es X.env := by rfl) (hpl : (backTo pos (starEach es X.env)).any (·.1) = false := by rfl) :
    PE X (.Call (.Name x p) (e :: es) [] pos) (tCall sp [] E0 t) := by
  obtain ⟨f, fd, ps, F, hm, kp, b⟩ := c.ex
  exact pe_call F (hr.mono hk) hg hm kp b .nil pass0 ha hdb he hpl
theorem pe_c0 (c : Cal X.prog X.w X.K X.mg X.base k x sp) (hr : Room j X.A) (hk : k ≤ j) (hg : Gl X x) (hdb : (x == ("__debug__" : Str)) = false := by decide) :
    PE X (.Call (.Name x p) [] [] pos) (tCall sp [] E0 tNil) := by
  obtain ⟨f, fd, ps, F, hm, kp, b⟩ := c.ex
  exact pe_call0 F (hr.mono hk) hg hm kp b .nil pass0 hdb
/-- a module's constant -/
theorem pe_gc {v : V} (hg : Gl X x) (h : ∃ u, X.mg x = some u ∧ RelV v u) (hd : (x == ("__debug__" : Str)) = false := by decide) : PE X (.Name x pos) (tC v) := by
  obtain ⟨u, hm, r⟩ := h
  exact pe_glob hg hm r hd
end
/-! ### text * int -/
def rRepS : R2 := fun x y H Q => ∃ (z : Str) (n : Int), x = .str z ∧ y = .int n ∧ MulOk z n ∧ Q (.str (Txt.mul z n)) H
theorem op_repS {X : Cx} : OpR X (binaryOp .Mult) rRepS := by
  intro pins s σ H x y v u Q I rx ry h
  obtain ⟨z, n, rfl, rfl, ok, q⟩ := h
  obtain ⟨t, rfl⟩ := rx
  obtain ⟨t', rfl⟩ := ry
  obtain ⟨hp, g, d, tk, os⟩ := s
  exact SB.mul ok fun t2 k => ⟨.str _, H, I.tok _, ⟨_, rfl⟩, q⟩
/-! ### a text against a dict -/
theorem str_eq_declines_dict (b : Str) (u : Tok) (l : Addr) (o : Obj) (es : Array DictEntry) (n : Nat) (hd : o.data = .dict es n) (hc : o.cls = .type "dict") :
    Meets (Builtin.«str.__eq__» ⟨[.str b u, .ref l], []⟩) (fun _ R s => s.heap.get? l = some o ∧ R (.ok (.ret .notImplemented)) s) :=
  .of_wp fun prog w A R s h => by
    obtain ⟨hp, g, d, tk, os⟩ := s
    obtain ⟨hl, h⟩ := h
    obtain ⟨c, dd, dt, sl⟩ := o
    simp only at hd hc
    subst hd hc
    wp_walk using wpAny_loadPart' hl, wpAny_load hl
    exact ⟨_, rfl, h⟩
theorem dict_eq_declines_str (l : Addr) (o : Obj) (es : Array DictEntry) (n : Nat) (hd : o.data = .dict es n) (hc : o.cls = .type "dict") (b : Str) (u : Tok) :
    Meets (Builtin.«dict.__eq__» ⟨[.ref l, .str b u], []⟩) (fun _ R s => s.heap.get? l = some o ∧ R (.ok (.ret .notImplemented)) s) :=
  .of_wp fun prog w A R s h => by
    obtain ⟨hp, g, d, tk, os⟩ := s
    obtain ⟨hl, h⟩ := h
    obtain ⟨c, dd, dt, sl⟩ := o
    simp only at hd hc
    subst hd hc
    have f1 := F.sub_str_dict
    wp_walk using wpAny_loadPart' hl
    exact ⟨_, rfl, h⟩
section
variable {A : Around} {s : Shared}
theorem rc_str_dict {l : Addr} {o : Obj} (b : Str) (u : Tok) (es : Array DictEntry) (n : Nat) (ho : s.heap.get? l = some o) (hc : o.cls = .type "dict") (hd : o.data = .dict es n) (hu : A.units < cLine) : SeqAt.RcAt A s (.str b u) (.ref l) false := fun prog w E Q h =>
  SeqAt.rc_eq_decline_or (k := false) (typeIs_str s b u) ⟨_, ho, hc⟩ (by decide) F.sub_dict_str F.slot_str_eq F.slot_dict_eq_refl
    (fun _ hq => call_meets F.slot_str_eq (typeIs_str s b u) F.entry_str_eq (F.args_str_eq_2 _ _) (str_eq_declines_dict b u l o es n hd hc) ⟨ho, hq⟩)
    (fun _ hq => call_meets F.slot_dict_eq_refl ⟨_, ho, hc⟩ F.entry_dict_eq (F.args_dict_eq_2 _ _) (dict_eq_declines_str l o es n hd hc b u) ⟨ho, hq⟩)
    (fun _ hq => wpAny_of_eq (rfl : isSame (.str b u) (.ref l) = pure false) hq) (.inr hu) h
theorem eqAt_str_dict {l : Addr} {o : Obj} (b : Str) (u : Tok) (es : Array DictEntry) (n : Nat) (ho : s.heap.get? l = some o) (hc : o.cls = .type "dict") (hd : o.data = .dict es n) (hu : A.units < cLine) : SeqAt.EqAt A s (.str b u) (.ref l) false := fun prog w E Q h => by
  unfold eqBool
  refine wpAny_holding ?_
  refine wpAny_ite_split (fun hab => absurd (eq_of_beq hab) nofun) (fun _ => ?_)
  exact wpAny_bind (rc_str_dict b u es n ho hc hd hu prog w E _ (wpAny_truthy_bool h))
end
/-! ### any value, and whether it stands in a row of texts -/
inductive AV (K : PySem.W.Frag) (H : Hp) : V → Prop
  | non : AV K H .non
  | bl (b : Bool) : AV K H (.bl b)
  | int (i : Int) : AV K H (.int i)
  | str (x : Str) (sz : x.length ≤ sizeLine) : AV K H (.str x)
  | lst {a : Addr} {xs : List V} (h : SqL K H a xs) : AV K H (.ref a)
  | tup {a : Addr} {xs : List V} (h : SqT K H a xs) : AV K H (.ref a)
  | dct {a : Addr} {kvs : List (Key × V)} (h : H a = some (.dK kvs)) : AV K H (.ref a)
def inA (x : V) (ss : List Str) : Bool := match x with
  | .str z => ss.contains z
  | _ => false
def rInA (K : PySem.W.Frag) (neg : Bool) : R2 := fun x y H Q => ∃ p ss, y = .ref p ∧ (SqL K H p (ss.map V.str) ∨ SqT K H p (ss.map V.str)) ∧ AV K H x ∧ Q (.bl (if neg then !inA x ss else inA x ss)) H
def eqA (x : V) (u : Value) : Bool := match x, u with
  | .str z, .str y _ => y == z
  | _, _ => false
theorem any_eqA {x : V} : ∀ {ss : List Str} {us : List Value}, Vals (ss.map V.str) us → us.any (eqA x) = inA x ss
  | [], _, .nil => by cases x <;> rfl
  | z :: ss, _, .cons ⟨t, e⟩ r => by
    subst e
    rw [List.any_cons, any_eqA r]
    cases x with
    | str y =>
      show (z == y || ss.contains y) = (z :: ss).contains y
      rw [List.contains_cons]
      congr 1
      rw [Bool.eq_iff_iff, beq_iff_eq, beq_iff_eq]
      exact eq_comm
    | _ => rfl
theorem eqAt_any {X : Cx} {pins : List (Addr × Obj)} {σ : L2.St} {H : Hp} {s : Shared} {A : Around} {x : V} {v : Value} (I : Inv X pins σ H s) (rx : RelV x v) (h : AV X.K H x) (hu : A.units < cLine) :
    ∀ {ss : List Str} {us : List Value}, Vals (ss.map V.str) us → ∀ u ∈ us, SeqAt.EqAt A s u v (eqA x u)
  | [], _, .nil, _, hu' => by cases hu'
  | z :: ss, _, .cons ⟨t, e⟩ r, u, hu' => by
    rcases List.mem_cons.mp hu' with rfl | hm
    · subst e
      cases h with
      | non => cases rx; exact SeqAt.EqAt.str_none z t
      | bl b => cases rx; exact SeqAt.EqAt.str_bool z t b
      | int i => obtain ⟨t', rfl⟩ := rx; exact SeqAt.EqAt.str_int z t i t'
      | str y _ => obtain ⟨t', rfl⟩ := rx; exact SeqAt.EqAt.str_str z t y t'
      | lst h =>
        cases rx
        obtain ⟨its, _, pl, _⟩ := I.list h
        exact SeqAt.EqAt.str_list z t pl.isList hu
      | tup h =>
        cases rx
        obtain ⟨its, _, pl, _⟩ := I.tuple h
        exact SeqAt.EqAt.str_tuple z t pl hu
      | dct h =>
        cases rx
        obtain ⟨_, _, _, _, o, es, n, ho, ⟨hc, _⟩, hd, _⟩ := (show ObjOk X.prog X.w H s.heap _ (.dK _) from I.hok _ _ h)
        exact eqAt_str_dict z t es n ho hc hd hu
    · exact eqAt_any I rx h hu r u hm
section
variable {X : Cx}
theorem op_inA (hu : X.A.units + 1 < cLine) : OpR X (compareOp .In) (rInA X.K false) := by
  intro pins s σ H x y v u Q I rx ry h
  obtain ⟨p, ss, rfl, hq, hx, q⟩ := h
  cases ry
  rcases hq with hq | hq
  · obtain ⟨its, r, pl, hz⟩ := I.list hq
    refine SeqAt.in_listAt (eqA x) pl.isList (fun w hw => eqAt_any I rx hx hu r w (by simpa using hw)) ⟨.bl _, H, I, rfl, ?_⟩
    rw [show its.toArray.any (eqA x) = its.any (eqA x) by simp, any_eqA r]
    exact q
  · obtain ⟨its, r, pl, hz⟩ := I.tuple hq
    refine SeqAt.in_tupleAt (eqA x) pl (fun w hw => eqAt_any I rx hx hu r w (by simpa using hw)) ⟨.bl _, H, I, rfl, ?_⟩
    rw [show its.toArray.any (eqA x) = its.any (eqA x) by simp, any_eqA r]
    exact q
theorem op_notInA (hu : X.A.units + 1 < cLine) : OpR X (compareOp .NotIn) (rInA X.K true) := by
  intro pins s σ H x y v u Q I rx ry h
  obtain ⟨p, ss, rfl, hq, hx, q⟩ := h
  cases ry
  rcases hq with hq | hq
  · obtain ⟨its, r, pl, hz⟩ := I.list hq
    refine SeqAt.notIn_listAt (eqA x) pl.isList (fun w hw => eqAt_any I rx hx hu r w (by simpa using hw)) ⟨.bl _, H, I, rfl, ?_⟩
    rw [show its.toArray.any (eqA x) = its.any (eqA x) by simp, any_eqA r]
    exact q
  · obtain ⟨its, r, pl, hz⟩ := I.tuple hq
    refine SeqAt.notIn_tupleAt (eqA x) pl (fun w hw => eqAt_any I rx hx hu r w (by simpa using hw)) ⟨.bl _, H, I, rfl, ?_⟩
    rw [show its.toArray.any (eqA x) = its.any (eqA x) by simp, any_eqA r]
    exact q
end
/-! ### == of a list (tuple) and the empty one -/
def rEqE (K : PySem.W.Frag) : R2 := fun x y H Q => ∃ a b xs, x = .ref a ∧ y = .ref b ∧ ((SqL K H a xs ∧ SqL K H b []) ∨ (SqT K H a xs ∧ SqT K H b [])) ∧ Q (.bl xs.isEmpty) H
def rNeE (K : PySem.W.Frag) : R2 := fun x y H Q => ∃ a b xs, x = .ref a ∧ y = .ref b ∧ ((SqL K H a xs ∧ SqL K H b []) ∨ (SqT K H a xs ∧ SqT K H b [])) ∧ Q (.bl (!xs.isEmpty)) H
theorem vals_nil {us : List Value} (r : Vals [] us) : us = [] := by cases r; rfl
theorem vals_isEmpty {xs : List V} {us : List Value} (r : Vals xs us) : us.isEmpty = xs.isEmpty := by cases r <;> rfl
section
variable {X : Cx}
theorem op_eqE (hu : X.A.units + 1 < cLine) : OpR X (compareOp .Eq) (rEqE X.K) := by
  intro pins s σ H x y v u Q I rx ry h
  obtain ⟨a, b, xs, rfl, rfl, hq, q⟩ := h
  cases rx
  cases ry
  have hu0 : X.A.units < cLine := by omega
  rcases hq with ⟨h1, h2⟩ | ⟨h1, h2⟩
  · obtain ⟨its, r, pl, hz⟩ := I.list h1
    obtain ⟨its2, r2, pl2, hz2⟩ := I.list h2
    have e2 := vals_nil r2
    subst e2
    cases xs with
    | nil =>
      have e1 := vals_nil r
      subst e1
      exact SeqAt.eq_listAt (e := fun _ => true) pl.isList pl2.isList rfl hu0 (fun j h1 => absurd h1 (by simp)) ⟨.bl _, H, I, rfl, q⟩
    | cons x xs =>
      cases r with
      | cons r0 rs => exact SeqAt.eq_list_lengthsAt pl.isList pl2.isList (by simp) hu0 ⟨.bl _, H, I, rfl, q⟩
  · obtain ⟨its, r, pl, hz⟩ := I.tuple h1
    obtain ⟨its2, r2, pl2, hz2⟩ := I.tuple h2
    have e2 := vals_nil r2
    subst e2
    refine SeqAt.eq_tupleAt (e := fun _ => true) pl pl2 hu0 (fun j h1 h2 => absurd h2 (by simp)) ⟨.bl xs.isEmpty, H, I, ?_, q⟩
    have e : ((List.range (min its.toArray.size ([] : List Value).toArray.size)).all (fun _ => true) && its.toArray.size == ([] : List Value).toArray.size) = xs.isEmpty := by
      rw [← vals_isEmpty r]
      cases its <;> simp
    rw [e]
    rfl
theorem op_neE (hu : X.A.units + 1 < cLine) : OpR X (compareOp .NotEq) (rNeE X.K) := by
  intro pins s σ H x y v u Q I rx ry h
  obtain ⟨a, b, xs, rfl, rfl, hq, q⟩ := h
  cases rx
  cases ry
  have hu0 : X.A.units < cLine := by omega
  rcases hq with ⟨h1, h2⟩ | ⟨h1, h2⟩
  · obtain ⟨its, r, pl, hz⟩ := I.list h1
    obtain ⟨its2, r2, pl2, hz2⟩ := I.list h2
    have e2 := vals_nil r2
    subst e2
    cases xs with
    | nil =>
      have e1 := vals_nil r
      subst e1
      exact SeqAt.RcNeAt.lists (e := fun _ => true) pl.isList pl2.isList rfl hu0 (fun j h1 => absurd h1 (by simp)) _ _ _ _ ⟨.bl _, H, I, rfl, q⟩
    | cons x xs =>
      cases r with
      | cons r0 rs => exact SeqAt.RcNeAt.lists_lengths pl.isList pl2.isList (by simp) hu0 _ _ _ _ ⟨.bl _, H, I, rfl, q⟩
  · obtain ⟨its, r, pl, hz⟩ := I.tuple h1
    obtain ⟨its2, r2, pl2, hz2⟩ := I.tuple h2
    have e2 := vals_nil r2
    subst e2
    refine SeqAt.RcNeAt.tuples (e := fun _ => true) pl pl2 hu0 (fun j h1 h2 => absurd h2 (by simp)) _ _ _ _ ⟨.bl (!xs.isEmpty), H, I, ?_, q⟩
    have e : ((List.range (min its.toArray.size ([] : List Value).toArray.size)).all (fun _ => true) && its.toArray.size == ([] : List Value).toArray.size) = xs.isEmpty := by
      rw [← vals_isEmpty r]
      cases its <;> simp
    show Value.bool _ = Value.bool _
    first
      | (rw [e])
      | (congr 1; revert e; cases its <;> simp)
end
/-! ### == of data of any depth up to 180 -/
def rEqP (K : PySem.W.Frag) : R2 := fun x y H Q => ∃ d e, Dp K H x d ∧ Dp K H y e ∧ d.plain = true ∧ e.plain = true ∧ d.depth ≤ 190 ∧ Q (.bl (PyData.eqv d e)) H
def rNeP (K : PySem.W.Frag) : R2 := fun x y H Q => ∃ d e, Dp K H x d ∧ Dp K H y e ∧ d.plain = true ∧ e.plain = true ∧ d.depth ≤ 190 ∧ Q (.bl (!PyData.eqv d e)) H
section
variable {X : Cx}
theorem room_eq {k : Nat} {A : Around} (hr : Room k A) : A.units + 200 < cLine := by
  have := hr.un
  omega
theorem op_eqP (hu : X.A.units + 200 < cLine) : OpR X (compareOp .Eq) (rEqP X.K) := by
  intro pins s σ H x y v u Q I rx ry h
  obtain ⟨d, e, hd, he, pd, pe, dd, q⟩ := h
  obtain ⟨as, ra⟩ := Dp.reads I d x v hd rx
  obtain ⟨bs, rb⟩ := Dp.reads I e y u he ry
  exact SeqAt.eq_plain ra rb pd pe (by have := Nat.min_le_left d.depth e.depth; omega) ⟨.bl _, H, I, rfl, q⟩
theorem op_neP (hu : X.A.units + 200 < cLine) : OpR X (compareOp .NotEq) (rNeP X.K) := by
  intro pins s σ H x y v u Q I rx ry h
  obtain ⟨d, e, hd, he, pd, pe, dd, q⟩ := h
  obtain ⟨as, ra⟩ := Dp.reads I d x v hd rx
  obtain ⟨bs, rb⟩ := Dp.reads I e y u he ry
  exact SeqAt.ne_plain ra rb pd pe (by have := Nat.min_le_left d.depth e.depth; omega) ⟨.bl _, H, I, rfl, q⟩
end
/-! ### the head's facts, with a test of one's own -/
abbrev AlX : Type := Bool × He.AlD
def obsX (chk : PySem.W.Frag → Bool) (fa : List He.Fa) (fn : List He.DefD) (K : PySem.W.Frag) : AlX := (chk K, He.obsD fa fn K)
def valX (fn : List He.DefD) : AlX := (true, He.valD fn)
def SaysX (chk : PySem.W.Frag → Bool) (fa : List He.Fa) (fn : List He.DefD) (K : PySem.W.Frag) : Prop := obsX chk fa fn K = valX fn
def obsXG (n : Nat) (chk : PySem.W.Frag → Bool) (fa : List He.Fa) (fn : List He.DefD) (g : Addr → Option Obj) : AlX := obsX chk fa fn (He.frG g (He.asD g n))
def hookX (n : Nat) (chk : PySem.W.Frag → Bool) (fa : List He.Fa) (fn : List He.DefD) : PySem.W.Hook where
  α := AlX
  obs := fun s => obsXG n chk fa fn s.heap.get?
  val := fun _ => valX fn
  says := fun _ h => ∃ K : PySem.W.Frag, K.In h ∧ SaysX chk fa fn K
  of := fun _ _ e => ⟨_, He.frG_in, e⟩
  keeps := fun _ _ _ ⟨K, hK, c⟩ k => ⟨K, PySem.W.Frag.In.keeps hK k, c⟩
theorem obsXG_eq {n : Nat} {chk : PySem.W.Frag → Bool} {fa : List He.Fa} {fn : List He.DefD} {g : Addr → Option Obj} {s : Shared} (h : ∀ a, g a = s.heap.get? a) : obsXG n chk fa fn g = (hookX n chk fa fn).obs s := by
  have e : g = s.heap.get? := funext h
  rw [e] <;> rfl
section
variable {chk : PySem.W.Frag → Bool} {fa : List He.Fa} {fn : List He.DefD} {K : PySem.W.Frag}
theorem SaysX.d (c : SaysX chk fa fn K) : He.SaysD fa fn K := congrArg (fun z : AlX => z.2) c
theorem SaysX.test (c : SaysX chk fa fn K) : chk K = true := congrArg (fun z : AlX => z.1) c
end
end Tw

namespace Tw
open PySem PySem.Spec PyProof.Rows L2
/-! ### enumerate(tuple) -/
theorem meets_enumerate_newT (l : Addr) (o : Obj) (items : Array Value) (n : Nat) (hc : o.cls = .type "tuple") (hd : o.data = .seq items n) :
    Meets (Builtin.«enumerate.__new__» ⟨[.type "enumerate", .ref l], []⟩) (fun _ R s => s.heap.get? l = some o ∧
      R (.ok (.ret (.ref (s.heap.push { cls := .type "tuple_iterator", data := .fields #[.ref l, .int 0 0] }).objs.size)))
        { s with heap := (s.heap.push { cls := .type "tuple_iterator", data := .fields #[.ref l, .int 0 0] }).push { cls := .type "enumerate", data := .fields #[.none, .bool false, .ref s.heap.objs.size, rawInt 0, .none, .none] } }) :=
  .of_wp fun prog w A R s h => by
    obtain ⟨hp, g, d, tk, os⟩ := s
    obtain ⟨hl, h⟩ := h
    obtain ⟨c, dd, dt, sl⟩ := o
    simp only at hc hd
    subst hc hd
    have hsub := sub_enumerate
    have hL : Heap.IsTuple (Shared.heap ⟨hp, g, d, tk, os⟩) l items := ⟨_, hl, rfl, n, rfl⟩
    wp_walk using AutoSeq1.wpAny_loadPart' hl
    refine wpAny_stack_any fun st => wpAny_pure ?_
    split
    · rename_i c _ _ _ _ _
      cases (c == Value.type "enumerate")
      · wp_walk using AutoSeq1.wpAny_loadPart' hl, wpAny_pyIter_tuple hL
        exact ⟨_, rfl, h⟩
      · wp_walk using AutoSeq1.wpAny_loadPart' hl, wpAny_pyIter_tuple hL
        exact ⟨_, rfl, h⟩
    · wp_walk using AutoSeq1.wpAny_loadPart' hl, wpAny_pyIter_tuple hL
      exact ⟨_, rfl, h⟩
section
variable {prog : Program} {w : World} {A : Around} {E : Value → Shared → Prop} {s : Shared}
theorem call_enumerate_tuple {l : Addr} {items : Array Value} {Q : Value → Shared → Prop} (hL : s.heap.IsTuple l items)
    (h : ∀ h', IsEnum h' (s.heap.objs.size + 1) s.heap.objs.size 0 .none → h'.IsTupleIter s.heap.objs.size l 0 → h'.objs.size = s.heap.objs.size + 2 →
      (∀ b o, s.heap.get? b = some o → h'.get? b = some o) → Q (.ref (s.heap.objs.size + 1)) { s with heap := h' }) :
    wpAny (model prog w) A (call (.type "enumerate") [.ref l]) Q E s := by
  obtain ⟨o, hl, hc, n, hd⟩ := hL
  refine callType_new F.called_enumerate (by decide) (F.typeCall_enumerate_1 _) (F.newCall_enumerate_1 _) (fun obj => F.args_object_init_2 obj _) F.entry_enumerate_new
    (meets_enumerate_newT l o items n hc hd) ⟨hl, ?_⟩
  have hz : (s.heap.push { cls := .type "tuple_iterator", data := .fields #[.ref l, .int 0 0] }).objs.size = s.heap.objs.size + 1 := Heap.size_push ..
  show _ ∧ _
  rw [hz]
  have he : IsEnum ((s.heap.push { cls := .type "tuple_iterator", data := .fields #[.ref l, .int 0 0] }).push
      { cls := .type "enumerate", data := .fields #[.none, .bool false, .ref s.heap.objs.size, rawInt 0, .none, .none] }) (s.heap.objs.size + 1) s.heap.objs.size 0 .none := by
    have := Heap.get?_push_size (s.heap.push { cls := .type "tuple_iterator", data := .fields #[.ref l, .int 0 0] })
      (o := { cls := .type "enumerate", data := .fields #[.none, .bool false, .ref s.heap.objs.size, rawInt 0, .none, .none] }) rfl
    rw [hz] at this; exact this
  refine ⟨⟨_, he, rfl⟩, h _ he ⟨_, Heap.get?_push_of_some _ (Heap.get?_push_size _ rfl), rfl, rfl⟩ (by rw [Heap.size_push, hz]) fun b o x => Heap.get?_push_of_some _ (Heap.get?_push_of_some _ x)⟩
end
def IteT (K : PySem.W.Frag) (a : Addr) : It :=
  ⟨fun i H => ∃ (xs : List V) (x : V), SqT K H a xs ∧ xs[i]? = some x, fun i H v H' => ∃ T x, v = .ref T ∧ H T = none ∧ H' = upd H T (.tup [.int (i : Nat), x]) ∧ ∀ xs, SqT K H a xs → xs[i]? = some x, fun i H => ∃ xs : List V, SqT K H a xs ∧ xs.length ≤ i⟩
theorem turn_enumT {P : Program} {w : World} {K : PySem.W.Frag} {elts : List Expr} {kk : Nat} {tpos : Pos} (a e it : Addr) :
    Turn P w K (.Tuple elts kk tpos) (IteT K a) [e, it] e (fun i h => (∃ old, IsEnum h e it ((i : Nat) : Int) old) ∧ h.IsTupleIter it a i ∧ e ≠ it) where
  mem := by simp
  obj := fun i h st b hb => by
    obtain ⟨⟨old, he⟩, ⟨o, ho, hc, hd⟩, _⟩ := st
    have e' : b = e ∨ b = it := by simpa using hb
    rcases e' with z | z
    · rw [z]; exact ⟨_, he, fun v q => nomatch q⟩
    · rw [z]; exact ⟨o, ho, fun v q => by rw [hd] at q; cases q⟩
  keep := fun i h h' st k => let ⟨⟨old, he⟩, hi, hne⟩ := st; ⟨⟨old, k e (by simp) _ he⟩, hi.at fun o q => k it (by simp) o q, hne⟩
  item := by
    intro X hP hw hK hc i pins s σ H E I hf st hg
    subst hP hw hK
    obtain ⟨⟨old, he⟩, hit, hne⟩ := st
    obtain ⟨xs, x, hq, hx⟩ := hg
    obtain ⟨its, rv, p, hz⟩ := I.tuple hq
    obtain ⟨u, hu, ru⟩ := rv.get hx
    have hel : e < s.heap.objs.size := Heap.lt_size he
    have hil : it < s.heap.objs.size := by obtain ⟨_, q, _⟩ := hit; exact Heap.lt_size q
    have pT : s.heap.IsTuple a its.toArray := p
    have nai : a ≠ it := by
      rintro rfl
      obtain ⟨o1, h1, c1, _⟩ := hit
      obtain ⟨o2, h2, c2, _⟩ := pT
      rw [h1] at h2
      cases h2
      rw [c1] at c2
      exact absurd c2 (by decide)
    have nae : e ≠ a := by
      rintro rfl
      obtain ⟨o2, h2, c2, _⟩ := pT
      have h1 : s.heap.get? e = some _ := he
      rw [h1] at h2
      cases h2
      exact absurd c2 (by show ¬ Value.type "enumerate" = Value.type "tuple"; decide)
    have hin : i < its.toArray.size := by
      have := (List.getElem?_eq_some_iff.mp hu).1
      rw [List.size_toArray]
      exact this
    have hA : X.A.in1.handled = none := I.ok.hd hc
    refine wpAny_pyNext_enum_itemD (Draws.tuple (prog := X.prog) (w := X.w) (A := X.A.in1) hA it a nai its.toArray) he ⟨hit, pT⟩ hin hne (by simp [hne, nae]) fun x' h' tk hP' ho hit' hT hsz hk => ?_
    have ex : x' = u := by
      have : its.toArray[i]? = some u := by simpa using hu
      rw [this] at hP'
      exact (Option.some.inj hP').symm
    subst ex
    refine ⟨_, rfl, wpAny_letOwnedTupleGo_enum (s := { s with heap := h', toks := tk + 1 }) ho fun h'' he' sb => ?_⟩
    have hT2 : h''.get? s.heap.objs.size = some { cls := .type "tuple", data := .seq #[.int i tk, x'] } := (sb.2 _ (Nat.ne_of_gt hel)).trans hT
    have new : ObjOk X.prog X.w (upd H s.heap.objs.size (.tup [.int (i : Nat), x])) h'' s.heap.objs.size (.tup [.int (i : Nat), x]) :=
      ⟨by show 2 ≤ sizeLine; decide, [.int i tk, x'], .cons ⟨_, rfl⟩ (.cons ru .nil), ⟨_, hT2, rfl, _, rfl⟩⟩
    have I1 : Inv X pins σ (upd H s.heap.objs.size (.tup [.int (i : Nat), x])) { s with heap := h'', toks := tk + 1 } :=
      I.turnedNew (ch := [e, it]) (fun b ob hb q => (sb.2 b (fun z => hb (by simp [z]))).trans (hk b ob (fun z => hb (by simp [z])) (fun z => hb (by simp [z])) q)) hf (Nat.le_refl _) new
    refine ⟨.ref s.heap.objs.size, _, I1, rfl, ⟨_, x, rfl, I.hok.fresh (Nat.le_refl _), rfl, fun ys hy => by rw [I.tuple_inj hy hq]; exact hx⟩, ⟨⟨x', ?_⟩, hit'.1.at fun o q => (sb.2 it (Ne.symm hne)).trans q, hne⟩, fun b hb => ?_⟩
    · have e1 : ((i + 1 : Nat) : Int) = (i : Int) + 1 := by omega
      rw [e1]; exact he'
    · have hb' : b < s.heap.objs.size := by
        have e' : b = e ∨ b = it := by simpa using hb
        rcases e' with z | z
        · rw [z]; exact hel
        · rw [z]; exact hil
      rw [upd_ne (Nat.ne_of_lt hb')]
      exact (hf b hb).1
  done := by
    intro X hP hw hK hc i pins s σ H E I hf st hg
    subst hP hw hK
    obtain ⟨⟨old, he⟩, hit, hne⟩ := st
    obtain ⟨xs, hq, hx⟩ := hg
    obtain ⟨its, rv, p, hz⟩ := I.tuple hq
    obtain ⟨f0, f1, f2, f3, f4, f5⟩ := hf it (by simp)
    have hl := rv.length
    have pT : s.heap.IsTuple a its.toArray := p
    have hT : s.TypeIs (.ref e) "enumerate" := ⟨_, he, rfl⟩
    unfold pyNext
    refine wpAny_bind (wpAny_attempt (wpAny_callSpecial?_slot (name := Str.ofString "__next__") hT F.slot_enumerate_next
      (wpAny_call_entry F.slot_enumerate_next hT F.entry_enumerate_next ?_ (F.args_enumerate_next_1 _))))
    show wpAny _ _ (field (.ref e) 2 >>= _) _ _ _
    refine wpAny_bind (wpAny_field he rfl (x := .ref it) rfl ?_)
    have hA : X.A.in1.handled = none := I.ok.hd hc
    refine wpAny_bind (wpAny_nextOf_tuple_end hA hit pT (by simp; omega) fun h' x he' hx' => ?_)
    obtain ⟨o, ho, hc'⟩ := hx'
    refine wpAny_bind (wpAny_isInstance (T := "StopIteration") (b := true) ⟨o, ho, hc'⟩ isSubtype_stop ?_)
    exact wpAny_pure ⟨rfl, I.turned (t' := s.toks) (fun b o hb q => he' b o hb q) f0 f1 f3 f4 f5⟩
  self := fun A i s Q E st h => let ⟨⟨_, he⟩, _⟩ := st; wpAny_pyIter_enum he h
def iEnumT (K : PySem.W.Frag) (ta : TA) : TI := fun σ H R => ta σ H fun vs H1 => ∃ a xs, vs = [.ref a] ∧ SqT K H1 a xs ∧ R (IteT K a) H1
theorem pi_enumT {X : Cx} {e : Expr} {ta : TA} {p pos tpos : Pos} {elts : List Expr} {kk : Nat} (hg : Gl X "enumerate") (hm : X.mg "enumerate" = none) (ha : PA X [e] ta) (hs : starEach [e] X.env = [(false, eval e X.env)] := by rfl) :
    PI X (.Tuple elts kk tpos) (.Call (.Name "enumerate" p) [e] [] pos) (iEnumT X.K ta) := by
  refine ⟨fun pins s σ H R I h => ?_⟩
  refine Call_ (ld_blt I hg hm boot_enumerate (PyProof.Rows.callWith_type1 (thn (ha.run pos pins s σ H _ I h) fun us s1 ⟨vs, H1, I1, r1, q1⟩ => ?_) hs rfl))
  obtain ⟨a, xs, ex, hq, q⟩ := q1
  subst ex
  cases r1 with
  | cons r rr =>
    cases rr
    cases r
    obtain ⟨its, rv, p', hz⟩ := I1.tuple hq
    refine call_enumerate_tuple (show s1.heap.IsTuple a its.toArray from p') fun h' he hit hsz hk => wpAny_pyIter_enum he ?_
    have I2 : Inv X pins σ H1 { s1 with heap := h' } := I1.kept (t' := s1.toks) hk
    refine ⟨s1.heap.objs.size + 1, [s1.heap.objs.size + 1, s1.heap.objs.size], _, _, H1, rfl, I2, turn_enumT a (s1.heap.objs.size + 1) s1.heap.objs.size, ⟨⟨.none, he⟩, hit, Nat.succ_ne_self _⟩, fun b hb => ?_, q⟩
    have e' : b = s1.heap.objs.size + 1 ∨ b = s1.heap.objs.size := by simpa using hb
    have hle : s1.heap.objs.size ≤ b := by
      rcases e' with z | z
      · rw [z]; exact Nat.le_add_right _ _
      · rw [z]; exact Nat.le_refl _
    exact I1.fpOk hle (I1.hok.fresh hle)
theorem walk_enumT {K : PySem.W.Frag} {a : Addr} {xs : List V} : Walk (IteT K a) xs.length (fun H => SqT K H a xs) (YPair (fun i => some (.int (i : Nat))) (fun i => xs[i]?)) where
  goes := fun i H hi h => ⟨xs, xs[i], h, List.getElem?_eq_getElem hi⟩
  stops := fun H h => ⟨xs, h, Nat.le_refl _⟩
  yields := fun i H v H' hi h ⟨T, x, e1, e2, e3, e4⟩ => ⟨T, _, x, e1, e2, e3, rfl, e4 xs h⟩
/-! ### for a, b in e.items(), the dict made by e itself: it stands locked from then on -/
def iItemsF (td : TE) : TI := fun σ H R => td σ H fun x H1 => ∃ d kvs, x = .ref d ∧ H1 d = some (.dK kvs) ∧ ∀ o, R (Iti d o kvs) (upd H1 d (.frz o (.dK kvs)))
theorem pi_itemsF {X : Cx} {e : Expr} {td : TE} {apos cpos : Pos} {elts : List Expr} {kk : Nat} {tpos : Pos} (he : PE X e td) (hbase : attributeBase e "items" X.env (eval e X.env) = eval e X.env := by rfl) (hline : (apos.endLine == cpos.line) = true := by rfl) :
    PI X (.Tuple elts kk tpos) (.Call (.Attribute e "items" apos) [] [] cpos) (iItemsF td) := by
  refine ⟨fun pins s σ H R I h => ?_⟩
  refine wpAny_Call_method (T := "dict") (id := "dict.items") hbase rfl hline F.plainAttrs_dict F.slot_dict_items F.type_dict_items (thn (he.run pins s σ H _ I h) fun u s1 ⟨x, H1, I1, rx, d, kvs, ex, hd, q⟩ => ?_)
  subst ex
  obtain rfl : u = Value.ref d := rx
  obtain ⟨o, I1⟩ := I1.lock hd trivial
  have hd : (upd H1 d (.frz o (.dK kvs))) d = some (.frz o (.dK kvs)) := upd_same
  replace q := q o
  obtain ⟨hs, hgd, hx, es, ep, vs, hdt, hsz, kv, hm⟩ := I1.frzK hd
  have hl : kvs.length = vs.length := Paired.length kv
  refine ⟨hm.dictOf.typeIs, hm.dictOf.mapOf.noDict, ?_⟩
  have I2 : Inv X pins σ (upd H1 d (.frz o (.dK kvs))) { s1 with heap := s1.heap.push { cls := .type "dict_items", data := .fields #[.ref d] } } := I1.kept (t' := s1.toks) fun b ob q => Heap.get?_push_of_some _ q
  have fin : wpAny (model X.prog X.w) X.A (pyIter (.ref s1.heap.objs.size)) (PIE X pins σ (.Tuple elts kk tpos) R) X.xe { s1 with heap := s1.heap.push { cls := .type "dict_items", data := .fields #[.ref d] } } := by
    refine wpAny_pyIter_items (d := d) (knd := mixKind X.prog X.w) ⟨_, Heap.get?_push_size _ rfl, rfl, rfl⟩ (hm.push _) (pi_one (tk := s1.toks) I2 _ (turn_items _ hdt) ⟨.none, .none, ?_⟩ q)
    rw [hl]
    exact Heap.get?_push_size _ rfl
  show wpAny _ _ (callWith cpos (.builtin "dict.items") [.ref d] [] []) _ X.xe s1
  exact method_meetsIn F.slot_dict_items F.entry_dict_items rfl (PySem.evalArgs_none ⟨rfl, hm.dictOf.typeIs, F.args_dict_items_1 _, _, meets_dict_items (mixKind X.prog X.w) d hs, ⟨vs, hm.dictOf⟩, fin⟩)
/-! ### xs.extend(tuple) -/
theorem list_extend_tup (l : Addr) (items : Array Value) (n : Nat) (b : Addr) (o : Obj) (items2 : Array Value) (n2 : Nat) (hc : o.cls = .type "tuple") (hd : o.data = .seq items2 n2) (hs0 : ¬(!items.isEmpty && Builtin.List.listTooLong (items.size + items2.size)) = true) (hs1 : items.size ≤ sizeLine) (hs2 : items.size + items2.size ≤ sizeLine + 1) :
    Meets (Builtin.«list.extend» ⟨[.ref l, .ref b], []⟩) (fun _ R s => s.heap.get? l = some { cls := .type "list", dict := none, data := .seq items n, slots := #[] } ∧ s.heap.get? b = some o ∧ R (.ok (.ret Value.none)) { s with heap := s.heap.update l (Obj.mapSeq fun x => x ++ items2), toks := s.toks }) :=
  .of_wp fun prog w A R s h => by
    obtain ⟨hp, g, d, tk, os⟩ := s
    obtain ⟨hl, hb, h⟩ := h
    obtain ⟨c, dd, dt, sl⟩ := o
    simp only at hc hd
    subst hc hd
    have f1 := AutoSeq1.idx_int
    have f2 := AutoSeq1.sub_tuple_tuple
    have f3 := AutoSeq1.sub_list_list
    have f4 := AutoSeq1.sub_tuple_list
    have f5 := AutoSeq1.sub_list_tuple
    have hz' : (items ++ items2).size ≤ sizeLine + 1 := by rw [Array.size_append]; exact hs2
    wp_walk using (wpAny_updateSeq hl rfl (hz := hs1) (_hz' := hz')), AutoSeq1.wpAny_loadPart' hl, AutoSeq1.wpAny_loadPart' hb
    exact ⟨_, rfl, h⟩
def rExtendT (K : PySem.W.Frag) : V → List V → Hp → VK → Prop := fun x vs H Q => ∃ l b xs zs, x = .ref l ∧ vs = [.ref b] ∧ H l = some (.lst xs) ∧ SqT K H b zs ∧ xs.length + zs.length ≤ sizeLine ∧ Q .non (upd H l (.lst (xs ++ zs)))
theorem mt_extendT {X : Cx} : MtR X "list.extend" (rExtendT X.K) := by
  intro pins s σ H x vs v us Q I rx rv h
  obtain ⟨l, b, xs, zs, rfl, rfl, hH, hB, hz, q⟩ := h
  cases rx
  obtain ⟨u, rfl, ru⟩ := rv.one
  cases ru
  obtain ⟨z, its, n, r, hl, e⟩ := I.lstM hH
  obtain ⟨its2, r2, ⟨o, ho, hc, n2, hd⟩, hz2⟩ := I.tuple hB
  have hl2 := r2.length
  have hsz : its.toArray.size + its2.toArray.size ≤ sizeLine := by rw [List.size_toArray, List.size_toArray]; omega
  have hlong : ¬ (!its.toArray.isEmpty && Builtin.List.listTooLong (its.toArray.size + its2.toArray.size)) = true := by
    rw [notLongL hsz, Bool.and_false]
    exact Bool.false_ne_true
  refine call_meets F.slot_list_extend ⟨_, e, rfl⟩ F.entry_list_extend (F.args_list_extend_2 _ _)
    (list_extend_tup l its.toArray n b o its2.toArray n2 hc hd hlong (by rw [List.size_toArray]; omega) (by omega)) ⟨e, ho, ?_⟩
  refine ⟨.non, _, I.lset (its' := its ++ its2) hH e (by simp) (r.append r2) ?_, rfl, q⟩
  rw [List.length_append]
  omega
/-! ### t[::-1] -/
theorem adjust_rev (n : Nat) : Builtin.Slice.sliceAdjust none none (-1) (n : Int) = ((n : Int) - 1, -1) := by
  unfold Builtin.Slice.sliceAdjust
  simp
theorem places_rev (n : Nat) : Builtin.Slice.slicePlaces ((n : Int) - 1) (-1) (-1) = n := by
  unfold Builtin.Slice.slicePlaces
  rw [if_neg (by decide)]
  by_cases h : (n : Int) - 1 > -1
  · rw [if_pos h, show (- -1 : Int) = 1 by decide, Int.ediv_one]
    omega
  · rw [if_neg h]
    omega
theorem filterMap_same {α β : Type} {f g : α → Option β} : ∀ {l : List α}, (∀ k ∈ l, f k = g k) → l.filterMap f = l.filterMap g
  | [], _ => rfl
  | k :: r, h => by
    rw [List.filterMap_cons, List.filterMap_cons, h k List.mem_cons_self, filterMap_same fun j hj => h j (List.mem_cons_of_mem _ hj)]
theorem pick_rev (xs : Array Value) : ((List.range xs.size).filterMap fun (k : Nat) => xs[((xs.size : Int) - 1 + (k : Int) * (-1)).toNat]?).toArray = xs.toList.reverse.toArray := by
  have e : (List.range xs.size).filterMap (fun (k : Nat) => xs[((xs.size : Int) - 1 + (k : Int) * (-1)).toNat]?) = ((List.range xs.size).map fun k => xs.size - 1 - k).filterMap (xs[·]?) := by
    rw [List.filterMap_map]
    refine filterMap_same fun k hk => ?_
    have := List.mem_range.mp hk
    have e2 : ((xs.size : Int) - 1 + (k : Int) * (-1)).toNat = xs.size - 1 - k := by omega
    rw [e2]
    rfl
  rw [e, PySem.W.krv_range, List.filterMap_reverse, PySem.W.krv_all]
section
variable {prog : Program} {w : World} {A : Around} {E : Value → Shared → Prop} {s : Shared}
theorem sliceApplied_rev {sl : Addr} {vs : Value} {n : Nat} {Q : Int × Int × Nat → Shared → Prop} (hs : s.heap.IsSliceOf sl .none .none vs) (ps : IsPart vs (some (-1)))
    (h : Q ((n : Int) - 1, -1, n) s) : wpAny (model prog w) A (Builtin.Slice.sliceApplied (.ref sl) (pure (n : Int))) Q E s := by
  obtain ⟨os, hos, hcs, hds⟩ := id hs
  unfold Builtin.Slice.sliceApplied Builtin.Slice.sliceFields
  refine wpAny_bind (wpAny_bind (wpAny_field hos hds (x := .none) rfl (wpAny_bind (wpAny_field hos hds (x := .none) rfl (wpAny_bind (wpAny_field hos hds (x := vs) rfl (wpAny_pure ?_)))))))
  refine wpAny_bind (HT.slicePart_ ps ?_)
  show wpAny _ _ (if ((-1 : Int) == 0) = true then _ else _) _ _ s
  rw [if_neg (by decide)]
  refine wpAny_bind (slicePart_none (wpAny_bind (slicePart_none (wpAny_bind (wpAny_pure ?_)))))
  show wpAny _ _ (match Builtin.Slice.sliceAdjust none none (-1) (n : Int) with | (lo, hi) => pure (lo, (-1 : Int), Builtin.Slice.slicePlaces lo hi (-1))) _ _ s
  rw [adjust_rev n]
  show wpAny _ _ (pure ((n : Int) - 1, (-1 : Int), Builtin.Slice.slicePlaces ((n : Int) - 1) (-1) (-1))) _ _ s
  rw [places_rev]
  exact wpAny_pure h
theorem getItem_tuple_rev {t sl : Addr} {items : Array Value} {vs : Value} {Q : Value → Shared → Prop} (ht : IsTup s.heap t items) (hs : s.heap.IsSliceOf sl .none .none vs) (ps : IsPart vs (some (-1)))
    (h : Q (.ref s.heap.objs.size) { s with heap := s.heap.push { cls := .type "tuple", data := .seq items.toList.reverse.toArray } })
    (hsz : items.size ≤ sizeLine) : wpAny (model prog w) A (getItem (.ref t) (.ref sl)) Q E s := by
  have htake : sizeOk (.seq items.toList.reverse.toArray) := by
    show items.toList.reverse.toArray.size ≤ sizeLine
    rw [List.size_toArray, List.length_reverse, Array.length_toList]
    exact hsz
  obtain ⟨os, hos, hcs, hds⟩ := id hs
  have hTs : s.TypeIs (.ref sl) "slice" := ⟨os, hos, hcs⟩
  unfold getItem
  try with_reducible refine wpAny_holding ?_
  first | refine wpAny_bind (wpAny_pure ?_) | skip
  refine wpAny_bind (wpAny_sequenceKey ht.typeIs (by decide) ?_)
  refine wpAny_bind (wpAny_callSpecial?_slot (name := Str.ofString "__getitem__") ht.typeIs PyProof.Rows.slot_tuple_getitem
    (wpAny_call_entry PyProof.Rows.slot_tuple_getitem ht.typeIs entry_tuple_getitem ?_ (args_tuple_getitem _ _)))
  show wpAny _ _ (Builtin.Tuple.tupleItemsOf (.ref t) >>= _) _ _ s
  refine wpAny_bind (tupleItemsOf_ ht ?_)
  refine wpAny_bind (wpAny_typeOf hTs ?_)
  rw [if_pos (by decide)]
  refine wpAny_bind (sliceApplied_rev hs ps ?_)
  have hno : ¬ (((items.size : Int) - 1 == 0 && (-1 : Int) == 1 && items.size == items.size) = true) := by
    intro q
    rw [Bool.and_eq_true, Bool.and_eq_true] at q
    exact absurd q.1.2 (by decide)
  show wpAny _ _ (if ((items.size : Int) - 1 == 0 && (-1 : Int) == 1 && items.size == items.size) = true then _ else _) _ _ s
  rw [if_neg hno, pick_rev]
  first
    | exact wpAny_bind (m := Builtin.Tuple.tupleExact _) (wpAny_newObj_type (wpAny_pure ⟨_, rfl, wpAny_pure h⟩) htake)
    | exact wpAny_bind (m := Builtin.Tuple.tupleExact _) (wpAny_newObj_type (wpAny_bind (wpAny_pure (wpAny_pure ⟨_, rfl, wpAny_pure h⟩))) htake)
    | exact wpAny_bind (wpAny_bind (m := Builtin.Tuple.tupleExact _) (wpAny_newObj_type (wpAny_pure (wpAny_pure ⟨_, rfl, wpAny_pure h⟩)) htake))
    | exact wpAny_bind (wpAny_bind (m := Builtin.Tuple.tupleExact _) (wpAny_newObj_type (wpAny_pure ⟨_, rfl, wpAny_pure h⟩) htake))
end
def tRevT (K : PySem.W.Frag) (te : TE) : TE := fun σ H Q => te σ H fun x H1 => ∃ a xs, x = .ref a ∧ SqT K H1 a xs ∧ ∀ p, H1 p = none → Q (.ref p) (upd H1 p (.tup xs.reverse))
theorem pe_revT {X : Cx} {e : Expr} {te : TE} {k : Nat} {p1 p2 p3 pos : Pos} (he : PE X e te) : PE X (.Subscript e (.Slice none none (some (.UnaryOp .USub (.Constant (.int 1) k p1) p2)) p3) pos) (tRevT X.K te) := by
  refine ⟨fun pins s σ H Q I h => ?_⟩
  refine Subscript_ (thn (he.run pins s σ H _ I h) fun v s1 ⟨x, H1, I1, r1, q1⟩ => ?_)
  obtain ⟨a, xs, ex, hx, q⟩ := q1
  subst ex
  cases r1
  have hst : PO X (some (.UnaryOp .USub (.Constant (.int 1) k p1) p2)) (tPart (tUn (rU fun i => .int (-i)) (tC (.int 1)))) := po_some (pe_un un_neg pe_int)
  refine wpAny_Slice (thn (po_none.run pins s1 σ H1 (fun o H2 => o = none ∧ H2 = H1) I1 ⟨rfl, rfl⟩) fun vl s2 ⟨l, H2, I2, pl, el, e2⟩ => ?_)
  subst el e2
  refine thn (po_none.run pins s2 σ H2 (fun o H3 => o = none ∧ H3 = H2) I2 ⟨rfl, rfl⟩) fun vu s3 ⟨u, H3, I3, pu, eu, e3⟩ => ?_
  subst eu e3
  refine thn (hst.run pins s3 σ H3 (fun o H4 => o = some (-1) ∧ H4 = H3) I3 ⟨1, rfl, -1, rfl, rfl, rfl⟩) fun vs s4 ⟨o, H4, I4, ps, eo, e4⟩ => ?_
  subst eo e4
  have I5 : Inv X pins σ H4 { s4 with heap := s4.heap.push { cls := .type "slice", data := .fields #[vl, vu, vs] } } := I4.kept (t' := s4.toks) fun b ob q => Heap.get?_push_of_some _ q
  obtain ⟨its, r, ht, hz⟩ := I5.tuple hx
  have hlen := r.length
  cases pl
  cases pu
  show wpAny (model X.prog X.w) X.A (subscriptTail e (.Slice none none (some (.UnaryOp .USub (.Constant (.int 1) k p1) p2)) p3) (.ref a) (.ref s4.heap.objs.size)) (EP X pins σ Q) X.xe { s4 with heap := s4.heap.push { cls := .type "slice", data := .fields #[.none, .none, vs] } }
  refine tail_any (ops := [.ref a, .ref s4.heap.objs.size]) ht.typeIs (PyProof.Rows.slot_tuple_getitem.lookup) ?_ (by with_unfolding_all rfl)
  refine getItem_tuple_rev ht (Heap.IsSliceOf.new _ .none .none vs) ps ?_ (by rw [List.size_toArray]; omega)
  refine ⟨.ref _, _, I5.laid (t' := s4.toks) (o := .tup xs.reverse) (fun b ob q => Heap.get?_push_of_some _ q) (Nat.le_refl _) ?_, rfl, q _ (I5.hok.fresh (Nat.le_refl _))⟩
  exact ⟨by rw [List.length_reverse]; exact hz, _, r.reverse, _, Heap.get?_push_size _ rfl, rfl, _, rfl⟩
end Tw

namespace Tw
open PySem PySem.Spec PyProof.Rows L2
/-! ### heaps: all but d is as it was -/
def Kp (d : Addr) (H H' : Hp) : Prop := ∀ b o, b ≠ d → H b = some o → H' b = some o
theorem Kp.refl (d : Addr) (H : Hp) : Kp d H H := fun _ _ _ h => h
theorem Kp.trans {d : Addr} {H H1 H2 : Hp} (a : Kp d H H1) (b : Kp d H1 H2) : Kp d H H2 := fun c o n h => b c o n (a c o n h)
theorem Kp.at {d : Addr} {H : Hp} {o : HO} : Kp d H (upd H d o) := fun b x n h => by
  rw [upd_ne n]
  exact h
theorem same_new {H : Hp} {p : Addr} {o : HO} (h : H p = none) : Same H (upd H p o) := fun b x e => by
  rw [upd_ne (ne_of_none e h)]
  exact e
theorem Kp.of {d : Addr} {H H' : Hp} (s : Same H H') : Kp d H H' := fun b o _ h => s b o h
theorem Kp.new {d : Addr} {H : Hp} {p : Addr} {o : HO} (h : H p = none) : Kp d H (upd H p o) := .of (same_new h)
theorem Rd.keep {H H' : Hp} {a : Addr} {u : HO} (k : ∀ o, H a = some o → H' a = some o) (h : Rd H a u) : Rd H' a u := by
  rcases h with h | ⟨o, h⟩
  · exact .inl (k _ h)
  · exact .inr ⟨o, k _ h⟩
theorem Kp.sqL {K : PySem.W.Frag} {d a : Addr} {H H' : Hp} {xs : List V} (k : Kp d H H') (n : a ≠ d) (h : SqL K H a xs) : SqL K H' a xs := by
  rcases h with h | h
  · exact .inl (Rd.keep (fun o => k a o n) h)
  · exact .inr h
theorem Same.sqT {K : PySem.W.Frag} {a : Addr} {H H' : Hp} {xs : List V} (k : Same H H') (h : SqT K H a xs) : SqT K H' a xs := by
  rcases h with h | h
  · exact .inl (Rd.keep (fun o => k a o) h)
  · exact .inr h
/-- the deck: a list of three ints -/
def Dk (H : Hp) (d : Addr) : Prop := ∃ g m c : Int, H d = some (.lst [.int g, .int m, .int c])
theorem Dk.ne {H : Hp} {d p : Addr} (k : Dk H d) (h : H p = none) : p ≠ d := by
  obtain ⟨_, _, _, e⟩ := k
  intro z
  rw [z, e] at h
  cases h
theorem Dk.same {H H' : Hp} {d : Addr} (k : Dk H d) (s : Same H H') : Dk H' d := by
  obtain ⟨g, m, c, e⟩ := k
  exact ⟨g, m, c, s _ _ e⟩
theorem Dk.new {H : Hp} {d p : Addr} {o : HO} (k : Dk H d) (h : H p = none) : Dk (upd H p o) d := k.same (same_new h)
theorem Dk.upd {H : Hp} {d p : Addr} {o : HO} (k : Dk H d) (h : p ≠ d) : Dk (L2.upd H p o) d := by
  obtain ⟨g, m, c, e⟩ := k
  exact ⟨g, m, c, (upd_ne h.symm).trans e⟩
theorem Kp.sqT {K : PySem.W.Frag} {d a : Addr} {H H' : Hp} {xs : List V} (k : Kp d H H') (n : Dk H d) (h : SqT K H a xs) : SqT K H' a xs := by
  rcases h with h | h
  · refine .inl (Rd.keep (fun o e => k a o ?_ e) h)
    rintro rfl
    obtain ⟨g, m, c, e⟩ := n
    rcases h with h | ⟨o, h⟩
    · rw [h] at e; cases e
    · rw [h] at e; cases e
  · exact .inr h
/-- a new object made, all but d kept before -/
theorem Kp.then_new {d p : Addr} {H H' : Hp} {o : HO} (k : Kp d H H') (h : H' p = none) : Kp d H (upd H' p o) := k.trans (.new h)
/-- a change at a place that was free ahead -/
theorem Kp.then_at {d p : Addr} {H H' : Hp} {o : HO} (k : Kp d H H') (h : H p = none) : Kp d H (upd H' p o) := fun b x n e => by
  rw [upd_ne (ne_of_none e h)]
  exact k b x n e
theorem Kp.free {d p : Addr} {H H' : Hp} (k : Kp d H H') (n : p ≠ d) (h : H' p = none) : H p = none := by
  cases e : H p with
  | none => rfl
  | some o =>
    rw [k p o n e] at h
    cases h
theorem big {n : Nat} (h : n ≤ 100000) : n ≤ sizeLine := by
  rw [PySem.sizeLine_eq]
  omega
theorem big' {n : Nat} (h : n ≤ 100000) : n < sizeLine := by
  rw [PySem.sizeLine_eq]
  omega
theorem atI_of {α : Type} {xs : List α} {i : Int} (h0 : 0 ≤ i) (h1 : i < xs.length) : ∃ v, atI xs i = some v ∧ v ∈ xs := by
  obtain ⟨j, rfl⟩ : ∃ j : Nat, i = j := ⟨i.toNat, by omega⟩
  have hj : j < xs.length := by omega
  exact ⟨xs[j], atI_nat (List.getElem?_eq_getElem hj), List.getElem_mem hj⟩
theorem cut_map {α : Type} (f : α → V) (xs : List α) (lo hi : Option Int) : ∃ ys : List α, cutV (xs.map f) lo hi = ys.map f ∧ ys.length ≤ xs.length ∧ ∀ y ∈ ys, y ∈ xs := by
  unfold cutV
  refine ⟨(xs.drop (HT.sIx (xs.map f).length 0 lo)).take (HT.sIx (xs.map f).length (xs.map f).length hi - HT.sIx (xs.map f).length 0 lo), ?_, ?_, ?_⟩
  · rw [List.map_take, List.map_drop]
  · rw [List.length_take, List.length_drop]
    omega
  · intro y hy
    exact List.mem_of_mem_drop (List.mem_of_mem_take hy)
/-- two blocks, by what holds between them -/
theorem seq_by {t u : TS} {D : Ends} {σ : L2.St} {H : Hp} (J : L2.St → Hp → Prop) (h2 : ∀ σ' H', J σ' H' → u D σ' H') (h1 : (∀ σ' H', J σ' H' → u D σ' H') → t { D with nx := u D } σ H) : tSeq t u D σ H := h1 h2
/-- .. where d was free -/
theorem Kp.sqL0 {K : PySem.W.Frag} {d a : Addr} {H H' : Hp} {xs : List V} (k : Kp d H H') (n : H d = none) (h : SqL K H a xs) : SqL K H' a xs := by
  rcases h with h | h
  · refine .inl (Rd.keep (fun o e => k a o ?_ e) h)
    rintro rfl
    rw [n] at e
    cases e
  · exact .inr h

/-- slots of _law_deck: 0 _law_script, 1 _law_great, 2 _law_mixed, 3 _law_cell, 4 _law_more -/
def n_deckL : List Str := ["_law_script", "_law_great", "_law_mixed", "_law_cell", "_law_more"]
def t_deckL (K : PySem.W.Frag) : TS :=
  (tSeq (tPar 1 2 (tCons (tC (.int 0)) (tCons (tOp rAddI (tC (.int 2917)) (tOp rMulI (tC (.int 41)) (tCB (rLenQ K) (tCons (tVar 0) tNil)))) tNil)))
    (tSeq (tFor (iList K (L2.tSl (rSlL K) (tVar 0) tNoPart (tPart (tC (.int 60))))) (gName 3) (tSeq (tAsg (tOp rAddI (tOp rAddI (tOp rMulI (tC (.int 2)) (tCB rAbs (tCons (tVar 3) tNil))) (tCB rInt1 (tCons (tOp rLtI (tVar 3) (tC (.int 0))) tNil))) (tC (.int 1))) (gName 4))
    (tSeq (tAsg (tOp rModI (tCB rInt1 (tCons (tOp rAddI (tOp rMulI (tVar 2) (tC (.int 6364136223846793005))) (tVar 4)) tNil)) (tC (.int 2305843009213693951))) (gName 2))
    (tIfS (tTest (tOp rGeI (tCB rAbs (tCons (tVar 3) tNil)) (tOp rPowI (tC (.int 10)) (tC (.int 18))))) (tAsg (tOp rAddI (tOp rMulI (tVar 1) (tC (.int 37))) (tCB rAbs (tCons (tVar 3) tNil))) (gName 1)) tNext))))
    (tRet (tLst (tCons (tVar 1) (tCons (tVar 2) (tCons (tC (.int 0)) tNil)))))))

/-- a new deck -/
def sp_deckL (K : PySem.W.Frag) : Sp := fun vs H Q _ => ∃ (a : Addr) (ns : List Int), vs = [.ref a] ∧ SqL K H a (ns.map V.int) ∧
  ∀ (H' : Hp) (d : Addr), H d = none → Same H H' → Dk H' d → Q (.ref d) H'
theorem pure_deckL {K : PySem.W.Frag} (vs : List V) (H : Hp) (Q : VK) (E : XK) (h : sp_deckL K vs H Q E) : t_deckL K { nx := fun _ H' => Q .non H', rt := Q } (start n_deckL vs) H := by
  obtain ⟨a, ns, rfl, hS, q⟩ := h
  refine ⟨.ref a, rfl, a, _, rfl, .inl hS, _, _, rfl, rfl, .inl ⟨by decide, by decide⟩, _, _, rfl, rfl, _, _, rfl, ?_⟩
  refine ⟨.ref a, rfl, 60, rfl, a, _, rfl, hS, fun p np => ?_⟩
  obtain ⟨ms, em, _⟩ := cut_map V.int ns none (some 60)
  rw [em]
  refine ⟨p, rfl, ⟨_, .inl (.inl upd_same)⟩, for_list (K := K) (a := p) (xs := ms.map V.int) (fun i σ H' => ∃ (g m : Int) (y3 y4 : Option V), σ = [some (.ref a), some (.int g), some (.int m), y3, y4] ∧ H' = upd H p (.lst (ms.map V.int))) ⟨_, _, none, none, rfl, rfl⟩ (fun i σ H' _ hp => ?_) (fun i x σ H' hx hp => ?_) (fun σ H' hp => ?_)⟩
  · obtain ⟨_, _, _, _, _, rfl⟩ := hp
    exact .inl (.inl upd_same)
  · obtain ⟨g, m, y3, y4, rfl, rfl⟩ := hp
    obtain ⟨z, rfl⟩ : ∃ z, x = V.int z := by
      rw [List.getElem?_map] at hx
      cases e : ms[i]? with
      | none => rw [e] at hx; cases hx
      | some z => rw [e] at hx; exact ⟨z, (Option.some.inj hx).symm⟩
    refine ⟨.int z, rfl, z, rfl, _, _, rfl, rfl, .inl ⟨by decide, by decide⟩, .int z, rfl, _, _, rfl, rfl, .inr ⟨_, rfl, _, _, rfl, rfl, _, _, rfl, rfl, ?_⟩⟩
    refine ⟨.int m, rfl, _, _, rfl, rfl, .inr ⟨by decide, by decide⟩, _, rfl, _, _, rfl, rfl, .inl ⟨_, rfl, _, _, rfl, rfl, (by decide : (0 : Int) < 2305843009213693951), ?_⟩⟩
    refine ⟨.int z, rfl, z, rfl, _, _, rfl, rfl, ⟨by decide, by decide, by decide⟩, _, _, rfl, rfl, _, rfl, ite2 (fun _ => ?_) (fun _ => ?_)⟩
    · exact ⟨.int g, rfl, _, _, rfl, rfl, .inr ⟨by decide, by decide⟩, .int z, rfl, z, rfl, _, _, rfl, rfl, _, _, _, _, rfl, rfl⟩
    · exact ⟨_, _, _, _, rfl, rfl⟩
  · obtain ⟨g, m, y3, y4, rfl, rfl⟩ := hp
    refine ⟨_, rfl, _, rfl, big (by show 3 ≤ 100000; decide), fun d nd => ?_⟩
    have nd2 : H d = none := (same_new np).free nd
    exact q _ d nd2 ((same_new np).trans (same_new nd)) ⟨_, _, _, upd_same⟩

/-- slots of _law_draw: 0 _law_deck_here, 1 _law_many, 2 _law_digit, 3 _law_mixed -/
def n_drawL : List Str := ["_law_deck_here", "_law_many", "_law_digit", "_law_mixed"]
def t_drawL (K : PySem.W.Frag) : TS :=
  (tSeq (tIfS (tTest (tOp rGtI (tOp (rIxL K) (tVar 0) (tC (.int 0))) (tC (.int 0)))) (tSeq (tAsg (tOp rModI (tCB rInt1 (tCons (tOp (rIxL K) (tVar 0) (tC (.int 0))) tNil)) (tVar 1)) (gName 2))
    (tSeq (tAsg (tOp rDivI (tOp (rIxL K) (tVar 0) (tC (.int 0))) (tVar 1)) (gSub (tVar 0) (tC (.int 0)) rSetL))
    (tRet (tVar 2)))) tNext)
    (tSeq (tAsg (tOp rAddI (tOp (rIxL K) (tVar 0) (tC (.int 2))) (tC (.int 1))) (gSub (tVar 0) (tC (.int 2)) rSetL))
    (tSeq (tAsg (tOp rModI (tCB rInt1 (tCons (tOp rAddI (tOp (rIxL K) (tVar 0) (tC (.int 1))) (tOp rMulI (tC (.int 11400714819323198485)) (tOp (rIxL K) (tVar 0) (tC (.int 2))))) tNil)) (tC (.int 18446744073709551557))) (gName 3))
    (tSeq (tAsg (tOp rModI (tCB rInt1 (tCons (tOp rMulI (tVar 3) (tOp rAddI (tOp rModI (tVar 3) (tC (.int 4294967291))) (tC (.int 7)))) tNil)) (tC (.int 2305843009213693951))) (gName 3))
    (tRet (tOp rModI (tOp rDivI (tOp rModI (tCB rInt1 (tCons (tOp rMulI (tVar 3) (tVar 3)) tNil)) (tC (.int 2305843009213693921))) (tC (.int 2048))) (tVar 1)))))))

/-- a number below n -/
def sp_drawL : Sp := fun vs H Q _ => ∃ (d : Addr) (n : Int), vs = [.ref d, .int n] ∧ Dk H d ∧ 0 < n ∧ n < 1073741824 ∧
  ∀ (H' : Hp) (r : Int), 0 ≤ r → r < n → Kp d H H' → Dk H' d → Q (.int r) H'
theorem mod_lt64 (x : Int) : -(2 ^ 64) < x % 18446744073709551557 ∧ x % 18446744073709551557 < 2 ^ 64 := by
  have h1 := Int.emod_nonneg x (by decide : (18446744073709551557 : Int) ≠ 0)
  have h2 := Int.emod_lt_of_pos x (by decide : (0 : Int) < 18446744073709551557)
  constructor <;> omega
theorem mod_lt61 (x : Int) : -(2 ^ 64) < x % 2305843009213693951 ∧ x % 2305843009213693951 < 2 ^ 64 := by
  have h1 := Int.emod_nonneg x (by decide : (2305843009213693951 : Int) ≠ 0)
  have h2 := Int.emod_lt_of_pos x (by decide : (0 : Int) < 2305843009213693951)
  constructor <;> omega
theorem pure_drawL {K : PySem.W.Frag} (vs : List V) (H : Hp) (Q : VK) (E : XK) (h : sp_drawL vs H Q E) : t_drawL K { nx := fun _ H' => Q .non H', rt := Q } (start n_drawL vs) H := by
  obtain ⟨d, n, rfl, ⟨g, m, c, e⟩, n0, n1, q⟩ := h
  have hL : SqL K H d [.int g, .int m, .int c] := .inl (.inl e)
  refine ⟨.ref d, rfl, d, _, 0, .int g, rfl, rfl, hL, rfl, _, _, rfl, rfl, _, rfl, ite2 (fun _ => ?_) (fun _ => ?_)⟩
  · refine ⟨.ref d, rfl, d, _, 0, .int g, rfl, rfl, hL, rfl, .inl ⟨_, rfl, .int n, rfl, _, _, rfl, rfl, n0, ?_⟩⟩
    refine ⟨.ref d, rfl, d, _, 0, .int g, rfl, rfl, hL, rfl, .int n, rfl, _, _, rfl, rfl, ⟨n0, n1⟩, .ref d, rfl, d, _, 0, 0, rfl, rfl, e, rfl, ?_⟩
    refine ⟨_, rfl, q _ _ (Int.emod_nonneg _ (by omega)) (Int.emod_lt_of_pos _ n0) Kp.at ⟨_, _, _, upd_same⟩⟩
  · refine ⟨.ref d, rfl, d, _, 2, .int c, rfl, rfl, hL, rfl, _, _, rfl, rfl, .ref d, rfl, d, _, 2, 2, rfl, rfl, e, rfl, ?_⟩
    have hL2 : SqL K (upd H d (.lst [.int g, .int m, .int (c + 1)])) d [.int g, .int m, .int (c + 1)] := .inl (.inl upd_same)
    refine ⟨.ref d, rfl, d, _, 1, .int m, rfl, rfl, hL2, rfl, .ref d, rfl, d, _, 2, .int (c + 1), rfl, rfl, hL2, rfl, _, _, rfl, rfl, .inl ⟨by decide, by decide⟩, _, _, rfl, rfl, .inl ⟨_, rfl, _, _, rfl, rfl, (by decide : (0 : Int) < 18446744073709551557), ?_⟩⟩
    refine ⟨_, rfl, _, rfl, _, _, rfl, rfl, (by decide : (0 : Int) < 4294967291), _, _, rfl, rfl, _, _, rfl, rfl, .inl (mod_lt64 _), .inl ⟨_, rfl, _, _, rfl, rfl, (by decide : (0 : Int) < 2305843009213693951), ?_⟩⟩
    refine ⟨_, rfl, _, rfl, _, _, rfl, rfl, .inl (mod_lt61 _), .inl ⟨_, rfl, _, _, rfl, rfl, (by decide : (0 : Int) < 2305843009213693921), _, _, rfl, rfl, ⟨by decide, by decide⟩, .int n, rfl, _, _, rfl, rfl, n0, ?_⟩⟩
    exact q _ _ (Int.emod_nonneg _ (by omega)) (Int.emod_lt_of_pos _ n0) Kp.at ⟨_, _, _, upd_same⟩

/-- slots of _law_pick: 0 _law_deck_here, 1 _law_items -/
def n_pickL : List Str := ["_law_deck_here", "_law_items"]
def t_pickL (K : PySem.W.Frag) : TS :=
  (tRet (tOp (rIxL K) (tVar 1) (tCall sp_drawL [] E0 (tCons (tVar 0) (tCons (tCB (rLenQ K) (tCons (tVar 1) tNil)) tNil)))))

/-- one of some items -/
def sp_pickL (K : PySem.W.Frag) : Sp := fun vs H Q _ => ∃ (d l : Addr) (xs : List V), vs = [.ref d, .ref l] ∧ Dk H d ∧ l ≠ d ∧ SqL K H l xs ∧ 0 < xs.length ∧ xs.length < 1073741824 ∧
  ∀ (H' : Hp) (v : V), v ∈ xs → Kp d H H' → Dk H' d → Q v H'
theorem pure_pickL {K : PySem.W.Frag} (vs : List V) (H : Hp) (Q : VK) (E : XK) (h : sp_pickL K vs H Q E) : t_pickL K { nx := fun _ H' => Q .non H', rt := Q } (start n_pickL vs) H := by
  obtain ⟨d, l, xs, rfl, hD, ne, hL, n0, n1, q⟩ := h
  refine ⟨.ref l, rfl, .ref d, rfl, .ref l, rfl, l, xs, rfl, .inl hL, d, xs.length, rfl, hD, by omega, by omega, fun H' r r0 r1 k hD' => ?_⟩
  obtain ⟨v, ev, mv⟩ := atI_of (xs := xs) r0 r1
  exact ⟨l, xs, r, v, rfl, rfl, k.sqL ne hL, ev, q H' v mv k hD'⟩

/-! ### names: one to eight letters -/
def IsLt (c : Nat) : Prop := 97 ≤ c ∧ c ≤ 122
def IsNm (z : Str) : Prop := 1 ≤ (TL.tl z).length ∧ (TL.tl z).length ≤ 8 ∧ ∀ c ∈ TL.tl z, IsLt c
abbrev letters : Str := "abcdefghijklmnopqrstuvwxyz"
theorem letters_get : ∀ k : Nat, k < 26 → (letters.cps.toList)[k]? = some (97 + k) := by decide +kernel
theorem letters_len : letters.length ≤ sizeLine := by
  rw [PySem.sizeLine_eq]
  decide +kernel
theorem letters_at {i : Int} (h0 : 0 ≤ i) (h1 : i < 26) : atI letters.cps.toList i = some (97 + i.toNat) := by
  obtain ⟨j, rfl⟩ : ∃ j : Nat, i = j := ⟨i.toNat, by omega⟩
  exact atI_nat (letters_get j (by omega))
theorem len_tl_le {z : Str} {n : Nat} (h : (TL.tl z).length ≤ n) (hn : n ≤ 100000) : z.length ≤ sizeLine := by
  rw [TL.len_tl]
  exact big (by omega)
/-- texts of one sign each, joined -/
theorem tl_joinE : ∀ ys : List Str, TL.tl (Txt.join "" ys) = (ys.map TL.tl).flatten
  | [] => by
    rw [TL.join_eq]
    rfl
  | [x] => by
    rw [TL.join_eq]
    show TL.tl x = _
    simp
  | x :: y :: r => by
    have ih := tl_joinE (y :: r)
    rw [TL.join_eq] at ih
    rw [TL.join_eq]
    show TL.tl (x ++ ("" : Str) ++ Str.join "" (y :: r)) = _
    rw [TL.tl_append, TL.tl_append, ih]
    have e : TL.tl ("" : Str) = [] := by decide +kernel
    rw [e]
    simp
theorem tl_singles (cs : List Nat) : TL.tl (Txt.join "" (cs.map fun c => (⟨#[c]⟩ : Str))) = cs := by
  rw [tl_joinE]
  induction cs with
  | nil => rfl
  | cons c r ih =>
    rw [List.map_cons, List.map_cons, List.flatten_cons, ih]
    rfl
theorem tl_cutS (z : Str) (lo hi : Option Int) : TL.tl (cutS z lo hi) = ((TL.tl z).drop (HT.sIx (TL.tl z).length 0 lo)).take (HT.sIx (TL.tl z).length (TL.tl z).length hi - HT.sIx (TL.tl z).length 0 lo) := by
  show ((z.cps.toList.drop (HT.sIx z.length 0 lo)).take (HT.sIx z.length z.length hi - HT.sIx z.length 0 lo)).toArray.toList = _
  rw [TL.len_tl]
theorem tl_cut_to (z : Str) (k : Nat) : TL.tl (cutS z none (some (k : Int))) = (TL.tl z).take k := by
  rw [tl_cutS, HT.sIx_none, HT.sIx_nat, List.drop_zero, Nat.sub_zero]
  by_cases h : k ≤ (TL.tl z).length
  · rw [Nat.min_eq_left h]
  · rw [Nat.min_eq_right (by omega), List.take_of_length_le (Nat.le_refl _), List.take_of_length_le (by omega)]
theorem tl_cut_from (z : Str) (k : Nat) : TL.tl (cutS z (some (k : Int)) none) = (TL.tl z).drop k := by
  rw [tl_cutS, HT.sIx_none, HT.sIx_nat]
  by_cases h : k ≤ (TL.tl z).length
  · rw [Nat.min_eq_left h]
    exact List.take_of_length_le (by rw [List.length_drop]; omega)
  · rw [Nat.min_eq_right (by omega), List.drop_of_length_le (Nat.le_refl _), List.drop_of_length_le (by omega)]
    simp
theorem tl_mul (z : Str) (n : Nat) (hn : 2 ≤ n) (hz : 1 ≤ (TL.tl z).length) : TL.tl (Txt.mul z (n : Int)) = (List.replicate n (TL.tl z)).flatten := by
  have h1 : ¬ ((n : Int) < 1) := by omega
  have h2 : ((n : Int) == 1 || z.length == 0) = false := by
    rw [TL.len_tl, Bool.or_eq_false_iff, beq_eq_false_iff_ne, beq_eq_false_iff_ne]
    omega
  unfold Txt.mul
  rw [if_neg h1, h2, if_neg Bool.false_ne_true, Int.toNat_natCast]
  show ((List.replicate n z.cps).foldl (· ++ ·) #[]).toList = _
  have gen : ∀ (m : Nat) (acc : Array Nat), ((List.replicate m z.cps).foldl (· ++ ·) acc).toList = acc.toList ++ (List.replicate m z.cps.toList).flatten := by
    intro m
    induction m with
    | zero => intro acc; simp
    | succ m ih =>
      intro acc
      rw [List.replicate_succ, List.foldl_cons, ih, List.replicate_succ, List.flatten_cons, Array.toList_append, List.append_assoc]
  rw [gen]
  rfl
theorem mulOk_small {z : Str} {n : Nat} (hn : n ≤ 100) (hz : (TL.tl z).length ≤ 100) : MulOk z (n : Int) := by
  have hl : z.length ≤ 100 := by rw [TL.len_tl]; exact hz
  refine ⟨?_, fun h1 h2 => ?_, fun h1 h2 => ?_⟩
  · rw [Bool.or_eq_false_iff, decide_eq_false_iff_not, decide_eq_false_iff_not]
    omega
  · have h3 : 0 < (n : Int) := by omega
    have h4 : (100 : Int) * n ≤ 2 ^ 63 - 1 := by omega
    have h5 : (100 : Int) ≤ (2 ^ 63 - 1) / n := (Int.le_ediv_iff_mul_le h3).mpr h4
    omega
  · have h6 : z.length * (n : Int).toNat ≤ 10000 := by
      rw [Int.toNat_natCast]
      exact Nat.le_trans (Nat.mul_le_mul hl hn) (by decide)
    unfold PySem.Builtin.Str.tooLong
    rw [decide_eq_false_iff_not]
    have := big (n := z.length * (n : Int).toNat) (by omega)
    omega
/-! ### lists without repeats -/
theorem len_le_of_sub {α : Type} [DecidableEq α] : ∀ {l m : List α}, l.Nodup → (∀ x ∈ l, x ∈ m) → l.length ≤ m.length
  | [], _, _, _ => Nat.zero_le _
  | x :: l, m, hn, hs => by
    have hx : x ∈ m := hs x List.mem_cons_self
    obtain ⟨h1, h2⟩ := List.nodup_cons.mp hn
    have ih := len_le_of_sub (l := l) (m := m.erase x) h2 fun y hy => (List.mem_erase_of_ne (fun e => h1 (by rw [← e]; exact hy))).mpr (hs y (List.mem_cons_of_mem _ hy))
    rw [List.length_erase_of_mem hx] at ih
    have : 0 < m.length := List.length_pos_of_mem hx
    rw [List.length_cons]
    omega
def spare (k : Nat) : Str := ⟨#[97 + k / 26, 97 + k % 26]⟩
def spares : List Str := (List.range 676).map spare
theorem spare_inj {a b : Nat} (h : spare a = spare b) : a = b := by
  have e : [97 + a / 26, 97 + a % 26] = [97 + b / 26, 97 + b % 26] := congrArg (fun z : Str => z.cps.toList) h
  injection e with e1 e2
  injection e2 with e3 _
  have h1 := Nat.div_add_mod a 26
  have h2 := Nat.div_add_mod b 26
  omega
theorem spares_len : spares.length = 676 := by
  unfold spares
  rw [List.length_map, List.length_range]
theorem spares_get {k : Nat} (h : k < 676) : spares[k]? = some (spare k) := by
  unfold spares
  rw [List.getElem?_map, List.getElem?_range h]
  rfl
theorem spare_nm {k : Nat} (h : k < 676) : IsNm (spare k) := by
  refine ⟨(by show 1 ≤ 2; decide), (by show 2 ≤ 8; decide), fun c hc => ?_⟩
  have hc' : c ∈ [97 + k / 26, 97 + k % 26] := hc
  have : k / 26 < 26 := by omega
  have : k % 26 < 26 := Nat.mod_lt _ (by decide)
  unfold IsLt
  rcases List.mem_cons.mp hc' with rfl | hc'
  · omega
  · rcases List.mem_cons.mp hc' with rfl | hc'
    · omega
    · cases hc'
theorem used_le {ns : List Str} {n : Nat} (hn : n ≤ 676) (h : ∀ j, j < n → spare j ∈ ns) : n ≤ ns.length := by
  have e : ((List.range n).map spare).length = n := by rw [List.length_map, List.length_range]
  rw [← e]
  refine len_le_of_sub ?_ fun x hx => ?_
  · exact List.pairwise_map.mpr (List.Pairwise.imp (fun hne he => hne (spare_inj he)) List.nodup_range)
  · obtain ⟨j, hj, rfl⟩ := List.mem_map.mp hx
    exact h j (List.mem_range.mp hj)

/-- slots of _law_name: 0 _law_deck_here, 1 _law_letters, 2 _law_k -/
def n_nameL : List Str := ["_law_deck_here", "_law_letters", "_law_k"]
def t_nameL (K : PySem.W.Frag) : TS :=
  (tSeq (tAsg (tC (.str "abcdefghijklmnopqrstuvwxyz")) (gName 1))
    (tRet (tM1 (rJoin K) (tC (.str "")) (tLc (iRng1 (tCons (tOp rAddI (tC (.int 1)) (tCall sp_drawL [] E0 (tCons (tVar 0) (tCons (tC (.int 8)) tNil)))) tNil)) (gName 2) tYes (tOp rIxS (tVar 1) (tCall sp_drawL [] E0 (tCons (tVar 0) (tCons (tC (.int 26)) tNil)))) [2]))))

/-- some name -/
def sp_nameL : Sp := fun vs H Q _ => ∃ d : Addr, vs = [.ref d] ∧ Dk H d ∧ ∀ (H' : Hp) (z : Str), IsNm z → Kp d H H' → Dk H' d → Q (.str z) H'
theorem sum_ones (cs : List Nat) : ((cs.map fun c => (⟨#[c]⟩ : Str)).map (·.length)).sum = cs.length := by
  induction cs with
  | nil => rfl
  | cons c r ih =>
    rw [List.map_cons, List.map_cons, List.sum_cons, ih, List.length_cons]
    show 1 + r.length = r.length + 1
    omega
theorem pure_nameL {K : PySem.W.Frag} (vs : List V) (H : Hp) (Q : VK) (E : XK) (h : sp_nameL vs H Q E) : t_nameL K { nx := fun _ H' => Q .non H', rt := Q } (start n_nameL vs) H := by
  obtain ⟨d, rfl, hD, q⟩ := h
  refine ⟨⟨_, rfl⟩, .ref d, rfl, d, 8, rfl, hD, by decide, by decide, fun H1 r r0 r1 k1 hD1 => ?_⟩
  refine ⟨_, _, rfl, rfl, 1 + r, rfl, by omega, by omega, fun D nD => ?_⟩
  have nDd : D ≠ d := hD1.ne nD
  refine lc_range (lo := 0) (n := (1 + r).toNat) (fun i H' => ∃ cs : List Nat, cs.length = i ∧ (∀ c ∈ cs, IsLt c) ∧ H' D = some (.lst (cs.map fun c => V.str ⟨#[c]⟩)) ∧ Kp d H1 H' ∧ Dk H' d)
    ⟨[], rfl, (fun _ h => nomatch h), upd_same, Kp.new nD, hD1.new nD⟩ (fun i H' hi hp => ?_) (fun H' hp => ?_)
  · obtain ⟨cs, el, hc, eD, kk, hD'⟩ := hp
    refine ⟨rfl, .str letters, rfl, .ref d, rfl, d, 26, rfl, hD', by decide, by decide, fun H2 r2 s0 s1 k2 hD2 => ?_⟩
    refine ⟨letters, r2, 97 + r2.toNat, rfl, rfl, letters_len, letters_at s0 s1, _, k2 D _ nDd eD, ?_, cs ++ [97 + r2.toNat], ?_, ?_, ?_, ?_, ?_⟩
    · rw [List.length_map]
      exact big' (by omega)
    · rw [List.length_append, el]
      rfl
    · intro c hc'
      rcases List.mem_append.mp hc' with h | h
      · exact hc c h
      · rcases List.mem_cons.mp h with rfl | h
        · unfold IsLt
          omega
        · cases h
    · rw [upd_same, List.map_append]
      rfl
    · exact (kk.trans k2).then_at nD
    · exact hD2.upd nDd
  · obtain ⟨cs, el, hc, eD, kk, hD'⟩ := hp
    refine ⟨"", D, cs.map fun c => (⟨#[c]⟩ : Str), rfl, rfl, .inl (.inl (.inl ?_)), ?_, ?_⟩
    · rw [eD, List.map_map]
      rfl
    · rw [sum_ones, List.length_map]
      have e : ("" : Str).length = 0 := by decide +kernel
      rw [e]
      omega
    · refine q H' _ ⟨?_, ?_, ?_⟩ (k1.trans kk) hD'
      · rw [tl_singles]
        omega
      · rw [tl_singles]
        omega
      · rw [tl_singles]
        exact hc

/-- slots of _law_names: 0 _law_deck_here, 1 _law_many, 2 _law_letters, 3 _law_spare, 4 _law_way, 5 _law_base, 6 _law_place, 7 _law_at, 8 _law_names_here, 9 _law_k, 10 _law_kind, 11 _law_name_here -/
def n_namesL : List Str := ["_law_deck_here", "_law_many", "_law_letters", "_law_spare", "_law_way", "_law_base", "_law_place", "_law_at", "_law_names_here", "_law_k", "_law_kind", "_law_name_here"]
def t_namesL (K : PySem.W.Frag) : TS :=
  (tSeq (tAsg (tC (.str "abcdefghijklmnopqrstuvwxyz")) (gName 2))
    (tSeq (tAsg (tLc (iRng1 (tCons (tC (.int 676)) tNil)) (gName 9) tYes (tOp rAddS (tOp rIxS (tVar 2) (tOp rDivI (tVar 9) (tC (.int 26)))) (tOp rIxS (tVar 2) (tOp rModI (tVar 9) (tC (.int 26))))) [9]) (gName 3))
    (tSeq (tPar 4 5 (tCons (tCall sp_drawL [] E0 (tCons (tVar 0) (tCons (tC (.int 4)) tNil))) (tCons (L2.tSl rSlS (tOp rRepS (tCall sp_nameL [] E0 (tCons (tVar 0) tNil)) (tC (.int 8))) tNoPart (tPart (tC (.int 8)))) tNil)))
    (tSeq (tPar3 6 7 8 (tCons (tCall sp_drawL [] E0 (tCons (tVar 0) (tCons (tC (.int 8)) tNil))) (tCons (tC (.int 0)) (tCons (tLst tNil) tNil))))
    (tSeq (tFor (iRng1 (tCons (tVar 1) tNil)) (gName 9) (tSeq (tAsg (tIf (tTest (tOp rEq (tVar 4) (tC (.int 3)))) (tCall sp_drawL [] E0 (tCons (tVar 0) (tCons (tC (.int 3)) tNil))) (tVar 4)) (gName 10))
    (tSeq (tIfS (tTest (tOp rEq (tVar 10) (tC (.int 0)))) (tAsg (tCall sp_nameL [] E0 (tCons (tVar 0) tNil)) (gName 11)) (tIfS (tTest (tOp rEq (tVar 10) (tC (.int 1)))) (tAsg (tOp rAddS (tOp rAddS (L2.tSl rSlS (tVar 5) tNoPart (tPart (tVar 6))) (tOp rIxS (tVar 2) (tCall sp_drawL [] E0 (tCons (tVar 0) (tCons (tC (.int 26)) tNil))))) (L2.tSl rSlS (tVar 5) (tPart (tOp rAddI (tVar 6) (tC (.int 1)))) tNoPart)) (gName 11)) (tAsg (L2.tSl rSlS (tVar 5) tNoPart (tPart (tOp rAddI (tC (.int 1)) (tCall sp_drawL [] E0 (tCons (tVar 0) (tCons (tC (.int 8)) tNil)))))) (gName 11))))
    (tSeq (tWhile (tTest (tOp (rIn K false) (tVar 11) (tVar 8))) (tSeq (tAsg (tOp (rIxL K) (tVar 3) (tVar 7)) (gName 11))
    (tAsg (tOp rAddI (tVar 7) (tC (.int 1))) (gName 7))))
    (tDrop (tBM K "list" rAppend (tVar 8) (tCons (tVar 11) tNil)))))))
    (tRet (tVar 8)))))))

/-- n unlike names, in a new list -/
def sp_namesL : Sp := fun vs H Q _ => ∃ (d : Addr) (n : Nat), vs = [.ref d, .int (n : Int)] ∧ Dk H d ∧ n ≤ 600 ∧
  ∀ (H' : Hp) (l : Addr) (ns : List Str), ns.length = n → ns.Nodup → (∀ z ∈ ns, IsNm z) → H l = none → l ≠ d → H' l = some (.lst (ns.map V.str)) → Kp d H H' → Dk H' d → Q (.ref l) H'
structure NmI (d S L : Addr) (H0 : Hp) (i : Nat) (ns : List Str) (H' : Hp) : Prop where
  len : ns.length = i
  nd : ns.Nodup
  nm : ∀ z ∈ ns, IsNm z
  eL : H' L = some (.lst (ns.map V.str))
  eS : H' S = some (.lst (spares.map V.str))
  dk : Dk H' d
  kp : Kp d H0 H'
theorem NmI.step {d S L : Addr} {H0 : Hp} {i : Nat} {ns : List Str} {H' H2 : Hp} (I : NmI d S L H0 i ns H') (hL : L ≠ d) (hS : S ≠ d) (k : Kp d H' H2) (hD : Dk H2 d) : NmI d S L H0 i ns H2 :=
  ⟨I.len, I.nd, I.nm, k L _ hL I.eL, k S _ hS I.eS, hD, I.kp.trans k⟩
theorem len_rep8 (l : List Nat) : ((List.replicate 8 l).flatten).length = 8 * l.length := by
  rw [List.length_flatten, List.map_replicate]
  simp [List.replicate]
  omega
def slotNat (σ : L2.St) (i : Nat) : Nat := match σ[i]? with
  | some (some (V.int k)) => k.toNat
  | _ => 0
theorem two_signs (a b : Nat) : (⟨#[a]⟩ : Str) ++ ⟨#[b]⟩ = ⟨#[a, b]⟩ := TL.ext_tl (by
  rw [TL.tl_append]
  rfl)
theorem inV_strs (z : Str) (ns : List Str) : inV (.str z) (ns.map V.str) = ns.contains z := by
  unfold inV
  rw [List.any_map]
  induction ns with
  | nil => rfl
  | cons y r ih =>
    rw [List.any_cons, List.contains_cons, ih]
    congr 1
    show (y == z) = (z == y)
    rw [Bool.eq_iff_iff, beq_iff_eq, beq_iff_eq]
    exact eq_comm
theorem flat_strs (ns : List Str) : (ns.map V.str).all flatV = true := by
  rw [List.all_map]
  exact List.all_eq_true.mpr fun _ _ => rfl
theorem nm_sign {a b : List Nat} {c : Nat} {z : Str} (hz : TL.tl z = a ++ [c] ++ b) (hc : IsLt c) (ha : ∀ x ∈ a, IsLt x) (hb : ∀ x ∈ b, IsLt x) (hl : a.length + b.length ≤ 7) : IsNm z := by
  refine ⟨?_, ?_, ?_⟩
  · rw [hz]
    simp
    omega
  · rw [hz]
    simp
    omega
  · rw [hz]
    intro x hx
    rcases List.mem_append.mp hx with h | h
    · rcases List.mem_append.mp h with h | h
      · exact ha x h
      · rcases List.mem_cons.mp h with rfl | h
        · exact hc
        · cases h
    · exact hb x h
theorem pure_namesL {K : PySem.W.Frag} (vs : List V) (H : Hp) (Q : VK) (E : XK) (h : sp_namesL vs H Q E) : t_namesL K { nx := fun _ H' => Q .non H', rt := Q } (start n_namesL vs) H := by
  obtain ⟨d, n, rfl, hD, hn, q⟩ := h
  -- the spare names
  refine ⟨676, rfl, by decide, by decide, fun S nS => ?_⟩
  have hSd : S ≠ d := hD.ne nS
  refine lc_range (lo := 0) (n := (676 : Int).toNat) (fun i H' => H' = upd H S (.lst ((spares.take i).map V.str))) rfl (fun i H' hi hp => ?_) (fun H1 hp => ?_)
  · subst hp
    have h676 : (676 : Int).toNat = 676 := rfl
    have a0 : (0 : Int) ≤ (0 + (i : Int)) / 26 := by omega
    have a1 : (0 + (i : Int)) / 26 < 26 := by omega
    have b0 : (0 : Int) ≤ (0 + (i : Int)) % 26 := by omega
    have b1 : (0 + (i : Int)) % 26 < 26 := by omega
    refine ⟨rfl, .str letters, rfl, .int (0 + i), rfl, _, _, rfl, rfl, ⟨by decide, by decide⟩, letters, _, _, rfl, rfl, letters_len, letters_at a0 a1, .str letters, rfl, .int (0 + i), rfl, _, _, rfl, rfl, (by decide : (0 : Int) < 26), letters, _, _, rfl, rfl, letters_len, letters_at b0 b1, _, _, rfl, rfl, ?_, _, upd_same, ?_, ?_⟩
    · exact big (by show 1 + 1 ≤ 100000; decide)
    · rw [List.length_map, List.length_take]
      exact big' (by rw [spares_len]; omega)
    · have e : spares.take (i + 1) = spares.take i ++ [spare i] := by
        rw [List.take_add_one, spares_get (by omega)]
        rfl
      have e2 : (⟨#[97 + ((0 + (i : Int)) / 26).toNat]⟩ : Str) ++ ⟨#[97 + ((0 + (i : Int)) % 26).toNat]⟩ = spare i := by
        rw [two_signs]
        unfold spare
        have e3 : ((0 + (i : Int)) / 26).toNat = i / 26 := by omega
        have e4 : ((0 + (i : Int)) % 26).toNat = i % 26 := by omega
        rw [e3, e4]
      rw [e, upd_upd, e2, List.map_append]
      rfl
  · have eSp : spares.take (676 : Int).toNat = spares := List.take_of_length_le (by rw [spares_len]; decide)
    rw [eSp] at hp
    have hD1 : Dk H1 d := by rw [hp]; exact hD.new nS
    have k1 : Kp d H H1 := by rw [hp]; exact Kp.new nS
    have eS1 : H1 S = some (.lst (spares.map V.str)) := by rw [hp]; exact upd_same
    -- way, base
    refine ⟨.ref d, rfl, d, 4, rfl, hD1, by decide, by decide, fun H3 way w0 w1 k3 hD3 => ?_⟩
    refine ⟨.ref d, rfl, d, rfl, hD3, fun H4 z0 hz0 k4 hD4 => ?_⟩
    have hz1 : 1 ≤ (TL.tl z0).length := hz0.1
    have hz8 : (TL.tl z0).length ≤ 8 := hz0.2.1
    have em : TL.tl (Txt.mul z0 8) = (List.replicate 8 (TL.tl z0)).flatten := tl_mul z0 8 (by decide) hz1
    have lm : (TL.tl (Txt.mul z0 8)).length = 8 * (TL.tl z0).length := by
      rw [em]
      exact len_rep8 _
    refine ⟨z0, 8, rfl, rfl, mulOk_small (n := 8) (by decide) (by omega), 8, rfl, _, rfl, len_tl_le (n := 64) (by omega) (by decide), _, _, rfl, ?_⟩
    generalize hbs : cutS (Txt.mul z0 8) none (some 8) = bs
    have tb : TL.tl bs = (TL.tl (Txt.mul z0 8)).take 8 := by rw [← hbs]; exact tl_cut_to _ 8
    have lb : (TL.tl bs).length = 8 := by
      rw [tb, List.length_take, lm]
      omega
    have cb : ∀ c ∈ TL.tl bs, IsLt c := fun c hc => by
      rw [tb] at hc
      have hc2 := List.mem_of_mem_take hc
      rw [em] at hc2
      obtain ⟨l, hl, hcl⟩ := List.mem_flatten.mp hc2
      rw [List.eq_of_mem_replicate hl] at hcl
      exact hz0.2.2 c hcl
    have szb : bs.length ≤ sizeLine := len_tl_le (n := 8) (by omega) (by decide)
    -- place, at, names
    refine ⟨.ref d, rfl, d, 8, rfl, hD4, by decide, by decide, fun H5 pl p0 p1 k5 hD5 => ⟨big (by decide), fun L nL => ⟨_, _, _, rfl, ?_⟩⟩⟩
    have hLd : L ≠ d := hD5.ne nL
    have k35 : Kp d H1 H5 := (k3.trans k4).trans k5
    have eS5 : H5 S = some (.lst (spares.map V.str)) := k35 S _ hSd eS1
    have hSL : S ≠ L := ne_of_none eS5 nL
    have nL0 : H L = none := (k1.trans k35).free hLd nL
    refine ⟨.int n, rfl, n, rfl, by omega, by omega, for_range (lo := 0) (n := (n : Int).toNat) (fun i σ H' => ∃ (ns : List Str) (at_ : Nat) (y9 y10 y11 : Option V), σ = [some (.ref d), some (.int n), some (.str letters), some (.ref S), some (.int way), some (.str bs), some (.int pl), some (.int at_), some (.ref L), y9, y10, y11] ∧ NmI d S L H i ns H' ∧ (∀ j, j < at_ → spare j ∈ ns) ∧ at_ ≤ 676) ?_ (fun i σ H' hi hp => ?_) (fun σ H' hp => ?_)⟩
    · refine ⟨[], 0, none, none, none, rfl, ⟨rfl, List.nodup_nil, (fun _ h => nomatch h), upd_same, ?_, hD5.new nL, (k1.trans k35).then_new nL⟩, (fun j h => absurd h (Nat.not_lt_zero _)), by decide⟩
      rw [upd_ne hSL]
      exact eS5
    · obtain ⟨ns, at_, y9, y10, y11, rfl, I, hu, h676⟩ := hp
      have hin : i < n := by
        rw [Int.toNat_natCast] at hi
        exact hi
      have hat : at_ ≤ ns.length := used_le h676 hu
      -- the kind
      refine seq_by (fun σ' H' => ∃ (kd : Int), σ' = [some (.ref d), some (.int n), some (.str letters), some (.ref S), some (.int way), some (.str bs), some (.int pl), some (.int at_), some (.ref L), some (.int (0 + i)), some (.int kd), y11] ∧ NmI d S L H i ns H') (fun σ' H' hJ => ?_) (fun rest => ?_)
      · obtain ⟨kd, rfl, I⟩ := hJ
        -- the name
        refine seq_by (fun σ' H' => ∃ (z : Str), IsNm z ∧ σ' = [some (.ref d), some (.int n), some (.str letters), some (.ref S), some (.int way), some (.str bs), some (.int pl), some (.int at_), some (.ref L), some (.int (0 + i)), some (.int kd), some (.str z)] ∧ NmI d S L H i ns H') (fun σ' H' hJ => ?_) (fun rest => ?_)
        · obtain ⟨z, hz, rfl, I⟩ := hJ
          -- while it stands there
          refine while_by (fun σ' H2 => ∃ (z : Str) (at2 : Nat), IsNm z ∧ σ' = [some (.ref d), some (.int n), some (.str letters), some (.ref S), some (.int way), some (.str bs), some (.int pl), some (.int at2), some (.ref L), some (.int (0 + i)), some (.int kd), some (.str z)] ∧ H2 = H' ∧ at2 ≤ 676 ∧ ∀ j, j < at2 → spare j ∈ ns ∨ spare j = z)
            (fun σ' _ => 676 - slotNat σ' 7) ⟨z, at_, hz, rfl, rfl, h676, fun j hj => .inl (hu j hj)⟩ (fun σ' H2 hp => ?_) (fun σ' H2 Q1 Q2 hm hc => ?_)
          · obtain ⟨z, at2, hz, rfl, rfl, h2, hu2⟩ := hp
            refine ⟨.str z, rfl, .ref L, rfl, L, _, rfl, .inl (.inl (.inl I.eL)), rfl, flat_strs ns, _, rfl, ?_⟩
            show if (if false = true then !inV (.str z) (ns.map V.str) else inV (.str z) (ns.map V.str)) = true then _ else _
            rw [if_neg Bool.false_ne_true, inV_strs]
            by_cases hc : ns.contains z = true
            · rw [if_pos hc]
              have hzm : z ∈ ns := by simpa using hc
              have hu3 : ∀ j, j < at2 → spare j ∈ ns := fun j hj => by
                rcases hu2 j hj with h | h
                · exact h
                · rw [h]; exact hzm
              have ha2 : at2 ≤ ns.length := used_le h2 hu3
              have hl := I.len
              refine ⟨.ref S, rfl, .int at2, rfl, S, _, at2, .str (spare at2), rfl, rfl, .inl (.inl I.eS), atI_nat ?_, .int at2, rfl, _, _, rfl, rfl, ⟨spare at2, at2 + 1, spare_nm (by omega), rfl, rfl, by omega, fun j hj => ?_⟩, ?_⟩
              · rw [List.getElem?_map, spares_get (by omega)]
                rfl
              · by_cases hj2 : j < at2
                · exact .inl (hu3 j hj2)
                · have : j = at2 := by omega
                  subst this
                  exact .inr rfl
              · show 676 - ((at2 : Int) + 1).toNat < 676 - (at2 : Int).toNat
                omega
            · rw [if_neg hc]
              have hzm : z ∉ ns := by simpa using hc
              refine ⟨.ref L, rfl, .inl ⟨rfl, _, .inl (.inl I.eL)⟩, .str z, rfl, L, _, _, rfl, rfl, I.eL, ?_, ns ++ [z], at2, _, _, _, rfl, ⟨?_, ?_, ?_, ?_, ?_, ?_, ?_⟩, ?_, h2⟩
              · rw [List.length_map, I.len]
                exact big' (by omega)
              · rw [List.length_append, I.len]
                rfl
              · rw [List.nodup_append]
                refine ⟨I.nd, List.nodup_cons.mpr ⟨(fun h => nomatch h), List.nodup_nil⟩, fun a ha b hb => ?_⟩
                rcases List.mem_cons.mp hb with rfl | hb
                · exact fun e => hzm (by rw [← e]; exact ha)
                · cases hb
              · intro y hy
                rcases List.mem_append.mp hy with h | h
                · exact I.nm y h
                · rcases List.mem_cons.mp h with rfl | h
                  · exact hz
                  · cases h
              · rw [upd_same, List.map_append]
                rfl
              · rw [upd_ne hSL]
                exact I.eS
              · exact I.dk.upd hLd
              · exact I.kp.then_at nL0
              · intro j hj
                rcases hu2 j hj with h | h
                · exact List.mem_append_left _ h
                · exact List.mem_append_right _ (by rw [h]; exact List.mem_cons_self)
          · obtain ⟨v, e1, v2, e2, p, xs, e3, e4, e5, e6, k, e7, e8⟩ := hc
            exact ⟨v, e1, v2, e2, p, xs, e3, e4, e5, e6, k, e7, hm _ _ e8⟩
        · refine ⟨.int kd, rfl, rfl, _, rfl, ite2 (fun _ => ?_) (fun _ => ?_)⟩
          · exact ⟨.ref d, rfl, d, rfl, I.dk, fun H6 z hz k6 hD6 => rest _ _ ⟨z, hz, rfl, I.step hLd hSd k6 hD6⟩⟩
          · refine ⟨.int kd, rfl, rfl, _, rfl, ite2 (fun _ => ?_) (fun _ => ?_)⟩
            · obtain ⟨pn, rfl⟩ : ∃ pn : Nat, pl = pn := ⟨pl.toNat, by omega⟩
              refine ⟨.str bs, rfl, .int pn, rfl, pn, rfl, _, rfl, szb, .str letters, rfl, .ref d, rfl, d, 26, rfl, I.dk, by decide, by decide, fun H6 r r0 r1 k6 hD6 => ?_⟩
              have t1 : TL.tl (cutS bs none (some (pn : Int))) = (TL.tl bs).take pn := tl_cut_to bs pn
              have t2 : TL.tl (cutS bs (some ((pn : Int) + 1)) none) = (TL.tl bs).drop (pn + 1) := tl_cut_from bs (pn + 1)
              have l1 : ((TL.tl bs).take pn).length = pn := by rw [List.length_take]; omega
              have l2 : ((TL.tl bs).drop (pn + 1)).length = 7 - pn := by rw [List.length_drop]; omega
              refine ⟨letters, r, _, rfl, rfl, letters_len, letters_at r0 r1, _, _, rfl, rfl, ?_, .str bs, rfl, .int pn, rfl, _, _, rfl, rfl, _, rfl, _, rfl, szb, _, _, rfl, rfl, ?_, rest _ _ ⟨_, nm_sign (a := (TL.tl bs).take pn) (b := (TL.tl bs).drop (pn + 1)) (c := 97 + r.toNat) ?_ ?_ ?_ ?_ ?_, rfl, I.step hLd hSd k6 hD6⟩⟩
              · rw [TL.len_tl, TL.len_tl, t1, l1]
                exact big (by show pn + 1 ≤ 100000; omega)
              · rw [TL.len_tl, TL.len_tl, TL.tl_append, t1, t2, List.length_append, l1, l2]
                exact big (by show pn + 1 + (7 - pn) ≤ 100000; omega)
              · rw [TL.tl_append, TL.tl_append, t1, t2]
              · unfold IsLt
                omega
              · exact fun x hx => cb x (List.mem_of_mem_take hx)
              · exact fun x hx => cb x (List.mem_of_mem_drop hx)
              · omega
            · refine ⟨.str bs, rfl, .ref d, rfl, d, 8, rfl, I.dk, by decide, by decide, fun H6 r r0 r1 k6 hD6 => ?_⟩
              obtain ⟨rn, rfl⟩ : ∃ rn : Nat, r = rn := ⟨r.toNat, by omega⟩
              have t1 : TL.tl (cutS bs none (some (1 + (rn : Int)))) = (TL.tl bs).take (1 + rn) := tl_cut_to bs (1 + rn)
              refine ⟨_, _, rfl, rfl, _, rfl, _, rfl, szb, rest _ _ ⟨_, ⟨?_, ?_, ?_⟩, rfl, I.step hLd hSd k6 hD6⟩⟩
              · rw [t1, List.length_take]
                omega
              · rw [t1, List.length_take]
                omega
              · rw [t1]
                exact fun x hx => cb x (List.mem_of_mem_take hx)
      · refine ⟨.int way, rfl, rfl, _, rfl, ite2 (fun _ => ?_) (fun _ => ?_)⟩
        · exact ⟨.ref d, rfl, d, 3, rfl, I.dk, by decide, by decide, fun H6 r r0 r1 k6 hD6 => rest _ _ ⟨r, rfl, I.step hLd hSd k6 hD6⟩⟩
        · exact ⟨.int way, rfl, rest _ _ ⟨way, rfl, I⟩⟩
    · obtain ⟨ns, at_, y9, y10, y11, rfl, I, hu, h676⟩ := hp
      rw [Int.toNat_natCast] at I
      exact ⟨.ref L, rfl, q H' L ns I.len I.nd I.nm nL0 hLd I.eL I.kp I.dk⟩

def wordsS : List Str := ["first", "last", "ahead", "behind", "front", "back", "swap", "turn", "lift", "cut", "pour", "wrap", "put"]
def singleS : List Str := ["front", "back", "lift", "cut"]

/-! ### texts in order -/
def leS (a b : Str) : Bool := !ltCps b.cps.toList a.cps.toList
theorem ltCps_irrefl : ∀ a : List Nat, ltCps a a = false
  | [] => rfl
  | a :: r => by
    show (decide (a < a) || (a == a && ltCps r r)) = false
    rw [ltCps_irrefl r]
    simp
theorem ltCps_trans : ∀ a b c : List Nat, ltCps a b = true → ltCps b c = true → ltCps a c = true
  | [], [], c, h, _ => by cases h
  | [], _ :: _, [], _, h => by cases h
  | [], _ :: _, _ :: _, _, _ => rfl
  | _ :: _, [], _, h, _ => by cases h
  | _ :: _, _ :: _, [], _, h => by cases h
  | a :: r, b :: t, c :: u, h1, h2 => by
    have h1' : (decide (a < b) || (a == b && ltCps r t)) = true := h1
    have h2' : (decide (b < c) || (b == c && ltCps t u)) = true := h2
    show (decide (a < c) || (a == c && ltCps r u)) = true
    simp only [Bool.or_eq_true, Bool.and_eq_true, decide_eq_true_eq, beq_iff_eq] at h1' h2' ⊢
    rcases h1' with x | ⟨x, y⟩
    · rcases h2' with z | ⟨z, v⟩
      · exact .inl (by omega)
      · exact .inl (by omega)
    · rcases h2' with z | ⟨z, v⟩
      · exact .inl (by omega)
      · exact .inr ⟨by omega, ltCps_trans r t u y v⟩
theorem ltCps_tri : ∀ a b : List Nat, ltCps a b = false → ltCps b a = false → a = b
  | [], [], _, _ => rfl
  | [], _ :: _, h, _ => by cases h
  | _ :: _, [], _, h => by cases h
  | a :: r, b :: t, h1, h2 => by
    have h1' : (decide (a < b) || (a == b && ltCps r t)) = false := h1
    have h2' : (decide (b < a) || (b == a && ltCps t r)) = false := h2
    simp only [Bool.or_eq_false_iff, decide_eq_false_iff_not, Bool.and_eq_false_iff, beq_eq_false_iff_ne] at h1' h2'
    have e : a = b := by omega
    subst e
    rcases h1'.2 with h | h
    · exact absurd rfl h
    · rcases h2'.2 with h' | h'
      · exact absurd rfl h'
      · rw [ltCps_tri r t h h']
theorem leS_trans (a b c : Str) (h1 : leS a b = true) (h2 : leS b c = true) : leS a c = true := by
  unfold leS at *
  simp only [Bool.not_eq_true'] at *
  cases h : ltCps c.cps.toList a.cps.toList with
  | false => rfl
  | true =>
    cases hb : ltCps a.cps.toList b.cps.toList with
    | true =>
      rw [ltCps_trans _ _ _ h hb] at h2
      cases h2
    | false =>
      have e := ltCps_tri _ _ hb h1
      rw [e] at h
      rw [h] at h2
      cases h2
theorem leS_total (a b : Str) : (leS a b || leS b a) = true := by
  unfold leS
  cases h : ltCps b.cps.toList a.cps.toList with
  | false => rfl
  | true =>
    cases h2 : ltCps a.cps.toList b.cps.toList with
    | false => rfl
    | true =>
      have := ltCps_trans _ _ _ h h2
      rw [ltCps_irrefl] at this
      cases this
theorem leS_anti (a b : Str) (h1 : leS a b = true) (h2 : leS b a = true) : a = b := by
  unfold leS at *
  simp only [Bool.not_eq_true'] at *
  exact TL.ext_tl (ltCps_tri _ _ h2 h1)
def srtS (l : List Str) : List Str := l.mergeSort leS
theorem rising_pw : ∀ (p : Str) (l : List Str), risingS p l = true → (p :: l).Pairwise (fun a b => leS a b = true)
  | p, [], _ => List.pairwise_singleton _ _
  | p, x :: r, h => by
    have h' : (!ltCps x.cps.toList p.cps.toList && risingS x r) = true := h
    rw [Bool.and_eq_true] at h'
    have ih := rising_pw x r h'.2
    refine List.pairwise_cons.mpr ⟨fun y hy => ?_, ih⟩
    rcases List.mem_cons.mp hy with rfl | hy
    · exact h'.1
    · exact leS_trans _ _ _ h'.1 ((List.pairwise_cons.mp ih).1 y hy)
theorem sortedS_pw : ∀ l : List Str, sortedS l = true → l.Pairwise (fun a b => leS a b = true)
  | [], _ => List.Pairwise.nil
  | x :: r, h => rising_pw x r h
theorem perm_sorted {α : Type} {le : α → α → Prop} (anti : ∀ a b, le a b → le b a → a = b) : ∀ {l m : List α}, l.Perm m → l.Pairwise le → m.Pairwise le → l = m
  | [], m, p, _, _ => by
    have := p.length_eq
    cases m with
    | nil => rfl
    | cons => cases this
  | x :: l, [], p, _, _ => by
    have := p.length_eq
    cases this
  | x :: l, y :: m, p, h1, h2 => by
    have e : x = y := by
      have hx : x ∈ y :: m := p.subset List.mem_cons_self
      have hy : y ∈ x :: l := p.symm.subset List.mem_cons_self
      rcases List.mem_cons.mp hx with e | hx
      · exact e
      · rcases List.mem_cons.mp hy with e | hy
        · exact e.symm
        · exact anti x y ((List.pairwise_cons.mp h1).1 y hy) ((List.pairwise_cons.mp h2).1 x hx)
    subst e
    rw [perm_sorted anti (List.Perm.cons_inv p) (List.pairwise_cons.mp h1).2 (List.pairwise_cons.mp h2).2]
theorem srtS_pw (l : List Str) : (srtS l).Pairwise (fun a b => leS a b = true) := List.pairwise_mergeSort leS_trans leS_total l
theorem srtS_perm (l : List Str) : (srtS l).Perm l := List.mergeSort_perm l leS
/-- what sorted gives is this list -/
theorem srtS_of {ys l : List Str} (p : ys.Perm l) (h : sortedS ys = true) : ys = srtS l :=
  perm_sorted (fun a b => leS_anti a b) (p.trans (srtS_perm l).symm) (sortedS_pw ys h) (srtS_pw l)
theorem srtS_len (l : List Str) : (srtS l).length = l.length := (srtS_perm l).length_eq

/-! ### tuples made or shared -/
section
variable {K : PySem.W.Frag} {H : Hp}
theorem cat_any {a b : Addr} {xs ys : List V} {Q : VK} (ha : SqT K H a xs) (hb : SqT K H b ys) (hl : xs.length + ys.length ≤ 100000) (q : ∀ p H', Same H H' → SqT K H' p (xs ++ ys) → Q (.ref p) H') : rCatA K (.ref a) (.ref b) H Q := by
  refine ⟨a, b, xs, ys, rfl, rfl, ha, hb, big hl, fun e => ?_, fun _ e => ?_, fun _ _ p np => q p _ (same_new np) (.inl (.inl upd_same))⟩
  · subst e
    exact q b H (Same.refl H) hb
  · subst e
    rw [List.append_nil] at q
    exact q a H (Same.refl H) ha
theorem cutV_whole (xs : List V) {lo hi : Option Int} (h : HT.sIx xs.length 0 lo = 0 ∧ HT.sIx xs.length xs.length hi = xs.length) : cutV xs lo hi = xs := by
  unfold cutV
  rw [h.1, h.2, List.drop_zero, Nat.sub_zero]
  exact List.take_of_length_le (Nat.le_refl _)
theorem sl_any {a : Addr} {xs : List V} {lo hi : Option Int} {Q : VK} (ha : SqT K H a xs) (q : ∀ p H', Same H H' → SqT K H' p (cutV xs lo hi) → Q (.ref p) H') : rSlA K (.ref a) lo hi H Q :=
  ⟨a, xs, rfl, ha, fun e => q a H (Same.refl H) (by rw [cutV_whole xs e]; exact ha), fun _ p np => q p _ (same_new np) (.inl (.inl upd_same))⟩
end
theorem cut_map_eq {α : Type} (f : α → V) (xs : List α) (lo hi : Option Int) : cutV (xs.map f) lo hi = ((xs.drop (HT.sIx xs.length 0 lo)).take (HT.sIx xs.length xs.length hi - HT.sIx xs.length 0 lo)).map f := by
  unfold cutV
  rw [List.length_map, List.map_take, List.map_drop]
/-! ### == of data that are the same -/
theorem eq_same {K : PySem.W.Frag} {H : Hp} {x y : V} {d : PyData} {Q : VK} (hx : Dp K H x d) (hy : Dp K H y d) (pl : d.plain = true) (dp : d.depth ≤ 190) (q : Q (.bl true) H) : rEqP K x y H Q :=
  ⟨d, d, hx, hy, pl, pl, dp, by rw [SeqAt.eqv_refl_plain d pl]; exact q⟩
def dStrs (l : List Str) : PyData := .tuple (l.map PyData.str)
theorem dp_strs {K : PySem.W.Frag} {H : Hp} : ∀ l : List Str, DpAll K H (l.map V.str) (l.map PyData.str)
  | [] => .nil
  | z :: r => .cons (.str z) (dp_strs r)
theorem plain_strs : ∀ l : List Str, PyData.plainAll (l.map PyData.str) = true
  | [] => rfl
  | z :: r => by
    show (PyData.plain (.str z) && PyData.plainAll (r.map PyData.str)) = true
    rw [plain_strs r]
    rfl
theorem depth_strs : ∀ l : List Str, PyData.depthAll (l.map PyData.str) ≤ 1
  | [] => by decide
  | z :: r => by
    have := depth_strs r
    show max (PyData.depth (.str z)) (PyData.depthAll (r.map PyData.str)) ≤ 1
    have e : PyData.depth (.str z) ≤ 1 := by simp [PyData.depth]
    omega
/-! ### deeds and scripts -/
/-- v is the tuple of these texts -/
def DeedR (K : PySem.W.Frag) (H : Hp) (v : V) (ds : List Str) : Prop := ∃ a, v = .ref a ∧ SqT K H a (ds.map V.str)
def ScrR (K : PySem.W.Frag) (H : Hp) (v : V) (dss : List (List Str)) : Prop := ∃ a vs, v = .ref a ∧ SqT K H a vs ∧ Paired (DeedR K H) vs dss
/-- the form of a deed: one of the words, and as many names -/
def IsDeed (ds : List Str) : Prop := ∃ w r, ds = w :: r ∧ w ∈ wordsS ∧ r.length = (if w ∈ singleS then 1 else 2)
theorem DeedR.same {K : PySem.W.Frag} {H H' : Hp} {v : V} {ds : List Str} (h : DeedR K H v ds) (s : Same H H') : DeedR K H' v ds := by
  obtain ⟨a, e, h⟩ := h
  exact ⟨a, e, Same.sqT s h⟩
theorem DeedR.keep {K : PySem.W.Frag} {H H' : Hp} {d : Addr} {v : V} {ds : List Str} (h : DeedR K H v ds) (k : Kp d H H') (hD : Dk H d) : DeedR K H' v ds := by
  obtain ⟨a, e, h⟩ := h
  exact ⟨a, e, k.sqT hD h⟩
theorem ScrR.same {K : PySem.W.Frag} {H H' : Hp} {v : V} {dss : List (List Str)} (h : ScrR K H v dss) (s : Same H H') : ScrR K H' v dss := by
  obtain ⟨a, vs, e, h, r⟩ := h
  exact ⟨a, vs, e, Same.sqT s h, L2.Paired.mapP r fun _ _ q => q.same s⟩
theorem ScrR.keep {K : PySem.W.Frag} {H H' : Hp} {d : Addr} {v : V} {dss : List (List Str)} (h : ScrR K H v dss) (k : Kp d H H') (hD : Dk H d) : ScrR K H' v dss := by
  obtain ⟨a, vs, e, h, r⟩ := h
  exact ⟨a, vs, e, k.sqT hD h, L2.Paired.mapP r fun _ _ q => q.keep k hD⟩
theorem paired_len {α β : Type} {R : α → β → Prop} : ∀ {xs : List α} {ys : List β}, Paired R xs ys → xs.length = ys.length
  | _, _, .nil => rfl
  | _, _, .cons _ t => congrArg (· + 1) (paired_len t)
theorem paired_get {α β : Type} {R : α → β → Prop} : ∀ {xs : List α} {ys : List β} {i : Nat} {x : α}, Paired R xs ys → xs[i]? = some x → ∃ y, ys[i]? = some y ∧ R x y
  | _, _, _, _, .nil, h => by simp at h
  | _, _, 0, _, .cons r _, h => by
    simp at h
    subst h
    exact ⟨_, rfl, r⟩
  | _, _, i + 1, x, .cons _ t, h => by
    obtain ⟨y, e, r⟩ := paired_get (i := i) t (by simpa using h)
    exact ⟨y, by simpa using e, r⟩
theorem paired_app {α β : Type} {R : α → β → Prop} : ∀ {xs xs' : List α} {ys ys' : List β}, Paired R xs ys → Paired R xs' ys' → Paired R (xs ++ xs') (ys ++ ys')
  | _, _, _, _, .nil, s => s
  | _, _, _, _, .cons r t, s => .cons r (paired_app t s)
theorem paired_take {α β : Type} {R : α → β → Prop} (n : Nat) : ∀ {xs : List α} {ys : List β}, Paired R xs ys → Paired R (xs.take n) (ys.take n) := by
  induction n with
  | zero => intro xs ys _; rw [List.take_zero, List.take_zero]; exact .nil
  | succ n ih =>
    intro xs ys h
    cases h with
    | nil => exact .nil
    | cons r t => exact .cons r (ih t)
theorem paired_drop {α β : Type} {R : α → β → Prop} (n : Nat) : ∀ {xs : List α} {ys : List β}, Paired R xs ys → Paired R (xs.drop n) (ys.drop n) := by
  induction n with
  | zero => intro xs ys h; exact h
  | succ n ih =>
    intro xs ys h
    cases h with
    | nil => exact .nil
    | cons r t => exact ih t
/-! ### the roles of names -/
def mkB (w : Str) (k : Nat) : Bool := (decide (w = "wrap") && decide (k = 2)) || (decide (w = "put") && decide (k = 1))
def addRole (acc : List (Str × Bool)) (n : Str) (b : Bool) : List (Str × Bool) := if acc.any (fun p => decide (p.1 = n)) = true then acc else acc ++ [(n, b)]
def roleStep (acc : List (Str × Bool)) (ds : List Str) (k : Nat) : List (Str × Bool) := match ds, ds[k]? with
  | w :: _, some x => if k = 0 then acc else addRole acc x (mkB w k)
  | _, _ => acc
/-- behind the first i items of a deed -/
def dRoles (acc : List (Str × Bool)) (ds : List Str) : Nat → List (Str × Bool)
  | 0 => acc
  | i + 1 => roleStep (dRoles acc ds i) ds i
/-- behind the first i deeds -/
def sRoles (dss : List (List Str)) : Nat → List (Str × Bool)
  | 0 => []
  | i + 1 => match dss[i]? with
    | some ds => dRoles (sRoles dss i) ds ds.length
    | none => sRoles dss i
def rolesF (dss : List (List Str)) : List (Str × Bool) := sRoles dss dss.length
def oldOf (acc : List (Str × Bool)) : List Str := (acc.filter fun p => !p.2).map (·.1)
def newOf (acc : List (Str × Bool)) : List Str := (acc.filter fun p => p.2).map (·.1)
theorem addRole_len (acc : List (Str × Bool)) (n : Str) (b : Bool) : (addRole acc n b).length ≤ acc.length + 1 := by
  unfold addRole
  split
  · omega
  · rw [List.length_append]
    exact Nat.le_refl _
theorem roleStep_len (acc : List (Str × Bool)) (ds : List Str) (k : Nat) : (roleStep acc ds k).length ≤ acc.length + (if k = 0 then 0 else 1) := by
  unfold roleStep
  split
  · split
    · omega
    · exact addRole_len _ _ _
  · omega
theorem dRoles_len (acc : List (Str × Bool)) (ds : List Str) : ∀ i, (dRoles acc ds i).length ≤ acc.length + (i - 1)
  | 0 => Nat.le_add_right _ _
  | 1 => by
    have := roleStep_len acc ds 0
    rw [if_pos rfl] at this
    exact this
  | i + 2 => by
    have h1 := dRoles_len acc ds (i + 1)
    have h2 := roleStep_len (dRoles acc ds (i + 1)) ds (i + 1)
    rw [if_neg (by omega)] at h2
    show (roleStep (dRoles acc ds (i + 1)) ds (i + 1)).length ≤ _
    omega
theorem sRoles_len (dss : List (List Str)) (h3 : ∀ ds ∈ dss, ds.length ≤ 3) : ∀ i, (sRoles dss i).length ≤ 2 * i
  | 0 => Nat.le_refl _
  | i + 1 => by
    have ih := sRoles_len dss h3 i
    unfold sRoles
    split
    · rename_i ds hd
      have h1 := dRoles_len (sRoles dss i) ds ds.length
      have h2 := h3 ds (List.mem_of_getElem? hd)
      omega
    · omega
/-- a script whose names are few -/
structure Small (dss : List (List Str)) : Prop where
  n : dss.length ≤ 30
  l : ∀ ds ∈ dss, 1 ≤ ds.length ∧ ds.length ≤ 3
theorem Small.roles {dss : List (List Str)} (h : Small dss) (i : Nat) (hi : i ≤ dss.length) : (sRoles dss i).length ≤ 60 := by
  have := sRoles_len dss (fun ds m => (h.l ds m).2) i
  have := h.n
  omega
theorem IsDeed.len {ds : List Str} (h : IsDeed ds) : 1 ≤ ds.length ∧ ds.length ≤ 3 := by
  obtain ⟨w, r, rfl, _, hr⟩ := h
  rw [List.length_cons, hr]
  split <;> omega
theorem small_of {dss : List (List Str)} (n : dss.length ≤ 30) (h : ∀ ds ∈ dss, IsDeed ds) : Small dss := ⟨n, fun ds m => (h ds m).len⟩
/-- the roles as a dict's pairs -/
def roleKV (acc : List (Str × Bool)) : List (Key × V) := acc.map fun p => (Sum.inr p.1, V.bl p.2)
theorem role_val (n : Str) : ∀ acc : List (Str × Bool), (valV (roleKV acc) (Sum.inr n)).isSome = acc.any (fun p => decide (p.1 = n))
  | [] => rfl
  | p :: r => by
    have ih := role_val n r
    rw [List.any_cons]
    show (valV ((Sum.inr p.1, V.bl p.2) :: roleKV r) (Sum.inr n)).isSome = _
    by_cases e : p.1 = n
    · rw [valV_pos (p := (Sum.inr p.1, V.bl p.2)) (show (Sum.inr p.1 : Key) = Sum.inr n by rw [e]), decide_eq_true e]
      rfl
    · rw [valV_neg (p := (Sum.inr p.1, V.bl p.2)) (show ¬ (Sum.inr p.1 : Key) = Sum.inr n from fun z => e (Sum.inr.inj z)), decide_eq_false e, ih]
      rfl

/-- slots of makes: 0 deed, 1 k -/
def n_makes : List Str := ["deed", "k"]
def t_makes (K : PySem.W.Frag) : TS :=
  (tRet (tOrV (tAndV (tOp rEq (tOp (rIxT K) (tVar 0) (tC (.int 0))) (tC (.str "wrap"))) (tOp rEq (tVar 1) (tC (.int 2)))) (tAndV (tOp rEq (tOp (rIxT K) (tVar 0) (tC (.int 0))) (tC (.str "put"))) (tOp rEq (tVar 1) (tC (.int 1))))))

def sp_makes (K : PySem.W.Frag) : Sp := fun vs H Q _ => ∃ (v : V) (k : Nat) (w : Str) (r : List Str), vs = [v, .int (k : Int)] ∧ DeedR K H v (w :: r) ∧ Q (.bl (mkB w k)) H
theorem pure_makes {K : PySem.W.Frag} (vs : List V) (H : Hp) (Q : VK) (E : XK) (h : sp_makes K vs H Q E) : t_makes K { nx := fun _ H' => Q .non H', rt := Q } (start n_makes vs) H := by
  obtain ⟨v, k, w, r, rfl, ⟨a, rfl, ha⟩, q⟩ := h
  have at0 : atI ((w :: r).map V.str) 0 = some (.str w) := atI_nat (j := 0) rfl
  have e1 : ∀ z : Str, decide (V.str w = V.str z) = decide (w = z) := fun z => by
    by_cases c : w = z
    · rw [decide_eq_true c, decide_eq_true (by rw [c])]
    · rw [decide_eq_false c, decide_eq_false (fun h => c (V.str.inj h))]
  have e2 : ∀ j : Nat, decide (V.int (k : Int) = V.int (j : Int)) = decide (k = j) := fun j => by
    by_cases c : k = j
    · rw [decide_eq_true c, decide_eq_true (by rw [c])]
    · rw [decide_eq_false c, decide_eq_false (fun h => c (by injection h with h; omega))]
  refine ⟨.ref a, rfl, a, _, 0, _, rfl, rfl, ha, at0, rfl, _, rfl, ?_⟩
  rw [e1]
  unfold mkB at q
  by_cases c1 : w = "wrap"
  · rw [decide_eq_true c1] at q ⊢
    refine ⟨.int k, rfl, rfl, _, rfl, ?_⟩
    rw [show decide (V.int (k : Int) = V.int 2) = decide (k = 2) from e2 2]
    by_cases c2 : k = 2
    · rw [decide_eq_true c2] at q ⊢
      exact q
    · rw [decide_eq_false c2] at q ⊢
      have c3 : w ≠ "put" := by
        rw [c1]
        decide +kernel
      refine ⟨.ref a, rfl, a, _, 0, _, rfl, rfl, ha, at0, rfl, _, rfl, ?_⟩
      rw [e1, decide_eq_false c3] at *
      exact q
  · rw [decide_eq_false c1] at q ⊢
    refine ⟨_, rfl, .ref a, rfl, a, _, 0, _, rfl, rfl, ha, at0, rfl, _, rfl, ?_⟩
    rw [e1]
    by_cases c3 : w = "put"
    · rw [decide_eq_true c3] at q ⊢
      refine ⟨.int k, rfl, rfl, ?_⟩
      rw [show decide (V.int (k : Int) = V.int 1) = decide (k = 1) from e2 1]
      rw [Bool.false_and, Bool.false_or, Bool.true_and] at q
      exact q
    · rw [decide_eq_false c3] at q ⊢
      exact q

/-- slots of roles: 0 deeds, 1 found, 2 deed, 3 k, 4 item -/
def n_roles : List Str := ["deeds", "found", "deed", "k", "item"]
def t_roles (K : PySem.W.Frag) : TS :=
  (tSeq (tAsg tDNewK (gName 1))
    (tSeq (tFor (iTup K (tVar 0)) (gName 2) (tFor (iEnumT K (tCons (tVar 2) tNil)) (gTup K 2 (gCons (gName 3) (gCons (gName 4) gNil))) (tIfS (tTest (tOp rGtI (tVar 3) (tC (.int 0)))) (tDrop (tDSetd (tVar 1) (tVar 4) (tCall (sp_makes K) [] E0 (tCons (tVar 2) (tCons (tVar 3) tNil))))) tNext)))
    (tRet (tVar 1))))

def sp_roles (K : PySem.W.Frag) : Sp := fun vs H Q _ => ∃ (v : V) (dss : List (List Str)), vs = [v] ∧ ScrR K H v dss ∧ Small dss ∧
  ∀ (H' : Hp) (d : Addr), H d = none → Same H H' → H' d = some (.dK (roleKV (rolesF dss))) → Q (.ref d) H'
theorem pure_roles {K : PySem.W.Frag} (vs : List V) (H : Hp) (Q : VK) (E : XK) (h : sp_roles K vs H Q E) : t_roles K { nx := fun _ H' => Q .non H', rt := Q } (start n_roles vs) H := by
  obtain ⟨v, dss, rfl, ⟨a, ws, rfl, ha, hp⟩, sm, q⟩ := h
  intro d nd
  have hlen := paired_len hp
  refine ⟨.ref a, rfl, a, rfl, ⟨_, Same.sqT (same_new nd) ha⟩, for_it (walk_tup (xs := ws)) (fun i σ H' => ∃ y2 y3 y4, σ = [some (.ref a), some (.ref d), y2, y3, y4] ∧ Same H H' ∧ H' d = some (.dK (roleKV (sRoles dss i)))) ⟨none, none, none, rfl, same_new nd, upd_same⟩ (fun i σ H' _ hJ => ?_) (fun i x σ H' H2 hi hJ hy => ?_) (fun σ H' hJ => ?_)⟩
  · obtain ⟨_, _, _, _, s, _⟩ := hJ
    exact Same.sqT s ha
  · obtain ⟨y2, y3, y4, rfl, s, ed⟩ := hJ
    obtain ⟨rfl, hx⟩ := hy
    obtain ⟨ds, hds, b, rfl, hb⟩ := paired_get hp hx
    have mds := sm.l ds (List.mem_of_getElem? hds)
    have hb' : SqT K H2 b (ds.map V.str) := Same.sqT s hb
    have sR : sRoles dss (i + 1) = dRoles (sRoles dss i) ds ds.length := by
      show (match dss[i]? with | some ds => _ | none => _) = _
      rw [hds]
    have hil : i < dss.length := by rw [← hlen]; exact hi
    have lim := sm.roles i (by omega)
    refine ⟨.ref b, rfl, b, _, rfl, hb', for_it (walk_enumT (xs := ds.map V.str)) (fun j σ H' => ∃ y3 y4, σ = [some (.ref a), some (.ref d), some (.ref b), y3, y4] ∧ Same H H' ∧ H' d = some (.dK (roleKV (dRoles (sRoles dss i) ds j)))) ⟨y3, y4, rfl, s, ed⟩ (fun j σ H' _ hJ => ?_) (fun j x σ H' H3 hj hJ hy => ?_) (fun σ H' hJ => ?_)⟩
    · obtain ⟨_, _, _, s, _⟩ := hJ
      exact Same.sqT s hb
    · obtain ⟨y3, y4, rfl, s, ed⟩ := hJ
      obtain ⟨T, x1, x2, rfl, nT, rfl, e1, e2⟩ := hy
      have ex1 : x1 = .int (j : Nat) := (Option.some.inj e1).symm
      subst ex1
      rw [List.length_map] at hj
      have ex2 : x2 = .str ds[j] := by
        have e3 : (ds.map V.str)[j]? = some x2 := e2
        rw [List.getElem?_map, List.getElem?_eq_getElem hj] at e3
        exact (Option.some.inj e3).symm
      subst ex2
      have ndT : d ≠ T := ne_of_none ed nT
      have s1 : Same H (upd H' T (.tup [.int (j : Nat), .str ds[j]])) := s.trans (same_new nT)
      have ed1 : (upd H' T (.tup [.int (j : Nat), .str ds[j]])) d = some (.dK (roleKV (dRoles (sRoles dss i) ds j))) := by rw [upd_ne ndT]; exact ed
      refine ⟨T, _, rfl, .inl (.inl upd_same), rfl, _, _, rfl, _, _, rfl, rfl, .int (j : Nat), rfl, _, _, rfl, rfl, _, rfl, ?_⟩
      obtain ⟨w, r, rfl⟩ : ∃ w r, ds = w :: r := by
        cases ds with
        | nil => exact absurd mds.1 (by simp)
        | cons w r => exact ⟨w, r, rfl⟩
      have step : dRoles (sRoles dss i) (w :: r) (j + 1) = if j = 0 then dRoles (sRoles dss i) (w :: r) j else addRole (dRoles (sRoles dss i) (w :: r) j) (w :: r)[j] (mkB w j) := by
        show roleStep _ _ _ = _
        unfold roleStep
        rw [List.getElem?_eq_getElem hj]
      by_cases c : j = 0
      · subst c
        rw [if_pos rfl] at step
        refine ⟨_, _, rfl, s1, ?_⟩
        rw [step]
        exact ed1
      · rw [if_neg c] at step
        have c' : decide ((0 : Int) < ((j : Nat) : Int)) = true := decide_eq_true (by omega)
        rw [c']
        have lim2 := dRoles_len (sRoles dss i) (w :: r) j
        refine ⟨.ref d, rfl, d, rfl, .inl ⟨_, .inl ed1⟩, _, rfl, .ref b, rfl, .int (j : Nat), rfl, _, j, w, r, rfl, ⟨b, rfl, Same.sqT s1 hb⟩, ?_⟩
        have hs := role_val (w :: r)[j] (dRoles (sRoles dss i) (w :: r) j)
        refine ⟨_, Sum.inr (w :: r)[j], ed1, rfl, ?_, fun u hu => ?_, fun hn => ?_⟩
        · unfold roleKV
          rw [List.length_map]
          exact big' (by omega)
        · rw [hu] at hs
          refine ⟨_, _, rfl, s1, ?_⟩
          rw [step]
          unfold addRole
          rw [if_pos (by rw [← hs]; rfl)]
          exact ed1
        · rw [hn] at hs
          refine ⟨_, _, rfl, fun b' o e => ?_, ?_⟩
          · rw [upd_ne (ne_of_none e nd)]
            exact s1 _ _ e
          · rw [upd_same, step]
            unfold addRole
            rw [if_neg (by rw [← hs]; exact Bool.noConfusion), putK_new _ hn]
            unfold roleKV
            rw [List.map_append]
            rfl
    · obtain ⟨y3, y4, rfl, s, ed⟩ := hJ
      refine ⟨_, _, _, rfl, s, ?_⟩
      rw [sR]
      rw [List.length_map] at ed
      exact ed
  · obtain ⟨y2, y3, y4, rfl, s, ed⟩ := hJ
    refine ⟨.ref d, rfl, q H' d nd s ?_⟩
    unfold rolesF
    rw [← hlen]
    exact ed

/-- slots of old_names: 0 script, 1 name, 2 is_new -/
def n_old_names : List Str := ["script", "name", "is_new"]
def t_old_names (K : PySem.W.Frag) : TS :=
  (tRet (tCB (rTupOf K) (tCons (tCB (rSortedS K) (tCons (tLc (iItemsF (tCall (sp_roles K) [] E0 (tCons (tVar 0) tNil))) (gTup K 2 (gCons (gName 1) (gCons (gName 2) gNil))) (tNot (tB (tVar 2))) (tVar 1) [1, 2]) tNil)) tNil)))

def sp_old_names (K : PySem.W.Frag) : Sp := fun vs H Q _ => ∃ (v : V) (dss : List (List Str)), vs = [v] ∧ ScrR K H v dss ∧ Small dss ∧
  ∀ (H' : Hp) (p : Addr), Same H H' → SqT K H' p ((srtS (oldOf (rolesF dss))).map V.str) → Q (.ref p) H'
theorem names_more (f : Str × Bool → Bool) {acc : List (Str × Bool)} {i : Nat} {p : Str × Bool} (h : acc[i]? = some p) : ((acc.take (i + 1)).filter f).map (·.1) = ((acc.take i).filter f).map (·.1) ++ (if f p = true then [p.1] else []) := by
  rw [List.take_add_one, h, List.filter_append, List.map_append]
  congr 1
  show (List.filter f [p]).map (·.1) = _
  rw [List.filter_cons]
  split <;> rfl
theorem names_le (f : Str × Bool → Bool) (acc : List (Str × Bool)) (i : Nat) : (((acc.take i).filter f).map (·.1)).length ≤ acc.length := by
  rw [List.length_map]
  have h1 := List.length_filter_le f (acc.take i)
  rw [List.length_take] at h1
  omega
theorem pure_old_names {K : PySem.W.Frag} (vs : List V) (H : Hp) (Q : VK) (E : XK) (h : sp_old_names K vs H Q E) : t_old_names K { nx := fun _ H' => Q .non H', rt := Q } (start n_old_names vs) H := by
  obtain ⟨v, dss, rfl, hS, sm, q⟩ := h
  have lim := sm.roles dss.length (Nat.le_refl _)
  refine ⟨v, rfl, v, dss, rfl, hS, sm, fun H1 d nd s1 ed => ⟨d, _, rfl, ed, fun o D nD => ?_⟩⟩
  have s1' : Same H (upd H1 d (.frz o (.dK (roleKV (rolesF dss))))) := fun b x e => by
    rw [upd_ne (ne_of_none e nd)]
    exact s1 _ _ e
  have nDH := s1'.free nD
  have nDd : d ≠ D := ne_of_none upd_same nD
  refine lc_it (walk_items (kvs := roleKV (rolesF dss))) (fun i H' => Same H H' ∧ H' d = some (.frz o (.dK (roleKV (rolesF dss)))) ∧ H' D = some (.lst ((((rolesF dss).take i).filter fun p => !p.2).map (·.1) |>.map V.str)))
    ⟨s1'.trans (same_new nD), same_new nD _ _ upd_same, upd_same⟩ (fun i H' _ hJ => hJ.2.1) (fun i x H' H2 hi hJ hy => ?_) (fun H' hJ => ?_)
  · obtain ⟨T, x1, x2, rfl, nT, rfl, e1, e2⟩ := hy
    obtain ⟨s, ed, eD⟩ := hJ
    have hi' : i < (rolesF dss).length := by
      unfold roleKV at hi
      rw [List.length_map] at hi
      exact hi
    have g : (roleKV (rolesF dss))[i]? = some (Sum.inr (rolesF dss)[i].1, V.bl (rolesF dss)[i].2) := by
      unfold roleKV
      rw [List.getElem?_map, List.getElem?_eq_getElem hi']
      rfl
    have ex1 : x1 = .str (rolesF dss)[i].1 := by
      have e1' : ((roleKV (rolesF dss))[i]?.map fun kv => kV kv.1) = some x1 := e1
      rw [g] at e1'
      exact (Option.some.inj e1').symm
    have ex2 : x2 = .bl (rolesF dss)[i].2 := by
      have e2' : ((roleKV (rolesF dss))[i]?.map Prod.snd) = some x2 := e2
      rw [g] at e2'
      exact (Option.some.inj e2').symm
    subst ex1 ex2
    have more := names_more (fun p => !p.2) (List.getElem?_eq_getElem hi')
    have nTD : D ≠ T := ne_of_none eD nT
    have s2 := s.trans (same_new nT (o := .tup [.str (rolesF dss)[i].1, .bl (rolesF dss)[i].2]))
    refine ⟨T, _, rfl, .inl (.inl upd_same), rfl, _, _, rfl, _, _, rfl, rfl, rfl, _, rfl, _, rfl, ?_⟩
    cases hb : (rolesF dss)[i].2 with
    | true =>
      rw [hb] at more s2
      refine ⟨s2, same_new nT _ _ ed, ?_⟩
      rw [more, if_neg (by exact Bool.noConfusion), List.append_nil]
      exact same_new nT _ _ eD
    | false =>
      rw [hb] at more s2
      refine ⟨_, rfl, _, same_new nT _ _ eD, ?_, fun b x e => ?_, ?_, ?_⟩
      · rw [List.length_map]
        have := names_le (fun p => !p.2) (rolesF dss) i
        exact big' (by unfold rolesF at *; omega)
      · rw [upd_ne (ne_of_none e nDH)]
        exact s2 _ _ e
      · rw [upd_ne nDd]
        exact same_new nT _ _ ed
      · rw [upd_same, more, if_pos (show (!false) = true from rfl), List.map_append]
        rfl
  · obtain ⟨s, ed, eD⟩ := hJ
    have e : (rolesF dss).take (roleKV (rolesF dss)).length = rolesF dss := by
      unfold roleKV
      rw [List.length_map]
      exact List.take_of_length_le (Nat.le_refl _)
    rw [e] at eD
    refine ⟨D, oldOf (rolesF dss), rfl, .inl (.inl eD), ?_, fun ys p perm srt np => ?_⟩
    · unfold oldOf
      rw [List.length_map]
      have := List.length_filter_le (fun p : Str × Bool => !p.2) (rolesF dss)
      unfold rolesF at *
      omega
    · have ey := srtS_of perm srt
      subst ey
      exact ⟨p, _, rfl, .inl ⟨.inl (.inl upd_same), fun l nl => q _ l ((s.trans (same_new np)).trans (same_new nl)) (.inl (.inl upd_same))⟩⟩

/-- slots of new_names: 0 script, 1 name, 2 is_new -/
def n_new_names : List Str := ["script", "name", "is_new"]
def t_new_names (K : PySem.W.Frag) : TS :=
  (tRet (tCB (rTupOf K) (tCons (tCB (rSortedS K) (tCons (tLc (iItemsF (tCall (sp_roles K) [] E0 (tCons (tVar 0) tNil))) (gTup K 2 (gCons (gName 1) (gCons (gName 2) gNil))) (tB (tVar 2)) (tVar 1) [1, 2]) tNil)) tNil)))

def sp_new_names (K : PySem.W.Frag) : Sp := fun vs H Q _ => ∃ (v : V) (dss : List (List Str)), vs = [v] ∧ ScrR K H v dss ∧ Small dss ∧
  ∀ (H' : Hp) (p : Addr), Same H H' → SqT K H' p ((srtS (newOf (rolesF dss))).map V.str) → Q (.ref p) H'
theorem pure_new_names {K : PySem.W.Frag} (vs : List V) (H : Hp) (Q : VK) (E : XK) (h : sp_new_names K vs H Q E) : t_new_names K { nx := fun _ H' => Q .non H', rt := Q } (start n_new_names vs) H := by
  obtain ⟨v, dss, rfl, hS, sm, q⟩ := h
  have lim := sm.roles dss.length (Nat.le_refl _)
  refine ⟨v, rfl, v, dss, rfl, hS, sm, fun H1 d nd s1 ed => ⟨d, _, rfl, ed, fun o D nD => ?_⟩⟩
  have s1' : Same H (upd H1 d (.frz o (.dK (roleKV (rolesF dss))))) := fun b x e => by
    rw [upd_ne (ne_of_none e nd)]
    exact s1 _ _ e
  have nDH := s1'.free nD
  have nDd : d ≠ D := ne_of_none upd_same nD
  refine lc_it (walk_items (kvs := roleKV (rolesF dss))) (fun i H' => Same H H' ∧ H' d = some (.frz o (.dK (roleKV (rolesF dss)))) ∧ H' D = some (.lst ((((rolesF dss).take i).filter fun p => p.2).map (·.1) |>.map V.str)))
    ⟨s1'.trans (same_new nD), same_new nD _ _ upd_same, upd_same⟩ (fun i H' _ hJ => hJ.2.1) (fun i x H' H2 hi hJ hy => ?_) (fun H' hJ => ?_)
  · obtain ⟨T, x1, x2, rfl, nT, rfl, e1, e2⟩ := hy
    obtain ⟨s, ed, eD⟩ := hJ
    have hi' : i < (rolesF dss).length := by
      unfold roleKV at hi
      rw [List.length_map] at hi
      exact hi
    have g : (roleKV (rolesF dss))[i]? = some (Sum.inr (rolesF dss)[i].1, V.bl (rolesF dss)[i].2) := by
      unfold roleKV
      rw [List.getElem?_map, List.getElem?_eq_getElem hi']
      rfl
    have ex1 : x1 = .str (rolesF dss)[i].1 := by
      have e1' : ((roleKV (rolesF dss))[i]?.map fun kv => kV kv.1) = some x1 := e1
      rw [g] at e1'
      exact (Option.some.inj e1').symm
    have ex2 : x2 = .bl (rolesF dss)[i].2 := by
      have e2' : ((roleKV (rolesF dss))[i]?.map Prod.snd) = some x2 := e2
      rw [g] at e2'
      exact (Option.some.inj e2').symm
    subst ex1 ex2
    have more := names_more (fun p => p.2) (List.getElem?_eq_getElem hi')
    have nTD : D ≠ T := ne_of_none eD nT
    have s2 := s.trans (same_new nT (o := .tup [.str (rolesF dss)[i].1, .bl (rolesF dss)[i].2]))
    refine ⟨T, _, rfl, .inl (.inl upd_same), rfl, _, _, rfl, _, _, rfl, rfl, rfl, _, rfl, _, rfl, ?_⟩
    cases hb : (rolesF dss)[i].2 with
    | false =>
      rw [hb] at more s2
      refine ⟨s2, same_new nT _ _ ed, ?_⟩
      rw [more, if_neg (by exact Bool.noConfusion), List.append_nil]
      exact same_new nT _ _ eD
    | true =>
      rw [hb] at more s2
      refine ⟨_, rfl, _, same_new nT _ _ eD, ?_, fun b x e => ?_, ?_, ?_⟩
      · rw [List.length_map]
        have := names_le (fun p => p.2) (rolesF dss) i
        exact big' (by unfold rolesF at *; omega)
      · rw [upd_ne (ne_of_none e nDH)]
        exact s2 _ _ e
      · rw [upd_ne nDd]
        exact same_new nT _ _ ed
      · rw [upd_same, more, if_pos rfl, List.map_append]
        rfl
  · obtain ⟨s, ed, eD⟩ := hJ
    have e : (rolesF dss).take (roleKV (rolesF dss)).length = rolesF dss := by
      unfold roleKV
      rw [List.length_map]
      exact List.take_of_length_le (Nat.le_refl _)
    rw [e] at eD
    refine ⟨D, newOf (rolesF dss), rfl, .inl (.inl eD), ?_, fun ys p perm srt np => ?_⟩
    · unfold newOf
      rw [List.length_map]
      have := List.length_filter_le (fun p : Str × Bool => p.2) (rolesF dss)
      unfold rolesF at *
      omega
    · have ey := srtS_of perm srt
      subst ey
      exact ⟨p, _, rfl, .inl ⟨.inl (.inl upd_same), fun l nl => q _ l ((s.trans (same_new np)).trans (same_new nl)) (.inl (.inl upd_same))⟩⟩

/-- slots of _law_words: 0 _law_words_here -/
def n_wordsL : List Str := ["_law_words_here"]
def t_wordsL (K : PySem.W.Frag) : TS :=
  (tSeq (tAsg (tLst (tCons (tC (.str "first")) (tCons (tC (.str "last")) (tCons (tC (.str "ahead")) (tCons (tC (.str "behind")) (tCons (tC (.str "front")) (tCons (tC (.str "back")) (tCons (tC (.str "swap")) tNil)))))))) (gName 0))
    (tRet (tOp rCat (tVar 0) (tLst (tCons (tC (.str "turn")) (tCons (tC (.str "lift")) (tCons (tC (.str "cut")) (tCons (tC (.str "pour")) (tCons (tC (.str "wrap")) (tCons (tC (.str "put")) tNil))))))))))

/-- the thirteen words, in a new list -/
def sp_wordsL : Sp := fun vs H Q _ => vs = [] ∧ ∀ (H' : Hp) (l : Addr), H l = none → Same H H' → H' l = some (.lst (wordsS.map V.str)) → Q (.ref l) H'
theorem pure_wordsL {K : PySem.W.Frag} (vs : List V) (H : Hp) (Q : VK) (E : XK) (h : sp_wordsL vs H Q E) : t_wordsL K { nx := fun _ H' => Q .non H', rt := Q } (start n_wordsL vs) H := by
  obtain ⟨rfl, q⟩ := h
  refine ⟨big (by show 7 ≤ 100000; decide), fun p np => ?_⟩
  refine ⟨.ref p, rfl, big (by show 6 ≤ 100000; decide), fun p2 np2 => ?_⟩
  refine ⟨p, p2, _, _, rfl, rfl, same_new np2 _ _ upd_same, upd_same, big (by show 7 + 6 ≤ 100000; decide), fun p3 np3 => ?_⟩
  exact q _ p3 (((same_new np).trans (same_new np2)).free np3) (((same_new np).trans (same_new np2)).trans (same_new np3)) upd_same

/-- slots of _law_some_deed: 0 _law_deck_here, 1 _law_names_here, 2 _law_word -/
def n_some_deedL : List Str := ["_law_deck_here", "_law_names_here", "_law_word"]
def t_some_deedL (K : PySem.W.Frag) : TS :=
  (tSeq (tAsg (tCall (sp_pickL K) [] E0 (tCons (tVar 0) (tCons (tCall sp_wordsL [] E0 tNil) tNil))) (gName 2))
    (tSeq (tIfS (tTest (tOp (rIn K false) (tVar 2) (tTup (tCons (tC (.str "front")) (tCons (tC (.str "back")) (tCons (tC (.str "lift")) (tCons (tC (.str "cut")) tNil))))))) (tRet (tTup (tCons (tVar 2) (tCons (tCall (sp_pickL K) [] E0 (tCons (tVar 0) (tCons (tVar 1) tNil))) tNil)))) tNext)
    (tRet (tTup (tCons (tVar 2) (tCons (tCall (sp_pickL K) [] E0 (tCons (tVar 0) (tCons (tVar 1) tNil))) (tCons (tCall (sp_pickL K) [] E0 (tCons (tVar 0) (tCons (tVar 1) tNil))) tNil)))))))

/-- any deed on some names -/
def sp_some_deedL (K : PySem.W.Frag) : Sp := fun vs H Q _ => ∃ (d l : Addr) (ns : List Str), vs = [.ref d, .ref l] ∧ Dk H d ∧ l ≠ d ∧ SqL K H l (ns.map V.str) ∧ 0 < ns.length ∧ ns.length ≤ 1000 ∧
  ∀ (H' : Hp) (v : V) (ds : List Str), DeedR K H' v ds → IsDeed ds → (∀ z ∈ ds.drop 1, z ∈ ns) → Kp d H H' → Dk H' d → Q v H'
theorem inV_single (w : Str) : inV (.str w) (singleS.map V.str) = true ↔ w ∈ singleS := by
  rw [inV_strs]
  simp
theorem pure_some_deedL {K : PySem.W.Frag} (vs : List V) (H : Hp) (Q : VK) (E : XK) (h : sp_some_deedL K vs H Q E) : t_some_deedL K { nx := fun _ H' => Q .non H', rt := Q } (start n_some_deedL vs) H := by
  obtain ⟨d, l, ns, rfl, hD, nl, hL, n0, n1, q⟩ := h
  refine ⟨.ref d, rfl, rfl, fun H2 lw nlw s2 elw => ?_⟩
  refine ⟨d, lw, _, rfl, hD.same s2, hD.ne nlw, .inl (.inl elw), ?_, ?_, fun H3 v mv k3 hD3 => ?_⟩
  · rw [List.length_map]
    decide +kernel
  · rw [List.length_map]
    decide +kernel
  obtain ⟨w, mw, rfl⟩ := List.mem_map.mp mv
  have k03 : Kp d H H3 := (Kp.of s2).trans k3
  have pick : ∀ (H4 : Hp) (R : VK), Kp d H H4 → Dk H4 d → (∀ H5 z, z ∈ ns → Kp d H4 H5 → Dk H5 d → R (.str z) H5) → sp_pickL K [.ref d, .ref l] H4 R E0 := fun H4 R k4 hD4 r =>
    ⟨d, l, ns.map V.str, rfl, hD4, nl, k4.sqL nl hL, by rw [List.length_map]; exact n0, by rw [List.length_map]; omega, fun H5 v mv k5 hD5 => by
      obtain ⟨z, mz, rfl⟩ := List.mem_map.mp mv
      exact r H5 z mz k5 hD5⟩
  refine ⟨.str w, rfl, big (by show 4 ≤ 100000; decide), fun p np => ⟨p, _, rfl, .inr (.inl (.inl upd_same)), rfl, flat_strs singleS, _, rfl, ?_⟩⟩
  have k4 := k03.then_new (o := .tup (singleS.map V.str)) np
  have hD4 := hD3.new (o := .tup (singleS.map V.str)) np
  show if (if false = true then !inV (.str w) (singleS.map V.str) else inV (.str w) (singleS.map V.str)) = true then _ else _
  rw [if_neg Bool.false_ne_true]
  by_cases c : inV (.str w) (singleS.map V.str) = true
  · rw [if_pos c]
    refine ⟨.str w, rfl, .ref d, rfl, .ref l, rfl, pick _ _ k4 hD4 fun H5 z mz k5 hD5 => ⟨big (by show 2 ≤ 100000; decide), fun t nt => ?_⟩⟩
    refine q _ _ [w, z] ⟨t, rfl, .inl (.inl upd_same)⟩ ⟨w, [z], rfl, mw, by rw [if_pos ((inV_single w).mp c)]; rfl⟩ (fun y hy => ?_) ((k4.trans k5).then_new nt) (hD5.new nt)
    rcases List.mem_cons.mp hy with rfl | hy
    · exact mz
    · cases hy
  · rw [if_neg c]
    refine ⟨.str w, rfl, .ref d, rfl, .ref l, rfl, pick _ _ k4 hD4 fun H5 z mz k5 hD5 => ⟨.ref d, rfl, .ref l, rfl, pick _ _ (k4.trans k5) hD5 fun H6 y my k6 hD6 => ⟨big (by show 3 ≤ 100000; decide), fun t nt => ?_⟩⟩⟩
    refine q _ _ [w, z, y] ⟨t, rfl, .inl (.inl upd_same)⟩ ⟨w, [z, y], rfl, mw, by rw [if_neg (fun h => c ((inV_single w).mpr h))]; rfl⟩ (fun x hx => ?_) (((k4.trans k5).trans k6).then_new nt) (hD6.new nt)
    rcases List.mem_cons.mp hx with rfl | hx
    · exact mz
    · rcases List.mem_cons.mp hx with rfl | hx
      · exact my
      · cases hx

/-- slots of _law_roles: 0 _law_deeds, 1 _law_old, 2 _law_new, 3 _law_deed, 4 _law_made, 5 _law_k -/
def n_rolesL : List Str := ["_law_deeds", "_law_old", "_law_new", "_law_deed", "_law_made", "_law_k"]
def t_rolesL (K : PySem.W.Frag) : TS :=
  (tSeq (tPar 1 2 (tCons (tLst tNil) (tCons (tLst tNil) tNil)))
    (tSeq (tFor (iTup K (tVar 0)) (gName 3) (tSeq (tAsg (tDGet2 (tDisp [((tC (.str "wrap")), (tC (.int 2))), ((tC (.str "put")), (tC (.int 1)))]) (tOp (rIxT K) (tVar 3) (tC (.int 0))) (tC (.int 0))) (gName 4))
    (tFor (iRng2 (tCons (tC (.int 1)) (tCons (tCB (rLenQ K) (tCons (tVar 3) tNil)) tNil))) (gName 5) (tIfS (tTest (tOp (rIn K true) (tOp (rIxT K) (tVar 3) (tVar 5)) (tOp rCat (tVar 1) (tVar 2)))) (tIfS (tTest (tOp rEq (tVar 5) (tVar 4))) (tDrop (tBM K "list" rAppend (tVar 2) (tCons (tOp (rIxT K) (tVar 3) (tVar 5)) tNil))) (tDrop (tBM K "list" rAppend (tVar 1) (tCons (tOp (rIxT K) (tVar 3) (tVar 5)) tNil)))) tNext))))
    (tRet (tTup (tCons (tCB (rTupOf K) (tCons (tCB (rSortedS K) (tCons (tVar 1) tNil)) tNil)) (tCons (tCB (rTupOf K) (tCons (tCB (rSortedS K) (tCons (tVar 2) tNil)) tNil)) tNil))))))

/-- the old and the new names, ascending, as a pair of tuples -/
def sp_rolesL (K : PySem.W.Frag) : Sp := fun vs H Q _ => ∃ (v : V) (dss : List (List Str)), vs = [v] ∧ ScrR K H v dss ∧ Small dss ∧
  ∀ (H' : Hp) (p a1 a2 : Addr), Same H H' → SqT K H' p [.ref a1, .ref a2] → SqT K H' a1 ((srtS (oldOf (rolesF dss))).map V.str) → SqT K H' a2 ((srtS (newOf (rolesF dss))).map V.str) → Q (.ref p) H'
def mkIx (w : Str) : Nat := if w = "wrap" then 2 else if w = "put" then 1 else 0
theorem mkIx_mkB (w : Str) (k : Nat) (h : 1 ≤ k) : mkB w k = decide (k = mkIx w) := by
  unfold mkB mkIx
  by_cases c1 : w = "wrap"
  · have c2 : w ≠ "put" := by
      rw [c1]
      decide +kernel
    rw [if_pos c1, decide_eq_true c1, decide_eq_false c2]
    simp
  · rw [if_neg c1, decide_eq_false c1]
    by_cases c2 : w = "put"
    · rw [if_pos c2, decide_eq_true c2]
      simp
    · rw [if_neg c2, decide_eq_false c2]
      simp
      omega
theorem any_names (x : Str) : ∀ acc : List (Str × Bool), (oldOf acc ++ newOf acc).contains x = acc.any (fun p => decide (p.1 = x)) := by
  intro acc
  rw [Bool.eq_iff_iff]
  unfold oldOf newOf
  simp only [List.contains_eq_mem, List.mem_append, List.mem_map, List.mem_filter, decide_eq_true_eq, List.any_eq_true, Bool.not_eq_true']
  constructor
  · rintro (⟨p, ⟨m, _⟩, e⟩ | ⟨p, ⟨m, _⟩, e⟩)
    · exact ⟨p, m, e⟩
    · exact ⟨p, m, e⟩
  · rintro ⟨p, m, e⟩
    cases h : p.2 with
    | true => exact .inr ⟨p, ⟨m, h⟩, e⟩
    | false => exact .inl ⟨p, ⟨m, h⟩, e⟩
theorem oldOf_snoc (acc : List (Str × Bool)) (x : Str) (b : Bool) : oldOf (acc ++ [(x, b)]) = if b = true then oldOf acc else oldOf acc ++ [x] := by
  unfold oldOf
  rw [List.filter_append, List.map_append]
  cases b <;> simp
theorem newOf_snoc (acc : List (Str × Bool)) (x : Str) (b : Bool) : newOf (acc ++ [(x, b)]) = if b = true then newOf acc ++ [x] else newOf acc := by
  unfold newOf
  rw [List.filter_append, List.map_append]
  cases b <;> simp
theorem oldOf_le (acc : List (Str × Bool)) : (oldOf acc).length ≤ acc.length := by
  unfold oldOf
  rw [List.length_map]
  exact List.length_filter_le _ _
theorem newOf_le (acc : List (Str × Bool)) : (newOf acc).length ≤ acc.length := by
  unfold newOf
  rw [List.length_map]
  exact List.length_filter_le _ _
theorem made_val (w : Str) : (valV (mergeK [] [(Sum.inr ("wrap" : Str), V.int 2), (Sum.inr ("put" : Str), V.int 1)]) (Sum.inr w)).getD (.int 0) = V.int (mkIx w : Nat) := by
  have e : mergeK [] [(Sum.inr ("wrap" : Str), V.int 2), (Sum.inr ("put" : Str), V.int 1)] = [(Sum.inr ("wrap" : Str), V.int 2), (Sum.inr ("put" : Str), V.int 1)] := by decide +kernel
  rw [e]
  unfold mkIx
  by_cases c1 : w = "wrap"
  · rw [if_pos c1, valV_pos (p := (Sum.inr ("wrap" : Str), V.int 2)) (by rw [c1])]
    rfl
  · rw [if_neg c1, valV_neg (p := (Sum.inr ("wrap" : Str), V.int 2)) (fun h => c1 (Sum.inr.inj h).symm)]
    by_cases c2 : w = "put"
    · rw [if_pos c2, valV_pos (p := (Sum.inr ("put" : Str), V.int 1)) (by rw [c2])]
      rfl
    · rw [if_neg c2, valV_neg (p := (Sum.inr ("put" : Str), V.int 1)) (fun h => c2 (Sum.inr.inj h).symm)]
      rfl
theorem pure_rolesL {K : PySem.W.Frag} (vs : List V) (H : Hp) (Q : VK) (E : XK) (h : sp_rolesL K vs H Q E) : t_rolesL K { nx := fun _ H' => Q .non H', rt := Q } (start n_rolesL vs) H := by
  obtain ⟨v, dss, rfl, ⟨a, ws, rfl, ha, hp⟩, sm, q⟩ := h
  have hlen := paired_len hp
  refine ⟨big (by decide), fun p1 n1 => ⟨big (by decide), fun p2 n2 => ⟨_, _, rfl, ?_⟩⟩⟩
  have n2' : H p2 = none := (same_new n1).free n2
  have n12 : p1 ≠ p2 := ne_of_none upd_same n2
  have s2 : Same H (upd (upd H p1 (.lst [])) p2 (.lst [])) := (same_new n1).trans (same_new n2)
  refine ⟨.ref a, rfl, a, rfl, ⟨_, Same.sqT s2 ha⟩, for_it (walk_tup (xs := ws)) (fun i σ H' => ∃ y3 y4 y5, σ = [some (.ref a), some (.ref p1), some (.ref p2), y3, y4, y5] ∧ Same H H' ∧ H' p1 = some (.lst ((oldOf (sRoles dss i)).map V.str)) ∧ H' p2 = some (.lst ((newOf (sRoles dss i)).map V.str))) ⟨none, none, none, rfl, s2, same_new n2 _ _ upd_same, upd_same⟩ (fun i σ H' _ hJ => ?_) (fun i x σ H' H2 hi hJ hy => ?_) (fun σ H' hJ => ?_)⟩
  · obtain ⟨_, _, _, _, s, _⟩ := hJ
    exact Same.sqT s ha
  · obtain ⟨y3, y4, y5, rfl, s, e1, e2⟩ := hJ
    obtain ⟨rfl, hx⟩ := hy
    obtain ⟨ds, hds, b, rfl, hb⟩ := paired_get hp hx
    have mds := sm.l ds (List.mem_of_getElem? hds)
    obtain ⟨w, r, rfl⟩ : ∃ w r, ds = w :: r := by
      cases ds with
      | nil => exact absurd mds.1 (by simp)
      | cons w r => exact ⟨w, r, rfl⟩
    have hil : i < dss.length := by rw [← hlen]; exact hi
    have lim := sm.roles i (by omega)
    have sR : sRoles dss (i + 1) = dRoles (sRoles dss i) (w :: r) (w :: r).length := by
      show (match dss[i]? with | some ds => _ | none => _) = _
      rw [hds]
    -- made
    intro pd nd
    refine ⟨upd_same, [(Sum.inr ("wrap" : Str), V.int 2), (Sum.inr ("put" : Str), V.int 1)], rfl, by show 2 ≤ 15; decide, ?_⟩
    rw [upd_upd]
    have s3 : Same H (upd H2 pd (.dK (mergeK [] [(Sum.inr ("wrap" : Str), V.int 2), (Sum.inr ("put" : Str), V.int 1)]))) := s.trans (same_new nd)
    refine ⟨pd, rfl, .inl ⟨_, .inl upd_same⟩, .ref b, rfl, b, _, 0, _, rfl, rfl, Same.sqT s3 hb, atI_nat (j := 0) rfl, _, DGet.k (k := Sum.inr w) upd_same, ?_⟩
    rw [made_val]
    refine ⟨.ref b, rfl, b, _, rfl, .inr (Same.sqT s3 hb), 1, _, rfl, ⟨by decide, by decide, by omega, ?_⟩, ?_⟩
    · rw [List.length_map]
      omega
    have en : ((((w :: r).map V.str).length : Int) - 1).toNat = r.length := by
      rw [List.length_map, List.length_cons]
      omega
    rw [en]
    refine for_range (lo := 1) (n := r.length) (fun j σ H' => ∃ y5, σ = [some (.ref a), some (.ref p1), some (.ref p2), some (.ref b), some (.int (mkIx w : Nat)), y5] ∧ Same H H' ∧ H' p1 = some (.lst ((oldOf (dRoles (sRoles dss i) (w :: r) (j + 1))).map V.str)) ∧ H' p2 = some (.lst ((newOf (dRoles (sRoles dss i) (w :: r) (j + 1))).map V.str))) ⟨_, rfl, s3, same_new nd _ _ e1, same_new nd _ _ e2⟩ (fun j σ H' hj hJ => ?_) (fun σ H' hJ => ?_)
    · obtain ⟨y5, rfl, s, e1, e2⟩ := hJ
      have hj' : j + 1 < (w :: r).length := by
        rw [List.length_cons]
        omega
      have at1 : atI ((w :: r).map V.str) (1 + (j : Int)) = some (.str (w :: r)[j + 1]) := by
        rw [show (1 + (j : Int)) = ((j + 1 : Nat) : Int) by omega]
        exact atI_nat (by rw [List.getElem?_map, List.getElem?_eq_getElem hj']; rfl)
      generalize hx : (w :: r)[j + 1] = x at at1
      generalize hacc : dRoles (sRoles dss i) (w :: r) (j + 1) = acc at e1 e2
      have step : dRoles (sRoles dss i) (w :: r) (j + 1 + 1) = addRole acc x (mkB w (j + 1)) := by
        show roleStep (dRoles (sRoles dss i) (w :: r) (j + 1)) (w :: r) (j + 1) = _
        unfold roleStep
        rw [List.getElem?_eq_getElem hj', hx, hacc]
        rfl
      rw [step]
      have lacc : acc.length ≤ 63 := by
        have := dRoles_len (sRoles dss i) (w :: r) (j + 1)
        rw [hacc] at this
        omega
      have lo := oldOf_le acc
      have ln := newOf_le acc
      have hb' : SqT K H' b ((w :: r).map V.str) := Same.sqT s hb
      refine ⟨.ref b, rfl, .int (1 + j), rfl, b, _, _, _, rfl, rfl, hb', at1, .ref p1, rfl, .ref p2, rfl, p1, p2, _, _, rfl, rfl, e1, e2, ?_, fun p np => ?_⟩
      · rw [List.length_map, List.length_map]
        exact big (by omega)
      · rw [← List.map_append]
        have s4 : Same H (upd H' p (.lst ((oldOf acc ++ newOf acc).map V.str))) := s.trans (same_new np)
        have e1' : (upd H' p (.lst ((oldOf acc ++ newOf acc).map V.str))) p1 = _ := same_new np _ _ e1
        have e2' : (upd H' p (.lst ((oldOf acc ++ newOf acc).map V.str))) p2 = _ := same_new np _ _ e2
        refine ⟨p, _, rfl, .inl (.inl (.inl upd_same)), rfl, flat_strs _, _, rfl, ?_⟩
        show if (if true = true then !inV (.str x) ((oldOf acc ++ newOf acc).map V.str) else _) = true then _ else _
        rw [if_pos rfl, inV_strs, any_names]
        unfold addRole
        cases c : acc.any (fun p => decide (p.1 = x)) with
        | true => exact ⟨_, rfl, s4, e1', e2'⟩
        | false =>
          have hq : decide (V.int (1 + (j : Int)) = V.int ((mkIx w : Nat) : Int)) = mkB w (j + 1) := by
            rw [mkIx_mkB w (j + 1) (by omega)]
            by_cases d : j + 1 = mkIx w
            · rw [decide_eq_true d, decide_eq_true (by rw [← d]; congr 1; omega)]
            · rw [decide_eq_false d, decide_eq_false (fun h => d (by injection h with h; omega))]
          refine ⟨.int (1 + j), rfl, .int (mkIx w : Nat), rfl, rfl, _, rfl, ?_⟩
          rw [hq]
          rw [if_neg Bool.false_ne_true, oldOf_snoc, newOf_snoc]
          cases hm : mkB w (j + 1) with
          | true =>
            refine ⟨.ref p2, rfl, .inl ⟨rfl, _, .inl (.inl e2')⟩, .ref b, rfl, .int (1 + j), rfl, b, _, _, _, rfl, rfl, Same.sqT s4 hb, at1, p2, _, _, rfl, rfl, e2', ?_, _, rfl, fun z o e => ?_, ?_, ?_⟩
            · rw [List.length_map]
              exact big' (by omega)
            · rw [upd_ne (ne_of_none e n2')]
              exact s4 _ _ e
            · rw [upd_ne n12]
              exact e1'
            · rw [upd_same, if_pos rfl, List.map_append]
              rfl
          | false =>
            refine ⟨.ref p1, rfl, .inl ⟨rfl, _, .inl (.inl e1')⟩, .ref b, rfl, .int (1 + j), rfl, b, _, _, _, rfl, rfl, Same.sqT s4 hb, at1, p1, _, _, rfl, rfl, e1', ?_, _, rfl, fun z o e => ?_, ?_, ?_⟩
            · rw [List.length_map]
              exact big' (by omega)
            · rw [upd_ne (ne_of_none e n1)]
              exact s4 _ _ e
            · rw [upd_same, if_neg Bool.false_ne_true, List.map_append]
              rfl
            · rw [upd_ne n12.symm]
              exact e2'
    · obtain ⟨y5, rfl, s, e1, e2⟩ := hJ
      refine ⟨_, _, _, rfl, s, ?_, ?_⟩
      · rw [sR, List.length_cons]
        exact e1
      · rw [sR, List.length_cons]
        exact e2
  · obtain ⟨y3, y4, y5, rfl, s, e1, e2⟩ := hJ
    rw [hlen] at e1 e2
    have lim := sm.roles dss.length (Nat.le_refl _)
    have lo := oldOf_le (sRoles dss dss.length)
    have ln := newOf_le (sRoles dss dss.length)
    refine ⟨.ref p1, rfl, p1, _, rfl, .inl (.inl e1), by omega, fun ys t1 perm srt nt1 => ?_⟩
    have ey := srtS_of perm srt
    subst ey
    refine ⟨t1, _, rfl, .inl ⟨.inl (.inl upd_same), fun u1 nu1 => ?_⟩⟩
    have su1 := (same_new nt1 (o := .lst ((srtS (oldOf (sRoles dss dss.length))).map V.str))).trans (same_new nu1 (o := .tup ((srtS (oldOf (sRoles dss dss.length))).map V.str)))
    refine ⟨.ref p2, rfl, p2, _, rfl, .inl (.inl (su1 _ _ e2)), by omega, fun ys t2 perm srt nt2 => ?_⟩
    have ey := srtS_of perm srt
    subst ey
    refine ⟨t2, _, rfl, .inl ⟨.inl (.inl upd_same), fun u2 nu2 => ⟨big (by show 2 ≤ 100000; decide), fun p np => ?_⟩⟩⟩
    have su2 := (same_new nt2 (o := .lst ((srtS (newOf (sRoles dss dss.length))).map V.str))).trans (same_new nu2 (o := .tup ((srtS (newOf (sRoles dss dss.length))).map V.str)))
    exact q _ p u1 u2 (((s.trans su1).trans su2).trans (same_new np)) (.inl (.inl upd_same)) (.inl (.inl ((su2.trans (same_new np)) _ _ upd_same))) (.inl (.inl (same_new np _ _ upd_same)))

/-- slots of _law_right_script: 0 _law_deck_here, 1 _law_old, 2 _law_new, 3 _law_most, 4 _law_deeds, 5 _law_names_here, 6 _law_k, 7 _law_deed, 8 _law_made, 9 _law_both, 10 _law_j -/
def n_right_scriptL : List Str := ["_law_deck_here", "_law_old", "_law_new", "_law_most", "_law_deeds", "_law_names_here", "_law_k", "_law_deed", "_law_made", "_law_both", "_law_j"]
def t_right_scriptL (K : PySem.W.Frag) : TS :=
  (tSeq (tAsg (tTup tNil) (gName 4))
    (tSeq (tAsg (tOp rCat (tVar 1) (tVar 2)) (gName 5))
    (tSeq (tFor (iRng1 (tCons (tCall sp_drawL [] E0 (tCons (tVar 0) (tCons (tOp rAddI (tVar 3) (tC (.int 1))) tNil))) tNil)) (gName 6) (tSeq (tAsg (tCall (sp_some_deedL K) [] E0 (tCons (tVar 0) (tCons (tLc (iRng1 (tCons (tC (.int 3)) tNil)) (gName 10) tYes (tCall (sp_pickL K) [] E0 (tCons (tVar 0) (tCons (tVar 5) tNil))) [10]) tNil))) (gName 7))
    (tSeq (tIfS (tAnd (tTest (tOp (rIn K true) (tOp (rIxT K) (tVar 7) (tC (.int 0))) (tTup (tCons (tC (.str "wrap")) (tCons (tC (.str "put")) tNil))))) (tAnd (tTest (tOp rEq (tCall sp_drawL [] E0 (tCons (tVar 0) (tCons (tC (.int 6)) tNil))) (tC (.int 0)))) (tTest (tOp (rNeE K) (tVar 2) (tLst tNil))))) (tSeq (tAsg (tCall (sp_pickL K) [] E0 (tCons (tVar 0) (tCons (tVar 2) tNil))) (gName 8))
    (tAsg (tCall (sp_pickL K) [] E0 (tCons (tVar 0) (tCons (tLst (tCons (tTup (tCons (tC (.str "wrap")) (tCons (tOp (rIxT K) (tVar 7) (tC (.int 1))) (tCons (tVar 8) tNil)))) (tCons (tTup (tCons (tC (.str "put")) (tCons (tVar 8) (tCons (tOp (rIxT K) (tVar 7) (tC (.int 1))) tNil)))) tNil))) tNil))) (gName 7))) tNext)
    (tSeq (tAsg (tCall (sp_rolesL K) [] E0 (tCons (tOp (rCatA K) (tVar 4) (tTup (tCons (tVar 7) tNil))) tNil)) (gName 9))
    (tIfS (tAnd (tTest (tOp rLtI (tCB (rLenQ K) (tCons (tOp (rIxT K) (tVar 9) (tC (.int 0))) tNil)) (tC (.int 5)))) (tTest (tOp rLtI (tCB (rLenQ K) (tCons (tOp (rIxT K) (tVar 9) (tC (.int 1))) tNil)) (tC (.int 4))))) (tAsg (tOp (rCatA K) (tVar 4) (tTup (tCons (tVar 7) tNil))) (gName 4)) tNext)))))
    (tRet (tVar 4)))))

/-- a script on some names, within the limits -/
def sp_right_scriptL (K : PySem.W.Frag) : Sp := fun vs H Q _ => ∃ (d lo ln : Addr) (os ns : List Str) (m : Nat), vs = [.ref d, .ref lo, .ref ln, .int (m : Int)] ∧ Dk H d ∧ lo ≠ d ∧ ln ≠ d ∧ H lo = some (.lst (os.map V.str)) ∧ H ln = some (.lst (ns.map V.str)) ∧
  0 < os.length + ns.length ∧ os.length ≤ 500 ∧ ns.length ≤ 500 ∧ m ≤ 20 ∧
  ∀ (H' : Hp) (v : V) (dss : List (List Str)), ScrR K H' v dss → dss.length ≤ m → (∀ ds ∈ dss, IsDeed ds ∧ ∀ z ∈ ds.drop 1, z ∈ os ++ ns) → (oldOf (rolesF dss)).length ≤ 4 → (newOf (rolesF dss)).length ≤ 3 → Kp d H H' → Dk H' d → Q v H'
theorem wp_deed (w x y : Str) (hw : w = "wrap" ∨ w = "put") : IsDeed [w, x, y] := by
  refine ⟨w, [x, y], rfl, ?_, ?_⟩
  · rcases hw with rfl | rfl <;> decide +kernel
  · rcases hw with rfl | rfl
    · rw [if_neg (by decide +kernel)]
      rfl
    · rw [if_neg (by decide +kernel)]
      rfl
theorem pure_right_scriptL {K : PySem.W.Frag} (vs : List V) (H : Hp) (Q : VK) (E : XK) (h : sp_right_scriptL K vs H Q E) : t_right_scriptL K { nx := fun _ H' => Q .non H', rt := Q } (start n_right_scriptL vs) H := by
  obtain ⟨d, lo, ln, os, ns, m, rfl, hD, nlo, nln, elo, eln, n0, n1, n2, hm, q⟩ := h
  refine ⟨big (by decide), fun t0 nt0 => ?_⟩
  refine ⟨.ref lo, rfl, .ref ln, rfl, lo, ln, _, _, rfl, rfl, same_new nt0 _ _ elo, same_new nt0 _ _ eln, ?_, fun la nla => ?_⟩
  · rw [List.length_map, List.length_map]
    exact big (by omega)
  rw [← List.map_append]
  have s2 : Same H (upd (upd H t0 (.tup [])) la (.lst ((os ++ ns).map V.str))) := (same_new nt0).trans (same_new nla)
  have hD2 := hD.same s2
  have nlad : la ≠ d := (hD.new nt0).ne nla
  refine ⟨.ref d, rfl, .int m, rfl, _, _, rfl, rfl, d, (m : Int) + 1, rfl, hD2, by omega, by omega, fun H3 r r0 r1 k3 hD3 => ⟨r, rfl, by omega, by omega, ?_⟩⟩
  have ela3 : H3 la = some (.lst ((os ++ ns).map V.str)) := k3 _ _ nlad upd_same
  have k03 : Kp d H H3 := (Kp.of s2).trans k3
  refine for_range (lo := 0) (n := r.toNat) (fun i σ H' => ∃ (v : V) (dss : List (List Str)) (y6 y7 y8 y9 y10 : Option V), σ = [some (.ref d), some (.ref lo), some (.ref ln), some (.int m), some v, some (.ref la), y6, y7, y8, y9, y10] ∧ ScrR K H' v dss ∧ dss.length ≤ i ∧ (∀ ds ∈ dss, IsDeed ds ∧ ∀ z ∈ ds.drop 1, z ∈ os ++ ns) ∧ (oldOf (rolesF dss)).length ≤ 4 ∧ (newOf (rolesF dss)).length ≤ 3 ∧ H' la = some (.lst ((os ++ ns).map V.str)) ∧ Kp d H H' ∧ Dk H' d)
    ⟨.ref t0, [], none, none, none, none, none, rfl, ⟨t0, [], rfl, .inl (.inl (k3 _ _ ((hD.ne nt0)) (same_new nla _ _ upd_same))), .nil⟩, Nat.zero_le _, (fun _ h => nomatch h), Nat.zero_le _, Nat.zero_le _, ela3, k03, hD3⟩ (fun i σ H' hi hJ => ?_) (fun σ H' hJ => ?_)
  · obtain ⟨v, dss, y6, y7, y8, y9, y10, rfl, hS, ll, hds, lold, lnew, ela, k, hD⟩ := hJ
    have him : i < 20 := by omega
    -- a deed
    refine seq_by (t := tAsg _ _) (fun σ' H' => ∃ (u : V) (ds : List Str), σ' = [some (.ref d), some (.ref lo), some (.ref ln), some (.int m), some v, some (.ref la), some (.int (0 + i)), some u, y8, y9, y10] ∧ DeedR K H' u ds ∧ IsDeed ds ∧ (∀ z ∈ ds.drop 1, z ∈ os ++ ns) ∧ ScrR K H' v dss ∧ H' la = some (.lst ((os ++ ns).map V.str)) ∧ Kp d H H' ∧ Dk H' d) (fun σ' H4 hJ => ?_) (fun rest => ?_)
    · obtain ⟨u, ds, rfl, hu, hd, hz, hS, ela, k4, hD4⟩ := hJ
      -- one that makes
      refine seq_by (t := tIfS _ _ _) (fun σ' H' => ∃ (u : V) (ds : List Str) (y8 : Option V), σ' = [some (.ref d), some (.ref lo), some (.ref ln), some (.int m), some v, some (.ref la), some (.int (0 + i)), some u, y8, y9, y10] ∧ DeedR K H' u ds ∧ IsDeed ds ∧ (∀ z ∈ ds.drop 1, z ∈ os ++ ns) ∧ ScrR K H' v dss ∧ H' la = some (.lst ((os ++ ns).map V.str)) ∧ Kp d H H' ∧ Dk H' d) (fun σ' H5 hJ => ?_) (fun rest => ?_)
      · obtain ⟨u, ds, y8, rfl, ⟨ua, rfl, hua⟩, hd, hz, ⟨va, ws, rfl, hva, hp⟩, ela, k5, hD5⟩ := hJ
        have lw := paired_len hp
        -- both = roles(deeds + (deed,))
        refine ⟨.ref va, rfl, .ref ua, rfl, big (by show 1 ≤ 100000; decide), fun t1 nt1 => ?_⟩
        have s6 := same_new nt1 (o := .tup [.ref ua])
        refine cat_any (Same.sqT s6 hva) (.inl (.inl upd_same)) (by rw [List.length_cons, List.length_nil]; omega) fun p H7 s7 hp7 => ?_
        have s57 := s6.trans s7
        have hS7 : ScrR K H7 (.ref p) (dss ++ [ds]) := ⟨p, _, rfl, hp7, paired_app (L2.Paired.mapP hp fun _ _ z => z.same s57) (.cons ⟨ua, rfl, Same.sqT s57 hua⟩ .nil)⟩
        have all : ∀ e ∈ dss ++ [ds], IsDeed e ∧ ∀ z ∈ e.drop 1, z ∈ os ++ ns := fun e he => by
          rcases List.mem_append.mp he with h | h
          · exact hds e h
          · rcases List.mem_cons.mp h with rfl | h
            · exact ⟨hd, hz⟩
            · cases h
        have sm : Small (dss ++ [ds]) := small_of (by rw [List.length_append, List.length_cons, List.length_nil]; omega) fun e he => (all e he).1
        refine ⟨_, dss ++ [ds], rfl, hS7, sm, fun H8 pb a1 a2 s8 hpb h1 h2 => ?_⟩
        have s58 := s57.trans s8
        have ela8 := s58 _ _ ela
        have k8 := k5.trans (Kp.of s58)
        have hD8 := hD5.same s58
        have stay : ∃ (v : V) (dss : List (List Str)) (z6 z7 z8 z9 z10 : Option V), [some (.ref d), some (.ref lo), some (.ref ln), some (.int m), some (.ref va), some (.ref la), some (.int (0 + i)), some (.ref ua), y8, some (.ref pb), y10] = [some (.ref d), some (.ref lo), some (.ref ln), some (.int m), some v, some (.ref la), z6, z7, z8, z9, z10] ∧ ScrR K H8 v dss ∧ dss.length ≤ i + 1 ∧ (∀ ds ∈ dss, IsDeed ds ∧ ∀ z ∈ ds.drop 1, z ∈ os ++ ns) ∧ (oldOf (rolesF dss)).length ≤ 4 ∧ (newOf (rolesF dss)).length ≤ 3 ∧ H8 la = some (.lst ((os ++ ns).map V.str)) ∧ Kp d H H8 ∧ Dk H8 d :=
          ⟨_, dss, _, _, _, _, _, rfl, ⟨va, ws, rfl, Same.sqT s58 hva, L2.Paired.mapP hp fun _ _ z => z.same s58⟩, by omega, hds, lold, lnew, ela8, k8, hD8⟩
        refine ⟨.ref pb, rfl, pb, _, 0, _, rfl, rfl, hpb, atI_nat (j := 0) rfl, a1, _, rfl, .inr h1, _, _, rfl, rfl, _, rfl, ?_⟩
        by_cases c1 : (((srtS (oldOf (rolesF (dss ++ [ds])))).map V.str).length : Int) < 5
        · rw [decide_eq_true c1]
          refine ⟨.ref pb, rfl, pb, _, 1, _, rfl, rfl, hpb, atI_nat (j := 1) rfl, a2, _, rfl, .inr h2, _, _, rfl, rfl, _, rfl, ?_⟩
          by_cases c2 : (((srtS (newOf (rolesF (dss ++ [ds])))).map V.str).length : Int) < 4
          · rw [decide_eq_true c2]
            rw [List.length_map, srtS_len] at c1 c2
            refine ⟨.ref va, rfl, .ref ua, rfl, big (by show 1 ≤ 100000; decide), fun t2 nt2 => ?_⟩
            have s9 := same_new nt2 (o := .tup [.ref ua])
            refine cat_any (Same.sqT (s58.trans s9) hva) (.inl (.inl upd_same)) (by rw [List.length_cons, List.length_nil]; omega) fun p' H10 s10 hp10 => ?_
            have s510 := (s58.trans s9).trans s10
            exact ⟨_, dss ++ [ds], _, _, _, _, _, rfl, ⟨p', _, rfl, hp10, paired_app (L2.Paired.mapP hp fun _ _ z => z.same s510) (.cons ⟨ua, rfl, Same.sqT s510 hua⟩ .nil)⟩, by rw [List.length_append, List.length_cons, List.length_nil]; omega, all, by omega, by omega, s510 _ _ ela, k5.trans (Kp.of s510), hD5.same s510⟩
          · rw [decide_eq_false c2]
            exact stay
        · rw [decide_eq_false c1]
          exact stay
      · obtain ⟨ua, rfl, hua⟩ := hu
        obtain ⟨w, r', rfl, mw, lr⟩ := id hd
        have at0 : atI ((w :: r').map V.str) 0 = some (.str w) := atI_nat (j := 0) rfl
        refine ⟨.ref ua, rfl, ua, _, 0, _, rfl, rfl, hua, at0, big (by show 2 ≤ 100000; decide), fun t1 nt1 => ⟨t1, _, rfl, .inr (.inl (.inl upd_same)), rfl, rfl, _, rfl, ?_⟩⟩
        have kt := Kp.new (d := d) (o := .tup [.str "wrap", .str "put"]) nt1
        have st := same_new nt1 (o := .tup [.str "wrap", .str "put"])
        have hDt := hD4.new (o := .tup [.str "wrap", .str "put"]) nt1
        have stay : ∀ H', Kp d H4 H' → Dk H' d → ∃ (u : V) (ds : List Str) (y8' : Option V), [some (.ref d), some (.ref lo), some (.ref ln), some (.int m), some v, some (.ref la), some (.int (0 + i)), some (.ref ua), y8, y9, y10] = [some (.ref d), some (.ref lo), some (.ref ln), some (.int m), some v, some (.ref la), some (.int (0 + i)), some u, y8', y9, y10] ∧ DeedR K H' u ds ∧ IsDeed ds ∧ (∀ z ∈ ds.drop 1, z ∈ os ++ ns) ∧ ScrR K H' v dss ∧ H' la = some (.lst ((os ++ ns).map V.str)) ∧ Kp d H H' ∧ Dk H' d :=
          fun H' k' hD' => ⟨.ref ua, w :: r', y8, rfl, ⟨ua, rfl, k'.sqT hD4 hua⟩, hd, hz, hS.keep k' hD4, k' _ _ nlad ela, k4.trans k', hD'⟩
        show if (if true = true then !inV (.str w) [.str "wrap", .str "put"] else _) = true then _ else _
        rw [if_pos rfl]
        cases c : inV (.str w) [.str "wrap", .str "put"] with
        | true => exact rest _ _ (stay _ kt hDt)
        | false =>
          refine ⟨.ref d, rfl, d, 6, rfl, hDt, by decide, by decide, fun H5 r2 s0 s1 k5 hD5 => ⟨rfl, _, rfl, ?_⟩⟩
          by_cases c2 : V.int r2 = V.int 0
          · rw [decide_eq_true c2]
            have k45 := kt.trans k5
            refine ⟨.ref ln, rfl, big (by decide), fun t2 nt2 => ⟨ln, t2, _, rfl, rfl, .inl ⟨(((k4.trans k45).trans (Kp.new nt2)).sqL nln (.inl (.inl eln))), .inl (.inl upd_same)⟩, _, rfl, ?_⟩⟩
            have k46 := k45.then_new (o := .lst []) nt2
            have hD6 := hD5.new (o := .lst []) nt2
            cases ns with
            | nil => exact rest _ _ (stay _ k46 hD6)
            | cons z0 zs =>
              refine ⟨.ref d, rfl, .ref ln, rfl, d, ln, _, rfl, hD6, nln, (k4.trans k46).sqL nln (.inl (.inl eln)), ?_, ?_, fun H7 vm mvm k7 hD7 => ?_⟩
              · exact Nat.succ_pos _
              · rw [List.length_map]
                omega
              obtain ⟨mz, mmz, rfl⟩ := List.mem_map.mp mvm
              have k47 := k46.trans k7
              have hua7 : SqT K H7 ua ((w :: r').map V.str) := k47.sqT hD4 hua
              obtain ⟨x, r'', rfl⟩ : ∃ x r'', r' = x :: r'' := by
                cases r' with
                | nil =>
                  exfalso
                  rw [List.length_nil] at lr
                  split at lr <;> omega
                | cons x r'' => exact ⟨x, r'', rfl⟩
              have mx : x ∈ os ++ z0 :: zs := hz x List.mem_cons_self
              have at1 : atI ((w :: x :: r'').map V.str) 1 = some (.str x) := atI_nat (j := 1) rfl
              refine ⟨.ref d, rfl, .ref ua, rfl, ua, _, 1, _, rfl, rfl, hua7, at1, .str mz, rfl, big (by show 3 ≤ 100000; decide), fun t3 nt3 => ⟨.str mz, rfl, .ref ua, rfl, ua, _, 1, _, rfl, rfl, Same.sqT (same_new nt3) hua7, at1, big (by show 3 ≤ 100000; decide), fun t4 nt4 => ⟨big (by show 2 ≤ 100000; decide), fun t5 nt5 => ?_⟩⟩⟩
              have s5 := ((same_new nt3 (o := .tup [.str "wrap", .str x, .str mz])).trans (same_new nt4 (o := .tup [.str "put", .str mz, .str x]))).trans (same_new nt5 (o := .lst [.ref t3, .ref t4]))
              have hD9 := hD7.same s5
              refine ⟨d, t5, _, rfl, hD9, ((hD7.new nt3).new nt4).ne nt5, .inl (.inl upd_same), by show 0 < 2; decide, by show 2 < 1073741824; decide, fun H10 vd mvd k10 hD10 => ?_⟩
              have kk := (k47.trans (Kp.of s5)).trans k10
              have dd : ∃ ds, DeedR K H10 vd ds ∧ IsDeed ds ∧ ∀ z ∈ ds.drop 1, z ∈ os ++ z0 :: zs := by
                rcases List.mem_cons.mp mvd with rfl | h
                · refine ⟨["wrap", x, mz], ⟨t3, rfl, k10.sqT hD9 (.inl (.inl (((same_new nt4).trans (same_new nt5)) _ _ upd_same)))⟩, wp_deed _ _ _ (.inl rfl), fun z hz => ?_⟩
                  rcases List.mem_cons.mp hz with rfl | hz
                  · exact mx
                  · rcases List.mem_cons.mp hz with rfl | hz
                    · exact List.mem_append_right _ mmz
                    · cases hz
                · rcases List.mem_cons.mp h with rfl | h
                  · refine ⟨["put", mz, x], ⟨t4, rfl, k10.sqT hD9 (.inl (.inl ((same_new nt5) _ _ upd_same)))⟩, wp_deed _ _ _ (.inr rfl), fun z hz => ?_⟩
                    rcases List.mem_cons.mp hz with rfl | hz
                    · exact List.mem_append_right _ mmz
                    · rcases List.mem_cons.mp hz with rfl | hz
                      · exact mx
                      · cases hz
                  · cases h
              obtain ⟨ds, h1, h2, h3⟩ := dd
              exact rest _ _ ⟨vd, ds, _, rfl, h1, h2, h3, hS.keep kk hD4, kk _ _ nlad ela, k4.trans kk, hD10⟩
          · rw [decide_eq_false c2]
            exact rest _ _ (stay _ (kt.trans k5) hD5)
    · -- some_deed(deck, [pick(deck, names) for j in range(3)])
      refine ⟨.ref d, rfl, 3, rfl, by decide, by decide, fun D nD => ?_⟩
      have nDd : D ≠ d := hD.ne nD
      refine lc_range (lo := 0) (n := (3 : Int).toNat) (fun i H2 => ∃ zs : List Str, zs.length = i ∧ (∀ z ∈ zs, z ∈ os ++ ns) ∧ H2 D = some (.lst (zs.map V.str)) ∧ Kp d H' H2 ∧ Dk H2 d) ⟨[], rfl, (fun _ h => nomatch h), upd_same, Kp.new nD, hD.new nD⟩ (fun i H2 hi hp => ?_) (fun H2 hp => ?_)
      · obtain ⟨zs, el, hz, eD, kk, hD2⟩ := hp
        refine ⟨rfl, .ref d, rfl, .ref la, rfl, d, la, _, rfl, hD2, nlad, .inl (.inl (kk _ _ nlad ela)), by rw [List.length_map, List.length_append]; exact n0, by rw [List.length_map, List.length_append]; omega, fun H5 v mv k5 hD5 => ?_⟩
        obtain ⟨z, mz, rfl⟩ := List.mem_map.mp mv
        have hi3 : i < 3 := hi
        refine ⟨_, k5 _ _ nDd eD, by rw [List.length_map]; exact big' (by omega), zs ++ [z], by rw [List.length_append, el]; rfl, fun y hy => ?_, by rw [upd_same, List.map_append]; rfl, (kk.trans k5).then_at nD, hD5.upd nDd⟩
        rcases List.mem_append.mp hy with h | h
        · exact hz y h
        · rcases List.mem_cons.mp h with rfl | h
          · exact mz
          · cases h
      · obtain ⟨zs, el, hz, eD, kk, hD2⟩ := hp
        have el3 : zs.length = 3 := el
        refine ⟨d, D, zs, rfl, hD2, nDd, .inl (.inl eD), by omega, by omega, fun H5 u ds hu hd hz' k5 hD5 => rest _ _ ⟨u, ds, rfl, hu, hd, fun z m => hz z (hz' z m), hS.keep (kk.trans k5) hD, (kk.trans k5) _ _ nlad ela, (k.trans kk).trans k5, hD5⟩⟩
  · obtain ⟨v, dss, y6, y7, y8, y9, y10, rfl, hS, ll, hds, lold, lnew, ela, k, hD⟩ := hJ
    exact ⟨v, rfl, q H' v dss hS (by omega) hds lold lnew k hD⟩

/-- slots of law: 0 _law_script, 1 _law_deck_here, 2 _law_names_here, 3 _law_old, 4 _law_new, 5 _law_deeds, 6 _law_deed, 7 _law_both -/
def n_law : List Str := ["_law_script", "_law_deck_here", "_law_names_here", "_law_old", "_law_new", "_law_deeds", "_law_deed", "_law_both"]
def t_law (K : PySem.W.Frag) : TS :=
  (tSeq (tAsg (tCall (sp_deckL K) [] E0 (tCons (tVar 0) tNil)) (gName 1))
    (tSeq (tAsg (tCall sp_namesL [] E0 (tCons (tVar 1) (tCons (tC (.int 7)) tNil))) (gName 2))
    (tSeq (tPar 3 4 (tCons (tCall sp_drawL [] E0 (tCons (tVar 1) (tCons (tC (.int 6)) tNil))) (tCons (tOp rAddI (tC (.int 1)) (tCall sp_drawL [] E0 (tCons (tVar 1) (tCons (tC (.int 3)) tNil)))) tNil)))
    (tSeq (tAsg (tCall (sp_right_scriptL K) [] E0 (tCons (tVar 1) (tCons (L2.tSl (rSlL K) (tVar 2) tNoPart (tPart (tVar 3))) (tCons (L2.tSl (rSlL K) (tVar 2) (tPart (tVar 3)) (tPart (tOp rAddI (tVar 3) (tVar 4)))) (tCons (tC (.int 12)) tNil))))) (gName 5))
    (tSeq (tIfS (tTest (tOp rEq (tCall sp_drawL [] E0 (tCons (tVar 1) (tCons (tC (.int 8)) tNil))) (tC (.int 2)))) (tSeq (tAsg (tTup (tCons (tCall (sp_pickL K) [] E0 (tCons (tVar 1) (tCons (tLst (tCons (tC (.str "put")) (tCons (tC (.str "wrap")) tNil))) tNil))) (tCons (tOp (rIxL K) (tVar 2) (tC (.int 0))) (tCons (tOp (rIxL K) (tVar 2) (tC (.int 0))) tNil)))) (gName 6))
    (tSeq (tAsg (tOp (rCatA K) (tOp (rCatA K) (L2.tSl (rSlA K) (tVar 5) tNoPart (tPart (tC (.int 4)))) (tTup (tCons (tVar 6) tNil))) (L2.tSl (rSlA K) (tVar 5) (tPart (tC (.int 4))) (tPart (tC (.int 11))))) (gName 5))
    (tSeq (tAsg (tCall (sp_rolesL K) [] E0 (tCons (tVar 5) tNil)) (gName 7))
    (tIfS (tOr (tTest (tOp rGtI (tCB (rLenQ K) (tCons (tOp (rIxT K) (tVar 7) (tC (.int 0))) tNil)) (tC (.int 4)))) (tTest (tOp rGtI (tCB (rLenQ K) (tCons (tOp (rIxT K) (tVar 7) (tC (.int 1))) tNil)) (tC (.int 3))))) (tAsg (tTup tNil) (gName 5)) tNext)))) tNext)
    (tRet (tOp (rEqP K) (tLst (tCons (tCall (sp_old_names K) [] E0 (tCons (tVar 5) tNil)) (tCons (tCall (sp_new_names K) [] E0 (tCons (tVar 5) tNil)) tNil))) (tCB (rLstOf K) (tCons (tCall (sp_rolesL K) [] E0 (tCons (tVar 5) tNil)) tNil)))))))))

def sp_law (K : PySem.W.Frag) : Sp := fun vs H Q _ => ∃ (a : Addr) (ns : List Int), vs = [.ref a] ∧ SqL K H a (ns.map V.int) ∧ ns.length ≤ 63 ∧ ∀ H', Q (.bl true) H'
theorem depth_two (a b : List Str) : (PyData.list [dStrs a, dStrs b]).depth ≤ 190 := by
  have h1 := depth_strs a
  have h2 := depth_strs b
  show max (PyData.depthAll (a.map PyData.str) + 1) (max (PyData.depthAll (b.map PyData.str) + 1) 0) + 1 ≤ 190
  omega
theorem plain_two (a b : List Str) : (PyData.list [dStrs a, dStrs b]).plain = true := by
  show (PyData.plainAll (a.map PyData.str) && (PyData.plainAll (b.map PyData.str) && true)) = true
  rw [plain_strs, plain_strs]
  rfl
theorem pure_law {K : PySem.W.Frag} (vs : List V) (H : Hp) (Q : VK) (E : XK) (h : sp_law K vs H Q E) : t_law K { nx := fun _ H' => Q .non H', rt := Q } (start n_law vs) H := by
  obtain ⟨a, ns, rfl, hS, hl, q⟩ := h
  refine ⟨.ref a, rfl, a, ns, rfl, hS, fun H1 d nd s1 hD1 => ?_⟩
  refine ⟨.ref d, rfl, d, 7, rfl, hD1, by decide, fun H2 l zs zl znd znm nl nld el k2 hD2 => ?_⟩
  refine ⟨.ref d, rfl, d, 6, rfl, hD2, by decide, by decide, fun H3 ro ro0 ro1 k3 hD3 => ⟨.ref d, rfl, d, 3, rfl, hD3, by decide, by decide, fun H4 rn rn0 rn1 k4 hD4 => ⟨_, _, rfl, rfl, _, _, rfl, ?_⟩⟩⟩
  have el4 : H4 l = some (.lst (zs.map V.str)) := k4 _ _ nld (k3 _ _ nld el)
  obtain ⟨po, rfl⟩ : ∃ po : Nat, ro = po := ⟨ro.toNat, by omega⟩
  obtain ⟨pn, rfl⟩ : ∃ pn : Nat, rn = pn := ⟨rn.toNat, by omega⟩
  -- the script
  refine ⟨.ref d, rfl, .ref l, rfl, .int po, rfl, _, rfl, l, _, rfl, .inl (.inl el4), fun l1 nl1 => ?_⟩
  have e41 := same_new nl1 (o := .lst (cutV (zs.map V.str) none (some (po : Int)))) _ _ el4
  refine ⟨.ref l, rfl, .int po, rfl, _, rfl, .int po, rfl, .int (1 + pn), rfl, _, _, rfl, rfl, _, rfl, l, _, rfl, .inl (.inl e41), fun l2 nl2 => ?_⟩
  have hD5 := hD4.new (o := .lst (cutV (zs.map V.str) none (some (po : Int)))) nl1
  have nl1d : l1 ≠ d := hD4.ne nl1
  have nl2d : l2 ≠ d := hD5.ne nl2
  have c1 := cut_map_eq V.str zs none (some (po : Int))
  have c2 := cut_map_eq V.str zs (some (po : Int)) (some ((po : Int) + (1 + (pn : Int))))
  rw [c1, c2]
  rw [c1] at nl2 hD5 e41
  generalize hos : (zs.drop (HT.sIx zs.length 0 none)).take (HT.sIx zs.length zs.length (some (po : Int)) - HT.sIx zs.length 0 none) = os
  generalize hnn : (zs.drop (HT.sIx zs.length 0 (some (po : Int)))).take (HT.sIx zs.length zs.length (some ((po : Int) + (1 + (pn : Int)))) - HT.sIx zs.length 0 (some (po : Int))) = nn
  rw [hos] at nl2 hD5 e41
  have los : os.length ≤ 7 := by
    rw [← hos, List.length_take, List.length_drop]
    omega
  have lnn : nn.length ≤ 7 ∧ 0 < nn.length := by
    rw [← hnn, List.length_take, List.length_drop, show ((po : Int) + (1 + (pn : Int))) = ((po + 1 + pn : Nat) : Int) by omega, HT.sIx_nat, HT.sIx_nat, zl]
    omega
  refine ⟨d, l1, l2, os, nn, 12, rfl, hD5.new nl2, nl1d, nl2d, same_new nl2 _ _ upd_same, upd_same, by omega, by omega, by omega, by decide, fun H6 v dss hv ld hds lold lnew k6 hD6 => ?_⟩
  have el6 : H6 l = some (.lst (zs.map V.str)) := k6 _ _ nld (same_new nl2 _ _ e41)
  -- now and then a deed with one name twice
  dsimp only [gName]
  refine seq_by (t := tIfS _ _ _) (fun σ' H' => ∃ (v : V) (dss : List (List Str)) (y6 y7 : Option V), σ' = [some (.ref a), some (.ref d), some (.ref l), some (.int po), some (.int (1 + pn)), some v, y6, y7] ∧ ScrR K H' v dss ∧ Small dss) (fun σ' H7 hJ => ?_) (fun rest => ?_)
  · obtain ⟨v, dss, y6, y7, rfl, hv, sm⟩ := hJ
    refine ⟨v, rfl, v, dss, rfl, hv, sm, fun H8 p1 s8 h1 => ⟨v, rfl, v, dss, rfl, hv.same s8, sm, fun H9 p2 s9 h2 => ⟨big (by show 2 ≤ 100000; decide), fun L nL => ?_⟩⟩⟩
    have sL := same_new nL (o := .lst [.ref p1, .ref p2])
    refine ⟨v, rfl, v, dss, rfl, ((hv.same s8).same s9).same sL, sm, fun H10 p a1 a2 s10 hp ha1 ha2 => ⟨p, _, rfl, .inr hp, fun L2 nL2 => ?_⟩⟩
    have s11 := s10.trans (same_new nL2 (o := .lst [.ref a1, .ref a2]))
    refine eq_same (d := .list [dStrs (srtS (oldOf (rolesF dss))), dStrs (srtS (newOf (rolesF dss)))]) (.lst (.inl (.inl (s11 _ _ upd_same))) (.cons (.tup (Same.sqT (s9.trans (sL.trans s11)) h1) (dp_strs _)) (.cons (.tup (Same.sqT (sL.trans s11) h2) (dp_strs _)) .nil))) (.lst (.inl (.inl upd_same)) (.cons (.tup (Same.sqT (same_new nL2) ha1) (dp_strs _)) (.cons (.tup (Same.sqT (same_new nL2) ha2) (dp_strs _)) .nil))) (plain_two _ _) (depth_two _ _) (q _)
  · refine ⟨.ref d, rfl, d, 8, rfl, hD6, by decide, by decide, fun H7 r r0 r1 k7 hD7 => ⟨rfl, _, rfl, ?_⟩⟩
    have hv7 := hv.keep k7 hD6
    have el7 := k7 _ _ nld el6
    by_cases c : V.int r = V.int 2
    · rw [decide_eq_true c]
      obtain ⟨va, ws, rfl, hva, hp⟩ := hv7
      have lw := paired_len hp
      refine ⟨.ref d, rfl, big (by show 2 ≤ 100000; decide), fun t1 nt1 => ⟨d, t1, _, rfl, hD7.new nt1, hD7.ne nt1, .inl (.inl upd_same), by show 0 < 2; decide, by show 2 < 1073741824; decide, fun H8 vw mvw k8 hD8 => ?_⟩⟩
      have k78 := (Kp.new (d := d) nt1).trans k8
      have el8 := k78 _ _ nld el7
      have hva8 := k78.sqT hD7 hva
      have hp8 : Paired (DeedR K H8) ws dss := L2.Paired.mapP hp fun _ _ z => z.keep k78 hD7
      obtain ⟨w, hw, rfl⟩ : ∃ w : Str, (w = "wrap" ∨ w = "put") ∧ vw = .str w := by
        rcases List.mem_cons.mp mvw with rfl | h
        · exact ⟨_, .inr rfl, rfl⟩
        · rcases List.mem_cons.mp h with rfl | h
          · exact ⟨_, .inl rfl, rfl⟩
          · cases h
      obtain ⟨z0, zr, rfl⟩ : ∃ z0 zr, zs = z0 :: zr := by
        cases zs with
        | nil => cases zl
        | cons z0 zr => exact ⟨z0, zr, rfl⟩
      have at0 : atI ((z0 :: zr).map V.str) 0 = some (.str z0) := atI_nat (j := 0) rfl
      refine ⟨.ref l, rfl, l, _, 0, _, rfl, rfl, .inl (.inl el8), at0, .ref l, rfl, l, _, 0, _, rfl, rfl, .inl (.inl el8), at0, big (by show 3 ≤ 100000; decide), fun td ntd => ?_⟩
      have s9 := same_new ntd (o := .tup [.str w, .str z0, .str z0])
      refine ⟨.ref va, rfl, 4, rfl, sl_any (Same.sqT s9 hva8) fun q1 H10 s10 hq1 => ⟨.ref td, rfl, big (by show 1 ≤ 100000; decide), fun t2 nt2 => ?_⟩⟩
      have hD10 := hD8.same (s9.trans s10)
      have s11 := s10.trans (same_new nt2 (o := .tup [.ref td]))
      refine cat_any (Same.sqT (same_new nt2) hq1) (.inl (.inl upd_same)) ?_ fun q2 H12 s12 hq2 => ?_
      · have := cutV_length ws none (some 4)
        rw [List.length_cons, List.length_nil]
        omega
      have s912 := (s9.trans s11).trans s12
      refine ⟨.ref va, rfl, 4, rfl, 11, rfl, sl_any (Same.sqT s912 hva8) fun q3 H13 s13 hq3 => ?_⟩
      refine cat_any (Same.sqT s13 hq2) hq3 ?_ fun q4 H14 s14 hq4 => ?_
      · have h1 := cutV_length ws none (some 4)
        have h2 := cutV_length ws (some 4) (some 11)
        rw [List.length_append, List.length_cons, List.length_nil]
        omega
      have s14' := (s912.trans s13).trans s14
      have c4 : ∃ i j, cutV ws none (some 4) = (ws.drop i).take j := ⟨_, _, rfl⟩
      have c11 : ∃ i j, cutV ws (some 4) (some 11) = (ws.drop i).take j := ⟨_, _, rfl⟩
      obtain ⟨i1, j1, e1⟩ := c4
      obtain ⟨i2, j2, e2⟩ := c11
      have hp14 : Paired (DeedR K H14) ws dss := L2.Paired.mapP hp8 fun _ _ z => z.same s14'
      have hd14 : DeedR K H14 (.ref td) [w, z0, z0] := ⟨td, rfl, Same.sqT (((s11.trans s12).trans s13).trans s14) (.inl (.inl upd_same))⟩
      have hS14 : ScrR K H14 (.ref q4) ((dss.drop i1).take j1 ++ [[w, z0, z0]] ++ (dss.drop i2).take j2) := by
        refine ⟨q4, _, rfl, hq4, ?_⟩
        rw [e1, e2]
        exact paired_app (paired_app (paired_take _ (paired_drop _ hp14)) (.cons hd14 .nil)) (paired_take _ (paired_drop _ hp14))
      have sm : Small ((dss.drop i1).take j1 ++ [[w, z0, z0]] ++ (dss.drop i2).take j2) := by
        refine small_of ?_ fun e he => ?_
        · rw [List.length_append, List.length_append, List.length_take, List.length_take, List.length_drop, List.length_drop, List.length_cons, List.length_nil]
          omega
        · rcases List.mem_append.mp he with h | h
          · rcases List.mem_append.mp h with h | h
            · exact (hds e (List.mem_of_mem_drop (List.mem_of_mem_take h))).1
            · rcases List.mem_cons.mp h with rfl | h
              · exact wp_deed _ _ _ hw
              · cases h
          · exact (hds e (List.mem_of_mem_drop (List.mem_of_mem_take h))).1
      refine ⟨_, rfl, _, _, rfl, hS14, sm, fun H15 pb a1 a2 s15 hpb h1 h2 => ?_⟩
      have hS15 := hS14.same s15
      refine ⟨.ref pb, rfl, pb, _, 0, _, rfl, rfl, hpb, atI_nat (j := 0) rfl, a1, _, rfl, .inr h1, _, _, rfl, rfl, _, rfl, ?_⟩
      refine ite2 (fun _ => ⟨big (by decide), fun t3 nt3 => rest _ _ ⟨_, [], _, _, rfl, ⟨t3, [], rfl, .inl (.inl upd_same), .nil⟩, ⟨by decide, (fun _ h => nomatch h)⟩⟩⟩) (fun _ => ?_)
      refine ⟨.ref pb, rfl, pb, _, 1, _, rfl, rfl, hpb, atI_nat (j := 1) rfl, a2, _, rfl, .inr h2, _, _, rfl, rfl, _, rfl, ite2 (fun _ => ⟨big (by decide), fun t3 nt3 => rest _ _ ⟨_, [], _, _, rfl, ⟨t3, [], rfl, .inl (.inl upd_same), .nil⟩, ⟨by decide, (fun _ h => nomatch h)⟩⟩⟩) (fun _ => ?_)⟩
      exact rest _ _ ⟨_, _, _, _, rfl, hS15, sm⟩
    · rw [decide_eq_false c]
      exact rest _ _ ⟨v, dss, _, _, rfl, hv7, small_of (by omega) fun ds m => (hds ds m).1⟩

/-! ### the text by places -/
def topS (i : Nat) : Stmt := PySem.Challenge.pw_twigscripts_k17_old_and_new_names.main.body.getD i (.Pass ⟨0, 0, 0, 0⟩)
abbrev s_deckL : Stmt := topS 6
theorem sc_deckL : FnScope n_deckL ["_law_script"] (defScope s_deckL) := ⟨rfl, rfl, rfl, by decide +kernel, rfl, by decide +kernel, by decide +kernel⟩
abbrev s_drawL : Stmt := topS 7
theorem sc_drawL : FnScope n_drawL ["_law_deck_here", "_law_many"] (defScope s_drawL) := ⟨rfl, rfl, rfl, by decide +kernel, rfl, by decide +kernel, by decide +kernel⟩
abbrev s_pickL : Stmt := topS 10
theorem sc_pickL : FnScope n_pickL ["_law_deck_here", "_law_items"] (defScope s_pickL) := ⟨rfl, rfl, rfl, by decide +kernel, rfl, by decide +kernel, by decide +kernel⟩
abbrev s_nameL : Stmt := topS 8
theorem sc_nameL : FnScope n_nameL ["_law_deck_here"] (defScope s_nameL) := ⟨rfl, rfl, rfl, by decide +kernel, rfl, by decide +kernel, by decide +kernel⟩
abbrev s_namesL : Stmt := topS 9
theorem sc_namesL : FnScope n_namesL ["_law_deck_here", "_law_many"] (defScope s_namesL) := ⟨rfl, rfl, rfl, by decide +kernel, rfl, by decide +kernel, by decide +kernel⟩
abbrev s_makes : Stmt := topS 1
theorem sc_makes : FnScope n_makes ["deed", "k"] (defScope s_makes) := ⟨rfl, rfl, rfl, by decide +kernel, rfl, by decide +kernel, by decide +kernel⟩
abbrev s_roles : Stmt := topS 2
theorem sc_roles : FnScope n_roles ["deeds"] (defScope s_roles) := ⟨rfl, rfl, rfl, by decide +kernel, rfl, by decide +kernel, by decide +kernel⟩
abbrev s_old_names : Stmt := topS 3
theorem sc_old_names : FnScope n_old_names ["script"] (defScope s_old_names) := ⟨rfl, rfl, rfl, by decide +kernel, rfl, by decide +kernel, by decide +kernel⟩
abbrev s_new_names : Stmt := topS 4
theorem sc_new_names : FnScope n_new_names ["script"] (defScope s_new_names) := ⟨rfl, rfl, rfl, by decide +kernel, rfl, by decide +kernel, by decide +kernel⟩
abbrev s_wordsL : Stmt := topS 11
theorem sc_wordsL : FnScope n_wordsL [] (defScope s_wordsL) := ⟨rfl, rfl, rfl, by decide +kernel, rfl, by decide +kernel, by decide +kernel⟩
abbrev s_some_deedL : Stmt := topS 12
theorem sc_some_deedL : FnScope n_some_deedL ["_law_deck_here", "_law_names_here"] (defScope s_some_deedL) := ⟨rfl, rfl, rfl, by decide +kernel, rfl, by decide +kernel, by decide +kernel⟩
abbrev s_rolesL : Stmt := topS 13
theorem sc_rolesL : FnScope n_rolesL ["_law_deeds"] (defScope s_rolesL) := ⟨rfl, rfl, rfl, by decide +kernel, rfl, by decide +kernel, by decide +kernel⟩
abbrev s_right_scriptL : Stmt := topS 14
theorem sc_right_scriptL : FnScope n_right_scriptL ["_law_deck_here", "_law_old", "_law_new", "_law_most"] (defScope s_right_scriptL) := ⟨rfl, rfl, rfl, by decide +kernel, rfl, by decide +kernel, by decide +kernel⟩
abbrev s_law : Stmt := topS 15
theorem sc_law : FnScope n_law ["_law_script"] (defScope s_law) := ⟨rfl, rfl, rfl, by decide +kernel, rfl, by decide +kernel, by decide +kernel⟩
/-- what the top has left -/
structure Tx (K : PySem.W.Frag) (mg : Str → Option Value) : Prop where
  z_abs : mg "abs" = none
  z_enumerate : mg "enumerate" = none
  z_int : mg "int" = none
  z_len : mg "len" = none
  z_list : mg "list" = none
  z_range : mg "range" = none
  z_sorted : mg "sorted" = none
  z_tuple : mg "tuple" = none
  d_deckL : DefAt K mg "_law_deck" s_deckL
  d_drawL : DefAt K mg "_law_draw" s_drawL
  d_pickL : DefAt K mg "_law_pick" s_pickL
  d_nameL : DefAt K mg "_law_name" s_nameL
  d_namesL : DefAt K mg "_law_names" s_namesL
  d_makes : DefAt K mg "makes" s_makes
  d_roles : DefAt K mg "roles" s_roles
  d_old_names : DefAt K mg "old_names" s_old_names
  d_new_names : DefAt K mg "new_names" s_new_names
  d_wordsL : DefAt K mg "_law_words" s_wordsL
  d_some_deedL : DefAt K mg "_law_some_deed" s_some_deedL
  d_rolesL : DefAt K mg "_law_roles" s_rolesL
  d_right_scriptL : DefAt K mg "_law_right_script" s_right_scriptL
  d_law : DefAt K mg "law" s_law
section
variable {P : Program} {w : World} {K : PySem.W.Frag} {mg : Str → Option Value} {base : Heap}
theorem ok_deckL (T : Tx K mg) : Cal P w K mg base 1 "_law_deck" (sp_deckL K) := by
  refine cal_of (t := t_deckL K) T.d_deckL (fun _ _ _ _ _ _ us hl => match us, hl with | [_], _ => rfl) sc_deckL (fun vs H Q E h => ?_) (fun cdv f A outer s H E hr => ?_) (fun vs H Q E h => pure_deckL vs H Q E h)
  · first | (obtain ⟨rfl, _⟩ := h; rfl) | (obtain ⟨_, rfl, _⟩ := h; rfl) | (obtain ⟨_, _, rfl, _⟩ := h; rfl) | (obtain ⟨_, _, _, rfl, _⟩ := h; rfl) | (obtain ⟨_, _, _, _, rfl, _⟩ := h; rfl) | (obtain ⟨_, _, _, _, _, rfl, _⟩ := h; rfl) | (obtain ⟨_, _, _, _, _, _, rfl, _⟩ := h; rfl) | (obtain ⟨_, _, _, _, _, _, _, rfl, _⟩ := h; rfl)
  · exact (pss_cons (ps_par (by rfl) sc_deckL.nd rfl rfl (by decide) rfl rfl (pa_cons pe_int (pa_cons (pe_op op_add pe_int (pe_op op_mul pe_int (pe_callB call_len_seq (by rfl) T.z_len (by decide +kernel) (pa_cons (pv 0) pa_nil)))) pa_nil)) (by rfl))
      (pss_cons (ps_for PassesOwn.never rfl (pi_list (pe_slice sl_list (pv 0) po_none (po_some pe_int))) (pg_name (i := 3) sc_deckL.nd rfl (Or.inl rfl)) (pss_cons (ps_set (i := 4) sc_deckL.nd rfl (Or.inl rfl) (pe_op op_add (pe_op op_add (pe_op op_mul pe_int (pe_callB call_abs (by rfl) T.z_abs (by decide +kernel) (pa_cons (pv 3) pa_nil))) (pe_callTy call_int1 (by rfl) T.z_int (by decide +kernel) (pa_cons (pe_cmpR op_lt (pv 3) pe_int (nomark _)) pa_nil))) pe_int))
      (pss_cons (ps_set (i := 2) sc_deckL.nd rfl (Or.inl rfl) (pe_op op_mod (pe_callTy call_int1 (by rfl) T.z_int (by decide +kernel) (pa_cons (pe_op op_add (pe_op op_mul (pv 2) pe_int) (pv 4)) pa_nil)) pe_int))
      (pss_one (ps_if (pt_cmpR op_ge (pe_callB call_abs (by rfl) T.z_abs (by decide +kernel) (pa_cons (pv 3) pa_nil)) (pe_op op_pow pe_int pe_int) (nomark _)) (pss_one (ps_set (i := 1) sc_deckL.nd rfl (Or.inl rfl) (pe_op op_add (pe_op op_mul (pv 1) pe_int) (pe_callB call_abs (by rfl) T.z_abs (by decide +kernel) (pa_cons (pv 3) pa_nil))))) pss_nil)))))
      (pss_one (ps_ret (pe_lst (pa_cons (pv 1) (pa_cons (pv 2) (pa_cons pe_int pa_nil))))))))
theorem ok_drawL (T : Tx K mg) : Cal P w K mg base 1 "_law_draw" (sp_drawL) := by
  refine cal_of (t := t_drawL K) T.d_drawL (fun _ _ _ _ _ _ us hl => match us, hl with | [_, _], _ => rfl) sc_drawL (fun vs H Q E h => ?_) (fun cdv f A outer s H E hr => ?_) (fun vs H Q E h => pure_drawL vs H Q E h)
  · first | (obtain ⟨rfl, _⟩ := h; rfl) | (obtain ⟨_, rfl, _⟩ := h; rfl) | (obtain ⟨_, _, rfl, _⟩ := h; rfl) | (obtain ⟨_, _, _, rfl, _⟩ := h; rfl) | (obtain ⟨_, _, _, _, rfl, _⟩ := h; rfl) | (obtain ⟨_, _, _, _, _, rfl, _⟩ := h; rfl) | (obtain ⟨_, _, _, _, _, _, rfl, _⟩ := h; rfl) | (obtain ⟨_, _, _, _, _, _, _, rfl, _⟩ := h; rfl)
  · exact (pss_cons (ps_if (pt_cmpR op_gt (pe_ix ix_list (pv 0) pe_int (fun _ _ => rfl)) pe_int (nomark _)) (pss_cons (ps_set (i := 2) sc_drawL.nd rfl (Or.inl rfl) (pe_op op_mod (pe_callTy call_int1 (by rfl) T.z_int (by decide +kernel) (pa_cons (pe_ix ix_list (pv 0) pe_int (fun _ _ => rfl)) pa_nil)) (pv 1)))
      (pss_cons (ps_asg (pe_op op_fdiv (pe_ix ix_list (pv 0) pe_int (fun _ _ => rfl)) (pv 1)) (pg_sub (pv 0) pe_int set_list))
      (pss_one (ps_ret (pv 2))))) pss_nil)
      (pss_cons (ps_asg (pe_op op_add (pe_ix ix_list (pv 0) pe_int (fun _ _ => rfl)) pe_int) (pg_sub (pv 0) pe_int set_list))
      (pss_cons (ps_set (i := 3) sc_drawL.nd rfl (Or.inl rfl) (pe_op op_mod (pe_callTy call_int1 (by rfl) T.z_int (by decide +kernel) (pa_cons (pe_op op_add (pe_ix ix_list (pv 0) pe_int (fun _ _ => rfl)) (pe_op op_mul pe_int (pe_ix ix_list (pv 0) pe_int (fun _ _ => rfl)))) pa_nil)) pe_int))
      (pss_cons (ps_set (i := 3) sc_drawL.nd rfl (Or.inl rfl) (pe_op op_mod (pe_callTy call_int1 (by rfl) T.z_int (by decide +kernel) (pa_cons (pe_op op_mul (pv 3) (pe_op op_add (pe_op op_mod (pv 3) pe_int) pe_int)) pa_nil)) pe_int))
      (pss_one (ps_ret (pe_op op_mod (pe_op op_fdiv (pe_op op_mod (pe_callTy call_int1 (by rfl) T.z_int (by decide +kernel) (pa_cons (pe_op op_mul (pv 3) (pv 3)) pa_nil)) pe_int) pe_int) (pv 1))))))))
theorem ok_pickL (T : Tx K mg) (c_drawL : Cal P w K mg base 1 "_law_draw" (sp_drawL )) : Cal P w K mg base 2 "_law_pick" (sp_pickL K) := by
  refine cal_of (t := t_pickL K) T.d_pickL (fun _ _ _ _ _ _ us hl => match us, hl with | [_, _], _ => rfl) sc_pickL (fun vs H Q E h => ?_) (fun cdv f A outer s H E hr => ?_) (fun vs H Q E h => pure_pickL vs H Q E h)
  · first | (obtain ⟨rfl, _⟩ := h; rfl) | (obtain ⟨_, rfl, _⟩ := h; rfl) | (obtain ⟨_, _, rfl, _⟩ := h; rfl) | (obtain ⟨_, _, _, rfl, _⟩ := h; rfl) | (obtain ⟨_, _, _, _, rfl, _⟩ := h; rfl) | (obtain ⟨_, _, _, _, _, rfl, _⟩ := h; rfl) | (obtain ⟨_, _, _, _, _, _, rfl, _⟩ := h; rfl) | (obtain ⟨_, _, _, _, _, _, _, rfl, _⟩ := h; rfl)
  · exact (pss_one (ps_ret (pe_ix ix_list (pv 1) (pe_c c_drawL hr (by decide) (by rfl) (pa_cons (pv 0) (pa_cons (pe_callB call_len_seq (by rfl) T.z_len (by decide +kernel) (pa_cons (pv 1) pa_nil)) pa_nil))) (fun _ _ => rfl))))
theorem ok_nameL (T : Tx K mg) (c_drawL : Cal P w K mg base 1 "_law_draw" (sp_drawL )) : Cal P w K mg base 2 "_law_name" (sp_nameL) := by
  refine cal_of (t := t_nameL K) T.d_nameL (fun _ _ _ _ _ _ us hl => match us, hl with | [_], _ => rfl) sc_nameL (fun vs H Q E h => ?_) (fun cdv f A outer s H E hr => ?_) (fun vs H Q E h => pure_nameL vs H Q E h)
  · first | (obtain ⟨rfl, _⟩ := h; rfl) | (obtain ⟨_, rfl, _⟩ := h; rfl) | (obtain ⟨_, _, rfl, _⟩ := h; rfl) | (obtain ⟨_, _, _, rfl, _⟩ := h; rfl) | (obtain ⟨_, _, _, _, rfl, _⟩ := h; rfl) | (obtain ⟨_, _, _, _, _, rfl, _⟩ := h; rfl) | (obtain ⟨_, _, _, _, _, _, rfl, _⟩ := h; rfl) | (obtain ⟨_, _, _, _, _, _, _, rfl, _⟩ := h; rfl)
  · exact (pss_cons (ps_set (i := 1) sc_nameL.nd rfl (Or.inr rfl) pe_str)
      (pss_one (ps_ret (pe_join pe_str (pe_lc (own := [("_law_k", 2)]) (by rfl) sc_nameL.nd (pi_range1 (by rfl) T.z_range (pa_cons (pe_op op_add pe_int (pe_c c_drawL hr (by decide) (by rfl) (pa_cons (pv 0) (pa_cons pe_int pa_nil)))) pa_nil)) (blkOk_by (own := [("_law_k", 2)]) (N := n_nameL) (sc := defScope s_nameL) (by decide +kernel)) (fun _ _ _ _ _ => (pg_name (i := 2) sc_nameL.nd rfl (Or.inl rfl))) (fun _ _ _ _ _ => pts_nil) (fun _ _ _ _ _ => (pe_ix ix_str (pv 1) (pe_c c_drawL hr (by decide) (by rfl) (pa_cons (pv 0) (pa_cons pe_int pa_nil))) (fun _ _ => rfl))))))))
theorem ok_namesL (T : Tx K mg) (c_drawL : Cal P w K mg base 1 "_law_draw" (sp_drawL )) (c_nameL : Cal P w K mg base 2 "_law_name" (sp_nameL )) : Cal P w K mg base 3 "_law_names" (sp_namesL) := by
  refine cal_of (t := t_namesL K) T.d_namesL (fun _ _ _ _ _ _ us hl => match us, hl with | [_, _], _ => rfl) sc_namesL (fun vs H Q E h => ?_) (fun cdv f A outer s H E hr => ?_) (fun vs H Q E h => pure_namesL vs H Q E h)
  · first | (obtain ⟨rfl, _⟩ := h; rfl) | (obtain ⟨_, rfl, _⟩ := h; rfl) | (obtain ⟨_, _, rfl, _⟩ := h; rfl) | (obtain ⟨_, _, _, rfl, _⟩ := h; rfl) | (obtain ⟨_, _, _, _, rfl, _⟩ := h; rfl) | (obtain ⟨_, _, _, _, _, rfl, _⟩ := h; rfl) | (obtain ⟨_, _, _, _, _, _, rfl, _⟩ := h; rfl) | (obtain ⟨_, _, _, _, _, _, _, rfl, _⟩ := h; rfl)
  · exact (pss_cons (ps_set (i := 2) sc_namesL.nd rfl (Or.inr rfl) pe_str)
      (pss_cons (ps_setLc (i := 3) (own := [("_law_k", 9)]) (by rfl) sc_namesL.nd rfl rfl (sw_true rfl rfl rfl (by decide +kernel)) (pi_range1 (by rfl) T.z_range (pa_cons pe_int pa_nil)) (blkOk_by (own := [("_law_k", 9)]) (N := n_namesL) (sc := defScope s_namesL) (by decide +kernel)) (fun _ _ _ _ _ => (pg_name (i := 9) sc_namesL.nd rfl (Or.inl rfl))) (fun _ _ _ _ _ => pts_nil) (fun _ _ _ _ _ => (pe_op op_add_str (pe_ix ix_str (pv 2) (pe_op op_fdiv (pv 9) pe_int) (fun _ _ => rfl)) (pe_ix ix_str (pv 2) (pe_op op_mod (pv 9) pe_int) (fun _ _ => rfl)))))
      (pss_cons (ps_par (by rfl) sc_namesL.nd rfl rfl (by decide) rfl rfl (pa_cons (pe_c c_drawL hr (by decide) (by rfl) (pa_cons (pv 0) (pa_cons pe_int pa_nil))) (pa_cons (pe_slice sl_str (pe_op op_repS (pe_c c_nameL hr (by decide) (by rfl) (pa_cons (pv 0) pa_nil)) pe_int) po_none (po_some pe_int)) pa_nil)) (by rfl))
      (pss_cons (ps_par3 (by rfl) sc_namesL.nd rfl rfl rfl (by decide) (by decide) (by decide) rfl rfl rfl (pa_cons (pe_c c_drawL hr (by decide) (by rfl) (pa_cons (pv 0) (pa_cons pe_int pa_nil))) (pa_cons pe_int (pa_cons (pe_lst pa_nil) pa_nil))) (by rfl))
      (pss_cons (ps_for PassesOwn.never rfl (pi_range1 (by rfl) T.z_range (pa_cons (pv 1) pa_nil)) (pg_name (i := 9) sc_namesL.nd rfl (Or.inl rfl)) (pss_cons (ps_set (i := 10) sc_namesL.nd rfl (Or.inl rfl) (pe_ifExp (pt_cmpR op_eq (pv 4) pe_int (nomark _)) (pe_c c_drawL hr (by decide) (by rfl) (pa_cons (pv 0) (pa_cons pe_int pa_nil))) (pv 4)))
      (pss_cons (ps_if (pt_cmpR op_eq (pv 10) pe_int (nomark _)) (pss_one (ps_set (i := 11) sc_namesL.nd rfl (Or.inl rfl) (pe_c c_nameL hr (by decide) (by rfl) (pa_cons (pv 0) pa_nil)))) (pss_one (ps_if (pt_cmpR op_eq (pv 10) pe_int (nomark _)) (pss_one (ps_set (i := 11) sc_namesL.nd rfl (Or.inl rfl) (pe_op op_add_str (pe_op op_add_str (pe_slice sl_str (pv 5) po_none (po_some (pv 6))) (pe_ix ix_str (pv 2) (pe_c c_drawL hr (by decide) (by rfl) (pa_cons (pv 0) (pa_cons pe_int pa_nil))) (fun _ _ => rfl))) (pe_slice sl_str (pv 5) (po_some (pe_op op_add (pv 6) pe_int)) po_none)))) (pss_one (ps_set (i := 11) sc_namesL.nd rfl (Or.inl rfl) (pe_slice sl_str (pv 5) po_none (po_some (pe_op op_add pe_int (pe_c c_drawL hr (by decide) (by rfl) (pa_cons (pv 0) (pa_cons pe_int pa_nil)))))))))))
      (pss_cons (ps_while PassesOwn.never (pt_cmpR op_in_seq (pv 11) (pv 8) rfl) (pss_cons (ps_set (i := 11) sc_namesL.nd rfl (Or.inl rfl) (pe_ix ix_list (pv 3) (pv 7) (fun _ _ => rfl)))
      (pss_one (ps_set (i := 7) sc_namesL.nd rfl (Or.inl rfl) (pe_op op_add (pv 7) pe_int)))))
      (pss_one (ps_expr (pe_bm PySem.F.plainAttrs_list PySem.F.slot_list_append PySem.F.type_list_append mt_append (pv 8) (pa_cons (pv 11) pa_nil))))))))
      (pss_one (ps_ret (pv 8))))))))
theorem ok_makes (T : Tx K mg) : Cal P w K mg base 1 "makes" (sp_makes K) := by
  refine cal_of (t := t_makes K) T.d_makes (fun _ _ _ _ _ _ us hl => match us, hl with | [_, _], _ => rfl) sc_makes (fun vs H Q E h => ?_) (fun cdv f A outer s H E hr => ?_) (fun vs H Q E h => pure_makes vs H Q E h)
  · first | (obtain ⟨rfl, _⟩ := h; rfl) | (obtain ⟨_, rfl, _⟩ := h; rfl) | (obtain ⟨_, _, rfl, _⟩ := h; rfl) | (obtain ⟨_, _, _, rfl, _⟩ := h; rfl) | (obtain ⟨_, _, _, _, rfl, _⟩ := h; rfl) | (obtain ⟨_, _, _, _, _, rfl, _⟩ := h; rfl) | (obtain ⟨_, _, _, _, _, _, rfl, _⟩ := h; rfl) | (obtain ⟨_, _, _, _, _, _, _, rfl, _⟩ := h; rfl)
  · exact (pss_one (ps_ret (pe_or (pe_and (pe_cmpR op_eq (pe_ix ix_tup (pv 0) pe_int (fun _ _ => rfl)) pe_str (nomark _)) (pe_one (pe_cmpR op_eq (pv 1) pe_int (nomark _)))) (pe_one (pe_and (pe_cmpR op_eq (pe_ix ix_tup (pv 0) pe_int (fun _ _ => rfl)) pe_str (nomark _)) (pe_one (pe_cmpR op_eq (pv 1) pe_int (nomark _))))))))
theorem ok_roles (T : Tx K mg) (c_makes : Cal P w K mg base 1 "makes" (sp_makes K)) : Cal P w K mg base 2 "roles" (sp_roles K) := by
  refine cal_of (t := t_roles K) T.d_roles (fun _ _ _ _ _ _ us hl => match us, hl with | [_], _ => rfl) sc_roles (fun vs H Q E h => ?_) (fun cdv f A outer s H E hr => ?_) (fun vs H Q E h => pure_roles vs H Q E h)
  · first | (obtain ⟨rfl, _⟩ := h; rfl) | (obtain ⟨_, rfl, _⟩ := h; rfl) | (obtain ⟨_, _, rfl, _⟩ := h; rfl) | (obtain ⟨_, _, _, rfl, _⟩ := h; rfl) | (obtain ⟨_, _, _, _, rfl, _⟩ := h; rfl) | (obtain ⟨_, _, _, _, _, rfl, _⟩ := h; rfl) | (obtain ⟨_, _, _, _, _, _, rfl, _⟩ := h; rfl) | (obtain ⟨_, _, _, _, _, _, _, rfl, _⟩ := h; rfl)
  · exact (pss_cons (ps_set (i := 1) sc_roles.nd rfl (Or.inl rfl) pe_dnewK)
      (pss_cons (ps_for PassesOwn.never rfl (pi_tup (pv 0)) (pg_name (i := 2) sc_roles.nd rfl (Or.inl rfl)) (pss_one (ps_for PassesOwn.never rfl (pi_enumT (by rfl) T.z_enumerate (pa_cons (pv 2) pa_nil)) (pg_tup rfl (pgs_cons (pg_name (i := 3) sc_roles.nd rfl (Or.inl rfl)) (pgs_cons (pg_name (i := 4) sc_roles.nd rfl (Or.inl rfl)) pgs_nil))) (pss_one (ps_if (pt_cmpR op_gt (pv 3) pe_int (nomark _)) (pss_one (ps_expr (pe_dsetd (pv 1) (pv 4) (pe_c c_makes hr (by decide) (by rfl) (pa_cons (pv 2) (pa_cons (pv 3) pa_nil))) ⟨rfl, rfl, rfl, rfl⟩))) pss_nil)))))
      (pss_one (ps_ret (pv 1)))))
theorem ok_old_names (T : Tx K mg) (c_roles : Cal P w K mg base 2 "roles" (sp_roles K)) : Cal P w K mg base 3 "old_names" (sp_old_names K) := by
  refine cal_of (t := t_old_names K) T.d_old_names (fun _ _ _ _ _ _ us hl => match us, hl with | [_], _ => rfl) sc_old_names (fun vs H Q E h => ?_) (fun cdv f A outer s H E hr => ?_) (fun vs H Q E h => pure_old_names vs H Q E h)
  · first | (obtain ⟨rfl, _⟩ := h; rfl) | (obtain ⟨_, rfl, _⟩ := h; rfl) | (obtain ⟨_, _, rfl, _⟩ := h; rfl) | (obtain ⟨_, _, _, rfl, _⟩ := h; rfl) | (obtain ⟨_, _, _, _, rfl, _⟩ := h; rfl) | (obtain ⟨_, _, _, _, _, rfl, _⟩ := h; rfl) | (obtain ⟨_, _, _, _, _, _, rfl, _⟩ := h; rfl) | (obtain ⟨_, _, _, _, _, _, _, rfl, _⟩ := h; rfl)
  · exact (pss_one (ps_ret (pe_callTy call_tuple_of (by rfl) T.z_tuple (by decide +kernel) (pa_cons (pe_callB cr_sortedS (by rfl) T.z_sorted (by decide +kernel) (pa_cons (pe_lc (own := [("name", 1), ("is_new", 2)]) (by rfl) sc_old_names.nd (pi_itemsF (pe_c c_roles hr (by decide) (by rfl) (pa_cons (pv 0) pa_nil))) (blkOk_by (own := [("name", 1), ("is_new", 2)]) (N := n_old_names) (sc := defScope s_old_names) (by decide +kernel)) (fun _ _ _ _ _ => (pg_tup rfl (pgs_cons (pg_name (i := 1) sc_old_names.nd rfl (Or.inl rfl)) (pgs_cons (pg_name (i := 2) sc_old_names.nd rfl (Or.inl rfl)) pgs_nil)))) (fun _ _ _ _ _ => (pts_one (pt_not (pt_val (pv 2))))) (fun _ _ _ _ _ => (pv 1))) pa_nil)) pa_nil))))
theorem ok_new_names (T : Tx K mg) (c_roles : Cal P w K mg base 2 "roles" (sp_roles K)) : Cal P w K mg base 3 "new_names" (sp_new_names K) := by
  refine cal_of (t := t_new_names K) T.d_new_names (fun _ _ _ _ _ _ us hl => match us, hl with | [_], _ => rfl) sc_new_names (fun vs H Q E h => ?_) (fun cdv f A outer s H E hr => ?_) (fun vs H Q E h => pure_new_names vs H Q E h)
  · first | (obtain ⟨rfl, _⟩ := h; rfl) | (obtain ⟨_, rfl, _⟩ := h; rfl) | (obtain ⟨_, _, rfl, _⟩ := h; rfl) | (obtain ⟨_, _, _, rfl, _⟩ := h; rfl) | (obtain ⟨_, _, _, _, rfl, _⟩ := h; rfl) | (obtain ⟨_, _, _, _, _, rfl, _⟩ := h; rfl) | (obtain ⟨_, _, _, _, _, _, rfl, _⟩ := h; rfl) | (obtain ⟨_, _, _, _, _, _, _, rfl, _⟩ := h; rfl)
  · exact (pss_one (ps_ret (pe_callTy call_tuple_of (by rfl) T.z_tuple (by decide +kernel) (pa_cons (pe_callB cr_sortedS (by rfl) T.z_sorted (by decide +kernel) (pa_cons (pe_lc (own := [("name", 1), ("is_new", 2)]) (by rfl) sc_new_names.nd (pi_itemsF (pe_c c_roles hr (by decide) (by rfl) (pa_cons (pv 0) pa_nil))) (blkOk_by (own := [("name", 1), ("is_new", 2)]) (N := n_new_names) (sc := defScope s_new_names) (by decide +kernel)) (fun _ _ _ _ _ => (pg_tup rfl (pgs_cons (pg_name (i := 1) sc_new_names.nd rfl (Or.inl rfl)) (pgs_cons (pg_name (i := 2) sc_new_names.nd rfl (Or.inl rfl)) pgs_nil)))) (fun _ _ _ _ _ => (pts_one (pt_val (pv 2)))) (fun _ _ _ _ _ => (pv 1))) pa_nil)) pa_nil))))
theorem ok_wordsL (T : Tx K mg) : Cal P w K mg base 1 "_law_words" (sp_wordsL) := by
  refine cal_of (t := t_wordsL K) T.d_wordsL (fun _ _ _ _ _ _ us hl => match us, hl with | [], _ => rfl) sc_wordsL (fun vs H Q E h => ?_) (fun cdv f A outer s H E hr => ?_) (fun vs H Q E h => pure_wordsL vs H Q E h)
  · first | (obtain ⟨rfl, _⟩ := h; rfl) | (obtain ⟨_, rfl, _⟩ := h; rfl) | (obtain ⟨_, _, rfl, _⟩ := h; rfl) | (obtain ⟨_, _, _, rfl, _⟩ := h; rfl) | (obtain ⟨_, _, _, _, rfl, _⟩ := h; rfl) | (obtain ⟨_, _, _, _, _, rfl, _⟩ := h; rfl) | (obtain ⟨_, _, _, _, _, _, rfl, _⟩ := h; rfl) | (obtain ⟨_, _, _, _, _, _, _, rfl, _⟩ := h; rfl)
  · exact (pss_cons (ps_set (i := 0) sc_wordsL.nd rfl (Or.inl rfl) (pe_lst (pa_cons pe_str (pa_cons pe_str (pa_cons pe_str (pa_cons pe_str (pa_cons pe_str (pa_cons pe_str (pa_cons pe_str pa_nil)))))))))
      (pss_one (ps_ret (pe_op op_cat (pv 0) (pe_lst (pa_cons pe_str (pa_cons pe_str (pa_cons pe_str (pa_cons pe_str (pa_cons pe_str (pa_cons pe_str pa_nil)))))))))))
theorem ok_some_deedL (T : Tx K mg) (c_pickL : Cal P w K mg base 2 "_law_pick" (sp_pickL K)) (c_wordsL : Cal P w K mg base 1 "_law_words" (sp_wordsL )) : Cal P w K mg base 3 "_law_some_deed" (sp_some_deedL K) := by
  refine cal_of (t := t_some_deedL K) T.d_some_deedL (fun _ _ _ _ _ _ us hl => match us, hl with | [_, _], _ => rfl) sc_some_deedL (fun vs H Q E h => ?_) (fun cdv f A outer s H E hr => ?_) (fun vs H Q E h => pure_some_deedL vs H Q E h)
  · first | (obtain ⟨rfl, _⟩ := h; rfl) | (obtain ⟨_, rfl, _⟩ := h; rfl) | (obtain ⟨_, _, rfl, _⟩ := h; rfl) | (obtain ⟨_, _, _, rfl, _⟩ := h; rfl) | (obtain ⟨_, _, _, _, rfl, _⟩ := h; rfl) | (obtain ⟨_, _, _, _, _, rfl, _⟩ := h; rfl) | (obtain ⟨_, _, _, _, _, _, rfl, _⟩ := h; rfl) | (obtain ⟨_, _, _, _, _, _, _, rfl, _⟩ := h; rfl)
  · exact (pss_cons (ps_set (i := 2) sc_some_deedL.nd rfl (Or.inl rfl) (pe_c c_pickL hr (by decide) (by rfl) (pa_cons (pv 0) (pa_cons (pe_c0 c_wordsL hr (by decide) (by rfl)) pa_nil))))
      (pss_cons (ps_if (pt_cmpR op_in_seq (pv 2) (pe_tup (pa_cons pe_str (pa_cons pe_str (pa_cons pe_str (pa_cons pe_str pa_nil))))) rfl) (pss_one (ps_ret (pe_tup (pa_cons (pv 2) (pa_cons (pe_c c_pickL hr (by decide) (by rfl) (pa_cons (pv 0) (pa_cons (pv 1) pa_nil))) pa_nil))))) pss_nil)
      (pss_one (ps_ret (pe_tup (pa_cons (pv 2) (pa_cons (pe_c c_pickL hr (by decide) (by rfl) (pa_cons (pv 0) (pa_cons (pv 1) pa_nil))) (pa_cons (pe_c c_pickL hr (by decide) (by rfl) (pa_cons (pv 0) (pa_cons (pv 1) pa_nil))) pa_nil))))))))
theorem ok_rolesL (T : Tx K mg) : Cal P w K mg base 1 "_law_roles" (sp_rolesL K) := by
  refine cal_of (t := t_rolesL K) T.d_rolesL (fun _ _ _ _ _ _ us hl => match us, hl with | [_], _ => rfl) sc_rolesL (fun vs H Q E h => ?_) (fun cdv f A outer s H E hr => ?_) (fun vs H Q E h => pure_rolesL vs H Q E h)
  · first | (obtain ⟨rfl, _⟩ := h; rfl) | (obtain ⟨_, rfl, _⟩ := h; rfl) | (obtain ⟨_, _, rfl, _⟩ := h; rfl) | (obtain ⟨_, _, _, rfl, _⟩ := h; rfl) | (obtain ⟨_, _, _, _, rfl, _⟩ := h; rfl) | (obtain ⟨_, _, _, _, _, rfl, _⟩ := h; rfl) | (obtain ⟨_, _, _, _, _, _, rfl, _⟩ := h; rfl) | (obtain ⟨_, _, _, _, _, _, _, rfl, _⟩ := h; rfl)
  · exact (pss_cons (ps_par (by rfl) sc_rolesL.nd rfl rfl (by decide) rfl rfl (pa_cons (pe_lst pa_nil) (pa_cons (pe_lst pa_nil) pa_nil)) (by rfl))
      (pss_cons (ps_for PassesOwn.never rfl (pi_tup (pv 0)) (pg_name (i := 3) sc_rolesL.nd rfl (Or.inl rfl)) (pss_cons (ps_set (i := 4) sc_rolesL.nd rfl (Or.inl rfl) (pe_dget2 (hu_of hr) (pe_disp (pps_cons pe_str pe_int (pps_cons pe_str pe_int pps_nil)) (by rfl) (by rfl) (fun z => by cases z) (by decide)) (pe_ix ix_tup (pv 3) pe_int (fun _ _ => rfl)) pe_int ⟨rfl, rfl, rfl, rfl⟩))
      (pss_one (ps_for PassesOwn.never rfl (pi_range2 (by rfl) T.z_range (pa_cons pe_int (pa_cons (pe_callB call_len_seq (by rfl) T.z_len (by decide +kernel) (pa_cons (pv 3) pa_nil)) pa_nil))) (pg_name (i := 5) sc_rolesL.nd rfl (Or.inl rfl)) (pss_one (ps_if (pt_cmpR op_notIn_seq (pe_ix ix_tup (pv 3) (pv 5) (fun _ _ => rfl)) (pe_op op_cat (pv 1) (pv 2)) rfl) (pss_one (ps_if (pt_cmpR op_eq (pv 5) (pv 4) (nomark _)) (pss_one (ps_expr (pe_bm PySem.F.plainAttrs_list PySem.F.slot_list_append PySem.F.type_list_append mt_append (pv 2) (pa_cons (pe_ix ix_tup (pv 3) (pv 5) (fun _ _ => rfl)) pa_nil)))) (pss_one (ps_expr (pe_bm PySem.F.plainAttrs_list PySem.F.slot_list_append PySem.F.type_list_append mt_append (pv 1) (pa_cons (pe_ix ix_tup (pv 3) (pv 5) (fun _ _ => rfl)) pa_nil)))))) pss_nil))))))
      (pss_one (ps_ret (pe_tup (pa_cons (pe_callTy call_tuple_of (by rfl) T.z_tuple (by decide +kernel) (pa_cons (pe_callB cr_sortedS (by rfl) T.z_sorted (by decide +kernel) (pa_cons (pv 1) pa_nil)) pa_nil)) (pa_cons (pe_callTy call_tuple_of (by rfl) T.z_tuple (by decide +kernel) (pa_cons (pe_callB cr_sortedS (by rfl) T.z_sorted (by decide +kernel) (pa_cons (pv 2) pa_nil)) pa_nil)) pa_nil)))))))
theorem ok_right_scriptL (T : Tx K mg) (c_drawL : Cal P w K mg base 1 "_law_draw" (sp_drawL )) (c_pickL : Cal P w K mg base 2 "_law_pick" (sp_pickL K)) (c_rolesL : Cal P w K mg base 1 "_law_roles" (sp_rolesL K)) (c_some_deedL : Cal P w K mg base 3 "_law_some_deed" (sp_some_deedL K)) : Cal P w K mg base 4 "_law_right_script" (sp_right_scriptL K) := by
  refine cal_of (t := t_right_scriptL K) T.d_right_scriptL (fun _ _ _ _ _ _ us hl => match us, hl with | [_, _, _, _], _ => rfl) sc_right_scriptL (fun vs H Q E h => ?_) (fun cdv f A outer s H E hr => ?_) (fun vs H Q E h => pure_right_scriptL vs H Q E h)
  · first | (obtain ⟨rfl, _⟩ := h; rfl) | (obtain ⟨_, rfl, _⟩ := h; rfl) | (obtain ⟨_, _, rfl, _⟩ := h; rfl) | (obtain ⟨_, _, _, rfl, _⟩ := h; rfl) | (obtain ⟨_, _, _, _, rfl, _⟩ := h; rfl) | (obtain ⟨_, _, _, _, _, rfl, _⟩ := h; rfl) | (obtain ⟨_, _, _, _, _, _, rfl, _⟩ := h; rfl) | (obtain ⟨_, _, _, _, _, _, _, rfl, _⟩ := h; rfl)
  · exact (pss_cons (ps_set (i := 4) sc_right_scriptL.nd rfl (Or.inl rfl) (pe_tup pa_nil))
      (pss_cons (ps_set (i := 5) sc_right_scriptL.nd rfl (Or.inr rfl) (pe_op op_cat (pv 1) (pv 2)))
      (pss_cons (ps_for PassesOwn.never rfl (pi_range1 (by rfl) T.z_range (pa_cons (pe_c c_drawL hr (by decide) (by rfl) (pa_cons (pv 0) (pa_cons (pe_op op_add (pv 3) pe_int) pa_nil))) pa_nil)) (pg_name (i := 6) sc_right_scriptL.nd rfl (Or.inl rfl)) (pss_cons (ps_set (i := 7) sc_right_scriptL.nd rfl (Or.inl rfl) (pe_c c_some_deedL hr (by decide) (by rfl) (pa_cons (pv 0) (pa_cons (pe_lc (own := [("_law_j", 10)]) (by rfl) sc_right_scriptL.nd (pi_range1 (by rfl) T.z_range (pa_cons pe_int pa_nil)) (blkOk_by (own := [("_law_j", 10)]) (N := n_right_scriptL) (sc := defScope s_right_scriptL) (by decide +kernel)) (fun _ _ _ _ _ => (pg_name (i := 10) sc_right_scriptL.nd rfl (Or.inl rfl))) (fun _ _ _ _ _ => pts_nil) (fun _ _ _ _ _ => (pe_c c_pickL hr (by decide) (by rfl) (pa_cons (pv 0) (pa_cons (pv 5) pa_nil))))) pa_nil))))
      (pss_cons (ps_if (PW.pt (pw_and (pt_cmpR op_notIn_seq (pe_ix ix_tup (pv 7) pe_int (fun _ _ => rfl)) (pe_tup (pa_cons pe_str (pa_cons pe_str pa_nil))) rfl) (pw_and (pt_cmpR op_eq (pe_c c_drawL hr (by decide) (by rfl) (pa_cons (pv 0) (pa_cons pe_int pa_nil))) pe_int (nomark _)) (pw_and1 (pt_cmpR (op_neE (hu_of hr)) (pv 2) (pe_lst pa_nil) (nomark _)))))) (pss_cons (ps_set (i := 8) sc_right_scriptL.nd rfl (Or.inl rfl) (pe_c c_pickL hr (by decide) (by rfl) (pa_cons (pv 0) (pa_cons (pv 2) pa_nil))))
      (pss_one (ps_set (i := 7) sc_right_scriptL.nd rfl (Or.inl rfl) (pe_c c_pickL hr (by decide) (by rfl) (pa_cons (pv 0) (pa_cons (pe_lst (pa_cons (pe_tup (pa_cons pe_str (pa_cons (pe_ix ix_tup (pv 7) pe_int (fun _ _ => rfl)) (pa_cons (pv 8) pa_nil)))) (pa_cons (pe_tup (pa_cons pe_str (pa_cons (pv 8) (pa_cons (pe_ix ix_tup (pv 7) pe_int (fun _ _ => rfl)) pa_nil)))) pa_nil))) pa_nil)))))) pss_nil)
      (pss_cons (ps_set (i := 9) sc_right_scriptL.nd rfl (Or.inl rfl) (pe_c c_rolesL hr (by decide) (by rfl) (pa_cons (pe_op op_catA (pv 4) (pe_tup (pa_cons (pv 7) pa_nil))) pa_nil)))
      (pss_one (ps_if (PW.pt (pw_and (pt_cmpR op_lt (pe_callB call_len_seq (by rfl) T.z_len (by decide +kernel) (pa_cons (pe_ix ix_tup (pv 9) pe_int (fun _ _ => rfl)) pa_nil)) pe_int (nomark _)) (pw_and1 (pt_cmpR op_lt (pe_callB call_len_seq (by rfl) T.z_len (by decide +kernel) (pa_cons (pe_ix ix_tup (pv 9) pe_int (fun _ _ => rfl)) pa_nil)) pe_int (nomark _))))) (pss_one (ps_set (i := 4) sc_right_scriptL.nd rfl (Or.inl rfl) (pe_op op_catA (pv 4) (pe_tup (pa_cons (pv 7) pa_nil))))) pss_nil))))))
      (pss_one (ps_ret (pv 4))))))
theorem ok_law (T : Tx K mg) (c_deckL : Cal P w K mg base 1 "_law_deck" (sp_deckL K)) (c_drawL : Cal P w K mg base 1 "_law_draw" (sp_drawL )) (c_namesL : Cal P w K mg base 3 "_law_names" (sp_namesL )) (c_pickL : Cal P w K mg base 2 "_law_pick" (sp_pickL K)) (c_right_scriptL : Cal P w K mg base 4 "_law_right_script" (sp_right_scriptL K)) (c_rolesL : Cal P w K mg base 1 "_law_roles" (sp_rolesL K)) (c_new_names : Cal P w K mg base 3 "new_names" (sp_new_names K)) (c_old_names : Cal P w K mg base 3 "old_names" (sp_old_names K)) {f : Addr} {fd : FuncData} (F : FunD K "law" "law" (defArgs s_law) (defBody s_law) (defScope s_law) [] [] f fd) : FnOk P w K mg base CX0 5 f fd ["_law_script"] (sp_law K) := by
  refine F.ok sc_law (fun vs H Q E h => ?_) (fun cdv A outer s H vs Q E hr h => ⟨t_law K, PSs.nox ?_, pure_law vs H Q E h⟩)
  · first | (obtain ⟨rfl, _⟩ := h; rfl) | (obtain ⟨_, rfl, _⟩ := h; rfl) | (obtain ⟨_, _, rfl, _⟩ := h; rfl) | (obtain ⟨_, _, _, rfl, _⟩ := h; rfl) | (obtain ⟨_, _, _, _, rfl, _⟩ := h; rfl) | (obtain ⟨_, _, _, _, _, rfl, _⟩ := h; rfl) | (obtain ⟨_, _, _, _, _, _, rfl, _⟩ := h; rfl) | (obtain ⟨_, _, _, _, _, _, _, rfl, _⟩ := h; rfl)
  · exact (pss_cons (ps_set (i := 1) sc_law.nd rfl (Or.inl rfl) (pe_c c_deckL hr (by decide) (by rfl) (pa_cons (pv 0) pa_nil)))
      (pss_cons (ps_set (i := 2) sc_law.nd rfl (Or.inl rfl) (pe_c c_namesL hr (by decide) (by rfl) (pa_cons (pv 1) (pa_cons pe_int pa_nil))))
      (pss_cons (ps_par (by rfl) sc_law.nd rfl rfl (by decide) rfl rfl (pa_cons (pe_c c_drawL hr (by decide) (by rfl) (pa_cons (pv 1) (pa_cons pe_int pa_nil))) (pa_cons (pe_op op_add pe_int (pe_c c_drawL hr (by decide) (by rfl) (pa_cons (pv 1) (pa_cons pe_int pa_nil)))) pa_nil)) (by rfl))
      (pss_cons (ps_set (i := 5) sc_law.nd rfl (Or.inl rfl) (pe_c c_right_scriptL hr (by decide) (by rfl) (pa_cons (pv 1) (pa_cons (pe_slice sl_list (pv 2) po_none (po_some (pv 3))) (pa_cons (pe_slice sl_list (pv 2) (po_some (pv 3)) (po_some (pe_op op_add (pv 3) (pv 4)))) (pa_cons pe_int pa_nil))))))
      (pss_cons (ps_if (pt_cmpR op_eq (pe_c c_drawL hr (by decide) (by rfl) (pa_cons (pv 1) (pa_cons pe_int pa_nil))) pe_int (nomark _)) (pss_cons (ps_set (i := 6) sc_law.nd rfl (Or.inl rfl) (pe_tup (pa_cons (pe_c c_pickL hr (by decide) (by rfl) (pa_cons (pv 1) (pa_cons (pe_lst (pa_cons pe_str (pa_cons pe_str pa_nil))) pa_nil))) (pa_cons (pe_ix ix_list (pv 2) pe_int (fun _ _ => rfl)) (pa_cons (pe_ix ix_list (pv 2) pe_int (fun _ _ => rfl)) pa_nil)))))
      (pss_cons (ps_set (i := 5) sc_law.nd rfl (Or.inl rfl) (pe_op op_catA (pe_op op_catA (pe_slice sl_tupA (pv 5) po_none (po_some pe_int)) (pe_tup (pa_cons (pv 6) pa_nil))) (pe_slice sl_tupA (pv 5) (po_some pe_int) (po_some pe_int))))
      (pss_cons (ps_set (i := 7) sc_law.nd rfl (Or.inl rfl) (pe_c c_rolesL hr (by decide) (by rfl) (pa_cons (pv 5) pa_nil)))
      (pss_one (ps_if (PW.pt (pw_or (pt_cmpR op_gt (pe_callB call_len_seq (by rfl) T.z_len (by decide +kernel) (pa_cons (pe_ix ix_tup (pv 7) pe_int (fun _ _ => rfl)) pa_nil)) pe_int (nomark _)) (pw_or1 (pt_cmpR op_gt (pe_callB call_len_seq (by rfl) T.z_len (by decide +kernel) (pa_cons (pe_ix ix_tup (pv 7) pe_int (fun _ _ => rfl)) pa_nil)) pe_int (nomark _))))) (pss_one (ps_set (i := 5) sc_law.nd rfl (Or.inl rfl) (pe_tup pa_nil))) pss_nil))))) pss_nil)
      (pss_one (ps_ret (pe_cmpR (op_eqP (room_eq hr)) (pe_lst (pa_cons (pe_c c_old_names hr (by decide) (by rfl) (pa_cons (pv 5) pa_nil)) (pa_cons (pe_c c_new_names hr (by decide) (by rfl) (pa_cons (pv 5) pa_nil)) pa_nil))) (pe_callTy call_list_of (by rfl) T.z_list (by decide +kernel) (pa_cons (pe_c c_rolesL hr (by decide) (by rfl) (pa_cons (pv 5) pa_nil)) pa_nil)) (nomark _)))))))))
theorem ok_all (T : Tx K mg) {f : Addr} {fd : FuncData} (F : FunD K "law" "law" (defArgs s_law) (defBody s_law) (defScope s_law) [] [] f fd) : FnOk P w K mg base CX0 5 f fd ["_law_script"] (sp_law K) := by
  have c_deckL := ok_deckL (P := P) (w := w) (base := base) T
  have c_drawL := ok_drawL (P := P) (w := w) (base := base) T
  have c_pickL := ok_pickL (P := P) (w := w) (base := base) T c_drawL
  have c_nameL := ok_nameL (P := P) (w := w) (base := base) T c_drawL
  have c_namesL := ok_namesL (P := P) (w := w) (base := base) T c_drawL c_nameL
  have c_makes := ok_makes (P := P) (w := w) (base := base) T
  have c_roles := ok_roles (P := P) (w := w) (base := base) T c_makes
  have c_old_names := ok_old_names (P := P) (w := w) (base := base) T c_roles
  have c_new_names := ok_new_names (P := P) (w := w) (base := base) T c_roles
  have c_wordsL := ok_wordsL (P := P) (w := w) (base := base) T
  have c_some_deedL := ok_some_deedL (P := P) (w := w) (base := base) T c_pickL c_wordsL
  have c_rolesL := ok_rolesL (P := P) (w := w) (base := base) T
  have c_right_scriptL := ok_right_scriptL (P := P) (w := w) (base := base) T c_drawL c_pickL c_rolesL c_some_deedL
  exact ok_law T c_deckL c_drawL c_namesL c_pickL c_right_scriptL c_rolesL c_new_names c_old_names F
end
/-! ### the head -/
def dd_deckL : He.DefD := ⟨("_law_deck", none), "_law_deck", "_law_deck", defArgs s_deckL, defBody s_deckL, defScope s_deckL, [], []⟩
def dd_drawL : He.DefD := ⟨("_law_draw", none), "_law_draw", "_law_draw", defArgs s_drawL, defBody s_drawL, defScope s_drawL, [], []⟩
def dd_pickL : He.DefD := ⟨("_law_pick", none), "_law_pick", "_law_pick", defArgs s_pickL, defBody s_pickL, defScope s_pickL, [], []⟩
def dd_nameL : He.DefD := ⟨("_law_name", none), "_law_name", "_law_name", defArgs s_nameL, defBody s_nameL, defScope s_nameL, [], []⟩
def dd_namesL : He.DefD := ⟨("_law_names", none), "_law_names", "_law_names", defArgs s_namesL, defBody s_namesL, defScope s_namesL, [], []⟩
def dd_makes : He.DefD := ⟨("makes", none), "makes", "makes", defArgs s_makes, defBody s_makes, defScope s_makes, [], []⟩
def dd_roles : He.DefD := ⟨("roles", none), "roles", "roles", defArgs s_roles, defBody s_roles, defScope s_roles, [], []⟩
def dd_old_names : He.DefD := ⟨("old_names", none), "old_names", "old_names", defArgs s_old_names, defBody s_old_names, defScope s_old_names, [], []⟩
def dd_new_names : He.DefD := ⟨("new_names", none), "new_names", "new_names", defArgs s_new_names, defBody s_new_names, defScope s_new_names, [], []⟩
def dd_wordsL : He.DefD := ⟨("_law_words", none), "_law_words", "_law_words", defArgs s_wordsL, defBody s_wordsL, defScope s_wordsL, [], []⟩
def dd_some_deedL : He.DefD := ⟨("_law_some_deed", none), "_law_some_deed", "_law_some_deed", defArgs s_some_deedL, defBody s_some_deedL, defScope s_some_deedL, [], []⟩
def dd_rolesL : He.DefD := ⟨("_law_roles", none), "_law_roles", "_law_roles", defArgs s_rolesL, defBody s_rolesL, defScope s_rolesL, [], []⟩
def dd_right_scriptL : He.DefD := ⟨("_law_right_script", none), "_law_right_script", "_law_right_script", defArgs s_right_scriptL, defBody s_right_scriptL, defScope s_right_scriptL, [], []⟩
def dd_law : He.DefD := ⟨("law", none), "law", "law", defArgs s_law, defBody s_law, defScope s_law, [], []⟩
def fnD : List He.DefD := [dd_deckL, dd_drawL, dd_pickL, dd_nameL, dd_namesL, dd_makes, dd_roles, dd_old_names, dd_new_names, dd_wordsL, dd_some_deedL, dd_rolesL, dd_right_scriptL, dd_law]
def faD : List He.Fa := [.glo "_law_deck", .glo "_law_draw", .glo "_law_pick", .glo "_law_name", .glo "_law_names", .glo "makes", .glo "roles", .glo "old_names", .glo "new_names", .glo "_law_words", .glo "_law_some_deed", .glo "_law_roles", .glo "_law_right_script", .glo "law", .free "abs", .free "enumerate", .free "int", .free "len", .free "list", .free "range", .free "sorted", .free "tuple"]
def chkD (K : PySem.W.Frag) : Bool := true
abbrev RR : PySem.W.OpenRow := PySem.W.OpenLaw.row PySem.Challenge.rw_twigscripts_k17_old_and_new_names
abbrev hkD : PySem.W.Hook := hookX 5 chkD faD fnD
def obD (s : PySem.W.SharedT) : AlX := obsXG 5 chkD faD fnD (HandSHeadRun.getT s)
theorem obD_eq (s : PySem.W.SharedT) : obD s = hkD.obs s.abs := obsXG_eq (HandSHeadRun.getT_eq s)
def looseD : List Str := ["makes", "roles", "old_names", "new_names", "_law_deck", "_law_draw", "_law_name", "_law_names", "_law_pick", "_law_words", "_law_some_deed", "_law_roles", "_law_right_script"]
theorem runD (w : World) : HandSHeadRun.RunEq RR (PySem.W.view RR.prog [15]) hkD obD 4000 looseD w := by
  intro os
  kernel_rfl
theorem facts {P : Program} {w : World} {K : PySem.W.Frag} {h : Heap} {mg : Str → Option Value} {f : Addr} (X : K.In h) (G : h.Ns mainGlobals mg) (hfa : mg ("law" : Str) = some (.ref f)) (c : SaysX chkD faD fnD K) :
    ∃ fd : FuncData, (∀ (s : Shared) (v : Value), BindsTo s fd ⟨[v], []⟩ [("_law_script", v)]) ∧ ∀ base : Heap, K.In base → base.Ns mainGlobals mg → FnOk P w K mg base CX0 5 f fd ["_law_script"] (sp_law K) := by
  obtain ⟨fd_deckL, F_deckL⟩ := c.d.def_ 0 (d := dd_deckL) rfl
  have g_deckL := He.glo_ok X G (c.d.fact 0 (f := .glo "_law_deck") rfl)
  obtain ⟨fd_drawL, F_drawL⟩ := c.d.def_ 1 (d := dd_drawL) rfl
  have g_drawL := He.glo_ok X G (c.d.fact 1 (f := .glo "_law_draw") rfl)
  obtain ⟨fd_pickL, F_pickL⟩ := c.d.def_ 2 (d := dd_pickL) rfl
  have g_pickL := He.glo_ok X G (c.d.fact 2 (f := .glo "_law_pick") rfl)
  obtain ⟨fd_nameL, F_nameL⟩ := c.d.def_ 3 (d := dd_nameL) rfl
  have g_nameL := He.glo_ok X G (c.d.fact 3 (f := .glo "_law_name") rfl)
  obtain ⟨fd_namesL, F_namesL⟩ := c.d.def_ 4 (d := dd_namesL) rfl
  have g_namesL := He.glo_ok X G (c.d.fact 4 (f := .glo "_law_names") rfl)
  obtain ⟨fd_makes, F_makes⟩ := c.d.def_ 5 (d := dd_makes) rfl
  have g_makes := He.glo_ok X G (c.d.fact 5 (f := .glo "makes") rfl)
  obtain ⟨fd_roles, F_roles⟩ := c.d.def_ 6 (d := dd_roles) rfl
  have g_roles := He.glo_ok X G (c.d.fact 6 (f := .glo "roles") rfl)
  obtain ⟨fd_old_names, F_old_names⟩ := c.d.def_ 7 (d := dd_old_names) rfl
  have g_old_names := He.glo_ok X G (c.d.fact 7 (f := .glo "old_names") rfl)
  obtain ⟨fd_new_names, F_new_names⟩ := c.d.def_ 8 (d := dd_new_names) rfl
  have g_new_names := He.glo_ok X G (c.d.fact 8 (f := .glo "new_names") rfl)
  obtain ⟨fd_wordsL, F_wordsL⟩ := c.d.def_ 9 (d := dd_wordsL) rfl
  have g_wordsL := He.glo_ok X G (c.d.fact 9 (f := .glo "_law_words") rfl)
  obtain ⟨fd_some_deedL, F_some_deedL⟩ := c.d.def_ 10 (d := dd_some_deedL) rfl
  have g_some_deedL := He.glo_ok X G (c.d.fact 10 (f := .glo "_law_some_deed") rfl)
  obtain ⟨fd_rolesL, F_rolesL⟩ := c.d.def_ 11 (d := dd_rolesL) rfl
  have g_rolesL := He.glo_ok X G (c.d.fact 11 (f := .glo "_law_roles") rfl)
  obtain ⟨fd_right_scriptL, F_right_scriptL⟩ := c.d.def_ 12 (d := dd_right_scriptL) rfl
  have g_right_scriptL := He.glo_ok X G (c.d.fact 12 (f := .glo "_law_right_script") rfl)
  obtain ⟨fd_law, F_law⟩ := c.d.def_ 13 (d := dd_law) rfl
  have g_law := He.glo_ok X G (c.d.fact 13 (f := .glo "law") rfl)
  have ck := c.test
  have T : Tx K mg := ⟨He.free_ok X G (c.d.fact 14 (f := .free "abs") rfl), He.free_ok X G (c.d.fact 15 (f := .free "enumerate") rfl), He.free_ok X G (c.d.fact 16 (f := .free "int") rfl), He.free_ok X G (c.d.fact 17 (f := .free "len") rfl), He.free_ok X G (c.d.fact 18 (f := .free "list") rfl), He.free_ok X G (c.d.fact 19 (f := .free "range") rfl), He.free_ok X G (c.d.fact 20 (f := .free "sorted") rfl), He.free_ok X G (c.d.fact 21 (f := .free "tuple") rfl), ⟨_, _, F_deckL, g_deckL⟩, ⟨_, _, F_drawL, g_drawL⟩, ⟨_, _, F_pickL, g_pickL⟩, ⟨_, _, F_nameL, g_nameL⟩, ⟨_, _, F_namesL, g_namesL⟩, ⟨_, _, F_makes, g_makes⟩, ⟨_, _, F_roles, g_roles⟩, ⟨_, _, F_old_names, g_old_names⟩, ⟨_, _, F_new_names, g_new_names⟩, ⟨_, _, F_wordsL, g_wordsL⟩, ⟨_, _, F_some_deedL, g_some_deedL⟩, ⟨_, _, F_rolesL, g_rolesL⟩, ⟨_, _, F_right_scriptL, g_right_scriptL⟩, ⟨_, _, F_law, g_law⟩⟩
  have e := hfa.symm.trans g_law
  cases e
  have b := FunD.bindsA (ps := ["_law_script"]) F_law fun _ _ _ _ _ _ us hl => match us, hl with | [_], _ => rfl
  exact ⟨fd_law, fun s v => b s [v] rfl, fun base _ _ => ok_all T F_law⟩

end Tw
open PySem PySem.W PySem.Calls PyProof.Rows
set_option maxHeartbeats 0 in
theorem PySem.Challenge.cw_twigscripts_k17_old_and_new_names_holds : PySem.Challenge.rw_twigscripts_k17_old_and_new_names.Holds := by
  w_on; o_law
  refine HandSHeadRun.head_any (r := OpenLaw.row PySem.Challenge.rw_twigscripts_k17_old_and_new_names) (q := view (OpenLaw.row PySem.Challenge.rw_twigscripts_k17_old_and_new_names).prog [15]) (H := Tw.hkD) (ob := Tw.obD) (M := 4000) (loose := Tw.looseD) (d := HandSHeadRun.topDef (OpenLaw.row PySem.Challenge.rw_twigscripts_k17_old_and_new_names).prog 15) (kwd := []) Tw.obD_eq
    (by kernel_rfl) (fun s => by kernel_rfl) Tw.runD (by kernel_rfl) (by kernel_rfl) (by kernel_rfl) (by rfl) (by first | assumption | decide +kernel) (by decide +kernel) ⟨rfl, rfl, rfl, rfl, rfl, by decide +kernel⟩ ?hw ?hc
  case hw => w_witness2
  case hc =>
    refine L2.walk_ofE (l := PySem.Challenge.rw_twigscripts_k17_old_and_new_names) (n := 63) (k := 5) (x := "_law_script") (CX := L2.CX0) rfl (by decide) (by kernel_rfl) ⟨rfl, by decide, by decide⟩ ?F (fun _ _ _ _ z => z)
    intro w mg fa h Y G hmg0
    obtain ⟨K, KX, c⟩ := Y
    have hmg : mg ("law" : PySem.Str) = some (.ref fa) := by
      have e : (HandSHeadRun.topDef (OpenLaw.row PySem.Challenge.rw_twigscripts_k17_old_and_new_names).prog 15).name = ("law" : PySem.Str) := by kernel_rfl
      rw [← e]
      exact hmg0
    obtain ⟨fd, hb, hF⟩ := Tw.facts (P := (PySem.Challenge.rw_twigscripts_k17_old_and_new_names).prog) (w := w) KX G hmg c
    exact ⟨K, fd, Tw.sp_law K, KX, hb, fun H a ns hl _ hS => ⟨a, ns, rfl, hS, hl, fun _ => rfl⟩, hF⟩

