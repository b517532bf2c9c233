import PyProof.Rows.All
import Wide.All
import OpenK.AllK
import Wide.FinOn
import KE.KStateDown
import KE.DataEq
import Lean
import HandS.ForMost
import HandS.Flow
import HandS.Steps
import HandS.Style
import HandS.IsInst
import HandS.SetKeys
import HandS.TupAny
import HandS.Deep
import HandS.Walk
import HandS.Codes
import HandS.Defaults
import HandS.Head0
import HandS.Head1
import HandS.Head2
import HandS.HeadEnd
import HandS.HeadHook1
import HandS.HeadHook2
import KE.GoesMore
import HandS.FStrTup
import KE.KDictList
import HandS.More
import PySem.Challenge.RW_twigscripts_k03_names_and_who_lies_in_wh
set_option Elab.async false
set_option linter.all false
set_option maxRecDepth 100000
set_option maxHeartbeats 4000000
/-! names for the readings of the layer's rules -/
namespace Tw
open PySem PySem.Spec PyProof.Rows L2
def rAddI : R2 := rI0 fun i j => .int (i + j)
def rSubI : R2 := rI0 fun i j => .int (i - j)
def rMulI : R2 := rI CMul fun i j => .int (i * j)
def rDivI : R2 := rI CDiv fun i j => .int (i / j)
def rModI : R2 := rI (fun _ j => 0 < j) fun i j => .int (i % j)
def rPowI : R2 := rI CPow fun i j => .int (i ^ j.toNat)
def rNegI : V → Hp → VK → Prop := rU fun i => .int (-i)
def rLtI : R2 := rI0 fun i j => .bl (decide (i < j))
def rLeI : R2 := rI0 fun i j => .bl (decide (i ≤ j))
def rGtI : R2 := rI0 fun i j => .bl (decide (j < i))
def rGeI : R2 := rI0 fun i j => .bl (decide (j ≤ i))
def rLtS : R2 := fun x y H Q => ∃ i j, x = .str i ∧ y = .str j ∧ Q (.bl (decide (i.cps.toList < j.cps.toList))) H
def rAddS : R2 := fun x y H Q => ∃ i j, x = .str i ∧ y = .str j ∧ i.length + j.length ≤ sizeLine ∧ Q (.str (i ++ j)) H
def rAbs : List V → Hp → VK → Prop := fun xs H Q => ∃ i, xs = [.int i] ∧ Q (.int (if i < 0 then -i else i)) H
def rInt1 : List V → Hp → VK → Prop := fun xs H Q => (∃ i, xs = [.int i] ∧ Q (.int i) H) ∨ ∃ k, xs = [.bl k] ∧ Q (.int (if k then 1 else 0)) H
def rLenQ (K : PySem.W.Frag) : List V → Hp → VK → Prop := fun xs H Q => ∃ p ys, xs = [.ref p] ∧ (SqL K H p ys ∨ SqT K H p ys) ∧ Q (.int ys.length) H
def rLenS : List V → Hp → VK → Prop := fun xs H Q => ∃ z : Str, xs = [.str z] ∧ z.length ≤ sizeLine ∧ Q (.int z.length) H
def rLenD : List V → Hp → VK → Prop := fun xs H Q => ∃ a kvs, xs = [V.ref a] ∧ H a = some (.dK kvs) ∧ Q (.int kvs.length) H
def rLenV (K : PySem.W.Frag) : List V → Hp → VK → Prop := fun xs H Q => ∃ x n, xs = [x] ∧ LenV K x H n ∧ Q (.int n) H
def rTupOf (K : PySem.W.Frag) : List V → Hp → VK → Prop := fun xs H Q => ∃ p ys, xs = [.ref p] ∧ ((SqL K H p ys ∧ ∀ l, H l = none → Q (.ref l) (upd H l (.tup ys))) ∨ (SqT K H p ys ∧ Q (.ref p) H))
def rLstOf (K : PySem.W.Frag) : List V → Hp → VK → Prop := fun xs H Q => ∃ p ys, xs = [.ref p] ∧ (SqL K H p ys ∨ SqT K H p ys) ∧ ∀ l, H l = none → Q (.ref l) (upd H l (.lst ys))
def rJoin (K : PySem.W.Frag) : V → List V → Hp → VK → Prop := fun x xs H Q => ∃ a p, ∃ ys : List Str, x = .str a ∧ xs = [.ref p] ∧ (SqL K H p (ys.map V.str) ∨ SqT K H p (ys.map V.str)) ∧ (ys.map (·.length)).sum + ys.length * a.length ≤ 16777216 ∧ Q (.str (Txt.join a ys)) H
def rInsert : V → List V → Hp → VK → Prop := fun x vs H Q => ∃ (l : Addr) (xs : List V) (i : Int) (y : V), x = .ref l ∧ vs = [.int i, y] ∧ H l = some (.lst xs) ∧ xs.length < sizeLine ∧ 0 ≤ i ∧ i < 2 ^ 63 ∧ Q .non (upd H l (.lst (xs.take i.toNat ++ [y] ++ xs.drop i.toNat)))
def tTru (K : PySem.W.Frag) (ta : TE) : TT := fun σ H Q => ta σ H fun x H' => ∃ k, TruV K x H' k ∧ Q k H'
abbrev tDPut (td ty tv : TE) : TS := sDPut td ty tv
/-! ### a def of the top, called by its name -/
/-- the def st stands at the module's name x -/
def DefAt (K : PySem.W.Frag) (mg : Str → Option Value) (x : Str) (st : Stmt) : Prop := ∃ f fd, FunD K x x (defArgs st) (defBody st) (defScope st) [] [] f fd ∧ mg x = some (.ref f)
section
variable {P : Program} {w : World} {K : PySem.W.Frag} {mg : Str → Option Value} {base : Heap}
/-- a def that may be called by its name (it lets no exception out) -/
structure Cal (P : Program) (w : World) (K : PySem.W.Frag) (mg : Str → Option Value) (base : Heap) (k : Nat) (x : Str) (sp : Sp) : Prop where
  ex : ∃ (f : Addr) (fd : FuncData) (ps : List Str), FnOk P w K mg base CX0 k f fd ps sp ∧ mg x = some (.ref f) ∧ PySem.W.keepIn K (.ref f) = true ∧ Binds K fd ps []
theorem cal_of {x : Str} {st : Stmt} {N ps : List Str} {k : Nat} {sp : Sp} (D : DefAt K mg x st)
    (hb : ∀ (kV doc pm : Value) (an : Option Addr) (cdv ct : Value) (us : List Value), us.length = ps.length → bindArgs (PySem.W.fnOf x x (defArgs st) (defBody st) (defScope st) .none kV doc pm an cdv ct) ⟨us, []⟩ = pure (ps.zip us))
    (S : FnScope N ps (defScope st)) (len : ∀ vs H Q E, sp vs H Q E → vs.length = ps.length) {t : TS}
    (body : ∀ (cdv : Value) (f : Addr) (A : Around) (outer : List Env) (s : Shared) (H : Hp) (E : XK), Room k (A.deeper (envOfC x (defScope st) s.heap.objs.size f cdv)) →
      PSs (cxOf CX0 P w K mg base N x (defScope st) f cdv A outer s H E).nox (defBody st) t)
    (pure_ : ∀ (vs : List V) (H : Hp) (Q : VK) (E : XK), sp vs H Q E → t { nx := fun _ H' => Q .non H', rt := Q } (start N vs) H) : Cal P w K mg base (k + 1) x sp := by
  obtain ⟨f, fd, F, g⟩ := D
  exact ⟨f, fd, ps, F.ok S len fun cdv A outer s H vs Q E hr h => ⟨t, (body cdv f A outer s H E hr).nox, pure_ vs H Q E h⟩, g, F.kp, F.bindsN hb⟩
/-- a promise that is never asked for -/
theorem cal_false {x : Str} {st : Stmt} {ps : List Str} {k : Nat} {sp : Sp} (D : DefAt K mg x st)
    (hb : ∀ (kV doc pm : Value) (an : Option Addr) (cdv ct : Value) (us : List Value), us.length = ps.length → bindArgs (PySem.W.fnOf x x (defArgs st) (defBody st) (defScope st) .none kV doc pm an cdv ct) ⟨us, []⟩ = pure (ps.zip us))
    (no : ∀ vs H Q E, sp vs H Q E → False) : Cal P w K mg base k x sp := by
  obtain ⟨f, fd, F, g⟩ := D
  exact ⟨f, fd, ps, ⟨fun vs H Q E h => (no vs H Q E h).elim, fun A outer s H args us vs Q E _ _ _ _ h => (no vs H Q E h).elim⟩, g, F.kp, F.bindsN hb⟩
theorem cal_mono {x : Str} {k j : Nat} {sp : Sp} (c : Cal P w K mg base k x sp) (h : k ≤ j) : Cal P w K mg base j x sp := by
  obtain ⟨f, fd, ps, F, r⟩ := c.ex
  exact ⟨f, fd, ps, F.mono h, r⟩
theorem cal_imp {x : Str} {k : Nat} {sp sp' : Sp} (c : Cal P w K mg base k x sp) (h : ∀ vs H Q E, sp' vs H Q E → sp vs H Q E) : Cal P w K mg base k x sp' := by
  obtain ⟨f, fd, ps, F, r⟩ := c.ex
  exact ⟨f, fd, ps, F.imp h, r⟩
end
section
variable {X : Cx} {k j : Nat} {x : Str} {sp : Sp} {p pos : Pos} {e : Expr} {es : List Expr} {t : TA}
theorem pe_c (c : Cal X.prog X.w X.K X.mg X.base k x sp) (hr : Room j X.A) (hk : k ≤ j) (hg : Gl X x) (ha : PA X (e :: es) t)
    (hdb : (x == ("__debug__" : Str)) = false := by decide) (he : starEach (e :: es) X.env = (false, eval e X.env) :: starEach es X.env := by rfl) (hpl : (backTo pos (starEach es X.env)).any (·.1) = false := by rfl) :
    PE X (.Call (.Name x p) (e :: es) [] pos) (tCall sp [] E0 t) := by
  obtain ⟨f, fd, ps, F, hm, kp, b⟩ := c.ex
  exact pe_call F (hr.mono hk) hg hm kp b .nil pass0 ha hdb he hpl
theorem pe_c0 (c : Cal X.prog X.w X.K X.mg X.base k x sp) (hr : Room j X.A) (hk : k ≤ j) (hg : Gl X x) (hdb : (x == ("__debug__" : Str)) = false := by decide) :
    PE X (.Call (.Name x p) [] [] pos) (tCall sp [] E0 tNil) := by
  obtain ⟨f, fd, ps, F, hm, kp, b⟩ := c.ex
  exact pe_call0 F (hr.mono hk) hg hm kp b .nil pass0 hdb
/-- a module's constant -/
theorem pe_gc {v : V} (hg : Gl X x) (h : ∃ u, X.mg x = some u ∧ RelV v u) (hd : (x == ("__debug__" : Str)) = false := by decide) : PE X (.Name x pos) (tC v) := by
  obtain ⟨u, hm, r⟩ := h
  exact pe_glob hg hm r hd
end
/-! ### text * int -/
def rRepS : R2 := fun x y H Q => ∃ (z : Str) (n : Int), x = .str z ∧ y = .int n ∧ MulOk z n ∧ Q (.str (Txt.mul z n)) H
theorem op_repS {X : Cx} : OpR X (binaryOp .Mult) rRepS := by
  intro pins s σ H x y v u Q I rx ry h
  obtain ⟨z, n, rfl, rfl, ok, q⟩ := h
  obtain ⟨t, rfl⟩ := rx
  obtain ⟨t', rfl⟩ := ry
  obtain ⟨hp, g, d, tk, os⟩ := s
  exact SB.mul ok fun t2 k => ⟨.str _, H, I.tok _, ⟨_, rfl⟩, q⟩
/-! ### a text against a dict -/
theorem str_eq_declines_dict (b : Str) (u : Tok) (l : Addr) (o : Obj) (es : Array DictEntry) (n : Nat) (hd : o.data = .dict es n) (hc : o.cls = .type "dict") :
    Meets (Builtin.«str.__eq__» ⟨[.str b u, .ref l], []⟩) (fun _ R s => s.heap.get? l = some o ∧ R (.ok (.ret .notImplemented)) s) :=
  .of_wp fun prog w A R s h => by
    obtain ⟨hp, g, d, tk, os⟩ := s
    obtain ⟨hl, h⟩ := h
    obtain ⟨c, dd, dt, sl⟩ := o
    simp only at hd hc
    subst hd hc
    wp_walk using wpAny_loadPart' hl, wpAny_load hl
    exact ⟨_, rfl, h⟩
theorem dict_eq_declines_str (l : Addr) (o : Obj) (es : Array DictEntry) (n : Nat) (hd : o.data = .dict es n) (hc : o.cls = .type "dict") (b : Str) (u : Tok) :
    Meets (Builtin.«dict.__eq__» ⟨[.ref l, .str b u], []⟩) (fun _ R s => s.heap.get? l = some o ∧ R (.ok (.ret .notImplemented)) s) :=
  .of_wp fun prog w A R s h => by
    obtain ⟨hp, g, d, tk, os⟩ := s
    obtain ⟨hl, h⟩ := h
    obtain ⟨c, dd, dt, sl⟩ := o
    simp only at hd hc
    subst hd hc
    have f1 := F.sub_str_dict
    wp_walk using wpAny_loadPart' hl
    exact ⟨_, rfl, h⟩
section
variable {A : Around} {s : Shared}
theorem rc_str_dict {l : Addr} {o : Obj} (b : Str) (u : Tok) (es : Array DictEntry) (n : Nat) (ho : s.heap.get? l = some o) (hc : o.cls = .type "dict") (hd : o.data = .dict es n) (hu : A.units < cLine) : SeqAt.RcAt A s (.str b u) (.ref l) false := fun prog w E Q h =>
  SeqAt.rc_eq_decline_or (k := false) (typeIs_str s b u) ⟨_, ho, hc⟩ (by decide) F.sub_dict_str F.slot_str_eq F.slot_dict_eq_refl
    (fun _ hq => call_meets F.slot_str_eq (typeIs_str s b u) F.entry_str_eq (F.args_str_eq_2 _ _) (str_eq_declines_dict b u l o es n hd hc) ⟨ho, hq⟩)
    (fun _ hq => call_meets F.slot_dict_eq_refl ⟨_, ho, hc⟩ F.entry_dict_eq (F.args_dict_eq_2 _ _) (dict_eq_declines_str l o es n hd hc b u) ⟨ho, hq⟩)
    (fun _ hq => wpAny_of_eq (rfl : isSame (.str b u) (.ref l) = pure false) hq) (.inr hu) h
theorem eqAt_str_dict {l : Addr} {o : Obj} (b : Str) (u : Tok) (es : Array DictEntry) (n : Nat) (ho : s.heap.get? l = some o) (hc : o.cls = .type "dict") (hd : o.data = .dict es n) (hu : A.units < cLine) : SeqAt.EqAt A s (.str b u) (.ref l) false := fun prog w E Q h => by
  unfold eqBool
  refine wpAny_holding ?_
  refine wpAny_ite_split (fun hab => absurd (eq_of_beq hab) nofun) (fun _ => ?_)
  exact wpAny_bind (rc_str_dict b u es n ho hc hd hu prog w E _ (wpAny_truthy_bool h))
end
/-! ### any value, and whether it stands in a row of texts -/
inductive AV (K : PySem.W.Frag) (H : Hp) : V → Prop
  | non : AV K H .non
  | bl (b : Bool) : AV K H (.bl b)
  | int (i : Int) : AV K H (.int i)
  | str (x : Str) (sz : x.length ≤ sizeLine) : AV K H (.str x)
  | lst {a : Addr} {xs : List V} (h : SqL K H a xs) : AV K H (.ref a)
  | tup {a : Addr} {xs : List V} (h : SqT K H a xs) : AV K H (.ref a)
  | dct {a : Addr} {kvs : List (Key × V)} (h : H a = some (.dK kvs)) : AV K H (.ref a)
def inA (x : V) (ss : List Str) : Bool := match x with
  | .str z => ss.contains z
  | _ => false
def rInA (K : PySem.W.Frag) (neg : Bool) : R2 := fun x y H Q => ∃ p ss, y = .ref p ∧ (SqL K H p (ss.map V.str) ∨ SqT K H p (ss.map V.str)) ∧ AV K H x ∧ Q (.bl (if neg then !inA x ss else inA x ss)) H
def eqA (x : V) (u : Value) : Bool := match x, u with
  | .str z, .str y _ => y == z
  | _, _ => false
theorem any_eqA {x : V} : ∀ {ss : List Str} {us : List Value}, Vals (ss.map V.str) us → us.any (eqA x) = inA x ss
  | [], _, .nil => by cases x <;> rfl
  | z :: ss, _, .cons ⟨t, e⟩ r => by
    subst e
    rw [List.any_cons, any_eqA r]
    cases x with
    | str y =>
      show (z == y || ss.contains y) = (z :: ss).contains y
      rw [List.contains_cons]
      congr 1
      rw [Bool.eq_iff_iff, beq_iff_eq, beq_iff_eq]
      exact eq_comm
    | _ => rfl
theorem eqAt_any {X : Cx} {pins : List (Addr × Obj)} {σ : L2.St} {H : Hp} {s : Shared} {A : Around} {x : V} {v : Value} (I : Inv X pins σ H s) (rx : RelV x v) (h : AV X.K H x) (hu : A.units < cLine) :
    ∀ {ss : List Str} {us : List Value}, Vals (ss.map V.str) us → ∀ u ∈ us, SeqAt.EqAt A s u v (eqA x u)
  | [], _, .nil, _, hu' => by cases hu'
  | z :: ss, _, .cons ⟨t, e⟩ r, u, hu' => by
    rcases List.mem_cons.mp hu' with rfl | hm
    · subst e
      cases h with
      | non => cases rx; exact SeqAt.EqAt.str_none z t
      | bl b => cases rx; exact SeqAt.EqAt.str_bool z t b
      | int i => obtain ⟨t', rfl⟩ := rx; exact SeqAt.EqAt.str_int z t i t'
      | str y _ => obtain ⟨t', rfl⟩ := rx; exact SeqAt.EqAt.str_str z t y t'
      | lst h =>
        cases rx
        obtain ⟨its, _, pl, _⟩ := I.list h
        exact SeqAt.EqAt.str_list z t pl.isList hu
      | tup h =>
        cases rx
        obtain ⟨its, _, pl, _⟩ := I.tuple h
        exact SeqAt.EqAt.str_tuple z t pl hu
      | dct h =>
        cases rx
        obtain ⟨_, _, _, _, o, es, n, ho, ⟨hc, _⟩, hd, _⟩ := (show ObjOk X.prog X.w H s.heap _ (.dK _) from I.hok _ _ h)
        exact eqAt_str_dict z t es n ho hc hd hu
    · exact eqAt_any I rx h hu r u hm
section
variable {X : Cx}
theorem op_inA (hu : X.A.units + 1 < cLine) : OpR X (compareOp .In) (rInA X.K false) := by
  intro pins s σ H x y v u Q I rx ry h
  obtain ⟨p, ss, rfl, hq, hx, q⟩ := h
  cases ry
  rcases hq with hq | hq
  · obtain ⟨its, r, pl, hz⟩ := I.list hq
    refine SeqAt.in_listAt (eqA x) pl.isList (fun w hw => eqAt_any I rx hx hu r w (by simpa using hw)) ⟨.bl _, H, I, rfl, ?_⟩
    rw [show its.toArray.any (eqA x) = its.any (eqA x) by simp, any_eqA r]
    exact q
  · obtain ⟨its, r, pl, hz⟩ := I.tuple hq
    refine SeqAt.in_tupleAt (eqA x) pl (fun w hw => eqAt_any I rx hx hu r w (by simpa using hw)) ⟨.bl _, H, I, rfl, ?_⟩
    rw [show its.toArray.any (eqA x) = its.any (eqA x) by simp, any_eqA r]
    exact q
theorem op_notInA (hu : X.A.units + 1 < cLine) : OpR X (compareOp .NotIn) (rInA X.K true) := by
  intro pins s σ H x y v u Q I rx ry h
  obtain ⟨p, ss, rfl, hq, hx, q⟩ := h
  cases ry
  rcases hq with hq | hq
  · obtain ⟨its, r, pl, hz⟩ := I.list hq
    refine SeqAt.notIn_listAt (eqA x) pl.isList (fun w hw => eqAt_any I rx hx hu r w (by simpa using hw)) ⟨.bl _, H, I, rfl, ?_⟩
    rw [show its.toArray.any (eqA x) = its.any (eqA x) by simp, any_eqA r]
    exact q
  · obtain ⟨its, r, pl, hz⟩ := I.tuple hq
    refine SeqAt.notIn_tupleAt (eqA x) pl (fun w hw => eqAt_any I rx hx hu r w (by simpa using hw)) ⟨.bl _, H, I, rfl, ?_⟩
    rw [show its.toArray.any (eqA x) = its.any (eqA x) by simp, any_eqA r]
    exact q
end
/-! ### == of a list (tuple) and the empty one -/
def rEqE (K : PySem.W.Frag) : R2 := fun x y H Q => ∃ a b xs, x = .ref a ∧ y = .ref b ∧ ((SqL K H a xs ∧ SqL K H b []) ∨ (SqT K H a xs ∧ SqT K H b [])) ∧ Q (.bl xs.isEmpty) H
def rNeE (K : PySem.W.Frag) : R2 := fun x y H Q => ∃ a b xs, x = .ref a ∧ y = .ref b ∧ ((SqL K H a xs ∧ SqL K H b []) ∨ (SqT K H a xs ∧ SqT K H b [])) ∧ Q (.bl (!xs.isEmpty)) H
theorem vals_nil {us : List Value} (r : Vals [] us) : us = [] := by cases r; rfl
theorem vals_isEmpty {xs : List V} {us : List Value} (r : Vals xs us) : us.isEmpty = xs.isEmpty := by cases r <;> rfl
section
variable {X : Cx}
theorem op_eqE (hu : X.A.units + 1 < cLine) : OpR X (compareOp .Eq) (rEqE X.K) := by
  intro pins s σ H x y v u Q I rx ry h
  obtain ⟨a, b, xs, rfl, rfl, hq, q⟩ := h
  cases rx
  cases ry
  have hu0 : X.A.units < cLine := by omega
  rcases hq with ⟨h1, h2⟩ | ⟨h1, h2⟩
  · obtain ⟨its, r, pl, hz⟩ := I.list h1
    obtain ⟨its2, r2, pl2, hz2⟩ := I.list h2
    have e2 := vals_nil r2
    subst e2
    cases xs with
    | nil =>
      have e1 := vals_nil r
      subst e1
      exact SeqAt.eq_listAt (e := fun _ => true) pl.isList pl2.isList rfl hu0 (fun j h1 => absurd h1 (by simp)) ⟨.bl _, H, I, rfl, q⟩
    | cons x xs =>
      cases r with
      | cons r0 rs => exact SeqAt.eq_list_lengthsAt pl.isList pl2.isList (by simp) hu0 ⟨.bl _, H, I, rfl, q⟩
  · obtain ⟨its, r, pl, hz⟩ := I.tuple h1
    obtain ⟨its2, r2, pl2, hz2⟩ := I.tuple h2
    have e2 := vals_nil r2
    subst e2
    refine SeqAt.eq_tupleAt (e := fun _ => true) pl pl2 hu0 (fun j h1 h2 => absurd h2 (by simp)) ⟨.bl xs.isEmpty, H, I, ?_, q⟩
    have e : ((List.range (min its.toArray.size ([] : List Value).toArray.size)).all (fun _ => true) && its.toArray.size == ([] : List Value).toArray.size) = xs.isEmpty := by
      rw [← vals_isEmpty r]
      cases its <;> simp
    rw [e]
    rfl
theorem op_neE (hu : X.A.units + 1 < cLine) : OpR X (compareOp .NotEq) (rNeE X.K) := by
  intro pins s σ H x y v u Q I rx ry h
  obtain ⟨a, b, xs, rfl, rfl, hq, q⟩ := h
  cases rx
  cases ry
  have hu0 : X.A.units < cLine := by omega
  rcases hq with ⟨h1, h2⟩ | ⟨h1, h2⟩
  · obtain ⟨its, r, pl, hz⟩ := I.list h1
    obtain ⟨its2, r2, pl2, hz2⟩ := I.list h2
    have e2 := vals_nil r2
    subst e2
    cases xs with
    | nil =>
      have e1 := vals_nil r
      subst e1
      exact SeqAt.RcNeAt.lists (e := fun _ => true) pl.isList pl2.isList rfl hu0 (fun j h1 => absurd h1 (by simp)) _ _ _ _ ⟨.bl _, H, I, rfl, q⟩
    | cons x xs =>
      cases r with
      | cons r0 rs => exact SeqAt.RcNeAt.lists_lengths pl.isList pl2.isList (by simp) hu0 _ _ _ _ ⟨.bl _, H, I, rfl, q⟩
  · obtain ⟨its, r, pl, hz⟩ := I.tuple h1
    obtain ⟨its2, r2, pl2, hz2⟩ := I.tuple h2
    have e2 := vals_nil r2
    subst e2
    refine SeqAt.RcNeAt.tuples (e := fun _ => true) pl pl2 hu0 (fun j h1 h2 => absurd h2 (by simp)) _ _ _ _ ⟨.bl (!xs.isEmpty), H, I, ?_, q⟩
    have e : ((List.range (min its.toArray.size ([] : List Value).toArray.size)).all (fun _ => true) && its.toArray.size == ([] : List Value).toArray.size) = xs.isEmpty := by
      rw [← vals_isEmpty r]
      cases its <;> simp
    show Value.bool _ = Value.bool _
    first
      | (rw [e])
      | (congr 1; revert e; cases its <;> simp)
end
/-! ### == of data of any depth up to 180 -/
def rEqP (K : PySem.W.Frag) : R2 := fun x y H Q => ∃ d e, Dp K H x d ∧ Dp K H y e ∧ d.plain = true ∧ e.plain = true ∧ d.depth ≤ 190 ∧ Q (.bl (PyData.eqv d e)) H
def rNeP (K : PySem.W.Frag) : R2 := fun x y H Q => ∃ d e, Dp K H x d ∧ Dp K H y e ∧ d.plain = true ∧ e.plain = true ∧ d.depth ≤ 190 ∧ Q (.bl (!PyData.eqv d e)) H
section
variable {X : Cx}
theorem room_eq {k : Nat} {A : Around} (hr : Room k A) : A.units + 200 < cLine := by
  have := hr.un
  omega
theorem op_eqP (hu : X.A.units + 200 < cLine) : OpR X (compareOp .Eq) (rEqP X.K) := by
  intro pins s σ H x y v u Q I rx ry h
  obtain ⟨d, e, hd, he, pd, pe, dd, q⟩ := h
  obtain ⟨as, ra⟩ := Dp.reads I d x v hd rx
  obtain ⟨bs, rb⟩ := Dp.reads I e y u he ry
  exact SeqAt.eq_plain ra rb pd pe (by have := Nat.min_le_left d.depth e.depth; omega) ⟨.bl _, H, I, rfl, q⟩
theorem op_neP (hu : X.A.units + 200 < cLine) : OpR X (compareOp .NotEq) (rNeP X.K) := by
  intro pins s σ H x y v u Q I rx ry h
  obtain ⟨d, e, hd, he, pd, pe, dd, q⟩ := h
  obtain ⟨as, ra⟩ := Dp.reads I d x v hd rx
  obtain ⟨bs, rb⟩ := Dp.reads I e y u he ry
  exact SeqAt.ne_plain ra rb pd pe (by have := Nat.min_le_left d.depth e.depth; omega) ⟨.bl _, H, I, rfl, q⟩
end
/-! ### the head's facts, with a test of one's own -/
abbrev AlX : Type := Bool × He.AlD
def obsX (chk : PySem.W.Frag → Bool) (fa : List He.Fa) (fn : List He.DefD) (K : PySem.W.Frag) : AlX := (chk K, He.obsD fa fn K)
def valX (fn : List He.DefD) : AlX := (true, He.valD fn)
def SaysX (chk : PySem.W.Frag → Bool) (fa : List He.Fa) (fn : List He.DefD) (K : PySem.W.Frag) : Prop := obsX chk fa fn K = valX fn
def obsXG (n : Nat) (chk : PySem.W.Frag → Bool) (fa : List He.Fa) (fn : List He.DefD) (g : Addr → Option Obj) : AlX := obsX chk fa fn (He.frG g (He.asD g n))
def hookX (n : Nat) (chk : PySem.W.Frag → Bool) (fa : List He.Fa) (fn : List He.DefD) : PySem.W.Hook where
  α := AlX
  obs := fun s => obsXG n chk fa fn s.heap.get?
  val := fun _ => valX fn
  says := fun _ h => ∃ K : PySem.W.Frag, K.In h ∧ SaysX chk fa fn K
  of := fun _ _ e => ⟨_, He.frG_in, e⟩
  keeps := fun _ _ _ ⟨K, hK, c⟩ k => ⟨K, PySem.W.Frag.In.keeps hK k, c⟩
theorem obsXG_eq {n : Nat} {chk : PySem.W.Frag → Bool} {fa : List He.Fa} {fn : List He.DefD} {g : Addr → Option Obj} {s : Shared} (h : ∀ a, g a = s.heap.get? a) : obsXG n chk fa fn g = (hookX n chk fa fn).obs s := by
  have e : g = s.heap.get? := funext h
  rw [e] <;> rfl
section
variable {chk : PySem.W.Frag → Bool} {fa : List He.Fa} {fn : List He.DefD} {K : PySem.W.Frag}
theorem SaysX.d (c : SaysX chk fa fn K) : He.SaysD fa fn K := congrArg (fun z : AlX => z.2) c
theorem SaysX.test (c : SaysX chk fa fn K) : chk K = true := congrArg (fun z : AlX => z.1) c
end
end Tw

namespace Tw
open PySem PySem.Spec PyProof.Rows L2
/-! ### enumerate(tuple) -/
theorem meets_enumerate_newT (l : Addr) (o : Obj) (items : Array Value) (n : Nat) (hc : o.cls = .type "tuple") (hd : o.data = .seq items n) :
    Meets (Builtin.«enumerate.__new__» ⟨[.type "enumerate", .ref l], []⟩) (fun _ R s => s.heap.get? l = some o ∧
      R (.ok (.ret (.ref (s.heap.push { cls := .type "tuple_iterator", data := .fields #[.ref l, .int 0 0] }).objs.size)))
        { s with heap := (s.heap.push { cls := .type "tuple_iterator", data := .fields #[.ref l, .int 0 0] }).push { cls := .type "enumerate", data := .fields #[.none, .bool false, .ref s.heap.objs.size, rawInt 0, .none, .none] } }) :=
  .of_wp fun prog w A R s h => by
    obtain ⟨hp, g, d, tk, os⟩ := s
    obtain ⟨hl, h⟩ := h
    obtain ⟨c, dd, dt, sl⟩ := o
    simp only at hc hd
    subst hc hd
    have hsub := sub_enumerate
    have hL : Heap.IsTuple (Shared.heap ⟨hp, g, d, tk, os⟩) l items := ⟨_, hl, rfl, n, rfl⟩
    wp_walk using AutoSeq1.wpAny_loadPart' hl
    refine wpAny_stack_any fun st => wpAny_pure ?_
    split
    · rename_i c _ _ _ _ _
      cases (c == Value.type "enumerate")
      · wp_walk using AutoSeq1.wpAny_loadPart' hl, wpAny_pyIter_tuple hL
        exact ⟨_, rfl, h⟩
      · wp_walk using AutoSeq1.wpAny_loadPart' hl, wpAny_pyIter_tuple hL
        exact ⟨_, rfl, h⟩
    · wp_walk using AutoSeq1.wpAny_loadPart' hl, wpAny_pyIter_tuple hL
      exact ⟨_, rfl, h⟩
section
variable {prog : Program} {w : World} {A : Around} {E : Value → Shared → Prop} {s : Shared}
theorem call_enumerate_tuple {l : Addr} {items : Array Value} {Q : Value → Shared → Prop} (hL : s.heap.IsTuple l items)
    (h : ∀ h', IsEnum h' (s.heap.objs.size + 1) s.heap.objs.size 0 .none → h'.IsTupleIter s.heap.objs.size l 0 → h'.objs.size = s.heap.objs.size + 2 →
      (∀ b o, s.heap.get? b = some o → h'.get? b = some o) → Q (.ref (s.heap.objs.size + 1)) { s with heap := h' }) :
    wpAny (model prog w) A (call (.type "enumerate") [.ref l]) Q E s := by
  obtain ⟨o, hl, hc, n, hd⟩ := hL
  refine callType_new F.called_enumerate (by decide) (F.typeCall_enumerate_1 _) (F.newCall_enumerate_1 _) (fun obj => F.args_object_init_2 obj _) F.entry_enumerate_new
    (meets_enumerate_newT l o items n hc hd) ⟨hl, ?_⟩
  have hz : (s.heap.push { cls := .type "tuple_iterator", data := .fields #[.ref l, .int 0 0] }).objs.size = s.heap.objs.size + 1 := Heap.size_push ..
  show _ ∧ _
  rw [hz]
  have he : IsEnum ((s.heap.push { cls := .type "tuple_iterator", data := .fields #[.ref l, .int 0 0] }).push
      { cls := .type "enumerate", data := .fields #[.none, .bool false, .ref s.heap.objs.size, rawInt 0, .none, .none] }) (s.heap.objs.size + 1) s.heap.objs.size 0 .none := by
    have := Heap.get?_push_size (s.heap.push { cls := .type "tuple_iterator", data := .fields #[.ref l, .int 0 0] })
      (o := { cls := .type "enumerate", data := .fields #[.none, .bool false, .ref s.heap.objs.size, rawInt 0, .none, .none] }) rfl
    rw [hz] at this; exact this
  refine ⟨⟨_, he, rfl⟩, h _ he ⟨_, Heap.get?_push_of_some _ (Heap.get?_push_size _ rfl), rfl, rfl⟩ (by rw [Heap.size_push, hz]) fun b o x => Heap.get?_push_of_some _ (Heap.get?_push_of_some _ x)⟩
end
def IteT (K : PySem.W.Frag) (a : Addr) : It :=
  ⟨fun i H => ∃ (xs : List V) (x : V), SqT K H a xs ∧ xs[i]? = some x, fun i H v H' => ∃ T x, v = .ref T ∧ H T = none ∧ H' = upd H T (.tup [.int (i : Nat), x]) ∧ ∀ xs, SqT K H a xs → xs[i]? = some x, fun i H => ∃ xs : List V, SqT K H a xs ∧ xs.length ≤ i⟩
theorem turn_enumT {P : Program} {w : World} {K : PySem.W.Frag} {elts : List Expr} {kk : Nat} {tpos : Pos} (a e it : Addr) :
    Turn P w K (.Tuple elts kk tpos) (IteT K a) [e, it] e (fun i h => (∃ old, IsEnum h e it ((i : Nat) : Int) old) ∧ h.IsTupleIter it a i ∧ e ≠ it) where
  mem := by simp
  obj := fun i h st b hb => by
    obtain ⟨⟨old, he⟩, ⟨o, ho, hc, hd⟩, _⟩ := st
    have e' : b = e ∨ b = it := by simpa using hb
    rcases e' with z | z
    · rw [z]; exact ⟨_, he, fun v q => nomatch q⟩
    · rw [z]; exact ⟨o, ho, fun v q => by rw [hd] at q; cases q⟩
  keep := fun i h h' st k => let ⟨⟨old, he⟩, hi, hne⟩ := st; ⟨⟨old, k e (by simp) _ he⟩, hi.at fun o q => k it (by simp) o q, hne⟩
  item := by
    intro X hP hw hK hc i pins s σ H E I hf st hg
    subst hP hw hK
    obtain ⟨⟨old, he⟩, hit, hne⟩ := st
    obtain ⟨xs, x, hq, hx⟩ := hg
    obtain ⟨its, rv, p, hz⟩ := I.tuple hq
    obtain ⟨u, hu, ru⟩ := rv.get hx
    have hel : e < s.heap.objs.size := Heap.lt_size he
    have hil : it < s.heap.objs.size := by obtain ⟨_, q, _⟩ := hit; exact Heap.lt_size q
    have pT : s.heap.IsTuple a its.toArray := p
    have nai : a ≠ it := by
      rintro rfl
      obtain ⟨o1, h1, c1, _⟩ := hit
      obtain ⟨o2, h2, c2, _⟩ := pT
      rw [h1] at h2
      cases h2
      rw [c1] at c2
      exact absurd c2 (by decide)
    have nae : e ≠ a := by
      rintro rfl
      obtain ⟨o2, h2, c2, _⟩ := pT
      have h1 : s.heap.get? e = some _ := he
      rw [h1] at h2
      cases h2
      exact absurd c2 (by show ¬ Value.type "enumerate" = Value.type "tuple"; decide)
    have hin : i < its.toArray.size := by
      have := (List.getElem?_eq_some_iff.mp hu).1
      rw [List.size_toArray]
      exact this
    have hA : X.A.in1.handled = none := I.ok.hd hc
    refine wpAny_pyNext_enum_itemD (Draws.tuple (prog := X.prog) (w := X.w) (A := X.A.in1) hA it a nai its.toArray) he ⟨hit, pT⟩ hin hne (by simp [hne, nae]) fun x' h' tk hP' ho hit' hT hsz hk => ?_
    have ex : x' = u := by
      have : its.toArray[i]? = some u := by simpa using hu
      rw [this] at hP'
      exact (Option.some.inj hP').symm
    subst ex
    refine ⟨_, rfl, wpAny_letOwnedTupleGo_enum (s := { s with heap := h', toks := tk + 1 }) ho fun h'' he' sb => ?_⟩
    have hT2 : h''.get? s.heap.objs.size = some { cls := .type "tuple", data := .seq #[.int i tk, x'] } := (sb.2 _ (Nat.ne_of_gt hel)).trans hT
    have new : ObjOk X.prog X.w (upd H s.heap.objs.size (.tup [.int (i : Nat), x])) h'' s.heap.objs.size (.tup [.int (i : Nat), x]) :=
      ⟨by show 2 ≤ sizeLine; decide, [.int i tk, x'], .cons ⟨_, rfl⟩ (.cons ru .nil), ⟨_, hT2, rfl, _, rfl⟩⟩
    have I1 : Inv X pins σ (upd H s.heap.objs.size (.tup [.int (i : Nat), x])) { s with heap := h'', toks := tk + 1 } :=
      I.turnedNew (ch := [e, it]) (fun b ob hb q => (sb.2 b (fun z => hb (by simp [z]))).trans (hk b ob (fun z => hb (by simp [z])) (fun z => hb (by simp [z])) q)) hf (Nat.le_refl _) new
    refine ⟨.ref s.heap.objs.size, _, I1, rfl, ⟨_, x, rfl, I.hok.fresh (Nat.le_refl _), rfl, fun ys hy => by rw [I.tuple_inj hy hq]; exact hx⟩, ⟨⟨x', ?_⟩, hit'.1.at fun o q => (sb.2 it (Ne.symm hne)).trans q, hne⟩, fun b hb => ?_⟩
    · have e1 : ((i + 1 : Nat) : Int) = (i : Int) + 1 := by omega
      rw [e1]; exact he'
    · have hb' : b < s.heap.objs.size := by
        have e' : b = e ∨ b = it := by simpa using hb
        rcases e' with z | z
        · rw [z]; exact hel
        · rw [z]; exact hil
      rw [upd_ne (Nat.ne_of_lt hb')]
      exact (hf b hb).1
  done := by
    intro X hP hw hK hc i pins s σ H E I hf st hg
    subst hP hw hK
    obtain ⟨⟨old, he⟩, hit, hne⟩ := st
    obtain ⟨xs, hq, hx⟩ := hg
    obtain ⟨its, rv, p, hz⟩ := I.tuple hq
    obtain ⟨f0, f1, f2, f3, f4, f5⟩ := hf it (by simp)
    have hl := rv.length
    have pT : s.heap.IsTuple a its.toArray := p
    have hT : s.TypeIs (.ref e) "enumerate" := ⟨_, he, rfl⟩
    unfold pyNext
    refine wpAny_bind (wpAny_attempt (wpAny_callSpecial?_slot (name := Str.ofString "__next__") hT F.slot_enumerate_next
      (wpAny_call_entry F.slot_enumerate_next hT F.entry_enumerate_next ?_ (F.args_enumerate_next_1 _))))
    show wpAny _ _ (field (.ref e) 2 >>= _) _ _ _
    refine wpAny_bind (wpAny_field he rfl (x := .ref it) rfl ?_)
    have hA : X.A.in1.handled = none := I.ok.hd hc
    refine wpAny_bind (wpAny_nextOf_tuple_end hA hit pT (by simp; omega) fun h' x he' hx' => ?_)
    obtain ⟨o, ho, hc'⟩ := hx'
    refine wpAny_bind (wpAny_isInstance (T := "StopIteration") (b := true) ⟨o, ho, hc'⟩ isSubtype_stop ?_)
    exact wpAny_pure ⟨rfl, I.turned (t' := s.toks) (fun b o hb q => he' b o hb q) f0 f1 f3 f4 f5⟩
  self := fun A i s Q E st h => let ⟨⟨_, he⟩, _⟩ := st; wpAny_pyIter_enum he h
def iEnumT (K : PySem.W.Frag) (ta : TA) : TI := fun σ H R => ta σ H fun vs H1 => ∃ a xs, vs = [.ref a] ∧ SqT K H1 a xs ∧ R (IteT K a) H1
theorem pi_enumT {X : Cx} {e : Expr} {ta : TA} {p pos tpos : Pos} {elts : List Expr} {kk : Nat} (hg : Gl X "enumerate") (hm : X.mg "enumerate" = none) (ha : PA X [e] ta) (hs : starEach [e] X.env = [(false, eval e X.env)] := by rfl) :
    PI X (.Tuple elts kk tpos) (.Call (.Name "enumerate" p) [e] [] pos) (iEnumT X.K ta) := by
  refine ⟨fun pins s σ H R I h => ?_⟩
  refine Call_ (ld_blt I hg hm boot_enumerate (PyProof.Rows.callWith_type1 (thn (ha.run pos pins s σ H _ I h) fun us s1 ⟨vs, H1, I1, r1, q1⟩ => ?_) hs rfl))
  obtain ⟨a, xs, ex, hq, q⟩ := q1
  subst ex
  cases r1 with
  | cons r rr =>
    cases rr
    cases r
    obtain ⟨its, rv, p', hz⟩ := I1.tuple hq
    refine call_enumerate_tuple (show s1.heap.IsTuple a its.toArray from p') fun h' he hit hsz hk => wpAny_pyIter_enum he ?_
    have I2 : Inv X pins σ H1 { s1 with heap := h' } := I1.kept (t' := s1.toks) hk
    refine ⟨s1.heap.objs.size + 1, [s1.heap.objs.size + 1, s1.heap.objs.size], _, _, H1, rfl, I2, turn_enumT a (s1.heap.objs.size + 1) s1.heap.objs.size, ⟨⟨.none, he⟩, hit, Nat.succ_ne_self _⟩, fun b hb => ?_, q⟩
    have e' : b = s1.heap.objs.size + 1 ∨ b = s1.heap.objs.size := by simpa using hb
    have hle : s1.heap.objs.size ≤ b := by
      rcases e' with z | z
      · rw [z]; exact Nat.le_add_right _ _
      · rw [z]; exact Nat.le_refl _
    exact I1.fpOk hle (I1.hok.fresh hle)
theorem walk_enumT {K : PySem.W.Frag} {a : Addr} {xs : List V} : Walk (IteT K a) xs.length (fun H => SqT K H a xs) (YPair (fun i => some (.int (i : Nat))) (fun i => xs[i]?)) where
  goes := fun i H hi h => ⟨xs, xs[i], h, List.getElem?_eq_getElem hi⟩
  stops := fun H h => ⟨xs, h, Nat.le_refl _⟩
  yields := fun i H v H' hi h ⟨T, x, e1, e2, e3, e4⟩ => ⟨T, _, x, e1, e2, e3, rfl, e4 xs h⟩
/-! ### for a, b in e.items(), the dict made by e itself: it stands locked from then on -/
def iItemsF (td : TE) : TI := fun σ H R => td σ H fun x H1 => ∃ d kvs, x = .ref d ∧ H1 d = some (.dK kvs) ∧ ∀ o, R (Iti d o kvs) (upd H1 d (.frz o (.dK kvs)))
theorem pi_itemsF {X : Cx} {e : Expr} {td : TE} {apos cpos : Pos} {elts : List Expr} {kk : Nat} {tpos : Pos} (he : PE X e td) (hbase : attributeBase e "items" X.env (eval e X.env) = eval e X.env := by rfl) (hline : (apos.endLine == cpos.line) = true := by rfl) :
    PI X (.Tuple elts kk tpos) (.Call (.Attribute e "items" apos) [] [] cpos) (iItemsF td) := by
  refine ⟨fun pins s σ H R I h => ?_⟩
  refine wpAny_Call_method (T := "dict") (id := "dict.items") hbase rfl hline F.plainAttrs_dict F.slot_dict_items F.type_dict_items (thn (he.run pins s σ H _ I h) fun u s1 ⟨x, H1, I1, rx, d, kvs, ex, hd, q⟩ => ?_)
  subst ex
  obtain rfl : u = Value.ref d := rx
  obtain ⟨o, I1⟩ := I1.lock hd trivial
  have hd : (upd H1 d (.frz o (.dK kvs))) d = some (.frz o (.dK kvs)) := upd_same
  replace q := q o
  obtain ⟨hs, hgd, hx, es, ep, vs, hdt, hsz, kv, hm⟩ := I1.frzK hd
  have hl : kvs.length = vs.length := Paired.length kv
  refine ⟨hm.dictOf.typeIs, hm.dictOf.mapOf.noDict, ?_⟩
  have I2 : Inv X pins σ (upd H1 d (.frz o (.dK kvs))) { s1 with heap := s1.heap.push { cls := .type "dict_items", data := .fields #[.ref d] } } := I1.kept (t' := s1.toks) fun b ob q => Heap.get?_push_of_some _ q
  have fin : wpAny (model X.prog X.w) X.A (pyIter (.ref s1.heap.objs.size)) (PIE X pins σ (.Tuple elts kk tpos) R) X.xe { s1 with heap := s1.heap.push { cls := .type "dict_items", data := .fields #[.ref d] } } := by
    refine wpAny_pyIter_items (d := d) (knd := mixKind X.prog X.w) ⟨_, Heap.get?_push_size _ rfl, rfl, rfl⟩ (hm.push _) (pi_one (tk := s1.toks) I2 _ (turn_items _ hdt) ⟨.none, .none, ?_⟩ q)
    rw [hl]
    exact Heap.get?_push_size _ rfl
  show wpAny _ _ (callWith cpos (.builtin "dict.items") [.ref d] [] []) _ X.xe s1
  exact method_meetsIn F.slot_dict_items F.entry_dict_items rfl (PySem.evalArgs_none ⟨rfl, hm.dictOf.typeIs, F.args_dict_items_1 _, _, meets_dict_items (mixKind X.prog X.w) d hs, ⟨vs, hm.dictOf⟩, fin⟩)
/-! ### xs.extend(tuple) -/
theorem list_extend_tup (l : Addr) (items : Array Value) (n : Nat) (b : Addr) (o : Obj) (items2 : Array Value) (n2 : Nat) (hc : o.cls = .type "tuple") (hd : o.data = .seq items2 n2) (hs0 : ¬(!items.isEmpty && Builtin.List.listTooLong (items.size + items2.size)) = true) (hs1 : items.size ≤ sizeLine) (hs2 : items.size + items2.size ≤ sizeLine + 1) :
    Meets (Builtin.«list.extend» ⟨[.ref l, .ref b], []⟩) (fun _ R s => s.heap.get? l = some { cls := .type "list", dict := none, data := .seq items n, slots := #[] } ∧ s.heap.get? b = some o ∧ R (.ok (.ret Value.none)) { s with heap := s.heap.update l (Obj.mapSeq fun x => x ++ items2), toks := s.toks }) :=
  .of_wp fun prog w A R s h => by
    obtain ⟨hp, g, d, tk, os⟩ := s
    obtain ⟨hl, hb, h⟩ := h
    obtain ⟨c, dd, dt, sl⟩ := o
    simp only at hc hd
    subst hc hd
    have f1 := AutoSeq1.idx_int
    have f2 := AutoSeq1.sub_tuple_tuple
    have f3 := AutoSeq1.sub_list_list
    have f4 := AutoSeq1.sub_tuple_list
    have f5 := AutoSeq1.sub_list_tuple
    have hz' : (items ++ items2).size ≤ sizeLine + 1 := by rw [Array.size_append]; exact hs2
    wp_walk using (wpAny_updateSeq hl rfl (hz := hs1) (_hz' := hz')), AutoSeq1.wpAny_loadPart' hl, AutoSeq1.wpAny_loadPart' hb
    exact ⟨_, rfl, h⟩
def rExtendT (K : PySem.W.Frag) : V → List V → Hp → VK → Prop := fun x vs H Q => ∃ l b xs zs, x = .ref l ∧ vs = [.ref b] ∧ H l = some (.lst xs) ∧ SqT K H b zs ∧ xs.length + zs.length ≤ sizeLine ∧ Q .non (upd H l (.lst (xs ++ zs)))
theorem mt_extendT {X : Cx} : MtR X "list.extend" (rExtendT X.K) := by
  intro pins s σ H x vs v us Q I rx rv h
  obtain ⟨l, b, xs, zs, rfl, rfl, hH, hB, hz, q⟩ := h
  cases rx
  obtain ⟨u, rfl, ru⟩ := rv.one
  cases ru
  obtain ⟨z, its, n, r, hl, e⟩ := I.lstM hH
  obtain ⟨its2, r2, ⟨o, ho, hc, n2, hd⟩, hz2⟩ := I.tuple hB
  have hl2 := r2.length
  have hsz : its.toArray.size + its2.toArray.size ≤ sizeLine := by rw [List.size_toArray, List.size_toArray]; omega
  have hlong : ¬ (!its.toArray.isEmpty && Builtin.List.listTooLong (its.toArray.size + its2.toArray.size)) = true := by
    rw [notLongL hsz, Bool.and_false]
    exact Bool.false_ne_true
  refine call_meets F.slot_list_extend ⟨_, e, rfl⟩ F.entry_list_extend (F.args_list_extend_2 _ _)
    (list_extend_tup l its.toArray n b o its2.toArray n2 hc hd hlong (by rw [List.size_toArray]; omega) (by omega)) ⟨e, ho, ?_⟩
  refine ⟨.non, _, I.lset (its' := its ++ its2) hH e (by simp) (r.append r2) ?_, rfl, q⟩
  rw [List.length_append]
  omega
/-! ### t[::-1] -/
theorem adjust_rev (n : Nat) : Builtin.Slice.sliceAdjust none none (-1) (n : Int) = ((n : Int) - 1, -1) := by
  unfold Builtin.Slice.sliceAdjust
  simp
theorem places_rev (n : Nat) : Builtin.Slice.slicePlaces ((n : Int) - 1) (-1) (-1) = n := by
  unfold Builtin.Slice.slicePlaces
  rw [if_neg (by decide)]
  by_cases h : (n : Int) - 1 > -1
  · rw [if_pos h, show (- -1 : Int) = 1 by decide, Int.ediv_one]
    omega
  · rw [if_neg h]
    omega
theorem filterMap_same {α β : Type} {f g : α → Option β} : ∀ {l : List α}, (∀ k ∈ l, f k = g k) → l.filterMap f = l.filterMap g
  | [], _ => rfl
  | k :: r, h => by
    rw [List.filterMap_cons, List.filterMap_cons, h k List.mem_cons_self, filterMap_same fun j hj => h j (List.mem_cons_of_mem _ hj)]
theorem pick_rev (xs : Array Value) : ((List.range xs.size).filterMap fun (k : Nat) => xs[((xs.size : Int) - 1 + (k : Int) * (-1)).toNat]?).toArray = xs.toList.reverse.toArray := by
  have e : (List.range xs.size).filterMap (fun (k : Nat) => xs[((xs.size : Int) - 1 + (k : Int) * (-1)).toNat]?) = ((List.range xs.size).map fun k => xs.size - 1 - k).filterMap (xs[·]?) := by
    rw [List.filterMap_map]
    refine filterMap_same fun k hk => ?_
    have := List.mem_range.mp hk
    have e2 : ((xs.size : Int) - 1 + (k : Int) * (-1)).toNat = xs.size - 1 - k := by omega
    rw [e2]
    rfl
  rw [e, PySem.W.krv_range, List.filterMap_reverse, PySem.W.krv_all]
section
variable {prog : Program} {w : World} {A : Around} {E : Value → Shared → Prop} {s : Shared}
theorem sliceApplied_rev {sl : Addr} {vs : Value} {n : Nat} {Q : Int × Int × Nat → Shared → Prop} (hs : s.heap.IsSliceOf sl .none .none vs) (ps : IsPart vs (some (-1)))
    (h : Q ((n : Int) - 1, -1, n) s) : wpAny (model prog w) A (Builtin.Slice.sliceApplied (.ref sl) (pure (n : Int))) Q E s := by
  obtain ⟨os, hos, hcs, hds⟩ := id hs
  unfold Builtin.Slice.sliceApplied Builtin.Slice.sliceFields
  refine wpAny_bind (wpAny_bind (wpAny_field hos hds (x := .none) rfl (wpAny_bind (wpAny_field hos hds (x := .none) rfl (wpAny_bind (wpAny_field hos hds (x := vs) rfl (wpAny_pure ?_)))))))
  refine wpAny_bind (HT.slicePart_ ps ?_)
  show wpAny _ _ (if ((-1 : Int) == 0) = true then _ else _) _ _ s
  rw [if_neg (by decide)]
  refine wpAny_bind (slicePart_none (wpAny_bind (slicePart_none (wpAny_bind (wpAny_pure ?_)))))
  show wpAny _ _ (match Builtin.Slice.sliceAdjust none none (-1) (n : Int) with | (lo, hi) => pure (lo, (-1 : Int), Builtin.Slice.slicePlaces lo hi (-1))) _ _ s
  rw [adjust_rev n]
  show wpAny _ _ (pure ((n : Int) - 1, (-1 : Int), Builtin.Slice.slicePlaces ((n : Int) - 1) (-1) (-1))) _ _ s
  rw [places_rev]
  exact wpAny_pure h
theorem getItem_tuple_rev {t sl : Addr} {items : Array Value} {vs : Value} {Q : Value → Shared → Prop} (ht : IsTup s.heap t items) (hs : s.heap.IsSliceOf sl .none .none vs) (ps : IsPart vs (some (-1)))
    (h : Q (.ref s.heap.objs.size) { s with heap := s.heap.push { cls := .type "tuple", data := .seq items.toList.reverse.toArray } })
    (hsz : items.size ≤ sizeLine) : wpAny (model prog w) A (getItem (.ref t) (.ref sl)) Q E s := by
  have htake : sizeOk (.seq items.toList.reverse.toArray) := by
    show items.toList.reverse.toArray.size ≤ sizeLine
    rw [List.size_toArray, List.length_reverse, Array.length_toList]
    exact hsz
  obtain ⟨os, hos, hcs, hds⟩ := id hs
  have hTs : s.TypeIs (.ref sl) "slice" := ⟨os, hos, hcs⟩
  unfold getItem
  try with_reducible refine wpAny_holding ?_
  first | refine wpAny_bind (wpAny_pure ?_) | skip
  refine wpAny_bind (wpAny_sequenceKey ht.typeIs (by decide) ?_)
  refine wpAny_bind (wpAny_callSpecial?_slot (name := Str.ofString "__getitem__") ht.typeIs PyProof.Rows.slot_tuple_getitem
    (wpAny_call_entry PyProof.Rows.slot_tuple_getitem ht.typeIs entry_tuple_getitem ?_ (args_tuple_getitem _ _)))
  show wpAny _ _ (Builtin.Tuple.tupleItemsOf (.ref t) >>= _) _ _ s
  refine wpAny_bind (tupleItemsOf_ ht ?_)
  refine wpAny_bind (wpAny_typeOf hTs ?_)
  rw [if_pos (by decide)]
  refine wpAny_bind (sliceApplied_rev hs ps ?_)
  have hno : ¬ (((items.size : Int) - 1 == 0 && (-1 : Int) == 1 && items.size == items.size) = true) := by
    intro q
    rw [Bool.and_eq_true, Bool.and_eq_true] at q
    exact absurd q.1.2 (by decide)
  show wpAny _ _ (if ((items.size : Int) - 1 == 0 && (-1 : Int) == 1 && items.size == items.size) = true then _ else _) _ _ s
  rw [if_neg hno, pick_rev]
  first
    | exact wpAny_bind (m := Builtin.Tuple.tupleExact _) (wpAny_newObj_type (wpAny_pure ⟨_, rfl, wpAny_pure h⟩) htake)
    | exact wpAny_bind (m := Builtin.Tuple.tupleExact _) (wpAny_newObj_type (wpAny_bind (wpAny_pure (wpAny_pure ⟨_, rfl, wpAny_pure h⟩))) htake)
    | exact wpAny_bind (wpAny_bind (m := Builtin.Tuple.tupleExact _) (wpAny_newObj_type (wpAny_pure (wpAny_pure ⟨_, rfl, wpAny_pure h⟩)) htake))
    | exact wpAny_bind (wpAny_bind (m := Builtin.Tuple.tupleExact _) (wpAny_newObj_type (wpAny_pure ⟨_, rfl, wpAny_pure h⟩) htake))
end
def tRevT (K : PySem.W.Frag) (te : TE) : TE := fun σ H Q => te σ H fun x H1 => ∃ a xs, x = .ref a ∧ SqT K H1 a xs ∧ ∀ p, H1 p = none → Q (.ref p) (upd H1 p (.tup xs.reverse))
theorem pe_revT {X : Cx} {e : Expr} {te : TE} {k : Nat} {p1 p2 p3 pos : Pos} (he : PE X e te) : PE X (.Subscript e (.Slice none none (some (.UnaryOp .USub (.Constant (.int 1) k p1) p2)) p3) pos) (tRevT X.K te) := by
  refine ⟨fun pins s σ H Q I h => ?_⟩
  refine Subscript_ (thn (he.run pins s σ H _ I h) fun v s1 ⟨x, H1, I1, r1, q1⟩ => ?_)
  obtain ⟨a, xs, ex, hx, q⟩ := q1
  subst ex
  cases r1
  have hst : PO X (some (.UnaryOp .USub (.Constant (.int 1) k p1) p2)) (tPart (tUn (rU fun i => .int (-i)) (tC (.int 1)))) := po_some (pe_un un_neg pe_int)
  refine wpAny_Slice (thn (po_none.run pins s1 σ H1 (fun o H2 => o = none ∧ H2 = H1) I1 ⟨rfl, rfl⟩) fun vl s2 ⟨l, H2, I2, pl, el, e2⟩ => ?_)
  subst el e2
  refine thn (po_none.run pins s2 σ H2 (fun o H3 => o = none ∧ H3 = H2) I2 ⟨rfl, rfl⟩) fun vu s3 ⟨u, H3, I3, pu, eu, e3⟩ => ?_
  subst eu e3
  refine thn (hst.run pins s3 σ H3 (fun o H4 => o = some (-1) ∧ H4 = H3) I3 ⟨1, rfl, -1, rfl, rfl, rfl⟩) fun vs s4 ⟨o, H4, I4, ps, eo, e4⟩ => ?_
  subst eo e4
  have I5 : Inv X pins σ H4 { s4 with heap := s4.heap.push { cls := .type "slice", data := .fields #[vl, vu, vs] } } := I4.kept (t' := s4.toks) fun b ob q => Heap.get?_push_of_some _ q
  obtain ⟨its, r, ht, hz⟩ := I5.tuple hx
  have hlen := r.length
  cases pl
  cases pu
  show wpAny (model X.prog X.w) X.A (subscriptTail e (.Slice none none (some (.UnaryOp .USub (.Constant (.int 1) k p1) p2)) p3) (.ref a) (.ref s4.heap.objs.size)) (EP X pins σ Q) X.xe { s4 with heap := s4.heap.push { cls := .type "slice", data := .fields #[.none, .none, vs] } }
  refine tail_any (ops := [.ref a, .ref s4.heap.objs.size]) ht.typeIs (PyProof.Rows.slot_tuple_getitem.lookup) ?_ (by with_unfolding_all rfl)
  refine getItem_tuple_rev ht (Heap.IsSliceOf.new _ .none .none vs) ps ?_ (by rw [List.size_toArray]; omega)
  refine ⟨.ref _, _, I5.laid (t' := s4.toks) (o := .tup xs.reverse) (fun b ob q => Heap.get?_push_of_some _ q) (Nat.le_refl _) ?_, rfl, q _ (I5.hok.fresh (Nat.le_refl _))⟩
  exact ⟨by rw [List.length_reverse]; exact hz, _, r.reverse, _, Heap.get?_push_size _ rfl, rfl, _, rfl⟩
end Tw

namespace Tw
open PySem PySem.Spec PyProof.Rows L2
/-! ### defs that are called while no repr is under way -/
/-- room, and nothing under way -/
structure Rm (k : Nat) (A : Around) : Prop where
  rm : Room k A
  gd : A.guards = some []
theorem Rm.mono {j k : Nat} {A : Around} (r : Rm k A) (h : j ≤ k) : Rm j A := ⟨r.rm.mono h, r.gd⟩
theorem Rm.deep {k : Nat} {A : Around} (r : Rm (k + 1) A) (env : Env) : Rm k (A.deeper env) := ⟨r.rm.deeper env, r.gd⟩
structure FnG (P : Program) (w : World) (K : PySem.W.Frag) (mg : Str → Option Value) (base : Heap) (CX : CXT) (k : Nat) (f : Addr) (fd : FuncData) (ps : List Str) (sp : Sp) : Prop where
  ln : ∀ vs H Q E, sp vs H Q E → vs.length = ps.length
  go : ∀ (A : Around) (outer : List Env) (s : Shared) (H : Hp) (args : Args) (us : List Value) (vs : List V) (Q : VK) (E : XK), Rm k A → Env0 P w K mg base A outer s H → BindsTo s fd args (ps.zip us) → Vals vs us → sp vs H Q E →
    codeAny (model P w) A (.call (.ref f) args) (CR CX outer P w H s Q E) s
section
variable {P : Program} {w : World} {K : PySem.W.Frag} {mg : Str → Option Value} {base : Heap} {CX : CXT} {k : Nat} {f : Addr} {fd : FuncData} {N ps : List Str} {sp : Sp}
theorem FnG.mono {j : Nat} (F : FnG P w K mg base CX j f fd ps sp) (h : j ≤ k) : FnG P w K mg base CX k f fd ps sp :=
  ⟨F.ln, fun A outer s H args us vs Q E r => F.go A outer s H args us vs Q E (r.mono h)⟩
theorem FnG.imp {sp' : Sp} (F : FnG P w K mg base CX k f fd ps sp) (h : ∀ vs H Q E, sp' vs H Q E → sp vs H Q E) : FnG P w K mg base CX k f fd ps sp' :=
  ⟨fun vs H Q E q => F.ln vs H Q E (h vs H Q E q), fun A outer s H args us vs Q E r e b v q => F.go A outer s H args us vs Q E r e b v (h vs H Q E q)⟩
theorem fnG_of {name qual : Str} {params : Arguments} {body : List Stmt} {scope : Scope} {dV kV doc pm cdv ct oc : Value} {an od : Option Addr} {osl : Array (Option Value)}
    (lk : K.lookup f = some ⟨oc, od, .func (PySem.W.fnOf name qual params body scope dV kV doc pm an cdv ct), osl⟩) (hcd : PySem.W.codeIn K cdv qual = true) (S : FnScope N ps scope) (ln : ∀ vs H Q E, sp vs H Q E → vs.length = ps.length)
    (hbody : ∀ (A : Around) (outer : List Env) (s : Shared) (H : Hp) (vs : List V) (Q : VK) (E : XK), Rm k (A.deeper (envOfC qual scope s.heap.objs.size f cdv)) → sp vs H Q E →
      ∃ t, PSs (cxOf CX P w K mg base N qual scope f cdv A outer s H E) body t ∧ t { nx := fun _ H' => Q .non H', rt := Q } (start N vs) H) :
    FnG P w K mg base CX (k + 1) f (PySem.W.fnOf name qual params body scope dV kV doc pm an cdv ct) ps sp := by
  constructor
  · exact ln
  intro A outer s H args us vs Q E rm env0 hbind rv hsp
  have vl := ln _ _ _ _ hsp
  have kin : K.In s.heap := env0.mod.kin.keeps fun z y q => (env0.bs z y q).1
  have nol : s.heap.NoLimit := env0.mod.nolimit.keeps fun z y q => (env0.bs z y q).1
  have kinds : ∀ z ∈ ps.zip us, scope.names.lookup z.1 = some .local ∨ (scope.names.lookup z.1 = some .cell ∧ ((cellsFrom (s.heap.objs.size + 1) scope.names []).lookup z.1).isSome = true) := by
    rintro ⟨n, v⟩ hz
    exact (S.par n (List.of_mem_zip hz).1).imp id fun c => ⟨c, PySem.W.cellsFrom_some _ _ _ (.inl c)⟩
  refine codeAny_call_function rm.rm.depth (kin _ _ lk) rfl S.co S.gen rfl (PySem.W.codeRec_of kin hcd) ?_
  refine hbind _ _ _ _ (wpAny_newFunctionEnv_cells S.kind kinds ?_)
  rintro env rfl s1 x
  obtain ⟨t, der, prem⟩ := hbody A outer s H vs Q E (rm.deep _) hsp
  have inv : Inv (cxOf CX P w K mg base N qual scope f cdv A outer s H E) [] (start N vs) H s1 := inv_start S rm.rm.hd env0 vl rv x
  refine ⟨nol.keeps x.toInCall.keep, codeAny_func (wpAny_mono (der.run [] s1 (start N vs) H _ inv prem) ?_ fun _ _ q => q)⟩
  intro fl s' hs
  cases fl with
  | brk => exact absurd hs fun ⟨_, _, _, q⟩ => q
  | cont => exact absurd hs fun ⟨_, _, _, q⟩ => q
  | next =>
    obtain ⟨_, H', J, q⟩ := hs
    exact ⟨V.non, H', J.os, J.bare, J.base, J.hok, rfl, q⟩
  | ret u =>
    obtain ⟨v, _, H', J, rv, q⟩ := hs
    exact ⟨v, H', J.os, J.bare, J.base, J.hok, rv, q⟩
theorem funD_okG {x qual : Str} {params : Arguments} {body : List Stmt} {scope : Scope} (F : FunD K x qual params body scope [] [] f fd) (S : FnScope N ps scope) (ln : ∀ vs H Q E, sp vs H Q E → vs.length = ps.length)
    (hbody : ∀ (cdv : Value) (A : Around) (outer : List Env) (s : Shared) (H : Hp) (vs : List V) (Q : VK) (E : XK), Rm k (A.deeper (envOfC qual scope s.heap.objs.size f cdv)) → sp vs H Q E →
      ∃ t, PSs (cxOf CX P w K mg base N qual scope f cdv A outer s H E) body t ∧ t { nx := fun _ H' => Q .non H', rt := Q } (start N vs) H) : FnG P w K mg base CX (k + 1) f fd ps sp := by
  obtain ⟨oc, od, dV, kV, doc, pm, an, cdv, ct, osl, rfl, lk, hcd, _, _⟩ := F.ex
  exact fnG_of lk hcd S ln (hbody cdv)
end
section
variable {X : Cx} {CX : CXT} {k : Nat} {f : Addr} {fd : FuncData} {ps : List Str} {sp : Sp} {E : XK} {x : Str} {p pos : Pos} {e : Expr} {es : List Expr} {t : TA}
theorem run_fnG {pins : List (Addr × Obj)} {σ : L2.St} {H : Hp} {s : Shared} {Q : VK} {us : List Value} {vs : List V} (F : FnG X.prog X.w X.K X.mg X.base CX k f fd ps sp) (hr : Rm k X.A) (hb : Binds X.K fd ps []) (hx : Passes CX X E)
    (I : Inv X pins σ H s) (rv : Vals vs us) (h : sp vs H Q E) : wpAny (model X.prog X.w) X.A (call (.ref f) us) (EP X pins σ Q) X.xe s := by
  have hl : us.length = ps.length := rv.length.symm.trans (F.ln _ _ _ _ h)
  have hb' := hb s us I.kIn (by rw [List.append_nil]; exact hl)
  rw [List.append_nil] at hb'
  refine wpAny_call (codeAny_mono (F.go X.A X.stack s H ⟨us, []⟩ us vs Q E hr I.env0 hb' rv h) ?_)
  intro r s' q
  match r, q with
  | .error e, q => exact hx pins σ H s e s' I q
  | .ok (.ret u), q => exact I.after q
theorem pe_cG (F : FnG X.prog X.w X.K X.mg X.base CX k f fd ps sp) (hr : Rm k X.A) (hg : Gl X x) (hm : X.mg x = some (.ref f)) (hk : PySem.W.keepIn X.K (.ref f) = true) (hb : Binds X.K fd ps []) (hx : Passes CX X E)
    (ha : PA X (e :: es) t) (hdb : (x == ("__debug__" : Str)) = false := by decide) (he : starEach (e :: es) X.env = (false, eval e X.env) :: starEach es X.env := by rfl) (hpl : (backTo pos (starEach es X.env)).any (·.1) = false := by rfl) :
    PE X (.Call (.Name x p) (e :: es) [] pos) (tCall sp [] E t) := by
  constructor
  intro pins s σ H Q I h
  refine wpAny_Call_Name_kw (ld_glob I hg hm (PySem.W.callWith_K (h₀ := X.base) I.ok.mod.kin hk (thn (ha.run pos pins s σ H _ I h) ?_) he hpl) hdb)
  rintro us s1 ⟨vs, H1, I1, r, q⟩
  rw [List.append_nil] at q
  exact ⟨I1.kIn, run_fnG F hr hb hx I1 r q⟩
end
/-! ### the law, called by the claim's caller -/
theorem law_callG {P : Program} {w : World} {K : PySem.W.Frag} {mg mb : Str → Option Value} {CX : CXT} {k : Nat} {fa a : Addr} {fd : FuncData} {x : Str} {sp : Sp} {s₁ : Shared} {vs : List Value} {ns : List Int}
    (kin : K.In s₁.heap) (gns : s₁.heap.Ns mainGlobals mg) (bns : s₁.heap.Ns builtinsNs mb) (bmb : ∀ x : Str, x ≠ "__name__" → mb x = bootBuiltins x) (nol : s₁.heap.NoLimit) (g0 : s₁.gens = #[])
    (ha : s₁.heap.get? a = some { cls := .type "list", data := .seq vs.toArray }) (ia : IntsAre vs ns) (few : ns.length ≤ sizeLine) (rm : Rm k callerA)
    (F : ∀ base : Heap, K.In base → base.Ns mainGlobals mg → FnG P w K mg base CX k fa fd [x] sp) (bnd : ∀ (s : Shared) (u : Value), BindsTo s fd ⟨[u], []⟩ [(x, u)])
    (hsp : ∀ H : Hp, Only H → SqL K H a (ns.map V.int) → sp [.ref a] H (fun v _ => v = .bl true) fun _ _ _ => False) (nox : ∀ H e s', CX [] H s₁ (fun _ _ _ => False) e s' → False) :
    codeAny (model P w) callerA (.call (.ref fa) ⟨[.ref a], []⟩) (fun r s' => r = .ok (.ret (.bool true)) ∧ OldK s₁.heap s'.heap ∧ s'.os = s₁.os ∧ AllBare s'.gens) s₁ := by
  have ia' := vals_ints ia
  have len := ia.length
  have main : ∀ H : Hp, Only H ∧ SqL K H a (ns.map V.int) ∧ HOk P w H s₁.heap ∧ (∀ b, H b ≠ none → b = a ∧ K.lookup a = none) →
      codeAny (model P w) callerA (.call (.ref fa) ⟨[.ref a], []⟩) (fun r s' => r = .ok (.ret (.bool true)) ∧ OldK s₁.heap s'.heap ∧ s'.os = s₁.os ∧ AllBare s'.gens) s₁ := by
    rintro H ⟨hO, hS, hok, hA⟩
    have un : ∀ b, b ≠ a → H b = none := fun b n => Classical.byContradiction fun z => n (hA b z).1
    have keep : ∀ {b : Addr} {o : Obj}, s₁.heap.get? b = some o → b ≠ a ∨ K.lookup a ≠ none → (hidT s₁.heap H).get? b = some o := fun {b o} e z => hidT_get e (by
      rcases z with z | z
      · exact un b z
      · exact Classical.byContradiction fun y => z (hA b y).2)
    have nsk : ∀ {b : Addr} {m : Str → Option Value}, s₁.heap.Ns b m → (hidT s₁.heap H).Ns b m := by
      rintro b m ⟨o, es, ep, e, d, r⟩
      refine ⟨o, es, ep, keep e (.inl ?_), d, r⟩
      rintro rfl
      have z := ha.symm.trans e
      cases z
      cases d
    have kin' : K.In (hidT s₁.heap H) := fun b o e => keep (kin b o e) (by
      by_cases z : b = a
      · subst z
        exact .inr (by rw [e]; simp)
      · exact .inl z)
    obtain ⟨mc, l1, l2⟩ := nol
    have env : Env0 P w K mg (hidT s₁.heap H) callerA [] s₁ H :=
      { frames := rfl, mod := ⟨kin', nsk gns, ⟨mb, nsk bns, bmb⟩, mc, nsk l1, l2⟩, bs := fun b o e => of_hidT e, bsz := Nat.le_of_eq (hidT_size _ _), funs := trivial, frf := (fun b z => nomatch z), hok := hok, bare := .of_eq g0 }
    have run := (F _ kin' (nsk gns)).go callerA [] s₁ H ⟨[.ref a], []⟩ [.ref a] [.ref a] _ _ rm env (bnd s₁ (.ref a)) (.cons rfl .nil) (hsp H hO hS)
    refine codeAny_mono run ?_
    intro r s' q
    match r, q with
    | .error e, q => exact (nox H e s' q).elim
    | .ok (.ret u), q =>
      obtain ⟨v, H', os, bare, un', hok', rv, qv⟩ := q
      have qv' : v = .bl true := qv
      subst qv'
      have ru : u = Value.bool true := rv
      subst ru
      refine ⟨rfl, OldK.of_keep ?_, os, bare⟩
      intro b o e
      rcases hO b with z | ⟨ob, xs, z⟩
      · exact un'.keep b o e z (fun y => nomatch y) (fun y => nomatch y)
      · have e1 := (hok b _ z).1
        have e2 := (hok' b _ (un'.frzs b ob _ z)).1
        exact e2.trans (e1.symm.trans e)
  by_cases hk : K.lookup a = none
  · refine main (fun b => if b = a then some (.frz { cls := .type "list", data := .seq vs.toArray } (.lst (ns.map V.int))) else none) ⟨fun b => ?_, .inl (.inr ⟨{ cls := .type "list", data := .seq vs.toArray }, if_pos rfl⟩), fun b u z => ?_, fun b z => ?_⟩
    · by_cases y : b = a
      · exact .inr ⟨_, _, if_pos y⟩
      · exact .inl (if_neg y)
    · by_cases y : b = a
      · subst y
        have z' := (if_pos rfl).symm.trans z
        cases z'
        exact ⟨ha, by rw [List.length_map]; exact few, vs, _, ia', ha⟩
      · exact nomatch ((if_neg y).symm.trans z)
    · by_cases y : b = a
      · exact ⟨y, hk⟩
      · exact absurd (if_neg y) z
  · obtain ⟨o, ho⟩ := Option.ne_none_iff_exists'.mp hk
    have z := ha.symm.trans (kin a o ho)
    cases z
    exact main (fun _ => none) ⟨fun _ => .inl rfl, .inr ⟨_, vs.toArray, _, ho, rfl, rfl, rfl, by rw [List.size_toArray, len]; exact few, by simpa using ia'⟩, (fun b u z => nomatch (show (none : Option HO) = some u from z)), fun b z => absurd rfl z⟩
theorem walk_ofG {l : PySem.W.OpenLaw} {n k : Nat} {q : Program} {loose : List Str} {XP : (Str → Option Value) → Heap → Prop} {YP : World → Heap → Prop} {d : DefRec} {CX : CXT} {x : Str}
    (hn : l.most = some n) (small : n ≤ sizeLine) (nodef : d.params.defaults = []) (rm : Rm k callerA)
    (F : ∀ (w : World) (mg : Str → Option Value) (fa : Addr) (h : Heap), YP w h → h.Ns mainGlobals mg → mg d.name = some (.ref fa) →
      ∃ (K : PySem.W.Frag) (fd : FuncData) (sp : Sp), K.In h ∧ (∀ (s : Shared) (u : Value), BindsTo s fd ⟨[u], []⟩ [(x, u)]) ∧
        (∀ (H : Hp) (a : Addr) (ns : List Int), ns.length ≤ n → Only H → SqL K H a (ns.map V.int) → sp [.ref a] H (fun v _ => v = .bl true) fun _ _ _ => False) ∧
        ∀ base : Heap, K.In base → base.Ns mainGlobals mg → FnG l.prog w K mg base CX k fa fd [x] sp)
    (nox : ∀ (H : Hp) (s : Shared) (e : Value) (s' : Shared), CX [] H s (fun _ _ _ => False) e s' → False) :
    PySem.W.WalkO q loose XP YP l.row.toRowW d [] (fun f vs => PySem.call f vs) := by
  refine Att.attach_call hn nodef ?_
  intro w s₀ s₁ mg mb fa o pm cd doc a vs ns G Y ho hd hcd hmg hobj hints hlen hg
  obtain ⟨K, fd, sp, kin, bnd, hsp, hF⟩ := F w mg fa _ Y G.T.g hmg
  exact law_callG kin G.T.g G.T.b G.T.builtins G.T.nolimit hg hobj hints (Nat.le_trans hlen small) rm hF bnd (fun H hO hS => hsp H a ns hlen hO hS) fun H e s' => nox H s₁ e s'
end Tw

namespace Tw
open PySem PySem.Spec PyProof.Rows L2
/-! ### repr of data -/
mutual
/-- what the text of data may come to -/
def costD : PyData → Nat
  | .none => 4
  | .bool _ => 5
  | .int _ => 1921
  | .str x => (reprText x).length
  | .list xs => costAll xs + 5
  | .tuple xs => costAll xs + 5
  | .dict _ => 0
def costAll : List PyData → Nat
  | [] => 0
  | x :: xs => costD x + 2 + costAll xs
end
mutual
theorem shown_le : ∀ d : PyData, d.showable = true → d.hasDict = false → d.shown.length ≤ costD d
  | .none, _, _ => by
    show (("None" : String) : Str).length ≤ 4
    decide +kernel
  | .bool true, _, _ => by
    show (("True" : String) : Str).length ≤ 5
    decide +kernel
  | .bool false, _, _ => by
    show (("False" : String) : Str).length ≤ 5
    decide +kernel
  | .int i, h, _ => int_text_len_1921 (of_decide_eq_true h)
  | .str x, _, _ => Nat.le_refl _
  | .list xs, h, n => by
    have q := shownAll_le xs h n
    show (listText (PyData.shownAll xs)).length ≤ costAll xs + 5
    have l := listText_len_le (PyData.shownAll xs)
    omega
  | .tuple xs, h, n => by
    have q := shownAll_le xs h n
    show (tupleText (PyData.shownAll xs)).length ≤ costAll xs + 5
    have l := fmt_text (PyData.shownAll xs)
    have e : piled (PyData.shownAll xs) = ((PyData.shownAll xs).map (·.length)).sum + 2 * (PyData.shownAll xs).length := piled_sum _
    omega
  | .dict _, _, n => nomatch n
theorem shownAll_le : ∀ xs : List PyData, PyData.showableAll xs = true → PyData.hasDictAll xs = false → ((PyData.shownAll xs).map (·.length)).sum + 2 * (PyData.shownAll xs).length ≤ costAll xs
  | [], _, _ => Nat.le_refl _
  | x :: xs, h, n => by
    have h' : (PyData.showable x && PyData.showableAll xs) = true := h
    have n' : (PyData.hasDict x || PyData.hasDictAll xs) = false := n
    rw [Bool.and_eq_true] at h'
    rw [Bool.or_eq_false_iff] at n'
    have q1 := shown_le x h'.1 n'.1
    have q2 := shownAll_le xs h'.2 n'.2
    show ((PyData.shown x :: PyData.shownAll xs).map (·.length)).sum + 2 * (PyData.shown x :: PyData.shownAll xs).length ≤ costD x + 2 + costAll xs
    rw [List.map_cons, List.sum_cons, List.length_cons]
    omega
theorem piled_sum : ∀ ts : List Str, piled ts = (ts.map (·.length)).sum + 2 * ts.length
  | [] => rfl
  | t :: ts => by
    rw [piled_cons, piled_sum ts, List.map_cons, List.sum_cons, List.length_cons]
    omega
end
mutual
theorem dp_nodict {K : PySem.W.Frag} {H : Hp} : ∀ (d : PyData) {x : V}, Dp K H x d → d.hasDict = false
  | .none, _, _ => rfl
  | .bool _, _, _ => rfl
  | .int _, _, _ => rfl
  | .str _, _, _ => rfl
  | .list ds, _, h => by
    cases h with
    | lst _ r => exact dpAll_nodict ds r
  | .tuple ds, _, h => by
    cases h with
    | tup _ r => exact dpAll_nodict ds r
  | .dict _, _, h => by cases h
theorem dpAll_nodict {K : PySem.W.Frag} {H : Hp} : ∀ (ds : List PyData) {xs : List V}, DpAll K H xs ds → PyData.hasDictAll ds = false
  | [], _, _ => rfl
  | d :: ds, _, h => by
    cases h with
    | cons a b =>
      show (PyData.hasDict d || PyData.hasDictAll ds) = false
      rw [dp_nodict d a, dpAll_nodict ds b]
      rfl
end
def rReprP (K : PySem.W.Frag) : List V → Hp → VK → Prop := fun xs H Q => ∃ x d, xs = [x] ∧ Dp K H x d ∧ d.showable = true ∧ d.depth ≤ 150 ∧ costD d ≤ 1000000 ∧ Q (.str d.shown) H
section
variable {X : Cx} {k : Nat}
theorem call_reprP (hr : Rm k X.A) : CallR X (.builtin "repr") (rReprP X.K) := by
  intro pins s σ H xs us Q I r h
  obtain ⟨x, d, rfl, hd, hs, hp, hc, q⟩ := h
  obtain ⟨u, rfl, ru⟩ := vals1 r
  have nd := dp_nodict d hd
  have sz : d.shown.length ≤ sizeLine := by
    have := shown_le d hs nd
    rw [sizeLine_eq]
    omega
  have un := hr.rm.un
  have ref : ∀ a, u = .ref a → wpAny (model X.prog X.w) X.A (call (.builtin "repr") [u]) (EP X pins σ Q) X.xe s := fun a e => by
    subst e
    obtain ⟨as, ra⟩ := Dp.reads I d x (.ref a) hd ru
    exact repr_of_reads' ra hs (fun e => by rw [nd] at e; cases e) hr.gd (by omega) (fun _ _ e => e) (fun h' t tk hk => ⟨.str _, H, I.kept hk, ⟨_, rfl⟩, q⟩) sz
  cases hd with
  | non =>
    obtain rfl : u = .none := ru
    exact PySem.P.repr_of_none ⟨.str _, H, I.tok _, ⟨_, rfl⟩, q⟩
  | bl b =>
    obtain rfl : u = .bool b := ru
    exact PySem.P.repr_of_bool ⟨.str _, H, I.tok _, ⟨_, by cases b <;> rfl⟩, q⟩
  | int i =>
    obtain ⟨t, rfl⟩ := ru
    exact PySem.P.repr_of_int (of_decide_eq_true hs) ⟨.str _, H, I.tok _, ⟨_, rfl⟩, q⟩
  | str z =>
    obtain ⟨t, rfl⟩ := ru
    exact PySem.P.repr_of_str ⟨.str _, H, I.tok _, ⟨_, rfl⟩, q⟩ sz
  | lst _ _ => exact ref _ ru
  | tup _ _ => exact ref _ ru
end
end Tw

namespace Tw
open PySem PySem.Spec PyProof.Rows L2
/-! ### list(d.keys()) -/
def tKeysL (td : TE) : TE := fun σ H Q => td σ H fun x H1 => ∃ d kvs, x = .ref d ∧ H1 d = some (.dK kvs) ∧ ∀ l, H1 l = none → Q (.ref l) (upd H1 l (.lst (kvs.map fun q => kV q.1)))
theorem vals_keys {kvs : List (Key × V)} : ∀ {vs : List Value}, vs.length = kvs.length → (∀ (j : Nat) (v : Value), vs[j]? = some v → ∃ q, kvs[j]? = some q ∧ RelV (kV q.1) v) → Vals (kvs.map fun q => kV q.1) vs := by
  induction kvs with
  | nil =>
    intro vs hl _
    cases vs with
    | nil => exact .nil
    | cons _ _ => cases hl
  | cons q r ih =>
    intro vs hl h
    cases vs with
    | nil => cases hl
    | cons v vs =>
      refine .cons ?_ (ih (by simpa using hl) fun j u hu => by simpa using h (j + 1) u (by simpa using hu))
      obtain ⟨q', e, hr⟩ := h 0 v rfl
      have e' : q = q' := Option.some.inj e
      subst e'
      exact hr
theorem paired_getR {α β : Type} {R : α → β → Prop} : ∀ {xs : List α} {ys : List β} {i : Nat} {y : β}, Paired R xs ys → ys[i]? = some y → ∃ x, xs[i]? = some x ∧ R x y
  | _, _, _, _, .nil, e => by cases e
  | _, _, 0, _, .cons h _, e => ⟨_, rfl, by cases e; exact h⟩
  | _, _, i + 1, _, .cons _ r, e => paired_getR (i := i) r e
section
variable {X : Cx} {e : Expr} {td : TE} {x : Str} {p pos apos cpos : Pos}
theorem pe_listKeys (hc : X.calm = true) (he : PE X e td) (hg : Gl X x) (hm : X.mg x = none) (hv : bootBuiltins x = some (.type "list")) (hn : x ≠ "__name__" := by decide) (hdb : (x == ("__debug__" : Str)) = false := by decide)
    (hst : starEach [.Call (.Attribute e "keys" apos) [] [] cpos] X.env = (false, eval (.Call (.Attribute e "keys" apos) [] [] cpos) X.env) :: starEach [] X.env := by rfl)
    (hbase : attributeBase e "keys" X.env (eval e X.env) = eval e X.env := by rfl) (hline : (apos.endLine == cpos.line) = true := by rfl) :
    PE X (.Call (.Name x p) [.Call (.Attribute e "keys" apos) [] [] cpos] [] pos) (tKeysL td) := by
  constructor
  intro pins s σ H Q I h
  refine wpAny_Call_Name_kw (ld_blt I hg hm hv ?_ hn hdb)
  refine PyProof.Rows.callWith_type1 ?_ hst (by rfl)
  rw [hst]
  show wpAny _ _ (spliced ((false, eval (.Call (.Attribute e "keys" apos) [] [] cpos) X.env) :: backTo pos (starEach [] X.env))) _ _ s
  refine Calls.spliced_cons ?_
  refine wpAny_Call_method (T := "dict") (id := "dict.keys") hbase rfl hline F.plainAttrs_dict F.slot_dict_keys F.type_dict_keys (thn (he.run pins s σ H _ I h) ?_)
  rintro u s1 ⟨y, H1, I1, ru, d, kvs, rfl, hd, q⟩
  have eu : u = Value.ref d := ru
  subst eu
  obtain ⟨z, hs, vs, kv, o', es, ep, ho, hx, hdt, r⟩ := I1.hok d _ hd
  have hD : s1.heap.DictAt (mixKind X.prog X.w) d vs ep := ⟨o', es, ho, hx, hdt, r⟩
  have hl : kvs.length = vs.length := Paired.length kv
  refine ⟨hD.dictOf.typeIs, hD.dictOf.mapOf.noDict, ?_⟩
  have I2 : Inv X pins σ H1 { s1 with heap := s1.heap.push { cls := .type "dict_keys", data := .fields #[.ref d] } } := I1.kept (t' := s1.toks) fun b ob q => Heap.get?_push_of_some _ q
  have fin : wpAny (model X.prog X.w) X.A (call (.type "list") [.ref s1.heap.objs.size]) (EP X pins σ Q) X.xe { s1 with heap := s1.heap.push { cls := .type "dict_keys", data := .fields #[.ref d] } } := by
    refine PySem.W.kdl_call (PySem.W.kdl_keys (knd := mixKind X.prog X.w) (kvs := vs) (ep := ep) (d := d)) (I.ok.hd hc) ⟨⟨_, Heap.get?_push_size _ rfl, rfl, rfl⟩, hD.push _⟩ (by rw [← hl]; exact z) ?_
    intro h' tk acc c' hk hB hit
    have vv : Vals (kvs.map fun q => kV q.1) acc.toList := vals_keys (by rw [Array.length_toList, hl]; exact hit.1) fun j v e => by
      obtain ⟨k, x, hx, hk⟩ := hit.2 j v (by rw [← Array.getElem?_toList]; exact e)
      obtain ⟨q, hq, eq, _⟩ := paired_getR kv hx
      have eq' : q.1 = k := eq
      exact ⟨q, hq, by rw [eq']; exact relV_key hk⟩
    refine ⟨.ref _, _, I2.laid (t' := tk) (a := (s1.heap.push { cls := .type "dict_keys", data := .fields #[.ref d] }).objs.size) hk (Nat.le_refl _) (show ObjOk X.prog X.w _ h' _ (.lst (kvs.map fun q => kV q.1)) from ⟨by rw [List.length_map]; exact z, acc.toList, c', vv, by rw [hB] <;> simp⟩), rfl, q _ ?_⟩
    exact I2.hok.fresh (Nat.le_refl _)
  show wpAny _ _ (callWith cpos (.builtin "dict.keys") [.ref d] [] []) _ X.xe s1
  exact method_meetsIn F.slot_dict_keys F.entry_dict_keys rfl (PySem.evalArgs_none ⟨rfl, hD.dictOf.typeIs, F.args_dict_keys_1 _, _, PySem.W.kdl_meets_keys (mixKind X.prog X.w) d hs, ⟨vs, hD.dictOf⟩, Calls.spliced_nil fin⟩)
end
end Tw


namespace Tw
open PySem PySem.Spec PyProof.Rows L2
/-! ### heaps: all but d is as it was -/
def Kp (d : Addr) (H H' : Hp) : Prop := ∀ b o, b ≠ d → H b = some o → H' b = some o
theorem Kp.refl (d : Addr) (H : Hp) : Kp d H H := fun _ _ _ h => h
theorem Kp.trans {d : Addr} {H H1 H2 : Hp} (a : Kp d H H1) (b : Kp d H1 H2) : Kp d H H2 := fun c o n h => b c o n (a c o n h)
theorem Kp.at {d : Addr} {H : Hp} {o : HO} : Kp d H (upd H d o) := fun b x n h => by
  rw [upd_ne n]
  exact h
theorem same_new {H : Hp} {p : Addr} {o : HO} (h : H p = none) : Same H (upd H p o) := fun b x e => by
  rw [upd_ne (ne_of_none e h)]
  exact e
theorem Kp.of {d : Addr} {H H' : Hp} (s : Same H H') : Kp d H H' := fun b o _ h => s b o h
theorem Kp.new {d : Addr} {H : Hp} {p : Addr} {o : HO} (h : H p = none) : Kp d H (upd H p o) := .of (same_new h)
theorem Rd.keep {H H' : Hp} {a : Addr} {u : HO} (k : ∀ o, H a = some o → H' a = some o) (h : Rd H a u) : Rd H' a u := by
  rcases h with h | ⟨o, h⟩
  · exact .inl (k _ h)
  · exact .inr ⟨o, k _ h⟩
theorem Kp.sqL {K : PySem.W.Frag} {d a : Addr} {H H' : Hp} {xs : List V} (k : Kp d H H') (n : a ≠ d) (h : SqL K H a xs) : SqL K H' a xs := by
  rcases h with h | h
  · exact .inl (Rd.keep (fun o => k a o n) h)
  · exact .inr h
theorem Same.sqT {K : PySem.W.Frag} {a : Addr} {H H' : Hp} {xs : List V} (k : Same H H') (h : SqT K H a xs) : SqT K H' a xs := by
  rcases h with h | h
  · exact .inl (Rd.keep (fun o => k a o) h)
  · exact .inr h
/-- the deck: a list of three ints -/
def Dk (H : Hp) (d : Addr) : Prop := ∃ g m c : Int, H d = some (.lst [.int g, .int m, .int c])
theorem Dk.ne {H : Hp} {d p : Addr} (k : Dk H d) (h : H p = none) : p ≠ d := by
  obtain ⟨_, _, _, e⟩ := k
  intro z
  rw [z, e] at h
  cases h
theorem Dk.same {H H' : Hp} {d : Addr} (k : Dk H d) (s : Same H H') : Dk H' d := by
  obtain ⟨g, m, c, e⟩ := k
  exact ⟨g, m, c, s _ _ e⟩
theorem Dk.new {H : Hp} {d p : Addr} {o : HO} (k : Dk H d) (h : H p = none) : Dk (upd H p o) d := k.same (same_new h)
theorem Dk.upd {H : Hp} {d p : Addr} {o : HO} (k : Dk H d) (h : p ≠ d) : Dk (L2.upd H p o) d := by
  obtain ⟨g, m, c, e⟩ := k
  exact ⟨g, m, c, (upd_ne h.symm).trans e⟩
theorem Kp.sqT {K : PySem.W.Frag} {d a : Addr} {H H' : Hp} {xs : List V} (k : Kp d H H') (n : Dk H d) (h : SqT K H a xs) : SqT K H' a xs := by
  rcases h with h | h
  · refine .inl (Rd.keep (fun o e => k a o ?_ e) h)
    rintro rfl
    obtain ⟨g, m, c, e⟩ := n
    rcases h with h | ⟨o, h⟩
    · rw [h] at e; cases e
    · rw [h] at e; cases e
  · exact .inr h
/-- a new object made, all but d kept before -/
theorem Kp.then_new {d p : Addr} {H H' : Hp} {o : HO} (k : Kp d H H') (h : H' p = none) : Kp d H (upd H' p o) := k.trans (.new h)
/-- a change at a place that was free ahead -/
theorem Kp.then_at {d p : Addr} {H H' : Hp} {o : HO} (k : Kp d H H') (h : H p = none) : Kp d H (upd H' p o) := fun b x n e => by
  rw [upd_ne (ne_of_none e h)]
  exact k b x n e
theorem Kp.free {d p : Addr} {H H' : Hp} (k : Kp d H H') (n : p ≠ d) (h : H' p = none) : H p = none := by
  cases e : H p with
  | none => rfl
  | some o =>
    rw [k p o n e] at h
    cases h
theorem big {n : Nat} (h : n ≤ 100000) : n ≤ sizeLine := by
  rw [PySem.sizeLine_eq]
  omega
theorem big' {n : Nat} (h : n ≤ 100000) : n < sizeLine := by
  rw [PySem.sizeLine_eq]
  omega
theorem atI_of {α : Type} {xs : List α} {i : Int} (h0 : 0 ≤ i) (h1 : i < xs.length) : ∃ v, atI xs i = some v ∧ v ∈ xs := by
  obtain ⟨j, rfl⟩ : ∃ j : Nat, i = j := ⟨i.toNat, by omega⟩
  have hj : j < xs.length := by omega
  exact ⟨xs[j], atI_nat (List.getElem?_eq_getElem hj), List.getElem_mem hj⟩
theorem cut_map {α : Type} (f : α → V) (xs : List α) (lo hi : Option Int) : ∃ ys : List α, cutV (xs.map f) lo hi = ys.map f ∧ ys.length ≤ xs.length ∧ ∀ y ∈ ys, y ∈ xs := by
  unfold cutV
  refine ⟨(xs.drop (HT.sIx (xs.map f).length 0 lo)).take (HT.sIx (xs.map f).length (xs.map f).length hi - HT.sIx (xs.map f).length 0 lo), ?_, ?_, ?_⟩
  · rw [List.map_take, List.map_drop]
  · rw [List.length_take, List.length_drop]
    omega
  · intro y hy
    exact List.mem_of_mem_drop (List.mem_of_mem_take hy)
/-- two blocks, by what holds between them -/
theorem seq_by {t u : TS} {D : Ends} {σ : L2.St} {H : Hp} (J : L2.St → Hp → Prop) (h2 : ∀ σ' H', J σ' H' → u D σ' H') (h1 : (∀ σ' H', J σ' H' → u D σ' H') → t { D with nx := u D } σ H) : tSeq t u D σ H := h1 h2
/-- .. where d was free -/
theorem Kp.sqL0 {K : PySem.W.Frag} {d a : Addr} {H H' : Hp} {xs : List V} (k : Kp d H H') (n : H d = none) (h : SqL K H a xs) : SqL K H' a xs := by
  rcases h with h | h
  · refine .inl (Rd.keep (fun o e => k a o ?_ e) h)
    rintro rfl
    rw [n] at e
    cases e
  · exact .inr h

/-- slots of _law_deck: 0 _law_script, 1 _law_great, 2 _law_mixed, 3 _law_cell, 4 _law_more -/
def n_deckL : List Str := ["_law_script", "_law_great", "_law_mixed", "_law_cell", "_law_more"]
def t_deckL (K : PySem.W.Frag) : TS :=
  (tSeq (tPar 1 2 (tCons (tC (.int 0)) (tCons (tOp rAddI (tC (.int 2917)) (tOp rMulI (tC (.int 41)) (tCB (rLenQ K) (tCons (tVar 0) tNil)))) tNil)))
    (tSeq (tFor (iList K (L2.tSl (rSlL K) (tVar 0) tNoPart (tPart (tC (.int 60))))) (gName 3) (tSeq (tAsg (tOp rAddI (tOp rAddI (tOp rMulI (tC (.int 2)) (tCB rAbs (tCons (tVar 3) tNil))) (tCB rInt1 (tCons (tOp rLtI (tVar 3) (tC (.int 0))) tNil))) (tC (.int 1))) (gName 4))
    (tSeq (tAsg (tOp rModI (tCB rInt1 (tCons (tOp rAddI (tOp rMulI (tVar 2) (tC (.int 6364136223846793005))) (tVar 4)) tNil)) (tC (.int 2305843009213693951))) (gName 2))
    (tIfS (tTest (tOp rGeI (tCB rAbs (tCons (tVar 3) tNil)) (tOp rPowI (tC (.int 10)) (tC (.int 18))))) (tAsg (tOp rAddI (tOp rMulI (tVar 1) (tC (.int 37))) (tCB rAbs (tCons (tVar 3) tNil))) (gName 1)) tNext))))
    (tRet (tLst (tCons (tVar 1) (tCons (tVar 2) (tCons (tC (.int 0)) tNil)))))))

/-- a new deck -/
def sp_deckL (K : PySem.W.Frag) : Sp := fun vs H Q _ => ∃ (a : Addr) (ns : List Int), vs = [.ref a] ∧ SqL K H a (ns.map V.int) ∧
  ∀ (H' : Hp) (d : Addr), H d = none → Same H H' → Dk H' d → Q (.ref d) H'
theorem pure_deckL {K : PySem.W.Frag} (vs : List V) (H : Hp) (Q : VK) (E : XK) (h : sp_deckL K vs H Q E) : t_deckL K { nx := fun _ H' => Q .non H', rt := Q } (start n_deckL vs) H := by
  obtain ⟨a, ns, rfl, hS, q⟩ := h
  refine ⟨.ref a, rfl, a, _, rfl, .inl hS, _, _, rfl, rfl, .inl ⟨by decide, by decide⟩, _, _, rfl, rfl, _, _, rfl, ?_⟩
  refine ⟨.ref a, rfl, 60, rfl, a, _, rfl, hS, fun p np => ?_⟩
  obtain ⟨ms, em, _⟩ := cut_map V.int ns none (some 60)
  rw [em]
  refine ⟨p, rfl, ⟨_, .inl (.inl upd_same)⟩, for_list (K := K) (a := p) (xs := ms.map V.int) (fun i σ H' => ∃ (g m : Int) (y3 y4 : Option V), σ = [some (.ref a), some (.int g), some (.int m), y3, y4] ∧ H' = upd H p (.lst (ms.map V.int))) ⟨_, _, none, none, rfl, rfl⟩ (fun i σ H' _ hp => ?_) (fun i x σ H' hx hp => ?_) (fun σ H' hp => ?_)⟩
  · obtain ⟨_, _, _, _, _, rfl⟩ := hp
    exact .inl (.inl upd_same)
  · obtain ⟨g, m, y3, y4, rfl, rfl⟩ := hp
    obtain ⟨z, rfl⟩ : ∃ z, x = V.int z := by
      rw [List.getElem?_map] at hx
      cases e : ms[i]? with
      | none => rw [e] at hx; cases hx
      | some z => rw [e] at hx; exact ⟨z, (Option.some.inj hx).symm⟩
    refine ⟨.int z, rfl, z, rfl, _, _, rfl, rfl, .inl ⟨by decide, by decide⟩, .int z, rfl, _, _, rfl, rfl, .inr ⟨_, rfl, _, _, rfl, rfl, _, _, rfl, rfl, ?_⟩⟩
    refine ⟨.int m, rfl, _, _, rfl, rfl, .inr ⟨by decide, by decide⟩, _, rfl, _, _, rfl, rfl, .inl ⟨_, rfl, _, _, rfl, rfl, (by decide : (0 : Int) < 2305843009213693951), ?_⟩⟩
    refine ⟨.int z, rfl, z, rfl, _, _, rfl, rfl, ⟨by decide, by decide, by decide⟩, _, _, rfl, rfl, _, rfl, ite2 (fun _ => ?_) (fun _ => ?_)⟩
    · exact ⟨.int g, rfl, _, _, rfl, rfl, .inr ⟨by decide, by decide⟩, .int z, rfl, z, rfl, _, _, rfl, rfl, _, _, _, _, rfl, rfl⟩
    · exact ⟨_, _, _, _, rfl, rfl⟩
  · obtain ⟨g, m, y3, y4, rfl, rfl⟩ := hp
    refine ⟨_, rfl, _, rfl, big (by show 3 ≤ 100000; decide), fun d nd => ?_⟩
    have nd2 : H d = none := (same_new np).free nd
    exact q _ d nd2 ((same_new np).trans (same_new nd)) ⟨_, _, _, upd_same⟩

/-- slots of _law_draw: 0 _law_deck_here, 1 _law_many, 2 _law_digit, 3 _law_mixed -/
def n_drawL : List Str := ["_law_deck_here", "_law_many", "_law_digit", "_law_mixed"]
def t_drawL (K : PySem.W.Frag) : TS :=
  (tSeq (tIfS (tTest (tOp rGtI (tOp (rIxL K) (tVar 0) (tC (.int 0))) (tC (.int 0)))) (tSeq (tAsg (tOp rModI (tCB rInt1 (tCons (tOp (rIxL K) (tVar 0) (tC (.int 0))) tNil)) (tVar 1)) (gName 2))
    (tSeq (tAsg (tOp rDivI (tOp (rIxL K) (tVar 0) (tC (.int 0))) (tVar 1)) (gSub (tVar 0) (tC (.int 0)) rSetL))
    (tRet (tVar 2)))) tNext)
    (tSeq (tAsg (tOp rAddI (tOp (rIxL K) (tVar 0) (tC (.int 2))) (tC (.int 1))) (gSub (tVar 0) (tC (.int 2)) rSetL))
    (tSeq (tAsg (tOp rModI (tCB rInt1 (tCons (tOp rAddI (tOp (rIxL K) (tVar 0) (tC (.int 1))) (tOp rMulI (tC (.int 11400714819323198485)) (tOp (rIxL K) (tVar 0) (tC (.int 2))))) tNil)) (tC (.int 18446744073709551557))) (gName 3))
    (tSeq (tAsg (tOp rModI (tCB rInt1 (tCons (tOp rMulI (tVar 3) (tOp rAddI (tOp rModI (tVar 3) (tC (.int 4294967291))) (tC (.int 7)))) tNil)) (tC (.int 2305843009213693951))) (gName 3))
    (tRet (tOp rModI (tOp rDivI (tOp rModI (tCB rInt1 (tCons (tOp rMulI (tVar 3) (tVar 3)) tNil)) (tC (.int 2305843009213693921))) (tC (.int 2048))) (tVar 1)))))))

/-- a number below n -/
def sp_drawL : Sp := fun vs H Q _ => ∃ (d : Addr) (n : Int), vs = [.ref d, .int n] ∧ Dk H d ∧ 0 < n ∧ n < 1073741824 ∧
  ∀ (H' : Hp) (r : Int), 0 ≤ r → r < n → Kp d H H' → Dk H' d → Q (.int r) H'
theorem mod_lt64 (x : Int) : -(2 ^ 64) < x % 18446744073709551557 ∧ x % 18446744073709551557 < 2 ^ 64 := by
  have h1 := Int.emod_nonneg x (by decide : (18446744073709551557 : Int) ≠ 0)
  have h2 := Int.emod_lt_of_pos x (by decide : (0 : Int) < 18446744073709551557)
  constructor <;> omega
theorem mod_lt61 (x : Int) : -(2 ^ 64) < x % 2305843009213693951 ∧ x % 2305843009213693951 < 2 ^ 64 := by
  have h1 := Int.emod_nonneg x (by decide : (2305843009213693951 : Int) ≠ 0)
  have h2 := Int.emod_lt_of_pos x (by decide : (0 : Int) < 2305843009213693951)
  constructor <;> omega
theorem pure_drawL {K : PySem.W.Frag} (vs : List V) (H : Hp) (Q : VK) (E : XK) (h : sp_drawL vs H Q E) : t_drawL K { nx := fun _ H' => Q .non H', rt := Q } (start n_drawL vs) H := by
  obtain ⟨d, n, rfl, ⟨g, m, c, e⟩, n0, n1, q⟩ := h
  have hL : SqL K H d [.int g, .int m, .int c] := .inl (.inl e)
  refine ⟨.ref d, rfl, d, _, 0, .int g, rfl, rfl, hL, rfl, _, _, rfl, rfl, _, rfl, ite2 (fun _ => ?_) (fun _ => ?_)⟩
  · refine ⟨.ref d, rfl, d, _, 0, .int g, rfl, rfl, hL, rfl, .inl ⟨_, rfl, .int n, rfl, _, _, rfl, rfl, n0, ?_⟩⟩
    refine ⟨.ref d, rfl, d, _, 0, .int g, rfl, rfl, hL, rfl, .int n, rfl, _, _, rfl, rfl, ⟨n0, n1⟩, .ref d, rfl, d, _, 0, 0, rfl, rfl, e, rfl, ?_⟩
    refine ⟨_, rfl, q _ _ (Int.emod_nonneg _ (by omega)) (Int.emod_lt_of_pos _ n0) Kp.at ⟨_, _, _, upd_same⟩⟩
  · refine ⟨.ref d, rfl, d, _, 2, .int c, rfl, rfl, hL, rfl, _, _, rfl, rfl, .ref d, rfl, d, _, 2, 2, rfl, rfl, e, rfl, ?_⟩
    have hL2 : SqL K (upd H d (.lst [.int g, .int m, .int (c + 1)])) d [.int g, .int m, .int (c + 1)] := .inl (.inl upd_same)
    refine ⟨.ref d, rfl, d, _, 1, .int m, rfl, rfl, hL2, rfl, .ref d, rfl, d, _, 2, .int (c + 1), rfl, rfl, hL2, rfl, _, _, rfl, rfl, .inl ⟨by decide, by decide⟩, _, _, rfl, rfl, .inl ⟨_, rfl, _, _, rfl, rfl, (by decide : (0 : Int) < 18446744073709551557), ?_⟩⟩
    refine ⟨_, rfl, _, rfl, _, _, rfl, rfl, (by decide : (0 : Int) < 4294967291), _, _, rfl, rfl, _, _, rfl, rfl, .inl (mod_lt64 _), .inl ⟨_, rfl, _, _, rfl, rfl, (by decide : (0 : Int) < 2305843009213693951), ?_⟩⟩
    refine ⟨_, rfl, _, rfl, _, _, rfl, rfl, .inl (mod_lt61 _), .inl ⟨_, rfl, _, _, rfl, rfl, (by decide : (0 : Int) < 2305843009213693921), _, _, rfl, rfl, ⟨by decide, by decide⟩, .int n, rfl, _, _, rfl, rfl, n0, ?_⟩⟩
    exact q _ _ (Int.emod_nonneg _ (by omega)) (Int.emod_lt_of_pos _ n0) Kp.at ⟨_, _, _, upd_same⟩

/-- slots of _law_pick: 0 _law_deck_here, 1 _law_items -/
def n_pickL : List Str := ["_law_deck_here", "_law_items"]
def t_pickL (K : PySem.W.Frag) : TS :=
  (tRet (tOp (rIxL K) (tVar 1) (tCall sp_drawL [] E0 (tCons (tVar 0) (tCons (tCB (rLenQ K) (tCons (tVar 1) tNil)) tNil)))))

/-- one of some items -/
def sp_pickL (K : PySem.W.Frag) : Sp := fun vs H Q _ => ∃ (d l : Addr) (xs : List V), vs = [.ref d, .ref l] ∧ Dk H d ∧ l ≠ d ∧ SqL K H l xs ∧ 0 < xs.length ∧ xs.length < 1073741824 ∧
  ∀ (H' : Hp) (v : V), v ∈ xs → Kp d H H' → Dk H' d → Q v H'
theorem pure_pickL {K : PySem.W.Frag} (vs : List V) (H : Hp) (Q : VK) (E : XK) (h : sp_pickL K vs H Q E) : t_pickL K { nx := fun _ H' => Q .non H', rt := Q } (start n_pickL vs) H := by
  obtain ⟨d, l, xs, rfl, hD, ne, hL, n0, n1, q⟩ := h
  refine ⟨.ref l, rfl, .ref d, rfl, .ref l, rfl, l, xs, rfl, .inl hL, d, xs.length, rfl, hD, by omega, by omega, fun H' r r0 r1 k hD' => ?_⟩
  obtain ⟨v, ev, mv⟩ := atI_of (xs := xs) r0 r1
  exact ⟨l, xs, r, v, rfl, rfl, k.sqL ne hL, ev, q H' v mv k hD'⟩

/-! ### names: one to eight letters -/
def IsLt (c : Nat) : Prop := 97 ≤ c ∧ c ≤ 122
def IsNm (z : Str) : Prop := 1 ≤ (TL.tl z).length ∧ (TL.tl z).length ≤ 8 ∧ ∀ c ∈ TL.tl z, IsLt c
abbrev letters : Str := "abcdefghijklmnopqrstuvwxyz"
theorem letters_get : ∀ k : Nat, k < 26 → (letters.cps.toList)[k]? = some (97 + k) := by decide +kernel
theorem letters_len : letters.length ≤ sizeLine := by
  rw [PySem.sizeLine_eq]
  decide +kernel
theorem letters_at {i : Int} (h0 : 0 ≤ i) (h1 : i < 26) : atI letters.cps.toList i = some (97 + i.toNat) := by
  obtain ⟨j, rfl⟩ : ∃ j : Nat, i = j := ⟨i.toNat, by omega⟩
  exact atI_nat (letters_get j (by omega))
theorem len_tl_le {z : Str} {n : Nat} (h : (TL.tl z).length ≤ n) (hn : n ≤ 100000) : z.length ≤ sizeLine := by
  rw [TL.len_tl]
  exact big (by omega)
/-- texts of one sign each, joined -/
theorem tl_joinE : ∀ ys : List Str, TL.tl (Txt.join "" ys) = (ys.map TL.tl).flatten
  | [] => by
    rw [TL.join_eq]
    rfl
  | [x] => by
    rw [TL.join_eq]
    show TL.tl x = _
    simp
  | x :: y :: r => by
    have ih := tl_joinE (y :: r)
    rw [TL.join_eq] at ih
    rw [TL.join_eq]
    show TL.tl (x ++ ("" : Str) ++ Str.join "" (y :: r)) = _
    rw [TL.tl_append, TL.tl_append, ih]
    have e : TL.tl ("" : Str) = [] := by decide +kernel
    rw [e]
    simp
theorem tl_singles (cs : List Nat) : TL.tl (Txt.join "" (cs.map fun c => (⟨#[c]⟩ : Str))) = cs := by
  rw [tl_joinE]
  induction cs with
  | nil => rfl
  | cons c r ih =>
    rw [List.map_cons, List.map_cons, List.flatten_cons, ih]
    rfl
theorem tl_cutS (z : Str) (lo hi : Option Int) : TL.tl (cutS z lo hi) = ((TL.tl z).drop (HT.sIx (TL.tl z).length 0 lo)).take (HT.sIx (TL.tl z).length (TL.tl z).length hi - HT.sIx (TL.tl z).length 0 lo) := by
  show ((z.cps.toList.drop (HT.sIx z.length 0 lo)).take (HT.sIx z.length z.length hi - HT.sIx z.length 0 lo)).toArray.toList = _
  rw [TL.len_tl]
theorem tl_cut_to (z : Str) (k : Nat) : TL.tl (cutS z none (some (k : Int))) = (TL.tl z).take k := by
  rw [tl_cutS, HT.sIx_none, HT.sIx_nat, List.drop_zero, Nat.sub_zero]
  by_cases h : k ≤ (TL.tl z).length
  · rw [Nat.min_eq_left h]
  · rw [Nat.min_eq_right (by omega), List.take_of_length_le (Nat.le_refl _), List.take_of_length_le (by omega)]
theorem tl_cut_from (z : Str) (k : Nat) : TL.tl (cutS z (some (k : Int)) none) = (TL.tl z).drop k := by
  rw [tl_cutS, HT.sIx_none, HT.sIx_nat]
  by_cases h : k ≤ (TL.tl z).length
  · rw [Nat.min_eq_left h]
    exact List.take_of_length_le (by rw [List.length_drop]; omega)
  · rw [Nat.min_eq_right (by omega), List.drop_of_length_le (Nat.le_refl _), List.drop_of_length_le (by omega)]
    simp
theorem tl_mul (z : Str) (n : Nat) (hn : 2 ≤ n) (hz : 1 ≤ (TL.tl z).length) : TL.tl (Txt.mul z (n : Int)) = (List.replicate n (TL.tl z)).flatten := by
  have h1 : ¬ ((n : Int) < 1) := by omega
  have h2 : ((n : Int) == 1 || z.length == 0) = false := by
    rw [TL.len_tl, Bool.or_eq_false_iff, beq_eq_false_iff_ne, beq_eq_false_iff_ne]
    omega
  unfold Txt.mul
  rw [if_neg h1, h2, if_neg Bool.false_ne_true, Int.toNat_natCast]
  show ((List.replicate n z.cps).foldl (· ++ ·) #[]).toList = _
  have gen : ∀ (m : Nat) (acc : Array Nat), ((List.replicate m z.cps).foldl (· ++ ·) acc).toList = acc.toList ++ (List.replicate m z.cps.toList).flatten := by
    intro m
    induction m with
    | zero => intro acc; simp
    | succ m ih =>
      intro acc
      rw [List.replicate_succ, List.foldl_cons, ih, List.replicate_succ, List.flatten_cons, Array.toList_append, List.append_assoc]
  rw [gen]
  rfl
theorem mulOk_small {z : Str} {n : Nat} (hn : n ≤ 100) (hz : (TL.tl z).length ≤ 100) : MulOk z (n : Int) := by
  have hl : z.length ≤ 100 := by rw [TL.len_tl]; exact hz
  refine ⟨?_, fun h1 h2 => ?_, fun h1 h2 => ?_⟩
  · rw [Bool.or_eq_false_iff, decide_eq_false_iff_not, decide_eq_false_iff_not]
    omega
  · have h3 : 0 < (n : Int) := by omega
    have h4 : (100 : Int) * n ≤ 2 ^ 63 - 1 := by omega
    have h5 : (100 : Int) ≤ (2 ^ 63 - 1) / n := (Int.le_ediv_iff_mul_le h3).mpr h4
    omega
  · have h6 : z.length * (n : Int).toNat ≤ 10000 := by
      rw [Int.toNat_natCast]
      exact Nat.le_trans (Nat.mul_le_mul hl hn) (by decide)
    unfold PySem.Builtin.Str.tooLong
    rw [decide_eq_false_iff_not]
    have := big (n := z.length * (n : Int).toNat) (by omega)
    omega
/-! ### lists without repeats -/
theorem len_le_of_sub {α : Type} [DecidableEq α] : ∀ {l m : List α}, l.Nodup → (∀ x ∈ l, x ∈ m) → l.length ≤ m.length
  | [], _, _, _ => Nat.zero_le _
  | x :: l, m, hn, hs => by
    have hx : x ∈ m := hs x List.mem_cons_self
    obtain ⟨h1, h2⟩ := List.nodup_cons.mp hn
    have ih := len_le_of_sub (l := l) (m := m.erase x) h2 fun y hy => (List.mem_erase_of_ne (fun e => h1 (by rw [← e]; exact hy))).mpr (hs y (List.mem_cons_of_mem _ hy))
    rw [List.length_erase_of_mem hx] at ih
    have : 0 < m.length := List.length_pos_of_mem hx
    rw [List.length_cons]
    omega
def spare (k : Nat) : Str := ⟨#[97 + k / 26, 97 + k % 26]⟩
def spares : List Str := (List.range 676).map spare
theorem spare_inj {a b : Nat} (h : spare a = spare b) : a = b := by
  have e : [97 + a / 26, 97 + a % 26] = [97 + b / 26, 97 + b % 26] := congrArg (fun z : Str => z.cps.toList) h
  injection e with e1 e2
  injection e2 with e3 _
  have h1 := Nat.div_add_mod a 26
  have h2 := Nat.div_add_mod b 26
  omega
theorem spares_len : spares.length = 676 := by
  unfold spares
  rw [List.length_map, List.length_range]
theorem spares_get {k : Nat} (h : k < 676) : spares[k]? = some (spare k) := by
  unfold spares
  rw [List.getElem?_map, List.getElem?_range h]
  rfl
theorem spare_nm {k : Nat} (h : k < 676) : IsNm (spare k) := by
  refine ⟨(by show 1 ≤ 2; decide), (by show 2 ≤ 8; decide), fun c hc => ?_⟩
  have hc' : c ∈ [97 + k / 26, 97 + k % 26] := hc
  have : k / 26 < 26 := by omega
  have : k % 26 < 26 := Nat.mod_lt _ (by decide)
  unfold IsLt
  rcases List.mem_cons.mp hc' with rfl | hc'
  · omega
  · rcases List.mem_cons.mp hc' with rfl | hc'
    · omega
    · cases hc'
theorem used_le {ns : List Str} {n : Nat} (hn : n ≤ 676) (h : ∀ j, j < n → spare j ∈ ns) : n ≤ ns.length := by
  have e : ((List.range n).map spare).length = n := by rw [List.length_map, List.length_range]
  rw [← e]
  refine len_le_of_sub ?_ fun x hx => ?_
  · exact List.pairwise_map.mpr (List.Pairwise.imp (fun hne he => hne (spare_inj he)) List.nodup_range)
  · obtain ⟨j, hj, rfl⟩ := List.mem_map.mp hx
    exact h j (List.mem_range.mp hj)

/-- slots of _law_name: 0 _law_deck_here, 1 _law_letters, 2 _law_k -/
def n_nameL : List Str := ["_law_deck_here", "_law_letters", "_law_k"]
def t_nameL (K : PySem.W.Frag) : TS :=
  (tSeq (tAsg (tC (.str "abcdefghijklmnopqrstuvwxyz")) (gName 1))
    (tRet (tM1 (rJoin K) (tC (.str "")) (tLc (iRng1 (tCons (tOp rAddI (tC (.int 1)) (tCall sp_drawL [] E0 (tCons (tVar 0) (tCons (tC (.int 8)) tNil)))) tNil)) (gName 2) tYes (tOp rIxS (tVar 1) (tCall sp_drawL [] E0 (tCons (tVar 0) (tCons (tC (.int 26)) tNil)))) [2]))))

/-- some name -/
def sp_nameL : Sp := fun vs H Q _ => ∃ d : Addr, vs = [.ref d] ∧ Dk H d ∧ ∀ (H' : Hp) (z : Str), IsNm z → Kp d H H' → Dk H' d → Q (.str z) H'
theorem sum_ones (cs : List Nat) : ((cs.map fun c => (⟨#[c]⟩ : Str)).map (·.length)).sum = cs.length := by
  induction cs with
  | nil => rfl
  | cons c r ih =>
    rw [List.map_cons, List.map_cons, List.sum_cons, ih, List.length_cons]
    show 1 + r.length = r.length + 1
    omega
theorem pure_nameL {K : PySem.W.Frag} (vs : List V) (H : Hp) (Q : VK) (E : XK) (h : sp_nameL vs H Q E) : t_nameL K { nx := fun _ H' => Q .non H', rt := Q } (start n_nameL vs) H := by
  obtain ⟨d, rfl, hD, q⟩ := h
  refine ⟨⟨_, rfl⟩, .ref d, rfl, d, 8, rfl, hD, by decide, by decide, fun H1 r r0 r1 k1 hD1 => ?_⟩
  refine ⟨_, _, rfl, rfl, 1 + r, rfl, by omega, by omega, fun D nD => ?_⟩
  have nDd : D ≠ d := hD1.ne nD
  refine lc_range (lo := 0) (n := (1 + r).toNat) (fun i H' => ∃ cs : List Nat, cs.length = i ∧ (∀ c ∈ cs, IsLt c) ∧ H' D = some (.lst (cs.map fun c => V.str ⟨#[c]⟩)) ∧ Kp d H1 H' ∧ Dk H' d)
    ⟨[], rfl, (fun _ h => nomatch h), upd_same, Kp.new nD, hD1.new nD⟩ (fun i H' hi hp => ?_) (fun H' hp => ?_)
  · obtain ⟨cs, el, hc, eD, kk, hD'⟩ := hp
    refine ⟨rfl, .str letters, rfl, .ref d, rfl, d, 26, rfl, hD', by decide, by decide, fun H2 r2 s0 s1 k2 hD2 => ?_⟩
    refine ⟨letters, r2, 97 + r2.toNat, rfl, rfl, letters_len, letters_at s0 s1, _, k2 D _ nDd eD, ?_, cs ++ [97 + r2.toNat], ?_, ?_, ?_, ?_, ?_⟩
    · rw [List.length_map]
      exact big' (by omega)
    · rw [List.length_append, el]
      rfl
    · intro c hc'
      rcases List.mem_append.mp hc' with h | h
      · exact hc c h
      · rcases List.mem_cons.mp h with rfl | h
        · unfold IsLt
          omega
        · cases h
    · rw [upd_same, List.map_append]
      rfl
    · exact (kk.trans k2).then_at nD
    · exact hD2.upd nDd
  · obtain ⟨cs, el, hc, eD, kk, hD'⟩ := hp
    refine ⟨"", D, cs.map fun c => (⟨#[c]⟩ : Str), rfl, rfl, .inl (.inl (.inl ?_)), ?_, ?_⟩
    · rw [eD, List.map_map]
      rfl
    · rw [sum_ones, List.length_map]
      have e : ("" : Str).length = 0 := by decide +kernel
      rw [e]
      omega
    · refine q H' _ ⟨?_, ?_, ?_⟩ (k1.trans kk) hD'
      · rw [tl_singles]
        omega
      · rw [tl_singles]
        omega
      · rw [tl_singles]
        exact hc

/-- slots of _law_names: 0 _law_deck_here, 1 _law_many, 2 _law_letters, 3 _law_spare, 4 _law_way, 5 _law_base, 6 _law_place, 7 _law_at, 8 _law_names_here, 9 _law_k, 10 _law_kind, 11 _law_name_here -/
def n_namesL : List Str := ["_law_deck_here", "_law_many", "_law_letters", "_law_spare", "_law_way", "_law_base", "_law_place", "_law_at", "_law_names_here", "_law_k", "_law_kind", "_law_name_here"]
def t_namesL (K : PySem.W.Frag) : TS :=
  (tSeq (tAsg (tC (.str "abcdefghijklmnopqrstuvwxyz")) (gName 2))
    (tSeq (tAsg (tLc (iRng1 (tCons (tC (.int 676)) tNil)) (gName 9) tYes (tOp rAddS (tOp rIxS (tVar 2) (tOp rDivI (tVar 9) (tC (.int 26)))) (tOp rIxS (tVar 2) (tOp rModI (tVar 9) (tC (.int 26))))) [9]) (gName 3))
    (tSeq (tPar 4 5 (tCons (tCall sp_drawL [] E0 (tCons (tVar 0) (tCons (tC (.int 4)) tNil))) (tCons (L2.tSl rSlS (tOp rRepS (tCall sp_nameL [] E0 (tCons (tVar 0) tNil)) (tC (.int 8))) tNoPart (tPart (tC (.int 8)))) tNil)))
    (tSeq (tPar3 6 7 8 (tCons (tCall sp_drawL [] E0 (tCons (tVar 0) (tCons (tC (.int 8)) tNil))) (tCons (tC (.int 0)) (tCons (tLst tNil) tNil))))
    (tSeq (tFor (iRng1 (tCons (tVar 1) tNil)) (gName 9) (tSeq (tAsg (tIf (tTest (tOp rEq (tVar 4) (tC (.int 3)))) (tCall sp_drawL [] E0 (tCons (tVar 0) (tCons (tC (.int 3)) tNil))) (tVar 4)) (gName 10))
    (tSeq (tIfS (tTest (tOp rEq (tVar 10) (tC (.int 0)))) (tAsg (tCall sp_nameL [] E0 (tCons (tVar 0) tNil)) (gName 11)) (tIfS (tTest (tOp rEq (tVar 10) (tC (.int 1)))) (tAsg (tOp rAddS (tOp rAddS (L2.tSl rSlS (tVar 5) tNoPart (tPart (tVar 6))) (tOp rIxS (tVar 2) (tCall sp_drawL [] E0 (tCons (tVar 0) (tCons (tC (.int 26)) tNil))))) (L2.tSl rSlS (tVar 5) (tPart (tOp rAddI (tVar 6) (tC (.int 1)))) tNoPart)) (gName 11)) (tAsg (L2.tSl rSlS (tVar 5) tNoPart (tPart (tOp rAddI (tC (.int 1)) (tCall sp_drawL [] E0 (tCons (tVar 0) (tCons (tC (.int 8)) tNil)))))) (gName 11))))
    (tSeq (tWhile (tTest (tOp (rIn K false) (tVar 11) (tVar 8))) (tSeq (tAsg (tOp (rIxL K) (tVar 3) (tVar 7)) (gName 11))
    (tAsg (tOp rAddI (tVar 7) (tC (.int 1))) (gName 7))))
    (tDrop (tBM K "list" rAppend (tVar 8) (tCons (tVar 11) tNil)))))))
    (tRet (tVar 8)))))))

/-- n unlike names, in a new list -/
def sp_namesL : Sp := fun vs H Q _ => ∃ (d : Addr) (n : Nat), vs = [.ref d, .int (n : Int)] ∧ Dk H d ∧ n ≤ 600 ∧
  ∀ (H' : Hp) (l : Addr) (ns : List Str), ns.length = n → ns.Nodup → (∀ z ∈ ns, IsNm z) → H l = none → l ≠ d → H' l = some (.lst (ns.map V.str)) → Kp d H H' → Dk H' d → Q (.ref l) H'
structure NmI (d S L : Addr) (H0 : Hp) (i : Nat) (ns : List Str) (H' : Hp) : Prop where
  len : ns.length = i
  nd : ns.Nodup
  nm : ∀ z ∈ ns, IsNm z
  eL : H' L = some (.lst (ns.map V.str))
  eS : H' S = some (.lst (spares.map V.str))
  dk : Dk H' d
  kp : Kp d H0 H'
theorem NmI.step {d S L : Addr} {H0 : Hp} {i : Nat} {ns : List Str} {H' H2 : Hp} (I : NmI d S L H0 i ns H') (hL : L ≠ d) (hS : S ≠ d) (k : Kp d H' H2) (hD : Dk H2 d) : NmI d S L H0 i ns H2 :=
  ⟨I.len, I.nd, I.nm, k L _ hL I.eL, k S _ hS I.eS, hD, I.kp.trans k⟩
theorem len_rep8 (l : List Nat) : ((List.replicate 8 l).flatten).length = 8 * l.length := by
  rw [List.length_flatten, List.map_replicate]
  simp [List.replicate]
  omega
def slotNat (σ : L2.St) (i : Nat) : Nat := match σ[i]? with
  | some (some (V.int k)) => k.toNat
  | _ => 0
theorem two_signs (a b : Nat) : (⟨#[a]⟩ : Str) ++ ⟨#[b]⟩ = ⟨#[a, b]⟩ := TL.ext_tl (by
  rw [TL.tl_append]
  rfl)
theorem inV_strs (z : Str) (ns : List Str) : inV (.str z) (ns.map V.str) = ns.contains z := by
  unfold inV
  rw [List.any_map]
  induction ns with
  | nil => rfl
  | cons y r ih =>
    rw [List.any_cons, List.contains_cons, ih]
    congr 1
    show (y == z) = (z == y)
    rw [Bool.eq_iff_iff, beq_iff_eq, beq_iff_eq]
    exact eq_comm
theorem flat_strs (ns : List Str) : (ns.map V.str).all flatV = true := by
  rw [List.all_map]
  exact List.all_eq_true.mpr fun _ _ => rfl
theorem nm_sign {a b : List Nat} {c : Nat} {z : Str} (hz : TL.tl z = a ++ [c] ++ b) (hc : IsLt c) (ha : ∀ x ∈ a, IsLt x) (hb : ∀ x ∈ b, IsLt x) (hl : a.length + b.length ≤ 7) : IsNm z := by
  refine ⟨?_, ?_, ?_⟩
  · rw [hz]
    simp
    omega
  · rw [hz]
    simp
    omega
  · rw [hz]
    intro x hx
    rcases List.mem_append.mp hx with h | h
    · rcases List.mem_append.mp h with h | h
      · exact ha x h
      · rcases List.mem_cons.mp h with rfl | h
        · exact hc
        · cases h
    · exact hb x h
theorem pure_namesL {K : PySem.W.Frag} (vs : List V) (H : Hp) (Q : VK) (E : XK) (h : sp_namesL vs H Q E) : t_namesL K { nx := fun _ H' => Q .non H', rt := Q } (start n_namesL vs) H := by
  obtain ⟨d, n, rfl, hD, hn, q⟩ := h
  -- the spare names
  refine ⟨676, rfl, by decide, by decide, fun S nS => ?_⟩
  have hSd : S ≠ d := hD.ne nS
  refine lc_range (lo := 0) (n := (676 : Int).toNat) (fun i H' => H' = upd H S (.lst ((spares.take i).map V.str))) rfl (fun i H' hi hp => ?_) (fun H1 hp => ?_)
  · subst hp
    have h676 : (676 : Int).toNat = 676 := rfl
    have a0 : (0 : Int) ≤ (0 + (i : Int)) / 26 := by omega
    have a1 : (0 + (i : Int)) / 26 < 26 := by omega
    have b0 : (0 : Int) ≤ (0 + (i : Int)) % 26 := by omega
    have b1 : (0 + (i : Int)) % 26 < 26 := by omega
    refine ⟨rfl, .str letters, rfl, .int (0 + i), rfl, _, _, rfl, rfl, ⟨by decide, by decide⟩, letters, _, _, rfl, rfl, letters_len, letters_at a0 a1, .str letters, rfl, .int (0 + i), rfl, _, _, rfl, rfl, (by decide : (0 : Int) < 26), letters, _, _, rfl, rfl, letters_len, letters_at b0 b1, _, _, rfl, rfl, ?_, _, upd_same, ?_, ?_⟩
    · exact big (by show 1 + 1 ≤ 100000; decide)
    · rw [List.length_map, List.length_take]
      exact big' (by rw [spares_len]; omega)
    · have e : spares.take (i + 1) = spares.take i ++ [spare i] := by
        rw [List.take_add_one, spares_get (by omega)]
        rfl
      have e2 : (⟨#[97 + ((0 + (i : Int)) / 26).toNat]⟩ : Str) ++ ⟨#[97 + ((0 + (i : Int)) % 26).toNat]⟩ = spare i := by
        rw [two_signs]
        unfold spare
        have e3 : ((0 + (i : Int)) / 26).toNat = i / 26 := by omega
        have e4 : ((0 + (i : Int)) % 26).toNat = i % 26 := by omega
        rw [e3, e4]
      rw [e, upd_upd, e2, List.map_append]
      rfl
  · have eSp : spares.take (676 : Int).toNat = spares := List.take_of_length_le (by rw [spares_len]; decide)
    rw [eSp] at hp
    have hD1 : Dk H1 d := by rw [hp]; exact hD.new nS
    have k1 : Kp d H H1 := by rw [hp]; exact Kp.new nS
    have eS1 : H1 S = some (.lst (spares.map V.str)) := by rw [hp]; exact upd_same
    -- way, base
    refine ⟨.ref d, rfl, d, 4, rfl, hD1, by decide, by decide, fun H3 way w0 w1 k3 hD3 => ?_⟩
    refine ⟨.ref d, rfl, d, rfl, hD3, fun H4 z0 hz0 k4 hD4 => ?_⟩
    have hz1 : 1 ≤ (TL.tl z0).length := hz0.1
    have hz8 : (TL.tl z0).length ≤ 8 := hz0.2.1
    have em : TL.tl (Txt.mul z0 8) = (List.replicate 8 (TL.tl z0)).flatten := tl_mul z0 8 (by decide) hz1
    have lm : (TL.tl (Txt.mul z0 8)).length = 8 * (TL.tl z0).length := by
      rw [em]
      exact len_rep8 _
    refine ⟨z0, 8, rfl, rfl, mulOk_small (n := 8) (by decide) (by omega), 8, rfl, _, rfl, len_tl_le (n := 64) (by omega) (by decide), _, _, rfl, ?_⟩
    generalize hbs : cutS (Txt.mul z0 8) none (some 8) = bs
    have tb : TL.tl bs = (TL.tl (Txt.mul z0 8)).take 8 := by rw [← hbs]; exact tl_cut_to _ 8
    have lb : (TL.tl bs).length = 8 := by
      rw [tb, List.length_take, lm]
      omega
    have cb : ∀ c ∈ TL.tl bs, IsLt c := fun c hc => by
      rw [tb] at hc
      have hc2 := List.mem_of_mem_take hc
      rw [em] at hc2
      obtain ⟨l, hl, hcl⟩ := List.mem_flatten.mp hc2
      rw [List.eq_of_mem_replicate hl] at hcl
      exact hz0.2.2 c hcl
    have szb : bs.length ≤ sizeLine := len_tl_le (n := 8) (by omega) (by decide)
    -- place, at, names
    refine ⟨.ref d, rfl, d, 8, rfl, hD4, by decide, by decide, fun H5 pl p0 p1 k5 hD5 => ⟨big (by decide), fun L nL => ⟨_, _, _, rfl, ?_⟩⟩⟩
    have hLd : L ≠ d := hD5.ne nL
    have k35 : Kp d H1 H5 := (k3.trans k4).trans k5
    have eS5 : H5 S = some (.lst (spares.map V.str)) := k35 S _ hSd eS1
    have hSL : S ≠ L := ne_of_none eS5 nL
    have nL0 : H L = none := (k1.trans k35).free hLd nL
    refine ⟨.int n, rfl, n, rfl, by omega, by omega, for_range (lo := 0) (n := (n : Int).toNat) (fun i σ H' => ∃ (ns : List Str) (at_ : Nat) (y9 y10 y11 : Option V), σ = [some (.ref d), some (.int n), some (.str letters), some (.ref S), some (.int way), some (.str bs), some (.int pl), some (.int at_), some (.ref L), y9, y10, y11] ∧ NmI d S L H i ns H' ∧ (∀ j, j < at_ → spare j ∈ ns) ∧ at_ ≤ 676) ?_ (fun i σ H' hi hp => ?_) (fun σ H' hp => ?_)⟩
    · refine ⟨[], 0, none, none, none, rfl, ⟨rfl, List.nodup_nil, (fun _ h => nomatch h), upd_same, ?_, hD5.new nL, (k1.trans k35).then_new nL⟩, (fun j h => absurd h (Nat.not_lt_zero _)), by decide⟩
      rw [upd_ne hSL]
      exact eS5
    · obtain ⟨ns, at_, y9, y10, y11, rfl, I, hu, h676⟩ := hp
      have hin : i < n := by
        rw [Int.toNat_natCast] at hi
        exact hi
      have hat : at_ ≤ ns.length := used_le h676 hu
      -- the kind
      refine seq_by (fun σ' H' => ∃ (kd : Int), σ' = [some (.ref d), some (.int n), some (.str letters), some (.ref S), some (.int way), some (.str bs), some (.int pl), some (.int at_), some (.ref L), some (.int (0 + i)), some (.int kd), y11] ∧ NmI d S L H i ns H') (fun σ' H' hJ => ?_) (fun rest => ?_)
      · obtain ⟨kd, rfl, I⟩ := hJ
        -- the name
        refine seq_by (fun σ' H' => ∃ (z : Str), IsNm z ∧ σ' = [some (.ref d), some (.int n), some (.str letters), some (.ref S), some (.int way), some (.str bs), some (.int pl), some (.int at_), some (.ref L), some (.int (0 + i)), some (.int kd), some (.str z)] ∧ NmI d S L H i ns H') (fun σ' H' hJ => ?_) (fun rest => ?_)
        · obtain ⟨z, hz, rfl, I⟩ := hJ
          -- while it stands there
          refine while_by (fun σ' H2 => ∃ (z : Str) (at2 : Nat), IsNm z ∧ σ' = [some (.ref d), some (.int n), some (.str letters), some (.ref S), some (.int way), some (.str bs), some (.int pl), some (.int at2), some (.ref L), some (.int (0 + i)), some (.int kd), some (.str z)] ∧ H2 = H' ∧ at2 ≤ 676 ∧ ∀ j, j < at2 → spare j ∈ ns ∨ spare j = z)
            (fun σ' _ => 676 - slotNat σ' 7) ⟨z, at_, hz, rfl, rfl, h676, fun j hj => .inl (hu j hj)⟩ (fun σ' H2 hp => ?_) (fun σ' H2 Q1 Q2 hm hc => ?_)
          · obtain ⟨z, at2, hz, rfl, rfl, h2, hu2⟩ := hp
            refine ⟨.str z, rfl, .ref L, rfl, L, _, rfl, .inl (.inl (.inl I.eL)), rfl, flat_strs ns, _, rfl, ?_⟩
            show if (if false = true then !inV (.str z) (ns.map V.str) else inV (.str z) (ns.map V.str)) = true then _ else _
            rw [if_neg Bool.false_ne_true, inV_strs]
            by_cases hc : ns.contains z = true
            · rw [if_pos hc]
              have hzm : z ∈ ns := by simpa using hc
              have hu3 : ∀ j, j < at2 → spare j ∈ ns := fun j hj => by
                rcases hu2 j hj with h | h
                · exact h
                · rw [h]; exact hzm
              have ha2 : at2 ≤ ns.length := used_le h2 hu3
              have hl := I.len
              refine ⟨.ref S, rfl, .int at2, rfl, S, _, at2, .str (spare at2), rfl, rfl, .inl (.inl I.eS), atI_nat ?_, .int at2, rfl, _, _, rfl, rfl, ⟨spare at2, at2 + 1, spare_nm (by omega), rfl, rfl, by omega, fun j hj => ?_⟩, ?_⟩
              · rw [List.getElem?_map, spares_get (by omega)]
                rfl
              · by_cases hj2 : j < at2
                · exact .inl (hu3 j hj2)
                · have : j = at2 := by omega
                  subst this
                  exact .inr rfl
              · show 676 - ((at2 : Int) + 1).toNat < 676 - (at2 : Int).toNat
                omega
            · rw [if_neg hc]
              have hzm : z ∉ ns := by simpa using hc
              refine ⟨.ref L, rfl, .inl ⟨rfl, _, .inl (.inl I.eL)⟩, .str z, rfl, L, _, _, rfl, rfl, I.eL, ?_, ns ++ [z], at2, _, _, _, rfl, ⟨?_, ?_, ?_, ?_, ?_, ?_, ?_⟩, ?_, h2⟩
              · rw [List.length_map, I.len]
                exact big' (by omega)
              · rw [List.length_append, I.len]
                rfl
              · rw [List.nodup_append]
                refine ⟨I.nd, List.nodup_cons.mpr ⟨(fun h => nomatch h), List.nodup_nil⟩, fun a ha b hb => ?_⟩
                rcases List.mem_cons.mp hb with rfl | hb
                · exact fun e => hzm (by rw [← e]; exact ha)
                · cases hb
              · intro y hy
                rcases List.mem_append.mp hy with h | h
                · exact I.nm y h
                · rcases List.mem_cons.mp h with rfl | h
                  · exact hz
                  · cases h
              · rw [upd_same, List.map_append]
                rfl
              · rw [upd_ne hSL]
                exact I.eS
              · exact I.dk.upd hLd
              · exact I.kp.then_at nL0
              · intro j hj
                rcases hu2 j hj with h | h
                · exact List.mem_append_left _ h
                · exact List.mem_append_right _ (by rw [h]; exact List.mem_cons_self)
          · obtain ⟨v, e1, v2, e2, p, xs, e3, e4, e5, e6, k, e7, e8⟩ := hc
            exact ⟨v, e1, v2, e2, p, xs, e3, e4, e5, e6, k, e7, hm _ _ e8⟩
        · refine ⟨.int kd, rfl, rfl, _, rfl, ite2 (fun _ => ?_) (fun _ => ?_)⟩
          · exact ⟨.ref d, rfl, d, rfl, I.dk, fun H6 z hz k6 hD6 => rest _ _ ⟨z, hz, rfl, I.step hLd hSd k6 hD6⟩⟩
          · refine ⟨.int kd, rfl, rfl, _, rfl, ite2 (fun _ => ?_) (fun _ => ?_)⟩
            · obtain ⟨pn, rfl⟩ : ∃ pn : Nat, pl = pn := ⟨pl.toNat, by omega⟩
              refine ⟨.str bs, rfl, .int pn, rfl, pn, rfl, _, rfl, szb, .str letters, rfl, .ref d, rfl, d, 26, rfl, I.dk, by decide, by decide, fun H6 r r0 r1 k6 hD6 => ?_⟩
              have t1 : TL.tl (cutS bs none (some (pn : Int))) = (TL.tl bs).take pn := tl_cut_to bs pn
              have t2 : TL.tl (cutS bs (some ((pn : Int) + 1)) none) = (TL.tl bs).drop (pn + 1) := tl_cut_from bs (pn + 1)
              have l1 : ((TL.tl bs).take pn).length = pn := by rw [List.length_take]; omega
              have l2 : ((TL.tl bs).drop (pn + 1)).length = 7 - pn := by rw [List.length_drop]; omega
              refine ⟨letters, r, _, rfl, rfl, letters_len, letters_at r0 r1, _, _, rfl, rfl, ?_, .str bs, rfl, .int pn, rfl, _, _, rfl, rfl, _, rfl, _, rfl, szb, _, _, rfl, rfl, ?_, rest _ _ ⟨_, nm_sign (a := (TL.tl bs).take pn) (b := (TL.tl bs).drop (pn + 1)) (c := 97 + r.toNat) ?_ ?_ ?_ ?_ ?_, rfl, I.step hLd hSd k6 hD6⟩⟩
              · rw [TL.len_tl, TL.len_tl, t1, l1]
                exact big (by show pn + 1 ≤ 100000; omega)
              · rw [TL.len_tl, TL.len_tl, TL.tl_append, t1, t2, List.length_append, l1, l2]
                exact big (by show pn + 1 + (7 - pn) ≤ 100000; omega)
              · rw [TL.tl_append, TL.tl_append, t1, t2]
              · unfold IsLt
                omega
              · exact fun x hx => cb x (List.mem_of_mem_take hx)
              · exact fun x hx => cb x (List.mem_of_mem_drop hx)
              · omega
            · refine ⟨.str bs, rfl, .ref d, rfl, d, 8, rfl, I.dk, by decide, by decide, fun H6 r r0 r1 k6 hD6 => ?_⟩
              obtain ⟨rn, rfl⟩ : ∃ rn : Nat, r = rn := ⟨r.toNat, by omega⟩
              have t1 : TL.tl (cutS bs none (some (1 + (rn : Int)))) = (TL.tl bs).take (1 + rn) := tl_cut_to bs (1 + rn)
              refine ⟨_, _, rfl, rfl, _, rfl, _, rfl, szb, rest _ _ ⟨_, ⟨?_, ?_, ?_⟩, rfl, I.step hLd hSd k6 hD6⟩⟩
              · rw [t1, List.length_take]
                omega
              · rw [t1, List.length_take]
                omega
              · rw [t1]
                exact fun x hx => cb x (List.mem_of_mem_take hx)
      · refine ⟨.int way, rfl, rfl, _, rfl, ite2 (fun _ => ?_) (fun _ => ?_)⟩
        · exact ⟨.ref d, rfl, d, 3, rfl, I.dk, by decide, by decide, fun H6 r r0 r1 k6 hD6 => rest _ _ ⟨r, rfl, I.step hLd hSd k6 hD6⟩⟩
        · exact ⟨.int way, rfl, rest _ _ ⟨way, rfl, I⟩⟩
    · obtain ⟨ns, at_, y9, y10, y11, rfl, I, hu, h676⟩ := hp
      rw [Int.toNat_natCast] at I
      exact ⟨.ref L, rfl, q H' L ns I.len I.nd I.nm nL0 hLd I.eL I.kp I.dk⟩

def wordsS : List Str := ["first", "last", "ahead", "behind", "front", "back", "swap", "turn", "lift", "cut", "pour", "wrap", "put"]
def singleS : List Str := ["front", "back", "lift", "cut"]

/-! ### any value: isinstance, kept -/
theorem tyx_lst {K : PySem.W.Frag} {H : Hp} {a : Addr} {xs : List V} (h : SqL K H a xs) : TyX K H (.ref a) (.type "list") := by
  rcases h with (h | ⟨o, h⟩) | ⟨o, its, n, h, c, _⟩
  · exact .base (.lst h)
  · exact .base (.frz h)
  · exact .kList h c
theorem tyx_tup {K : PySem.W.Frag} {H : Hp} {a : Addr} {xs : List V} (h : SqT K H a xs) : TyX K H (.ref a) (.type "tuple") := by
  rcases h with (h | ⟨o, h⟩) | ⟨o, its, n, h, c, _⟩
  · exact .base (.tup h)
  · exact .fTuple h
  · exact .kTuple h c
def isS : V → Bool
  | .str _ => true
  | _ => false
theorem isi_str {K : PySem.W.Frag} {H : Hp} {x : V} (h : AV K H x) : ∃ t, TyX K H x t ∧ PySem.W.kitOne K t (.type "str") = some (isS x) := by
  cases h with
  | non => exact ⟨_, .base .non, kit_ty (by decide +kernel : kitB "NoneType" "str" = some false)⟩
  | bl b => exact ⟨_, .base (.bl b), kit_ty (by decide +kernel : kitB "bool" "str" = some false)⟩
  | int i => exact ⟨_, .base (.int i), kit_ty (by decide +kernel : kitB "int" "str" = some false)⟩
  | str z _ => exact ⟨_, .base (.str z), kit_ty (by decide +kernel : kitB "str" "str" = some true)⟩
  | lst h => exact ⟨_, tyx_lst h, kit_ty (by decide +kernel : kitB "list" "str" = some false)⟩
  | tup h => exact ⟨_, tyx_tup h, kit_ty (by decide +kernel : kitB "tuple" "str" = some false)⟩
  | dct h => exact ⟨_, .base (.dK h), kit_ty (by decide +kernel : kitB "dict" "str" = some false)⟩
theorem isi_tup {K : PySem.W.Frag} {H : Hp} {x : V} (h : AV K H x) : ∃ t b, TyX K H x t ∧ PySem.W.kitOne K t (.type "tuple") = some b ∧ (b = true → ∃ a xs, x = .ref a ∧ SqT K H a xs) := by
  cases h with
  | non => exact ⟨_, _, .base .non, kit_ty (by decide +kernel : kitB "NoneType" "tuple" = some false), fun z => nomatch z⟩
  | bl b => exact ⟨_, _, .base (.bl b), kit_ty (by decide +kernel : kitB "bool" "tuple" = some false), fun z => nomatch z⟩
  | int i => exact ⟨_, _, .base (.int i), kit_ty (by decide +kernel : kitB "int" "tuple" = some false), fun z => nomatch z⟩
  | str z _ => exact ⟨_, _, .base (.str z), kit_ty (by decide +kernel : kitB "str" "tuple" = some false), fun z => nomatch z⟩
  | lst h => exact ⟨_, _, tyx_lst h, kit_ty (by decide +kernel : kitB "list" "tuple" = some false), fun z => nomatch z⟩
  | tup h => exact ⟨_, _, tyx_tup h, kit_ty (by decide +kernel : kitB "tuple" "tuple" = some true), fun _ => ⟨_, _, rfl, h⟩⟩
  | dct h => exact ⟨_, _, .base (.dK h), kit_ty (by decide +kernel : kitB "dict" "tuple" = some false), fun z => nomatch z⟩
theorem kit_tt {K : PySem.W.Frag} : PySem.W.kitOne K (.type "tuple") (.type "tuple") = some true := kit_ty (by decide +kernel)
theorem kit_nt {K : PySem.W.Frag} : PySem.W.kitOne K (.type "NoneType") (.type "tuple") = some false := kit_ty (by decide +kernel)
theorem AV.same {K : PySem.W.Frag} {H H' : Hp} {x : V} (h : AV K H x) (s : Same H H') : AV K H' x := by
  cases h with
  | non => exact .non
  | bl b => exact .bl b
  | int i => exact .int i
  | str z sz => exact .str z sz
  | lst h => exact .lst (s.seq h)
  | tup h => exact .tup (Same.sqT s h)
  | dct h => exact .dct (s _ _ h)
/-- kept, if it is not the deck itself -/
theorem AV.keep {K : PySem.W.Frag} {H H' : Hp} {d : Addr} {x : V} (h : AV K H x) (n : x ≠ .ref d) (k : Kp d H H') : AV K H' x := by
  have ne : ∀ a, x = .ref a → a ≠ d := fun a e z => n (by rw [e, z])
  cases h with
  | non => exact .non
  | bl b => exact .bl b
  | int i => exact .int i
  | str z sz => exact .str z sz
  | lst h => exact .lst (k.sqL (ne _ rfl) h)
  | tup h =>
    rcases h with h | h
    · exact .tup (.inl (Rd.keep (fun o => k _ o (ne _ rfl)) h))
    · exact .tup (.inr h)
  | dct h => exact .dct (k _ _ (ne _ rfl) h)
/-! ### names, as a test -/
def nmB (z : Str) : Bool := (decide (1 ≤ (TL.tl z).length) && decide ((TL.tl z).length ≤ 8)) && (TL.tl z).all fun c => decide (97 ≤ c) && decide (c ≤ 122)
def nameV : V → Bool
  | .str z => nmB z
  | _ => false
theorem nmB_iff (z : Str) : nmB z = true ↔ IsNm z := by
  unfold nmB IsNm IsLt
  simp only [Bool.and_eq_true, decide_eq_true_eq, List.all_eq_true]
  exact ⟨fun ⟨⟨a, b⟩, c⟩ => ⟨a, b, c⟩, fun ⟨a, b, c⟩ => ⟨⟨a, b⟩, c⟩⟩
theorem letters_mem : ∀ c : Nat, c < 200 → decide (c ∈ letters.cps.toList) = (decide (97 ≤ c) && decide (c ≤ 122)) := by decide +kernel
theorem letters_max : ∀ c ∈ letters.cps.toList, c ≤ 122 := by decide +kernel
theorem letters_in (c : Nat) : decide (c ∈ letters.cps.toList) = (decide (97 ≤ c) && decide (c ≤ 122)) := by
  by_cases h : c < 200
  · exact letters_mem c h
  · have h1 : ¬ c ∈ letters.cps.toList := fun m => by have := letters_max c m; omega
    have h2 : ¬ c ≤ 122 := by omega
    rw [decide_eq_false h1, decide_eq_false h2, Bool.and_false]
theorem TyX.same {K : PySem.W.Frag} {H H' : Hp} {x : V} {t : Value} (h : TyX K H x t) (s : Same H H') : TyX K H' x t := by
  cases h with
  | base b =>
    refine .base ?_
    cases b with
    | non => exact .non
    | bl y => exact .bl y
    | int i => exact .int i
    | str y => exact .str y
    | flt y => exact .flt y
    | lst e => exact .lst (s _ _ e)
    | frz e => exact .frz (s _ _ e)
    | tup e => exact .tup (s _ _ e)
    | dK e => exact .dK (s _ _ e)
    | dT e => exact .dT (s _ _ e)
    | ins e cl ha hn htk hm => exact .ins (s _ _ e) cl ha hn htk hm
  | byt b => exact .byt b
  | set e => exact .set (s _ _ e)
  | kList e c => exact .kList e c
  | kTuple e c => exact .kTuple e c
  | kDict e c => exact .kDict e c
  | fTuple e => exact .fTuple (s _ _ e)
  | fDict e => exact .fDict (s _ _ e)

/-! ### texts in order -/
def leS (a b : Str) : Bool := !ltCps b.cps.toList a.cps.toList
theorem ltCps_irrefl : ∀ a : List Nat, ltCps a a = false
  | [] => rfl
  | a :: r => by
    show (decide (a < a) || (a == a && ltCps r r)) = false
    rw [ltCps_irrefl r]
    simp
theorem ltCps_trans : ∀ a b c : List Nat, ltCps a b = true → ltCps b c = true → ltCps a c = true
  | [], [], c, h, _ => by cases h
  | [], _ :: _, [], _, h => by cases h
  | [], _ :: _, _ :: _, _, _ => rfl
  | _ :: _, [], _, h, _ => by cases h
  | _ :: _, _ :: _, [], _, h => by cases h
  | a :: r, b :: t, c :: u, h1, h2 => by
    have h1' : (decide (a < b) || (a == b && ltCps r t)) = true := h1
    have h2' : (decide (b < c) || (b == c && ltCps t u)) = true := h2
    show (decide (a < c) || (a == c && ltCps r u)) = true
    simp only [Bool.or_eq_true, Bool.and_eq_true, decide_eq_true_eq, beq_iff_eq] at h1' h2' ⊢
    rcases h1' with x | ⟨x, y⟩
    · rcases h2' with z | ⟨z, v⟩
      · exact .inl (by omega)
      · exact .inl (by omega)
    · rcases h2' with z | ⟨z, v⟩
      · exact .inl (by omega)
      · exact .inr ⟨by omega, ltCps_trans r t u y v⟩
theorem ltCps_tri : ∀ a b : List Nat, ltCps a b = false → ltCps b a = false → a = b
  | [], [], _, _ => rfl
  | [], _ :: _, h, _ => by cases h
  | _ :: _, [], _, h => by cases h
  | a :: r, b :: t, h1, h2 => by
    have h1' : (decide (a < b) || (a == b && ltCps r t)) = false := h1
    have h2' : (decide (b < a) || (b == a && ltCps t r)) = false := h2
    simp only [Bool.or_eq_false_iff, decide_eq_false_iff_not, Bool.and_eq_false_iff, beq_eq_false_iff_ne] at h1' h2'
    have e : a = b := by omega
    subst e
    rcases h1'.2 with h | h
    · exact absurd rfl h
    · rcases h2'.2 with h' | h'
      · exact absurd rfl h'
      · rw [ltCps_tri r t h h']
theorem leS_trans (a b c : Str) (h1 : leS a b = true) (h2 : leS b c = true) : leS a c = true := by
  unfold leS at *
  simp only [Bool.not_eq_true'] at *
  cases h : ltCps c.cps.toList a.cps.toList with
  | false => rfl
  | true =>
    cases hb : ltCps a.cps.toList b.cps.toList with
    | true =>
      rw [ltCps_trans _ _ _ h hb] at h2
      cases h2
    | false =>
      have e := ltCps_tri _ _ hb h1
      rw [e] at h
      rw [h] at h2
      cases h2
theorem leS_total (a b : Str) : (leS a b || leS b a) = true := by
  unfold leS
  cases h : ltCps b.cps.toList a.cps.toList with
  | false => rfl
  | true =>
    cases h2 : ltCps a.cps.toList b.cps.toList with
    | false => rfl
    | true =>
      have := ltCps_trans _ _ _ h h2
      rw [ltCps_irrefl] at this
      cases this
theorem leS_anti (a b : Str) (h1 : leS a b = true) (h2 : leS b a = true) : a = b := by
  unfold leS at *
  simp only [Bool.not_eq_true'] at *
  exact TL.ext_tl (ltCps_tri _ _ h2 h1)
def srtS (l : List Str) : List Str := l.mergeSort leS
theorem rising_pw : ∀ (p : Str) (l : List Str), risingS p l = true → (p :: l).Pairwise (fun a b => leS a b = true)
  | p, [], _ => List.pairwise_singleton _ _
  | p, x :: r, h => by
    have h' : (!ltCps x.cps.toList p.cps.toList && risingS x r) = true := h
    rw [Bool.and_eq_true] at h'
    have ih := rising_pw x r h'.2
    refine List.pairwise_cons.mpr ⟨fun y hy => ?_, ih⟩
    rcases List.mem_cons.mp hy with rfl | hy
    · exact h'.1
    · exact leS_trans _ _ _ h'.1 ((List.pairwise_cons.mp ih).1 y hy)
theorem sortedS_pw : ∀ l : List Str, sortedS l = true → l.Pairwise (fun a b => leS a b = true)
  | [], _ => List.Pairwise.nil
  | x :: r, h => rising_pw x r h
theorem perm_sorted {α : Type} {le : α → α → Prop} (anti : ∀ a b, le a b → le b a → a = b) : ∀ {l m : List α}, l.Perm m → l.Pairwise le → m.Pairwise le → l = m
  | [], m, p, _, _ => by
    have := p.length_eq
    cases m with
    | nil => rfl
    | cons => cases this
  | x :: l, [], p, _, _ => by
    have := p.length_eq
    cases this
  | x :: l, y :: m, p, h1, h2 => by
    have e : x = y := by
      have hx : x ∈ y :: m := p.subset List.mem_cons_self
      have hy : y ∈ x :: l := p.symm.subset List.mem_cons_self
      rcases List.mem_cons.mp hx with e | hx
      · exact e
      · rcases List.mem_cons.mp hy with e | hy
        · exact e.symm
        · exact anti x y ((List.pairwise_cons.mp h1).1 y hy) ((List.pairwise_cons.mp h2).1 x hx)
    subst e
    rw [perm_sorted anti (List.Perm.cons_inv p) (List.pairwise_cons.mp h1).2 (List.pairwise_cons.mp h2).2]
theorem srtS_pw (l : List Str) : (srtS l).Pairwise (fun a b => leS a b = true) := List.pairwise_mergeSort leS_trans leS_total l
theorem srtS_perm (l : List Str) : (srtS l).Perm l := List.mergeSort_perm l leS
/-- what sorted gives is this list -/
theorem srtS_of {ys l : List Str} (p : ys.Perm l) (h : sortedS ys = true) : ys = srtS l :=
  perm_sorted (fun a b => leS_anti a b) (p.trans (srtS_perm l).symm) (sortedS_pw ys h) (srtS_pw l)
theorem srtS_len (l : List Str) : (srtS l).length = l.length := (srtS_perm l).length_eq

/-! ### tuples made or shared -/
section
variable {K : PySem.W.Frag} {H : Hp}
theorem cat_any {a b : Addr} {xs ys : List V} {Q : VK} (ha : SqT K H a xs) (hb : SqT K H b ys) (hl : xs.length + ys.length ≤ 100000) (q : ∀ p H', Same H H' → SqT K H' p (xs ++ ys) → Q (.ref p) H') : rCatA K (.ref a) (.ref b) H Q := by
  refine ⟨a, b, xs, ys, rfl, rfl, ha, hb, big hl, fun e => ?_, fun _ e => ?_, fun _ _ p np => q p _ (same_new np) (.inl (.inl upd_same))⟩
  · subst e
    exact q b H (Same.refl H) hb
  · subst e
    rw [List.append_nil] at q
    exact q a H (Same.refl H) ha
theorem cutV_whole (xs : List V) {lo hi : Option Int} (h : HT.sIx xs.length 0 lo = 0 ∧ HT.sIx xs.length xs.length hi = xs.length) : cutV xs lo hi = xs := by
  unfold cutV
  rw [h.1, h.2, List.drop_zero, Nat.sub_zero]
  exact List.take_of_length_le (Nat.le_refl _)
theorem sl_any {a : Addr} {xs : List V} {lo hi : Option Int} {Q : VK} (ha : SqT K H a xs) (q : ∀ p H', Same H H' → SqT K H' p (cutV xs lo hi) → Q (.ref p) H') : rSlA K (.ref a) lo hi H Q :=
  ⟨a, xs, rfl, ha, fun e => q a H (Same.refl H) (by rw [cutV_whole xs e]; exact ha), fun _ p np => q p _ (same_new np) (.inl (.inl upd_same))⟩
end
theorem cut_map_eq {α : Type} (f : α → V) (xs : List α) (lo hi : Option Int) : cutV (xs.map f) lo hi = ((xs.drop (HT.sIx xs.length 0 lo)).take (HT.sIx xs.length xs.length hi - HT.sIx xs.length 0 lo)).map f := by
  unfold cutV
  rw [List.length_map, List.map_take, List.map_drop]
/-! ### == of data that are the same -/
theorem eq_same {K : PySem.W.Frag} {H : Hp} {x y : V} {d : PyData} {Q : VK} (hx : Dp K H x d) (hy : Dp K H y d) (pl : d.plain = true) (dp : d.depth ≤ 190) (q : Q (.bl true) H) : rEqP K x y H Q :=
  ⟨d, d, hx, hy, pl, pl, dp, by rw [SeqAt.eqv_refl_plain d pl]; exact q⟩
def dStrs (l : List Str) : PyData := .tuple (l.map PyData.str)
theorem dp_strs {K : PySem.W.Frag} {H : Hp} : ∀ l : List Str, DpAll K H (l.map V.str) (l.map PyData.str)
  | [] => .nil
  | z :: r => .cons (.str z) (dp_strs r)
theorem plain_strs : ∀ l : List Str, PyData.plainAll (l.map PyData.str) = true
  | [] => rfl
  | z :: r => by
    show (PyData.plain (.str z) && PyData.plainAll (r.map PyData.str)) = true
    rw [plain_strs r]
    rfl
theorem depth_strs : ∀ l : List Str, PyData.depthAll (l.map PyData.str) ≤ 1
  | [] => by decide
  | z :: r => by
    have := depth_strs r
    show max (PyData.depth (.str z)) (PyData.depthAll (r.map PyData.str)) ≤ 1
    have e : PyData.depth (.str z) ≤ 1 := by simp [PyData.depth]
    omega
/-! ### deeds and scripts -/
/-- v is the tuple of these texts -/
def DeedR (K : PySem.W.Frag) (H : Hp) (v : V) (ds : List Str) : Prop := ∃ a, v = .ref a ∧ SqT K H a (ds.map V.str)
def ScrR (K : PySem.W.Frag) (H : Hp) (v : V) (dss : List (List Str)) : Prop := ∃ a vs, v = .ref a ∧ SqT K H a vs ∧ Paired (DeedR K H) vs dss
/-- the form of a deed: one of the words, and as many names -/
def IsDeed (ds : List Str) : Prop := ∃ w r, ds = w :: r ∧ w ∈ wordsS ∧ r.length = (if w ∈ singleS then 1 else 2)
theorem DeedR.same {K : PySem.W.Frag} {H H' : Hp} {v : V} {ds : List Str} (h : DeedR K H v ds) (s : Same H H') : DeedR K H' v ds := by
  obtain ⟨a, e, h⟩ := h
  exact ⟨a, e, Same.sqT s h⟩
theorem DeedR.keep {K : PySem.W.Frag} {H H' : Hp} {d : Addr} {v : V} {ds : List Str} (h : DeedR K H v ds) (k : Kp d H H') (hD : Dk H d) : DeedR K H' v ds := by
  obtain ⟨a, e, h⟩ := h
  exact ⟨a, e, k.sqT hD h⟩
theorem ScrR.same {K : PySem.W.Frag} {H H' : Hp} {v : V} {dss : List (List Str)} (h : ScrR K H v dss) (s : Same H H') : ScrR K H' v dss := by
  obtain ⟨a, vs, e, h, r⟩ := h
  exact ⟨a, vs, e, Same.sqT s h, L2.Paired.mapP r fun _ _ q => q.same s⟩
theorem ScrR.keep {K : PySem.W.Frag} {H H' : Hp} {d : Addr} {v : V} {dss : List (List Str)} (h : ScrR K H v dss) (k : Kp d H H') (hD : Dk H d) : ScrR K H' v dss := by
  obtain ⟨a, vs, e, h, r⟩ := h
  exact ⟨a, vs, e, k.sqT hD h, L2.Paired.mapP r fun _ _ q => q.keep k hD⟩
theorem paired_len {α β : Type} {R : α → β → Prop} : ∀ {xs : List α} {ys : List β}, Paired R xs ys → xs.length = ys.length
  | _, _, .nil => rfl
  | _, _, .cons _ t => congrArg (· + 1) (paired_len t)
theorem paired_get {α β : Type} {R : α → β → Prop} : ∀ {xs : List α} {ys : List β} {i : Nat} {x : α}, Paired R xs ys → xs[i]? = some x → ∃ y, ys[i]? = some y ∧ R x y
  | _, _, _, _, .nil, h => by simp at h
  | _, _, 0, _, .cons r _, h => by
    simp at h
    subst h
    exact ⟨_, rfl, r⟩
  | _, _, i + 1, x, .cons _ t, h => by
    obtain ⟨y, e, r⟩ := paired_get (i := i) t (by simpa using h)
    exact ⟨y, by simpa using e, r⟩
theorem paired_app {α β : Type} {R : α → β → Prop} : ∀ {xs xs' : List α} {ys ys' : List β}, Paired R xs ys → Paired R xs' ys' → Paired R (xs ++ xs') (ys ++ ys')
  | _, _, _, _, .nil, s => s
  | _, _, _, _, .cons r t, s => .cons r (paired_app t s)
theorem paired_take {α β : Type} {R : α → β → Prop} (n : Nat) : ∀ {xs : List α} {ys : List β}, Paired R xs ys → Paired R (xs.take n) (ys.take n) := by
  induction n with
  | zero => intro xs ys _; rw [List.take_zero, List.take_zero]; exact .nil
  | succ n ih =>
    intro xs ys h
    cases h with
    | nil => exact .nil
    | cons r t => exact .cons r (ih t)
theorem paired_drop {α β : Type} {R : α → β → Prop} (n : Nat) : ∀ {xs : List α} {ys : List β}, Paired R xs ys → Paired R (xs.drop n) (ys.drop n) := by
  induction n with
  | zero => intro xs ys h; exact h
  | succ n ih =>
    intro xs ys h
    cases h with
    | nil => exact .nil
    | cons r t => exact ih t
/-! ### the roles of names -/
def mkB (w : Str) (k : Nat) : Bool := (decide (w = "wrap") && decide (k = 2)) || (decide (w = "put") && decide (k = 1))
def addRole (acc : List (Str × Bool)) (n : Str) (b : Bool) : List (Str × Bool) := if acc.any (fun p => decide (p.1 = n)) = true then acc else acc ++ [(n, b)]
def roleStep (acc : List (Str × Bool)) (ds : List Str) (k : Nat) : List (Str × Bool) := match ds, ds[k]? with
  | w :: _, some x => if k = 0 then acc else addRole acc x (mkB w k)
  | _, _ => acc
/-- behind the first i items of a deed -/
def dRoles (acc : List (Str × Bool)) (ds : List Str) : Nat → List (Str × Bool)
  | 0 => acc
  | i + 1 => roleStep (dRoles acc ds i) ds i
/-- behind the first i deeds -/
def sRoles (dss : List (List Str)) : Nat → List (Str × Bool)
  | 0 => []
  | i + 1 => match dss[i]? with
    | some ds => dRoles (sRoles dss i) ds ds.length
    | none => sRoles dss i
def rolesF (dss : List (List Str)) : List (Str × Bool) := sRoles dss dss.length
def oldOf (acc : List (Str × Bool)) : List Str := (acc.filter fun p => !p.2).map (·.1)
def newOf (acc : List (Str × Bool)) : List Str := (acc.filter fun p => p.2).map (·.1)
theorem addRole_len (acc : List (Str × Bool)) (n : Str) (b : Bool) : (addRole acc n b).length ≤ acc.length + 1 := by
  unfold addRole
  split
  · omega
  · rw [List.length_append]
    exact Nat.le_refl _
theorem roleStep_len (acc : List (Str × Bool)) (ds : List Str) (k : Nat) : (roleStep acc ds k).length ≤ acc.length + (if k = 0 then 0 else 1) := by
  unfold roleStep
  split
  · split
    · omega
    · exact addRole_len _ _ _
  · omega
theorem dRoles_len (acc : List (Str × Bool)) (ds : List Str) : ∀ i, (dRoles acc ds i).length ≤ acc.length + (i - 1)
  | 0 => Nat.le_add_right _ _
  | 1 => by
    have := roleStep_len acc ds 0
    rw [if_pos rfl] at this
    exact this
  | i + 2 => by
    have h1 := dRoles_len acc ds (i + 1)
    have h2 := roleStep_len (dRoles acc ds (i + 1)) ds (i + 1)
    rw [if_neg (by omega)] at h2
    show (roleStep (dRoles acc ds (i + 1)) ds (i + 1)).length ≤ _
    omega
theorem sRoles_len (dss : List (List Str)) (h3 : ∀ ds ∈ dss, ds.length ≤ 3) : ∀ i, (sRoles dss i).length ≤ 2 * i
  | 0 => Nat.le_refl _
  | i + 1 => by
    have ih := sRoles_len dss h3 i
    unfold sRoles
    split
    · rename_i ds hd
      have h1 := dRoles_len (sRoles dss i) ds ds.length
      have h2 := h3 ds (List.mem_of_getElem? hd)
      omega
    · omega
/-- a script whose names are few -/
structure Small (dss : List (List Str)) : Prop where
  n : dss.length ≤ 30
  l : ∀ ds ∈ dss, 1 ≤ ds.length ∧ ds.length ≤ 3
theorem Small.roles {dss : List (List Str)} (h : Small dss) (i : Nat) (hi : i ≤ dss.length) : (sRoles dss i).length ≤ 60 := by
  have := sRoles_len dss (fun ds m => (h.l ds m).2) i
  have := h.n
  omega
theorem IsDeed.len {ds : List Str} (h : IsDeed ds) : 1 ≤ ds.length ∧ ds.length ≤ 3 := by
  obtain ⟨w, r, rfl, _, hr⟩ := h
  rw [List.length_cons, hr]
  split <;> omega
theorem small_of {dss : List (List Str)} (n : dss.length ≤ 30) (h : ∀ ds ∈ dss, IsDeed ds) : Small dss := ⟨n, fun ds m => (h ds m).len⟩
/-- the roles as a dict's pairs -/
def roleKV (acc : List (Str × Bool)) : List (Key × V) := acc.map fun p => (Sum.inr p.1, V.bl p.2)
theorem role_val (n : Str) : ∀ acc : List (Str × Bool), (valV (roleKV acc) (Sum.inr n)).isSome = acc.any (fun p => decide (p.1 = n))
  | [] => rfl
  | p :: r => by
    have ih := role_val n r
    rw [List.any_cons]
    show (valV ((Sum.inr p.1, V.bl p.2) :: roleKV r) (Sum.inr n)).isSome = _
    by_cases e : p.1 = n
    · rw [valV_pos (p := (Sum.inr p.1, V.bl p.2)) (show (Sum.inr p.1 : Key) = Sum.inr n by rw [e]), decide_eq_true e]
      rfl
    · rw [valV_neg (p := (Sum.inr p.1, V.bl p.2)) (show ¬ (Sum.inr p.1 : Key) = Sum.inr n from fun z => e (Sum.inr.inj z)), decide_eq_false e, ih]
      rfl

/-! ### woods: the first tree's name, what is in it, the other trees -/
inductive Wd where
  | nil
  | cons (n : Str) (i r : Wd)
namespace Wd
def tops : Wd → List Str
  | nil => []
  | cons n _ r => n :: r.tops
def names : Wd → List Str
  | nil => []
  | cons n i r => n :: (i.names ++ r.names)
def dep : Wd → Nat
  | nil => 0
  | cons _ i r => max (i.dep + 1) r.dep
def app : Wd → Wd → Wd
  | nil, v => v
  | cons n i r, v => cons n i (r.app v)
def take : Nat → Wd → Wd
  | 0, _ => nil
  | _ + 1, nil => nil
  | k + 1, cons n i r => cons n i (take k r)
def drop : Nat → Wd → Wd
  | 0, w => w
  | _ + 1, nil => nil
  | k + 1, cons _ _ r => drop k r
/-- a new tree at a, over t trees -/
def grp (a t : Nat) (nm : Str) (w : Wd) : Wd := (take a w).app (cons nm (take t (drop a w)) (drop t (drop a w)))
def upd (k : Str) (f : Wd → Wd) : Wd → Wd
  | nil => nil
  | cons n i r => if n = k then cons n (f i) r else cons n (upd k f i) (upd k f r)
def sub (k : Str) : Wd → Option Wd
  | nil => none
  | cons n i r => if n = k then some i else match sub k i with
    | some x => some x
    | none => sub k r
theorem app_nil : ∀ w : Wd, w.app nil = w
  | nil => rfl
  | cons n i r => congrArg (cons n i) (app_nil r)
theorem app_assoc : ∀ u v w : Wd, (u.app v).app w = u.app (v.app w)
  | nil, _, _ => rfl
  | cons n i r, v, w => congrArg (cons n i) (app_assoc r v w)
theorem take_drop : ∀ (k : Nat) (w : Wd), (take k w).app (drop k w) = w
  | 0, _ => rfl
  | _ + 1, nil => rfl
  | k + 1, cons n i r => congrArg (cons n i) (take_drop k r)
theorem tops_app : ∀ u v : Wd, (u.app v).tops = u.tops ++ v.tops
  | nil, _ => rfl
  | cons n _ r, v => congrArg (n :: ·) (tops_app r v)
theorem names_app : ∀ u v : Wd, (u.app v).names = u.names ++ v.names
  | nil, _ => rfl
  | cons n i r, v => by
    show n :: (i.names ++ (r.app v).names) = n :: (i.names ++ r.names) ++ v.names
    rw [names_app r v, List.cons_append, List.append_assoc]
theorem tops_take : ∀ (k : Nat) (w : Wd), (take k w).tops = w.tops.take k
  | 0, _ => rfl
  | _ + 1, nil => rfl
  | k + 1, cons n _ r => congrArg (n :: ·) (tops_take k r)
theorem tops_drop : ∀ (k : Nat) (w : Wd), (drop k w).tops = w.tops.drop k
  | 0, _ => rfl
  | _ + 1, nil => rfl
  | k + 1, cons _ _ r => tops_drop k r
theorem tops_grp (a t : Nat) (nm : Str) (w : Wd) : (grp a t nm w).tops = w.tops.take a ++ nm :: (w.tops.drop a).drop t := by
  unfold grp
  rw [tops_app, tops_take]
  show _ ++ nm :: (drop t (drop a w)).tops = _
  rw [tops_drop, tops_drop]
theorem names_take_drop (k : Nat) (w : Wd) : (take k w).names ++ (drop k w).names = w.names := by rw [← names_app, take_drop]
theorem names_grp (a t : Nat) (nm : Str) (w : Wd) : (grp a t nm w).names.Perm (nm :: w.names) := by
  unfold grp
  rw [names_app]
  show ((take a w).names ++ (nm :: ((take t (drop a w)).names ++ (drop t (drop a w)).names))).Perm _
  rw [names_take_drop t, ← names_take_drop a w]
  exact List.perm_middle
theorem tops_upd (k : Str) (f : Wd → Wd) : ∀ w : Wd, (upd k f w).tops = w.tops
  | nil => rfl
  | cons n i r => by
    show (if n = k then cons n (f i) r else cons n (upd k f i) (upd k f r)).tops = n :: r.tops
    split
    · rfl
    · exact congrArg (n :: ·) (tops_upd k f r)
theorem upd_out {k : Str} {f : Wd → Wd} : ∀ {w : Wd}, k ∉ w.names → upd k f w = w
  | nil, _ => rfl
  | cons n i r, h => by
    have h1 : n ≠ k := fun e => h (by rw [← e]; exact List.mem_cons_self)
    have h2 : k ∉ i.names := fun e => h (List.mem_cons_of_mem _ (List.mem_append_left _ e))
    have h3 : k ∉ r.names := fun e => h (List.mem_cons_of_mem _ (List.mem_append_right _ e))
    show (if n = k then cons n (f i) r else cons n (upd k f i) (upd k f r)) = _
    rw [if_neg h1, upd_out h2, upd_out h3]
theorem sub_mem {k : Str} : ∀ {w x : Wd}, sub k w = some x → k ∈ w.names
  | nil, _, h => by cases h
  | cons n i r, x, h => by
    have h' : (if n = k then some i else match sub k i with | some x => some x | none => sub k r) = some x := h
    by_cases c : n = k
    · rw [c]
      exact List.mem_cons_self
    · rw [if_neg c] at h'
      cases e : sub k i with
      | some y => exact List.mem_cons_of_mem _ (List.mem_append_left _ (sub_mem e))
      | none =>
        rw [e] at h'
        exact List.mem_cons_of_mem _ (List.mem_append_right _ (sub_mem h'))
theorem names_upd {k nm : Str} {f : Wd → Wd} (hf : ∀ i, (f i).names.Perm (nm :: i.names)) : ∀ {w : Wd}, w.names.Nodup → k ∈ w.names → (upd k f w).names.Perm (nm :: w.names)
  | nil, _, h => by cases h
  | cons n i r, nd, h => by
    have nd' : (n :: (i.names ++ r.names)).Nodup := nd
    rw [List.nodup_cons] at nd'
    have nda := List.nodup_append.mp nd'.2
    show (if n = k then cons n (f i) r else cons n (upd k f i) (upd k f r)).names.Perm (nm :: n :: (i.names ++ r.names))
    by_cases c : n = k
    · rw [if_pos c]
      show (n :: ((f i).names ++ r.names)).Perm _
      exact (List.Perm.cons n ((hf i).append_right r.names)).trans (List.Perm.swap nm n _)
    · rw [if_neg c]
      show (n :: ((upd k f i).names ++ (upd k f r).names)).Perm _
      rcases List.mem_cons.mp h with e | e
      · exact absurd e.symm c
      · rcases List.mem_append.mp e with e | e
        · rw [upd_out (w := r) fun z => nda.2.2 _ e _ z rfl]
          exact (List.Perm.cons n ((names_upd hf nda.1 e).append_right r.names)).trans (List.Perm.swap nm n _)
        · rw [upd_out (w := i) fun z => nda.2.2 _ z _ e rfl]
          refine (List.Perm.cons n ((names_upd hf nda.2.1 e).append_left i.names)).trans ?_
          exact (List.Perm.cons n List.perm_middle).trans (List.Perm.swap nm n _)
theorem dep_le : ∀ w : Wd, w.dep ≤ w.names.length
  | nil => Nat.le_refl _
  | cons n i r => by
    have h1 := dep_le i
    have h2 := dep_le r
    show max (i.dep + 1) r.dep ≤ (n :: (i.names ++ r.names)).length
    rw [List.length_cons, List.length_append]
    omega
def size : Wd → Nat
  | nil => 0
  | cons _ i r => i.size + r.size + 1
theorem size_names : ∀ w : Wd, w.names.length = w.size
  | nil => rfl
  | cons n i r => by
    show (n :: (i.names ++ r.names)).length = i.size + r.size + 1
    rw [List.length_cons, List.length_append, size_names i, size_names r]
/-- the ends of a wood: true: the begin -/
def toks : Wd → List (Bool × Str)
  | nil => []
  | cons n i r => (true, n) :: (i.toks ++ (false, n) :: r.toks)
theorem toks_len : ∀ w : Wd, w.toks.length = 2 * w.size
  | nil => rfl
  | cons n i r => by
    show ((true, n) :: (i.toks ++ (false, n) :: r.toks)).length = 2 * (i.size + r.size + 1)
    rw [List.length_cons, List.length_append, List.length_cons, toks_len i, toks_len r]
    omega
theorem toks_app : ∀ u v : Wd, (u.app v).toks = u.toks ++ v.toks
  | nil, _ => rfl
  | cons n i r, v => by
    show (true, n) :: (i.toks ++ (false, n) :: (r.app v).toks) = (true, n) :: (i.toks ++ (false, n) :: r.toks) ++ v.toks
    rw [toks_app r v, List.cons_append, List.append_assoc, List.cons_append]
theorem toks_mem : ∀ {w : Wd} {p : Bool × Str}, p ∈ w.toks → p.2 ∈ w.names
  | cons n i r, p, h => by
    have h' : p ∈ (true, n) :: (i.toks ++ (false, n) :: r.toks) := h
    rcases List.mem_cons.mp h' with rfl | h
    · exact List.mem_cons_self
    · rcases List.mem_append.mp h with h | h
      · exact List.mem_cons_of_mem _ (List.mem_append_left _ (toks_mem h))
      · rcases List.mem_cons.mp h with rfl | h
        · exact List.mem_cons_self
        · exact List.mem_cons_of_mem _ (List.mem_append_right _ (toks_mem h))
/-- the data of its trees -/
def data : Wd → List PyData
  | nil => []
  | cons n i r => .tuple [.str n, .tuple i.data] :: r.data
theorem plain_data : ∀ w : Wd, PyData.plainAll w.data = true
  | nil => rfl
  | cons n i r => by
    show (PyData.plain (.tuple [.str n, .tuple i.data]) && PyData.plainAll r.data) = true
    rw [plain_data r]
    show ((true && (PyData.plainAll i.data && true)) && true) = true
    rw [plain_data i]
    rfl
theorem depth_data : ∀ w : Wd, PyData.depthAll w.data ≤ 2 * w.dep + 1
  | nil => by
    show (0 : Nat) ≤ _
    omega
  | cons n i r => by
    have h1 := depth_data i
    have h2 := depth_data r
    have e : PyData.depth (.str n) ≤ 1 := by simp [PyData.depth]
    show max (max (PyData.depth (.str n)) (max (PyData.depthAll i.data + 1) 0) + 1) (PyData.depthAll r.data) ≤ 2 * max (i.dep + 1) r.dep + 1
    omega
end Wd
def tkS (p : Bool × Str) : Str := if p.1 = true then ("+" : Str) ++ p.2 else ("-" : Str) ++ p.2
/-- the trees ts are those of the wood -/
inductive WdL (K : PySem.W.Frag) (H : Hp) : List V → Wd → Prop
  | nil : WdL K H [] .nil
  | cons {t a : Addr} {n : Str} {us ts : List V} {i r : Wd} (ht : SqT K H t [.str n, .ref a]) (ha : SqT K H a us) (hi : WdL K H us i) (hr : WdL K H ts r) : WdL K H (.ref t :: ts) (.cons n i r)
def WdR (K : PySem.W.Frag) (H : Hp) (v : V) (w : Wd) : Prop := ∃ a ts, v = .ref a ∧ SqT K H a ts ∧ WdL K H ts w
section
variable {K : PySem.W.Frag} {H H' : Hp}
theorem WdL.map (k : ∀ a xs, SqT K H a xs → SqT K H' a xs) : ∀ {ts : List V} {w : Wd}, WdL K H ts w → WdL K H' ts w
  | _, _, .nil => .nil
  | _, _, .cons ht ha hi hr => .cons (k _ _ ht) (k _ _ ha) (hi.map k) (hr.map k)
theorem WdL.same {ts : List V} {w : Wd} (h : WdL K H ts w) (s : Same H H') : WdL K H' ts w := h.map fun _ _ => Same.sqT s
theorem WdL.keep {d : Addr} {ts : List V} {w : Wd} (h : WdL K H ts w) (k : Kp d H H') (hD : Dk H d) : WdL K H' ts w := h.map fun _ _ => k.sqT hD
theorem WdR.same {v : V} {w : Wd} (h : WdR K H v w) (s : Same H H') : WdR K H' v w := by
  obtain ⟨a, ts, e, h1, h2⟩ := h
  exact ⟨a, ts, e, Same.sqT s h1, h2.same s⟩
theorem WdR.keep {d : Addr} {v : V} {w : Wd} (h : WdR K H v w) (k : Kp d H H') (hD : Dk H d) : WdR K H' v w := by
  obtain ⟨a, ts, e, h1, h2⟩ := h
  exact ⟨a, ts, e, k.sqT hD h1, h2.keep k hD⟩
theorem sqT_relst {L a : Addr} {ys zs xs : List V} (hL : H L = some (.lst ys)) (h : SqT K H a xs) : SqT K (upd H L (.lst zs)) a xs := by
  rcases h with h | h
  · refine .inl (Rd.keep (fun o e => ?_) h)
    rw [upd_ne ?_]
    · exact e
    · rintro rfl
      rcases h with h | ⟨_, h⟩
      · rw [hL] at h; cases h
      · rw [hL] at h; cases h
  · exact .inr h
theorem WdL.relst {L : Addr} {ys zs : List V} {ts : List V} {w : Wd} (hL : H L = some (.lst ys)) (h : WdL K H ts w) : WdL K (upd H L (.lst zs)) ts w := h.map fun _ _ => sqT_relst hL
theorem WdL.app : ∀ {ts us : List V} {w v : Wd}, WdL K H ts w → WdL K H us v → WdL K H (ts ++ us) (w.app v)
  | _, _, _, _, .nil, h => h
  | _, _, _, _, .cons ht ha hi hr, h => .cons ht ha hi (hr.app h)
theorem WdL.dp : ∀ {ts : List V} {w : Wd}, WdL K H ts w → DpAll K H ts w.data
  | _, _, .nil => .nil
  | _, _, .cons ht ha hi hr => .cons (.tup ht (.cons (.str _) (.cons (.tup ha hi.dp) .nil))) hr.dp
theorem WdR.dp {v : V} {w : Wd} (h : WdR K H v w) : Dp K H v (.tuple w.data) := by
  obtain ⟨a, ts, rfl, h1, h2⟩ := h
  exact .tup h1 h2.dp
theorem WdL.len : ∀ {ts : List V} {w : Wd}, WdL K H ts w → ts.length = w.tops.length
  | _, _, .nil => rfl
  | _, _, .cons _ _ _ hr => congrArg (· + 1) hr.len
end
theorem Wd.depth_tuple (w : Wd) (h : w.dep ≤ 90) : (PyData.tuple w.data).depth ≤ 190 := by
  have := w.depth_data
  show PyData.depthAll w.data + 1 ≤ 190
  omega
theorem Wd.plain_tuple (w : Wd) : (PyData.tuple w.data).plain = true := w.plain_data
/-! ### the dict of kids -/
def KW (kvs : List (Key × V)) (H : Hp) : Wd → Prop
  | .nil => True
  | .cons n i r => (∃ l, valV kvs (.inr n) = some (.ref l) ∧ H l = some (.lst (i.tops.map V.str))) ∧ KW kvs H i ∧ KW kvs H r
section
variable {kvs kvs' : List (Key × V)} {H H' : Hp}
theorem KW.mono : ∀ {w : Wd}, (∀ n ∈ w.names, ∀ l xs, valV kvs (.inr n) = some (.ref l) → H l = some (.lst xs) → valV kvs' (.inr n) = some (.ref l) ∧ H' l = some (.lst xs)) → KW kvs H w → KW kvs' H' w
  | .nil, _, _ => trivial
  | .cons n i r, k, ⟨⟨l, h1, h2⟩, hi, hr⟩ => by
    obtain ⟨g1, g2⟩ := k n List.mem_cons_self l _ h1 h2
    exact ⟨⟨l, g1, g2⟩, hi.mono fun m hm => k m (List.mem_cons_of_mem _ (List.mem_append_left _ hm)), hr.mono fun m hm => k m (List.mem_cons_of_mem _ (List.mem_append_right _ hm))⟩
theorem KW.app : ∀ {u v : Wd}, KW kvs H u → KW kvs H v → KW kvs H (u.app v)
  | .nil, _, _, h => h
  | .cons _ _ _, _, ⟨h1, h2, h3⟩, h => ⟨h1, h2, h3.app h⟩
theorem KW.take : ∀ {k : Nat} {w : Wd}, KW kvs H w → KW kvs H (w.take k)
  | 0, _, _ => trivial
  | _ + 1, .nil, _ => trivial
  | k + 1, .cons _ _ _, ⟨h1, h2, h3⟩ => ⟨h1, h2, h3.take⟩
theorem KW.drop : ∀ {k : Nat} {w : Wd}, KW kvs H w → KW kvs H (w.drop k)
  | 0, _, h => h
  | _ + 1, .nil, _ => trivial
  | k + 1, .cons _ _ _, ⟨_, _, h3⟩ => KW.drop (k := k) h3
theorem KW.at : ∀ {w : Wd} {k : Str}, KW kvs H w → k ∈ w.names → ∃ i, w.sub k = some i ∧ ∃ l, valV kvs (.inr k) = some (.ref l) ∧ H l = some (.lst (i.tops.map V.str))
  | .nil, _, _, h => by cases h
  | .cons n i r, k, ⟨⟨l, h1, h2⟩, hi, hr⟩, h => by
    show ∃ x, (if n = k then some i else match Wd.sub k i with | some x => some x | none => Wd.sub k r) = some x ∧ _
    by_cases c : n = k
    · subst c
      rw [if_pos rfl]
      exact ⟨i, rfl, l, h1, h2⟩
    · rw [if_neg c]
      cases e : Wd.sub k i with
      | some x =>
        obtain ⟨y, e1, e2⟩ := hi.at (Wd.sub_mem e)
        rw [e] at e1
        cases e1
        exact ⟨x, rfl, e2⟩
      | none =>
        rcases List.mem_cons.mp h with z | z
        · exact absurd z.symm c
        · rcases List.mem_append.mp z with z | z
          · obtain ⟨y, e1, _⟩ := hi.at z
            rw [e] at e1
            cases e1
          · exact hr.at z
/-- a new tree over some -/
theorem KW.grp {a t : Nat} {nm : Str} {w : Wd} (h : KW kvs H w) (hn : ∃ l, valV kvs (.inr nm) = some (.ref l) ∧ H l = some (.lst (((w.drop a).take t).tops.map V.str))) : KW kvs H (w.grp a t nm) :=
  h.take.app ⟨hn, h.drop.take, h.drop.drop⟩
theorem KW.upd {a t : Nat} {nm k : Str} : ∀ {w : Wd}, w.names.Nodup → (∀ n ∈ w.names, n ≠ k → ∀ l xs, valV kvs (.inr n) = some (.ref l) → H l = some (.lst xs) → valV kvs' (.inr n) = some (.ref l) ∧ H' l = some (.lst xs)) →
    (∀ i, w.sub k = some i → (∃ l, valV kvs' (.inr k) = some (.ref l) ∧ H' l = some (.lst ((i.grp a t nm).tops.map V.str))) ∧ ∃ l, valV kvs' (.inr nm) = some (.ref l) ∧ H' l = some (.lst (((i.drop a).take t).tops.map V.str))) →
    KW kvs H w → KW kvs' H' (w.upd k (Wd.grp a t nm))
  | .nil, _, _, _, _ => trivial
  | .cons n i r, nd, m, hk, ⟨⟨l, h1, h2⟩, hi, hr⟩ => by
    have nd' : (n :: (i.names ++ r.names)).Nodup := nd
    rw [List.nodup_cons] at nd'
    have nda := List.nodup_append.mp nd'.2
    have mi : ∀ x ∈ i.names, x ∈ (Wd.cons n i r).names := fun x hx => List.mem_cons_of_mem _ (List.mem_append_left _ hx)
    have mr : ∀ x ∈ r.names, x ∈ (Wd.cons n i r).names := fun x hx => List.mem_cons_of_mem _ (List.mem_append_right _ hx)
    have hk' : ∀ x, (if n = k then some i else match Wd.sub k i with | some x => some x | none => Wd.sub k r) = some x → _ := hk
    show KW kvs' H' (if n = k then .cons n (i.grp a t nm) r else .cons n (i.upd k (Wd.grp a t nm)) (r.upd k (Wd.grp a t nm)))
    by_cases c : n = k
    · subst c
      rw [if_pos rfl] at hk' ⊢
      obtain ⟨g1, g2⟩ := hk' i rfl
      refine ⟨g1, KW.grp (hi.mono fun x hx => m x (mi x hx) ?_) g2, hr.mono fun x hx => m x (mr x hx) ?_⟩
      · rintro rfl
        exact nd'.1 (List.mem_append_left _ hx)
      · rintro rfl
        exact nd'.1 (List.mem_append_right _ hx)
    · rw [if_neg c] at hk' ⊢
      obtain ⟨g1, g2⟩ := m n List.mem_cons_self c l _ h1 h2
      refine ⟨⟨l, g1, by rw [Wd.tops_upd]; exact g2⟩, KW.upd nda.1 (fun x hx => m x (mi x hx)) (fun x e => hk' x (by rw [e])) hi, KW.upd nda.2.1 (fun x hx => m x (mr x hx)) (fun x e => hk' x ?_) hr⟩
      cases e2 : Wd.sub k i with
      | none => exact e
      | some y => exact absurd rfl (nda.2.2 _ (Wd.sub_mem e2) _ (Wd.sub_mem e))
end
/-! ### the dict of depths -/
def DW (dk : List (Key × V)) (T : Nat) : Nat → Wd → Prop
  | _, .nil => True
  | e, .cons n i r => valV dk (.inr n) = some (.int ((e + 1 : Nat) : Int)) ∧ e + 1 ≤ T ∧ DW dk T (e + 1) i ∧ DW dk T e r
section
variable {dk dk' : List (Key × V)} {T : Nat}
theorem DW.mono : ∀ {w : Wd} {e : Nat}, (∀ n ∈ w.names, ∀ v, valV dk (.inr n) = some v → valV dk' (.inr n) = some v) → DW dk T e w → DW dk' T e w
  | .nil, _, _, _ => trivial
  | .cons n i r, e, k, ⟨h1, h2, hi, hr⟩ => ⟨k n List.mem_cons_self _ h1, h2, hi.mono fun m hm => k m (List.mem_cons_of_mem _ (List.mem_append_left _ hm)), hr.mono fun m hm => k m (List.mem_cons_of_mem _ (List.mem_append_right _ hm))⟩
theorem DW.app : ∀ {u v : Wd} {e : Nat}, DW dk T e u → DW dk T e v → DW dk T e (u.app v)
  | .nil, _, _, _, h => h
  | .cons _ _ _, _, _, ⟨h1, h2, h3, h4⟩, h => ⟨h1, h2, h3, h4.app h⟩
theorem DW.take : ∀ {k : Nat} {w : Wd} {e : Nat}, DW dk T e w → DW dk T e (w.take k)
  | 0, _, _, _ => trivial
  | _ + 1, .nil, _, _ => trivial
  | k + 1, .cons _ _ _, _, ⟨h1, h2, h3, h4⟩ => ⟨h1, h2, h3, h4.take⟩
theorem DW.drop : ∀ {k : Nat} {w : Wd} {e : Nat}, DW dk T e w → DW dk T e (w.drop k)
  | 0, _, _, h => h
  | _ + 1, .nil, _, _ => trivial
  | k + 1, .cons _ _ _, _, ⟨_, _, _, h4⟩ => DW.drop (k := k) h4
theorem DW.leaf {a e : Nat} {nm : Str} {w : Wd} (h : DW dk T e w) (hn : valV dk (.inr nm) = some (.int ((e + 1 : Nat) : Int))) (hT : e + 1 ≤ T) : DW dk T e (w.grp a 0 nm) :=
  h.take.app ⟨hn, hT, trivial, h.drop.drop⟩
theorem DW.at : ∀ {w : Wd} {k : Str} {e : Nat}, DW dk T e w → k ∈ w.names → ∃ f : Nat, valV dk (.inr k) = some (.int (f : Int)) ∧ f ≤ T
  | .nil, _, _, _, h => by cases h
  | .cons n i r, k, e, ⟨h1, h2, hi, hr⟩, h => by
    rcases List.mem_cons.mp h with z | z
    · subst z
      exact ⟨e + 1, h1, h2⟩
    · rcases List.mem_append.mp z with z | z
      · exact hi.at z
      · exact hr.at z
theorem DW.upd {a : Nat} {nm k : Str} : ∀ {w : Wd} {e : Nat}, w.names.Nodup → (∀ n ∈ w.names, ∀ v, valV dk (.inr n) = some v → valV dk' (.inr n) = some v) →
    (∀ f : Nat, valV dk (.inr k) = some (.int (f : Int)) → valV dk' (.inr nm) = some (.int ((f + 1 : Nat) : Int)) ∧ f + 1 ≤ T) → DW dk T e w → DW dk' T e (w.upd k (Wd.grp a 0 nm))
  | .nil, _, _, _, _, _ => trivial
  | .cons n i r, e, nd, m, hk, ⟨h1, h2, hi, hr⟩ => by
    have nd' : (n :: (i.names ++ r.names)).Nodup := nd
    rw [List.nodup_cons] at nd'
    have nda := List.nodup_append.mp nd'.2
    have mi : ∀ x ∈ i.names, ∀ v, valV dk (.inr x) = some v → valV dk' (.inr x) = some v := fun x hx => m x (List.mem_cons_of_mem _ (List.mem_append_left _ hx))
    have mr : ∀ x ∈ r.names, ∀ v, valV dk (.inr x) = some v → valV dk' (.inr x) = some v := fun x hx => m x (List.mem_cons_of_mem _ (List.mem_append_right _ hx))
    show DW dk' T e (if n = k then .cons n (i.grp a 0 nm) r else .cons n (i.upd k (Wd.grp a 0 nm)) (r.upd k (Wd.grp a 0 nm)))
    by_cases c : n = k
    · subst c
      rw [if_pos rfl]
      obtain ⟨g1, g2⟩ := hk _ h1
      exact ⟨m n List.mem_cons_self _ h1, h2, (hi.mono mi).leaf g1 g2, hr.mono mr⟩
    · rw [if_neg c]
      exact ⟨m n List.mem_cons_self _ h1, h2, DW.upd nda.1 mi hk hi, DW.upd nda.2.1 mr hk hr⟩
theorem DW.dep : ∀ {w : Wd} {e : Nat}, DW dk T e w → w.dep + e ≤ max T e
  | .nil, e, _ => by
    show 0 + e ≤ max T e
    omega
  | .cons n i r, e, ⟨_, h2, hi, hr⟩ => by
    have q1 := hi.dep
    have q2 := hr.dep
    show max (i.dep + 1) r.dep + e ≤ max T e
    omega
end

/-- slots of begin_of: 0 name -/
def n_begin_of : List Str := ["name"]
def t_begin_of (K : PySem.W.Frag) : TS :=
  (tRet (tOp rAddS (tC (.str "+")) (tVar 0)))

theorem tl_tk (p : Bool × Str) : TL.tl (tkS p) = (if p.1 = true then 43 else 45) :: TL.tl p.2 := by
  unfold tkS
  split
  · rw [TL.tl_append]
    rfl
  · rw [TL.tl_append]
    rfl
theorem tk_at0 (p : Bool × Str) : atI (tkS p).cps.toList 0 = some (if p.1 = true then 43 else 45) := by
  show atI (TL.tl (tkS p)) 0 = _
  rw [tl_tk]
  exact atI_nat (j := 0) rfl
theorem tk_cut (p : Bool × Str) : cutS (tkS p) (some 1) none = p.2 := by
  apply TL.ext_tl
  have e := tl_cut_from (tkS p) 1
  rw [tl_tk] at e
  exact e
theorem tk_len (p : Bool × Str) : (tkS p).length = p.2.length + 1 := by
  rw [TL.len_tl, tl_tk, List.length_cons, ← TL.len_tl]
def sp_begin_of : Sp := fun vs H Q _ => ∃ n : Str, vs = [.str n] ∧ n.length ≤ 1000 ∧ Q (.str (tkS (true, n))) H
theorem pure_begin_of {K : PySem.W.Frag} (vs : List V) (H : Hp) (Q : VK) (E : XK) (h : sp_begin_of vs H Q E) : t_begin_of K { nx := fun _ H' => Q .non H', rt := Q } (start n_begin_of vs) H := by
  obtain ⟨n, rfl, l, q⟩ := h
  exact ⟨.str n, rfl, _, _, rfl, rfl, big (by have : (("+" : String) : Str).length = 1 := by decide +kernel
                                              omega), q⟩

/-- slots of end_of: 0 name -/
def n_end_of : List Str := ["name"]
def t_end_of (K : PySem.W.Frag) : TS :=
  (tRet (tOp rAddS (tC (.str "-")) (tVar 0)))

def sp_end_of : Sp := fun vs H Q _ => ∃ n : Str, vs = [.str n] ∧ n.length ≤ 1000 ∧ Q (.str (tkS (false, n))) H
theorem pure_end_of {K : PySem.W.Frag} (vs : List V) (H : Hp) (Q : VK) (E : XK) (h : sp_end_of vs H Q E) : t_end_of K { nx := fun _ H' => Q .non H', rt := Q } (start n_end_of vs) H := by
  obtain ⟨n, rfl, l, q⟩ := h
  exact ⟨.str n, rfl, _, _, rfl, rfl, big (by have : (("-" : String) : Str).length = 1 := by decide +kernel
                                              omega), q⟩

/-- slots of row_of: 0 wood, 1 found, 2 waiting, 3 item -/
def n_row_of : List Str := ["wood", "found", "waiting", "item"]
def t_row_of (K : PySem.W.Frag) : TS :=
  (tSeq (tAsg (tLst tNil) (gName 1))
    (tSeq (tAsg (tCB (rLstOf K) (tCons (tRevT K (tVar 0)) tNil)) (gName 2))
    (tSeq (tWhile (tTest (tOp (rNeE K) (tVar 2) (tLst tNil))) (tSeq (tAsg (tBM0 K "list" rPop (tVar 2)) (gName 3))
    (tIfS (tB (tCB (rIsi K) (tCons (tVar 3) (tCons (tC (.ty "str")) tNil)))) (tDrop (tBM K "list" rAppend (tVar 1) (tCons (tVar 3) tNil))) (tSeq (tDrop (tBM K "list" rAppend (tVar 1) (tCons (tCall sp_begin_of [] E0 (tCons (tOp (rIxT K) (tVar 3) (tC (.int 0))) tNil)) tNil)))
    (tSeq (tDrop (tBM K "list" rAppend (tVar 2) (tCons (tCall sp_end_of [] E0 (tCons (tOp (rIxT K) (tVar 3) (tC (.int 0))) tNil)) tNil)))
    (tDrop (tBM K "list" (rExtendT K) (tVar 2) (tCons (tRevT K (tOp (rIxT K) (tVar 3) (tC (.int 1)))) tNil))))))))
    (tRet (tCB (rTupOf K) (tCons (tVar 1) tNil))))))

/-! ### while xs != [] -/
theorem while_ne {K : PySem.W.Frag} {i : Nat} {tb : TS} {D : Ends} {σ : L2.St} {H : Hp} (Pv : Nat → L2.St → Hp → Prop) (h0 : ∃ m, Pv m σ H)
    (hs : ∀ m σ H, Pv m σ H → ∃ a xs, σ[i]? = some (some (.ref a)) ∧ H a = some (.lst xs) ∧
      (xs ≠ [] → ∀ e, H e = none → tb { D with nx := fun σ' H' => ∃ m', m' < m ∧ Pv m' σ' H', ct := fun σ' H' => ∃ m', m' < m ∧ Pv m' σ' H', bk := D.nx } σ (upd H e (.lst []))) ∧
      (xs = [] → ∀ e, H e = none → D.nx σ (upd H e (.lst [])))) : tWhile (tTest (tOp (rNeE K) (tVar i) (tLst tNil))) tb D σ H := by
  refine ⟨Pv, h0, ?_⟩
  intro m σ H p
  obtain ⟨a, xs, e1, e2, h1, h2⟩ := hs m σ H p
  refine ⟨.ref a, e1, big (by decide), fun e ne => ⟨a, e, xs, rfl, rfl, .inl ⟨.inl (.inl (same_new ne _ _ e2)), .inl (.inl upd_same)⟩, _, rfl, ?_⟩⟩
  cases xs with
  | nil => exact h2 rfl e ne
  | cons x xs => exact ⟨_, fun σ' H' q => q, h1 (fun z => nomatch z) e ne⟩
/-! ### the stack of row_of -/
inductive SI where
  | tok (z : Str)
  | tree (n : Str) (i : Wd)
def SI.out : SI → List Str
  | .tok z => [z]
  | .tree n i => tkS (true, n) :: (i.toks.map tkS ++ [tkS (false, n)])
def SI.sz : SI → Nat
  | .tok _ => 1
  | .tree _ i => 2 * i.size + 2
def SI.ok : SI → Prop
  | .tok _ => True
  | .tree n i => n.length ≤ 1000 ∧ ∀ m ∈ i.names, m.length ≤ 1000
def SIR (K : PySem.W.Frag) (H : Hp) (v : V) : SI → Prop
  | .tok z => v = .str z
  | .tree n i => ∃ t a us, v = .ref t ∧ SqT K H t [.str n, .ref a] ∧ SqT K H a us ∧ WdL K H us i
theorem SIR.map {K : PySem.W.Frag} {H H' : Hp} (k : ∀ a xs, SqT K H a xs → SqT K H' a xs) {v : V} : ∀ {s : SI}, SIR K H v s → SIR K H' v s
  | .tok _, h => h
  | .tree _ _, ⟨t, a, us, e, h1, h2, h3⟩ => ⟨t, a, us, e, k _ _ h1, k _ _ h2, h3.map k⟩
def outs (S : List SI) : List Str := (S.map SI.out).flatten
def szs (S : List SI) : Nat := (S.map SI.sz).sum
def Wd.trees : Wd → List SI
  | .nil => []
  | .cons n i r => .tree n i :: r.trees
theorem outs_trees : ∀ w : Wd, outs w.trees = w.toks.map tkS
  | .nil => rfl
  | .cons n i r => by
    have h := outs_trees r
    unfold outs at h ⊢
    show SI.out (.tree n i) ++ (r.trees.map SI.out).flatten = ((true, n) :: (i.toks ++ (false, n) :: r.toks)).map tkS
    rw [h, List.map_cons, List.map_append, List.map_cons]
    show tkS (true, n) :: (i.toks.map tkS ++ [tkS (false, n)]) ++ r.toks.map tkS = _
    rw [List.cons_append, List.append_assoc]
    rfl
theorem szs_trees : ∀ w : Wd, szs w.trees = 2 * w.size
  | .nil => rfl
  | .cons n i r => by
    have h := szs_trees r
    unfold szs at h ⊢
    show SI.sz (.tree n i) + (r.trees.map SI.sz).sum = 2 * (i.size + r.size + 1)
    rw [h]
    show 2 * i.size + 2 + _ = _
    omega
theorem ok_trees : ∀ {w : Wd}, (∀ m ∈ w.names, m.length ≤ 1000) → ∀ s ∈ w.trees, s.ok
  | .nil, _, _, h => by cases h
  | .cons n i r, k, s, h => by
    rcases List.mem_cons.mp h with rfl | h
    · exact ⟨k n List.mem_cons_self, fun m hm => k m (List.mem_cons_of_mem _ (List.mem_append_left _ hm))⟩
    · exact ok_trees (w := r) (fun m hm => k m (List.mem_cons_of_mem _ (List.mem_append_right _ hm))) s h
theorem WdL.trees {K : PySem.W.Frag} {H : Hp} : ∀ {ts : List V} {w : Wd}, WdL K H ts w → Paired (SIR K H) ts w.trees
  | _, _, .nil => .nil
  | _, _, .cons ht ha hi hr => .cons ⟨_, _, _, rfl, ht, ha, hi⟩ hr.trees
theorem outs_app (S T : List SI) : outs (S ++ T) = outs S ++ outs T := by
  unfold outs
  rw [List.map_append, List.flatten_append]
theorem szs_app (S T : List SI) : szs (S ++ T) = szs S + szs T := by
  unfold szs
  rw [List.map_append, List.sum_append]
theorem outs_cons (s : SI) (S : List SI) : outs (s :: S) = s.out ++ outs S := rfl
theorem szs_cons (s : SI) (S : List SI) : szs (s :: S) = s.sz + szs S := rfl
theorem szs_len : ∀ S : List SI, S.length ≤ szs S
  | [] => Nat.le_refl _
  | s :: S => by
    have h := szs_len S
    have e : 1 ≤ s.sz := by cases s <;> simp only [SI.sz] <;> omega
    rw [szs_cons, List.length_cons]
    omega
/-- the row of a wood, as a tuple -/
def RowT (K : PySem.W.Frag) (H : Hp) (v : V) (w : Wd) : Prop := ∃ a, v = .ref a ∧ SqT K H a ((w.toks.map tkS).map V.str)
def sp_row_of (K : PySem.W.Frag) : Sp := fun vs H Q _ => ∃ (v : V) (w : Wd), vs = [v] ∧ WdR K H v w ∧ w.size ≤ 10000 ∧ (∀ m ∈ w.names, m.length ≤ 1000) ∧
  ∀ (H' : Hp) (u : V), Same H H' → RowT K H' u w → Q u H'
theorem isi_strV {K : PySem.W.Frag} {H : Hp} (z : Str) : ∃ t, TyX K H (.str z) t ∧ PySem.W.kitOne K t (.type "str") = some true := ⟨_, .base (.str z), kit_ty (by decide +kernel : kitB "str" "str" = some true)⟩
theorem isi_strT {K : PySem.W.Frag} {H : Hp} {a : Addr} {xs : List V} (h : SqT K H a xs) : ∃ t, TyX K H (.ref a) t ∧ PySem.W.kitOne K t (.type "str") = some false := ⟨_, tyx_tup h, kit_ty (by decide +kernel : kitB "tuple" "str" = some false)⟩
theorem pure_row_of {K : PySem.W.Frag} (vs : List V) (H : Hp) (Q : VK) (E : XK) (h : sp_row_of K vs H Q E) : t_row_of K { nx := fun _ H' => Q .non H', rt := Q } (start n_row_of vs) H := by
  obtain ⟨v, w, rfl, ⟨a, ts, rfl, hT, hw⟩, hsz, hnm, q⟩ := h
  refine ⟨big (by decide), fun f nf => ?_⟩
  have s1 := same_new nf (o := .lst [])
  refine ⟨.ref a, rfl, a, _, rfl, Same.sqT s1 hT, fun r nr => ⟨r, _, rfl, .inr (.inl (.inl upd_same)), fun g ng => ?_⟩⟩
  have s2 := s1.trans (same_new nr (o := .tup ts.reverse))
  have s3 := s2.trans (same_new ng (o := .lst ts.reverse))
  have nfr : H f = none := nf
  have ngH : H g = none := s2.free ng
  have nfg : f ≠ g := ne_of_none ((same_new nr) _ _ upd_same) ng
  have hlen := hw.len
  dsimp only [gName]
  refine seq_by (t := tWhile _ _) (fun σ H' => ∃ y3, σ = [some (.ref a), some (.ref f), some (.ref g), y3] ∧ Same H H' ∧ H' f = some (.lst ((w.toks.map tkS).map V.str))) (fun σ H' hJ => ?_) (fun rest => ?_)
  · obtain ⟨y3, rfl, s, ef⟩ := hJ
    exact ⟨.ref f, rfl, f, _, rfl, .inl ⟨.inl (.inl ef), fun p np => q _ _ (s.trans (same_new np)) ⟨p, rfl, .inl (.inl upd_same)⟩⟩⟩
  refine while_ne (fun m σ H' => ∃ (vs : List V) (S : List SI) (F : List Str) (y3 : Option V), σ = [some (.ref a), some (.ref f), some (.ref g), y3] ∧ Same H H' ∧ H' f = some (.lst (F.map V.str)) ∧ H' g = some (.lst vs.reverse) ∧ Paired (SIR K H') vs S ∧ F ++ outs S = w.toks.map tkS ∧ (∀ s ∈ S, s.ok) ∧ szs S ≤ 30000 ∧ m = szs S)
    ⟨_, ts, w.trees, [], none, rfl, s3, same_new ng _ _ (same_new nr _ _ upd_same), upd_same, L2.Paired.mapP hw.trees fun _ _ z => z.map fun _ _ => Same.sqT s3, outs_trees w, ok_trees hnm, by rw [szs_trees]; omega, rfl⟩ (fun m σ H' hp => ?_)
  obtain ⟨vs, S, F, y3, rfl, s, ef, eg, hp, ho, hok, hs3, rfl⟩ := hp
  refine ⟨g, _, rfl, eg, fun hne e ne => ?_, fun hnil e ne => ?_⟩
  · have se := same_new ne (o := .lst [])
    replace ef := se _ _ ef
    replace eg := se _ _ eg
    replace s := s.trans se
    clear ne
    replace hp : Paired (SIR K (upd H' e (.lst []))) vs S := L2.Paired.mapP hp fun _ _ z => z.map fun _ _ => Same.sqT se
    generalize upd H' e (.lst []) = H1 at *
    have hF : F.length + (outs S).length = 2 * w.size := by
      rw [← List.length_append, ho, List.length_map, Wd.toks_len]
    cases hp with
    | nil => exact absurd rfl hne
    | @cons v si vs S hv hp =>
      rw [List.reverse_cons] at eg
      have last : (vs.reverse ++ [v])[(vs.reverse ++ [v]).length - 1]? = some v := by
        rw [List.length_append, List.length_cons, List.length_nil, Nat.add_sub_cancel, List.getElem?_append_right (Nat.le_refl _), Nat.sub_self]
        rfl
      refine ⟨.ref g, rfl, .inl ⟨rfl, _, .inl (.inl eg)⟩, g, _, _, rfl, rfl, eg, last, ?_⟩
      rw [List.dropLast_concat]
      have kT : ∀ a xs, SqT K H1 a xs → SqT K (upd H1 g (.lst vs.reverse)) a xs := fun _ _ => sqT_relst eg
      have ef2 : (upd H1 g (.lst vs.reverse)) f = some (.lst (F.map V.str)) := by rw [upd_ne nfg]; exact ef
      have s2 : Same H (upd H1 g (.lst vs.reverse)) := fun b o e => by
        rw [upd_ne (ne_of_none e ngH)]
        exact s b o e
      have hp2 : Paired (SIR K (upd H1 g (.lst vs.reverse))) vs S := L2.Paired.mapP hp fun _ _ z => z.map kT
      have eg2 : (upd H1 g (.lst vs.reverse)) g = some (.lst vs.reverse) := upd_same
      have hv2 := hv.map kT
      clear eg ef s hp hv last
      generalize upd H1 g (.lst vs.reverse) = H2 at *
      have lS := szs_len S
      have lv := paired_len hp2
      rw [szs_cons] at hs3
      cases si with
      | tok z =>
        have hv3 : v = .str z := hv2
        subst hv3
        obtain ⟨t, ty, kt⟩ := isi_strV (K := K) (H := H2) z
        refine ⟨.str z, rfl, _, .ty "str", t, .type "str", true, rfl, .ty "str", ty, kt, _, rfl, ?_⟩
        refine ⟨.ref f, rfl, .inl ⟨rfl, _, .inl (.inl ef2)⟩, .str z, rfl, f, _, _, rfl, rfl, ef2, big' (by rw [List.length_map]; omega), _, ?_, vs, S, F ++ [z], _, rfl, ?_, ?_, ?_, L2.Paired.mapP hp2 fun _ _ z => z.map fun _ _ => sqT_relst ef2, ?_, fun s m => hok s (List.mem_cons_of_mem _ m), by omega, rfl⟩
        · rw [szs_cons]
          show szs S < 1 + szs S
          omega
        · intro b o e
          rw [upd_ne (ne_of_none e nfr)]
          exact s2 b o e
        · rw [upd_same, List.map_append]
          rfl
        · rw [upd_ne (Ne.symm nfg)]
          exact eg2
        · rw [← ho, outs_cons]
          show F ++ [z] ++ outs S = F ++ ([z] ++ outs S)
          rw [List.append_assoc]
      | tree n i =>
        obtain ⟨t, b, us, rfl, ht, hb, hi⟩ := hv2
        obtain ⟨okn, oki⟩ := hok _ List.mem_cons_self
        obtain ⟨ty', ty, kt⟩ := isi_strT ht
        have hs4 : 2 * i.size + 2 + szs S ≤ 30000 := hs3
        have at0 : atI [V.str n, .ref b] 0 = some (.str n) := atI_nat (j := 0) rfl
        have at1 : atI [V.str n, .ref b] 1 = some (.ref b) := atI_nat (j := 1) rfl
        refine ⟨.ref t, rfl, _, .ty "str", ty', .type "str", false, rfl, .ty "str", ty, kt, _, rfl, ?_⟩
        -- found.append(begin_of(item[0]))
        refine ⟨.ref f, rfl, .inl ⟨rfl, _, .inl (.inl ef2)⟩, .ref t, rfl, t, _, _, _, rfl, rfl, ht, at0, n, rfl, okn, f, _, _, rfl, rfl, ef2, big' (by rw [List.length_map]; omega), ?_⟩
        have kT : ∀ a xs, SqT K H2 a xs → SqT K (upd H2 f (.lst (F.map V.str ++ [.str (tkS (true, n))]))) a xs := fun _ _ => sqT_relst ef2
        have ef3 : (upd H2 f (.lst (F.map V.str ++ [.str (tkS (true, n))]))) f = some (.lst ((F ++ [tkS (true, n)]).map V.str)) := by rw [upd_same, List.map_append]; rfl
        have eg3 : (upd H2 f (.lst (F.map V.str ++ [.str (tkS (true, n))]))) g = some (.lst vs.reverse) := by rw [upd_ne (Ne.symm nfg)]; exact eg2
        have s3 : Same H (upd H2 f (.lst (F.map V.str ++ [.str (tkS (true, n))]))) := fun b o e => by
          rw [upd_ne (ne_of_none e nfr)]
          exact s2 b o e
        have hp3 : Paired (SIR K (upd H2 f (.lst (F.map V.str ++ [.str (tkS (true, n))])))) vs S := L2.Paired.mapP hp2 fun _ _ z => z.map kT
        have ht3 := kT _ _ ht
        have hb3 := kT _ _ hb
        have hi3 := hi.map kT
        generalize upd H2 f (.lst (F.map V.str ++ [.str (tkS (true, n))])) = H3 at *
        -- waiting.append(end_of(item[0]))
        refine ⟨.ref g, rfl, .inl ⟨rfl, _, .inl (.inl eg3)⟩, .ref t, rfl, t, _, _, _, rfl, rfl, ht3, at0, n, rfl, okn, g, _, _, rfl, rfl, eg3, big' (by rw [List.length_reverse]; omega), ?_⟩
        have kT4 : ∀ a xs, SqT K H3 a xs → SqT K (upd H3 g (.lst (vs.reverse ++ [.str (tkS (false, n))]))) a xs := fun _ _ => sqT_relst eg3
        have eg4 : (upd H3 g (.lst (vs.reverse ++ [.str (tkS (false, n))]))) g = some (.lst (V.str (tkS (false, n)) :: vs).reverse) := by rw [upd_same, List.reverse_cons]
        have ef4 : (upd H3 g (.lst (vs.reverse ++ [.str (tkS (false, n))]))) f = some (.lst ((F ++ [tkS (true, n)]).map V.str)) := by rw [upd_ne nfg]; exact ef3
        have s4 : Same H (upd H3 g (.lst (vs.reverse ++ [.str (tkS (false, n))]))) := fun b o e => by
          rw [upd_ne (ne_of_none e ngH)]
          exact s3 b o e
        have hp4 : Paired (SIR K (upd H3 g (.lst (vs.reverse ++ [.str (tkS (false, n))])))) (.str (tkS (false, n)) :: vs) (.tok (tkS (false, n)) :: S) := .cons rfl (L2.Paired.mapP hp3 fun _ _ z => z.map kT4)
        have ht4 := kT4 _ _ ht3
        have hb4 := kT4 _ _ hb3
        have hi4 := hi3.map kT4
        generalize upd H3 g (.lst (vs.reverse ++ [.str (tkS (false, n))])) = H4 at *
        -- waiting.extend(item[1][::-1])
        refine ⟨.ref g, rfl, .inl ⟨rfl, _, .inl (.inl eg4)⟩, .ref t, rfl, t, _, _, _, rfl, rfl, ht4, at1, b, _, rfl, hb4, fun p np => ?_⟩
        have sp := same_new np (o := .tup us.reverse)
        have lu := hi.len
        have lt : i.trees.length = us.length := (paired_len hi.trees).symm
        have lz := szs_len i.trees
        rw [szs_trees] at lz
        refine ⟨g, p, _, _, rfl, rfl, sp _ _ eg4, .inl (.inl upd_same), big (by rw [List.length_reverse, List.length_reverse, List.length_cons]; omega), _, ?_, us ++ .str (tkS (false, n)) :: vs, i.trees ++ .tok (tkS (false, n)) :: S, F ++ [tkS (true, n)], _, rfl, ?_, ?_, ?_, ?_, ?_, ?_, ?_, rfl⟩
        · rw [szs_app, szs_trees, szs_cons, szs_cons]
          show 2 * i.size + (1 + szs S) < 2 * i.size + 2 + szs S
          omega
        · intro b o e
          rw [upd_ne (ne_of_none e ngH)]
          exact sp _ _ (s4 b o e)
        · rw [upd_ne nfg]
          exact sp _ _ ef4
        · rw [upd_same, List.reverse_append]
        · refine paired_app (L2.Paired.mapP hi4.trees fun _ _ z => z.map fun _ _ h => sqT_relst (sp _ _ eg4) (Same.sqT sp h)) (L2.Paired.mapP hp4 fun _ _ z => z.map fun _ _ h => sqT_relst (sp _ _ eg4) (Same.sqT sp h))
        · rw [← ho, outs_app, outs_trees, outs_cons, outs_cons]
          show F ++ [tkS (true, n)] ++ (i.toks.map tkS ++ ([tkS (false, n)] ++ outs S)) = F ++ (tkS (true, n) :: (i.toks.map tkS ++ [tkS (false, n)]) ++ outs S)
          simp only [List.append_assoc, List.cons_append, List.nil_append]
        · intro s m
          rcases List.mem_append.mp m with m | m
          · exact ok_trees oki s m
          · rcases List.mem_cons.mp m with rfl | m
            · trivial
            · exact hok s (List.mem_cons_of_mem _ m)
        · rw [szs_app, szs_trees, szs_cons]
          show 2 * i.size + (1 + szs S) ≤ 30000
          omega
  · have hv : vs = [] := by
      have := congrArg List.length hnil
      rw [List.length_reverse] at this
      exact List.eq_nil_of_length_eq_zero this
    subst hv
    cases hp
    have hF : F = w.toks.map tkS := by
      rw [← ho]
      exact (List.append_nil F).symm
    refine rest _ _ ⟨y3, rfl, s.trans (same_new ne), ?_⟩
    rw [← hF]
    exact same_new ne _ _ ef

/-- the wood that a dict of kids tells, below a name -/
def sp_wood_ofL (K : PySem.W.Frag) (n : Nat) : Sp := fun vs H Q _ => ∃ (D : Addr) (k : Str) (kvs : List (Key × V)) (l : Addr) (w : Wd), vs = [.ref D, .str k] ∧ H D = some (.dK kvs) ∧ valV kvs (.inr k) = some (.ref l) ∧ H l = some (.lst (w.tops.map V.str)) ∧ KW kvs H w ∧ w.dep < n ∧ w.size ≤ 10000 ∧
  ∀ (H' : Hp) (p : Addr) (ts : List V), Same H H' → H p = none → SqT K H' p ts → WdL K H' ts w → Q (.ref p) H'
/-- slots of _law_wood_of: 0 _law_kids_here, 1 _law_name_here, 2 _law_kid -/
def n_wood_ofL : List Str := ["_law_kids_here", "_law_name_here", "_law_kid"]
def t_wood_ofL (n : Nat) (K : PySem.W.Frag) : TS :=
  (tRet (tCB (rTupOf K) (tCons (tLc (iList K (tDGet (tVar 0) (tVar 1))) (gName 2) tYes (tTup (tCons (tVar 2) (tCons (tCall (sp_wood_ofL K n) [] E0 (tCons (tVar 0) (tCons (tVar 2) tNil))) tNil))) [2]) tNil)))

theorem none_wood_ofL {K : PySem.W.Frag} (vs : List V) (H : Hp) (Q : VK) (E : XK) (h : sp_wood_ofL K 0 vs H Q E) : False := by
  obtain ⟨_, _, _, _, _, _, _, _, _, _, h, _⟩ := h
  exact Nat.not_lt_zero _ h
theorem KW.same {kvs : List (Key × V)} {H H' : Hp} {w : Wd} (h : KW kvs H w) (s : Same H H') : KW kvs H' w := h.mono fun _ _ _ _ e1 e2 => ⟨e1, s _ _ e2⟩
theorem Wd.take_more : ∀ {w : Wd} {i : Nat} {n : Str}, w.tops[i]? = some n → ∃ inner, w.take (i + 1) = (w.take i).app (.cons n inner .nil) ∧ inner.dep < w.dep ∧ inner.size < w.size ∧ (∀ m ∈ n :: inner.names, m ∈ w.names)
  | .nil, _, _, h => by cases h
  | .cons m i r, 0, n, h => by
    have e : m = n := Option.some.inj h
    subst e
    refine ⟨i, rfl, ?_, ?_, fun x hx => ?_⟩
    · show i.dep < max (i.dep + 1) r.dep
      omega
    · show i.size < i.size + r.size + 1
      omega
    · rcases List.mem_cons.mp hx with rfl | hx
      · exact List.mem_cons_self
      · exact List.mem_cons_of_mem _ (List.mem_append_left _ hx)
  | .cons m i r, j + 1, n, h => by
    obtain ⟨inner, e, h1, h2, h3⟩ := Wd.take_more (w := r) (i := j) h
    refine ⟨inner, congrArg (Wd.cons m i) e, ?_, ?_, fun x hx => List.mem_cons_of_mem _ (List.mem_append_right _ (h3 x hx))⟩
    · show inner.dep < max (i.dep + 1) r.dep
      omega
    · show inner.size < i.size + r.size + 1
      omega
theorem KW.get {kvs : List (Key × V)} {H : Hp} : ∀ {w : Wd} {i : Nat} {n : Str}, KW kvs H w → w.tops[i]? = some n → ∃ inner l, valV kvs (.inr n) = some (.ref l) ∧ H l = some (.lst (inner.tops.map V.str)) ∧ KW kvs H inner ∧ w.take (i + 1) = (w.take i).app (.cons n inner .nil) ∧ inner.dep < w.dep ∧ inner.size < w.size
  | .nil, _, _, _, h => by cases h
  | .cons m i r, 0, n, ⟨⟨l, h1, h2⟩, hi, _⟩, h => by
    have e : m = n := Option.some.inj h
    subst e
    refine ⟨i, l, h1, h2, hi, rfl, ?_, ?_⟩
    · show i.dep < max (i.dep + 1) r.dep
      omega
    · show i.size < i.size + r.size + 1
      omega
  | .cons m i r, j + 1, n, ⟨_, _, hr⟩, h => by
    obtain ⟨inner, l, h1, h2, h3, e, h4, h5⟩ := KW.get (w := r) (i := j) hr h
    refine ⟨inner, l, h1, h2, h3, congrArg (Wd.cons m i) e, ?_, ?_⟩
    · show inner.dep < max (i.dep + 1) r.dep
      omega
    · show inner.size < i.size + r.size + 1
      omega
theorem Wd.take_all : ∀ {w : Wd} {k : Nat}, w.tops.length ≤ k → w.take k = w
  | .nil, 0, _ => rfl
  | .nil, _ + 1, _ => rfl
  | .cons _ _ _, 0, h => absurd h (Nat.not_succ_le_zero _)
  | .cons n i r, k + 1, h => congrArg (Wd.cons n i) (Wd.take_all (Nat.le_of_succ_le_succ h))
theorem Wd.tops_len : ∀ w : Wd, w.tops.length ≤ w.size
  | .nil => Nat.le_refl _
  | .cons n i r => by
    have := Wd.tops_len r
    show r.tops.length + 1 ≤ i.size + r.size + 1
    omega
theorem pure_wood_ofL {K : PySem.W.Frag} (n : Nat) (vs : List V) (H : Hp) (Q : VK) (E : XK) (h : sp_wood_ofL K (n + 1) vs H Q E) : t_wood_ofL n K { nx := fun _ H' => Q .non H', rt := Q } (start n_wood_ofL vs) H := by
  obtain ⟨D, k, kvs, l, w, rfl, eD, ek, el, hw, hd, hsz, q⟩ := h
  have tl := w.tops_len
  refine ⟨.ref D, rfl, .str k, rfl, D, .ref l, rfl, .inl ⟨kvs, .inr k, .inl eD, rfl, ek.symm⟩, l, rfl, ⟨_, .inl (.inl el)⟩, fun L nL => ?_⟩
  refine lc_it (walk_list (xs := w.tops.map V.str)) (fun i H' => Same H H' ∧ ∃ ts, H' L = some (.lst ts) ∧ WdL K H' ts (w.take i)) ⟨same_new nL, [], upd_same, .nil⟩ (fun i H' _ hp => .inl (.inl (hp.1 _ _ el))) (fun i v H' H2 hi hp hy => ?_) (fun H' hp => ?_)
  · obtain ⟨s, ts, eL, hts⟩ := hp
    obtain ⟨rfl, hv⟩ := hy
    rw [List.length_map] at hi
    have hn : w.tops[i]? = some w.tops[i] := List.getElem?_eq_getElem hi
    have ev : v = .str w.tops[i] := by
      rw [List.getElem?_map, hn] at hv
      exact (Option.some.inj hv).symm
    subst ev
    obtain ⟨inner, li, h1, h2, h3, e, h4, h5⟩ := hw.get hn
    generalize w.tops[i] = nm at *
    have ltk := hts.len
    rw [Wd.tops_take, List.length_take] at ltk
    refine ⟨rfl, .str nm, rfl, .ref D, rfl, .str nm, rfl, D, nm, kvs, li, inner, rfl, s _ _ eD, h1, s _ _ h2, h3.same s, by omega, by omega, fun H4 p us s4 np hp hus => ⟨big (by show 2 ≤ 100000; decide), fun t nt => ?_⟩⟩
    have s5 := s4.trans (same_new nt (o := .tup [.str nm, .ref p]))
    have eL5 := s5 _ _ eL
    refine ⟨ts, eL5, big' (by omega), fun b o e => ?_, ts ++ [.ref t], upd_same, ?_⟩
    · rw [upd_ne (ne_of_none e nL)]
      exact s5 _ _ (s b o e)
    · rw [e]
      exact ((hts.same s5).relst eL5).app (.cons (sqT_relst eL5 (.inl (.inl upd_same))) (sqT_relst eL5 (Same.sqT (same_new nt) hp)) ((hus.same (same_new nt)).relst eL5) .nil)
  · obtain ⟨s, ts, eL, hts⟩ := hp
    rw [List.length_map, Wd.take_all (Nat.le_refl _)] at hts
    exact ⟨L, ts, rfl, .inl ⟨.inl (.inl eL), fun p np => q _ p ts (s.trans (same_new np)) (s.free np) (.inl (.inl upd_same)) (hts.same (same_new np))⟩⟩

/-! ### the dict of kids, with the top -/
def Wd.put (k : Str) (a t : Nat) (nm : Str) (w : Wd) : Wd := if k = "" then w.grp a t nm else w.upd k (Wd.grp a t nm)
def Wd.inn (k : Str) (w : Wd) : Option Wd := if k = "" then some w else w.sub k
theorem Wd.names_put {k nm : Str} {a t : Nat} {w : Wd} (nd : w.names.Nodup) (hk : k = "" ∨ k ∈ w.names) : (w.put k a t nm).names.Perm (nm :: w.names) := by
  unfold Wd.put
  by_cases c : k = ""
  · rw [if_pos c]
    exact Wd.names_grp a t nm w
  · rw [if_neg c]
    exact Wd.names_upd (Wd.names_grp a t nm) nd (hk.resolve_left c)
def KT (kvs : List (Key × V)) (H : Hp) (w : Wd) : Prop := (∃ l, valV kvs (.inr "") = some (.ref l) ∧ H l = some (.lst (w.tops.map V.str))) ∧ KW kvs H w
theorem KT.at {kvs : List (Key × V)} {H : Hp} {w : Wd} {k : Str} (h : KT kvs H w) (hk : k = "" ∨ k ∈ w.names) : ∃ i, w.inn k = some i ∧ ∃ l, valV kvs (.inr k) = some (.ref l) ∧ H l = some (.lst (i.tops.map V.str)) := by
  unfold Wd.inn
  by_cases c : k = ""
  · rw [if_pos c, c]
    exact ⟨w, rfl, h.1⟩
  · rw [if_neg c]
    exact h.2.at (hk.resolve_left c)
theorem KT.put {kvs kvs' : List (Key × V)} {H H' : Hp} {w : Wd} {k nm : Str} {a t : Nat} (nd : w.names.Nodup) (ne : ("" : Str) ∉ w.names)
    (m : ∀ n : Str, (n = "" ∨ n ∈ w.names) → n ≠ k → ∀ l xs, valV kvs (.inr n) = some (.ref l) → H l = some (.lst xs) → valV kvs' (.inr n) = some (.ref l) ∧ H' l = some (.lst xs))
    (hk : ∀ i, w.inn k = some i → (∃ l, valV kvs' (.inr k) = some (.ref l) ∧ H' l = some (.lst ((i.grp a t nm).tops.map V.str))) ∧ ∃ l, valV kvs' (.inr nm) = some (.ref l) ∧ H' l = some (.lst (((i.drop a).take t).tops.map V.str)))
    (h : KT kvs H w) : KT kvs' H' (w.put k a t nm) := by
  unfold Wd.put
  unfold Wd.inn at hk
  by_cases c : k = ""
  · rw [if_pos c] at hk ⊢
    obtain ⟨g1, g2⟩ := hk w rfl
    rw [c] at g1
    exact ⟨g1, KW.grp (h.2.mono fun n hn => m n (.inr hn) (by rw [c]; rintro rfl; exact ne hn)) g2⟩
  · rw [if_neg c] at hk ⊢
    obtain ⟨⟨l, e1, e2⟩, hw⟩ := h
    obtain ⟨g1, g2⟩ := m "" (.inl rfl) (Ne.symm c) l _ e1 e2
    exact ⟨⟨l, g1, by rw [Wd.tops_upd]; exact g2⟩, KW.upd nd (fun n hn => m n (.inr hn)) hk hw⟩
/-- the state of a wood that is being made -/
structure Kd (d D : Addr) (H0 H : Hp) (kvs : List (Key × V)) (w : Wd) : Prop where
  at_ : H D = some (.dK kvs)
  ks : ∀ q ∈ kvs, ∃ k : Str, q.1 = .inr k ∧ (k = "" ∨ k ∈ w.names)
  pos : 0 < kvs.length
  len : kvs.length ≤ w.size + 1
  kt : KT kvs H w
  fr : ∀ (k : Str) l, valV kvs (.inr k) = some (.ref l) → H0 l = none
  inj : ∀ (k k' : Str) l, valV kvs (.inr k) = some (.ref l) → valV kvs (.inr k') = some (.ref l) → k = k'
  nD : H0 D = none
  kp : Kp d H0 H
  dk : Dk H d
  nd : w.names.Nodup
  ne : ∀ n ∈ w.names, IsNm n
theorem nm_ne {z : Str} (h : IsNm z) : z ≠ "" := by
  rintro rfl
  exact absurd h.1 (by decide +kernel)
theorem Kd.e0 {d D : Addr} {H0 H : Hp} {kvs : List (Key × V)} {w : Wd} (h : Kd d D H0 H kvs w) : ("" : Str) ∉ w.names := fun m => nm_ne (h.ne _ m) rfl
theorem KT.mono {kvs : List (Key × V)} {H H' : Hp} {w : Wd} (k : ∀ (n : Str) l xs, valV kvs (.inr n) = some (.ref l) → H l = some (.lst xs) → H' l = some (.lst xs)) (h : KT kvs H w) : KT kvs H' w := by
  obtain ⟨⟨l, e1, e2⟩, hw⟩ := h
  exact ⟨⟨l, e1, k _ _ _ e1 e2⟩, hw.mono fun n _ l xs e1 e2 => ⟨e1, k n l xs e1 e2⟩⟩
theorem Kd.keep {d D : Addr} {H0 H H' : Hp} {kvs : List (Key × V)} {w : Wd} (hD0 : Dk H0 d) (h : Kd d D H0 H kvs w) (k : Kp d H H') (hD : Dk H' d) : Kd d D H0 H' kvs w :=
  ⟨k _ _ (hD0.ne h.nD) h.at_, h.ks, h.pos, h.len, h.kt.mono fun n l xs e1 e2 => k _ _ (hD0.ne (h.fr n l e1)) e2, h.fr, h.inj, h.nD, h.kp.trans k, hD, h.nd, h.ne⟩
theorem key_mem {kvs : List (Key × V)} {k : Key} {v : V} (h : valV kvs k = some v) : ∃ q ∈ kvs, q.1 = k := by
  unfold valV at h
  cases e : kvs.find? (fun kv => decide (kv.1 = k)) with
  | none => rw [e] at h; cases h
  | some q => exact ⟨q, List.mem_of_find?_eq_some e, of_decide_eq_true (List.find?_some (p := fun kv : Key × V => decide (kv.1 = k)) e)⟩
theorem put_keys {kvs : List (Key × V)} {k : Key} {v : V} {q : Key × V} (h : q ∈ putK kvs k v) : q.1 = k ∨ q ∈ kvs := by
  unfold putK at h
  split at h
  · obtain ⟨x, hx, e⟩ := List.mem_map.mp h
    split at e
    · rename_i c
      rw [← e]
      exact .inl c
    · rw [← e]
      exact .inr hx
  · rcases List.mem_append.mp h with h | h
    · exact .inr h
    · rcases List.mem_cons.mp h with rfl | h
      · exact .inl rfl
      · cases h
theorem put_len_old {kvs : List (Key × V)} {k : Key} {v u : V} (h : valV kvs k = some u) : (putK kvs k v).length = kvs.length := by
  unfold putK
  obtain ⟨q, hq, e⟩ := key_mem h
  rw [if_pos (List.any_eq_true.mpr ⟨q, hq, decide_eq_true e⟩), List.length_map]
theorem put_len {kvs : List (Key × V)} {k : Key} {v : V} : (putK kvs k v).length ≤ kvs.length + 1 ∧ kvs.length ≤ (putK kvs k v).length := by
  unfold putK
  split
  · rw [List.length_map]
    omega
  · rw [List.length_append, List.length_cons, List.length_nil]
    omega
theorem Wd.sub_size : ∀ {w i : Wd} {k : Str}, w.sub k = some i → i.size ≤ w.size
  | .nil, _, _, h => by cases h
  | .cons n i r, x, k, h => by
    have h' : (if n = k then some i else match Wd.sub k i with | some x => some x | none => Wd.sub k r) = some x := h
    show x.size ≤ i.size + r.size + 1
    by_cases c : n = k
    · rw [if_pos c] at h'
      cases h'
      omega
    · rw [if_neg c] at h'
      cases e : Wd.sub k i with
      | some y =>
        rw [e] at h'
        cases h'
        have := Wd.sub_size e
        omega
      | none =>
        rw [e] at h'
        have := Wd.sub_size h'
        omega
theorem Wd.inn_size {w i : Wd} {k : Str} (h : w.inn k = some i) : i.size ≤ w.size := by
  unfold Wd.inn at h
  by_cases c : k = ""
  · rw [if_pos c] at h
    cases h
    exact Nat.le_refl _
  · rw [if_neg c] at h
    exact Wd.sub_size h
/-- a new name over some kids: two new lists in the dict -/
theorem Kd.step {d D : Addr} {H0 H Hf : Hp} {kvs : List (Key × V)} {w i : Wd} {nm over : Str} {l1 l6 : Addr} {a t : Nat} (hD0 : Dk H0 d) (h : Kd d D H0 H kvs w) (inm : IsNm nm) (nin : nm ∉ w.names) (hover : over = "" ∨ over ∈ w.names) (hin : w.inn over = some i)
    (eD : Hf D = some (.dK (putK (putK kvs (.inr nm) (.ref l1)) (.inr over) (.ref l6)))) (e1 : Hf l1 = some (.lst (((i.tops.drop a).take t).map V.str))) (e6 : Hf l6 = some (.lst ((i.tops.take a ++ nm :: (i.tops.drop a).drop t).map V.str)))
    (n1 : H l1 = none) (n6 : H l6 = none) (n16 : l1 ≠ l6) (oth : ∀ b o, b ≠ D → H b = some o → Hf b = some o) : Kd d D H0 Hf (putK (putK kvs (.inr nm) (.ref l1)) (.inr over) (.ref l6)) (w.put over a t nm) := by
  have nDd := hD0.ne h.nD
  have non : nm ≠ over := by
    rintro rfl
    rcases hover with e | e
    · exact nm_ne inm e
    · exact nin e
  have val : ∀ k : Str, valV (putK (putK kvs (.inr nm) (.ref l1)) (.inr over) (.ref l6)) (.inr k) = if k = over then some (.ref l6) else if k = nm then some (.ref l1) else valV kvs (.inr k) := fun k => by
    rw [valV_put, valV_put]
    by_cases c1 : k = over
    · rw [if_pos c1, if_pos (by rw [c1])]
    · rw [if_neg c1, if_neg (fun z => c1 (Sum.inr.inj z))]
      by_cases c2 : k = nm
      · rw [if_pos c2, if_pos (by rw [c2])]
      · rw [if_neg c2, if_neg (fun z => c2 (Sum.inr.inj z))]
  have pm := Wd.names_put (a := a) (t := t) (nm := nm) h.nd hover
  have n1d : l1 ≠ d := by
    rintro rfl
    exact (h.dk.ne n1) rfl
  have n6d : l6 ≠ d := by
    rintro rfl
    exact (h.dk.ne n6) rfl
  have f1 : H0 l1 = none := h.kp.free n1d n1
  have f6 : H0 l6 = none := h.kp.free n6d n6
  obtain ⟨i', hi', lo, ev, elo⟩ := h.kt.at hover
  have ei : i' = i := Option.some.inj (hi'.symm.trans hin)
  subst ei
  have old : ∀ (k : Str) l, valV kvs (.inr k) = some (.ref l) → ∃ q ∈ kvs, q.1 = .inr k := fun k l e => key_mem e
  have oldm : ∀ (k : Str) l, valV kvs (.inr k) = some (.ref l) → k = "" ∨ k ∈ w.names := fun k l e => by
    obtain ⟨q, hq, eq⟩ := old k l e
    obtain ⟨k', ek, hk'⟩ := h.ks q hq
    rw [eq] at ek
    cases ek
    exact hk'
  have oldl : ∀ (k : Str) l, valV kvs (.inr k) = some (.ref l) → ∃ j : Wd, H l = some (.lst (j.tops.map V.str)) := fun k l e => by
    obtain ⟨j, _, l', e', h'⟩ := h.kt.at (oldm k l e)
    rw [e] at e'
    cases e'
    exact ⟨j, h'⟩
  refine ⟨eD, fun q hq => ?_, ?_, ?_, KT.put h.nd h.e0 (fun n hn nk l xs e1 e2 => ?_) (fun j hj => ?_) h.kt, fun k l e => ?_, fun k k' l e e' => ?_, h.nD, fun b o n e => ?_, ?_, ?_, fun n hn => ?_⟩
  · rcases put_keys hq with e | hq
    · refine ⟨over, e, ?_⟩
      rcases hover with z | z
      · exact .inl z
      · exact .inr (pm.mem_iff.mpr (List.mem_cons_of_mem _ z))
    · rcases put_keys hq with e | hq
      · exact ⟨nm, e, .inr (pm.mem_iff.mpr List.mem_cons_self)⟩
      · obtain ⟨k, ek, hk⟩ := h.ks q hq
        exact ⟨k, ek, hk.imp id fun z => pm.mem_iff.mpr (List.mem_cons_of_mem _ z)⟩
  · have p1 := (put_len (kvs := kvs) (k := .inr nm) (v := .ref l1)).2
    have p2 := (put_len (kvs := putK kvs (.inr nm) (.ref l1)) (k := .inr over) (v := .ref l6)).2
    have := h.pos
    omega
  · have p1 := (put_len (kvs := kvs) (k := .inr nm) (v := .ref l1)).1
    have p2 : (putK (putK kvs (.inr nm) (.ref l1)) (.inr over) (.ref l6)).length = (putK kvs (.inr nm) (.ref l1)).length := put_len_old (u := .ref lo) (by rw [valV_put, if_neg (fun z => non (Sum.inr.inj z).symm)]; exact ev)
    have p3 := h.len
    have p4 := pm.length_eq
    rw [List.length_cons, Wd.size_names, Wd.size_names] at p4
    omega
  · have nnm : n ≠ nm := by
      rintro rfl
      rcases hn with z | z
      · exact nm_ne inm z
      · exact nin z
    refine ⟨by rw [val, if_neg nk, if_neg nnm]; exact e1, oth l _ ?_ e2⟩
    rintro rfl
    rw [h.at_] at e2
    cases e2
  · rw [hin] at hj
    cases hj
    refine ⟨⟨l6, by rw [val, if_pos rfl], ?_⟩, l1, by rw [val, if_neg non, if_pos rfl], ?_⟩
    · rw [Wd.tops_grp]
      exact e6
    · rw [Wd.tops_take, Wd.tops_drop]
      exact e1
  · rw [val] at e
    split at e
    · cases e
      exact f6
    · split at e
      · cases e
        exact f1
      · exact h.fr k l e
  · rw [val] at e e'
    have no6 : ∀ k : Str, valV kvs (.inr k) = some (.ref l6) → False := fun k z => by
      obtain ⟨j, hj⟩ := oldl k l6 z
      rw [n6] at hj
      cases hj
    have no1 : ∀ k : Str, valV kvs (.inr k) = some (.ref l1) → False := fun k z => by
      obtain ⟨j, hj⟩ := oldl k l1 z
      rw [n1] at hj
      cases hj
    by_cases c1 : k = over
    · rw [if_pos c1] at e
      cases e
      by_cases c2 : k' = over
      · rw [c1, c2]
      · rw [if_neg c2] at e'
        split at e'
        · exact absurd (V.ref.inj (Option.some.inj e')) n16
        · exact (no6 _ e').elim
    · rw [if_neg c1] at e
      by_cases c3 : k = nm
      · rw [if_pos c3] at e
        cases e
        by_cases c2 : k' = over
        · rw [if_pos c2] at e'
          exact absurd (V.ref.inj (Option.some.inj e')).symm n16
        · rw [if_neg c2] at e'
          by_cases c4 : k' = nm
          · rw [c3, c4]
          · rw [if_neg c4] at e'
            exact (no1 _ e').elim
      · rw [if_neg c3] at e
        by_cases c2 : k' = over
        · rw [if_pos c2] at e'
          cases e'
          exact (no6 _ e).elim
        · rw [if_neg c2] at e'
          by_cases c4 : k' = nm
          · rw [if_pos c4] at e'
            cases e'
            exact (no1 _ e).elim
          · rw [if_neg c4] at e'
            exact h.inj k k' l e e'
  · refine oth b o ?_ (h.kp b o n e)
    rintro rfl
    rw [h.nD] at e
    cases e
  · obtain ⟨g, m, c, ed⟩ := h.dk
    exact ⟨g, m, c, oth _ _ (Ne.symm nDd) ed⟩
  · exact pm.nodup_iff.mpr (List.nodup_cons.mpr ⟨nin, h.nd⟩)
  · rcases List.mem_cons.mp (pm.mem_iff.mp hn) with rfl | z
    · exact inm
    · exact h.ne n z
/-- what a maker of woods promises -/
def WoodOut (K : PySem.W.Frag) (d : Addr) (H : Hp) (ns : List Str) (most : Nat) (Q : VK) : Prop := ∀ (H' : Hp) (p : Addr) (w : Wd), H p = none → WdR K H' (.ref p) w → w.names.Perm ns → w.dep ≤ most → Kp d H H' → Dk H' d → Q (.ref p) H'

/-- slots of _law_wood: 0 _law_deck_here, 1 _law_names_here, 2 _law_kids_here, 3 _law_name_here, 4 _law_over, 5 _law_at, 6 _law_some, 7 _law_take -/
def n_woodL : List Str := ["_law_deck_here", "_law_names_here", "_law_kids_here", "_law_name_here", "_law_over", "_law_at", "_law_some", "_law_take"]
def t_woodL (K : PySem.W.Frag) : TS :=
  (tSeq (tAsg (tDisp [((tC (.str "")), (tLst tNil))]) (gName 2))
    (tSeq (tFor (iList K (tVar 1)) (gName 3) (tSeq (tAsg (tOp (rIxL K) (tKeysL (tVar 2)) (tCall sp_drawL [] E0 (tCons (tVar 0) (tCons (tCB rLenD (tCons (tVar 2) tNil)) tNil)))) (gName 4))
    (tSeq (tAsg (tCall sp_drawL [] E0 (tCons (tVar 0) (tCons (tOp rAddI (tCB (rLenQ K) (tCons (tDGet (tVar 2) (tVar 4)) tNil)) (tC (.int 1))) tNil))) (gName 5))
    (tSeq (tAsg (tDGet (tVar 2) (tVar 4)) (gName 6))
    (tSeq (tAsg (tOp rMulI (tOp rDivI (tCall sp_drawL [] E0 (tCons (tVar 0) (tCons (tC (.int 4)) tNil))) (tC (.int 3))) (tCall sp_drawL [] E0 (tCons (tVar 0) (tCons (tOp rAddI (tOp rSubI (tCB (rLenQ K) (tCons (tVar 6) tNil)) (tVar 5)) (tC (.int 1))) tNil)))) (gName 7))
    (tSeq (tDPut (tVar 2) (tVar 3) (L2.tSl (rSlL K) (tVar 6) (tPart (tVar 5)) (tPart (tOp rAddI (tVar 5) (tVar 7)))))
    (tDPut (tVar 2) (tVar 4) (tOp rCat (tOp rCat (L2.tSl (rSlL K) (tVar 6) tNoPart (tPart (tVar 5))) (tLst (tCons (tVar 3) tNil))) (L2.tSl (rSlL K) (tVar 6) (tPart (tOp rAddI (tVar 5) (tVar 7))) tNoPart)))))))))
    (tRet (tCall (sp_wood_ofL K 60) [] E0 (tCons (tVar 2) (tCons (tC (.str "")) tNil))))))

def sp_woodL (K : PySem.W.Frag) : Sp := fun vs H Q _ => ∃ (d l : Addr) (ns : List Str), vs = [.ref d, .ref l] ∧ Dk H d ∧ l ≠ d ∧ H l = some (.lst (ns.map V.str)) ∧ ns.Nodup ∧ (∀ z ∈ ns, IsNm z) ∧ ns.length ≤ 50 ∧ WoodOut K d H ns ns.length Q
theorem cut_mid (zs : List Str) (a t : Nat) : cutV (zs.map V.str) (some (a : Int)) (some ((a : Int) + (t : Int))) = ((zs.drop a).take t).map V.str := by
  rw [cut_map_eq, show (a : Int) + (t : Int) = ((a + t : Nat) : Int) by omega, HT.sIx_nat, HT.sIx_nat]
  congr 1
  by_cases h : a ≤ zs.length
  · rw [Nat.min_eq_left h]
    by_cases h2 : a + t ≤ zs.length
    · rw [Nat.min_eq_left h2, Nat.add_sub_cancel_left]
    · rw [Nat.min_eq_right (by omega), List.take_of_length_le (by rw [List.length_drop]; omega), List.take_of_length_le (by rw [List.length_drop]; omega)]
  · rw [Nat.min_eq_right (by omega : zs.length ≤ a + t), Nat.min_eq_right (by omega : zs.length ≤ a), List.drop_of_length_le (Nat.le_refl _), List.drop_of_length_le (by omega)]
    simp
theorem cut_to (zs : List Str) (a : Nat) : cutV (zs.map V.str) none (some (a : Int)) = (zs.take a).map V.str := by
  rw [cut_map_eq, HT.sIx_nat, HT.sIx_none, List.drop_zero, Nat.sub_zero]
  congr 1
  by_cases h : a ≤ zs.length
  · rw [Nat.min_eq_left h]
  · rw [Nat.min_eq_right (by omega), List.take_of_length_le (Nat.le_refl _), List.take_of_length_le (by omega)]
theorem cut_frm (zs : List Str) (a t : Nat) : cutV (zs.map V.str) (some ((a : Int) + (t : Int))) none = ((zs.drop a).drop t).map V.str := by
  rw [cut_map_eq, show (a : Int) + (t : Int) = ((a + t : Nat) : Int) by omega, HT.sIx_nat, HT.sIx_none, List.drop_drop]
  congr 1
  by_cases h : a + t ≤ zs.length
  · rw [Nat.min_eq_left h]
    exact List.take_of_length_le (by rw [List.length_drop]; omega)
  · rw [Nat.min_eq_right (by omega), List.drop_of_length_le (Nat.le_refl _), List.drop_of_length_le (by omega)]
    simp
theorem pure_woodL {K : PySem.W.Frag} (vs : List V) (H : Hp) (Q : VK) (E : XK) (h : sp_woodL K vs H Q E) : t_woodL K { nx := fun _ H' => Q .non H', rt := Q } (start n_woodL vs) H := by
  obtain ⟨d, l, ns, rfl, hD, nl, el, nsd, nsn, nsl, q⟩ := h
  intro D nD
  refine ⟨big (by decide), fun l0 nl0 => ⟨same_new nl0 _ _ upd_same, [(.inr "", .ref l0)], rfl, by show 1 ≤ 15; decide, ?_⟩⟩
  have nDd : D ≠ d := hD.ne nD
  have sD := same_new nD (o := .dK [])
  have nl0H : H l0 = none := sD.free nl0
  have nDl0 : D ≠ l0 := ne_of_none upd_same nl0
  have s3 : Same H (upd (upd (upd H D (.dK [])) l0 (.lst [])) D (.dK [(.inr "", .ref l0)])) := fun b o e => by
    rw [upd_ne (ne_of_none e nD)]
    exact same_new nl0 _ _ (sD _ _ e)
  have v0 : ∀ (k : Str) (u : Addr), valV [((.inr "" : Key), V.ref l0)] (.inr k) = some (.ref u) → k = "" ∧ u = l0 := fun k u e => by
    by_cases c : k = ""
    · subst c
      rw [valV_pos rfl] at e
      exact ⟨rfl, (V.ref.inj (Option.some.inj e)).symm⟩
    · rw [valV_neg (fun z => c (Sum.inr.inj z).symm)] at e
      cases e
  have k0 : Kd d D H (upd (upd (upd H D (.dK [])) l0 (.lst [])) D (.dK [(.inr "", .ref l0)])) [(.inr "", .ref l0)] .nil := by
    refine ⟨upd_same, fun q hq => ?_, by show 0 < 1; decide, by show 1 ≤ 0 + 1; decide, ⟨⟨l0, valV_pos rfl, ?_⟩, trivial⟩, fun k u e => by rw [(v0 k u e).2]; exact nl0H, fun k k' u e e' => by rw [(v0 k u e).1, (v0 k' u e').1], nD, Kp.of s3, hD.same s3, List.nodup_nil, (fun _ h => nomatch h)⟩
    · rcases List.mem_cons.mp hq with rfl | hq
      · exact ⟨"", rfl, .inl rfl⟩
      · cases hq
    · rw [upd_ne (Ne.symm nDl0)]
      exact upd_same
  have el3 := s3 _ _ el
  dsimp only [gName]
  change tSeq (tFor _ _ _) _ _ _ (upd (upd (upd H D (.dK [])) l0 (.lst [])) D (.dK [(.inr "", .ref l0)]))
  generalize upd (upd (upd H D (.dK [])) l0 (.lst [])) D (.dK [(.inr "", .ref l0)]) = H3 at *
  refine ⟨.ref l, rfl, l, rfl, ⟨_, .inl (.inl el3)⟩, for_it (walk_list (xs := ns.map V.str)) (fun i σ H' => ∃ (kvs : List (Key × V)) (w : Wd) (y3 y4 y5 y6 y7 : Option V), σ = [some (.ref d), some (.ref l), some (.ref D), y3, y4, y5, y6, y7] ∧ Kd d D H H' kvs w ∧ w.names.Perm (ns.take i) ∧ H' l = some (.lst (ns.map V.str)))
    ⟨_, .nil, none, none, none, none, none, rfl, k0, .nil, el3⟩ (fun i σ H' _ hJ => ?_) (fun i x σ H' H2 hi hJ hy => ?_) (fun σ H' hJ => ?_)⟩
  · obtain ⟨_, _, _, _, _, _, _, _, _, _, e⟩ := hJ
    exact .inl (.inl e)
  · obtain ⟨kvs, w, y3, y4, y5, y6, y7, rfl, hK, hP, el⟩ := hJ
    obtain ⟨rfl, hx⟩ := hy
    rw [List.length_map] at hi
    obtain ⟨nm, enm⟩ : ∃ nm, ns[i] = nm := ⟨_, rfl⟩
    have hnm : ns[i]? = some nm := by rw [← enm]; exact List.getElem?_eq_getElem hi
    have ex : x = .str nm := by
      rw [List.getElem?_map, hnm] at hx
      exact (Option.some.inj hx).symm
    subst ex
    have tk : ns.take (i + 1) = ns.take i ++ [nm] := by rw [List.take_add_one, hnm]; rfl
    have nin : nm ∉ w.names := fun m => by
      have m2 : nm ∈ ns.take i := hP.mem_iff.mp m
      have nd2 : (ns.take i ++ [nm]).Nodup := by rw [← tk]; exact nsd.sublist (List.take_sublist _ _)
      exact (List.nodup_append.mp nd2).2.2 _ m2 _ List.mem_cons_self rfl
    have inm : IsNm nm := nsn nm (List.mem_of_getElem? hnm)
    have lw : w.size = i := by rw [← Wd.size_names, hP.length_eq, List.length_take]; omega
    have lk := hK.len
    -- over
    refine ⟨.ref D, rfl, D, kvs, rfl, hK.at_, fun lk nlk => ?_⟩
    have slk := same_new nlk (o := .lst (kvs.map fun q => kV q.1))
    have nlkd : lk ≠ d := hK.dk.ne nlk
    replace hK := hK.keep hD (Kp.of slk) (hK.dk.same slk)
    replace el := slk _ _ el
    have elk : (upd H2 lk (.lst (kvs.map fun q => kV q.1))) lk = _ := upd_same
    clear nlk slk
    generalize upd H2 lk (.lst (kvs.map fun q => kV q.1)) = H4 at *
    refine ⟨.ref d, rfl, .ref D, rfl, D, kvs, rfl, hK.at_, d, _, rfl, hK.dk, by have := hK.pos; omega, by omega, fun H5 r5 r50 r51 k5 hD5 => ?_⟩
    obtain ⟨p5, rfl⟩ : ∃ p5 : Nat, r5 = p5 := ⟨r5.toNat, by omega⟩
    have hp5 : p5 < kvs.length := by omega
    obtain ⟨over, eover, hover⟩ := hK.ks kvs[p5] (List.getElem_mem hp5)
    have at5 : atI (kvs.map fun q => kV q.1) (p5 : Int) = some (.str over) := atI_nat (by
      rw [List.getElem?_map, List.getElem?_eq_getElem hp5]
      show some (kV kvs[p5].1) = _
      rw [eover]
      rfl)
    replace elk := k5 _ _ nlkd elk
    replace hK := hK.keep hD k5 hD5
    replace el := k5 _ _ nl el
    refine ⟨lk, _, _, _, rfl, rfl, .inl (.inl elk), at5, ?_⟩
    obtain ⟨j, hin, lo, ev, elo⟩ := hK.kt.at hover
    have lod : lo ≠ d := hD.ne (hK.fr over lo ev)
    have jl := j.tops_len
    have js := Wd.inn_size hin
    -- at
    refine ⟨.ref d, rfl, .ref D, rfl, .str over, rfl, D, .ref lo, rfl, .inl ⟨kvs, .inr over, .inl hK.at_, rfl, ev.symm⟩, lo, _, rfl, .inl (.inl (.inl elo)), _, _, rfl, rfl, d, _, rfl, hD5, by rw [List.length_map]; omega, by rw [List.length_map]; omega, fun H6 r6 r60 r61 k6 hD6 => ?_⟩
    rw [List.length_map] at r61
    obtain ⟨p6, rfl⟩ : ∃ p6 : Nat, r6 = p6 := ⟨r6.toNat, by omega⟩
    replace hK := hK.keep hD k6 hD6
    replace el := k6 _ _ nl el
    replace elo := k6 _ _ lod elo
    refine ⟨.ref D, rfl, .str over, rfl, D, .ref lo, rfl, .inl ⟨kvs, .inr over, .inl hK.at_, rfl, ev.symm⟩, ?_⟩
    -- take
    refine ⟨.ref d, rfl, d, 4, rfl, hD6, by decide, by decide, fun H7 r7 r70 r71 k7 hD7 => ⟨_, _, rfl, rfl, ?cd, .ref d, rfl, .ref lo, rfl, lo, _, rfl, .inl (.inl (.inl (k7 _ _ lod elo))), .int p6, rfl, _, _, rfl, rfl, _, _, rfl, rfl, d, _, rfl, hD7, by rw [List.length_map]; omega, by rw [List.length_map]; omega, fun H8 r8 r80 r81 k8 hD8 => ⟨_, _, rfl, rfl, ?cm, ?_⟩⟩⟩
    case cd => exact ⟨by decide, by decide⟩
    case cm => exact .inl ⟨by omega, by omega⟩
    rw [List.length_map] at r81
    obtain ⟨t, et, ht⟩ : ∃ t : Nat, r7 / 3 * r8 = (t : Int) ∧ t + p6 ≤ j.tops.length := by
      have : r7 / 3 = 0 ∨ r7 / 3 = 1 := by omega
      rcases this with z | z
      · exact ⟨0, by rw [z]; omega, by omega⟩
      · exact ⟨r8.toNat, by rw [z]; omega, by omega⟩
    dsimp only [gName]
    rw [et]
    have k78 := k7.trans k8
    replace hK := hK.keep hD k78 hD8
    replace el := k78 _ _ nl el
    replace elo := k78 _ _ lod elo
    -- kids[name] = some[at:at + take]
    refine ⟨.ref lo, rfl, .int p6, rfl, _, rfl, .int p6, rfl, .int t, rfl, _, _, rfl, rfl, _, rfl, lo, _, rfl, .inl (.inl elo), fun l1 nl1 => ?_⟩
    rw [cut_mid]
    have s1 := same_new nl1 (o := .lst (((j.tops.drop p6).take t).map V.str))
    have eD1 := s1 _ _ hK.at_
    have e11 : (upd H8 l1 (.lst (((j.tops.drop p6).take t).map V.str))) l1 = _ := upd_same
    refine ⟨.ref D, rfl, .str nm, rfl, D, _, rfl, .inl ⟨kvs, .inr nm, eD1, rfl, big' (by omega), rfl⟩, ?_⟩
    have nl1D : l1 ≠ D := by
      rintro rfl
      rw [hK.at_] at nl1
      cases nl1
    have nloD : lo ≠ D := by
      rintro rfl
      rw [hK.at_] at elo
      cases elo
    have nl1lo : l1 ≠ lo := by
      rintro rfl
      rw [elo] at nl1
      cases nl1
    have oth9 : ∀ b o, b ≠ D → H8 b = some o → (upd (upd H8 l1 (.lst (((j.tops.drop p6).take t).map V.str))) D (.dK (putK kvs (.inr nm) (.ref l1)))) b = some o := fun b o n e => by
      rw [upd_ne n]
      exact s1 _ _ e
    have free9 : ∀ b, (upd (upd H8 l1 (.lst (((j.tops.drop p6).take t).map V.str))) D (.dK (putK kvs (.inr nm) (.ref l1)))) b = none → H8 b = none ∧ b ≠ l1 := fun b e => by
      have nb : b ≠ D := by
        rintro rfl
        rw [upd_same] at e
        cases e
      rw [upd_ne nb] at e
      exact ⟨s1.free e, by rintro rfl; rw [upd_same] at e; cases e⟩
    have e19 : (upd (upd H8 l1 (.lst (((j.tops.drop p6).take t).map V.str))) D (.dK (putK kvs (.inr nm) (.ref l1)))) l1 = some (.lst (((j.tops.drop p6).take t).map V.str)) := by rw [upd_ne nl1D]; exact e11
    have eD9 : (upd (upd H8 l1 (.lst (((j.tops.drop p6).take t).map V.str))) D (.dK (putK kvs (.inr nm) (.ref l1)))) D = some (.dK (putK kvs (.inr nm) (.ref l1))) := upd_same
    have elo9 := oth9 _ _ nloD elo
    have pl := put_len (kvs := kvs) (k := .inr nm) (v := .ref l1)
    generalize upd (upd H8 l1 (.lst (((j.tops.drop p6).take t).map V.str))) D (.dK (putK kvs (.inr nm) (.ref l1))) = H9 at *
    -- kids[over] = some[:at] + [name] + some[at + take:]
    refine ⟨.ref lo, rfl, .int p6, rfl, _, rfl, lo, _, rfl, .inl (.inl elo9), fun l2 nl2 => ⟨.str nm, rfl, big (by show 1 ≤ 100000; decide), fun l3 nl3 => ?_⟩⟩
    rw [cut_to] at nl3 ⊢
    refine ⟨l2, l3, _, _, rfl, rfl, same_new nl3 _ _ upd_same, upd_same, big (by rw [List.length_map, List.length_take, List.length_cons, List.length_nil]; omega), fun l4 nl4 => ?_⟩
    have s24 := ((same_new nl2 (o := .lst ((j.tops.take p6).map V.str))).trans (same_new nl3 (o := .lst [.str nm]))).trans (same_new nl4 (o := .lst ((j.tops.take p6).map V.str ++ [.str nm])))
    have e44 : (upd (upd (upd H9 l2 (.lst ((j.tops.take p6).map V.str))) l3 (.lst [.str nm])) l4 (.lst ((j.tops.take p6).map V.str ++ [.str nm]))) l4 = _ := upd_same
    generalize upd (upd (upd H9 l2 (.lst ((j.tops.take p6).map V.str))) l3 (.lst [.str nm])) l4 (.lst ((j.tops.take p6).map V.str ++ [.str nm])) = H10 at *
    refine ⟨.ref lo, rfl, .int p6, rfl, .int t, rfl, _, _, rfl, rfl, _, rfl, lo, _, rfl, .inl (.inl (s24 _ _ elo9)), fun l5 nl5 => ?_⟩
    rw [cut_frm]
    have s5 := same_new nl5 (o := .lst (((j.tops.drop p6).drop t).map V.str))
    refine ⟨l4, l5, _, _, rfl, rfl, s5 _ _ e44, upd_same, big (by rw [List.length_append, List.length_map, List.length_take, List.length_cons, List.length_nil, List.length_map, List.length_drop, List.length_drop]; omega), fun l6 nl6 => ?_⟩
    have erow : (j.tops.take p6).map V.str ++ [.str nm] ++ ((j.tops.drop p6).drop t).map V.str = (j.tops.take p6 ++ nm :: (j.tops.drop p6).drop t).map V.str := by
      rw [List.map_append, List.map_cons, List.append_assoc]
      rfl
    rw [erow]
    have s6 := (s24.trans s5).trans (same_new nl6 (o := .lst ((j.tops.take p6 ++ nm :: (j.tops.drop p6).drop t).map V.str)))
    have n69 := (s24.trans s5).free nl6
    obtain ⟨n68, n61⟩ := free9 _ n69
    have nl6D : l6 ≠ D := by
      rintro rfl
      rw [eD9] at n69
      cases n69
    refine ⟨.ref D, rfl, .str over, rfl, D, _, rfl, .inl ⟨_, .inr over, s6 _ _ eD9, rfl, big' (by omega), rfl⟩, _, w.put over p6 t nm, _, _, _, _, _, rfl, hK.step hD inm nin hover hin upd_same ?_ ?_ nl1 n68 (Ne.symm n61) (fun b o n e => ?_), ?_, ?_⟩
    · rw [upd_ne nl1D]
      exact s6 _ _ e19
    · rw [upd_ne nl6D]
      exact upd_same
    · rw [upd_ne n]
      exact s6 _ _ (oth9 b o n e)
    · rw [tk]
      exact (Wd.names_put hK.nd hover).trans ((hP.cons nm).trans (List.perm_append_singleton nm _).symm)
    · have nlD : l ≠ D := by
        rintro rfl
        rw [hK.at_] at el
        cases el
      rw [upd_ne nlD]
      exact s6 _ _ (oth9 _ _ nlD el)
  · obtain ⟨kvs, w, y3, y4, y5, y6, y7, rfl, hK, hP, el⟩ := hJ
    rw [List.length_map, List.take_of_length_le (Nat.le_refl _)] at hP
    obtain ⟨⟨lt, e1, e2⟩, hw⟩ := hK.kt
    have dl := w.dep_le
    rw [hP.length_eq] at dl
    have sl : w.size = ns.length := by rw [← Wd.size_names, hP.length_eq]
    exact ⟨.ref D, rfl, D, "", kvs, lt, w, rfl, hK.at_, e1, e2, hw, by omega, by omega, fun H5 p ts s5 np hp hts => q _ p w (hK.kp.free (hK.dk.ne np) np) ⟨p, ts, rfl, hp, hts⟩ hP dl (hK.kp.trans (Kp.of s5)) (hK.dk.same s5)⟩

/-- slots of _law_tall_wood: 0 _law_deck_here, 1 _law_names_here, 2 _law_tall, 3 _law_kids_here, 4 _law_deep, 5 _law_over, 6 _law_k, 7 _law_name_here, 8 _law_some, 9 _law_row, 10 _law_one -/
def n_tall_woodL : List Str := ["_law_deck_here", "_law_names_here", "_law_tall", "_law_kids_here", "_law_deep", "_law_over", "_law_k", "_law_name_here", "_law_some", "_law_row", "_law_one"]
def t_tall_woodL (K : PySem.W.Frag) : TS :=
  (tSeq (tAsg (tTup (tCons (tDisp [((tC (.str "")), (tLst tNil))]) (tCons (tDisp [((tC (.str "")), (tC (.int 0)))]) tNil))) (gTup K 2 (gCons (gName 3) (gCons (gName 4) gNil))))
    (tSeq (tAsg (tC (.str "")) (gName 5))
    (tSeq (tFor (iRng1 (tCons (tCB (rLenQ K) (tCons (tVar 1) tNil)) tNil)) (gName 6) (tSeq (tAsg (tOp (rIxL K) (tVar 1) (tVar 6)) (gName 7))
    (tSeq (tIfS (tTest (tOp rGeI (tVar 6) (tVar 2))) (tSeq (tLock (tAsg (tLc (iKeysM (tVar 3)) (gName 10) (tTest (tOp rLtI (tDGet (tVar 4) (tVar 10)) (tVar 2))) (tVar 10) [10]) (gName 8)))
    (tAsg (tOp (rIxL K) (tVar 8) (tCall sp_drawL [] E0 (tCons (tVar 0) (tCons (tCB (rLenQ K) (tCons (tVar 8) tNil)) tNil)))) (gName 5))) tNext)
    (tSeq (tAsg (tDGet (tVar 3) (tVar 5)) (gName 9))
    (tSeq (tDrop (tBM K "list" rInsert (tVar 9) (tCons (tCall sp_drawL [] E0 (tCons (tVar 0) (tCons (tOp rAddI (tCB (rLenQ K) (tCons (tVar 9) tNil)) (tC (.int 1))) tNil))) (tCons (tVar 7) tNil))))
    (tSeq (tDPut (tVar 3) (tVar 7) (tLst tNil))
    (tSeq (tDPut (tVar 4) (tVar 7) (tOp rAddI (tDGet (tVar 4) (tVar 5)) (tC (.int 1))))
    (tAsg (tVar 7) (gName 5)))))))))
    (tRet (tCall (sp_wood_ofL K 60) [] E0 (tCons (tVar 3) (tCons (tC (.str "")) tNil)))))))

def sp_tall_woodL (K : PySem.W.Frag) : Sp := fun vs H Q _ => ∃ (d l : Addr) (ns : List Str) (T : Nat), vs = [.ref d, .ref l, .int T] ∧ Dk H d ∧ l ≠ d ∧ H l = some (.lst (ns.map V.str)) ∧ ns.Nodup ∧ (∀ z ∈ ns, IsNm z) ∧ ns.length ≤ 250 ∧ 1 ≤ T ∧ T ≤ 55 ∧ WoodOut K d H ns T Q
/-- a new leaf: its row changed in place, a new list in the dict -/
theorem Kd.leaf {d D : Addr} {H0 H Hf : Hp} {kvs : List (Key × V)} {w i : Wd} {nm over : Str} {l1 lo : Addr} {a : Nat} (hD0 : Dk H0 d) (h : Kd d D H0 H kvs w) (inm : IsNm nm) (nin : nm ∉ w.names) (hover : over = "" ∨ over ∈ w.names) (hin : w.inn over = some i) (ev : valV kvs (.inr over) = some (.ref lo))
    (eD : Hf D = some (.dK (putK kvs (.inr nm) (.ref l1)))) (e1 : Hf l1 = some (.lst [])) (eo : Hf lo = some (.lst ((i.tops.take a ++ nm :: i.tops.drop a).map V.str)))
    (n1 : H l1 = none) {G : Addr} {dk : List (Key × V)} (hG : H G = some (.dK dk)) (nG : H0 G = none) (oth : ∀ b o, b ≠ D → b ≠ lo → b ≠ G → H b = some o → Hf b = some o) : Kd d D H0 Hf (putK kvs (.inr nm) (.ref l1)) (w.put over a 0 nm) := by
  have nDd := hD0.ne h.nD
  have non : nm ≠ over := by
    rintro rfl
    rcases hover with e | e
    · exact nm_ne inm e
    · exact nin e
  have val : ∀ k : Str, valV (putK kvs (.inr nm) (.ref l1)) (.inr k) = if k = nm then some (.ref l1) else valV kvs (.inr k) := fun k => by
    rw [valV_put]
    by_cases c2 : k = nm
    · rw [if_pos c2, if_pos (by rw [c2])]
    · rw [if_neg c2, if_neg (fun z => c2 (Sum.inr.inj z))]
  have pm := Wd.names_put (a := a) (t := 0) (nm := nm) h.nd hover
  have n1d : l1 ≠ d := by
    rintro rfl
    exact (h.dk.ne n1) rfl
  have f1 : H0 l1 = none := h.kp.free n1d n1
  have flo : H0 lo = none := h.fr over lo ev
  have oldm : ∀ (k : Str) l, valV kvs (.inr k) = some (.ref l) → k = "" ∨ k ∈ w.names := fun k l e => by
    obtain ⟨q, hq, eq⟩ := key_mem e
    obtain ⟨k', ek, hk'⟩ := h.ks q hq
    rw [eq] at ek
    cases ek
    exact hk'
  have no1 : ∀ k : Str, valV kvs (.inr k) = some (.ref l1) → False := fun k e => by
    obtain ⟨j, _, l', e', h'⟩ := h.kt.at (oldm k l1 e)
    rw [e] at e'
    cases e'
    rw [n1] at h'
    cases h'
  refine ⟨eD, fun q hq => ?_, ?_, ?_, KT.put h.nd h.e0 (fun n hn nk l xs e1 e2 => ?_) (fun j hj => ?_) h.kt, fun k l e => ?_, fun k k' l e e' => ?_, h.nD, fun b o n e => ?_, ?_, ?_, fun n hn => ?_⟩
  · rcases put_keys hq with e | hq
    · exact ⟨nm, e, .inr (pm.mem_iff.mpr List.mem_cons_self)⟩
    · obtain ⟨k, ek, hk⟩ := h.ks q hq
      exact ⟨k, ek, hk.imp id fun z => pm.mem_iff.mpr (List.mem_cons_of_mem _ z)⟩
  · have p1 := (put_len (kvs := kvs) (k := .inr nm) (v := .ref l1)).2
    have := h.pos
    omega
  · have p1 := (put_len (kvs := kvs) (k := .inr nm) (v := .ref l1)).1
    have p3 := h.len
    have p4 := pm.length_eq
    rw [List.length_cons, Wd.size_names, Wd.size_names] at p4
    omega
  · have nnm : n ≠ nm := by
      rintro rfl
      rcases hn with z | z
      · exact nm_ne inm z
      · exact nin z
    refine ⟨by rw [val, if_neg nnm]; exact e1, oth l _ ?_ ?_ ?_ e2⟩
    · rintro rfl
      rw [h.at_] at e2
      cases e2
    · rintro rfl
      exact nk (h.inj n over _ e1 ev)
    · rintro rfl
      rw [hG] at e2
      cases e2
  · rw [hin] at hj
    cases hj
    refine ⟨⟨lo, by rw [val, if_neg (Ne.symm non)]; exact ev, ?_⟩, l1, by rw [val, if_pos rfl], ?_⟩
    · rw [Wd.tops_grp, List.drop_zero]
      exact eo
    · exact e1
  · rw [val] at e
    split at e
    · cases e
      exact f1
    · exact h.fr k l e
  · rw [val] at e e'
    by_cases c3 : k = nm
    · rw [if_pos c3] at e
      cases e
      by_cases c4 : k' = nm
      · rw [c3, c4]
      · rw [if_neg c4] at e'
        exact (no1 _ e').elim
    · rw [if_neg c3] at e
      by_cases c4 : k' = nm
      · rw [if_pos c4] at e'
        cases e'
        exact (no1 _ e).elim
      · rw [if_neg c4] at e'
        exact h.inj k k' l e e'
  · refine oth b o ?_ ?_ ?_ (h.kp b o n e)
    · rintro rfl
      rw [h.nD] at e
      cases e
    · rintro rfl
      rw [flo] at e
      cases e
    · rintro rfl
      rw [nG] at e
      cases e
  · obtain ⟨g, m, c, ed⟩ := h.dk
    exact ⟨g, m, c, oth _ _ (Ne.symm nDd) (Ne.symm (hD0.ne flo)) (Ne.symm (hD0.ne nG)) ed⟩
  · exact pm.nodup_iff.mpr (List.nodup_cons.mpr ⟨nin, h.nd⟩)
  · rcases List.mem_cons.mp (pm.mem_iff.mp hn) with rfl | z
    · exact inm
    · exact h.ne n z
structure Td (d D G : Addr) (T : Nat) (H0 H : Hp) (kvs dk : List (Key × V)) (w : Wd) : Prop where
  k : Kd d D H0 H kvs w
  at_ : H G = some (.dK dk)
  nG : H0 G = none
  nDG : D ≠ G
  len : dk.length ≤ w.size + 1
  top : valV dk (.inr "") = some (.int 0)
  dw : DW dk T 0 w
theorem Td.keep {d D G : Addr} {T : Nat} {H0 H H' : Hp} {kvs dk : List (Key × V)} {w : Wd} (hD0 : Dk H0 d) (h : Td d D G T H0 H kvs dk w) (k : Kp d H H') (hD : Dk H' d) : Td d D G T H0 H' kvs dk w :=
  ⟨h.k.keep hD0 k hD, k _ _ (hD0.ne h.nG) h.at_, h.nG, h.nDG, h.len, h.top, h.dw⟩
theorem Td.dep {d D G : Addr} {T : Nat} {H0 H : Hp} {kvs dk : List (Key × V)} {w : Wd} (h : Td d D G T H0 H kvs dk w) {k : Str} (hk : k = "" ∨ k ∈ w.names) : ∃ e : Nat, valV dk (.inr k) = some (.int (e : Int)) ∧ e ≤ T := by
  rcases hk with rfl | hk
  · exact ⟨0, h.top, Nat.zero_le _⟩
  · exact h.dw.at hk
theorem DW.put {dk dk' : List (Key × V)} {T a : Nat} {nm k : Str} {w : Wd} (nd : w.names.Nodup) (m : ∀ n ∈ w.names, ∀ v, valV dk (.inr n) = some v → valV dk' (.inr n) = some v) (top : valV dk (.inr "") = some (.int 0))
    (hk : ∀ f : Nat, valV dk (.inr k) = some (.int (f : Int)) → valV dk' (.inr nm) = some (.int ((f + 1 : Nat) : Int)) ∧ f + 1 ≤ T) (h : DW dk T 0 w) : DW dk' T 0 (w.put k a 0 nm) := by
  unfold Wd.put
  by_cases c : k = ""
  · rw [if_pos c]
    rw [c] at hk
    obtain ⟨g1, g2⟩ := hk 0 top
    exact (h.mono m).leaf g1 g2
  · rw [if_neg c]
    exact DW.upd nd m hk h
theorem pure_tall_woodL {K : PySem.W.Frag} (vs : List V) (H : Hp) (Q : VK) (E : XK) (h : sp_tall_woodL K vs H Q E) : t_tall_woodL K { nx := fun _ H' => Q .non H', rt := Q } (start n_tall_woodL vs) H := by
  obtain ⟨d, l, ns, T, rfl, hD, nl, el, nsd, nsn, nsl, T1, T2, q⟩ := h
  have el0 := el
  intro D nD
  refine ⟨big (by decide), fun l0 nl0 => ⟨same_new nl0 _ _ upd_same, [(.inr "", .ref l0)], rfl, by show 1 ≤ 15; decide, fun G nG => ⟨upd_same, [(.inr "", .int 0)], rfl, by show 1 ≤ 15; decide, big (by show 2 ≤ 100000; decide), fun tp ntp => ⟨tp, _, rfl, .inl (.inl upd_same), rfl, _, _, rfl, _, _, rfl, rfl, ?_⟩⟩⟩⟩
  rw [upd_upd] at ntp ⊢
  change upd (upd (upd (upd H D (.dK [])) l0 (.lst [])) D (.dK [(.inr "", .ref l0)])) G (.dK [(.inr "", .int 0)]) tp = none at ntp
  change (upd (upd (upd H D (.dK [])) l0 (.lst [])) D (.dK [(.inr "", .ref l0)])) G = none at nG
  have nDd : D ≠ d := hD.ne nD
  have sD := same_new nD (o := .dK [])
  have nl0H : H l0 = none := sD.free nl0
  have nDl0 : D ≠ l0 := ne_of_none upd_same nl0
  have s3 : Same H (upd (upd (upd H D (.dK [])) l0 (.lst [])) D (.dK [(.inr "", .ref l0)])) := fun b o e => by
    rw [upd_ne (ne_of_none e nD)]
    exact same_new nl0 _ _ (sD _ _ e)
  have v0 : ∀ (k : Str) (u : Addr), valV [((.inr "" : Key), V.ref l0)] (.inr k) = some (.ref u) → k = "" ∧ u = l0 := fun k u e => by
    by_cases c : k = ""
    · subst c
      rw [valV_pos rfl] at e
      exact ⟨rfl, (V.ref.inj (Option.some.inj e)).symm⟩
    · rw [valV_neg (fun z => c (Sum.inr.inj z).symm)] at e
      cases e
  have k0 : Kd d D H (upd (upd (upd H D (.dK [])) l0 (.lst [])) D (.dK [(.inr "", .ref l0)])) [(.inr "", .ref l0)] .nil := by
    refine ⟨upd_same, fun q hq => ?_, by show 0 < 1; decide, by show 1 ≤ 0 + 1; decide, ⟨⟨l0, valV_pos rfl, ?_⟩, trivial⟩, fun k u e => by rw [(v0 k u e).2]; exact nl0H, fun k k' u e e' => by rw [(v0 k u e).1, (v0 k' u e').1], nD, Kp.of s3, hD.same s3, List.nodup_nil, (fun _ h => nomatch h)⟩
    · rcases List.mem_cons.mp hq with rfl | hq
      · exact ⟨"", rfl, .inl rfl⟩
      · cases hq
    · rw [upd_ne (Ne.symm nDl0)]
      exact upd_same
  have el3 := s3 _ _ el
  have nGH := s3.free nG
  have nDG : D ≠ G := ne_of_none upd_same nG
  have sG := same_new nG (o := .dK [(.inr "", .int 0)])
  have sT := sG.trans (same_new ntp (o := .tup [.ref D, .ref G]))
  have t0 : Td d D G T H (upd (upd (upd (upd (upd H D (.dK [])) l0 (.lst [])) D (.dK [(.inr "", .ref l0)])) G (.dK [(.inr "", .int 0)])) tp (.tup [.ref D, .ref G])) [(.inr "", .ref l0)] [(.inr "", .int 0)] .nil :=
    ⟨k0.keep hD (Kp.of sT) ((hD.same s3).same sT), same_new ntp _ _ upd_same, nGH, nDG, by show 1 ≤ 0 + 1; decide, valV_pos rfl, trivial⟩
  have el4 := sT _ _ el3
  change tSeq _ _ _ _ (upd (upd (upd (upd (upd H D (.dK [])) l0 (.lst [])) D (.dK [(.inr "", .ref l0)])) G (.dK [(.inr "", .int 0)])) tp (.tup [.ref D, .ref G]))
  generalize upd (upd (upd (upd (upd H D (.dK [])) l0 (.lst [])) D (.dK [(.inr "", .ref l0)])) G (.dK [(.inr "", .int 0)])) tp (.tup [.ref D, .ref G]) = H4 at *
  refine ⟨.ref l, rfl, l, _, rfl, .inl (.inl (.inl el4)), _, rfl, by rw [List.length_map]; omega, by rw [List.length_map]; omega, ?_⟩
  rw [List.length_map]
  refine for_range (lo := 0) (n := ns.length) (fun i σ H' => ∃ (kvs dk : List (Key × V)) (w : Wd) (over : Str) (y6 y7 y8 y9 y10 : Option V), σ = [some (.ref d), some (.ref l), some (.int T), some (.ref D), some (.ref G), some (.str over), y6, y7, y8, y9, y10] ∧ Td d D G T H H' kvs dk w ∧ w.names.Perm (ns.take i) ∧ (over = "" ∨ over ∈ w.names) ∧ (i ≤ T → valV dk (.inr over) = some (.int (i : Int))) ∧ H' l = some (.lst (ns.map V.str)))
    ⟨_, _, .nil, "", none, none, none, none, none, rfl, t0, .nil, .inl rfl, fun _ => valV_pos rfl, el4⟩ (fun i σ H' hi hJ => ?_) (fun σ H' hJ => ?_)
  · obtain ⟨kvs, dk, w, over, y6, y7, y8, y9, y10, rfl, hK, hP, hover, hdeep, el⟩ := hJ
    obtain ⟨nm, enm⟩ : ∃ nm, ns[i] = nm := ⟨_, rfl⟩
    have hnm : ns[i]? = some nm := by rw [← enm]; exact List.getElem?_eq_getElem hi
    have tk : ns.take (i + 1) = ns.take i ++ [nm] := by rw [List.take_add_one, hnm]; rfl
    have nin : nm ∉ w.names := fun m => by
      have m2 : nm ∈ ns.take i := hP.mem_iff.mp m
      have nd2 : (ns.take i ++ [nm]).Nodup := by rw [← tk]; exact nsd.sublist (List.take_sublist _ _)
      exact (List.nodup_append.mp nd2).2.2 _ m2 _ List.mem_cons_self rfl
    have inm : IsNm nm := nsn nm (List.mem_of_getElem? hnm)
    have lw : w.size = i := by rw [← Wd.size_names, hP.length_eq, List.length_take]; omega
    have ati : atI (ns.map V.str) (0 + (i : Int)) = some (.str nm) := by
      rw [Int.zero_add]
      exact atI_nat (by rw [List.getElem?_map, hnm]; rfl)
    refine ⟨.ref l, rfl, _, rfl, l, _, _, _, rfl, rfl, .inl (.inl el), ati, ?_⟩
    dsimp only [gName]
    -- over, of depth less than tall
    refine seq_by (t := tIfS _ _ _) (fun σ' H' => ∃ (over : Str) (y8 : Option V), σ' = [some (.ref d), some (.ref l), some (.int T), some (.ref D), some (.ref G), some (.str over), some (.int (0 + i)), some (.str nm), y8, y9, y10] ∧ Td d D G T H H' kvs dk w ∧ (over = "" ∨ over ∈ w.names) ∧ (∃ e : Nat, valV dk (.inr over) = some (.int (e : Int)) ∧ e < T ∧ (i < T → e = i)) ∧ H' l = some (.lst (ns.map V.str))) (fun σ' H' hJ => ?_) (fun rest => ?_)
    · obtain ⟨over, y8, rfl, hK, hover, ⟨e, he, heT, hei⟩, el⟩ := hJ
      obtain ⟨j, hin, lo, ev, elo⟩ := hK.k.kt.at hover
      have lod : lo ≠ d := hD.ne (hK.k.fr over lo ev)
      have jl := j.tops_len
      have js := Wd.inn_size hin
      refine ⟨.ref D, rfl, .str over, rfl, D, .ref lo, rfl, .inl ⟨kvs, .inr over, .inl hK.k.at_, rfl, ev.symm⟩, ?_⟩
      refine ⟨.ref lo, rfl, .inl ⟨rfl, _, .inl (.inl elo)⟩, .ref d, rfl, .ref lo, rfl, lo, _, rfl, .inl (.inl (.inl elo)), _, _, rfl, rfl, d, _, rfl, hK.k.dk, by rw [List.length_map]; omega, by rw [List.length_map]; omega, fun H6 r6 r60 r61 k6 hD6 => ?_⟩
      rw [List.length_map] at r61
      obtain ⟨p6, rfl⟩ : ∃ p6 : Nat, r6 = p6 := ⟨r6.toNat, by omega⟩
      replace hK := hK.keep hD k6 hD6
      replace el := k6 _ _ nl el
      replace elo := k6 _ _ lod elo
      have nloD : lo ≠ D := by
        rintro rfl
        rw [hK.k.at_] at elo
        cases elo
      have nloG : lo ≠ G := by
        rintro rfl
        rw [hK.at_] at elo
        cases elo
      have nlol : lo ≠ l := by
        rintro rfl
        rw [hK.k.fr over _ ev] at el0
        cases el0
      refine ⟨.str nm, rfl, lo, _, _, _, rfl, rfl, elo, big' (by rw [List.length_map]; omega), by omega, by omega, ?_⟩
      have erow : (j.tops.map V.str).take ((p6 : Int)).toNat ++ [.str nm] ++ (j.tops.map V.str).drop ((p6 : Int)).toNat = (j.tops.take p6 ++ nm :: j.tops.drop p6).map V.str := by
        rw [Int.toNat_natCast, List.map_append, List.map_cons, List.map_take, List.map_drop, List.append_assoc]
        rfl
      rw [erow]
      have eD7 : (upd H6 lo (.lst ((j.tops.take p6 ++ nm :: j.tops.drop p6).map V.str))) D = some (.dK kvs) := by rw [upd_ne (Ne.symm nloD)]; exact hK.k.at_
      have eG7 : (upd H6 lo (.lst ((j.tops.take p6 ++ nm :: j.tops.drop p6).map V.str))) G = some (.dK dk) := by rw [upd_ne (Ne.symm nloG)]; exact hK.at_
      have oth7 : ∀ b o, b ≠ lo → H6 b = some o → (upd H6 lo (.lst ((j.tops.take p6 ++ nm :: j.tops.drop p6).map V.str))) b = some o := fun b o n e => by rw [upd_ne n]; exact e
      have elo7 : (upd H6 lo (.lst ((j.tops.take p6 ++ nm :: j.tops.drop p6).map V.str))) lo = some (.lst ((j.tops.take p6 ++ nm :: j.tops.drop p6).map V.str)) := upd_same
      have free7 : ∀ b, (upd H6 lo (.lst ((j.tops.take p6 ++ nm :: j.tops.drop p6).map V.str))) b = none → H6 b = none := fun b e => by
        have nb : b ≠ lo := by
          rintro rfl
          rw [upd_same] at e
          cases e
        rw [upd_ne nb] at e
        exact e
      generalize upd H6 lo (.lst ((j.tops.take p6 ++ nm :: j.tops.drop p6).map V.str)) = H7 at *
      have lk := hK.k.len
      have ld := hK.len
      -- kids[name] = []
      refine ⟨big (by decide), fun l1 nl1 => ⟨.ref D, rfl, .str nm, rfl, D, _, rfl, .inl ⟨kvs, .inr nm, same_new nl1 _ _ eD7, rfl, big' (by omega), rfl⟩, ?_⟩⟩
      have n16 := free7 _ nl1
      have s8 := same_new nl1 (o := .lst [])
      have nl1D : l1 ≠ D := by
        rintro rfl
        rw [eD7] at nl1
        cases nl1
      have nl1lo : l1 ≠ lo := by
        rintro rfl
        rw [elo7] at nl1
        cases nl1
      have nl1G : l1 ≠ G := by
        rintro rfl
        rw [eG7] at nl1
        cases nl1
      have eG8 : (upd (upd H7 l1 (.lst [])) D (.dK (putK kvs (.inr nm) (.ref l1)))) G = some (.dK dk) := by rw [upd_ne (Ne.symm hK.nDG)]; exact s8 _ _ eG7
      -- deep[name] = deep[over] + 1
      refine ⟨.ref G, rfl, .str over, rfl, G, .int e, rfl, .inl ⟨dk, .inr over, .inl eG8, rfl, he.symm⟩, _, _, rfl, rfl, .ref G, rfl, .str nm, rfl, G, _, rfl, .inl ⟨dk, .inr nm, eG8, rfl, big' (by omega), rfl⟩, .str nm, rfl, ?_⟩
      have non : nm ≠ over := by
        rintro rfl
        rcases hover with z | z
        · exact nm_ne inm z
        · exact nin z
      have vald : ∀ k : Str, valV (putK dk (.inr nm) (.int ((e : Int) + 1))) (.inr k) = if k = nm then some (.int ((e + 1 : Nat) : Int)) else valV dk (.inr k) := fun k => by
        rw [valV_put]
        by_cases c2 : k = nm
        · rw [if_pos c2, if_pos (by rw [c2])]
          rfl
        · rw [if_neg c2, if_neg (fun z => c2 (Sum.inr.inj z))]
      have pl := put_len (kvs := dk) (k := .inr nm) (v := .int ((e : Int) + 1))
      have pm := Wd.names_put (a := p6) (t := 0) (nm := nm) hK.k.nd hover
      have psz := pm.length_eq
      rw [List.length_cons, Wd.size_names, Wd.size_names] at psz
      refine ⟨putK kvs (.inr nm) (.ref l1), putK dk (.inr nm) (.int ((e : Int) + 1)), w.put over p6 0 nm, nm, _, _, _, _, _, rfl, ⟨hK.k.leaf hD inm nin hover hin ev ?_ ?_ ?_ n16 hK.at_ hK.nG (fun b o n1 n2 n3 eb => ?_), upd_same, hK.nG, hK.nDG, by omega, ?_, ?_⟩, ?_, .inr (pm.mem_iff.mpr List.mem_cons_self), fun hiT => ?_, ?_⟩
      · rw [upd_ne hK.nDG]
        exact upd_same
      · rw [upd_ne nl1G, upd_ne nl1D]
        exact upd_same
      · rw [upd_ne nloG, upd_ne nloD]
        exact s8 _ _ elo7
      · rw [upd_ne n3, upd_ne n1]
        exact s8 _ _ (oth7 b o n2 eb)
      · rw [vald, if_neg (fun z => nm_ne inm z.symm)]
        exact hK.top
      · refine DW.put hK.k.nd (fun n hn v hv => ?_) hK.top (fun f hf => ?_) hK.dw
        · rw [vald, if_neg (by rintro rfl; exact nin hn)]
          exact hv
        · rw [he] at hf
          have ef : (e : Int) = f := V.int.inj (Option.some.inj hf)
          have ef' : e = f := by omega
          subst ef'
          exact ⟨by rw [vald, if_pos rfl], heT⟩
      · rw [tk]
        exact pm.trans ((hP.cons nm).trans (List.perm_append_singleton nm _).symm)
      · rw [vald, if_pos rfl, hei (by omega)]
      · have nlD : l ≠ D := by
          rintro rfl
          rw [nD] at el0
          cases el0
        have nlG : l ≠ G := by
          rintro rfl
          rw [nGH] at el0
          cases el0
        rw [upd_ne nlG, upd_ne nlD]
        exact s8 _ _ (oth7 _ _ (Ne.symm nlol) el)
    · -- the choice
      refine ⟨.int (0 + i), rfl, .int T, rfl, _, _, rfl, rfl, _, rfl, ?_⟩
      by_cases c : (T : Int) ≤ 0 + (i : Int)
      · rw [decide_eq_true c]
        refine ⟨D, .dK kvs, hK.k.at_, trivial, fun od => ?_⟩
        have nGD : G ≠ D := Ne.symm hK.nDG
        have lk := hK.k.len
        refine ⟨.ref D, rfl, D, od, kvs, rfl, upd_same, fun L nL => ?_⟩
        have nLD : L ≠ D := by
          rintro rfl
          rw [upd_same] at nL
          cases nL
        have nLH : H' L = none := by rw [upd_ne nLD] at nL; exact nL
        have eG5 : (upd H' D (.frz od (.dK kvs))) G = some (.dK dk) := by rw [upd_ne nGD]; exact hK.at_
        have sL := same_new nL (o := .lst [])
        refine lc_it (walk_keys (kvs := kvs)) (fun m H2 => ∃ zs : List Str, H2 L = some (.lst (zs.map V.str)) ∧ zs.length ≤ m ∧ (∀ z ∈ zs, (z = "" ∨ z ∈ w.names) ∧ ∃ e : Nat, valV dk (.inr z) = some (.int (e : Int)) ∧ e < T) ∧ (∀ m', m' < m → ∀ u, kvs[m']? = some (.inr "", u) → zs ≠ []) ∧ Same (upd H' D (.frz od (.dK kvs))) H2)
          ⟨[], upd_same, Nat.le_refl _, (fun _ h => nomatch h), (fun m' h => absurd h (Nat.not_lt_zero m')), sL⟩ (fun m H2 _ hp => ?_) (fun m x H2 H3 hm hp hy => ?_) (fun H2 hp => ?_)
        · obtain ⟨_, _, _, _, _, s⟩ := hp
          exact s _ _ upd_same
        · obtain ⟨zs, eL, zl, hz, hne, s⟩ := hp
          obtain ⟨rfl, k, u, hk, rfl⟩ := hy
          obtain ⟨z, ez, hzv⟩ := hK.k.ks (k, u) (List.mem_of_getElem? hk)
          have ez' : k = .inr z := ez
          subst ez'
          obtain ⟨e, he, heT⟩ := hK.dep hzv
          refine ⟨rfl, .ref G, rfl, .str z, rfl, G, .int e, rfl, .inl ⟨dk, .inr z, .inl (s _ _ eG5), rfl, he.symm⟩, .int T, rfl, _, _, rfl, rfl, _, rfl, ?_⟩
          by_cases c2 : (e : Int) < (T : Int)
          · rw [decide_eq_true c2]
            refine ⟨.str z, rfl, _, eL, big' (by rw [List.length_map]; omega), zs ++ [z], by rw [upd_same, List.map_append]; rfl, by rw [List.length_append, List.length_cons, List.length_nil]; omega, fun y hy => ?_, fun m' hm' u' hu' => by simp, fun b o eb => ?_⟩
            · rcases List.mem_append.mp hy with h | h
              · exact hz y h
              · rcases List.mem_cons.mp h with rfl | h
                · exact ⟨hzv, e, he, by omega⟩
                · cases h
            · rw [upd_ne (ne_of_none eb nL)]
              exact s b o eb
          · rw [decide_eq_false c2]
            refine ⟨zs, eL, by omega, hz, fun m' hm' u' hu' => ?_, s⟩
            rcases Nat.lt_succ_iff_lt_or_eq.mp hm' with h | h
            · exact hne m' h u' hu'
            · rw [h, hk] at hu'
              have ez2 : z = "" := Sum.inr.inj (Prod.mk.inj (Option.some.inj hu')).1
              rw [ez2, hK.top] at he
              have e0 : (0 : Int) = e := V.int.inj (Option.some.inj he)
              omega
        · obtain ⟨zs, eL, zl, hz, hne, s⟩ := hp
          refine ⟨s _ _ upd_same, ?_⟩
          have zne : zs ≠ [] := by
            obtain ⟨⟨lt, e1, _⟩, _⟩ := hK.k.kt
            obtain ⟨⟨k, u⟩, hq, ek⟩ := key_mem e1
            obtain ⟨m', hm', em⟩ := List.mem_iff_getElem.mp hq
            have ek' : k = .inr "" := ek
            exact hne m' hm' u (by rw [List.getElem?_eq_getElem hm', em, ek'])
          have s9 : Same H' (upd H2 D (.dK kvs)) := fun b o eb => by
            by_cases cb : b = D
            · subst cb
              rw [hK.k.at_] at eb
              cases eb
              exact upd_same
            · rw [upd_ne cb]
              exact s b o (by rw [upd_ne cb]; exact eb)
          have hK9 := hK.keep hD (Kp.of s9) (hK.k.dk.same s9)
          have eL9 : (upd H2 D (.dK kvs)) L = some (.lst (zs.map V.str)) := by rw [upd_ne nLD]; exact eL
          have nLd : L ≠ d := hK.k.dk.ne nLH
          have zpos : 0 < zs.length := List.length_pos_iff.mpr zne
          have el9 := s9 _ _ el
          generalize upd H2 D (.dK kvs) = H9 at *
          refine ⟨.ref L, rfl, .ref d, rfl, .ref L, rfl, L, _, rfl, .inl (.inl (.inl eL9)), d, _, rfl, hK9.k.dk, by rw [List.length_map]; omega, by rw [List.length_map]; omega, fun H10 r10 r0 r1 k10 hD10 => ?_⟩
          rw [List.length_map] at r1
          obtain ⟨p, rfl⟩ : ∃ p : Nat, r10 = p := ⟨r10.toNat, by omega⟩
          have hp : p < zs.length := by omega
          obtain ⟨hv, e, he, heT⟩ := hz zs[p] (List.getElem_mem hp)
          exact ⟨L, _, _, _, rfl, rfl, .inl (.inl (k10 _ _ nLd eL9)), atI_nat (show (zs.map V.str)[p]? = some (.str zs[p]) by rw [List.getElem?_map, List.getElem?_eq_getElem hp]; rfl), rest _ _ ⟨zs[p], _, rfl, hK9.keep hD k10 hD10, hv, ⟨e, he, heT, fun z => by omega⟩, k10 _ _ nl el9⟩⟩
      · rw [decide_eq_false c]
        exact rest _ _ ⟨over, _, rfl, hK, hover, ⟨i, hdeep (by omega), by omega, fun _ => rfl⟩, el⟩
  · obtain ⟨kvs, dk, w, over, y6, y7, y8, y9, y10, rfl, hK, hP, hover, hdeep, el⟩ := hJ
    rw [List.take_of_length_le (Nat.le_refl _)] at hP
    obtain ⟨⟨lt, e1, e2⟩, hw⟩ := hK.k.kt
    have dl := hK.dw.dep
    have sl : w.size = ns.length := by rw [← Wd.size_names, hP.length_eq]
    exact ⟨.ref D, rfl, D, "", kvs, lt, w, rfl, hK.k.at_, e1, e2, hw, by omega, by omega, fun H5 p ts s5 np hp hts => q _ p w (hK.k.kp.free (hK.k.dk.ne np) np) ⟨p, ts, rfl, hp, hts⟩ hP (by omega) (hK.k.kp.trans (Kp.of s5)) (hK.k.dk.same s5)⟩

/-- slots of _law_wood_and_names: 0 _law_deck_here, 1 _law_more, 2 _law_tall, 3 _law_many, 4 _law_names_here -/
def n_wood_and_namesL : List Str := ["_law_deck_here", "_law_more", "_law_tall", "_law_many", "_law_names_here"]
def t_wood_and_namesL (K : PySem.W.Frag) : TS :=
  (tSeq (tIfS (tTest (tOp rEq (tCall sp_drawL [] E0 (tCons (tVar 0) (tCons (tC (.int 8)) tNil))) (tC (.int 3)))) (tSeq (tAsg (tOp rAddI (tC (.int 1)) (tCall sp_drawL [] E0 (tCons (tVar 0) (tCons (tC (.int 40)) tNil)))) (gName 2))
    (tSeq (tAsg (tOp rAddI (tVar 2) (tCall sp_drawL [] E0 (tCons (tVar 0) (tCons (tOp rSubI (tC (.int 121)) (tVar 2)) tNil)))) (gName 3))
    (tSeq (tAsg (tCall sp_namesL [] E0 (tCons (tVar 0) (tCons (tOp rAddI (tVar 3) (tVar 1)) tNil))) (gName 4))
    (tRet (tLst (tCons (tCall (sp_tall_woodL K) [] E0 (tCons (tVar 0) (tCons (L2.tSl (rSlL K) (tVar 4) tNoPart (tPart (tVar 3))) (tCons (tVar 2) tNil)))) (tCons (L2.tSl (rSlL K) (tVar 4) (tPart (tVar 3)) tNoPart) tNil))))))) tNext)
    (tSeq (tAsg (tCall sp_drawL [] E0 (tCons (tVar 0) (tCons (tC (.int 13)) tNil))) (gName 3))
    (tSeq (tAsg (tCall sp_namesL [] E0 (tCons (tVar 0) (tCons (tOp rAddI (tVar 3) (tVar 1)) tNil))) (gName 4))
    (tRet (tLst (tCons (tCall (sp_woodL K) [] E0 (tCons (tVar 0) (tCons (L2.tSl (rSlL K) (tVar 4) tNoPart (tPart (tVar 3))) tNil))) (tCons (L2.tSl (rSlL K) (tVar 4) (tPart (tVar 3)) tNoPart) tNil)))))))

def NamesOut (K : PySem.W.Frag) (d : Addr) (H : Hp) (more : Nat) (Q : VK) : Prop := ∀ (H' : Hp) (L p l2 : Addr) (w : Wd) (rest : List Str), H L = none → H' L = some (.lst [.ref p, .ref l2]) → H p = none → WdR K H' (.ref p) w → H l2 = none → H' l2 = some (.lst (rest.map V.str)) → (w.names ++ rest).Nodup → (∀ n ∈ w.names ++ rest, IsNm n) → rest.length = more → w.dep ≤ 40 → w.size ≤ 120 → Kp d H H' → Dk H' d → Q (.ref L) H'
def sp_wood_and_namesL (K : PySem.W.Frag) : Sp := fun vs H Q _ => ∃ (d : Addr) (more : Nat), vs = [.ref d, .int more] ∧ Dk H d ∧ more ≤ 300 ∧ NamesOut K d H more Q
theorem cut_drop (zs : List Str) (a : Nat) : cutV (zs.map V.str) (some (a : Int)) none = (zs.drop a).map V.str := by
  have h := cut_frm zs a 0
  rw [List.drop_zero] at h
  exact h
theorem names_split {w : Wd} {zs : List Str} {n : Nat} (h : w.names.Perm (zs.take n)) (nd : zs.Nodup) (nm : ∀ z ∈ zs, IsNm z) : (w.names ++ zs.drop n).Nodup ∧ ∀ z ∈ w.names ++ zs.drop n, IsNm z := by
  have p : (w.names ++ zs.drop n).Perm zs := by
    have q := h.append_right (zs.drop n)
    rw [List.take_append_drop] at q
    exact q
  exact ⟨p.nodup_iff.mpr nd, fun z m => nm z (p.mem_iff.mp m)⟩
theorem pure_wood_and_namesL {K : PySem.W.Frag} (vs : List V) (H : Hp) (Q : VK) (E : XK) (h : sp_wood_and_namesL K vs H Q E) : t_wood_and_namesL K { nx := fun _ H' => Q .non H', rt := Q } (start n_wood_and_namesL vs) H := by
  obtain ⟨d, more, rfl, hD, hmore, q⟩ := h
  refine ⟨.ref d, rfl, d, 8, rfl, hD, by decide, by decide, fun H1 r r0 r1 k1 hD1 => ⟨rfl, _, rfl, ?_⟩⟩
  -- behind the names: the wood, the rest
  have last : ∀ (H0 H5 : Hp) (l p : Addr) (zs : List Str) (many : Nat) (w : Wd) (σ : L2.St), Kp d H H0 → Dk H0 d → H5 l = some (.lst (zs.map V.str)) → l ≠ d → zs.Nodup → (∀ z ∈ zs, IsNm z) → zs.length = many + more → many ≤ 120 → w.names.Perm (zs.take many) → w.dep ≤ 40 → H0 p = none → WdR K H5 (.ref p) w → Kp d H0 H5 → Dk H5 d → σ[4]? = some (some (.ref l)) → σ[3]? = some (some (.int (many : Int))) →
      (tCons (L2.tSl (rSlL K) (tVar 4) (tPart (tVar 3)) tNoPart) tNil) σ H5 fun vs H' => (.ref p :: vs).length ≤ sizeLine ∧ ∀ L, H' L = none → Q (.ref L) (upd H' L (.lst (.ref p :: vs))) := by
    intro H0 H5 l p zs many w σ k0 hD0 el nl zd zn zl hm hP hdep np hw k5 hD5 e4 e3
    refine ⟨.ref l, e4, .int many, e3, _, rfl, l, _, rfl, .inl (.inl el), fun l2 nl2 => ⟨big (by show 2 ≤ 100000; decide), fun L nL => ?_⟩⟩
    rw [cut_drop] at nL ⊢
    have s2 := same_new nl2 (o := .lst ((zs.drop many).map V.str))
    have sL := s2.trans (same_new nL (o := .lst [.ref p, .ref l2]))
    have kk := k0.trans k5
    obtain ⟨h1, h2⟩ := names_split hP zd zn
    have hs : w.size = many := by rw [← Wd.size_names, hP.length_eq, List.length_take]; omega
    exact q _ L p l2 w (zs.drop many) (kk.free ((hD5.same s2).ne nL) (s2.free nL)) upd_same (k0.free (hD0.ne np) np) (hw.same sL) (kk.free (hD5.ne nl2) nl2) (same_new nL _ _ upd_same) h1 h2 (by rw [List.length_drop]; omega) hdep (by omega) (kk.trans (Kp.of sL)) (hD5.same sL)
  by_cases c : V.int r = V.int 3
  · rw [decide_eq_true c]
    refine ⟨.ref d, rfl, d, 40, rfl, hD1, by decide, by decide, fun H2 r2 r20 r21 k2 hD2 => ⟨_, _, rfl, rfl, ?_⟩⟩
    obtain ⟨p2, rfl⟩ : ∃ p2 : Nat, r2 = p2 := ⟨r2.toNat, by omega⟩
    refine ⟨_, rfl, .ref d, rfl, _, rfl, _, _, rfl, rfl, d, _, rfl, hD2, by omega, by omega, fun H3 r3 r30 r31 k3 hD3 => ⟨_, _, rfl, rfl, ?_⟩⟩
    obtain ⟨p3, rfl⟩ : ∃ p3 : Nat, r3 = p3 := ⟨r3.toNat, by omega⟩
    have em : (1 : Int) + p2 + p3 = ((1 + p2 + p3 : Nat) : Int) := by omega
    have eT : (1 : Int) + p2 = ((1 + p2 : Nat) : Int) := by omega
    dsimp only [gName]
    rw [em, eT]
    refine ⟨.ref d, rfl, _, rfl, _, rfl, _, _, rfl, rfl, d, 1 + p2 + p3 + more, rfl, hD3, by omega, fun H4 l zs zl zd zn nl nld el k4 hD4 => ?_⟩
    refine ⟨.ref d, rfl, .ref l, rfl, _, rfl, _, rfl, l, _, rfl, .inl (.inl el), fun l1 nl1 => ⟨_, rfl, ?_⟩⟩
    rw [cut_to]
    have s5 := same_new nl1 (o := .lst ((zs.take (1 + p2 + p3)).map V.str))
    have k04 := (k1.trans (k2.trans k3)).trans k4
    refine ⟨d, l1, zs.take (1 + p2 + p3), 1 + p2, rfl, hD4.same s5, hD4.ne nl1, upd_same, zd.sublist (List.take_sublist _ _), fun z m => zn z (List.mem_of_mem_take m), by rw [List.length_take]; omega, by omega, by omega, fun H5 p w np hw hP hdep k5 hD5 => ?_⟩
    exact last _ H5 l p zs (1 + p2 + p3) w _ (k04.trans (Kp.of s5)) (hD4.same s5) (k5 _ _ nld (s5 _ _ el)) nld zd zn (by omega) (by omega) hP (by omega) np hw k5 hD5 rfl rfl
  · rw [decide_eq_false c]
    refine ⟨.ref d, rfl, d, 13, rfl, hD1, by decide, by decide, fun H3 r3 r30 r31 k3 hD3 => ?_⟩
    obtain ⟨p3, rfl⟩ : ∃ p3 : Nat, r3 = p3 := ⟨r3.toNat, by omega⟩
    refine ⟨.ref d, rfl, _, rfl, _, rfl, _, _, rfl, rfl, d, p3 + more, rfl, hD3, by omega, fun H4 l zs zl zd zn nl nld el k4 hD4 => ?_⟩
    refine ⟨.ref d, rfl, .ref l, rfl, _, rfl, _, rfl, l, _, rfl, .inl (.inl el), fun l1 nl1 => ?_⟩
    rw [cut_to]
    have s5 := same_new nl1 (o := .lst ((zs.take p3).map V.str))
    have k04 := (k1.trans k3).trans k4
    refine ⟨d, l1, zs.take p3, rfl, hD4.same s5, hD4.ne nl1, upd_same, zd.sublist (List.take_sublist _ _), fun z m => zn z (List.mem_of_mem_take m), by rw [List.length_take]; omega, fun H5 p w np hw hP hdep k5 hD5 => ?_⟩
    rw [List.length_take] at hdep
    exact last _ H5 l p zs p3 w _ (k04.trans (Kp.of s5)) (hD4.same s5) (k5 _ _ nld (s5 _ _ el)) nld zd zn (by omega) (by omega) hP (by omega) np hw k5 hD5 rfl rfl

/-- slots of _law_some_wood: 0 _law_deck_here -/
def n_some_woodL : List Str := ["_law_deck_here"]
def t_some_woodL (K : PySem.W.Frag) : TS :=
  (tRet (tOp (rIxL K) (tCall (sp_wood_and_namesL K) [] E0 (tCons (tVar 0) (tCons (tC (.int 0)) tNil))) (tC (.int 0))))

def SomeOut (K : PySem.W.Frag) (d : Addr) (H : Hp) (Q : VK) : Prop := ∀ (H' : Hp) (p : Addr) (w : Wd), H p = none → WdR K H' (.ref p) w → w.names.Nodup → (∀ n ∈ w.names, IsNm n) → w.dep ≤ 40 → w.size ≤ 120 → Kp d H H' → Dk H' d → Q (.ref p) H'
def sp_some_woodL (K : PySem.W.Frag) : Sp := fun vs H Q _ => ∃ d : Addr, vs = [.ref d] ∧ Dk H d ∧ SomeOut K d H Q
theorem pure_some_woodL {K : PySem.W.Frag} (vs : List V) (H : Hp) (Q : VK) (E : XK) (h : sp_some_woodL K vs H Q E) : t_some_woodL K { nx := fun _ H' => Q .non H', rt := Q } (start n_some_woodL vs) H := by
  obtain ⟨d, rfl, hD, q⟩ := h
  refine ⟨.ref d, rfl, d, 0, rfl, hD, by decide, fun H1 L p l2 w rest nL eL np hw n2 e2 nd nm hl hd hs k hD1 => ?_⟩
  exact ⟨L, _, 0, _, rfl, rfl, .inl (.inl eL), atI_nat (j := 0) rfl, q _ p w np hw (List.nodup_append.mp nd).1 (fun n m => nm n (List.mem_append_left _ m)) hd hs k hD1⟩

/-! ### who lies in whom -/
def pars (p : V) : Wd → List (Str × V)
  | .nil => []
  | .cons n i r => (n, p) :: (pars (.str n) i ++ pars p r)
theorem pars_names : ∀ (p : V) (w : Wd), (pars p w).map (·.1) = w.names
  | _, .nil => rfl
  | p, .cons n i r => by
    show n :: (pars (.str n) i ++ pars p r).map (·.1) = n :: (i.names ++ r.names)
    rw [List.map_append, pars_names, pars_names]
def kidsAt (p : V) (w : Wd) (q : V) : List Str := ((pars p w).filter fun x => decide (x.2 = q)).map (·.1)
theorem kidsAt_cons (p : V) (n : Str) (i r : Wd) (q : V) : kidsAt p (.cons n i r) q = (if p = q then [n] else []) ++ (kidsAt (.str n) i q ++ kidsAt p r q) := by
  unfold kidsAt
  show (((n, p) :: (pars (.str n) i ++ pars p r)).filter fun x => decide (x.2 = q)).map (·.1) = _
  rw [List.filter_cons, List.filter_append]
  by_cases c : p = q
  · rw [if_pos (decide_eq_true c), if_pos c, List.map_cons, List.map_append]
    rfl
  · rw [if_neg (by rw [decide_eq_false c]; exact Bool.false_ne_true), if_neg c, List.map_append]
    rfl
theorem kidsAt_none : ∀ {w : Wd} {p q : V}, p ≠ q → (∀ n ∈ w.names, V.str n ≠ q) → kidsAt p w q = []
  | .nil, _, _, _, _ => rfl
  | .cons n i r, p, q, h, hn => by
    rw [kidsAt_cons, if_neg h, kidsAt_none (hn n List.mem_cons_self) fun m hm => hn m (List.mem_cons_of_mem _ (List.mem_append_left _ hm)), kidsAt_none h fun m hm => hn m (List.mem_cons_of_mem _ (List.mem_append_right _ hm))]
    rfl
theorem kidsAt_top : ∀ {w : Wd} {p : V}, (∀ n ∈ w.names, V.str n ≠ p) → kidsAt p w p = w.tops
  | .nil, _, _ => rfl
  | .cons n i r, p, hn => by
    rw [kidsAt_cons, if_pos rfl, kidsAt_none (hn n List.mem_cons_self) fun m hm => hn m (List.mem_cons_of_mem _ (List.mem_append_left _ hm)), kidsAt_top fun m hm => hn m (List.mem_cons_of_mem _ (List.mem_append_right _ hm))]
    rfl
theorem Wd.mem_sub : ∀ {w : Wd} {k : Str}, k ∈ w.names → ∃ x, w.sub k = some x
  | .nil, _, h => by cases h
  | .cons n i r, k, h => by
    show ∃ x, (if n = k then some i else match Wd.sub k i with | some x => some x | none => Wd.sub k r) = some x
    by_cases c : n = k
    · exact ⟨i, if_pos c⟩
    · rw [if_neg c]
      cases e : Wd.sub k i with
      | some x => exact ⟨x, rfl⟩
      | none =>
        rcases List.mem_cons.mp h with z | z
        · exact absurd z.symm c
        · rcases List.mem_append.mp z with z | z
          · obtain ⟨x, ex⟩ := Wd.mem_sub z
            rw [e] at ex
            cases ex
          · exact Wd.mem_sub z
theorem kidsAt_sub : ∀ {w x : Wd} {p : V} {k : Str}, w.names.Nodup → w.sub k = some x → p ≠ .str k → kidsAt p w (.str k) = x.tops
  | .nil, _, _, _, _, h, _ => by cases h
  | .cons n i r, x, p, k, nd, h, hp => by
    have nd' : (n :: (i.names ++ r.names)).Nodup := nd
    rw [List.nodup_cons] at nd'
    have nda := List.nodup_append.mp nd'.2
    have h' : (if n = k then some i else match Wd.sub k i with | some x => some x | none => Wd.sub k r) = some x := h
    rw [kidsAt_cons, if_neg hp]
    by_cases c : n = k
    · subst c
      rw [if_pos rfl] at h'
      cases h'
      rw [kidsAt_top (fun m hm e => nd'.1 (List.mem_append_left _ (by rw [← V.str.inj e]; exact hm))), kidsAt_none hp (fun m hm e => nd'.1 (List.mem_append_right _ (by rw [← V.str.inj e]; exact hm)))]
      simp
    · rw [if_neg c] at h'
      have hnk : V.str n ≠ .str k := fun e => c (V.str.inj e)
      cases e : Wd.sub k i with
      | some y =>
        rw [e] at h'
        cases h'
        have ki := Wd.sub_mem e
        rw [kidsAt_sub nda.1 e hnk, kidsAt_none hp (fun m hm e => nda.2.2 _ ki _ (by rw [← V.str.inj e]; exact hm) rfl)]
        simp
      | none =>
        rw [e] at h'
        have kr := Wd.sub_mem h'
        rw [kidsAt_sub nda.2.1 h' hp, kidsAt_none hnk (fun m hm e => nda.2.2 _ (by rw [← V.str.inj e]; exact hm) _ kr rfl)]
        simp
/-- the dict tells each name's parent -/
def PD (kvs : List (Key × V)) (w : Wd) : Prop := ∀ x ∈ pars .non w, valV kvs (.inr x.1) = some x.2
theorem pars_flat : ∀ {w : Wd} {p : V} {x : Str × V}, x ∈ pars p w → x.2 = p ∨ ∃ k ∈ w.names, x.2 = .str k
  | .cons n i r, p, x, h => by
    have h' : x ∈ (n, p) :: (pars (.str n) i ++ pars p r) := h
    rcases List.mem_cons.mp h' with rfl | h
    · exact .inl rfl
    · rcases List.mem_append.mp h with h | h
      · rcases pars_flat h with e | ⟨k, hk, e⟩
        · exact .inr ⟨n, List.mem_cons_self, e⟩
        · exact .inr ⟨k, List.mem_cons_of_mem _ (List.mem_append_left _ hk), e⟩
      · rcases pars_flat h with e | ⟨k, hk, e⟩
        · exact .inl e
        · exact .inr ⟨k, List.mem_cons_of_mem _ (List.mem_append_right _ hk), e⟩
theorem paired_snoc {α β : Type} {R : α → β → Prop} : ∀ {xs : List α} {ys : List β}, Paired R xs ys → xs ≠ [] → ∃ xs' x ys' y, xs = xs' ++ [x] ∧ ys = ys' ++ [y] ∧ Paired R xs' ys' ∧ R x y
  | _, _, .nil, h => absurd rfl h
  | _, _, .cons (l₁ := []) h .nil, _ => ⟨[], _, [], _, rfl, rfl, .nil, h⟩
  | _, _, .cons (l₁ := _ :: _) h r, _ => by
    obtain ⟨xs', x, ys', y, e1, e2, h1, h2⟩ := paired_snoc r (fun z => nomatch z)
    exact ⟨_ :: xs', x, _ :: ys', y, by rw [e1]; rfl, by rw [e2]; rfl, .cons h h1, h2⟩

/-- slots of names_of: 0 wood, 1 end -/
def n_names_of : List Str := ["wood", "end"]
def t_names_of (K : PySem.W.Frag) : TS :=
  (tRet (tCB (rTupOf K) (tCons (tLc (iTup K (tCall (sp_row_of K) [] E0 (tCons (tVar 0) tNil))) (gName 1) (tTest (tOp rEq (tOp rIxS (tVar 1) (tC (.int 0))) (tC (.str "+")))) (L2.tSl rSlS (tVar 1) (tPart (tC (.int 1))) tNoPart) [1]) tNil)))

theorem plus_eqS : (⟨#[43]⟩ : Str) = ("+" : Str) := by decide +kernel
theorem minus_neS : ¬ (⟨#[45]⟩ : Str) = ("+" : Str) := by decide +kernel
theorem toks_names : ∀ w : Wd, ((w.toks.filter fun p => p.1).map (·.2)) = w.names
  | .nil => rfl
  | .cons n i r => by
    show (((true, n) :: (i.toks ++ (false, n) :: r.toks)).filter fun p => p.1).map (·.2) = n :: (i.names ++ r.names)
    rw [List.filter_cons, if_pos rfl, List.filter_append, List.filter_cons, if_neg Bool.false_ne_true, List.map_cons, List.map_append, toks_names i, toks_names r]
/-- the names of a wood, as a tuple -/
def NmT (K : PySem.W.Frag) (H : Hp) (v : V) (w : Wd) : Prop := ∃ a, v = .ref a ∧ SqT K H a (w.names.map V.str)
theorem NmT.same {K : PySem.W.Frag} {H H' : Hp} {v : V} {w : Wd} (h : NmT K H v w) (s : Same H H') : NmT K H' v w := by
  obtain ⟨a, e, h⟩ := h
  exact ⟨a, e, Same.sqT s h⟩
def sp_names_of (K : PySem.W.Frag) : Sp := fun vs H Q _ => ∃ (v : V) (w : Wd), vs = [v] ∧ WdR K H v w ∧ w.size ≤ 10000 ∧ (∀ m ∈ w.names, m.length ≤ 1000) ∧
  ∀ (H' : Hp) (u : V), Same H H' → NmT K H' u w → Q u H'
theorem pure_names_of {K : PySem.W.Frag} (vs : List V) (H : Hp) (Q : VK) (E : XK) (h : sp_names_of K vs H Q E) : t_names_of K { nx := fun _ H' => Q .non H', rt := Q } (start n_names_of vs) H := by
  obtain ⟨v, w, rfl, hw, hsz, hnm, q⟩ := h
  have tl := w.toks_len
  refine ⟨v, rfl, v, w, rfl, hw, hsz, hnm, fun H1 u s1 hu => ?_⟩
  obtain ⟨a, rfl, hT⟩ := hu
  refine ⟨a, rfl, ⟨_, hT⟩, fun D nD => ?_⟩
  refine lc_it (walk_tup (xs := (w.toks.map tkS).map V.str)) (fun i H' => Same H1 H' ∧ H' D = some (.lst ((((w.toks.take i).filter fun p => p.1).map (·.2)).map V.str))) ⟨same_new nD, upd_same⟩ (fun i H' _ hp => Same.sqT hp.1 hT) (fun i x H' H2 hi hp hy => ?_) (fun H' hp => ?_)
  · obtain ⟨s, eD⟩ := hp
    obtain ⟨rfl, hx⟩ := hy
    rw [List.length_map, List.length_map] at hi
    have hp : (w.toks)[i]? = some w.toks[i] := List.getElem?_eq_getElem hi
    obtain ⟨p, ep⟩ : ∃ p, w.toks[i] = p := ⟨_, rfl⟩
    have ex : x = .str (tkS p) := by
      rw [List.getElem?_map, List.getElem?_map, hp, ep] at hx
      exact (Option.some.inj hx).symm
    subst ex
    have hpn : p.2.length ≤ 1000 := hnm _ (Wd.toks_mem (by rw [← ep]; exact List.getElem_mem hi))
    have ptl : (tkS p).length ≤ sizeLine := big (by rw [tk_len]; omega)
    have tk : w.toks.take (i + 1) = w.toks.take i ++ [p] := by rw [List.take_add_one, hp, ep]; rfl
    have fl : ((w.toks.take i).filter fun p => p.1).length ≤ i := by
      refine Nat.le_trans (List.length_filter_le _ _) ?_
      rw [List.length_take]
      omega
    refine ⟨rfl, .str (tkS p), rfl, tkS p, 0, _, rfl, rfl, ptl, tk_at0 p, rfl, _, rfl, ?_⟩
    obtain ⟨b, n⟩ := p
    cases b with
    | true =>
      rw [decide_eq_true (show V.str ⟨#[if (true, n).1 = true then 43 else 45]⟩ = .str "+" by rw [if_pos rfl, plus_eqS])]
      refine ⟨.str (tkS (true, n)), rfl, 1, rfl, _, rfl, ptl, ?_⟩
      rw [tk_cut]
      refine ⟨_, eD, big' (by rw [List.length_map, List.length_map]; omega), fun b o e => ?_, ?_⟩
      · rw [upd_ne (ne_of_none e nD)]
        exact s b o e
      · rw [upd_same, tk, List.filter_append, List.map_append, List.map_append]
        rfl
    | false =>
      rw [decide_eq_false (show ¬ V.str ⟨#[if (false, n).1 = true then 43 else 45]⟩ = .str "+" from fun e => minus_neS (V.str.inj e))]
      refine ⟨s, ?_⟩
      rw [tk, List.filter_append]
      show _ = some (HO.lst (((((w.toks.take i).filter fun p : Bool × Str => p.1) ++ []).map fun p : Bool × Str => p.2).map V.str))
      rw [List.append_nil]
      exact eD
  · obtain ⟨s, eD⟩ := hp
    rw [List.length_map, List.length_map, List.take_of_length_le (Nat.le_refl _), toks_names] at eD
    exact ⟨D, _, rfl, .inl ⟨.inl (.inl eD), fun p np => q _ _ ((s1.trans s).trans (same_new np)) ⟨p, rfl, .inl (.inl upd_same)⟩⟩⟩

/-- slots of all_parents: 0 wood, 1 found, 2 waiting, 3 parent, 4 tree, 5 part -/
def n_all_parents : List Str := ["wood", "found", "waiting", "parent", "tree", "part"]
def t_all_parents (K : PySem.W.Frag) : TS :=
  (tSeq (tAsg tDNewK (gName 1))
    (tSeq (tAsg (tLc (iTup K (tVar 0)) (gName 4) tYes (tTup (tCons (tC .non) (tCons (tVar 4) tNil))) [4]) (gName 2))
    (tSeq (tWhile (tTest (tOp (rNeE K) (tVar 2) (tLst tNil))) (tSeq (tAsg (tBM0 K "list" rPop (tVar 2)) (gTup K 2 (gCons (gName 3) (gCons (gName 4) gNil))))
    (tSeq (tDPut (tVar 1) (tOp (rIxT K) (tVar 4) (tC (.int 0))) (tVar 3))
    (tDrop (tBM K "list" rExtend (tVar 2) (tCons (tLc (iTup K (tOp (rIxT K) (tVar 4) (tC (.int 1)))) (gName 5) tYes (tTup (tCons (tOp (rIxT K) (tVar 4) (tC (.int 0))) (tCons (tVar 5) tNil))) [5]) tNil))))))
    (tRet (tVar 1)))))

theorem sqT_at {K : PySem.W.Frag} {H : Hp} {L a : Addr} {o o' : HO} {xs : List V} (hL : H L = some o) (n1 : ∀ ys, o ≠ .tup ys) (n2 : ∀ ob ys, o ≠ .frz ob (.tup ys)) (h : SqT K H a xs) : SqT K (upd H L o') a xs := by
  rcases h with h | h
  · refine .inl (Rd.keep (fun o e => ?_) h)
    rw [upd_ne ?_]
    · exact e
    · rintro rfl
      rcases h with h | ⟨ob, h⟩
      · rw [hL] at h
        exact n1 _ (Option.some.inj h)
      · rw [hL] at h
        exact n2 _ _ (Option.some.inj h)
  · exact .inr h
theorem sqT_dict {K : PySem.W.Frag} {H : Hp} {L a : Addr} {kvs : List (Key × V)} {o' : HO} {xs : List V} (hL : H L = some (.dK kvs)) (h : SqT K H a xs) : SqT K (upd H L o') a xs := sqT_at hL (fun _ z => nomatch z) (fun _ _ z => nomatch z) h
/-- the trees with their parent -/
def trs (p : V) : Wd → List (V × Str × Wd)
  | .nil => []
  | .cons n i r => (p, n, i) :: trs p r
def TRR (K : PySem.W.Frag) (H : Hp) (v : V) (x : V × Str × Wd) : Prop := ∃ t b us, v = .ref t ∧ SqT K H t [.str x.2.1, .ref b] ∧ SqT K H b us ∧ WdL K H us x.2.2
def PIR (K : PySem.W.Frag) (H : Hp) (v : V) (x : V × Str × Wd) : Prop := ∃ a t, v = .ref a ∧ SqT K H a [x.1, .ref t] ∧ TRR K H (.ref t) x
theorem TRR.map {K : PySem.W.Frag} {H H' : Hp} (k : ∀ a xs, SqT K H a xs → SqT K H' a xs) {v : V} {x : V × Str × Wd} (h : TRR K H v x) : TRR K H' v x := by
  obtain ⟨t, b, us, e, h1, h2, h3⟩ := h
  exact ⟨t, b, us, e, k _ _ h1, k _ _ h2, h3.map k⟩
theorem PIR.map {K : PySem.W.Frag} {H H' : Hp} (k : ∀ a xs, SqT K H a xs → SqT K H' a xs) {v : V} {x : V × Str × Wd} (h : PIR K H v x) : PIR K H' v x := by
  obtain ⟨a, t, e, h1, h2⟩ := h
  exact ⟨a, t, e, k _ _ h1, h2.map k⟩
theorem WdL.trs {K : PySem.W.Frag} {H : Hp} (p : V) : ∀ {ts : List V} {w : Wd}, WdL K H ts w → Paired (TRR K H) ts (trs p w)
  | _, _, .nil => .nil
  | _, _, .cons ht ha hi hr => .cons ⟨_, _, _, rfl, ht, ha, hi⟩ (hr.trs p)
def remP (S : List (V × Str × Wd)) : List (Str × V) := (S.map fun x => (x.2.1, x.1) :: pars (.str x.2.1) x.2.2).flatten
def remZ (S : List (V × Str × Wd)) : Nat := (S.map fun x => x.2.2.size + 1).sum
theorem remP_trs : ∀ (p : V) (w : Wd), remP (trs p w) = pars p w
  | _, .nil => rfl
  | p, .cons n i r => by
    have h := remP_trs p r
    unfold remP at h ⊢
    show ((n, p) :: pars (.str n) i) ++ ((trs p r).map fun x => (x.2.1, x.1) :: pars (.str x.2.1) x.2.2).flatten = _
    rw [h]
    rfl
theorem remZ_trs : ∀ (p : V) (w : Wd), remZ (trs p w) = w.size
  | _, .nil => rfl
  | p, .cons n i r => by
    have h := remZ_trs p r
    unfold remZ at h ⊢
    show i.size + 1 + ((trs p r).map fun x => x.2.2.size + 1).sum = i.size + r.size + 1
    rw [h]
    omega
theorem remP_app (S T : List (V × Str × Wd)) : remP (S ++ T) = remP S ++ remP T := by
  unfold remP
  rw [List.map_append, List.flatten_append]
theorem remZ_app (S T : List (V × Str × Wd)) : remZ (S ++ T) = remZ S + remZ T := by
  unfold remZ
  rw [List.map_append, List.sum_append]
theorem trs_len : ∀ (p : V) (w : Wd), (trs p w).length ≤ w.size
  | _, .nil => Nat.le_refl _
  | p, .cons n i r => by
    have := trs_len p r
    show (trs p r).length + 1 ≤ i.size + r.size + 1
    omega
theorem remZ_len : ∀ S : List (V × Str × Wd), S.length ≤ remZ S
  | [] => Nat.le_refl _
  | x :: S => by
    have h := remZ_len S
    unfold remZ at h ⊢
    rw [List.map_cons, List.sum_cons, List.length_cons]
    omega
theorem remP_len : ∀ S : List (V × Str × Wd), (remP S).length = remZ S
  | [] => rfl
  | x :: S => by
    have h := remP_len S
    unfold remP remZ at h ⊢
    rw [List.map_cons, List.flatten_cons, List.length_append, h, List.map_cons, List.sum_cons, List.length_cons]
    have e : (pars (.str x.2.1) x.2.2).length = x.2.2.size := by rw [← List.length_map (f := fun y : Str × V => y.1), pars_names, Wd.size_names]
    rw [e]
def sp_all_parents (K : PySem.W.Frag) : Sp := fun vs H Q _ => ∃ (v : V) (w : Wd), vs = [v] ∧ WdR K H v w ∧ w.size ≤ 10000 ∧ w.names.Nodup ∧
  ∀ (H' : Hp) (D : Addr) (kvs : List (Key × V)), Same H H' → H D = none → H' D = some (.dK kvs) → PD kvs w → Q (.ref D) H'
theorem pure_all_parents {K : PySem.W.Frag} (vs : List V) (H : Hp) (Q : VK) (E : XK) (h : sp_all_parents K vs H Q E) : t_all_parents K { nx := fun _ H' => Q .non H', rt := Q } (start n_all_parents vs) H := by
  obtain ⟨v, w, rfl, ⟨a, ts, rfl, hT, hw⟩, hsz, hnd, q⟩ := h
  intro F nF
  have sF := same_new nF (o := .dK [])
  refine ⟨.ref a, rfl, a, rfl, ⟨_, Same.sqT sF hT⟩, fun G nG => ?_⟩
  have nGH : H G = none := sF.free nG
  have nFG : F ≠ G := ne_of_none upd_same nG
  have tl := trs_len .non w
  have lt := paired_len (hw.trs .non)
  refine lc_it (walk_tup (xs := ts)) (fun i H' => Same H H' ∧ H' F = some (.dK []) ∧ ∃ ws, H' G = some (.lst ws) ∧ Paired (PIR K H') ws ((trs .non w).take i)) ⟨sF.trans (same_new nG), same_new nG _ _ upd_same, [], upd_same, .nil⟩ (fun i H' _ hp => Same.sqT hp.1 hT) (fun i x H' H2 hi hp hy => ?_) (fun H' hp => ?_)
  · obtain ⟨s, eF, ws, eG, hp⟩ := hp
    obtain ⟨rfl, hx⟩ := hy
    obtain ⟨y, hy, hR⟩ := paired_get (hw.trs .non) hx
    have lw := paired_len hp
    rw [List.length_take] at lw
    have yp : y.1 = .non := by
      have : ∀ (p : V) (w : Wd), ∀ z ∈ trs p w, z.1 = p := by
        intro p w
        induction w with
        | nil => exact fun z h => nomatch h
        | cons n i r _ ih =>
          intro z hz
          rcases List.mem_cons.mp hz with rfl | hz
          · rfl
          · exact ih z hz
      exact this _ _ y (List.mem_of_getElem? hy)
    refine ⟨rfl, x, rfl, big (by show 2 ≤ 100000; decide), fun t nt => ⟨ws, same_new nt _ _ eG, big' (by omega), fun b o e => ?_, ?_, ws ++ [.ref t], upd_same, ?_⟩⟩
    · rw [upd_ne (ne_of_none e nGH)]
      exact same_new nt _ _ (s b o e)
    · rw [upd_ne nFG]
      exact same_new nt _ _ eF
    · rw [List.take_add_one, hy]
      have eG' := same_new nt (o := .tup [.non, x]) _ _ eG
      have kT : ∀ a xs, SqT K H2 a xs → SqT K (upd (upd H2 t (.tup [.non, x])) G (.lst (ws ++ [.ref t]))) a xs := fun _ _ h => sqT_relst eG' (Same.sqT (same_new nt) h)
      obtain ⟨tt, b, us, rfl, h1, h2, h3⟩ := hR
      refine paired_app (L2.Paired.mapP hp fun _ _ z => z.map kT) (.cons ⟨t, tt, rfl, by rw [yp]; exact sqT_relst eG' (.inl (.inl upd_same)), tt, b, us, rfl, kT _ _ (Same.sqT s h1), kT _ _ (Same.sqT s h2), (h3.same s).map kT⟩ .nil)
  · obtain ⟨s, eF, ws, eG, hp⟩ := hp
    rw [lt, List.take_of_length_le (Nat.le_refl _)] at hp
    dsimp only [gName]
    refine seq_by (t := tWhile _ _) (fun σ H' => ∃ y2 y3 y4 y5 kvs, σ = [some (.ref a), some (.ref F), y2, y3, y4, y5] ∧ Same H H' ∧ H' F = some (.dK kvs) ∧ PD kvs w) (fun σ H' hJ => ?_) (fun rest => ?_)
    · obtain ⟨y2, y3, y4, y5, kvs, rfl, s, eF, hP⟩ := hJ
      exact ⟨.ref F, rfl, q _ F kvs s nF eF hP⟩
    refine while_ne (fun m σ H' => ∃ (ws : List V) (S : List (V × Str × Wd)) (Dn : List (Str × V)) (kvs : List (Key × V)) (y3 y4 y5 : Option V), σ = [some (.ref a), some (.ref F), some (.ref G), y3, y4, y5] ∧ Same H H' ∧ H' F = some (.dK kvs) ∧ H' G = some (.lst ws) ∧ Paired (PIR K H') ws S ∧ (Dn ++ remP S).Perm (pars .non w) ∧ (∀ x ∈ Dn, valV kvs (.inr x.1) = some x.2) ∧ kvs.length ≤ Dn.length ∧ m = remZ S)
      ⟨_, ws, trs .non w, [], [], none, none, none, rfl, s, eF, eG, hp, by rw [remP_trs]; exact .refl _, (fun _ h => nomatch h), Nat.le_refl _, rfl⟩ (fun m σ H' hp => ?_)
    obtain ⟨ws, S, Dn, kvs, y3, y4, y5, rfl, s, eF, eG, hp, hP, hv, hl, rfl⟩ := hp
    refine ⟨G, ws, rfl, eG, fun hne e ne => ?_, fun hnil e ne => ?_⟩
    · have se := same_new ne (o := .lst [])
      replace eF := se _ _ eF
      replace eG := se _ _ eG
      replace s := s.trans se
      replace hp : Paired (PIR K (upd H' e (.lst []))) ws S := L2.Paired.mapP hp fun _ _ z => z.map fun _ _ => Same.sqT se
      clear ne se
      generalize upd H' e (.lst []) = H1 at *
      obtain ⟨ws', x, S', y, rfl, rfl, hp', hx⟩ := paired_snoc hp hne
      obtain ⟨p, n, i⟩ := y
      have hlen : Dn.length + remZ (S' ++ [(p, n, i)]) = w.size := by
        rw [← remP_len, ← List.length_append, hP.length_eq, ← List.length_map (f := fun y : Str × V => y.1), pars_names, Wd.size_names]
      rw [remZ_app] at hlen
      have hz1 : remZ [(p, n, i)] = i.size + 1 := by simp [remZ]
      have lz := remZ_len S'
      have lw := paired_len hp'
      have last : (ws' ++ [x])[(ws' ++ [x]).length - 1]? = some x := by
        rw [List.length_append, List.length_cons, List.length_nil, Nat.add_sub_cancel, List.getElem?_append_right (Nat.le_refl _), Nat.sub_self]
        rfl
      obtain ⟨xa, t', rfl, hxa, tt, b, us, ett, ht, hb, hi⟩ := hx
      have ett' : tt = t' := (V.ref.inj ett).symm
      subst ett'
      refine ⟨.ref G, rfl, .inl ⟨rfl, _, .inl (.inl eG)⟩, G, _, _, rfl, rfl, eG, last, ?_⟩
      rw [List.dropLast_concat]
      have kT : ∀ a xs, SqT K H1 a xs → SqT K (upd H1 G (.lst ws')) a xs := fun _ _ => sqT_relst eG
      refine ⟨xa, _, rfl, kT _ _ hxa, rfl, _, _, rfl, _, _, rfl, rfl, ?_⟩
      have eF2 : (upd H1 G (.lst ws')) F = some (.dK kvs) := by rw [upd_ne nFG]; exact eF
      have eG2 : (upd H1 G (.lst ws')) G = some (.lst ws') := upd_same
      have s2 : Same H (upd H1 G (.lst ws')) := fun b o e => by
        rw [upd_ne (ne_of_none e nGH)]
        exact s b o e
      have hp2 : Paired (PIR K (upd H1 G (.lst ws'))) ws' S' := L2.Paired.mapP hp' fun _ _ z => z.map kT
      have ht2 := kT _ _ ht
      have hb2 := kT _ _ hb
      have hi2 := hi.map kT
      clear eF eG s last hxa
      generalize upd H1 G (.lst ws') = H2 at *
      have at0 : atI [V.str n, .ref b] 0 = some (.str n) := atI_nat (j := 0) rfl
      have at1 : atI [V.str n, .ref b] 1 = some (.ref b) := atI_nat (j := 1) rfl
      -- found[tree[0]] = parent
      refine ⟨p, rfl, .ref F, rfl, .ref tt, rfl, tt, _, 0, _, rfl, rfl, ht2, at0, F, _, rfl, .inl ⟨kvs, .inr n, eF2, rfl, big' (by omega), rfl⟩, ?_⟩
      have kT3 : ∀ a xs, SqT K H2 a xs → SqT K (upd H2 F (.dK (putK kvs (.inr n) p))) a xs := fun _ _ => sqT_dict eF2
      have eF3 : (upd H2 F (.dK (putK kvs (.inr n) p))) F = some (.dK (putK kvs (.inr n) p)) := upd_same
      have eG3 : (upd H2 F (.dK (putK kvs (.inr n) p))) G = some (.lst ws') := by rw [upd_ne (Ne.symm nFG)]; exact eG2
      have s3 : Same H (upd H2 F (.dK (putK kvs (.inr n) p))) := fun b o e => by
        rw [upd_ne (ne_of_none e nF)]
        exact s2 b o e
      have hp3 : Paired (PIR K (upd H2 F (.dK (putK kvs (.inr n) p)))) ws' S' := L2.Paired.mapP hp2 fun _ _ z => z.map kT3
      have ht3 := kT3 _ _ ht2
      have hb3 := kT3 _ _ hb2
      have hi3 := hi2.map kT3
      generalize upd H2 F (.dK (putK kvs (.inr n) p)) = H3 at *
      -- the pairs of its parts
      refine ⟨.ref G, rfl, .inl ⟨rfl, _, .inl (.inl eG3)⟩, .ref tt, rfl, tt, _, 1, _, rfl, rfl, ht3, at1, b, rfl, ⟨_, hb3⟩, fun L nL => ?_⟩
      have nGL : G ≠ L := ne_of_none eG3 nL
      have nFL : F ≠ L := ne_of_none eF3 nL
      have lti := paired_len (hi3.trs (.str n))
      have tli := trs_len (.str n) i
      refine lc_it (walk_tup (xs := us)) (fun j H' => Same H3 H' ∧ ∃ vs, H' L = some (.lst vs) ∧ Paired (PIR K H') vs ((trs (.str n) i).take j)) ⟨same_new nL, [], upd_same, .nil⟩ (fun j H' _ hp => Same.sqT hp.1 hb3) (fun j x H4 H5 hj hp hy => ?_) (fun H4 hp => ?_)
      · obtain ⟨s4, vs, eL, hvs⟩ := hp
        obtain ⟨rfl, hx⟩ := hy
        obtain ⟨y, hy, hR⟩ := paired_get (hi3.trs (.str n)) hx
        have lv := paired_len hvs
        rw [List.length_take] at lv
        have yp : y.1 = .str n := by
          have : ∀ (p : V) (w : Wd), ∀ z ∈ trs p w, z.1 = p := by
            intro p w
            induction w with
            | nil => exact fun z h => nomatch h
            | cons n i r _ ih =>
              intro z hz
              rcases List.mem_cons.mp hz with rfl | hz
              · rfl
              · exact ih z hz
          exact this _ _ y (List.mem_of_getElem? hy)
        refine ⟨rfl, .ref tt, rfl, tt, _, 0, _, rfl, rfl, Same.sqT s4 ht3, at0, x, rfl, big (by show 2 ≤ 100000; decide), fun t nt => ⟨vs, same_new nt _ _ eL, big' (by omega), fun b o e => ?_, vs ++ [.ref t], upd_same, ?_⟩⟩
        · rw [upd_ne (ne_of_none e nL)]
          exact same_new nt _ _ (s4 b o e)
        · rw [List.take_add_one, hy]
          have eL' := same_new nt (o := .tup [.str n, x]) _ _ eL
          have kT5 : ∀ a xs, SqT K H5 a xs → SqT K (upd (upd H5 t (.tup [.str n, x])) L (.lst (vs ++ [.ref t]))) a xs := fun _ _ h => sqT_relst eL' (Same.sqT (same_new nt) h)
          obtain ⟨t2, b2, us2, rfl, h1, h2, h3⟩ := hR
          exact paired_app (L2.Paired.mapP hvs fun _ _ z => z.map kT5) (.cons ⟨t, t2, rfl, by rw [yp]; exact sqT_relst eL' (.inl (.inl upd_same)), t2, b2, us2, rfl, kT5 _ _ (Same.sqT s4 h1), kT5 _ _ (Same.sqT s4 h2), (h3.same s4).map kT5⟩ .nil)
      · obtain ⟨s4, vs, eL, hvs⟩ := hp
        rw [lti, List.take_of_length_le (Nat.le_refl _)] at hvs
        have lvs : vs.length = (trs (.str n) i).length := paired_len hvs
        have lsum : ws'.length + vs.length ≤ 100000 := by omega
        have eG4 := s4 _ _ eG3
        have pm : ((Dn ++ [(n, p)]) ++ remP (S' ++ trs (.str n) i)).Perm (pars .non w) := by
          refine List.Perm.trans ?_ hP
          rw [remP_app, remP_app, remP_trs, List.append_assoc]
          refine List.Perm.append_left Dn ?_
          show ([(n, p)] ++ (remP S' ++ pars (.str n) i)).Perm (remP S' ++ ((n, p) :: pars (.str n) i ++ []))
          rw [List.append_nil]
          show ((n, p) :: (remP S' ++ pars (.str n) i)).Perm _
          exact List.perm_middle.symm
        have ndp : ((Dn ++ remP (S' ++ [(p, n, i)])).map (·.1)).Nodup := (hP.map _).nodup_iff.mpr (by rw [pars_names]; exact hnd)
        have ndn : ∀ x ∈ Dn, x.1 ≠ n := fun x hx e => by
          rw [List.map_append, List.nodup_append] at ndp
          refine ndp.2.2 _ (List.mem_map.mpr ⟨x, hx, rfl⟩) n (List.mem_map.mpr ⟨(n, p), ?_, rfl⟩) e
          rw [remP_app]
          exact List.mem_append_right _ List.mem_cons_self
        have pl := (put_len (kvs := kvs) (k := .inr n) (v := p)).1
        refine ⟨G, L, _, _, rfl, rfl, eG4, eL, big lsum, _, ?_, ws' ++ vs, S' ++ trs (.str n) i, Dn ++ [(n, p)], putK kvs (.inr n) p, _, _, _, rfl, fun b o e => ?_, ?_, upd_same, ?_, pm, fun x hx => ?_, ?_, rfl⟩
        · rw [remZ_app, remZ_app, remZ_trs, hz1]
          omega
        · rw [upd_ne (ne_of_none e nGH)]
          exact s4 _ _ (s3 b o e)
        · rw [upd_ne nFG]
          exact s4 _ _ eF3
        · exact paired_app (L2.Paired.mapP hp3 fun _ _ z => z.map fun _ _ h => sqT_relst eG4 (Same.sqT s4 h)) (L2.Paired.mapP hvs fun _ _ z => z.map fun _ _ h => sqT_relst eG4 h)
        · rw [valV_put]
          rcases List.mem_append.mp hx with h | h
          · rw [if_neg (fun z => ndn x h (Sum.inr.inj z))]
            exact hv x h
          · rcases List.mem_cons.mp h with rfl | h
            · rw [if_pos rfl]
            · cases h
        · rw [List.length_append, List.length_cons, List.length_nil]
          omega
    · subst hnil
      cases hp
      refine rest _ _ ⟨_, _, _, _, kvs, rfl, s.trans (same_new ne), same_new ne _ _ eF, fun x hx => hv x ?_⟩
      have : x ∈ Dn ++ remP [] := hP.mem_iff.mpr hx
      rw [show remP [] = [] from rfl, List.append_nil] at this
      exact this

/-- slots of require_there: 0 names, 1 name -/
def n_require_there : List Str := ["names", "name"]
def t_require_there (K : PySem.W.Frag) : TS :=
  (tIfS (tTest (tOp (rIn K true) (tVar 1) (tVar 0))) tNever tNext)

def sp_require_there (K : PySem.W.Frag) : Sp := fun vs H Q _ => ∃ (a : Addr) (ns : List Str) (z : Str), vs = [.ref a, .str z] ∧ SqT K H a (ns.map V.str) ∧ z ∈ ns ∧ Q .non H
theorem pure_require_there {K : PySem.W.Frag} (vs : List V) (H : Hp) (Q : VK) (E : XK) (h : sp_require_there K vs H Q E) : t_require_there K { nx := fun _ H' => Q .non H', rt := Q } (start n_require_there vs) H := by
  obtain ⟨a, ns, z, rfl, hT, hz, q⟩ := h
  refine ⟨.str z, rfl, .ref a, rfl, a, _, rfl, .inr hT, rfl, flat_strs ns, _, rfl, ?_⟩
  show if (if true = true then !inV (.str z) (ns.map V.str) else _) = true then _ else _
  rw [if_pos rfl, inV_strs, List.contains_iff_mem.mpr hz]
  exact q

/-- slots of parent_of: 0 wood, 1 name -/
def n_parent_of : List Str := ["wood", "name"]
def t_parent_of (K : PySem.W.Frag) : TS :=
  (tSeq (tDrop (tCall (sp_require_there K) [] E0 (tCons (tCall (sp_names_of K) [] E0 (tCons (tVar 0) tNil)) (tCons (tVar 1) tNil))))
    (tRet (tDGet (tCall (sp_all_parents K) [] E0 (tCons (tVar 0) tNil)) (tVar 1))))

def sp_parent_of (K : PySem.W.Frag) : Sp := fun vs H Q _ => ∃ (v : V) (z : Str) (w : Wd), vs = [v, .str z] ∧ WdR K H v w ∧ w.size ≤ 10000 ∧ (∀ m ∈ w.names, m.length ≤ 1000) ∧ w.names.Nodup ∧ z ∈ w.names ∧
  ∀ (H' : Hp) (p : V), Same H H' → (z, p) ∈ pars .non w → Q p H'
theorem pure_parent_of {K : PySem.W.Frag} (vs : List V) (H : Hp) (Q : VK) (E : XK) (h : sp_parent_of K vs H Q E) : t_parent_of K { nx := fun _ H' => Q .non H', rt := Q } (start n_parent_of vs) H := by
  obtain ⟨v, z, w, rfl, hw, hsz, hnm, hnd, hz, q⟩ := h
  refine ⟨v, rfl, v, w, rfl, hw, hsz, hnm, fun H1 u s1 hu => ?_⟩
  obtain ⟨a, rfl, hT⟩ := hu
  refine ⟨.str z, rfl, a, w.names, z, rfl, hT, hz, ?_⟩
  refine ⟨v, rfl, v, w, rfl, hw.same s1, hsz, hnd, fun H2 D kvs s2 nD eD hP => ?_⟩
  have hz' : z ∈ (pars .non w).map (·.1) := by rw [pars_names]; exact hz
  obtain ⟨⟨z', p⟩, hx, ez⟩ := List.mem_map.mp hz'
  have ez' : z' = z := ez
  subst ez'
  exact ⟨.str z', rfl, D, p, rfl, .inl ⟨kvs, .inr z', .inl eD, rfl, (hP _ hx).symm⟩, q _ p (s1.trans s2) hx⟩

/-- slots of children_of: 0 wood, 1 name, 2 names, 3 parents, 4 one -/
def n_children_of : List Str := ["wood", "name", "names", "parents", "one"]
def t_children_of (K : PySem.W.Frag) : TS :=
  (tSeq (tAsg (tCall (sp_names_of K) [] E0 (tCons (tVar 0) tNil)) (gName 2))
    (tSeq (tIfS (tTest (tOp rNotN (tVar 1) (tC .non))) (tDrop (tCall (sp_require_there K) [] E0 (tCons (tVar 2) (tCons (tVar 1) tNil)))) tNext)
    (tSeq (tAsg (tCall (sp_all_parents K) [] E0 (tCons (tVar 0) tNil)) (gName 3))
    (tRet (tCB (rTupOf K) (tCons (tLc (iTup K (tVar 2)) (gName 4) (tTest (tOp rEq (tDGet (tVar 3) (tVar 4)) (tVar 1))) (tVar 4) [4]) tNil))))))

def sp_children_of (K : PySem.W.Frag) : Sp := fun vs H Q _ => ∃ (v x : V) (w : Wd), vs = [v, x] ∧ WdR K H v w ∧ w.size ≤ 10000 ∧ (∀ m ∈ w.names, m.length ≤ 1000) ∧ w.names.Nodup ∧ (x = .non ∨ ∃ z ∈ w.names, x = .str z) ∧
  ∀ (H' : Hp) (a : Addr), Same H H' → SqT K H' a ((kidsAt .non w x).map V.str) → Q (.ref a) H'
theorem pure_children_of {K : PySem.W.Frag} (vs : List V) (H : Hp) (Q : VK) (E : XK) (h : sp_children_of K vs H Q E) : t_children_of K { nx := fun _ H' => Q .non H', rt := Q } (start n_children_of vs) H := by
  obtain ⟨v, x, w, rfl, hw, hsz, hnm, hnd, hx, q⟩ := h
  refine ⟨v, rfl, v, w, rfl, hw, hsz, hnm, fun H1 u s1 hu => ?_⟩
  obtain ⟨a, rfl, hT⟩ := hu
  dsimp only [gName]
  have lp : (pars .non w).length = w.size := by rw [← List.length_map (f := fun y : Str × V => y.1), pars_names, Wd.size_names]
  refine seq_by (t := tIfS _ _ _) (fun σ H' => σ = [some v, some x, some (.ref a), none, none] ∧ H' = H1) (fun σ H' hJ => ?_) (fun rest => ?_)
  · obtain ⟨rfl, rfl⟩ := hJ
    refine ⟨v, rfl, v, w, rfl, hw.same s1, hsz, hnd, fun H2 F kvs s2 nF eF hP => ?_⟩
    refine ⟨.ref a, rfl, a, rfl, ⟨_, Same.sqT s2 hT⟩, fun D nD => ?_⟩
    have hT2 : SqT K H2 a (((pars .non w).map (·.1)).map V.str) := by rw [pars_names]; exact Same.sqT s2 hT
    refine lc_it (walk_tup (xs := ((pars .non w).map (·.1)).map V.str)) (fun i H' => Same H2 H' ∧ H' D = some (.lst (((((pars .non w).take i).filter fun y => decide (y.2 = x)).map (·.1)).map V.str))) ⟨same_new nD, upd_same⟩ (fun i H' _ hp => Same.sqT hp.1 hT2) (fun i z H' H3 hi hp hy => ?_) (fun H' hp => ?_)
    · obtain ⟨s, eD⟩ := hp
      obtain ⟨rfl, hz⟩ := hy
      rw [List.length_map, List.length_map] at hi
      obtain ⟨y, ey⟩ : ∃ y, (pars .non w)[i] = y := ⟨_, rfl⟩
      have hp : (pars .non w)[i]? = some y := by rw [← ey]; exact List.getElem?_eq_getElem hi
      have ez : z = .str y.1 := by
        rw [List.getElem?_map, List.getElem?_map, hp] at hz
        exact (Option.some.inj hz).symm
      subst ez
      have my := List.mem_of_getElem? hp
      have sc : scal y.2 x = true := by
        have h1 : y.2 = .non ∨ ∃ k, y.2 = .str k := by
          rcases pars_flat my with e | ⟨k, _, e⟩
          · exact .inl e
          · exact .inr ⟨k, e⟩
        rcases h1 with e | ⟨k, e⟩ <;> rcases hx with e' | ⟨k', _, e'⟩ <;> rw [e, e'] <;> rfl
      have tk : (pars .non w).take (i + 1) = (pars .non w).take i ++ [y] := by rw [List.take_add_one, hp]; rfl
      have fl : (((pars .non w).take i).filter fun y => decide (y.2 = x)).length ≤ i := by
        refine Nat.le_trans (List.length_filter_le _ _) ?_
        rw [List.length_take]
        omega
      refine ⟨rfl, .ref F, rfl, .str y.1, rfl, F, y.2, rfl, .inl ⟨kvs, .inr y.1, .inl (s _ _ eF), rfl, (hP y my).symm⟩, x, rfl, sc, _, rfl, ?_⟩
      by_cases c : y.2 = x
      · rw [decide_eq_true c]
        refine ⟨.str y.1, rfl, _, eD, big' (by rw [List.length_map, List.length_map]; omega), fun b o e => ?_, ?_⟩
        · rw [upd_ne (ne_of_none e nD)]
          exact s b o e
        · rw [upd_same, tk, List.filter_append, List.filter_cons, if_pos (decide_eq_true c), List.map_append, List.map_append]
          rfl
      · rw [decide_eq_false c]
        refine ⟨s, ?_⟩
        rw [tk, List.filter_append, List.filter_cons, if_neg (by rw [decide_eq_false c]; exact Bool.false_ne_true), List.filter_nil, List.append_nil]
        exact eD
    · obtain ⟨s, eD⟩ := hp
      rw [List.length_map, List.length_map, List.take_of_length_le (Nat.le_refl _)] at eD
      exact ⟨D, _, rfl, .inl ⟨.inl (.inl eD), fun p np => q _ p (((s1.trans s2).trans s).trans (same_new np)) (.inl (.inl upd_same))⟩⟩
  · rcases hx with rfl | ⟨z, hz, rfl⟩
    · exact ⟨_, rfl, rfl, _, rfl, rest _ _ ⟨rfl, rfl⟩⟩
    · exact ⟨_, rfl, rfl, _, rfl, .ref a, rfl, .str z, rfl, a, w.names, z, rfl, hT, hz, rest _ _ ⟨rfl, rfl⟩⟩

def sp_preorderL (K : PySem.W.Frag) (n : Nat) : Sp := fun vs H Q _ => ∃ (v : V) (w : Wd), vs = [v] ∧ WdR K H v w ∧ w.dep < n ∧ w.size ≤ 10000 ∧
  ∀ (H' : Hp) (L : Addr), Same H H' → H L = none → H' L = some (.lst (w.names.map V.str)) → Q (.ref L) H'
/-- slots of _law_preorder: 0 _law_wood_here, 1 _law_names_here, 2 _law_name_here, 3 _law_inside -/
def n_preorderL : List Str := ["_law_wood_here", "_law_names_here", "_law_name_here", "_law_inside"]
def t_preorderL (n : Nat) (K : PySem.W.Frag) : TS :=
  (tSeq (tAsg (tLst tNil) (gName 1))
    (tSeq (tFor (iTup K (tVar 0)) (gTup K 2 (gCons (gName 2) (gCons (gName 3) gNil))) (tAsg (tOp rCat (tOp rCat (tVar 1) (tLst (tCons (tVar 2) tNil))) (tCall (sp_preorderL K n) [] E0 (tCons (tVar 3) tNil))) (gName 1)))
    (tRet (tVar 1))))

theorem none_preorderL {K : PySem.W.Frag} (vs : List V) (H : Hp) (Q : VK) (E : XK) (h : sp_preorderL K 0 vs H Q E) : False := by
  obtain ⟨_, _, _, _, h, _⟩ := h
  exact Nat.not_lt_zero _ h
theorem WdL.get2 {K : PySem.W.Frag} {H : Hp} : ∀ {ts : List V} {w : Wd} {i : Nat} {x : V}, WdL K H ts w → ts[i]? = some x → ∃ t a n us inner, x = .ref t ∧ SqT K H t [.str n, .ref a] ∧ SqT K H a us ∧ WdL K H us inner ∧ w.take (i + 1) = (w.take i).app (.cons n inner .nil) ∧ inner.dep < w.dep ∧ inner.size < w.size
  | _, _, _, _, .nil, h => by cases h
  | _, .cons n i r, 0, x, .cons (t := t) (a := a) (us := us) ht ha hi _, h => by
    refine ⟨t, a, n, us, i, (Option.some.inj h).symm, ht, ha, hi, rfl, ?_, ?_⟩
    · show i.dep < max (i.dep + 1) r.dep
      omega
    · show i.size < i.size + r.size + 1
      omega
  | _, .cons m i r, j + 1, x, .cons _ _ _ hr, h => by
    obtain ⟨t, a, n, us, inner, h1, h2, h3, h4, e, h5, h6⟩ := WdL.get2 (i := j) hr h
    refine ⟨t, a, n, us, inner, h1, h2, h3, h4, congrArg (Wd.cons m i) e, ?_, ?_⟩
    · show inner.dep < max (i.dep + 1) r.dep
      omega
    · show inner.size < i.size + r.size + 1
      omega
theorem Wd.names_take_le (k : Nat) (w : Wd) : (w.take k).names.length ≤ w.size := by
  rw [← Wd.size_names, ← Wd.names_take_drop k w, List.length_append]
  omega
theorem pure_preorderL {K : PySem.W.Frag} (n : Nat) (vs : List V) (H : Hp) (Q : VK) (E : XK) (h : sp_preorderL K (n + 1) vs H Q E) : t_preorderL n K { nx := fun _ H' => Q .non H', rt := Q } (start n_preorderL vs) H := by
  obtain ⟨v, w, rfl, ⟨a, ts, rfl, hT, hw⟩, hd, hsz, q⟩ := h
  refine ⟨big (by decide), fun p0 n0 => ?_⟩
  have s1 := same_new n0 (o := .lst [])
  refine ⟨.ref a, rfl, a, rfl, ⟨_, Same.sqT s1 hT⟩, for_it (walk_tup (xs := ts)) (fun i σ H' => ∃ (p : Addr) (y2 y3 : Option V), σ = [some (.ref a), some (.ref p), y2, y3] ∧ Same H H' ∧ H p = none ∧ H' p = some (.lst ((w.take i).names.map V.str))) ⟨p0, none, none, rfl, s1, n0, upd_same⟩ (fun i σ H' _ hJ => ?_) (fun i x σ H' H2 hi hJ hy => ?_) (fun σ H' hJ => ?_)⟩
  · obtain ⟨_, _, _, _, s, _⟩ := hJ
    exact Same.sqT s hT
  · obtain ⟨p, y2, y3, rfl, s, np, hp⟩ := hJ
    obtain ⟨rfl, hx⟩ := hy
    obtain ⟨t, b, nm, us, inner, rfl, ht, hb, hi, e, h5, h6⟩ := (hw.same s).get2 hx
    have l1 := Wd.names_take_le i w
    have l2 := Wd.size_names inner
    refine ⟨t, _, rfl, ht, rfl, _, _, rfl, _, _, rfl, rfl, .ref p, rfl, .str nm, rfl, big (by show 1 ≤ 100000; decide), fun t1 nt1 => ?_⟩
    have st1 := same_new nt1 (o := .lst [.str nm])
    refine ⟨p, t1, _, _, rfl, rfl, st1 _ _ hp, upd_same, big (by rw [List.length_map, List.length_cons, List.length_nil]; omega), fun p1 np1 => ?_⟩
    have s13 := st1.trans (same_new np1 (o := .lst ((w.take i).names.map V.str ++ [.str nm])))
    have e1 : (upd (upd H2 t1 (.lst [.str nm])) p1 (.lst ((w.take i).names.map V.str ++ [.str nm]))) p1 = _ := upd_same
    refine ⟨.ref b, rfl, .ref b, inner, rfl, ⟨b, us, rfl, Same.sqT s13 hb, hi.same s13⟩, by omega, by omega, fun H4 L s4 nL eL => ?_⟩
    refine ⟨p1, L, _, _, rfl, rfl, s4 _ _ e1, eL, big (by rw [List.length_append, List.length_map, List.length_map, List.length_cons, List.length_nil]; omega), fun p2 np2 => ?_⟩
    have sall := ((s.trans s13).trans s4)
    refine ⟨p2, _, _, rfl, sall.trans (same_new np2), sall.free np2, ?_⟩
    rw [upd_same, e, Wd.names_app]
    show some (HO.lst ((w.take i).names.map V.str ++ [V.str nm] ++ inner.names.map V.str)) = some (HO.lst (((w.take i).names ++ (nm :: (inner.names ++ []))).map V.str))
    rw [List.append_nil, List.map_append, List.map_cons, List.append_assoc]
    rfl
  · obtain ⟨p, y2, y3, rfl, s, np, hp⟩ := hJ
    rw [Wd.take_all (Nat.le_of_eq hw.len.symm)] at hp
    exact ⟨.ref p, rfl, q _ p s np hp⟩

/-- slots of _law_kids: 0 _law_wood_here, 1 _law_kids_here, 2 _law_waiting, 3 _law_name_here, 4 _law_inside, 5 _law_tree -/
def n_kidsL : List Str := ["_law_wood_here", "_law_kids_here", "_law_waiting", "_law_name_here", "_law_inside", "_law_tree"]
def t_kidsL (K : PySem.W.Frag) : TS :=
  (tSeq (tAsg (tDisp [((tC (.str "")), (tLc (iTup K (tVar 0)) (gName 5) tYes (tOp (rIxT K) (tVar 5) (tC (.int 0))) [5]))]) (gName 1))
    (tSeq (tAsg (tCB (rLstOf K) (tCons (tVar 0) tNil)) (gName 2))
    (tSeq (tWhile (tTest (tOp (rNeE K) (tVar 2) (tLst tNil))) (tSeq (tAsg (tBM0 K "list" rPop (tVar 2)) (gTup K 2 (gCons (gName 3) (gCons (gName 4) gNil))))
    (tSeq (tDPut (tVar 1) (tVar 3) (tLc (iTup K (tVar 4)) (gName 5) tYes (tOp (rIxT K) (tVar 5) (tC (.int 0))) [5]))
    (tDrop (tBM K "list" (rExtendT K) (tVar 2) (tCons (tVar 4) tNil))))))
    (tRet (tVar 1)))))

def nodesW : Wd → List (Str × Wd)
  | .nil => []
  | .cons n i r => (n, i) :: (nodesW i ++ nodesW r)
theorem nodes_names : ∀ w : Wd, (nodesW w).map (·.1) = w.names
  | .nil => rfl
  | .cons n i r => by
    show n :: (nodesW i ++ nodesW r).map (·.1) = n :: (i.names ++ r.names)
    rw [List.map_append, nodes_names, nodes_names]
def remN (S : List (V × Str × Wd)) : List (Str × Wd) := (S.map fun x => (x.2.1, x.2.2) :: nodesW x.2.2).flatten
theorem remN_trs : ∀ (p : V) (w : Wd), remN (trs p w) = nodesW w
  | _, .nil => rfl
  | p, .cons n i r => by
    have h := remN_trs p r
    unfold remN at h ⊢
    show ((n, i) :: nodesW i) ++ ((trs p r).map fun x => (x.2.1, x.2.2) :: nodesW x.2.2).flatten = _
    rw [h]
    rfl
theorem remN_app (S T : List (V × Str × Wd)) : remN (S ++ T) = remN S ++ remN T := by
  unfold remN
  rw [List.map_append, List.flatten_append]
theorem remN_len : ∀ S : List (V × Str × Wd), (remN S).length = remZ S
  | [] => rfl
  | x :: S => by
    have h := remN_len S
    unfold remN remZ at h ⊢
    rw [List.map_cons, List.flatten_cons, List.length_append, h, List.map_cons, List.sum_cons, List.length_cons]
    have e : (nodesW x.2.2).length = x.2.2.size := by rw [← List.length_map (f := fun y : Str × Wd => y.1), nodes_names, Wd.size_names]
    rw [e]
def TellN (kvs : List (Key × V)) (H : Hp) (G : Addr) (n : Str) (i : Wd) : Prop := ∃ l, valV kvs (.inr n) = some (.ref l) ∧ H l = some (.lst (i.tops.map V.str)) ∧ l ≠ G
theorem kw_of {kvs : List (Key × V)} {H : Hp} {G : Addr} : ∀ {w : Wd}, (∀ x ∈ nodesW w, TellN kvs H G x.1 x.2) → KW kvs H w
  | .nil, _ => trivial
  | .cons n i r, h => by
    obtain ⟨l, e1, e2, _⟩ := h (n, i) List.mem_cons_self
    exact ⟨⟨l, e1, e2⟩, kw_of fun x hx => h x (List.mem_cons_of_mem _ (List.mem_append_left _ hx)), kw_of fun x hx => h x (List.mem_cons_of_mem _ (List.mem_append_right _ hx))⟩
/-- [tree[0] for tree in ..] -/
theorem tops_step {K : PySem.W.Frag} {H : Hp} {ts : List V} {w : Wd} {i : Nat} {x : V} (h : WdL K H ts w) (hx : ts[i]? = some x) : ∃ t b n, x = .ref t ∧ SqT K H t [.str n, .ref b] ∧ w.tops.take (i + 1) = w.tops.take i ++ [n] := by
  obtain ⟨t, b, n, us, inner, e1, ht, _, _, e, _⟩ := h.get2 hx
  refine ⟨t, b, n, e1, ht, ?_⟩
  have := congrArg Wd.tops e
  rw [Wd.tops_take, Wd.tops_app, Wd.tops_take] at this
  exact this
def sp_kidsL (K : PySem.W.Frag) : Sp := fun vs H Q _ => ∃ (v : V) (w : Wd), vs = [v] ∧ WdR K H v w ∧ w.size ≤ 10000 ∧ w.names.Nodup ∧ (∀ n ∈ w.names, IsNm n) ∧
  ∀ (H' : Hp) (D : Addr) (kvs : List (Key × V)), Same H H' → H D = none → H' D = some (.dK kvs) → KT kvs H' w → (∀ q ∈ kvs, ∃ k : Str, q.1 = .inr k ∧ (k = "" ∨ k ∈ w.names)) → Q (.ref D) H'
theorem pure_kidsL {K : PySem.W.Frag} (vs : List V) (H : Hp) (Q : VK) (E : XK) (h : sp_kidsL K vs H Q E) : t_kidsL K { nx := fun _ H' => Q .non H', rt := Q } (start n_kidsL vs) H := by
  obtain ⟨v, w, rfl, ⟨a, ts, rfl, hT, hw⟩, hsz, hnd, hnm, q⟩ := h
  intro F nF
  have sF := same_new nF (o := .dK [])
  have ltp := hw.len
  have tpl := w.tops_len
  refine ⟨.ref a, rfl, a, rfl, ⟨_, Same.sqT sF hT⟩, fun L nL => ?_⟩
  have nLH : H L = none := sF.free nL
  have nFL : F ≠ L := ne_of_none upd_same nL
  refine lc_it (walk_tup (xs := ts)) (fun i H' => Same H H' ∧ H' F = some (.dK []) ∧ H' L = some (.lst ((w.tops.take i).map V.str))) ⟨sF.trans (same_new nL), same_new nL _ _ upd_same, upd_same⟩ (fun i H' _ hp => Same.sqT hp.1 hT) (fun i x H' H2 hi hp hy => ?_) (fun H' hp => ?_)
  · obtain ⟨s, eF, eL⟩ := hp
    obtain ⟨rfl, hx⟩ := hy
    obtain ⟨t, b, n, rfl, ht, etk⟩ := tops_step (hw.same s) hx
    refine ⟨rfl, .ref t, rfl, t, _, 0, _, rfl, rfl, ht, atI_nat (j := 0) rfl, _, eL, big' (by rw [List.length_map, List.length_take]; omega), fun b o e => ?_, ?_, ?_⟩
    · rw [upd_ne (ne_of_none e nLH)]
      exact s b o e
    · rw [upd_ne nFL]
      exact eF
    · rw [upd_same, etk, List.map_append]
      rfl
  · obtain ⟨s, eF, eL⟩ := hp
    rw [ltp, List.take_of_length_le (Nat.le_refl _)] at eL
    refine ⟨eF, [(.inr "", .ref L)], rfl, by show 1 ≤ 15; decide, ?_⟩
    have s1 : Same H (upd H' F (.dK [(.inr "", .ref L)])) := fun b o e => by
      rw [upd_ne (ne_of_none e nF)]
      exact s b o e
    have eF1 : (upd H' F (.dK [(.inr "", .ref L)])) F = some (.dK [(.inr "", .ref L)]) := upd_same
    have eL1 : (upd H' F (.dK [(.inr "", .ref L)])) L = some (.lst (w.tops.map V.str)) := by rw [upd_ne (Ne.symm nFL)]; exact eL
    dsimp only [gName]
    change tSeq _ _ _ _ (upd H' F (.dK [(.inr "", .ref L)]))
    generalize upd H' F (.dK [(.inr "", .ref L)]) = H1 at *
    refine ⟨.ref a, rfl, a, _, rfl, .inr (Same.sqT s1 hT), fun G nG => ?_⟩
    have nGH : H G = none := s1.free nG
    have nFG : F ≠ G := ne_of_none eF1 nG
    have nLG : L ≠ G := ne_of_none eL1 nG
    have sG := same_new nG (o := .lst ts)
    have s2 := s1.trans sG
    dsimp only [gName]
    refine seq_by (t := tWhile _ _) (fun σ H' => ∃ y2 y3 y4 y5 kvs, σ = [some (.ref a), some (.ref F), y2, y3, y4, y5] ∧ Same H H' ∧ H' F = some (.dK kvs) ∧ KT kvs H' w ∧ ∀ q ∈ kvs, ∃ k : Str, q.1 = .inr k ∧ (k = "" ∨ k ∈ w.names)) (fun σ H' hJ => ?_) (fun rest => ?_)
    · obtain ⟨y2, y3, y4, y5, kvs, rfl, s, eF, hK, hk⟩ := hJ
      exact ⟨.ref F, rfl, q _ F kvs s nF eF hK hk⟩
    refine while_ne (fun m σ H' => ∃ (ws : List V) (S : List (V × Str × Wd)) (Dn : List (Str × Wd)) (kvs : List (Key × V)) (y3 y4 y5 : Option V), σ = [some (.ref a), some (.ref F), some (.ref G), y3, y4, y5] ∧ Same H H' ∧ H' F = some (.dK kvs) ∧ H' G = some (.lst ws) ∧ Paired (TRR K H') ws S ∧ (Dn ++ remN S).Perm (nodesW w) ∧ (∀ x ∈ Dn, TellN kvs H' G x.1 x.2) ∧ TellN kvs H' G "" w ∧ (∀ q ∈ kvs, ∃ k : Str, q.1 = .inr k ∧ (k = "" ∨ k ∈ w.names)) ∧ kvs.length ≤ Dn.length + 1 ∧ m = remZ S)
      ⟨_, ts, trs .non w, [], [(.inr "", .ref L)], none, none, none, rfl, s2, sG _ _ eF1, upd_same, (hw.same s2).trs .non, by rw [remN_trs]; exact .refl _, (fun _ h => nomatch h), ⟨L, valV_pos rfl, sG _ _ eL1, nLG⟩, fun q hq => ?_, Nat.le_refl _, rfl⟩ (fun m σ H' hp => ?_)
    · rcases List.mem_cons.mp hq with rfl | hq
      · exact ⟨"", rfl, .inl rfl⟩
      · cases hq
    obtain ⟨ws, S, Dn, kvs, y3, y4, y5, rfl, s, eF, eG, hp, hP, hv, h0, hk, hl, rfl⟩ := hp
    refine ⟨G, ws, rfl, eG, fun hne e ne => ?_, fun hnil e ne => ?_⟩
    · have se := same_new ne (o := .lst [])
      replace eF := se _ _ eF
      replace eG := se _ _ eG
      replace s := s.trans se
      replace hp : Paired (TRR K (upd H' e (.lst []))) ws S := L2.Paired.mapP hp fun _ _ z => z.map fun _ _ => Same.sqT se
      replace hv : ∀ x ∈ Dn, TellN kvs (upd H' e (.lst [])) G x.1 x.2 := fun x hx => let ⟨l, e1, e2, e3⟩ := hv x hx; ⟨l, e1, se _ _ e2, e3⟩
      replace h0 : TellN kvs (upd H' e (.lst [])) G "" w := let ⟨l, e1, e2, e3⟩ := h0; ⟨l, e1, se _ _ e2, e3⟩
      clear ne se
      generalize upd H' e (.lst []) = H2 at *
      obtain ⟨ws', x, S', y, rfl, rfl, hp', hx⟩ := paired_snoc hp hne
      obtain ⟨p, n, i⟩ := y
      have hlen : Dn.length + remZ (S' ++ [(p, n, i)]) = w.size := by
        rw [← remN_len, ← List.length_append, hP.length_eq, ← List.length_map (f := fun y : Str × Wd => y.1), nodes_names, Wd.size_names]
      rw [remZ_app] at hlen
      have hz1 : remZ [(p, n, i)] = i.size + 1 := by simp [remZ]
      have lz := remZ_len S'
      have lw := paired_len hp'
      have last : (ws' ++ [x])[(ws' ++ [x]).length - 1]? = some x := by
        rw [List.length_append, List.length_cons, List.length_nil, Nat.add_sub_cancel, List.getElem?_append_right (Nat.le_refl _), Nat.sub_self]
        rfl
      have ndp : ((Dn ++ remN (S' ++ [(p, n, i)])).map (·.1)).Nodup := (hP.map _).nodup_iff.mpr (by rw [nodes_names]; exact hnd)
      have mn : n ∈ w.names := by
        rw [← nodes_names, ← (hP.map _).mem_iff]
        refine List.mem_map.mpr ⟨(n, i), List.mem_append_right _ ?_, rfl⟩
        rw [remN_app]
        exact List.mem_append_right _ List.mem_cons_self
      have ndn : ∀ x ∈ Dn, x.1 ≠ n := fun x hx e => by
        rw [List.map_append, List.nodup_append] at ndp
        refine ndp.2.2 _ (List.mem_map.mpr ⟨x, hx, rfl⟩) n (List.mem_map.mpr ⟨(n, i), ?_, rfl⟩) e
        rw [remN_app]
        exact List.mem_append_right _ List.mem_cons_self
      obtain ⟨t, b, us, rfl, ht, hb, hi⟩ := hx
      replace hi : WdL K H2 us i := hi
      replace ht : SqT K H2 t [.str n, .ref b] := ht
      refine ⟨.ref G, rfl, .inl ⟨rfl, _, .inl (.inl eG)⟩, G, _, _, rfl, rfl, eG, last, ?_⟩
      rw [List.dropLast_concat]
      have kT : ∀ a xs, SqT K H2 a xs → SqT K (upd H2 G (.lst ws')) a xs := fun _ _ => sqT_relst eG
      refine ⟨t, _, rfl, kT _ _ ht, rfl, _, _, rfl, _, _, rfl, rfl, ?_⟩
      have eF3 : (upd H2 G (.lst ws')) F = some (.dK kvs) := by rw [upd_ne nFG]; exact eF
      have eG3 : (upd H2 G (.lst ws')) G = some (.lst ws') := upd_same
      have s3 : Same H (upd H2 G (.lst ws')) := fun b o e => by
        rw [upd_ne (ne_of_none e nGH)]
        exact s b o e
      have hp3 : Paired (TRR K (upd H2 G (.lst ws'))) ws' S' := L2.Paired.mapP hp' fun _ _ z => z.map kT
      have hb3 := kT _ _ hb
      have hi3 := hi.map kT
      have hv3 : ∀ x ∈ Dn, TellN kvs (upd H2 G (.lst ws')) G x.1 x.2 := fun x hx => let ⟨l, e1, e2, e3⟩ := hv x hx; ⟨l, e1, by rw [upd_ne e3]; exact e2, e3⟩
      have h03 : TellN kvs (upd H2 G (.lst ws')) G "" w := let ⟨l, e1, e2, e3⟩ := h0; ⟨l, e1, by rw [upd_ne e3]; exact e2, e3⟩
      clear eF eG s last
      generalize upd H2 G (.lst ws') = H3 at *
      -- its kids
      have lti := hi3.len
      have tpi := i.tops_len
      refine ⟨.ref b, rfl, b, rfl, ⟨_, hb3⟩, fun LL nLL => ?_⟩
      have nGL : G ≠ LL := ne_of_none eG3 nLL
      have nFLL : F ≠ LL := ne_of_none eF3 nLL
      refine lc_it (walk_tup (xs := us)) (fun j H' => Same H3 H' ∧ H' LL = some (.lst ((i.tops.take j).map V.str))) ⟨same_new nLL, upd_same⟩ (fun j H' _ hp => Same.sqT hp.1 hb3) (fun j x H4 H5 hj hp hy => ?_) (fun H4 hp => ?_)
      · obtain ⟨s4, eL⟩ := hp
        obtain ⟨rfl, hx⟩ := hy
        obtain ⟨t2, b2, n2, rfl, ht2, etk⟩ := tops_step (hi3.same s4) hx
        refine ⟨rfl, .ref t2, rfl, t2, _, 0, _, rfl, rfl, ht2, atI_nat (j := 0) rfl, _, eL, big' (by rw [List.length_map, List.length_take]; omega), fun b o e => ?_, ?_⟩
        · rw [upd_ne (ne_of_none e nLL)]
          exact s4 b o e
        · rw [upd_same, etk, List.map_append]
          rfl
      · obtain ⟨s4, eL⟩ := hp
        rw [lti, List.take_of_length_le (Nat.le_refl _)] at eL
        have eF4 := s4 _ _ eF3
        have eG4 := s4 _ _ eG3
        refine ⟨.ref F, rfl, .str n, rfl, F, _, rfl, .inl ⟨kvs, .inr n, eF4, rfl, big' (by omega), rfl⟩, ?_⟩
        have kT5 : ∀ a xs, SqT K H4 a xs → SqT K (upd H4 F (.dK (putK kvs (.inr n) (.ref LL)))) a xs := fun _ _ => sqT_dict eF4
        have eG5 : (upd H4 F (.dK (putK kvs (.inr n) (.ref LL)))) G = some (.lst ws') := by rw [upd_ne (Ne.symm nFG)]; exact eG4
        have lus : us.length ≤ i.size := by omega
        have kT6 : ∀ a xs, SqT K H3 a xs → SqT K (upd (upd H4 F (.dK (putK kvs (.inr n) (.ref LL)))) G (.lst (ws' ++ us))) a xs := fun _ _ h => sqT_relst eG5 (kT5 _ _ (Same.sqT s4 h))
        have pl := (put_len (kvs := kvs) (k := .inr n) (v := .ref LL)).1
        have lsum : ws'.length + us.length ≤ 100000 := by omega
        have keepL : ∀ (l : Addr) (xs : List V), H3 l = some (.lst xs) → l ≠ G → (upd (upd H4 F (.dK (putK kvs (.inr n) (.ref LL)))) G (.lst (ws' ++ us))) l = some (.lst xs) := fun l xs e nl => by
          rw [upd_ne nl, upd_ne (by rintro rfl; rw [eF3] at e; cases e)]
          exact s4 _ _ e
        have nn0 : n ≠ "" := nm_ne (hnm n mn)
        refine ⟨.ref G, rfl, .inl ⟨rfl, _, .inl (.inl eG5)⟩, .ref b, rfl, G, b, _, _, rfl, rfl, eG5, kT5 _ _ (Same.sqT s4 hb3), big lsum, _, ?_, ws' ++ us, S' ++ trs .non i, Dn ++ [(n, i)], putK kvs (.inr n) (.ref LL), _, _, _, rfl, fun b o e => ?_, ?_, upd_same, ?_, ?_, fun x hx => ?_, ?_, fun q hq => ?_, ?_, rfl⟩
        · rw [remZ_app, remZ_app, remZ_trs, hz1]
          omega
        · rw [upd_ne (ne_of_none e nGH), upd_ne (ne_of_none e nF)]
          exact s4 _ _ (s3 b o e)
        · rw [upd_ne nFG]
          exact upd_same
        · exact paired_app (L2.Paired.mapP hp3 fun _ _ z => z.map kT6) (L2.Paired.mapP (hi3.trs .non) fun _ _ z => z.map kT6)
        · refine List.Perm.trans ?_ hP
          rw [remN_app, remN_app, remN_trs, List.append_assoc]
          refine List.Perm.append_left Dn ?_
          show ((n, i) :: (remN S' ++ nodesW i)).Perm (remN S' ++ ((n, i) :: nodesW i ++ []))
          rw [List.append_nil]
          exact List.perm_middle.symm
        · rcases List.mem_append.mp hx with h | h
          · obtain ⟨l, e1, e2, e3⟩ := hv3 x h
            exact ⟨l, by rw [valV_put, if_neg (fun z => ndn x h (Sum.inr.inj z))]; exact e1, keepL l _ e2 e3, e3⟩
          · rcases List.mem_cons.mp h with rfl | h
            · refine ⟨LL, by rw [valV_put, if_pos rfl], ?_, Ne.symm nGL⟩
              rw [upd_ne (Ne.symm nGL), upd_ne (Ne.symm nFLL)]
              exact eL
            · cases h
        · obtain ⟨l, e1, e2, e3⟩ := h03
          exact ⟨l, by rw [valV_put, if_neg (fun z => nn0 (Sum.inr.inj z).symm)]; exact e1, keepL l _ e2 e3, e3⟩
        · rcases put_keys hq with e | hq
          · exact ⟨n, e, .inr mn⟩
          · exact hk q hq
        · rw [List.length_append, List.length_cons, List.length_nil]
          omega
    · subst hnil
      cases hp
      have sn := same_new ne (o := .lst [])
      refine rest _ _ ⟨_, _, _, _, kvs, rfl, s.trans sn, sn _ _ eF, ⟨?_, ?_⟩, hk⟩
      · obtain ⟨l, e1, e2, _⟩ := h0
        exact ⟨l, e1, sn _ _ e2⟩
      · refine KW.same (kw_of (G := G) fun x hx => hv x ?_) sn
        have : x ∈ Dn ++ remN [] := hP.mem_iff.mpr hx
        rw [show remN [] = [] from rfl, List.append_nil] at this
        exact this

/-- slots of law: 0 _law_script, 1 _law_deck_here, 2 _law_wood_here, 3 _law_kids_here, 4 _law_names_here, 5 _law_over, 6 _law_name_here, 7 _law_kid, 8 _law_some, 9 _law_found, 10 _law_k -/
def n_law : List Str := ["_law_script", "_law_deck_here", "_law_wood_here", "_law_kids_here", "_law_names_here", "_law_over", "_law_name_here", "_law_kid", "_law_some", "_law_found", "_law_k"]
def t_law (K : PySem.W.Frag) : TS :=
  (tSeq (tAsg (tCall (sp_deckL K) [] E0 (tCons (tVar 0) tNil)) (gName 1))
    (tSeq (tAsg (tCall (sp_some_woodL K) [] E0 (tCons (tVar 1) tNil)) (gName 2))
    (tSeq (tAsg (tCall (sp_kidsL K) [] E0 (tCons (tVar 2) tNil)) (gName 3))
    (tSeq (tAsg (tCall (sp_preorderL K 60) [] E0 (tCons (tVar 2) tNil)) (gName 4))
    (tSeq (tIfS (tOr (tTest (tOp (rNeP K) (tCall (sp_names_of K) [] E0 (tCons (tVar 2) tNil)) (tCB (rTupOf K) (tCons (tVar 4) tNil)))) (tTest (tOp (rNeP K) (tCall (sp_children_of K) [] E0 (tCons (tVar 2) (tCons (tC .non) tNil))) (tCB (rTupOf K) (tCons (tDGet (tVar 3) (tC (.str ""))) tNil))))) (tRet (tC (.bl false))) tNext)
    (tSeq (tAsg tDNewK (gName 5))
    (tSeq (tLock (tFor (iKeysM (tVar 3)) (gName 6) (tFor (iList K (tDGet (tVar 3) (tVar 6))) (gName 7) (tDPut (tVar 5) (tVar 7) (tIf (tTest (tOp rEq (tVar 6) (tC (.str "")))) (tC .non) (tVar 6))))))
    (tSeq (tAsg (tVar 4) (gName 8))
    (tSeq (tIfS (tTest (tOp rGtI (tCB (rLenQ K) (tCons (tVar 4) tNil)) (tC (.int 12)))) (tAsg (tLc (iRng1 (tCons (tC (.int 12)) tNil)) (gName 10) tYes (tCall (sp_pickL K) [] E0 (tCons (tVar 1) (tCons (tVar 4) tNil))) [10]) (gName 8)) tNext)
    (tSeq (tFor (iList K (tVar 8)) (gName 6) (tSeq (tIfS (tTest (tOp (rNeP K) (tCall (sp_children_of K) [] E0 (tCons (tVar 2) (tCons (tVar 6) tNil))) (tCB (rTupOf K) (tCons (tDGet (tVar 3) (tVar 6)) tNil)))) (tRet (tC (.bl false))) tNext)
    (tSeq (tAsg (tCall (sp_parent_of K) [] E0 (tCons (tVar 2) (tCons (tVar 6) tNil))) (gName 9))
    (tIfS (tOr (tAnd (tTest (tOp rIsN (tDGet (tVar 5) (tVar 6)) (tC .non))) (tTest (tOp rNotN (tVar 9) (tC .non)))) (tTest (tOp rNe (tVar 9) (tDGet (tVar 5) (tVar 6))))) (tRet (tC (.bl false))) tNext))))
    (tRet (tC (.bl true)))))))))))))

def sp_law (K : PySem.W.Frag) : Sp := fun vs H Q _ => ∃ (a : Addr) (ns : List Int), vs = [.ref a] ∧ SqL K H a (ns.map V.int) ∧ ns.length ≤ 63 ∧ ∀ H', Q (.bl true) H'
def parV (k : Str) : V := if k = "" then .non else .str k
theorem mem_kidsAt {p : V} {w : Wd} {q : V} {z : Str} : z ∈ kidsAt p w q ↔ (z, q) ∈ pars p w := by
  unfold kidsAt
  rw [List.mem_map]
  constructor
  · rintro ⟨⟨z', q'⟩, h, rfl⟩
    obtain ⟨h1, h2⟩ := List.mem_filter.mp h
    have e : q' = q := of_decide_eq_true h2
    rw [← e]
    exact h1
  · intro h
    exact ⟨(z, q), List.mem_filter.mpr ⟨h, decide_eq_true rfl⟩, rfl⟩
theorem kidsAt_inn {w i : Wd} {k : Str} (nd : w.names.Nodup) (h : w.inn k = some i) : kidsAt .non w (parV k) = i.tops := by
  unfold Wd.inn at h
  unfold parV
  by_cases c : k = ""
  · rw [if_pos c] at h ⊢
    cases h
    exact kidsAt_top fun n _ e => nomatch e
  · rw [if_neg c] at h ⊢
    exact kidsAt_sub nd h fun e => nomatch e
theorem pars_one {w : Wd} (nd : w.names.Nodup) {z : Str} {v v' : V} (h : (z, v) ∈ pars .non w) (h' : (z, v') ∈ pars .non w) : v = v' := by
  have nd' : ((pars .non w).map (·.1)).Nodup := by rw [pars_names]; exact nd
  obtain ⟨i, hi, e⟩ := List.mem_iff_getElem.mp h
  obtain ⟨j, hj, e'⟩ := List.mem_iff_getElem.mp h'
  have hij : i = j := (List.getElem_inj (xs := (pars .non w).map (·.1)) (h₀ := by rw [List.length_map]; exact hi) (h₁ := by rw [List.length_map]; exact hj) nd').mp (by rw [List.getElem_map, List.getElem_map, e, e'])
  subst hij
  rw [e] at e'
  exact (Prod.mk.inj e').2
theorem strs_dp {K : PySem.W.Frag} {H : Hp} {a : Addr} {l : List Str} (h : SqT K H a (l.map V.str)) : Dp K H (.ref a) (dStrs l) := .tup h (dp_strs _)
theorem strs_dep (l : List Str) : (dStrs l).depth ≤ 190 := by
  have := depth_strs l
  show PyData.depthAll (l.map PyData.str) + 1 ≤ 190
  omega
theorem ne_same {K : PySem.W.Frag} {H : Hp} {a b : Addr} {l : List Str} {Q : VK} (ha : SqT K H a (l.map V.str)) (hb : SqT K H b (l.map V.str)) (q : Q (.bl false) H) : rNeP K (.ref a) (.ref b) H Q :=
  ⟨dStrs l, dStrs l, strs_dp ha, strs_dp hb, plain_strs l, plain_strs l, strs_dep l, by rw [SeqAt.eqv_refl_plain (dStrs l) (plain_strs l)]; exact q⟩
theorem ne_deck {H : Hp} {d l : Addr} {zs : List Str} (hD : Dk H d) (h : H l = some (.lst (zs.map V.str))) : l ≠ d := by
  rintro rfl
  obtain ⟨g, m, c, e⟩ := hD
  rw [e] at h
  cases zs with
  | nil => cases h
  | cons z r => cases h
theorem KW.keepD {kvs : List (Key × V)} {H H' : Hp} {d : Addr} (k : Kp d H H') (hD : Dk H d) : ∀ {w : Wd}, KW kvs H w → KW kvs H' w
  | .nil, _ => trivial
  | .cons _ _ _, ⟨⟨l, h1, h2⟩, hi, hr⟩ => ⟨⟨l, h1, k _ _ (ne_deck hD h2) h2⟩, hi.keepD k hD, hr.keepD k hD⟩
theorem KT.keepD {kvs : List (Key × V)} {H H' : Hp} {d : Addr} {w : Wd} (k : Kp d H H') (hD : Dk H d) (h : KT kvs H w) : KT kvs H' w := by
  obtain ⟨⟨l, h1, h2⟩, hw⟩ := h
  exact ⟨⟨l, h1, k _ _ (ne_deck hD h2) h2⟩, hw.keepD k hD⟩
theorem put_nodup {kvs : List (Key × V)} {k : Key} {v : V} (h : (kvs.map (·.1)).Nodup) : ((putK kvs k v).map (·.1)).Nodup := by
  unfold putK
  split
  · have e : (kvs.map fun kv => if kv.1 = k then (kv.1, v) else kv).map (·.1) = kvs.map (·.1) := by
      rw [List.map_map]
      refine List.map_congr_left fun kv _ => ?_
      show (if kv.1 = k then (kv.1, v) else kv).1 = kv.1
      split <;> rfl
    rw [e]
    exact h
  · rename_i c
    rw [List.map_append, List.nodup_append]
    refine ⟨h, by simp, fun x hx y hy e => c ?_⟩
    have ey : y = k := by simpa using hy
    obtain ⟨q, hq, eq⟩ := List.mem_map.mp hx
    exact List.any_eq_true.mpr ⟨q, hq, decide_eq_true (by rw [eq, e, ey])⟩
theorem pure_law {K : PySem.W.Frag} (vs : List V) (H : Hp) (Q : VK) (E : XK) (h : sp_law K vs H Q E) : t_law K { nx := fun _ H' => Q .non H', rt := Q } (start n_law vs) H := by
  obtain ⟨a, ns, rfl, hS, hl, q⟩ := h
  refine ⟨.ref a, rfl, a, ns, rfl, hS, fun H1 d nd s1 hD1 => ?_⟩
  refine ⟨.ref d, rfl, d, rfl, hD1, fun H2 p w np hw nd2 nm2 hdep hsz k2 hD2 => ?_⟩
  have nl : ∀ m ∈ w.names, m.length ≤ 1000 := fun m hm => by
    have := (nm2 m hm).2.1
    rw [← TL.len_tl] at this
    omega
  refine ⟨.ref p, rfl, .ref p, w, rfl, hw, by omega, nd2, nm2, fun H3 F kvs s3 nF eF hK hks => ?_⟩
  refine ⟨.ref p, rfl, .ref p, w, rfl, hw.same s3, by omega, by omega, fun H4 L s4 nL eL => ?_⟩
  have hw4 := (hw.same s3).same s4
  have hD4 := (hD2.same s3).same s4
  have eF4 := s4 _ _ eF
  have hK4 : KT kvs H4 w := hK.mono fun _ _ _ _ e => s4 _ _ e
  have nLd : L ≠ d := (hD2.same s3).ne nL
  have nFd : F ≠ d := hD2.ne nF
  dsimp only [gName]
  refine seq_by (t := tIfS _ _ _) (fun σ H' => σ = [some (.ref a), some (.ref d), some (.ref p), some (.ref F), some (.ref L), none, none, none, none, none, none] ∧ Same H4 H') (fun σ H5 hJ => ?_) (fun rest => ?_)
  · obtain ⟨rfl, s5⟩ := hJ
    have hw5 := hw4.same s5
    have eF5 := s5 _ _ eF4
    have eL5 := s5 _ _ eL
    have hK5 : KT kvs H5 w := hK4.mono fun _ _ _ _ e => s5 _ _ e
    have hD5 := hD4.same s5
    intro O nO
    have nFO : F ≠ O := ne_of_none eF5 nO
    have nOd : O ≠ d := hD5.ne nO
    have sO := same_new nO (o := .dK [])
    have eF6 := sO _ _ eF5
    have eO6 : (upd H5 O (.dK [])) O = some (.dK []) := upd_same
    have hK6 : KT kvs (upd H5 O (.dK [])) w := hK5.mono fun _ _ _ _ e => sO _ _ e
    have hw6 := hw5.same sO
    have eL6 := sO _ _ eL5
    have hD6 := hD5.same sO
    have nLO : L ≠ O := ne_of_none eL5 nO
    have lno : ∀ (k : Str) l xs, valV kvs (.inr k) = some (.ref l) → (upd H5 O (.dK [])) l = some (.lst xs) → l ≠ O ∧ l ≠ F := fun k l xs _ e => by
      constructor
      · rintro rfl
        rw [eO6] at e
        cases e
      · rintro rfl
        rw [eF6] at e
        cases e
    dsimp only [gName]
    generalize upd H5 O (.dK []) = H6 at *
    refine seq_by (t := tLock _) (fun σ H' => ∃ (y6 y7 : Option V) (ok : List (Key × V)), σ = [some (.ref a), some (.ref d), some (.ref p), some (.ref F), some (.ref L), some (.ref O), y6, y7, none, none, none] ∧ H' O = some (.dK ok) ∧ (∀ z ∈ w.names, ∃ v, valV ok (.inr z) = some v ∧ (z, v) ∈ pars .non w) ∧ ∀ b o, b ≠ O → H6 b = some o → H' b = some o) (fun σ H' hJ => ?_) (fun rest => ?_)
    · obtain ⟨y6, y7, ok, rfl, eO, hok, oth⟩ := hJ
      have eF7 := oth _ _ nFO eF6
      have eL7 := oth _ _ nLO eL6
      have hK7 : KT kvs H' w := hK6.mono fun k l xs e1 e2 => oth _ _ (lno k l xs e1 e2).1 e2
      have hD7 : Dk H' d := by
        obtain ⟨g, m, c, e⟩ := hD6
        exact ⟨g, m, c, oth _ _ (Ne.symm nOd) e⟩
      have kT7 : ∀ a xs, SqT K H6 a xs → SqT K H' a xs := fun b xs h => by
        rcases h with h | h
        · refine .inl (Rd.keep (fun o e => oth _ _ ?_ e) h)
          rintro rfl
          rcases h with h | ⟨ob, h⟩
          · rw [eO6] at h
            cases h
          · rw [eO6] at h
            cases h
        · exact .inr h
      have hw7 : WdR K H' (.ref p) w := by
        obtain ⟨pa, ts, e, h1, h2⟩ := hw6
        exact ⟨pa, ts, e, kT7 _ _ h1, h2.map kT7⟩
      refine ⟨.ref L, rfl, ?_⟩
      dsimp only [gName]
      refine seq_by (t := tIfS _ _ _) (fun σ H'' => ∃ (M : Addr) (zs : List Str), σ = [some (.ref a), some (.ref d), some (.ref p), some (.ref F), some (.ref L), some (.ref O), y6, y7, some (.ref M), none, none] ∧ H'' M = some (.lst (zs.map V.str)) ∧ (∀ z ∈ zs, z ∈ w.names) ∧ Kp d H' H'') (fun σ H8 hJ => ?_) (fun rest => ?_)
      · obtain ⟨M, zs, rfl, eM, hzs, k8⟩ := hJ
        have hw8 := hw7.keep k8 hD7
        have eF8 := k8 _ _ nFd eF7
        have eO8 := k8 _ _ nOd eO
        have hK8 : KT kvs H8 w := hK7.keepD k8 hD7
        refine ⟨.ref M, rfl, M, rfl, ⟨_, .inl (.inl eM)⟩, for_it (walk_list (xs := zs.map V.str)) (fun i σ H' => ∃ y6 y9, σ = [some (.ref a), some (.ref d), some (.ref p), some (.ref F), some (.ref L), some (.ref O), y6, y7, some (.ref M), y9, none] ∧ Same H8 H') ⟨y6, none, rfl, Same.refl _⟩ (fun i σ H' _ hJ => ?_) (fun i x σ H' H9 hi hJ hy => ?_) (fun σ H' hJ => q _)⟩
        · obtain ⟨_, _, _, s⟩ := hJ
          exact .inl (.inl (s _ _ eM))
        · obtain ⟨y6, y9, rfl, s⟩ := hJ
          obtain ⟨rfl, hx⟩ := hy
          obtain ⟨z, hz, rfl⟩ : ∃ z, z ∈ zs ∧ x = .str z := by
            obtain ⟨z, m, e⟩ := List.mem_map.mp (List.mem_of_getElem? hx)
            exact ⟨z, m, e.symm⟩
          have zn := hzs z hz
          obtain ⟨i, hin, lz, ev, elz⟩ := hK8.at (.inr zn)
          have zk : kidsAt .non w (.str z) = i.tops := by
            have h := kidsAt_inn nd2 hin
            unfold parV at h
            rw [if_neg (nm_ne (nm2 z zn))] at h
            exact h
          refine ⟨.ref p, rfl, .str z, rfl, .ref p, .str z, w, rfl, hw8.same s, by omega, nl, nd2, .inr ⟨z, zn, rfl⟩, fun H10 ta s10 hta => ?_⟩
          have s810 := s.trans s10
          refine ⟨.ref F, rfl, .str z, rfl, F, .ref lz, rfl, .inl ⟨kvs, .inr z, .inl (s810 _ _ eF8), rfl, ev.symm⟩, lz, _, rfl, .inl ⟨.inl (.inl (s810 _ _ elz)), fun tb ntb => ?_⟩⟩
          have s11 := s810.trans (same_new ntb (o := .tup (i.tops.map V.str)))
          refine ne_same (l := i.tops) (by rw [← zk]; exact Same.sqT (same_new ntb) hta) (.inl (.inl upd_same)) ⟨false, rfl, ?_⟩
          refine ⟨.ref p, rfl, .str z, rfl, .ref p, z, w, rfl, hw8.same s11, by omega, nl, nd2, zn, fun H12 pv s12 hpv => ?_⟩
          have s812 := s11.trans s12
          obtain ⟨v, hv, hvm⟩ := hok z zn
          have evp := pars_one nd2 hvm hpv
          subst evp
          have dg : DGet H12 O (.str z) (some v) := .inl ⟨ok, .inr z, .inl (s812 _ _ eO8), rfl, hv.symm⟩
          have hfl : v = .non ∨ ∃ k, v = .str k := by
            rcases pars_flat hvm with e | ⟨k, _, e⟩
            · exact .inl e
            · exact .inr ⟨k, e⟩
          refine ⟨.ref O, rfl, .str z, rfl, O, v, rfl, dg, rfl, _, rfl, ?_⟩
          rcases hfl with rfl | ⟨k, rfl⟩
          · exact ⟨.non, rfl, rfl, _, rfl, .non, rfl, .ref O, rfl, .str z, rfl, O, .non, rfl, dg, rfl, _, rfl, _, _, rfl, s812⟩
          · refine ⟨.str k, rfl, .ref O, rfl, .str z, rfl, O, .str k, rfl, dg, rfl, _, rfl, ?_⟩
            rw [decide_eq_true (rfl : V.str k = .str k)]
            exact ⟨_, _, rfl, s812⟩
      · refine ⟨.ref L, rfl, L, _, rfl, .inl (.inl (.inl eL7)), _, _, rfl, rfl, _, rfl, ?_⟩
        by_cases c : (12 : Int) < ((w.names.map V.str).length : Int)
        · rw [decide_eq_true c]
          have ll : (w.names.map V.str).length ≤ 1000 := by rw [List.length_map, Wd.size_names]; omega
          refine ⟨12, rfl, by decide, by decide, fun M nM => ?_⟩
          have nMd : M ≠ d := hD7.ne nM
          refine lc_range (lo := 0) (n := (12 : Int).toNat) (fun i H2 => ∃ zs : List Str, zs.length = i ∧ (∀ z ∈ zs, z ∈ w.names) ∧ H2 M = some (.lst (zs.map V.str)) ∧ Kp d H' H2 ∧ Dk H2 d) ⟨[], rfl, (fun _ h => nomatch h), upd_same, Kp.new nM, hD7.new nM⟩ (fun i H2 hi hp => ?_) (fun H2 hp => ?_)
          · obtain ⟨zs, el, hz, eM, kk, hD2⟩ := hp
            refine ⟨rfl, .ref d, rfl, .ref L, rfl, d, L, _, rfl, hD2, nLd, .inl (.inl (kk _ _ nLd eL7)), by omega, by omega, fun H5 v mv k5 hD5 => ?_⟩
            obtain ⟨z, mz, rfl⟩ := List.mem_map.mp mv
            have hi12 : i < 12 := hi
            refine ⟨_, k5 _ _ nMd eM, by rw [List.length_map]; exact big' (by omega), zs ++ [z], by rw [List.length_append, el]; rfl, fun y hy => ?_, by rw [upd_same, List.map_append]; rfl, (kk.trans k5).then_at nM, hD5.upd nMd⟩
            rcases List.mem_append.mp hy with h | h
            · exact hz y h
            · rcases List.mem_cons.mp h with rfl | h
              · exact mz
              · cases h
          · obtain ⟨zs, el, hz, eM, kk, hD2⟩ := hp
            exact rest _ _ ⟨M, zs, rfl, eM, hz, kk⟩
        · rw [decide_eq_false c]
          exact rest _ _ ⟨L, w.names, rfl, eL7, fun _ h => h, Kp.refl _ _⟩
    · refine ⟨F, .dK kvs, eF6, trivial, fun od => ?_⟩
      refine ⟨.ref F, rfl, F, od, kvs, rfl, upd_same, for_it (walk_keys (kvs := kvs)) (fun m σ H' => ∃ (y6 y7 : Option V) (ok : List (Key × V)), σ = [some (.ref a), some (.ref d), some (.ref p), some (.ref F), some (.ref L), some (.ref O), y6, y7, none, none, none] ∧ H' O = some (.dK ok) ∧ (∀ q ∈ ok, ∃ z ∈ w.names, q.1 = .inr z) ∧ (ok.map (·.1)).Nodup ∧ (∀ (z : Str) v, valV ok (.inr z) = some v → (z, v) ∈ pars .non w) ∧ (∀ m', m' < m → ∀ k u, kvs[m']? = some (.inr k, u) → ∀ j, w.inn k = some j → ∀ z ∈ j.tops, ∃ v, valV ok (.inr z) = some v) ∧ ∀ b o, b ≠ O → (L2.upd H6 F (.frz od (.dK kvs))) b = some o → H' b = some o)
        ⟨none, none, [], rfl, by rw [upd_ne (Ne.symm nFO)]; exact eO6, (fun _ h => nomatch h), List.nodup_nil, (fun _ _ h => nomatch h), (fun m' h => absurd h (Nat.not_lt_zero m')), fun _ _ _ e => e⟩ (fun m σ H' _ hJ => ?_) (fun m x σ H' H7 hm hJ hy => ?_) (fun σ H' hJ => ?_)⟩
      · obtain ⟨_, _, _, _, _, _, _, _, _, oth⟩ := hJ
        exact oth _ _ nFO upd_same
      · obtain ⟨y6, y7, ok, rfl, eO, hoq, hond, hov, hm', oth⟩ := hJ
        obtain ⟨rfl, k, u, hk, rfl⟩ := hy
        obtain ⟨z0, ez, hzv⟩ := hks (k, u) (List.mem_of_getElem? hk)
        have ez' : k = .inr z0 := ez
        subst ez'
        obtain ⟨j, hin, lz, ev, elz⟩ := hK6.at hzv
        have nlz := lno z0 lz _ ev elz
        have elz7 : H7 lz = some (.lst (j.tops.map V.str)) := oth _ _ nlz.1 (by rw [upd_ne nlz.2]; exact elz)
        have eF7 : H7 F = some (.frz od (.dK kvs)) := oth _ _ nFO upd_same
        have kj := kidsAt_inn nd2 hin
        refine ⟨.ref F, rfl, .str z0, rfl, F, .ref lz, rfl, .inl ⟨kvs, .inr z0, .inr ⟨od, eF7⟩, rfl, ev.symm⟩, lz, rfl, ⟨_, .inl (.inl elz7)⟩, for_it (walk_list (xs := j.tops.map V.str)) (fun n σ H' => ∃ (y7 : Option V) (ok : List (Key × V)), σ = [some (.ref a), some (.ref d), some (.ref p), some (.ref F), some (.ref L), some (.ref O), some (.str z0), y7, none, none, none] ∧ H' O = some (.dK ok) ∧ (∀ q ∈ ok, ∃ z ∈ w.names, q.1 = .inr z) ∧ (ok.map (·.1)).Nodup ∧ (∀ (z : Str) v, valV ok (.inr z) = some v → (z, v) ∈ pars .non w) ∧ (∀ m', m' < m → ∀ k u, kvs[m']? = some (.inr k, u) → ∀ j, w.inn k = some j → ∀ z ∈ j.tops, ∃ v, valV ok (.inr z) = some v) ∧ (∀ z ∈ j.tops.take n, ∃ v, valV ok (.inr z) = some v) ∧ ∀ b o, b ≠ O → (L2.upd H6 F (.frz od (.dK kvs))) b = some o → H' b = some o)
          ⟨y7, ok, rfl, eO, hoq, hond, hov, hm', (fun _ h => nomatch h), oth⟩ (fun n σ H' _ hJ => ?_) (fun n x σ H' H8 hn hJ hy => ?_) (fun σ H' hJ => ?_)⟩
        · obtain ⟨_, _, _, _, _, _, _, _, _, oth⟩ := hJ
          exact .inl (.inl (oth _ _ nlz.1 (by rw [upd_ne nlz.2]; exact elz)))
        · obtain ⟨y7, ok, rfl, eO, hoq, hond, hov, hm', ht, oth⟩ := hJ
          obtain ⟨rfl, hx⟩ := hy
          rw [List.length_map] at hn
          obtain ⟨z, ezz⟩ : ∃ z, j.tops[n] = z := ⟨_, rfl⟩
          have hz : j.tops[n]? = some z := by rw [← ezz]; exact List.getElem?_eq_getElem hn
          have ex : x = .str z := by
            rw [List.getElem?_map, hz] at hx
            exact (Option.some.inj hx).symm
          subst ex
          have zp : (z, parV z0) ∈ pars .non w := mem_kidsAt.mp (by rw [kj]; exact List.mem_of_getElem? hz)
          have zn : z ∈ w.names := by
            rw [← pars_names .non w]
            exact List.mem_map.mpr ⟨_, zp, rfl⟩
          have olen : ok.length ≤ w.size := by
            rw [← Wd.size_names, ← List.length_map (f := fun q : Key × V => q.1), ← List.length_map (f := (Sum.inr : Str → Key)) (as := w.names)]
            refine len_le_of_sub hond fun x hx => ?_
            obtain ⟨q, hq, rfl⟩ := List.mem_map.mp hx
            obtain ⟨z', hz', e⟩ := hoq q hq
            rw [e]
            exact List.mem_map.mpr ⟨z', hz', rfl⟩
          have fin : ∀ v, v = parV z0 → ∃ (a' : Addr) (H4 : Hp), V.ref O = .ref a' ∧ DPut H8 a' (.str z) v H4 ∧ ∃ (y7 : Option V) (ok : List (Key × V)), [some (.ref a), some (.ref d), some (.ref p), some (.ref F), some (.ref L), some (.ref O), some (.str z0), some (.str z), none, none, none] = [some (.ref a), some (.ref d), some (.ref p), some (.ref F), some (.ref L), some (.ref O), some (.str z0), y7, none, none, none] ∧ H4 O = some (.dK ok) ∧ (∀ q ∈ ok, ∃ z ∈ w.names, q.1 = .inr z) ∧ (ok.map (·.1)).Nodup ∧ (∀ (z : Str) v, valV ok (.inr z) = some v → (z, v) ∈ pars .non w) ∧ (∀ m', m' < m → ∀ k u, kvs[m']? = some (.inr k, u) → ∀ j, w.inn k = some j → ∀ z ∈ j.tops, ∃ v, valV ok (.inr z) = some v) ∧ (∀ z ∈ j.tops.take (n + 1), ∃ v, valV ok (.inr z) = some v) ∧ ∀ b o, b ≠ O → (L2.upd H6 F (.frz od (.dK kvs))) b = some o → H4 b = some o := by
            intro v hv
            have keep : ∀ y : Str, (∃ v, valV ok (.inr y) = some v) → ∃ v', valV (putK ok (.inr z) v) (.inr y) = some v' := fun y ⟨v', e⟩ => by
              rw [valV_put]
              by_cases c : (Sum.inr y : Key) = .inr z
              · exact ⟨v, if_pos c⟩
              · exact ⟨v', by rw [if_neg c]; exact e⟩
            refine ⟨O, _, rfl, .inl ⟨ok, .inr z, eO, rfl, big' (by omega), rfl⟩, _, putK ok (.inr z) v, rfl, upd_same, fun q hq => ?_, put_nodup hond, fun y v' e => ?_, fun m2 h2 k2 u2 e2 j2 hj2 y hy => keep y (hm' m2 h2 k2 u2 e2 j2 hj2 y hy), fun y hy => ?_, fun b o nb e => ?_⟩
            · rcases put_keys hq with e | hq
              · exact ⟨z, zn, e⟩
              · exact hoq q hq
            · rw [valV_put] at e
              split at e
              · rename_i c
                cases e
                rw [Sum.inr.inj c, hv]
                exact zp
              · exact hov y v' e
            · rw [List.take_add_one, hz] at hy
              rcases List.mem_append.mp hy with h | h
              · exact keep y (ht y h)
              · have ey : y = z := by simpa using h
                rw [ey]
                exact ⟨v, by rw [valV_put, if_pos rfl]⟩
            · rw [upd_ne nb]
              exact oth b o nb e
          refine ⟨.str z0, rfl, rfl, _, rfl, ?_⟩
          by_cases c : z0 = ""
          · rw [decide_eq_true (show V.str z0 = .str "" by rw [c])]
            exact ⟨.ref O, rfl, .str z, rfl, fin .non (by unfold parV; rw [if_pos c])⟩
          · rw [decide_eq_false (fun e => c (V.str.inj e))]
            exact ⟨.str z0, rfl, .ref O, rfl, .str z, rfl, fin (.str z0) (by unfold parV; rw [if_neg c])⟩
        · obtain ⟨y7, ok, rfl, eO, hoq, hond, hov, hm', ht, oth⟩ := hJ
          rw [List.length_map, List.take_of_length_le (Nat.le_refl _)] at ht
          refine ⟨_, _, ok, rfl, eO, hoq, hond, hov, fun m2 h2 k2 u2 e2 j2 hj2 y hy => ?_, oth⟩
          rcases Nat.lt_succ_iff_lt_or_eq.mp h2 with h | h
          · exact hm' m2 h k2 u2 e2 j2 hj2 y hy
          · rw [h, hk] at e2
            have e3 : z0 = k2 := Sum.inr.inj (Prod.mk.inj (Option.some.inj e2)).1
            subst e3
            rw [hin] at hj2
            cases hj2
            exact ht y hy
      · obtain ⟨y6, y7, ok, rfl, eO, hoq, hond, hov, hm', oth⟩ := hJ
        refine ⟨oth _ _ nFO upd_same, rest _ _ ⟨y6, y7, ok, rfl, by rw [upd_ne (Ne.symm nFO)]; exact eO, fun z hz => ?_, fun b o nb e => ?_⟩⟩
        · have hz' : z ∈ (pars .non w).map (·.1) := by rw [pars_names]; exact hz
          obtain ⟨⟨z', pv⟩, hx, ez⟩ := List.mem_map.mp hz'
          have ez' : z' = z := ez
          subst ez'
          obtain ⟨k, hkv, hpv⟩ : ∃ k : Str, (k = "" ∨ k ∈ w.names) ∧ pv = parV k := by
            rcases pars_flat hx with e | ⟨k, hk, e⟩
            · exact ⟨"", .inl rfl, e⟩
            · exact ⟨k, .inr hk, by unfold parV; rw [if_neg (nm_ne (nm2 k hk))]; exact e⟩
          obtain ⟨j, hin, lz, ev, _⟩ := hK6.at hkv
          obtain ⟨⟨k', u⟩, hq, ek⟩ := key_mem ev
          obtain ⟨m', hm2, em⟩ := List.mem_iff_getElem.mp hq
          have ek' : k' = .inr k := ek
          have zt : z' ∈ j.tops := by
            rw [← kidsAt_inn nd2 hin, mem_kidsAt, ← hpv]
            exact hx
          obtain ⟨v, hv⟩ := hm' m' hm2 k u (by rw [List.getElem?_eq_getElem hm2, em, ek']) j hin z' zt
          exact ⟨v, hv, hov z' v hv⟩
        · by_cases cF : b = F
          · subst cF
            rw [eF6] at e
            cases e
            exact upd_same
          · rw [upd_ne cF]
            exact oth b o nb (by rw [upd_ne cF]; exact e)
  · refine ⟨.ref p, rfl, .ref p, w, rfl, hw4, by omega, nl, fun H5 u s5 hu => ?_⟩
    obtain ⟨ua, rfl, hua⟩ := hu
    refine ⟨.ref L, rfl, L, _, rfl, .inl ⟨.inl (.inl (s5 _ _ eL)), fun t1 nt1 => ne_same (Same.sqT (same_new nt1) hua) (.inl (.inl upd_same)) ⟨false, rfl, ?_⟩⟩⟩
    have s6 := s5.trans (same_new nt1 (o := .tup (w.names.map V.str)))
    refine ⟨.ref p, rfl, .ref p, .non, w, rfl, hw4.same s6, by omega, nl, nd2, .inl rfl, fun H7 ta s7 hta => ?_⟩
    have s67 := s6.trans s7
    obtain ⟨lt, ev, elt⟩ := hK4.1
    refine ⟨.ref F, rfl, F, .ref lt, rfl, .inl ⟨kvs, .inr "", .inl (s67 _ _ eF4), rfl, ev.symm⟩, lt, _, rfl, .inl ⟨.inl (.inl (s67 _ _ elt)), fun tb ntb => ?_⟩⟩
    refine ne_same (l := w.tops) ?_ (.inl (.inl upd_same)) ⟨false, rfl, rest _ _ ⟨rfl, s67.trans (same_new ntb)⟩⟩
    have hk := kidsAt_top (w := w) (p := .non) fun n _ e => nomatch e
    rw [← hk]
    exact Same.sqT (same_new ntb) hta

/-! ### the text by places -/
def topS (i : Nat) : Stmt := PySem.Challenge.pw_twigscripts_k03_names_and_who_lies_in_wh.main.body.getD i (.Pass ⟨0, 0, 0, 0⟩)
abbrev s_deckL : Stmt := topS 13
theorem sc_deckL : FnScope n_deckL ["_law_script"] (defScope s_deckL) := ⟨rfl, rfl, rfl, by decide +kernel, rfl, by decide +kernel, by decide +kernel⟩
abbrev s_drawL : Stmt := topS 15
theorem sc_drawL : FnScope n_drawL ["_law_deck_here", "_law_many"] (defScope s_drawL) := ⟨rfl, rfl, rfl, by decide +kernel, rfl, by decide +kernel, by decide +kernel⟩
abbrev s_pickL : Stmt := topS 23
theorem sc_pickL : FnScope n_pickL ["_law_deck_here", "_law_items"] (defScope s_pickL) := ⟨rfl, rfl, rfl, by decide +kernel, rfl, by decide +kernel, by decide +kernel⟩
abbrev s_nameL : Stmt := topS 18
theorem sc_nameL : FnScope n_nameL ["_law_deck_here"] (defScope s_nameL) := ⟨rfl, rfl, rfl, by decide +kernel, rfl, by decide +kernel, by decide +kernel⟩
abbrev s_namesL : Stmt := topS 19
theorem sc_namesL : FnScope n_namesL ["_law_deck_here", "_law_many"] (defScope s_namesL) := ⟨rfl, rfl, rfl, by decide +kernel, rfl, by decide +kernel, by decide +kernel⟩
abbrev s_begin_of : Stmt := topS 1
theorem sc_begin_of : FnScope n_begin_of ["name"] (defScope s_begin_of) := ⟨rfl, rfl, rfl, by decide +kernel, rfl, by decide +kernel, by decide +kernel⟩
abbrev s_end_of : Stmt := topS 2
theorem sc_end_of : FnScope n_end_of ["name"] (defScope s_end_of) := ⟨rfl, rfl, rfl, by decide +kernel, rfl, by decide +kernel, by decide +kernel⟩
abbrev s_row_of : Stmt := topS 6
theorem sc_row_of : FnScope n_row_of ["wood"] (defScope s_row_of) := ⟨rfl, rfl, rfl, by decide +kernel, rfl, by decide +kernel, by decide +kernel⟩
abbrev s_wood_ofL : Stmt := topS 14
theorem sc_wood_ofL : FnScope n_wood_ofL ["_law_kids_here", "_law_name_here"] (defScope s_wood_ofL) := ⟨rfl, rfl, rfl, by decide +kernel, rfl, by decide +kernel, by decide +kernel⟩
abbrev s_woodL : Stmt := topS 16
theorem sc_woodL : FnScope n_woodL ["_law_deck_here", "_law_names_here"] (defScope s_woodL) := ⟨rfl, rfl, rfl, by decide +kernel, rfl, by decide +kernel, by decide +kernel⟩
abbrev s_tall_woodL : Stmt := topS 17
theorem sc_tall_woodL : FnScope n_tall_woodL ["_law_deck_here", "_law_names_here", "_law_tall"] (defScope s_tall_woodL) := ⟨rfl, rfl, rfl, by decide +kernel, rfl, by decide +kernel, by decide +kernel⟩
abbrev s_wood_and_namesL : Stmt := topS 20
theorem sc_wood_and_namesL : FnScope n_wood_and_namesL ["_law_deck_here", "_law_more"] (defScope s_wood_and_namesL) := ⟨rfl, rfl, rfl, by decide +kernel, rfl, by decide +kernel, by decide +kernel⟩
abbrev s_some_woodL : Stmt := topS 21
theorem sc_some_woodL : FnScope n_some_woodL ["_law_deck_here"] (defScope s_some_woodL) := ⟨rfl, rfl, rfl, by decide +kernel, rfl, by decide +kernel, by decide +kernel⟩
abbrev s_names_of : Stmt := topS 7
theorem sc_names_of : FnScope n_names_of ["wood"] (defScope s_names_of) := ⟨rfl, rfl, rfl, by decide +kernel, rfl, by decide +kernel, by decide +kernel⟩
abbrev s_all_parents : Stmt := topS 8
theorem sc_all_parents : FnScope n_all_parents ["wood"] (defScope s_all_parents) := ⟨rfl, rfl, rfl, by decide +kernel, rfl, by decide +kernel, by decide +kernel⟩
abbrev s_require_there : Stmt := topS 9
theorem sc_require_there : FnScope n_require_there ["names", "name"] (defScope s_require_there) := ⟨rfl, rfl, rfl, by decide +kernel, rfl, by decide +kernel, by decide +kernel⟩
abbrev s_parent_of : Stmt := topS 10
theorem sc_parent_of : FnScope n_parent_of ["wood", "name"] (defScope s_parent_of) := ⟨rfl, rfl, rfl, by decide +kernel, rfl, by decide +kernel, by decide +kernel⟩
abbrev s_children_of : Stmt := topS 11
theorem sc_children_of : FnScope n_children_of ["wood", "name"] (defScope s_children_of) := ⟨rfl, rfl, rfl, by decide +kernel, rfl, by decide +kernel, by decide +kernel⟩
abbrev s_preorderL : Stmt := topS 24
theorem sc_preorderL : FnScope n_preorderL ["_law_wood_here"] (defScope s_preorderL) := ⟨rfl, rfl, rfl, by decide +kernel, rfl, by decide +kernel, by decide +kernel⟩
abbrev s_kidsL : Stmt := topS 22
theorem sc_kidsL : FnScope n_kidsL ["_law_wood_here"] (defScope s_kidsL) := ⟨rfl, rfl, rfl, by decide +kernel, rfl, by decide +kernel, by decide +kernel⟩
abbrev s_law : Stmt := topS 25
theorem sc_law : FnScope n_law ["_law_script"] (defScope s_law) := ⟨rfl, rfl, rfl, by decide +kernel, rfl, by decide +kernel, by decide +kernel⟩
/-- what the top has left -/
structure Tx (K : PySem.W.Frag) (mg : Str → Option Value) : Prop where
  z_abs : mg "abs" = none
  z_int : mg "int" = none
  z_isinstance : mg "isinstance" = none
  z_len : mg "len" = none
  z_list : mg "list" = none
  z_range : mg "range" = none
  z_str : mg "str" = none
  z_tuple : mg "tuple" = none
  d_deckL : DefAt K mg "_law_deck" s_deckL
  d_drawL : DefAt K mg "_law_draw" s_drawL
  d_pickL : DefAt K mg "_law_pick" s_pickL
  d_nameL : DefAt K mg "_law_name" s_nameL
  d_namesL : DefAt K mg "_law_names" s_namesL
  d_begin_of : DefAt K mg "begin_of" s_begin_of
  d_end_of : DefAt K mg "end_of" s_end_of
  d_row_of : DefAt K mg "row_of" s_row_of
  d_wood_ofL : DefAt K mg "_law_wood_of" s_wood_ofL
  d_woodL : DefAt K mg "_law_wood" s_woodL
  d_tall_woodL : DefAt K mg "_law_tall_wood" s_tall_woodL
  d_wood_and_namesL : DefAt K mg "_law_wood_and_names" s_wood_and_namesL
  d_some_woodL : DefAt K mg "_law_some_wood" s_some_woodL
  d_names_of : DefAt K mg "names_of" s_names_of
  d_all_parents : DefAt K mg "all_parents" s_all_parents
  d_require_there : DefAt K mg "require_there" s_require_there
  d_parent_of : DefAt K mg "parent_of" s_parent_of
  d_children_of : DefAt K mg "children_of" s_children_of
  d_preorderL : DefAt K mg "_law_preorder" s_preorderL
  d_kidsL : DefAt K mg "_law_kids" s_kidsL
  d_law : DefAt K mg "law" s_law
section
variable {P : Program} {w : World} {K : PySem.W.Frag} {mg : Str → Option Value} {base : Heap}
theorem ok_deckL (T : Tx K mg) : Cal P w K mg base 1 "_law_deck" (sp_deckL K) := by
  refine cal_of (t := t_deckL K) T.d_deckL (fun _ _ _ _ _ _ us hl => match us, hl with | [_], _ => rfl) sc_deckL (fun vs H Q E h => ?_) (fun cdv f A outer s H E hr => ?_) (fun vs H Q E h => pure_deckL vs H Q E h)
  · first | (obtain ⟨rfl, _⟩ := h; rfl) | (obtain ⟨_, rfl, _⟩ := h; rfl) | (obtain ⟨_, _, rfl, _⟩ := h; rfl) | (obtain ⟨_, _, _, rfl, _⟩ := h; rfl) | (obtain ⟨_, _, _, _, rfl, _⟩ := h; rfl) | (obtain ⟨_, _, _, _, _, rfl, _⟩ := h; rfl) | (obtain ⟨_, _, _, _, _, _, rfl, _⟩ := h; rfl) | (obtain ⟨_, _, _, _, _, _, _, rfl, _⟩ := h; rfl)
  · exact (pss_cons (ps_par (by rfl) sc_deckL.nd rfl rfl (by decide) rfl rfl (pa_cons pe_int (pa_cons (pe_op op_add pe_int (pe_op op_mul pe_int (pe_callB call_len_seq (by rfl) T.z_len (by decide +kernel) (pa_cons (pv 0) pa_nil)))) pa_nil)) (by rfl))
      (pss_cons (ps_for PassesOwn.never rfl (pi_list (pe_slice sl_list (pv 0) po_none (po_some pe_int))) (pg_name (i := 3) sc_deckL.nd rfl (Or.inl rfl)) (pss_cons (ps_set (i := 4) sc_deckL.nd rfl (Or.inl rfl) (pe_op op_add (pe_op op_add (pe_op op_mul pe_int (pe_callB call_abs (by rfl) T.z_abs (by decide +kernel) (pa_cons (pv 3) pa_nil))) (pe_callTy call_int1 (by rfl) T.z_int (by decide +kernel) (pa_cons (pe_cmpR op_lt (pv 3) pe_int (nomark _)) pa_nil))) pe_int))
      (pss_cons (ps_set (i := 2) sc_deckL.nd rfl (Or.inl rfl) (pe_op op_mod (pe_callTy call_int1 (by rfl) T.z_int (by decide +kernel) (pa_cons (pe_op op_add (pe_op op_mul (pv 2) pe_int) (pv 4)) pa_nil)) pe_int))
      (pss_one (ps_if (pt_cmpR op_ge (pe_callB call_abs (by rfl) T.z_abs (by decide +kernel) (pa_cons (pv 3) pa_nil)) (pe_op op_pow pe_int pe_int) (nomark _)) (pss_one (ps_set (i := 1) sc_deckL.nd rfl (Or.inl rfl) (pe_op op_add (pe_op op_mul (pv 1) pe_int) (pe_callB call_abs (by rfl) T.z_abs (by decide +kernel) (pa_cons (pv 3) pa_nil))))) pss_nil)))))
      (pss_one (ps_ret (pe_lst (pa_cons (pv 1) (pa_cons (pv 2) (pa_cons pe_int pa_nil))))))))
theorem ok_drawL (T : Tx K mg) : Cal P w K mg base 1 "_law_draw" (sp_drawL) := by
  refine cal_of (t := t_drawL K) T.d_drawL (fun _ _ _ _ _ _ us hl => match us, hl with | [_, _], _ => rfl) sc_drawL (fun vs H Q E h => ?_) (fun cdv f A outer s H E hr => ?_) (fun vs H Q E h => pure_drawL vs H Q E h)
  · first | (obtain ⟨rfl, _⟩ := h; rfl) | (obtain ⟨_, rfl, _⟩ := h; rfl) | (obtain ⟨_, _, rfl, _⟩ := h; rfl) | (obtain ⟨_, _, _, rfl, _⟩ := h; rfl) | (obtain ⟨_, _, _, _, rfl, _⟩ := h; rfl) | (obtain ⟨_, _, _, _, _, rfl, _⟩ := h; rfl) | (obtain ⟨_, _, _, _, _, _, rfl, _⟩ := h; rfl) | (obtain ⟨_, _, _, _, _, _, _, rfl, _⟩ := h; rfl)
  · exact (pss_cons (ps_if (pt_cmpR op_gt (pe_ix ix_list (pv 0) pe_int (fun _ _ => rfl)) pe_int (nomark _)) (pss_cons (ps_set (i := 2) sc_drawL.nd rfl (Or.inl rfl) (pe_op op_mod (pe_callTy call_int1 (by rfl) T.z_int (by decide +kernel) (pa_cons (pe_ix ix_list (pv 0) pe_int (fun _ _ => rfl)) pa_nil)) (pv 1)))
      (pss_cons (ps_asg (pe_op op_fdiv (pe_ix ix_list (pv 0) pe_int (fun _ _ => rfl)) (pv 1)) (pg_sub (pv 0) pe_int set_list))
      (pss_one (ps_ret (pv 2))))) pss_nil)
      (pss_cons (ps_asg (pe_op op_add (pe_ix ix_list (pv 0) pe_int (fun _ _ => rfl)) pe_int) (pg_sub (pv 0) pe_int set_list))
      (pss_cons (ps_set (i := 3) sc_drawL.nd rfl (Or.inl rfl) (pe_op op_mod (pe_callTy call_int1 (by rfl) T.z_int (by decide +kernel) (pa_cons (pe_op op_add (pe_ix ix_list (pv 0) pe_int (fun _ _ => rfl)) (pe_op op_mul pe_int (pe_ix ix_list (pv 0) pe_int (fun _ _ => rfl)))) pa_nil)) pe_int))
      (pss_cons (ps_set (i := 3) sc_drawL.nd rfl (Or.inl rfl) (pe_op op_mod (pe_callTy call_int1 (by rfl) T.z_int (by decide +kernel) (pa_cons (pe_op op_mul (pv 3) (pe_op op_add (pe_op op_mod (pv 3) pe_int) pe_int)) pa_nil)) pe_int))
      (pss_one (ps_ret (pe_op op_mod (pe_op op_fdiv (pe_op op_mod (pe_callTy call_int1 (by rfl) T.z_int (by decide +kernel) (pa_cons (pe_op op_mul (pv 3) (pv 3)) pa_nil)) pe_int) pe_int) (pv 1))))))))
theorem ok_pickL (T : Tx K mg) (c_drawL : Cal P w K mg base 1 "_law_draw" (sp_drawL )) : Cal P w K mg base 2 "_law_pick" (sp_pickL K) := by
  refine cal_of (t := t_pickL K) T.d_pickL (fun _ _ _ _ _ _ us hl => match us, hl with | [_, _], _ => rfl) sc_pickL (fun vs H Q E h => ?_) (fun cdv f A outer s H E hr => ?_) (fun vs H Q E h => pure_pickL vs H Q E h)
  · first | (obtain ⟨rfl, _⟩ := h; rfl) | (obtain ⟨_, rfl, _⟩ := h; rfl) | (obtain ⟨_, _, rfl, _⟩ := h; rfl) | (obtain ⟨_, _, _, rfl, _⟩ := h; rfl) | (obtain ⟨_, _, _, _, rfl, _⟩ := h; rfl) | (obtain ⟨_, _, _, _, _, rfl, _⟩ := h; rfl) | (obtain ⟨_, _, _, _, _, _, rfl, _⟩ := h; rfl) | (obtain ⟨_, _, _, _, _, _, _, rfl, _⟩ := h; rfl)
  · exact (pss_one (ps_ret (pe_ix ix_list (pv 1) (pe_c c_drawL hr (by decide) (by rfl) (pa_cons (pv 0) (pa_cons (pe_callB call_len_seq (by rfl) T.z_len (by decide +kernel) (pa_cons (pv 1) pa_nil)) pa_nil))) (fun _ _ => rfl))))
theorem ok_nameL (T : Tx K mg) (c_drawL : Cal P w K mg base 1 "_law_draw" (sp_drawL )) : Cal P w K mg base 2 "_law_name" (sp_nameL) := by
  refine cal_of (t := t_nameL K) T.d_nameL (fun _ _ _ _ _ _ us hl => match us, hl with | [_], _ => rfl) sc_nameL (fun vs H Q E h => ?_) (fun cdv f A outer s H E hr => ?_) (fun vs H Q E h => pure_nameL vs H Q E h)
  · first | (obtain ⟨rfl, _⟩ := h; rfl) | (obtain ⟨_, rfl, _⟩ := h; rfl) | (obtain ⟨_, _, rfl, _⟩ := h; rfl) | (obtain ⟨_, _, _, rfl, _⟩ := h; rfl) | (obtain ⟨_, _, _, _, rfl, _⟩ := h; rfl) | (obtain ⟨_, _, _, _, _, rfl, _⟩ := h; rfl) | (obtain ⟨_, _, _, _, _, _, rfl, _⟩ := h; rfl) | (obtain ⟨_, _, _, _, _, _, _, rfl, _⟩ := h; rfl)
  · exact (pss_cons (ps_set (i := 1) sc_nameL.nd rfl (Or.inr rfl) pe_str)
      (pss_one (ps_ret (pe_join pe_str (pe_lc (own := [("_law_k", 2)]) (by rfl) sc_nameL.nd (pi_range1 (by rfl) T.z_range (pa_cons (pe_op op_add pe_int (pe_c c_drawL hr (by decide) (by rfl) (pa_cons (pv 0) (pa_cons pe_int pa_nil)))) pa_nil)) (blkOk_by (own := [("_law_k", 2)]) (N := n_nameL) (sc := defScope s_nameL) (by decide +kernel)) (fun _ _ _ _ _ => (pg_name (i := 2) sc_nameL.nd rfl (Or.inl rfl))) (fun _ _ _ _ _ => pts_nil) (fun _ _ _ _ _ => (pe_ix ix_str (pv 1) (pe_c c_drawL hr (by decide) (by rfl) (pa_cons (pv 0) (pa_cons pe_int pa_nil))) (fun _ _ => rfl))))))))
theorem ok_namesL (T : Tx K mg) (c_drawL : Cal P w K mg base 1 "_law_draw" (sp_drawL )) (c_nameL : Cal P w K mg base 2 "_law_name" (sp_nameL )) : Cal P w K mg base 3 "_law_names" (sp_namesL) := by
  refine cal_of (t := t_namesL K) T.d_namesL (fun _ _ _ _ _ _ us hl => match us, hl with | [_, _], _ => rfl) sc_namesL (fun vs H Q E h => ?_) (fun cdv f A outer s H E hr => ?_) (fun vs H Q E h => pure_namesL vs H Q E h)
  · first | (obtain ⟨rfl, _⟩ := h; rfl) | (obtain ⟨_, rfl, _⟩ := h; rfl) | (obtain ⟨_, _, rfl, _⟩ := h; rfl) | (obtain ⟨_, _, _, rfl, _⟩ := h; rfl) | (obtain ⟨_, _, _, _, rfl, _⟩ := h; rfl) | (obtain ⟨_, _, _, _, _, rfl, _⟩ := h; rfl) | (obtain ⟨_, _, _, _, _, _, rfl, _⟩ := h; rfl) | (obtain ⟨_, _, _, _, _, _, _, rfl, _⟩ := h; rfl)
  · exact (pss_cons (ps_set (i := 2) sc_namesL.nd rfl (Or.inr rfl) pe_str)
      (pss_cons (ps_setLc (i := 3) (own := [("_law_k", 9)]) (by rfl) sc_namesL.nd rfl rfl (sw_true rfl rfl rfl (by decide +kernel)) (pi_range1 (by rfl) T.z_range (pa_cons pe_int pa_nil)) (blkOk_by (own := [("_law_k", 9)]) (N := n_namesL) (sc := defScope s_namesL) (by decide +kernel)) (fun _ _ _ _ _ => (pg_name (i := 9) sc_namesL.nd rfl (Or.inl rfl))) (fun _ _ _ _ _ => pts_nil) (fun _ _ _ _ _ => (pe_op op_add_str (pe_ix ix_str (pv 2) (pe_op op_fdiv (pv 9) pe_int) (fun _ _ => rfl)) (pe_ix ix_str (pv 2) (pe_op op_mod (pv 9) pe_int) (fun _ _ => rfl)))))
      (pss_cons (ps_par (by rfl) sc_namesL.nd rfl rfl (by decide) rfl rfl (pa_cons (pe_c c_drawL hr (by decide) (by rfl) (pa_cons (pv 0) (pa_cons pe_int pa_nil))) (pa_cons (pe_slice sl_str (pe_op op_repS (pe_c c_nameL hr (by decide) (by rfl) (pa_cons (pv 0) pa_nil)) pe_int) po_none (po_some pe_int)) pa_nil)) (by rfl))
      (pss_cons (ps_par3 (by rfl) sc_namesL.nd rfl rfl rfl (by decide) (by decide) (by decide) rfl rfl rfl (pa_cons (pe_c c_drawL hr (by decide) (by rfl) (pa_cons (pv 0) (pa_cons pe_int pa_nil))) (pa_cons pe_int (pa_cons (pe_lst pa_nil) pa_nil))) (by rfl))
      (pss_cons (ps_for PassesOwn.never rfl (pi_range1 (by rfl) T.z_range (pa_cons (pv 1) pa_nil)) (pg_name (i := 9) sc_namesL.nd rfl (Or.inl rfl)) (pss_cons (ps_set (i := 10) sc_namesL.nd rfl (Or.inl rfl) (pe_ifExp (pt_cmpR op_eq (pv 4) pe_int (nomark _)) (pe_c c_drawL hr (by decide) (by rfl) (pa_cons (pv 0) (pa_cons pe_int pa_nil))) (pv 4)))
      (pss_cons (ps_if (pt_cmpR op_eq (pv 10) pe_int (nomark _)) (pss_one (ps_set (i := 11) sc_namesL.nd rfl (Or.inl rfl) (pe_c c_nameL hr (by decide) (by rfl) (pa_cons (pv 0) pa_nil)))) (pss_one (ps_if (pt_cmpR op_eq (pv 10) pe_int (nomark _)) (pss_one (ps_set (i := 11) sc_namesL.nd rfl (Or.inl rfl) (pe_op op_add_str (pe_op op_add_str (pe_slice sl_str (pv 5) po_none (po_some (pv 6))) (pe_ix ix_str (pv 2) (pe_c c_drawL hr (by decide) (by rfl) (pa_cons (pv 0) (pa_cons pe_int pa_nil))) (fun _ _ => rfl))) (pe_slice sl_str (pv 5) (po_some (pe_op op_add (pv 6) pe_int)) po_none)))) (pss_one (ps_set (i := 11) sc_namesL.nd rfl (Or.inl rfl) (pe_slice sl_str (pv 5) po_none (po_some (pe_op op_add pe_int (pe_c c_drawL hr (by decide) (by rfl) (pa_cons (pv 0) (pa_cons pe_int pa_nil)))))))))))
      (pss_cons (ps_while PassesOwn.never (pt_cmpR op_in_seq (pv 11) (pv 8) rfl) (pss_cons (ps_set (i := 11) sc_namesL.nd rfl (Or.inl rfl) (pe_ix ix_list (pv 3) (pv 7) (fun _ _ => rfl)))
      (pss_one (ps_set (i := 7) sc_namesL.nd rfl (Or.inl rfl) (pe_op op_add (pv 7) pe_int)))))
      (pss_one (ps_expr (pe_bm PySem.F.plainAttrs_list PySem.F.slot_list_append PySem.F.type_list_append mt_append (pv 8) (pa_cons (pv 11) pa_nil))))))))
      (pss_one (ps_ret (pv 8))))))))
theorem ok_begin_of (T : Tx K mg) : Cal P w K mg base 1 "begin_of" (sp_begin_of) := by
  refine cal_of (t := t_begin_of K) T.d_begin_of (fun _ _ _ _ _ _ us hl => match us, hl with | [_], _ => rfl) sc_begin_of (fun vs H Q E h => ?_) (fun cdv f A outer s H E hr => ?_) (fun vs H Q E h => pure_begin_of vs H Q E h)
  · first | (obtain ⟨rfl, _⟩ := h; rfl) | (obtain ⟨_, rfl, _⟩ := h; rfl) | (obtain ⟨_, _, rfl, _⟩ := h; rfl) | (obtain ⟨_, _, _, rfl, _⟩ := h; rfl) | (obtain ⟨_, _, _, _, rfl, _⟩ := h; rfl) | (obtain ⟨_, _, _, _, _, rfl, _⟩ := h; rfl) | (obtain ⟨_, _, _, _, _, _, rfl, _⟩ := h; rfl) | (obtain ⟨_, _, _, _, _, _, _, rfl, _⟩ := h; rfl)
  · exact (pss_one (ps_ret (pe_op op_add_str pe_str (pv 0))))
theorem ok_end_of (T : Tx K mg) : Cal P w K mg base 1 "end_of" (sp_end_of) := by
  refine cal_of (t := t_end_of K) T.d_end_of (fun _ _ _ _ _ _ us hl => match us, hl with | [_], _ => rfl) sc_end_of (fun vs H Q E h => ?_) (fun cdv f A outer s H E hr => ?_) (fun vs H Q E h => pure_end_of vs H Q E h)
  · first | (obtain ⟨rfl, _⟩ := h; rfl) | (obtain ⟨_, rfl, _⟩ := h; rfl) | (obtain ⟨_, _, rfl, _⟩ := h; rfl) | (obtain ⟨_, _, _, rfl, _⟩ := h; rfl) | (obtain ⟨_, _, _, _, rfl, _⟩ := h; rfl) | (obtain ⟨_, _, _, _, _, rfl, _⟩ := h; rfl) | (obtain ⟨_, _, _, _, _, _, rfl, _⟩ := h; rfl) | (obtain ⟨_, _, _, _, _, _, _, rfl, _⟩ := h; rfl)
  · exact (pss_one (ps_ret (pe_op op_add_str pe_str (pv 0))))
theorem ok_row_of (T : Tx K mg) (c_begin_of : Cal P w K mg base 1 "begin_of" (sp_begin_of )) (c_end_of : Cal P w K mg base 1 "end_of" (sp_end_of )) : Cal P w K mg base 2 "row_of" (sp_row_of K) := by
  refine cal_of (t := t_row_of K) T.d_row_of (fun _ _ _ _ _ _ us hl => match us, hl with | [_], _ => rfl) sc_row_of (fun vs H Q E h => ?_) (fun cdv f A outer s H E hr => ?_) (fun vs H Q E h => pure_row_of vs H Q E h)
  · first | (obtain ⟨rfl, _⟩ := h; rfl) | (obtain ⟨_, rfl, _⟩ := h; rfl) | (obtain ⟨_, _, rfl, _⟩ := h; rfl) | (obtain ⟨_, _, _, rfl, _⟩ := h; rfl) | (obtain ⟨_, _, _, _, rfl, _⟩ := h; rfl) | (obtain ⟨_, _, _, _, _, rfl, _⟩ := h; rfl) | (obtain ⟨_, _, _, _, _, _, rfl, _⟩ := h; rfl) | (obtain ⟨_, _, _, _, _, _, _, rfl, _⟩ := h; rfl)
  · exact (pss_cons (ps_set (i := 1) sc_row_of.nd rfl (Or.inl rfl) (pe_lst pa_nil))
      (pss_cons (ps_set (i := 2) sc_row_of.nd rfl (Or.inl rfl) (pe_callTy call_list_of (by rfl) T.z_list (by decide +kernel) (pa_cons (pe_revT (pv 0)) pa_nil)))
      (pss_cons (ps_while PassesOwn.never (pt_cmpR (op_neE (hu_of hr)) (pv 2) (pe_lst pa_nil) (nomark _)) (pss_cons (ps_set (i := 3) sc_row_of.nd rfl (Or.inl rfl) (pe_bm0 PySem.F.plainAttrs_list PySem.F.slot_list_pop PySem.F.type_list_pop mt_pop (pv 2)))
      (pss_one (ps_if (pt_val (pe_callB call_isi (by rfl) T.z_isinstance (by decide +kernel) (pa_cons (pv 3) (pa_cons (pe_bltn (by rfl) T.z_str (by decide +kernel) rfl) pa_nil)))) (pss_one (ps_expr (pe_bm PySem.F.plainAttrs_list PySem.F.slot_list_append PySem.F.type_list_append mt_append (pv 1) (pa_cons (pv 3) pa_nil)))) (pss_cons (ps_expr (pe_bm PySem.F.plainAttrs_list PySem.F.slot_list_append PySem.F.type_list_append mt_append (pv 1) (pa_cons (pe_c c_begin_of hr (by decide) (by rfl) (pa_cons (pe_ix ix_tup (pv 3) pe_int (fun _ _ => rfl)) pa_nil)) pa_nil)))
      (pss_cons (ps_expr (pe_bm PySem.F.plainAttrs_list PySem.F.slot_list_append PySem.F.type_list_append mt_append (pv 2) (pa_cons (pe_c c_end_of hr (by decide) (by rfl) (pa_cons (pe_ix ix_tup (pv 3) pe_int (fun _ _ => rfl)) pa_nil)) pa_nil)))
      (pss_one (ps_expr (pe_bm PySem.F.plainAttrs_list PySem.F.slot_list_extend PySem.F.type_list_extend mt_extendT (pv 2) (pa_cons (pe_revT (pe_ix ix_tup (pv 3) pe_int (fun _ _ => rfl))) pa_nil))))))))))
      (pss_one (ps_ret (pe_callTy call_tuple_of (by rfl) T.z_tuple (by decide +kernel) (pa_cons (pv 1) pa_nil)))))))
theorem ok_wood_ofL (T : Tx K mg) : ∀ n : Nat, Cal P w K mg base (1 + n) "_law_wood_of" (sp_wood_ofL K n)
  | 0 => cal_false (ps := ["_law_kids_here", "_law_name_here"]) T.d_wood_ofL (fun _ _ _ _ _ _ us hl => match us, hl with | [_, _], _ => rfl) (fun vs H Q E h => none_wood_ofL vs H Q E h)
  | n + 1 => by
    have c_wood_ofL := ok_wood_ofL T n
    refine cal_of (t := t_wood_ofL n K) T.d_wood_ofL (fun _ _ _ _ _ _ us hl => match us, hl with | [_, _], _ => rfl) sc_wood_ofL (fun vs H Q E h => ?_) (fun cdv f A outer s H E hr => ?_) (fun vs H Q E h => pure_wood_ofL n vs H Q E h)
    · first | (obtain ⟨rfl, _⟩ := h; rfl) | (obtain ⟨_, rfl, _⟩ := h; rfl) | (obtain ⟨_, _, rfl, _⟩ := h; rfl) | (obtain ⟨_, _, _, rfl, _⟩ := h; rfl) | (obtain ⟨_, _, _, _, rfl, _⟩ := h; rfl) | (obtain ⟨_, _, _, _, _, rfl, _⟩ := h; rfl) | (obtain ⟨_, _, _, _, _, _, rfl, _⟩ := h; rfl) | (obtain ⟨_, _, _, _, _, _, _, rfl, _⟩ := h; rfl)
    · exact (pss_one (ps_ret (pe_callTy call_tuple_of (by rfl) T.z_tuple (by decide +kernel) (pa_cons (pe_lc (own := [("_law_kid", 2)]) (by rfl) sc_wood_ofL.nd (pi_list (pe_dget (hu_of hr) (pv 0) (pv 1) (fun _ _ => rfl))) (blkOk_by (own := [("_law_kid", 2)]) (N := n_wood_ofL) (sc := defScope s_wood_ofL) (by decide +kernel)) (fun _ _ _ _ _ => (pg_name (i := 2) sc_wood_ofL.nd rfl (Or.inl rfl))) (fun _ _ _ _ _ => pts_nil) (fun _ _ _ _ _ => (pe_tup (pa_cons (pv 2) (pa_cons (pe_c c_wood_ofL hr (by first | exact Nat.le_refl _ | (show _ ≤ _ + n; omega)) (by rfl) (pa_cons (pv 0) (pa_cons (pv 2) pa_nil))) pa_nil))))) pa_nil))))
theorem ok_woodL (T : Tx K mg) (c_drawL : Cal P w K mg base 1 "_law_draw" (sp_drawL )) (c_wood_ofL : Cal P w K mg base 61 "_law_wood_of" (sp_wood_ofL K 60)) : Cal P w K mg base 62 "_law_wood" (sp_woodL K) := by
  refine cal_of (t := t_woodL K) T.d_woodL (fun _ _ _ _ _ _ us hl => match us, hl with | [_, _], _ => rfl) sc_woodL (fun vs H Q E h => ?_) (fun cdv f A outer s H E hr => ?_) (fun vs H Q E h => pure_woodL vs H Q E h)
  · first | (obtain ⟨rfl, _⟩ := h; rfl) | (obtain ⟨_, rfl, _⟩ := h; rfl) | (obtain ⟨_, _, rfl, _⟩ := h; rfl) | (obtain ⟨_, _, _, rfl, _⟩ := h; rfl) | (obtain ⟨_, _, _, _, rfl, _⟩ := h; rfl) | (obtain ⟨_, _, _, _, _, rfl, _⟩ := h; rfl) | (obtain ⟨_, _, _, _, _, _, rfl, _⟩ := h; rfl) | (obtain ⟨_, _, _, _, _, _, _, rfl, _⟩ := h; rfl)
  · exact (pss_cons (ps_set (i := 2) sc_woodL.nd rfl (Or.inl rfl) (pe_disp (pps_cons pe_str (pe_lst pa_nil) pps_nil) (by rfl) (by rfl) (fun z => by cases z) (by decide)))
      (pss_cons (ps_for PassesOwn.never rfl (pi_list (pv 1)) (pg_name (i := 3) sc_woodL.nd rfl (Or.inl rfl)) (pss_cons (ps_set (i := 4) sc_woodL.nd rfl (Or.inl rfl) (pe_ix ix_list (pe_listKeys rfl (pv 2) (by rfl) T.z_list (by decide +kernel)) (pe_c c_drawL hr (by decide) (by rfl) (pa_cons (pv 0) (pa_cons (pe_callB call_lenD (by rfl) T.z_len (by decide +kernel) (pa_cons (pv 2) pa_nil)) pa_nil))) (fun _ _ => rfl)))
      (pss_cons (ps_set (i := 5) sc_woodL.nd rfl (Or.inl rfl) (pe_c c_drawL hr (by decide) (by rfl) (pa_cons (pv 0) (pa_cons (pe_op op_add (pe_callB call_len_seq (by rfl) T.z_len (by decide +kernel) (pa_cons (pe_dget (hu_of hr) (pv 2) (pv 4) (fun _ _ => rfl)) pa_nil)) pe_int) pa_nil))))
      (pss_cons (ps_set (i := 6) sc_woodL.nd rfl (Or.inl rfl) (pe_dget (hu_of hr) (pv 2) (pv 4) (fun _ _ => rfl)))
      (pss_cons (ps_set (i := 7) sc_woodL.nd rfl (Or.inl rfl) (pe_op op_mul (pe_op op_fdiv (pe_c c_drawL hr (by decide) (by rfl) (pa_cons (pv 0) (pa_cons pe_int pa_nil))) pe_int) (pe_c c_drawL hr (by decide) (by rfl) (pa_cons (pv 0) (pa_cons (pe_op op_add (pe_op op_sub (pe_callB call_len_seq (by rfl) T.z_len (by decide +kernel) (pa_cons (pv 6) pa_nil)) (pv 5)) pe_int) pa_nil)))))
      (pss_cons (ps_dput (hu_of hr) (pv 2) (pv 3) (pe_slice sl_list (pv 6) (po_some (pv 5)) (po_some (pe_op op_add (pv 5) (pv 7)))) rfl)
      (pss_one (ps_dput (hu_of hr) (pv 2) (pv 4) (pe_op op_cat (pe_op op_cat (pe_slice sl_list (pv 6) po_none (po_some (pv 5))) (pe_lst (pa_cons (pv 3) pa_nil))) (pe_slice sl_list (pv 6) (po_some (pe_op op_add (pv 5) (pv 7))) po_none)) rfl))))))))
      (pss_one (ps_ret (pe_c c_wood_ofL hr (by decide) (by rfl) (pa_cons (pv 2) (pa_cons pe_str pa_nil)))))))
theorem ok_tall_woodL (T : Tx K mg) (c_drawL : Cal P w K mg base 1 "_law_draw" (sp_drawL )) (c_wood_ofL : Cal P w K mg base 61 "_law_wood_of" (sp_wood_ofL K 60)) : Cal P w K mg base 62 "_law_tall_wood" (sp_tall_woodL K) := by
  refine cal_of (t := t_tall_woodL K) T.d_tall_woodL (fun _ _ _ _ _ _ us hl => match us, hl with | [_, _, _], _ => rfl) sc_tall_woodL (fun vs H Q E h => ?_) (fun cdv f A outer s H E hr => ?_) (fun vs H Q E h => pure_tall_woodL vs H Q E h)
  · first | (obtain ⟨rfl, _⟩ := h; rfl) | (obtain ⟨_, rfl, _⟩ := h; rfl) | (obtain ⟨_, _, rfl, _⟩ := h; rfl) | (obtain ⟨_, _, _, rfl, _⟩ := h; rfl) | (obtain ⟨_, _, _, _, rfl, _⟩ := h; rfl) | (obtain ⟨_, _, _, _, _, rfl, _⟩ := h; rfl) | (obtain ⟨_, _, _, _, _, _, rfl, _⟩ := h; rfl) | (obtain ⟨_, _, _, _, _, _, _, rfl, _⟩ := h; rfl)
  · exact (pss_cons (ps_asg (pe_tup (pa_cons (pe_disp (pps_cons pe_str (pe_lst pa_nil) pps_nil) (by rfl) (by rfl) (fun z => by cases z) (by decide)) (pa_cons (pe_disp (pps_cons pe_str pe_int pps_nil) (by rfl) (by rfl) (fun z => by cases z) (by decide)) pa_nil))) (pg_tup rfl (pgs_cons (pg_name (i := 3) sc_tall_woodL.nd rfl (Or.inl rfl)) (pgs_cons (pg_name (i := 4) sc_tall_woodL.nd rfl (Or.inr rfl)) pgs_nil))))
      (pss_cons (ps_set (i := 5) sc_tall_woodL.nd rfl (Or.inl rfl) pe_str)
      (pss_cons (ps_for PassesOwn.never rfl (pi_range1 (by rfl) T.z_range (pa_cons (pe_callB call_len_seq (by rfl) T.z_len (by decide +kernel) (pa_cons (pv 1) pa_nil)) pa_nil)) (pg_name (i := 6) sc_tall_woodL.nd rfl (Or.inl rfl)) (pss_cons (ps_set (i := 7) sc_tall_woodL.nd rfl (Or.inl rfl) (pe_ix ix_list (pv 1) (pv 6) (fun _ _ => rfl)))
      (pss_cons (ps_if (pt_cmpR op_ge (pv 6) (pv 2) (nomark _)) (pss_cons (ps_lock (ps_setLc (i := 8) (own := [("_law_one", 10)]) (by rfl) sc_tall_woodL.nd rfl rfl (sw_true rfl rfl rfl (by decide +kernel)) (pi_keysM (pv 3)) (blkOk_by (own := [("_law_one", 10)]) (N := n_tall_woodL) (sc := defScope s_tall_woodL) (by decide +kernel)) (fun _ _ _ _ _ => (pg_name (i := 10) sc_tall_woodL.nd rfl (Or.inl rfl))) (fun _ _ _ _ _ => (pts_one (pt_cmpR op_lt (pe_dget (hu_of hr) (pv 4) (pv 10) (fun _ _ => rfl)) (pv 2) (nomark _)))) (fun _ _ _ _ _ => (pv 10))))
      (pss_one (ps_set (i := 5) sc_tall_woodL.nd rfl (Or.inl rfl) (pe_ix ix_list (pv 8) (pe_c c_drawL hr (by decide) (by rfl) (pa_cons (pv 0) (pa_cons (pe_callB call_len_seq (by rfl) T.z_len (by decide +kernel) (pa_cons (pv 8) pa_nil)) pa_nil))) (fun _ _ => rfl))))) pss_nil)
      (pss_cons (ps_set (i := 9) sc_tall_woodL.nd rfl (Or.inl rfl) (pe_dget (hu_of hr) (pv 3) (pv 5) (fun _ _ => rfl)))
      (pss_cons (ps_expr (pe_bm PySem.F.plainAttrs_list PySem.F.slot_list_insert PySem.F.type_list_insert mt_insert (pv 9) (pa_cons (pe_c c_drawL hr (by decide) (by rfl) (pa_cons (pv 0) (pa_cons (pe_op op_add (pe_callB call_len_seq (by rfl) T.z_len (by decide +kernel) (pa_cons (pv 9) pa_nil)) pe_int) pa_nil))) (pa_cons (pv 7) pa_nil))))
      (pss_cons (ps_dput (hu_of hr) (pv 3) (pv 7) (pe_lst pa_nil) rfl)
      (pss_cons (ps_dput (hu_of hr) (pv 4) (pv 7) (pe_op op_add (pe_dget (hu_of hr) (pv 4) (pv 5) (fun _ _ => rfl)) pe_int) rfl)
      (pss_one (ps_set (i := 5) sc_tall_woodL.nd rfl (Or.inl rfl) (pv 7))))))))))
      (pss_one (ps_ret (pe_c c_wood_ofL hr (by decide) (by rfl) (pa_cons (pv 3) (pa_cons pe_str pa_nil))))))))
theorem ok_wood_and_namesL (T : Tx K mg) (c_drawL : Cal P w K mg base 1 "_law_draw" (sp_drawL )) (c_namesL : Cal P w K mg base 3 "_law_names" (sp_namesL )) (c_tall_woodL : Cal P w K mg base 62 "_law_tall_wood" (sp_tall_woodL K)) (c_woodL : Cal P w K mg base 62 "_law_wood" (sp_woodL K)) : Cal P w K mg base 63 "_law_wood_and_names" (sp_wood_and_namesL K) := by
  refine cal_of (t := t_wood_and_namesL K) T.d_wood_and_namesL (fun _ _ _ _ _ _ us hl => match us, hl with | [_, _], _ => rfl) sc_wood_and_namesL (fun vs H Q E h => ?_) (fun cdv f A outer s H E hr => ?_) (fun vs H Q E h => pure_wood_and_namesL vs H Q E h)
  · first | (obtain ⟨rfl, _⟩ := h; rfl) | (obtain ⟨_, rfl, _⟩ := h; rfl) | (obtain ⟨_, _, rfl, _⟩ := h; rfl) | (obtain ⟨_, _, _, rfl, _⟩ := h; rfl) | (obtain ⟨_, _, _, _, rfl, _⟩ := h; rfl) | (obtain ⟨_, _, _, _, _, rfl, _⟩ := h; rfl) | (obtain ⟨_, _, _, _, _, _, rfl, _⟩ := h; rfl) | (obtain ⟨_, _, _, _, _, _, _, rfl, _⟩ := h; rfl)
  · exact (pss_cons (ps_if (pt_cmpR op_eq (pe_c c_drawL hr (by decide) (by rfl) (pa_cons (pv 0) (pa_cons pe_int pa_nil))) pe_int (nomark _)) (pss_cons (ps_set (i := 2) sc_wood_and_namesL.nd rfl (Or.inl rfl) (pe_op op_add pe_int (pe_c c_drawL hr (by decide) (by rfl) (pa_cons (pv 0) (pa_cons pe_int pa_nil)))))
      (pss_cons (ps_set (i := 3) sc_wood_and_namesL.nd rfl (Or.inl rfl) (pe_op op_add (pv 2) (pe_c c_drawL hr (by decide) (by rfl) (pa_cons (pv 0) (pa_cons (pe_op op_sub pe_int (pv 2)) pa_nil)))))
      (pss_cons (ps_set (i := 4) sc_wood_and_namesL.nd rfl (Or.inl rfl) (pe_c c_namesL hr (by decide) (by rfl) (pa_cons (pv 0) (pa_cons (pe_op op_add (pv 3) (pv 1)) pa_nil))))
      (pss_one (ps_ret (pe_lst (pa_cons (pe_c c_tall_woodL hr (by decide) (by rfl) (pa_cons (pv 0) (pa_cons (pe_slice sl_list (pv 4) po_none (po_some (pv 3))) (pa_cons (pv 2) pa_nil)))) (pa_cons (pe_slice sl_list (pv 4) (po_some (pv 3)) po_none) pa_nil)))))))) pss_nil)
      (pss_cons (ps_set (i := 3) sc_wood_and_namesL.nd rfl (Or.inl rfl) (pe_c c_drawL hr (by decide) (by rfl) (pa_cons (pv 0) (pa_cons pe_int pa_nil))))
      (pss_cons (ps_set (i := 4) sc_wood_and_namesL.nd rfl (Or.inl rfl) (pe_c c_namesL hr (by decide) (by rfl) (pa_cons (pv 0) (pa_cons (pe_op op_add (pv 3) (pv 1)) pa_nil))))
      (pss_one (ps_ret (pe_lst (pa_cons (pe_c c_woodL hr (by decide) (by rfl) (pa_cons (pv 0) (pa_cons (pe_slice sl_list (pv 4) po_none (po_some (pv 3))) pa_nil))) (pa_cons (pe_slice sl_list (pv 4) (po_some (pv 3)) po_none) pa_nil))))))))
theorem ok_some_woodL (T : Tx K mg) (c_wood_and_namesL : Cal P w K mg base 63 "_law_wood_and_names" (sp_wood_and_namesL K)) : Cal P w K mg base 64 "_law_some_wood" (sp_some_woodL K) := by
  refine cal_of (t := t_some_woodL K) T.d_some_woodL (fun _ _ _ _ _ _ us hl => match us, hl with | [_], _ => rfl) sc_some_woodL (fun vs H Q E h => ?_) (fun cdv f A outer s H E hr => ?_) (fun vs H Q E h => pure_some_woodL vs H Q E h)
  · first | (obtain ⟨rfl, _⟩ := h; rfl) | (obtain ⟨_, rfl, _⟩ := h; rfl) | (obtain ⟨_, _, rfl, _⟩ := h; rfl) | (obtain ⟨_, _, _, rfl, _⟩ := h; rfl) | (obtain ⟨_, _, _, _, rfl, _⟩ := h; rfl) | (obtain ⟨_, _, _, _, _, rfl, _⟩ := h; rfl) | (obtain ⟨_, _, _, _, _, _, rfl, _⟩ := h; rfl) | (obtain ⟨_, _, _, _, _, _, _, rfl, _⟩ := h; rfl)
  · exact (pss_one (ps_ret (pe_ix ix_list (pe_c c_wood_and_namesL hr (by decide) (by rfl) (pa_cons (pv 0) (pa_cons pe_int pa_nil))) pe_int (fun _ _ => rfl))))
theorem ok_names_of (T : Tx K mg) (c_row_of : Cal P w K mg base 2 "row_of" (sp_row_of K)) : Cal P w K mg base 3 "names_of" (sp_names_of K) := by
  refine cal_of (t := t_names_of K) T.d_names_of (fun _ _ _ _ _ _ us hl => match us, hl with | [_], _ => rfl) sc_names_of (fun vs H Q E h => ?_) (fun cdv f A outer s H E hr => ?_) (fun vs H Q E h => pure_names_of vs H Q E h)
  · first | (obtain ⟨rfl, _⟩ := h; rfl) | (obtain ⟨_, rfl, _⟩ := h; rfl) | (obtain ⟨_, _, rfl, _⟩ := h; rfl) | (obtain ⟨_, _, _, rfl, _⟩ := h; rfl) | (obtain ⟨_, _, _, _, rfl, _⟩ := h; rfl) | (obtain ⟨_, _, _, _, _, rfl, _⟩ := h; rfl) | (obtain ⟨_, _, _, _, _, _, rfl, _⟩ := h; rfl) | (obtain ⟨_, _, _, _, _, _, _, rfl, _⟩ := h; rfl)
  · exact (pss_one (ps_ret (pe_callTy call_tuple_of (by rfl) T.z_tuple (by decide +kernel) (pa_cons (pe_lc (own := [("end", 1)]) (by rfl) sc_names_of.nd (pi_tup (pe_c c_row_of hr (by decide) (by rfl) (pa_cons (pv 0) pa_nil))) (blkOk_by (own := [("end", 1)]) (N := n_names_of) (sc := defScope s_names_of) (by decide +kernel)) (fun _ _ _ _ _ => (pg_name (i := 1) sc_names_of.nd rfl (Or.inl rfl))) (fun _ _ _ _ _ => (pts_one (pt_cmpR op_eq (pe_ix ix_str (pv 1) pe_int (fun _ _ => rfl)) pe_str (nomark _)))) (fun _ _ _ _ _ => (pe_slice sl_str (pv 1) (po_some pe_int) po_none))) pa_nil))))
theorem ok_all_parents (T : Tx K mg) : Cal P w K mg base 1 "all_parents" (sp_all_parents K) := by
  refine cal_of (t := t_all_parents K) T.d_all_parents (fun _ _ _ _ _ _ us hl => match us, hl with | [_], _ => rfl) sc_all_parents (fun vs H Q E h => ?_) (fun cdv f A outer s H E hr => ?_) (fun vs H Q E h => pure_all_parents vs H Q E h)
  · first | (obtain ⟨rfl, _⟩ := h; rfl) | (obtain ⟨_, rfl, _⟩ := h; rfl) | (obtain ⟨_, _, rfl, _⟩ := h; rfl) | (obtain ⟨_, _, _, rfl, _⟩ := h; rfl) | (obtain ⟨_, _, _, _, rfl, _⟩ := h; rfl) | (obtain ⟨_, _, _, _, _, rfl, _⟩ := h; rfl) | (obtain ⟨_, _, _, _, _, _, rfl, _⟩ := h; rfl) | (obtain ⟨_, _, _, _, _, _, _, rfl, _⟩ := h; rfl)
  · exact (pss_cons (ps_set (i := 1) sc_all_parents.nd rfl (Or.inl rfl) pe_dnewK)
      (pss_cons (ps_setLc (i := 2) (own := [("tree", 4)]) (by rfl) sc_all_parents.nd rfl rfl (sw_true rfl rfl rfl (by decide +kernel)) (pi_tup (pv 0)) (blkOk_by (own := [("tree", 4)]) (N := n_all_parents) (sc := defScope s_all_parents) (by decide +kernel)) (fun _ _ _ _ _ => (pg_name (i := 4) sc_all_parents.nd rfl (Or.inl rfl))) (fun _ _ _ _ _ => pts_nil) (fun _ _ _ _ _ => (pe_tup (pa_cons pe_non (pa_cons (pv 4) pa_nil)))))
      (pss_cons (ps_while PassesOwn.never (pt_cmpR (op_neE (hu_of hr)) (pv 2) (pe_lst pa_nil) (nomark _)) (pss_cons (ps_asg (pe_bm0 PySem.F.plainAttrs_list PySem.F.slot_list_pop PySem.F.type_list_pop mt_pop (pv 2)) (pg_tup rfl (pgs_cons (pg_name (i := 3) sc_all_parents.nd rfl (Or.inl rfl)) (pgs_cons (pg_name (i := 4) sc_all_parents.nd rfl (Or.inr rfl)) pgs_nil))))
      (pss_cons (ps_dput (hu_of hr) (pv 1) (pe_ix ix_tup (pv 4) pe_int (fun _ _ => rfl)) (pv 3) rfl)
      (pss_one (ps_expr (pe_bm PySem.F.plainAttrs_list PySem.F.slot_list_extend PySem.F.type_list_extend mt_extend (pv 2) (pa_cons (pe_lc (own := [("part", 5)]) (by rfl) sc_all_parents.nd (pi_tup (pe_ix ix_tup (pv 4) pe_int (fun _ _ => rfl))) (blkOk_by (own := [("part", 5)]) (N := n_all_parents) (sc := defScope s_all_parents) (by decide +kernel)) (fun _ _ _ _ _ => (pg_name (i := 5) sc_all_parents.nd rfl (Or.inl rfl))) (fun _ _ _ _ _ => pts_nil) (fun _ _ _ _ _ => (pe_tup (pa_cons (pe_ix ix_tup (pv 4) pe_int (fun _ _ => rfl)) (pa_cons (pv 5) pa_nil))))) pa_nil)))))))
      (pss_one (ps_ret (pv 1))))))
theorem ok_require_there (T : Tx K mg) : Cal P w K mg base 1 "require_there" (sp_require_there K) := by
  refine cal_of (t := t_require_there K) T.d_require_there (fun _ _ _ _ _ _ us hl => match us, hl with | [_, _], _ => rfl) sc_require_there (fun vs H Q E h => ?_) (fun cdv f A outer s H E hr => ?_) (fun vs H Q E h => pure_require_there vs H Q E h)
  · first | (obtain ⟨rfl, _⟩ := h; rfl) | (obtain ⟨_, rfl, _⟩ := h; rfl) | (obtain ⟨_, _, rfl, _⟩ := h; rfl) | (obtain ⟨_, _, _, rfl, _⟩ := h; rfl) | (obtain ⟨_, _, _, _, rfl, _⟩ := h; rfl) | (obtain ⟨_, _, _, _, _, rfl, _⟩ := h; rfl) | (obtain ⟨_, _, _, _, _, _, rfl, _⟩ := h; rfl) | (obtain ⟨_, _, _, _, _, _, _, rfl, _⟩ := h; rfl)
  · exact (pss_one (ps_if (pt_cmpR op_notIn_seq (pv 1) (pv 0) rfl) (pss_one ps_never) pss_nil))
theorem ok_parent_of (T : Tx K mg) (c_all_parents : Cal P w K mg base 1 "all_parents" (sp_all_parents K)) (c_names_of : Cal P w K mg base 3 "names_of" (sp_names_of K)) (c_require_there : Cal P w K mg base 1 "require_there" (sp_require_there K)) : Cal P w K mg base 4 "parent_of" (sp_parent_of K) := by
  refine cal_of (t := t_parent_of K) T.d_parent_of (fun _ _ _ _ _ _ us hl => match us, hl with | [_, _], _ => rfl) sc_parent_of (fun vs H Q E h => ?_) (fun cdv f A outer s H E hr => ?_) (fun vs H Q E h => pure_parent_of vs H Q E h)
  · first | (obtain ⟨rfl, _⟩ := h; rfl) | (obtain ⟨_, rfl, _⟩ := h; rfl) | (obtain ⟨_, _, rfl, _⟩ := h; rfl) | (obtain ⟨_, _, _, rfl, _⟩ := h; rfl) | (obtain ⟨_, _, _, _, rfl, _⟩ := h; rfl) | (obtain ⟨_, _, _, _, _, rfl, _⟩ := h; rfl) | (obtain ⟨_, _, _, _, _, _, rfl, _⟩ := h; rfl) | (obtain ⟨_, _, _, _, _, _, _, rfl, _⟩ := h; rfl)
  · exact (pss_cons (ps_expr (pe_c c_require_there hr (by decide) (by rfl) (pa_cons (pe_c c_names_of hr (by decide) (by rfl) (pa_cons (pv 0) pa_nil)) (pa_cons (pv 1) pa_nil))))
      (pss_one (ps_ret (pe_dget (hu_of hr) (pe_c c_all_parents hr (by decide) (by rfl) (pa_cons (pv 0) pa_nil)) (pv 1) (fun _ _ => rfl)))))
theorem ok_children_of (T : Tx K mg) (c_all_parents : Cal P w K mg base 1 "all_parents" (sp_all_parents K)) (c_names_of : Cal P w K mg base 3 "names_of" (sp_names_of K)) (c_require_there : Cal P w K mg base 1 "require_there" (sp_require_there K)) : Cal P w K mg base 4 "children_of" (sp_children_of K) := by
  refine cal_of (t := t_children_of K) T.d_children_of (fun _ _ _ _ _ _ us hl => match us, hl with | [_, _], _ => rfl) sc_children_of (fun vs H Q E h => ?_) (fun cdv f A outer s H E hr => ?_) (fun vs H Q E h => pure_children_of vs H Q E h)
  · first | (obtain ⟨rfl, _⟩ := h; rfl) | (obtain ⟨_, rfl, _⟩ := h; rfl) | (obtain ⟨_, _, rfl, _⟩ := h; rfl) | (obtain ⟨_, _, _, rfl, _⟩ := h; rfl) | (obtain ⟨_, _, _, _, rfl, _⟩ := h; rfl) | (obtain ⟨_, _, _, _, _, rfl, _⟩ := h; rfl) | (obtain ⟨_, _, _, _, _, _, rfl, _⟩ := h; rfl) | (obtain ⟨_, _, _, _, _, _, _, rfl, _⟩ := h; rfl)
  · exact (pss_cons (ps_set (i := 2) sc_children_of.nd rfl (Or.inl rfl) (pe_c c_names_of hr (by decide) (by rfl) (pa_cons (pv 0) pa_nil)))
      (pss_cons (ps_if (pt_cmpR op_notN1 (pv 1) pe_non (nomark _)) (pss_one (ps_expr (pe_c c_require_there hr (by decide) (by rfl) (pa_cons (pv 2) (pa_cons (pv 1) pa_nil))))) pss_nil)
      (pss_cons (ps_set (i := 3) sc_children_of.nd rfl (Or.inr rfl) (pe_c c_all_parents hr (by decide) (by rfl) (pa_cons (pv 0) pa_nil)))
      (pss_one (ps_ret (pe_callTy call_tuple_of (by rfl) T.z_tuple (by decide +kernel) (pa_cons (pe_lc (own := [("one", 4)]) (by rfl) sc_children_of.nd (pi_tup (pv 2)) (blkOk_by (own := [("one", 4)]) (N := n_children_of) (sc := defScope s_children_of) (by decide +kernel)) (fun _ _ _ _ _ => (pg_name (i := 4) sc_children_of.nd rfl (Or.inl rfl))) (fun _ _ _ _ _ => (pts_one (pt_cmpR op_eq (pe_dget (hu_of hr) (pv 3) (pv 4) (fun _ _ => rfl)) (pv 1) (nomark _)))) (fun _ _ _ _ _ => (pv 4))) pa_nil)))))))
theorem ok_preorderL (T : Tx K mg) : ∀ n : Nat, Cal P w K mg base (1 + n) "_law_preorder" (sp_preorderL K n)
  | 0 => cal_false (ps := ["_law_wood_here"]) T.d_preorderL (fun _ _ _ _ _ _ us hl => match us, hl with | [_], _ => rfl) (fun vs H Q E h => none_preorderL vs H Q E h)
  | n + 1 => by
    have c_preorderL := ok_preorderL T n
    refine cal_of (t := t_preorderL n K) T.d_preorderL (fun _ _ _ _ _ _ us hl => match us, hl with | [_], _ => rfl) sc_preorderL (fun vs H Q E h => ?_) (fun cdv f A outer s H E hr => ?_) (fun vs H Q E h => pure_preorderL n vs H Q E h)
    · first | (obtain ⟨rfl, _⟩ := h; rfl) | (obtain ⟨_, rfl, _⟩ := h; rfl) | (obtain ⟨_, _, rfl, _⟩ := h; rfl) | (obtain ⟨_, _, _, rfl, _⟩ := h; rfl) | (obtain ⟨_, _, _, _, rfl, _⟩ := h; rfl) | (obtain ⟨_, _, _, _, _, rfl, _⟩ := h; rfl) | (obtain ⟨_, _, _, _, _, _, rfl, _⟩ := h; rfl) | (obtain ⟨_, _, _, _, _, _, _, rfl, _⟩ := h; rfl)
    · exact (pss_cons (ps_set (i := 1) sc_preorderL.nd rfl (Or.inl rfl) (pe_lst pa_nil))
      (pss_cons (ps_for PassesOwn.never rfl (pi_tup (pv 0)) (pg_tup rfl (pgs_cons (pg_name (i := 2) sc_preorderL.nd rfl (Or.inl rfl)) (pgs_cons (pg_name (i := 3) sc_preorderL.nd rfl (Or.inl rfl)) pgs_nil))) (pss_one (ps_set (i := 1) sc_preorderL.nd rfl (Or.inl rfl) (pe_op op_cat (pe_op op_cat (pv 1) (pe_lst (pa_cons (pv 2) pa_nil))) (pe_c c_preorderL hr (by first | exact Nat.le_refl _ | (show _ ≤ _ + n; omega)) (by rfl) (pa_cons (pv 3) pa_nil))))))
      (pss_one (ps_ret (pv 1)))))
theorem ok_kidsL (T : Tx K mg) : Cal P w K mg base 1 "_law_kids" (sp_kidsL K) := by
  refine cal_of (t := t_kidsL K) T.d_kidsL (fun _ _ _ _ _ _ us hl => match us, hl with | [_], _ => rfl) sc_kidsL (fun vs H Q E h => ?_) (fun cdv f A outer s H E hr => ?_) (fun vs H Q E h => pure_kidsL vs H Q E h)
  · first | (obtain ⟨rfl, _⟩ := h; rfl) | (obtain ⟨_, rfl, _⟩ := h; rfl) | (obtain ⟨_, _, rfl, _⟩ := h; rfl) | (obtain ⟨_, _, _, rfl, _⟩ := h; rfl) | (obtain ⟨_, _, _, _, rfl, _⟩ := h; rfl) | (obtain ⟨_, _, _, _, _, rfl, _⟩ := h; rfl) | (obtain ⟨_, _, _, _, _, _, rfl, _⟩ := h; rfl) | (obtain ⟨_, _, _, _, _, _, _, rfl, _⟩ := h; rfl)
  · exact (pss_cons (ps_set (i := 1) sc_kidsL.nd rfl (Or.inl rfl) (pe_disp (pps_cons pe_str (pe_lc (own := [("_law_tree", 5)]) (by rfl) sc_kidsL.nd (pi_tup (pv 0)) (blkOk_by (own := [("_law_tree", 5)]) (N := n_kidsL) (sc := defScope s_kidsL) (by decide +kernel)) (fun _ _ _ _ _ => (pg_name (i := 5) sc_kidsL.nd rfl (Or.inl rfl))) (fun _ _ _ _ _ => pts_nil) (fun _ _ _ _ _ => (pe_ix ix_tup (pv 5) pe_int (fun _ _ => rfl)))) pps_nil) (by rfl) (by rfl) (fun z => by cases z) (by decide)))
      (pss_cons (ps_set (i := 2) sc_kidsL.nd rfl (Or.inl rfl) (pe_callTy call_list_of (by rfl) T.z_list (by decide +kernel) (pa_cons (pv 0) pa_nil)))
      (pss_cons (ps_while PassesOwn.never (pt_cmpR (op_neE (hu_of hr)) (pv 2) (pe_lst pa_nil) (nomark _)) (pss_cons (ps_asg (pe_bm0 PySem.F.plainAttrs_list PySem.F.slot_list_pop PySem.F.type_list_pop mt_pop (pv 2)) (pg_tup rfl (pgs_cons (pg_name (i := 3) sc_kidsL.nd rfl (Or.inl rfl)) (pgs_cons (pg_name (i := 4) sc_kidsL.nd rfl (Or.inl rfl)) pgs_nil))))
      (pss_cons (ps_dput (hu_of hr) (pv 1) (pv 3) (pe_lc (own := [("_law_tree", 5)]) (by rfl) sc_kidsL.nd (pi_tup (pv 4)) (blkOk_by (own := [("_law_tree", 5)]) (N := n_kidsL) (sc := defScope s_kidsL) (by decide +kernel)) (fun _ _ _ _ _ => (pg_name (i := 5) sc_kidsL.nd rfl (Or.inl rfl))) (fun _ _ _ _ _ => pts_nil) (fun _ _ _ _ _ => (pe_ix ix_tup (pv 5) pe_int (fun _ _ => rfl)))) rfl)
      (pss_one (ps_expr (pe_bm PySem.F.plainAttrs_list PySem.F.slot_list_extend PySem.F.type_list_extend mt_extendT (pv 2) (pa_cons (pv 4) pa_nil)))))))
      (pss_one (ps_ret (pv 1))))))
theorem ok_law (T : Tx K mg) (c_deckL : Cal P w K mg base 1 "_law_deck" (sp_deckL K)) (c_kidsL : Cal P w K mg base 1 "_law_kids" (sp_kidsL K)) (c_pickL : Cal P w K mg base 2 "_law_pick" (sp_pickL K)) (c_preorderL : Cal P w K mg base 61 "_law_preorder" (sp_preorderL K 60)) (c_some_woodL : Cal P w K mg base 64 "_law_some_wood" (sp_some_woodL K)) (c_children_of : Cal P w K mg base 4 "children_of" (sp_children_of K)) (c_names_of : Cal P w K mg base 3 "names_of" (sp_names_of K)) (c_parent_of : Cal P w K mg base 4 "parent_of" (sp_parent_of K)) {f : Addr} {fd : FuncData} (F : FunD K "law" "law" (defArgs s_law) (defBody s_law) (defScope s_law) [] [] f fd) : FnG P w K mg base CX0 65 f fd ["_law_script"] (sp_law K) := by
  refine funD_okG F sc_law (fun vs H Q E h => ?_) (fun cdv A outer s H vs Q E hrG h => have hr := hrG.rm; ⟨t_law K, PSs.nox ?_, pure_law vs H Q E h⟩)
  · first | (obtain ⟨rfl, _⟩ := h; rfl) | (obtain ⟨_, rfl, _⟩ := h; rfl) | (obtain ⟨_, _, rfl, _⟩ := h; rfl) | (obtain ⟨_, _, _, rfl, _⟩ := h; rfl) | (obtain ⟨_, _, _, _, rfl, _⟩ := h; rfl) | (obtain ⟨_, _, _, _, _, rfl, _⟩ := h; rfl) | (obtain ⟨_, _, _, _, _, _, rfl, _⟩ := h; rfl) | (obtain ⟨_, _, _, _, _, _, _, rfl, _⟩ := h; rfl)
  · exact (pss_cons (ps_set (i := 1) sc_law.nd rfl (Or.inr rfl) (pe_c c_deckL hr (by decide) (by rfl) (pa_cons (pv 0) pa_nil)))
      (pss_cons (ps_set (i := 2) sc_law.nd rfl (Or.inl rfl) (pe_c c_some_woodL hr (by decide) (by rfl) (pa_cons (pv 1) pa_nil)))
      (pss_cons (ps_set (i := 3) sc_law.nd rfl (Or.inl rfl) (pe_c c_kidsL hr (by decide) (by rfl) (pa_cons (pv 2) pa_nil)))
      (pss_cons (ps_set (i := 4) sc_law.nd rfl (Or.inr rfl) (pe_c c_preorderL hr (by decide) (by rfl) (pa_cons (pv 2) pa_nil)))
      (pss_cons (ps_if (PW.pt (pw_or (pt_cmpR (op_neP (room_eq hr)) (pe_c c_names_of hr (by decide) (by rfl) (pa_cons (pv 2) pa_nil)) (pe_callTy call_tuple_of (by rfl) T.z_tuple (by decide +kernel) (pa_cons (pv 4) pa_nil)) (nomark _)) (pw_or1 (pt_cmpR (op_neP (room_eq hr)) (pe_c c_children_of hr (by decide) (by rfl) (pa_cons (pv 2) (pa_cons pe_non pa_nil))) (pe_callTy call_tuple_of (by rfl) T.z_tuple (by decide +kernel) (pa_cons (pe_dget (hu_of hr) (pv 3) pe_str (fun _ _ => rfl)) pa_nil)) (nomark _))))) (pss_one (ps_ret pe_bl)) pss_nil)
      (pss_cons (ps_set (i := 5) sc_law.nd rfl (Or.inl rfl) pe_dnewK)
      (pss_cons (ps_lock (ps_for PassesOwn.never rfl (pi_keysM (pv 3)) (pg_name (i := 6) sc_law.nd rfl (Or.inl rfl)) (pss_one (ps_for PassesOwn.never rfl (pi_list (pe_dget (hu_of hr) (pv 3) (pv 6) (fun _ _ => rfl))) (pg_name (i := 7) sc_law.nd rfl (Or.inl rfl)) (pss_one (ps_dput (hu_of hr) (pv 5) (pv 7) (pe_ifExp (pt_cmpR op_eq (pv 6) pe_str (nomark _)) pe_non (pv 6)) rfl))))))
      (pss_cons (ps_set (i := 8) sc_law.nd rfl (Or.inl rfl) (pv 4))
      (pss_cons (ps_if (pt_cmpR op_gt (pe_callB call_len_seq (by rfl) T.z_len (by decide +kernel) (pa_cons (pv 4) pa_nil)) pe_int (nomark _)) (pss_one (ps_setLc (i := 8) (own := [("_law_k", 10)]) (by rfl) sc_law.nd rfl rfl (sw_true rfl rfl rfl (by decide +kernel)) (pi_range1 (by rfl) T.z_range (pa_cons pe_int pa_nil)) (blkOk_by (own := [("_law_k", 10)]) (N := n_law) (sc := defScope s_law) (by decide +kernel)) (fun _ _ _ _ _ => (pg_name (i := 10) sc_law.nd rfl (Or.inl rfl))) (fun _ _ _ _ _ => pts_nil) (fun _ _ _ _ _ => (pe_c c_pickL hr (by decide) (by rfl) (pa_cons (pv 1) (pa_cons (pv 4) pa_nil)))))) pss_nil)
      (pss_cons (ps_for PassesOwn.never rfl (pi_list (pv 8)) (pg_name (i := 6) sc_law.nd rfl (Or.inl rfl)) (pss_cons (ps_if (pt_cmpR (op_neP (room_eq hr)) (pe_c c_children_of hr (by decide) (by rfl) (pa_cons (pv 2) (pa_cons (pv 6) pa_nil))) (pe_callTy call_tuple_of (by rfl) T.z_tuple (by decide +kernel) (pa_cons (pe_dget (hu_of hr) (pv 3) (pv 6) (fun _ _ => rfl)) pa_nil)) (nomark _)) (pss_one (ps_ret pe_bl)) pss_nil)
      (pss_cons (ps_set (i := 9) sc_law.nd rfl (Or.inl rfl) (pe_c c_parent_of hr (by decide) (by rfl) (pa_cons (pv 2) (pa_cons (pv 6) pa_nil))))
      (pss_one (ps_if (PW.pt (pw_or (PW.pt (pw_and (pt_cmpR op_isN1 (pe_dget (hu_of hr) (pv 5) (pv 6) (fun _ _ => rfl)) pe_non (nomark _)) (pw_and1 (pt_cmpR op_notN1 (pv 9) pe_non (nomark _))))) (pw_or1 (pt_cmpR op_ne (pv 9) (pe_dget (hu_of hr) (pv 5) (pv 6) (fun _ _ => rfl)) (nomark _))))) (pss_one (ps_ret pe_bl)) pss_nil)))))
      (pss_one (ps_ret pe_bl))))))))))))
theorem ok_all (T : Tx K mg) {f : Addr} {fd : FuncData} (F : FunD K "law" "law" (defArgs s_law) (defBody s_law) (defScope s_law) [] [] f fd) : FnG P w K mg base CX0 65 f fd ["_law_script"] (sp_law K) := by
  have c_deckL := ok_deckL (P := P) (w := w) (base := base) T
  have c_drawL := ok_drawL (P := P) (w := w) (base := base) T
  have c_pickL := ok_pickL (P := P) (w := w) (base := base) T c_drawL
  have c_nameL := ok_nameL (P := P) (w := w) (base := base) T c_drawL
  have c_namesL := ok_namesL (P := P) (w := w) (base := base) T c_drawL c_nameL
  have c_begin_of := ok_begin_of (P := P) (w := w) (base := base) T
  have c_end_of := ok_end_of (P := P) (w := w) (base := base) T
  have c_row_of := ok_row_of (P := P) (w := w) (base := base) T c_begin_of c_end_of
  have c_wood_ofL := ok_wood_ofL (P := P) (w := w) (base := base) T 60
  have c_woodL := ok_woodL (P := P) (w := w) (base := base) T c_drawL c_wood_ofL
  have c_tall_woodL := ok_tall_woodL (P := P) (w := w) (base := base) T c_drawL c_wood_ofL
  have c_wood_and_namesL := ok_wood_and_namesL (P := P) (w := w) (base := base) T c_drawL c_namesL c_tall_woodL c_woodL
  have c_some_woodL := ok_some_woodL (P := P) (w := w) (base := base) T c_wood_and_namesL
  have c_names_of := ok_names_of (P := P) (w := w) (base := base) T c_row_of
  have c_all_parents := ok_all_parents (P := P) (w := w) (base := base) T
  have c_require_there := ok_require_there (P := P) (w := w) (base := base) T
  have c_parent_of := ok_parent_of (P := P) (w := w) (base := base) T c_all_parents c_names_of c_require_there
  have c_children_of := ok_children_of (P := P) (w := w) (base := base) T c_all_parents c_names_of c_require_there
  have c_preorderL := ok_preorderL (P := P) (w := w) (base := base) T 60
  have c_kidsL := ok_kidsL (P := P) (w := w) (base := base) T
  exact ok_law T c_deckL c_kidsL c_pickL c_preorderL c_some_woodL c_children_of c_names_of c_parent_of F
end
/-! ### the head -/
def dd_deckL : He.DefD := ⟨("_law_deck", none), "_law_deck", "_law_deck", defArgs s_deckL, defBody s_deckL, defScope s_deckL, [], []⟩
def dd_drawL : He.DefD := ⟨("_law_draw", none), "_law_draw", "_law_draw", defArgs s_drawL, defBody s_drawL, defScope s_drawL, [], []⟩
def dd_pickL : He.DefD := ⟨("_law_pick", none), "_law_pick", "_law_pick", defArgs s_pickL, defBody s_pickL, defScope s_pickL, [], []⟩
def dd_nameL : He.DefD := ⟨("_law_name", none), "_law_name", "_law_name", defArgs s_nameL, defBody s_nameL, defScope s_nameL, [], []⟩
def dd_namesL : He.DefD := ⟨("_law_names", none), "_law_names", "_law_names", defArgs s_namesL, defBody s_namesL, defScope s_namesL, [], []⟩
def dd_begin_of : He.DefD := ⟨("begin_of", none), "begin_of", "begin_of", defArgs s_begin_of, defBody s_begin_of, defScope s_begin_of, [], []⟩
def dd_end_of : He.DefD := ⟨("end_of", none), "end_of", "end_of", defArgs s_end_of, defBody s_end_of, defScope s_end_of, [], []⟩
def dd_row_of : He.DefD := ⟨("row_of", none), "row_of", "row_of", defArgs s_row_of, defBody s_row_of, defScope s_row_of, [], []⟩
def dd_wood_ofL : He.DefD := ⟨("_law_wood_of", none), "_law_wood_of", "_law_wood_of", defArgs s_wood_ofL, defBody s_wood_ofL, defScope s_wood_ofL, [], []⟩
def dd_woodL : He.DefD := ⟨("_law_wood", none), "_law_wood", "_law_wood", defArgs s_woodL, defBody s_woodL, defScope s_woodL, [], []⟩
def dd_tall_woodL : He.DefD := ⟨("_law_tall_wood", none), "_law_tall_wood", "_law_tall_wood", defArgs s_tall_woodL, defBody s_tall_woodL, defScope s_tall_woodL, [], []⟩
def dd_wood_and_namesL : He.DefD := ⟨("_law_wood_and_names", none), "_law_wood_and_names", "_law_wood_and_names", defArgs s_wood_and_namesL, defBody s_wood_and_namesL, defScope s_wood_and_namesL, [], []⟩
def dd_some_woodL : He.DefD := ⟨("_law_some_wood", none), "_law_some_wood", "_law_some_wood", defArgs s_some_woodL, defBody s_some_woodL, defScope s_some_woodL, [], []⟩
def dd_names_of : He.DefD := ⟨("names_of", none), "names_of", "names_of", defArgs s_names_of, defBody s_names_of, defScope s_names_of, [], []⟩
def dd_all_parents : He.DefD := ⟨("all_parents", none), "all_parents", "all_parents", defArgs s_all_parents, defBody s_all_parents, defScope s_all_parents, [], []⟩
def dd_require_there : He.DefD := ⟨("require_there", none), "require_there", "require_there", defArgs s_require_there, defBody s_require_there, defScope s_require_there, [], []⟩
def dd_parent_of : He.DefD := ⟨("parent_of", none), "parent_of", "parent_of", defArgs s_parent_of, defBody s_parent_of, defScope s_parent_of, [], []⟩
def dd_children_of : He.DefD := ⟨("children_of", none), "children_of", "children_of", defArgs s_children_of, defBody s_children_of, defScope s_children_of, [], []⟩
def dd_preorderL : He.DefD := ⟨("_law_preorder", none), "_law_preorder", "_law_preorder", defArgs s_preorderL, defBody s_preorderL, defScope s_preorderL, [], []⟩
def dd_kidsL : He.DefD := ⟨("_law_kids", none), "_law_kids", "_law_kids", defArgs s_kidsL, defBody s_kidsL, defScope s_kidsL, [], []⟩
def dd_law : He.DefD := ⟨("law", none), "law", "law", defArgs s_law, defBody s_law, defScope s_law, [], []⟩
def fnD : List He.DefD := [dd_deckL, dd_drawL, dd_pickL, dd_nameL, dd_namesL, dd_begin_of, dd_end_of, dd_row_of, dd_wood_ofL, dd_woodL, dd_tall_woodL, dd_wood_and_namesL, dd_some_woodL, dd_names_of, dd_all_parents, dd_require_there, dd_parent_of, dd_children_of, dd_preorderL, dd_kidsL, dd_law]
def faD : List He.Fa := [.glo "_law_deck", .glo "_law_draw", .glo "_law_pick", .glo "_law_name", .glo "_law_names", .glo "begin_of", .glo "end_of", .glo "row_of", .glo "_law_wood_of", .glo "_law_wood", .glo "_law_tall_wood", .glo "_law_wood_and_names", .glo "_law_some_wood", .glo "names_of", .glo "all_parents", .glo "require_there", .glo "parent_of", .glo "children_of", .glo "_law_preorder", .glo "_law_kids", .glo "law", .free "abs", .free "int", .free "isinstance", .free "len", .free "list", .free "range", .free "str", .free "tuple"]
def chkD (K : PySem.W.Frag) : Bool := true
abbrev RR : PySem.W.OpenRow := PySem.W.OpenLaw.row PySem.Challenge.rw_twigscripts_k03_names_and_who_lies_in_wh
abbrev hkD : PySem.W.Hook := hookX 5 chkD faD fnD
def obD (s : PySem.W.SharedT) : AlX := obsXG 5 chkD faD fnD (HandSHeadRun.getT s)
theorem obD_eq (s : PySem.W.SharedT) : obD s = hkD.obs s.abs := obsXG_eq (HandSHeadRun.getT_eq s)
def looseD : List Str := ["begin_of", "end_of", "NoName", "row_of", "names_of", "all_parents", "require_there", "parent_of", "children_of", "_law_deck", "_law_wood_of", "_law_draw", "_law_wood", "_law_tall_wood", "_law_name", "_law_names", "_law_wood_and_names", "_law_some_wood", "_law_kids", "_law_pick", "_law_preorder"]
theorem runD (w : World) : HandSHeadRun.RunEq RR (PySem.W.view RR.prog [25]) hkD obD 4000 looseD w := by
  intro os
  kernel_rfl
theorem facts {P : Program} {w : World} {K : PySem.W.Frag} {h : Heap} {mg : Str → Option Value} {f : Addr} (X : K.In h) (G : h.Ns mainGlobals mg) (hfa : mg ("law" : Str) = some (.ref f)) (c : SaysX chkD faD fnD K) :
    ∃ fd : FuncData, (∀ (s : Shared) (v : Value), BindsTo s fd ⟨[v], []⟩ [("_law_script", v)]) ∧ ∀ base : Heap, K.In base → base.Ns mainGlobals mg → FnG P w K mg base CX0 65 f fd ["_law_script"] (sp_law K) := by
  obtain ⟨fd_deckL, F_deckL⟩ := c.d.def_ 0 (d := dd_deckL) rfl
  have g_deckL := He.glo_ok X G (c.d.fact 0 (f := .glo "_law_deck") rfl)
  obtain ⟨fd_drawL, F_drawL⟩ := c.d.def_ 1 (d := dd_drawL) rfl
  have g_drawL := He.glo_ok X G (c.d.fact 1 (f := .glo "_law_draw") rfl)
  obtain ⟨fd_pickL, F_pickL⟩ := c.d.def_ 2 (d := dd_pickL) rfl
  have g_pickL := He.glo_ok X G (c.d.fact 2 (f := .glo "_law_pick") rfl)
  obtain ⟨fd_nameL, F_nameL⟩ := c.d.def_ 3 (d := dd_nameL) rfl
  have g_nameL := He.glo_ok X G (c.d.fact 3 (f := .glo "_law_name") rfl)
  obtain ⟨fd_namesL, F_namesL⟩ := c.d.def_ 4 (d := dd_namesL) rfl
  have g_namesL := He.glo_ok X G (c.d.fact 4 (f := .glo "_law_names") rfl)
  obtain ⟨fd_begin_of, F_begin_of⟩ := c.d.def_ 5 (d := dd_begin_of) rfl
  have g_begin_of := He.glo_ok X G (c.d.fact 5 (f := .glo "begin_of") rfl)
  obtain ⟨fd_end_of, F_end_of⟩ := c.d.def_ 6 (d := dd_end_of) rfl
  have g_end_of := He.glo_ok X G (c.d.fact 6 (f := .glo "end_of") rfl)
  obtain ⟨fd_row_of, F_row_of⟩ := c.d.def_ 7 (d := dd_row_of) rfl
  have g_row_of := He.glo_ok X G (c.d.fact 7 (f := .glo "row_of") rfl)
  obtain ⟨fd_wood_ofL, F_wood_ofL⟩ := c.d.def_ 8 (d := dd_wood_ofL) rfl
  have g_wood_ofL := He.glo_ok X G (c.d.fact 8 (f := .glo "_law_wood_of") rfl)
  obtain ⟨fd_woodL, F_woodL⟩ := c.d.def_ 9 (d := dd_woodL) rfl
  have g_woodL := He.glo_ok X G (c.d.fact 9 (f := .glo "_law_wood") rfl)
  obtain ⟨fd_tall_woodL, F_tall_woodL⟩ := c.d.def_ 10 (d := dd_tall_woodL) rfl
  have g_tall_woodL := He.glo_ok X G (c.d.fact 10 (f := .glo "_law_tall_wood") rfl)
  obtain ⟨fd_wood_and_namesL, F_wood_and_namesL⟩ := c.d.def_ 11 (d := dd_wood_and_namesL) rfl
  have g_wood_and_namesL := He.glo_ok X G (c.d.fact 11 (f := .glo "_law_wood_and_names") rfl)
  obtain ⟨fd_some_woodL, F_some_woodL⟩ := c.d.def_ 12 (d := dd_some_woodL) rfl
  have g_some_woodL := He.glo_ok X G (c.d.fact 12 (f := .glo "_law_some_wood") rfl)
  obtain ⟨fd_names_of, F_names_of⟩ := c.d.def_ 13 (d := dd_names_of) rfl
  have g_names_of := He.glo_ok X G (c.d.fact 13 (f := .glo "names_of") rfl)
  obtain ⟨fd_all_parents, F_all_parents⟩ := c.d.def_ 14 (d := dd_all_parents) rfl
  have g_all_parents := He.glo_ok X G (c.d.fact 14 (f := .glo "all_parents") rfl)
  obtain ⟨fd_require_there, F_require_there⟩ := c.d.def_ 15 (d := dd_require_there) rfl
  have g_require_there := He.glo_ok X G (c.d.fact 15 (f := .glo "require_there") rfl)
  obtain ⟨fd_parent_of, F_parent_of⟩ := c.d.def_ 16 (d := dd_parent_of) rfl
  have g_parent_of := He.glo_ok X G (c.d.fact 16 (f := .glo "parent_of") rfl)
  obtain ⟨fd_children_of, F_children_of⟩ := c.d.def_ 17 (d := dd_children_of) rfl
  have g_children_of := He.glo_ok X G (c.d.fact 17 (f := .glo "children_of") rfl)
  obtain ⟨fd_preorderL, F_preorderL⟩ := c.d.def_ 18 (d := dd_preorderL) rfl
  have g_preorderL := He.glo_ok X G (c.d.fact 18 (f := .glo "_law_preorder") rfl)
  obtain ⟨fd_kidsL, F_kidsL⟩ := c.d.def_ 19 (d := dd_kidsL) rfl
  have g_kidsL := He.glo_ok X G (c.d.fact 19 (f := .glo "_law_kids") rfl)
  obtain ⟨fd_law, F_law⟩ := c.d.def_ 20 (d := dd_law) rfl
  have g_law := He.glo_ok X G (c.d.fact 20 (f := .glo "law") rfl)
  have ck := c.test
  have T : Tx K mg := ⟨He.free_ok X G (c.d.fact 21 (f := .free "abs") rfl), He.free_ok X G (c.d.fact 22 (f := .free "int") rfl), He.free_ok X G (c.d.fact 23 (f := .free "isinstance") rfl), He.free_ok X G (c.d.fact 24 (f := .free "len") rfl), He.free_ok X G (c.d.fact 25 (f := .free "list") rfl), He.free_ok X G (c.d.fact 26 (f := .free "range") rfl), He.free_ok X G (c.d.fact 27 (f := .free "str") rfl), He.free_ok X G (c.d.fact 28 (f := .free "tuple") rfl), ⟨_, _, F_deckL, g_deckL⟩, ⟨_, _, F_drawL, g_drawL⟩, ⟨_, _, F_pickL, g_pickL⟩, ⟨_, _, F_nameL, g_nameL⟩, ⟨_, _, F_namesL, g_namesL⟩, ⟨_, _, F_begin_of, g_begin_of⟩, ⟨_, _, F_end_of, g_end_of⟩, ⟨_, _, F_row_of, g_row_of⟩, ⟨_, _, F_wood_ofL, g_wood_ofL⟩, ⟨_, _, F_woodL, g_woodL⟩, ⟨_, _, F_tall_woodL, g_tall_woodL⟩, ⟨_, _, F_wood_and_namesL, g_wood_and_namesL⟩, ⟨_, _, F_some_woodL, g_some_woodL⟩, ⟨_, _, F_names_of, g_names_of⟩, ⟨_, _, F_all_parents, g_all_parents⟩, ⟨_, _, F_require_there, g_require_there⟩, ⟨_, _, F_parent_of, g_parent_of⟩, ⟨_, _, F_children_of, g_children_of⟩, ⟨_, _, F_preorderL, g_preorderL⟩, ⟨_, _, F_kidsL, g_kidsL⟩, ⟨_, _, F_law, g_law⟩⟩
  have e := hfa.symm.trans g_law
  cases e
  have b := FunD.bindsA (ps := ["_law_script"]) F_law fun _ _ _ _ _ _ us hl => match us, hl with | [_], _ => rfl
  exact ⟨fd_law, fun s v => b s [v] rfl, fun base _ _ => ok_all T F_law⟩

end Tw
open PySem PySem.W PySem.Calls PyProof.Rows
set_option maxHeartbeats 0 in
theorem PySem.Challenge.cw_twigscripts_k03_names_and_who_lies_in_wh_holds : PySem.Challenge.rw_twigscripts_k03_names_and_who_lies_in_wh.Holds := by
  w_on; o_law
  refine HandSHeadRun.head_any (r := OpenLaw.row PySem.Challenge.rw_twigscripts_k03_names_and_who_lies_in_wh) (q := view (OpenLaw.row PySem.Challenge.rw_twigscripts_k03_names_and_who_lies_in_wh).prog [25]) (H := Tw.hkD) (ob := Tw.obD) (M := 4000) (loose := Tw.looseD) (d := HandSHeadRun.topDef (OpenLaw.row PySem.Challenge.rw_twigscripts_k03_names_and_who_lies_in_wh).prog 25) (kwd := []) Tw.obD_eq
    (by kernel_rfl) (fun s => by kernel_rfl) Tw.runD (by kernel_rfl) (by kernel_rfl) (by kernel_rfl) (by rfl) (by first | assumption | decide +kernel) (by decide +kernel) ⟨rfl, rfl, rfl, rfl, rfl, by decide +kernel⟩ ?hw ?hc
  case hw => w_witness2
  case hc =>
    refine Tw.walk_ofG (l := PySem.Challenge.rw_twigscripts_k03_names_and_who_lies_in_wh) (n := 63) (k := 65) (x := "_law_script") (CX := L2.CX0) rfl (by decide) (by kernel_rfl) ⟨⟨rfl, by decide, by decide⟩, rfl⟩ ?F (fun _ _ _ _ z => z)
    intro w mg fa h Y G hmg0
    obtain ⟨K, KX, c⟩ := Y
    have hmg : mg ("law" : PySem.Str) = some (.ref fa) := by
      have e : (HandSHeadRun.topDef (OpenLaw.row PySem.Challenge.rw_twigscripts_k03_names_and_who_lies_in_wh).prog 25).name = ("law" : PySem.Str) := by kernel_rfl
      rw [← e]
      exact hmg0
    obtain ⟨fd, hb, hF⟩ := Tw.facts (P := (PySem.Challenge.rw_twigscripts_k03_names_and_who_lies_in_wh).prog) (w := w) KX G hmg c
    exact ⟨K, fd, Tw.sp_law K, KX, hb, fun H a ns hl _ hS => ⟨a, ns, rfl, hS, hl, fun _ => rfl⟩, hF⟩

