import PyProof.Rows.All
import Wide.All
import OpenK.AllK
import Wide.FinOn
import KE.KStateDown
import KE.DataEq
import Lean
import HandS.ForMost
import HandS.Flow
import HandS.Steps
import HandS.Style
import HandS.IsInst
import HandS.SetKeys
import HandS.TupAny
import HandS.Deep
import HandS.Walk
import HandS.Codes
import HandS.Defaults
import HandS.Head0
import HandS.Head1
import HandS.Head2
import HandS.HeadEnd
import HandS.HeadHook1
import HandS.HeadHook2
import KE.GoesMore
import HandS.FStrTup
import PySem.Challenge.RW_twigscripts_k16_what_is_no_script
set_option Elab.async false
set_option linter.all false
set_option maxRecDepth 100000
set_option maxHeartbeats 4000000
/-! names for the readings of the layer's rules -/
namespace Tw
open PySem PySem.Spec PyProof.Rows L2
def rAddI : R2 := rI0 fun i j => .int (i + j)
def rSubI : R2 := rI0 fun i j => .int (i - j)
def rMulI : R2 := rI CMul fun i j => .int (i * j)
def rDivI : R2 := rI CDiv fun i j => .int (i / j)
def rModI : R2 := rI (fun _ j => 0 < j) fun i j => .int (i % j)
def rPowI : R2 := rI CPow fun i j => .int (i ^ j.toNat)
def rNegI : V → Hp → VK → Prop := rU fun i => .int (-i)
def rLtI : R2 := rI0 fun i j => .bl (decide (i < j))
def rLeI : R2 := rI0 fun i j => .bl (decide (i ≤ j))
def rGtI : R2 := rI0 fun i j => .bl (decide (j < i))
def rGeI : R2 := rI0 fun i j => .bl (decide (j ≤ i))
def rLtS : R2 := fun x y H Q => ∃ i j, x = .str i ∧ y = .str j ∧ Q (.bl (decide (i.cps.toList < j.cps.toList))) H
def rAddS : R2 := fun x y H Q => ∃ i j, x = .str i ∧ y = .str j ∧ i.length + j.length ≤ sizeLine ∧ Q (.str (i ++ j)) H
def rAbs : List V → Hp → VK → Prop := fun xs H Q => ∃ i, xs = [.int i] ∧ Q (.int (if i < 0 then -i else i)) H
def rInt1 : List V → Hp → VK → Prop := fun xs H Q => (∃ i, xs = [.int i] ∧ Q (.int i) H) ∨ ∃ k, xs = [.bl k] ∧ Q (.int (if k then 1 else 0)) H
def rLenQ (K : PySem.W.Frag) : List V → Hp → VK → Prop := fun xs H Q => ∃ p ys, xs = [.ref p] ∧ (SqL K H p ys ∨ SqT K H p ys) ∧ Q (.int ys.length) H
def rLenS : List V → Hp → VK → Prop := fun xs H Q => ∃ z : Str, xs = [.str z] ∧ z.length ≤ sizeLine ∧ Q (.int z.length) H
def rLenD : List V → Hp → VK → Prop := fun xs H Q => ∃ a kvs, xs = [V.ref a] ∧ H a = some (.dK kvs) ∧ Q (.int kvs.length) H
def rLenV (K : PySem.W.Frag) : List V → Hp → VK → Prop := fun xs H Q => ∃ x n, xs = [x] ∧ LenV K x H n ∧ Q (.int n) H
def rTupOf (K : PySem.W.Frag) : List V → Hp → VK → Prop := fun xs H Q => ∃ p ys, xs = [.ref p] ∧ ((SqL K H p ys ∧ ∀ l, H l = none → Q (.ref l) (upd H l (.tup ys))) ∨ (SqT K H p ys ∧ Q (.ref p) H))
def rLstOf (K : PySem.W.Frag) : List V → Hp → VK → Prop := fun xs H Q => ∃ p ys, xs = [.ref p] ∧ (SqL K H p ys ∨ SqT K H p ys) ∧ ∀ l, H l = none → Q (.ref l) (upd H l (.lst ys))
def rJoin (K : PySem.W.Frag) : V → List V → Hp → VK → Prop := fun x xs H Q => ∃ a p, ∃ ys : List Str, x = .str a ∧ xs = [.ref p] ∧ (SqL K H p (ys.map V.str) ∨ SqT K H p (ys.map V.str)) ∧ (ys.map (·.length)).sum + ys.length * a.length ≤ 16777216 ∧ Q (.str (Txt.join a ys)) H
def rInsert : V → List V → Hp → VK → Prop := fun x vs H Q => ∃ (l : Addr) (xs : List V) (i : Int) (y : V), x = .ref l ∧ vs = [.int i, y] ∧ H l = some (.lst xs) ∧ xs.length < sizeLine ∧ 0 ≤ i ∧ i < 2 ^ 63 ∧ Q .non (upd H l (.lst (xs.take i.toNat ++ [y] ++ xs.drop i.toNat)))
def tTru (K : PySem.W.Frag) (ta : TE) : TT := fun σ H Q => ta σ H fun x H' => ∃ k, TruV K x H' k ∧ Q k H'
abbrev tDPut (td ty tv : TE) : TS := sDPut td ty tv
/-! ### a def of the top, called by its name -/
/-- the def st stands at the module's name x -/
def DefAt (K : PySem.W.Frag) (mg : Str → Option Value) (x : Str) (st : Stmt) : Prop := ∃ f fd, FunD K x x (defArgs st) (defBody st) (defScope st) [] [] f fd ∧ mg x = some (.ref f)
section
variable {P : Program} {w : World} {K : PySem.W.Frag} {mg : Str → Option Value} {base : Heap}
/-- a def that may be called by its name (it lets no exception out) -/
structure Cal (P : Program) (w : World) (K : PySem.W.Frag) (mg : Str → Option Value) (base : Heap) (k : Nat) (x : Str) (sp : Sp) : Prop where
  ex : ∃ (f : Addr) (fd : FuncData) (ps : List Str), FnOk P w K mg base CX0 k f fd ps sp ∧ mg x = some (.ref f) ∧ PySem.W.keepIn K (.ref f) = true ∧ Binds K fd ps []
theorem cal_of {x : Str} {st : Stmt} {N ps : List Str} {k : Nat} {sp : Sp} (D : DefAt K mg x st)
    (hb : ∀ (kV doc pm : Value) (an : Option Addr) (cdv ct : Value) (us : List Value), us.length = ps.length → bindArgs (PySem.W.fnOf x x (defArgs st) (defBody st) (defScope st) .none kV doc pm an cdv ct) ⟨us, []⟩ = pure (ps.zip us))
    (S : FnScope N ps (defScope st)) (len : ∀ vs H Q E, sp vs H Q E → vs.length = ps.length) {t : TS}
    (body : ∀ (cdv : Value) (f : Addr) (A : Around) (outer : List Env) (s : Shared) (H : Hp) (E : XK), Room k (A.deeper (envOfC x (defScope st) s.heap.objs.size f cdv)) →
      PSs (cxOf CX0 P w K mg base N x (defScope st) f cdv A outer s H E).nox (defBody st) t)
    (pure_ : ∀ (vs : List V) (H : Hp) (Q : VK) (E : XK), sp vs H Q E → t { nx := fun _ H' => Q .non H', rt := Q } (start N vs) H) : Cal P w K mg base (k + 1) x sp := by
  obtain ⟨f, fd, F, g⟩ := D
  exact ⟨f, fd, ps, F.ok S len fun cdv A outer s H vs Q E hr h => ⟨t, (body cdv f A outer s H E hr).nox, pure_ vs H Q E h⟩, g, F.kp, F.bindsN hb⟩
theorem cal_mono {x : Str} {k j : Nat} {sp : Sp} (c : Cal P w K mg base k x sp) (h : k ≤ j) : Cal P w K mg base j x sp := by
  obtain ⟨f, fd, ps, F, r⟩ := c.ex
  exact ⟨f, fd, ps, F.mono h, r⟩
theorem cal_imp {x : Str} {k : Nat} {sp sp' : Sp} (c : Cal P w K mg base k x sp) (h : ∀ vs H Q E, sp' vs H Q E → sp vs H Q E) : Cal P w K mg base k x sp' := by
  obtain ⟨f, fd, ps, F, r⟩ := c.ex
  exact ⟨f, fd, ps, F.imp h, r⟩
end
section
variable {X : Cx} {k j : Nat} {x : Str} {sp : Sp} {p pos : Pos} {e : Expr} {es : List Expr} {t : TA}
theorem pe_c (c : Cal X.prog X.w X.K X.mg X.base k x sp) (hr : Room j X.A) (hk : k ≤ j) (hg : Gl X x) (ha : PA X (e :: es) t)
    (hdb : (x == ("__debug__" : Str)) = false := by decide) (he : starEach (e :: es) X.env = (false, eval e X.env) :: starEach es X.env := by rfl) (hpl : (backTo pos (starEach es X.env)).any (·.1) = false := by rfl) :
    PE X (.Call (.Name x p) (e :: es) [] pos) (tCall sp [] E0 t) := by
  obtain ⟨f, fd, ps, F, hm, kp, b⟩ := c.ex
  exact pe_call F (hr.mono hk) hg hm kp b .nil pass0 ha hdb he hpl
theorem pe_c0 (c : Cal X.prog X.w X.K X.mg X.base k x sp) (hr : Room j X.A) (hk : k ≤ j) (hg : Gl X x) (hdb : (x == ("__debug__" : Str)) = false := by decide) :
    PE X (.Call (.Name x p) [] [] pos) (tCall sp [] E0 tNil) := by
  obtain ⟨f, fd, ps, F, hm, kp, b⟩ := c.ex
  exact pe_call0 F (hr.mono hk) hg hm kp b .nil pass0 hdb
/-- a module's constant -/
theorem pe_gc {v : V} (hg : Gl X x) (h : ∃ u, X.mg x = some u ∧ RelV v u) (hd : (x == ("__debug__" : Str)) = false := by decide) : PE X (.Name x pos) (tC v) := by
  obtain ⟨u, hm, r⟩ := h
  exact pe_glob hg hm r hd
end
/-! ### text * int -/
def rRepS : R2 := fun x y H Q => ∃ (z : Str) (n : Int), x = .str z ∧ y = .int n ∧ MulOk z n ∧ Q (.str (Txt.mul z n)) H
theorem op_repS {X : Cx} : OpR X (binaryOp .Mult) rRepS := by
  intro pins s σ H x y v u Q I rx ry h
  obtain ⟨z, n, rfl, rfl, ok, q⟩ := h
  obtain ⟨t, rfl⟩ := rx
  obtain ⟨t', rfl⟩ := ry
  obtain ⟨hp, g, d, tk, os⟩ := s
  exact SB.mul ok fun t2 k => ⟨.str _, H, I.tok _, ⟨_, rfl⟩, q⟩
/-! ### a text against a dict -/
theorem str_eq_declines_dict (b : Str) (u : Tok) (l : Addr) (o : Obj) (es : Array DictEntry) (n : Nat) (hd : o.data = .dict es n) (hc : o.cls = .type "dict") :
    Meets (Builtin.«str.__eq__» ⟨[.str b u, .ref l], []⟩) (fun _ R s => s.heap.get? l = some o ∧ R (.ok (.ret .notImplemented)) s) :=
  .of_wp fun prog w A R s h => by
    obtain ⟨hp, g, d, tk, os⟩ := s
    obtain ⟨hl, h⟩ := h
    obtain ⟨c, dd, dt, sl⟩ := o
    simp only at hd hc
    subst hd hc
    wp_walk using wpAny_loadPart' hl, wpAny_load hl
    exact ⟨_, rfl, h⟩
theorem dict_eq_declines_str (l : Addr) (o : Obj) (es : Array DictEntry) (n : Nat) (hd : o.data = .dict es n) (hc : o.cls = .type "dict") (b : Str) (u : Tok) :
    Meets (Builtin.«dict.__eq__» ⟨[.ref l, .str b u], []⟩) (fun _ R s => s.heap.get? l = some o ∧ R (.ok (.ret .notImplemented)) s) :=
  .of_wp fun prog w A R s h => by
    obtain ⟨hp, g, d, tk, os⟩ := s
    obtain ⟨hl, h⟩ := h
    obtain ⟨c, dd, dt, sl⟩ := o
    simp only at hd hc
    subst hd hc
    have f1 := F.sub_str_dict
    wp_walk using wpAny_loadPart' hl
    exact ⟨_, rfl, h⟩
section
variable {A : Around} {s : Shared}
theorem rc_str_dict {l : Addr} {o : Obj} (b : Str) (u : Tok) (es : Array DictEntry) (n : Nat) (ho : s.heap.get? l = some o) (hc : o.cls = .type "dict") (hd : o.data = .dict es n) (hu : A.units < cLine) : SeqAt.RcAt A s (.str b u) (.ref l) false := fun prog w E Q h =>
  SeqAt.rc_eq_decline_or (k := false) (typeIs_str s b u) ⟨_, ho, hc⟩ (by decide) F.sub_dict_str F.slot_str_eq F.slot_dict_eq_refl
    (fun _ hq => call_meets F.slot_str_eq (typeIs_str s b u) F.entry_str_eq (F.args_str_eq_2 _ _) (str_eq_declines_dict b u l o es n hd hc) ⟨ho, hq⟩)
    (fun _ hq => call_meets F.slot_dict_eq_refl ⟨_, ho, hc⟩ F.entry_dict_eq (F.args_dict_eq_2 _ _) (dict_eq_declines_str l o es n hd hc b u) ⟨ho, hq⟩)
    (fun _ hq => wpAny_of_eq (rfl : isSame (.str b u) (.ref l) = pure false) hq) (.inr hu) h
theorem eqAt_str_dict {l : Addr} {o : Obj} (b : Str) (u : Tok) (es : Array DictEntry) (n : Nat) (ho : s.heap.get? l = some o) (hc : o.cls = .type "dict") (hd : o.data = .dict es n) (hu : A.units < cLine) : SeqAt.EqAt A s (.str b u) (.ref l) false := fun prog w E Q h => by
  unfold eqBool
  refine wpAny_holding ?_
  refine wpAny_ite_split (fun hab => absurd (eq_of_beq hab) nofun) (fun _ => ?_)
  exact wpAny_bind (rc_str_dict b u es n ho hc hd hu prog w E _ (wpAny_truthy_bool h))
end
/-! ### any value, and whether it stands in a row of texts -/
inductive AV (K : PySem.W.Frag) (H : Hp) : V → Prop
  | non : AV K H .non
  | bl (b : Bool) : AV K H (.bl b)
  | int (i : Int) : AV K H (.int i)
  | str (x : Str) (sz : x.length ≤ sizeLine) : AV K H (.str x)
  | lst {a : Addr} {xs : List V} (h : SqL K H a xs) : AV K H (.ref a)
  | tup {a : Addr} {xs : List V} (h : SqT K H a xs) : AV K H (.ref a)
  | dct {a : Addr} {kvs : List (Key × V)} (h : H a = some (.dK kvs)) : AV K H (.ref a)
def inA (x : V) (ss : List Str) : Bool := match x with
  | .str z => ss.contains z
  | _ => false
def rInA (K : PySem.W.Frag) (neg : Bool) : R2 := fun x y H Q => ∃ p ss, y = .ref p ∧ (SqL K H p (ss.map V.str) ∨ SqT K H p (ss.map V.str)) ∧ AV K H x ∧ Q (.bl (if neg then !inA x ss else inA x ss)) H
def eqA (x : V) (u : Value) : Bool := match x, u with
  | .str z, .str y _ => y == z
  | _, _ => false
theorem any_eqA {x : V} : ∀ {ss : List Str} {us : List Value}, Vals (ss.map V.str) us → us.any (eqA x) = inA x ss
  | [], _, .nil => by cases x <;> rfl
  | z :: ss, _, .cons ⟨t, e⟩ r => by
    subst e
    rw [List.any_cons, any_eqA r]
    cases x with
    | str y =>
      show (z == y || ss.contains y) = (z :: ss).contains y
      rw [List.contains_cons]
      congr 1
      rw [Bool.eq_iff_iff, beq_iff_eq, beq_iff_eq]
      exact eq_comm
    | _ => rfl
theorem eqAt_any {X : Cx} {pins : List (Addr × Obj)} {σ : L2.St} {H : Hp} {s : Shared} {A : Around} {x : V} {v : Value} (I : Inv X pins σ H s) (rx : RelV x v) (h : AV X.K H x) (hu : A.units < cLine) :
    ∀ {ss : List Str} {us : List Value}, Vals (ss.map V.str) us → ∀ u ∈ us, SeqAt.EqAt A s u v (eqA x u)
  | [], _, .nil, _, hu' => by cases hu'
  | z :: ss, _, .cons ⟨t, e⟩ r, u, hu' => by
    rcases List.mem_cons.mp hu' with rfl | hm
    · subst e
      cases h with
      | non => cases rx; exact SeqAt.EqAt.str_none z t
      | bl b => cases rx; exact SeqAt.EqAt.str_bool z t b
      | int i => obtain ⟨t', rfl⟩ := rx; exact SeqAt.EqAt.str_int z t i t'
      | str y _ => obtain ⟨t', rfl⟩ := rx; exact SeqAt.EqAt.str_str z t y t'
      | lst h =>
        cases rx
        obtain ⟨its, _, pl, _⟩ := I.list h
        exact SeqAt.EqAt.str_list z t pl.isList hu
      | tup h =>
        cases rx
        obtain ⟨its, _, pl, _⟩ := I.tuple h
        exact SeqAt.EqAt.str_tuple z t pl hu
      | dct h =>
        cases rx
        obtain ⟨_, _, _, _, o, es, n, ho, ⟨hc, _⟩, hd, _⟩ := (show ObjOk X.prog X.w H s.heap _ (.dK _) from I.hok _ _ h)
        exact eqAt_str_dict z t es n ho hc hd hu
    · exact eqAt_any I rx h hu r u hm
section
variable {X : Cx}
theorem op_inA (hu : X.A.units + 1 < cLine) : OpR X (compareOp .In) (rInA X.K false) := by
  intro pins s σ H x y v u Q I rx ry h
  obtain ⟨p, ss, rfl, hq, hx, q⟩ := h
  cases ry
  rcases hq with hq | hq
  · obtain ⟨its, r, pl, hz⟩ := I.list hq
    refine SeqAt.in_listAt (eqA x) pl.isList (fun w hw => eqAt_any I rx hx hu r w (by simpa using hw)) ⟨.bl _, H, I, rfl, ?_⟩
    rw [show its.toArray.any (eqA x) = its.any (eqA x) by simp, any_eqA r]
    exact q
  · obtain ⟨its, r, pl, hz⟩ := I.tuple hq
    refine SeqAt.in_tupleAt (eqA x) pl (fun w hw => eqAt_any I rx hx hu r w (by simpa using hw)) ⟨.bl _, H, I, rfl, ?_⟩
    rw [show its.toArray.any (eqA x) = its.any (eqA x) by simp, any_eqA r]
    exact q
theorem op_notInA (hu : X.A.units + 1 < cLine) : OpR X (compareOp .NotIn) (rInA X.K true) := by
  intro pins s σ H x y v u Q I rx ry h
  obtain ⟨p, ss, rfl, hq, hx, q⟩ := h
  cases ry
  rcases hq with hq | hq
  · obtain ⟨its, r, pl, hz⟩ := I.list hq
    refine SeqAt.notIn_listAt (eqA x) pl.isList (fun w hw => eqAt_any I rx hx hu r w (by simpa using hw)) ⟨.bl _, H, I, rfl, ?_⟩
    rw [show its.toArray.any (eqA x) = its.any (eqA x) by simp, any_eqA r]
    exact q
  · obtain ⟨its, r, pl, hz⟩ := I.tuple hq
    refine SeqAt.notIn_tupleAt (eqA x) pl (fun w hw => eqAt_any I rx hx hu r w (by simpa using hw)) ⟨.bl _, H, I, rfl, ?_⟩
    rw [show its.toArray.any (eqA x) = its.any (eqA x) by simp, any_eqA r]
    exact q
end
/-! ### == of a list (tuple) and the empty one -/
def rEqE (K : PySem.W.Frag) : R2 := fun x y H Q => ∃ a b xs, x = .ref a ∧ y = .ref b ∧ ((SqL K H a xs ∧ SqL K H b []) ∨ (SqT K H a xs ∧ SqT K H b [])) ∧ Q (.bl xs.isEmpty) H
def rNeE (K : PySem.W.Frag) : R2 := fun x y H Q => ∃ a b xs, x = .ref a ∧ y = .ref b ∧ ((SqL K H a xs ∧ SqL K H b []) ∨ (SqT K H a xs ∧ SqT K H b [])) ∧ Q (.bl (!xs.isEmpty)) H
theorem vals_nil {us : List Value} (r : Vals [] us) : us = [] := by cases r; rfl
theorem vals_isEmpty {xs : List V} {us : List Value} (r : Vals xs us) : us.isEmpty = xs.isEmpty := by cases r <;> rfl
section
variable {X : Cx}
theorem op_eqE (hu : X.A.units + 1 < cLine) : OpR X (compareOp .Eq) (rEqE X.K) := by
  intro pins s σ H x y v u Q I rx ry h
  obtain ⟨a, b, xs, rfl, rfl, hq, q⟩ := h
  cases rx
  cases ry
  have hu0 : X.A.units < cLine := by omega
  rcases hq with ⟨h1, h2⟩ | ⟨h1, h2⟩
  · obtain ⟨its, r, pl, hz⟩ := I.list h1
    obtain ⟨its2, r2, pl2, hz2⟩ := I.list h2
    have e2 := vals_nil r2
    subst e2
    cases xs with
    | nil =>
      have e1 := vals_nil r
      subst e1
      exact SeqAt.eq_listAt (e := fun _ => true) pl.isList pl2.isList rfl hu0 (fun j h1 => absurd h1 (by simp)) ⟨.bl _, H, I, rfl, q⟩
    | cons x xs =>
      cases r with
      | cons r0 rs => exact SeqAt.eq_list_lengthsAt pl.isList pl2.isList (by simp) hu0 ⟨.bl _, H, I, rfl, q⟩
  · obtain ⟨its, r, pl, hz⟩ := I.tuple h1
    obtain ⟨its2, r2, pl2, hz2⟩ := I.tuple h2
    have e2 := vals_nil r2
    subst e2
    refine SeqAt.eq_tupleAt (e := fun _ => true) pl pl2 hu0 (fun j h1 h2 => absurd h2 (by simp)) ⟨.bl xs.isEmpty, H, I, ?_, q⟩
    have e : ((List.range (min its.toArray.size ([] : List Value).toArray.size)).all (fun _ => true) && its.toArray.size == ([] : List Value).toArray.size) = xs.isEmpty := by
      rw [← vals_isEmpty r]
      cases its <;> simp
    rw [e]
    rfl
theorem op_neE (hu : X.A.units + 1 < cLine) : OpR X (compareOp .NotEq) (rNeE X.K) := by
  intro pins s σ H x y v u Q I rx ry h
  obtain ⟨a, b, xs, rfl, rfl, hq, q⟩ := h
  cases rx
  cases ry
  have hu0 : X.A.units < cLine := by omega
  rcases hq with ⟨h1, h2⟩ | ⟨h1, h2⟩
  · obtain ⟨its, r, pl, hz⟩ := I.list h1
    obtain ⟨its2, r2, pl2, hz2⟩ := I.list h2
    have e2 := vals_nil r2
    subst e2
    cases xs with
    | nil =>
      have e1 := vals_nil r
      subst e1
      exact SeqAt.RcNeAt.lists (e := fun _ => true) pl.isList pl2.isList rfl hu0 (fun j h1 => absurd h1 (by simp)) _ _ _ _ ⟨.bl _, H, I, rfl, q⟩
    | cons x xs =>
      cases r with
      | cons r0 rs => exact SeqAt.RcNeAt.lists_lengths pl.isList pl2.isList (by simp) hu0 _ _ _ _ ⟨.bl _, H, I, rfl, q⟩
  · obtain ⟨its, r, pl, hz⟩ := I.tuple h1
    obtain ⟨its2, r2, pl2, hz2⟩ := I.tuple h2
    have e2 := vals_nil r2
    subst e2
    refine SeqAt.RcNeAt.tuples (e := fun _ => true) pl pl2 hu0 (fun j h1 h2 => absurd h2 (by simp)) _ _ _ _ ⟨.bl (!xs.isEmpty), H, I, ?_, q⟩
    have e : ((List.range (min its.toArray.size ([] : List Value).toArray.size)).all (fun _ => true) && its.toArray.size == ([] : List Value).toArray.size) = xs.isEmpty := by
      rw [← vals_isEmpty r]
      cases its <;> simp
    show Value.bool _ = Value.bool _
    first
      | (rw [e])
      | (congr 1; revert e; cases its <;> simp)
end
/-! ### == of data of any depth up to 180 -/
def rEqP (K : PySem.W.Frag) : R2 := fun x y H Q => ∃ d e, Dp K H x d ∧ Dp K H y e ∧ d.plain = true ∧ e.plain = true ∧ d.depth ≤ 190 ∧ Q (.bl (PyData.eqv d e)) H
def rNeP (K : PySem.W.Frag) : R2 := fun x y H Q => ∃ d e, Dp K H x d ∧ Dp K H y e ∧ d.plain = true ∧ e.plain = true ∧ d.depth ≤ 190 ∧ Q (.bl (!PyData.eqv d e)) H
section
variable {X : Cx}
theorem room_eq {k : Nat} {A : Around} (hr : Room k A) : A.units + 200 < cLine := by
  have := hr.un
  omega
theorem op_eqP (hu : X.A.units + 200 < cLine) : OpR X (compareOp .Eq) (rEqP X.K) := by
  intro pins s σ H x y v u Q I rx ry h
  obtain ⟨d, e, hd, he, pd, pe, dd, q⟩ := h
  obtain ⟨as, ra⟩ := Dp.reads I d x v hd rx
  obtain ⟨bs, rb⟩ := Dp.reads I e y u he ry
  exact SeqAt.eq_plain ra rb pd pe (by have := Nat.min_le_left d.depth e.depth; omega) ⟨.bl _, H, I, rfl, q⟩
theorem op_neP (hu : X.A.units + 200 < cLine) : OpR X (compareOp .NotEq) (rNeP X.K) := by
  intro pins s σ H x y v u Q I rx ry h
  obtain ⟨d, e, hd, he, pd, pe, dd, q⟩ := h
  obtain ⟨as, ra⟩ := Dp.reads I d x v hd rx
  obtain ⟨bs, rb⟩ := Dp.reads I e y u he ry
  exact SeqAt.ne_plain ra rb pd pe (by have := Nat.min_le_left d.depth e.depth; omega) ⟨.bl _, H, I, rfl, q⟩
end
/-! ### the head's facts, with a test of one's own -/
abbrev AlX : Type := Bool × He.AlD
def obsX (chk : PySem.W.Frag → Bool) (fa : List He.Fa) (fn : List He.DefD) (K : PySem.W.Frag) : AlX := (chk K, He.obsD fa fn K)
def valX (fn : List He.DefD) : AlX := (true, He.valD fn)
def SaysX (chk : PySem.W.Frag → Bool) (fa : List He.Fa) (fn : List He.DefD) (K : PySem.W.Frag) : Prop := obsX chk fa fn K = valX fn
def obsXG (n : Nat) (chk : PySem.W.Frag → Bool) (fa : List He.Fa) (fn : List He.DefD) (g : Addr → Option Obj) : AlX := obsX chk fa fn (He.frG g (He.asD g n))
def hookX (n : Nat) (chk : PySem.W.Frag → Bool) (fa : List He.Fa) (fn : List He.DefD) : PySem.W.Hook where
  α := AlX
  obs := fun s => obsXG n chk fa fn s.heap.get?
  val := fun _ => valX fn
  says := fun _ h => ∃ K : PySem.W.Frag, K.In h ∧ SaysX chk fa fn K
  of := fun _ _ e => ⟨_, He.frG_in, e⟩
  keeps := fun _ _ _ ⟨K, hK, c⟩ k => ⟨K, PySem.W.Frag.In.keeps hK k, c⟩
theorem obsXG_eq {n : Nat} {chk : PySem.W.Frag → Bool} {fa : List He.Fa} {fn : List He.DefD} {g : Addr → Option Obj} {s : Shared} (h : ∀ a, g a = s.heap.get? a) : obsXG n chk fa fn g = (hookX n chk fa fn).obs s := by
  have e : g = s.heap.get? := funext h
  rw [e] <;> rfl
section
variable {chk : PySem.W.Frag → Bool} {fa : List He.Fa} {fn : List He.DefD} {K : PySem.W.Frag}
theorem SaysX.d (c : SaysX chk fa fn K) : He.SaysD fa fn K := congrArg (fun z : AlX => z.2) c
theorem SaysX.test (c : SaysX chk fa fn K) : chk K = true := congrArg (fun z : AlX => z.1) c
end
end Tw

namespace Tw
open PySem PySem.Spec PyProof.Rows L2
/-! ### enumerate(tuple) -/
theorem meets_enumerate_newT (l : Addr) (o : Obj) (items : Array Value) (n : Nat) (hc : o.cls = .type "tuple") (hd : o.data = .seq items n) :
    Meets (Builtin.«enumerate.__new__» ⟨[.type "enumerate", .ref l], []⟩) (fun _ R s => s.heap.get? l = some o ∧
      R (.ok (.ret (.ref (s.heap.push { cls := .type "tuple_iterator", data := .fields #[.ref l, .int 0 0] }).objs.size)))
        { s with heap := (s.heap.push { cls := .type "tuple_iterator", data := .fields #[.ref l, .int 0 0] }).push { cls := .type "enumerate", data := .fields #[.none, .bool false, .ref s.heap.objs.size, rawInt 0, .none, .none] } }) :=
  .of_wp fun prog w A R s h => by
    obtain ⟨hp, g, d, tk, os⟩ := s
    obtain ⟨hl, h⟩ := h
    obtain ⟨c, dd, dt, sl⟩ := o
    simp only at hc hd
    subst hc hd
    have hsub := sub_enumerate
    have hL : Heap.IsTuple (Shared.heap ⟨hp, g, d, tk, os⟩) l items := ⟨_, hl, rfl, n, rfl⟩
    wp_walk using AutoSeq1.wpAny_loadPart' hl
    refine wpAny_stack_any fun st => wpAny_pure ?_
    split
    · rename_i c _ _ _ _ _
      cases (c == Value.type "enumerate")
      · wp_walk using AutoSeq1.wpAny_loadPart' hl, wpAny_pyIter_tuple hL
        exact ⟨_, rfl, h⟩
      · wp_walk using AutoSeq1.wpAny_loadPart' hl, wpAny_pyIter_tuple hL
        exact ⟨_, rfl, h⟩
    · wp_walk using AutoSeq1.wpAny_loadPart' hl, wpAny_pyIter_tuple hL
      exact ⟨_, rfl, h⟩
section
variable {prog : Program} {w : World} {A : Around} {E : Value → Shared → Prop} {s : Shared}
theorem call_enumerate_tuple {l : Addr} {items : Array Value} {Q : Value → Shared → Prop} (hL : s.heap.IsTuple l items)
    (h : ∀ h', IsEnum h' (s.heap.objs.size + 1) s.heap.objs.size 0 .none → h'.IsTupleIter s.heap.objs.size l 0 → h'.objs.size = s.heap.objs.size + 2 →
      (∀ b o, s.heap.get? b = some o → h'.get? b = some o) → Q (.ref (s.heap.objs.size + 1)) { s with heap := h' }) :
    wpAny (model prog w) A (call (.type "enumerate") [.ref l]) Q E s := by
  obtain ⟨o, hl, hc, n, hd⟩ := hL
  refine callType_new F.called_enumerate (by decide) (F.typeCall_enumerate_1 _) (F.newCall_enumerate_1 _) (fun obj => F.args_object_init_2 obj _) F.entry_enumerate_new
    (meets_enumerate_newT l o items n hc hd) ⟨hl, ?_⟩
  have hz : (s.heap.push { cls := .type "tuple_iterator", data := .fields #[.ref l, .int 0 0] }).objs.size = s.heap.objs.size + 1 := Heap.size_push ..
  show _ ∧ _
  rw [hz]
  have he : IsEnum ((s.heap.push { cls := .type "tuple_iterator", data := .fields #[.ref l, .int 0 0] }).push
      { cls := .type "enumerate", data := .fields #[.none, .bool false, .ref s.heap.objs.size, rawInt 0, .none, .none] }) (s.heap.objs.size + 1) s.heap.objs.size 0 .none := by
    have := Heap.get?_push_size (s.heap.push { cls := .type "tuple_iterator", data := .fields #[.ref l, .int 0 0] })
      (o := { cls := .type "enumerate", data := .fields #[.none, .bool false, .ref s.heap.objs.size, rawInt 0, .none, .none] }) rfl
    rw [hz] at this; exact this
  refine ⟨⟨_, he, rfl⟩, h _ he ⟨_, Heap.get?_push_of_some _ (Heap.get?_push_size _ rfl), rfl, rfl⟩ (by rw [Heap.size_push, hz]) fun b o x => Heap.get?_push_of_some _ (Heap.get?_push_of_some _ x)⟩
end
def IteT (K : PySem.W.Frag) (a : Addr) : It :=
  ⟨fun i H => ∃ (xs : List V) (x : V), SqT K H a xs ∧ xs[i]? = some x, fun i H v H' => ∃ T x, v = .ref T ∧ H T = none ∧ H' = upd H T (.tup [.int (i : Nat), x]) ∧ ∀ xs, SqT K H a xs → xs[i]? = some x, fun i H => ∃ xs : List V, SqT K H a xs ∧ xs.length ≤ i⟩
theorem turn_enumT {P : Program} {w : World} {K : PySem.W.Frag} {elts : List Expr} {kk : Nat} {tpos : Pos} (a e it : Addr) :
    Turn P w K (.Tuple elts kk tpos) (IteT K a) [e, it] e (fun i h => (∃ old, IsEnum h e it ((i : Nat) : Int) old) ∧ h.IsTupleIter it a i ∧ e ≠ it) where
  mem := by simp
  obj := fun i h st b hb => by
    obtain ⟨⟨old, he⟩, ⟨o, ho, hc, hd⟩, _⟩ := st
    have e' : b = e ∨ b = it := by simpa using hb
    rcases e' with z | z
    · rw [z]; exact ⟨_, he, fun v q => nomatch q⟩
    · rw [z]; exact ⟨o, ho, fun v q => by rw [hd] at q; cases q⟩
  keep := fun i h h' st k => let ⟨⟨old, he⟩, hi, hne⟩ := st; ⟨⟨old, k e (by simp) _ he⟩, hi.at fun o q => k it (by simp) o q, hne⟩
  item := by
    intro X hP hw hK hc i pins s σ H E I hf st hg
    subst hP hw hK
    obtain ⟨⟨old, he⟩, hit, hne⟩ := st
    obtain ⟨xs, x, hq, hx⟩ := hg
    obtain ⟨its, rv, p, hz⟩ := I.tuple hq
    obtain ⟨u, hu, ru⟩ := rv.get hx
    have hel : e < s.heap.objs.size := Heap.lt_size he
    have hil : it < s.heap.objs.size := by obtain ⟨_, q, _⟩ := hit; exact Heap.lt_size q
    have pT : s.heap.IsTuple a its.toArray := p
    have nai : a ≠ it := by
      rintro rfl
      obtain ⟨o1, h1, c1, _⟩ := hit
      obtain ⟨o2, h2, c2, _⟩ := pT
      rw [h1] at h2
      cases h2
      rw [c1] at c2
      exact absurd c2 (by decide)
    have nae : e ≠ a := by
      rintro rfl
      obtain ⟨o2, h2, c2, _⟩ := pT
      have h1 : s.heap.get? e = some _ := he
      rw [h1] at h2
      cases h2
      exact absurd c2 (by show ¬ Value.type "enumerate" = Value.type "tuple"; decide)
    have hin : i < its.toArray.size := by
      have := (List.getElem?_eq_some_iff.mp hu).1
      rw [List.size_toArray]
      exact this
    have hA : X.A.in1.handled = none := I.ok.hd hc
    refine wpAny_pyNext_enum_itemD (Draws.tuple (prog := X.prog) (w := X.w) (A := X.A.in1) hA it a nai its.toArray) he ⟨hit, pT⟩ hin hne (by simp [hne, nae]) fun x' h' tk hP' ho hit' hT hsz hk => ?_
    have ex : x' = u := by
      have : its.toArray[i]? = some u := by simpa using hu
      rw [this] at hP'
      exact (Option.some.inj hP').symm
    subst ex
    refine ⟨_, rfl, wpAny_letOwnedTupleGo_enum (s := { s with heap := h', toks := tk + 1 }) ho fun h'' he' sb => ?_⟩
    have hT2 : h''.get? s.heap.objs.size = some { cls := .type "tuple", data := .seq #[.int i tk, x'] } := (sb.2 _ (Nat.ne_of_gt hel)).trans hT
    have new : ObjOk X.prog X.w (upd H s.heap.objs.size (.tup [.int (i : Nat), x])) h'' s.heap.objs.size (.tup [.int (i : Nat), x]) :=
      ⟨by show 2 ≤ sizeLine; decide, [.int i tk, x'], .cons ⟨_, rfl⟩ (.cons ru .nil), ⟨_, hT2, rfl, _, rfl⟩⟩
    have I1 : Inv X pins σ (upd H s.heap.objs.size (.tup [.int (i : Nat), x])) { s with heap := h'', toks := tk + 1 } :=
      I.turnedNew (ch := [e, it]) (fun b ob hb q => (sb.2 b (fun z => hb (by simp [z]))).trans (hk b ob (fun z => hb (by simp [z])) (fun z => hb (by simp [z])) q)) hf (Nat.le_refl _) new
    refine ⟨.ref s.heap.objs.size, _, I1, rfl, ⟨_, x, rfl, I.hok.fresh (Nat.le_refl _), rfl, fun ys hy => by rw [I.tuple_inj hy hq]; exact hx⟩, ⟨⟨x', ?_⟩, hit'.1.at fun o q => (sb.2 it (Ne.symm hne)).trans q, hne⟩, fun b hb => ?_⟩
    · have e1 : ((i + 1 : Nat) : Int) = (i : Int) + 1 := by omega
      rw [e1]; exact he'
    · have hb' : b < s.heap.objs.size := by
        have e' : b = e ∨ b = it := by simpa using hb
        rcases e' with z | z
        · rw [z]; exact hel
        · rw [z]; exact hil
      rw [upd_ne (Nat.ne_of_lt hb')]
      exact (hf b hb).1
  done := by
    intro X hP hw hK hc i pins s σ H E I hf st hg
    subst hP hw hK
    obtain ⟨⟨old, he⟩, hit, hne⟩ := st
    obtain ⟨xs, hq, hx⟩ := hg
    obtain ⟨its, rv, p, hz⟩ := I.tuple hq
    obtain ⟨f0, f1, f2, f3, f4, f5⟩ := hf it (by simp)
    have hl := rv.length
    have pT : s.heap.IsTuple a its.toArray := p
    have hT : s.TypeIs (.ref e) "enumerate" := ⟨_, he, rfl⟩
    unfold pyNext
    refine wpAny_bind (wpAny_attempt (wpAny_callSpecial?_slot (name := Str.ofString "__next__") hT F.slot_enumerate_next
      (wpAny_call_entry F.slot_enumerate_next hT F.entry_enumerate_next ?_ (F.args_enumerate_next_1 _))))
    show wpAny _ _ (field (.ref e) 2 >>= _) _ _ _
    refine wpAny_bind (wpAny_field he rfl (x := .ref it) rfl ?_)
    have hA : X.A.in1.handled = none := I.ok.hd hc
    refine wpAny_bind (wpAny_nextOf_tuple_end hA hit pT (by simp; omega) fun h' x he' hx' => ?_)
    obtain ⟨o, ho, hc'⟩ := hx'
    refine wpAny_bind (wpAny_isInstance (T := "StopIteration") (b := true) ⟨o, ho, hc'⟩ isSubtype_stop ?_)
    exact wpAny_pure ⟨rfl, I.turned (t' := s.toks) (fun b o hb q => he' b o hb q) f0 f1 f3 f4 f5⟩
  self := fun A i s Q E st h => let ⟨⟨_, he⟩, _⟩ := st; wpAny_pyIter_enum he h
def iEnumT (K : PySem.W.Frag) (ta : TA) : TI := fun σ H R => ta σ H fun vs H1 => ∃ a xs, vs = [.ref a] ∧ SqT K H1 a xs ∧ R (IteT K a) H1
theorem pi_enumT {X : Cx} {e : Expr} {ta : TA} {p pos tpos : Pos} {elts : List Expr} {kk : Nat} (hg : Gl X "enumerate") (hm : X.mg "enumerate" = none) (ha : PA X [e] ta) (hs : starEach [e] X.env = [(false, eval e X.env)] := by rfl) :
    PI X (.Tuple elts kk tpos) (.Call (.Name "enumerate" p) [e] [] pos) (iEnumT X.K ta) := by
  refine ⟨fun pins s σ H R I h => ?_⟩
  refine Call_ (ld_blt I hg hm boot_enumerate (PyProof.Rows.callWith_type1 (thn (ha.run pos pins s σ H _ I h) fun us s1 ⟨vs, H1, I1, r1, q1⟩ => ?_) hs rfl))
  obtain ⟨a, xs, ex, hq, q⟩ := q1
  subst ex
  cases r1 with
  | cons r rr =>
    cases rr
    cases r
    obtain ⟨its, rv, p', hz⟩ := I1.tuple hq
    refine call_enumerate_tuple (show s1.heap.IsTuple a its.toArray from p') fun h' he hit hsz hk => wpAny_pyIter_enum he ?_
    have I2 : Inv X pins σ H1 { s1 with heap := h' } := I1.kept (t' := s1.toks) hk
    refine ⟨s1.heap.objs.size + 1, [s1.heap.objs.size + 1, s1.heap.objs.size], _, _, H1, rfl, I2, turn_enumT a (s1.heap.objs.size + 1) s1.heap.objs.size, ⟨⟨.none, he⟩, hit, Nat.succ_ne_self _⟩, fun b hb => ?_, q⟩
    have e' : b = s1.heap.objs.size + 1 ∨ b = s1.heap.objs.size := by simpa using hb
    have hle : s1.heap.objs.size ≤ b := by
      rcases e' with z | z
      · rw [z]; exact Nat.le_add_right _ _
      · rw [z]; exact Nat.le_refl _
    exact I1.fpOk hle (I1.hok.fresh hle)
theorem walk_enumT {K : PySem.W.Frag} {a : Addr} {xs : List V} : Walk (IteT K a) xs.length (fun H => SqT K H a xs) (YPair (fun i => some (.int (i : Nat))) (fun i => xs[i]?)) where
  goes := fun i H hi h => ⟨xs, xs[i], h, List.getElem?_eq_getElem hi⟩
  stops := fun H h => ⟨xs, h, Nat.le_refl _⟩
  yields := fun i H v H' hi h ⟨T, x, e1, e2, e3, e4⟩ => ⟨T, _, x, e1, e2, e3, rfl, e4 xs h⟩
/-! ### for a, b in e.items(), the dict made by e itself: it stands locked from then on -/
def iItemsF (td : TE) : TI := fun σ H R => td σ H fun x H1 => ∃ d kvs, x = .ref d ∧ H1 d = some (.dK kvs) ∧ ∀ o, R (Iti d o kvs) (upd H1 d (.frz o (.dK kvs)))
theorem pi_itemsF {X : Cx} {e : Expr} {td : TE} {apos cpos : Pos} {elts : List Expr} {kk : Nat} {tpos : Pos} (he : PE X e td) (hbase : attributeBase e "items" X.env (eval e X.env) = eval e X.env := by rfl) (hline : (apos.endLine == cpos.line) = true := by rfl) :
    PI X (.Tuple elts kk tpos) (.Call (.Attribute e "items" apos) [] [] cpos) (iItemsF td) := by
  refine ⟨fun pins s σ H R I h => ?_⟩
  refine wpAny_Call_method (T := "dict") (id := "dict.items") hbase rfl hline F.plainAttrs_dict F.slot_dict_items F.type_dict_items (thn (he.run pins s σ H _ I h) fun u s1 ⟨x, H1, I1, rx, d, kvs, ex, hd, q⟩ => ?_)
  subst ex
  obtain rfl : u = Value.ref d := rx
  obtain ⟨o, I1⟩ := I1.lock hd trivial
  have hd : (upd H1 d (.frz o (.dK kvs))) d = some (.frz o (.dK kvs)) := upd_same
  replace q := q o
  obtain ⟨hs, hgd, hx, es, ep, vs, hdt, hsz, kv, hm⟩ := I1.frzK hd
  have hl : kvs.length = vs.length := Paired.length kv
  refine ⟨hm.dictOf.typeIs, hm.dictOf.mapOf.noDict, ?_⟩
  have I2 : Inv X pins σ (upd H1 d (.frz o (.dK kvs))) { s1 with heap := s1.heap.push { cls := .type "dict_items", data := .fields #[.ref d] } } := I1.kept (t' := s1.toks) fun b ob q => Heap.get?_push_of_some _ q
  have fin : wpAny (model X.prog X.w) X.A (pyIter (.ref s1.heap.objs.size)) (PIE X pins σ (.Tuple elts kk tpos) R) X.xe { s1 with heap := s1.heap.push { cls := .type "dict_items", data := .fields #[.ref d] } } := by
    refine wpAny_pyIter_items (d := d) (knd := mixKind X.prog X.w) ⟨_, Heap.get?_push_size _ rfl, rfl, rfl⟩ (hm.push _) (pi_one (tk := s1.toks) I2 _ (turn_items _ hdt) ⟨.none, .none, ?_⟩ q)
    rw [hl]
    exact Heap.get?_push_size _ rfl
  show wpAny _ _ (callWith cpos (.builtin "dict.items") [.ref d] [] []) _ X.xe s1
  exact method_meetsIn F.slot_dict_items F.entry_dict_items rfl (PySem.evalArgs_none ⟨rfl, hm.dictOf.typeIs, F.args_dict_items_1 _, _, meets_dict_items (mixKind X.prog X.w) d hs, ⟨vs, hm.dictOf⟩, fin⟩)
/-! ### xs.extend(tuple) -/
theorem list_extend_tup (l : Addr) (items : Array Value) (n : Nat) (b : Addr) (o : Obj) (items2 : Array Value) (n2 : Nat) (hc : o.cls = .type "tuple") (hd : o.data = .seq items2 n2) (hs0 : ¬(!items.isEmpty && Builtin.List.listTooLong (items.size + items2.size)) = true) (hs1 : items.size ≤ sizeLine) (hs2 : items.size + items2.size ≤ sizeLine + 1) :
    Meets (Builtin.«list.extend» ⟨[.ref l, .ref b], []⟩) (fun _ R s => s.heap.get? l = some { cls := .type "list", dict := none, data := .seq items n, slots := #[] } ∧ s.heap.get? b = some o ∧ R (.ok (.ret Value.none)) { s with heap := s.heap.update l (Obj.mapSeq fun x => x ++ items2), toks := s.toks }) :=
  .of_wp fun prog w A R s h => by
    obtain ⟨hp, g, d, tk, os⟩ := s
    obtain ⟨hl, hb, h⟩ := h
    obtain ⟨c, dd, dt, sl⟩ := o
    simp only at hc hd
    subst hc hd
    have f1 := AutoSeq1.idx_int
    have f2 := AutoSeq1.sub_tuple_tuple
    have f3 := AutoSeq1.sub_list_list
    have f4 := AutoSeq1.sub_tuple_list
    have f5 := AutoSeq1.sub_list_tuple
    have hz' : (items ++ items2).size ≤ sizeLine + 1 := by rw [Array.size_append]; exact hs2
    wp_walk using (wpAny_updateSeq hl rfl (hz := hs1) (_hz' := hz')), AutoSeq1.wpAny_loadPart' hl, AutoSeq1.wpAny_loadPart' hb
    exact ⟨_, rfl, h⟩
def rExtendT (K : PySem.W.Frag) : V → List V → Hp → VK → Prop := fun x vs H Q => ∃ l b xs zs, x = .ref l ∧ vs = [.ref b] ∧ H l = some (.lst xs) ∧ SqT K H b zs ∧ xs.length + zs.length ≤ sizeLine ∧ Q .non (upd H l (.lst (xs ++ zs)))
theorem mt_extendT {X : Cx} : MtR X "list.extend" (rExtendT X.K) := by
  intro pins s σ H x vs v us Q I rx rv h
  obtain ⟨l, b, xs, zs, rfl, rfl, hH, hB, hz, q⟩ := h
  cases rx
  obtain ⟨u, rfl, ru⟩ := rv.one
  cases ru
  obtain ⟨z, its, n, r, hl, e⟩ := I.lstM hH
  obtain ⟨its2, r2, ⟨o, ho, hc, n2, hd⟩, hz2⟩ := I.tuple hB
  have hl2 := r2.length
  have hsz : its.toArray.size + its2.toArray.size ≤ sizeLine := by rw [List.size_toArray, List.size_toArray]; omega
  have hlong : ¬ (!its.toArray.isEmpty && Builtin.List.listTooLong (its.toArray.size + its2.toArray.size)) = true := by
    rw [notLongL hsz, Bool.and_false]
    exact Bool.false_ne_true
  refine call_meets F.slot_list_extend ⟨_, e, rfl⟩ F.entry_list_extend (F.args_list_extend_2 _ _)
    (list_extend_tup l its.toArray n b o its2.toArray n2 hc hd hlong (by rw [List.size_toArray]; omega) (by omega)) ⟨e, ho, ?_⟩
  refine ⟨.non, _, I.lset (its' := its ++ its2) hH e (by simp) (r.append r2) ?_, rfl, q⟩
  rw [List.length_append]
  omega
/-! ### t[::-1] -/
theorem adjust_rev (n : Nat) : Builtin.Slice.sliceAdjust none none (-1) (n : Int) = ((n : Int) - 1, -1) := by
  unfold Builtin.Slice.sliceAdjust
  simp
theorem places_rev (n : Nat) : Builtin.Slice.slicePlaces ((n : Int) - 1) (-1) (-1) = n := by
  unfold Builtin.Slice.slicePlaces
  rw [if_neg (by decide)]
  by_cases h : (n : Int) - 1 > -1
  · rw [if_pos h, show (- -1 : Int) = 1 by decide, Int.ediv_one]
    omega
  · rw [if_neg h]
    omega
theorem filterMap_same {α β : Type} {f g : α → Option β} : ∀ {l : List α}, (∀ k ∈ l, f k = g k) → l.filterMap f = l.filterMap g
  | [], _ => rfl
  | k :: r, h => by
    rw [List.filterMap_cons, List.filterMap_cons, h k List.mem_cons_self, filterMap_same fun j hj => h j (List.mem_cons_of_mem _ hj)]
theorem pick_rev (xs : Array Value) : ((List.range xs.size).filterMap fun (k : Nat) => xs[((xs.size : Int) - 1 + (k : Int) * (-1)).toNat]?).toArray = xs.toList.reverse.toArray := by
  have e : (List.range xs.size).filterMap (fun (k : Nat) => xs[((xs.size : Int) - 1 + (k : Int) * (-1)).toNat]?) = ((List.range xs.size).map fun k => xs.size - 1 - k).filterMap (xs[·]?) := by
    rw [List.filterMap_map]
    refine filterMap_same fun k hk => ?_
    have := List.mem_range.mp hk
    have e2 : ((xs.size : Int) - 1 + (k : Int) * (-1)).toNat = xs.size - 1 - k := by omega
    rw [e2]
    rfl
  rw [e, PySem.W.krv_range, List.filterMap_reverse, PySem.W.krv_all]
section
variable {prog : Program} {w : World} {A : Around} {E : Value → Shared → Prop} {s : Shared}
theorem sliceApplied_rev {sl : Addr} {vs : Value} {n : Nat} {Q : Int × Int × Nat → Shared → Prop} (hs : s.heap.IsSliceOf sl .none .none vs) (ps : IsPart vs (some (-1)))
    (h : Q ((n : Int) - 1, -1, n) s) : wpAny (model prog w) A (Builtin.Slice.sliceApplied (.ref sl) (pure (n : Int))) Q E s := by
  obtain ⟨os, hos, hcs, hds⟩ := id hs
  unfold Builtin.Slice.sliceApplied Builtin.Slice.sliceFields
  refine wpAny_bind (wpAny_bind (wpAny_field hos hds (x := .none) rfl (wpAny_bind (wpAny_field hos hds (x := .none) rfl (wpAny_bind (wpAny_field hos hds (x := vs) rfl (wpAny_pure ?_)))))))
  refine wpAny_bind (HT.slicePart_ ps ?_)
  show wpAny _ _ (if ((-1 : Int) == 0) = true then _ else _) _ _ s
  rw [if_neg (by decide)]
  refine wpAny_bind (slicePart_none (wpAny_bind (slicePart_none (wpAny_bind (wpAny_pure ?_)))))
  show wpAny _ _ (match Builtin.Slice.sliceAdjust none none (-1) (n : Int) with | (lo, hi) => pure (lo, (-1 : Int), Builtin.Slice.slicePlaces lo hi (-1))) _ _ s
  rw [adjust_rev n]
  show wpAny _ _ (pure ((n : Int) - 1, (-1 : Int), Builtin.Slice.slicePlaces ((n : Int) - 1) (-1) (-1))) _ _ s
  rw [places_rev]
  exact wpAny_pure h
theorem getItem_tuple_rev {t sl : Addr} {items : Array Value} {vs : Value} {Q : Value → Shared → Prop} (ht : IsTup s.heap t items) (hs : s.heap.IsSliceOf sl .none .none vs) (ps : IsPart vs (some (-1)))
    (h : Q (.ref s.heap.objs.size) { s with heap := s.heap.push { cls := .type "tuple", data := .seq items.toList.reverse.toArray } })
    (hsz : items.size ≤ sizeLine) : wpAny (model prog w) A (getItem (.ref t) (.ref sl)) Q E s := by
  have htake : sizeOk (.seq items.toList.reverse.toArray) := by
    show items.toList.reverse.toArray.size ≤ sizeLine
    rw [List.size_toArray, List.length_reverse, Array.length_toList]
    exact hsz
  obtain ⟨os, hos, hcs, hds⟩ := id hs
  have hTs : s.TypeIs (.ref sl) "slice" := ⟨os, hos, hcs⟩
  unfold getItem
  try with_reducible refine wpAny_holding ?_
  first | refine wpAny_bind (wpAny_pure ?_) | skip
  refine wpAny_bind (wpAny_sequenceKey ht.typeIs (by decide) ?_)
  refine wpAny_bind (wpAny_callSpecial?_slot (name := Str.ofString "__getitem__") ht.typeIs PyProof.Rows.slot_tuple_getitem
    (wpAny_call_entry PyProof.Rows.slot_tuple_getitem ht.typeIs entry_tuple_getitem ?_ (args_tuple_getitem _ _)))
  show wpAny _ _ (Builtin.Tuple.tupleItemsOf (.ref t) >>= _) _ _ s
  refine wpAny_bind (tupleItemsOf_ ht ?_)
  refine wpAny_bind (wpAny_typeOf hTs ?_)
  rw [if_pos (by decide)]
  refine wpAny_bind (sliceApplied_rev hs ps ?_)
  have hno : ¬ (((items.size : Int) - 1 == 0 && (-1 : Int) == 1 && items.size == items.size) = true) := by
    intro q
    rw [Bool.and_eq_true, Bool.and_eq_true] at q
    exact absurd q.1.2 (by decide)
  show wpAny _ _ (if ((items.size : Int) - 1 == 0 && (-1 : Int) == 1 && items.size == items.size) = true then _ else _) _ _ s
  rw [if_neg hno, pick_rev]
  first
    | exact wpAny_bind (m := Builtin.Tuple.tupleExact _) (wpAny_newObj_type (wpAny_pure ⟨_, rfl, wpAny_pure h⟩) htake)
    | exact wpAny_bind (m := Builtin.Tuple.tupleExact _) (wpAny_newObj_type (wpAny_bind (wpAny_pure (wpAny_pure ⟨_, rfl, wpAny_pure h⟩))) htake)
    | exact wpAny_bind (wpAny_bind (m := Builtin.Tuple.tupleExact _) (wpAny_newObj_type (wpAny_pure (wpAny_pure ⟨_, rfl, wpAny_pure h⟩)) htake))
    | exact wpAny_bind (wpAny_bind (m := Builtin.Tuple.tupleExact _) (wpAny_newObj_type (wpAny_pure ⟨_, rfl, wpAny_pure h⟩) htake))
end
def tRevT (K : PySem.W.Frag) (te : TE) : TE := fun σ H Q => te σ H fun x H1 => ∃ a xs, x = .ref a ∧ SqT K H1 a xs ∧ ∀ p, H1 p = none → Q (.ref p) (upd H1 p (.tup xs.reverse))
theorem pe_revT {X : Cx} {e : Expr} {te : TE} {k : Nat} {p1 p2 p3 pos : Pos} (he : PE X e te) : PE X (.Subscript e (.Slice none none (some (.UnaryOp .USub (.Constant (.int 1) k p1) p2)) p3) pos) (tRevT X.K te) := by
  refine ⟨fun pins s σ H Q I h => ?_⟩
  refine Subscript_ (thn (he.run pins s σ H _ I h) fun v s1 ⟨x, H1, I1, r1, q1⟩ => ?_)
  obtain ⟨a, xs, ex, hx, q⟩ := q1
  subst ex
  cases r1
  have hst : PO X (some (.UnaryOp .USub (.Constant (.int 1) k p1) p2)) (tPart (tUn (rU fun i => .int (-i)) (tC (.int 1)))) := po_some (pe_un un_neg pe_int)
  refine wpAny_Slice (thn (po_none.run pins s1 σ H1 (fun o H2 => o = none ∧ H2 = H1) I1 ⟨rfl, rfl⟩) fun vl s2 ⟨l, H2, I2, pl, el, e2⟩ => ?_)
  subst el e2
  refine thn (po_none.run pins s2 σ H2 (fun o H3 => o = none ∧ H3 = H2) I2 ⟨rfl, rfl⟩) fun vu s3 ⟨u, H3, I3, pu, eu, e3⟩ => ?_
  subst eu e3
  refine thn (hst.run pins s3 σ H3 (fun o H4 => o = some (-1) ∧ H4 = H3) I3 ⟨1, rfl, -1, rfl, rfl, rfl⟩) fun vs s4 ⟨o, H4, I4, ps, eo, e4⟩ => ?_
  subst eo e4
  have I5 : Inv X pins σ H4 { s4 with heap := s4.heap.push { cls := .type "slice", data := .fields #[vl, vu, vs] } } := I4.kept (t' := s4.toks) fun b ob q => Heap.get?_push_of_some _ q
  obtain ⟨its, r, ht, hz⟩ := I5.tuple hx
  have hlen := r.length
  cases pl
  cases pu
  show wpAny (model X.prog X.w) X.A (subscriptTail e (.Slice none none (some (.UnaryOp .USub (.Constant (.int 1) k p1) p2)) p3) (.ref a) (.ref s4.heap.objs.size)) (EP X pins σ Q) X.xe { s4 with heap := s4.heap.push { cls := .type "slice", data := .fields #[.none, .none, vs] } }
  refine tail_any (ops := [.ref a, .ref s4.heap.objs.size]) ht.typeIs (PyProof.Rows.slot_tuple_getitem.lookup) ?_ (by with_unfolding_all rfl)
  refine getItem_tuple_rev ht (Heap.IsSliceOf.new _ .none .none vs) ps ?_ (by rw [List.size_toArray]; omega)
  refine ⟨.ref _, _, I5.laid (t' := s4.toks) (o := .tup xs.reverse) (fun b ob q => Heap.get?_push_of_some _ q) (Nat.le_refl _) ?_, rfl, q _ (I5.hok.fresh (Nat.le_refl _))⟩
  exact ⟨by rw [List.length_reverse]; exact hz, _, r.reverse, _, Heap.get?_push_size _ rfl, rfl, _, rfl⟩
end Tw

namespace Tw
open PySem PySem.Spec PyProof.Rows L2
/-! ### defs that are called while no repr is under way -/
/-- room, and nothing under way -/
structure Rm (k : Nat) (A : Around) : Prop where
  rm : Room k A
  gd : A.guards = some []
theorem Rm.mono {j k : Nat} {A : Around} (r : Rm k A) (h : j ≤ k) : Rm j A := ⟨r.rm.mono h, r.gd⟩
theorem Rm.deep {k : Nat} {A : Around} (r : Rm (k + 1) A) (env : Env) : Rm k (A.deeper env) := ⟨r.rm.deeper env, r.gd⟩
structure FnG (P : Program) (w : World) (K : PySem.W.Frag) (mg : Str → Option Value) (base : Heap) (CX : CXT) (k : Nat) (f : Addr) (fd : FuncData) (ps : List Str) (sp : Sp) : Prop where
  ln : ∀ vs H Q E, sp vs H Q E → vs.length = ps.length
  go : ∀ (A : Around) (outer : List Env) (s : Shared) (H : Hp) (args : Args) (us : List Value) (vs : List V) (Q : VK) (E : XK), Rm k A → Env0 P w K mg base A outer s H → BindsTo s fd args (ps.zip us) → Vals vs us → sp vs H Q E →
    codeAny (model P w) A (.call (.ref f) args) (CR CX outer P w H s Q E) s
section
variable {P : Program} {w : World} {K : PySem.W.Frag} {mg : Str → Option Value} {base : Heap} {CX : CXT} {k : Nat} {f : Addr} {fd : FuncData} {N ps : List Str} {sp : Sp}
theorem FnG.mono {j : Nat} (F : FnG P w K mg base CX j f fd ps sp) (h : j ≤ k) : FnG P w K mg base CX k f fd ps sp :=
  ⟨F.ln, fun A outer s H args us vs Q E r => F.go A outer s H args us vs Q E (r.mono h)⟩
theorem FnG.imp {sp' : Sp} (F : FnG P w K mg base CX k f fd ps sp) (h : ∀ vs H Q E, sp' vs H Q E → sp vs H Q E) : FnG P w K mg base CX k f fd ps sp' :=
  ⟨fun vs H Q E q => F.ln vs H Q E (h vs H Q E q), fun A outer s H args us vs Q E r e b v q => F.go A outer s H args us vs Q E r e b v (h vs H Q E q)⟩
theorem fnG_of {name qual : Str} {params : Arguments} {body : List Stmt} {scope : Scope} {dV kV doc pm cdv ct oc : Value} {an od : Option Addr} {osl : Array (Option Value)}
    (lk : K.lookup f = some ⟨oc, od, .func (PySem.W.fnOf name qual params body scope dV kV doc pm an cdv ct), osl⟩) (hcd : PySem.W.codeIn K cdv qual = true) (S : FnScope N ps scope) (ln : ∀ vs H Q E, sp vs H Q E → vs.length = ps.length)
    (hbody : ∀ (A : Around) (outer : List Env) (s : Shared) (H : Hp) (vs : List V) (Q : VK) (E : XK), Rm k (A.deeper (envOfC qual scope s.heap.objs.size f cdv)) → sp vs H Q E →
      ∃ t, PSs (cxOf CX P w K mg base N qual scope f cdv A outer s H E) body t ∧ t { nx := fun _ H' => Q .non H', rt := Q } (start N vs) H) :
    FnG P w K mg base CX (k + 1) f (PySem.W.fnOf name qual params body scope dV kV doc pm an cdv ct) ps sp := by
  constructor
  · exact ln
  intro A outer s H args us vs Q E rm env0 hbind rv hsp
  have vl := ln _ _ _ _ hsp
  have kin : K.In s.heap := env0.mod.kin.keeps fun z y q => (env0.bs z y q).1
  have nol : s.heap.NoLimit := env0.mod.nolimit.keeps fun z y q => (env0.bs z y q).1
  have kinds : ∀ z ∈ ps.zip us, scope.names.lookup z.1 = some .local ∨ (scope.names.lookup z.1 = some .cell ∧ ((cellsFrom (s.heap.objs.size + 1) scope.names []).lookup z.1).isSome = true) := by
    rintro ⟨n, v⟩ hz
    exact (S.par n (List.of_mem_zip hz).1).imp id fun c => ⟨c, PySem.W.cellsFrom_some _ _ _ (.inl c)⟩
  refine codeAny_call_function rm.rm.depth (kin _ _ lk) rfl S.co S.gen rfl (PySem.W.codeRec_of kin hcd) ?_
  refine hbind _ _ _ _ (wpAny_newFunctionEnv_cells S.kind kinds ?_)
  rintro env rfl s1 x
  obtain ⟨t, der, prem⟩ := hbody A outer s H vs Q E (rm.deep _) hsp
  have inv : Inv (cxOf CX P w K mg base N qual scope f cdv A outer s H E) [] (start N vs) H s1 := inv_start S rm.rm.hd env0 vl rv x
  refine ⟨nol.keeps x.toInCall.keep, codeAny_func (wpAny_mono (der.run [] s1 (start N vs) H _ inv prem) ?_ fun _ _ q => q)⟩
  intro fl s' hs
  cases fl with
  | brk => exact absurd hs fun ⟨_, _, _, q⟩ => q
  | cont => exact absurd hs fun ⟨_, _, _, q⟩ => q
  | next =>
    obtain ⟨_, H', J, q⟩ := hs
    exact ⟨V.non, H', J.os, J.bare, J.base, J.hok, rfl, q⟩
  | ret u =>
    obtain ⟨v, _, H', J, rv, q⟩ := hs
    exact ⟨v, H', J.os, J.bare, J.base, J.hok, rv, q⟩
theorem funD_okG {x qual : Str} {params : Arguments} {body : List Stmt} {scope : Scope} (F : FunD K x qual params body scope [] [] f fd) (S : FnScope N ps scope) (ln : ∀ vs H Q E, sp vs H Q E → vs.length = ps.length)
    (hbody : ∀ (cdv : Value) (A : Around) (outer : List Env) (s : Shared) (H : Hp) (vs : List V) (Q : VK) (E : XK), Rm k (A.deeper (envOfC qual scope s.heap.objs.size f cdv)) → sp vs H Q E →
      ∃ t, PSs (cxOf CX P w K mg base N qual scope f cdv A outer s H E) body t ∧ t { nx := fun _ H' => Q .non H', rt := Q } (start N vs) H) : FnG P w K mg base CX (k + 1) f fd ps sp := by
  obtain ⟨oc, od, dV, kV, doc, pm, an, cdv, ct, osl, rfl, lk, hcd, _, _⟩ := F.ex
  exact fnG_of lk hcd S ln (hbody cdv)
end
section
variable {X : Cx} {CX : CXT} {k : Nat} {f : Addr} {fd : FuncData} {ps : List Str} {sp : Sp} {E : XK} {x : Str} {p pos : Pos} {e : Expr} {es : List Expr} {t : TA}
theorem run_fnG {pins : List (Addr × Obj)} {σ : L2.St} {H : Hp} {s : Shared} {Q : VK} {us : List Value} {vs : List V} (F : FnG X.prog X.w X.K X.mg X.base CX k f fd ps sp) (hr : Rm k X.A) (hb : Binds X.K fd ps []) (hx : Passes CX X E)
    (I : Inv X pins σ H s) (rv : Vals vs us) (h : sp vs H Q E) : wpAny (model X.prog X.w) X.A (call (.ref f) us) (EP X pins σ Q) X.xe s := by
  have hl : us.length = ps.length := rv.length.symm.trans (F.ln _ _ _ _ h)
  have hb' := hb s us I.kIn (by rw [List.append_nil]; exact hl)
  rw [List.append_nil] at hb'
  refine wpAny_call (codeAny_mono (F.go X.A X.stack s H ⟨us, []⟩ us vs Q E hr I.env0 hb' rv h) ?_)
  intro r s' q
  match r, q with
  | .error e, q => exact hx pins σ H s e s' I q
  | .ok (.ret u), q => exact I.after q
theorem pe_cG (F : FnG X.prog X.w X.K X.mg X.base CX k f fd ps sp) (hr : Rm k X.A) (hg : Gl X x) (hm : X.mg x = some (.ref f)) (hk : PySem.W.keepIn X.K (.ref f) = true) (hb : Binds X.K fd ps []) (hx : Passes CX X E)
    (ha : PA X (e :: es) t) (hdb : (x == ("__debug__" : Str)) = false := by decide) (he : starEach (e :: es) X.env = (false, eval e X.env) :: starEach es X.env := by rfl) (hpl : (backTo pos (starEach es X.env)).any (·.1) = false := by rfl) :
    PE X (.Call (.Name x p) (e :: es) [] pos) (tCall sp [] E t) := by
  constructor
  intro pins s σ H Q I h
  refine wpAny_Call_Name_kw (ld_glob I hg hm (PySem.W.callWith_K (h₀ := X.base) I.ok.mod.kin hk (thn (ha.run pos pins s σ H _ I h) ?_) he hpl) hdb)
  rintro us s1 ⟨vs, H1, I1, r, q⟩
  rw [List.append_nil] at q
  exact ⟨I1.kIn, run_fnG F hr hb hx I1 r q⟩
end
/-! ### the law, called by the claim's caller -/
theorem law_callG {P : Program} {w : World} {K : PySem.W.Frag} {mg mb : Str → Option Value} {CX : CXT} {k : Nat} {fa a : Addr} {fd : FuncData} {x : Str} {sp : Sp} {s₁ : Shared} {vs : List Value} {ns : List Int}
    (kin : K.In s₁.heap) (gns : s₁.heap.Ns mainGlobals mg) (bns : s₁.heap.Ns builtinsNs mb) (bmb : ∀ x : Str, x ≠ "__name__" → mb x = bootBuiltins x) (nol : s₁.heap.NoLimit) (g0 : s₁.gens = #[])
    (ha : s₁.heap.get? a = some { cls := .type "list", data := .seq vs.toArray }) (ia : IntsAre vs ns) (few : ns.length ≤ sizeLine) (rm : Rm k callerA)
    (F : ∀ base : Heap, K.In base → base.Ns mainGlobals mg → FnG P w K mg base CX k fa fd [x] sp) (bnd : ∀ (s : Shared) (u : Value), BindsTo s fd ⟨[u], []⟩ [(x, u)])
    (hsp : ∀ H : Hp, Only H → SqL K H a (ns.map V.int) → sp [.ref a] H (fun v _ => v = .bl true) fun _ _ _ => False) (nox : ∀ H e s', CX [] H s₁ (fun _ _ _ => False) e s' → False) :
    codeAny (model P w) callerA (.call (.ref fa) ⟨[.ref a], []⟩) (fun r s' => r = .ok (.ret (.bool true)) ∧ OldK s₁.heap s'.heap ∧ s'.os = s₁.os ∧ AllBare s'.gens) s₁ := by
  have ia' := vals_ints ia
  have len := ia.length
  have main : ∀ H : Hp, Only H ∧ SqL K H a (ns.map V.int) ∧ HOk P w H s₁.heap ∧ (∀ b, H b ≠ none → b = a ∧ K.lookup a = none) →
      codeAny (model P w) callerA (.call (.ref fa) ⟨[.ref a], []⟩) (fun r s' => r = .ok (.ret (.bool true)) ∧ OldK s₁.heap s'.heap ∧ s'.os = s₁.os ∧ AllBare s'.gens) s₁ := by
    rintro H ⟨hO, hS, hok, hA⟩
    have un : ∀ b, b ≠ a → H b = none := fun b n => Classical.byContradiction fun z => n (hA b z).1
    have keep : ∀ {b : Addr} {o : Obj}, s₁.heap.get? b = some o → b ≠ a ∨ K.lookup a ≠ none → (hidT s₁.heap H).get? b = some o := fun {b o} e z => hidT_get e (by
      rcases z with z | z
      · exact un b z
      · exact Classical.byContradiction fun y => z (hA b y).2)
    have nsk : ∀ {b : Addr} {m : Str → Option Value}, s₁.heap.Ns b m → (hidT s₁.heap H).Ns b m := by
      rintro b m ⟨o, es, ep, e, d, r⟩
      refine ⟨o, es, ep, keep e (.inl ?_), d, r⟩
      rintro rfl
      have z := ha.symm.trans e
      cases z
      cases d
    have kin' : K.In (hidT s₁.heap H) := fun b o e => keep (kin b o e) (by
      by_cases z : b = a
      · subst z
        exact .inr (by rw [e]; simp)
      · exact .inl z)
    obtain ⟨mc, l1, l2⟩ := nol
    have env : Env0 P w K mg (hidT s₁.heap H) callerA [] s₁ H :=
      { frames := rfl, mod := ⟨kin', nsk gns, ⟨mb, nsk bns, bmb⟩, mc, nsk l1, l2⟩, bs := fun b o e => of_hidT e, bsz := Nat.le_of_eq (hidT_size _ _), funs := trivial, frf := (fun b z => nomatch z), hok := hok, bare := .of_eq g0 }
    have run := (F _ kin' (nsk gns)).go callerA [] s₁ H ⟨[.ref a], []⟩ [.ref a] [.ref a] _ _ rm env (bnd s₁ (.ref a)) (.cons rfl .nil) (hsp H hO hS)
    refine codeAny_mono run ?_
    intro r s' q
    match r, q with
    | .error e, q => exact (nox H e s' q).elim
    | .ok (.ret u), q =>
      obtain ⟨v, H', os, bare, un', hok', rv, qv⟩ := q
      have qv' : v = .bl true := qv
      subst qv'
      have ru : u = Value.bool true := rv
      subst ru
      refine ⟨rfl, OldK.of_keep ?_, os, bare⟩
      intro b o e
      rcases hO b with z | ⟨ob, xs, z⟩
      · exact un'.keep b o e z (fun y => nomatch y) (fun y => nomatch y)
      · have e1 := (hok b _ z).1
        have e2 := (hok' b _ (un'.frzs b ob _ z)).1
        exact e2.trans (e1.symm.trans e)
  by_cases hk : K.lookup a = none
  · refine main (fun b => if b = a then some (.frz { cls := .type "list", data := .seq vs.toArray } (.lst (ns.map V.int))) else none) ⟨fun b => ?_, .inl (.inr ⟨{ cls := .type "list", data := .seq vs.toArray }, if_pos rfl⟩), fun b u z => ?_, fun b z => ?_⟩
    · by_cases y : b = a
      · exact .inr ⟨_, _, if_pos y⟩
      · exact .inl (if_neg y)
    · by_cases y : b = a
      · subst y
        have z' := (if_pos rfl).symm.trans z
        cases z'
        exact ⟨ha, by rw [List.length_map]; exact few, vs, _, ia', ha⟩
      · exact nomatch ((if_neg y).symm.trans z)
    · by_cases y : b = a
      · exact ⟨y, hk⟩
      · exact absurd (if_neg y) z
  · obtain ⟨o, ho⟩ := Option.ne_none_iff_exists'.mp hk
    have z := ha.symm.trans (kin a o ho)
    cases z
    exact main (fun _ => none) ⟨fun _ => .inl rfl, .inr ⟨_, vs.toArray, _, ho, rfl, rfl, rfl, by rw [List.size_toArray, len]; exact few, by simpa using ia'⟩, (fun b u z => nomatch (show (none : Option HO) = some u from z)), fun b z => absurd rfl z⟩
theorem walk_ofG {l : PySem.W.OpenLaw} {n k : Nat} {q : Program} {loose : List Str} {XP : (Str → Option Value) → Heap → Prop} {YP : World → Heap → Prop} {d : DefRec} {CX : CXT} {x : Str}
    (hn : l.most = some n) (small : n ≤ sizeLine) (nodef : d.params.defaults = []) (rm : Rm k callerA)
    (F : ∀ (w : World) (mg : Str → Option Value) (fa : Addr) (h : Heap), YP w h → h.Ns mainGlobals mg → mg d.name = some (.ref fa) →
      ∃ (K : PySem.W.Frag) (fd : FuncData) (sp : Sp), K.In h ∧ (∀ (s : Shared) (u : Value), BindsTo s fd ⟨[u], []⟩ [(x, u)]) ∧
        (∀ (H : Hp) (a : Addr) (ns : List Int), ns.length ≤ n → Only H → SqL K H a (ns.map V.int) → sp [.ref a] H (fun v _ => v = .bl true) fun _ _ _ => False) ∧
        ∀ base : Heap, K.In base → base.Ns mainGlobals mg → FnG l.prog w K mg base CX k fa fd [x] sp)
    (nox : ∀ (H : Hp) (s : Shared) (e : Value) (s' : Shared), CX [] H s (fun _ _ _ => False) e s' → False) :
    PySem.W.WalkO q loose XP YP l.row.toRowW d [] (fun f vs => PySem.call f vs) := by
  refine Att.attach_call hn nodef ?_
  intro w s₀ s₁ mg mb fa o pm cd doc a vs ns G Y ho hd hcd hmg hobj hints hlen hg
  obtain ⟨K, fd, sp, kin, bnd, hsp, hF⟩ := F w mg fa _ Y G.T.g hmg
  exact law_callG kin G.T.g G.T.b G.T.builtins G.T.nolimit hg hobj hints (Nat.le_trans hlen small) rm hF bnd (fun H hO hS => hsp H a ns hlen hO hS) fun H e s' => nox H s₁ e s'
end Tw

namespace Tw
open PySem PySem.Spec PyProof.Rows L2
/-! ### repr of data -/
mutual
/-- what the text of data may come to -/
def costD : PyData → Nat
  | .none => 4
  | .bool _ => 5
  | .int _ => 1921
  | .str x => (reprText x).length
  | .list xs => costAll xs + 5
  | .tuple xs => costAll xs + 5
  | .dict _ => 0
def costAll : List PyData → Nat
  | [] => 0
  | x :: xs => costD x + 2 + costAll xs
end
mutual
theorem shown_le : ∀ d : PyData, d.showable = true → d.hasDict = false → d.shown.length ≤ costD d
  | .none, _, _ => by
    show (("None" : String) : Str).length ≤ 4
    decide +kernel
  | .bool true, _, _ => by
    show (("True" : String) : Str).length ≤ 5
    decide +kernel
  | .bool false, _, _ => by
    show (("False" : String) : Str).length ≤ 5
    decide +kernel
  | .int i, h, _ => int_text_len_1921 (of_decide_eq_true h)
  | .str x, _, _ => Nat.le_refl _
  | .list xs, h, n => by
    have q := shownAll_le xs h n
    show (listText (PyData.shownAll xs)).length ≤ costAll xs + 5
    have l := listText_len_le (PyData.shownAll xs)
    omega
  | .tuple xs, h, n => by
    have q := shownAll_le xs h n
    show (tupleText (PyData.shownAll xs)).length ≤ costAll xs + 5
    have l := fmt_text (PyData.shownAll xs)
    have e : piled (PyData.shownAll xs) = ((PyData.shownAll xs).map (·.length)).sum + 2 * (PyData.shownAll xs).length := piled_sum _
    omega
  | .dict _, _, n => nomatch n
theorem shownAll_le : ∀ xs : List PyData, PyData.showableAll xs = true → PyData.hasDictAll xs = false → ((PyData.shownAll xs).map (·.length)).sum + 2 * (PyData.shownAll xs).length ≤ costAll xs
  | [], _, _ => Nat.le_refl _
  | x :: xs, h, n => by
    have h' : (PyData.showable x && PyData.showableAll xs) = true := h
    have n' : (PyData.hasDict x || PyData.hasDictAll xs) = false := n
    rw [Bool.and_eq_true] at h'
    rw [Bool.or_eq_false_iff] at n'
    have q1 := shown_le x h'.1 n'.1
    have q2 := shownAll_le xs h'.2 n'.2
    show ((PyData.shown x :: PyData.shownAll xs).map (·.length)).sum + 2 * (PyData.shown x :: PyData.shownAll xs).length ≤ costD x + 2 + costAll xs
    rw [List.map_cons, List.sum_cons, List.length_cons]
    omega
theorem piled_sum : ∀ ts : List Str, piled ts = (ts.map (·.length)).sum + 2 * ts.length
  | [] => rfl
  | t :: ts => by
    rw [piled_cons, piled_sum ts, List.map_cons, List.sum_cons, List.length_cons]
    omega
end
mutual
theorem dp_nodict {K : PySem.W.Frag} {H : Hp} : ∀ (d : PyData) {x : V}, Dp K H x d → d.hasDict = false
  | .none, _, _ => rfl
  | .bool _, _, _ => rfl
  | .int _, _, _ => rfl
  | .str _, _, _ => rfl
  | .list ds, _, h => by
    cases h with
    | lst _ r => exact dpAll_nodict ds r
  | .tuple ds, _, h => by
    cases h with
    | tup _ r => exact dpAll_nodict ds r
  | .dict _, _, h => by cases h
theorem dpAll_nodict {K : PySem.W.Frag} {H : Hp} : ∀ (ds : List PyData) {xs : List V}, DpAll K H xs ds → PyData.hasDictAll ds = false
  | [], _, _ => rfl
  | d :: ds, _, h => by
    cases h with
    | cons a b =>
      show (PyData.hasDict d || PyData.hasDictAll ds) = false
      rw [dp_nodict d a, dpAll_nodict ds b]
      rfl
end
def rReprP (K : PySem.W.Frag) : List V → Hp → VK → Prop := fun xs H Q => ∃ x d, xs = [x] ∧ Dp K H x d ∧ d.showable = true ∧ d.depth ≤ 150 ∧ costD d ≤ 1000000 ∧ Q (.str d.shown) H
section
variable {X : Cx} {k : Nat}
theorem call_reprP (hr : Rm k X.A) : CallR X (.builtin "repr") (rReprP X.K) := by
  intro pins s σ H xs us Q I r h
  obtain ⟨x, d, rfl, hd, hs, hp, hc, q⟩ := h
  obtain ⟨u, rfl, ru⟩ := vals1 r
  have nd := dp_nodict d hd
  have sz : d.shown.length ≤ sizeLine := by
    have := shown_le d hs nd
    rw [sizeLine_eq]
    omega
  have un := hr.rm.un
  have ref : ∀ a, u = .ref a → wpAny (model X.prog X.w) X.A (call (.builtin "repr") [u]) (EP X pins σ Q) X.xe s := fun a e => by
    subst e
    obtain ⟨as, ra⟩ := Dp.reads I d x (.ref a) hd ru
    exact repr_of_reads' ra hs (fun e => by rw [nd] at e; cases e) hr.gd (by omega) (fun _ _ e => e) (fun h' t tk hk => ⟨.str _, H, I.kept hk, ⟨_, rfl⟩, q⟩) sz
  cases hd with
  | non =>
    obtain rfl : u = .none := ru
    exact PySem.P.repr_of_none ⟨.str _, H, I.tok _, ⟨_, rfl⟩, q⟩
  | bl b =>
    obtain rfl : u = .bool b := ru
    exact PySem.P.repr_of_bool ⟨.str _, H, I.tok _, ⟨_, by cases b <;> rfl⟩, q⟩
  | int i =>
    obtain ⟨t, rfl⟩ := ru
    exact PySem.P.repr_of_int (of_decide_eq_true hs) ⟨.str _, H, I.tok _, ⟨_, rfl⟩, q⟩
  | str z =>
    obtain ⟨t, rfl⟩ := ru
    exact PySem.P.repr_of_str ⟨.str _, H, I.tok _, ⟨_, rfl⟩, q⟩ sz
  | lst _ _ => exact ref _ ru
  | tup _ _ => exact ref _ ru
end
end Tw


namespace Tw
open PySem PySem.Spec PyProof.Rows L2
/-! ### heaps: all but d is as it was -/
def Kp (d : Addr) (H H' : Hp) : Prop := ∀ b o, b ≠ d → H b = some o → H' b = some o
theorem Kp.refl (d : Addr) (H : Hp) : Kp d H H := fun _ _ _ h => h
theorem Kp.trans {d : Addr} {H H1 H2 : Hp} (a : Kp d H H1) (b : Kp d H1 H2) : Kp d H H2 := fun c o n h => b c o n (a c o n h)
theorem Kp.at {d : Addr} {H : Hp} {o : HO} : Kp d H (upd H d o) := fun b x n h => by
  rw [upd_ne n]
  exact h
theorem same_new {H : Hp} {p : Addr} {o : HO} (h : H p = none) : Same H (upd H p o) := fun b x e => by
  rw [upd_ne (ne_of_none e h)]
  exact e
theorem Kp.of {d : Addr} {H H' : Hp} (s : Same H H') : Kp d H H' := fun b o _ h => s b o h
theorem Kp.new {d : Addr} {H : Hp} {p : Addr} {o : HO} (h : H p = none) : Kp d H (upd H p o) := .of (same_new h)
theorem Rd.keep {H H' : Hp} {a : Addr} {u : HO} (k : ∀ o, H a = some o → H' a = some o) (h : Rd H a u) : Rd H' a u := by
  rcases h with h | ⟨o, h⟩
  · exact .inl (k _ h)
  · exact .inr ⟨o, k _ h⟩
theorem Kp.sqL {K : PySem.W.Frag} {d a : Addr} {H H' : Hp} {xs : List V} (k : Kp d H H') (n : a ≠ d) (h : SqL K H a xs) : SqL K H' a xs := by
  rcases h with h | h
  · exact .inl (Rd.keep (fun o => k a o n) h)
  · exact .inr h
theorem Same.sqT {K : PySem.W.Frag} {a : Addr} {H H' : Hp} {xs : List V} (k : Same H H') (h : SqT K H a xs) : SqT K H' a xs := by
  rcases h with h | h
  · exact .inl (Rd.keep (fun o => k a o) h)
  · exact .inr h
/-- the deck: a list of three ints -/
def Dk (H : Hp) (d : Addr) : Prop := ∃ g m c : Int, H d = some (.lst [.int g, .int m, .int c])
theorem Dk.ne {H : Hp} {d p : Addr} (k : Dk H d) (h : H p = none) : p ≠ d := by
  obtain ⟨_, _, _, e⟩ := k
  intro z
  rw [z, e] at h
  cases h
theorem Dk.same {H H' : Hp} {d : Addr} (k : Dk H d) (s : Same H H') : Dk H' d := by
  obtain ⟨g, m, c, e⟩ := k
  exact ⟨g, m, c, s _ _ e⟩
theorem Dk.new {H : Hp} {d p : Addr} {o : HO} (k : Dk H d) (h : H p = none) : Dk (upd H p o) d := k.same (same_new h)
theorem Dk.upd {H : Hp} {d p : Addr} {o : HO} (k : Dk H d) (h : p ≠ d) : Dk (L2.upd H p o) d := by
  obtain ⟨g, m, c, e⟩ := k
  exact ⟨g, m, c, (upd_ne h.symm).trans e⟩
theorem Kp.sqT {K : PySem.W.Frag} {d a : Addr} {H H' : Hp} {xs : List V} (k : Kp d H H') (n : Dk H d) (h : SqT K H a xs) : SqT K H' a xs := by
  rcases h with h | h
  · refine .inl (Rd.keep (fun o e => k a o ?_ e) h)
    rintro rfl
    obtain ⟨g, m, c, e⟩ := n
    rcases h with h | ⟨o, h⟩
    · rw [h] at e; cases e
    · rw [h] at e; cases e
  · exact .inr h
/-- a new object made, all but d kept before -/
theorem Kp.then_new {d p : Addr} {H H' : Hp} {o : HO} (k : Kp d H H') (h : H' p = none) : Kp d H (upd H' p o) := k.trans (.new h)
/-- a change at a place that was free ahead -/
theorem Kp.then_at {d p : Addr} {H H' : Hp} {o : HO} (k : Kp d H H') (h : H p = none) : Kp d H (upd H' p o) := fun b x n e => by
  rw [upd_ne (ne_of_none e h)]
  exact k b x n e
theorem Kp.free {d p : Addr} {H H' : Hp} (k : Kp d H H') (n : p ≠ d) (h : H' p = none) : H p = none := by
  cases e : H p with
  | none => rfl
  | some o =>
    rw [k p o n e] at h
    cases h
theorem big {n : Nat} (h : n ≤ 100000) : n ≤ sizeLine := by
  rw [PySem.sizeLine_eq]
  omega
theorem big' {n : Nat} (h : n ≤ 100000) : n < sizeLine := by
  rw [PySem.sizeLine_eq]
  omega
theorem atI_of {α : Type} {xs : List α} {i : Int} (h0 : 0 ≤ i) (h1 : i < xs.length) : ∃ v, atI xs i = some v ∧ v ∈ xs := by
  obtain ⟨j, rfl⟩ : ∃ j : Nat, i = j := ⟨i.toNat, by omega⟩
  have hj : j < xs.length := by omega
  exact ⟨xs[j], atI_nat (List.getElem?_eq_getElem hj), List.getElem_mem hj⟩
theorem cut_map {α : Type} (f : α → V) (xs : List α) (lo hi : Option Int) : ∃ ys : List α, cutV (xs.map f) lo hi = ys.map f ∧ ys.length ≤ xs.length ∧ ∀ y ∈ ys, y ∈ xs := by
  unfold cutV
  refine ⟨(xs.drop (HT.sIx (xs.map f).length 0 lo)).take (HT.sIx (xs.map f).length (xs.map f).length hi - HT.sIx (xs.map f).length 0 lo), ?_, ?_, ?_⟩
  · rw [List.map_take, List.map_drop]
  · rw [List.length_take, List.length_drop]
    omega
  · intro y hy
    exact List.mem_of_mem_drop (List.mem_of_mem_take hy)
/-- two blocks, by what holds between them -/
theorem seq_by {t u : TS} {D : Ends} {σ : L2.St} {H : Hp} (J : L2.St → Hp → Prop) (h2 : ∀ σ' H', J σ' H' → u D σ' H') (h1 : (∀ σ' H', J σ' H' → u D σ' H') → t { D with nx := u D } σ H) : tSeq t u D σ H := h1 h2
/-- .. where d was free -/
theorem Kp.sqL0 {K : PySem.W.Frag} {d a : Addr} {H H' : Hp} {xs : List V} (k : Kp d H H') (n : H d = none) (h : SqL K H a xs) : SqL K H' a xs := by
  rcases h with h | h
  · refine .inl (Rd.keep (fun o e => k a o ?_ e) h)
    rintro rfl
    rw [n] at e
    cases e
  · exact .inr h

/-- slots of _law_deck: 0 _law_script, 1 _law_great, 2 _law_mixed, 3 _law_cell, 4 _law_more -/
def n_deckL : List Str := ["_law_script", "_law_great", "_law_mixed", "_law_cell", "_law_more"]
def t_deckL (K : PySem.W.Frag) : TS :=
  (tSeq (tPar 1 2 (tCons (tC (.int 0)) (tCons (tOp rAddI (tC (.int 2917)) (tOp rMulI (tC (.int 41)) (tCB (rLenQ K) (tCons (tVar 0) tNil)))) tNil)))
    (tSeq (tFor (iList K (L2.tSl (rSlL K) (tVar 0) tNoPart (tPart (tC (.int 60))))) (gName 3) (tSeq (tAsg (tOp rAddI (tOp rAddI (tOp rMulI (tC (.int 2)) (tCB rAbs (tCons (tVar 3) tNil))) (tCB rInt1 (tCons (tOp rLtI (tVar 3) (tC (.int 0))) tNil))) (tC (.int 1))) (gName 4))
    (tSeq (tAsg (tOp rModI (tCB rInt1 (tCons (tOp rAddI (tOp rMulI (tVar 2) (tC (.int 6364136223846793005))) (tVar 4)) tNil)) (tC (.int 2305843009213693951))) (gName 2))
    (tIfS (tTest (tOp rGeI (tCB rAbs (tCons (tVar 3) tNil)) (tOp rPowI (tC (.int 10)) (tC (.int 18))))) (tAsg (tOp rAddI (tOp rMulI (tVar 1) (tC (.int 37))) (tCB rAbs (tCons (tVar 3) tNil))) (gName 1)) tNext))))
    (tRet (tLst (tCons (tVar 1) (tCons (tVar 2) (tCons (tC (.int 0)) tNil)))))))

/-- a new deck -/
def sp_deckL (K : PySem.W.Frag) : Sp := fun vs H Q _ => ∃ (a : Addr) (ns : List Int), vs = [.ref a] ∧ SqL K H a (ns.map V.int) ∧
  ∀ (H' : Hp) (d : Addr), H d = none → Same H H' → Dk H' d → Q (.ref d) H'
theorem pure_deckL {K : PySem.W.Frag} (vs : List V) (H : Hp) (Q : VK) (E : XK) (h : sp_deckL K vs H Q E) : t_deckL K { nx := fun _ H' => Q .non H', rt := Q } (start n_deckL vs) H := by
  obtain ⟨a, ns, rfl, hS, q⟩ := h
  refine ⟨.ref a, rfl, a, _, rfl, .inl hS, _, _, rfl, rfl, .inl ⟨by decide, by decide⟩, _, _, rfl, rfl, _, _, rfl, ?_⟩
  refine ⟨.ref a, rfl, 60, rfl, a, _, rfl, hS, fun p np => ?_⟩
  obtain ⟨ms, em, _⟩ := cut_map V.int ns none (some 60)
  rw [em]
  refine ⟨p, rfl, ⟨_, .inl (.inl upd_same)⟩, for_list (K := K) (a := p) (xs := ms.map V.int) (fun i σ H' => ∃ (g m : Int) (y3 y4 : Option V), σ = [some (.ref a), some (.int g), some (.int m), y3, y4] ∧ H' = upd H p (.lst (ms.map V.int))) ⟨_, _, none, none, rfl, rfl⟩ (fun i σ H' _ hp => ?_) (fun i x σ H' hx hp => ?_) (fun σ H' hp => ?_)⟩
  · obtain ⟨_, _, _, _, _, rfl⟩ := hp
    exact .inl (.inl upd_same)
  · obtain ⟨g, m, y3, y4, rfl, rfl⟩ := hp
    obtain ⟨z, rfl⟩ : ∃ z, x = V.int z := by
      rw [List.getElem?_map] at hx
      cases e : ms[i]? with
      | none => rw [e] at hx; cases hx
      | some z => rw [e] at hx; exact ⟨z, (Option.some.inj hx).symm⟩
    refine ⟨.int z, rfl, z, rfl, _, _, rfl, rfl, .inl ⟨by decide, by decide⟩, .int z, rfl, _, _, rfl, rfl, .inr ⟨_, rfl, _, _, rfl, rfl, _, _, rfl, rfl, ?_⟩⟩
    refine ⟨.int m, rfl, _, _, rfl, rfl, .inr ⟨by decide, by decide⟩, _, rfl, _, _, rfl, rfl, .inl ⟨_, rfl, _, _, rfl, rfl, (by decide : (0 : Int) < 2305843009213693951), ?_⟩⟩
    refine ⟨.int z, rfl, z, rfl, _, _, rfl, rfl, ⟨by decide, by decide, by decide⟩, _, _, rfl, rfl, _, rfl, ite2 (fun _ => ?_) (fun _ => ?_)⟩
    · exact ⟨.int g, rfl, _, _, rfl, rfl, .inr ⟨by decide, by decide⟩, .int z, rfl, z, rfl, _, _, rfl, rfl, _, _, _, _, rfl, rfl⟩
    · exact ⟨_, _, _, _, rfl, rfl⟩
  · obtain ⟨g, m, y3, y4, rfl, rfl⟩ := hp
    refine ⟨_, rfl, _, rfl, big (by show 3 ≤ 100000; decide), fun d nd => ?_⟩
    have nd2 : H d = none := (same_new np).free nd
    exact q _ d nd2 ((same_new np).trans (same_new nd)) ⟨_, _, _, upd_same⟩

/-- slots of _law_draw: 0 _law_deck_here, 1 _law_many, 2 _law_digit, 3 _law_mixed -/
def n_drawL : List Str := ["_law_deck_here", "_law_many", "_law_digit", "_law_mixed"]
def t_drawL (K : PySem.W.Frag) : TS :=
  (tSeq (tIfS (tTest (tOp rGtI (tOp (rIxL K) (tVar 0) (tC (.int 0))) (tC (.int 0)))) (tSeq (tAsg (tOp rModI (tCB rInt1 (tCons (tOp (rIxL K) (tVar 0) (tC (.int 0))) tNil)) (tVar 1)) (gName 2))
    (tSeq (tAsg (tOp rDivI (tOp (rIxL K) (tVar 0) (tC (.int 0))) (tVar 1)) (gSub (tVar 0) (tC (.int 0)) rSetL))
    (tRet (tVar 2)))) tNext)
    (tSeq (tAsg (tOp rAddI (tOp (rIxL K) (tVar 0) (tC (.int 2))) (tC (.int 1))) (gSub (tVar 0) (tC (.int 2)) rSetL))
    (tSeq (tAsg (tOp rModI (tCB rInt1 (tCons (tOp rAddI (tOp (rIxL K) (tVar 0) (tC (.int 1))) (tOp rMulI (tC (.int 11400714819323198485)) (tOp (rIxL K) (tVar 0) (tC (.int 2))))) tNil)) (tC (.int 18446744073709551557))) (gName 3))
    (tSeq (tAsg (tOp rModI (tCB rInt1 (tCons (tOp rMulI (tVar 3) (tOp rAddI (tOp rModI (tVar 3) (tC (.int 4294967291))) (tC (.int 7)))) tNil)) (tC (.int 2305843009213693951))) (gName 3))
    (tRet (tOp rModI (tOp rDivI (tOp rModI (tCB rInt1 (tCons (tOp rMulI (tVar 3) (tVar 3)) tNil)) (tC (.int 2305843009213693921))) (tC (.int 2048))) (tVar 1)))))))

/-- a number below n -/
def sp_drawL : Sp := fun vs H Q _ => ∃ (d : Addr) (n : Int), vs = [.ref d, .int n] ∧ Dk H d ∧ 0 < n ∧ n < 1073741824 ∧
  ∀ (H' : Hp) (r : Int), 0 ≤ r → r < n → Kp d H H' → Dk H' d → Q (.int r) H'
theorem mod_lt64 (x : Int) : -(2 ^ 64) < x % 18446744073709551557 ∧ x % 18446744073709551557 < 2 ^ 64 := by
  have h1 := Int.emod_nonneg x (by decide : (18446744073709551557 : Int) ≠ 0)
  have h2 := Int.emod_lt_of_pos x (by decide : (0 : Int) < 18446744073709551557)
  constructor <;> omega
theorem mod_lt61 (x : Int) : -(2 ^ 64) < x % 2305843009213693951 ∧ x % 2305843009213693951 < 2 ^ 64 := by
  have h1 := Int.emod_nonneg x (by decide : (2305843009213693951 : Int) ≠ 0)
  have h2 := Int.emod_lt_of_pos x (by decide : (0 : Int) < 2305843009213693951)
  constructor <;> omega
theorem pure_drawL {K : PySem.W.Frag} (vs : List V) (H : Hp) (Q : VK) (E : XK) (h : sp_drawL vs H Q E) : t_drawL K { nx := fun _ H' => Q .non H', rt := Q } (start n_drawL vs) H := by
  obtain ⟨d, n, rfl, ⟨g, m, c, e⟩, n0, n1, q⟩ := h
  have hL : SqL K H d [.int g, .int m, .int c] := .inl (.inl e)
  refine ⟨.ref d, rfl, d, _, 0, .int g, rfl, rfl, hL, rfl, _, _, rfl, rfl, _, rfl, ite2 (fun _ => ?_) (fun _ => ?_)⟩
  · refine ⟨.ref d, rfl, d, _, 0, .int g, rfl, rfl, hL, rfl, .inl ⟨_, rfl, .int n, rfl, _, _, rfl, rfl, n0, ?_⟩⟩
    refine ⟨.ref d, rfl, d, _, 0, .int g, rfl, rfl, hL, rfl, .int n, rfl, _, _, rfl, rfl, ⟨n0, n1⟩, .ref d, rfl, d, _, 0, 0, rfl, rfl, e, rfl, ?_⟩
    refine ⟨_, rfl, q _ _ (Int.emod_nonneg _ (by omega)) (Int.emod_lt_of_pos _ n0) Kp.at ⟨_, _, _, upd_same⟩⟩
  · refine ⟨.ref d, rfl, d, _, 2, .int c, rfl, rfl, hL, rfl, _, _, rfl, rfl, .ref d, rfl, d, _, 2, 2, rfl, rfl, e, rfl, ?_⟩
    have hL2 : SqL K (upd H d (.lst [.int g, .int m, .int (c + 1)])) d [.int g, .int m, .int (c + 1)] := .inl (.inl upd_same)
    refine ⟨.ref d, rfl, d, _, 1, .int m, rfl, rfl, hL2, rfl, .ref d, rfl, d, _, 2, .int (c + 1), rfl, rfl, hL2, rfl, _, _, rfl, rfl, .inl ⟨by decide, by decide⟩, _, _, rfl, rfl, .inl ⟨_, rfl, _, _, rfl, rfl, (by decide : (0 : Int) < 18446744073709551557), ?_⟩⟩
    refine ⟨_, rfl, _, rfl, _, _, rfl, rfl, (by decide : (0 : Int) < 4294967291), _, _, rfl, rfl, _, _, rfl, rfl, .inl (mod_lt64 _), .inl ⟨_, rfl, _, _, rfl, rfl, (by decide : (0 : Int) < 2305843009213693951), ?_⟩⟩
    refine ⟨_, rfl, _, rfl, _, _, rfl, rfl, .inl (mod_lt61 _), .inl ⟨_, rfl, _, _, rfl, rfl, (by decide : (0 : Int) < 2305843009213693921), _, _, rfl, rfl, ⟨by decide, by decide⟩, .int n, rfl, _, _, rfl, rfl, n0, ?_⟩⟩
    exact q _ _ (Int.emod_nonneg _ (by omega)) (Int.emod_lt_of_pos _ n0) Kp.at ⟨_, _, _, upd_same⟩

/-- slots of _law_pick: 0 _law_deck_here, 1 _law_items -/
def n_pickL : List Str := ["_law_deck_here", "_law_items"]
def t_pickL (K : PySem.W.Frag) : TS :=
  (tRet (tOp (rIxL K) (tVar 1) (tCall sp_drawL [] E0 (tCons (tVar 0) (tCons (tCB (rLenQ K) (tCons (tVar 1) tNil)) tNil)))))

/-- one of some items -/
def sp_pickL (K : PySem.W.Frag) : Sp := fun vs H Q _ => ∃ (d l : Addr) (xs : List V), vs = [.ref d, .ref l] ∧ Dk H d ∧ l ≠ d ∧ SqL K H l xs ∧ 0 < xs.length ∧ xs.length < 1073741824 ∧
  ∀ (H' : Hp) (v : V), v ∈ xs → Kp d H H' → Dk H' d → Q v H'
theorem pure_pickL {K : PySem.W.Frag} (vs : List V) (H : Hp) (Q : VK) (E : XK) (h : sp_pickL K vs H Q E) : t_pickL K { nx := fun _ H' => Q .non H', rt := Q } (start n_pickL vs) H := by
  obtain ⟨d, l, xs, rfl, hD, ne, hL, n0, n1, q⟩ := h
  refine ⟨.ref l, rfl, .ref d, rfl, .ref l, rfl, l, xs, rfl, .inl hL, d, xs.length, rfl, hD, by omega, by omega, fun H' r r0 r1 k hD' => ?_⟩
  obtain ⟨v, ev, mv⟩ := atI_of (xs := xs) r0 r1
  exact ⟨l, xs, r, v, rfl, rfl, k.sqL ne hL, ev, q H' v mv k hD'⟩

/-! ### names: one to eight letters -/
def IsLt (c : Nat) : Prop := 97 ≤ c ∧ c ≤ 122
def IsNm (z : Str) : Prop := 1 ≤ (TL.tl z).length ∧ (TL.tl z).length ≤ 8 ∧ ∀ c ∈ TL.tl z, IsLt c
abbrev letters : Str := "abcdefghijklmnopqrstuvwxyz"
theorem letters_get : ∀ k : Nat, k < 26 → (letters.cps.toList)[k]? = some (97 + k) := by decide +kernel
theorem letters_len : letters.length ≤ sizeLine := by
  rw [PySem.sizeLine_eq]
  decide +kernel
theorem letters_at {i : Int} (h0 : 0 ≤ i) (h1 : i < 26) : atI letters.cps.toList i = some (97 + i.toNat) := by
  obtain ⟨j, rfl⟩ : ∃ j : Nat, i = j := ⟨i.toNat, by omega⟩
  exact atI_nat (letters_get j (by omega))
theorem len_tl_le {z : Str} {n : Nat} (h : (TL.tl z).length ≤ n) (hn : n ≤ 100000) : z.length ≤ sizeLine := by
  rw [TL.len_tl]
  exact big (by omega)
/-- texts of one sign each, joined -/
theorem tl_joinE : ∀ ys : List Str, TL.tl (Txt.join "" ys) = (ys.map TL.tl).flatten
  | [] => by
    rw [TL.join_eq]
    rfl
  | [x] => by
    rw [TL.join_eq]
    show TL.tl x = _
    simp
  | x :: y :: r => by
    have ih := tl_joinE (y :: r)
    rw [TL.join_eq] at ih
    rw [TL.join_eq]
    show TL.tl (x ++ ("" : Str) ++ Str.join "" (y :: r)) = _
    rw [TL.tl_append, TL.tl_append, ih]
    have e : TL.tl ("" : Str) = [] := by decide +kernel
    rw [e]
    simp
theorem tl_singles (cs : List Nat) : TL.tl (Txt.join "" (cs.map fun c => (⟨#[c]⟩ : Str))) = cs := by
  rw [tl_joinE]
  induction cs with
  | nil => rfl
  | cons c r ih =>
    rw [List.map_cons, List.map_cons, List.flatten_cons, ih]
    rfl
theorem tl_cutS (z : Str) (lo hi : Option Int) : TL.tl (cutS z lo hi) = ((TL.tl z).drop (HT.sIx (TL.tl z).length 0 lo)).take (HT.sIx (TL.tl z).length (TL.tl z).length hi - HT.sIx (TL.tl z).length 0 lo) := by
  show ((z.cps.toList.drop (HT.sIx z.length 0 lo)).take (HT.sIx z.length z.length hi - HT.sIx z.length 0 lo)).toArray.toList = _
  rw [TL.len_tl]
theorem tl_cut_to (z : Str) (k : Nat) : TL.tl (cutS z none (some (k : Int))) = (TL.tl z).take k := by
  rw [tl_cutS, HT.sIx_none, HT.sIx_nat, List.drop_zero, Nat.sub_zero]
  by_cases h : k ≤ (TL.tl z).length
  · rw [Nat.min_eq_left h]
  · rw [Nat.min_eq_right (by omega), List.take_of_length_le (Nat.le_refl _), List.take_of_length_le (by omega)]
theorem tl_cut_from (z : Str) (k : Nat) : TL.tl (cutS z (some (k : Int)) none) = (TL.tl z).drop k := by
  rw [tl_cutS, HT.sIx_none, HT.sIx_nat]
  by_cases h : k ≤ (TL.tl z).length
  · rw [Nat.min_eq_left h]
    exact List.take_of_length_le (by rw [List.length_drop]; omega)
  · rw [Nat.min_eq_right (by omega), List.drop_of_length_le (Nat.le_refl _), List.drop_of_length_le (by omega)]
    simp
theorem tl_mul (z : Str) (n : Nat) (hn : 2 ≤ n) (hz : 1 ≤ (TL.tl z).length) : TL.tl (Txt.mul z (n : Int)) = (List.replicate n (TL.tl z)).flatten := by
  have h1 : ¬ ((n : Int) < 1) := by omega
  have h2 : ((n : Int) == 1 || z.length == 0) = false := by
    rw [TL.len_tl, Bool.or_eq_false_iff, beq_eq_false_iff_ne, beq_eq_false_iff_ne]
    omega
  unfold Txt.mul
  rw [if_neg h1, h2, if_neg Bool.false_ne_true, Int.toNat_natCast]
  show ((List.replicate n z.cps).foldl (· ++ ·) #[]).toList = _
  have gen : ∀ (m : Nat) (acc : Array Nat), ((List.replicate m z.cps).foldl (· ++ ·) acc).toList = acc.toList ++ (List.replicate m z.cps.toList).flatten := by
    intro m
    induction m with
    | zero => intro acc; simp
    | succ m ih =>
      intro acc
      rw [List.replicate_succ, List.foldl_cons, ih, List.replicate_succ, List.flatten_cons, Array.toList_append, List.append_assoc]
  rw [gen]
  rfl
theorem mulOk_small {z : Str} {n : Nat} (hn : n ≤ 100) (hz : (TL.tl z).length ≤ 100) : MulOk z (n : Int) := by
  have hl : z.length ≤ 100 := by rw [TL.len_tl]; exact hz
  refine ⟨?_, fun h1 h2 => ?_, fun h1 h2 => ?_⟩
  · rw [Bool.or_eq_false_iff, decide_eq_false_iff_not, decide_eq_false_iff_not]
    omega
  · have h3 : 0 < (n : Int) := by omega
    have h4 : (100 : Int) * n ≤ 2 ^ 63 - 1 := by omega
    have h5 : (100 : Int) ≤ (2 ^ 63 - 1) / n := (Int.le_ediv_iff_mul_le h3).mpr h4
    omega
  · have h6 : z.length * (n : Int).toNat ≤ 10000 := by
      rw [Int.toNat_natCast]
      exact Nat.le_trans (Nat.mul_le_mul hl hn) (by decide)
    unfold PySem.Builtin.Str.tooLong
    rw [decide_eq_false_iff_not]
    have := big (n := z.length * (n : Int).toNat) (by omega)
    omega
/-! ### lists without repeats -/
theorem len_le_of_sub {α : Type} [DecidableEq α] : ∀ {l m : List α}, l.Nodup → (∀ x ∈ l, x ∈ m) → l.length ≤ m.length
  | [], _, _, _ => Nat.zero_le _
  | x :: l, m, hn, hs => by
    have hx : x ∈ m := hs x List.mem_cons_self
    obtain ⟨h1, h2⟩ := List.nodup_cons.mp hn
    have ih := len_le_of_sub (l := l) (m := m.erase x) h2 fun y hy => (List.mem_erase_of_ne (fun e => h1 (by rw [← e]; exact hy))).mpr (hs y (List.mem_cons_of_mem _ hy))
    rw [List.length_erase_of_mem hx] at ih
    have : 0 < m.length := List.length_pos_of_mem hx
    rw [List.length_cons]
    omega
def spare (k : Nat) : Str := ⟨#[97 + k / 26, 97 + k % 26]⟩
def spares : List Str := (List.range 676).map spare
theorem spare_inj {a b : Nat} (h : spare a = spare b) : a = b := by
  have e : [97 + a / 26, 97 + a % 26] = [97 + b / 26, 97 + b % 26] := congrArg (fun z : Str => z.cps.toList) h
  injection e with e1 e2
  injection e2 with e3 _
  have h1 := Nat.div_add_mod a 26
  have h2 := Nat.div_add_mod b 26
  omega
theorem spares_len : spares.length = 676 := by
  unfold spares
  rw [List.length_map, List.length_range]
theorem spares_get {k : Nat} (h : k < 676) : spares[k]? = some (spare k) := by
  unfold spares
  rw [List.getElem?_map, List.getElem?_range h]
  rfl
theorem spare_nm {k : Nat} (h : k < 676) : IsNm (spare k) := by
  refine ⟨(by show 1 ≤ 2; decide), (by show 2 ≤ 8; decide), fun c hc => ?_⟩
  have hc' : c ∈ [97 + k / 26, 97 + k % 26] := hc
  have : k / 26 < 26 := by omega
  have : k % 26 < 26 := Nat.mod_lt _ (by decide)
  unfold IsLt
  rcases List.mem_cons.mp hc' with rfl | hc'
  · omega
  · rcases List.mem_cons.mp hc' with rfl | hc'
    · omega
    · cases hc'
theorem used_le {ns : List Str} {n : Nat} (hn : n ≤ 676) (h : ∀ j, j < n → spare j ∈ ns) : n ≤ ns.length := by
  have e : ((List.range n).map spare).length = n := by rw [List.length_map, List.length_range]
  rw [← e]
  refine len_le_of_sub ?_ fun x hx => ?_
  · exact List.pairwise_map.mpr (List.Pairwise.imp (fun hne he => hne (spare_inj he)) List.nodup_range)
  · obtain ⟨j, hj, rfl⟩ := List.mem_map.mp hx
    exact h j (List.mem_range.mp hj)

/-- slots of _law_name: 0 _law_deck_here, 1 _law_letters, 2 _law_k -/
def n_nameL : List Str := ["_law_deck_here", "_law_letters", "_law_k"]
def t_nameL (K : PySem.W.Frag) : TS :=
  (tSeq (tAsg (tC (.str "abcdefghijklmnopqrstuvwxyz")) (gName 1))
    (tRet (tM1 (rJoin K) (tC (.str "")) (tLc (iRng1 (tCons (tOp rAddI (tC (.int 1)) (tCall sp_drawL [] E0 (tCons (tVar 0) (tCons (tC (.int 8)) tNil)))) tNil)) (gName 2) tYes (tOp rIxS (tVar 1) (tCall sp_drawL [] E0 (tCons (tVar 0) (tCons (tC (.int 26)) tNil)))) [2]))))

/-- some name -/
def sp_nameL : Sp := fun vs H Q _ => ∃ d : Addr, vs = [.ref d] ∧ Dk H d ∧ ∀ (H' : Hp) (z : Str), IsNm z → Kp d H H' → Dk H' d → Q (.str z) H'
theorem sum_ones (cs : List Nat) : ((cs.map fun c => (⟨#[c]⟩ : Str)).map (·.length)).sum = cs.length := by
  induction cs with
  | nil => rfl
  | cons c r ih =>
    rw [List.map_cons, List.map_cons, List.sum_cons, ih, List.length_cons]
    show 1 + r.length = r.length + 1
    omega
theorem pure_nameL {K : PySem.W.Frag} (vs : List V) (H : Hp) (Q : VK) (E : XK) (h : sp_nameL vs H Q E) : t_nameL K { nx := fun _ H' => Q .non H', rt := Q } (start n_nameL vs) H := by
  obtain ⟨d, rfl, hD, q⟩ := h
  refine ⟨⟨_, rfl⟩, .ref d, rfl, d, 8, rfl, hD, by decide, by decide, fun H1 r r0 r1 k1 hD1 => ?_⟩
  refine ⟨_, _, rfl, rfl, 1 + r, rfl, by omega, by omega, fun D nD => ?_⟩
  have nDd : D ≠ d := hD1.ne nD
  refine lc_range (lo := 0) (n := (1 + r).toNat) (fun i H' => ∃ cs : List Nat, cs.length = i ∧ (∀ c ∈ cs, IsLt c) ∧ H' D = some (.lst (cs.map fun c => V.str ⟨#[c]⟩)) ∧ Kp d H1 H' ∧ Dk H' d)
    ⟨[], rfl, (fun _ h => nomatch h), upd_same, Kp.new nD, hD1.new nD⟩ (fun i H' hi hp => ?_) (fun H' hp => ?_)
  · obtain ⟨cs, el, hc, eD, kk, hD'⟩ := hp
    refine ⟨rfl, .str letters, rfl, .ref d, rfl, d, 26, rfl, hD', by decide, by decide, fun H2 r2 s0 s1 k2 hD2 => ?_⟩
    refine ⟨letters, r2, 97 + r2.toNat, rfl, rfl, letters_len, letters_at s0 s1, _, k2 D _ nDd eD, ?_, cs ++ [97 + r2.toNat], ?_, ?_, ?_, ?_, ?_⟩
    · rw [List.length_map]
      exact big' (by omega)
    · rw [List.length_append, el]
      rfl
    · intro c hc'
      rcases List.mem_append.mp hc' with h | h
      · exact hc c h
      · rcases List.mem_cons.mp h with rfl | h
        · unfold IsLt
          omega
        · cases h
    · rw [upd_same, List.map_append]
      rfl
    · exact (kk.trans k2).then_at nD
    · exact hD2.upd nDd
  · obtain ⟨cs, el, hc, eD, kk, hD'⟩ := hp
    refine ⟨"", D, cs.map fun c => (⟨#[c]⟩ : Str), rfl, rfl, .inl (.inl (.inl ?_)), ?_, ?_⟩
    · rw [eD, List.map_map]
      rfl
    · rw [sum_ones, List.length_map]
      have e : ("" : Str).length = 0 := by decide +kernel
      rw [e]
      omega
    · refine q H' _ ⟨?_, ?_, ?_⟩ (k1.trans kk) hD'
      · rw [tl_singles]
        omega
      · rw [tl_singles]
        omega
      · rw [tl_singles]
        exact hc

/-- slots of _law_names: 0 _law_deck_here, 1 _law_many, 2 _law_letters, 3 _law_spare, 4 _law_way, 5 _law_base, 6 _law_place, 7 _law_at, 8 _law_names_here, 9 _law_k, 10 _law_kind, 11 _law_name_here -/
def n_namesL : List Str := ["_law_deck_here", "_law_many", "_law_letters", "_law_spare", "_law_way", "_law_base", "_law_place", "_law_at", "_law_names_here", "_law_k", "_law_kind", "_law_name_here"]
def t_namesL (K : PySem.W.Frag) : TS :=
  (tSeq (tAsg (tC (.str "abcdefghijklmnopqrstuvwxyz")) (gName 2))
    (tSeq (tAsg (tLc (iRng1 (tCons (tC (.int 676)) tNil)) (gName 9) tYes (tOp rAddS (tOp rIxS (tVar 2) (tOp rDivI (tVar 9) (tC (.int 26)))) (tOp rIxS (tVar 2) (tOp rModI (tVar 9) (tC (.int 26))))) [9]) (gName 3))
    (tSeq (tPar 4 5 (tCons (tCall sp_drawL [] E0 (tCons (tVar 0) (tCons (tC (.int 4)) tNil))) (tCons (L2.tSl rSlS (tOp rRepS (tCall sp_nameL [] E0 (tCons (tVar 0) tNil)) (tC (.int 8))) tNoPart (tPart (tC (.int 8)))) tNil)))
    (tSeq (tPar3 6 7 8 (tCons (tCall sp_drawL [] E0 (tCons (tVar 0) (tCons (tC (.int 8)) tNil))) (tCons (tC (.int 0)) (tCons (tLst tNil) tNil))))
    (tSeq (tFor (iRng1 (tCons (tVar 1) tNil)) (gName 9) (tSeq (tAsg (tIf (tTest (tOp rEq (tVar 4) (tC (.int 3)))) (tCall sp_drawL [] E0 (tCons (tVar 0) (tCons (tC (.int 3)) tNil))) (tVar 4)) (gName 10))
    (tSeq (tIfS (tTest (tOp rEq (tVar 10) (tC (.int 0)))) (tAsg (tCall sp_nameL [] E0 (tCons (tVar 0) tNil)) (gName 11)) (tIfS (tTest (tOp rEq (tVar 10) (tC (.int 1)))) (tAsg (tOp rAddS (tOp rAddS (L2.tSl rSlS (tVar 5) tNoPart (tPart (tVar 6))) (tOp rIxS (tVar 2) (tCall sp_drawL [] E0 (tCons (tVar 0) (tCons (tC (.int 26)) tNil))))) (L2.tSl rSlS (tVar 5) (tPart (tOp rAddI (tVar 6) (tC (.int 1)))) tNoPart)) (gName 11)) (tAsg (L2.tSl rSlS (tVar 5) tNoPart (tPart (tOp rAddI (tC (.int 1)) (tCall sp_drawL [] E0 (tCons (tVar 0) (tCons (tC (.int 8)) tNil)))))) (gName 11))))
    (tSeq (tWhile (tTest (tOp (rIn K false) (tVar 11) (tVar 8))) (tSeq (tAsg (tOp (rIxL K) (tVar 3) (tVar 7)) (gName 11))
    (tAsg (tOp rAddI (tVar 7) (tC (.int 1))) (gName 7))))
    (tDrop (tBM K "list" rAppend (tVar 8) (tCons (tVar 11) tNil)))))))
    (tRet (tVar 8)))))))

/-- n unlike names, in a new list -/
def sp_namesL : Sp := fun vs H Q _ => ∃ (d : Addr) (n : Nat), vs = [.ref d, .int (n : Int)] ∧ Dk H d ∧ n ≤ 600 ∧
  ∀ (H' : Hp) (l : Addr) (ns : List Str), ns.length = n → ns.Nodup → (∀ z ∈ ns, IsNm z) → H l = none → l ≠ d → H' l = some (.lst (ns.map V.str)) → Kp d H H' → Dk H' d → Q (.ref l) H'
structure NmI (d S L : Addr) (H0 : Hp) (i : Nat) (ns : List Str) (H' : Hp) : Prop where
  len : ns.length = i
  nd : ns.Nodup
  nm : ∀ z ∈ ns, IsNm z
  eL : H' L = some (.lst (ns.map V.str))
  eS : H' S = some (.lst (spares.map V.str))
  dk : Dk H' d
  kp : Kp d H0 H'
theorem NmI.step {d S L : Addr} {H0 : Hp} {i : Nat} {ns : List Str} {H' H2 : Hp} (I : NmI d S L H0 i ns H') (hL : L ≠ d) (hS : S ≠ d) (k : Kp d H' H2) (hD : Dk H2 d) : NmI d S L H0 i ns H2 :=
  ⟨I.len, I.nd, I.nm, k L _ hL I.eL, k S _ hS I.eS, hD, I.kp.trans k⟩
theorem len_rep8 (l : List Nat) : ((List.replicate 8 l).flatten).length = 8 * l.length := by
  rw [List.length_flatten, List.map_replicate]
  simp [List.replicate]
  omega
def slotNat (σ : L2.St) (i : Nat) : Nat := match σ[i]? with
  | some (some (V.int k)) => k.toNat
  | _ => 0
theorem two_signs (a b : Nat) : (⟨#[a]⟩ : Str) ++ ⟨#[b]⟩ = ⟨#[a, b]⟩ := TL.ext_tl (by
  rw [TL.tl_append]
  rfl)
theorem inV_strs (z : Str) (ns : List Str) : inV (.str z) (ns.map V.str) = ns.contains z := by
  unfold inV
  rw [List.any_map]
  induction ns with
  | nil => rfl
  | cons y r ih =>
    rw [List.any_cons, List.contains_cons, ih]
    congr 1
    show (y == z) = (z == y)
    rw [Bool.eq_iff_iff, beq_iff_eq, beq_iff_eq]
    exact eq_comm
theorem flat_strs (ns : List Str) : (ns.map V.str).all flatV = true := by
  rw [List.all_map]
  exact List.all_eq_true.mpr fun _ _ => rfl
theorem nm_sign {a b : List Nat} {c : Nat} {z : Str} (hz : TL.tl z = a ++ [c] ++ b) (hc : IsLt c) (ha : ∀ x ∈ a, IsLt x) (hb : ∀ x ∈ b, IsLt x) (hl : a.length + b.length ≤ 7) : IsNm z := by
  refine ⟨?_, ?_, ?_⟩
  · rw [hz]
    simp
    omega
  · rw [hz]
    simp
    omega
  · rw [hz]
    intro x hx
    rcases List.mem_append.mp hx with h | h
    · rcases List.mem_append.mp h with h | h
      · exact ha x h
      · rcases List.mem_cons.mp h with rfl | h
        · exact hc
        · cases h
    · exact hb x h
theorem pure_namesL {K : PySem.W.Frag} (vs : List V) (H : Hp) (Q : VK) (E : XK) (h : sp_namesL vs H Q E) : t_namesL K { nx := fun _ H' => Q .non H', rt := Q } (start n_namesL vs) H := by
  obtain ⟨d, n, rfl, hD, hn, q⟩ := h
  -- the spare names
  refine ⟨676, rfl, by decide, by decide, fun S nS => ?_⟩
  have hSd : S ≠ d := hD.ne nS
  refine lc_range (lo := 0) (n := (676 : Int).toNat) (fun i H' => H' = upd H S (.lst ((spares.take i).map V.str))) rfl (fun i H' hi hp => ?_) (fun H1 hp => ?_)
  · subst hp
    have h676 : (676 : Int).toNat = 676 := rfl
    have a0 : (0 : Int) ≤ (0 + (i : Int)) / 26 := by omega
    have a1 : (0 + (i : Int)) / 26 < 26 := by omega
    have b0 : (0 : Int) ≤ (0 + (i : Int)) % 26 := by omega
    have b1 : (0 + (i : Int)) % 26 < 26 := by omega
    refine ⟨rfl, .str letters, rfl, .int (0 + i), rfl, _, _, rfl, rfl, ⟨by decide, by decide⟩, letters, _, _, rfl, rfl, letters_len, letters_at a0 a1, .str letters, rfl, .int (0 + i), rfl, _, _, rfl, rfl, (by decide : (0 : Int) < 26), letters, _, _, rfl, rfl, letters_len, letters_at b0 b1, _, _, rfl, rfl, ?_, _, upd_same, ?_, ?_⟩
    · exact big (by show 1 + 1 ≤ 100000; decide)
    · rw [List.length_map, List.length_take]
      exact big' (by rw [spares_len]; omega)
    · have e : spares.take (i + 1) = spares.take i ++ [spare i] := by
        rw [List.take_add_one, spares_get (by omega)]
        rfl
      have e2 : (⟨#[97 + ((0 + (i : Int)) / 26).toNat]⟩ : Str) ++ ⟨#[97 + ((0 + (i : Int)) % 26).toNat]⟩ = spare i := by
        rw [two_signs]
        unfold spare
        have e3 : ((0 + (i : Int)) / 26).toNat = i / 26 := by omega
        have e4 : ((0 + (i : Int)) % 26).toNat = i % 26 := by omega
        rw [e3, e4]
      rw [e, upd_upd, e2, List.map_append]
      rfl
  · have eSp : spares.take (676 : Int).toNat = spares := List.take_of_length_le (by rw [spares_len]; decide)
    rw [eSp] at hp
    have hD1 : Dk H1 d := by rw [hp]; exact hD.new nS
    have k1 : Kp d H H1 := by rw [hp]; exact Kp.new nS
    have eS1 : H1 S = some (.lst (spares.map V.str)) := by rw [hp]; exact upd_same
    -- way, base
    refine ⟨.ref d, rfl, d, 4, rfl, hD1, by decide, by decide, fun H3 way w0 w1 k3 hD3 => ?_⟩
    refine ⟨.ref d, rfl, d, rfl, hD3, fun H4 z0 hz0 k4 hD4 => ?_⟩
    have hz1 : 1 ≤ (TL.tl z0).length := hz0.1
    have hz8 : (TL.tl z0).length ≤ 8 := hz0.2.1
    have em : TL.tl (Txt.mul z0 8) = (List.replicate 8 (TL.tl z0)).flatten := tl_mul z0 8 (by decide) hz1
    have lm : (TL.tl (Txt.mul z0 8)).length = 8 * (TL.tl z0).length := by
      rw [em]
      exact len_rep8 _
    refine ⟨z0, 8, rfl, rfl, mulOk_small (n := 8) (by decide) (by omega), 8, rfl, _, rfl, len_tl_le (n := 64) (by omega) (by decide), _, _, rfl, ?_⟩
    generalize hbs : cutS (Txt.mul z0 8) none (some 8) = bs
    have tb : TL.tl bs = (TL.tl (Txt.mul z0 8)).take 8 := by rw [← hbs]; exact tl_cut_to _ 8
    have lb : (TL.tl bs).length = 8 := by
      rw [tb, List.length_take, lm]
      omega
    have cb : ∀ c ∈ TL.tl bs, IsLt c := fun c hc => by
      rw [tb] at hc
      have hc2 := List.mem_of_mem_take hc
      rw [em] at hc2
      obtain ⟨l, hl, hcl⟩ := List.mem_flatten.mp hc2
      rw [List.eq_of_mem_replicate hl] at hcl
      exact hz0.2.2 c hcl
    have szb : bs.length ≤ sizeLine := len_tl_le (n := 8) (by omega) (by decide)
    -- place, at, names
    refine ⟨.ref d, rfl, d, 8, rfl, hD4, by decide, by decide, fun H5 pl p0 p1 k5 hD5 => ⟨big (by decide), fun L nL => ⟨_, _, _, rfl, ?_⟩⟩⟩
    have hLd : L ≠ d := hD5.ne nL
    have k35 : Kp d H1 H5 := (k3.trans k4).trans k5
    have eS5 : H5 S = some (.lst (spares.map V.str)) := k35 S _ hSd eS1
    have hSL : S ≠ L := ne_of_none eS5 nL
    have nL0 : H L = none := (k1.trans k35).free hLd nL
    refine ⟨.int n, rfl, n, rfl, by omega, by omega, for_range (lo := 0) (n := (n : Int).toNat) (fun i σ H' => ∃ (ns : List Str) (at_ : Nat) (y9 y10 y11 : Option V), σ = [some (.ref d), some (.int n), some (.str letters), some (.ref S), some (.int way), some (.str bs), some (.int pl), some (.int at_), some (.ref L), y9, y10, y11] ∧ NmI d S L H i ns H' ∧ (∀ j, j < at_ → spare j ∈ ns) ∧ at_ ≤ 676) ?_ (fun i σ H' hi hp => ?_) (fun σ H' hp => ?_)⟩
    · refine ⟨[], 0, none, none, none, rfl, ⟨rfl, List.nodup_nil, (fun _ h => nomatch h), upd_same, ?_, hD5.new nL, (k1.trans k35).then_new nL⟩, (fun j h => absurd h (Nat.not_lt_zero _)), by decide⟩
      rw [upd_ne hSL]
      exact eS5
    · obtain ⟨ns, at_, y9, y10, y11, rfl, I, hu, h676⟩ := hp
      have hin : i < n := by
        rw [Int.toNat_natCast] at hi
        exact hi
      have hat : at_ ≤ ns.length := used_le h676 hu
      -- the kind
      refine seq_by (fun σ' H' => ∃ (kd : Int), σ' = [some (.ref d), some (.int n), some (.str letters), some (.ref S), some (.int way), some (.str bs), some (.int pl), some (.int at_), some (.ref L), some (.int (0 + i)), some (.int kd), y11] ∧ NmI d S L H i ns H') (fun σ' H' hJ => ?_) (fun rest => ?_)
      · obtain ⟨kd, rfl, I⟩ := hJ
        -- the name
        refine seq_by (fun σ' H' => ∃ (z : Str), IsNm z ∧ σ' = [some (.ref d), some (.int n), some (.str letters), some (.ref S), some (.int way), some (.str bs), some (.int pl), some (.int at_), some (.ref L), some (.int (0 + i)), some (.int kd), some (.str z)] ∧ NmI d S L H i ns H') (fun σ' H' hJ => ?_) (fun rest => ?_)
        · obtain ⟨z, hz, rfl, I⟩ := hJ
          -- while it stands there
          refine while_by (fun σ' H2 => ∃ (z : Str) (at2 : Nat), IsNm z ∧ σ' = [some (.ref d), some (.int n), some (.str letters), some (.ref S), some (.int way), some (.str bs), some (.int pl), some (.int at2), some (.ref L), some (.int (0 + i)), some (.int kd), some (.str z)] ∧ H2 = H' ∧ at2 ≤ 676 ∧ ∀ j, j < at2 → spare j ∈ ns ∨ spare j = z)
            (fun σ' _ => 676 - slotNat σ' 7) ⟨z, at_, hz, rfl, rfl, h676, fun j hj => .inl (hu j hj)⟩ (fun σ' H2 hp => ?_) (fun σ' H2 Q1 Q2 hm hc => ?_)
          · obtain ⟨z, at2, hz, rfl, rfl, h2, hu2⟩ := hp
            refine ⟨.str z, rfl, .ref L, rfl, L, _, rfl, .inl (.inl (.inl I.eL)), rfl, flat_strs ns, _, rfl, ?_⟩
            show if (if false = true then !inV (.str z) (ns.map V.str) else inV (.str z) (ns.map V.str)) = true then _ else _
            rw [if_neg Bool.false_ne_true, inV_strs]
            by_cases hc : ns.contains z = true
            · rw [if_pos hc]
              have hzm : z ∈ ns := by simpa using hc
              have hu3 : ∀ j, j < at2 → spare j ∈ ns := fun j hj => by
                rcases hu2 j hj with h | h
                · exact h
                · rw [h]; exact hzm
              have ha2 : at2 ≤ ns.length := used_le h2 hu3
              have hl := I.len
              refine ⟨.ref S, rfl, .int at2, rfl, S, _, at2, .str (spare at2), rfl, rfl, .inl (.inl I.eS), atI_nat ?_, .int at2, rfl, _, _, rfl, rfl, ⟨spare at2, at2 + 1, spare_nm (by omega), rfl, rfl, by omega, fun j hj => ?_⟩, ?_⟩
              · rw [List.getElem?_map, spares_get (by omega)]
                rfl
              · by_cases hj2 : j < at2
                · exact .inl (hu3 j hj2)
                · have : j = at2 := by omega
                  subst this
                  exact .inr rfl
              · show 676 - ((at2 : Int) + 1).toNat < 676 - (at2 : Int).toNat
                omega
            · rw [if_neg hc]
              have hzm : z ∉ ns := by simpa using hc
              refine ⟨.ref L, rfl, .inl ⟨rfl, _, .inl (.inl I.eL)⟩, .str z, rfl, L, _, _, rfl, rfl, I.eL, ?_, ns ++ [z], at2, _, _, _, rfl, ⟨?_, ?_, ?_, ?_, ?_, ?_, ?_⟩, ?_, h2⟩
              · rw [List.length_map, I.len]
                exact big' (by omega)
              · rw [List.length_append, I.len]
                rfl
              · rw [List.nodup_append]
                refine ⟨I.nd, List.nodup_cons.mpr ⟨(fun h => nomatch h), List.nodup_nil⟩, fun a ha b hb => ?_⟩
                rcases List.mem_cons.mp hb with rfl | hb
                · exact fun e => hzm (by rw [← e]; exact ha)
                · cases hb
              · intro y hy
                rcases List.mem_append.mp hy with h | h
                · exact I.nm y h
                · rcases List.mem_cons.mp h with rfl | h
                  · exact hz
                  · cases h
              · rw [upd_same, List.map_append]
                rfl
              · rw [upd_ne hSL]
                exact I.eS
              · exact I.dk.upd hLd
              · exact I.kp.then_at nL0
              · intro j hj
                rcases hu2 j hj with h | h
                · exact List.mem_append_left _ h
                · exact List.mem_append_right _ (by rw [h]; exact List.mem_cons_self)
          · obtain ⟨v, e1, v2, e2, p, xs, e3, e4, e5, e6, k, e7, e8⟩ := hc
            exact ⟨v, e1, v2, e2, p, xs, e3, e4, e5, e6, k, e7, hm _ _ e8⟩
        · refine ⟨.int kd, rfl, rfl, _, rfl, ite2 (fun _ => ?_) (fun _ => ?_)⟩
          · exact ⟨.ref d, rfl, d, rfl, I.dk, fun H6 z hz k6 hD6 => rest _ _ ⟨z, hz, rfl, I.step hLd hSd k6 hD6⟩⟩
          · refine ⟨.int kd, rfl, rfl, _, rfl, ite2 (fun _ => ?_) (fun _ => ?_)⟩
            · obtain ⟨pn, rfl⟩ : ∃ pn : Nat, pl = pn := ⟨pl.toNat, by omega⟩
              refine ⟨.str bs, rfl, .int pn, rfl, pn, rfl, _, rfl, szb, .str letters, rfl, .ref d, rfl, d, 26, rfl, I.dk, by decide, by decide, fun H6 r r0 r1 k6 hD6 => ?_⟩
              have t1 : TL.tl (cutS bs none (some (pn : Int))) = (TL.tl bs).take pn := tl_cut_to bs pn
              have t2 : TL.tl (cutS bs (some ((pn : Int) + 1)) none) = (TL.tl bs).drop (pn + 1) := tl_cut_from bs (pn + 1)
              have l1 : ((TL.tl bs).take pn).length = pn := by rw [List.length_take]; omega
              have l2 : ((TL.tl bs).drop (pn + 1)).length = 7 - pn := by rw [List.length_drop]; omega
              refine ⟨letters, r, _, rfl, rfl, letters_len, letters_at r0 r1, _, _, rfl, rfl, ?_, .str bs, rfl, .int pn, rfl, _, _, rfl, rfl, _, rfl, _, rfl, szb, _, _, rfl, rfl, ?_, rest _ _ ⟨_, nm_sign (a := (TL.tl bs).take pn) (b := (TL.tl bs).drop (pn + 1)) (c := 97 + r.toNat) ?_ ?_ ?_ ?_ ?_, rfl, I.step hLd hSd k6 hD6⟩⟩
              · rw [TL.len_tl, TL.len_tl, t1, l1]
                exact big (by show pn + 1 ≤ 100000; omega)
              · rw [TL.len_tl, TL.len_tl, TL.tl_append, t1, t2, List.length_append, l1, l2]
                exact big (by show pn + 1 + (7 - pn) ≤ 100000; omega)
              · rw [TL.tl_append, TL.tl_append, t1, t2]
              · unfold IsLt
                omega
              · exact fun x hx => cb x (List.mem_of_mem_take hx)
              · exact fun x hx => cb x (List.mem_of_mem_drop hx)
              · omega
            · refine ⟨.str bs, rfl, .ref d, rfl, d, 8, rfl, I.dk, by decide, by decide, fun H6 r r0 r1 k6 hD6 => ?_⟩
              obtain ⟨rn, rfl⟩ : ∃ rn : Nat, r = rn := ⟨r.toNat, by omega⟩
              have t1 : TL.tl (cutS bs none (some (1 + (rn : Int)))) = (TL.tl bs).take (1 + rn) := tl_cut_to bs (1 + rn)
              refine ⟨_, _, rfl, rfl, _, rfl, _, rfl, szb, rest _ _ ⟨_, ⟨?_, ?_, ?_⟩, rfl, I.step hLd hSd k6 hD6⟩⟩
              · rw [t1, List.length_take]
                omega
              · rw [t1, List.length_take]
                omega
              · rw [t1]
                exact fun x hx => cb x (List.mem_of_mem_take hx)
      · refine ⟨.int way, rfl, rfl, _, rfl, ite2 (fun _ => ?_) (fun _ => ?_)⟩
        · exact ⟨.ref d, rfl, d, 3, rfl, I.dk, by decide, by decide, fun H6 r r0 r1 k6 hD6 => rest _ _ ⟨r, rfl, I.step hLd hSd k6 hD6⟩⟩
        · exact ⟨.int way, rfl, rest _ _ ⟨way, rfl, I⟩⟩
    · obtain ⟨ns, at_, y9, y10, y11, rfl, I, hu, h676⟩ := hp
      rw [Int.toNat_natCast] at I
      exact ⟨.ref L, rfl, q H' L ns I.len I.nd I.nm nL0 hLd I.eL I.kp I.dk⟩

def wordsS : List Str := ["first", "last", "ahead", "behind", "front", "back", "swap", "turn", "lift", "cut", "pour", "wrap", "put"]
def singleS : List Str := ["front", "back", "lift", "cut"]

/-! ### any value: isinstance, kept -/
theorem tyx_lst {K : PySem.W.Frag} {H : Hp} {a : Addr} {xs : List V} (h : SqL K H a xs) : TyX K H (.ref a) (.type "list") := by
  rcases h with (h | ⟨o, h⟩) | ⟨o, its, n, h, c, _⟩
  · exact .base (.lst h)
  · exact .base (.frz h)
  · exact .kList h c
theorem tyx_tup {K : PySem.W.Frag} {H : Hp} {a : Addr} {xs : List V} (h : SqT K H a xs) : TyX K H (.ref a) (.type "tuple") := by
  rcases h with (h | ⟨o, h⟩) | ⟨o, its, n, h, c, _⟩
  · exact .base (.tup h)
  · exact .fTuple h
  · exact .kTuple h c
def isS : V → Bool
  | .str _ => true
  | _ => false
theorem isi_str {K : PySem.W.Frag} {H : Hp} {x : V} (h : AV K H x) : ∃ t, TyX K H x t ∧ PySem.W.kitOne K t (.type "str") = some (isS x) := by
  cases h with
  | non => exact ⟨_, .base .non, kit_ty (by decide +kernel : kitB "NoneType" "str" = some false)⟩
  | bl b => exact ⟨_, .base (.bl b), kit_ty (by decide +kernel : kitB "bool" "str" = some false)⟩
  | int i => exact ⟨_, .base (.int i), kit_ty (by decide +kernel : kitB "int" "str" = some false)⟩
  | str z _ => exact ⟨_, .base (.str z), kit_ty (by decide +kernel : kitB "str" "str" = some true)⟩
  | lst h => exact ⟨_, tyx_lst h, kit_ty (by decide +kernel : kitB "list" "str" = some false)⟩
  | tup h => exact ⟨_, tyx_tup h, kit_ty (by decide +kernel : kitB "tuple" "str" = some false)⟩
  | dct h => exact ⟨_, .base (.dK h), kit_ty (by decide +kernel : kitB "dict" "str" = some false)⟩
theorem isi_tup {K : PySem.W.Frag} {H : Hp} {x : V} (h : AV K H x) : ∃ t b, TyX K H x t ∧ PySem.W.kitOne K t (.type "tuple") = some b ∧ (b = true → ∃ a xs, x = .ref a ∧ SqT K H a xs) := by
  cases h with
  | non => exact ⟨_, _, .base .non, kit_ty (by decide +kernel : kitB "NoneType" "tuple" = some false), fun z => nomatch z⟩
  | bl b => exact ⟨_, _, .base (.bl b), kit_ty (by decide +kernel : kitB "bool" "tuple" = some false), fun z => nomatch z⟩
  | int i => exact ⟨_, _, .base (.int i), kit_ty (by decide +kernel : kitB "int" "tuple" = some false), fun z => nomatch z⟩
  | str z _ => exact ⟨_, _, .base (.str z), kit_ty (by decide +kernel : kitB "str" "tuple" = some false), fun z => nomatch z⟩
  | lst h => exact ⟨_, _, tyx_lst h, kit_ty (by decide +kernel : kitB "list" "tuple" = some false), fun z => nomatch z⟩
  | tup h => exact ⟨_, _, tyx_tup h, kit_ty (by decide +kernel : kitB "tuple" "tuple" = some true), fun _ => ⟨_, _, rfl, h⟩⟩
  | dct h => exact ⟨_, _, .base (.dK h), kit_ty (by decide +kernel : kitB "dict" "tuple" = some false), fun z => nomatch z⟩
theorem kit_tt {K : PySem.W.Frag} : PySem.W.kitOne K (.type "tuple") (.type "tuple") = some true := kit_ty (by decide +kernel)
theorem kit_nt {K : PySem.W.Frag} : PySem.W.kitOne K (.type "NoneType") (.type "tuple") = some false := kit_ty (by decide +kernel)
theorem AV.same {K : PySem.W.Frag} {H H' : Hp} {x : V} (h : AV K H x) (s : Same H H') : AV K H' x := by
  cases h with
  | non => exact .non
  | bl b => exact .bl b
  | int i => exact .int i
  | str z sz => exact .str z sz
  | lst h => exact .lst (s.seq h)
  | tup h => exact .tup (Same.sqT s h)
  | dct h => exact .dct (s _ _ h)
/-- kept, if it is not the deck itself -/
theorem AV.keep {K : PySem.W.Frag} {H H' : Hp} {d : Addr} {x : V} (h : AV K H x) (n : x ≠ .ref d) (k : Kp d H H') : AV K H' x := by
  have ne : ∀ a, x = .ref a → a ≠ d := fun a e z => n (by rw [e, z])
  cases h with
  | non => exact .non
  | bl b => exact .bl b
  | int i => exact .int i
  | str z sz => exact .str z sz
  | lst h => exact .lst (k.sqL (ne _ rfl) h)
  | tup h =>
    rcases h with h | h
    · exact .tup (.inl (Rd.keep (fun o => k _ o (ne _ rfl)) h))
    · exact .tup (.inr h)
  | dct h => exact .dct (k _ _ (ne _ rfl) h)
/-! ### names, as a test -/
def nmB (z : Str) : Bool := (decide (1 ≤ (TL.tl z).length) && decide ((TL.tl z).length ≤ 8)) && (TL.tl z).all fun c => decide (97 ≤ c) && decide (c ≤ 122)
def nameV : V → Bool
  | .str z => nmB z
  | _ => false
theorem nmB_iff (z : Str) : nmB z = true ↔ IsNm z := by
  unfold nmB IsNm IsLt
  simp only [Bool.and_eq_true, decide_eq_true_eq, List.all_eq_true]
  exact ⟨fun ⟨⟨a, b⟩, c⟩ => ⟨a, b, c⟩, fun ⟨a, b, c⟩ => ⟨⟨a, b⟩, c⟩⟩
theorem letters_mem : ∀ c : Nat, c < 200 → decide (c ∈ letters.cps.toList) = (decide (97 ≤ c) && decide (c ≤ 122)) := by decide +kernel
theorem letters_max : ∀ c ∈ letters.cps.toList, c ≤ 122 := by decide +kernel
theorem letters_in (c : Nat) : decide (c ∈ letters.cps.toList) = (decide (97 ≤ c) && decide (c ≤ 122)) := by
  by_cases h : c < 200
  · exact letters_mem c h
  · have h1 : ¬ c ∈ letters.cps.toList := fun m => by have := letters_max c m; omega
    have h2 : ¬ c ≤ 122 := by omega
    rw [decide_eq_false h1, decide_eq_false h2, Bool.and_false]
theorem TyX.same {K : PySem.W.Frag} {H H' : Hp} {x : V} {t : Value} (h : TyX K H x t) (s : Same H H') : TyX K H' x t := by
  cases h with
  | base b =>
    refine .base ?_
    cases b with
    | non => exact .non
    | bl y => exact .bl y
    | int i => exact .int i
    | str y => exact .str y
    | flt y => exact .flt y
    | lst e => exact .lst (s _ _ e)
    | frz e => exact .frz (s _ _ e)
    | tup e => exact .tup (s _ _ e)
    | dK e => exact .dK (s _ _ e)
    | dT e => exact .dT (s _ _ e)
    | ins e cl ha hn htk hm => exact .ins (s _ _ e) cl ha hn htk hm
  | byt b => exact .byt b
  | set e => exact .set (s _ _ e)
  | kList e c => exact .kList e c
  | kTuple e c => exact .kTuple e c
  | kDict e c => exact .kDict e c
  | fTuple e => exact .fTuple (s _ _ e)
  | fDict e => exact .fDict (s _ _ e)

/-- slots of is_name: 0 value, 1 sign -/
def n_is_name : List Str := ["value", "sign"]
def t_is_name (K : PySem.W.Frag) : TS :=
  (tSeq (tIfS (tOr (tNot (tB (tCB (rIsi K) (tCons (tVar 0) (tCons (tC (.ty "str")) tNil))))) (tNot (tTest (tChain rLeI rLeI (tC (.int 1)) (tCB rLenS (tCons (tVar 0) tNil)) (tC (.int 8)))))) (tRet (tC (.bl false))) tNext)
    (tRet (tCB (rAll K) (tCons (tLc (iStr (tVar 0)) (gName 1) tYes (tOp rInS (tVar 1) (tC (.str "abcdefghijklmnopqrstuvwxyz"))) [1]) tNil))))

/-- whether a value is a name -/
def sp_is_name (K : PySem.W.Frag) : Sp := fun vs H Q _ => ∃ x : V, vs = [x] ∧ AV K H x ∧ ∀ H', Same H H' → Q (.bl (nameV x)) H'
theorem all_take_more {α β : Type} {p : α → β} {l : List α} {i : Nat} {c : α} (h : l[i]? = some c) : (l.take (i + 1)).map p = (l.take i).map p ++ [p c] := by
  rw [List.take_add_one, h, List.map_append]
  rfl
theorem pure_is_name {K : PySem.W.Frag} (vs : List V) (H : Hp) (Q : VK) (E : XK) (h : sp_is_name K vs H Q E) : t_is_name K { nx := fun _ H' => Q .non H', rt := Q } (start n_is_name vs) H := by
  obtain ⟨x, rfl, hx, q⟩ := h
  obtain ⟨t, ty, kt⟩ := isi_str hx
  refine ⟨x, rfl, x, .ty "str", t, .type "str", isS x, rfl, .ty "str", ty, kt, _, rfl, ?_⟩
  have no : nameV x = false → Q (.bl false) H := fun e => by
    have := q H (Same.refl H)
    rw [e] at this
    exact this
  cases hx with
  | str z sz =>
    have sz' : (TL.tl z).length = z.length := (TL.len_tl z).symm
    refine ⟨.str z, rfl, z, rfl, sz, _, _, rfl, rfl, _, rfl, ?_⟩
    refine ite2 (fun h1 => ?_) (fun h1 => ?_)
    · have h1' := of_decide_eq_true h1
      refine ⟨_, _, rfl, rfl, _, rfl, ?_⟩
      show if (!decide (((z.length : Nat) : Int) ≤ 8)) = true then _ else _
      by_cases h2 : (z.length : Int) ≤ 8
      · rw [decide_eq_true h2]
        refine iteF ?_
        refine ⟨.str z, rfl, z, rfl, fun D nD => ?_⟩
        have nm : nameV (.str z) = ((TL.tl z).map fun c => decide (97 ≤ c) && decide (c ≤ 122)).all id := by
          show nmB z = _
          unfold nmB
          rw [decide_eq_true (show 1 ≤ (TL.tl z).length by omega), decide_eq_true (show (TL.tl z).length ≤ 8 by omega), List.all_map]
          rfl
        refine lc_it (walk_str (z := z)) (fun i H' => H' = upd H D (.lst (((TL.tl z).take i).map fun c => V.bl (decide (97 ≤ c) && decide (c ≤ 122))))) rfl (fun _ _ _ _ => trivial) (fun i v H' H2 hi hp hy => ?_) (fun H' hp => ?_)
        · obtain ⟨e2, c, hc, rfl⟩ := hy
          subst hp e2
          have hc' : (TL.tl z)[i]? = some c := by
            show z.cps.toList[i]? = some c
            rw [Array.getElem?_toList]
            exact hc
          refine ⟨rfl, _, rfl, c, letters, rfl, rfl, _, upd_same, ?_, ?_⟩
          · rw [List.length_map, List.length_take]
            exact big' (by omega)
          · rw [upd_upd, letters_in, all_take_more (p := fun c => V.bl (decide (97 ≤ c) && decide (c ≤ 122))) hc']
        · subst hp
          have e : (TL.tl z).take z.cps.size = TL.tl z := List.take_of_length_le (by show z.cps.toList.length ≤ _; simp)
          rw [e]
          refine ⟨D, (TL.tl z).map fun c => decide (97 ≤ c) && decide (c ≤ 122), rfl, .inl (.inl ?_), ?_⟩
          · rw [upd_same, List.map_map]
            rfl
          · rw [← nm]
            exact q _ (same_new nD)
      · rw [decide_eq_false h2]
        refine iteT (no ?_)
        show nmB z = false
        unfold nmB
        rw [decide_eq_false (show ¬ (TL.tl z).length ≤ 8 by omega), Bool.and_false, Bool.false_and]
    · have h1' : ¬ (1 : Int) ≤ z.length := fun c => h1 (decide_eq_true c)
      refine ⟨_, rfl, ?_⟩
      refine iteT (no ?_)
      show nmB z = false
      unfold nmB
      rw [decide_eq_false (show ¬ 1 ≤ (TL.tl z).length by omega)]
      rfl
  | _ => exact no rfl

/-- slots of deed_error: 0 value, 1 item -/
def n_deed_error : List Str := ["value", "item"]
def t_deed_error (K : PySem.W.Frag) : TS :=
  (tSeq (tIfS (tOr (tNot (tB (tCB (rIsi K) (tCons (tVar 0) (tCons (tC (.ty "tuple")) tNil))))) (tOr (tTest (tOp (rEqE K) (tVar 0) (tTup tNil))) (tTest (tOp (rInA K true) (tOp (rIxT K) (tVar 0) (tC (.int 0))) (tC (.ref (He.ga K "WORDS"))))))) (tRet (tC (.str "deed"))) tNext)
    (tSeq (tIfS (tTest (tOp rNe (tCB (rLenQ K) (tCons (tVar 0) tNil)) (tIf (tTest (tOp (rInA K false) (tOp (rIxT K) (tVar 0) (tC (.int 0))) (tC (.ref (He.ga K "SINGLE"))))) (tC (.int 2)) (tC (.int 3))))) (tRet (tC (.str "deed"))) tNext)
    (tRet (tIf (tB (tCB (rAll K) (tCons (tLc (iTup K (L2.tSl (rSlA K) (tVar 0) (tPart (tC (.int 1))) tNoPart)) (gName 1) tYes (tCall (sp_is_name K) [] E0 (tCons (tVar 1) tNil)) [1]) tNil))) (tC .non) (tC (.str "name"))))))

/-- the first reason against a deed: none for what is one -/
def deedErr : List V → V
  | [] => .str "deed"
  | x :: r => if inA x wordsS = false then .str "deed" else if r.length ≠ (if inA x singleS = true then 1 else 2) then .str "deed" else if r.all nameV = true then .non else .str "name"
theorem deedErr_cons (x : V) (r : List V) : deedErr (x :: r) = if inA x wordsS = false then .str "deed" else if r.length ≠ (if inA x singleS = true then 1 else 2) then .str "deed" else if r.all nameV = true then .non else .str "name" := rfl
/-- what a value is against a deed -/
def DeedV (K : PySem.W.Frag) (H : Hp) (x e : V) : Prop := AV K H x ∧
  ((∃ a xs, x = .ref a ∧ SqT K H a xs ∧ (∀ v ∈ xs, AV K H v) ∧ xs.length ≤ 1000 ∧ e = deedErr xs) ∨ ((∃ t, TyX K H x t ∧ PySem.W.kitOne K t (.type "tuple") = some false) ∧ e = .str "deed"))
def sp_deed_error (K : PySem.W.Frag) : Sp := fun vs H Q _ => ∃ x e : V, vs = [x] ∧ DeedV K H x e ∧ ∀ H', Same H H' → Q e H'
/-- the tables of the top -/
structure DeedTabs (K : PySem.W.Frag) : Prop where
  w : ∀ H, SqT K H (He.ga K "WORDS") (wordsS.map V.str)
  s : ∀ H, SqT K H (He.ga K "SINGLE") (singleS.map V.str)
theorem cut_from1 (xs : List V) : cutV xs (some 1) none = xs.drop 1 := by
  unfold cutV
  rw [HT.sIx_none, show HT.sIx xs.length 0 (some 1) = min 1 xs.length from HT.sIx_nat xs.length 0 1]
  by_cases h : 1 ≤ xs.length
  · rw [Nat.min_eq_left h]
    exact List.take_of_length_le (by rw [List.length_drop]; omega)
  · rw [Nat.min_eq_right (by omega), List.drop_of_length_le (Nat.le_refl _), List.drop_of_length_le (by omega)]
    simp
theorem pure_deed_error {K : PySem.W.Frag} (Tb : DeedTabs K) (vs : List V) (H : Hp) (Q : VK) (E : XK) (h : sp_deed_error K vs H Q E) : t_deed_error K { nx := fun _ H' => Q .non H', rt := Q } (start n_deed_error vs) H := by
  obtain ⟨x, e, rfl, ⟨hx, hc⟩, q⟩ := h
  rcases hc with ⟨a, xs, rfl, hT, hv, hl, rfl⟩ | ⟨⟨t, ty, kt⟩, rfl⟩
  · refine seq_by (fun σ H' => σ = [some (.ref a), none] ∧ Same H H' ∧ ∃ y r, xs = y :: r ∧ inA y wordsS = true) (fun σ H' hJ => ?_) (fun rest => ?_)
    · obtain ⟨rfl, s1, y, r, rfl, ew⟩ := hJ
      have hT1 := Same.sqT s1 hT
      have ay : AV K H' y := (hv y List.mem_cons_self).same s1
      have q' : ∀ H', Same H H' → Q (if r.length ≠ (if inA y singleS = true then 1 else 2) then .str "deed" else if r.all nameV = true then .non else .str "name") H' := fun H' s => by
        have := q H' s
        rw [deedErr_cons, if_neg (by rw [ew]; exact Bool.noConfusion)] at this
        exact this
      refine seq_by (fun σ H2 => σ = [some (.ref a), none] ∧ H2 = H' ∧ r.length = (if inA y singleS = true then 1 else 2)) (fun σ H2 hJ => ?_) (fun rest => ?_)
      · obtain ⟨rfl, rfl, hr⟩ := hJ
        have q2 : ∀ H', Same H H' → Q (if r.all nameV = true then .non else .str "name") H' := fun H' s => by
          have := q' H' s
          rw [if_neg (not_not_intro hr)] at this
          exact this
        have fin : ∀ (p : Addr) (H2 : Hp), SqT K H2 p r → Same H H2 → iTup K (tC (.ref p)) [some (.ref a), none] H2 fun J H1 => ∀ D, H1 D = none → ∃ W : Nat → Nat → Hp → Prop, (∃ m, W 0 m (upd H1 D (.lst []))) ∧ ∀ i m H, W i m H → (J.stop i H ∧ (rAll K [.ref D] H fun v H' => ∃ c, v = .bl c ∧ if c = true then Q .non H' else Q (.str "name") H')) ∨ (J.go i H ∧ ∃ Nx : Hp → Prop, (∀ H', Nx H' → ∃ m', m' < m ∧ W (i + 1) m' H') ∧ ∀ x H', J.yld i H x H' → gName 1 x (wipe [some (.ref a), none] [1]) H' fun σ2 H2 => wipe σ2 [1] = wipe [some (.ref a), none] [1] ∧ tYes σ2 H2 fun b H3 => if b = true then tCall (sp_is_name K) [] E0 (tCons (tVar 1) tNil) σ2 H3 fun y H4 => ∃ acc, H4 D = some (.lst acc) ∧ acc.length < sizeLine ∧ Nx (upd H4 D (.lst (acc ++ [y]))) else Nx H3) := by
          intro p H2 hp s2
          refine ⟨p, rfl, ⟨_, hp⟩, fun D nD => ?_⟩
          refine lc_it (walk_tup (xs := r)) (fun i H' => Same H2 H' ∧ H' D = some (.lst ((r.take i).map fun v => V.bl (nameV v)))) ⟨same_new nD, upd_same⟩ (fun i H' _ hp' => Same.sqT hp'.1 hp) (fun i v H' H3 hi hp' hy => ?_) (fun H' hp' => ?_)
          · obtain ⟨rfl, hv'⟩ := hy
            have mem : v ∈ r := List.mem_of_getElem? hv'
            refine ⟨rfl, v, rfl, v, rfl, ((hv v (List.mem_cons_of_mem _ mem)).same s2).same hp'.1, fun H4 s4 => ⟨_, s4 _ _ hp'.2, ?_, ?_, ?_⟩⟩
            · rw [List.length_map, List.length_take, List.length_cons] at *
              exact big' (by omega)
            · exact fun b o e => by
                rw [upd_ne (ne_of_none e nD)]
                exact s4 _ _ (hp'.1 _ _ e)
            · rw [upd_same, all_take_more (p := fun v => V.bl (nameV v)) hv']
          · have e : r.take r.length = r := List.take_of_length_le (Nat.le_refl _)
            rw [e] at hp'
            refine ⟨D, r.map nameV, rfl, .inl (.inl ?_), _, rfl, ?_⟩
            · rw [hp'.2, List.map_map]
              rfl
            · have := q2 H' (s2.trans hp'.1)
              rw [List.all_map]
              show if r.all nameV = true then _ else _
              by_cases c : r.all nameV = true
              · rw [if_pos c] at this ⊢
                exact this
              · rw [if_neg c] at this ⊢
                exact this
        refine ⟨.ref a, rfl, 1, rfl, a, _, rfl, hT1, fun hw => ?_, fun hw p np => ?_⟩
        · exfalso
          have e1 : HT.sIx (y :: r).length 0 (some 1) = min 1 (y :: r).length := HT.sIx_nat (y :: r).length 0 1
          rw [e1, List.length_cons] at hw
          omega
        · rw [cut_from1]
          exact fin p _ (.inl (.inl upd_same)) (s1.trans (same_new np))
      · refine ⟨.ref a, rfl, a, _, rfl, .inr hT1, .ref a, rfl, a, _, 0, y, rfl, rfl, hT1, atI_nat (j := 0) rfl, _, singleS, rfl, .inr (Tb.s _), ay, _, rfl, ?_⟩
        have fin : ∀ n : Nat, (if inA y singleS = true then 1 else 2) = n → rNe (.int ((y :: r).length : Nat)) (.int ((n + 1 : Nat) : Int)) H' fun v H2 => ∃ k, v = .bl k ∧ if k = true then Q (.str "deed") H2 else tRet (tIf (tB (tCB (rAll K) (tCons (tLc (iTup K (L2.tSl (rSlA K) (tVar 0) (tPart (tC (.int 1))) tNoPart)) (gName 1) tYes (tCall (sp_is_name K) [] E0 (tCons (tVar 1) tNil)) [1]) tNil))) (tC .non) (tC (.str "name"))) { nx := fun _ H' => Q .non H', rt := Q } [some (.ref a), none] H2 := by
          intro n hn
          refine ⟨rfl, _, rfl, ?_⟩
          by_cases c : r.length = n
          · rw [decide_eq_true (show V.int ((y :: r).length : Nat) = V.int ((n + 1 : Nat) : Int) by rw [List.length_cons, c])]
            exact rest _ _ ⟨rfl, rfl, by rw [hn]; exact c⟩
          · rw [decide_eq_false (show ¬ V.int ((y :: r).length : Nat) = V.int ((n + 1 : Nat) : Int) by rw [List.length_cons]; intro z; injection z with z; omega)]
            have := q' H' s1
            rw [hn, if_pos c] at this
            exact this
        show if inA y singleS = true then _ else _
        by_cases c : inA y singleS = true
        · rw [if_pos c]
          exact fin 1 (if_pos c)
        · rw [if_neg c]
          exact fin 2 (if_neg c)
    · refine ⟨.ref a, rfl, .ref a, .ty "tuple", .type "tuple", .type "tuple", true, rfl, .ty "tuple", tyx_tup hT, kit_tt, _, rfl, ?_⟩
      refine ⟨.ref a, rfl, big (by decide), fun p np => ?_⟩
      have s1 : Same H (upd H p (.tup [])) := same_new np
      have hT1 := Same.sqT s1 hT
      refine ⟨a, p, xs, rfl, rfl, .inr ⟨hT1, .inl (.inl upd_same)⟩, _, rfl, ?_⟩
      cases xs with
      | nil => exact q _ s1
      | cons y r =>
        have ay : AV K _ y := (hv y List.mem_cons_self).same s1
        refine ⟨.ref a, rfl, a, _, 0, y, rfl, rfl, hT1, atI_nat (j := 0) rfl, _, wordsS, rfl, .inr (Tb.w _), ay, _, rfl, ?_⟩
        show if (!inA y wordsS) = true then _ else _
        cases ew : inA y wordsS with
        | false =>
          have := q _ s1
          rw [deedErr_cons, if_pos ew] at this
          exact this
        | true => exact rest _ _ ⟨rfl, s1, y, r, rfl, ew⟩
  · refine ⟨x, rfl, x, .ty "tuple", t, .type "tuple", false, rfl, .ty "tuple", ty, kt, _, rfl, ?_⟩
    exact q H (Same.refl H)

/-! ### odd values: flat ones, tuples of such, and lists or dicts (of which nothing is told) -/
inductive OV where
  | non
  | bl (b : Bool)
  | int (i : Int)
  | str (z : Str)
  | tup (xs : List OV)
  | oth
mutual
inductive Ov (K : PySem.W.Frag) (H : Hp) (d : Addr) : V → OV → Prop
  | non : Ov K H d .non .non
  | bl (b : Bool) : Ov K H d (.bl b) (.bl b)
  | int (i : Int) : Ov K H d (.int i) (.int i)
  | str (z : Str) (sz : z.length ≤ 100000) : Ov K H d (.str z) (.str z)
  | tup {a : Addr} {xs : List V} {os : List OV} (ne : a ≠ d) (h : SqT K H a xs) (r : OvAll K H d xs os) (l : xs.length ≤ 1000) : Ov K H d (.ref a) (.tup os)
  | lst {a : Addr} {xs : List V} (ne : a ≠ d) (h : SqL K H a xs) : Ov K H d (.ref a) .oth
  | dct {a : Addr} {kvs : List (Key × V)} (ne : a ≠ d) (h : H a = some (.dK kvs)) : Ov K H d (.ref a) .oth
inductive OvAll (K : PySem.W.Frag) (H : Hp) (d : Addr) : List V → List OV → Prop
  | nil : OvAll K H d [] []
  | cons {x : V} {xs : List V} {o : OV} {os : List OV} (h : Ov K H d x o) (r : OvAll K H d xs os) : OvAll K H d (x :: xs) (o :: os)
end
section
variable {K : PySem.W.Frag} {H H' : Hp} {d : Addr}
mutual
theorem Ov.keep (k : Kp d H H') : ∀ {x : V} {o : OV}, Ov K H d x o → Ov K H' d x o
  | _, _, .non => .non
  | _, _, .bl b => .bl b
  | _, _, .int i => .int i
  | _, _, .str z sz => .str z sz
  | _, _, .tup ne h r l => .tup ne (by
      rcases h with h | h
      · exact .inl (Rd.keep (fun o => k _ o ne) h)
      · exact .inr h) (OvAll.keep k r) l
  | _, _, .lst ne h => .lst ne (k.sqL ne h)
  | _, _, .dct ne h => .dct ne (k _ _ ne h)
theorem OvAll.keep (k : Kp d H H') : ∀ {xs : List V} {os : List OV}, OvAll K H d xs os → OvAll K H' d xs os
  | _, _, .nil => .nil
  | _, _, .cons h r => .cons (Ov.keep k h) (OvAll.keep k r)
end
mutual
/-- .. when a list is changed in place -/
theorem Ov.relist {L : Addr} {ys zs : List V} (hL : H L = some (.lst ys)) : ∀ {x : V} {o : OV}, Ov K H d x o → Ov K (upd H L (.lst zs)) d x o
  | _, _, .non => .non
  | _, _, .bl b => .bl b
  | _, _, .int i => .int i
  | _, _, .str z sz => .str z sz
  | _, _, .tup (a := a) ne h r l => .tup ne (by
      rcases h with h | h
      · refine .inl (Rd.keep (fun o e => ?_) h)
        rw [upd_ne ?_]
        · exact e
        · rintro rfl
          rcases h with h | ⟨_, h⟩
          · rw [hL] at h; cases h
          · rw [hL] at h; cases h
      · exact .inr h) (OvAll.relist hL r) l
  | _, _, .lst (a := a) ne h => by
      by_cases e : a = L
      · subst e
        exact .lst ne (.inl (.inl upd_same))
      · exact .lst ne (by
          rcases h with h | h
          · exact .inl (Rd.keep (fun o q => by rw [upd_ne e]; exact q) h)
          · exact .inr h)
  | _, _, .dct (a := a) ne h => .dct ne (by
      rw [upd_ne ?_]
      · exact h
      · rintro rfl
        rw [hL] at h
        cases h)
theorem OvAll.relist {L : Addr} {ys zs : List V} (hL : H L = some (.lst ys)) : ∀ {xs : List V} {os : List OV}, OvAll K H d xs os → OvAll K (upd H L (.lst zs)) d xs os
  | _, _, .nil => .nil
  | _, _, .cons h r => .cons (Ov.relist hL h) (OvAll.relist hL r)
end
theorem OvAll.length : ∀ {xs : List V} {os : List OV}, OvAll K H d xs os → xs.length = os.length
  | _, _, .nil => rfl
  | _, _, .cons _ r => congrArg (· + 1) r.length
theorem OvAll.mem : ∀ {xs : List V} {os : List OV} {x : V}, OvAll K H d xs os → x ∈ xs → ∃ o, o ∈ os ∧ Ov K H d x o
  | _, _, _, .cons h r, m => by
    rcases List.mem_cons.mp m with rfl | m
    · exact ⟨_, List.mem_cons_self, h⟩
    · obtain ⟨o, mo, ho⟩ := r.mem m
      exact ⟨o, List.mem_cons_of_mem _ mo, ho⟩
theorem OvAll.append : ∀ {xs ys : List V} {os ps : List OV}, OvAll K H d xs os → OvAll K H d ys ps → OvAll K H d (xs ++ ys) (os ++ ps)
  | _, _, _, _, .nil, s => s
  | _, _, _, _, .cons h r, s => .cons h (r.append s)
theorem Ov.av {x : V} {o : OV} (h : Ov K H d x o) : AV K H x := by
  cases h with
  | non => exact .non
  | bl b => exact .bl b
  | int i => exact .int i
  | str z sz => exact .str z (big sz)
  | tup ne h r l => exact .tup h
  | lst ne h => exact .lst h
  | dct ne h => exact .dct h
theorem Ov.ne {x : V} {o : OV} (h : Ov K H d x o) : x ≠ .ref d := by
  cases h with
  | tup ne => exact fun e => ne (V.ref.inj e)
  | lst ne => exact fun e => ne (V.ref.inj e)
  | dct ne => exact fun e => ne (V.ref.inj e)
  | _ => exact fun e => nomatch e
/-- a list of odd values, from one of each -/
theorem ovAll_of : ∀ xs : List V, (∀ x ∈ xs, ∃ o, Ov K H d x o) → ∃ os, OvAll K H d xs os
  | [], _ => ⟨[], .nil⟩
  | x :: xs, h => by
    obtain ⟨o, ho⟩ := h x List.mem_cons_self
    obtain ⟨os, hos⟩ := ovAll_of xs fun y hy => h y (List.mem_cons_of_mem _ hy)
    exact ⟨o :: os, .cons ho hos⟩
end
/-! ### displays of odd values -/
def GE (K : PySem.W.Frag) (d : Addr) (te : TE) : Prop := ∀ σ H Q, Dk H d → (∀ v o H', Same H H' → Ov K H' d v o → Q v H') → te σ H Q
def GA (K : PySem.W.Frag) (d : Addr) (ta : TA) (n : Nat) : Prop := ∀ σ H Q, Dk H d → (∀ vs os H', Same H H' → OvAll K H' d vs os → vs.length = n → Q vs H') → ta σ H Q
section
variable {K : PySem.W.Frag} {d : Addr}
theorem ge_non : GE K d (tC .non) := fun _ H _ _ q => q _ _ H (Same.refl H) .non
theorem ge_bl (b : Bool) : GE K d (tC (.bl b)) := fun _ H _ _ q => q _ _ H (Same.refl H) (.bl b)
theorem ge_int (i : Int) : GE K d (tC (.int i)) := fun _ H _ _ q => q _ _ H (Same.refl H) (.int i)
theorem ge_str (z : Str) (sz : z.length ≤ 100000) : GE K d (tC (.str z)) := fun _ H _ _ q => q _ _ H (Same.refl H) (.str z sz)
theorem ga_nil : GA K d tNil 0 := fun _ H _ _ q => q [] [] H (Same.refl H) .nil rfl
theorem ga_cons {te : TE} {ta : TA} {n : Nat} (h1 : GE K d te) (h2 : GA K d ta n) : GA K d (tCons te ta) (n + 1) := fun σ H Q hD q =>
  h1 σ H _ hD fun v o H1 s1 hv => h2 σ H1 _ (hD.same s1) fun vs os H2 s2 hvs hl => q (v :: vs) (o :: os) H2 (s1.trans s2) (.cons (hv.keep (Kp.of s2)) hvs) (congrArg (· + 1) hl)
theorem ge_tup {ta : TA} {n : Nat} (h : GA K d ta n) (hn : n ≤ 1000) : GE K d (tTup ta) := fun σ H Q hD q =>
  h σ H _ hD fun vs os H1 s1 hvs hl => ⟨big (by omega), fun p np => q (.ref p) (.tup os) _ (s1.trans (same_new np)) (.tup ((hD.same s1).ne np) (.inl (.inl upd_same)) (hvs.keep (Kp.new np)) (by omega))⟩
theorem ge_lst {ta : TA} {n : Nat} (h : GA K d ta n) (hn : n ≤ 1000) : GE K d (tLst ta) := fun σ H Q hD q =>
  h σ H _ hD fun vs os H1 s1 hvs hl => ⟨big (by omega), fun p np => q (.ref p) .oth _ (s1.trans (same_new np)) (.lst ((hD.same s1).ne np) (.inl (.inl upd_same)))⟩
theorem ge_dnew : GE K d tDNewK := fun σ H Q hD q p np => q (.ref p) .oth _ (same_new np) (.dct (hD.ne np) upd_same)
theorem ge_disp1 (k : Str) (v : V) : GE K d (tDisp [(tC (.str k), tC v)]) := fun σ H Q hD q p np =>
  ⟨upd_same, [(Sum.inr k, v)], rfl, (by show 1 ≤ 15; decide), by rw [upd_upd]; exact q (.ref p) .oth _ (same_new np) (.dct (hD.ne np) upd_same)⟩
theorem ge_disp2 (k l : Str) (v w : V) : GE K d (tDisp [(tC (.str k), tC v), (tC (.str l), tC w)]) := fun σ H Q hD q p np =>
  ⟨upd_same, [(Sum.inr k, v), (Sum.inr l, w)], rfl, (by show 2 ≤ 15; decide), by rw [upd_upd]; exact q (.ref p) .oth _ (same_new np) (.dct (hD.ne np) upd_same)⟩
theorem ge_sub (i j : Int) : GE K d (tOp rSubI (tC (.int i)) (tC (.int j))) := fun σ H Q hD q => ⟨i, j, rfl, rfl, q _ _ H (Same.refl H) (.int _)⟩
theorem ge_pow (i j : Int) (h : CPow i j) : GE K d (tOp rPowI (tC (.int i)) (tC (.int j))) := fun σ H Q hD q => ⟨i, j, rfl, rfl, h, q _ _ H (Same.refl H) (.int _)⟩
end
/-- x = [odd values] -/
theorem ga_asg_lst {K : PySem.W.Frag} {d : Addr} {ta : TA} {n i : Nat} {u : TS} {D : Ends} {σ : L2.St} {H : Hp} (h : GA K d ta n) (hn : n ≤ 1000) (hD : Dk H d)
    (q : ∀ vs os H' p, Same H H' → H p = none → OvAll K H' d vs os → vs.length = n → H' p = some (.lst vs) → Dk H' d → u D (σ.set i (some (.ref p))) H') : tSeq (tAsg (tLst ta) (gName i)) u D σ H :=
  h σ H _ hD fun vs os H1 s1 ho hl => ⟨big (by omega), fun p np => q vs os _ p (s1.trans (same_new np)) (s1.free np) (ho.keep (Kp.new np)) hl upd_same ((hD.same s1).new np)⟩
/-- x = x + [odd values] -/
theorem ga_asg_cat {K : PySem.W.Frag} {d : Addr} {ta : TA} {n i j : Nat} {u : TS} {D : Ends} {σ : L2.St} {H : Hp} {p0 : Addr} {vs0 : List V} {os0 : List OV} (h : GA K d ta n) (hn : n ≤ 1000) (hD : Dk H d)
    (e0 : σ[j]? = some (some (.ref p0))) (h0 : H p0 = some (.lst vs0)) (o0 : OvAll K H d vs0 os0) (l0 : vs0.length ≤ 1000)
    (q : ∀ vs os H' p, Same H H' → H p = none → OvAll K H' d vs os → vs.length = vs0.length + n → H' p = some (.lst vs) → Dk H' d → u D (σ.set i (some (.ref p))) H') : tSeq (tAsg (tOp rCat (tVar j) (tLst ta)) (gName i)) u D σ H :=
  ⟨.ref p0, e0, h σ H _ hD fun vs os H1 s1 ho hl => ⟨big (by omega), fun p np => ⟨p0, p, vs0, vs, rfl, rfl, same_new np _ _ (s1 _ _ h0), upd_same, big (by omega), fun p2 np2 =>
    q (vs0 ++ vs) (os0 ++ os) _ p2 ((s1.trans (same_new np)).trans (same_new np2)) ((s1.trans (same_new np)).free np2)
      ((o0.keep (Kp.of ((s1.trans (same_new np)).trans (same_new np2)))).append (ho.keep (Kp.of ((same_new np).trans (same_new np2))))) (by rw [List.length_append, hl]) upd_same (((hD.same s1).new np).new np2)⟩⟩⟩

/-- slots of _law_odd: 0 _law_deck_here, 1 _law_some -/
def n_oddL : List Str := ["_law_deck_here", "_law_some"]
def t_oddL (K : PySem.W.Frag) : TS :=
  (tSeq (tAsg (tLst (tCons (tC .non) (tCons (tC (.bl true)) (tCons (tC (.bl false)) (tCons (tC (.int 0)) (tCons (tC (.int 1)) (tCons (tOp rSubI (tC (.int 0)) (tC (.int 7))) (tCons (tOp rPowI (tC (.int 10)) (tC (.int 39))) (tCons (tC (.str "")) (tCons (tC (.str "A")) (tCons (tC (.str "a ")) (tCons (tC (.str "+a")) (tCons (tC (.str "aaaaaaaaa")) (tCons (tC (.str "a1")) (tCons (tC (.str "z")) (tCons (tC (.str "zzzzzzzz")) tNil)))))))))))))))) (gName 1))
    (tSeq (tAsg (tOp rCat (tVar 1) (tLst (tCons (tC (.str "`")) (tCons (tC (.str "a\n")) (tCons (tC (.str "{")) (tCons (tC (.str "a{")) (tCons (tLst (tCons (tC (.str "z")) (tCons (tTup tNil) tNil))) (tCons (tDisp [((tC (.str "a")), (tC (.int 1))), ((tC (.str "b")), (tC (.int 2)))]) tNil)))))))) (gName 1))
    (tSeq (tAsg (tOp rCat (tVar 1) (tLst (tCons (tTup (tCons (tC (.str "a")) tNil)) (tCons (tTup (tCons (tC (.str "z")) (tCons (tTup tNil) tNil))) (tCons (tLst (tCons (tC (.str "a")) tNil)) (tCons (tLst tNil) (tCons tDNewK (tCons (tDisp [((tC (.str "a")), (tC (.int 1)))]) (tCons (tTup tNil) (tCons (tTup (tCons (tTup tNil) (tCons (tTup tNil) tNil))) (tCons (tTup (tCons (tTup (tCons (tC (.str "z")) (tCons (tTup tNil) tNil))) tNil)) (tCons (tC (.str "first")) tNil)))))))))))) (gName 1))
    (tRet (tCall (sp_pickL K) [] E0 (tCons (tVar 0) (tCons (tVar 1) tNil)))))))

/-- some odd value -/
def sp_oddL (K : PySem.W.Frag) : Sp := fun vs H Q _ => ∃ d : Addr, vs = [.ref d] ∧ Dk H d ∧ ∀ (H' : Hp) (x : V) (o : OV), Ov K H' d x o → Kp d H H' → Dk H' d → Q x H'
theorem ge_s {K : PySem.W.Frag} {d : Addr} (z : Str) (h : decide (z.length ≤ 100) = true) : GE K d (tC (.str z)) := ge_str z (Nat.le_trans (of_decide_eq_true h) (by decide))
theorem pure_oddL {K : PySem.W.Frag} (vs : List V) (H : Hp) (Q : VK) (E : XK) (h : sp_oddL K vs H Q E) : t_oddL K { nx := fun _ H' => Q .non H', rt := Q } (start n_oddL vs) H := by
  obtain ⟨d, rfl, hD, q⟩ := h
  have s1 (z : String) (h : decide ((z : Str).length ≤ 100) = true) : GE K d (tC (.str z)) := ge_s z h
  have e0 : GE K d (tTup tNil) := ge_tup ga_nil (by decide)
  have ez : GE K d (tTup (tCons (tC (.str "z")) (tCons (tTup tNil) tNil))) := ge_tup (ga_cons (s1 "z" (by decide +kernel)) (ga_cons e0 ga_nil)) (by decide)
  unfold t_oddL
  refine ga_asg_lst (ga_cons ge_non (ga_cons (ge_bl true) (ga_cons (ge_bl false) (ga_cons (ge_int 0) (ga_cons (ge_int 1) (ga_cons (ge_sub 0 7) (ga_cons (ge_pow 10 39 ⟨by decide, by decide, by decide⟩) (ga_cons (s1 "" (by decide +kernel)) (ga_cons (s1 "A" (by decide +kernel)) (ga_cons (s1 "a " (by decide +kernel)) (ga_cons (s1 "+a" (by decide +kernel)) (ga_cons (s1 "aaaaaaaaa" (by decide +kernel)) (ga_cons (s1 "a1" (by decide +kernel)) (ga_cons (s1 "z" (by decide +kernel)) (ga_cons (s1 "zzzzzzzz" (by decide +kernel)) ga_nil)))))))))))))))
    (by decide) hD (fun vs os H1 p k1 np ho hl e1 hD1 => ?_)
  refine ga_asg_cat (ga_cons (s1 "`" (by decide +kernel)) (ga_cons (s1 "a\n" (by decide +kernel)) (ga_cons (s1 "{" (by decide +kernel)) (ga_cons (s1 "a{" (by decide +kernel)) (ga_cons (ge_lst (ga_cons (s1 "z" (by decide +kernel)) (ga_cons e0 ga_nil)) (by decide)) (ga_cons (ge_disp2 _ _ _ _) ga_nil))))))
    (by decide) hD1 rfl e1 ho (by omega) (fun vs2 os2 H2 p2 k2 np2 ho2 hl2 e2 hD2 => ?_)
  refine ga_asg_cat (ga_cons (ge_tup (ga_cons (s1 "a" (by decide +kernel)) ga_nil) (by decide)) (ga_cons ez (ga_cons (ge_lst (ga_cons (s1 "a" (by decide +kernel)) ga_nil) (by decide)) (ga_cons (ge_lst ga_nil (by decide)) (ga_cons ge_dnew (ga_cons (ge_disp1 _ _) (ga_cons e0 (ga_cons (ge_tup (ga_cons e0 (ga_cons e0 ga_nil)) (by decide)) (ga_cons (ge_tup (ga_cons ez ga_nil) (by decide)) (ga_cons (s1 "first" (by decide +kernel)) ga_nil))))))))))
    (by decide) hD2 rfl e2 ho2 (by omega) (fun vs3 os3 H3 p3 k3 np3 ho3 hl3 e3 hD3 => ?_)
  refine ⟨.ref d, rfl, .ref p3, rfl, d, p3, _, rfl, hD3, hD2.ne np3, .inl (.inl e3), by omega, by omega, fun H' v mv k hD' => ?_⟩
  obtain ⟨o, _, ho⟩ := ho3.mem mv
  exact q H' v o (ho.keep k) ((Kp.of ((k1.trans k2).trans k3)).trans k) hD'

/-! ### texts in order -/
def leS (a b : Str) : Bool := !ltCps b.cps.toList a.cps.toList
theorem ltCps_irrefl : ∀ a : List Nat, ltCps a a = false
  | [] => rfl
  | a :: r => by
    show (decide (a < a) || (a == a && ltCps r r)) = false
    rw [ltCps_irrefl r]
    simp
theorem ltCps_trans : ∀ a b c : List Nat, ltCps a b = true → ltCps b c = true → ltCps a c = true
  | [], [], c, h, _ => by cases h
  | [], _ :: _, [], _, h => by cases h
  | [], _ :: _, _ :: _, _, _ => rfl
  | _ :: _, [], _, h, _ => by cases h
  | _ :: _, _ :: _, [], _, h => by cases h
  | a :: r, b :: t, c :: u, h1, h2 => by
    have h1' : (decide (a < b) || (a == b && ltCps r t)) = true := h1
    have h2' : (decide (b < c) || (b == c && ltCps t u)) = true := h2
    show (decide (a < c) || (a == c && ltCps r u)) = true
    simp only [Bool.or_eq_true, Bool.and_eq_true, decide_eq_true_eq, beq_iff_eq] at h1' h2' ⊢
    rcases h1' with x | ⟨x, y⟩
    · rcases h2' with z | ⟨z, v⟩
      · exact .inl (by omega)
      · exact .inl (by omega)
    · rcases h2' with z | ⟨z, v⟩
      · exact .inl (by omega)
      · exact .inr ⟨by omega, ltCps_trans r t u y v⟩
theorem ltCps_tri : ∀ a b : List Nat, ltCps a b = false → ltCps b a = false → a = b
  | [], [], _, _ => rfl
  | [], _ :: _, h, _ => by cases h
  | _ :: _, [], _, h => by cases h
  | a :: r, b :: t, h1, h2 => by
    have h1' : (decide (a < b) || (a == b && ltCps r t)) = false := h1
    have h2' : (decide (b < a) || (b == a && ltCps t r)) = false := h2
    simp only [Bool.or_eq_false_iff, decide_eq_false_iff_not, Bool.and_eq_false_iff, beq_eq_false_iff_ne] at h1' h2'
    have e : a = b := by omega
    subst e
    rcases h1'.2 with h | h
    · exact absurd rfl h
    · rcases h2'.2 with h' | h'
      · exact absurd rfl h'
      · rw [ltCps_tri r t h h']
theorem leS_trans (a b c : Str) (h1 : leS a b = true) (h2 : leS b c = true) : leS a c = true := by
  unfold leS at *
  simp only [Bool.not_eq_true'] at *
  cases h : ltCps c.cps.toList a.cps.toList with
  | false => rfl
  | true =>
    cases hb : ltCps a.cps.toList b.cps.toList with
    | true =>
      rw [ltCps_trans _ _ _ h hb] at h2
      cases h2
    | false =>
      have e := ltCps_tri _ _ hb h1
      rw [e] at h
      rw [h] at h2
      cases h2
theorem leS_total (a b : Str) : (leS a b || leS b a) = true := by
  unfold leS
  cases h : ltCps b.cps.toList a.cps.toList with
  | false => rfl
  | true =>
    cases h2 : ltCps a.cps.toList b.cps.toList with
    | false => rfl
    | true =>
      have := ltCps_trans _ _ _ h h2
      rw [ltCps_irrefl] at this
      cases this
theorem leS_anti (a b : Str) (h1 : leS a b = true) (h2 : leS b a = true) : a = b := by
  unfold leS at *
  simp only [Bool.not_eq_true'] at *
  exact TL.ext_tl (ltCps_tri _ _ h2 h1)
def srtS (l : List Str) : List Str := l.mergeSort leS
theorem rising_pw : ∀ (p : Str) (l : List Str), risingS p l = true → (p :: l).Pairwise (fun a b => leS a b = true)
  | p, [], _ => List.pairwise_singleton _ _
  | p, x :: r, h => by
    have h' : (!ltCps x.cps.toList p.cps.toList && risingS x r) = true := h
    rw [Bool.and_eq_true] at h'
    have ih := rising_pw x r h'.2
    refine List.pairwise_cons.mpr ⟨fun y hy => ?_, ih⟩
    rcases List.mem_cons.mp hy with rfl | hy
    · exact h'.1
    · exact leS_trans _ _ _ h'.1 ((List.pairwise_cons.mp ih).1 y hy)
theorem sortedS_pw : ∀ l : List Str, sortedS l = true → l.Pairwise (fun a b => leS a b = true)
  | [], _ => List.Pairwise.nil
  | x :: r, h => rising_pw x r h
theorem perm_sorted {α : Type} {le : α → α → Prop} (anti : ∀ a b, le a b → le b a → a = b) : ∀ {l m : List α}, l.Perm m → l.Pairwise le → m.Pairwise le → l = m
  | [], m, p, _, _ => by
    have := p.length_eq
    cases m with
    | nil => rfl
    | cons => cases this
  | x :: l, [], p, _, _ => by
    have := p.length_eq
    cases this
  | x :: l, y :: m, p, h1, h2 => by
    have e : x = y := by
      have hx : x ∈ y :: m := p.subset List.mem_cons_self
      have hy : y ∈ x :: l := p.symm.subset List.mem_cons_self
      rcases List.mem_cons.mp hx with e | hx
      · exact e
      · rcases List.mem_cons.mp hy with e | hy
        · exact e.symm
        · exact anti x y ((List.pairwise_cons.mp h1).1 y hy) ((List.pairwise_cons.mp h2).1 x hx)
    subst e
    rw [perm_sorted anti (List.Perm.cons_inv p) (List.pairwise_cons.mp h1).2 (List.pairwise_cons.mp h2).2]
theorem srtS_pw (l : List Str) : (srtS l).Pairwise (fun a b => leS a b = true) := List.pairwise_mergeSort leS_trans leS_total l
theorem srtS_perm (l : List Str) : (srtS l).Perm l := List.mergeSort_perm l leS
/-- what sorted gives is this list -/
theorem srtS_of {ys l : List Str} (p : ys.Perm l) (h : sortedS ys = true) : ys = srtS l :=
  perm_sorted (fun a b => leS_anti a b) (p.trans (srtS_perm l).symm) (sortedS_pw ys h) (srtS_pw l)
theorem srtS_len (l : List Str) : (srtS l).length = l.length := (srtS_perm l).length_eq

/-! ### tuples made or shared -/
section
variable {K : PySem.W.Frag} {H : Hp}
theorem cat_any {a b : Addr} {xs ys : List V} {Q : VK} (ha : SqT K H a xs) (hb : SqT K H b ys) (hl : xs.length + ys.length ≤ 100000) (q : ∀ p H', Same H H' → SqT K H' p (xs ++ ys) → Q (.ref p) H') : rCatA K (.ref a) (.ref b) H Q := by
  refine ⟨a, b, xs, ys, rfl, rfl, ha, hb, big hl, fun e => ?_, fun _ e => ?_, fun _ _ p np => q p _ (same_new np) (.inl (.inl upd_same))⟩
  · subst e
    exact q b H (Same.refl H) hb
  · subst e
    rw [List.append_nil] at q
    exact q a H (Same.refl H) ha
theorem cutV_whole (xs : List V) {lo hi : Option Int} (h : HT.sIx xs.length 0 lo = 0 ∧ HT.sIx xs.length xs.length hi = xs.length) : cutV xs lo hi = xs := by
  unfold cutV
  rw [h.1, h.2, List.drop_zero, Nat.sub_zero]
  exact List.take_of_length_le (Nat.le_refl _)
theorem sl_any {a : Addr} {xs : List V} {lo hi : Option Int} {Q : VK} (ha : SqT K H a xs) (q : ∀ p H', Same H H' → SqT K H' p (cutV xs lo hi) → Q (.ref p) H') : rSlA K (.ref a) lo hi H Q :=
  ⟨a, xs, rfl, ha, fun e => q a H (Same.refl H) (by rw [cutV_whole xs e]; exact ha), fun _ p np => q p _ (same_new np) (.inl (.inl upd_same))⟩
end
theorem cut_map_eq {α : Type} (f : α → V) (xs : List α) (lo hi : Option Int) : cutV (xs.map f) lo hi = ((xs.drop (HT.sIx xs.length 0 lo)).take (HT.sIx xs.length xs.length hi - HT.sIx xs.length 0 lo)).map f := by
  unfold cutV
  rw [List.length_map, List.map_take, List.map_drop]
/-! ### == of data that are the same -/
theorem eq_same {K : PySem.W.Frag} {H : Hp} {x y : V} {d : PyData} {Q : VK} (hx : Dp K H x d) (hy : Dp K H y d) (pl : d.plain = true) (dp : d.depth ≤ 190) (q : Q (.bl true) H) : rEqP K x y H Q :=
  ⟨d, d, hx, hy, pl, pl, dp, by rw [SeqAt.eqv_refl_plain d pl]; exact q⟩
def dStrs (l : List Str) : PyData := .tuple (l.map PyData.str)
theorem dp_strs {K : PySem.W.Frag} {H : Hp} : ∀ l : List Str, DpAll K H (l.map V.str) (l.map PyData.str)
  | [] => .nil
  | z :: r => .cons (.str z) (dp_strs r)
theorem plain_strs : ∀ l : List Str, PyData.plainAll (l.map PyData.str) = true
  | [] => rfl
  | z :: r => by
    show (PyData.plain (.str z) && PyData.plainAll (r.map PyData.str)) = true
    rw [plain_strs r]
    rfl
theorem depth_strs : ∀ l : List Str, PyData.depthAll (l.map PyData.str) ≤ 1
  | [] => by decide
  | z :: r => by
    have := depth_strs r
    show max (PyData.depth (.str z)) (PyData.depthAll (r.map PyData.str)) ≤ 1
    have e : PyData.depth (.str z) ≤ 1 := by simp [PyData.depth]
    omega
/-! ### deeds and scripts -/
/-- v is the tuple of these texts -/
def DeedR (K : PySem.W.Frag) (H : Hp) (v : V) (ds : List Str) : Prop := ∃ a, v = .ref a ∧ SqT K H a (ds.map V.str)
def ScrR (K : PySem.W.Frag) (H : Hp) (v : V) (dss : List (List Str)) : Prop := ∃ a vs, v = .ref a ∧ SqT K H a vs ∧ Paired (DeedR K H) vs dss
/-- the form of a deed: one of the words, and as many names -/
def IsDeed (ds : List Str) : Prop := ∃ w r, ds = w :: r ∧ w ∈ wordsS ∧ r.length = (if w ∈ singleS then 1 else 2)
theorem DeedR.same {K : PySem.W.Frag} {H H' : Hp} {v : V} {ds : List Str} (h : DeedR K H v ds) (s : Same H H') : DeedR K H' v ds := by
  obtain ⟨a, e, h⟩ := h
  exact ⟨a, e, Same.sqT s h⟩
theorem DeedR.keep {K : PySem.W.Frag} {H H' : Hp} {d : Addr} {v : V} {ds : List Str} (h : DeedR K H v ds) (k : Kp d H H') (hD : Dk H d) : DeedR K H' v ds := by
  obtain ⟨a, e, h⟩ := h
  exact ⟨a, e, k.sqT hD h⟩
theorem ScrR.same {K : PySem.W.Frag} {H H' : Hp} {v : V} {dss : List (List Str)} (h : ScrR K H v dss) (s : Same H H') : ScrR K H' v dss := by
  obtain ⟨a, vs, e, h, r⟩ := h
  exact ⟨a, vs, e, Same.sqT s h, L2.Paired.mapP r fun _ _ q => q.same s⟩
theorem ScrR.keep {K : PySem.W.Frag} {H H' : Hp} {d : Addr} {v : V} {dss : List (List Str)} (h : ScrR K H v dss) (k : Kp d H H') (hD : Dk H d) : ScrR K H' v dss := by
  obtain ⟨a, vs, e, h, r⟩ := h
  exact ⟨a, vs, e, k.sqT hD h, L2.Paired.mapP r fun _ _ q => q.keep k hD⟩
theorem paired_len {α β : Type} {R : α → β → Prop} : ∀ {xs : List α} {ys : List β}, Paired R xs ys → xs.length = ys.length
  | _, _, .nil => rfl
  | _, _, .cons _ t => congrArg (· + 1) (paired_len t)
theorem paired_get {α β : Type} {R : α → β → Prop} : ∀ {xs : List α} {ys : List β} {i : Nat} {x : α}, Paired R xs ys → xs[i]? = some x → ∃ y, ys[i]? = some y ∧ R x y
  | _, _, _, _, .nil, h => by simp at h
  | _, _, 0, _, .cons r _, h => by
    simp at h
    subst h
    exact ⟨_, rfl, r⟩
  | _, _, i + 1, x, .cons _ t, h => by
    obtain ⟨y, e, r⟩ := paired_get (i := i) t (by simpa using h)
    exact ⟨y, by simpa using e, r⟩
theorem paired_app {α β : Type} {R : α → β → Prop} : ∀ {xs xs' : List α} {ys ys' : List β}, Paired R xs ys → Paired R xs' ys' → Paired R (xs ++ xs') (ys ++ ys')
  | _, _, _, _, .nil, s => s
  | _, _, _, _, .cons r t, s => .cons r (paired_app t s)
theorem paired_take {α β : Type} {R : α → β → Prop} (n : Nat) : ∀ {xs : List α} {ys : List β}, Paired R xs ys → Paired R (xs.take n) (ys.take n) := by
  induction n with
  | zero => intro xs ys _; rw [List.take_zero, List.take_zero]; exact .nil
  | succ n ih =>
    intro xs ys h
    cases h with
    | nil => exact .nil
    | cons r t => exact .cons r (ih t)
theorem paired_drop {α β : Type} {R : α → β → Prop} (n : Nat) : ∀ {xs : List α} {ys : List β}, Paired R xs ys → Paired R (xs.drop n) (ys.drop n) := by
  induction n with
  | zero => intro xs ys h; exact h
  | succ n ih =>
    intro xs ys h
    cases h with
    | nil => exact .nil
    | cons r t => exact ih t
/-! ### the roles of names -/
def mkB (w : Str) (k : Nat) : Bool := (decide (w = "wrap") && decide (k = 2)) || (decide (w = "put") && decide (k = 1))
def addRole (acc : List (Str × Bool)) (n : Str) (b : Bool) : List (Str × Bool) := if acc.any (fun p => decide (p.1 = n)) = true then acc else acc ++ [(n, b)]
def roleStep (acc : List (Str × Bool)) (ds : List Str) (k : Nat) : List (Str × Bool) := match ds, ds[k]? with
  | w :: _, some x => if k = 0 then acc else addRole acc x (mkB w k)
  | _, _ => acc
/-- behind the first i items of a deed -/
def dRoles (acc : List (Str × Bool)) (ds : List Str) : Nat → List (Str × Bool)
  | 0 => acc
  | i + 1 => roleStep (dRoles acc ds i) ds i
/-- behind the first i deeds -/
def sRoles (dss : List (List Str)) : Nat → List (Str × Bool)
  | 0 => []
  | i + 1 => match dss[i]? with
    | some ds => dRoles (sRoles dss i) ds ds.length
    | none => sRoles dss i
def rolesF (dss : List (List Str)) : List (Str × Bool) := sRoles dss dss.length
def oldOf (acc : List (Str × Bool)) : List Str := (acc.filter fun p => !p.2).map (·.1)
def newOf (acc : List (Str × Bool)) : List Str := (acc.filter fun p => p.2).map (·.1)
theorem addRole_len (acc : List (Str × Bool)) (n : Str) (b : Bool) : (addRole acc n b).length ≤ acc.length + 1 := by
  unfold addRole
  split
  · omega
  · rw [List.length_append]
    exact Nat.le_refl _
theorem roleStep_len (acc : List (Str × Bool)) (ds : List Str) (k : Nat) : (roleStep acc ds k).length ≤ acc.length + (if k = 0 then 0 else 1) := by
  unfold roleStep
  split
  · split
    · omega
    · exact addRole_len _ _ _
  · omega
theorem dRoles_len (acc : List (Str × Bool)) (ds : List Str) : ∀ i, (dRoles acc ds i).length ≤ acc.length + (i - 1)
  | 0 => Nat.le_add_right _ _
  | 1 => by
    have := roleStep_len acc ds 0
    rw [if_pos rfl] at this
    exact this
  | i + 2 => by
    have h1 := dRoles_len acc ds (i + 1)
    have h2 := roleStep_len (dRoles acc ds (i + 1)) ds (i + 1)
    rw [if_neg (by omega)] at h2
    show (roleStep (dRoles acc ds (i + 1)) ds (i + 1)).length ≤ _
    omega
theorem sRoles_len (dss : List (List Str)) (h3 : ∀ ds ∈ dss, ds.length ≤ 3) : ∀ i, (sRoles dss i).length ≤ 2 * i
  | 0 => Nat.le_refl _
  | i + 1 => by
    have ih := sRoles_len dss h3 i
    unfold sRoles
    split
    · rename_i ds hd
      have h1 := dRoles_len (sRoles dss i) ds ds.length
      have h2 := h3 ds (List.mem_of_getElem? hd)
      omega
    · omega
/-- a script whose names are few -/
structure Small (dss : List (List Str)) : Prop where
  n : dss.length ≤ 30
  l : ∀ ds ∈ dss, 1 ≤ ds.length ∧ ds.length ≤ 3
theorem Small.roles {dss : List (List Str)} (h : Small dss) (i : Nat) (hi : i ≤ dss.length) : (sRoles dss i).length ≤ 60 := by
  have := sRoles_len dss (fun ds m => (h.l ds m).2) i
  have := h.n
  omega
theorem IsDeed.len {ds : List Str} (h : IsDeed ds) : 1 ≤ ds.length ∧ ds.length ≤ 3 := by
  obtain ⟨w, r, rfl, _, hr⟩ := h
  rw [List.length_cons, hr]
  split <;> omega
theorem small_of {dss : List (List Str)} (n : dss.length ≤ 30) (h : ∀ ds ∈ dss, IsDeed ds) : Small dss := ⟨n, fun ds m => (h ds m).len⟩
/-- the roles as a dict's pairs -/
def roleKV (acc : List (Str × Bool)) : List (Key × V) := acc.map fun p => (Sum.inr p.1, V.bl p.2)
theorem role_val (n : Str) : ∀ acc : List (Str × Bool), (valV (roleKV acc) (Sum.inr n)).isSome = acc.any (fun p => decide (p.1 = n))
  | [] => rfl
  | p :: r => by
    have ih := role_val n r
    rw [List.any_cons]
    show (valV ((Sum.inr p.1, V.bl p.2) :: roleKV r) (Sum.inr n)).isSome = _
    by_cases e : p.1 = n
    · rw [valV_pos (p := (Sum.inr p.1, V.bl p.2)) (show (Sum.inr p.1 : Key) = Sum.inr n by rw [e]), decide_eq_true e]
      rfl
    · rw [valV_neg (p := (Sum.inr p.1, V.bl p.2)) (show ¬ (Sum.inr p.1 : Key) = Sum.inr n from fun z => e (Sum.inr.inj z)), decide_eq_false e, ih]
      rfl

/-- slots of makes: 0 deed, 1 k -/
def n_makes : List Str := ["deed", "k"]
def t_makes (K : PySem.W.Frag) : TS :=
  (tRet (tOrV (tAndV (tOp rEq (tOp (rIxT K) (tVar 0) (tC (.int 0))) (tC (.str "wrap"))) (tOp rEq (tVar 1) (tC (.int 2)))) (tAndV (tOp rEq (tOp (rIxT K) (tVar 0) (tC (.int 0))) (tC (.str "put"))) (tOp rEq (tVar 1) (tC (.int 1))))))

def sp_makes (K : PySem.W.Frag) : Sp := fun vs H Q _ => ∃ (v : V) (k : Nat) (w : Str) (r : List Str), vs = [v, .int (k : Int)] ∧ DeedR K H v (w :: r) ∧ Q (.bl (mkB w k)) H
theorem pure_makes {K : PySem.W.Frag} (vs : List V) (H : Hp) (Q : VK) (E : XK) (h : sp_makes K vs H Q E) : t_makes K { nx := fun _ H' => Q .non H', rt := Q } (start n_makes vs) H := by
  obtain ⟨v, k, w, r, rfl, ⟨a, rfl, ha⟩, q⟩ := h
  have at0 : atI ((w :: r).map V.str) 0 = some (.str w) := atI_nat (j := 0) rfl
  have e1 : ∀ z : Str, decide (V.str w = V.str z) = decide (w = z) := fun z => by
    by_cases c : w = z
    · rw [decide_eq_true c, decide_eq_true (by rw [c])]
    · rw [decide_eq_false c, decide_eq_false (fun h => c (V.str.inj h))]
  have e2 : ∀ j : Nat, decide (V.int (k : Int) = V.int (j : Int)) = decide (k = j) := fun j => by
    by_cases c : k = j
    · rw [decide_eq_true c, decide_eq_true (by rw [c])]
    · rw [decide_eq_false c, decide_eq_false (fun h => c (by injection h with h; omega))]
  refine ⟨.ref a, rfl, a, _, 0, _, rfl, rfl, ha, at0, rfl, _, rfl, ?_⟩
  rw [e1]
  unfold mkB at q
  by_cases c1 : w = "wrap"
  · rw [decide_eq_true c1] at q ⊢
    refine ⟨.int k, rfl, rfl, _, rfl, ?_⟩
    rw [show decide (V.int (k : Int) = V.int 2) = decide (k = 2) from e2 2]
    by_cases c2 : k = 2
    · rw [decide_eq_true c2] at q ⊢
      exact q
    · rw [decide_eq_false c2] at q ⊢
      have c3 : w ≠ "put" := by
        rw [c1]
        decide +kernel
      refine ⟨.ref a, rfl, a, _, 0, _, rfl, rfl, ha, at0, rfl, _, rfl, ?_⟩
      rw [e1, decide_eq_false c3] at *
      exact q
  · rw [decide_eq_false c1] at q ⊢
    refine ⟨_, rfl, .ref a, rfl, a, _, 0, _, rfl, rfl, ha, at0, rfl, _, rfl, ?_⟩
    rw [e1]
    by_cases c3 : w = "put"
    · rw [decide_eq_true c3] at q ⊢
      refine ⟨.int k, rfl, rfl, ?_⟩
      rw [show decide (V.int (k : Int) = V.int 1) = decide (k = 1) from e2 1]
      rw [Bool.false_and, Bool.false_or, Bool.true_and] at q
      exact q
    · rw [decide_eq_false c3] at q ⊢
      exact q

/-- slots of roles: 0 deeds, 1 found, 2 deed, 3 k, 4 item -/
def n_roles : List Str := ["deeds", "found", "deed", "k", "item"]
def t_roles (K : PySem.W.Frag) : TS :=
  (tSeq (tAsg tDNewK (gName 1))
    (tSeq (tFor (iTup K (tVar 0)) (gName 2) (tFor (iEnumT K (tCons (tVar 2) tNil)) (gTup K 2 (gCons (gName 3) (gCons (gName 4) gNil))) (tIfS (tTest (tOp rGtI (tVar 3) (tC (.int 0)))) (tDrop (tDSetd (tVar 1) (tVar 4) (tCall (sp_makes K) [] E0 (tCons (tVar 2) (tCons (tVar 3) tNil))))) tNext)))
    (tRet (tVar 1))))

def sp_roles (K : PySem.W.Frag) : Sp := fun vs H Q _ => ∃ (v : V) (dss : List (List Str)), vs = [v] ∧ ScrR K H v dss ∧ Small dss ∧
  ∀ (H' : Hp) (d : Addr), H d = none → Same H H' → H' d = some (.dK (roleKV (rolesF dss))) → Q (.ref d) H'
theorem pure_roles {K : PySem.W.Frag} (vs : List V) (H : Hp) (Q : VK) (E : XK) (h : sp_roles K vs H Q E) : t_roles K { nx := fun _ H' => Q .non H', rt := Q } (start n_roles vs) H := by
  obtain ⟨v, dss, rfl, ⟨a, ws, rfl, ha, hp⟩, sm, q⟩ := h
  intro d nd
  have hlen := paired_len hp
  refine ⟨.ref a, rfl, a, rfl, ⟨_, Same.sqT (same_new nd) ha⟩, for_it (walk_tup (xs := ws)) (fun i σ H' => ∃ y2 y3 y4, σ = [some (.ref a), some (.ref d), y2, y3, y4] ∧ Same H H' ∧ H' d = some (.dK (roleKV (sRoles dss i)))) ⟨none, none, none, rfl, same_new nd, upd_same⟩ (fun i σ H' _ hJ => ?_) (fun i x σ H' H2 hi hJ hy => ?_) (fun σ H' hJ => ?_)⟩
  · obtain ⟨_, _, _, _, s, _⟩ := hJ
    exact Same.sqT s ha
  · obtain ⟨y2, y3, y4, rfl, s, ed⟩ := hJ
    obtain ⟨rfl, hx⟩ := hy
    obtain ⟨ds, hds, b, rfl, hb⟩ := paired_get hp hx
    have mds := sm.l ds (List.mem_of_getElem? hds)
    have hb' : SqT K H2 b (ds.map V.str) := Same.sqT s hb
    have sR : sRoles dss (i + 1) = dRoles (sRoles dss i) ds ds.length := by
      show (match dss[i]? with | some ds => _ | none => _) = _
      rw [hds]
    have hil : i < dss.length := by rw [← hlen]; exact hi
    have lim := sm.roles i (by omega)
    refine ⟨.ref b, rfl, b, _, rfl, hb', for_it (walk_enumT (xs := ds.map V.str)) (fun j σ H' => ∃ y3 y4, σ = [some (.ref a), some (.ref d), some (.ref b), y3, y4] ∧ Same H H' ∧ H' d = some (.dK (roleKV (dRoles (sRoles dss i) ds j)))) ⟨y3, y4, rfl, s, ed⟩ (fun j σ H' _ hJ => ?_) (fun j x σ H' H3 hj hJ hy => ?_) (fun σ H' hJ => ?_)⟩
    · obtain ⟨_, _, _, s, _⟩ := hJ
      exact Same.sqT s hb
    · obtain ⟨y3, y4, rfl, s, ed⟩ := hJ
      obtain ⟨T, x1, x2, rfl, nT, rfl, e1, e2⟩ := hy
      have ex1 : x1 = .int (j : Nat) := (Option.some.inj e1).symm
      subst ex1
      rw [List.length_map] at hj
      have ex2 : x2 = .str ds[j] := by
        have e3 : (ds.map V.str)[j]? = some x2 := e2
        rw [List.getElem?_map, List.getElem?_eq_getElem hj] at e3
        exact (Option.some.inj e3).symm
      subst ex2
      have ndT : d ≠ T := ne_of_none ed nT
      have s1 : Same H (upd H' T (.tup [.int (j : Nat), .str ds[j]])) := s.trans (same_new nT)
      have ed1 : (upd H' T (.tup [.int (j : Nat), .str ds[j]])) d = some (.dK (roleKV (dRoles (sRoles dss i) ds j))) := by rw [upd_ne ndT]; exact ed
      refine ⟨T, _, rfl, .inl (.inl upd_same), rfl, _, _, rfl, _, _, rfl, rfl, .int (j : Nat), rfl, _, _, rfl, rfl, _, rfl, ?_⟩
      obtain ⟨w, r, rfl⟩ : ∃ w r, ds = w :: r := by
        cases ds with
        | nil => exact absurd mds.1 (by simp)
        | cons w r => exact ⟨w, r, rfl⟩
      have step : dRoles (sRoles dss i) (w :: r) (j + 1) = if j = 0 then dRoles (sRoles dss i) (w :: r) j else addRole (dRoles (sRoles dss i) (w :: r) j) (w :: r)[j] (mkB w j) := by
        show roleStep _ _ _ = _
        unfold roleStep
        rw [List.getElem?_eq_getElem hj]
      by_cases c : j = 0
      · subst c
        rw [if_pos rfl] at step
        refine ⟨_, _, rfl, s1, ?_⟩
        rw [step]
        exact ed1
      · rw [if_neg c] at step
        have c' : decide ((0 : Int) < ((j : Nat) : Int)) = true := decide_eq_true (by omega)
        rw [c']
        have lim2 := dRoles_len (sRoles dss i) (w :: r) j
        refine ⟨.ref d, rfl, d, rfl, .inl ⟨_, .inl ed1⟩, _, rfl, .ref b, rfl, .int (j : Nat), rfl, _, j, w, r, rfl, ⟨b, rfl, Same.sqT s1 hb⟩, ?_⟩
        have hs := role_val (w :: r)[j] (dRoles (sRoles dss i) (w :: r) j)
        refine ⟨_, Sum.inr (w :: r)[j], ed1, rfl, ?_, fun u hu => ?_, fun hn => ?_⟩
        · unfold roleKV
          rw [List.length_map]
          exact big' (by omega)
        · rw [hu] at hs
          refine ⟨_, _, rfl, s1, ?_⟩
          rw [step]
          unfold addRole
          rw [if_pos (by rw [← hs]; rfl)]
          exact ed1
        · rw [hn] at hs
          refine ⟨_, _, rfl, fun b' o e => ?_, ?_⟩
          · rw [upd_ne (ne_of_none e nd)]
            exact s1 _ _ e
          · rw [upd_same, step]
            unfold addRole
            rw [if_neg (by rw [← hs]; exact Bool.noConfusion), putK_new _ hn]
            unfold roleKV
            rw [List.map_append]
            rfl
    · obtain ⟨y3, y4, rfl, s, ed⟩ := hJ
      refine ⟨_, _, _, rfl, s, ?_⟩
      rw [sR]
      rw [List.length_map] at ed
      exact ed
  · obtain ⟨y2, y3, y4, rfl, s, ed⟩ := hJ
    refine ⟨.ref d, rfl, q H' d nd s ?_⟩
    unfold rolesF
    rw [← hlen]
    exact ed

/-- slots of old_names: 0 script, 1 name, 2 is_new -/
def n_old_names : List Str := ["script", "name", "is_new"]
def t_old_names (K : PySem.W.Frag) : TS :=
  (tRet (tCB (rTupOf K) (tCons (tCB (rSortedS K) (tCons (tLc (iItemsF (tCall (sp_roles K) [] E0 (tCons (tVar 0) tNil))) (gTup K 2 (gCons (gName 1) (gCons (gName 2) gNil))) (tNot (tB (tVar 2))) (tVar 1) [1, 2]) tNil)) tNil)))

def sp_old_names (K : PySem.W.Frag) : Sp := fun vs H Q _ => ∃ (v : V) (dss : List (List Str)), vs = [v] ∧ ScrR K H v dss ∧ Small dss ∧
  ∀ (H' : Hp) (p : Addr), Same H H' → SqT K H' p ((srtS (oldOf (rolesF dss))).map V.str) → Q (.ref p) H'
theorem names_more (f : Str × Bool → Bool) {acc : List (Str × Bool)} {i : Nat} {p : Str × Bool} (h : acc[i]? = some p) : ((acc.take (i + 1)).filter f).map (·.1) = ((acc.take i).filter f).map (·.1) ++ (if f p = true then [p.1] else []) := by
  rw [List.take_add_one, h, List.filter_append, List.map_append]
  congr 1
  show (List.filter f [p]).map (·.1) = _
  rw [List.filter_cons]
  split <;> rfl
theorem names_le (f : Str × Bool → Bool) (acc : List (Str × Bool)) (i : Nat) : (((acc.take i).filter f).map (·.1)).length ≤ acc.length := by
  rw [List.length_map]
  have h1 := List.length_filter_le f (acc.take i)
  rw [List.length_take] at h1
  omega
theorem pure_old_names {K : PySem.W.Frag} (vs : List V) (H : Hp) (Q : VK) (E : XK) (h : sp_old_names K vs H Q E) : t_old_names K { nx := fun _ H' => Q .non H', rt := Q } (start n_old_names vs) H := by
  obtain ⟨v, dss, rfl, hS, sm, q⟩ := h
  have lim := sm.roles dss.length (Nat.le_refl _)
  refine ⟨v, rfl, v, dss, rfl, hS, sm, fun H1 d nd s1 ed => ⟨d, _, rfl, ed, fun o D nD => ?_⟩⟩
  have s1' : Same H (upd H1 d (.frz o (.dK (roleKV (rolesF dss))))) := fun b x e => by
    rw [upd_ne (ne_of_none e nd)]
    exact s1 _ _ e
  have nDH := s1'.free nD
  have nDd : d ≠ D := ne_of_none upd_same nD
  refine lc_it (walk_items (kvs := roleKV (rolesF dss))) (fun i H' => Same H H' ∧ H' d = some (.frz o (.dK (roleKV (rolesF dss)))) ∧ H' D = some (.lst ((((rolesF dss).take i).filter fun p => !p.2).map (·.1) |>.map V.str)))
    ⟨s1'.trans (same_new nD), same_new nD _ _ upd_same, upd_same⟩ (fun i H' _ hJ => hJ.2.1) (fun i x H' H2 hi hJ hy => ?_) (fun H' hJ => ?_)
  · obtain ⟨T, x1, x2, rfl, nT, rfl, e1, e2⟩ := hy
    obtain ⟨s, ed, eD⟩ := hJ
    have hi' : i < (rolesF dss).length := by
      unfold roleKV at hi
      rw [List.length_map] at hi
      exact hi
    have g : (roleKV (rolesF dss))[i]? = some (Sum.inr (rolesF dss)[i].1, V.bl (rolesF dss)[i].2) := by
      unfold roleKV
      rw [List.getElem?_map, List.getElem?_eq_getElem hi']
      rfl
    have ex1 : x1 = .str (rolesF dss)[i].1 := by
      have e1' : ((roleKV (rolesF dss))[i]?.map fun kv => kV kv.1) = some x1 := e1
      rw [g] at e1'
      exact (Option.some.inj e1').symm
    have ex2 : x2 = .bl (rolesF dss)[i].2 := by
      have e2' : ((roleKV (rolesF dss))[i]?.map Prod.snd) = some x2 := e2
      rw [g] at e2'
      exact (Option.some.inj e2').symm
    subst ex1 ex2
    have more := names_more (fun p => !p.2) (List.getElem?_eq_getElem hi')
    have nTD : D ≠ T := ne_of_none eD nT
    have s2 := s.trans (same_new nT (o := .tup [.str (rolesF dss)[i].1, .bl (rolesF dss)[i].2]))
    refine ⟨T, _, rfl, .inl (.inl upd_same), rfl, _, _, rfl, _, _, rfl, rfl, rfl, _, rfl, _, rfl, ?_⟩
    cases hb : (rolesF dss)[i].2 with
    | true =>
      rw [hb] at more s2
      refine ⟨s2, same_new nT _ _ ed, ?_⟩
      rw [more, if_neg (by exact Bool.noConfusion), List.append_nil]
      exact same_new nT _ _ eD
    | false =>
      rw [hb] at more s2
      refine ⟨_, rfl, _, same_new nT _ _ eD, ?_, fun b x e => ?_, ?_, ?_⟩
      · rw [List.length_map]
        have := names_le (fun p => !p.2) (rolesF dss) i
        exact big' (by unfold rolesF at *; omega)
      · rw [upd_ne (ne_of_none e nDH)]
        exact s2 _ _ e
      · rw [upd_ne nDd]
        exact same_new nT _ _ ed
      · rw [upd_same, more, if_pos (show (!false) = true from rfl), List.map_append]
        rfl
  · obtain ⟨s, ed, eD⟩ := hJ
    have e : (rolesF dss).take (roleKV (rolesF dss)).length = rolesF dss := by
      unfold roleKV
      rw [List.length_map]
      exact List.take_of_length_le (Nat.le_refl _)
    rw [e] at eD
    refine ⟨D, oldOf (rolesF dss), rfl, .inl (.inl eD), ?_, fun ys p perm srt np => ?_⟩
    · unfold oldOf
      rw [List.length_map]
      have := List.length_filter_le (fun p : Str × Bool => !p.2) (rolesF dss)
      unfold rolesF at *
      omega
    · have ey := srtS_of perm srt
      subst ey
      exact ⟨p, _, rfl, .inl ⟨.inl (.inl upd_same), fun l nl => q _ l ((s.trans (same_new np)).trans (same_new nl)) (.inl (.inl upd_same))⟩⟩

/-- slots of new_names: 0 script, 1 name, 2 is_new -/
def n_new_names : List Str := ["script", "name", "is_new"]
def t_new_names (K : PySem.W.Frag) : TS :=
  (tRet (tCB (rTupOf K) (tCons (tCB (rSortedS K) (tCons (tLc (iItemsF (tCall (sp_roles K) [] E0 (tCons (tVar 0) tNil))) (gTup K 2 (gCons (gName 1) (gCons (gName 2) gNil))) (tB (tVar 2)) (tVar 1) [1, 2]) tNil)) tNil)))

def sp_new_names (K : PySem.W.Frag) : Sp := fun vs H Q _ => ∃ (v : V) (dss : List (List Str)), vs = [v] ∧ ScrR K H v dss ∧ Small dss ∧
  ∀ (H' : Hp) (p : Addr), Same H H' → SqT K H' p ((srtS (newOf (rolesF dss))).map V.str) → Q (.ref p) H'
theorem pure_new_names {K : PySem.W.Frag} (vs : List V) (H : Hp) (Q : VK) (E : XK) (h : sp_new_names K vs H Q E) : t_new_names K { nx := fun _ H' => Q .non H', rt := Q } (start n_new_names vs) H := by
  obtain ⟨v, dss, rfl, hS, sm, q⟩ := h
  have lim := sm.roles dss.length (Nat.le_refl _)
  refine ⟨v, rfl, v, dss, rfl, hS, sm, fun H1 d nd s1 ed => ⟨d, _, rfl, ed, fun o D nD => ?_⟩⟩
  have s1' : Same H (upd H1 d (.frz o (.dK (roleKV (rolesF dss))))) := fun b x e => by
    rw [upd_ne (ne_of_none e nd)]
    exact s1 _ _ e
  have nDH := s1'.free nD
  have nDd : d ≠ D := ne_of_none upd_same nD
  refine lc_it (walk_items (kvs := roleKV (rolesF dss))) (fun i H' => Same H H' ∧ H' d = some (.frz o (.dK (roleKV (rolesF dss)))) ∧ H' D = some (.lst ((((rolesF dss).take i).filter fun p => p.2).map (·.1) |>.map V.str)))
    ⟨s1'.trans (same_new nD), same_new nD _ _ upd_same, upd_same⟩ (fun i H' _ hJ => hJ.2.1) (fun i x H' H2 hi hJ hy => ?_) (fun H' hJ => ?_)
  · obtain ⟨T, x1, x2, rfl, nT, rfl, e1, e2⟩ := hy
    obtain ⟨s, ed, eD⟩ := hJ
    have hi' : i < (rolesF dss).length := by
      unfold roleKV at hi
      rw [List.length_map] at hi
      exact hi
    have g : (roleKV (rolesF dss))[i]? = some (Sum.inr (rolesF dss)[i].1, V.bl (rolesF dss)[i].2) := by
      unfold roleKV
      rw [List.getElem?_map, List.getElem?_eq_getElem hi']
      rfl
    have ex1 : x1 = .str (rolesF dss)[i].1 := by
      have e1' : ((roleKV (rolesF dss))[i]?.map fun kv => kV kv.1) = some x1 := e1
      rw [g] at e1'
      exact (Option.some.inj e1').symm
    have ex2 : x2 = .bl (rolesF dss)[i].2 := by
      have e2' : ((roleKV (rolesF dss))[i]?.map Prod.snd) = some x2 := e2
      rw [g] at e2'
      exact (Option.some.inj e2').symm
    subst ex1 ex2
    have more := names_more (fun p => p.2) (List.getElem?_eq_getElem hi')
    have nTD : D ≠ T := ne_of_none eD nT
    have s2 := s.trans (same_new nT (o := .tup [.str (rolesF dss)[i].1, .bl (rolesF dss)[i].2]))
    refine ⟨T, _, rfl, .inl (.inl upd_same), rfl, _, _, rfl, _, _, rfl, rfl, rfl, _, rfl, _, rfl, ?_⟩
    cases hb : (rolesF dss)[i].2 with
    | false =>
      rw [hb] at more s2
      refine ⟨s2, same_new nT _ _ ed, ?_⟩
      rw [more, if_neg (by exact Bool.noConfusion), List.append_nil]
      exact same_new nT _ _ eD
    | true =>
      rw [hb] at more s2
      refine ⟨_, rfl, _, same_new nT _ _ eD, ?_, fun b x e => ?_, ?_, ?_⟩
      · rw [List.length_map]
        have := names_le (fun p => p.2) (rolesF dss) i
        exact big' (by unfold rolesF at *; omega)
      · rw [upd_ne (ne_of_none e nDH)]
        exact s2 _ _ e
      · rw [upd_ne nDd]
        exact same_new nT _ _ ed
      · rw [upd_same, more, if_pos rfl, List.map_append]
        rfl
  · obtain ⟨s, ed, eD⟩ := hJ
    have e : (rolesF dss).take (roleKV (rolesF dss)).length = rolesF dss := by
      unfold roleKV
      rw [List.length_map]
      exact List.take_of_length_le (Nat.le_refl _)
    rw [e] at eD
    refine ⟨D, newOf (rolesF dss), rfl, .inl (.inl eD), ?_, fun ys p perm srt np => ?_⟩
    · unfold newOf
      rw [List.length_map]
      have := List.length_filter_le (fun p : Str × Bool => p.2) (rolesF dss)
      unfold rolesF at *
      omega
    · have ey := srtS_of perm srt
      subst ey
      exact ⟨p, _, rfl, .inl ⟨.inl (.inl upd_same), fun l nl => q _ l ((s.trans (same_new np)).trans (same_new nl)) (.inl (.inl upd_same))⟩⟩

/-- slots of _law_words: 0 _law_words_here -/
def n_wordsL : List Str := ["_law_words_here"]
def t_wordsL (K : PySem.W.Frag) : TS :=
  (tSeq (tAsg (tLst (tCons (tC (.str "first")) (tCons (tC (.str "last")) (tCons (tC (.str "ahead")) (tCons (tC (.str "behind")) (tCons (tC (.str "front")) (tCons (tC (.str "back")) (tCons (tC (.str "swap")) tNil)))))))) (gName 0))
    (tRet (tOp rCat (tVar 0) (tLst (tCons (tC (.str "turn")) (tCons (tC (.str "lift")) (tCons (tC (.str "cut")) (tCons (tC (.str "pour")) (tCons (tC (.str "wrap")) (tCons (tC (.str "put")) tNil))))))))))

/-- the thirteen words, in a new list -/
def sp_wordsL : Sp := fun vs H Q _ => vs = [] ∧ ∀ (H' : Hp) (l : Addr), H l = none → Same H H' → H' l = some (.lst (wordsS.map V.str)) → Q (.ref l) H'
theorem pure_wordsL {K : PySem.W.Frag} (vs : List V) (H : Hp) (Q : VK) (E : XK) (h : sp_wordsL vs H Q E) : t_wordsL K { nx := fun _ H' => Q .non H', rt := Q } (start n_wordsL vs) H := by
  obtain ⟨rfl, q⟩ := h
  refine ⟨big (by show 7 ≤ 100000; decide), fun p np => ?_⟩
  refine ⟨.ref p, rfl, big (by show 6 ≤ 100000; decide), fun p2 np2 => ?_⟩
  refine ⟨p, p2, _, _, rfl, rfl, same_new np2 _ _ upd_same, upd_same, big (by show 7 + 6 ≤ 100000; decide), fun p3 np3 => ?_⟩
  exact q _ p3 (((same_new np).trans (same_new np2)).free np3) (((same_new np).trans (same_new np2)).trans (same_new np3)) upd_same

/-- slots of _law_some_deed: 0 _law_deck_here, 1 _law_names_here, 2 _law_word -/
def n_some_deedL : List Str := ["_law_deck_here", "_law_names_here", "_law_word"]
def t_some_deedL (K : PySem.W.Frag) : TS :=
  (tSeq (tAsg (tCall (sp_pickL K) [] E0 (tCons (tVar 0) (tCons (tCall sp_wordsL [] E0 tNil) tNil))) (gName 2))
    (tSeq (tIfS (tTest (tOp (rIn K false) (tVar 2) (tTup (tCons (tC (.str "front")) (tCons (tC (.str "back")) (tCons (tC (.str "lift")) (tCons (tC (.str "cut")) tNil))))))) (tRet (tTup (tCons (tVar 2) (tCons (tCall (sp_pickL K) [] E0 (tCons (tVar 0) (tCons (tVar 1) tNil))) tNil)))) tNext)
    (tRet (tTup (tCons (tVar 2) (tCons (tCall (sp_pickL K) [] E0 (tCons (tVar 0) (tCons (tVar 1) tNil))) (tCons (tCall (sp_pickL K) [] E0 (tCons (tVar 0) (tCons (tVar 1) tNil))) tNil)))))))

/-- any deed on some names -/
def sp_some_deedL (K : PySem.W.Frag) : Sp := fun vs H Q _ => ∃ (d l : Addr) (ns : List Str), vs = [.ref d, .ref l] ∧ Dk H d ∧ l ≠ d ∧ SqL K H l (ns.map V.str) ∧ 0 < ns.length ∧ ns.length ≤ 1000 ∧
  ∀ (H' : Hp) (v : V) (ds : List Str), DeedR K H' v ds → IsDeed ds → (∀ z ∈ ds.drop 1, z ∈ ns) → v ≠ .ref d → Kp d H H' → Dk H' d → Q v H'
theorem inV_single (w : Str) : inV (.str w) (singleS.map V.str) = true ↔ w ∈ singleS := by
  rw [inV_strs]
  simp
theorem pure_some_deedL {K : PySem.W.Frag} (vs : List V) (H : Hp) (Q : VK) (E : XK) (h : sp_some_deedL K vs H Q E) : t_some_deedL K { nx := fun _ H' => Q .non H', rt := Q } (start n_some_deedL vs) H := by
  obtain ⟨d, l, ns, rfl, hD, nl, hL, n0, n1, q⟩ := h
  refine ⟨.ref d, rfl, rfl, fun H2 lw nlw s2 elw => ?_⟩
  refine ⟨d, lw, _, rfl, hD.same s2, hD.ne nlw, .inl (.inl elw), ?_, ?_, fun H3 v mv k3 hD3 => ?_⟩
  · rw [List.length_map]
    decide +kernel
  · rw [List.length_map]
    decide +kernel
  obtain ⟨w, mw, rfl⟩ := List.mem_map.mp mv
  have k03 : Kp d H H3 := (Kp.of s2).trans k3
  have pick : ∀ (H4 : Hp) (R : VK), Kp d H H4 → Dk H4 d → (∀ H5 z, z ∈ ns → Kp d H4 H5 → Dk H5 d → R (.str z) H5) → sp_pickL K [.ref d, .ref l] H4 R E0 := fun H4 R k4 hD4 r =>
    ⟨d, l, ns.map V.str, rfl, hD4, nl, k4.sqL nl hL, by rw [List.length_map]; exact n0, by rw [List.length_map]; omega, fun H5 v mv k5 hD5 => by
      obtain ⟨z, mz, rfl⟩ := List.mem_map.mp mv
      exact r H5 z mz k5 hD5⟩
  refine ⟨.str w, rfl, big (by show 4 ≤ 100000; decide), fun p np => ⟨p, _, rfl, .inr (.inl (.inl upd_same)), rfl, flat_strs singleS, _, rfl, ?_⟩⟩
  have k4 := k03.then_new (o := .tup (singleS.map V.str)) np
  have hD4 := hD3.new (o := .tup (singleS.map V.str)) np
  show if (if false = true then !inV (.str w) (singleS.map V.str) else inV (.str w) (singleS.map V.str)) = true then _ else _
  rw [if_neg Bool.false_ne_true]
  by_cases c : inV (.str w) (singleS.map V.str) = true
  · rw [if_pos c]
    refine ⟨.str w, rfl, .ref d, rfl, .ref l, rfl, pick _ _ k4 hD4 fun H5 z mz k5 hD5 => ⟨big (by show 2 ≤ 100000; decide), fun t nt => ?_⟩⟩
    refine q _ _ [w, z] ⟨t, rfl, .inl (.inl upd_same)⟩ ⟨w, [z], rfl, mw, by rw [if_pos ((inV_single w).mp c)]; rfl⟩ (fun y hy => ?_) (fun e => hD5.ne nt (V.ref.inj e)) ((k4.trans k5).then_new nt) (hD5.new nt)
    rcases List.mem_cons.mp hy with rfl | hy
    · exact mz
    · cases hy
  · rw [if_neg c]
    refine ⟨.str w, rfl, .ref d, rfl, .ref l, rfl, pick _ _ k4 hD4 fun H5 z mz k5 hD5 => ⟨.ref d, rfl, .ref l, rfl, pick _ _ (k4.trans k5) hD5 fun H6 y my k6 hD6 => ⟨big (by show 3 ≤ 100000; decide), fun t nt => ?_⟩⟩⟩
    refine q _ _ [w, z, y] ⟨t, rfl, .inl (.inl upd_same)⟩ ⟨w, [z, y], rfl, mw, by rw [if_neg (fun h => c ((inV_single w).mpr h))]; rfl⟩ (fun x hx => ?_) (fun e => hD6.ne nt (V.ref.inj e)) (((k4.trans k5).trans k6).then_new nt) (hD6.new nt)
    rcases List.mem_cons.mp hx with rfl | hx
    · exact mz
    · rcases List.mem_cons.mp hx with rfl | hx
      · exact my
      · cases hx

/-- slots of _law_is_name: 0 _law_value, 1 _law_sign -/
def n_is_nameL : List Str := ["_law_value", "_law_sign"]
def t_is_nameL (K : PySem.W.Frag) : TS :=
  (tSeq (tIfS (tOr (tNot (tB (tCB (rIsi K) (tCons (tVar 0) (tCons (tC (.ty "str")) tNil))))) (tOr (tTest (tOp rEq (tVar 0) (tC (.str "")))) (tTest (tOp rGtI (tCB rLenS (tCons (tVar 0) tNil)) (tC (.int 8)))))) (tRet (tC (.bl false))) tNext)
    (tRet (tOp (rEqE K) (tLc (iStr (tVar 0)) (gName 1) (tTest (tOp rNotInS (tVar 1) (tC (.str "abcdefghijklmnopqrstuvwxyz")))) (tVar 1) [1]) (tLst tNil))))

def sp_is_nameL (K : PySem.W.Frag) : Sp := sp_is_name K
theorem filter_take_more {α : Type} {p : α → Bool} {l : List α} {i : Nat} {c : α} (h : l[i]? = some c) : (l.take (i + 1)).filter p = (l.take i).filter p ++ (if p c = true then [c] else []) := by
  rw [List.take_add_one, h, List.filter_append]
  congr 1
  show List.filter p [c] = _
  rw [List.filter_cons]
  rfl
theorem pure_is_nameL {K : PySem.W.Frag} (vs : List V) (H : Hp) (Q : VK) (E : XK) (h : sp_is_nameL K vs H Q E) : t_is_nameL K { nx := fun _ H' => Q .non H', rt := Q } (start n_is_nameL vs) H := by
  obtain ⟨x, rfl, hx, q⟩ := h
  obtain ⟨t, ty, kt⟩ := isi_str hx
  refine ⟨x, rfl, x, .ty "str", t, .type "str", isS x, rfl, .ty "str", ty, kt, _, rfl, ?_⟩
  have no : nameV x = false → Q (.bl false) H := fun e => by
    have := q H (Same.refl H)
    rw [e] at this
    exact this
  cases hx with
  | str z sz =>
    have sz' : (TL.tl z).length = z.length := (TL.len_tl z).symm
    refine ⟨.str z, rfl, rfl, _, rfl, ?_⟩
    by_cases h1 : V.str z = V.str ""
    · rw [decide_eq_true h1]
      refine no ?_
      injection h1 with h1
      subst h1
      decide +kernel
    · rw [decide_eq_false h1]
      have l1 : 1 ≤ (TL.tl z).length := by
        cases e : TL.tl z with
        | nil =>
          exfalso
          apply h1
          have : z = "" := TL.ext_tl (by rw [e]; decide +kernel)
          rw [this]
        | cons c r =>
          rw [List.length_cons]
          omega
      refine ⟨.str z, rfl, z, rfl, sz, _, _, rfl, rfl, _, rfl, ?_⟩
      by_cases h2 : (8 : Int) < z.length
      · rw [decide_eq_true h2]
        refine no ?_
        show nmB z = false
        unfold nmB
        rw [decide_eq_false (show ¬ (TL.tl z).length ≤ 8 by omega), Bool.and_false, Bool.false_and]
      · rw [decide_eq_false h2]
        refine ⟨.str z, rfl, z, rfl, fun D nD => ?_⟩
        have nm : nameV (.str z) = ((TL.tl z).filter fun c => !(decide (97 ≤ c) && decide (c ≤ 122))).isEmpty := by
          show nmB z = _
          unfold nmB
          rw [decide_eq_true l1, decide_eq_true (show (TL.tl z).length ≤ 8 by omega)]
          rw [Bool.eq_iff_iff, List.isEmpty_iff, List.filter_eq_nil_iff]
          simp only [Bool.and_self, Bool.true_and, List.all_eq_true, Bool.not_eq_true', Bool.not_eq_false]
        refine lc_it (walk_str (z := z)) (fun i H' => H' = upd H D (.lst ((((TL.tl z).take i).filter fun c => !(decide (97 ≤ c) && decide (c ≤ 122))).map fun c => V.str ⟨#[c]⟩))) rfl (fun _ _ _ _ => trivial) (fun i v H' H2 hi hp hy => ?_) (fun H' hp => ?_)
        · obtain ⟨e2, c, hc, rfl⟩ := hy
          subst hp e2
          have hc' : (TL.tl z)[i]? = some c := by
            show z.cps.toList[i]? = some c
            rw [Array.getElem?_toList]
            exact hc
          refine ⟨rfl, _, rfl, c, letters, rfl, rfl, _, rfl, ?_⟩
          show if (!decide (c ∈ letters.cps.toList)) = true then _ else _
          rw [letters_in]
          by_cases hb : (!(decide (97 ≤ c) && decide (c ≤ 122))) = true
          · rw [if_pos hb]
            refine ⟨_, rfl, _, upd_same, ?_, ?_⟩
            · rw [List.length_map]
              have := List.length_filter_le (fun c => !(decide (97 ≤ c) && decide (c ≤ 122))) ((TL.tl z).take i)
              rw [List.length_take] at this
              exact big' (by omega)
            · rw [upd_upd, filter_take_more hc', if_pos hb, List.map_append]
              rfl
          · rw [if_neg hb, filter_take_more hc', if_neg hb, List.append_nil]
        · subst hp
          have e : (TL.tl z).take z.cps.size = TL.tl z := List.take_of_length_le (by show z.cps.toList.length ≤ _; simp)
          rw [e]
          refine ⟨big (by decide), fun p np => ⟨D, p, _, rfl, rfl, .inl ⟨.inl (.inl (same_new np _ _ upd_same)), .inl (.inl upd_same)⟩, ?_⟩⟩
          rw [List.isEmpty_map, ← nm]
          exact q _ ((same_new nD).trans (same_new np))
  | _ => exact no rfl

/-- slots of _law_deed_error: 0 _law_value, 1 _law_wrong, 2 _law_item -/
def n_deed_errorL : List Str := ["_law_value", "_law_wrong", "_law_item"]
def t_deed_errorL (K : PySem.W.Frag) : TS :=
  (tSeq (tIfS (tOr (tNot (tB (tCB (rIsi K) (tCons (tVar 0) (tCons (tC (.ty "tuple")) tNil))))) (tOr (tTest (tOp (rEqE K) (tVar 0) (tTup tNil))) (tNot (tB (tCB (rIsi K) (tCons (tOp (rIxT K) (tVar 0) (tC (.int 0))) (tCons (tC (.ty "str")) tNil))))))) (tRet (tC (.str "deed"))) tNext)
    (tSeq (tIfS (tTest (tOp (rInA K true) (tOp (rIxT K) (tVar 0) (tC (.int 0))) (tCall sp_wordsL [] E0 tNil))) (tRet (tC (.str "deed"))) tNext)
    (tSeq (tIfS (tTest (tOp rNe (tCB (rLenQ K) (tCons (tVar 0) tNil)) (tOp rSubI (tC (.int 3)) (tCB rInt1 (tCons (tOp (rInA K false) (tOp (rIxT K) (tVar 0) (tC (.int 0))) (tTup (tCons (tC (.str "front")) (tCons (tC (.str "back")) (tCons (tC (.str "lift")) (tCons (tC (.str "cut")) tNil)))))) tNil))))) (tRet (tC (.str "deed"))) tNext)
    (tSeq (tAsg (tLc (iTup K (L2.tSl (rSlA K) (tVar 0) (tPart (tC (.int 1))) tNoPart)) (gName 2) (tNot (tB (tCall (sp_is_nameL K) [] E0 (tCons (tVar 2) tNil)))) (tVar 2) [2]) (gName 1))
    (tRet (tIf (tTest (tOp (rNeE K) (tVar 1) (tLst tNil))) (tC (.str "name")) (tC .non)))))))

def sp_deed_errorL (K : PySem.W.Frag) : Sp := sp_deed_error K
theorem filter_none {α : Type} (p : α → Bool) (l : List α) : (l.filter fun v => !p v).isEmpty = l.all p := by
  rw [Bool.eq_iff_iff, List.isEmpty_iff, List.filter_eq_nil_iff, List.all_eq_true]
  constructor
  · intro h x hx
    have := h x hx
    simpa using this
  · intro h x hx
    rw [h x hx]
    exact Bool.noConfusion
theorem pure_deed_errorL {K : PySem.W.Frag} (vs : List V) (H : Hp) (Q : VK) (E : XK) (h : sp_deed_errorL K vs H Q E) : t_deed_errorL K { nx := fun _ H' => Q .non H', rt := Q } (start n_deed_errorL vs) H := by
  obtain ⟨x, e, rfl, ⟨hx, hc⟩, q⟩ := h
  rcases hc with ⟨a, xs, rfl, hT, hv, hl, rfl⟩ | ⟨⟨t, ty, kt⟩, rfl⟩
  · refine seq_by (fun σ H' => σ = [some (.ref a), none, none] ∧ Same H H' ∧ ∃ y r, xs = y :: r) (fun σ H' hJ => ?_) (fun rest => ?_)
    · obtain ⟨rfl, s1, y, r, rfl⟩ := hJ
      have hT1 := Same.sqT s1 hT
      have ay : AV K H' y := (hv y List.mem_cons_self).same s1
      refine seq_by (fun σ H' => σ = [some (.ref a), none, none] ∧ Same H H' ∧ inA y wordsS = true) (fun σ H' hJ => ?_) (fun rest => ?_)
      · obtain ⟨rfl, s1, ew⟩ := hJ
        have hT1 := Same.sqT s1 hT
        have ay : AV K H' y := (hv y List.mem_cons_self).same s1
        have q' : ∀ H', Same H H' → Q (if r.length ≠ (if inA y singleS = true then 1 else 2) then .str "deed" else if r.all nameV = true then .non else .str "name") H' := fun H' s => by
          have := q H' s
          rw [deedErr_cons, if_neg (by rw [ew]; exact Bool.noConfusion)] at this
          exact this
        refine seq_by (fun σ H2 => σ = [some (.ref a), none, none] ∧ Same H H2 ∧ r.length = (if inA y singleS = true then 1 else 2)) (fun σ H2 hJ => ?_) (fun rest => ?_)
        · obtain ⟨rfl, s2, hr⟩ := hJ
          have hT2 := Same.sqT s2 hT
          have q2 : ∀ H', Same H H' → Q (if r.all nameV = true then .non else .str "name") H' := fun H' s => by
            have := q' H' s
            rw [if_neg (not_not_intro hr)] at this
            exact this
          refine seq_by (fun σ H3 => ∃ D y2, σ = [some (.ref a), some (.ref D), y2] ∧ Same H H3 ∧ H3 D = some (.lst (r.filter fun v => !nameV v))) (fun σ H3 hJ => ?_) (fun rest => ?_)
          · obtain ⟨D, y2, rfl, s3, eD⟩ := hJ
            refine ⟨.ref D, rfl, big (by decide), fun p np => ⟨D, p, _, rfl, rfl, .inl ⟨.inl (.inl (same_new np _ _ eD)), .inl (.inl upd_same)⟩, _, rfl, ?_⟩⟩
            rw [filter_none]
            have := q2 _ (s3.trans (same_new np (o := .lst [])))
            cases c : r.all nameV with
            | true =>
              rw [if_pos c] at this
              exact this
            | false =>
              rw [if_neg (by rw [c]; exact Bool.noConfusion)] at this
              exact this
          · refine ⟨.ref a, rfl, 1, rfl, a, _, rfl, hT2, fun hw => ?_, fun hw p np => ?_⟩
            · exfalso
              have e1 : HT.sIx (y :: r).length 0 (some 1) = min 1 (y :: r).length := HT.sIx_nat (y :: r).length 0 1
              rw [e1, List.length_cons] at hw
              omega
            · rw [cut_from1]
              have hp : SqT K (upd H2 p (.tup (List.drop 1 (y :: r)))) p r := .inl (.inl upd_same)
              have s2p : Same H (upd H2 p (.tup (List.drop 1 (y :: r)))) := s2.trans (same_new np)
              refine ⟨p, rfl, ⟨_, hp⟩, fun D nD => ?_⟩
              refine lc_it (walk_tup (xs := r)) (fun i H' => Same (upd H2 p (.tup (List.drop 1 (y :: r)))) H' ∧ H' D = some (.lst ((r.take i).filter fun v => !nameV v))) ⟨same_new nD, upd_same⟩ (fun i H' _ hp' => Same.sqT hp'.1 hp) (fun i v H' H3 hi hp' hy => ?_) (fun H' hp' => ?_)
              · obtain ⟨rfl, hv'⟩ := hy
                have mem : v ∈ r := List.mem_of_getElem? hv'
                refine ⟨rfl, v, rfl, v, rfl, ((hv v (List.mem_cons_of_mem _ mem)).same s2p).same hp'.1, fun H4 s4 => ⟨_, rfl, ?_⟩⟩
                show if (!nameV v) = true then _ else _
                by_cases hb : (!nameV v) = true
                · rw [if_pos hb]
                  refine ⟨v, rfl, _, s4 _ _ hp'.2, ?_, ?_, ?_⟩
                  · have := List.length_filter_le (fun v => !nameV v) (r.take i)
                    rw [List.length_take] at this
                    rw [List.length_cons] at hl
                    exact big' (by omega)
                  · exact fun b o e => by
                      rw [upd_ne (ne_of_none e nD)]
                      exact s4 _ _ (hp'.1 _ _ e)
                  · rw [upd_same, filter_take_more hv', if_pos hb]
                · rw [if_neg hb]
                  refine ⟨hp'.1.trans s4, ?_⟩
                  rw [filter_take_more hv', if_neg hb, List.append_nil]
                  exact s4 _ _ hp'.2
              · have e : r.take r.length = r := List.take_of_length_le (Nat.le_refl _)
                rw [e] at hp'
                exact rest _ _ ⟨D, _, rfl, s2p.trans hp'.1, hp'.2⟩
        · refine ⟨.ref a, rfl, a, _, rfl, .inr hT1, .ref a, rfl, a, _, 0, y, rfl, rfl, hT1, atI_nat (j := 0) rfl, big (by show 4 ≤ 100000; decide), fun p np => ?_⟩
          have s2 := s1.trans (same_new np (o := .tup (singleS.map V.str)))
          refine ⟨p, singleS, rfl, .inr (.inl (.inl upd_same)), ay.same (same_new np), .inr ⟨_, rfl, _, _, rfl, rfl, rfl, _, rfl, ?_⟩⟩
          have fin : ∀ n : Nat, (if inA y singleS = true then 1 else 2) = n → V.int (3 - (if inA y singleS = true then 1 else 0)) = V.int ((n + 1 : Nat) : Int) := fun n hn => by
            congr 1
            by_cases c : inA y singleS = true
            · rw [if_pos c] at hn ⊢
              omega
            · rw [if_neg c] at hn ⊢
              omega
          have fin2 := fin _ rfl
          generalize hn : (if inA y singleS = true then 1 else 2) = n at *
          show if (!decide (V.int ((y :: r).length : Nat) = V.int (3 - (if inA y singleS = true then 1 else 0)))) = true then _ else _
          rw [fin2]
          by_cases c : r.length = n
          · rw [decide_eq_true (show V.int ((y :: r).length : Nat) = V.int ((n + 1 : Nat) : Int) by rw [List.length_cons, c])]
            exact rest _ _ ⟨rfl, s2, c⟩
          · rw [decide_eq_false (show ¬ V.int ((y :: r).length : Nat) = V.int ((n + 1 : Nat) : Int) by rw [List.length_cons]; intro z; injection z with z; omega)]
            have := q' _ s2
            rw [if_pos c] at this
            exact this
      · refine ⟨.ref a, rfl, a, _, 0, y, rfl, rfl, hT1, atI_nat (j := 0) rfl, rfl, fun H2 l nl s2 el => ?_⟩
        refine ⟨l, wordsS, rfl, .inl (.inl (.inl el)), ay.same s2, _, rfl, ?_⟩
        show if (!inA y wordsS) = true then _ else _
        cases ew : inA y wordsS with
        | false =>
          have := q _ (s1.trans s2)
          rw [deedErr_cons, if_pos ew] at this
          exact this
        | true => exact rest _ _ ⟨rfl, s1.trans s2, ew⟩
    · refine ⟨.ref a, rfl, .ref a, .ty "tuple", .type "tuple", .type "tuple", true, rfl, .ty "tuple", tyx_tup hT, kit_tt, _, rfl, ?_⟩
      refine ⟨.ref a, rfl, big (by decide), fun p np => ?_⟩
      have s1 : Same H (upd H p (.tup [])) := same_new np
      have hT1 := Same.sqT s1 hT
      refine ⟨a, p, xs, rfl, rfl, .inr ⟨hT1, .inl (.inl upd_same)⟩, _, rfl, ?_⟩
      cases xs with
      | nil => exact q _ s1
      | cons y r =>
        have ay : AV K _ y := (hv y List.mem_cons_self).same s1
        obtain ⟨t, ty, kt⟩ := isi_str ay
        refine ⟨.ref a, rfl, a, _, 0, y, rfl, rfl, hT1, atI_nat (j := 0) rfl, y, .ty "str", t, .type "str", isS y, rfl, .ty "str", ty, kt, _, rfl, ?_⟩
        cases ay with
        | str z sz => exact rest _ _ ⟨rfl, s1, _, r, rfl⟩
        | _ => exact q _ s1
  · refine ⟨x, rfl, x, .ty "tuple", t, .type "tuple", false, rfl, .ty "tuple", ty, kt, _, rfl, ?_⟩
    exact q H (Same.refl H)

/-- slots of _law_odd_deed: 0 _law_deck_here, 1 _law_names_here, 2 _law_way, 3 _law_word, 4 _law_many, 5 _law_items, 6 _law_k -/
def n_odd_deedL : List Str := ["_law_deck_here", "_law_names_here", "_law_way", "_law_word", "_law_many", "_law_items", "_law_k"]
def t_odd_deedL (K : PySem.W.Frag) : TS :=
  (tSeq (tPar 2 3 (tCons (tCall sp_drawL [] E0 (tCons (tVar 0) (tCons (tC (.int 8)) tNil))) (tCons (tCall (sp_pickL K) [] E0 (tCons (tVar 0) (tCons (tCall sp_wordsL [] E0 tNil) tNil))) tNil)))
    (tSeq (tIfS (tTest (tOp rEq (tVar 2) (tC (.int 0)))) (tAsg (tCall (sp_pickL K) [] E0 (tCons (tVar 0) (tCons (tLst (tCons (tC (.str "top")) (tCons (tC (.str "First")) (tCons (tC (.str "")) (tCons (tC (.str "wra")) (tCons (tC (.str "puts")) (tCons (tC (.str "in")) (tCons (tCall (sp_oddL K) [] E0 (tCons (tVar 0) tNil)) tNil)))))))) tNil))) (gName 3)) tNext)
    (tSeq (tAsg (tOp rAddI (tC (.int 1)) (tCB rInt1 (tCons (tOp (rInA K true) (tVar 3) (tTup (tCons (tC (.str "front")) (tCons (tC (.str "back")) (tCons (tC (.str "lift")) (tCons (tC (.str "cut")) tNil)))))) tNil))) (gName 4))
    (tSeq (tIfS (tTest (tOp rEq (tVar 2) (tC (.int 1)))) (tAsg (tCall sp_drawL [] E0 (tCons (tVar 0) (tCons (tC (.int 5)) tNil))) (gName 4)) tNext)
    (tSeq (tAsg (tLc (iRng1 (tCons (tVar 4) tNil)) (gName 6) tYes (tCall (sp_pickL K) [] E0 (tCons (tVar 0) (tCons (tVar 1) tNil))) [6]) (gName 5))
    (tSeq (tIfS (tAnd (tTest (tOp rEq (tVar 2) (tC (.int 2)))) (tTest (tOp (rNeE K) (tVar 5) (tLst tNil)))) (tAsg (tCall (sp_oddL K) [] E0 (tCons (tVar 0) tNil)) (gSub (tVar 5) (tCall sp_drawL [] E0 (tCons (tVar 0) (tCons (tCB (rLenQ K) (tCons (tVar 5) tNil)) tNil))) rSetL)) tNext)
    (tSeq (tIfS (tTest (tOp rEq (tVar 2) (tC (.int 3)))) (tRet (tCall (sp_pickL K) [] E0 (tCons (tVar 0) (tCons (tLst (tCons (tOp rCat (tLst (tCons (tVar 3) tNil)) (tVar 5)) (tCons (tCall (sp_oddL K) [] E0 (tCons (tVar 0) tNil)) (tCons (tTup tNil) (tCons (tTup (tCons (tVar 3) tNil)) tNil))))) tNil)))) tNext)
    (tRet (tOp (rCatA K) (tTup (tCons (tVar 3) tNil)) (tCB (rTupOf K) (tCons (tVar 5) tNil)))))))))))

/-- a deed, or what is none -/
def sp_odd_deedL (K : PySem.W.Frag) : Sp := fun vs H Q _ => ∃ (d l : Addr) (ns : List Str), vs = [.ref d, .ref l] ∧ Dk H d ∧ l ≠ d ∧ SqL K H l (ns.map V.str) ∧ 0 < ns.length ∧ ns.length ≤ 1000 ∧ (∀ z ∈ ns, z.length ≤ 100000) ∧
  ∀ (H' : Hp) (x : V) (o : OV), Ov K H' d x o → Kp d H H' → Dk H' d → Q x H'
theorem ov_strs {K : PySem.W.Frag} {H : Hp} {d : Addr} : ∀ (ns : List Str), (∀ z ∈ ns, z.length ≤ 100000) → OvAll K H d (ns.map V.str) (ns.map OV.str)
  | [], _ => .nil
  | z :: r, h => .cons (.str z (h z List.mem_cons_self)) (ov_strs r fun y hy => h y (List.mem_cons_of_mem _ hy))
theorem words_len : ∀ z ∈ wordsS, z.length ≤ 100000 := by decide +kernel
theorem set_mem {α : Type} {l : List α} {i : Nat} {v x : α} (h : x ∈ l.set i v) : x ∈ l ∨ x = v := by
  rcases List.mem_or_eq_of_mem_set h with h | h
  · exact .inl h
  · exact .inr h
theorem pure_odd_deedL {K : PySem.W.Frag} (vs : List V) (H : Hp) (Q : VK) (E : XK) (h : sp_odd_deedL K vs H Q E) : t_odd_deedL K { nx := fun _ H' => Q .non H', rt := Q } (start n_odd_deedL vs) H := by
  obtain ⟨d, l, ns, rfl, hD, nl, hL, n0, n1, nz, q⟩ := h
  -- way, word
  refine ⟨.ref d, rfl, d, 8, rfl, hD, by decide, by decide, fun H1 way w0 w1 k1 hD1 => ?_⟩
  refine ⟨.ref d, rfl, rfl, fun H2 lw nlw s2 elw => ?_⟩
  refine ⟨d, lw, _, rfl, hD1.same s2, hD1.ne nlw, .inl (.inl elw), ?_, ?_, fun H3 w mw k3 hD3 => ⟨_, _, rfl, ?_⟩⟩
  · rw [List.length_map]
    decide +kernel
  · rw [List.length_map]
    decide +kernel
  obtain ⟨ow, _, how⟩ := (ov_strs (K := K) (H := H3) (d := d) wordsS words_len).mem mw
  have k13 : Kp d H H3 := (k1.trans (Kp.of s2)).trans k3
  clear k1 k3 s2 elw nlw hD1 mw
  -- another word
  try dsimp only
  refine seq_by (t := tIfS _ _ _) (fun σ' H' => ∃ w ow, Ov K H' d w ow ∧ σ' = [some (.ref d), some (.ref l), some (.int way), some w, none, none, none] ∧ Kp d H H' ∧ Dk H' d) (fun σ' H4 hJ => ?_) (fun rest => ?_)
  · obtain ⟨w, ow, how, rfl, k4, hD4⟩ := hJ
    -- many
    refine ⟨w, rfl, big (by show 4 ≤ 100000; decide), fun p np => ⟨p, singleS, rfl, .inr (.inl (.inl upd_same)), how.av.same (same_new np), .inr ⟨_, rfl, _, _, rfl, rfl, ?_⟩⟩⟩
    have how5 := how.keep (Kp.new (o := .tup (singleS.map V.str)) np)
    have k5 := k4.then_new (o := .tup (singleS.map V.str)) np
    have hD5 := hD4.new (o := .tup (singleS.map V.str)) np
    try dsimp only
    refine seq_by (t := tIfS _ _ _) (fun σ' H' => ∃ (m : Nat) (ow : OV), m ≤ 10 ∧ Ov K H' d w ow ∧ σ' = [some (.ref d), some (.ref l), some (.int way), some w, some (.int m), none, none] ∧ Kp d H H' ∧ Dk H' d) (fun σ' H6 hJ => ?_) (fun rest => ?_)
    · obtain ⟨m, ow, hm, how6, rfl, k6, hD6⟩ := hJ
      -- the items
      try dsimp only
      refine seq_by (t := tAsg _ _) (fun σ' H' => ∃ (L : Addr) (ys : List V) (os : List OV) (y6 : Option V), σ' = [some (.ref d), some (.ref l), some (.int way), some w, some (.int m), some (.ref L), y6] ∧ L ≠ d ∧ H L = none ∧ H' L = some (.lst ys) ∧ ys.length = m ∧ OvAll K H' d ys os ∧ (∃ ow, Ov K H' d w ow) ∧ Kp d H H' ∧ Dk H' d) (fun σ' H7 hJ => ?_) (fun rest => ?_)
      · obtain ⟨L, ys, os, y6, rfl, nLd, nL, eL, ly, hys, how7, k7, hD7⟩ := hJ
        -- one of them odd
        try dsimp only
        refine seq_by (t := tIfS _ _ _) (fun σ' H' => ∃ (ys : List V) (os : List OV), σ' = [some (.ref d), some (.ref l), some (.int way), some w, some (.int m), some (.ref L), y6] ∧ H' L = some (.lst ys) ∧ ys.length = m ∧ OvAll K H' d ys os ∧ (∃ ow, Ov K H' d w ow) ∧ Kp d H H' ∧ Dk H' d) (fun σ' H8 hJ => ?_) (fun rest => ?_)
        · obtain ⟨ys, os, rfl, eL, ly, hys, ⟨ow, how8⟩, k8, hD8⟩ := hJ
          try dsimp only
          refine seq_by (t := tIfS _ _ _) (fun σ' H' => σ' = [some (.ref d), some (.ref l), some (.int way), some w, some (.int m), some (.ref L), y6] ∧ H' = H8) (fun σ' H' hJ => ?_) (fun rest => ?_)
          · obtain ⟨rfl, rfl⟩ := hJ
            refine ⟨w, rfl, big (by show 1 ≤ 100000; decide), fun p np => ⟨.ref L, rfl, L, ys, rfl, .inl ⟨.inl (.inl (same_new np _ _ eL)), fun p2 np2 => ?_⟩⟩⟩
            have s2 := (same_new np (o := .tup [w])).trans (same_new np2 (o := .tup ys))
            have e1 : (upd (upd H' p (.tup [w])) p2 (.tup ys)) p = some (.tup [w]) := same_new np2 _ _ upd_same
            have hw2 := how8.keep (Kp.of s2)
            have hy2 := hys.keep (Kp.of s2)
            refine ⟨p, p2, [w], ys, rfl, rfl, .inl (.inl e1), .inl (.inl upd_same), big (by rw [List.length_cons, List.length_nil]; omega), (fun z => nomatch z), fun _ hy => ?_, fun _ hy p3 np3 => ?_⟩
            · exact q _ _ _ (.tup ((hD8).ne np) (.inl (.inl e1)) (.cons hw2 .nil) (by show 1 ≤ 1000; decide)) (k8.trans (Kp.of s2)) (hD8.same s2)
            · have s3 := s2.trans (same_new np3 (o := .tup ([w] ++ ys)))
              exact q _ _ _ (.tup ((hD8.same s2).ne np3) (.inl (.inl upd_same)) ((OvAll.cons hw2 .nil).append hy2 |>.keep (Kp.new np3)) (by rw [List.length_append, List.length_cons, List.length_nil]; omega)) (k8.trans (Kp.of s3)) (hD8.same s3)
          · refine ⟨.int way, rfl, rfl, _, rfl, ite2 (fun _ => ?_) (fun _ => rest _ _ ⟨rfl, rfl⟩)⟩
            refine ⟨.ref d, rfl, w, rfl, big (by show 1 ≤ 100000; decide), fun p np => ⟨.ref L, rfl, p, L, [w], ys, rfl, rfl, upd_same, same_new np _ _ eL, big (by rw [List.length_cons, List.length_nil]; omega), fun p2 np2 => ?_⟩⟩
            have s2 := (same_new np (o := .lst [w])).trans (same_new np2 (o := .lst ([w] ++ ys)))
            have hp2 : p2 ≠ d := (hD8.new np).ne np2
            refine ⟨.ref d, rfl, d, rfl, hD8.same s2, fun H9 x o ho k9 hD9 => ?_⟩
            refine ⟨big (by decide), fun p3 np3 => ⟨w, rfl, big (by show 1 ≤ 100000; decide), fun p4 np4 => ⟨big (by show 4 ≤ 100000; decide), fun p5 np5 => ?_⟩⟩⟩
            have s5 := ((same_new np3 (o := .tup [])).trans (same_new np4 (o := .tup [w]))).trans (same_new np5 (o := .lst [.ref p2, x, .ref p3, .ref p4]))
            have h2 : Ov K (upd (upd (upd H9 p3 (.tup [])) p4 (.tup [w])) p5 (.lst [.ref p2, x, .ref p3, .ref p4])) d (.ref p2) .oth := .lst hp2 (.inl (.inl (s5 _ _ (k9 _ _ hp2 upd_same))))
            have h3 : Ov K (upd (upd (upd H9 p3 (.tup [])) p4 (.tup [w])) p5 (.lst [.ref p2, x, .ref p3, .ref p4])) d (.ref p3) (.tup []) := .tup (hD9.ne np3) (.inl (.inl (((same_new np4).trans (same_new np5)) _ _ upd_same))) .nil (by decide)
            have h4 : Ov K (upd (upd (upd H9 p3 (.tup [])) p4 (.tup [w])) p5 (.lst [.ref p2, x, .ref p3, .ref p4])) d (.ref p4) (.tup [ow]) := .tup ((hD9.new np3).ne np4) (.inl (.inl ((same_new np5) _ _ upd_same))) (.cons (how8.keep (((Kp.of s2).trans k9).trans (Kp.of s5))) .nil) (by show 1 ≤ 1000; decide)
            have all := OvAll.cons h2 (.cons (ho.keep (Kp.of s5)) (.cons h3 (.cons h4 .nil)))
            refine ⟨d, p5, _, rfl, hD9.same s5, ((hD9.new np3).new np4).ne np5, .inl (.inl upd_same), by show 0 < 4; decide, by show 4 < 1073741824; decide, fun H' v mv k hD' => ?_⟩
            obtain ⟨o', _, ho'⟩ := all.mem mv
            exact q H' v o' (ho'.keep k) (((k8.trans (Kp.of s2)).trans k9).trans ((Kp.of s5).trans k)) hD'
        · refine ⟨.int way, rfl, rfl, _, rfl, ite2 (fun _ => ?_) (fun c => ?_)⟩
          · refine ⟨.ref L, rfl, big (by decide), fun p np => ⟨L, p, ys, rfl, rfl, .inl ⟨.inl (.inl (same_new np _ _ eL)), .inl (.inl upd_same)⟩, _, rfl, ?_⟩⟩
            have kp := Kp.new (d := d) (o := .lst []) np
            obtain ⟨ow, how7⟩ := how7
            cases c : ys.isEmpty with
            | true => exact rest _ _ ⟨ys, os, rfl, same_new np _ _ eL, ly, hys.keep kp, ⟨ow, how7.keep kp⟩, k7.trans kp, hD7.new np⟩
            | false =>
              have l0 : 0 < ys.length := by
                cases ys with
                | nil => cases c
                | cons => exact Nat.succ_pos _
              refine ⟨.ref d, rfl, d, rfl, hD7.new np, fun H9 x o ho k9 hD9 => ?_⟩
              have eL9 : H9 L = some (.lst ys) := k9 _ _ nLd (same_new np _ _ eL)
              refine ⟨.ref L, rfl, .ref d, rfl, .ref L, rfl, L, ys, rfl, .inl (.inl (.inl eL9)), d, ys.length, rfl, hD9, by omega, by omega, fun H10 r r0 r1 k10 hD10 => ?_⟩
              have eL10 : H10 L = some (.lst ys) := k10 _ _ nLd eL9
              have hj : ixN ys.length r = some r.toNat := by
                unfold ixN
                rw [if_pos r0, if_pos r1]
              have kk : Kp d H7 H10 := (kp.trans k9).trans k10
              refine ⟨L, ys, r, r.toNat, rfl, rfl, eL10, hj, ?_⟩
              obtain ⟨os', hos'⟩ := ovAll_of (K := K) (H := upd H10 L (.lst (ys.set r.toNat x))) (d := d) (ys.set r.toNat x) fun v hv => by
                rcases set_mem hv with h | h
                · obtain ⟨o, _, ho⟩ := (hys.keep kk).mem h
                  exact ⟨o, ho.relist eL10⟩
                · subst h
                  exact ⟨o, (ho.keep k10).relist eL10⟩
              exact rest _ _ ⟨ys.set r.toNat x, os', rfl, upd_same, by rw [List.length_set]; exact ly, hos', ⟨ow, (how7.keep kk).relist eL10⟩, (k7.trans kk).then_at nL, hD10.upd nLd⟩
          · exact rest _ _ ⟨ys, os, rfl, eL, ly, hys, how7, k7, hD7⟩
      · -- [pick(deck, names) for k in range(many)]
        refine ⟨.int m, rfl, m, rfl, by omega, by omega, fun D nD => ?_⟩
        have nDd : D ≠ d := hD6.ne nD
        refine lc_range (lo := 0) (n := (m : Int).toNat) (fun i H' => ∃ zs : List Str, zs.length = i ∧ (∀ z ∈ zs, z ∈ ns) ∧ H' D = some (.lst (zs.map V.str)) ∧ Kp d H6 H' ∧ Dk H' d) ⟨[], rfl, (fun _ h => nomatch h), upd_same, Kp.new nD, hD6.new nD⟩ (fun i H' hi hp => ?_) (fun H' hp => ?_)
        · obtain ⟨zs, el, hz, eD, kk, hD'⟩ := hp
          refine ⟨rfl, .ref d, rfl, .ref l, rfl, d, l, _, rfl, hD', nl, (k6.trans kk).sqL nl hL, by rw [List.length_map]; exact n0, by rw [List.length_map]; omega, fun H2 v mv k2 hD2 => ?_⟩
          obtain ⟨z, mz, rfl⟩ := List.mem_map.mp mv
          refine ⟨_, k2 _ _ nDd eD, by rw [List.length_map]; exact big' (by omega), zs ++ [z], by rw [List.length_append, el]; rfl, fun y hy => ?_, by rw [upd_same, List.map_append]; rfl, (kk.trans k2).then_at nD, hD2.upd nDd⟩
          rcases List.mem_append.mp hy with h | h
          · exact hz y h
          · rcases List.mem_cons.mp h with rfl | h
            · exact mz
            · cases h
        · obtain ⟨zs, el, hz, eD, kk, hD'⟩ := hp
          exact rest _ _ ⟨D, _, _, _, rfl, nDd, k6.free nDd nD, eD, by rw [List.length_map, el]; rfl, ov_strs zs fun z h => nz z (hz z h), ⟨ow, how6.keep kk⟩, k6.trans kk, hD'⟩
    · refine ⟨.int way, rfl, rfl, _, rfl, ite2 (fun _ => ?_) (fun _ => ?_)⟩
      · refine ⟨.ref d, rfl, d, 5, rfl, hD5, by decide, by decide, fun H6 r r0 r1 k6 hD6 => rest _ _ ⟨r.toNat, ow, by omega, how5.keep k6, ?_, k5.trans k6, hD6⟩⟩
        rw [show ((r.toNat : Nat) : Int) = r by omega]
        rfl
      · by_cases c : inA w singleS = true
        · refine rest _ _ ⟨1, ow, by decide, how5, ?_, k5, hD5⟩
          rw [c]
          rfl
        · refine rest _ _ ⟨2, ow, by decide, how5, ?_, k5, hD5⟩
          have c' : inA w singleS = false := by simpa using c
          rw [c']
          rfl
  · refine ⟨.int way, rfl, rfl, _, rfl, ite2 (fun _ => ?_) (fun _ => ?_)⟩
    · refine ⟨.ref d, rfl, .ref d, rfl, d, rfl, hD3, fun H4 x o ho k4 hD4 => ⟨big (by show 7 ≤ 100000; decide), fun p np => ?_⟩⟩
      have o6 := ov_strs (K := K) (H := upd H4 p (.lst [.str "top", .str "First", .str "", .str "wra", .str "puts", .str "in", x])) (d := d) ["top", "First", "", "wra", "puts", "in"] (by decide +kernel)
      have all := o6.append (OvAll.cons (ho.keep (Kp.new np)) .nil)
      refine ⟨d, p, _, rfl, hD4.new np, hD4.ne np, .inl (.inl upd_same), by show 0 < 7; decide, by show 7 < 1073741824; decide, fun H' v mv k hD' => ?_⟩
      obtain ⟨o', _, ho'⟩ := all.mem (x := v) mv
      exact rest _ _ ⟨v, o', ho'.keep k, rfl, (k13.trans k4).trans ((Kp.new np).trans k), hD'⟩
    · exact rest _ _ ⟨w, ow, how, rfl, k13, hD3⟩

/-- slots of _law_roles: 0 _law_deeds, 1 _law_old, 2 _law_new, 3 _law_deed, 4 _law_made, 5 _law_k -/
def n_rolesL : List Str := ["_law_deeds", "_law_old", "_law_new", "_law_deed", "_law_made", "_law_k"]
def t_rolesL (K : PySem.W.Frag) : TS :=
  (tSeq (tPar 1 2 (tCons (tLst tNil) (tCons (tLst tNil) tNil)))
    (tSeq (tFor (iTup K (tVar 0)) (gName 3) (tSeq (tAsg (tDGet2 (tDisp [((tC (.str "wrap")), (tC (.int 2))), ((tC (.str "put")), (tC (.int 1)))]) (tOp (rIxT K) (tVar 3) (tC (.int 0))) (tC (.int 0))) (gName 4))
    (tFor (iRng2 (tCons (tC (.int 1)) (tCons (tCB (rLenQ K) (tCons (tVar 3) tNil)) tNil))) (gName 5) (tIfS (tTest (tOp (rIn K true) (tOp (rIxT K) (tVar 3) (tVar 5)) (tOp rCat (tVar 1) (tVar 2)))) (tIfS (tTest (tOp rEq (tVar 5) (tVar 4))) (tDrop (tBM K "list" rAppend (tVar 2) (tCons (tOp (rIxT K) (tVar 3) (tVar 5)) tNil))) (tDrop (tBM K "list" rAppend (tVar 1) (tCons (tOp (rIxT K) (tVar 3) (tVar 5)) tNil)))) tNext))))
    (tRet (tTup (tCons (tCB (rTupOf K) (tCons (tCB (rSortedS K) (tCons (tVar 1) tNil)) tNil)) (tCons (tCB (rTupOf K) (tCons (tCB (rSortedS K) (tCons (tVar 2) tNil)) tNil)) tNil))))))

/-- the old and the new names, ascending, as a pair of tuples -/
def sp_rolesL (K : PySem.W.Frag) : Sp := fun vs H Q _ => ∃ (v : V) (dss : List (List Str)), vs = [v] ∧ ScrR K H v dss ∧ Small dss ∧
  ∀ (H' : Hp) (p a1 a2 : Addr), Same H H' → SqT K H' p [.ref a1, .ref a2] → SqT K H' a1 ((srtS (oldOf (rolesF dss))).map V.str) → SqT K H' a2 ((srtS (newOf (rolesF dss))).map V.str) → Q (.ref p) H'
def mkIx (w : Str) : Nat := if w = "wrap" then 2 else if w = "put" then 1 else 0
theorem mkIx_mkB (w : Str) (k : Nat) (h : 1 ≤ k) : mkB w k = decide (k = mkIx w) := by
  unfold mkB mkIx
  by_cases c1 : w = "wrap"
  · have c2 : w ≠ "put" := by
      rw [c1]
      decide +kernel
    rw [if_pos c1, decide_eq_true c1, decide_eq_false c2]
    simp
  · rw [if_neg c1, decide_eq_false c1]
    by_cases c2 : w = "put"
    · rw [if_pos c2, decide_eq_true c2]
      simp
    · rw [if_neg c2, decide_eq_false c2]
      simp
      omega
theorem any_names (x : Str) : ∀ acc : List (Str × Bool), (oldOf acc ++ newOf acc).contains x = acc.any (fun p => decide (p.1 = x)) := by
  intro acc
  rw [Bool.eq_iff_iff]
  unfold oldOf newOf
  simp only [List.contains_eq_mem, List.mem_append, List.mem_map, List.mem_filter, decide_eq_true_eq, List.any_eq_true, Bool.not_eq_true']
  constructor
  · rintro (⟨p, ⟨m, _⟩, e⟩ | ⟨p, ⟨m, _⟩, e⟩)
    · exact ⟨p, m, e⟩
    · exact ⟨p, m, e⟩
  · rintro ⟨p, m, e⟩
    cases h : p.2 with
    | true => exact .inr ⟨p, ⟨m, h⟩, e⟩
    | false => exact .inl ⟨p, ⟨m, h⟩, e⟩
theorem oldOf_snoc (acc : List (Str × Bool)) (x : Str) (b : Bool) : oldOf (acc ++ [(x, b)]) = if b = true then oldOf acc else oldOf acc ++ [x] := by
  unfold oldOf
  rw [List.filter_append, List.map_append]
  cases b <;> simp
theorem newOf_snoc (acc : List (Str × Bool)) (x : Str) (b : Bool) : newOf (acc ++ [(x, b)]) = if b = true then newOf acc ++ [x] else newOf acc := by
  unfold newOf
  rw [List.filter_append, List.map_append]
  cases b <;> simp
theorem oldOf_le (acc : List (Str × Bool)) : (oldOf acc).length ≤ acc.length := by
  unfold oldOf
  rw [List.length_map]
  exact List.length_filter_le _ _
theorem newOf_le (acc : List (Str × Bool)) : (newOf acc).length ≤ acc.length := by
  unfold newOf
  rw [List.length_map]
  exact List.length_filter_le _ _
theorem made_val (w : Str) : (valV (mergeK [] [(Sum.inr ("wrap" : Str), V.int 2), (Sum.inr ("put" : Str), V.int 1)]) (Sum.inr w)).getD (.int 0) = V.int (mkIx w : Nat) := by
  have e : mergeK [] [(Sum.inr ("wrap" : Str), V.int 2), (Sum.inr ("put" : Str), V.int 1)] = [(Sum.inr ("wrap" : Str), V.int 2), (Sum.inr ("put" : Str), V.int 1)] := by decide +kernel
  rw [e]
  unfold mkIx
  by_cases c1 : w = "wrap"
  · rw [if_pos c1, valV_pos (p := (Sum.inr ("wrap" : Str), V.int 2)) (by rw [c1])]
    rfl
  · rw [if_neg c1, valV_neg (p := (Sum.inr ("wrap" : Str), V.int 2)) (fun h => c1 (Sum.inr.inj h).symm)]
    by_cases c2 : w = "put"
    · rw [if_pos c2, valV_pos (p := (Sum.inr ("put" : Str), V.int 1)) (by rw [c2])]
      rfl
    · rw [if_neg c2, valV_neg (p := (Sum.inr ("put" : Str), V.int 1)) (fun h => c2 (Sum.inr.inj h).symm)]
      rfl
theorem pure_rolesL {K : PySem.W.Frag} (vs : List V) (H : Hp) (Q : VK) (E : XK) (h : sp_rolesL K vs H Q E) : t_rolesL K { nx := fun _ H' => Q .non H', rt := Q } (start n_rolesL vs) H := by
  obtain ⟨v, dss, rfl, ⟨a, ws, rfl, ha, hp⟩, sm, q⟩ := h
  have hlen := paired_len hp
  refine ⟨big (by decide), fun p1 n1 => ⟨big (by decide), fun p2 n2 => ⟨_, _, rfl, ?_⟩⟩⟩
  have n2' : H p2 = none := (same_new n1).free n2
  have n12 : p1 ≠ p2 := ne_of_none upd_same n2
  have s2 : Same H (upd (upd H p1 (.lst [])) p2 (.lst [])) := (same_new n1).trans (same_new n2)
  refine ⟨.ref a, rfl, a, rfl, ⟨_, Same.sqT s2 ha⟩, for_it (walk_tup (xs := ws)) (fun i σ H' => ∃ y3 y4 y5, σ = [some (.ref a), some (.ref p1), some (.ref p2), y3, y4, y5] ∧ Same H H' ∧ H' p1 = some (.lst ((oldOf (sRoles dss i)).map V.str)) ∧ H' p2 = some (.lst ((newOf (sRoles dss i)).map V.str))) ⟨none, none, none, rfl, s2, same_new n2 _ _ upd_same, upd_same⟩ (fun i σ H' _ hJ => ?_) (fun i x σ H' H2 hi hJ hy => ?_) (fun σ H' hJ => ?_)⟩
  · obtain ⟨_, _, _, _, s, _⟩ := hJ
    exact Same.sqT s ha
  · obtain ⟨y3, y4, y5, rfl, s, e1, e2⟩ := hJ
    obtain ⟨rfl, hx⟩ := hy
    obtain ⟨ds, hds, b, rfl, hb⟩ := paired_get hp hx
    have mds := sm.l ds (List.mem_of_getElem? hds)
    obtain ⟨w, r, rfl⟩ : ∃ w r, ds = w :: r := by
      cases ds with
      | nil => exact absurd mds.1 (by simp)
      | cons w r => exact ⟨w, r, rfl⟩
    have hil : i < dss.length := by rw [← hlen]; exact hi
    have lim := sm.roles i (by omega)
    have sR : sRoles dss (i + 1) = dRoles (sRoles dss i) (w :: r) (w :: r).length := by
      show (match dss[i]? with | some ds => _ | none => _) = _
      rw [hds]
    -- made
    intro pd nd
    refine ⟨upd_same, [(Sum.inr ("wrap" : Str), V.int 2), (Sum.inr ("put" : Str), V.int 1)], rfl, by show 2 ≤ 15; decide, ?_⟩
    rw [upd_upd]
    have s3 : Same H (upd H2 pd (.dK (mergeK [] [(Sum.inr ("wrap" : Str), V.int 2), (Sum.inr ("put" : Str), V.int 1)]))) := s.trans (same_new nd)
    refine ⟨pd, rfl, .inl ⟨_, .inl upd_same⟩, .ref b, rfl, b, _, 0, _, rfl, rfl, Same.sqT s3 hb, atI_nat (j := 0) rfl, _, DGet.k (k := Sum.inr w) upd_same, ?_⟩
    rw [made_val]
    refine ⟨.ref b, rfl, b, _, rfl, .inr (Same.sqT s3 hb), 1, _, rfl, ⟨by decide, by decide, by omega, ?_⟩, ?_⟩
    · rw [List.length_map]
      omega
    have en : ((((w :: r).map V.str).length : Int) - 1).toNat = r.length := by
      rw [List.length_map, List.length_cons]
      omega
    rw [en]
    refine for_range (lo := 1) (n := r.length) (fun j σ H' => ∃ y5, σ = [some (.ref a), some (.ref p1), some (.ref p2), some (.ref b), some (.int (mkIx w : Nat)), y5] ∧ Same H H' ∧ H' p1 = some (.lst ((oldOf (dRoles (sRoles dss i) (w :: r) (j + 1))).map V.str)) ∧ H' p2 = some (.lst ((newOf (dRoles (sRoles dss i) (w :: r) (j + 1))).map V.str))) ⟨_, rfl, s3, same_new nd _ _ e1, same_new nd _ _ e2⟩ (fun j σ H' hj hJ => ?_) (fun σ H' hJ => ?_)
    · obtain ⟨y5, rfl, s, e1, e2⟩ := hJ
      have hj' : j + 1 < (w :: r).length := by
        rw [List.length_cons]
        omega
      have at1 : atI ((w :: r).map V.str) (1 + (j : Int)) = some (.str (w :: r)[j + 1]) := by
        rw [show (1 + (j : Int)) = ((j + 1 : Nat) : Int) by omega]
        exact atI_nat (by rw [List.getElem?_map, List.getElem?_eq_getElem hj']; rfl)
      generalize hx : (w :: r)[j + 1] = x at at1
      generalize hacc : dRoles (sRoles dss i) (w :: r) (j + 1) = acc at e1 e2
      have step : dRoles (sRoles dss i) (w :: r) (j + 1 + 1) = addRole acc x (mkB w (j + 1)) := by
        show roleStep (dRoles (sRoles dss i) (w :: r) (j + 1)) (w :: r) (j + 1) = _
        unfold roleStep
        rw [List.getElem?_eq_getElem hj', hx, hacc]
        rfl
      rw [step]
      have lacc : acc.length ≤ 63 := by
        have := dRoles_len (sRoles dss i) (w :: r) (j + 1)
        rw [hacc] at this
        omega
      have lo := oldOf_le acc
      have ln := newOf_le acc
      have hb' : SqT K H' b ((w :: r).map V.str) := Same.sqT s hb
      refine ⟨.ref b, rfl, .int (1 + j), rfl, b, _, _, _, rfl, rfl, hb', at1, .ref p1, rfl, .ref p2, rfl, p1, p2, _, _, rfl, rfl, e1, e2, ?_, fun p np => ?_⟩
      · rw [List.length_map, List.length_map]
        exact big (by omega)
      · rw [← List.map_append]
        have s4 : Same H (upd H' p (.lst ((oldOf acc ++ newOf acc).map V.str))) := s.trans (same_new np)
        have e1' : (upd H' p (.lst ((oldOf acc ++ newOf acc).map V.str))) p1 = _ := same_new np _ _ e1
        have e2' : (upd H' p (.lst ((oldOf acc ++ newOf acc).map V.str))) p2 = _ := same_new np _ _ e2
        refine ⟨p, _, rfl, .inl (.inl (.inl upd_same)), rfl, flat_strs _, _, rfl, ?_⟩
        show if (if true = true then !inV (.str x) ((oldOf acc ++ newOf acc).map V.str) else _) = true then _ else _
        rw [if_pos rfl, inV_strs, any_names]
        unfold addRole
        cases c : acc.any (fun p => decide (p.1 = x)) with
        | true => exact ⟨_, rfl, s4, e1', e2'⟩
        | false =>
          have hq : decide (V.int (1 + (j : Int)) = V.int ((mkIx w : Nat) : Int)) = mkB w (j + 1) := by
            rw [mkIx_mkB w (j + 1) (by omega)]
            by_cases d : j + 1 = mkIx w
            · rw [decide_eq_true d, decide_eq_true (by rw [← d]; congr 1; omega)]
            · rw [decide_eq_false d, decide_eq_false (fun h => d (by injection h with h; omega))]
          refine ⟨.int (1 + j), rfl, .int (mkIx w : Nat), rfl, rfl, _, rfl, ?_⟩
          rw [hq]
          rw [if_neg Bool.false_ne_true, oldOf_snoc, newOf_snoc]
          cases hm : mkB w (j + 1) with
          | true =>
            refine ⟨.ref p2, rfl, .inl ⟨rfl, _, .inl (.inl e2')⟩, .ref b, rfl, .int (1 + j), rfl, b, _, _, _, rfl, rfl, Same.sqT s4 hb, at1, p2, _, _, rfl, rfl, e2', ?_, _, rfl, fun z o e => ?_, ?_, ?_⟩
            · rw [List.length_map]
              exact big' (by omega)
            · rw [upd_ne (ne_of_none e n2')]
              exact s4 _ _ e
            · rw [upd_ne n12]
              exact e1'
            · rw [upd_same, if_pos rfl, List.map_append]
              rfl
          | false =>
            refine ⟨.ref p1, rfl, .inl ⟨rfl, _, .inl (.inl e1')⟩, .ref b, rfl, .int (1 + j), rfl, b, _, _, _, rfl, rfl, Same.sqT s4 hb, at1, p1, _, _, rfl, rfl, e1', ?_, _, rfl, fun z o e => ?_, ?_, ?_⟩
            · rw [List.length_map]
              exact big' (by omega)
            · rw [upd_ne (ne_of_none e n1)]
              exact s4 _ _ e
            · rw [upd_same, if_neg Bool.false_ne_true, List.map_append]
              rfl
            · rw [upd_ne n12.symm]
              exact e2'
    · obtain ⟨y5, rfl, s, e1, e2⟩ := hJ
      refine ⟨_, _, _, rfl, s, ?_, ?_⟩
      · rw [sR, List.length_cons]
        exact e1
      · rw [sR, List.length_cons]
        exact e2
  · obtain ⟨y3, y4, y5, rfl, s, e1, e2⟩ := hJ
    rw [hlen] at e1 e2
    have lim := sm.roles dss.length (Nat.le_refl _)
    have lo := oldOf_le (sRoles dss dss.length)
    have ln := newOf_le (sRoles dss dss.length)
    refine ⟨.ref p1, rfl, p1, _, rfl, .inl (.inl e1), by omega, fun ys t1 perm srt nt1 => ?_⟩
    have ey := srtS_of perm srt
    subst ey
    refine ⟨t1, _, rfl, .inl ⟨.inl (.inl upd_same), fun u1 nu1 => ?_⟩⟩
    have su1 := (same_new nt1 (o := .lst ((srtS (oldOf (sRoles dss dss.length))).map V.str))).trans (same_new nu1 (o := .tup ((srtS (oldOf (sRoles dss dss.length))).map V.str)))
    refine ⟨.ref p2, rfl, p2, _, rfl, .inl (.inl (su1 _ _ e2)), by omega, fun ys t2 perm srt nt2 => ?_⟩
    have ey := srtS_of perm srt
    subst ey
    refine ⟨t2, _, rfl, .inl ⟨.inl (.inl upd_same), fun u2 nu2 => ⟨big (by show 2 ≤ 100000; decide), fun p np => ?_⟩⟩⟩
    have su2 := (same_new nt2 (o := .lst ((srtS (newOf (sRoles dss dss.length))).map V.str))).trans (same_new nu2 (o := .tup ((srtS (newOf (sRoles dss dss.length))).map V.str)))
    exact q _ p u1 u2 (((s.trans su1).trans su2).trans (same_new np)) (.inl (.inl upd_same)) (.inl (.inl ((su2.trans (same_new np)) _ _ upd_same))) (.inl (.inl (same_new np _ _ upd_same)))

theorem deedErr_flat (xs : List V) : scal (deedErr xs) (deedErr xs) = true := by
  cases xs with
  | nil => rfl
  | cons x r =>
    rw [deedErr_cons]
    repeat' (first | rfl | split)
theorem ov_deed {K : PySem.W.Frag} {H : Hp} {d : Addr} {x : V} {o : OV} (h : Ov K H d x o) : ∃ e, DeedV K H x e ∧ scal e e = true := by
  have no : (∃ t, TyX K H x t ∧ PySem.W.kitOne K t (.type "tuple") = some false) → ∃ e, DeedV K H x e ∧ scal e e = true := fun n => ⟨.str "deed", ⟨h.av, .inr ⟨n, rfl⟩⟩, rfl⟩
  cases h with
  | non => exact no ⟨_, .base .non, kit_ty (by decide +kernel : kitB "NoneType" "tuple" = some false)⟩
  | bl b => exact no ⟨_, .base (.bl b), kit_ty (by decide +kernel : kitB "bool" "tuple" = some false)⟩
  | int i => exact no ⟨_, .base (.int i), kit_ty (by decide +kernel : kitB "int" "tuple" = some false)⟩
  | str z _ => exact no ⟨_, .base (.str z), kit_ty (by decide +kernel : kitB "str" "tuple" = some false)⟩
  | lst ne h => exact no ⟨_, tyx_lst h, kit_ty (by decide +kernel : kitB "list" "tuple" = some false)⟩
  | dct ne h => exact no ⟨_, .base (.dK h), kit_ty (by decide +kernel : kitB "dict" "tuple" = some false)⟩
  | tup ne h r l =>
    refine ⟨_, ⟨.tup h, .inl ⟨_, _, rfl, h, fun v hv => ?_, l, rfl⟩⟩, deedErr_flat _⟩
    obtain ⟨o, _, ho⟩ := r.mem hv
    exact ho.av
theorem DeedV.same {K : PySem.W.Frag} {H H' : Hp} {x e : V} (h : DeedV K H x e) (s : Same H H') : DeedV K H' x e := by
  obtain ⟨a, h⟩ := h
  refine ⟨a.same s, ?_⟩
  rcases h with ⟨a, xs, e, h, hv, l, e2⟩ | ⟨⟨ty, h1, h2⟩, e⟩
  · exact .inl ⟨a, xs, e, Same.sqT s h, fun v m => (hv v m).same s, l, e2⟩
  · exact .inr ⟨⟨ty, TyX.same h1 s, h2⟩, e⟩

/-! ### what is no script -/
theorem inA_str {y : V} {ss : List Str} (h : inA y ss = true) : ∃ w, y = .str w ∧ w ∈ ss := by
  cases y with
  | str z => exact ⟨z, rfl, List.contains_iff_mem.mp h⟩
  | _ => cases h
theorem names_strs : ∀ r : List V, r.all nameV = true → ∃ ns : List Str, r = ns.map V.str
  | [], _ => ⟨[], rfl⟩
  | x :: r, h => by
    rw [List.all_cons, Bool.and_eq_true] at h
    obtain ⟨ns, rfl⟩ := names_strs r h.2
    cases x with
    | str z => exact ⟨z :: ns, rfl⟩
    | _ => exact nomatch h.1
theorem deed_non {xs : List V} (h : deedErr xs = .non) : ∃ ds, xs = ds.map V.str ∧ IsDeed ds := by
  cases xs with
  | nil => cases h
  | cons x r =>
    rw [deedErr_cons] at h
    by_cases c1 : inA x wordsS = false
    · rw [if_pos c1] at h
      cases h
    · rw [if_neg c1] at h
      by_cases c2 : r.length ≠ (if inA x singleS = true then 1 else 2)
      · rw [if_pos c2] at h
        cases h
      · rw [if_neg c2] at h
        by_cases c3 : r.all nameV = true
        · obtain ⟨ns, rfl⟩ := names_strs r c3
          obtain ⟨w, rfl, hw⟩ := inA_str (y := x) (ss := wordsS) (by cases z : inA x wordsS; exact absurd z c1; rfl)
          refine ⟨w :: ns, rfl, w, ns, rfl, hw, ?_⟩
          have e := Decidable.not_not.mp c2
          rw [List.length_map] at e
          rw [e]
          by_cases c4 : w ∈ singleS
          · rw [if_pos c4, if_pos (show inA (.str w) singleS = true from List.contains_iff_mem.mpr c4)]
          · rw [if_neg c4, if_neg (show ¬ inA (.str w) singleS = true from fun z => c4 (List.contains_iff_mem.mp z))]
        · rw [if_neg c3] at h
          cases h
theorem deedV_non {K : PySem.W.Frag} {H : Hp} {x : V} (h : DeedV K H x .non) : ∃ ds, DeedR K H x ds ∧ IsDeed ds := by
  rcases h.2 with ⟨a, xs, rfl, hT, _, _, e⟩ | ⟨_, e⟩
  · obtain ⟨ds, rfl, hd⟩ := deed_non e.symm
    exact ⟨ds, ⟨a, rfl, hT⟩, hd⟩
  · cases e
def firstBad : Nat → List V → Option (V × V)
  | _, [] => none
  | i, e :: r => if e = .non then firstBad (i + 1) r else some (.int i, e)
theorem firstBad_at : ∀ (es : List V) (k i : Nat) (e : V), (∀ j, j < i → es[j]? = some .non) → es[i]? = some e → e ≠ .non → firstBad k es = some (.int ((k + i : Nat) : Int), e)
  | [], _, _, _, _, h, _ => by cases h
  | x :: r, k, 0, e, _, h, n => by
    have hx : x = e := Option.some.inj h
    subst hx
    show (if x = .non then _ else _) = _
    rw [if_neg n]
    rfl
  | x :: r, k, i + 1, e, hj, h, n => by
    have hx : x = .non := Option.some.inj (hj 0 (Nat.succ_pos _))
    show (if x = .non then _ else _) = _
    rw [if_pos hx, firstBad_at r (k + 1) i e (fun j hl => hj (j + 1) (Nat.succ_lt_succ hl)) h n, show k + 1 + i = k + (i + 1) by omega]
theorem firstBad_none : ∀ (es : List V) (k : Nat), (∀ e ∈ es, e = .non) → firstBad k es = none
  | [], _, _ => rfl
  | x :: r, k, h => by
    show (if x = .non then _ else _) = _
    rw [if_pos (h x List.mem_cons_self), firstBad_none r (k + 1) fun e m => h e (List.mem_cons_of_mem _ m)]
/-- the first reason against a script -/
def serr (es : List V) (dss : List (List Str)) : Option (V × V) :=
  if 12 < es.length then some (.non, .str "script") else match firstBad 0 es with
    | some p => some p
    | none => if 4 < (oldOf (rolesF dss)).length then some (.non, .str "old") else if 3 < (newOf (rolesF dss)).length then some (.non, .str "new") else none
def SErr (K : PySem.W.Frag) (H : Hp) (x : V) (r : Option (V × V)) : Prop :=
  ((∃ t, TyX K H x t ∧ PySem.W.kitOne K t (.type "tuple") = some false) ∧ r = some (.non, .str "script")) ∨
  ∃ a xs es dss, x = .ref a ∧ SqT K H a xs ∧ Paired (DeedV K H) xs es ∧ ((∀ e ∈ es, e = .non) → Paired (DeedR K H) xs dss ∧ ∀ ds ∈ dss, IsDeed ds) ∧ r = serr es dss
theorem SErr.same {K : PySem.W.Frag} {H H' : Hp} {x : V} {r : Option (V × V)} (h : SErr K H x r) (s : Same H H') : SErr K H' x r := by
  rcases h with ⟨⟨t, ty, k⟩, e⟩ | ⟨a, xs, es, dss, e, hT, hp, hd, er⟩
  · exact .inl ⟨⟨t, TyX.same ty s, k⟩, e⟩
  · exact .inr ⟨a, xs, es, dss, e, Same.sqT s hT, L2.Paired.mapP hp fun _ _ z => z.same s, fun z => ⟨L2.Paired.mapP (hd z).1 fun _ _ y => y.same s, (hd z).2⟩, er⟩
theorem deeds_of {K : PySem.W.Frag} {H : Hp} : ∀ {xs es : List V}, Paired (DeedV K H) xs es → (∀ e ∈ es, e = .non) → ∃ dss, Paired (DeedR K H) xs dss ∧ ∀ ds ∈ dss, IsDeed ds
  | _, _, .nil, _ => ⟨[], .nil, fun _ h => nomatch h⟩
  | _, _, .cons h r, n => by
    obtain ⟨dss, hp, hd⟩ := deeds_of r fun e m => n e (List.mem_cons_of_mem _ m)
    have e := n _ List.mem_cons_self
    subst e
    obtain ⟨ds, h1, h2⟩ := deedV_non h
    refine ⟨ds :: dss, .cons h1 hp, fun z m => ?_⟩
    rcases List.mem_cons.mp m with rfl | m
    · exact h2
    · exact hd z m
theorem deeds_any {K : PySem.W.Frag} {H : Hp} {xs es : List V} (h : Paired (DeedV K H) xs es) : ∃ dss, (∀ e ∈ es, e = .non) → Paired (DeedR K H) xs dss ∧ ∀ ds ∈ dss, IsDeed ds := by
  by_cases c : ∀ e ∈ es, e = .non
  · obtain ⟨dss, hd⟩ := deeds_of h c
    exact ⟨dss, fun _ => hd⟩
  · exact ⟨[], fun z => absurd z c⟩
theorem ovAll_deeds {K : PySem.W.Frag} {H : Hp} {d : Addr} : ∀ {xs : List V} {os : List OV}, OvAll K H d xs os → ∃ es, Paired (DeedV K H) xs es ∧ ∀ e ∈ es, scal e e = true
  | _, _, .nil => ⟨[], .nil, fun _ h => nomatch h⟩
  | _, _, .cons h r => by
    obtain ⟨es, hp, hs⟩ := ovAll_deeds r
    obtain ⟨e, he, hse⟩ := ov_deed h
    refine ⟨e :: es, .cons he hp, fun z m => ?_⟩
    rcases List.mem_cons.mp m with rfl | m
    · exact hse
    · exact hs z m
theorem ov_serr {K : PySem.W.Frag} {H : Hp} {d : Addr} {x : V} {o : OV} (h : Ov K H d x o) : ∃ r, SErr K H x r := by
  have no : (∃ t, TyX K H x t ∧ PySem.W.kitOne K t (.type "tuple") = some false) → ∃ r, SErr K H x r := fun n => ⟨_, .inl ⟨n, rfl⟩⟩
  cases h with
  | non => exact no ⟨_, .base .non, kit_ty (by decide +kernel : kitB "NoneType" "tuple" = some false)⟩
  | bl b => exact no ⟨_, .base (.bl b), kit_ty (by decide +kernel : kitB "bool" "tuple" = some false)⟩
  | int i => exact no ⟨_, .base (.int i), kit_ty (by decide +kernel : kitB "int" "tuple" = some false)⟩
  | str z _ => exact no ⟨_, .base (.str z), kit_ty (by decide +kernel : kitB "str" "tuple" = some false)⟩
  | lst ne h => exact no ⟨_, tyx_lst h, kit_ty (by decide +kernel : kitB "list" "tuple" = some false)⟩
  | dct ne h => exact no ⟨_, .base (.dK h), kit_ty (by decide +kernel : kitB "dict" "tuple" = some false)⟩
  | tup ne h r l =>
    obtain ⟨es, hp, _⟩ := ovAll_deeds r
    obtain ⟨dss, hd⟩ := deeds_any hp
    exact ⟨_, .inr ⟨_, _, es, dss, rfl, h, hp, hd, rfl⟩⟩
/-- what the reasons look like -/
theorem deedV_word {K : PySem.W.Frag} {H : Hp} {x e : V} (h : DeedV K H x e) : e = .non ∨ e = .str "deed" ∨ e = .str "name" := by
  rcases h.2 with ⟨a, xs, _, _, _, _, rfl⟩ | ⟨_, rfl⟩
  · cases xs with
    | nil => exact .inr (.inl rfl)
    | cons x r =>
      rw [deedErr_cons]
      repeat' (first | exact .inl rfl | exact .inr (.inl rfl) | exact .inr (.inr rfl) | split)
  · exact .inr (.inl rfl)
def sErrW : List Str := ["script", "old", "new", "deed", "name"]
theorem SErr.word {K : PySem.W.Frag} {H : Hp} {x a b : V} (h : SErr K H x (some (a, b))) : (a = .non ∨ ∃ i : Nat, i ≤ 12 ∧ a = .int i) ∧ ∃ w ∈ sErrW, b = .str w := by
  rcases h with ⟨_, e⟩ | ⟨c, xs, es, dss, _, _, hp, _, e⟩
  · cases e
    exact ⟨.inl rfl, _, by decide +kernel, rfl⟩
  · unfold serr at e
    by_cases c1 : 12 < es.length
    · rw [if_pos c1] at e
      cases e
      exact ⟨.inl rfl, _, by decide +kernel, rfl⟩
    · rw [if_neg c1] at e
      have key : ∀ (k : Nat) (xs es : List V), Paired (DeedV K H) xs es → firstBad k es = some (a, b) → (∃ i : Nat, i ≤ k + es.length ∧ a = .int i) ∧ ∃ w ∈ sErrW, b = .str w := by
        intro k xs es hp
        induction hp generalizing k with
        | nil => exact fun h => nomatch h
        | @cons x e xs es h1 h2 ih =>
          intro h
          have h' : (if e = .non then firstBad (k + 1) es else some (.int k, e)) = some (a, b) := h
          by_cases c2 : e = .non
          · rw [if_pos c2] at h'
            obtain ⟨⟨i, hi, ei⟩, hw⟩ := ih (k + 1) h'
            exact ⟨⟨i, by rw [List.length_cons]; omega, ei⟩, hw⟩
          · rw [if_neg c2] at h'
            cases h'
            refine ⟨⟨k, by omega, rfl⟩, ?_⟩
            rcases deedV_word h1 with z | z | z
            · exact absurd z c2
            · exact ⟨_, by decide +kernel, z⟩
            · exact ⟨_, by decide +kernel, z⟩
      cases hf : firstBad 0 es with
      | some p =>
        rw [hf] at e
        have e' : some p = some (a, b) := e.symm
        rw [e'] at hf
        obtain ⟨⟨i, hi, ei⟩, hw⟩ := key 0 xs es hp hf
        exact ⟨.inr ⟨i, by omega, ei⟩, hw⟩
      | none =>
        rw [hf] at e
        dsimp only at e
        by_cases c3 : 4 < (oldOf (rolesF dss)).length
        · rw [if_pos c3] at e
          cases e
          exact ⟨.inl rfl, _, by decide +kernel, rfl⟩
        · rw [if_neg c3] at e
          by_cases c4 : 3 < (newOf (rolesF dss)).length
          · rw [if_pos c4] at e
            cases e
            exact ⟨.inl rfl, _, by decide +kernel, rfl⟩
          · rw [if_neg c4] at e
            cases e
/-- the promise of both -/
def sp_serr (K : PySem.W.Frag) : Sp := fun vs H Q _ => ∃ (x : V) (r : Option (V × V)), vs = [x] ∧ SErr K H x r ∧ (∀ H', Same H H' → r = none → Q .non H') ∧ ∀ (H' : Hp) (p : Addr) (a b : V), Same H H' → r = some (a, b) → SqT K H' p [a, b] → Q (.ref p) H'
theorem serr_at {es : List V} {dss : List (List Str)} {i : Nat} {e : V} (hl : es.length ≤ 12) (hj : ∀ j, j < i → es[j]? = some .non) (h : es[i]? = some e) (n : e ≠ .non) : serr es dss = some (.int (i : Nat), e) := by
  unfold serr
  rw [if_neg (by omega), firstBad_at es 0 i e hj h n, Nat.zero_add]
theorem serr_all {es : List V} {dss : List (List Str)} (hl : es.length ≤ 12) (hn : ∀ e ∈ es, e = .non) : serr es dss = if 4 < (oldOf (rolesF dss)).length then some (.non, .str "old") else if 3 < (newOf (rolesF dss)).length then some (.non, .str "new") else none := by
  unfold serr
  rw [if_neg (by omega), firstBad_none es 0 hn]
theorem serr_long {es : List V} {dss : List (List Str)} (hl : 12 < es.length) : serr es dss = some (.non, .str "script") := if_pos hl
theorem all_non {es : List V} (h : ∀ j, j < es.length → es[j]? = some .non) : ∀ e ∈ es, e = V.non := fun e m => by
  obtain ⟨i, hi, rfl⟩ := List.mem_iff_getElem.mp m
  have := h i hi
  rw [List.getElem?_eq_getElem hi] at this
  exact Option.some.inj this

/-- slots of script_error: 0 value, 1 index, 2 deed, 3 word -/
def n_script_error : List Str := ["value", "index", "deed", "word"]
def t_script_error (K : PySem.W.Frag) : TS :=
  (tSeq (tIfS (tOr (tNot (tB (tCB (rIsi K) (tCons (tVar 0) (tCons (tC (.ty "tuple")) tNil))))) (tTest (tOp rGtI (tCB (rLenQ K) (tCons (tVar 0) tNil)) (tC (.int 12))))) (tRet (tTup (tCons (tC .non) (tCons (tC (.str "script")) tNil)))) tNext)
    (tSeq (tFor (iEnumT K (tCons (tVar 0) tNil)) (gTup K 2 (gCons (gName 1) (gCons (gName 2) gNil))) (tSeq (tAsg (tCall (sp_deed_error K) [] E0 (tCons (tVar 2) tNil)) (gName 3))
    (tIfS (tTest (tOp rNotN (tVar 3) (tC .non))) (tRet (tTup (tCons (tVar 1) (tCons (tVar 3) tNil)))) tNext)))
    (tSeq (tIfS (tTest (tOp rGtI (tCB (rLenQ K) (tCons (tCall (sp_old_names K) [] E0 (tCons (tVar 0) tNil)) tNil)) (tC (.int 4)))) (tRet (tTup (tCons (tC .non) (tCons (tC (.str "old")) tNil)))) tNext)
    (tRet (tIf (tTest (tOp rGtI (tCB (rLenQ K) (tCons (tCall (sp_new_names K) [] E0 (tCons (tVar 0) tNil)) tNil)) (tC (.int 3)))) (tTup (tCons (tC .non) (tCons (tC (.str "new")) tNil))) (tC .non))))))

def sp_script_error (K : PySem.W.Frag) : Sp := sp_serr K
theorem pure_script_error {K : PySem.W.Frag} (vs : List V) (H : Hp) (Q : VK) (E : XK) (h : sp_script_error K vs H Q E) : t_script_error K { nx := fun _ H' => Q .non H', rt := Q } (start n_script_error vs) H := by
  obtain ⟨x, r, rfl, hc, q0, q1⟩ := h
  rcases hc with ⟨⟨t, ty, kt⟩, rfl⟩ | ⟨a, xs, es, dss, rfl, hT, hp, hd, rfl⟩
  · refine ⟨x, rfl, x, .ty "tuple", t, .type "tuple", false, rfl, .ty "tuple", ty, kt, _, rfl, ?_⟩
    exact ⟨big (by show 2 ≤ 100000; decide), fun p np => q1 _ p _ _ (same_new np) rfl (.inl (.inl upd_same))⟩
  · have hl := paired_len hp
    refine ⟨.ref a, rfl, .ref a, .ty "tuple", .type "tuple", .type "tuple", true, rfl, .ty "tuple", tyx_tup hT, kit_tt, _, rfl, ?_⟩
    refine ⟨.ref a, rfl, a, _, rfl, .inr hT, _, _, rfl, rfl, _, rfl, ?_⟩
    by_cases c1 : (12 : Int) < (xs.length : Int)
    · rw [decide_eq_true c1]
      exact ⟨big (by show 2 ≤ 100000; decide), fun p np => q1 _ p _ _ (same_new np) (serr_long (by omega)) (.inl (.inl upd_same))⟩
    · rw [decide_eq_false c1]
      refine ⟨.ref a, rfl, a, _, rfl, hT, for_it (walk_enumT (xs := xs)) (fun i σ H' => ∃ y1 y2 y3, σ = [some (.ref a), y1, y2, y3] ∧ Same H H' ∧ ∀ j, j < i → es[j]? = some .non) ⟨none, none, none, rfl, Same.refl H, (fun j h => absurd h (Nat.not_lt_zero j))⟩ (fun i σ H' _ hJ => ?_) (fun i x σ H' H2 hi hJ hy => ?_) (fun σ H' hJ => ?_)⟩
      · obtain ⟨_, _, _, _, s, _⟩ := hJ
        exact Same.sqT s hT
      · obtain ⟨y1, y2, y3, rfl, s, hj⟩ := hJ
        obtain ⟨T, x1, x2, rfl, nT, rfl, e1, e2⟩ := hy
        have ex1 : x1 = .int (i : Nat) := (Option.some.inj e1).symm
        subst ex1
        obtain ⟨e, he, hv⟩ := paired_get hp e2
        have s1 : Same H (upd H' T (.tup [.int (i : Nat), x2])) := s.trans (same_new nT)
        refine ⟨T, _, rfl, .inl (.inl upd_same), rfl, _, _, rfl, _, _, rfl, rfl, x2, rfl, x2, e, rfl, hv.same s1, fun H4 s4 => ⟨e, rfl, rfl, _, rfl, ?_⟩⟩
        have s14 := s1.trans s4
        by_cases c : e = .non
        · subst c
          refine ⟨_, _, _, rfl, s14, fun j hji => ?_⟩
          rcases Nat.lt_succ_iff_lt_or_eq.mp hji with z | z
          · exact hj j z
          · rw [z]
            exact he
        · rw [decide_eq_false c]
          exact ⟨_, rfl, e, rfl, big (by show 2 ≤ 100000; decide), fun p np => q1 _ p _ _ (s14.trans (same_new np)) (serr_at (by omega) hj he c) (.inl (.inl upd_same))⟩
      · obtain ⟨y1, y2, y3, rfl, s, hj⟩ := hJ
        rw [hl] at hj
        have an := all_non hj
        obtain ⟨hdp, hdd⟩ := hd an
        have hS : ScrR K H' (.ref a) dss := ⟨a, xs, rfl, Same.sqT s hT, L2.Paired.mapP hdp fun _ _ z => z.same s⟩
        have ld := paired_len hdp
        have sm : Small dss := small_of (by omega) hdd
        have er := serr_all (dss := dss) (by omega) an
        refine ⟨.ref a, rfl, _, dss, rfl, hS, sm, fun H5 p5 s5 h5 => ⟨p5, _, rfl, .inr h5, _, _, rfl, rfl, _, rfl, ?_⟩⟩
        rw [List.length_map, srtS_len]
        by_cases c2 : (4 : Int) < ((oldOf (rolesF dss)).length : Int)
        · rw [decide_eq_true c2]
          rw [if_pos (by omega)] at er
          exact ⟨big (by show 2 ≤ 100000; decide), fun p np => q1 _ p _ _ ((s.trans s5).trans (same_new np)) er (.inl (.inl upd_same))⟩
        · rw [decide_eq_false c2]
          rw [if_neg (by omega)] at er
          refine ⟨.ref a, rfl, _, dss, rfl, hS.same s5, sm, fun H6 p6 s6 h6 => ⟨p6, _, rfl, .inr h6, _, _, rfl, rfl, _, rfl, ?_⟩⟩
          rw [List.length_map, srtS_len]
          by_cases c3 : (3 : Int) < ((newOf (rolesF dss)).length : Int)
          · rw [decide_eq_true c3]
            rw [if_pos (by omega)] at er
            exact ⟨big (by show 2 ≤ 100000; decide), fun p np => q1 _ p _ _ (((s.trans s5).trans s6).trans (same_new np)) er (.inl (.inl upd_same))⟩
          · rw [decide_eq_false c3]
            rw [if_neg (by omega)] at er
            exact q0 _ ((s.trans s5).trans s6) er

/-- slots of _law_script_error: 0 _law_value, 1 _law_k, 2 _law_word, 3 _law_old, 4 _law_new -/
def n_script_errorL : List Str := ["_law_value", "_law_k", "_law_word", "_law_old", "_law_new"]
def t_script_errorL (K : PySem.W.Frag) : TS :=
  (tSeq (tIfS (tOr (tNot (tB (tCB (rIsi K) (tCons (tVar 0) (tCons (tC (.ty "tuple")) tNil))))) (tTest (tOp rGtI (tCB (rLenQ K) (tCons (tVar 0) tNil)) (tC (.int 12))))) (tRet (tTup (tCons (tC .non) (tCons (tC (.str "script")) tNil)))) tNext)
    (tSeq (tFor (iRng1 (tCons (tCB (rLenQ K) (tCons (tVar 0) tNil)) tNil)) (gName 1) (tSeq (tAsg (tCall (sp_deed_errorL K) [] E0 (tCons (tOp (rIxT K) (tVar 0) (tVar 1)) tNil)) (gName 2))
    (tIfS (tTest (tOp rNotN (tVar 2) (tC .non))) (tRet (tTup (tCons (tVar 1) (tCons (tVar 2) tNil)))) tNext)))
    (tSeq (tAsg (tCall (sp_rolesL K) [] E0 (tCons (tVar 0) tNil)) (gTup K 2 (gCons (gName 3) (gCons (gName 4) gNil))))
    (tSeq (tIfS (tTest (tOp rGtI (tCB (rLenQ K) (tCons (tVar 3) tNil)) (tC (.int 4)))) (tRet (tTup (tCons (tC .non) (tCons (tC (.str "old")) tNil)))) tNext)
    (tRet (tIf (tTest (tOp rGtI (tCB (rLenQ K) (tCons (tVar 4) tNil)) (tC (.int 3)))) (tTup (tCons (tC .non) (tCons (tC (.str "new")) tNil))) (tC .non)))))))

def sp_script_errorL (K : PySem.W.Frag) : Sp := sp_serr K
theorem pure_script_errorL {K : PySem.W.Frag} (vs : List V) (H : Hp) (Q : VK) (E : XK) (h : sp_script_errorL K vs H Q E) : t_script_errorL K { nx := fun _ H' => Q .non H', rt := Q } (start n_script_errorL vs) H := by
  obtain ⟨x, r, rfl, hc, q0, q1⟩ := h
  rcases hc with ⟨⟨t, ty, kt⟩, rfl⟩ | ⟨a, xs, es, dss, rfl, hT, hp, hd, rfl⟩
  · refine ⟨x, rfl, x, .ty "tuple", t, .type "tuple", false, rfl, .ty "tuple", ty, kt, _, rfl, ?_⟩
    exact ⟨big (by show 2 ≤ 100000; decide), fun p np => q1 _ p _ _ (same_new np) rfl (.inl (.inl upd_same))⟩
  · have hl := paired_len hp
    refine ⟨.ref a, rfl, .ref a, .ty "tuple", .type "tuple", .type "tuple", true, rfl, .ty "tuple", tyx_tup hT, kit_tt, _, rfl, ?_⟩
    refine ⟨.ref a, rfl, a, _, rfl, .inr hT, _, _, rfl, rfl, _, rfl, ?_⟩
    by_cases c1 : (12 : Int) < (xs.length : Int)
    · rw [decide_eq_true c1]
      exact ⟨big (by show 2 ≤ 100000; decide), fun p np => q1 _ p _ _ (same_new np) (serr_long (by omega)) (.inl (.inl upd_same))⟩
    · rw [decide_eq_false c1]
      refine ⟨.ref a, rfl, a, _, rfl, .inr hT, _, rfl, by omega, by omega, for_range (lo := 0) (n := xs.length) (fun i σ H' => ∃ y1 y2, σ = [some (.ref a), y1, y2, none, none] ∧ Same H H' ∧ ∀ j, j < i → es[j]? = some .non) ⟨none, none, rfl, Same.refl H, (fun j h => absurd h (Nat.not_lt_zero j))⟩ (fun i σ H' hi hJ => ?_) (fun σ H' hJ => ?_)⟩
      · obtain ⟨y1, y2, rfl, s, hj⟩ := hJ
        have hi' : i < xs.length := by omega
        have e2 : xs[i]? = some xs[i] := List.getElem?_eq_getElem hi'
        obtain ⟨e, he, hv⟩ := paired_get hp e2
        refine ⟨.ref a, rfl, _, rfl, a, _, _, _, rfl, rfl, Same.sqT s hT, (by rw [Int.zero_add]; exact atI_nat (j := i) e2), xs[i], e, rfl, hv.same s, fun H4 s4 => ⟨e, rfl, rfl, _, rfl, ?_⟩⟩
        have s14 := s.trans s4
        by_cases c : e = .non
        · subst c
          refine ⟨_, _, rfl, s14, fun j hji => ?_⟩
          rcases Nat.lt_succ_iff_lt_or_eq.mp hji with z | z
          · exact hj j z
          · rw [z]
            exact he
        · rw [decide_eq_false c]
          exact ⟨_, rfl, e, rfl, big (by show 2 ≤ 100000; decide), fun p np => q1 _ p _ _ (s14.trans (same_new np)) (serr_at (by omega) hj he c) (by rw [Int.zero_add]; exact .inl (.inl upd_same))⟩
      · obtain ⟨y1, y2, rfl, s, hj⟩ := hJ
        rw [hl] at hj
        have an := all_non hj
        obtain ⟨hdp, hdd⟩ := hd an
        have hS : ScrR K H' (.ref a) dss := ⟨a, xs, rfl, Same.sqT s hT, L2.Paired.mapP hdp fun _ _ z => z.same s⟩
        have ld := paired_len hdp
        have sm : Small dss := small_of (by omega) hdd
        have er := serr_all (dss := dss) (by omega) an
        refine ⟨.ref a, rfl, _, dss, rfl, hS, sm, fun H5 p5 a1 a2 s5 h5 h1 h2 => ⟨p5, _, rfl, h5, rfl, _, _, rfl, _, _, rfl, rfl, ?_⟩⟩
        refine ⟨.ref a1, rfl, a1, _, rfl, .inr h1, _, _, rfl, rfl, _, rfl, ?_⟩
        rw [List.length_map, srtS_len]
        by_cases c2 : (4 : Int) < ((oldOf (rolesF dss)).length : Int)
        · rw [decide_eq_true c2]
          rw [if_pos (by omega)] at er
          exact ⟨big (by show 2 ≤ 100000; decide), fun p np => q1 _ p _ _ ((s.trans s5).trans (same_new np)) er (.inl (.inl upd_same))⟩
        · rw [decide_eq_false c2]
          rw [if_neg (by omega)] at er
          refine ⟨.ref a2, rfl, a2, _, rfl, .inr h2, _, _, rfl, rfl, _, rfl, ?_⟩
          rw [List.length_map, srtS_len]
          by_cases c3 : (3 : Int) < ((newOf (rolesF dss)).length : Int)
          · rw [decide_eq_true c3]
            rw [if_pos (by omega)] at er
            exact ⟨big (by show 2 ≤ 100000; decide), fun p np => q1 _ p _ _ ((s.trans s5).trans (same_new np)) er (.inl (.inl upd_same))⟩
          · rw [decide_eq_false c3]
            rw [if_neg (by omega)] at er
            exact q0 _ (s.trans s5) er

/-- slots of _law_near: 0 _law_deck_here, 1 _law_names_here, 2 _law_old, 3 _law_new, 4 _law_deeds, 5 _law_k, 6 _law_made, 7 _law_over, 8 _law_name_here -/
def n_nearL : List Str := ["_law_deck_here", "_law_names_here", "_law_old", "_law_new", "_law_deeds", "_law_k", "_law_made", "_law_over", "_law_name_here"]
def t_nearL (K : PySem.W.Frag) : TS :=
  (tSeq (tPar 2 3 (tCons (tOp rAddI (tC (.int 3)) (tCall sp_drawL [] E0 (tCons (tVar 0) (tCons (tC (.int 3)) tNil)))) (tCons (tOp rAddI (tC (.int 2)) (tCall sp_drawL [] E0 (tCons (tVar 0) (tCons (tC (.int 3)) tNil)))) tNil)))
    (tSeq (tAsg (tLc (iList K (L2.tSl (rSlL K) (tVar 1) tNoPart (tPart (tVar 2)))) (gName 8) tYes (tTup (tCons (tC (.str "back")) (tCons (tVar 8) tNil))) [8]) (gName 4))
    (tSeq (tFor (iRng1 (tCons (tVar 3) tNil)) (gName 5) (tSeq (tAsg (tOp (rIxL K) (tVar 1) (tOp rAddI (tC (.int 5)) (tVar 5))) (gName 6))
    (tSeq (tAsg (tOp (rIxL K) (tVar 1) (tOp rModI (tVar 5) (tVar 2))) (gName 7))
    (tDrop (tBM K "list" rAppend (tVar 4) (tCons (tCall (sp_pickL K) [] E0 (tCons (tVar 0) (tCons (tLst (tCons (tTup (tCons (tC (.str "wrap")) (tCons (tVar 7) (tCons (tVar 6) tNil)))) (tCons (tTup (tCons (tC (.str "put")) (tCons (tVar 6) (tCons (tVar 7) tNil)))) tNil))) tNil))) tNil))))))
    (tSeq (tIfS (tTest (tOp rEq (tCall sp_drawL [] E0 (tCons (tVar 0) (tCons (tC (.int 4)) tNil))) (tC (.int 0)))) (tDrop (tBM K "list" rAppend (tVar 4) (tCons (tTup (tCons (tC (.str "swap")) (tCons (tOp (rIxL K) (tVar 1) (tC (.int 0))) (tCons (tOp (rIxL K) (tVar 1) (tCall sp_drawL [] E0 (tCons (tVar 0) (tCons (tC (.int 9)) tNil)))) tNil)))) tNil))) tNext)
    (tRet (tCB (rTupOf K) (tCons (tVar 4) tNil)))))))

/-! a script near the limits -/
theorem sqT_relist {K : PySem.W.Frag} {H : Hp} {L a : Addr} {ys zs xs : List V} (hL : H L = some (.lst ys)) (h : SqT K H a xs) : SqT K (upd H L (.lst zs)) a xs := by
  rcases h with h | h
  · refine .inl (Rd.keep (fun o e => ?_) h)
    rw [upd_ne ?_]
    · exact e
    · rintro rfl
      rcases h with h | ⟨_, h⟩
      · rw [hL] at h; cases h
      · rw [hL] at h; cases h
  · exact .inr h
theorem DeedR.relist {K : PySem.W.Frag} {H : Hp} {L : Addr} {ys zs : List V} {v : V} {ds : List Str} (hL : H L = some (.lst ys)) (h : DeedR K H v ds) : DeedR K (upd H L (.lst zs)) v ds := by
  obtain ⟨a, e, h⟩ := h
  exact ⟨a, e, sqT_relist hL h⟩
structure Nr (K : PySem.W.Frag) (d l D : Addr) (ns : List Str) (H0 : Hp) (n : Nat) (H' : Hp) (ws : List V) (dss : List (List Str)) : Prop where
  at_ : H' D = some (.lst ws)
  pr : Paired (DeedR K H') ws dss
  len : dss.length ≤ n
  ok : ∀ ds ∈ dss, IsDeed ds ∧ ∀ z ∈ ds.drop 1, z ∈ ns
  el : H' l = some (.lst (ns.map V.str))
  kp : Kp d H0 H'
  dk : Dk H' d
  ne : ∀ v ∈ ws, v ≠ .ref d
theorem Nr.keep {K : PySem.W.Frag} {d l D : Addr} {ns : List Str} {H0 H' H2 : Hp} {n : Nat} {ws : List V} {dss : List (List Str)} (nD : D ≠ d) (nl : l ≠ d) (h : Nr K d l D ns H0 n H' ws dss) (k : Kp d H' H2) (hD : Dk H2 d) : Nr K d l D ns H0 n H2 ws dss :=
  ⟨k _ _ nD h.at_, L2.Paired.mapP h.pr fun _ _ z => z.keep k h.dk, h.len, h.ok, k _ _ nl h.el, h.kp.trans k, hD, h.ne⟩
theorem Nr.push {K : PySem.W.Frag} {d l D : Addr} {ns : List Str} {H0 H' : Hp} {n : Nat} {ws : List V} {dss : List (List Str)} {v : V} {ds : List Str} (nD : D ≠ d) (nl : l ≠ D) (hD0 : H0 D = none) (h : Nr K d l D ns H0 n H' ws dss) (hv : DeedR K H' v ds) (nv : v ≠ .ref d) (hd : IsDeed ds) (hz : ∀ z ∈ ds.drop 1, z ∈ ns) :
    Nr K d l D ns H0 (n + 1) (upd H' D (.lst (ws ++ [v]))) (ws ++ [v]) (dss ++ [ds]) := by
  refine ⟨upd_same, paired_app (L2.Paired.mapP h.pr fun _ _ z => z.relist h.at_) (.cons (hv.relist h.at_) .nil), ?_, fun e he => ?_, ?_, h.kp.then_at hD0, h.dk.upd nD, fun e he => ?_⟩
  · rw [List.length_append, List.length_cons, List.length_nil]
    have := h.len
    omega
  · rcases List.mem_append.mp he with z | z
    · exact h.ok e z
    · rcases List.mem_cons.mp z with rfl | z
      · exact ⟨hd, hz⟩
      · cases z
  · rw [upd_ne nl]
    exact h.el
  · rcases List.mem_append.mp he with z | z
    · exact h.ne e z
    · rcases List.mem_cons.mp z with rfl | z
      · exact nv
      · cases z
theorem two_deed (w x y : Str) (h : w ∈ wordsS ∧ w ∉ singleS) : IsDeed [w, x, y] := ⟨w, [x, y], rfl, h.1, by rw [if_neg h.2]; rfl⟩
theorem one_deed (w x : Str) (h : w ∈ wordsS ∧ w ∈ singleS) : IsDeed [w, x] := ⟨w, [x], rfl, h.1, by rw [if_pos h.2]; rfl⟩
def sp_nearL (K : PySem.W.Frag) : Sp := fun vs H Q _ => ∃ (d l : Addr) (ns : List Str), vs = [.ref d, .ref l] ∧ Dk H d ∧ l ≠ d ∧ H l = some (.lst (ns.map V.str)) ∧ ns.length = 9 ∧
  ∀ (H' : Hp) (p : Addr) (ws : List V) (dss : List (List Str)), H p = none → SqT K H' p ws → Paired (DeedR K H') ws dss → (∀ v ∈ ws, v ≠ .ref d) → dss.length ≤ 20 → (∀ ds ∈ dss, IsDeed ds ∧ ∀ z ∈ ds.drop 1, z ∈ ns) → Kp d H H' → Dk H' d → Q (.ref p) H'
theorem pure_nearL {K : PySem.W.Frag} (vs : List V) (H : Hp) (Q : VK) (E : XK) (h : sp_nearL K vs H Q E) : t_nearL K { nx := fun _ H' => Q .non H', rt := Q } (start n_nearL vs) H := by
  obtain ⟨d, l, ns, rfl, hD, nl, el, n9, q⟩ := h
  refine ⟨.ref d, rfl, d, 3, rfl, hD, by decide, by decide, fun H1 r1 r10 r11 k1 hD1 => ⟨_, _, rfl, rfl, .ref d, rfl, d, 3, rfl, hD1, by decide, by decide, fun H2 r2 r20 r21 k2 hD2 => ⟨_, _, rfl, rfl, _, _, rfl, ?_⟩⟩⟩
  obtain ⟨po, rfl⟩ : ∃ po : Nat, r1 = po := ⟨r1.toNat, by omega⟩
  obtain ⟨pn, rfl⟩ : ∃ pn : Nat, r2 = pn := ⟨r2.toNat, by omega⟩
  have k02 := k1.trans k2
  have el2 := k02 _ _ nl el
  refine ⟨.ref l, rfl, _, rfl, _, rfl, l, _, rfl, .inl (.inl el2), fun l1 nl1 => ⟨l1, rfl, ⟨_, .inl (.inl upd_same)⟩, fun D nD => ?_⟩⟩
  have s3 := same_new nl1 (o := .lst (cutV (ns.map V.str) none (some ((3 : Int) + po))))
  have nDl1 : l1 ≠ D := ne_of_none upd_same nD
  have nDl : l ≠ D := ne_of_none (s3 _ _ el2) nD
  have hD3 := hD2.same s3
  have nDd : D ≠ d := hD3.ne nD
  have nD0 : H D = none := by
    cases z : H D with
    | none => rfl
    | some o =>
      have := s3 _ _ (k02 _ _ nDd z)
      rw [nD] at this
      cases this
  rw [cut_map_eq] at *
  generalize hzs : (ns.drop (HT.sIx ns.length 0 none)).take (HT.sIx ns.length ns.length (some ((3 : Int) + po)) - HT.sIx ns.length 0 none) = zs at *
  have zin : ∀ z ∈ zs, z ∈ ns := fun z m => by
    rw [← hzs] at m
    exact List.mem_of_mem_drop (List.mem_of_mem_take m)
  have zl : zs.length ≤ 9 := by
    rw [← hzs, List.length_take, List.length_drop]
    omega
  refine lc_it (walk_list (xs := zs.map V.str)) (fun i H' => (∃ ws dss, Nr K d l D ns H i H' ws dss) ∧ H' l1 = some (.lst (zs.map V.str))) ⟨⟨[], [], ⟨upd_same, .nil, Nat.le_refl _, (fun _ h => nomatch h), by rw [upd_ne nDl]; exact s3 _ _ el2, ((k02.trans (Kp.of s3)).trans (Kp.new nD)), hD3.new nD, (fun _ h => nomatch h)⟩⟩, by rw [upd_ne nDl1]; exact upd_same⟩ (fun i H' _ hp => .inl (.inl hp.2)) (fun i v H' H5 hi hp hy => ?_) (fun H' hp => ?_)
  · obtain ⟨⟨ws, dss, hN⟩, e1⟩ := hp
    obtain ⟨rfl, hv⟩ := hy
    obtain ⟨z, hz, rfl⟩ : ∃ z, z ∈ zs ∧ v = .str z := by
      obtain ⟨z, m, e⟩ := List.mem_map.mp (List.mem_of_getElem? hv)
      exact ⟨z, m, e.symm⟩
    refine ⟨rfl, .str z, rfl, big (by show 2 ≤ 100000; decide), fun t nt => ?_⟩
    have hN' := hN.keep nDd nl (Kp.new (o := .tup [.str "back", .str z]) nt) (hN.dk.new nt)
    have lw := paired_len hN'.pr
    have ln := hN'.len
    rw [List.length_map] at hi
    refine ⟨ws, hN'.at_, big' (by omega), ⟨_, _, hN'.push nDd nDl nD0 ⟨t, rfl, .inl (.inl upd_same)⟩ (fun e => hN.dk.ne nt (V.ref.inj e)) (one_deed _ _ (by decide +kernel)) fun y hy => ?_⟩, ?_⟩
    · rcases List.mem_cons.mp hy with rfl | hy
      · exact zin _ hz
      · cases hy
    · rw [upd_ne nDl1]
      exact same_new nt _ _ e1
  · obtain ⟨⟨ws, dss, hN⟩, _⟩ := hp
    rw [List.length_map] at hN
    have hN9 : Nr K d l D ns H 9 H' ws dss := ⟨hN.at_, hN.pr, Nat.le_trans hN.len zl, hN.ok, hN.el, hN.kp, hN.dk, hN.ne⟩
    clear hN
    refine ⟨_, rfl, _, rfl, by omega, by omega, for_range (lo := 0) (n := ((2 : Int) + pn).toNat) (fun i σ H' => ∃ ws dss y5 y6 y7, σ = [some (.ref d), some (.ref l), some (.int (3 + po)), some (.int (2 + pn)), some (.ref D), y5, y6, y7, none] ∧ Nr K d l D ns H (9 + i) H' ws dss) ⟨ws, dss, none, none, none, rfl, hN9⟩ (fun i σ H' hi hJ => ?_) (fun σ H' hJ => ?_)⟩
    · obtain ⟨ws, dss, y5, y6, y7, rfl, hN⟩ := hJ
      have hi' : i < 4 := by omega
      have g5 : (ns.map V.str)[5 + i]? = some (.str ns[5 + i]) := by rw [List.getElem?_map, List.getElem?_eq_getElem]; rfl
      have a5 : atI (ns.map V.str) (5 + (0 + (i : Int))) = some (.str ns[5 + i]) := by
        rw [show (5 : Int) + (0 + (i : Int)) = ((5 + i : Nat) : Int) by omega]
        exact atI_nat g5
      have hm : i % (3 + po) < ns.length := by
        have := Nat.mod_lt i (show 0 < 3 + po by omega)
        omega
      have g7 : (ns.map V.str)[i % (3 + po)]? = some (.str ns[i % (3 + po)]) := by rw [List.getElem?_map, List.getElem?_eq_getElem hm]; rfl
      have a7 : atI (ns.map V.str) ((0 + (i : Int)) % (3 + (po : Int))) = some (.str ns[i % (3 + po)]) := by
        rw [show ((0 : Int) + (i : Int)) % (3 + (po : Int)) = ((i % (3 + po) : Nat) : Int) by rw [Int.zero_add]; push_cast; rfl]
        exact atI_nat g7
      refine ⟨.ref l, rfl, _, rfl, _, _, rfl, rfl, l, _, _, _, rfl, rfl, .inl (.inl hN.el), a5, ?_⟩
      refine ⟨.ref l, rfl, _, rfl, _, rfl, _, _, rfl, rfl, by omega, l, _, _, _, rfl, rfl, .inl (.inl hN.el), a7, ?_⟩
      have m5 : ns[5 + i] ∈ ns := List.getElem_mem _
      have m7 : ns[i % (3 + po)] ∈ ns := List.getElem_mem _
      generalize ns[5 + i] = made at *
      generalize ns[i % (3 + po)] = over at *
      refine ⟨.ref D, rfl, .inl ⟨rfl, _, .inl (.inl hN.at_)⟩, .ref d, rfl, .str over, rfl, .str made, rfl, big (by show 3 ≤ 100000; decide), fun t3 nt3 => ⟨.str made, rfl, .str over, rfl, big (by show 3 ≤ 100000; decide), fun t4 nt4 => ⟨big (by show 2 ≤ 100000; decide), fun t5 nt5 => ?_⟩⟩⟩
      have s5 := ((same_new nt3 (o := .tup [.str "wrap", .str over, .str made])).trans (same_new nt4 (o := .tup [.str "put", .str made, .str over]))).trans (same_new nt5 (o := .lst [.ref t3, .ref t4]))
      have hD9 := hN.dk.same s5
      refine ⟨d, t5, _, rfl, hD9, ((hN.dk.new nt3).new nt4).ne nt5, .inl (.inl upd_same), by show 0 < 2; decide, by show 2 < 1073741824; decide, fun H10 vd mvd k10 hD10 => ?_⟩
      have hN' := hN.keep nDd nl ((Kp.of s5).trans k10) hD10
      have nv : vd ≠ .ref d := by
        rcases List.mem_cons.mp mvd with rfl | h
        · exact fun e => hN.dk.ne nt3 (V.ref.inj e)
        · rcases List.mem_cons.mp h with rfl | h
          · exact fun e => (hN.dk.new nt3).ne nt4 (V.ref.inj e)
          · cases h
      have dd : ∃ ds, DeedR K H10 vd ds ∧ IsDeed ds ∧ ∀ z ∈ ds.drop 1, z ∈ ns := by
        rcases List.mem_cons.mp mvd with rfl | h
        · refine ⟨["wrap", over, made], ⟨t3, rfl, k10.sqT hD9 (.inl (.inl (((same_new nt4).trans (same_new nt5)) _ _ upd_same)))⟩, two_deed _ _ _ (by decide +kernel), fun z hz => ?_⟩
          rcases List.mem_cons.mp hz with rfl | hz
          · exact m7
          · rcases List.mem_cons.mp hz with rfl | hz
            · exact m5
            · cases hz
        · rcases List.mem_cons.mp h with rfl | h
          · refine ⟨["put", made, over], ⟨t4, rfl, k10.sqT hD9 (.inl (.inl ((same_new nt5) _ _ upd_same)))⟩, two_deed _ _ _ (by decide +kernel), fun z hz => ?_⟩
            rcases List.mem_cons.mp hz with rfl | hz
            · exact m5
            · rcases List.mem_cons.mp hz with rfl | hz
              · exact m7
              · cases hz
          · cases h
      obtain ⟨ds, h1, h2, h3⟩ := dd
      have lw := paired_len hN'.pr
      have ln := hN'.len
      exact ⟨D, _, _, rfl, rfl, hN'.at_, big' (by omega), _, _, _, _, _, rfl, hN'.push nDd nDl nD0 h1 nv h2 h3⟩
    · obtain ⟨ws, dss, y5, y6, y7, rfl, hN⟩ := hJ
      have hN : Nr K d l D ns H 13 H' ws dss := ⟨hN.at_, hN.pr, by have := hN.len; omega, hN.ok, hN.el, hN.kp, hN.dk, hN.ne⟩
      dsimp only
      refine seq_by (t := tIfS _ _ _) (fun σ' H2 => ∃ ws dss, σ' = [some (.ref d), some (.ref l), some (.int (3 + po)), some (.int (2 + pn)), some (.ref D), y5, y6, y7, none] ∧ Nr K d l D ns H 14 H2 ws dss) (fun σ' H2 hJ => ?_) (fun rest => ?_)
      · obtain ⟨ws, dss, rfl, hN⟩ := hJ
        refine ⟨.ref D, rfl, D, _, rfl, .inl ⟨.inl (.inl hN.at_), fun p np => ?_⟩⟩
        exact q _ p ws dss (hN.kp.free (hN.dk.ne np) np) (.inl (.inl upd_same)) (L2.Paired.mapP hN.pr fun _ _ z => z.same (same_new np)) hN.ne (by have := hN.len; omega) hN.ok (hN.kp.then_new np) (hN.dk.new np)
      · refine ⟨.ref d, rfl, d, 4, rfl, hN.dk, by decide, by decide, fun H7 r r0 r1 k7 hD7 => ⟨rfl, _, rfl, ?_⟩⟩
        have hN7 := hN.keep nDd nl k7 hD7
        by_cases c : V.int r = V.int 0
        · rw [decide_eq_true c]
          have a0 : atI (ns.map V.str) 0 = some (.str ns[0]) := atI_nat (j := 0) (by rw [List.getElem?_map, List.getElem?_eq_getElem]; rfl)
          refine ⟨.ref D, rfl, .inl ⟨rfl, _, .inl (.inl hN7.at_)⟩, .ref l, rfl, l, _, 0, _, rfl, rfl, .inl (.inl hN7.el), a0, .ref l, rfl, .ref d, rfl, d, 9, rfl, hD7, by decide, by decide, fun H8 r8 r80 r81 k8 hD8 => ?_⟩
          have hN8 := hN7.keep nDd nl k8 hD8
          obtain ⟨j, rfl⟩ : ∃ j : Nat, r8 = j := ⟨r8.toNat, by omega⟩
          have hj : j < ns.length := by omega
          refine ⟨l, _, _, _, rfl, rfl, .inl (.inl hN8.el), atI_nat (j := j) (show (ns.map V.str)[j]? = some (.str ns[j]) by rw [List.getElem?_map, List.getElem?_eq_getElem hj]; rfl), big (by show 3 ≤ 100000; decide), fun t nt => ?_⟩
          have hN9 := hN8.keep nDd nl (Kp.new (o := .tup [.str "swap", .str ns[0], .str ns[j]]) nt) (hD8.new nt)
          have lw := paired_len hN9.pr
          have ln := hN9.len
          refine ⟨D, _, _, rfl, rfl, hN9.at_, big' (by omega), rest _ _ ⟨_, _, rfl, hN9.push nDd nDl nD0 ⟨t, rfl, .inl (.inl upd_same)⟩ (fun e => hD8.ne nt (V.ref.inj e)) (two_deed _ _ _ (by decide +kernel)) fun z hz => ?_⟩⟩
          rcases List.mem_cons.mp hz with rfl | hz
          · exact List.getElem_mem _
          · rcases List.mem_cons.mp hz with rfl | hz
            · exact List.getElem_mem _
            · cases hz
        · rw [decide_eq_false c]
          exact rest _ _ ⟨ws, dss, rfl, hN7.at_, hN7.pr, by have := hN7.len; omega, hN7.ok, hN7.el, hN7.kp, hN7.dk, hN7.ne⟩

/-- slots of law: 0 _law_script, 1 _law_deck_here, 2 _law_names_here, 3 _law_way, 4 _law_rare, 5 _law_few, 6 _law_deeds, 7 _law_k, 8 _law_deed, 9 _law_value, 10 _law_found, 11 _law_due -/
def n_law : List Str := ["_law_script", "_law_deck_here", "_law_names_here", "_law_way", "_law_rare", "_law_few", "_law_deeds", "_law_k", "_law_deed", "_law_value", "_law_found", "_law_due"]
def t_law (K : PySem.W.Frag) : TS :=
  (tSeq (tAsg (tCall (sp_deckL K) [] E0 (tCons (tVar 0) tNil)) (gName 1))
    (tSeq (tAsg (tCall sp_namesL [] E0 (tCons (tVar 1) (tCons (tC (.int 9)) tNil))) (gName 2))
    (tSeq (tPar 3 4 (tCons (tCall sp_drawL [] E0 (tCons (tVar 1) (tCons (tC (.int 4)) tNil))) (tCons (tOp rAddI (tC (.int 1)) (tCall sp_drawL [] E0 (tCons (tVar 1) (tCons (tC (.int 20)) tNil)))) tNil)))
    (tSeq (tAsg (L2.tSl (rSlL K) (tVar 2) tNoPart (tPart (tOp rAddI (tC (.int 1)) (tCall sp_drawL [] E0 (tCons (tVar 1) (tCons (tC (.int 9)) tNil)))))) (gName 5))
    (tSeq (tAsg (tTup tNil) (gName 6))
    (tSeq (tFor (iRng1 (tCons (tCall sp_drawL [] E0 (tCons (tVar 1) (tCons (tC (.int 15)) tNil))) tNil)) (gName 7) (tSeq (tAsg (tCall (sp_some_deedL K) [] E0 (tCons (tVar 1) (tCons (tVar 5) tNil))) (gName 8))
    (tSeq (tIfS (tTest (tOp rEq (tCall sp_drawL [] E0 (tCons (tVar 1) (tCons (tVar 4) tNil))) (tC (.int 0)))) (tAsg (tCall (sp_odd_deedL K) [] E0 (tCons (tVar 1) (tCons (tVar 5) tNil))) (gName 8)) tNext)
    (tAsg (tOp (rCatA K) (tVar 6) (tTup (tCons (tVar 8) tNil))) (gName 6)))))
    (tSeq (tIfS (tTest (tOp rEq (tVar 3) (tC (.int 1)))) (tAsg (tCall (sp_nearL K) [] E0 (tCons (tVar 1) (tCons (tVar 2) tNil))) (gName 6)) tNext)
    (tSeq (tAsg (tVar 6) (gName 9))
    (tSeq (tIfS (tAnd (tTest (tOp rEq (tVar 3) (tC (.int 2)))) (tTest (tOp rLtI (tVar 4) (tC (.int 8))))) (tAsg (tCall (sp_pickL K) [] E0 (tCons (tVar 1) (tCons (tLst (tCons (tCB (rLstOf K) (tCons (tVar 6) tNil)) (tCons (tCall (sp_oddL K) [] E0 (tCons (tVar 1) tNil)) (tCons (tTup (tCons (tVar 6) tNil)) (tCons (tRevT K (tVar 6)) tNil))))) tNil))) (gName 9)) tNext)
    (tSeq (tIfS (tTest (tOp rNe (tCB (rReprP K) (tCons (tLst (tCons (tC (.int 12)) (tCons (tC (.int 4)) (tCons (tC (.int 3)) tNil)))) tNil)) (tCB (rReprP K) (tCons (tLst (tCons (tC (.int 12)) (tCons (tC (.int 4)) (tCons (tC (.int 3)) tNil)))) tNil)))) (tRet (tC (.bl false))) tNext)
    (tSeq (tPar 10 11 (tCons (tCall (sp_script_error K) [] E0 (tCons (tVar 9) tNil)) (tCons (tCall (sp_script_errorL K) [] E0 (tCons (tVar 9) tNil)) tNil)))
    (tSeq (tIfS (tTest (tOp rIsN (tVar 11) (tC .non))) (tRet (tOp rIsN (tVar 10) (tC .non))) tNext)
    (tRet (tOp rEq (tCB (rReprP K) (tCons (tVar 10) tNil)) (tCB (rReprP K) (tCons (tVar 11) tNil))))))))))))))))

def sp_law (K : PySem.W.Frag) : Sp := fun vs H Q _ => ∃ (a : Addr) (ns : List Int), vs = [.ref a] ∧ SqL K H a (ns.map V.int) ∧ ns.length ≤ 63 ∧ ∀ H', Q (.bl true) H'
/-- a tuple of odd values -/
def OvT (K : PySem.W.Frag) (H : Hp) (d : Addr) (v : V) (n : Nat) : Prop := ∃ a xs os, v = .ref a ∧ a ≠ d ∧ SqT K H a xs ∧ OvAll K H d xs os ∧ xs.length ≤ n
theorem OvT.keep {K : PySem.W.Frag} {H H' : Hp} {d : Addr} {v : V} {n : Nat} (h : OvT K H d v n) (k : Kp d H H') (hD : Dk H d) : OvT K H' d v n := by
  obtain ⟨a, xs, os, e, ne, hT, ho, l⟩ := h
  exact ⟨a, xs, os, e, ne, k.sqT hD hT, ho.keep k, l⟩
theorem OvT.ov {K : PySem.W.Frag} {H : Hp} {d : Addr} {v : V} {n : Nat} (h : OvT K H d v n) (hn : n ≤ 1000) : ∃ o, Ov K H d v o := by
  obtain ⟨a, xs, os, rfl, ne, hT, ho, l⟩ := h
  exact ⟨_, .tup ne hT ho (by omega)⟩
theorem deedR_ov {K : PySem.W.Frag} {H : Hp} {d : Addr} {v : V} {ds : List Str} (h : DeedR K H v ds) (ne : v ≠ .ref d) (hd : IsDeed ds) (hz : ∀ z ∈ ds.drop 1, z.length ≤ 100000) : ∃ o, Ov K H d v o := by
  obtain ⟨a, rfl, hT⟩ := h
  have l := hd.len
  refine ⟨_, .tup (fun e => ne (by rw [e])) hT (ov_strs ds fun z m => ?_) (by rw [List.length_map]; omega)⟩
  obtain ⟨w, r, rfl, mw, _⟩ := hd
  rcases List.mem_cons.mp m with rfl | m
  · exact words_len _ mw
  · exact hz z m
theorem cat_new {K : PySem.W.Frag} {H : Hp} {a b : Addr} {xs : List V} {v : V} {Q : VK} (ha : SqT K H a xs) (hb : SqT K H b [v]) (hl : xs.length ≤ 100) (q : ∀ p H', Same H H' → (p = b ∨ H p = none) → SqT K H' p (xs ++ [v]) → Q (.ref p) H') : rCatA K (.ref a) (.ref b) H Q := by
  refine ⟨a, b, xs, [v], rfl, rfl, ha, hb, big (by rw [List.length_cons, List.length_nil]; omega), fun e => ?_, fun _ e => ?_, fun _ _ p np => q p _ (same_new np) (.inr np) (.inl (.inl upd_same))⟩
  · subst e
    exact q b H (Same.refl H) (.inl rfl) hb
  · cases e
theorem cost_w (w : Str) (h : w ∈ sErrW) : (reprText w).length ≤ 1000 := by
  have : ∀ w ∈ sErrW, (reprText w).length ≤ 1000 := by decide +kernel
  exact this w h
theorem dp_serr {K : PySem.W.Frag} {H : Hp} {p : Addr} {a b : V} (h : SqT K H p [a, b]) (ha : a = .non ∨ ∃ i : Nat, i ≤ 12 ∧ a = .int i) (hb : ∃ w ∈ sErrW, b = .str w) :
    ∃ d, (∀ (H' : Hp) (p' : Addr), SqT K H' p' [a, b] → Dp K H' (.ref p') d) ∧ d.showable = true ∧ d.depth ≤ 150 ∧ costD d ≤ 1000000 := by
  obtain ⟨w, mw, rfl⟩ := hb
  have cw := cost_w w mw
  rcases ha with rfl | ⟨i, hi, rfl⟩
  · refine ⟨.tuple [.none, .str w], fun H' p' h' => .tup h' (.cons .non (.cons (.str w) .nil)), rfl, by simp [PyData.depth, PyData.depthAll], ?_⟩
    show 4 + 2 + ((reprText w).length + 2 + 0) + 5 ≤ 1000000
    omega
  · refine ⟨.tuple [.int i, .str w], fun H' p' h' => .tup h' (.cons (.int _) (.cons (.str w) .nil)), ?_, by simp [PyData.depth, PyData.depthAll], ?_⟩
    · show (decide ((i : Int).natAbs.log2 < 1920) && (true && true)) = true
      have : (i : Int).natAbs.log2 < 1920 := by
        have e : (i : Int).natAbs = i := Int.natAbs_natCast i
        rw [e]
        have := Nat.log2_le_self i
        omega
      rw [decide_eq_true this]
      rfl
    · show 1921 + 2 + ((reprText w).length + 2 + 0) + 5 ≤ 1000000
      omega
theorem pure_law {K : PySem.W.Frag} (vs : List V) (H : Hp) (Q : VK) (E : XK) (h : sp_law K vs H Q E) : t_law K { nx := fun _ H' => Q .non H', rt := Q } (start n_law vs) H := by
  obtain ⟨a, ns, rfl, hS, hl, q⟩ := h
  refine ⟨.ref a, rfl, a, ns, rfl, hS, fun H1 d nd s1 hD1 => ?_⟩
  refine ⟨.ref d, rfl, d, 9, rfl, hD1, by decide, fun H2 l zs zl znd znm nl nld el k2 hD2 => ?_⟩
  have zlen : ∀ z ∈ zs, z.length ≤ 100000 := fun z hz => by
    have := (znm z hz).2.1
    rw [← TL.len_tl] at this
    omega
  refine ⟨.ref d, rfl, d, 4, rfl, hD2, by decide, by decide, fun H3 way w0 w1 k3 hD3 => ⟨.ref d, rfl, d, 20, rfl, hD3, by decide, by decide, fun H4 rr rr0 rr1 k4 hD4 => ⟨_, _, rfl, rfl, _, _, rfl, ?_⟩⟩⟩
  have el4 : H4 l = some (.lst (zs.map V.str)) := k4 _ _ nld (k3 _ _ nld el)
  refine ⟨.ref l, rfl, .ref d, rfl, d, 9, rfl, hD4, by decide, by decide, fun H5 r5 r50 r51 k5 hD5 => ⟨_, _, rfl, rfl, _, rfl, l, _, rfl, .inl (.inl (k5 _ _ nld el4)), fun l1 nl1 => ?_⟩⟩
  obtain ⟨p5, rfl⟩ : ∃ p5 : Nat, r5 = p5 := ⟨r5.toNat, by omega⟩
  have el5 := same_new nl1 (o := .lst (cutV (zs.map V.str) none (some ((1 : Int) + p5)))) _ _ (k5 _ _ nld el4)
  have hD6 := hD5.new (o := .lst (cutV (zs.map V.str) none (some ((1 : Int) + p5)))) nl1
  have nl1d : l1 ≠ d := hD5.ne nl1
  have e1 : (upd H5 l1 (.lst (cutV (zs.map V.str) none (some ((1 : Int) + p5))))) l1 = _ := upd_same
  rw [cut_map_eq] at el5 hD6 e1
  rw [cut_map_eq]
  generalize hfs : (zs.drop (HT.sIx zs.length 0 none)).take (HT.sIx zs.length zs.length (some ((1 : Int) + p5)) - HT.sIx zs.length 0 none) = fs at *
  have fin : ∀ z ∈ fs, z ∈ zs := fun z m => by
    rw [← hfs] at m
    exact List.mem_of_mem_drop (List.mem_of_mem_take m)
  have flen : 0 < fs.length ∧ fs.length ≤ 9 := by
    rw [← hfs, List.length_take, List.length_drop, show ((1 : Int) + (p5 : Int)) = ((1 + p5 : Nat) : Int) by omega, HT.sIx_nat, HT.sIx_none, zl]
    omega
  have fz : ∀ z ∈ fs, z.length ≤ 100000 := fun z m => zlen z (fin z m)
  generalize hH6 : upd H5 l1 (.lst (fs.map V.str)) = H6 at *
  refine ⟨big (by decide), fun t0 nt0 => ?_⟩
  have hD7 := hD6.new (o := .tup []) nt0
  have nt0d : t0 ≠ d := hD6.ne nt0
  have el7 := same_new nt0 (o := .tup []) _ _ el5
  have e17 := same_new nt0 (o := .tup []) _ _ e1
  refine ⟨.ref d, rfl, d, 15, rfl, hD7, by decide, by decide, fun H8 r8 r80 r81 k8 hD8 => ⟨r8, rfl, by omega, by omega, ?_⟩⟩
  refine for_range (lo := 0) (n := r8.toNat) (fun i σ H' => ∃ (v : V) (y7 y8 : Option V), σ = [some (.ref a), some (.ref d), some (.ref l), some (.int way), some (.int (1 + rr)), some (.ref l1), some v, y7, y8, none, none, none] ∧ OvT K H' d v i ∧ H' l = some (.lst (zs.map V.str)) ∧ H' l1 = some (.lst (fs.map V.str)) ∧ Dk H' d)
    ⟨.ref t0, none, none, rfl, ⟨t0, [], [], rfl, nt0d, k8.sqT hD7 (.inl (.inl upd_same)), .nil, Nat.le_refl _⟩, k8 _ _ nld el7, k8 _ _ nl1d e17, hD8⟩ (fun i σ H' hi hJ => ?_) (fun σ H' hJ => ?_)
  · obtain ⟨v, y7, y8, rfl, hv, el, e1, hD⟩ := hJ
    have hi' : i < 15 := by omega
    refine ⟨.ref d, rfl, .ref l1, rfl, d, l1, fs, rfl, hD, nl1d, .inl (.inl e1), flen.1, by omega, fun H9 u ds hu hds hz nu k9 hD9 => ?_⟩
    have ou : ∃ o, Ov K H9 d u o := deedR_ov hu nu hds fun z m => fz z (hz z m)
    have hv9 := hv.keep k9 hD
    have el9 := k9 _ _ nld el
    have e19 := k9 _ _ nl1d e1
    dsimp only [gName]
    refine seq_by (t := tIfS _ _ _) (fun σ' H' => ∃ (u : V), σ' = [some (.ref a), some (.ref d), some (.ref l), some (.int way), some (.int (1 + rr)), some (.ref l1), some v, some (.int (0 + i)), some u, none, none, none] ∧ (∃ o, Ov K H' d u o) ∧ OvT K H' d v i ∧ H' l = some (.lst (zs.map V.str)) ∧ H' l1 = some (.lst (fs.map V.str)) ∧ Dk H' d) (fun σ' H' hJ => ?_) (fun rest => ?_)
    · obtain ⟨u, rfl, ⟨o, ho⟩, hv, el, e1, hD⟩ := hJ
      obtain ⟨va, xs, os, rfl, nva, hT, hos, lxs⟩ := hv
      refine ⟨.ref va, rfl, u, rfl, big (by show 1 ≤ 100000; decide), fun t1 nt1 => ?_⟩
      have st := same_new nt1 (o := .tup [u])
      refine cat_new (Same.sqT st hT) (.inl (.inl upd_same)) (by omega) fun p H10 s10 hp hp10 => ?_
      have s2 := st.trans s10
      have npd : p ≠ d := by
        rcases hp with rfl | hp
        · exact hD.ne nt1
        · exact (hD.same st).ne hp
      refine ⟨_, _, _, rfl, ⟨p, _, _, rfl, npd, hp10, (hos.keep (Kp.of s2)).append (.cons (ho.keep (Kp.of s2)) .nil), ?_⟩, s2 _ _ el, s2 _ _ e1, hD.same s2⟩
      rw [List.length_append, List.length_cons, List.length_nil]
      omega
    · refine ⟨.ref d, rfl, .int (1 + rr), rfl, d, 1 + rr, rfl, hD9, by omega, by omega, fun H10 r10 s0 s1 k10 hD10 => ⟨rfl, _, rfl, ?_⟩⟩
      have hv10 := hv9.keep k10 hD9
      by_cases c : V.int r10 = V.int 0
      · rw [decide_eq_true c]
        refine ⟨.ref d, rfl, .ref l1, rfl, d, l1, fs, rfl, hD10, nl1d, .inl (.inl (k10 _ _ nl1d e19)), flen.1, by omega, fz, fun H11 u' o' ho' k11 hD11 => ?_⟩
        exact rest _ _ ⟨u', rfl, ⟨o', ho'⟩, hv10.keep k11 hD10, k11 _ _ nld (k10 _ _ nld el9), k11 _ _ nl1d (k10 _ _ nl1d e19), hD11⟩
      · rw [decide_eq_false c]
        obtain ⟨o, ho⟩ := ou
        exact rest _ _ ⟨u, rfl, ⟨o, ho.keep k10⟩, hv10, k10 _ _ nld el9, k10 _ _ nl1d e19, hD10⟩
  · obtain ⟨v, y7, y8, rfl, hv, el, e1, hD⟩ := hJ
    have hv : OvT K H' d v 20 := by
      obtain ⟨va, xs, os, e, nva, hT, hos, lxs⟩ := hv
      exact ⟨va, xs, os, e, nva, hT, hos, by omega⟩
    dsimp only
    -- near the limits
    refine seq_by (t := tIfS _ _ _) (fun σ' H' => ∃ (v : V), σ' = [some (.ref a), some (.ref d), some (.ref l), some (.int way), some (.int (1 + rr)), some (.ref l1), some v, y7, y8, none, none, none] ∧ OvT K H' d v 20 ∧ Dk H' d) (fun σ' H' hJ => ?_) (fun rest => ?_)
    · obtain ⟨v, rfl, hv, hD⟩ := hJ
      refine ⟨v, rfl, ?_⟩
      dsimp only [gName]
      refine seq_by (t := tIfS _ _ _) (fun σ' H' => ∃ (x : V), σ' = [some (.ref a), some (.ref d), some (.ref l), some (.int way), some (.int (1 + rr)), some (.ref l1), some v, y7, y8, some x, none, none] ∧ ∃ o, Ov K H' d x o) (fun σ' H' hJ => ?_) (fun rest => ?_)
      · obtain ⟨x, rfl, o, ho⟩ := hJ
        obtain ⟨r, hr⟩ := ov_serr ho
        have d3 : ∀ (H : Hp) (p : Addr), H p = some (.lst [.int 12, .int 4, .int 3]) → Dp K H (.ref p) (.list [.int 12, .int 4, .int 3]) := fun H p e => .lst (.inl (.inl e)) (.cons (.int _) (.cons (.int _) (.cons (.int _) .nil)))
        have c3 : costD (.list [.int 12, .int 4, .int 3]) ≤ 1000000 := by
          show 1921 + 2 + (1921 + 2 + (1921 + 2 + 0)) + 5 ≤ 1000000
          decide
        have s3 : (PyData.list [.int 12, .int 4, .int 3]).showable = true := by decide +kernel
        have p3 : (PyData.list [.int 12, .int 4, .int 3]).depth ≤ 150 := by simp [PyData.depth, PyData.depthAll]
        refine ⟨big (by show 3 ≤ 100000; decide), fun L1 nL1 => ⟨_, _, rfl, d3 _ L1 upd_same, s3, p3, c3, big (by show 3 ≤ 100000; decide), fun L2 nL2 => ⟨_, _, rfl, d3 _ L2 upd_same, s3, p3, c3, rfl, _, rfl, ?_⟩⟩⟩
        have s12 := (same_new nL1 (o := .lst [.int 12, .int 4, .int 3])).trans (same_new nL2 (o := .lst [.int 12, .int 4, .int 3]))
        have hr2 := hr.same s12
        rw [decide_eq_true (rfl : V.str (PyData.list [.int 12, .int 4, .int 3]).shown = _)]
        refine ⟨x, rfl, x, r, rfl, hr2, fun H5 s5 er => ?_, fun H5 p5 a5 b5 s5 er h5 => ?_⟩
        · subst er
          refine ⟨x, rfl, x, none, rfl, hr2.same s5, fun H6 s6 _ => ?_, fun _ _ _ _ _ z _ => nomatch z⟩
          exact ⟨_, _, rfl, .non, rfl, rfl, _, rfl, .non, rfl, rfl, q _⟩
        · subst er
          refine ⟨x, rfl, x, _, rfl, hr2.same s5, (fun _ _ z => nomatch z), fun H6 p6 a6 b6 s6 z h6 => ?_⟩
          cases z
          obtain ⟨ha, hb⟩ := hr2.word
          obtain ⟨dd, hd, c1, c2, c4⟩ := dp_serr h6 ha hb
          exact ⟨_, _, rfl, .ref p6, rfl, rfl, _, rfl, .ref p5, rfl, _, dd, rfl, hd _ _ (Same.sqT s6 h5), c1, c2, c4, .ref p6, rfl, _, dd, rfl, hd _ _ h6, c1, c2, c4, rfl, by rw [decide_eq_true (rfl : V.str dd.shown = _)]; exact q _⟩
      · obtain ⟨o, ho⟩ := hv.ov (by decide)
        refine ⟨.int way, rfl, rfl, _, rfl, ?_⟩
        by_cases c : V.int way = V.int 2
        · rw [decide_eq_true c]
          refine ⟨.int (1 + rr), rfl, _, _, rfl, rfl, _, rfl, ?_⟩
          by_cases c2 : 1 + rr < 8
          · rw [decide_eq_true c2]
            obtain ⟨va, xs, os, rfl, nva, hT, hos, lxs⟩ := hv
            refine ⟨.ref d, rfl, .ref va, rfl, va, _, rfl, .inr hT, fun L1 nL1 => ⟨.ref d, rfl, d, rfl, hD.new nL1, fun H5 u o' ho' k5 hD5 => ?_⟩⟩
            have k05 := (Kp.new (d := d) (o := .lst xs) nL1).trans k5
            have hT5 := k05.sqT hD hT
            refine ⟨.ref va, rfl, big (by show 1 ≤ 100000; decide), fun T1 nT1 => ⟨.ref va, rfl, va, _, rfl, Same.sqT (same_new nT1) hT5, fun R1 nR1 => ⟨big (by show 4 ≤ 100000; decide), fun L2 nL2 => ?_⟩⟩⟩
            have s6 := ((same_new nT1 (o := .tup [.ref va])).trans (same_new nR1 (o := .tup xs.reverse))).trans (same_new nL2 (o := .lst [.ref L1, u, .ref T1, .ref R1]))
            have hD8 := hD5.same s6
            have k08 := k05.trans (Kp.of s6)
            refine ⟨d, L2, _, rfl, hD8, ((hD5.new nT1).new nR1).ne nL2, .inl (.inl upd_same), by show 0 < 4; decide, by show 4 < 1073741824; decide, fun H9 vx mvx k9 hD9 => ?_⟩
            have k09 := k08.trans k9
            have nL1d : L1 ≠ d := hD.ne nL1
            have nT1d : T1 ≠ d := hD5.ne nT1
            have nR1d : R1 ≠ d := (hD5.new nT1).ne nR1
            have key : ∃ o, Ov K H9 d vx o := by
              rcases List.mem_cons.mp mvx with rfl | h
              · exact ⟨_, .lst nL1d (.inl (.inl (k9 _ _ nL1d (s6 _ _ (k5 _ _ nL1d upd_same)))))⟩
              · rcases List.mem_cons.mp h with rfl | h
                · exact ⟨_, (ho'.keep (Kp.of s6)).keep k9⟩
                · rcases List.mem_cons.mp h with rfl | h
                  · exact ⟨_, .tup nT1d (k9.sqT hD8 (.inl (.inl (((same_new nR1).trans (same_new nL2)) _ _ upd_same)))) (.cons (ho.keep k09) .nil) (by show 1 ≤ 1000; decide)⟩
                  · rcases List.mem_cons.mp h with rfl | h
                    · obtain ⟨os', hos'⟩ := ovAll_of (K := K) (H := H9) (d := d) xs.reverse fun y hy => by
                        obtain ⟨o, _, h⟩ := hos.mem (List.mem_reverse.mp hy)
                        exact ⟨o, h.keep k09⟩
                      exact ⟨_, .tup nR1d (k9.sqT hD8 (.inl (.inl ((same_new nL2) _ _ upd_same)))) hos' (by rw [List.length_reverse]; omega)⟩
                    · cases h
            exact rest _ _ ⟨vx, rfl, key⟩
          · rw [decide_eq_false c2]
            exact rest _ _ ⟨v, rfl, o, ho⟩
        · rw [decide_eq_false c]
          exact rest _ _ ⟨v, rfl, o, ho⟩
    · refine ⟨.int way, rfl, rfl, _, rfl, ?_⟩
      by_cases c : V.int way = V.int 1
      · rw [decide_eq_true c]
        refine ⟨.ref d, rfl, .ref l, rfl, d, l, zs, rfl, hD, nld, el, zl, fun H5 p ws dss np hp hpr hne ld hds k5 hD5 => rest _ _ ⟨_, rfl, ?_, hD5⟩⟩
        have npd : p ≠ d := hD.ne np
        have lw := paired_len hpr
        obtain ⟨os, hos⟩ := ovAll_of (K := K) (H := H5) (d := d) ws fun y hy => by
          obtain ⟨i, hi, rfl⟩ := List.mem_iff_getElem.mp hy
          obtain ⟨ds, hds', hr⟩ := paired_get hpr (List.getElem?_eq_getElem hi)
          have md := List.mem_of_getElem? hds'
          exact deedR_ov hr (hne _ (List.getElem_mem hi)) (hds ds md).1 fun z m => zlen z ((hds ds md).2 z m)
        exact ⟨p, ws, os, rfl, npd, hp, hos, by omega⟩
      · rw [decide_eq_false c]
        exact rest _ _ ⟨v, rfl, hv, hD⟩

/-! ### the text by places -/
def topS (i : Nat) : Stmt := PySem.Challenge.pw_twigscripts_k16_what_is_no_script.main.body.getD i (.Pass ⟨0, 0, 0, 0⟩)
abbrev s_deckL : Stmt := topS 17
theorem sc_deckL : FnScope n_deckL ["_law_script"] (defScope s_deckL) := ⟨rfl, rfl, rfl, by decide +kernel, rfl, by decide +kernel, by decide +kernel⟩
abbrev s_drawL : Stmt := topS 18
theorem sc_drawL : FnScope n_drawL ["_law_deck_here", "_law_many"] (defScope s_drawL) := ⟨rfl, rfl, rfl, by decide +kernel, rfl, by decide +kernel, by decide +kernel⟩
abbrev s_pickL : Stmt := topS 21
theorem sc_pickL : FnScope n_pickL ["_law_deck_here", "_law_items"] (defScope s_pickL) := ⟨rfl, rfl, rfl, by decide +kernel, rfl, by decide +kernel, by decide +kernel⟩
abbrev s_nameL : Stmt := topS 19
theorem sc_nameL : FnScope n_nameL ["_law_deck_here"] (defScope s_nameL) := ⟨rfl, rfl, rfl, by decide +kernel, rfl, by decide +kernel, by decide +kernel⟩
abbrev s_namesL : Stmt := topS 20
theorem sc_namesL : FnScope n_namesL ["_law_deck_here", "_law_many"] (defScope s_namesL) := ⟨rfl, rfl, rfl, by decide +kernel, rfl, by decide +kernel, by decide +kernel⟩
abbrev s_is_name : Stmt := topS 8
theorem sc_is_name : FnScope n_is_name ["value"] (defScope s_is_name) := ⟨rfl, rfl, rfl, by decide +kernel, rfl, by decide +kernel, by decide +kernel⟩
abbrev s_deed_error : Stmt := topS 10
theorem sc_deed_error : FnScope n_deed_error ["value"] (defScope s_deed_error) := ⟨rfl, rfl, rfl, by decide +kernel, rfl, by decide +kernel, by decide +kernel⟩
abbrev s_oddL : Stmt := topS 24
theorem sc_oddL : FnScope n_oddL ["_law_deck_here"] (defScope s_oddL) := ⟨rfl, rfl, rfl, by decide +kernel, rfl, by decide +kernel, by decide +kernel⟩
abbrev s_makes : Stmt := topS 11
theorem sc_makes : FnScope n_makes ["deed", "k"] (defScope s_makes) := ⟨rfl, rfl, rfl, by decide +kernel, rfl, by decide +kernel, by decide +kernel⟩
abbrev s_roles : Stmt := topS 12
theorem sc_roles : FnScope n_roles ["deeds"] (defScope s_roles) := ⟨rfl, rfl, rfl, by decide +kernel, rfl, by decide +kernel, by decide +kernel⟩
abbrev s_old_names : Stmt := topS 13
theorem sc_old_names : FnScope n_old_names ["script"] (defScope s_old_names) := ⟨rfl, rfl, rfl, by decide +kernel, rfl, by decide +kernel, by decide +kernel⟩
abbrev s_new_names : Stmt := topS 14
theorem sc_new_names : FnScope n_new_names ["script"] (defScope s_new_names) := ⟨rfl, rfl, rfl, by decide +kernel, rfl, by decide +kernel, by decide +kernel⟩
abbrev s_wordsL : Stmt := topS 22
theorem sc_wordsL : FnScope n_wordsL [] (defScope s_wordsL) := ⟨rfl, rfl, rfl, by decide +kernel, rfl, by decide +kernel, by decide +kernel⟩
abbrev s_some_deedL : Stmt := topS 23
theorem sc_some_deedL : FnScope n_some_deedL ["_law_deck_here", "_law_names_here"] (defScope s_some_deedL) := ⟨rfl, rfl, rfl, by decide +kernel, rfl, by decide +kernel, by decide +kernel⟩
abbrev s_is_nameL : Stmt := topS 26
theorem sc_is_nameL : FnScope n_is_nameL ["_law_value"] (defScope s_is_nameL) := ⟨rfl, rfl, rfl, by decide +kernel, rfl, by decide +kernel, by decide +kernel⟩
abbrev s_deed_errorL : Stmt := topS 27
theorem sc_deed_errorL : FnScope n_deed_errorL ["_law_value"] (defScope s_deed_errorL) := ⟨rfl, rfl, rfl, by decide +kernel, rfl, by decide +kernel, by decide +kernel⟩
abbrev s_odd_deedL : Stmt := topS 25
theorem sc_odd_deedL : FnScope n_odd_deedL ["_law_deck_here", "_law_names_here"] (defScope s_odd_deedL) := ⟨rfl, rfl, rfl, by decide +kernel, rfl, by decide +kernel, by decide +kernel⟩
abbrev s_rolesL : Stmt := topS 28
theorem sc_rolesL : FnScope n_rolesL ["_law_deeds"] (defScope s_rolesL) := ⟨rfl, rfl, rfl, by decide +kernel, rfl, by decide +kernel, by decide +kernel⟩
abbrev s_script_error : Stmt := topS 15
theorem sc_script_error : FnScope n_script_error ["value"] (defScope s_script_error) := ⟨rfl, rfl, rfl, by decide +kernel, rfl, by decide +kernel, by decide +kernel⟩
abbrev s_script_errorL : Stmt := topS 29
theorem sc_script_errorL : FnScope n_script_errorL ["_law_value"] (defScope s_script_errorL) := ⟨rfl, rfl, rfl, by decide +kernel, rfl, by decide +kernel, by decide +kernel⟩
abbrev s_nearL : Stmt := topS 30
theorem sc_nearL : FnScope n_nearL ["_law_deck_here", "_law_names_here"] (defScope s_nearL) := ⟨rfl, rfl, rfl, by decide +kernel, rfl, by decide +kernel, by decide +kernel⟩
abbrev s_law : Stmt := topS 31
theorem sc_law : FnScope n_law ["_law_script"] (defScope s_law) := ⟨rfl, rfl, rfl, by decide +kernel, rfl, by decide +kernel, by decide +kernel⟩
/-- what the top has left -/
structure Tx (K : PySem.W.Frag) (mg : Str → Option Value) : Prop where
  z_abs : mg "abs" = none
  z_all : mg "all" = none
  z_enumerate : mg "enumerate" = none
  z_int : mg "int" = none
  z_isinstance : mg "isinstance" = none
  z_len : mg "len" = none
  z_list : mg "list" = none
  z_range : mg "range" = none
  z_repr : mg "repr" = none
  z_sorted : mg "sorted" = none
  z_str : mg "str" = none
  z_tuple : mg "tuple" = none
  g_LETTERS : ∃ u, mg "LETTERS" = some u ∧ RelV (.str "abcdefghijklmnopqrstuvwxyz") u
  g_MAX_DEEDS : ∃ u, mg "MAX_DEEDS" = some u ∧ RelV (.int 12) u
  g_MAX_LETTERS : ∃ u, mg "MAX_LETTERS" = some u ∧ RelV (.int 8) u
  g_MAX_NEW : ∃ u, mg "MAX_NEW" = some u ∧ RelV (.int 3) u
  g_MAX_OLD : ∃ u, mg "MAX_OLD" = some u ∧ RelV (.int 4) u
  g_SINGLE : ∃ u, mg "SINGLE" = some u ∧ RelV (.ref (He.ga K "SINGLE")) u
  t_SINGLE : ∀ H, SqT K H (He.ga K "SINGLE") ((["front", "back", "lift", "cut"] : List Str).map V.str)
  g_WORDS : ∃ u, mg "WORDS" = some u ∧ RelV (.ref (He.ga K "WORDS")) u
  t_WORDS : ∀ H, SqT K H (He.ga K "WORDS") ((["first", "last", "ahead", "behind", "front", "back", "swap", "turn", "lift", "cut", "pour", "wrap", "put"] : List Str).map V.str)
  d_deckL : DefAt K mg "_law_deck" s_deckL
  d_drawL : DefAt K mg "_law_draw" s_drawL
  d_pickL : DefAt K mg "_law_pick" s_pickL
  d_nameL : DefAt K mg "_law_name" s_nameL
  d_namesL : DefAt K mg "_law_names" s_namesL
  d_is_name : DefAt K mg "is_name" s_is_name
  d_deed_error : DefAt K mg "deed_error" s_deed_error
  d_oddL : DefAt K mg "_law_odd" s_oddL
  d_makes : DefAt K mg "makes" s_makes
  d_roles : DefAt K mg "roles" s_roles
  d_old_names : DefAt K mg "old_names" s_old_names
  d_new_names : DefAt K mg "new_names" s_new_names
  d_wordsL : DefAt K mg "_law_words" s_wordsL
  d_some_deedL : DefAt K mg "_law_some_deed" s_some_deedL
  d_is_nameL : DefAt K mg "_law_is_name" s_is_nameL
  d_deed_errorL : DefAt K mg "_law_deed_error" s_deed_errorL
  d_odd_deedL : DefAt K mg "_law_odd_deed" s_odd_deedL
  d_rolesL : DefAt K mg "_law_roles" s_rolesL
  d_script_error : DefAt K mg "script_error" s_script_error
  d_script_errorL : DefAt K mg "_law_script_error" s_script_errorL
  d_nearL : DefAt K mg "_law_near" s_nearL
  d_law : DefAt K mg "law" s_law
section
variable {P : Program} {w : World} {K : PySem.W.Frag} {mg : Str → Option Value} {base : Heap}
theorem ok_deckL (T : Tx K mg) : Cal P w K mg base 1 "_law_deck" (sp_deckL K) := by
  refine cal_of (t := t_deckL K) T.d_deckL (fun _ _ _ _ _ _ us hl => match us, hl with | [_], _ => rfl) sc_deckL (fun vs H Q E h => ?_) (fun cdv f A outer s H E hr => ?_) (fun vs H Q E h => pure_deckL vs H Q E h)
  · first | (obtain ⟨rfl, _⟩ := h; rfl) | (obtain ⟨_, rfl, _⟩ := h; rfl) | (obtain ⟨_, _, rfl, _⟩ := h; rfl) | (obtain ⟨_, _, _, rfl, _⟩ := h; rfl) | (obtain ⟨_, _, _, _, rfl, _⟩ := h; rfl) | (obtain ⟨_, _, _, _, _, rfl, _⟩ := h; rfl) | (obtain ⟨_, _, _, _, _, _, rfl, _⟩ := h; rfl) | (obtain ⟨_, _, _, _, _, _, _, rfl, _⟩ := h; rfl)
  · exact (pss_cons (ps_par (by rfl) sc_deckL.nd rfl rfl (by decide) rfl rfl (pa_cons pe_int (pa_cons (pe_op op_add pe_int (pe_op op_mul pe_int (pe_callB call_len_seq (by rfl) T.z_len (by decide +kernel) (pa_cons (pv 0) pa_nil)))) pa_nil)) (by rfl))
      (pss_cons (ps_for PassesOwn.never rfl (pi_list (pe_slice sl_list (pv 0) po_none (po_some pe_int))) (pg_name (i := 3) sc_deckL.nd rfl (Or.inl rfl)) (pss_cons (ps_set (i := 4) sc_deckL.nd rfl (Or.inl rfl) (pe_op op_add (pe_op op_add (pe_op op_mul pe_int (pe_callB call_abs (by rfl) T.z_abs (by decide +kernel) (pa_cons (pv 3) pa_nil))) (pe_callTy call_int1 (by rfl) T.z_int (by decide +kernel) (pa_cons (pe_cmpR op_lt (pv 3) pe_int (nomark _)) pa_nil))) pe_int))
      (pss_cons (ps_set (i := 2) sc_deckL.nd rfl (Or.inl rfl) (pe_op op_mod (pe_callTy call_int1 (by rfl) T.z_int (by decide +kernel) (pa_cons (pe_op op_add (pe_op op_mul (pv 2) pe_int) (pv 4)) pa_nil)) pe_int))
      (pss_one (ps_if (pt_cmpR op_ge (pe_callB call_abs (by rfl) T.z_abs (by decide +kernel) (pa_cons (pv 3) pa_nil)) (pe_op op_pow pe_int pe_int) (nomark _)) (pss_one (ps_set (i := 1) sc_deckL.nd rfl (Or.inl rfl) (pe_op op_add (pe_op op_mul (pv 1) pe_int) (pe_callB call_abs (by rfl) T.z_abs (by decide +kernel) (pa_cons (pv 3) pa_nil))))) pss_nil)))))
      (pss_one (ps_ret (pe_lst (pa_cons (pv 1) (pa_cons (pv 2) (pa_cons pe_int pa_nil))))))))
theorem ok_drawL (T : Tx K mg) : Cal P w K mg base 1 "_law_draw" (sp_drawL) := by
  refine cal_of (t := t_drawL K) T.d_drawL (fun _ _ _ _ _ _ us hl => match us, hl with | [_, _], _ => rfl) sc_drawL (fun vs H Q E h => ?_) (fun cdv f A outer s H E hr => ?_) (fun vs H Q E h => pure_drawL vs H Q E h)
  · first | (obtain ⟨rfl, _⟩ := h; rfl) | (obtain ⟨_, rfl, _⟩ := h; rfl) | (obtain ⟨_, _, rfl, _⟩ := h; rfl) | (obtain ⟨_, _, _, rfl, _⟩ := h; rfl) | (obtain ⟨_, _, _, _, rfl, _⟩ := h; rfl) | (obtain ⟨_, _, _, _, _, rfl, _⟩ := h; rfl) | (obtain ⟨_, _, _, _, _, _, rfl, _⟩ := h; rfl) | (obtain ⟨_, _, _, _, _, _, _, rfl, _⟩ := h; rfl)
  · exact (pss_cons (ps_if (pt_cmpR op_gt (pe_ix ix_list (pv 0) pe_int (fun _ _ => rfl)) pe_int (nomark _)) (pss_cons (ps_set (i := 2) sc_drawL.nd rfl (Or.inl rfl) (pe_op op_mod (pe_callTy call_int1 (by rfl) T.z_int (by decide +kernel) (pa_cons (pe_ix ix_list (pv 0) pe_int (fun _ _ => rfl)) pa_nil)) (pv 1)))
      (pss_cons (ps_asg (pe_op op_fdiv (pe_ix ix_list (pv 0) pe_int (fun _ _ => rfl)) (pv 1)) (pg_sub (pv 0) pe_int set_list))
      (pss_one (ps_ret (pv 2))))) pss_nil)
      (pss_cons (ps_asg (pe_op op_add (pe_ix ix_list (pv 0) pe_int (fun _ _ => rfl)) pe_int) (pg_sub (pv 0) pe_int set_list))
      (pss_cons (ps_set (i := 3) sc_drawL.nd rfl (Or.inl rfl) (pe_op op_mod (pe_callTy call_int1 (by rfl) T.z_int (by decide +kernel) (pa_cons (pe_op op_add (pe_ix ix_list (pv 0) pe_int (fun _ _ => rfl)) (pe_op op_mul pe_int (pe_ix ix_list (pv 0) pe_int (fun _ _ => rfl)))) pa_nil)) pe_int))
      (pss_cons (ps_set (i := 3) sc_drawL.nd rfl (Or.inl rfl) (pe_op op_mod (pe_callTy call_int1 (by rfl) T.z_int (by decide +kernel) (pa_cons (pe_op op_mul (pv 3) (pe_op op_add (pe_op op_mod (pv 3) pe_int) pe_int)) pa_nil)) pe_int))
      (pss_one (ps_ret (pe_op op_mod (pe_op op_fdiv (pe_op op_mod (pe_callTy call_int1 (by rfl) T.z_int (by decide +kernel) (pa_cons (pe_op op_mul (pv 3) (pv 3)) pa_nil)) pe_int) pe_int) (pv 1))))))))
theorem ok_pickL (T : Tx K mg) (c_drawL : Cal P w K mg base 1 "_law_draw" (sp_drawL )) : Cal P w K mg base 2 "_law_pick" (sp_pickL K) := by
  refine cal_of (t := t_pickL K) T.d_pickL (fun _ _ _ _ _ _ us hl => match us, hl with | [_, _], _ => rfl) sc_pickL (fun vs H Q E h => ?_) (fun cdv f A outer s H E hr => ?_) (fun vs H Q E h => pure_pickL vs H Q E h)
  · first | (obtain ⟨rfl, _⟩ := h; rfl) | (obtain ⟨_, rfl, _⟩ := h; rfl) | (obtain ⟨_, _, rfl, _⟩ := h; rfl) | (obtain ⟨_, _, _, rfl, _⟩ := h; rfl) | (obtain ⟨_, _, _, _, rfl, _⟩ := h; rfl) | (obtain ⟨_, _, _, _, _, rfl, _⟩ := h; rfl) | (obtain ⟨_, _, _, _, _, _, rfl, _⟩ := h; rfl) | (obtain ⟨_, _, _, _, _, _, _, rfl, _⟩ := h; rfl)
  · exact (pss_one (ps_ret (pe_ix ix_list (pv 1) (pe_c c_drawL hr (by decide) (by rfl) (pa_cons (pv 0) (pa_cons (pe_callB call_len_seq (by rfl) T.z_len (by decide +kernel) (pa_cons (pv 1) pa_nil)) pa_nil))) (fun _ _ => rfl))))
theorem ok_nameL (T : Tx K mg) (c_drawL : Cal P w K mg base 1 "_law_draw" (sp_drawL )) : Cal P w K mg base 2 "_law_name" (sp_nameL) := by
  refine cal_of (t := t_nameL K) T.d_nameL (fun _ _ _ _ _ _ us hl => match us, hl with | [_], _ => rfl) sc_nameL (fun vs H Q E h => ?_) (fun cdv f A outer s H E hr => ?_) (fun vs H Q E h => pure_nameL vs H Q E h)
  · first | (obtain ⟨rfl, _⟩ := h; rfl) | (obtain ⟨_, rfl, _⟩ := h; rfl) | (obtain ⟨_, _, rfl, _⟩ := h; rfl) | (obtain ⟨_, _, _, rfl, _⟩ := h; rfl) | (obtain ⟨_, _, _, _, rfl, _⟩ := h; rfl) | (obtain ⟨_, _, _, _, _, rfl, _⟩ := h; rfl) | (obtain ⟨_, _, _, _, _, _, rfl, _⟩ := h; rfl) | (obtain ⟨_, _, _, _, _, _, _, rfl, _⟩ := h; rfl)
  · exact (pss_cons (ps_set (i := 1) sc_nameL.nd rfl (Or.inr rfl) pe_str)
      (pss_one (ps_ret (pe_join pe_str (pe_lc (own := [("_law_k", 2)]) (by rfl) sc_nameL.nd (pi_range1 (by rfl) T.z_range (pa_cons (pe_op op_add pe_int (pe_c c_drawL hr (by decide) (by rfl) (pa_cons (pv 0) (pa_cons pe_int pa_nil)))) pa_nil)) (blkOk_by (own := [("_law_k", 2)]) (N := n_nameL) (sc := defScope s_nameL) (by decide +kernel)) (fun _ _ _ _ _ => (pg_name (i := 2) sc_nameL.nd rfl (Or.inl rfl))) (fun _ _ _ _ _ => pts_nil) (fun _ _ _ _ _ => (pe_ix ix_str (pv 1) (pe_c c_drawL hr (by decide) (by rfl) (pa_cons (pv 0) (pa_cons pe_int pa_nil))) (fun _ _ => rfl))))))))
theorem ok_namesL (T : Tx K mg) (c_drawL : Cal P w K mg base 1 "_law_draw" (sp_drawL )) (c_nameL : Cal P w K mg base 2 "_law_name" (sp_nameL )) : Cal P w K mg base 3 "_law_names" (sp_namesL) := by
  refine cal_of (t := t_namesL K) T.d_namesL (fun _ _ _ _ _ _ us hl => match us, hl with | [_, _], _ => rfl) sc_namesL (fun vs H Q E h => ?_) (fun cdv f A outer s H E hr => ?_) (fun vs H Q E h => pure_namesL vs H Q E h)
  · first | (obtain ⟨rfl, _⟩ := h; rfl) | (obtain ⟨_, rfl, _⟩ := h; rfl) | (obtain ⟨_, _, rfl, _⟩ := h; rfl) | (obtain ⟨_, _, _, rfl, _⟩ := h; rfl) | (obtain ⟨_, _, _, _, rfl, _⟩ := h; rfl) | (obtain ⟨_, _, _, _, _, rfl, _⟩ := h; rfl) | (obtain ⟨_, _, _, _, _, _, rfl, _⟩ := h; rfl) | (obtain ⟨_, _, _, _, _, _, _, rfl, _⟩ := h; rfl)
  · exact (pss_cons (ps_set (i := 2) sc_namesL.nd rfl (Or.inr rfl) pe_str)
      (pss_cons (ps_setLc (i := 3) (own := [("_law_k", 9)]) (by rfl) sc_namesL.nd rfl rfl (sw_true rfl rfl rfl (by decide +kernel)) (pi_range1 (by rfl) T.z_range (pa_cons pe_int pa_nil)) (blkOk_by (own := [("_law_k", 9)]) (N := n_namesL) (sc := defScope s_namesL) (by decide +kernel)) (fun _ _ _ _ _ => (pg_name (i := 9) sc_namesL.nd rfl (Or.inl rfl))) (fun _ _ _ _ _ => pts_nil) (fun _ _ _ _ _ => (pe_op op_add_str (pe_ix ix_str (pv 2) (pe_op op_fdiv (pv 9) pe_int) (fun _ _ => rfl)) (pe_ix ix_str (pv 2) (pe_op op_mod (pv 9) pe_int) (fun _ _ => rfl)))))
      (pss_cons (ps_par (by rfl) sc_namesL.nd rfl rfl (by decide) rfl rfl (pa_cons (pe_c c_drawL hr (by decide) (by rfl) (pa_cons (pv 0) (pa_cons pe_int pa_nil))) (pa_cons (pe_slice sl_str (pe_op op_repS (pe_c c_nameL hr (by decide) (by rfl) (pa_cons (pv 0) pa_nil)) pe_int) po_none (po_some pe_int)) pa_nil)) (by rfl))
      (pss_cons (ps_par3 (by rfl) sc_namesL.nd rfl rfl rfl (by decide) (by decide) (by decide) rfl rfl rfl (pa_cons (pe_c c_drawL hr (by decide) (by rfl) (pa_cons (pv 0) (pa_cons pe_int pa_nil))) (pa_cons pe_int (pa_cons (pe_lst pa_nil) pa_nil))) (by rfl))
      (pss_cons (ps_for PassesOwn.never rfl (pi_range1 (by rfl) T.z_range (pa_cons (pv 1) pa_nil)) (pg_name (i := 9) sc_namesL.nd rfl (Or.inl rfl)) (pss_cons (ps_set (i := 10) sc_namesL.nd rfl (Or.inl rfl) (pe_ifExp (pt_cmpR op_eq (pv 4) pe_int (nomark _)) (pe_c c_drawL hr (by decide) (by rfl) (pa_cons (pv 0) (pa_cons pe_int pa_nil))) (pv 4)))
      (pss_cons (ps_if (pt_cmpR op_eq (pv 10) pe_int (nomark _)) (pss_one (ps_set (i := 11) sc_namesL.nd rfl (Or.inl rfl) (pe_c c_nameL hr (by decide) (by rfl) (pa_cons (pv 0) pa_nil)))) (pss_one (ps_if (pt_cmpR op_eq (pv 10) pe_int (nomark _)) (pss_one (ps_set (i := 11) sc_namesL.nd rfl (Or.inl rfl) (pe_op op_add_str (pe_op op_add_str (pe_slice sl_str (pv 5) po_none (po_some (pv 6))) (pe_ix ix_str (pv 2) (pe_c c_drawL hr (by decide) (by rfl) (pa_cons (pv 0) (pa_cons pe_int pa_nil))) (fun _ _ => rfl))) (pe_slice sl_str (pv 5) (po_some (pe_op op_add (pv 6) pe_int)) po_none)))) (pss_one (ps_set (i := 11) sc_namesL.nd rfl (Or.inl rfl) (pe_slice sl_str (pv 5) po_none (po_some (pe_op op_add pe_int (pe_c c_drawL hr (by decide) (by rfl) (pa_cons (pv 0) (pa_cons pe_int pa_nil)))))))))))
      (pss_cons (ps_while PassesOwn.never (pt_cmpR op_in_seq (pv 11) (pv 8) rfl) (pss_cons (ps_set (i := 11) sc_namesL.nd rfl (Or.inl rfl) (pe_ix ix_list (pv 3) (pv 7) (fun _ _ => rfl)))
      (pss_one (ps_set (i := 7) sc_namesL.nd rfl (Or.inl rfl) (pe_op op_add (pv 7) pe_int)))))
      (pss_one (ps_expr (pe_bm PySem.F.plainAttrs_list PySem.F.slot_list_append PySem.F.type_list_append mt_append (pv 8) (pa_cons (pv 11) pa_nil))))))))
      (pss_one (ps_ret (pv 8))))))))
theorem ok_is_name (T : Tx K mg) : Cal P w K mg base 1 "is_name" (sp_is_name K) := by
  refine cal_of (t := t_is_name K) T.d_is_name (fun _ _ _ _ _ _ us hl => match us, hl with | [_], _ => rfl) sc_is_name (fun vs H Q E h => ?_) (fun cdv f A outer s H E hr => ?_) (fun vs H Q E h => pure_is_name vs H Q E h)
  · first | (obtain ⟨rfl, _⟩ := h; rfl) | (obtain ⟨_, rfl, _⟩ := h; rfl) | (obtain ⟨_, _, rfl, _⟩ := h; rfl) | (obtain ⟨_, _, _, rfl, _⟩ := h; rfl) | (obtain ⟨_, _, _, _, rfl, _⟩ := h; rfl) | (obtain ⟨_, _, _, _, _, rfl, _⟩ := h; rfl) | (obtain ⟨_, _, _, _, _, _, rfl, _⟩ := h; rfl) | (obtain ⟨_, _, _, _, _, _, _, rfl, _⟩ := h; rfl)
  · exact (pss_cons (ps_if (PW.pt (pw_or (pt_not (pt_val (pe_callB call_isi (by rfl) T.z_isinstance (by decide +kernel) (pa_cons (pv 0) (pa_cons (pe_bltn (by rfl) T.z_str (by decide +kernel) rfl) pa_nil))))) (pw_or1 (pt_not (pt_chain op_le op_le pe_int (pe_callB call_len_str (by rfl) T.z_len (by decide +kernel) (pa_cons (pv 0) pa_nil)) (pe_gc (by rfl) T.g_MAX_LETTERS)))))) (pss_one (ps_ret pe_bl)) pss_nil)
      (pss_one (ps_ret (pe_callB (cr_all rfl) (by rfl) T.z_all (by decide +kernel) (pa_cons (pe_lc (own := [("sign", 1)]) (by rfl) sc_is_name.nd (pi_str (pv 0)) (blkOk_by (own := [("sign", 1)]) (N := n_is_name) (sc := defScope s_is_name) (by decide +kernel)) (fun _ _ _ _ _ => (pg_name (i := 1) sc_is_name.nd rfl (Or.inl rfl))) (fun _ _ _ _ _ => pts_nil) (fun _ _ _ _ _ => (pe_cmpR op_inS (pv 1) (pe_gc (by rfl) T.g_LETTERS) rfl))) pa_nil)))))
theorem ok_deed_error (T : Tx K mg) (c_is_name : Cal P w K mg base 1 "is_name" (sp_is_name K)) : Cal P w K mg base 2 "deed_error" (sp_deed_error K) := by
  refine cal_of (t := t_deed_error K) T.d_deed_error (fun _ _ _ _ _ _ us hl => match us, hl with | [_], _ => rfl) sc_deed_error (fun vs H Q E h => ?_) (fun cdv f A outer s H E hr => ?_) (fun vs H Q E h => pure_deed_error ⟨T.t_WORDS, T.t_SINGLE⟩ vs H Q E h)
  · first | (obtain ⟨rfl, _⟩ := h; rfl) | (obtain ⟨_, rfl, _⟩ := h; rfl) | (obtain ⟨_, _, rfl, _⟩ := h; rfl) | (obtain ⟨_, _, _, rfl, _⟩ := h; rfl) | (obtain ⟨_, _, _, _, rfl, _⟩ := h; rfl) | (obtain ⟨_, _, _, _, _, rfl, _⟩ := h; rfl) | (obtain ⟨_, _, _, _, _, _, rfl, _⟩ := h; rfl) | (obtain ⟨_, _, _, _, _, _, _, rfl, _⟩ := h; rfl)
  · exact (pss_cons (ps_if (PW.pt (pw_or (pt_not (pt_val (pe_callB call_isi (by rfl) T.z_isinstance (by decide +kernel) (pa_cons (pv 0) (pa_cons (pe_bltn (by rfl) T.z_tuple (by decide +kernel) rfl) pa_nil))))) (pw_or (pt_cmpR (op_eqE (hu_of hr)) (pv 0) (pe_tup pa_nil) (nomark _)) (pw_or1 (pt_cmpR (op_notInA (hu_of hr)) (pe_ix ix_tup (pv 0) pe_int (fun _ _ => rfl)) (pe_gc (by rfl) T.g_WORDS) rfl))))) (pss_one (ps_ret pe_str)) pss_nil)
      (pss_cons (ps_if (pt_cmpR op_ne (pe_callB call_len_seq (by rfl) T.z_len (by decide +kernel) (pa_cons (pv 0) pa_nil)) (pe_ifExp (pt_cmpR (op_inA (hu_of hr)) (pe_ix ix_tup (pv 0) pe_int (fun _ _ => rfl)) (pe_gc (by rfl) T.g_SINGLE) rfl) pe_int pe_int) (nomark _)) (pss_one (ps_ret pe_str)) pss_nil)
      (pss_one (ps_ret (pe_ifExp (pt_val (pe_callB (cr_all rfl) (by rfl) T.z_all (by decide +kernel) (pa_cons (pe_lc (own := [("item", 1)]) (by rfl) sc_deed_error.nd (pi_tup (pe_slice sl_tupA (pv 0) (po_some pe_int) po_none)) (blkOk_by (own := [("item", 1)]) (N := n_deed_error) (sc := defScope s_deed_error) (by decide +kernel)) (fun _ _ _ _ _ => (pg_name (i := 1) sc_deed_error.nd rfl (Or.inl rfl))) (fun _ _ _ _ _ => pts_nil) (fun _ _ _ _ _ => (pe_c c_is_name hr (by decide) (by rfl) (pa_cons (pv 1) pa_nil)))) pa_nil))) pe_non pe_str)))))
theorem ok_oddL (T : Tx K mg) (c_pickL : Cal P w K mg base 2 "_law_pick" (sp_pickL K)) : Cal P w K mg base 3 "_law_odd" (sp_oddL K) := by
  refine cal_of (t := t_oddL K) T.d_oddL (fun _ _ _ _ _ _ us hl => match us, hl with | [_], _ => rfl) sc_oddL (fun vs H Q E h => ?_) (fun cdv f A outer s H E hr => ?_) (fun vs H Q E h => pure_oddL vs H Q E h)
  · first | (obtain ⟨rfl, _⟩ := h; rfl) | (obtain ⟨_, rfl, _⟩ := h; rfl) | (obtain ⟨_, _, rfl, _⟩ := h; rfl) | (obtain ⟨_, _, _, rfl, _⟩ := h; rfl) | (obtain ⟨_, _, _, _, rfl, _⟩ := h; rfl) | (obtain ⟨_, _, _, _, _, rfl, _⟩ := h; rfl) | (obtain ⟨_, _, _, _, _, _, rfl, _⟩ := h; rfl) | (obtain ⟨_, _, _, _, _, _, _, rfl, _⟩ := h; rfl)
  · exact (pss_cons (ps_set (i := 1) sc_oddL.nd rfl (Or.inl rfl) (pe_lst (pa_cons pe_non (pa_cons pe_bl (pa_cons pe_bl (pa_cons pe_int (pa_cons pe_int (pa_cons (pe_op op_sub pe_int pe_int) (pa_cons (pe_op op_pow pe_int pe_int) (pa_cons pe_str (pa_cons pe_str (pa_cons pe_str (pa_cons pe_str (pa_cons pe_str (pa_cons pe_str (pa_cons pe_str (pa_cons pe_str pa_nil)))))))))))))))))
      (pss_cons (ps_set (i := 1) sc_oddL.nd rfl (Or.inl rfl) (pe_op op_cat (pv 1) (pe_lst (pa_cons pe_str (pa_cons pe_str (pa_cons pe_str (pa_cons pe_str (pa_cons (pe_lst (pa_cons pe_str (pa_cons (pe_tup pa_nil) pa_nil))) (pa_cons (pe_disp (pps_cons pe_str pe_int (pps_cons pe_str pe_int pps_nil)) (by rfl) (by rfl) (fun z => by cases z) (by decide)) pa_nil)))))))))
      (pss_cons (ps_set (i := 1) sc_oddL.nd rfl (Or.inl rfl) (pe_op op_cat (pv 1) (pe_lst (pa_cons (pe_tup (pa_cons pe_str pa_nil)) (pa_cons (pe_tup (pa_cons pe_str (pa_cons (pe_tup pa_nil) pa_nil))) (pa_cons (pe_lst (pa_cons pe_str pa_nil)) (pa_cons (pe_lst pa_nil) (pa_cons pe_dnewK (pa_cons (pe_disp (pps_cons pe_str pe_int pps_nil) (by rfl) (by rfl) (fun z => by cases z) (by decide)) (pa_cons (pe_tup pa_nil) (pa_cons (pe_tup (pa_cons (pe_tup pa_nil) (pa_cons (pe_tup pa_nil) pa_nil))) (pa_cons (pe_tup (pa_cons (pe_tup (pa_cons pe_str (pa_cons (pe_tup pa_nil) pa_nil))) pa_nil)) (pa_cons pe_str pa_nil)))))))))))))
      (pss_one (ps_ret (pe_c c_pickL hr (by decide) (by rfl) (pa_cons (pv 0) (pa_cons (pv 1) pa_nil))))))))
theorem ok_makes (T : Tx K mg) : Cal P w K mg base 1 "makes" (sp_makes K) := by
  refine cal_of (t := t_makes K) T.d_makes (fun _ _ _ _ _ _ us hl => match us, hl with | [_, _], _ => rfl) sc_makes (fun vs H Q E h => ?_) (fun cdv f A outer s H E hr => ?_) (fun vs H Q E h => pure_makes vs H Q E h)
  · first | (obtain ⟨rfl, _⟩ := h; rfl) | (obtain ⟨_, rfl, _⟩ := h; rfl) | (obtain ⟨_, _, rfl, _⟩ := h; rfl) | (obtain ⟨_, _, _, rfl, _⟩ := h; rfl) | (obtain ⟨_, _, _, _, rfl, _⟩ := h; rfl) | (obtain ⟨_, _, _, _, _, rfl, _⟩ := h; rfl) | (obtain ⟨_, _, _, _, _, _, rfl, _⟩ := h; rfl) | (obtain ⟨_, _, _, _, _, _, _, rfl, _⟩ := h; rfl)
  · exact (pss_one (ps_ret (pe_or (pe_and (pe_cmpR op_eq (pe_ix ix_tup (pv 0) pe_int (fun _ _ => rfl)) pe_str (nomark _)) (pe_one (pe_cmpR op_eq (pv 1) pe_int (nomark _)))) (pe_one (pe_and (pe_cmpR op_eq (pe_ix ix_tup (pv 0) pe_int (fun _ _ => rfl)) pe_str (nomark _)) (pe_one (pe_cmpR op_eq (pv 1) pe_int (nomark _))))))))
theorem ok_roles (T : Tx K mg) (c_makes : Cal P w K mg base 1 "makes" (sp_makes K)) : Cal P w K mg base 2 "roles" (sp_roles K) := by
  refine cal_of (t := t_roles K) T.d_roles (fun _ _ _ _ _ _ us hl => match us, hl with | [_], _ => rfl) sc_roles (fun vs H Q E h => ?_) (fun cdv f A outer s H E hr => ?_) (fun vs H Q E h => pure_roles vs H Q E h)
  · first | (obtain ⟨rfl, _⟩ := h; rfl) | (obtain ⟨_, rfl, _⟩ := h; rfl) | (obtain ⟨_, _, rfl, _⟩ := h; rfl) | (obtain ⟨_, _, _, rfl, _⟩ := h; rfl) | (obtain ⟨_, _, _, _, rfl, _⟩ := h; rfl) | (obtain ⟨_, _, _, _, _, rfl, _⟩ := h; rfl) | (obtain ⟨_, _, _, _, _, _, rfl, _⟩ := h; rfl) | (obtain ⟨_, _, _, _, _, _, _, rfl, _⟩ := h; rfl)
  · exact (pss_cons (ps_set (i := 1) sc_roles.nd rfl (Or.inl rfl) pe_dnewK)
      (pss_cons (ps_for PassesOwn.never rfl (pi_tup (pv 0)) (pg_name (i := 2) sc_roles.nd rfl (Or.inl rfl)) (pss_one (ps_for PassesOwn.never rfl (pi_enumT (by rfl) T.z_enumerate (pa_cons (pv 2) pa_nil)) (pg_tup rfl (pgs_cons (pg_name (i := 3) sc_roles.nd rfl (Or.inl rfl)) (pgs_cons (pg_name (i := 4) sc_roles.nd rfl (Or.inl rfl)) pgs_nil))) (pss_one (ps_if (pt_cmpR op_gt (pv 3) pe_int (nomark _)) (pss_one (ps_expr (pe_dsetd (pv 1) (pv 4) (pe_c c_makes hr (by decide) (by rfl) (pa_cons (pv 2) (pa_cons (pv 3) pa_nil))) ⟨rfl, rfl, rfl, rfl⟩))) pss_nil)))))
      (pss_one (ps_ret (pv 1)))))
theorem ok_old_names (T : Tx K mg) (c_roles : Cal P w K mg base 2 "roles" (sp_roles K)) : Cal P w K mg base 3 "old_names" (sp_old_names K) := by
  refine cal_of (t := t_old_names K) T.d_old_names (fun _ _ _ _ _ _ us hl => match us, hl with | [_], _ => rfl) sc_old_names (fun vs H Q E h => ?_) (fun cdv f A outer s H E hr => ?_) (fun vs H Q E h => pure_old_names vs H Q E h)
  · first | (obtain ⟨rfl, _⟩ := h; rfl) | (obtain ⟨_, rfl, _⟩ := h; rfl) | (obtain ⟨_, _, rfl, _⟩ := h; rfl) | (obtain ⟨_, _, _, rfl, _⟩ := h; rfl) | (obtain ⟨_, _, _, _, rfl, _⟩ := h; rfl) | (obtain ⟨_, _, _, _, _, rfl, _⟩ := h; rfl) | (obtain ⟨_, _, _, _, _, _, rfl, _⟩ := h; rfl) | (obtain ⟨_, _, _, _, _, _, _, rfl, _⟩ := h; rfl)
  · exact (pss_one (ps_ret (pe_callTy call_tuple_of (by rfl) T.z_tuple (by decide +kernel) (pa_cons (pe_callB cr_sortedS (by rfl) T.z_sorted (by decide +kernel) (pa_cons (pe_lc (own := [("name", 1), ("is_new", 2)]) (by rfl) sc_old_names.nd (pi_itemsF (pe_c c_roles hr (by decide) (by rfl) (pa_cons (pv 0) pa_nil))) (blkOk_by (own := [("name", 1), ("is_new", 2)]) (N := n_old_names) (sc := defScope s_old_names) (by decide +kernel)) (fun _ _ _ _ _ => (pg_tup rfl (pgs_cons (pg_name (i := 1) sc_old_names.nd rfl (Or.inl rfl)) (pgs_cons (pg_name (i := 2) sc_old_names.nd rfl (Or.inl rfl)) pgs_nil)))) (fun _ _ _ _ _ => (pts_one (pt_not (pt_val (pv 2))))) (fun _ _ _ _ _ => (pv 1))) pa_nil)) pa_nil))))
theorem ok_new_names (T : Tx K mg) (c_roles : Cal P w K mg base 2 "roles" (sp_roles K)) : Cal P w K mg base 3 "new_names" (sp_new_names K) := by
  refine cal_of (t := t_new_names K) T.d_new_names (fun _ _ _ _ _ _ us hl => match us, hl with | [_], _ => rfl) sc_new_names (fun vs H Q E h => ?_) (fun cdv f A outer s H E hr => ?_) (fun vs H Q E h => pure_new_names vs H Q E h)
  · first | (obtain ⟨rfl, _⟩ := h; rfl) | (obtain ⟨_, rfl, _⟩ := h; rfl) | (obtain ⟨_, _, rfl, _⟩ := h; rfl) | (obtain ⟨_, _, _, rfl, _⟩ := h; rfl) | (obtain ⟨_, _, _, _, rfl, _⟩ := h; rfl) | (obtain ⟨_, _, _, _, _, rfl, _⟩ := h; rfl) | (obtain ⟨_, _, _, _, _, _, rfl, _⟩ := h; rfl) | (obtain ⟨_, _, _, _, _, _, _, rfl, _⟩ := h; rfl)
  · exact (pss_one (ps_ret (pe_callTy call_tuple_of (by rfl) T.z_tuple (by decide +kernel) (pa_cons (pe_callB cr_sortedS (by rfl) T.z_sorted (by decide +kernel) (pa_cons (pe_lc (own := [("name", 1), ("is_new", 2)]) (by rfl) sc_new_names.nd (pi_itemsF (pe_c c_roles hr (by decide) (by rfl) (pa_cons (pv 0) pa_nil))) (blkOk_by (own := [("name", 1), ("is_new", 2)]) (N := n_new_names) (sc := defScope s_new_names) (by decide +kernel)) (fun _ _ _ _ _ => (pg_tup rfl (pgs_cons (pg_name (i := 1) sc_new_names.nd rfl (Or.inl rfl)) (pgs_cons (pg_name (i := 2) sc_new_names.nd rfl (Or.inl rfl)) pgs_nil)))) (fun _ _ _ _ _ => (pts_one (pt_val (pv 2)))) (fun _ _ _ _ _ => (pv 1))) pa_nil)) pa_nil))))
theorem ok_wordsL (T : Tx K mg) : Cal P w K mg base 1 "_law_words" (sp_wordsL) := by
  refine cal_of (t := t_wordsL K) T.d_wordsL (fun _ _ _ _ _ _ us hl => match us, hl with | [], _ => rfl) sc_wordsL (fun vs H Q E h => ?_) (fun cdv f A outer s H E hr => ?_) (fun vs H Q E h => pure_wordsL vs H Q E h)
  · first | (obtain ⟨rfl, _⟩ := h; rfl) | (obtain ⟨_, rfl, _⟩ := h; rfl) | (obtain ⟨_, _, rfl, _⟩ := h; rfl) | (obtain ⟨_, _, _, rfl, _⟩ := h; rfl) | (obtain ⟨_, _, _, _, rfl, _⟩ := h; rfl) | (obtain ⟨_, _, _, _, _, rfl, _⟩ := h; rfl) | (obtain ⟨_, _, _, _, _, _, rfl, _⟩ := h; rfl) | (obtain ⟨_, _, _, _, _, _, _, rfl, _⟩ := h; rfl)
  · exact (pss_cons (ps_set (i := 0) sc_wordsL.nd rfl (Or.inl rfl) (pe_lst (pa_cons pe_str (pa_cons pe_str (pa_cons pe_str (pa_cons pe_str (pa_cons pe_str (pa_cons pe_str (pa_cons pe_str pa_nil)))))))))
      (pss_one (ps_ret (pe_op op_cat (pv 0) (pe_lst (pa_cons pe_str (pa_cons pe_str (pa_cons pe_str (pa_cons pe_str (pa_cons pe_str (pa_cons pe_str pa_nil)))))))))))
theorem ok_some_deedL (T : Tx K mg) (c_pickL : Cal P w K mg base 2 "_law_pick" (sp_pickL K)) (c_wordsL : Cal P w K mg base 1 "_law_words" (sp_wordsL )) : Cal P w K mg base 3 "_law_some_deed" (sp_some_deedL K) := by
  refine cal_of (t := t_some_deedL K) T.d_some_deedL (fun _ _ _ _ _ _ us hl => match us, hl with | [_, _], _ => rfl) sc_some_deedL (fun vs H Q E h => ?_) (fun cdv f A outer s H E hr => ?_) (fun vs H Q E h => pure_some_deedL vs H Q E h)
  · first | (obtain ⟨rfl, _⟩ := h; rfl) | (obtain ⟨_, rfl, _⟩ := h; rfl) | (obtain ⟨_, _, rfl, _⟩ := h; rfl) | (obtain ⟨_, _, _, rfl, _⟩ := h; rfl) | (obtain ⟨_, _, _, _, rfl, _⟩ := h; rfl) | (obtain ⟨_, _, _, _, _, rfl, _⟩ := h; rfl) | (obtain ⟨_, _, _, _, _, _, rfl, _⟩ := h; rfl) | (obtain ⟨_, _, _, _, _, _, _, rfl, _⟩ := h; rfl)
  · exact (pss_cons (ps_set (i := 2) sc_some_deedL.nd rfl (Or.inl rfl) (pe_c c_pickL hr (by decide) (by rfl) (pa_cons (pv 0) (pa_cons (pe_c0 c_wordsL hr (by decide) (by rfl)) pa_nil))))
      (pss_cons (ps_if (pt_cmpR op_in_seq (pv 2) (pe_tup (pa_cons pe_str (pa_cons pe_str (pa_cons pe_str (pa_cons pe_str pa_nil))))) rfl) (pss_one (ps_ret (pe_tup (pa_cons (pv 2) (pa_cons (pe_c c_pickL hr (by decide) (by rfl) (pa_cons (pv 0) (pa_cons (pv 1) pa_nil))) pa_nil))))) pss_nil)
      (pss_one (ps_ret (pe_tup (pa_cons (pv 2) (pa_cons (pe_c c_pickL hr (by decide) (by rfl) (pa_cons (pv 0) (pa_cons (pv 1) pa_nil))) (pa_cons (pe_c c_pickL hr (by decide) (by rfl) (pa_cons (pv 0) (pa_cons (pv 1) pa_nil))) pa_nil))))))))
theorem ok_is_nameL (T : Tx K mg) : Cal P w K mg base 1 "_law_is_name" (sp_is_nameL K) := by
  refine cal_of (t := t_is_nameL K) T.d_is_nameL (fun _ _ _ _ _ _ us hl => match us, hl with | [_], _ => rfl) sc_is_nameL (fun vs H Q E h => ?_) (fun cdv f A outer s H E hr => ?_) (fun vs H Q E h => pure_is_nameL vs H Q E h)
  · first | (obtain ⟨rfl, _⟩ := h; rfl) | (obtain ⟨_, rfl, _⟩ := h; rfl) | (obtain ⟨_, _, rfl, _⟩ := h; rfl) | (obtain ⟨_, _, _, rfl, _⟩ := h; rfl) | (obtain ⟨_, _, _, _, rfl, _⟩ := h; rfl) | (obtain ⟨_, _, _, _, _, rfl, _⟩ := h; rfl) | (obtain ⟨_, _, _, _, _, _, rfl, _⟩ := h; rfl) | (obtain ⟨_, _, _, _, _, _, _, rfl, _⟩ := h; rfl)
  · exact (pss_cons (ps_if (PW.pt (pw_or (pt_not (pt_val (pe_callB call_isi (by rfl) T.z_isinstance (by decide +kernel) (pa_cons (pv 0) (pa_cons (pe_bltn (by rfl) T.z_str (by decide +kernel) rfl) pa_nil))))) (pw_or (pt_cmpR op_eq (pv 0) pe_str (nomark _)) (pw_or1 (pt_cmpR op_gt (pe_callB call_len_str (by rfl) T.z_len (by decide +kernel) (pa_cons (pv 0) pa_nil)) pe_int (nomark _)))))) (pss_one (ps_ret pe_bl)) pss_nil)
      (pss_one (ps_ret (pe_cmpR (op_eqE (hu_of hr)) (pe_lc (own := [("_law_sign", 1)]) (by rfl) sc_is_nameL.nd (pi_str (pv 0)) (blkOk_by (own := [("_law_sign", 1)]) (N := n_is_nameL) (sc := defScope s_is_nameL) (by decide +kernel)) (fun _ _ _ _ _ => (pg_name (i := 1) sc_is_nameL.nd rfl (Or.inl rfl))) (fun _ _ _ _ _ => (pts_one (pt_cmpR op_notInS (pv 1) pe_str rfl))) (fun _ _ _ _ _ => (pv 1))) (pe_lst pa_nil) (nomark _)))))
theorem ok_deed_errorL (T : Tx K mg) (c_is_nameL : Cal P w K mg base 1 "_law_is_name" (sp_is_nameL K)) (c_wordsL : Cal P w K mg base 1 "_law_words" (sp_wordsL )) : Cal P w K mg base 2 "_law_deed_error" (sp_deed_errorL K) := by
  refine cal_of (t := t_deed_errorL K) T.d_deed_errorL (fun _ _ _ _ _ _ us hl => match us, hl with | [_], _ => rfl) sc_deed_errorL (fun vs H Q E h => ?_) (fun cdv f A outer s H E hr => ?_) (fun vs H Q E h => pure_deed_errorL vs H Q E h)
  · first | (obtain ⟨rfl, _⟩ := h; rfl) | (obtain ⟨_, rfl, _⟩ := h; rfl) | (obtain ⟨_, _, rfl, _⟩ := h; rfl) | (obtain ⟨_, _, _, rfl, _⟩ := h; rfl) | (obtain ⟨_, _, _, _, rfl, _⟩ := h; rfl) | (obtain ⟨_, _, _, _, _, rfl, _⟩ := h; rfl) | (obtain ⟨_, _, _, _, _, _, rfl, _⟩ := h; rfl) | (obtain ⟨_, _, _, _, _, _, _, rfl, _⟩ := h; rfl)
  · exact (pss_cons (ps_if (PW.pt (pw_or (pt_not (pt_val (pe_callB call_isi (by rfl) T.z_isinstance (by decide +kernel) (pa_cons (pv 0) (pa_cons (pe_bltn (by rfl) T.z_tuple (by decide +kernel) rfl) pa_nil))))) (pw_or (pt_cmpR (op_eqE (hu_of hr)) (pv 0) (pe_tup pa_nil) (nomark _)) (pw_or1 (pt_not (pt_val (pe_callB call_isi (by rfl) T.z_isinstance (by decide +kernel) (pa_cons (pe_ix ix_tup (pv 0) pe_int (fun _ _ => rfl)) (pa_cons (pe_bltn (by rfl) T.z_str (by decide +kernel) rfl) pa_nil))))))))) (pss_one (ps_ret pe_str)) pss_nil)
      (pss_cons (ps_if (pt_cmpR (op_notInA (hu_of hr)) (pe_ix ix_tup (pv 0) pe_int (fun _ _ => rfl)) (pe_c0 c_wordsL hr (by decide) (by rfl)) rfl) (pss_one (ps_ret pe_str)) pss_nil)
      (pss_cons (ps_if (pt_cmpR op_ne (pe_callB call_len_seq (by rfl) T.z_len (by decide +kernel) (pa_cons (pv 0) pa_nil)) (pe_op op_sub pe_int (pe_callTy call_int1 (by rfl) T.z_int (by decide +kernel) (pa_cons (pe_cmpR (op_inA (hu_of hr)) (pe_ix ix_tup (pv 0) pe_int (fun _ _ => rfl)) (pe_tup (pa_cons pe_str (pa_cons pe_str (pa_cons pe_str (pa_cons pe_str pa_nil))))) rfl) pa_nil))) (nomark _)) (pss_one (ps_ret pe_str)) pss_nil)
      (pss_cons (ps_setLc (i := 1) (own := [("_law_item", 2)]) (by rfl) sc_deed_errorL.nd rfl rfl (sw_true rfl rfl rfl (by decide +kernel)) (pi_tup (pe_slice sl_tupA (pv 0) (po_some pe_int) po_none)) (blkOk_by (own := [("_law_item", 2)]) (N := n_deed_errorL) (sc := defScope s_deed_errorL) (by decide +kernel)) (fun _ _ _ _ _ => (pg_name (i := 2) sc_deed_errorL.nd rfl (Or.inl rfl))) (fun _ _ _ _ _ => (pts_one (pt_not (pt_val (pe_c c_is_nameL hr (by decide) (by rfl) (pa_cons (pv 2) pa_nil)))))) (fun _ _ _ _ _ => (pv 2)))
      (pss_one (ps_ret (pe_ifExp (pt_cmpR (op_neE (hu_of hr)) (pv 1) (pe_lst pa_nil) (nomark _)) pe_str pe_non)))))))
theorem ok_odd_deedL (T : Tx K mg) (c_drawL : Cal P w K mg base 1 "_law_draw" (sp_drawL )) (c_oddL : Cal P w K mg base 3 "_law_odd" (sp_oddL K)) (c_pickL : Cal P w K mg base 2 "_law_pick" (sp_pickL K)) (c_wordsL : Cal P w K mg base 1 "_law_words" (sp_wordsL )) : Cal P w K mg base 4 "_law_odd_deed" (sp_odd_deedL K) := by
  refine cal_of (t := t_odd_deedL K) T.d_odd_deedL (fun _ _ _ _ _ _ us hl => match us, hl with | [_, _], _ => rfl) sc_odd_deedL (fun vs H Q E h => ?_) (fun cdv f A outer s H E hr => ?_) (fun vs H Q E h => pure_odd_deedL vs H Q E h)
  · first | (obtain ⟨rfl, _⟩ := h; rfl) | (obtain ⟨_, rfl, _⟩ := h; rfl) | (obtain ⟨_, _, rfl, _⟩ := h; rfl) | (obtain ⟨_, _, _, rfl, _⟩ := h; rfl) | (obtain ⟨_, _, _, _, rfl, _⟩ := h; rfl) | (obtain ⟨_, _, _, _, _, rfl, _⟩ := h; rfl) | (obtain ⟨_, _, _, _, _, _, rfl, _⟩ := h; rfl) | (obtain ⟨_, _, _, _, _, _, _, rfl, _⟩ := h; rfl)
  · exact (pss_cons (ps_par (by rfl) sc_odd_deedL.nd rfl rfl (by decide) rfl rfl (pa_cons (pe_c c_drawL hr (by decide) (by rfl) (pa_cons (pv 0) (pa_cons pe_int pa_nil))) (pa_cons (pe_c c_pickL hr (by decide) (by rfl) (pa_cons (pv 0) (pa_cons (pe_c0 c_wordsL hr (by decide) (by rfl)) pa_nil))) pa_nil)) (by rfl))
      (pss_cons (ps_if (pt_cmpR op_eq (pv 2) pe_int (nomark _)) (pss_one (ps_set (i := 3) sc_odd_deedL.nd rfl (Or.inl rfl) (pe_c c_pickL hr (by decide) (by rfl) (pa_cons (pv 0) (pa_cons (pe_lst (pa_cons pe_str (pa_cons pe_str (pa_cons pe_str (pa_cons pe_str (pa_cons pe_str (pa_cons pe_str (pa_cons (pe_c c_oddL hr (by decide) (by rfl) (pa_cons (pv 0) pa_nil)) pa_nil)))))))) pa_nil))))) pss_nil)
      (pss_cons (ps_set (i := 4) sc_odd_deedL.nd rfl (Or.inl rfl) (pe_op op_add pe_int (pe_callTy call_int1 (by rfl) T.z_int (by decide +kernel) (pa_cons (pe_cmpR (op_notInA (hu_of hr)) (pv 3) (pe_tup (pa_cons pe_str (pa_cons pe_str (pa_cons pe_str (pa_cons pe_str pa_nil))))) rfl) pa_nil))))
      (pss_cons (ps_if (pt_cmpR op_eq (pv 2) pe_int (nomark _)) (pss_one (ps_set (i := 4) sc_odd_deedL.nd rfl (Or.inl rfl) (pe_c c_drawL hr (by decide) (by rfl) (pa_cons (pv 0) (pa_cons pe_int pa_nil))))) pss_nil)
      (pss_cons (ps_setLc (i := 5) (own := [("_law_k", 6)]) (by rfl) sc_odd_deedL.nd rfl rfl (sw_true rfl rfl rfl (by decide +kernel)) (pi_range1 (by rfl) T.z_range (pa_cons (pv 4) pa_nil)) (blkOk_by (own := [("_law_k", 6)]) (N := n_odd_deedL) (sc := defScope s_odd_deedL) (by decide +kernel)) (fun _ _ _ _ _ => (pg_name (i := 6) sc_odd_deedL.nd rfl (Or.inl rfl))) (fun _ _ _ _ _ => pts_nil) (fun _ _ _ _ _ => (pe_c c_pickL hr (by decide) (by rfl) (pa_cons (pv 0) (pa_cons (pv 1) pa_nil)))))
      (pss_cons (ps_if (PW.pt (pw_and (pt_cmpR op_eq (pv 2) pe_int (nomark _)) (pw_and1 (pt_cmpR (op_neE (hu_of hr)) (pv 5) (pe_lst pa_nil) (nomark _))))) (pss_one (ps_asg (pe_c c_oddL hr (by decide) (by rfl) (pa_cons (pv 0) pa_nil)) (pg_sub (pv 5) (pe_c c_drawL hr (by decide) (by rfl) (pa_cons (pv 0) (pa_cons (pe_callB call_len_seq (by rfl) T.z_len (by decide +kernel) (pa_cons (pv 5) pa_nil)) pa_nil))) set_list))) pss_nil)
      (pss_cons (ps_if (pt_cmpR op_eq (pv 2) pe_int (nomark _)) (pss_one (ps_ret (pe_c c_pickL hr (by decide) (by rfl) (pa_cons (pv 0) (pa_cons (pe_lst (pa_cons (pe_op op_cat (pe_lst (pa_cons (pv 3) pa_nil)) (pv 5)) (pa_cons (pe_c c_oddL hr (by decide) (by rfl) (pa_cons (pv 0) pa_nil)) (pa_cons (pe_tup pa_nil) (pa_cons (pe_tup (pa_cons (pv 3) pa_nil)) pa_nil))))) pa_nil))))) pss_nil)
      (pss_one (ps_ret (pe_op op_catA (pe_tup (pa_cons (pv 3) pa_nil)) (pe_callTy call_tuple_of (by rfl) T.z_tuple (by decide +kernel) (pa_cons (pv 5) pa_nil))))))))))))
theorem ok_rolesL (T : Tx K mg) : Cal P w K mg base 1 "_law_roles" (sp_rolesL K) := by
  refine cal_of (t := t_rolesL K) T.d_rolesL (fun _ _ _ _ _ _ us hl => match us, hl with | [_], _ => rfl) sc_rolesL (fun vs H Q E h => ?_) (fun cdv f A outer s H E hr => ?_) (fun vs H Q E h => pure_rolesL vs H Q E h)
  · first | (obtain ⟨rfl, _⟩ := h; rfl) | (obtain ⟨_, rfl, _⟩ := h; rfl) | (obtain ⟨_, _, rfl, _⟩ := h; rfl) | (obtain ⟨_, _, _, rfl, _⟩ := h; rfl) | (obtain ⟨_, _, _, _, rfl, _⟩ := h; rfl) | (obtain ⟨_, _, _, _, _, rfl, _⟩ := h; rfl) | (obtain ⟨_, _, _, _, _, _, rfl, _⟩ := h; rfl) | (obtain ⟨_, _, _, _, _, _, _, rfl, _⟩ := h; rfl)
  · exact (pss_cons (ps_par (by rfl) sc_rolesL.nd rfl rfl (by decide) rfl rfl (pa_cons (pe_lst pa_nil) (pa_cons (pe_lst pa_nil) pa_nil)) (by rfl))
      (pss_cons (ps_for PassesOwn.never rfl (pi_tup (pv 0)) (pg_name (i := 3) sc_rolesL.nd rfl (Or.inl rfl)) (pss_cons (ps_set (i := 4) sc_rolesL.nd rfl (Or.inl rfl) (pe_dget2 (hu_of hr) (pe_disp (pps_cons pe_str pe_int (pps_cons pe_str pe_int pps_nil)) (by rfl) (by rfl) (fun z => by cases z) (by decide)) (pe_ix ix_tup (pv 3) pe_int (fun _ _ => rfl)) pe_int ⟨rfl, rfl, rfl, rfl⟩))
      (pss_one (ps_for PassesOwn.never rfl (pi_range2 (by rfl) T.z_range (pa_cons pe_int (pa_cons (pe_callB call_len_seq (by rfl) T.z_len (by decide +kernel) (pa_cons (pv 3) pa_nil)) pa_nil))) (pg_name (i := 5) sc_rolesL.nd rfl (Or.inl rfl)) (pss_one (ps_if (pt_cmpR op_notIn_seq (pe_ix ix_tup (pv 3) (pv 5) (fun _ _ => rfl)) (pe_op op_cat (pv 1) (pv 2)) rfl) (pss_one (ps_if (pt_cmpR op_eq (pv 5) (pv 4) (nomark _)) (pss_one (ps_expr (pe_bm PySem.F.plainAttrs_list PySem.F.slot_list_append PySem.F.type_list_append mt_append (pv 2) (pa_cons (pe_ix ix_tup (pv 3) (pv 5) (fun _ _ => rfl)) pa_nil)))) (pss_one (ps_expr (pe_bm PySem.F.plainAttrs_list PySem.F.slot_list_append PySem.F.type_list_append mt_append (pv 1) (pa_cons (pe_ix ix_tup (pv 3) (pv 5) (fun _ _ => rfl)) pa_nil)))))) pss_nil))))))
      (pss_one (ps_ret (pe_tup (pa_cons (pe_callTy call_tuple_of (by rfl) T.z_tuple (by decide +kernel) (pa_cons (pe_callB cr_sortedS (by rfl) T.z_sorted (by decide +kernel) (pa_cons (pv 1) pa_nil)) pa_nil)) (pa_cons (pe_callTy call_tuple_of (by rfl) T.z_tuple (by decide +kernel) (pa_cons (pe_callB cr_sortedS (by rfl) T.z_sorted (by decide +kernel) (pa_cons (pv 2) pa_nil)) pa_nil)) pa_nil)))))))
theorem ok_script_error (T : Tx K mg) (c_deed_error : Cal P w K mg base 2 "deed_error" (sp_deed_error K)) (c_new_names : Cal P w K mg base 3 "new_names" (sp_new_names K)) (c_old_names : Cal P w K mg base 3 "old_names" (sp_old_names K)) : Cal P w K mg base 4 "script_error" (sp_script_error K) := by
  refine cal_of (t := t_script_error K) T.d_script_error (fun _ _ _ _ _ _ us hl => match us, hl with | [_], _ => rfl) sc_script_error (fun vs H Q E h => ?_) (fun cdv f A outer s H E hr => ?_) (fun vs H Q E h => pure_script_error vs H Q E h)
  · first | (obtain ⟨rfl, _⟩ := h; rfl) | (obtain ⟨_, rfl, _⟩ := h; rfl) | (obtain ⟨_, _, rfl, _⟩ := h; rfl) | (obtain ⟨_, _, _, rfl, _⟩ := h; rfl) | (obtain ⟨_, _, _, _, rfl, _⟩ := h; rfl) | (obtain ⟨_, _, _, _, _, rfl, _⟩ := h; rfl) | (obtain ⟨_, _, _, _, _, _, rfl, _⟩ := h; rfl) | (obtain ⟨_, _, _, _, _, _, _, rfl, _⟩ := h; rfl)
  · exact (pss_cons (ps_if (PW.pt (pw_or (pt_not (pt_val (pe_callB call_isi (by rfl) T.z_isinstance (by decide +kernel) (pa_cons (pv 0) (pa_cons (pe_bltn (by rfl) T.z_tuple (by decide +kernel) rfl) pa_nil))))) (pw_or1 (pt_cmpR op_gt (pe_callB call_len_seq (by rfl) T.z_len (by decide +kernel) (pa_cons (pv 0) pa_nil)) (pe_gc (by rfl) T.g_MAX_DEEDS) (nomark _))))) (pss_one (ps_ret (pe_tup (pa_cons pe_non (pa_cons pe_str pa_nil))))) pss_nil)
      (pss_cons (ps_for PassesOwn.never rfl (pi_enumT (by rfl) T.z_enumerate (pa_cons (pv 0) pa_nil)) (pg_tup rfl (pgs_cons (pg_name (i := 1) sc_script_error.nd rfl (Or.inl rfl)) (pgs_cons (pg_name (i := 2) sc_script_error.nd rfl (Or.inl rfl)) pgs_nil))) (pss_cons (ps_set (i := 3) sc_script_error.nd rfl (Or.inl rfl) (pe_c c_deed_error hr (by decide) (by rfl) (pa_cons (pv 2) pa_nil)))
      (pss_one (ps_if (pt_cmpR op_notN1 (pv 3) pe_non (nomark _)) (pss_one (ps_ret (pe_tup (pa_cons (pv 1) (pa_cons (pv 3) pa_nil))))) pss_nil))))
      (pss_cons (ps_if (pt_cmpR op_gt (pe_callB call_len_seq (by rfl) T.z_len (by decide +kernel) (pa_cons (pe_c c_old_names hr (by decide) (by rfl) (pa_cons (pv 0) pa_nil)) pa_nil)) (pe_gc (by rfl) T.g_MAX_OLD) (nomark _)) (pss_one (ps_ret (pe_tup (pa_cons pe_non (pa_cons pe_str pa_nil))))) pss_nil)
      (pss_one (ps_ret (pe_ifExp (pt_cmpR op_gt (pe_callB call_len_seq (by rfl) T.z_len (by decide +kernel) (pa_cons (pe_c c_new_names hr (by decide) (by rfl) (pa_cons (pv 0) pa_nil)) pa_nil)) (pe_gc (by rfl) T.g_MAX_NEW) (nomark _)) (pe_tup (pa_cons pe_non (pa_cons pe_str pa_nil))) pe_non))))))
theorem ok_script_errorL (T : Tx K mg) (c_deed_errorL : Cal P w K mg base 2 "_law_deed_error" (sp_deed_errorL K)) (c_rolesL : Cal P w K mg base 1 "_law_roles" (sp_rolesL K)) : Cal P w K mg base 3 "_law_script_error" (sp_script_errorL K) := by
  refine cal_of (t := t_script_errorL K) T.d_script_errorL (fun _ _ _ _ _ _ us hl => match us, hl with | [_], _ => rfl) sc_script_errorL (fun vs H Q E h => ?_) (fun cdv f A outer s H E hr => ?_) (fun vs H Q E h => pure_script_errorL vs H Q E h)
  · first | (obtain ⟨rfl, _⟩ := h; rfl) | (obtain ⟨_, rfl, _⟩ := h; rfl) | (obtain ⟨_, _, rfl, _⟩ := h; rfl) | (obtain ⟨_, _, _, rfl, _⟩ := h; rfl) | (obtain ⟨_, _, _, _, rfl, _⟩ := h; rfl) | (obtain ⟨_, _, _, _, _, rfl, _⟩ := h; rfl) | (obtain ⟨_, _, _, _, _, _, rfl, _⟩ := h; rfl) | (obtain ⟨_, _, _, _, _, _, _, rfl, _⟩ := h; rfl)
  · exact (pss_cons (ps_if (PW.pt (pw_or (pt_not (pt_val (pe_callB call_isi (by rfl) T.z_isinstance (by decide +kernel) (pa_cons (pv 0) (pa_cons (pe_bltn (by rfl) T.z_tuple (by decide +kernel) rfl) pa_nil))))) (pw_or1 (pt_cmpR op_gt (pe_callB call_len_seq (by rfl) T.z_len (by decide +kernel) (pa_cons (pv 0) pa_nil)) pe_int (nomark _))))) (pss_one (ps_ret (pe_tup (pa_cons pe_non (pa_cons pe_str pa_nil))))) pss_nil)
      (pss_cons (ps_for PassesOwn.never rfl (pi_range1 (by rfl) T.z_range (pa_cons (pe_callB call_len_seq (by rfl) T.z_len (by decide +kernel) (pa_cons (pv 0) pa_nil)) pa_nil)) (pg_name (i := 1) sc_script_errorL.nd rfl (Or.inl rfl)) (pss_cons (ps_set (i := 2) sc_script_errorL.nd rfl (Or.inl rfl) (pe_c c_deed_errorL hr (by decide) (by rfl) (pa_cons (pe_ix ix_tup (pv 0) (pv 1) (fun _ _ => rfl)) pa_nil)))
      (pss_one (ps_if (pt_cmpR op_notN1 (pv 2) pe_non (nomark _)) (pss_one (ps_ret (pe_tup (pa_cons (pv 1) (pa_cons (pv 2) pa_nil))))) pss_nil))))
      (pss_cons (ps_asg (pe_c c_rolesL hr (by decide) (by rfl) (pa_cons (pv 0) pa_nil)) (pg_tup rfl (pgs_cons (pg_name (i := 3) sc_script_errorL.nd rfl (Or.inl rfl)) (pgs_cons (pg_name (i := 4) sc_script_errorL.nd rfl (Or.inl rfl)) pgs_nil))))
      (pss_cons (ps_if (pt_cmpR op_gt (pe_callB call_len_seq (by rfl) T.z_len (by decide +kernel) (pa_cons (pv 3) pa_nil)) pe_int (nomark _)) (pss_one (ps_ret (pe_tup (pa_cons pe_non (pa_cons pe_str pa_nil))))) pss_nil)
      (pss_one (ps_ret (pe_ifExp (pt_cmpR op_gt (pe_callB call_len_seq (by rfl) T.z_len (by decide +kernel) (pa_cons (pv 4) pa_nil)) pe_int (nomark _)) (pe_tup (pa_cons pe_non (pa_cons pe_str pa_nil))) pe_non)))))))
theorem ok_nearL (T : Tx K mg) (c_drawL : Cal P w K mg base 1 "_law_draw" (sp_drawL )) (c_pickL : Cal P w K mg base 2 "_law_pick" (sp_pickL K)) : Cal P w K mg base 3 "_law_near" (sp_nearL K) := by
  refine cal_of (t := t_nearL K) T.d_nearL (fun _ _ _ _ _ _ us hl => match us, hl with | [_, _], _ => rfl) sc_nearL (fun vs H Q E h => ?_) (fun cdv f A outer s H E hr => ?_) (fun vs H Q E h => pure_nearL vs H Q E h)
  · first | (obtain ⟨rfl, _⟩ := h; rfl) | (obtain ⟨_, rfl, _⟩ := h; rfl) | (obtain ⟨_, _, rfl, _⟩ := h; rfl) | (obtain ⟨_, _, _, rfl, _⟩ := h; rfl) | (obtain ⟨_, _, _, _, rfl, _⟩ := h; rfl) | (obtain ⟨_, _, _, _, _, rfl, _⟩ := h; rfl) | (obtain ⟨_, _, _, _, _, _, rfl, _⟩ := h; rfl) | (obtain ⟨_, _, _, _, _, _, _, rfl, _⟩ := h; rfl)
  · exact (pss_cons (ps_par (by rfl) sc_nearL.nd rfl rfl (by decide) rfl rfl (pa_cons (pe_op op_add pe_int (pe_c c_drawL hr (by decide) (by rfl) (pa_cons (pv 0) (pa_cons pe_int pa_nil)))) (pa_cons (pe_op op_add pe_int (pe_c c_drawL hr (by decide) (by rfl) (pa_cons (pv 0) (pa_cons pe_int pa_nil)))) pa_nil)) (by rfl))
      (pss_cons (ps_setLc (i := 4) (own := [("_law_name_here", 8)]) (by rfl) sc_nearL.nd rfl rfl (sw_true rfl rfl rfl (by decide +kernel)) (pi_list (pe_slice sl_list (pv 1) po_none (po_some (pv 2)))) (blkOk_by (own := [("_law_name_here", 8)]) (N := n_nearL) (sc := defScope s_nearL) (by decide +kernel)) (fun _ _ _ _ _ => (pg_name (i := 8) sc_nearL.nd rfl (Or.inl rfl))) (fun _ _ _ _ _ => pts_nil) (fun _ _ _ _ _ => (pe_tup (pa_cons pe_str (pa_cons (pv 8) pa_nil)))))
      (pss_cons (ps_for PassesOwn.never rfl (pi_range1 (by rfl) T.z_range (pa_cons (pv 3) pa_nil)) (pg_name (i := 5) sc_nearL.nd rfl (Or.inl rfl)) (pss_cons (ps_set (i := 6) sc_nearL.nd rfl (Or.inl rfl) (pe_ix ix_list (pv 1) (pe_op op_add pe_int (pv 5)) (fun _ _ => rfl)))
      (pss_cons (ps_set (i := 7) sc_nearL.nd rfl (Or.inl rfl) (pe_ix ix_list (pv 1) (pe_op op_mod (pv 5) (pv 2)) (fun _ _ => rfl)))
      (pss_one (ps_expr (pe_bm PySem.F.plainAttrs_list PySem.F.slot_list_append PySem.F.type_list_append mt_append (pv 4) (pa_cons (pe_c c_pickL hr (by decide) (by rfl) (pa_cons (pv 0) (pa_cons (pe_lst (pa_cons (pe_tup (pa_cons pe_str (pa_cons (pv 7) (pa_cons (pv 6) pa_nil)))) (pa_cons (pe_tup (pa_cons pe_str (pa_cons (pv 6) (pa_cons (pv 7) pa_nil)))) pa_nil))) pa_nil))) pa_nil)))))))
      (pss_cons (ps_if (pt_cmpR op_eq (pe_c c_drawL hr (by decide) (by rfl) (pa_cons (pv 0) (pa_cons pe_int pa_nil))) pe_int (nomark _)) (pss_one (ps_expr (pe_bm PySem.F.plainAttrs_list PySem.F.slot_list_append PySem.F.type_list_append mt_append (pv 4) (pa_cons (pe_tup (pa_cons pe_str (pa_cons (pe_ix ix_list (pv 1) pe_int (fun _ _ => rfl)) (pa_cons (pe_ix ix_list (pv 1) (pe_c c_drawL hr (by decide) (by rfl) (pa_cons (pv 0) (pa_cons pe_int pa_nil))) (fun _ _ => rfl)) pa_nil)))) pa_nil)))) pss_nil)
      (pss_one (ps_ret (pe_callTy call_tuple_of (by rfl) T.z_tuple (by decide +kernel) (pa_cons (pv 4) pa_nil))))))))
theorem ok_law (T : Tx K mg) (c_deckL : Cal P w K mg base 1 "_law_deck" (sp_deckL K)) (c_drawL : Cal P w K mg base 1 "_law_draw" (sp_drawL )) (c_namesL : Cal P w K mg base 3 "_law_names" (sp_namesL )) (c_nearL : Cal P w K mg base 3 "_law_near" (sp_nearL K)) (c_oddL : Cal P w K mg base 3 "_law_odd" (sp_oddL K)) (c_odd_deedL : Cal P w K mg base 4 "_law_odd_deed" (sp_odd_deedL K)) (c_pickL : Cal P w K mg base 2 "_law_pick" (sp_pickL K)) (c_script_errorL : Cal P w K mg base 3 "_law_script_error" (sp_script_errorL K)) (c_some_deedL : Cal P w K mg base 3 "_law_some_deed" (sp_some_deedL K)) (c_script_error : Cal P w K mg base 4 "script_error" (sp_script_error K)) {f : Addr} {fd : FuncData} (F : FunD K "law" "law" (defArgs s_law) (defBody s_law) (defScope s_law) [] [] f fd) : FnG P w K mg base CX0 5 f fd ["_law_script"] (sp_law K) := by
  refine funD_okG F sc_law (fun vs H Q E h => ?_) (fun cdv A outer s H vs Q E hrG h => have hr := hrG.rm; ⟨t_law K, PSs.nox ?_, pure_law vs H Q E h⟩)
  · first | (obtain ⟨rfl, _⟩ := h; rfl) | (obtain ⟨_, rfl, _⟩ := h; rfl) | (obtain ⟨_, _, rfl, _⟩ := h; rfl) | (obtain ⟨_, _, _, rfl, _⟩ := h; rfl) | (obtain ⟨_, _, _, _, rfl, _⟩ := h; rfl) | (obtain ⟨_, _, _, _, _, rfl, _⟩ := h; rfl) | (obtain ⟨_, _, _, _, _, _, rfl, _⟩ := h; rfl) | (obtain ⟨_, _, _, _, _, _, _, rfl, _⟩ := h; rfl)
  · exact (pss_cons (ps_set (i := 1) sc_law.nd rfl (Or.inl rfl) (pe_c c_deckL hr (by decide) (by rfl) (pa_cons (pv 0) pa_nil)))
      (pss_cons (ps_set (i := 2) sc_law.nd rfl (Or.inl rfl) (pe_c c_namesL hr (by decide) (by rfl) (pa_cons (pv 1) (pa_cons pe_int pa_nil))))
      (pss_cons (ps_par (by rfl) sc_law.nd rfl rfl (by decide) rfl rfl (pa_cons (pe_c c_drawL hr (by decide) (by rfl) (pa_cons (pv 1) (pa_cons pe_int pa_nil))) (pa_cons (pe_op op_add pe_int (pe_c c_drawL hr (by decide) (by rfl) (pa_cons (pv 1) (pa_cons pe_int pa_nil)))) pa_nil)) (by rfl))
      (pss_cons (ps_set (i := 5) sc_law.nd rfl (Or.inl rfl) (pe_slice sl_list (pv 2) po_none (po_some (pe_op op_add pe_int (pe_c c_drawL hr (by decide) (by rfl) (pa_cons (pv 1) (pa_cons pe_int pa_nil)))))))
      (pss_cons (ps_set (i := 6) sc_law.nd rfl (Or.inl rfl) (pe_tup pa_nil))
      (pss_cons (ps_for PassesOwn.never rfl (pi_range1 (by rfl) T.z_range (pa_cons (pe_c c_drawL hr (by decide) (by rfl) (pa_cons (pv 1) (pa_cons pe_int pa_nil))) pa_nil)) (pg_name (i := 7) sc_law.nd rfl (Or.inl rfl)) (pss_cons (ps_set (i := 8) sc_law.nd rfl (Or.inl rfl) (pe_c c_some_deedL hr (by decide) (by rfl) (pa_cons (pv 1) (pa_cons (pv 5) pa_nil))))
      (pss_cons (ps_if (pt_cmpR op_eq (pe_c c_drawL hr (by decide) (by rfl) (pa_cons (pv 1) (pa_cons (pv 4) pa_nil))) pe_int (nomark _)) (pss_one (ps_set (i := 8) sc_law.nd rfl (Or.inl rfl) (pe_c c_odd_deedL hr (by decide) (by rfl) (pa_cons (pv 1) (pa_cons (pv 5) pa_nil))))) pss_nil)
      (pss_one (ps_set (i := 6) sc_law.nd rfl (Or.inl rfl) (pe_op op_catA (pv 6) (pe_tup (pa_cons (pv 8) pa_nil))))))))
      (pss_cons (ps_if (pt_cmpR op_eq (pv 3) pe_int (nomark _)) (pss_one (ps_set (i := 6) sc_law.nd rfl (Or.inl rfl) (pe_c c_nearL hr (by decide) (by rfl) (pa_cons (pv 1) (pa_cons (pv 2) pa_nil))))) pss_nil)
      (pss_cons (ps_set (i := 9) sc_law.nd rfl (Or.inl rfl) (pv 6))
      (pss_cons (ps_if (PW.pt (pw_and (pt_cmpR op_eq (pv 3) pe_int (nomark _)) (pw_and1 (pt_cmpR op_lt (pv 4) pe_int (nomark _))))) (pss_one (ps_set (i := 9) sc_law.nd rfl (Or.inl rfl) (pe_c c_pickL hr (by decide) (by rfl) (pa_cons (pv 1) (pa_cons (pe_lst (pa_cons (pe_callTy call_list_of (by rfl) T.z_list (by decide +kernel) (pa_cons (pv 6) pa_nil)) (pa_cons (pe_c c_oddL hr (by decide) (by rfl) (pa_cons (pv 1) pa_nil)) (pa_cons (pe_tup (pa_cons (pv 6) pa_nil)) (pa_cons (pe_revT (pv 6)) pa_nil))))) pa_nil))))) pss_nil)
      (pss_cons (ps_if (pt_cmpR op_ne (pe_callB (call_reprP hrG) (by rfl) T.z_repr (by decide +kernel) (pa_cons (pe_lst (pa_cons (pe_gc (by rfl) T.g_MAX_DEEDS) (pa_cons (pe_gc (by rfl) T.g_MAX_OLD) (pa_cons (pe_gc (by rfl) T.g_MAX_NEW) pa_nil)))) pa_nil)) (pe_callB (call_reprP hrG) (by rfl) T.z_repr (by decide +kernel) (pa_cons (pe_lst (pa_cons pe_int (pa_cons pe_int (pa_cons pe_int pa_nil)))) pa_nil)) (nomark _)) (pss_one (ps_ret pe_bl)) pss_nil)
      (pss_cons (ps_par (by rfl) sc_law.nd rfl rfl (by decide) rfl rfl (pa_cons (pe_c c_script_error hr (by decide) (by rfl) (pa_cons (pv 9) pa_nil)) (pa_cons (pe_c c_script_errorL hr (by decide) (by rfl) (pa_cons (pv 9) pa_nil)) pa_nil)) (by rfl))
      (pss_cons (ps_if (pt_cmpR op_isN1 (pv 11) pe_non (nomark _)) (pss_one (ps_ret (pe_cmpR op_isN1 (pv 10) pe_non (nomark _)))) pss_nil)
      (pss_one (ps_ret (pe_cmpR op_eq (pe_callB (call_reprP hrG) (by rfl) T.z_repr (by decide +kernel) (pa_cons (pv 10) pa_nil)) (pe_callB (call_reprP hrG) (by rfl) T.z_repr (by decide +kernel) (pa_cons (pv 11) pa_nil)) (nomark _))))))))))))))))
theorem ok_all (T : Tx K mg) {f : Addr} {fd : FuncData} (F : FunD K "law" "law" (defArgs s_law) (defBody s_law) (defScope s_law) [] [] f fd) : FnG P w K mg base CX0 5 f fd ["_law_script"] (sp_law K) := by
  have c_deckL := ok_deckL (P := P) (w := w) (base := base) T
  have c_drawL := ok_drawL (P := P) (w := w) (base := base) T
  have c_pickL := ok_pickL (P := P) (w := w) (base := base) T c_drawL
  have c_nameL := ok_nameL (P := P) (w := w) (base := base) T c_drawL
  have c_namesL := ok_namesL (P := P) (w := w) (base := base) T c_drawL c_nameL
  have c_is_name := ok_is_name (P := P) (w := w) (base := base) T
  have c_deed_error := ok_deed_error (P := P) (w := w) (base := base) T c_is_name
  have c_oddL := ok_oddL (P := P) (w := w) (base := base) T c_pickL
  have c_makes := ok_makes (P := P) (w := w) (base := base) T
  have c_roles := ok_roles (P := P) (w := w) (base := base) T c_makes
  have c_old_names := ok_old_names (P := P) (w := w) (base := base) T c_roles
  have c_new_names := ok_new_names (P := P) (w := w) (base := base) T c_roles
  have c_wordsL := ok_wordsL (P := P) (w := w) (base := base) T
  have c_some_deedL := ok_some_deedL (P := P) (w := w) (base := base) T c_pickL c_wordsL
  have c_is_nameL := ok_is_nameL (P := P) (w := w) (base := base) T
  have c_deed_errorL := ok_deed_errorL (P := P) (w := w) (base := base) T c_is_nameL c_wordsL
  have c_odd_deedL := ok_odd_deedL (P := P) (w := w) (base := base) T c_drawL c_oddL c_pickL c_wordsL
  have c_rolesL := ok_rolesL (P := P) (w := w) (base := base) T
  have c_script_error := ok_script_error (P := P) (w := w) (base := base) T c_deed_error c_new_names c_old_names
  have c_script_errorL := ok_script_errorL (P := P) (w := w) (base := base) T c_deed_errorL c_rolesL
  have c_nearL := ok_nearL (P := P) (w := w) (base := base) T c_drawL c_pickL
  exact ok_law T c_deckL c_drawL c_namesL c_nearL c_oddL c_odd_deedL c_pickL c_script_errorL c_some_deedL c_script_error F
end
/-! ### the head -/
def dd_deckL : He.DefD := ⟨("_law_deck", none), "_law_deck", "_law_deck", defArgs s_deckL, defBody s_deckL, defScope s_deckL, [], []⟩
def dd_drawL : He.DefD := ⟨("_law_draw", none), "_law_draw", "_law_draw", defArgs s_drawL, defBody s_drawL, defScope s_drawL, [], []⟩
def dd_pickL : He.DefD := ⟨("_law_pick", none), "_law_pick", "_law_pick", defArgs s_pickL, defBody s_pickL, defScope s_pickL, [], []⟩
def dd_nameL : He.DefD := ⟨("_law_name", none), "_law_name", "_law_name", defArgs s_nameL, defBody s_nameL, defScope s_nameL, [], []⟩
def dd_namesL : He.DefD := ⟨("_law_names", none), "_law_names", "_law_names", defArgs s_namesL, defBody s_namesL, defScope s_namesL, [], []⟩
def dd_is_name : He.DefD := ⟨("is_name", none), "is_name", "is_name", defArgs s_is_name, defBody s_is_name, defScope s_is_name, [], []⟩
def dd_deed_error : He.DefD := ⟨("deed_error", none), "deed_error", "deed_error", defArgs s_deed_error, defBody s_deed_error, defScope s_deed_error, [], []⟩
def dd_oddL : He.DefD := ⟨("_law_odd", none), "_law_odd", "_law_odd", defArgs s_oddL, defBody s_oddL, defScope s_oddL, [], []⟩
def dd_makes : He.DefD := ⟨("makes", none), "makes", "makes", defArgs s_makes, defBody s_makes, defScope s_makes, [], []⟩
def dd_roles : He.DefD := ⟨("roles", none), "roles", "roles", defArgs s_roles, defBody s_roles, defScope s_roles, [], []⟩
def dd_old_names : He.DefD := ⟨("old_names", none), "old_names", "old_names", defArgs s_old_names, defBody s_old_names, defScope s_old_names, [], []⟩
def dd_new_names : He.DefD := ⟨("new_names", none), "new_names", "new_names", defArgs s_new_names, defBody s_new_names, defScope s_new_names, [], []⟩
def dd_wordsL : He.DefD := ⟨("_law_words", none), "_law_words", "_law_words", defArgs s_wordsL, defBody s_wordsL, defScope s_wordsL, [], []⟩
def dd_some_deedL : He.DefD := ⟨("_law_some_deed", none), "_law_some_deed", "_law_some_deed", defArgs s_some_deedL, defBody s_some_deedL, defScope s_some_deedL, [], []⟩
def dd_is_nameL : He.DefD := ⟨("_law_is_name", none), "_law_is_name", "_law_is_name", defArgs s_is_nameL, defBody s_is_nameL, defScope s_is_nameL, [], []⟩
def dd_deed_errorL : He.DefD := ⟨("_law_deed_error", none), "_law_deed_error", "_law_deed_error", defArgs s_deed_errorL, defBody s_deed_errorL, defScope s_deed_errorL, [], []⟩
def dd_odd_deedL : He.DefD := ⟨("_law_odd_deed", none), "_law_odd_deed", "_law_odd_deed", defArgs s_odd_deedL, defBody s_odd_deedL, defScope s_odd_deedL, [], []⟩
def dd_rolesL : He.DefD := ⟨("_law_roles", none), "_law_roles", "_law_roles", defArgs s_rolesL, defBody s_rolesL, defScope s_rolesL, [], []⟩
def dd_script_error : He.DefD := ⟨("script_error", none), "script_error", "script_error", defArgs s_script_error, defBody s_script_error, defScope s_script_error, [], []⟩
def dd_script_errorL : He.DefD := ⟨("_law_script_error", none), "_law_script_error", "_law_script_error", defArgs s_script_errorL, defBody s_script_errorL, defScope s_script_errorL, [], []⟩
def dd_nearL : He.DefD := ⟨("_law_near", none), "_law_near", "_law_near", defArgs s_nearL, defBody s_nearL, defScope s_nearL, [], []⟩
def dd_law : He.DefD := ⟨("law", none), "law", "law", defArgs s_law, defBody s_law, defScope s_law, [], []⟩
def fnD : List He.DefD := [dd_deckL, dd_drawL, dd_pickL, dd_nameL, dd_namesL, dd_is_name, dd_deed_error, dd_oddL, dd_makes, dd_roles, dd_old_names, dd_new_names, dd_wordsL, dd_some_deedL, dd_is_nameL, dd_deed_errorL, dd_odd_deedL, dd_rolesL, dd_script_error, dd_script_errorL, dd_nearL, dd_law]
def faD : List He.Fa := [.glo "_law_deck", .glo "_law_draw", .glo "_law_pick", .glo "_law_name", .glo "_law_names", .glo "is_name", .glo "deed_error", .glo "_law_odd", .glo "makes", .glo "roles", .glo "old_names", .glo "new_names", .glo "_law_words", .glo "_law_some_deed", .glo "_law_is_name", .glo "_law_deed_error", .glo "_law_odd_deed", .glo "_law_roles", .glo "script_error", .glo "_law_script_error", .glo "_law_near", .glo "law", .free "abs", .free "all", .free "enumerate", .free "int", .free "isinstance", .free "len", .free "list", .free "range", .free "repr", .free "sorted", .free "str", .free "tuple", .str "LETTERS" "abcdefghijklmnopqrstuvwxyz", .int "MAX_DEEDS" 12, .int "MAX_LETTERS" 8, .int "MAX_NEW" 3, .int "MAX_OLD" 4, .glo "SINGLE", .glo "WORDS"]
def chkD (K : PySem.W.Frag) : Bool := He.tupB K "SINGLE" [.str "front", .str "back", .str "lift", .str "cut"] && He.tupB K "WORDS" [.str "first", .str "last", .str "ahead", .str "behind", .str "front", .str "back", .str "swap", .str "turn", .str "lift", .str "cut", .str "pour", .str "wrap", .str "put"]
abbrev RR : PySem.W.OpenRow := PySem.W.OpenLaw.row PySem.Challenge.rw_twigscripts_k16_what_is_no_script
abbrev hkD : PySem.W.Hook := hookX 5 chkD faD fnD
def obD (s : PySem.W.SharedT) : AlX := obsXG 5 chkD faD fnD (HandSHeadRun.getT s)
theorem obD_eq (s : PySem.W.SharedT) : obD s = hkD.obs s.abs := obsXG_eq (HandSHeadRun.getT_eq s)
def looseD : List Str := ["MAX_DEEDS", "MAX_NEW", "MAX_OLD", "WORDS", "SINGLE", "LETTERS", "MAX_LETTERS", "is_name", "deed_error", "makes", "roles", "old_names", "new_names", "script_error", "_law_deck", "_law_draw", "_law_name", "_law_names", "_law_pick", "_law_words", "_law_some_deed", "_law_odd", "_law_odd_deed", "_law_is_name", "_law_deed_error", "_law_roles", "_law_script_error", "_law_near"]
theorem runD (w : World) : HandSHeadRun.RunEq RR (PySem.W.view RR.prog [31]) hkD obD 4000 looseD w := by
  intro os
  kernel_rfl
theorem facts {P : Program} {w : World} {K : PySem.W.Frag} {h : Heap} {mg : Str → Option Value} {f : Addr} (X : K.In h) (G : h.Ns mainGlobals mg) (hfa : mg ("law" : Str) = some (.ref f)) (c : SaysX chkD faD fnD K) :
    ∃ fd : FuncData, (∀ (s : Shared) (v : Value), BindsTo s fd ⟨[v], []⟩ [("_law_script", v)]) ∧ ∀ base : Heap, K.In base → base.Ns mainGlobals mg → FnG P w K mg base CX0 5 f fd ["_law_script"] (sp_law K) := by
  obtain ⟨fd_deckL, F_deckL⟩ := c.d.def_ 0 (d := dd_deckL) rfl
  have g_deckL := He.glo_ok X G (c.d.fact 0 (f := .glo "_law_deck") rfl)
  obtain ⟨fd_drawL, F_drawL⟩ := c.d.def_ 1 (d := dd_drawL) rfl
  have g_drawL := He.glo_ok X G (c.d.fact 1 (f := .glo "_law_draw") rfl)
  obtain ⟨fd_pickL, F_pickL⟩ := c.d.def_ 2 (d := dd_pickL) rfl
  have g_pickL := He.glo_ok X G (c.d.fact 2 (f := .glo "_law_pick") rfl)
  obtain ⟨fd_nameL, F_nameL⟩ := c.d.def_ 3 (d := dd_nameL) rfl
  have g_nameL := He.glo_ok X G (c.d.fact 3 (f := .glo "_law_name") rfl)
  obtain ⟨fd_namesL, F_namesL⟩ := c.d.def_ 4 (d := dd_namesL) rfl
  have g_namesL := He.glo_ok X G (c.d.fact 4 (f := .glo "_law_names") rfl)
  obtain ⟨fd_is_name, F_is_name⟩ := c.d.def_ 5 (d := dd_is_name) rfl
  have g_is_name := He.glo_ok X G (c.d.fact 5 (f := .glo "is_name") rfl)
  obtain ⟨fd_deed_error, F_deed_error⟩ := c.d.def_ 6 (d := dd_deed_error) rfl
  have g_deed_error := He.glo_ok X G (c.d.fact 6 (f := .glo "deed_error") rfl)
  obtain ⟨fd_oddL, F_oddL⟩ := c.d.def_ 7 (d := dd_oddL) rfl
  have g_oddL := He.glo_ok X G (c.d.fact 7 (f := .glo "_law_odd") rfl)
  obtain ⟨fd_makes, F_makes⟩ := c.d.def_ 8 (d := dd_makes) rfl
  have g_makes := He.glo_ok X G (c.d.fact 8 (f := .glo "makes") rfl)
  obtain ⟨fd_roles, F_roles⟩ := c.d.def_ 9 (d := dd_roles) rfl
  have g_roles := He.glo_ok X G (c.d.fact 9 (f := .glo "roles") rfl)
  obtain ⟨fd_old_names, F_old_names⟩ := c.d.def_ 10 (d := dd_old_names) rfl
  have g_old_names := He.glo_ok X G (c.d.fact 10 (f := .glo "old_names") rfl)
  obtain ⟨fd_new_names, F_new_names⟩ := c.d.def_ 11 (d := dd_new_names) rfl
  have g_new_names := He.glo_ok X G (c.d.fact 11 (f := .glo "new_names") rfl)
  obtain ⟨fd_wordsL, F_wordsL⟩ := c.d.def_ 12 (d := dd_wordsL) rfl
  have g_wordsL := He.glo_ok X G (c.d.fact 12 (f := .glo "_law_words") rfl)
  obtain ⟨fd_some_deedL, F_some_deedL⟩ := c.d.def_ 13 (d := dd_some_deedL) rfl
  have g_some_deedL := He.glo_ok X G (c.d.fact 13 (f := .glo "_law_some_deed") rfl)
  obtain ⟨fd_is_nameL, F_is_nameL⟩ := c.d.def_ 14 (d := dd_is_nameL) rfl
  have g_is_nameL := He.glo_ok X G (c.d.fact 14 (f := .glo "_law_is_name") rfl)
  obtain ⟨fd_deed_errorL, F_deed_errorL⟩ := c.d.def_ 15 (d := dd_deed_errorL) rfl
  have g_deed_errorL := He.glo_ok X G (c.d.fact 15 (f := .glo "_law_deed_error") rfl)
  obtain ⟨fd_odd_deedL, F_odd_deedL⟩ := c.d.def_ 16 (d := dd_odd_deedL) rfl
  have g_odd_deedL := He.glo_ok X G (c.d.fact 16 (f := .glo "_law_odd_deed") rfl)
  obtain ⟨fd_rolesL, F_rolesL⟩ := c.d.def_ 17 (d := dd_rolesL) rfl
  have g_rolesL := He.glo_ok X G (c.d.fact 17 (f := .glo "_law_roles") rfl)
  obtain ⟨fd_script_error, F_script_error⟩ := c.d.def_ 18 (d := dd_script_error) rfl
  have g_script_error := He.glo_ok X G (c.d.fact 18 (f := .glo "script_error") rfl)
  obtain ⟨fd_script_errorL, F_script_errorL⟩ := c.d.def_ 19 (d := dd_script_errorL) rfl
  have g_script_errorL := He.glo_ok X G (c.d.fact 19 (f := .glo "_law_script_error") rfl)
  obtain ⟨fd_nearL, F_nearL⟩ := c.d.def_ 20 (d := dd_nearL) rfl
  have g_nearL := He.glo_ok X G (c.d.fact 20 (f := .glo "_law_near") rfl)
  obtain ⟨fd_law, F_law⟩ := c.d.def_ 21 (d := dd_law) rfl
  have g_law := He.glo_ok X G (c.d.fact 21 (f := .glo "law") rfl)
  have ck := c.test
  simp only [chkD, Bool.and_eq_true] at ck
  obtain ⟨tb_SINGLE, tb_WORDS⟩ := ck
  have T : Tx K mg := ⟨He.free_ok X G (c.d.fact 22 (f := .free "abs") rfl), He.free_ok X G (c.d.fact 23 (f := .free "all") rfl), He.free_ok X G (c.d.fact 24 (f := .free "enumerate") rfl), He.free_ok X G (c.d.fact 25 (f := .free "int") rfl), He.free_ok X G (c.d.fact 26 (f := .free "isinstance") rfl), He.free_ok X G (c.d.fact 27 (f := .free "len") rfl), He.free_ok X G (c.d.fact 28 (f := .free "list") rfl), He.free_ok X G (c.d.fact 29 (f := .free "range") rfl), He.free_ok X G (c.d.fact 30 (f := .free "repr") rfl), He.free_ok X G (c.d.fact 31 (f := .free "sorted") rfl), He.free_ok X G (c.d.fact 32 (f := .free "str") rfl), He.free_ok X G (c.d.fact 33 (f := .free "tuple") rfl), (let ⟨t, e⟩ := He.str_ok X G (c.d.fact 34 (f := .str "LETTERS" "abcdefghijklmnopqrstuvwxyz") rfl); ⟨_, e, t, rfl⟩), (let ⟨t, e⟩ := He.int_ok X G (c.d.fact 35 (f := .int "MAX_DEEDS" 12) rfl); ⟨_, e, t, rfl⟩), (let ⟨t, e⟩ := He.int_ok X G (c.d.fact 36 (f := .int "MAX_LETTERS" 8) rfl); ⟨_, e, t, rfl⟩), (let ⟨t, e⟩ := He.int_ok X G (c.d.fact 37 (f := .int "MAX_NEW" 3) rfl); ⟨_, e, t, rfl⟩), (let ⟨t, e⟩ := He.int_ok X G (c.d.fact 38 (f := .int "MAX_OLD" 4) rfl); ⟨_, e, t, rfl⟩), ⟨_, He.glo_ok X G (c.d.fact 39 (f := .glo "SINGLE") rfl), rfl⟩, fun H => He.tupB_ok tb_SINGLE H, ⟨_, He.glo_ok X G (c.d.fact 40 (f := .glo "WORDS") rfl), rfl⟩, fun H => He.tupB_ok tb_WORDS H, ⟨_, _, F_deckL, g_deckL⟩, ⟨_, _, F_drawL, g_drawL⟩, ⟨_, _, F_pickL, g_pickL⟩, ⟨_, _, F_nameL, g_nameL⟩, ⟨_, _, F_namesL, g_namesL⟩, ⟨_, _, F_is_name, g_is_name⟩, ⟨_, _, F_deed_error, g_deed_error⟩, ⟨_, _, F_oddL, g_oddL⟩, ⟨_, _, F_makes, g_makes⟩, ⟨_, _, F_roles, g_roles⟩, ⟨_, _, F_old_names, g_old_names⟩, ⟨_, _, F_new_names, g_new_names⟩, ⟨_, _, F_wordsL, g_wordsL⟩, ⟨_, _, F_some_deedL, g_some_deedL⟩, ⟨_, _, F_is_nameL, g_is_nameL⟩, ⟨_, _, F_deed_errorL, g_deed_errorL⟩, ⟨_, _, F_odd_deedL, g_odd_deedL⟩, ⟨_, _, F_rolesL, g_rolesL⟩, ⟨_, _, F_script_error, g_script_error⟩, ⟨_, _, F_script_errorL, g_script_errorL⟩, ⟨_, _, F_nearL, g_nearL⟩, ⟨_, _, F_law, g_law⟩⟩
  have e := hfa.symm.trans g_law
  cases e
  have b := FunD.bindsA (ps := ["_law_script"]) F_law fun _ _ _ _ _ _ us hl => match us, hl with | [_], _ => rfl
  exact ⟨fd_law, fun s v => b s [v] rfl, fun base _ _ => ok_all T F_law⟩

end Tw
open PySem PySem.W PySem.Calls PyProof.Rows
set_option maxHeartbeats 0 in
theorem PySem.Challenge.cw_twigscripts_k16_what_is_no_script_holds : PySem.Challenge.rw_twigscripts_k16_what_is_no_script.Holds := by
  w_on; o_law
  refine HandSHeadRun.head_any (r := OpenLaw.row PySem.Challenge.rw_twigscripts_k16_what_is_no_script) (q := view (OpenLaw.row PySem.Challenge.rw_twigscripts_k16_what_is_no_script).prog [31]) (H := Tw.hkD) (ob := Tw.obD) (M := 4000) (loose := Tw.looseD) (d := HandSHeadRun.topDef (OpenLaw.row PySem.Challenge.rw_twigscripts_k16_what_is_no_script).prog 31) (kwd := []) Tw.obD_eq
    (by kernel_rfl) (fun s => by kernel_rfl) Tw.runD (by kernel_rfl) (by kernel_rfl) (by kernel_rfl) (by rfl) (by first | assumption | decide +kernel) (by decide +kernel) ⟨rfl, rfl, rfl, rfl, rfl, by decide +kernel⟩ ?hw ?hc
  case hw => w_witness2
  case hc =>
    refine Tw.walk_ofG (l := PySem.Challenge.rw_twigscripts_k16_what_is_no_script) (n := 63) (k := 5) (x := "_law_script") (CX := L2.CX0) rfl (by decide) (by kernel_rfl) ⟨⟨rfl, by decide, by decide⟩, rfl⟩ ?F (fun _ _ _ _ z => z)
    intro w mg fa h Y G hmg0
    obtain ⟨K, KX, c⟩ := Y
    have hmg : mg ("law" : PySem.Str) = some (.ref fa) := by
      have e : (HandSHeadRun.topDef (OpenLaw.row PySem.Challenge.rw_twigscripts_k16_what_is_no_script).prog 31).name = ("law" : PySem.Str) := by kernel_rfl
      rw [← e]
      exact hmg0
    obtain ⟨fd, hb, hF⟩ := Tw.facts (P := (PySem.Challenge.rw_twigscripts_k16_what_is_no_script).prog) (w := w) KX G hmg c
    exact ⟨K, fd, Tw.sp_law K, KX, hb, fun H a ns hl _ hS => ⟨a, ns, rfl, hS, hl, fun _ => rfl⟩, hF⟩

