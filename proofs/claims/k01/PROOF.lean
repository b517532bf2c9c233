import PyProof.Rows.All
import Wide.All
import OpenK.AllK
import Wide.FinOn
import KE.KStateDown
import KE.DataEq
import Lean
import HandS.ForMost
import HandS.Flow
import HandS.Steps
import HandS.Style
import HandS.IsInst
import HandS.SetKeys
import HandS.TupAny
import HandS.Deep
import HandS.Walk
import HandS.Codes
import HandS.Defaults
import HandS.Head0
import HandS.Head1
import HandS.Head2
import HandS.HeadEnd
import HandS.HeadHook1
import HandS.HeadHook2
import KE.GoesMore
import HandS.FStrTup
import KE.KDictList
import HandS.More
import HandS.Strs
import HandS.NoneIn
import KE.KDictCopyH
import HandS.Lambda
import HandS.TryOnly
import HandS.DictEq
import KE.KDictPairs
import PyProof.Rows.TupTab
import HandS.StrMore
import PySem.Challenge.RW_twigscripts_k01_what_is_no_wood

set_option Elab.async false
set_option linter.all false
set_option maxRecDepth 100000
set_option maxHeartbeats 4000000
/-! names for the readings of the layer's rules -/
namespace Tw
open PySem PySem.Spec PyProof.Rows L2
def rAddI : R2 := rI0 fun i j => .int (i + j)
def rSubI : R2 := rI0 fun i j => .int (i - j)
def rMulI : R2 := rI CMul fun i j => .int (i * j)
def rDivI : R2 := rI CDiv fun i j => .int (i / j)
def rModI : R2 := rI (fun _ j => 0 < j) fun i j => .int (i % j)
def rPowI : R2 := rI CPow fun i j => .int (i ^ j.toNat)
def rLtI : R2 := rI0 fun i j => .bl (decide (i < j))
def rLeI : R2 := rI0 fun i j => .bl (decide (i ≤ j))
def rGtI : R2 := rI0 fun i j => .bl (decide (j < i))
def rGeI : R2 := rI0 fun i j => .bl (decide (j ≤ i))
def rLtS : R2 := fun x y H Q => ∃ i j, x = .str i ∧ y = .str j ∧ Q (.bl (decide (i.cps.toList < j.cps.toList))) H
def rAddS : R2 := fun x y H Q => ∃ i j, x = .str i ∧ y = .str j ∧ i.length + j.length ≤ sizeLine ∧ Q (.str (i ++ j)) H
def rAbs : List V → Hp → VK → Prop := fun xs H Q => ∃ i, xs = [.int i] ∧ Q (.int (if i < 0 then -i else i)) H
def rInt1 : List V → Hp → VK → Prop := fun xs H Q => (∃ i, xs = [.int i] ∧ Q (.int i) H) ∨ ∃ k, xs = [.bl k] ∧ Q (.int (if k then 1 else 0)) H
def rLenD : List V → Hp → VK → Prop := fun xs H Q => ∃ a kvs, xs = [V.ref a] ∧ Rd H a (.dK kvs) ∧ Q (.int kvs.length) H
def rLenV (K : PySem.W.Frag) : List V → Hp → VK → Prop := fun xs H Q => ∃ x n, xs = [x] ∧ LenV K x H n ∧ Q (.int n) H
def rLstOf (K : PySem.W.Frag) : List V → Hp → VK → Prop := fun xs H Q => ∃ p ys, xs = [.ref p] ∧ (SqL K H p ys ∨ SqT K H p ys) ∧ ∀ l, H l = none → Q (.ref l) (upd H l (.lst ys))
def rJoin (K : PySem.W.Frag) : V → List V → Hp → VK → Prop := fun x xs H Q => ∃ a p, ∃ ys : List Str, x = .str a ∧ xs = [.ref p] ∧ (SqL K H p (ys.map V.str) ∨ SqT K H p (ys.map V.str)) ∧ (ys.map (·.length)).sum + ys.length * a.length ≤ 16777216 ∧ Q (.str (Txt.join a ys)) H
def rInsert : V → List V → Hp → VK → Prop := fun x vs H Q => ∃ (l : Addr) (xs : List V) (i : Int) (y : V), x = .ref l ∧ vs = [.int i, y] ∧ H l = some (.lst xs) ∧ xs.length < sizeLine ∧ 0 ≤ i ∧ i < 2 ^ 63 ∧ Q .non (upd H l (.lst (xs.take i.toNat ++ [y] ++ xs.drop i.toNat)))
abbrev tDPut (td ty tv : TE) : TS := sDPut td ty tv
/-! ### a def of the top, called by its name -/
/-- the def st stands at the module's name x -/
def DefAt (K : PySem.W.Frag) (mg : Str → Option Value) (x : Str) (st : Stmt) : Prop := ∃ f fd, FunD K x x (defArgs st) (defBody st) (defScope st) [] [] f fd ∧ mg x = some (.ref f)
section
variable {P : Program} {w : World} {K : PySem.W.Frag} {mg : Str → Option Value} {base : Heap}
/-- a def that may be called by its name (it lets no exception out) -/
structure Cal (P : Program) (w : World) (K : PySem.W.Frag) (mg : Str → Option Value) (base : Heap) (k : Nat) (x : Str) (sp : Sp) : Prop where
  ex : ∃ (f : Addr) (fd : FuncData) (ps : List Str), FnOk P w K mg base CX0 k f fd ps sp ∧ mg x = some (.ref f) ∧ PySem.W.keepIn K (.ref f) = true ∧ Binds K fd ps []
theorem cal_of {x : Str} {st : Stmt} {N ps : List Str} {k : Nat} {sp : Sp} (D : DefAt K mg x st)
    (hb : ∀ (kV doc pm : Value) (an : Option Addr) (cdv ct : Value) (us : List Value), us.length = ps.length → bindArgs (PySem.W.fnOf x x (defArgs st) (defBody st) (defScope st) .none kV doc pm an cdv ct) ⟨us, []⟩ = pure (ps.zip us))
    (S : FnScope N ps (defScope st)) (len : ∀ vs H Q E, sp vs H Q E → vs.length = ps.length) {t : TS}
    (body : ∀ (cdv : Value) (f : Addr) (A : Around) (outer : List Env) (s : Shared) (H : Hp) (E : XK), Room k (A.deeper (envOfC x (defScope st) s.heap.objs.size f cdv)) →
      PSs (cxOf CX0 P w K mg base N x (defScope st) f cdv A outer s H E).nox (defBody st) t)
    (pure_ : ∀ (vs : List V) (H : Hp) (Q : VK) (E : XK), sp vs H Q E → t { nx := fun _ H' => Q .non H', rt := Q } (start N vs) H) : Cal P w K mg base (k + 1) x sp := by
  obtain ⟨f, fd, F, g⟩ := D
  exact ⟨f, fd, ps, F.ok S len fun cdv A outer s H vs Q E hr h => ⟨t, (body cdv f A outer s H E hr).nox, pure_ vs H Q E h⟩, g, F.kp, F.bindsN hb⟩
/-- a promise that is never asked for -/
theorem cal_false {x : Str} {st : Stmt} {ps : List Str} {k : Nat} {sp : Sp} (D : DefAt K mg x st)
    (hb : ∀ (kV doc pm : Value) (an : Option Addr) (cdv ct : Value) (us : List Value), us.length = ps.length → bindArgs (PySem.W.fnOf x x (defArgs st) (defBody st) (defScope st) .none kV doc pm an cdv ct) ⟨us, []⟩ = pure (ps.zip us))
    (no : ∀ vs H Q E, sp vs H Q E → False) : Cal P w K mg base k x sp := by
  obtain ⟨f, fd, F, g⟩ := D
  exact ⟨f, fd, ps, ⟨fun vs H Q E h => (no vs H Q E h).elim, fun A outer s H args us vs Q E _ _ _ _ h => (no vs H Q E h).elim⟩, g, F.kp, F.bindsN hb⟩
end
section
variable {X : Cx} {k j : Nat} {x : Str} {sp : Sp} {p pos : Pos} {e : Expr} {es : List Expr} {t : TA}
theorem pe_c (c : Cal X.prog X.w X.K X.mg X.base k x sp) (hr : Room j X.A) (hk : k ≤ j) (hg : Gl X x) (ha : PA X (e :: es) t)
    (hdb : (x == ("__debug__" : Str)) = false := by decide) (he : starEach (e :: es) X.env = (false, eval e X.env) :: starEach es X.env := by rfl) (hpl : (backTo pos (starEach es X.env)).any (·.1) = false := by rfl) :
    PE X (.Call (.Name x p) (e :: es) [] pos) (tCall sp [] E0 t) := by
  obtain ⟨f, fd, ps, F, hm, kp, b⟩ := c.ex
  exact pe_call F (hr.mono hk) hg hm kp b .nil pass0 ha hdb he hpl
/-- a module's constant -/
theorem pe_gc {v : V} (hg : Gl X x) (h : ∃ u, X.mg x = some u ∧ RelV v u) (hd : (x == ("__debug__" : Str)) = false := by decide) : PE X (.Name x pos) (tC v) := by
  obtain ⟨u, hm, r⟩ := h
  exact pe_glob hg hm r hd
end
/-! ### text * int -/
def rRepS : R2 := fun x y H Q => ∃ (z : Str) (n : Int), x = .str z ∧ y = .int n ∧ MulOk z n ∧ Q (.str (Txt.mul z n)) H
theorem op_repS {X : Cx} : OpR X (binaryOp .Mult) rRepS := by
  intro pins s σ H x y v u Q I rx ry h
  obtain ⟨z, n, rfl, rfl, ok, q⟩ := h
  obtain ⟨t, rfl⟩ := rx
  obtain ⟨t', rfl⟩ := ry
  obtain ⟨hp, g, d, tk, os⟩ := s
  exact SB.mul ok fun t2 k => ⟨.str _, H, I.tok _, ⟨_, rfl⟩, q⟩
/-! ### a text against a dict -/
theorem str_eq_declines_dict (b : Str) (u : Tok) (l : Addr) (o : Obj) (es : Array DictEntry) (n : Nat) (hd : o.data = .dict es n) (hc : o.cls = .type "dict") :
    Meets (Builtin.«str.__eq__» ⟨[.str b u, .ref l], []⟩) (fun _ R s => s.heap.get? l = some o ∧ R (.ok (.ret .notImplemented)) s) :=
  .of_wp fun prog w A R s h => by
    obtain ⟨hp, g, d, tk, os⟩ := s
    obtain ⟨hl, h⟩ := h
    obtain ⟨c, dd, dt, sl⟩ := o
    simp only at hd hc
    subst hd hc
    wp_walk using wpAny_loadPart' hl, wpAny_load hl
    exact ⟨_, rfl, h⟩
theorem dict_eq_declines_str (l : Addr) (o : Obj) (es : Array DictEntry) (n : Nat) (hd : o.data = .dict es n) (hc : o.cls = .type "dict") (b : Str) (u : Tok) :
    Meets (Builtin.«dict.__eq__» ⟨[.ref l, .str b u], []⟩) (fun _ R s => s.heap.get? l = some o ∧ R (.ok (.ret .notImplemented)) s) :=
  .of_wp fun prog w A R s h => by
    obtain ⟨hp, g, d, tk, os⟩ := s
    obtain ⟨hl, h⟩ := h
    obtain ⟨c, dd, dt, sl⟩ := o
    simp only at hd hc
    subst hd hc
    have f1 := F.sub_str_dict
    wp_walk using wpAny_loadPart' hl
    exact ⟨_, rfl, h⟩
section
variable {A : Around} {s : Shared}
theorem rc_str_dict {l : Addr} {o : Obj} (b : Str) (u : Tok) (es : Array DictEntry) (n : Nat) (ho : s.heap.get? l = some o) (hc : o.cls = .type "dict") (hd : o.data = .dict es n) (hu : A.units < cLine) : SeqAt.RcAt A s (.str b u) (.ref l) false := fun prog w E Q h =>
  SeqAt.rc_eq_decline_or (k := false) (typeIs_str s b u) ⟨_, ho, hc⟩ (by decide) F.sub_dict_str F.slot_str_eq F.slot_dict_eq_refl
    (fun _ hq => call_meets F.slot_str_eq (typeIs_str s b u) F.entry_str_eq (F.args_str_eq_2 _ _) (str_eq_declines_dict b u l o es n hd hc) ⟨ho, hq⟩)
    (fun _ hq => call_meets F.slot_dict_eq_refl ⟨_, ho, hc⟩ F.entry_dict_eq (F.args_dict_eq_2 _ _) (dict_eq_declines_str l o es n hd hc b u) ⟨ho, hq⟩)
    (fun _ hq => wpAny_of_eq (rfl : isSame (.str b u) (.ref l) = pure false) hq) (.inr hu) h
theorem eqAt_str_dict {l : Addr} {o : Obj} (b : Str) (u : Tok) (es : Array DictEntry) (n : Nat) (ho : s.heap.get? l = some o) (hc : o.cls = .type "dict") (hd : o.data = .dict es n) (hu : A.units < cLine) : SeqAt.EqAt A s (.str b u) (.ref l) false := fun prog w E Q h => by
  unfold eqBool
  refine wpAny_holding ?_
  refine wpAny_ite_split (fun hab => absurd (eq_of_beq hab) nofun) (fun _ => ?_)
  exact wpAny_bind (rc_str_dict b u es n ho hc hd hu prog w E _ (wpAny_truthy_bool h))
end
/-! ### any value, and whether it stands in a row of texts -/
inductive AV (K : PySem.W.Frag) (H : Hp) : V → Prop
  | non : AV K H .non
  | bl (b : Bool) : AV K H (.bl b)
  | int (i : Int) : AV K H (.int i)
  | str (x : Str) (sz : x.length ≤ sizeLine) : AV K H (.str x)
  | lst {a : Addr} {xs : List V} (h : SqL K H a xs) : AV K H (.ref a)
  | tup {a : Addr} {xs : List V} (h : SqT K H a xs) : AV K H (.ref a)
  | dct {a : Addr} {kvs : List (Key × V)} (h : Rd H a (.dK kvs)) : AV K H (.ref a)
def inA (x : V) (ss : List Str) : Bool := match x with
  | .str z => ss.contains z
  | _ => false
def rInA (K : PySem.W.Frag) (neg : Bool) : R2 := fun x y H Q => ∃ p ss, y = .ref p ∧ (SqL K H p (ss.map V.str) ∨ SqT K H p (ss.map V.str)) ∧ AV K H x ∧ Q (.bl (if neg then !inA x ss else inA x ss)) H
def eqA (x : V) (u : Value) : Bool := match x, u with
  | .str z, .str y _ => y == z
  | _, _ => false
theorem any_eqA {x : V} : ∀ {ss : List Str} {us : List Value}, Vals (ss.map V.str) us → us.any (eqA x) = inA x ss
  | [], _, .nil => by cases x <;> rfl
  | z :: ss, _, .cons ⟨t, e⟩ r => by
    subst e
    rw [List.any_cons, any_eqA r]
    cases x with
    | str y =>
      show (z == y || ss.contains y) = (z :: ss).contains y
      rw [List.contains_cons]
      congr 1
      rw [Bool.eq_iff_iff, beq_iff_eq, beq_iff_eq]
      exact eq_comm
    | _ => rfl
theorem eqAt_any {X : Cx} {pins : List (Addr × Obj)} {σ : L2.St} {H : Hp} {s : Shared} {A : Around} {x : V} {v : Value} (I : Inv X pins σ H s) (rx : RelV x v) (h : AV X.K H x) (hu : A.units < cLine) :
    ∀ {ss : List Str} {us : List Value}, Vals (ss.map V.str) us → ∀ u ∈ us, SeqAt.EqAt A s u v (eqA x u)
  | [], _, .nil, _, hu' => by cases hu'
  | z :: ss, _, .cons ⟨t, e⟩ r, u, hu' => by
    rcases List.mem_cons.mp hu' with rfl | hm
    · subst e
      cases h with
      | non => cases rx; exact SeqAt.EqAt.str_none z t
      | bl b => cases rx; exact SeqAt.EqAt.str_bool z t b
      | int i => obtain ⟨t', rfl⟩ := rx; exact SeqAt.EqAt.str_int z t i t'
      | str y _ => obtain ⟨t', rfl⟩ := rx; exact SeqAt.EqAt.str_str z t y t'
      | lst h =>
        cases rx
        obtain ⟨its, _, pl, _⟩ := I.list h
        exact SeqAt.EqAt.str_list z t pl.isList hu
      | tup h =>
        cases rx
        obtain ⟨its, _, pl, _⟩ := I.tuple h
        exact SeqAt.EqAt.str_tuple z t pl hu
      | @dct a kvs h =>
        cases rx
        have ok : ObjOk X.prog X.w H s.heap a (.dK kvs) := by
          rcases h with h | ⟨ob, h⟩
          · exact I.hok _ _ h
          · exact (show ObjOk X.prog X.w H s.heap a (.frz ob (.dK kvs)) from I.hok _ _ h).2
        obtain ⟨_, _, _, _, o, es, n, ho, ⟨hc, _⟩, hd, _⟩ := ok
        exact eqAt_str_dict z t es n ho hc hd hu
    · exact eqAt_any I rx h hu r u hm
section
variable {X : Cx}
theorem op_inA (hu : X.A.units + 1 < cLine) : OpR X (compareOp .In) (rInA X.K false) := by
  intro pins s σ H x y v u Q I rx ry h
  obtain ⟨p, ss, rfl, hq, hx, q⟩ := h
  cases ry
  rcases hq with hq | hq
  · obtain ⟨its, r, pl, hz⟩ := I.list hq
    refine SeqAt.in_listAt (eqA x) pl.isList (fun w hw => eqAt_any I rx hx hu r w (by simpa using hw)) ⟨.bl _, H, I, rfl, ?_⟩
    rw [show its.toArray.any (eqA x) = its.any (eqA x) by simp, any_eqA r]
    exact q
  · obtain ⟨its, r, pl, hz⟩ := I.tuple hq
    refine SeqAt.in_tupleAt (eqA x) pl (fun w hw => eqAt_any I rx hx hu r w (by simpa using hw)) ⟨.bl _, H, I, rfl, ?_⟩
    rw [show its.toArray.any (eqA x) = its.any (eqA x) by simp, any_eqA r]
    exact q
theorem op_notInA (hu : X.A.units + 1 < cLine) : OpR X (compareOp .NotIn) (rInA X.K true) := by
  intro pins s σ H x y v u Q I rx ry h
  obtain ⟨p, ss, rfl, hq, hx, q⟩ := h
  cases ry
  rcases hq with hq | hq
  · obtain ⟨its, r, pl, hz⟩ := I.list hq
    refine SeqAt.notIn_listAt (eqA x) pl.isList (fun w hw => eqAt_any I rx hx hu r w (by simpa using hw)) ⟨.bl _, H, I, rfl, ?_⟩
    rw [show its.toArray.any (eqA x) = its.any (eqA x) by simp, any_eqA r]
    exact q
  · obtain ⟨its, r, pl, hz⟩ := I.tuple hq
    refine SeqAt.notIn_tupleAt (eqA x) pl (fun w hw => eqAt_any I rx hx hu r w (by simpa using hw)) ⟨.bl _, H, I, rfl, ?_⟩
    rw [show its.toArray.any (eqA x) = its.any (eqA x) by simp, any_eqA r]
    exact q
end
/-! ### == of a list (tuple) and the empty one -/
def rEqE (K : PySem.W.Frag) : R2 := fun x y H Q => ∃ a b xs, x = .ref a ∧ y = .ref b ∧ ((SqL K H a xs ∧ SqL K H b []) ∨ (SqT K H a xs ∧ SqT K H b [])) ∧ Q (.bl xs.isEmpty) H
def rNeE (K : PySem.W.Frag) : R2 := fun x y H Q => ∃ a b xs, x = .ref a ∧ y = .ref b ∧ ((SqL K H a xs ∧ SqL K H b []) ∨ (SqT K H a xs ∧ SqT K H b [])) ∧ Q (.bl (!xs.isEmpty)) H
theorem vals_nil {us : List Value} (r : Vals [] us) : us = [] := by cases r; rfl
theorem vals_isEmpty {xs : List V} {us : List Value} (r : Vals xs us) : us.isEmpty = xs.isEmpty := by cases r <;> rfl
section
variable {X : Cx}
theorem op_eqE (hu : X.A.units + 1 < cLine) : OpR X (compareOp .Eq) (rEqE X.K) := by
  intro pins s σ H x y v u Q I rx ry h
  obtain ⟨a, b, xs, rfl, rfl, hq, q⟩ := h
  cases rx
  cases ry
  have hu0 : X.A.units < cLine := by omega
  rcases hq with ⟨h1, h2⟩ | ⟨h1, h2⟩
  · obtain ⟨its, r, pl, hz⟩ := I.list h1
    obtain ⟨its2, r2, pl2, hz2⟩ := I.list h2
    have e2 := vals_nil r2
    subst e2
    cases xs with
    | nil =>
      have e1 := vals_nil r
      subst e1
      exact SeqAt.eq_listAt (e := fun _ => true) pl.isList pl2.isList rfl hu0 (fun j h1 => absurd h1 (by simp)) ⟨.bl _, H, I, rfl, q⟩
    | cons x xs =>
      cases r with
      | cons r0 rs => exact SeqAt.eq_list_lengthsAt pl.isList pl2.isList (by simp) hu0 ⟨.bl _, H, I, rfl, q⟩
  · obtain ⟨its, r, pl, hz⟩ := I.tuple h1
    obtain ⟨its2, r2, pl2, hz2⟩ := I.tuple h2
    have e2 := vals_nil r2
    subst e2
    refine SeqAt.eq_tupleAt (e := fun _ => true) pl pl2 hu0 (fun j h1 h2 => absurd h2 (by simp)) ⟨.bl xs.isEmpty, H, I, ?_, q⟩
    have e : ((List.range (min its.toArray.size ([] : List Value).toArray.size)).all (fun _ => true) && its.toArray.size == ([] : List Value).toArray.size) = xs.isEmpty := by
      rw [← vals_isEmpty r]
      cases its <;> simp
    rw [e]
    rfl
theorem op_neE (hu : X.A.units + 1 < cLine) : OpR X (compareOp .NotEq) (rNeE X.K) := by
  intro pins s σ H x y v u Q I rx ry h
  obtain ⟨a, b, xs, rfl, rfl, hq, q⟩ := h
  cases rx
  cases ry
  have hu0 : X.A.units < cLine := by omega
  rcases hq with ⟨h1, h2⟩ | ⟨h1, h2⟩
  · obtain ⟨its, r, pl, hz⟩ := I.list h1
    obtain ⟨its2, r2, pl2, hz2⟩ := I.list h2
    have e2 := vals_nil r2
    subst e2
    cases xs with
    | nil =>
      have e1 := vals_nil r
      subst e1
      exact SeqAt.RcNeAt.lists (e := fun _ => true) pl.isList pl2.isList rfl hu0 (fun j h1 => absurd h1 (by simp)) _ _ _ _ ⟨.bl _, H, I, rfl, q⟩
    | cons x xs =>
      cases r with
      | cons r0 rs => exact SeqAt.RcNeAt.lists_lengths pl.isList pl2.isList (by simp) hu0 _ _ _ _ ⟨.bl _, H, I, rfl, q⟩
  · obtain ⟨its, r, pl, hz⟩ := I.tuple h1
    obtain ⟨its2, r2, pl2, hz2⟩ := I.tuple h2
    have e2 := vals_nil r2
    subst e2
    refine SeqAt.RcNeAt.tuples (e := fun _ => true) pl pl2 hu0 (fun j h1 h2 => absurd h2 (by simp)) _ _ _ _ ⟨.bl (!xs.isEmpty), H, I, ?_, q⟩
    have e : ((List.range (min its.toArray.size ([] : List Value).toArray.size)).all (fun _ => true) && its.toArray.size == ([] : List Value).toArray.size) = xs.isEmpty := by
      rw [← vals_isEmpty r]
      cases its <;> simp
    show Value.bool _ = Value.bool _
    first
      | (rw [e])
      | (congr 1; revert e; cases its <;> simp)
end
/-! ### == of data of any depth up to 180 -/
section
variable {X : Cx}
theorem room_eq {k : Nat} {A : Around} (hr : Room k A) : A.units + 200 < cLine := by
  have := hr.un
  omega
end
/-! ### the head's facts, with a test of one's own -/
abbrev AlX : Type := Bool × He.AlD
def obsX (chk : PySem.W.Frag → Bool) (fa : List He.Fa) (fn : List He.DefD) (K : PySem.W.Frag) : AlX := (chk K, He.obsD fa fn K)
def valX (fn : List He.DefD) : AlX := (true, He.valD fn)
def SaysX (chk : PySem.W.Frag → Bool) (fa : List He.Fa) (fn : List He.DefD) (K : PySem.W.Frag) : Prop := obsX chk fa fn K = valX fn
def obsXG (n : Nat) (chk : PySem.W.Frag → Bool) (fa : List He.Fa) (fn : List He.DefD) (g : Addr → Option Obj) : AlX := obsX chk fa fn (He.frG g (He.asD g n))
def hookX (n : Nat) (chk : PySem.W.Frag → Bool) (fa : List He.Fa) (fn : List He.DefD) : PySem.W.Hook where
  α := AlX
  obs := fun s => obsXG n chk fa fn s.heap.get?
  val := fun _ => valX fn
  says := fun _ h => ∃ K : PySem.W.Frag, K.In h ∧ SaysX chk fa fn K
  of := fun _ _ e => ⟨_, He.frG_in, e⟩
  keeps := fun _ _ _ ⟨K, hK, c⟩ k => ⟨K, PySem.W.Frag.In.keeps hK k, c⟩
theorem obsXG_eq {n : Nat} {chk : PySem.W.Frag → Bool} {fa : List He.Fa} {fn : List He.DefD} {g : Addr → Option Obj} {s : Shared} (h : ∀ a, g a = s.heap.get? a) : obsXG n chk fa fn g = (hookX n chk fa fn).obs s := by
  have e : g = s.heap.get? := funext h
  rw [e] <;> rfl
section
variable {chk : PySem.W.Frag → Bool} {fa : List He.Fa} {fn : List He.DefD} {K : PySem.W.Frag}
theorem SaysX.d (c : SaysX chk fa fn K) : He.SaysD fa fn K := congrArg (fun z : AlX => z.2) c
theorem SaysX.test (c : SaysX chk fa fn K) : chk K = true := congrArg (fun z : AlX => z.1) c
end
end Tw

namespace Tw
open PySem PySem.Spec PyProof.Rows L2
/-! ### enumerate(tuple) -/
section
variable {prog : Program} {w : World} {A : Around} {E : Value → Shared → Prop} {s : Shared}
end
/-! ### for a, b in e.items(), the dict made by e itself: it stands locked from then on -/
/-! ### xs.extend(tuple) -/
theorem list_extend_tup (l : Addr) (items : Array Value) (n : Nat) (b : Addr) (o : Obj) (items2 : Array Value) (n2 : Nat) (hc : o.cls = .type "tuple") (hd : o.data = .seq items2 n2) (hs0 : ¬(!items.isEmpty && Builtin.List.listTooLong (items.size + items2.size)) = true) (hs1 : items.size ≤ sizeLine) (hs2 : items.size + items2.size ≤ sizeLine + 1) :
    Meets (Builtin.«list.extend» ⟨[.ref l, .ref b], []⟩) (fun _ R s => s.heap.get? l = some { cls := .type "list", dict := none, data := .seq items n, slots := #[] } ∧ s.heap.get? b = some o ∧ R (.ok (.ret Value.none)) { s with heap := s.heap.update l (Obj.mapSeq fun x => x ++ items2), toks := s.toks }) :=
  .of_wp fun prog w A R s h => by
    obtain ⟨hp, g, d, tk, os⟩ := s
    obtain ⟨hl, hb, h⟩ := h
    obtain ⟨c, dd, dt, sl⟩ := o
    simp only at hc hd
    subst hc hd
    have f1 := AutoSeq1.idx_int
    have f2 := AutoSeq1.sub_tuple_tuple
    have f3 := AutoSeq1.sub_list_list
    have f4 := AutoSeq1.sub_tuple_list
    have f5 := AutoSeq1.sub_list_tuple
    have hz' : (items ++ items2).size ≤ sizeLine + 1 := by rw [Array.size_append]; exact hs2
    wp_walk using (wpAny_updateSeq hl rfl (hz := hs1) (_hz' := hz')), AutoSeq1.wpAny_loadPart' hl, AutoSeq1.wpAny_loadPart' hb
    exact ⟨_, rfl, h⟩
def rExtendT (K : PySem.W.Frag) : V → List V → Hp → VK → Prop := fun x vs H Q => ∃ l b xs zs, x = .ref l ∧ vs = [.ref b] ∧ H l = some (.lst xs) ∧ SqT K H b zs ∧ xs.length + zs.length ≤ sizeLine ∧ Q .non (upd H l (.lst (xs ++ zs)))
theorem mt_extendT {X : Cx} : MtR X "list.extend" (rExtendT X.K) := by
  intro pins s σ H x vs v us Q I rx rv h
  obtain ⟨l, b, xs, zs, rfl, rfl, hH, hB, hz, q⟩ := h
  cases rx
  obtain ⟨u, rfl, ru⟩ := rv.one
  cases ru
  obtain ⟨z, its, n, r, hl, e⟩ := I.lstM hH
  obtain ⟨its2, r2, ⟨o, ho, hc, n2, hd⟩, hz2⟩ := I.tuple hB
  have hl2 := r2.length
  have hsz : its.toArray.size + its2.toArray.size ≤ sizeLine := by rw [List.size_toArray, List.size_toArray]; omega
  have hlong : ¬ (!its.toArray.isEmpty && Builtin.List.listTooLong (its.toArray.size + its2.toArray.size)) = true := by
    rw [notLongL hsz, Bool.and_false]
    exact Bool.false_ne_true
  refine call_meets F.slot_list_extend ⟨_, e, rfl⟩ F.entry_list_extend (F.args_list_extend_2 _ _)
    (list_extend_tup l its.toArray n b o its2.toArray n2 hc hd hlong (by rw [List.size_toArray]; omega) (by omega)) ⟨e, ho, ?_⟩
  refine ⟨.non, _, I.lset (its' := its ++ its2) hH e (by simp) (r.append r2) ?_, rfl, q⟩
  rw [List.length_append]
  omega
/-! ### t[::-1] -/
theorem adjust_rev (n : Nat) : Builtin.Slice.sliceAdjust none none (-1) (n : Int) = ((n : Int) - 1, -1) := by
  unfold Builtin.Slice.sliceAdjust
  simp
theorem places_rev (n : Nat) : Builtin.Slice.slicePlaces ((n : Int) - 1) (-1) (-1) = n := by
  unfold Builtin.Slice.slicePlaces
  rw [if_neg (by decide)]
  by_cases h : (n : Int) - 1 > -1
  · rw [if_pos h, show (- -1 : Int) = 1 by decide, Int.ediv_one]
    omega
  · rw [if_neg h]
    omega
theorem filterMap_same {α β : Type} {f g : α → Option β} : ∀ {l : List α}, (∀ k ∈ l, f k = g k) → l.filterMap f = l.filterMap g
  | [], _ => rfl
  | k :: r, h => by
    rw [List.filterMap_cons, List.filterMap_cons, h k List.mem_cons_self, filterMap_same fun j hj => h j (List.mem_cons_of_mem _ hj)]
theorem pick_rev (xs : Array Value) : ((List.range xs.size).filterMap fun (k : Nat) => xs[((xs.size : Int) - 1 + (k : Int) * (-1)).toNat]?).toArray = xs.toList.reverse.toArray := by
  have e : (List.range xs.size).filterMap (fun (k : Nat) => xs[((xs.size : Int) - 1 + (k : Int) * (-1)).toNat]?) = ((List.range xs.size).map fun k => xs.size - 1 - k).filterMap (xs[·]?) := by
    rw [List.filterMap_map]
    refine filterMap_same fun k hk => ?_
    have := List.mem_range.mp hk
    have e2 : ((xs.size : Int) - 1 + (k : Int) * (-1)).toNat = xs.size - 1 - k := by omega
    rw [e2]
    rfl
  rw [e, PySem.W.krv_range, List.filterMap_reverse, PySem.W.krv_all]
section
variable {prog : Program} {w : World} {A : Around} {E : Value → Shared → Prop} {s : Shared}
theorem sliceApplied_rev {sl : Addr} {vs : Value} {n : Nat} {Q : Int × Int × Nat → Shared → Prop} (hs : s.heap.IsSliceOf sl .none .none vs) (ps : IsPart vs (some (-1)))
    (h : Q ((n : Int) - 1, -1, n) s) : wpAny (model prog w) A (Builtin.Slice.sliceApplied (.ref sl) (pure (n : Int))) Q E s := by
  obtain ⟨os, hos, hcs, hds⟩ := id hs
  unfold Builtin.Slice.sliceApplied Builtin.Slice.sliceFields
  refine wpAny_bind (wpAny_bind (wpAny_field hos hds (x := .none) rfl (wpAny_bind (wpAny_field hos hds (x := .none) rfl (wpAny_bind (wpAny_field hos hds (x := vs) rfl (wpAny_pure ?_)))))))
  refine wpAny_bind (HT.slicePart_ ps ?_)
  show wpAny _ _ (if ((-1 : Int) == 0) = true then _ else _) _ _ s
  rw [if_neg (by decide)]
  refine wpAny_bind (slicePart_none (wpAny_bind (slicePart_none (wpAny_bind (wpAny_pure ?_)))))
  show wpAny _ _ (match Builtin.Slice.sliceAdjust none none (-1) (n : Int) with | (lo, hi) => pure (lo, (-1 : Int), Builtin.Slice.slicePlaces lo hi (-1))) _ _ s
  rw [adjust_rev n]
  show wpAny _ _ (pure ((n : Int) - 1, (-1 : Int), Builtin.Slice.slicePlaces ((n : Int) - 1) (-1) (-1))) _ _ s
  rw [places_rev]
  exact wpAny_pure h
theorem getItem_tuple_rev {t sl : Addr} {items : Array Value} {vs : Value} {Q : Value → Shared → Prop} (ht : IsTup s.heap t items) (hs : s.heap.IsSliceOf sl .none .none vs) (ps : IsPart vs (some (-1)))
    (h : Q (.ref s.heap.objs.size) { s with heap := s.heap.push { cls := .type "tuple", data := .seq items.toList.reverse.toArray } })
    (hsz : items.size ≤ sizeLine) : wpAny (model prog w) A (getItem (.ref t) (.ref sl)) Q E s := by
  have htake : sizeOk (.seq items.toList.reverse.toArray) := by
    show items.toList.reverse.toArray.size ≤ sizeLine
    rw [List.size_toArray, List.length_reverse, Array.length_toList]
    exact hsz
  obtain ⟨os, hos, hcs, hds⟩ := id hs
  have hTs : s.TypeIs (.ref sl) "slice" := ⟨os, hos, hcs⟩
  unfold getItem
  try with_reducible refine wpAny_holding ?_
  first | refine wpAny_bind (wpAny_pure ?_) | skip
  refine wpAny_bind (wpAny_sequenceKey ht.typeIs (by decide) ?_)
  refine wpAny_bind (wpAny_callSpecial?_slot (name := Str.ofString "__getitem__") ht.typeIs PyProof.Rows.slot_tuple_getitem
    (wpAny_call_entry PyProof.Rows.slot_tuple_getitem ht.typeIs entry_tuple_getitem ?_ (args_tuple_getitem _ _)))
  show wpAny _ _ (Builtin.Tuple.tupleItemsOf (.ref t) >>= _) _ _ s
  refine wpAny_bind (tupleItemsOf_ ht ?_)
  refine wpAny_bind (wpAny_typeOf hTs ?_)
  rw [if_pos (by decide)]
  refine wpAny_bind (sliceApplied_rev hs ps ?_)
  have hno : ¬ (((items.size : Int) - 1 == 0 && (-1 : Int) == 1 && items.size == items.size) = true) := by
    intro q
    rw [Bool.and_eq_true, Bool.and_eq_true] at q
    exact absurd q.1.2 (by decide)
  show wpAny _ _ (if ((items.size : Int) - 1 == 0 && (-1 : Int) == 1 && items.size == items.size) = true then _ else _) _ _ s
  rw [if_neg hno, pick_rev]
  first
    | exact wpAny_bind (m := Builtin.Tuple.tupleExact _) (wpAny_newObj_type (wpAny_pure ⟨_, rfl, wpAny_pure h⟩) htake)
    | exact wpAny_bind (m := Builtin.Tuple.tupleExact _) (wpAny_newObj_type (wpAny_bind (wpAny_pure (wpAny_pure ⟨_, rfl, wpAny_pure h⟩))) htake)
    | exact wpAny_bind (wpAny_bind (m := Builtin.Tuple.tupleExact _) (wpAny_newObj_type (wpAny_pure (wpAny_pure ⟨_, rfl, wpAny_pure h⟩)) htake))
    | exact wpAny_bind (wpAny_bind (m := Builtin.Tuple.tupleExact _) (wpAny_newObj_type (wpAny_pure ⟨_, rfl, wpAny_pure h⟩) htake))
end
end Tw

namespace Tw
open PySem PySem.Spec PyProof.Rows L2
/-! ### defs that are called while no repr is under way -/
/-- room, and nothing under way -/
structure Rm (k : Nat) (A : Around) : Prop where
  rm : Room k A
  gd : A.guards = some []
theorem Rm.mono {j k : Nat} {A : Around} (r : Rm k A) (h : j ≤ k) : Rm j A := ⟨r.rm.mono h, r.gd⟩
theorem Rm.deep {k : Nat} {A : Around} (r : Rm (k + 1) A) (env : Env) : Rm k (A.deeper env) := ⟨r.rm.deeper env, r.gd⟩
structure FnG (P : Program) (w : World) (K : PySem.W.Frag) (mg : Str → Option Value) (base : Heap) (CX : CXT) (k : Nat) (f : Addr) (fd : FuncData) (ps : List Str) (sp : Sp) : Prop where
  ln : ∀ vs H Q E, sp vs H Q E → vs.length = ps.length
  go : ∀ (A : Around) (outer : List Env) (s : Shared) (H : Hp) (args : Args) (us : List Value) (vs : List V) (Q : VK) (E : XK), Rm k A → Env0 P w K mg base A outer s H → BindsTo s fd args (ps.zip us) → Vals vs us → sp vs H Q E →
    codeAny (model P w) A (.call (.ref f) args) (CR CX outer P w H s Q E) s
section
variable {P : Program} {w : World} {K : PySem.W.Frag} {mg : Str → Option Value} {base : Heap} {CX : CXT} {k : Nat} {f : Addr} {fd : FuncData} {N ps : List Str} {sp : Sp}
theorem FnG.mono {j : Nat} (F : FnG P w K mg base CX j f fd ps sp) (h : j ≤ k) : FnG P w K mg base CX k f fd ps sp :=
  ⟨F.ln, fun A outer s H args us vs Q E r => F.go A outer s H args us vs Q E (r.mono h)⟩
theorem FnG.imp {sp' : Sp} (F : FnG P w K mg base CX k f fd ps sp) (h : ∀ vs H Q E, sp' vs H Q E → sp vs H Q E) : FnG P w K mg base CX k f fd ps sp' :=
  ⟨fun vs H Q E q => F.ln vs H Q E (h vs H Q E q), fun A outer s H args us vs Q E r e b v q => F.go A outer s H args us vs Q E r e b v (h vs H Q E q)⟩
theorem fnG_of {name qual : Str} {params : Arguments} {body : List Stmt} {scope : Scope} {dV kV doc pm cdv ct oc : Value} {an od : Option Addr} {osl : Array (Option Value)}
    (lk : K.lookup f = some ⟨oc, od, .func (PySem.W.fnOf name qual params body scope dV kV doc pm an cdv ct), osl⟩) (hcd : PySem.W.codeIn K cdv qual = true) (S : FnScope N ps scope) (ln : ∀ vs H Q E, sp vs H Q E → vs.length = ps.length)
    (hbody : ∀ (A : Around) (outer : List Env) (s : Shared) (H : Hp) (vs : List V) (Q : VK) (E : XK), Rm k (A.deeper (envOfC qual scope s.heap.objs.size f cdv)) → sp vs H Q E →
      ∃ t, PSs (cxOf CX P w K mg base N qual scope f cdv A outer s H E) body t ∧ t { nx := fun _ H' => Q .non H', rt := Q } (start N vs) H) :
    FnG P w K mg base CX (k + 1) f (PySem.W.fnOf name qual params body scope dV kV doc pm an cdv ct) ps sp := by
  constructor
  · exact ln
  intro A outer s H args us vs Q E rm env0 hbind rv hsp
  have vl := ln _ _ _ _ hsp
  have kin : K.In s.heap := env0.mod.kin.keeps fun z y q => (env0.bs z y q).1
  have nol : s.heap.NoLimit := env0.mod.nolimit.keeps fun z y q => (env0.bs z y q).1
  have kinds : ∀ z ∈ ps.zip us, scope.names.lookup z.1 = some .local ∨ (scope.names.lookup z.1 = some .cell ∧ ((cellsFrom (s.heap.objs.size + 1) scope.names []).lookup z.1).isSome = true) := by
    rintro ⟨n, v⟩ hz
    exact (S.par n (List.of_mem_zip hz).1).imp id fun c => ⟨c, PySem.W.cellsFrom_some _ _ _ (.inl c)⟩
  refine codeAny_call_function rm.rm.depth (kin _ _ lk) rfl S.co S.gen rfl (PySem.W.codeRec_of kin hcd) ?_
  refine hbind _ _ _ _ (wpAny_newFunctionEnv_cells S.kind kinds ?_)
  rintro env rfl s1 x
  obtain ⟨t, der, prem⟩ := hbody A outer s H vs Q E (rm.deep _) hsp
  have inv : Inv (cxOf CX P w K mg base N qual scope f cdv A outer s H E) [] (start N vs) H s1 := inv_start S rm.rm.hd env0 vl rv x
  refine ⟨nol.keeps x.toInCall.keep, codeAny_func (wpAny_mono (der.run [] s1 (start N vs) H _ inv prem) ?_ fun _ _ q => q)⟩
  intro fl s' hs
  cases fl with
  | brk => exact absurd hs fun ⟨_, _, _, q⟩ => q
  | cont => exact absurd hs fun ⟨_, _, _, q⟩ => q
  | next =>
    obtain ⟨_, H', J, q⟩ := hs
    exact ⟨V.non, H', J.os, J.bare, J.base, J.hok, rfl, q⟩
  | ret u =>
    obtain ⟨v, _, H', J, rv, q⟩ := hs
    exact ⟨v, H', J.os, J.bare, J.base, J.hok, rv, q⟩
theorem funD_okG {x qual : Str} {params : Arguments} {body : List Stmt} {scope : Scope} (F : FunD K x qual params body scope [] [] f fd) (S : FnScope N ps scope) (ln : ∀ vs H Q E, sp vs H Q E → vs.length = ps.length)
    (hbody : ∀ (cdv : Value) (A : Around) (outer : List Env) (s : Shared) (H : Hp) (vs : List V) (Q : VK) (E : XK), Rm k (A.deeper (envOfC qual scope s.heap.objs.size f cdv)) → sp vs H Q E →
      ∃ t, PSs (cxOf CX P w K mg base N qual scope f cdv A outer s H E) body t ∧ t { nx := fun _ H' => Q .non H', rt := Q } (start N vs) H) : FnG P w K mg base CX (k + 1) f fd ps sp := by
  obtain ⟨oc, od, dV, kV, doc, pm, an, cdv, ct, osl, rfl, lk, hcd, _, _⟩ := F.ex
  exact fnG_of lk hcd S ln (hbody cdv)
end
section
variable {X : Cx} {CX : CXT} {k : Nat} {f : Addr} {fd : FuncData} {ps : List Str} {sp : Sp} {E : XK} {x : Str} {p pos : Pos} {e : Expr} {es : List Expr} {t : TA}
end
/-! ### the law, called by the claim's caller -/
theorem law_callG {P : Program} {w : World} {K : PySem.W.Frag} {mg mb : Str → Option Value} {CX : CXT} {k : Nat} {fa a : Addr} {fd : FuncData} {x : Str} {sp : Sp} {s₁ : Shared} {vs : List Value} {ns : List Int}
    (kin : K.In s₁.heap) (gns : s₁.heap.Ns mainGlobals mg) (bns : s₁.heap.Ns builtinsNs mb) (bmb : ∀ x : Str, x ≠ "__name__" → mb x = bootBuiltins x) (nol : s₁.heap.NoLimit) (g0 : s₁.gens = #[])
    (ha : s₁.heap.get? a = some { cls := .type "list", data := .seq vs.toArray }) (ia : IntsAre vs ns) (few : ns.length ≤ sizeLine) (rm : Rm k callerA)
    (F : ∀ base : Heap, K.In base → base.Ns mainGlobals mg → FnG P w K mg base CX k fa fd [x] sp) (bnd : ∀ (s : Shared) (u : Value), BindsTo s fd ⟨[u], []⟩ [(x, u)])
    (hsp : ∀ H : Hp, Only H → SqL K H a (ns.map V.int) → sp [.ref a] H (fun v _ => v = .bl true) fun _ _ _ => False) (nox : ∀ H e s', CX [] H s₁ (fun _ _ _ => False) e s' → False) :
    codeAny (model P w) callerA (.call (.ref fa) ⟨[.ref a], []⟩) (fun r s' => r = .ok (.ret (.bool true)) ∧ OldK s₁.heap s'.heap ∧ s'.os = s₁.os ∧ AllBare s'.gens) s₁ := by
  have ia' := vals_ints ia
  have len := ia.length
  have main : ∀ H : Hp, Only H ∧ SqL K H a (ns.map V.int) ∧ HOk P w H s₁.heap ∧ (∀ b, H b ≠ none → b = a ∧ K.lookup a = none) →
      codeAny (model P w) callerA (.call (.ref fa) ⟨[.ref a], []⟩) (fun r s' => r = .ok (.ret (.bool true)) ∧ OldK s₁.heap s'.heap ∧ s'.os = s₁.os ∧ AllBare s'.gens) s₁ := by
    rintro H ⟨hO, hS, hok, hA⟩
    have un : ∀ b, b ≠ a → H b = none := fun b n => Classical.byContradiction fun z => n (hA b z).1
    have keep : ∀ {b : Addr} {o : Obj}, s₁.heap.get? b = some o → b ≠ a ∨ K.lookup a ≠ none → (hidT s₁.heap H).get? b = some o := fun {b o} e z => hidT_get e (by
      rcases z with z | z
      · exact un b z
      · exact Classical.byContradiction fun y => z (hA b y).2)
    have nsk : ∀ {b : Addr} {m : Str → Option Value}, s₁.heap.Ns b m → (hidT s₁.heap H).Ns b m := by
      rintro b m ⟨o, es, ep, e, d, r⟩
      refine ⟨o, es, ep, keep e (.inl ?_), d, r⟩
      rintro rfl
      have z := ha.symm.trans e
      cases z
      cases d
    have kin' : K.In (hidT s₁.heap H) := fun b o e => keep (kin b o e) (by
      by_cases z : b = a
      · subst z
        exact .inr (by rw [e]; simp)
      · exact .inl z)
    obtain ⟨mc, l1, l2⟩ := nol
    have env : Env0 P w K mg (hidT s₁.heap H) callerA [] s₁ H :=
      { frames := rfl, mod := ⟨kin', nsk gns, ⟨mb, nsk bns, bmb⟩, mc, nsk l1, l2⟩, bs := fun b o e => of_hidT e, bsz := Nat.le_of_eq (hidT_size _ _), funs := trivial, frf := (fun b z => nomatch z), hok := hok, bare := .of_eq g0 }
    have run := (F _ kin' (nsk gns)).go callerA [] s₁ H ⟨[.ref a], []⟩ [.ref a] [.ref a] _ _ rm env (bnd s₁ (.ref a)) (.cons rfl .nil) (hsp H hO hS)
    refine codeAny_mono run ?_
    intro r s' q
    match r, q with
    | .error e, q => exact (nox H e s' q).elim
    | .ok (.ret u), q =>
      obtain ⟨v, H', os, bare, un', hok', rv, qv⟩ := q
      have qv' : v = .bl true := qv
      subst qv'
      have ru : u = Value.bool true := rv
      subst ru
      refine ⟨rfl, OldK.of_keep ?_, os, bare⟩
      intro b o e
      rcases hO b with z | ⟨ob, xs, z⟩
      · exact un'.keep b o e z (fun y => nomatch y) (fun y => nomatch y)
      · have e1 := (hok b _ z).1
        have e2 := (hok' b _ (un'.frzs b ob _ z)).1
        exact e2.trans (e1.symm.trans e)
  by_cases hk : K.lookup a = none
  · refine main (fun b => if b = a then some (.frz { cls := .type "list", data := .seq vs.toArray } (.lst (ns.map V.int))) else none) ⟨fun b => ?_, .inl (.inr ⟨{ cls := .type "list", data := .seq vs.toArray }, if_pos rfl⟩), fun b u z => ?_, fun b z => ?_⟩
    · by_cases y : b = a
      · exact .inr ⟨_, _, if_pos y⟩
      · exact .inl (if_neg y)
    · by_cases y : b = a
      · subst y
        have z' := (if_pos rfl).symm.trans z
        cases z'
        exact ⟨ha, by rw [List.length_map]; exact few, vs, _, ia', ha⟩
      · exact nomatch ((if_neg y).symm.trans z)
    · by_cases y : b = a
      · exact ⟨y, hk⟩
      · exact absurd (if_neg y) z
  · obtain ⟨o, ho⟩ := Option.ne_none_iff_exists'.mp hk
    have z := ha.symm.trans (kin a o ho)
    cases z
    exact main (fun _ => none) ⟨fun _ => .inl rfl, .inr ⟨_, vs.toArray, _, ho, rfl, rfl, rfl, by rw [List.size_toArray, len]; exact few, by simpa using ia'⟩, (fun b u z => nomatch (show (none : Option HO) = some u from z)), fun b z => absurd rfl z⟩
theorem walk_ofG {l : PySem.W.OpenLaw} {n k : Nat} {q : Program} {loose : List Str} {XP : (Str → Option Value) → Heap → Prop} {YP : World → Heap → Prop} {d : DefRec} {CX : CXT} {x : Str}
    (hn : l.most = some n) (small : n ≤ sizeLine) (nodef : d.params.defaults = []) (rm : Rm k callerA)
    (F : ∀ (w : World) (mg : Str → Option Value) (fa : Addr) (h : Heap), YP w h → h.Ns mainGlobals mg → mg d.name = some (.ref fa) →
      ∃ (K : PySem.W.Frag) (fd : FuncData) (sp : Sp), K.In h ∧ (∀ (s : Shared) (u : Value), BindsTo s fd ⟨[u], []⟩ [(x, u)]) ∧
        (∀ (H : Hp) (a : Addr) (ns : List Int), ns.length ≤ n → Only H → SqL K H a (ns.map V.int) → sp [.ref a] H (fun v _ => v = .bl true) fun _ _ _ => False) ∧
        ∀ base : Heap, K.In base → base.Ns mainGlobals mg → FnG l.prog w K mg base CX k fa fd [x] sp)
    (nox : ∀ (H : Hp) (s : Shared) (e : Value) (s' : Shared), CX [] H s (fun _ _ _ => False) e s' → False) :
    PySem.W.WalkO q loose XP YP l.row.toRowW d [] (fun f vs => PySem.call f vs) := by
  refine Att.attach_call hn nodef ?_
  intro w s₀ s₁ mg mb fa o pm cd doc a vs ns G Y ho hd hcd hmg hobj hints hlen hg
  obtain ⟨K, fd, sp, kin, bnd, hsp, hF⟩ := F w mg fa _ Y G.T.g hmg
  exact law_callG kin G.T.g G.T.b G.T.builtins G.T.nolimit hg hobj hints (Nat.le_trans hlen small) rm hF bnd (fun H hO hS => hsp H a ns hlen hO hS) fun H e s' => nox H s₁ e s'
end Tw

namespace Tw
open PySem PySem.Spec PyProof.Rows L2
/-! ### repr of data -/
mutual
/-- what the text of data may come to -/
def costD : PyData → Nat
  | .none => 4
  | .bool _ => 5
  | .int _ => 1921
  | .str x => (reprText x).length
  | .list xs => costAll xs + 5
  | .tuple xs => costAll xs + 5
  | .dict _ => 0
def costAll : List PyData → Nat
  | [] => 0
  | x :: xs => costD x + 2 + costAll xs
end
mutual
theorem shown_le : ∀ d : PyData, d.showable = true → d.hasDict = false → d.shown.length ≤ costD d
  | .none, _, _ => by
    show (("None" : String) : Str).length ≤ 4
    decide +kernel
  | .bool true, _, _ => by
    show (("True" : String) : Str).length ≤ 5
    decide +kernel
  | .bool false, _, _ => by
    show (("False" : String) : Str).length ≤ 5
    decide +kernel
  | .int i, h, _ => int_text_len_1921 (of_decide_eq_true h)
  | .str x, _, _ => Nat.le_refl _
  | .list xs, h, n => by
    have q := shownAll_le xs h n
    show (listText (PyData.shownAll xs)).length ≤ costAll xs + 5
    have l := listText_len_le (PyData.shownAll xs)
    omega
  | .tuple xs, h, n => by
    have q := shownAll_le xs h n
    show (tupleText (PyData.shownAll xs)).length ≤ costAll xs + 5
    have l := fmt_text (PyData.shownAll xs)
    have e : piled (PyData.shownAll xs) = ((PyData.shownAll xs).map (·.length)).sum + 2 * (PyData.shownAll xs).length := piled_sum _
    omega
  | .dict _, _, n => nomatch n
theorem shownAll_le : ∀ xs : List PyData, PyData.showableAll xs = true → PyData.hasDictAll xs = false → ((PyData.shownAll xs).map (·.length)).sum + 2 * (PyData.shownAll xs).length ≤ costAll xs
  | [], _, _ => Nat.le_refl _
  | x :: xs, h, n => by
    have h' : (PyData.showable x && PyData.showableAll xs) = true := h
    have n' : (PyData.hasDict x || PyData.hasDictAll xs) = false := n
    rw [Bool.and_eq_true] at h'
    rw [Bool.or_eq_false_iff] at n'
    have q1 := shown_le x h'.1 n'.1
    have q2 := shownAll_le xs h'.2 n'.2
    show ((PyData.shown x :: PyData.shownAll xs).map (·.length)).sum + 2 * (PyData.shown x :: PyData.shownAll xs).length ≤ costD x + 2 + costAll xs
    rw [List.map_cons, List.sum_cons, List.length_cons]
    omega
theorem piled_sum : ∀ ts : List Str, piled ts = (ts.map (·.length)).sum + 2 * ts.length
  | [] => rfl
  | t :: ts => by
    rw [piled_cons, piled_sum ts, List.map_cons, List.sum_cons, List.length_cons]
    omega
end
mutual
theorem dp_nodict {K : PySem.W.Frag} {H : Hp} : ∀ (d : PyData) {x : V}, Dp K H x d → d.hasDict = false
  | .none, _, _ => rfl
  | .bool _, _, _ => rfl
  | .int _, _, _ => rfl
  | .str _, _, _ => rfl
  | .list ds, _, h => by
    cases h with
    | lst _ r => exact dpAll_nodict ds r
  | .tuple ds, _, h => by
    cases h with
    | tup _ r => exact dpAll_nodict ds r
  | .dict _, _, h => by cases h
theorem dpAll_nodict {K : PySem.W.Frag} {H : Hp} : ∀ (ds : List PyData) {xs : List V}, DpAll K H xs ds → PyData.hasDictAll ds = false
  | [], _, _ => rfl
  | d :: ds, _, h => by
    cases h with
    | cons a b =>
      show (PyData.hasDict d || PyData.hasDictAll ds) = false
      rw [dp_nodict d a, dpAll_nodict ds b]
      rfl
end
def rReprP (K : PySem.W.Frag) : List V → Hp → VK → Prop := fun xs H Q => ∃ x d, xs = [x] ∧ Dp K H x d ∧ d.showable = true ∧ d.depth ≤ 150 ∧ costD d ≤ 1000000 ∧ Q (.str d.shown) H
section
variable {X : Cx} {k : Nat}
theorem call_reprP (hr : Rm k X.A) : CallR X (.builtin "repr") (rReprP X.K) := by
  intro pins s σ H xs us Q I r h
  obtain ⟨x, d, rfl, hd, hs, hp, hc, q⟩ := h
  obtain ⟨u, rfl, ru⟩ := vals1 r
  have nd := dp_nodict d hd
  have sz : d.shown.length ≤ sizeLine := by
    have := shown_le d hs nd
    rw [sizeLine_eq]
    omega
  have un := hr.rm.un
  have ref : ∀ a, u = .ref a → wpAny (model X.prog X.w) X.A (call (.builtin "repr") [u]) (EP X pins σ Q) X.xe s := fun a e => by
    subst e
    obtain ⟨as, ra⟩ := Dp.reads I d x (.ref a) hd ru
    exact repr_of_reads' ra hs (fun e => by rw [nd] at e; cases e) hr.gd (by omega) (fun _ _ e => e) (fun h' t tk hk => ⟨.str _, H, I.kept hk, ⟨_, rfl⟩, q⟩) sz
  cases hd with
  | non =>
    obtain rfl : u = .none := ru
    exact PySem.P.repr_of_none ⟨.str _, H, I.tok _, ⟨_, rfl⟩, q⟩
  | bl b =>
    obtain rfl : u = .bool b := ru
    exact PySem.P.repr_of_bool ⟨.str _, H, I.tok _, ⟨_, by cases b <;> rfl⟩, q⟩
  | int i =>
    obtain ⟨t, rfl⟩ := ru
    exact PySem.P.repr_of_int (of_decide_eq_true hs) ⟨.str _, H, I.tok _, ⟨_, rfl⟩, q⟩
  | str z =>
    obtain ⟨t, rfl⟩ := ru
    exact PySem.P.repr_of_str ⟨.str _, H, I.tok _, ⟨_, rfl⟩, q⟩ sz
  | lst _ _ => exact ref _ ru
  | tup _ _ => exact ref _ ru
end
end Tw

namespace Tw
open PySem PySem.Spec PyProof.Rows L2
/-! ### min, max of two ints -/
def rMax2 : List V → Hp → VK → Prop := fun xs H Q => ∃ i j, xs = [.int i, .int j] ∧ Q (.int (if j > i then j else i)) H
/-! ### t.index(text) -/
/-! ### list(d.keys()) -/
def tKeysL (td : TE) : TE := fun σ H Q => td σ H fun x H1 => ∃ d kvs, x = .ref d ∧ H1 d = some (.dK kvs) ∧ ∀ l, H1 l = none → Q (.ref l) (upd H1 l (.lst (kvs.map fun q => kV q.1)))
theorem vals_keys {kvs : List (Key × V)} : ∀ {vs : List Value}, vs.length = kvs.length → (∀ (j : Nat) (v : Value), vs[j]? = some v → ∃ q, kvs[j]? = some q ∧ RelV (kV q.1) v) → Vals (kvs.map fun q => kV q.1) vs := by
  induction kvs with
  | nil =>
    intro vs hl _
    cases vs with
    | nil => exact .nil
    | cons _ _ => cases hl
  | cons q r ih =>
    intro vs hl h
    cases vs with
    | nil => cases hl
    | cons v vs =>
      refine .cons ?_ (ih (by simpa using hl) fun j u hu => by simpa using h (j + 1) u (by simpa using hu))
      obtain ⟨q', e, hr⟩ := h 0 v rfl
      have e' : q = q' := Option.some.inj e
      subst e'
      exact hr
theorem paired_getR {α β : Type} {R : α → β → Prop} : ∀ {xs : List α} {ys : List β} {i : Nat} {y : β}, Paired R xs ys → ys[i]? = some y → ∃ x, xs[i]? = some x ∧ R x y
  | _, _, _, _, .nil, e => by cases e
  | _, _, 0, _, .cons h _, e => ⟨_, rfl, by cases e; exact h⟩
  | _, _, i + 1, _, .cons _ r, e => paired_getR (i := i) r e
section
variable {X : Cx} {e : Expr} {td : TE} {x : Str} {p pos apos cpos : Pos}
theorem pe_listKeys (hc : X.calm = true) (he : PE X e td) (hg : Gl X x) (hm : X.mg x = none) (hv : bootBuiltins x = some (.type "list")) (hn : x ≠ "__name__" := by decide) (hdb : (x == ("__debug__" : Str)) = false := by decide)
    (hst : starEach [.Call (.Attribute e "keys" apos) [] [] cpos] X.env = (false, eval (.Call (.Attribute e "keys" apos) [] [] cpos) X.env) :: starEach [] X.env := by rfl)
    (hbase : attributeBase e "keys" X.env (eval e X.env) = eval e X.env := by rfl) (hline : (apos.endLine == cpos.line) = true := by rfl) :
    PE X (.Call (.Name x p) [.Call (.Attribute e "keys" apos) [] [] cpos] [] pos) (tKeysL td) := by
  constructor
  intro pins s σ H Q I h
  refine wpAny_Call_Name_kw (ld_blt I hg hm hv ?_ hn hdb)
  refine PyProof.Rows.callWith_type1 ?_ hst (by rfl)
  rw [hst]
  show wpAny _ _ (spliced ((false, eval (.Call (.Attribute e "keys" apos) [] [] cpos) X.env) :: backTo pos (starEach [] X.env))) _ _ s
  refine Calls.spliced_cons ?_
  refine wpAny_Call_method (T := "dict") (id := "dict.keys") hbase rfl hline F.plainAttrs_dict F.slot_dict_keys F.type_dict_keys (thn (he.run pins s σ H _ I h) ?_)
  rintro u s1 ⟨y, H1, I1, ru, d, kvs, rfl, hd, q⟩
  have eu : u = Value.ref d := ru
  subst eu
  obtain ⟨z, hs, vs, kv, o', es, ep, ho, hx, hdt, r⟩ := I1.hok d _ hd
  have hD : s1.heap.DictAt (mixKind X.prog X.w) d vs ep := ⟨o', es, ho, hx, hdt, r⟩
  have hl : kvs.length = vs.length := Paired.length kv
  refine ⟨hD.dictOf.typeIs, hD.dictOf.mapOf.noDict, ?_⟩
  have I2 : Inv X pins σ H1 { s1 with heap := s1.heap.push { cls := .type "dict_keys", data := .fields #[.ref d] } } := I1.kept (t' := s1.toks) fun b ob q => Heap.get?_push_of_some _ q
  have fin : wpAny (model X.prog X.w) X.A (call (.type "list") [.ref s1.heap.objs.size]) (EP X pins σ Q) X.xe { s1 with heap := s1.heap.push { cls := .type "dict_keys", data := .fields #[.ref d] } } := by
    refine PySem.W.kdl_call (PySem.W.kdl_keys (knd := mixKind X.prog X.w) (kvs := vs) (ep := ep) (d := d)) (I.ok.hd hc) ⟨⟨_, Heap.get?_push_size _ rfl, rfl, rfl⟩, hD.push _⟩ (by rw [← hl]; exact z) ?_
    intro h' tk acc c' hk hB hit
    have vv : Vals (kvs.map fun q => kV q.1) acc.toList := vals_keys (by rw [Array.length_toList, hl]; exact hit.1) fun j v e => by
      obtain ⟨k, x, hx, hk⟩ := hit.2 j v (by rw [← Array.getElem?_toList]; exact e)
      obtain ⟨q, hq, eq, _⟩ := paired_getR kv hx
      have eq' : q.1 = k := eq
      exact ⟨q, hq, by rw [eq']; exact relV_key hk⟩
    refine ⟨.ref _, _, I2.laid (t' := tk) (a := (s1.heap.push { cls := .type "dict_keys", data := .fields #[.ref d] }).objs.size) hk (Nat.le_refl _) (show ObjOk X.prog X.w _ h' _ (.lst (kvs.map fun q => kV q.1)) from ⟨by rw [List.length_map]; exact z, acc.toList, c', vv, by rw [hB] <;> simp⟩), rfl, q _ ?_⟩
    exact I2.hok.fresh (Nat.le_refl _)
  show wpAny _ _ (callWith cpos (.builtin "dict.keys") [.ref d] [] []) _ X.xe s1
  exact method_meetsIn F.slot_dict_keys F.entry_dict_keys rfl (PySem.evalArgs_none ⟨rfl, hD.dictOf.typeIs, F.args_dict_keys_1 _, _, PySem.W.kdl_meets_keys (mixKind X.prog X.w) d hs, ⟨vs, hD.dictOf⟩, Calls.spliced_nil fin⟩)
end
end Tw

namespace Tw
open PySem PySem.Spec PyProof.Rows L2
/-! ### rules of several kinds in one -/
def orR (r s : R2) : R2 := fun x y H Q => r x y H Q ∨ s x y H Q
theorem op_or {X : Cx} {f : Value → Value → Sem Value} {r s : R2} (h : OpR X f r) (h' : OpR X f s) : OpR X f (orR r s) := by
  intro pins st σ H x y v u Q I rx ry q
  rcases q with q | q
  · exact h pins st σ H x y v u Q I rx ry q
  · exact h' pins st σ H x y v u Q I rx ry q
def orC (r s : List V → Hp → VK → Prop) : List V → Hp → VK → Prop := fun xs H Q => r xs H Q ∨ s xs H Q
theorem cr_or {X : Cx} {f : Value} {r s : List V → Hp → VK → Prop} (h : CallR X f r) (h' : CallR X f s) : CallR X f (orC r s) := by
  intro pins st σ H xs us Q I r q
  rcases q with q | q
  · exact h pins st σ H xs us Q I r q
  · exact h' pins st σ H xs us Q I r q
/-- == of plain data, one of both not too deep -/
def rEqM (K : PySem.W.Frag) : R2 := fun x y H Q => ∃ d e, Dp K H x d ∧ Dp K H y e ∧ d.plain = true ∧ e.plain = true ∧ min d.depth e.depth ≤ 190 ∧ Q (.bl (PyData.eqv d e)) H
def rNeM (K : PySem.W.Frag) : R2 := fun x y H Q => ∃ d e, Dp K H x d ∧ Dp K H y e ∧ d.plain = true ∧ e.plain = true ∧ min d.depth e.depth ≤ 190 ∧ Q (.bl (!PyData.eqv d e)) H
section
variable {X : Cx}
theorem op_eqM (hu : X.A.units + 200 < cLine) : OpR X (compareOp .Eq) (rEqM X.K) := by
  intro pins s σ H x y v u Q I rx ry h
  obtain ⟨d, e, hd, he, pd, pe, dd, q⟩ := h
  obtain ⟨as, ra⟩ := Dp.reads I d x v hd rx
  obtain ⟨bs, rb⟩ := Dp.reads I e y u he ry
  exact SeqAt.eq_plain ra rb pd pe (by omega) ⟨.bl _, H, I, rfl, q⟩
theorem op_neM (hu : X.A.units + 200 < cLine) : OpR X (compareOp .NotEq) (rNeM X.K) := by
  intro pins s σ H x y v u Q I rx ry h
  obtain ⟨d, e, hd, he, pd, pe, dd, q⟩ := h
  obtain ⟨as, ra⟩ := Dp.reads I d x v hd rx
  obtain ⟨bs, rb⟩ := Dp.reads I e y u he ry
  exact SeqAt.ne_plain ra rb pd pe (by omega) ⟨.bl _, H, I, rfl, q⟩
def rEqU (K : PySem.W.Frag) : R2 := orR (rEqM K) (rEqE K)
def rNeU (K : PySem.W.Frag) : R2 := orR (rNeM K) (rNeE K)
theorem op_eqU {k : Nat} (hr : Room k X.A) : OpR X (compareOp .Eq) (rEqU X.K) := op_or (op_eqM (room_eq hr)) (op_eqE (hu_of hr))
theorem op_neU {k : Nat} (hr : Room k X.A) : OpR X (compareOp .NotEq) (rNeU X.K) := op_or (op_neM (room_eq hr)) (op_neE (hu_of hr))
def rMulU : R2 := orR rMulI (orR rRepS rRep)
theorem op_mulU : OpR X (binaryOp .Mult) rMulU := op_or op_mul (op_or op_repS op_rep)
def rLtU : R2 := orR rLtI rLtS
theorem op_ltU : OpR X (compareOp .Lt) rLtU := op_or op_lt op_lt_str
def rInM (K : PySem.W.Frag) (neg : Bool) : R2 := fun x y H Q => ∃ d ds, Dp K H x d ∧ (Dp K H y (.list ds) ∨ Dp K H y (.tuple ds)) ∧ d.plain = true ∧ PyData.plainAll ds = true ∧ min (PyData.depthAll ds) d.depth ≤ 190 ∧ Q (.bl (if neg then !(ds.any fun z => PyData.eqv z d) else ds.any fun z => PyData.eqv z d)) H
theorem op_inM (hu : X.A.units + 200 < cLine) : OpR X (compareOp .In) (rInM X.K false) := by
  intro pins s σ H x y v u Q I rx ry h
  obtain ⟨d, ds, hd, he, pd, pe, dd, q⟩ := h
  obtain ⟨as, ra⟩ := Dp.reads I d x v hd rx
  rcases he with he | he
  · obtain ⟨bs, rb⟩ := Dp.reads I _ y u he ry
    exact SeqAt.in_list_data rb ra pe pd (by omega) ⟨.bl _, H, I, rfl, q⟩
  · obtain ⟨bs, rb⟩ := Dp.reads I _ y u he ry
    exact SeqAt.in_tuple_data rb ra pe pd (by omega) ⟨.bl _, H, I, rfl, q⟩
theorem op_notInM (hu : X.A.units + 200 < cLine) : OpR X (compareOp .NotIn) (rInM X.K true) := by
  intro pins s σ H x y v u Q I rx ry h
  obtain ⟨d, ds, hd, he, pd, pe, dd, q⟩ := h
  obtain ⟨as, ra⟩ := Dp.reads I d x v hd rx
  rcases he with he | he
  · obtain ⟨bs, rb⟩ := Dp.reads I _ y u he ry
    exact SeqAt.notIn_list_data rb ra pe pd (by omega) ⟨.bl _, H, I, rfl, q⟩
  · obtain ⟨bs, rb⟩ := Dp.reads I _ y u he ry
    exact SeqAt.notIn_tuple_data rb ra pe pd (by omega) ⟨.bl _, H, I, rfl, q⟩
def rInU (K : PySem.W.Frag) (neg : Bool) : R2 := orR (rInM K neg) (orR (rInA K neg) (if neg then rNotInS else rInS))
theorem op_inU {k : Nat} (hr : Room k X.A) : OpR X (compareOp .In) (rInU X.K false) := op_or (op_inM (room_eq hr)) (op_or (op_inA (hu_of hr)) op_inS)
theorem op_notInU {k : Nat} (hr : Room k X.A) : OpR X (compareOp .NotIn) (rInU X.K true) := op_or (op_notInM (room_eq hr)) (op_or (op_notInA (hu_of hr)) op_notInS)
def rLenU (K : PySem.W.Frag) : List V → Hp → VK → Prop := orC (rLenV K) rLenD
theorem call_lenR : CallR X (.builtin "len") rLenD := by
  intro pins s σ H xs us Q I r h
  obtain ⟨a, kvs, rfl, hd, q⟩ := h
  obtain ⟨u, rfl, ru⟩ := vals1 r
  cases ru
  exact d_len I hd fun t s' I' => ⟨.int _, H, I', ⟨t, rfl⟩, q⟩
theorem call_lenU : CallR X (.builtin "len") (rLenU X.K) := cr_or call_len call_lenR
end
/-! ### tuples that are known to have no dict of their own -/
def tTupF (t : TA) : TE := fun σ H Q => t σ H fun xs H1 => xs.length ≤ sizeLine ∧ ∀ p (ob : Obj), H1 p = none → ob.dict = none → Q (.ref p) (upd H1 p (.frz ob (.tup xs)))
section
variable {X : Cx} {es : List Expr} {t : TA} {pos : Pos}
theorem pe_tupF {x1} (h : PA X es t) : PE X (.Tuple es x1 pos) (tTupF t) := by
  refine ⟨fun pins s σ H Q I hq => ?_⟩
  refine wpAny_Tuple_spliced (thn (h.run pos pins s σ H _ I hq) fun us s1 ⟨xs, H1, I1, r, z, q⟩ => ⟨by rw [← r.length]; exact z, ?_⟩)
  have hf : H1 s1.heap.objs.size = none := I1.hok.fresh (Nat.le_refl _)
  refine ⟨.ref s1.heap.objs.size, upd H1 s1.heap.objs.size (.frz _ (.tup xs)), I1.laid (t' := s1.toks) (fun b u e => Heap.get?_push_of_some _ e) (Nat.le_refl _) ?_, rfl, q _ { cls := .type "tuple", data := .seq us.toArray } hf rfl⟩
  exact ⟨Heap.get?_push_size _ rfl, z, us, r, ⟨_, Heap.get?_push_size _ rfl, rfl, _, rfl⟩⟩
def rTupOfF (K : PySem.W.Frag) : List V → Hp → VK → Prop := fun xs H Q => ∃ p ys, xs = [.ref p] ∧ ((SqL K H p ys ∧ ∀ l (ob : Obj), H l = none → ob.dict = none → Q (.ref l) (upd H l (.frz ob (.tup ys)))) ∨ (SqT K H p ys ∧ Q (.ref p) H))
theorem call_tupleF : CallR X (.type "tuple") (rTupOfF X.K) := by
  intro pins s σ H xs us Q I r h
  obtain ⟨p, ys, rfl, h⟩ := h
  obtain ⟨u, rfl, rx⟩ := vals1 r
  cases rx
  rcases h with ⟨hq, q⟩ | ⟨hq, q⟩
  · obtain ⟨its, r', pl, hz⟩ := I.list hq
    have hlen := r'.length
    refine call_tuple_list pl.isList (fun h' kp => ?_) (by simp only [List.size_toArray] <;> omega)
    have I1 : Inv X pins σ H { s with heap := h' } := I.kept (t' := s.toks) kp
    have I2 : Inv X pins σ (upd H h'.objs.size (.frz { cls := .type "tuple", data := .seq its.toArray } (.tup ys))) { s with heap := h'.push { cls := .type "tuple", data := .seq its.toArray } } :=
      I1.laid (t' := s.toks) (fun b o e => Heap.get?_push_of_some _ e) (Nat.le_refl _) (show ObjOk X.prog X.w _ _ _ (.frz _ (.tup ys)) from ⟨Heap.get?_push_size _ rfl, hz, its, r', IsTup.new _ _⟩)
    exact ⟨.ref h'.objs.size, _, I2, rfl, q _ _ (I1.hok.fresh (Nat.le_refl _)) rfl⟩
  · obtain ⟨its, r', pl, hz⟩ := I.tuple hq
    exact call_tuple_same pl ⟨.ref p, H, I, rfl, q⟩
def rCatF (K : PySem.W.Frag) : R2 := fun x y H Q => ∃ a b xs ys, x = .ref a ∧ y = .ref b ∧ SqT K H a xs ∧ SqT K H b ys ∧ xs.length + ys.length ≤ sizeLine ∧
  (xs = [] → Q (.ref b) H) ∧ (xs ≠ [] → ys = [] → Q (.ref a) H) ∧ (xs ≠ [] → ys ≠ [] → ∀ p (ob : Obj), H p = none → ob.dict = none → Q (.ref p) (upd H p (.frz ob (.tup (xs ++ ys)))))
theorem op_catF : OpR X (binaryOp .Add) (rCatF X.K) := by
  intro pins s σ H x y v u Q I rx ry h
  obtain ⟨a, b, xs, ys, rfl, rfl, ha, hb, hz, q0, q1, q2⟩ := h
  cases rx
  cases ry
  obtain ⟨its, r1, p1, _⟩ := I.tuple ha
  obtain ⟨its2, r2, p2, _⟩ := I.tuple hb
  by_cases hx : xs = []
  · subst hx
    cases r1
    exact cat_tup0 p1 p2 ⟨.ref b, H, I, rfl, q0 rfl⟩
  · refine HT.cat_tup p1 p2 (fun z => hx (r1.nil_iff.mp z)) (fun z => ⟨.ref a, H, I, rfl, q1 hx (r2.nil_iff.mp z)⟩) (fun z => ?_) (by rw [← r1.length, ← r2.length]; exact hz)
    refine ⟨.ref s.heap.objs.size, _, I.laid (t' := s.toks) (o := .frz { cls := .type "tuple", data := .seq (its ++ its2).toArray } (.tup (xs ++ ys))) (fun b ob q => Heap.get?_push_of_some _ q) (Nat.le_refl _) ?_, rfl, q2 hx (fun w => z (r2.nil_iff.mpr w)) _ _ (I.hok.fresh (Nat.le_refl _)) rfl⟩
    exact ⟨Heap.get?_push_size _ rfl, by rw [List.length_append]; exact hz, _, r1.append r2, IsTup.new _ _⟩
def rSlF (K : PySem.W.Frag) : V → Option Int → Option Int → Hp → VK → Prop := fun x lo hi H Q => ∃ a xs, x = .ref a ∧ SqT K H a xs ∧
  (HT.sIx xs.length 0 lo = 0 ∧ HT.sIx xs.length xs.length hi = xs.length → Q (.ref a) H) ∧ (¬ (HT.sIx xs.length 0 lo = 0 ∧ HT.sIx xs.length xs.length hi = xs.length) → ∀ p (ob : Obj), H p = none → ob.dict = none → Q (.ref p) (upd H p (.frz ob (.tup (cutV xs lo hi)))))
theorem sl_tupF : SlR X (rSlF X.K) := by
  intro pins s σ H x v vl vu lo hi sl Q I rx hs pl pu h
  obtain ⟨a, xs, rfl, hx, q1, q2⟩ := h
  cases rx
  obtain ⟨its, r, ht, hz⟩ := I.tuple hx
  have hlen : its.toArray.size = xs.length := by rw [List.size_toArray]; exact r.length.symm
  refine ⟨"tuple", _, PyProof.Rows.slot_tuple_getitem.lookup, ht.typeIs, ?_⟩
  by_cases hw : HT.sIx xs.length 0 lo = 0 ∧ HT.sIx xs.length xs.length hi = xs.length
  · exact getItem_tuple_whole ht hs pl pu (by rw [hlen]; exact hw) ⟨.ref a, H, I, rfl, q1 hw⟩
  · refine HT.getItem_tuple_cut ht hs pl pu (by rw [hlen]; exact hw) ?_ (by rw [hlen]; exact hz)
    rw [hlen]
    refine ⟨.ref s.heap.objs.size, _, I.laid (t' := s.toks) (o := .frz { cls := .type "tuple", data := .seq ((its.drop (HT.sIx xs.length 0 lo)).take (HT.sIx xs.length xs.length hi - HT.sIx xs.length 0 lo)).toArray } (.tup (cutV xs lo hi))) (fun b ob q => Heap.get?_push_of_some _ q) (Nat.le_refl _) ?_, rfl, q2 hw _ _ (I.hok.fresh (Nat.le_refl _)) rfl⟩
    · exact ⟨Heap.get?_push_size _ rfl, Nat.le_trans (cutV_length xs lo hi) hz, _, (r.drop (HT.sIx xs.length 0 lo)).take (HT.sIx xs.length xs.length hi - HT.sIx xs.length 0 lo), IsTup.new _ _⟩
def rSlU (K : PySem.W.Frag) : V → Option Int → Option Int → Hp → VK → Prop := fun x lo hi H Q => rSlF K x lo hi H Q ∨ (rSlL K x lo hi H Q ∨ rSlS x lo hi H Q)
theorem sl_U : SlR X (rSlU X.K) := SlR.or sl_tupF (SlR.or sl_list sl_str)
end
def tRevF (K : PySem.W.Frag) (te : TE) : TE := fun σ H Q => te σ H fun x H1 => ∃ a xs, x = .ref a ∧ SqT K H1 a xs ∧ ∀ p (ob : Obj), H1 p = none → ob.dict = none → Q (.ref p) (upd H1 p (.frz ob (.tup xs.reverse)))
theorem pe_revF {X : Cx} {e : Expr} {te : TE} {k : Nat} {p1 p2 p3 pos : Pos} (he : PE X e te) : PE X (.Subscript e (.Slice none none (some (.UnaryOp .USub (.Constant (.int 1) k p1) p2)) p3) pos) (tRevF X.K te) := by
  refine ⟨fun pins s σ H Q I h => ?_⟩
  refine Subscript_ (thn (he.run pins s σ H _ I h) fun v s1 ⟨x, H1, I1, r1, q1⟩ => ?_)
  obtain ⟨a, xs, ex, hx, q⟩ := q1
  subst ex
  cases r1
  have hst : PO X (some (.UnaryOp .USub (.Constant (.int 1) k p1) p2)) (tPart (tUn (rU fun i => .int (-i)) (tC (.int 1)))) := po_some (pe_un un_neg pe_int)
  refine wpAny_Slice (thn (po_none.run pins s1 σ H1 (fun o H2 => o = none ∧ H2 = H1) I1 ⟨rfl, rfl⟩) fun vl s2 ⟨l, H2, I2, pl, el, e2⟩ => ?_)
  subst el e2
  refine thn (po_none.run pins s2 σ H2 (fun o H3 => o = none ∧ H3 = H2) I2 ⟨rfl, rfl⟩) fun vu s3 ⟨u, H3, I3, pu, eu, e3⟩ => ?_
  subst eu e3
  refine thn (hst.run pins s3 σ H3 (fun o H4 => o = some (-1) ∧ H4 = H3) I3 ⟨1, rfl, -1, rfl, rfl, rfl⟩) fun vs s4 ⟨o, H4, I4, ps, eo, e4⟩ => ?_
  subst eo e4
  have I5 : Inv X pins σ H4 { s4 with heap := s4.heap.push { cls := .type "slice", data := .fields #[vl, vu, vs] } } := I4.kept (t' := s4.toks) fun b ob q => Heap.get?_push_of_some _ q
  obtain ⟨its, r, ht, hz⟩ := I5.tuple hx
  have hlen := r.length
  cases pl
  cases pu
  show wpAny (model X.prog X.w) X.A (subscriptTail e (.Slice none none (some (.UnaryOp .USub (.Constant (.int 1) k p1) p2)) p3) (.ref a) (.ref s4.heap.objs.size)) (EP X pins σ Q) X.xe { s4 with heap := s4.heap.push { cls := .type "slice", data := .fields #[.none, .none, vs] } }
  refine tail_any (ops := [.ref a, .ref s4.heap.objs.size]) ht.typeIs (PyProof.Rows.slot_tuple_getitem.lookup) ?_ (by with_unfolding_all rfl)
  refine getItem_tuple_rev ht (Heap.IsSliceOf.new _ .none .none vs) ps ?_ (by rw [List.size_toArray]; omega)
  refine ⟨.ref _, _, I5.laid (t' := s4.toks) (o := .frz { cls := .type "tuple", data := .seq its.reverse.toArray } (.tup xs.reverse)) (fun b ob q => Heap.get?_push_of_some _ q) (Nat.le_refl _) ?_, rfl, q _ { cls := .type "tuple", data := .seq its.reverse.toArray } (I5.hok.fresh (Nat.le_refl _)) rfl⟩
  exact ⟨Heap.get?_push_size _ rfl, by rw [List.length_reverse]; exact hz, _, r.reverse, _, Heap.get?_push_size _ rfl, rfl, _, rfl⟩
/-! ### t.index(x) -/
section
variable {X : Cx} {o e : Expr} {es : List Expr} {to : TE} {t : TA} {name : Str} {apos cpos : Pos} {id : String} {r : V → List V → Hp → VK → Prop}
end
section
variable {X : Cx}
def rAddU (K : PySem.W.Frag) : R2 := orR rAddI (orR rAddS (orR (rCatF K) rCat))
theorem op_addU : OpR X (binaryOp .Add) (rAddU X.K) := op_or op_add (op_or op_add_str (op_or op_catF op_cat))
end
end Tw

namespace Tw
open PySem PySem.Spec PyProof.Rows L2
/-- the written part, with the program and the world that sets and dicts of own kinds are told by -/
structure KW where
  K : PySem.W.Frag
  P : Program
  w : World
  /-- the tables of code objects that lambdas are made with, and the names of these -/
  T : List (Addr × Str) := []
instance : Coe KW PySem.W.Frag := ⟨KW.K⟩
abbrev kw (P : Program) (w : World) (K : PySem.W.Frag) : KW := ⟨K, P, w, []⟩
/-! ### values without a heap: data that is never changed, and things that one slot owns -/
abbrev Dt := PyData
def kD : Key → Dt
  | .inl i => .int i
  | .inr x => .str x
/-- a tuple that is known to have no dict of its own -/
def TupN (K : PySem.W.Frag) (F : Hp) (a : Addr) (xs : List V) : Prop := (∃ ob : Obj, F a = some (.frz ob (.tup xs)) ∧ ob.dict = none) ∨
  ∃ (o : Obj) (its : Array Value) (n : Nat), K.lookup a = some o ∧ o.cls = .type "tuple" ∧ o.dict = none ∧ o.data = .seq its n ∧ its.size ≤ sizeLine ∧ Vals xs its.toList
theorem TupN.sq {K : PySem.W.Frag} {F : Hp} {a : Addr} {xs : List V} (h : TupN K F a xs) : SqT K F a xs := by
  rcases h with ⟨ob, h, _⟩ | ⟨o, its, n, h1, h2, h3, h4, h5, h6⟩
  · exact .inl (.inr ⟨ob, h⟩)
  · exact .inr ⟨o, its, n, h1, h2, h4, h5, h6⟩
theorem TupN.same {K : PySem.W.Frag} {F F' : Hp} {a : Addr} {xs : List V} (s : Same F F') (h : TupN K F a xs) : TupN K F' a xs := by
  rcases h with ⟨ob, h, d⟩ | h
  · exact .inl ⟨ob, s _ _ h, d⟩
  · exact .inr h
mutual
/-- the value v tells the datum -/
inductive Dn (K : KW) (F : Hp) : V → Dt → Prop
  | non : Dn K F .non .none
  | bl (b : Bool) : Dn K F (.bl b) (.bool b)
  | int (i : Int) : Dn K F (.int i) (.int i)
  | str (x : Str) (h : x.length ≤ sizeLine) : Dn K F (.str x) (.str x)
  | lst {a : Addr} {xs : List V} {ds : List Dt} : F a = some (.lst xs) → DnAll K F xs ds → Dn K F (.ref a) (.list ds)
  | tup {a : Addr} {xs : List V} {ds : List Dt} : TupN K F a xs → DnAll K F xs ds → Dn K F (.ref a) (.tuple ds)
  | dct {a : Addr} {kvs : List (Key × V)} {ds : List (Dt × Dt)} : Rd F a (.dK kvs) → DnKs K F kvs ds → Dn K F (.ref a) (.dict ds)
inductive DnAll (K : KW) (F : Hp) : List V → List Dt → Prop
  | nil : DnAll K F [] []
  | cons {v : V} {vs : List V} {d : Dt} {ds : List Dt} : Dn K F v d → DnAll K F vs ds → DnAll K F (v :: vs) (d :: ds)
inductive DnKs (K : KW) (F : Hp) : List (Key × V) → List (Dt × Dt) → Prop
  | nil : DnKs K F [] []
  | cons {k : Key} {v : V} {kvs : List (Key × V)} {d : Dt} {ds : List (Dt × Dt)} : Dn K F v d → DnKs K F kvs ds → DnKs K F ((k, v) :: kvs) ((kD k, d) :: ds)
end
theorem Same.sqL {K : PySem.W.Frag} {a : Addr} {H H' : Hp} {xs : List V} (k : Same H H') (h : SqL K H a xs) : SqL K H' a xs := by
  rcases h with h | h
  · rcases h with h | ⟨o, h⟩
    · exact .inl (.inl (k _ _ h))
    · exact .inl (.inr ⟨o, k _ _ h⟩)
  · exact .inr h
theorem Same.sqT' {K : PySem.W.Frag} {a : Addr} {H H' : Hp} {xs : List V} (k : Same H H') (h : SqT K H a xs) : SqT K H' a xs := by
  rcases h with h | h
  · rcases h with h | ⟨o, h⟩
    · exact .inl (.inl (k _ _ h))
    · exact .inl (.inr ⟨o, k _ _ h⟩)
  · exact .inr h
theorem Same.rd {a : Addr} {H H' : Hp} {u : HO} (k : Same H H') (h : Rd H a u) : Rd H' a u := by
  rcases h with h | ⟨o, h⟩
  · exact .inl (k _ _ h)
  · exact .inr ⟨o, k _ _ h⟩
section
variable {K : KW} {F F' : Hp}
mutual
theorem Dn.same (s : Same F F') : ∀ {v : V} {d : Dt}, Dn K F v d → Dn K F' v d
  | _, _, .non => .non
  | _, _, .bl b => .bl b
  | _, _, .int i => .int i
  | _, _, .str x h => .str x h
  | _, _, .lst h hs => .lst (s _ _ h) (DnAll.same s hs)
  | _, _, .tup h hs => .tup (h.same s) (DnAll.same s hs)
  | _, _, .dct h hs => .dct (Same.rd s h) (DnKs.same s hs)
theorem DnAll.same (s : Same F F') : ∀ {vs : List V} {ds : List Dt}, DnAll K F vs ds → DnAll K F' vs ds
  | _, _, .nil => .nil
  | _, _, .cons h hs => .cons (Dn.same s h) (DnAll.same s hs)
theorem DnKs.same (s : Same F F') : ∀ {vs : List (Key × V)} {ds : List (Dt × Dt)}, DnKs K F vs ds → DnKs K F' vs ds
  | _, _, .nil => .nil
  | _, _, .cons h hs => .cons (Dn.same s h) (DnKs.same s hs)
end
theorem DnAll.length : ∀ {vs : List V} {ds : List Dt}, DnAll K F vs ds → vs.length = ds.length
  | _, _, .nil => rfl
  | _, _, .cons _ hs => congrArg (· + 1) hs.length
theorem DnAll.app : ∀ {vs us : List V} {ds es : List Dt}, DnAll K F vs ds → DnAll K F us es → DnAll K F (vs ++ us) (ds ++ es)
  | _, _, _, _, .nil, h => h
  | _, _, _, _, .cons h hs, h' => .cons h (hs.app h')
theorem DnAll.get : ∀ {vs : List V} {ds : List Dt} {i : Nat} {d : Dt}, DnAll K F vs ds → ds[i]? = some d → ∃ v, vs[i]? = some v ∧ Dn K F v d
  | _, _, _, _, .nil, e => by simp at e
  | _, _, 0, _, .cons h _, e => by simp at e; subst e; exact ⟨_, rfl, h⟩
  | _, _, i + 1, d, .cons _ hs, e => by
    obtain ⟨v, h1, h2⟩ := DnAll.get (i := i) (d := d) hs (by simpa using e)
    exact ⟨v, by simpa using h1, h2⟩
theorem DnAll.getV : ∀ {vs : List V} {ds : List Dt} {i : Nat} {v : V}, DnAll K F vs ds → vs[i]? = some v → ∃ d, ds[i]? = some d ∧ Dn K F v d
  | _, _, _, _, .nil, e => by simp at e
  | _, _, 0, _, .cons h _, e => by simp at e; subst e; exact ⟨_, rfl, h⟩
  | _, _, i + 1, v, .cons _ hs, e => by
    obtain ⟨d, h1, h2⟩ := DnAll.getV (i := i) (v := v) hs (by simpa using e)
    exact ⟨d, by simpa using h1, h2⟩
theorem DnAll.take : ∀ {vs : List V} {ds : List Dt} (n : Nat), DnAll K F vs ds → DnAll K F (vs.take n) (ds.take n)
  | _, _, 0, _ => .nil
  | _, _, _ + 1, .nil => .nil
  | _, _, n + 1, .cons h hs => .cons h (hs.take n)
theorem DnAll.drop : ∀ {vs : List V} {ds : List Dt} (n : Nat), DnAll K F vs ds → DnAll K F (vs.drop n) (ds.drop n)
  | _, _, 0, h => h
  | _, _, _ + 1, .nil => .nil
  | _, _, n + 1, .cons _ hs => hs.drop n
theorem DnAll.rev {vs : List V} {ds : List Dt} (h : DnAll K F vs ds) : DnAll K F vs.reverse ds.reverse := by
  induction vs generalizing ds with
  | nil => cases h; exact .nil
  | cons v vs ih =>
    cases h with
    | cons h hs =>
      rw [List.reverse_cons, List.reverse_cons]
      exact (ih hs).app (.cons h .nil)
theorem DnAll.set : ∀ {vs : List V} {ds : List Dt} {v : V} {d : Dt} (i : Nat), DnAll K F vs ds → Dn K F v d → DnAll K F (vs.set i v) (ds.set i d)
  | _, _, _, _, _, .nil, _ => .nil
  | _, _, _, _, 0, .cons _ hs, h => .cons h hs
  | _, _, _, _, i + 1, .cons g hs, h => .cons g (hs.set i h)
end
/-- things that are no data: a set of texts; an instance of an own class with data in its fields; a dict with None and truths among its keys; a dict whose keys are tuples; a thing that is only handed on; a def of the module; a thing that can be called, and is what was handed over -/
inductive Xt where
  | st (xs : List Str)
  | ob (c : Str) (fs : List (Str × Dt))
  | dn (kvs : List (Leaf × Dt))
  | dt (kvs : List (List Key × Dt))
  | op (u : V)
  | fn (nm : Str)
  | lam
/-- what a slot owns: a list of data, a list of such lists, a dict of data, a dict of lists of data -/
inductive Ow where
  | l (xs : List Dt)
  | ll (xs : List (List Dt))
  | dc (kvs : List (Key × Dt))
  | dl (kvs : List (Key × List Dt))
  | x (t : Xt)
structure Xc where
  cls : Str
  fs : List (Str × Dt)
/-- xr: a caught exception; d: a datum; own: owned by this cell; io: an argument that the caller owns; rf: the thing owned by the slot i, or one in it -/
inductive A where
  | d (x : Dt)
  | own (o : Ow)
  | io (o : Ow)
  | rf (i : Nat) (p : Option Key)
  | sc (ns : List Int)
  | q (xs : List Dt)
  | lk (kvs : List (Dt × Dt))
  | xr (x : Xc)
abbrev Env := List (Option A)
def Ow.dt : Ow → Option Dt
  | .l xs => some (.list xs)
  | .ll xs => some (.list (xs.map .list))
  | .dc kvs => some (.dict (kvs.map fun q => (kD q.1, q.2)))
  | .dl kvs => some (.dict (kvs.map fun q => (kD q.1, .list q.2)))
  | .x _ => none
def setS (xs : List Str) : Key → Bool := fun k => xs.any fun x => decide (k = .inr x)
/-- a dict whose keys are None, truths, ints and texts -/
def DicN (P : Program) (w : World) (a : Addr) (us : List (Leaf × V)) : HO := .ext fun h => us.length ≤ sizeLine ∧ (a == sysModules) = false ∧ ∃ vs, KV us vs ∧ h.DictOf (leafKind P w) a vs
/-- a key that is a tuple, where it stands, and what stands at it -/
abbrev TK := List Key × Addr × V
/-- a dict whose keys are tuples of ints and texts -/
def DicTX (P : Program) (w : World) (a : Addr) (us : List TK) : HO := .ext fun h => us.length ≤ sizeLine ∧ (a == sysModules) = false ∧ ∃ xs : List (List Key × Addr × Value),
  Paired (fun (p : TK) (q : List Key × Addr × Value) => p.1 = q.1 ∧ p.2.1 = q.2.1 ∧ RelV p.2.2 q.2.2) us xs ∧
  ∃ o es ep, h.get? a = some o ∧ o.ExactDict ∧ o.data = .dict es ep ∧ es.toList = xs.map (entryOfKey (tupleKind (mixKind P w))) ∧ (xs.map (·.1)).Nodup
def XtO (K : KW) (F H : Hp) (own : Addr → Prop) (v : V) : Xt → Prop
  | .st xs => ∃ a, v = .ref a ∧ own a ∧ H a = some (SetK K.P K.w a (setS xs) xs.length)
  | .ob c fs => ∃ a dx us, v = .ref a ∧ own a ∧ own dx ∧ H a = some (.ins (He.ga K c) dx us) ∧ H dx = some (.own a) ∧ Paired (fun (p : Str × V) (q : Str × Dt) => p.1 = q.1 ∧ Dn K F p.2 q.2) us fs
  | .dn kvs => ∃ a us, v = .ref a ∧ own a ∧ H a = some (DicN K.P K.w a us) ∧ Paired (fun (p : Leaf × V) (q : Leaf × Dt) => p.1 = q.1 ∧ Dn K F p.2 q.2) us kvs
  | .op u => v = u
  | .fn nm => v = .ref (He.ga K nm)
  | .lam => True
  | .dt kvs => ∃ a us, v = .ref a ∧ own a ∧ H a = some (DicTX K.P K.w a us) ∧ Paired (fun (p : TK) (q : List Key × Dt) => p.1 = q.1 ∧ TupN K F p.2.1 (p.1.map kV) ∧ Dn K F p.2.2 q.2) us kvs
def OwL (K : KW) (F H : Hp) (own : Addr → Prop) (v : V) (xs : List Dt) : Prop := ∃ a vs, v = .ref a ∧ own a ∧ H a = some (.lst vs) ∧ DnAll K F vs xs
def OwO (K : KW) (F H : Hp) (own : Addr → Prop) (v : V) : Ow → Prop
  | .l xs => OwL K F H own v xs
  | .ll xss => ∃ a vs, v = .ref a ∧ own a ∧ H a = some (.lst vs) ∧ vs.Nodup ∧ V.ref a ∉ vs ∧ Paired (OwL K F H own) vs xss
  | .dc kvs => ∃ a us, v = .ref a ∧ own a ∧ H a = some (.dK us) ∧ Paired (fun (p : Key × V) (q : Key × Dt) => p.1 = q.1 ∧ Dn K F p.2 q.2) us kvs
  | .dl kvs => ∃ a us, v = .ref a ∧ own a ∧ H a = some (.dK us) ∧ ((us.map (·.2)).Nodup ∧ (us.map (·.1)).Nodup) ∧ V.ref a ∉ us.map (·.2) ∧ Paired (fun (p : Key × V) (q : Key × List Dt) => p.1 = q.1 ∧ OwL K F H own p.2 q.2) us kvs
  | .x t => XtO K F H own v t
section
variable {K : KW} {F F' H H' : Hp} {own own' : Addr → Prop}
theorem OwL.mono (s : Same F F') (ho : ∀ a, own a → own' a) (hh : ∀ a, own a → H' a = H a) {v : V} {xs : List Dt} (h : OwL K F H own v xs) : OwL K F' H' own' v xs := by
  obtain ⟨a, vs, e, o, q, d⟩ := h
  exact ⟨a, vs, e, ho a o, by rw [hh a o]; exact q, d.same s⟩
theorem XtO.mono (s : Same F F') (ho : ∀ a, own a → own' a) (hh : ∀ a, own a → H' a = H a) {v : V} {o : Xt} (h : XtO K F H own v o) : XtO K F' H' own' v o := by
  cases o with
  | st xs =>
    obtain ⟨a, e, o, q⟩ := h
    exact ⟨a, e, ho a o, by rw [hh a o]; exact q⟩
  | ob c fs =>
    obtain ⟨a, dx, us, e, o1, o2, q1, q2, p⟩ := h
    exact ⟨a, dx, us, e, ho a o1, ho dx o2, by rw [hh a o1]; exact q1, by rw [hh dx o2]; exact q2, L2.Paired.mapP p fun _ _ z => ⟨z.1, z.2.same s⟩⟩
  | op u => exact h
  | fn u => exact h
  | lam => exact h
  | dn kvs =>
    obtain ⟨a, us, e, o1, q1, p⟩ := h
    exact ⟨a, us, e, ho a o1, by rw [hh a o1]; exact q1, L2.Paired.mapP p fun _ _ z => ⟨z.1, z.2.same s⟩⟩
  | dt kvs =>
    obtain ⟨a, us, e, o1, q1, p⟩ := h
    exact ⟨a, us, e, ho a o1, by rw [hh a o1]; exact q1, L2.Paired.mapP p fun _ _ z => ⟨z.1, z.2.1.same s, z.2.2.same s⟩⟩
theorem OwO.mono (s : Same F F') (ho : ∀ a, own a → own' a) (hh : ∀ a, own a → H' a = H a) {v : V} {o : Ow} (h : OwO K F H own v o) : OwO K F' H' own' v o := by
  cases o with
  | l xs => exact OwL.mono s ho hh h
  | ll xss =>
    obtain ⟨a, vs, e, q, r, n, m, p⟩ := h
    exact ⟨a, vs, e, ho a q, by rw [hh a q]; exact r, n, m, L2.Paired.mapP p fun _ _ z => z.mono s ho hh⟩
  | dc kvs =>
    obtain ⟨a, us, e, q, r, p⟩ := h
    exact ⟨a, us, e, ho a q, by rw [hh a q]; exact r, L2.Paired.mapP p fun _ _ z => ⟨z.1, z.2.same s⟩⟩
  | dl kvs =>
    obtain ⟨a, us, e, q, r, n, m, p⟩ := h
    exact ⟨a, us, e, ho a q, by rw [hh a q]; exact r, n, m, L2.Paired.mapP p fun _ _ z => ⟨z.1, z.2.mono s ho hh⟩⟩
  | x t => exact XtO.mono s ho hh h
theorem paired_all : ∀ {vs : List V} {xss : List (List Dt)}, Paired (OwL K F H own) vs xss → (∀ v xs, OwL K F H own v xs → Dn K F' v (.list xs)) → DnAll K F' vs (xss.map .list)
  | _, _, .nil, _ => .nil
  | _, _, .cons h hs, f => .cons (f _ _ h) (paired_all hs f)
theorem paired_ks : ∀ {vs : List (Key × V)} {xss : List (Key × Dt)}, Paired (fun (p : Key × V) (q : Key × Dt) => p.1 = q.1 ∧ Dn K F p.2 q.2) vs xss → DnKs K F vs (xss.map fun q => (kD q.1, q.2))
  | _, _, .nil => .nil
  | (k, v) :: vs, (k', d) :: ds, .cons h hs => by
    obtain ⟨e, h⟩ := h
    cases e
    exact .cons h (paired_ks hs)
theorem paired_kl : ∀ {vs : List (Key × V)} {xss : List (Key × List Dt)}, Paired (fun (p : Key × V) (q : Key × List Dt) => p.1 = q.1 ∧ OwL K F H own p.2 q.2) vs xss → (∀ v xs, OwL K F H own v xs → Dn K F' v (.list xs)) → DnKs K F' vs (xss.map fun q => (kD q.1, .list q.2))
  | _, _, .nil, _ => .nil
  | (k, v) :: vs, (k', d) :: ds, .cons h hs, f => by
    obtain ⟨e, h⟩ := h
    cases e
    exact .cons (f _ _ h) (paired_kl hs f)
/-- what is owned, read as a datum of any heap that has it -/
theorem OwO.dn (s : Same F F') (hh : ∀ a, own a → F' a = H a) {v : V} {o : Ow} (h : OwO K F H own v o) {d : Dt} (hd : o.dt = some d) : Dn K F' v d := by
  have f : ∀ v xs, OwL K F H own v xs → Dn K F' v (.list xs) := fun v xs h => by
    obtain ⟨a, vs, rfl, o, q, d⟩ := h
    exact .lst ((hh a o).trans q) (d.same s)
  cases o with
  | x t => cases hd
  | l xs => cases hd; exact f _ _ h
  | ll xss =>
    cases hd
    obtain ⟨a, vs, rfl, q, r, n, m, p⟩ := h
    exact .lst ((hh a q).trans r) (paired_all p f)
  | dc kvs =>
    cases hd
    obtain ⟨a, us, rfl, q, r, p⟩ := h
    exact .dct (.inl ((hh a q).trans r)) (paired_ks (L2.Paired.mapP p fun _ _ z => ⟨z.1, z.2.same s⟩))
  | dl kvs =>
    cases hd
    obtain ⟨a, us, rfl, q, r, n, m, p⟩ := h
    exact .dct (.inl ((hh a q).trans r)) (paired_kl p f)
end
theorem same_newV {H : Hp} {p : Addr} {o : HO} (h : H p = none) : Same H (upd H p o) := fun b x e => by
  rw [upd_ne (ne_of_none e h)]
  exact e
/-- where a def began -/
structure Bs where
  H : Hp
  F : Hp
  S : Addr → Option Nat
  vs : List V
  io : Nat → Bool
  xc : Addr × Value × Option Addr
/-- the thing at a path of a slot's thing -/
def atP (H : Hp) (O : Addr → Option Nat) (i : Nat) (w : V) (v : V) : Option Key → Prop
  | none => v = w
  | some k => ∃ a, w = .ref a ∧ O a = some i ∧ ((∃ vs n, k = .inl n ∧ 0 ≤ n ∧ H a = some (.lst vs) ∧ vs[n.toNat]? = some v) ∨ ∃ us, H a = some (.dK us) ∧ valV us k = some v)
def CellO (K : KW) (B : Bs) (F H : Hp) (O : Addr → Option Nat) (σ : List (Option V)) (j : Nat) (v : V) : A → Prop
  | .d x => Dn K F v x
  | .own o => OwO K F H (fun a => O a = some j ∧ B.H a = none) v o
  | .io o => OwO K F H (fun a => O a = some j) v o ∧ B.vs[j]? = some v
  | .rf i p => ∃ w, σ[i]? = some (some w) ∧ atP H O i w v p
  | .sc ns => ∃ a, v = .ref a ∧ SqL K F a (ns.map V.int)
  | .q xs => ∃ a vs, v = .ref a ∧ SqT K F a vs ∧ DnAll K F vs xs
  | .lk kvs => ∃ (a : Addr) (o : Obj) (us : List (Key × V)), v = .ref a ∧ B.F a = some (.frz o (.dK us)) ∧ DnKs K B.F us kvs
  | .xr x => v = .ref B.xc.1 ∧ B.xc.2.1 = .ref (He.ga K x.cls) ∧ ((x.fs = [] ∧ B.xc.2.2 = none) ∨ ∃ dx us, B.xc.2.2 = some dx ∧ F dx = some (.xd ((x.fs.map (·.1)).zip us)) ∧ DnAll K F us (x.fs.map (·.2)))
def TmO (K : KW) (B : Bs) (F H : Hp) (O : Addr → Option Nat) (σ : List (Option V)) : List V → List A → Prop
  | [], [] => True
  | v :: ts, a :: te => CellO K B F H O σ (σ.length + ts.length) v a ∧ TmO K B F H O σ ts te
  | _, _ => False
/-- a thing that may be changed -/
def MutO (o : Option HO) : Prop := o ≠ none ∧ (∀ xs, o ≠ some (.tup xs)) ∧ (∀ b u, o ≠ some (.frz b u)) ∧ (∀ fs, o ≠ some (.xd fs)) ∧ (∀ ps, o ≠ some (.tbl ps)) ∧ ∀ c q, o ≠ some (LamX.CodeO c q)
theorem mutO_lst (xs : List V) : MutO (some (.lst xs)) := ⟨nofun, fun _ z => (nomatch z), (fun _ _ z => nomatch z), (fun _ z => nomatch z), (fun _ z => nomatch z), fun _ _ z => by unfold LamX.CodeO at z; cases z⟩
theorem mutO_dK (xs : List (Key × V)) : MutO (some (.dK xs)) := ⟨nofun, fun _ z => (nomatch z), (fun _ _ z => nomatch z), (fun _ z => nomatch z), (fun _ z => nomatch z), fun _ _ z => by unfold LamX.CodeO at z; cases z⟩
/-- each table tells code objects of its name alone -/
def TabH (K : KW) (H : Hp) : Prop := ∀ p ∈ K.T, LamX.TabS H p.1 p.2
/-- the tables when a def begins -/
def BT (K : KW) (B : Bs) : Prop := ∀ p ∈ K.T, B.F p.1 = none ∧ B.H p.1 ≠ none ∧ B.S p.1 = none
theorem TabH.mono {K : KW} {H H' : Hp} (t : TabH K H) (k : ∀ b o, ((∃ ps, o = .tbl ps) ∨ ∃ c q, o = LamX.CodeO c q) → H b = some o → H' b = some o) : TabH K H' := fun p hp => by
  obtain ⟨ps, h1, h2, h3⟩ := t p hp
  refine ⟨ps, k _ _ (.inl ⟨_, rfl⟩) h1, h2, fun pos cv z => ?_⟩
  obtain ⟨c, e1, e2⟩ := h3 pos cv z
  exact ⟨c, e1, k _ _ (.inr ⟨_, _, rfl⟩) e2⟩
structure RelF (K : KW) (B : Bs) (F : Hp) (O : Addr → Option Nat) (σ : List (Option V)) (env : Env) (ts : List V) (te : List A) (H : Hp) : Prop where
  ln : σ.length = env.length
  sl : ∀ i a, env[i]? = some (some a) → ∃ v, σ[i]? = some (some v) ∧ CellO K B F H O σ i v a
  tm : TmO K B F H O σ ts te
  sf : Same F H
  of : ∀ a j, O a = some j → F a = none ∧ MutO (H a) ∧ j < σ.length + ts.length ∧ (B.H a = none ∨ (B.S a = some j ∧ B.io j = true))
  b1 : Same B.F F
  b2 : ∀ b o, B.S b = none → (∀ ps, o ≠ .tbl ps) → B.H b = some o → H b = some o
  b3 : ∀ b, B.F b = none → F b ≠ none → B.H b = none ∨ B.S b ≠ none
  b5 : ∀ b, B.H b ≠ none → H b ≠ none
  bi : ∀ i, B.io i = true → ∃ o, env[i]? = some (some (.io o))
  tb : BT K B ∧ TabH K H
def Rel (K : KW) (B : Bs) (σ : List (Option V)) (env : Env) (ts : List V) (te : List A) (H : Hp) : Prop := ∃ F O, RelF K B F O σ env ts te H
section
variable {K : KW} {B : Bs} {F F' H H' : Hp} {O O' : Addr → Option Nat} {σ σ' : List (Option V)} {env : Env} {ts : List V} {te : List A}
theorem atP.mono {i : Nat} {w v : V} {p : Option Key} (h : atP H O i w v p) (k : p ≠ none → ∀ b, O b = some i → O' b = some i ∧ H' b = H b) : atP H' O' i w v p := by
  cases p with
  | none => exact h
  | some q =>
    obtain ⟨a, e, o, h⟩ := h
    obtain ⟨k1, k2⟩ := k nofun a o
    refine ⟨a, e, k1, ?_⟩
    rw [k2]
    exact h
/-- a cell stays what it was -/
theorem CellO.mono {j j' : Nat} {v : V} {a : A} (h : CellO K B F H O σ j v a) (s : Same F F') (hj : ∀ b, O b = some j → O' b = some j' ∧ H' b = H b)
    (hi : ∀ o, a = .io o → j' = j) (hr : ∀ i p w, a = .rf i p → σ[i]? = some (some w) → σ'[i]? = some (some w)) (hp : ∀ i k, a = .rf i (some k) → ∀ b, O b = some i → O' b = some i ∧ H' b = H b) : CellO K B F' H' O' σ' j' v a := by
  cases a with
  | d x => exact Dn.same s h
  | own o => exact OwO.mono (own := fun a => O a = some j ∧ B.H a = none) s (fun a z => ⟨(hj a z.1).1, z.2⟩) (fun a z => (hj a z.1).2) h
  | io o =>
    refine ⟨OwO.mono (own := fun a => O a = some j) s (fun a z => (hj a z).1) (fun a z => (hj a z).2) h.1, ?_⟩
    rw [hi o rfl]
    exact h.2
  | rf i p =>
    obtain ⟨w, e, h⟩ := h
    refine ⟨w, hr i p w rfl e, h.mono fun z b q => ?_⟩
    cases p with
    | none => exact absurd rfl z
    | some k => exact hp i k rfl b q
  | sc ns =>
    obtain ⟨a, e, h⟩ := h
    exact ⟨a, e, Same.sqL s h⟩
  | q xs =>
    obtain ⟨a, vs, e, h, d⟩ := h
    exact ⟨a, vs, e, Same.sqT' s h, d.same s⟩
  | lk kvs =>
    exact h
  | xr x =>
    obtain ⟨e1, e2, h⟩ := h
    refine ⟨e1, e2, h.imp id ?_⟩
    rintro ⟨dx, us, e3, h1, h2⟩
    exact ⟨dx, us, e3, s _ _ h1, h2.same s⟩
theorem TmO.len : ∀ {ts : List V} {te : List A}, TmO K B F H O σ ts te → ts.length = te.length
  | [], [], _ => rfl
  | _ :: _, _ :: _, h => congrArg (· + 1) (TmO.len h.2)
theorem TmO.mono (s : Same F F') (hl : σ'.length = σ.length) : ∀ {ts : List V} {te : List A}, TmO K B F H O σ ts te → (∀ j, σ.length ≤ j → j < σ.length + ts.length → ∀ b, O b = some j → O' b = some j ∧ H' b = H b) →
    (∀ i p w, A.rf i p ∈ te → σ[i]? = some (some w) → σ'[i]? = some (some w)) → (∀ i k, A.rf i (some k) ∈ te → ∀ b, O b = some i → O' b = some i ∧ H' b = H b) → TmO K B F' H' O' σ' ts te
  | [], [], _, _, _, _ => trivial
  | v :: ts, a :: te, h, hj, hr, hp => by
    refine ⟨?_, h.2.mono s hl (fun j h1 h2 => hj j h1 (by rw [List.length_cons]; omega)) (fun i p w z => hr i p w (List.mem_cons_of_mem _ z)) (fun i k z => hp i k (List.mem_cons_of_mem _ z))⟩
    rw [hl]
    exact CellO.mono h.1 s (hj _ (Nat.le_add_right _ _) (by rw [List.length_cons]; omega)) (fun _ _ => rfl) (fun i p w e => hr i p w (by rw [e]; exact List.mem_cons_self)) (fun i k e => hp i k (by rw [e]; exact List.mem_cons_self))
end

def isRf (i : Nat) : A → Bool
  | .rf j _ => j == i
  | _ => false
def isNest (i : Nat) : A → Bool
  | .rf j (some _) => j == i
  | _ => false
def isIo : A → Bool
  | .io _ => true
  | _ => false
def inE (f : A → Bool) (env : Env) : Bool := env.any fun c => match c with
  | some a => f a
  | none => false
def anyC (f : A → Bool) (env : Env) (te : List A) : Bool := inE f env || te.any f
theorem anyC_env {f : A → Bool} {env : Env} {te : List A} (h : anyC f env te = false) {i : Nat} {a : A} (e : env[i]? = some (some a)) : f a = false := by
  unfold anyC at h
  rw [Bool.or_eq_false_iff] at h
  have := List.any_eq_false.mp h.1 (some a) (List.mem_of_getElem? e)
  simpa using this
theorem anyC_te {f : A → Bool} {env : Env} {te : List A} (h : anyC f env te = false) {a : A} (e : a ∈ te) : f a = false := by
  unfold anyC at h
  rw [Bool.or_eq_false_iff] at h
  have := List.any_eq_false.mp h.2 a e
  simpa using this
section
variable {K : KW} {B : Bs} {F F' H H' : Hp} {O O' : Addr → Option Nat} {σ σ' : List (Option V)} {env : Env} {ts : List V} {te : List A}
theorem RelF.fresh (R : RelF K B F O σ env ts te H) {p : Addr} (h : H p = none) : F p = none ∧ B.H p = none ∧ O p = none := by
  refine ⟨Same.free R.sf h, Classical.byContradiction fun z => R.b5 p z h, ?_⟩
  cases e : O p with
  | none => rfl
  | some j => exact absurd h (R.of p j e).2.1.1
/-- a table is owned by none, nor is a code object -/
theorem RelF.noT (R : RelF K B F O σ env ts te H) {b : Addr} {o : HO} (t : (∃ ps, o = .tbl ps) ∨ ∃ c q, o = LamX.CodeO c q) (h : H b = some o) : O b = none := by
  cases e : O b with
  | none => rfl
  | some j =>
    have m := (R.of b j e).2.1.2.2.2.2
    rcases t with ⟨ps, rfl⟩ | ⟨c, q, rfl⟩
    · exact absurd h (m.1 ps)
    · exact absurd h (m.2 c q)
theorem RelF.noF (R : RelF K B F O σ env ts te H) {p : Addr × Str} (h : p ∈ K.T) : F p.1 = none := by
  obtain ⟨t1, t2, t3⟩ := R.tb.1 p h
  refine Classical.byContradiction fun z => ?_
  rcases R.b3 p.1 t1 z with y | y
  · exact t2 y
  · exact y t3
theorem RelF.tabO (R : RelF K B F O σ env ts te H) {p : Addr × Str} (h : p ∈ K.T) : O p.1 = none ∧ H p.1 ≠ none := by
  obtain ⟨ps, e, _⟩ := R.tb.2 p h
  exact ⟨R.noT (.inl ⟨ps, rfl⟩) e, by rw [e]; exact nofun⟩
/-- the heaps grow; what is owned stays; tables may be written -/
theorem RelF.ext0 (R : RelF K B F O σ env ts te H) (s : Same F F') (s2 : Same F' H') (k : ∀ b j, O b = some j → H' b = H b ∧ F' b = none) (k2 : ∀ b o, O b = none → (∀ ps, o ≠ .tbl ps) → H b = some o → H' b = some o)
    (k3 : ∀ b, F b = none → F' b ≠ none → B.H b = none) (k4 : ∀ b, H b ≠ none → H' b ≠ none) (tb : TabH K H') : RelF K B F' O σ env ts te H' where
  ln := R.ln
  sl := fun i a e => by
    obtain ⟨v, e1, h⟩ := R.sl i a e
    exact ⟨v, e1, h.mono s (fun b z => ⟨z, (k b i z).1⟩) (fun _ _ => rfl) (fun _ _ _ _ z => z) (fun i' _ _ b z => ⟨z, (k b i' z).1⟩)⟩
  tm := R.tm.mono s rfl (fun j _ _ b z => ⟨z, (k b j z).1⟩) (fun _ _ _ _ z => z) (fun i _ _ b z => ⟨z, (k b i z).1⟩)
  sf := s2
  of := fun a j z => by
    obtain ⟨h1, h2, h3, h4⟩ := R.of a j z
    exact ⟨(k a j z).2, by rw [(k a j z).1]; exact h2, h3, h4⟩
  b1 := R.b1.trans s
  b2 := fun b o hs ht e => by
    have h := R.b2 b o hs ht e
    cases z : O b with
    | none => exact k2 b o z ht h
    | some j => rw [(k b j z).1]; exact h
  b3 := fun b h1 h2 => by
    cases z : F b with
    | none => exact .inl (k3 b z h2)
    | some o => exact R.b3 b h1 (by rw [z]; exact nofun)
  b5 := fun b h1 => k4 b (R.b5 b h1)
  bi := R.bi
  tb := ⟨R.tb.1, tb⟩
/-- the heaps grow; what is owned stays -/
theorem RelF.ext (R : RelF K B F O σ env ts te H) (s : Same F F') (s2 : Same F' H') (k : ∀ b j, O b = some j → H' b = H b ∧ F' b = none) (k2 : ∀ b o, O b = none → H b = some o → H' b = some o)
    (k3 : ∀ b, F b = none → F' b ≠ none → B.H b = none) : RelF K B F' O σ env ts te H' := by
  refine R.ext0 s s2 k (fun b o z _ e => k2 b o z e) k3 (fun b h => ?_) (R.tb.2.mono fun b o t z => k2 b _ (R.noT t z) z)
  cases z : O b with
  | some j => rw [(k b j z).1]; exact h
  | none =>
    cases y : H b with
    | none => exact absurd y h
    | some o => rw [k2 b o z y]; exact nofun
/-- a new object that is never changed -/
theorem RelF.new (R : RelF K B F O σ env ts te H) {p : Addr} (h : H p = none) (o : HO) : RelF K B (upd F p o) O σ env ts te (upd H p o) := by
  obtain ⟨f1, f2, f3⟩ := R.fresh h
  have np : ∀ b j, O b = some j → b ≠ p := fun b j z e => by rw [e, f3] at z; cases z
  refine R.ext (same_newV f1) ?_ (fun b j z => ⟨upd_ne (np b j z), by rw [upd_ne (np b j z)]; exact (R.of b j z).1⟩) (fun b u _ e => ?_) (fun b h1 h2 => ?_)
  · intro b u e
    by_cases hb : b = p
    · subst hb
      rw [upd_same] at e ⊢
      exact e
    · rw [upd_ne hb] at e ⊢
      exact R.sf b u e
  · rw [upd_ne (ne_of_none e h)]
    exact e
  · by_cases hb : b = p
    · rw [hb]; exact f2
    · rw [upd_ne hb] at h2
      exact absurd h1 h2
theorem RelF.push (R : RelF K B F O σ env ts te H) {v : V} {a : A} (h : CellO K B F H O σ (σ.length + ts.length) v a) : RelF K B F O σ env (v :: ts) (a :: te) H :=
  { R with
    tm := ⟨h, R.tm⟩
    of := fun b j z => by
      obtain ⟨h1, h2, h3, h4⟩ := R.of b j z
      exact ⟨h1, h2, by rw [List.length_cons]; omega, h4⟩ }
/-- a new list of one's own -/
theorem RelF.newL (R : RelF K B F O σ env ts te H) {p : Addr} (h : H p = none) {o : HO} (mo : MutO (some o)) {w : Ow} (hw : ∀ own : Addr → Prop, own p → OwO K F (upd H p o) own (.ref p) w) :
    RelF K B F (fun b => if b = p then some (σ.length + ts.length) else O b) σ env (.ref p :: ts) (.own w :: te) (upd H p o) := by
  obtain ⟨f1, f2, f3⟩ := R.fresh h
  have np : ∀ b j, O b = some j → b ≠ p := fun b j z e => by rw [e, f3] at z; cases z
  have k : ∀ j b, O b = some j → (fun b => if b = p then some (σ.length + ts.length) else O b) b = some j ∧ upd H p o b = H b := fun j b z => ⟨(if_neg (np b j z)).trans z, upd_ne (np b j z)⟩
  refine ⟨R.ln, fun i a e => ?_, ⟨hw _ ⟨if_pos rfl, f2⟩, R.tm.mono (Same.refl F) rfl (fun j _ _ b z => k j b z) (fun _ _ _ _ z => z) (fun i _ _ b z => k i b z)⟩, fun b u e => ?_, fun b j z => ?_, R.b1, fun b u hs ht e => ?_, R.b3, fun b e => ?_, R.bi, R.tb.1, R.tb.2.mono fun b o' t z => by rw [upd_ne (ne_of_none z h)]; exact z⟩
  · obtain ⟨v, e1, h⟩ := R.sl i a e
    exact ⟨v, e1, h.mono (Same.refl F) (k i) (fun _ _ => rfl) (fun _ _ _ _ z => z) (fun i' _ _ b z => k i' b z)⟩
  · rw [upd_ne (ne_of_none e f1)]
    exact R.sf b u e
  · by_cases hb : b = p
    · subst hb
      have z' : some (σ.length + ts.length) = some j := (if_pos rfl).symm.trans z
      refine ⟨f1, by rw [upd_same]; exact mo, ?_, .inl f2⟩
      rw [List.length_cons, ← Option.some.inj z']
      omega
    · have z' : O b = some j := (if_neg hb).symm.trans z
      obtain ⟨h1, h2, h3, h4⟩ := R.of b j z'
      exact ⟨h1, by rw [upd_ne hb]; exact h2, by rw [List.length_cons]; omega, h4⟩
  · rw [upd_ne (fun z => by rw [z, f2] at e; cases e)]
    exact R.b2 b u hs ht e
  · rw [upd_ne (fun z => by rw [z] at e; exact e f2)]
    exact R.b5 b e
/-- the top is dropped -/
theorem RelF.pop {v : V} {a : A} (R : RelF K B F O σ env (v :: ts) (a :: te) H) : RelF K B F (fun b => if O b = some (σ.length + ts.length) then none else O b) σ env ts te H := by
  have k : ∀ j, j ≠ σ.length + ts.length → ∀ b, O b = some j → (fun b => if O b = some (σ.length + ts.length) then none else O b) b = some j ∧ H b = H b := fun j nj b z => ⟨(if_neg (by rw [z]; exact fun y => nj (Option.some.inj y))).trans z, rfl⟩
  have cl : ∀ i a, env[i]? = some (some a) → i < σ.length := fun i a e => by rw [R.ln]; exact (List.getElem?_eq_some_iff.mp e).1
  have rf : ∀ i w, σ[i]? = some (some w) → i ≠ σ.length + ts.length := fun i w e => by have := (List.getElem?_eq_some_iff.mp e).1; omega
  have cm : ∀ {j : Nat} {v : V} {a : A}, CellO K B F H O σ j v a → j ≠ σ.length + ts.length → CellO K B F H (fun b => if O b = some (σ.length + ts.length) then none else O b) σ j v a := fun {j v a} h nj => by
    refine h.mono (Same.refl F) (k j nj) (fun _ _ => rfl) (fun _ _ _ _ z => z) (fun i kk e b z => ?_)
    rw [e] at h
    obtain ⟨w, hw, _⟩ := h
    exact k i (rf i w hw) b z
  have tm : ∀ {us : List V} {ue : List A}, us.length ≤ ts.length → TmO K B F H O σ us ue → TmO K B F H (fun b => if O b = some (σ.length + ts.length) then none else O b) σ us ue := fun {us} => by
    induction us with
    | nil => intro ue _ h; cases ue with
      | nil => trivial
      | cons => exact h.elim
    | cons u us ih =>
      intro ue hl h
      cases ue with
      | nil => exact h.elim
      | cons x ue =>
        rw [List.length_cons] at hl
        exact ⟨cm h.1 (by omega), ih (by omega) h.2⟩
  refine ⟨R.ln, fun i a e => ?_, tm (Nat.le_refl _) R.tm.2, R.sf, fun b j z => ?_, R.b1, R.b2, R.b3, R.b5, R.bi, R.tb⟩
  · obtain ⟨v, e1, h⟩ := R.sl i a e
    exact ⟨v, e1, cm h (by have := cl i a e; omega)⟩
  · by_cases hb : O b = some (σ.length + ts.length)
    · have z' : (none : Option Nat) = some j := (if_pos hb).symm.trans z
      cases z'
    · have z' : O b = some j := (if_neg hb).symm.trans z
      obtain ⟨h1, h2, h3, h4⟩ := R.of b j z'
      refine ⟨h1, h2, ?_, h4⟩
      rw [List.length_cons] at h3
      have : j ≠ σ.length + ts.length := fun y => hb (by rw [z', y])
      omega
/-- what the cell j owns is never changed any more -/
def frzF (F H : Hp) (O : Addr → Option Nat) (j : Nat) : Hp := fun b => if O b = some j then H b else F b
def frzO (O : Addr → Option Nat) (j : Nat) : Addr → Option Nat := fun b => if O b = some j then none else O b
theorem frzF_same (R : RelF K B F O σ env ts te H) (j : Nat) : Same F (frzF F H O j) := fun b o e => by
  show (if O b = some j then H b else F b) = some o
  by_cases hb : O b = some j
  · rw [(R.of b j hb).1] at e
    cases e
  · rw [if_neg hb]
    exact e
theorem frzF_sub (R : RelF K B F O σ env ts te H) (j : Nat) : Same (frzF F H O j) H := fun b o e => by
  by_cases hb : O b = some j
  · exact (if_pos hb).symm.trans e
  · exact R.sf b o ((if_neg hb).symm.trans e)
theorem frz_own (R : RelF K B F O σ env ts te H) {j : Nat} {v : V} {o : Ow} (h : CellO K B F H O σ j v (.own o)) {d : Dt} (hd : o.dt = some d) : Dn K (frzF F H O j) v d :=
  OwO.dn (own := fun a => O a = some j ∧ B.H a = none) (frzF_same R j) (fun a z => if_pos z.1) h hd
theorem RelF.frz (R : RelF K B F O σ env ts te H) {j : Nat} (hjo : B.io j = false) {env' : Env} {te' : List A} (hl : env'.length = env.length)
    (hs : ∀ i a, env'[i]? = some (some a) → (i = j ∧ ∃ v, σ[i]? = some (some v) ∧ ∃ x, a = .d x ∧ Dn K (frzF F H O j) v x) ∨ (i ≠ j ∧ env[i]? = some (some a) ∧ isNest j a = false))
    (hb : ∀ i, i ≠ j → env'[i]? = env[i]?) (tm : TmO K B (frzF F H O j) H (frzO O j) σ ts te') : RelF K B (frzF F H O j) (frzO O j) σ env' ts te' H := by
  have k : ∀ i, i ≠ j → ∀ b, O b = some i → frzO O j b = some i ∧ H b = H b := fun i ni b z => ⟨(if_neg (by rw [z]; exact fun y => ni (Option.some.inj y))).trans z, rfl⟩
  refine ⟨by rw [hl]; exact R.ln, fun i a e => ?_, tm, frzF_sub R j, fun b i z => ?_, R.b1.trans (frzF_same R j), R.b2, fun b h1 h2 => ?_, R.b5, fun i hi => ?_, R.tb⟩
  · rcases hs i a e with ⟨rfl, v, hv, x, rfl, hx⟩ | ⟨ni, e', hn⟩
    · exact ⟨v, hv, hx⟩
    · obtain ⟨v, e1, h⟩ := R.sl i a e'
      refine ⟨v, e1, h.mono (frzF_same R j) (k i ni) (fun _ _ => rfl) (fun _ _ _ _ z => z) (fun i' kk ec b z => k i' ?_ b z)⟩
      rintro rfl
      rw [ec] at hn
      simp [isNest] at hn
  · by_cases hb : O b = some j
    · have z' : (none : Option Nat) = some i := (if_pos hb).symm.trans z
      cases z'
    · have z' : O b = some i := (if_neg hb).symm.trans z
      obtain ⟨h1, h2, h3, h4⟩ := R.of b i z'
      exact ⟨(if_neg hb).trans h1, h2, h3, h4⟩
  · by_cases hb : O b = some j
    · rcases (R.of b j hb).2.2.2 with y | y
      · exact .inl y
      · rw [hjo] at y; cases y.2
    · exact R.b3 b h1 (by rw [← show frzF F H O j b = F b from if_neg hb]; exact h2)
  · rw [hb i (fun z => by rw [z, hjo] at hi; cases hi)]
    exact R.bi i hi
theorem TmO.frz (R : RelF K B F O σ env ts te H) {j : Nat} : ∀ {us : List V} {ue : List A}, TmO K B F H O σ us ue → (∀ a ∈ ue, isNest j a = false) → (j < σ.length ∨ σ.length + us.length ≤ j) → TmO K B (frzF F H O j) H (frzO O j) σ us ue
  | [], [], _, _, _ => trivial
  | v :: us, a :: ue, h, hn, hj => by
    rw [List.length_cons] at hj
    have k : ∀ i, i ≠ j → ∀ b, O b = some i → frzO O j b = some i ∧ H b = H b := fun i ni b z => ⟨(if_neg (by rw [z]; exact fun y => ni (Option.some.inj y))).trans z, rfl⟩
    refine ⟨h.1.mono (frzF_same R j) (k _ (by omega)) (fun _ _ => rfl) (fun _ _ _ _ z => z) (fun i' kk ec b z => k i' ?_ b z), TmO.frz R h.2 (fun a ha => hn a (List.mem_cons_of_mem _ ha)) (by omega)⟩
    rintro rfl
    have := hn a List.mem_cons_self
    rw [ec] at this
    simp [isNest] at this
/-- the slot i is frozen -/
theorem RelF.frzS (R : RelF K B F O σ env ts te H) {i : Nat} {o : Ow} {d : Dt} (hd : o.dt = some d) (he : env[i]? = some (some (.own o))) (nn : anyC (isRf i) env te = false) :
    RelF K B (frzF F H O i) (frzO O i) σ (env.set i (some (.d d))) ts te H := by
  have il : i < env.length := (List.getElem?_eq_some_iff.mp he).1
  have nest : ∀ a, isRf i a = false → isNest i a = false := fun a h => by
    cases a with
    | rf j p => cases p with
      | none => rfl
      | some k => exact h
    | _ => rfl
  have hjo : B.io i = false := by
    cases q : B.io i with
    | false => rfl
    | true =>
      obtain ⟨o', ho⟩ := R.bi i q
      rw [he] at ho
      cases ho
  refine R.frz hjo (by rw [List.length_set]) (fun j a e => ?_) (fun j nj => by rw [List.getElem?_set, if_neg (Ne.symm nj)]) (TmO.frz R R.tm (fun a ha => nest a (anyC_te nn ha)) (.inl (by rw [R.ln]; exact il)))
  rw [List.getElem?_set] at e
  by_cases ji : i = j
  · subst ji
    rw [if_pos rfl, if_pos il] at e
    cases e
    obtain ⟨v, hv, h⟩ := R.sl i _ he
    exact .inl ⟨rfl, v, hv, _, rfl, frz_own R h hd⟩
  · rw [if_neg ji] at e
    exact .inr ⟨Ne.symm ji, e, nest a (anyC_env nn e)⟩
/-- the top is frozen -/
theorem RelF.frzT {v : V} {o : Ow} {d : Dt} (hd : o.dt = some d) (R : RelF K B F O σ env (v :: ts) (.own o :: te) H) :
    RelF K B (frzF F H O (σ.length + ts.length)) (frzO O (σ.length + ts.length)) σ env (v :: ts) (.d d :: te) H := by
  have rfn : ∀ {j : Nat} {v : V} {a : A}, CellO K B F H O σ j v a → isNest (σ.length + ts.length) a = false := fun {j v a} h => by
    cases a with
    | rf i p =>
      obtain ⟨w, hw, _⟩ := h
      have := (List.getElem?_eq_some_iff.mp hw).1
      cases p with
      | none => rfl
      | some k =>
        show (i == σ.length + ts.length) = false
        rw [beq_eq_false_iff_ne]
        omega
    | _ => rfl
  have tn : ∀ {us : List V} {ue : List A}, TmO K B F H O σ us ue → ∀ a ∈ ue, isNest (σ.length + ts.length) a = false := fun {us} => by
    induction us with
    | nil => intro ue h a ha; cases ue with
      | nil => cases ha
      | cons => exact h.elim
    | cons u us ih =>
      intro ue h a ha
      cases ue with
      | nil => cases ha
      | cons x ue =>
        rcases List.mem_cons.mp ha with rfl | ha
        · exact rfn h.1
        · exact ih h.2 a ha
  have hjo : B.io (σ.length + ts.length) = false := by
    cases q : B.io (σ.length + ts.length) with
    | false => rfl
    | true =>
      obtain ⟨o', ho⟩ := R.bi _ q
      have := (List.getElem?_eq_some_iff.mp ho).1
      have := R.ln
      omega
  refine R.frz hjo rfl (fun i a e => .inr ⟨?_, e, ?_⟩) (fun _ _ => rfl) ⟨frz_own R R.tm.1 hd, TmO.frz R R.tm.2 (tn R.tm.2) (.inr (Nat.le_refl _))⟩
  · have : i < env.length := (List.getElem?_eq_some_iff.mp e).1
    have := R.ln
    omega
  · obtain ⟨w, hw, h⟩ := R.sl i a e
    exact rfn h
/-- the top goes into the slot i -/
theorem RelF.asg {v : V} {a : A} (R : RelF K B F O σ env (v :: ts) (a :: te) H) {i : Nat} (il : i < env.length) (nio : ∀ o, env[i]? ≠ some (some (.io o))) (nn : anyC (isRf i) env (a :: te) = false) (na : isIo a = false) :
    RelF K B F (fun b => if O b = some (σ.length + ts.length) then some i else if O b = some i then none else O b) (σ.set i (some v)) (env.set i (some a)) ts te H := by
  have ln := R.ln
  have k : ∀ j, j ≠ σ.length + ts.length → j ≠ i → ∀ b, O b = some j → (fun b => if O b = some (σ.length + ts.length) then some i else if O b = some i then none else O b) b = some j ∧ H b = H b := fun j h1 h2 b z =>
    ⟨(if_neg (by rw [z]; exact fun y => h1 (Option.some.inj y))).trans ((if_neg (by rw [z]; exact fun y => h2 (Option.some.inj y))).trans z), rfl⟩
  have rf : ∀ j w, σ[j]? = some (some w) → j ≠ σ.length + ts.length := fun j w e => by have := (List.getElem?_eq_some_iff.mp e).1; omega
  have st : ∀ j w, j ≠ i → σ[j]? = some (some w) → (σ.set i (some v))[j]? = some (some w) := fun j w nj e => by rw [List.getElem?_set, if_neg (Ne.symm nj)]; exact e
  have cm : ∀ {j : Nat} {u : V} {c : A}, CellO K B F H O σ j u c → j ≠ σ.length + ts.length → j ≠ i → isRf i c = false → CellO K B F H (fun b => if O b = some (σ.length + ts.length) then some i else if O b = some i then none else O b) (σ.set i (some v)) j u c := fun {j u c} h nj ni hc => by
    have ri : ∀ i' p, c = .rf i' p → i' ≠ i := fun i' p e z => by
      rw [e, z] at hc
      simp [isRf] at hc
    refine h.mono (Same.refl F) (k j nj ni) (fun _ _ => rfl) (fun i' p w e z => st i' w (ri i' p e) z) (fun i' kk e b z => ?_)
    have e' := ri i' _ e
    rw [e] at h
    obtain ⟨w, hw, _⟩ := h
    exact k i' (rf i' w hw) e' b z
  have tm : ∀ {us : List V} {ue : List A}, us.length ≤ ts.length → (∀ c ∈ ue, isRf i c = false) → TmO K B F H O σ us ue → TmO K B F H (fun b => if O b = some (σ.length + ts.length) then some i else if O b = some i then none else O b) (σ.set i (some v)) us ue := fun {us} => by
    induction us with
    | nil => intro ue _ _ h; cases ue with
      | nil => trivial
      | cons => exact h.elim
    | cons u us ih =>
      intro ue hl hc h
      cases ue with
      | nil => exact h.elim
      | cons x ue =>
        rw [List.length_cons] at hl
        refine ⟨?_, ih (by omega) (fun c z => hc c (List.mem_cons_of_mem _ z)) h.2⟩
        rw [List.length_set]
        exact cm h.1 (by omega) (by omega) (hc x List.mem_cons_self)
  refine ⟨by rw [List.length_set, List.length_set]; exact ln, fun j c e => ?_, tm (Nat.le_refl _) (fun c z => anyC_te nn (List.mem_cons_of_mem _ z)) R.tm.2, R.sf, fun b j z => ?_, R.b1, R.b2, R.b3, R.b5, fun j hj => ?_, R.tb⟩
  · rw [List.getElem?_set] at e
    by_cases ji : i = j
    · subst ji
      rw [if_pos rfl, if_pos il] at e
      cases e
      refine ⟨v, by rw [List.getElem?_set, if_pos rfl, if_pos (by rw [ln]; exact il)], ?_⟩
      have ha := anyC_te nn (List.mem_cons_self (a := a) (l := te))
      refine R.tm.1.mono (Same.refl F) (fun b z => ⟨if_pos z, rfl⟩) (fun o eo => ?_) (fun i' p w e z => st i' w ?_ z) (fun i' kk e b z => ?_)
      · rw [eo] at na
        simp [isIo] at na
      · rintro rfl
        rw [e] at ha
        simp [isRf] at ha
      · have hm := R.tm.1
        have ne : i' ≠ i := by
          rintro rfl
          rw [e] at ha
          simp [isRf] at ha
        rw [e] at hm
        obtain ⟨w, hw, _⟩ := hm
        exact k i' (rf i' w hw) ne b z
    · rw [if_neg ji] at e
      obtain ⟨u, e1, h⟩ := R.sl j c e
      exact ⟨u, st j u (Ne.symm ji) e1, cm h (rf j u e1) (Ne.symm ji) (anyC_env nn e)⟩
  · rw [List.length_set]
    by_cases h1 : O b = some (σ.length + ts.length)
    · have z' : some i = some j := (if_pos h1).symm.trans z
      obtain ⟨q1, q2, q3, q4⟩ := R.of b _ h1
      refine ⟨q1, q2, ?_, .inl ?_⟩
      · rw [← Option.some.inj z']
        omega
      · rcases q4 with q4 | ⟨_, q4⟩
        · exact q4
        · obtain ⟨o', ho⟩ := R.bi _ q4
          have := (List.getElem?_eq_some_iff.mp ho).1
          omega
    · have z1 : (if O b = some i then none else O b) = some j := (if_neg h1).symm.trans z
      by_cases h2 : O b = some i
      · rw [if_pos h2] at z1
        cases z1
      · rw [if_neg h2] at z1
        obtain ⟨q1, q2, q3, q4⟩ := R.of b j z1
        refine ⟨q1, q2, ?_, q4⟩
        rw [List.length_cons] at q3
        have : j ≠ σ.length + ts.length := fun y => h1 (by rw [z1, y])
        omega
  · obtain ⟨o, ho⟩ := R.bi j hj
    refine ⟨o, ?_⟩
    rw [List.getElem?_set, if_neg (fun z => nio o (by rw [z]; exact ho))]
    exact ho
end
end Tw

namespace Tw
open PySem PySem.Spec PyProof.Rows L2
/-! ### mirrors as functions: what a text does to values -/
inductive Rs (α : Type) where
  | ok (a : α) (e : Env)
  | ex (x : Xc) (e : Env)
  | bad
def Rs.bind {α β : Type} (r : Rs α) (f : α → Env → Rs β) : Rs β := match r with
  | .ok a e => f a e
  | .ex x e => .ex x e
  | .bad => .bad
@[simp] theorem Rs.bind_ok {α β : Type} (a : α) (e : Env) (f : α → Env → Rs β) : (Rs.ok a e).bind f = f a e := rfl
@[simp] theorem Rs.bind_ex {α β : Type} (x : Xc) (e : Env) (f : α → Env → Rs β) : (Rs.ex x e : Rs α).bind f = .ex x e := rfl
@[simp] theorem Rs.bind_bad {α β : Type} (f : α → Env → Rs β) : (Rs.bad : Rs α).bind f = .bad := rfl
abbrev ME := Env → List A → Rs A
abbrev MA := Env → List A → Rs (List A)
abbrev MT := Env → List A → Rs Bool
inductive Fl where
  | nx (e : Env)
  | rt (a : A) (e : Env)
  | bk (e : Env)
  | ct (e : Env)
  | ex (x : Xc) (e : Env)
  | bad
abbrev MS := Env → List A → Fl
/-- how an exception stands -/
def XIs (K : KW) (x : Xc) (us : List V) (cls : Value) (d : Option Addr) (H : Hp) : Prop := cls = .ref (He.ga K x.cls) ∧ ((x.fs = [] ∧ d = none) ∨ ∃ dx, d = some dx ∧ H dx = some (.xd ((x.fs.map (·.1)).zip us)))
/-! ### reading a cell -/
def lkD {α : Type} (kvs : List (Key × α)) (k : Key) : Option α := (kvs.find? fun kv => decide (kv.1 = k)).map (·.2)
def putD {α : Type} (kvs : List (Key × α)) (k : Key) (v : α) : List (Key × α) :=
  if (kvs.any fun kv => decide (kv.1 = k)) = true then kvs.map (fun kv => if kv.1 = k then (kv.1, v) else kv) else kvs ++ [(k, v)]
def owAt (env : Env) (i : Nat) : Option Ow := match env[i]? with
  | some (some (.own o)) => some o
  | some (some (.io o)) => some o
  | _ => none
def Ow.sub : Ow → Key → Option (List Dt)
  | .ll xss, .inl n => if 0 ≤ n then xss[n.toNat]? else none
  | .dl kvs, k => lkD kvs k
  | _, _ => none
/-- the thing that is told, if owned -/
def A.ow (env : Env) : A → Option Ow
  | .d _ => none
  | .own o => some o
  | .io o => some o
  | .rf i none => owAt env i
  | .rf i (some k) => match owAt env i with
    | some o => (o.sub k).map .l
    | none => none
  | .sc _ => none
  | .q _ => none
  | .lk _ => none
  | .xr _ => none
def A.val (env : Env) (a : A) : Option Dt := match a with
  | .d x => some x
  | .lk kvs => some (.dict kvs)
  | a => (a.ow env).bind Ow.dt
section
variable {K : KW} {B : Bs} {F H : Hp} {O : Addr → Option Nat} {σ : List (Option V)} {env : Env} {ts : List V} {te : List A} {W : WX}
theorem paired_lk {α : Type} {R : V → α → Prop} {us : List (Key × V)} {kvs : List (Key × α)} (p : Paired (fun (p : Key × V) (q : Key × α) => p.1 = q.1 ∧ R p.2 q.2) us kvs) (k : Key) :
    (∀ x, lkD kvs k = some x → ∃ v, valV us k = some v ∧ R v x) ∧ (lkD kvs k = none → valV us k = none) := by
  induction p with
  | nil => exact ⟨(fun x h => nomatch h), fun _ => rfl⟩
  | @cons p q ps qs h _ ih =>
    obtain ⟨e, r⟩ := h
    unfold lkD valV
    rw [List.find?_cons, List.find?_cons, e]
    by_cases c : q.1 = k
    · rw [decide_eq_true c]
      exact ⟨fun x h => ⟨p.2, rfl, by cases h; exact r⟩, fun h => nomatch h⟩
    · rw [decide_eq_false c]
      exact ih
theorem RelF.owAt (R : RelF K B F O σ env ts te H) {i : Nat} {o : Ow} {w : V} (h : owAt env i = some o) (hw : σ[i]? = some (some w)) : OwO K F H (fun a => O a = some i) w o := by
  unfold Tw.owAt at h
  cases e : env[i]? with
  | none => rw [e] at h; cases h
  | some c =>
    cases c with
    | none => rw [e] at h; cases h
    | some a =>
      rw [e] at h
      obtain ⟨v, hv, q⟩ := R.sl i a e
      rw [hw] at hv
      cases hv
      cases a with
      | d x => cases h
      | own o' => cases h; exact OwO.mono (own := fun a => O a = some i ∧ B.H a = none) (Same.refl F) (fun a z => z.1) (fun a z => rfl) q
      | io o' => cases h; exact q.1
      | rf j p => cases h
      | sc ns => cases h
      | q xs => cases h
      | lk xs => cases h
      | xr xs => cases h
theorem cell_ow (R : RelF K B F O σ env ts te H) {j : Nat} {v : V} {a : A} {o : Ow} (c : CellO K B F H O σ j v a) (h : a.ow env = some o) : ∃ own : Addr → Prop, OwO K F H own v o := by
  cases a with
  | d x => cases h
  | sc x => cases h
  | q x => cases h
  | lk x => cases h
  | xr x => cases h
  | own o' => cases h; exact ⟨_, c⟩
  | io o' => cases h; exact ⟨_, c.1⟩
  | rf i p =>
    obtain ⟨w, hw, q⟩ := c
    cases p with
    | none => cases q; exact ⟨_, R.owAt h hw⟩
    | some k =>
      have h' : (match Tw.owAt env i with | some o => (o.sub k).map Ow.l | none => none) = some o := h
      cases e : Tw.owAt env i with
      | none => rw [e] at h'; cases h'
      | some u =>
        rw [e] at h'
        obtain ⟨a, ew, oa, q⟩ := q
        have z := R.owAt e hw
        cases hs : u.sub k with
        | none => rw [show (match some u with | some o => (o.sub k).map Ow.l | none => none) = (u.sub k).map Ow.l from rfl, hs] at h'; cases h'
        | some xs =>
          rw [show (match some u with | some o => (o.sub k).map Ow.l | none => none) = (u.sub k).map Ow.l from rfl, hs] at h'
          cases h'
          refine ⟨fun a => O a = some i, ?_⟩
          cases u with
          | l _ => cases hs
          | dc _ => cases hs
          | x _ => cases hs
          | ll xss =>
            obtain ⟨a', vs, e1, o1, h1, n1, m1, p1⟩ := z
            rw [ew] at e1
            cases e1
            cases k with
            | inr _ => cases hs
            | inl n =>
              have hs' : (if 0 ≤ n then xss[n.toNat]? else none) = some xs := hs
              by_cases n0 : 0 ≤ n
              · rw [if_pos n0] at hs'
                rcases q with ⟨vs', m, em, m0, hv, hq⟩ | ⟨us, hu, _⟩
                · cases em
                  rw [h1] at hv
                  cases hv
                  obtain ⟨x, hx, r⟩ := paired_getR p1 hs'
                  rw [hq] at hx
                  cases hx
                  exact r
                · rw [h1] at hu; cases hu
              · rw [if_neg n0] at hs'; cases hs'
          | dl kvs =>
            obtain ⟨a', us, e1, o1, h1, n1, m1, p1⟩ := z
            rw [ew] at e1
            cases e1
            rcases q with ⟨vs', m, em, m0, hv, hq⟩ | ⟨us', hu, hq⟩
            · rw [h1] at hv; cases hv
            · rw [h1] at hu
              cases hu
              obtain ⟨x, hx, r⟩ := (paired_lk (R := OwL K F H fun a => O a = some i) p1 k).1 xs hs
              rw [hq] at hx
              cases hx
              exact r
theorem owo_H {own : Addr → Prop} {v : V} {o : Ow} (s : Same F H) (h : OwO K F H own v o) {d : Dt} (hd : o.dt = some d) : Dn K H v d := OwO.dn s (fun _ _ => rfl) h hd
theorem cell_val (R : RelF K B F O σ env ts te H) {j : Nat} {v : V} {a : A} {x : Dt} (c : CellO K B F H O σ j v a) (h : a.val env = some x) : Dn K H v x := by
  have g : ∀ o, a.ow env = some o → o.dt = some x → Dn K H v x := fun o e1 e2 => by
    obtain ⟨own, q⟩ := cell_ow R c e1
    exact owo_H R.sf q e2
  have g2 : (a.ow env).bind Ow.dt = some x → Dn K H v x := fun h => by
    cases e : a.ow env with
    | none => rw [e] at h; cases h
    | some o => rw [e] at h; exact g o e h
  cases a with
  | d y => cases h; exact Dn.same R.sf c
  | own o => exact g2 h
  | io o => exact g2 h
  | rf i p => exact g2 h
  | sc x => exact g2 h
  | q x => exact g2 h
  | lk kvs =>
    cases h
    obtain ⟨a, o, us, e, q, d⟩ := c
    subst e
    exact .dct (.inr ⟨o, R.sf _ _ (R.b1 _ _ q)⟩) (d.same (R.b1.trans R.sf))
  | xr x => exact g2 h
/-- the items of a list -/
def Ow.lst? : Ow → Option (List Dt)
  | .l xs => some xs
  | _ => none
def A.lstT? (env : Env) (a : A) : Option (List Dt) := match a with
  | .d (.list xs) => some xs
  | .d _ => none
  | a => (a.ow env).bind Ow.lst?
def A.lst? (env : Env) (a : A) : Option (List Dt) := match a with
  | .sc ns => some (ns.map .int)
  | a => a.lstT? env
def A.tup? : A → Option (List Dt)
  | .d (.tuple xs) => some xs
  | .q xs => some xs
  | _ => none
theorem dn_ints : ∀ ns : List Int, DnAll K F (ns.map V.int) (ns.map .int)
  | [] => .nil
  | n :: ns => .cons (.int n) (dn_ints ns)
theorem cell_lstT (R : RelF K B F O σ env ts te H) {j : Nat} {v : V} {a : A} {xs : List Dt} (c : CellO K B F H O σ j v a) (h : a.lstT? env = some xs) : ∃ p vs, v = .ref p ∧ H p = some (.lst vs) ∧ DnAll K F vs xs := by
  have g2 : (a.ow env).bind Ow.lst? = some xs → ∃ p vs, v = .ref p ∧ H p = some (.lst vs) ∧ DnAll K F vs xs := fun h => by
    cases e : a.ow env with
    | none => rw [e] at h; cases h
    | some o =>
      rw [e] at h
      obtain ⟨own, q⟩ := cell_ow R c e
      cases o with
      | l ys =>
        cases h
        obtain ⟨p, vs, e1, _, h1, d⟩ := q
        exact ⟨p, vs, e1, h1, d⟩
      | _ => cases h
  cases a with
  | d y =>
    cases y with
    | list ys =>
      cases h
      cases c with
      | lst h1 h2 => exact ⟨_, _, rfl, R.sf _ _ h1, h2⟩
    | _ => cases h
  | own o => exact g2 h
  | io o => exact g2 h
  | rf i p => exact g2 h
  | sc x => exact g2 h
  | q x => exact g2 h
  | lk x => exact g2 h
  | xr x => exact g2 h
theorem cell_lst (R : RelF K B F O σ env ts te H) {j : Nat} {v : V} {a : A} {xs : List Dt} (c : CellO K B F H O σ j v a) (h : a.lst? env = some xs) : ∃ p vs, v = .ref p ∧ SqL K H p vs ∧ DnAll K F vs xs := by
  have g : a.lstT? env = some xs → ∃ p vs, v = .ref p ∧ SqL K H p vs ∧ DnAll K F vs xs := fun h => by
    obtain ⟨p, vs, e, h1, h2⟩ := cell_lstT R c h
    exact ⟨p, vs, e, .inl (.inl h1), h2⟩
  cases a with
  | sc ns =>
    cases h
    obtain ⟨p, e, q⟩ := c
    exact ⟨p, _, e, Same.sqL R.sf q, dn_ints ns⟩
  | d x => exact g h
  | own o => exact g h
  | io o => exact g h
  | rf i p => exact g h
  | q x => exact g h
  | lk x => exact g h
  | xr x => exact g h
theorem cell_tup (R : RelF K B F O σ env ts te H) {j : Nat} {v : V} {a : A} {xs : List Dt} (c : CellO K B F H O σ j v a) (h : a.tup? = some xs) : ∃ p vs, v = .ref p ∧ SqT K H p vs ∧ SqT K F p vs ∧ DnAll K F vs xs := by
  cases a with
  | d y =>
    cases y with
    | tuple ys =>
      cases h
      cases c with
      | tup h1 h2 => exact ⟨_, _, rfl, Same.sqT' R.sf h1.sq, h1.sq, h2⟩
    | _ => cases h
  | q ys =>
    cases h
    obtain ⟨p, vs, e, h1, h2⟩ := c
    exact ⟨p, vs, e, Same.sqT' R.sf h1, h1, h2⟩
  | _ => cases h
theorem dn_tup {v : V} {xs : List Dt} (c : Dn K F v (.tuple xs)) : ∃ p vs, v = .ref p ∧ TupN K F p vs ∧ DnAll K F vs xs := by
  cases c with
  | tup h1 h2 => exact ⟨_, _, rfl, h1, h2⟩
/-! ### what is put on top -/
theorem RelF.rel (R : RelF K B F O σ env ts te H) : Rel K B σ env ts te H := ⟨F, O, R⟩
theorem RelF.pushD (R : RelF K B F O σ env ts te H) {v : V} {x : Dt} (h : Dn K F v x) : Rel K B σ env (v :: ts) (.d x :: te) H := ⟨F, O, R.push (a := .d x) h⟩
theorem RelF.pushT (R : RelF K B F O σ env ts te H) {p : Addr} (h : H p = none) {ob : Obj} (hob : ob.dict = none) {vs : List V} {xs : List Dt} (d : DnAll K F vs xs) : Rel K B σ env (.ref p :: ts) (.d (.tuple xs) :: te) (upd H p (.frz ob (.tup vs))) := by
  have R' := R.new h (.frz ob (.tup vs))
  exact R'.pushD (.tup (.inl ⟨ob, upd_same, hob⟩) (d.same (same_newV (R.fresh h).1)))
theorem RelF.pushL (R : RelF K B F O σ env ts te H) {p : Addr} (h : H p = none) {vs : List V} {xs : List Dt} (d : DnAll K F vs xs) : Rel K B σ env (.ref p :: ts) (.own (.l xs) :: te) (upd H p (.lst vs)) :=
  ⟨F, _, R.newL h (o := .lst vs) (mutO_lst vs) (w := .l xs) fun own hp => ⟨p, vs, rfl, hp, upd_same, d⟩⟩
theorem Rel.pop {v : V} {a : A} (R : Rel K B σ env (v :: ts) (a :: te) H) : Rel K B σ env ts te H := by
  obtain ⟨F, O, R⟩ := R
  exact ⟨F, _, R.pop⟩
theorem Rel.len (R : Rel K B σ env ts te H) : σ.length = env.length ∧ ts.length = te.length := by
  obtain ⟨F, O, R⟩ := R
  exact ⟨R.ln, R.tm.len⟩
theorem popN : ∀ {us : List V} {ue : List A} {O : Addr → Option Nat}, us.length = ue.length → RelF K B F O σ env (us ++ ts) (ue ++ te) H → ∃ O', RelF K B F O' σ env ts te H
  | [], [], O, _, R => ⟨O, R⟩
  | [], _ :: _, _, h, _ => nomatch h
  | _ :: _, [], _, h, _ => nomatch h
  | u :: us, a :: ue, O, h, R => popN (Nat.succ.inj h) (RelF.pop (v := u) (a := a) R)
theorem Rel.popN {us : List V} {ue : List A} (R : Rel K B σ env (us ++ ts) (ue ++ te) H) (h : us.length = ue.length) : Rel K B σ env ts te H := by
  obtain ⟨F, O, R⟩ := R
  obtain ⟨O', R'⟩ := Tw.popN h R
  exact ⟨F, O', R'⟩
end

section
variable {K : KW} {B : Bs} {W : WX}
def XPost (K : KW) (B : Bs) (W : WX) (σ : L2.St) (ts : List V) (te : List A) (x : Xc) (e : Env) : Prop := ∀ cls d H us F O, RelF K B F O σ e ts te H → DnAll K F us (x.fs.map (·.2)) → XIs K x us cls d F → W cls d σ H
def PE' (K : KW) (B : Bs) (W : WX) (σ : L2.St) (ts : List V) (te : List A) (Q : VK) : Rs A → Prop
  | .ok a e => ∀ v H, Rel K B σ e (v :: ts) (a :: te) H → Q v H
  | .ex x e => XPost K B W σ ts te x e
  | .bad => False
def PA' (K : KW) (B : Bs) (W : WX) (σ : L2.St) (ts : List V) (te : List A) (Q : List V → Hp → Prop) : Rs (List A) → Prop
  | .ok as e => ∀ vs H, vs.length = as.length → Rel K B σ e (vs.reverse ++ ts) (as.reverse ++ te) H → Q vs H
  | .ex x e => XPost K B W σ ts te x e
  | .bad => False
def PT' (K : KW) (B : Bs) (W : WX) (σ : L2.St) (ts : List V) (te : List A) (Q : Bool → Hp → Prop) : Rs Bool → Prop
  | .ok b e => ∀ H, Rel K B σ e ts te H → Q b H
  | .ex x e => XPost K B W σ ts te x e
  | .bad => False
def PS' (K : KW) (B : Bs) (W : WX) (ts : List V) (te : List A) (D : Ends) : Fl → Prop
  | .nx e => ∀ σ H, Rel K B σ e ts te H → D.nx σ H
  | .rt a e => ∀ v σ ts' te' H, Rel K B σ e (v :: ts') (a :: te') H → D.rt v H
  | .bk e => ∀ σ H, Rel K B σ e ts te H → D.bk σ H
  | .ct e => ∀ σ H, Rel K B σ e ts te H → D.ct σ H
  | .ex x e => ∀ σ, XPost K B W σ ts te x e
  | .bad => False
def SE (K : KW) (B : Bs) (W : WX) (t : TE) (m : ME) : Prop := ∀ σ env ts te H Q, Rel K B σ env ts te H → PE' K B W σ ts te Q (m env te) → t σ H Q
def SA (K : KW) (B : Bs) (W : WX) (t : TA) (m : MA) : Prop := ∀ σ env ts te H Q, Rel K B σ env ts te H → PA' K B W σ ts te Q (m env te) → t σ H Q
def ST (K : KW) (B : Bs) (W : WX) (t : TT) (m : MT) : Prop := ∀ σ env ts te H Q, Rel K B σ env ts te H → PT' K B W σ ts te Q (m env te) → t σ H Q
def SS (K : KW) (B : Bs) (W : WX) (t : TS) (m : MS) : Prop := ∀ σ env ts te H D, Rel K B σ env ts te H → PS' K B W ts te D (m env te) → t D σ H
theorem XPost.push {σ : L2.St} {ts : List V} {te : List A} {x : Xc} {e : Env} (h : XPost K B W σ ts te x e) (v : V) (a : A) : XPost K B W σ (v :: ts) (a :: te) x e :=
  fun cls d H us F O R => h cls d H us F _ R.pop
theorem SE.thE {t : TE} {m : ME} (h : SE K B W t m) {σ : L2.St} {env : Env} {ts : List V} {te : List A} {H : Hp} {Q Q0 : VK} (R : Rel K B σ env ts te H) {f : A → Env → Rs A} (p : PE' K B W σ ts te Q0 ((m env te).bind f))
    (hok : ∀ a e, PE' K B W σ ts te Q0 (f a e) → ∀ v H', Rel K B σ e (v :: ts) (a :: te) H' → Q v H') : t σ H Q := by
  refine h σ env ts te H Q R ?_
  cases e : m env te with
  | ok a e' => rw [e] at p; exact hok a e' p
  | ex x e' => rw [e] at p; exact p
  | bad => rw [e] at p; exact p
theorem SE.thT {t : TE} {m : ME} (h : SE K B W t m) {σ : L2.St} {env : Env} {ts : List V} {te : List A} {H : Hp} {Q : VK} {Q0 : Bool → Hp → Prop} (R : Rel K B σ env ts te H) {f : A → Env → Rs Bool} (p : PT' K B W σ ts te Q0 ((m env te).bind f))
    (hok : ∀ a e, PT' K B W σ ts te Q0 (f a e) → ∀ v H', Rel K B σ e (v :: ts) (a :: te) H' → Q v H') : t σ H Q := by
  refine h σ env ts te H Q R ?_
  cases e : m env te with
  | ok a e' => rw [e] at p; exact hok a e' p
  | ex x e' => rw [e] at p; exact p
  | bad => rw [e] at p; exact p
theorem SE.thA {t : TE} {m : ME} (h : SE K B W t m) {σ : L2.St} {env : Env} {ts : List V} {te : List A} {H : Hp} {Q : VK} {Q0 : List V → Hp → Prop} (R : Rel K B σ env ts te H) {f : A → Env → Rs (List A)} (p : PA' K B W σ ts te Q0 ((m env te).bind f))
    (hok : ∀ a e, PA' K B W σ ts te Q0 (f a e) → ∀ v H', Rel K B σ e (v :: ts) (a :: te) H' → Q v H') : t σ H Q := by
  refine h σ env ts te H Q R ?_
  cases e : m env te with
  | ok a e' => rw [e] at p; exact hok a e' p
  | ex x e' => rw [e] at p; exact p
  | bad => rw [e] at p; exact p
theorem ST.thE {t : TT} {m : MT} (h : ST K B W t m) {σ : L2.St} {env : Env} {ts : List V} {te : List A} {H : Hp} {Q : Bool → Hp → Prop} {Q0 : VK} (R : Rel K B σ env ts te H) {f : Bool → Env → Rs A} (p : PE' K B W σ ts te Q0 ((m env te).bind f))
    (hok : ∀ a e, PE' K B W σ ts te Q0 (f a e) → ∀ H', Rel K B σ e ts te H' → Q a H') : t σ H Q := by
  refine h σ env ts te H Q R ?_
  cases e : m env te with
  | ok a e' => rw [e] at p; exact hok a e' p
  | ex x e' => rw [e] at p; exact p
  | bad => rw [e] at p; exact p
theorem ST.thT {t : TT} {m : MT} (h : ST K B W t m) {σ : L2.St} {env : Env} {ts : List V} {te : List A} {H : Hp} {Q Q0 : Bool → Hp → Prop} (R : Rel K B σ env ts te H) {f : Bool → Env → Rs Bool} (p : PT' K B W σ ts te Q0 ((m env te).bind f))
    (hok : ∀ a e, PT' K B W σ ts te Q0 (f a e) → ∀ H', Rel K B σ e ts te H' → Q a H') : t σ H Q := by
  refine h σ env ts te H Q R ?_
  cases e : m env te with
  | ok a e' => rw [e] at p; exact hok a e' p
  | ex x e' => rw [e] at p; exact p
  | bad => rw [e] at p; exact p
theorem SA.thE {t : TA} {m : MA} (h : SA K B W t m) {σ : L2.St} {env : Env} {ts : List V} {te : List A} {H : Hp} {Q : List V → Hp → Prop} {Q0 : VK} (R : Rel K B σ env ts te H) {f : List A → Env → Rs A} (p : PE' K B W σ ts te Q0 ((m env te).bind f))
    (hok : ∀ as e, PE' K B W σ ts te Q0 (f as e) → ∀ vs H', vs.length = as.length → Rel K B σ e (vs.reverse ++ ts) (as.reverse ++ te) H' → Q vs H') : t σ H Q := by
  refine h σ env ts te H Q R ?_
  cases e : m env te with
  | ok a e' => rw [e] at p; exact hok a e' p
  | ex x e' => rw [e] at p; exact p
  | bad => rw [e] at p; exact p
end
end Tw

namespace Tw
open PySem PySem.Spec PyProof.Rows L2
/-! ### expressions -/
def vA (i : Nat) : A → A
  | .own _ => .rf i none
  | .io _ => .rf i none
  | a => a
def mVar (i : Nat) : ME := fun env _ => match env[i]? with
  | some (some a) => .ok (vA i a) env
  | _ => .bad
def mC (x : Dt) : ME := fun env _ => .ok (.d x) env
def mNil : MA := fun env _ => .ok [] env
def mCons (m : ME) (r : MA) : MA := fun env te => (m env te).bind fun a e1 => (r e1 (a :: te)).bind fun as e2 => .ok (a :: as) e2
/-- made a datum -/
def frzA (a : A) (env : Env) (te : List A) : Option (Dt × Env) := match a with
  | .d x => some (x, env)
  | .own o => o.dt.map fun x => (x, env)
  | .rf i none => match env[i]? with
    | some (some (.own o)) => if anyC (isRf i) env te = false then o.dt.map (fun x => (x, env.set i (some (.d x)))) else none
    | _ => none
  | _ => none
def mD (m : ME) : ME := fun env te => (m env te).bind fun a e => match frzA a e te with
  | some (x, e') => .ok (.d x) e'
  | none => .bad
def mOp (f : Env → A → A → Rs A) (ma mb : ME) : ME := fun env te => (ma env te).bind fun a e1 => (mb e1 (a :: te)).bind fun b e2 => f e2 a b
def mU (f : Env → A → Rs A) (ma : ME) : ME := fun env te => (ma env te).bind fun a e1 => f e1 a
def mCB (f : Env → List A → Rs A) (m : MA) : ME := fun env te => (m env te).bind fun as e => f e as
def vOf : Dt → V
  | .bool b => .bl b
  | .int i => .int i
  | .str s => .str s
  | _ => .non
def flatD : Dt → Bool
  | .none => true
  | .bool _ => true
  | .int _ => true
  | .str s => decide (s.length ≤ sizeLine)
  | _ => false
theorem dn_flat {K : KW} {F : Hp} : ∀ {z : Dt}, flatD z = true → Dn K F (vOf z) z
  | .none, _ => .non
  | .bool b, _ => .bl b
  | .int i, _ => .int i
  | .str s, h => .str s (of_decide_eq_true h)
  | .list _, h => nomatch h
  | .tuple _, h => nomatch h
  | .dict _, h => nomatch h
/-- a flat answer of data -/
def fl2 (g : Dt → Dt → Option Dt) : Env → A → A → Rs A := fun env a b => match a.val env, b.val env with
  | some x, some y => match g x y with
    | some z => .ok (.d z) env
    | none => .bad
  | _, _ => .bad
def fl1 (g : Dt → Option Dt) : Env → A → Rs A := fun env a => match a.val env with
  | some x => match g x with
    | some z => .ok (.d z) env
    | none => .bad
  | none => .bad
section
variable {K : KW} {B : Bs} {W : WX}
def SO1 (K : KW) (B : Bs) (W : WX) (r : V → Hp → VK → Prop) (f : Env → A → Rs A) : Prop := ∀ σ env ts te H Q v a, Rel K B σ env (v :: ts) (a :: te) H → PE' K B W σ ts te Q (f env a) → r v H Q
def SO2 (K : KW) (B : Bs) (W : WX) (r : R2) (f : Env → A → A → Rs A) : Prop := ∀ σ env ts te H Q v u a b, Rel K B σ env (u :: v :: ts) (b :: a :: te) H → PE' K B W σ ts te Q (f env a b) → r v u H Q
def SOA (K : KW) (B : Bs) (W : WX) (r : List V → Hp → VK → Prop) (f : Env → List A → Rs A) : Prop := ∀ σ env ts te H Q vs as, vs.length = as.length → Rel K B σ env (vs.reverse ++ ts) (as.reverse ++ te) H → PE' K B W σ ts te Q (f env as) → r vs H Q
theorem se_var (i : Nat) : SE K B W (tVar i) (mVar i) := by
  intro σ env ts te H Q R p
  obtain ⟨F, O, R⟩ := R
  unfold mVar at p
  cases e : env[i]? with
  | none => rw [e] at p; exact p.elim
  | some c =>
    cases c with
    | none => rw [e] at p; exact p.elim
    | some a =>
      rw [e] at p
      obtain ⟨v, hv, q⟩ := R.sl i a e
      refine ⟨v, hv, ?_⟩
      cases a with
      | d x => exact p v H (R.pushD q)
      | own o => exact p v H ⟨F, O, R.push (a := .rf i none) ⟨v, hv, rfl⟩⟩
      | io o => exact p v H ⟨F, O, R.push (a := .rf i none) ⟨v, hv, rfl⟩⟩
      | rf j q' => exact p v H ⟨F, O, R.push (a := .rf j q') q⟩
      | sc ns => exact p v H ⟨F, O, R.push (a := .sc ns) q⟩
      | q xs => exact p v H ⟨F, O, R.push (a := .q xs) q⟩
      | lk xs => exact p v H ⟨F, O, R.push (a := .lk xs) q⟩
      | xr xs => exact p v H ⟨F, O, R.push (a := .xr xs) q⟩
theorem se_c {x : Dt} (hf : flatD x = true) : SE K B W (tC (vOf x)) (mC x) := by
  intro σ env ts te H Q R p
  obtain ⟨F, O, R⟩ := R
  exact p _ H (R.pushD (dn_flat hf))
theorem se_non : SE K B W (tC .non) (mC .none) := se_c (x := .none) rfl
theorem se_bl (b : Bool) : SE K B W (tC (.bl b)) (mC (.bool b)) := se_c (x := .bool b) rfl
theorem se_int (i : Int) : SE K B W (tC (.int i)) (mC (.int i)) := se_c (x := .int i) rfl
theorem se_str (s : Str) (h : decide (s.length ≤ sizeLine) = true) : SE K B W (tC (.str s)) (mC (.str s)) := se_c (x := .str s) h
theorem sa_nil : SA K B W tNil mNil := fun σ env ts te H Q R p => p [] H rfl R
theorem sa_cons {t : TE} {tr : TA} {m : ME} {r : MA} (h1 : SE K B W t m) (h2 : SA K B W tr r) : SA K B W (tCons t tr) (mCons m r) := by
  intro σ env ts te H Q R p
  refine h1.thA R p (fun a e p v H' R' => ?_)
  refine h2 σ e (v :: ts) (a :: te) H' _ R' ?_
  have p : PA' K B W σ ts te Q ((r e (a :: te)).bind fun as e2 => .ok (a :: as) e2) := p
  cases q : r e (a :: te) with
  | ok as e2 =>
    rw [q] at p
    intro vs H2 hl R2
    refine p (v :: vs) H2 (congrArg (· + 1) hl) ?_
    rw [List.reverse_cons, List.append_assoc, List.reverse_cons, List.append_assoc]
    exact R2
  | ex x e2 => rw [q] at p; exact XPost.push p v a
  | bad => rw [q] at p; exact p
theorem rel_frz {σ : L2.St} {env e' : Env} {ts : List V} {te : List A} {H : Hp} {v : V} {a : A} {x : Dt} (R : Rel K B σ env (v :: ts) (a :: te) H) (h : frzA a env te = some (x, e')) : Rel K B σ e' (v :: ts) (.d x :: te) H := by
  obtain ⟨F, O, R⟩ := R
  cases a with
  | d y => cases h; exact ⟨F, O, R⟩
  | own o =>
    have h : o.dt.map (fun x => (x, env)) = some (x, e') := h
    cases hd : o.dt with
    | none => rw [hd] at h; cases h
    | some d => rw [hd] at h; cases h; exact ⟨_, _, R.frzT hd⟩
  | io o => cases h
  | sc ns => cases h
  | q ns => cases h
  | lk ns => cases h
  | xr ns => cases h
  | rf i p =>
    cases p with
    | some k => cases h
    | none =>
      cases e : env[i]? with
      | none => simp [frzA, e] at h
      | some c =>
        cases c with
        | none => simp [frzA, e] at h
        | some a =>
          cases a with
          | own o =>
            simp only [frzA, e] at h
            split at h
            · rename_i nn
              cases hd : o.dt with
              | none => rw [hd] at h; cases h
              | some d =>
              rw [hd] at h
              cases h
              obtain ⟨w, hw, q⟩ := R.tm.1
              have q : v = w := q
              subst q
              have R1 := (R.pop).frzS hd e nn
              obtain ⟨v', hv', h'⟩ := R1.sl i (.d x) (by rw [List.getElem?_set, if_pos rfl, if_pos (List.getElem?_eq_some_iff.mp e).1])
              rw [hw] at hv'
              cases hv'
              exact R1.pushD h'
            · cases h
          | _ => simp [frzA, e] at h
theorem se_D {t : TE} {m : ME} (h : SE K B W t m) : SE K B W t (mD m) := by
  intro σ env ts te H Q R p
  refine h.thE R p (fun a e p v H' R' => ?_)
  have p : PE' K B W σ ts te Q (match frzA a e te with | some (x, e') => .ok (.d x) e' | none => .bad) := p
  cases q : frzA a e te with
  | none => rw [q] at p; exact p.elim
  | some y => rw [q] at p; exact p v H' (rel_frz R' q)
theorem se_op {r : R2} {f : Env → A → A → Rs A} {ta tb : TE} {ma mb : ME} (o : SO2 K B W r f) (ha : SE K B W ta ma) (hb : SE K B W tb mb) : SE K B W (tOp r ta tb) (mOp f ma mb) := by
  intro σ env ts te H Q R p
  refine ha.thE R p (fun a e p v H' R' => ?_)
  refine hb σ e (v :: ts) (a :: te) H' _ R' ?_
  have p : PE' K B W σ ts te Q ((mb e (a :: te)).bind fun b e2 => f e2 a b) := p
  cases q : mb e (a :: te) with
  | ok b e2 =>
    rw [q] at p
    intro u H2 R2
    exact o σ e2 ts te H2 Q v u a b R2 p
  | ex x e2 => rw [q] at p; exact XPost.push p v a
  | bad => rw [q] at p; exact p
theorem se_cb {r : List V → Hp → VK → Prop} {f : Env → List A → Rs A} {t : TA} {m : MA} (o : SOA K B W r f) (h : SA K B W t m) : SE K B W (tCB r t) (mCB f m) := by
  intro σ env ts te H Q R p
  refine h σ env ts te H _ R ?_
  have p : PE' K B W σ ts te Q ((m env te).bind fun as e => f e as) := p
  cases q : m env te with
  | ok as e => rw [q] at p; intro vs H2 hl R2; exact o σ e ts te H2 Q vs as hl R2 p
  | ex x e2 => rw [q] at p; exact p
  | bad => rw [q] at p; exact p
/-! ### flat answers -/
def OpS (K : KW) (r : R2) (f : Dt → Dt → Option Dt) : Prop := ∀ H x y dx dy z Q, Dn K H x dx → Dn K H y dy → f dx dy = some z → flatD z = true ∧ (Q (vOf z) H → r x y H Q)
def UnS (K : KW) (r : V → Hp → VK → Prop) (f : Dt → Option Dt) : Prop := ∀ H x dx z Q, Dn K H x dx → f dx = some z → flatD z = true ∧ (Q (vOf z) H → r x H Q)
theorem so2_fl {r : R2} {g : Dt → Dt → Option Dt} (o : OpS K r g) : SO2 K B W r (fl2 g) := by
  intro σ env ts te H Q v u a b R p
  obtain ⟨F, O, R⟩ := R
  unfold fl2 at p
  cases e1 : a.val env with
  | none => rw [e1] at p; exact p.elim
  | some x =>
    cases e2 : b.val env with
    | none => rw [e1, e2] at p; exact p.elim
    | some y =>
      rw [e1, e2] at p
      cases e3 : g x y with
      | none => simp only [e3] at p; exact p.elim
      | some z =>
        simp only [e3] at p
        obtain ⟨hf, hr⟩ := o H v u x y z Q (cell_val R R.tm.2.1 e1) (cell_val R R.tm.1 e2) e3
        exact hr (p _ H (R.pop.pop.pushD (dn_flat hf)))
theorem so1_fl {r : V → Hp → VK → Prop} {g : Dt → Option Dt} (o : UnS K r g) : SO1 K B W r (fl1 g) := by
  intro σ env ts te H Q v a R p
  obtain ⟨F, O, R⟩ := R
  unfold fl1 at p
  cases e1 : a.val env with
  | none => rw [e1] at p; exact p.elim
  | some x =>
    rw [e1] at p
    cases e3 : g x with
    | none => simp only [e3] at p; exact p.elim
    | some z =>
      simp only [e3] at p
      obtain ⟨hf, hr⟩ := o H v x z Q (cell_val R R.tm.1 e1) e3
      exact hr (p _ H (R.pop.pushD (dn_flat hf)))
/-! ### tests -/
def tstA (a : A) (e : Env) : Rs Bool := match a with
  | .d (.bool b) => .ok b e
  | _ => .bad
def mTst (m : ME) : MT := fun env te => (m env te).bind tstA
def mAnd (a b : MT) : MT := fun env te => (a env te).bind fun c e => if c = true then b e te else .ok false e
def mOr (a b : MT) : MT := fun env te => (a env te).bind fun c e => if c = true then .ok true e else b e te
def mNot (a : MT) : MT := fun env te => (a env te).bind fun c e => .ok (!c) e
def mYes : MT := fun env _ => .ok true env
theorem tst_aux {σ : L2.St} {ts : List V} {te : List A} {H : Hp} {Q : Bool → Hp → Prop} {v : V} {a : A} {e : Env} (R : Rel K B σ e (v :: ts) (a :: te) H)
    (p : PT' K B W σ ts te Q (tstA a e)) : ∃ b, v = .bl b ∧ Q b H := by
  obtain ⟨F, O, R⟩ := R
  cases a with
  | d x =>
    cases x with
    | bool b =>
      have c : Dn K F v (.bool b) := R.tm.1
      cases c
      exact ⟨b, rfl, p H R.pop.rel⟩
    | _ => exact p.elim
  | _ => exact p.elim
theorem st_B {t : TE} {m : ME} (h : SE K B W t m) : ST K B W (tB t) (mTst m) := by
  intro σ env ts te H Q R p
  exact h.thT R p (fun a e p v H' R' => tst_aux R' p)
theorem st_Test {t : TE} {m : ME} (h : SE K B W t m) : ST K B W (tTest t) (mTst m) := st_B h
theorem st_or {t u : TT} {m n : MT} (h1 : ST K B W t m) (h2 : ST K B W u n) : ST K B W (tOr t u) (mOr m n) := by
  intro σ env ts te H Q R p
  refine h1.thT R p (fun b e p H' R' => ?_)
  cases b with
  | true => rw [if_pos rfl]; exact p H' R'
  | false => rw [if_neg Bool.false_ne_true]; exact h2 σ e ts te H' Q R' p
theorem st_not {t : TT} {m : MT} (h1 : ST K B W t m) : ST K B W (tNot t) (mNot m) := by
  intro σ env ts te H Q R p
  exact h1.thT R p (fun b e p H' R' => p H' R')
theorem st_yes : ST K B W tYes mYes := fun σ env ts te H Q R p => p H R
/-- conditional, and, or, not as values -/
def mIfE (c : MT) (a b : ME) : ME := fun env te => (c env te).bind fun x e => if x = true then a e te else b e te
theorem se_if {t : TT} {ta tb : TE} {m : MT} {ma mb : ME} (h : ST K B W t m) (ha : SE K B W ta ma) (hb : SE K B W tb mb) : SE K B W (tIf t ta tb) (mIfE m ma mb) := by
  intro σ env ts te H Q R p
  refine h.thE R p (fun b e p H' R' => ?_)
  cases b with
  | true => rw [if_pos rfl]; exact ha σ e ts te H' Q R' p
  | false => rw [if_neg Bool.false_ne_true]; exact hb σ e ts te H' Q R' p
def mAndE (a b : ME) : ME := fun env te => (mTst a env te).bind fun c e => if c = true then b e te else .ok (.d (.bool false)) e
def mOrE (a b : ME) : ME := fun env te => (mTst a env te).bind fun c e => if c = true then .ok (.d (.bool true)) e else b e te
def mNotE (a : ME) : ME := fun env te => (mTst a env te).bind fun c e => .ok (.d (.bool (!c))) e
end
end Tw

namespace Tw
open PySem PySem.Spec PyProof.Rows L2
/-! ### statements -/
def Rs.fl {α : Type} (r : Rs α) (f : α → Env → Fl) : Fl := match r with
  | .ok a e => f a e
  | .ex x e => .ex x e
  | .bad => .bad
@[simp] theorem Rs.fl_ok {α : Type} (a : α) (e : Env) (f : α → Env → Fl) : (Rs.ok a e).fl f = f a e := rfl
@[simp] theorem Rs.fl_ex {α : Type} (x : Xc) (e : Env) (f : α → Env → Fl) : (Rs.ex x e : Rs α).fl f = .ex x e := rfl
@[simp] theorem Rs.fl_bad {α : Type} (f : α → Env → Fl) : (Rs.bad : Rs α).fl f = .bad := rfl
def Fl.th (r : Fl) (f : Env → Fl) : Fl := match r with
  | .nx e => f e
  | r => r
@[simp] theorem Fl.th_nx (e : Env) (f : Env → Fl) : (Fl.nx e).th f = f e := rfl
@[simp] theorem Fl.th_rt (a : A) (e : Env) (f : Env → Fl) : (Fl.rt a e).th f = .rt a e := rfl
@[simp] theorem Fl.th_bk (e : Env) (f : Env → Fl) : (Fl.bk e).th f = .bk e := rfl
@[simp] theorem Fl.th_ct (e : Env) (f : Env → Fl) : (Fl.ct e).th f = .ct e := rfl
@[simp] theorem Fl.th_ex (x : Xc) (e : Env) (f : Env → Fl) : (Fl.ex x e).th f = .ex x e := rfl
@[simp] theorem Fl.th_bad (f : Env → Fl) : (Fl.bad).th f = .bad := rfl
/-- a slot that may be set -/
def setOk (i : Nat) (a : A) (env : Env) (te : List A) : Bool := decide (i < env.length) && (match env[i]? with
  | some (some (.io _)) => false
  | _ => true) && !anyC (isRf i) env (a :: te) && !isIo a
abbrev MG := A → Env → List A → Option Env
def gN (i : Nat) : MG := fun a env te => if setOk i a env te = true then some (env.set i (some a)) else none
def gTs : List Nat → List Dt → Env → List A → Option Env
  | [], [], env, _ => some env
  | i :: is, x :: xs, env, te => (gN i (.d x) env te).bind fun e => gTs is xs e te
  | _, _, _, _ => none
def gT (is : List Nat) : MG := fun a env te => match a.tup? with
  | some xs => gTs is xs env te
  | none => none
def mAsg (m : ME) (g : MG) : MS := fun env te => (m env te).fl fun a e => match g a e te with
  | some e' => .nx e'
  | none => .bad
def mDrop (m : ME) : MS := fun env te => (m env te).fl fun _ e => .nx e
def mSeq (m n : MS) : MS := fun env te => (m env te).th fun e => n e te
def mIfS (c : MT) (a b : MS) : MS := fun env te => (c env te).fl fun x e => if x = true then a e te else b e te
def mRet (m : ME) : MS := fun env te => (m env te).fl fun a e => .rt a e
def mRetN : MS := fun env _ => .rt (.d .none) env
def mNext : MS := fun env _ => .nx env
def mBrk : MS := fun env _ => .bk env
def mCt : MS := fun env _ => .ct env
def mNever : MS := fun _ _ => .bad
section
variable {K : KW} {B : Bs} {W : WX}
theorem SE.thS {t : TE} {m : ME} (h : SE K B W t m) {σ : L2.St} {env : Env} {ts : List V} {te : List A} {H : Hp} {Q : VK} {D : Ends} (R : Rel K B σ env ts te H) {f : A → Env → Fl} (p : PS' K B W ts te D ((m env te).fl f))
    (hok : ∀ a e, PS' K B W ts te D (f a e) → ∀ v H', Rel K B σ e (v :: ts) (a :: te) H' → Q v H') : t σ H Q := by
  refine h σ env ts te H Q R ?_
  cases e : m env te with
  | ok a e' => rw [e] at p; exact hok a e' p
  | ex x e' => rw [e] at p; exact p σ
  | bad => rw [e] at p; exact p
theorem ST.thS {t : TT} {m : MT} (h : ST K B W t m) {σ : L2.St} {env : Env} {ts : List V} {te : List A} {H : Hp} {Q : Bool → Hp → Prop} {D : Ends} (R : Rel K B σ env ts te H) {f : Bool → Env → Fl} (p : PS' K B W ts te D ((m env te).fl f))
    (hok : ∀ a e, PS' K B W ts te D (f a e) → ∀ H', Rel K B σ e ts te H' → Q a H') : t σ H Q := by
  refine h σ env ts te H Q R ?_
  cases e : m env te with
  | ok a e' => rw [e] at p; exact hok a e' p
  | ex x e' => rw [e] at p; exact p σ
  | bad => rw [e] at p; exact p
def SG (K : KW) (B : Bs) (g : TG) (mg : MG) : Prop := ∀ σ env ts te H v a e Q, Rel K B σ env (v :: ts) (a :: te) H → mg a env te = some e → (∀ σ' H', Rel K B σ' e ts te H' → Q σ' H') → g v σ H Q
theorem rel_set {σ : L2.St} {env : Env} {ts : List V} {te : List A} {H : Hp} {v : V} {a : A} {i : Nat} {e : Env} (R : Rel K B σ env (v :: ts) (a :: te) H) (h : gN i a env te = some e) : Rel K B (σ.set i (some v)) e ts te H := by
  obtain ⟨F, O, R⟩ := R
  unfold gN at h
  split at h
  · rename_i c
    cases h
    unfold setOk at c
    rw [Bool.and_eq_true, Bool.and_eq_true, Bool.and_eq_true] at c
    obtain ⟨⟨⟨c1, c2⟩, c3⟩, c4⟩ := c
    refine ⟨F, _, R.asg (of_decide_eq_true c1) (fun o z => ?_) (by simpa using c3) (by simpa using c4)⟩
    rw [z] at c2
    simp at c2
  · cases h
theorem sg_name (i : Nat) : SG K B (gName i) (gN i) := fun σ env ts te H v a e Q R h q => q _ _ (rel_set R h)
theorem rel_sets : ∀ {is : List Nat} {xs : List Dt} {vs : List V} {σ : L2.St} {env e : Env} {ts : List V} {te : List A} {H F : Hp} {O : Addr → Option Nat}, RelF K B F O σ env ts te H → DnAll K F vs xs → gTs is xs env te = some e →
    vs.length = is.length ∧ Rel K B ((is.zip vs).foldl (fun σ p => σ.set p.1 (some p.2)) σ) e ts te H
  | [], [], _, σ, env, e, ts, te, H, F, O, R, .nil, h => by cases h; exact ⟨rfl, F, O, R⟩
  | i :: is, x :: xs, _, σ, env, e, ts, te, H, F, O, R, .cons d ds, h => by
    unfold gTs at h
    cases q : gN i (.d x) env te with
    | none => rw [q] at h; cases h
    | some e1 =>
      rw [q] at h
      have R0 := R.push (a := .d x) d
      unfold gN at q
      split at q
      · rename_i c
        cases q
        unfold setOk at c
        rw [Bool.and_eq_true, Bool.and_eq_true, Bool.and_eq_true] at c
        obtain ⟨⟨⟨c1, c2⟩, c3⟩, c4⟩ := c
        have R1 := R0.asg (of_decide_eq_true c1) (fun o z => by rw [z] at c2; simp at c2) (by simpa using c3) (by simpa using c4)
        obtain ⟨l, R2⟩ := rel_sets (is := is) R1 ds h
        exact ⟨congrArg (· + 1) l, R2⟩
      · cases q
  | [], _ :: _, _, _, _, _, _, _, _, _, _, _, .cons _ _, h => by cases h
  | _ :: _, [], _, _, _, _, _, _, _, _, _, _, .nil, h => by cases h
/-- the names of a target, one by one -/
def gNames : List Nat → TGs
  | [] => gNil
  | i :: is => gCons (gName i) (gNames is)
theorem g_names : ∀ {is : List Nat} {vs : List V} {σ : L2.St} {H : Hp} {Q : L2.St → Hp → Prop}, vs.length = is.length → Q ((is.zip vs).foldl (fun σ p => σ.set p.1 (some p.2)) σ) H → gNames is vs σ H Q
  | [], [], _, _, _, _, q => ⟨rfl, q⟩
  | i :: is, v :: vs, σ, H, Q, h, q => ⟨v, vs, rfl, g_names (is := is) (Nat.succ.inj h) q⟩
  | [], _ :: _, _, _, _, h, _ => nomatch h
  | _ :: _, [], _, _, _, h, _ => nomatch h
theorem sg_tup (is : List Nat) {n : Nat} (hn : n = is.length) : SG K B (gTup K n (gNames is)) (gT is) := by
  intro σ env ts te H v a e Q R h q
  obtain ⟨F, O, R⟩ := R
  unfold gT at h
  cases c : a.tup? with
  | none => rw [c] at h; cases h
  | some xs =>
    rw [c] at h
    have h : gTs is xs env te = some e := h
    obtain ⟨p, vs, rfl, hT, _, d⟩ := cell_tup R R.tm.1 c
    obtain ⟨l, R'⟩ := rel_sets R.pop d h
    exact ⟨p, vs, rfl, hT, by rw [l, hn], g_names l (q _ _ R')⟩
theorem ss_asg {t : TE} {m : ME} {g : TG} {mg : MG} (h : SE K B W t m) (hg : SG K B g mg) : SS K B W (tAsg t g) (mAsg m mg) := by
  intro σ env ts te H D R p
  refine h.thS R p fun a e p v H' R' => ?_
  cases q : mg a e te with
  | none => simp only [q] at p; exact p.elim
  | some e' => simp only [q] at p; exact hg σ e ts te H' v a e' D.nx R' q p
theorem ss_drop {t : TE} {m : ME} (h : SE K B W t m) : SS K B W (tDrop t) (mDrop m) := by
  intro σ env ts te H D R p
  exact h.thS R p fun a e p v H' R' => p σ H' R'.pop
theorem ss_ret {t : TE} {m : ME} (h : SE K B W t m) : SS K B W (tRet t) (mRet m) := by
  intro σ env ts te H D R p
  exact h.thS R p fun a e p v H' R' => p v σ ts te H' R'
theorem ss_next : SS K B W tNext mNext := fun σ env ts te H D R p => p σ H R
theorem ss_if {c : TT} {t u : TS} {mc : MT} {m n : MS} (hc : ST K B W c mc) (h1 : SS K B W t m) (h2 : SS K B W u n) : SS K B W (tIfS c t u) (mIfS mc m n) := by
  intro σ env ts te H D R p
  refine hc.thS R p fun b e p H' R' => ?_
  cases b with
  | true => rw [if_pos rfl]; exact h1 σ e ts te H' D R' p
  | false => rw [if_neg Bool.false_ne_true]; exact h2 σ e ts te H' D R' p
theorem ss_seq {t u : TS} {m n : MS} (h1 : SS K B W t m) (h2 : SS K B W u n) : SS K B W (tSeq t u) (mSeq m n) := by
  intro σ env ts te H D R p
  refine h1 σ env ts te H _ R ?_
  have p : PS' K B W ts te D ((m env te).th fun e => n e te) := p
  cases q : m env te with
  | nx e => rw [q] at p; exact fun σ' H' R' => h2 σ' e ts te H' D R' p
  | rt a e => rw [q] at p; exact p
  | bk e => rw [q] at p; exact p
  | ct e => rw [q] at p; exact p
  | ex x e => rw [q] at p; exact p
  | bad => rw [q] at p; exact p
/-- more temporaries -/
theorem PS'.push {ts us : List V} {te ue : List A} {D : Ends} (hl : us.length = ue.length) : ∀ {r : Fl}, PS' K B W ts te D r → PS' K B W (us ++ ts) (ue ++ te) D r
  | .nx e, p => fun σ H R => p σ H (R.popN hl)
  | .rt a e, p => p
  | .bk e, p => fun σ H R => p σ H (R.popN hl)
  | .ct e, p => fun σ H R => p σ H (R.popN hl)
  | .ex x e, p => fun σ cls d H zs F O R => by
    obtain ⟨O', R'⟩ := Tw.popN hl R
    exact p σ cls d H zs F O' R'
  | .bad, p => p
/-! ### while -/
def Fl.lp (r : Fl) (f : Env → Fl) : Fl := match r with
  | .nx e => f e
  | .ct e => f e
  | .bk e => .nx e
  | r => r
@[simp] theorem Fl.lp_nx (e : Env) (f : Env → Fl) : (Fl.nx e).lp f = f e := rfl
@[simp] theorem Fl.lp_rt (a : A) (e : Env) (f : Env → Fl) : (Fl.rt a e).lp f = .rt a e := rfl
@[simp] theorem Fl.lp_bk (e : Env) (f : Env → Fl) : (Fl.bk e).lp f = .nx e := rfl
@[simp] theorem Fl.lp_ct (e : Env) (f : Env → Fl) : (Fl.ct e).lp f = f e := rfl
@[simp] theorem Fl.lp_ex (x : Xc) (e : Env) (f : Env → Fl) : (Fl.ex x e).lp f = .ex x e := rfl
@[simp] theorem Fl.lp_bad (f : Env → Fl) : (Fl.bad).lp f = .bad := rfl
def iterW (c : MT) (b : MS) (te : List A) : Nat → Env → Fl
  | 0, _ => .bad
  | n + 1, env => (c env te).fl fun x e => if x = true then (b e te).lp (iterW c b te n) else .nx e
theorem iterW_mono {c : MT} {b : MS} {te : List A} : ∀ {n m : Nat} {env : Env}, n ≤ m → iterW c b te n env ≠ .bad → iterW c b te m env = iterW c b te n env
  | 0, _, _, _, h => absurd rfl h
  | n + 1, 0, _, h, _ => absurd h (Nat.not_succ_le_zero n)
  | n + 1, m + 1, env, hl, h => by
    unfold iterW at h ⊢
    cases q : c env te with
    | ex x e => rfl
    | bad => rfl
    | ok x e =>
      rw [q] at h
      simp only [Rs.fl_ok] at h ⊢
      cases x with
      | false => rfl
      | true =>
        simp only [if_true] at h ⊢
        cases z : b e te with
        | nx e' => rw [z] at h; exact iterW_mono (Nat.le_of_succ_le_succ hl) h
        | ct e' => rw [z] at h; exact iterW_mono (Nat.le_of_succ_le_succ hl) h
        | _ => rfl
open Classical in
noncomputable def mWhile (c : MT) (b : MS) : MS := fun env te => if h : ∃ n, iterW c b te n env ≠ .bad then iterW c b te h.choose env else .bad
theorem mWhile_of {c : MT} {b : MS} {te : List A} {env : Env} (n : Nat) {r : Fl} (h : iterW c b te n env = r) (hr : r ≠ .bad) : mWhile c b env te = r := by
  have ex : ∃ n, iterW c b te n env ≠ .bad := ⟨n, by rw [h]; exact hr⟩
  unfold mWhile
  rw [dif_pos ex]
  rcases Nat.le_total n ex.choose with z | z
  · rw [iterW_mono z (by rw [h]; exact hr), h]
  · rw [← iterW_mono z ex.choose_spec, h]
theorem mWhile_eq {c : MT} {b : MS} {te : List A} {env : Env} : mWhile c b env te = (c env te).fl fun x e => if x = true then (b e te).lp (fun e' => mWhile c b e' te) else .nx e := by
  have key : ∀ r, r ≠ .bad → (mWhile c b env te = r ↔ ((c env te).fl fun x e => if x = true then (b e te).lp (fun e' => mWhile c b e' te) else .nx e) = r) := by
    intro r hr
    have w1 : ∀ e', mWhile c b e' te = r → ∃ n, iterW c b te n e' = r := fun e' h => by
      unfold mWhile at h
      split at h
      · exact ⟨_, h⟩
      · exact absurd h.symm hr
    constructor
    · intro h
      obtain ⟨n, h⟩ := w1 env h
      cases n with
      | zero => exact absurd h.symm hr
      | succ n =>
        unfold iterW at h
        cases q : c env te with
        | ex x e => rw [q] at h; exact h
        | bad => rw [q] at h; exact h
        | ok x e =>
          rw [q] at h
          cases x with
          | false => exact h
          | true =>
            simp only [Rs.fl_ok, if_true] at h ⊢
            cases z : b e te with
            | nx e' => rw [z] at h; exact mWhile_of n h hr
            | ct e' => rw [z] at h; exact mWhile_of n h hr
            | rt _ _ => rw [z] at h; exact h
            | bk _ => rw [z] at h; exact h
            | ex _ _ => rw [z] at h; exact h
            | bad => rw [z] at h; exact h
    · intro h
      cases q : c env te with
      | ex x e => rw [q] at h; exact mWhile_of 1 (by unfold iterW; rw [q]; exact h) hr
      | bad => rw [q] at h; exact absurd h.symm hr
      | ok x e =>
        rw [q] at h
        cases x with
        | false => exact mWhile_of 1 (by unfold iterW; rw [q]; exact h) hr
        | true =>
          simp only [Rs.fl_ok, if_true] at h
          cases z : b e te with
          | nx e' =>
            rw [z] at h
            obtain ⟨n, h⟩ := w1 e' h
            exact mWhile_of (n + 1) (by unfold iterW; rw [q]; simp only [Rs.fl_ok, if_true]; rw [z]; exact h) hr
          | ct e' =>
            rw [z] at h
            obtain ⟨n, h⟩ := w1 e' h
            exact mWhile_of (n + 1) (by unfold iterW; rw [q]; simp only [Rs.fl_ok, if_true]; rw [z]; exact h) hr
          | rt _ _ => rw [z] at h; exact mWhile_of 1 (by unfold iterW; rw [q]; simp only [Rs.fl_ok, if_true]; rw [z]; exact h) hr
          | bk _ => rw [z] at h; exact mWhile_of 1 (by unfold iterW; rw [q]; simp only [Rs.fl_ok, if_true]; rw [z]; exact h) hr
          | ex _ _ => rw [z] at h; exact mWhile_of 1 (by unfold iterW; rw [q]; simp only [Rs.fl_ok, if_true]; rw [z]; exact h) hr
          | bad => rw [z] at h; exact absurd h.symm hr
  by_cases c1 : mWhile c b env te = .bad
  · rw [c1]
    refine (Classical.byContradiction fun z => ?_)
    have := (key _ (fun y => z y.symm)).mpr rfl
    exact z (c1.symm.trans this)
  · exact ((key _ c1).mp rfl).symm
theorem ss_while {c : TT} {t : TS} {mc : MT} {m : MS} (hc : ST K B W c mc) (h : SS K B W t m) : SS K B W (tWhile c t) (mWhile mc m) := by
  intro σ env ts te H D R p
  have ex : ∃ n, PS' K B W ts te D (iterW mc m te n env) := by
    unfold mWhile at p
    split at p
    · exact ⟨_, p⟩
    · exact p.elim
  obtain ⟨n, p⟩ := ex
  refine ⟨fun k σ H => ∃ env, Rel K B σ env ts te H ∧ PS' K B W ts te D (iterW mc m te k env), ⟨n, env, R, p⟩, ?_⟩
  rintro k σ1 H1 ⟨env1, R1, p1⟩
  cases k with
  | zero => exact p1.elim
  | succ k =>
    refine hc.thS R1 p1 fun b e p2 H2 R2 => ?_
    cases b with
    | false => rw [if_neg Bool.false_ne_true]; exact p2 σ1 H2 R2
    | true =>
      rw [if_pos rfl]
      refine ⟨fun σ' H' => ∃ env, Rel K B σ' env ts te H' ∧ PS' K B W ts te D (iterW mc m te k env), fun σ' H' z => ⟨k, Nat.lt_succ_self k, z⟩, ?_⟩
      refine h σ1 e ts te H2 _ R2 ?_
      have p3 : PS' K B W ts te D ((m e te).lp (iterW mc m te k)) := p2
      cases z : m e te with
      | nx e' => rw [z] at p3; exact fun σ' H' R' => ⟨e', R', p3⟩
      | ct e' => rw [z] at p3; exact fun σ' H' R' => ⟨e', R', p3⟩
      | bk e' => rw [z] at p3; exact p3
      | rt a e' => rw [z] at p3; exact p3
      | ex x e' => rw [z] at p3; exact p3
      | bad => rw [z] at p3; exact p3
end
end Tw

namespace Tw
open PySem PySem.Spec PyProof.Rows L2
/-! ### more on the relation -/
section
variable {K : KW} {B : Bs} {F F' H H' : Hp} {O O' : Addr → Option Nat} {σ σ' : List (Option V)} {env : Env} {ts : List V} {te : List A}
/-- more slots known -/
theorem RelF.sig (R : RelF K B F O σ env ts te H) (hl : σ'.length = σ.length) (h : ∀ (i : Nat) (w : V), σ[i]? = some (some w) → σ'[i]? = some (some w)) : RelF K B F O σ' env ts te H where
  ln := hl.trans R.ln
  sl := fun i a e => by
    obtain ⟨v, e1, c⟩ := R.sl i a e
    exact ⟨v, h i v e1, c.mono (Same.refl F) (fun _ z => ⟨z, rfl⟩) (fun _ _ => rfl) (fun i p w _ z => h i w z) (fun _ _ _ _ z => ⟨z, rfl⟩)⟩
  tm := R.tm.mono (Same.refl F) hl (fun _ _ _ _ z => ⟨z, rfl⟩) (fun i p w _ z => h i w z) (fun _ _ _ _ z => ⟨z, rfl⟩)
  sf := R.sf
  of := fun a j z => by rw [hl]; exact R.of a j z
  b1 := R.b1
  b2 := R.b2
  b3 := R.b3
  b5 := R.b5
  bi := R.bi
  tb := R.tb
/-- a slot forgotten -/
theorem RelF.clr (R : RelF K B F O σ env ts te H) {i : Nat} (nio : ∀ o, env[i]? ≠ some (some (.io o))) (nn : anyC (isRf i) env te = false) : RelF K B F O (σ.set i none) (env.set i none) ts te H := by
  have st : ∀ j w, j ≠ i → σ[j]? = some (some w) → (σ.set i none)[j]? = some (some w) := fun j w nj e => by rw [List.getElem?_set, if_neg (Ne.symm nj)]; exact e
  have ri : ∀ c, isRf i c = false → ∀ i' p, c = .rf i' p → i' ≠ i := fun c hc i' p e z => by
    rw [e, z] at hc
    simp [isRf] at hc
  refine ⟨by rw [List.length_set, List.length_set]; exact R.ln, fun j c e => ?_, ?_, R.sf, fun b j z => by rw [List.length_set]; exact R.of b j z, R.b1, R.b2, R.b3, R.b5, fun j hj => ?_, R.tb⟩
  · rw [List.getElem?_set] at e
    by_cases ji : i = j
    · subst ji
      rw [if_pos rfl] at e
      split at e <;> cases e
    · rw [if_neg ji] at e
      obtain ⟨u, e1, h⟩ := R.sl j c e
      exact ⟨u, st j u (Ne.symm ji) e1, h.mono (Same.refl F) (fun _ z => ⟨z, rfl⟩) (fun _ _ => rfl) (fun i' p w e' z => st i' w (ri c (anyC_env nn e) i' p e') z) (fun _ _ _ _ z => ⟨z, rfl⟩)⟩
  · exact R.tm.mono (Same.refl F) (List.length_set ..) (fun _ _ _ _ z => ⟨z, rfl⟩) (fun i' p w hm z => st i' w (ri _ (anyC_te nn hm) i' p rfl) z) (fun _ _ _ _ z => ⟨z, rfl⟩)
  · obtain ⟨o, ho⟩ := R.bi j hj
    exact ⟨o, by rw [List.getElem?_set, if_neg (fun z => nio o (by rw [z]; exact ho))]; exact ho⟩
/-- a thing of one's own that is handed up -/
theorem RelF.pushOwn (R : RelF K B F O σ env ts te H) (P : Addr → Prop) [DecidablePred P] (hP : ∀ a, P a → O a = none ∧ F a = none ∧ MutO (H a) ∧ B.H a = none) {v : V} {o : Ow} (h : OwO K F H P v o) :
    RelF K B F (fun a => if P a then some (σ.length + ts.length) else O a) σ env (v :: ts) (.own o :: te) H := by
  have k : ∀ j b, O b = some j → (fun a => if P a then some (σ.length + ts.length) else O a) b = some j ∧ H b = H b := fun j b z => ⟨(if_neg (fun p => by rw [(hP b p).1] at z; cases z)).trans z, rfl⟩
  refine ⟨R.ln, fun i a e => ?_, ⟨OwO.mono (own := P) (Same.refl F) (fun a p => ⟨if_pos p, (hP a p).2.2.2⟩) (fun _ _ => rfl) h, R.tm.mono (Same.refl F) rfl (fun j _ _ b z => k j b z) (fun _ _ _ _ z => z) (fun i _ _ b z => k i b z)⟩, R.sf, fun b j z => ?_, R.b1, R.b2, R.b3, R.b5, R.bi, R.tb⟩
  · obtain ⟨v, e1, c⟩ := R.sl i a e
    exact ⟨v, e1, c.mono (Same.refl F) (k i) (fun _ _ => rfl) (fun _ _ _ _ z => z) (fun i' _ _ b z => k i' b z)⟩
  · by_cases p : P b
    · have z' : some (σ.length + ts.length) = some j := (if_pos p).symm.trans z
      obtain ⟨_, h2, h3, h4⟩ := hP b p
      exact ⟨h2, h3, by rw [← Option.some.inj z', List.length_cons]; omega, .inl h4⟩
    · have z' : O b = some j := (if_neg p).symm.trans z
      obtain ⟨h1, h2, h3, h4⟩ := R.of b j z'
      exact ⟨h1, h2, by rw [List.length_cons]; omega, h4⟩
/-- what the top owns is changed -/
theorem RelF.mutT {v : V} {o o' : Ow} (R : RelF K B F O σ env (v :: ts) (.own o :: te) H) (hH : ∀ b, O b ≠ some (σ.length + ts.length) → H' b = H b) (hn : ∀ b, O b = some (σ.length + ts.length) → MutO (H' b))
    (new : OwO K F H' (fun a => O a = some (σ.length + ts.length) ∧ B.H a = none) v o') : RelF K B F O σ env (v :: ts) (.own o' :: te) H' := by
  have ln := R.ln
  have kb : ∀ j, j ≠ σ.length + ts.length → ∀ b, O b = some j → O b = some j ∧ H' b = H b := fun j nj b z => ⟨z, hH b (by rw [z]; exact fun y => nj (Option.some.inj y))⟩
  have rf : ∀ j w, σ[j]? = some (some w) → j ≠ σ.length + ts.length := fun j w e => by have := (List.getElem?_eq_some_iff.mp e).1; omega
  have cm : ∀ {j : Nat} {u : V} {c : A}, CellO K B F H O σ j u c → j ≠ σ.length + ts.length → CellO K B F H' O σ j u c := fun {j u c} h nj => by
    refine h.mono (Same.refl F) (kb j nj) (fun _ _ => rfl) (fun _ _ _ _ z => z) (fun i k e b z => ?_)
    rw [e] at h
    obtain ⟨w, hw, _⟩ := h
    exact kb i (rf i w hw) b z
  have tm : ∀ {us : List V} {ue : List A}, us.length ≤ ts.length → TmO K B F H O σ us ue → TmO K B F H' O σ us ue := fun {us} => by
    induction us with
    | nil => intro ue _ h; cases ue with
      | nil => trivial
      | cons => exact h.elim
    | cons u us ih =>
      intro ue hl h
      cases ue with
      | nil => exact h.elim
      | cons x ue =>
        rw [List.length_cons] at hl
        exact ⟨cm h.1 (by omega), ih (by omega) h.2⟩
  refine ⟨ln, fun j c e => ?_, ⟨new, tm (Nat.le_refl _) R.tm.2⟩, fun b u e => ?_, fun b j z => ?_, R.b1, fun b u hs ht e => ?_, R.b3, fun b e => ?_, R.bi, R.tb.1, R.tb.2.mono fun b o t z => by rw [hH b (by rw [R.noT t z]; exact nofun)]; exact z⟩
  · obtain ⟨u, e1, h⟩ := R.sl j c e
    exact ⟨u, e1, cm h (rf j u e1)⟩
  · by_cases hb : O b = some (σ.length + ts.length)
    · rw [(R.of b _ hb).1] at e
      cases e
    · rw [hH b hb]
      exact R.sf b u e
  · obtain ⟨h1, h2, h3, h4⟩ := R.of b j z
    refine ⟨h1, ?_, h3, h4⟩
    by_cases hb : O b = some (σ.length + ts.length)
    · exact hn b hb
    · rw [hH b hb]; exact h2
  · by_cases hb : O b = some (σ.length + ts.length)
    · rcases (R.of b _ hb).2.2.2 with y | y
      · rw [y] at e; cases e
      · rw [y.1] at hs; cases hs
    · rw [hH b hb]
      exact R.b2 b u hs ht e
  · by_cases hb : O b = some (σ.length + ts.length)
    · exact (hn b hb).1
    · rw [hH b hb]
      exact R.b5 b e
end
section
variable {K : KW} {B : Bs} {F H : Hp} {O : Addr → Option Nat} {σ : List (Option V)} {env : Env} {ts : List V} {te : List A}
/-- what lies under the top is dropped -/
theorem RelF.mid {v u : V} {a b : A} (R : RelF K B F O σ env (v :: u :: ts) (a :: b :: te) H) (na : isIo a = false) : RelF K B F (fun c => if O c = some (σ.length + ts.length + 1) then some (σ.length + ts.length) else if O c = some (σ.length + ts.length) then none else O c) σ env (v :: ts) (a :: te) H := by
  have ln := R.ln
  have k1 : ∀ j, j < σ.length + ts.length → ∀ b, O b = some j → (fun c => if O c = some (σ.length + ts.length + 1) then some (σ.length + ts.length) else if O c = some (σ.length + ts.length) then none else O c) b = some j ∧ H b = H b := fun j hj b z =>
    ⟨(if_neg (by rw [z]; exact fun y => by have := Option.some.inj y; omega)).trans ((if_neg (by rw [z]; exact fun y => by have := Option.some.inj y; omega)).trans z), rfl⟩
  have k2 : ∀ b, O b = some (σ.length + ts.length + 1) → (fun c => if O c = some (σ.length + ts.length + 1) then some (σ.length + ts.length) else if O c = some (σ.length + ts.length) then none else O c) b = some (σ.length + ts.length) ∧ H b = H b := fun b z => ⟨if_pos z, rfl⟩
  have rf : ∀ j w, σ[j]? = some (some w) → j < σ.length + ts.length := fun j w e => by have := (List.getElem?_eq_some_iff.mp e).1; omega
  have nest : ∀ {j : Nat} {u : V} {c : A}, CellO K B F H O σ j u c → ∀ i k, c = .rf i (some k) → ∀ b, O b = some i → (fun c => if O c = some (σ.length + ts.length + 1) then some (σ.length + ts.length) else if O c = some (σ.length + ts.length) then none else O c) b = some i ∧ H b = H b := fun {j u c} h i k e b z => by
    rw [e] at h
    obtain ⟨w, hw, _⟩ := h
    exact k1 i (rf i w hw) b z
  have cm : ∀ {j : Nat} {u : V} {c : A}, CellO K B F H O σ j u c → j < σ.length + ts.length → CellO K B F H (fun c => if O c = some (σ.length + ts.length + 1) then some (σ.length + ts.length) else if O c = some (σ.length + ts.length) then none else O c) σ j u c := fun {j u c} h nj =>
    h.mono (Same.refl F) (k1 j nj) (fun _ _ => rfl) (fun _ _ _ _ z => z) (nest h)
  have tm : ∀ {us : List V} {ue : List A}, us.length ≤ ts.length → TmO K B F H O σ us ue → TmO K B F H (fun c => if O c = some (σ.length + ts.length + 1) then some (σ.length + ts.length) else if O c = some (σ.length + ts.length) then none else O c) σ us ue := fun {us} => by
    induction us with
    | nil => intro ue _ h; cases ue with
      | nil => trivial
      | cons => exact h.elim
    | cons u us ih =>
      intro ue hl h
      cases ue with
      | nil => exact h.elim
      | cons x ue =>
        rw [List.length_cons] at hl
        exact ⟨cm h.1 (by omega), ih (by omega) h.2⟩
  refine ⟨ln, fun j c e => ?_, ⟨?_, tm (Nat.le_refl _) R.tm.2.2⟩, R.sf, fun b j z => ?_, R.b1, R.b2, R.b3, R.b5, R.bi, R.tb⟩
  · obtain ⟨u, e1, h⟩ := R.sl j c e
    exact ⟨u, e1, cm h (rf j u e1)⟩
  · have h := R.tm.1
    refine h.mono (Same.refl F) (fun b z => k2 b (by rw [List.length_cons] at z; exact z)) (fun o eo => ?_) (fun _ _ _ _ z => z) (nest h)
    rw [eo] at na
    simp [isIo] at na
  · by_cases h1 : O b = some (σ.length + ts.length + 1)
    · have z' : some (σ.length + ts.length) = some j := (if_pos h1).symm.trans z
      obtain ⟨q1, q2, q3, q4⟩ := R.of b _ h1
      refine ⟨q1, q2, by rw [← Option.some.inj z', List.length_cons]; omega, .inl ?_⟩
      rcases q4 with q4 | ⟨_, q4⟩
      · exact q4
      · obtain ⟨o', ho⟩ := R.bi _ q4
        have := (List.getElem?_eq_some_iff.mp ho).1
        omega
    · have z1 : (if O b = some (σ.length + ts.length) then none else O b) = some j := (if_neg h1).symm.trans z
      by_cases h2 : O b = some (σ.length + ts.length)
      · rw [if_pos h2] at z1
        cases z1
      · rw [if_neg h2] at z1
        obtain ⟨q1, q2, q3, q4⟩ := R.of b j z1
        refine ⟨q1, q2, ?_, q4⟩
        rw [List.length_cons, List.length_cons] at q3
        rw [List.length_cons]
        have : j ≠ σ.length + ts.length + 1 := fun y => h1 (by rw [z1, y])
        omega
theorem rel_mid {v : V} {a : A} (na : isIo a = false) : ∀ {us : List V} {ue : List A}, us.length = ue.length → Rel K B σ env (v :: (us ++ ts)) (a :: (ue ++ te)) H → Rel K B σ env (v :: ts) (a :: te) H
  | [], [], _, R => R
  | u :: us, b :: ue, h, R => by
    obtain ⟨F, O, R⟩ := R
    exact rel_mid na (Nat.succ.inj h) ⟨F, _, R.mid na⟩
  | [], _ :: _, h, _ => nomatch h
  | _ :: _, [], h, _ => nomatch h
end
/-! ### what is walked -/
/-- how an item stands: a pair that a walk makes is never kept -/
def kdQ : Dt → A
  | .tuple xs => .q xs
  | x => .d x
abbrev MI := Env → List A → Rs (List A × (Env → Option (List Dt)))
def WDk (K : KW) (B : Bs) (kd : Dt → A) (J : It) (as0 : List A) (vs0 : List V) (rd : Env → Option (List Dt)) : Prop := ∀ i σ env us ue ts te H xs, us.length = ue.length → Rel K B σ env (us ++ (vs0 ++ ts)) (ue ++ (as0 ++ te)) H → rd env = some xs →
  (i = xs.length → J.stop i H) ∧ ∀ x, xs[i]? = some x → J.go i H ∧ ∀ v H', J.yld i H v H' → Rel K B σ env (v :: (us ++ (vs0 ++ ts))) (kd x :: (ue ++ (as0 ++ te))) H'
def PI' (K : KW) (B : Bs) (W : WX) (kd : Dt → A) (σ : L2.St) (ts : List V) (te : List A) (R : It → Hp → Prop) : Rs (List A × (Env → Option (List Dt))) → Prop
  | .ok ar e => ∀ J vs0 H, vs0.length = ar.1.length → Rel K B σ e (vs0 ++ ts) (ar.1 ++ te) H → WDk K B kd J ar.1 vs0 ar.2 → R J H
  | .ex x e => XPost K B W σ ts te x e
  | .bad => False
def SI (K : KW) (B : Bs) (W : WX) (kd : Dt → A) (ti : TI) (mi : MI) : Prop := ∀ σ env ts te H R, Rel K B σ env ts te H → PI' K B W kd σ ts te R (mi env te) → ti σ H R
open Classical in
noncomputable def forM (kd : Dt → A) (rd : Env → Option (List Dt)) (xs0 : List Dt) (te : List A) (g : MG) (body : MS) : List Dt → Env → Fl
  | [], env => if rd env = some xs0 then .nx env else .bad
  | x :: r, env => if rd env = some xs0 then (match g (kd x) env te with
    | some e1 => (body e1 te).lp fun e2 => forM kd rd xs0 te g body r e2
    | none => .bad) else .bad
noncomputable def mFor (kd : Dt → A) (mi : MI) (g : MG) (body : MS) : MS := fun env te => (mi env te).fl fun ar e => match ar.2 e with
  | some xs => forM kd ar.2 xs (ar.1 ++ te) g body xs e
  | none => .bad
section
variable {K : KW} {B : Bs} {W : WX}
theorem ss_for {ti : TI} {mi : MI} {g : TG} {mg : MG} {t : TS} {m : MS} {kd : Dt → A} (hi : SI K B W kd ti mi) (hg : SG K B g mg) (h : SS K B W t m) : SS K B W (tFor ti g t) (mFor kd mi mg m) := by
  intro σ env ts te H D R p
  refine hi σ env ts te H _ R ?_
  have p : PS' K B W ts te D ((mi env te).fl fun ar e => match ar.2 e with | some xs => forM kd ar.2 xs (ar.1 ++ te) mg m xs e | none => .bad) := p
  cases q : mi env te with
  | ex x e => rw [q] at p; exact p σ
  | bad => rw [q] at p; exact p
  | ok ar e =>
    obtain ⟨as0, rd⟩ := ar
    rw [q] at p
    simp only [Rs.fl_ok] at p
    intro J vs0 H1 hl R1 wd
    cases q2 : rd e with
    | none => simp only [q2] at p; exact False.elim p
    | some xs =>
      simp only [q2] at p
      have p := PS'.push (us := vs0) (ue := as0) hl p
      refine ⟨fun i k σ H => ∃ env, Rel K B σ env (vs0 ++ ts) (as0 ++ te) H ∧ i ≤ xs.length ∧ k = xs.length - i ∧ PS' K B W (vs0 ++ ts) (as0 ++ te) D (forM kd rd xs (as0 ++ te) mg m (xs.drop i) env), ⟨_, e, R1, Nat.zero_le _, rfl, p⟩, ?_⟩
      rintro i k σ2 H2 ⟨env2, R2, li, rfl, p2⟩
      by_cases il : i < xs.length
      · rw [List.drop_eq_getElem_cons il] at p2
        unfold forM at p2
        split at p2
        · rename_i hrd
          obtain ⟨go, yl⟩ := (wd i σ2 env2 [] [] ts te H2 xs rfl R2 hrd).2 xs[i] (List.getElem?_eq_getElem il)
          refine .inr ⟨go, fun σ H => ∃ env, Rel K B σ env (vs0 ++ ts) (as0 ++ te) H ∧ PS' K B W (vs0 ++ ts) (as0 ++ te) D (forM kd rd xs (as0 ++ te) mg m (xs.drop (i + 1)) env), fun σ' H' ⟨env', R', p'⟩ => ⟨_, by omega, env', R', il, rfl, p'⟩, fun x H' hy => ?_⟩
          have R3 := yl x H' hy
          cases q3 : mg (kd xs[i]) env2 (as0 ++ te) with
          | none => simp only [q3] at p2; exact False.elim p2
          | some e1 =>
            simp only [q3] at p2
            refine hg σ2 env2 (vs0 ++ ts) (as0 ++ te) H' x _ e1 _ R3 q3 fun σ4 H4 R4 => ?_
            refine h σ4 e1 (vs0 ++ ts) (as0 ++ te) H4 _ R4 ?_
            cases z : m e1 (as0 ++ te) with
            | nx e' => rw [z] at p2; exact fun σ' H' R' => ⟨e', R', p2⟩
            | ct e' => rw [z] at p2; exact fun σ' H' R' => ⟨e', R', p2⟩
            | bk e' => rw [z] at p2; exact p2
            | rt a e' => rw [z] at p2; exact p2
            | ex x e' => rw [z] at p2; exact p2
            | bad => rw [z] at p2; exact p2
        · exact False.elim p2
      · have e1 : i = xs.length := by omega
        rw [List.drop_of_length_le (by omega)] at p2
        unfold forM at p2
        split at p2
        · rename_i hrd
          exact .inl ⟨(wd i σ2 env2 [] [] ts te H2 xs rfl R2 hrd).1 e1, p2 σ2 H2 R2⟩
        · exact False.elim p2
end
/-! ### comprehensions -/
def wipeE (env : Env) : List Nat → Env
  | [] => env
  | v :: vs => (wipeE env vs).set v none
def wipeOk (env : Env) (te : List A) : List Nat → Bool
  | [] => true
  | v :: vs => wipeOk env te vs && !anyC (isRf v) (wipeE env vs) te && (match (wipeE env vs)[v]? with
    | some (some (.io _)) => false
    | _ => true)
/-- nothing is raised -/
def Rs.noX {α : Type} (r : Rs α) : Rs α := match r with
  | .ex _ _ => .bad
  | r => r
@[simp] theorem Rs.noX_ok {α : Type} (a : α) (e : Env) : (Rs.ok a e).noX = .ok a e := rfl
@[simp] theorem Rs.noX_bad {α : Type} : (Rs.bad : Rs α).noX = .bad := rfl
open Classical in
noncomputable def lcM (kd : Dt → A) (rd : Env → Option (List Dt)) (xs0 : List Dt) (te : List A) (g : MG) (tt : MT) (el : ME) (vs : List Nat) : List Dt → List Dt → Env → Rs (List Dt)
  | [], acc, env => if rd env = some xs0 then .ok acc env else .bad
  | x :: r, acc, env => if rd env = some xs0 then (match g (kd x) env (.own (.l acc) :: te) with
    | some e1 => (tt e1 (.own (.l acc) :: te)).noX.bind fun b e2 => if b = true then (el e2 (.own (.l acc) :: te)).noX.bind fun a e3 => (match a with
        | .d y => if acc.length < sizeLine ∧ wipeOk e3 (.own (.l (acc ++ [y])) :: te) vs = true then lcM kd rd xs0 te g tt el vs r (acc ++ [y]) (wipeE e3 vs) else .bad
        | _ => .bad)
      else if wipeOk e2 (.own (.l acc) :: te) vs = true then lcM kd rd xs0 te g tt el vs r acc (wipeE e2 vs) else .bad
    | none => .bad) else .bad
noncomputable def mLc (kd : Dt → A) (mi : MI) (g : MG) (tt : MT) (el : ME) (vs : List Nat) : ME := fun env te => (mi env te).bind fun ar e => match ar.2 (wipeE e vs) with
  | some xs => if wipeOk e (.own (.l []) :: (ar.1 ++ te)) vs = true then (lcM kd ar.2 xs (ar.1 ++ te) g tt el vs xs [] (wipeE e vs)).bind fun ys e2 => .ok (.own (.l ys)) e2 else .bad
  | none => .bad
section
variable {K : KW} {B : Bs} {W : WX}
theorem rel_wipe {ts : List V} {te : List A} {H : Hp} : ∀ {vs : List Nat} {σ : L2.St} {env : Env}, Rel K B σ env ts te H → wipeOk env te vs = true → Rel K B (wipe σ vs) (wipeE env vs) ts te H
  | [], _, _, R, _ => R
  | v :: vs, σ, env, R, h => by
    unfold wipeOk at h
    rw [Bool.and_eq_true, Bool.and_eq_true] at h
    obtain ⟨⟨h1, h2⟩, h3⟩ := h
    obtain ⟨F, O, R⟩ := rel_wipe R h1
    refine ⟨F, O, R.clr (fun o z => ?_) (by simpa using h2)⟩
    rw [z] at h3
    simp at h3
theorem rel_unwipe {ts : List V} {te : List A} {H : Hp} {vs : List Nat} {σ : L2.St} {env : Env} (R : Rel K B (wipe σ vs) env ts te H) : Rel K B σ env ts te H := by
  obtain ⟨F, O, R⟩ := R
  exact ⟨F, O, R.sig (wipe_length σ vs).symm fun i w e => (wipe_some e).1⟩
/-- a target within a comprehension -/
def SGw (K : KW) (B : Bs) (vs : List Nat) (g : TG) (mg : MG) : Prop := ∀ σ env ts te H v a e Q, Rel K B σ env (v :: ts) (a :: te) H → mg a env te = some e → (∀ σ' H', wipe σ' vs = wipe σ vs → Rel K B σ' e ts te H' → Q σ' H') → g v σ H Q
theorem wipe_set : ∀ {vs : List Nat} {σ : L2.St} {i : Nat} {x : Option V}, i ∈ vs → wipe (σ.set i x) vs = wipe σ vs
  | v :: vs, σ, i, x, h => by
    unfold wipe
    by_cases hv : i ∈ vs
    · rw [wipe_set hv]
    · have e : i = v := by
        rcases List.mem_cons.mp h with e | e
        · exact e
        · exact absurd e hv
      subst e
      have z : ∀ {vs : List Nat} {σ : L2.St}, (wipe (σ.set i x) vs).set i none = (wipe σ vs).set i none := by
        intro vs
        induction vs with
        | nil => intro σ; unfold wipe; rw [List.set_set]
        | cons u us ih =>
          intro σ
          unfold wipe
          by_cases hu : u = i
          · subst hu
            rw [List.set_set, List.set_set]
            exact ih
          · rw [List.set_comm _ _ hu, List.set_comm _ _ hu, ih]
      exact z
theorem wipe_wipe : ∀ {vs us : List Nat} {σ : L2.St}, (∀ v ∈ us, v ∈ vs) → wipe (wipe σ us) vs = wipe σ vs
  | vs, [], _, _ => rfl
  | vs, u :: us, σ, h => by
    show wipe ((wipe σ us).set u none) vs = _
    rw [wipe_set (h u List.mem_cons_self)]
    exact wipe_wipe fun v hv => h v (List.mem_cons_of_mem _ hv)
theorem sgw_name {vs : List Nat} (i : Nat) (hi : vs.contains i = true) : SGw K B vs (gName i) (gN i) := fun σ env ts te H v a e Q R h q => q _ _ (wipe_set (by simpa using hi)) (rel_set R h)
theorem rel_app {σ : L2.St} {env : Env} {ts : List V} {te : List A} {H : Hp} {D : Addr} {acc : List Dt} {y : V} {x : Dt} (R : Rel K B σ env (y :: .ref D :: ts) (.d x :: .own (.l acc) :: te) H) :
    ∃ us, H D = some (.lst us) ∧ us.length = acc.length ∧ Rel K B σ env (.ref D :: ts) (.own (.l (acc ++ [x])) :: te) (upd H D (.lst (us ++ [y]))) := by
  obtain ⟨F, O, R⟩ := R
  have hy : Dn K F y x := R.tm.1
  have R1 := R.pop
  obtain ⟨a, us, e, o, h1, d⟩ := R1.tm.1
  cases e
  refine ⟨us, h1, d.length, F, _, R1.mutT (o' := .l (acc ++ [x])) (fun b nb => upd_ne (fun z => nb (by rw [z]; exact o.1))) (fun b hb => ?_) ⟨D, us ++ [y], rfl, o, upd_same, d.app (.cons hy .nil)⟩⟩
  by_cases hb2 : b = D
  · rw [hb2, upd_same]; exact mutO_lst _
  · rw [upd_ne hb2]; exact (R1.of b _ hb).2.1
/-- nothing may be raised -/
def W0 : WX := fun _ _ _ _ => False
theorem se_lc {ti : TI} {mi : MI} {g : TG} {mg : MG} {tt : TT} {mt : MT} {t : TE} {m : ME} {vs : List Nat} {kd : Dt → A} (hi : SI K B W kd ti mi) (hg : SGw K B vs g mg) (ht : ST K B W0 tt mt) (h : SE K B W0 t m) : SE K B W (tLc ti g tt t vs) (mLc kd mi mg mt m vs) := by
  intro σ env ts te H Q R p
  refine hi σ env ts te H _ R ?_
  have p : PE' K B W σ ts te Q ((mi env te).bind fun ar e => match ar.2 (wipeE e vs) with
    | some xs => if wipeOk e (.own (.l []) :: (ar.1 ++ te)) vs = true then (lcM kd ar.2 xs (ar.1 ++ te) mg mt m vs xs [] (wipeE e vs)).bind fun ys e2 => .ok (.own (.l ys)) e2 else .bad
    | none => .bad) := p
  cases q : mi env te with
  | ex x e => rw [q] at p; exact p
  | bad => rw [q] at p; exact p
  | ok ar e =>
    obtain ⟨as0, rd⟩ := ar
    rw [q] at p
    simp only [Rs.bind_ok] at p
    intro J vs0 H1 hl R1 wd D nD
    cases q2 : rd (wipeE e vs) with
    | none => simp only [q2] at p; exact False.elim p
    | some xs =>
      simp only [q2] at p
      by_cases wok : wipeOk e (.own (.l []) :: (as0 ++ te)) vs = true
      case neg => rw [if_neg wok] at p; exact False.elim p
      rw [if_pos wok] at p
      obtain ⟨F1, O1, R1⟩ := R1
      have R1' : Rel K B σ e (.ref D :: (vs0 ++ ts)) (.own (.l []) :: (as0 ++ te)) (upd H1 D (.lst [])) := R1.pushL nD .nil
      have R2 := rel_wipe R1' wok
      refine ⟨fun i k H => ∃ env acc, Rel K B (wipe σ vs) env (.ref D :: (vs0 ++ ts)) (.own (.l acc) :: (as0 ++ te)) H ∧ i ≤ xs.length ∧ k = xs.length - i ∧ PE' K B W σ ts te Q ((lcM kd rd xs (as0 ++ te) mg mt m vs (xs.drop i) acc env).bind fun ys e2 => .ok (.own (.l ys)) e2),
        ⟨_, _, _, R2, Nat.zero_le _, rfl, p⟩, ?_⟩
      rintro i k H2 ⟨env2, acc, R2, li, rfl, p2⟩
      by_cases il : i < xs.length
      · rw [List.drop_eq_getElem_cons il] at p2
        unfold lcM at p2
        split at p2
        · rename_i hrd
          obtain ⟨go, yl⟩ := (wd i (wipe σ vs) env2 [.ref D] [.own (.l acc)] ts te H2 xs rfl R2 hrd).2 xs[i] (List.getElem?_eq_getElem il)
          refine .inr ⟨go, fun H => ∃ env acc, Rel K B (wipe σ vs) env (.ref D :: (vs0 ++ ts)) (.own (.l acc) :: (as0 ++ te)) H ∧ PE' K B W σ ts te Q ((lcM kd rd xs (as0 ++ te) mg mt m vs (xs.drop (i + 1)) acc env).bind fun ys e2 => .ok (.own (.l ys)) e2), fun H' ⟨env', acc', R', p'⟩ => ⟨_, by omega, env', acc', R', il, rfl, p'⟩, fun x H' hy => ?_⟩
          -- the item on top of the new list
          have R3 : Rel K B (wipe σ vs) env2 (x :: .ref D :: (vs0 ++ ts)) (kd xs[i] :: .own (.l acc) :: (as0 ++ te)) H' := yl x H' hy
          cases q3 : mg (kd xs[i]) env2 (.own (.l acc) :: (as0 ++ te)) with
          | none => simp only [q3] at p2; exact False.elim p2
          | some e1 =>
            simp only [q3] at p2
            refine hg (wipe σ vs) env2 _ _ H' x _ e1 _ R3 q3 fun σ4 H4 hw R4 => ⟨hw.trans (wipe_wipe fun _ z => z), ?_⟩
            rw [wipe_wipe fun _ z => z] at hw
            refine ht σ4 e1 _ _ H4 _ R4 ?_
            cases z : mt e1 (.own (.l acc) :: (as0 ++ te)) with
            | ex x e' => rw [z] at p2; exact False.elim p2
            | bad => rw [z] at p2; exact False.elim p2
            | ok b e2 =>
              rw [z] at p2
              intro H5 R5
              cases b with
              | false =>
                simp only [Rs.noX_ok, Rs.bind_ok, Bool.false_eq_true, if_false] at p2 ⊢
                split at p2
                · rename_i w2
                  refine ⟨_, acc, ?_, p2⟩
                  rw [← hw]
                  exact rel_wipe R5 w2
                · exact False.elim p2
              | true =>
                simp only [Rs.noX_ok, Rs.bind_ok, if_true] at p2 ⊢
                refine h σ4 e2 _ _ H5 _ R5 ?_
                cases z2 : m e2 (.own (.l acc) :: (as0 ++ te)) with
                | ex x e' => rw [z2] at p2; exact False.elim p2
                | bad => rw [z2] at p2; exact False.elim p2
                | ok a e3 =>
                  rw [z2] at p2
                  intro y H6 R6
                  cases a with
                  | d x0 =>
                    simp only [Rs.noX_ok, Rs.bind_ok] at p2
                    split at p2
                    · rename_i w3
                      obtain ⟨us, e6, l6, R7⟩ := rel_app R6
                      refine ⟨us, e6, by rw [l6]; exact w3.1, _, acc ++ [x0], ?_, p2⟩
                      rw [← hw]
                      exact rel_wipe (te := .own (.l (acc ++ [x0])) :: (as0 ++ te)) R7 w3.2
                    · exact False.elim p2
                  | own _ => exact False.elim p2
                  | io _ => exact False.elim p2
                  | rf _ _ => exact False.elim p2
                  | sc _ => exact False.elim p2
                  | q _ => exact False.elim p2
                  | lk _ => exact False.elim p2
                  | xr _ => exact False.elim p2
        · exact False.elim p2
      · have e1 : i = xs.length := by omega
        rw [List.drop_of_length_le (by omega)] at p2
        unfold lcM at p2
        split at p2
        · rename_i hrd
          refine .inl ⟨(wd i (wipe σ vs) env2 [.ref D] [.own (.l acc)] ts te H2 xs rfl R2 hrd).1 e1, ?_⟩
          exact p2 _ _ (rel_mid rfl hl (rel_unwipe R2))
        · exact False.elim p2
end
end Tw

namespace Tw
open PySem PySem.Spec PyProof.Rows L2
/-! ### defs as functions of values -/
inductive DRs where
  | ok (r : A) (ios : List A)
  | ex (x : Xc) (ios : List A)
  | bad
abbrev DF := List A → DRs
def backA (a : A) (c : Option A) : A := match a, c with
  | .io _, some c => c
  | a, _ => a
def backs : List A → Env → List A
  | [], _ => []
  | a :: as, [] => a :: backs as []
  | a :: as, c :: e => backA a c :: backs as e
def retA (e : Env) : A → Option A
  | .d x => some (.d x)
  | .own o => some (.own o)
  | .rf i none => match e[i]? with
    | some (some (.own o)) => some (.own o)
    | _ => none
  | _ => none
def endM (as : List A) : Fl → DRs
  | .nx e => .ok (.d .none) (backs as e)
  | .rt a e => match retA e a with
    | some r => .ok r (backs as e)
    | none => .bad
  | .ex x e => .ex x (backs as e)
  | _ => .bad
def runM (n : Nat) (m : MS) : DF := fun as => endM as (m (as.map some ++ List.replicate (n - as.length) none) [])
def backO (a : A) (c : Option (Option A)) : A := match c with
  | some c => backA a c
  | none => a
theorem backs_get : ∀ (as : List A) (e : Env) (i : Nat), (backs as e)[i]? = as[i]?.map fun a => backO a e[i]?
  | [], _, _ => by simp [backs]
  | a :: as, [], 0 => by simp [backs, backO]
  | a :: as, [], i + 1 => by
    have := backs_get as [] i
    simp [backs] at this ⊢
    exact this
  | a :: as, c :: e, 0 => by simp [backs, backO]
  | a :: as, c :: e, i + 1 => by
    have := backs_get as e i
    simp [backs] at this ⊢
    exact this
/-- what may be handed over -/
def KdA (io : Nat → Bool) (as : List A) : Prop := ∀ i a, as[i]? = some a → (∃ x, a = .d x) ∨ (∃ ns, a = .sc ns) ∨ ((∃ o, a = .io o) ∧ io i = true)
def CellR (K : KW) (F H : Hp) (own : Addr → Prop) (v : V) : A → Prop
  | .d x => Dn K F v x
  | .own o => OwO K F H own v o
  | _ => False
def PD (K : KW) (B : Bs) (Q : VK) (E : XK) : DRs → Prop
  | .ok r ios => ∀ F O v H, RelF K B F O (B.vs.map some) (ios.map some) [v] [r] H → CellR K F H (fun a => O a = some B.vs.length ∧ B.H a = none) v r → Q v H
  | .ex x ios => ∀ cls d H us F O, RelF K B F O (B.vs.map some) (ios.map some) [] [] H → DnAll K F us (x.fs.map (·.2)) → XIs K x us cls d F → E cls d H
  | .bad => False
/-- a def's promise by its function -/
def spM (K : KW) (f : DF) : Sp := fun vs H Q E => ∃ F O as S io, vs.length = as.length ∧ KdA io as ∧ RelF K ⟨H, F, S, vs, io, (0, .none, none)⟩ F O (vs.map some) (as.map some) [] [] H ∧ PD K ⟨H, F, S, vs, io, (0, .none, none)⟩ Q E (f as)
/-- the same, where more is known of the beginning -/
def spMZ (K : KW) (Z : Bs → Prop) (f : DF) : Sp := fun vs H Q E => ∃ F O as S io, Z ⟨H, F, S, vs, io, (0, .none, none)⟩ ∧ vs.length = as.length ∧ KdA io as ∧ RelF K ⟨H, F, S, vs, io, (0, .none, none)⟩ F O (vs.map some) (as.map some) [] [] H ∧ PD K ⟨H, F, S, vs, io, (0, .none, none)⟩ Q E (f as)
/-- the same over a heap that has what is known -/
def spMF (K : KW) (F0 : Hp) (f : DF) : Sp := spMZ K (fun B => Same F0 B.F) f
theorem spMZ.sp {K : KW} {Z : Bs → Prop} {f : DF} {vs : List V} {H : Hp} {Q : VK} {E : XK} (h : spMZ K Z f vs H Q E) : spM K f vs H Q E := by
  obtain ⟨F, O, as, S, io, _, h⟩ := h
  exact ⟨F, O, as, S, io, h⟩
section
variable {K : KW} {B : Bs} {F H : Hp} {O : Addr → Option Nat} {σ : List (Option V)} {env : Env}
/-- further slots without a value -/
theorem RelF.pad (R : RelF K B F O σ env [] [] H) (n : Nat) : RelF K B F O (σ ++ List.replicate n none) (env ++ List.replicate n none) [] [] H where
  ln := by rw [List.length_append, List.length_append, R.ln, List.length_replicate, List.length_replicate]
  sl := fun i a e => by
    have il : i < env.length := by
      refine Classical.byContradiction fun z => ?_
      rw [List.getElem?_append_right (by omega), List.getElem?_replicate] at e
      split at e <;> cases e
    rw [List.getElem?_append_left il] at e
    obtain ⟨v, e1, c⟩ := R.sl i a e
    refine ⟨v, by rw [List.getElem?_append_left (by rw [R.ln]; exact il)]; exact e1, c.mono (Same.refl F) (fun _ z => ⟨z, rfl⟩) (fun _ _ => rfl) (fun i p w _ z => ?_) (fun _ _ _ _ z => ⟨z, rfl⟩)⟩
    rw [List.getElem?_append_left (List.getElem?_eq_some_iff.mp z).1]
    exact z
  tm := trivial
  sf := R.sf
  of := fun a j z => by
    obtain ⟨h1, h2, h3, h4⟩ := R.of a j z
    exact ⟨h1, h2, by rw [List.length_append]; simp at h3 ⊢; omega, h4⟩
  b1 := R.b1
  b2 := R.b2
  b3 := R.b3
  b5 := R.b5
  bi := fun i hi => by
    obtain ⟨o, ho⟩ := R.bi i hi
    exact ⟨o, by rw [List.getElem?_append_left (List.getElem?_eq_some_iff.mp ho).1]; exact ho⟩
  tb := R.tb
/-- the end of a def: what the caller sees -/
theorem rel_fin {O0 : Addr → Option Nat} {H0 F0 : Hp} {as : List A} {ts : List V} {te : List A} (R0 : RelF K B F0 O0 (B.vs.map some) (as.map some) [] [] H0) (hF0 : Same F0 F) (kd : KdA B.io as) (R : RelF K B F O σ env ts te H) {v : V} {r : A} (jr : Nat) (hjr : B.io jr = false)
    (hr : CellR K F H (fun a => O a = some jr ∧ B.H a = none) v r) : ∃ O', RelF K B F O' (B.vs.map some) ((backs as env).map some) [v] [r] H ∧ CellR K F H (fun a => O' a = some B.vs.length ∧ B.H a = none) v r := by
  have ln : B.vs.length = as.length := by have := R0.ln; rw [List.length_map, List.length_map] at this; exact this
  have iol : ∀ i, B.io i = true → i < as.length := fun i hi => by
    obtain ⟨o, ho⟩ := R0.bi i hi
    have := (List.getElem?_eq_some_iff.mp ho).1
    rw [List.length_map] at this
    exact this
  have bl : (backs as env).length = as.length := by
    have : ∀ (as : List A) (e : Env), (backs as e).length = as.length := by
      intro as
      induction as with
      | nil => intro e; rfl
      | cons a as ih =>
        intro e
        cases e with
        | nil => exact congrArg (· + 1) (ih [])
        | cons c e => exact congrArg (· + 1) (ih e)
    exact this as env
  let O' : Addr → Option Nat := fun a => if O a = some jr then some B.vs.length else match O a with
    | some j => if B.io j = true then some j else none
    | none => none
  have oj : ∀ a, O a = some jr → O' a = some B.vs.length := fun a z => if_pos z
  have oi : ∀ a j, O a = some j → B.io j = true → O' a = some j := fun a j z hi => by
    have nj : ¬ O a = some jr := by
      rw [z]
      intro y
      rw [Option.some.inj y, hjr] at hi
      cases hi
    show (if O a = some jr then some B.vs.length else match O a with | some j => if B.io j = true then some j else none | none => none) = some j
    rw [if_neg nj, z]
    exact if_pos hi
  have oinv : ∀ a j, O' a = some j → (O a = some jr ∧ j = B.vs.length) ∨ (O a = some j ∧ B.io j = true) := fun a j z => by
    have z : (if O a = some jr then some B.vs.length else match O a with | some j => if B.io j = true then some j else none | none => none) = some j := z
    by_cases c : O a = some jr
    · rw [if_pos c] at z
      exact .inl ⟨c, (Option.some.inj z).symm⟩
    · rw [if_neg c] at z
      cases q : O a with
      | none => rw [q] at z; cases z
      | some k =>
        rw [q] at z
        have z : (if B.io k = true then some k else none) = some j := z
        split at z
        · rename_i h
          cases z
          exact .inr ⟨rfl, h⟩
        · cases z
  have hr' : CellR K F H (fun a => O' a = some B.vs.length ∧ B.H a = none) v r := by
    cases r with
    | d x => exact hr
    | own o => exact OwO.mono (own := fun a => O a = some jr ∧ B.H a = none) (Same.refl F) (fun a z => ⟨oj a z.1, z.2⟩) (fun _ _ => rfl) hr
    | _ => exact hr.elim
  refine ⟨O', ⟨by rw [List.length_map, List.length_map, bl, ln], fun i a e => ?_, ⟨?_, trivial⟩, R.sf, fun a j z => ?_, R.b1, R.b2, R.b3, R.b5, fun i hi => ?_, R.tb⟩, hr'⟩
  · rw [List.getElem?_map, backs_get] at e
    cases q : as[i]? with
    | none => rw [q] at e; cases e
    | some a0 =>
      rw [q] at e
      obtain ⟨v0, hv0, c0⟩ := R0.sl i a0 (by rw [List.getElem?_map, q]; rfl)
      refine ⟨v0, hv0, ?_⟩
      rcases kd i a0 q with ⟨x, rfl⟩ | ⟨ns, rfl⟩ | ⟨⟨o, rfl⟩, hi⟩
      · have e2 : A.d x = a := by
          cases z : env[i]? with
          | none => rw [z] at e; exact Option.some.inj (Option.some.inj e)
          | some c => rw [z] at e; exact Option.some.inj (Option.some.inj e)
        subst e2
        exact Dn.same hF0 c0
      · have e2 : A.sc ns = a := by
          cases z : env[i]? with
          | none => rw [z] at e; exact Option.some.inj (Option.some.inj e)
          | some c => rw [z] at e; exact Option.some.inj (Option.some.inj e)
        subst e2
        obtain ⟨p, e3, h3⟩ := c0
        exact ⟨p, e3, Same.sqL hF0 h3⟩
      · obtain ⟨o', ho'⟩ := R.bi i hi
        rw [ho'] at e
        have e2 : A.io o' = a := Option.some.inj (Option.some.inj e)
        subst e2
        obtain ⟨w, hw, c⟩ := R.sl i _ ho'
        have e3 : v0 = w := by
          have h1 := c.2
          rw [List.getElem?_map] at hv0
          rw [h1] at hv0
          exact (Option.some.inj (Option.some.inj hv0)).symm
        subst e3
        exact ⟨OwO.mono (own := fun a => O a = some i) (Same.refl F) (fun a z => oi a i z hi) (fun _ _ => rfl) c.1, c.2⟩
  · show CellO K B F H O' (B.vs.map some) ((B.vs.map some).length + ([] : List V).length) v r
    rw [List.length_map]
    cases r with
    | d x => exact hr
    | own o => exact hr'
    | _ => exact hr.elim
  · rw [List.length_map]
    rcases oinv a j z with ⟨z1, rfl⟩ | ⟨z1, hi⟩
    · obtain ⟨h1, h2, h3, h4⟩ := R.of a _ z1
      refine ⟨h1, h2, Nat.lt_succ_self _, .inl ?_⟩
      rcases h4 with h4 | ⟨_, h4⟩
      · exact h4
      · rw [hjr] at h4; cases h4
    · obtain ⟨h1, h2, h3, h4⟩ := R.of a _ z1
      refine ⟨h1, h2, ?_, h4⟩
      have := iol j hi
      simp
      omega
  · obtain ⟨o, ho⟩ := R.bi i hi
    refine ⟨o, ?_⟩
    rw [List.getElem?_map, backs_get, ho]
    have il := iol i hi
    rw [List.getElem?_eq_getElem il]
    have hk := kd i as[i] (List.getElem?_eq_getElem il)
    rcases hk with ⟨x, e⟩ | ⟨ns, e⟩ | ⟨⟨o', e⟩, _⟩
    · obtain ⟨o2, ho2⟩ := R0.bi i hi
      rw [List.getElem?_map, List.getElem?_eq_getElem il, e] at ho2
      cases ho2
    · obtain ⟨o2, ho2⟩ := R0.bi i hi
      rw [List.getElem?_map, List.getElem?_eq_getElem il, e] at ho2
      cases ho2
    · rw [e]
      rfl
/-- from a body's mirror to the def's promise -/
theorem pure_of1Z {Z : Bs → Prop} {t : TS} {m : MS} {N : List Str} (vs : List V) (H : Hp) (Q : VK) (E : XK) (h : ∀ B, Z B → SS K B (fun cls d _ H => E cls d H) t m) (p : spMZ K Z (runM N.length m) vs H Q E) : t { nx := fun _ H' => Q .non H', rt := Q } (start N vs) H := by
  obtain ⟨F, O, as, S, io, hf, hl, kd, R, p⟩ := p
  refine h ⟨H, F, S, vs, io, (0, .none, none)⟩ hf (start N vs) (as.map some ++ List.replicate (N.length - as.length) none) [] [] H _ ?_ ?_
  · refine ⟨F, O, ?_⟩
    unfold L2.start
    rw [hl]
    exact R.pad _
  · have p : PD K ⟨H, F, S, vs, io, (0, .none, none)⟩ Q E (endM as (m (as.map some ++ List.replicate (N.length - as.length) none) [])) := p
    have fin : ∀ {F' : Hp} {O' : Addr → Option Nat} {σ : List (Option V)} {e : Env} {ts : List V} {te : List A} {H' : Hp} {v : V} {r : A} (R' : RelF K ⟨H, F, S, vs, io, (0, .none, none)⟩ F' O' σ e ts te H') (jr : Nat) (hjr : io jr = false) (hr : CellR K F' H' (fun a => O' a = some jr ∧ H a = none) v r) (p : PD K ⟨H, F, S, vs, io, (0, .none, none)⟩ Q E (.ok r (backs as e))), Q v H' := by
      intro F' O' σ e ts te H' v r R' jr hjr hr p
      obtain ⟨O2, R2, c2⟩ := rel_fin R R'.b1 kd R' jr hjr hr
      exact p F' O2 v H' R2 c2
    cases q : m (as.map some ++ List.replicate (N.length - as.length) none) [] with
    | nx e =>
      rw [q] at p
      rintro σ H' ⟨F', O', R'⟩
      refine fin R' σ.length ?_ (r := .d .none) .non p
      cases c : io σ.length with
      | false => rfl
      | true =>
        obtain ⟨o, ho⟩ := R'.bi _ c
        have := (List.getElem?_eq_some_iff.mp ho).1
        have := R'.ln
        omega
    | rt a e =>
      rw [q] at p
      rintro v σ ts' te' H' ⟨F', O', R'⟩
      have p : PD K ⟨H, F, S, vs, io, (0, .none, none)⟩ Q E (match retA e a with | some r => .ok r (backs as e) | none => .bad) := p
      have tj : io (σ.length + ts'.length) = false := by
        cases c : io (σ.length + ts'.length) with
        | false => rfl
        | true =>
          obtain ⟨o, ho⟩ := R'.bi _ c
          have := (List.getElem?_eq_some_iff.mp ho).1
          have := R'.ln
          omega
      cases a with
      | d x => exact fin R' _ tj (r := .d x) R'.tm.1 p
      | own o => exact fin R' _ tj (r := .own o) R'.tm.1 p
      | io o => exact False.elim p
      | sc o => exact False.elim p
      | q o => exact False.elim p
      | lk o => exact False.elim p
      | xr o => exact False.elim p
      | rf i pt =>
        cases pt with
        | some k => exact False.elim p
        | none =>
          cases q2 : e[i]? with
          | none => simp only [retA, q2] at p; exact False.elim p
          | some c =>
            cases c with
            | none => simp only [retA, q2] at p; exact False.elim p
            | some c =>
              cases c with
              | own o =>
                simp only [retA, q2] at p
                obtain ⟨w, hw, e1⟩ := R'.tm.1
                have e1 : v = w := e1
                obtain ⟨w', hw', c'⟩ := R'.sl i _ q2
                rw [hw] at hw'
                cases hw'
                subst e1
                refine fin R' i ?_ (r := .own o) c' p
                cases c : io i with
                | false => rfl
                | true =>
                  obtain ⟨o, ho⟩ := R'.bi _ c
                  rw [q2] at ho
                  cases ho
              | _ => simp only [retA, q2] at p; exact False.elim p
    | ex x e =>
      rw [q] at p
      intro σ cls d H' us F' O' R' du xi
      have jf : io (σ.length) = false := by
        cases c : io σ.length with
        | false => rfl
        | true =>
          obtain ⟨o, ho⟩ := R'.bi _ c
          have := (List.getElem?_eq_some_iff.mp ho).1
          have := R'.ln
          omega
      obtain ⟨O2, R2, _⟩ := rel_fin R R'.b1 kd R' σ.length jf (v := .non) (r := .d .none) .non
      exact p cls d H' us F' _ R2.pop du xi
    | bk e => rw [q] at p; exact False.elim p
    | ct e => rw [q] at p; exact False.elim p
    | bad => rw [q] at p; exact False.elim p
theorem pure_of1 {t : TS} {m : MS} {N : List Str} (vs : List V) (H : Hp) (Q : VK) (E : XK) (h : ∀ B, SS K B (fun cls d _ H => E cls d H) t m) (p : spM K (runM N.length m) vs H Q E) : t { nx := fun _ H' => Q .non H', rt := Q } (start N vs) H := by
  obtain ⟨F, O, as, S, io, p⟩ := p
  exact pure_of1Z (Z := fun _ => True) vs H Q E (fun B _ => h B) ⟨F, O, as, S, io, trivial, p⟩
theorem pure_of {t : TS} {m : MS} {N : List Str} (h : ∀ B W, SS K B W t m) (vs : List V) (H : Hp) (Q : VK) (E : XK) (p : spM K (runM N.length m) vs H Q E) : t { nx := fun _ H' => Q .non H', rt := Q } (start N vs) H := pure_of1 vs H Q E (fun B => h B _) p
end
end Tw

namespace Tw
open PySem PySem.Spec PyProof.Rows L2
/-! ### data without a list or dict in it -/
mutual
def tupD : Dt → Bool
  | .none => true
  | .bool _ => true
  | .int _ => true
  | .str _ => true
  | .list _ => false
  | .tuple xs => tupAll xs
  | .dict _ => false
def tupAll : List Dt → Bool
  | [] => true
  | x :: xs => tupD x && tupAll xs
end
def Ow.tup : Ow → Bool
  | .l xs => tupAll xs
  | .ll xss => xss.all tupAll
  | .dc kvs => kvs.all fun q => tupD q.2
  | .dl kvs => kvs.all fun q => tupAll q.2
  | .x (.st _) => true
  | .x (.ob _ fs) => fs.all fun q => tupD q.2
  | .x (.dn kvs) => kvs.all fun q => tupD q.2
  | .x (.dt kvs) => kvs.all fun q => tupD q.2
  | .x (.op _) => true
  | .x (.fn _) => true
  | .x .lam => true
def A.tup : A → Bool
  | .d x => tupD x
  | .own o => o.tup
  | .io o => o.tup
  | _ => true
section
variable {K : KW} {F F' H : Hp}
/-- the heap without some things that may be changed -/
def SubT (F F' : Hp) : Prop := ∀ a o, F a = some o → F' a = some o ∨ ((∀ xs, o ≠ .tup xs) ∧ ∀ b xs, o ≠ .frz b (.tup xs))
mutual
theorem Dn.sub (s : SubT F F') : ∀ {v : V} {d : Dt}, Dn K F v d → tupD d = true → Dn K F' v d
  | _, _, .non, _ => .non
  | _, _, .bl b, _ => .bl b
  | _, _, .int i, _ => .int i
  | _, _, .str x h, _ => .str x h
  | _, _, .lst _ _, h => nomatch h
  | _, _, .dct _ _, h => nomatch h
  | _, _, .tup h hs, g => by
    refine .tup ?_ (DnAll.sub s hs g)
    rcases h with ⟨o, h, d⟩ | h
    · rcases s _ _ h with z | z
      · exact .inl ⟨o, z, d⟩
      · exact absurd rfl (z.2 _ _)
    · exact .inr h
theorem DnAll.sub (s : SubT F F') : ∀ {vs : List V} {ds : List Dt}, DnAll K F vs ds → tupAll ds = true → DnAll K F' vs ds
  | _, _, .nil, _ => .nil
  | _, _, .cons h hs, g => by
    unfold tupAll at g
    rw [Bool.and_eq_true] at g
    exact .cons (Dn.sub s h g.1) (DnAll.sub s hs g.2)
end
theorem OwL.sub (s : SubT F F') {own : Addr → Prop} {v : V} {xs : List Dt} (h : OwL K F H own v xs) (g : tupAll xs = true) : OwL K F' H own v xs := by
  obtain ⟨a, vs, e, o, q, d⟩ := h
  exact ⟨a, vs, e, o, q, d.sub s g⟩
theorem paired_sub {α β : Type} {R R' : α → β → Prop} {p : β → Bool} (f : ∀ a b, R a b → p b = true → R' a b) : ∀ {xs : List α} {ys : List β}, Paired R xs ys → ys.all p = true → Paired R' xs ys
  | _, _, .nil, _ => .nil
  | _, _, .cons h r, g => by
    rw [List.all_cons, Bool.and_eq_true] at g
    exact .cons (f _ _ h g.1) (paired_sub f r g.2)
theorem TupN.sub (s : SubT F F') {a : Addr} {xs : List V} (h : TupN K F a xs) : TupN K F' a xs := by
  rcases h with ⟨o, h, d⟩ | h
  · rcases s _ _ h with z | z
    · exact .inl ⟨o, z, d⟩
    · exact absurd rfl (z.2 _ _)
  · exact .inr h
theorem OwO.sub (s : SubT F F') {own : Addr → Prop} {v : V} {o : Ow} (h : OwO K F H own v o) (g : o.tup = true) : OwO K F' H own v o := by
  cases o with
  | l xs => exact OwL.sub s h g
  | ll xss =>
    obtain ⟨a, vs, e, q, r, n, m, p⟩ := h
    exact ⟨a, vs, e, q, r, n, m, paired_sub (fun _ _ z g => z.sub s g) p g⟩
  | dc kvs =>
    obtain ⟨a, us, e, q, r, p⟩ := h
    exact ⟨a, us, e, q, r, paired_sub (fun _ _ z g => ⟨z.1, z.2.sub s g⟩) p g⟩
  | dl kvs =>
    obtain ⟨a, us, e, q, r, n, m, p⟩ := h
    exact ⟨a, us, e, q, r, n, m, paired_sub (fun _ _ z g => ⟨z.1, z.2.sub s g⟩) p g⟩
  | x t =>
    cases t with
    | st xs => exact h
    | op u => exact h
    | fn u => exact h
    | lam => exact h
    | ob c fs =>
      obtain ⟨a, dx, us, e, o1, o2, q1, q2, p⟩ := h
      exact ⟨a, dx, us, e, o1, o2, q1, q2, paired_sub (fun _ _ z g => ⟨z.1, z.2.sub s g⟩) p g⟩
    | dn kvs =>
      obtain ⟨a, us, e, o1, q1, p⟩ := h
      exact ⟨a, us, e, o1, q1, paired_sub (fun _ _ z g => ⟨z.1, z.2.sub s g⟩) p g⟩
    | dt kvs =>
      obtain ⟨a, us, e, o1, q1, p⟩ := h
      exact ⟨a, us, e, o1, q1, paired_sub (fun _ _ z g => ⟨z.1, TupN.sub s z.2.1, z.2.2.sub s g⟩) p g⟩
end
/-! ### arguments -/
def A.ioTup : A → Bool
  | .io o => o.tup
  | _ => true
structure Ag where
  a : A
  io : Option Nat
  br : Option Nat
def cvA (io : Bool) (env : Env) (a : A) : Option Ag := match a, io with
  | .d x, _ => some ⟨.d x, none, none⟩
  | .sc ns, _ => some ⟨.sc ns, none, none⟩
  | .rf i none, true => match owAt env i with
    | some o => some ⟨.io o, some i, none⟩
    | none => none
  | .rf i p, false => match (A.rf i p).val env with
    | some x => some ⟨.d x, none, some i⟩
    | none => none
  | _, _ => none
def cvAs : List Bool → List A → Env → Option (List Ag)
  | [], [], _ => some []
  | io :: bs, a :: as, env => match cvA io env a, cvAs bs as env with
    | some g, some gs => some (g :: gs)
    | _, _ => none
  | _, _, _ => none
def ioS (L : List Ag) : List Nat := L.filterMap (·.io)
def brS (L : List Ag) : List Nat := L.filterMap (·.br)
def agOk (env : Env) (te : List A) (L : List Ag) : Bool := decide (ioS L).Nodup && (ioS L).all fun i => !(brS L).contains i && !anyC (isNest i) env te
def setOw (env : Env) (i : Nat) (a : A) : Env := match env[i]?, a with
  | some (some (.own _)), .io o => env.set i (some (.own o))
  | some (some (.io _)), .io o => env.set i (some (.io o))
  | _, _ => env
def setIo : Env → List Ag → List A → Env
  | env, g :: gs, a :: ios => match g.io with
    | some i => setIo (setOw env i a) gs ios
    | none => setIo env gs ios
  | env, _, _ => env
def doCall (f : DF) (env : Env) (te : List A) (L : List Ag) : Rs A := if agOk env te L = true then (match f (L.map (·.a)) with
    | .ok r ios => if (brS L).isEmpty = true ∨ (r.tup = true ∧ ios.all A.ioTup = true) then .ok r (setIo env L ios) else .bad
    | .ex x ios => if (brS L).isEmpty = true ∨ (x.fs.all (fun q => tupD q.2) = true ∧ ios.all A.ioTup = true) then .ex x (setIo env L ios) else .bad
    | .bad => .bad) else .bad
def mCall (f : DF) (io : List Bool) (m : MA) : ME := fun env te => (m env te).bind fun as e => match cvAs io as e with
  | some L => doCall f e te L
  | none => .bad
/-! ### soundness of a call -/
def simA : A → Bool
  | .own _ => false
  | .io _ => false
  | _ => true
theorem cvA_sim {io : Bool} {env : Env} {a : A} {g : Ag} (h : cvA io env a = some g) : simA a = true := by
  cases a with
  | own o => cases io <;> cases h
  | io o => cases io <;> cases h
  | _ => rfl
theorem cvAs_sim : ∀ {bs : List Bool} {as : List A} {env : Env} {L : List Ag}, cvAs bs as env = some L → ∀ a ∈ as, simA a = true
  | [], [], _, _, _, a, h => nomatch h
  | io :: bs, b :: as, env, L, h, a, hm => by
    unfold cvAs at h
    cases q : cvA io env b with
    | none => rw [q] at h; cases h
    | some g =>
      cases q2 : cvAs bs as env with
      | none => rw [q, q2] at h; cases h
      | some gs =>
        rcases List.mem_cons.mp hm with rfl | hm
        · exact cvA_sim q
        · exact cvAs_sim q2 a hm
  | [], _ :: _, _, _, h, _, _ => nomatch h
  | _ :: _, [], _, _, h, _, _ => nomatch h
section
variable {K : KW} {B : Bs} {F H : Hp} {σ : List (Option V)} {env : Env} {ts : List V} {te : List A}
theorem args_cells : ∀ {us : List V} {ue : List A} {O : Addr → Option Nat}, us.length = ue.length → (∀ a ∈ ue, simA a = true) → RelF K B F O σ env (us ++ ts) (ue ++ te) H →
    ∃ O', RelF K B F O' σ env ts te H ∧ (∀ b i, i < σ.length → O b = some i → O' b = some i) ∧ Paired (fun v a => CellO K B F H O' σ 0 v a) us ue
  | [], [], O, _, _, R => ⟨O, R, (fun _ _ _ z => z), .nil⟩
  | u :: us, a :: ue, O, hl, hs, R => by
    obtain ⟨O', R', k, p⟩ := args_cells (Nat.succ.inj hl) (fun a h => hs a (List.mem_cons_of_mem _ h)) (RelF.pop R)
    have k' : ∀ b i, i < σ.length → O b = some i → O' b = some i := fun b i hi z => k b i hi ((if_neg (by rw [z]; intro y; have := Option.some.inj y; omega)).trans z)
    refine ⟨O', R', k', .cons ?_ p⟩
    have c := R.tm.1
    have sa := hs a List.mem_cons_self
    cases a with
    | d x => exact c
    | own o => cases sa
    | io o => cases sa
    | sc ns => exact c
    | q ns => exact c
    | lk ns => exact c
    | xr ns => exact c
    | rf i q =>
      obtain ⟨w, hw, c⟩ := c
      have il := (List.getElem?_eq_some_iff.mp hw).1
      exact ⟨w, hw, c.mono fun _ b z => ⟨k' b i il z, rfl⟩⟩
  | [], _ :: _, _, h, _, _ => nomatch h
  | _ :: _, [], _, h, _, _ => nomatch h
theorem paired_appR {α β : Type} {R : α → β → Prop} : ∀ {xs : List α} {ys : List β} {x : α} {y : β}, Paired R xs ys → R x y → Paired R (xs ++ [x]) (ys ++ [y])
  | _, _, _, _, .nil, h => .cons h .nil
  | _, _, _, _, .cons g r, h => .cons g (paired_appR r h)
theorem paired_rev {α β : Type} {R : α → β → Prop} : ∀ {xs : List α} {ys : List β}, Paired R xs ys → Paired R xs.reverse ys.reverse
  | _, _, .nil => .nil
  | _, _, .cons h r => by
    rw [List.reverse_cons, List.reverse_cons]
    exact paired_appR (paired_rev r) h
/-- what is known of an argument -/
def GA (K : KW) (F H : Hp) (O : Addr → Option Nat) (σ : List (Option V)) (env : Env) (v : V) (g : Ag) : Prop :=
  (∃ x, g = ⟨.d x, none, none⟩ ∧ Dn K F v x) ∨ (∃ i o x, o.dt = some x ∧ g = ⟨.d x, none, some i⟩ ∧ OwO K F H (fun a => O a = some i) v o) ∨ (∃ ns a, g = ⟨.sc ns, none, none⟩ ∧ v = .ref a ∧ SqL K F a (ns.map V.int)) ∨
    ∃ o i, g = ⟨.io o, some i, none⟩ ∧ OwO K F H (fun a => O a = some i) v o ∧ σ[i]? = some (some v) ∧ owAt env i = some o
variable {O : Addr → Option Nat}
/-- what a reference tells is owned by its slot -/
theorem cell_rf (R : RelF K B F O σ env ts te H) {j i : Nat} {p : Option Key} {v : V} {o : Ow} (c : CellO K B F H O σ j v (.rf i p)) (h : (A.rf i p).ow env = some o) : OwO K F H (fun a => O a = some i) v o := by
  obtain ⟨w, hw, q⟩ := c
  cases p with
  | none => cases q; exact R.owAt h hw
  | some k =>
    have h' : (match Tw.owAt env i with | some o => (o.sub k).map Ow.l | none => none) = some o := h
    cases e : Tw.owAt env i with
    | none => rw [e] at h'; cases h'
    | some u =>
      rw [e] at h'
      obtain ⟨a, ew, oa, q⟩ := q
      have z := R.owAt e hw
      have h' : (u.sub k).map Ow.l = some o := h'
      cases hs : u.sub k with
      | none => rw [hs] at h'; cases h'
      | some xs =>
        rw [hs] at h'
        cases h'
        cases u with
        | l _ => cases hs
        | dc _ => cases hs
        | x _ => cases hs
        | ll xss =>
          obtain ⟨a', vs, e1, o1, h1, n1, m1, p1⟩ := z
          rw [ew] at e1
          cases e1
          cases k with
          | inr _ => cases hs
          | inl n =>
            have hs' : (if 0 ≤ n then xss[n.toNat]? else none) = some xs := hs
            by_cases n0 : 0 ≤ n
            · rw [if_pos n0] at hs'
              rcases q with ⟨vs', m, em, m0, hv, hq⟩ | ⟨us, hu, _⟩
              · cases em
                rw [h1] at hv
                cases hv
                obtain ⟨x, hx, r⟩ := paired_getR p1 hs'
                rw [hq] at hx
                cases hx
                exact r
              · rw [h1] at hu; cases hu
            · rw [if_neg n0] at hs'; cases hs'
        | dl kvs =>
          obtain ⟨a', us, e1, o1, h1, n1, m1, p1⟩ := z
          rw [ew] at e1
          cases e1
          rcases q with ⟨vs', m, em, m0, hv, hq⟩ | ⟨us', hu, hq⟩
          · rw [h1] at hv; cases hv
          · rw [h1] at hu
            cases hu
            obtain ⟨x, hx, r⟩ := (paired_lk (R := OwL K F H fun a => O a = some i) p1 k).1 xs hs
            rw [hq] at hx
            cases hx
            exact r
theorem cvA_ga (R : RelF K B F O σ env ts te H) {io : Bool} {v : V} {a : A} {g : Ag} (c : CellO K B F H O σ 0 v a) (h : cvA io env a = some g) : GA K F H O σ env v g := by
  cases a with
  | d x => cases io <;> (cases h; exact .inl ⟨x, rfl, c⟩)
  | sc ns =>
    obtain ⟨a, e, q⟩ := c
    cases io <;> (cases h; exact .inr (.inr (.inl ⟨ns, a, rfl, e, q⟩)))
  | own o => cases io <;> cases h
  | io o => cases io <;> cases h
  | q o => cases io <;> cases h
  | lk o => cases io <;> cases h
  | xr o => cases io <;> cases h
  | rf i p =>
    cases io with
    | false =>
      replace h : (match (A.rf i p).val env with | some x => some (⟨.d x, none, some i⟩ : Ag) | none => none) = some g := by cases p <;> exact h
      have h : (match (A.rf i p).val env with | some x => some (⟨.d x, none, some i⟩ : Ag) | none => none) = some g := h
      cases q : (A.rf i p).ow env with
      | none =>
        have q2 : (A.rf i p).val env = none := by show ((A.rf i p).ow env).bind Ow.dt = none; rw [q]; rfl
        rw [q2] at h; cases h
      | some o =>
        have q2 : (A.rf i p).val env = o.dt := by show ((A.rf i p).ow env).bind Ow.dt = o.dt; rw [q]; rfl
        rw [q2] at h
        cases hd : o.dt with
        | none => rw [hd] at h; cases h
        | some d =>
          rw [hd] at h
          cases h
          exact .inr (.inl ⟨i, o, d, hd, rfl, cell_rf R c q⟩)
    | true =>
      cases p with
      | some k => cases h
      | none =>
        have h : (match owAt env i with | some o => some (⟨.io o, some i, none⟩ : Ag) | none => none) = some g := h
        cases q : owAt env i with
        | none => rw [q] at h; cases h
        | some o =>
          rw [q] at h
          cases h
          obtain ⟨w, hw, e⟩ := id c
          have e : v = w := e
          subst e
          exact .inr (.inr (.inr ⟨o, i, rfl, cell_rf R c q, hw, q⟩))
theorem cvAs_ga (R : RelF K B F O σ env ts te H) : ∀ {bs : List Bool} {vs : List V} {as : List A} {L : List Ag}, Paired (fun v a => CellO K B F H O σ 0 v a) vs as → cvAs bs as env = some L → Paired (GA K F H O σ env) vs L
  | [], [], [], _, .nil, h => by cases h; exact .nil
  | io :: bs, v :: vs, a :: as, L, .cons c r, h => by
    unfold cvAs at h
    cases q : cvA io env a with
    | none => rw [q] at h; cases h
    | some g =>
      cases q2 : cvAs bs as env with
      | none => rw [q, q2] at h; cases h
      | some gs =>
        rw [q, q2] at h
        cases h
        exact .cons (cvA_ga R c q) (cvAs_ga R r q2)
  | _ :: _, [], [], _, .nil, h => nomatch h
  | [], _ :: _, _ :: _, _, .cons _ _, h => nomatch h
end
theorem ioS_mem : ∀ {L : List Ag} {k : Nat} {g : Ag} {i : Nat}, L[k]? = some g → g.io = some i → i ∈ ioS L
  | g' :: L, 0, g, i, h, hi => by
    cases h
    unfold ioS
    rw [List.filterMap_cons, hi]
    exact List.mem_cons_self
  | g' :: L, k + 1, g, i, h, hi => by
    have := ioS_mem (L := L) (k := k) (by simpa using h) hi
    unfold ioS at this ⊢
    rw [List.filterMap_cons]
    cases g'.io with
    | none => exact this
    | some j => exact List.mem_cons_of_mem _ this
theorem ioS_inv : ∀ {L : List Ag} {i : Nat}, i ∈ ioS L → ∃ (k : Nat) (g : Ag), L[k]? = some g ∧ g.io = some i := fun {L i} h => by
  unfold ioS at h
  obtain ⟨g, hg, e⟩ := List.mem_filterMap.mp h
  obtain ⟨k, hk⟩ := List.getElem?_of_mem hg
  exact ⟨k, g, hk, e⟩
theorem brS_mem {L : List Ag} {k : Nat} {g : Ag} {i : Nat} (h : L[k]? = some g) (hi : g.br = some i) : i ∈ brS L := List.mem_filterMap.mpr ⟨g, List.mem_of_getElem? h, hi⟩
theorem ioS_uniq : ∀ {L : List Ag}, (ioS L).Nodup → ∀ {k k' : Nat} {g g' : Ag} {i : Nat}, L[k]? = some g → L[k']? = some g' → g.io = some i → g'.io = some i → k = k'
  | [], _, _, _, _, _, _, h, _, _, _ => by simp at h
  | g0 :: L, nd, k, k', g, g', i, h, h', e, e' => by
    have nd' : (ioS L).Nodup := by
      unfold ioS at nd ⊢
      rw [List.filterMap_cons] at nd
      cases q : g0.io with
      | none => rw [q] at nd; exact nd
      | some j => rw [q] at nd; exact (List.nodup_cons.mp nd).2
    have no : g0.io = some i → ∀ (n : Nat) (g2 : Ag), L[n]? = some g2 → g2.io ≠ some i := fun q n g2 hn he => by
      have nd := nd
      unfold ioS at nd
      rw [List.filterMap_cons, q] at nd
      exact (List.nodup_cons.mp nd).1 (ioS_mem hn he)
    cases k with
    | zero =>
      cases k' with
      | zero => rfl
      | succ n' => cases h; exact absurd e' (no e n' g' (by simpa using h'))
    | succ n =>
      cases k' with
      | zero => cases h'; exact absurd e (no e' n g (by simpa using h))
      | succ n' => exact congrArg (· + 1) (ioS_uniq nd' (by simpa using h) (by simpa using h') e e')
theorem setOw_other {env : Env} {i j : Nat} {a : A} (h : j ≠ i) : (setOw env i a)[j]? = env[j]? := by
  unfold setOw
  split
  · rw [List.getElem?_set, if_neg (Ne.symm h)]
  · rw [List.getElem?_set, if_neg (Ne.symm h)]
  · rfl
theorem setOw_len {env : Env} {i : Nat} {a : A} : (setOw env i a).length = env.length := by
  unfold setOw
  split
  · rw [List.length_set]
  · rw [List.length_set]
  · rfl
theorem setIo_len : ∀ {L : List Ag} {env : Env} {ios : List A}, (setIo env L ios).length = env.length
  | [], _, _ => rfl
  | _ :: _, _, [] => rfl
  | g :: L, env, a :: ios => by
    unfold setIo
    split
    · rw [setIo_len, setOw_len]
    · rw [setIo_len]
theorem setIo_other {j : Nat} : ∀ {L : List Ag} {env : Env} {ios : List A}, j ∉ ioS L → (setIo env L ios)[j]? = env[j]?
  | [], _, _, _ => rfl
  | _ :: _, _, [], _ => rfl
  | g :: L, env, a :: ios, h => by
    unfold setIo
    unfold ioS at h
    rw [List.filterMap_cons] at h
    split
    · rename_i i hi
      rw [hi] at h
      rw [setIo_other (L := L) (fun z => h (List.mem_cons_of_mem _ z)), setOw_other (fun z => h (by rw [z]; exact List.mem_cons_self))]
    · rename_i hi
      rw [hi] at h
      exact setIo_other (L := L) h
theorem setIo_at {i : Nat} {o' : Ow} : ∀ {L : List Ag} {env : Env} {ios : List A} {k : Nat} {g : Ag}, (ioS L).Nodup → L[k]? = some g → g.io = some i → ios[k]? = some (.io o') →
    (∀ o, env[i]? = some (some (.own o)) → (setIo env L ios)[i]? = some (some (.own o'))) ∧ (∀ o, env[i]? = some (some (.io o)) → (setIo env L ios)[i]? = some (some (.io o')))
  | [], _, _, _, _, _, h, _, _ => by simp at h
  | g0 :: L, env, [], k, g, nd, h, hi, hio => by simp at hio
  | g0 :: L, env, a :: ios, 0, g, nd, h, hi, hio => by
    cases h
    cases hio
    have nd := nd
    unfold ioS at nd
    rw [List.filterMap_cons, hi] at nd
    have ni : i ∉ ioS L := (List.nodup_cons.mp nd).1
    unfold setIo
    rw [hi]
    simp only
    refine ⟨fun o e => ?_, fun o e => ?_⟩
    · rw [setIo_other ni]
      unfold setOw
      rw [e]
      simp only
      rw [List.getElem?_set, if_pos rfl, if_pos (List.getElem?_eq_some_iff.mp e).1]
    · rw [setIo_other ni]
      unfold setOw
      rw [e]
      simp only
      rw [List.getElem?_set, if_pos rfl, if_pos (List.getElem?_eq_some_iff.mp e).1]
  | g0 :: L, env, a :: ios, k + 1, g, nd, h, hi, hio => by
    have nd' : (ioS L).Nodup := by
      unfold ioS at nd ⊢
      rw [List.filterMap_cons] at nd
      cases q : g0.io with
      | none => rw [q] at nd; exact nd
      | some j => rw [q] at nd; exact (List.nodup_cons.mp nd).2
    have hk : L[k]? = some g := by simpa using h
    have ne : ∀ j, g0.io = some j → i ≠ j := fun j q z => by
      have := ioS_uniq nd (k := 0) (k' := k + 1) rfl h (by rw [q, z]) hi
      omega
    unfold setIo
    split
    · rename_i j hj
      obtain ⟨h1, h2⟩ := setIo_at (env := setOw env j a) (ios := ios) nd' hk hi (by simpa using hio)
      exact ⟨fun o e => h1 o (by rw [setOw_other (ne j hj)]; exact e), fun o e => h2 o (by rw [setOw_other (ne j hj)]; exact e)⟩
    · exact setIo_at (ios := ios) nd' hk hi (by simpa using hio)
end Tw

namespace Tw
open PySem PySem.Spec PyProof.Rows L2
section
variable {K : KW} {B : Bs} {W : WX} {F H : Hp} {O : Addr → Option Nat} {σ : List (Option V)} {env : Env} {ts : List V} {te : List A}
def kOf (L : List Ag) (i : Nat) : Option Nat := L.findIdx? fun g => decide (g.io = some i)
theorem kOf_some {L : List Ag} {i k : Nat} (h : kOf L i = some k) : ∃ g, L[k]? = some g ∧ g.io = some i := by
  unfold kOf at h
  obtain ⟨hk, hp, _⟩ := List.findIdx?_eq_some_iff_getElem.mp h
  exact ⟨L[k], List.getElem?_eq_getElem hk, of_decide_eq_true hp⟩
theorem kOf_at {L : List Ag} (nd : (ioS L).Nodup) {i k : Nat} {g : Ag} (h : L[k]? = some g) (hi : g.io = some i) : kOf L i = some k := by
  cases q : kOf L i with
  | none =>
    unfold kOf at q
    have := List.findIdx?_eq_none_iff.mp q g (List.mem_of_getElem? h)
    rw [hi] at this
    simp at this
  | some k' =>
    obtain ⟨g', h', hi'⟩ := kOf_some q
    rw [ioS_uniq nd h h' hi hi']
theorem kOf_none {L : List Ag} {i : Nat} (h : i ∉ ioS L) : kOf L i = none := by
  cases q : kOf L i with
  | none => rfl
  | some k =>
    obtain ⟨g, h1, h2⟩ := kOf_some q
    exact absurd (ioS_mem h1 h2) h
open Classical in
theorem call_start (R : RelF K B F O σ env ts te H) {vs : List V} {L : List Ag} (g : Paired (GA K F H O σ env) vs L) (nd : (ioS L).Nodup) (dj : ∀ i ∈ ioS L, i ∉ brS L) :
    KdA (fun k => match L[k]? with | some g => g.io.isSome | none => false) (L.map (·.a)) ∧
    RelF K ⟨H, fun a => if ∃ i ∈ brS L, O a = some i then H a else F a, fun a => (O a).bind (kOf L), vs, fun k => (match L[k]? with | some g => g.io.isSome | none => false), (0, .none, none)⟩
      (fun a => if ∃ i ∈ brS L, O a = some i then H a else F a) (fun a => (O a).bind (kOf L)) (vs.map some) ((L.map (·.a)).map some) [] [] H := by
  have sF : Same F (fun a => if ∃ i ∈ brS L, O a = some i then H a else F a) := fun a o e => by
    show (if ∃ i ∈ brS L, O a = some i then H a else F a) = some o
    rw [if_neg]
    · exact e
    · rintro ⟨i, _, z⟩
      rw [(R.of a i z).1] at e
      cases e
  have iok : ∀ {k : Nat} {g : Ag}, L[k]? = some g → (match L[k]? with | some g => g.io.isSome | none => false) = g.io.isSome := fun h => by rw [h]
  refine ⟨fun k a e => ?_, ⟨?_, fun k a e => ?_, trivial, ?_, fun a k z => ?_, Same.refl _, fun b o _ _ e => e, fun b h1 h2 => absurd h1 h2, fun b h => h, fun k hk => ?_, fun p hp => ⟨(if_neg (by
    rintro ⟨i, _, z⟩
    rw [(R.tabO hp).1] at z
    cases z)).trans (R.noF hp), (R.tabO hp).2, by
      show (O p.1).bind (kOf L) = none
      rw [(R.tabO hp).1]
      rfl⟩, R.tb.2⟩⟩
  · rw [List.getElem?_map] at e
    cases q : L[k]? with
    | none => rw [q] at e; cases e
    | some ag =>
      rw [q] at e
      cases e
      obtain ⟨v, hv, ga⟩ := paired_getR g q
      rcases ga with ⟨x, rfl, _⟩ | ⟨i, o, xd, hxd, rfl, _⟩ | ⟨ns, p, rfl, _⟩ | ⟨o, i, rfl, _⟩
      · exact .inl ⟨_, rfl⟩
      · exact .inl ⟨_, rfl⟩
      · exact .inr (.inl ⟨_, rfl⟩)
      · exact .inr (.inr ⟨⟨_, rfl⟩, by simp only [q]; rfl⟩)
  · rw [List.length_map, List.length_map, List.length_map]
    exact g.length
  · rw [List.map_map, List.getElem?_map] at e
    cases q : L[k]? with
    | none => rw [q] at e; cases e
    | some ag =>
      rw [q] at e
      cases e
      obtain ⟨v, hv, ga⟩ := paired_getR g q
      refine ⟨v, by rw [List.getElem?_map, hv]; rfl, ?_⟩
      rcases ga with ⟨x, rfl, c⟩ | ⟨i, o, xd, hxd, rfl, c⟩ | ⟨ns, p, rfl, e, c⟩ | ⟨o, i, rfl, c, h1, h2⟩
      · exact Dn.same sF c
      · refine OwO.dn (own := fun a => O a = some i) sF (fun a z => if_pos ⟨i, brS_mem q rfl, z⟩) c hxd
      · exact ⟨p, e, Same.sqL sF c⟩
      · refine ⟨OwO.mono (own := fun a => O a = some i) sF (fun a z => ?_) (fun _ _ => rfl) c, hv⟩
        show (O a).bind (kOf L) = some k
        rw [z]
        exact kOf_at nd q rfl
  · intro a o e
    have e : (if ∃ i ∈ brS L, O a = some i then H a else F a) = some o := e
    split at e
    · exact e
    · exact R.sf a o e
  · have z : (O a).bind (kOf L) = some k := z
    cases q : O a with
    | none => rw [q] at z; cases z
    | some i =>
      rw [q] at z
      obtain ⟨ag, h1, h2⟩ := kOf_some z
      obtain ⟨q1, q2, q3, q4⟩ := R.of a i q
      refine ⟨?_, q2, ?_, .inr ⟨by show (O a).bind (kOf L) = some k; rw [q]; exact z, by simp only [h1, h2]; rfl⟩⟩
      · refine (if_neg ?_).trans q1
        rintro ⟨j, hj, z2⟩
        first | (rw [q] at z2; cases z2; exact dj i (ioS_mem h1 h2) hj) | (cases z2; exact dj i (ioS_mem h1 h2) hj)
      · rw [List.length_map, g.length]
        have := (List.getElem?_eq_some_iff.mp h1).1
        simpa using this
  · have hk : (match L[k]? with | some g => g.io.isSome | none => false) = true := hk
    cases q : L[k]? with
    | none => rw [q] at hk; cases hk
    | some ag =>
      rw [q] at hk
      obtain ⟨v, hv, ga⟩ := paired_getR g q
      rcases ga with ⟨x, rfl, c⟩ | ⟨i, o, xd, hxd, rfl, c⟩ | ⟨ns, p, rfl, e, c⟩ | ⟨o, i, rfl, c, h1, h2⟩
      · cases hk
      · cases hk
      · cases hk
      · exact ⟨o, by rw [List.map_map, List.getElem?_map, q]; rfl⟩
open Classical in
/-- behind the call: the caller's own things again -/
theorem call_back (R : RelF K B F O σ env ts te H) {vs : List V} {L : List Ag} (g : Paired (GA K F H O σ env) vs L) (nd : (ioS L).Nodup) (dj : ∀ i ∈ ioS L, i ∉ brS L) (nn : ∀ i ∈ ioS L, anyC (isNest i) env te = false)
    {F' H' : Hp} {O' : Addr → Option Nat} {ios : List A} {xs : List V} {xe : List A}
    (R' : RelF K ⟨H, fun a => if ∃ i ∈ brS L, O a = some i then H a else F a, fun a => (O a).bind (kOf L), vs, fun k => (match L[k]? with | some g => g.io.isSome | none => false), (0, .none, none)⟩ F' O' (vs.map some) (ios.map some) xs xe H')
    (tp : (brS L).isEmpty = true ∨ ios.all A.ioTup = true) :
    ∃ F2 O2, RelF K B F2 O2 σ (setIo env L ios) ts te H' ∧ (∀ v x, Dn K F' v x → ((brS L).isEmpty = true ∨ tupD x = true) → Dn K F2 v x) ∧ (∀ us ds, DnAll K F' us ds → ((brS L).isEmpty = true ∨ tupAll ds = true) → DnAll K F2 us ds) ∧ (∀ a fs, F' a = some (.xd fs) → F2 a = some (.xd fs)) ∧
      (∀ v o, OwO K F' H' (fun a => O' a = some vs.length ∧ H a = none) v o → ((brS L).isEmpty = true ∨ o.tup = true) → ∃ O3, RelF K B F2 O3 σ (setIo env L ios) (v :: ts) (.own o :: te) H') := by
  have ioN : ∀ k : Nat, (match L[k]? with | some g => g.io.isSome | none => false) = true → ∃ (ag : Ag) (i : Nat), L[k]? = some ag ∧ ag.io = some i := fun k hk => by
    cases q : L[k]? with
    | none => rw [q] at hk; cases hk
    | some ag =>
      rw [q] at hk
      cases q2 : ag.io with
      | none => simp only [q2] at hk; cases hk
      | some i => exact ⟨ag, i, rfl, q2⟩
  let F2 : Hp := fun a => if ∃ i ∈ brS L, O a = some i then none else F' a
  have f2n : ∀ a i, O a = some i → i ∈ brS L → F2 a = none := fun a i z hi => if_pos ⟨i, hi, z⟩
  have f2p : ∀ a, (¬ ∃ i ∈ brS L, O a = some i) → F2 a = F' a := fun a z => if_neg z
  have sFx : Same F (fun a => if ∃ i ∈ brS L, O a = some i then H a else F a) := fun a o e => by
    show (if ∃ i ∈ brS L, O a = some i then H a else F a) = some o
    rw [if_neg]
    · exact e
    · rintro ⟨i, _, z⟩
      rw [(R.of a i z).1] at e
      cases e
  have sF : Same F F2 := fun a o e => by
    rw [f2p a]
    · exact R'.b1 a o (sFx a o e)
    · rintro ⟨i, _, z⟩
      rw [(R.of a i z).1] at e
      cases e
  have sub : SubT F' F2 := fun a o e => by
    by_cases c : ∃ i ∈ brS L, O a = some i
    · obtain ⟨i, hi, z⟩ := c
      obtain ⟨q1, q2, q3, q4⟩ := R.of a i z
      cases hh : H a with
      | none => exact absurd hh q2.1
      | some u =>
        have e2 : F' a = some u := R'.b1 a u ((if_pos ⟨i, hi, z⟩).trans hh)
        rw [e] at e2
        cases e2
        rw [hh] at q2
        exact .inr ⟨fun xs z => q2.2.1 xs (by rw [z]), fun b u z => q2.2.2.1 b (.tup u) (by rw [z])⟩
    · exact .inl (by rw [f2p a c]; exact e)
  have emp : (brS L).isEmpty = true → F2 = F' := fun h => funext fun a => f2p a (by
    rintro ⟨i, hi, _⟩
    rw [List.isEmpty_iff.mp h] at hi
    cases hi)
  have dn : ∀ v x, Dn K F' v x → ((brS L).isEmpty = true ∨ tupD x = true) → Dn K F2 v x := fun v x h c => by
    rcases c with c | c
    · rw [emp c]; exact h
    · exact Dn.sub sub h c
  have dna : ∀ us ds, DnAll K F' us ds → ((brS L).isEmpty = true ∨ tupAll ds = true) → DnAll K F2 us ds := fun us ds h c => by
    rcases c with c | c
    · rw [emp c]; exact h
    · exact DnAll.sub sub h c
  have ow : ∀ (own : Addr → Prop) v o, OwO K F' H' own v o → ((brS L).isEmpty = true ∨ o.tup = true) → OwO K F2 H' own v o := fun own v o h c => by
    rcases c with c | c
    · rw [emp c]; exact h
    · exact OwO.sub sub h c
  have xdk : ∀ a fs, F' a = some (.xd fs) → F2 a = some (.xd fs) := fun a fs e => by
    by_cases c : ∃ i ∈ brS L, O a = some i
    · obtain ⟨i, hi, z⟩ := c
      obtain ⟨q1, q2, q3, q4⟩ := R.of a i z
      cases hh : H a with
      | none => exact absurd hh q2.1
      | some u =>
        have e2 : F' a = some u := R'.b1 a u ((if_pos ⟨i, hi, z⟩).trans hh)
        rw [e] at e2
        cases e2
        exact absurd hh (q2.2.2.2.1 fs)
    · rw [f2p a c]; exact e
  -- what is not handed over stays
  have stay : ∀ a j, O a = some j → j ∉ ioS L → H' a = H a ∧ F2 a = none ∧ ∀ k, O' a ≠ some k := fun a j z hj => by
    obtain ⟨q1, q2, q3, q4⟩ := R.of a j z
    have nS : (O a).bind (kOf L) = none := by rw [z]; exact kOf_none hj
    have hH : H' a = H a := by
      cases hh : H a with
      | none => exact absurd hh q2.1
      | some u => exact R'.b2 a u nS (fun ps e => by rw [hh, e] at q2; exact q2.2.2.2.2.1 ps rfl) hh
    refine ⟨hH, ?_, fun k hk => ?_⟩
    · by_cases c : ∃ i ∈ brS L, O a = some i
      · exact if_pos c
      · rw [f2p a c]
        cases hf : F' a with
        | none => rfl
        | some u =>
          rcases R'.b3 a ((if_neg c).trans q1) (by rw [hf]; exact nofun) with z | z
          · exact absurd z q2.1
          · exact absurd nS z
    · rcases (R'.of a k hk).2.2.2 with y | y
      · exact q2.1 y
      · have y1 : (O a).bind (kOf L) = some k := y.1
        rw [nS] at y1
        cases y1
  let O2 : Addr → Option Nat := fun a => match O' a with
    | some k => (L[k]?).bind (·.io)
    | none => match O a with
      | some j => if j ∈ ioS L then none else some j
      | none => none
  have o2a : ∀ a j, O a = some j → j ∉ ioS L → O2 a = some j := fun a j z hj => by
    have h := (stay a j z hj).2.2
    show (match O' a with | some k => (L[k]?).bind (·.io) | none => match O a with | some j => if j ∈ ioS L then none else some j | none => none) = some j
    cases q : O' a with
    | some k => exact absurd q (h k)
    | none => simp only [z]; exact if_neg hj
  have o2b : ∀ a k ag i, O' a = some k → L[k]? = some ag → ag.io = some i → O2 a = some i := fun a k ag i z h1 h2 => by
    show (match O' a with | some k => (L[k]?).bind (·.io) | none => match O a with | some j => if j ∈ ioS L then none else some j | none => none) = some i
    rw [z]
    simp only [h1]
    exact h2
  have o2inv : ∀ a j, O2 a = some j → (O a = some j ∧ j ∉ ioS L) ∨ ∃ k ag, O' a = some k ∧ L[k]? = some ag ∧ ag.io = some j := fun a j z => by
    have z : (match O' a with | some k => (L[k]?).bind (·.io) | none => match O a with | some j => if j ∈ ioS L then none else some j | none => none) = some j := z
    cases q : O' a with
    | some k =>
      rw [q] at z
      have z : (L[k]?).bind (·.io) = some j := z
      cases q2 : L[k]? with
      | none => rw [q2] at z; cases z
      | some ag => rw [q2] at z; exact .inr ⟨k, ag, rfl, q2, z⟩
    | none =>
      rw [q] at z
      have z : (match O a with | some j => if j ∈ ioS L then none else some j | none => none) = some j := z
      cases q2 : O a with
      | none => rw [q2] at z; cases z
      | some i =>
        rw [q2] at z
        have z : (if i ∈ ioS L then none else some i) = some j := z
        split at z
        · cases z
        · cases z; exact .inl ⟨rfl, by assumption⟩
  have cm : ∀ {j : Nat} {u : V} {c : A}, CellO K B F H O σ j u c → j ∉ ioS L → (∀ i ∈ ioS L, isNest i c = false) → CellO K B F2 H' O2 σ j u c := fun {j u c} h nj hc => by
    refine h.mono sF (fun b z => ⟨o2a b j z nj, (stay b j z nj).1⟩) (fun _ _ => rfl) (fun _ _ _ _ z => z) (fun i k e b z => ?_)
    by_cases hi : i ∈ ioS L
    · have := hc i hi
      rw [e] at this
      simp [isNest] at this
    · exact ⟨o2a b i z hi, (stay b i z hi).1⟩
  have iol : ∀ i ∈ ioS L, i < σ.length := fun i hi => by
    obtain ⟨k, ag, h1, h2⟩ := ioS_inv hi
    obtain ⟨v, hv, ga⟩ := paired_getR g h1
    rcases ga with ⟨x, rfl, c⟩ | ⟨i, o, xd, hxd, rfl, c⟩ | ⟨ns, p, rfl, e, c⟩ | ⟨o, i', rfl, c, h3, h4⟩
    · cases h2
    · cases h2
    · cases h2
    · cases h2
      exact (List.getElem?_eq_some_iff.mp h3).1
  have tm : ∀ {us : List V} {ue : List A}, (∀ i ∈ ioS L, ∀ a ∈ ue, isNest i a = false) → TmO K B F H O σ us ue → TmO K B F2 H' O2 σ us ue := fun {us} => by
    induction us with
    | nil => intro ue _ h; cases ue with
      | nil => trivial
      | cons => exact h.elim
    | cons u us ih =>
      intro ue hl h
      cases ue with
      | nil => exact h.elim
      | cons x ue =>
        refine ⟨cm h.1 (fun z => ?_) (fun i hi => hl i hi x List.mem_cons_self), ih (fun i hi a ha => hl i hi a (List.mem_cons_of_mem _ ha)) h.2⟩
        have := iol _ z
        omega
  have ioSlot : ∀ i ∈ ioS L, ∃ (k : Nat) (ag : Ag) (o' : Ow) (w : V), L[k]? = some ag ∧ ag.io = some i ∧ ios[k]? = some (.io o') ∧ σ[i]? = some (some w) ∧ OwO K F' H' (fun a => O' a = some k) w o' ∧ ∃ o, owAt env i = some o := fun i hi => by
    obtain ⟨k, ag, h1, h2⟩ := ioS_inv hi
    obtain ⟨v, hv, ga⟩ := paired_getR g h1
    rcases ga with ⟨x, rfl, c⟩ | ⟨i, o, xd, hxd, rfl, c⟩ | ⟨ns, p, rfl, e, c⟩ | ⟨o, i', rfl, c, h3, h4⟩
    · cases h2
    · cases h2
    · cases h2
    · cases h2
      obtain ⟨o', ho'⟩ := R'.bi k (by simp only [h1]; rfl)
      rw [List.getElem?_map] at ho'
      cases q : ios[k]? with
      | none => rw [q] at ho'; cases ho'
      | some a0 =>
        rw [q] at ho'
        cases ho'
        obtain ⟨w, hw, cc⟩ := R'.sl k (.io o') (by rw [List.getElem?_map, q]; rfl)
        have e2 : w = v := by
          rw [List.getElem?_map, hv] at hw
          cases hw
          rfl
        subst e2
        exact ⟨k, _, o', w, h1, rfl, by first | exact q | rfl, h3, cc.1, o, h4⟩
  have iotup : ∀ (k : Nat) (o' : Ow), ios[k]? = some (A.io o') → (brS L).isEmpty = true ∨ o'.tup = true := fun k o' h => by
    rcases tp with c | c
    · exact .inl c
    · exact .inr (List.all_eq_true.mp c _ (List.mem_of_getElem? h))
  have slots : ∀ i a, (setIo env L ios)[i]? = some (some a) → ∃ v, σ[i]? = some (some v) ∧ CellO K B F2 H' O2 σ i v a := fun i a e => by
    by_cases hi : i ∈ ioS L
    · obtain ⟨k, ag, o', w, h1, h2, h3, h4, h5, o, h6⟩ := ioSlot i hi
      refine ⟨w, h4, ?_⟩
      have h5' := ow _ w o' h5 (iotup k o' h3)
      have own2 : OwO K F2 H' (fun a => O2 a = some i) w o' := OwO.mono (own := fun a => O' a = some k) (Same.refl F2) (fun a z => o2b a k ag i z h1 h2) (fun _ _ => rfl) h5'
      unfold Tw.owAt at h6
      cases q : env[i]? with
      | none => rw [q] at h6; cases h6
      | some c =>
        cases c with
        | none => rw [q] at h6; cases h6
        | some c =>
          obtain ⟨s1, s2⟩ := setIo_at (env := env) (ios := ios) nd h1 h2 h3
          cases c with
          | own o0 =>
            rw [s1 o0 q] at e
            cases e
            refine OwO.mono (own := fun a => O' a = some k) (Same.refl F2) (fun a z => ⟨o2b a k ag i z h1 h2, ?_⟩) (fun _ _ => rfl) h5'
            rcases (R'.of a k z).2.2.2 with y | y
            · exact Classical.byContradiction fun hb => R.b5 a hb y
            · have y1 : (O a).bind (kOf L) = some k := y.1
              cases zj : O a with
              | none => rw [zj] at y1; cases y1
              | some j =>
                rw [zj] at y1
                obtain ⟨ag', g1, g2⟩ := kOf_some y1
                rw [h1] at g1
                cases g1
                rw [h2] at g2
                cases g2
                rcases (R.of a _ zj).2.2.2 with y2 | y2
                · exact y2
                · obtain ⟨o9, h9⟩ := R.bi _ y2.2
                  rw [q] at h9
                  cases h9
          | io o0 =>
            rw [s2 o0 q] at e
            cases e
            refine ⟨own2, ?_⟩
            obtain ⟨w', hw', c'⟩ := R.sl i _ q
            rw [h4] at hw'
            cases hw'
            exact c'.2
          | d x => rw [q] at h6; cases h6
          | rf _ _ => rw [q] at h6; cases h6
          | sc _ => rw [q] at h6; cases h6
          | q _ => rw [q] at h6; cases h6
          | lk _ => rw [q] at h6; cases h6
          | xr _ => rw [q] at h6; cases h6
    · rw [setIo_other hi] at e
      obtain ⟨v, hv, c⟩ := R.sl i a e
      exact ⟨v, hv, cm c hi fun j hj => anyC_env (nn j hj) e⟩
  have RR : RelF K B F2 O2 σ (setIo env L ios) ts te H' := by
    refine ⟨by rw [setIo_len]; exact R.ln, slots, tm (fun i hi a ha => anyC_te (nn i hi) ha) R.tm, fun a o e => ?_, fun a j z => ?_, R.b1.trans sF, fun b o hs ht e => ?_, fun b h1 h2 => ?_, fun b h => R'.b5 b (R.b5 b h), fun i hi => ?_, R.tb.1, R'.tb.2⟩
    · have e : (if ∃ i ∈ brS L, O a = some i then none else F' a) = some o := e
      split at e
      · cases e
      · exact R'.sf a o e
    · rcases o2inv a j z with ⟨z1, hj⟩ | ⟨k, ag, z1, h1, h2⟩
      · obtain ⟨q1, q2, q3, q4⟩ := R.of a j z1
        obtain ⟨s1, s2, s3⟩ := stay a j z1 hj
        exact ⟨s2, by rw [s1]; exact q2, q3, q4⟩
      · obtain ⟨q1, q2, q3, q4⟩ := R'.of a k z1
        refine ⟨?_, q2, ?_, ?_⟩
        · show (if ∃ i ∈ brS L, O a = some i then none else F' a) = none
          split
          · rfl
          · exact q1
        · have := iol j (ioS_mem h1 h2)
          omega
        · rcases q4 with y | y
          · exact .inl (Classical.byContradiction fun hb => R.b5 a hb y)
          · have y1 : (O a).bind (kOf L) = some k := y.1
            cases zj : O a with
            | none => rw [zj] at y1; cases y1
            | some i =>
              rw [zj] at y1
              obtain ⟨ag', g1, g2⟩ := kOf_some y1
              rw [h1] at g1
              cases g1
              rw [h2] at g2
              cases g2
              exact (R.of a _ zj).2.2.2
    · have h := R.b2 b o hs ht e
      cases z : O b with
      | none =>
        exact R'.b2 b o (by show (O b).bind (kOf L) = none; rw [z]; rfl) ht h
      | some j =>
        by_cases hj : j ∈ ioS L
        · rcases (R.of b j z).2.2.2 with y | y
          · rw [y] at e; cases e
          · rw [y.1] at hs; cases hs
        · rw [(stay b j z hj).1]; exact h
    · by_cases c : ∃ i ∈ brS L, O b = some i
      · exact absurd (if_pos c) h2
      · rw [f2p b c] at h2
        cases q : F b with
        | some u => exact R.b3 b h1 (by rw [q]; exact nofun)
        | none =>
          rcases R'.b3 b ((if_neg c).trans q) h2 with z | z
          · exact .inl (Classical.byContradiction fun hb => R.b5 b hb z)
          · have z : (O b).bind (kOf L) ≠ none := z
            cases zj : O b with
            | none => rw [zj] at z; exact absurd rfl z
            | some j =>
              rcases (R.of b j zj).2.2.2 with y | y
              · exact .inl y
              · exact .inr (by rw [y.1]; exact nofun)
    · obtain ⟨o, ho⟩ := R.bi i hi
      by_cases hj : i ∈ ioS L
      · obtain ⟨k, ag, o', w, h1, h2, h3, _⟩ := ioSlot i hj
        exact ⟨o', (setIo_at (env := env) (ios := ios) nd h1 h2 h3).2 o ho⟩
      · exact ⟨o, by rw [setIo_other hj]; exact ho⟩
  refine ⟨F2, O2, RR, dn, dna, xdk, fun v o h c => ?_⟩
  refine ⟨_, RR.pushOwn (fun a => O' a = some vs.length ∧ H a = none) (fun a p => ?_) (ow _ v o h c)⟩
  have ao : O a = none := by
    cases q : O a with
    | none => rfl
    | some j => exact absurd p.2 (R.of a j q).2.1.1
  obtain ⟨q1, q2, q3, q4⟩ := R'.of a _ p.1
  refine ⟨?_, ?_, q2, Classical.byContradiction fun hb => R.b5 a hb p.2⟩
  · show (match O' a with | some k => (L[k]?).bind (·.io) | none => match O a with | some j => if j ∈ ioS L then none else some j | none => none) = none
    rw [p.1]
    have : L[vs.length]? = none := List.getElem?_eq_none (by rw [g.length]; exact Nat.le_refl _)
    simp only [this]
    rfl
  · show (if ∃ i ∈ brS L, O a = some i then none else F' a) = none
    split
    · rfl
    · exact q1
theorem cvAs_len : ∀ {bs : List Bool} {as : List A} {env : Env} {L : List Ag}, cvAs bs as env = some L → as.length = bs.length
  | [], [], _, _, _ => rfl
  | io :: bs, a :: as, env, L, h => by
    unfold cvAs at h
    cases q : cvA io env a with
    | none => rw [q] at h; cases h
    | some g =>
      cases q2 : cvAs bs as env with
      | none => rw [q, q2] at h; cases h
      | some gs => exact congrArg (· + 1) (cvAs_len q2)
  | [], _ :: _, _, _, h => nomatch h
  | _ :: _, [], _, _, h => nomatch h
/-- the call of a def -/
theorem se_callGF {f : DF} {io : List Bool} {t : TA} {m : MA} {sp : Sp} {E : L2.St → XK} (hsp : ∀ σ vs H Q, vs.length = io.length → spMF K B.F f vs H Q (fun cls d H => W cls d σ H) → sp vs H Q (E σ)) (h : SA K B W t m) : SE K B W (fun σ H Q => t σ H fun vs H1 => sp (vs ++ []) H1 Q (E σ)) (mCall f io m) := by
  intro σ env ts te H Q R p
  refine h.thE R p fun as e p vs H1 hl R1 => ?_
  rw [List.append_nil]
  refine hsp σ vs H1 Q (by
    rw [hl]
    cases q : cvAs io as e with
    | none => simp only [q] at p; exact False.elim p
    | some L => exact cvAs_len q) ?_
  cases q : cvAs io as e with
  | none => simp only [q] at p; exact False.elim p
  | some L =>
    simp only [q] at p
    unfold doCall at p
    split at p
    case isFalse => exact False.elim p
    rename_i ok
    obtain ⟨F, O, R1⟩ := R1
    obtain ⟨O, R1, _, pr⟩ := args_cells (by rw [List.length_reverse, List.length_reverse]; exact hl) (fun a ha => cvAs_sim q a (List.mem_reverse.mp ha)) R1
    have pr := paired_rev pr
    rw [List.reverse_reverse, List.reverse_reverse] at pr
    have g := cvAs_ga R1 pr q
    unfold agOk at ok
    rw [Bool.and_eq_true] at ok
    have nd : (ioS L).Nodup := of_decide_eq_true ok.1
    have al := fun i (hi : i ∈ ioS L) => List.all_eq_true.mp ok.2 i hi
    have dj : ∀ i ∈ ioS L, i ∉ brS L := fun i hi => by
      have := al i hi
      simp only [Bool.and_eq_true, Bool.not_eq_true'] at this
      intro z
      rw [List.contains_eq_mem, decide_eq_false_iff_not] at this
      exact this.1 z
    have nn : ∀ i ∈ ioS L, anyC (isNest i) e te = false := fun i hi => by
      have := al i hi
      simp only [Bool.and_eq_true, Bool.not_eq_true'] at this
      exact this.2
    obtain ⟨kd, R2⟩ := call_start R1 g nd dj
    refine ⟨_, _, _, _, _, fun b o e => ?fl, by rw [List.length_map]; exact g.length, kd, R2, ?_⟩
    case fl =>
      have e := R1.b1 b o e
      show (if ∃ i ∈ brS L, O b = some i then H1 b else F b) = some o
      rw [if_neg]
      · exact e
      · rintro ⟨i, _, z⟩
        rw [(R1.of b i z).1] at e
        cases e
    cases q2 : f (L.map (·.a)) with
    | bad => simp only [q2] at p; exact False.elim p
    | ok r ios =>
      simp only [q2] at p
      split at p
      case isFalse => exact False.elim p
      rename_i tp
      intro F' O' v H' R' c
      obtain ⟨F2, O2, R3, dn, dna, xdk, ow⟩ := call_back R1 g nd dj nn R' (tp.imp id And.right)
      cases r with
      | d x => exact p v H' (R3.pushD (dn v x c (tp.imp id And.left)))
      | own o =>
        obtain ⟨O3, R4⟩ := ow v o c (tp.imp id And.left)
        exact p v H' ⟨F2, O3, R4⟩
      | _ => exact c.elim
    | ex x ios =>
      simp only [q2] at p
      split at p
      case isFalse => exact False.elim p
      rename_i tp
      intro cls d H' us F' O' R' du xi
      obtain ⟨F2, O2, R3, dn, dna, xdk, ow⟩ := call_back R1 g nd dj nn R' (tp.imp id And.right)
      have tf : (brS L).isEmpty = true ∨ tupAll (x.fs.map (·.2)) = true := by
        refine tp.imp id fun z => ?_
        have z := z.1
        generalize x.fs = l at z
        induction l with
        | nil => rfl
        | cons b l ih =>
          rw [List.all_cons, Bool.and_eq_true] at z
          show (tupD b.2 && tupAll (l.map (·.2))) = true
          rw [z.1, ih z.2]
          rfl
      exact p cls d H' us F2 O2 R3 (dna us _ du tf) ⟨xi.1, xi.2.imp id fun ⟨dx, e1, e2⟩ => ⟨dx, e1, xdk _ _ e2⟩⟩
theorem se_callG {f : DF} {io : List Bool} {t : TA} {m : MA} {sp : Sp} {E : L2.St → XK} (hsp : ∀ σ vs H Q, vs.length = io.length → spM K f vs H Q (fun cls d H => W cls d σ H) → sp vs H Q (E σ)) (h : SA K B W t m) : SE K B W (fun σ H Q => t σ H fun vs H1 => sp (vs ++ []) H1 Q (E σ)) (mCall f io m) :=
  se_callGF (fun σ vs H Q hv p => hsp σ vs H Q hv (spMZ.sp p)) h
end
end Tw

namespace Tw
open PySem PySem.Spec PyProof.Rows L2
/-! ### operators -/
section
variable {K : KW} {H : Hp}
mutual
theorem dn_dp : ∀ {v : V} {x : Dt}, Dn K H v x → x.plain = true → Dp K H v x
  | _, _, .non, _ => .non
  | _, _, .bl b, _ => .bl b
  | _, _, .int i, _ => .int i
  | _, _, .str x _, _ => .str x
  | _, _, .lst h hs, p => .lst (.inl (.inl h)) (dn_dpA hs (by simpa [PyData.plain] using p))
  | _, _, .tup h hs, p => .tup h.sq (dn_dpA hs (by simpa [PyData.plain] using p))
  | _, _, .dct _ _, p => by simp [PyData.plain] at p
theorem dn_dpA : ∀ {vs : List V} {xs : List Dt}, DnAll K H vs xs → PyData.plainAll xs = true → DpAll K H vs xs
  | _, _, .nil, _ => .nil
  | _, _, .cons h hs, p => by
    simp only [PyData.plainAll, Bool.and_eq_true] at p
    exact .cons (dn_dp h p.1) (dn_dpA hs p.2)
end
end
def d2 (env : Env) (a b : A) : Option (Dt × Dt) := match a.val env, b.val env with
  | some x, some y => some (x, y)
  | _, _ => none
open Classical in
noncomputable def addA : Env → A → A → Rs A := fun env a b => match d2 env a b with
  | some (.int i, .int j) => .ok (.d (.int (i + j))) env
  | some (.str x, .str y) => if x.length + y.length ≤ sizeLine then .ok (.d (.str (x ++ y))) env else .bad
  | some (.tuple xs, .tuple ys) => if xs.length + ys.length ≤ sizeLine then .ok (.d (.tuple (xs ++ ys))) env else .bad
  | some (.list _, .list _) => (match a.lstT? env, b.lstT? env with
    | some xs, some ys => if xs.length + ys.length ≤ sizeLine then .ok (.own (.l (xs ++ ys))) env else .bad
    | _, _ => .bad)
  | _ => .bad
open Classical in
noncomputable def mulA : Env → A → A → Rs A := fun env a b => match d2 env a b with
  | some (.int i, .int j) => if CMul i j then .ok (.d (.int (i * j))) env else .bad
  | some (.str x, .int n) => if MulOk x n ∧ (Txt.mul x n).length ≤ sizeLine then .ok (.d (.str (Txt.mul x n))) env else .bad
  | some (.list _, .int n) => (match a.lstT? env with
    | some xs => if -(2 ^ 63) ≤ n ∧ n < 2 ^ 63 ∧ xs.length * n.toNat ≤ sizeLine then .ok (.own (.l (List.replicate n.toNat xs).flatten)) env else .bad
    | none => .bad)
  | _ => .bad
def subD : Dt → Dt → Option Dt
  | .int i, .int j => some (.int (i - j))
  | _, _ => none
def divD : Dt → Dt → Option Dt
  | .int i, .int j => if 0 < j ∧ j < 1073741824 then some (.int (i / j)) else none
  | _, _ => none
def modD : Dt → Dt → Option Dt
  | .int i, .int j => if 0 < j then some (.int (i % j)) else none
  | _, _ => none
def powD : Dt → Dt → Option Dt
  | .int i, .int j => if 0 ≤ j ∧ j ≤ 1000000 ∧ i.natAbs < 2 ^ 64 then some (.int (i ^ j.toNat)) else none
  | _, _ => none
def negD : Dt → Option Dt
  | .int i => some (.int (-i))
  | _ => none
def ltD : Dt → Dt → Option Dt
  | .int i, .int j => some (.bool (decide (i < j)))
  | .str x, .str y => some (.bool (decide (x.cps.toList < y.cps.toList)))
  | _, _ => none
def leD : Dt → Dt → Option Dt
  | .int i, .int j => some (.bool (decide (i ≤ j)))
  | _, _ => none
def gtD : Dt → Dt → Option Dt
  | .int i, .int j => some (.bool (decide (j < i)))
  | _, _ => none
def geD : Dt → Dt → Option Dt
  | .int i, .int j => some (.bool (decide (j ≤ i)))
  | _, _ => none
def emptyEq : Dt → Dt → Bool
  | .list _, .list [] => true
  | .tuple _, .tuple [] => true
  | _, _ => false
def okEq (x y : Dt) : Bool := (x.plain && y.plain && decide (min x.depth y.depth ≤ 190)) || emptyEq x y
def eqD (x y : Dt) : Option Dt := if okEq x y = true then some (.bool (PyData.eqv x y)) else none
def neD (x y : Dt) : Option Dt := if okEq x y = true then some (.bool (!PyData.eqv x y)) else none
def isNoneD : Dt → Bool
  | .none => true
  | _ => false
def isD (x y : Dt) : Option Dt := match y with
  | .none => some (.bool (isNoneD x))
  | _ => none
def notD (x y : Dt) : Option Dt := match y with
  | .none => some (.bool (!isNoneD x))
  | _ => none
/-- the items of a list or tuple -/
def seqD : Dt → Option (List Dt)
  | .list xs => some xs
  | .tuple xs => some xs
  | _ => none
def strsD : List Dt → Option (List Str)
  | [] => some []
  | .str s :: r => (strsD r).map (s :: ·)
  | _ => none
def inD (neg : Bool) (x y : Dt) : Option Dt := match y with
  | .str z => match x with
    | .str c => if c.cps.size = 1 then some (.bool (if neg then !decide (c.cps.toList.headD 0 ∈ z.cps.toList) else decide (c.cps.toList.headD 0 ∈ z.cps.toList))) else none
    | _ => none
  | y => match seqD y with
    | some ds => if x.plain = true ∧ PyData.plainAll ds = true ∧ min (PyData.depthAll ds) x.depth ≤ 190 then some (.bool (if neg then !(ds.any fun z => PyData.eqv z x) else ds.any fun z => PyData.eqv z x)) else
      (match strsD ds with
      | some ss => some (.bool (if neg then !(ss.any fun s => PyData.eqv (.str s) x) else ss.any fun s => PyData.eqv (.str s) x))
      | none => none)
    | none => none
section
variable {K : KW} {B : Bs} {W : WX}
theorem val_tup {env : Env} {a : A} {xs : List Dt} (h : a.val env = some (.tuple xs)) : a = .d (.tuple xs) := by
  have g2 : (a.ow env).bind Ow.dt = some (.tuple xs) → a = .d (.tuple xs) := fun h => by
    cases e : a.ow env with
    | none => rw [e] at h; cases h
    | some o => rw [e] at h; cases o <;> cases h
  cases a with
  | d x => cases h; rfl
  | own o => exact g2 h
  | io o => exact g2 h
  | rf i p => exact g2 h
  | sc n => exact g2 h
  | q n => exact g2 h
  | lk n => cases h
  | xr n => exact g2 h
theorem d2_some {env : Env} {a b : A} {x y : Dt} (h : d2 env a b = some (x, y)) : a.val env = some x ∧ b.val env = some y := by
  unfold d2 at h
  cases e1 : a.val env with
  | none => rw [e1] at h; cases h
  | some x' =>
    cases e2 : b.val env with
    | none => rw [e1, e2] at h; cases h
    | some y' => rw [e1, e2] at h; cases h; exact ⟨rfl, rfl⟩
theorem so_add : SO2 K B W (rAddU K) addA := by
  intro σ env ts te H Q v u a b R p
  obtain ⟨F, O, R⟩ := R
  unfold addA at p
  split at p
  · rename_i i j e
    obtain ⟨e1, e2⟩ := d2_some e
    have c1 := cell_val R R.tm.2.1 e1
    have c2 := cell_val R R.tm.1 e2
    cases c1
    cases c2
    exact .inl ⟨i, j, rfl, rfl, p _ H (R.pop.pop.pushD (.int _))⟩
  · rename_i x y e
    obtain ⟨e1, e2⟩ := d2_some e
    split at p
    · rename_i hl
      have c1 := cell_val R R.tm.2.1 e1
      have c2 := cell_val R R.tm.1 e2
      cases c1
      cases c2
      refine .inr (.inl ⟨x, y, rfl, rfl, hl, p _ H (R.pop.pop.pushD (.str _ ?_))⟩)
      rw [Str.length_append]; exact hl
    · exact False.elim p
  · rename_i xs ys e
    obtain ⟨e1, e2⟩ := d2_some e
    split at p
    · rename_i hl
      have a1 := val_tup e1
      have a2 := val_tup e2
      subst a1
      subst a2
      obtain ⟨q1, vs, rfl, t1, d1⟩ := dn_tup (show Dn K F v (.tuple xs) from R.tm.2.1)
      obtain ⟨q2, us, rfl, t2, d2⟩ := dn_tup (show Dn K F u (.tuple ys) from R.tm.1)
      refine .inr (.inr (.inl ⟨q1, q2, vs, us, rfl, rfl, Same.sqT' R.sf t1.sq, Same.sqT' R.sf t2.sq, by rw [d1.length, d2.length]; exact hl, fun z => ?_, fun _ z => ?_, fun _ _ r ob nr hob => ?_⟩))
      · subst z
        cases d1
        exact p _ H (R.pop.pop.pushD (.tup t2 d2))
      · subst z
        cases d2
        rw [List.append_nil] at p
        exact p _ H (R.pop.pop.pushD (.tup t1 d1))
      · exact p _ _ (R.pop.pop.pushT nr hob (d1.app d2))
    · exact False.elim p
  · rename_i e
    cases e1 : a.lstT? env with
    | none => simp only [e1] at p; exact False.elim p
    | some xs =>
      cases e2 : b.lstT? env with
      | none => simp only [e1, e2] at p; exact False.elim p
      | some ys =>
        simp only [e1, e2] at p
        split at p
        · rename_i hl
          obtain ⟨q1, vs, rfl, h1, d1⟩ := cell_lstT R R.tm.2.1 e1
          obtain ⟨q2, us, rfl, h2, d2⟩ := cell_lstT R R.tm.1 e2
          exact .inr (.inr (.inr ⟨q1, q2, vs, us, rfl, rfl, h1, h2, by rw [d1.length, d2.length]; exact hl, fun r nr => p _ _ (R.pop.pop.pushL nr (d1.app d2))⟩))
        · exact False.elim p
  · exact False.elim p
theorem dn_rep {F : Hp} {vs : List V} {xs : List Dt} (d : DnAll K F vs xs) : ∀ n : Nat, DnAll K F (List.replicate n vs).flatten (List.replicate n xs).flatten
  | 0 => .nil
  | n + 1 => by
    rw [List.replicate_succ, List.replicate_succ, List.flatten_cons, List.flatten_cons]
    exact d.app (dn_rep d n)
theorem so_mul : SO2 K B W rMulU mulA := by
  intro σ env ts te H Q v u a b R p
  obtain ⟨F, O, R⟩ := R
  unfold mulA at p
  split at p
  · rename_i i j e
    obtain ⟨e1, e2⟩ := d2_some e
    have c1 := cell_val R R.tm.2.1 e1
    have c2 := cell_val R R.tm.1 e2
    cases c1
    cases c2
    split at p
    · rename_i hl
      exact .inl ⟨i, j, rfl, rfl, hl, p _ H (R.pop.pop.pushD (.int _))⟩
    · exact False.elim p
  · rename_i x n e
    obtain ⟨e1, e2⟩ := d2_some e
    have c1 := cell_val R R.tm.2.1 e1
    have c2 := cell_val R R.tm.1 e2
    cases c1
    cases c2
    split at p
    · rename_i hl
      exact .inr (.inl ⟨x, n, rfl, rfl, hl.1, p _ H (R.pop.pop.pushD (.str _ hl.2))⟩)
    · exact False.elim p
  · rename_i xs0 n e
    obtain ⟨e1, e2⟩ := d2_some e
    have c2 := cell_val R R.tm.1 e2
    cases c2
    cases e3 : a.lstT? env with
    | none => simp only [e3] at p; exact False.elim p
    | some xs =>
      simp only [e3] at p
      split at p
      · rename_i hl
        obtain ⟨q1, vs, rfl, h1, d1⟩ := cell_lstT R R.tm.2.1 e3
        exact .inr (.inr ⟨q1, n, vs, rfl, rfl, h1, hl.1, hl.2.1, by rw [d1.length]; exact hl.2.2, fun r nr => p _ _ (R.pop.pop.pushL nr (dn_rep d1 _))⟩)
      · exact False.elim p
  · exact False.elim p
theorem os_sub : OpS K rSubI subD := by
  intro H x y dx dy z Q h1 h2 h
  cases h1 <;> cases h2 <;> cases h
  exact ⟨rfl, fun q => ⟨_, _, rfl, rfl, q⟩⟩
theorem os_div : OpS K rDivI divD := by
  intro H x y dx dy z Q h1 h2 h
  unfold divD at h
  split at h
  · split at h
    · rename_i c
      cases h1
      cases h2
      cases h
      exact ⟨rfl, fun q => ⟨_, _, rfl, rfl, c, q⟩⟩
    · cases h
  · cases h
theorem os_mod : OpS K rModI modD := by
  intro H x y dx dy z Q h1 h2 h
  unfold modD at h
  split at h
  · split at h
    · rename_i c
      cases h1
      cases h2
      cases h
      exact ⟨rfl, fun q => ⟨_, _, rfl, rfl, c, q⟩⟩
    · cases h
  · cases h
theorem os_pow : OpS K rPowI powD := by
  intro H x y dx dy z Q h1 h2 h
  unfold powD at h
  split at h
  · split at h
    · rename_i c
      cases h1
      cases h2
      cases h
      exact ⟨rfl, fun q => ⟨_, _, rfl, rfl, c, q⟩⟩
    · cases h
  · cases h
theorem os_lt : OpS K rLtU ltD := by
  intro H x y dx dy z Q h1 h2 h
  cases h1 <;> cases h2 <;> cases h
  · exact ⟨rfl, fun q => .inl ⟨_, _, rfl, rfl, q⟩⟩
  · exact ⟨rfl, fun q => .inr ⟨_, _, rfl, rfl, q⟩⟩
theorem os_le : OpS K rLeI leD := by
  intro H x y dx dy z Q h1 h2 h
  cases h1 <;> cases h2 <;> cases h
  exact ⟨rfl, fun q => ⟨_, _, rfl, rfl, q⟩⟩
theorem os_gt : OpS K rGtI gtD := by
  intro H x y dx dy z Q h1 h2 h
  cases h1 <;> cases h2 <;> cases h
  exact ⟨rfl, fun q => ⟨_, _, rfl, rfl, q⟩⟩
theorem os_ge : OpS K rGeI geD := by
  intro H x y dx dy z Q h1 h2 h
  cases h1 <;> cases h2 <;> cases h
  exact ⟨rfl, fun q => ⟨_, _, rfl, rfl, q⟩⟩
theorem eqvAll_nil : ∀ xs : List Dt, PyData.eqvAll xs [] = xs.isEmpty
  | [] => by rw [PyData.eqvAll]; rfl
  | x :: xs => by rw [PyData.eqvAll]; rfl
theorem eq_empty {H : Hp} {x y : V} {dx dy : Dt} (h1 : Dn K H x dx) (h2 : Dn K H y dy) (h : emptyEq dx dy = true) :
    ∃ a b xs, x = .ref a ∧ y = .ref b ∧ ((SqL K H a xs ∧ SqL K H b []) ∨ (SqT K H a xs ∧ SqT K H b [])) ∧ PyData.eqv dx dy = xs.isEmpty := by
  cases h1 with
  | lst g1 d1 =>
    cases h2 with
    | lst g2 d2 =>
      cases d2 with
      | cons _ _ => cases h
      | nil =>
        refine ⟨_, _, _, rfl, rfl, .inl ⟨.inl (.inl g1), .inl (.inl g2)⟩, ?_⟩
        rw [PyData.eqv, eqvAll_nil]
        cases d1 <;> rfl
    | _ => cases h
  | tup g1 d1 =>
    cases h2 with
    | tup g2 d2 =>
      cases d2 with
      | cons _ _ => cases h
      | nil =>
        refine ⟨_, _, _, rfl, rfl, .inr ⟨g1.sq, g2.sq⟩, ?_⟩
        rw [PyData.eqv, eqvAll_nil]
        cases d1 <;> rfl
    | _ => cases h
  | _ => cases h
theorem os_eq : OpS K (rEqU K) eqD := by
  intro H x y dx dy z Q h1 h2 h
  unfold eqD at h
  split at h
  · rename_i c
    cases h
    refine ⟨rfl, fun q => ?_⟩
    unfold okEq at c
    rw [Bool.or_eq_true, Bool.and_eq_true, Bool.and_eq_true, decide_eq_true_eq] at c
    rcases c with ⟨⟨p1, p2⟩, d⟩ | c
    · exact .inl ⟨dx, dy, dn_dp h1 p1, dn_dp h2 p2, p1, p2, d, q⟩
    · obtain ⟨a, b, xs, e1, e2, e3, e4⟩ := eq_empty h1 h2 c
      exact .inr ⟨a, b, xs, e1, e2, e3, by rw [← e4]; exact q⟩
  · cases h
theorem os_ne : OpS K (rNeU K) neD := by
  intro H x y dx dy z Q h1 h2 h
  unfold neD at h
  split at h
  · rename_i c
    cases h
    refine ⟨rfl, fun q => ?_⟩
    unfold okEq at c
    rw [Bool.or_eq_true, Bool.and_eq_true, Bool.and_eq_true, decide_eq_true_eq] at c
    rcases c with ⟨⟨p1, p2⟩, d⟩ | c
    · exact .inl ⟨dx, dy, dn_dp h1 p1, dn_dp h2 p2, p1, p2, d, q⟩
    · obtain ⟨a, b, xs, e1, e2, e3, e4⟩ := eq_empty h1 h2 c
      exact .inr ⟨a, b, xs, e1, e2, e3, by rw [← e4]; exact q⟩
  · cases h
theorem non_dec {H : Hp} {x : V} {dx : Dt} (h : Dn K H x dx) : decide (x = .non) = isNoneD dx := by
  cases h <;> rfl
theorem os_is : OpS K rIsN isD := by
  intro H x y dx dy z Q h1 h2 h
  cases h2 <;> cases h
  exact ⟨rfl, fun q => ⟨rfl, by rw [non_dec h1]; exact q⟩⟩
theorem os_isnot : OpS K rNotN notD := by
  intro H x y dx dy z Q h1 h2 h
  cases h2 <;> cases h
  exact ⟨rfl, fun q => ⟨rfl, by rw [non_dec h1]; exact q⟩⟩
theorem strsD_dn {H : Hp} : ∀ {vs : List V} {ds : List Dt} {ss : List Str}, DnAll K H vs ds → strsD ds = some ss → vs = ss.map V.str
  | _, [], _, .nil, h => by cases h; rfl
  | _, d :: ds, ss, .cons h1 hs, h => by
    cases h1 with
    | str s hl =>
      unfold strsD at h
      cases q : strsD ds with
      | none => rw [q] at h; cases h
      | some r =>
        rw [q] at h
        cases h
        rw [strsD_dn hs q]
        rfl
    | _ => cases h
theorem inA_eqv {H : Hp} {x : V} {dx : Dt} (h : Dn K H x dx) : ∀ ss : List Str, inA x ss = ss.any fun s => PyData.eqv (.str s) dx
  | [] => by cases h <;> rfl
  | s :: ss => by
    have ih := inA_eqv h ss
    cases h with
    | str y hl =>
      show (s :: ss).contains y = ((PyData.eqv (.str s) (.str y)) || ss.any fun s => PyData.eqv (.str s) (.str y))
      rw [← ih]
      show (s :: ss).contains y = ((PyData.eqv (.str s) (.str y)) || ss.contains y)
      rw [List.contains_cons, PyData.eqv]
      congr 1
      rw [Bool.eq_iff_iff, beq_iff_eq, beq_iff_eq]
      exact eq_comm
    | _ => simpa [inA, PyData.eqv] using ih
theorem dn_av {H : Hp} {x : V} {dx : Dt} (h : Dn K H x dx) : AV K H x := by
  cases h with
  | non => exact .non
  | bl b => exact .bl b
  | int i => exact .int i
  | str x h => exact .str x h
  | lst h hs => exact .lst (.inl (.inl h))
  | tup h hs => exact .tup h.sq
  | dct h hs => exact .dct h
theorem os_in (neg : Bool) : OpS K (rInU K neg) (inD neg) := by
  intro H x y dx dy z Q h1 h2 h
  have seq : ∀ ds, (∃ (p : Addr) (vs : List V), y = .ref p ∧ (SqL K H p vs ∨ SqT K H p vs) ∧ DnAll K H vs ds) → (PyData.plainAll ds = true → (Dp K H y (.list ds) ∨ Dp K H y (.tuple ds))) →
      (if dx.plain = true ∧ PyData.plainAll ds = true ∧ min (PyData.depthAll ds) dx.depth ≤ 190 then some (PyData.bool (if neg then !(ds.any fun z => PyData.eqv z dx) else ds.any fun z => PyData.eqv z dx)) else
      (match strsD ds with
      | some ss => some (.bool (if neg then !(ss.any fun s => PyData.eqv (.str s) dx) else ss.any fun s => PyData.eqv (.str s) dx))
      | none => none)) = some z → flatD z = true ∧ (Q (vOf z) H → rInU K neg x y H Q) := by
    intro ds ⟨p, vs, e, sq, da⟩ hd h
    split at h
    · rename_i c
      cases h
      exact ⟨rfl, fun q => .inl ⟨dx, ds, dn_dp h1 c.1, hd c.2.1, c.1, c.2.1, c.2.2, q⟩⟩
    · cases q : strsD ds with
      | none => rw [q] at h; cases h
      | some ss =>
        rw [q] at h
        cases h
        refine ⟨rfl, fun g => .inr (.inl ⟨p, ss, e, ?_, dn_av h1, ?_⟩)⟩
        · rw [← strsD_dn da q]; exact sq
        · rw [inA_eqv h1]; exact g
  cases h2 with
  | str s hl =>
    cases h1 with
    | str c hc =>
      unfold inD at h
      simp only at h
      split at h
      · rename_i c1
        cases h
        refine ⟨rfl, fun g => .inr (.inr ?_)⟩
        have ec : c = ⟨#[c.cps.toList.headD 0]⟩ := by
          obtain ⟨arr⟩ := c
          obtain ⟨l⟩ := arr
          match l, c1 with
          | [x], _ => rfl
        cases neg with
        | false => exact ⟨_, s, by rw [← ec], rfl, g⟩
        | true => exact ⟨_, s, by rw [← ec], rfl, g⟩
      · cases h
    | _ => cases h
  | lst g d => exact seq _ ⟨_, _, rfl, .inl (.inl (.inl g)), d⟩ (fun p => .inl (.lst (.inl (.inl g)) (dn_dpA d p))) h
  | tup g d => exact seq _ ⟨_, _, rfl, .inr g.sq, d⟩ (fun p => .inr (.tup g.sq (dn_dpA d p))) h
  | _ => cases h
end
end Tw

namespace Tw
open PySem PySem.Spec PyProof.Rows L2
/-! ### displays -/
def dAll : List A → Option (List Dt)
  | [] => some []
  | .d x :: as => (dAll as).map (x :: ·)
  | _ => none
def mTup (m : MA) : ME := fun env te => (m env te).bind fun as e => match dAll as with
  | some xs => if xs.length ≤ sizeLine then .ok (.d (.tuple xs)) e else .bad
  | none => .bad
def mLst (m : MA) : ME := fun env te => (m env te).bind fun as e => match dAll as with
  | some xs => if xs.length ≤ sizeLine then .ok (.own (.l xs)) e else .bad
  | none => .bad
/-! ### subscripts -/
def ixA : Env → A → A → Rs A := fun env a b => match b.val env with
  | some (.int i) => (match a.tup? with
    | some xs => (match atI xs i with
      | some x => .ok (.d x) env
      | none => .bad)
    | none => match a.lst? env with
      | some xs => (match atI xs i with
        | some x => .ok (.d x) env
        | none => .bad)
      | none => match a.val env with
        | some (.str z) => (match atI z.cps.toList i with
          | some c => .ok (.d (.str ⟨#[c]⟩)) env
          | none => .bad)
        | _ => match a with
          | .rf j none => (match owAt env j with
            | some (.ll xss) => (match ixN xss.length i with
              | some n => .ok (.rf j (some (.inl n))) env
              | none => .bad)
            | _ => .bad)
          | _ => .bad)
  | _ => .bad
abbrev MO := Env → List A → Rs (Option Int)
def mNoPart : MO := fun env _ => .ok none env
def mPart (m : ME) : MO := fun env te => (m env te).bind fun a e => match a.val e with
  | some (.int i) => .ok (some i) e
  | _ => .bad
def cutD {α : Type} (xs : List α) (lo hi : Option Int) : List α := (xs.drop (HT.sIx xs.length 0 lo)).take (HT.sIx xs.length xs.length hi - HT.sIx xs.length 0 lo)
def slA (env : Env) (a : A) (lo hi : Option Int) : Rs A := match a with
  | .d (.tuple xs) => .ok (.d (.tuple (cutD xs lo hi))) env
  | .d (.str z) => if (cutS z lo hi).length ≤ sizeLine then .ok (.d (.str (cutS z lo hi))) env else .bad
  | a => match a.lst? env with
    | some xs => .ok (.own (.l (cutD xs lo hi))) env
    | none => .bad
def mSl (m : ME) (lo hi : MO) : ME := fun env te => (m env te).bind fun a e1 => (lo e1 (a :: te)).bind fun l e2 => (hi e2 (a :: te)).bind fun u e3 => slA e3 a l u
def revA (env : Env) (a : A) : Rs A := match a with
  | .d (.tuple xs) => .ok (.d (.tuple xs.reverse)) env
  | _ => .bad
def revLA (env : Env) (a : A) : Rs A := match a.lst? env with
  | some xs => .ok (.own (.l xs.reverse)) env
  | none => .bad
/-! ### built-ins -/
def one (f : Env → A → Rs A) : Env → List A → Rs A := fun env as => match as with
  | [a] => f env a
  | _ => .bad
def lenD : Dt → Option Nat
  | .str z => some z.length
  | .list xs => some xs.length
  | .tuple xs => some xs.length
  | .dict kvs => some kvs.length
  | _ => none
def lenA : Env → A → Rs A := fun env a => match a.lst? env with
  | some xs => .ok (.d (.int xs.length)) env
  | none => match a.val env with
    | some x => (match lenD x with
      | some n => .ok (.d (.int n)) env
      | none => .bad)
    | none => .bad
def tupA : Env → A → Rs A := fun env a => match a with
  | .d (.tuple xs) => .ok (.d (.tuple xs)) env
  | a => match a.lst? env with
    | some xs => .ok (.d (.tuple xs)) env
    | none => .bad
def lstA : Env → A → Rs A := fun env a => match a.tup? with
  | some xs => .ok (.own (.l xs)) env
  | none => match a.lst? env with
    | some xs => .ok (.own (.l xs)) env
    | none => .bad
def boolsD : List Dt → Option (List Bool)
  | [] => some []
  | .bool b :: r => (boolsD r).map (b :: ·)
  | _ => none
def allA : Env → A → Rs A := fun env a => match (a.lst? env).bind boolsD with
  | some bs => .ok (.d (.bool (bs.all id))) env
  | none => .bad
def anyA : Env → A → Rs A := fun env a => match (a.lst? env).bind boolsD with
  | some bs => .ok (.d (.bool (bs.any id))) env
  | none => .bad
def tyD : Dt → String
  | .none => "NoneType"
  | .bool _ => "bool"
  | .int _ => "int"
  | .str _ => "str"
  | .list _ => "list"
  | .tuple _ => "tuple"
  | .dict _ => "dict"
def mIsi (T : String) (m : ME) : ME := fun env te => (m env te).bind fun a e => match a.val e with
  | some x => (match kitB (tyD x) T with
    | some b => .ok (.d (.bool b)) e
    | none => .bad)
  | none => .bad
def absD : Dt → Option Dt
  | .int i => some (.int (if i < 0 then -i else i))
  | _ => none
def intD : Dt → Option Dt
  | .int i => some (.int i)
  | .bool b => some (.int (if b then 1 else 0))
  | _ => none
def min2A : Env → List A → Rs A := fun env as => match as with
  | [.d (.int i), .d (.int j)] => .ok (.d (.int (if j < i then j else i))) env
  | _ => .bad
def max2A : Env → List A → Rs A := fun env as => match as with
  | [.d (.int i), .d (.int j)] => .ok (.d (.int (if j > i then j else i))) env
  | _ => .bad
def joinS (s : Str) (env : Env) (b : A) : Rs A := match ((match b.tup? with | some xs => some xs | none => b.lst? env)).bind strsD with
  | some ys => if (ys.map (·.length)).sum + ys.length * s.length ≤ 16777216 ∧ (Txt.join s ys).length ≤ sizeLine then .ok (.d (.str (Txt.join s ys))) env else .bad
  | none => .bad
def mJoin (ma mb : ME) : ME := fun env te => (ma env te).bind fun a e => match a with
  | .d (.str s) => (mb e (.d (.str s) :: te)).bind fun b e2 => joinS s e2 b
  | _ => .bad
def reprD (x : Dt) : Option Dt := if x.plain = true ∧ x.showable = true ∧ x.depth ≤ 150 ∧ costD x ≤ 1000000 ∧ x.shown.length ≤ sizeLine then some (.str x.shown) else none
section
variable {K : KW} {B : Bs} {W : WX}
theorem dAll_sim : ∀ {as : List A} {xs : List Dt}, dAll as = some xs → ∀ a ∈ as, simA a = true
  | [], _, _, _, h => nomatch h
  | .d x :: as, xs, h, a, hm => by
    unfold dAll at h
    cases q : dAll as with
    | none => rw [q] at h; cases h
    | some ys =>
      rcases List.mem_cons.mp hm with rfl | hm
      · rfl
      · exact dAll_sim q a hm
  | .own _ :: _, _, h, _, _ => nomatch h
  | .io _ :: _, _, h, _, _ => nomatch h
  | .rf _ _ :: _, _, h, _, _ => nomatch h
  | .sc _ :: _, _, h, _, _ => nomatch h
  | .q _ :: _, _, h, _, _ => nomatch h
  | .lk _ :: _, _, h, _, _ => nomatch h
  | .xr _ :: _, _, h, _, _ => nomatch h
theorem dAll_dn {F H : Hp} {O : Addr → Option Nat} {σ : List (Option V)} : ∀ {vs : List V} {as : List A} {xs : List Dt}, Paired (fun v a => CellO K B F H O σ 0 v a) vs as → dAll as = some xs → DnAll K F vs xs
  | [], [], _, .nil, h => by cases h; exact .nil
  | v :: vs, .d x :: as, xs, .cons c r, h => by
    unfold dAll at h
    cases q : dAll as with
    | none => rw [q] at h; cases h
    | some ys =>
      rw [q] at h
      cases h
      exact .cons c (dAll_dn r q)
  | _ :: _, .own _ :: _, _, .cons _ _, h => nomatch h
  | _ :: _, .io _ :: _, _, .cons _ _, h => nomatch h
  | _ :: _, .rf _ _ :: _, _, .cons _ _, h => nomatch h
  | _ :: _, .sc _ :: _, _, .cons _ _, h => nomatch h
  | _ :: _, .q _ :: _, _, .cons _ _, h => nomatch h
  | _ :: _, .lk _ :: _, _, .cons _ _, h => nomatch h
  | _ :: _, .xr _ :: _, _, .cons _ _, h => nomatch h
theorem args_dn {σ : L2.St} {env : Env} {ts : List V} {te : List A} {H : Hp} {vs : List V} {as : List A} {xs : List Dt} (hl : vs.length = as.length) (R : Rel K B σ env (vs.reverse ++ ts) (as.reverse ++ te) H) (h : dAll as = some xs) :
    ∃ F O, RelF K B F O σ env ts te H ∧ DnAll K F vs xs := by
  obtain ⟨F, O, R⟩ := R
  obtain ⟨O, R, _, pr⟩ := args_cells (by rw [List.length_reverse, List.length_reverse]; exact hl) (fun a ha => dAll_sim h a (List.mem_reverse.mp ha)) R
  have pr := paired_rev pr
  rw [List.reverse_reverse, List.reverse_reverse] at pr
  exact ⟨F, O, R, dAll_dn pr h⟩
theorem se_tup {t : TA} {m : MA} (h : SA K B W t m) : SE K B W (tTupF t) (mTup m) := by
  intro σ env ts te H Q R p
  refine h.thE R p fun as e p vs H1 hl R1 => ?_
  cases q : dAll as with
  | none => simp only [q] at p; exact False.elim p
  | some xs =>
    simp only [q] at p
    split at p
    · rename_i hz
      obtain ⟨F, O, R2, d⟩ := args_dn hl R1 q
      exact ⟨by rw [d.length]; exact hz, fun l ob nl hob => p _ _ (R2.pushT nl hob d)⟩
    · exact False.elim p
theorem se_lst {t : TA} {m : MA} (h : SA K B W t m) : SE K B W (tLst t) (mLst m) := by
  intro σ env ts te H Q R p
  refine h.thE R p fun as e p vs H1 hl R1 => ?_
  cases q : dAll as with
  | none => simp only [q] at p; exact False.elim p
  | some xs =>
    simp only [q] at p
    split at p
    · rename_i hz
      obtain ⟨F, O, R2, d⟩ := args_dn hl R1 q
      exact ⟨by rw [d.length]; exact hz, fun l nl => p _ _ (R2.pushL nl d)⟩
    · exact False.elim p
theorem dn_atI {F : Hp} {vs : List V} {xs : List Dt} {i : Int} {x : Dt} (d : DnAll K F vs xs) (h : atI xs i = some x) : ∃ v, atI vs i = some v ∧ Dn K F v x := by
  unfold atI at h ⊢
  rw [d.length]
  cases q : ixN xs.length i with
  | none => rw [q] at h; cases h
  | some j =>
    rw [q] at h
    obtain ⟨v, hv, dv⟩ := d.get h
    exact ⟨v, hv, dv⟩
theorem so_ix : SO2 K B W (rIx K) ixA := by
  intro σ env ts te H Q v u a b R p
  obtain ⟨F, O, R⟩ := R
  unfold ixA at p
  split at p
  · rename_i i e
    have c2 := cell_val R R.tm.1 e
    cases c2
    cases e1 : a.tup? with
    | some xs =>
      simp only [e1] at p
      cases e2 : atI xs i with
      | none => simp only [e2] at p; exact False.elim p
      | some x =>
        simp only [e2] at p
        obtain ⟨q1, vs, rfl, t1, _, d1⟩ := cell_tup R R.tm.2.1 e1
        obtain ⟨w, hw, dw⟩ := dn_atI d1 e2
        exact .inr (.inl ⟨q1, vs, i, w, rfl, rfl, t1, hw, p _ H (R.pop.pop.pushD dw)⟩)
    | none =>
      simp only [e1] at p
      cases e3 : a.lst? env with
      | some xs =>
        simp only [e3] at p
        cases e2 : atI xs i with
        | none => simp only [e2] at p; exact False.elim p
        | some x =>
          simp only [e2] at p
          obtain ⟨q1, vs, rfl, t1, d1⟩ := cell_lst R R.tm.2.1 e3
          obtain ⟨w, hw, dw⟩ := dn_atI d1 e2
          exact .inl ⟨q1, vs, i, w, rfl, rfl, t1, hw, p _ H (R.pop.pop.pushD dw)⟩
      | none =>
        simp only [e3] at p
        split at p
        · rename_i z e4
          have c1 := cell_val R R.tm.2.1 e4
          cases c1 with
          | str _ hz =>
            cases e2 : atI z.cps.toList i with
            | none => simp only [e2] at p; exact False.elim p
            | some c =>
              simp only [e2] at p
              exact .inr (.inr ⟨z, i, c, rfl, rfl, hz, e2, p _ H (R.pop.pop.pushD (.str _ (by show (1 : Nat) ≤ sizeLine; decide)))⟩)
        · split at p
          · rename_i j _
            cases e5 : owAt env j with
            | none => simp only [e5] at p; exact False.elim p
            | some o =>
              cases o with
              | ll xss =>
                simp only [e5] at p
                cases e6 : ixN xss.length i with
                | none => simp only [e6] at p; exact False.elim p
                | some n =>
                  simp only [e6] at p
                  obtain ⟨w, hw, ew⟩ := id R.tm.2.1
                  have ew : v = w := ew
                  subst ew
                  obtain ⟨q1, vs, rfl, oq, h1, _, _, pr⟩ := R.owAt e5 hw
                  have ln := pr.length
                  have nl : n < vs.length := by
                    rw [ln]
                    unfold ixN at e6
                    split at e6
                    · split at e6
                      · cases e6; omega
                      · cases e6
                    · split at e6
                      · cases e6; omega
                      · cases e6
                  have e7 : atI vs i = some vs[n] := by
                    unfold atI
                    rw [ln, e6]
                    exact List.getElem?_eq_getElem nl
                  have R2 := R.pop.pop
                  refine .inl ⟨q1, vs, i, vs[n], rfl, rfl, .inl (.inl h1), e7, p _ H ⟨F, _, R2.push (a := .rf j (some (.inl n))) ⟨.ref q1, hw, q1, rfl, ?_, .inl ⟨vs, n, rfl, Int.natCast_nonneg n, h1, by simp⟩⟩⟩⟩
                  have jl := (List.getElem?_eq_some_iff.mp hw).1
                  have s1 : ∀ n, j ≠ σ.length + n := fun n => by omega
                  show (if (if O q1 = some (σ.length + (V.ref q1 :: ts).length) then none else O q1) = some (σ.length + ts.length) then none else (if O q1 = some (σ.length + (V.ref q1 :: ts).length) then none else O q1)) = some j
                  rw [oq, if_neg (fun z => s1 _ (Option.some.inj z)), if_neg (fun z => s1 _ (Option.some.inj z))]
              | l _ => simp only [e5] at p; exact False.elim p
              | dc _ => simp only [e5] at p; exact False.elim p
              | dl _ => simp only [e5] at p; exact False.elim p
              | x _ => simp only [e5] at p; exact False.elim p
          · exact False.elim p
  · exact False.elim p
/-! ### slices -/
def PO' (K : KW) (B : Bs) (W : WX) (σ : L2.St) (ts : List V) (te : List A) (Q : Option Int → Hp → Prop) : Rs (Option Int) → Prop
  | .ok b e => ∀ H, Rel K B σ e ts te H → Q b H
  | .ex x e => XPost K B W σ ts te x e
  | .bad => False
def SPo (K : KW) (B : Bs) (W : WX) (t : TO) (m : MO) : Prop := ∀ σ env ts te H Q, Rel K B σ env ts te H → PO' K B W σ ts te Q (m env te) → t σ H Q
theorem so_none : SPo K B W tNoPart mNoPart := fun σ env ts te H Q R p => p H R
theorem so_part {t : TE} {m : ME} (h : SE K B W t m) : SPo K B W (tPart t) (mPart m) := by
  intro σ env ts te H Q R p
  refine h σ env ts te H _ R ?_
  have p : PO' K B W σ ts te Q ((m env te).bind fun a e => match a.val e with | some (.int i) => .ok (some i) e | _ => .bad) := p
  cases q : m env te with
  | ok a e =>
    rw [q] at p
    simp only [Rs.bind_ok] at p
    intro v H' R'
    split at p
    · rename_i i e1
      obtain ⟨F, O, R'⟩ := R'
      have c := cell_val R' R'.tm.1 e1
      cases c
      exact ⟨i, rfl, p H' R'.pop.rel⟩
    · exact False.elim p
  | ex x e => rw [q] at p; exact p
  | bad => rw [q] at p; exact p
theorem DnAll.cut {F : Hp} {vs : List V} {xs : List Dt} (d : DnAll K F vs xs) (lo hi : Option Int) : DnAll K F (cutV vs lo hi) (cutD xs lo hi) := by
  unfold cutV cutD
  rw [d.length]
  exact (d.drop _).take _
theorem sl_ok {σ : L2.St} {env : Env} {ts : List V} {te : List A} {H : Hp} {Q : VK} {v : V} {a : A} {lo hi : Option Int} (R : Rel K B σ env (v :: ts) (a :: te) H) (p : PE' K B W σ ts te Q (slA env a lo hi)) : rSlU K v lo hi H Q := by
  obtain ⟨F, O, R⟩ := R
  have lst : ∀ {a}, RelF K B F O σ env (v :: ts) (a :: te) H → PE' K B W σ ts te Q (match a.lst? env with | some xs => .ok (.own (.l (cutD xs lo hi))) env | none => .bad) → rSlU K v lo hi H Q := fun {a} R p => by
    cases e : a.lst? env with
    | none => rw [e] at p; exact False.elim p
    | some xs =>
      rw [e] at p
      obtain ⟨q1, vs, rfl, t1, d1⟩ := cell_lst R R.tm.1 e
      exact .inr (.inl ⟨q1, vs, rfl, t1, fun r nr => p _ _ (R.pop.pushL nr (d1.cut lo hi))⟩)
  unfold slA at p
  split at p
  · rename_i xs
    obtain ⟨q1, vs, rfl, t1, d1⟩ := dn_tup (show Dn K F v (.tuple xs) from R.tm.1)
    refine .inl ⟨q1, vs, rfl, Same.sqT' R.sf t1.sq, fun z => ?_, fun z r ob nr hob => p _ _ (R.pop.pushT nr hob (d1.cut lo hi))⟩
    have e : cutD xs lo hi = xs := by
      unfold cutD
      rw [← d1.length, z.1, z.2, List.drop_zero, Nat.sub_zero, d1.length]
      exact List.take_of_length_le (Nat.le_refl _)
    rw [e] at p
    exact p _ H (R.pop.pushD (.tup t1 d1))
  · rename_i z
    have c : Dn K F v (.str z) := R.tm.1
    cases c with
    | str _ hz =>
      split at p
      · rename_i hl
        exact .inr (.inr ⟨z, rfl, hz, p _ H (R.pop.pushD (.str _ hl))⟩)
      · exact False.elim p
  · exact lst R p
theorem se_sl {t : TE} {m : ME} {tl th : TO} {ml mh : MO} (h : SE K B W t m) (h1 : SPo K B W tl ml) (h2 : SPo K B W th mh) : SE K B W (tSl (rSlU K) t tl th) (mSl m ml mh) := by
  intro σ env ts te H Q R p
  refine h.thE R p fun a e p v H1 R1 => ?_
  refine h1 σ e (v :: ts) (a :: te) H1 _ R1 ?_
  cases q : ml e (a :: te) with
  | ex x e2 => rw [q] at p; exact XPost.push p v a
  | bad => rw [q] at p; exact p
  | ok l e2 =>
    rw [q] at p
    intro H2 R2
    refine h2 σ e2 (v :: ts) (a :: te) H2 _ R2 ?_
    have p : PE' K B W σ ts te Q ((mh e2 (a :: te)).bind fun u e3 => slA e3 a l u) := p
    cases q2 : mh e2 (a :: te) with
    | ex x e3 => rw [q2] at p; exact XPost.push p v a
    | bad => rw [q2] at p; exact p
    | ok u e3 => rw [q2] at p; intro H3 R3; exact sl_ok R3 p
theorem se_revT {t : TE} {m : ME} (h : SE K B W t m) : SE K B W (tRevF K t) (mU revA m) := by
  intro σ env ts te H Q R p
  refine h.thE R p fun a e p v H1 R1 => ?_
  obtain ⟨F, O, R1⟩ := R1
  unfold revA at p
  split at p
  · rename_i xs
    obtain ⟨q1, vs, rfl, t1, d1⟩ := dn_tup (show Dn K F v (.tuple xs) from R1.tm.1)
    exact ⟨q1, vs, rfl, Same.sqT' R1.sf t1.sq, fun r ob nr hob => p _ _ (R1.pop.pushT nr hob d1.rev)⟩
  · exact False.elim p
/-! ### built-ins of one argument -/
theorem soa_one {r : List V → Hp → VK → Prop} {f : Env → A → Rs A} (h : SO1 K B W (fun v => r [v]) f) : SOA K B W r (one f) := by
  intro σ env ts te H Q vs as hl R p
  match vs, as, hl, p, R with
  | [v], [a], _, p, R => exact h σ env ts te H Q v a R p
  | [], [], _, p, _ => exact False.elim p
  | _ :: _ :: _, _ :: _ :: _, _, p, _ => exact False.elim p
theorem so1_len : SO1 K B W (fun v => rLenU K [v]) lenA := by
  intro σ env ts te H Q v a R p
  obtain ⟨F, O, R⟩ := R
  unfold lenA at p
  cases e : a.lst? env with
  | some xs =>
    simp only [e] at p
    obtain ⟨q1, vs, rfl, t1, d1⟩ := cell_lst R R.tm.1 e
    exact .inl ⟨_, xs.length, rfl, .inl ⟨vs, t1, d1.length.symm⟩, p _ H (R.pop.pushD (.int _))⟩
  | none =>
    simp only [e] at p
    cases e2 : a.val env with
    | none => simp only [e2] at p; exact False.elim p
    | some x =>
      simp only [e2] at p
      cases e3 : lenD x with
      | none => simp only [e3] at p; exact False.elim p
      | some n =>
        simp only [e3] at p
        have c := cell_val R R.tm.1 e2
        have q := p _ H (R.pop.pushD (.int _))
        cases c with
        | str z hz => cases e3; exact .inl ⟨_, _, rfl, ⟨hz, rfl⟩, q⟩
        | lst h d => cases e3; exact .inl ⟨_, _, rfl, .inl ⟨_, .inl (.inl h), d.length.symm⟩, q⟩
        | tup h d => cases e3; exact .inl ⟨_, _, rfl, .inr ⟨_, h.sq, d.length.symm⟩, q⟩
        | dct h d =>
          cases e3
          refine .inr ⟨_, _, rfl, h, ?_⟩
          have l : ∀ {kvs : List (Key × V)} {ds : List (Dt × Dt)}, DnKs K H kvs ds → kvs.length = ds.length := by
            intro kvs
            induction kvs with
            | nil => intro ds d; cases d; rfl
            | cons k r ih => intro ds d; cases d with
              | cons _ d => exact congrArg (· + 1) (ih d)
          rw [l d]
          exact q
        | _ => cases e3
theorem so1_tup : SO1 K B W (fun v => rTupOfF K [v]) tupA := by
  intro σ env ts te H Q v a R p
  obtain ⟨F, O, R⟩ := R
  unfold tupA at p
  split at p
  · rename_i xs
    obtain ⟨q1, vs, rfl, t1, d1⟩ := dn_tup (show Dn K F v (.tuple xs) from R.tm.1)
    exact ⟨q1, vs, rfl, .inr ⟨Same.sqT' R.sf t1.sq, p _ H (R.pop.pushD (.tup t1 d1))⟩⟩
  · split at p
    · rename_i xs e
      obtain ⟨q1, vs, rfl, t1, d1⟩ := cell_lst R R.tm.1 e
      exact ⟨q1, vs, rfl, .inl ⟨t1, fun r ob nr hob => p _ _ (R.pop.pushT nr hob d1)⟩⟩
    · exact False.elim p
theorem so1_lst : SO1 K B W (fun v => rLstOf K [v]) lstA := by
  intro σ env ts te H Q v a R p
  obtain ⟨F, O, R⟩ := R
  unfold lstA at p
  cases e : a.tup? with
  | some xs =>
    simp only [e] at p
    obtain ⟨q1, vs, rfl, t1, _, d1⟩ := cell_tup R R.tm.1 e
    exact ⟨q1, vs, rfl, .inr t1, fun r nr => p _ _ (R.pop.pushL nr d1)⟩
  | none =>
    simp only [e] at p
    cases e2 : a.lst? env with
    | none => simp only [e2] at p; exact False.elim p
    | some xs =>
      simp only [e2] at p
      obtain ⟨q1, vs, rfl, t1, d1⟩ := cell_lst R R.tm.1 e2
      exact ⟨q1, vs, rfl, .inl t1, fun r nr => p _ _ (R.pop.pushL nr d1)⟩
theorem boolsD_dn {F : Hp} : ∀ {vs : List V} {ds : List Dt} {bs : List Bool}, DnAll K F vs ds → boolsD ds = some bs → vs = bs.map V.bl
  | _, [], _, .nil, h => by cases h; rfl
  | _, d :: ds, bs, .cons h1 hs, h => by
    cases h1 with
    | bl s =>
      unfold boolsD at h
      cases q : boolsD ds with
      | none => rw [q] at h; cases h
      | some r =>
        rw [q] at h
        cases h
        rw [boolsD_dn hs q]
        rfl
    | _ => cases h
theorem so1_all : SO1 K B W (fun v => rAll K [v]) allA := by
  intro σ env ts te H Q v a R p
  obtain ⟨F, O, R⟩ := R
  unfold allA at p
  cases e : a.lst? env with
  | none => simp only [e, Option.bind_none] at p; exact False.elim p
  | some xs =>
    cases e2 : boolsD xs with
    | none => simp only [e, Option.bind_some, e2] at p; exact False.elim p
    | some bs =>
      simp only [e, Option.bind_some, e2] at p
      obtain ⟨q1, vs, rfl, t1, d1⟩ := cell_lst R R.tm.1 e
      exact ⟨q1, bs, rfl, by rw [← boolsD_dn d1 e2]; exact t1, p _ H (R.pop.pushD (.bl _))⟩
theorem dn_ty {H : Hp} {v : V} {x : Dt} (h : Dn K H v x) : TyX K H v (.type (tyD x)) := by
  cases h with
  | non => exact .base .non
  | bl b => exact .base (.bl b)
  | int i => exact .base (.int i)
  | str x _ => exact .base (.str x)
  | lst h _ => exact .base (.lst h)
  | tup h _ =>
    rcases h with ⟨ob, h, _⟩ | ⟨o, its, n, h1, h2, _⟩
    · exact .fTuple h
    · exact .kTuple h1 h2
  | dct h _ =>
    rcases h with h | ⟨o, h⟩
    · exact .base (.dK h)
    · exact .fDict h
theorem se_isi {T : String} {t : TE} {m : ME} (h : SE K B W t m) : SE K B W (tCB (rIsi K) (tCons t (tCons (tC (.ty T)) tNil))) (mIsi T m) := by
  intro σ env ts te H Q R p
  refine h.thE R p fun a e p v H1 R1 => ?_
  obtain ⟨F, O, R1⟩ := R1
  cases e1 : a.val e with
  | none => simp only [e1] at p; exact False.elim p
  | some x =>
    simp only [e1] at p
    cases e2 : kitB (tyD x) T with
    | none => simp only [e2] at p; exact False.elim p
    | some b =>
      simp only [e2] at p
      exact ⟨v, .ty T, _, _, b, rfl, .ty T, dn_ty (cell_val R1 R1.tm.1 e1), kit_ty e2, p _ H1 (R1.pop.pushD (.bl _))⟩
theorem us_abs : UnS K (fun v => rAbs [v]) absD := by
  intro H x dx z Q h1 h
  cases h1 <;> cases h
  exact ⟨rfl, fun q => ⟨_, rfl, q⟩⟩
theorem us_int : UnS K (fun v => rInt1 [v]) intD := by
  intro H x dx z Q h1 h
  cases h1 <;> cases h
  · exact ⟨rfl, fun q => .inr ⟨_, rfl, q⟩⟩
  · exact ⟨rfl, fun q => .inl ⟨_, rfl, q⟩⟩
theorem us_repr : UnS K (fun v => rReprP K [v]) reprD := by
  intro H x dx z Q h1 h
  unfold reprD at h
  split at h
  · rename_i c
    cases h
    exact ⟨decide_eq_true c.2.2.2.2, fun q => ⟨x, dx, rfl, dn_dp h1 c.1, c.2.1, c.2.2.1, c.2.2.2.1, q⟩⟩
  · cases h
theorem soa_max : SOA K B W rMax2 max2A := by
  intro σ env ts te H Q vs as hl R p
  unfold max2A at p
  split at p
  · rename_i i j
    obtain ⟨F, O, R2, d⟩ := args_dn hl R (as := [.d (.int i), .d (.int j)]) rfl
    cases d with
    | cons h1 d =>
      cases d with
      | cons h2 d =>
        cases d
        cases h1
        cases h2
        exact ⟨i, j, rfl, p _ H (R2.pushD (.int _))⟩
  · exact False.elim p
theorem se_join {ta tb : TE} {ma mb : ME} (ha : SE K B W ta ma) (hb : SE K B W tb mb) : SE K B W (tM1 (rJoin K) ta tb) (mJoin ma mb) := by
  intro σ env ts te H Q R p
  refine ha.thE R p fun a e p v H1 R1 => ?_
  split at p
  · rename_i s
    obtain ⟨F, O, R1⟩ := R1
    have c : Dn K F v (.str s) := R1.tm.1
    cases c with
    | str _ hs =>
      refine ⟨⟨s, rfl⟩, ?_⟩
      refine hb σ e _ _ H1 _ R1.rel ?_
      cases q : mb e (.d (.str s) :: te) with
      | ex x e2 => rw [q] at p; exact XPost.push p _ _
      | bad => rw [q] at p; exact p
      | ok b e2 =>
        rw [q] at p
        rintro u H2 ⟨F2, O2, R2⟩
        simp only [Rs.bind_ok] at p
        unfold joinS at p
        have key : ∀ xs, (∃ q1 vs, u = .ref q1 ∧ (SqL K H2 q1 vs ∨ SqT K H2 q1 vs) ∧ DnAll K F2 vs xs) → PE' K B W σ ts te Q (match (some xs).bind strsD with
          | some ys => if (ys.map (·.length)).sum + ys.length * s.length ≤ 16777216 ∧ (Txt.join s ys).length ≤ sizeLine then .ok (.d (.str (Txt.join s ys))) e2 else .bad
          | none => .bad) → rJoin K (.str s) [u] H2 Q := fun xs ⟨q1, vs, e1, sq, d⟩ p => by
          subst e1
          cases e2 : strsD xs with
          | none => simp only [Option.bind_some, e2] at p; exact False.elim p
          | some ys =>
            simp only [Option.bind_some, e2] at p
            split at p
            · rename_i hl
              refine ⟨s, q1, ys, rfl, rfl, by rw [← strsD_dn d e2]; exact sq, hl.1, p _ H2 (R2.pop.pop.pushD (.str _ hl.2))⟩
            · exact False.elim p
        cases e3 : b.tup? with
        | some xs =>
          simp only [e3] at p
          obtain ⟨q1, vs, e1, t1, _, d1⟩ := cell_tup R2 R2.tm.1 e3
          exact key xs ⟨q1, vs, e1, .inr t1, d1⟩ p
        | none =>
          simp only [e3] at p
          cases e4 : b.lst? e2 with
          | none => simp only [e4, Option.bind_none] at p; exact False.elim p
          | some xs =>
            simp only [e4] at p
            obtain ⟨q1, vs, e1, t1, d1⟩ := cell_lst R2 R2.tm.1 e4
            exact key xs ⟨q1, vs, e1, .inl t1, d1⟩ p
  · exact False.elim p
end
end Tw

namespace Tw
open PySem PySem.Spec PyProof.Rows L2
/-! ### things that are changed -/
def isNestK (i : Nat) (k : Key) : A → Bool
  | .rf j (some k') => j == i && decide (k' = k)
  | _ => false
theorem anyC_of_env {f : A → Bool} {env : Env} {te : List A} {i : Nat} {a : A} (e : env[i]? = some (some a)) (h : f a = true) : anyC f env te = true := by
  unfold anyC
  rw [Bool.or_eq_true]
  exact .inl (List.any_eq_true.mpr ⟨some a, List.mem_of_getElem? e, h⟩)
theorem anyC_of_te {f : A → Bool} {env : Env} {te : List A} {a : A} (e : a ∈ te) (h : f a = true) : anyC f env te = true := by
  unfold anyC
  rw [Bool.or_eq_true]
  exact .inr (List.any_eq_true.mpr ⟨a, e, h⟩)
section
variable {K : KW} {B : Bs} {F F' H H' : Hp} {O O' : Addr → Option Nat} {σ : List (Option V)} {env : Env} {ts : List V} {te : List A}
theorem RelF.chg (R : RelF K B F O σ env ts te H) {i : Nat} {v : V} {a a' : A} (he : env[i]? = some (some a)) (hv : σ[i]? = some (some v)) (sF : Same F F') (sH : Same F' H')
    (hk : ∀ j b, j ≠ i → O b = some j → O' b = some j ∧ H' b = H b ∧ F' b = none) (hO : ∀ b j, O' b = some j → j = i ∨ O b = some j)
    (hi : ∀ b, O' b = some i → F' b = none ∧ MutO (H' b) ∧ (B.H b = none ∨ (B.S b = some i ∧ B.io i = true)))
    (hb2 : ∀ b o, B.S b = none → B.H b ≠ none → H b = some o → H' b = some o) (htb : ∀ b o, O b = none → H b = some o → H' b = some o) (hb5 : ∀ b, H b ≠ none → H' b ≠ none) (hb3 : ∀ b, F b = none → F' b ≠ none → B.H b = none ∨ B.S b ≠ none)
    (new : CellO K B F' H' O' σ i v a') (hio : ∀ o, a = .io o → ∃ o', a' = .io o') (hp : ∀ k u, anyC (isNestK i k) env te = true → atP H O i v u (some k) → atP H' O' i v u (some k)) :
    RelF K B F' O' σ (env.set i (some a')) ts te H' := by
  have il : i < env.length := (List.getElem?_eq_some_iff.mp he).1
  have cell : ∀ {j : Nat} {u : V} {c : A}, CellO K B F H O σ j u c → j ≠ i → (∀ k, c = .rf i (some k) → anyC (isNestK i k) env te = true) → CellO K B F' H' O' σ j u c := fun {j u c} h nj hc => by
    cases c with
    | d x => exact Dn.same sF h
    | own o => exact OwO.mono (own := fun a => O a = some j ∧ B.H a = none) sF (fun a z => ⟨(hk j a nj z.1).1, z.2⟩) (fun a z => (hk j a nj z.1).2.1) h
    | io o => exact ⟨OwO.mono (own := fun a => O a = some j) sF (fun a z => (hk j a nj z).1) (fun a z => (hk j a nj z).2.1) h.1, h.2⟩
    | sc ns => obtain ⟨a, e, q⟩ := h; exact ⟨a, e, Same.sqL sF q⟩
    | q xs => obtain ⟨a, vs, e, q, d⟩ := h; exact ⟨a, vs, e, Same.sqT' sF q, d.same sF⟩
    | lk kvs => exact h
    | xr x => obtain ⟨e1, e2, h⟩ := h; exact ⟨e1, e2, h.imp id fun ⟨dx, us, e3, h1, h2⟩ => ⟨dx, us, e3, sF _ _ h1, h2.same sF⟩⟩
    | rf i' p =>
      obtain ⟨w, hw, h⟩ := h
      refine ⟨w, hw, ?_⟩
      cases p with
      | none => exact h
      | some k =>
        by_cases ii : i' = i
        · subst ii
          rw [hv] at hw
          cases hw
          exact hp k u (hc k rfl) h
        · exact h.mono fun _ b z => ⟨(hk i' b ii z).1, (hk i' b ii z).2.1⟩
  have tm : ∀ {us : List V} {ue : List A}, (∀ c ∈ ue, c ∈ te) → TmO K B F H O σ us ue → TmO K B F' H' O' σ us ue := fun {us} => by
    induction us with
    | nil => intro ue _ h; cases ue with
      | nil => trivial
      | cons => exact h.elim
    | cons u us ih =>
      intro ue hm h
      cases ue with
      | nil => exact h.elim
      | cons x ue =>
        refine ⟨cell h.1 (by have := R.ln; omega) (fun k e => anyC_of_te (hm x List.mem_cons_self) (by rw [e]; simp [isNestK])), ih (fun c hc => hm c (List.mem_cons_of_mem _ hc)) h.2⟩
  refine ⟨by rw [List.length_set]; exact R.ln, fun j c e => ?_, tm (fun c h => h) R.tm, sH, fun b j z => ?_, R.b1.trans sF, fun b o hs ht e => hb2 b o hs (by rw [e]; exact nofun) (R.b2 b o hs ht e), fun b h1 h2 => ?_, fun b h => hb5 b (R.b5 b h), fun j hj => ?_, R.tb.1, R.tb.2.mono fun b o t z => htb b o (R.noT t z) z⟩
  · rw [List.getElem?_set] at e
    by_cases ji : i = j
    · subst ji
      rw [if_pos rfl, if_pos il] at e
      cases e
      exact ⟨v, hv, new⟩
    · rw [if_neg ji] at e
      obtain ⟨u, e1, h⟩ := R.sl j c e
      exact ⟨u, e1, cell h (Ne.symm ji) fun k ec => anyC_of_env e (by rw [ec]; simp [isNestK])⟩
  · by_cases ji : j = i
    · subst ji
      obtain ⟨h1, h2, h3⟩ := hi b z
      exact ⟨h1, h2, by have := R.ln; omega, h3⟩
    · rcases hO b j z with h | h
      · exact absurd h ji
      · obtain ⟨h1, h2, h3, h4⟩ := R.of b j h
        obtain ⟨k1, k2, k3⟩ := hk j b ji h
        exact ⟨k3, by rw [k2]; exact h2, h3, h4⟩
  · cases q : F b with
    | none => exact hb3 b q h2
    | some o => exact R.b3 b h1 (by rw [q]; exact nofun)
  · obtain ⟨o, ho⟩ := R.bi j hj
    rw [List.getElem?_set]
    by_cases ji : i = j
    · subst ji
      rw [if_pos rfl, if_pos il]
      rw [he] at ho
      obtain ⟨o', e'⟩ := hio o (Option.some.inj (Option.some.inj ho))
      exact ⟨o', by rw [e']⟩
    · rw [if_neg ji]
      exact ⟨o, ho⟩
/-- the cell of a slot with another thing -/
def reOw (a : A) (o : Ow) : A := match a with
  | .io _ => .io o
  | _ => .own o
/-- the first one with a key, anew -/
def setF {α : Type} : List (Key × α) → Key → α → List (Key × α)
  | [], _, _ => []
  | q :: r, k, y => if q.1 = k then (q.1, y) :: r else q :: setF r k y
/-- the content of a list that is told, anew -/
def Ow.put (o : Ow) (p : Option Key) (ys : List Dt) : Option Ow := match o, p with
  | .l _, none => some (.l ys)
  | .ll xss, some (.inl n) => if 0 ≤ n ∧ n.toNat < xss.length then some (.ll (xss.set n.toNat ys)) else none
  | .dl kvs, some k => if (lkD kvs k).isSome = true then some (.dl (setF kvs k ys)) else none
  | _, _ => none
def setP (env : Env) (i : Nat) (p : Option Key) (ys : List Dt) : Option Env := match env[i]?, owAt env i with
  | some (some a), some o => (o.put p ys).map fun o' => env.set i (some (reOw a o'))
  | _, _ => none
theorem owAt_cell {i : Nat} {o : Ow} (h : owAt env i = some o) : env[i]? = some (some (.own o)) ∨ env[i]? = some (some (.io o)) := by
  unfold owAt at h
  split at h
  · rename_i e; cases h; exact .inl e
  · rename_i e; cases h; exact .inr e
  · cases h
/-- a list of data that a reference tells is changed -/
theorem rel_mutP (R : RelF K B F O σ env ts te H) {j i : Nat} {p : Option Key} {v : V} {xs : List Dt} (c : CellO K B F H O σ j v (.rf i p)) (h : (A.rf i p).ow env = some (.l xs)) (nn : p = none → anyC (isNest i) env te = false) :
    ∃ q us, v = .ref q ∧ H q = some (.lst us) ∧ DnAll K F us xs ∧ ∀ us' ys e', DnAll K F us' ys → setP env i p ys = some e' → RelF K B F O σ e' ts te (upd H q (.lst us')) := by
  have own := cell_rf R c h
  obtain ⟨q, us, ev, oq, hq, d⟩ := own
  subst ev
  refine ⟨q, us, rfl, hq, d, fun us' ys e' d' hs => ?_⟩
  obtain ⟨w, hw, hat⟩ := c
  unfold setP at hs
  cases ea : env[i]? with
  | none => rw [ea] at hs; cases hs
  | some oa =>
    cases oa with
    | none => rw [ea] at hs; cases hs
    | some a =>
      cases eo : owAt env i with
      | none => rw [ea, eo] at hs; cases hs
      | some o =>
        rw [ea, eo] at hs
        simp only at hs
        cases ep : o.put p ys with
        | none => rw [ep] at hs; cases hs
        | some o' =>
          rw [ep] at hs
          cases hs
          have cellW := R.owAt eo hw
          -- the new thing
          have newO : ∀ own : Addr → Prop, (∀ a, O a = some i → own a) → OwO K F (upd H q (.lst us')) own w o' := by
            intro own ho
            cases o with
            | l xs0 =>
              cases p with
              | some k => cases ep
              | none =>
                cases ep
                have hat : V.ref q = w := hat
                exact ⟨q, us', hat.symm, ho q oq, upd_same, d'⟩
            | dc kvs => cases p <;> cases ep
            | x kvs => cases p <;> cases ep
            | ll xss =>
              cases p with
              | none => cases ep
              | some k =>
                cases k with
                | inr _ => cases ep
                | inl n =>
                  unfold Ow.put at ep
                  simp only at ep
                  split at ep
                  · rename_i hn
                    cases ep
                    obtain ⟨b, vs, eb, ob, hb, nd, nm, pr⟩ := cellW
                    obtain ⟨a', ea', oa', hh⟩ := hat
                    rw [eb] at ea'
                    cases ea'
                    rcases hh with ⟨vs2, m, em, m0, hv2, hm⟩ | ⟨us2, hu2, _⟩
                    · cases em
                      rw [hb] at hv2
                      cases hv2
                      have nq : b ≠ q := fun z => nm (by rw [z]; exact List.mem_of_getElem? hm)
                      refine ⟨b, vs, eb, ho b ob, by rw [upd_ne nq]; exact hb, nd, nm, ?_⟩
                      have base : ∀ {vs0 : List V} {xss0 : List (List Dt)} {m : Nat}, Paired (OwL K F H fun a => O a = some i) vs0 xss0 → vs0.Nodup → vs0[m]? = some (.ref q) → Paired (OwL K F (upd H q (.lst us')) own) vs0 (xss0.set m ys) := by
                        intro vs0
                        induction vs0 with
                        | nil => intro xss0 m _ _ h; simp at h
                        | cons z r ih =>
                          intro xss0 m pr nd h
                          cases pr with
                          | cons g pr =>
                            have nd' := List.nodup_cons.mp nd
                            cases m with
                            | zero =>
                              cases h
                              refine .cons ⟨q, us', rfl, ho q oq, upd_same, d'⟩ ?_
                              have keep : ∀ {r : List V} {xr : List (List Dt)}, V.ref q ∉ r → Paired (OwL K F H fun a => O a = some i) r xr → Paired (OwL K F (upd H q (.lst us')) own) r xr := by
                                intro r
                                induction r with
                                | nil => intro xr _ p; cases p; exact .nil
                                | cons y r ih2 =>
                                  intro xr hn p
                                  cases p with
                                  | cons g p =>
                                    obtain ⟨a2, vs2, e2, o2, h2, d2⟩ := g
                                    refine .cons ⟨a2, vs2, e2, ho a2 o2, ?_, d2⟩ (ih2 (fun z => hn (List.mem_cons_of_mem _ z)) p)
                                    rw [upd_ne (fun z => hn (by rw [← z, ← e2]; exact List.mem_cons_self))]
                                    exact h2
                              exact keep nd'.1 pr
                            | succ m =>
                              obtain ⟨a2, vs2, e2, o2, h2, d2⟩ := g
                              have hm : r[m]? = some (.ref q) := by simpa using h
                              refine .cons ⟨a2, vs2, e2, ho a2 o2, ?_, d2⟩ (ih pr nd'.2 hm)
                              rw [upd_ne (fun z => nd'.1 (by rw [e2, z]; exact List.mem_of_getElem? hm))]
                              exact h2
                      exact base pr nd hm
                    · rw [hb] at hu2; cases hu2
                  · cases ep
            | dl kvs =>
              cases p with
              | none => cases ep
              | some k =>
                unfold Ow.put at ep
                simp only at ep
                split at ep
                · rename_i hk
                  cases ep
                  obtain ⟨b, vs, eb, ob, hb, nd, nm, pr⟩ := cellW
                  obtain ⟨a', ea', oa', hh⟩ := hat
                  rw [eb] at ea'
                  cases ea'
                  rcases hh with ⟨vs2, m, em, m0, hv2, hm⟩ | ⟨us2, hu2, hval⟩
                  · rw [hb] at hv2; cases hv2
                  · rw [hb] at hu2
                    cases hu2
                    have mem : V.ref q ∈ vs.map (·.2) := by
                      unfold valV at hval
                      cases qf : vs.find? fun kv => decide (kv.1 = k) with
                      | none => rw [qf] at hval; cases hval
                      | some kv =>
                        rw [qf] at hval
                        have : kv.2 = V.ref q := Option.some.inj hval
                        exact List.mem_map.mpr ⟨kv, List.mem_of_find?_eq_some qf, this⟩
                    have nq : b ≠ q := fun z => nm (by rw [z]; exact mem)
                    refine ⟨b, vs, eb, ho b ob, by rw [upd_ne nq]; exact hb, nd, nm, ?_⟩
                    have keep : ∀ {r : List (Key × V)} {xr : List (Key × List Dt)}, V.ref q ∉ r.map (·.2) → Paired (fun (p : Key × V) (q : Key × List Dt) => p.1 = q.1 ∧ OwL K F H (fun a => O a = some i) p.2 q.2) r xr → Paired (fun (p : Key × V) (z : Key × List Dt) => p.1 = z.1 ∧ OwL K F (upd H q (.lst us')) own p.2 z.2) r xr := by
                      intro r
                      induction r with
                      | nil => intro xr _ p; cases p; exact .nil
                      | cons y r ih2 =>
                        intro xr hn p
                        cases p with
                        | cons g p =>
                          obtain ⟨ek, a2, vs2, e2, o2, h2, d2⟩ := g
                          refine .cons ⟨ek, a2, vs2, e2, ho a2 o2, ?_, d2⟩ (ih2 (fun z => hn (List.mem_cons_of_mem _ z)) p)
                          rw [upd_ne (fun z => hn (by rw [← z, ← e2]; exact List.mem_cons_self))]
                          exact h2
                    have base : ∀ {vs0 : List (Key × V)} {ks0 : List (Key × List Dt)}, Paired (fun (p : Key × V) (q : Key × List Dt) => p.1 = q.1 ∧ OwL K F H (fun a => O a = some i) p.2 q.2) vs0 ks0 → (vs0.map (·.2)).Nodup → valV vs0 k = some (.ref q) → Paired (fun (p : Key × V) (z : Key × List Dt) => p.1 = z.1 ∧ OwL K F (upd H q (.lst us')) own p.2 z.2) vs0 (setF ks0 k ys) := by
                      intro vs0
                      induction vs0 with
                      | nil => intro ks0 _ _ h; cases h
                      | cons z r ih =>
                        intro ks0 pr nd h
                        cases pr with
                        | cons g pr =>
                          rename_i y0 ks
                          obtain ⟨ek, a2, vs2, e2, o2, h2, d2⟩ := g
                          have nd' := List.nodup_cons.mp (show (z.2 :: r.map (·.2)).Nodup from nd)
                          unfold valV at h
                          rw [List.find?_cons] at h
                          unfold setF
                          by_cases hk2 : z.1 = k
                          · rw [decide_eq_true hk2] at h
                            have ez : z.2 = .ref q := Option.some.inj h
                            rw [if_pos (ek ▸ hk2)]
                            refine .cons ⟨ek, q, us', ez, ho q oq, upd_same, d'⟩ (keep (by rw [← ez]; exact nd'.1) pr)
                          · rw [decide_eq_false hk2] at h
                            rw [if_neg (fun z => hk2 (ek.trans z))]
                            have hm : valV r k = some (.ref q) := h
                            have memr : V.ref q ∈ r.map (·.2) := by
                              unfold valV at hm
                              cases qf : r.find? fun kv => decide (kv.1 = k) with
                              | none => rw [qf] at hm; cases hm
                              | some kv =>
                                rw [qf] at hm
                                have : kv.2 = V.ref q := Option.some.inj hm
                                exact List.mem_map.mpr ⟨kv, List.mem_of_find?_eq_some qf, this⟩
                            refine .cons ⟨ek, a2, vs2, e2, ho a2 o2, ?_, d2⟩ (ih pr nd'.2 hm)
                            rw [upd_ne (fun y => nd'.1 (by rw [e2, y]; exact memr))]
                            exact h2
                    exact base pr nd.1 hval
                · cases ep
          have hio : ∀ o0, a = .io o0 → ∃ o'0, reOw a o' = .io o'0 := fun o0 e => ⟨o', by rw [e]; rfl⟩
          have hn0 : ∀ b, O b ≠ some i → upd H q (.lst us') b = H b := fun b nb => upd_ne (fun z => nb (by rw [z]; exact oq))
          refine R.chg ea hw (Same.refl F) (fun b o e => ?_) (fun j b nj z => ⟨z, hn0 b (by rw [z]; exact fun y => nj (Option.some.inj y)), (R.of b j z).1⟩) (fun b j z => .inr z) (fun b z => ?_) (fun b o hs hB hHb => ?_) (fun b o nb z => by rw [hn0 b (by rw [nb]; exact nofun)]; exact z) (fun b hb => ?_) (fun b h1 h2 => absurd h1 h2) ?_ hio (fun k u hany hat2 => ?_)
          · rw [upd_ne (fun z => by rw [z, (R.of q i oq).1] at e; cases e)]
            exact R.sf b o e
          · obtain ⟨h1, h2, h3, h4⟩ := R.of b i z
            refine ⟨h1, ?_, h4⟩
            by_cases hb : b = q
            · rw [hb, upd_same]; exact mutO_lst _
            · rw [upd_ne hb]; exact h2
          · by_cases hb : b = q
            · subst hb
              rcases (R.of b i oq).2.2.2 with y | y
              · exact absurd y hB
              · rw [y.1] at hs; cases hs
            · rw [upd_ne hb]; exact hHb
          · by_cases hb2 : b = q
            · rw [hb2, upd_same]; exact nofun
            · rw [upd_ne hb2]; exact hb
          · rcases owAt_cell eo with e2 | e2
            · rw [ea] at e2
              cases e2
              refine newO _ fun a z => ⟨z, ?_⟩
              rcases (R.of a i z).2.2.2 with y | y
              · exact y
              · obtain ⟨o9, h9⟩ := R.bi i y.2
                rw [ea] at h9
                cases h9
            · rw [ea] at e2
              cases e2
              obtain ⟨w', hw', c'⟩ := R.sl i _ ea
              rw [hw] at hw'
              cases hw'
              exact ⟨newO _ fun a z => z, c'.2⟩
          · -- nested references
            cases p with
            | none =>
              exfalso
              have := nn rfl
              unfold anyC at this hany
              rw [Bool.or_eq_false_iff] at this
              rw [Bool.or_eq_true] at hany
              have imp : ∀ c : A, isNestK i k c = true → isNest i c = true := fun c h => by
                cases c with
                | rf i' p' =>
                  cases p' with
                  | none => cases h
                  | some k' => simp [isNestK] at h; simp [isNest, h.1]
                | _ => cases h
              rcases hany with z | z
              · obtain ⟨c, hc, hz⟩ := List.any_eq_true.mp z
                have := List.any_eq_false.mp this.1 c hc
                cases c with
                | none => cases hz
                | some c => exact this (imp c hz)
              · obtain ⟨c, hc, hz⟩ := List.any_eq_true.mp z
                exact List.any_eq_false.mp this.2 c hc (imp c hz)
            | some kp =>
              obtain ⟨a2, e2, o2, h2⟩ := hat2
              have nq : a2 ≠ q := by
                rintro rfl
                cases o with
                | l _ => cases ep
                | dc _ => cases ep
                | x _ => cases ep
                | ll xss =>
                  obtain ⟨b, vs, eb, ob, hb, nd, nm, pr⟩ := cellW
                  obtain ⟨a', ea', oa', hh⟩ := hat
                  rw [eb] at ea' e2
                  cases ea'
                  cases e2
                  rcases hh with ⟨vs2, m, em, m0, hv2, hm⟩ | ⟨us2, hu2, _⟩
                  · rw [hb] at hv2
                    cases hv2
                    exact nm (List.mem_of_getElem? hm)
                  · rw [hb] at hu2; cases hu2
                | dl kvs =>
                  obtain ⟨b, vs, eb, ob, hb, nd, nm, pr⟩ := cellW
                  obtain ⟨a', ea', oa', hh⟩ := hat
                  rw [eb] at ea' e2
                  cases ea'
                  cases e2
                  rcases hh with ⟨vs2, m, em, m0, hv2, hm⟩ | ⟨us2, hu2, hval⟩
                  · rw [hb] at hv2; cases hv2
                  · rw [hq] at hb; cases hb
              refine ⟨a2, e2, o2, ?_⟩
              rw [upd_ne nq]
              exact h2
end
end Tw

namespace Tw
open PySem PySem.Spec PyProof.Rows L2
/-! ### methods of lists -/
def isL (e : Env) (o : A) : Bool := match o with
  | .d (.list _) => true
  | o => match o.ow e with
    | some (.l _) => true
    | some (.ll _) => true
    | _ => false
def mMeth (f : Env → List A → A → List A → Rs A) (mo : ME) (ma : MA) : ME := fun env te => (mo env te).bind fun o e1 => if isL e1 o = true then (ma e1 (o :: te)).bind fun as e2 => f e2 te o as else .bad
/-- the list that a reference tells, anew -/
def mutL (e : Env) (te : List A) (o : A) (g : List Dt → Option (Dt × List Dt)) : Rs A := match o with
  | .rf i p => match (A.rf i p).ow e with
    | some (.l xs) => if p.isSome = true ∨ anyC (isNest i) e te = false then (match g xs with
      | some (r, ys) => (match setP e i p ys with
        | some e' => .ok (.d r) e'
        | none => .bad)
      | none => .bad) else .bad
    | _ => .bad
  | _ => .bad
def appA : Env → List A → A → List A → Rs A := fun e te o as => match dAll as with
  | some [y] => mutL e te o fun xs => if xs.length < sizeLine then some (.none, xs ++ [y]) else none
  | _ => .bad
def extA : Env → List A → A → List A → Rs A := fun e te o as => match dAll as with
  | some [y] => (match seqD y with
    | some zs => mutL e te o fun xs => if xs.length + zs.length ≤ sizeLine then some (.none, xs ++ zs) else none
    | none => .bad)
  | _ => .bad
def insA : Env → List A → A → List A → Rs A := fun e te o as => match dAll as with
  | some [.int i, y] => mutL e te o fun xs => if xs.length < sizeLine ∧ 0 ≤ i ∧ i < 2 ^ 63 then some (.none, xs.take i.toNat ++ [y] ++ xs.drop i.toNat) else none
  | _ => .bad
def popA : Env → List A → A → List A → Rs A := fun e te o as => match as with
  | [] => mutL e te o fun xs => match xs[xs.length - 1]? with
    | some y => some (y, xs.dropLast)
    | none => none
  | _ => .bad
def popAtA : Env → List A → A → List A → Rs A := fun e te o as => match dAll as with
  | some [.int i] => mutL e te o fun xs => if -(2 ^ 63) ≤ i ∧ i < 2 ^ 63 then (match seqIndex? i xs.length with
    | some k => (match xs[k]? with
      | some y => some (y, xs.eraseIdx k)
      | none => none)
    | none => none) else none
  | _ => .bad
/-- the first place of a datum -/
def ixOf (d : Dt) : List Dt → Option Nat
  | [] => none
  | x :: xs => if PyData.eqv x d = true then some 0 else (ixOf d xs).map (· + 1)
def tixA (e : Env) (a b : A) : Rs A := match a, b with
  | .d (.tuple xs), .d d => if d.plain = true ∧ PyData.plainAll xs = true ∧ min (PyData.depthAll xs) d.depth ≤ 190 then (match ixOf d xs with
    | some j => .ok (.d (.int j)) e
    | none => .bad) else .bad
  | _, _ => .bad
def mTix (ma mb : ME) : ME := fun env te => (ma env te).bind fun a e1 => match a with
  | .d (.tuple xs) => (mb e1 (a :: te)).bind fun b e2 => tixA e2 a b
  | _ => .bad
section
variable {K : KW} {B : Bs} {W : WX}
def SM (K : KW) (B : Bs) (W : WX) (r : V → List V → Hp → VK → Prop) (f : Env → List A → A → List A → Rs A) : Prop := ∀ σ env ts te H Q v vs o as, vs.length = as.length → Rel K B σ env (vs.reverse ++ (v :: ts)) (as.reverse ++ (o :: te)) H → PE' K B W σ ts te Q (f env te o as) → r v vs H Q
theorem isL_ty {σ : L2.St} {env : Env} {ts : List V} {te : List A} {H : Hp} {v : V} {o : A} (R : Rel K B σ env (v :: ts) (o :: te) H) (h : isL env o = true) : tyV K "list" v H := by
  obtain ⟨F, O, R⟩ := R
  have key : ∀ u, o.ow env = some u → (∃ xs, u = .l xs) ∨ (∃ xs, u = .ll xs) → tyV K "list" v H := fun u e1 e2 => by
    obtain ⟨own, q⟩ := cell_ow R R.tm.1 e1
    rcases e2 with ⟨xs, rfl⟩ | ⟨xs, rfl⟩
    · obtain ⟨a, vs, rfl, _, h1, _⟩ := q
      exact .inl ⟨rfl, vs, .inl (.inl h1)⟩
    · obtain ⟨a, vs, rfl, _, h1, _⟩ := q
      exact .inl ⟨rfl, vs, .inl (.inl h1)⟩
  have g : (match o.ow env with | some (.l _) => true | some (.ll _) => true | _ => false) = true → tyV K "list" v H := fun h => by
    cases e : o.ow env with
    | none => rw [e] at h; cases h
    | some u =>
      rw [e] at h
      cases u with
      | l xs => exact key _ e (.inl ⟨xs, rfl⟩)
      | ll xs => exact key _ e (.inr ⟨xs, rfl⟩)
      | dc _ => cases h
      | dl _ => cases h
      | x _ => cases h
  cases o with
  | d x =>
    cases x with
    | list xs =>
      have c : Dn K F v (.list xs) := R.tm.1
      cases c with
      | lst h1 _ => exact .inl ⟨rfl, _, .inl (.inl (R.sf _ _ h1))⟩
    | _ => cases h
  | own _ => exact g h
  | io _ => exact g h
  | rf _ _ => exact g h
  | sc _ => exact g h
  | q _ => exact g h
  | lk _ => exact g h
  | xr _ => exact g h
theorem se_meth {r : V → List V → Hp → VK → Prop} {f : Env → List A → A → List A → Rs A} {to : TE} {ta : TA} {mo : ME} {ma : MA} (s : SM K B W r f) (ho : SE K B W to mo) (ha : SA K B W ta ma) : SE K B W (tBM K "list" r to ta) (mMeth f mo ma) := by
  intro σ env ts te H Q R p
  refine ho.thE R p fun o e p v H1 R1 => ?_
  split at p
  · rename_i il
    refine ⟨isL_ty R1 il, ?_⟩
    refine ha σ e (v :: ts) (o :: te) H1 _ R1 ?_
    cases q : ma e (o :: te) with
    | ok as e2 =>
      rw [q] at p
      intro vs H2 hl R2
      exact s σ e2 ts te H2 Q v vs o as hl R2 p
    | ex x e2 => rw [q] at p; exact XPost.push p v o
    | bad => rw [q] at p; exact p
  · exact False.elim p
theorem se_meth0 {r : V → List V → Hp → VK → Prop} {f : Env → List A → A → List A → Rs A} {to : TE} {mo : ME} (s : SM K B W r f) (ho : SE K B W to mo) : SE K B W (tBM0 K "list" r to) (mMeth f mo mNil) := by
  intro σ env ts te H Q R p
  refine ho.thE R p fun o e p v H1 R1 => ?_
  split at p
  · rename_i il
    exact ⟨isL_ty R1 il, s σ e ts te H1 Q v [] o [] rfl R1 p⟩
  · exact False.elim p
/-- one list changed -/
theorem mutL_ok {σ : L2.St} {env : Env} {ts : List V} {te : List A} {F H : Hp} {O : Addr → Option Nat} {Q : VK} {v : V} {o : A} {g : List Dt → Option (Dt × List Dt)} (R : RelF K B F O σ env (v :: ts) (o :: te) H) (p : PE' K B W σ ts te Q (mutL env te o g)) :
    ∃ q us xs, v = .ref q ∧ H q = some (.lst us) ∧ DnAll K F us xs ∧ ∃ r ys, g xs = some (r, ys) ∧ ∀ w us', Dn K F w r → DnAll K F us' ys → Q w (upd H q (.lst us')) := by
  unfold mutL at p
  cases o with
  | rf i pt =>
    simp only at p
    cases e : (A.rf i pt).ow env with
    | none => simp only [e] at p; exact False.elim p
    | some u =>
      cases u with
      | l xs =>
        simp only [e] at p
        split at p
        · rename_i cn
          cases eg : g xs with
          | none => simp only [eg] at p; exact False.elim p
          | some ry =>
            obtain ⟨r, ys⟩ := ry
            simp only [eg] at p
            cases es : setP env i pt ys with
            | none => simp only [es] at p; exact False.elim p
            | some e' =>
              simp only [es] at p
              obtain ⟨O1, R1, _, pr⟩ := args_cells (us := [v]) (ue := [.rf i pt]) rfl (fun a ha => by rw [List.mem_singleton.mp ha]; rfl) R
              cases pr with
              | cons c _ =>
                obtain ⟨q, us, ev, hq, d, k⟩ := rel_mutP R1 c e (fun z => by
                  rcases cn with z2 | z2
                  · rw [z] at z2; cases z2
                  · exact z2)
                exact ⟨q, us, xs, ev, hq, d, r, ys, eg, fun w us' hw d' => p _ _ ((k us' ys e' d' es).pushD hw)⟩
        · exact False.elim p
      | ll _ => simp only [e] at p; exact False.elim p
      | dc _ => simp only [e] at p; exact False.elim p
      | dl _ => simp only [e] at p; exact False.elim p
      | x _ => simp only [e] at p; exact False.elim p
  | d _ => exact False.elim p
  | own _ => exact False.elim p
  | io _ => exact False.elim p
  | sc _ => exact False.elim p
  | q _ => exact False.elim p
  | lk _ => exact False.elim p
  | xr _ => exact False.elim p
theorem sm_app : SM K B W rAppend appA := by
  intro σ env ts te H Q v vs o as hl R p
  unfold appA at p
  split at p
  · rename_i y e
    obtain ⟨F, O, R2, d⟩ := args_dn hl R e
    cases d with
    | cons hy d =>
      cases d
      obtain ⟨q, us, xs, rfl, hq, dx, r, ys, eg, k⟩ := mutL_ok R2 p
      try dsimp only at eg
      split at eg
      · rename_i hz
        cases eg
        exact ⟨q, us, _, rfl, rfl, hq, by rw [dx.length]; exact hz, k _ _ .non (dx.app (.cons hy .nil))⟩
      · cases eg
  · exact False.elim p
def rExtU (K : PySem.W.Frag) : V → List V → Hp → VK → Prop := fun x vs H Q => rExtend x vs H Q ∨ rExtendT K x vs H Q
theorem mt_extU {X : Cx} : MtR X "list.extend" (rExtU X.K) := by
  intro pins s σ H x xs v us Q I rx rs h
  rcases h with h | h
  · exact mt_extend pins s σ H x xs v us Q I rx rs h
  · exact mt_extendT pins s σ H x xs v us Q I rx rs h
theorem sm_ext : SM K B W (rExtU K) extA := by
  intro σ env ts te H Q v vs o as hl R p
  unfold extA at p
  split at p
  · rename_i y e
    obtain ⟨F, O, R2, d⟩ := args_dn hl R e
    cases es : seqD y with
    | none => simp only [es] at p; exact False.elim p
    | some zs =>
      simp only [es] at p
      cases d with
      | cons hy d =>
        cases d
        obtain ⟨q, us, xs, rfl, hq, dx, r, ys, eg, k⟩ := mutL_ok R2 p
        try dsimp only at eg
        split at eg
        · rename_i hz
          cases eg
          cases hy with
          | lst h1 d1 =>
            cases es
            exact .inl ⟨q, _, us, _, rfl, rfl, hq, R2.sf _ _ h1, by rw [dx.length, d1.length]; exact hz, k _ _ .non (dx.app d1)⟩
          | tup h1 d1 =>
            cases es
            exact .inr ⟨q, _, us, _, rfl, rfl, hq, Same.sqT' R2.sf h1.sq, by rw [dx.length, d1.length]; exact hz, k _ _ .non (dx.app d1)⟩
          | _ => cases es
        · cases eg
  · exact False.elim p
theorem sm_ins : SM K B W rInsert insA := by
  intro σ env ts te H Q v vs o as hl R p
  unfold insA at p
  split at p
  · rename_i i y e
    obtain ⟨F, O, R2, d⟩ := args_dn hl R e
    cases d with
    | cons hi d =>
      cases d with
      | cons hy d =>
        cases d
        cases hi
        obtain ⟨q, us, xs, rfl, hq, dx, r, ys, eg, k⟩ := mutL_ok R2 p
        try dsimp only at eg
        split at eg
        · rename_i hz
          cases eg
          exact ⟨q, us, i, _, rfl, rfl, hq, by rw [dx.length]; exact hz.1, hz.2.1, hz.2.2, k _ _ .non (((dx.take _).app (.cons hy .nil)).app (dx.drop _))⟩
        · cases eg
  · exact False.elim p
theorem DnAll.dropLast {F : Hp} {vs : List V} {xs : List Dt} (d : DnAll K F vs xs) : DnAll K F vs.dropLast xs.dropLast := by
  rw [List.dropLast_eq_take, List.dropLast_eq_take, d.length]
  exact d.take _
theorem sm_pop : SM K B W rPop popA := by
  intro σ env ts te H Q v vs o as hl R p
  unfold popA at p
  split at p
  · have : vs = [] := List.length_eq_zero_iff.mp hl
    subst this
    obtain ⟨F, O, R⟩ := R
    obtain ⟨q, us, xs, rfl, hq, dx, r, ys, eg, k⟩ := mutL_ok R p
    try dsimp only at eg
    split at eg
    · rename_i y hy
      cases eg
      rw [← dx.length] at hy
      obtain ⟨w, hw, dw⟩ := dx.get hy
      exact ⟨q, us, w, rfl, rfl, hq, hw, k w _ dw dx.dropLast⟩
    · cases eg
  · exact False.elim p
theorem DnAll.erase {F : Hp} : ∀ {vs : List V} {xs : List Dt} (n : Nat), DnAll K F vs xs → DnAll K F (vs.eraseIdx n) (xs.eraseIdx n)
  | _, _, _, .nil => .nil
  | _, _, 0, .cons _ hs => hs
  | _, _, n + 1, .cons h hs => .cons h (DnAll.erase n hs)
/-! ### t.index(x) -/
/-! ### xs[i] = v -/
def setLA (e : Env) (te : List A) (o b a : A) : Option Env := match a with
  | .d y => (match b.val e with
    | some (.int i) => (match mutL e te o (fun xs => match ixN xs.length i with | some j => some (.none, xs.set j y) | none => none) with
      | .ok _ e' => some e'
      | _ => none)
    | _ => none)
  | _ => none
def mSetL (mv mo mi : ME) : MS := fun env te => (mv env te).fl fun a e => (mo e (a :: te)).fl fun o e1 => (mi e1 (o :: a :: te)).fl fun b e2 => match setLA e2 te o b a with
  | some e' => .nx e'
  | none => .bad
theorem SE.thS1 {t : TE} {m : ME} (h : SE K B W t m) {σ : L2.St} {env : Env} {ts : List V} {te : List A} {H : Hp} {Q : VK} {D : Ends} {v : V} {a : A} (R : Rel K B σ env (v :: ts) (a :: te) H) {f : A → Env → Fl} (p : PS' K B W ts te D ((m env (a :: te)).fl f))
    (hok : ∀ b e, PS' K B W ts te D (f b e) → ∀ w H', Rel K B σ e (w :: v :: ts) (b :: a :: te) H' → Q w H') : t σ H Q := by
  refine h σ env _ _ H Q R ?_
  cases e : m env (a :: te) with
  | ok b e' => rw [e] at p; exact hok b e' p
  | ex x e' => rw [e] at p; exact XPost.push (p σ) v a
  | bad => rw [e] at p; exact p
theorem SE.thS2 {t : TE} {m : ME} (h : SE K B W t m) {σ : L2.St} {env : Env} {ts : List V} {te : List A} {H : Hp} {Q : VK} {D : Ends} {v u : V} {a b : A} (R : Rel K B σ env (u :: v :: ts) (b :: a :: te) H) {f : A → Env → Fl} (p : PS' K B W ts te D ((m env (b :: a :: te)).fl f))
    (hok : ∀ c e, PS' K B W ts te D (f c e) → ∀ w H', Rel K B σ e (w :: u :: v :: ts) (c :: b :: a :: te) H' → Q w H') : t σ H Q := by
  refine h σ env _ _ H Q R ?_
  cases e : m env (b :: a :: te) with
  | ok b e' => rw [e] at p; exact hok b e' p
  | ex x e' => rw [e] at p; exact XPost.push (XPost.push (p σ) v a) u b
  | bad => rw [e] at p; exact p
theorem ss_setL {tv to ti : TE} {mv mo mi : ME} (hv : SE K B W tv mv) (ho : SE K B W to mo) (hi : SE K B W ti mi) : SS K B W (tAsg tv (gSub to ti rSetL)) (mSetL mv mo mi) := by
  intro σ env ts te H D R p
  refine hv.thS R p fun a e p v H1 R1 => ?_
  refine ho.thS1 R1 p fun o e1 p u H2 R2 => ?_
  refine hi.thS2 R2 p fun b e2 p w H3 R3 => ?_
  obtain ⟨F, O, R3⟩ := R3
  cases q : setLA e2 te o b a with
  | none => simp only [q] at p; exact False.elim p
  | some e' =>
    simp only [q] at p
    have p9 : ∀ σ H, Rel K B σ e' ts te H → D.nx σ H := p
    have ha : ∃ y, a = .d y := by
      cases a with
      | d y => exact ⟨y, rfl⟩
      | _ => cases q
    obtain ⟨y, rfl⟩ := ha
    have hb : ∃ i, b.val e2 = some (.int i) := by
      unfold setLA at q
      cases eb : b.val e2 with
      | none => simp only [eb] at q; cases q
      | some x =>
        cases x with
        | int i => exact ⟨i, rfl⟩
        | _ => simp only [eb] at q; cases q
    obtain ⟨i, eb⟩ := hb
    unfold setLA at q
    simp only [eb] at q
    · have cb := cell_val R3 R3.tm.1 eb
      cases cb
      have hy : Dn K F v y := R3.tm.2.2.1
      have R5 := R3.pop.mid (by
        cases o with
        | io _ => exact False.elim (by unfold mutL at q; cases q)
        | _ => rfl)
      cases q2 : mutL e2 te o (fun xs => match ixN xs.length i with | some j => some (.none, xs.set j y) | none => none) with
      | ok r e'' =>
        rw [q2] at q
        cases q
        obtain ⟨z, us, xs, ez, hz, dx, r, ys, eg, k⟩ := mutL_ok (Q := fun _ H' => D.nx σ H') (W := W) R5 (by rw [q2]; exact fun w H' R' => p9 σ H' R'.pop)
        cases en : ixN xs.length i with
        | none => simp only [en] at eg; cases eg
        | some n =>
          simp only [en] at eg
          cases eg
          exact ⟨z, us, i, n, ez, rfl, hz, by rw [dx.length]; exact en, k _ _ .non (dx.set n hy)⟩
      | ex x e'' => rw [q2] at q; cases q
      | bad => rw [q2] at q; cases q
end
end Tw

namespace Tw
open PySem PySem.Spec PyProof.Rows L2
/-! ### what is walked -/
def iSeq (K : PySem.W.Frag) (t : TE) : TI := fun σ H R => t σ H fun x H1 => (∃ a, x = .ref a ∧ (∃ xs, SqL K H1 a xs) ∧ R (Itl K a) H1) ∨ (∃ a, x = .ref a ∧ (∃ xs, SqT K H1 a xs) ∧ R (Itt K a) H1) ∨ ∃ z, x = .str z ∧ R (Its z) H1
theorem pi_seq {X : Cx} {tg l : Expr} {tl : TE} (hl : PE X l tl) : PI X tg l (iSeq X.K tl) := by
  refine ⟨fun pins s σ H R I h => ?_⟩
  refine thn (hl.run pins s σ H _ I h) fun v s1 ⟨x, H1, I1, r1, q1⟩ => ?_
  rcases q1 with ⟨a, e, ⟨xs, hq⟩, q⟩ | ⟨a, e, ⟨xs, hq⟩, q⟩ | ⟨z, e, q⟩
  · subst e
    cases r1
    obtain ⟨its, rv, p, hz⟩ := I1.list hq
    refine wpAny_pyIter_list p.isList ?_
    refine ⟨s1.heap.objs.size, [s1.heap.objs.size], _, _, H1, rfl, I1.kept (t' := s1.toks) fun b o e => Heap.get?_push_of_some _ e, turn_list a _, ⟨_, Heap.get?_push_size _ rfl, rfl, rfl⟩, fun b hb => ?_, q⟩
    have e : b = s1.heap.objs.size := by simpa using hb
    subst e
    exact I1.fpOk (Nat.le_refl _) (I1.hok.fresh (Nat.le_refl _))
  · subst e
    cases r1
    obtain ⟨its, rv, p, hz⟩ := I1.tuple hq
    refine wpAny_pyIter_tuple (show s1.heap.IsTuple a its.toArray from p) ?_
    refine ⟨s1.heap.objs.size, [s1.heap.objs.size], _, _, H1, rfl, I1.kept (t' := s1.toks) fun b o e => Heap.get?_push_of_some _ e, turn_tuple a _, ⟨_, Heap.get?_push_size _ rfl, rfl, rfl⟩, fun b hb => ?_, q⟩
    have e : b = s1.heap.objs.size := by simpa using hb
    subst e
    exact I1.fpOk (Nat.le_refl _) (I1.hok.fresh (Nat.le_refl _))
  · subst e
    obtain ⟨t, rfl⟩ := r1
    cases ha : z.cps.all (· < 128)
    · exact wpAny_pyIter_wide ha (pi_one (tk := s1.toks) I1 _ (turn_str _ z t "str_iterator" (.inr rfl)) ⟨_, Heap.get?_push_size _ rfl, rfl, rfl⟩ q)
    · exact wpAny_pyIter_ascii ha (pi_one (tk := s1.toks) I1 _ (turn_str _ z t "str_ascii_iterator" (.inl rfl)) ⟨_, Heap.get?_push_size _ rfl, rfl, rfl⟩ q)
/-- the items of a list, a tuple, a text -/
def chD (z : Str) : List Dt := z.cps.toList.map fun c => .str ⟨#[c]⟩
def A.seq? (env : Env) (a : A) : Option (List Dt) := match a with
  | .d (.str z) => some (chD z)
  | a => match a.tup? with
    | some xs => some xs
    | none => a.lst? env
theorem seq_lst {env : Env} {a : A} (h : a.tup? = none) (nz : ∀ z, a ≠ .d (.str z)) : a.seq? env = a.lst? env := by
  cases a with
  | d x =>
    cases x with
    | str z => exact absurd rfl (nz z)
    | tuple xs => cases h
    | _ => rfl
  | q xs => cases h
  | _ => rfl
theorem seq_tup {env : Env} {a : A} {ys : List Dt} (h : a.tup? = some ys) : a.seq? env = some ys := by
  cases a with
  | d x =>
    cases x with
    | tuple xs => cases h; rfl
    | _ => cases h
  | q xs => cases h; rfl
  | _ => cases h
def mSeqI (m : ME) : MI := fun env te => (m env te).bind fun a e => match a.seq? e with
  | some _ => .ok ([a], fun env => a.seq? env) e
  | none => .bad
def intsD (lo : Int) (n : Nat) : List Dt := (List.range n).map fun (i : Nat) => .int (lo + i)
def mRng1 (m : ME) : MI := fun env te => (m env te).bind fun a e => match a with
  | .d (.int j) => if -(2 ^ 62) ≤ j ∧ j < 2 ^ 62 then .ok ([], fun _ => some (intsD 0 j.toNat)) e else .bad
  | _ => .bad
def mRng2 (ma mb : ME) : MI := fun env te => (ma env te).bind fun a e => (mb e (a :: te)).bind fun b e2 => match a, b with
  | .d (.int i), .d (.int j) => if -(2 ^ 62) ≤ i ∧ i < 2 ^ 62 ∧ -(2 ^ 62) ≤ j ∧ j < 2 ^ 62 then .ok ([], fun _ => some (intsD i (j - i).toNat)) e2 else .bad
  | _, _ => .bad
def enumD (xs : List Dt) : List Dt := xs.zipIdx.map fun q => .tuple [.int q.2, q.1]
def mEnT (m : ME) : MI := fun env te => (m env te).bind fun a e => match a.tup? with
  | some xs => .ok ([a], fun _ => some (enumD xs)) e
  | none => .bad
def mEnL (m : ME) : MI := fun env te => (m env te).bind fun a e => match a.lst? e with
  | some xs => .ok ([a], fun env => (a.lst? env).map enumD) e
  | none => .bad
section
variable {K : KW} {B : Bs} {W : WX}
theorem wd_cell {σ : L2.St} {env : Env} {us ts : List V} {ue te : List A} {H : Hp} {v0 : V} {a0 : A} (hl : us.length = ue.length) (R : Rel K B σ env (us ++ ([v0] ++ ts)) (ue ++ ([a0] ++ te)) H) :
    ∃ F O j, RelF K B F O σ env (us ++ ([v0] ++ ts)) (ue ++ ([a0] ++ te)) H ∧ CellO K B F H O σ j v0 a0 := by
  obtain ⟨F, O, R⟩ := R
  have : ∀ {us : List V} {ue : List A}, us.length = ue.length → TmO K B F H O σ (us ++ (v0 :: ts)) (ue ++ (a0 :: te)) → ∃ j, CellO K B F H O σ j v0 a0 := by
    intro us
    induction us with
    | nil => intro ue hl h; cases ue with
      | nil => exact ⟨_, h.1⟩
      | cons => cases hl
    | cons u us ih => intro ue hl h; cases ue with
      | nil => cases hl
      | cons x ue => exact ih (Nat.succ.inj hl) h.2
  obtain ⟨j, c⟩ := this hl R.tm
  exact ⟨F, O, j, R, c⟩
theorem si_seq {t : TE} {m : ME} (h : SE K B W t m) : SI K B W .d (iSeq K t) (mSeqI m) := by
  intro σ env ts te H R0 R p
  refine h σ env ts te H _ R ?_
  have p : PI' K B W .d σ ts te R0 ((m env te).bind fun a e => match a.seq? e with | some _ => .ok ([a], fun env => a.seq? env) e | none => .bad) := p
  cases q : m env te with
  | ex x e => rw [q] at p; exact p
  | bad => rw [q] at p; exact p
  | ok a e =>
    rw [q] at p
    simp only [Rs.bind_ok] at p
    intro v H1 R1
    cases es : a.seq? e with
    | none => simp only [es] at p; exact False.elim p
    | some xs =>
      simp only [es] at p
      have fin : ∀ J, WDk K B .d J [a] [v] (fun env => a.seq? env) → R0 J H1 := fun J wd => p J [v] H1 rfl R1 wd
      -- what kind of thing it is
      have lst : ∀ (ys : List Dt), a.tup? = none → (∀ z, a ≠ .d (.str z)) → a.lst? e = some ys → (∃ b, v = .ref b ∧ (∃ xs, SqL K H1 b xs) ∧ R0 (Itl K b) H1) := fun ys ht hz e1 => by
        obtain ⟨F1, O1, R1⟩ := R1
        obtain ⟨b, vs, rfl, sq, d⟩ := cell_lst R1 R1.tm.1 e1
        refine ⟨b, rfl, ⟨vs, sq⟩, fin _ ?_⟩
        intro i σ2 env2 us ue ts2 te2 H2 xs2 hl R2 hrd
        obtain ⟨F2, O2, j2, R2, c2⟩ := wd_cell hl R2
        have hrd : a.lst? env2 = some xs2 := by
          have z : a.seq? env2 = a.lst? env2 := seq_lst ht hz
          rw [← z]; exact hrd
        obtain ⟨b2, vs2, e2, sq2, d2⟩ := cell_lst R2 c2 hrd
        cases e2
        refine ⟨fun hi => ?_, fun x hx => ?_⟩
        · rw [hi, ← d2.length]; exact (walk_list (xs := vs2)).stops H2 sq2
        · have il := (List.getElem?_eq_some_iff.mp hx).1
          refine ⟨(walk_list (xs := vs2)).goes i H2 (by rw [d2.length]; exact il) sq2, fun w H3 hy => ?_⟩
          obtain ⟨rfl, hw⟩ := (walk_list (xs := vs2)).yields i H2 w H3 (by rw [d2.length]; exact il) sq2 hy
          obtain ⟨x', hx', dw⟩ := d2.getV hw
          rw [hx] at hx'
          cases hx'
          exact R2.pushD dw
      have tup : ∀ (ys : List Dt), a.tup? = some ys → (∃ b, v = .ref b ∧ (∃ xs, SqT K H1 b xs) ∧ R0 (Itt K b) H1) := fun ys e1 => by
        obtain ⟨F1, O1, R1⟩ := R1
        obtain ⟨b, vs, rfl, sq, _, d⟩ := cell_tup R1 R1.tm.1 e1
        refine ⟨b, rfl, ⟨vs, sq⟩, fin _ ?_⟩
        intro i σ2 env2 us ue ts2 te2 H2 xs2 hl R2 hrd
        obtain ⟨F2, O2, j2, R2, c2⟩ := wd_cell hl R2
        have hrd : ys = xs2 := by
          have z : a.seq? env2 = some ys := seq_tup e1
          have hrd : a.seq? env2 = some xs2 := hrd
          rw [z] at hrd
          exact Option.some.inj hrd
        subst hrd
        obtain ⟨b2, vs2, e2, sq2, _, d2⟩ := cell_tup R2 c2 e1
        cases e2
        refine ⟨fun hi => ?_, fun x hx => ?_⟩
        · rw [hi, ← d2.length]; exact (walk_tup (xs := vs2)).stops H2 sq2
        · have il := (List.getElem?_eq_some_iff.mp hx).1
          refine ⟨(walk_tup (xs := vs2)).goes i H2 (by rw [d2.length]; exact il) sq2, fun w H3 hy => ?_⟩
          obtain ⟨rfl, hw⟩ := (walk_tup (xs := vs2)).yields i H2 w H3 (by rw [d2.length]; exact il) sq2 hy
          obtain ⟨x', hx', dw⟩ := d2.getV hw
          rw [hx] at hx'
          cases hx'
          exact R2.pushD dw
      by_cases hz : ∃ z, a = .d (.str z)
      · obtain ⟨z, rfl⟩ := hz
        obtain ⟨F1, O1, R1⟩ := R1
        have c : Dn K F1 v (.str z) := R1.tm.1
        cases c with
        | str _ hzl =>
          refine .inr (.inr ⟨z, rfl, fin _ ?_⟩)
          intro i σ2 env2 us ue ts2 te2 H2 xs2 hl R2 hrd
          have hrd : chD z = xs2 := Option.some.inj hrd
          subst hrd
          have ln : (chD z).length = z.cps.size := by unfold chD; rw [List.length_map, Array.length_toList]
          refine ⟨fun hi => ?_, fun x hx => ?_⟩
          · rw [hi, ln]; exact walk_str.stops H2 trivial
          · have il := (List.getElem?_eq_some_iff.mp hx).1
            rw [ln] at il
            refine ⟨walk_str.goes i H2 il trivial, fun w H3 hy => ?_⟩
            obtain ⟨rfl, c, hc, rfl⟩ := walk_str.yields i H2 w H3 il trivial hy
            have : x = .str ⟨#[c]⟩ := by
              unfold chD at hx
              rw [List.getElem?_map, Array.getElem?_toList, hc] at hx
              exact (Option.some.inj hx).symm
            subst this
            obtain ⟨F2, O2, R2⟩ := R2
            exact R2.pushD (.str _ (by show (1 : Nat) ≤ sizeLine; decide))
      · have nz : ∀ z, a ≠ .d (.str z) := fun z e => hz ⟨z, e⟩
        cases et : a.tup? with
        | some ys => exact .inr (.inl (tup ys et))
        | none =>
          have : a.lst? e = some xs := by
            have z : a.seq? e = a.lst? e := seq_lst et nz
            rw [← z]; exact es
          exact .inl (lst xs et nz this)
theorem wd_rng {lo : Int} {n : Nat} : WDk K B .d (Itr lo n) [] [] (fun _ => some (intsD lo n)) := by
  intro i σ2 env2 us ue ts2 te2 H2 xs2 hl R2 hrd
  cases hrd
  have ln : (intsD lo n).length = n := by unfold intsD; rw [List.length_map, List.length_range]
  refine ⟨fun hi => ?_, fun x hx => ?_⟩
  · rw [hi, ln]; exact walk_range.stops H2 trivial
  · have il := (List.getElem?_eq_some_iff.mp hx).1
    rw [ln] at il
    refine ⟨walk_range.goes i H2 il trivial, fun w H3 hy => ?_⟩
    obtain ⟨rfl, rfl⟩ := walk_range.yields i H2 w H3 il trivial hy
    have : x = .int (lo + i) := by
      unfold intsD at hx
      rw [List.getElem?_map, List.getElem?_range il] at hx
      exact (Option.some.inj hx).symm
    subst this
    obtain ⟨F2, O2, R2⟩ := R2
    exact R2.pushD (.int _)
theorem si_rng1 {t : TE} {m : ME} (h : SE K B W t m) : SI K B W .d (iRng1 (tCons t tNil)) (mRng1 m) := by
  intro σ env ts te H R0 R p
  refine h σ env ts te H _ R ?_
  have p : PI' K B W .d σ ts te R0 ((m env te).bind fun a e => match a with | .d (.int j) => if -(2 ^ 62) ≤ j ∧ j < 2 ^ 62 then .ok ([], fun _ => some (intsD 0 j.toNat)) e else .bad | _ => .bad) := p
  cases q : m env te with
  | ex x e => rw [q] at p; exact p
  | bad => rw [q] at p; exact p
  | ok a e =>
    rw [q] at p
    simp only [Rs.bind_ok] at p
    intro v H1 R1
    split at p
    · rename_i j
      split at p
      · rename_i hj
        obtain ⟨F1, O1, R1⟩ := R1
        have c : Dn K F1 v (.int j) := R1.tm.1
        cases c
        exact ⟨j, rfl, hj.1, hj.2, p _ [] H1 rfl R1.pop.rel wd_rng⟩
      · exact False.elim p
    · exact False.elim p
end
end Tw

namespace Tw
open PySem PySem.Spec PyProof.Rows L2
/-! ### an expression that changes nothing -/
def viewA (env : Env) : A → Option A
  | .d x => some (.d x)
  | .sc ns => some (.sc ns)
  | .q xs => some (.q xs)
  | .lk kvs => some (.d (.dict kvs))
  | .xr _ => none
  | .own o => o.dt.map .d
  | .io o => o.dt.map .d
  | .rf i p => ((A.rf i p).val env).map .d
def viewE (env : Env) : Env := env.map fun c => c.bind (viewA env)
def mPure (m : ME) : ME := fun env _ => match m (viewE env) [] with
  | .ok (.d x) _ => if tupD x = true then .ok (.d x) env else .bad
  | .ok (.own o) _ => if o.tup = true then .ok (.own o) env else .bad
  | _ => .bad
/-- the slot j holds a dict -/
def isDict (env : Env) (j : Nat) : Bool := match env[j]? with
  | some (some (.d (.dict _))) => true
  | _ => match owAt env j with
    | some (.dc _) => true
    | some (.dl _) => true
    | _ => false
def mPureK (j : Nat) (m : ME) : ME := fun env te => if isDict env j = true then mPure m env te else .bad
def tLkS (t : TS) : TS := fun D σ H => tLock t D σ H ∨ t D σ H
theorem ps_lkU {X : Cx} {e : Stmt} {t : TS} (h1 : PS X e (tLock t)) (h2 : PS X e t) : PS X e (tLkS t) := ⟨fun pins s σ H D I h => by
  rcases h with h | h
  · exact h1.run pins s σ H D I h
  · exact h2.run pins s σ H D I h⟩
section
variable {K : KW} {B : Bs} {W : WX}
section
variable {F : Hp} {a : Addr} {od : Obj} {us : List (Key × V)}
mutual
theorem Dn.lock (h : F a = some (.dK us)) : ∀ {v : V} {d : Dt}, Dn K F v d → Dn K (upd F a (.frz od (.dK us))) v d
  | _, _, .non => .non
  | _, _, .bl b => .bl b
  | _, _, .int i => .int i
  | _, _, .str x h => .str x h
  | _, _, .lst g hs => .lst (by rw [upd_ne (fun z => by rw [z, h] at g; cases g)]; exact g) (DnAll.lock h hs)
  | _, _, .tup g hs => .tup (by
      rcases g with ⟨ob, g, d⟩ | g
      · exact .inl ⟨ob, by rw [upd_ne (fun z => by rw [z, h] at g; cases g)]; exact g, d⟩
      · exact .inr g) (DnAll.lock h hs)
  | _, _, .dct (a := b) (kvs := kvs) g hs => .dct (by
      by_cases e : b = a
      · subst e
        rcases g with g | ⟨o, g⟩
        · rw [h] at g
          cases g
          exact .inr ⟨od, upd_same⟩
        · rw [h] at g; cases g
      · rcases g with g | ⟨o, g⟩
        · exact .inl (by rw [upd_ne e]; exact g)
        · exact .inr ⟨o, by rw [upd_ne e]; exact g⟩) (DnKs.lock h hs)
theorem DnAll.lock (h : F a = some (.dK us)) : ∀ {vs : List V} {ds : List Dt}, DnAll K F vs ds → DnAll K (upd F a (.frz od (.dK us))) vs ds
  | _, _, .nil => .nil
  | _, _, .cons g hs => .cons (Dn.lock h g) (DnAll.lock h hs)
theorem DnKs.lock (h : F a = some (.dK us)) : ∀ {vs : List (Key × V)} {ds : List (Dt × Dt)}, DnKs K F vs ds → DnKs K (upd F a (.frz od (.dK us))) vs ds
  | _, _, .nil => .nil
  | _, _, .cons g hs => .cons (Dn.lock h g) (DnKs.lock h hs)
end
end
section
variable {F H : Hp} {O : Addr → Option Nat} {σ : List (Option V)} {env : Env} {ts : List V} {te : List A}
open Classical in
/-- all that is known, as data -/
noncomputable def vwF (F H : Hp) (O : Addr → Option Nat) : Hp := fun b => if O b ≠ none then H b else F b
theorem vwF_same (R : RelF K B F O σ env ts te H) : Same F (vwF F H O) := fun b o e => by
  unfold vwF
  rw [if_neg]
  · exact e
  · intro z
    cases q : O b with
    | none => exact z q
    | some j => rw [(R.of b j q).1] at e; cases e
theorem vwF_own {b : Addr} {j : Nat} (z : O b = some j) : vwF F H O b = H b := by
  unfold vwF
  exact if_pos (by rw [z]; exact nofun)
theorem vwF_sub (R : RelF K B F O σ env ts te H) : Same (vwF F H O) H := fun b o e => by
  unfold vwF at e
  split at e
  · exact e
  · exact R.sf b o e
theorem view_cell (R : RelF K B F O σ env ts te H) {i : Nat} {v : V} {a c : A} (h : CellO K B F H O σ i v a) (hv : viewA env a = some c) : (∃ x, c = .d x ∧ Dn K (vwF F H O) v x) ∨ (∃ ns, c = .sc ns ∧ ∃ p, v = .ref p ∧ SqL K F p (ns.map V.int)) ∨
    ∃ xs, c = .q xs ∧ ∃ p vs, v = .ref p ∧ SqT K F p vs ∧ DnAll K F vs xs := by
  cases a with
  | d x => cases hv; exact .inl ⟨x, rfl, Dn.same (vwF_same R) h⟩
  | sc ns => cases hv; exact .inr (.inl ⟨ns, rfl, h⟩)
  | q xs => cases hv; exact .inr (.inr ⟨xs, rfl, h⟩)
  | lk kvs =>
    cases hv
    obtain ⟨a, o, us, e, q, d⟩ := h
    subst e
    exact .inl ⟨_, rfl, .dct (.inr ⟨o, vwF_same R _ _ (R.b1 _ _ q)⟩) (d.same (R.b1.trans (vwF_same R)))⟩
  | xr x => cases hv
  | own o =>
    have hv : o.dt.map A.d = some c := hv
    cases hd : o.dt with
    | none => rw [hd] at hv; cases hv
    | some d => rw [hd] at hv; cases hv; exact .inl ⟨_, rfl, OwO.dn (own := fun a => O a = some i ∧ B.H a = none) (vwF_same R) (fun a z => vwF_own z.1) h hd⟩
  | io o =>
    have hv : o.dt.map A.d = some c := hv
    cases hd : o.dt with
    | none => rw [hd] at hv; cases hv
    | some d => rw [hd] at hv; cases hv; exact .inl ⟨_, rfl, OwO.dn (own := fun a => O a = some i) (vwF_same R) (fun a z => vwF_own z) h.1 hd⟩
  | rf j p =>
    have hv : ((A.rf j p).val env).map A.d = some c := hv
    cases q : (A.rf j p).ow env with
    | none =>
      have q2 : (A.rf j p).val env = none := by show ((A.rf j p).ow env).bind Ow.dt = none; rw [q]; rfl
      rw [q2] at hv; cases hv
    | some o =>
      have q2 : (A.rf j p).val env = o.dt := by show ((A.rf j p).ow env).bind Ow.dt = o.dt; rw [q]; rfl
      rw [q2] at hv
      cases hd : o.dt with
      | none => rw [hd] at hv; cases hv
      | some d =>
        rw [hd] at hv
        cases hv
        exact .inl ⟨_, rfl, OwO.dn (own := fun a => O a = some j) (vwF_same R) (fun a z => vwF_own z) (cell_rf R h q) hd⟩
theorem view_get {i : Nat} {c : A} (h : (viewE env)[i]? = some (some c)) : ∃ a, env[i]? = some (some a) ∧ viewA env a = some c := by
  unfold viewE at h
  rw [List.getElem?_map] at h
  cases q : env[i]? with
  | none => rw [q] at h; cases h
  | some oa =>
    rw [q] at h
    cases oa with
    | none => cases h
    | some a => exact ⟨a, rfl, Option.some.inj h⟩
def vwB (H F : Hp) : Bs := ⟨H, F, fun _ => none, [], fun _ => false, (0, .none, none)⟩
theorem vwF_tab (R : RelF K B F O σ env ts te H) {p : Addr × Str} (hp : p ∈ K.T) : vwF F H O p.1 = none := by
  unfold vwF
  rw [if_neg (by rw [(R.tabO hp).1]; exact fun z => z rfl)]
  exact R.noF hp
theorem view_rel (R : RelF K B F O σ env ts te H) : RelF K (vwB H (vwF F H O)) (vwF F H O) (fun _ => none) σ (viewE env) [] [] H := by
  refine ⟨by unfold viewE; rw [List.length_map]; exact R.ln, fun i c e => ?_, trivial, vwF_sub R, fun b j z => (nomatch z), Same.refl _, fun b o _ _ e => e, fun b h1 h2 => absurd h1 h2, fun b h => h, (fun i h => nomatch h), fun p hp => ⟨vwF_tab R hp, (R.tabO hp).2, rfl⟩, R.tb.2⟩
  obtain ⟨a, ea, hv⟩ := view_get e
  obtain ⟨v, hvs, h⟩ := R.sl i a ea
  refine ⟨v, hvs, ?_⟩
  rcases view_cell R h hv with ⟨x, rfl, d⟩ | ⟨ns, rfl, p, e1, d⟩ | ⟨xs, rfl, p, vs, e1, s, d⟩
  · exact d
  · exact ⟨p, e1, Same.sqL (vwF_same R) d⟩
  · exact ⟨p, vs, e1, Same.sqT' (vwF_same R) s, d.same (vwF_same R)⟩
theorem view_lock (R : RelF K B F O σ env ts te H) {a : Addr} {us : List (Key × V)} (od : Obj) (ha : vwF F H O a = some (.dK us)) :
    RelF K (vwB (upd H a (.frz od (.dK us))) (upd (vwF F H O) a (.frz od (.dK us)))) (upd (vwF F H O) a (.frz od (.dK us))) (fun _ => none) σ (viewE env) [] [] (upd H a (.frz od (.dK us))) := by
  have fl : ∀ {p : Addr} {xs : List V}, SqT K F p xs → SqT K (upd (vwF F H O) a (.frz od (.dK us))) p xs := fun {p xs} h => by
    have h := Same.sqT' (vwF_same R) h
    rcases h with (h | ⟨o, h⟩) | h
    · exact .inl (.inl (by rw [upd_ne (fun z => by rw [z, ha] at h; cases h)]; exact h))
    · exact .inl (.inr ⟨o, by rw [upd_ne (fun z => by rw [z, ha] at h; cases h)]; exact h⟩)
    · exact .inr h
  have fl2 : ∀ {p : Addr} {xs : List V}, SqL K F p xs → SqL K (upd (vwF F H O) a (.frz od (.dK us))) p xs := fun {p xs} h => by
    have h := Same.sqL (vwF_same R) h
    rcases h with (h | ⟨o, h⟩) | h
    · exact .inl (.inl (by rw [upd_ne (fun z => by rw [z, ha] at h; cases h)]; exact h))
    · exact .inl (.inr ⟨o, by rw [upd_ne (fun z => by rw [z, ha] at h; cases h)]; exact h⟩)
    · exact .inr h
  refine ⟨by unfold viewE; rw [List.length_map]; exact R.ln, fun i c e => ?_, trivial, fun b o e => ?_, fun b j z => (nomatch z), Same.refl _, fun b o _ _ e => e, fun b h1 h2 => absurd h1 h2, fun b h => h, (fun i h => nomatch h), fun p hp => ?_, ?_⟩
  · obtain ⟨x0, ea, hv⟩ := view_get e
    obtain ⟨v, hvs, h⟩ := R.sl i x0 ea
    refine ⟨v, hvs, ?_⟩
    rcases view_cell R h hv with ⟨x, rfl, d⟩ | ⟨ns, rfl, p, e1, d⟩ | ⟨xs, rfl, p, vs, e1, s, d⟩
    · exact Dn.lock ha d
    · exact ⟨p, e1, fl2 d⟩
    · exact ⟨p, vs, e1, fl s, DnAll.lock ha (d.same (vwF_same R))⟩
  · by_cases eb : b = a
    · subst eb
      rw [upd_same] at e ⊢
      exact e
    · rw [upd_ne eb] at e ⊢
      exact vwF_sub R b o e
  · have hpa : p.1 ≠ a := fun z => by
      have t := vwF_tab R hp
      rw [z, ha] at t
      cases t
    exact ⟨by show upd (vwF F H O) a _ p.1 = none; rw [upd_ne hpa]; exact vwF_tab R hp, by show upd H a _ p.1 ≠ none; rw [upd_ne hpa]; exact (R.tabO hp).2, rfl⟩
  · refine R.tb.2.mono fun b o t z => ?_
    rw [upd_ne]
    · exact z
    · intro e
      rw [e, vwF_sub R _ _ ha] at z
      have z := Option.some.inj z
      rcases t with ⟨ps, rfl⟩ | ⟨c, q, rfl⟩
      · cases z
      · unfold LamX.CodeO at z
        cases z
open Classical in
/-- back from such an expression: a is the locked dict, if there is one -/
theorem view_back (R : RelF K B F O σ env ts te H) {Hx Fx F' H' H2 : Hp} {O' : Addr → Option Nat} {σ' : List (Option V)} {e' : Env} {v : V} {r : A} (hx1 : ∀ b o, Hx b = some o → H b ≠ none) (hx2 : ∀ b, H b ≠ none → Hx b ≠ none)
    (hF : ∀ b ob xs, Fx b = some (.frz ob (.tup xs)) → vwF F H O b = some (.frz ob (.tup xs))) (hF2 : ∀ b xs, Fx b = some (.tup xs) → vwF F H O b = some (.tup xs)) (R' : RelF K (vwB Hx Fx) F' O' σ' e' [v] [r] H')
    (h2a : ∀ b o, H b = some o → (∀ ps, o ≠ .tbl ps) → H2 b = some o) (h2b : ∀ b, H b = none → H2 b = H' b) (h2f : Same F H2) (h2n : ∀ b, H b ≠ none → H2 b ≠ none) (h2t : TabH K H2) :
    (∀ x, r = .d x → tupD x = true → Rel K B σ env (v :: ts) (r :: te) H2) ∧ (∀ o, r = .own o → o.tup = true → Rel K B σ env (v :: ts) (r :: te) H2) := by
  let F2 : Hp := fun b => if H b = none then F' b else F b
  have f2n : ∀ b, H b = none → F2 b = F' b := fun b h => if_pos h
  have f2o : ∀ b, H b ≠ none → F2 b = F b := fun b h => if_neg h
  have RR : RelF K B F2 O σ env ts te H2 := by
    refine R.ext0 (fun b o e => ?_) (fun b o e => ?_) (fun b j z => ?_) (fun b o z n e => h2a b o e n) (fun b h1 h2 => ?_) h2n h2t
    · rw [f2o b (by rw [R.sf b o e]; exact nofun)]; exact e
    · by_cases hb : H b = none
      · rw [f2n b hb] at e
        rw [h2b b hb]
        exact R'.sf b o e
      · rw [f2o b hb] at e
        exact h2f b o e
    · have hm := (R.of b j z).2.1
      refine ⟨?_, by rw [f2o b hm.1]; exact (R.of b j z).1⟩
      cases q : H b with
      | none => exact absurd q hm.1
      | some o => exact h2a b o q fun ps e => hm.2.2.2.2.1 ps (by rw [q, e])
    · by_cases hb : H b = none
      · exact Classical.byContradiction fun z => R.b5 b z hb
      · rw [f2o b hb] at h2; exact absurd h1 h2
  have sub : SubT F' F2 := fun b o e => by
    by_cases hb : H b = none
    · exact .inl (by rw [f2n b hb]; exact e)
    · have key : ∀ u, (∀ (z : vwF F H O b = some u), F b = some u ∨ MutO (some u)) := fun u z => by
        unfold vwF at z
        split at z
        · rename_i hO
          cases q : O b with
          | none => exact absurd q hO
          | some j => exact .inr (by rw [← z]; exact (R.of b j q).2.1)
        · exact .inl z
      have fx : Fx b = some o := by
        cases q : Fx b with
        | none =>
          rcases R'.b3 b q (by rw [e]; exact nofun) with z | z
          · exact absurd z (hx2 b hb)
          · exact absurd rfl z
        | some u =>
          have := R'.b1 b u q
          rw [e] at this
          exact this.symm
      cases o with
      | tup xs =>
        rcases key _ (hF2 b xs fx) with z | z
        · exact .inl (by rw [f2o b hb]; exact z)
        · exact absurd rfl (z.2.1 xs)
      | frz ob u =>
        cases u with
        | tup xs =>
          rcases key _ (hF b ob xs fx) with z | z
          · exact .inl (by rw [f2o b hb]; exact z)
          · exact absurd rfl (z.2.2.1 ob _)
        | _ => exact .inr ⟨fun _ z => (nomatch z), fun _ _ z => nomatch z⟩
      | _ => exact .inr ⟨fun _ z => (nomatch z), fun _ _ z => nomatch z⟩
  refine ⟨fun x e t => ?_, fun o e t => ?_⟩
  · subst e
    exact RR.pushD (Dn.sub sub R'.tm.1 t)
  · subst e
    have own := R'.tm.1
    have hf : ∀ b, (O' b = some (σ'.length + ([] : List V).length) ∧ Hx b = none) → H b = none := fun b z => Classical.byContradiction fun y => hx2 b y z.2
    refine ⟨F2, _, RR.pushOwn (fun b => O' b = some (σ'.length + ([] : List V).length) ∧ Hx b = none) (fun b z => ?_) (OwO.mono (own := fun b => O' b = some (σ'.length + ([] : List V).length) ∧ Hx b = none) (Same.refl F2) (fun b z => z) (fun b z => h2b b (hf b z)) (OwO.sub sub own t))⟩
    have hn := hf b z
    obtain ⟨q1, q2, _, _⟩ := R'.of b _ z.1
    refine ⟨?_, by rw [f2n b hn]; exact q1, by rw [h2b b hn]; exact q2, Classical.byContradiction fun y => R.b5 b y hn⟩
    cases q : O b with
    | none => rfl
    | some j => exact absurd hn (R.of b j q).2.1.1
end
/-! ### the keys of a dict that is locked -/
def viewK (env : Env) (j : Nat) : Env := match (viewE env)[j]? with
  | some (some (.d (.dict kvs))) => (viewE env).set j (some (.lk kvs))
  | _ => viewE env
def mPureL (j : Nat) (m : ME) : ME := fun env _ => if isDict env j = true then (match m (viewK env j) [] with
  | .ok (.d x) _ => if tupD x = true then .ok (.d x) env else .bad
  | .ok (.own o) _ => if o.tup = true then .ok (.own o) env else .bad
  | _ => .bad) else .bad
def mKI (j : Nat) : MI := fun env te => match env[j]? with
  | some (some (.lk kvs)) => if (kvs.all fun q => flatD q.1) = true then .ok ([.lk kvs], fun _ => some (kvs.map (·.1))) env else .bad
  | _ => .bad
theorem dnks_get {F : Hp} : ∀ {us : List (Key × V)} {kvs : List (Dt × Dt)} {i : Nat} {x : Dt}, DnKs K F us kvs → (kvs.map (·.1))[i]? = some x → ∃ k v, us[i]? = some (k, v) ∧ x = kD k
  | _, _, _, _, .nil, h => by simp at h
  | _, _, 0, _, .cons _ _, h => by cases h; exact ⟨_, _, rfl, rfl⟩
  | _, _, i + 1, x, .cons _ r, h => by
    obtain ⟨k, v, h1, h2⟩ := dnks_get (i := i) r (by simpa using h)
    exact ⟨k, v, by simpa using h1, h2⟩
theorem dnks_len {F : Hp} : ∀ {us : List (Key × V)} {kvs : List (Dt × Dt)}, DnKs K F us kvs → us.length = kvs.length
  | _, _, .nil => rfl
  | _, _, .cons _ r => congrArg (· + 1) (dnks_len r)
theorem si_keys (j : Nat) : SI K B W .d (iKeysM (tVar j)) (mKI j) := by
  intro σ env ts te H R0 R p
  unfold mKI at p
  split at p
  · rename_i kvs e
    split at p
    case isFalse => exact False.elim p
    rename_i hfl
    obtain ⟨F, O, R⟩ := R
    obtain ⟨v, hv, a, o, us, rfl, hb, d⟩ := R.sl j _ e
    refine ⟨.ref a, hv, a, o, us, rfl, R.sf _ _ (R.b1 _ _ hb), p _ [.ref a] H rfl ⟨F, O, R.push (a := .lk kvs) ⟨a, o, us, rfl, hb, d⟩⟩ ?_⟩
    intro i σ2 env2 us2 ue ts2 te2 H2 xs2 hl R2 hrd
    cases hrd
    obtain ⟨F2, O2, R2⟩ := R2
    have hH : H2 a = some (.frz o (.dK us)) := R2.sf _ _ (R2.b1 _ _ hb)
    have ln : (kvs.map (·.1)).length = us.length := by rw [List.length_map, dnks_len d]
    refine ⟨fun hi => ?_, fun x hx => ?_⟩
    · rw [hi, ln]; exact walk_keys.stops H2 hH
    · have il := (List.getElem?_eq_some_iff.mp hx).1
      rw [ln] at il
      refine ⟨walk_keys.goes i H2 il hH, fun w H3 hy => ?_⟩
      obtain ⟨rfl, k, v2, hk2, rfl⟩ := walk_keys.yields i H2 w H3 il hH hy
      obtain ⟨k', v', h1, rfl⟩ := dnks_get d hx
      rw [hk2] at h1
      cases h1
      have fk : flatD (kD k) = true := by
        obtain ⟨q, hq, e⟩ := List.mem_map.mp (List.mem_of_getElem? hx)
        rw [← e]
        exact List.all_eq_true.mp hfl q hq
      have ev : kV k = vOf (kD k) := by cases k <;> rfl
      rw [ev]
      exact R2.pushD (dn_flat fk)
  · exact False.elim p
theorem view_k (R : RelF K B F O σ env ts te H) {a : Addr} {us : List (Key × V)} {od : Obj} {F0 H0 : Hp} {env0 : Env} {kvs : List (Dt × Dt)} {j : Nat} (R0 : RelF K (vwB H0 F0) F0 (fun _ => none) σ env0 [] [] H0) (hv : σ[j]? = some (some (.ref a))) (ha : F0 a = some (.frz od (.dK us))) (d : DnKs K F0 us kvs) :
    RelF K (vwB H0 F0) F0 (fun _ => none) σ (env0.set j (some (.lk kvs))) [] [] H0 := by
  refine ⟨by rw [List.length_set]; exact R0.ln, fun i c e => ?_, trivial, R0.sf, fun b j z => (nomatch z), R0.b1, R0.b2, R0.b3, R0.b5, (fun i h => nomatch h), R0.tb⟩
  rw [List.getElem?_set] at e
  by_cases ji : j = i
  · subst ji
    rw [if_pos rfl] at e
    split at e
    · cases e; exact ⟨_, hv, a, od, us, rfl, ha, d⟩
    · cases e
  · rw [if_neg ji] at e
    exact R0.sl i c e
/-- what is asked of a locked expression -/
theorem lock_core {t : TE} {m : ME} (h : ∀ B', SE K B' W0 t m) {σ : L2.St} {env : Env} {ts : List V} {te : List A} {H : Hp} {Q : VK} {j : Nat} (R : Rel K B σ env ts te H) (p : PE' K B W σ ts te Q (mPureL j m env te)) :
    (∃ d u, H d = some u ∧ Mut (some u) ∧ ∀ od, t σ (upd H d (.frz od u)) fun v H' => H' d = some (.frz od u) ∧ Q v (upd H' d u)) ∨ t σ H Q := by
  obtain ⟨F, O, R⟩ := R
  unfold mPureL at p
  split at p
  case isFalse => exact False.elim p
  rename_i hd
  -- the dict, and how it is known
  have key : ∃ (a : Addr) (us : List (Key × V)) (kvs : List (Dt × Dt)), σ[j]? = some (some (.ref a)) ∧ (viewE env)[j]? = some (some (.d (.dict kvs))) ∧ Rd (vwF F H O) a (.dK us) ∧ DnKs K (vwF F H O) us kvs := by
    have fromO : ∀ o, owAt env j = some o → (∃ kvs, o.dt = some (.dict kvs)) → ∃ (a : Addr) (us : List (Key × V)) (kvs : List (Dt × Dt)), σ[j]? = some (some (.ref a)) ∧ (viewE env)[j]? = some (some (.d (.dict kvs))) ∧ Rd (vwF F H O) a (.dK us) ∧ DnKs K (vwF F H O) us kvs := fun o eo ⟨kvs, ek⟩ => by
      have ev : (viewE env)[j]? = some (some (.d (.dict kvs))) := by
        unfold viewE
        rw [List.getElem?_map]
        rcases owAt_cell eo with e | e <;> (rw [e]; show some (o.dt.map A.d) = _; rw [ek]; rfl)
      have hs : ∃ v, σ[j]? = some (some v) := by
        rcases owAt_cell eo with e | e
        · obtain ⟨v, hv, _⟩ := R.sl j _ e; exact ⟨v, hv⟩
        · obtain ⟨v, hv, _⟩ := R.sl j _ e; exact ⟨v, hv⟩
      obtain ⟨v, hv⟩ := hs
      have dn : Dn K (vwF F H O) v (.dict kvs) := OwO.dn (own := fun a => O a = some j) (vwF_same R) (fun a z => vwF_own z) (R.owAt eo hv) ek
      cases dn with
      | dct g d => exact ⟨_, _, kvs, hv, ev, g, d⟩
    unfold isDict at hd
    split at hd
    · rename_i kvs e
      obtain ⟨v, hv, c⟩ := R.sl j _ e
      have c : Dn K F v (.dict kvs) := c
      have ev : (viewE env)[j]? = some (some (.d (.dict kvs))) := by unfold viewE; rw [List.getElem?_map, e]; rfl
      cases c with
      | dct g d => exact ⟨_, _, kvs, hv, ev, Same.rd (vwF_same R) g, d.same (vwF_same R)⟩
    · split at hd
      · rename_i kvs e; exact fromO _ e ⟨_, rfl⟩
      · rename_i kvs e; exact fromO _ e ⟨_, rfl⟩
      · cases hd
  obtain ⟨a, us, kvs, hv, ev, rd, d⟩ := key
  have evk : viewK env j = (viewE env).set j (some (.lk kvs)) := by unfold viewK; rw [ev]
  rcases rd with ha | ⟨od, ha⟩
  · -- not locked yet
    refine .inl ⟨a, .dK us, vwF_sub R _ _ ha, trivial, fun od => ?_⟩
    have R1 := view_lock R od ha
    have R2 := view_k R R1 hv upd_same (DnKs.lock ha d)
    refine h _ σ (viewK env j) [] [] _ _ ⟨_, _, by rw [evk]; exact R2⟩ ?_
    have back : ∀ {F' H' : Hp} {O' : Addr → Option Nat} {e' : Env} {v : V} {r : A}, RelF K (vwB (upd H a (.frz od (.dK us))) (upd (vwF F H O) a (.frz od (.dK us)))) F' O' σ e' [v] [r] H' → H' a = some (.frz od (.dK us)) ∧ (∀ x, r = .d x → tupD x = true → Rel K B σ env (v :: ts) (r :: te) (upd H' a (.dK us))) ∧ (∀ o, r = .own o → o.tup = true → Rel K B σ env (v :: ts) (r :: te) (upd H' a (.dK us))) := fun {F' H' O' e' v r} R' => by
      have hHa : H a = some (.dK us) := vwF_sub R _ _ ha
      refine ⟨R'.b2 a _ rfl (fun _ z => nomatch z) upd_same, view_back R (Hx := upd H a (.frz od (.dK us))) (Fx := upd (vwF F H O) a (.frz od (.dK us))) (fun b o e => ?_) (fun b hb => ?_) (fun b ob xs e => ?_) (fun b xs e => ?_) R' (fun b o q ht => ?_) (fun b hb => ?_) (fun b o e => ?_) (fun b hb => ?_) ?_⟩
      · by_cases eb : b = a
        · rw [eb, hHa]; exact nofun
        · rw [upd_ne eb] at e; rw [e]; exact nofun
      · by_cases eb : b = a
        · rw [eb, upd_same]; exact nofun
        · rw [upd_ne eb]; exact hb
      · by_cases eb : b = a
        · rw [eb, upd_same] at e; cases e
        · rw [upd_ne eb] at e; exact e
      · by_cases eb : b = a
        · rw [eb, upd_same] at e; cases e
        · rw [upd_ne eb] at e; exact e
      · by_cases eb : b = a
        · rw [eb, upd_same, ← hHa, ← eb]; exact q
        · rw [upd_ne eb]
          exact R'.b2 b o rfl ht (by show upd H a _ b = some o; rw [upd_ne eb]; exact q)
      · rw [upd_ne (fun z => by rw [z, hHa] at hb; cases hb)]
      · by_cases eb : b = a
        · rw [eb, upd_same, ← ha, ← eb]; exact vwF_same R b o e
        · rw [upd_ne eb]
          exact R'.sf b o (R'.b1 b o (by show upd (vwF F H O) a _ b = some o; rw [upd_ne eb]; exact vwF_same R b o e))
      · by_cases eb : b = a
        · rw [eb, upd_same]; exact nofun
        · rw [upd_ne eb]
          exact R'.b5 b (by show upd H a _ b ≠ none; rw [upd_ne eb]; exact hb)
      · have fa : H' a = some (.frz od (.dK us)) := R'.b2 a _ rfl (fun _ z => nomatch z) upd_same
        refine R'.tb.2.mono fun b o t z => ?_
        rw [upd_ne]
        · exact z
        · intro e
          rw [e, fa] at z
          have z := Option.some.inj z
          rcases t with ⟨ps, rfl⟩ | ⟨c, q, rfl⟩
          · cases z
          · unfold LamX.CodeO at z
            cases z
    cases q : m (viewK env j) [] with
    | bad => rw [q] at p; exact p
    | ex x e => rw [q] at p; exact False.elim p
    | ok r e =>
      rw [q] at p
      rintro v H' ⟨F', O', R'⟩
      obtain ⟨b1, b2, b3⟩ := back R'
      refine ⟨b1, ?_⟩
      cases r with
      | d x =>
        simp only at p
        split at p
        · rename_i c; exact p v _ (b2 x rfl c)
        · exact False.elim p
      | own o =>
        simp only at p
        split at p
        · rename_i c; exact p v _ (b3 o rfl c)
        · exact False.elim p
      | _ => exact False.elim p
  · refine .inr ?_
    have R2 := view_k R (view_rel R) hv ha d
    refine h _ σ (viewK env j) [] [] _ _ ⟨_, _, by rw [evk]; exact R2⟩ ?_
    have back : ∀ {F' H' : Hp} {O' : Addr → Option Nat} {e' : Env} {v : V} {r : A}, RelF K (vwB H (vwF F H O)) F' O' σ e' [v] [r] H' → (∀ x, r = .d x → tupD x = true → Rel K B σ env (v :: ts) (r :: te) H') ∧ (∀ o, r = .own o → o.tup = true → Rel K B σ env (v :: ts) (r :: te) H') := fun {F' H' O' e' v r} R' =>
      view_back R (Hx := H) (fun b o e => by rw [e]; exact nofun) (fun b h => h) (fun b ob xs e => e) (fun b xs e => e) R' (fun b o q ht => R'.b2 b o rfl ht q) (fun b _ => rfl) (fun b o e => R'.sf b o (R'.b1 b o (vwF_same R b o e))) (fun b h => R'.b5 b h) R'.tb.2
    cases q : m (viewK env j) [] with
    | bad => rw [q] at p; exact p
    | ex x e => rw [q] at p; exact False.elim p
    | ok r e =>
      rw [q] at p
      rintro v H' ⟨F', O', R'⟩
      cases r with
      | d x =>
        simp only at p
        split at p
        · rename_i c; exact p v H' ((back R').1 x rfl c)
        · exact False.elim p
      | own o =>
        simp only at p
        split at p
        · rename_i c; exact p v H' ((back R').2 o rfl c)
        · exact False.elim p
      | _ => exact False.elim p
/-- y = [.. for x in d.keys() ..] -/
theorem ss_lockA {t : TE} {m : ME} {i j : Nat} (h : ∀ B', SE K B' W0 t m) : SS K B W (tLkS (tAsg t (gName i))) (mAsg (mPureL j m) (gN i)) := by
  intro σ env ts te H D R p
  have p : PS' K B W ts te D ((mPureL j m env te).fl fun a e => match gN i a e te with | some e' => .nx e' | none => .bad) := p
  have key := lock_core (W := W) (j := j) (B := B) (ts := ts) (te := te) (env := env) (Q := fun x H1 => D.nx (σ.set i (some x)) H1) h R (by
    cases q : mPureL j m env te with
    | bad => rw [q] at p; exact p
    | ex x e => rw [q] at p; exact p σ
    | ok a e =>
      rw [q] at p
      simp only [Rs.fl_ok] at p
      intro v H' R'
      cases q2 : gN i a e te with
      | none => simp only [q2] at p; exact False.elim p
      | some e' => simp only [q2] at p; exact p _ _ (rel_set R' q2))
  rcases key with ⟨d, u, h1, h2, h3⟩ | h3
  · exact .inl ⟨d, u, h1, h2, fun od => h3 od⟩
  · exact .inr h3
end
end Tw

namespace Tw
open PySem PySem.Spec PyProof.Rows L2
/-! ### dicts -/
def keyD : Dt → Option Key
  | .int i => some (.inl i)
  | .str s => some (.inr s)
  | _ => none
def lkDD (kvs : List (Dt × Dt)) (k : Key) : Option Dt := (kvs.find? fun q => decide (keyD q.1 = some k)).map (·.2)
/-- what stands at a key of a dict: nothing, a datum, or a list of the dict's own -/
inductive Dg where
  | no
  | dt (x : Dt)
  | li
def dgO (env : Env) (a : A) (k : Key) : Option Dg := match a with
  | .d (.dict kvs) => some (match lkDD kvs k with | some x => .dt x | none => .no)
  | .lk kvs => some (match lkDD kvs k with | some x => .dt x | none => .no)
  | .rf i none => match owAt env i with
    | some (.dc kvs) => some (match lkD kvs k with | some x => .dt x | none => .no)
    | some (.dl kvs) => some (match lkD kvs k with | some _ => .li | none => .no)
    | _ => none
  | _ => none
def dgA (env : Env) (a b : A) : Rs A := match (b.val env).bind keyD with
  | some k => (match dgO env a k with
    | some (.dt x) => .ok (.d x) env
    | some .li => (match a with
      | .rf i none => .ok (.rf i (some k)) env
      | _ => .bad)
    | _ => .bad)
  | none => .bad
def dinA (neg : Bool) (env : Env) (b a : A) : Rs A := match (b.val env).bind keyD with
  | some k => (match dgO env a k with
    | some .no => .ok (.d (.bool neg)) env
    | some _ => .ok (.d (.bool (!neg))) env
    | none => .bad)
  | none => .bad
def isDct (env : Env) (a : A) : Bool := match a with
  | .d (.dict _) => true
  | .lk _ => true
  | .rf i none => match owAt env i with
    | some (.dc _) => true
    | some (.dl _) => true
    | _ => false
  | _ => false
def mDGet2 (md mk mx : ME) : ME := fun env te => (md env te).bind fun a e1 => if isDct e1 a = true then (mk e1 (a :: te)).bind fun b e2 => (mx e2 (b :: a :: te)).bind fun c e3 => (match (b.val e3).bind keyD, c with
    | some k, .d y => (match dgO e3 a k with
      | some (.dt x) => .ok (.d x) e3
      | some .no => .ok (.d y) e3
      | _ => .bad)
    | _, _ => .bad) else .bad
def keysA (env : Env) (a : A) : Rs A := match a with
  | .rf i none => match owAt env i with
    | some (.dc kvs) => if (kvs.all fun q => flatD (kD q.1)) = true then .ok (.own (.l (kvs.map fun q => kD q.1))) env else .bad
    | some (.dl kvs) => if (kvs.all fun q => flatD (kD q.1)) = true then .ok (.own (.l (kvs.map fun q => kD q.1))) env else .bad
    | _ => .bad
  | _ => .bad
section
variable {K : KW} {B : Bs} {W : WX}
theorem keyD_kV {F : Hp} {v : V} {x : Dt} {k : Key} (d : Dn K F v x) (h : keyD x = some k) : v = kV k := by
  cases d <;> cases h <;> rfl
theorem keyD_kD (k : Key) : keyD (kD k) = some k := by cases k <;> rfl
theorem dnks_lk {F : Hp} : ∀ {us : List (Key × V)} {kvs : List (Dt × Dt)} (d : DnKs K F us kvs) (k : Key), (∀ x, lkDD kvs k = some x → ∃ v, valV us k = some v ∧ Dn K F v x) ∧ (lkDD kvs k = none → valV us k = none)
  | _, _, .nil, _ => ⟨(fun x h => nomatch h), fun _ => rfl⟩
  | _, _, .cons (k := k') (v := v) h r, k => by
    have ih := dnks_lk r k
    unfold lkDD valV
    rw [List.find?_cons, List.find?_cons]
    simp only [keyD_kD]
    by_cases c : k' = k
    · rw [decide_eq_true c, decide_eq_true (by rw [c])]
      exact ⟨fun x z => ⟨v, rfl, by cases z; exact h⟩, fun z => nomatch z⟩
    · rw [decide_eq_false c, decide_eq_false (fun z => c (Option.some.inj z))]
      exact ih
/-- what a dict's answer means -/
theorem dg_ok {σ : L2.St} {env : Env} {ts : List V} {te : List A} {F H : Hp} {O : Addr → Option Nat} {j : Nat} {v : V} {a : A} {k : Key} {g : Dg} (R : RelF K B F O σ env ts te H) (c : CellO K B F H O σ j v a) (h : dgO env a k = some g) :
    ∃ p us, v = .ref p ∧ Rd H p (.dK us) ∧ (match g with
      | .no => valV us k = none
      | .dt x => ∃ w, valV us k = some w ∧ Dn K F w x
      | .li => ∃ i w, a = .rf i none ∧ valV us k = some w ∧ σ[i]? = some (some v) ∧ O p = some i ∧ H p = some (.dK us)) := by
  have fromD : ∀ {kvs : List (Dt × Dt)} {p : Addr} {us : List (Key × V)}, v = .ref p → Rd H p (.dK us) → DnKs K F us kvs → (some (match lkDD kvs k with | some x => Dg.dt x | none => .no)) = some g → ∃ p us, v = .ref p ∧ Rd H p (.dK us) ∧ (match g with
      | .no => valV us k = none
      | .dt x => ∃ w, valV us k = some w ∧ Dn K F w x
      | .li => ∃ i w, a = .rf i none ∧ valV us k = some w ∧ σ[i]? = some (some v) ∧ O p = some i ∧ H p = some (.dK us)) := fun {kvs p us} e r d h => by
    refine ⟨p, us, e, r, ?_⟩
    obtain ⟨h1, h2⟩ := dnks_lk d k
    cases q : lkDD kvs k with
    | none => rw [q] at h; cases h; exact h2 q
    | some x => rw [q] at h; cases h; exact h1 x q
  cases a with
  | d x =>
    cases x with
    | dict kvs =>
      have c : Dn K F v (.dict kvs) := c
      cases c with
      | dct r d => exact fromD rfl (Same.rd R.sf r) d h
    | _ => cases h
  | lk kvs =>
    obtain ⟨p, o, us, e, hb, d⟩ := c
    exact fromD e (.inr ⟨o, R.sf _ _ (R.b1 _ _ hb)⟩) (d.same R.b1) h
  | rf i pt =>
    cases pt with
    | some _ => cases h
    | none =>
      obtain ⟨w, hw, e⟩ := id c
      have e : v = w := e
      subst e
      cases eo : owAt env i with
      | none => simp only [dgO, eo] at h; cases h
      | some o =>
        have own := R.owAt eo hw
        cases o with
        | l _ => simp only [dgO, eo] at h; cases h
        | ll _ => simp only [dgO, eo] at h; cases h
        | x _ => simp only [dgO, eo] at h; cases h
        | dc kvs =>
          simp only [dgO, eo] at h
          obtain ⟨p, us, e1, op, hp, pr⟩ := own
          refine ⟨p, us, e1, .inl hp, ?_⟩
          obtain ⟨h1, h2⟩ := paired_lk (R := Dn K F) pr k
          cases q : lkD kvs k with
          | none => rw [q] at h; cases h; exact h2 q
          | some x => rw [q] at h; cases h; exact h1 x q
        | dl kvs =>
          simp only [dgO, eo] at h
          obtain ⟨p, us, e1, op, hp, _, _, pr⟩ := own
          refine ⟨p, us, e1, .inl hp, ?_⟩
          obtain ⟨h1, h2⟩ := paired_lk (R := OwL K F H fun a => O a = some i) pr k
          cases q : lkD kvs k with
          | none => rw [q] at h; cases h; exact h2 q
          | some x =>
            rw [q] at h
            cases h
            obtain ⟨w, hw2, _⟩ := h1 x q
            exact ⟨i, w, rfl, hw2, hw, op, hp⟩
  | _ => cases h
theorem se_dnew : SE K B W tDNewK (fun env _ => .ok (.own (.dc [])) env) := by
  intro σ env ts te H Q R p l nl
  obtain ⟨F, O, R⟩ := R
  exact p _ _ ⟨F, _, R.newL nl (o := .dK []) (mutO_dK []) (w := .dc []) fun own hp => ⟨l, [], rfl, hp, upd_same, .nil⟩⟩
theorem se_dget {ta tb : TE} {ma mb : ME} (ha : SE K B W ta ma) (hb : SE K B W tb mb) : SE K B W (tDGet ta tb) (mOp dgA ma mb) := by
  intro σ env ts te H Q R p
  refine ha.thE R p fun a e p v H1 R1 => ?_
  refine hb σ e (v :: ts) (a :: te) H1 _ R1 ?_
  cases q : mb e (a :: te) with
  | ex x e2 => rw [q] at p; exact XPost.push p v a
  | bad => rw [q] at p; exact p
  | ok b e2 =>
    rw [q] at p
    rintro u H2 ⟨F2, O2, R2⟩
    simp only [Rs.bind_ok] at p
    unfold dgA at p
    cases eb : b.val e2 with
    | none => simp only [eb, Option.bind_none] at p; exact False.elim p
    | some y =>
      cases ek : keyD y with
      | none => simp only [eb, Option.bind_some, ek] at p; exact False.elim p
      | some k =>
        simp only [eb, Option.bind_some, ek] at p
        have eu := keyD_kV (cell_val R2 R2.tm.1 eb) ek
        cases eg : dgO e2 a k with
        | none => simp only [eg] at p; exact False.elim p
        | some g =>
          obtain ⟨pa, us, e1, rd, hg⟩ := dg_ok R2 R2.tm.2.1 eg
          cases g with
          | no => simp only [eg] at p; exact False.elim p
          | dt x =>
            simp only [eg] at p
            obtain ⟨w, hw, dw⟩ := hg
            exact ⟨pa, w, e1, .inl ⟨us, k, rd, eu, hw.symm⟩, p _ H2 (R2.pop.pop.pushD dw)⟩
          | li =>
            obtain ⟨i, w, ea, hw, hs, op, hp⟩ := hg
            subst ea
            simp only [eg] at p
            refine ⟨pa, w, e1, .inl ⟨us, k, rd, eu, hw.symm⟩, p _ H2 ⟨F2, _, R2.pop.pop.push (a := .rf i (some k)) ⟨v, hs, pa, e1, ?_, .inr ⟨us, hp, hw⟩⟩⟩⟩
            have jl := (List.getElem?_eq_some_iff.mp hs).1
            have s1 : ∀ n, i ≠ σ.length + n := fun n => by omega
            show (if (if O2 pa = some (σ.length + (v :: ts).length) then none else O2 pa) = some (σ.length + ts.length) then none else (if O2 pa = some (σ.length + (v :: ts).length) then none else O2 pa)) = some i
            rw [op, if_neg (fun z => s1 _ (Option.some.inj z)), if_neg (fun z => s1 _ (Option.some.inj z))]
theorem flat_kV {F : Hp} {k : Key} (h : flatD (kD k) = true) : Dn K F (kV k) (kD k) := by
  have ev : kV k = vOf (kD k) := by cases k <;> rfl
  rw [ev]
  exact dn_flat h
theorem se_keys {t : TE} {m : ME} (h : SE K B W t m) : SE K B W (tKeysL t) (mU keysA m) := by
  intro σ env ts te H Q R p
  refine h.thE R p fun a e p v H1 R1 => ?_
  obtain ⟨F, O, R1⟩ := R1
  unfold keysA at p
  split at p
  · rename_i i
    obtain ⟨w, hw, ew⟩ := id R1.tm.1
    have ew : v = w := ew
    subst ew
    have fin : ∀ {α : Type} {Rr : V → α → Prop} {us : List (Key × V)} {kvs : List (Key × α)}, Paired (fun (p : Key × V) (q : Key × α) => p.1 = q.1 ∧ Rr p.2 q.2) us kvs → (kvs.all fun q => flatD (kD q.1)) = true → DnAll K F (us.map fun q => kV q.1) (kvs.map fun q => kD q.1) := by
      intro α Rr us
      induction us with
      | nil => intro kvs d _; cases d; exact .nil
      | cons k r ih =>
        intro kvs d hf
        cases d with
        | cons g d =>
          rw [List.all_cons, Bool.and_eq_true] at hf
          refine .cons ?_ (ih d hf.2)
          show Dn K F (kV k.1) (kD _)
          rw [g.1]
          exact flat_kV hf.1
    cases eo : owAt e i with
    | none => simp only [eo] at p; exact False.elim p
    | some o =>
      have own := R1.owAt eo hw
      cases o with
      | l _ => simp only [eo] at p; exact False.elim p
      | ll _ => simp only [eo] at p; exact False.elim p
      | x _ => simp only [eo] at p; exact False.elim p
      | dc kvs =>
        simp only [eo] at p
        split at p
        · rename_i hf
          obtain ⟨pa, us, e1, op, hp, pr⟩ := own
          exact ⟨pa, us, e1, hp, fun l nl => p _ _ (R1.pop.pushL nl (fin pr hf))⟩
        · exact False.elim p
      | dl kvs =>
        simp only [eo] at p
        split at p
        · rename_i hf
          obtain ⟨pa, us, e1, op, hp, _, _, pr⟩ := own
          exact ⟨pa, us, e1, hp, fun l nl => p _ _ (R1.pop.pushL nl (fin (Rr := OwL K F H1 fun a => O a = some i) pr hf))⟩
        · exact False.elim p
  · exact False.elim p
end
end Tw

namespace Tw
open PySem PySem.Spec PyProof.Rows L2
/-! ### dicts and lists of lists changed -/
section
variable {K : KW} {B : Bs} {W : WX} {F H : Hp}
theorem paired_get' {α β : Type} {R : α → β → Prop} : ∀ {xs : List α} {ys : List β} {i : Nat} {x : α}, Paired R xs ys → xs[i]? = some x → ∃ y, ys[i]? = some y ∧ R x y
  | _, _, _, _, .nil, e => by cases e
  | _, _, 0, _, .cons h _, e => ⟨_, rfl, by cases e; exact h⟩
  | _, _, i + 1, _, .cons _ r, e => paired_get' (i := i) r e
theorem paired_any {α : Type} {R : V → α → Prop} {us : List (Key × V)} {kvs : List (Key × α)} (p : Paired (fun (p : Key × V) (q : Key × α) => p.1 = q.1 ∧ R p.2 q.2) us kvs) (k : Key) : (us.any fun kv => decide (kv.1 = k)) = (kvs.any fun kv => decide (kv.1 = k)) := by
  induction p with
  | nil => rfl
  | cons h _ ih => rw [List.any_cons, List.any_cons, ih, h.1]
theorem paired_put {α : Type} {R : V → α → Prop} {us : List (Key × V)} {kvs : List (Key × α)} {k : Key} {v : V} {x : α} (p : Paired (fun (p : Key × V) (q : Key × α) => p.1 = q.1 ∧ R p.2 q.2) us kvs) (h : R v x) :
    Paired (fun (p : Key × V) (q : Key × α) => p.1 = q.1 ∧ R p.2 q.2) (putK us k v) (putD kvs k x) := by
  have mp : ∀ {us : List (Key × V)} {kvs : List (Key × α)}, Paired (fun (p : Key × V) (q : Key × α) => p.1 = q.1 ∧ R p.2 q.2) us kvs → Paired (fun (p : Key × V) (q : Key × α) => p.1 = q.1 ∧ R p.2 q.2) (us.map fun kv => if kv.1 = k then (kv.1, v) else kv) (kvs.map fun kv => if kv.1 = k then (kv.1, x) else kv) := by
    intro us kvs p
    induction p with
    | nil => exact .nil
    | cons g _ ih2 =>
      rw [List.map_cons, List.map_cons]
      refine .cons ?_ ih2
      rw [g.1]
      split
      · exact ⟨rfl, h⟩
      · exact g
  unfold putK putD
  rw [paired_any p k]
  split
  · exact mp p
  · exact paired_appR p ⟨rfl, h⟩
theorem keys_put {α : Type} {us : List (Key × α)} {k : Key} {v : α} : (putD us k v).map (·.1) = if (us.any fun kv => decide (kv.1 = k)) = true then us.map (·.1) else us.map (·.1) ++ [k] := by
  unfold putD
  split
  · rw [List.map_map]
    refine List.map_congr_left fun q _ => ?_
    show (if q.1 = k then (q.1, v) else q).1 = q.1
    split <;> rfl
  · rw [List.map_append]; rfl
theorem putK_putD (us : List (Key × V)) (k : Key) (v : V) : putK us k v = putD us k v := rfl
theorem nodup_put {us : List (Key × V)} {k : Key} {v : V} (h : (us.map (·.1)).Nodup) : ((putK us k v).map (·.1)).Nodup := by
  rw [putK_putD, keys_put]
  split
  · exact h
  · rename_i c
    rw [List.nodup_append]
    refine ⟨h, List.pairwise_singleton _ _, fun a ha b hb e => c ?_⟩
    rw [List.mem_singleton.mp hb] at e
    obtain ⟨q, hq, eq⟩ := List.mem_map.mp ha
    exact List.any_eq_true.mpr ⟨q, hq, decide_eq_true (eq.trans e)⟩
theorem nodup_putV : ∀ {us : List (Key × V)} {k : Key} {v : V}, (us.map (·.2)).Nodup → (us.map (·.1)).Nodup → v ∉ us.map (·.2) → ((putK us k v).map (·.2)).Nodup := by
  intro us k v h1 h2 h3
  unfold putK
  split
  · rename_i hany
    clear hany
    induction us with
    | nil => exact List.nodup_nil
    | cons q r ih =>
      have n1 := List.nodup_cons.mp (show (q.2 :: r.map (·.2)).Nodup from h1)
      have n2 := List.nodup_cons.mp (show (q.1 :: r.map (·.1)).Nodup from h2)
      have h3' : v ∉ r.map (·.2) := fun z => h3 (List.mem_cons_of_mem _ z)
      rw [List.map_cons, List.map_cons]
      by_cases c : q.1 = k
      · -- no other has this key
        have same : ∀ {r : List (Key × V)}, k ∉ r.map (·.1) → (r.map fun kv => if kv.1 = k then (kv.1, v) else kv) = r := by
          intro r
          induction r with
          | nil => intro _; rfl
          | cons y r ih2 =>
            intro hn
            rw [List.map_cons, ih2 (fun z => hn (List.mem_cons_of_mem _ z)), if_neg (fun z => hn (by rw [← z]; exact List.mem_cons_self))]
        rw [if_pos c, same (by rw [← c]; exact n2.1)]
        exact List.nodup_cons.mpr ⟨h3', n1.2⟩
      · rw [if_neg c]
        refine List.nodup_cons.mpr ⟨fun z => ?_, ih n1.2 n2.2 h3'⟩
        obtain ⟨y, hy, ey⟩ := List.mem_map.mp z
        obtain ⟨w, hw, ew⟩ := List.mem_map.mp hy
        by_cases cw : w.1 = k
        · rw [if_pos cw] at ew
          rw [← ew] at ey
          exact h3 (by rw [show v = q.2 from ey]; exact List.mem_cons_self)
        · rw [if_neg cw] at ew
          rw [← ew] at ey
          exact n1.1 (List.mem_map.mpr ⟨w, hw, ey⟩)
  · rw [List.map_append]
    rw [List.nodup_append]
    refine ⟨h1, List.pairwise_singleton _ _, fun a ha b hb e => h3 ?_⟩
    rw [List.mem_singleton.mp hb] at e
    have e : a = v := e
    rw [← e]; exact ha
theorem mem_putV {us : List (Key × V)} {k : Key} {v w : V} (h : w ∈ (putK us k v).map (·.2)) : w = v ∨ w ∈ us.map (·.2) := by
  unfold putK at h
  split at h
  · obtain ⟨y, hy, ey⟩ := List.mem_map.mp h
    obtain ⟨q, hq, eq⟩ := List.mem_map.mp hy
    split at eq
    · rw [← eq] at ey; exact .inl ey.symm
    · rw [← eq] at ey; exact .inr (List.mem_map.mpr ⟨q, hq, ey⟩)
  · rw [List.map_append] at h
    rcases List.mem_append.mp h with h | h
    · exact .inr h
    · exact .inl (List.mem_singleton.mp h)
end
def ownTo (c : A) (i : Nat) : Option Nat := match c with
  | .own _ => some i
  | _ => none
def putO (o : Ow) (k : Key) (c : A) : Option Ow := match o, c with
  | .dc kvs, .d y => if kvs.length < sizeLine then some (.dc (putD kvs k y)) else none
  | .dc [], .own (.l ys) => some (.dl [(k, ys)])
  | .dl kvs, .own (.l ys) => if kvs.length < sizeLine then some (.dl (putD kvs k ys)) else none
  | _, _ => none
/-- names that refer to the entry k of what slot i owns are forgotten -/
def wipeK (i : Nat) (k : Key) (e : Env) : Env := e.map fun c => match c with
  | some a => if isNestK i k a = true then none else some a
  | none => none
def putA (e : Env) (te : List A) (a b c : A) : Option Env := match (b.val e).bind keyD, a with
  | some k, .rf i none => (match (wipeK i k e)[i]?, owAt (wipeK i k e) i with
    | some (some ca), some o => if anyC (isNestK i k) (wipeK i k e) te = false then (putO o k c).map fun o' => (wipeK i k e).set i (some (reOw ca o')) else none
    | _, _ => none)
  | _, _ => none
def mPut (mv md mk : ME) : MS := fun env te => (mv env te).fl fun c e => (md e (c :: te)).fl fun a e1 => (mk e1 (a :: c :: te)).fl fun b e2 => match putA e2 te a b c with
  | some e' => .nx e'
  | none => .bad
section
variable {K : KW} {B : Bs} {W : WX} {F H : Hp} {O : Addr → Option Nat} {σ : List (Option V)} {env : Env} {ts : List V} {te : List A}
/-- what the slot i owns takes in what the top owns -/
theorem rel_give {u v : V} {i : Nat} {c : A} {o o' : Ow} {ca : A} {p : Addr} {ob : HO} (R : RelF K B F O σ env (v :: ts) (c :: te) H) (hw : σ[i]? = some (some u)) (ea : env[i]? = some (some ca)) (eo : owAt env i = some o) (op : O p = some i) (mo : MutO (some ob))
    (newO : ∀ own' : Addr → Prop, (∀ b, O b = some i ∨ (∃ w, c = .own w ∧ O b = some (σ.length + ts.length)) → own' b) → OwO K F (upd H p ob) own' u o')
    (hnest : ∀ O' : Addr → Option Nat, O' p = some i → ∀ k' w, anyC (isNestK i k') env te = true → atP H O i u w (some k') → atP (upd H p ob) O' i u w (some k')) : Rel K B σ (env.set i (some (reOw ca o'))) ts te (upd H p ob) := by
  have ln := R.ln
  have il : i < σ.length := (List.getElem?_eq_some_iff.mp hw).1
  let O' : Addr → Option Nat := fun b => if O b = some (σ.length + ts.length) then ownTo c i else O b
  have R2 := R.pop
  have hpn : O p ≠ some (σ.length + ts.length) := by rw [op]; exact fun z => by have := Option.some.inj z; omega
  have o1 : ∀ b j, O b = some j → j ≠ σ.length + ts.length → O' b = some j := fun b j z nj => (if_neg (by rw [z]; exact fun y => nj (Option.some.inj y))).trans z
  have hio : ∀ o0, ca = .io o0 → ∃ o'0, reOw ca o' = .io o'0 := fun o0 e => ⟨o', by rw [e]; rfl⟩
  have unp : ∀ b j, (if O b = some (σ.length + ts.length) then none else O b) = some j → O b = some j ∧ j ≠ σ.length + ts.length := fun b j z => by
    split at z
    · cases z
    · rename_i hb; exact ⟨z, fun y => hb (by rw [z, y])⟩
  refine ⟨F, O', R2.chg (O' := O') (H' := upd H p ob) (F' := F) ea hw (Same.refl F) (fun b x e => ?_) (fun j b nj z => ?_) (fun b j z => ?_) (fun b z => ?_) (fun b x hs hB hHb => ?_) (fun b x nb z => ?_) (fun b hb => ?_) (fun b h1 h2 => absurd h1 h2) ?_ hio (fun k' w hany hat => ?_)⟩
  · rw [upd_ne (fun z => by rw [z, (R.of p i op).1] at e; cases e)]
    exact R.sf b x e
  · obtain ⟨z1, nn2⟩ := unp b j z
    exact ⟨o1 b j z1 nn2, upd_ne (fun y => by rw [y, op] at z1; exact nj (Option.some.inj z1).symm), (R.of b j z1).1⟩
  · have z : (if O b = some (σ.length + ts.length) then ownTo c i else O b) = some j := z
    show j = i ∨ (if O b = some (σ.length + ts.length) then none else O b) = some j
    by_cases hb : O b = some (σ.length + ts.length)
    · rw [if_pos hb] at z
      cases c <;> first | (cases z; exact .inl rfl) | cases z
    · rw [if_neg hb] at z ⊢
      exact .inr z
  · have z : (if O b = some (σ.length + ts.length) then ownTo c i else O b) = some i := z
    have mu : ∀ j, O b = some j → MutO (upd H p ob b) := fun j zj => by
      by_cases hb : b = p
      · rw [hb, upd_same]; exact mo
      · rw [upd_ne hb]; exact (R.of b j zj).2.1
    by_cases hb : O b = some (σ.length + ts.length)
    · obtain ⟨q1, q2, q3, q4⟩ := R.of b _ hb
      refine ⟨q1, mu _ hb, .inl ?_⟩
      rcases q4 with y | y
      · exact y
      · obtain ⟨o9, h9⟩ := R.bi _ y.2
        have := (List.getElem?_eq_some_iff.mp h9).1
        omega
    · rw [if_neg hb] at z
      obtain ⟨q1, q2, q3, q4⟩ := R.of b _ z
      exact ⟨q1, mu _ z, q4⟩
  · by_cases hb : b = p
    · subst hb
      rcases (R.of b i op).2.2.2 with y | y
      · exact absurd y hB
      · rw [y.1] at hs; cases hs
    · rw [upd_ne hb]; exact hHb
  · have nb : (if O b = some (σ.length + ts.length) then none else O b) = none := nb
    rw [upd_ne (fun y => by
      rw [y] at nb
      by_cases hb : O p = some (σ.length + ts.length)
      · rw [op] at hb
        have := (List.getElem?_eq_some_iff.mp hw).1
        have := Option.some.inj hb
        omega
      · rw [if_neg hb, op] at nb
        cases nb)]
    exact z
  · by_cases hb2 : b = p
    · rw [hb2, upd_same]; exact nofun
    · rw [upd_ne hb2]; exact hb
  · have od : ∀ b, O b = some i ∨ (∃ w, c = .own w ∧ O b = some (σ.length + ts.length)) → O' b = some i := fun b z => by
      rcases z with z | ⟨w, ew, z⟩
      · exact o1 b i z (by omega)
      · have z9 : O' b = ownTo c i := if_pos z
        rw [z9, ew]
        rfl
    rcases owAt_cell eo with e2 | e2
    · rw [ea] at e2
      cases e2
      refine newO _ fun b z => ⟨od b z, ?_⟩
      rcases z with z | ⟨w, ew, z⟩
      · rcases (R.of b i z).2.2.2 with y | y
        · exact y
        · obtain ⟨o9, h9⟩ := R.bi i y.2
          rw [ea] at h9
          cases h9
      · rcases (R.of b _ z).2.2.2 with y | y
        · exact y
        · obtain ⟨o9, h9⟩ := R.bi _ y.2
          have := (List.getElem?_eq_some_iff.mp h9).1
          omega
    · rw [ea] at e2
      cases e2
      obtain ⟨w', hw', c'⟩ := R.sl i _ ea
      rw [hw] at hw'
      cases hw'
      exact ⟨newO _ od, c'.2⟩
  · refine hnest O' (o1 p i op (by omega)) k' w hany (hat.mono fun _ b z => ?_)
    exact ⟨(unp b i z).1, rfl⟩
/-- a dict with a further entry -/
theorem rel_put {u v : V} {i : Nat} {k : Key} {c : A} {e' : Env} {o : Ow} {ca : A} (R : RelF K B F O σ env (v :: ts) (c :: te) H) (hw : σ[i]? = some (some u)) (ea : env[i]? = some (some ca)) (eo : owAt env i = some o) (nn : anyC (isNestK i k) env te = false)
    (hp : (putO o k c).map (fun o' => env.set i (some (reOw ca o'))) = some e') : ∃ p us, u = .ref p ∧ H p = some (.dK us) ∧ us.length < sizeLine ∧ Rel K B σ e' ts te (upd H p (.dK (putK us k v))) := by
  have own := R.owAt eo hw
  have ln := R.ln
  have il : i < σ.length := (List.getElem?_eq_some_iff.mp hw).1
  cases eq : putO o k c with
  | none => rw [eq] at hp; cases hp
  | some o' =>
    rw [eq] at hp
    cases hp
    -- the general step
    have step : ∀ (p : Addr) (us : List (Key × V)), u = .ref p → O p = some i → H p = some (.dK us) → (∀ own' : Addr → Prop, (∀ b, O b = some i ∨ (∃ w, c = .own w ∧ O b = some (σ.length + ts.length)) → own' b) → OwO K F (upd H p (.dK (putK us k v))) own' u o') →
        Rel K B σ (env.set i (some (reOw ca o'))) ts te (upd H p (.dK (putK us k v))) := by
      intro p us eu op hpp newO
      refine rel_give R hw ea eo op (mutO_dK _) newO fun O' oO k' w hany hat => ?_
      obtain ⟨a2, e2, o2, h2⟩ := hat
      have kk : k' ≠ k := fun z => by rw [z, nn] at hany; cases hany
      rw [eu] at e2
      cases e2
      refine ⟨p, eu, oO, ?_⟩
      rcases h2 with ⟨vs2, m, em, m0, hv2, hm⟩ | ⟨us2, hu2, hval⟩
      · rw [hpp] at hv2; cases hv2
      · rw [hpp] at hu2
        cases hu2
        refine .inr ⟨_, upd_same, ?_⟩
        rw [valV_put, if_neg kk]
        exact hval
    cases o with
    | l _ => cases c <;> cases eq
    | ll _ => cases c <;> cases eq
    | x _ => cases c <;> cases eq
    | dc kvs =>
      obtain ⟨p, us, eu, op, hpp, pr⟩ := own
      have lk := pr.length
      have data : ∀ y, c = .d y → ∃ p us, u = .ref p ∧ H p = some (.dK us) ∧ us.length < sizeLine ∧ Rel K B σ (env.set i (some (reOw ca o'))) ts te (upd H p (.dK (putK us k v))) := fun y ec => by
        subst ec
        unfold putO at eq
        simp only at eq
        split at eq
        · rename_i hz
          cases eq
          refine ⟨p, us, eu, hpp, by rw [lk]; exact hz, step p us eu op hpp fun own' ho => ⟨p, _, eu, ho p (.inl op), upd_same, paired_put (R := Dn K F) pr R.tm.1⟩⟩
        · cases eq
      cases c with
      | d y => exact data y rfl
      | own w =>
        cases w with
        | l ys =>
          cases kvs with
          | nil =>
            cases eq
            cases pr
            refine ⟨p, [], eu, hpp, by decide, step p [] eu op hpp fun own' ho => ?_⟩
            obtain ⟨q, vs, ev, oq, hq, d⟩ := R.tm.1
            subst ev
            have nq : q ≠ p := fun z => by rw [z, op] at oq; have := Option.some.inj oq.1; omega
            refine ⟨p, [(k, .ref q)], eu, ho p (.inl op), upd_same, ⟨List.pairwise_singleton _ _, List.pairwise_singleton _ _⟩, fun z => nq (V.ref.inj (List.mem_singleton.mp z)).symm, .cons ⟨rfl, q, vs, rfl, ho q (.inr ⟨_, rfl, oq.1⟩), by rw [upd_ne nq]; exact hq, d⟩ .nil⟩
          | cons _ _ => cases eq
        | _ => cases kvs <;> cases eq
      | _ => cases kvs <;> cases eq
    | dl kvs =>
      obtain ⟨p, us, eu, op, hpp, nd, nm, pr⟩ := own
      have lk := pr.length
      cases c with
      | own w =>
        cases w with
        | l ys =>
          unfold putO at eq
          simp only at eq
          split at eq
          · rename_i hz
            cases eq
            obtain ⟨q, vs, ev, oq, hq, d⟩ := R.tm.1
            subst ev
            have nq : q ≠ p := fun z => by rw [z, op] at oq; have := Option.some.inj oq.1; omega
            have memO : ∀ w, w ∈ us.map (·.2) → ∃ a2, w = .ref a2 ∧ O a2 = some i := fun w hm => by
              obtain ⟨z, hz, ez⟩ := List.mem_map.mp hm
              obtain ⟨n, hn⟩ := List.getElem?_of_mem hz
              have nl := (List.getElem?_eq_some_iff.mp hn).1
              obtain ⟨y, hy, _, a2, vs2, e2, o2, _⟩ := paired_get' pr hn
              exact ⟨a2, by rw [← ez]; exact e2, o2⟩
            have nin : V.ref q ∉ us.map (·.2) := fun z => by
              obtain ⟨a2, e2, o2⟩ := memO _ z
              cases e2
              rw [oq.1] at o2
              have := Option.some.inj o2
              omega
            refine ⟨p, us, eu, hpp, by rw [lk]; exact hz, step p us eu op hpp fun own' ho => ⟨p, _, eu, ho p (.inl op), upd_same, ⟨nodup_putV nd.1 nd.2 nin, nodup_put nd.2⟩, fun z => ?_, ?_⟩⟩
            · rcases mem_putV z with z | z
              · exact nq (V.ref.inj z).symm
              · exact nm z
            · refine paired_put (R := OwL K F (upd H p (.dK (putK us k (.ref q)))) own') (L2.Paired.mapP pr fun x y z => ⟨z.1, ?_⟩) ⟨q, vs, rfl, ho q (.inr ⟨_, rfl, oq.1⟩), by rw [upd_ne nq]; exact hq, d⟩
              obtain ⟨a2, vs2, e2, o2, h2, d2⟩ := z.2
              refine ⟨a2, vs2, e2, ho a2 (.inl o2), ?_, d2⟩
              by_cases ha : a2 = p
              · rw [ha, hpp] at h2; cases h2
              · rw [upd_ne ha]; exact h2
          · cases eq
        | _ => cases eq
      | _ => cases eq
theorem wipeK_at {i : Nat} {k : Key} {e : Env} {j : Nat} {a : A} (h : (wipeK i k e)[j]? = some (some a)) : e[j]? = some (some a) := by
  unfold wipeK at h
  rw [List.getElem?_map] at h
  cases c : e[j]? with
  | none => rw [c] at h; cases h
  | some x =>
    rw [c] at h
    cases x with
    | none => cases h
    | some y =>
      have h' : (if isNestK i k y = true then none else some y) = some a := Option.some.inj h
      split at h'
      · cases h'
      · rw [h']
theorem rel_wipeK {F : Hp} {O : Addr → Option Nat} {σ : List (Option V)} {e : Env} {ts : List V} {te : List A} {H : Hp} {i : Nat} {k : Key} (R : RelF K B F O σ e ts te H) : RelF K B F O σ (wipeK i k e) ts te H where
  ln := by
    unfold wipeK
    rw [List.length_map]
    exact R.ln
  sl := fun j a h => R.sl j a (wipeK_at h)
  tm := R.tm
  sf := R.sf
  of := R.of
  b1 := R.b1
  b2 := R.b2
  b3 := R.b3
  b5 := R.b5
  tb := R.tb
  bi := fun j hj => by
    obtain ⟨o, h⟩ := R.bi j hj
    refine ⟨o, ?_⟩
    unfold wipeK
    rw [List.getElem?_map, h]
    rfl
theorem ss_put {td tk tv : TE} {md mk mv : ME} (hd : SE K B W td md) (hk : SE K B W tk mk) (hv : SE K B W tv mv) : SS K B W (sDPut td tk tv) (mPut mv md mk) := by
  intro σ env ts te H D R p
  refine hv.thS R p fun c e p v H1 R1 => ?_
  refine hd.thS1 R1 p fun a e1 p u H2 R2 => ?_
  refine hk.thS2 R2 p fun b e2 p w H3 R3 => ?_
  obtain ⟨F, O, R3⟩ := R3
  cases q : putA e2 te a b c with
  | none => simp only [q] at p; exact False.elim p
  | some e' =>
    simp only [q] at p
    have p9 : ∀ σ H, Rel K B σ e' ts te H → D.nx σ H := p
    unfold putA at q
    cases eb : b.val e2 with
    | none => rw [eb] at q; cases q
    | some y =>
      cases ek : keyD y with
      | none => rw [eb, Option.bind_some, ek] at q; cases q
      | some k =>
        rw [eb, Option.bind_some, ek] at q
        have eu := keyD_kV (cell_val R3 R3.tm.1 eb) ek
        cases a with
        | rf i pt =>
          cases pt with
          | some _ => cases q
          | none =>
            simp only at q
            have R5 := rel_wipeK (i := i) (k := k) R3
            cases ea : (wipeK i k e2)[i]? with
            | none => rw [ea] at q; cases q
            | some oa =>
              cases oa with
              | none => rw [ea] at q; cases q
              | some ca =>
                cases eo : owAt (wipeK i k e2) i with
                | none => rw [ea, eo] at q; cases q
                | some o =>
                  rw [ea, eo] at q
                  simp only at q
                  split at q
                  · rename_i nn
                    obtain ⟨u', hw, e1⟩ := R3.tm.2.1
                    have e1 : u = u' := e1
                    subst e1
                    obtain ⟨pa, us, ep, hp, hl, R4⟩ := rel_put (R5.pop.pop) hw ea eo nn q
                    exact ⟨pa, _, ep, .inl ⟨us, k, hp, eu, hl, rfl⟩, p9 σ _ R4⟩
                  · cases q
        | _ => cases q
/-! ### lists of lists -/
def appLA : Env → List A → A → List A → Rs A := fun e te o as => match as, o with
  | [.own (.l ys)], .rf i none => (match e[i]?, owAt e i with
    | some (some ca), some (.ll xss) => if xss.length < sizeLine ∧ anyC (isNest i) e te = false then .ok (.d .none) (e.set i (some (reOw ca (.ll (xss ++ [ys]))))) else .bad
    | _, _ => .bad)
  | _, _ => .bad
end
end Tw

namespace Tw
open PySem PySem.Spec PyProof.Rows L2
section
variable {K : KW} {B : Bs} {W : WX} {F H : Hp} {O : Addr → Option Nat} {σ : List (Option V)} {env : Env} {ts : List V} {te : List A}
end
def popLA : Env → List A → A → List A → Rs A := fun e te o as => match as, o with
  | [], .rf i none => (match e[i]?, owAt e i with
    | some (some ca), some (.ll xss) => (match xss[xss.length - 1]? with
      | some ys => if anyC (isNest i) e te = false then .ok (.d (.list ys)) (e.set i (some (reOw ca (.ll xss.dropLast)))) else .bad
      | none => .bad)
    | _, _ => .bad)
  | _, _ => .bad
/-- append, pop of both kinds -/
def orM (f g : Env → List A → A → List A → Rs A) : Env → List A → A → List A → Rs A := fun e te o as => match f e te o as with
  | .bad => g e te o as
  | r => r
section
variable {K : KW} {B : Bs} {W : WX}
/-- [[]] -/
def mNest : ME := fun env _ => .ok (.own (.ll [[]])) env
/-- the top goes into what lies under it -/
theorem RelF.join {F H H' : Hp} {O : Addr → Option Nat} {σ : List (Option V)} {env : Env} {ts : List V} {te : List A} {y w : V} {c : A} {o o' : Ow} (R : RelF K B F O σ env (y :: w :: ts) (c :: .own o :: te) H) (hH : ∀ b, O b ≠ some (σ.length + ts.length) → H' b = H b) (hn : ∀ b, O b = some (σ.length + ts.length) → MutO (H' b))
    (new : OwO K F H' (fun a => (O a = some (σ.length + ts.length) ∨ O a = some (σ.length + ts.length + 1)) ∧ B.H a = none) w o') : RelF K B F (fun b => if O b = some (σ.length + ts.length + 1) then some (σ.length + ts.length) else O b) σ env (w :: ts) (.own o' :: te) H' := by
  have ln := R.ln
  have kb : ∀ j, j < σ.length + ts.length → ∀ b, O b = some j → (fun b => if O b = some (σ.length + ts.length + 1) then some (σ.length + ts.length) else O b) b = some j ∧ H' b = H b := fun j nj b z =>
    ⟨(if_neg (by rw [z]; exact fun q => by have := Option.some.inj q; omega)).trans z, hH b (by rw [z]; exact fun q => by have := Option.some.inj q; omega)⟩
  have rf : ∀ j w, σ[j]? = some (some w) → j < σ.length + ts.length := fun j w e => by have := (List.getElem?_eq_some_iff.mp e).1; omega
  have cm : ∀ {j : Nat} {u : V} {c : A}, CellO K B F H O σ j u c → j < σ.length + ts.length → CellO K B F H' (fun b => if O b = some (σ.length + ts.length + 1) then some (σ.length + ts.length) else O b) σ j u c := fun {j u c} h nj => by
    refine h.mono (Same.refl F) (kb j nj) (fun _ _ => rfl) (fun _ _ _ _ z => z) (fun i k e b z => ?_)
    rw [e] at h
    obtain ⟨w, hw, _⟩ := h
    exact kb i (rf i w hw) b z
  have tm : ∀ {us : List V} {ue : List A}, us.length ≤ ts.length → TmO K B F H O σ us ue → TmO K B F H' (fun b => if O b = some (σ.length + ts.length + 1) then some (σ.length + ts.length) else O b) σ us ue := fun {us} => by
    induction us with
    | nil => intro ue _ h; cases ue with
      | nil => trivial
      | cons => exact h.elim
    | cons u us ih =>
      intro ue hl h
      cases ue with
      | nil => exact h.elim
      | cons x ue =>
        rw [List.length_cons] at hl
        exact ⟨cm h.1 (by omega), ih (by omega) h.2⟩
  have nbH : ∀ b j, O b = some j → σ.length ≤ j → B.H b = none := fun b j zj lj => by
    rcases (R.of b j zj).2.2.2 with y | y
    · exact y
    · obtain ⟨o9, h9⟩ := R.bi _ y.2
      have := (List.getElem?_eq_some_iff.mp h9).1
      omega
  refine ⟨ln, fun j c e => ?_, ⟨?_, tm (Nat.le_refl _) R.tm.2.2⟩, fun b u e => ?_, fun b j z => ?_, R.b1, fun b u hs ht e => ?_, R.b3, fun b e => ?_, R.bi, R.tb.1, R.tb.2.mono fun b o t z => by rw [hH b (by rw [R.noT t z]; exact nofun)]; exact z⟩
  · obtain ⟨u, e1, h⟩ := R.sl j c e
    exact ⟨u, e1, cm h (rf j u e1)⟩
  · refine OwO.mono (own := fun a => (O a = some (σ.length + ts.length) ∨ O a = some (σ.length + ts.length + 1)) ∧ B.H a = none) (Same.refl F) (fun a z => ⟨?_, z.2⟩) (fun _ _ => rfl) new
    rcases z.1 with z | z
    · exact (if_neg (by rw [z]; exact fun q => by have := Option.some.inj q; omega)).trans z
    · exact if_pos z
  · by_cases hb : O b = some (σ.length + ts.length)
    · rw [(R.of b _ hb).1] at e
      cases e
    · rw [hH b hb]
      exact R.sf b u e
  · have z : (if O b = some (σ.length + ts.length + 1) then some (σ.length + ts.length) else O b) = some j := z
    by_cases h1 : O b = some (σ.length + ts.length + 1)
    · rw [if_pos h1] at z
      cases z
      obtain ⟨q1, q2, q3, q4⟩ := R.of b _ h1
      refine ⟨q1, ?_, by rw [List.length_cons]; omega, .inl (nbH b _ h1 (by omega))⟩
      rw [hH b (by rw [h1]; exact fun q => by have := Option.some.inj q; omega)]
      exact q2
    · rw [if_neg h1] at z
      obtain ⟨q1, q2, q3, q4⟩ := R.of b j z
      refine ⟨q1, ?_, ?_, q4⟩
      · by_cases hb : O b = some (σ.length + ts.length)
        · exact hn b hb
        · rw [hH b hb]; exact q2
      · rw [List.length_cons, List.length_cons] at q3
        rw [List.length_cons]
        have : j ≠ σ.length + ts.length + 1 := fun y => h1 (by rw [z, y])
        omega
  · by_cases hb : O b = some (σ.length + ts.length)
    · rw [nbH b _ hb (by omega)] at e; cases e
    · rw [hH b hb]
      exact R.b2 b u hs ht e
  · by_cases hb : O b = some (σ.length + ts.length)
    · exact (hn b hb).1
    · rw [hH b hb]
      exact R.b5 b e
/-! ### dict displays -/
def flatM : List (ME × ME) → MA
  | [] => mNil
  | (k, v) :: r => mCons k (mCons v (flatM r))
def pairUp {α : Type} : List α → List (α × α)
  | k :: v :: r => (k, v) :: pairUp r
  | _ => []
inductive SPs (K : KW) (B : Bs) (W : WX) : List (TE × TE) → List (ME × ME) → Prop
  | nil : SPs K B W [] []
  | cons {tk tv : TE} {mk mv : ME} {tr : List (TE × TE)} {mr : List (ME × ME)} : SE K B W tk mk → SE K B W tv mv → SPs K B W tr mr → SPs K B W ((tk, tv) :: tr) ((mk, mv) :: mr)
def PPs' (K : KW) (B : Bs) (W : WX) (σ : L2.St) (ts : List V) (te : List A) (Q : List (V × V) → Hp → Prop) : Rs (List A) → Prop
  | .ok as e => ∀ vs H, vs.length = as.length → Rel K B σ e (vs.reverse ++ ts) (as.reverse ++ te) H → Q (pairUp vs) H
  | .ex x e => XPost K B W σ ts te x e
  | .bad => False
theorem sps_run {trs : List (TE × TE)} {ms : List (ME × ME)} (h : SPs K B W trs ms) : ∀ {σ : L2.St} {env : Env} {ts : List V} {te : List A} {H : Hp} {Q : List (V × V) → Hp → Prop}, Rel K B σ env ts te H → PPs' K B W σ ts te Q (flatM ms env te) → tPairs trs σ H Q := by
  induction h with
  | nil => intro σ env ts te H Q R p; exact p [] H rfl R
  | @cons tk tv mk mv tr mr h1 h2 h3 ih =>
    intro σ env ts te H Q R p
    have p : PPs' K B W σ ts te Q ((mk env te).bind fun a e1 => ((mv e1 (a :: te)).bind fun b e2 => (flatM mr e2 (b :: a :: te)).bind fun as e3 => Rs.ok (b :: as) e3).bind fun as e2 => .ok (a :: as) e2) := p
    refine h1 σ env ts te H _ R ?_
    cases q : mk env te with
    | ex x e => rw [q] at p; exact p
    | bad => rw [q] at p; exact p
    | ok a e1 =>
      rw [q] at p
      simp only [Rs.bind_ok] at p
      intro x H1 R1
      refine h2 σ e1 _ _ H1 _ R1 ?_
      cases q2 : mv e1 (a :: te) with
      | ex y e => rw [q2] at p; exact XPost.push p x a
      | bad => rw [q2] at p; exact p
      | ok b e2 =>
        rw [q2] at p
        simp only [Rs.bind_ok] at p
        intro y H2 R2
        refine ih (Q := fun ps H3 => Q ((x, y) :: ps) H3) R2 ?_
        cases q3 : flatM mr e2 (b :: a :: te) with
        | ex z e => rw [q3] at p; exact XPost.push (XPost.push p x a) y b
        | bad => rw [q3] at p; exact p
        | ok as e3 =>
          rw [q3] at p
          intro vs H3 hl R3
          refine p (x :: y :: vs) H3 (by rw [List.length_cons, List.length_cons, List.length_cons, List.length_cons, hl]) ?_
          rw [List.reverse_cons, List.reverse_cons, List.append_assoc, List.append_assoc, List.reverse_cons, List.reverse_cons, List.append_assoc, List.append_assoc]
          exact R3
def keyPs : List (Dt × Dt) → Option (List (Key × Dt))
  | [] => some []
  | (k, x) :: r => match keyD k, keyPs r with
    | some k', some r' => some ((k', x) :: r')
    | _, _ => none
def mergeD (kvs : List (Key × Dt)) : List (Key × Dt) := kvs.foldl (fun acc kv => putD acc kv.1 kv.2) []
def mDisp (ms : List (ME × ME)) : ME := fun env te => (flatM ms env (.own (.dc []) :: te)).bind fun as e => match (dAll as).bind fun xs => keyPs (pairUp xs) with
  | some kvs => if kvs.length ≤ 15 then .ok (.own (.dc (mergeD kvs))) e else .bad
  | none => .bad
theorem keyPs_dn {F : Hp} : ∀ {vs : List V} {xs : List Dt} {kvs : List (Key × Dt)}, DnAll K F vs xs → keyPs (pairUp xs) = some kvs → ∃ us : List (Key × V), pairUp vs = us.map (fun kv => (kV kv.1, kv.2)) ∧ Paired (fun (p : Key × V) (q : Key × Dt) => p.1 = q.1 ∧ Dn K F p.2 q.2) us kvs
  | _, _, _, .nil, h => by cases h; exact ⟨[], rfl, .nil⟩
  | _, _, _, .cons _ .nil, h => by cases h; exact ⟨[], rfl, .nil⟩
  | _, _, kvs, .cons (v := v1) (d := k1) h1 (.cons (v := v2) (d := x2) h2 r), h => by
    rename_i vs ds
    have h : (match keyD k1, keyPs (pairUp ds) with | some k', some r' => some ((k', x2) :: r') | _, _ => none) = some kvs := h
    cases e1 : keyD k1 with
    | none => rw [e1] at h; cases h
    | some k =>
      cases e2 : keyPs (pairUp ds) with
      | none => rw [e1, e2] at h; cases h
      | some kr =>
        rw [e1, e2] at h
        cases h
        obtain ⟨us, eu, pr⟩ := keyPs_dn r e2
        refine ⟨(k, v2) :: us, ?_, .cons ⟨rfl, h2⟩ pr⟩
        show (v1, v2) :: pairUp vs = _
        rw [eu, keyD_kV h1 e1]
        rfl
theorem paired_merge {F : Hp} : ∀ {us : List (Key × V)} {kvs : List (Key × Dt)} {ua : List (Key × V)} {ka : List (Key × Dt)}, Paired (fun (p : Key × V) (q : Key × Dt) => p.1 = q.1 ∧ Dn K F p.2 q.2) us kvs → Paired (fun (p : Key × V) (q : Key × Dt) => p.1 = q.1 ∧ Dn K F p.2 q.2) ua ka →
    Paired (fun (p : Key × V) (q : Key × Dt) => p.1 = q.1 ∧ Dn K F p.2 q.2) (us.foldl (fun acc kv => putK acc kv.1 kv.2) ua) (kvs.foldl (fun acc kv => putD acc kv.1 kv.2) ka)
  | _, _, _, _, .nil, h => h
  | _, _, _, _, .cons g r, h => by
    rw [List.foldl_cons, List.foldl_cons, g.1]
    exact paired_merge r (paired_put (R := Dn K F) h g.2)
theorem se_disp {trs : List (TE × TE)} {ms : List (ME × ME)} (h : SPs K B W trs ms) : SE K B W (tDisp trs) (mDisp ms) := by
  intro σ env ts te H Q R p l nl
  obtain ⟨F, O, R⟩ := R
  have R1 : Rel K B σ env (.ref l :: ts) (.own (.dc []) :: te) (upd H l (.dK [])) := ⟨F, _, R.newL nl (o := .dK []) (mutO_dK []) (w := .dc []) fun own hp => ⟨l, [], rfl, hp, upd_same, .nil⟩⟩
  refine sps_run h R1 ?_
  have p : PE' K B W σ ts te Q ((flatM ms env (.own (.dc []) :: te)).bind fun as e => match (dAll as).bind fun xs => keyPs (pairUp xs) with | some kvs => if kvs.length ≤ 15 then .ok (.own (.dc (mergeD kvs))) e else .bad | none => .bad) := p
  cases q : flatM ms env (.own (.dc []) :: te) with
  | ex x e => rw [q] at p; exact XPost.push p _ _
  | bad => rw [q] at p; exact p
  | ok as e =>
    rw [q] at p
    simp only [Rs.bind_ok] at p
    intro vs H2 hl R2
    cases ed : dAll as with
    | none => simp only [ed, Option.bind_none] at p; exact False.elim p
    | some xs =>
      cases ek : keyPs (pairUp xs) with
      | none => simp only [ed, Option.bind_some, ek] at p; exact False.elim p
      | some kvs =>
        simp only [ed, Option.bind_some, ek] at p
        split at p
        · rename_i hz
          obtain ⟨F2, O2, R3, d⟩ := args_dn hl R2 ed
          obtain ⟨us, eu, pr⟩ := keyPs_dn d ek
          obtain ⟨a, us0, ea, oa, ha, pr0⟩ := R3.tm.1
          cases ea
          cases pr0
          refine ⟨ha, us, eu, by rw [pr.length]; exact hz, p _ _ ⟨F2, O2, R3.mutT (o' := .dc (mergeD kvs)) (fun b nb => upd_ne (fun z => nb (by rw [z]; exact oa.1))) (fun b hb => ?_) ⟨l, _, rfl, oa, upd_same, paired_merge pr .nil⟩⟩⟩
          by_cases hb2 : b = l
          · rw [hb2, upd_same]; exact mutO_dK _
          · rw [upd_ne hb2]; exact (R3.of b _ hb).2.1
        · exact False.elim p
/-- {k: a list} -/
def mDisp1 (mk mv : ME) : ME := fun env te => (mk env (.own (.dc []) :: te)).bind fun a e1 => (mv e1 (a :: .own (.dc []) :: te)).bind fun b e2 => match a, b with
  | .d kd, .own (.l ys) => (match keyD kd with
    | some k => .ok (.own (.dl [(k, ys)])) e2
    | none => .bad)
  | _, _ => .bad
theorem se_disp1 {tk tv : TE} {mk mv : ME} (h1 : SE K B W tk mk) (h2 : SE K B W tv mv) : SE K B W (tDisp [(tk, tv)]) (mDisp1 mk mv) := by
  intro σ env ts te H Q R p l nl
  obtain ⟨F, O, R⟩ := R
  have R1 : Rel K B σ env (.ref l :: ts) (.own (.dc []) :: te) (upd H l (.dK [])) := ⟨F, _, R.newL nl (o := .dK []) (mutO_dK []) (w := .dc []) fun own hp => ⟨l, [], rfl, hp, upd_same, .nil⟩⟩
  unfold mDisp1 at p
  refine h1 σ env _ _ _ _ R1 ?_
  cases q : mk env (.own (.dc []) :: te) with
  | ex x e => rw [q] at p; exact XPost.push p _ _
  | bad => rw [q] at p; exact p
  | ok a e1 =>
    rw [q] at p
    simp only [Rs.bind_ok] at p
    intro x H1 R2
    refine h2 σ e1 _ _ H1 _ R2 ?_
    cases q2 : mv e1 (a :: .own (.dc []) :: te) with
    | ex y e => rw [q2] at p; exact XPost.push (XPost.push p _ _) _ _
    | bad => rw [q2] at p; exact p
    | ok b e2 =>
      rw [q2] at p
      simp only [Rs.bind_ok] at p
      intro y H2 R3
      split at p
      · rename_i kd ys
        cases ek : keyD kd with
        | none => simp only [ek] at p; exact False.elim p
        | some k =>
          simp only [ek] at p
          obtain ⟨F3, O3, R3⟩ := R3
          have ex := keyD_kV (show Dn K F3 x kd from R3.tm.2.1) ek
          obtain ⟨O4, R4⟩ : ∃ O4, RelF K B F3 O4 σ e2 (y :: .ref l :: ts) (.own (.l ys) :: .own (.dc []) :: te) H2 := ⟨_, R3.mid rfl⟩
          obtain ⟨a0, us0, ea, oa, ha, pr0⟩ := R4.tm.2.1
          cases ea
          cases pr0
          obtain ⟨qa, vs, ey, oq, hq, d⟩ := R4.tm.1
          subst ey
          have nq : qa ≠ l := fun z => by
            rw [z] at oq
            have h1 := oq.1
            rw [oa.1] at h1
            have := Option.some.inj h1
            rw [List.length_cons] at this
            omega
          refine ⟨ha, [(k, .ref qa)], by rw [ex]; rfl, by show 1 ≤ 15; omega, p _ _ ⟨F3, _, R4.join (o' := .dl [(k, ys)]) (fun b nb => upd_ne (fun z => nb (by rw [z]; exact oa.1))) (fun b hb => ?_) ⟨l, [(k, .ref qa)], rfl, ⟨.inl oa.1, oa.2⟩, upd_same, ⟨List.pairwise_singleton _ _, List.pairwise_singleton _ _⟩, fun z => nq (V.ref.inj (List.mem_singleton.mp z)).symm, .cons ⟨rfl, qa, vs, rfl, ⟨.inr oq.1, oq.2⟩, by rw [upd_ne nq]; exact hq, d⟩ .nil⟩⟩⟩
          by_cases hb2 : b = l
          · rw [hb2, upd_same]; exact mutO_dK _
          · rw [upd_ne hb2]; exact (R4.of b _ hb).2.1
      · exact False.elim p
end
end Tw

namespace Tw
open PySem PySem.Spec PyProof.Rows L2
/-! ### calls that raise nothing -/
def DRs.noX : DRs → DRs
  | .ex _ _ => .bad
  | r => r
@[simp] theorem DRs.noX_ok (a : A) (l : List A) : (DRs.ok a l).noX = .ok a l := rfl
@[simp] theorem DRs.noX_bad : DRs.bad.noX = .bad := rfl
def noXf (f : DF) : DF := fun as => (f as).noX
/-- a def's promise, with the number of its parameters -/
def spN (K : KW) (f : DF) (k : Nat) : Sp := fun vs H Q E => vs.length = k ∧ spM K f vs H Q E
theorem spN_bad {K : KW} {k : Nat} (vs : List V) (H : Hp) (Q : VK) (E : XK) (h : spN K (fun _ => .bad) k vs H Q E) : False := by
  obtain ⟨_, F, O, as, S, io, hl, kd, R, p⟩ := h
  exact p
/-- the law itself: a script, and True -/
def sp_law (K : PySem.W.Frag) : Sp := fun vs H Q _ => ∃ (a : Addr) (ns : List Int), vs = [.ref a] ∧ SqL K H a (ns.map V.int) ∧ ns.length ≤ 63 ∧ ∀ H', Q (.bl true) H'
/-- the law itself, with its tables of code objects, empty as yet -/
def sp_lawT (K : KW) : Sp := fun vs H Q _ => ∃ (a : Addr) (ns : List Int), vs = [.ref a] ∧ SqL K H a (ns.map V.int) ∧ ns.length ≤ 63 ∧ (∀ p ∈ K.T, H p.1 = some (.tbl #[])) ∧ ∀ H', Q (.bl true) H'
theorem law_pureT {K : KW} {f : DF} (h : ∀ ns : List Int, ns.length ≤ 63 → ∃ ios, f [.sc ns] = .ok (.d (.bool true)) ios) (vs : List V) (H : Hp) (Q : VK) (E : XK) (p : sp_lawT K vs H Q E) : spM K f vs H Q E := by
  obtain ⟨a, ns, rfl, hS, hl, hT, q⟩ := p
  obtain ⟨ios, hf⟩ := h ns hl
  let F0 : Hp := fun b => if (K.T.any fun p => p.1 == b) = true then none else H b
  have f0 : ∀ b o, F0 b = some o → H b = some o := fun b o e => by
    have e : (if (K.T.any fun p => p.1 == b) = true then none else H b) = some o := e
    split at e
    · cases e
    · exact e
  have f1 : ∀ b o, (∀ ps, o ≠ .tbl ps) → H b = some o → F0 b = some o := fun b o n e => by
    show (if (K.T.any fun p => p.1 == b) = true then none else H b) = some o
    rw [if_neg]
    · exact e
    · intro z
      obtain ⟨p, hp, e2⟩ := List.any_eq_true.mp z
      have e2 := beq_iff_eq.mp e2
      have t := hT p hp
      rw [e2, e] at t
      exact n _ (Option.some.inj t)
  have hS' : SqL K F0 a (ns.map V.int) := by
    rcases hS with (z | ⟨o, z⟩) | z
    · exact .inl (.inl (f1 _ _ (fun _ z => nomatch z) z))
    · exact .inl (.inr ⟨o, f1 _ _ (fun _ z => nomatch z) z⟩)
    · exact .inr z
  refine ⟨F0, fun _ => none, [.sc ns], fun _ => none, fun _ => false, rfl, fun i x e => ?_, ⟨rfl, fun i x e => ?_, trivial, f0, fun b j z => (nomatch z), Same.refl F0, fun b o _ _ e => e, fun b h1 h2 => absurd h1 h2, fun b h => h, (fun i h => nomatch h), fun p hp => ⟨?_, ?_, rfl⟩, fun p hp => LamX.TabS.nil (hT p hp)⟩, ?_⟩
  · match i, e with
    | 0, e => cases e; exact .inr (.inl ⟨ns, rfl⟩)
    | n + 1, e => simp at e
  · match i, e with
    | 0, e => cases e; exact ⟨.ref a, rfl, a, rfl, hS'⟩
    | n + 1, e => simp at e
  · show (if (K.T.any fun q => q.1 == p.1) = true then none else H p.1) = none
    exact if_pos (show (K.T.any fun q => q.1 == p.1) = true from List.any_eq_true.mpr ⟨p, hp, by show (p.1 == p.1) = true; exact beq_self_eq_true _⟩)
  · show H p.1 ≠ none
    rw [hT p hp]
    exact nofun
  · rw [hf]
    intro F O v H' R c
    have c : Dn K F v (.bool true) := c
    cases c
    exact q H'
theorem law_pure {K : KW} {f : DF} (h : ∀ ns : List Int, ns.length ≤ 63 → ∃ ios, f [.sc ns] = .ok (.d (.bool true)) ios) (vs : List V) (H : Hp) (Q : VK) (E : XK) (p : sp_law K vs H Q E) (hT : K.T = [] := by rfl) : spM K f vs H Q E := by
  obtain ⟨a, ns, e, hS, hl, q⟩ := p
  exact law_pureT h vs H Q E ⟨a, ns, e, hS, hl, (fun p hp => by rw [hT] at hp; cases hp), q⟩
/-! ### a, b = e1, e2 -/
def mPar (i j : Nat) (m : MA) : MS := fun env te => (m env te).fl fun as e => match as with
  | [a, b] => (match gN j b e (a :: te) with
    | some e1 => (match gN i a e1 te with
      | some e2 => .nx e2
      | none => .bad)
    | none => .bad)
  | _ => .bad
def mPar3 (i j l : Nat) (m : MA) : MS := fun env te => (m env te).fl fun as e => match as with
  | [a, b, c] => (match gN l c e (b :: a :: te) with
    | some e0 => (match gN j b e0 (a :: te) with
      | some e1 => (match gN i a e1 te with
        | some e2 => .nx e2
        | none => .bad)
      | none => .bad)
    | none => .bad)
  | _ => .bad
def mChain (g1 g2 : Dt → Dt → Option Dt) (ma mb mc : ME) : ME := fun env te => (ma env te).bind fun a e1 => (mb e1 (a :: te)).bind fun b e2 => match (match a.val e2, b.val e2 with | some x, some y => g1 x y | _, _ => none) with
  | some (.bool true) => if isIo b = true then .bad else (mc e2 (b :: te)).bind fun c e4 => fl2 g2 e4 b c
  | some (.bool false) => .ok (.d (.bool false)) e2
  | _ => .bad
section
variable {K : KW} {B : Bs} {W : WX}
theorem se_call0 {f : DF} {io : List Bool} {k : Nat} {t : TA} {m : MA} (hk : io.length = k) (h : SA K B W t m) : SE K B W (tCall (spN K f k) [] E0 t) (mCall (noXf f) io m) := by
  refine se_callG (sp := spN K f k) (E := fun _ => E0) (fun σ vs H Q hv p => ?_) h
  obtain ⟨F, O, as, S, io, hl, kd, R, p⟩ := p
  refine ⟨hv.trans hk, F, O, as, S, io, hl, kd, R, ?_⟩
  unfold noXf at p
  cases q : f as with
  | ok r ios => rw [q] at p; exact p
  | ex x ios => rw [q] at p; exact False.elim p
  | bad => rw [q] at p; exact p
theorem se_chain {r r' : R2} {g1 g2 : Dt → Dt → Option Dt} {ta tb tc : TE} {ma mb mc : ME} (o : OpS K r g1) (o' : OpS K r' g2) (ha : SE K B W ta ma) (hb : SE K B W tb mb) (hc : SE K B W tc mc) : SE K B W (tChain r r' ta tb tc) (mChain g1 g2 ma mb mc) := by
  intro σ env ts te H Q R p
  refine ha.thE R p fun a e p v H1 R1 => ?_
  refine hb σ e (v :: ts) (a :: te) H1 _ R1 ?_
  cases q : mb e (a :: te) with
  | ex x e2 => rw [q] at p; exact XPost.push p v a
  | bad => rw [q] at p; exact p
  | ok b e2 =>
    rw [q] at p
    simp only [Rs.bind_ok] at p
    rintro u H2 ⟨F2, O2, R2⟩
    cases ea : a.val e2 with
    | none => simp only [ea] at p; exact False.elim p
    | some x =>
      cases eb : b.val e2 with
      | none => simp only [ea, eb] at p; exact False.elim p
      | some y =>
        simp only [ea, eb] at p
        cases eg : g1 x y with
        | none => simp only [eg] at p; exact False.elim p
        | some z =>
          obtain ⟨hf, hr⟩ := o H2 v u x y z (fun z H3 => ∃ k, z = .bl k ∧ (if k = true then tc σ H3 fun w' H4 => r' u w' H4 Q else Q (.bl false) H3)) (cell_val R2 R2.tm.2.1 ea) (cell_val R2 R2.tm.1 eb) eg
          refine hr ?_
          cases z with
          | bool c =>
            refine ⟨c, rfl, ?_⟩
            cases c with
            | false => simp only [eg] at p; rw [if_neg Bool.false_ne_true]; exact p _ H2 (R2.pop.pop.pushD (.bl _))
            | true =>
              simp only [eg] at p
              rw [if_pos rfl]
              split at p
              · exact False.elim p
              · rename_i nb
                have R3 : Rel K B σ e2 (u :: ts) (b :: te) H2 := ⟨F2, _, R2.mid (by simpa using nb)⟩
                refine hc σ e2 _ _ H2 _ R3 ?_
                cases q2 : mc e2 (b :: te) with
                | ex x e4 => rw [q2] at p; exact XPost.push p u b
                | bad => rw [q2] at p; exact p
                | ok c e4 => rw [q2] at p; intro w H4 R4; exact so2_fl o' σ e4 ts te H4 Q u w b c R4 p
          | _ => simp only [eg] at p; exact False.elim p
theorem ss_par {i j : Nat} {t : TA} {m : MA} (h : SA K B W t m) (hij : i ≠ j) : SS K B W (tPar i j t) (mPar i j m) := by
  intro σ env ts te H D R p
  refine h σ env ts te H _ R ?_
  unfold mPar at p
  cases q : m env te with
  | ex x e => rw [q] at p; exact p σ
  | bad => rw [q] at p; exact p
  | ok as e =>
    rw [q] at p
    simp only [Rs.fl_ok] at p
    intro vs H1 hl R1
    match as, vs, hl, p, R1 with
    | [a, b], [v, w], _, p, R1 =>
      refine ⟨v, w, rfl, ?_⟩
      cases q1 : gN j b e (a :: te) with
      | none => simp only [q1] at p; exact False.elim p
      | some e1 =>
        simp only [q1] at p
        cases q2 : gN i a e1 te with
        | none => simp only [q2] at p; exact False.elim p
        | some e2 =>
          simp only [q2] at p
          rw [List.set_comm _ _ hij]
          exact p _ _ (rel_set (rel_set R1 q1) q2)
    | [], [], _, p, _ => exact False.elim p
    | [_], [_], _, p, _ => exact False.elim p
    | _ :: _ :: _ :: _, _ :: _ :: _ :: _, _, p, _ => exact False.elim p
/-- a, b = x, y where a pair is made (names of cells) -/
theorem ss_parT {i j : Nat} {t : TA} {m : MA} (h : SA K B W t m) (hij : i ≠ j) : SS K B W (tAsg (tTupF t) (gTup K 2 (gNames [i, j]))) (mPar i j m) := by
  intro σ env ts te H D R p
  refine h σ env ts te H _ R ?_
  unfold mPar at p
  cases q : m env te with
  | ex x e => rw [q] at p; exact p σ
  | bad => rw [q] at p; exact p
  | ok as e =>
    rw [q] at p
    simp only [Rs.fl_ok] at p
    intro vs H1 hl R1
    match as, vs, hl, p, R1 with
    | [a, b], [v, w], _, p, R1 =>
      refine ⟨by show 2 ≤ sizeLine; rw [PySem.sizeLine_eq]; decide, fun pp ob nl hob => ⟨pp, [v, w], rfl, .inl (.inr ⟨ob, upd_same⟩), rfl, g_names rfl ?_⟩⟩
      obtain ⟨F, O, R1⟩ := R1
      have R2 : Rel K B σ e ([v, w].reverse ++ ts) ([a, b].reverse ++ te) _ := ⟨_, _, R1.new nl (.frz ob (.tup [v, w]))⟩
      cases q1 : gN j b e (a :: te) with
      | none => simp only [q1] at p; exact False.elim p
      | some e1 =>
        simp only [q1] at p
        cases q2 : gN i a e1 te with
        | none => simp only [q2] at p; exact False.elim p
        | some e2 =>
          simp only [q2] at p
          show D.nx ((σ.set i (some v)).set j (some w)) _
          rw [List.set_comm _ _ hij]
          exact p _ _ (rel_set (rel_set R2 q1) q2)
    | [], [], _, p, _ => exact False.elim p
    | [_], [_], _, p, _ => exact False.elim p
    | _ :: _ :: _ :: _, _ :: _ :: _ :: _, _, p, _ => exact False.elim p
theorem ss_par3 {i j l : Nat} {t : TA} {m : MA} (h : SA K B W t m) (h1 : i ≠ j) (h2 : i ≠ l) (h3 : j ≠ l) : SS K B W (tPar3 i j l t) (mPar3 i j l m) := by
  intro σ env ts te H D R p
  refine h σ env ts te H _ R ?_
  unfold mPar3 at p
  cases q : m env te with
  | ex x e => rw [q] at p; exact p σ
  | bad => rw [q] at p; exact p
  | ok as e =>
    rw [q] at p
    simp only [Rs.fl_ok] at p
    intro vs H1 hl R1
    match as, vs, hl, p, R1 with
    | [a, b, c], [v, w, x], _, p, R1 =>
      refine ⟨v, w, x, rfl, ?_⟩
      cases q0 : gN l c e (b :: a :: te) with
      | none => simp only [q0] at p; exact False.elim p
      | some e0 =>
        simp only [q0] at p
        cases q1 : gN j b e0 (a :: te) with
        | none => simp only [q1] at p; exact False.elim p
        | some e1 =>
          simp only [q1] at p
          cases q2 : gN i a e1 te with
          | none => simp only [q2] at p; exact False.elim p
          | some e2 =>
            simp only [q2] at p
            have := p _ _ (rel_set (rel_set (rel_set R1 q0) q1) q2)
            rw [List.set_comm _ _ h1, List.set_comm _ _ h2, List.set_comm _ _ h3]
            exact this
    | [], [], _, p, _ => exact False.elim p
    | [_], [_], _, p, _ => exact False.elim p
    | [_, _], [_, _], _, p, _ => exact False.elim p
    | _ :: _ :: _ :: _ :: _, _ :: _ :: _ :: _ :: _, _, p, _ => exact False.elim p
end
end Tw

namespace Tw
open PySem PySem.Spec PyProof.Rows L2
def mDnew : ME := fun env _ => .ok (.own (.dc [])) env
section
variable {K : KW} {B : Bs} {W : WX}
end
/-! ### texts in order -/
/-! ### a, b = a list -/
def gL (is : List Nat) : MG := fun a env te => match a.lst? env with
  | some xs => gTs is xs env te
  | none => none
end Tw

namespace Tw
open PySem PySem.Spec PyProof.Rows L2
/-! ### sets of texts -/
/-- what tells of a thing that has no fields is no code object -/
theorem ext_code {φ : Heap → Prop} (h : ∀ hp, φ hp → ∃ a o, hp.get? a = some o ∧ ∀ vs, o.data ≠ .fields vs) (c : Addr) (q : Str) : HO.ext φ ≠ LamX.CodeO c q := fun z => by
  unfold LamX.CodeO at z
  injection z with z
  let ob : Obj := { cls := .none, data := .fields #[.none, .str q 0] }
  let hp : Heap := { objs := Array.replicate (c + 1) ob }
  have g : ∀ a o, hp.get? a = some o → o = ob := fun a o e => by
    unfold Heap.get? at e
    by_cases l : a < c + 1
    · have e2 : hp.objs[a]? = some ob := by simp [hp, l]
      rw [e2] at e
      exact (Option.some.inj e).symm
    · have e2 : hp.objs[a]? = none := Array.getElem?_eq_none (by show (Array.replicate (c + 1) ob).size ≤ a; rw [Array.size_replicate]; exact Nat.not_lt.mp l)
      rw [e2] at e
      cases e
  have gc : hp.get? c = some ob := by
    unfold Heap.get?
    have e2 : hp.objs[c]? = some ob := by simp [hp]
    rw [e2]
  have p : φ hp := by
    rw [z]
    exact ⟨ob, _, _, gc, rfl, rfl⟩
  obtain ⟨a, o, e, n⟩ := h hp p
  rw [g a o e] at n
  exact n _ rfl
theorem mutO_ext (φ : Heap → Prop) (h : ∀ hp, φ hp → ∃ a o, hp.get? a = some o ∧ ∀ vs, o.data ≠ .fields vs) : MutO (some (.ext φ)) :=
  ⟨nofun, fun _ z => (nomatch z), (fun _ _ z => nomatch z), (fun _ z => nomatch z), (fun _ z => nomatch z), fun c q z => ext_code h c q (Option.some.inj z)⟩
theorem mutO_setK (P : Program) (w : World) (a : Addr) (S : Key → Bool) (n : Nat) : MutO (some (SetK P w a S n)) := mutO_ext _ fun hp ⟨o, es, ep, t, e, r⟩ => ⟨a, o, e, fun vs z => by
  have d := r.2.1
  rw [z] at d
  cases d⟩
theorem mutO_dicT (P : Program) (w : World) (a : Addr) (us : List TK) : MutO (some (DicTX P w a us)) := mutO_ext _ fun hp ⟨_, _, _, _, o, es, ep, e, _, d, _⟩ => ⟨a, o, e, fun vs z => by
  rw [z] at d
  cases d⟩
theorem setS_mem (xs : List Str) (x : Str) : setS xs (.inr x) = decide (x ∈ xs) := by
  unfold setS
  rw [Bool.eq_iff_iff, List.any_eq_true, decide_eq_true_eq]
  constructor
  · rintro ⟨y, hy, e⟩
    have e := of_decide_eq_true e
    injection e with e
    rw [e]; exact hy
  · intro h
    exact ⟨x, h, decide_eq_true rfl⟩
/-- texts with one more, each once -/
def addS (xs : List Str) (x : Str) : List Str := if x ∈ xs then xs else xs ++ [x]
theorem setS_add (xs : List Str) (x : Str) : (fun j => setS xs j || decide (j = (.inr x : Key))) = setS (addS xs x) := by
  funext j
  unfold addS
  by_cases c : x ∈ xs
  · rw [if_pos c]
    by_cases e : j = .inr x
    · subst e
      rw [setS_mem, decide_eq_true c]; rfl
    · rw [decide_eq_false e, Bool.or_false]
  · rw [if_neg c]
    unfold setS
    rw [List.any_append]
    simp
theorem len_add (xs : List Str) (x : Str) : (if setS xs (.inr x) = true then xs.length else xs.length + 1) = (addS xs x).length := by
  unfold addS
  rw [setS_mem]
  by_cases c : x ∈ xs
  · rw [if_pos (decide_eq_true c), if_pos c]
  · rw [if_neg (by rw [decide_eq_false c]; exact Bool.false_ne_true), if_neg c, List.length_append]; rfl
def mSet0 : ME := fun env _ => .ok (.own (.x (.st []))) env
/-- the set that is told -/
def stAt (env : Env) : A → Option (Nat × List Str)
  | .rf i none => match owAt env i with
    | some (.x (.st xs)) => some (i, xs)
    | _ => none
  | _ => none
def setInA (neg : Bool) : Env → A → A → Rs A := fun env a b => match a, stAt env b with
  | .d (.str x), some q => .ok (.d (.bool (if neg then !decide (x ∈ q.2) else decide (x ∈ q.2)))) env
  | _, _ => .bad
def lenSA : Env → A → Rs A := fun env a => match stAt env a with
  | some q => if q.2.length ≤ 16777216 then .ok (.d (.int q.2.length)) env else .bad
  | none => .bad
def saddA (e2 : Env) (o : A) (as : List A) : Rs A := match stAt e2 o, as with
  | some (i, xs), [.d (.str x)] => (match e2[i]? with
    | some (some c) => if xs.length + 1 < scanBound then .ok (.d .none) (e2.set i (some (reOw c (.x (.st (addS xs x)))))) else .bad
    | _ => .bad)
  | _, _ => .bad
def mSAdd (mo : ME) (ma : MA) : ME := fun env te => (mo env te).bind fun o e1 => if (stAt e1 o).isSome = true then (ma e1 (o :: te)).bind fun as e2 => saddA e2 o as else .bad
/-- len(found) of a set -/
def rLenSK (P : Program) (w : World) : List V → Hp → VK → Prop := fun vs H Q => ∃ a S n, vs = [V.ref a] ∧ H a = some (SetK P w a S n) ∧ n ≤ 16777216 ∧ Q (.int (n : Nat)) H
theorem cr_lenSK {X : Cx} : CallR X (.builtin "len") (rLenSK X.prog X.w) := by
  intro pins s σ H xs us Q I r h
  obtain ⟨a, S, n, rfl, ha, hb, q⟩ := h
  rw [Vals.ref1 r]
  obtain ⟨o, es, ep, t, ho, hex, hd, _, _, hl, hf, hn⟩ := setK_get I ha
  exact call_len_set ho hex hd hf (by rw [hn]; omega) ⟨.int n, H, I.tok _, ⟨_, by rw [hn]⟩, q⟩
section
variable {K : KW} {B : Bs} {W : WX}
theorem se_set0 : SE K B W (tCB (rSet0K K.P K.w) tNil) mSet0 := by
  rintro σ env ts te H Q ⟨F, O, R⟩ p
  refine ⟨rfl, fun q hq => p _ _ ⟨F, _, R.newL hq (mutO_setK _ _ _ _ _) (w := .x (.st [])) fun own ho => ⟨q, rfl, ho, upd_same⟩⟩⟩
theorem st_cell {F H : Hp} {O : Addr → Option Nat} {σ : L2.St} {env : Env} {ts : List V} {te : List A} (R : RelF K B F O σ env ts te H) {j : Nat} {v : V} {a : A} {i : Nat} {xs : List Str} (c : CellO K B F H O σ j v a) (h : stAt env a = some (i, xs)) :
    ∃ q, v = .ref q ∧ a = .rf i none ∧ σ[i]? = some (some v) ∧ O q = some i ∧ owAt env i = some (.x (.st xs)) ∧ H q = some (SetK K.P K.w q (setS xs) xs.length) := by
  unfold stAt at h
  split at h
  · rename_i i'
    split at h
    · rename_i ys eo
      cases h
      obtain ⟨w, hw, e⟩ := c
      have e : v = w := e
      subst e
      obtain ⟨q, e1, o1, h1⟩ := R.owAt eo hw
      exact ⟨q, e1, rfl, hw, o1, eo, h1⟩
    · cases h
  · cases h
theorem so_setIn (neg : Bool) : SO2 K B W (rSInK K.P K.w neg) (setInA neg) := by
  rintro σ env ts te H Q v u a b ⟨F, O, R⟩ p
  unfold setInA at p
  split at p
  · rename_i x q e
    obtain ⟨i, xs⟩ := q
    have c1 : Dn K F v (.str x) := R.tm.2.1
    cases c1
    obtain ⟨q, rfl, rfl, hw, oq, eo, hq⟩ := st_cell R R.tm.1 e
    refine ⟨.inr x, q, _, _, rfl, rfl, hq, p _ _ ?_⟩
    have R2 := R.pop.pop
    rw [setS_mem]
    exact R2.pushD (.bl _)
  · exact False.elim p
theorem so1_lenS : SO1 K B W (fun v => rLenSK K.P K.w [v]) lenSA := by
  rintro σ env ts te H Q v a ⟨F, O, R⟩ p
  unfold lenSA at p
  split at p
  · rename_i q e
    obtain ⟨i, xs⟩ := q
    split at p
    · rename_i hb
      obtain ⟨q, rfl, rfl, hw, oq, eo, hq⟩ := st_cell R R.tm.1 e
      exact ⟨q, _, _, rfl, hq, hb, p _ _ (R.pop.pushD (.int _))⟩
    · exact False.elim p
  · exact False.elim p
theorem se_sadd {to : TE} {ta : TA} {mo : ME} {ma : MA} (ho : SE K B W to mo) (ha : SA K B W ta ma) : SE K B W (tSAddK K.P K.w to ta) (mSAdd mo ma) := by
  intro σ env ts te H Q R p
  refine ho.thE R p fun o e p v H1 R1 => ?_
  split at p
  case isFalse => exact False.elim p
  rename_i hi
  obtain ⟨⟨i, xs⟩, hi⟩ := Option.isSome_iff_exists.mp hi
  obtain ⟨F, O, R1'⟩ := id R1
  obtain ⟨q, e1, e2, hw, oq, eo, hq⟩ := st_cell R1' R1'.tm.1 hi
  refine ⟨⟨q, _, _, e1, hq⟩, ?_⟩
  refine ha σ e _ _ H1 _ R1 ?_
  cases qa : ma e (o :: te) with
  | ex x e2 => rw [qa] at p; exact XPost.push p v o
  | bad => rw [qa] at p; exact p
  | ok as e2' =>
    rw [qa] at p
    simp only [Rs.bind_ok] at p
    intro vs H2 hl ⟨F2, O2, R2⟩
    unfold saddA at p
    split at p
    · rename_i i2 xs2 x es
      split at p
      · rename_i c ec
        split at p
        · rename_i room
          cases vs with
          | nil => cases hl
          | cons y vs =>
            cases vs with
            | cons _ _ => cases hl
            | nil =>
              have R2 : RelF K B F2 O2 σ e2' (y :: v :: ts) (.d (.str x) :: o :: te) H2 := R2
              have cx : Dn K F2 y (.str x) := R2.tm.1
              cases cx
              obtain ⟨q2, e12, e22, hw2, oq2, eo2, hq2⟩ := st_cell R2 R2.tm.2.1 es
              refine ⟨q2, .inr x, _, _, e12, rfl, hq2, room, p _ _ ?_⟩
              have g := rel_give (o' := .x (.st (addS xs2 x))) (p := q2) (ob := SetK K.P K.w q2 (setS (addS xs2 x)) (addS xs2 x).length) R2 hw2 ec eo2 oq2 (mutO_setK _ _ _ _ _)
                (fun own' ho' => ⟨q2, e12, ho' q2 (.inl oq2), upd_same⟩)
                (fun O' hO' k' w' _ hat => by
                  obtain ⟨a', ea', oa', hh⟩ := hat
                  rw [e12] at ea'
                  cases ea'
                  rw [hq2] at hh
                  rcases hh with ⟨_, _, _, _, z, _⟩ | ⟨_, z, _⟩ <;> cases z)
              rw [setS_add, len_add]
              obtain ⟨F3, O3, R3⟩ := Rel.pop g
              exact R3.pushD .non
        · exact False.elim p
      · exact False.elim p
    · exact False.elim p
end
end Tw

namespace Tw
open PySem PySem.Spec PyProof.Rows L2
/-! ### dicts with None, truths, ints and texts as keys -/
section
variable {X : Cx} {pins : List (Addr × Obj)} {σ : L2.St} {H : Hp} {s : Shared} {a : Addr} {y v : V} {u r : Value} {A : Around} {E : Value → Shared → Prop} {us : List (Leaf × V)} {k : Leaf}
end
/-! readings -/
section
variable {X : Cx} {o i e value : Expr} {pos pos' : Pos} {td ty tv : TE}
end
/-! mirrors -/
section
variable {K : KW} {B : Bs} {W : WX}
end
end Tw

namespace Tw
open PySem PySem.Spec PyProof.Rows L2
/-! ### dicts whose keys are tuples of ints and texts -/
abbrev KX : List TK → List (List Key × Addr × Value) → Prop := Paired fun p q => p.1 = q.1 ∧ p.2.1 = q.2.1 ∧ RelV p.2.2 q.2.2
def valT (us : List TK) (k : List Key) : Option V := (us.find? fun u => decide (u.1 = k)).map (·.2.2)
def putT (us : List TK) (k : List Key) (b : Addr) (v : V) : List TK :=
  if (us.any fun u => decide (u.1 = k)) = true then us.map fun u => if u.1 = k then (u.1, u.2.1, v) else u else us ++ [(k, b, v)]
theorem kx_val {us : List TK} {xs : List (List Key × Addr × Value)} (r : KX us xs) (k : List Key) : RelO (valT us k) ((atKey xs k).map (·.2)) := by
  induction r with
  | nil => exact True.intro
  | @cons p q ps qs h t ih =>
    obtain ⟨h1, _, h2⟩ := h
    unfold valT atKey at ih ⊢
    rw [List.find?_cons, List.find?_cons, ← h1]
    by_cases e : p.1 = k
    · rw [decide_eq_true e]; exact h2
    · rw [decide_eq_false e]; exact ih
theorem kx_any {us : List TK} {xs : List (List Key × Addr × Value)} (r : KX us xs) (k : List Key) : (us.any fun u => decide (u.1 = k)) = (atKey xs k).isSome := by
  induction r with
  | nil => rfl
  | @cons p q ps qs h t ih =>
    unfold atKey at ih ⊢
    rw [List.any_cons, List.find?_cons, ← h.1]
    by_cases e : p.1 = k
    · rw [decide_eq_true e]; rfl
    · rw [decide_eq_false e]; exact ih
theorem kx_repl {us : List TK} {xs : List (List Key × Addr × Value)} (r : KX us xs) (k : List Key) {v : V} {u : Value} (rv : RelV v u) :
    KX (us.map fun u => if u.1 = k then (u.1, u.2.1, v) else u) (xs.map (putAt k u)) := by
  induction r with
  | nil => exact .nil
  | @cons p q ps qs h t ih =>
    rw [List.map_cons, List.map_cons]
    refine .cons ?_ ih
    obtain ⟨h1, h2, h3⟩ := h
    unfold putAt
    by_cases e : p.1 = k
    · rw [if_pos e, if_pos (h1.symm.trans e)]; exact ⟨h1, h2, rv⟩
    · rw [if_neg e, if_neg (fun z => e (h1.trans z))]; exact ⟨h1, h2, h3⟩
theorem kx_put {us : List TK} {xs : List (List Key × Addr × Value)} (r : KX us xs) (k : List Key) (b : Addr) {v : V} {u : Value} (rv : RelV v u) : KX (putT us k b v) (storedH xs k b u) := by
  unfold putT storedH
  rw [kx_any r k]
  by_cases q : (atKey xs k).isSome = true
  · rw [if_pos q, if_pos q]; exact kx_repl r k rv
  · rw [if_neg q, if_neg q]; exact Paired.snoc r ⟨rfl, rfl, rv⟩
theorem kx_len {us : List TK} {xs : List (List Key × Addr × Value)} (r : KX us xs) : us.length = xs.length := Paired.length r
theorem putT_len (us : List TK) (k : List Key) (b : Addr) (v : V) : (putT us k b v).length ≤ us.length + 1 := by
  unfold putT
  split
  · rw [List.length_map]; omega
  · rw [List.length_append]; exact Nat.le_refl _
/-- a tuple of ints and texts is a key -/
theorem keyT_of {X : Cx} {pins : List (Addr × Obj)} {σ : L2.St} {H : Hp} {s : Shared} {b : Addr} {ks : List Key} (I : Inv X pins σ H s) (h : SqT X.K H b (ks.map kV)) : (tupleKind (mixKind X.prog X.w)).is s.heap ks b := by
  obtain ⟨its, r, ⟨o, h1, h2, n, h3⟩, _⟩ := I.tuple h
  exact ⟨o, its.toArray, n, h1, h2, h3, by simpa using items_are r⟩
def KeysT (K : PySem.W.Frag) (H : Hp) (us : List TK) : Prop := ∀ u ∈ us, SqT K H u.2.1 (u.1.map kV)
section
variable {X : Cx} {pins : List (Addr × Obj)} {σ : L2.St} {H : Hp} {s : Shared} {a b : Addr} {v : V} {r : Value} {A : Around} {E : Value → Shared → Prop} {us : List TK} {k : List Key}
theorem dtx_get (I : Inv X pins σ H s) (e : H a = some (DicTX X.prog X.w a us)) (ks : KeysT X.K H us) : us.length ≤ sizeLine ∧ (a == sysModules) = false ∧ ∃ xs, KX us xs ∧ s.heap.DictOfH (tupleKind (mixKind X.prog X.w)) a xs := by
  obtain ⟨z, y, xs, r, o, es, ep, h1, h2, h3, h4, h5⟩ := (show _ ∧ _ from I.hok a _ e).1
  refine ⟨z, y, xs, r, o, es, ep, h1, h2, h3, h4, fun x hx => ?_, h5⟩
  have all : ∀ {l : List TK} {m : List (List Key × Addr × Value)}, KX l m → KeysT X.K H l → ∀ x ∈ m, (tupleKind (mixKind X.prog X.w)).is s.heap x.1 x.2.1 := by
    intro l m q
    induction q with
    | nil => intro _ x hx; exact nomatch hx
    | @cons p q ps qs hq t ih =>
      intro hk x hx
      rcases List.mem_cons.mp hx with e | hx
      · subst e
        rw [← hq.1, ← hq.2.1]
        exact keyT_of I (hk p List.mem_cons_self)
      · exact ih (fun u hu => hk u (List.mem_cons_of_mem _ hu)) x hx
  exact all r ks x hx
theorem dtx_new {P : Program} {w : World} {H : Hp} {h : Heap} {xs : List (List Key × Addr × Value)} (z : us.length ≤ sizeLine) (hd : (a == sysModules) = false) (rel : KX us xs) (dd : h.DictOfH (tupleKind (mixKind P w)) a xs) : ObjOk P w H h a (DicTX P w a us) := by
  obtain ⟨o, es, ep, h1, h2, h3, h4, _, h5⟩ := dd
  refine ⟨⟨z, hd, xs, rel, o, es, ep, h1, h2, h3, h4, h5⟩, ⟨o, h1⟩, fun g1 g2 ⟨z, hd, xs, rel, o, es, ep, e, c⟩ kp => ⟨z, hd, xs, rel, o, es, ep, kp _ e, c⟩⟩
theorem t_in {Q : Value → Shared → Prop} (hu : A.units + 1 < cLine) (I : Inv X pins σ H s) (e : H a = some (DicTX X.prog X.w a us)) (ks : KeysT X.K H us) (hb : SqT X.K H b (k.map kV)) (h : ∀ s', Inv X pins σ H s' → Q (.bool (valT us k).isSome) s') :
    wpAny (model X.prog X.w) A (compareOp .In (.ref b) (.ref a)) Q E s := by
  obtain ⟨z, hd, xs, rel, dd⟩ := dtx_get I e ks
  refine wpAny_in_heap (tupleKind_room_in1 hu) (keyT_of I hb) hd dd ?_
  have q := (kx_val rel k).isSome_eq
  rw [Option.isSome_map] at q
  rw [← q]
  exact h _ (I.tok _)
theorem t_getItem {Q : Value → Shared → Prop} (hu : A.units + 1 < cLine) (I : Inv X pins σ H s) (e : H a = some (DicTX X.prog X.w a us)) (ks : KeysT X.K H us) (hb : SqT X.K H b (k.map kV)) (l : valT us k = some v) (h : ∀ w' s', Inv X pins σ H s' → RelV v w' → Q w' s') :
    wpAny (model X.prog X.w) A (getItem (.ref a) (.ref b)) Q E s := by
  obtain ⟨z, hd, xs, rel, dd⟩ := dtx_get I e ks
  obtain ⟨w', hw, rw'⟩ := RelO.some_of (v := v) (o := (atKey xs k).map (·.2)) (by rw [← l]; exact kx_val rel k)
  obtain ⟨p, hp, hp2⟩ := Option.map_eq_some_iff.mp hw
  refine wpAny_getItem_heap (tupleKind_room_in1 hu) (keyT_of I hb) dd hp ?_
  rw [hp2]
  exact h w' _ (I.tok _) rw'
/-- d.get(k, x) -/
theorem t_get2 {d : V} {u : Value} {Q : Value → Shared → Prop} (hu : A.units + 1 < cLine) (I : Inv X pins σ H s) (e : H a = some (DicTX X.prog X.w a us)) (ks : KeysT X.K H us) (hb : SqT X.K H b (k.map kV)) (rd : RelV d u) (h : ∀ w' s', Inv X pins σ H s' → RelV ((valT us k).getD d) w' → Q w' s') :
    wpAny (model X.prog X.w) A (call (.builtin "dict.get") [.ref a, .ref b, u]) Q E s := by
  obtain ⟨z, hd, xs, rel, dd⟩ := dtx_get I e ks
  refine call_meetsIn PySem.F.slot_dict_get dd.typeIs PySem.F.entry_dict_get (PySem.F.args_dict_get_3 _ _ _) (meetsH_dict_get_default (tupleKind (mixKind X.prog X.w)) a b hd u) ⟨tupleKind_room_in1 hu, k, xs, keyT_of I hb, dd, h _ _ (I.tok _) ?_⟩
  exact (kx_val rel k).getD rd
theorem t_setItem {Q : Unit → Shared → Prop} (hu : A.units + 1 < cLine) (I : Inv X pins σ H s) (e : H a = some (DicTX X.prog X.w a us)) (ks : KeysT X.K H us) (hb : SqT X.K H b (k.map kV)) (l : us.length < sizeLine) (rv : RelV v r)
    (h : ∀ s', Inv X pins σ (upd H a (DicTX X.prog X.w a (putT us k b v))) s' → Q () s') : wpAny (model X.prog X.w) A (setItem (.ref a) (.ref b) r) Q E s := by
  obtain ⟨z, hd, xs, rel, dd⟩ := dtx_get I e ks
  have hz : xs.length ≤ sizeLine := by rw [← kx_len rel]; exact z
  have hl : (putT us k b v).length ≤ sizeLine := by have := putT_len us k b v; omega
  refine wpAny_setItem_heap (hsz := hz) (tupleKind_room_in1 hu) (keyT_of I hb) dd fun h' dd' hs => h _ ?_
  have he : ∃ q, h'.get? a = some q := let ⟨q, _, _, hq, _⟩ := dd'; ⟨q, hq⟩
  exact d_write I (by rw [e]; exact True.intro) hs he (dtx_new hl hd (kx_put rel k b rv) dd')
end
/-! readings -/
def tTNew (P : Program) (w : World) : TE := fun _ H Q => ∀ p, H p = none → Q (.ref p) (upd H p (DicTX P w p []))
def tTGet (K : PySem.W.Frag) (P : Program) (w : World) (td ty : TE) : TE := fun σ H Q => td σ H fun x H1 => ty σ H1 fun y H2 => ∃ a us k b v, x = .ref a ∧ H2 a = some (DicTX P w a us) ∧ KeysT K H2 us ∧ y = .ref b ∧ SqT K H2 b (k.map kV) ∧ valT us k = some v ∧ Q v H2
def tTIn (K : PySem.W.Frag) (P : Program) (w : World) (neg : Bool) (ty td : TE) : TE := fun σ H Q => ty σ H fun y H1 => td σ H1 fun x H2 => ∃ a us k b, x = .ref a ∧ H2 a = some (DicTX P w a us) ∧ KeysT K H2 us ∧ y = .ref b ∧ SqT K H2 b (k.map kV) ∧ Q (.bl (if neg = true then !(valT us k).isSome else (valT us k).isSome)) H2
def sTPut (K : PySem.W.Frag) (P : Program) (w : World) (td ty tv : TE) : TS := fun D σ H => tv σ H fun v H1 => td σ H1 fun x H2 => ty σ H2 fun y H3 => ∃ a us k b, x = .ref a ∧ H3 a = some (DicTX P w a us) ∧ KeysT K H3 us ∧ y = .ref b ∧ SqT K H3 b (k.map kV) ∧ us.length < sizeLine ∧ D.nx σ (upd H3 a (DicTX P w a (putT us k b v)))
section
variable {X : Cx} {o i e value : Expr} {pos pos' : Pos} {td ty tv : TE}
theorem pe_tnew : PE X (.Dict [] [] pos) (tTNew X.prog X.w) := ⟨fun pins s σ H Q I h =>
  wpAny_Dict_empty ⟨.ref s.heap.objs.size, _, I.laid (a := s.heap.objs.size) (o := DicTX X.prog X.w s.heap.objs.size []) (t' := s.toks) (fun _ _ q => Heap.get?_push_of_some _ q) (Nat.le_refl _)
    (dtx_new (Nat.zero_le _) (beq_eq_false_iff_ne.mpr (Ne.symm (Nat.ne_of_lt I.big))) .nil (Heap.DictOfH.new s.heap)), rfl, h _ (I.hok.fresh (Nat.le_refl _))⟩⟩
theorem pe_tget (hu : X.A.units + 1 < cLine) (ho : PE X o td) (hi : PE X i ty) (hs : NoSl i) : PE X (.Subscript o i pos) (tTGet X.K X.prog X.w td ty) := by
  refine ⟨fun pins s σ H Q I h => ?_⟩
  refine subD_of PySem.F.slot_dict_getitem.lookup hs (thn (ho.run pins s σ H _ I h) fun u s1 ⟨x, H1, I1, rx, q1⟩ => thn (hi.run pins s1 σ H1 _ I1 q1) fun iv s2 ⟨y, H2, I2, ry, a, us, k, b, v, ex, g, ks, ey, hb, l, q2⟩ => ?_)
  subst ex ey
  obtain rfl : u = Value.ref a := rx
  obtain rfl : iv = Value.ref b := ry
  obtain ⟨_, _, _, _, dd⟩ := dtx_get I2 g ks
  exact ⟨dd.typeIs, t_getItem hu I2 g ks hb l fun w' s3 I3 rw' => ⟨v, H2, I3, rw', q2⟩⟩
theorem pc_tin (hu : X.A.units + 1 < cLine) (hi : PE X i ty) (ho : PE X o td) : PC X .In i o (tTIn X.K X.prog X.w false ty td) := by
  refine ⟨fun pins s σ H Q I h => ?_⟩
  refine thn (hi.run pins s σ H _ I h) fun iv s1 ⟨y, H1, I1, ry, q1⟩ => thn (ho.run pins s1 σ H1 _ I1 q1) fun u s2 ⟨x, H2, I2, rx, a, us, k, b, ex, g, ks, ey, hb, q2⟩ => ?_
  subst ex ey
  obtain rfl : u = Value.ref a := rx
  obtain rfl : iv = Value.ref b := ry
  exact t_in hu I2 g ks hb fun s3 I3 => ⟨.bl _, H2, I3, rfl, q2⟩
theorem ps_tput (hu : X.A.units + 1 < cLine) (ho : PE X o td) (hi : PE X i ty) (hv : PE X value tv) (hs : swapsWith value (some (.Subscript o i pos')) pos.line X.env = pure false) :
    PS X (.Assign [.Subscript o i pos'] value pos) (sTPut X.K X.prog X.w td ty tv) := by
  refine ⟨fun pins s σ H D I h => ?_⟩
  refine wpAny_Assign_Subscript (thn (hv.run pins s σ H _ I h) fun r s1 ⟨v, H1, I1, rv, q1⟩ => thn (ho.run pins s1 σ H1 _ I1 q1) fun u s2 ⟨x, H2, I2, rx, q2⟩ => thn (hi.run pins s2 σ H2 _ I2 q2) fun iv s3 ⟨y, H3, I3, ry, a, us, k, b, ex, g, ks, ey, hb, l, q3⟩ => ?_) hs
  subst ex ey
  obtain rfl : u = Value.ref a := rx
  obtain rfl : iv = Value.ref b := ry
  exact t_setItem hu I3 g ks hb l rv fun s4 I4 => ⟨σ, _, I4, q3⟩
end
/-! mirrors -/
def mDtN : ME := fun env _ => .ok (.own (.x (.dt []))) env
def keysT : List Dt → Option (List Key)
  | [] => some []
  | x :: xs => match keyD x, keysT xs with
    | some k, some ks => some (k :: ks)
    | _, _ => none
def keyT : Dt → Option (List Key)
  | .tuple xs => keysT xs
  | _ => none
def dtAt (env : Env) : A → Option (List (List Key × Dt))
  | .rf i none => match owAt env i with
    | some (.x (.dt kvs)) => some kvs
    | _ => none
  | .own (.x (.dt kvs)) => some kvs
  | _ => none
def lkT (kvs : List (List Key × Dt)) (k : List Key) : Option Dt := (kvs.find? fun q => decide (q.1 = k)).map (·.2)
def putTD (kvs : List (List Key × Dt)) (k : List Key) (v : Dt) : List (List Key × Dt) := if (kvs.any fun q => decide (q.1 = k)) = true then kvs.map fun q => if q.1 = k then (q.1, v) else q else kvs ++ [(k, v)]
def keyA : A → Option (List Key)
  | .d x => keyT x
  | _ => none
def dtInA (neg : Bool) : Env → A → A → Rs A := fun env b a => match keyA b, dtAt env a with
  | some k, some q => .ok (.d (.bool (if neg = true then !(lkT q k).isSome else (lkT q k).isSome))) env
  | _, _ => .bad
def dtGetA : Env → A → A → Rs A := fun env a b => match dtAt env a, keyA b with
  | some q, some k => (match lkT q k with
    | some x => .ok (.d x) env
    | none => .bad)
  | _, _ => .bad
def putTA (env : Env) (a b c : A) : Option Env := match a, keyA b, c with
  | .rf i none, some k, .d x => (match owAt env i, env[i]? with
    | some (.x (.dt kvs)), some (some ca) => if kvs.length < sizeLine then some (env.set i (some (reOw ca (.x (.dt (putTD kvs k x)))))) else none
    | _, _ => none)
  | _, _, _ => none
def mPutT (mv md mk : ME) : MS := fun env te => (mv env te).fl fun c e => (md e (c :: te)).fl fun a e1 => (mk e1 (a :: c :: te)).fl fun b e2 => match putTA e2 a b c with
  | some e3 => .nx e3
  | none => .bad
section
variable {K : KW} {B : Bs} {W : WX}
abbrev PrT (K : KW) (F : Hp) : List TK → List (List Key × Dt) → Prop := Paired (fun (p : TK) (q : List Key × Dt) => p.1 = q.1 ∧ TupN K F p.2.1 (p.1.map kV) ∧ Dn K F p.2.2 q.2)
theorem prt_keys {F H : Hp} (s : Same F H) : ∀ {us : List TK} {kvs : List (List Key × Dt)}, PrT K F us kvs → KeysT K H us
  | _, _, .nil => fun _ h => nomatch h
  | _, _, .cons h r => fun u hu => by
    rcases List.mem_cons.mp hu with e | hu
    · subst e; exact (h.2.1.same s).sq
    · exact prt_keys s r u hu
theorem prt_val {F : Hp} : ∀ {us : List TK} {kvs : List (List Key × Dt)} (p : PrT K F us kvs) (k : List Key), (∀ x, lkT kvs k = some x → ∃ v, valT us k = some v ∧ Dn K F v x) ∧ (lkT kvs k = none → valT us k = none)
  | _, _, .nil, _ => ⟨(fun x h => nomatch h), fun _ => rfl⟩
  | p :: us, q :: kvs, .cons h r, k => by
    have ih := prt_val r k
    unfold lkT valT at ih ⊢
    rw [List.find?_cons, List.find?_cons, h.1]
    by_cases c : q.1 = k
    · rw [decide_eq_true c]
      exact ⟨fun x z => ⟨p.2.2, rfl, by cases z; exact h.2.2⟩, fun z => nomatch z⟩
    · rw [decide_eq_false c]
      exact ih
theorem prt_some {F : Hp} {us : List TK} {kvs : List (List Key × Dt)} (p : PrT K F us kvs) (k : List Key) : (valT us k).isSome = (lkT kvs k).isSome := by
  obtain ⟨h1, h2⟩ := prt_val p k
  cases e : lkT kvs k with
  | none => rw [h2 e]; rfl
  | some x => obtain ⟨v, hv, _⟩ := h1 x e; rw [hv]; rfl
theorem prt_any {F : Hp} : ∀ {us : List TK} {kvs : List (List Key × Dt)} (p : PrT K F us kvs) (k : List Key), (us.any fun q => decide (q.1 = k)) = (kvs.any fun q => decide (q.1 = k))
  | _, _, .nil, _ => rfl
  | p :: us, q :: kvs, .cons h r, k => by
    rw [List.any_cons, List.any_cons, h.1, prt_any r k]
theorem prt_map {F : Hp} {k : List Key} {v : V} {x : Dt} (d : Dn K F v x) : ∀ {us : List TK} {kvs : List (List Key × Dt)} (p : PrT K F us kvs), PrT K F (us.map fun q => if q.1 = k then (q.1, q.2.1, v) else q) (kvs.map fun q => if q.1 = k then (q.1, x) else q)
  | _, _, .nil => .nil
  | p :: us, q :: kvs, .cons h r => by
    refine .cons ?_ (prt_map d r)
    dsimp only
    obtain ⟨h1, h2, h3⟩ := h
    by_cases c : p.1 = k
    · rw [if_pos c, if_pos (h1.symm.trans c)]; exact ⟨h1, h2, d⟩
    · rw [if_neg c, if_neg (fun z => c (h1.trans z))]; exact ⟨h1, h2, h3⟩
theorem prt_app {F : Hp} {k : List Key} {b : Addr} {v : V} {x : Dt} (hb : TupN K F b (k.map kV)) (d : Dn K F v x) : ∀ {us : List TK} {kvs : List (List Key × Dt)} (p : PrT K F us kvs), PrT K F (us ++ [(k, b, v)]) (kvs ++ [(k, x)])
  | _, _, .nil => .cons ⟨rfl, hb, d⟩ .nil
  | p :: us, q :: kvs, .cons h r => .cons h (prt_app hb d r)
theorem prt_put {F : Hp} {k : List Key} {b : Addr} {v : V} {x : Dt} (hb : TupN K F b (k.map kV)) (d : Dn K F v x) {us : List TK} {kvs : List (List Key × Dt)} (p : PrT K F us kvs) : PrT K F (putT us k b v) (putTD kvs k x) := by
  unfold putT putTD
  rw [prt_any p k]
  split
  · exact prt_map d p
  · exact prt_app hb d p
theorem prt_len {F : Hp} {us : List TK} {kvs : List (List Key × Dt)} (p : PrT K F us kvs) : us.length = kvs.length := Paired.length p
theorem keysT_all {F : Hp} : ∀ {vs : List V} {xs : List Dt} {ks : List Key}, DnAll K F vs xs → keysT xs = some ks → vs = ks.map kV
  | _, _, _, .nil, h => by cases h; rfl
  | v :: vs, x :: xs, ks, .cons d r, h => by
    unfold keysT at h
    cases e : keyD x with
    | none => rw [e] at h; cases h
    | some k =>
      cases e2 : keysT xs with
      | none => rw [e, e2] at h; cases h
      | some ks' =>
        rw [e, e2] at h
        cases h
        rw [List.map_cons, keysT_all r e2]
        congr 1
        cases d <;> first | (cases e; rfl) | cases e
theorem key_cell {F H : Hp} {O : Addr → Option Nat} {σ : L2.St} {env : Env} {ts : List V} {te : List A} (R : RelF K B F O σ env ts te H) {j : Nat} {v : V} {a : A} {k : List Key} (c : CellO K B F H O σ j v a) (h : keyA a = some k) : ∃ b, v = .ref b ∧ TupN K F b (k.map kV) := by
  unfold keyA at h
  cases a with
  | d x =>
    have c : Dn K F v x := c
    cases x with
    | tuple xs =>
      obtain ⟨p, vs, e, ht, d⟩ := dn_tup c
      have h : keysT xs = some k := h
      exact ⟨p, e, by rw [← keysT_all d h]; exact ht⟩
    | _ => cases h
  | _ => cases h
theorem se_dtN : SE K B W (tTNew K.P K.w) mDtN := by
  rintro σ env ts te H Q ⟨F, O, R⟩ p
  exact fun q hq => p _ _ ⟨F, _, R.newL hq (mutO_dicT _ _ _ _) (w := .x (.dt [])) fun own ho => ⟨q, [], rfl, ho, upd_same, .nil⟩⟩
theorem dt_cell {F H : Hp} {O : Addr → Option Nat} {σ : L2.St} {env : Env} {ts : List V} {te : List A} (R : RelF K B F O σ env ts te H) {j : Nat} {v : V} {a : A} {kvs : List (List Key × Dt)} (c : CellO K B F H O σ j v a) (h : dtAt env a = some kvs) :
    ∃ q us, v = .ref q ∧ H q = some (DicTX K.P K.w q us) ∧ PrT K F us kvs := by
  unfold dtAt at h
  split at h
  · rename_i i'
    split at h
    · rename_i ys eo
      cases h
      obtain ⟨w, hw, e⟩ := c
      have e : v = w := e
      subst e
      obtain ⟨q, us, e1, o1, h1, p1⟩ := R.owAt eo hw
      exact ⟨q, us, e1, h1, p1⟩
    · cases h
  · cases h
    obtain ⟨q, us, e1, o1, h1, p1⟩ := c
    exact ⟨q, us, e1, h1, p1⟩
  · cases h
theorem se_dtIn (neg : Bool) {tb ta : TE} {mb ma : ME} (hb : SE K B W tb mb) (ha : SE K B W ta ma) : SE K B W (tTIn K K.P K.w neg tb ta) (mOp (dtInA neg) mb ma) := by
  intro σ env ts te H Q R p
  refine hb.thE R p fun b e p u H1 R1 => ?_
  refine ha σ e (u :: ts) (b :: te) H1 _ R1 ?_
  cases q : ma e (b :: te) with
  | ex x e2 => rw [q] at p; exact XPost.push p u b
  | bad => rw [q] at p; exact p
  | ok a e2 =>
    rw [q] at p
    rintro v H2 ⟨F2, O2, R2⟩
    simp only [Rs.bind_ok] at p
    unfold dtInA at p
    cases eb : keyA b with
    | none => simp only [eb] at p; exact False.elim p
    | some k =>
      cases eg : dtAt e2 a with
      | none => simp only [eb, eg] at p; exact False.elim p
      | some kvs =>
        simp only [eb, eg] at p
        obtain ⟨bb, e3, hsq⟩ := key_cell R2 R2.tm.2.1 eb
        obtain ⟨qa, us, e1, hq, pr⟩ := dt_cell R2 R2.tm.1 eg
        refine ⟨qa, us, k, bb, e1, hq, prt_keys R2.sf pr, e3, (hsq.same R2.sf).sq, ?_⟩
        rw [prt_some pr]
        exact p _ H2 (R2.pop.pop.pushD (.bl _))
theorem se_dtGet {ta tb : TE} {ma mb : ME} (ha : SE K B W ta ma) (hb : SE K B W tb mb) : SE K B W (tTGet K K.P K.w ta tb) (mOp dtGetA ma mb) := by
  intro σ env ts te H Q R p
  refine ha.thE R p fun a e p v H1 R1 => ?_
  refine hb σ e (v :: ts) (a :: te) H1 _ R1 ?_
  cases q : mb e (a :: te) with
  | ex x e2 => rw [q] at p; exact XPost.push p v a
  | bad => rw [q] at p; exact p
  | ok b e2 =>
    rw [q] at p
    rintro u H2 ⟨F2, O2, R2⟩
    simp only [Rs.bind_ok] at p
    unfold dtGetA at p
    cases eg : dtAt e2 a with
    | none => simp only [eg] at p; exact False.elim p
    | some kvs =>
      cases eb : keyA b with
      | none => simp only [eg, eb] at p; exact False.elim p
      | some k =>
        simp only [eg, eb] at p
        obtain ⟨bb, e3, hsq⟩ := key_cell R2 R2.tm.1 eb
        obtain ⟨qa, us, e1, hq, pr⟩ := dt_cell R2 R2.tm.2.1 eg
        cases el : lkT kvs k with
        | none => simp only [el] at p; exact False.elim p
        | some x =>
          simp only [el] at p
          obtain ⟨w, hw, dw⟩ := (prt_val pr k).1 x el
          exact ⟨qa, us, k, bb, w, e1, hq, prt_keys R2.sf pr, e3, (hsq.same R2.sf).sq, hw, p _ H2 (R2.pop.pop.pushD dw)⟩
theorem ss_putT {td tk tv : TE} {md mk mv : ME} (hd : SE K B W td md) (hk : SE K B W tk mk) (hv : SE K B W tv mv) : SS K B W (sTPut K K.P K.w td tk tv) (mPutT mv md mk) := by
  intro σ env ts te H D R p
  refine hv.thS R p fun c e p v H1 R1 => ?_
  refine hd.thS1 R1 p fun a e1 p u H2 R2 => ?_
  refine hk.thS2 R2 p fun b e2 p w H3 R3 => ?_
  obtain ⟨F, O, R3⟩ := R3
  cases q : putTA e2 a b c with
  | none => simp only [q] at p; exact False.elim p
  | some e' =>
    simp only [q] at p
    have p9 : ∀ σ H, Rel K B σ e' ts te H → D.nx σ H := p
    clear p
    unfold putTA at q
    split at q
    · rename_i i k x ek _w
      split at q
      · rename_i kvs ca eo ea
        split at q
        · rename_i hl
          cases q
          obtain ⟨bb, e3, hsq⟩ := key_cell R3 R3.tm.1 ek
          obtain ⟨w', hw, ew⟩ := R3.tm.2.1
          have ew : u = w' := ew
          subst ew
          obtain ⟨pa, us, ep, op, hp, pr⟩ := R3.owAt eo hw
          have dx : Dn K F v x := R3.tm.2.2.1
          refine ⟨pa, us, k, bb, ep, hp, prt_keys R3.sf pr, e3, (hsq.same R3.sf).sq, by rw [prt_len pr]; exact hl, p9 σ _ ?_⟩
          have il := (List.getElem?_eq_some_iff.mp hw).1
          have s1 : ∀ n, i ≠ σ.length + n := fun n => by omega
          have op : O pa = some i := op
          have op2 : (if (if O pa = some (σ.length + (u :: v :: ts).length) then none else O pa) = some (σ.length + (v :: ts).length) then none else (if O pa = some (σ.length + (u :: v :: ts).length) then none else O pa)) = some i := by
            rw [op, if_neg (fun z => s1 _ (Option.some.inj z)), if_neg (fun z => s1 _ (Option.some.inj z))]
          exact rel_give (o' := .x (.dt (putTD kvs k x))) (p := pa) (ob := DicTX K.P K.w pa (putT us k bb v)) R3.pop.pop hw ea eo op2 (mutO_dicT _ _ _ _)
            (fun own' ho' => ⟨pa, _, ep, ho' pa (.inl op2), upd_same, prt_put hsq dx pr⟩)
            (fun O' hO' k' w' _ hat => by
              obtain ⟨a', ea', oa', hh⟩ := hat
              rw [ep] at ea'
              cases ea'
              rw [hp] at hh
              rcases hh with ⟨_, _, _, _, z, _⟩ | ⟨_, z, _⟩ <;> cases z)
        · cases q
      · cases q
    · cases q
end
end Tw

namespace Tw
open PySem PySem.Spec PyProof.Rows L2
/-! ### d.get(k, x) of a dict whose keys are tuples -/
def tTGet2 (K : PySem.W.Frag) (P : Program) (w : World) (td ty tv : TE) : TE := fun σ H Q => td σ H fun x H1 => ∃ a, x = .ref a ∧ (∃ us, H1 a = some (DicTX P w a us) ∧ KeysT K H1 us) ∧
  ty σ H1 fun y H2 => tv σ H2 fun v H3 => ∃ us k b, H3 a = some (DicTX P w a us) ∧ KeysT K H3 us ∧ y = .ref b ∧ SqT K H3 b (k.map kV) ∧ Q ((valT us k).getD v) H3
section
variable {X : Cx} {o e f : Expr} {apos cpos : Pos} {td ty tx : TE}
theorem pe_tget2 (hu : X.A.units + 1 < cLine) (ho : PE X o td) (he : PE X e ty) (hf : PE X f tx) (m : M2 X o "get" apos e f cpos) : PE X (.Call (.Attribute o "get" apos) [e, f] [] cpos) (tTGet2 X.K X.prog X.w td ty tx) := by
  refine ⟨fun pins s σ H Q I h => ?_⟩
  refine wpAny_Call_method m.base m.few m.line PySem.F.plainAttrs_dict PySem.F.slot_dict_get PySem.F.type_dict_get (thn (ho.run pins s σ H _ I h) fun u s1 ⟨x, H1, I1, rx, a, ex, ⟨us, d, dk⟩, q1⟩ => ?_)
  subst ex
  obtain rfl : u = Value.ref a := rx
  obtain ⟨_, _, xs, _, dd⟩ := dtx_get I1 d dk
  refine ⟨dd.typeIs, fun b q => ?_, ?_⟩
  · cases q
    obtain ⟨ob, _, _, h1, h2, _⟩ := dd
    exact ⟨ob, h1, h2.2.1⟩
  rw [m.trees]
  refine Calls.callWith_builtin rfl (Calls.evalArgs_plain (Calls.spliced_cons (thn (he.run pins s1 σ H1 _ I1 q1) fun iv s2 ⟨y, H2, I2, ry, q2⟩ =>
    Calls.spliced_cons (thn (hf.run pins s2 σ H2 _ I2 q2) fun fv s3 ⟨z, H3, I3, rz, us3, k, b, g, ks, ey, hb, q3⟩ => Calls.spliced_nil ?_))))
  subst ey
  obtain rfl : iv = Value.ref b := ry
  exact t_get2 hu I3 g ks hb rz fun w' s4 I4 rw' => ⟨_, H3, I4, rw', q3⟩
end
def mDtGet2 (md mk mx : ME) : ME := fun env te => (md env te).bind fun a e1 => match dtAt e1 a with
  | some _ => (mk e1 (a :: te)).bind fun b e2 => (mx e2 (b :: a :: te)).bind fun c e3 => (match dtAt e3 a, keyA b, c with
    | some q, some k, .d x => .ok (.d ((lkT q k).getD x)) e3
    | _, _, _ => .bad)
  | none => .bad
section
variable {K : KW} {B : Bs} {W : WX}
theorem se_dtGet2 {td tk tx : TE} {md mk mx : ME} (hd : SE K B W td md) (hk : SE K B W tk mk) (hx : SE K B W tx mx) : SE K B W (tTGet2 K K.P K.w td tk tx) (mDtGet2 md mk mx) := by
  intro σ env ts te H Q R p
  refine hd.thE R p fun a e p v H1 R1 => ?_
  cases eg1 : dtAt e a with
  | none => simp only [eg1] at p; exact False.elim p
  | some kv1 =>
  simp only [eg1] at p
  have ⟨pa0, us0, e0, h0, k0⟩ : ∃ q us, v = .ref q ∧ H1 q = some (DicTX K.P K.w q us) ∧ KeysT K H1 us := by
    obtain ⟨F, O, R1⟩ := R1
    obtain ⟨q, us, e1, hq, pr⟩ := dt_cell R1 R1.tm.1 eg1
    exact ⟨q, us, e1, hq, prt_keys R1.sf pr⟩
  refine ⟨pa0, e0, ⟨us0, h0, k0⟩, ?_⟩
  refine hk σ e _ _ H1 _ R1 ?_
  cases q : mk e (a :: te) with
  | ex x e2 => rw [q] at p; exact XPost.push p v a
  | bad => rw [q] at p; exact p
  | ok b e2 =>
    rw [q] at p
    simp only [Rs.bind_ok] at p
    intro u H2 R2
    refine hx σ e2 _ _ H2 _ R2 ?_
    cases q2 : mx e2 (b :: a :: te) with
    | ex x e3 => rw [q2] at p; exact XPost.push (XPost.push p v a) u b
    | bad => rw [q2] at p; exact p
    | ok c e3 =>
      rw [q2] at p
      simp only [Rs.bind_ok] at p
      rintro w H3 ⟨F, O, R3⟩
      cases eg : dtAt e3 a with
      | none => simp only [eg] at p; exact False.elim p
      | some kvs =>
        cases eb : keyA b with
        | none => simp only [eg, eb] at p; exact False.elim p
        | some k =>
          cases c with
          | d yd =>
            simp only [eg, eb] at p
            obtain ⟨bb, e3', hsq⟩ := key_cell R3 R3.tm.2.1 eb
            obtain ⟨qa, us, e1, hq, pr⟩ := dt_cell R3 R3.tm.2.2.1 eg
            rw [e0] at e1
            cases e1
            have dw : Dn K F w yd := R3.tm.1
            refine ⟨us, k, bb, hq, prt_keys R3.sf pr, e3', (hsq.same R3.sf).sq, ?_⟩
            cases el : lkT kvs k with
            | none =>
              have hn : valT us k = none := (prt_val pr k).2 el
              rw [hn]
              simp only [el, Option.getD_none] at p
              exact p _ H3 (R3.pop.pop.pop.pushD dw)
            | some x =>
              obtain ⟨w2, hw, dw2⟩ := (prt_val pr k).1 x el
              rw [hw]
              simp only [el, Option.getD_some] at p
              exact p _ H3 (R3.pop.pop.pop.pushD dw2)
          | _ => simp only [eg, eb] at p; exact False.elim p
end
end Tw

namespace Tw
open PySem PySem.Spec PyProof.Rows L2
/-! ### methods of a text with one flat argument -/
/-! ### strip(letters) -/
section
variable {X : Cx} {o e : Expr} {to te : TE}
end
end Tw

/-! str(int), isdigit, split at a text -/
namespace Tw
open PySem PySem.Spec PyProof.Rows L2
/-! a method of a text without arguments -/
def mM0 (g : Str → Dt) (ma : ME) : ME := fun env te => (ma env te).bind fun a e => match a with
  | .d (.str s) => .ok (.d (g s)) e
  | _ => .bad
/-! split at a text -/
end Tw

namespace Tw
open PySem PySem.Spec PyProof.Rows L2
theorem big {n : Nat} (h : n ≤ 100000) : n ≤ sizeLine := by
  rw [PySem.sizeLine_eq]
  omega
theorem big' {n : Nat} (h : n ≤ 100000) : n < sizeLine := by
  rw [PySem.sizeLine_eq]
  omega
theorem atI_of {α : Type} {xs : List α} {i : Int} (h0 : 0 ≤ i) (h1 : i < xs.length) : ∃ v, atI xs i = some v ∧ v ∈ xs := by
  obtain ⟨j, rfl⟩ : ∃ j : Nat, i = j := ⟨i.toNat, by omega⟩
  have hj : j < xs.length := by omega
  exact ⟨xs[j], atI_nat (List.getElem?_eq_getElem hj), List.getElem_mem hj⟩
/-! ### names: one to eight letters -/
def IsLt (c : Nat) : Prop := 97 ≤ c ∧ c ≤ 122
def IsNm (z : Str) : Prop := 1 ≤ (TL.tl z).length ∧ (TL.tl z).length ≤ 8 ∧ ∀ c ∈ TL.tl z, IsLt c
abbrev letters : Str := "abcdefghijklmnopqrstuvwxyz"
theorem letters_get : ∀ k : Nat, k < 26 → (letters.cps.toList)[k]? = some (97 + k) := by decide +kernel
theorem letters_at {i : Int} (h0 : 0 ≤ i) (h1 : i < 26) : atI letters.cps.toList i = some (97 + i.toNat) := by
  obtain ⟨j, rfl⟩ : ∃ j : Nat, i = j := ⟨i.toNat, by omega⟩
  exact atI_nat (letters_get j (by omega))
theorem len_tl_le {z : Str} {n : Nat} (h : (TL.tl z).length ≤ n) (hn : n ≤ 100000) : z.length ≤ sizeLine := by
  rw [TL.len_tl]
  exact big (by omega)
/-- texts of one sign each, joined -/
theorem tl_joinE : ∀ ys : List Str, TL.tl (Txt.join "" ys) = (ys.map TL.tl).flatten
  | [] => by
    rw [TL.join_eq]
    rfl
  | [x] => by
    rw [TL.join_eq]
    show TL.tl x = _
    simp
  | x :: y :: r => by
    have ih := tl_joinE (y :: r)
    rw [TL.join_eq] at ih
    rw [TL.join_eq]
    show TL.tl (x ++ ("" : Str) ++ Str.join "" (y :: r)) = _
    rw [TL.tl_append, TL.tl_append, ih]
    have e : TL.tl ("" : Str) = [] := by decide +kernel
    rw [e]
    simp
theorem tl_singles (cs : List Nat) : TL.tl (Txt.join "" (cs.map fun c => (⟨#[c]⟩ : Str))) = cs := by
  rw [tl_joinE]
  induction cs with
  | nil => rfl
  | cons c r ih =>
    rw [List.map_cons, List.map_cons, List.flatten_cons, ih]
    rfl
theorem tl_cutS (z : Str) (lo hi : Option Int) : TL.tl (cutS z lo hi) = ((TL.tl z).drop (HT.sIx (TL.tl z).length 0 lo)).take (HT.sIx (TL.tl z).length (TL.tl z).length hi - HT.sIx (TL.tl z).length 0 lo) := by
  show ((z.cps.toList.drop (HT.sIx z.length 0 lo)).take (HT.sIx z.length z.length hi - HT.sIx z.length 0 lo)).toArray.toList = _
  rw [TL.len_tl]
theorem tl_cut_to (z : Str) (k : Nat) : TL.tl (cutS z none (some (k : Int))) = (TL.tl z).take k := by
  rw [tl_cutS, HT.sIx_none, HT.sIx_nat, List.drop_zero, Nat.sub_zero]
  by_cases h : k ≤ (TL.tl z).length
  · rw [Nat.min_eq_left h]
  · rw [Nat.min_eq_right (by omega), List.take_of_length_le (Nat.le_refl _), List.take_of_length_le (by omega)]
theorem tl_cut_from (z : Str) (k : Nat) : TL.tl (cutS z (some (k : Int)) none) = (TL.tl z).drop k := by
  rw [tl_cutS, HT.sIx_none, HT.sIx_nat]
  by_cases h : k ≤ (TL.tl z).length
  · rw [Nat.min_eq_left h]
    exact List.take_of_length_le (by rw [List.length_drop]; omega)
  · rw [Nat.min_eq_right (by omega), List.drop_of_length_le (Nat.le_refl _), List.drop_of_length_le (by omega)]
    simp
theorem tl_mul (z : Str) (n : Nat) (hn : 2 ≤ n) (hz : 1 ≤ (TL.tl z).length) : TL.tl (Txt.mul z (n : Int)) = (List.replicate n (TL.tl z)).flatten := by
  have h1 : ¬ ((n : Int) < 1) := by omega
  have h2 : ((n : Int) == 1 || z.length == 0) = false := by
    rw [TL.len_tl, Bool.or_eq_false_iff, beq_eq_false_iff_ne, beq_eq_false_iff_ne]
    omega
  unfold Txt.mul
  rw [if_neg h1, h2, if_neg Bool.false_ne_true, Int.toNat_natCast]
  show ((List.replicate n z.cps).foldl (· ++ ·) #[]).toList = _
  have gen : ∀ (m : Nat) (acc : Array Nat), ((List.replicate m z.cps).foldl (· ++ ·) acc).toList = acc.toList ++ (List.replicate m z.cps.toList).flatten := by
    intro m
    induction m with
    | zero => intro acc; simp
    | succ m ih =>
      intro acc
      rw [List.replicate_succ, List.foldl_cons, ih, List.replicate_succ, List.flatten_cons, Array.toList_append, List.append_assoc]
  rw [gen]
  rfl
theorem mulOk_small {z : Str} {n : Nat} (hn : n ≤ 100) (hz : (TL.tl z).length ≤ 100) : MulOk z (n : Int) := by
  have hl : z.length ≤ 100 := by rw [TL.len_tl]; exact hz
  refine ⟨?_, fun h1 h2 => ?_, fun h1 h2 => ?_⟩
  · rw [Bool.or_eq_false_iff, decide_eq_false_iff_not, decide_eq_false_iff_not]
    omega
  · have h3 : 0 < (n : Int) := by omega
    have h4 : (100 : Int) * n ≤ 2 ^ 63 - 1 := by omega
    have h5 : (100 : Int) ≤ (2 ^ 63 - 1) / n := (Int.le_ediv_iff_mul_le h3).mpr h4
    omega
  · have h6 : z.length * (n : Int).toNat ≤ 10000 := by
      rw [Int.toNat_natCast]
      exact Nat.le_trans (Nat.mul_le_mul hl hn) (by decide)
    unfold PySem.Builtin.Str.tooLong
    rw [decide_eq_false_iff_not]
    have := big (n := z.length * (n : Int).toNat) (by omega)
    omega
/-! ### lists without repeats -/
theorem len_le_of_sub {α : Type} [DecidableEq α] : ∀ {l m : List α}, l.Nodup → (∀ x ∈ l, x ∈ m) → l.length ≤ m.length
  | [], _, _, _ => Nat.zero_le _
  | x :: l, m, hn, hs => by
    have hx : x ∈ m := hs x List.mem_cons_self
    obtain ⟨h1, h2⟩ := List.nodup_cons.mp hn
    have ih := len_le_of_sub (l := l) (m := m.erase x) h2 fun y hy => (List.mem_erase_of_ne (fun e => h1 (by rw [← e]; exact hy))).mpr (hs y (List.mem_cons_of_mem _ hy))
    rw [List.length_erase_of_mem hx] at ih
    have : 0 < m.length := List.length_pos_of_mem hx
    rw [List.length_cons]
    omega
def spare (k : Nat) : Str := ⟨#[97 + k / 26, 97 + k % 26]⟩
def spares : List Str := (List.range 676).map spare
theorem spare_inj {a b : Nat} (h : spare a = spare b) : a = b := by
  have e : [97 + a / 26, 97 + a % 26] = [97 + b / 26, 97 + b % 26] := congrArg (fun z : Str => z.cps.toList) h
  injection e with e1 e2
  injection e2 with e3 _
  have h1 := Nat.div_add_mod a 26
  have h2 := Nat.div_add_mod b 26
  omega
theorem spares_len : spares.length = 676 := by
  unfold spares
  rw [List.length_map, List.length_range]
theorem spares_get {k : Nat} (h : k < 676) : spares[k]? = some (spare k) := by
  unfold spares
  rw [List.getElem?_map, List.getElem?_range h]
  rfl
theorem spare_nm {k : Nat} (h : k < 676) : IsNm (spare k) := by
  refine ⟨(by show 1 ≤ 2; decide), (by show 2 ≤ 8; decide), fun c hc => ?_⟩
  have hc' : c ∈ [97 + k / 26, 97 + k % 26] := hc
  have : k / 26 < 26 := by omega
  have : k % 26 < 26 := Nat.mod_lt _ (by decide)
  unfold IsLt
  rcases List.mem_cons.mp hc' with rfl | hc'
  · omega
  · rcases List.mem_cons.mp hc' with rfl | hc'
    · omega
    · cases hc'
theorem used_le {ns : List Str} {n : Nat} (hn : n ≤ 676) (h : ∀ j, j < n → spare j ∈ ns) : n ≤ ns.length := by
  have e : ((List.range n).map spare).length = n := by rw [List.length_map, List.length_range]
  rw [← e]
  refine len_le_of_sub ?_ fun x hx => ?_
  · exact List.pairwise_map.mpr (List.Pairwise.imp (fun hne he => hne (spare_inj he)) List.nodup_range)
  · obtain ⟨j, hj, rfl⟩ := List.mem_map.mp hx
    exact h j (List.mem_range.mp hj)
/-! ### woods: the first tree's name, what is in it, the other trees -/
inductive Wd where
  | nil
  | cons (n : Str) (i r : Wd)
namespace Wd
def tops : Wd → List Str
  | nil => []
  | cons n _ r => n :: r.tops
def names : Wd → List Str
  | nil => []
  | cons n i r => n :: (i.names ++ r.names)
def dep : Wd → Nat
  | nil => 0
  | cons _ i r => max (i.dep + 1) r.dep
def app : Wd → Wd → Wd
  | nil, v => v
  | cons n i r, v => cons n i (r.app v)
def take : Nat → Wd → Wd
  | 0, _ => nil
  | _ + 1, nil => nil
  | k + 1, cons n i r => cons n i (take k r)
def drop : Nat → Wd → Wd
  | 0, w => w
  | _ + 1, nil => nil
  | k + 1, cons _ _ r => drop k r
/-- a new tree at a, over t trees -/
def grp (a t : Nat) (nm : Str) (w : Wd) : Wd := (take a w).app (cons nm (take t (drop a w)) (drop t (drop a w)))
def upd (k : Str) (f : Wd → Wd) : Wd → Wd
  | nil => nil
  | cons n i r => if n = k then cons n (f i) r else cons n (upd k f i) (upd k f r)
def sub (k : Str) : Wd → Option Wd
  | nil => none
  | cons n i r => if n = k then some i else match sub k i with
    | some x => some x
    | none => sub k r
theorem take_drop : ∀ (k : Nat) (w : Wd), (take k w).app (drop k w) = w
  | 0, _ => rfl
  | _ + 1, nil => rfl
  | k + 1, cons n i r => congrArg (cons n i) (take_drop k r)
theorem tops_app : ∀ u v : Wd, (u.app v).tops = u.tops ++ v.tops
  | nil, _ => rfl
  | cons n _ r, v => congrArg (n :: ·) (tops_app r v)
theorem names_app : ∀ u v : Wd, (u.app v).names = u.names ++ v.names
  | nil, _ => rfl
  | cons n i r, v => by
    show n :: (i.names ++ (r.app v).names) = n :: (i.names ++ r.names) ++ v.names
    rw [names_app r v, List.cons_append, List.append_assoc]
theorem tops_take : ∀ (k : Nat) (w : Wd), (take k w).tops = w.tops.take k
  | 0, _ => rfl
  | _ + 1, nil => rfl
  | k + 1, cons n _ r => congrArg (n :: ·) (tops_take k r)
theorem tops_drop : ∀ (k : Nat) (w : Wd), (drop k w).tops = w.tops.drop k
  | 0, _ => rfl
  | _ + 1, nil => rfl
  | k + 1, cons _ _ r => tops_drop k r
theorem tops_grp (a t : Nat) (nm : Str) (w : Wd) : (grp a t nm w).tops = w.tops.take a ++ nm :: (w.tops.drop a).drop t := by
  unfold grp
  rw [tops_app, tops_take]
  show _ ++ nm :: (drop t (drop a w)).tops = _
  rw [tops_drop, tops_drop]
theorem names_take_drop (k : Nat) (w : Wd) : (take k w).names ++ (drop k w).names = w.names := by rw [← names_app, take_drop]
theorem names_grp (a t : Nat) (nm : Str) (w : Wd) : (grp a t nm w).names.Perm (nm :: w.names) := by
  unfold grp
  rw [names_app]
  show ((take a w).names ++ (nm :: ((take t (drop a w)).names ++ (drop t (drop a w)).names))).Perm _
  rw [names_take_drop t, ← names_take_drop a w]
  exact List.perm_middle
theorem tops_upd (k : Str) (f : Wd → Wd) : ∀ w : Wd, (upd k f w).tops = w.tops
  | nil => rfl
  | cons n i r => by
    show (if n = k then cons n (f i) r else cons n (upd k f i) (upd k f r)).tops = n :: r.tops
    split
    · rfl
    · exact congrArg (n :: ·) (tops_upd k f r)
theorem upd_out {k : Str} {f : Wd → Wd} : ∀ {w : Wd}, k ∉ w.names → upd k f w = w
  | nil, _ => rfl
  | cons n i r, h => by
    have h1 : n ≠ k := fun e => h (by rw [← e]; exact List.mem_cons_self)
    have h2 : k ∉ i.names := fun e => h (List.mem_cons_of_mem _ (List.mem_append_left _ e))
    have h3 : k ∉ r.names := fun e => h (List.mem_cons_of_mem _ (List.mem_append_right _ e))
    show (if n = k then cons n (f i) r else cons n (upd k f i) (upd k f r)) = _
    rw [if_neg h1, upd_out h2, upd_out h3]
theorem sub_mem {k : Str} : ∀ {w x : Wd}, sub k w = some x → k ∈ w.names
  | nil, _, h => by cases h
  | cons n i r, x, h => by
    have h' : (if n = k then some i else match sub k i with | some x => some x | none => sub k r) = some x := h
    by_cases c : n = k
    · rw [c]
      exact List.mem_cons_self
    · rw [if_neg c] at h'
      cases e : sub k i with
      | some y => exact List.mem_cons_of_mem _ (List.mem_append_left _ (sub_mem e))
      | none =>
        rw [e] at h'
        exact List.mem_cons_of_mem _ (List.mem_append_right _ (sub_mem h'))
theorem names_upd {k nm : Str} {f : Wd → Wd} (hf : ∀ i, (f i).names.Perm (nm :: i.names)) : ∀ {w : Wd}, w.names.Nodup → k ∈ w.names → (upd k f w).names.Perm (nm :: w.names)
  | nil, _, h => by cases h
  | cons n i r, nd, h => by
    have nd' : (n :: (i.names ++ r.names)).Nodup := nd
    rw [List.nodup_cons] at nd'
    have nda := List.nodup_append.mp nd'.2
    show (if n = k then cons n (f i) r else cons n (upd k f i) (upd k f r)).names.Perm (nm :: n :: (i.names ++ r.names))
    by_cases c : n = k
    · rw [if_pos c]
      show (n :: ((f i).names ++ r.names)).Perm _
      exact (List.Perm.cons n ((hf i).append_right r.names)).trans (List.Perm.swap nm n _)
    · rw [if_neg c]
      show (n :: ((upd k f i).names ++ (upd k f r).names)).Perm _
      rcases List.mem_cons.mp h with e | e
      · exact absurd e.symm c
      · rcases List.mem_append.mp e with e | e
        · rw [upd_out (w := r) fun z => nda.2.2 _ e _ z rfl]
          exact (List.Perm.cons n ((names_upd hf nda.1 e).append_right r.names)).trans (List.Perm.swap nm n _)
        · rw [upd_out (w := i) fun z => nda.2.2 _ z _ e rfl]
          refine (List.Perm.cons n ((names_upd hf nda.2.1 e).append_left i.names)).trans ?_
          exact (List.Perm.cons n List.perm_middle).trans (List.Perm.swap nm n _)
theorem dep_le : ∀ w : Wd, w.dep ≤ w.names.length
  | nil => Nat.le_refl _
  | cons n i r => by
    have h1 := dep_le i
    have h2 := dep_le r
    show max (i.dep + 1) r.dep ≤ (n :: (i.names ++ r.names)).length
    rw [List.length_cons, List.length_append]
    omega
def size : Wd → Nat
  | nil => 0
  | cons _ i r => i.size + r.size + 1
theorem size_names : ∀ w : Wd, w.names.length = w.size
  | nil => rfl
  | cons n i r => by
    show (n :: (i.names ++ r.names)).length = i.size + r.size + 1
    rw [List.length_cons, List.length_append, size_names i, size_names r]
/-- the ends of a wood: true: the begin -/
def toks : Wd → List (Bool × Str)
  | nil => []
  | cons n i r => (true, n) :: (i.toks ++ (false, n) :: r.toks)
/-- the data of its trees -/
def data : Wd → List PyData
  | nil => []
  | cons n i r => .tuple [.str n, .tuple i.data] :: r.data
end Wd
def tkS (p : Bool × Str) : Str := if p.1 = true then ("+" : Str) ++ p.2 else ("-" : Str) ++ p.2
def Wd.put (k : Str) (a t : Nat) (nm : Str) (w : Wd) : Wd := if k = "" then w.grp a t nm else w.upd k (Wd.grp a t nm)
def Wd.inn (k : Str) (w : Wd) : Option Wd := if k = "" then some w else w.sub k
theorem Wd.names_put {k nm : Str} {a t : Nat} {w : Wd} (nd : w.names.Nodup) (hk : k = "" ∨ k ∈ w.names) : (w.put k a t nm).names.Perm (nm :: w.names) := by
  unfold Wd.put
  by_cases c : k = ""
  · rw [if_pos c]
    exact Wd.names_grp a t nm w
  · rw [if_neg c]
    exact Wd.names_upd (Wd.names_grp a t nm) nd (hk.resolve_left c)
theorem nm_ne {z : Str} (h : IsNm z) : z ≠ "" := by
  rintro rfl
  exact absurd h.1 (by decide +kernel)
theorem Wd.sub_size : ∀ {w i : Wd} {k : Str}, w.sub k = some i → i.size ≤ w.size
  | .nil, _, _, h => by cases h
  | .cons n i r, x, k, h => by
    have h' : (if n = k then some i else match Wd.sub k i with | some x => some x | none => Wd.sub k r) = some x := h
    show x.size ≤ i.size + r.size + 1
    by_cases c : n = k
    · rw [if_pos c] at h'
      cases h'
      omega
    · rw [if_neg c] at h'
      cases e : Wd.sub k i with
      | some y =>
        rw [e] at h'
        cases h'
        have := Wd.sub_size e
        omega
      | none =>
        rw [e] at h'
        have := Wd.sub_size h'
        omega
theorem Wd.inn_size {w i : Wd} {k : Str} (h : w.inn k = some i) : i.size ≤ w.size := by
  unfold Wd.inn at h
  by_cases c : k = ""
  · rw [if_pos c] at h
    cases h
    exact Nat.le_refl _
  · rw [if_neg c] at h
    exact Wd.sub_size h
theorem tl_tk (p : Bool × Str) : TL.tl (tkS p) = (if p.1 = true then 43 else 45) :: TL.tl p.2 := by
  unfold tkS
  split
  · rw [TL.tl_append]
    rfl
  · rw [TL.tl_append]
    rfl
theorem tk_at0 (p : Bool × Str) : atI (tkS p).cps.toList 0 = some (if p.1 = true then 43 else 45) := by
  show atI (TL.tl (tkS p)) 0 = _
  rw [tl_tk]
  exact atI_nat (j := 0) rfl
/-! ### places of the ends in a row -/
theorem toks_names2 (b : Bool) : ∀ (w : Wd) (n : Str), (b, n) ∈ w.toks ↔ n ∈ w.names
  | .nil, n => ⟨(fun h => nomatch h), (fun h => nomatch h)⟩
  | .cons m i r, n => by
    show (b, n) ∈ (true, m) :: (i.toks ++ (false, m) :: r.toks) ↔ n ∈ m :: (i.names ++ r.names)
    rw [List.mem_cons, List.mem_append, List.mem_cons, List.mem_cons, List.mem_append, toks_names2 b i n, toks_names2 b r n]
    cases b with
    | true =>
      constructor
      · rintro (h | h | h | h)
        · exact .inl (Prod.mk.inj h).2
        · exact .inr (.inl h)
        · exact nomatch (Prod.mk.inj h).1
        · exact .inr (.inr h)
      · rintro (h | h | h)
        · exact .inl (by rw [h])
        · exact .inr (.inl h)
        · exact .inr (.inr (.inr h))
    | false =>
      constructor
      · rintro (h | h | h | h)
        · exact nomatch (Prod.mk.inj h).1
        · exact .inr (.inl h)
        · exact .inl (Prod.mk.inj h).2
        · exact .inr (.inr h)
      · rintro (h | h | h)
        · exact .inr (.inr (.inl (by rw [h])))
        · exact .inr (.inl h)
        · exact .inr (.inr (.inr h))
theorem toks_nodup : ∀ {w : Wd}, w.names.Nodup → w.toks.Nodup
  | .nil, _ => List.nodup_nil
  | .cons m i r, nd => by
    have nd' : (m :: (i.names ++ r.names)).Nodup := nd
    rw [List.nodup_cons] at nd'
    have nda := List.nodup_append.mp nd'.2
    have ni : m ∉ i.names := fun h => nd'.1 (List.mem_append_left _ h)
    have nr : m ∉ r.names := fun h => nd'.1 (List.mem_append_right _ h)
    show ((true, m) :: (i.toks ++ (false, m) :: r.toks)).Nodup
    rw [List.nodup_cons, List.nodup_append, List.nodup_cons]
    refine ⟨fun h => ?_, toks_nodup nda.1, ⟨fun h => nr ((toks_names2 _ _ _).mp h), toks_nodup nda.2.1⟩, fun x hx y hy e => ?_⟩
    · rcases List.mem_append.mp h with h | h
      · exact ni ((toks_names2 _ _ _).mp h)
      · rcases List.mem_cons.mp h with h | h
        · exact nomatch (Prod.mk.inj h).1
        · exact nr ((toks_names2 _ _ _).mp h)
    · subst e
      obtain ⟨b, n⟩ := x
      have h1 := (toks_names2 _ _ _).mp hx
      rcases List.mem_cons.mp hy with h | h
      · exact ni (by rw [← (Prod.mk.inj h).2]; exact h1)
      · exact nda.2.2 _ h1 _ ((toks_names2 _ _ _).mp h) rfl
/-! ### loops, by what holds at each round -/
theorem lcM_inv {kd : Dt → A} {rd : Env → Option (List Dt)} {xs0 : List Dt} {te : List A} {g : MG} {tt : MT} {el : ME} {vs : List Nat} (I : List Dt → List Dt → Env → Prop) (hr : ∀ r acc e, I r acc e → rd e = some xs0)
    (step : ∀ x r acc e, I (x :: r) acc e → ∃ e1, g (kd x) e (.own (.l acc) :: te) = some e1 ∧ ∃ b e2, tt e1 (.own (.l acc) :: te) = .ok b e2 ∧
      (b = true → ∃ y e3, el e2 (.own (.l acc) :: te) = .ok (.d y) e3 ∧ acc.length < sizeLine ∧ wipeOk e3 (.own (.l (acc ++ [y])) :: te) vs = true ∧ I r (acc ++ [y]) (wipeE e3 vs)) ∧
      (b = false → wipeOk e2 (.own (.l acc) :: te) vs = true ∧ I r acc (wipeE e2 vs))) : ∀ r acc e, I r acc e → ∃ ys e', lcM kd rd xs0 te g tt el vs r acc e = .ok ys e' ∧ I [] ys e'
  | [], acc, e, h => ⟨acc, e, by unfold lcM; rw [if_pos (hr _ _ _ h)], h⟩
  | x :: r, acc, e, h => by
    obtain ⟨e1, h1, b, e2, h2, ht, hf⟩ := step x r acc e h
    cases b with
    | true =>
      obtain ⟨y, e3, h3, hl, hw, hi⟩ := ht rfl
      obtain ⟨ys, e', h4, h5⟩ := lcM_inv I hr step r _ _ hi
      refine ⟨ys, e', ?_, h5⟩
      unfold lcM
      rw [if_pos (hr _ _ _ h), h1]
      show ((tt e1 (.own (.l acc) :: te)).noX.bind _) = _
      rw [h2]
      show ((el e2 (.own (.l acc) :: te)).noX.bind _) = _
      rw [h3]
      show (if acc.length < sizeLine ∧ wipeOk e3 (.own (.l (acc ++ [y])) :: te) vs = true then _ else _) = _
      rw [if_pos ⟨hl, hw⟩]
      exact h4
    | false =>
      obtain ⟨hw, hi⟩ := hf rfl
      obtain ⟨ys, e', h4, h5⟩ := lcM_inv I hr step r _ _ hi
      refine ⟨ys, e', ?_, h5⟩
      unfold lcM
      rw [if_pos (hr _ _ _ h), h1]
      show ((tt e1 (.own (.l acc) :: te)).noX.bind _) = _
      rw [h2]
      show (if wipeOk e2 (.own (.l acc) :: te) vs = true then _ else _) = _
      rw [if_pos hw]
      exact h4
end Tw

namespace Tw
open PySem PySem.Spec PyProof.Rows L2
theorem ev_mVar (i : Nat) (env : Env) (_u1 : _) : mVar i env _u1 = (match env[i]? with
  | some (some a) => .ok (vA i a) env
  | _ => .bad) := rfl
theorem ev_mC (x : Dt) (env : Env) (_u1 : _) : mC x env _u1 = (.ok (.d x) env) := rfl
theorem ev_mNil (env : Env) (_u1 : _) : mNil env _u1 = (.ok [] env) := rfl
def k_mCons_1 (a : A) : List A → Env → Rs (List A) := fun as e2 => .ok (a :: as) e2
theorem ek_mCons_1 (a : A) (as : List A) (e2 : Env) : k_mCons_1 a as e2 = (.ok (a :: as) e2 : Rs (List A)) := rfl
def k_mCons_0 (r : MA) (te : List A) : A → Env → Rs (List A) := fun a e1 => (r e1 (a :: te)).bind (k_mCons_1 a)
theorem ek_mCons_0 (r : MA) (te : List A) (a : A) (e1 : Env) : k_mCons_0 r te a e1 = ((r e1 (a :: te)).bind (k_mCons_1 a) : Rs (List A)) := rfl
theorem ev_mCons (m : ME) (r : MA) (env : Env) (te : List A) : mCons m r env te = ((m env te).bind (k_mCons_0 r te)) := rfl
def k_mD_0 (te : List A) : A → Env → Rs A := fun a e => match frzA a e te with
  | some (x, e') => .ok (.d x) e'
  | none => .bad
theorem ek_mD_0 (te : List A) (a : A) (e : Env) : k_mD_0 te a e = (match frzA a e te with
  | some (x, e') => .ok (.d x) e'
  | none => .bad : Rs A) := rfl
theorem ev_mD (m : ME) (env : Env) (te : List A) : mD m env te = ((m env te).bind (k_mD_0 te)) := rfl
def k_mOp_1 (f : Env → A → A → Rs A) (a : A) : A → Env → Rs A := fun b e2 => f e2 a b
theorem ek_mOp_1 (f : Env → A → A → Rs A) (a : A) (b : A) (e2 : Env) : k_mOp_1 f a b e2 = (f e2 a b : Rs A) := rfl
def k_mOp_0 (f : Env → A → A → Rs A) (mb : ME) (te : List A) : A → Env → Rs A := fun a e1 => (mb e1 (a :: te)).bind (k_mOp_1 f a)
theorem ek_mOp_0 (f : Env → A → A → Rs A) (mb : ME) (te : List A) (a : A) (e1 : Env) : k_mOp_0 f mb te a e1 = ((mb e1 (a :: te)).bind (k_mOp_1 f a) : Rs A) := rfl
theorem ev_mOp (f : Env → A → A → Rs A) (ma mb : ME) (env : Env) (te : List A) : mOp f ma mb env te = ((ma env te).bind (k_mOp_0 f mb te)) := rfl
def k_mU_0 (f : Env → A → Rs A) : A → Env → Rs A := fun a e1 => f e1 a
theorem ek_mU_0 (f : Env → A → Rs A) (a : A) (e1 : Env) : k_mU_0 f a e1 = (f e1 a : Rs A) := rfl
theorem ev_mU (f : Env → A → Rs A) (ma : ME) (env : Env) (te : List A) : mU f ma env te = ((ma env te).bind (k_mU_0 f)) := rfl
def k_mCB_0 (f : Env → List A → Rs A) : List A → Env → Rs A := fun as e => f e as
theorem ek_mCB_0 (f : Env → List A → Rs A) (as : List A) (e : Env) : k_mCB_0 f as e = (f e as : Rs A) := rfl
theorem ev_mCB (f : Env → List A → Rs A) (m : MA) (env : Env) (te : List A) : mCB f m env te = ((m env te).bind (k_mCB_0 f)) := rfl
theorem ev_fl2 (g : Dt → Dt → Option Dt) (env : Env) (a : A) (b : A) : fl2 g env a b = (match a.val env, b.val env with
  | some x, some y => match g x y with
    | some z => .ok (.d z) env
    | none => .bad
  | _, _ => .bad) := rfl
theorem ev_fl1 (g : Dt → Option Dt) (env : Env) (a : A) : fl1 g env a = (match a.val env with
  | some x => match g x with
    | some z => .ok (.d z) env
    | none => .bad
  | none => .bad) := rfl
theorem ev_mTst (m : ME) (env : Env) (te : List A) : mTst m env te = ((m env te).bind tstA) := rfl
def k_mAnd_0 (b : MT) (te : List A) : Bool → Env → Rs Bool := fun c e => if c = true then b e te else .ok false e
theorem ek_mAnd_0 (b : MT) (te : List A) (c : Bool) (e : Env) : k_mAnd_0 b te c e = (if c = true then b e te else .ok false e : Rs Bool) := rfl
theorem ev_mAnd (a b : MT) (env : Env) (te : List A) : mAnd a b env te = ((a env te).bind (k_mAnd_0 b te)) := rfl
def k_mOr_0 (b : MT) (te : List A) : Bool → Env → Rs Bool := fun c e => if c = true then .ok true e else b e te
theorem ek_mOr_0 (b : MT) (te : List A) (c : Bool) (e : Env) : k_mOr_0 b te c e = (if c = true then .ok true e else b e te : Rs Bool) := rfl
theorem ev_mOr (a b : MT) (env : Env) (te : List A) : mOr a b env te = ((a env te).bind (k_mOr_0 b te)) := rfl
def k_mNot_0 : Bool → Env → Rs Bool := fun c e => .ok (!c) e
theorem ek_mNot_0 (c : Bool) (e : Env) : k_mNot_0  c e = (.ok (!c) e : Rs Bool) := rfl
theorem ev_mNot (a : MT) (env : Env) (te : List A) : mNot a env te = ((a env te).bind (k_mNot_0)) := rfl
theorem ev_mYes (env : Env) (_u1 : _) : mYes env _u1 = (.ok true env) := rfl
def k_mIfE_0 (a : ME) (b : ME) (te : List A) : Bool → Env → Rs A := fun x e => if x = true then a e te else b e te
theorem ek_mIfE_0 (a : ME) (b : ME) (te : List A) (x : Bool) (e : Env) : k_mIfE_0 a b te x e = (if x = true then a e te else b e te : Rs A) := rfl
theorem ev_mIfE (c : MT) (a b : ME) (env : Env) (te : List A) : mIfE c a b env te = ((c env te).bind (k_mIfE_0 a b te)) := rfl
def k_mAndE_0 (b : ME) (te : List A) : Bool → Env → Rs A := fun c e => if c = true then b e te else .ok (.d (.bool false)) e
theorem ek_mAndE_0 (b : ME) (te : List A) (c : Bool) (e : Env) : k_mAndE_0 b te c e = (if c = true then b e te else .ok (.d (.bool false)) e : Rs A) := rfl
theorem ev_mAndE (a b : ME) (env : Env) (te : List A) : mAndE a b env te = ((mTst a env te).bind (k_mAndE_0 b te)) := rfl
def k_mOrE_0 (b : ME) (te : List A) : Bool → Env → Rs A := fun c e => if c = true then .ok (.d (.bool true)) e else b e te
theorem ek_mOrE_0 (b : ME) (te : List A) (c : Bool) (e : Env) : k_mOrE_0 b te c e = (if c = true then .ok (.d (.bool true)) e else b e te : Rs A) := rfl
theorem ev_mOrE (a b : ME) (env : Env) (te : List A) : mOrE a b env te = ((mTst a env te).bind (k_mOrE_0 b te)) := rfl
def k_mNotE_0 : Bool → Env → Rs A := fun c e => .ok (.d (.bool (!c))) e
theorem ek_mNotE_0 (c : Bool) (e : Env) : k_mNotE_0  c e = (.ok (.d (.bool (!c))) e : Rs A) := rfl
theorem ev_mNotE (a : ME) (env : Env) (te : List A) : mNotE a env te = ((mTst a env te).bind (k_mNotE_0)) := rfl
theorem ev_gN (i : Nat) (a : A) (env : Env) (te : List A) : gN i a env te = (if setOk i a env te = true then some (env.set i (some a)) else none) := rfl
theorem ev_gT (is : List Nat) (a : A) (env : Env) (te : List A) : gT is a env te = (match a.tup? with
  | some xs => gTs is xs env te
  | none => none) := rfl
def k_mAsg_0 (g : MG) (te : List A) : A → Env → Fl := fun a e => match g a e te with
  | some e' => .nx e'
  | none => .bad
theorem ek_mAsg_0 (g : MG) (te : List A) (a : A) (e : Env) : k_mAsg_0 g te a e = (match g a e te with
  | some e' => .nx e'
  | none => .bad : Fl) := rfl
theorem ev_mAsg (m : ME) (g : MG) (env : Env) (te : List A) : mAsg m g env te = ((m env te).fl (k_mAsg_0 g te)) := rfl
def k_mDrop_0 : A → Env → Fl := fun _v e => .nx e
theorem ek_mDrop_0 (_v : A) (e : Env) : k_mDrop_0  _v e = (.nx e : Fl) := rfl
theorem ev_mDrop (m : ME) (env : Env) (te : List A) : mDrop m env te = ((m env te).fl (k_mDrop_0)) := rfl
def k_mIfS_0 (a : MS) (b : MS) (te : List A) : Bool → Env → Fl := fun x e => if x = true then a e te else b e te
theorem ek_mIfS_0 (a : MS) (b : MS) (te : List A) (x : Bool) (e : Env) : k_mIfS_0 a b te x e = (if x = true then a e te else b e te : Fl) := rfl
theorem ev_mIfS (c : MT) (a b : MS) (env : Env) (te : List A) : mIfS c a b env te = ((c env te).fl (k_mIfS_0 a b te)) := rfl
def k_mRet_0 : A → Env → Fl := fun a e => .rt a e
theorem ek_mRet_0 (a : A) (e : Env) : k_mRet_0  a e = (.rt a e : Fl) := rfl
theorem ev_mRet (m : ME) (env : Env) (te : List A) : mRet m env te = ((m env te).fl (k_mRet_0)) := rfl
theorem ev_mRetN (env : Env) (_u1 : _) : mRetN env _u1 = (.rt (.d .none) env) := rfl
theorem ev_mNext (env : Env) (_u1 : _) : mNext env _u1 = (.nx env) := rfl
theorem ev_mBrk (env : Env) (_u1 : _) : mBrk env _u1 = (.bk env) := rfl
theorem ev_mCt (env : Env) (_u1 : _) : mCt env _u1 = (.ct env) := rfl
theorem ev_mNever (_u0 : _) (_u1 : _) : mNever _u0 _u1 = (.bad) := rfl
def k_mCall_0 (f : DF) (io : List Bool) (te : List A) : List A → Env → Rs A := fun as e => match cvAs io as e with
  | some L => doCall f e te L
  | none => .bad
theorem ek_mCall_0 (f : DF) (io : List Bool) (te : List A) (as : List A) (e : Env) : k_mCall_0 f io te as e = (match cvAs io as e with
  | some L => doCall f e te L
  | none => .bad : Rs A) := rfl
theorem ev_mCall (f : DF) (io : List Bool) (m : MA) (env : Env) (te : List A) : mCall f io m env te = ((m env te).bind (k_mCall_0 f io te)) := rfl
open Classical in
theorem ev_addA (env : Env) (a : A) (b : A) : addA env a b = (match d2 env a b with
  | some (.int i, .int j) => .ok (.d (.int (i + j))) env
  | some (.str x, .str y) => if x.length + y.length ≤ sizeLine then .ok (.d (.str (x ++ y))) env else .bad
  | some (.tuple xs, .tuple ys) => if xs.length + ys.length ≤ sizeLine then .ok (.d (.tuple (xs ++ ys))) env else .bad
  | some (.list _, .list _) => (match a.lstT? env, b.lstT? env with
    | some xs, some ys => if xs.length + ys.length ≤ sizeLine then .ok (.own (.l (xs ++ ys))) env else .bad
    | _, _ => .bad)
  | _ => .bad) := rfl
open Classical in
theorem ev_mulA (env : Env) (a : A) (b : A) : mulA env a b = (match d2 env a b with
  | some (.int i, .int j) => if CMul i j then .ok (.d (.int (i * j))) env else .bad
  | some (.str x, .int n) => if MulOk x n ∧ (Txt.mul x n).length ≤ sizeLine then .ok (.d (.str (Txt.mul x n))) env else .bad
  | some (.list _, .int n) => (match a.lstT? env with
    | some xs => if -(2 ^ 63) ≤ n ∧ n < 2 ^ 63 ∧ xs.length * n.toNat ≤ sizeLine then .ok (.own (.l (List.replicate n.toNat xs).flatten)) env else .bad
    | none => .bad)
  | _ => .bad) := rfl
def k_mTup_0 : List A → Env → Rs A := fun as e => match dAll as with
  | some xs => if xs.length ≤ sizeLine then .ok (.d (.tuple xs)) e else .bad
  | none => .bad
theorem ek_mTup_0 (as : List A) (e : Env) : k_mTup_0  as e = (match dAll as with
  | some xs => if xs.length ≤ sizeLine then .ok (.d (.tuple xs)) e else .bad
  | none => .bad : Rs A) := rfl
theorem ev_mTup (m : MA) (env : Env) (te : List A) : mTup m env te = ((m env te).bind (k_mTup_0)) := rfl
def k_mLst_0 : List A → Env → Rs A := fun as e => match dAll as with
  | some xs => if xs.length ≤ sizeLine then .ok (.own (.l xs)) e else .bad
  | none => .bad
theorem ek_mLst_0 (as : List A) (e : Env) : k_mLst_0  as e = (match dAll as with
  | some xs => if xs.length ≤ sizeLine then .ok (.own (.l xs)) e else .bad
  | none => .bad : Rs A) := rfl
theorem ev_mLst (m : MA) (env : Env) (te : List A) : mLst m env te = ((m env te).bind (k_mLst_0)) := rfl
theorem ev_ixA (env : Env) (a : A) (b : A) : ixA env a b = (match b.val env with
  | some (.int i) => (match a.tup? with
    | some xs => (match atI xs i with
      | some x => .ok (.d x) env
      | none => .bad)
    | none => match a.lst? env with
      | some xs => (match atI xs i with
        | some x => .ok (.d x) env
        | none => .bad)
      | none => match a.val env with
        | some (.str z) => (match atI z.cps.toList i with
          | some c => .ok (.d (.str ⟨#[c]⟩)) env
          | none => .bad)
        | _ => match a with
          | .rf j none => (match owAt env j with
            | some (.ll xss) => (match ixN xss.length i with
              | some n => .ok (.rf j (some (.inl n))) env
              | none => .bad)
            | _ => .bad)
          | _ => .bad)
  | _ => .bad) := rfl
theorem ev_mNoPart (env : Env) (_u1 : _) : mNoPart env _u1 = (.ok none env) := rfl
def k_mPart_0 : A → Env → Rs (Option Int) := fun a e => match a.val e with
  | some (.int i) => .ok (some i) e
  | _ => .bad
theorem ek_mPart_0 (a : A) (e : Env) : k_mPart_0  a e = (match a.val e with
  | some (.int i) => .ok (some i) e
  | _ => .bad : Rs (Option Int)) := rfl
theorem ev_mPart (m : ME) (env : Env) (te : List A) : mPart m env te = ((m env te).bind (k_mPart_0)) := rfl
def k_mSl_2 (a : A) (l : Option Int) : Option Int → Env → Rs A := fun u e3 => slA e3 a l u
theorem ek_mSl_2 (a : A) (l : Option Int) (u : Option Int) (e3 : Env) : k_mSl_2 a l u e3 = (slA e3 a l u : Rs A) := rfl
def k_mSl_1 (hi : MO) (te : List A) (a : A) : Option Int → Env → Rs A := fun l e2 => (hi e2 (a :: te)).bind (k_mSl_2 a l)
theorem ek_mSl_1 (hi : MO) (te : List A) (a : A) (l : Option Int) (e2 : Env) : k_mSl_1 hi te a l e2 = ((hi e2 (a :: te)).bind (k_mSl_2 a l) : Rs A) := rfl
def k_mSl_0 (lo : MO) (hi : MO) (te : List A) : A → Env → Rs A := fun a e1 => (lo e1 (a :: te)).bind (k_mSl_1 hi te a)
theorem ek_mSl_0 (lo : MO) (hi : MO) (te : List A) (a : A) (e1 : Env) : k_mSl_0 lo hi te a e1 = ((lo e1 (a :: te)).bind (k_mSl_1 hi te a) : Rs A) := rfl
theorem ev_mSl (m : ME) (lo hi : MO) (env : Env) (te : List A) : mSl m lo hi env te = ((m env te).bind (k_mSl_0 lo hi te)) := rfl
theorem ev_one (f : Env → A → Rs A) (env : Env) (as : List A) : one f env as = (match as with
  | [a] => f env a
  | _ => .bad) := rfl
theorem ev_lenA (env : Env) (a : A) : lenA env a = (match a.lst? env with
  | some xs => .ok (.d (.int xs.length)) env
  | none => match a.val env with
    | some x => (match lenD x with
      | some n => .ok (.d (.int n)) env
      | none => .bad)
    | none => .bad) := rfl
theorem ev_tupA (env : Env) (a : A) : tupA env a = (match a with
  | .d (.tuple xs) => .ok (.d (.tuple xs)) env
  | a => match a.lst? env with
    | some xs => .ok (.d (.tuple xs)) env
    | none => .bad) := rfl
theorem ev_lstA (env : Env) (a : A) : lstA env a = (match a.tup? with
  | some xs => .ok (.own (.l xs)) env
  | none => match a.lst? env with
    | some xs => .ok (.own (.l xs)) env
    | none => .bad) := rfl
theorem ev_allA (env : Env) (a : A) : allA env a = (match (a.lst? env).bind boolsD with
  | some bs => .ok (.d (.bool (bs.all id))) env
  | none => .bad) := rfl
theorem ev_anyA (env : Env) (a : A) : anyA env a = (match (a.lst? env).bind boolsD with
  | some bs => .ok (.d (.bool (bs.any id))) env
  | none => .bad) := rfl
def k_mIsi_0 (T : String) : A → Env → Rs A := fun a e => match a.val e with
  | some x => (match kitB (tyD x) T with
    | some b => .ok (.d (.bool b)) e
    | none => .bad)
  | none => .bad
theorem ek_mIsi_0 (T : String) (a : A) (e : Env) : k_mIsi_0 T a e = (match a.val e with
  | some x => (match kitB (tyD x) T with
    | some b => .ok (.d (.bool b)) e
    | none => .bad)
  | none => .bad : Rs A) := rfl
theorem ev_mIsi (T : String) (m : ME) (env : Env) (te : List A) : mIsi T m env te = ((m env te).bind (k_mIsi_0 T)) := rfl
theorem ev_min2A (env : Env) (as : List A) : min2A env as = (match as with
  | [.d (.int i), .d (.int j)] => .ok (.d (.int (if j < i then j else i))) env
  | _ => .bad) := rfl
theorem ev_max2A (env : Env) (as : List A) : max2A env as = (match as with
  | [.d (.int i), .d (.int j)] => .ok (.d (.int (if j > i then j else i))) env
  | _ => .bad) := rfl
def k_mJoin_0 (mb : ME) (te : List A) : A → Env → Rs A := fun a e => match a with
  | .d (.str s) => (mb e (.d (.str s) :: te)).bind fun b e2 => joinS s e2 b
  | _ => .bad
theorem ek_mJoin_0 (mb : ME) (te : List A) (a : A) (e : Env) : k_mJoin_0 mb te a e = (match a with
  | .d (.str s) => (mb e (.d (.str s) :: te)).bind fun b e2 => joinS s e2 b
  | _ => .bad : Rs A) := rfl
theorem ev_mJoin (ma mb : ME) (env : Env) (te : List A) : mJoin ma mb env te = ((ma env te).bind (k_mJoin_0 mb te)) := rfl
def k_mMeth_0 (f : Env → List A → A → List A → Rs A) (ma : MA) (te : List A) : A → Env → Rs A := fun o e1 => if isL e1 o = true then (ma e1 (o :: te)).bind fun as e2 => f e2 te o as else .bad
theorem ek_mMeth_0 (f : Env → List A → A → List A → Rs A) (ma : MA) (te : List A) (o : A) (e1 : Env) : k_mMeth_0 f ma te o e1 = (if isL e1 o = true then (ma e1 (o :: te)).bind fun as e2 => f e2 te o as else .bad : Rs A) := rfl
theorem ev_mMeth (f : Env → List A → A → List A → Rs A) (mo : ME) (ma : MA) (env : Env) (te : List A) : mMeth f mo ma env te = ((mo env te).bind (k_mMeth_0 f ma te)) := rfl
theorem ev_appA (e : Env) (te : List A) (o : A) (as : List A) : appA e te o as = (match dAll as with
  | some [y] => mutL e te o fun xs => if xs.length < sizeLine then some (.none, xs ++ [y]) else none
  | _ => .bad) := rfl
theorem ev_extA (e : Env) (te : List A) (o : A) (as : List A) : extA e te o as = (match dAll as with
  | some [y] => (match seqD y with
    | some zs => mutL e te o fun xs => if xs.length + zs.length ≤ sizeLine then some (.none, xs ++ zs) else none
    | none => .bad)
  | _ => .bad) := rfl
theorem ev_insA (e : Env) (te : List A) (o : A) (as : List A) : insA e te o as = (match dAll as with
  | some [.int i, y] => mutL e te o fun xs => if xs.length < sizeLine ∧ 0 ≤ i ∧ i < 2 ^ 63 then some (.none, xs.take i.toNat ++ [y] ++ xs.drop i.toNat) else none
  | _ => .bad) := rfl
theorem ev_popA (e : Env) (te : List A) (o : A) (as : List A) : popA e te o as = (match as with
  | [] => mutL e te o fun xs => match xs[xs.length - 1]? with
    | some y => some (y, xs.dropLast)
    | none => none
  | _ => .bad) := rfl
theorem ev_popAtA (e : Env) (te : List A) (o : A) (as : List A) : popAtA e te o as = (match dAll as with
  | some [.int i] => mutL e te o fun xs => if -(2 ^ 63) ≤ i ∧ i < 2 ^ 63 then (match seqIndex? i xs.length with
    | some k => (match xs[k]? with
      | some y => some (y, xs.eraseIdx k)
      | none => none)
    | none => none) else none
  | _ => .bad) := rfl
def k_mTix_0 (mb : ME) (te : List A) : A → Env → Rs A := fun a e1 => match a with
  | .d (.tuple xs) => (mb e1 (a :: te)).bind fun b e2 => tixA e2 a b
  | _ => .bad
theorem ek_mTix_0 (mb : ME) (te : List A) (a : A) (e1 : Env) : k_mTix_0 mb te a e1 = (match a with
  | .d (.tuple xs) => (mb e1 (a :: te)).bind fun b e2 => tixA e2 a b
  | _ => .bad : Rs A) := rfl
theorem ev_mTix (ma mb : ME) (env : Env) (te : List A) : mTix ma mb env te = ((ma env te).bind (k_mTix_0 mb te)) := rfl
def k_mSetL_2 (te : List A) (a : A) (e : Env) (o : A) : A → Env → Fl := fun b e2 => match setLA e2 te o b a with
  | some e' => .nx e'
  | none => .bad
theorem ek_mSetL_2 (te : List A) (a : A) (e : Env) (o : A) (b : A) (e2 : Env) : k_mSetL_2 te a e o b e2 = (match setLA e2 te o b a with
  | some e' => .nx e'
  | none => .bad : Fl) := rfl
def k_mSetL_1 (mi : ME) (te : List A) (a : A) (e : Env) : A → Env → Fl := fun o e1 => (mi e1 (o :: a :: te)).fl (k_mSetL_2 te a e o)
theorem ek_mSetL_1 (mi : ME) (te : List A) (a : A) (e : Env) (o : A) (e1 : Env) : k_mSetL_1 mi te a e o e1 = ((mi e1 (o :: a :: te)).fl (k_mSetL_2 te a e o) : Fl) := rfl
def k_mSetL_0 (mo : ME) (mi : ME) (te : List A) : A → Env → Fl := fun a e => (mo e (a :: te)).fl (k_mSetL_1 mi te a e)
theorem ek_mSetL_0 (mo : ME) (mi : ME) (te : List A) (a : A) (e : Env) : k_mSetL_0 mo mi te a e = ((mo e (a :: te)).fl (k_mSetL_1 mi te a e) : Fl) := rfl
theorem ev_mSetL (mv mo mi : ME) (env : Env) (te : List A) : mSetL mv mo mi env te = ((mv env te).fl (k_mSetL_0 mo mi te)) := rfl
def k_mSeqI_0 (env : Env) : A → Env → Rs (List A × (Env → Option (List Dt))) := fun a e => match a.seq? e with
  | some _ => .ok ([a], fun env => a.seq? env) e
  | none => .bad
theorem ek_mSeqI_0 (env : Env) (a : A) (e : Env) : k_mSeqI_0 env a e = (match a.seq? e with
  | some _ => .ok ([a], fun env => a.seq? env) e
  | none => .bad : Rs (List A × (Env → Option (List Dt)))) := rfl
theorem ev_mSeqI (m : ME) (env : Env) (te : List A) : mSeqI m env te = (((m env te).bind (k_mSeqI_0 env) : Rs (List A × (Env → Option (List Dt))))) := rfl
def k_mRng1_0 : A → Env → Rs (List A × (Env → Option (List Dt))) := fun a e => match a with
  | .d (.int j) => if -(2 ^ 62) ≤ j ∧ j < 2 ^ 62 then .ok ([], fun _ => some (intsD 0 j.toNat)) e else .bad
  | _ => .bad
theorem ek_mRng1_0 (a : A) (e : Env) : k_mRng1_0  a e = (match a with
  | .d (.int j) => if -(2 ^ 62) ≤ j ∧ j < 2 ^ 62 then .ok ([], fun _ => some (intsD 0 j.toNat)) e else .bad
  | _ => .bad : Rs (List A × (Env → Option (List Dt)))) := rfl
theorem ev_mRng1 (m : ME) (env : Env) (te : List A) : mRng1 m env te = (((m env te).bind (k_mRng1_0) : Rs (List A × (Env → Option (List Dt))))) := rfl
def k_mRng2_1 (a : A) : A → Env → Rs (List A × (Env → Option (List Dt))) := fun b e2 => match a, b with
  | .d (.int i), .d (.int j) => if -(2 ^ 62) ≤ i ∧ i < 2 ^ 62 ∧ -(2 ^ 62) ≤ j ∧ j < 2 ^ 62 then .ok ([], fun _ => some (intsD i (j - i).toNat)) e2 else .bad
  | _, _ => .bad
theorem ek_mRng2_1 (a : A) (b : A) (e2 : Env) : k_mRng2_1 a b e2 = (match a, b with
  | .d (.int i), .d (.int j) => if -(2 ^ 62) ≤ i ∧ i < 2 ^ 62 ∧ -(2 ^ 62) ≤ j ∧ j < 2 ^ 62 then .ok ([], fun _ => some (intsD i (j - i).toNat)) e2 else .bad
  | _, _ => .bad : Rs (List A × (Env → Option (List Dt)))) := rfl
def k_mRng2_0 (mb : ME) (te : List A) : A → Env → Rs (List A × (Env → Option (List Dt))) := fun a e => (mb e (a :: te)).bind (k_mRng2_1 a)
theorem ek_mRng2_0 (mb : ME) (te : List A) (a : A) (e : Env) : k_mRng2_0 mb te a e = ((mb e (a :: te)).bind (k_mRng2_1 a) : Rs (List A × (Env → Option (List Dt)))) := rfl
theorem ev_mRng2 (ma mb : ME) (env : Env) (te : List A) : mRng2 ma mb env te = (((ma env te).bind (k_mRng2_0 mb te) : Rs (List A × (Env → Option (List Dt))))) := rfl
def k_mEnT_0 : A → Env → Rs (List A × (Env → Option (List Dt))) := fun a e => match a.tup? with
  | some xs => .ok ([a], fun _ => some (enumD xs)) e
  | none => .bad
theorem ek_mEnT_0 (a : A) (e : Env) : k_mEnT_0  a e = (match a.tup? with
  | some xs => .ok ([a], fun _ => some (enumD xs)) e
  | none => .bad : Rs (List A × (Env → Option (List Dt)))) := rfl
theorem ev_mEnT (m : ME) (env : Env) (te : List A) : mEnT m env te = (((m env te).bind (k_mEnT_0) : Rs (List A × (Env → Option (List Dt))))) := rfl
def k_mEnL_0 (env : Env) : A → Env → Rs (List A × (Env → Option (List Dt))) := fun a e => match a.lst? e with
  | some xs => .ok ([a], fun env => (a.lst? env).map enumD) e
  | none => .bad
theorem ek_mEnL_0 (env : Env) (a : A) (e : Env) : k_mEnL_0 env a e = (match a.lst? e with
  | some xs => .ok ([a], fun env => (a.lst? env).map enumD) e
  | none => .bad : Rs (List A × (Env → Option (List Dt)))) := rfl
theorem ev_mEnL (m : ME) (env : Env) (te : List A) : mEnL m env te = (((m env te).bind (k_mEnL_0 env) : Rs (List A × (Env → Option (List Dt))))) := rfl
theorem ev_mPure (m : ME) (env : Env) (_u1 : _) : mPure m env _u1 = (match m (viewE env) [] with
  | .ok (.d x) _ => if tupD x = true then .ok (.d x) env else .bad
  | .ok (.own o) _ => if o.tup = true then .ok (.own o) env else .bad
  | _ => .bad) := rfl
theorem ev_mPureK (j : Nat) (m : ME) (env : Env) (te : List A) : mPureK j m env te = (if isDict env j = true then mPure m env te else .bad) := rfl
theorem ev_mPureL (j : Nat) (m : ME) (env : Env) (_u1 : _) : mPureL j m env _u1 = (if isDict env j = true then (match m (viewK env j) [] with
  | .ok (.d x) _ => if tupD x = true then .ok (.d x) env else .bad
  | .ok (.own o) _ => if o.tup = true then .ok (.own o) env else .bad
  | _ => .bad) else .bad) := rfl
theorem ev_mKI (j : Nat) (env : Env) (te : List A) : mKI j env te = ((match env[j]? with
  | some (some (.lk kvs)) => if (kvs.all fun q => flatD q.1) = true then .ok ([.lk kvs], fun _ => some (kvs.map (·.1))) env else .bad
  | _ => .bad : Rs (List A × (Env → Option (List Dt))))) := rfl
def k_mDGet2_0 (mk : ME) (mx : ME) (te : List A) : A → Env → Rs A := fun a e1 => if isDct e1 a = true then (mk e1 (a :: te)).bind fun b e2 => (mx e2 (b :: a :: te)).bind fun c e3 => (match (b.val e3).bind keyD, c with
    | some k, .d y => (match dgO e3 a k with
      | some (.dt x) => .ok (.d x) e3
      | some .no => .ok (.d y) e3
      | _ => .bad)
    | _, _ => .bad) else .bad
theorem ek_mDGet2_0 (mk : ME) (mx : ME) (te : List A) (a : A) (e1 : Env) : k_mDGet2_0 mk mx te a e1 = (if isDct e1 a = true then (mk e1 (a :: te)).bind fun b e2 => (mx e2 (b :: a :: te)).bind fun c e3 => (match (b.val e3).bind keyD, c with
    | some k, .d y => (match dgO e3 a k with
      | some (.dt x) => .ok (.d x) e3
      | some .no => .ok (.d y) e3
      | _ => .bad)
    | _, _ => .bad) else .bad : Rs A) := rfl
theorem ev_mDGet2 (md mk mx : ME) (env : Env) (te : List A) : mDGet2 md mk mx env te = ((md env te).bind (k_mDGet2_0 mk mx te)) := rfl
def k_mPut_2 (te : List A) (c : A) (e : Env) (a : A) : A → Env → Fl := fun b e2 => match putA e2 te a b c with
  | some e' => .nx e'
  | none => .bad
theorem ek_mPut_2 (te : List A) (c : A) (e : Env) (a : A) (b : A) (e2 : Env) : k_mPut_2 te c e a b e2 = (match putA e2 te a b c with
  | some e' => .nx e'
  | none => .bad : Fl) := rfl
def k_mPut_1 (mk : ME) (te : List A) (c : A) (e : Env) : A → Env → Fl := fun a e1 => (mk e1 (a :: c :: te)).fl (k_mPut_2 te c e a)
theorem ek_mPut_1 (mk : ME) (te : List A) (c : A) (e : Env) (a : A) (e1 : Env) : k_mPut_1 mk te c e a e1 = ((mk e1 (a :: c :: te)).fl (k_mPut_2 te c e a) : Fl) := rfl
def k_mPut_0 (md : ME) (mk : ME) (te : List A) : A → Env → Fl := fun c e => (md e (c :: te)).fl (k_mPut_1 mk te c e)
theorem ek_mPut_0 (md : ME) (mk : ME) (te : List A) (c : A) (e : Env) : k_mPut_0 md mk te c e = ((md e (c :: te)).fl (k_mPut_1 mk te c e) : Fl) := rfl
theorem ev_mPut (mv md mk : ME) (env : Env) (te : List A) : mPut mv md mk env te = ((mv env te).fl (k_mPut_0 md mk te)) := rfl
theorem ev_appLA (e : Env) (te : List A) (o : A) (as : List A) : appLA e te o as = (match as, o with
  | [.own (.l ys)], .rf i none => (match e[i]?, owAt e i with
    | some (some ca), some (.ll xss) => if xss.length < sizeLine ∧ anyC (isNest i) e te = false then .ok (.d .none) (e.set i (some (reOw ca (.ll (xss ++ [ys]))))) else .bad
    | _, _ => .bad)
  | _, _ => .bad) := rfl
theorem ev_popLA (e : Env) (te : List A) (o : A) (as : List A) : popLA e te o as = (match as, o with
  | [], .rf i none => (match e[i]?, owAt e i with
    | some (some ca), some (.ll xss) => (match xss[xss.length - 1]? with
      | some ys => if anyC (isNest i) e te = false then .ok (.d (.list ys)) (e.set i (some (reOw ca (.ll xss.dropLast)))) else .bad
      | none => .bad)
    | _, _ => .bad)
  | _, _ => .bad) := rfl
theorem ev_orM (f g : Env → List A → A → List A → Rs A) (e : Env) (te : List A) (o : A) (as : List A) : orM f g e te o as = (match f e te o as with
  | .bad => g e te o as
  | r => r) := rfl
theorem ev_mNest (env : Env) (_u1 : _) : mNest env _u1 = (.ok (.own (.ll [[]])) env) := rfl
def k_mDisp1_1 (a : A) : A → Env → Rs A := fun b e2 => match a, b with
  | .d kd, .own (.l ys) => (match keyD kd with
    | some k => .ok (.own (.dl [(k, ys)])) e2
    | none => .bad)
  | _, _ => .bad
theorem ek_mDisp1_1 (a : A) (b : A) (e2 : Env) : k_mDisp1_1 a b e2 = (match a, b with
  | .d kd, .own (.l ys) => (match keyD kd with
    | some k => .ok (.own (.dl [(k, ys)])) e2
    | none => .bad)
  | _, _ => .bad : Rs A) := rfl
def k_mDisp1_0 (mv : ME) (te : List A) : A → Env → Rs A := fun a e1 => (mv e1 (a :: .own (.dc []) :: te)).bind (k_mDisp1_1 a)
theorem ek_mDisp1_0 (mv : ME) (te : List A) (a : A) (e1 : Env) : k_mDisp1_0 mv te a e1 = ((mv e1 (a :: .own (.dc []) :: te)).bind (k_mDisp1_1 a) : Rs A) := rfl
theorem ev_mDisp1 (mk mv : ME) (env : Env) (te : List A) : mDisp1 mk mv env te = ((mk env (.own (.dc []) :: te)).bind (k_mDisp1_0 mv te)) := rfl
def k_mPar_0 (i : Nat) (j : Nat) (te : List A) : List A → Env → Fl := fun as e => match as with
  | [a, b] => (match gN j b e (a :: te) with
    | some e1 => (match gN i a e1 te with
      | some e2 => .nx e2
      | none => .bad)
    | none => .bad)
  | _ => .bad
theorem ek_mPar_0 (i : Nat) (j : Nat) (te : List A) (as : List A) (e : Env) : k_mPar_0 i j te as e = (match as with
  | [a, b] => (match gN j b e (a :: te) with
    | some e1 => (match gN i a e1 te with
      | some e2 => .nx e2
      | none => .bad)
    | none => .bad)
  | _ => .bad : Fl) := rfl
theorem ev_mPar (i j : Nat) (m : MA) (env : Env) (te : List A) : mPar i j m env te = ((m env te).fl (k_mPar_0 i j te)) := rfl
def k_mPar3_0 (i : Nat) (j : Nat) (l : Nat) (te : List A) : List A → Env → Fl := fun as e => match as with
  | [a, b, c] => (match gN l c e (b :: a :: te) with
    | some e0 => (match gN j b e0 (a :: te) with
      | some e1 => (match gN i a e1 te with
        | some e2 => .nx e2
        | none => .bad)
      | none => .bad)
    | none => .bad)
  | _ => .bad
theorem ek_mPar3_0 (i : Nat) (j : Nat) (l : Nat) (te : List A) (as : List A) (e : Env) : k_mPar3_0 i j l te as e = (match as with
  | [a, b, c] => (match gN l c e (b :: a :: te) with
    | some e0 => (match gN j b e0 (a :: te) with
      | some e1 => (match gN i a e1 te with
        | some e2 => .nx e2
        | none => .bad)
      | none => .bad)
    | none => .bad)
  | _ => .bad : Fl) := rfl
theorem ev_mPar3 (i j l : Nat) (m : MA) (env : Env) (te : List A) : mPar3 i j l m env te = ((m env te).fl (k_mPar3_0 i j l te)) := rfl
def k_mChain_1 (g1 : Dt → Dt → Option Dt) (g2 : Dt → Dt → Option Dt) (mc : ME) (te : List A) (a : A) : A → Env → Rs A := fun b e2 => match (match a.val e2, b.val e2 with | some x, some y => g1 x y | _, _ => none) with
  | some (.bool true) => if isIo b = true then .bad else (mc e2 (b :: te)).bind fun c e4 => fl2 g2 e4 b c
  | some (.bool false) => .ok (.d (.bool false)) e2
  | _ => .bad
theorem ek_mChain_1 (g1 : Dt → Dt → Option Dt) (g2 : Dt → Dt → Option Dt) (mc : ME) (te : List A) (a : A) (b : A) (e2 : Env) : k_mChain_1 g1 g2 mc te a b e2 = (match (match a.val e2, b.val e2 with | some x, some y => g1 x y | _, _ => none) with
  | some (.bool true) => if isIo b = true then .bad else (mc e2 (b :: te)).bind fun c e4 => fl2 g2 e4 b c
  | some (.bool false) => .ok (.d (.bool false)) e2
  | _ => .bad : Rs A) := rfl
def k_mChain_0 (g1 : Dt → Dt → Option Dt) (g2 : Dt → Dt → Option Dt) (mb : ME) (mc : ME) (te : List A) : A → Env → Rs A := fun a e1 => (mb e1 (a :: te)).bind (k_mChain_1 g1 g2 mc te a)
theorem ek_mChain_0 (g1 : Dt → Dt → Option Dt) (g2 : Dt → Dt → Option Dt) (mb : ME) (mc : ME) (te : List A) (a : A) (e1 : Env) : k_mChain_0 g1 g2 mb mc te a e1 = ((mb e1 (a :: te)).bind (k_mChain_1 g1 g2 mc te a) : Rs A) := rfl
theorem ev_mChain (g1 g2 : Dt → Dt → Option Dt) (ma mb mc : ME) (env : Env) (te : List A) : mChain g1 g2 ma mb mc env te = ((ma env te).bind (k_mChain_0 g1 g2 mb mc te)) := rfl
theorem ev_mDnew (env : Env) (_u1 : _) : mDnew env _u1 = (.ok (.own (.dc [])) env) := rfl
theorem ev_gL (is : List Nat) (a : A) (env : Env) (te : List A) : gL is a env te = (match a.lst? env with
  | some xs => gTs is xs env te
  | none => none) := rfl

theorem zq00 {α β : Type} (a : α) (e : Env) (f : α → Env → Rs β) : Rs.bind (.ok a e) f = f a e := rfl
theorem ev_fl_ok {α : Type} (a : α) (e : Env) (f : α → Env → Fl) : Rs.fl (.ok a e) f = f a e := rfl
theorem ev_th_nx (e : Env) (f : Env → Fl) : Fl.th (.nx e) f = f e := rfl
theorem ev_th_rt (a : A) (e : Env) (f : Env → Fl) : Fl.th (.rt a e) f = .rt a e := rfl
theorem ev_lp_nx (e : Env) (f : Env → Fl) : Fl.lp (.nx e) f = f e := rfl
theorem ev_lp_rt (a : A) (e : Env) (f : Env → Fl) : Fl.lp (.rt a e) f = .rt a e := rfl
theorem ev_noXf (f : DF) (as : List A) : noXf f as = (f as).noX := rfl
/-- what holds at the end of a block -/
inductive FP (N : Env → Prop) (R : A → Env → Prop) : Fl → Prop
  | nx {e : Env} (h : N e) : FP N R (.nx e)
  | rt {a : A} {e : Env} (h : R a e) : FP N R (.rt a e)
def Sq (n : MS) (te : List A) (N : Env → Prop) (R : A → Env → Prop) (e : Env) : Prop := FP N R (n e te)
theorem fp_nx (N : Env → Prop) (R : A → Env → Prop) (e : Env) : FP N R (.nx e) = N e := propext ⟨fun h => by cases h; assumption, .nx⟩
theorem fp_rt (N : Env → Prop) (R : A → Env → Prop) (a : A) (e : Env) : FP N R (.rt a e) = R a e := propext ⟨fun h => by cases h; assumption, .rt⟩
theorem fp_seq (N : Env → Prop) (R : A → Env → Prop) (m n : MS) (env : Env) (te : List A) : FP N R (mSeq m n env te) = FP (Sq n te N R) R (m env te) := by
  show FP N R ((m env te).th fun e => n e te) = _
  cases m env te with
  | nx e => rw [fp_nx]; rfl
  | rt a e => rw [fp_rt]; exact fp_rt _ _ _ _
  | _ => exact propext ⟨(fun h => nomatch h), (fun h => nomatch h)⟩
theorem sq_ap (n : MS) (te : List A) (N : Env → Prop) (R : A → Env → Prop) (e : Env) : Sq n te N R e = FP N R (n e te) := rfl
/-- what a def gives -/
inductive DOk (Q : A → List A → Prop) : DRs → Prop
  | ok {a : A} {ios : List A} (h : Q a ios) : DOk Q (.ok a ios)
def EndR (as : List A) (Q : A → List A → Prop) (a : A) (e : Env) : Prop := ∃ r, retA e a = some r ∧ Q r (backs as e)
def EndN (as : List A) (Q : A → List A → Prop) (e : Env) : Prop := Q (.d .none) (backs as e)
theorem run_ok {n : Nat} {m : MS} {as : List A} {Q : A → List A → Prop} (h : FP (EndN as Q) (EndR as Q) (m (as.map some ++ List.replicate (n - as.length) none) [])) : DOk Q (runM n m as) := by
  show DOk Q (endM as (m (as.map some ++ List.replicate (n - as.length) none) []))
  cases e : m (as.map some ++ List.replicate (n - as.length) none) [] with
  | nx e' => rw [e, fp_nx] at h; exact .ok h
  | rt a e' =>
    rw [e, fp_rt] at h
    obtain ⟨r, h1, h2⟩ := h
    show DOk Q (match retA e' a with | some r => .ok r (backs as e') | none => .bad)
    rw [h1]
    exact .ok h2
  | bk e' => rw [e] at h; exact nomatch h
  | ct e' => rw [e] at h; exact nomatch h
  | ex x e' => rw [e] at h; exact nomatch h
  | bad => rw [e] at h; exact nomatch h
theorem DOk.ex {Q : A → List A → Prop} {r : DRs} (h : DOk Q r) : ∃ a ios, r = .ok a ios ∧ Q a ios := by
  cases h with
  | ok h => exact ⟨_, _, rfl, h⟩
theorem fp_for {N : Env → Prop} {R : A → Env → Prop} {kd : Dt → A} {mi : MI} {g : MG} {body : MS} {env e : Env} {te as : List A} {rd : Env → Option (List Dt)} {xs : List Dt} (I : List Dt → Env → Prop) (hm : mi env te = .ok (as, rd) e) (h0 : I xs e) (hr : ∀ r e, I r e → rd e = some xs)
    (step : ∀ x r e, I (x :: r) e → ∃ e1, g (kd x) e (as ++ te) = some e1 ∧ FP (I r) R (body e1 (as ++ te))) (fin : ∀ e, I [] e → N e) : FP N R (mFor kd mi g body env te) := by
  show FP N R ((mi env te).fl _)
  rw [hm]
  show FP N R (match rd e with | some xs => forM kd rd xs (as ++ te) g body xs e | none => .bad)
  rw [hr _ _ h0]
  show FP N R (forM kd rd xs (as ++ te) g body xs e)
  have key : ∀ r e, I r e → FP N R (forM kd rd xs (as ++ te) g body r e) := by
    intro r
    induction r with
    | nil =>
      intro e h
      unfold forM
      rw [if_pos (hr _ _ h)]
      exact .nx (fin e h)
    | cons x r ih =>
      intro e h
      obtain ⟨e1, h1, h2⟩ := step x r e h
      unfold forM
      rw [if_pos (hr _ _ h), h1]
      show FP N R ((body e1 (as ++ te)).lp _)
      cases eb : body e1 (as ++ te) with
      | nx e2 => rw [eb, fp_nx] at h2; exact ih e2 h2
      | rt a e2 => rw [eb, fp_rt] at h2; exact .rt h2
      | bk e2 => rw [eb] at h2; exact nomatch h2
      | ct e2 => rw [eb] at h2; exact nomatch h2
      | ex x e2 => rw [eb] at h2; exact nomatch h2
      | bad => rw [eb] at h2; exact nomatch h2
  exact key xs e h0
theorem fp_while {N : Env → Prop} {R : A → Env → Prop} {c : MT} {b : MS} {env : Env} {te : List A} (I : Env → Prop) (μ : Env → Nat) (h0 : I env)
    (step : ∀ e, I e → ∃ x e1, c e te = .ok x e1 ∧ (x = true → FP (fun e2 => I e2 ∧ μ e2 < μ e) R (b e1 te)) ∧ (x = false → N e1)) : FP N R (mWhile c b env te) := by
  have key : ∀ n e, μ e < n → I e → FP N R (mWhile c b e te) := by
    intro n
    induction n with
    | zero => exact fun e h => absurd h (Nat.not_lt_zero _)
    | succ n ih =>
      intro e hn h
      obtain ⟨x, e1, h1, ht, hf⟩ := step e h
      rw [mWhile_eq, h1]
      show FP N R (if x = true then _ else _)
      cases x with
      | false => exact .nx (hf rfl)
      | true =>
        rw [if_pos rfl]
        have h2 := ht rfl
        cases eb : b e1 te with
        | nx e2 => rw [eb, fp_nx] at h2; exact ih e2 (by have := h2.2; omega) h2.1
        | rt a e2 => rw [eb, fp_rt] at h2; exact .rt h2
        | bk e2 => rw [eb] at h2; exact nomatch h2
        | ct e2 => rw [eb] at h2; exact nomatch h2
        | ex x e2 => rw [eb] at h2; exact nomatch h2
        | bad => rw [eb] at h2; exact nomatch h2
  exact key _ env (Nat.lt_succ_self _) h0
theorem lc_ok {kd : Dt → A} {mi : MI} {g : MG} {tt : MT} {el : ME} {vs : List Nat} {env e : Env} {te as : List A} {rd : Env → Option (List Dt)} {xs : List Dt} (I : List Dt → List Dt → Env → Prop) (hm : mi env te = .ok (as, rd) e) (hw : wipeOk e (.own (.l []) :: (as ++ te)) vs = true) (h0 : I xs [] (wipeE e vs)) (hr : ∀ r acc e, I r acc e → rd e = some xs)
    (step : ∀ x r acc e, I (x :: r) acc e → ∃ e1, g (kd x) e (.own (.l acc) :: (as ++ te)) = some e1 ∧ ∃ b e2, tt e1 (.own (.l acc) :: (as ++ te)) = .ok b e2 ∧
      (b = true → ∃ y e3, el e2 (.own (.l acc) :: (as ++ te)) = .ok (.d y) e3 ∧ acc.length < sizeLine ∧ wipeOk e3 (.own (.l (acc ++ [y])) :: (as ++ te)) vs = true ∧ I r (acc ++ [y]) (wipeE e3 vs)) ∧
      (b = false → wipeOk e2 (.own (.l acc) :: (as ++ te)) vs = true ∧ I r acc (wipeE e2 vs))) : ∃ ys e', mLc kd mi g tt el vs env te = .ok (.own (.l ys)) e' ∧ I [] ys e' := by
  obtain ⟨ys, e', h1, h2⟩ := lcM_inv (te := as ++ te) I hr step _ _ _ h0
  refine ⟨ys, e', ?_, h2⟩
  show ((mi env te).bind _) = _
  rw [hm]
  show (match rd (wipeE e vs) with | some xs => if wipeOk e (.own (.l []) :: (as ++ te)) vs = true then (lcM kd rd xs (as ++ te) g tt el vs xs [] (wipeE e vs)).bind fun ys e2 => Rs.ok (A.own (.l ys)) e2 else .bad | none => .bad) = _
  rw [hr _ _ _ h0]
  show (if wipeOk e (.own (.l []) :: (as ++ te)) vs = true then (lcM kd rd xs (as ++ te) g tt el vs xs [] (wipeE e vs)).bind fun ys e2 => Rs.ok (A.own (.l ys)) e2 else .bad) = _
  rw [if_pos hw, h1]
  rfl
theorem lc_okr {kd : Dt → A} {mi : MI} {g : MG} {tt : MT} {el : ME} {vs : List Nat} {env e : Env} {te as : List A} {rd : Env → Option (List Dt)} {xs : List Dt} {r0 : Rs A} (hl : mLc kd mi g tt el vs env te = r0) (I : List Dt → List Dt → Env → Prop) (hm : mi env te = .ok (as, rd) e) (hw : wipeOk e (.own (.l []) :: (as ++ te)) vs = true) (h0 : I xs [] (wipeE e vs)) (hr : ∀ r acc e, I r acc e → rd e = some xs)
    (step : ∀ x r acc e, I (x :: r) acc e → ∃ e1, g (kd x) e (.own (.l acc) :: (as ++ te)) = some e1 ∧ ∃ b e2, tt e1 (.own (.l acc) :: (as ++ te)) = .ok b e2 ∧
      (b = true → ∃ y e3, el e2 (.own (.l acc) :: (as ++ te)) = .ok (.d y) e3 ∧ acc.length < sizeLine ∧ wipeOk e3 (.own (.l (acc ++ [y])) :: (as ++ te)) vs = true ∧ I r (acc ++ [y]) (wipeE e3 vs)) ∧
      (b = false → wipeOk e2 (.own (.l acc) :: (as ++ te)) vs = true ∧ I r acc (wipeE e2 vs))) : ∃ ys e', r0 = .ok (.own (.l ys)) e' ∧ I [] ys e' := by
  rw [← hl]
  exact lc_ok I hm hw h0 hr step
end Tw

namespace Tw
open PySem PySem.Spec PyProof.Rows L2
/-! ### blocks, statement by statement -/
theorem FP.st {N : Env → Prop} {R : A → Env → Prop} {m n : MS} {env e : Env} {te : List A} (h : m env te = .nx e) (k : FP N R (n e te)) : FP N R (mSeq m n env te) := by
  rw [fp_seq, h]
  exact .nx k
theorem FP.sq {N : Env → Prop} {R : A → Env → Prop} {m n : MS} {env : Env} {te : List A} (k : FP (fun e => FP N R (n e te)) R (m env te)) : FP N R (mSeq m n env te) := by
  rw [fp_seq]
  exact k
theorem FP.en {N : Env → Prop} {R : A → Env → Prop} {m : MS} {env e : Env} {te : List A} (h : m env te = .nx e) (k : N e) : FP N R (m env te) := by
  rw [h]
  exact .nx k
theorem FP.re {N : Env → Prop} {R : A → Env → Prop} {m : ME} {env e : Env} {te : List A} {a : A} (h : m env te = .ok a e) (k : R a e) : FP N R (mRet m env te) := by
  show FP N R ((m env te).fl _)
  rw [h]
  exact .rt k
theorem FP.imp {N N' : Env → Prop} {R R' : A → Env → Prop} {f : Fl} (h : FP N R f) (hn : ∀ e, N e → N' e) (hr : ∀ a e, R a e → R' a e) : FP N' R' f := by
  cases h with
  | nx h => exact .nx (hn _ h)
  | rt h => exact .rt (hr _ _ h)
/-- a comprehension that neither draws nor changes anything -/
theorem lc_pureE {kd : Dt → A} {mi : MI} {g : MG} {tt : MT} {el : ME} {vs : List Nat} {env e : Env} {te as : List A} {rd : Env → Option (List Dt)} {xs : List Dt} (p : Dt → Bool) (f : Dt → Dt) (hm : mi env te = .ok (as, rd) e) (hr : rd e = some xs) (hl : xs.length ≤ 100000) (hw : wipeOk e (.own (.l []) :: (as ++ te)) vs = true) (hwe : wipeE e vs = e)
    (step : ∀ x ∈ xs, ∀ acc : List Dt, ∃ e1, g (kd x) e (.own (.l acc) :: (as ++ te)) = some e1 ∧ tt e1 (.own (.l acc) :: (as ++ te)) = .ok (p x) e1 ∧ (p x = true → el e1 (.own (.l acc) :: (as ++ te)) = .ok (.d (f x)) e1) ∧ (∀ acc' : List Dt, wipeOk e1 (.own (.l acc') :: (as ++ te)) vs = true) ∧ wipeE e1 vs = e) :
    mLc kd mi g tt el vs env te = .ok (.own (.l ((xs.filter p).map f))) e := by
  obtain ⟨ys, e', h1, done, h2, rfl, rfl⟩ := lc_ok (kd := kd) (mi := mi) (g := g) (tt := tt) (el := el) (vs := vs) (env := env) (te := te) (as := as) (rd := rd) (xs := xs) (e := e) (fun r acc e' => ∃ done, xs = done ++ r ∧ acc = (done.filter p).map f ∧ e' = e) hm hw ⟨[], rfl, rfl, hwe⟩ (by rintro r acc e ⟨_, _, _, rfl⟩; exact hr) (by
    rintro x r acc e' ⟨done, h1, h2, rfl⟩
    obtain ⟨e1, q1, q2, q3, q4, q5⟩ := step x (by rw [h1]; exact List.mem_append_right _ List.mem_cons_self) acc
    refine ⟨e1, q1, p x, e1, q2, fun hb => ⟨f x, e1, q3 hb, ?_, q4 _, done ++ [x], by rw [h1]; simp, ?_, q5⟩, fun hb => ⟨q4 _, done ++ [x], by rw [h1]; simp, ?_, q5⟩⟩
    · have e1 : xs.length = done.length + (r.length + 1) := by rw [h1, List.length_append, List.length_cons]
      have e2 := List.length_filter_le p done
      have e3 : acc.length = (done.filter p).length := by rw [h2, List.length_map]
      refine big' ?_
      omega
    · rw [h2, List.filter_append, List.filter_cons, if_pos hb, List.map_append]
      rfl
    · rw [h2, List.filter_append, List.filter_cons, if_neg (by rw [hb]; exact Bool.false_ne_true), List.map_append]
      simp)
  rw [h1, h2, List.append_nil]
theorem lc_pure {kd : Dt → A} {mi : MI} {g : MG} {tt : MT} {el : ME} {vs : List Nat} {e : Env} {te as : List A} {rd : Env → Option (List Dt)} {xs : List Dt} (p : Dt → Bool) (f : Dt → Dt) (hm : mi e te = .ok (as, rd) e) (hr : rd e = some xs) (hl : xs.length ≤ 100000) (hw : wipeOk e (.own (.l []) :: (as ++ te)) vs = true) (hwe : wipeE e vs = e)
    (step : ∀ x ∈ xs, ∀ acc : List Dt, ∃ e1, g (kd x) e (.own (.l acc) :: (as ++ te)) = some e1 ∧ tt e1 (.own (.l acc) :: (as ++ te)) = .ok (p x) e1 ∧ (p x = true → el e1 (.own (.l acc) :: (as ++ te)) = .ok (.d (f x)) e1) ∧ (∀ acc' : List Dt, wipeOk e1 (.own (.l acc') :: (as ++ te)) vs = true) ∧ wipeE e1 vs = e) :
    mLc kd mi g tt el vs e te = .ok (.own (.l ((xs.filter p).map f))) e := lc_pureE p f hm hr hl hw hwe step
/-- a def whose result is told -/
theorem ok_of {f : DF} {as ios : List A} {r : A} (h : DOk (fun a i => a = r ∧ i = ios) (f as)) : f as = .ok r ios := by
  obtain ⟨a, i, e, rfl, rfl⟩ := h.ex
  exact e
/-! ### cells that hold a datum or nothing -/
def od : Option Dt → Option A
  | none => none
  | some x => some (.d x)
theorem od_none : od none = none := rfl
theorem od_some (x : Dt) : od (some x) = some (.d x) := rfl
def cB (f : A → Bool) : Option A → Bool
  | some a => f a
  | none => false
theorem inE_nil (f : A → Bool) : inE f [] = false := rfl
theorem inE_cons (f : A → Bool) (c : Option A) (e : Env) : inE f (c :: e) = (cB f c || inE f e) := by
  cases c <;> rfl
theorem cB_some (f : A → Bool) (a : A) : cB f (some a) = f a := rfl
theorem cB_none (f : A → Bool) : cB f none = false := rfl
theorem cB_od_rf (i : Nat) (o : Option Dt) : cB (isRf i) (od o) = false := by cases o <;> rfl
theorem cB_od_nest (i : Nat) (o : Option Dt) : cB (isNest i) (od o) = false := by cases o <;> rfl
theorem cB_od_nestK (i : Nat) (k : Key) (o : Option Dt) : cB (isNestK i k) (od o) = false := by cases o <;> rfl
def nIo : Option (Option A) → Bool
  | some (some (.io _)) => false
  | _ => true
theorem nIo0 : nIo none = true := rfl
theorem nIo1 : nIo (some none) = true := rfl
theorem nIo_d (x : Dt) : nIo (some (some (.d x))) = true := rfl
theorem nIo_own (o : Ow) : nIo (some (some (.own o))) = true := rfl
theorem nIo_io (o : Ow) : nIo (some (some (.io o))) = false := rfl
theorem nIo_rf (i : Nat) (p : Option Key) : nIo (some (some (.rf i p))) = true := rfl
theorem nIo_sc (x : List Int) : nIo (some (some (.sc x))) = true := rfl
theorem nIo_q (x : List Dt) : nIo (some (some (.q x))) = true := rfl
theorem nIo_od (o : Option Dt) : nIo (some (od o)) = true := by cases o <;> rfl
theorem ev_setOk (i : Nat) (a : A) (env : Env) (te : List A) : setOk i a env te = (decide (i < env.length) && nIo env[i]? && !anyC (isRf i) env (a :: te) && !isIo a) := by
  unfold setOk nIo
  rfl
theorem wipeOk_nil (env : Env) (te : List A) : wipeOk env te [] = true := rfl
theorem wipeOk_cons (env : Env) (te : List A) (v : Nat) (vs : List Nat) : wipeOk env te (v :: vs) = (wipeOk env te vs && !anyC (isRf v) (wipeE env vs) te && nIo (wipeE env vs)[v]?) := by
  rw [wipeOk]
  unfold nIo
  rfl
def wKc (i : Nat) (k : Key) : Option A → Option A
  | some a => if isNestK i k a = true then none else some a
  | none => none
theorem wipeK_nil (i : Nat) (k : Key) : wipeK i k [] = [] := rfl
theorem wipeK_cons (i : Nat) (k : Key) (c : Option A) (e : Env) : wipeK i k (c :: e) = wKc i k c :: wipeK i k e := by
  cases c <;> rfl
theorem wKc_some (i : Nat) (k : Key) (a : A) : wKc i k (some a) = if isNestK i k a = true then none else some a := rfl
theorem wKc_none (i : Nat) (k : Key) : wKc i k none = none := rfl
theorem wKc_od (i : Nat) (k : Key) (o : Option Dt) : wKc i k (od o) = od o := by cases o <;> rfl
end Tw


local macro_rules
  | `(tactic| simp! [$xs,*]) => `(tactic| simp [Tw.owAt, Tw.Ow.sub, Tw.A.val, Tw.Ow.lst?, Tw.A.lstT?, Tw.A.lst?, Tw.A.tup?, Tw.vA, Tw.ev_mVar, Tw.ev_mC, Tw.ev_mNil, Tw.ek_mCons_1, Tw.ek_mCons_0, Tw.ev_mCons, Tw.frzA, Tw.ek_mD_0, Tw.ev_mD, Tw.ek_mOp_1, Tw.ek_mOp_0, Tw.ev_mOp, Tw.ek_mU_0, Tw.ev_mU, Tw.ek_mCB_0, Tw.ev_mCB, Tw.ev_fl2, Tw.ev_fl1, Tw.tstA, Tw.ev_mTst, Tw.ek_mAnd_0, Tw.ev_mAnd, Tw.ek_mOr_0, Tw.ev_mOr, Tw.ek_mNot_0, Tw.ev_mNot, Tw.ev_mYes, Tw.ek_mIfE_0, Tw.ev_mIfE, Tw.ek_mAndE_0, Tw.ev_mAndE, Tw.ek_mOrE_0, Tw.ev_mOrE, Tw.ek_mNotE_0, Tw.ev_mNotE, Tw.ev_setOk, Tw.nIo0, Tw.nIo1, Tw.nIo_d, Tw.nIo_own, Tw.nIo_io, Tw.nIo_rf, Tw.nIo_sc, Tw.nIo_q, Tw.nIo_od, Tw.od_none, Tw.od_some, Tw.ev_gN, Tw.gTs, Tw.ev_gT, Tw.ek_mAsg_0, Tw.ev_mAsg, Tw.ek_mDrop_0, Tw.ev_mDrop, Tw.ek_mIfS_0, Tw.ev_mIfS, Tw.ek_mRet_0, Tw.ev_mRet, Tw.ev_mRetN, Tw.ev_mNext, Tw.ev_mBrk, Tw.ev_mCt, Tw.ev_mNever, Tw.kdQ, Tw.wipeE, Tw.wipeOk_nil, Tw.wipeOk_cons, Tw.Rs.noX, Tw.backA, Tw.backs, Tw.retA, Tw.tupD, Tw.tupAll, Tw.Ow.tup, Tw.A.tup, Tw.A.ioTup, Tw.cvA, Tw.cvAs, Tw.ioS, Tw.brS, Tw.agOk, Tw.setOw, Tw.setIo, Tw.doCall, Tw.ek_mCall_0, Tw.ev_mCall, Tw.d2, Tw.ev_addA, Tw.ev_mulA, Tw.subD, Tw.divD, Tw.modD, Tw.powD, Tw.negD, Tw.ltD, Tw.leD, Tw.gtD, Tw.geD, Tw.isNoneD, Tw.isD, Tw.notD, Tw.seqD, Tw.dAll, Tw.ek_mTup_0, Tw.ev_mTup, Tw.ek_mLst_0, Tw.ev_mLst, Tw.ev_ixA, Tw.ev_mNoPart, Tw.ek_mPart_0, Tw.ev_mPart, Tw.slA, Tw.ek_mSl_2, Tw.ek_mSl_1, Tw.ek_mSl_0, Tw.ev_mSl, Tw.revA, Tw.revLA, Tw.ev_one, Tw.lenD, Tw.ev_lenA, Tw.ev_tupA, Tw.ev_lstA, Tw.ev_allA, Tw.ev_anyA, Tw.tyD, Tw.ek_mIsi_0, Tw.ev_mIsi, Tw.absD, Tw.intD, Tw.ev_min2A, Tw.ev_max2A, Tw.joinS, Tw.ek_mJoin_0, Tw.ev_mJoin, Tw.isNestK, Tw.reOw, Tw.Ow.put, Tw.setP, Tw.isL, Tw.ek_mMeth_0, Tw.ev_mMeth, Tw.ev_appA, Tw.ev_extA, Tw.ev_insA, Tw.ev_popA, Tw.ev_popAtA, Tw.ek_mTix_0, Tw.ev_mTix, Tw.setLA, Tw.ek_mSetL_2, Tw.ek_mSetL_1, Tw.ek_mSetL_0, Tw.ev_mSetL, Tw.A.seq?, Tw.ek_mSeqI_0, Tw.ev_mSeqI, Tw.ek_mRng1_0, Tw.ev_mRng1, Tw.ek_mRng2_1, Tw.ek_mRng2_0, Tw.ev_mRng2, Tw.ek_mEnT_0, Tw.ev_mEnT, Tw.ek_mEnL_0, Tw.ev_mEnL, Tw.ev_mPure, Tw.isDict, Tw.ev_mPureK, Tw.ev_mPureL, Tw.ev_mKI, Tw.keyD, Tw.dgO, Tw.dgA, Tw.dinA, Tw.isDct, Tw.ek_mDGet2_0, Tw.ev_mDGet2, Tw.keysA, Tw.ownTo, Tw.putO, Tw.wipeK_nil, Tw.wipeK_cons, Tw.wKc_some, Tw.wKc_none, Tw.wKc_od, Tw.putA, Tw.ek_mPut_2, Tw.ek_mPut_1, Tw.ek_mPut_0, Tw.ev_mPut, Tw.ev_appLA, Tw.ev_popLA, Tw.ev_orM, Tw.ev_mNest, Tw.flatM, Tw.pairUp, Tw.ek_mDisp1_1, Tw.ek_mDisp1_0, Tw.ev_mDisp1, Tw.DRs.noX, Tw.ek_mPar_0, Tw.ev_mPar, Tw.ek_mPar3_0, Tw.ev_mPar3, Tw.ek_mChain_1, Tw.ek_mChain_0, Tw.ev_mChain, Tw.ev_mDnew, Tw.ev_gL, Tw.A.ow, Tw.zq00, Tw.ev_fl_ok, Tw.ev_th_nx, Tw.ev_th_rt, Tw.ev_lp_nx, Tw.ev_lp_rt, Tw.ev_noXf, Tw.fp_nx, Tw.fp_rt, Tw.fp_seq, Tw.sq_ap, Tw.anyC, Tw.inE_nil, Tw.inE_cons, Tw.cB_some, Tw.cB_none, Tw.cB_od_rf, Tw.cB_od_nest, Tw.cB_od_nestK, Tw.isRf, Tw.isNest, Tw.isIo, Tw.Ow.dt, Tw.mutL, Tw.mDisp, $xs,*])
  | `(tactic| simp!) => `(tactic| simp [Tw.owAt, Tw.Ow.sub, Tw.A.val, Tw.Ow.lst?, Tw.A.lstT?, Tw.A.lst?, Tw.A.tup?, Tw.vA, Tw.ev_mVar, Tw.ev_mC, Tw.ev_mNil, Tw.ek_mCons_1, Tw.ek_mCons_0, Tw.ev_mCons, Tw.frzA, Tw.ek_mD_0, Tw.ev_mD, Tw.ek_mOp_1, Tw.ek_mOp_0, Tw.ev_mOp, Tw.ek_mU_0, Tw.ev_mU, Tw.ek_mCB_0, Tw.ev_mCB, Tw.ev_fl2, Tw.ev_fl1, Tw.tstA, Tw.ev_mTst, Tw.ek_mAnd_0, Tw.ev_mAnd, Tw.ek_mOr_0, Tw.ev_mOr, Tw.ek_mNot_0, Tw.ev_mNot, Tw.ev_mYes, Tw.ek_mIfE_0, Tw.ev_mIfE, Tw.ek_mAndE_0, Tw.ev_mAndE, Tw.ek_mOrE_0, Tw.ev_mOrE, Tw.ek_mNotE_0, Tw.ev_mNotE, Tw.ev_setOk, Tw.nIo0, Tw.nIo1, Tw.nIo_d, Tw.nIo_own, Tw.nIo_io, Tw.nIo_rf, Tw.nIo_sc, Tw.nIo_q, Tw.nIo_od, Tw.od_none, Tw.od_some, Tw.ev_gN, Tw.gTs, Tw.ev_gT, Tw.ek_mAsg_0, Tw.ev_mAsg, Tw.ek_mDrop_0, Tw.ev_mDrop, Tw.ek_mIfS_0, Tw.ev_mIfS, Tw.ek_mRet_0, Tw.ev_mRet, Tw.ev_mRetN, Tw.ev_mNext, Tw.ev_mBrk, Tw.ev_mCt, Tw.ev_mNever, Tw.kdQ, Tw.wipeE, Tw.wipeOk_nil, Tw.wipeOk_cons, Tw.Rs.noX, Tw.backA, Tw.backs, Tw.retA, Tw.tupD, Tw.tupAll, Tw.Ow.tup, Tw.A.tup, Tw.A.ioTup, Tw.cvA, Tw.cvAs, Tw.ioS, Tw.brS, Tw.agOk, Tw.setOw, Tw.setIo, Tw.doCall, Tw.ek_mCall_0, Tw.ev_mCall, Tw.d2, Tw.ev_addA, Tw.ev_mulA, Tw.subD, Tw.divD, Tw.modD, Tw.powD, Tw.negD, Tw.ltD, Tw.leD, Tw.gtD, Tw.geD, Tw.isNoneD, Tw.isD, Tw.notD, Tw.seqD, Tw.dAll, Tw.ek_mTup_0, Tw.ev_mTup, Tw.ek_mLst_0, Tw.ev_mLst, Tw.ev_ixA, Tw.ev_mNoPart, Tw.ek_mPart_0, Tw.ev_mPart, Tw.slA, Tw.ek_mSl_2, Tw.ek_mSl_1, Tw.ek_mSl_0, Tw.ev_mSl, Tw.revA, Tw.revLA, Tw.ev_one, Tw.lenD, Tw.ev_lenA, Tw.ev_tupA, Tw.ev_lstA, Tw.ev_allA, Tw.ev_anyA, Tw.tyD, Tw.ek_mIsi_0, Tw.ev_mIsi, Tw.absD, Tw.intD, Tw.ev_min2A, Tw.ev_max2A, Tw.joinS, Tw.ek_mJoin_0, Tw.ev_mJoin, Tw.isNestK, Tw.reOw, Tw.Ow.put, Tw.setP, Tw.isL, Tw.ek_mMeth_0, Tw.ev_mMeth, Tw.ev_appA, Tw.ev_extA, Tw.ev_insA, Tw.ev_popA, Tw.ev_popAtA, Tw.ek_mTix_0, Tw.ev_mTix, Tw.setLA, Tw.ek_mSetL_2, Tw.ek_mSetL_1, Tw.ek_mSetL_0, Tw.ev_mSetL, Tw.A.seq?, Tw.ek_mSeqI_0, Tw.ev_mSeqI, Tw.ek_mRng1_0, Tw.ev_mRng1, Tw.ek_mRng2_1, Tw.ek_mRng2_0, Tw.ev_mRng2, Tw.ek_mEnT_0, Tw.ev_mEnT, Tw.ek_mEnL_0, Tw.ev_mEnL, Tw.ev_mPure, Tw.isDict, Tw.ev_mPureK, Tw.ev_mPureL, Tw.ev_mKI, Tw.keyD, Tw.dgO, Tw.dgA, Tw.dinA, Tw.isDct, Tw.ek_mDGet2_0, Tw.ev_mDGet2, Tw.keysA, Tw.ownTo, Tw.putO, Tw.wipeK_nil, Tw.wipeK_cons, Tw.wKc_some, Tw.wKc_none, Tw.wKc_od, Tw.putA, Tw.ek_mPut_2, Tw.ek_mPut_1, Tw.ek_mPut_0, Tw.ev_mPut, Tw.ev_appLA, Tw.ev_popLA, Tw.ev_orM, Tw.ev_mNest, Tw.flatM, Tw.pairUp, Tw.ek_mDisp1_1, Tw.ek_mDisp1_0, Tw.ev_mDisp1, Tw.DRs.noX, Tw.ek_mPar_0, Tw.ev_mPar, Tw.ek_mPar3_0, Tw.ev_mPar3, Tw.ek_mChain_1, Tw.ek_mChain_0, Tw.ev_mChain, Tw.ev_mDnew, Tw.ev_gL, Tw.A.ow, Tw.zq00, Tw.ev_fl_ok, Tw.ev_th_nx, Tw.ev_th_rt, Tw.ev_lp_nx, Tw.ev_lp_rt, Tw.ev_noXf, Tw.fp_nx, Tw.fp_rt, Tw.fp_seq, Tw.sq_ap, Tw.anyC, Tw.inE_nil, Tw.inE_cons, Tw.cB_some, Tw.cB_none, Tw.cB_od_rf, Tw.cB_od_nest, Tw.cB_od_nestK, Tw.isRf, Tw.isNest, Tw.isIo, Tw.Ow.dt, Tw.mutL, Tw.mDisp])
  | `(tactic| simp! only [$xs,*]) => `(tactic| simp only [Tw.owAt, Tw.Ow.sub, Tw.A.val, Tw.Ow.lst?, Tw.A.lstT?, Tw.A.lst?, Tw.A.tup?, Tw.vA, Tw.ev_mVar, Tw.ev_mC, Tw.ev_mNil, Tw.ek_mCons_1, Tw.ek_mCons_0, Tw.ev_mCons, Tw.frzA, Tw.ek_mD_0, Tw.ev_mD, Tw.ek_mOp_1, Tw.ek_mOp_0, Tw.ev_mOp, Tw.ek_mU_0, Tw.ev_mU, Tw.ek_mCB_0, Tw.ev_mCB, Tw.ev_fl2, Tw.ev_fl1, Tw.tstA, Tw.ev_mTst, Tw.ek_mAnd_0, Tw.ev_mAnd, Tw.ek_mOr_0, Tw.ev_mOr, Tw.ek_mNot_0, Tw.ev_mNot, Tw.ev_mYes, Tw.ek_mIfE_0, Tw.ev_mIfE, Tw.ek_mAndE_0, Tw.ev_mAndE, Tw.ek_mOrE_0, Tw.ev_mOrE, Tw.ek_mNotE_0, Tw.ev_mNotE, Tw.ev_setOk, Tw.nIo0, Tw.nIo1, Tw.nIo_d, Tw.nIo_own, Tw.nIo_io, Tw.nIo_rf, Tw.nIo_sc, Tw.nIo_q, Tw.nIo_od, Tw.od_none, Tw.od_some, Tw.ev_gN, Tw.gTs, Tw.ev_gT, Tw.ek_mAsg_0, Tw.ev_mAsg, Tw.ek_mDrop_0, Tw.ev_mDrop, Tw.ek_mIfS_0, Tw.ev_mIfS, Tw.ek_mRet_0, Tw.ev_mRet, Tw.ev_mRetN, Tw.ev_mNext, Tw.ev_mBrk, Tw.ev_mCt, Tw.ev_mNever, Tw.kdQ, Tw.wipeE, Tw.wipeOk_nil, Tw.wipeOk_cons, Tw.Rs.noX, Tw.backA, Tw.backs, Tw.retA, Tw.tupD, Tw.tupAll, Tw.Ow.tup, Tw.A.tup, Tw.A.ioTup, Tw.cvA, Tw.cvAs, Tw.ioS, Tw.brS, Tw.agOk, Tw.setOw, Tw.setIo, Tw.doCall, Tw.ek_mCall_0, Tw.ev_mCall, Tw.d2, Tw.ev_addA, Tw.ev_mulA, Tw.subD, Tw.divD, Tw.modD, Tw.powD, Tw.negD, Tw.ltD, Tw.leD, Tw.gtD, Tw.geD, Tw.isNoneD, Tw.isD, Tw.notD, Tw.seqD, Tw.dAll, Tw.ek_mTup_0, Tw.ev_mTup, Tw.ek_mLst_0, Tw.ev_mLst, Tw.ev_ixA, Tw.ev_mNoPart, Tw.ek_mPart_0, Tw.ev_mPart, Tw.slA, Tw.ek_mSl_2, Tw.ek_mSl_1, Tw.ek_mSl_0, Tw.ev_mSl, Tw.revA, Tw.revLA, Tw.ev_one, Tw.lenD, Tw.ev_lenA, Tw.ev_tupA, Tw.ev_lstA, Tw.ev_allA, Tw.ev_anyA, Tw.tyD, Tw.ek_mIsi_0, Tw.ev_mIsi, Tw.absD, Tw.intD, Tw.ev_min2A, Tw.ev_max2A, Tw.joinS, Tw.ek_mJoin_0, Tw.ev_mJoin, Tw.isNestK, Tw.reOw, Tw.Ow.put, Tw.setP, Tw.isL, Tw.ek_mMeth_0, Tw.ev_mMeth, Tw.ev_appA, Tw.ev_extA, Tw.ev_insA, Tw.ev_popA, Tw.ev_popAtA, Tw.ek_mTix_0, Tw.ev_mTix, Tw.setLA, Tw.ek_mSetL_2, Tw.ek_mSetL_1, Tw.ek_mSetL_0, Tw.ev_mSetL, Tw.A.seq?, Tw.ek_mSeqI_0, Tw.ev_mSeqI, Tw.ek_mRng1_0, Tw.ev_mRng1, Tw.ek_mRng2_1, Tw.ek_mRng2_0, Tw.ev_mRng2, Tw.ek_mEnT_0, Tw.ev_mEnT, Tw.ek_mEnL_0, Tw.ev_mEnL, Tw.ev_mPure, Tw.isDict, Tw.ev_mPureK, Tw.ev_mPureL, Tw.ev_mKI, Tw.keyD, Tw.dgO, Tw.dgA, Tw.dinA, Tw.isDct, Tw.ek_mDGet2_0, Tw.ev_mDGet2, Tw.keysA, Tw.ownTo, Tw.putO, Tw.wipeK_nil, Tw.wipeK_cons, Tw.wKc_some, Tw.wKc_none, Tw.wKc_od, Tw.putA, Tw.ek_mPut_2, Tw.ek_mPut_1, Tw.ek_mPut_0, Tw.ev_mPut, Tw.ev_appLA, Tw.ev_popLA, Tw.ev_orM, Tw.ev_mNest, Tw.flatM, Tw.pairUp, Tw.ek_mDisp1_1, Tw.ek_mDisp1_0, Tw.ev_mDisp1, Tw.DRs.noX, Tw.ek_mPar_0, Tw.ev_mPar, Tw.ek_mPar3_0, Tw.ev_mPar3, Tw.ek_mChain_1, Tw.ek_mChain_0, Tw.ev_mChain, Tw.ev_mDnew, Tw.ev_gL, Tw.A.ow, Tw.zq00, Tw.ev_fl_ok, Tw.ev_th_nx, Tw.ev_th_rt, Tw.ev_lp_nx, Tw.ev_lp_rt, Tw.ev_noXf, Tw.fp_nx, Tw.fp_rt, Tw.fp_seq, Tw.sq_ap, Tw.anyC, Tw.inE_nil, Tw.inE_cons, Tw.cB_some, Tw.cB_none, Tw.cB_od_rf, Tw.cB_od_nest, Tw.cB_od_nestK, Tw.isRf, Tw.isNest, Tw.isIo, Tw.Ow.dt, Tw.mutL, Tw.mDisp, $xs,*])
  | `(tactic| simp! only) => `(tactic| simp only [Tw.owAt, Tw.Ow.sub, Tw.A.val, Tw.Ow.lst?, Tw.A.lstT?, Tw.A.lst?, Tw.A.tup?, Tw.vA, Tw.ev_mVar, Tw.ev_mC, Tw.ev_mNil, Tw.ek_mCons_1, Tw.ek_mCons_0, Tw.ev_mCons, Tw.frzA, Tw.ek_mD_0, Tw.ev_mD, Tw.ek_mOp_1, Tw.ek_mOp_0, Tw.ev_mOp, Tw.ek_mU_0, Tw.ev_mU, Tw.ek_mCB_0, Tw.ev_mCB, Tw.ev_fl2, Tw.ev_fl1, Tw.tstA, Tw.ev_mTst, Tw.ek_mAnd_0, Tw.ev_mAnd, Tw.ek_mOr_0, Tw.ev_mOr, Tw.ek_mNot_0, Tw.ev_mNot, Tw.ev_mYes, Tw.ek_mIfE_0, Tw.ev_mIfE, Tw.ek_mAndE_0, Tw.ev_mAndE, Tw.ek_mOrE_0, Tw.ev_mOrE, Tw.ek_mNotE_0, Tw.ev_mNotE, Tw.ev_setOk, Tw.nIo0, Tw.nIo1, Tw.nIo_d, Tw.nIo_own, Tw.nIo_io, Tw.nIo_rf, Tw.nIo_sc, Tw.nIo_q, Tw.nIo_od, Tw.od_none, Tw.od_some, Tw.ev_gN, Tw.gTs, Tw.ev_gT, Tw.ek_mAsg_0, Tw.ev_mAsg, Tw.ek_mDrop_0, Tw.ev_mDrop, Tw.ek_mIfS_0, Tw.ev_mIfS, Tw.ek_mRet_0, Tw.ev_mRet, Tw.ev_mRetN, Tw.ev_mNext, Tw.ev_mBrk, Tw.ev_mCt, Tw.ev_mNever, Tw.kdQ, Tw.wipeE, Tw.wipeOk_nil, Tw.wipeOk_cons, Tw.Rs.noX, Tw.backA, Tw.backs, Tw.retA, Tw.tupD, Tw.tupAll, Tw.Ow.tup, Tw.A.tup, Tw.A.ioTup, Tw.cvA, Tw.cvAs, Tw.ioS, Tw.brS, Tw.agOk, Tw.setOw, Tw.setIo, Tw.doCall, Tw.ek_mCall_0, Tw.ev_mCall, Tw.d2, Tw.ev_addA, Tw.ev_mulA, Tw.subD, Tw.divD, Tw.modD, Tw.powD, Tw.negD, Tw.ltD, Tw.leD, Tw.gtD, Tw.geD, Tw.isNoneD, Tw.isD, Tw.notD, Tw.seqD, Tw.dAll, Tw.ek_mTup_0, Tw.ev_mTup, Tw.ek_mLst_0, Tw.ev_mLst, Tw.ev_ixA, Tw.ev_mNoPart, Tw.ek_mPart_0, Tw.ev_mPart, Tw.slA, Tw.ek_mSl_2, Tw.ek_mSl_1, Tw.ek_mSl_0, Tw.ev_mSl, Tw.revA, Tw.revLA, Tw.ev_one, Tw.lenD, Tw.ev_lenA, Tw.ev_tupA, Tw.ev_lstA, Tw.ev_allA, Tw.ev_anyA, Tw.tyD, Tw.ek_mIsi_0, Tw.ev_mIsi, Tw.absD, Tw.intD, Tw.ev_min2A, Tw.ev_max2A, Tw.joinS, Tw.ek_mJoin_0, Tw.ev_mJoin, Tw.isNestK, Tw.reOw, Tw.Ow.put, Tw.setP, Tw.isL, Tw.ek_mMeth_0, Tw.ev_mMeth, Tw.ev_appA, Tw.ev_extA, Tw.ev_insA, Tw.ev_popA, Tw.ev_popAtA, Tw.ek_mTix_0, Tw.ev_mTix, Tw.setLA, Tw.ek_mSetL_2, Tw.ek_mSetL_1, Tw.ek_mSetL_0, Tw.ev_mSetL, Tw.A.seq?, Tw.ek_mSeqI_0, Tw.ev_mSeqI, Tw.ek_mRng1_0, Tw.ev_mRng1, Tw.ek_mRng2_1, Tw.ek_mRng2_0, Tw.ev_mRng2, Tw.ek_mEnT_0, Tw.ev_mEnT, Tw.ek_mEnL_0, Tw.ev_mEnL, Tw.ev_mPure, Tw.isDict, Tw.ev_mPureK, Tw.ev_mPureL, Tw.ev_mKI, Tw.keyD, Tw.dgO, Tw.dgA, Tw.dinA, Tw.isDct, Tw.ek_mDGet2_0, Tw.ev_mDGet2, Tw.keysA, Tw.ownTo, Tw.putO, Tw.wipeK_nil, Tw.wipeK_cons, Tw.wKc_some, Tw.wKc_none, Tw.wKc_od, Tw.putA, Tw.ek_mPut_2, Tw.ek_mPut_1, Tw.ek_mPut_0, Tw.ev_mPut, Tw.ev_appLA, Tw.ev_popLA, Tw.ev_orM, Tw.ev_mNest, Tw.flatM, Tw.pairUp, Tw.ek_mDisp1_1, Tw.ek_mDisp1_0, Tw.ev_mDisp1, Tw.DRs.noX, Tw.ek_mPar_0, Tw.ev_mPar, Tw.ek_mPar3_0, Tw.ev_mPar3, Tw.ek_mChain_1, Tw.ek_mChain_0, Tw.ev_mChain, Tw.ev_mDnew, Tw.ev_gL, Tw.A.ow, Tw.zq00, Tw.ev_fl_ok, Tw.ev_th_nx, Tw.ev_th_rt, Tw.ev_lp_nx, Tw.ev_lp_rt, Tw.ev_noXf, Tw.fp_nx, Tw.fp_rt, Tw.fp_seq, Tw.sq_ap, Tw.anyC, Tw.inE_nil, Tw.inE_cons, Tw.cB_some, Tw.cB_none, Tw.cB_od_rf, Tw.cB_od_nest, Tw.cB_od_nestK, Tw.isRf, Tw.isNest, Tw.isIo, Tw.Ow.dt, Tw.mutL, Tw.mDisp])
namespace Tw
open PySem PySem.Spec PyProof.Rows L2

end Tw
namespace Tw
open PySem PySem.Spec PyProof.Rows L2
def topS (i : Nat) : Stmt := PySem.Challenge.pw_twigscripts_k01_what_is_no_wood.main.body.getD i (.Pass ⟨0, 0, 0, 0⟩)
abbrev s_deckL : Stmt := topS 8
abbrev s_drawL : Stmt := topS 10
abbrev s_nameL : Stmt := topS 13
abbrev s_namesL : Stmt := topS 14
abbrev s_wood_ofL : Stmt := topS 9
abbrev s_tall_woodL : Stmt := topS 12
abbrev s_great_woodL : Stmt := topS 24
abbrev s_kidsL : Stmt := topS 17
abbrev s_pickL : Stmt := topS 18
abbrev s_oddL : Stmt := topS 19
abbrev s_odd_woodL : Stmt := topS 20
abbrev s_woodL : Stmt := topS 11
abbrev s_wood_and_namesL : Stmt := topS 15
abbrev s_some_woodL : Stmt := topS 16
abbrev s_is_nameL : Stmt := topS 21
abbrev s_reasonL : Stmt := topS 22
abbrev s_wood_errorL : Stmt := topS 23
abbrev s_is_name : Stmt := topS 5
abbrev s_wood_error : Stmt := topS 6
abbrev s_law : Stmt := topS 25
def dd_deckL : He.DefD := ⟨("_law_deck", none), "_law_deck", "_law_deck", defArgs s_deckL, defBody s_deckL, defScope s_deckL, [], []⟩
def dd_drawL : He.DefD := ⟨("_law_draw", none), "_law_draw", "_law_draw", defArgs s_drawL, defBody s_drawL, defScope s_drawL, [], []⟩
def dd_nameL : He.DefD := ⟨("_law_name", none), "_law_name", "_law_name", defArgs s_nameL, defBody s_nameL, defScope s_nameL, [], []⟩
def dd_namesL : He.DefD := ⟨("_law_names", none), "_law_names", "_law_names", defArgs s_namesL, defBody s_namesL, defScope s_namesL, [], []⟩
def dd_wood_ofL : He.DefD := ⟨("_law_wood_of", none), "_law_wood_of", "_law_wood_of", defArgs s_wood_ofL, defBody s_wood_ofL, defScope s_wood_ofL, [], []⟩
def dd_tall_woodL : He.DefD := ⟨("_law_tall_wood", none), "_law_tall_wood", "_law_tall_wood", defArgs s_tall_woodL, defBody s_tall_woodL, defScope s_tall_woodL, [], []⟩
def dd_great_woodL : He.DefD := ⟨("_law_great_wood", none), "_law_great_wood", "_law_great_wood", defArgs s_great_woodL, defBody s_great_woodL, defScope s_great_woodL, [], []⟩
def dd_kidsL : He.DefD := ⟨("_law_kids", none), "_law_kids", "_law_kids", defArgs s_kidsL, defBody s_kidsL, defScope s_kidsL, [], []⟩
def dd_pickL : He.DefD := ⟨("_law_pick", none), "_law_pick", "_law_pick", defArgs s_pickL, defBody s_pickL, defScope s_pickL, [], []⟩
def dd_oddL : He.DefD := ⟨("_law_odd", none), "_law_odd", "_law_odd", defArgs s_oddL, defBody s_oddL, defScope s_oddL, [], []⟩
def dd_odd_woodL : He.DefD := ⟨("_law_odd_wood", none), "_law_odd_wood", "_law_odd_wood", defArgs s_odd_woodL, defBody s_odd_woodL, defScope s_odd_woodL, [], []⟩
def dd_woodL : He.DefD := ⟨("_law_wood", none), "_law_wood", "_law_wood", defArgs s_woodL, defBody s_woodL, defScope s_woodL, [], []⟩
def dd_wood_and_namesL : He.DefD := ⟨("_law_wood_and_names", none), "_law_wood_and_names", "_law_wood_and_names", defArgs s_wood_and_namesL, defBody s_wood_and_namesL, defScope s_wood_and_namesL, [], []⟩
def dd_some_woodL : He.DefD := ⟨("_law_some_wood", none), "_law_some_wood", "_law_some_wood", defArgs s_some_woodL, defBody s_some_woodL, defScope s_some_woodL, [], []⟩
def dd_is_nameL : He.DefD := ⟨("_law_is_name", none), "_law_is_name", "_law_is_name", defArgs s_is_nameL, defBody s_is_nameL, defScope s_is_nameL, [], []⟩
def dd_reasonL : He.DefD := ⟨("_law_reason", none), "_law_reason", "_law_reason", defArgs s_reasonL, defBody s_reasonL, defScope s_reasonL, [], []⟩
def dd_wood_errorL : He.DefD := ⟨("_law_wood_error", none), "_law_wood_error", "_law_wood_error", defArgs s_wood_errorL, defBody s_wood_errorL, defScope s_wood_errorL, [], []⟩
def dd_is_name : He.DefD := ⟨("is_name", none), "is_name", "is_name", defArgs s_is_name, defBody s_is_name, defScope s_is_name, [], []⟩
def dd_wood_error : He.DefD := ⟨("wood_error", none), "wood_error", "wood_error", defArgs s_wood_error, defBody s_wood_error, defScope s_wood_error, [], []⟩
def dd_law : He.DefD := ⟨("law", none), "law", "law", defArgs s_law, defBody s_law, defScope s_law, [], []⟩
def fnD : List He.DefD := [dd_deckL, dd_drawL, dd_nameL, dd_namesL, dd_wood_ofL, dd_tall_woodL, dd_great_woodL, dd_kidsL, dd_pickL, dd_oddL, dd_odd_woodL, dd_woodL, dd_wood_and_namesL, dd_some_woodL, dd_is_nameL, dd_reasonL, dd_wood_errorL, dd_is_name, dd_wood_error, dd_law]
def faD : List He.Fa := [.glo "_law_deck", .glo "_law_draw", .glo "_law_name", .glo "_law_names", .glo "_law_wood_of", .glo "_law_tall_wood", .glo "_law_great_wood", .glo "_law_kids", .glo "_law_pick", .glo "_law_odd", .glo "_law_odd_wood", .glo "_law_wood", .glo "_law_wood_and_names", .glo "_law_some_wood", .glo "_law_is_name", .glo "_law_reason", .glo "_law_wood_error", .glo "is_name", .glo "wood_error", .glo "law", .free "abs", .free "all", .free "int", .free "isinstance", .free "len", .free "list", .free "max", .free "range", .free "repr", .free "set", .free "str", .free "tuple", .str "LETTERS" "abcdefghijklmnopqrstuvwxyz", .int "MAX_DEEP" 40, .int "MAX_LETTERS" 8, .int "MAX_NAMES" 120]
def chkD (K : PySem.W.Frag) : Bool := true
abbrev RR : PySem.W.OpenRow := PySem.W.OpenLaw.row PySem.Challenge.rw_twigscripts_k01_what_is_no_wood
abbrev hkD : PySem.W.Hook := hookX 5 chkD faD fnD
def obD (s : PySem.W.SharedT) : AlX := obsXG 5 chkD faD fnD (HandSHeadRun.getT s)
def looseD : List Str := [("MAX_DEEP" : Str), ("MAX_NAMES" : Str), ("LETTERS" : Str), ("MAX_LETTERS" : Str), ("is_name" : Str), ("wood_error" : Str), ("_law_deck" : Str), ("_law_wood_of" : Str), ("_law_draw" : Str), ("_law_wood" : Str), ("_law_tall_wood" : Str), ("_law_name" : Str), ("_law_names" : Str), ("_law_wood_and_names" : Str), ("_law_some_wood" : Str), ("_law_kids" : Str), ("_law_pick" : Str), ("_law_odd" : Str), ("_law_odd_wood" : Str), ("_law_is_name" : Str), ("_law_reason" : Str), ("_law_wood_error" : Str), ("_law_great_wood" : Str)]
theorem runD (w : World) : HandSHeadRun.RunEq RR (PySem.W.view RR.prog [25]) hkD obD 4000 looseD w := by
  intro os
  kernel_rfl
end Tw
namespace Tw
open PySem PySem.Spec PyProof.Rows L2

/-- slots of _law_deck: 0 _law_script, 1 _law_great, 2 _law_mixed, 3 _law_cell, 4 _law_more -/
def n_deckL : List Str := ["_law_script", "_law_great", "_law_mixed", "_law_cell", "_law_more"]
def t_deckL (K : KW) : TS :=
  (tSeq (tPar 1 2 (tCons (tC (.int 0)) (tCons (tOp (rAddU K) (tC (.int 2917)) (tOp rMulU (tC (.int 41)) (tCB (rLenU K) (tCons (tVar 0) tNil)))) tNil)))
    (tSeq (tFor (iSeq K (tSl (rSlU K) (tVar 0) tNoPart (tPart (tC (.int 60))))) (gName 3) (tSeq (tAsg (tOp (rAddU K) (tOp (rAddU K) (tOp rMulU (tC (.int 2)) (tCB rAbs (tCons (tVar 3) tNil))) (tCB rInt1 (tCons (tOp rLtU (tVar 3) (tC (.int 0))) tNil))) (tC (.int 1))) (gName 4))
    (tSeq (tAsg (tOp rModI (tCB rInt1 (tCons (tOp (rAddU K) (tOp rMulU (tVar 2) (tC (.int 6364136223846793005))) (tVar 4)) tNil)) (tC (.int 2305843009213693951))) (gName 2))
    (tIfS (tTest (tOp rGeI (tCB rAbs (tCons (tVar 3) tNil)) (tOp rPowI (tC (.int 10)) (tC (.int 18))))) (tAsg (tOp (rAddU K) (tOp rMulU (tVar 1) (tC (.int 37))) (tCB rAbs (tCons (tVar 3) tNil))) (gName 1)) tNext))))
    (tRet (tLst (tCons (tVar 1) (tCons (tVar 2) (tCons (tC (.int 0)) tNil)))))))
noncomputable def m_deckL : MS :=
  (mSeq (mPar 1 2 (mCons (mC (.int 0)) (mCons (mOp addA (mC (.int 2917)) (mOp mulA (mC (.int 41)) (mCB (one lenA) (mCons (mVar 0) mNil)))) mNil)))
    (mSeq (mFor .d (mSeqI (mD (mSl (mVar 0) mNoPart (mPart (mC (.int 60)))))) (gN 3) (mSeq (mAsg (mOp addA (mOp addA (mOp mulA (mC (.int 2)) (mCB (one (fl1 absD)) (mCons (mVar 3) mNil))) (mCB (one (fl1 intD)) (mCons (mOp (fl2 ltD) (mVar 3) (mC (.int 0))) mNil))) (mC (.int 1))) (gN 4))
    (mSeq (mAsg (mOp (fl2 modD) (mCB (one (fl1 intD)) (mCons (mOp addA (mOp mulA (mVar 2) (mC (.int 6364136223846793005))) (mVar 4)) mNil)) (mC (.int 2305843009213693951))) (gN 2))
    (mIfS (mTst (mOp (fl2 geD) (mCB (one (fl1 absD)) (mCons (mVar 3) mNil)) (mOp (fl2 powD) (mC (.int 10)) (mC (.int 18))))) (mAsg (mOp addA (mOp mulA (mVar 1) (mC (.int 37))) (mCB (one (fl1 absD)) (mCons (mVar 3) mNil))) (gN 1)) mNext))))
    (mRet (mLst (mCons (mD (mVar 1)) (mCons (mD (mVar 2)) (mCons (mC (.int 0)) mNil)))))))
theorem ss_deckL {K : KW} {B : Bs} {W : WX} : SS K B W (t_deckL K) (m_deckL) :=
  (ss_seq (ss_par (sa_cons (se_int _) (sa_cons (se_op so_add (se_int _) (se_op so_mul (se_int _) (se_cb (soa_one so1_len) (sa_cons (se_var _) sa_nil)))) sa_nil)) (by decide))
    (ss_seq (ss_for (si_seq (se_D (se_sl (se_var _) so_none (so_part (se_int _))))) (sg_name _) (ss_seq (ss_asg (se_op so_add (se_op so_add (se_op so_mul (se_int _) (se_cb (soa_one (so1_fl us_abs)) (sa_cons (se_var _) sa_nil))) (se_cb (soa_one (so1_fl us_int)) (sa_cons (se_op (so2_fl os_lt) (se_var _) (se_int _)) sa_nil))) (se_int _)) (sg_name _))
    (ss_seq (ss_asg (se_op (so2_fl os_mod) (se_cb (soa_one (so1_fl us_int)) (sa_cons (se_op so_add (se_op so_mul (se_var _) (se_int _)) (se_var _)) sa_nil)) (se_int _)) (sg_name _))
    (ss_if (st_Test (se_op (so2_fl os_ge) (se_cb (soa_one (so1_fl us_abs)) (sa_cons (se_var _) sa_nil)) (se_op (so2_fl os_pow) (se_int _) (se_int _)))) (ss_asg (se_op so_add (se_op so_mul (se_var _) (se_int _)) (se_cb (soa_one (so1_fl us_abs)) (sa_cons (se_var _) sa_nil))) (sg_name _)) ss_next))))
    (ss_ret (se_lst (sa_cons (se_D (se_var _)) (sa_cons (se_D (se_var _)) (sa_cons (se_int _) sa_nil)))))))
noncomputable def f_deckL : DF := runM 5 m_deckL

/-- slots of _law_draw: 0 _law_deck_here, 1 _law_many, 2 _law_digit, 3 _law_mixed -/
def n_drawL : List Str := ["_law_deck_here", "_law_many", "_law_digit", "_law_mixed"]
def t_drawL (K : KW) : TS :=
  (tSeq (tIfS (tTest (tOp rGtI (tOp (rIx K) (tVar 0) (tC (.int 0))) (tC (.int 0)))) (tSeq (tAsg (tOp rModI (tCB rInt1 (tCons (tOp (rIx K) (tVar 0) (tC (.int 0))) tNil)) (tVar 1)) (gName 2))
    (tSeq (tAsg (tOp rDivI (tOp (rIx K) (tVar 0) (tC (.int 0))) (tVar 1)) (gSub (tVar 0) (tC (.int 0)) rSetL))
    (tRet (tVar 2)))) tNext)
    (tSeq (tAsg (tOp (rAddU K) (tOp (rIx K) (tVar 0) (tC (.int 2))) (tC (.int 1))) (gSub (tVar 0) (tC (.int 2)) rSetL))
    (tSeq (tAsg (tOp rModI (tCB rInt1 (tCons (tOp (rAddU K) (tOp (rIx K) (tVar 0) (tC (.int 1))) (tOp rMulU (tC (.int 11400714819323198485)) (tOp (rIx K) (tVar 0) (tC (.int 2))))) tNil)) (tC (.int 18446744073709551557))) (gName 3))
    (tSeq (tAsg (tOp rModI (tCB rInt1 (tCons (tOp rMulU (tVar 3) (tOp (rAddU K) (tOp rModI (tVar 3) (tC (.int 4294967291))) (tC (.int 7)))) tNil)) (tC (.int 2305843009213693951))) (gName 3))
    (tRet (tOp rModI (tOp rDivI (tOp rModI (tCB rInt1 (tCons (tOp rMulU (tVar 3) (tVar 3)) tNil)) (tC (.int 2305843009213693921))) (tC (.int 2048))) (tVar 1)))))))
noncomputable def m_drawL : MS :=
  (mSeq (mIfS (mTst (mOp (fl2 gtD) (mOp ixA (mVar 0) (mC (.int 0))) (mC (.int 0)))) (mSeq (mAsg (mOp (fl2 modD) (mCB (one (fl1 intD)) (mCons (mOp ixA (mVar 0) (mC (.int 0))) mNil)) (mVar 1)) (gN 2))
    (mSeq (mSetL (mD (mOp (fl2 divD) (mOp ixA (mVar 0) (mC (.int 0))) (mVar 1))) (mVar 0) (mC (.int 0)))
    (mRet (mVar 2)))) mNext)
    (mSeq (mSetL (mD (mOp addA (mOp ixA (mVar 0) (mC (.int 2))) (mC (.int 1)))) (mVar 0) (mC (.int 2)))
    (mSeq (mAsg (mOp (fl2 modD) (mCB (one (fl1 intD)) (mCons (mOp addA (mOp ixA (mVar 0) (mC (.int 1))) (mOp mulA (mC (.int 11400714819323198485)) (mOp ixA (mVar 0) (mC (.int 2))))) mNil)) (mC (.int 18446744073709551557))) (gN 3))
    (mSeq (mAsg (mOp (fl2 modD) (mCB (one (fl1 intD)) (mCons (mOp mulA (mVar 3) (mOp addA (mOp (fl2 modD) (mVar 3) (mC (.int 4294967291))) (mC (.int 7)))) mNil)) (mC (.int 2305843009213693951))) (gN 3))
    (mRet (mOp (fl2 modD) (mOp (fl2 divD) (mOp (fl2 modD) (mCB (one (fl1 intD)) (mCons (mOp mulA (mVar 3) (mVar 3)) mNil)) (mC (.int 2305843009213693921))) (mC (.int 2048))) (mVar 1)))))))
theorem ss_drawL {K : KW} {B : Bs} {W : WX} : SS K B W (t_drawL K) (m_drawL) :=
  (ss_seq (ss_if (st_Test (se_op (so2_fl os_gt) (se_op so_ix (se_var _) (se_int _)) (se_int _))) (ss_seq (ss_asg (se_op (so2_fl os_mod) (se_cb (soa_one (so1_fl us_int)) (sa_cons (se_op so_ix (se_var _) (se_int _)) sa_nil)) (se_var _)) (sg_name _))
    (ss_seq (ss_setL (se_D (se_op (so2_fl os_div) (se_op so_ix (se_var _) (se_int _)) (se_var _))) (se_var _) (se_int _))
    (ss_ret (se_var _)))) ss_next)
    (ss_seq (ss_setL (se_D (se_op so_add (se_op so_ix (se_var _) (se_int _)) (se_int _))) (se_var _) (se_int _))
    (ss_seq (ss_asg (se_op (so2_fl os_mod) (se_cb (soa_one (so1_fl us_int)) (sa_cons (se_op so_add (se_op so_ix (se_var _) (se_int _)) (se_op so_mul (se_int _) (se_op so_ix (se_var _) (se_int _)))) sa_nil)) (se_int _)) (sg_name _))
    (ss_seq (ss_asg (se_op (so2_fl os_mod) (se_cb (soa_one (so1_fl us_int)) (sa_cons (se_op so_mul (se_var _) (se_op so_add (se_op (so2_fl os_mod) (se_var _) (se_int _)) (se_int _))) sa_nil)) (se_int _)) (sg_name _))
    (ss_ret (se_op (so2_fl os_mod) (se_op (so2_fl os_div) (se_op (so2_fl os_mod) (se_cb (soa_one (so1_fl us_int)) (sa_cons (se_op so_mul (se_var _) (se_var _)) sa_nil)) (se_int _)) (se_int _)) (se_var _)))))))
noncomputable def f_drawL : DF := runM 4 m_drawL

/-- slots of _law_name: 0 _law_deck_here, 1 _law_letters, 2 _law_k -/
def n_nameL : List Str := ["_law_deck_here", "_law_letters", "_law_k"]
def t_nameL (K : KW) : TS :=
  (tSeq (tAsg (tC (.str "abcdefghijklmnopqrstuvwxyz")) (gName 1))
    (tRet (tM1 (rJoin K) (tC (.str "")) (tLc (iRng1 (tCons (tOp (rAddU K) (tC (.int 1)) (tCall (spN K f_drawL 2) [] E0 (tCons (tVar 0) (tCons (tC (.int 8)) tNil)))) tNil)) (gName 2) tYes (tOp (rIx K) (tVar 1) (tCall (spN K f_drawL 2) [] E0 (tCons (tVar 0) (tCons (tC (.int 26)) tNil)))) [2]))))
noncomputable def m_nameL : MS :=
  (mSeq (mAsg (mC (.str "abcdefghijklmnopqrstuvwxyz")) (gN 1))
    (mRet (mJoin (mC (.str "")) (mLc .d (mRng1 (mOp addA (mC (.int 1)) (mCall (noXf f_drawL) [true, false] (mCons (mVar 0) (mCons (mC (.int 8)) mNil))))) (gN 2) mYes (mD (mOp ixA (mVar 1) (mCall (noXf f_drawL) [true, false] (mCons (mVar 0) (mCons (mC (.int 26)) mNil))))) [2]))))
theorem ss_nameL {K : KW} {B : Bs} {W : WX} : SS K B W (t_nameL K) (m_nameL) :=
  (ss_seq (ss_asg (se_str _ (by decide +kernel)) (sg_name _))
    (ss_ret (se_join (se_str _ (by decide +kernel)) (se_lc (si_rng1 (se_op so_add (se_int _) (se_call0 rfl (sa_cons (se_var _) (sa_cons (se_int _) sa_nil))))) (sgw_name _ (by decide)) st_yes (se_D (se_op so_ix (se_var _) (se_call0 rfl (sa_cons (se_var _) (sa_cons (se_int _) sa_nil)))))))))
noncomputable def f_nameL : DF := runM 3 m_nameL

/-- slots of _law_names: 0 _law_deck_here, 1 _law_many, 2 _law_letters, 3 _law_spare, 4 _law_way, 5 _law_base, 6 _law_place, 7 _law_at, 8 _law_names_here, 9 _law_k, 10 _law_kind, 11 _law_name_here -/
def n_namesL : List Str := ["_law_deck_here", "_law_many", "_law_letters", "_law_spare", "_law_way", "_law_base", "_law_place", "_law_at", "_law_names_here", "_law_k", "_law_kind", "_law_name_here"]
def t_namesL (K : KW) : TS :=
  (tSeq (tAsg (tC (.str "abcdefghijklmnopqrstuvwxyz")) (gName 2))
    (tSeq (tAsg (tLc (iRng1 (tCons (tC (.int 676)) tNil)) (gName 9) tYes (tOp (rAddU K) (tOp (rIx K) (tVar 2) (tOp rDivI (tVar 9) (tC (.int 26)))) (tOp (rIx K) (tVar 2) (tOp rModI (tVar 9) (tC (.int 26))))) [9]) (gName 3))
    (tSeq (tPar 4 5 (tCons (tCall (spN K f_drawL 2) [] E0 (tCons (tVar 0) (tCons (tC (.int 4)) tNil))) (tCons (tSl (rSlU K) (tOp rMulU (tCall (spN K f_nameL 1) [] E0 (tCons (tVar 0) tNil)) (tC (.int 8))) tNoPart (tPart (tC (.int 8)))) tNil)))
    (tSeq (tPar3 6 7 8 (tCons (tCall (spN K f_drawL 2) [] E0 (tCons (tVar 0) (tCons (tC (.int 8)) tNil))) (tCons (tC (.int 0)) (tCons (tLst tNil) tNil))))
    (tSeq (tFor (iRng1 (tCons (tVar 1) tNil)) (gName 9) (tSeq (tAsg (tIf (tTest (tOp (rEqU K) (tVar 4) (tC (.int 3)))) (tCall (spN K f_drawL 2) [] E0 (tCons (tVar 0) (tCons (tC (.int 3)) tNil))) (tVar 4)) (gName 10))
    (tSeq (tIfS (tTest (tOp (rEqU K) (tVar 10) (tC (.int 0)))) (tAsg (tCall (spN K f_nameL 1) [] E0 (tCons (tVar 0) tNil)) (gName 11)) (tIfS (tTest (tOp (rEqU K) (tVar 10) (tC (.int 1)))) (tAsg (tOp (rAddU K) (tOp (rAddU K) (tSl (rSlU K) (tVar 5) tNoPart (tPart (tVar 6))) (tOp (rIx K) (tVar 2) (tCall (spN K f_drawL 2) [] E0 (tCons (tVar 0) (tCons (tC (.int 26)) tNil))))) (tSl (rSlU K) (tVar 5) (tPart (tOp (rAddU K) (tVar 6) (tC (.int 1)))) tNoPart)) (gName 11)) (tAsg (tSl (rSlU K) (tVar 5) tNoPart (tPart (tOp (rAddU K) (tC (.int 1)) (tCall (spN K f_drawL 2) [] E0 (tCons (tVar 0) (tCons (tC (.int 8)) tNil)))))) (gName 11))))
    (tSeq (tWhile (tTest (tOp (rInU K false) (tVar 11) (tVar 8))) (tSeq (tAsg (tOp (rIx K) (tVar 3) (tVar 7)) (gName 11))
    (tAsg (tOp (rAddU K) (tVar 7) (tC (.int 1))) (gName 7))))
    (tDrop (tBM K "list" rAppend (tVar 8) (tCons (tVar 11) tNil)))))))
    (tRet (tVar 8)))))))
noncomputable def m_namesL : MS :=
  (mSeq (mAsg (mC (.str "abcdefghijklmnopqrstuvwxyz")) (gN 2))
    (mSeq (mAsg (mLc .d (mRng1 (mC (.int 676))) (gN 9) mYes (mD (mOp addA (mOp ixA (mVar 2) (mOp (fl2 divD) (mVar 9) (mC (.int 26)))) (mOp ixA (mVar 2) (mOp (fl2 modD) (mVar 9) (mC (.int 26)))))) [9]) (gN 3))
    (mSeq (mPar 4 5 (mCons (mCall (noXf f_drawL) [true, false] (mCons (mVar 0) (mCons (mC (.int 4)) mNil))) (mCons (mSl (mOp mulA (mCall (noXf f_nameL) [true] (mCons (mVar 0) mNil)) (mC (.int 8))) mNoPart (mPart (mC (.int 8)))) mNil)))
    (mSeq (mPar3 6 7 8 (mCons (mCall (noXf f_drawL) [true, false] (mCons (mVar 0) (mCons (mC (.int 8)) mNil))) (mCons (mC (.int 0)) (mCons (mLst mNil) mNil))))
    (mSeq (mFor .d (mRng1 (mVar 1)) (gN 9) (mSeq (mAsg (mIfE (mTst (mOp (fl2 eqD) (mVar 4) (mC (.int 3)))) (mCall (noXf f_drawL) [true, false] (mCons (mVar 0) (mCons (mC (.int 3)) mNil))) (mVar 4)) (gN 10))
    (mSeq (mIfS (mTst (mOp (fl2 eqD) (mVar 10) (mC (.int 0)))) (mAsg (mCall (noXf f_nameL) [true] (mCons (mVar 0) mNil)) (gN 11)) (mIfS (mTst (mOp (fl2 eqD) (mVar 10) (mC (.int 1)))) (mAsg (mOp addA (mOp addA (mSl (mVar 5) mNoPart (mPart (mVar 6))) (mOp ixA (mVar 2) (mCall (noXf f_drawL) [true, false] (mCons (mVar 0) (mCons (mC (.int 26)) mNil))))) (mSl (mVar 5) (mPart (mOp addA (mVar 6) (mC (.int 1)))) mNoPart)) (gN 11)) (mAsg (mSl (mVar 5) mNoPart (mPart (mOp addA (mC (.int 1)) (mCall (noXf f_drawL) [true, false] (mCons (mVar 0) (mCons (mC (.int 8)) mNil)))))) (gN 11))))
    (mSeq (mWhile (mTst (mOp (fl2 (inD false)) (mVar 11) (mVar 8))) (mSeq (mAsg (mOp ixA (mVar 3) (mVar 7)) (gN 11))
    (mAsg (mOp addA (mVar 7) (mC (.int 1))) (gN 7))))
    (mDrop (mMeth appA (mVar 8) (mCons (mD (mVar 11)) mNil)))))))
    (mRet (mVar 8)))))))
theorem ss_namesL {K : KW} {B : Bs} {W : WX} : SS K B W (t_namesL K) (m_namesL) :=
  (ss_seq (ss_asg (se_str _ (by decide +kernel)) (sg_name _))
    (ss_seq (ss_asg (se_lc (si_rng1 (se_int _)) (sgw_name _ (by decide)) st_yes (se_D (se_op so_add (se_op so_ix (se_var _) (se_op (so2_fl os_div) (se_var _) (se_int _))) (se_op so_ix (se_var _) (se_op (so2_fl os_mod) (se_var _) (se_int _)))))) (sg_name _))
    (ss_seq (ss_par (sa_cons (se_call0 rfl (sa_cons (se_var _) (sa_cons (se_int _) sa_nil))) (sa_cons (se_sl (se_op so_mul (se_call0 rfl (sa_cons (se_var _) sa_nil)) (se_int _)) so_none (so_part (se_int _))) sa_nil)) (by decide))
    (ss_seq (ss_par3 (sa_cons (se_call0 rfl (sa_cons (se_var _) (sa_cons (se_int _) sa_nil))) (sa_cons (se_int _) (sa_cons (se_lst sa_nil) sa_nil))) (by decide) (by decide) (by decide))
    (ss_seq (ss_for (si_rng1 (se_var _)) (sg_name _) (ss_seq (ss_asg (se_if (st_Test (se_op (so2_fl os_eq) (se_var _) (se_int _))) (se_call0 rfl (sa_cons (se_var _) (sa_cons (se_int _) sa_nil))) (se_var _)) (sg_name _))
    (ss_seq (ss_if (st_Test (se_op (so2_fl os_eq) (se_var _) (se_int _))) (ss_asg (se_call0 rfl (sa_cons (se_var _) sa_nil)) (sg_name _)) (ss_if (st_Test (se_op (so2_fl os_eq) (se_var _) (se_int _))) (ss_asg (se_op so_add (se_op so_add (se_sl (se_var _) so_none (so_part (se_var _))) (se_op so_ix (se_var _) (se_call0 rfl (sa_cons (se_var _) (sa_cons (se_int _) sa_nil))))) (se_sl (se_var _) (so_part (se_op so_add (se_var _) (se_int _))) so_none)) (sg_name _)) (ss_asg (se_sl (se_var _) so_none (so_part (se_op so_add (se_int _) (se_call0 rfl (sa_cons (se_var _) (sa_cons (se_int _) sa_nil)))))) (sg_name _))))
    (ss_seq (ss_while (st_Test (se_op (so2_fl (os_in false)) (se_var _) (se_var _))) (ss_seq (ss_asg (se_op so_ix (se_var _) (se_var _)) (sg_name _))
    (ss_asg (se_op so_add (se_var _) (se_int _)) (sg_name _))))
    (ss_drop (se_meth sm_app (se_var _) (sa_cons (se_D (se_var _)) sa_nil)))))))
    (ss_ret (se_var _)))))))
noncomputable def f_namesL : DF := runM 12 m_namesL

/-- slots of _law_wood_of: 0 _law_kids_here, 1 _law_name_here, 2 _law_kid -/
def n_wood_ofL : List Str := ["_law_kids_here", "_law_name_here", "_law_kid"]
def t_wood_ofL (g : DF) (K : KW) : TS :=
  (tRet (tCB (rTupOfF K) (tCons (tLc (iSeq K (tDGet (tVar 0) (tVar 1))) (gName 2) tYes (tTupF (tCons (tVar 2) (tCons (tCall (spN K g 2) [] E0 (tCons (tVar 0) (tCons (tVar 2) tNil))) tNil))) [2]) tNil)))
noncomputable def m_wood_ofL (g : DF) : MS :=
  (mRet (mCB (one tupA) (mCons (mLc .d (mSeqI (mD (mOp dgA (mVar 0) (mVar 1)))) (gN 2) mYes (mTup (mCons (mD (mVar 2)) (mCons (mD (mCall (noXf g) [false, false] (mCons (mVar 0) (mCons (mVar 2) mNil)))) mNil))) [2]) mNil)))
theorem ss_wood_ofL {K : KW} {B : Bs} {W : WX} (g : DF) : SS K B W (t_wood_ofL g K) (m_wood_ofL g) :=
  (ss_ret (se_cb (soa_one so1_tup) (sa_cons (se_lc (si_seq (se_D (se_dget (se_var _) (se_var _)))) (sgw_name _ (by decide)) st_yes (se_tup (sa_cons (se_D (se_var _)) (sa_cons (se_D (se_call0 rfl (sa_cons (se_var _) (sa_cons (se_var _) sa_nil)))) sa_nil)))) sa_nil)))
noncomputable def f_wood_ofL : Nat → DF
  | 0 => fun _ => .bad
  | n + 1 => runM 3 (m_wood_ofL (f_wood_ofL n))

/-- slots of _law_tall_wood: 0 _law_deck_here, 1 _law_names_here, 2 _law_tall, 3 _law_kids_here, 4 _law_deep, 5 _law_over, 6 _law_k, 7 _law_name_here, 8 _law_some, 9 _law_row, 10 _law_one -/
def n_tall_woodL : List Str := ["_law_deck_here", "_law_names_here", "_law_tall", "_law_kids_here", "_law_deep", "_law_over", "_law_k", "_law_name_here", "_law_some", "_law_row", "_law_one"]
def t_tall_woodL (K : KW) : TS :=
  (tSeq (tAsg (tTupF (tCons (tDisp [((tC (.str "")), (tLst tNil))]) (tCons (tDisp [((tC (.str "")), (tC (.int 0)))]) tNil))) (gTup K 2 (gNames [3, 4])))
    (tSeq (tAsg (tC (.str "")) (gName 5))
    (tSeq (tFor (iRng1 (tCons (tCB (rLenU K) (tCons (tVar 1) tNil)) tNil)) (gName 6) (tSeq (tAsg (tOp (rIx K) (tVar 1) (tVar 6)) (gName 7))
    (tSeq (tIfS (tTest (tOp rGeI (tVar 6) (tVar 2))) (tSeq (tLkS (tAsg (tLc (iKeysM (tVar 3)) (gName 10) (tTest (tOp rLtU (tDGet (tVar 4) (tVar 10)) (tVar 2))) (tVar 10) [10]) (gName 8)))
    (tAsg (tOp (rIx K) (tVar 8) (tCall (spN K f_drawL 2) [] E0 (tCons (tVar 0) (tCons (tCB (rLenU K) (tCons (tVar 8) tNil)) tNil)))) (gName 5))) tNext)
    (tSeq (tAsg (tDGet (tVar 3) (tVar 5)) (gName 9))
    (tSeq (tDrop (tBM K "list" rInsert (tVar 9) (tCons (tCall (spN K f_drawL 2) [] E0 (tCons (tVar 0) (tCons (tOp (rAddU K) (tCB (rLenU K) (tCons (tVar 9) tNil)) (tC (.int 1))) tNil))) (tCons (tVar 7) tNil))))
    (tSeq (tDPut (tVar 3) (tVar 7) (tLst tNil))
    (tSeq (tDPut (tVar 4) (tVar 7) (tOp (rAddU K) (tDGet (tVar 4) (tVar 5)) (tC (.int 1))))
    (tAsg (tVar 7) (gName 5)))))))))
    (tRet (tCall (spN K (f_wood_ofL 150) 2) [] E0 (tCons (tVar 3) (tCons (tC (.str "")) tNil)))))))
noncomputable def m_tall_woodL : MS :=
  (mSeq (mPar 3 4 (mCons (mDisp1 (mC (.str "")) (mLst mNil)) (mCons (mDisp [((mC (.str "")), (mC (.int 0)))]) mNil)))
    (mSeq (mAsg (mC (.str "")) (gN 5))
    (mSeq (mFor .d (mRng1 (mCB (one lenA) (mCons (mVar 1) mNil))) (gN 6) (mSeq (mAsg (mOp ixA (mVar 1) (mVar 6)) (gN 7))
    (mSeq (mIfS (mTst (mOp (fl2 geD) (mVar 6) (mVar 2))) (mSeq (mAsg (mPureL 3 (mLc .d (mKI 3) (gN 10) (mTst (mOp (fl2 ltD) (mOp dgA (mVar 4) (mVar 10)) (mVar 2))) (mD (mVar 10)) [10])) (gN 8))
    (mAsg (mOp ixA (mVar 8) (mCall (noXf f_drawL) [true, false] (mCons (mVar 0) (mCons (mD (mCB (one lenA) (mCons (mVar 8) mNil))) mNil)))) (gN 5))) mNext)
    (mSeq (mAsg (mOp dgA (mVar 3) (mVar 5)) (gN 9))
    (mSeq (mDrop (mMeth insA (mVar 9) (mCons (mD (mCall (noXf f_drawL) [true, false] (mCons (mVar 0) (mCons (mD (mOp addA (mCB (one lenA) (mCons (mVar 9) mNil)) (mC (.int 1)))) mNil)))) (mCons (mD (mVar 7)) mNil))))
    (mSeq (mPut (mLst mNil) (mVar 3) (mVar 7))
    (mSeq (mPut (mD (mOp addA (mOp dgA (mVar 4) (mVar 5)) (mC (.int 1)))) (mVar 4) (mVar 7))
    (mAsg (mVar 7) (gN 5)))))))))
    (mRet (mCall (noXf (f_wood_ofL 150)) [false, false] (mCons (mVar 3) (mCons (mC (.str "")) mNil)))))))
theorem ss_tall_woodL {K : KW} {B : Bs} {W : WX} : SS K B W (t_tall_woodL K) (m_tall_woodL) :=
  (ss_seq (ss_parT (sa_cons (se_disp1 (se_str _ (by decide +kernel)) (se_lst sa_nil)) (sa_cons (se_disp (SPs.cons (se_str _ (by decide +kernel)) (se_int _) SPs.nil)) sa_nil)) (by decide))
    (ss_seq (ss_asg (se_str _ (by decide +kernel)) (sg_name _))
    (ss_seq (ss_for (si_rng1 (se_cb (soa_one so1_len) (sa_cons (se_var _) sa_nil))) (sg_name _) (ss_seq (ss_asg (se_op so_ix (se_var _) (se_var _)) (sg_name _))
    (ss_seq (ss_if (st_Test (se_op (so2_fl os_ge) (se_var _) (se_var _))) (ss_seq (ss_lockA fun B => (se_lc (si_keys 3) (sgw_name _ (by decide)) (st_Test (se_op (so2_fl os_lt) (se_dget (se_var _) (se_var _)) (se_var _))) (se_D (se_var _))))
    (ss_asg (se_op so_ix (se_var _) (se_call0 rfl (sa_cons (se_var _) (sa_cons (se_D (se_cb (soa_one so1_len) (sa_cons (se_var _) sa_nil))) sa_nil)))) (sg_name _))) ss_next)
    (ss_seq (ss_asg (se_dget (se_var _) (se_var _)) (sg_name _))
    (ss_seq (ss_drop (se_meth sm_ins (se_var _) (sa_cons (se_D (se_call0 rfl (sa_cons (se_var _) (sa_cons (se_D (se_op so_add (se_cb (soa_one so1_len) (sa_cons (se_var _) sa_nil)) (se_int _))) sa_nil)))) (sa_cons (se_D (se_var _)) sa_nil))))
    (ss_seq (ss_put (se_var _) (se_var _) (se_lst sa_nil))
    (ss_seq (ss_put (se_var _) (se_var _) (se_D (se_op so_add (se_dget (se_var _) (se_var _)) (se_int _))))
    (ss_asg (se_var _) (sg_name _)))))))))
    (ss_ret (se_call0 rfl (sa_cons (se_var _) (sa_cons (se_str _ (by decide +kernel)) sa_nil)))))))
noncomputable def f_tall_woodL : DF := runM 11 m_tall_woodL

/-- slots of _law_great_wood: 0 _law_deck_here, 1 _law_tall -/
def n_great_woodL : List Str := ["_law_deck_here", "_law_tall"]
def t_great_woodL (K : KW) : TS :=
  (tSeq (tAsg (tOp (rAddU K) (tC (.int 36)) (tCall (spN K f_drawL 2) [] E0 (tCons (tVar 0) (tCons (tC (.int 10)) tNil)))) (gName 1))
    (tRet (tCall (spN K f_tall_woodL 3) [] E0 (tCons (tVar 0) (tCons (tCall (spN K f_namesL 2) [] E0 (tCons (tVar 0) (tCons (tOp (rAddU K) (tC (.int 112)) (tCall (spN K f_drawL 2) [] E0 (tCons (tVar 0) (tCons (tC (.int 15)) tNil)))) tNil))) (tCons (tVar 1) tNil))))))
noncomputable def m_great_woodL : MS :=
  (mSeq (mAsg (mOp addA (mC (.int 36)) (mCall (noXf f_drawL) [true, false] (mCons (mVar 0) (mCons (mC (.int 10)) mNil)))) (gN 1))
    (mRet (mCall (noXf f_tall_woodL) [true, false, false] (mCons (mVar 0) (mCons (mD (mCall (noXf f_namesL) [true, false] (mCons (mVar 0) (mCons (mD (mOp addA (mC (.int 112)) (mCall (noXf f_drawL) [true, false] (mCons (mVar 0) (mCons (mC (.int 15)) mNil))))) mNil)))) (mCons (mVar 1) mNil))))))
theorem ss_great_woodL {K : KW} {B : Bs} {W : WX} : SS K B W (t_great_woodL K) (m_great_woodL) :=
  (ss_seq (ss_asg (se_op so_add (se_int _) (se_call0 rfl (sa_cons (se_var _) (sa_cons (se_int _) sa_nil)))) (sg_name _))
    (ss_ret (se_call0 rfl (sa_cons (se_var _) (sa_cons (se_D (se_call0 rfl (sa_cons (se_var _) (sa_cons (se_D (se_op so_add (se_int _) (se_call0 rfl (sa_cons (se_var _) (sa_cons (se_int _) sa_nil))))) sa_nil)))) (sa_cons (se_var _) sa_nil))))))
noncomputable def f_great_woodL : DF := runM 2 m_great_woodL

/-- slots of _law_kids: 0 _law_wood_here, 1 _law_kids_here, 2 _law_waiting, 3 _law_name_here, 4 _law_inside, 5 _law_tree -/
def n_kidsL : List Str := ["_law_wood_here", "_law_kids_here", "_law_waiting", "_law_name_here", "_law_inside", "_law_tree"]
def t_kidsL (K : KW) : TS :=
  (tSeq (tAsg (tDisp [((tC (.str "")), (tLc (iSeq K (tVar 0)) (gName 5) tYes (tOp (rIx K) (tVar 5) (tC (.int 0))) [5]))]) (gName 1))
    (tSeq (tAsg (tCB (rLstOf K) (tCons (tVar 0) tNil)) (gName 2))
    (tSeq (tWhile (tTest (tOp (rNeU K) (tVar 2) (tLst tNil))) (tSeq (tAsg (tBM0 K "list" rPop (tVar 2)) (gTup K 2 (gNames [3, 4])))
    (tSeq (tDPut (tVar 1) (tVar 3) (tLc (iSeq K (tVar 4)) (gName 5) tYes (tOp (rIx K) (tVar 5) (tC (.int 0))) [5]))
    (tDrop (tBM K "list" (rExtU K) (tVar 2) (tCons (tVar 4) tNil))))))
    (tRet (tVar 1)))))
noncomputable def m_kidsL : MS :=
  (mSeq (mAsg (mDisp1 (mC (.str "")) (mLc .d (mSeqI (mVar 0)) (gN 5) mYes (mD (mOp ixA (mVar 5) (mC (.int 0)))) [5])) (gN 1))
    (mSeq (mAsg (mCB (one lstA) (mCons (mVar 0) mNil)) (gN 2))
    (mSeq (mWhile (mTst (mOp (fl2 neD) (mVar 2) (mLst mNil))) (mSeq (mAsg (mMeth popA (mVar 2) mNil) (gT [3, 4]))
    (mSeq (mPut (mLc .d (mSeqI (mVar 4)) (gN 5) mYes (mD (mOp ixA (mVar 5) (mC (.int 0)))) [5]) (mVar 1) (mVar 3))
    (mDrop (mMeth extA (mVar 2) (mCons (mD (mVar 4)) mNil))))))
    (mRet (mVar 1)))))
theorem ss_kidsL {K : KW} {B : Bs} {W : WX} : SS K B W (t_kidsL K) (m_kidsL) :=
  (ss_seq (ss_asg (se_disp1 (se_str _ (by decide +kernel)) (se_lc (si_seq (se_var _)) (sgw_name _ (by decide)) st_yes (se_D (se_op so_ix (se_var _) (se_int _))))) (sg_name _))
    (ss_seq (ss_asg (se_cb (soa_one so1_lst) (sa_cons (se_var _) sa_nil)) (sg_name _))
    (ss_seq (ss_while (st_Test (se_op (so2_fl os_ne) (se_var _) (se_lst sa_nil))) (ss_seq (ss_asg (se_meth0 sm_pop (se_var _)) (sg_tup _ rfl))
    (ss_seq (ss_put (se_var _) (se_var _) (se_lc (si_seq (se_var _)) (sgw_name _ (by decide)) st_yes (se_D (se_op so_ix (se_var _) (se_int _)))))
    (ss_drop (se_meth sm_ext (se_var _) (sa_cons (se_D (se_var _)) sa_nil))))))
    (ss_ret (se_var _)))))
noncomputable def f_kidsL : DF := runM 6 m_kidsL

/-- slots of _law_pick: 0 _law_deck_here, 1 _law_items -/
def n_pickL : List Str := ["_law_deck_here", "_law_items"]
def t_pickL (K : KW) : TS :=
  (tRet (tOp (rIx K) (tVar 1) (tCall (spN K f_drawL 2) [] E0 (tCons (tVar 0) (tCons (tCB (rLenU K) (tCons (tVar 1) tNil)) tNil)))))
noncomputable def m_pickL : MS :=
  (mRet (mOp ixA (mVar 1) (mCall (noXf f_drawL) [true, false] (mCons (mVar 0) (mCons (mD (mCB (one lenA) (mCons (mVar 1) mNil))) mNil)))))
theorem ss_pickL {K : KW} {B : Bs} {W : WX} : SS K B W (t_pickL K) (m_pickL) :=
  (ss_ret (se_op so_ix (se_var _) (se_call0 rfl (sa_cons (se_var _) (sa_cons (se_D (se_cb (soa_one so1_len) (sa_cons (se_var _) sa_nil))) sa_nil)))))
noncomputable def f_pickL : DF := runM 2 m_pickL

/-- slots of _law_odd: 0 _law_deck_here, 1 _law_some -/
def n_oddL : List Str := ["_law_deck_here", "_law_some"]
def t_oddL (K : KW) : TS :=
  (tSeq (tAsg (tLst (tCons (tC .non) (tCons (tC (.bl true)) (tCons (tC (.bl false)) (tCons (tC (.int 0)) (tCons (tC (.int 1)) (tCons (tOp rSubI (tC (.int 0)) (tC (.int 7))) (tCons (tOp rPowI (tC (.int 10)) (tC (.int 39))) (tCons (tC (.str "")) (tCons (tC (.str "A")) (tCons (tC (.str "a ")) (tCons (tC (.str "+a")) (tCons (tC (.str "aaaaaaaaa")) (tCons (tC (.str "a1")) (tCons (tC (.str "z")) (tCons (tC (.str "zzzzzzzz")) tNil)))))))))))))))) (gName 1))
    (tSeq (tAsg (tOp (rAddU K) (tVar 1) (tLst (tCons (tC (.str "`")) (tCons (tC (.str "a\n")) (tCons (tC (.str "{")) (tCons (tC (.str "a{")) (tCons (tLst (tCons (tC (.str "z")) (tCons (tTupF tNil) tNil))) (tCons (tDisp [((tC (.str "a")), (tC (.int 1))), ((tC (.str "b")), (tC (.int 2)))]) tNil)))))))) (gName 1))
    (tSeq (tAsg (tOp (rAddU K) (tVar 1) (tLst (tCons (tTupF (tCons (tC (.str "a")) tNil)) (tCons (tTupF (tCons (tC (.str "z")) (tCons (tTupF tNil) tNil))) (tCons (tLst (tCons (tC (.str "a")) tNil)) (tCons (tLst tNil) (tCons tDNewK (tCons (tDisp [((tC (.str "a")), (tC (.int 1)))]) (tCons (tTupF tNil) (tCons (tTupF (tCons (tTupF tNil) (tCons (tTupF tNil) tNil))) (tCons (tTupF (tCons (tTupF (tCons (tC (.str "z")) (tCons (tTupF tNil) tNil))) tNil)) (tCons (tC (.str "first")) tNil)))))))))))) (gName 1))
    (tRet (tCall (spN K f_pickL 2) [] E0 (tCons (tVar 0) (tCons (tVar 1) tNil)))))))
noncomputable def m_oddL : MS :=
  (mSeq (mAsg (mD (mLst (mCons (mC .none) (mCons (mC (.bool true)) (mCons (mC (.bool false)) (mCons (mC (.int 0)) (mCons (mC (.int 1)) (mCons (mD (mOp (fl2 subD) (mC (.int 0)) (mC (.int 7)))) (mCons (mD (mOp (fl2 powD) (mC (.int 10)) (mC (.int 39)))) (mCons (mC (.str "")) (mCons (mC (.str "A")) (mCons (mC (.str "a ")) (mCons (mC (.str "+a")) (mCons (mC (.str "aaaaaaaaa")) (mCons (mC (.str "a1")) (mCons (mC (.str "z")) (mCons (mC (.str "zzzzzzzz")) mNil))))))))))))))))) (gN 1))
    (mSeq (mAsg (mD (mOp addA (mVar 1) (mLst (mCons (mC (.str "`")) (mCons (mC (.str "a\n")) (mCons (mC (.str "{")) (mCons (mC (.str "a{")) (mCons (mD (mLst (mCons (mC (.str "z")) (mCons (mTup mNil) mNil)))) (mCons (mD (mDisp [((mC (.str "a")), (mC (.int 1))), ((mC (.str "b")), (mC (.int 2)))])) mNil))))))))) (gN 1))
    (mSeq (mAsg (mD (mOp addA (mVar 1) (mLst (mCons (mTup (mCons (mC (.str "a")) mNil)) (mCons (mTup (mCons (mC (.str "z")) (mCons (mTup mNil) mNil))) (mCons (mD (mLst (mCons (mC (.str "a")) mNil))) (mCons (mD (mLst mNil)) (mCons (mD mDnew) (mCons (mD (mDisp [((mC (.str "a")), (mC (.int 1)))])) (mCons (mTup mNil) (mCons (mTup (mCons (mTup mNil) (mCons (mTup mNil) mNil))) (mCons (mTup (mCons (mTup (mCons (mC (.str "z")) (mCons (mTup mNil) mNil))) mNil)) (mCons (mC (.str "first")) mNil))))))))))))) (gN 1))
    (mRet (mCall (noXf f_pickL) [true, false] (mCons (mVar 0) (mCons (mD (mVar 1)) mNil)))))))
theorem ss_oddL {K : KW} {B : Bs} {W : WX} : SS K B W (t_oddL K) (m_oddL) :=
  (ss_seq (ss_asg (se_D (se_lst (sa_cons se_non (sa_cons (se_bl _) (sa_cons (se_bl _) (sa_cons (se_int _) (sa_cons (se_int _) (sa_cons (se_D (se_op (so2_fl os_sub) (se_int _) (se_int _))) (sa_cons (se_D (se_op (so2_fl os_pow) (se_int _) (se_int _))) (sa_cons (se_str _ (by decide +kernel)) (sa_cons (se_str _ (by decide +kernel)) (sa_cons (se_str _ (by decide +kernel)) (sa_cons (se_str _ (by decide +kernel)) (sa_cons (se_str _ (by decide +kernel)) (sa_cons (se_str _ (by decide +kernel)) (sa_cons (se_str _ (by decide +kernel)) (sa_cons (se_str _ (by decide +kernel)) sa_nil))))))))))))))))) (sg_name _))
    (ss_seq (ss_asg (se_D (se_op so_add (se_var _) (se_lst (sa_cons (se_str _ (by decide +kernel)) (sa_cons (se_str _ (by decide +kernel)) (sa_cons (se_str _ (by decide +kernel)) (sa_cons (se_str _ (by decide +kernel)) (sa_cons (se_D (se_lst (sa_cons (se_str _ (by decide +kernel)) (sa_cons (se_tup sa_nil) sa_nil)))) (sa_cons (se_D (se_disp (SPs.cons (se_str _ (by decide +kernel)) (se_int _) (SPs.cons (se_str _ (by decide +kernel)) (se_int _) SPs.nil)))) sa_nil))))))))) (sg_name _))
    (ss_seq (ss_asg (se_D (se_op so_add (se_var _) (se_lst (sa_cons (se_tup (sa_cons (se_str _ (by decide +kernel)) sa_nil)) (sa_cons (se_tup (sa_cons (se_str _ (by decide +kernel)) (sa_cons (se_tup sa_nil) sa_nil))) (sa_cons (se_D (se_lst (sa_cons (se_str _ (by decide +kernel)) sa_nil))) (sa_cons (se_D (se_lst sa_nil)) (sa_cons (se_D se_dnew) (sa_cons (se_D (se_disp (SPs.cons (se_str _ (by decide +kernel)) (se_int _) SPs.nil))) (sa_cons (se_tup sa_nil) (sa_cons (se_tup (sa_cons (se_tup sa_nil) (sa_cons (se_tup sa_nil) sa_nil))) (sa_cons (se_tup (sa_cons (se_tup (sa_cons (se_str _ (by decide +kernel)) (sa_cons (se_tup sa_nil) sa_nil))) sa_nil)) (sa_cons (se_str _ (by decide +kernel)) sa_nil))))))))))))) (sg_name _))
    (ss_ret (se_call0 rfl (sa_cons (se_var _) (sa_cons (se_D (se_var _)) sa_nil)))))))
noncomputable def f_oddL : DF := runM 2 m_oddL

/-- slots of _law_odd_wood: 0 _law_kids_here, 1 _law_name_here, 2 _law_odd_here, 3 _law_trees, 4 _law_kid, 5 _law_tree -/
def n_odd_woodL : List Str := ["_law_kids_here", "_law_name_here", "_law_odd_here", "_law_trees", "_law_kid", "_law_tree"]
def t_odd_woodL (g : DF) (K : KW) : TS :=
  (tSeq (tIfS (tB (tTIn K K.P K.w false (tTupF (tCons (tC (.str "wood")) (tCons (tVar 1) tNil))) (tVar 2))) (tRet (tTGet K K.P K.w (tVar 2) (tTupF (tCons (tC (.str "wood")) (tCons (tVar 1) tNil))))) tNext)
    (tSeq (tAsg (tLst tNil) (gName 3))
    (tSeq (tFor (iSeq K (tDGet (tVar 0) (tVar 1))) (gName 4) (tSeq (tAsg (tTupF (tCons (tTGet2 K K.P K.w (tVar 2) (tTupF (tCons (tC (.str "name")) (tCons (tVar 4) tNil))) (tVar 4)) (tCons (tCall (spN K g 3) [] E0 (tCons (tVar 0) (tCons (tVar 4) (tCons (tVar 2) tNil)))) tNil))) (gName 5))
    (tDrop (tBM K "list" rAppend (tVar 3) (tCons (tTGet2 K K.P K.w (tVar 2) (tTupF (tCons (tC (.str "tree")) (tCons (tVar 4) tNil))) (tVar 5)) tNil)))))
    (tRet (tCB (rTupOfF K) (tCons (tVar 3) tNil))))))
noncomputable def m_odd_woodL (g : DF) : MS :=
  (mSeq (mIfS (mTst (mOp (dtInA false) (mTup (mCons (mC (.str "wood")) (mCons (mD (mVar 1)) mNil))) (mVar 2))) (mRet (mOp dtGetA (mVar 2) (mTup (mCons (mC (.str "wood")) (mCons (mD (mVar 1)) mNil))))) mNext)
    (mSeq (mAsg (mLst mNil) (gN 3))
    (mSeq (mFor .d (mSeqI (mD (mOp dgA (mVar 0) (mVar 1)))) (gN 4) (mSeq (mAsg (mTup (mCons (mD (mDtGet2 (mVar 2) (mTup (mCons (mC (.str "name")) (mCons (mD (mVar 4)) mNil))) (mD (mVar 4)))) (mCons (mD (mCall (noXf g) [false, false, true] (mCons (mVar 0) (mCons (mVar 4) (mCons (mVar 2) mNil))))) mNil))) (gN 5))
    (mDrop (mMeth appA (mVar 3) (mCons (mD (mDtGet2 (mVar 2) (mTup (mCons (mC (.str "tree")) (mCons (mD (mVar 4)) mNil))) (mD (mVar 5)))) mNil)))))
    (mRet (mCB (one tupA) (mCons (mVar 3) mNil))))))
theorem ss_odd_woodL {K : KW} {B : Bs} {W : WX} (g : DF) : SS K B W (t_odd_woodL g K) (m_odd_woodL g) :=
  (ss_seq (ss_if (st_B (se_dtIn false (se_tup (sa_cons (se_str _ (by decide +kernel)) (sa_cons (se_D (se_var _)) sa_nil))) (se_var _))) (ss_ret (se_dtGet (se_var _) (se_tup (sa_cons (se_str _ (by decide +kernel)) (sa_cons (se_D (se_var _)) sa_nil))))) ss_next)
    (ss_seq (ss_asg (se_lst sa_nil) (sg_name _))
    (ss_seq (ss_for (si_seq (se_D (se_dget (se_var _) (se_var _)))) (sg_name _) (ss_seq (ss_asg (se_tup (sa_cons (se_D (se_dtGet2 (se_var _) (se_tup (sa_cons (se_str _ (by decide +kernel)) (sa_cons (se_D (se_var _)) sa_nil))) (se_D (se_var _)))) (sa_cons (se_D (se_call0 rfl (sa_cons (se_var _) (sa_cons (se_var _) (sa_cons (se_var _) sa_nil))))) sa_nil))) (sg_name _))
    (ss_drop (se_meth sm_app (se_var _) (sa_cons (se_D (se_dtGet2 (se_var _) (se_tup (sa_cons (se_str _ (by decide +kernel)) (sa_cons (se_D (se_var _)) sa_nil))) (se_D (se_var _)))) sa_nil)))))
    (ss_ret (se_cb (soa_one so1_tup) (sa_cons (se_var _) sa_nil))))))
noncomputable def f_odd_woodL : Nat → DF
  | 0 => fun _ => .bad
  | n + 1 => runM 6 (m_odd_woodL (f_odd_woodL n))

/-- slots of _law_wood: 0 _law_deck_here, 1 _law_names_here, 2 _law_kids_here, 3 _law_name_here, 4 _law_over, 5 _law_at, 6 _law_some, 7 _law_take -/
def n_woodL : List Str := ["_law_deck_here", "_law_names_here", "_law_kids_here", "_law_name_here", "_law_over", "_law_at", "_law_some", "_law_take"]
def t_woodL (K : KW) : TS :=
  (tSeq (tAsg (tDisp [((tC (.str "")), (tLst tNil))]) (gName 2))
    (tSeq (tFor (iSeq K (tVar 1)) (gName 3) (tSeq (tAsg (tOp (rIx K) (tKeysL (tVar 2)) (tCall (spN K f_drawL 2) [] E0 (tCons (tVar 0) (tCons (tCB (rLenU K) (tCons (tVar 2) tNil)) tNil)))) (gName 4))
    (tSeq (tAsg (tCall (spN K f_drawL 2) [] E0 (tCons (tVar 0) (tCons (tOp (rAddU K) (tCB (rLenU K) (tCons (tDGet (tVar 2) (tVar 4)) tNil)) (tC (.int 1))) tNil))) (gName 5))
    (tSeq (tAsg (tDGet (tVar 2) (tVar 4)) (gName 6))
    (tSeq (tAsg (tOp rMulU (tOp rDivI (tCall (spN K f_drawL 2) [] E0 (tCons (tVar 0) (tCons (tC (.int 4)) tNil))) (tC (.int 3))) (tCall (spN K f_drawL 2) [] E0 (tCons (tVar 0) (tCons (tOp (rAddU K) (tOp rSubI (tCB (rLenU K) (tCons (tVar 6) tNil)) (tVar 5)) (tC (.int 1))) tNil)))) (gName 7))
    (tSeq (tDPut (tVar 2) (tVar 3) (tSl (rSlU K) (tVar 6) (tPart (tVar 5)) (tPart (tOp (rAddU K) (tVar 5) (tVar 7)))))
    (tDPut (tVar 2) (tVar 4) (tOp (rAddU K) (tOp (rAddU K) (tSl (rSlU K) (tVar 6) tNoPart (tPart (tVar 5))) (tLst (tCons (tVar 3) tNil))) (tSl (rSlU K) (tVar 6) (tPart (tOp (rAddU K) (tVar 5) (tVar 7))) tNoPart)))))))))
    (tRet (tCall (spN K (f_wood_ofL 150) 2) [] E0 (tCons (tVar 2) (tCons (tC (.str "")) tNil))))))
noncomputable def m_woodL : MS :=
  (mSeq (mAsg (mDisp1 (mC (.str "")) (mLst mNil)) (gN 2))
    (mSeq (mFor .d (mSeqI (mVar 1)) (gN 3) (mSeq (mAsg (mOp ixA (mU keysA (mVar 2)) (mCall (noXf f_drawL) [true, false] (mCons (mVar 0) (mCons (mD (mCB (one lenA) (mCons (mVar 2) mNil))) mNil)))) (gN 4))
    (mSeq (mAsg (mCall (noXf f_drawL) [true, false] (mCons (mVar 0) (mCons (mD (mOp addA (mCB (one lenA) (mCons (mOp dgA (mVar 2) (mVar 4)) mNil)) (mC (.int 1)))) mNil))) (gN 5))
    (mSeq (mAsg (mOp dgA (mVar 2) (mVar 4)) (gN 6))
    (mSeq (mAsg (mOp mulA (mOp (fl2 divD) (mCall (noXf f_drawL) [true, false] (mCons (mVar 0) (mCons (mC (.int 4)) mNil))) (mC (.int 3))) (mCall (noXf f_drawL) [true, false] (mCons (mVar 0) (mCons (mD (mOp addA (mOp (fl2 subD) (mCB (one lenA) (mCons (mVar 6) mNil)) (mVar 5)) (mC (.int 1)))) mNil)))) (gN 7))
    (mSeq (mPut (mSl (mVar 6) (mPart (mVar 5)) (mPart (mOp addA (mVar 5) (mVar 7)))) (mVar 2) (mVar 3))
    (mPut (mOp addA (mOp addA (mSl (mVar 6) mNoPart (mPart (mVar 5))) (mLst (mCons (mD (mVar 3)) mNil))) (mSl (mVar 6) (mPart (mOp addA (mVar 5) (mVar 7))) mNoPart)) (mVar 2) (mVar 4))))))))
    (mRet (mCall (noXf (f_wood_ofL 150)) [false, false] (mCons (mVar 2) (mCons (mC (.str "")) mNil))))))
theorem ss_woodL {K : KW} {B : Bs} {W : WX} : SS K B W (t_woodL K) (m_woodL) :=
  (ss_seq (ss_asg (se_disp1 (se_str _ (by decide +kernel)) (se_lst sa_nil)) (sg_name _))
    (ss_seq (ss_for (si_seq (se_var _)) (sg_name _) (ss_seq (ss_asg (se_op so_ix (se_keys (se_var _)) (se_call0 rfl (sa_cons (se_var _) (sa_cons (se_D (se_cb (soa_one so1_len) (sa_cons (se_var _) sa_nil))) sa_nil)))) (sg_name _))
    (ss_seq (ss_asg (se_call0 rfl (sa_cons (se_var _) (sa_cons (se_D (se_op so_add (se_cb (soa_one so1_len) (sa_cons (se_dget (se_var _) (se_var _)) sa_nil)) (se_int _))) sa_nil))) (sg_name _))
    (ss_seq (ss_asg (se_dget (se_var _) (se_var _)) (sg_name _))
    (ss_seq (ss_asg (se_op so_mul (se_op (so2_fl os_div) (se_call0 rfl (sa_cons (se_var _) (sa_cons (se_int _) sa_nil))) (se_int _)) (se_call0 rfl (sa_cons (se_var _) (sa_cons (se_D (se_op so_add (se_op (so2_fl os_sub) (se_cb (soa_one so1_len) (sa_cons (se_var _) sa_nil)) (se_var _)) (se_int _))) sa_nil)))) (sg_name _))
    (ss_seq (ss_put (se_var _) (se_var _) (se_sl (se_var _) (so_part (se_var _)) (so_part (se_op so_add (se_var _) (se_var _)))))
    (ss_put (se_var _) (se_var _) (se_op so_add (se_op so_add (se_sl (se_var _) so_none (so_part (se_var _))) (se_lst (sa_cons (se_D (se_var _)) sa_nil))) (se_sl (se_var _) (so_part (se_op so_add (se_var _) (se_var _))) so_none)))))))))
    (ss_ret (se_call0 rfl (sa_cons (se_var _) (sa_cons (se_str _ (by decide +kernel)) sa_nil))))))
noncomputable def f_woodL : DF := runM 8 m_woodL

/-- slots of _law_wood_and_names: 0 _law_deck_here, 1 _law_more, 2 _law_tall, 3 _law_many, 4 _law_names_here -/
def n_wood_and_namesL : List Str := ["_law_deck_here", "_law_more", "_law_tall", "_law_many", "_law_names_here"]
def t_wood_and_namesL (K : KW) : TS :=
  (tSeq (tIfS (tTest (tOp (rEqU K) (tCall (spN K f_drawL 2) [] E0 (tCons (tVar 0) (tCons (tC (.int 8)) tNil))) (tC (.int 3)))) (tSeq (tAsg (tOp (rAddU K) (tC (.int 1)) (tCall (spN K f_drawL 2) [] E0 (tCons (tVar 0) (tCons (tC (.int 40)) tNil)))) (gName 2))
    (tSeq (tAsg (tOp (rAddU K) (tVar 2) (tCall (spN K f_drawL 2) [] E0 (tCons (tVar 0) (tCons (tOp rSubI (tC (.int 121)) (tVar 2)) tNil)))) (gName 3))
    (tSeq (tAsg (tCall (spN K f_namesL 2) [] E0 (tCons (tVar 0) (tCons (tOp (rAddU K) (tVar 3) (tVar 1)) tNil))) (gName 4))
    (tRet (tLst (tCons (tCall (spN K f_tall_woodL 3) [] E0 (tCons (tVar 0) (tCons (tSl (rSlU K) (tVar 4) tNoPart (tPart (tVar 3))) (tCons (tVar 2) tNil)))) (tCons (tSl (rSlU K) (tVar 4) (tPart (tVar 3)) tNoPart) tNil))))))) tNext)
    (tSeq (tAsg (tCall (spN K f_drawL 2) [] E0 (tCons (tVar 0) (tCons (tC (.int 13)) tNil))) (gName 3))
    (tSeq (tAsg (tCall (spN K f_namesL 2) [] E0 (tCons (tVar 0) (tCons (tOp (rAddU K) (tVar 3) (tVar 1)) tNil))) (gName 4))
    (tRet (tLst (tCons (tCall (spN K f_woodL 2) [] E0 (tCons (tVar 0) (tCons (tSl (rSlU K) (tVar 4) tNoPart (tPart (tVar 3))) tNil))) (tCons (tSl (rSlU K) (tVar 4) (tPart (tVar 3)) tNoPart) tNil)))))))
noncomputable def m_wood_and_namesL : MS :=
  (mSeq (mIfS (mTst (mOp (fl2 eqD) (mCall (noXf f_drawL) [true, false] (mCons (mVar 0) (mCons (mC (.int 8)) mNil))) (mC (.int 3)))) (mSeq (mAsg (mOp addA (mC (.int 1)) (mCall (noXf f_drawL) [true, false] (mCons (mVar 0) (mCons (mC (.int 40)) mNil)))) (gN 2))
    (mSeq (mAsg (mOp addA (mVar 2) (mCall (noXf f_drawL) [true, false] (mCons (mVar 0) (mCons (mD (mOp (fl2 subD) (mC (.int 121)) (mVar 2))) mNil)))) (gN 3))
    (mSeq (mAsg (mCall (noXf f_namesL) [true, false] (mCons (mVar 0) (mCons (mD (mOp addA (mVar 3) (mVar 1))) mNil))) (gN 4))
    (mRet (mLst (mCons (mD (mCall (noXf f_tall_woodL) [true, false, false] (mCons (mVar 0) (mCons (mD (mSl (mVar 4) mNoPart (mPart (mVar 3)))) (mCons (mVar 2) mNil))))) (mCons (mD (mSl (mVar 4) (mPart (mVar 3)) mNoPart)) mNil))))))) mNext)
    (mSeq (mAsg (mCall (noXf f_drawL) [true, false] (mCons (mVar 0) (mCons (mC (.int 13)) mNil))) (gN 3))
    (mSeq (mAsg (mCall (noXf f_namesL) [true, false] (mCons (mVar 0) (mCons (mD (mOp addA (mVar 3) (mVar 1))) mNil))) (gN 4))
    (mRet (mLst (mCons (mD (mCall (noXf f_woodL) [true, false] (mCons (mVar 0) (mCons (mD (mSl (mVar 4) mNoPart (mPart (mVar 3)))) mNil)))) (mCons (mD (mSl (mVar 4) (mPart (mVar 3)) mNoPart)) mNil)))))))
theorem ss_wood_and_namesL {K : KW} {B : Bs} {W : WX} : SS K B W (t_wood_and_namesL K) (m_wood_and_namesL) :=
  (ss_seq (ss_if (st_Test (se_op (so2_fl os_eq) (se_call0 rfl (sa_cons (se_var _) (sa_cons (se_int _) sa_nil))) (se_int _))) (ss_seq (ss_asg (se_op so_add (se_int _) (se_call0 rfl (sa_cons (se_var _) (sa_cons (se_int _) sa_nil)))) (sg_name _))
    (ss_seq (ss_asg (se_op so_add (se_var _) (se_call0 rfl (sa_cons (se_var _) (sa_cons (se_D (se_op (so2_fl os_sub) (se_int _) (se_var _))) sa_nil)))) (sg_name _))
    (ss_seq (ss_asg (se_call0 rfl (sa_cons (se_var _) (sa_cons (se_D (se_op so_add (se_var _) (se_var _))) sa_nil))) (sg_name _))
    (ss_ret (se_lst (sa_cons (se_D (se_call0 rfl (sa_cons (se_var _) (sa_cons (se_D (se_sl (se_var _) so_none (so_part (se_var _)))) (sa_cons (se_var _) sa_nil))))) (sa_cons (se_D (se_sl (se_var _) (so_part (se_var _)) so_none)) sa_nil))))))) ss_next)
    (ss_seq (ss_asg (se_call0 rfl (sa_cons (se_var _) (sa_cons (se_int _) sa_nil))) (sg_name _))
    (ss_seq (ss_asg (se_call0 rfl (sa_cons (se_var _) (sa_cons (se_D (se_op so_add (se_var _) (se_var _))) sa_nil))) (sg_name _))
    (ss_ret (se_lst (sa_cons (se_D (se_call0 rfl (sa_cons (se_var _) (sa_cons (se_D (se_sl (se_var _) so_none (so_part (se_var _)))) sa_nil)))) (sa_cons (se_D (se_sl (se_var _) (so_part (se_var _)) so_none)) sa_nil)))))))
noncomputable def f_wood_and_namesL : DF := runM 5 m_wood_and_namesL

/-- slots of _law_some_wood: 0 _law_deck_here -/
def n_some_woodL : List Str := ["_law_deck_here"]
def t_some_woodL (K : KW) : TS :=
  (tRet (tOp (rIx K) (tCall (spN K f_wood_and_namesL 2) [] E0 (tCons (tVar 0) (tCons (tC (.int 0)) tNil))) (tC (.int 0))))
noncomputable def m_some_woodL : MS :=
  (mRet (mOp ixA (mCall (noXf f_wood_and_namesL) [true, false] (mCons (mVar 0) (mCons (mC (.int 0)) mNil))) (mC (.int 0))))
theorem ss_some_woodL {K : KW} {B : Bs} {W : WX} : SS K B W (t_some_woodL K) (m_some_woodL) :=
  (ss_ret (se_op so_ix (se_call0 rfl (sa_cons (se_var _) (sa_cons (se_int _) sa_nil))) (se_int _)))
noncomputable def f_some_woodL : DF := runM 1 m_some_woodL

/-- slots of _law_is_name: 0 _law_value, 1 _law_sign -/
def n_is_nameL : List Str := ["_law_value", "_law_sign"]
def t_is_nameL (K : KW) : TS :=
  (tSeq (tIfS (tOr (tNot (tB (tCB (rIsi K) (tCons (tVar 0) (tCons (tC (.ty "str")) tNil))))) (tOr (tTest (tOp (rEqU K) (tVar 0) (tC (.str "")))) (tTest (tOp rGtI (tCB (rLenU K) (tCons (tVar 0) tNil)) (tC (.int 8)))))) (tRet (tC (.bl false))) tNext)
    (tRet (tOp (rEqU K) (tLc (iSeq K (tVar 0)) (gName 1) (tTest (tOp (rInU K true) (tVar 1) (tC (.str "abcdefghijklmnopqrstuvwxyz")))) (tVar 1) [1]) (tLst tNil))))
noncomputable def m_is_nameL : MS :=
  (mSeq (mIfS (mOr (mNot (mTst (mIsi "str" (mVar 0)))) (mOr (mTst (mOp (fl2 eqD) (mVar 0) (mC (.str "")))) (mTst (mOp (fl2 gtD) (mCB (one lenA) (mCons (mVar 0) mNil)) (mC (.int 8)))))) (mRet (mC (.bool false))) mNext)
    (mRet (mOp (fl2 eqD) (mLc .d (mSeqI (mVar 0)) (gN 1) (mTst (mOp (fl2 (inD true)) (mVar 1) (mC (.str "abcdefghijklmnopqrstuvwxyz")))) (mD (mVar 1)) [1]) (mLst mNil))))
theorem ss_is_nameL {K : KW} {B : Bs} {W : WX} : SS K B W (t_is_nameL K) (m_is_nameL) :=
  (ss_seq (ss_if (st_or (st_not (st_B (se_isi (se_var _)))) (st_or (st_Test (se_op (so2_fl os_eq) (se_var _) (se_str _ (by decide +kernel)))) (st_Test (se_op (so2_fl os_gt) (se_cb (soa_one so1_len) (sa_cons (se_var _) sa_nil)) (se_int _))))) (ss_ret (se_bl _)) ss_next)
    (ss_ret (se_op (so2_fl os_eq) (se_lc (si_seq (se_var _)) (sgw_name _ (by decide)) (st_Test (se_op (so2_fl (os_in true)) (se_var _) (se_str _ (by decide +kernel)))) (se_D (se_var _))) (se_lst sa_nil))))
noncomputable def f_is_nameL : DF := runM 2 m_is_nameL

/-- slots of _law_reason: 0 _law_value, 1 _law_seen, 2 _law_deep, 3 _law_deepest, 4 _law_tree, 5 _law_reason_here -/
def n_reasonL : List Str := ["_law_value", "_law_seen", "_law_deep", "_law_deepest", "_law_tree", "_law_reason_here"]
def t_reasonL (g : DF) (K : KW) : TS :=
  (tSeq (tIfS (tNot (tB (tCB (rIsi K) (tCons (tVar 0) (tCons (tC (.ty "tuple")) tNil))))) (tRet (tC (.str "wood"))) tNext)
    (tSeq (tFor (iSeq K (tVar 0)) (gName 4) (tSeq (tIfS (tOr (tNot (tB (tCB (rIsi K) (tCons (tVar 4) (tCons (tC (.ty "tuple")) tNil))))) (tTest (tOp (rNeU K) (tCB (rLenU K) (tCons (tVar 4) tNil)) (tC (.int 2))))) (tRet (tC (.str "tree"))) tNext)
    (tSeq (tIfS (tNot (tB (tCall (spN K f_is_nameL 1) [] E0 (tCons (tOp (rIx K) (tVar 4) (tC (.int 0))) tNil)))) (tRet (tC (.str "name"))) tNext)
    (tSeq (tIfS (tTest (tOp (rInU K false) (tOp (rIx K) (tVar 4) (tC (.int 0))) (tVar 1))) (tRet (tC (.str "again"))) tNext)
    (tSeq (tDrop (tBM K "list" rAppend (tVar 1) (tCons (tOp (rIx K) (tVar 4) (tC (.int 0))) tNil)))
    (tSeq (tAsg (tCB rMax2 (tCons (tOp (rIx K) (tVar 3) (tC (.int 0))) (tCons (tOp (rAddU K) (tVar 2) (tC (.int 1))) tNil))) (gSub (tVar 3) (tC (.int 0)) rSetL))
    (tSeq (tAsg (tCall (spN K g 4) [] E0 (tCons (tOp (rIx K) (tVar 4) (tC (.int 1))) (tCons (tVar 1) (tCons (tOp (rAddU K) (tVar 2) (tC (.int 1))) (tCons (tVar 3) tNil))))) (gName 5))
    (tIfS (tTest (tOp rNotN (tVar 5) (tC .non))) (tRet (tVar 5)) tNext))))))))
    (tRet (tC .non))))
noncomputable def m_reasonL (g : DF) : MS :=
  (mSeq (mIfS (mNot (mTst (mIsi "tuple" (mVar 0)))) (mRet (mC (.str "wood"))) mNext)
    (mSeq (mFor .d (mSeqI (mVar 0)) (gN 4) (mSeq (mIfS (mOr (mNot (mTst (mIsi "tuple" (mVar 4)))) (mTst (mOp (fl2 neD) (mCB (one lenA) (mCons (mVar 4) mNil)) (mC (.int 2))))) (mRet (mC (.str "tree"))) mNext)
    (mSeq (mIfS (mNot (mTst (mCall (noXf f_is_nameL) [false] (mCons (mOp ixA (mVar 4) (mC (.int 0))) mNil)))) (mRet (mC (.str "name"))) mNext)
    (mSeq (mIfS (mTst (mOp (fl2 (inD false)) (mOp ixA (mVar 4) (mC (.int 0))) (mVar 1))) (mRet (mC (.str "again"))) mNext)
    (mSeq (mDrop (mMeth appA (mVar 1) (mCons (mD (mOp ixA (mVar 4) (mC (.int 0)))) mNil)))
    (mSeq (mSetL (mD (mCB max2A (mCons (mOp ixA (mVar 3) (mC (.int 0))) (mCons (mOp addA (mVar 2) (mC (.int 1))) mNil)))) (mVar 3) (mC (.int 0)))
    (mSeq (mAsg (mCall (noXf g) [false, true, false, true] (mCons (mOp ixA (mVar 4) (mC (.int 1))) (mCons (mVar 1) (mCons (mD (mOp addA (mVar 2) (mC (.int 1)))) (mCons (mVar 3) mNil))))) (gN 5))
    (mIfS (mTst (mOp (fl2 notD) (mVar 5) (mC .none))) (mRet (mVar 5)) mNext))))))))
    (mRet (mC .none))))
theorem ss_reasonL {K : KW} {B : Bs} {W : WX} (g : DF) : SS K B W (t_reasonL g K) (m_reasonL g) :=
  (ss_seq (ss_if (st_not (st_B (se_isi (se_var _)))) (ss_ret (se_str _ (by decide +kernel))) ss_next)
    (ss_seq (ss_for (si_seq (se_var _)) (sg_name _) (ss_seq (ss_if (st_or (st_not (st_B (se_isi (se_var _)))) (st_Test (se_op (so2_fl os_ne) (se_cb (soa_one so1_len) (sa_cons (se_var _) sa_nil)) (se_int _)))) (ss_ret (se_str _ (by decide +kernel))) ss_next)
    (ss_seq (ss_if (st_not (st_B (se_call0 rfl (sa_cons (se_op so_ix (se_var _) (se_int _)) sa_nil)))) (ss_ret (se_str _ (by decide +kernel))) ss_next)
    (ss_seq (ss_if (st_Test (se_op (so2_fl (os_in false)) (se_op so_ix (se_var _) (se_int _)) (se_var _))) (ss_ret (se_str _ (by decide +kernel))) ss_next)
    (ss_seq (ss_drop (se_meth sm_app (se_var _) (sa_cons (se_D (se_op so_ix (se_var _) (se_int _))) sa_nil)))
    (ss_seq (ss_setL (se_D (se_cb soa_max (sa_cons (se_op so_ix (se_var _) (se_int _)) (sa_cons (se_op so_add (se_var _) (se_int _)) sa_nil)))) (se_var _) (se_int _))
    (ss_seq (ss_asg (se_call0 rfl (sa_cons (se_op so_ix (se_var _) (se_int _)) (sa_cons (se_var _) (sa_cons (se_D (se_op so_add (se_var _) (se_int _))) (sa_cons (se_var _) sa_nil))))) (sg_name _))
    (ss_if (st_Test (se_op (so2_fl os_isnot) (se_var _) se_non)) (ss_ret (se_var _)) ss_next))))))))
    (ss_ret se_non)))
noncomputable def f_reasonL : Nat → DF
  | 0 => fun _ => .bad
  | n + 1 => runM 6 (m_reasonL (f_reasonL n))

/-- slots of _law_wood_error: 0 _law_value, 1 _law_seen, 2 _law_deepest, 3 _law_reason_here -/
def n_wood_errorL : List Str := ["_law_value", "_law_seen", "_law_deepest", "_law_reason_here"]
def t_wood_errorL (K : KW) : TS :=
  (tSeq (tPar 1 2 (tCons (tLst tNil) (tCons (tLst (tCons (tC (.int 0)) tNil)) tNil)))
    (tSeq (tAsg (tCall (spN K (f_reasonL 60) 4) [] E0 (tCons (tVar 0) (tCons (tVar 1) (tCons (tC (.int 0)) (tCons (tVar 2) tNil))))) (gName 3))
    (tSeq (tIfS (tTest (tOp rNotN (tVar 3) (tC .non))) (tRet (tVar 3)) tNext)
    (tSeq (tIfS (tTest (tOp rGtI (tCB (rLenU K) (tCons (tVar 1) tNil)) (tC (.int 120)))) (tRet (tC (.str "many"))) tNext)
    (tRet (tIf (tTest (tOp rGtI (tOp (rIx K) (tVar 2) (tC (.int 0))) (tC (.int 40)))) (tC (.str "deep")) (tC .non)))))))
noncomputable def m_wood_errorL : MS :=
  (mSeq (mPar 1 2 (mCons (mLst mNil) (mCons (mLst (mCons (mC (.int 0)) mNil)) mNil)))
    (mSeq (mAsg (mCall (noXf (f_reasonL 60)) [false, true, false, true] (mCons (mVar 0) (mCons (mVar 1) (mCons (mC (.int 0)) (mCons (mVar 2) mNil))))) (gN 3))
    (mSeq (mIfS (mTst (mOp (fl2 notD) (mVar 3) (mC .none))) (mRet (mVar 3)) mNext)
    (mSeq (mIfS (mTst (mOp (fl2 gtD) (mCB (one lenA) (mCons (mVar 1) mNil)) (mC (.int 120)))) (mRet (mC (.str "many"))) mNext)
    (mRet (mIfE (mTst (mOp (fl2 gtD) (mOp ixA (mVar 2) (mC (.int 0))) (mC (.int 40)))) (mC (.str "deep")) (mC .none)))))))
theorem ss_wood_errorL {K : KW} {B : Bs} {W : WX} : SS K B W (t_wood_errorL K) (m_wood_errorL) :=
  (ss_seq (ss_par (sa_cons (se_lst sa_nil) (sa_cons (se_lst (sa_cons (se_int _) sa_nil)) sa_nil)) (by decide))
    (ss_seq (ss_asg (se_call0 rfl (sa_cons (se_var _) (sa_cons (se_var _) (sa_cons (se_int _) (sa_cons (se_var _) sa_nil))))) (sg_name _))
    (ss_seq (ss_if (st_Test (se_op (so2_fl os_isnot) (se_var _) se_non)) (ss_ret (se_var _)) ss_next)
    (ss_seq (ss_if (st_Test (se_op (so2_fl os_gt) (se_cb (soa_one so1_len) (sa_cons (se_var _) sa_nil)) (se_int _))) (ss_ret (se_str _ (by decide +kernel))) ss_next)
    (ss_ret (se_if (st_Test (se_op (so2_fl os_gt) (se_op so_ix (se_var _) (se_int _)) (se_int _))) (se_str _ (by decide +kernel)) se_non))))))
noncomputable def f_wood_errorL : DF := runM 4 m_wood_errorL

/-- slots of is_name: 0 value, 1 sign -/
def n_is_name : List Str := ["value", "sign"]
def t_is_name (K : KW) : TS :=
  (tSeq (tIfS (tOr (tNot (tB (tCB (rIsi K) (tCons (tVar 0) (tCons (tC (.ty "str")) tNil))))) (tNot (tTest (tChain rLeI rLeI (tC (.int 1)) (tCB (rLenU K) (tCons (tVar 0) tNil)) (tC (.int 8)))))) (tRet (tC (.bl false))) tNext)
    (tRet (tCB (rAll K) (tCons (tLc (iSeq K (tVar 0)) (gName 1) tYes (tOp (rInU K false) (tVar 1) (tC (.str "abcdefghijklmnopqrstuvwxyz"))) [1]) tNil))))
noncomputable def m_is_name : MS :=
  (mSeq (mIfS (mOr (mNot (mTst (mIsi "str" (mVar 0)))) (mNot (mTst (mChain leD leD (mC (.int 1)) (mCB (one lenA) (mCons (mVar 0) mNil)) (mC (.int 8)))))) (mRet (mC (.bool false))) mNext)
    (mRet (mCB (one allA) (mCons (mLc .d (mSeqI (mVar 0)) (gN 1) mYes (mOp (fl2 (inD false)) (mVar 1) (mC (.str "abcdefghijklmnopqrstuvwxyz"))) [1]) mNil))))
theorem ss_is_name {K : KW} {B : Bs} {W : WX} : SS K B W (t_is_name K) (m_is_name) :=
  (ss_seq (ss_if (st_or (st_not (st_B (se_isi (se_var _)))) (st_not (st_Test (se_chain os_le os_le (se_int _) (se_cb (soa_one so1_len) (sa_cons (se_var _) sa_nil)) (se_int _))))) (ss_ret (se_bl _)) ss_next)
    (ss_ret (se_cb (soa_one so1_all) (sa_cons (se_lc (si_seq (se_var _)) (sgw_name _ (by decide)) st_yes (se_op (so2_fl (os_in false)) (se_var _) (se_str _ (by decide +kernel)))) sa_nil))))
noncomputable def f_is_name : DF := runM 2 m_is_name

/-- slots of wood_error: 0 value, 1 waiting, 2 seen, 3 deepest, 4 deep, 5 kind, 6 item, 7 tree -/
def n_wood_error : List Str := ["value", "waiting", "seen", "deepest", "deep", "kind", "item", "tree"]
def t_wood_error (K : KW) : TS :=
  (tSeq (tAsg (tLst (tCons (tTupF (tCons (tC (.int 0)) (tCons (tC (.str "wood")) (tCons (tVar 0) tNil)))) tNil)) (gName 1))
    (tSeq (tAsg (tCB (rSet0K K.P K.w) tNil) (gName 2))
    (tSeq (tAsg (tC (.int 0)) (gName 3))
    (tSeq (tWhile (tTest (tOp (rNeU K) (tVar 1) (tLst tNil))) (tSeq (tAsg (tBM0 K "list" rPop (tVar 1)) (gTup K 3 (gNames [4, 5, 6])))
    (tIfS (tTest (tOp (rEqU K) (tVar 5) (tC (.str "wood")))) (tSeq (tIfS (tNot (tB (tCB (rIsi K) (tCons (tVar 6) (tCons (tC (.ty "tuple")) tNil))))) (tRet (tC (.str "wood"))) tNext)
    (tDrop (tBM K "list" (rExtU K) (tVar 1) (tCons (tLc (iSeq K (tRevF K (tVar 6))) (gName 7) tYes (tTupF (tCons (tOp (rAddU K) (tVar 4) (tC (.int 1))) (tCons (tC (.str "tree")) (tCons (tVar 7) tNil)))) [7]) tNil)))) (tSeq (tIfS (tOr (tNot (tB (tCB (rIsi K) (tCons (tVar 6) (tCons (tC (.ty "tuple")) tNil))))) (tTest (tOp (rNeU K) (tCB (rLenU K) (tCons (tVar 6) tNil)) (tC (.int 2))))) (tRet (tC (.str "tree"))) tNext)
    (tSeq (tIfS (tNot (tB (tCall (spN K f_is_name 1) [] E0 (tCons (tOp (rIx K) (tVar 6) (tC (.int 0))) tNil)))) (tRet (tC (.str "name"))) tNext)
    (tSeq (tIfS (tTest (tOp (rSInK K.P K.w false) (tOp (rIx K) (tVar 6) (tC (.int 0))) (tVar 2))) (tRet (tC (.str "again"))) tNext)
    (tSeq (tDrop (tSAddK K.P K.w (tVar 2) (tCons (tOp (rIx K) (tVar 6) (tC (.int 0))) tNil)))
    (tSeq (tAsg (tIf (tTest (tOp rGtI (tVar 4) (tVar 3))) (tVar 4) (tVar 3)) (gName 3))
    (tDrop (tBM K "list" rAppend (tVar 1) (tCons (tTupF (tCons (tVar 4) (tCons (tC (.str "wood")) (tCons (tOp (rIx K) (tVar 6) (tC (.int 1))) tNil)))) tNil)))))))))))
    (tSeq (tIfS (tTest (tOp rGtI (tCB (rLenSK K.P K.w) (tCons (tVar 2) tNil)) (tC (.int 120)))) (tRet (tC (.str "many"))) tNext)
    (tRet (tIf (tTest (tOp rGtI (tVar 3) (tC (.int 40)))) (tC (.str "deep")) (tC .non))))))))
noncomputable def m_wood_error : MS :=
  (mSeq (mAsg (mLst (mCons (mTup (mCons (mC (.int 0)) (mCons (mC (.str "wood")) (mCons (mD (mVar 0)) mNil)))) mNil)) (gN 1))
    (mSeq (mAsg mSet0 (gN 2))
    (mSeq (mAsg (mC (.int 0)) (gN 3))
    (mSeq (mWhile (mTst (mOp (fl2 neD) (mVar 1) (mLst mNil))) (mSeq (mAsg (mMeth popA (mVar 1) mNil) (gT [4, 5, 6]))
    (mIfS (mTst (mOp (fl2 eqD) (mVar 5) (mC (.str "wood")))) (mSeq (mIfS (mNot (mTst (mIsi "tuple" (mVar 6)))) (mRet (mC (.str "wood"))) mNext)
    (mDrop (mMeth extA (mVar 1) (mCons (mD (mLc .d (mSeqI (mD (mU revA (mVar 6)))) (gN 7) mYes (mTup (mCons (mD (mOp addA (mVar 4) (mC (.int 1)))) (mCons (mC (.str "tree")) (mCons (mD (mVar 7)) mNil)))) [7])) mNil)))) (mSeq (mIfS (mOr (mNot (mTst (mIsi "tuple" (mVar 6)))) (mTst (mOp (fl2 neD) (mCB (one lenA) (mCons (mVar 6) mNil)) (mC (.int 2))))) (mRet (mC (.str "tree"))) mNext)
    (mSeq (mIfS (mNot (mTst (mCall (noXf f_is_name) [false] (mCons (mOp ixA (mVar 6) (mC (.int 0))) mNil)))) (mRet (mC (.str "name"))) mNext)
    (mSeq (mIfS (mTst (mOp (setInA false) (mOp ixA (mVar 6) (mC (.int 0))) (mVar 2))) (mRet (mC (.str "again"))) mNext)
    (mSeq (mDrop (mSAdd (mVar 2) (mCons (mD (mOp ixA (mVar 6) (mC (.int 0)))) mNil)))
    (mSeq (mAsg (mIfE (mTst (mOp (fl2 gtD) (mVar 4) (mVar 3))) (mVar 4) (mVar 3)) (gN 3))
    (mDrop (mMeth appA (mVar 1) (mCons (mTup (mCons (mD (mVar 4)) (mCons (mC (.str "wood")) (mCons (mD (mOp ixA (mVar 6) (mC (.int 1)))) mNil)))) mNil)))))))))))
    (mSeq (mIfS (mTst (mOp (fl2 gtD) (mCB (one lenSA) (mCons (mVar 2) mNil)) (mC (.int 120)))) (mRet (mC (.str "many"))) mNext)
    (mRet (mIfE (mTst (mOp (fl2 gtD) (mVar 3) (mC (.int 40)))) (mC (.str "deep")) (mC .none))))))))
theorem ss_wood_error {K : KW} {B : Bs} {W : WX} : SS K B W (t_wood_error K) (m_wood_error) :=
  (ss_seq (ss_asg (se_lst (sa_cons (se_tup (sa_cons (se_int _) (sa_cons (se_str _ (by decide +kernel)) (sa_cons (se_D (se_var _)) sa_nil)))) sa_nil)) (sg_name _))
    (ss_seq (ss_asg se_set0 (sg_name _))
    (ss_seq (ss_asg (se_int _) (sg_name _))
    (ss_seq (ss_while (st_Test (se_op (so2_fl os_ne) (se_var _) (se_lst sa_nil))) (ss_seq (ss_asg (se_meth0 sm_pop (se_var _)) (sg_tup _ rfl))
    (ss_if (st_Test (se_op (so2_fl os_eq) (se_var _) (se_str _ (by decide +kernel)))) (ss_seq (ss_if (st_not (st_B (se_isi (se_var _)))) (ss_ret (se_str _ (by decide +kernel))) ss_next)
    (ss_drop (se_meth sm_ext (se_var _) (sa_cons (se_D (se_lc (si_seq (se_D (se_revT (se_var _)))) (sgw_name _ (by decide)) st_yes (se_tup (sa_cons (se_D (se_op so_add (se_var _) (se_int _))) (sa_cons (se_str _ (by decide +kernel)) (sa_cons (se_D (se_var _)) sa_nil)))))) sa_nil)))) (ss_seq (ss_if (st_or (st_not (st_B (se_isi (se_var _)))) (st_Test (se_op (so2_fl os_ne) (se_cb (soa_one so1_len) (sa_cons (se_var _) sa_nil)) (se_int _)))) (ss_ret (se_str _ (by decide +kernel))) ss_next)
    (ss_seq (ss_if (st_not (st_B (se_call0 rfl (sa_cons (se_op so_ix (se_var _) (se_int _)) sa_nil)))) (ss_ret (se_str _ (by decide +kernel))) ss_next)
    (ss_seq (ss_if (st_Test (se_op (so_setIn false) (se_op so_ix (se_var _) (se_int _)) (se_var _))) (ss_ret (se_str _ (by decide +kernel))) ss_next)
    (ss_seq (ss_drop (se_sadd (se_var _) (sa_cons (se_D (se_op so_ix (se_var _) (se_int _))) sa_nil)))
    (ss_seq (ss_asg (se_if (st_Test (se_op (so2_fl os_gt) (se_var _) (se_var _))) (se_var _) (se_var _)) (sg_name _))
    (ss_drop (se_meth sm_app (se_var _) (sa_cons (se_tup (sa_cons (se_D (se_var _)) (sa_cons (se_str _ (by decide +kernel)) (sa_cons (se_D (se_op so_ix (se_var _) (se_int _))) sa_nil)))) sa_nil)))))))))))
    (ss_seq (ss_if (st_Test (se_op (so2_fl os_gt) (se_cb (soa_one so1_lenS) (sa_cons (se_var _) sa_nil)) (se_int _))) (ss_ret (se_str _ (by decide +kernel))) ss_next)
    (ss_ret (se_if (st_Test (se_op (so2_fl os_gt) (se_var _) (se_int _))) (se_str _ (by decide +kernel)) se_non)))))))
noncomputable def f_wood_error : DF := runM 8 m_wood_error

/-- slots of law: 0 _law_script, 1 _law_deck_here, 2 _law_many, 3 _law_wood_here, 4 _law_kids_here, 5 _law_names_here, 6 _law_odd_here, 7 _law_k, 8 _law_kind, 9 _law_thing, 10 _law_value, 11 _law_found, 12 _law_due -/
def n_law : List Str := ["_law_script", "_law_deck_here", "_law_many", "_law_wood_here", "_law_kids_here", "_law_names_here", "_law_odd_here", "_law_k", "_law_kind", "_law_thing", "_law_value", "_law_found", "_law_due"]
def t_law (K : KW) : TS :=
  (tSeq (tAsg (tCall (spN K f_deckL 1) [] E0 (tCons (tVar 0) tNil)) (gName 1))
    (tSeq (tAsg (tCall (spN K f_drawL 2) [] E0 (tCons (tVar 1) (tCons (tC (.int 4)) tNil))) (gName 2))
    (tSeq (tAsg (tIf (tTest (tOp (rEqU K) (tCall (spN K f_drawL 2) [] E0 (tCons (tVar 1) (tCons (tC (.int 8)) tNil))) (tC (.int 5)))) (tCall (spN K f_great_woodL 1) [] E0 (tCons (tVar 1) tNil)) (tCall (spN K f_some_woodL 1) [] E0 (tCons (tVar 1) tNil))) (gName 3))
    (tSeq (tAsg (tCall (spN K f_kidsL 1) [] E0 (tCons (tVar 3) tNil)) (gName 4))
    (tSeq (tAsg (tKeysL (tVar 4)) (gName 5))
    (tSeq (tAsg (tTNew K.P K.w) (gName 6))
    (tSeq (tFor (iRng1 (tCons (tVar 2) tNil)) (gName 7) (tSeq (tAsg (tCall (spN K f_pickL 2) [] E0 (tCons (tVar 1) (tCons (tLst (tCons (tC (.str "wood")) (tCons (tC (.str "tree")) (tCons (tC (.str "name")) tNil)))) tNil))) (gName 8))
    (tSeq (tAsg (tCall (spN K f_oddL 1) [] E0 (tCons (tVar 1) tNil)) (gName 9))
    (tSeq (tIfS (tTest (tOp (rEqU K) (tCall (spN K f_drawL 2) [] E0 (tCons (tVar 1) (tCons (tC (.int 3)) tNil))) (tC (.int 0)))) (tAsg (tCall (spN K f_pickL 2) [] E0 (tCons (tVar 1) (tCons (tVar 5) tNil))) (gName 9)) tNext)
    (sTPut K K.P K.w (tVar 6) (tTupF (tCons (tVar 8) (tCons (tCall (spN K f_pickL 2) [] E0 (tCons (tVar 1) (tCons (tVar 5) tNil))) tNil))) (tVar 9))))))
    (tSeq (tAsg (tCall (spN K (f_odd_woodL 60) 3) [] E0 (tCons (tVar 4) (tCons (tC (.str "")) (tCons (tVar 6) tNil)))) (gName 10))
    (tSeq (tIfS (tTest (tOp (rNeU K) (tCB (rReprP K) (tCons (tLst (tCons (tC (.int 120)) (tCons (tC (.int 40)) tNil))) tNil)) (tCB (rReprP K) (tCons (tLst (tCons (tC (.int 120)) (tCons (tC (.int 40)) tNil))) tNil)))) (tRet (tC (.bl false))) tNext)
    (tSeq (tAsg (tCall (spN K f_wood_error 1) [] E0 (tCons (tVar 10) tNil)) (gName 11))
    (tSeq (tAsg (tCall (spN K f_wood_errorL 1) [] E0 (tCons (tVar 10) tNil)) (gName 12))
    (tSeq (tIfS (tTest (tOp rIsN (tVar 12) (tC .non))) (tRet (tOp rIsN (tVar 11) (tC .non))) tNext)
    (tRet (tOp (rEqU K) (tVar 11) (tVar 12)))))))))))))))
noncomputable def m_law : MS :=
  (mSeq (mAsg (mCall (noXf f_deckL) [false] (mCons (mVar 0) mNil)) (gN 1))
    (mSeq (mAsg (mCall (noXf f_drawL) [true, false] (mCons (mVar 1) (mCons (mC (.int 4)) mNil))) (gN 2))
    (mSeq (mAsg (mIfE (mTst (mOp (fl2 eqD) (mCall (noXf f_drawL) [true, false] (mCons (mVar 1) (mCons (mC (.int 8)) mNil))) (mC (.int 5)))) (mCall (noXf f_great_woodL) [true] (mCons (mVar 1) mNil)) (mCall (noXf f_some_woodL) [true] (mCons (mVar 1) mNil))) (gN 3))
    (mSeq (mAsg (mCall (noXf f_kidsL) [false] (mCons (mVar 3) mNil)) (gN 4))
    (mSeq (mAsg (mU keysA (mVar 4)) (gN 5))
    (mSeq (mAsg mDtN (gN 6))
    (mSeq (mFor .d (mRng1 (mVar 2)) (gN 7) (mSeq (mAsg (mCall (noXf f_pickL) [true, false] (mCons (mVar 1) (mCons (mD (mLst (mCons (mC (.str "wood")) (mCons (mC (.str "tree")) (mCons (mC (.str "name")) mNil))))) mNil))) (gN 8))
    (mSeq (mAsg (mCall (noXf f_oddL) [true] (mCons (mVar 1) mNil)) (gN 9))
    (mSeq (mIfS (mTst (mOp (fl2 eqD) (mCall (noXf f_drawL) [true, false] (mCons (mVar 1) (mCons (mC (.int 3)) mNil))) (mC (.int 0)))) (mAsg (mCall (noXf f_pickL) [true, false] (mCons (mVar 1) (mCons (mVar 5) mNil))) (gN 9)) mNext)
    (mPutT (mD (mVar 9)) (mVar 6) (mTup (mCons (mD (mVar 8)) (mCons (mD (mCall (noXf f_pickL) [true, false] (mCons (mVar 1) (mCons (mVar 5) mNil)))) mNil))))))))
    (mSeq (mAsg (mCall (noXf (f_odd_woodL 60)) [false, false, true] (mCons (mD (mVar 4)) (mCons (mC (.str "")) (mCons (mVar 6) mNil)))) (gN 10))
    (mSeq (mIfS (mTst (mOp (fl2 neD) (mCB (one (fl1 reprD)) (mCons (mLst (mCons (mD (mC (.int 120))) (mCons (mD (mC (.int 40))) mNil))) mNil)) (mCB (one (fl1 reprD)) (mCons (mLst (mCons (mC (.int 120)) (mCons (mC (.int 40)) mNil))) mNil)))) (mRet (mC (.bool false))) mNext)
    (mSeq (mAsg (mCall (noXf f_wood_error) [false] (mCons (mVar 10) mNil)) (gN 11))
    (mSeq (mAsg (mCall (noXf f_wood_errorL) [false] (mCons (mVar 10) mNil)) (gN 12))
    (mSeq (mIfS (mTst (mOp (fl2 isD) (mVar 12) (mC .none))) (mRet (mOp (fl2 isD) (mVar 11) (mC .none))) mNext)
    (mRet (mOp (fl2 eqD) (mVar 11) (mVar 12)))))))))))))))
theorem ss_law {K : KW} {B : Bs} {W : WX} : SS K B W (t_law K) (m_law) :=
  (ss_seq (ss_asg (se_call0 rfl (sa_cons (se_var _) sa_nil)) (sg_name _))
    (ss_seq (ss_asg (se_call0 rfl (sa_cons (se_var _) (sa_cons (se_int _) sa_nil))) (sg_name _))
    (ss_seq (ss_asg (se_if (st_Test (se_op (so2_fl os_eq) (se_call0 rfl (sa_cons (se_var _) (sa_cons (se_int _) sa_nil))) (se_int _))) (se_call0 rfl (sa_cons (se_var _) sa_nil)) (se_call0 rfl (sa_cons (se_var _) sa_nil))) (sg_name _))
    (ss_seq (ss_asg (se_call0 rfl (sa_cons (se_var _) sa_nil)) (sg_name _))
    (ss_seq (ss_asg (se_keys (se_var _)) (sg_name _))
    (ss_seq (ss_asg se_dtN (sg_name _))
    (ss_seq (ss_for (si_rng1 (se_var _)) (sg_name _) (ss_seq (ss_asg (se_call0 rfl (sa_cons (se_var _) (sa_cons (se_D (se_lst (sa_cons (se_str _ (by decide +kernel)) (sa_cons (se_str _ (by decide +kernel)) (sa_cons (se_str _ (by decide +kernel)) sa_nil))))) sa_nil))) (sg_name _))
    (ss_seq (ss_asg (se_call0 rfl (sa_cons (se_var _) sa_nil)) (sg_name _))
    (ss_seq (ss_if (st_Test (se_op (so2_fl os_eq) (se_call0 rfl (sa_cons (se_var _) (sa_cons (se_int _) sa_nil))) (se_int _))) (ss_asg (se_call0 rfl (sa_cons (se_var _) (sa_cons (se_var _) sa_nil))) (sg_name _)) ss_next)
    (ss_putT (se_var _) (se_tup (sa_cons (se_D (se_var _)) (sa_cons (se_D (se_call0 rfl (sa_cons (se_var _) (sa_cons (se_var _) sa_nil)))) sa_nil))) (se_D (se_var _)))))))
    (ss_seq (ss_asg (se_call0 rfl (sa_cons (se_D (se_var _)) (sa_cons (se_str _ (by decide +kernel)) (sa_cons (se_var _) sa_nil)))) (sg_name _))
    (ss_seq (ss_if (st_Test (se_op (so2_fl os_ne) (se_cb (soa_one (so1_fl us_repr)) (sa_cons (se_lst (sa_cons (se_D (se_int _)) (sa_cons (se_D (se_int _)) sa_nil))) sa_nil)) (se_cb (soa_one (so1_fl us_repr)) (sa_cons (se_lst (sa_cons (se_int _) (sa_cons (se_int _) sa_nil))) sa_nil)))) (ss_ret (se_bl _)) ss_next)
    (ss_seq (ss_asg (se_call0 rfl (sa_cons (se_var _) sa_nil)) (sg_name _))
    (ss_seq (ss_asg (se_call0 rfl (sa_cons (se_var _) sa_nil)) (sg_name _))
    (ss_seq (ss_if (st_Test (se_op (so2_fl os_is) (se_var _) se_non)) (ss_ret (se_op (so2_fl os_is) (se_var _) se_non)) ss_next)
    (ss_ret (se_op (so2_fl os_eq) (se_var _) (se_var _)))))))))))))))
noncomputable def f_law : DF := runM 13 m_law

end Tw
namespace Tw
open PySem PySem.Spec PyProof.Rows L2
/-- the deck -/
abbrev Dkv (g m c : Int) : Ow := .l [.int g, .int m, .int c]
theorem atI0 {α : Type} {a b c : α} : atI [a, b, c] 0 = some a := rfl
theorem atI1 {α : Type} {a b c : α} : atI [a, b, c] 1 = some b := rfl
theorem atI2 {α : Type} {a b c : α} : atI [a, b, c] 2 = some c := rfl
theorem ixN0 : ixN 3 0 = some 0 := rfl
theorem ixN2 : ixN 3 2 = some 2 := rfl
theorem cm_l {i j : Int} (h : -(2 ^ 64) < i ∧ i < 2 ^ 64) : CMul i j := .inl h
theorem cm_r {i j : Int} (h : -(2 ^ 64) < j ∧ j < 2 ^ 64) : CMul i j := .inr h
theorem mod_lt64 (x : Int) : -(2 ^ 64) < x % 18446744073709551557 ∧ x % 18446744073709551557 < 2 ^ 64 := by
  have h1 := Int.emod_nonneg x (by decide : (18446744073709551557 : Int) ≠ 0)
  have h2 := Int.emod_lt_of_pos x (by decide : (0 : Int) < 18446744073709551557)
  constructor <;> omega
theorem mod_lt61 (x : Int) : -(2 ^ 64) < x % 2305843009213693951 ∧ x % 2305843009213693951 < 2 ^ 64 := by
  have h1 := Int.emod_nonneg x (by decide : (2305843009213693951 : Int) ≠ 0)
  have h2 := Int.emod_lt_of_pos x (by decide : (0 : Int) < 2305843009213693951)
  constructor <;> omega
theorem draw_ok (g m c n : Int) (h0 : 0 < n) (h1 : n < 1073741824) : ∃ r g' c' : Int, f_drawL [.io (Dkv g m c), .d (.int n)] = .ok (.d (.int r)) [.io (Dkv g' m c'), .d (.int n)] ∧ 0 ≤ r ∧ r < n := by
  have e1 : ∀ j, CMul (11400714819323198485 : Int) j := fun j => cm_l (by decide)
  have e2 : ∀ x j, CMul (x % 18446744073709551557 : Int) j := fun x j => cm_l (mod_lt64 x)
  have e3 : ∀ x j, CMul (x % 2305843009213693951 : Int) j := fun x j => cm_l (mod_lt61 x)
  suffices h : DOk (fun r ios => ∃ z g' c' : Int, r = .d (.int (z % n)) ∧ ios = [.io (Dkv g' m c'), .d (.int n)]) (f_drawL [.io (Dkv g m c), .d (.int n)]) by
    obtain ⟨a, ios, e, z, g', c', rfl, rfl⟩ := h.ex
    exact ⟨_, _, _, e, Int.emod_nonneg _ (by omega), Int.emod_lt_of_pos _ h0⟩
  refine run_ok ?_
  by_cases hg : 0 < g
  · simp! [m_drawL, EndR, atI0, atI1, atI2, ixN0, ixN2, h0, h1, hg]
    exact ⟨_, rfl⟩
  · simp! [m_drawL, EndR, atI0, atI1, atI2, ixN0, ixN2, h0, h1, hg, e1, e2, e3]
    exact ⟨_, rfl⟩
theorem noX_ok (a : A) (l : List A) : DRs.noX (.ok a l) = .ok a l := rfl
theorem pick_ok (g m c : Int) (xs : List Dt) (h0 : xs ≠ []) (h1 : xs.length ≤ 100000) (t : List Dt → Dt) (ht : t = .list ∨ t = .tuple) : ∃ x ∈ xs, ∃ g' c' : Int, f_pickL [.io (Dkv g m c), .d (t xs)] = .ok (.d x) [.io (Dkv g' m c'), .d (t xs)] := by
  have hl : 0 < xs.length := List.length_pos_iff.mpr h0
  obtain ⟨r, g', c', e, r0, r1⟩ := draw_ok g m c xs.length (by omega) (by omega)
  obtain ⟨x, hx, hm⟩ := atI_of r0 r1
  refine ⟨x, hm, g', c', ?_⟩
  rcases ht with rfl | rfl
  · simp! [f_pickL, m_pickL, runM, endM, e, hx]
  · simp! [f_pickL, m_pickL, runM, endM, e, hx]
theorem deck_ok (ns : List Int) : ∃ g m : Int, f_deckL [.sc ns] = .ok (.own (Dkv g m 0)) [.sc ns] := by
  suffices h : DOk (fun r ios => ∃ g m : Int, r = .own (Dkv g m 0) ∧ ios = [.sc ns]) (f_deckL [.sc ns]) by
    obtain ⟨a, ios, e, g, m, rfl, rfl⟩ := h.ex
    exact ⟨g, m, e⟩
  refine run_ok ?_
  have e1 : ∀ j, CMul (41 : Int) j := fun j => cm_l (by decide)
  have e2 : ∀ j, CMul (2 : Int) j := fun j => cm_l (by decide)
  have e3 : ∀ j, CMul j (6364136223846793005 : Int) := fun j => cm_r (by decide)
  have e4 : ∀ j, CMul j (37 : Int) := fun j => cm_r (by decide)
  have s3 : 3 ≤ sizeLine := big (by decide)
  simp! [m_deckL, e1]
  refine fp_for (fun r e => (∀ x ∈ r, ∃ i : Int, x = .int i) ∧ ∃ (g m : Int) (y3 y4 : Option A), e = [some (.sc ns), some (.d (.int g)), some (.d (.int m)), y3, y4] ∧ (y3 = none ∨ ∃ x, y3 = some (.d x)) ∧ (y4 = none ∨ ∃ x, y4 = some (.d x))) (as := [.d (.list (cutD (ns.map PyData.int) none (some 60)))]) (rd := fun _ => some (cutD (ns.map PyData.int) none (some 60))) (xs := cutD (ns.map PyData.int) none (some 60)) (e := [some (.sc ns), some (.d (.int 0)), some (.d (.int (2917 + 41 * ns.length))), none, none]) (by simp!) ⟨?_, _, _, none, none, rfl, .inl rfl, .inl rfl⟩ (fun _ _ _ => rfl) ?_ ?_
  · intro x hx
    have := List.mem_of_mem_drop (List.mem_of_mem_take hx)
    obtain ⟨i, _, rfl⟩ := List.mem_map.mp this
    exact ⟨i, rfl⟩
  · rintro x r e ⟨hr, g, m, y3, y4, rfl, h3, h4⟩
    obtain ⟨i, rfl⟩ := hr _ List.mem_cons_self
    refine ⟨[some (.sc ns), some (.d (.int g)), some (.d (.int m)), some (.d (.int i)), y4], ?_, ?_⟩
    · rcases h3 with rfl | ⟨_, rfl⟩ <;> rcases h4 with rfl | ⟨_, rfl⟩ <;> simp!
    · have hr' : ∀ x ∈ r, ∃ i : Int, x = .int i := fun x hx => hr x (List.mem_cons_of_mem _ hx)
      by_cases c : 1000000000000000000 ≤ (if i < 0 then -i else i)
      · rcases h4 with rfl | ⟨_, rfl⟩
        · simp! [e2, e3, e4, c]
          exact ⟨hr', _, _, _, _, ⟨rfl, rfl, rfl, rfl⟩, .inr ⟨_, rfl⟩, .inr ⟨_, rfl⟩⟩
        · simp! [e2, e3, e4, c]
          exact ⟨hr', _, _, _, _, ⟨rfl, rfl, rfl, rfl⟩, .inr ⟨_, rfl⟩, .inr ⟨_, rfl⟩⟩
      · rcases h4 with rfl | ⟨_, rfl⟩
        · simp! [e2, e3, e4, c]
          exact ⟨hr', _, _, _, _, ⟨rfl, rfl, rfl, rfl⟩, .inr ⟨_, rfl⟩, .inr ⟨_, rfl⟩⟩
        · simp! [e2, e3, e4, c]
          exact ⟨hr', _, _, _, _, ⟨rfl, rfl, rfl, rfl⟩, .inr ⟨_, rfl⟩, .inr ⟨_, rfl⟩⟩
  · rintro e ⟨_, g, m, y3, y4, rfl, h3, h4⟩
    simp! [s3]
    refine ⟨_, rfl, ?_⟩
    simp!
end Tw

namespace Tw
open PySem PySem.Spec PyProof.Rows L2
theorem sum_ones (cs : List Nat) : ((cs.map fun c => (⟨#[c]⟩ : Str)).map (·.length)).sum = cs.length := by
  induction cs with
  | nil => rfl
  | cons c r ih =>
    rw [List.map_cons, List.map_cons, List.sum_cons, ih, List.length_cons]
    show 1 + r.length = r.length + 1
    omega
theorem strsD_map : ∀ ss : List Str, strsD (ss.map .str) = some ss
  | [] => rfl
  | s :: r => by
    show (strsD (r.map .str)).map (s :: ·) = _
    rw [strsD_map r]
    rfl
theorem intsD_len (lo : Int) (n : Nat) : (intsD lo n).length = n := by simp [intsD]
theorem name_ok (g m c : Int) : ∃ (z : Str) (g' c' : Int), IsNm z ∧ f_nameL [.io (Dkv g m c)] = .ok (.d (.str z)) [.io (Dkv g' m c')] := by
  suffices h : DOk (fun r ios => ∃ (z : Str) (g' c' : Int), IsNm z ∧ r = .d (.str z) ∧ ios = [.io (Dkv g' m c')]) (f_nameL [.io (Dkv g m c)]) by
    obtain ⟨a, ios, e, z, g', c', h, rfl, rfl⟩ := h.ex
    exact ⟨_, _, _, h, e⟩
  refine run_ok ?_
  simp! [m_nameL]
  obtain ⟨r, g1, c1, e1, r0, r1⟩ := draw_ok g m c 8 (by decide) (by decide)
  generalize hl : mLc _ _ _ _ _ _ _ _ = r0
  obtain ⟨ys, e', rfl, cs, g2, c2, hle, hc, hy, rfl⟩ := lc_okr hl (fun rr acc e => ∃ (cs : List Nat) (g' c' : Int), cs.length + rr.length = (1 + r).toNat ∧ (∀ c ∈ cs, IsLt c) ∧ acc = cs.map (fun c => PyData.str ⟨#[c]⟩) ∧ e = [some (.io (Dkv g' m c')), some (.d (.str letters)), none])
    (as := []) (rd := fun _ => some (intsD 0 (1 + r).toNat)) (xs := intsD 0 (1 + r).toNat) (e := [some (.io (Dkv g1 m c1)), some (.d (.str letters)), none]) (by
      have h1 : (-4611686018427387904 : Int) ≤ 1 + r := by omega
      have h2 : 1 + r < (4611686018427387904 : Int) := by omega
      simp! [e1, h1, h2]) (by simp!) ⟨[], g1, c1, by simp [intsD_len], by simp, rfl, rfl⟩ (fun _ _ _ _ => rfl) (by
      rintro x rr acc e ⟨cs, g', c', hle, hc, rfl, rfl⟩
      obtain ⟨r2, g2, c2, e2, s0, s1⟩ := draw_ok g' m c' 26 (by decide) (by decide)
      have hat := letters_at s0 s1
      have hs : cs.length < sizeLine := big' (by omega)
      refine ⟨_, by simp!; rfl, true, _, rfl, fun _ => ⟨_, _, by simp! [e2, hat]; exact ⟨rfl, rfl⟩, by simpa using hs, by simp!, cs ++ [97 + r2.toNat], g2, c2, ?_, ?_, ?_, ?_⟩, fun z => nomatch z⟩
      · simp at hle ⊢
        omega
      · intro c hc'
        rcases List.mem_append.mp hc' with h | h
        · exact hc c h
        · rcases List.mem_cons.mp h with rfl | h
          · unfold IsLt
            omega
          · cases h
      · simp
      · simp!)
  have hz := tl_singles cs
  have hs := strsD_map (cs.map fun c => (⟨#[c]⟩ : Str))
  have e0 : ("" : Str).length = 0 := by decide +kernel
  have hn : cs.length = (1 + r).toNat := by simpa using hle
  have hL : (Txt.join "" (cs.map fun c => (⟨#[c]⟩ : Str))).length ≤ sizeLine := len_tl_le (n := 8) (by rw [hz]; omega) (by decide)
  have hk : ((cs.map fun c => (⟨#[c]⟩ : Str)).map (·.length)).sum + (cs.map fun c => (⟨#[c]⟩ : Str)).length * ("" : Str).length ≤ 16777216 := by
    rw [sum_ones, e0, hn]
    omega
  have hy' : ys = (cs.map fun c => (⟨#[c]⟩ : Str)).map .str := by rw [hy, List.map_map]; rfl
  rw [hy']
  generalize hcs : (cs.map fun c => (⟨#[c]⟩ : Str)) = ss at *
  simp! only [Option.map_some, Option.bind_some, hs]
  rw [if_pos ⟨hk, hL⟩]
  simp! [EndR]
  refine ⟨?_, ?_, ?_⟩
  · rw [hz]
    omega
  · rw [hz]
    omega
  · rw [hz]
    exact hc
end Tw

namespace Tw
open PySem PySem.Spec PyProof.Rows L2
theorem fp_conseq {N : Env → Prop} {R : A → Env → Prop} {f : Fl} (J : Env → Prop) (h : FP J R f) (k : ∀ e, J e → N e) : FP N R f := by
  cases h with
  | nx h => exact .nx (k _ h)
  | rt h => exact .rt h
theorem rng1_int {m : ME} {env e : Env} {te : List A} {j : Int} (hj : -(2 ^ 62) ≤ j ∧ j < 2 ^ 62) (h : m env te = .ok (.d (.int j)) e) : mRng1 m env te = .ok ([], fun _ => some (intsD 0 j.toNat)) e := by
  rw [ev_mRng1, h]
  exact if_pos hj
theorem rng1_nat {m : ME} {env e : Env} {te : List A} {n : Nat} (hn : n ≤ 100000) (h : m env te = .ok (.d (.int n)) e) : mRng1 m env te = .ok ([], fun _ => some (intsD 0 n)) e := by
  rw [rng1_int (j := (n : Int)) ⟨by omega, by omega⟩ h, Int.toNat_natCast]
theorem eqv_str (a b : Str) : PyData.eqv (.str a) (.str b) = decide (a = b) := by
  rw [Bool.eq_iff_iff]
  simp [PyData.eqv]
theorem eqv_int (a b : Int) : PyData.eqv (.int a) (.int b) = decide (a = b) := by
  rw [Bool.eq_iff_iff]
  simp [PyData.eqv]
theorem eqD_int (a b : Int) : eqD (.int a) (.int b) = some (.bool (decide (a = b))) := by
  unfold eqD
  rw [if_pos (by simp [okEq, PyData.plain, PyData.depth]), eqv_int]
theorem eqD_str (a b : Str) : eqD (.str a) (.str b) = some (.bool (decide (a = b))) := by
  unfold eqD
  rw [if_pos (by simp [okEq, PyData.plain, PyData.depth]), eqv_str]
theorem neD_int (a b : Int) : neD (.int a) (.int b) = some (.bool (!decide (a = b))) := by
  unfold neD
  rw [if_pos (by simp [okEq, PyData.plain, PyData.depth]), eqv_int]
theorem neD_str (a b : Str) : neD (.str a) (.str b) = some (.bool (!decide (a = b))) := by
  unfold neD
  rw [if_pos (by simp [okEq, PyData.plain, PyData.depth]), eqv_str]
theorem any_str (z : Str) (ns : List Str) : (ns.any fun s => PyData.eqv (.str s) (.str z)) = decide (z ∈ ns) := by
  rw [Bool.eq_iff_iff]
  simp [eqv_str]
theorem inD_list (neg : Bool) (z : Str) (ns : List Str) : inD neg (.str z) (.list (ns.map .str)) = some (.bool (if neg then !decide (z ∈ ns) else decide (z ∈ ns))) := by
  unfold inD
  simp only [seqD, strsD_map, any_str]
  have e : ((ns.map PyData.str).any fun y => PyData.eqv y (.str z)) = decide (z ∈ ns) := by
    rw [List.any_map]
    exact any_str z ns
  rw [e]
  split <;> rfl
theorem len_rep8 (l : List Nat) : ((List.replicate 8 l).flatten).length = 8 * l.length := by
  rw [List.length_flatten, List.map_replicate]
  simp [List.replicate]
  omega
theorem two_signs (a b : Nat) : (⟨#[a]⟩ : Str) ++ ⟨#[b]⟩ = ⟨#[a, b]⟩ := TL.ext_tl (by
  rw [TL.tl_append]
  rfl)
theorem nm_sign {a b : List Nat} {c : Nat} {z : Str} (hz : TL.tl z = a ++ [c] ++ b) (hc : IsLt c) (ha : ∀ x ∈ a, IsLt x) (hb : ∀ x ∈ b, IsLt x) (hl : a.length + b.length ≤ 7) : IsNm z := by
  refine ⟨?_, ?_, ?_⟩
  · rw [hz]
    simp
    omega
  · rw [hz]
    simp
    omega
  · rw [hz]
    intro x hx
    rcases List.mem_append.mp hx with h | h
    · rcases List.mem_append.mp h with h | h
      · exact ha x h
      · rcases List.mem_cons.mp h with rfl | h
        · exact hc
        · cases h
    · exact hb x h
def nE (sp : List Dt) (m g c : Int) (n : Nat) (way : Int) (bs : Str) (pl at_ : Nat) (ns : List Str) (y9 y10 y11 : Option A) : Env := [some (.io (Dkv g m c)), some (.d (.int n)), some (.d (.str letters)), some (.own (.l sp)), some (.d (.int way)), some (.d (.str bs)), some (.d (.int pl)), some (.d (.int at_)), some (.own (.l (ns.map .str))), y9, y10, y11]
def ND (y : Option A) : Prop := y = none ∨ ∃ x, y = some (.d x)
theorem spare_at {k : Nat} (h : k < 676) : atI (spares.map PyData.str) k = some (.str (spare k)) := by
  refine atI_nat ?_
  rw [List.getElem?_map, spares_get h]
  rfl
def slotNat (e : Env) (i : Nat) : Nat := match e[i]? with
  | some (some (A.d (.int k))) => k.toNat
  | _ => 0
theorem nm_len {z : Str} (h : IsNm z) : z.length ≤ 8 := by
  rw [TL.len_tl]
  exact h.2.1
theorem names_ok (g m c : Int) (n : Nat) (hn : n ≤ 600) : ∃ (ns : List Str) (g' c' : Int), ns.length = n ∧ ns.Nodup ∧ (∀ z ∈ ns, IsNm z) ∧ f_namesL [.io (Dkv g m c), .d (.int n)] = .ok (.own (.l (ns.map .str))) [.io (Dkv g' m c'), .d (.int n)] := by
  suffices h : DOk (fun r ios => ∃ (ns : List Str) (g' c' : Int), ns.length = n ∧ ns.Nodup ∧ (∀ z ∈ ns, IsNm z) ∧ r = .own (.l (ns.map .str)) ∧ ios = [.io (Dkv g' m c'), .d (.int n)]) (f_namesL [.io (Dkv g m c), .d (.int n)]) by
    obtain ⟨a, ios, e, ns, g', c', h1, h2, h3, rfl, rfl⟩ := h.ex
    exact ⟨_, _, _, h1, h2, h3, e⟩
  refine run_ok ?_
  simp! [m_namesL]
  -- the spare names
  generalize hl : mLc _ _ _ _ _ _ _ _ = r0
  obtain ⟨ys, e', rfl, hi⟩ := lc_okr hl (fun rr acc e => rr = (intsD 0 676).drop acc.length ∧ acc.length ≤ 676 ∧ acc = (spares.take acc.length).map .str ∧ e = [some (.io (Dkv g m c)), some (.d (.int n)), some (.d (.str letters)), none, none, none, none, none, none, none, none, none])
    (as := []) (rd := fun _ => some (intsD 0 676)) (xs := intsD 0 676) (e := [some (.io (Dkv g m c)), some (.d (.int n)), some (.d (.str letters)), none, none, none, none, none, none, none, none, none]) (by
      simp!) (by simp!) ⟨rfl, by simp, rfl, by simp!⟩ (fun _ _ _ _ => rfl) (by
      rintro x rr acc e ⟨h1, h2, h3, rfl⟩
      have hlt : acc.length < 676 := by
        rcases Nat.lt_or_ge acc.length 676 with h | h
        · exact h
        · rw [List.drop_of_length_le (by rw [intsD_len]; exact h)] at h1
          cases h1
      have hx : (intsD 0 676)[acc.length]? = some (.int acc.length) := by
        unfold intsD
        rw [List.getElem?_map, List.getElem?_range hlt]
        simp
      have hd : (intsD 0 676).drop acc.length = .int acc.length :: (intsD 0 676).drop (acc.length + 1) := by
        rw [List.getElem?_eq_some_iff] at hx
        obtain ⟨h, e⟩ := hx
        rw [List.drop_eq_getElem_cons h, e]
      rw [hd] at h1
      injection h1 with h1 h4
      subst h1
      have a1 := letters_at (i := (acc.length : Int) / 26) (by omega) (by omega)
      have a2 := letters_at (i := (acc.length : Int) % 26) (by omega) (by omega)
      have hsz : acc.length < sizeLine := big' (by omega)
      have h2s : (1 : Nat) + 1 ≤ sizeLine := big (by decide)
      have e2 : (⟨#[97 + ((acc.length : Int) / 26).toNat]⟩ : Str) ++ ⟨#[97 + ((acc.length : Int) % 26).toNat]⟩ = spare acc.length := by
        rw [two_signs]
        unfold spare
        have e3 : ((acc.length : Int) / 26).toNat = acc.length / 26 := by omega
        have e4 : ((acc.length : Int) % 26).toNat = acc.length % 26 := by omega
        rw [e3, e4]
      have l1 : ∀ k : Nat, (⟨#[k]⟩ : Str).length = 1 := fun _ => rfl
      refine ⟨_, by simp!; rfl, true, _, rfl, fun _ => ⟨.str (spare acc.length), _, by simp! [a1, a2, l1, h2s, e2]; rfl, hsz, by simp!, ?_, ?_, ?_, ?_⟩, fun z => nomatch z⟩
      · simpa using h4
      · simp
        omega
      · rw [List.length_append]
        show acc ++ [_] = (spares.take (acc.length + 1)).map _
        rw [List.take_add_one, spares_get hlt, List.map_append, ← h3]
        rfl
      · simp!)
  obtain ⟨h1, h2, h3, rfl⟩ := hi
  have hyl : ys.length = 676 := by
    have := congrArg List.length h1
    rw [List.length_drop, intsD_len, List.length_nil] at this
    omega
  have eys : ys = spares.map .str := by
    rw [h3, hyl, List.take_of_length_le (by rw [spares_len]; omega)]
  clear hl h1 h2 h3 hyl
  obtain ⟨sp, hsp, rfl⟩ : ∃ sp, (∀ k : Nat, k < 676 → atI sp k = some (.str (spare k))) ∧ sp = ys := ⟨ys, fun k hk => by rw [eys]; exact spare_at hk, rfl⟩
  clear eys
  obtain ⟨way, g1, c1, q1, w0, w1⟩ := draw_ok g m c 4 (by decide) (by decide)
  obtain ⟨z0, g2, c2, hz0, q2⟩ := name_ok g1 m c1
  obtain ⟨pl', g3, c3, q3, p0, p1⟩ := draw_ok g2 m c2 8 (by decide) (by decide)
  obtain ⟨pl, rfl⟩ : ∃ k : Nat, pl' = k := ⟨pl'.toNat, by omega⟩
  have hz1 : 1 ≤ (TL.tl z0).length := hz0.1
  have hz8 : (TL.tl z0).length ≤ 8 := hz0.2.1
  have em : TL.tl (Txt.mul z0 8) = (List.replicate 8 (TL.tl z0)).flatten := tl_mul z0 8 (by decide) hz1
  have lm : (TL.tl (Txt.mul z0 8)).length = 8 * (TL.tl z0).length := by
    rw [em]
    exact len_rep8 _
  have mk : MulOk z0 8 := mulOk_small (n := 8) (by decide) (by omega)
  have ml : (Txt.mul z0 8).length ≤ sizeLine := len_tl_le (n := 64) (by omega) (by decide)
  have tb : TL.tl (cutS (Txt.mul z0 8) none (some 8)) = (TL.tl (Txt.mul z0 8)).take 8 := tl_cut_to _ 8
  have cl : (cutS (Txt.mul z0 8) none (some 8)).length ≤ sizeLine := len_tl_le (n := 8) (by rw [tb, List.length_take]; omega) (by decide)
  have s0 : (0 : Nat) ≤ sizeLine := Nat.zero_le _
  simp! [q1, q2, mk, ml, cl]
  generalize cutS (Txt.mul z0 8) none (some 8) = bs at tb ⊢
  clear cl
  refine fp_conseq (fun e => e = nE sp m g3 c3 n way bs pl 0 [] none none none) (by simp! [q3, nE]) ?_
  rintro _ rfl
  rw [sq_ap, fp_seq]
  have lb : (TL.tl bs).length = 8 := by
    rw [tb, List.length_take, lm]
    omega
  have cb : ∀ c ∈ TL.tl bs, IsLt c := fun c hc => by
    rw [tb] at hc
    have hc2 := List.mem_of_mem_take hc
    rw [em] at hc2
    obtain ⟨l, hl, hcl⟩ := List.mem_flatten.mp hc2
    rw [List.eq_of_mem_replicate hl] at hcl
    exact hz0.2.2 c hcl
  refine fp_for (fun r e => ∃ (g' c' : Int) (ns : List Str) (at_ : Nat) (y9 y10 y11 : Option A), e = nE sp m g' c' n way bs pl at_ ns y9 y10 y11 ∧ ND y9 ∧ ND y10 ∧ ND y11 ∧ ns.length + r.length = n ∧ ns.Nodup ∧ (∀ z ∈ ns, IsNm z) ∧ (∀ j, j < at_ → spare j ∈ ns) ∧ at_ ≤ 676)
    (as := []) (rd := fun _ => some (intsD 0 n)) (xs := intsD 0 n) (e := nE sp m g3 c3 n way bs pl 0 [] none none none) ?_ ?_ ?_ ?_ ?_
  · exact rng1_nat (by omega) (by simp! [nE])
  · exact ⟨g3, c3, [], 0, none, none, none, rfl, .inl rfl, .inl rfl, .inl rfl, by simp [intsD_len], List.nodup_nil, by simp, fun j h => absurd h (Nat.not_lt_zero _), by decide⟩
  · exact fun _ _ _ => rfl
  · rintro x r e ⟨g', c', ns, at_, y9, y10, y11, rfl, hy9, hy10, hy11, hlen, hnd, hnm, hu, hat⟩
    have hl2 : ns.length + (r.length + 1) = n := hlen
    obtain ⟨x', rfl⟩ : ∃ x' : A, x' = .d x := ⟨_, rfl⟩
    refine ⟨nE sp m g' c' n way bs pl at_ ns (some (.d x)) y10 y11, ?_, ?_⟩
    · rcases hy9 with rfl | ⟨_, rfl⟩ <;> rcases hy10 with rfl | ⟨_, rfl⟩ <;> rcases hy11 with rfl | ⟨_, rfl⟩ <;> simp! [nE]
    · rw [fp_seq]
      -- the kind
      refine fp_conseq (fun e => ∃ (g' c' kd : Int), e = nE sp m g' c' n way bs pl at_ ns (some (.d x)) (some (.d (.int kd))) y11) ?_ ?_
      · obtain ⟨r3, g4, c4, q4, _, _⟩ := draw_ok g' m c' 3 (by decide) (by decide)
        by_cases hw : way = 3
        · rcases hy10 with rfl | ⟨_, rfl⟩ <;> rcases hy11 with rfl | ⟨_, rfl⟩ <;> simp! [nE, eqD_int, hw, q4]
        · rcases hy10 with rfl | ⟨_, rfl⟩ <;> rcases hy11 with rfl | ⟨_, rfl⟩ <;> simp! [nE, eqD_int, hw]
      · rintro e ⟨g', c', kd, rfl⟩
        rw [sq_ap, fp_seq]
        -- the name
        refine fp_conseq (fun e => ∃ (g' c' : Int) (z : Str), IsNm z ∧ e = nE sp m g' c' n way bs pl at_ ns (some (.d x)) (some (.d (.int kd))) (some (.d (.str z)))) ?_ ?_
        · by_cases k0 : kd = 0
          · obtain ⟨z, g4, c4, hz, q4⟩ := name_ok g' m c'
            rcases hy11 with rfl | ⟨_, rfl⟩ <;> simp! [nE, eqD_int, k0, q4, hz]
          · by_cases k1 : kd = 1
            · subst k1
              obtain ⟨r2, g4, c4, q4, r0, r1⟩ := draw_ok g' m c' 26 (by decide) (by decide)
              have p1' : pl < 8 := by omega
              have t1 : TL.tl (cutS bs none (some (pl : Int))) = (TL.tl bs).take pl := tl_cut_to bs pl
              have t2 : TL.tl (cutS bs (some ((pl : Int) + 1)) none) = (TL.tl bs).drop (pl + 1) := tl_cut_from bs (pl + 1)
              have l1 : ((TL.tl bs).take pl).length = pl := by rw [List.length_take]; omega
              have l2 : ((TL.tl bs).drop (pl + 1)).length = 7 - pl := by rw [List.length_drop]; omega
              have hz : IsNm (cutS bs none (some (pl : Int)) ++ (⟨#[97 + r2.toNat]⟩ : Str) ++ cutS bs (some ((pl : Int) + 1)) none) := by
                refine nm_sign (a := (TL.tl bs).take pl) (b := (TL.tl bs).drop (pl + 1)) (c := 97 + r2.toNat) ?_ ?_ (fun x hx => cb x (List.mem_of_mem_take hx)) (fun x hx => cb x (List.mem_of_mem_drop hx)) (by omega)
                · rw [TL.tl_append, TL.tl_append, t1, t2]
                · unfold IsLt
                  omega
              have b1 : (cutS bs none (some (pl : Int))).length ≤ sizeLine := len_tl_le (n := 8) (by rw [t1]; omega) (by decide)
              have b2 : (cutS bs (some ((pl : Int) + 1)) none).length ≤ sizeLine := len_tl_le (n := 8) (by rw [t2]; omega) (by decide)
              have b3 : (cutS bs none (some (pl : Int))).length + (⟨#[97 + r2.toNat]⟩ : Str).length ≤ sizeLine := by
                rw [TL.len_tl, TL.len_tl, t1, l1]
                exact big (by show pl + 1 ≤ 100000; omega)
              have b4 : (cutS bs none (some (pl : Int)) ++ (⟨#[97 + r2.toNat]⟩ : Str)).length + (cutS bs (some ((pl : Int) + 1)) none).length ≤ sizeLine := by
                rw [TL.len_tl, TL.len_tl, TL.tl_append, t1, t2, List.length_append, l1, l2]
                exact big (by show pl + 1 + (7 - pl) ≤ 100000; omega)
              have hat := letters_at r0 r1
              rcases hy11 with rfl | ⟨_, rfl⟩ <;> simp! [nE, eqD_int, q4, hat, b1, b2, b3, b4, hz]
            · obtain ⟨r2, g4, c4, q4, r0, r1⟩ := draw_ok g' m c' 8 (by decide) (by decide)
              obtain ⟨rn, rfl⟩ : ∃ rn : Nat, r2 = rn := ⟨r2.toNat, by omega⟩
              have t1 : TL.tl (cutS bs none (some (1 + (rn : Int)))) = (TL.tl bs).take (1 + rn) := tl_cut_to bs (1 + rn)
              have hz : IsNm (cutS bs none (some (1 + (rn : Int)))) := by
                refine ⟨?_, ?_, ?_⟩
                · rw [t1, List.length_take]
                  omega
                · rw [t1, List.length_take]
                  omega
                · rw [t1]
                  exact fun x hx => cb x (List.mem_of_mem_take hx)
              have b1 : (cutS bs none (some (1 + (rn : Int)))).length ≤ sizeLine := len_tl_le (n := 8) hz.2.1 (by decide)
              rcases hy11 with rfl | ⟨_, rfl⟩ <;> simp! [nE, eqD_int, k0, k1, q4, b1, hz]
        · rintro e ⟨g', c', z, hz, rfl⟩
          rw [sq_ap, fp_seq]
          refine fp_while (fun e => ∃ (z : Str) (at2 : Nat), IsNm z ∧ e = nE sp m g' c' n way bs pl at2 ns (some (.d x)) (some (.d (.int kd))) (some (.d (.str z))) ∧ at2 ≤ 676 ∧ ∀ j, j < at2 → spare j ∈ ns ∨ spare j = z) (fun e => 676 - slotNat e 7) ⟨z, at_, hz, rfl, hat, fun j hj => .inl (hu j hj)⟩ ?_
          rintro e ⟨z, at2, hz, rfl, h2, hu2⟩
          refine ⟨decide (z ∈ ns), nE sp m g' c' n way bs pl at2 ns (some (.d x)) (some (.d (.int kd))) (some (.d (.str z))), by simp! [nE, inD_list], fun hc => ?_, fun hc => ?_⟩
          · have hzm : z ∈ ns := of_decide_eq_true hc
            have hu3 : ∀ j, j < at2 → spare j ∈ ns := fun j hj => by
              rcases hu2 j hj with h | h
              · exact h
              · rw [h]; exact hzm
            have ha2 : at2 ≤ ns.length := used_le h2 hu3
            have hsp' := hsp at2 (by omega)
            refine fp_conseq (fun e => e = nE sp m g' c' n way bs pl (at2 + 1) ns (some (.d x)) (some (.d (.int kd))) (some (.d (.str (spare at2))))) (by simp! [nE, hsp']) ?_
            rintro _ rfl
            refine ⟨⟨spare at2, at2 + 1, spare_nm (by omega), rfl, by omega, fun j hj => ?_⟩, ?_⟩
            · by_cases hj2 : j < at2
              · exact .inl (hu3 j hj2)
              · have : j = at2 := by omega
                subst this
                exact .inr rfl
            · show 676 - ((at2 + 1 : Nat) : Int).toNat < 676 - (at2 : Int).toNat
              omega
          · have hzm : z ∉ ns := of_decide_eq_false hc
            have hsz : ns.length < sizeLine := big' (by omega)
            rw [sq_ap]
            refine fp_conseq (fun e => e = nE sp m g' c' n way bs pl at2 (ns ++ [z]) (some (.d x)) (some (.d (.int kd))) (some (.d (.str z)))) (by simp! [nE, hsz]) ?_
            rintro _ rfl
            refine ⟨g', c', ns ++ [z], at2, _, _, _, rfl, .inr ⟨_, rfl⟩, .inr ⟨_, rfl⟩, .inr ⟨_, rfl⟩, ?_, ?_, ?_, ?_, h2⟩
            · rw [List.length_append]
              show ns.length + 1 + r.length = n
              omega
            · rw [List.nodup_append]
              refine ⟨hnd, List.nodup_cons.mpr ⟨(fun h => nomatch h), List.nodup_nil⟩, fun a ha b hb => ?_⟩
              rcases List.mem_cons.mp hb with rfl | hb
              · exact fun e => hzm (by rw [← e]; exact ha)
              · cases hb
            · intro y hy
              rcases List.mem_append.mp hy with h | h
              · exact hnm y h
              · rcases List.mem_cons.mp h with rfl | h
                · exact hz
                · cases h
            · intro j hj
              rcases hu2 j hj with h | h
              · exact List.mem_append_left _ h
              · exact List.mem_append_right _ (by rw [h]; exact List.mem_cons_self)
  · rintro e ⟨g', c', ns, at_, y9, y10, y11, rfl, hy9, hy10, hy11, hlen, hnd, hnm, hu, hat⟩
    simp! [nE, EndR]
    refine ⟨ns, ?_, hnd, hnm, rfl⟩
    simpa using hlen
end Tw

namespace Tw
open PySem PySem.Spec PyProof.Rows L2
/-- the dict tells what is in each name of the wood -/
def KWd (D : List (Dt × Dt)) : Wd → Prop
  | .nil => True
  | .cons n i r => lkDD D (.inr n) = some (.list (i.tops.map .str)) ∧ KWd D i ∧ KWd D r
theorem Wd.tops_le : ∀ w : Wd, w.tops.length ≤ w.size
  | .nil => Nat.le_refl _
  | .cons n i r => by
    have := Wd.tops_le r
    show r.tops.length + 1 ≤ i.size + r.size + 1
    omega
theorem Wd.data_len : ∀ w : Wd, w.data.length = w.tops.length
  | .nil => rfl
  | .cons n i r => congrArg (· + 1) (Wd.data_len r)
theorem wood_of_ok (D : List (Dt × Dt)) : ∀ (n : Nat) (w : Wd) (k : Str), w.dep < n → w.size ≤ 10000 → KWd D w → lkDD D (.inr k) = some (.list (w.tops.map .str)) →
    f_wood_ofL n [.d (.dict D), .d (.str k)] = .ok (.d (.tuple w.data)) [.d (.dict D), .d (.str k)]
  | 0, _, _, h, _, _, _ => absurd h (Nat.not_lt_zero _)
  | n + 1, w, k, hd, hs, hw, hk => by
    suffices h : DOk (fun r ios => r = .d (.tuple w.data) ∧ ios = [.d (.dict D), .d (.str k)]) (f_wood_ofL (n + 1) [.d (.dict D), .d (.str k)]) by
      obtain ⟨a, ios, e, rfl, rfl⟩ := h.ex
      exact e
    refine run_ok ?_
    simp! [m_wood_ofL]
    generalize hl : mLc _ _ _ _ _ _ _ _ = r0
    obtain ⟨ys, e', rfl, rest, hr, hy, _, _, _, rfl⟩ := lc_okr hl (fun rr acc e => ∃ rest : Wd, rr = rest.tops.map .str ∧ acc ++ rest.data = w.data ∧ KWd D rest ∧ rest.dep ≤ n ∧ rest.size ≤ 10000 ∧ e = [some (.d (.dict D)), some (.d (.str k)), none])
      (as := [.d (.list (w.tops.map .str))]) (rd := fun _ => some (w.tops.map .str)) (xs := w.tops.map .str) (e := [some (.d (.dict D)), some (.d (.str k)), none]) (by simp! [hk]) (by simp!) ⟨w, rfl, rfl, hw, by omega, hs, by simp!⟩ (fun _ _ _ _ => rfl) (by
        rintro x rr acc e ⟨rest, h1, h2, h3, h4, h5, rfl⟩
        cases rest with
        | nil => cases h1
        | cons m i r =>
          have h1' : x :: rr = .str m :: r.tops.map .str := h1
          injection h1' with e1 e2
          subst e1 e2
          obtain ⟨k1, k2, k3⟩ := h3
          have d1 : i.dep + 1 ≤ n := Nat.le_trans (Nat.le_max_left _ _) h4
          have d2' : r.dep ≤ n := Nat.le_trans (Nat.le_max_right _ _) h4
          have s1 : i.size + r.size + 1 ≤ 10000 := h5
          have ih := wood_of_ok D n i m (by omega) (by omega) k2 k1
          have hal : acc.length < sizeLine := by
            have := congrArg List.length h2
            rw [List.length_append, Wd.data_len, Wd.data_len] at this
            have := Wd.tops_le w
            exact big' (by omega)
          have s2 : 2 ≤ sizeLine := big (by decide)
          refine ⟨_, by simp!; rfl, true, _, rfl, fun _ => ⟨.tuple [.str m, .tuple i.data], _, by simp! [ih, s2]; rfl, hal, by simp!, r, rfl, ?_, k3, d2', by omega, by simp!⟩, fun z => nomatch z⟩
          rw [List.append_assoc]
          exact h2)
    cases rest with
    | cons m i r => cases hr
    | nil =>
      have : ys = w.data := by
        rw [← hy]
        exact (List.append_nil _).symm
      subst this
      simp! [EndR]
end Tw

namespace Tw
open PySem PySem.Spec PyProof.Rows L2
/-! ### dicts -/
theorem lkD_nil {α : Type} (k : Key) : lkD ([] : List (Key × α)) k = none := rfl
theorem lkD_cons {α : Type} (a : Key) (x : α) (r : List (Key × α)) (k : Key) : lkD ((a, x) :: r) k = if a = k then some x else lkD r k := by
  unfold lkD
  rw [List.find?_cons]
  by_cases c : a = k
  · rw [if_pos c]
    simp [c]
  · rw [if_neg c]
    simp [c]
theorem lkD_map_put {α : Type} (k : Key) (v : α) (k' : Key) : ∀ kvs : List (Key × α), lkD (kvs.map fun kv => if kv.1 = k then (kv.1, v) else kv) k' = if k' = k then (lkD kvs k').map (fun _ => v) else lkD kvs k'
  | [] => by simp [lkD_nil]
  | (a, x) :: r => by
    have ih := lkD_map_put k v k' r
    rw [List.map_cons]
    by_cases c : a = k
    · simp only [c, if_true]
      rw [lkD_cons, lkD_cons, ih]
      by_cases d : k' = k
      · simp [d]
      · have d' : ¬ k = k' := fun e => d e.symm
        simp [d, d']
    · simp only [c, if_false]
      rw [lkD_cons, lkD_cons, ih]
      by_cases d : k' = k
      · subst d
        simp [c]
      · simp [d]
theorem lkD_snoc {α : Type} (k : Key) (v : α) (k' : Key) : ∀ kvs : List (Key × α), lkD (kvs ++ [(k, v)]) k' = match lkD kvs k' with | some x => some x | none => if k = k' then some v else none
  | [] => by
    show lkD [(k, v)] k' = _
    rw [lkD_cons, lkD_nil]
  | (a, x) :: r => by
    rw [List.cons_append, lkD_cons, lkD_cons, lkD_snoc k v k' r]
    by_cases c : a = k'
    · simp [c]
    · simp [c]
theorem lkD_none {α : Type} (k : Key) : ∀ kvs : List (Key × α), (kvs.any fun kv => decide (kv.1 = k)) = false → lkD kvs k = none
  | [], _ => rfl
  | (a, x) :: r, h => by
    rw [List.any_cons, Bool.or_eq_false_iff] at h
    rw [lkD_cons, if_neg (of_decide_eq_false h.1), lkD_none k r h.2]
theorem lkD_some {α : Type} (k : Key) : ∀ kvs : List (Key × α), (kvs.any fun kv => decide (kv.1 = k)) = true → ∃ x, lkD kvs k = some x
  | [], h => nomatch h
  | (a, x) :: r, h => by
    rw [lkD_cons]
    by_cases c : a = k
    · exact ⟨x, if_pos c⟩
    · rw [if_neg c]
      refine lkD_some k r ?_
      rw [List.any_cons] at h
      simpa [c] using h
theorem lkD_put {α : Type} (kvs : List (Key × α)) (k : Key) (v : α) (k' : Key) : lkD (putD kvs k v) k' = if k' = k then some v else lkD kvs k' := by
  unfold putD
  split
  · rename_i h
    rw [lkD_map_put]
    by_cases c : k' = k
    · subst c
      obtain ⟨x, e⟩ := lkD_some _ _ h
      simp [e]
    · simp [c]
  · rename_i h
    have h' : (kvs.any fun kv => decide (kv.1 = k)) = false := by
      cases z : (kvs.any fun kv => decide (kv.1 = k)) with
      | false => rfl
      | true => exact absurd z h
    rw [lkD_snoc]
    by_cases c : k' = k
    · subst c
      rw [lkD_none _ _ h']
    · rw [if_neg c]
      have c' : ¬ k = k' := fun e => c e.symm
      cases lkD kvs k' with
      | none => simp [c']
      | some x => rfl
theorem putD_keys {α : Type} {kvs : List (Key × α)} {k : Key} {v : α} {q : Key × α} (h : q ∈ putD kvs k v) : q.1 = k ∨ ∃ p ∈ kvs, p.1 = q.1 := by
  unfold putD at h
  split at h
  · obtain ⟨x, hx, e⟩ := List.mem_map.mp h
    split at e
    · rename_i c
      rw [← e]
      exact .inl c
    · rw [← e]
      exact .inr ⟨x, hx, rfl⟩
  · rcases List.mem_append.mp h with h | h
    · exact .inr ⟨q, h, rfl⟩
    · rcases List.mem_cons.mp h with rfl | h
      · exact .inl rfl
      · cases h
theorem putD_len {α : Type} {kvs : List (Key × α)} {k : Key} {v : α} : (putD kvs k v).length ≤ kvs.length + 1 ∧ kvs.length ≤ (putD kvs k v).length := by
  unfold putD
  split
  · rw [List.length_map]
    omega
  · rw [List.length_append, List.length_cons, List.length_nil]
    omega
theorem lkD_mem {α : Type} {kvs : List (Key × α)} {k : Key} {v : α} (h : lkD kvs k = some v) : ∃ q ∈ kvs, q.1 = k := by
  unfold lkD at h
  cases e : kvs.find? (fun kv => decide (kv.1 = k)) with
  | none => rw [e] at h; cases h
  | some q => exact ⟨q, List.mem_of_find?_eq_some e, of_decide_eq_true (List.find?_some (p := fun kv : Key × α => decide (kv.1 = k)) e)⟩
theorem putD_len_old {α : Type} {kvs : List (Key × α)} {k : Key} {v u : α} (h : lkD kvs k = some u) : (putD kvs k v).length = kvs.length := by
  unfold putD
  obtain ⟨q, hq, e⟩ := lkD_mem h
  rw [if_pos (List.any_eq_true.mpr ⟨q, hq, decide_eq_true e⟩), List.length_map]
theorem lkDD_map {α : Type} (f : α → Dt) (k : Key) : ∀ kvs : List (Key × α), lkDD (kvs.map fun q => (kD q.1, f q.2)) k = (lkD kvs k).map f
  | [] => rfl
  | (a, x) :: r => by
    have ih := lkDD_map f k r
    rw [List.map_cons, lkD_cons]
    unfold lkDD at ih ⊢
    rw [List.find?_cons]
    by_cases c : a = k
    · simp [keyD_kD, c]
    · have c2 : decide (keyD (kD (a, x).1) = some k) = false := by
        rw [keyD_kD]
        simpa using c
      rw [c2, if_neg c]
      exact ih
/-! ### the dict of kids -/
def KWl (kvs : List (Key × List Dt)) : Wd → Prop
  | .nil => True
  | .cons n i r => lkD kvs (.inr n) = some (i.tops.map .str) ∧ KWl kvs i ∧ KWl kvs r
section
variable {kvs kvs' : List (Key × List Dt)}
theorem KWl.mono : ∀ {w : Wd}, (∀ n ∈ w.names, ∀ xs, lkD kvs (.inr n) = some xs → lkD kvs' (.inr n) = some xs) → KWl kvs w → KWl kvs' w
  | .nil, _, _ => trivial
  | .cons n i r, k, ⟨h1, hi, hr⟩ => ⟨k n List.mem_cons_self _ h1, hi.mono fun m hm => k m (List.mem_cons_of_mem _ (List.mem_append_left _ hm)), hr.mono fun m hm => k m (List.mem_cons_of_mem _ (List.mem_append_right _ hm))⟩
theorem KWl.app : ∀ {u v : Wd}, KWl kvs u → KWl kvs v → KWl kvs (u.app v)
  | .nil, _, _, h => h
  | .cons _ _ _, _, ⟨h1, h2, h3⟩, h => ⟨h1, h2, h3.app h⟩
theorem KWl.take : ∀ {k : Nat} {w : Wd}, KWl kvs w → KWl kvs (w.take k)
  | 0, _, _ => trivial
  | _ + 1, .nil, _ => trivial
  | k + 1, .cons _ _ _, ⟨h1, h2, h3⟩ => ⟨h1, h2, h3.take⟩
theorem KWl.drop : ∀ {k : Nat} {w : Wd}, KWl kvs w → KWl kvs (w.drop k)
  | 0, _, h => h
  | _ + 1, .nil, _ => trivial
  | k + 1, .cons _ _ _, ⟨_, _, h3⟩ => KWl.drop (k := k) h3
theorem KWl.at : ∀ {w : Wd} {k : Str}, KWl kvs w → k ∈ w.names → ∃ i, w.sub k = some i ∧ lkD kvs (.inr k) = some (i.tops.map .str)
  | .nil, _, _, h => by cases h
  | .cons n i r, k, ⟨h1, hi, hr⟩, h => by
    show ∃ x, (if n = k then some i else match Wd.sub k i with | some x => some x | none => Wd.sub k r) = some x ∧ _
    by_cases c : n = k
    · subst c
      rw [if_pos rfl]
      exact ⟨i, rfl, h1⟩
    · rw [if_neg c]
      cases e : Wd.sub k i with
      | some x =>
        obtain ⟨y, e1, e2⟩ := hi.at (Wd.sub_mem e)
        rw [e] at e1
        cases e1
        exact ⟨x, rfl, e2⟩
      | none =>
        rcases List.mem_cons.mp h with z | z
        · exact absurd z.symm c
        · rcases List.mem_append.mp z with z | z
          · obtain ⟨y, e1, _⟩ := hi.at z
            rw [e] at e1
            cases e1
          · exact hr.at z
theorem KWl.grp {a t : Nat} {nm : Str} {w : Wd} (h : KWl kvs w) (hn : lkD kvs (.inr nm) = some (((w.drop a).take t).tops.map .str)) : KWl kvs (w.grp a t nm) :=
  h.take.app ⟨hn, h.drop.take, h.drop.drop⟩
theorem KWl.upd {a t : Nat} {nm k : Str} : ∀ {w : Wd}, w.names.Nodup → (∀ n ∈ w.names, n ≠ k → ∀ xs, lkD kvs (.inr n) = some xs → lkD kvs' (.inr n) = some xs) →
    (∀ i, w.sub k = some i → lkD kvs' (.inr k) = some ((i.grp a t nm).tops.map .str) ∧ lkD kvs' (.inr nm) = some (((i.drop a).take t).tops.map .str)) →
    KWl kvs w → KWl kvs' (w.upd k (Wd.grp a t nm))
  | .nil, _, _, _, _ => trivial
  | .cons n i r, nd, m, hk, ⟨h1, hi, hr⟩ => by
    have nd' : (n :: (i.names ++ r.names)).Nodup := nd
    rw [List.nodup_cons] at nd'
    have nda := List.nodup_append.mp nd'.2
    have mi : ∀ x ∈ i.names, x ∈ (Wd.cons n i r).names := fun x hx => List.mem_cons_of_mem _ (List.mem_append_left _ hx)
    have mr : ∀ x ∈ r.names, x ∈ (Wd.cons n i r).names := fun x hx => List.mem_cons_of_mem _ (List.mem_append_right _ hx)
    have hk' : ∀ x, (if n = k then some i else match Wd.sub k i with | some x => some x | none => Wd.sub k r) = some x → _ := hk
    show KWl kvs' (if n = k then .cons n (i.grp a t nm) r else .cons n (i.upd k (Wd.grp a t nm)) (r.upd k (Wd.grp a t nm)))
    by_cases c : n = k
    · subst c
      rw [if_pos rfl] at hk' ⊢
      obtain ⟨g1, g2⟩ := hk' i rfl
      refine ⟨g1, KWl.grp (hi.mono fun x hx => m x (mi x hx) ?_) g2, hr.mono fun x hx => m x (mr x hx) ?_⟩
      · rintro rfl
        exact nd'.1 (List.mem_append_left _ hx)
      · rintro rfl
        exact nd'.1 (List.mem_append_right _ hx)
    · rw [if_neg c] at hk' ⊢
      refine ⟨by rw [Wd.tops_upd]; exact m n List.mem_cons_self c _ h1, KWl.upd nda.1 (fun x hx => m x (mi x hx)) (fun x e => hk' x (by rw [e])) hi, KWl.upd nda.2.1 (fun x hx => m x (mr x hx)) (fun x e => hk' x ?_) hr⟩
      cases e2 : Wd.sub k i with
      | none => exact e
      | some y => exact absurd rfl (nda.2.2 _ (Wd.sub_mem e2) _ (Wd.sub_mem e))
theorem KWl.toD : ∀ {w : Wd}, KWl kvs w → KWd (kvs.map fun q => (kD q.1, .list q.2)) w
  | .nil, _ => trivial
  | .cons n i r, ⟨h1, hi, hr⟩ => ⟨by rw [lkDD_map (f := PyData.list), h1]; rfl, hi.toD, hr.toD⟩
end
/-- the state of a wood that is being made -/
structure Kt (kvs : List (Key × List Dt)) (w : Wd) : Prop where
  ks : ∀ q ∈ kvs, ∃ k : Str, q.1 = .inr k ∧ (k = "" ∨ k ∈ w.names)
  pos : 0 < kvs.length
  len : kvs.length ≤ w.size + 1
  top : lkD kvs (.inr "") = some (w.tops.map .str)
  kw : KWl kvs w
  nd : w.names.Nodup
  nm : ∀ n ∈ w.names, IsNm n
theorem Kt.at {kvs : List (Key × List Dt)} {w : Wd} {k : Str} (h : Kt kvs w) (hk : k = "" ∨ k ∈ w.names) : ∃ i, w.inn k = some i ∧ lkD kvs (.inr k) = some (i.tops.map .str) := by
  unfold Wd.inn
  by_cases c : k = ""
  · rw [if_pos c, c]
    exact ⟨w, rfl, h.top⟩
  · rw [if_neg c]
    exact h.kw.at (hk.resolve_left c)
theorem Kt.step {kvs kvs' : List (Key × List Dt)} {w i : Wd} {nm over : Str} {a t : Nat} (h : Kt kvs w) (inm : IsNm nm) (nin : nm ∉ w.names) (hover : over = "" ∨ over ∈ w.names) (hin : w.inn over = some i)
    (val : ∀ k : Str, lkD kvs' (.inr k) = if k = over then some ((i.tops.take a ++ nm :: (i.tops.drop a).drop t).map .str) else if k = nm then some (((i.tops.drop a).take t).map .str) else lkD kvs (.inr k))
    (keys : ∀ q ∈ kvs', q.1 = .inr nm ∨ ∃ p ∈ kvs, p.1 = q.1) (l1 : kvs.length ≤ kvs'.length) (l2 : kvs'.length ≤ kvs.length + 1) : Kt kvs' (w.put over a t nm) := by
  have e0 : ("" : Str) ∉ w.names := fun m => nm_ne (h.nm _ m) rfl
  have non : nm ≠ over := by
    rintro rfl
    rcases hover with e | e
    · exact nm_ne inm e
    · exact nin e
  have pm := Wd.names_put (a := a) (t := t) (nm := nm) h.nd hover
  have sz : (w.put over a t nm).size = w.size + 1 := by
    have p4 := pm.length_eq
    rw [List.length_cons, Wd.size_names, Wd.size_names] at p4
    exact p4
  have eg : (i.grp a t nm).tops = i.tops.take a ++ nm :: (i.tops.drop a).drop t := Wd.tops_grp a t nm i
  have et : ((i.drop a).take t).tops = (i.tops.drop a).take t := by rw [Wd.tops_take, Wd.tops_drop]
  have vo : lkD kvs' (.inr over) = some ((i.grp a t nm).tops.map .str) := by rw [val, if_pos rfl, eg]
  have vn : lkD kvs' (.inr nm) = some (((i.drop a).take t).tops.map .str) := by rw [val, if_neg non, if_pos rfl, et]
  have vx : ∀ n : Str, (n = "" ∨ n ∈ w.names) → n ≠ over → ∀ xs, lkD kvs (.inr n) = some xs → lkD kvs' (.inr n) = some xs := fun n hn no xs e => by
    have nnm : n ≠ nm := by
      rintro rfl
      rcases hn with z | z
      · exact nm_ne inm z
      · exact nin z
    rw [val, if_neg no, if_neg nnm]
    exact e
  refine ⟨fun q hq => ?_, by have := h.pos; omega, by have := h.len; omega, ?_, ?_, pm.nodup_iff.mpr (List.nodup_cons.mpr ⟨nin, h.nd⟩), fun n hn => ?_⟩
  · rcases keys q hq with e | ⟨p, hp, e⟩
    · exact ⟨nm, e, .inr (pm.mem_iff.mpr List.mem_cons_self)⟩
    · obtain ⟨k, ek, hk⟩ := h.ks p hp
      exact ⟨k, by rw [← e]; exact ek, hk.imp id fun z => pm.mem_iff.mpr (List.mem_cons_of_mem _ z)⟩
  · unfold Wd.put
    unfold Wd.inn at hin
    by_cases c : over = ""
    · rw [if_pos c] at hin ⊢
      cases hin
      rw [← c]
      exact vo
    · rw [if_neg c]
      rw [Wd.tops_upd]
      exact vx "" (.inl rfl) (Ne.symm c) _ h.top
  · unfold Wd.put
    unfold Wd.inn at hin
    by_cases c : over = ""
    · rw [if_pos c] at hin ⊢
      cases hin
      exact KWl.grp (h.kw.mono fun n hn => vx n (.inr hn) (by rw [c]; rintro rfl; exact e0 hn)) vn
    · rw [if_neg c] at hin ⊢
      exact KWl.upd h.nd (fun n hn => vx n (.inr hn)) (fun j hj => by
        rw [hin] at hj
        cases hj
        exact ⟨vo, vn⟩) h.kw
  · rcases List.mem_cons.mp (pm.mem_iff.mp hn) with rfl | z
    · exact inm
    · exact h.nm n z
theorem tup_data : ∀ w : Wd, tupAll w.data = true
  | .nil => rfl
  | .cons n i r => by
    show ((true && (tupAll i.data && true)) && tupAll r.data) = true
    rw [tup_data i, tup_data r]
    rfl
end Tw

namespace Tw
open PySem PySem.Spec PyProof.Rows L2
theorem cutD_mid {α : Type} (zs : List α) (a t : Nat) : cutD zs (some (a : Int)) (some ((a : Int) + (t : Int))) = (zs.drop a).take t := by
  unfold cutD
  rw [show (a : Int) + (t : Int) = ((a + t : Nat) : Int) by omega, HT.sIx_nat, HT.sIx_nat]
  by_cases h : a ≤ zs.length
  · rw [Nat.min_eq_left h]
    by_cases h2 : a + t ≤ zs.length
    · rw [Nat.min_eq_left h2, Nat.add_sub_cancel_left]
    · rw [Nat.min_eq_right (by omega), List.take_of_length_le (by rw [List.length_drop]; omega), List.take_of_length_le (by rw [List.length_drop]; omega)]
  · rw [Nat.min_eq_right (by omega : zs.length ≤ a + t), Nat.min_eq_right (by omega : zs.length ≤ a), List.drop_of_length_le (Nat.le_refl _), List.drop_of_length_le (by omega)]
    simp
theorem cutD_to {α : Type} (zs : List α) (a : Nat) : cutD zs none (some (a : Int)) = zs.take a := by
  unfold cutD
  rw [HT.sIx_nat, HT.sIx_none, List.drop_zero, Nat.sub_zero]
  by_cases h : a ≤ zs.length
  · rw [Nat.min_eq_left h]
  · rw [Nat.min_eq_right (by omega), List.take_of_length_le (Nat.le_refl _), List.take_of_length_le (by omega)]
theorem cutD_from {α : Type} (zs : List α) (a : Nat) : cutD zs (some (a : Int)) none = zs.drop a := by
  unfold cutD
  rw [HT.sIx_nat, HT.sIx_none]
  by_cases h : a ≤ zs.length
  · rw [Nat.min_eq_left h]
    exact List.take_of_length_le (by rw [List.length_drop]; omega)
  · rw [Nat.min_eq_right (by omega), List.drop_of_length_le (Nat.le_refl _), List.drop_of_length_le (by omega)]
    simp
theorem cutD_from2 {α : Type} (zs : List α) (a t : Nat) : cutD zs (some ((a : Int) + (t : Int))) none = (zs.drop a).drop t := by
  rw [show (a : Int) + (t : Int) = ((a + t : Nat) : Int) by omega, cutD_from, List.drop_drop]
theorem Kt.flat {kvs : List (Key × List Dt)} {w : Wd} (h : Kt kvs w) : (kvs.all fun q => flatD (kD q.1)) = true := by
  refine List.all_eq_true.mpr fun q hq => ?_
  obtain ⟨k, e, hk⟩ := h.ks q hq
  rw [e]
  refine decide_eq_true (big ?_)
  rcases hk with rfl | hk
  · have e0 : ("" : Str).length = 0 := by decide +kernel
    omega
  · have := nm_len (h.nm _ hk)
    omega
theorem cm_l2 {i j : Int} (h0 : 0 ≤ i) (h1 : i < 1000) : CMul i j := cm_l (by omega)
def wE (m g c : Int) (ns : List Str) (kvs : List (Key × List Dt)) (y3 y4 y5 y6 y7 : Option A) : Env := [some (.io (Dkv g m c)), some (.d (.list (ns.map .str))), some (.own (.dl kvs)), y3, y4, y5, y6, y7]
def ND4 (y3 y4 y5 y7 : Option A) : Prop := (y3 = none ∧ y4 = none ∧ y5 = none ∧ y7 = none) ∨ ∃ a b c d, y3 = some (.d a) ∧ y4 = some (.d b) ∧ y5 = some (.d c) ∧ y7 = some (.d d)
theorem wood_ok (g m c : Int) (ns : List Str) (hnd : ns.Nodup) (hnm : ∀ z ∈ ns, IsNm z) (hl : ns.length ≤ 50) : ∃ (w : Wd) (g' c' : Int), w.names.Perm ns ∧ f_woodL [.io (Dkv g m c), .d (.list (ns.map .str))] = .ok (.d (.tuple w.data)) [.io (Dkv g' m c'), .d (.list (ns.map .str))] := by
  suffices h : DOk (fun r ios => ∃ (w : Wd) (g' c' : Int), w.names.Perm ns ∧ r = .d (.tuple w.data) ∧ ios = [.io (Dkv g' m c'), .d (.list (ns.map .str))]) (f_woodL [.io (Dkv g m c), .d (.list (ns.map .str))]) by
    obtain ⟨a, ios, e, w, g', c', h1, rfl, rfl⟩ := h.ex
    exact ⟨_, _, _, h1, e⟩
  refine run_ok ?_
  unfold m_woodL
  rw [fp_seq]
  have s0 : (0 : Nat) ≤ sizeLine := Nat.zero_le _
  refine fp_conseq (fun e => e = wE m g c ns [(.inr "", [])] none none none none none) (by simp! [wE]) ?_
  rintro _ rfl
  rw [sq_ap, fp_seq]
  refine fp_for (fun r e => ∃ (g' c' : Int) (kvs : List (Key × List Dt)) (w : Wd) (rest : List Str) (y3 y4 y5 y7 : Option A), e = wE m g' c' ns kvs y3 y4 y5 none y7 ∧ ND4 y3 y4 y5 y7 ∧ Kt kvs w ∧ r = rest.map .str ∧ (w.names ++ rest).Perm ns)
    (as := [.d (.list (ns.map .str))]) (rd := fun _ => some (ns.map .str)) (xs := ns.map .str) (e := wE m g c ns [(.inr "", [])] none none none none none) ?_ ?_ ?_ ?_ ?_
  · simp! [wE]
  · refine ⟨g, c, _, .nil, ns, _, _, _, _, rfl, .inl ⟨rfl, rfl, rfl, rfl⟩, ⟨fun q hq => ?_, by simp, by simp, rfl, trivial, List.nodup_nil, (fun _ h => nomatch h)⟩, rfl, List.Perm.refl _⟩
    rcases List.mem_cons.mp hq with rfl | hq
    · exact ⟨"", rfl, .inl rfl⟩
    · cases hq
  · exact fun _ _ _ => rfl
  · rintro x r e ⟨g', c', kvs, w, rest, y3, y4, y5, y7, rfl, hy, hK, hr, hP⟩
    cases rest with
    | nil => cases hr
    | cons nm rest =>
      have hr' : x :: r = .str nm :: rest.map .str := hr
      injection hr' with e1 e2
      subst e1 e2
      have hnd2 : (w.names ++ nm :: rest).Nodup := hP.nodup_iff.mpr hnd
      have nin : nm ∉ w.names := fun h => (List.nodup_append.mp hnd2).2.2 _ h _ List.mem_cons_self rfl
      have inm : IsNm nm := hnm nm (hP.mem_iff.mp (List.mem_append_right _ List.mem_cons_self))
      have lw : w.size + (rest.length + 1) ≤ 50 := by
        have := hP.length_eq
        rw [List.length_append, List.length_cons, Wd.size_names] at this
        omega
      have hkl := hK.len
      have hkp := hK.pos
      have hfl := hK.flat
      refine ⟨wE m g' c' ns kvs (some (.d (.str nm))) y4 y5 none y7, ?_, ?_⟩
      · rcases hy with ⟨rfl, rfl, rfl, rfl⟩ | ⟨_, _, _, _, rfl, rfl, rfl, rfl⟩ <;> simp! [wE]
      · -- over
        rw [fp_seq]
        obtain ⟨r1, g1, c1, q1, r10, r11⟩ := draw_ok g' m c' kvs.length (by omega) (by omega)
        obtain ⟨p1, rfl⟩ : ∃ p1 : Nat, r1 = p1 := ⟨r1.toNat, by omega⟩
        have hp1 : p1 < kvs.length := by omega
        obtain ⟨over, eover, hover⟩ := hK.ks kvs[p1] (List.getElem_mem hp1)
        have at1 : atI (kvs.map fun q => kD q.1) (p1 : Int) = some (.str over) := atI_nat (by
          rw [List.getElem?_map, List.getElem?_eq_getElem hp1]
          show some (kD kvs[p1].1) = _
          rw [eover]
          rfl)
        refine fp_conseq (fun e => e = wE m g1 c1 ns kvs (some (.d (.str nm))) (some (.d (.str over))) y5 none y7) (by
          rcases hy with ⟨rfl, rfl, rfl, rfl⟩ | ⟨_, _, _, _, rfl, rfl, rfl, rfl⟩ <;> simp! [wE, hfl, q1, at1]) ?_
        rintro _ rfl
        -- at
        obtain ⟨j, hin, hov⟩ := hK.at hover
        have js := Wd.inn_size hin
        have jl := Wd.tops_le j
        rw [sq_ap, fp_seq]
        obtain ⟨r2, g2, c2, q2, r20, r21⟩ := draw_ok g1 m c1 (j.tops.length + 1) (by omega) (by omega)
        obtain ⟨p2, rfl⟩ : ∃ p2 : Nat, r2 = p2 := ⟨r2.toNat, by omega⟩
        have hfi : flatD (.str over) = true := by
          have := List.all_eq_true.mp hfl _ (List.getElem_mem hp1)
          rw [eover] at this
          exact this
        refine fp_conseq (fun e => e = wE m g2 c2 ns kvs (some (.d (.str nm))) (some (.d (.str over))) (some (.d (.int p2))) none y7) (by
          rcases hy with ⟨rfl, rfl, rfl, rfl⟩ | ⟨_, _, _, _, rfl, rfl, rfl, rfl⟩ <;> simp! [wE, hov, q2]) ?_
        rintro _ rfl
        -- some
        rw [sq_ap, fp_seq]
        refine fp_conseq (fun e => e = wE m g2 c2 ns kvs (some (.d (.str nm))) (some (.d (.str over))) (some (.d (.int p2))) (some (.rf 2 (some (.inr over)))) y7) (by
          rcases hy with ⟨rfl, rfl, rfl, rfl⟩ | ⟨_, _, _, _, rfl, rfl, rfl, rfl⟩ <;> simp! [wE, hov]) ?_
        rintro _ rfl
        -- take
        rw [sq_ap, fp_seq]
        obtain ⟨r3, g3, c3, q3, r30, r31⟩ := draw_ok g2 m c2 4 (by decide) (by decide)
        obtain ⟨r4, g4, c4, q4, r40, r41⟩ := draw_ok g3 m c3 (j.tops.length - p2 + 1) (by omega) (by omega)
        obtain ⟨t, et, ht⟩ : ∃ t : Nat, r3 / 3 * r4 = (t : Int) ∧ t + p2 ≤ j.tops.length := by
          have : r3 / 3 = 0 ∨ r3 / 3 = 1 := by omega
          rcases this with z | z
          · exact ⟨0, by rw [z]; omega, by omega⟩
          · exact ⟨r4.toNat, by rw [z]; omega, by omega⟩
        have cm : CMul (r3 / 3) r4 := cm_l2 (by omega) (by omega)
        refine fp_conseq (fun e => e = wE m g4 c4 ns kvs (some (.d (.str nm))) (some (.d (.str over))) (some (.d (.int p2))) (some (.rf 2 (some (.inr over)))) (some (.d (.int t)))) (by
          rcases hy with ⟨rfl, rfl, rfl, rfl⟩ | ⟨_, _, _, _, rfl, rfl, rfl, rfl⟩ <;> simp! [wE, hov, q3, q4, cm, et]) ?_
        rintro _ rfl
        clear hy
        -- kids[name]
        have non : ¬ over = nm := by
          rintro rfl
          rcases hover with e | e
          · exact nm_ne inm e
          · exact nin e
        have hks : kvs.length < sizeLine := big' (by omega)
        rw [sq_ap, fp_seq]
        have cm1 := cutD_mid (j.tops.map PyData.str) p2 t
        refine fp_conseq (fun e => e = wE m g4 c4 ns (putD kvs (.inr nm) (((j.tops.map PyData.str).drop p2).take t)) (some (.d (.str nm))) (some (.d (.str over))) (some (.d (.int p2))) (some (.rf 2 (some (.inr over)))) (some (.d (.int t)))) (by
          simp! [wE, wipeK, hov, hks, cm1, non]) ?_
        rintro _ rfl
        -- kids[over]
        have hov2 : lkD (putD kvs (.inr nm) (((j.tops.map PyData.str).drop p2).take t)) (.inr over) = some (j.tops.map .str) := by
          rw [lkD_put, if_neg (fun z => non (Sum.inr.inj z))]
          exact hov
        have hl3 := putD_len (kvs := kvs) (k := .inr nm) (v := ((j.tops.map PyData.str).drop p2).take t)
        have hks2 : (putD kvs (.inr nm) (((j.tops.map PyData.str).drop p2).take t)).length < sizeLine := big' (by omega)
        have cm2 := cutD_to (j.tops.map PyData.str) p2
        have cm3 := cutD_from2 (j.tops.map PyData.str) p2 t
        have s1 : 1 ≤ sizeLine := big (by decide)
        have z1 : ((j.tops.map PyData.str).take p2).length + 1 ≤ sizeLine := big (by simp; omega)
        have z2 : ((j.tops.map PyData.str).take p2).length + 1 + (((j.tops.map PyData.str).drop p2).drop t).length ≤ sizeLine := big (by simp; omega)
        have hval : ∀ k : Str, lkD (putD (putD kvs (.inr nm) (((j.tops.map PyData.str).drop p2).take t)) (.inr over) ((j.tops.map PyData.str).take p2 ++ [.str nm] ++ ((j.tops.map PyData.str).drop p2).drop t)) (.inr k) = if k = over then some ((j.tops.take p2 ++ nm :: (j.tops.drop p2).drop t).map .str) else if k = nm then some (((j.tops.drop p2).take t).map .str) else lkD kvs (.inr k) := fun k => by
          rw [lkD_put, lkD_put]
          by_cases c1 : k = over
          · rw [if_pos c1, if_pos (by rw [c1])]
            simp
          · rw [if_neg c1, if_neg (fun z => c1 (Sum.inr.inj z))]
            by_cases c2 : k = nm
            · rw [if_pos c2, if_pos (by rw [c2])]
              simp
            · rw [if_neg c2, if_neg (fun z => c2 (Sum.inr.inj z))]
        have hkeys : ∀ q ∈ putD (putD kvs (.inr nm) (((j.tops.map PyData.str).drop p2).take t)) (.inr over) ((j.tops.map PyData.str).take p2 ++ [.str nm] ++ ((j.tops.map PyData.str).drop p2).drop t), q.1 = .inr nm ∨ ∃ p ∈ kvs, p.1 = q.1 := fun q hq => by
          rcases putD_keys hq with e | ⟨p, hp, e⟩
          · rw [e]
            exact .inr (lkD_mem hov)
          · rcases putD_keys hp with e' | ⟨p', hp', e'⟩
            · exact .inl (e.symm.trans e')
            · exact .inr ⟨p', hp', e'.trans e⟩
        have hl4 := putD_len_old (v := (j.tops.map PyData.str).take p2 ++ [.str nm] ++ ((j.tops.map PyData.str).drop p2).drop t) hov2
        have hK2 := hK.step (a := p2) (t := t) inm nin hover hin hval hkeys (by omega) (by omega)
        generalize ((j.tops.map PyData.str).drop p2).take t = L1 at *
        generalize ((j.tops.map PyData.str).drop p2).drop t = L3 at *
        generalize (j.tops.map PyData.str).take p2 = L2 at *
        have z2' : (L2 ++ [PyData.str nm]).length + L3.length ≤ sizeLine := by
          rw [List.length_append]
          exact z2
        rw [sq_ap]
        refine fp_conseq (fun e => e = wE m g4 c4 ns (putD (putD kvs (.inr nm) L1) (.inr over) (L2 ++ [.str nm] ++ L3)) (some (.d (.str nm))) (some (.d (.str over))) (some (.d (.int p2))) none (some (.d (.int t)))) (by
          simp! [wE, wipeK, hov2, hks2, cm2, cm3, s1, z1, z2, z2']) ?_
        rintro _ rfl
        refine ⟨g4, c4, _, _, rest, _, _, _, _, rfl, .inr ⟨_, _, _, _, rfl, rfl, rfl, rfl⟩, hK2, rfl, ?_⟩
        have pm := Wd.names_put (a := p2) (t := t) (nm := nm) hK.nd hover
        exact ((pm.append_right rest).trans (List.perm_middle.symm)).trans hP
  · rintro e ⟨g', c', kvs, w, rest, y3, y4, y5, y7, rfl, hy, hK, hr, hP⟩
    cases rest with
    | cons _ _ => cases hr
    | nil =>
      rw [List.append_nil] at hP
      have dl := w.dep_le
      rw [hP.length_eq] at dl
      have sl : w.size = ns.length := by rw [← Wd.size_names, hP.length_eq]
      have hw := wood_of_ok (kvs.map fun q => (kD q.1, .list q.2)) 150 w "" (by omega) (by omega) hK.kw.toD (by rw [lkDD_map (f := PyData.list), hK.top]; rfl)
      have ht := tup_data w
      rw [sq_ap]
      rcases hy with ⟨rfl, rfl, rfl, rfl⟩ | ⟨_, _, _, _, rfl, rfl, rfl, rfl⟩ <;> simp! [wE, hw, ht, EndR] <;> exact ⟨w, hP, rfl⟩
end Tw

namespace Tw
open PySem PySem.Spec PyProof.Rows L2
/-! ### the dict of depths -/
def DWl (dk : List (Key × Dt)) (T : Nat) : Nat → Wd → Prop
  | _, .nil => True
  | e, .cons n i r => lkD dk (.inr n) = some (.int ((e + 1 : Nat) : Int)) ∧ e + 1 ≤ T ∧ DWl dk T (e + 1) i ∧ DWl dk T e r
section
variable {dk dk' : List (Key × Dt)} {T : Nat}
theorem DWl.mono : ∀ {w : Wd} {e : Nat}, (∀ n ∈ w.names, ∀ v, lkD dk (.inr n) = some v → lkD dk' (.inr n) = some v) → DWl dk T e w → DWl dk' T e w
  | .nil, _, _, _ => trivial
  | .cons n i r, e, k, ⟨h1, h2, hi, hr⟩ => ⟨k n List.mem_cons_self _ h1, h2, hi.mono fun m hm => k m (List.mem_cons_of_mem _ (List.mem_append_left _ hm)), hr.mono fun m hm => k m (List.mem_cons_of_mem _ (List.mem_append_right _ hm))⟩
theorem DWl.app : ∀ {u v : Wd} {e : Nat}, DWl dk T e u → DWl dk T e v → DWl dk T e (u.app v)
  | .nil, _, _, _, h => h
  | .cons _ _ _, _, _, ⟨h1, h2, h3, h4⟩, h => ⟨h1, h2, h3, h4.app h⟩
theorem DWl.take : ∀ {k : Nat} {w : Wd} {e : Nat}, DWl dk T e w → DWl dk T e (w.take k)
  | 0, _, _, _ => trivial
  | _ + 1, .nil, _, _ => trivial
  | k + 1, .cons _ _ _, _, ⟨h1, h2, h3, h4⟩ => ⟨h1, h2, h3, h4.take⟩
theorem DWl.drop : ∀ {k : Nat} {w : Wd} {e : Nat}, DWl dk T e w → DWl dk T e (w.drop k)
  | 0, _, _, h => h
  | _ + 1, .nil, _, _ => trivial
  | k + 1, .cons _ _ _, _, ⟨_, _, _, h4⟩ => DWl.drop (k := k) h4
theorem DWl.leaf {a e : Nat} {nm : Str} {w : Wd} (h : DWl dk T e w) (hn : lkD dk (.inr nm) = some (.int ((e + 1 : Nat) : Int))) (hT : e + 1 ≤ T) : DWl dk T e (w.grp a 0 nm) :=
  h.take.app ⟨hn, hT, trivial, h.drop.drop⟩
theorem DWl.at : ∀ {w : Wd} {k : Str} {e : Nat}, DWl dk T e w → k ∈ w.names → ∃ f : Nat, lkD dk (.inr k) = some (.int (f : Int)) ∧ f ≤ T
  | .nil, _, _, _, h => by cases h
  | .cons n i r, k, e, ⟨h1, h2, hi, hr⟩, h => by
    rcases List.mem_cons.mp h with z | z
    · subst z
      exact ⟨e + 1, h1, h2⟩
    · rcases List.mem_append.mp z with z | z
      · exact hi.at z
      · exact hr.at z
theorem DWl.upd {a : Nat} {nm k : Str} : ∀ {w : Wd} {e : Nat}, w.names.Nodup → (∀ n ∈ w.names, ∀ v, lkD dk (.inr n) = some v → lkD dk' (.inr n) = some v) →
    (∀ f : Nat, lkD dk (.inr k) = some (.int (f : Int)) → lkD dk' (.inr nm) = some (.int ((f + 1 : Nat) : Int)) ∧ f + 1 ≤ T) → DWl dk T e w → DWl dk' T e (w.upd k (Wd.grp a 0 nm))
  | .nil, _, _, _, _, _ => trivial
  | .cons n i r, e, nd, m, hk, ⟨h1, h2, hi, hr⟩ => by
    have nd' : (n :: (i.names ++ r.names)).Nodup := nd
    rw [List.nodup_cons] at nd'
    have nda := List.nodup_append.mp nd'.2
    have mi : ∀ x ∈ i.names, ∀ v, lkD dk (.inr x) = some v → lkD dk' (.inr x) = some v := fun x hx => m x (List.mem_cons_of_mem _ (List.mem_append_left _ hx))
    have mr : ∀ x ∈ r.names, ∀ v, lkD dk (.inr x) = some v → lkD dk' (.inr x) = some v := fun x hx => m x (List.mem_cons_of_mem _ (List.mem_append_right _ hx))
    show DWl dk' T e (if n = k then .cons n (i.grp a 0 nm) r else .cons n (i.upd k (Wd.grp a 0 nm)) (r.upd k (Wd.grp a 0 nm)))
    by_cases c : n = k
    · subst c
      rw [if_pos rfl]
      obtain ⟨g1, g2⟩ := hk _ h1
      exact ⟨m n List.mem_cons_self _ h1, h2, (hi.mono mi).leaf g1 g2, hr.mono mr⟩
    · rw [if_neg c]
      exact ⟨m n List.mem_cons_self _ h1, h2, DWl.upd nda.1 mi hk hi, DWl.upd nda.2.1 mr hk hr⟩
theorem DWl.dep : ∀ {w : Wd} {e : Nat}, DWl dk T e w → w.dep + e ≤ max T e
  | .nil, e, _ => by
    show 0 + e ≤ max T e
    omega
  | .cons n i r, e, ⟨_, h2, hi, hr⟩ => by
    have q1 := hi.dep
    have q2 := hr.dep
    show max (i.dep + 1) r.dep + e ≤ max T e
    omega
end
structure Tt (dk : List (Key × Dt)) (T : Nat) (w : Wd) : Prop where
  top : lkD dk (.inr "") = some (.int 0)
  dw : DWl dk T 0 w
  len : dk.length ≤ w.size + 1
theorem Tt.at {dk : List (Key × Dt)} {T : Nat} {w : Wd} {k : Str} (h : Tt dk T w) (hk : k = "" ∨ k ∈ w.names) : ∃ f : Nat, lkD dk (.inr k) = some (.int (f : Int)) ∧ f ≤ T := by
  rcases hk with rfl | hk
  · exact ⟨0, h.top, Nat.zero_le _⟩
  · exact h.dw.at hk
theorem Tt.step {dk : List (Key × Dt)} {T f a : Nat} {w : Wd} {nm over : Str} (h : Tt dk T w) (nd : w.names.Nodup) (inm : IsNm nm) (nin : nm ∉ w.names) (hover : over = "" ∨ over ∈ w.names) (hf : lkD dk (.inr over) = some (.int (f : Int))) (hT : f + 1 ≤ T) :
    Tt (putD dk (.inr nm) (.int ((f : Int) + 1))) T (w.put over a 0 nm) := by
  have pm := Wd.names_put (a := a) (t := 0) (nm := nm) nd hover
  have n0 : ("" : Str) ≠ nm := fun e => nm_ne inm e.symm
  have vn : lkD (putD dk (.inr nm) (.int ((f : Int) + 1))) (.inr nm) = some (.int ((f + 1 : Nat) : Int)) := by
    rw [lkD_put, if_pos rfl]
    rfl
  have vx : ∀ n ∈ w.names, ∀ v, lkD dk (.inr n) = some v → lkD (putD dk (.inr nm) (.int ((f : Int) + 1))) (.inr n) = some v := fun n hn v e => by
    rw [lkD_put, if_neg (fun z => nin (by rw [← Sum.inr.inj z]; exact hn))]
    exact e
  refine ⟨by rw [lkD_put, if_neg (fun z => n0 (Sum.inr.inj z))]; exact h.top, ?_, ?_⟩
  · unfold Wd.put
    by_cases c : over = ""
    · rw [if_pos c]
      have f0 : f = 0 := by
        rw [c, h.top] at hf
        have := PyData.int.inj (Option.some.inj hf)
        omega
      subst f0
      exact (h.dw.mono vx).leaf vn hT
    · rw [if_neg c]
      refine DWl.upd nd vx (fun f' e => ?_) h.dw
      rw [hf] at e
      have : f = f' := by
        have := PyData.int.inj (Option.some.inj e)
        omega
      subst this
      exact ⟨vn, hT⟩
  · have p1 := (putD_len (kvs := dk) (k := .inr nm) (v := .int ((f : Int) + 1))).1
    have p3 := h.len
    have p4 := pm.length_eq
    rw [List.length_cons, Wd.size_names, Wd.size_names] at p4
    omega
end Tw

namespace Tw
open PySem PySem.Spec PyProof.Rows L2
theorem lkD_setF {α : Type} (k : Key) (y : α) (k' : Key) : ∀ kvs : List (Key × α), lkD (setF kvs k y) k' = if k' = k then (lkD kvs k').map (fun _ => y) else lkD kvs k'
  | [] => by simp [setF, lkD_nil]
  | (a, x) :: r => by
    have ih := lkD_setF k y k' r
    by_cases c : a = k
    · subst c
      simp only [setF, if_true]
      rw [lkD_cons, lkD_cons]
      by_cases d : k' = a
      · simp [d]
      · have d' : ¬ a = k' := fun e => d e.symm
        simp [d, d']
    · simp only [setF, c, if_false]
      rw [lkD_cons, lkD_cons, ih]
      by_cases d : k' = k
      · subst d
        simp [c]
      · simp [d]
theorem setF_keys {α : Type} {k : Key} {y : α} : ∀ {kvs : List (Key × α)} {q : Key × α}, q ∈ setF kvs k y → ∃ p ∈ kvs, p.1 = q.1
  | (a, x) :: r, q, h => by
    by_cases c : a = k
    · simp only [setF, c, if_true] at h
      rcases List.mem_cons.mp h with rfl | h
      · exact ⟨_, List.mem_cons_self, c⟩
      · exact ⟨q, List.mem_cons_of_mem _ h, rfl⟩
    · simp only [setF, c, if_false] at h
      rcases List.mem_cons.mp h with rfl | h
      · exact ⟨_, List.mem_cons_self, rfl⟩
      · obtain ⟨p, hp, e⟩ := setF_keys h
        exact ⟨p, List.mem_cons_of_mem _ hp, e⟩
theorem setF_len {α : Type} (k : Key) (y : α) : ∀ kvs : List (Key × α), (setF kvs k y).length = kvs.length
  | [] => rfl
  | (a, x) :: r => by
    by_cases c : a = k
    · simp [setF, c]
    · simp [setF, c, setF_len k y r]
def tE (m g c : Int) (ns : List Str) (T : Nat) (kvs : List (Key × List Dt)) (dk : List (Key × Dt)) (over : Str) (y6 y7 y8 y9 : Option A) : Env := [some (.io (Dkv g m c)), some (.d (.list (ns.map .str))), some (.d (.int T)), some (.own (.dl kvs)), some (.own (.dc dk)), some (.d (.str over)), y6, y7, y8, y9, none]
def NT (y6 y7 y8 y9 : Option A) : Prop := (y6 = none ∧ y7 = none ∧ y8 = none ∧ y9 = none) ∨ ∃ (a b : Dt) (k : Str), y6 = some (.d a) ∧ y7 = some (.d b) ∧ y9 = some (.rf 3 (some (.inr k))) ∧ (y8 = none ∨ ∃ xs : List Dt, y8 = some (.own (.l xs)))
def lowD (dk : List (Key × Dt)) (T : Nat) (k : Str) : Bool := match lkD dk (.inr k) with
  | some (.int f) => decide (f < (T : Int))
  | _ => false
theorem tall_some {m g c : Int} {ns : List Str} {T : Nat} {kvs : List (Key × List Dt)} {dk : List (Key × Dt)} {over : Str} {a b : Dt} {y8 y9 : Option A} {te : List A} {w : Wd} (hK : Kt kvs w) (hT : Tt dk T w) (h1 : 1 ≤ T) (hs : w.size ≤ 10000) (h9 : y9 = none ∨ ∃ k : Str, y9 = some (.rf 3 (some (.inr k))) ∧ ∃ xs, lkD kvs (.inr k) = some xs) (h8 : y8 = none ∨ ∃ xs : List Dt, y8 = some (.own (.l xs))) :
    ∃ ks : List Str, ks ≠ [] ∧ ks.length ≤ 10001 ∧ (∀ k ∈ ks, (k = "" ∨ k ∈ w.names) ∧ ∃ f : Nat, lkD dk (.inr k) = some (.int f) ∧ f < T) ∧
    mPureL 3 (mLc .d (mKI 3) (gN 10) (mTst (mOp (fl2 ltD) (mOp dgA (mVar 4) (mVar 10)) (mVar 2))) (mD (mVar 10)) [10]) (tE m g c ns T kvs dk over (some (.d a)) (some (.d b)) y8 y9) te = .ok (.own (.l (ks.map .str))) (tE m g c ns T kvs dk over (some (.d a)) (some (.d b)) y8 y9) := by
  obtain ⟨KS, hKS⟩ : ∃ KS : List Str, kvs.map (·.1) = KS.map Sum.inr := by
    have h := hK.ks
    clear hK hT h9
    induction kvs with
    | nil => exact ⟨[], rfl⟩
    | cons q r ih =>
      obtain ⟨k, e, _⟩ := h q List.mem_cons_self
      obtain ⟨KS, e2⟩ := ih fun x hx => h x (List.mem_cons_of_mem _ hx)
      exact ⟨k :: KS, by rw [List.map_cons, List.map_cons, e, e2]⟩
  have hmem : ∀ k, k ∈ KS → (k = "" ∨ k ∈ w.names) := fun k hk => by
    have : (Sum.inr k : Key) ∈ kvs.map (·.1) := by rw [hKS]; exact List.mem_map_of_mem hk
    obtain ⟨q, hq, e⟩ := List.mem_map.mp this
    obtain ⟨k', e', h'⟩ := hK.ks q hq
    have : k = k' := Sum.inr.inj (e.symm.trans e')
    rw [this]
    exact h'
  have h0 : ("" : Str) ∈ KS := by
    obtain ⟨q, hq, e⟩ := lkD_mem hK.top
    have : q.1 ∈ kvs.map (·.1) := List.mem_map_of_mem hq
    rw [hKS, e] at this
    obtain ⟨k, hk, e⟩ := List.mem_map.mp this
    rw [← Sum.inr.inj e]
    exact hk
  have hlen : KS.length = kvs.length := by
    have := congrArg List.length hKS
    rw [List.length_map, List.length_map] at this
    exact this.symm
  have hkl := hK.len
  have hxs : (kvs.map fun q => ((kD q.1, PyData.list q.2) : Dt × Dt)).map (·.1) = KS.map .str := by
    rw [List.map_map]
    have : (fun q : Key × List Dt => kD q.1) = kD ∘ (·.1) := rfl
    show kvs.map (fun q => kD q.1) = _
    rw [this, ← List.map_map, hKS, List.map_map]
    rfl
  have hfl : ((kvs.map fun q => ((kD q.1, PyData.list q.2) : Dt × Dt)).all fun q => flatD q.1) = true := by
    rw [List.all_map]
    exact hK.flat
  refine ⟨KS.filter (lowD dk T), ?_, ?_, ?_, ?_⟩
  · intro e
    have : ("" : Str) ∈ KS.filter (lowD dk T) := List.mem_filter.mpr ⟨h0, by unfold lowD; rw [hT.top]; simp; omega⟩
    rw [e] at this
    cases this
  · have := List.length_filter_le (lowD dk T) KS
    omega
  · intro k hk
    obtain ⟨hk1, hk2⟩ := List.mem_filter.mp hk
    refine ⟨hmem k hk1, ?_⟩
    obtain ⟨f, e, _⟩ := hT.at (hmem k hk1)
    refine ⟨f, e, ?_⟩
    unfold lowD at hk2
    rw [e] at hk2
    have := of_decide_eq_true hk2
    omega
  · generalize hD : (kvs.map fun q => ((kD q.1, PyData.list q.2) : Dt × Dt)) = D at *
    obtain ⟨v8, v9, hv⟩ : ∃ v8 v9 : Option A, viewK (tE m g c ns T kvs dk over (some (.d a)) (some (.d b)) y8 y9) 3 = [some (.d (.list [.int g, .int m, .int c])), some (.d (.list (ns.map .str))), some (.d (.int T)), some (.lk D), some (.d (.dict (dk.map fun q => (kD q.1, q.2)))), some (.d (.str over)), some (.d a), some (.d b), v8, v9, none] ∧ (v8 = none ∨ ∃ x, v8 = some (.d x)) ∧ (v9 = none ∨ ∃ x, v9 = some (.d x)) := by
      rcases h8 with rfl | ⟨xs, rfl⟩ <;> rcases h9 with rfl | ⟨k, rfl, xs', hk⟩
      · exact ⟨none, none, by simp [viewK, viewE, viewA, tE, Ow.dt, hD], .inl rfl, .inl rfl⟩
      · exact ⟨none, some (.d (.list xs')), by simp [viewK, viewE, viewA, tE, Ow.dt, hD, A.val, A.ow, owAt, Ow.sub, hk], .inl rfl, .inr ⟨_, rfl⟩⟩
      · exact ⟨some (.d (.list xs)), none, by simp [viewK, viewE, viewA, tE, Ow.dt, hD], .inr ⟨_, rfl⟩, .inl rfl⟩
      · exact ⟨some (.d (.list xs)), some (.d (.list xs')), by simp [viewK, viewE, viewA, tE, Ow.dt, hD, A.val, A.ow, owAt, Ow.sub, hk], .inr ⟨_, rfl⟩, .inr ⟨_, rfl⟩⟩
    obtain ⟨hv, hv8, hv9⟩ := hv
    have hdict : isDict (tE m g c ns T kvs dk over (some (.d a)) (some (.d b)) y8 y9) 3 = true := by simp [isDict, tE, owAt]
    have key : ∃ ys e', mLc .d (mKI 3) (gN 10) (mTst (mOp (fl2 ltD) (mOp dgA (mVar 4) (mVar 10)) (mVar 2))) (mD (mVar 10)) [10] (viewK (tE m g c ns T kvs dk over (some (.d a)) (some (.d b)) y8 y9) 3) [] = .ok (.own (.l ys)) e' ∧ ys = (KS.filter (lowD dk T)).map .str := by
      rw [hv]
      obtain ⟨ys, e', h1, done, rest, h2, h3, h4, h5⟩ := lc_ok (kd := .d) (mi := mKI 3) (g := gN 10) (tt := mTst (mOp (fl2 ltD) (mOp dgA (mVar 4) (mVar 10)) (mVar 2))) (el := mD (mVar 10)) (vs := [10]) (te := [])
        (env := [some (.d (.list [.int g, .int m, .int c])), some (.d (.list (ns.map .str))), some (.d (.int T)), some (.lk D), some (.d (.dict (dk.map fun q => (kD q.1, q.2)))), some (.d (.str over)), some (.d a), some (.d b), v8, v9, none])
        (e := [some (.d (.list [.int g, .int m, .int c])), some (.d (.list (ns.map .str))), some (.d (.int T)), some (.lk D), some (.d (.dict (dk.map fun q => (kD q.1, q.2)))), some (.d (.str over)), some (.d a), some (.d b), v8, v9, none])
        (as := [.lk D]) (rd := fun _ => some (KS.map .str)) (xs := KS.map .str)
        (fun rr acc e => ∃ done rest : List Str, KS = done ++ rest ∧ rr = rest.map .str ∧ acc = (done.filter (lowD dk T)).map .str ∧ e = [some (.d (.list [.int g, .int m, .int c])), some (.d (.list (ns.map .str))), some (.d (.int T)), some (.lk D), some (.d (.dict (dk.map fun q => (kD q.1, q.2)))), some (.d (.str over)), some (.d a), some (.d b), v8, v9, none])
        (by simp only [ev_mKI, List.getElem?_cons_succ, List.getElem?_cons_zero, hfl, if_true, hxs]) (by rcases hv8 with rfl | ⟨_, rfl⟩ <;> rcases hv9 with rfl | ⟨_, rfl⟩ <;> simp!) ⟨[], KS, rfl, rfl, rfl, by simp!⟩ (fun _ _ _ _ => rfl) (by
          rintro x rr acc e ⟨done, rest, h1, h2, h3, rfl⟩
          cases rest with
          | nil => cases h2
          | cons k rest =>
            have h2' : x :: rr = .str k :: rest.map .str := h2
            injection h2' with e1 e2
            subst e1 e2
            obtain ⟨f, ef, hf⟩ := hT.at (hmem k (by rw [h1]; exact List.mem_append_right _ List.mem_cons_self))
            have hk : lkDD (dk.map fun q => (kD q.1, q.2)) (.inr k) = some (.int (f : Int)) := by
              have := lkDD_map (f := id) (.inr k) dk
              rw [ef] at this
              exact this
            have hP : lowD dk T k = decide ((f : Int) < T) := by unfold lowD; rw [ef]
            have hal : acc.length < sizeLine := by
              rw [h3, List.length_map]
              have := List.length_filter_le (lowD dk T) done
              have : done.length ≤ KS.length := by rw [h1, List.length_append]; omega
              exact big' (by omega)
            refine ⟨[some (.d (.list [.int g, .int m, .int c])), some (.d (.list (ns.map .str))), some (.d (.int T)), some (.lk D), some (.d (.dict (dk.map fun q => (kD q.1, q.2)))), some (.d (.str over)), some (.d a), some (.d b), v8, v9, some (.d (.str k))], ?_, decide ((f : Int) < T), [some (.d (.list [.int g, .int m, .int c])), some (.d (.list (ns.map .str))), some (.d (.int T)), some (.lk D), some (.d (.dict (dk.map fun q => (kD q.1, q.2)))), some (.d (.str over)), some (.d a), some (.d b), v8, v9, some (.d (.str k))], ?_, fun hb => ⟨.str k, [some (.d (.list [.int g, .int m, .int c])), some (.d (.list (ns.map .str))), some (.d (.int T)), some (.lk D), some (.d (.dict (dk.map fun q => (kD q.1, q.2)))), some (.d (.str over)), some (.d a), some (.d b), v8, v9, some (.d (.str k))], ?_, hal, ?_, done ++ [k], rest, ?_, rfl, ?_, ?_⟩, fun hb => ⟨?_, done ++ [k], rest, ?_, rfl, ?_, ?_⟩⟩
            · rcases hv8 with rfl | ⟨_, rfl⟩ <;> rcases hv9 with rfl | ⟨_, rfl⟩ <;> simp!
            · simp! [hk]
            · simp!
            · rcases hv8 with rfl | ⟨_, rfl⟩ <;> rcases hv9 with rfl | ⟨_, rfl⟩ <;> simp!
            · rw [h1]; simp
            · rw [h3, List.filter_append, List.filter_cons, hP, if_pos hb]
              simp
            · simp!
            · rcases hv8 with rfl | ⟨_, rfl⟩ <;> rcases hv9 with rfl | ⟨_, rfl⟩ <;> simp!
            · rw [h1]; simp
            · rw [h3, List.filter_append, List.filter_cons, hP, if_neg (by rw [hb]; exact Bool.false_ne_true)]
              simp
            · simp!)
      refine ⟨ys, e', h1, ?_⟩
      cases rest with
      | cons _ _ => cases h3
      | nil =>
        rw [List.append_nil] at h2
        rw [h4, h2]
    obtain ⟨ys, e', hk, rfl⟩ := key
    have htup : tupAll ((KS.filter (lowD dk T)).map PyData.str) = true := by
      generalize KS.filter (lowD dk T) = l
      induction l with
      | nil => rfl
      | cons x r ih =>
        show (true && tupAll (r.map PyData.str)) = true
        rw [ih]
        rfl
    rw [ev_mPureL, if_pos hdict, hk]
    show (if tupAll ((KS.filter (lowD dk T)).map PyData.str) = true then _ else _) = _
    rw [if_pos htup]
end Tw

namespace Tw
open PySem PySem.Spec PyProof.Rows L2
theorem FP.mono_eq {N : Env → Prop} {R : A → Env → Prop} {f : Fl} {e : Env} (h : f = .nx e) (k : N e) : FP N R f := by
  rw [h]
  exact .nx k
theorem FP.ifT {N : Env → Prop} {R : A → Env → Prop} {c : MT} {a b : MS} {env e : Env} {te : List A} (h : c env te = .ok true e) (k : FP N R (a e te)) : FP N R (mIfS c a b env te) := by
  rw [ev_mIfS, h]
  exact k
theorem FP.asg {N : Env → Prop} {R : A → Env → Prop} {m : ME} {g : MG} {env e e' : Env} {te : List A} {a : A} (h : m env te = .ok a e) (hg : g a e te = some e') (k : N e') : FP N R (mAsg m g env te) := by
  refine FP.mono_eq (e := e') ?_ k
  rw [ev_mAsg, h]
  show (match g a e te with | some e' => Fl.nx e' | none => Fl.bad) = _
  rw [hg]
theorem intsD_get (n i : Nat) (h : i < n) : (intsD 0 n)[i]? = some (.int i) := by
  unfold intsD
  rw [List.getElem?_map, List.getElem?_range h]
  simp
theorem intsD_drop {n : Nat} {x : Dt} {r : List Dt} (h : x :: r = (intsD 0 n).drop (n - (r.length + 1))) : r.length + 1 ≤ n ∧ x = .int ((n - (r.length + 1) : Nat) : Int) ∧ r = (intsD 0 n).drop (n - r.length) := by
  have hl := congrArg List.length h
  rw [List.length_drop, intsD_len, List.length_cons] at hl
  have hle : r.length + 1 ≤ n := by omega
  have hlt : n - (r.length + 1) < n := by omega
  have hx := intsD_get n _ hlt
  rw [List.getElem?_eq_some_iff] at hx
  obtain ⟨h', e⟩ := hx
  rw [List.drop_eq_getElem_cons h', e] at h
  injection h with h1 h2
  refine ⟨hle, h1, ?_⟩
  rw [show n - r.length = n - (r.length + 1) + 1 by omega]
  exact h2
theorem tall_ok (g m c : Int) (ns : List Str) (T : Nat) (hnd : ns.Nodup) (hnm : ∀ z ∈ ns, IsNm z) (hl : ns.length ≤ 250) (hT1 : 1 ≤ T) (hT2 : T ≤ 105) : ∃ (w : Wd) (g' c' : Int), w.names.Perm ns ∧ w.dep ≤ T ∧ f_tall_woodL [.io (Dkv g m c), .d (.list (ns.map .str)), .d (.int T)] = .ok (.d (.tuple w.data)) [.io (Dkv g' m c'), .d (.list (ns.map .str)), .d (.int T)] := by
  suffices h : DOk (fun r ios => ∃ (w : Wd) (g' c' : Int), w.names.Perm ns ∧ w.dep ≤ T ∧ r = .d (.tuple w.data) ∧ ios = [.io (Dkv g' m c'), .d (.list (ns.map .str)), .d (.int T)]) (f_tall_woodL [.io (Dkv g m c), .d (.list (ns.map .str)), .d (.int T)]) by
    obtain ⟨a, ios, e, w, g', c', h1, h2, rfl, rfl⟩ := h.ex
    exact ⟨_, _, _, h1, h2, e⟩
  unfold f_tall_woodL
  refine run_ok ?_
  unfold m_tall_woodL
  rw [fp_seq]
  refine fp_conseq (fun e => e = [some (.io (Dkv g m c)), some (.d (.list (ns.map .str))), some (.d (.int T)), some (.own (.dl [(.inr "", [])])), some (.own (.dc [(.inr "", .int 0)])), none, none, none, none, none, none]) (by simp! [keyPs, mergeD, putD]) ?_
  rintro _ rfl
  rw [sq_ap, fp_seq]
  refine fp_conseq (fun e => e = tE m g c ns T [(.inr "", [])] [(.inr "", .int 0)] "" none none none none) (by simp! [tE]) ?_
  rintro _ rfl
  rw [sq_ap, fp_seq]
  refine fp_for (fun r e => ∃ (g' c' : Int) (kvs : List (Key × List Dt)) (dk : List (Key × Dt)) (w : Wd) (over : Str) (rest : List Str) (f : Nat) (y6 y7 y8 y9 : Option A), e = tE m g' c' ns T kvs dk over y6 y7 y8 y9 ∧ NT y6 y7 y8 y9 ∧ (∀ k : Str, y9 = some (.rf 3 (some (.inr k))) → ∃ xs, lkD kvs (.inr k) = some xs) ∧ Kt kvs w ∧ Tt dk T w ∧ r = (intsD 0 ns.length).drop (ns.length - r.length) ∧ r.length = rest.length ∧ rest = ns.drop (ns.length - r.length) ∧ (w.names ++ rest).Perm ns ∧ (over = "" ∨ over ∈ w.names) ∧ lkD dk (.inr over) = some (.int (f : Int)) ∧ f ≤ ns.length - r.length)
    (as := []) (rd := fun _ => some (intsD 0 ns.length)) (xs := intsD 0 ns.length) (e := tE m g c ns T [(.inr "", [])] [(.inr "", .int 0)] "" none none none none) ?_ ?_ ?_ ?_ ?_
  · exact rng1_nat (by omega) (by simp! [tE])
  · refine ⟨g, c, _, _, .nil, "", ns, 0, _, _, _, _, rfl, .inl ⟨rfl, rfl, rfl, rfl⟩, (fun k h => nomatch h), ⟨fun q hq => ?_, by simp, by simp, rfl, trivial, List.nodup_nil, (fun _ h => nomatch h)⟩, ⟨rfl, trivial, by simp⟩, ?_, ?_, ?_, List.Perm.refl _, .inl rfl, rfl, Nat.zero_le _⟩
    · rcases List.mem_cons.mp hq with rfl | hq
      · exact ⟨"", rfl, .inl rfl⟩
      · cases hq
    · rw [intsD_len, Nat.sub_self]
      rfl
    · rw [intsD_len]
    · rw [intsD_len, Nat.sub_self]
      rfl
  · exact fun _ _ _ => rfl
  · rintro x r e ⟨g', c', kvs, dk, w, over, rest, f, y6, y7, y8, y9, rfl, hy, hy9, hK, hT, hr, hrl, hrest, hP, hover, hf, hfk⟩
    rw [List.length_cons] at hr hrl hrest hfk
    obtain ⟨hle, rfl, hr2⟩ := intsD_drop hr
    obtain ⟨idx, hidx⟩ : ∃ idx, idx = ns.length - (r.length + 1) := ⟨_, rfl⟩
    rw [← hidx] at hfk hrest ⊢
    have hix : idx < ns.length := by omega
    obtain ⟨nm, hnmE⟩ : ∃ nm, ns[idx] = nm := ⟨_, rfl⟩
    have hnm' : ns[idx]? = some nm := by rw [← hnmE]; exact List.getElem?_eq_getElem hix
    have hrest2 : rest = nm :: ns.drop (idx + 1) := by rw [hrest, List.drop_eq_getElem_cons hix, hnmE]
    have hnext : ns.length - r.length = idx + 1 := by omega
    have hnd2 : (w.names ++ rest).Nodup := hP.nodup_iff.mpr hnd
    have nin : nm ∉ w.names := fun h => (List.nodup_append.mp hnd2).2.2 _ h _ (by rw [hrest2]; exact List.mem_cons_self) rfl
    have inm : IsNm nm := hnm nm (List.mem_of_getElem? hnm')
    have hws : w.size + rest.length = ns.length := by
      have := hP.length_eq
      rw [List.length_append, Wd.size_names] at this
      exact this
    have atn : atI (ns.map PyData.str) (idx : Int) = some (.str nm) := atI_nat (by rw [List.getElem?_map, hnm']; rfl)
    have hkl := hK.len
    have hdl := hT.len
    refine ⟨tE m g' c' ns T kvs dk over (some (.d (.int idx))) y7 y8 y9, ?_, ?_⟩
    · rcases hy with ⟨rfl, rfl, rfl, rfl⟩ | ⟨_, _, k, rfl, rfl, rfl, rfl | ⟨_, rfl⟩⟩ <;> simp! [tE]
    · rw [fp_seq]
      -- the name
      refine fp_conseq (fun e => e = tE m g' c' ns T kvs dk over (some (.d (.int idx))) (some (.d (.str nm))) y8 y9) (by
        rcases hy with ⟨rfl, rfl, rfl, rfl⟩ | ⟨_, _, k, rfl, rfl, rfl, rfl | ⟨_, rfl⟩⟩ <;> simp! [tE, atn]) ?_
      rintro _ rfl
      have hy8 : y8 = none ∨ ∃ xs : List Dt, y8 = some (.own (.l xs)) := by
        rcases hy with ⟨_, _, h, _⟩ | ⟨_, _, _, _, _, _, h⟩
        · exact .inl h
        · exact h
      have hy9' : y9 = none ∨ ∃ k : Str, y9 = some (.rf 3 (some (.inr k))) ∧ ∃ xs, lkD kvs (.inr k) = some xs := by
        rcases hy with ⟨_, _, _, h⟩ | ⟨_, _, k, _, _, h, _⟩
        · exact .inl h
        · exact .inr ⟨k, h, hy9 k h⟩
      clear hy hy9
      rw [sq_ap, fp_seq]
      -- where it goes
      refine fp_conseq (fun e => ∃ (g' c' : Int) (over : Str) (f : Nat) (y8 : Option A), e = tE m g' c' ns T kvs dk over (some (.d (.int idx))) (some (.d (.str nm))) y8 y9 ∧ (y8 = none ∨ ∃ xs : List Dt, y8 = some (.own (.l xs))) ∧ (over = "" ∨ over ∈ w.names) ∧ lkD dk (.inr over) = some (.int (f : Int)) ∧ f + 1 ≤ T ∧ f ≤ idx) ?_ ?_
      · by_cases hge : T ≤ idx
        · obtain ⟨ks, hk0, hkl, hks, he⟩ := tall_some (m := m) (g := g') (c := c') (ns := ns) (over := over) (a := .int idx) (b := .str nm) (te := []) hK hT hT1 (by omega) hy9' hy8
          obtain ⟨r1, g1, c1, q1, r10, r11⟩ := draw_ok g' m c' ks.length (by have := List.length_pos_iff.mpr hk0; omega) (by omega)
          obtain ⟨p1, rfl⟩ : ∃ p1 : Nat, r1 = p1 := ⟨r1.toNat, by omega⟩
          have hp1 : p1 < ks.length := by omega
          have at1 : atI (ks.map PyData.str) (p1 : Int) = some (.str ks[p1]) := atI_nat (by rw [List.getElem?_map, List.getElem?_eq_getElem hp1]; rfl)
          obtain ⟨ho, f', hf', hfT⟩ := hks ks[p1] (List.getElem_mem hp1)
          have hge' : (T : Int) ≤ idx := by omega
          refine FP.ifT (e := tE m g' c' ns T kvs dk over (some (.d (.int idx))) (some (.d (.str nm))) y8 y9) (by simp! [tE, hge']) ?_
          rw [fp_seq]
          refine FP.asg he (e' := tE m g' c' ns T kvs dk over (some (.d (.int idx))) (some (.d (.str nm))) (some (.own (.l (ks.map .str)))) y9) (by
            rcases hy8 with rfl | ⟨_, rfl⟩ <;> rcases hy9' with rfl | ⟨_, rfl, _⟩ <;> simp! [tE]) ?_
          rw [sq_ap]
          refine FP.mono_eq (e := tE m g1 c1 ns T kvs dk ks[p1] (some (.d (.int idx))) (some (.d (.str nm))) (some (.own (.l (ks.map .str)))) y9) (by
            rcases hy9' with rfl | ⟨_, rfl, _⟩ <;> simp! [tE, q1, at1]) ⟨g1, c1, ks[p1], f', _, rfl, .inr ⟨_, rfl⟩, ho, hf', by omega, by omega⟩
        · have hge' : ¬ (T : Int) ≤ idx := by omega
          refine FP.mono_eq (e := tE m g' c' ns T kvs dk over (some (.d (.int idx))) (some (.d (.str nm))) y8 y9) ?_ ⟨g', c', over, f, y8, rfl, hy8, hover, hf, by omega, hfk⟩
          simp! [tE, hge']
      · clear hover hf hfk
        rintro e ⟨g', c', over, f, y8, rfl, hy8, hover, hf, hfT, hfk⟩
        obtain ⟨j, hin, hov⟩ := hK.at hover
        have js := Wd.inn_size hin
        have jl := Wd.tops_le j
        have non : ¬ over = nm := by
          rintro rfl
          rcases hover with e | e
          · exact nm_ne inm e
          · exact nin e
        rw [sq_ap, fp_seq]
        refine FP.mono_eq (e := tE m g' c' ns T kvs dk over (some (.d (.int idx))) (some (.d (.str nm))) y8 (some (.rf 3 (some (.inr over))))) (by
          rcases hy8 with rfl | ⟨_, rfl⟩ <;> rcases hy9' with rfl | ⟨_, rfl, _⟩ <;> simp! [tE, hov]) ?_
        clear hy9'
        rw [sq_ap, fp_seq]
        obtain ⟨r2, g2, c2, q2, r20, r21⟩ := draw_ok g' m c' (j.tops.length + 1) (by omega) (by omega)
        have hsz : j.tops.length < sizeLine := big' (by omega)
        have r22 : r2 < 9223372036854775808 := by omega
        have hL : ((j.tops.map PyData.str).take r2.toNat ++ [.str nm] ++ (j.tops.map PyData.str).drop r2.toNat) = (j.tops.take r2.toNat ++ nm :: (j.tops.drop r2.toNat).drop 0).map .str := by simp
        have hov3 : (lkD kvs (.inr over)).isSome = true := by rw [hov]; rfl
        refine FP.mono_eq (e := tE m g2 c2 ns T (setF kvs (.inr over) ((j.tops.map PyData.str).take r2.toNat ++ [.str nm] ++ (j.tops.map PyData.str).drop r2.toNat)) dk over (some (.d (.int idx))) (some (.d (.str nm))) y8 (some (.rf 3 (some (.inr over))))) (by
          rcases hy8 with rfl | ⟨_, rfl⟩ <;> simp! [tE, hov, q2, hsz, r20, r22]) ?_
        have hset : ∀ k : Str, lkD (setF kvs (.inr over) ((j.tops.map PyData.str).take r2.toNat ++ [.str nm] ++ (j.tops.map PyData.str).drop r2.toNat)) (.inr k) = if k = over then some ((j.tops.take r2.toNat ++ nm :: (j.tops.drop r2.toNat).drop 0).map .str) else lkD kvs (.inr k) := fun k => by
          rw [lkD_setF, hL]
          by_cases c1 : k = over
          · rw [if_pos c1, if_pos (by rw [c1]), c1, hov]
            rfl
          · rw [if_neg c1, if_neg (fun z => c1 (Sum.inr.inj z))]
        have hsl := setF_len (.inr over) ((j.tops.map PyData.str).take r2.toNat ++ [.str nm] ++ (j.tops.map PyData.str).drop r2.toNat) kvs
        have hsk : ∀ q ∈ setF kvs (.inr over) ((j.tops.map PyData.str).take r2.toNat ++ [.str nm] ++ (j.tops.map PyData.str).drop r2.toNat), ∃ p ∈ kvs, p.1 = q.1 := fun q hq => setF_keys hq
        generalize setF kvs (.inr over) ((j.tops.map PyData.str).take r2.toNat ++ [.str nm] ++ (j.tops.map PyData.str).drop r2.toNat) = kv1 at *
        have hk1 : kv1.length < sizeLine := big' (by omega)
        rw [sq_ap, fp_seq]
        refine FP.mono_eq (e := tE m g2 c2 ns T (putD kv1 (.inr nm) []) dk over (some (.d (.int idx))) (some (.d (.str nm))) y8 (some (.rf 3 (some (.inr over))))) (by
          rcases hy8 with rfl | ⟨_, rfl⟩ <;> simp! [tE, wipeK, hk1, non]) ?_
        have hd1 : dk.length < sizeLine := big' (by omega)
        rw [sq_ap, fp_seq]
        refine FP.mono_eq (e := tE m g2 c2 ns T (putD kv1 (.inr nm) []) (putD dk (.inr nm) (.int ((f : Int) + 1))) over (some (.d (.int idx))) (some (.d (.str nm))) y8 (some (.rf 3 (some (.inr over))))) (by
          rcases hy8 with rfl | ⟨_, rfl⟩ <;> simp! [tE, wipeK, hd1, hf]) ?_
        rw [sq_ap]
        refine FP.mono_eq (e := tE m g2 c2 ns T (putD kv1 (.inr nm) []) (putD dk (.inr nm) (.int ((f : Int) + 1))) nm (some (.d (.int idx))) (some (.d (.str nm))) y8 (some (.rf 3 (some (.inr over))))) (by
          rcases hy8 with rfl | ⟨_, rfl⟩ <;> simp! [tE]) ?_
        have hval : ∀ k : Str, lkD (putD kv1 (.inr nm) []) (.inr k) = if k = over then some ((j.tops.take r2.toNat ++ nm :: (j.tops.drop r2.toNat).drop 0).map .str) else if k = nm then some (((j.tops.drop r2.toNat).take 0).map .str) else lkD kvs (.inr k) := fun k => by
          rw [lkD_put, hset]
          by_cases c1 : k = nm
          · rw [if_pos (by rw [c1]), if_pos c1, if_neg (fun z => non (z.symm.trans c1))]
            rfl
          · rw [if_neg (fun z => c1 (Sum.inr.inj z)), if_neg c1]
        have hkeys : ∀ q ∈ putD kv1 (.inr nm) [], q.1 = .inr nm ∨ ∃ p ∈ kvs, p.1 = q.1 := fun q hq => by
          rcases putD_keys hq with e | ⟨p, hp, e⟩
          · exact .inl e
          · obtain ⟨p', hp', e'⟩ := hsk p hp
            exact .inr ⟨p', hp', e'.trans e⟩
        have hl3 := putD_len (kvs := kv1) (k := .inr nm) (v := [])
        have hK2 := hK.step (a := r2.toNat) (t := 0) inm nin hover hin hval hkeys (by omega) (by omega)
        have hT2' := hT.step (a := r2.toNat) hK.nd inm nin hover hf hfT
        have pm := Wd.names_put (a := r2.toNat) (t := 0) (nm := nm) hK.nd hover
        refine ⟨g2, c2, _, _, _, nm, ns.drop (idx + 1), f + 1, _, _, _, _, rfl, .inr ⟨_, _, over, rfl, rfl, rfl, hy8⟩, fun k hk => ?_, hK2, hT2', hr2, ?_, ?_, ?_, .inr (pm.mem_iff.mpr List.mem_cons_self), ?_, ?_⟩
        · injection hk with hk
          injection hk with _ hk
          injection hk with hk
          have hk : over = k := Sum.inr.inj hk
          subst hk
          exact ⟨_, by rw [hval, if_pos rfl]⟩
        · rw [List.length_drop]
          omega
        · rw [hnext]
        · rw [hrest2] at hP
          exact ((pm.append_right _).trans (List.perm_middle.symm)).trans hP
        · rw [lkD_put, if_pos rfl]
          rfl
        · omega
  · rintro e ⟨g', c', kvs, dk, w, over, rest, f, y6, y7, y8, y9, rfl, hy, hy9, hK, hT, hr, hrl, hrest, hP, hover, hf, hfk⟩
    cases rest with
    | cons _ _ => cases hrl
    | nil =>
      rw [List.append_nil] at hP
      have dl := hT.dw.dep
      have sl : w.size = ns.length := by rw [← Wd.size_names, hP.length_eq]
      have hw := wood_of_ok (kvs.map fun q => (kD q.1, .list q.2)) 150 w "" (by omega) (by omega) hK.kw.toD (by rw [lkDD_map (f := PyData.list), hK.top]; rfl)
      have ht := tup_data w
      rw [sq_ap]
      rcases hy with ⟨rfl, rfl, rfl, rfl⟩ | ⟨_, _, k, rfl, rfl, rfl, rfl | ⟨_, rfl⟩⟩ <;> simp! [tE, hw, ht, EndR] <;> exact ⟨w, hP, by omega, rfl⟩
end Tw

namespace Tw
open PySem PySem.Spec PyProof.Rows L2
theorem FP.ifF {N : Env → Prop} {R : A → Env → Prop} {c : MT} {a b : MS} {env e : Env} {te : List A} (h : c env te = .ok false e) (k : FP N R (b e te)) : FP N R (mIfS c a b env te) := by
  rw [ev_mIfS, h]
  exact k
theorem FP.ret {N : Env → Prop} {R : A → Env → Prop} {m : ME} {env e : Env} {te : List A} {a : A} (h : m env te = .ok a e) (k : R a e) : FP N R (mRet m env te) := by
  rw [ev_mRet, h]
  exact .rt k
theorem cutN_to (ns : List Str) (k : Nat) : cutD (ns.map PyData.str) none (some (k : Int)) = (ns.take k).map .str := by
  rw [cutD_to, List.map_take]
theorem cutN_from (ns : List Str) (k : Nat) : cutD (ns.map PyData.str) (some (k : Int)) none = (ns.drop k).map .str := by
  rw [cutD_from, List.map_drop]
def wnE (m g c : Int) (more : Nat) (y2 y3 y4 : Option A) : Env := [some (.io (Dkv g m c)), some (.d (.int more)), y2, y3, y4]
theorem wan_ret {F : DF} {m g3 c3 g4 c4 : Int} {more : Nat} {T k : Int} {L LA LB : List Dt} {x : Dt} (ct : cutD L none (some k) = LA) (cf : cutD L (some k) none = LB) (q4 : F [.io (Dkv g3 m c3), .d (.list LA), .d (.int T)] = .ok (.d x) [.io (Dkv g4 m c4), .d (.list LA), .d (.int T)]) :
    mLst (mCons (mD (mCall (noXf F) [true, false, false] (mCons (mVar 0) (mCons (mD (mSl (mVar 4) mNoPart (mPart (mVar 3)))) (mCons (mVar 2) mNil))))) (mCons (mD (mSl (mVar 4) (mPart (mVar 3)) mNoPart)) mNil)) (wnE m g3 c3 more (some (.d (.int T))) (some (.d (.int k))) (some (.own (.l L)))) [] = .ok (.own (.l [x, .list LB])) (wnE m g4 c4 more (some (.d (.int T))) (some (.d (.int k))) (some (.own (.l L)))) := by
  have s2 : 2 ≤ sizeLine := big (by decide)
  simp! [wnE, ct, cf, q4, s2]
theorem wan_ok (g m c : Int) (more : Nat) (hm : more ≤ 100) : ∃ (w : Wd) (ns : List Str) (g' c' : Int), (w.names ++ ns).Nodup ∧ (∀ z ∈ w.names ++ ns, IsNm z) ∧ ns.length = more ∧ w.dep ≤ 55 ∧ w.size ≤ 161 ∧ f_wood_and_namesL [.io (Dkv g m c), .d (.int more)] = .ok (.own (.l [.tuple w.data, .list (ns.map .str)])) [.io (Dkv g' m c'), .d (.int more)] := by
  suffices h : DOk (fun r ios => ∃ (w : Wd) (ns : List Str) (g' c' : Int), (w.names ++ ns).Nodup ∧ (∀ z ∈ w.names ++ ns, IsNm z) ∧ ns.length = more ∧ w.dep ≤ 55 ∧ w.size ≤ 161 ∧ r = .own (.l [.tuple w.data, .list (ns.map .str)]) ∧ ios = [.io (Dkv g' m c'), .d (.int more)]) (f_wood_and_namesL [.io (Dkv g m c), .d (.int more)]) by
    obtain ⟨a, ios, e, w, ns, g', c', h1, h2, h3, h4, h5, rfl, rfl⟩ := h.ex
    exact ⟨_, _, _, _, h1, h2, h3, h4, h5, e⟩
  unfold f_wood_and_namesL
  refine run_ok ?_
  unfold m_wood_and_namesL
  have s2 : 2 ≤ sizeLine := big (by decide)
  have fin : ∀ (ns : List Str) (k : Nat) (w : Wd), ns.length = k + more → ns.Nodup → (∀ z ∈ ns, IsNm z) → w.names.Perm (ns.take k) → (w.names ++ ns.drop k).Nodup ∧ (∀ z ∈ w.names ++ ns.drop k, IsNm z) ∧ (ns.drop k).length = more ∧ w.size = k := fun ns k w hl hd hn hp => by
    have pm : (w.names ++ ns.drop k).Perm ns := by
      have := hp.append_right (ns.drop k)
      rw [List.take_append_drop] at this
      exact this
    refine ⟨pm.nodup_iff.mpr hd, fun z hz => hn z (pm.mem_iff.mp hz), by rw [List.length_drop]; omega, ?_⟩
    have := hp.length_eq
    rw [Wd.size_names, List.length_take] at this
    omega
  rw [fp_seq]
  obtain ⟨r0, g0, c0, q0, r00, r01⟩ := draw_ok g m c 8 (by decide) (by decide)
  by_cases h3 : r0 = 3
  · refine FP.ifT (e := wnE m g0 c0 more none none none) (by simp! [wnE, q0, eqD_int, h3]) ?_
    obtain ⟨r1, g1, c1, q1, r10, r11⟩ := draw_ok g0 m c0 40 (by decide) (by decide)
    obtain ⟨T, hT⟩ : ∃ T : Nat, 1 + r1 = T := ⟨(1 + r1).toNat, by omega⟩
    rw [fp_seq]
    refine FP.mono_eq (e := wnE m g1 c1 more (some (.d (.int T))) none none) (by simp! [wnE, q1, hT]) ?_
    obtain ⟨r2, g2, c2, q2, r20, r21⟩ := draw_ok g1 m c1 (121 - T) (by omega) (by omega)
    obtain ⟨k, hk⟩ : ∃ k : Nat, (T : Int) + r2 = k := ⟨((T : Int) + r2).toNat, by omega⟩
    rw [sq_ap, fp_seq]
    refine FP.mono_eq (e := wnE m g2 c2 more (some (.d (.int T))) (some (.d (.int k))) none) (by simp! [wnE, q2, hk]) ?_
    obtain ⟨ns, g3, c3, hl, hd, hn, q3⟩ := names_ok g2 m c2 (k + more) (by omega)
    rw [Int.natCast_add] at q3
    rw [sq_ap, fp_seq]
    refine FP.mono_eq (e := wnE m g3 c3 more (some (.d (.int T))) (some (.d (.int k))) (some (.own (.l (ns.map .str))))) (by simp! [wnE, q3]) ?_
    obtain ⟨w, g4, c4, hp, hdep, q4⟩ := tall_ok g3 m c3 (ns.take k) T (hd.sublist (List.take_sublist _ _)) (fun z hz => hn z (List.mem_of_mem_take hz)) (by rw [List.length_take]; omega) (by omega) (by omega)
    obtain ⟨f1, f2, f3, f4⟩ := fin ns k w hl hd hn hp
    have ct := cutN_to ns k
    have cf := cutN_from ns k
    rw [sq_ap]
    refine FP.ret (wan_ret ct cf q4) ?_
    exact ⟨_, rfl, w, ns.drop k, g4, c4, f1, f2, f3, by omega, by omega, rfl, rfl⟩
  · refine FP.ifF (e := wnE m g0 c0 more none none none) (by simp! [wnE, q0, eqD_int, h3]) ?_
    refine FP.mono_eq (e := wnE m g0 c0 more none none none) rfl ?_
    obtain ⟨r2, g2, c2, q2, r20, r21⟩ := draw_ok g0 m c0 13 (by decide) (by decide)
    obtain ⟨k, rfl⟩ : ∃ k : Nat, r2 = k := ⟨r2.toNat, by omega⟩
    rw [sq_ap, fp_seq]
    refine FP.mono_eq (e := wnE m g2 c2 more none (some (.d (.int k))) none) (by simp! [wnE, q2]) ?_
    obtain ⟨ns, g3, c3, hl, hd, hn, q3⟩ := names_ok g2 m c2 (k + more) (by omega)
    rw [Int.natCast_add] at q3
    rw [sq_ap, fp_seq]
    refine FP.mono_eq (e := wnE m g3 c3 more none (some (.d (.int k))) (some (.own (.l (ns.map .str))))) (by simp! [wnE, q3]) ?_
    obtain ⟨w, g4, c4, hp, q4⟩ := wood_ok g3 m c3 (ns.take k) (hd.sublist (List.take_sublist _ _)) (fun z hz => hn z (List.mem_of_mem_take hz)) (by rw [List.length_take]; omega)
    obtain ⟨f1, f2, f3, f4⟩ := fin ns k w hl hd hn hp
    have ct := cutN_to ns k
    have cf := cutN_from ns k
    have dl := w.dep_le
    rw [Wd.size_names] at dl
    generalize (ns.take k).map PyData.str = LA at ct q4
    generalize hB : (ns.drop k).map PyData.str = LB at cf
    generalize f_woodL = FT at q4 ⊢
    rw [sq_ap]
    refine FP.ret (a := .own (.l [.tuple w.data, .list LB])) (e := wnE m g4 c4 more none (some (.d (.int k))) (some (.own (.l (ns.map .str))))) (by simp! [wnE, ct, cf, q4, s2]) ?_
    refine ⟨_, rfl, w, ns.drop k, g4, c4, f1, f2, f3, by omega, by omega, by rw [hB], rfl⟩
theorem some_ok (g m c : Int) : ∃ (w : Wd) (g' c' : Int), w.names.Nodup ∧ (∀ z ∈ w.names, IsNm z) ∧ w.dep ≤ 55 ∧ w.size ≤ 161 ∧ f_some_woodL [.io (Dkv g m c)] = .ok (.d (.tuple w.data)) [.io (Dkv g' m c')] := by
  obtain ⟨w, ns, g', c', h1, h2, h3, h4, h5, q⟩ := wan_ok g m c 0 (by decide)
  have q' : f_wood_and_namesL [.io (Dkv g m c), .d (.int 0)] = .ok (.own (.l [.tuple w.data, .list (ns.map .str)])) [.io (Dkv g' m c'), .d (.int 0)] := q
  refine ⟨w, g', c', (List.nodup_append.mp h1).1, fun z hz => h2 z (List.mem_append_left _ hz), h4, h5, ?_⟩
  have a0 : ∀ x y : Dt, atI [x, y] 0 = some x := fun _ _ => rfl
  simp! [f_some_woodL, m_some_woodL, runM, endM, q', a0]
end Tw

namespace Tw
open PySem PySem.Spec PyProof.Rows L2
def Wd.tks (w : Wd) : List Dt := w.toks.map fun p => .str (tkS p)
end Tw

namespace Tw
open PySem PySem.Spec PyProof.Rows L2
/-- what waits: a text, or a tree -/
inductive Itm where
  | s (z : Str)
  | t (n : Str) (i : Wd)
def Itm.dat : Itm → Dt
  | .s z => .str z
  | .t n i => .tuple [.str n, .tuple i.data]
def Itm.out : Itm → List Dt
  | .s z => [.str z]
  | .t n i => .str (tkS (true, n)) :: (i.tks ++ [.str (tkS (false, n))])
def Itm.nm : Itm → Prop
  | .s _ => True
  | .t n i => IsNm n ∧ ∀ z ∈ i.names, IsNm z
def Wd.trees : Wd → List Itm
  | .nil => []
  | .cons n i r => .t n i :: r.trees
theorem neD_nil (xs : List Dt) : neD (.list xs) (.list []) = some (.bool (!xs.isEmpty)) := by
  unfold neD
  rw [if_pos (by simp [okEq, emptyEq])]
  cases xs with
  | nil => rfl
  | cons x r => rfl
theorem fp_whileN {N : Env → Prop} {R : A → Env → Prop} {c : MT} {b : MS} {te : List A} (I : Nat → Env → Prop)
    (step : ∀ n e, I n e → ∃ x e1, c e te = .ok x e1 ∧ (x = true → FP (fun e2 => ∃ k, k < n ∧ I k e2) R (b e1 te)) ∧ (x = false → N e1)) : ∀ (n : Nat) (env : Env), I n env → FP N R (mWhile c b env te) := by
  intro n
  induction n using Nat.strongRecOn with
  | ind n ih =>
    intro e h
    obtain ⟨x, e1, h1, ht, hf⟩ := step n e h
    rw [mWhile_eq, h1]
    show FP N R (if x = true then _ else _)
    cases x with
    | false => exact .nx (hf rfl)
    | true =>
      rw [if_pos rfl]
      have h2 := ht rfl
      cases eb : b e1 te with
      | nx e2 =>
        rw [eb, fp_nx] at h2
        obtain ⟨k, hk, hi⟩ := h2
        exact ih k hk e2 hi
      | rt a e2 => rw [eb, fp_rt] at h2; exact .rt h2
      | bk e2 => rw [eb] at h2; exact nomatch h2
      | ct e2 => rw [eb] at h2; exact nomatch h2
      | ex x e2 => rw [eb] at h2; exact nomatch h2
      | bad => rw [eb] at h2; exact nomatch h2
end Tw

namespace Tw
open PySem PySem.Spec PyProof.Rows L2
end Tw

namespace Tw
open PySem PySem.Spec PyProof.Rows L2
end Tw

namespace Tw
open PySem PySem.Spec PyProof.Rows L2
end Tw

namespace Tw
open PySem PySem.Spec PyProof.Rows L2
/-! ### who lies in whom -/
theorem fun_of_nodup {α β : Type} : ∀ {l : List (α × β)}, (l.map (·.1)).Nodup → ∀ x ∈ l, ∀ y ∈ l, x.1 = y.1 → x = y
  | q :: r, nd, x, hx, y, hy, e => by
    rw [List.map_cons, List.nodup_cons] at nd
    rcases List.mem_cons.mp hx with h1 | h1
    · rcases List.mem_cons.mp hy with h2 | h2
      · rw [h1, h2]
      · exact absurd (by rw [← h1, e]; exact List.mem_map_of_mem h2) nd.1
    · rcases List.mem_cons.mp hy with h2 | h2
      · exact absurd (by rw [← h2, ← e]; exact List.mem_map_of_mem h1) nd.1
      · exact fun_of_nodup nd.2 x h1 y h2 e
end Tw

namespace Tw
open PySem PySem.Spec PyProof.Rows L2
end Tw

namespace Tw
open PySem PySem.Spec PyProof.Rows L2
end Tw

namespace Tw
open PySem PySem.Spec PyProof.Rows L2
/-! ### what a node lies in, from the nearest on -/
def Wd.path (a : Str) : Wd → Option (List Str)
  | .nil => none
  | .cons n i r => if n = a then some [] else match i.path a with
    | some p => some (p ++ [n])
    | none => r.path a
end Tw

namespace Tw
open PySem PySem.Spec PyProof.Rows L2
end Tw

namespace Tw
open PySem PySem.Spec PyProof.Rows L2
abbrev tkD (p : Bool × Str) : Dt := .str (tkS p)
theorem eqD_nil (xs : List Dt) : eqD (.list xs) (.list []) = some (.bool xs.isEmpty) := by
  have h := neD_nil xs
  unfold neD at h
  unfold eqD
  split at h
  · rename_i c
    rw [if_pos c]
    injection h with h
    injection h with h
    have := congrArg (!·) h
    simp only [Bool.not_not] at this
    rw [this]
  · cases h
theorem pick_str (g m c : Int) (ns : List Str) (h0 : ns ≠ []) (h1 : ns.length ≤ 100000) : ∃ z ∈ ns, ∃ g' c' : Int, f_pickL [.io (Dkv g m c), .d (.list (ns.map .str))] = .ok (.d (.str z)) [.io (Dkv g' m c'), .d (.list (ns.map .str))] := by
  obtain ⟨x, hx, g', c', h⟩ := pick_ok g m c (ns.map .str) (by simpa using h0) (by simpa using h1) .list (.inl rfl)
  obtain ⟨z, hz, rfl⟩ := List.mem_map.mp hx
  exact ⟨z, hz, g', c', h⟩
/-! ### rows as lists of ends -/
theorem tl_nil : TL.tl ("" : Str) = [] := by decide +kernel
/-- a comprehension over data whose test and item change nothing -/
theorem lc_genR {mi : MI} {tt : MT} {el : ME} {j : Nat} {env : Env} {te as : List A} {xs : List Dt} {rd : Env → Option (List Dt)} (p : Dt → Bool) (f : Dt → Dt) (hm : mi env te = .ok (as, rd) env) (hr : rd env = some xs) (hj : env[j]? = some none) (ha : anyC (isRf j) env (as ++ te) = false) (hl : xs.length ≤ 100000)
    (ht : ∀ x ∈ xs, ∀ acc : List Dt, tt (env.set j (some (.d x))) (.own (.l acc) :: (as ++ te)) = .ok (p x) (env.set j (some (.d x)))) (he : ∀ x ∈ xs, p x = true → ∀ acc : List Dt, el (env.set j (some (.d x))) (.own (.l acc) :: (as ++ te)) = .ok (.d (f x)) (env.set j (some (.d x)))) :
    mLc .d mi (gN j) tt el [j] env te = .ok (.own (.l ((xs.filter p).map f))) env := by
  have hjl : j < env.length := by
    cases h : decide (j < env.length) with
    | true => exact of_decide_eq_true h
    | false =>
      rw [List.getElem?_eq_none (by have := of_decide_eq_false h; omega)] at hj
      cases hj
  have hset : env.set j none = env := by
    apply List.ext_getElem?
    intro k
    rw [List.getElem?_set]
    by_cases c : j = k
    · subst c; rw [if_pos rfl, if_pos hjl, hj]
    · rw [if_neg c]
  unfold anyC at ha
  rw [Bool.or_eq_false_iff] at ha
  obtain ⟨hae, hat⟩ := ha
  have hwo : ∀ (e1 : Env) (acc : List Dt), inE (isRf j) e1 = false → nIo e1[j]? = true → wipeOk e1 (.own (.l acc) :: (as ++ te)) [j] = true := fun e1 acc h1 h2 => by
    rw [wipeOk_cons, wipeOk_nil]
    show (true && !anyC (isRf j) e1 (.own (.l acc) :: (as ++ te)) && nIo e1[j]?) = true
    unfold anyC
    rw [h1, h2, List.any_cons, hat]
    rfl
  refine lc_pure (as := as) (rd := rd) (xs := xs) p f hm hr hl (hwo env [] hae (by rw [hj]; rfl)) hset ?_
  rintro x hx acc
  have hg : gN j (.d x) env (.own (.l acc) :: (as ++ te)) = some (env.set j (some (.d x))) := by
    refine if_pos ?_
    rw [ev_setOk, hj]
    unfold anyC
    rw [hae, List.any_cons, List.any_cons, hat]
    simp [hjl, nIo1, isRf, isIo]
  have hin : inE (isRf j) (env.set j (some (.d x))) = false := by
    unfold inE at hae ⊢
    rw [List.any_eq_false] at hae ⊢
    intro c hc
    rcases List.mem_or_eq_of_mem_set hc with h | h
    · exact hae c h
    · rw [h]; simp [isRf]
  have hjj : (env.set j (some (.d x)))[j]? = some (some (.d x)) := by rw [List.getElem?_set_self hjl]
  refine ⟨_, hg, ht x hx acc, fun h => he x hx h acc, fun acc' => hwo _ _ hin (by rw [hjj]; rfl), ?_⟩
  show (env.set j _).set j none = env
  rw [List.set_set, hset]
theorem lc_gen {mi : MI} {tt : MT} {el : ME} {j : Nat} {env : Env} {te as : List A} {xs : List Dt} (p : Dt → Bool) (f : Dt → Dt) (hm : mi env te = .ok (as, fun _ => some xs) env) (hj : env[j]? = some none) (ha : anyC (isRf j) env (as ++ te) = false) (hl : xs.length ≤ 100000)
    (ht : ∀ x ∈ xs, ∀ acc : List Dt, tt (env.set j (some (.d x))) (.own (.l acc) :: (as ++ te)) = .ok (p x) (env.set j (some (.d x)))) (he : ∀ x ∈ xs, p x = true → ∀ acc : List Dt, el (env.set j (some (.d x))) (.own (.l acc) :: (as ++ te)) = .ok (.d (f x)) (env.set j (some (.d x)))) :
    mLc .d mi (gN j) tt el [j] env te = .ok (.own (.l ((xs.filter p).map f))) env := lc_genR p f hm rfl hj ha hl ht he
theorem set_at {env : Env} {j : Nat} {c : Option A} (hj : env[j]? = some c) (d : Option A) : (env.set j d)[j]? = some d := by
  have : j < env.length := by
    cases h : decide (j < env.length) with
    | true => exact of_decide_eq_true h
    | false =>
      rw [List.getElem?_eq_none (by have := of_decide_eq_false h; omega)] at hj
      cases hj
  rw [List.getElem?_set_self this]
end Tw

namespace Tw
open PySem PySem.Spec PyProof.Rows L2
/-! ### rows read: wood_from -/
abbrev Tok := Bool × Str
theorem seqI_ok {m : ME} {env e : Env} {te : List A} {D : Dt} {xs : List Dt} (h : m env te = .ok (.d D) e) (hD : D = .list xs ∨ D = .tuple xs) : mSeqI m env te = .ok ([.d D], fun _ => some xs) e := by
  rcases hD with rfl | rfl
  · rw [ev_mSeqI, h]
    rfl
  · rw [ev_mSeqI, h]
    rfl
end Tw

namespace Tw
open PySem PySem.Spec PyProof.Rows L2
/-! ### the law's own way to read a row -/
/-! ### some of the nodes alone -/
def Wd.keep (P : Str → Bool) : Wd → Wd
  | .nil => .nil
  | .cons n i r => if P n = true then .cons n (i.keep P) (r.keep P) else (i.keep P).app (r.keep P)
end Tw

namespace Tw
open PySem PySem.Spec PyProof.Rows L2
/-! ### what is a name -/
theorem chain_ok {g1 g2 : Dt → Dt → Option Dt} {ma mb mc : ME} {env : Env} {te : List A} {x y z : Dt} {b1 b2 : Bool} (ha : ∀ te, ma env te = .ok (.d x) env) (hb : ∀ te, mb env te = .ok (.d y) env) (hc : ∀ te, mc env te = .ok (.d z) env) (h1 : g1 x y = some (.bool b1)) (h2 : g2 y z = some (.bool b2)) : mChain g1 g2 ma mb mc env te = .ok (.d (.bool (b1 && b2))) env := by
  unfold mChain
  rw [ha]
  show Rs.bind (mb env _) _ = _
  rw [hb]
  cases b1 with
  | true =>
    simp only [Rs.bind_ok, A.val, h1, isIo, Bool.false_eq_true, if_false]
    rw [hc]
    simp [ev_fl2, A.val, h2]
  | false =>
    simp only [Rs.bind_ok, A.val, h1]
    simp
instance : DecidablePred IsLt := fun c => by unfold IsLt; infer_instance
instance (z : Str) : Decidable (IsNm z) := by unfold IsNm; infer_instance
def isNmD : Dt → Bool
  | .str z => decide (IsNm z)
  | _ => false
theorem letters_mem (c : Nat) : decide (c ∈ letters.cps.toList) = decide (IsLt c) := by
  have e : letters.cps.toList = List.range' 97 26 := by decide +kernel
  rw [e, decide_eq_decide, List.mem_range'_1]
  unfold IsLt
  omega
theorem boolsD_map {α : Type} (q : α → Bool) : ∀ l : List α, boolsD (l.map fun x => .bool (q x)) = some (l.map q)
  | [] => rfl
  | x :: r => by
    show (boolsD (r.map fun x => .bool (q x))).map (q x :: ·) = _
    rw [boolsD_map q r]
    rfl
theorem kb_NoneType_str : kitB "NoneType" "str" = some false := by decide +kernel
theorem kb_bool_str : kitB "bool" "str" = some false := by decide +kernel
theorem kb_int_str : kitB "int" "str" = some false := by decide +kernel
theorem kb_str_str : kitB "str" "str" = some true := by decide +kernel
theorem kb_list_str : kitB "list" "str" = some false := by decide +kernel
theorem kb_tuple_str : kitB "tuple" "str" = some false := by decide +kernel
theorem kb_dict_str : kitB "dict" "str" = some false := by decide +kernel
theorem kb_NoneType_tuple : kitB "NoneType" "tuple" = some false := by decide +kernel
theorem kb_bool_tuple : kitB "bool" "tuple" = some false := by decide +kernel
theorem kb_int_tuple : kitB "int" "tuple" = some false := by decide +kernel
theorem kb_str_tuple : kitB "str" "tuple" = some false := by decide +kernel
theorem kb_list_tuple : kitB "list" "tuple" = some false := by decide +kernel
theorem kb_tuple_tuple : kitB "tuple" "tuple" = some true := by decide +kernel
theorem kb_dict_tuple : kitB "dict" "tuple" = some false := by decide +kernel
theorem is_name_ok (x : Dt) : f_is_name [.d x] = .ok (.d (.bool (isNmD x))) [.d x] := by
  refine ok_of ?_
  unfold f_is_name
  refine run_ok ?_
  unfold m_is_name
  refine FP.sq ?_
  by_cases hx : ∃ z, x = .str z
  · obtain ⟨z, rfl⟩ := hx
    have ks' := kb_str_str
    have ch := fun te => chain_ok (g1 := leD) (g2 := leD) (ma := mC (.int 1)) (mb := mCB (one lenA) (mCons (mVar 0) mNil)) (mc := mC (.int 8)) (env := [some (.d (.str z)), none]) (te := te) (x := .int 1) (y := .int z.length) (z := .int 8) (fun _ => rfl) (fun _ => rfl) (fun _ => rfl) rfl rfl
    have el : z.length = (TL.tl z).length := TL.len_tl z
    generalize mChain leD leD _ _ _ = CH at ch ⊢
    by_cases hc : 1 ≤ z.length ∧ z.length ≤ 8
    · have hb : (decide ((1 : Int) ≤ (z.length : Int)) && decide ((z.length : Int) ≤ 8)) = true := by
        rw [Bool.and_eq_true, decide_eq_true_eq, decide_eq_true_eq]
        omega
      rw [hb] at ch
      refine FP.ifF (e := [some (.d (.str z)), none]) (by simp! [ks', ch]) ?_
      refine .nx ?_
      have hl := lc_gen (mi := mSeqI (mVar 0)) (tt := mYes) (el := mOp (fl2 (inD false)) (mVar 1) (mC (.str "abcdefghijklmnopqrstuvwxyz"))) (j := 1) (env := [some (.d (.str z)), none]) (te := []) (as := [.d (.str z)]) (xs := chD z) (fun _ => true) (fun c => match c with | .str y => .bool (decide (y.cps.toList.headD 0 ∈ letters.cps.toList)) | _ => .none) (by simp!) rfl (by simp!) (by unfold chD; rw [List.length_map]; have : (TL.tl z).length = z.cps.toList.length := rfl; omega) (fun _ _ _ => rfl) (by
        rintro x hx - acc
        obtain ⟨c, hc, rfl⟩ := List.mem_map.mp hx
        have hi : inD false (.str ⟨#[c]⟩) (.str "abcdefghijklmnopqrstuvwxyz") = some (.bool (decide (c ∈ letters.cps.toList))) := by
          simp [inD]
        simp! [hi])
      rw [List.filter_eq_self.mpr (fun _ _ => rfl)] at hl
      have hm : (chD z).map (fun c => match c with | .str y => PyData.bool (decide (y.cps.toList.headD 0 ∈ letters.cps.toList)) | _ => .none) = (TL.tl z).map fun c => .bool (decide (c ∈ letters.cps.toList)) := by
        unfold chD
        rw [List.map_map]
        rfl
      rw [hm] at hl
      have hbo := boolsD_map (fun c => decide (c ∈ letters.cps.toList)) (TL.tl z)
      generalize mLc _ _ _ _ _ _ = ML at hl ⊢
      generalize (TL.tl z).map (fun c => PyData.bool (decide (c ∈ letters.cps.toList))) = LL at hl hbo
      refine FP.re (e := [some (.d (.str z)), none]) (a := .d (.bool (isNmD (.str z)))) ?_ ⟨_, rfl, rfl, rfl⟩
      have fin : (((TL.tl z).map fun c => decide (c ∈ letters.cps.toList)).all id) = isNmD (.str z) := by
        show _ = decide (IsNm z)
        rw [Bool.eq_iff_iff, decide_eq_true_eq, List.all_eq_true]
        constructor
        · intro h
          refine ⟨by omega, by omega, fun c hc => ?_⟩
          have := h _ (List.mem_map_of_mem hc)
          rw [letters_mem] at this
          exact of_decide_eq_true this
        · rintro ⟨-, -, h⟩ b hb
          obtain ⟨c, hc, rfl⟩ := List.mem_map.mp hb
          rw [letters_mem]
          exact decide_eq_true (h c hc)
      rw [← fin]
      simp! [hl, hbo]
    · have hb : (decide ((1 : Int) ≤ (z.length : Int)) && decide ((z.length : Int) ≤ 8)) = false := by
        rw [Bool.and_eq_false_iff, decide_eq_false_iff_not, decide_eq_false_iff_not]
        omega
      rw [hb] at ch
      refine FP.ifT (e := [some (.d (.str z)), none]) (by simp! [ks', ch]) ?_
      have fin : isNmD (.str z) = false := decide_eq_false (fun h => hc ⟨by rw [el]; exact h.1, by rw [el]; exact h.2.1⟩)
      rw [fin]
      refine FP.re (by simp!; first | exact ⟨rfl, rfl⟩ | rfl) ?_
      exact ⟨_, rfl, rfl, rfl⟩
  · have fin : isNmD x = false := by
      cases x with
      | str z => exact absurd ⟨z, rfl⟩ hx
      | _ => rfl
    rw [fin]
    refine FP.ifT (e := [some (.d x), none]) ?_ ?_
    · cases x with
      | str z => exact absurd ⟨z, rfl⟩ hx
      | none => simp! [kb_NoneType_str]
      | bool b => simp! [kb_bool_str]
      | int b => simp! [kb_int_str]
      | list b => simp! [kb_list_str]
      | tuple b => simp! [kb_tuple_str]
      | dict b => simp! [kb_dict_str]
    · refine FP.re (by simp!; first | exact ⟨rfl, rfl⟩ | rfl) ?_
      exact ⟨_, rfl, rfl, rfl⟩
end Tw

namespace Tw
open PySem PySem.Spec PyProof.Rows L2
/-! ### names for a skeleton -/
/-! ### gaps -/
end Tw

namespace Tw
open PySem PySem.Spec PyProof.Rows L2
/-! ### some of some names, in a drawn order -/
/-! ### equal data -/
end Tw

namespace Tw
open PySem PySem.Spec PyProof.Rows L2
/-! ### rows with numbers of gaps among the ends -/
inductive RI where
  | e (p : Tok)
  | g (k : Nat)
deriving DecidableEq
def RI.D : RI → Dt
  | .e p => tkD p
  | .g k => .int k
abbrev rowD (r : List RI) : Dt := .tuple (r.map RI.D)
def ix (p : Tok) : List RI → Nat
  | [] => 0
  | x :: r => if x = .e p then 0 else ix p r + 1
theorem ix_app {p : Tok} : ∀ {A B : List RI}, RI.e p ∉ A → ix p (A ++ B) = A.length + ix p B
  | [], B, _ => (Nat.zero_add _).symm
  | x :: A, B, h => by
    have h1 : ¬ x = .e p := fun e => h (by rw [e]; exact List.mem_cons_self)
    show (if x = .e p then 0 else ix p (A ++ B) + 1) = _
    rw [if_neg h1, ix_app (fun z => h (List.mem_cons_of_mem _ z)), List.length_cons]
    omega
theorem ix_hd {p : Tok} {B : List RI} : ix p (.e p :: B) = 0 := if_pos rfl
theorem ix_at {p : Tok} {A B : List RI} (h : RI.e p ∉ A) : ix p (A ++ .e p :: B) = A.length := by
  rw [ix_app h, ix_hd]
  rfl
/-! ### woods with numbers among the trees -/
inductive GW where
  | nil
  | cons (n : Str) (i r : GW)
  | gap (k : Nat) (r : GW)
namespace GW
def row : GW → List RI
  | nil => []
  | cons n i r => .e (true, n) :: (i.row ++ .e (false, n) :: r.row)
  | gap k r => .g k :: r.row
end GW
/-- the names that are open -/
def run : List Str → List RI → Option (List Str)
  | S, [] => some S
  | S, .g _ :: r => run S r
  | S, .e (true, n) :: r => run (n :: S) r
  | [], .e (false, _) :: _ => none
  | m :: S, .e (false, n) :: r => if m = n then run S r else none
theorem run_app : ∀ (a b : List RI) (S : List Str), run S (a ++ b) = (run S a).bind fun T => run T b
  | [], b, S => by simp [run]
  | .g k :: a, b, S => by
    show run S (a ++ b) = (run S a).bind _
    exact run_app a b S
  | .e (true, n) :: a, b, S => by
    show run (n :: S) (a ++ b) = (run (n :: S) a).bind _
    exact run_app a b _
  | .e (false, n) :: a, b, [] => rfl
  | .e (false, n) :: a, b, m :: S => by
    show (if m = n then run S (a ++ b) else none) = (if m = n then run S a else none).bind _
    by_cases c : m = n
    · rw [if_pos c, if_pos c]
      exact run_app a b S
    · rw [if_neg c, if_neg c]
      rfl
def Bal (r : List RI) : Prop := ∀ S, run S r = some S
theorem GW.bal : ∀ w : GW, Bal w.row
  | .nil => fun S => rfl
  | .cons n i r => fun S => by
    show run (n :: S) (i.row ++ .e (false, n) :: r.row) = some S
    rw [run_app, GW.bal i (n :: S)]
    show (if n = n then run S r.row else none) = some S
    rw [if_pos rfl]
    exact GW.bal r S
  | .gap k r => fun S => GW.bal r S
theorem Bal.app {a b : List RI} (ha : Bal a) (hb : Bal b) : Bal (a ++ b) := fun S => by
  rw [run_app, ha S]
  exact hb S
theorem Bal.node {n : Str} {a b : List RI} (ha : Bal a) (hb : Bal b) : Bal (.e (true, n) :: (a ++ .e (false, n) :: b)) := fun S => by
  show run (n :: S) (a ++ .e (false, n) :: b) = some S
  rw [run_app, ha (n :: S)]
  show (if n = n then run S b else none) = some S
  rw [if_pos rfl]
  exact hb S
theorem Bal.block {n : Str} {a : List RI} (ha : Bal a) : Bal (.e (true, n) :: (a ++ [.e (false, n)])) := Bal.node (b := []) ha (fun S => rfl)
/-- what stands behind so many open names -/
inductive Segs : List Str → List RI → Prop
  | last (w : GW) : Segs [] w.row
  | more (w : GW) {n : Str} {S : List Str} {r : List RI} (h : Segs S r) : Segs (n :: S) (w.row ++ .e (false, n) :: r)
theorem Segs.gap {S : List Str} {r : List RI} (k : Nat) (h : Segs S r) : Segs S (.g k :: r) := by
  cases h with
  | last w => exact .last (.gap k w)
  | more w h => exact .more (.gap k w) h
theorem Segs.node {n : Str} {S : List Str} {r : List RI} (h : Segs (n :: S) r) : Segs S (.e (true, n) :: r) := by
  cases h with
  | more w h =>
    cases h with
    | last v => exact .last (.cons n w v)
    | @more v m S r h =>
      have := Segs.more (.cons n w v) (n := m) h
      simpa [GW.row] using this
theorem segs_of : ∀ {r : List RI} {S : List Str}, run S r = some [] → Segs S r
  | [], S, h => by
    have : S = [] := Option.some.inj h
    subst this
    exact .last .nil
  | .g k :: r, S, h => Segs.gap k (segs_of (r := r) h)
  | .e (true, n) :: r, S, h => Segs.node (segs_of (r := r) h)
  | .e (false, n) :: r, [], h => nomatch h
  | .e (false, n) :: r, m :: S, h => by
    have h' : (if m = n then run S r else none) = some [] := h
    by_cases c : m = n
    · rw [if_pos c] at h'
      subst c
      exact .more .nil (segs_of h')
    · rw [if_neg c] at h'
      cases h'
theorem gw_of {r : List RI} (h : run [] r = some []) : ∃ w : GW, w.row = r := by
  cases segs_of h with
  | last w => exact ⟨w, rfl⟩
/-! ### the ends of a row -/
def ends : List RI → List Tok
  | [] => []
  | .e p :: r => p :: ends r
  | .g _ :: r => ends r
theorem ends_app : ∀ a b : List RI, ends (a ++ b) = ends a ++ ends b
  | [], b => rfl
  | .e p :: a, b => congrArg (p :: ·) (ends_app a b)
  | .g k :: a, b => ends_app a b
theorem mem_ends {p : Tok} : ∀ {r : List RI}, p ∈ ends r ↔ RI.e p ∈ r
  | [] => ⟨(fun h => nomatch h), (fun h => nomatch h)⟩
  | .e q :: r => by
    show p ∈ q :: ends r ↔ _
    rw [List.mem_cons, List.mem_cons, mem_ends (r := r)]
    exact ⟨fun h => h.imp (fun e => by rw [e]) id, fun h => h.imp (fun e => by cases e; rfl) id⟩
  | .g k :: r => by
    show p ∈ ends r ↔ _
    rw [List.mem_cons, mem_ends (r := r)]
    exact ⟨.inr, fun h => h.resolve_left (fun e => by cases e)⟩
/-- a row of a wood, with numbers or without -/
structure Ok (r : List RI) : Prop where
  bal : Bal r
  nd : (ends r).Nodup
theorem GW.pair : ∀ (w : GW) (n : Str), RI.e (true, n) ∈ w.row ↔ RI.e (false, n) ∈ w.row
  | .nil, n => ⟨(fun h => nomatch h), (fun h => nomatch h)⟩
  | .gap k r, n => by
    show _ ∈ .g k :: r.row ↔ _ ∈ .g k :: r.row
    rw [List.mem_cons, List.mem_cons, GW.pair r n]
    simp
  | .cons m i r, n => by
    show _ ∈ .e (true, m) :: (i.row ++ .e (false, m) :: r.row) ↔ _ ∈ .e (true, m) :: (i.row ++ .e (false, m) :: r.row)
    simp only [List.mem_cons, List.mem_append, GW.pair i n, GW.pair r n, RI.e.injEq, Prod.mk.injEq, true_and, Bool.true_eq_false, Bool.false_eq_true, false_and, false_or]
    constructor
    · rintro (h | h | h)
      · exact .inr (.inl h)
      · exact .inl h
      · exact .inr (.inr h)
    · rintro (h | h | h)
      · exact .inr (.inl h)
      · exact .inl h
      · exact .inr (.inr h)
theorem GW.split : ∀ {w : GW} {n : Str}, RI.e (true, n) ∈ w.row → ∃ (A : List RI) (i : GW) (B : List RI), w.row = A ++ .e (true, n) :: (i.row ++ .e (false, n) :: B)
  | .nil, n, h => nomatch h
  | .gap k r, n, h => by
    have h' : RI.e (true, n) ∈ RI.g k :: r.row := h
    rcases List.mem_cons.mp h' with e | e
    · cases e
    · obtain ⟨A, i, B, q⟩ := GW.split e
      exact ⟨.g k :: A, i, B, by show RI.g k :: r.row = _; rw [q]; rfl⟩
  | .cons m i r, n, h => by
    have h' : RI.e (true, n) ∈ .e (true, m) :: (i.row ++ .e (false, m) :: r.row) := h
    rcases List.mem_cons.mp h' with e | e
    · cases e
      exact ⟨[], i, r.row, rfl⟩
    · rcases List.mem_append.mp e with e | e
      · obtain ⟨A, j, B, q⟩ := GW.split e
        refine ⟨.e (true, m) :: A, j, B ++ .e (false, m) :: r.row, ?_⟩
        show .e (true, m) :: (i.row ++ .e (false, m) :: r.row) = _
        rw [q]
        simp
      · rcases List.mem_cons.mp e with e | e
        · cases e
        · obtain ⟨A, j, B, q⟩ := GW.split e
          refine ⟨.e (true, m) :: (i.row ++ .e (false, m) :: A), j, B, ?_⟩
          show .e (true, m) :: (i.row ++ .e (false, m) :: r.row) = _
          rw [q]
          simp
/-- how a row stands around a node -/
structure Sp (r : List RI) (n : Str) (A I B : List RI) : Prop where
  eq : r = A ++ .e (true, n) :: (I ++ .e (false, n) :: B)
  bal : Bal I
  out : ∀ b, RI.e (b, n) ∉ A ∧ RI.e (b, n) ∉ I ∧ RI.e (b, n) ∉ B
  i1 : ix (true, n) r = A.length
  i2 : ix (false, n) r = A.length + 1 + I.length
theorem nodup_parts {α : Type} {a b c d : List α} {x y : α} (h : (a ++ x :: (b ++ y :: c)).Nodup) : x ∉ a ∧ x ∉ b ∧ x ∉ c ∧ y ∉ a ∧ y ∉ b ∧ y ∉ c := by
  rw [List.nodup_append] at h
  obtain ⟨_, h2, h3⟩ := h
  rw [List.nodup_cons] at h2
  obtain ⟨h4, h5⟩ := h2
  rw [List.nodup_append] at h5
  obtain ⟨_, h6, h7⟩ := h5
  rw [List.nodup_cons] at h6
  refine ⟨fun z => h3 x z x List.mem_cons_self rfl, fun z => h4 (List.mem_append_left _ z), fun z => h4 (List.mem_append_right _ (List.mem_cons_of_mem _ z)), fun z => h3 y z y (List.mem_cons_of_mem _ (List.mem_append_right _ List.mem_cons_self)) rfl, fun z => h7 y z y List.mem_cons_self rfl, h6.1⟩
theorem Ok.sp {r : List RI} (o : Ok r) {n : Str} (h : RI.e (true, n) ∈ r) : ∃ A I B, Sp r n A I B := by
  obtain ⟨w, rfl⟩ := gw_of (o.bal [])
  obtain ⟨A, i, B, e⟩ := GW.split h
  have nd := o.nd
  rw [e, ends_app] at nd
  have nd' : (ends A ++ (true, n) :: (ends i.row ++ (false, n) :: ends B)).Nodup := by
    have : ends (.e (true, n) :: (i.row ++ .e (false, n) :: B)) = (true, n) :: (ends i.row ++ (false, n) :: ends B) := by
      show (true, n) :: ends (i.row ++ .e (false, n) :: B) = _
      rw [ends_app]
      rfl
    rw [this] at nd
    exact nd
  obtain ⟨p1, p2, p3, p4, p5, p6⟩ := nodup_parts (d := ([] : List Tok)) nd'
  rw [mem_ends] at p1 p2 p3 p4 p5 p6
  have out : ∀ b, RI.e (b, n) ∉ A ∧ RI.e (b, n) ∉ i.row ∧ RI.e (b, n) ∉ B := fun b => by cases b; exact ⟨p4, p5, p6⟩; exact ⟨p1, p2, p3⟩
  refine ⟨A, i.row, B, e, GW.bal i, out, by rw [e, ix_at p1], ?_⟩
  rw [e, show A ++ .e (true, n) :: (i.row ++ .e (false, n) :: B) = (A ++ .e (true, n) :: i.row) ++ .e (false, n) :: B by simp, ix_at ?_]
  · rw [List.length_append, List.length_cons]
    omega
  · rw [List.mem_append, List.mem_cons]
    rintro (h | h | h)
    · exact p4 h
    · cases h
    · exact p5 h
theorem Ok.pair {r : List RI} (o : Ok r) (n : Str) : RI.e (true, n) ∈ r ↔ RI.e (false, n) ∈ r := by
  obtain ⟨w, rfl⟩ := gw_of (o.bal [])
  exact GW.pair w n
/-- both ends of a name, in a balanced stretch or outside of it -/
theorem Bal.pair {r : List RI} (h : Bal r) (n : Str) : RI.e (true, n) ∈ r ↔ RI.e (false, n) ∈ r := by
  obtain ⟨w, rfl⟩ := gw_of (h [])
  exact GW.pair w n
/-- a balanced stretch taken out -/
theorem Bal.rest {a x b : List RI} (h : Bal (a ++ (x ++ b))) (hx : Bal x) : Bal (a ++ b) := fun S => by
  have e := h S
  rw [run_app] at e ⊢
  cases ea : run S a with
  | none => rw [ea] at e; cases e
  | some T =>
    rw [ea] at e
    have e' : run T (x ++ b) = some S := e
    rw [run_app, hx T] at e'
    exact e'
theorem Bal.ins {a b x : List RI} (h : Bal (a ++ b)) (hx : Bal x) : Bal (a ++ (x ++ b)) := fun S => by
  have e := h S
  rw [run_app] at e ⊢
  cases ea : run S a with
  | none => rw [ea] at e; cases e
  | some T =>
    rw [ea] at e
    have e' : run T b = some S := e
    show run T (x ++ b) = some S
    rw [run_app, hx T]
    exact e'
end Tw

namespace Tw
open PySem PySem.Spec PyProof.Rows L2
/-! ### deeds on rows -/
inductive Wk where
  | first | last | ahead | behind | front | back | swap | turn | lift | cut | pour | wrap | put
deriving DecidableEq
def Wk.str : Wk → Str
  | .first => "first" | .last => "last" | .ahead => "ahead" | .behind => "behind" | .front => "front" | .back => "back" | .swap => "swap" | .turn => "turn" | .lift => "lift" | .cut => "cut" | .pour => "pour" | .wrap => "wrap" | .put => "put"
def Wk.one : Wk → Bool
  | .front => true | .back => true | .lift => true | .cut => true | _ => false
structure Dd where
  k : Wk
  a : Str
  b : Str
def Dd.ns (d : Dd) : List Str := if d.k.one = true then [d.a] else [d.a, d.b]
def Dd.D (d : Dd) : Dt := .tuple (.str d.k.str :: d.ns.map .str)
def Dd.old (d : Dd) : List Str := match d.k with
  | .wrap => [d.a]
  | .put => [d.b]
  | _ => d.ns
def Dd.new (d : Dd) : List Str := match d.k with
  | .wrap => [d.b]
  | .put => [d.a]
  | _ => []
abbrev Th (r : List RI) (n : Str) : Prop := RI.e (true, n) ∈ r
def blk (r : List RI) (n : Str) : List RI := (r.drop (ix (true, n) r)).take (ix (false, n) r + 1 - ix (true, n) r)
def wout (r : List RI) (n : Str) : List RI := r.take (ix (true, n) r) ++ r.drop (ix (false, n) r + 1)
/-- a is b or is in it -/
abbrev Wi (r : List RI) (a b : Str) : Prop := RI.e (true, a) ∈ blk r b
def isIns (r : List RI) (d : Dd) : Bool := match d.k with
  | .first => decide (Wi r d.b d.a)
  | .last => decide (Wi r d.b d.a)
  | .ahead => decide (Wi r d.b d.a)
  | .behind => decide (Wi r d.b d.a)
  | .pour => decide (Wi r d.b d.a)
  | .swap => decide (Wi r d.a d.b) || decide (Wi r d.b d.a)
  | _ => false
def stopF (r : List RI) (d : Dd) : Option Str :=
  if ¬ (∀ n ∈ d.old, Th r n) then some "gone" else if ∃ n ∈ d.new, Th r n then some "taken" else if isIns r d = true then some "inside" else none
def at6 (rest : List RI) (k : Wk) (b : Str) : Nat := match k with
  | .front => 0
  | .back => rest.length
  | .first => ix (true, b) rest + 1
  | .last => ix (false, b) rest
  | .ahead => ix (true, b) rest
  | _ => ix (false, b) rest + 1
def insAt (r : List RI) (k : Nat) (x : List RI) : List RI := r.take k ++ (x ++ r.drop k)
def movedF (r : List RI) (k : Wk) (a b : Str) : List RI := insAt (wout r a) (at6 (wout r a) k b) (blk r a)
def swapF1 (r : List RI) (a b : Str) : List RI := r.take (ix (true, a) r) ++ (blk r b ++ ((r.drop (ix (false, a) r + 1)).take (ix (true, b) r - (ix (false, a) r + 1)) ++ (blk r a ++ r.drop (ix (false, b) r + 1))))
def swapF (r : List RI) (a b : Str) : List RI := if ix (true, b) r < ix (true, a) r then swapF1 r b a else swapF1 r a b
def ren (a b n : Str) : Str := if n = a then b else if n = b then a else n
def renI (a b : Str) : RI → RI
  | .e p => .e (p.1, ren a b p.2)
  | .g k => .g k
def inn (r : List RI) (n : Str) : List RI := (r.drop (ix (true, n) r + 1)).take (ix (false, n) r - (ix (true, n) r + 1))
def lessI (r : List RI) (n : Str) : List RI := r.take (ix (true, n) r + 1) ++ r.drop (ix (false, n) r)
def doneF (r : List RI) (d : Dd) : List RI := match d.k with
  | .swap => swapF r d.a d.b
  | .turn => r.map (renI d.a d.b)
  | .pour => insAt (lessI r d.a) (ix (false, d.b) (lessI r d.a)) (inn r d.a)
  | .put => insAt r (ix (false, d.b) r) [.e (true, d.a), .e (false, d.a)]
  | .cut => wout r d.a
  | .lift => r.take (ix (true, d.a) r) ++ (inn r d.a ++ r.drop (ix (false, d.a) r + 1))
  | .wrap => r.take (ix (true, d.a) r) ++ (.e (true, d.b) :: (blk r d.a ++ .e (false, d.b) :: r.drop (ix (false, d.a) r + 1)))
  | k => movedF r k d.a d.b
/-! what the parts are, around a node -/
section
variable {r A I B : List RI} {n : Str} (s : Sp r n A I B)
include s
theorem Sp.take : r.take (ix (true, n) r) = A := by
  rw [s.i1]
  conv => lhs; rw [s.eq]
  simp
theorem Sp.drop : r.drop (ix (false, n) r + 1) = B := by
  rw [s.i2]
  conv => lhs; rw [s.eq]
  rw [show A ++ .e (true, n) :: (I ++ .e (false, n) :: B) = (A ++ .e (true, n) :: (I ++ [.e (false, n)])) ++ B by simp]
  exact List.drop_left' (by simp; omega)
theorem Sp.blk : blk r n = .e (true, n) :: (I ++ [.e (false, n)]) := by
  unfold Tw.blk
  rw [s.i1, s.i2]
  conv => lhs; rw [s.eq]
  rw [List.drop_left' rfl, show .e (true, n) :: (I ++ .e (false, n) :: B) = (.e (true, n) :: (I ++ [.e (false, n)])) ++ B by simp]
  exact List.take_left' (by simp; omega)
theorem Sp.wout : wout r n = A ++ B := by
  unfold Tw.wout
  rw [s.take, s.drop]
theorem Sp.inn : inn r n = I := by
  unfold Tw.inn
  rw [s.i1, s.i2]
  conv => lhs; rw [s.eq]
  rw [show A ++ .e (true, n) :: (I ++ .e (false, n) :: B) = (A ++ [.e (true, n)]) ++ (I ++ .e (false, n) :: B) by simp, List.drop_left' (by simp)]
  exact List.take_left' (by omega)
theorem Sp.lessI : lessI r n = A ++ (.e (true, n) :: .e (false, n) :: B) := by
  unfold Tw.lessI
  rw [s.i1, s.i2]
  have e1 : r.take (A.length + 1) = A ++ [.e (true, n)] := by
    conv => lhs; rw [s.eq]
    rw [show A ++ .e (true, n) :: (I ++ .e (false, n) :: B) = (A ++ [.e (true, n)]) ++ (I ++ .e (false, n) :: B) by simp]
    exact List.take_left' (by simp)
  have e2 : r.drop (A.length + 1 + I.length) = .e (false, n) :: B := by
    conv => lhs; rw [s.eq]
    rw [show A ++ .e (true, n) :: (I ++ .e (false, n) :: B) = (A ++ .e (true, n) :: I) ++ (.e (false, n) :: B) by simp]
    exact List.drop_left' (by simp; omega)
  rw [e1, e2]
  simp
theorem Sp.bb : Bal (Tw.blk r n) := by
  rw [s.blk]
  exact Bal.block s.bal
theorem Sp.whole : A ++ (Tw.blk r n ++ B) = r := by
  rw [s.blk]
  conv => rhs; rw [s.eq]
  simp
end
theorem Sp.rest {r A I B : List RI} {n : Str} (s : Sp r n A I B) (o : Ok r) : Bal (Tw.wout r n) := by
  rw [s.wout]
  refine Bal.rest (x := Tw.blk r n) ?_ s.bb
  rw [s.whole]
  exact o.bal
end Tw

namespace Tw
open PySem PySem.Spec PyProof.Rows L2
/-! ### swap and turn -/
def GW.ren (a b : Str) : GW → GW
  | .nil => .nil
  | .cons n i r => .cons (Tw.ren a b n) (i.ren a b) (r.ren a b)
  | .gap k r => .gap k (r.ren a b)
/-! ### a deed that does not stop leads to a row -/
end Tw

namespace Tw
open PySem PySem.Spec PyProof.Rows L2
/-! ### expressions that change nothing, part by part -/
def Ev (m : ME) (env : Env) (x : Dt) : Prop := ∀ te, m env te = .ok (.d x) env
theorem Ev.v {env : Env} {i : Nat} {x : Dt} (h : env[i]? = some (some (.d x))) : Ev (mVar i) env x := fun te => by
  rw [ev_mVar, h]
  rfl
theorem Ev.c {env : Env} {x : Dt} : Ev (mC x) env x := fun _ => rfl
theorem Ev.addI {ma mb : ME} {env : Env} {i j : Int} (ha : Ev ma env (.int i)) (hb : Ev mb env (.int j)) : Ev (mOp addA ma mb) env (.int (i + j)) := fun te => by
  rw [ev_mOp, ha, zq00, ek_mOp_0, hb, zq00, ek_mOp_1]
  simp!
theorem Ev.addS {ma mb : ME} {env : Env} {x y : Str} (ha : Ev ma env (.str x)) (hb : Ev mb env (.str y)) (h : x.length + y.length ≤ 10000) : Ev (mOp addA ma mb) env (.str (x ++ y)) := fun te => by
  have h' : x.length + y.length ≤ sizeLine := big (by omega)
  rw [ev_mOp, ha, zq00, ek_mOp_0, hb, zq00, ek_mOp_1]
  simp! [h']
theorem Ev.eq {ma mb : ME} {env : Env} {x y : Dt} {b : Bool} {g : Dt → Dt → Option Dt} (ha : Ev ma env x) (hb : Ev mb env y) (h : g x y = some (.bool b)) : Ev (mOp (fl2 g) ma mb) env (.bool b) := fun te => by
  rw [ev_mOp, ha, zq00, ek_mOp_0, hb, zq00, ek_mOp_1]
  simp! [h]
theorem Ev.tst {m : ME} {env : Env} {b : Bool} (h : Ev m env (.bool b)) (te : List A) : mTst m env te = .ok b env := by
  rw [show mTst m env te = (m env te).bind tstA from rfl, h, zq00]
  rfl
theorem Ev.ix {ma mb : ME} {env : Env} {xs : List Dt} {i : Int} {x : Dt} (ha : Ev ma env (.tuple xs)) (hb : Ev mb env (.int i)) (h : atI xs i = some x) : Ev (mOp ixA ma mb) env x := fun te => by
  rw [ev_mOp, ha, zq00, ek_mOp_0, hb, zq00, ek_mOp_1]
  simp! [h]
theorem Ev.d {m : ME} {env : Env} {x : Dt} (h : Ev m env x) : Ev (mD m) env x := fun te => by
  rw [ev_mD, h]
  rfl
theorem cutD_map {α β : Type} (f : α → β) (xs : List α) (lo hi : Option Int) : cutD (xs.map f) lo hi = (cutD xs lo hi).map f := by
  unfold cutD
  rw [List.length_map, List.map_take, List.map_drop]
theorem Ev.sl {m ml mh : ME} {env : Env} {xs : List Dt} {i j : Int} (h : Ev m env (.tuple xs)) (hl : Ev ml env (.int i)) (hh : Ev mh env (.int j)) : Ev (mSl m (mPart ml) (mPart mh)) env (.tuple (cutD xs (some i) (some j))) := fun te => by
  rw [ev_mSl, h, zq00, ek_mSl_0, ev_mPart, hl]
  simp only [zq00, ek_mPart_0]
  show Rs.bind (.ok (some i) env) _ = _
  rw [zq00, ek_mSl_1, ev_mPart, hh]
  simp!
theorem Ev.slF {m ml : ME} {env : Env} {xs : List Dt} {i : Int} (h : Ev m env (.tuple xs)) (hl : Ev ml env (.int i)) : Ev (mSl m (mPart ml) mNoPart) env (.tuple (cutD xs (some i) none)) := fun te => by
  rw [ev_mSl, h, zq00, ek_mSl_0, ev_mPart, hl]
  simp!
theorem Ev.sF {m ml : ME} {env : Env} {r : List RI} {i : Nat} (h : Ev m env (rowD r)) (hl : Ev ml env (.int i)) : Ev (mSl m (mPart ml) mNoPart) env (rowD (r.drop i)) := by
  have := Ev.slF h hl
  rw [cutD_map, cutD_from] at this
  exact this
theorem Ev.nil {env : Env} : ∀ te, mNil env te = .ok [] env := fun _ => rfl
def Evs (m : MA) (env : Env) (xs : List Dt) : Prop := ∀ te, m env te = .ok (xs.map .d) env
theorem Evs.nil {env : Env} : Evs mNil env [] := fun _ => rfl
theorem Evs.cons {m : ME} {ms : MA} {env : Env} {x : Dt} {xs : List Dt} (h : Ev m env x) (hs : Evs ms env xs) : Evs (mCons m ms) env (x :: xs) := fun te => by
  rw [ev_mCons, h, zq00, ek_mCons_0, hs, zq00]
  rfl
theorem dAll_d : ∀ xs : List Dt, dAll (xs.map .d) = some xs
  | [] => rfl
  | x :: xs => by
    show (dAll (xs.map .d)).map (x :: ·) = _
    rw [dAll_d xs]
    rfl
theorem Ev.tup {ms : MA} {env : Env} {xs : List Dt} (h : Evs ms env xs) (hl : xs.length ≤ 100000) : Ev (mTup ms) env (.tuple xs) := fun te => by
  have h' : xs.length ≤ sizeLine := big hl
  rw [ev_mTup, h, zq00]
  simp! [dAll_d, h']
theorem Ev.call {F : DF} {io : List Bool} {ms : MA} {env : Env} {xs : List Dt} {y : Dt} {ios : List A} (h : Evs ms env xs) (hio : io = xs.map fun _ => false) (hf : F (xs.map .d) = .ok (.d y) ios) : Ev (mCall (noXf F) io ms) env y := fun te => by
  have cv : ∀ xs : List Dt, cvAs (xs.map fun _ => false) (xs.map .d) env = some (xs.map fun x => ⟨.d x, none, none⟩) := by
    intro xs
    induction xs with
    | nil => rfl
    | cons x xs ih =>
      show (match cvA false env (.d x), cvAs (xs.map fun _ => false) (xs.map .d) env with | some g, some gs => some (g :: gs) | _, _ => none) = _
      rw [ih]
      rfl
  have io0 : ioS (xs.map fun x => (⟨.d x, none, none⟩ : Ag)) = [] := by
    unfold ioS
    rw [List.filterMap_map]
    exact List.filterMap_eq_nil_iff.mpr fun _ _ => rfl
  have br0 : brS (xs.map fun x => (⟨.d x, none, none⟩ : Ag)) = [] := by
    unfold brS
    rw [List.filterMap_map]
    exact List.filterMap_eq_nil_iff.mpr fun _ _ => rfl
  have ao : agOk env te (xs.map fun x => (⟨.d x, none, none⟩ : Ag)) = true := by
    unfold agOk
    rw [io0]
    rfl
  have am : (xs.map fun x => (⟨.d x, none, none⟩ : Ag)).map (·.a) = xs.map .d := by rw [List.map_map]; rfl
  have st : ∀ (zs : List Dt) (ios : List A), setIo env (zs.map fun x => (⟨.d x, none, none⟩ : Ag)) ios = env := by
    intro zs
    induction zs with
    | nil => intro ios; cases ios <;> rfl
    | cons z zs ih =>
      intro ios
      cases ios with
      | nil => rfl
      | cons i ios => exact ih ios
  rw [ev_mCall, h, zq00, hio]
  simp only [ek_mCall_0]
  rw [cv]
  show doCall (noXf F) env te _ = _
  unfold doCall
  rw [if_pos ao, am]
  unfold noXf
  rw [hf]
  show (if (brS _).isEmpty = true ∨ _ then Rs.ok (A.d y) (setIo env _ _) else .bad) = _
  rw [br0, if_pos (.inl rfl), st]
end Tw

namespace Tw
open PySem PySem.Spec PyProof.Rows L2
/-! ### the deeds' helpers -/
theorem gT2 {m : ME} {env e : Env} {te : List A} {i j : Nat} {x y : Dt} (h : m env te = .ok (.d (.tuple [x, y])) env) (h1 : gN i (.d x) env te = some e) {e' : Env} (h2 : gN j (.d y) e te = some e') : mAsg m (gT [i, j]) env te = .nx e' := by
  rw [ev_mAsg, h, ev_fl_ok]
  show (match ((gN i (.d x) env te).bind fun e => (gN j (.d y) e te).bind fun e => gTs [] [] e te) with | some e' => Fl.nx e' | none => .bad) = _
  rw [h1]
  show (match (gN j (.d y) e te).bind (fun e => gTs [] [] e te) with | some e' => Fl.nx e' | none => .bad) = _
  rw [h2]
  rfl
theorem Wk.inj : ∀ k k' : Wk, decide (k.str = k'.str) = decide (k = k') := by
  intro k k'
  cases k <;> cases k' <;> decide +kernel
theorem atI_0 {α : Type} (x : α) (l : List α) : atI (x :: l) 0 = some x := atI_nat (j := 0) rfl
theorem Dd.at1 (d : Dd) : atI (.str d.k.str :: d.ns.map PyData.str) 1 = some (.str d.a) := by
  refine atI_nat (j := 1) ?_
  unfold Dd.ns
  split <;> rfl
theorem Dd.at2 (d : Dd) (h : d.k.one = false) : atI (.str d.k.str :: d.ns.map PyData.str) 2 = some (.str d.b) := by
  refine atI_nat (j := 2) ?_
  unfold Dd.ns
  rw [if_neg (by rw [h]; exact Bool.false_ne_true)]
  rfl
end Tw

namespace Tw
open PySem PySem.Spec PyProof.Rows L2
/-! ### names that hold data alone -/
def deB : Env → Bool
  | [] => true
  | none :: e => deB e
  | some (.d _) :: e => deB e
  | _ :: _ => false
theorem deB_rf : ∀ {env : Env}, deB env = true → ∀ i, inE (isRf i) env = false
  | [], _, i => rfl
  | none :: e, h, i => by rw [inE_cons, cB_none, deB_rf (env := e) h]; rfl
  | some (.d x) :: e, h, i => by rw [inE_cons, cB_some, deB_rf (env := e) h]; rfl
theorem deB_io : ∀ {env : Env}, deB env = true → ∀ i : Nat, nIo env[i]? = true
  | [], _, i => rfl
  | none :: e, h, 0 => rfl
  | some (.d x) :: e, h, 0 => rfl
  | none :: e, h, i + 1 => deB_io (env := e) h i
  | some (.d x) :: e, h, i + 1 => deB_io (env := e) h i
theorem gN_d {env : Env} {i : Nat} {x : Dt} (hd : deB env = true) (hi : i < env.length) : gN i (.d x) env [] = some (env.set i (some (.d x))) := by
  refine if_pos ?_
  rw [ev_setOk, deB_io hd]
  unfold anyC
  rw [deB_rf hd]
  simp [hi, isRf, isIo]
theorem Asg.d {m : ME} {env : Env} {i : Nat} {x : Dt} (h : Ev m env x) (hd : deB env = true) (hi : i < env.length) : mAsg m (gN i) env [] = .nx (env.set i (some (.d x))) := by
  rw [ev_mAsg, h, ev_fl_ok]
  show (match gN i (.d x) env [] with | some e' => Fl.nx e' | none => .bad) = _
  rw [gN_d hd hi]
theorem deB_set : ∀ {env : Env}, deB env = true → ∀ (i : Nat) (x : Dt), deB (env.set i (some (.d x))) = true
  | [], _, _, _ => rfl
  | none :: e, h, 0, x => h
  | some (.d y) :: e, h, 0, x => h
  | none :: e, h, i + 1, x => deB_set (env := e) h i x
  | some (.d y) :: e, h, i + 1, x => deB_set (env := e) h i x
theorem Asg.t {m : ME} {env : Env} {i j : Nat} {x y : Dt} (h : Ev m env (.tuple [x, y])) (hd : deB env = true) (hi : i < env.length) (hj : j < env.length) : mAsg m (gT [i, j]) env [] = .nx ((env.set i (some (.d x))).set j (some (.d y))) :=
  gT2 (h []) (gN_d hd hi) (gN_d (deB_set hd i x) (by rw [List.length_set]; exact hj))
/-- a comprehension among data -/
theorem Ev.lc {mi : MI} {tt : MT} {el : ME} {j : Nat} {env : Env} {te : List A} {D : Dt} {xs : List Dt} (p : Dt → Bool) (f : Dt → Dt) (hm : mi env te = .ok ([.d D], fun _ => some xs) env) (hd : deB env = true) (hj : env[j]? = some none) (hl : xs.length ≤ 100000) (ht0 : te.any (isRf j) = false)
    (ht : ∀ x ∈ xs, ∀ te, tt (env.set j (some (.d x))) te = .ok (p x) (env.set j (some (.d x)))) (he : ∀ x ∈ xs, p x = true → Ev el (env.set j (some (.d x))) (f x)) : mLc .d mi (gN j) tt el [j] env te = .ok (.own (.l ((xs.filter p).map f))) env := by
  refine lc_gen (as := [.d D]) p f hm hj ?_ hl (fun x hx acc => ht x hx _) (fun x hx hp acc => he x hx hp _)
  unfold anyC
  rw [deB_rf hd, List.any_append, ht0]
  rfl
theorem seqI_ev {m : ME} {env : Env} {te : List A} {xs : List Dt} (h : Ev m env (.tuple xs)) : mSeqI m env te = .ok ([.d (.tuple xs)], fun _ => some xs) env := seqI_ok (h te) (.inr rfl)
def oS : Option Str → Dt
  | some z => .str z
  | none => .none
/-- the names of a deed are short -/
def Dd.sm (d : Dd) : Prop := d.a.length ≤ 1000 ∧ d.b.length ≤ 1000
theorem or_ev {ma mb : MT} {env : Env} {te : List A} {a b : Bool} (ha : ma env te = .ok a env) (hb : a = false → mb env te = .ok b env) : mOr ma mb env te = .ok (a || b) env := by
  rw [ev_mOr, ha, zq00]
  simp only [ek_mOr_0]
  cases a with
  | false => simpa using hb rfl
  | true => rfl
theorem not_ev {ma : MT} {env : Env} {te : List A} {a : Bool} (ha : ma env te = .ok a env) : mNot ma env te = .ok (!a) env := by
  rw [ev_mNot, ha, zq00]
  rfl
end Tw

namespace Tw
open PySem PySem.Spec PyProof.Rows L2
def Wk.mv : Wk → Bool
  | .first => true | .last => true | .ahead => true | .behind => true | .front => true | .back => true | _ => false
end Tw

namespace Tw
open PySem PySem.Spec PyProof.Rows L2
end Tw

namespace Tw
open PySem PySem.Spec PyProof.Rows L2
end Tw

namespace Tw
open PySem PySem.Spec PyProof.Rows L2
theorem gN_dt {env : Env} {i : Nat} {x : Dt} {te : List A} (hd : deB env = true) (hi : i < env.length) (ht : te.any (isRf i) = false) : gN i (.d x) env te = some (env.set i (some (.d x))) := by
  refine if_pos ?_
  rw [ev_setOk, deB_io hd]
  unfold anyC
  rw [deB_rf hd, List.any_cons, ht]
  simp [hi, isRf, isIo]
theorem Asg.dt {m : ME} {env : Env} {i : Nat} {x : Dt} {te : List A} (h : Ev m env x) (hd : deB env = true) (hi : i < env.length) (ht : te.any (isRf i) = false) : mAsg m (gN i) env te = .nx (env.set i (some (.d x))) := by
  rw [ev_mAsg, h, ev_fl_ok]
  show (match gN i (.d x) env te with | some e' => Fl.nx e' | none => .bad) = _
  rw [gN_dt hd hi ht]
/-! ### a row of deeds -/
def doneAll (i : Nat) (r : List RI) : List Dd → (Nat × Str) ⊕ List RI
  | [] => .inr r
  | d :: ds => match stopF r d with
    | some z => .inl (i, z)
    | none => doneAll (i + 1) (doneF r d) ds
/-! ### rows of woods -/
def Wd.rows (w : Wd) : List RI := w.toks.map RI.e
theorem Wd.rowD (w : Wd) : Tw.rowD w.rows = .tuple w.tks := by
  show PyData.tuple ((w.toks.map RI.e).map RI.D) = _
  rw [List.map_map]
  rfl
theorem ends_map : ∀ l : List Tok, ends (l.map RI.e) = l
  | [] => rfl
  | p :: l => congrArg (p :: ·) (ends_map l)
def Wd.gw : Wd → GW
  | .nil => .nil
  | .cons n i r => .cons n i.gw r.gw
theorem Wd.gw_row : ∀ w : Wd, w.gw.row = w.rows
  | .nil => rfl
  | .cons n i r => by
    show RI.e (true, n) :: (i.gw.row ++ RI.e (false, n) :: r.gw.row) = ((true, n) :: (i.toks ++ (false, n) :: r.toks)).map RI.e
    rw [Wd.gw_row i, Wd.gw_row r, List.map_cons, List.map_append, List.map_cons]
    rfl
theorem Wd.ok {w : Wd} (nd : w.names.Nodup) : Ok w.rows := ⟨by rw [← Wd.gw_row]; exact GW.bal _, by show (ends (w.toks.map RI.e)).Nodup; rw [ends_map]; exact toks_nodup nd⟩
def GW.wd : GW → Wd
  | .nil => .nil
  | .cons n i r => .cons n i.wd r.wd
  | .gap _ r => r.wd
theorem Wd.th {w : Wd} {n : Str} : Th w.rows n ↔ n ∈ w.names := by
  show RI.e (true, n) ∈ w.toks.map RI.e ↔ _
  rw [List.mem_map, ← toks_names2 true]
  constructor
  · rintro ⟨p, hp, e⟩
    cases e
    exact hp
  · intro h
    exact ⟨_, h, rfl⟩
/-- names of deeds are names -/
def Dd.nm (d : Dd) : Prop := IsNm d.a ∧ IsNm d.b
end Tw

namespace Tw
open PySem PySem.Spec PyProof.Rows L2
/-! ### the law's own blocks -/
end Tw

namespace Tw
open PySem PySem.Spec PyProof.Rows L2
end Tw

namespace Tw
open PySem PySem.Spec PyProof.Rows L2
/-! ### names that hold data or things of their own -/
def owB : Env → Bool
  | [] => true
  | none :: e => owB e
  | some (.d _) :: e => owB e
  | some (.own _) :: e => owB e
  | _ :: _ => false
theorem owB_rf : ∀ {env : Env}, owB env = true → ∀ i, inE (isRf i) env = false
  | [], _, i => rfl
  | none :: e, h, i => by rw [inE_cons, cB_none, owB_rf (env := e) h]; rfl
  | some (.d x) :: e, h, i => by rw [inE_cons, cB_some, owB_rf (env := e) h]; rfl
  | some (.own x) :: e, h, i => by rw [inE_cons, cB_some, owB_rf (env := e) h]; rfl
theorem owB_io : ∀ {env : Env}, owB env = true → ∀ i : Nat, nIo env[i]? = true
  | [], _, i => rfl
  | none :: e, h, 0 => rfl
  | some (.d x) :: e, h, 0 => rfl
  | some (.own x) :: e, h, 0 => rfl
  | none :: e, h, i + 1 => owB_io (env := e) h i
  | some (.d x) :: e, h, i + 1 => owB_io (env := e) h i
  | some (.own x) :: e, h, i + 1 => owB_io (env := e) h i
theorem Asg.o {m : ME} {env : Env} {i : Nat} {x : Dt} {te : List A} (h : Ev m env x) (hd : owB env = true) (hi : i < env.length) (ht : te.any (isRf i) = false) : mAsg m (gN i) env te = .nx (env.set i (some (.d x))) := by
  rw [ev_mAsg, h, ev_fl_ok]
  have g : gN i (.d x) env te = some (env.set i (some (.d x))) := by
    refine if_pos ?_
    rw [ev_setOk, owB_io hd]
    unfold anyC
    rw [owB_rf hd, List.any_cons, ht]
    simp [hi, isRf, isIo]
  show (match gN i (.d x) env te with | some e' => Fl.nx e' | none => .bad) = _
  rw [g]
/-! ### lift and pour as the law asks for them -/
end Tw

namespace Tw
open PySem PySem.Spec PyProof.Rows L2
theorem Ev.neg {m : ME} {env : Env} {i : Int} (h : Ev m env (.int i)) : Ev (mU (fl1 negD) m) env (.int (-i)) := fun te => by
  rw [ev_mU, h]
  simp! [negD]
end Tw

namespace Tw
open PySem PySem.Spec PyProof.Rows L2
theorem gtD_nat (i j : Nat) : gtD (.int i) (.int j) = some (.bool (decide (j < i))) := by simp [gtD]
end Tw

namespace Tw
open PySem PySem.Spec PyProof.Rows L2
/-! ### what raises -/
theorem call_data {F : DF} {io : List Bool} {ms : MA} {env : Env} {xs : List Dt} {te : List A} (h : Evs ms env xs) (hio : io = xs.map fun _ => false) : mCall F io ms env te = match F (xs.map .d) with
    | .ok r _ => .ok r env
    | .ex x _ => .ex x env
    | .bad => .bad := by
  have cv : ∀ xs : List Dt, cvAs (xs.map fun _ => false) (xs.map .d) env = some (xs.map fun x => ⟨.d x, none, none⟩) := by
    intro xs
    induction xs with
    | nil => rfl
    | cons x xs ih =>
      show (match cvA false env (.d x), cvAs (xs.map fun _ => false) (xs.map .d) env with | some g, some gs => some (g :: gs) | _, _ => none) = _
      rw [ih]
      rfl
  have io0 : ioS (xs.map fun x => (⟨.d x, none, none⟩ : Ag)) = [] := by
    unfold ioS
    rw [List.filterMap_map]
    exact List.filterMap_eq_nil_iff.mpr fun _ _ => rfl
  have br0 : brS (xs.map fun x => (⟨.d x, none, none⟩ : Ag)) = [] := by
    unfold brS
    rw [List.filterMap_map]
    exact List.filterMap_eq_nil_iff.mpr fun _ _ => rfl
  have ao : agOk env te (xs.map fun x => (⟨.d x, none, none⟩ : Ag)) = true := by
    unfold agOk
    rw [io0]
    rfl
  have am : (xs.map fun x => (⟨.d x, none, none⟩ : Ag)).map (·.a) = xs.map .d := by rw [List.map_map]; rfl
  have st : ∀ (zs : List Dt) (ios : List A), setIo env (zs.map fun x => (⟨.d x, none, none⟩ : Ag)) ios = env := by
    intro zs
    induction zs with
    | nil => intro ios; cases ios <;> rfl
    | cons z zs ih =>
      intro ios
      cases ios with
      | nil => rfl
      | cons i ios => exact ih ios
  rw [ev_mCall, h, zq00, hio]
  simp only [ek_mCall_0]
  rw [cv]
  show doCall F env te _ = _
  unfold doCall
  rw [if_pos ao, am]
  cases F (xs.map .d) with
  | bad => rfl
  | ok r ios =>
    show (if (brS _).isEmpty = true ∨ _ then Rs.ok r (setIo env _ _) else .bad) = _
    rw [br0, if_pos (.inl rfl), st]
  | ex x ios =>
    show (if (brS _).isEmpty = true ∨ _ then Rs.ex x (setIo env _ _) else .bad) = _
    rw [br0, if_pos (.inl rfl), st]
end Tw

namespace Tw
open PySem PySem.Spec PyProof.Rows L2
theorem lst_ev {ms : MA} {env : Env} {xs : List Dt} {te : List A} (h : Evs ms env xs) (hl : xs.length ≤ 100000) : mLst ms env te = .ok (.own (.l xs)) env := by
  show (ms env te).bind _ = _
  rw [h, zq00, dAll_d]
  exact if_pos (big hl)
theorem Ev.ifE {c : MT} {ma mb : ME} {env : Env} {b : Bool} {x : Dt} (hc : ∀ te, c env te = .ok b env) (h1 : b = true → Ev ma env x) (h2 : b = false → Ev mb env x) : Ev (mIfE c ma mb) env x := fun te => by
  show (c env te).bind _ = _
  rw [hc, zq00]
  cases b with
  | true => exact h1 rfl te
  | false => exact h2 rfl te
end Tw

namespace Tw
open PySem PySem.Spec PyProof.Rows L2
/-! ### names that hold plain things -/
def plB : Env → Bool
  | [] => true
  | none :: e => plB e
  | some (.d _) :: e => plB e
  | some (.own _) :: e => plB e
  | some (.sc _) :: e => plB e
  | _ :: _ => false
theorem plB_rf : ∀ {env : Env}, plB env = true → ∀ i, inE (isRf i) env = false
  | [], _, i => rfl
  | none :: e, h, i => by rw [inE_cons, cB_none, plB_rf (env := e) h]; rfl
  | some (.d x) :: e, h, i => by rw [inE_cons, cB_some, plB_rf (env := e) h]; rfl
  | some (.own x) :: e, h, i => by rw [inE_cons, cB_some, plB_rf (env := e) h]; rfl
  | some (.sc x) :: e, h, i => by rw [inE_cons, cB_some, plB_rf (env := e) h]; rfl
theorem plB_io : ∀ {env : Env}, plB env = true → ∀ i : Nat, nIo env[i]? = true
  | [], _, i => rfl
  | none :: e, h, 0 => rfl
  | some (.d x) :: e, h, 0 => rfl
  | some (.own x) :: e, h, 0 => rfl
  | some (.sc x) :: e, h, 0 => rfl
  | none :: e, h, i + 1 => plB_io (env := e) h i
  | some (.d x) :: e, h, i + 1 => plB_io (env := e) h i
  | some (.own x) :: e, h, i + 1 => plB_io (env := e) h i
  | some (.sc x) :: e, h, i + 1 => plB_io (env := e) h i
theorem gN_pl {env : Env} {i : Nat} {a : A} {te : List A} (hd : plB env = true) (hi : i < env.length) (ht : te.any (isRf i) = false) (ha : (∃ x, a = .d x) ∨ (∃ o, a = .own o)) : gN i a env te = some (env.set i (some a)) := by
  refine if_pos ?_
  rw [ev_setOk, plB_io hd]
  unfold anyC
  rw [plB_rf hd, List.any_cons, ht]
  rcases ha with ⟨x, rfl⟩ | ⟨x, rfl⟩ <;> simp [hi, isRf, isIo]
theorem Asg.pl {m : ME} {env : Env} {i : Nat} {a : A} {te : List A} (h : m env te = .ok a env) (hd : plB env = true) (hi : i < env.length) (ht : te.any (isRf i) = false) (ha : (∃ x, a = .d x) ∨ (∃ o, a = .own o)) : mAsg m (gN i) env te = .nx (env.set i (some a)) := by
  rw [ev_mAsg, h, ev_fl_ok]
  show (match gN i a env te with | some e' => Fl.nx e' | none => .bad) = _
  rw [gN_pl hd hi ht ha]
theorem repr_ev {m : ME} {env : Env} {a : A} {x : Dt} {s : Str} {te : List A} (h : m env te = .ok a env) (hv : a.val env = some x) (hr : reprD x = some (.str s)) : mCB (one (fl1 reprD)) (mCons m mNil) env te = .ok (.d (.str s)) env := by
  show Rs.bind (mCons m mNil env te) _ = _
  have e : mCons m mNil env te = .ok [a] env := by
    rw [ev_mCons, h, zq00, ek_mCons_0]
    rfl
  rw [e, zq00]
  show fl1 reprD env a = _
  unfold fl1
  rw [hv]
  show (match reprD x with | some y => Rs.ok (A.d y) env | none => .bad) = _
  rw [hr]
theorem call_own {F : DF} {io : List Bool} {ms : MA} {env : Env} {xs : List Dt} {o : Ow} {ios : List A} {te : List A} (h : Evs ms env xs) (hio : io = xs.map fun _ => false) (hf : F (xs.map .d) = .ok (.own o) ios) : mCall (noXf F) io ms env te = .ok (.own o) env := by
  rw [call_data h hio]
  unfold noXf
  rw [hf]
  rfl
theorem Ev.dl {ms : MA} {env : Env} {xs : List Dt} (h : Evs ms env xs) (hl : xs.length ≤ 100000) : Ev (mD (mLst ms)) env (.list xs) := fun te => by
  show (mLst ms env te).bind _ = _
  rw [lst_ev h hl, zq00]
  rfl
end Tw

namespace Tw
open PySem PySem.Spec PyProof.Rows L2
/-! ### scripts that are drawn -/
/-! ### old and new names -/
def Dd.made (d : Dd) : Nat := match d.k with
  | .wrap => 2
  | .put => 1
  | _ => 0
end Tw

namespace Tw
open PySem PySem.Spec PyProof.Rows L2
end Tw

namespace Tw
open PySem PySem.Spec PyProof.Rows L2
/-! ### repr of woods -/
end Tw

namespace Tw
open PySem PySem.Spec PyProof.Rows L2
/-! ### scripts tried, whole and deed by deed -/
end Tw

namespace Tw
open PySem PySem.Spec PyProof.Rows L2
/-! ### scripts cut in two -/
end Tw

namespace Tw
open PySem PySem.Spec PyProof.Rows L2
/-! ### other names -/
def Dd.rn (f : Str → Str) (d : Dd) : Dd := ⟨d.k, f d.a, f d.b⟩
end Tw

namespace Tw
open PySem PySem.Spec PyProof.Rows L2
def Wd.rn (f : Str → Str) : Wd → Wd
  | .nil => .nil
  | .cons n i r => .cons (f n) (i.rn f) (r.rn f)
/-! ### a one to one exchange of all texts -/
/-! ### gaps and children -/
theorem Ev.dgO {env : Env} {i : Nat} {mb : ME} {kvs : List (Key × Dt)} {z : Str} {x : Dt} (hd : env[i]? = some (some (.own (.dc kvs)))) (hk : Ev mb env (.str z)) (h : lkD kvs (.inr z) = some x) : Ev (mOp dgA (mVar i) mb) env x := fun te => by
  have hv : mVar i env te = .ok (.rf i none) env := by unfold mVar; rw [hd]; rfl
  show Rs.bind (mVar i env te) _ = _
  rw [hv, zq00]
  show Rs.bind (mb env _) _ = _
  rw [hk, zq00]
  have eo : owAt env i = some (.dc kvs) := by unfold owAt; rw [hd]
  show (match Tw.dgO env (.rf i none) (.inr z) with | some (.dt x) => Rs.ok (A.d x) env | some .li => .ok (.rf i (some (.inr z))) env | _ => .bad) = _
  have e : Tw.dgO env (.rf i none) (.inr z) = some (match lkD kvs (.inr z) with | some x => .dt x | none => .no) := by
    unfold Tw.dgO
    simp only [eo]
    all_goals (cases lkD kvs (.inr z) <;> rfl)
  rw [e, h]
end Tw

namespace Tw
open PySem PySem.Spec PyProof.Rows L2
/-! ### which names are old and which are new -/
end Tw

namespace Tw
open PySem PySem.Spec PyProof.Rows L2
/-! under other names -/
end Tw

namespace Tw
open PySem PySem.Spec PyProof.Rows L2
end Tw

namespace Tw
open PySem PySem.Spec PyProof.Rows L2
end Tw

namespace Tw
open PySem PySem.Spec PyProof.Rows L2
end Tw

namespace Tw
open PySem PySem.Spec PyProof.Rows L2
/-- the sign of an end -/
theorem Ev.sign {env : Env} {j : Nat} {p : Tok} (h : env[j]? = some (some (.d (tkD p)))) : Ev (mOp ixA (mVar j) (mC (.int 0))) env (.str (if p.1 = true then "+" else "-")) := fun te => by
  have a0 := tk_at0 p
  have e : (⟨#[if p.1 = true then 43 else 45]⟩ : Str) = (if p.1 = true then ("+" : Str) else ("-" : Str)) := by cases p.1 <;> rfl
  rw [← e]
  simp! only [h, a0]
end Tw

namespace Tw
open PySem PySem.Spec PyProof.Rows L2
end Tw

namespace Tw
open PySem PySem.Spec PyProof.Rows L2
/-! ### deeds taken back -/
end Tw

namespace Tw
open PySem PySem.Spec PyProof.Rows L2
end Tw

namespace Tw
open PySem PySem.Spec PyProof.Rows L2
/-! ### a wood as a dict of lists of names -/
def tpsD : Wd → List (Str × List Str)
  | .nil => []
  | .cons n i r => (n, i.tops) :: (tpsD i ++ tpsD r)
theorem tpsD_names : ∀ w : Wd, (tpsD w).map (·.1) = w.names
  | .nil => rfl
  | .cons n i r => by
    show n :: (tpsD i ++ tpsD r).map (·.1) = n :: (i.names ++ r.names)
    rw [List.map_append, tpsD_names, tpsD_names]
theorem kwl_of {kvs : List (Key × List Dt)} : ∀ {w : Wd}, (∀ x ∈ tpsD w, lkD kvs (.inr x.1) = some (x.2.map .str)) → KWl kvs w
  | .nil, _ => trivial
  | .cons n i r, h => ⟨h (n, i.tops) List.mem_cons_self, kwl_of fun x hx => h x (List.mem_cons_of_mem _ (List.mem_append_left _ hx)), kwl_of fun x hx => h x (List.mem_cons_of_mem _ (List.mem_append_right _ hx))⟩
structure Tr where
  n : Str
  i : Wd
def Tr.dat (x : Tr) : Dt := .tuple [.str x.n, .tuple x.i.data]
def Tr.pen (x : Tr) : List (Str × List Str) := (x.n, x.i.tops) :: tpsD x.i
def Wd.trs : Wd → List Tr
  | .nil => []
  | .cons n i r => ⟨n, i⟩ :: r.trs
theorem Wd.trs_dat : ∀ w : Wd, w.trs.map Tr.dat = w.data
  | .nil => rfl
  | .cons n i r => congrArg (Tr.dat ⟨n, i⟩ :: ·) (Wd.trs_dat r)
theorem Wd.trs_pen : ∀ w : Wd, (w.trs.map Tr.pen).flatten = tpsD w
  | .nil => rfl
  | .cons n i r => by
    show Tr.pen ⟨n, i⟩ ++ (r.trs.map Tr.pen).flatten = _
    rw [Wd.trs_pen r]
    rfl
theorem Wd.trs_siz : ∀ w : Wd, (w.trs.map fun x => x.i.size + 1).sum = w.size
  | .nil => rfl
  | .cons n i r => by
    show i.size + 1 + (r.trs.map fun x => x.i.size + 1).sum = i.size + r.size + 1
    rw [Wd.trs_siz r]
    omega
def tp0 : Dt → Dt
  | .tuple (x :: _) => x
  | x => x
theorem tp0_tops : ∀ w : Wd, w.data.map tp0 = w.tops.map .str
  | .nil => rfl
  | .cons n i r => congrArg (PyData.str n :: ·) (tp0_tops r)
theorem data_pair : ∀ {w : Wd}, ∀ x ∈ w.data, ∃ (n : Str) (i : Wd), x = .tuple [.str n, .tuple i.data]
  | .cons n i r, x, h => by
    rcases List.mem_cons.mp h with rfl | h
    · exact ⟨n, i, rfl⟩
    · exact data_pair x h
theorem lc_tops {env : Env} {te : List A} {i j : Nat} {w : Wd} (hi : env[i]? = some (some (.d (.tuple w.data)))) (hj : env[j]? = some none) (hl : w.size ≤ 100000) (ha : anyC (isRf j) env ([.d (.tuple w.data)] ++ te) = false) :
    mLc .d (mSeqI (mVar i)) (gN j) mYes (mD (mOp ixA (mVar j) (mC (.int 0)))) [j] env te = .ok (.own (.l (w.tops.map .str))) env := by
  have h := lc_gen (mi := mSeqI (mVar i)) (tt := mYes) (el := mD (mOp ixA (mVar j) (mC (.int 0)))) (j := j) (env := env) (te := te) (as := [.d (.tuple w.data)]) (xs := w.data) (fun _ => true) tp0 (seqI_ev (Ev.v hi)) hj ha (by rw [Wd.data_len]; have := Wd.tops_le w; omega) (fun _ _ _ => rfl) (fun x hx _ acc => by
    obtain ⟨n, k, rfl⟩ := data_pair x hx
    exact Ev.d (Ev.ix (Ev.v (set_at hj _)) Ev.c (atI_0 _ _)) _)
  rw [h, List.filter_eq_self.mpr (fun _ _ => rfl), tp0_tops]
def kiE (w : Wd) (kvs : List (Key × List Dt)) (Wt : List Dt) (x3 x4 : Option Dt) : Env := [some (.d (.tuple w.data)), some (.own (.dl kvs)), some (.own (.l Wt)), od x3, od x4, none]
theorem kids_ok (w : Wd) (hs : w.size ≤ 10000) (nd : w.names.Nodup) (hnm : ∀ z ∈ w.names, IsNm z) : ∃ kvs : List (Key × List Dt), Kt kvs w ∧ f_kidsL [.d (.tuple w.data)] = .ok (.own (.dl kvs)) [.d (.tuple w.data)] := by
  suffices h : DOk (fun r ios => ∃ kvs : List (Key × List Dt), Kt kvs w ∧ r = .own (.dl kvs) ∧ ios = [.d (.tuple w.data)]) (f_kidsL [.d (.tuple w.data)]) by
    obtain ⟨a, ios, e, kvs, h, rfl, rfl⟩ := h.ex
    exact ⟨kvs, h, e⟩
  unfold f_kidsL
  refine run_ok ?_
  unfold m_kidsL
  have l1 := lc_tops (w := w) (env := [some (.d (.tuple w.data)), none, none, none, none, none]) (te := [.d (.str ""), .own (.dc [])]) (i := 0) (j := 5) rfl rfl (by omega) rfl
  refine FP.st (e := [some (.d (.tuple w.data)), some (.own (.dl [(.inr "", w.tops.map .str)])), none, none, none, none]) ?_ ?_
  · generalize mLc _ _ _ _ _ _ = ML at l1 ⊢
    simp! [l1]
  refine FP.st (e := kiE w [(.inr "", w.tops.map .str)] w.data none none) (by simp! [kiE, od_none]) ?_
  have fn := fun_of_nodup (l := tpsD w) (by rw [tpsD_names]; exact nd)
  refine FP.sq ?_
  refine fp_whileN (fun n e => ∃ (S : List Tr) (kvs : List (Key × List Dt)) (x3 x4 : Option Dt), e = kiE w kvs (S.map Tr.dat).reverse x3 x4 ∧ (∀ x ∈ (S.map Tr.pen).flatten, x ∈ tpsD w) ∧ (∀ x ∈ tpsD w, x ∈ (S.map Tr.pen).flatten ∨ lkD kvs (.inr x.1) = some (x.2.map .str)) ∧ (∀ q ∈ kvs, ∃ k : Str, q.1 = .inr k ∧ (k = "" ∨ k ∈ w.names)) ∧ 0 < kvs.length ∧ lkD kvs (.inr "") = some (w.tops.map .str) ∧ kvs.length + n ≤ w.size + 1 ∧ n = (S.map fun x => x.i.size + 1).sum) ?_ _ _ ⟨w.trs.reverse, [(.inr "", w.tops.map .str)], none, none, by rw [List.map_reverse, List.reverse_reverse, Wd.trs_dat], ?_, ?_, ?_, Nat.zero_lt_one, rfl, ?_, rfl⟩
  · rintro n e ⟨S, kvs, x3, x4, rfl, hp1, hp2, hks, hpos, htop, hl, rfl⟩
    cases S with
    | nil =>
      refine ⟨false, kiE w kvs [] x3 x4, by simp! [kiE, neD_nil], (fun h => nomatch h), fun _ => ?_⟩
      refine FP.re (a := .rf 1 none) (e := kiE w kvs [] x3 x4) (by simp! [kiE]) ⟨_, rfl, kvs, ⟨hks, hpos, by simpa using hl, htop, kwl_of fun x hx => (hp2 x hx).resolve_left (fun h => nomatch h), nd, hnm⟩, rfl, rfl⟩
    | cons x S =>
      have hlx : kvs.length + (x.i.size + 1 + (S.map fun x => x.i.size + 1).sum) ≤ w.size + 1 := hl
      have hsl : S.length ≤ (S.map fun x => x.i.size + 1).sum := by
        clear hp1 hp2 hl hlx
        induction S with
        | nil => exact Nat.le_refl _
        | cons y r ih => rw [List.length_cons, List.map_cons, List.sum_cons]; omega
      refine ⟨true, kiE w kvs ((S.map Tr.dat).reverse ++ [x.dat]) x3 x4, by simp! [kiE, neD_nil], fun _ => ?_, (fun h => nomatch h)⟩
      refine FP.st (e := kiE w kvs (S.map Tr.dat).reverse (some (.str x.n)) (some (.tuple x.i.data))) (by simp! [kiE, od_some, Tr.dat]) ?_
      have hk : kvs.length < sizeLine := big' (by omega)
      have hxs : x.i.size ≤ 10000 := by omega
      have l2 := lc_tops (w := x.i) (env := kiE w kvs (S.map Tr.dat).reverse (some (.str x.n)) (some (.tuple x.i.data))) (te := []) (i := 4) (j := 5) rfl rfl (by omega) (by simp! [kiE, od_some])
      refine FP.st (e := kiE w (putD kvs (.inr x.n) (x.i.tops.map .str)) (S.map Tr.dat).reverse (some (.str x.n)) (some (.tuple x.i.data))) ?_ ?_
      · generalize mLc _ _ _ _ _ _ = ML at l2 ⊢
        simp only [kiE, od_some] at l2
        simp! [kiE, od_some, l2, wipeK, hk]
      have hil := Wd.tops_le x.i
      have hz : S.length + x.i.data.length ≤ sizeLine := big (by rw [Wd.data_len]; omega)
      have hxm : (x.n, x.i.tops) ∈ tpsD w := hp1 _ (by rw [List.map_cons, List.flatten_cons]; exact List.mem_append_left _ List.mem_cons_self)
      have hxn : x.n ∈ w.names := by rw [← tpsD_names]; exact List.mem_map.mpr ⟨_, hxm, rfl⟩
      have hne : x.n ≠ "" := fun e => by
        have := (hnm _ hxn).1
        rw [e] at this
        revert this
        decide +kernel
      refine FP.mono_eq (e := kiE w (putD kvs (.inr x.n) (x.i.tops.map .str)) ((S.map Tr.dat).reverse ++ x.i.data) (some (.str x.n)) (some (.tuple x.i.data))) (by simp! [kiE, od_some, hz]) ?_
      refine ⟨_, ?_, x.i.trs.reverse ++ S, putD kvs (.inr x.n) (x.i.tops.map .str), some (.str x.n), some (.tuple x.i.data), ?_, ?_, ?_, ?_, ?_, ?_, ?_, rfl⟩
      · rw [List.map_append, List.sum_append, List.map_reverse, List.sum_reverse, Wd.trs_siz]
        rw [List.map_cons, List.sum_cons]
        omega
      · rw [List.map_append, List.map_reverse, List.reverse_append, List.reverse_reverse, Wd.trs_dat]
      · intro y hy
        refine hp1 y ?_
        rw [List.map_append, List.flatten_append] at hy
        rw [List.map_cons, List.flatten_cons]
        rcases List.mem_append.mp hy with h | h
        · refine List.mem_append_left _ (List.mem_cons_of_mem _ ?_)
          rw [← Wd.trs_pen]
          simpa using h
        · exact List.mem_append_right _ h
      · intro y hy
        rw [List.map_append, List.flatten_append]
        by_cases c : y.1 = x.n
        · have : y = (x.n, x.i.tops) := fn y hy _ hxm c
          subst this
          exact .inr (by rw [lkD_put, if_pos rfl])
        · rcases hp2 y hy with h | h
          · rw [List.map_cons, List.flatten_cons] at h
            rcases List.mem_append.mp h with h | h
            · rcases List.mem_cons.mp h with h | h
              · exact absurd (by rw [h]) c
              · refine .inl (List.mem_append_left _ ?_)
                rw [← Wd.trs_pen] at h
                simpa using h
            · exact .inl (List.mem_append_right _ h)
          · exact .inr (by rw [lkD_put, if_neg (fun z => c (Sum.inr.inj z))]; exact h)
      · intro q hq
        rcases putD_keys hq with h | ⟨p, hp, h⟩
        · exact ⟨x.n, h, .inr hxn⟩
        · obtain ⟨k, h1, h2⟩ := hks p hp
          exact ⟨k, h.symm.trans h1, h2⟩
      · have := (putD_len (kvs := kvs) (k := .inr x.n) (v := x.i.tops.map PyData.str)).2
        omega
      · rw [lkD_put, if_neg (fun z => hne (Sum.inr.inj z).symm)]
        exact htop
      · have := (putD_len (kvs := kvs) (k := .inr x.n) (v := x.i.tops.map PyData.str)).1
        rw [List.map_append, List.sum_append, List.map_reverse, List.sum_reverse, Wd.trs_siz]
        omega
  · intro x hx
    rw [← Wd.trs_pen]
    simpa using hx
  · intro x hx
    rw [← Wd.trs_pen] at hx
    exact .inl (by simpa using hx)
  · intro q hq
    rw [List.mem_singleton.mp hq]
    exact ⟨"", rfl, .inl rfl⟩
  · rw [List.map_reverse, List.sum_reverse, Wd.trs_siz]
    simp
    omega
end Tw

namespace Tw
open PySem PySem.Spec PyProof.Rows L2
/-! ### where a node stands -/
/-- what stands right ahead of a node -/
def lastT (o : Str) (L : List Str) : RI := match L.getLast? with
  | some s => .e (false, s)
  | none => .e (true, o)
end Tw

namespace Tw
open PySem PySem.Spec PyProof.Rows L2
end Tw

namespace Tw
open PySem PySem.Spec PyProof.Rows L2
def kp (k : Str) : Dt := if k = "" then .none else .str k
end Tw

namespace Tw
open PySem PySem.Spec PyProof.Rows L2
end Tw

namespace Tw
open PySem PySem.Spec PyProof.Rows L2
/-! ### names that laws about scripts draw -/
end Tw

namespace Tw
open PySem PySem.Spec PyProof.Rows L2
end Tw

namespace Tw
open PySem PySem.Spec PyProof.Rows L2
/-! ### what lies around a node -/
end Tw

namespace Tw
open PySem PySem.Spec PyProof.Rows L2
theorem Wd.bal (w : Wd) : Bal w.rows := by rw [← Wd.gw_row]; exact GW.bal _
end Tw

namespace Tw
open PySem PySem.Spec PyProof.Rows L2
/-! ### where a node stands, with what is in it and what is behind it -/
def Wd.pos (o : Str) (L : List Str) : Wd → Str → Option (Str × List Str × Wd × Wd)
  | .nil, _ => none
  | .cons n i r, a => if n = a then some (o, L, i, r) else match i.pos n [] a with
    | some x => some x
    | none => r.pos o (L ++ [n]) a
/-- all of it together, for a wood with unlike names -/
structure Pos (w : Wd) (a o : Str) (L : List Str) (i r : Wd) (A : List RI) (B : List RI) : Prop where
  eq : w.rows = A ++ .e (true, a) :: (i.rows ++ .e (false, a) :: (r.rows ++ B))
  out : ∀ b, RI.e (b, a) ∉ A ∧ RI.e (b, a) ∉ i.rows ∧ RI.e (b, a) ∉ r.rows ++ B
  hd : (A = [] ∧ o = "" ∧ L = []) ∨ ∃ A', A = A' ++ [lastT o L]
  tl : (o = "" ∧ B = []) ∨ ∃ B', B = .e (false, o) :: B'
  run : ∃ S, Tw.run [] A = some S ∧ ((o = "" ∧ S = []) ∨ ∃ S2, S = o :: S2)
end Tw

namespace Tw
open PySem PySem.Spec PyProof.Rows L2
/-! ### sayings -/
theorem Ev.len {m : ME} {env : Env} {xs : List Dt} (h : Ev m env (.tuple xs)) : Ev (mCB (one lenA) (mCons m mNil)) env (.int (xs.length : Nat)) := fun te => by
  show Rs.bind (mCons m mNil env te) _ = _
  have e : mCons m mNil env te = .ok [.d (.tuple xs)] env := by
    rw [ev_mCons, h, zq00, ek_mCons_0]
    rfl
  rw [e, zq00]
  rfl
end Tw

namespace Tw
open PySem PySem.Spec PyProof.Rows L2
end Tw

namespace Tw
open PySem PySem.Spec PyProof.Rows L2
/-! ### a wood of a tuple of names -/
def oo : Option (List Dt) → Option A
  | none => none
  | some l => some (.own (.l l))
theorem oo_some (l : List Dt) : oo (some l) = some (.own (.l l)) := rfl
theorem pl_od' (x : Option Dt) (e : Env) : plB (od x :: e) = plB e := by cases x <;> rfl
theorem Asg.pl2 {m : ME} {env e : Env} {i : Nat} {a : A} {te : List A} (h : m env te = .ok a e) (hd : plB e = true) (hi : i < e.length) (ht : te.any (isRf i) = false) (ha : (∃ x, a = .d x) ∨ (∃ o, a = .own o)) : mAsg m (gN i) env te = .nx (e.set i (some a)) := by
  have g := gN_pl (te := te) hd hi ht ha
  rw [ev_mAsg, h, ev_fl_ok]
  show (match gN i a e te with | some e' => Fl.nx e' | none => .bad) = _
  rw [g]
end Tw

namespace Tw
open PySem PySem.Spec PyProof.Rows L2
/-! ### blocks that may raise -/
/-! ### sets of texts -/
theorem stAt_v {env : Env} {i : Nat} {xs : List Str} (h : env[i]? = some (some (.own (.x (.st xs))))) : mVar i env = (fun te => .ok (.rf i none) env) ∧ stAt env (.rf i none) = some (i, xs) := by
  constructor
  · funext te
    unfold mVar
    rw [h]
    rfl
  · unfold stAt owAt
    dsimp only
    rw [h]
theorem Ev.setIn {neg : Bool} {mk : ME} {env : Env} {i : Nat} {n : Str} {xs : List Str} (hk : Ev mk env (.str n)) (h : env[i]? = some (some (.own (.x (.st xs))))) : Ev (mOp (setInA neg) mk (mVar i)) env (.bool (if neg then !decide (n ∈ xs) else decide (n ∈ xs))) := fun te => by
  obtain ⟨h1, h2⟩ := stAt_v h
  rw [ev_mOp, hk, zq00, ek_mOp_0, h1, zq00, ek_mOp_1]
  show (match A.d (.str n), stAt env (.rf i none) with | .d (.str x), some q => Rs.ok (A.d (.bool (if neg then !decide (x ∈ q.2) else decide (x ∈ q.2)))) env | _, _ => .bad) = _
  rw [h2]
theorem sadd_st {mk : ME} {env : Env} {i : Nat} {n : Str} {xs : List Str} {te : List A} (hk : Ev mk env (.str n)) (h : env[i]? = some (some (.own (.x (.st xs))))) (hl : xs.length ≤ 1000) : mDrop (mSAdd (mVar i) (mCons (mD mk) mNil)) env te = .nx (env.set i (some (.own (.x (.st (addS xs n)))))) := by
  obtain ⟨h1, h2⟩ := stAt_v h
  have e : mSAdd (mVar i) (mCons (mD mk) mNil) env te = .ok (.d .none) (env.set i (some (.own (.x (.st (addS xs n)))))) := by
    show (mVar i env te).bind _ = _
    rw [h1, zq00]
    show (if (stAt env (.rf i none)).isSome = true then (mCons (mD mk) mNil env (.rf i none :: te)).bind _ else .bad) = _
    rw [h2, if_pos (by rfl), (Evs.cons (Ev.d hk) Evs.nil) _, zq00]
    show (match stAt env (.rf i none), [A.d (.str n)] with
      | some (i, xs), [.d (.str x)] => (match env[i]? with
        | some (some c) => if xs.length + 1 < scanBound then Rs.ok (A.d .none) (env.set i (some (reOw c (.x (.st (addS xs x)))))) else .bad
        | _ => .bad)
      | _, _ => .bad) = _
    rw [h2]
    dsimp only
    rw [h]
    dsimp only
    rw [if_pos (show xs.length + 1 < scanBound by unfold scanBound; omega)]
    rfl
  show (mSAdd _ _ env te).fl _ = _
  rw [e]
  rfl
/-! ### rows looked at from the left -/
def cutN (z : Str) : Str := cutS z (some 1) none
theorem tl_cutN (z : Str) : TL.tl (cutN z) = (TL.tl z).drop 1 := tl_cut_from z 1
theorem cutN_len (z : Str) : (cutN z).length ≤ z.length := by
  rw [TL.len_tl, TL.len_tl, tl_cutN, List.length_drop]
  omega
end Tw

namespace Tw
open PySem PySem.Spec PyProof.Rows L2
def isStrD : Dt → Bool
  | .str _ => true
  | _ => false
theorem Ev.isiS {env : Env} {j : Nat} {x : Dt} (h : env[j]? = some (some (.d x))) : Ev (mIsi "str" (mVar j)) env (.bool (isStrD x)) := fun te => by
  cases x with
  | none => simp! [h, kb_NoneType_str, isStrD]
  | bool b => simp! [h, kb_bool_str, isStrD]
  | int i => simp! [h, kb_int_str, isStrD]
  | str z => simp! [h, kb_str_str, isStrD]
  | list l => simp! [h, kb_list_str, isStrD]
  | tuple l => simp! [h, kb_tuple_str, isStrD]
  | dict l => simp! [h, kb_dict_str, isStrD]
theorem Ev.cutV {env : Env} {j : Nat} {z : Str} (h : env[j]? = some (some (.d (.str z)))) (hl : z.length ≤ 1000) : Ev (mSl (mVar j) (mPart (mC (.int 1))) mNoPart) env (.str (cutN z)) := fun te => by
  have hz : (cutS z (some 1) none).length ≤ sizeLine := big (by have := cutN_len z; unfold cutN at this; omega)
  simp! [h, hz, cutN]
end Tw

namespace Tw
open PySem PySem.Spec PyProof.Rows L2
theorem is_nameL_ok {x : Dt} : f_is_nameL [.d x] = .ok (.d (.bool (isNmD x))) [.d x] := by
  refine ok_of ?_
  unfold f_is_nameL
  refine run_ok ?_
  unfold m_is_nameL
  show FP _ _ (mSeq _ _ [some (.d x), none] [])
  have i0 := Ev.isiS (env := [some (.d x), none]) (j := 0) (x := x) rfl
  refine FP.sq ?_
  by_cases hx : ∃ z, x = .str z
  case neg =>
    have e0 : isStrD x = false := by
      cases x with
      | str z => exact absurd ⟨z, rfl⟩ hx
      | _ => rfl
    have e1 : isNmD x = false := by
      cases x with
      | str z => exact absurd ⟨z, rfl⟩ hx
      | _ => rfl
    rw [e0] at i0
    rw [e1]
    exact FP.ifT (or_ev (a := true) (b := true) (not_ev (i0.tst _)) (fun z => nomatch z)) (FP.re (Ev.c []) ⟨_, rfl, rfl, rfl⟩)
  obtain ⟨z, rfl⟩ := hx
  have zl : z.length = (TL.tl z).length := TL.len_tl z
  have t1 : ∀ te, mTst (mOp (fl2 eqD) (mVar 0) (mC (.str ""))) [some (.d (.str z)), none] te = .ok (decide (z = "")) [some (.d (.str z)), none] := fun te => (Ev.eq (Ev.v rfl) (Ev.c (x := .str "")) (eqD_str _ _)).tst te
  have t2 : ∀ te, mTst (mOp (fl2 gtD) (mCB (one lenA) (mCons (mVar 0) mNil)) (mC (.int 8))) [some (.d (.str z)), none] te = .ok (decide ((8 : Int) < (z.length : Int))) [some (.d (.str z)), none] := fun te => by
    simp! [gtD]
  by_cases h0 : z = ""
  · have e1 : isNmD (.str z) = false := decide_eq_false (fun h => by rw [h0] at h; exact absurd h.1 (by decide))
    rw [e1]
    exact FP.ifT (or_ev (a := false) (b := true) (not_ev (i0.tst _)) (fun _ => or_ev (a := true) (b := true) (by rw [t1, decide_eq_true h0]) (fun z => nomatch z))) (FP.re (Ev.c []) ⟨_, rfl, rfl, rfl⟩)
  by_cases h8 : (8 : Int) < (z.length : Int)
  · have e1 : isNmD (.str z) = false := decide_eq_false (fun h => by have := h.2.1; omega)
    rw [e1]
    exact FP.ifT (or_ev (a := false) (b := true) (not_ev (i0.tst _)) (fun _ => or_ev (a := false) (b := true) (by rw [t1, decide_eq_false h0]) (fun _ => by rw [t2, decide_eq_true h8]))) (FP.re (Ev.c []) ⟨_, rfl, rfl, rfl⟩)
  refine FP.ifF (or_ev (a := false) (b := false) (not_ev (i0.tst _)) (fun _ => or_ev (a := false) (b := false) (by rw [t1, decide_eq_false h0]) (fun _ => by rw [t2, decide_eq_false h8]))) (.nx ?_)
  have hl := lc_gen (mi := mSeqI (mVar 0)) (tt := mTst (mOp (fl2 (inD true)) (mVar 1) (mC (.str "abcdefghijklmnopqrstuvwxyz")))) (el := mD (mVar 1)) (j := 1) (env := [some (.d (.str z)), none]) (te := []) (as := [.d (.str z)]) (xs := chD z) (fun c => match c with | .str y => !decide (y.cps.toList.headD 0 ∈ letters.cps.toList) | _ => false) id (by simp!) rfl (by simp!) (by unfold chD; rw [List.length_map]; have : (TL.tl z).length = z.cps.toList.length := rfl; omega) (by
    rintro x hx acc
    obtain ⟨c, hc, rfl⟩ := List.mem_map.mp hx
    have hi : inD true (.str ⟨#[c]⟩) (.str "abcdefghijklmnopqrstuvwxyz") = some (.bool (!decide (c ∈ letters.cps.toList))) := by
      simp [inD]
    simp! [hi]) (fun x hx _ acc => Ev.d (Ev.v (i := 1) rfl) _)
  rw [List.map_id] at hl
  have eqn := eqD_nil ((chD z).filter fun c => match c with | .str y => !decide (y.cps.toList.headD 0 ∈ letters.cps.toList) | _ => false)
  have fin : ((chD z).filter fun c => match c with | .str y => !decide (y.cps.toList.headD 0 ∈ letters.cps.toList) | _ => false).isEmpty = isNmD (.str z) := by
    show _ = decide (IsNm z)
    rw [Bool.eq_iff_iff, decide_eq_true_eq, List.isEmpty_iff, List.filter_eq_nil_iff]
    constructor
    · intro h
      have zn : (TL.tl z).length ≠ 0 := fun e => h0 (TL.ext_tl (by rw [List.length_eq_zero_iff.mp e, tl_nil]))
      refine ⟨by omega, by omega, fun c hc => ?_⟩
      have := h (.str ⟨#[c]⟩) (List.mem_map_of_mem hc)
      have hq : decide (c ∈ letters.cps.toList) = true := by simpa using this
      rw [letters_mem] at hq
      exact of_decide_eq_true hq
    · rintro ⟨-, -, h⟩ b hb
      obtain ⟨c, hc, rfl⟩ := List.mem_map.mp hb
      have hq : decide (c ∈ letters.cps.toList) = true := by rw [letters_mem]; exact decide_eq_true (h c hc)
      simpa using hq
  rw [fin] at eqn
  generalize mLc _ _ _ _ _ _ = ML at hl ⊢
  have s0 : (0 : Nat) ≤ sizeLine := Nat.zero_le _
  generalize (chD z).filter _ = XX at hl eqn
  exact FP.re (a := .d (.bool (isNmD (.str z)))) (e := [some (.d (.str z)), none]) (by simp! [hl, eqn, s0]) ⟨_, rfl, rfl, rfl⟩
end Tw

namespace Tw
open PySem PySem.Spec PyProof.Rows L2
theorem Ev.f2 {ma mb : ME} {env : Env} {x y z : Dt} {g : Dt → Dt → Option Dt} (ha : Ev ma env x) (hb : Ev mb env y) (h : g x y = some z) : Ev (mOp (fl2 g) ma mb) env z := fun te => by
  rw [ev_mOp, ha, zq00, ek_mOp_0, hb, zq00, ek_mOp_1]
  simp! [h]
theorem Ev.lst {ms : MA} {env : Env} {xs : List Dt} (h : Evs ms env xs) (hl : xs.length ≤ 100000) : Ev (mD (mLst ms)) env (.list xs) := Ev.dl h hl
theorem Ev.addL {m : ME} {ms : MA} {env : Env} {xs ys : List Dt} (ha : Ev m env (.list xs)) (hb : Evs ms env ys) (h : xs.length + ys.length ≤ 100000) : Ev (mD (mOp addA m (mLst ms))) env (.list (xs ++ ys)) := fun te => by
  have s1 : xs.length + ys.length ≤ sizeLine := big h
  have e1 := ha te
  have e2 := lst_ev (te := .d (.list xs) :: te) hb (by omega)
  generalize mLst ms = ML at e2 ⊢
  rw [ev_mD, ev_mOp, e1, zq00, ek_mOp_0, e2, zq00, ek_mOp_1]
  simp! [s1]
theorem dA2 {env : Env} : Ev (mD (mDisp [((mC (.str "a")), (mC (.int 1))), ((mC (.str "b")), (mC (.int 2)))])) env (.dict [(.str "a", .int 1), (.str "b", .int 2)]) := fun te => by
  have e : mDisp [((mC (.str "a")), (mC (.int 1))), ((mC (.str "b")), (mC (.int 2)))] env te = .ok (.own (.dc [(.inr "a", .int 1), (.inr "b", .int 2)])) env := rfl
  show Rs.bind (mDisp _ env te) _ = _
  rw [e, zq00]
  rfl
theorem dA1 {env : Env} : Ev (mD (mDisp [((mC (.str "a")), (mC (.int 1)))])) env (.dict [(.str "a", .int 1)]) := fun te => by
  have e : mDisp [((mC (.str "a")), (mC (.int 1)))] env te = .ok (.own (.dc [(.inr "a", .int 1)])) env := rfl
  show Rs.bind (mDisp _ env te) _ = _
  rw [e, zq00]
  rfl
theorem dA0 {env : Env} : Ev (mD mDnew) env (.dict []) := fun te => rfl
def oddA : List Dt := [.none, .bool true, .bool false, .int 0, .int 1, .int (-7), .int (10 ^ 39), .str "", .str "A", .str "a ", .str "+a", .str "aaaaaaaaa", .str "a1", .str "z", .str "zzzzzzzz"]
def oddB : List Dt := [.str "`", .str "a\n", .str "{", .str "a{", .list [.str "z", .tuple []], .dict [(.str "a", .int 1), (.str "b", .int 2)]]
def oddC : List Dt := [.tuple [.str "a"], .tuple [.str "z", .tuple []], .list [.str "a"], .list [], .dict [], .dict [(.str "a", .int 1)], .tuple [], .tuple [.tuple [], .tuple []], .tuple [.tuple [.str "z", .tuple []]], .str "first"]
theorem odd_ok (g m c : Int) : ∃ (x : Dt) (g' c' : Int), x ∈ oddA ++ oddB ++ oddC ∧ f_oddL [.io (Dkv g m c)] = .ok (.d x) [.io (Dkv g' m c')] := by
  obtain ⟨x, hx, g1, c1, q1⟩ := pick_ok g m c (oddA ++ oddB ++ oddC) (by simp [oddA]) (by simp [oddA, oddB, oddC]) .list (.inl rfl)
  suffices h : DOk (fun r ios => ∃ (x : Dt) (g' c' : Int), x ∈ oddA ++ oddB ++ oddC ∧ r = .d x ∧ ios = [.io (Dkv g' m c')]) (f_oddL [.io (Dkv g m c)]) by
    obtain ⟨r, ios, e, x, g', c', h1, rfl, rfl⟩ := h.ex
    exact ⟨x, g', c', h1, e⟩
  unfold f_oddL
  refine run_ok ?_
  unfold m_oddL
  generalize f_pickL = F at q1 ⊢
  have e1 : Ev (mD (mLst (mCons (mC .none) (mCons (mC (.bool true)) (mCons (mC (.bool false)) (mCons (mC (.int 0)) (mCons (mC (.int 1)) (mCons (mD (mOp (fl2 subD) (mC (.int 0)) (mC (.int 7)))) (mCons (mD (mOp (fl2 powD) (mC (.int 10)) (mC (.int 39)))) (mCons (mC (.str "")) (mCons (mC (.str "A")) (mCons (mC (.str "a ")) (mCons (mC (.str "+a")) (mCons (mC (.str "aaaaaaaaa")) (mCons (mC (.str "a1")) (mCons (mC (.str "z")) (mCons (mC (.str "zzzzzzzz")) mNil))))))))))))))))) [some (.io (Dkv g m c)), none] (.list oddA) :=
    Ev.lst (Evs.cons Ev.c (Evs.cons Ev.c (Evs.cons Ev.c (Evs.cons Ev.c (Evs.cons Ev.c (Evs.cons (Ev.d (Ev.f2 Ev.c Ev.c (by rfl))) (Evs.cons (Ev.d (Ev.f2 Ev.c Ev.c (by show (if (0 : Int) ≤ 39 ∧ (39 : Int) ≤ 1000000 ∧ (10 : Int).natAbs < 2 ^ 64 then some (PyData.int (10 ^ (39 : Int).toNat)) else none) = some (.int (10 ^ 39)); rw [if_pos (by decide)]; rfl))) (Evs.cons Ev.c (Evs.cons Ev.c (Evs.cons Ev.c (Evs.cons Ev.c (Evs.cons Ev.c (Evs.cons Ev.c (Evs.cons Ev.c (Evs.cons Ev.c Evs.nil))))))))))))))) (by simp [oddA])
  have st : ∀ {M : ME} {e0 e1 : Option A} {l : List Dt}, Ev M [some (.io (Dkv g m c)), e0] (.list l) → (e0 = none ∨ ∃ x, e0 = some (.d x)) → mAsg M (gN 1) [some (.io (Dkv g m c)), e0] [] = .nx [some (.io (Dkv g m c)), some (.d (.list l))] := fun {M e0 e1 l} h h0 => by
    rw [ev_mAsg, h, ev_fl_ok]
    rcases h0 with rfl | ⟨x, rfl⟩ <;> simp!
  refine FP.st (st (e1 := none) e1 (.inl rfl)) ?_
  have e2 : Ev (mD (mOp addA (mVar 1) (mLst (mCons (mC (.str "`")) (mCons (mC (.str "a\n")) (mCons (mC (.str "{")) (mCons (mC (.str "a{")) (mCons (mD (mLst (mCons (mC (.str "z")) (mCons (mTup mNil) mNil)))) (mCons (mD (mDisp [((mC (.str "a")), (mC (.int 1))), ((mC (.str "b")), (mC (.int 2)))])) mNil))))))))) [some (.io (Dkv g m c)), some (.d (.list oddA))] (.list (oddA ++ oddB)) :=
    Ev.addL (Ev.v rfl) (Evs.cons Ev.c (Evs.cons Ev.c (Evs.cons Ev.c (Evs.cons Ev.c (Evs.cons (Ev.lst (Evs.cons Ev.c (Evs.cons (Ev.tup Evs.nil (Nat.le_of_ble_eq_true rfl)) Evs.nil)) (Nat.le_of_ble_eq_true rfl)) (Evs.cons dA2 Evs.nil)))))) (by simp [oddA, oddB])
  refine FP.st (st (e1 := none) e2 (.inr ⟨_, rfl⟩)) ?_
  have e3 : Ev (mD (mOp addA (mVar 1) (mLst (mCons (mTup (mCons (mC (.str "a")) mNil)) (mCons (mTup (mCons (mC (.str "z")) (mCons (mTup mNil) mNil))) (mCons (mD (mLst (mCons (mC (.str "a")) mNil))) (mCons (mD (mLst mNil)) (mCons (mD mDnew) (mCons (mD (mDisp [((mC (.str "a")), (mC (.int 1)))])) (mCons (mTup mNil) (mCons (mTup (mCons (mTup mNil) (mCons (mTup mNil) mNil))) (mCons (mTup (mCons (mTup (mCons (mC (.str "z")) (mCons (mTup mNil) mNil))) mNil)) (mCons (mC (.str "first")) mNil))))))))))))) [some (.io (Dkv g m c)), some (.d (.list (oddA ++ oddB)))] (.list (oddA ++ oddB ++ oddC)) :=
    have t0 : ∀ {env}, Ev (mTup mNil) env (.tuple []) := fun {_} => Ev.tup Evs.nil (Nat.le_of_ble_eq_true rfl)
    Ev.addL (Ev.v rfl) (Evs.cons (Ev.tup (Evs.cons Ev.c Evs.nil) (Nat.le_of_ble_eq_true rfl)) (Evs.cons (Ev.tup (Evs.cons Ev.c (Evs.cons t0 Evs.nil)) (Nat.le_of_ble_eq_true rfl)) (Evs.cons (Ev.lst (Evs.cons Ev.c Evs.nil) (Nat.le_of_ble_eq_true rfl)) (Evs.cons (Ev.lst Evs.nil (Nat.le_of_ble_eq_true rfl)) (Evs.cons dA0 (Evs.cons dA1 (Evs.cons t0 (Evs.cons (Ev.tup (Evs.cons t0 (Evs.cons t0 Evs.nil)) (Nat.le_of_ble_eq_true rfl)) (Evs.cons (Ev.tup (Evs.cons (Ev.tup (Evs.cons Ev.c (Evs.cons t0 Evs.nil)) (Nat.le_of_ble_eq_true rfl)) Evs.nil) (Nat.le_of_ble_eq_true rfl)) (Evs.cons Ev.c Evs.nil)))))))))) (by simp [oddA, oddB, oddC])
  refine FP.st (st (e1 := none) e3 (.inr ⟨_, rfl⟩)) ?_
  generalize oddA ++ oddB ++ oddC = OL at q1 hx ⊢
  exact FP.re (a := .d x) (e := [some (.io (Dkv g1 m c1)), some (.d (.list OL))]) (by simp! [q1]) ⟨_, rfl, x, g1, c1, hx, rfl, rfl⟩
end Tw

namespace Tw
open PySem PySem.Spec PyProof.Rows L2
theorem Ev.max2 {ma mb : ME} {env : Env} {i j : Nat} (ha : Ev ma env (.int (i : Nat))) (hb : Ev mb env (.int (j : Nat))) : Ev (mCB max2A (mCons ma (mCons mb mNil))) env (.int ((max i j : Nat) : Int)) := fun te => by
  show Rs.bind (mCons ma (mCons mb mNil) env te) _ = _
  rw [(Evs.cons ha (Evs.cons hb Evs.nil)) te, zq00]
  have e : ((max i j : Nat) : Int) = if (i : Int) < (j : Int) then (j : Int) else (i : Int) := by split <;> omega
  rw [e]
  simp!
end Tw

namespace Tw
open PySem PySem.Spec PyProof.Rows L2
/-! ### calls that draw -/
theorem plB_nest : ∀ {env : Env}, plB env = true → ∀ i, inE (isNest i) env = false
  | [], _, i => rfl
  | none :: e, h, i => plB_nest (env := e) h i
  | some (.d _) :: e, h, i => plB_nest (env := e) h i
  | some (.own _) :: e, h, i => plB_nest (env := e) h i
  | some (.sc _) :: e, h, i => plB_nest (env := e) h i
theorem call_dk {F : DF} {ms : MA} {env : Env} {te : List A} {i : Nat} {g m c g' c' : Int} {xs : List Dt} {r : A} (hi : env[i]? = some (some (.own (Dkv g m c)))) (h : Evs ms env xs) (hp : plB env = true) (ht : te.any (isNest i) = false)
    (hF : F (.io (Dkv g m c) :: xs.map .d) = .ok r (.io (Dkv g' m c') :: xs.map .d)) : mCall (noXf F) (true :: xs.map fun _ => false) (mCons (mVar i) ms) env te = .ok r (env.set i (some (.own (Dkv g' m c')))) := by
  have cv : ∀ xs : List Dt, cvAs (xs.map fun _ => false) (xs.map .d) env = some (xs.map fun x => ⟨.d x, none, none⟩) := by
    intro xs
    induction xs with
    | nil => rfl
    | cons x xs ih =>
      show (match cvA false env (.d x), cvAs (xs.map fun _ => false) (xs.map .d) env with | some g, some gs => some (g :: gs) | _, _ => none) = _
      rw [ih]
      rfl
  have io0 : ioS (xs.map fun x => (⟨.d x, none, none⟩ : Ag)) = [] := by
    unfold ioS
    rw [List.filterMap_map]
    exact List.filterMap_eq_nil_iff.mpr fun _ _ => rfl
  have br0 : brS (xs.map fun x => (⟨.d x, none, none⟩ : Ag)) = [] := by
    unfold brS
    rw [List.filterMap_map]
    exact List.filterMap_eq_nil_iff.mpr fun _ _ => rfl
  have am : (xs.map fun x => (⟨.d x, none, none⟩ : Ag)).map (·.a) = xs.map .d := by rw [List.map_map]; rfl
  have st : ∀ (zs : List Dt) (e : Env) (ios : List A), setIo e (zs.map fun x => (⟨.d x, none, none⟩ : Ag)) ios = e := by
    intro zs
    induction zs with
    | nil => intro e ios; cases ios <;> rfl
    | cons z zs ih =>
      intro e ios
      cases ios with
      | nil => rfl
      | cons i ios => exact ih e ios
  have v : ∀ te, mVar i env te = .ok (.rf i none) env := fun te => by
    unfold mVar
    rw [hi]
    rfl
  have ow : owAt env i = some (Dkv g m c) := by
    unfold owAt
    rw [hi]
  have c1 : cvAs (true :: xs.map fun _ => false) (.rf i none :: xs.map .d) env = some (⟨.io (Dkv g m c), some i, none⟩ :: xs.map fun x => ⟨.d x, none, none⟩) := by
    show (match cvA true env (.rf i none), cvAs (xs.map fun _ => false) (xs.map .d) env with | some g, some gs => some (g :: gs) | _, _ => none) = _
    rw [cv]
    have e : cvA true env (.rf i none) = some ⟨.io (Dkv g m c), some i, none⟩ := by
      show (match owAt env i with | some o => some (⟨.io o, some i, none⟩ : Ag) | none => none) = _
      rw [ow]
    rw [e]
  have ao : agOk env te (⟨.io (Dkv g m c), some i, none⟩ :: xs.map fun x => ⟨.d x, none, none⟩) = true := by
    unfold agOk
    have e1 : ioS (⟨.io (Dkv g m c), some i, none⟩ :: xs.map fun x => (⟨.d x, none, none⟩ : Ag)) = [i] := by
      show i :: ioS (xs.map fun x => (⟨.d x, none, none⟩ : Ag)) = _
      rw [io0]
    have e2 : brS (⟨.io (Dkv g m c), some i, none⟩ :: xs.map fun x => (⟨.d x, none, none⟩ : Ag)) = [] := br0
    rw [e1, e2]
    have e3 : anyC (isNest i) env te = false := by
      unfold anyC
      rw [plB_nest hp, ht]
      rfl
    simp [e3]
  rw [ev_mCall]
  show Rs.bind (mCons (mVar i) ms env te) _ = _
  have e : mCons (mVar i) ms env te = .ok (.rf i none :: xs.map .d) env := by
    rw [ev_mCons, v, zq00, ek_mCons_0, h, zq00]
    rfl
  rw [e, zq00]
  simp only [ek_mCall_0]
  rw [c1]
  show doCall (noXf F) env te _ = _
  unfold doCall
  rw [if_pos ao]
  show (match noXf F (.io (Dkv g m c) :: (xs.map fun x => (⟨.d x, none, none⟩ : Ag)).map (·.a)) with
    | .ok r ios => if (brS (⟨.io (Dkv g m c), some i, none⟩ :: xs.map fun x => (⟨.d x, none, none⟩ : Ag))).isEmpty = true ∨ (r.tup = true ∧ ios.all A.ioTup = true) then Rs.ok r (setIo env (⟨.io (Dkv g m c), some i, none⟩ :: xs.map fun x => (⟨.d x, none, none⟩ : Ag)) ios) else .bad
    | .ex x ios => if (brS (⟨.io (Dkv g m c), some i, none⟩ :: xs.map fun x => (⟨.d x, none, none⟩ : Ag))).isEmpty = true ∨ (x.fs.all (fun q => tupD q.2) = true ∧ ios.all A.ioTup = true) then .ex x (setIo env (⟨.io (Dkv g m c), some i, none⟩ :: xs.map fun x => (⟨.d x, none, none⟩ : Ag)) ios) else .bad
    | .bad => .bad) = _
  rw [am]
  have eF : noXf F (.io (Dkv g m c) :: xs.map .d) = .ok r (.io (Dkv g' m c') :: xs.map .d) := by
    unfold noXf
    rw [hF]
    rfl
  rw [eF]
  have br1 : brS (⟨.io (Dkv g m c), some i, none⟩ :: xs.map fun x => (⟨.d x, none, none⟩ : Ag)) = [] := br0
  show (if (brS (⟨.io (Dkv g m c), some i, none⟩ :: xs.map fun x => (⟨.d x, none, none⟩ : Ag))).isEmpty = true ∨ _ then Rs.ok r (setIo env (⟨.io (Dkv g m c), some i, none⟩ :: xs.map fun x => (⟨.d x, none, none⟩ : Ag)) (.io (Dkv g' m c') :: xs.map .d)) else .bad) = _
  rw [br1, if_pos (.inl rfl)]
  show Rs.ok r (setIo (setOw env i (.io (Dkv g' m c'))) (xs.map fun x => (⟨.d x, none, none⟩ : Ag)) (xs.map .d)) = _
  rw [st]
  unfold setOw
  rw [hi]
theorem asg_at {M : ME} {env e e' : Env} {x : A} {i : Nat} {te : List A} (h : M env te = .ok x e) (hg : gN i x e te = some e') : mAsg M (gN i) env te = .nx e' := by
  rw [ev_mAsg, h, ev_fl_ok]
  show (match gN i x e te with | some e => Fl.nx e | none => .bad) = _
  rw [hg]
end Tw

namespace Tw
open PySem PySem.Spec PyProof.Rows L2
/-! ### wishes -/
/-! ### the form of a wish -/
end Tw

namespace Tw
open PySem PySem.Spec PyProof.Rows L2
/-! ### a wish within the limits has no fault -/
end Tw

namespace Tw
open PySem PySem.Spec PyProof.Rows L2
end Tw

namespace Tw
open PySem PySem.Spec PyProof.Rows L2
end Tw

namespace Tw
open PySem PySem.Spec PyProof.Rows L2
/-! ### gaps filled -/
def isTupD : Dt → Bool
  | .tuple _ => true
  | _ => false
theorem Ev.isiT {env : Env} {j : Nat} {x : Dt} (h : env[j]? = some (some (.d x))) : Ev (mIsi "tuple" (mVar j)) env (.bool (isTupD x)) := fun te => by
  cases x with
  | none => simp! [h, kb_NoneType_tuple, isTupD]
  | bool b => simp! [h, kb_bool_tuple, isTupD]
  | int i => simp! [h, kb_int_tuple, isTupD]
  | str z => simp! [h, kb_str_tuple, isTupD]
  | list l => simp! [h, kb_list_tuple, isTupD]
  | tuple l => simp! [h, kb_tuple_tuple, isTupD]
  | dict l => simp! [h, kb_dict_tuple, isTupD]
end Tw

namespace Tw
open PySem PySem.Spec PyProof.Rows L2
end Tw

namespace Tw
open PySem PySem.Spec PyProof.Rows L2
end Tw

namespace Tw
open PySem PySem.Spec PyProof.Rows L2
theorem op_chg2 {f : Env → A → A → Rs A} {M1 M2 : ME} {env e1 : Env} {x y z : Dt} {te : List A} (h1 : M1 env te = .ok (.d x) e1) (h2 : Ev M2 e1 y) (h3 : Ev (mOp f (mC x) (mC y)) e1 z) : mOp f M1 M2 env te = .ok (.d z) e1 := by
  have e := h3 te
  rw [ev_mOp, Ev.c (x := x), zq00, ek_mOp_0, Ev.c (x := y), zq00, ek_mOp_1] at e
  rw [ev_mOp, h1, zq00, ek_mOp_0, h2, zq00, ek_mOp_1]
  exact e
end Tw

namespace Tw
open PySem PySem.Spec PyProof.Rows L2
end Tw

namespace Tw
open PySem PySem.Spec PyProof.Rows L2
/-! ### the gaps of a row that is filled -/
/-! ### how great the gaps of a wood are -/
end Tw

namespace Tw
open PySem PySem.Spec PyProof.Rows L2
/-! ### chains -/
end Tw

namespace Tw
open PySem PySem.Spec PyProof.Rows L2
/-! ### gaps put back -/
end Tw

namespace Tw
open PySem PySem.Spec PyProof.Rows L2
end Tw

namespace Tw
open PySem PySem.Spec PyProof.Rows L2
end Tw

namespace Tw
open PySem PySem.Spec PyProof.Rows L2
end Tw

namespace Tw
open PySem PySem.Spec PyProof.Rows L2
/-! ### all rows over some names -/
/-! ### each completion is a wood's row -/
end Tw

namespace Tw
open PySem PySem.Spec PyProof.Rows L2
/-! ### the program's rows -/
end Tw

namespace Tw
open PySem PySem.Spec PyProof.Rows L2
end Tw

namespace Tw
open PySem PySem.Spec PyProof.Rows L2
/-! ### the names of a wish -/
end Tw

namespace Tw
open PySem PySem.Spec PyProof.Rows L2
/-! ### a deed of the script has no fault -/
end Tw

namespace Tw
open PySem PySem.Spec PyProof.Rows L2
/-! ### a script of named deeds has no fault -/
end Tw

namespace Tw
open PySem PySem.Spec PyProof.Rows L2
/-! ### all_rows gets a list that rows_for made -/
/-! ### deeds that keep all nodes -/
def Wk.keep : Wk → Bool
  | .lift => false | .cut => false | .wrap => false | .put => false | _ => true
/-! ### all rows of the called names -/
end Tw

namespace Tw
open PySem PySem.Spec PyProof.Rows L2
/-! ### such deeds keep the names -/
/-! ### wishes by the row alone -/
end Tw

namespace Tw
open PySem PySem.Spec PyProof.Rows L2
/-! ### where -/
/-! ### what the law asks of one script -/
/-! ### logic of sureness -/
end Tw

namespace Tw
open PySem PySem.Spec PyProof.Rows L2
/-! ### the law's questions about one script -/
/-! ### a script that keeps all nodes is drawn -/
end Tw

namespace Tw
open PySem PySem.Spec PyProof.Rows L2
/-! ### wishes and what is none, by the data alone -/
mutual
def nd : Dt → Nat
  | .tuple xs => ndL xs + 1
  | _ => 1
def ndL : List Dt → Nat
  | [] => 0
  | x :: xs => nd x + ndL xs
end
/-! ### small results -/
/-! ### what has no fault is a wish -/
theorem two {α : Type} {r : List α} (h : r.length = 2) : ∃ a b, r = [a, b] := by
  cases r with
  | nil => cases h
  | cons a r => cases r with
    | nil => cases h
    | cons b r => cases r with
      | nil => exact ⟨a, b, rfl⟩
      | cons c r => simp at h
/-! ### the answer -/
end Tw

namespace Tw
open PySem PySem.Spec PyProof.Rows L2
/-! ### the program's judge of wishes, at any data -/
end Tw

namespace Tw
open PySem PySem.Spec PyProof.Rows L2
/-! ### strip(letters) of a text -/
end Tw

namespace Tw
open PySem PySem.Spec PyProof.Rows L2
/-! ### the law's judge of wishes, at any data -/
end Tw

namespace Tw
open PySem PySem.Spec PyProof.Rows L2
end Tw

namespace Tw
open PySem PySem.Spec PyProof.Rows L2
/-! ### is_so refuses what is no wish -/
/-! ### the answers can be shown -/
end Tw

namespace Tw
open PySem PySem.Spec PyProof.Rows L2
/-! ### wishes that grow -/
theorem tst_at {M : ME} {env e : Env} {te : List A} {b : Bool} (h : M env te = .ok (.d (.bool b)) e) : mTst M env te = .ok b e := by
  show (M env te).bind tstA = _
  rw [h, zq00]
  rfl
end Tw

namespace Tw
open PySem PySem.Spec PyProof.Rows L2
/-! ### wishes with something changed -/
theorem mD_at {m : ME} {env e : Env} {te : List A} {x : Dt} (h : m env te = .ok (.d x) e) : mD m env te = .ok (.d x) e := by
  rw [ev_mD, h]
  rfl
end Tw

namespace Tw
open PySem PySem.Spec PyProof.Rows L2
/-! ### what can be shown though empty dicts lie in it -/
/-! ### of what may come of a wish -/
end Tw

namespace Tw
open PySem PySem.Spec PyProof.Rows L2
/-! ### how many rows there are -/
end Tw

namespace Tw
open PySem PySem.Spec PyProof.Rows L2
/-! ### rows in order -/
/-! ### rows with one node more -/
abbrev free (n : Str) (r : List Tok) : Prop := ∀ p ∈ r, p.2 ≠ n
/-! ### they are the rows of woods -/
end Tw

namespace Tw
open PySem PySem.Spec PyProof.Rows L2
/-! ### the law's rows -/
end Tw

namespace Tw
open PySem PySem.Spec PyProof.Rows L2
/-! ### rows with one node more, as the law makes them -/
end Tw

namespace Tw
open PySem PySem.Spec PyProof.Rows L2
end Tw

namespace Tw
open PySem PySem.Spec PyProof.Rows L2
/-! ### what is a tuple of unlike names, four at most -/
end Tw

namespace Tw
open PySem PySem.Spec PyProof.Rows L2
theorem isTup_nm {x : Dt} (h : isTupD x = true) : ∃ xs, x = .tuple xs := by
  cases x with
  | tuple xs => exact ⟨xs, rfl⟩
  | _ => cases h
/-! ### all woods with some names -/
end Tw

namespace Tw
open PySem PySem.Spec PyProof.Rows L2
/-! ### what is no deed, any data -/
end Tw

namespace Tw
open PySem PySem.Spec PyProof.Rows L2
/-! ### the law's judge of deeds -/
end Tw

namespace Tw
open PySem PySem.Spec PyProof.Rows L2
/-! ### what is a right deed -/
end Tw

namespace Tw
open PySem PySem.Spec PyProof.Rows L2
/-! ### what is no script, any data -/
end Tw

namespace Tw
open PySem PySem.Spec PyProof.Rows L2
/-! ### the law's judge of scripts -/
theorem Ev.ixO {i : Nat} {mb : ME} {env : Env} {xs : List Dt} {n : Nat} {x : Dt} (h : env[i]? = some (some (.own (.l xs)))) (hb : Ev mb env (.int (n : Nat))) (hx : xs[n]? = some x) : Ev (mOp ixA (mVar i) mb) env x := fun te => by
  have hv : mVar i env te = .ok (.rf i none) env := by unfold mVar; rw [h]; rfl
  have ho : (A.rf i none).lst? env = some xs := by
    have : owAt env i = some (.l xs) := by unfold owAt; rw [h]
    show ((A.rf i none).ow env).bind Ow.lst? = some xs
    show ((owAt env i)).bind Ow.lst? = some xs
    rw [this]
    rfl
  rw [ev_mOp, hv, zq00, ek_mOp_0, hb, zq00, ek_mOp_1]
  have ha : atI xs (n : Int) = some x := by
    have hn : n < xs.length := (List.getElem?_eq_some_iff.mp hx).1
    exact atI_nat hx
  show (match (A.rf i none).tup? with
    | some xs => (match atI xs (n : Int) with
      | some x => Rs.ok (A.d x) env
      | none => .bad)
    | none => match (A.rf i none).lst? env with
      | some xs => (match atI xs (n : Int) with
        | some x => Rs.ok (A.d x) env
        | none => .bad)
      | none => _) = _
  rw [ho]
  show (match atI xs (n : Int) with | some x => Rs.ok (A.d x) env | none => .bad) = _
  rw [ha]
theorem ne_nil_ref {i : Nat} {env : Env} {ys : List Dt} (h : env[i]? = some (some (.own (.l ys)))) : Ev (mOp (fl2 neD) (mVar i) (mLst mNil)) env (.bool (!ys.isEmpty)) := fun te => by
  have hv : mVar i env te = .ok (.rf i none) env := by unfold mVar; rw [h]; rfl
  have ho : owAt env i = some (.l ys) := by unfold owAt; rw [h]
  rw [ev_mOp, hv, zq00, ek_mOp_0]
  have hval : (A.rf i none).val env = some (.list ys) := by
    simp! [h]
  simp! [h, neD_nil]

end Tw

namespace Tw
open PySem PySem.Spec PyProof.Rows L2
/-! ### the table of a script -/
end Tw

namespace Tw
open PySem PySem.Spec PyProof.Rows L2
/-! ### the refusals of a table -/
end Tw

namespace Tw
open PySem PySem.Spec PyProof.Rows L2
end Tw

namespace Tw
open PySem PySem.Spec PyProof.Rows L2
end Tw

namespace Tw
open PySem PySem.Spec PyProof.Rows L2
end Tw

namespace Tw
open PySem PySem.Spec PyProof.Rows L2
/-! ### mixing data -/
end Tw

namespace Tw
open PySem PySem.Spec PyProof.Rows L2
/-! ### a deed on some names -/
end Tw

namespace Tw
open PySem PySem.Spec PyProof.Rows L2
end Tw

namespace Tw
open PySem PySem.Spec PyProof.Rows L2
end Tw

namespace Tw
open PySem PySem.Spec PyProof.Rows L2
/-! ### a script spoilt -/
end Tw

namespace Tw
open PySem PySem.Spec PyProof.Rows L2
end Tw

namespace Tw
open PySem PySem.Spec PyProof.Rows L2
/-! ### the answers can be shown -/
/-! ### parts of a law's turn that draw -/
end Tw

namespace Tw
open PySem PySem.Spec PyProof.Rows L2
/-! ### the children of a name, in a row -/
def K : List Str → List RI → Str → List Str
  | _, [], _ => []
  | S, .g _ :: r, n => K S r n
  | S, .e (true, m) :: r, n => if S.headD "" = n then m :: K (m :: S) r n else K (m :: S) r n
  | S, .e (false, _) :: r, n => K S.tail r n
theorem K_app : ∀ {a : List RI} {S T : List Str} {b : List RI} {n : Str}, run S a = some T → K S (a ++ b) n = K S a n ++ K T b n
  | [], S, T, b, n, h => by cases h; rfl
  | .g k :: a, S, T, b, n, h => K_app (a := a) (S := S) h
  | .e (true, m) :: a, S, T, b, n, h => by
    have ih := K_app (a := a) (S := m :: S) (b := b) (n := n) h
    show (if S.headD "" = n then m :: K (m :: S) (a ++ b) n else K (m :: S) (a ++ b) n) = (if S.headD "" = n then m :: K (m :: S) a n else K (m :: S) a n) ++ _
    rw [ih]
    split <;> rfl
  | .e (false, m) :: a, [], T, b, n, h => nomatch h
  | .e (false, m) :: a, s :: S, T, b, n, h => by
    have h' : (if s = m then run S a else none) = some T := h
    split at h'
    · exact K_app (a := a) (S := S) h'
    · cases h'
theorem K_bal {I b : List RI} {S : List Str} {n : Str} (h : Bal I) : K S (I ++ b) n = K S I n ++ K S b n := K_app (h S)
def hd1 (S : List Str) (n m : Str) : List Str := if S.headD "" = n then [m] else []
theorem K_node {I B : List RI} {S : List Str} {n m : Str} (h : Bal I) : K S (.e (true, m) :: (I ++ .e (false, m) :: B)) n = hd1 S n m ++ (K (m :: S) I n ++ K S B n) := by
  have e : K (m :: S) (I ++ .e (false, m) :: B) n = K (m :: S) I n ++ K S B n := K_bal h
  show (if S.headD "" = n then m :: K (m :: S) (I ++ .e (false, m) :: B) n else K (m :: S) (I ++ .e (false, m) :: B) n) = _
  rw [e]
  unfold hd1
  split <;> rfl
theorem K_none : ∀ {w : GW} {S : List Str} {n : Str}, S.headD "" ≠ n → RI.e (true, n) ∉ w.row → K S w.row n = []
  | .nil, _, _, _, _ => rfl
  | .gap k r, S, n, h, hn => K_none (w := r) h fun z => hn (List.mem_cons_of_mem _ z)
  | .cons m i r, S, n, h, hn => by
    have hm : m ≠ n := fun e => hn (by rw [e]; exact List.mem_cons_self)
    have h1 : RI.e (true, n) ∉ i.row := fun z => hn (List.mem_cons_of_mem _ (List.mem_append_left _ z))
    have h2 : RI.e (true, n) ∉ r.row := fun z => hn (List.mem_cons_of_mem _ (List.mem_append_right _ (List.mem_cons_of_mem _ z)))
    show K S (.e (true, m) :: (i.row ++ .e (false, m) :: r.row)) n = []
    rw [K_node i.bal, K_none (w := i) (S := m :: S) hm h1, K_none (w := r) h h2]
    unfold hd1
    rw [if_neg h]
    rfl
theorem Bal.K_none {I : List RI} {S : List Str} {n : Str} (b : Bal I) (h : S.headD "" ≠ n) (hn : RI.e (true, n) ∉ I) : K S I n = [] := by
  obtain ⟨w, rfl⟩ := gw_of (b [])
  exact Tw.K_none h hn
/-- a name that is not open has no children -/
theorem K_out : ∀ {a : List RI} {S : List Str} {n : Str}, n ≠ "" → n ∉ S → RI.e (true, n) ∉ a → K S a n = []
  | [], _, _, _, _, _ => rfl
  | .g k :: a, S, n, h0, h1, h2 => K_out (a := a) h0 h1 fun z => h2 (List.mem_cons_of_mem _ z)
  | .e (true, m) :: a, S, n, h0, h1, h2 => by
    have hm : n ≠ m := fun e => h2 (by rw [e]; exact List.mem_cons_self)
    show (if S.headD "" = n then m :: K (m :: S) a n else K (m :: S) a n) = []
    rw [K_out (a := a) h0 (fun z => (List.mem_cons.mp z).elim hm h1) fun z => h2 (List.mem_cons_of_mem _ z)]
    refine if_neg fun z => ?_
    cases S with
    | nil => exact h0 z.symm
    | cons s S => exact h1 (by rw [← z]; exact List.mem_cons_self)
  | .e (false, m) :: a, S, n, h0, h1, h2 => K_out (a := a) (S := S.tail) h0 (fun z => h1 (List.mem_of_mem_tail z)) fun z => h2 (List.mem_cons_of_mem _ z)
theorem K_congr : ∀ {w : GW} {S T : List Str} {n : Str}, (S.headD "" = n ↔ T.headD "" = n) → K S w.row n = K T w.row n
  | .nil, _, _, _, _ => rfl
  | .gap k r, S, T, n, h => K_congr (w := r) h
  | .cons m i r, S, T, n, h => by
    show K S (.e (true, m) :: (i.row ++ .e (false, m) :: r.row)) n = K T (.e (true, m) :: (i.row ++ .e (false, m) :: r.row)) n
    rw [K_node i.bal, K_node i.bal, K_congr (w := i) (S := m :: S) (T := m :: T) Iff.rfl, K_congr (w := r) h]
    unfold hd1
    by_cases c : S.headD "" = n
    · rw [if_pos c, if_pos (h.mp c)]
    · rw [if_neg c, if_neg fun z => c (h.mpr z)]
theorem Bal.K_congr {I : List RI} {S T : List Str} {n : Str} (b : Bal I) (h : S.headD "" = n ↔ T.headD "" = n) : K S I n = K T I n := by
  obtain ⟨w, rfl⟩ := gw_of (b [])
  exact Tw.K_congr h
theorem K_mem : ∀ {a : List RI} {S : List Str} {n m : Str}, m ∈ K S a n → RI.e (true, m) ∈ a
  | [], _, _, _, h => nomatch h
  | .g k :: a, S, n, m, h => List.mem_cons_of_mem _ (K_mem (a := a) h)
  | .e (true, x) :: a, S, n, m, h => by
    have h' : m ∈ (if S.headD "" = n then x :: K (x :: S) a n else K (x :: S) a n) := h
    split at h'
    · rcases List.mem_cons.mp h' with rfl | h'
      · exact List.mem_cons_self
      · exact List.mem_cons_of_mem _ (K_mem h')
    · exact List.mem_cons_of_mem _ (K_mem h')
  | .e (false, x) :: a, S, n, m, h => List.mem_cons_of_mem _ (K_mem (a := a) h)
theorem run_sub : ∀ {a : List RI} {S T : List Str} {n : Str}, run S a = some T → n ∈ T → n ∈ S ∨ RI.e (true, n) ∈ a
  | [], S, T, n, h, hn => by cases h; exact .inl hn
  | .g k :: a, S, T, n, h, hn => (run_sub (a := a) h hn).imp id (List.mem_cons_of_mem _)
  | .e (true, m) :: a, S, T, n, h, hn => by
    rcases run_sub (a := a) (S := m :: S) h hn with z | z
    · rcases List.mem_cons.mp z with rfl | z
      · exact .inr List.mem_cons_self
      · exact .inl z
    · exact .inr (List.mem_cons_of_mem _ z)
  | .e (false, m) :: a, [], T, n, h, hn => nomatch h
  | .e (false, m) :: a, s :: S, T, n, h, hn => by
    have h' : (if s = m then run S a else none) = some T := h
    split at h'
    · exact (run_sub (a := a) h' hn).imp (List.mem_cons_of_mem _) (List.mem_cons_of_mem _)
    · cases h'
theorem run_pre {a b : List RI} (h : Bal (a ++ b)) : ∃ T, run [] a = some T := by
  have e := h []
  rw [run_app] at e
  cases q : run [] a with
  | none => rw [q] at e; cases e
  | some T => exact ⟨T, rfl⟩
/-- no name is the empty text -/
def Nn (r : List RI) : Prop := ∀ n, Th r n → n ≠ ""
/-- the children around a block -/
structure Ar (r : List RI) (a : Str) (A I B : List RI) (T : List Str) : Prop where
  run : run [] A = some T
  par : T.headD "" = "" ∨ Th A (T.headD "")
  pn : ∀ c, RI.e (c, T.headD "") ∉ I
  pa : T.headD "" ≠ a
  at1 : K [] r (T.headD "") = K [] A (T.headD "") ++ a :: K T B (T.headD "")
  at2 : K [] (A ++ B) (T.headD "") = K [] A (T.headD "") ++ K T B (T.headD "")
  na : a ∉ K [] A (T.headD "")
  nb : a ∉ K T B (T.headD "")
  oth : ∀ n, n ≠ T.headD "" → (n = "" ∨ Th A n ∨ Th B n) → K [] r n = K [] (A ++ B) n
  inn : ∀ n, n = a ∨ Th I n → K [] r n = K [a] I n
theorem Sp.dis {r A I B : List RI} {a : Str} (s : Sp r a A I B) (o : Ok r) {n : Str} (h : Th I n) : n ≠ a ∧ ∀ c, RI.e (c, n) ∉ A ∧ RI.e (c, n) ∉ B := by
  have bp := s.bal.pair n
  have nd := o.nd
  rw [s.eq, ends_app] at nd
  have e : ends (.e (true, a) :: (I ++ .e (false, a) :: B)) = (true, a) :: (ends I ++ (false, a) :: ends B) := by
    show (true, a) :: ends (I ++ .e (false, a) :: B) = _
    rw [ends_app]
    rfl
  rw [e] at nd
  have n1 := List.nodup_append.mp nd
  have n2 := List.nodup_append.mp (List.nodup_cons.mp n1.2.1).2
  have inI : ∀ c, (c, n) ∈ ends I := fun c => by
    cases c
    · exact mem_ends.mpr (bp.mp h)
    · exact mem_ends.mpr h
  refine ⟨fun z => (s.out true).2.1 (by rw [← z]; exact h), fun c => ⟨fun z => ?_, fun z => ?_⟩⟩
  · exact n1.2.2 _ (mem_ends.mpr z) _ (List.mem_cons_of_mem _ (List.mem_append_left _ (inI c))) rfl
  · exact n2.2.2 _ (inI c) _ (List.mem_cons_of_mem _ (mem_ends.mpr z)) rfl
theorem Sp.ar {r A I B : List RI} {a : Str} (s : Sp r a A I B) (o : Ok r) (nn : Nn r) : ∃ T, Ar r a A I B T := by
  have bl := o.bal
  rw [s.eq] at bl
  obtain ⟨T, hT⟩ := run_pre bl
  have a0 : a ≠ "" := nn a (by show RI.e (true, a) ∈ r; rw [s.eq]; exact List.mem_append_right _ List.mem_cons_self)
  have oI : ∀ {n : Str}, Th I n → n ≠ "" := fun {n} h => nn n (by show RI.e (true, n) ∈ r; rw [s.eq]; exact List.mem_append_right _ (List.mem_cons_of_mem _ (List.mem_append_left _ h)))
  have par : T.headD "" = "" ∨ Th A (T.headD "") := by
    cases T with
    | nil => exact .inl rfl
    | cons t T => exact .inr ((run_sub hT List.mem_cons_self).resolve_left fun h => nomatch h)
  have pa : T.headD "" ≠ a := fun e => by
    rcases par with h | h
    · exact a0 (e.symm.trans h)
    · rw [e] at h
      exact (s.out true).1 h
  have pn1 : ¬ Th I (T.headD "") := fun z => by
    rcases par with h | h
    · exact oI z h
    · exact ((s.dis o z).2 true).1 h
  have pn : ∀ c, RI.e (c, T.headD "") ∉ I := fun c z => by
    cases c
    · exact pn1 ((s.bal.pair _).mpr z)
    · exact pn1 z
  have eq : ∀ n, K [] r n = K [] A n ++ (hd1 T n a ++ (K (a :: T) I n ++ K T B n)) := fun n => by
    conv => lhs; rw [s.eq]
    rw [K_app hT, K_node s.bal]
  have eq2 : ∀ n, K [] (A ++ B) n = K [] A n ++ K T B n := fun n => K_app hT
  have kI : ∀ n, n ≠ a → ¬ Th I n → K (a :: T) I n = [] := fun n h1 h2 => s.bal.K_none (fun z => h1 z.symm) h2
  refine ⟨T, hT, par, pn, pa, ?_, eq2 _, fun z => (s.out true).1 (K_mem z), fun z => (s.out true).2.2 (K_mem z), fun n h1 h2 => ?_, fun n h => ?_⟩
  · rw [eq, kI _ pa pn1]
    unfold hd1
    rw [if_pos rfl]
    rfl
  · have nI : n ≠ a ∧ ¬ Th I n := by
      refine ⟨fun e => ?_, fun z => ?_⟩
      · rw [e] at h2
        rcases h2 with h2 | h2 | h2
        · exact a0 h2
        · exact (s.out true).1 h2
        · exact (s.out true).2.2 h2
      · rcases h2 with h2 | h2 | h2
        · exact oI z h2
        · exact ((s.dis o z).2 true).1 h2
        · exact ((s.dis o z).2 true).2 h2
    rw [eq, eq2, kI n nI.1 nI.2]
    unfold hd1
    rw [if_neg (fun z => h1 z.symm)]
    rfl
  · have h0 : n ≠ "" := by
      rcases h with h | h
      · rw [h]; exact a0
      · exact oI h
    have hA : RI.e (true, n) ∉ A := by
      rcases h with h | h
      · rw [h]; exact (s.out true).1
      · exact ((s.dis o h).2 true).1
    have hB : RI.e (true, n) ∉ B := by
      rcases h with h | h
      · rw [h]; exact (s.out true).2.2
      · exact ((s.dis o h).2 true).2
    have hTn : n ∉ T := fun z => (run_sub hT z).elim (fun h => nomatch h) hA
    have hh : T.headD "" ≠ n := fun z => by
      cases T with
      | nil => exact h0 z.symm
      | cons t T => exact hTn (by rw [← z]; exact List.mem_cons_self)
    rw [eq, K_out (S := []) h0 List.not_mem_nil hA, K_out h0 hTn hB]
    unfold hd1
    rw [if_neg hh, List.nil_append, List.nil_append, List.append_nil]
    exact s.bal.K_congr Iff.rfl
end Tw

namespace Tw
open PySem PySem.Spec PyProof.Rows L2
/-! ### a dict of lists, by what stands at its keys -/
/-! ### lists in a dict, changed in place -/
end Tw

namespace Tw
open PySem PySem.Spec PyProof.Rows L2
/-! ### moves, by the children -/
theorem Sp.th {r A I B : List RI} {a : Str} (s : Sp r a A I B) (n : Str) : Th r n ↔ (n = a ∨ Th I n) ∨ Th (A ++ B) n := by
  show RI.e (true, n) ∈ r ↔ (n = a ∨ RI.e (true, n) ∈ I) ∨ RI.e (true, n) ∈ A ++ B
  rw [s.eq]
  simp only [List.mem_append, List.mem_cons, RI.e.injEq, Prod.mk.injEq, true_and, Bool.true_eq_false, false_and, false_or]
  constructor
  · rintro (h | h | h | h)
    · exact .inr (.inl h)
    · exact .inl (.inl h)
    · exact .inl (.inr h)
    · exact .inr (.inr h)
  · rintro ((h | h) | h | h)
    · exact .inr (.inl h)
    · exact .inr (.inr (.inl h))
    · exact .inl h
    · exact .inr (.inr (.inr h))
end Tw

namespace Tw
open PySem PySem.Spec PyProof.Rows L2
theorem drop_at {m : ME} {env e : Env} {te : List A} {a : A} (h : m env te = .ok a e) : mDrop m env te = .nx e := by
  show (m env te).fl _ = _
  rw [h]
  rfl
end Tw

namespace Tw
open PySem PySem.Spec PyProof.Rows L2
/-! ### the children behind the other deeds -/
/-! ### names exchanged -/
end Tw

namespace Tw
open PySem PySem.Spec PyProof.Rows L2
end Tw

namespace Tw
open PySem PySem.Spec PyProof.Rows L2
/-! ### how many keys there are -/
def bg : List RI → List Str
  | [] => []
  | .e (true, m) :: r => m :: bg r
  | _ :: r => bg r
/-! ### steps that change the dict -/
end Tw

namespace Tw
open PySem PySem.Spec PyProof.Rows L2
/-! ### the deeds that are no moves -/
section
variable {env : Env} {te : List A} {i : Nat}
theorem mut_own {xs ys : List Dt} {r : Dt} {g : List Dt → Option (Dt × List Dt)} (h0 : env[i]? = some (some (.own (.l xs)))) (hn : anyC (isNest i) env te = false) (hg : g xs = some (r, ys)) : mutL env te (.rf i none) g = .ok (.d r) (env.set i (some (.own (.l ys)))) := by
  have e : owAt env i = some (.l xs) := by
    unfold owAt
    rw [h0]
  have p : setP env i none ys = some (env.set i (some (.own (.l ys)))) := by
    unfold setP
    rw [h0, e]
    rfl
  show (match owAt env i with
    | some (.l xs) => if (none : Option Key).isSome = true ∨ anyC (isNest i) env te = false then (match g xs with
      | some (r, ys) => (match setP env i none ys with
        | some e' => Rs.ok (A.d r) e'
        | none => .bad)
      | none => .bad) else .bad
    | _ => .bad) = _
  rw [e]
  show (if (none : Option Key).isSome = true ∨ anyC (isNest i) env te = false then (match g xs with
      | some (r, ys) => (match setP env i none ys with
        | some e' => Rs.ok (A.d r) e'
        | none => .bad)
      | none => .bad) else .bad) = _
  rw [if_pos (.inr hn), hg]
  show (match setP env i none ys with
        | some e' => Rs.ok (A.d r) e'
        | none => .bad) = _
  rw [p]
theorem meth_own {F : Env → List A → A → List A → Rs A} {ma : MA} {xs : List Dt} {as : List A} {R : Rs A} (h0 : env[i]? = some (some (.own (.l xs)))) (hma : ma env (.rf i none :: te) = .ok as env) (hF : F env te (.rf i none) as = R) : mMeth F (mVar i) ma env te = R := by
  have v : mVar i env te = .ok (.rf i none) env := by
    unfold mVar
    rw [h0]
    rfl
  have e : owAt env i = some (.l xs) := by
    unfold owAt
    rw [h0]
  have il : isL env (.rf i none) = true := by
    show (match owAt env i with | some (.l _) => true | some (.ll _) => true | _ => false) = true
    rw [e]
  unfold mMeth
  rw [v, zq00, if_pos il, hma, zq00]
  exact hF
end
/-! the nodes of a stretch -/
def GW.tp : GW → List (Str × GW)
  | .nil => []
  | .gap _ r => r.tp
  | .cons n i r => (n, i) :: r.tp
def pn (l : List (Str × GW)) : List Str := l.flatMap fun x => x.1 :: bg x.2.row
end Tw

namespace Tw
open PySem PySem.Spec PyProof.Rows L2
end Tw

namespace Tw
open PySem PySem.Spec PyProof.Rows L2
/-! ### the dict of a wood's children -/
theorem Wd.nn {w : Wd} (hnm : ∀ z ∈ w.names, IsNm z) : Nn w.rows := fun n hn => nm_ne (hnm n (Wd.th.mp hn))
/-! ### the word with which a deed stops -/
end Tw

namespace Tw
open PySem PySem.Spec PyProof.Rows L2
/-! ### a script done with the dict of children -/
theorem tup_wd : ∀ w : Wd, tupAll w.data = true
  | .nil => rfl
  | .cons n i r => by
    have h1 := tup_wd i
    have h2 := tup_wd r
    show ((true && (tupAll i.data && true)) && tupAll r.data) = true
    rw [h1, h2]
    rfl
end Tw

namespace Tw
open PySem PySem.Spec PyProof.Rows L2
/-! ### where a script stops -/
/-! ### the fate of a script -/
end Tw

namespace Tw
open PySem PySem.Spec PyProof.Rows L2
/-! ### what is told of stops can be shown -/
/-! ### what the law collects -/
def valD : DRs → Dt
  | .ok (.d y) _ => y
  | _ => .none
end Tw

namespace Tw
open PySem PySem.Spec PyProof.Rows L2
/-! ### the new names of a drawn script -/
/-! ### old names of scripts and of wishes -/
theorem asg_atG {M : ME} {g : MG} {env e e' : Env} {x : A} {te : List A} (h : M env te = .ok x e) (hg : g x e te = some e') : mAsg M g env te = .nx e' := by
  rw [ev_mAsg, h, ev_fl_ok]
  show (match g x e te with | some e => Fl.nx e | none => .bad) = _
  rw [hg]
/-! ### the rows for a script and names -/
end Tw

namespace Tw
open PySem PySem.Spec PyProof.Rows L2
/-! ### what is a wood -/
end Tw

namespace Tw
open PySem PySem.Spec PyProof.Rows L2
/-! ### whether a wood fits, how many nodes it has -/
/-! ### the names in a wish -/
theorem ext_own {env : Env} {te : List A} {i : Nat} {xs zs : List Dt} (h0 : env[i]? = some (some (.own (.l xs)))) (hn : anyC (isNest i) env te = false) (hz : xs.length + zs.length ≤ 90000) : extA env te (.rf i none) [.d (.list zs)] = .ok (.d .none) (env.set i (some (.own (.l (xs ++ zs))))) := by
  unfold extA
  show mutL _ _ (.rf i none) _ = _
  exact mut_own (i := i) h0 hn (if_pos (big (by omega)))
end Tw

namespace Tw
open PySem PySem.Spec PyProof.Rows L2
/-! ### a wish is so, the deeds do, another wish is not so behind them -/
end Tw

namespace Tw
open PySem PySem.Spec PyProof.Rows L2
/-! ### sure, keeps and where of any script -/
end Tw

namespace Tw
open PySem PySem.Spec PyProof.Rows L2
/-! ### a comprehension over things that are told by data -/
/-! ### a wish judged by the law -/
end Tw

namespace Tw
open PySem PySem.Spec PyProof.Rows L2
/-! ### what a drawn script is -/
/-! ### rows of the law and the woods of these -/
end Tw

namespace Tw
open PySem PySem.Spec PyProof.Rows L2
/-! ### a wish behind deeds, a wish that is lost -/
/-! ### rows can be shown -/
end Tw

namespace Tw
open PySem PySem.Spec PyProof.Rows L2
/-! ### rows with gaps filled: deeds and fillings go in either order -/
def fillI (G : Nat → List RI) : List RI → List RI
  | [] => []
  | .e p :: r => .e p :: fillI G r
  | .g k :: r => G k ++ fillI G r
def pos (G : Nat → List RI) (r : List RI) (k : Nat) : Nat := (fillI G (r.take k)).length
end Tw

namespace Tw
open PySem PySem.Spec PyProof.Rows L2
/-! ### sayings by the row around a node -/
/-! ### a saying hangs on the named nodes and one more -/
end Tw

namespace Tw
open PySem PySem.Spec PyProof.Rows L2
/-! ### what is told of a wood is told of a small one -/
/-! a row out of its named ends and its gaps -/
/-! other names for one node -/
end Tw

namespace Tw
open PySem PySem.Spec PyProof.Rows L2
/-! ### fillings -/
theorem Evs.two {m1 m2 : ME} {env : Env} {x y : Dt} (h1 : Ev m1 env x) (h2 : Ev m2 env y) : Evs (mCons m1 (mCons m2 mNil)) env [x, y] := Evs.cons h1 (Evs.cons h2 Evs.nil)
end Tw

namespace Tw
open PySem PySem.Spec PyProof.Rows L2
/-! ### rows with gaps, filled -/
/-! ### a fresh name -/
end Tw

namespace Tw
open PySem PySem.Spec PyProof.Rows L2
/-! ### the names in a script -/
/-! ### what the fillings of the skeletons are -/
end Tw

namespace Tw
open PySem PySem.Spec PyProof.Rows L2
/-! ### what is shown: a dict with truths as keys -/
def bk (b : Bool) : Leaf := .num (if b = true then 1 else 0)
end Tw

namespace Tw
open PySem PySem.Spec PyProof.Rows L2
/-! ### what is told -/
end Tw

namespace Tw
open PySem PySem.Spec PyProof.Rows L2
/-! ### the law's questions about what is told -/
end Tw

namespace Tw
open PySem PySem.Spec PyProof.Rows L2
/-! ### what a saying says, as a wish -/
end Tw

namespace Tw
open PySem PySem.Spec PyProof.Rows L2
/-! ### woods whose names may be any short texts (printed by zcopy.py) -/
end Tw

namespace Tw
open PySem PySem.Spec PyProof.Rows L2
/-! ### the repr of small woods -/
end Tw

namespace Tw
open PySem PySem.Spec PyProof.Rows L2
/-! ### the law's answers over all small woods -/
end Tw

namespace Tw
open PySem PySem.Spec PyProof.Rows L2
end Tw

namespace Tw
open PySem PySem.Spec PyProof.Rows L2
/-! ### what is told, computed over the small woods -/
end Tw

namespace Tw
open PySem PySem.Spec PyProof.Rows L2
/-! ### the table of told (printed by tab58.py) -/
end Tw

namespace Tw
open PySem PySem.Spec PyProof.Rows L2
/-! ### other names for a script and a saying -/
end Tw

namespace Tw
open PySem PySem.Spec PyProof.Rows L2
/-! ### what is told hangs on the small woods -/
def lets : List Str := ["a", "b", "c", "n", "m"]
end Tw

namespace Tw
open PySem PySem.Spec PyProof.Rows L2
/-! ### deeds written as a text -/
end Tw

namespace Tw
open PySem PySem.Spec PyProof.Rows L2
end Tw

namespace Tw
open PySem PySem.Spec PyProof.Rows L2
end Tw

namespace Tw
open PySem PySem.Spec PyProof.Rows L2
end Tw

namespace Tw
open PySem PySem.Spec PyProof.Rows L2
/-! ### the numbers of gaps in a row, and where they stand -/
/-- behind how many ends a gap stands -/
def slot : List RI → Nat → Option Nat
  | [], _ => none
  | .e _ :: r, g => (slot r g).map (· + 1)
  | .g k :: r, g => if k = g then some 0 else slot r g
/-! ### the first place at which two lists are unlike -/
/-! ### what parts two results -/
/-! ### leaves in some gaps -/
end Tw

namespace Tw
open PySem PySem.Spec PyProof.Rows L2
/-! ### the row of a wood whose names may be any short texts -/
/-! ### leaves in all gaps -/
/-! filling by what is balanced -/
end Tw

namespace Tw
open PySem PySem.Spec PyProof.Rows L2
/-! ### the wood with a leaf in each gap -/
end Tw

namespace Tw
open PySem PySem.Spec PyProof.Rows L2
theorem Ev.m0 {g : Str → Dt} {m : ME} {env : Env} {s : Str} (h : Ev m env (.str s)) : Ev (mM0 g m) env (g s) := fun te => by
  show (m env te).bind _ = _
  rw [h te, zq00]
end Tw

namespace Tw
open PySem PySem.Spec PyProof.Rows L2
/-! ### behind how many ends each gap stands -/
end Tw

namespace Tw
open PySem PySem.Spec PyProof.Rows L2
/-! ### the ends of a row with gaps -/
theorem RI.kind (a : RI) : (∃ s, a.D = .str s) ∨ ∃ i, a.D = .int i := by
  cases a with
  | e p => exact .inl ⟨_, rfl⟩
  | g k => exact .inr ⟨_, rfl⟩
/-! ### when lists of ends and of places are equal -/
/-! ### how many leaves part two results, as the law asks it -/
end Tw

namespace Tw
open PySem PySem.Spec PyProof.Rows L2
/-! ### the gaps that part two results, as the program tells them -/
end Tw

namespace Tw
open PySem PySem.Spec PyProof.Rows L2
/-! ### fresh names, some -/
end Tw

namespace Tw
open PySem PySem.Spec PyProof.Rows L2
/-! ### the wood of a row with leaves in some gaps -/
/-! ### the program's wood_with -/
end Tw

namespace Tw
open PySem PySem.Spec PyProof.Rows L2
/-! ### a least wood that parts two rows of deeds -/
end Tw

namespace Tw
open PySem PySem.Spec PyProof.Rows L2
/-! ### whether two rows of deeds do unlike on a wood, as the law asks it -/
/-! ### what a leaf wood shows -/
end Tw

namespace Tw
open PySem PySem.Spec PyProof.Rows L2
/-! ### the old names of two scripts together -/
/-! ### alike, within, commutes -/
end Tw

namespace Tw
open PySem PySem.Spec PyProof.Rows L2
/-! ### the menu's names: not both n and nn -/
end Tw

namespace Tw
open PySem PySem.Spec PyProof.Rows L2
/-! ### a script that often does alike -/
end Tw

namespace Tw
open PySem PySem.Spec PyProof.Rows L2
/-! ### how few leaves part two scripts, as the law asks it -/
end Tw

namespace Tw
open PySem PySem.Spec PyProof.Rows L2
/-! ### what is told is right -/
end Tw

namespace Tw
open PySem PySem.Spec PyProof.Rows L2
/-! ### calls with lists of one's own among the arguments -/
/-! ### how few leaves part results, told over a list of them -/
/-! ### whether what is told is due -/
end Tw

namespace Tw
open PySem PySem.Spec PyProof.Rows L2
/-! ### within is right -/
end Tw

namespace Tw
open PySem PySem.Spec PyProof.Rows L2
/-! ### any wood over some names is a filling of its skeleton -/
/-! ### the test -/
end Tw

namespace Tw
open PySem PySem.Spec PyProof.Rows L2
/-! ### one node more, put in anywhere -/
def H2 (i j k : Nat) : List RI := (if k = i then [.g 0] else []) ++ (if k = j then [.g 1] else [])
end Tw

namespace Tw
open PySem PySem.Spec PyProof.Rows L2
/-! ### a script that often does alike: few names -/
end Tw

namespace Tw
open PySem PySem.Spec PyProof.Rows L2
/-! ### many rows -/
/-! ### the rows of small woods -/
end Tw

namespace Tw
open PySem PySem.Spec PyProof.Rows L2
end Tw

namespace Tw
open PySem PySem.Spec PyProof.Rows L2
/-! ### alike with its Clash -/
end Tw

namespace Tw
open PySem PySem.Spec PyProof.Rows L2
/-! ### lean, and the law's own -/
end Tw

namespace Tw
open PySem PySem.Spec PyProof.Rows L2
end Tw

namespace Tw
open PySem PySem.Spec PyProof.Rows L2
/-! ### which names a drawn script makes -/
end Tw

namespace Tw
open PySem PySem.Spec PyProof.Rows L2
/-! ### scripts of two deeds on four names -/
end Tw

namespace Tw
open PySem PySem.Spec PyProof.Rows L2
/-! ### plain facts of such scripts -/
/-! a row on which two deeds are done -/
end Tw

namespace Tw
open PySem PySem.Spec PyProof.Rows L2
/-! ### what the law says of the stops of two deeds -/
end Tw

namespace Tw
open PySem PySem.Spec PyProof.Rows L2
/-! ### alike and within of such scripts -/
end Tw

namespace Tw
open PySem PySem.Spec PyProof.Rows L2
/-! ### lists that a slot owns, made longer -/
/-! ### all deeds on some names -/
end Tw

namespace Tw
open PySem PySem.Spec PyProof.Rows L2
/-! ### all scripts of at most two deeds -/
/-! ### shortest -/
end Tw

namespace Tw
open PySem PySem.Spec PyProof.Rows L2
/-! ### calls that draw and are given an own list -/
/-! ### the candidates -/
theorem tup2m_at {m1 m2 : ME} {env e1 e2 : Env} {te : List A} {x y : Dt} (h1 : m1 env te = .ok (.d x) e1) (h2 : m2 e1 (.d x :: te) = .ok (.d y) e2) : mTup (mCons (mD m1) (mCons (mD m2) mNil)) env te = .ok (.d (.tuple [x, y])) e2 := by
  have s2 : 2 ≤ sizeLine := big (by decide)
  have d1 := mD_at h1
  have d2 := mD_at h2
  have e : mCons (mD m1) (mCons (mD m2) mNil) env te = .ok [.d x, .d y] e2 := by
    rw [ev_mCons, d1, zq00, ek_mCons_0, ev_mCons, d2, zq00, ek_mCons_0]
    rfl
  rw [ev_mTup, e, zq00]
  simp! [s2]
end Tw

namespace Tw
open PySem PySem.Spec PyProof.Rows L2
/-! ### the names of deeds -/
/-! ### is_short -/
end Tw

namespace Tw
open PySem PySem.Spec PyProof.Rows L2
/-! ### the table of lean scripts (printed by tab62.py) -/
end Tw

namespace Tw
open PySem PySem.Spec PyProof.Rows L2
/-! ### lean, computed and renamed -/
end Tw

namespace Tw
open PySem PySem.Spec PyProof.Rows L2
/-! ### what is told both ways round -/
/-! ### names of scripts behind one another -/
/-! ### what alike none says of woods -/
/-! ### a tail behind both -/
/-! ### three scripts -/
namespace Wd43
def app : Wd → Wd → Wd
  | .nil, b => b
  | .cons n i r, b => .cons n i (app r b)
theorem toks (b : Wd) : ∀ a : Wd, (app a b).toks = a.toks ++ b.toks
  | .nil => rfl
  | .cons n i r => by
    show (true, n) :: (i.toks ++ (false, n) :: (app r b).toks) = (true, n) :: (i.toks ++ (false, n) :: r.toks) ++ b.toks
    rw [toks b r]
    simp
theorem names (b : Wd) : ∀ a : Wd, (app a b).names = a.names ++ b.names
  | .nil => rfl
  | .cons n i r => by
    show n :: (i.names ++ (app r b).names) = n :: (i.names ++ r.names) ++ b.names
    rw [names b r]
    simp
end Wd43
end Tw

namespace Tw
open PySem PySem.Spec PyProof.Rows L2
/-! ### what is told of two scripts fits together -/
theorem own_De {M : ME} {env e : Env} {te : List A} {L : List Dt} (h : M env te = .ok (.own (.l L)) e) : mD M env te = .ok (.d (.list L)) e := by
  show (M env te).bind _ = _
  rw [h, zq00]
  rfl
end Tw

namespace Tw
open PySem PySem.Spec PyProof.Rows L2
/-! ### tables told -/
/-! ### they can be shown -/
end Tw

namespace Tw
open PySem PySem.Spec PyProof.Rows L2
/-! ### plans for all woods -/
end Tw

namespace Tw
open PySem PySem.Spec PyProof.Rows L2
/-! ### the law's judges of plans -/
/-! ### the same of a tuple of names -/
end Tw

namespace Tw
open PySem PySem.Spec PyProof.Rows L2
/-! ### a wish that is aimed at -/
end Tw

namespace Tw
open PySem PySem.Spec PyProof.Rows L2
/-! ### calls of list methods whose argument draws -/
end Tw

namespace Tw
open PySem PySem.Spec PyProof.Rows L2
/-! ### is_plan -/
/-! ### the deeds lead on all these woods -/
/-! ### for the law -/
end Tw

namespace Tw
open PySem PySem.Spec PyProof.Rows L2
/-! ### a wood is its skeleton with its gaps filled -/
def FT (n : Nat) (G : Nat → List RI) : Dt := .tuple ((List.range n).map fun k => rowD (G k))
/-! ### looking up a row in a dict of pairs -/
/-! ### by_table -/
end Tw

namespace Tw
open PySem PySem.Spec PyProof.Rows L2
/-! ### what a table does to a wood, as the law tells it -/
end Tw

namespace Tw
open PySem PySem.Spec PyProof.Rows L2
/-! ### the table of a script for further names -/
end Tw

namespace Tw
open PySem PySem.Spec PyProof.Rows L2
/-! ### results that can be shown -/
/-! ### the tables of two scripts, one behind the other -/
end Tw

namespace Tw
open PySem PySem.Spec PyProof.Rows L2
/-! ### woods that are drawn from old names and others -/
end Tw

namespace Tw
open PySem PySem.Spec PyProof.Rows L2
/-! ### comprehensions of pairs -/
theorem pl_setN : ∀ {env : Env}, plB env = true → ∀ i : Nat, plB (env.set i none) = true
  | [], h, _ => h
  | none :: e, h, 0 => h
  | some (.d _) :: e, h, 0 => h
  | some (.own _) :: e, h, 0 => h
  | some (.sc _) :: e, h, 0 => h
  | some (.rf _ _) :: e, h, _ => nomatch h
  | some (.io _) :: e, h, _ => nomatch h
  | none :: e, h, i + 1 => pl_setN (env := e) h i
  | some (.d x) :: e, h, i + 1 => pl_setN (env := e) h i
  | some (.own x) :: e, h, i + 1 => pl_setN (env := e) h i
  | some (.sc x) :: e, h, i + 1 => pl_setN (env := e) h i
theorem wipe_pl {env : Env} (h : plB env = true) {te : List A} : ∀ {vs : List Nat}, (∀ v ∈ vs, te.any (isRf v) = false) → wipeOk env te vs = true ∧ plB (wipeE env vs) = true
  | [], _ => ⟨rfl, h⟩
  | v :: vs, hv => by
    obtain ⟨h1, h2⟩ := wipe_pl h (vs := vs) fun u hu => hv u (List.mem_cons_of_mem _ hu)
    refine ⟨?_, pl_setN h2 v⟩
    rw [wipeOk_cons, h1, plB_io h2]
    unfold anyC
    rw [plB_rf h2, hv v List.mem_cons_self]
    rfl
/-! ### values that are shown -/
/-! ### the results of the tables -/
/-! ### gaps without names -/
end Tw

namespace Tw
open PySem PySem.Spec PyProof.Rows L2
/-! ### turns of names and themselves ahead -/
end Tw

namespace Tw
open PySem PySem.Spec PyProof.Rows L2
/-! ### what a script loses: the plain part -/
end Tw

namespace Tw
open PySem PySem.Spec PyProof.Rows L2
/-! ### the helpers of loses -/
end Tw

namespace Tw
open PySem PySem.Spec PyProof.Rows L2
/-! ### pairs of woods that a script makes one -/
/-! ### loses -/
theorem putTD_len (kvs : List (List Key × Dt)) (k : List Key) (v : Dt) : (putTD kvs k v).length ≤ kvs.length + 1 := by
  unfold putTD
  split
  · rw [List.length_map]; omega
  · rw [List.length_append]; exact Nat.le_refl _
end Tw

namespace Tw
open PySem PySem.Spec PyProof.Rows L2
end Tw

namespace Tw
open PySem PySem.Spec PyProof.Rows L2
/-! ### the law's question about what is told of a loss -/
end Tw

namespace Tw
open PySem PySem.Spec PyProof.Rows L2
/-! ### losses that are known -/
end Tw

namespace Tw
open PySem PySem.Spec PyProof.Rows L2
/-! ### functions that are handed the deck -/
/-! ### another wood of the same names -/
end Tw

namespace Tw
open PySem PySem.Spec PyProof.Rows L2
/-! ### a script that loses nothing -/
end Tw

namespace Tw
open PySem PySem.Spec PyProof.Rows L2
/-! ### a script that loses: with further deeds it loses too -/
end Tw

namespace Tw
open PySem PySem.Spec PyProof.Rows L2
/-! ### two old names exchanged ahead -/
end Tw

namespace Tw
open PySem PySem.Spec PyProof.Rows L2
/-! ### the repr of a wood tells the wood -/
open PySem.Builtin.Str
end Tw

namespace Tw
open PySem PySem.Spec PyProof.Rows L2
/-! ### the least number of nodes of two woods that are made one -/
/-! ### the state of the law's search -/
def rsD (ds : List Dd) (t : List Tok) : (Nat × Str) ⊕ List RI := doneAll 0 (t.map .e) ds
def Same (ds : List Dd) (t t' : List Tok) : Prop := ∃ r, rsD ds t = .inr r ∧ rsD ds t' = .inr r
end Tw

namespace Tw
open PySem PySem.Spec PyProof.Rows L2
/-! ### the least is what loses tells -/
end Tw

namespace Tw
open PySem PySem.Spec PyProof.Rows L2
/-! ### the law's search for the least loss -/
def nD (F : List Nat) : List Dt := F.map fun (n : Nat) => PyData.int (n : Int)
end Tw

namespace Tw
open PySem PySem.Spec PyProof.Rows L2
/-! ### wishes and scripts on a wood and on a part of it -/
/-- further names as leaves behind all -/
def leafW : List Str → Wd
  | [] => .nil
  | z :: zs => .cons z .nil (leafW zs)
def addL : Wd → List Str → Wd
  | .nil, zs => leafW zs
  | .cons n i r, zs => .cons n i (addL r zs)
end Tw

namespace Tw
open PySem PySem.Spec PyProof.Rows L2
/-! ### the twin's spare name is made before it is old -/
end Tw

namespace Tw
open PySem PySem.Spec PyProof.Rows L2
/-! ### scripts that do the same -/
/-! ### more about functions that are handed the deck -/
end Tw

namespace Tw
open PySem PySem.Spec PyProof.Rows L2
/-! ### plans -/
end Tw

namespace Tw
open PySem PySem.Spec PyProof.Rows L2
/-! ### what lean leaves -/
/-! ### lean leaves a script that does the same -/
end Tw

namespace Tw
open PySem PySem.Spec PyProof.Rows L2
/-! ### shortest is as short as lean where lean leaves two or fewer -/
end Tw

namespace Tw
open PySem PySem.Spec PyProof.Rows L2
/-! ### the least number over a list -/
/-! ### how few leaves part, reckoned -/
/-! ### it is so with other names -/
/-! ### pairs that are known (printed by tab44.py) -/
end Tw

namespace Tw
open PySem PySem.Spec PyProof.Rows L2
/-! ### what the law asks of what is told of a known pair -/
end Tw

namespace Tw
open PySem PySem.Spec PyProof.Rows L2
/-! ### six names of one letter -/
end Tw

namespace Tw
open PySem PySem.Spec PyProof.Rows L2
end Tw

namespace Tw
open PySem PySem.Spec PyProof.Rows L2
end Tw

namespace Tw
open PySem PySem.Spec PyProof.Rows L2
/-! ### the other model of children: _law_cut_off, _law_changed, _law_word, _law_ran -/
end Tw

namespace Tw
open PySem PySem.Spec PyProof.Rows L2
/-! ### what a call by a lambda does -/
theorem tst_eqI {M : ME} {env e : Env} {te : List A} {r b : Int} (h : M env te = .ok (.d (.int r)) e) : mTst (mOp (fl2 eqD) M (mC (.int b))) env te = .ok (decide (r = b)) e :=
  tst_at (op_chg2 h (Ev.c (x := .int b)) (Ev.eq (Ev.c (x := .int r)) (Ev.c (x := .int b)) (eqD_int _ _)))
end Tw

namespace Tw
open PySem PySem.Spec PyProof.Rows L2
/-! ### names that are none, names that are not there -/
end Tw

namespace Tw
open PySem PySem.Spec PyProof.Rows L2
end Tw

namespace Tw
open PySem PySem.Spec PyProof.Rows L2
end Tw

namespace Tw
open PySem PySem.Spec PyProof.Rows L2
/-! ### things that are not the name of a node -/
end Tw

namespace Tw
open PySem PySem.Spec PyProof.Rows L2
/-! ### what can be shown -/
end Tw

namespace Tw
open PySem PySem.Spec PyProof.Rows L2
/-! ### the row's deep part: three chains put into one another -/
end Tw

namespace Tw
open PySem PySem.Spec PyProof.Rows L2
end Tw

namespace Tw
open PySem PySem.Spec PyProof.Rows L2
end Tw

namespace Tw
open PySem PySem.Spec PyProof.Rows L2
end Tw

namespace Tw
open PySem PySem.Spec PyProof.Rows L2
/-! ### the judge of woods, over any data -/
mutual
def rsW : Dt → Nat → List Str → Nat → (Option Str × List Str × Nat)
  | .tuple ts, deep, seen, dst => rsT ts deep seen dst
  | _, _, seen, dst => (some "wood", seen, dst)
def rsT : List Dt → Nat → List Str → Nat → (Option Str × List Str × Nat)
  | [], _, seen, dst => (none, seen, dst)
  | t :: ts, deep, seen, dst => match rsO t deep seen dst with
    | (none, s, d) => rsT ts deep s d
    | (some r, s, d) => (some r, s, d)
def rsO : Dt → Nat → List Str → Nat → (Option Str × List Str × Nat)
  | .tuple [a, b], deep, seen, dst => (match a with
    | .str z => if IsNm z then (if z ∈ seen then (some "again", seen, dst) else rsW b (deep + 1) (seen ++ [z]) (max dst (deep + 1))) else (some "name", seen, dst)
    | _ => (some "name", seen, dst))
  | _, _, seen, dst => (some "tree", seen, dst)
end
mutual
def sxW : Dt → Nat
  | .tuple ts => 1 + sxT ts
  | _ => 1
def sxT : List Dt → Nat
  | [] => 0
  | t :: ts => sxW t + sxT ts
end
def runP : List (Bool × Nat × Dt) → List Str → Nat → (Option Str × List Str × Nat)
  | [], s, d => (none, s, d)
  | (k, n, x) :: P, s, d => match (if k = true then rsW x n s d else rsO x n s d) with
    | (none, s', d') => runP P s' d'
    | (some r, s', d') => (some r, s', d')
theorem runP_trees (n : Nat) (P : List (Bool × Nat × Dt)) : ∀ (ts : List Dt) (s : List Str) (d : Nat), runP (ts.map (fun t => (false, n, t)) ++ P) s d = match rsT ts n s d with
    | (none, s', d') => runP P s' d'
    | (some r, s', d') => (some r, s', d')
  | [], s, d => rfl
  | t :: ts, s, d => by
    show (match rsO t n s d with | (none, s', d') => runP (ts.map (fun t => (false, n, t)) ++ P) s' d' | (some r, s', d') => (some r, s', d')) = match (match rsO t n s d with | (none, s, d) => rsT ts n s d | (some r, s, d) => (some r, s, d)) with | (none, s', d') => runP P s' d' | (some r, s', d') => (some r, s', d')
    rcases rsO t n s d with ⟨_ | r, s', d'⟩
    · exact runP_trees n P ts s' d'
    · rfl
def pdD (p : Bool × Nat × Dt) : Dt := if p.1 = true then .tuple [.int (p.2.1 : Nat), .str "wood", p.2.2] else .tuple [.int ((p.2.1 + 1 : Nat) : Int), .str "tree", p.2.2]
def pdZ (p : Bool × Nat × Dt) : Nat := if p.1 = true then 2 * sxW p.2.2 + 1 else 2 * sxW p.2.2
def pdS (P : List (Bool × Nat × Dt)) : Nat := (P.map pdZ).sum
theorem sxW_pos (x : Dt) : 1 ≤ sxW x := by cases x <;> first | exact Nat.le_refl _ | exact Nat.le_add_right _ _
theorem sxT_len : ∀ ts : List Dt, ts.length ≤ sxT ts
  | [] => Nat.le_refl _
  | t :: ts => by
    have h1 := sxT_len ts
    have h2 := sxW_pos t
    show ts.length + 1 ≤ sxW t + sxT ts
    omega
theorem pdZ_pos (p : Bool × Nat × Dt) : 1 ≤ pdZ p := by
  have := sxW_pos p.2.2
  unfold pdZ
  split <;> omega
theorem pdS_len : ∀ P : List (Bool × Nat × Dt), P.length ≤ pdS P
  | [] => Nat.le_refl _
  | p :: P => by
    have h1 := pdS_len P
    have h2 := pdZ_pos p
    show P.length + 1 ≤ pdZ p + pdS P
    omega
theorem pdS_app (P Q : List (Bool × Nat × Dt)) : pdS (P ++ Q) = pdS P + pdS Q := by
  unfold pdS
  rw [List.map_append, List.sum_append]
theorem pdS_trees (n : Nat) : ∀ ts : List Dt, pdS (ts.map fun t => (false, n, t)) = 2 * sxT ts
  | [] => rfl
  | t :: ts => by
    show 2 * sxW t + pdS (ts.map fun t => (false, n, t)) = 2 * (sxW t + sxT ts)
    rw [pdS_trees n ts]
    omega
def wkD (r : Option Str × List Str × Nat) : Dt := match r.1 with
  | some z => .str z
  | none => if 120 < r.2.1.length then .str "many" else if 40 < r.2.2 then .str "deep" else .none

mutual
def cnW : Dt → Nat
  | .tuple ts => cnT ts
  | _ => 0
def cnT : List Dt → Nat
  | [] => 0
  | t :: ts => cnO t + cnT ts
def cnO : Dt → Nat
  | .tuple [_, b] => 1 + cnW b
  | _ => 0
end
def pdC (P : List (Bool × Nat × Dt)) : Nat := (P.map fun p => if p.1 = true then cnW p.2.2 else cnO p.2.2).sum
theorem pdC_trees (n : Nat) : ∀ ts : List Dt, pdC (ts.map fun t => (false, n, t)) = cnT ts
  | [] => rfl
  | t :: ts => by
    show cnO t + pdC (ts.map fun t => (false, n, t)) = cnO t + cnT ts
    rw [pdC_trees n ts]
theorem pdC_app (P Q : List (Bool × Nat × Dt)) : pdC (P ++ Q) = pdC P + pdC Q := by
  unfold pdC
  rw [List.map_append, List.sum_append]
def wkE (x : Dt) (P : List (Bool × Nat × Dt)) (seen : List Str) (dst : Nat) (y4 y5 y6 : Option Dt) : Env := [some (.d x), some (.own (.l (P.map pdD).reverse)), some (.own (.x (.st seen))), some (.d (.int (dst : Nat))), od y4, od y5, od y6, none]
theorem wood_error_fn {x : Dt} (hs : sxW x ≤ 20000) (hc : cnW x ≤ 900) : f_wood_error [.d x] = .ok (.d (wkD (rsW x 0 [] 0))) [.d x] := by
  refine ok_of ?_
  unfold f_wood_error
  refine run_ok ?_
  unfold m_wood_error
  have qn := fun y : Dt => is_name_ok y
  generalize f_is_name = F at qn ⊢
  refine FP.st (e := [some (.d x), some (.own (.l [.tuple [.int 0, .str "wood", x]])), none, none, none, none, none, none]) (asg_at (lst_ev (Evs.cons (Ev.tup (Evs.cons Ev.c (Evs.cons Ev.c (Evs.cons (Ev.d (Ev.v (i := 0) rfl)) Evs.nil))) (Nat.le_of_ble_eq_true rfl)) Evs.nil) (Nat.le_of_ble_eq_true rfl)) rfl) ?_
  refine FP.st (e := [some (.d x), some (.own (.l [.tuple [.int 0, .str "wood", x]])), some (.own (.x (.st []))), none, none, none, none, none]) rfl ?_
  refine FP.st (e := wkE x [(true, 0, x)] [] 0 none none none) (asg_at (x := .d (.int 0)) (Ev.c (x := .int 0) _) rfl) ?_
  refine FP.sq ?_
  refine fp_whileN (fun n e => ∃ (P : List (Bool × Nat × Dt)) (seen : List Str) (dst : Nat) (y4 y5 y6 : Option Dt), n = pdS P ∧ pdS P ≤ 50000 ∧ seen.length + pdC P ≤ 900 ∧ runP P seen dst = rsW x 0 [] 0 ∧ e = wkE x P seen dst y4 y5 y6) ?_ (pdS [(true, 0, x)]) _ ⟨[(true, 0, x)], [], 0, none, none, none, rfl, ?_, ?_, ?_, rfl⟩
  rotate_left
  · show 2 * sxW x + 1 + 0 ≤ 50000
    omega
  · show 0 + (cnW x + 0) ≤ 900
    omega
  · show (match rsW x 0 [] 0 with | (none, s', d') => (none, s', d') | (some r, s', d') => (some r, s', d')) = _
    rcases rsW x 0 [] 0 with ⟨_ | r, s', d'⟩ <;> rfl
  rintro n e ⟨P, seen, dst, y4, y5, y6, h1, h2, h3, h4, rfl⟩
  have tt := (ne_nil_ref (env := wkE x P seen dst y4 y5 y6) (i := 1) (ys := (P.map pdD).reverse) rfl).tst []
  cases P with
  | nil =>
    refine ⟨false, _, tt, (fun h => nomatch h), fun _ => ?_⟩
    have h4 : (none, seen, dst) = rsW x 0 [] 0 := h4
    rw [← h4]
    show FP _ _ (mSeq _ _ _ _)
    have ls : seen.length ≤ 900 := by
      have h3 : seen.length + 0 ≤ 900 := h3
      omega
    have t1 : mTst (mOp (fl2 gtD) (mCB (one lenSA) (mCons (mVar 2) mNil)) (mC (.int 120))) (wkE x [] seen dst y4 y5 y6) [] = .ok (decide (120 < seen.length)) (wkE x [] seen dst y4 y5 y6) := by
      have e1 : ∀ te, mCB (one lenSA) (mCons (mVar 2) mNil) (wkE x [] seen dst y4 y5 y6) te = .ok (.d (.int (seen.length : Nat))) (wkE x [] seen dst y4 y5 y6) := fun te => if_pos (show seen.length ≤ 16777216 by omega)
      exact (Ev.eq (g := gtD) e1 (Ev.c (x := .int ((120 : Nat) : Int))) (gtD_nat _ _)).tst []
    refine FP.sq ?_
    by_cases c : 120 < seen.length
    · rw [decide_eq_true c] at t1
      refine FP.ifT t1 (FP.re (Ev.c _) ⟨_, rfl, ?_, rfl⟩)
      show _ = A.d (if 120 < seen.length then .str "many" else _)
      rw [if_pos c]
    · rw [decide_eq_false c] at t1
      refine FP.ifF t1 (.nx ?_)
      have t2 : ∀ te, mTst (mOp (fl2 gtD) (mVar 3) (mC (.int 40))) (wkE x [] seen dst y4 y5 y6) te = .ok (decide (40 < dst)) (wkE x [] seen dst y4 y5 y6) := fun te =>
        (Ev.eq (g := gtD) (Ev.v (i := 3) (x := .int (dst : Nat)) rfl) (Ev.c (x := .int ((40 : Nat) : Int))) (gtD_nat _ _)).tst te
      refine FP.re (Ev.ifE (x := wkD (none, seen, dst)) t2 (fun h => ?_) (fun h => ?_) _) ⟨_, rfl, rfl, rfl⟩
      · have h := of_decide_eq_true h
        show Ev _ _ (if 120 < seen.length then .str "many" else if 40 < dst then .str "deep" else .none)
        rw [if_neg c, if_pos h]
        exact Ev.c
      · have h := of_decide_eq_false h
        show Ev _ _ (if 120 < seen.length then .str "many" else if 40 < dst then .str "deep" else .none)
        rw [if_neg c, if_neg h]
        exact Ev.c
  | cons p P =>
    have tb : (!((p :: P).map pdD).reverse.isEmpty) = true := by simp
    rw [tb] at tt
    refine ⟨true, _, tt, fun _ => ?_, (fun h => nomatch h)⟩
    have er : ((p :: P).map pdD).reverse = (P.map pdD).reverse ++ [pdD p] := by simp
    have lP := pdS_len P
    have hsum : pdS (p :: P) = pdZ p + pdS P := rfl
    have pop : mMeth popA (mVar 1) mNil (wkE x (p :: P) seen dst y4 y5 y6) [] = .ok (.d (pdD p)) (wkE x P seen dst y4 y5 y6) := by
      refine meth_own (i := 1) rfl rfl ?_
      unfold popA
      show mutL _ [] (.rf 1 none) _ = _
      refine mut_own (i := 1) (xs := (P.map pdD).reverse ++ [pdD p]) (ys := (P.map pdD).reverse) (by rw [← er]; rfl) (by cases y4 <;> cases y5 <;> cases y6 <;> rfl) ?_
      show (match ((P.map pdD).reverse ++ [pdD p])[((P.map pdD).reverse ++ [pdD p]).length - 1]? with | some y => some (y, ((P.map pdD).reverse ++ [pdD p]).dropLast) | none => none) = _
      rw [List.length_append, List.length_singleton, Nat.add_sub_cancel, List.getElem?_append_right (Nat.le_refl _), Nat.sub_self, List.dropLast_concat]
      rfl
    obtain ⟨k, n, it⟩ := p
    have lS := pdS_len P
    cases k with
    | true =>
      have hz : pdZ (true, n, it) = 2 * sxW it + 1 := rfl
      have hcc : pdC ((true, n, it) :: P) = cnW it + pdC P := rfl
      have h4 : (match rsW it n seen dst with | (none, s', d') => runP P s' d' | (some r, s', d') => (some r, s', d')) = rsW x 0 [] 0 := h4
      refine FP.st (e := wkE x P seen dst (some (.int (n : Nat))) (some (.str "wood")) (some it)) (asg_atG pop (by cases y4 <;> cases y5 <;> cases y6 <;> rfl)) ?_
      have tk := (Ev.eq (g := eqD) (Ev.v (env := wkE x P seen dst (some (.int (n : Nat))) (some (.str "wood")) (some it)) (i := 5) (x := .str "wood") rfl) (Ev.c (x := .str "wood")) (b := true) (by rw [eqD_str]; simp)).tst []
      refine FP.ifT tk ?_
      have i6 := (Ev.isiT (env := wkE x P seen dst (some (.int (n : Nat))) (some (.str "wood")) (some it)) (j := 6) (x := it) rfl).tst []
      refine FP.sq ?_
      cases hT : isTupD it with
      | false =>
        rw [hT] at i6
        refine FP.ifT (not_ev i6) (FP.re (Ev.c _) ⟨_, rfl, ?_, rfl⟩)
        have e : rsW it n seen dst = (some ("wood" : Str), seen, dst) := by
          cases it <;> first | rfl | cases hT
        rw [e] at h4
        rw [← h4]
        rfl
      | true =>
        rw [hT] at i6
        refine FP.ifF (not_ev i6) (.nx ?_)
        obtain ⟨ts, rfl⟩ := isTup_nm hT
        have hsz : sxW (.tuple ts) = 1 + sxT ts := rfl
        have lts := sxT_len ts
        have hm : mSeqI (mD (mU revA (mVar 6))) (wkE x P seen dst (some (.int (n : Nat))) (some (.str "wood")) (some (.tuple ts))) [.rf 1 none] = .ok ([.d (.tuple ts.reverse)], fun _ => some ts.reverse) (wkE x P seen dst (some (.int (n : Nat))) (some (.str "wood")) (some (.tuple ts))) := seqI_ok rfl (.inr rfl)
        have lc := lc_gen (mi := mSeqI (mD (mU revA (mVar 6)))) (tt := mYes) (el := mTup (mCons (mD (mOp addA (mVar 4) (mC (.int 1)))) (mCons (mC (.str "tree")) (mCons (mD (mVar 7)) mNil)))) (j := 7) (env := wkE x P seen dst (some (.int (n : Nat))) (some (.str "wood")) (some (.tuple ts))) (te := [.rf 1 none]) (xs := ts.reverse) (fun _ => true) (fun t => .tuple [.int ((n + 1 : Nat) : Int), .str "tree", t]) hm rfl rfl (by rw [List.length_reverse]; omega) (fun _ _ _ => rfl) (fun y _ _ acc => by
          have a1 := Ev.addI (Ev.v (env := (wkE x P seen dst (some (.int (n : Nat))) (some (.str "wood")) (some (.tuple ts))).set 7 (some (.d y))) (i := 4) (x := .int (n : Nat)) rfl) (Ev.c (x := .int 1))
          rw [show ((n : Nat) : Int) + 1 = ((n + 1 : Nat) : Int) by omega] at a1
          exact Ev.tup (Evs.cons (Ev.d a1) (Evs.cons Ev.c (Evs.cons (Ev.d (Ev.v (i := 7) rfl)) Evs.nil))) (Nat.le_of_ble_eq_true rfl) _)
        rw [List.filter_eq_self.mpr (fun _ _ => rfl)] at lc
        have eP : (((ts.map fun t => (false, n, t)) ++ P).map pdD).reverse = (P.map pdD).reverse ++ ts.reverse.map fun t => PyData.tuple [.int ((n + 1 : Nat) : Int), .str "tree", t] := by
          rw [List.map_append, List.reverse_append, List.map_map, List.map_reverse (l := ts)]
          rfl
        have ex := ext_own (i := 1) (te := []) (env := wkE x P seen dst (some (.int (n : Nat))) (some (.str "wood")) (some (.tuple ts))) (xs := (P.map pdD).reverse) (zs := ts.reverse.map fun t => PyData.tuple [.int ((n + 1 : Nat) : Int), .str "tree", t]) rfl rfl (by rw [List.length_reverse, List.length_map, List.length_map, List.length_reverse]; omega)
        have mx : mDrop (mMeth extA (mVar 1) (mCons (mD (mLc .d (mSeqI (mD (mU revA (mVar 6)))) (gN 7) mYes (mTup (mCons (mD (mOp addA (mVar 4) (mC (.int 1)))) (mCons (mC (.str "tree")) (mCons (mD (mVar 7)) mNil)))) [7])) mNil)) (wkE x P seen dst (some (.int (n : Nat))) (some (.str "wood")) (some (.tuple ts))) [] = .nx (wkE x ((ts.map fun t => (false, n, t)) ++ P) seen dst (some (.int (n : Nat))) (some (.str "wood")) (some (.tuple ts))) := by
          refine drop_at (a := .d .none) ?_
          refine meth_own (i := 1) (as := [.d (.list (ts.reverse.map fun t => PyData.tuple [.int ((n + 1 : Nat) : Int), .str "tree", t]))]) rfl ?_ (ex.trans (by unfold wkE; rw [eP]; rfl))
          have dl := own_De lc
          generalize mD (mLc _ _ _ _ _ _) = MD at dl ⊢
          rw [ev_mCons, dl, zq00]
          rfl
        refine FP.mono_eq mx ⟨_, ?_, (ts.map fun t => (false, n, t)) ++ P, seen, dst, _, _, _, rfl, ?_, ?_, ?_, rfl⟩
        · rw [pdS_app, pdS_trees]; omega
        · rw [pdS_app, pdS_trees]; omega
        · rw [pdC_app, pdC_trees]
          have : cnW (.tuple ts) = cnT ts := rfl
          omega
        · rw [runP_trees]
          exact h4
    | false =>
      have hz : pdZ (false, n, it) = 2 * sxW it := rfl
      have hcc : pdC ((false, n, it) :: P) = cnO it + pdC P := rfl
      have h4 : (match rsO it n seen dst with | (none, s', d') => runP P s' d' | (some r, s', d') => (some r, s', d')) = rsW x 0 [] 0 := h4
      refine FP.st (e := wkE x P seen dst (some (.int ((n + 1 : Nat) : Int))) (some (.str "tree")) (some it)) (asg_atG pop (by cases y4 <;> cases y5 <;> cases y6 <;> rfl)) ?_
      have tk := (Ev.eq (g := eqD) (Ev.v (env := wkE x P seen dst (some (.int ((n + 1 : Nat) : Int))) (some (.str "tree")) (some it)) (i := 5) (x := .str "tree") rfl) (Ev.c (x := .str "wood")) (b := false) (by rw [eqD_str]; congr 2)).tst []
      refine FP.ifF tk ?_
      generalize hE : wkE x P seen dst (some (.int ((n + 1 : Nat) : Int))) (some (.str "tree")) (some it) = E
      have v6 : E[6]? = some (some (.d it)) := by rw [← hE]; rfl
      have v2 : E[2]? = some (some (.own (.x (.st seen)))) := by rw [← hE]; rfl
      have bk : ∀ {r : Option Str × List Str × Nat}, r = rsW x 0 [] 0 → backs [.d x] E = [.d x] := fun _ => by rw [← hE]; rfl
      have i6 := (Ev.isiT (env := E) (j := 6) (x := it) v6).tst []
      have out : ∀ {z : Str}, rsO it n seen dst = (some z, seen, dst) → wkD (rsW x 0 [] 0) = .str z := fun {z} h => by
        rw [h] at h4
        rw [← h4]
        rfl
      refine FP.sq ?_
      cases hT : isTupD it with
      | false =>
        rw [hT] at i6
        refine FP.ifT (or_ev (a := true) (b := true) (not_ev i6) (fun h => nomatch h)) (FP.re (Ev.c _) ⟨_, rfl, ?_, by rw [← hE]; rfl⟩)
        rw [out (z := "tree") (by cases it <;> first | rfl | cases hT)]
      | true =>
        rw [hT] at i6
        obtain ⟨ts, rfl⟩ := isTup_nm hT
        have tl := (Ev.eq (g := neD) (Ev.len (Ev.v v6)) (Ev.c (x := .int ((2 : Nat) : Int))) (neD_int _ _)).tst []
        have t6 := or_ev (a := false) (not_ev i6) (fun _ => tl)
        rw [Bool.false_or] at t6
        by_cases h2l : ts.length = 2
        case neg =>
          rw [decide_eq_false (by omega), Bool.not_false] at t6
          refine FP.ifT t6 (FP.re (Ev.c _) ⟨_, rfl, ?_, by rw [← hE]; rfl⟩)
          rw [out (z := "tree") (by
            match ts, h2l with
            | [], _ => rfl
            | [_], _ => rfl
            | [_, _], h => exact absurd rfl h
            | _ :: _ :: _ :: _, _ => rfl)]
        rw [decide_eq_true (by omega), Bool.not_true] at t6
        refine FP.ifF t6 (.nx ?_)
        obtain ⟨a, b, rfl⟩ : ∃ a b, ts = [a, b] := by
          match ts, h2l with
          | [a, b], _ => exact ⟨a, b, rfl⟩
        have xa : Ev (mOp ixA (mVar 6) (mC (.int 0))) E a := Ev.ix (Ev.v v6) Ev.c (atI_0 _ _)
        have xb : Ev (mOp ixA (mVar 6) (mC (.int 1))) E b := Ev.ix (Ev.v v6) Ev.c rfl
        have tn := not_ev ((Ev.call (F := F) (io := [false]) (Evs.cons xa Evs.nil) rfl (qn a)).tst [])
        refine FP.sq ?_
        cases hN : isNmD a with
        | false =>
          rw [hN] at tn
          refine FP.ifT tn (FP.re (Ev.c _) ⟨_, rfl, ?_, by rw [← hE]; rfl⟩)
          rw [out (z := "name") (by
            cases a with
            | str z =>
              show (if IsNm z then _ else (some ("name" : Str), seen, dst)) = _
              rw [if_neg (of_decide_eq_false hN)]
            | _ => rfl)]
        | true =>
          rw [hN] at tn
          refine FP.ifF tn (.nx ?_)
          obtain ⟨z, rfl⟩ : ∃ z, a = .str z := by
            cases a with
            | str z => exact ⟨z, rfl⟩
            | _ => cases hN
          have zn : IsNm z := of_decide_eq_true hN
          have ro : rsO (.tuple [.str z, b]) n seen dst = if z ∈ seen then (some ("again" : Str), seen, dst) else rsW b (n + 1) (seen ++ [z]) (max dst (n + 1)) := by
            show (if IsNm z then _ else _) = _
            rw [if_pos zn]
          have ts := (Ev.setIn (neg := false) xa v2).tst []
          rw [if_neg Bool.false_ne_true] at ts
          refine FP.sq ?_
          by_cases hz2 : z ∈ seen
          · rw [decide_eq_true hz2] at ts
            refine FP.ifT ts (FP.re (Ev.c _) ⟨_, rfl, ?_, by rw [← hE]; rfl⟩)
            rw [out (z := "again") (by rw [ro, if_pos hz2])]
          rw [decide_eq_false hz2] at ts
          refine FP.ifF ts (.nx ?_)
          rw [ro, if_neg hz2] at h4
          have hco : cnO (.tuple [.str z, b]) = 1 + cnW b := rfl
          have hso : sxW (.tuple [.str z, b]) = 1 + (1 + (sxW b + 0)) := rfl
          have ad := sadd_st (te := []) xa v2 (by omega)
          have ea : addS seen z = seen ++ [z] := by
            unfold addS
            rw [if_neg hz2]
          rw [ea] at ad
          subst hE
          refine FP.st (e := wkE x P (seen ++ [z]) dst (some (.int ((n + 1 : Nat) : Int))) (some (.str "tree")) (some (.tuple [.str z, b]))) ad ?_
          have tg : ∀ te, mTst (mOp (fl2 gtD) (mVar 4) (mVar 3)) (wkE x P (seen ++ [z]) dst (some (.int ((n + 1 : Nat) : Int))) (some (.str "tree")) (some (.tuple [.str z, b]))) te = .ok (decide (dst < n + 1)) (wkE x P (seen ++ [z]) dst (some (.int ((n + 1 : Nat) : Int))) (some (.str "tree")) (some (.tuple [.str z, b]))) := fun te =>
            (Ev.eq (g := gtD) (Ev.v (i := 4) (x := .int ((n + 1 : Nat) : Int)) rfl) (Ev.v (i := 3) (x := .int (dst : Nat)) rfl) (gtD_nat _ _)).tst te
          refine FP.st (e := wkE x P (seen ++ [z]) (max dst (n + 1)) (some (.int ((n + 1 : Nat) : Int))) (some (.str "tree")) (some (.tuple [.str z, b]))) (asg_at (x := .d (.int ((max dst (n + 1) : Nat) : Int))) (Ev.ifE tg (fun h => ?_) (fun h => ?_) _) rfl) ?_
          · have h := of_decide_eq_true h
            rw [Nat.max_eq_right (by omega)]
            exact Ev.v rfl
          · have h := of_decide_eq_false h
            rw [Nat.max_eq_left (by omega)]
            exact Ev.v rfl
          have s1 : ((P.map pdD).reverse).length < sizeLine := big' (by rw [List.length_reverse, List.length_map]; omega)
          have xb2 : Ev (mOp ixA (mVar 6) (mC (.int 1))) (wkE x P (seen ++ [z]) (max dst (n + 1)) (some (.int ((n + 1 : Nat) : Int))) (some (.str "tree")) (some (.tuple [.str z, b]))) b := Ev.ix (Ev.v rfl) Ev.c rfl
          have ap : mDrop (mMeth appA (mVar 1) (mCons (mTup (mCons (mD (mVar 4)) (mCons (mC (.str "wood")) (mCons (mD (mOp ixA (mVar 6) (mC (.int 1)))) mNil)))) mNil)) (wkE x P (seen ++ [z]) (max dst (n + 1)) (some (.int ((n + 1 : Nat) : Int))) (some (.str "tree")) (some (.tuple [.str z, b]))) [] = .nx (wkE x ((true, n + 1, b) :: P) (seen ++ [z]) (max dst (n + 1)) (some (.int ((n + 1 : Nat) : Int))) (some (.str "tree")) (some (.tuple [.str z, b]))) := by
            refine drop_at (a := .d .none) (meth_own (i := 1) (as := [.d (pdD (true, n + 1, b))]) rfl ((Evs.cons (Ev.tup (Evs.cons (Ev.d (Ev.v (i := 4) rfl)) (Evs.cons Ev.c (Evs.cons (Ev.d xb2) Evs.nil))) (Nat.le_of_ble_eq_true rfl)) Evs.nil) _) ?_)
            unfold appA
            show mutL _ _ (.rf 1 none) _ = _
            have eP : (((true, n + 1, b) :: P).map pdD).reverse = (P.map pdD).reverse ++ [pdD (true, n + 1, b)] := by simp
            refine (mut_own (i := 1) (xs := (P.map pdD).reverse) (ys := (P.map pdD).reverse ++ [pdD (true, n + 1, b)]) rfl rfl (if_pos s1)).trans ?_
            unfold wkE
            rw [eP]
            rfl
          have hz3 : pdZ (true, n + 1, b) = 2 * sxW b + 1 := rfl
          refine FP.mono_eq ap ⟨_, ?_, (true, n + 1, b) :: P, seen ++ [z], _, _, _, _, rfl, ?_, ?_, h4, rfl⟩
          · show pdZ (true, n + 1, b) + pdS P < _
            omega
          · show pdZ (true, n + 1, b) + pdS P ≤ _
            omega
          · rw [List.length_append, List.length_singleton]
            show seen.length + 1 + (cnW b + pdC P) ≤ 900
            omega
end Tw

namespace Tw
open PySem PySem.Spec PyProof.Rows L2
def rnE (x : Dt) (seen : List Dt) (deep dst : Int) (y4 y5 : Option Dt) : Env := [some (.d x), some (.io (.l seen)), some (.d (.int deep)), some (.io (.l [.int dst])), od y4, od y5]
theorem dpT_le {t : Dt} : ∀ {ts : List Dt}, t ∈ ts → t.depth ≤ PyData.depthAll ts
  | x :: ts, h => by
    show _ ≤ max x.depth (PyData.depthAll ts)
    rcases List.mem_cons.mp h with rfl | h
    · omega
    · have := dpT_le h
      omega
mutual
theorem rsW_len : ∀ (x : Dt) (deep : Nat) (seen : List Str) (dst : Nat), (rsW x deep seen dst).2.1.length ≤ seen.length + cnW x
  | .tuple ts, deep, seen, dst => rsT_len ts deep seen dst
  | .none, _, _, _ => Nat.le_refl _
  | .bool _, _, _, _ => Nat.le_refl _
  | .int _, _, _, _ => Nat.le_refl _
  | .str _, _, _, _ => Nat.le_refl _
  | .list _, _, _, _ => Nat.le_refl _
  | .dict _, _, _, _ => Nat.le_refl _
theorem rsT_len : ∀ (ts : List Dt) (deep : Nat) (seen : List Str) (dst : Nat), (rsT ts deep seen dst).2.1.length ≤ seen.length + cnT ts
  | [], _, _, _ => Nat.le_refl _
  | t :: ts, deep, seen, dst => by
    have h1 := rsO_len t deep seen dst
    show (match rsO t deep seen dst with | (none, s, d) => rsT ts deep s d | (some r, s, d) => (some r, s, d)).2.1.length ≤ seen.length + (cnO t + cnT ts)
    rcases hR : rsO t deep seen dst with ⟨_ | r, s, d⟩
    · rw [hR] at h1
      have h2 := rsT_len ts deep s d
      have h1 : s.length ≤ seen.length + cnO t := h1
      show (rsT ts deep s d).2.1.length ≤ _
      omega
    · rw [hR] at h1
      have h1 : s.length ≤ seen.length + cnO t := h1
      show s.length ≤ _
      omega
theorem rsO_len : ∀ (t : Dt) (deep : Nat) (seen : List Str) (dst : Nat), (rsO t deep seen dst).2.1.length ≤ seen.length + cnO t
  | .tuple [a, b], deep, seen, dst => by
    show (match a with | .str z => if IsNm z then (if z ∈ seen then (some ("again" : Str), seen, dst) else rsW b (deep + 1) (seen ++ [z]) (max dst (deep + 1))) else (some "name", seen, dst) | _ => (some ("name" : Str), seen, dst)).2.1.length ≤ seen.length + (1 + cnW b)
    split
    · split
      · split
        · show seen.length ≤ _
          omega
        · rename_i z _ _
          have := rsW_len b (deep + 1) (seen ++ [z]) (max dst (deep + 1))
          rw [List.length_append, List.length_singleton] at this
          omega
      · show seen.length ≤ _
        omega
    · show seen.length ≤ _
      omega
  | .tuple [], _, _, _ => Nat.le_refl _
  | .tuple [_], _, _, _ => Nat.le_refl _
  | .tuple (_ :: _ :: _ :: _), _, _, _ => Nat.le_refl _
  | .none, _, _, _ => Nat.le_refl _
  | .bool _, _, _, _ => Nat.le_refl _
  | .int _, _, _, _ => Nat.le_refl _
  | .str _, _, _, _ => Nat.le_refl _
  | .list _, _, _, _ => Nat.le_refl _
  | .dict _, _, _, _ => Nat.le_refl _
end
theorem reasonL_fn : ∀ (n : Nat) (x : Dt) (deep : Nat) (seen : List Str) (dst : Nat), x.depth < 2 * n → seen.length + cnW x ≤ 900 →
    f_reasonL n [.d x, .io (.l (seen.map .str)), .d (.int (deep : Nat)), .io (.l [.int (dst : Nat)])] = .ok (.d (oS (rsW x deep seen dst).1)) [.d x, .io (.l ((rsW x deep seen dst).2.1.map .str)), .d (.int (deep : Nat)), .io (.l [.int ((rsW x deep seen dst).2.2 : Nat)])]
  | 0, _, _, _, _, h, _ => absurd h (by omega)
  | n + 1, x, deep, seen, dst, hd, hc => by
    refine ok_of ?_
    show DOk _ (runM 6 (m_reasonL (f_reasonL n)) _)
    refine run_ok ?_
    unfold m_reasonL
    have ih := reasonL_fn n
    have qn := fun y : Dt => @is_nameL_ok y
    generalize f_is_nameL = F at qn ⊢
    generalize f_reasonL n = G at ih ⊢
    have i0 := (Ev.isiT (env := rnE x (seen.map .str) (deep : Nat) (dst : Nat) none none) (j := 0) (x := x) rfl).tst []
    refine FP.sq ?_
    cases hT : isTupD x with
    | false =>
      rw [hT] at i0
      have e : rsW x deep seen dst = (some ("wood" : Str), seen, dst) := by
        cases x <;> first | rfl | cases hT
      rw [e]
      exact FP.ifT (not_ev i0) (FP.re (Ev.c _) ⟨_, rfl, rfl, rfl⟩)
    | true =>
    rw [hT] at i0
    refine FP.ifF (not_ev i0) (.nx ?_)
    obtain ⟨xs, rfl⟩ := isTup_nm hT
    have hd2 : ∀ t ∈ xs, t.depth + 1 < 2 * (n + 1) := fun t ht => by
      have h1 : PyData.depthAll xs + 1 < 2 * (n + 1) := hd
      have := dpT_le ht
      omega
    refine FP.sq ?_
    refine fp_for (fun rr e => ∃ (sn : List Str) (dt : Nat) (y4 y5 : Option Dt), rsT rr deep sn dt = rsW (.tuple xs) deep seen dst ∧ sn.length + cnT rr ≤ 900 ∧ (∀ t ∈ rr, t ∈ xs) ∧ e = rnE (.tuple xs) (sn.map .str) (deep : Nat) (dt : Nat) y4 y5) (as := [.d (.tuple xs)]) (rd := fun _ => some xs) (xs := xs) (e := rnE (.tuple xs) (seen.map .str) (deep : Nat) (dst : Nat) none none) (seqI_ok rfl (.inr rfl)) ⟨seen, dst, none, none, rfl, hc, fun _ h => h, rfl⟩ (fun _ _ _ => rfl) ?_ ?_
    · rintro it rr e ⟨sn, dt, y4, y5, h1, h2, h3, rfl⟩
      have hmem := h3 it List.mem_cons_self
      have hdi := hd2 it hmem
      have h2 : sn.length + (cnO it + cnT rr) ≤ 900 := h2
      have h1 : (match rsO it deep sn dt with | (none, s, d) => rsT rr deep s d | (some r, s, d) => (some r, s, d)) = rsW (.tuple xs) deep seen dst := h1
      refine ⟨rnE (.tuple xs) (sn.map .str) (deep : Nat) (dt : Nat) (some it) y5, by cases y4 <;> cases y5 <;> rfl, ?_⟩
      generalize hE : rnE (.tuple xs) (sn.map .str) (deep : Nat) (dt : Nat) (some it) y5 = E
      have v4 : E[4]? = some (some (.d it)) := by rw [← hE]; rfl
      have bk : backs [.d (.tuple xs), .io (.l (seen.map .str)), .d (.int (deep : Nat)), .io (.l [.int (dst : Nat)])] E = [.d (.tuple xs), .io (.l (sn.map .str)), .d (.int (deep : Nat)), .io (.l [.int (dt : Nat)])] := by rw [← hE]; rfl
      have i4 := (Ev.isiT (env := E) (j := 4) (x := it) v4).tst ([.d (.tuple xs)] ++ [])
      have out : ∀ {z : Str} {N : Env → Prop} {e : Env} {te : List A}, rsO it deep sn dt = (some z, sn, dt) → e = E → FP N (EndR [.d (.tuple xs), .io (.l (seen.map .str)), .d (.int (deep : Nat)), .io (.l [.int (dst : Nat)])] fun r i => r = .d (oS (rsW (.tuple xs) deep seen dst).1) ∧ i = [.d (.tuple xs), .io (.l ((rsW (.tuple xs) deep seen dst).2.1.map .str)), .d (.int (deep : Nat)), .io (.l [.int ((rsW (.tuple xs) deep seen dst).2.2 : Nat)])]) (mRet (mC (.str z)) e te) := fun {z N e te} h he => by
        rw [h] at h1
        rw [← h1, he]
        exact FP.re (Ev.c _) ⟨_, rfl, rfl, bk⟩
      refine FP.sq ?_
      cases hT : isTupD it with
      | false =>
        rw [hT] at i4
        exact FP.ifT (or_ev (a := true) (b := true) (not_ev i4) (fun h => nomatch h)) (out (z := "tree") (by cases it <;> first | rfl | cases hT) rfl)
      | true =>
      rw [hT] at i4
      obtain ⟨ts, rfl⟩ := isTup_nm hT
      have tl := (Ev.eq (g := neD) (Ev.len (Ev.v v4)) (Ev.c (x := .int ((2 : Nat) : Int))) (neD_int _ _)).tst ([.d (.tuple xs)] ++ [])
      have t6 := or_ev (a := false) (not_ev i4) (fun _ => tl)
      rw [Bool.false_or] at t6
      by_cases h2l : ts.length = 2
      case neg =>
        rw [decide_eq_false (by omega), Bool.not_false] at t6
        exact FP.ifT t6 (out (z := "tree") (by
          match ts, h2l with
          | [], _ => rfl
          | [_], _ => rfl
          | [_, _], h => exact absurd rfl h
          | _ :: _ :: _ :: _, _ => rfl) rfl)
      rw [decide_eq_true (by omega), Bool.not_true] at t6
      refine FP.ifF t6 (.nx ?_)
      obtain ⟨a, b, rfl⟩ : ∃ a b, ts = [a, b] := by
        match ts, h2l with
        | [a, b], _ => exact ⟨a, b, rfl⟩
      have xa : Ev (mOp ixA (mVar 4) (mC (.int 0))) E a := Ev.ix (Ev.v v4) Ev.c (atI_0 _ _)
      have tn := not_ev ((Ev.call (F := F) (io := [false]) (Evs.cons xa Evs.nil) rfl (qn a)).tst ([.d (.tuple xs)] ++ []))
      refine FP.sq ?_
      cases hN : isNmD a with
      | false =>
        rw [hN] at tn
        exact FP.ifT tn (out (z := "name") (by
          cases a with
          | str z =>
            show (if IsNm z then _ else (some ("name" : Str), sn, dt)) = _
            rw [if_neg (of_decide_eq_false hN)]
          | _ => rfl) rfl)
      | true =>
      rw [hN] at tn
      refine FP.ifF tn (.nx ?_)
      obtain ⟨z, rfl⟩ : ∃ z, a = .str z := by
        cases a with
        | str z => exact ⟨z, rfl⟩
        | _ => cases hN
      have zn : IsNm z := of_decide_eq_true hN
      have ro : rsO (.tuple [.str z, b]) deep sn dt = if z ∈ sn then (some ("again" : Str), sn, dt) else rsW b (deep + 1) (sn ++ [z]) (max dt (deep + 1)) := by
        show (if IsNm z then _ else _) = _
        rw [if_pos zn]
      have ts : mTst (mOp (fl2 (inD false)) (mOp ixA (mVar 4) (mC (.int 0))) (mVar 1)) E ([.d (.tuple xs)] ++ []) = .ok (decide (z ∈ sn)) E := by
        refine tst_at ?_
        rw [ev_mOp, xa, zq00, ek_mOp_0]
        subst hE
        show Rs.bind (Rs.ok (A.rf 1 none) _) _ = _
        rw [zq00, ek_mOp_1]
        show (match inD false (.str z) (.list (sn.map .str)) with | some y => Rs.ok (A.d y) _ | none => .bad) = _
        rw [inD_list]
        rfl
      refine FP.sq ?_
      by_cases hz2 : z ∈ sn
      · rw [decide_eq_true hz2] at ts
        exact FP.ifT ts (out (z := "again") (by rw [ro, if_pos hz2]) rfl)
      rw [decide_eq_false hz2] at ts
      refine FP.ifF ts (.nx ?_)
      rw [ro, if_neg hz2] at h1
      have hco : cnO (.tuple [.str z, b]) = 1 + cnW b := rfl
      have hdb : b.depth < 2 * n := by
        have h : max (0 : Nat) (max b.depth 0) + 1 + 1 < 2 * (n + 1) := hdi
        omega
      have q := ih b (deep + 1) (sn ++ [z]) (max dt (deep + 1)) hdb (by rw [List.length_append, List.length_singleton]; omega)
      have ln : (rsW b (deep + 1) (sn ++ [z]) (max dt (deep + 1))).2.1.length ≤ (sn ++ [z]).length + cnW b := rsW_len b _ _ _
      rw [List.length_append, List.length_singleton] at ln
      rcases hR : rsW b (deep + 1) (sn ++ [z]) (max dt (deep + 1)) with ⟨r, sn', dt'⟩
      rw [hR] at q h1 ln
      have ln : sn'.length ≤ sn.length + 1 + cnW b := ln
      have ix0 : atI [PyData.str z, b] 0 = some (.str z) := atI_0 _ _
      have ix1 : atI [PyData.str z, b] 1 = some b := rfl
      have i10 : ixN 1 0 = some 0 := rfl
      clear bk out
      subst hE
      have s1 : (sn.map PyData.str).length < sizeLine := big' (by rw [List.length_map]; omega)
      have e1 : (sn ++ [z]).map PyData.str = sn.map .str ++ [.str z] := by simp
      refine FP.st (e := rnE (.tuple xs) ((sn ++ [z]).map .str) (deep : Nat) (dt : Nat) (some (.tuple [.str z, b])) y5) ?_ ?_
      · rw [e1]
        generalize sn.map PyData.str = SS at s1
        cases y5 <;> simp! [rnE, od_none, od_some, s1, ix0]
      have hM : ∀ te, mD (mCB max2A (mCons (mOp ixA (mVar 3) (mC (.int 0))) (mCons (mOp addA (mVar 2) (mC (.int 1))) mNil))) (rnE (.tuple xs) ((sn ++ [z]).map .str) (deep : Nat) (dt : Nat) (some (.tuple [.str z, b])) y5) te = .ok (.d (.int ((max dt (deep + 1) : Nat) : Int))) (rnE (.tuple xs) ((sn ++ [z]).map .str) (deep : Nat) (dt : Nat) (some (.tuple [.str z, b])) y5) := fun te => by
        have a1 := Ev.addI (Ev.v (env := rnE (.tuple xs) ((sn ++ [z]).map .str) (deep : Nat) (dt : Nat) (some (.tuple [.str z, b])) y5) (i := 2) (x := .int (deep : Nat)) rfl) (Ev.c (x := .int 1))
        rw [show ((deep : Nat) : Int) + 1 = ((deep + 1 : Nat) : Int) by omega] at a1
        exact Ev.d (Ev.max2 (fun te => rfl) a1) te
      refine FP.st (e := rnE (.tuple xs) ((sn ++ [z]).map .str) (deep : Nat) ((max dt (deep + 1) : Nat) : Int) (some (.tuple [.str z, b])) y5) ?_ ?_
      · generalize mD (mCB max2A _) = MM at hM ⊢
        unfold rnE at hM ⊢
        generalize (sn ++ [z]).map PyData.str = SS at hM
        cases y5 <;> simp only [od_none, od_some] at hM ⊢ <;> simp! [hM, i10]
      have eD : ((deep + 1 : Nat) : Int) = ((deep : Nat) : Int) + 1 := by omega
      refine FP.st (e := rnE (.tuple xs) (sn'.map .str) (deep : Nat) (dt' : Nat) (some (.tuple [.str z, b])) (some (oS r))) ?_ ?_
      · rw [eD] at q
        unfold rnE
        generalize (sn ++ [z]).map PyData.str = SS at q
        generalize (sn'.map PyData.str) = SN at q
        generalize ((max dt (deep + 1) : Nat) : Int) = MX at q
        have tS : tupD (oS r) = true := by cases r <;> rfl
        generalize oS r = RR at q tS
        cases y5 <;> simp! [od_none, od_some, q, tS, ix1]
      cases r with
      | some z2 =>
        have t5 := (Ev.eq (g := notD) (Ev.v (env := rnE (.tuple xs) (sn'.map .str) (deep : Nat) (dt' : Nat) (some (.tuple [.str z, b])) (some (oS (some z2)))) (i := 5) (x := .str z2) rfl) (Ev.c (x := .none)) (b := true) rfl).tst ([.d (.tuple xs)] ++ [])
        refine FP.ifT t5 (FP.re (Ev.v (i := 5) (x := .str z2) rfl _) ⟨_, rfl, ?_, ?_⟩)
        · rw [← h1]; rfl
        · rw [← h1]; rfl
      | none =>
        have t5 := (Ev.eq (g := notD) (Ev.v (env := rnE (.tuple xs) (sn'.map .str) (deep : Nat) (dt' : Nat) (some (.tuple [.str z, b])) (some (oS none))) (i := 5) (x := .none) rfl) (Ev.c (x := .none)) (b := false) rfl).tst ([.d (.tuple xs)] ++ [])
        exact FP.ifF t5 (.nx ⟨sn', dt', _, _, h1, by omega, fun t ht => h3 t (List.mem_cons_of_mem _ ht), rfl⟩)
    · rintro e ⟨sn, dt, y4, y5, h1, h2, h3, rfl⟩
      rw [← h1]
      exact FP.re (Ev.c _) ⟨_, rfl, rfl, rfl⟩
end Tw

namespace Tw
open PySem PySem.Spec PyProof.Rows L2
theorem wood_errorL_fn {x : Dt} (hd : x.depth < 120) (hc : cnW x ≤ 900) : f_wood_errorL [.d x] = .ok (.d (wkD (rsW x 0 [] 0))) [.d x] := by
  refine ok_of ?_
  unfold f_wood_errorL
  refine run_ok ?_
  unfold m_wood_errorL
  have q := reasonL_fn 60 x 0 [] 0 (by omega) (by rw [List.length_nil]; omega)
  have ln := rsW_len x 0 [] 0
  rcases hR : rsW x 0 [] 0 with ⟨r, sn, dt⟩
  rw [hR] at q ln
  have ln : sn.length ≤ 0 + cnW x := ln
  generalize f_reasonL 60 = G at q ⊢
  have s0 : (0 : Nat) ≤ sizeLine := Nat.zero_le _
  have s1 : (1 : Nat) ≤ sizeLine := big (by decide)
  have q : G [.d x, .io (.l []), .d (.int 0), .io (.l [.int 0])] = .ok (.d (oS r)) [.d x, .io (.l (sn.map .str)), .d (.int 0), .io (.l [.int (dt : Nat)])] := q
  refine FP.st (e := [some (.d x), some (.own (.l [])), some (.own (.l [.int 0])), none]) (by simp! [s0, s1]) ?_
  have tS : tupD (oS r) = true := by cases r <;> rfl
  refine FP.st (e := [some (.d x), some (.own (.l (sn.map .str))), some (.own (.l [.int (dt : Nat)])), some (.d (oS r))]) ?_ ?_
  · generalize sn.map PyData.str = SN at q
    generalize oS r = RR at q tS
    simp! [q, tS]
  refine FP.sq ?_
  cases r with
  | some z =>
    have t5 := (Ev.eq (g := notD) (Ev.v (env := [some (.d x), some (.own (.l (sn.map .str))), some (.own (.l [.int (dt : Nat)])), some (.d (oS (some z)))]) (i := 3) (x := .str z) rfl) (Ev.c (x := .none)) (b := true) rfl).tst []
    exact FP.ifT t5 (FP.re (Ev.v (i := 3) (x := .str z) rfl _) ⟨_, rfl, rfl, rfl⟩)
  | none =>
    have t5 := (Ev.eq (g := notD) (Ev.v (env := [some (.d x), some (.own (.l (sn.map .str))), some (.own (.l [.int (dt : Nat)])), some (.d (oS none))]) (i := 3) (x := .none) rfl) (Ev.c (x := .none)) (b := false) rfl).tst []
    refine FP.ifF t5 (.nx ?_)
    have e1 : ∀ te, mCB (one lenA) (mCons (mVar 1) mNil) [some (.d x), some (.own (.l (sn.map .str))), some (.own (.l [.int (dt : Nat)])), some (.d (oS none))] te = .ok (.d (.int (sn.length : Nat))) [some (.d x), some (.own (.l (sn.map .str))), some (.own (.l [.int (dt : Nat)])), some (.d (oS none))] := fun te => by
      have e : (sn.map PyData.str).length = sn.length := List.length_map ..
      rw [← e]
      generalize sn.map PyData.str = SN
      rfl
    have t1 := (Ev.eq (g := gtD) e1 (Ev.c (x := .int ((120 : Nat) : Int))) (gtD_nat _ _)).tst []
    refine FP.sq ?_
    by_cases c : 120 < sn.length
    · rw [decide_eq_true c] at t1
      refine FP.ifT t1 (FP.re (Ev.c _) ⟨_, rfl, ?_, rfl⟩)
      show _ = A.d (if 120 < sn.length then .str "many" else _)
      rw [if_pos c]
    · rw [decide_eq_false c] at t1
      refine FP.ifF t1 (.nx ?_)
      have x2 : Ev (mOp ixA (mVar 2) (mC (.int 0))) [some (.d x), some (.own (.l (sn.map .str))), some (.own (.l [.int (dt : Nat)])), some (.d (oS none))] (.int (dt : Nat)) := Ev.ixO (i := 2) (n := 0) rfl Ev.c rfl
      have t2 := (Ev.eq (g := gtD) x2 (Ev.c (x := .int ((40 : Nat) : Int))) (gtD_nat _ _)).tst
      refine FP.re (Ev.ifE (x := wkD (none, sn, dt)) t2 (fun h => ?_) (fun h => ?_) _) ⟨_, rfl, rfl, rfl⟩
      · have h := of_decide_eq_true h
        show Ev _ _ (if 120 < sn.length then .str "many" else if 40 < dt then .str "deep" else .none)
        rw [if_neg c, if_pos h]
        exact Ev.c
      · have h := of_decide_eq_false h
        show Ev _ _ (if 120 < sn.length then .str "many" else if 40 < dt then .str "deep" else .none)
        rw [if_neg c, if_neg h]
        exact Ev.c
end Tw

namespace Tw
open PySem PySem.Spec PyProof.Rows L2
/-! ### woods with odd things in some places -/
abbrev Td : Type := List (List Key × Dt)
def okK (a k : Str) : List Key := [.inr a, .inr k]
def owT (D : Td) : Wd → List Dt
  | .nil => []
  | .cons n i r => (lkT D (okK "tree" n)).getD (.tuple [(lkT D (okK "name" n)).getD (.str n), (lkT D (okK "wood" n)).getD (.tuple (owT D i))]) :: owT D r
def owW (D : Td) (k : Str) (w : Wd) : Dt := (lkT D (okK "wood" k)).getD (.tuple (owT D w))
theorem owT_len (D : Td) : ∀ w : Wd, (owT D w).length = w.tops.length
  | .nil => rfl
  | .cons _ _ r => congrArg (· + 1) (owT_len D r)
theorem io_var {i : Nat} {env : Env} {te : List A} {D : Td} (h : env[i]? = some (some (.io (.x (.dt D))))) : mVar i env te = .ok (.rf i none) env ∧ dtAt env (.rf i none) = some D := by
  constructor
  · unfold mVar
    rw [h]
    rfl
  · unfold dtAt owAt
    dsimp only
    rw [h]
theorem dtIn_at {m : ME} {i : Nat} {env : Env} {te : List A} {a b : Str} {D : Td} (hm : Ev m env (.tuple [.str a, .str b])) (hi : env[i]? = some (some (.io (.x (.dt D))))) : mTst (mOp (dtInA false) m (mVar i)) env te = .ok (lkT D (okK a b)).isSome env := by
  obtain ⟨h1, h2⟩ := io_var (te := .d (.tuple [.str a, .str b]) :: te) hi
  refine tst_at ?_
  rw [ev_mOp, hm, zq00, ek_mOp_0, h1, zq00, ek_mOp_1]
  show (match some (okK a b), dtAt env (.rf i none) with | some k, some q => Rs.ok (A.d (.bool (lkT q k).isSome)) env | _, _ => .bad) = _
  rw [h2]
theorem dtGet_at {m : ME} {i : Nat} {env : Env} {te : List A} {a b : Str} {D : Td} {x : Dt} (hm : Ev m env (.tuple [.str a, .str b])) (hi : env[i]? = some (some (.io (.x (.dt D))))) (hx : lkT D (okK a b) = some x) : mOp dtGetA (mVar i) m env te = .ok (.d x) env := by
  obtain ⟨h1, h2⟩ := io_var (te := te) hi
  rw [ev_mOp, h1, zq00, ek_mOp_0, hm, zq00, ek_mOp_1]
  show (match dtAt env (.rf i none), some (okK a b) with | some q, some k => (match lkT q k with | some x => Rs.ok (A.d x) env | none => .bad) | _, _ => .bad) = _
  rw [h2]
  dsimp only
  rw [hx]
theorem dtGet2_ev {m mx : ME} {i : Nat} {env : Env} {a b : Str} {D : Td} {y : Dt} (hm : Ev m env (.tuple [.str a, .str b])) (hi : env[i]? = some (some (.io (.x (.dt D))))) (hx : Ev mx env y) : Ev (mDtGet2 (mVar i) m mx) env ((lkT D (okK a b)).getD y) := fun te => by
  obtain ⟨h1, h2⟩ := io_var (te := te) hi
  show Rs.bind (mVar i env te) _ = _
  rw [h1, zq00]
  show (match dtAt env (.rf i none) with | some _ => Rs.bind (m env (.rf i none :: te)) _ | none => Rs.bad) = _
  rw [h2]
  show Rs.bind (m env (.rf i none :: te)) _ = _
  rw [hm, zq00]
  show Rs.bind (mx env _) _ = _
  rw [hx, zq00]
  show (match dtAt env (.rf i none), keyA (A.d (.tuple [.str a, .str b])), A.d y with | some q, some k, .d x => Rs.ok (A.d ((lkT q k).getD x)) env | _, _, _ => .bad) = _
  rw [h2, show keyA (A.d (.tuple [.str a, .str b])) = some (okK a b) from rfl]
def okE (Dk : List (Dt × Dt)) (k : Str) (D : Td) (y3 : Option (List Dt)) (y4 y5 : Option Dt) : Env := [some (.d (.dict Dk)), some (.d (.str k)), some (.io (.x (.dt D))), oo y3, od y4, od y5]
theorem odd_woodL_fn (Dk : List (Dt × Dt)) (D : Td) : ∀ (n : Nat) (w : Wd) (k : Str), w.dep < n → w.size ≤ 10000 → KWd Dk w → lkDD Dk (.inr k) = some (.list (w.tops.map .str)) →
    f_odd_woodL n [.d (.dict Dk), .d (.str k), .io (.x (.dt D))] = .ok (.d (owW D k w)) [.d (.dict Dk), .d (.str k), .io (.x (.dt D))]
  | 0, _, _, h, _, _, _ => absurd h (Nat.not_lt_zero _)
  | n + 1, w, k, hd, hs, hw, hk => by
    refine ok_of ?_
    show DOk _ (runM 6 (m_odd_woodL (f_odd_woodL n)) _)
    refine run_ok ?_
    unfold m_odd_woodL
    have ih := odd_woodL_fn Dk D n
    generalize f_odd_woodL n = G at ih ⊢
    have kw : ∀ {y3 y4 y5}, Ev (mTup (mCons (mC (.str "wood")) (mCons (mD (mVar 1)) mNil))) (okE Dk k D y3 y4 y5) (.tuple [.str "wood", .str k]) := fun {_ _ _} => Ev.tup (Evs.two Ev.c (Ev.d (Ev.v rfl))) (Nat.le_of_ble_eq_true rfl)
    have t1 := dtIn_at (te := []) (i := 2) (kw (y3 := none) (y4 := none) (y5 := none)) rfl
    refine FP.sq ?_
    cases hw1 : lkT D (okK "wood" k) with
    | some x =>
      rw [hw1] at t1
      refine FP.ifT t1 (FP.re (dtGet_at (i := 2) kw rfl hw1) ⟨_, rfl, ?_, rfl⟩)
      unfold owW
      rw [hw1]
      rfl
    | none =>
    rw [hw1] at t1
    refine FP.ifF t1 (.nx ?_)
    have eo : owW D k w = .tuple (owT D w) := by
      unfold owW
      rw [hw1]
      rfl
    rw [eo]
    refine FP.st (e := okE Dk k D (some []) none none) (asg_at (lst_ev Evs.nil (Nat.zero_le _)) rfl) ?_
    refine FP.sq ?_
    have hm : mSeqI (mD (mOp dgA (mVar 0) (mVar 1))) (okE Dk k D (some []) none none) [] = .ok ([.d (.list (w.tops.map .str))], fun _ => some (w.tops.map .str)) (okE Dk k D (some []) none none) := seqI_ok (by simp! [okE, oo_some, od_none, hk]) (.inl rfl)
    refine fp_for (fun rr e => ∃ (rest : Wd) (acc : List Dt) (y4 y5 : Option Dt), rr = rest.tops.map .str ∧ acc ++ owT D rest = owT D w ∧ KWd Dk rest ∧ rest.dep ≤ n ∧ rest.size ≤ 10000 ∧ e = okE Dk k D (some acc) y4 y5) hm ⟨w, [], none, none, rfl, rfl, hw, by omega, hs, rfl⟩ (fun _ _ _ => rfl) ?_ ?_
    · rintro x rr e ⟨rest, acc, y4, y5, h1, h2, h3, h4, h5, rfl⟩
      cases rest with
      | nil => cases h1
      | cons m i r =>
        have h1' : x :: rr = .str m :: r.tops.map .str := h1
        injection h1' with e1 e2
        subst e1 e2
        obtain ⟨k1, k2, k3⟩ := h3
        have d1 : i.dep + 1 ≤ n := Nat.le_trans (Nat.le_max_left _ _) h4
        have d2' : r.dep ≤ n := Nat.le_trans (Nat.le_max_right _ _) h4
        have sz : i.size + r.size + 1 ≤ 10000 := h5
        have q := ih i m (by omega) (by omega) k2 k1
        refine ⟨okE Dk k D (some acc) (some (.str m)) y5, by cases y4 <;> cases y5 <;> rfl, ?_⟩
        have hal : acc.length < sizeLine := by
          have := congrArg List.length h2
          rw [List.length_append, owT_len, owT_len] at this
          have := Wd.tops_le w
          exact big' (by omega)
        have kn : ∀ {y5 : Option Dt} {nm : Str}, Ev (mTup (mCons (mC (.str nm)) (mCons (mD (mVar 4)) mNil))) (okE Dk k D (some acc) (some (.str m)) y5) (.tuple [.str nm, .str m]) := fun {_ _} => Ev.tup (Evs.two Ev.c (Ev.d (Ev.v rfl))) (Nat.le_of_ble_eq_true rfl)
        have c1 := dtGet2_ev (i := 2) (kn (y5 := y5) (nm := "name")) rfl (Ev.d (Ev.v (i := 4) (x := .str m) rfl))
        have ci : mCall (noXf G) [false, false, true] (mCons (mVar 0) (mCons (mVar 4) (mCons (mVar 2) mNil))) (okE Dk k D (some acc) (some (.str m)) y5) (.d ((lkT D (okK "name" m)).getD (.str m)) :: ([.d (.list (w.tops.map .str))] ++ [])) = .ok (.d (owW D m i)) (okE Dk k D (some acc) (some (.str m)) y5) := by
          generalize owW D m i = R at q
          cases y5 <;> simp! [okE, oo_some, od_none, od_some, q]
        have tr := tup2m_at (c1 ([.d (.list (w.tops.map .str))] ++ [])) ci
        refine FP.st (e := okE Dk k D (some acc) (some (.str m)) (some (.tuple [(lkT D (okK "name" m)).getD (.str m), owW D m i]))) (asg_at tr (by cases y5 <;> rfl)) ?_
        have ap := dtGet2_ev (i := 2) (kn (y5 := some (.tuple [(lkT D (okK "name" m)).getD (.str m), owW D m i])) (nm := "tree")) rfl (Ev.d (Ev.v (i := 5) (x := .tuple [(lkT D (okK "name" m)).getD (.str m), owW D m i]) rfl))
        refine FP.mono_eq (e := okE Dk k D (some (acc ++ [(lkT D (okK "tree" m)).getD (.tuple [(lkT D (okK "name" m)).getD (.str m), owW D m i])])) (some (.str m)) (some (.tuple [(lkT D (okK "name" m)).getD (.str m), owW D m i]))) ?_ ⟨r, _, _, _, rfl, ?_, k3, d2', by omega, rfl⟩
        · refine drop_at (a := .d .none) (meth_own (i := 3) (as := [.d ((lkT D (okK "tree" m)).getD (.tuple [(lkT D (okK "name" m)).getD (.str m), owW D m i]))]) rfl ((Evs.cons (Ev.d ap) Evs.nil) _) ?_)
          unfold appA
          show mutL _ _ (.rf 3 none) _ = _
          exact mut_own (i := 3) (xs := acc) rfl rfl (if_pos hal)
        · rw [List.append_assoc]
          exact h2
    · rintro e ⟨rest, acc, y4, y5, h1, h2, h3, h4, h5, rfl⟩
      cases rest with
      | cons _ _ _ => cases h1
      | nil =>
        have h2 : acc ++ [] = owT D w := h2
        rw [List.append_nil] at h2
        subst h2
        have s1 : (owT D w).length ≤ sizeLine := by
          rw [owT_len]
          have := Wd.tops_le w
          exact big (by omega)
        refine FP.re (a := .d (.tuple (owT D w))) (e := okE Dk k D (some (owT D w)) y4 y5) ?_ ⟨_, rfl, rfl, rfl⟩
        generalize owT D w = OW at s1
        cases y4 <;> cases y5 <;> simp! [okE, oo_some, od_none, od_some, s1]
end Tw

namespace Tw
open PySem PySem.Spec PyProof.Rows L2
/-! ### odd things are small -/
def smV (v : Dt) : Prop := v.depth ≤ 6 ∧ sxW v ≤ 20 ∧ cnW v ≤ 2 ∧ cnO v ≤ 2
theorem odd_small : ∀ x ∈ oddA ++ oddB ++ oddC, smV x := by
  have h : ∀ x ∈ oddA ++ oddB ++ oddC, (decide (x.depth ≤ 6) && decide (sxW x ≤ 20) && decide (cnW x ≤ 2) && decide (cnO x ≤ 2)) = true := by decide +kernel
  intro x hx
  have := h x hx
  rw [Bool.and_eq_true, Bool.and_eq_true, Bool.and_eq_true] at this
  exact ⟨of_decide_eq_true this.1.1.1, of_decide_eq_true this.1.1.2, of_decide_eq_true this.1.2, of_decide_eq_true this.2⟩
theorem str_small (z : Str) : smV (.str z) := ⟨Nat.zero_le _, Nat.le_of_ble_eq_true rfl, Nat.zero_le _, Nat.zero_le _⟩
def smT (D : Td) : Prop := ∀ q ∈ D, smV q.2
theorem smT_lk {D : Td} (h : smT D) {k : List Key} {v : Dt} (hv : lkT D k = some v) : smV v := by
  unfold lkT at hv
  obtain ⟨q, hq, rfl⟩ := Option.map_eq_some_iff.mp hv
  exact h q (List.mem_of_find?_eq_some hq)
theorem smT_put {D : Td} (h : smT D) {k : List Key} {v : Dt} (hv : smV v) : smT (putTD D k v) := by
  unfold putTD
  split
  · intro q hq
    obtain ⟨p, hp, rfl⟩ := List.mem_map.mp hq
    split
    · exact hv
    · exact h p hp
  · intro q hq
    rcases List.mem_append.mp hq with hq | hq
    · exact h q hq
    · rw [List.mem_singleton.mp hq]
      exact hv
def elT (D : Td) (n : Str) (i : Wd) : Dt := (lkT D (okK "tree" n)).getD (.tuple [(lkT D (okK "name" n)).getD (.str n), owW D n i])
theorem owT_cons (D : Td) (n : Str) (i r : Wd) : owT D (.cons n i r) = elT D n i :: owT D r := rfl
theorem nm_small {D : Td} (h : smT D) (n : Str) : smV ((lkT D (okK "name" n)).getD (.str n)) := by
  cases hv : lkT D (okK "name" n) with
  | none => exact str_small n
  | some v => exact smT_lk h hv
theorem owW_bd {D : Td} (h : smT D) (k : Str) (w : Wd) : cnW (owW D k w) ≤ 2 + cnT (owT D w) ∧ sxW (owW D k w) ≤ 20 + sxT (owT D w) ∧ (owW D k w).depth ≤ 7 + PyData.depthAll (owT D w) := by
  unfold owW
  cases hv : lkT D (okK "wood" k) with
  | none =>
    refine ⟨?_, ?_, ?_⟩
    · show cnT (owT D w) ≤ _; omega
    · show 1 + sxT (owT D w) ≤ _; omega
    · show PyData.depthAll (owT D w) + 1 ≤ _; omega
  | some v =>
    have := smT_lk h hv
    obtain ⟨h1, h2, h3, h4⟩ := this
    refine ⟨?_, ?_, ?_⟩
    · show cnW v ≤ _; omega
    · show sxW v ≤ _; omega
    · show v.depth ≤ _; omega
theorem elT_bd {D : Td} (h : smT D) (n : Str) (i : Wd) : cnO (elT D n i) ≤ 3 + cnT (owT D i) ∧ sxW (elT D n i) ≤ 42 + sxT (owT D i) := by
  have hn := nm_small h n
  have hw := owW_bd h n i
  unfold elT
  cases hv : lkT D (okK "tree" n) with
  | none =>
    refine ⟨?_, ?_⟩
    · show 1 + cnW (owW D n i) ≤ _; omega
    · show 1 + (sxW _ + (sxW (owW D n i) + 0)) ≤ _
      have := hn.2.1
      omega
  | some v =>
    obtain ⟨h1, h2, h3, h4⟩ := smT_lk h hv
    refine ⟨?_, ?_⟩
    · show cnO v ≤ _; omega
    · show sxW v ≤ _; omega
theorem owT_bd {D : Td} (h : smT D) : ∀ w : Wd, cnT (owT D w) ≤ 3 * w.size ∧ sxT (owT D w) ≤ 42 * w.size
  | .nil => ⟨Nat.zero_le _, Nat.zero_le _⟩
  | .cons n i r => by
    have h1 := owT_bd h i
    have h2 := owT_bd h r
    have h3 := elT_bd h n i
    rw [owT_cons]
    refine ⟨?_, ?_⟩
    · show cnO (elT D n i) + cnT (owT D r) ≤ 3 * (i.size + r.size + 1)
      omega
    · show sxW (elT D n i) + sxT (owT D r) ≤ 42 * (i.size + r.size + 1)
      omega
theorem owT_dp {D : Td} (h : smT D) : ∀ w : Wd, PyData.depthAll (owT D w) ≤ 2 * w.dep + 7
  | .nil => Nat.zero_le _
  | .cons n i r => by
    have h1 := owT_dp h i
    have h2 := owT_dp h r
    have hn := (nm_small h n).1
    rw [owT_cons]
    show max (elT D n i).depth (PyData.depthAll (owT D r)) ≤ 2 * (max (i.dep + 1) r.dep) + 7
    have h3 : (elT D n i).depth ≤ 2 * (i.dep + 1) + 7 := by
      unfold elT
      cases hv : lkT D (okK "tree" n) with
      | none =>
        have h4 : (owW D n i).depth ≤ 2 * i.dep + 8 := by
          unfold owW
          cases hv2 : lkT D (okK "wood" n) with
          | none => show PyData.depthAll (owT D i) + 1 ≤ _; omega
          | some v => have := (smT_lk h hv2).1; show v.depth ≤ _; omega
        show max _ (max (owW D n i).depth 0) + 1 ≤ _
        omega
      | some v => have := (smT_lk h hv).1; show v.depth ≤ _; omega
    omega
theorem owW_all {D : Td} (h : smT D) {w : Wd} (hs : w.size ≤ 200) (hd : w.dep ≤ 55) (k : Str) : (owW D k w).depth < 120 ∧ cnW (owW D k w) ≤ 900 ∧ sxW (owW D k w) ≤ 20000 := by
  have h1 := owT_bd h w
  have h2 := owW_bd h k w
  have h3 := owT_dp h w
  refine ⟨?_, by omega, by omega⟩
  unfold owW
  cases hv2 : lkT D (okK "wood" k) with
  | none => show PyData.depthAll (owT D w) + 1 < _; omega
  | some v => have := (smT_lk h hv2).1; show v.depth < _; omega
theorem great_ret {F1 F2 F3 : DF} {m g1 c1 g2 c2 g3 c3 g4 c4 s : Int} {TT NN : Int} {LN : List Dt} {WD : List Dt} (tW : tupAll WD = true) (q2 : F1 [.io (Dkv g1 m c1), .d (.int 15)] = .ok (.d (.int s)) [.io (Dkv g2 m c2), .d (.int 15)]) (hN : 112 + s = NN)
    (q3 : F2 [.io (Dkv g2 m c2), .d (.int NN)] = .ok (.own (.l LN)) [.io (Dkv g3 m c3), .d (.int NN)]) (q4 : F3 [.io (Dkv g3 m c3), .d (.list LN), .d (.int TT)] = .ok (.d (.tuple WD)) [.io (Dkv g4 m c4), .d (.list LN), .d (.int TT)]) :
    mCall (noXf F3) [true, false, false] (mCons (mVar 0) (mCons (mD (mCall (noXf F2) [true, false] (mCons (mVar 0) (mCons (mD (mOp addA (mC (.int 112)) (mCall (noXf F1) [true, false] (mCons (mVar 0) (mCons (mC (.int 15)) mNil))))) mNil)))) (mCons (mVar 1) mNil))) [some (.io (Dkv g1 m c1)), some (.d (.int TT))] [] = .ok (.d (.tuple WD)) [some (.io (Dkv g4 m c4)), some (.d (.int TT))] := by
  simp! [q2, q3, q4, hN, tW]
theorem great_st {F1 : DF} {m g c g1 c1 r TT : Int} (q1 : F1 [.io (Dkv g m c), .d (.int 10)] = .ok (.d (.int r)) [.io (Dkv g1 m c1), .d (.int 10)]) (hT : 36 + r = TT) :
    mAsg (mOp addA (mC (.int 36)) (mCall (noXf F1) [true, false] (mCons (mVar 0) (mCons (mC (.int 10)) mNil)))) (gN 1) [some (.io (Dkv g m c)), none] [] = .nx [some (.io (Dkv g1 m c1)), some (.d (.int TT))] := by
  simp! [q1, hT]
theorem great_ok (g m c : Int) : ∃ (w : Wd) (g' c' : Int), w.names.Nodup ∧ (∀ z ∈ w.names, IsNm z) ∧ w.dep ≤ 55 ∧ w.size ≤ 200 ∧ f_great_woodL [.io (Dkv g m c)] = .ok (.d (.tuple w.data)) [.io (Dkv g' m c')] := by
  obtain ⟨r, g1, c1, q1, r0, r1⟩ := draw_ok g m c 10 (by decide) (by decide)
  obtain ⟨s, g2, c2, q2, s0, s1⟩ := draw_ok g1 m c1 15 (by decide) (by decide)
  obtain ⟨T, hT⟩ : ∃ T : Nat, (36 : Int) + r = (T : Int) := ⟨(36 + r).toNat, by omega⟩
  obtain ⟨N, hN⟩ : ∃ N : Nat, (112 : Int) + s = (N : Int) := ⟨(112 + s).toNat, by omega⟩
  have T1 : 1 ≤ T := by omega
  have T2 : T ≤ 46 := by omega
  have N2 : N ≤ 130 := by omega
  obtain ⟨ns, g3, c3, nl, nd, nm, q3⟩ := names_ok g2 m c2 N (by omega)
  obtain ⟨w, g4, c4, hp, hd, q4⟩ := tall_ok g3 m c3 ns T nd nm (by omega) T1 (by omega)
  refine ⟨w, g4, c4, hp.nodup_iff.mpr nd, fun z hz => nm z (hp.mem_iff.mp hz), by omega, by rw [← Wd.size_names, hp.length_eq]; omega, ?_⟩
  have tW : tupAll w.data = true := tup_wd w
  clear s0 s1 r0 r1 T1 T2 N2 hd nl nd nm hp
  generalize ns.map PyData.str = LN at q3 q4
  generalize (T : Int) = TT at hT q4
  generalize (N : Int) = NN at hN q3
  refine ok_of ?_
  unfold f_great_woodL
  refine run_ok ?_
  unfold m_great_woodL
  refine FP.st (e := [some (.io (Dkv g1 m c1)), some (.d (.int TT))]) (great_st q1 hT) ?_
  exact FP.re (great_ret tW q2 hN q3 q4) ⟨_, rfl, rfl, rfl⟩
end Tw

namespace Tw
open PySem PySem.Spec PyProof.Rows L2
def lE01 (ns : List Int) (g m c : Int) (many : Int) (w : Wd) (x4 : A) (ks : List Dt) (D : Td) (y7 y8 y9 y10 y11 y12 : Option Dt) : Env := [some (.sc ns), some (.own (Dkv g m c)), some (.d (.int many)), some (.d (.tuple w.data)), some x4, some (.own (.l ks)), some (.own (.x (.dt D))), od y7, od y8, od y9, od y10, od y11, od y12]
theorem plE01 {ns : List Int} {g m c many : Int} {w : Wd} {o4 : Ow} {ks : List Dt} {D : Td} {y7 y8 y9 y10 y11 y12 : Option Dt} : plB (lE01 ns g m c many w (.own o4) ks D y7 y8 y9 y10 y11 y12) = true := by
  unfold lE01
  show plB (od y7 :: od y8 :: od y9 :: od y10 :: od y11 :: od y12 :: []) = true
  rw [pl_od', pl_od', pl_od', pl_od', pl_od', pl_od']
  rfl
theorem pl_anyC {env : Env} {te : List A} {j : Nat} (h : plB env = true) (ht : te.any (isRf j) = false) : anyC (isRf j) env te = false := by
  have w := (wipe_pl h (te := te) (vs := [j]) (fun v hv => by rw [List.mem_singleton.mp hv]; exact ht)).1
  unfold wipeOk at w
  rw [Bool.and_eq_true, Bool.and_eq_true] at w
  have w1 := w.1.2
  rw [Bool.not_eq_true'] at w1
  exact w1
theorem own_var {i : Nat} {env : Env} {te : List A} {o : Ow} (h : env[i]? = some (some (.own o))) : mVar i env te = .ok (.rf i none) env ∧ owAt env i = some o := by
  constructor
  · unfold mVar
    rw [h]
    rfl
  · unfold owAt
    rw [h]
theorem plE01d {ns : List Int} {g m c many : Int} {w : Wd} {d4 : Dt} {ks : List Dt} {D : Td} {y7 y8 y9 y10 y11 y12 : Option Dt} : plB (lE01 ns g m c many w (.d d4) ks D y7 y8 y9 y10 y11 y12) = true := by
  unfold lE01
  show plB (od y7 :: od y8 :: od y9 :: od y10 :: od y11 :: od y12 :: []) = true
  rw [pl_od', pl_od', pl_od', pl_od', pl_od', pl_od']
  rfl
/-- a put at a key of two texts, the second one drawn -/
theorem putT_at {mv M : ME} {i : Nat} {env e : Env} {te : List A} {a b : Str} {D : Td} {v : Dt} (hv : mv env te = .ok (.d v) env) (hi : env[i]? = some (some (.own (.x (.dt D))))) (hM : M env (.rf i none :: .d v :: te) = .ok (.d (.tuple [.str a, .str b])) e) (he : e[i]? = some (some (.own (.x (.dt D))))) (hl : D.length ≤ 1000) :
    mPutT mv (mVar i) M env te = .nx (e.set i (some (.own (.x (.dt (putTD D (okK a b) v)))))) := by
  obtain ⟨h1, -⟩ := own_var (te := .d v :: te) hi
  obtain ⟨-, h2⟩ := own_var (te := te) he
  show Rs.fl (mv env te) _ = _
  rw [hv]
  show Rs.fl (mVar i env (.d v :: te)) _ = _
  rw [h1]
  show Rs.fl (M env (.rf i none :: .d v :: te)) _ = _
  rw [hM]
  show (match putTA e (.rf i none) (.d (.tuple [.str a, .str b])) (.d v) with | some e3 => Fl.nx e3 | none => .bad) = _
  have p : putTA e (.rf i none) (.d (.tuple [.str a, .str b])) (.d v) = some (e.set i (some (.own (.x (.dt (putTD D (okK a b) v)))))) := by
    unfold putTA
    show (match owAt e i, e[i]? with
      | some (.x (.dt kvs)), some (some ca) => if kvs.length < sizeLine then some (e.set i (some (reOw ca (.x (.dt (putTD kvs (okK a b) v)))))) else none
      | _, _ => none) = _
    rw [h2, he]
    exact if_pos (big' (by omega))
  rw [p]
theorem law_true : ∀ ns : List Int, ns.length ≤ 63 → ∃ ios, f_law [.sc ns] = .ok (.d (.bool true)) ios := by
  intro ns _
  suffices h : DOk (fun r ios => r = .d (.bool true)) (f_law [.sc ns]) by
    obtain ⟨a, ios, e, rfl⟩ := h.ex
    exact ⟨ios, e⟩
  unfold f_law
  refine run_ok ?_
  unfold m_law
  obtain ⟨g0, m, q1⟩ := deck_ok ns
  obtain ⟨k', g1, c1, q2, k0, k4⟩ := draw_ok g0 m 0 4 (by decide) (by decide)
  obtain ⟨k, rfl⟩ : ∃ k : Nat, k' = k := ⟨k'.toNat, by omega⟩
  obtain ⟨r, g2, c2, q3, -, -⟩ := draw_ok g1 m c1 8 (by decide) (by decide)
  have dr := fun g c n h0 h1 => draw_ok g m c n h0 h1
  have gr := great_ok g2 m c2
  have sm := some_ok g2 m c2
  have od_ := fun g c => odd_ok g m c
  have pk := fun g c (S : List Str) hw hl => pick_str g m c S hw hl
  have kd := fun (w : Wd) hs nd hnm => kids_ok w hs nd hnm
  have ow := fun (Dk : List (Dt × Dt)) (D : Td) (w : Wd) h1 h2 h3 h4 => odd_woodL_fn Dk D 60 w "" h1 h2 h3 h4
  have we := fun {x : Dt} (h1 : sxW x ≤ 20000) (h2 : cnW x ≤ 900) => wood_error_fn h1 h2
  have wl := fun {x : Dt} (h1 : x.depth < 120) (h2 : cnW x ≤ 900) => wood_errorL_fn h1 h2
  generalize f_deckL = F1 at q1 ⊢
  generalize f_drawL = F2 at q2 q3 dr ⊢
  generalize f_great_woodL = F3 at gr ⊢
  generalize f_some_woodL = F4 at sm ⊢
  generalize f_kidsL = F5 at kd ⊢
  generalize f_pickL = F6 at pk ⊢
  generalize f_oddL = F7 at od_ ⊢
  generalize f_odd_woodL 60 = F8 at ow ⊢
  generalize f_wood_error = F9 at we ⊢
  generalize f_wood_errorL = F10 at wl ⊢
  refine FP.st (e := [some (.sc ns), some (.own (Dkv g0 m 0)), none, none, none, none, none, none, none, none, none, none, none]) (by simp! [q1]) ?_
  refine FP.st (e := [some (.sc ns), some (.own (Dkv g1 m c1)), some (.d (.int (k : Nat))), none, none, none, none, none, none, none, none, none, none]) (by simp! [q2]) ?_
  -- the wood
  refine FP.sq (fp_conseq (fun e => ∃ (w : Wd) (g c : Int), w.names.Nodup ∧ (∀ z ∈ w.names, IsNm z) ∧ w.dep ≤ 55 ∧ w.size ≤ 200 ∧ e = [some (.sc ns), some (.own (Dkv g m c)), some (.d (.int (k : Nat))), some (.d (.tuple w.data)), none, none, none, none, none, none, none, none, none]) ?_ ?_)
  · by_cases h : r = 5
    · subst h
      obtain ⟨w, g', c', h1, h2, h3, h4, q⟩ := gr
      refine FP.mono_eq (e := [some (.sc ns), some (.own (Dkv g' m c')), some (.d (.int (k : Nat))), some (.d (.tuple w.data)), none, none, none, none, none, none, none, none, none]) ?_ ⟨w, g', c', h1, h2, h3, h4, rfl⟩
      generalize PyData.tuple w.data = WD at q
      simp! [q3, q, eqD_int]
    · obtain ⟨w, g', c', h1, h2, h3, h4, q⟩ := sm
      refine FP.mono_eq (e := [some (.sc ns), some (.own (Dkv g' m c')), some (.d (.int (k : Nat))), some (.d (.tuple w.data)), none, none, none, none, none, none, none, none, none]) ?_ ⟨w, g', c', h1, h2, h3, by omega, rfl⟩
      generalize PyData.tuple w.data = WD at q
      simp! [q3, q, eqD_int, h]
  rintro e ⟨w, g, c, nd, hnm, hd, hs, rfl⟩
  obtain ⟨kvs, hK, qk⟩ := kd w (by omega) nd hnm
  refine FP.st (e := [some (.sc ns), some (.own (Dkv g m c)), some (.d (.int (k : Nat))), some (.d (.tuple w.data)), some (.own (.dl kvs)), none, none, none, none, none, none, none, none]) (asg_at (call_own (Evs.cons (Ev.v (i := 3) rfl) Evs.nil) rfl qk) rfl) ?_
  obtain ⟨S, hS⟩ : ∃ S : List Str, (kvs.map fun q => kD q.1) = S.map .str := by
    have h := hK.ks
    clear qk hK
    induction kvs with
    | nil => exact ⟨[], rfl⟩
    | cons q l ih =>
      obtain ⟨S, hS⟩ := ih fun p hp => h p (List.mem_cons_of_mem _ hp)
      obtain ⟨z, hz, -⟩ := h q List.mem_cons_self
      refine ⟨z :: S, ?_⟩
      rw [List.map_cons, hS, hz]
      rfl
  have S0 : S ≠ [] := by
    intro e
    have h2 := congrArg List.length hS
    rw [e, List.length_map] at h2
    have h2 : kvs.length = 0 := h2
    have := hK.pos
    omega
  have Sl : S.length ≤ 100000 := by
    have h1 := congrArg List.length hS
    rw [List.length_map, List.length_map] at h1
    have := hK.len
    omega
  have kf := hK.flat
  refine FP.st (e := [some (.sc ns), some (.own (Dkv g m c)), some (.d (.int (k : Nat))), some (.d (.tuple w.data)), some (.own (.dl kvs)), some (.own (.l (S.map .str))), none, none, none, none, none, none, none]) (asg_at (x := .own (.l (S.map .str))) (by rw [← hS]; exact if_pos kf) rfl) ?_
  refine FP.st (e := lE01 ns g m c (k : Nat) w (.own (.dl kvs)) (S.map .str) [] none none none none none none) rfl ?_
  -- the odd things
  refine FP.sq ?_
  refine fp_for (fun rr e => ∃ (g c : Int) (D : Td) (y7 y8 y9 : Option Dt), smT D ∧ D.length + rr.length ≤ 3 ∧ e = lE01 ns g m c (k : Nat) w (.own (.dl kvs)) (S.map .str) D y7 y8 y9 none none none) (e := lE01 ns g m c (k : Nat) w (.own (.dl kvs)) (S.map .str) [] none none none none none none) (rng1_nat (n := k) (by omega) rfl) ⟨g, c, [], none, none, none, (fun _ h => nomatch h), by rw [intsD_len]; show 0 + k ≤ 3; omega, rfl⟩ (fun _ _ _ => rfl) ?_ ?_
  · rintro x rr e ⟨g, c, D, y7, y8, y9, hD, hl, rfl⟩
    rw [List.length_cons] at hl
    refine ⟨lE01 ns g m c (k : Nat) w (.own (.dl kvs)) (S.map .str) D (some x) y8 y9 none none none, gN_pl plE01 (Nat.le_of_ble_eq_true rfl) rfl (.inl ⟨_, rfl⟩), ?_⟩
    obtain ⟨a, ha, g1, c1, p1⟩ := pk g c ["wood", "tree", "name"] (by simp) (by simp)
    have k1 := call_dk (F := F6) (te := [] ++ []) (i := 1) (env := lE01 ns g m c (k : Nat) w (.own (.dl kvs)) (S.map .str) D (some x) y8 y9 none none none) (ms := mCons (mD (mLst (mCons (mC (.str "wood")) (mCons (mC (.str "tree")) (mCons (mC (.str "name")) mNil))))) mNil) rfl (Evs.cons (Ev.lst (Evs.cons Ev.c (Evs.cons Ev.c (Evs.cons Ev.c Evs.nil))) (Nat.le_of_ble_eq_true rfl)) Evs.nil) plE01 rfl p1
    refine FP.st (e := lE01 ns g1 m c1 (k : Nat) w (.own (.dl kvs)) (S.map .str) D (some x) (some (.str a)) y9 none none none) (asg_at k1 (gN_pl plE01 (Nat.le_of_ble_eq_true rfl) rfl (.inl ⟨_, rfl⟩))) ?_
    obtain ⟨v1, g2, c2, hv1, p2⟩ := od_ g1 c1
    have k2 := call_dk (F := F7) (te := [] ++ []) (i := 1) (xs := []) (env := lE01 ns g1 m c1 (k : Nat) w (.own (.dl kvs)) (S.map .str) D (some x) (some (.str a)) y9 none none none) rfl Evs.nil plE01 rfl p2
    refine FP.st (e := lE01 ns g2 m c2 (k : Nat) w (.own (.dl kvs)) (S.map .str) D (some x) (some (.str a)) (some v1) none none none) (asg_at k2 (gN_pl plE01 (Nat.le_of_ble_eq_true rfl) rfl (.inl ⟨_, rfl⟩))) ?_
    refine FP.sq (fp_conseq (fun e => ∃ (g c : Int) (v : Dt), smV v ∧ e = lE01 ns g m c (k : Nat) w (.own (.dl kvs)) (S.map .str) D (some x) (some (.str a)) (some v) none none none) ?_ ?_)
    · obtain ⟨r, g3, c3, p3, -, -⟩ := dr g2 c2 3 (by decide) (by decide)
      have t := tst_eqI (b := 0) (call_dk (F := F2) (te := [] ++ []) (i := 1) (env := lE01 ns g2 m c2 (k : Nat) w (.own (.dl kvs)) (S.map .str) D (some x) (some (.str a)) (some v1) none none none) rfl (Evs.cons (Ev.c (x := .int 3)) Evs.nil) plE01 rfl p3)
      by_cases h : r = 0
      · rw [decide_eq_true h] at t
        obtain ⟨z, -, g4, c4, p4⟩ := pk g3 c3 S S0 Sl
        refine FP.ifT t (FP.mono_eq (e := lE01 ns g4 m c4 (k : Nat) w (.own (.dl kvs)) (S.map .str) D (some x) (some (.str a)) (some (.str z)) none none none) ?_ ⟨g4, c4, .str z, str_small z, rfl⟩)
        generalize S.map PyData.str = LS at p4 ⊢
        cases y9 <;> simp! [lE01, od_none, od_some, p4]
      · rw [decide_eq_false h] at t
        exact FP.ifF t (.nx ⟨g3, c3, v1, odd_small v1 hv1, rfl⟩)
    rintro e ⟨g5, c5, v, hv, rfl⟩
    obtain ⟨b, -, g6, c6, p6⟩ := pk g5 c5 S S0 Sl
    have pc : mCall (noXf F6) [true, false] (mCons (mVar 1) (mCons (mVar 5) mNil)) (lE01 ns g5 m c5 (k : Nat) w (.own (.dl kvs)) (S.map .str) D (some x) (some (.str a)) (some v) none none none) (.d (.str a) :: .rf 6 none :: .d v :: ([] ++ [])) = .ok (.d (.str b)) (lE01 ns g6 m c6 (k : Nat) w (.own (.dl kvs)) (S.map .str) D (some x) (some (.str a)) (some v) none none none) := by
      generalize S.map PyData.str = LS at p6 ⊢
      simp! [lE01, od_none, od_some, p6]
    have pt := tup2m_at (m1 := mVar 8) (te := .rf 6 none :: .d v :: ([] ++ [])) (env := lE01 ns g5 m c5 (k : Nat) w (.own (.dl kvs)) (S.map .str) D (some x) (some (.str a)) (some v) none none none) (x := .str a) rfl pc
    have pp := putT_at (i := 6) (mv := mD (mVar 9)) (te := [] ++ []) (env := lE01 ns g5 m c5 (k : Nat) w (.own (.dl kvs)) (S.map .str) D (some x) (some (.str a)) (some v) none none none) (v := v) (D := D) (Ev.d (Ev.v (i := 9) rfl) _) rfl pt rfl (by omega)
    exact FP.mono_eq pp ⟨g6, c6, putTD D (okK a b) v, _, _, _, smT_put hD hv, by have := putTD_len D (okK a b) v; omega, rfl⟩
  · rintro e ⟨g, c, D, y7, y8, y9, hD, -, rfl⟩
    have q := ow (kvs.map fun q => (kD q.1, .list q.2)) D w (by omega) (by omega) hK.kw.toD (by rw [lkDD_map (f := PyData.list), hK.top]; rfl)
    obtain ⟨b1, b2, b3⟩ := owW_all hD hs hd ""
    generalize owW D "" w = X at q b1 b2 b3
    refine FP.st (e := lE01 ns g m c (k : Nat) w (.d (.dict (kvs.map fun q => (kD q.1, .list q.2)))) (S.map .str) D y7 y8 y9 (some X) none none) ?_ ?_
    · generalize S.map PyData.str = LS
      have fz : ∀ te, te.any (isRf 4) = false → mD (mVar 4) (lE01 ns g m c (k : Nat) w (.own (.dl kvs)) LS D y7 y8 y9 none none none) te = .ok (.d (.dict (kvs.map fun q => (kD q.1, .list q.2)))) (lE01 ns g m c (k : Nat) w (.d (.dict (kvs.map fun q => (kD q.1, .list q.2)))) LS D y7 y8 y9 none none none) := fun te ht => by
        have ac := pl_anyC (j := 4) (te := te) (plE01 (ns := ns) (g := g) (m := m) (c := c) (many := (k : Nat)) (w := w) (o4 := .dl kvs) (ks := LS) (D := D) (y7 := y7) (y8 := y8) (y9 := y9) (y10 := none) (y11 := none) (y12 := none)) ht
        show (match (if anyC (isRf 4) (lE01 ns g m c (k : Nat) w (.own (.dl kvs)) LS D y7 y8 y9 none none none) te = false then (Ow.dt (.dl kvs)).map (fun x => (x, (lE01 ns g m c (k : Nat) w (.own (.dl kvs)) LS D y7 y8 y9 none none none).set 4 (some (.d x)))) else none) with | some (x, e') => Rs.ok (A.d x) e' | none => .bad) = _
        rw [if_pos ac]
        rfl
      generalize PyData.dict (kvs.map fun q => (kD q.1, PyData.list q.2)) = DK at q fz ⊢
      have f4 := fz [] rfl
      generalize mD (mVar 4) = M4 at f4 ⊢
      have e1 : mCons M4 (mCons (mC (.str "")) (mCons (mVar 6) mNil)) (lE01 ns g m c (k : Nat) w (.own (.dl kvs)) LS D y7 y8 y9 none none none) [] = .ok [.d DK, .d (.str ""), .rf 6 none] (lE01 ns g m c (k : Nat) w (.d DK) LS D y7 y8 y9 none none none) := by
        rw [ev_mCons, f4, zq00]
        rfl
      generalize mCons M4 (mCons (mC (.str "")) (mCons (mVar 6) mNil)) = MM at e1 ⊢
      unfold lE01 at e1 ⊢
      cases y7 <;> cases y8 <;> cases y9 <;> simp only [od_none, od_some] at e1 ⊢ <;> simp! [e1, q]
    obtain ⟨s, hs1⟩ : ∃ s, reprD (.list [.int 120, .int 40]) = some (.str s) := by
      have sh : (PyData.list [.int 120, .int 40]).showable = true := by decide +kernel
      have sl := shown_le (.list [.int 120, .int 40]) sh rfl
      have co : costD (.list [.int 120, .int 40]) = 3851 := rfl
      exact ⟨_, if_pos ⟨rfl, sh, Nat.le_of_ble_eq_true rfl, by omega, big (by omega)⟩⟩
    have rp : ∀ {M : ME} {env : Env}, Ev (mD M) env (.list [.int 120, .int 40]) → (∀ te, M env te = .ok (.own (.l [.int 120, .int 40])) env) → Ev (mCB (one (fl1 reprD)) (mCons M mNil)) env (.str s) := fun {M env} _ h te => repr_ev (h te) rfl hs1
    have l1 : ∀ {env : Env} te, mLst (mCons (mD (mC (.int 120))) (mCons (mD (mC (.int 40))) mNil)) env te = .ok (.own (.l [.int 120, .int 40])) env := fun te => lst_ev (Evs.two (Ev.d Ev.c) (Ev.d Ev.c)) (Nat.le_of_ble_eq_true rfl)
    have l2 : ∀ {env : Env} te, mLst (mCons (mC (.int 120)) (mCons (mC (.int 40)) mNil)) env te = .ok (.own (.l [.int 120, .int 40])) env := fun te => lst_ev (Evs.two Ev.c Ev.c) (Nat.le_of_ble_eq_true rfl)
    have t1 := (Ev.eq (g := neD) (b := false) (fun te => repr_ev (l1 te) rfl hs1) (fun te => repr_ev (l2 te) rfl hs1) (show neD (.str s) (.str s) = _ by rw [neD_str]; simp) (env := lE01 ns g m c (k : Nat) w (.d (.dict (kvs.map fun q => (kD q.1, .list q.2)))) (S.map .str) D y7 y8 y9 (some X) none none)).tst []
    refine FP.sq (FP.ifF t1 (.nx ?_))
    have q9 := we b3 b2
    have q10 := wl b1 b2
    refine FP.st (asg_at (Ev.call (F := F9) (io := [false]) (Evs.cons (Ev.v (env := lE01 ns g m c (k : Nat) w (.d (.dict (kvs.map fun q => (kD q.1, .list q.2)))) (S.map .str) D y7 y8 y9 (some X) none none) (i := 10) rfl) Evs.nil) rfl q9 []) (gN_pl plE01d (Nat.le_of_ble_eq_true rfl) rfl (.inl ⟨_, rfl⟩))) ?_
    show FP _ _ (mSeq _ _ (lE01 ns g m c (k : Nat) w (.d (.dict (kvs.map fun q => (kD q.1, .list q.2)))) (S.map .str) D y7 y8 y9 (some X) (some (wkD (rsW X 0 [] 0))) none) [])
    refine FP.st (asg_at (Ev.call (F := F10) (io := [false]) (Evs.cons (Ev.v (env := lE01 ns g m c (k : Nat) w (.d (.dict (kvs.map fun q => (kD q.1, .list q.2)))) (S.map .str) D y7 y8 y9 (some X) (some (wkD (rsW X 0 [] 0))) none) (i := 10) rfl) Evs.nil) rfl q10 []) (gN_pl plE01d (Nat.le_of_ble_eq_true rfl) rfl (.inl ⟨_, rfl⟩))) ?_
    show FP _ _ (mSeq _ _ (lE01 ns g m c (k : Nat) w (.d (.dict (kvs.map fun q => (kD q.1, .list q.2)))) (S.map .str) D y7 y8 y9 (some X) (some (wkD (rsW X 0 [] 0))) (some (wkD (rsW X 0 [] 0)))) [])
    have hR : wkD (rsW X 0 [] 0) = .none ∨ ∃ z, wkD (rsW X 0 [] 0) = .str z := by
      unfold wkD
      split
      · exact .inr ⟨_, rfl⟩
      · split
        · exact .inr ⟨_, rfl⟩
        · split
          · exact .inr ⟨_, rfl⟩
          · exact .inl rfl
    generalize wkD (rsW X 0 [] 0) = R at hR ⊢
    generalize PyData.dict (kvs.map fun q => (kD q.1, PyData.list q.2)) = DK
    refine FP.sq ?_
    rcases hR with rfl | ⟨z, rfl⟩
    · have t5 := (Ev.eq (g := isD) (b := true) (Ev.v (env := lE01 ns g m c (k : Nat) w (.d DK) (S.map .str) D y7 y8 y9 (some X) (some .none) (some .none)) (i := 12) (x := .none) rfl) (Ev.c (x := .none)) rfl).tst []
      exact FP.ifT t5 (FP.re ((Ev.eq (g := isD) (b := true) (Ev.v (i := 11) (x := .none) rfl) (Ev.c (x := .none)) rfl) []) ⟨_, rfl, rfl⟩)
    · have t5 := (Ev.eq (g := isD) (b := false) (Ev.v (env := lE01 ns g m c (k : Nat) w (.d DK) (S.map .str) D y7 y8 y9 (some X) (some (.str z)) (some (.str z))) (i := 12) (x := .str z) rfl) (Ev.c (x := .none)) rfl).tst []
      exact FP.ifF t5 (.nx (FP.re ((Ev.eq (g := eqD) (b := true) (Ev.v (i := 11) (x := .str z) rfl) (Ev.v (i := 12) (x := .str z) rfl) (by rw [eqD_str]; simp)) []) ⟨_, rfl, rfl⟩))
end Tw

namespace Tw
open PySem PySem.Spec PyProof.Rows L2
/-! ### the text by places -/
theorem sc_deckL : FnScope n_deckL ["_law_script"] (defScope s_deckL) := ⟨rfl, rfl, rfl, by decide +kernel, rfl, by decide +kernel, by decide +kernel⟩
theorem sc_drawL : FnScope n_drawL ["_law_deck_here", "_law_many"] (defScope s_drawL) := ⟨rfl, rfl, rfl, by decide +kernel, rfl, by decide +kernel, by decide +kernel⟩
theorem sc_nameL : FnScope n_nameL ["_law_deck_here"] (defScope s_nameL) := ⟨rfl, rfl, rfl, by decide +kernel, rfl, by decide +kernel, by decide +kernel⟩
theorem sc_namesL : FnScope n_namesL ["_law_deck_here", "_law_many"] (defScope s_namesL) := ⟨rfl, rfl, rfl, by decide +kernel, rfl, by decide +kernel, by decide +kernel⟩
theorem sc_wood_ofL : FnScope n_wood_ofL ["_law_kids_here", "_law_name_here"] (defScope s_wood_ofL) := ⟨rfl, rfl, rfl, by decide +kernel, rfl, by decide +kernel, by decide +kernel⟩
theorem sc_tall_woodL : FnScope n_tall_woodL ["_law_deck_here", "_law_names_here", "_law_tall"] (defScope s_tall_woodL) := ⟨rfl, rfl, rfl, by decide +kernel, rfl, by decide +kernel, by decide +kernel⟩
theorem sc_great_woodL : FnScope n_great_woodL ["_law_deck_here"] (defScope s_great_woodL) := ⟨rfl, rfl, rfl, by decide +kernel, rfl, by decide +kernel, by decide +kernel⟩
theorem sc_kidsL : FnScope n_kidsL ["_law_wood_here"] (defScope s_kidsL) := ⟨rfl, rfl, rfl, by decide +kernel, rfl, by decide +kernel, by decide +kernel⟩
theorem sc_pickL : FnScope n_pickL ["_law_deck_here", "_law_items"] (defScope s_pickL) := ⟨rfl, rfl, rfl, by decide +kernel, rfl, by decide +kernel, by decide +kernel⟩
theorem sc_oddL : FnScope n_oddL ["_law_deck_here"] (defScope s_oddL) := ⟨rfl, rfl, rfl, by decide +kernel, rfl, by decide +kernel, by decide +kernel⟩
theorem sc_odd_woodL : FnScope n_odd_woodL ["_law_kids_here", "_law_name_here", "_law_odd_here"] (defScope s_odd_woodL) := ⟨rfl, rfl, rfl, by decide +kernel, rfl, by decide +kernel, by decide +kernel⟩
theorem sc_woodL : FnScope n_woodL ["_law_deck_here", "_law_names_here"] (defScope s_woodL) := ⟨rfl, rfl, rfl, by decide +kernel, rfl, by decide +kernel, by decide +kernel⟩
theorem sc_wood_and_namesL : FnScope n_wood_and_namesL ["_law_deck_here", "_law_more"] (defScope s_wood_and_namesL) := ⟨rfl, rfl, rfl, by decide +kernel, rfl, by decide +kernel, by decide +kernel⟩
theorem sc_some_woodL : FnScope n_some_woodL ["_law_deck_here"] (defScope s_some_woodL) := ⟨rfl, rfl, rfl, by decide +kernel, rfl, by decide +kernel, by decide +kernel⟩
theorem sc_is_nameL : FnScope n_is_nameL ["_law_value"] (defScope s_is_nameL) := ⟨rfl, rfl, rfl, by decide +kernel, rfl, by decide +kernel, by decide +kernel⟩
theorem sc_reasonL : FnScope n_reasonL ["_law_value", "_law_seen", "_law_deep", "_law_deepest"] (defScope s_reasonL) := ⟨rfl, rfl, rfl, by decide +kernel, rfl, by decide +kernel, by decide +kernel⟩
theorem sc_wood_errorL : FnScope n_wood_errorL ["_law_value"] (defScope s_wood_errorL) := ⟨rfl, rfl, rfl, by decide +kernel, rfl, by decide +kernel, by decide +kernel⟩
theorem sc_is_name : FnScope n_is_name ["value"] (defScope s_is_name) := ⟨rfl, rfl, rfl, by decide +kernel, rfl, by decide +kernel, by decide +kernel⟩
theorem sc_wood_error : FnScope n_wood_error ["value"] (defScope s_wood_error) := ⟨rfl, rfl, rfl, by decide +kernel, rfl, by decide +kernel, by decide +kernel⟩
theorem sc_law : FnScope n_law ["_law_script"] (defScope s_law) := ⟨rfl, rfl, rfl, by decide +kernel, rfl, by decide +kernel, by decide +kernel⟩
structure Tx (K : PySem.W.Frag) (mg : Str → Option Value) : Prop where
  z_abs : mg "abs" = none
  z_all : mg "all" = none
  z_int : mg "int" = none
  z_isinstance : mg "isinstance" = none
  z_len : mg "len" = none
  z_list : mg "list" = none
  z_max : mg "max" = none
  z_range : mg "range" = none
  z_repr : mg "repr" = none
  z_set : mg "set" = none
  z_str : mg "str" = none
  z_tuple : mg "tuple" = none
  g_LETTERS : ∃ u, mg "LETTERS" = some u ∧ RelV (.str "abcdefghijklmnopqrstuvwxyz") u
  g_MAX_DEEP : ∃ u, mg "MAX_DEEP" = some u ∧ RelV (.int 40) u
  g_MAX_LETTERS : ∃ u, mg "MAX_LETTERS" = some u ∧ RelV (.int 8) u
  g_MAX_NAMES : ∃ u, mg "MAX_NAMES" = some u ∧ RelV (.int 120) u
  d_deckL : DefAt K mg "_law_deck" s_deckL
  d_drawL : DefAt K mg "_law_draw" s_drawL
  d_nameL : DefAt K mg "_law_name" s_nameL
  d_namesL : DefAt K mg "_law_names" s_namesL
  d_wood_ofL : DefAt K mg "_law_wood_of" s_wood_ofL
  d_tall_woodL : DefAt K mg "_law_tall_wood" s_tall_woodL
  d_great_woodL : DefAt K mg "_law_great_wood" s_great_woodL
  d_kidsL : DefAt K mg "_law_kids" s_kidsL
  d_pickL : DefAt K mg "_law_pick" s_pickL
  d_oddL : DefAt K mg "_law_odd" s_oddL
  d_odd_woodL : DefAt K mg "_law_odd_wood" s_odd_woodL
  d_woodL : DefAt K mg "_law_wood" s_woodL
  d_wood_and_namesL : DefAt K mg "_law_wood_and_names" s_wood_and_namesL
  d_some_woodL : DefAt K mg "_law_some_wood" s_some_woodL
  d_is_nameL : DefAt K mg "_law_is_name" s_is_nameL
  d_reasonL : DefAt K mg "_law_reason" s_reasonL
  d_wood_errorL : DefAt K mg "_law_wood_error" s_wood_errorL
  d_is_name : DefAt K mg "is_name" s_is_name
  d_wood_error : DefAt K mg "wood_error" s_wood_error
  d_law : DefAt K mg "law" s_law
section
variable {P : Program} {w : World} {K : PySem.W.Frag} {mg : Str → Option Value} {base : Heap}
theorem ok_deckL (T : Tx K mg) : Cal P w K mg base 1 "_law_deck" (spN (kw P w K) f_deckL 1) := by
  refine cal_of (t := t_deckL (kw P w K)) T.d_deckL (fun _ _ _ _ _ _ us hl => match us, hl with | [_], _ => rfl) sc_deckL (fun vs H Q E h => h.1) (fun cdv f A outer s H E hr => ?_) (fun vs H Q E h => pure_of (N := n_deckL) (m := m_deckL) (fun B W => ss_deckL) vs H Q E h.2)
  exact (pss_cons (ps_par (by rfl) sc_deckL.nd rfl rfl (by decide) rfl rfl (pa_cons pe_int (pa_cons (pe_op op_addU pe_int (pe_op op_mulU pe_int (pe_callB call_lenU (by rfl) T.z_len (by decide +kernel) (pa_cons (pv 0) pa_nil)))) pa_nil)) (by rfl))
      (pss_cons (ps_for PassesOwn.never rfl (pi_seq (pe_slice sl_U (pv 0) po_none (po_some pe_int))) (pg_name (i := 3) sc_deckL.nd rfl (Or.inl rfl)) (pss_cons (ps_set (i := 4) sc_deckL.nd rfl (Or.inl rfl) (pe_op op_addU (pe_op op_addU (pe_op op_mulU pe_int (pe_callB call_abs (by rfl) T.z_abs (by decide +kernel) (pa_cons (pv 3) pa_nil))) (pe_callTy call_int1 (by rfl) T.z_int (by decide +kernel) (pa_cons (pe_cmpR op_ltU (pv 3) pe_int (nomark _)) pa_nil))) pe_int))
      (pss_cons (ps_set (i := 2) sc_deckL.nd rfl (Or.inl rfl) (pe_op op_mod (pe_callTy call_int1 (by rfl) T.z_int (by decide +kernel) (pa_cons (pe_op op_addU (pe_op op_mulU (pv 2) pe_int) (pv 4)) pa_nil)) pe_int))
      (pss_one (ps_if (pt_cmpR op_ge (pe_callB call_abs (by rfl) T.z_abs (by decide +kernel) (pa_cons (pv 3) pa_nil)) (pe_op op_pow pe_int pe_int) (nomark _)) (pss_one (ps_set (i := 1) sc_deckL.nd rfl (Or.inl rfl) (pe_op op_addU (pe_op op_mulU (pv 1) pe_int) (pe_callB call_abs (by rfl) T.z_abs (by decide +kernel) (pa_cons (pv 3) pa_nil))))) pss_nil)))))
      (pss_one (ps_ret (pe_lst (pa_cons (pv 1) (pa_cons (pv 2) (pa_cons pe_int pa_nil))))))))
theorem ok_drawL (T : Tx K mg) : Cal P w K mg base 1 "_law_draw" (spN (kw P w K) f_drawL 2) := by
  refine cal_of (t := t_drawL (kw P w K)) T.d_drawL (fun _ _ _ _ _ _ us hl => match us, hl with | [_, _], _ => rfl) sc_drawL (fun vs H Q E h => h.1) (fun cdv f A outer s H E hr => ?_) (fun vs H Q E h => pure_of (N := n_drawL) (m := m_drawL) (fun B W => ss_drawL) vs H Q E h.2)
  exact (pss_cons (ps_if (pt_cmpR op_gt (pe_ix ix_seq (pv 0) pe_int (fun _ _ => rfl)) pe_int (nomark _)) (pss_cons (ps_set (i := 2) sc_drawL.nd rfl (Or.inl rfl) (pe_op op_mod (pe_callTy call_int1 (by rfl) T.z_int (by decide +kernel) (pa_cons (pe_ix ix_seq (pv 0) pe_int (fun _ _ => rfl)) pa_nil)) (pv 1)))
      (pss_cons (ps_asg (pe_op op_fdiv (pe_ix ix_seq (pv 0) pe_int (fun _ _ => rfl)) (pv 1)) (pg_sub (pv 0) pe_int set_list))
      (pss_one (ps_ret (pv 2))))) pss_nil)
      (pss_cons (ps_asg (pe_op op_addU (pe_ix ix_seq (pv 0) pe_int (fun _ _ => rfl)) pe_int) (pg_sub (pv 0) pe_int set_list))
      (pss_cons (ps_set (i := 3) sc_drawL.nd rfl (Or.inl rfl) (pe_op op_mod (pe_callTy call_int1 (by rfl) T.z_int (by decide +kernel) (pa_cons (pe_op op_addU (pe_ix ix_seq (pv 0) pe_int (fun _ _ => rfl)) (pe_op op_mulU pe_int (pe_ix ix_seq (pv 0) pe_int (fun _ _ => rfl)))) pa_nil)) pe_int))
      (pss_cons (ps_set (i := 3) sc_drawL.nd rfl (Or.inl rfl) (pe_op op_mod (pe_callTy call_int1 (by rfl) T.z_int (by decide +kernel) (pa_cons (pe_op op_mulU (pv 3) (pe_op op_addU (pe_op op_mod (pv 3) pe_int) pe_int)) pa_nil)) pe_int))
      (pss_one (ps_ret (pe_op op_mod (pe_op op_fdiv (pe_op op_mod (pe_callTy call_int1 (by rfl) T.z_int (by decide +kernel) (pa_cons (pe_op op_mulU (pv 3) (pv 3)) pa_nil)) pe_int) pe_int) (pv 1))))))))
theorem ok_nameL (T : Tx K mg) (c_drawL : Cal P w K mg base 1 "_law_draw" (spN (kw P w K) f_drawL 2)) : Cal P w K mg base 2 "_law_name" (spN (kw P w K) f_nameL 1) := by
  refine cal_of (t := t_nameL (kw P w K)) T.d_nameL (fun _ _ _ _ _ _ us hl => match us, hl with | [_], _ => rfl) sc_nameL (fun vs H Q E h => h.1) (fun cdv f A outer s H E hr => ?_) (fun vs H Q E h => pure_of (N := n_nameL) (m := m_nameL) (fun B W => ss_nameL) vs H Q E h.2)
  exact (pss_cons (ps_set (i := 1) sc_nameL.nd rfl (Or.inr rfl) pe_str)
      (pss_one (ps_ret (pe_join pe_str (pe_lc (own := [("_law_k", 2)]) (by rfl) sc_nameL.nd (pi_range1 (by rfl) T.z_range (pa_cons (pe_op op_addU pe_int (pe_c c_drawL hr (by decide) (by rfl) (pa_cons (pv 0) (pa_cons pe_int pa_nil)))) pa_nil)) (blkOk_by (own := [("_law_k", 2)]) (N := n_nameL) (sc := defScope s_nameL) (by decide +kernel)) (fun _ _ _ _ _ => (pg_name (i := 2) sc_nameL.nd rfl (Or.inl rfl))) (fun _ _ _ _ _ => pts_nil) (fun _ _ _ _ _ => (pe_ix ix_seq (pv 1) (pe_c c_drawL hr (by decide) (by rfl) (pa_cons (pv 0) (pa_cons pe_int pa_nil))) (fun _ _ => rfl))))))))
theorem ok_namesL (T : Tx K mg) (c_drawL : Cal P w K mg base 1 "_law_draw" (spN (kw P w K) f_drawL 2)) (c_nameL : Cal P w K mg base 2 "_law_name" (spN (kw P w K) f_nameL 1)) : Cal P w K mg base 3 "_law_names" (spN (kw P w K) f_namesL 2) := by
  refine cal_of (t := t_namesL (kw P w K)) T.d_namesL (fun _ _ _ _ _ _ us hl => match us, hl with | [_, _], _ => rfl) sc_namesL (fun vs H Q E h => h.1) (fun cdv f A outer s H E hr => ?_) (fun vs H Q E h => pure_of (N := n_namesL) (m := m_namesL) (fun B W => ss_namesL) vs H Q E h.2)
  exact (pss_cons (ps_set (i := 2) sc_namesL.nd rfl (Or.inr rfl) pe_str)
      (pss_cons (ps_setLc (i := 3) (own := [("_law_k", 9)]) (by rfl) sc_namesL.nd rfl rfl (sw_true rfl rfl rfl (by decide +kernel)) (pi_range1 (by rfl) T.z_range (pa_cons pe_int pa_nil)) (blkOk_by (own := [("_law_k", 9)]) (N := n_namesL) (sc := defScope s_namesL) (by decide +kernel)) (fun _ _ _ _ _ => (pg_name (i := 9) sc_namesL.nd rfl (Or.inl rfl))) (fun _ _ _ _ _ => pts_nil) (fun _ _ _ _ _ => (pe_op op_addU (pe_ix ix_seq (pv 2) (pe_op op_fdiv (pv 9) pe_int) (fun _ _ => rfl)) (pe_ix ix_seq (pv 2) (pe_op op_mod (pv 9) pe_int) (fun _ _ => rfl)))))
      (pss_cons (ps_par (by rfl) sc_namesL.nd rfl rfl (by decide) rfl rfl (pa_cons (pe_c c_drawL hr (by decide) (by rfl) (pa_cons (pv 0) (pa_cons pe_int pa_nil))) (pa_cons (pe_slice sl_U (pe_op op_mulU (pe_c c_nameL hr (by decide) (by rfl) (pa_cons (pv 0) pa_nil)) pe_int) po_none (po_some pe_int)) pa_nil)) (by rfl))
      (pss_cons (ps_par3 (by rfl) sc_namesL.nd rfl rfl rfl (by decide) (by decide) (by decide) rfl rfl rfl (pa_cons (pe_c c_drawL hr (by decide) (by rfl) (pa_cons (pv 0) (pa_cons pe_int pa_nil))) (pa_cons pe_int (pa_cons (pe_lst pa_nil) pa_nil))) (by rfl))
      (pss_cons (ps_for PassesOwn.never rfl (pi_range1 (by rfl) T.z_range (pa_cons (pv 1) pa_nil)) (pg_name (i := 9) sc_namesL.nd rfl (Or.inl rfl)) (pss_cons (ps_set (i := 10) sc_namesL.nd rfl (Or.inl rfl) (pe_ifExp (pt_cmpR (op_eqU hr) (pv 4) pe_int (nomark _)) (pe_c c_drawL hr (by decide) (by rfl) (pa_cons (pv 0) (pa_cons pe_int pa_nil))) (pv 4)))
      (pss_cons (ps_if (pt_cmpR (op_eqU hr) (pv 10) pe_int (nomark _)) (pss_one (ps_set (i := 11) sc_namesL.nd rfl (Or.inl rfl) (pe_c c_nameL hr (by decide) (by rfl) (pa_cons (pv 0) pa_nil)))) (pss_one (ps_if (pt_cmpR (op_eqU hr) (pv 10) pe_int (nomark _)) (pss_one (ps_set (i := 11) sc_namesL.nd rfl (Or.inl rfl) (pe_op op_addU (pe_op op_addU (pe_slice sl_U (pv 5) po_none (po_some (pv 6))) (pe_ix ix_seq (pv 2) (pe_c c_drawL hr (by decide) (by rfl) (pa_cons (pv 0) (pa_cons pe_int pa_nil))) (fun _ _ => rfl))) (pe_slice sl_U (pv 5) (po_some (pe_op op_addU (pv 6) pe_int)) po_none)))) (pss_one (ps_set (i := 11) sc_namesL.nd rfl (Or.inl rfl) (pe_slice sl_U (pv 5) po_none (po_some (pe_op op_addU pe_int (pe_c c_drawL hr (by decide) (by rfl) (pa_cons (pv 0) (pa_cons pe_int pa_nil)))))))))))
      (pss_cons (ps_while PassesOwn.never (pt_cmpR (op_inU hr) (pv 11) (pv 8) rfl) (pss_cons (ps_set (i := 11) sc_namesL.nd rfl (Or.inl rfl) (pe_ix ix_seq (pv 3) (pv 7) (fun _ _ => rfl)))
      (pss_one (ps_set (i := 7) sc_namesL.nd rfl (Or.inl rfl) (pe_op op_addU (pv 7) pe_int)))))
      (pss_one (ps_expr (pe_bm PySem.F.plainAttrs_list PySem.F.slot_list_append PySem.F.type_list_append mt_append (pv 8) (pa_cons (pv 11) pa_nil))))))))
      (pss_one (ps_ret (pv 8))))))))
theorem ok_wood_ofL (T : Tx K mg) : ∀ n : Nat, Cal P w K mg base (1 + n) "_law_wood_of" (spN (kw P w K) (f_wood_ofL n) 2)
  | 0 => cal_false (ps := ["_law_kids_here", "_law_name_here"]) T.d_wood_ofL (fun _ _ _ _ _ _ us hl => match us, hl with | [_, _], _ => rfl) (fun vs H Q E h => spN_bad vs H Q E h)
  | n + 1 => by
    have c_wood_ofL := ok_wood_ofL T n
    refine cal_of (t := t_wood_ofL (f_wood_ofL n) (kw P w K)) T.d_wood_ofL (fun _ _ _ _ _ _ us hl => match us, hl with | [_, _], _ => rfl) sc_wood_ofL (fun vs H Q E h => h.1) (fun cdv f A outer s H E hr => ?_) (fun vs H Q E h => pure_of (N := n_wood_ofL) (m := m_wood_ofL (f_wood_ofL n)) (fun B W => ss_wood_ofL (f_wood_ofL n)) vs H Q E h.2)
    exact (pss_one (ps_ret (pe_callTy call_tupleF (by rfl) T.z_tuple (by decide +kernel) (pa_cons (pe_lc (own := [("_law_kid", 2)]) (by rfl) sc_wood_ofL.nd (pi_seq (pe_dget (hu_of hr) (pv 0) (pv 1) (fun _ _ => rfl))) (blkOk_by (own := [("_law_kid", 2)]) (N := n_wood_ofL) (sc := defScope s_wood_ofL) (by decide +kernel)) (fun _ _ _ _ _ => (pg_name (i := 2) sc_wood_ofL.nd rfl (Or.inl rfl))) (fun _ _ _ _ _ => pts_nil) (fun _ _ _ _ _ => (pe_tupF (pa_cons (pv 2) (pa_cons (pe_c c_wood_ofL hr (by first | exact Nat.le_refl _ | (show _ ≤ _ + n; omega)) (by rfl) (pa_cons (pv 0) (pa_cons (pv 2) pa_nil))) pa_nil))))) pa_nil))))
theorem ok_tall_woodL (T : Tx K mg) (c_drawL : Cal P w K mg base 1 "_law_draw" (spN (kw P w K) f_drawL 2)) (c_wood_ofL : Cal P w K mg base 151 "_law_wood_of" (spN (kw P w K) (f_wood_ofL 150) 2)) : Cal P w K mg base 152 "_law_tall_wood" (spN (kw P w K) f_tall_woodL 3) := by
  refine cal_of (t := t_tall_woodL (kw P w K)) T.d_tall_woodL (fun _ _ _ _ _ _ us hl => match us, hl with | [_, _, _], _ => rfl) sc_tall_woodL (fun vs H Q E h => h.1) (fun cdv f A outer s H E hr => ?_) (fun vs H Q E h => pure_of (N := n_tall_woodL) (m := m_tall_woodL) (fun B W => ss_tall_woodL) vs H Q E h.2)
  exact (pss_cons (ps_asg (pe_tupF (pa_cons (pe_disp (pps_cons pe_str (pe_lst pa_nil) pps_nil) (by rfl) (by rfl) (fun z => by cases z) (by decide)) (pa_cons (pe_disp (pps_cons pe_str pe_int pps_nil) (by rfl) (by rfl) (fun z => by cases z) (by decide)) pa_nil))) (pg_tup rfl (pgs_cons (pg_name (i := 3) sc_tall_woodL.nd rfl (Or.inl rfl)) (pgs_cons (pg_name (i := 4) sc_tall_woodL.nd rfl (Or.inr rfl)) pgs_nil))))
      (pss_cons (ps_set (i := 5) sc_tall_woodL.nd rfl (Or.inl rfl) pe_str)
      (pss_cons (ps_for PassesOwn.never rfl (pi_range1 (by rfl) T.z_range (pa_cons (pe_callB call_lenU (by rfl) T.z_len (by decide +kernel) (pa_cons (pv 1) pa_nil)) pa_nil)) (pg_name (i := 6) sc_tall_woodL.nd rfl (Or.inl rfl)) (pss_cons (ps_set (i := 7) sc_tall_woodL.nd rfl (Or.inl rfl) (pe_ix ix_seq (pv 1) (pv 6) (fun _ _ => rfl)))
      (pss_cons (ps_if (pt_cmpR op_ge (pv 6) (pv 2) (nomark _)) (pss_cons (ps_lkU (ps_lock (ps_setLc (i := 8) (own := [("_law_one", 10)]) (by rfl) sc_tall_woodL.nd rfl rfl (sw_true rfl rfl rfl (by decide +kernel)) (pi_keysM (pv 3)) (blkOk_by (own := [("_law_one", 10)]) (N := n_tall_woodL) (sc := defScope s_tall_woodL) (by decide +kernel)) (fun _ _ _ _ _ => (pg_name (i := 10) sc_tall_woodL.nd rfl (Or.inl rfl))) (fun _ _ _ _ _ => (pts_one (pt_cmpR op_ltU (pe_dget (hu_of hr) (pv 4) (pv 10) (fun _ _ => rfl)) (pv 2) (nomark _)))) (fun _ _ _ _ _ => (pv 10)))) (ps_setLc (i := 8) (own := [("_law_one", 10)]) (by rfl) sc_tall_woodL.nd rfl rfl (sw_true rfl rfl rfl (by decide +kernel)) (pi_keysM (pv 3)) (blkOk_by (own := [("_law_one", 10)]) (N := n_tall_woodL) (sc := defScope s_tall_woodL) (by decide +kernel)) (fun _ _ _ _ _ => (pg_name (i := 10) sc_tall_woodL.nd rfl (Or.inl rfl))) (fun _ _ _ _ _ => (pts_one (pt_cmpR op_ltU (pe_dget (hu_of hr) (pv 4) (pv 10) (fun _ _ => rfl)) (pv 2) (nomark _)))) (fun _ _ _ _ _ => (pv 10))))
      (pss_one (ps_set (i := 5) sc_tall_woodL.nd rfl (Or.inl rfl) (pe_ix ix_seq (pv 8) (pe_c c_drawL hr (by decide) (by rfl) (pa_cons (pv 0) (pa_cons (pe_callB call_lenU (by rfl) T.z_len (by decide +kernel) (pa_cons (pv 8) pa_nil)) pa_nil))) (fun _ _ => rfl))))) pss_nil)
      (pss_cons (ps_set (i := 9) sc_tall_woodL.nd rfl (Or.inl rfl) (pe_dget (hu_of hr) (pv 3) (pv 5) (fun _ _ => rfl)))
      (pss_cons (ps_expr (pe_bm PySem.F.plainAttrs_list PySem.F.slot_list_insert PySem.F.type_list_insert mt_insert (pv 9) (pa_cons (pe_c c_drawL hr (by decide) (by rfl) (pa_cons (pv 0) (pa_cons (pe_op op_addU (pe_callB call_lenU (by rfl) T.z_len (by decide +kernel) (pa_cons (pv 9) pa_nil)) pe_int) pa_nil))) (pa_cons (pv 7) pa_nil))))
      (pss_cons (ps_dput (hu_of hr) (pv 3) (pv 7) (pe_lst pa_nil) rfl)
      (pss_cons (ps_dput (hu_of hr) (pv 4) (pv 7) (pe_op op_addU (pe_dget (hu_of hr) (pv 4) (pv 5) (fun _ _ => rfl)) pe_int) rfl)
      (pss_one (ps_set (i := 5) sc_tall_woodL.nd rfl (Or.inl rfl) (pv 7))))))))))
      (pss_one (ps_ret (pe_c c_wood_ofL hr (by decide) (by rfl) (pa_cons (pv 3) (pa_cons pe_str pa_nil))))))))
theorem ok_great_woodL (T : Tx K mg) (c_drawL : Cal P w K mg base 1 "_law_draw" (spN (kw P w K) f_drawL 2)) (c_namesL : Cal P w K mg base 3 "_law_names" (spN (kw P w K) f_namesL 2)) (c_tall_woodL : Cal P w K mg base 152 "_law_tall_wood" (spN (kw P w K) f_tall_woodL 3)) : Cal P w K mg base 153 "_law_great_wood" (spN (kw P w K) f_great_woodL 1) := by
  refine cal_of (t := t_great_woodL (kw P w K)) T.d_great_woodL (fun _ _ _ _ _ _ us hl => match us, hl with | [_], _ => rfl) sc_great_woodL (fun vs H Q E h => h.1) (fun cdv f A outer s H E hr => ?_) (fun vs H Q E h => pure_of (N := n_great_woodL) (m := m_great_woodL) (fun B W => ss_great_woodL) vs H Q E h.2)
  exact (pss_cons (ps_set (i := 1) sc_great_woodL.nd rfl (Or.inl rfl) (pe_op op_addU pe_int (pe_c c_drawL hr (by decide) (by rfl) (pa_cons (pv 0) (pa_cons pe_int pa_nil)))))
      (pss_one (ps_ret (pe_c c_tall_woodL hr (by decide) (by rfl) (pa_cons (pv 0) (pa_cons (pe_c c_namesL hr (by decide) (by rfl) (pa_cons (pv 0) (pa_cons (pe_op op_addU pe_int (pe_c c_drawL hr (by decide) (by rfl) (pa_cons (pv 0) (pa_cons pe_int pa_nil)))) pa_nil))) (pa_cons (pv 1) pa_nil)))))))
theorem ok_kidsL (T : Tx K mg) : Cal P w K mg base 1 "_law_kids" (spN (kw P w K) f_kidsL 1) := by
  refine cal_of (t := t_kidsL (kw P w K)) T.d_kidsL (fun _ _ _ _ _ _ us hl => match us, hl with | [_], _ => rfl) sc_kidsL (fun vs H Q E h => h.1) (fun cdv f A outer s H E hr => ?_) (fun vs H Q E h => pure_of (N := n_kidsL) (m := m_kidsL) (fun B W => ss_kidsL) vs H Q E h.2)
  exact (pss_cons (ps_set (i := 1) sc_kidsL.nd rfl (Or.inl rfl) (pe_disp (pps_cons pe_str (pe_lc (own := [("_law_tree", 5)]) (by rfl) sc_kidsL.nd (pi_seq (pv 0)) (blkOk_by (own := [("_law_tree", 5)]) (N := n_kidsL) (sc := defScope s_kidsL) (by decide +kernel)) (fun _ _ _ _ _ => (pg_name (i := 5) sc_kidsL.nd rfl (Or.inl rfl))) (fun _ _ _ _ _ => pts_nil) (fun _ _ _ _ _ => (pe_ix ix_seq (pv 5) pe_int (fun _ _ => rfl)))) pps_nil) (by rfl) (by rfl) (fun z => by cases z) (by decide)))
      (pss_cons (ps_set (i := 2) sc_kidsL.nd rfl (Or.inl rfl) (pe_callTy call_list_of (by rfl) T.z_list (by decide +kernel) (pa_cons (pv 0) pa_nil)))
      (pss_cons (ps_while PassesOwn.never (pt_cmpR (op_neU hr) (pv 2) (pe_lst pa_nil) (nomark _)) (pss_cons (ps_asg (pe_bm0 PySem.F.plainAttrs_list PySem.F.slot_list_pop PySem.F.type_list_pop mt_pop (pv 2)) (pg_tup rfl (pgs_cons (pg_name (i := 3) sc_kidsL.nd rfl (Or.inl rfl)) (pgs_cons (pg_name (i := 4) sc_kidsL.nd rfl (Or.inl rfl)) pgs_nil))))
      (pss_cons (ps_dput (hu_of hr) (pv 1) (pv 3) (pe_lc (own := [("_law_tree", 5)]) (by rfl) sc_kidsL.nd (pi_seq (pv 4)) (blkOk_by (own := [("_law_tree", 5)]) (N := n_kidsL) (sc := defScope s_kidsL) (by decide +kernel)) (fun _ _ _ _ _ => (pg_name (i := 5) sc_kidsL.nd rfl (Or.inl rfl))) (fun _ _ _ _ _ => pts_nil) (fun _ _ _ _ _ => (pe_ix ix_seq (pv 5) pe_int (fun _ _ => rfl)))) rfl)
      (pss_one (ps_expr (pe_bm PySem.F.plainAttrs_list PySem.F.slot_list_extend PySem.F.type_list_extend mt_extU (pv 2) (pa_cons (pv 4) pa_nil)))))))
      (pss_one (ps_ret (pv 1))))))
theorem ok_pickL (T : Tx K mg) (c_drawL : Cal P w K mg base 1 "_law_draw" (spN (kw P w K) f_drawL 2)) : Cal P w K mg base 2 "_law_pick" (spN (kw P w K) f_pickL 2) := by
  refine cal_of (t := t_pickL (kw P w K)) T.d_pickL (fun _ _ _ _ _ _ us hl => match us, hl with | [_, _], _ => rfl) sc_pickL (fun vs H Q E h => h.1) (fun cdv f A outer s H E hr => ?_) (fun vs H Q E h => pure_of (N := n_pickL) (m := m_pickL) (fun B W => ss_pickL) vs H Q E h.2)
  exact (pss_one (ps_ret (pe_ix ix_seq (pv 1) (pe_c c_drawL hr (by decide) (by rfl) (pa_cons (pv 0) (pa_cons (pe_callB call_lenU (by rfl) T.z_len (by decide +kernel) (pa_cons (pv 1) pa_nil)) pa_nil))) (fun _ _ => rfl))))
theorem ok_oddL (T : Tx K mg) (c_pickL : Cal P w K mg base 2 "_law_pick" (spN (kw P w K) f_pickL 2)) : Cal P w K mg base 3 "_law_odd" (spN (kw P w K) f_oddL 1) := by
  refine cal_of (t := t_oddL (kw P w K)) T.d_oddL (fun _ _ _ _ _ _ us hl => match us, hl with | [_], _ => rfl) sc_oddL (fun vs H Q E h => h.1) (fun cdv f A outer s H E hr => ?_) (fun vs H Q E h => pure_of (N := n_oddL) (m := m_oddL) (fun B W => ss_oddL) vs H Q E h.2)
  exact (pss_cons (ps_set (i := 1) sc_oddL.nd rfl (Or.inl rfl) (pe_lst (pa_cons pe_non (pa_cons pe_bl (pa_cons pe_bl (pa_cons pe_int (pa_cons pe_int (pa_cons (pe_op op_sub pe_int pe_int) (pa_cons (pe_op op_pow pe_int pe_int) (pa_cons pe_str (pa_cons pe_str (pa_cons pe_str (pa_cons pe_str (pa_cons pe_str (pa_cons pe_str (pa_cons pe_str (pa_cons pe_str pa_nil)))))))))))))))))
      (pss_cons (ps_set (i := 1) sc_oddL.nd rfl (Or.inl rfl) (pe_op op_addU (pv 1) (pe_lst (pa_cons pe_str (pa_cons pe_str (pa_cons pe_str (pa_cons pe_str (pa_cons (pe_lst (pa_cons pe_str (pa_cons (pe_tupF pa_nil) pa_nil))) (pa_cons (pe_disp (pps_cons pe_str pe_int (pps_cons pe_str pe_int pps_nil)) (by rfl) (by rfl) (fun z => by cases z) (by decide)) pa_nil)))))))))
      (pss_cons (ps_set (i := 1) sc_oddL.nd rfl (Or.inl rfl) (pe_op op_addU (pv 1) (pe_lst (pa_cons (pe_tupF (pa_cons pe_str pa_nil)) (pa_cons (pe_tupF (pa_cons pe_str (pa_cons (pe_tupF pa_nil) pa_nil))) (pa_cons (pe_lst (pa_cons pe_str pa_nil)) (pa_cons (pe_lst pa_nil) (pa_cons pe_dnewK (pa_cons (pe_disp (pps_cons pe_str pe_int pps_nil) (by rfl) (by rfl) (fun z => by cases z) (by decide)) (pa_cons (pe_tupF pa_nil) (pa_cons (pe_tupF (pa_cons (pe_tupF pa_nil) (pa_cons (pe_tupF pa_nil) pa_nil))) (pa_cons (pe_tupF (pa_cons (pe_tupF (pa_cons pe_str (pa_cons (pe_tupF pa_nil) pa_nil))) pa_nil)) (pa_cons pe_str pa_nil)))))))))))))
      (pss_one (ps_ret (pe_c c_pickL hr (by decide) (by rfl) (pa_cons (pv 0) (pa_cons (pv 1) pa_nil))))))))
theorem ok_odd_woodL (T : Tx K mg) : ∀ n : Nat, Cal P w K mg base (1 + n) "_law_odd_wood" (spN (kw P w K) (f_odd_woodL n) 3)
  | 0 => cal_false (ps := ["_law_kids_here", "_law_name_here", "_law_odd_here"]) T.d_odd_woodL (fun _ _ _ _ _ _ us hl => match us, hl with | [_, _, _], _ => rfl) (fun vs H Q E h => spN_bad vs H Q E h)
  | n + 1 => by
    have c_odd_woodL := ok_odd_woodL T n
    refine cal_of (t := t_odd_woodL (f_odd_woodL n) (kw P w K)) T.d_odd_woodL (fun _ _ _ _ _ _ us hl => match us, hl with | [_, _, _], _ => rfl) sc_odd_woodL (fun vs H Q E h => h.1) (fun cdv f A outer s H E hr => ?_) (fun vs H Q E h => pure_of (N := n_odd_woodL) (m := m_odd_woodL (f_odd_woodL n)) (fun B W => ss_odd_woodL (f_odd_woodL n)) vs H Q E h.2)
    exact (pss_cons (ps_if (pt_cmp (pc_tin (hu_of hr) (pe_tupF (pa_cons pe_str (pa_cons (pv 1) pa_nil))) (pv 2)) rfl) (pss_one (ps_ret (pe_tget (hu_of hr) (pv 2) (pe_tupF (pa_cons pe_str (pa_cons (pv 1) pa_nil))) (fun _ _ => rfl)))) pss_nil)
      (pss_cons (ps_set (i := 3) sc_odd_woodL.nd rfl (Or.inl rfl) (pe_lst pa_nil))
      (pss_cons (ps_for PassesOwn.never rfl (pi_seq (pe_dget (hu_of hr) (pv 0) (pv 1) (fun _ _ => rfl))) (pg_name (i := 4) sc_odd_woodL.nd rfl (Or.inl rfl)) (pss_cons (ps_set (i := 5) sc_odd_woodL.nd rfl (Or.inl rfl) (pe_tupF (pa_cons (pe_tget2 (hu_of hr) (pv 2) (pe_tupF (pa_cons pe_str (pa_cons (pv 4) pa_nil))) (pv 4) ⟨rfl, rfl, rfl, rfl⟩) (pa_cons (pe_c c_odd_woodL hr (by first | exact Nat.le_refl _ | (show _ ≤ _ + n; omega)) (by rfl) (pa_cons (pv 0) (pa_cons (pv 4) (pa_cons (pv 2) pa_nil)))) pa_nil))))
      (pss_one (ps_expr (pe_bm PySem.F.plainAttrs_list PySem.F.slot_list_append PySem.F.type_list_append mt_append (pv 3) (pa_cons (pe_tget2 (hu_of hr) (pv 2) (pe_tupF (pa_cons pe_str (pa_cons (pv 4) pa_nil))) (pv 5) ⟨rfl, rfl, rfl, rfl⟩) pa_nil))))))
      (pss_one (ps_ret (pe_callTy call_tupleF (by rfl) T.z_tuple (by decide +kernel) (pa_cons (pv 3) pa_nil)))))))
theorem ok_woodL (T : Tx K mg) (c_drawL : Cal P w K mg base 1 "_law_draw" (spN (kw P w K) f_drawL 2)) (c_wood_ofL : Cal P w K mg base 151 "_law_wood_of" (spN (kw P w K) (f_wood_ofL 150) 2)) : Cal P w K mg base 152 "_law_wood" (spN (kw P w K) f_woodL 2) := by
  refine cal_of (t := t_woodL (kw P w K)) T.d_woodL (fun _ _ _ _ _ _ us hl => match us, hl with | [_, _], _ => rfl) sc_woodL (fun vs H Q E h => h.1) (fun cdv f A outer s H E hr => ?_) (fun vs H Q E h => pure_of (N := n_woodL) (m := m_woodL) (fun B W => ss_woodL) vs H Q E h.2)
  exact (pss_cons (ps_set (i := 2) sc_woodL.nd rfl (Or.inl rfl) (pe_disp (pps_cons pe_str (pe_lst pa_nil) pps_nil) (by rfl) (by rfl) (fun z => by cases z) (by decide)))
      (pss_cons (ps_for PassesOwn.never rfl (pi_seq (pv 1)) (pg_name (i := 3) sc_woodL.nd rfl (Or.inl rfl)) (pss_cons (ps_set (i := 4) sc_woodL.nd rfl (Or.inl rfl) (pe_ix ix_seq (pe_listKeys rfl (pv 2) (by rfl) T.z_list (by decide +kernel)) (pe_c c_drawL hr (by decide) (by rfl) (pa_cons (pv 0) (pa_cons (pe_callB call_lenU (by rfl) T.z_len (by decide +kernel) (pa_cons (pv 2) pa_nil)) pa_nil))) (fun _ _ => rfl)))
      (pss_cons (ps_set (i := 5) sc_woodL.nd rfl (Or.inl rfl) (pe_c c_drawL hr (by decide) (by rfl) (pa_cons (pv 0) (pa_cons (pe_op op_addU (pe_callB call_lenU (by rfl) T.z_len (by decide +kernel) (pa_cons (pe_dget (hu_of hr) (pv 2) (pv 4) (fun _ _ => rfl)) pa_nil)) pe_int) pa_nil))))
      (pss_cons (ps_set (i := 6) sc_woodL.nd rfl (Or.inl rfl) (pe_dget (hu_of hr) (pv 2) (pv 4) (fun _ _ => rfl)))
      (pss_cons (ps_set (i := 7) sc_woodL.nd rfl (Or.inl rfl) (pe_op op_mulU (pe_op op_fdiv (pe_c c_drawL hr (by decide) (by rfl) (pa_cons (pv 0) (pa_cons pe_int pa_nil))) pe_int) (pe_c c_drawL hr (by decide) (by rfl) (pa_cons (pv 0) (pa_cons (pe_op op_addU (pe_op op_sub (pe_callB call_lenU (by rfl) T.z_len (by decide +kernel) (pa_cons (pv 6) pa_nil)) (pv 5)) pe_int) pa_nil)))))
      (pss_cons (ps_dput (hu_of hr) (pv 2) (pv 3) (pe_slice sl_U (pv 6) (po_some (pv 5)) (po_some (pe_op op_addU (pv 5) (pv 7)))) rfl)
      (pss_one (ps_dput (hu_of hr) (pv 2) (pv 4) (pe_op op_addU (pe_op op_addU (pe_slice sl_U (pv 6) po_none (po_some (pv 5))) (pe_lst (pa_cons (pv 3) pa_nil))) (pe_slice sl_U (pv 6) (po_some (pe_op op_addU (pv 5) (pv 7))) po_none)) rfl))))))))
      (pss_one (ps_ret (pe_c c_wood_ofL hr (by decide) (by rfl) (pa_cons (pv 2) (pa_cons pe_str pa_nil)))))))
theorem ok_wood_and_namesL (T : Tx K mg) (c_drawL : Cal P w K mg base 1 "_law_draw" (spN (kw P w K) f_drawL 2)) (c_namesL : Cal P w K mg base 3 "_law_names" (spN (kw P w K) f_namesL 2)) (c_tall_woodL : Cal P w K mg base 152 "_law_tall_wood" (spN (kw P w K) f_tall_woodL 3)) (c_woodL : Cal P w K mg base 152 "_law_wood" (spN (kw P w K) f_woodL 2)) : Cal P w K mg base 153 "_law_wood_and_names" (spN (kw P w K) f_wood_and_namesL 2) := by
  refine cal_of (t := t_wood_and_namesL (kw P w K)) T.d_wood_and_namesL (fun _ _ _ _ _ _ us hl => match us, hl with | [_, _], _ => rfl) sc_wood_and_namesL (fun vs H Q E h => h.1) (fun cdv f A outer s H E hr => ?_) (fun vs H Q E h => pure_of (N := n_wood_and_namesL) (m := m_wood_and_namesL) (fun B W => ss_wood_and_namesL) vs H Q E h.2)
  exact (pss_cons (ps_if (pt_cmpR (op_eqU hr) (pe_c c_drawL hr (by decide) (by rfl) (pa_cons (pv 0) (pa_cons pe_int pa_nil))) pe_int (nomark _)) (pss_cons (ps_set (i := 2) sc_wood_and_namesL.nd rfl (Or.inl rfl) (pe_op op_addU pe_int (pe_c c_drawL hr (by decide) (by rfl) (pa_cons (pv 0) (pa_cons pe_int pa_nil)))))
      (pss_cons (ps_set (i := 3) sc_wood_and_namesL.nd rfl (Or.inl rfl) (pe_op op_addU (pv 2) (pe_c c_drawL hr (by decide) (by rfl) (pa_cons (pv 0) (pa_cons (pe_op op_sub pe_int (pv 2)) pa_nil)))))
      (pss_cons (ps_set (i := 4) sc_wood_and_namesL.nd rfl (Or.inl rfl) (pe_c c_namesL hr (by decide) (by rfl) (pa_cons (pv 0) (pa_cons (pe_op op_addU (pv 3) (pv 1)) pa_nil))))
      (pss_one (ps_ret (pe_lst (pa_cons (pe_c c_tall_woodL hr (by decide) (by rfl) (pa_cons (pv 0) (pa_cons (pe_slice sl_U (pv 4) po_none (po_some (pv 3))) (pa_cons (pv 2) pa_nil)))) (pa_cons (pe_slice sl_U (pv 4) (po_some (pv 3)) po_none) pa_nil)))))))) pss_nil)
      (pss_cons (ps_set (i := 3) sc_wood_and_namesL.nd rfl (Or.inl rfl) (pe_c c_drawL hr (by decide) (by rfl) (pa_cons (pv 0) (pa_cons pe_int pa_nil))))
      (pss_cons (ps_set (i := 4) sc_wood_and_namesL.nd rfl (Or.inl rfl) (pe_c c_namesL hr (by decide) (by rfl) (pa_cons (pv 0) (pa_cons (pe_op op_addU (pv 3) (pv 1)) pa_nil))))
      (pss_one (ps_ret (pe_lst (pa_cons (pe_c c_woodL hr (by decide) (by rfl) (pa_cons (pv 0) (pa_cons (pe_slice sl_U (pv 4) po_none (po_some (pv 3))) pa_nil))) (pa_cons (pe_slice sl_U (pv 4) (po_some (pv 3)) po_none) pa_nil))))))))
theorem ok_some_woodL (T : Tx K mg) (c_wood_and_namesL : Cal P w K mg base 153 "_law_wood_and_names" (spN (kw P w K) f_wood_and_namesL 2)) : Cal P w K mg base 154 "_law_some_wood" (spN (kw P w K) f_some_woodL 1) := by
  refine cal_of (t := t_some_woodL (kw P w K)) T.d_some_woodL (fun _ _ _ _ _ _ us hl => match us, hl with | [_], _ => rfl) sc_some_woodL (fun vs H Q E h => h.1) (fun cdv f A outer s H E hr => ?_) (fun vs H Q E h => pure_of (N := n_some_woodL) (m := m_some_woodL) (fun B W => ss_some_woodL) vs H Q E h.2)
  exact (pss_one (ps_ret (pe_ix ix_seq (pe_c c_wood_and_namesL hr (by decide) (by rfl) (pa_cons (pv 0) (pa_cons pe_int pa_nil))) pe_int (fun _ _ => rfl))))
theorem ok_is_nameL (T : Tx K mg) : Cal P w K mg base 1 "_law_is_name" (spN (kw P w K) f_is_nameL 1) := by
  refine cal_of (t := t_is_nameL (kw P w K)) T.d_is_nameL (fun _ _ _ _ _ _ us hl => match us, hl with | [_], _ => rfl) sc_is_nameL (fun vs H Q E h => h.1) (fun cdv f A outer s H E hr => ?_) (fun vs H Q E h => pure_of (N := n_is_nameL) (m := m_is_nameL) (fun B W => ss_is_nameL) vs H Q E h.2)
  exact (pss_cons (ps_if (PW.pt (pw_or (pt_not (pt_val (pe_callB call_isi (by rfl) T.z_isinstance (by decide +kernel) (pa_cons (pv 0) (pa_cons (pe_bltn (by rfl) T.z_str (by decide +kernel) rfl) pa_nil))))) (pw_or (pt_cmpR (op_eqU hr) (pv 0) pe_str (nomark _)) (pw_or1 (pt_cmpR op_gt (pe_callB call_lenU (by rfl) T.z_len (by decide +kernel) (pa_cons (pv 0) pa_nil)) pe_int (nomark _)))))) (pss_one (ps_ret pe_bl)) pss_nil)
      (pss_one (ps_ret (pe_cmpR (op_eqU hr) (pe_lc (own := [("_law_sign", 1)]) (by rfl) sc_is_nameL.nd (pi_seq (pv 0)) (blkOk_by (own := [("_law_sign", 1)]) (N := n_is_nameL) (sc := defScope s_is_nameL) (by decide +kernel)) (fun _ _ _ _ _ => (pg_name (i := 1) sc_is_nameL.nd rfl (Or.inl rfl))) (fun _ _ _ _ _ => (pts_one (pt_cmpR (op_notInU hr) (pv 1) pe_str rfl))) (fun _ _ _ _ _ => (pv 1))) (pe_lst pa_nil) (nomark _)))))
theorem ok_reasonL (T : Tx K mg) (c_is_nameL : Cal P w K mg base 1 "_law_is_name" (spN (kw P w K) f_is_nameL 1)) : ∀ n : Nat, Cal P w K mg base (1 + n) "_law_reason" (spN (kw P w K) (f_reasonL n) 4)
  | 0 => cal_false (ps := ["_law_value", "_law_seen", "_law_deep", "_law_deepest"]) T.d_reasonL (fun _ _ _ _ _ _ us hl => match us, hl with | [_, _, _, _], _ => rfl) (fun vs H Q E h => spN_bad vs H Q E h)
  | n + 1 => by
    have c_reasonL := ok_reasonL T c_is_nameL n
    refine cal_of (t := t_reasonL (f_reasonL n) (kw P w K)) T.d_reasonL (fun _ _ _ _ _ _ us hl => match us, hl with | [_, _, _, _], _ => rfl) sc_reasonL (fun vs H Q E h => h.1) (fun cdv f A outer s H E hr => ?_) (fun vs H Q E h => pure_of (N := n_reasonL) (m := m_reasonL (f_reasonL n)) (fun B W => ss_reasonL (f_reasonL n)) vs H Q E h.2)
    exact (pss_cons (ps_if (pt_not (pt_val (pe_callB call_isi (by rfl) T.z_isinstance (by decide +kernel) (pa_cons (pv 0) (pa_cons (pe_bltn (by rfl) T.z_tuple (by decide +kernel) rfl) pa_nil))))) (pss_one (ps_ret pe_str)) pss_nil)
      (pss_cons (ps_for PassesOwn.never rfl (pi_seq (pv 0)) (pg_name (i := 4) sc_reasonL.nd rfl (Or.inl rfl)) (pss_cons (ps_if (PW.pt (pw_or (pt_not (pt_val (pe_callB call_isi (by rfl) T.z_isinstance (by decide +kernel) (pa_cons (pv 4) (pa_cons (pe_bltn (by rfl) T.z_tuple (by decide +kernel) rfl) pa_nil))))) (pw_or1 (pt_cmpR (op_neU hr) (pe_callB call_lenU (by rfl) T.z_len (by decide +kernel) (pa_cons (pv 4) pa_nil)) pe_int (nomark _))))) (pss_one (ps_ret pe_str)) pss_nil)
      (pss_cons (ps_if (pt_not (pt_val (pe_c c_is_nameL hr (by first | exact Nat.le_refl _ | (show _ ≤ _ + n; omega)) (by rfl) (pa_cons (pe_ix ix_seq (pv 4) pe_int (fun _ _ => rfl)) pa_nil)))) (pss_one (ps_ret pe_str)) pss_nil)
      (pss_cons (ps_if (pt_cmpR (op_inU hr) (pe_ix ix_seq (pv 4) pe_int (fun _ _ => rfl)) (pv 1) rfl) (pss_one (ps_ret pe_str)) pss_nil)
      (pss_cons (ps_expr (pe_bm PySem.F.plainAttrs_list PySem.F.slot_list_append PySem.F.type_list_append mt_append (pv 1) (pa_cons (pe_ix ix_seq (pv 4) pe_int (fun _ _ => rfl)) pa_nil)))
      (pss_cons (ps_asg (pe_callB (call_max2 rfl) (by rfl) T.z_max (by decide +kernel) (pa_cons (pe_ix ix_seq (pv 3) pe_int (fun _ _ => rfl)) (pa_cons (pe_op op_addU (pv 2) pe_int) pa_nil))) (pg_sub (pv 3) pe_int set_list))
      (pss_cons (ps_set (i := 5) sc_reasonL.nd rfl (Or.inl rfl) (pe_c c_reasonL hr (by first | exact Nat.le_refl _ | (show _ ≤ _ + n; omega)) (by rfl) (pa_cons (pe_ix ix_seq (pv 4) pe_int (fun _ _ => rfl)) (pa_cons (pv 1) (pa_cons (pe_op op_addU (pv 2) pe_int) (pa_cons (pv 3) pa_nil))))))
      (pss_one (ps_if (pt_cmpR op_notN1 (pv 5) pe_non (nomark _)) (pss_one (ps_ret (pv 5))) pss_nil)))))))))
      (pss_one (ps_ret pe_non))))
theorem ok_wood_errorL (T : Tx K mg) (c_reasonL : Cal P w K mg base 61 "_law_reason" (spN (kw P w K) (f_reasonL 60) 4)) : Cal P w K mg base 62 "_law_wood_error" (spN (kw P w K) f_wood_errorL 1) := by
  refine cal_of (t := t_wood_errorL (kw P w K)) T.d_wood_errorL (fun _ _ _ _ _ _ us hl => match us, hl with | [_], _ => rfl) sc_wood_errorL (fun vs H Q E h => h.1) (fun cdv f A outer s H E hr => ?_) (fun vs H Q E h => pure_of (N := n_wood_errorL) (m := m_wood_errorL) (fun B W => ss_wood_errorL) vs H Q E h.2)
  exact (pss_cons (ps_par (by rfl) sc_wood_errorL.nd rfl rfl (by decide) rfl rfl (pa_cons (pe_lst pa_nil) (pa_cons (pe_lst (pa_cons pe_int pa_nil)) pa_nil)) (by rfl))
      (pss_cons (ps_set (i := 3) sc_wood_errorL.nd rfl (Or.inl rfl) (pe_c c_reasonL hr (by decide) (by rfl) (pa_cons (pv 0) (pa_cons (pv 1) (pa_cons pe_int (pa_cons (pv 2) pa_nil))))))
      (pss_cons (ps_if (pt_cmpR op_notN1 (pv 3) pe_non (nomark _)) (pss_one (ps_ret (pv 3))) pss_nil)
      (pss_cons (ps_if (pt_cmpR op_gt (pe_callB call_lenU (by rfl) T.z_len (by decide +kernel) (pa_cons (pv 1) pa_nil)) pe_int (nomark _)) (pss_one (ps_ret pe_str)) pss_nil)
      (pss_one (ps_ret (pe_ifExp (pt_cmpR op_gt (pe_ix ix_seq (pv 2) pe_int (fun _ _ => rfl)) pe_int (nomark _)) pe_str pe_non)))))))
theorem ok_is_name (T : Tx K mg) : Cal P w K mg base 1 "is_name" (spN (kw P w K) f_is_name 1) := by
  refine cal_of (t := t_is_name (kw P w K)) T.d_is_name (fun _ _ _ _ _ _ us hl => match us, hl with | [_], _ => rfl) sc_is_name (fun vs H Q E h => h.1) (fun cdv f A outer s H E hr => ?_) (fun vs H Q E h => pure_of (N := n_is_name) (m := m_is_name) (fun B W => ss_is_name) vs H Q E h.2)
  exact (pss_cons (ps_if (PW.pt (pw_or (pt_not (pt_val (pe_callB call_isi (by rfl) T.z_isinstance (by decide +kernel) (pa_cons (pv 0) (pa_cons (pe_bltn (by rfl) T.z_str (by decide +kernel) rfl) pa_nil))))) (pw_or1 (pt_not (pt_chain op_le op_le pe_int (pe_callB call_lenU (by rfl) T.z_len (by decide +kernel) (pa_cons (pv 0) pa_nil)) (pe_gc (by rfl) T.g_MAX_LETTERS)))))) (pss_one (ps_ret pe_bl)) pss_nil)
      (pss_one (ps_ret (pe_callB (cr_all rfl) (by rfl) T.z_all (by decide +kernel) (pa_cons (pe_lc (own := [("sign", 1)]) (by rfl) sc_is_name.nd (pi_seq (pv 0)) (blkOk_by (own := [("sign", 1)]) (N := n_is_name) (sc := defScope s_is_name) (by decide +kernel)) (fun _ _ _ _ _ => (pg_name (i := 1) sc_is_name.nd rfl (Or.inl rfl))) (fun _ _ _ _ _ => pts_nil) (fun _ _ _ _ _ => (pe_cmpR (op_inU hr) (pv 1) (pe_gc (by rfl) T.g_LETTERS) rfl))) pa_nil)))))
theorem ok_wood_error (T : Tx K mg) (c_is_name : Cal P w K mg base 1 "is_name" (spN (kw P w K) f_is_name 1)) : Cal P w K mg base 2 "wood_error" (spN (kw P w K) f_wood_error 1) := by
  refine cal_of (t := t_wood_error (kw P w K)) T.d_wood_error (fun _ _ _ _ _ _ us hl => match us, hl with | [_], _ => rfl) sc_wood_error (fun vs H Q E h => h.1) (fun cdv f A outer s H E hr => ?_) (fun vs H Q E h => pure_of (N := n_wood_error) (m := m_wood_error) (fun B W => ss_wood_error) vs H Q E h.2)
  exact (pss_cons (ps_set (i := 1) sc_wood_error.nd rfl (Or.inl rfl) (pe_lst (pa_cons (pe_tupF (pa_cons pe_int (pa_cons pe_str (pa_cons (pv 0) pa_nil)))) pa_nil)))
      (pss_cons (ps_set (i := 2) sc_wood_error.nd rfl (Or.inl rfl) (pe_callTy0 cr_set0K (by rfl) T.z_set (by decide +kernel)))
      (pss_cons (ps_set (i := 3) sc_wood_error.nd rfl (Or.inl rfl) pe_int)
      (pss_cons (ps_while PassesOwn.never (pt_cmpR (op_neU hr) (pv 1) (pe_lst pa_nil) (nomark _)) (pss_cons (ps_asg (pe_bm0 PySem.F.plainAttrs_list PySem.F.slot_list_pop PySem.F.type_list_pop mt_pop (pv 1)) (pg_tup rfl (pgs_cons (pg_name (i := 4) sc_wood_error.nd rfl (Or.inr rfl)) (pgs_cons (pg_name (i := 5) sc_wood_error.nd rfl (Or.inl rfl)) (pgs_cons (pg_name (i := 6) sc_wood_error.nd rfl (Or.inl rfl)) pgs_nil)))))
      (pss_one (ps_if (pt_cmpR (op_eqU hr) (pv 5) pe_str (nomark _)) (pss_cons (ps_if (pt_not (pt_val (pe_callB call_isi (by rfl) T.z_isinstance (by decide +kernel) (pa_cons (pv 6) (pa_cons (pe_bltn (by rfl) T.z_tuple (by decide +kernel) rfl) pa_nil))))) (pss_one (ps_ret pe_str)) pss_nil)
      (pss_one (ps_expr (pe_bm PySem.F.plainAttrs_list PySem.F.slot_list_extend PySem.F.type_list_extend mt_extU (pv 1) (pa_cons (pe_lc (own := [("tree", 7)]) (by rfl) sc_wood_error.nd (pi_seq (pe_revF (pv 6))) (blkOk_by (own := [("tree", 7)]) (N := n_wood_error) (sc := defScope s_wood_error) (by decide +kernel)) (fun _ _ _ _ _ => (pg_name (i := 7) sc_wood_error.nd rfl (Or.inl rfl))) (fun _ _ _ _ _ => pts_nil) (fun _ _ _ _ _ => (pe_tupF (pa_cons (pe_op op_addU (pv 4) pe_int) (pa_cons pe_str (pa_cons (pv 7) pa_nil)))))) pa_nil))))) (pss_cons (ps_if (PW.pt (pw_or (pt_not (pt_val (pe_callB call_isi (by rfl) T.z_isinstance (by decide +kernel) (pa_cons (pv 6) (pa_cons (pe_bltn (by rfl) T.z_tuple (by decide +kernel) rfl) pa_nil))))) (pw_or1 (pt_cmpR (op_neU hr) (pe_callB call_lenU (by rfl) T.z_len (by decide +kernel) (pa_cons (pv 6) pa_nil)) pe_int (nomark _))))) (pss_one (ps_ret pe_str)) pss_nil)
      (pss_cons (ps_if (pt_not (pt_val (pe_c c_is_name hr (by decide) (by rfl) (pa_cons (pe_ix ix_seq (pv 6) pe_int (fun _ _ => rfl)) pa_nil)))) (pss_one (ps_ret pe_str)) pss_nil)
      (pss_cons (ps_if (pt_cmpR or_sinK (pe_ix ix_seq (pv 6) pe_int (fun _ _ => rfl)) (pv 2) rfl) (pss_one (ps_ret pe_str)) pss_nil)
      (pss_cons (ps_expr (pe_saddK (pv 2) (pa_cons (pe_ix ix_seq (pv 6) pe_int (fun _ _ => rfl)) pa_nil)))
      (pss_cons (ps_set (i := 3) sc_wood_error.nd rfl (Or.inl rfl) (pe_ifExp (pt_cmpR op_gt (pv 4) (pv 3) (nomark _)) (pv 4) (pv 3)))
      (pss_one (ps_expr (pe_bm PySem.F.plainAttrs_list PySem.F.slot_list_append PySem.F.type_list_append mt_append (pv 1) (pa_cons (pe_tupF (pa_cons (pv 4) (pa_cons pe_str (pa_cons (pe_ix ix_seq (pv 6) pe_int (fun _ _ => rfl)) pa_nil)))) pa_nil)))))))))))))
      (pss_cons (ps_if (pt_cmpR op_gt (pe_callB cr_lenSK (by rfl) T.z_len (by decide +kernel) (pa_cons (pv 2) pa_nil)) (pe_gc (by rfl) T.g_MAX_NAMES) (nomark _)) (pss_one (ps_ret pe_str)) pss_nil)
      (pss_one (ps_ret (pe_ifExp (pt_cmpR op_gt (pv 3) (pe_gc (by rfl) T.g_MAX_DEEP) (nomark _)) pe_str pe_non))))))))
theorem ok_law (T : Tx K mg) (c_deckL : Cal P w K mg base 1 "_law_deck" (spN (kw P w K) f_deckL 1)) (c_drawL : Cal P w K mg base 1 "_law_draw" (spN (kw P w K) f_drawL 2)) (c_great_woodL : Cal P w K mg base 153 "_law_great_wood" (spN (kw P w K) f_great_woodL 1)) (c_kidsL : Cal P w K mg base 1 "_law_kids" (spN (kw P w K) f_kidsL 1)) (c_oddL : Cal P w K mg base 3 "_law_odd" (spN (kw P w K) f_oddL 1)) (c_odd_woodL : Cal P w K mg base 61 "_law_odd_wood" (spN (kw P w K) (f_odd_woodL 60) 3)) (c_pickL : Cal P w K mg base 2 "_law_pick" (spN (kw P w K) f_pickL 2)) (c_some_woodL : Cal P w K mg base 154 "_law_some_wood" (spN (kw P w K) f_some_woodL 1)) (c_wood_errorL : Cal P w K mg base 62 "_law_wood_error" (spN (kw P w K) f_wood_errorL 1)) (c_wood_error : Cal P w K mg base 2 "wood_error" (spN (kw P w K) f_wood_error 1)) {f : Addr} {fd : FuncData} (F : FunD K "law" "law" (defArgs s_law) (defBody s_law) (defScope s_law) [] [] f fd) : FnG P w K mg base CX0 155 f fd ["_law_script"] (sp_law K) := by
  refine funD_okG F sc_law (fun vs H Q E h => ?_) (fun cdv A outer s H vs Q E hrG h => have hr := hrG.rm; ⟨t_law (kw P w K), PSs.nox ?_, pure_of (N := n_law) (m := m_law) (fun B W => ss_law) vs H Q E (law_pure law_true vs H Q E h)⟩)
  · obtain ⟨_, _, rfl, _⟩ := h; rfl
  · exact (pss_cons (ps_set (i := 1) sc_law.nd rfl (Or.inl rfl) (pe_c c_deckL hr (by decide) (by rfl) (pa_cons (pv 0) pa_nil)))
      (pss_cons (ps_set (i := 2) sc_law.nd rfl (Or.inl rfl) (pe_c c_drawL hr (by decide) (by rfl) (pa_cons (pv 1) (pa_cons pe_int pa_nil))))
      (pss_cons (ps_set (i := 3) sc_law.nd rfl (Or.inl rfl) (pe_ifExp (pt_cmpR (op_eqU hr) (pe_c c_drawL hr (by decide) (by rfl) (pa_cons (pv 1) (pa_cons pe_int pa_nil))) pe_int (nomark _)) (pe_c c_great_woodL hr (by decide) (by rfl) (pa_cons (pv 1) pa_nil)) (pe_c c_some_woodL hr (by decide) (by rfl) (pa_cons (pv 1) pa_nil))))
      (pss_cons (ps_set (i := 4) sc_law.nd rfl (Or.inl rfl) (pe_c c_kidsL hr (by decide) (by rfl) (pa_cons (pv 3) pa_nil)))
      (pss_cons (ps_set (i := 5) sc_law.nd rfl (Or.inl rfl) (pe_listKeys rfl (pv 4) (by rfl) T.z_list (by decide +kernel)))
      (pss_cons (ps_set (i := 6) sc_law.nd rfl (Or.inl rfl) pe_tnew)
      (pss_cons (ps_for PassesOwn.never rfl (pi_range1 (by rfl) T.z_range (pa_cons (pv 2) pa_nil)) (pg_name (i := 7) sc_law.nd rfl (Or.inl rfl)) (pss_cons (ps_set (i := 8) sc_law.nd rfl (Or.inl rfl) (pe_c c_pickL hr (by decide) (by rfl) (pa_cons (pv 1) (pa_cons (pe_lst (pa_cons pe_str (pa_cons pe_str (pa_cons pe_str pa_nil)))) pa_nil))))
      (pss_cons (ps_set (i := 9) sc_law.nd rfl (Or.inl rfl) (pe_c c_oddL hr (by decide) (by rfl) (pa_cons (pv 1) pa_nil)))
      (pss_cons (ps_if (pt_cmpR (op_eqU hr) (pe_c c_drawL hr (by decide) (by rfl) (pa_cons (pv 1) (pa_cons pe_int pa_nil))) pe_int (nomark _)) (pss_one (ps_set (i := 9) sc_law.nd rfl (Or.inl rfl) (pe_c c_pickL hr (by decide) (by rfl) (pa_cons (pv 1) (pa_cons (pv 5) pa_nil))))) pss_nil)
      (pss_one (ps_tput (hu_of hr) (pv 6) (pe_tupF (pa_cons (pv 8) (pa_cons (pe_c c_pickL hr (by decide) (by rfl) (pa_cons (pv 1) (pa_cons (pv 5) pa_nil))) pa_nil))) (pv 9) rfl))))))
      (pss_cons (ps_set (i := 10) sc_law.nd rfl (Or.inl rfl) (pe_c c_odd_woodL hr (by decide) (by rfl) (pa_cons (pv 4) (pa_cons pe_str (pa_cons (pv 6) pa_nil)))))
      (pss_cons (ps_if (pt_cmpR (op_neU hr) (pe_callB (call_reprP hrG) (by rfl) T.z_repr (by decide +kernel) (pa_cons (pe_lst (pa_cons (pe_gc (by rfl) T.g_MAX_NAMES) (pa_cons (pe_gc (by rfl) T.g_MAX_DEEP) pa_nil))) pa_nil)) (pe_callB (call_reprP hrG) (by rfl) T.z_repr (by decide +kernel) (pa_cons (pe_lst (pa_cons pe_int (pa_cons pe_int pa_nil))) pa_nil)) (nomark _)) (pss_one (ps_ret pe_bl)) pss_nil)
      (pss_cons (ps_set (i := 11) sc_law.nd rfl (Or.inl rfl) (pe_c c_wood_error hr (by decide) (by rfl) (pa_cons (pv 10) pa_nil)))
      (pss_cons (ps_set (i := 12) sc_law.nd rfl (Or.inl rfl) (pe_c c_wood_errorL hr (by decide) (by rfl) (pa_cons (pv 10) pa_nil)))
      (pss_cons (ps_if (pt_cmpR op_isN1 (pv 12) pe_non (nomark _)) (pss_one (ps_ret (pe_cmpR op_isN1 (pv 11) pe_non (nomark _)))) pss_nil)
      (pss_one (ps_ret (pe_cmpR (op_eqU hr) (pv 11) (pv 12) (nomark _))))))))))))))))
theorem ok_all (T : Tx K mg) {f : Addr} {fd : FuncData} (F : FunD K "law" "law" (defArgs s_law) (defBody s_law) (defScope s_law) [] [] f fd) : FnG P w K mg base CX0 155 f fd ["_law_script"] (sp_law K) := by
  have c_deckL := ok_deckL (P := P) (w := w) (base := base) T
  have c_drawL := ok_drawL (P := P) (w := w) (base := base) T
  have c_nameL := ok_nameL (P := P) (w := w) (base := base) T c_drawL
  have c_namesL := ok_namesL (P := P) (w := w) (base := base) T c_drawL c_nameL
  have c_wood_ofL := ok_wood_ofL (P := P) (w := w) (base := base) T 150
  have c_tall_woodL := ok_tall_woodL (P := P) (w := w) (base := base) T c_drawL c_wood_ofL
  have c_great_woodL := ok_great_woodL (P := P) (w := w) (base := base) T c_drawL c_namesL c_tall_woodL
  have c_kidsL := ok_kidsL (P := P) (w := w) (base := base) T
  have c_pickL := ok_pickL (P := P) (w := w) (base := base) T c_drawL
  have c_oddL := ok_oddL (P := P) (w := w) (base := base) T c_pickL
  have c_odd_woodL := ok_odd_woodL (P := P) (w := w) (base := base) T 60
  have c_woodL := ok_woodL (P := P) (w := w) (base := base) T c_drawL c_wood_ofL
  have c_wood_and_namesL := ok_wood_and_namesL (P := P) (w := w) (base := base) T c_drawL c_namesL c_tall_woodL c_woodL
  have c_some_woodL := ok_some_woodL (P := P) (w := w) (base := base) T c_wood_and_namesL
  have c_is_nameL := ok_is_nameL (P := P) (w := w) (base := base) T
  have c_reasonL := ok_reasonL (P := P) (w := w) (base := base) T c_is_nameL 60
  have c_wood_errorL := ok_wood_errorL (P := P) (w := w) (base := base) T c_reasonL
  have c_is_name := ok_is_name (P := P) (w := w) (base := base) T
  have c_wood_error := ok_wood_error (P := P) (w := w) (base := base) T c_is_name
  exact ok_law T c_deckL c_drawL c_great_woodL c_kidsL c_oddL c_odd_woodL c_pickL c_some_woodL c_wood_errorL c_wood_error F
end
/-! ### the head -/
theorem obD_eq (s : PySem.W.SharedT) : obD s = hkD.obs s.abs := obsXG_eq (HandSHeadRun.getT_eq s)
theorem facts {P : Program} {w : World} {K : PySem.W.Frag} {h : Heap} {mg : Str → Option Value} {f : Addr} (X : K.In h) (G : h.Ns mainGlobals mg) (hfa : mg ("law" : Str) = some (.ref f)) (c : SaysX chkD faD fnD K) :
    ∃ fd : FuncData, (∀ (s : Shared) (v : Value), BindsTo s fd ⟨[v], []⟩ [("_law_script", v)]) ∧ ∀ base : Heap, K.In base → base.Ns mainGlobals mg → FnG P w K mg base CX0 155 f fd ["_law_script"] (sp_law K) := by
  obtain ⟨fd_deckL, F_deckL⟩ := c.d.def_ 0 (d := dd_deckL) rfl
  have g_deckL := He.glo_ok X G (c.d.fact 0 (f := .glo "_law_deck") rfl)
  obtain ⟨fd_drawL, F_drawL⟩ := c.d.def_ 1 (d := dd_drawL) rfl
  have g_drawL := He.glo_ok X G (c.d.fact 1 (f := .glo "_law_draw") rfl)
  obtain ⟨fd_nameL, F_nameL⟩ := c.d.def_ 2 (d := dd_nameL) rfl
  have g_nameL := He.glo_ok X G (c.d.fact 2 (f := .glo "_law_name") rfl)
  obtain ⟨fd_namesL, F_namesL⟩ := c.d.def_ 3 (d := dd_namesL) rfl
  have g_namesL := He.glo_ok X G (c.d.fact 3 (f := .glo "_law_names") rfl)
  obtain ⟨fd_wood_ofL, F_wood_ofL⟩ := c.d.def_ 4 (d := dd_wood_ofL) rfl
  have g_wood_ofL := He.glo_ok X G (c.d.fact 4 (f := .glo "_law_wood_of") rfl)
  obtain ⟨fd_tall_woodL, F_tall_woodL⟩ := c.d.def_ 5 (d := dd_tall_woodL) rfl
  have g_tall_woodL := He.glo_ok X G (c.d.fact 5 (f := .glo "_law_tall_wood") rfl)
  obtain ⟨fd_great_woodL, F_great_woodL⟩ := c.d.def_ 6 (d := dd_great_woodL) rfl
  have g_great_woodL := He.glo_ok X G (c.d.fact 6 (f := .glo "_law_great_wood") rfl)
  obtain ⟨fd_kidsL, F_kidsL⟩ := c.d.def_ 7 (d := dd_kidsL) rfl
  have g_kidsL := He.glo_ok X G (c.d.fact 7 (f := .glo "_law_kids") rfl)
  obtain ⟨fd_pickL, F_pickL⟩ := c.d.def_ 8 (d := dd_pickL) rfl
  have g_pickL := He.glo_ok X G (c.d.fact 8 (f := .glo "_law_pick") rfl)
  obtain ⟨fd_oddL, F_oddL⟩ := c.d.def_ 9 (d := dd_oddL) rfl
  have g_oddL := He.glo_ok X G (c.d.fact 9 (f := .glo "_law_odd") rfl)
  obtain ⟨fd_odd_woodL, F_odd_woodL⟩ := c.d.def_ 10 (d := dd_odd_woodL) rfl
  have g_odd_woodL := He.glo_ok X G (c.d.fact 10 (f := .glo "_law_odd_wood") rfl)
  obtain ⟨fd_woodL, F_woodL⟩ := c.d.def_ 11 (d := dd_woodL) rfl
  have g_woodL := He.glo_ok X G (c.d.fact 11 (f := .glo "_law_wood") rfl)
  obtain ⟨fd_wood_and_namesL, F_wood_and_namesL⟩ := c.d.def_ 12 (d := dd_wood_and_namesL) rfl
  have g_wood_and_namesL := He.glo_ok X G (c.d.fact 12 (f := .glo "_law_wood_and_names") rfl)
  obtain ⟨fd_some_woodL, F_some_woodL⟩ := c.d.def_ 13 (d := dd_some_woodL) rfl
  have g_some_woodL := He.glo_ok X G (c.d.fact 13 (f := .glo "_law_some_wood") rfl)
  obtain ⟨fd_is_nameL, F_is_nameL⟩ := c.d.def_ 14 (d := dd_is_nameL) rfl
  have g_is_nameL := He.glo_ok X G (c.d.fact 14 (f := .glo "_law_is_name") rfl)
  obtain ⟨fd_reasonL, F_reasonL⟩ := c.d.def_ 15 (d := dd_reasonL) rfl
  have g_reasonL := He.glo_ok X G (c.d.fact 15 (f := .glo "_law_reason") rfl)
  obtain ⟨fd_wood_errorL, F_wood_errorL⟩ := c.d.def_ 16 (d := dd_wood_errorL) rfl
  have g_wood_errorL := He.glo_ok X G (c.d.fact 16 (f := .glo "_law_wood_error") rfl)
  obtain ⟨fd_is_name, F_is_name⟩ := c.d.def_ 17 (d := dd_is_name) rfl
  have g_is_name := He.glo_ok X G (c.d.fact 17 (f := .glo "is_name") rfl)
  obtain ⟨fd_wood_error, F_wood_error⟩ := c.d.def_ 18 (d := dd_wood_error) rfl
  have g_wood_error := He.glo_ok X G (c.d.fact 18 (f := .glo "wood_error") rfl)
  obtain ⟨fd_law, F_law⟩ := c.d.def_ 19 (d := dd_law) rfl
  have g_law := He.glo_ok X G (c.d.fact 19 (f := .glo "law") rfl)
  have ck := c.test
  have T : Tx K mg := ⟨He.free_ok X G (c.d.fact 20 (f := .free "abs") rfl), He.free_ok X G (c.d.fact 21 (f := .free "all") rfl), He.free_ok X G (c.d.fact 22 (f := .free "int") rfl), He.free_ok X G (c.d.fact 23 (f := .free "isinstance") rfl), He.free_ok X G (c.d.fact 24 (f := .free "len") rfl), He.free_ok X G (c.d.fact 25 (f := .free "list") rfl), He.free_ok X G (c.d.fact 26 (f := .free "max") rfl), He.free_ok X G (c.d.fact 27 (f := .free "range") rfl), He.free_ok X G (c.d.fact 28 (f := .free "repr") rfl), He.free_ok X G (c.d.fact 29 (f := .free "set") rfl), He.free_ok X G (c.d.fact 30 (f := .free "str") rfl), He.free_ok X G (c.d.fact 31 (f := .free "tuple") rfl), (let ⟨t, e⟩ := He.str_ok X G (c.d.fact 32 (f := .str "LETTERS" "abcdefghijklmnopqrstuvwxyz") rfl); ⟨_, e, t, rfl⟩), (let ⟨t, e⟩ := He.int_ok X G (c.d.fact 33 (f := .int "MAX_DEEP" 40) rfl); ⟨_, e, t, rfl⟩), (let ⟨t, e⟩ := He.int_ok X G (c.d.fact 34 (f := .int "MAX_LETTERS" 8) rfl); ⟨_, e, t, rfl⟩), (let ⟨t, e⟩ := He.int_ok X G (c.d.fact 35 (f := .int "MAX_NAMES" 120) rfl); ⟨_, e, t, rfl⟩), ⟨_, _, F_deckL, g_deckL⟩, ⟨_, _, F_drawL, g_drawL⟩, ⟨_, _, F_nameL, g_nameL⟩, ⟨_, _, F_namesL, g_namesL⟩, ⟨_, _, F_wood_ofL, g_wood_ofL⟩, ⟨_, _, F_tall_woodL, g_tall_woodL⟩, ⟨_, _, F_great_woodL, g_great_woodL⟩, ⟨_, _, F_kidsL, g_kidsL⟩, ⟨_, _, F_pickL, g_pickL⟩, ⟨_, _, F_oddL, g_oddL⟩, ⟨_, _, F_odd_woodL, g_odd_woodL⟩, ⟨_, _, F_woodL, g_woodL⟩, ⟨_, _, F_wood_and_namesL, g_wood_and_namesL⟩, ⟨_, _, F_some_woodL, g_some_woodL⟩, ⟨_, _, F_is_nameL, g_is_nameL⟩, ⟨_, _, F_reasonL, g_reasonL⟩, ⟨_, _, F_wood_errorL, g_wood_errorL⟩, ⟨_, _, F_is_name, g_is_name⟩, ⟨_, _, F_wood_error, g_wood_error⟩, ⟨_, _, F_law, g_law⟩⟩
  have e := hfa.symm.trans g_law
  cases e
  have b := FunD.bindsA (ps := ["_law_script"]) F_law fun _ _ _ _ _ _ us hl => match us, hl with | [_], _ => rfl
  exact ⟨fd_law, fun s v => b s [v] rfl, fun base _ _ => ok_all T F_law⟩

end Tw
open PySem PySem.W PySem.Calls PyProof.Rows
set_option maxHeartbeats 0 in
theorem PySem.Challenge.cw_twigscripts_k01_what_is_no_wood_holds : PySem.Challenge.rw_twigscripts_k01_what_is_no_wood.Holds := by
  w_on; o_law
  refine HandSHeadRun.head_any (r := OpenLaw.row PySem.Challenge.rw_twigscripts_k01_what_is_no_wood) (q := view (OpenLaw.row PySem.Challenge.rw_twigscripts_k01_what_is_no_wood).prog [25]) (H := Tw.hkD) (ob := Tw.obD) (M := 4000) (loose := Tw.looseD) (d := HandSHeadRun.topDef (OpenLaw.row PySem.Challenge.rw_twigscripts_k01_what_is_no_wood).prog 25) (kwd := []) Tw.obD_eq
    (by kernel_rfl) (fun s => by kernel_rfl) Tw.runD (by kernel_rfl) (by kernel_rfl) (by kernel_rfl) (by rfl) (by first | assumption | decide +kernel) (by decide +kernel) ⟨rfl, rfl, rfl, rfl, rfl, by decide +kernel⟩ ?hw ?hc
  case hw => w_witness2
  case hc =>
    refine Tw.walk_ofG (l := PySem.Challenge.rw_twigscripts_k01_what_is_no_wood) (n := 63) (k := 155) (x := "_law_script") (CX := L2.CX0) rfl (by decide) (by kernel_rfl) ⟨⟨rfl, by decide, by decide⟩, rfl⟩ ?F (fun _ _ _ _ z => z)
    intro w mg fa h Y G hmg0
    obtain ⟨K, KX, c⟩ := Y
    have hmg : mg ("law" : PySem.Str) = some (.ref fa) := by
      have e : (HandSHeadRun.topDef (OpenLaw.row PySem.Challenge.rw_twigscripts_k01_what_is_no_wood).prog 25).name = ("law" : PySem.Str) := by kernel_rfl
      rw [← e]
      exact hmg0
    obtain ⟨fd, hb, hF⟩ := Tw.facts (P := (PySem.Challenge.rw_twigscripts_k01_what_is_no_wood).prog) (w := w) KX G hmg c
    exact ⟨K, fd, Tw.sp_law K, KX, hb, fun H a ns hl _ hS => ⟨a, ns, rfl, hS, hl, fun _ => rfl⟩, hF⟩

